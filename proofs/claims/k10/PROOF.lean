import PyProof.Rows.All
import Wide.All
import OpenK.AllK
import Wide.FinOn
import KE.KStateDown
import HandS.ForMost
import HandS.ForExc
import HandS.Wide
import HandS.SortInts
import HandS.IsInst
import HandS.Conv
import HandS.Zip
import HandS.Defaults
import HandS.HeadEnd
import HandS.Head0
import HandS.Head1
import HandS.Head2
import HandS.HeadHook1
import HandS.HeadHook2
import HandS.HeadHook3
import HandS.ListItems
import HandS.Codes
import HandS.Style
import HandS.Flow
import PySem.Challenge.RW_piecebounds_k10_most_pieces
set_option Elab.async false
set_option linter.all false
set_option maxRecDepth 100000
set_option maxHeartbeats 4000000
namespace PB
open PySem PySem.Spec PyProof.Rows L2

/-! ### defs whose calls happen with no repr under way -/
structure FnG (P : Program) (w : World) (K : PySem.W.Frag) (mg : Str → Option Value) (base : Heap)
    (k : Nat) (f : Addr) (fd : FuncData) (ps : List Str) (sp : Sp) : Prop where
  len : ∀ vs H Q E, sp vs H Q E → vs.length = ps.length
  run : ∀ (A : Around) (outer : List Env) (s : Shared) (H : Hp) (args : Args) (us : List Value)
    (vs : List V) (Q : VK) (E : XK), Room k A → A.guards = some [] →
    Env0 P w K mg base A outer s H → BindsTo s fd args (ps.zip us) → Vals vs us →
    sp vs H Q E → codeAny (model P w) A (.call (.ref f) args) (CR (L2.CX P w) outer P w H s Q E) s

theorem FnG.mono {P : Program} {w : World} {K : PySem.W.Frag} {mg : Str → Option Value} {base : Heap}
    {j k : Nat} {f : Addr} {fd : FuncData} {ps : List Str} {sp : Sp}
    (F : FnG P w K mg base j f fd ps sp) (h : j ≤ k) : FnG P w K mg base k f fd ps sp :=
  ⟨F.len, fun A o s H a us vs Q E hr => F.run A o s H a us vs Q E (hr.mono h)⟩

theorem FnG.of_ok {P : Program} {w : World} {K : PySem.W.Frag} {mg : Str → Option Value} {base : Heap}
    {k : Nat} {f : Addr} {fd : FuncData} {ps : List Str} {sp : Sp}
    (F : FnOk P w K mg base (L2.CX P w) k f fd ps sp) : FnG P w K mg base k f fd ps sp :=
  ⟨F.len, fun A o s H a us vs Q E hr _ => F.run A o s H a us vs Q E hr⟩

/-- from the def's body, as the layer has it, with the knowledge that nothing is being shown -/
theorem okG {P : Program} {w : World} {K : PySem.W.Frag} {mg : Str → Option Value} {base : Heap}
    {x qual : Str} {params : Arguments} {body : List Stmt} {scope : Scope} {dvs : List V}
    {kws : List (Str × V)} {f : Addr} {fd : FuncData} {N ps : List Str} {k : Nat} {sp : Sp}
    (F : FunD K x qual params body scope dvs kws f fd) (S : FnScope N ps scope)
    (len : ∀ vs H Q E, sp vs H Q E → vs.length = ps.length)
    (hb : ∀ (cdv : Value) (A : Around) (outer : List Env) (s : Shared) (H : Hp) (vs : List V) (Q : VK)
      (E : XK), Room k (A.deeper (envOfC qual scope s.heap.objs.size f cdv)) → A.guards = some [] →
      sp vs H Q E → ∃ t, PSs (cxOf (L2.CX P w) P w K mg base N qual scope f cdv A outer s H E) body t ∧
        t { nx := fun _ H' => Q .non H', rt := Q } (start N vs) H) :
    FnG P w K mg base (k + 1) f fd ps sp := by
  obtain ⟨oc, od, dV, kV, doc, pm, an, cd, ct, osl, rfl, lk, hcd, _, _⟩ := F.ex
  refine ⟨len, fun A outer s H args us vs Q E hr hgd e0 hbi r hsp => ?_⟩
  have hl := len _ _ _ _ hsp
  have KX : K.In s.heap := e0.mod.kin.keeps fun b o e =>
    (e0.bs b o e).1
  have lim : s.heap.NoLimit := e0.mod.nolimit.keeps fun b o e =>
    (e0.bs b o e).1
  have hkind : ∀ y ∈ ps.zip us, scope.names.lookup y.1 = some .local ∨ (scope.names.lookup y.1 = some .cell ∧
      ((cellsFrom (s.heap.objs.size + 1) scope.names []).lookup y.1).isSome = true) := fun ⟨n, v⟩ hy => by
    rcases S.par n (List.of_mem_zip hy).1 with q | q
    · exact .inl q
    · exact .inr ⟨q, PySem.W.cellsFrom_some _ _ _ (.inl q)⟩
  refine codeAny_call_function hr.depth (KX _ _ lk) rfl S.co S.gen rfl
    (PySem.W.codeRec_of KX hcd) (hbi _ _ _ _ ?_)
  refine wpAny_newFunctionEnv_cells S.kind hkind fun env he s1 x => ?_
  subst he
  refine ⟨lim.keeps x.toInCall.keep, codeAny_func ?_⟩
  obtain ⟨t, ht, hq⟩ := hb cd A outer s H vs Q E (hr.deeper _) hgd hsp
  have I : Inv (cxOf (L2.CX P w) P w K mg base N qual scope f cd A outer s H E) [] (start N vs) H s1 :=
    inv_start S hr.hd e0 hl r x
  refine wpAny_mono (ht.run [] s1 (start N vs) H _ I hq) (fun fl s' hs => ?_) (fun e s' hs => hs)
  have fin : ∀ {σ' : L2.St} {H' : Hp} {v : V} {u : Value},
      Inv (cxOf (L2.CX P w) P w K mg base N qual scope f cd A outer s H E) [] σ' H' s' → RelV v u → Q v H' →
      CE outer P w H s Q u s' := fun {σ' H' v u} J rv q =>
    ⟨v, H', J.os, J.bare, J.base, J.hok, rv, q⟩
  match fl, hs with
  | .ret u, hs =>
    obtain ⟨v, σ', H', J, rv, q⟩ := hs
    exact fin J rv q
  | .next, hs =>
    obtain ⟨σ', H', J, q⟩ := hs
    exact fin (v := V.non) (u := Value.none) J rfl q
  | .brk, hs =>
    obtain ⟨_, _, _, q⟩ := hs
    exact q.elim
  | .cont, hs =>
    obtain ⟨_, _, _, q⟩ := hs
    exact q.elim

/-- a def by its name -/
structure Fn (P : Program) (w : World) (K : PySem.W.Frag) (mg : Str → Option Value) (base : Heap)
    (k : Nat) (x : Str) (ps : List Str) (sp : Sp) : Prop where
  ex : ∃ (f : Addr) (fd : FuncData), mg x = some (.ref f) ∧ PySem.W.keepIn K (.ref f) = true ∧
    Binds K fd ps [] ∧ FnG P w K mg base k f fd ps sp

section
variable {X : Cx} {k : Nat} {f C : Addr} {fd : FuncData} {ps : List Str} {sp : Sp} {E : XK} {x : Str}
variable {p pos : Pos} {e : Expr} {es : List Expr} {t : TA}

theorem run_fnG {pins : List (Addr × Obj)} {σ : L2.St} {H : Hp} {s : Shared} {Q : VK} {us : List Value}
    {vs : List V} (F : FnG X.prog X.w X.K X.mg X.base k f fd ps sp) (hr : Room k X.A)
    (hgd : X.A.guards = some []) (hb : Binds X.K fd ps []) (hx : Passes (L2.CX X.prog X.w) X E)
    (I : Inv X pins σ H s) (r : Vals vs us) (h : sp vs H Q E) :
    wpAny (model X.prog X.w) X.A (call (.ref f) us) (EP X pins σ Q) X.xe s := by
  have hl : us.length = ps.length := by
    rw [← r.length]
    exact F.len _ _ _ _ h
  have hb2 := hb s us I.kIn (by rw [List.append_nil]; exact hl)
  rw [List.append_nil] at hb2
  refine wpAny_call (codeAny_mono (F.run X.A X.stack s H ⟨us, []⟩ us vs Q E hr hgd I.env0 hb2 r h)
    fun r s' hq => ?_)
  match r, hq with
  | .error e, hq => exact hx pins σ H s e s' I hq
  | .ok (.ret u), hq => exact I.after hq
  | .ok .next, hq => exact hq.elim
  | .ok .brk, hq => exact hq.elim
  | .ok .cont, hq => exact hq.elim

/-- f(e, ..) -/
theorem pe_fn (G : Fn X.prog X.w X.K X.mg X.base k x ps sp) (hr : Room k X.A)
    (hgd : X.A.guards = some []) (hg : Gl X x) (hx : Passes (L2.CX X.prog X.w) X E)
    (ha : PA X (e :: es) t) (hdb : (x == ("__debug__" : Str)) = false := by decide)
    (he : starEach (e :: es) X.env = (false, eval e X.env) :: starEach es X.env := by rfl)
    (hpl : (backTo pos (starEach es X.env)).any (·.1) = false := by rfl) :
    PE X (.Call (.Name x p) (e :: es) [] pos) (tCall sp [] E t) := by
  obtain ⟨f, fd, hm, hk, hb, F⟩ := G.ex
  refine ⟨fun pins s σ H Q I h => wpAny_Call_Name_kw (ld_glob I hg hm ?_ hdb)⟩
  refine PySem.W.callWith_K (h₀ := X.base) I.ok.mod.kin hk
    (thn (ha.run pos pins s σ H _ I h) fun us s1 ⟨vs, H1, I1, r, q⟩ => ⟨I1.kIn, ?_⟩) he hpl
  have q' : sp (vs ++ []) H1 Q E := q
  rw [List.append_nil] at q'
  exact run_fnG F hr hgd hb hx I1 r q'
end

/-! ### the law's own call, at the caller's place alone -/
theorem law_callG {P : Program} {w : World} {K : PySem.W.Frag} {mg mb : Str → Option Value} {k : Nat}
    {fa a : Addr} {fd : FuncData} {x : Str} {sp : Sp} {z : Shared} {vs : List Value} {ns : List Int}
    (KX : K.In z.heap) (hns : z.heap.Ns mainGlobals mg) (hb : z.heap.Ns builtinsNs mb)
    (hbb : ∀ x : Str, x ≠ "__name__" → mb x = bootBuiltins x) (hlim : z.heap.NoLimit) (hg : z.gens = #[])
    (ha : z.heap.get? a = some { cls := .type "list", data := .seq vs.toArray })
    (hi : IntsAre vs ns) (hl : ns.length ≤ sizeLine) (hr : Room k callerA)
    (F : ∀ base : Heap, K.In base → base.Ns mainGlobals mg → FnG P w K mg base k fa fd [x] sp)
    (hbind : ∀ (s : Shared) (u : Value), BindsTo s fd ⟨[u], []⟩ [(x, u)])
    (hsp : ∀ H : Hp, SqL K H a (ns.map V.int) →
      sp [.ref a] H (fun v _ => v = .bl true) fun _ _ _ => False) :
    codeAny (model P w) callerA (.call (.ref fa) ⟨[.ref a], []⟩)
      (fun r s' => r = .ok (.ret (.bool true)) ∧ OldK z.heap s'.heap ∧ s'.os = z.os ∧ AllBare s'.gens) z := by
  have rv := vals_ints hi
  have lenV := hi.length
  have core : ∀ H : Hp, Only H → SqL K H a (ns.map V.int) → HOk P w H z.heap →
      (∀ b, H b ≠ none → b = a) → (H a ≠ none → K.lookup a = none) →
      codeAny (model P w) callerA (.call (.ref fa) ⟨[.ref a], []⟩)
        (fun r s' => r = .ok (.ret (.bool true)) ∧ OldK z.heap s'.heap ∧ s'.os = z.os ∧ AllBare s'.gens) z := by
    intro H hO hS hok hA hK
    have noA : ∀ {b : Addr} {o : Obj} {es : Array DictEntry} {ep : Nat}, z.heap.get? b = some o →
        o.data = .dict es ep → H b = none := fun {b o es ep} e d => by
      cases q : H b with
      | none => rfl
      | some u =>
        obtain rfl : b = a := hA b (by simp [q])
        rw [ha] at e
        cases e
        cases (show Data.seq vs.toArray _ = Data.dict es ep from d)
    have nsK : ∀ {b : Addr} {m : Str → Option Value}, z.heap.Ns b m → (hidT z.heap H).Ns b m :=
      fun {b m} ⟨o, es, ep, e, d, r⟩ => ⟨o, es, ep, hidT_get e (noA e d), d, r⟩
    have hKb : K.In (hidT z.heap H) := fun b o e => hidT_get (KX b o e) (by
      cases q : H b with
      | none => rfl
      | some u =>
        obtain rfl : b = a := hA b (by simp [q])
        rw [hK (by simp [q])] at e
        cases e)
    have hM : Mod K mg (hidT z.heap H) :=
      ⟨hKb, nsK hns, ⟨mb, nsK hb, hbb⟩, let ⟨mc, h1, h2⟩ := hlim; ⟨mc, nsK h1, h2⟩⟩
    have e0 : Env0 P w K mg (hidT z.heap H) callerA [] z H :=
      ⟨rfl, hM, fun b o e => of_hidT e, Nat.le_of_eq (hidT_size _ _), trivial,
        fun b hb => absurd (show b ∈ ([] : List Addr) from hb) (by simp), hok, .of_eq hg⟩
    refine codeAny_mono ((F _ hKb (nsK hns)).run callerA [] z H ⟨[.ref a], []⟩ [.ref a] [.ref a] _ _ hr rfl e0
      (hbind z (.ref a)) (.cons rfl .nil) (hsp H hS)) fun r s' h => ?_
    match r, h with
    | .error e, h =>
      obtain ⟨_, _, _, _, _, _, _, _, _, _, _, _, q⟩ := h
      exact q.elim
    | .ok .next, h => exact h.elim
    | .ok .brk, h => exact h.elim
    | .ok .cont, h => exact h.elim
    | .ok (.ret u), h =>
      obtain ⟨v, H', os, bare, un, hok', r', q⟩ := h
      obtain rfl : v = .bl true := q
      obtain rfl : u = Value.bool true := r'
      refine ⟨rfl, OldK.of_keep fun b o e => ?_, os, bare⟩
      cases q : H b with
      | none =>
        exact un.keep b o e q (fun y => absurd (show b ∈ ([] : List Addr) from y) (by simp)) (by simp)
      | some u =>
        rcases hO b with y | ⟨ob, xs, y⟩
        · rw [q] at y
          cases y
        · obtain ⟨e1, _⟩ := hok b _ y
          obtain ⟨e2, _⟩ := hok' b _ (un.frzs b ob _ y)
          rw [e] at e1
          cases e1
          exact e2
  cases hk : K.lookup a with
  | some o =>
    have e := KX a o hk
    rw [ha] at e
    cases e
    refine core (fun _ => none) (fun _ => .inl rfl) (.inr ⟨_, vs.toArray, _, hk, rfl, rfl, rfl, ?_, by simpa using rv⟩)
      (fun b u q => by cases (show (none : Option HO) = some u from q)) (fun b q => absurd rfl q) fun q => absurd rfl q
    rw [List.size_toArray, lenV]
    exact hl
  | none =>
    let oS : Obj := { cls := .type "list", data := .seq vs.toArray }
    let HS : Hp := fun b => if b = a then some (.frz oS (.lst (ns.map V.int))) else none
    have hS : HS a = some (.frz oS (.lst (ns.map V.int))) := if_pos rfl
    have hN : ∀ b, b ≠ a → HS b = none := fun b hb => if_neg hb
    refine core HS (fun b => ?_) (.inl (.inr ⟨oS, hS⟩)) (fun b u q => ?_) (fun b q => ?_) fun _ => hk
    · by_cases hb : b = a
      · exact .inr ⟨_, _, by rw [hb]; exact hS⟩
      · exact .inl (hN b hb)
    · by_cases hb : b = a
      · subst hb
        rw [hS] at q
        cases q
        exact ⟨ha, by rw [List.length_map]; exact hl, vs, _, rv, ha⟩
      · rw [hN b hb] at q
        cases q
    · by_cases hb : b = a
      · exact hb
      · exact absurd (hN b hb) q

/-- a law's end over a head by facts -/
theorem walk_ofG {l : PySem.W.OpenLaw} {n k : Nat} {q : Program} {loose : List Str}
    {XP : (Str → Option Value) → Heap → Prop} {YP : World → Heap → Prop} {d : DefRec} {x : Str}
    (hn : l.most = some n) (hn2 : n ≤ sizeLine) (hdf : d.params.defaults = []) (hr : Room k callerA)
    (F : ∀ (w : World) (mg : Str → Option Value) (fa : Addr) (h : Heap), YP w h → h.Ns mainGlobals mg →
      mg d.name = some (.ref fa) → ∃ (K : PySem.W.Frag) (fd : FuncData) (sp : Sp), K.In h ∧
        (∀ (s : Shared) (u : Value), BindsTo s fd ⟨[u], []⟩ [(x, u)]) ∧
        (∀ (H : Hp) (a : Addr) (ns : List Int), ns.length ≤ n → SqL K H a (ns.map V.int) →
          sp [.ref a] H (fun v _ => v = .bl true) fun _ _ _ => False) ∧
        ∀ base : Heap, K.In base → base.Ns mainGlobals mg → FnG l.prog w K mg base k fa fd [x] sp) :
    PySem.W.WalkO q loose XP YP l.row.toRowW d [] (fun f vs => PySem.call f vs) := by
  refine Att.attach_call hn hdf fun w s₀ z mg mb fa o pm cd doc a vs ns G Y ho hd hcd hmg hobj hints hlen hg => ?_
  obtain ⟨K, fd, sp, KX, hb, hsp, hF⟩ := F w mg fa _ Y G.T.g hmg
  exact law_callG KX G.T.g G.T.b G.T.builtins G.T.nolimit hg hobj hints (Nat.le_trans hlen hn2) hr hF hb
    (fun H hS => hsp H a ns hlen hS)

/-! ### repr of data -/
section
variable {X : Cx}
def rRepr (K : PySem.W.Frag) : List V → Hp → VK → Prop := fun xs H Q => ∃ (x : V) (d : PyData),
  xs = [x] ∧ Dp K H x d ∧ d.showable = true ∧ d.hasDict = false ∧ d.depth ≤ 60 ∧
  d.shown.length ≤ sizeLine ∧ Q (.str d.shown) H
theorem call_reprD (hgd : X.A.guards = some []) (hu : X.A.units + 64 < cLine) :
    CallR X (.builtin "repr") (rRepr X.K) := by
  intro pins s σ H xs us Q I r h
  obtain ⟨x, d, rfl, hd, hs, hn, hdp, hz, q⟩ := h
  obtain ⟨u, rfl, rx⟩ := vals1 r
  have key : ∀ a, x = .ref a → wpAny (model X.prog X.w) X.A (call (.builtin "repr") [u]) (EP X pins σ Q) X.xe s := fun a ea => by
    subst ea
    have e : u = .ref a := rx
    subst e
    obtain ⟨as, rd⟩ := Dp.reads I d _ _ hd rx
    exact repr_of_reads' rd hs (fun y => by rw [hn] at y; cases y) hgd (by omega) (fun b o e => e)
      (fun h' u tk hk => ⟨.str d.shown, H, I.kept hk, ⟨_, rfl⟩, q⟩) hz
  cases hd with
  | non =>
    cases rx
    exact PySem.P.repr_of_none ⟨.str _, H, I.tok _, ⟨_, rfl⟩, q⟩
  | bl b =>
    cases rx
    exact PySem.P.repr_of_bool ⟨.str _, H, I.tok _, ⟨_, rfl⟩, by
      rw [PyData.shown] at q
      cases b <;> exact q⟩
  | int i =>
    obtain ⟨t, rfl⟩ := rx
    have hi : i.natAbs.log2 < 1920 := by simpa [PyData.showable] using hs
    exact PySem.P.repr_of_int hi ⟨.str _, H, I.tok _, ⟨_, rfl⟩, q⟩
  | str y =>
    obtain ⟨t, rfl⟩ := rx
    exact PySem.P.repr_of_str ⟨.str _, H, I.tok _, ⟨_, rfl⟩, q⟩ hz
  | lst h1 h2 => exact key _ rfl
  | tup h1 h2 => exact key _ rfl
end
end PB

namespace PB
open PySem PySem.Spec PyProof.Rows L2

/-! ### list(enumerate(xs)): the tuples given out are all held -/
/-- an enumerate whose last tuple stands somewhere -/
abbrev EnHeld (h : Heap) (e it : Addr) (i : Int) (item : Value) (a : Addr) (f : Bool) : Prop :=
  h.get? e = some (Obj.mk (.type "enumerate") none
    (.fields #[rawInt a, .bool f, .ref it, rawInt i, .none, item]) #[])

def EnSt (h : Heap) (e it l S : Addr) (i : Nat) : Prop := h.IsListIter it l i ∧
  ((∃ old, IsEnum h e it i old) ∨ ∃ item a f oa, EnHeld h e it i item a f ∧ h.get? a = some oa ∧
    a ≠ e ∧ a ≠ it ∧ a ≠ S)
theorem EnSt.keep {h h' : Heap} {e it l S : Addr} {i : Nat} (x : EnSt h e it l S i)
    (hk : ∀ b o, b ≠ S → h.get? b = some o → h'.get? b = some o) (h1 : e ≠ S) (h2 : it ≠ S) :
    EnSt h' e it l S i := by
  obtain ⟨⟨o, ho, r⟩, x⟩ := x
  refine ⟨⟨o, hk _ _ h2 ho, r⟩, ?_⟩
  rcases x with ⟨old, y⟩ | ⟨item, a, f, oa, y, z, n1, n2, n3⟩
  · exact .inl ⟨old, hk _ _ h1 y⟩
  · exact .inr ⟨item, a, f, oa, hk _ _ h1 y, hk _ _ n3 z, n1, n2, n3⟩

section
variable {prog : Program} {w : World} {A : Around} {E : Value → Shared → Prop} {s : Shared}
theorem en_alive {a : Addr} {o : Obj} {Q : Option Obj → Shared → Prop} (ho : s.heap.get? a = some o)
    (h : Q (some o) s) : wpAny (model prog w) A (loadIfAlive a) Q E s := by
  have h' : Q (s.heap.get? a) s := by
    rw [ho]
    exact h
  exact fun _ _ _ => h'

theorem en_next_held {e it l a : Addr} {f : Bool} {oa : Obj} {i : Nat} {items : Array Value}
    {x item : Value} {Q : Value → Shared → Prop} (he : EnHeld s.heap e it i item a f)
    (ha : s.heap.get? a = some oa) (hae : a ≠ e) (hai : a ≠ it)
    (hit : s.heap.IsListIter it l i) (hl : s.heap.IsList l items) (hx : items[i]? = some x) (hne : e ≠ it)
    (hQ : ∀ h', EnHeld h' e it ((i : Int) + 1) item a true → h'.IsListIter it l (i + 1) →
      h'.get? s.heap.objs.size = some { cls := .type "tuple", data := .seq #[.int i s.toks, x] } →
      h'.objs.size = s.heap.objs.size + 1 →
      (∀ b o, b ≠ e → b ≠ it → s.heap.get? b = some o → h'.get? b = some o) →
      Q (.ref s.heap.objs.size) { s with heap := h', toks := s.toks + 1 }) :
    wpAny (model prog w) A (Builtin.«enumerate.__next__» ⟨[.ref e], []⟩)
      (fun fin s' => ∃ v, fin = .done (.ret v) ∧ Q v s') E s := by
  obtain ⟨hp, g, d, tk, os⟩ := s
  show wpAny _ _ (field (.ref e) 2 >>= _) _ _ _
  refine wpAny_bind (wpAny_field he rfl (x := .ref it) rfl ?_)
  refine wpAny_bind (wpAny_nextOf_list_item hit hl hx fun h₁ hit₁ hs₁ => ?_)
  replace hs₁ : Heap.SameBut it hp h₁ := hs₁
  have he₁ : EnHeld h₁ e it i item a f := (hs₁.2 e hne).trans he
  show wpAny _ _ (field (.ref e) 3 >>= _) _ _ ⟨h₁, g, d, tk, os⟩
  refine wpAny_bind (wpAny_field he₁ rfl (x := rawInt i) rfl ?_)
  show wpAny _ _ (field (.ref e) 4 >>= _) _ _ ⟨h₁, g, d, tk, os⟩
  refine wpAny_bind (wpAny_field he₁ rfl (x := .none) rfl ?_)
  show wpAny _ _ (mkInt i >>= _) _ _ ⟨h₁, g, d, tk, os⟩
  refine wpAny_bind (wpAny_mkInt ?_)
  show wpAny _ _ (setField (.ref e) 3 (rawInt ((i : Int) + 1)) >>= _) _ _
    ⟨h₁, g, d, tk + 1, os⟩
  refine wpAny_bind (wpAny_setField_rec he₁ (by simp) fun h₂ he₂ hs₂ => ?_)
  replace hs₂ : Heap.SameBut e h₁ h₂ := hs₂
  replace he₂ : EnHeld h₂ e it ((i : Int) + 1) item a f := he₂
  show wpAny _ _ (setField (.ref e) 4 .none >>= _) _ _
    ⟨h₂, g, d, tk + 1, os⟩
  refine wpAny_bind (wpAny_setField_rec he₂ (by simp) fun h₃ he₃ hs₃ => ?_)
  replace hs₃ : Heap.SameBut e h₂ h₃ := hs₃
  replace he₃ : EnHeld h₃ e it ((i : Int) + 1) item a f := he₃
  show wpAny _ _ (newTuple [.int i tk, x] >>= _) _ _ ⟨h₃, g, d, tk + 1, os⟩
  refine wpAny_bind (wpAny_newTuple ?_)
  have he₄ : EnHeld (h₃.push { cls := .type "tuple", data := .seq #[.int i tk, x] }) e it
    ((i : Int) + 1) item a f := Heap.get?_push_of_some _ he₃
  generalize hh₄ : h₃.push { cls := .type "tuple", data := .seq #[.int i tk, x] } = h₄ at he₄
  have hsz : h₃.objs.size = hp.objs.size := by
    rw [hs₃.1, hs₂.1, hs₁.1]
  have hel : e < hp.objs.size := Heap.lt_size he
  have ht₄ : h₄.get? hp.objs.size = some { cls := .type "tuple", data := .seq #[.int i tk, x] } := by
    rw [← hh₄, ← hsz]
    exact Heap.get?_push_size _ rfl
  have hz₄ : h₄.objs.size = hp.objs.size + 1 := by
    rw [← hh₄, Heap.size_push, hsz]
  have hk₄ : ∀ b o, b ≠ e → b ≠ it → hp.get? b = some o → h₄.get? b = some o := fun b o hbe hbi hb => by
    rw [← hh₄]
    exact Heap.get?_push_of_some _ (hs₃.extBut b o hbe (hs₂.extBut b o hbe (hs₁.extBut b o hbi hb)))
  have hit₄ : h₄.IsListIter it l (i + 1) := by
    rw [← hh₄]
    obtain ⟨o, ho, r⟩ := (hit₁.extBut hs₂.extBut (Ne.symm hne)).extBut hs₃.extBut (Ne.symm hne)
    exact ⟨o, Heap.get?_push_of_some _ ho, r⟩
  show wpAny _ _ (Builtin.SmallTypes.ownedTupleIsFree (.ref e) >>= _) _ _
    ⟨h₄, g, d, tk + 1, os⟩
  rw [hsz]
  have ha₄ : h₄.get? a = some oa := hk₄ a oa hae hai ha
  clear hh₄ he₃ hs₃ he₂ hs₂ he₁ hs₁ hit₁ hsz h₃ h₂ h₁
  refine wpAny_bind ?_
  unfold Builtin.SmallTypes.ownedTupleIsFree
  refine wpAny_bind (wpAny_field he₄ rfl (x := rawInt a) rfl ?_)
  show wpAny _ _ (loadIfAlive ((a : Int).toNat) >>= _) _ _ _
  rw [Int.toNat_natCast]
  refine wpAny_bind (en_alive ha₄ ?_)
  simp only [Option.isNone_some, Bool.false_eq_true, if_false]
  refine wpAny_bind (wpAny_field he₄ rfl (x := .bool f) rfl ?_)
  have fin : ∀ h₅ : Heap, EnHeld h₅ e it ((i : Int) + 1) item a true → Heap.SameBut e h₄ h₅ →
      Q (.ref hp.objs.size) ⟨h₅, g, d, tk + 1, os⟩ := fun h₅ he₅ hs₅ => by
    refine hQ h₅ he₅ (hit₄.extBut hs₅.extBut (Ne.symm hne)) (hs₅.extBut _ _ (Nat.ne_of_gt hel) ht₄) ?_ ?_
    · show h₅.objs.size = hp.objs.size + 1
      rw [hs₅.1, hz₄]
    · exact fun b o hb hb2 e => hs₅.extBut b o hb (hk₄ b o hb hb2 e)
  cases f with
  | true =>
    rw [if_neg (show ¬ ((Value.bool true != Value.bool true) = true) from Bool.false_ne_true)]
    refine wpAny_pure ?_
    simp only [Bool.false_eq_true, if_false]
    exact wpAny_pure ⟨_, rfl, fin h₄ he₄ (Heap.SameBut.refl _ _)⟩
  | false =>
    rw [if_pos (show (Value.bool false != Value.bool true) = true from rfl)]
    refine wpAny_bind (wpAny_setField_rec he₄ (by simp) fun h₅ he₅ hs₅ => ?_)
    replace hs₅ : Heap.SameBut e h₄ h₅ := hs₅
    replace he₅ : EnHeld h₅ e it ((i : Int) + 1) item a true := he₅
    refine wpAny_pure ?_
    simp only [Bool.false_eq_true, if_false]
    exact wpAny_pure ⟨_, rfl, fin h₅ he₅ hs₅⟩

theorem en_pyNext_held {e it l a : Addr} {f : Bool} {oa : Obj} {i : Nat} {items : Array Value}
    {x item : Value} {Q : Option Value → Shared → Prop} (he : EnHeld s.heap e it i item a f)
    (ha : s.heap.get? a = some oa) (hae : a ≠ e) (hai : a ≠ it)
    (hit : s.heap.IsListIter it l i) (hl : s.heap.IsList l items) (hx : items[i]? = some x) (hne : e ≠ it)
    (hQ : ∀ h', EnHeld h' e it ((i : Int) + 1) item a true → h'.IsListIter it l (i + 1) →
      h'.get? s.heap.objs.size = some { cls := .type "tuple", data := .seq #[.int i s.toks, x] } →
      h'.objs.size = s.heap.objs.size + 1 →
      (∀ b o, b ≠ e → b ≠ it → s.heap.get? b = some o → h'.get? b = some o) →
      Q (some (.ref s.heap.objs.size)) { s with heap := h', toks := s.toks + 1 }) :
    wpAny (model prog w) A (pyNext (.ref e)) Q E s := by
  have hT : s.TypeIs (.ref e) "enumerate" := ⟨_, he, rfl⟩
  unfold pyNext
  refine wpAny_bind (wpAny_attempt (wpAny_callSpecial?_slot (name := Str.ofString "__next__") hT F.slot_enumerate_next
    (wpAny_call_entry F.slot_enumerate_next hT F.entry_enumerate_next ?_ (F.args_enumerate_next_1 _))))
  refine en_next_held he ha hae hai hit hl hx hne fun h' a1 a2 a3 a4 a5 => ?_
  exact wpAny_pure (hQ h' a1 a2 a3 a4 a5)

theorem en_pyNext_held_end {e it l a : Addr} {f : Bool} {i : Nat} {items : Array Value} {item : Value}
    {Q : Option Value → Shared → Prop} (hh : A.handled = none) (he : EnHeld s.heap e it i item a f)
    (hit : s.heap.IsListIter it l i) (hl : s.heap.IsList l items) (hx : items[i]? = none)
    (hQ : ∀ h', Heap.ExtBut it s.heap h' → Q none { s with heap := h' }) :
    wpAny (model prog w) A (pyNext (.ref e)) Q E s := by
  have hT : s.TypeIs (.ref e) "enumerate" := ⟨_, he, rfl⟩
  unfold pyNext
  refine wpAny_bind (wpAny_attempt (wpAny_callSpecial?_slot (name := Str.ofString "__next__") hT F.slot_enumerate_next
    (wpAny_call_entry F.slot_enumerate_next hT F.entry_enumerate_next ?_ (F.args_enumerate_next_1 _))))
  show wpAny _ _ (field (.ref e) 2 >>= _) _ _ _
  refine wpAny_bind (wpAny_field he rfl (x := .ref it) rfl ?_)
  refine wpAny_bind (wpAny_nextOf_list_end hh hit hl hx fun h' x he' hx' => ?_)
  refine wpAny_bind (wpAny_isInstance (T := "StopIteration") (b := true) hx' isSubtype_stop ?_)
  exact wpAny_pure (hQ h' he')
end

/-! ### the items as pairs of their place and themselves -/
def enV {α : Type} : Nat → List α → List (Key × α)
  | _, [] => []
  | i, x :: xs => (Sum.inl (i : Int), x) :: enV (i + 1) xs
theorem enV_len {α : Type} : ∀ (xs : List α) (i : Nat), (enV i xs).length = xs.length
  | [], _ => rfl
  | _ :: xs, i => congrArg Nat.succ (enV_len xs (i + 1))
theorem enV_get {α : Type} : ∀ (xs : List α) (i j : Nat), (enV i xs)[j]? = xs[j]?.map fun x => (Sum.inl ((i + j : Nat) : Int), x)
  | [], _, _ => rfl
  | x :: xs, i, 0 => rfl
  | x :: xs, i, j + 1 => by
    show (enV (i + 1) xs)[j]? = _
    rw [enV_get xs (i + 1) j, show i + 1 + j = i + (j + 1) by omega]
    rfl
theorem enV_kv : ∀ (xs : List V) (us : List Value) (i : Nat), Vals xs us → KV (enV i xs) (enV i us)
  | _, _, _, .nil => .nil
  | _, _, i, .cons r t => .cons ⟨rfl, r⟩ (enV_kv _ _ (i + 1) t)

section
variable {prog : Program} {w : World} {A : Around} {s : Shared} {R : Result → Shared → Prop} {items : Array Value}
abbrev EnG (prog : Program) (w : World) (items : Array Value) (lo : Addr) (h : Heap) (as : List Addr) : Prop :=
  PySem.W.KdxG (mixKind prog w) (enV 0 items.toList) lo h as

theorem en_loop {S I it l : Addr} (hh : A.handled = none) (hIS : I < S) (hSit : it ≠ S) (hlS : l ≠ S) (hlI : l ≠ I)
    (hlit : l ≠ it) (hIit : I ≠ it) (hitS : it < S) (hn : items.size ≤ sizeLine) (res : Value) {h₁ : Heap}
    (hR : ∀ h' tk acc c as, (∀ b o, b ≠ S → b ≠ I → b ≠ it → h₁.get? b = some o → h'.get? b = some o) →
      h'.get? S = some { cls := .type "list", dict := none, data := .seq acc c, slots := #[] } →
      as.length = items.size → EnG prog w items S h' as → acc.toList = as.map Value.ref →
      R (.ok (.ret res)) { s with heap := h', toks := tk }) :
    ∀ (k i : Nat) (h : Heap) (tk c : Nat) (acc : Array Value) (as : List Addr), items.size - i = k →
      i ≤ items.size → EnSt h I it l S i → h.IsList l items →
      (∀ b o, b ≠ S → b ≠ I → b ≠ it → h₁.get? b = some o → h.get? b = some o) →
      h.get? S = some { cls := .type "list", dict := none, data := .seq acc c, slots := #[] } →
      acc.toList = as.map Value.ref → as.length = i → EnG prog w items S h as →
      codeAny (model prog w) A (.builtin "list.extend.loop" ⟨[.ref S, .ref I, res], []⟩) R
        { s with heap := h, toks := tk } := by
  have hne : S ≠ I := Nat.ne_of_gt hIS
  intro k
  induction k with
  | zero =>
    intro i h tk c acc as hk hi hst hl hkeep hS hacc hal hG
    have hin : i = items.size := by omega
    refine codeAny_builtin PySem.F.entry_extend_loop ?_
    rw [Around.under_plainId PySem.F.plain_extend_loop _]
    show wpAny _ A.in1 (pyNext (.ref I) >>= _) _ _ _
    have hx : items[i]? = none := Array.getElem?_eq_none (by omega)
    have fin : ∀ h' : Heap, Heap.ExtBut it h h' → R (.ok (.ret res)) { s with heap := h', toks := tk } := fun h' he => by
      refine hR h' tk acc c as (fun b o h1 h2 h3 e => he b o h3 (hkeep b o h1 h2 h3 e)) (he S _ (Ne.symm hSit) hS) (by omega)
        ⟨hG.rise, hG.above, fun j a hj => ?_⟩ hacc
      obtain ⟨key, kk, x, e1, e2, e3⟩ := hG.pairs j a hj
      refine ⟨key, kk, x, e1, e2, he a _ ?_ e3⟩
      have := hG.above a (List.mem_of_getElem? hj)
      exact Nat.ne_of_gt (Nat.lt_trans hitS this)
    rcases hst.2 with ⟨old, he⟩ | ⟨item, a, f, oa, he, ha, n1, n2, n3⟩
    · refine wpAny_bind (wpAny_pyNext_enum_end (s := { s with heap := h, toks := tk }) (A := A.in1) hh he hst.1 hl hx fun h' e => ?_)
      exact wpAny_pure (fin h' e)
    · refine wpAny_bind (en_pyNext_held_end (s := { s with heap := h, toks := tk }) (A := A.in1) hh he hst.1 hl hx fun h' e => ?_)
      exact wpAny_pure (fin h' e)
  | succ k ih =>
    intro i h tk c acc as hk hi hst hl hkeep hS hacc hal hG
    have hlt : i < items.size := by omega
    have hx : items[i]? = some items[i] := Array.getElem?_eq_getElem hlt
    generalize items[i] = x at hx
    have hsz : acc.size = i := by rw [← Array.length_toList, hacc, List.length_map, hal]
    have hSl : S < h.objs.size := Heap.lt_size hS
    refine codeAny_builtin PySem.F.entry_extend_loop ?_
    rw [Around.under_plainId PySem.F.plain_extend_loop _]
    show wpAny _ A.in1 (pyNext (.ref I) >>= _) _ _ _
    have fin : ∀ h' : Heap, EnSt h' I it l S (i + 1) →
        h'.get? h.objs.size = some { cls := .type "tuple", data := .seq #[.int i tk, x] } →
        h'.objs.size = h.objs.size + 1 → (∀ b o, b ≠ I → b ≠ it → h.get? b = some o → h'.get? b = some o) →
        wpAny (model prog w) A.in1 (updateSeq S (·.push (Value.ref h.objs.size)) >>= fun _ =>
          again (.builtin "list.extend.loop" ⟨[.ref S, .ref I, res], []⟩))
          (fun fin s' => match fin with | .done f => R (.ok f) s' | .again c' => c'.quiet = true ∧ codeAny (model prog w) A c' R s')
          (fun e s' => R (.error e) s') { s with heap := h', toks := tk + 1 } := fun h' hst' ht hz hkp => by
      have hS' := hkp S _ hne (Ne.symm hSit) hS
      have up : ∀ b o, b ≠ S → h'.get? b = some o → (h'.update S (Obj.mapSeq (·.push (Value.ref h.objs.size)))).get? b = some o :=
        fun b o hb e => (Heap.get?_update_other _ _ (Ne.symm hb)).trans e
      have hl' : h'.IsList l items := hl.at fun o e => hkp l o hlI hlit e
      refine wpAny_bind (wpAny_updateSeq hS' rfl (wpAny_pure ⟨plainId_quiet PySem.F.plain_extend_loop _,
        ih (i + 1) _ (tk + 1) _ (acc.push (Value.ref h.objs.size)) (as ++ [h.objs.size]) (by omega) hlt
          (hst'.keep up (Ne.symm hne) hSit) (hl'.at fun o e => up l o hlS e)
          (fun b o h1 h2 h3 e => up b o h1 (hkp b o h2 h3 (hkeep b o h1 h2 h3 e))) (Heap.get?_update_self _ hS' rfl)
          (by rw [Array.toList_push, hacc, List.map_append]; rfl) (by rw [List.length_append, hal]; rfl) ⟨?_, ?_, ?_⟩⟩) ?_)
      · refine List.pairwise_append.mpr ⟨hG.rise, List.pairwise_singleton _ _, fun a ha b hb => ?_⟩
        rw [List.mem_singleton.mp hb]
        exact hG.there ha
      · intro a ha
        rcases List.mem_append.mp ha with ha | ha
        · exact hG.above a ha
        · rw [List.mem_singleton.mp ha]
          exact hSl
      · intro j b hj
        rcases Nat.lt_trichotomy j as.length with h1 | h1 | h1
        · rw [List.getElem?_append_left h1] at hj
          obtain ⟨key', k', x', e1, e2, e3⟩ := hG.pairs j b hj
          have hb := hG.above b (List.mem_of_getElem? hj)
          exact ⟨key', k', x', e1, e2, up b _ (Nat.ne_of_gt hb) (hkp b _ (Nat.ne_of_gt (Nat.lt_trans hIS hb))
            (Nat.ne_of_gt (Nat.lt_trans hitS hb)) e3)⟩
        · subst h1
          have hb : h.objs.size = b := by simpa using hj
          subst hb
          refine ⟨.int (i : Int) tk, Sum.inl (i : Int), x, ?_, mixKind_int prog w _ _, up _ _ (Nat.ne_of_gt hSl) ht⟩
          rw [enV_get, Array.getElem?_toList, hal, hx, Nat.zero_add]
          rfl
        · have hnone : (as ++ [h.objs.size])[j]? = none := List.getElem?_eq_none (by rw [List.length_append, List.length_singleton]; omega)
          rw [hnone] at hj
          cases hj
      · rw [hsz]
        omega
    rcases hst.2 with ⟨old, he⟩ | ⟨item, a, f, oa, he, ha, n1, n2, n3⟩
    · refine wpAny_bind (wpAny_pyNext_enum_item (s := { s with heap := h, toks := tk }) (A := A.in1) he hst.1 hl hx hIit fun h' g1 g2 g3 g4 g5 => ?_)
      refine fin h' ⟨g2, .inr ⟨x, h.objs.size, false, _, g1, g3, Nat.ne_of_gt (Heap.lt_size he), ?_, Nat.ne_of_gt hSl⟩⟩ g3 g4 g5
      obtain ⟨o, ho, _⟩ := hst.1
      exact Nat.ne_of_gt (Heap.lt_size ho)
    · refine wpAny_bind (en_pyNext_held (s := { s with heap := h, toks := tk }) (A := A.in1) he ha n1 n2 hst.1 hl hx hIit fun h' g1 g2 g3 g4 g5 => ?_)
      exact fin h' ⟨g2, .inr ⟨item, a, true, oa, g1, g5 a _ n1 n2 ha, n1, n2, n3⟩⟩ g3 g4 g5
end
end PB

namespace PB
open PySem PySem.Spec PyProof.Rows L2
theorem en_no_len : typeLookup (.type "enumerate") "__len__" = pure none := by
  rw [typeLookup_type, builtinLookup_eq_fast]
  kernel_rfl
theorem en_no_hint : typeLookup (.type "enumerate") "__length_hint__" = pure none := by
  rw [typeLookup_type, builtinLookup_eq_fast]
  kernel_rfl
section
variable {prog : Program} {w : World} {A : Around} {s : Shared} {items : Array Value}

theorem en_extend {R : Result → Shared → Prop} {I it l : Addr} (hh : A.handled = none)
    (he : IsEnum s.heap I it 0 .none) (hit : s.heap.IsListIter it l 0) (hl : s.heap.IsList l items)
    (S : Addr) (hIS : I < S) (hSit : it ≠ S) (hlS : l ≠ S) (hlI : l ≠ I) (hlit : l ≠ it) (hIit : I ≠ it)
    (hitS : it < S) (hn : items.size ≤ sizeLine) (res : Value) (c₀ : Nat)
    (hS : s.heap.get? S = some { cls := .type "list", data := .seq #[] c₀ })
    (hR : ∀ h' tk acc c as, (∀ b o, b ≠ S → b ≠ I → b ≠ it → s.heap.get? b = some o → h'.get? b = some o) →
      h'.get? S = some { cls := .type "list", dict := none, data := .seq acc c, slots := #[] } →
      as.length = items.size → EnG prog w items S h' as → acc.toList = as.map Value.ref →
      R (.ok (.ret res)) { s with heap := h', toks := tk }) :
    wpAny (model prog w) A.in1 (Builtin.List.listExtendWith (.ref S) (.ref I) res)
      (fun fin s' => match fin with | .done f => R (.ok f) s' | .again c' => c'.quiet = true ∧ codeAny (model prog w) A c' R s')
      (fun e s' => R (.error e) s') s := by
  have hSne : S ≠ I := Nat.ne_of_gt hIS
  have hT : s.TypeIs (.ref I) "enumerate" := ⟨_, he, rfl⟩
  unfold Builtin.List.listExtendWith
  refine wpAny_bind (wpAny_typeOf hT ?_)
  have h1 : Builtin.List.listSameRef (.ref S) (.ref I) = false := by simp [Builtin.List.listSameRef, hSne]
  have h2 : (Value.type "enumerate" == Value.type "list") = false := by decide
  have h3 : (Value.type "enumerate" == Value.type "tuple") = false := by decide
  simp only [h1, h2, h3, Bool.or_false, Bool.false_eq_true, if_false]
  refine wpAny_bind (wpAny_pyIter_enum he ?_)
  refine wpAny_bind (wpAny_holding ?_)
  unfold Builtin.List.listLengthHint
  refine wpAny_bind (wpAny_specialOf hT en_no_len ?_)
  show wpAny _ A.in1 (specialOf (Value.ref I) (Str.ofString "__length_hint__") >>= _) _ _ _
  refine wpAny_bind (wpAny_specialOf hT en_no_hint ?_)
  refine wpAny_pure ?_
  show wpAny _ A.in1 (rule "list.extend.makes-room" >>= fun _ =>
    Builtin.List.listTouch (.ref S) >>= fun _ =>
    again (.builtin "list.extend.loop" ⟨[.ref S, .ref I, res], []⟩)) _ _ _
  refine wpAny_bind (wpAny_rule ?_)
  refine wpAny_bind ?_
  show wpAny _ A.in1 (updateSeq S (·.push .none) >>= fun _ => updateSeq S (·.pop)) _ _ _
  refine wpAny_bind (wpAny_updateSeq hS rfl ?_)
  have hS₂ := Heap.get?_update_self (Obj.mapSeq (·.push Value.none)) hS rfl
  refine wpAny_updateSeq (hz := by seq_fits) hS₂ rfl ?_
  have hS₃ := Heap.get?_update_self (Obj.mapSeq (·.pop)) hS₂ rfl
  have oth : ∀ b o, b ≠ S → s.heap.get? b = some o →
      ((s.heap.update S (Obj.mapSeq (·.push Value.none))).update S (Obj.mapSeq (·.pop))).get? b = some o :=
    fun b o hb e => (Heap.get?_update_other _ _ (Ne.symm hb)).trans
      ((Heap.get?_update_other _ _ (Ne.symm hb)).trans e)
  obtain ⟨oit, hoit, rit⟩ := hit
  refine wpAny_pure ⟨plainId_quiet PySem.F.plain_extend_loop _, en_loop (s := s) (h₁ := s.heap) hh hIS hSit hlS hlI hlit hIit hitS hn res
    (fun h' tk acc c as k1 k2 k3 k4 k5 => hR h' tk acc c as k1 k2 k3 k4 k5)
    items.size 0 _ _ _ #[] [] (Nat.sub_zero _) (Nat.zero_le _)
    ⟨⟨oit, oth _ _ hSit hoit, rit⟩, .inl ⟨.none, oth _ _ hSne.symm he⟩⟩ (hl.at fun o e => oth _ _ hlS e)
    (fun b o h1 h2 h3 e => oth b o h1 e) hS₃ rfl rfl ⟨List.Pairwise.nil, (fun _ ha => nomatch ha), (fun j a hj => by simp at hj)⟩⟩

theorem en_init {R : Result → Shared → Prop} {I it l : Addr} (hh : A.handled = none)
    (he : IsEnum s.heap I it 0 .none) (hit : s.heap.IsListIter it l 0) (hl : s.heap.IsList l items)
    (S : Addr) (hIS : I < S) (hSit : it ≠ S) (hlS : l ≠ S) (hlI : l ≠ I) (hlit : l ≠ it) (hIit : I ≠ it)
    (hitS : it < S) (hn : items.size ≤ sizeLine)
    (hS : s.heap.get? S = some { cls := .type "list", data := .seq #[] })
    (hR : ∀ h' tk acc c as, (∀ b o, b ≠ S → b ≠ I → b ≠ it → s.heap.get? b = some o → h'.get? b = some o) →
      h'.get? S = some { cls := .type "list", dict := none, data := .seq acc c, slots := #[] } →
      as.length = items.size → EnG prog w items S h' as → acc.toList = as.map Value.ref →
      R (.ok (.ret .none)) { s with heap := h', toks := tk }) :
    wpAny (model prog w) A.in1 (Builtin.«list.__init__» ⟨[.ref S, .ref I], []⟩)
      (fun fin s' => match fin with | .done f => R (.ok f) s' | .again c' => c'.quiet = true ∧ codeAny (model prog w) A c' R s')
      (fun e s' => R (.error e) s') s := by
  show wpAny _ _ (do let old ← Builtin.List.listItems (.ref S); Builtin.List.listUpdate (.ref S) (fun _ => #[]); letGo old.toList.reverse; Builtin.List.listExtendWith (.ref S) (.ref I) .none) _ _ s
  refine wpAny_bind ?_
  unfold Builtin.List.listItems
  refine wpAny_bind (wpAny_seqItems hS rfl (wpAny_pure ?_))
  show wpAny _ _ (updateSeq S (fun _ => #[]) >>= fun _ => letGo (#[] : Array Value).toList.reverse >>= fun _ => Builtin.List.listExtendWith (.ref S) (.ref I) .none) _ _ s
  refine wpAny_bind (wpAny_updateSeq hS rfl ?_)
  have hS₂ := Heap.get?_update_self (Obj.mapSeq (fun _ => (#[] : Array Value))) hS rfl
  have oth : ∀ b o, b ≠ S → s.heap.get? b = some o → (s.heap.update S (Obj.mapSeq (fun _ => (#[] : Array Value)))).get? b = some o :=
    fun b o hb e => (Heap.get?_update_other _ _ (Ne.symm hb)).trans e
  refine wpAny_bind (wpAny_letGo ?_)
  obtain ⟨oit, hoit, rit⟩ := hit
  refine en_extend hh (oth _ _ (Nat.ne_of_lt hIS) he) ⟨oit, oth _ _ hSit hoit, rit⟩ (hl.at fun o e => oth _ _ hlS e) S hIS hSit hlS hlI hlit hIit hitS hn .none _ hS₂
    fun h' tk acc c as k1 k2 k3 k4 k5 => hR h' tk acc c as (fun b o n1 n2 n3 e => k1 b o n1 n2 n3 (oth b o n1 e)) k2 k3 k4 k5

theorem en_call {Q : Value → Shared → Prop} {E : Value → Shared → Prop} {I it l : Addr} (hh : A.handled = none)
    (he : IsEnum s.heap I it 0 .none) (hit : s.heap.IsListIter it l 0) (hl : s.heap.IsList l items)
    (hlI : l ≠ I) (hlit : l ≠ it) (hIit : I ≠ it) (hn : items.size ≤ sizeLine)
    (hQ : ∀ h' tk acc c as, (∀ b o, b ≠ I → b ≠ it → s.heap.get? b = some o → h'.get? b = some o) →
      h'.get? s.heap.objs.size = some { cls := .type "list", dict := none, data := .seq acc c, slots := #[] } →
      as.length = items.size → EnG prog w items s.heap.objs.size h' as → acc.toList = as.map Value.ref →
      Q (.ref s.heap.objs.size) { s with heap := h', toks := tk }) :
    wpAny (model prog w) A (call (.type "list") [.ref I]) Q E s := by
  refine callType_codes (Q₁ := fun obj s₁ => obj = .ref s.heap.objs.size ∧ s₁ = { s with heap := s.heap.push { cls := .type "list", data := .seq #[] } })
    PySem.F.called_list (PySem.F.typeCall_list_1 _) PySem.F.entry_list_init (code_list_new _ ⟨rfl, rfl⟩) fun obj s₁ h₁ => ?_
  obtain ⟨rfl, rfl⟩ := h₁
  have hS : (s.heap.push { cls := .type "list", data := .seq #[] }).get? s.heap.objs.size = some { cls := .type "list", data := .seq #[] } := Heap.get?_push_size _ rfl
  have lI : I < s.heap.objs.size := Heap.lt_size he
  obtain ⟨oit, hoit, rit⟩ := hit
  have lit : it < s.heap.objs.size := Heap.lt_size hoit
  obtain ⟨ol, hol, rl⟩ := hl
  have ll : l < s.heap.objs.size := Heap.lt_size hol
  refine ⟨⟨_, hS, rfl⟩, PySem.F.args_list_init_2 _ _, en_init (A := A.in1) hh (Heap.get?_push_of_some _ he) ⟨oit, Heap.get?_push_of_some _ hoit, rit⟩
    ⟨ol, Heap.get?_push_of_some _ hol, rl⟩ _ lI (Nat.ne_of_lt lit) (Nat.ne_of_lt ll) hlI hlit hIit lit hn hS fun h' tk acc c as k1 k2 k3 k4 k5 => ?_⟩
  exact ⟨rfl, hQ h' tk acc c as (fun b o n1 n2 e => k1 b o (Nat.ne_of_lt (Heap.lt_size e)) n1 n2 (Heap.get?_push_of_some _ e)) k2 k3 k4 k5⟩
end


/-- behind a call that has laid a list at p and pairs above it -/
theorem pairs_laid {X : Cx} {pins : List (Addr × Obj)} {σ : L2.St} {H : Hp} {s : Shared} {h' : Heap} {tk : Nat}
    {kvs : List (Key × V)} {vs : List (Key × Value)} {acc : Array Value} {c : Nat} {p : Addr} {as : List Addr}
    (I : Inv X pins σ H s) (hz : kvs.length ≤ sizeLine) (kv : KV kvs vs) (hp : s.heap.objs.size ≤ p)
    (hk : ∀ b o, s.heap.get? b = some o → h'.get? b = some o)
    (hS : h'.get? p = some { cls := .type "list", dict := none, data := .seq acc c, slots := #[] })
    (hl : as.length = vs.length) (hG : PySem.W.KdxG (mixKind X.prog X.w) vs p h' as)
    (hacc : acc.toList = as.map Value.ref) :
    ∃ H' : Hp, Same H H' ∧ H p = none ∧ (∀ t ∈ as, H t = none) ∧ p ∉ as ∧ H' p = some (.lst (as.map V.ref)) ∧
      Paired (fun (t : Addr) (q : Key × V) => H' t = some (.tup [kV q.1, q.2])) as kvs ∧
      Inv X pins σ H' { s with heap := h', toks := tk } := by
  have lk : kvs.length = vs.length := Paired.length kv
  have hpn : p ∉ as := fun z => Nat.lt_irrefl _ (hG.above _ z)
  have nd : as.Nodup := List.Pairwise.imp (fun {a b} (h : a < b) => Nat.ne_of_lt h) hG.rise
  have new : ∀ t ∈ as, H t = none := fun t ht =>
    I.hok.fresh (Nat.le_trans hp (Nat.le_of_lt (hG.above t ht)))
  have newS : H p = none := I.hok.fresh hp
  let G : Hp := LiI.putT (upd H p (.lst (as.map V.ref))) as kvs
  have atP : Paired (fun (t : Addr) (q : Key × V) => G t = some (.tup [kV q.1, q.2])) as kvs :=
    LiI.putT_at as kvs (upd H p (.lst (as.map V.ref))) (by omega) nd
  have off : ∀ b, b ∉ as → b ≠ p → G b = H b := fun b h1 h2 =>
    (LiI.putT_off as kvs _ h1).trans (upd_ne h2)
  have low : ∀ b o, s.heap.get? b = some o → b ∉ as ∧ b ≠ p := fun b o e =>
    ⟨fun z => absurd (Heap.lt_size e) (Nat.not_lt.mpr (Nat.le_trans hp (Nat.le_of_lt (hG.above b z)))),
      Nat.ne_of_lt (Nat.lt_of_lt_of_le (Heap.lt_size e) hp)⟩
  have kp : ∀ b u, H b = some u → G b = some u := fun b u e => by
    rw [off b (fun z => by rw [new b z] at e; cases e) (fun z => by rw [z, newS] at e; cases e)]
    exact e
  have eS : G p = some (.lst (as.map V.ref)) := (LiI.putT_off as kvs _ hpn).trans upd_same
  refine ⟨G, kp, newS, new, hpn, eS, atP, ?_⟩
  refine I.call' (ch := []) rfl ⟨fun b o q _ _ _ => hk b o q, fun b o q _ _ _ => ⟨o.slots, hk b o q⟩,
    fun b o q n _ => ?_, fun b o q _ => ⟨o, hk b o q⟩, fun b xs q => kp b _ q, fun b o u q => kp b _ q,
    fun b ps q => ⟨#[], by rw [kp b _ q]; simp⟩⟩ (fun b u q => ?_) I.bare fun b z => by simp at z
  · obtain ⟨z1, z2⟩ := low b o q
    rw [off b z1 z2]
    exact n
  · by_cases hb : b ∈ as
    · obtain ⟨j, pk, e1, e2, e3⟩ := LiI.paired_ix atP hb
      rw [e3] at q
      cases q
      obtain ⟨key, k, x, f1, f2, f3⟩ := hG.pairs j b e1
      obtain ⟨qv, g1, g2, g3⟩ := LiI.paired_get kv e2
      rw [f1] at g1
      cases g1
      have rk : RelV (kV pk.1) key := by
        rw [g2]
        exact relV_key (show keyIs k key = true from f2)
      exact ⟨by show 2 ≤ sizeLine; decide, [key, x], .cons rk (.cons g3 .nil), ⟨_, f3, rfl, _, rfl⟩⟩
    · by_cases hb2 : b = p
      · subst hb2
        rw [eS] at q
        cases q
        refine ⟨by rw [List.length_map]; omega, acc.toList, c, by rw [hacc]; exact LiI.vals_refs as, ?_⟩
        rw [Array.toArray_toList]
        exact hS
      · rw [off b hb hb2] at q
        exact (I.hok b u q).stay (fun d v _ y => hk d v y) (fun d y => kp d _ y) fun d xs y => kp d _ y
/-- list(enumerate(e)): a new list of new pairs -/
def rLE (K : PySem.W.Frag) (x : V) (H : Hp) (Q : VK) : Prop := ∃ (a : Addr) (xs : List V), x = .ref a ∧ SqL K H a xs ∧
  ∀ (H' : Hp) (p : Addr) (ts : List Addr), Same H H' → H p = none → (∀ t ∈ ts, H t = none) → p ∉ ts →
    H' p = some (.lst (ts.map V.ref)) →
    Paired (fun (t : Addr) (q : Key × V) => H' t = some (.tup [kV q.1, q.2])) ts (enV 0 xs) → Q (.ref p) H'
def tLE (K : PySem.W.Frag) (te : TE) : TE := fun σ H Q => te σ H fun x H1 => rLE K x H1 Q
section
variable {X : Cx} {e : Expr} {te : TE} {p p2 pos pos2 : Pos}
theorem pe_listEnum (hc : X.calm = true) (hg : Gl X "list") (hm : X.mg "list" = none) (hg2 : Gl X "enumerate")
    (hm2 : X.mg "enumerate" = none) (he : PE X e te)
    (hs : starEach [e] X.env = (false, eval e X.env) :: starEach [] X.env := by rfl)
    (hs2 : starEach [.Call (.Name "enumerate" p2) [e] [] pos2] X.env =
      (false, eval (.Call (.Name "enumerate" p2) [e] [] pos2) X.env) :: starEach [] X.env := by rfl) :
    PE X (.Call (.Name "list" p) [.Call (.Name "enumerate" p2) [e] [] pos2] [] pos) (tLE X.K te) := by
  refine ⟨fun pins s σ H Q I h => ?_⟩
  refine Call_ (ld_blt I hg hm boot_list (PyProof.Rows.callWith_type1 (args_cons ?_ hs2) hs2))
  refine Call_ (ld_blt I hg2 hm2 boot_enumerate (PyProof.Rows.callWith_type1 (one_arg he I h (fun v s1 x H1 I1 rx q => ?_) hs) hs))
  obtain ⟨a, xs, rfl, hq, q⟩ := q
  obtain rfl : v = .ref a := rx
  obtain ⟨its, rv, pl, hz⟩ := I1.list hq
  have hlen := rv.length
  refine call_enumerate_list pl.isList fun h1 he1 hit1 hsz1 hk1 => ?_
  refine args_nil ?_
  have I2 : Inv X pins σ H1 { s1 with heap := h1 } := I1.kept (t' := s1.toks) hk1
  obtain ⟨ol, hol, rl⟩ := pl.isList
  have ll : a < s1.heap.objs.size := Heap.lt_size hol
  have n0 : H1 (s1.heap.objs.size + 1) = none := I1.hok.fresh (Nat.le_succ _)
  have n1 : H1 s1.heap.objs.size = none := I1.hok.fresh (Nat.le_refl _)
  refine en_call (s := { s1 with heap := h1 }) (items := its.toArray) (I2.ok.hd hc) he1 hit1 ⟨ol, hk1 _ _ hol, rl⟩
    (by exact Nat.ne_of_lt (Nat.lt_succ_of_lt ll)) (Nat.ne_of_lt ll) (Nat.succ_ne_self _) (by simp only [List.size_toArray]; omega)
    fun h2 tk acc c as k1 k2 k3 k4 k5 => ?_
  have eI : EnG X.prog X.w its.toArray h1.objs.size h2 as := k4
  obtain ⟨H', g1, g2, g3, g4, g5, g6, J⟩ := pairs_laid (tk := tk) (p := h1.objs.size) (kvs := enV 0 xs) (vs := enV 0 its) (as := as) I1
    (by rw [enV_len]; exact hz) (enV_kv xs its 0 rv) (by rw [hsz1]; omega)
    (fun b o e => k1 b o (Nat.ne_of_lt (Nat.lt_succ_of_lt (Heap.lt_size e))) (Nat.ne_of_lt (Heap.lt_size e)) (hk1 b o e))
    k2 (by rw [enV_len, k3]; simp) (by simpa using k4) k5
  exact ⟨.ref _, H', J, rfl, q H' _ as g1 g2 g3 g4 g5 g6⟩
end
end PB

namespace PB
open PySem PySem.Spec PyProof.Rows L2

/-! ### what is known of the heap: B stands, and beside it the objects of the list L -/
structure Tr (B : Hp) (L : List (Addr × HO)) (H : Hp) : Prop where
  base : Same B H
  at_ : ∀ p ∈ L, H p.1 = some p.2
  off : ∀ p ∈ L, B p.1 = none
  nd : (L.map (·.1)).Nodup
section
variable {B B' H H' : Hp} {L : List (Addr × HO)} {a b p : Addr} {o o' u : HO}
theorem Tr.start (H : Hp) : Tr H [] H := ⟨Same.refl H, (fun _ h => nomatch h), (fun _ h => nomatch h), List.nodup_nil⟩
theorem Tr.fz (T : Tr B L H) (h : B a = some o) : H a = some o := T.base a o h
theorem Tr.get (T : Tr B L H) (i : Nat) (h : L[i]? = some (a, o)) : H a = some o := T.at_ _ (List.mem_of_getElem? h)
theorem Tr.ne (T : Tr B L H) (h : (a, o) ∈ L) (h2 : B b = some u) : b ≠ a := fun e => by
  have z := T.off _ h
  rw [← e] at z
  rw [h2] at z
  cases z
theorem Tr.new (T : Tr B L H) (hp : H p = none) : Tr B ((p, o) :: L) (upd H p o) := by
  have hB : B p = none := T.base.free hp
  have nm : ∀ q ∈ L, q.1 ≠ p := fun q hq e => by
    have z := T.at_ q hq
    rw [e, hp] at z
    cases z
  refine ⟨fun c v e => ?_, fun q hq => ?_, fun q hq => ?_, ?_⟩
  · rw [upd_ne (ne_of_none e hB)]
    exact T.base c v e
  · rcases List.mem_cons.mp hq with rfl | hq
    · exact upd_same
    · rw [upd_ne (nm q hq)]
      exact T.at_ q hq
  · rcases List.mem_cons.mp hq with rfl | hq
    · exact hB
    · exact T.off q hq
  · refine List.nodup_cons.mpr ⟨fun hm => ?_, T.nd⟩
    obtain ⟨q, hq, e⟩ := List.mem_map.mp hm
    exact nm q hq e
theorem Tr.same (T : Tr B L H) (s : Same H H') : Tr B L H' :=
  ⟨T.base.trans s, fun q hq => s _ _ (T.at_ q hq), T.off, T.nd⟩
theorem Tr.add (T : Tr B L H) (s : Same H H') (hp : H p = none) (e : H' p = some o) : Tr B ((p, o) :: L) H' := by
  have T2 := T.new (o := o) hp
  refine ⟨T.base.trans s, fun q hq => ?_, T2.off, T2.nd⟩
  rcases List.mem_cons.mp hq with rfl | hq
  · exact e
  · exact s _ _ (T.at_ q hq)
/-- all but the objects at as stand -/
def But (as : List Addr) (H H' : Hp) : Prop := ∀ b o, b ∉ as → H b = some o → H' b = some o
theorem But.same {as : List Addr} (s : Same H H') : But as H H' := fun b o _ e => s b o e
theorem But.refl {as : List Addr} : But as H H := fun _ _ _ e => e
theorem But.trans {as : List Addr} {H2 : Hp} (s : But as H H') (t : But as H' H2) : But as H H2 := fun b o n e => t b o n (s b o n e)
theorem But.upd (a : Addr) (o : HO) : But [a] H (L2.upd H a o) := fun b u n e => by
  rw [upd_ne (fun z => n (by rw [z]; exact List.mem_cons_self))]
  exact e
theorem setMem : ∀ (L : List (Addr × HO)) (i : Nat) (q : Addr × HO), (L.map (·.1)).Nodup → L[i]? = some (a, o) → q ∈ L.set i (a, o') →
    q = (a, o') ∨ (q ∈ L ∧ q.1 ≠ a)
  | [], _, _, _, h, _ => by cases h
  | x :: L, 0, q, nd, h, hq => by
    have e : x = (a, o) := Option.some.inj h
    subst e
    rcases List.mem_cons.mp hq with e | hq
    · exact .inl e
    · refine .inr ⟨List.mem_cons_of_mem _ hq, fun e => (List.nodup_cons.mp nd).1 ?_⟩
      show a ∈ L.map (·.1)
      rw [← e]
      exact List.mem_map_of_mem hq
  | x :: L, i + 1, q, nd, h, hq => by
    rcases List.mem_cons.mp hq with e | hq
    · subst e
      refine .inr ⟨List.mem_cons_self, fun z => (List.nodup_cons.mp nd).1 ?_⟩
      show q.1 ∈ L.map (·.1)
      rw [z]
      exact List.mem_map_of_mem (f := (·.1)) (List.mem_of_getElem? (show L[i]? = some (a, o) from h))
    · rcases setMem L i q (List.nodup_cons.mp nd).2 h hq with e | ⟨h1, h2⟩
      · exact .inl e
      · exact .inr ⟨List.mem_cons_of_mem _ h1, h2⟩
theorem set_keys : ∀ (L : List (Addr × HO)) (i : Nat), L[i]? = some (a, o) → (L.set i (a, o')).map (·.1) = L.map (·.1)
  | [], _, h => by cases h
  | x :: L, 0, h => by
    have e : x = (a, o) := Option.some.inj h
    subst e
    rfl
  | x :: L, i + 1, h => congrArg (x.1 :: ·) (set_keys L i h)
theorem Tr.but (T : Tr B L H) (i : Nat) (h : L[i]? = some (a, o)) (s : But [a] H H') (e : H' a = some o') :
    Tr B (L.set i (a, o')) H' := by
  have hoff : B a = none := T.off _ (List.mem_of_getElem? h)
  refine ⟨fun c v ec => ?_, fun q hq => ?_, fun q hq => ?_, ?_⟩
  · refine s c v (fun z => ?_) (T.base c v ec)
    have z' : c = a := by simpa using z
    rw [z', hoff] at ec
    cases ec
  · rcases setMem L i q T.nd h hq with rfl | ⟨h1, h2⟩
    · exact e
    · exact s _ _ (by simpa using h2) (T.at_ q h1)
  · rcases setMem L i q T.nd h hq with rfl | ⟨h1, h2⟩
    · exact hoff
    · exact T.off q h1
  · rw [set_keys L i h]
    exact T.nd
theorem Tr.put (T : Tr B L H) (i : Nat) (h : L[i]? = some (a, o)) : Tr B (L.set i (a, o')) (upd H a o') :=
  T.but i h (But.upd a o') upd_same
/-- another part of the heap as the ground -/
theorem Tr.rebase (T : Tr B L H) (s : Same B' H) (h : ∀ q ∈ L, B' q.1 = none) : Tr B' L H := ⟨s, T.at_, h, T.nd⟩
theorem Tr.drop (T : Tr B (q :: L) H) : Tr B L H :=
  ⟨T.base, fun r hr => T.at_ r (List.mem_cons_of_mem _ hr), fun r hr => T.off r (List.mem_cons_of_mem _ hr), (List.nodup_cons.mp T.nd).2⟩
theorem Tr.dropL : ∀ {M : List (Addr × HO)}, Tr B (M ++ L) H → Tr B L H
  | [], T => T
  | _ :: _, T => Tr.dropL (Tr.drop T)
/-- a heap without what stands at a -/
def del (H : Hp) (a : Addr) : Hp := fun b => if b = a then none else H b
theorem del_same : del H a a = none := if_pos rfl
theorem del_ne (h : b ≠ a) : del H a b = H b := if_neg h
theorem Same.del : Same (del H a) H := fun b o e => by
  by_cases h : b = a
  · rw [h, del_same] at e
    cases e
  · rwa [del_ne h] at e
theorem Tr.mut (h : H a = some o) : Tr (del H a) [(a, o)] H :=
  ⟨Same.del, fun q hq => by rw [List.mem_singleton.mp hq]; exact h, fun q hq => by rw [List.mem_singleton.mp hq]; exact del_same, by simp⟩
theorem But.of_del (s : Same (del H a) H') : But [a] H H' := fun b o n e => s b o (by
  rw [del_ne (fun z => n (by rw [z]; exact List.mem_cons_self))]
  exact e)
/-- what is new behind a def that changes a -/
theorem Tr.newdel (T : Tr (del H a) L H') (i j : Nat) (h : L[i]? = some (a, o)) (h2 : L[j]? = some (p, o')) (n : i ≠ j := by decide) : H p = none := by
  have ha := List.getElem?_map (f := (·.1)) (l := L) (i := i)
  have hp := List.getElem?_map (f := (·.1)) (l := L) (i := j)
  rw [h] at ha
  rw [h2] at hp
  have ne : p ≠ a := fun e => by
    have ha' : (L.map (·.1))[i]? = some a := ha
    have hp' : (L.map (·.1))[j]? = some p := hp
    rw [e] at hp'
    exact n (nd_ix T.nd ha' hp')
  have z := T.off _ (List.mem_of_getElem? h2)
  rw [← del_ne (H := H) ne]
  exact z
theorem Tr.offI (T : Tr B L H) (i : Nat) (h : L[i]? = some (a, o)) : B a = none := T.off _ (List.mem_of_getElem? h)
theorem Tr.get0 (T : Tr B ((a, o) :: L) H) : H a = some o := T.get 0 rfl
theorem Tr.get1 {x0} (T : Tr B (x0 :: (a, o) :: L) H) : H a = some o := T.get 1 rfl
theorem Tr.get2 {x0 x1} (T : Tr B (x0 :: x1 :: (a, o) :: L) H) : H a = some o := T.get 2 rfl
theorem Tr.get3 {x0 x1 x2} (T : Tr B (x0 :: x1 :: x2 :: (a, o) :: L) H) : H a = some o := T.get 3 rfl
theorem Tr.get4 {x0 x1 x2 x3} (T : Tr B (x0 :: x1 :: x2 :: x3 :: (a, o) :: L) H) : H a = some o := T.get 4 rfl
theorem Tr.get5 {x0 x1 x2 x3 x4} (T : Tr B (x0 :: x1 :: x2 :: x3 :: x4 :: (a, o) :: L) H) : H a = some o := T.get 5 rfl
theorem Tr.get6 {x0 x1 x2 x3 x4 x5} (T : Tr B (x0 :: x1 :: x2 :: x3 :: x4 :: x5 :: (a, o) :: L) H) : H a = some o := T.get 6 rfl
theorem Tr.get7 {x0 x1 x2 x3 x4 x5 x6} (T : Tr B (x0 :: x1 :: x2 :: x3 :: x4 :: x5 :: x6 :: (a, o) :: L) H) : H a = some o := T.get 7 rfl
theorem Tr.get8 {x0 x1 x2 x3 x4 x5 x6 x7} (T : Tr B (x0 :: x1 :: x2 :: x3 :: x4 :: x5 :: x6 :: x7 :: (a, o) :: L) H) : H a = some o := T.get 8 rfl
theorem Tr.get9 {x0 x1 x2 x3 x4 x5 x6 x7 x8} (T : Tr B (x0 :: x1 :: x2 :: x3 :: x4 :: x5 :: x6 :: x7 :: x8 :: (a, o) :: L) H) : H a = some o := T.get 9 rfl
theorem Tr.seq {K : PySem.W.Frag} {xs : List V} (T : Tr B L H) (h : SqL K B a xs) : SqL K H a xs := T.base.seq h
theorem Same.tup {K : PySem.W.Frag} {xs : List V} (e : Same H H') (h : SqT K H a xs) : SqT K H' a xs := by
  rcases h with (h | ⟨o, h⟩) | h
  · exact .inl (.inl (e _ _ h))
  · exact .inl (.inr ⟨o, e _ _ h⟩)
  · exact .inr h
end

/-! ### readings by names -/
section
variable {X : Cx}
def rLen (K : PySem.W.Frag) : List V → Hp → VK → Prop := fun xs H Q => ∃ p ys, xs = [.ref p] ∧ (SqL K H p ys ∨ SqT K H p ys) ∧ Q (.int ys.length) H
theorem cl_len : CallR X (.builtin "len") (rLen X.K) := call_len_seq
def rAbs : List V → Hp → VK → Prop := fun xs H Q => ∃ i, xs = [.int i] ∧ Q (.int (if i < 0 then -i else i)) H
theorem cl_abs : CallR X (.builtin "abs") rAbs := call_abs
def rMax2 : List V → Hp → VK → Prop := fun xs H Q => ∃ i j, xs = [.int i, .int j] ∧ Q (.int (if j > i then j else i)) H
theorem cl_max2 (hc : X.calm = true) : CallR X (.builtin "max") rMax2 := call_max2 hc
def rMin2 : List V → Hp → VK → Prop := fun xs H Q => ∃ i j, xs = [.int i, .int j] ∧ Q (.int (if j < i then j else i)) H
theorem cl_min2 (hc : X.calm = true) : CallR X (.builtin "min") rMin2 := call_min2 hc
def rInt1 : List V → Hp → VK → Prop := fun xs H Q => (∃ i, xs = [.int i] ∧ Q (.int i) H) ∨ ∃ k, xs = [.bl k] ∧ Q (.int (if k then 1 else 0)) H
theorem cl_int : CallR X (.type "int") rInt1 := call_int1
def rListOf (K : PySem.W.Frag) : List V → Hp → VK → Prop := fun xs H Q => ∃ p ys, xs = [.ref p] ∧ (SqL K H p ys ∨ SqT K H p ys) ∧ ∀ l, H l = none → Q (.ref l) (upd H l (.lst ys))
theorem cl_list : CallR X (.type "list") (rListOf X.K) := call_list_of
/-- + of ints, of lists -/
def rAddA : R2 := fun x y H Q => rI0 (fun i j => .int (i + j)) x y H Q ∨ rCat x y H Q
theorem op_addA : OpR X (binaryOp .Add) rAddA := fun pins s σ H x y v u Q I rx ry h => by
  rcases h with h | h
  · exact op_add pins s σ H x y v u Q I rx ry h
  · exact op_cat pins s σ H x y v u Q I rx ry h
/-- * of ints, of a list and an int -/
def rMulA : R2 := fun x y H Q => rI CMulW (fun i j => .int (i * j)) x y H Q ∨ rRep x y H Q
theorem op_mulA : OpR X (binaryOp .Mult) rMulA := fun pins s σ H x y v u Q I rx ry h => by
  rcases h with h | h
  · exact op_mulW pins s σ H x y v u Q I rx ry h
  · exact op_rep pins s σ H x y v u Q I rx ry h
/-- == of flat values, of data -/
def rEqA (K : PySem.W.Frag) : R2 := fun x y H Q => rEq x y H Q ∨ rEqD K x y H Q
theorem op_eqA (hu : X.A.units + 64 < cLine) : OpR X (compareOp .Eq) (rEqA X.K) := fun pins s σ H x y v u Q I rx ry h => by
  rcases h with h | h
  · exact op_eq pins s σ H x y v u Q I rx ry h
  · exact op_eqD hu pins s σ H x y v u Q I rx ry h
def rNeA (K : PySem.W.Frag) : R2 := fun x y H Q => rNe x y H Q ∨ rNeD K x y H Q
theorem op_neA (hu : X.A.units + 64 < cLine) : OpR X (compareOp .NotEq) (rNeA X.K) := fun pins s σ H x y v u Q I rx ry h => by
  rcases h with h | h
  · exact op_ne pins s σ H x y v u Q I rx ry h
  · exact op_neD hu pins s σ H x y v u Q I rx ry h
def rIsN : R2 := fun x y H Q => y = .non ∧ Q (.bl (decide (x = .non))) H
theorem op_isNn : OpR X (compareOp .Is) rIsN := op_isN
def rNotN : R2 := fun x y H Q => y = .non ∧ Q (.bl (!decide (x = .non))) H
theorem op_notNn : OpR X (compareOp .IsNot) rNotN := op_notN
end

/-! ### the rest of a loop, of a comprehension, by names -/
def rFor (J : It) (g : TG) (tb : TS) (D : Ends) (σ : L2.St) (H : Hp) : Prop := ∃ W : Nat → Nat → L2.St → Hp → Prop, (∃ m, W 0 m σ H) ∧ ∀ i m σ H, W i m σ H →
  (J.stop i H ∧ D.nx σ H) ∨ (J.go i H ∧ ∃ N : L2.St → Hp → Prop, (∀ σ' H', N σ' H' → ∃ m', m' < m ∧ W (i + 1) m' σ' H') ∧ ∀ x H', J.yld i H x H' → g x σ H' fun σ2 H2 => tb { D with nx := N, ct := N, bk := D.nx } σ2 H2)
def rLc (J : It) (g : TG) (tt : TT) (te : TE) (vs : List Nat) (σ : L2.St) (H1 : Hp) (Q : VK) : Prop := ∀ D, H1 D = none → ∃ W : Nat → Nat → Hp → Prop, (∃ m, W 0 m (upd H1 D (.lst []))) ∧ ∀ i m H, W i m H →
  (J.stop i H ∧ Q (.ref D) H) ∨ (J.go i H ∧ ∃ Nx : Hp → Prop, (∀ H', Nx H' → ∃ m', m' < m ∧ W (i + 1) m' H') ∧ ∀ x H', J.yld i H x H' → g x (wipe σ vs) H' fun σ2 H2 => wipe σ2 vs = wipe σ vs ∧ tt σ2 H2 fun b H3 =>
    if b = true then te σ2 H3 fun y H4 => ∃ acc, H4 D = some (.lst acc) ∧ acc.length < sizeLine ∧ Nx (upd H4 D (.lst (acc ++ [y]))) else Nx H3)
/-- an element that goes to the list at D -/
def rElt (D : Addr) (Nx : Hp → Prop) (y : V) (H4 : Hp) : Prop := ∃ acc, H4 D = some (.lst acc) ∧ acc.length < sizeLine ∧ Nx (upd H4 D (.lst (acc ++ [y])))
def rItL (K : PySem.W.Frag) (x : V) (H : Hp) (R : It → Hp → Prop) : Prop := ∃ a, x = .ref a ∧ (∃ xs, SqL K H a xs) ∧ R (Itl K a) H
def rItT (K : PySem.W.Frag) (x : V) (H : Hp) (R : It → Hp → Prop) : Prop := ∃ a, x = .ref a ∧ (∃ xs, SqT K H a xs) ∧ R (Itt K a) H
def rRg1 (vs : List V) (H : Hp) (R : It → Hp → Prop) : Prop := ∃ j : Int, vs = [.int j] ∧ -(2 ^ 62) ≤ j ∧ j < 2 ^ 62 ∧ R (Itr 0 j.toNat) H
def rRg2 (vs : List V) (H : Hp) (R : It → Hp → Prop) : Prop := ∃ i j : Int, vs = [.int i, .int j] ∧ (-(2 ^ 62) ≤ i ∧ i < 2 ^ 62 ∧ -(2 ^ 62) ≤ j ∧ j < 2 ^ 62) ∧ R (Itr i (j - i).toNat) H
def rRg3 (vs : List V) (H : Hp) (R : It → Hp → Prop) : Prop := ∃ (i j c : Int) (n : Nat), vs = [.int i, .int j, .int c] ∧ RgC i j c n ∧ R (Itc i c n) H
def rEn (K : PySem.W.Frag) (vs : List V) (H : Hp) (R : It → Hp → Prop) : Prop := ∃ a xs, vs = [.ref a] ∧ SqL K H a xs ∧ R (Ite K a) H
def rZp (K : PySem.W.Frag) (vs : List V) (H : Hp) (R : It → Hp → Prop) : Prop := ∃ a b xs ys, vs = [.ref a, .ref b] ∧ SqL K H a xs ∧ SqL K H b ys ∧ R (Itz K a b) H
def rTup (xs : List V) (H : Hp) (Q : VK) : Prop := xs.length ≤ sizeLine ∧ ∀ p, H p = none → Q (.ref p) (upd H p (.tup xs))
def rLst (xs : List V) (H : Hp) (Q : VK) : Prop := xs.length ≤ sizeLine ∧ ∀ p, H p = none → Q (.ref p) (upd H p (.lst xs))
def rBl (x : V) (H : Hp) (Q : Bool → Hp → Prop) : Prop := ∃ k, x = .bl k ∧ Q k H
def rUnp (K : PySem.W.Frag) (n : Nat) (t : TGs) (v : V) (σ : L2.St) (H : Hp) (Q : L2.St → Hp → Prop) : Prop := ∃ a xs, v = .ref a ∧ SqT K H a xs ∧ xs.length = n ∧ t xs σ H Q
def rMt (K : PySem.W.Frag) (T : String) (r : V → List V → Hp → VK → Prop) (t : TA) (σ : L2.St) (x : V) (H1 : Hp) (Q : VK) : Prop := tyV K T x H1 ∧ t σ H1 fun xs H2 => r x xs H2 Q

/-! ### the steps -/
section
variable {K : PySem.W.Frag} {B H H1 : Hp} {L : List (Addr × HO)} {σ : L2.St} {D : Ends} {Q : VK} {t u : TS} {ta tb tc te to ti : TE} {tx ty : TA} {c tt : TT} {r r' : R2} {x y v w : V} {i j k n : Int} {a p : Addr} {xs ys : List V} {ns : List Int}
-- statements
section
variable {nx bk ct : L2.St → Hp → Prop} {rt : VK}
theorem i_seq (h : t ⟨u ⟨nx, rt, bk, ct⟩, rt, bk, ct⟩ σ H) : tSeq t u ⟨nx, rt, bk, ct⟩ σ H := h
theorem i_next (h : nx σ H) : tNext ⟨nx, rt, bk, ct⟩ σ H := h
theorem i_break (h : bk σ H) : tBreak ⟨nx, rt, bk, ct⟩ σ H := h
theorem i_cont (h : ct σ H) : tCont ⟨nx, rt, bk, ct⟩ σ H := h
theorem i_drop (h : te σ H fun _ H1 => nx σ H1) : tDrop te ⟨nx, rt, bk, ct⟩ σ H := h
theorem i_ret (h : te σ H rt) : tRet te ⟨nx, rt, bk, ct⟩ σ H := h
theorem i_retN (h : rt .non H) : tRetN ⟨nx, rt, bk, ct⟩ σ H := h
theorem i_ifS (h : c σ H fun b H1 => if b = true then t ⟨nx, rt, bk, ct⟩ σ H1 else u ⟨nx, rt, bk, ct⟩ σ H1) : tIfS c t u ⟨nx, rt, bk, ct⟩ σ H := h
theorem i_asg {g : TG} (h : te σ H fun x H1 => g x σ H1 nx) : tAsg te g ⟨nx, rt, bk, ct⟩ σ H := h
theorem i_aug {m : Nat} {ip : TIp} (hx : σ[m]? = some (some x)) (h : te σ H fun y H1 => ip x y H1 fun z H2 => nx (σ.set m (some z)) H2) : tAug m te ip ⟨nx, rt, bk, ct⟩ σ H := ⟨x, hx, h⟩
theorem i_for {wi : TI} {g : TG} {tb : TS} (h : wi σ H fun J H1 => rFor J g tb ⟨nx, rt, bk, ct⟩ σ H1) : tFor wi g tb ⟨nx, rt, bk, ct⟩ σ H := h
end
theorem i_gName {m : Nat} {R : L2.St → Hp → Prop} (h : R (σ.set m (some v)) H) : gName m v σ H R := h
theorem i_gTup {n : Nat} {g : TGs} {R : L2.St → Hp → Prop} (h : rUnp K n g v σ H R) : gTup K n g v σ H R := h
theorem i_unp {m : Nat} {g : TGs} {R : L2.St → Hp → Prop} (h1 : SqT K H a xs) (h2 : xs.length = m) (h : g xs σ H R) : rUnp K m g (.ref a) σ H R := ⟨a, xs, rfl, h1, h2, h⟩
theorem i_gCons {g : TG} {gs : TGs} {R : L2.St → Hp → Prop} (h : g x σ H fun σ' H' => gs xs σ' H' R) : gCons g gs (x :: xs) σ H R := ⟨x, xs, rfl, h⟩
theorem i_gNil {R : L2.St → Hp → Prop} (h : R σ H) : gNil [] σ H R := ⟨rfl, h⟩
theorem i_gSub {st : TSet} {R : L2.St → Hp → Prop} (h : to σ H fun o H1 => ti σ H1 fun i H2 => st o i v H2 fun H3 => R σ H3) : gSub to ti st v σ H R := h
theorem i_ip {f : Int → Int → Int} (h : Q (.int (f i j)) H) : ipI f (.int i) (.int j) H Q := ⟨i, j, rfl, rfl, h⟩
-- what is walked
section
variable {R : It → Hp → Prop}
theorem i_iList (h : te σ H fun x H1 => rItL K x H1 R) : iList K te σ H R := h
theorem i_itL (h1 : SqL K H a xs) (h : R (Itl K a) H) : rItL K (.ref a) H R := ⟨a, rfl, ⟨xs, h1⟩, h⟩
theorem i_iTup (h : te σ H fun x H1 => rItT K x H1 R) : iTup K te σ H R := h
theorem i_itT (h1 : SqT K H a xs) (h : R (Itt K a) H) : rItT K (.ref a) H R := ⟨a, rfl, ⟨xs, h1⟩, h⟩
theorem i_iRng1 (h : tx σ H fun vs H1 => rRg1 vs H1 R) : iRng1 tx σ H R := h
theorem i_rg1 (h1 : -(2 ^ 62) ≤ j) (h2 : j < 2 ^ 62) (h : R (Itr 0 j.toNat) H) : rRg1 [.int j] H R := ⟨j, rfl, h1, h2, h⟩
theorem i_iRng2 (h : tx σ H fun vs H1 => rRg2 vs H1 R) : iRng2 tx σ H R := h
theorem i_rg2 (h1 : -(2 ^ 62) ≤ i ∧ i < 2 ^ 62 ∧ -(2 ^ 62) ≤ j ∧ j < 2 ^ 62) (h : R (Itr i (j - i).toNat) H) : rRg2 [.int i, .int j] H R := ⟨i, j, rfl, h1, h⟩
theorem i_iRng3 (h : tx σ H fun vs H1 => rRg3 vs H1 R) : iRng3 tx σ H R := h
theorem i_iEnum (h : tx σ H fun vs H1 => rEn K vs H1 R) : iEnum K tx σ H R := h
theorem i_en (h1 : SqL K H a xs) (h : R (Ite K a) H) : rEn K [.ref a] H R := ⟨a, xs, rfl, h1, h⟩
theorem i_iZip (h : tx σ H fun vs H1 => rZp K vs H1 R) : iZip K tx σ H R := h
theorem i_zp {b : Addr} (h1 : SqL K H a xs) (h2 : SqL K H b ys) (h : R (Itz K a b) H) : rZp K [.ref a, .ref b] H R := ⟨a, b, xs, ys, rfl, h1, h2, h⟩
end
-- expressions
theorem i_var {m : Nat} (hx : σ[m]? = some (some v)) (h : Q v H) : tVar m σ H Q := ⟨v, hx, h⟩
theorem i_c (h : Q v H) : tC v σ H Q := h
theorem i_op (h : ta σ H fun x H1 => tb σ H1 fun y H2 => r x y H2 Q) : tOp r ta tb σ H Q := h
theorem i_un {r : V → Hp → VK → Prop} (h : ta σ H fun x H1 => r x H1 Q) : tUn r ta σ H Q := h
theorem i_rU {g : Int → V} (h : Q (g i) H) : rU g (.int i) H Q := ⟨i, rfl, h⟩
theorem i_I0 {g : Int → Int → V} (h : Q (g i j) H) : rI0 g (.int i) (.int j) H Q := ⟨i, j, rfl, rfl, h⟩
theorem i_I {C : Int → Int → Prop} {g : Int → Int → V} (hc : C i j) (h : Q (g i j) H) : rI C g (.int i) (.int j) H Q := ⟨i, j, rfl, rfl, hc, h⟩
theorem i_addI (h : Q (.int (i + j)) H) : rAddA (.int i) (.int j) H Q := .inl (i_I0 h)
theorem i_cat {b : Addr} (T : Tr B L H) (h1 : H a = some (.lst xs)) (h2 : H b = some (.lst ys)) (hz : xs.length + ys.length ≤ sizeLine)
    (h : ∀ p H', Tr B ((p, .lst (xs ++ ys)) :: L) H' → Q (.ref p) H') : rAddA (.ref a) (.ref b) H Q :=
  .inr ⟨a, b, xs, ys, rfl, rfl, h1, h2, hz, fun p hp => h p _ (T.new hp)⟩
theorem i_mulI (hc : CMulW i j) (h : Q (.int (i * j)) H) : rMulA (.int i) (.int j) H Q := .inl (i_I hc h)
theorem i_rep (T : Tr B L H) (h1 : H a = some (.lst xs)) (hk : -(2 ^ 63) ≤ k) (hk2 : k < 2 ^ 63) (hz : xs.length * k.toNat ≤ sizeLine)
    (h : ∀ p H', Tr B ((p, .lst ((List.replicate k.toNat xs).flatten)) :: L) H' → Q (.ref p) H') : rMulA (.ref a) (.int k) H Q :=
  .inr ⟨a, k, xs, rfl, rfl, h1, hk, hk2, hz, fun p hp => h p _ (T.new hp)⟩
theorem i_fdiv (h0 : 0 < j) (hb : j.natAbs < 2 ^ 60) (h : Q (.int (i / j)) H) : rI CDivW (fun i j => .int (i / j)) (.int i) (.int j) H Q := i_I (wide_div h0 hb (by decide) (by decide)) h
theorem i_mod (h0 : 0 < j) (h : Q (.int (i % j)) H) : rI (fun _ j => 0 < j) (fun i j => .int (i % j)) (.int i) (.int j) H Q := i_I h0 h
theorem i_pow (hc : (0 ≤ j ∧ j ≤ 1000000) ∧ i.natAbs < 2 ^ 64) (e : i ^ j.toNat = n) (h : Q (.int n) H) : rI CPow (fun i j => .int (i ^ j.toNat)) (.int i) (.int j) H Q := i_I ⟨hc.1.1, hc.1.2, hc.2⟩ (by rw [e]; exact h)
theorem i_sq (hc : i.natAbs < 2 ^ 64) (h : Q (.int (i * i)) H) : rI CPow (fun i j => .int (i ^ j.toNat)) (.int i) (.int 2) H Q := i_pow (n := i * i) ⟨⟨by decide, by decide⟩, hc⟩ (by show i ^ 2 = i * i; rw [Int.pow_succ, Int.pow_succ, Int.pow_zero, Int.one_mul]) h
theorem dec_int : decide (V.int i = V.int j) = decide (i = j) := by
  by_cases h : i = j
  · rw [decide_eq_true h, decide_eq_true (by rw [h])]
  · rw [decide_eq_false h, decide_eq_false (fun e => h (V.int.inj e))]
theorem dec_bl {a b : Bool} : decide (V.bl a = V.bl b) = decide (a = b) := by cases a <;> cases b <;> rfl
theorem i_eqI (h : Q (.bl (decide (i = j))) H) : rEqA K (.int i) (.int j) H Q := .inl ⟨rfl, by rw [dec_int]; exact h⟩
theorem i_neI (h : Q (.bl (!decide (i = j))) H) : rNeA K (.int i) (.int j) H Q := .inl ⟨rfl, by rw [dec_int]; exact h⟩
theorem i_eqB {a b : Bool} (h : Q (.bl (decide (a = b))) H) : rEqA K (.bl a) (.bl b) H Q := .inl ⟨rfl, by rw [dec_bl]; exact h⟩
theorem i_neB {a b : Bool} (h : Q (.bl (!decide (a = b))) H) : rNeA K (.bl a) (.bl b) H Q := .inl ⟨rfl, by rw [dec_bl]; exact h⟩
theorem i_eqD {d e : PyData} (h1 : Dp K H x d) (h2 : Dp K H y e) (s1 : SeqAt.shaped d = true) (s2 : SeqAt.shaped e = true) (h : Q (.bl (PyData.eqv d e)) H) : rEqA K x y H Q := .inr ⟨d, e, h1, h2, s1, s2, h⟩
theorem i_neD {d e : PyData} (h1 : Dp K H x d) (h2 : Dp K H y e) (s1 : SeqAt.shaped d = true) (s2 : SeqAt.shaped e = true) (h : Q (.bl (!PyData.eqv d e)) H) : rNeA K x y H Q := .inr ⟨d, e, h1, h2, s1, s2, h⟩
theorem i_isN (h : Q (.bl (decide (x = .non))) H) : rIsN x .non H Q := ⟨rfl, h⟩
theorem i_notN (h : Q (.bl (!decide (x = .non))) H) : rNotN x .non H Q := ⟨rfl, h⟩
theorem i_ixL (h1 : SqL K H a xs) (h2 : atI xs i = some v) (h : Q v H) : rIx K (.ref a) (.int i) H Q := .inl ⟨a, xs, i, v, rfl, rfl, h1, h2, h⟩
theorem i_ixT (h1 : SqT K H a xs) (h2 : atI xs i = some v) (h : Q v H) : rIx K (.ref a) (.int i) H Q := .inr (.inl ⟨a, xs, i, v, rfl, rfl, h1, h2, h⟩)
theorem atI_int (h0 : 0 ≤ i) (h1 : i < ns.length) : atI (ns.map V.int) i = some (.int ns[i.toNat]!) := by
  obtain ⟨m, rfl⟩ : ∃ m : Nat, i = m := ⟨i.toNat, by omega⟩
  refine atI_nat ?_
  rw [List.getElem?_map, Int.toNat_natCast, List.getElem!_eq_getElem?_getD, List.getElem?_eq_getElem (by omega)]
  rfl
theorem i_ixI (h1 : SqL K H a (ns.map V.int)) (h0 : 0 ≤ i) (h2 : i < ns.length) (h : Q (.int ns[i.toNat]!) H) : rIx K (.ref a) (.int i) H Q := i_ixL h1 (atI_int h0 h2) h
theorem i_tcons {R : List V → Hp → Prop} (h : te σ H fun x H1 => tx σ H1 fun xs H2 => R (x :: xs) H2) : tCons te tx σ H R := h
theorem i_tnil {R : List V → Hp → Prop} (h : R [] H) : tNil σ H R := h
theorem i_ttup (h : tx σ H fun xs H1 => rTup xs H1 Q) : tTup tx σ H Q := h
theorem i_tup (T : Tr B L H) (hz : xs.length ≤ sizeLine) (h : ∀ p H', Tr B ((p, .tup xs) :: L) H' → Q (.ref p) H') : rTup xs H Q := ⟨hz, fun p hp => h p _ (T.new hp)⟩
theorem i_tlst (h : tx σ H fun xs H1 => rLst xs H1 Q) : tLst tx σ H Q := h
theorem i_lst (T : Tr B L H) (hz : xs.length ≤ sizeLine) (h : ∀ p H', Tr B ((p, .lst xs) :: L) H' → Q (.ref p) H') : rLst xs H Q := ⟨hz, fun p hp => h p _ (T.new hp)⟩
theorem i_call {sp : Sp} {E : XK} (h : tx σ H fun vs H1 => sp vs H1 Q E) : tCall sp [] E tx σ H Q := by
  have e : (fun (vs : List V) (H1 : Hp) => sp (vs ++ []) H1 Q E) = fun vs H1 => sp vs H1 Q E := by
    funext vs H1
    rw [List.append_nil]
  show tx σ H fun vs H1 => sp (vs ++ []) H1 Q E
  rw [e]
  exact h
theorem i_cb {r : List V → Hp → VK → Prop} (h : tx σ H fun vs H1 => r vs H1 Q) : tCB r tx σ H Q := h
theorem i_len (h1 : SqL K H a xs) (h : Q (.int xs.length) H) : rLen K [.ref a] H Q := ⟨a, xs, rfl, .inl h1, h⟩
theorem i_lenI (h1 : SqL K H a (ns.map V.int)) (h : Q (.int ns.length) H) : rLen K [.ref a] H Q := i_len h1 (by rw [List.length_map]; exact h)
theorem i_lenT (h1 : SqT K H a xs) (h : Q (.int xs.length) H) : rLen K [.ref a] H Q := ⟨a, xs, rfl, .inr h1, h⟩
theorem i_abs (h : Q (.int (if i < 0 then -i else i)) H) : rAbs [.int i] H Q := ⟨i, rfl, h⟩
theorem i_max2 (h : Q (.int (max i j)) H) : rMax2 [.int i, .int j] H Q := ⟨i, j, rfl, by
  rw [show (if j > i then j else i) = max i j by split <;> omega]
  exact h⟩
theorem i_min2 (h : Q (.int (min i j)) H) : rMin2 [.int i, .int j] H Q := ⟨i, j, rfl, by
  rw [show (if j < i then j else i) = min i j by split <;> omega]
  exact h⟩
theorem i_intI (h : Q (.int i) H) : rInt1 [.int i] H Q := .inl ⟨i, rfl, h⟩
theorem i_intB {k : Bool} (h : Q (.int (if k then 1 else 0)) H) : rInt1 [.bl k] H Q := .inr ⟨k, rfl, h⟩
theorem i_list (T : Tr B L H) (h1 : SqL K H a xs) (h : ∀ p H', Tr B ((p, .lst xs) :: L) H' → Q (.ref p) H') : rListOf K [.ref a] H Q := ⟨a, xs, rfl, .inl h1, fun p hp => h p _ (T.new hp)⟩
theorem i_listT (T : Tr B L H) (h1 : SqT K H a xs) (h : ∀ p H', Tr B ((p, .lst xs) :: L) H' → Q (.ref p) H') : rListOf K [.ref a] H Q := ⟨a, xs, rfl, .inr h1, fun p hp => h p _ (T.new hp)⟩
theorem i_sum (h1 : SqL K H a (ns.map V.int)) (h : Q (.int ns.sum) H) : rSum K [.ref a] H Q := ⟨a, ns, rfl, h1, h⟩
theorem i_max (h1 : SqL K H a (ns.map V.int)) (h0 : 0 < ns.length) (h : ∀ m, m ∈ ns → (∀ y, y ∈ ns → y ≤ m) → Q (.int m) H) : rMax K [.ref a] H Q := ⟨a, ns, rfl, h1, h0, h⟩
theorem i_min (h1 : SqL K H a (ns.map V.int)) (h0 : 0 < ns.length) (h : ∀ m, m ∈ ns → (∀ y, y ∈ ns → m ≤ y) → Q (.int m) H) : rMin K [.ref a] H Q := ⟨a, ns, rfl, h1, h0, h⟩
theorem i_sorted (T : Tr B L H) (h1 : SqL K H a (ns.map V.int)) (h : ∀ (ms : List Int) p H', ms.Perm ns → ms.Pairwise (· ≤ ·) → Tr B ((p, .lst (ms.map V.int)) :: L) H' → Q (.ref p) H') : rSortedI K [.ref a] H Q :=
  ⟨a, ns, rfl, h1, fun ms p h2 h3 hp => h ms p _ h2 h3 (T.new hp)⟩
theorem i_repr {d : PyData} (h1 : Dp K H x d) (h2 : d.showable = true) (h3 : d.hasDict = false) (h4 : d.depth ≤ 60) (h5 : d.shown.length ≤ sizeLine) (h : Q (.str d.shown) H) : rRepr K [x] H Q := ⟨x, d, rfl, h1, h2, h3, h4, h5, h⟩
-- methods
theorem i_bm {T : String} {r : V → List V → Hp → VK → Prop} (h : to σ H fun x H1 => rMt K T r tx σ x H1 Q) : tBM K T r to tx σ H Q := h
theorem i_mtL {r : V → List V → Hp → VK → Prop} (h1 : SqL K H a xs) (h : tx σ H fun zs H2 => r (.ref a) zs H2 Q) : rMt K "list" r tx σ (.ref a) H Q := ⟨.inl ⟨rfl, xs, h1⟩, h⟩
theorem i_append (m : Nat) (T : Tr B L H) (h1 : L[m]? = some (a, .lst xs)) (hz : xs.length < sizeLine) (h : ∀ H', Tr B (L.set m (a, .lst (xs ++ [y]))) H' → Q .non H') : rAppend (.ref a) [y] H Q :=
  ⟨a, xs, y, rfl, rfl, T.get m h1, hz, h _ (T.put m h1)⟩
theorem i_setL (m : Nat) {l : Nat} {R : Hp → Prop} (T : Tr B L H) (h1 : L[m]? = some (a, .lst xs)) (h2 : ixN xs.length i = some l) (h : ∀ H', Tr B (L.set m (a, .lst (xs.set l v))) H' → R H') : rSetL (.ref a) (.int i) v H R :=
  ⟨a, xs, i, l, rfl, rfl, T.get m h1, h2, h _ (T.put m h1)⟩
-- slices
theorem i_sl {r : V → Option Int → Option Int → Hp → VK → Prop} {tl th : TO} (h : te σ H fun x H1 => tl σ H1 fun l H2 => th σ H2 fun u H3 => r x l u H3 Q) : tSl r te tl th σ H Q := h
theorem i_nopart {R : Option Int → Hp → Prop} (h : R none H) : tNoPart σ H R := h
def rPart (x : V) (H : Hp) (R : Option Int → Hp → Prop) : Prop := ∃ i, x = .int i ∧ R (some i) H
theorem i_part {R : Option Int → Hp → Prop} (h : te σ H fun x H1 => rPart x H1 R) : tPart te σ H R := h
theorem i_partI {R : Option Int → Hp → Prop} (h : R (some i) H) : rPart (.int i) H R := ⟨i, rfl, h⟩
theorem i_slL {lo hi : Option Int} (T : Tr B L H) (h1 : SqL K H a xs) (h : ∀ p H', Tr B ((p, .lst (cutV xs lo hi)) :: L) H' → Q (.ref p) H') : rSlL K (.ref a) lo hi H Q := ⟨a, xs, rfl, h1, fun p hp => h p _ (T.new hp)⟩
-- tests
section
variable {R : Bool → Hp → Prop}
theorem i_test (h : te σ H fun x H1 => rBl x H1 R) : tTest te σ H R := h
theorem i_tB (h : te σ H fun x H1 => rBl x H1 R) : tB te σ H R := h
theorem i_bl {k : Bool} (h : R k H) : rBl (.bl k) H R := ⟨k, rfl, h⟩
theorem i_and (h : c σ H fun b H1 => if b = true then tt σ H1 R else R false H1) : tAnd c tt σ H R := h
theorem i_or (h : c σ H fun b H1 => if b = true then R true H1 else tt σ H1 R) : tOr c tt σ H R := h
theorem i_not (h : c σ H fun b H1 => R (!b) H1) : tNot c σ H R := h
end
def rBlV (x : V) (H : Hp) (R : Bool → Hp → Prop) : Prop := ∃ k, x = .bl k ∧ R k H
theorem i_andV (h : ta σ H fun x H1 => rBl x H1 fun k H2 => if k = true then tb σ H2 Q else Q (.bl false) H2) : tAndV ta tb σ H Q := h
theorem i_orV (h : ta σ H fun x H1 => rBl x H1 fun k H2 => if k = true then Q (.bl true) H2 else tb σ H2 Q) : tOrV ta tb σ H Q := h
theorem i_notV (h : ta σ H fun x H1 => rBl x H1 fun k H2 => Q (.bl (!k)) H2) : tNotV ta σ H Q := h
theorem i_ifE (h : c σ H fun b H1 => if b = true then ta σ H1 Q else tb σ H1 Q) : tIf c ta tb σ H Q := h
theorem i_chain (h : ta σ H fun x H1 => tb σ H1 fun y H2 => r x y H2 fun z H3 => rBl z H3 fun k H4 => if k = true then tc σ H4 fun w' H5 => r' y w' H5 Q else Q (.bl false) H4) : tChain r r' ta tb tc σ H Q := h
end

/-! ### branches -/
theorem i_T {A C : Prop} (h : A) : if true = true then A else C := by
  rw [if_pos rfl]
  exact h
theorem i_F {A C : Prop} (h : C) : if false = true then A else C := by
  rw [if_neg Bool.false_ne_true]
  exact h
theorem i_decT {p A C : Prop} [Decidable p] (hp : p) (h : A) : if decide p = true then A else C := by
  rw [if_pos (decide_eq_true hp)]
  exact h
theorem i_decF {p A C : Prop} [Decidable p] (hp : ¬ p) (h : C) : if decide p = true then A else C := by
  rw [if_neg (by rw [decide_eq_false hp]; exact Bool.false_ne_true)]
  exact h
theorem i_ndecT {p A C : Prop} [Decidable p] (hp : ¬ p) (h : A) : if (!decide p) = true then A else C := by
  rw [if_pos (by rw [decide_eq_false hp]; rfl)]
  exact h
theorem i_ndecF {p A C : Prop} [Decidable p] (hp : p) (h : C) : if (!decide p) = true then A else C := by
  rw [if_neg (by rw [decide_eq_true hp]; exact Bool.false_ne_true)]
  exact h
/-- both ways -/
theorem i_if {p A C : Prop} [Decidable p] (h1 : p → A) (h2 : ¬ p → C) : if decide p = true then A else C := by
  by_cases hp : p
  · exact i_decT hp (h1 hp)
  · exact i_decF hp (h2 hp)
theorem i_nif {p A C : Prop} [Decidable p] (h1 : ¬ p → A) (h2 : p → C) : if (!decide p) = true then A else C := by
  by_cases hp : p
  · exact i_ndecF hp (h2 hp)
  · exact i_ndecT hp (h1 hp)
theorem i_bif {b : Bool} {A C : Prop} (h1 : b = true → A) (h2 : b = false → C) : if b = true then A else C := by
  cases b with
  | true => exact i_T (h1 rfl)
  | false => exact i_F (h2 rfl)

/-! ### loops -/
section
variable {K : PySem.W.Frag} {H : Hp} {σ : L2.St} {nx bk ct : L2.St → Hp → Prop} {rt : VK} {g : TG} {tb : TS} {c : TT} {a : Addr} {xs : List V} {ns : List Int}
theorem f_list (Pv : Nat → L2.St → Hp → Prop) (h0 : Pv 0 σ H) (hl : ∀ i σ H, Pv i σ H → SqL K H a xs)
    (hs : ∀ i x σ H, xs[i]? = some x → Pv i σ H → g x σ H fun σ2 H2 => tb ⟨Pv (i + 1), rt, nx, Pv (i + 1)⟩ σ2 H2) (hd : ∀ σ H, Pv xs.length σ H → nx σ H) :
    rFor (Itl K a) g tb ⟨nx, rt, bk, ct⟩ σ H := for_list Pv h0 (fun i σ H _ h => hl i σ H h) hs hd
theorem f_ints (Pv : Nat → L2.St → Hp → Prop) (h0 : Pv 0 σ H) (hl : ∀ i σ H, Pv i σ H → SqL K H a (ns.map V.int))
    (hs : ∀ i n σ H, ns[i]? = some n → Pv i σ H → g (.int n) σ H fun σ2 H2 => tb ⟨Pv (i + 1), rt, nx, Pv (i + 1)⟩ σ2 H2) (hd : ∀ σ H, Pv ns.length σ H → nx σ H) :
    rFor (Itl K a) g tb ⟨nx, rt, bk, ct⟩ σ H := f_list (xs := ns.map V.int) Pv h0 hl (fun i x σ H e h => by
      rw [List.getElem?_map] at e
      cases z : ns[i]? with
      | none =>
        rw [z] at e
        cases e
      | some n =>
        rw [z] at e
        cases e
        exact hs i n σ H z h) (by rw [List.length_map]; exact hd)
theorem f_tup (Pv : Nat → L2.St → Hp → Prop) (h0 : Pv 0 σ H) (hl : ∀ i σ H, Pv i σ H → SqT K H a xs)
    (hs : ∀ i x σ H, xs[i]? = some x → Pv i σ H → g x σ H fun σ2 H2 => tb ⟨Pv (i + 1), rt, nx, Pv (i + 1)⟩ σ2 H2) (hd : ∀ σ H, Pv xs.length σ H → nx σ H) :
    rFor (Itt K a) g tb ⟨nx, rt, bk, ct⟩ σ H := for_tup Pv h0 (fun i σ H _ h => hl i σ H h) hs hd
theorem f_range {lo : Int} {n : Nat} (Pv : Nat → L2.St → Hp → Prop) (h0 : Pv 0 σ H)
    (hs : ∀ i σ H, i < n → Pv i σ H → g (.int (lo + i)) σ H fun σ2 H2 => tb ⟨Pv (i + 1), rt, nx, Pv (i + 1)⟩ σ2 H2) (hd : ∀ σ H, Pv n σ H → nx σ H) :
    rFor (Itr lo n) g tb ⟨nx, rt, bk, ct⟩ σ H := for_range Pv h0 hs hd
theorem f_rangeC {lo c : Int} {n : Nat} (Pv : Nat → L2.St → Hp → Prop) (h0 : Pv 0 σ H)
    (hs : ∀ i σ H, i < n → Pv i σ H → g (.int (lo + (i : Nat) * c)) σ H fun σ2 H2 => tb ⟨Pv (i + 1), rt, nx, Pv (i + 1)⟩ σ2 H2) (hd : ∀ σ H, Pv n σ H → nx σ H) :
    rFor (Itc lo c n) g tb ⟨nx, rt, bk, ct⟩ σ H := for_rangeC Pv h0 hs hd
/-- enumerate: a new pair each turn -/
theorem f_enum (Pv : Nat → L2.St → Hp → Prop) (h0 : Pv 0 σ H) (hl : ∀ i σ H, Pv i σ H → SqL K H a xs)
    (hs : ∀ i x σ H p, xs[i]? = some x → Pv i σ H → H p = none → g (.ref p) σ (upd H p (.tup [.int i, x])) fun σ2 H2 => tb ⟨Pv (i + 1), rt, nx, Pv (i + 1)⟩ σ2 H2)
    (hd : ∀ σ H, Pv xs.length σ H → nx σ H) : rFor (Ite K a) g tb ⟨nx, rt, bk, ct⟩ σ H := by
  refine ⟨fun i m σ H => m = xs.length - i ∧ i ≤ xs.length ∧ Pv i σ H, ⟨xs.length, by simp, Nat.zero_le _, h0⟩, ?_⟩
  rintro i m σ H ⟨rfl, hi, p⟩
  have q := hl i σ H p
  by_cases hlt : i < xs.length
  · refine .inr ⟨⟨xs, xs[i], q, by simp [hlt]⟩, Pv (i + 1), fun σ' H' p' => ⟨xs.length - (i + 1), by omega, rfl, hlt, p'⟩, fun x H' y => ?_⟩
    obtain ⟨T, v, rfl, hT, rfl, fv⟩ := y
    exact hs i v σ H T (fv xs q) p hT
  · have e : i = xs.length := by omega
    subst e
    exact .inl ⟨⟨xs, q, Nat.le_refl _⟩, hd σ H p⟩
/-- while, its invariant with a number that falls -/
def rTurn (Pv : Nat → L2.St → Hp → Prop) (m : Nat) (tb : TS) (D : Ends) (σ : L2.St) (H : Hp) : Prop :=
  ∃ N : L2.St → Hp → Prop, (∀ σ' H', N σ' H' → ∃ m', m' < m ∧ Pv m' σ' H') ∧ tb ⟨N, D.rt, D.nx, N⟩ σ H
theorem i_turn {Pv : Nat → L2.St → Hp → Prop} {m : Nat}
    (h : tb ⟨fun σ' H' => ∃ m', m' < m ∧ Pv m' σ' H', rt, nx, fun σ' H' => ∃ m', m' < m ∧ Pv m' σ' H'⟩ σ H) : rTurn Pv m tb ⟨nx, rt, bk, ct⟩ σ H := ⟨_, fun _ _ z => z, h⟩
theorem f_while (Pv : Nat → L2.St → Hp → Prop) (h0 : ∃ m, Pv m σ H)
    (hs : ∀ m σ H, Pv m σ H → c σ H fun b H1 => if b = true then rTurn Pv m tb ⟨nx, rt, bk, ct⟩ σ H1 else nx σ H1) : tWhile c tb ⟨nx, rt, bk, ct⟩ σ H :=
  ⟨Pv, h0, hs⟩
/-- if, its ways joined behind it -/
theorem f_cut {t u : TS} (Mid : L2.St → Hp → Prop) (h1 : t ⟨Mid, rt, bk, ct⟩ σ H) (h2 : ∀ σ' H', Mid σ' H' → u ⟨nx, rt, bk, ct⟩ σ' H') : C8.tCut t u ⟨nx, rt, bk, ct⟩ σ H := ⟨Mid, h1, h2⟩
end

/-! ### comprehensions -/
section
variable {K : PySem.W.Frag} {B H : Hp} {L : List (Addr × HO)} {σ : L2.St} {g : TG} {tt : TT} {te : TE} {vs : List Nat} {Q : VK} {a b : Addr} {xs ys : List V} {ns : List Int} {wi : TI}
theorem i_lc (h : wi σ H fun J H1 => rLc J g tt te vs σ H1 Q) : tLc wi g tt te vs σ H Q := h
theorem i_yes {R : Bool → Hp → Prop} (h : R true H) : tYes σ H R := h
theorem i_wipe {σ2 : L2.St} {P : Prop} (e : wipe σ2 vs = wipe σ vs) (h : P) : wipe σ2 vs = wipe σ vs ∧ P := ⟨e, h⟩
theorem i_elt (m : Nat) {D : Addr} {acc : List V} {Nx : Hp → Prop} {y : V} (T : Tr B L H) (h1 : L[m]? = some (D, .lst acc)) (hz : acc.length < sizeLine)
    (h : ∀ H', Tr B (L.set m (D, .lst (acc ++ [y]))) H' → Nx H') : rElt D Nx y H := ⟨acc, T.get m h1, hz, h _ (T.put m h1)⟩
theorem c_list (T : Tr B L H) (Pv : Addr → Nat → Hp → Prop) (h0 : ∀ D H', Tr B ((D, .lst []) :: L) H' → Pv D 0 H')
    (hl : ∀ D i H, Pv D i H → SqL K H a xs)
    (hs : ∀ D i x H, xs[i]? = some x → Pv D i H → g x (wipe σ vs) H fun σ2 H2 => wipe σ2 vs = wipe σ vs ∧ tt σ2 H2 fun b H3 =>
      if b = true then te σ2 H3 (rElt D (Pv D (i + 1))) else Pv D (i + 1) H3)
    (hd : ∀ D H', Pv D xs.length H' → Q (.ref D) H') : rLc (Itl K a) g tt te vs σ H Q := fun D hD =>
  lc_list (Pv D) (h0 D _ (T.new hD)) (fun i H _ h => hl D i H h) (hs D) (hd D)
theorem c_ints (T : Tr B L H) (Pv : Addr → Nat → Hp → Prop) (h0 : ∀ D H', Tr B ((D, .lst []) :: L) H' → Pv D 0 H')
    (hl : ∀ D i H, Pv D i H → SqL K H a (ns.map V.int))
    (hs : ∀ D i n H, ns[i]? = some n → Pv D i H → g (.int n) (wipe σ vs) H fun σ2 H2 => wipe σ2 vs = wipe σ vs ∧ tt σ2 H2 fun b H3 =>
      if b = true then te σ2 H3 (rElt D (Pv D (i + 1))) else Pv D (i + 1) H3)
    (hd : ∀ D H', Pv D ns.length H' → Q (.ref D) H') : rLc (Itl K a) g tt te vs σ H Q :=
  c_list (xs := ns.map V.int) T Pv h0 hl (fun D i x H e h => by
    rw [List.getElem?_map] at e
    cases z : ns[i]? with
    | none =>
      rw [z] at e
      cases e
    | some n =>
      rw [z] at e
      cases e
      exact hs D i n H z h) (by rw [List.length_map]; exact hd)
theorem c_range {lo : Int} {n : Nat} (T : Tr B L H) (Pv : Addr → Nat → Hp → Prop) (h0 : ∀ D H', Tr B ((D, .lst []) :: L) H' → Pv D 0 H')
    (hs : ∀ D i H, i < n → Pv D i H → g (.int (lo + i)) (wipe σ vs) H fun σ2 H2 => wipe σ2 vs = wipe σ vs ∧ tt σ2 H2 fun b H3 =>
      if b = true then te σ2 H3 (rElt D (Pv D (i + 1))) else Pv D (i + 1) H3)
    (hd : ∀ D H', Pv D n H' → Q (.ref D) H') : rLc (Itr lo n) g tt te vs σ H Q := fun D hD =>
  lc_range (Pv D) (h0 D _ (T.new hD)) (hs D) (hd D)
/-- over a zip: as long as both have items -/
theorem c_zip (T : Tr B L H) (Pv : Addr → Nat → Hp → Prop) (h0 : ∀ D H', Tr B ((D, .lst []) :: L) H' → Pv D 0 H')
    (hl : ∀ D i H, Pv D i H → SqL K H a xs ∧ SqL K H b ys) (hlen : xs.length = ys.length)
    (hs : ∀ D i x y H p, xs[i]? = some x → ys[i]? = some y → Pv D i H → H p = none → g (.ref p) (wipe σ vs) (upd H p (.tup [x, y])) fun σ2 H2 => wipe σ2 vs = wipe σ vs ∧ tt σ2 H2 fun b H3 =>
      if b = true then te σ2 H3 (rElt D (Pv D (i + 1))) else Pv D (i + 1) H3)
    (hd : ∀ D H', Pv D xs.length H' → Q (.ref D) H') : rLc (Itz K a b) g tt te vs σ H Q := fun D hD => by
  refine ⟨fun i m H => m = xs.length - i ∧ i ≤ xs.length ∧ Pv D i H, ⟨xs.length, by simp, Nat.zero_le _, h0 D _ (T.new hD)⟩, ?_⟩
  rintro i m H ⟨rfl, hi, p⟩
  obtain ⟨q1, q2⟩ := hl D i H p
  by_cases hlt : i < xs.length
  · have hy : i < ys.length := by omega
    refine .inr ⟨⟨xs, ys, xs[i], ys[i], q1, q2, by simp [hlt], by simp [hy]⟩, Pv D (i + 1), fun H' p' => ⟨xs.length - (i + 1), by omega, rfl, hlt, p'⟩, fun x H' y => ?_⟩
    obtain ⟨t, u, v, rfl, hT, rfl, f1, f2⟩ := y
    exact hs D i u v H t (f1 xs q1) (f2 ys q2) p hT
  · have e : i = xs.length := by omega
    subst e
    exact .inl ⟨⟨xs, ys, q1, q2, .inl (Nat.le_refl _)⟩, hd D H p⟩
theorem c_enum (T : Tr B L H) (Pv : Addr → Nat → Hp → Prop) (h0 : ∀ D H', Tr B ((D, .lst []) :: L) H' → Pv D 0 H')
    (hl : ∀ D i H, Pv D i H → SqL K H a xs)
    (hs : ∀ D i x H p, xs[i]? = some x → Pv D i H → H p = none → g (.ref p) (wipe σ vs) (upd H p (.tup [.int i, x])) fun σ2 H2 => wipe σ2 vs = wipe σ vs ∧ tt σ2 H2 fun b H3 =>
      if b = true then te σ2 H3 (rElt D (Pv D (i + 1))) else Pv D (i + 1) H3)
    (hd : ∀ D H', Pv D xs.length H' → Q (.ref D) H') : rLc (Ite K a) g tt te vs σ H Q := fun D hD => by
  refine ⟨fun i m H => m = xs.length - i ∧ i ≤ xs.length ∧ Pv D i H, ⟨xs.length, by simp, Nat.zero_le _, h0 D _ (T.new hD)⟩, ?_⟩
  rintro i m H ⟨rfl, hi, p⟩
  have q := hl D i H p
  by_cases hlt : i < xs.length
  · refine .inr ⟨⟨xs, xs[i], q, by simp [hlt]⟩, Pv D (i + 1), fun H' p' => ⟨xs.length - (i + 1), by omega, rfl, hlt, p'⟩, fun x H' y => ?_⟩
    obtain ⟨t, v, rfl, hT, rfl, fv⟩ := y
    exact hs D i v H t (fv xs q) p hT
  · have e : i = xs.length := by omega
    subst e
    exact .inl ⟨⟨xs, q, Nat.le_refl _⟩, hd D H p⟩
end

/-! ### the names of the built-ins, the defs -/
structure Blt (mg : Str → Option Value) : Prop where
  abs_ : mg "abs" = none
  all_ : mg "all" = none
  bool_ : mg "bool" = none
  dict_ : mg "dict" = none
  enumerate_ : mg "enumerate" = none
  int_ : mg "int" = none
  isinstance_ : mg "isinstance" = none
  len_ : mg "len" = none
  list_ : mg "list" = none
  max_ : mg "max" = none
  min_ : mg "min" = none
  range_ : mg "range" = none
  repr_ : mg "repr" = none
  set_ : mg "set" = none
  sorted_ : mg "sorted" = none
  str_ : mg "str" = none
  sum_ : mg "sum" = none
  tuple_ : mg "tuple" = none
  zip_ : mg "zip" = none
  ValueError_ : mg "ValueError" = none
theorem mkFn {P : Program} {w : World} {K : PySem.W.Frag} {mg : Str → Option Value} {base : Heap} {x qual : Str} {params : Arguments} {body : List Stmt} {scope : Scope}
    {f : Addr} {fd : FuncData} {ps : List Str} {k : Nat} {sp : Sp} (F : FunD K x qual params body scope [] [] f fd) (hm : mg x = some (.ref f))
    (hb : ∀ (kV doc pm : Value) (an : Option Addr) (cdv ct : Value) (us : List Value), us.length = ps.length →
      bindArgs (PySem.W.fnOf x qual params body scope .none kV doc pm an cdv ct) ⟨us, []⟩ = pure (ps.zip us))
    (G : FnG P w K mg base k f fd ps sp) : Fn P w K mg base k x ps sp := ⟨f, fd, hm, F.kp, F.bindsN hb, G⟩
end PB

namespace PB
open PySem PySem.Spec PyProof.Rows L2
/-! ### lists of ints as data -/
def dI (ns : List Int) : PyData := .list (ns.map .int)
theorem dp_all {K : PySem.W.Frag} {H : Hp} : ∀ ns : List Int, DpAll K H (ns.map V.int) (ns.map PyData.int)
  | [] => .nil
  | n :: ns => .cons (.int n) (dp_all ns)
theorem dp_ints {K : PySem.W.Frag} {H : Hp} {a : Addr} {ns : List Int} (h : SqL K H a (ns.map V.int)) : Dp K H (.ref a) (dI ns) := .lst h (dp_all ns)
theorem canLay_ints : ∀ ns : List Int, PyData.canLayAll0 (ns.map PyData.int) = true
  | [] => by simp [PyData.canLayAll0]
  | n :: ns => by
    simp only [List.map_cons, PyData.canLayAll0, PyData.canLay0, canLay_ints ns, Bool.and_self]
theorem depth_ints : ∀ ns : List Int, PyData.depthAll (ns.map PyData.int) = 0
  | [] => by simp [PyData.depthAll]
  | n :: ns => by
    simp only [List.map_cons, PyData.depthAll, PyData.depth, depth_ints ns, Nat.max_self]
theorem dI_depth (ns : List Int) : (dI ns).depth = 1 := by
  unfold dI
  rw [PyData.depth, depth_ints]
theorem shaped_ints (ns : List Int) : SeqAt.shaped (dI ns) = true := by
  unfold SeqAt.shaped
  rw [dI_depth]
  unfold dI
  rw [PyData.canLay0, canLay_ints]
  rfl
theorem showable_ints : ∀ ns : List Int, (∀ n ∈ ns, n.natAbs < 2 ^ 64) → PyData.showableAll (ns.map PyData.int) = true
  | [], _ => by simp [PyData.showableAll]
  | n :: ns, h => by
    have h1 : n.natAbs.log2 < 1920 := by
      have h2 := h n List.mem_cons_self
      have h3 : n.natAbs.log2 < 64 := PySem.Flt.log2_lt_of (by decide) h2
      omega
    simp only [List.map_cons, PyData.showableAll, PyData.showable, showable_ints ns (fun m hm => h m (List.mem_cons_of_mem _ hm)), Bool.and_true, decide_eq_true_eq]
    exact h1
theorem dI_showable {ns : List Int} (h : ∀ n ∈ ns, n.natAbs < 2 ^ 64) : (dI ns).showable = true := by
  unfold dI
  rw [PyData.showable, showable_ints ns h]
theorem nodict_ints : ∀ ns : List Int, PyData.hasDictAll (ns.map PyData.int) = false
  | [] => by simp [PyData.hasDictAll]
  | n :: ns => by
    simp only [List.map_cons, PyData.hasDictAll, PyData.hasDict, nodict_ints ns, Bool.or_self]
theorem dI_nodict (ns : List Int) : (dI ns).hasDict = false := by
  unfold dI
  rw [PyData.hasDict, nodict_ints]
theorem short_ints : ∀ ns : List Int, (∀ n ∈ ns, n.natAbs < 2 ^ 64) → PyData.leavesShortAll 65 (ns.map PyData.int) = true
  | [], _ => by simp [PyData.leavesShortAll]
  | n :: ns, h => by
    have h1 : (toString n).length ≤ 64 + 1 := int_text_length_le (by decide) (PySem.Flt.log2_lt_of (by decide) (h n List.mem_cons_self))
    simp only [List.map_cons, PyData.leavesShortAll, PyData.leavesShort, short_ints ns (fun m hm => h m (List.mem_cons_of_mem _ hm)), Bool.and_true, decide_eq_true_eq]
    show (Str.ofString (toString n)).length ≤ 65
    rw [PySem.ofString_length]
    exact h1
theorem weight_ints : ∀ ns : List Int, (∀ n ∈ ns, n.natAbs < 2 ^ 64) → PyData.weightAll (ns.map PyData.int) ≤ 66 * ns.length
  | [], _ => by simp [PyData.weightAll]
  | n :: ns, h => by
    have ih := weight_ints ns (fun m hm => h m (List.mem_cons_of_mem _ hm))
    have h3 : n.natAbs.log2 < 64 := PySem.Flt.log2_lt_of (by decide) (h n List.mem_cons_self)
    rw [List.map_cons, PyData.weightAll, PyData.weight, List.length_cons]
    split <;> omega
theorem dI_shown {ns : List Int} (h : ∀ n ∈ ns, n.natAbs < 2 ^ 64) (hl : ns.length ≤ 3000) : (dI ns).shown.length ≤ sizeLine := by
  have h1 : (dI ns).leavesShort 65 = true := by
    unfold dI
    rw [PyData.leavesShort, short_ints ns h]
  have h2 := PyData.shown_le 65 (by decide) (dI ns) h1
  have h3 : (dI ns).weight ≤ 66 * ns.length := by
    unfold dI
    rw [PyData.weight]
    exact weight_ints ns h
  rw [sizeLine_eq]
  have h4 : (65 + 2) * (dI ns).weight ≤ 67 * (66 * ns.length) := Nat.mul_le_mul_left _ h3
  omega
theorem eqv_ints : ∀ ns ms : List Int, PyData.eqvAll (ns.map .int) (ms.map .int) = decide (ns = ms)
  | [], [] => by simp [PyData.eqvAll]
  | [], m :: ms => by simp [PyData.eqvAll]
  | n :: ns, [] => by simp [PyData.eqvAll]
  | n :: ns, m :: ms => by
    rw [List.map_cons, List.map_cons, PyData.eqvAll, PyData.eqv, eqv_ints ns ms]
    by_cases h : n = m <;> by_cases h2 : ns = ms <;> simp [h, h2]
theorem dI_eqv (ns ms : List Int) : PyData.eqv (dI ns) (dI ms) = decide (ns = ms) := by
  unfold dI
  rw [PyData.eqv, eqv_ints]
section
variable {K : PySem.W.Frag} {B H : Hp} {Q : VK} {a b : Addr} {ns ms : List Int} {x : V}
theorem i_eqLI (h1 : SqL K H a (ns.map V.int)) (h2 : SqL K H b (ms.map V.int)) (h : Q (.bl (decide (ns = ms))) H) : rEqA K (.ref a) (.ref b) H Q :=
  i_eqD (dp_ints h1) (dp_ints h2) (shaped_ints _) (shaped_ints _) (by rw [dI_eqv]; exact h)
theorem i_neLI (h1 : SqL K H a (ns.map V.int)) (h2 : SqL K H b (ms.map V.int)) (h : Q (.bl (!decide (ns = ms))) H) : rNeA K (.ref a) (.ref b) H Q :=
  i_neD (dp_ints h1) (dp_ints h2) (shaped_ints _) (shaped_ints _) (by rw [dI_eqv]; exact h)
theorem i_eqLnil (h1 : SqL K H a (ns.map V.int)) (h2 : SqL K H b []) (h : Q (.bl (decide (ns = []))) H) : rEqA K (.ref a) (.ref b) H Q :=
  i_eqLI (ms := []) h1 h2 h
theorem i_neLnil (h1 : SqL K H a (ns.map V.int)) (h2 : SqL K H b []) (h : Q (.bl (!decide (ns = []))) H) : rNeA K (.ref a) (.ref b) H Q :=
  i_neLI (ms := []) h1 h2 h
/-- the text of a list of ints, kept closed -/
def txt (ns : List Int) : Str := (dI ns).shown
theorem i_reprI (h1 : SqL K H a (ns.map V.int)) (hn : ∀ n ∈ ns, n.natAbs < 2 ^ 64) (hl : ns.length ≤ 3000) (h : Q (.str (txt ns)) H) : rRepr K [.ref a] H Q :=
  i_repr (dp_ints h1) (dI_showable hn) (dI_nodict ns) (by rw [dI_depth]; decide) (dI_shown hn hl) h
theorem i_eqS {s t : Str} (h : Q (.bl (decide (s = t))) H) : rEqA K (.str s) (.str t) H Q := .inl ⟨rfl, by
  rw [show decide (V.str s = V.str t) = decide (s = t) by
    by_cases e : s = t
    · rw [decide_eq_true e, decide_eq_true (by rw [e])]
    · rw [decide_eq_false e, decide_eq_false (fun z => e (V.str.inj z))]]
  exact h⟩
theorem i_neS {s t : Str} (h : Q (.bl (!decide (s = t))) H) : rNeA K (.str s) (.str t) H Q := .inl ⟨rfl, by
  rw [show decide (V.str s = V.str t) = decide (s = t) by
    by_cases e : s = t
    · rw [decide_eq_true e, decide_eq_true (by rw [e])]
    · rw [decide_eq_false e, decide_eq_false (fun z => e (V.str.inj z))]]
  exact h⟩
theorem i_isi {T c : String} {k : Bool} (ht : TyX K H x (.type T)) (hk : kitB T c = some k) (h : Q (.bl k) H) : rIsi K [x, .ty c] H Q := ⟨x, .ty c, _, _, k, rfl, ClsV.ty c, ht, kit_ty hk, h⟩
theorem kit_ii : kitB "int" "int" = some true := by decide +kernel
theorem kit_ib : kitB "int" "bool" = some false := by decide +kernel
theorem i_isiI {n : Int} (h : Q (.bl true) H) : rIsi K [.int n, .ty "int"] H Q := i_isi (.base (.int n)) kit_ii h
theorem i_isiB {n : Int} (h : Q (.bl false) H) : rIsi K [.int n, .ty "bool"] H Q := i_isi (.base (.int n)) kit_ib h
end
/-! ### slices of lists of ints -/
theorem cut_map (ns : List Int) (lo hi : Option Int) : cutV (ns.map V.int) lo hi = (((ns.drop (HT.sIx ns.length 0 lo)).take (HT.sIx ns.length ns.length hi - HT.sIx ns.length 0 lo)).map V.int) := by
  unfold cutV
  rw [List.length_map, ← List.map_drop, ← List.map_take]
theorem sIx_of {n d : Nat} {i : Int} (h0 : 0 ≤ i) : HT.sIx n d (some i) = min i.toNat n := by
  show (if i < 0 then (i + (n : Int)).toNat else min i.toNat n) = min i.toNat n
  rw [if_neg (by omega)]
theorem rep_one {α : Type} (x : α) : ∀ n : Nat, (List.replicate n [x]).flatten = List.replicate n x
  | 0 => rfl
  | n + 1 => by rw [List.replicate_succ, List.flatten_cons, rep_one x n]; rfl
theorem i_nT {A C : Prop} (h : C) : if (!true) = true then A else C := by
  rw [if_neg (by decide)]
  exact h
theorem i_nF {A C : Prop} (h : A) : if (!false) = true then A else C := by
  rw [if_pos (by decide)]
  exact h
/-- the part of a list of ints -/
def cutI (ns : List Int) (lo hi : Option Int) : List Int := (ns.drop (HT.sIx ns.length 0 lo)).take (HT.sIx ns.length ns.length hi - HT.sIx ns.length 0 lo)
theorem cutI_length (ns : List Int) (lo hi : Option Int) : (cutI ns lo hi).length ≤ ns.length := by
  unfold cutI
  rw [List.length_take, List.length_drop]
  omega
theorem cutI_from (ns : List Int) {i : Int} (h0 : 0 ≤ i) : cutI ns (some i) none = ns.drop i.toNat := by
  unfold cutI
  rw [sIx_of h0, HT.sIx_none]
  by_cases h : i.toNat ≤ ns.length
  · rw [Nat.min_eq_left h, List.take_of_length_le (by rw [List.length_drop]; omega)]
  · rw [Nat.min_eq_right (by omega), List.drop_eq_nil_of_le (Nat.le_refl _), List.drop_eq_nil_of_le (by omega), List.take_nil]
theorem cutI_to (ns : List Int) {i : Int} (h0 : 0 ≤ i) : cutI ns none (some i) = ns.take i.toNat := by
  unfold cutI
  rw [sIx_of h0, HT.sIx_none]
  show ns.take (min i.toNat ns.length - 0) = _
  rw [Nat.sub_zero]
  by_cases h : i.toNat ≤ ns.length
  · rw [Nat.min_eq_left h]
  · rw [Nat.min_eq_right (by omega), List.take_of_length_le (Nat.le_refl _), List.take_of_length_le (by omega)]
theorem cutI_mid (ns : List Int) {i j : Int} (h0 : 0 ≤ i) (h1 : i ≤ j) (h2 : j ≤ ns.length) : cutI ns (some i) (some j) = (ns.drop i.toNat).take (j.toNat - i.toNat) := by
  unfold cutI
  rw [sIx_of h0, sIx_of (by omega), Nat.min_eq_left (by omega), Nat.min_eq_left (by omega)]
section
variable {K : PySem.W.Frag} {B H : Hp} {L : List (Addr × HO)} {Q : VK} {a b p : Addr} {ns ms : List Int} {x y n i k : Int} {te : TE} {σ : L2.St}
theorem i_tLE (h : te σ H fun x H1 => rLE K x H1 Q) : tLE K te σ H Q := h
theorem i_lst1 (T : Tr B L H) (h : ∀ p H', Tr B ((p, .lst ([x].map V.int)) :: L) H' → Q (.ref p) H') : rLst [.int x] H Q := i_lst T (show 1 ≤ sizeLine by decide) h
theorem i_lst2 (T : Tr B L H) (h : ∀ p H', Tr B ((p, .lst ([x, y].map V.int)) :: L) H' → Q (.ref p) H') : rLst [.int x, .int y] H Q := i_lst T (show 2 ≤ sizeLine by decide) h
theorem i_repI (T : Tr B L H) (h1 : H a = some (.lst ([x].map V.int))) (hk : -(2 ^ 63) ≤ k) (hk2 : k < 2 ^ 63) (hz : k.toNat ≤ sizeLine)
    (h : ∀ p H', Tr B ((p, .lst ((List.replicate k.toNat x).map V.int)) :: L) H' → Q (.ref p) H') : rMulA (.ref a) (.int k) H Q :=
  i_rep (xs := [.int x]) T h1 hk hk2 (by rw [List.length_singleton, Nat.one_mul]; exact hz) (by
    rw [rep_one, ← List.map_replicate]
    exact h)
theorem i_catI (T : Tr B L H) (h1 : H a = some (.lst (ns.map V.int))) (h2 : H b = some (.lst (ms.map V.int))) (hz : ns.length + ms.length ≤ sizeLine)
    (h : ∀ p H', Tr B ((p, .lst ((ns ++ ms).map V.int)) :: L) H' → Q (.ref p) H') : rAddA (.ref a) (.ref b) H Q :=
  i_cat T h1 h2 (by rw [List.length_map, List.length_map]; exact hz) (by rw [← List.map_append]; exact h)
theorem i_slI {lo hi : Option Int} (T : Tr B L H) (h1 : SqL K H a (ns.map V.int)) (h : ∀ p H', Tr B ((p, .lst ((cutI ns lo hi).map V.int)) :: L) H' → Q (.ref p) H') : rSlL K (.ref a) lo hi H Q :=
  i_slL T h1 (by rw [cut_map]; exact h)
theorem i_appendI (m : Nat) (T : Tr B L H) (h1 : L[m]? = some (a, .lst (ns.map V.int))) (hz : ns.length < sizeLine) (h : ∀ H', Tr B (L.set m (a, .lst ((ns ++ [n]).map V.int))) H' → Q .non H') : rAppend (.ref a) [.int n] H Q :=
  i_append m T h1 (by rw [List.length_map]; exact hz) (by
    rw [List.map_append] at h
    exact h)
theorem i_eltI (m : Nat) {D : Addr} {Nx : Hp → Prop} (T : Tr B L H) (h1 : L[m]? = some (D, .lst (ns.map V.int))) (hz : ns.length < sizeLine)
    (h : ∀ H', Tr B (L.set m (D, .lst ((ns ++ [n]).map V.int))) H' → Nx H') : rElt D Nx (.int n) H :=
  i_elt m T h1 (by rw [List.length_map]; exact hz) (by
    rw [List.map_append] at h
    exact h)
theorem ixN_int {n : Nat} {i : Int} (h0 : 0 ≤ i) (h1 : i < n) : ixN n i = some i.toNat := by
  unfold ixN
  rw [if_pos h0, if_pos h1]
theorem i_setI (m : Nat) {R : Hp → Prop} (T : Tr B L H) (h1 : L[m]? = some (a, .lst (ns.map V.int))) (h0 : 0 ≤ i) (h2 : i < ns.length)
    (h : ∀ H', Tr B (L.set m (a, .lst ((ns.set i.toNat n).map V.int))) H' → R H') : rSetL (.ref a) (.int i) (.int n) H R :=
  i_setL m (l := i.toNat) T h1 (ixN_int h0 (by rw [List.length_map]; exact h2)) (by
    rw [List.map_set] at h
    exact h)
end
/-- a call changes one object and lays a new one -/
theorem Tr.butAdd {B H H' : Hp} {L : List (Addr × HO)} {a p : Addr} {o o' u : HO} (T : Tr B L H) (i : Nat) (h : L[i]? = some (a, o)) (s : But [a] H H') (e : H' a = some o') (hp : H p = none) (e2 : H' p = some u) :
    Tr B ((p, u) :: L.set i (a, o')) H' := by
  have T1 := T.but i h s e
  have T2 := T.new (o := u) hp
  refine ⟨T1.base, fun q hq => ?_, fun q hq => ?_, ?_⟩
  · rcases List.mem_cons.mp hq with rfl | hq
    · exact e2
    · exact T1.at_ q hq
  · rcases List.mem_cons.mp hq with rfl | hq
    · exact T2.off (p, u) List.mem_cons_self
    · exact T1.off q hq
  · show (p :: (L.set i (a, o')).map (·.1)).Nodup
    rw [set_keys L i h]
    exact T2.nd
theorem get_mem {ns : List Int} {v : Int} (h0 : 0 ≤ v) (h1 : v < ns.length) : ns[v.toNat]! ∈ ns := by
  rw [List.getElem!_eq_getElem?_getD, List.getElem?_eq_getElem (by omega)]
  exact List.getElem_mem _
theorem get_bnd {ns : List Int} {lo hi : Int} (h : ∀ n ∈ ns, lo ≤ n ∧ n ≤ hi) {v : Int} (h0 : 0 ≤ v) (h1 : v < ns.length) : lo ≤ ns[v.toNat]! ∧ ns[v.toNat]! ≤ hi := h _ (get_mem h0 h1)

theorem Tr.swapDrop2 {B H : Hp} {x y : Addr × HO} {L : List (Addr × HO)} (T : Tr B (x :: y :: L) H) : Tr B (y :: L) H := T.drop
theorem Tr.swapDrop {B H : Hp} {x y : Addr × HO} {L : List (Addr × HO)} (T : Tr B (x :: y :: L) H) : Tr B (x :: L) H := by
  refine ⟨T.base, fun q hq => ?_, fun q hq => ?_, ?_⟩
  · rcases List.mem_cons.mp hq with rfl | hq
    · exact T.at_ _ List.mem_cons_self
    · exact T.at_ q (List.mem_cons_of_mem _ (List.mem_cons_of_mem _ hq))
  · rcases List.mem_cons.mp hq with rfl | hq
    · exact T.off _ List.mem_cons_self
    · exact T.off q (List.mem_cons_of_mem _ (List.mem_cons_of_mem _ hq))
  · have h := T.nd
    rw [List.map_cons, List.map_cons] at h
    rw [List.map_cons]
    obtain ⟨h1, h2⟩ := List.nodup_cons.mp h
    obtain ⟨h3, h4⟩ := List.nodup_cons.mp h2
    exact List.nodup_cons.mpr ⟨fun z => h1 (List.mem_cons_of_mem _ z), h4⟩
end PB

namespace PB
open PySem PySem.Spec PyProof.Rows L2
/-! ### the steps that ask nothing, found by the goal's head -/
class Step (P : Prop) (P' : outParam Prop) : Prop where
  h : P' → P
section
variable {K : PySem.W.Frag} {H : Hp} {σ : L2.St} {Q : VK} {t u : TS} {ta tb tc te to ti : TE} {tx : TA} {c tt : TT} {r r' : R2} {x y v w : V} {i j : Int} {xs : List V} {nx bk ct : L2.St → Hp → Prop} {rt : VK}
instance : Step (tSeq t u ⟨nx, rt, bk, ct⟩ σ H) (t ⟨u ⟨nx, rt, bk, ct⟩, rt, bk, ct⟩ σ H) := ⟨i_seq⟩
instance : Step (tNext ⟨nx, rt, bk, ct⟩ σ H) (nx σ H) := ⟨i_next⟩
instance : Step (tBreak ⟨nx, rt, bk, ct⟩ σ H) (bk σ H) := ⟨i_break⟩
instance : Step (tCont ⟨nx, rt, bk, ct⟩ σ H) (ct σ H) := ⟨i_cont⟩
instance : Step (tDrop te ⟨nx, rt, bk, ct⟩ σ H) (te σ H fun _ H1 => nx σ H1) := ⟨i_drop⟩
instance : Step (tRet te ⟨nx, rt, bk, ct⟩ σ H) (te σ H rt) := ⟨i_ret⟩
instance : Step (tRetN ⟨nx, rt, bk, ct⟩ σ H) (rt .non H) := ⟨i_retN⟩
instance : Step (tIfS c t u ⟨nx, rt, bk, ct⟩ σ H) (c σ H fun b H1 => if b = true then t ⟨nx, rt, bk, ct⟩ σ H1 else u ⟨nx, rt, bk, ct⟩ σ H1) := ⟨i_ifS⟩
instance {g : TG} : Step (tAsg te g ⟨nx, rt, bk, ct⟩ σ H) (te σ H fun x H1 => g x σ H1 nx) := ⟨i_asg⟩
instance {wi : TI} {g : TG} {tb : TS} : Step (tFor wi g tb ⟨nx, rt, bk, ct⟩ σ H) (wi σ H fun J H1 => rFor J g tb ⟨nx, rt, bk, ct⟩ σ H1) := ⟨i_for⟩
instance {m : Nat} {R : L2.St → Hp → Prop} : Step (gName m v σ H R) (R (σ.set m (some v)) H) := ⟨i_gName⟩
instance {n : Nat} {g : TGs} {R : L2.St → Hp → Prop} : Step (gTup K n g v σ H R) (rUnp K n g v σ H R) := ⟨i_gTup⟩
instance {g : TG} {gs : TGs} {R : L2.St → Hp → Prop} : Step (gCons g gs (x :: xs) σ H R) (g x σ H fun σ' H' => gs xs σ' H' R) := ⟨i_gCons⟩
instance {R : L2.St → Hp → Prop} : Step (gNil [] σ H R) (R σ H) := ⟨i_gNil⟩
instance {st : TSet} {R : L2.St → Hp → Prop} : Step (gSub to ti st v σ H R) (to σ H fun o H1 => ti σ H1 fun i H2 => st o i v H2 fun H3 => R σ H3) := ⟨i_gSub⟩
instance {f : Int → Int → Int} : Step (ipI f (.int i) (.int j) H Q) (Q (.int (f i j)) H) := ⟨i_ip⟩
section
variable {R : It → Hp → Prop}
instance : Step (iList K te σ H R) (te σ H fun x H1 => rItL K x H1 R) := ⟨i_iList⟩
instance : Step (iTup K te σ H R) (te σ H fun x H1 => rItT K x H1 R) := ⟨i_iTup⟩
instance : Step (iRng1 tx σ H R) (tx σ H fun vs H1 => rRg1 vs H1 R) := ⟨i_iRng1⟩
instance : Step (iRng2 tx σ H R) (tx σ H fun vs H1 => rRg2 vs H1 R) := ⟨i_iRng2⟩
instance : Step (iRng3 tx σ H R) (tx σ H fun vs H1 => rRg3 vs H1 R) := ⟨i_iRng3⟩
instance : Step (iEnum K tx σ H R) (tx σ H fun vs H1 => rEn K vs H1 R) := ⟨i_iEnum⟩
instance : Step (iZip K tx σ H R) (tx σ H fun vs H1 => rZp K vs H1 R) := ⟨i_iZip⟩
end
instance : Step (tC v σ H Q) (Q v H) := ⟨i_c⟩
instance : Step (tOp r ta tb σ H Q) (ta σ H fun x H1 => tb σ H1 fun y H2 => r x y H2 Q) := ⟨i_op⟩
instance {r : V → Hp → VK → Prop} : Step (tUn r ta σ H Q) (ta σ H fun x H1 => r x H1 Q) := ⟨i_un⟩
instance {g : Int → V} : Step (rU g (.int i) H Q) (Q (g i) H) := ⟨i_rU⟩
instance {g : Int → Int → V} : Step (rI0 g (.int i) (.int j) H Q) (Q (g i j) H) := ⟨i_I0⟩
instance : Step (rAddA (.int i) (.int j) H Q) (Q (.int (i + j)) H) := ⟨i_addI⟩
instance : Step (rEqA K (.int i) (.int j) H Q) (Q (.bl (decide (i = j))) H) := ⟨i_eqI⟩
instance : Step (rNeA K (.int i) (.int j) H Q) (Q (.bl (!decide (i = j))) H) := ⟨i_neI⟩
instance {a b : Bool} : Step (rEqA K (.bl a) (.bl b) H Q) (Q (.bl (decide (a = b))) H) := ⟨i_eqB⟩
instance {a b : Bool} : Step (rNeA K (.bl a) (.bl b) H Q) (Q (.bl (!decide (a = b))) H) := ⟨i_neB⟩
instance {s t : Str} : Step (rEqA K (.str s) (.str t) H Q) (Q (.bl (decide (s = t))) H) := ⟨i_eqS⟩
instance {s t : Str} : Step (rNeA K (.str s) (.str t) H Q) (Q (.bl (!decide (s = t))) H) := ⟨i_neS⟩
theorem i_isNI (h : Q (.bl false) H) : rIsN (.int i) .non H Q := i_isN h
theorem i_isNR {a : Addr} (h : Q (.bl false) H) : rIsN (.ref a) .non H Q := i_isN h
theorem i_isNN (h : Q (.bl true) H) : rIsN .non .non H Q := i_isN h
theorem i_notNI (h : Q (.bl true) H) : rNotN (.int i) .non H Q := i_notN h
theorem i_notNR {a : Addr} (h : Q (.bl true) H) : rNotN (.ref a) .non H Q := i_notN h
theorem i_notNN (h : Q (.bl false) H) : rNotN .non .non H Q := i_notN h
instance : Step (rIsN (.int i) .non H Q) (Q (.bl false) H) := ⟨i_isNI⟩
instance {a : Addr} : Step (rIsN (.ref a) .non H Q) (Q (.bl false) H) := ⟨i_isNR⟩
instance : Step (rIsN .non .non H Q) (Q (.bl true) H) := ⟨i_isNN⟩
instance : Step (rNotN (.int i) .non H Q) (Q (.bl true) H) := ⟨i_notNI⟩
instance {a : Addr} : Step (rNotN (.ref a) .non H Q) (Q (.bl true) H) := ⟨i_notNR⟩
instance : Step (rNotN .non .non H Q) (Q (.bl false) H) := ⟨i_notNN⟩
instance {R : List V → Hp → Prop} : Step (tCons te tx σ H R) (te σ H fun x H1 => tx σ H1 fun xs H2 => R (x :: xs) H2) := ⟨i_tcons⟩
instance {R : List V → Hp → Prop} : Step (tNil σ H R) (R [] H) := ⟨i_tnil⟩
instance : Step (tTup tx σ H Q) (tx σ H fun xs H1 => rTup xs H1 Q) := ⟨i_ttup⟩
instance : Step (tLst tx σ H Q) (tx σ H fun xs H1 => rLst xs H1 Q) := ⟨i_tlst⟩
instance {sp : Sp} {E : XK} : Step (tCall sp [] E tx σ H Q) (tx σ H fun vs H1 => sp vs H1 Q E) := ⟨i_call⟩
instance {r : List V → Hp → VK → Prop} : Step (tCB r tx σ H Q) (tx σ H fun vs H1 => r vs H1 Q) := ⟨i_cb⟩
instance : Step (rAbs [.int i] H Q) (Q (.int (if i < 0 then -i else i)) H) := ⟨i_abs⟩
instance : Step (rMax2 [.int i, .int j] H Q) (Q (.int (max i j)) H) := ⟨i_max2⟩
instance : Step (rMin2 [.int i, .int j] H Q) (Q (.int (min i j)) H) := ⟨i_min2⟩
instance : Step (rInt1 [.int i] H Q) (Q (.int i) H) := ⟨i_intI⟩
instance {k : Bool} : Step (rInt1 [.bl k] H Q) (Q (.int (if k then 1 else 0)) H) := ⟨i_intB⟩
instance : Step (rIsi K [.int i, .ty "int"] H Q) (Q (.bl true) H) := ⟨i_isiI⟩
instance : Step (rIsi K [.int i, .ty "bool"] H Q) (Q (.bl false) H) := ⟨i_isiB⟩
instance {T : String} {r : V → List V → Hp → VK → Prop} : Step (tBM K T r to tx σ H Q) (to σ H fun x H1 => rMt K T r tx σ x H1 Q) := ⟨i_bm⟩
instance {r : V → Option Int → Option Int → Hp → VK → Prop} {tl th : TO} : Step (tSl r te tl th σ H Q) (te σ H fun x H1 => tl σ H1 fun l H2 => th σ H2 fun u H3 => r x l u H3 Q) := ⟨i_sl⟩
instance {R : Option Int → Hp → Prop} : Step (tNoPart σ H R) (R none H) := ⟨i_nopart⟩
instance {R : Option Int → Hp → Prop} : Step (tPart te σ H R) (te σ H fun x H1 => rPart x H1 R) := ⟨i_part⟩
instance {R : Option Int → Hp → Prop} : Step (rPart (.int i) H R) (R (some i) H) := ⟨i_partI⟩
instance {R : Bool → Hp → Prop} : Step (tTest te σ H R) (te σ H fun x H1 => rBl x H1 R) := ⟨i_test⟩
instance {R : Bool → Hp → Prop} : Step (tB te σ H R) (te σ H fun x H1 => rBl x H1 R) := ⟨i_tB⟩
instance {R : Bool → Hp → Prop} {k : Bool} : Step (rBl (.bl k) H R) (R k H) := ⟨i_bl⟩
instance {R : Bool → Hp → Prop} : Step (tAnd c tt σ H R) (c σ H fun b H1 => if b = true then tt σ H1 R else R false H1) := ⟨i_and⟩
instance {R : Bool → Hp → Prop} : Step (tOr c tt σ H R) (c σ H fun b H1 => if b = true then R true H1 else tt σ H1 R) := ⟨i_or⟩
instance {R : Bool → Hp → Prop} : Step (tNot c σ H R) (c σ H fun b H1 => R (!b) H1) := ⟨i_not⟩
instance : Step (tAndV ta tb σ H Q) (ta σ H fun x H1 => rBl x H1 fun k H2 => if k = true then tb σ H2 Q else Q (.bl false) H2) := ⟨i_andV⟩
instance : Step (tOrV ta tb σ H Q) (ta σ H fun x H1 => rBl x H1 fun k H2 => if k = true then Q (.bl true) H2 else tb σ H2 Q) := ⟨i_orV⟩
instance : Step (tNotV ta σ H Q) (ta σ H fun x H1 => rBl x H1 fun k H2 => Q (.bl (!k)) H2) := ⟨i_notV⟩
instance : Step (tIf c ta tb σ H Q) (c σ H fun b H1 => if b = true then ta σ H1 Q else tb σ H1 Q) := ⟨i_ifE⟩
instance : Step (tChain r r' ta tb tc σ H Q) (ta σ H fun x H1 => tb σ H1 fun y H2 => r x y H2 fun z H3 => rBl z H3 fun k H4 => if k = true then tc σ H4 fun w' H5 => r' y w' H5 Q else Q (.bl false) H4) := ⟨i_chain⟩
instance {g : TG} {vs : List Nat} {wi : TI} : Step (tLc wi g tt te vs σ H Q) (wi σ H fun J H1 => rLc J g tt te vs σ H1 Q) := ⟨i_lc⟩
instance {R : Bool → Hp → Prop} : Step (tYes σ H R) (R true H) := ⟨i_yes⟩
instance : Step (tLE K te σ H Q) (te σ H fun x H1 => rLE K x H1 Q) := ⟨i_tLE⟩
instance {A C : Prop} : Step (if true = true then A else C) A := ⟨i_T⟩
instance {A C : Prop} : Step (if false = true then A else C) C := ⟨i_F⟩
instance {A C : Prop} : Step (if (!true) = true then A else C) C := ⟨i_nT⟩
instance {A C : Prop} : Step (if (!false) = true then A else C) A := ⟨i_nF⟩
instance {Pv : Nat → L2.St → Hp → Prop} {m : Nat} : Step (rTurn Pv m t ⟨nx, rt, bk, ct⟩ σ H) (t ⟨fun σ' H' => ∃ m', m' < m ∧ Pv m' σ' H', rt, nx, fun σ' H' => ∃ m', m' < m ∧ Pv m' σ' H'⟩ σ H) := ⟨i_turn⟩
/-! guards: is the head this one? -/
theorem g_var {m : Nat} (h : tVar m σ H Q) : tVar m σ H Q := h
theorem g_ix (h : rIx K x y H Q) : rIx K x y H Q := h
theorem g_len (h : rLen K xs H Q) : rLen K xs H Q := h
theorem g_add (h : rAddA x y H Q) : rAddA x y H Q := h
theorem g_mul (h : rMulA x y H Q) : rMulA x y H Q := h
theorem g_I {C : Int → Int → Prop} {g : Int → Int → V} (h : rI C g x y H Q) : rI C g x y H Q := h
theorem g_eq (h : rEqA K x y H Q) : rEqA K x y H Q := h
theorem g_ne (h : rNeA K x y H Q) : rNeA K x y H Q := h
theorem g_tup (h : rTup xs H Q) : rTup xs H Q := h
theorem g_lst (h : rLst xs H Q) : rLst xs H Q := h
theorem g_list (h : rListOf K xs H Q) : rListOf K xs H Q := h
theorem g_sl {lo hi : Option Int} (h : rSlL K x lo hi H Q) : rSlL K x lo hi H Q := h
theorem g_mt {T : String} {r : V → List V → Hp → VK → Prop} (h : rMt K T r tx σ x H Q) : rMt K T r tx σ x H Q := h
theorem g_app (h : rAppend x xs H Q) : rAppend x xs H Q := h
theorem g_set {R : Hp → Prop} (h : rSetL x y v H R) : rSetL x y v H R := h
theorem g_elt {D : Addr} {Nx : Hp → Prop} (h : rElt D Nx y H) : rElt D Nx y H := h
theorem g_unp {n : Nat} {g : TGs} {R : L2.St → Hp → Prop} (h : rUnp K n g v σ H R) : rUnp K n g v σ H R := h
theorem g_itL {R : It → Hp → Prop} (h : rItL K x H R) : rItL K x H R := h
theorem g_itT {R : It → Hp → Prop} (h : rItT K x H R) : rItT K x H R := h
theorem g_en {R : It → Hp → Prop} (h : rEn K xs H R) : rEn K xs H R := h
theorem g_zp {R : It → Hp → Prop} (h : rZp K xs H R) : rZp K xs H R := h
theorem g_rg1 {R : It → Hp → Prop} (h : rRg1 xs H R) : rRg1 xs H R := h
theorem g_rg2 {R : It → Hp → Prop} (h : rRg2 xs H R) : rRg2 xs H R := h
theorem g_sum (h : rSum K xs H Q) : rSum K xs H Q := h
theorem g_repr (h : rRepr K xs H Q) : rRepr K xs H Q := h
theorem g_ite {b : Bool} {A C : Prop} (h : if b = true then A else C) : if b = true then A else C := h
theorem g_wipe {vs : List Nat} {σ2 : L2.St} {P : Prop} (h : wipe σ2 vs = wipe σ vs ∧ P) : wipe σ2 vs = wipe σ vs ∧ P := h
theorem g_aug {m : Nat} {ip : TIp} {D : Ends} (h : tAug m te ip D σ H) : tAug m te ip D σ H := h
theorem g_sp {sp : Sp} {E : XK} (h : sp xs H Q E) : sp xs H Q E := h
end
end PB

namespace PB
open PySem PySem.Spec PyProof.Rows L2
section
variable {K : PySem.W.Frag} {B H : Hp} {L : List (Addr × HO)} {σ : L2.St} {g : TG} {tt : TT} {te : TE} {vs : List Nat} {Q : VK} {a b : Addr} {xs ys : List V} {ns ms : List Int}
theorem Tr.pick {x : Addr × HO} (T : Tr B L H) (i : Nat) (h : L[i]? = some x) : Tr B [x] H :=
  ⟨T.base, fun q hq => by rw [List.mem_singleton.mp hq]; exact T.at_ _ (List.mem_of_getElem? h), fun q hq => by rw [List.mem_singleton.mp hq]; exact T.off _ (List.mem_of_getElem? h), by simp⟩
theorem Tr.head {x : Addr × HO} (T : Tr B (x :: L) H) : Tr B [x] H := T.pick 0 rfl
theorem Tr.nil (T : Tr B L H) : Tr B [] H := ⟨T.base, (fun _ h => nomatch h), (fun _ h => nomatch h), List.nodup_nil⟩
theorem Tr.apart {o u : HO} (T : Tr B L H) (i j : Nat) (h : L[i]? = some (a, o)) (h2 : L[j]? = some (b, u)) (n : i ≠ j) : a ≠ b := fun e => by
  refine n ((List.getElem?_inj (l := L.map (·.1)) ?_ T.nd).mp ?_)
  · rw [List.length_map]
    exact (List.getElem?_eq_some_iff.mp h).1
  · rw [List.getElem?_map, List.getElem?_map, h, h2, e]
    rfl
/-- comprehensions that make ints, each of one item, all else standing: F the whole result -/
abbrev NxI (B : Hp) (L : List (Addr × HO)) (F : List Int) (D : Addr) (j : Nat) (H : Hp) : Prop := ∃ v, F[j]? = some v ∧ Tr B ((D, .lst ((F.take j ++ [v]).map V.int)) :: L) H
theorem nx_take {F : List Int} {D : Addr} {j : Nat} (h : NxI B L F D j H) : Tr B ((D, .lst ((F.take (j + 1)).map V.int)) :: L) H := by
  obtain ⟨v, hv, T⟩ := h
  rw [List.take_add_one, hv]
  exact T
theorem elt_imp {D : Addr} {N M : Hp → Prop} {y : V} (h : rElt D N y H) (i : ∀ H, N H → M H) : rElt D M y H := by
  obtain ⟨acc, h1, h2, h3⟩ := h
  exact ⟨acc, h1, h2, i _ h3⟩
theorem c_intsF {F : List Int} (T : Tr B L H) (hl : ∀ D o H', Tr B ((D, o) :: L) H' → SqL K H' a (ns.map V.int)) (hF : F.length = ns.length)
    (hs : ∀ D j n H', ns[j]? = some n → Tr B ((D, .lst ((F.take j).map V.int)) :: L) H' → g (.int n) (wipe σ vs) H' fun σ2 H2 => wipe σ2 vs = wipe σ vs ∧ tYes σ2 H2 fun b H3 =>
      if b = true then te σ2 H3 (rElt D fun H4 => Tr B ((D, .lst ((F.take (j + 1)).map V.int)) :: L) H4) else Tr B ((D, .lst ((F.take (j + 1)).map V.int)) :: L) H3)
    (hd : ∀ D H', Tr B ((D, .lst (F.map V.int)) :: L) H' → Q (.ref D) H') : rLc (Itl K a) g tYes te vs σ H Q :=
  c_ints T (fun D j H => Tr B ((D, .lst ((F.take j).map V.int)) :: L) H) (fun D H' T => T) (fun D j H T => hl D _ H T) hs
    (fun D H' T => hd D H' (by rw [← hF, List.take_length] at T; exact T))
theorem c_rangeF {F : List Int} {lo : Int} {n : Nat} (T : Tr B L H) (hF : F.length = n)
    (hs : ∀ D j H', j < n → Tr B ((D, .lst ((F.take j).map V.int)) :: L) H' → g (.int (lo + j)) (wipe σ vs) H' fun σ2 H2 => wipe σ2 vs = wipe σ vs ∧ tYes σ2 H2 fun b H3 =>
      if b = true then te σ2 H3 (rElt D fun H4 => Tr B ((D, .lst ((F.take (j + 1)).map V.int)) :: L) H4) else Tr B ((D, .lst ((F.take (j + 1)).map V.int)) :: L) H3)
    (hd : ∀ D H', Tr B ((D, .lst (F.map V.int)) :: L) H' → Q (.ref D) H') : rLc (Itr lo n) g tYes te vs σ H Q :=
  c_range T (fun D j H => Tr B ((D, .lst ((F.take j).map V.int)) :: L) H) (fun D H' T => T) hs
    (fun D H' T => hd D H' (by rw [← hF, List.take_length] at T; exact T))
theorem map_at {i : Nat} {x : V} (h : (ns.map V.int)[i]? = some x) : ∃ n, x = .int n ∧ ns[i]? = some n := by
  rw [List.getElem?_map] at h
  cases e : ns[i]? with
  | none =>
    rw [e] at h
    cases h
  | some n =>
    rw [e] at h
    exact ⟨n, (Option.some.inj h).symm, rfl⟩
theorem c_zipF {F : List Int} (T : Tr B L H) (hl : ∀ D o H', Tr B ((D, o) :: L) H' → SqL K H' a (ns.map V.int)) (hl2 : ∀ D o H', Tr B ((D, o) :: L) H' → SqL K H' b (ms.map V.int))
    (hlen : ns.length = ms.length) (hF : F.length = ns.length)
    (hs : ∀ D j n m p H', ns[j]? = some n → ms[j]? = some m → Tr B ((p, .tup [.int n, .int m]) :: (D, .lst ((F.take j).map V.int)) :: L) H' → g (.ref p) (wipe σ vs) H' fun σ2 H2 => wipe σ2 vs = wipe σ vs ∧ tYes σ2 H2 fun b H3 =>
      if b = true then te σ2 H3 (rElt D fun H4 => Tr B ((D, .lst ((F.take (j + 1)).map V.int)) :: L) H4) else Tr B ((D, .lst ((F.take (j + 1)).map V.int)) :: L) H3)
    (hd : ∀ D H', Tr B ((D, .lst (F.map V.int)) :: L) H' → Q (.ref D) H') : rLc (Itz K a b) g tYes te vs σ H Q :=
  c_zip (xs := ns.map V.int) (ys := ms.map V.int) T (fun D j H => Tr B ((D, .lst ((F.take j).map V.int)) :: L) H) (fun D H' T => T) (fun D j H T => ⟨hl D _ H T, hl2 D _ H T⟩) (by simp [hlen])
    (fun D j x y H p hx hy T hp => by
      obtain ⟨n, rfl, hn⟩ := map_at hx
      obtain ⟨m, rfl, hm⟩ := map_at hy
      exact hs D j n m p _ hn hm (T.new hp))
    (fun D H' T => hd D H' (by rw [List.length_map, ← hF, List.take_length] at T; exact T))
/-- for over a range whose turns leave nothing but what the word says -/
theorem take_succ_get {F : List Int} {j : Nat} {v : Int} (h : F[j]? = some v) : F.take (j + 1) = F.take j ++ [v] := by
  rw [List.take_add_one, h]
  rfl
/-- a truth that does not matter -/
theorem i_andAny {p : Prop} [Decidable p] {tb : TE} (h2 : p → ∀ Q' : VK, (∀ b, Q' (.bl b) H) → tb σ H Q') (h : ∀ b, Q (.bl b) H) : if decide p = true then tb σ H Q else Q (.bl false) H := by
  by_cases hp : p
  · exact i_decT hp (h2 hp Q h)
  · exact i_decF hp (h false)
end
/-- a display of ints -/
class IsInts (xs : List V) (ns : outParam (List Int)) : Prop where
  e : xs = ns.map V.int
instance : IsInts [] [] := ⟨rfl⟩
instance {xs : List V} {ns : List Int} {n : Int} [h : IsInts xs ns] : IsInts (.int n :: xs) (n :: ns) := ⟨by rw [h.e]; rfl⟩
theorem i_lstC {B H : Hp} {L : List (Addr × HO)} {Q : VK} {xs : List V} {ns : List Int} [h : IsInts xs ns] (T : Tr B L H) (hz : ns.length ≤ sizeLine) (k : ∀ p H', Tr B ((p, .lst (ns.map V.int)) :: L) H' → Q (.ref p) H') : rLst xs H Q :=
  i_lst T (by rw [h.e, List.length_map]; exact hz) (by rw [h.e]; exact k)
/-- if, its ways joined behind it with like slots -/
theorem f_cutR {nx bk ct : L2.St → Hp → Prop} {rt : VK} {t u : TS} {σ : L2.St} {H : Hp} (R : Hp → Prop) {σ1 : L2.St} (h1 : t ⟨fun σ' H' => σ' = σ1 ∧ R H', rt, bk, ct⟩ σ H) (h2 : ∀ H', R H' → u ⟨nx, rt, bk, ct⟩ σ1 H') : C8.tCut t u ⟨nx, rt, bk, ct⟩ σ H :=
  f_cut (fun σ' H' => σ' = σ1 ∧ R H') h1 fun σ' H' ⟨e, r⟩ => by rw [e]; exact h2 H' r
/-! ### loops whose turns change some slots, and leave what stands -/
def NW {ω : Type} (W : ω → L2.St) (B : Hp) (L : List (Addr × HO)) (σ' : L2.St) (H' : Hp) : Prop := (∃ w, σ' = W w) ∧ Tr B L H'
section
variable {K : PySem.W.Frag} {B H : Hp} {L : List (Addr × HO)} {σ : L2.St} {nx bk ct : L2.St → Hp → Prop} {rt : VK} {g : TG} {tb : TS} {a : Addr} {xs : List V} {ns : List Int} {ω : Type}
theorem f_rangeW {lo : Int} {n : Nat} (W : L2.St → ω → L2.St) (w0 : ω) (e0 : σ = W σ w0) (T : Tr B L H)
    (hs : ∀ j w H', j < n → Tr B L H' → g (.int (lo + (j : Nat))) (W σ w) H' fun σ2 H2 => tb ⟨NW (W σ) B L, rt, nx, NW (W σ) B L⟩ σ2 H2)
    (hd : ∀ w H', Tr B L H' → nx (W σ w) H') : rFor (Itr lo n) g tb ⟨nx, rt, bk, ct⟩ σ H :=
  f_range (fun _ σ' H' => NW (W σ) B L σ' H') ⟨⟨w0, e0⟩, T⟩ (fun j σ' H' hj ⟨⟨w, e⟩, T⟩ => by rw [e]; exact hs j w H' hj T) (fun σ' H' ⟨⟨w, e⟩, T⟩ => by rw [e]; exact hd w H' T)
theorem f_listW (W : L2.St → ω → L2.St) (w0 : ω) (e0 : σ = W σ w0) (T : Tr B L H) (hl : ∀ H', Tr B L H' → SqL K H' a xs)
    (hs : ∀ (j : Nat) x w H', xs[j]? = some x → Tr B L H' → g x (W σ w) H' fun σ2 H2 => tb ⟨NW (W σ) B L, rt, nx, NW (W σ) B L⟩ σ2 H2)
    (hd : ∀ w H', Tr B L H' → nx (W σ w) H') : rFor (Itl K a) g tb ⟨nx, rt, bk, ct⟩ σ H :=
  f_list (fun _ σ' H' => NW (W σ) B L σ' H') ⟨⟨w0, e0⟩, T⟩ (fun _ _ H' h => hl H' h.2) (fun j x σ' H' hx ⟨⟨w, e⟩, T⟩ => by rw [e]; exact hs j x w H' hx T) (fun σ' H' ⟨⟨w, e⟩, T⟩ => by rw [e]; exact hd w H' T)
theorem f_intsW (W : L2.St → ω → L2.St) (w0 : ω) (e0 : σ = W σ w0) (T : Tr B L H) (hl : ∀ H', Tr B L H' → SqL K H' a (ns.map V.int))
    (hs : ∀ (j : Nat) x w H', ns[j]? = some x → Tr B L H' → g (.int x) (W σ w) H' fun σ2 H2 => tb ⟨NW (W σ) B L, rt, nx, NW (W σ) B L⟩ σ2 H2)
    (hd : ∀ w H', Tr B L H' → nx (W σ w) H') : rFor (Itl K a) g tb ⟨nx, rt, bk, ct⟩ σ H :=
  f_ints (fun _ σ' H' => NW (W σ) B L σ' H') ⟨⟨w0, e0⟩, T⟩ (fun _ _ H' h => hl H' h.2) (fun j x σ' H' hx ⟨⟨w, e⟩, T⟩ => by rw [e]; exact hs j x w H' hx T) (fun σ' H' ⟨⟨w, e⟩, T⟩ => by rw [e]; exact hd w H' T)
theorem f_tupW (W : L2.St → ω → L2.St) (w0 : ω) (e0 : σ = W σ w0) (T : Tr B L H) (hl : ∀ H', Tr B L H' → SqT K H' a xs)
    (hs : ∀ (j : Nat) x w H', xs[j]? = some x → Tr B L H' → g x (W σ w) H' fun σ2 H2 => tb ⟨NW (W σ) B L, rt, nx, NW (W σ) B L⟩ σ2 H2)
    (hd : ∀ w H', Tr B L H' → nx (W σ w) H') : rFor (Itt K a) g tb ⟨nx, rt, bk, ct⟩ σ H :=
  f_tup (fun _ σ' H' => NW (W σ) B L σ' H') ⟨⟨w0, e0⟩, T⟩ (fun _ _ H' h => hl H' h.2) (fun j x σ' H' hx ⟨⟨w, e⟩, T⟩ => by rw [e]; exact hs j x w H' hx T) (fun σ' H' ⟨⟨w, e⟩, T⟩ => by rw [e]; exact hd w H' T)
/-- the same with a word about the heap at each turn -/
def NR {ω : Type} (W : ω → L2.St) (R : Hp → Prop) (σ' : L2.St) (H' : Hp) : Prop := (∃ w, σ' = W w) ∧ R H'
theorem f_rangeR {lo : Int} {n : Nat} (W : L2.St → ω → L2.St) (w0 : ω) (e0 : σ = W σ w0) (R : Nat → Hp → Prop) (r0 : R 0 H)
    (hs : ∀ j w H', j < n → R j H' → g (.int (lo + (j : Nat))) (W σ w) H' fun σ2 H2 => tb ⟨NR (W σ) (R (j + 1)), rt, nx, NR (W σ) (R (j + 1))⟩ σ2 H2)
    (hd : ∀ w H', R n H' → nx (W σ w) H') : rFor (Itr lo n) g tb ⟨nx, rt, bk, ct⟩ σ H :=
  f_range (fun j σ' H' => NR (W σ) (R j) σ' H') ⟨⟨w0, e0⟩, r0⟩ (fun j σ' H' hj ⟨⟨w, e⟩, T⟩ => by rw [e]; exact hs j w H' hj T) (fun σ' H' ⟨⟨w, e⟩, T⟩ => by rw [e]; exact hd w H' T)
theorem f_listR (W : L2.St → ω → L2.St) (w0 : ω) (e0 : σ = W σ w0) (R : Nat → Hp → Prop) (r0 : R 0 H) (hl : ∀ j H', R j H' → SqL K H' a xs)
    (hs : ∀ (j : Nat) x w H', xs[j]? = some x → R j H' → g x (W σ w) H' fun σ2 H2 => tb ⟨NR (W σ) (R (j + 1)), rt, nx, NR (W σ) (R (j + 1))⟩ σ2 H2)
    (hd : ∀ w H', R xs.length H' → nx (W σ w) H') : rFor (Itl K a) g tb ⟨nx, rt, bk, ct⟩ σ H :=
  f_list (fun j σ' H' => NR (W σ) (R j) σ' H') ⟨⟨w0, e0⟩, r0⟩ (fun j _ H' h => hl j H' h.2) (fun j x σ' H' hx ⟨⟨w, e⟩, T⟩ => by rw [e]; exact hs j x w H' hx T) (fun σ' H' ⟨⟨w, e⟩, T⟩ => by rw [e]; exact hd w H' T)
theorem f_intsR (W : L2.St → ω → L2.St) (w0 : ω) (e0 : σ = W σ w0) (R : Nat → Hp → Prop) (r0 : R 0 H) (hl : ∀ j H', R j H' → SqL K H' a (ns.map V.int))
    (hs : ∀ (j : Nat) x w H', ns[j]? = some x → R j H' → g (.int x) (W σ w) H' fun σ2 H2 => tb ⟨NR (W σ) (R (j + 1)), rt, nx, NR (W σ) (R (j + 1))⟩ σ2 H2)
    (hd : ∀ w H', R ns.length H' → nx (W σ w) H') : rFor (Itl K a) g tb ⟨nx, rt, bk, ct⟩ σ H :=
  f_ints (fun j σ' H' => NR (W σ) (R j) σ' H') ⟨⟨w0, e0⟩, r0⟩ (fun j _ H' h => hl j H' h.2) (fun j x σ' H' hx ⟨⟨w, e⟩, T⟩ => by rw [e]; exact hs j x w H' hx T) (fun σ' H' ⟨⟨w, e⟩, T⟩ => by rw [e]; exact hd w H' T)
abbrev S4 (s t u x : Nat) (σ : L2.St) (w : Option V × Option V × Option V × Option V) : L2.St := (((σ.set s w.1).set t w.2.1).set u w.2.2.1).set x w.2.2.2
abbrev S1 (s : Nat) (σ : L2.St) (w : Option V) : L2.St := σ.set s w
abbrev S2 (s t : Nat) (σ : L2.St) (w : Option V × Option V) : L2.St := (σ.set s w.1).set t w.2
abbrev S3 (s t u : Nat) (σ : L2.St) (w : Option V × Option V × Option V) : L2.St := ((σ.set s w.1).set t w.2.1).set u w.2.2
end
theorem two_get {α : Type} {u v x : α} {k : Nat} (h : [u, v][k]? = some x) : x = u ∨ x = v := by
  match k, h with
  | 0, h => exact .inl (Option.some.inj h).symm
  | 1, h => exact .inr (Option.some.inj h).symm
  | k + 2, h => simp at h
theorem getE_of {ns : List Int} {i : Nat} {n : Int} (h : ns[i]? = some n) : ns[i]! = n := by
  rw [List.getElem!_eq_getElem?_getD, h]
  rfl
section
variable {K : PySem.W.Frag} {B H : Hp} {L : List (Addr × HO)} {σ : L2.St} {nx bk ct : L2.St → Hp → Prop} {rt : VK} {g : TG} {tb : TS} {a : Addr} {xs : List V} {ns ms : List Int} {Q : VK} {x y : V} {i j : Int}
theorem i_rg3n {R : It → Hp → Prop} (h1 : -(2 ^ 62) ≤ i ∧ i < 2 ^ 62 ∧ -(2 ^ 62) ≤ j ∧ j < 2 ^ 62) (h : R (Itc i (-1) (i - j).toNat) H) : rRg3 [.int i, .int j, .int (-1)] H R :=
  ⟨i, j, -1, _, rfl, RgC.neg h1.1 h1.2.1 h1.2.2.1 h1.2.2.2, h⟩
theorem g_rg3 {R : It → Hp → Prop} (h : rRg3 xs H R) : rRg3 xs H R := h
theorem f_enumI (Pv : Nat → L2.St → Hp → Prop) (h0 : Pv 0 σ H) (hl : ∀ i σ H, Pv i σ H → SqL K H a (ns.map V.int))
    (hs : ∀ (i : Nat) n σ H p, ns[i]? = some n → Pv i σ H → H p = none → g (.ref p) σ (upd H p (.tup [.int i, .int n])) fun σ2 H2 => tb ⟨Pv (i + 1), rt, nx, Pv (i + 1)⟩ σ2 H2)
    (hd : ∀ σ H, Pv ns.length σ H → nx σ H) : rFor (Ite K a) g tb ⟨nx, rt, bk, ct⟩ σ H :=
  f_enum (xs := ns.map V.int) Pv h0 hl (fun i x σ H p hx h hp => by
    obtain ⟨n, rfl, hn⟩ := map_at hx
    exact hs i n σ H p hn h hp) (by rw [List.length_map]; exact hd)
theorem atI_map {α : Type} [Inhabited α] {f : α → V} {fs : List α} (h0 : 0 ≤ i) (h1 : i < fs.length) : atI (fs.map f) i = some (f fs[i.toNat]!) := by
  obtain ⟨m, rfl⟩ : ∃ m : Nat, i = m := ⟨i.toNat, by omega⟩
  refine atI_nat ?_
  rw [List.getElem?_map, Int.toNat_natCast, List.getElem!_eq_getElem?_getD, List.getElem?_eq_getElem (by omega)]
  rfl
theorem i_ixM {α : Type} [Inhabited α] {f : α → V} {fs : List α} (h1 : SqL K H a (fs.map f)) (h0 : 0 ≤ i) (h2 : i < fs.length) (h : Q (f fs[i.toNat]!) H) : rIx K (.ref a) (.int i) H Q := i_ixL h1 (atI_map h0 h2) h
/-- the last item -/
theorem atI_lastI (h : ns ≠ []) : atI (ns.map V.int) (-1) = some (.int (ns.getLast h)) := by
  have e : ns.map V.int = ns.dropLast.map V.int ++ [.int (ns.getLast h)] := by
    rw [← List.map_singleton, ← List.map_append, List.dropLast_concat_getLast]
  rw [e]
  exact atI_last _ _
theorem i_ixLast (h1 : SqL K H a (ns.map V.int)) (hn : ns ≠ []) (h : Q (.int (ns.getLast hn)) H) : rIx K (.ref a) (.int (-1)) H Q := i_ixL h1 (atI_lastI hn) h
/-- a value whose text and kind are told by a datum -/
structure SameD (K : PySem.W.Frag) (H : Hp) (x : V) (d : PyData) (l : Bool) : Prop where
  dp : Dp K H x d
  ty : ∃ T, TyX K H x (.type T) ∧ kitB T "list" = some l
  sh : d.showable = true
  nd : d.hasDict = false
  de : d.depth ≤ 60
  le : d.shown.length ≤ sizeLine
theorem kit_nl : kitB "NoneType" "list" = some false := by decide +kernel
theorem kit_il : kitB "int" "list" = some false := by decide +kernel
theorem kit_ll : kitB "list" "list" = some true := by decide +kernel
theorem sd_non : SameD K H .non .none false :=
  ⟨.non, ⟨_, .base .non, kit_nl⟩, by simp [PyData.showable], by simp [PyData.hasDict], by simp [PyData.depth], by
    rw [PyData.shown]
    show (Str.ofString "None").length ≤ sizeLine
    rw [PySem.ofString_length]
    decide⟩
theorem sd_int (h : i.natAbs < 2 ^ 64) : SameD K H (.int i) (.int i) false := by
  have h3 : i.natAbs.log2 < 64 := PySem.Flt.log2_lt_of (by decide) h
  refine ⟨.int i, ⟨_, .base (.int i), kit_il⟩, ?_, by simp [PyData.hasDict], by simp [PyData.depth], ?_⟩
  · rw [PyData.showable, decide_eq_true_eq]
    omega
  · rw [PyData.shown]
    exact int_text_fits (by omega)
theorem sd_ints (h : H a = some (.lst (ns.map V.int))) (hn : ∀ n ∈ ns, n.natAbs < 2 ^ 64) (hl : ns.length ≤ 3000) : SameD K H (.ref a) (dI ns) true :=
  ⟨dp_ints (SqL.of h), ⟨_, .base (.lst h), kit_ll⟩, dI_showable hn, dI_nodict ns, by rw [dI_depth]; decide, dI_shown hn hl⟩
end
/-! ### x or y by truth -/
section
variable {K : PySem.W.Frag} {H : Hp} {Q : VK} {σ : L2.St} {tb : TE} {i : Int}
def rOrT (K : PySem.W.Frag) (x : V) (tb : TE) (σ : L2.St) (H : Hp) (Q : VK) : Prop := ∃ k, TruV K x H k ∧ if k = true then Q x H else tb σ H Q
instance {ta : TE} : Step (tOrT K ta tb σ H Q) (ta σ H fun x H1 => rOrT K x tb σ H1 Q) := ⟨fun h => h⟩
instance : Step (rOrT K .non tb σ H Q) (tb σ H Q) := ⟨fun h => ⟨false, rfl, h⟩⟩
theorem i_orI0 (hi : i = 0) (h : tb σ H Q) : rOrT K (.int i) tb σ H Q := ⟨false, by rw [hi]; rfl, h⟩
theorem i_orI1 (hi : i ≠ 0) (h : Q (.int i) H) : rOrT K (.int i) tb σ H Q := ⟨true, by show true = (i != 0); simp [hi], h⟩
end
/-! ### what is kept over turns -/
section
variable {B B2 H : Hp} {L : List (Addr × HO)} {a : Addr} {o : HO} {G : Hp → Addr → Prop} {hs : List Addr} {h : Addr}
theorem Tr.sdel (T : Tr B L H) (i : Nat) (h : L[i]? = some (a, o)) : Same B (del H a) := fun b u e => by
  rw [del_ne (fun z => by
    rw [z, T.offI i h] at e
    cases e)]
  exact T.base b u e
theorem del_of {b : Addr} {u : HO} (h : H b = some u) (n : b ≠ a) : del H a b = some u := (del_ne n).trans h
theorem Tr.kept {b : Addr} {u : HO} (T : Tr B L H) (i j : Nat) (h : L[i]? = some (a, o)) (h2 : L[j]? = some (b, u)) (n : j ≠ i) : del H a b = some u := del_of (T.get j h2) (T.apart j i h2 h n)
def Kept (G : Hp → Addr → Prop) (B : Hp) (hs : List Addr) : Prop := ∀ h ∈ hs, G B h
theorem Kept.nil : Kept G B [] := fun _ h => nomatch h
theorem Kept.mono (k : Kept G B hs) (m : ∀ h, G B h → G B2 h) : Kept G B2 hs := fun h hh => m h (k h hh)
theorem Kept.add (k : Kept G B hs) (g : G B h) : Kept G B (hs ++ [h]) := fun x hx => by
  rcases List.mem_append.mp hx with hx | hx
  · exact k x hx
  · rw [List.mem_singleton.mp hx]
    exact g
/-- a pair of like int lists -/
def Two (B : Hp) (h : Addr) : Prop := ∃ (x y : Addr) (c : List Int), B h = some (.lst [.ref x, .ref y]) ∧ B x = some (.lst (c.map V.int)) ∧ B y = some (.lst (c.map V.int)) ∧ (∀ n ∈ c, n.natAbs < 2 ^ 64) ∧ c.length ≤ 3000
theorem Two.same (s : Same B B2) (h : Addr) (t : Two B h) : Two B2 h := let ⟨x, y, c, h1, h2, h3, h4⟩ := t; ⟨x, y, c, s _ _ h1, s _ _ h2, s _ _ h3, h4⟩
end
/-! ### the greatest, the least -/
def mxI : List Int → Int
  | [] => 0
  | [x] => x
  | x :: y :: r => max x (mxI (y :: r))
def mnI : List Int → Int
  | [] => 0
  | [x] => x
  | x :: y :: r => min x (mnI (y :: r))
theorem mxI_mem : ∀ {ns : List Int}, ns ≠ [] → mxI ns ∈ ns
  | [], h => absurd rfl h
  | [x], _ => List.mem_singleton.mpr rfl
  | x :: y :: r, _ => by
    have ih := mxI_mem (ns := y :: r) (List.cons_ne_nil _ _)
    rw [mxI]
    rcases Int.le_total x (mxI (y :: r)) with h | h
    · rw [Int.max_eq_right h]
      exact List.mem_cons_of_mem _ ih
    · rw [Int.max_eq_left h]
      exact List.mem_cons_self
theorem mxI_le : ∀ {ns : List Int} {n : Int}, n ∈ ns → n ≤ mxI ns
  | [x], n, h => by
    rw [List.mem_singleton.mp h]
    exact Int.le_refl _
  | x :: y :: r, n, h => by
    rw [mxI]
    rcases List.mem_cons.mp h with rfl | h
    · omega
    · have := mxI_le h
      omega
theorem mxI_eq {ns : List Int} {m : Int} (h1 : m ∈ ns) (h2 : ∀ y, y ∈ ns → y ≤ m) : m = mxI ns := by
  have hn : ns ≠ [] := fun e => by
    rw [e] at h1
    cases h1
  have a := mxI_le h1
  have b := h2 _ (mxI_mem hn)
  omega
theorem mnI_mem : ∀ {ns : List Int}, ns ≠ [] → mnI ns ∈ ns
  | [], h => absurd rfl h
  | [x], _ => List.mem_singleton.mpr rfl
  | x :: y :: r, _ => by
    have ih := mnI_mem (ns := y :: r) (List.cons_ne_nil _ _)
    rw [mnI]
    rcases Int.le_total x (mnI (y :: r)) with h | h
    · rw [Int.min_eq_left h]
      exact List.mem_cons_self
    · rw [Int.min_eq_right h]
      exact List.mem_cons_of_mem _ ih
theorem mnI_le : ∀ {ns : List Int} {n : Int}, n ∈ ns → mnI ns ≤ n
  | [x], n, h => by
    rw [List.mem_singleton.mp h]
    exact Int.le_refl _
  | x :: y :: r, n, h => by
    rw [mnI]
    rcases List.mem_cons.mp h with rfl | h
    · omega
    · have := mnI_le h
      omega
theorem mnI_eq {ns : List Int} {m : Int} (h1 : m ∈ ns) (h2 : ∀ y, y ∈ ns → m ≤ y) : m = mnI ns := by
  have hn : ns ≠ [] := fun e => by
    rw [e] at h1
    cases h1
  have a := mnI_le h1
  have b := h2 _ (mnI_mem hn)
  omega
section
variable {K : PySem.W.Frag} {H : Hp} {Q : VK} {a : Addr} {ns : List Int} {xs : List V}
theorem i_maxF (h1 : SqL K H a (ns.map V.int)) (h0 : 0 < ns.length) (h : Q (.int (mxI ns)) H) : rMax K [.ref a] H Q := i_max h1 h0 fun m a b => by rw [mxI_eq a b]; exact h
theorem i_minF (h1 : SqL K H a (ns.map V.int)) (h0 : 0 < ns.length) (h : Q (.int (mnI ns)) H) : rMin K [.ref a] H Q := i_min h1 h0 fun m a b => by rw [mnI_eq a b]; exact h
theorem g_max (h : rMax K xs H Q) : rMax K xs H Q := h
theorem g_min (h : rMin K xs H Q) : rMin K xs H Q := h
end
end PB

namespace PB
open PySem PySem.Spec PyProof.Rows L2
/-! ### rows as functions of the place; sums ahead of a place -/
abbrev rowF (ns : List Int) : Nat → Int := fun i => ns[i]!
def pre (a : Nat → Int) : Nat → Int
  | 0 => 0
  | i + 1 => pre a i + a i
theorem rowF_get {ns : List Int} {i : Nat} {n : Int} (h : ns[i]? = some n) : rowF ns i = n := getE_of h
theorem rowF_cons (x : Int) (ns : List Int) (i : Nat) : rowF (x :: ns) (i + 1) = rowF ns i := by
  show (x :: ns)[i + 1]! = ns[i]!
  rw [List.getElem!_eq_getElem?_getD, List.getElem!_eq_getElem?_getD, List.getElem?_cons_succ]
theorem pre_cons (x : Int) (ns : List Int) : ∀ i : Nat, pre (rowF (x :: ns)) (i + 1) = x + pre (rowF ns) i
  | 0 => by
    show 0 + (x :: ns)[0]! = x + 0
    rw [List.getElem!_eq_getElem?_getD]
    show 0 + x = x + 0
    omega
  | i + 1 => by
    rw [pre, pre_cons x ns i, rowF_cons, pre]
    omega
theorem pre_sum : ∀ (ns : List Int) (i : Nat), i ≤ ns.length → (ns.take i).sum = pre (rowF ns) i
  | _, 0, _ => by rw [List.take_zero]; rfl
  | [], i + 1, h => absurd h (Nat.not_succ_le_zero _)
  | x :: ns, i + 1, h => by
    rw [List.take_succ_cons, List.sum_cons, pre_sum ns i (by simpa using h), pre_cons]
theorem sum_all (ns : List Int) : ns.sum = pre (rowF ns) ns.length := by
  rw [← pre_sum ns ns.length (Nat.le_refl _), List.take_length]
theorem sum_part {ns : List Int} {i j : Nat} (h : i ≤ j) (hj : j ≤ ns.length) : ((ns.drop i).take (j - i)).sum = pre (rowF ns) j - pre (rowF ns) i := by
  have e : ns.take j = ns.take i ++ (ns.drop i).take (j - i) := by
    rw [← List.drop_take]
    have e2 := List.take_append_drop i (ns.take j)
    rw [List.take_take, Nat.min_eq_left h] at e2
    exact e2.symm
  have e3 := congrArg List.sum e
  rw [List.sum_append, pre_sum ns j hj, pre_sum ns i (by omega)] at e3
  omega
theorem pre_mono {a : Nat → Int} {n : Nat} (h : ∀ i, i < n → 0 ≤ a i) : ∀ {i j : Nat}, i ≤ j → j ≤ n → pre a i ≤ pre a j := by
  intro i j hij
  induction hij with
  | refl => intro _; exact Int.le_refl _
  | @step m hm ih =>
    intro hj
    have := ih (by omega)
    have := h m (by omega)
    show pre a i ≤ pre a m + a m
    omega
theorem rowF_mem {ns : List Int} {i : Nat} (h : i < ns.length) : rowF ns i ∈ ns := by
  show ns[i]! ∈ ns
  rw [List.getElem!_eq_getElem?_getD, List.getElem?_eq_getElem h]
  exact List.getElem_mem _
theorem rowF_nonneg {ns : List Int} (h : ∀ n ∈ ns, 0 ≤ n) : ∀ i, i < ns.length → 0 ≤ rowF ns i := fun i hi => h _ (rowF_mem hi)

/-! ### the cut whose pieces are each as long as a bound lets -/
/-- behind i numbers: the places so far, the sum of the piece at hand -/
def gS (a : Nat → Int) (b : Int) : Nat → Option (List Int × Int)
  | 0 => some ([], 0)
  | i + 1 => match gS a b i with
    | none => none
    | some (c, t) => if a i > b then none else if t + a i > b then some (c ++ [(i : Int)], a i) else some (c, t + a i)
def lcut (ns : List Int) (b : Int) : Option (List Int) := (gS (rowF ns) b ns.length).map (·.1)
def few (ns : List Int) (b : Int) : Option Int := (lcut ns b).map fun c => (c.length : Int) + 1
theorem gS_none {a : Nat → Int} {b : Int} {i j : Nat} (h : gS a b i = none) (hij : i ≤ j) : gS a b j = none := by
  induction hij with
  | refl => exact h
  | @step m hm ih => rw [gS, ih]
theorem gS_small {a : Nat → Int} {b : Int} : ∀ {i : Nat} {c : List Int} {t : Int}, gS a b i = some (c, t) → ∀ j, j < i → a j ≤ b
  | 0, _, _, _, _, hj => absurd hj (Nat.not_lt_zero _)
  | i + 1, c, t, h, j, hj => by
    rw [gS] at h
    cases e : gS a b i with
    | none =>
      rw [e] at h
      cases h
    | some p =>
      obtain ⟨c0, t0⟩ := p
      rw [e] at h
      dsimp only at h
      by_cases h1 : a i > b
      · rw [if_pos h1] at h
        cases h
      · rcases Nat.lt_succ_iff_lt_or_eq.mp hj with hj | hj
        · exact gS_small e j hj
        · rw [hj]
          omega
theorem gS_len {a : Nat → Int} {b : Int} : ∀ {i : Nat} {c : List Int} {t : Int}, gS a b i = some (c, t) → c.length ≤ i
  | 0, c, t, h => by
    rw [gS] at h
    cases h
    exact Nat.le_refl _
  | i + 1, c, t, h => by
    rw [gS] at h
    cases e : gS a b i with
    | none =>
      rw [e] at h
      cases h
    | some p =>
      obtain ⟨c0, t0⟩ := p
      rw [e] at h
      have ih := gS_len e
      dsimp only at h
      split at h
      · cases h
      · split at h
        · cases h
          rw [List.length_append, List.length_singleton]
          omega
        · cases h
          omega
/-- how many pieces so far -/
def cntS (a : Nat → Int) (b : Int) (e : Nat) : Int := match gS a b e with
  | none => 0
  | some (c, _) => if e = 0 then 0 else (c.length : Int) + 1
theorem cntS_zero (a : Nat → Int) (b : Int) : cntS a b 0 = 0 := rfl
theorem cntS_some {a : Nat → Int} {b : Int} {e : Nat} {c : List Int} {t : Int} (h : gS a b e = some (c, t)) (he : e ≠ 0) : cntS a b e = (c.length : Int) + 1 := by
  unfold cntS
  rw [h]
  exact if_neg he
theorem gS_opt {a : Nat → Int} {b : Int} {n : Nat} (hn : ∀ i, i < n → 0 ≤ a i) : ∀ (e : Nat) (c : List Int) (t : Int), e ≤ n → gS a b e = some (c, t) →
    (e ≠ 0 → t ≤ b ∧ ∃ j, j < e ∧ pre a e - pre a j = t ∧ cntS a b e = cntS a b j + 1) ∧
    (e = 0 → t = 0) ∧
    (∀ j, j ≤ e → pre a e - pre a j < t → cntS a b e ≤ cntS a b j) ∧
    (∀ j, j < e → pre a e - pre a j ≤ b → cntS a b e ≤ cntS a b j + 1) := by
  intro e
  induction e with
  | zero =>
    intro c t _ h
    rw [gS] at h
    cases h
    refine ⟨fun h => absurd rfl h, fun _ => rfl, fun j hj hlt => ?_, fun j hj => absurd hj (Nat.not_lt_zero _)⟩
    have e : j = 0 := by omega
    subst e
    omega
  | succ e ih =>
    intro c t he h
    have h0 := h
    rw [gS] at h
    cases eg : gS a b e with
    | none =>
      rw [eg] at h
      cases h
    | some p =>
      obtain ⟨c0, t0⟩ := p
      rw [eg] at h
      dsimp only at h
      obtain ⟨ihA, ih0, ihB, ihC⟩ := ih c0 t0 (by omega) eg
      have hae := hn e (by omega)
      have hp : pre a (e + 1) = pre a e + a e := rfl
      by_cases h1 : a e > b
      · rw [if_pos h1] at h
        cases h
      · rw [if_neg h1] at h
        by_cases h2 : t0 + a e > b
        · rw [if_pos h2] at h
          cases h
          have e0 : e ≠ 0 := fun z => by
            have := ih0 z
            omega
          have hc : cntS a b (e + 1) = cntS a b e + 1 := by
            rw [cntS_some h0 (by omega), cntS_some eg e0, List.length_append, List.length_singleton]
            omega
          refine ⟨fun _ => ⟨by omega, e, by omega, by omega, hc⟩, fun z => by omega, fun j hj hlt => ?_, fun j hj hle => ?_⟩
          · by_cases hj2 : j = e + 1
            · rw [hj2]
              exact Int.le_refl _
            · have := pre_mono hn (show j ≤ e by omega) (by omega)
              omega
          · by_cases hj2 : j = e
            · rw [hj2]
              omega
            · have := ihB j (by omega) (by omega)
              omega
        · rw [if_neg h2] at h
          cases h
          by_cases e0 : e = 0
          · subst e0
            have := ih0 rfl
            subst this
            have hc : cntS a b 1 = 1 := by
              rw [cntS_some h0 (by omega)]
              rw [gS] at eg
              cases eg
              rfl
            refine ⟨fun _ => ⟨by omega, 0, by omega, by omega, by rw [hc, cntS_zero]; rfl⟩, fun z => by omega, fun j hj hlt => ?_, fun j hj hle => ?_⟩
            · by_cases hj2 : j = 1
              · rw [hj2]
                exact Int.le_refl _
              · have e : j = 0 := by omega
                subst e
                omega
            · have e : j = 0 := by omega
              subst e
              rw [hc, cntS_zero]
              decide
          · have hc : cntS a b (e + 1) = cntS a b e := by
              rw [cntS_some h0 (by omega), cntS_some eg e0]
            obtain ⟨hb, j0, hj0, hj1, hj2⟩ := ihA e0
            refine ⟨fun _ => ⟨by omega, j0, by omega, by omega, by omega⟩, fun z => by omega, fun j hj hlt => ?_, fun j hj hle => ?_⟩
            · by_cases hj2 : j = e + 1
              · rw [hj2]
                exact Int.le_refl _
              · have := ihB j (by omega) (by omega)
                omega
            · by_cases hj2 : j = e
              · rw [hj2]
                omega
              · have := ihC j (by omega) (by omega)
                omega
/-- the fewest pieces of the first e numbers, None where there are none such -/
def fewS (a : Nat → Int) (b : Int) (e : Nat) : Option Int := if e = 0 then some 0 else (gS a b e).map fun p => (p.1.length : Int) + 1
theorem fewS_cnt {a : Nat → Int} {b : Int} {e : Nat} {m : Int} (h : fewS a b e = some m) : m = cntS a b e ∧ ∃ p, gS a b e = some p := by
  unfold fewS at h
  by_cases e0 : e = 0
  · subst e0
    rw [if_pos rfl] at h
    cases h
    exact ⟨rfl, _, rfl⟩
  · rw [if_neg e0] at h
    cases eg : gS a b e with
    | none =>
      rw [eg] at h
      cases h
    | some p =>
      rw [eg] at h
      cases h
      obtain ⟨c, t⟩ := p
      exact ⟨(cntS_some eg e0).symm, _, rfl⟩
theorem fewS_of {a : Nat → Int} {b : Int} {e : Nat} {p : List Int × Int} (h : gS a b e = some p) : fewS a b e = some (cntS a b e) := by
  unfold fewS
  by_cases e0 : e = 0
  · subst e0
    rw [if_pos rfl, cntS_zero]
  · obtain ⟨c, t⟩ := p
    rw [if_neg e0, cntS_some h e0, h]
    rfl
/-- THE LAW of it: what a table over all ends asks -/
theorem fewS_next {a : Nat → Int} {b : Int} {n e : Nat} (hn : ∀ i, i < n → 0 ≤ a i) (he : e + 1 ≤ n) :
    (∀ m, fewS a b (e + 1) = some m → (∃ j k, j < e + 1 ∧ pre a (e + 1) - pre a j ≤ b ∧ fewS a b j = some k ∧ m = k + 1) ∧ ∀ j k, j < e + 1 → pre a (e + 1) - pre a j ≤ b → fewS a b j = some k → m ≤ k + 1) ∧
    (fewS a b (e + 1) = none → ∀ j k, j < e + 1 → pre a (e + 1) - pre a j ≤ b → fewS a b j = some k → False) := by
  constructor
  · intro m hm
    obtain ⟨rfl, ⟨c, t⟩, hg⟩ := fewS_cnt hm
    obtain ⟨hA, _, _, hC⟩ := gS_opt hn (e + 1) c t he hg
    refine ⟨?_, fun j k hj hle hk => ?_⟩
    · obtain ⟨hb, j, hj, hj1, hj2⟩ := hA (by omega)
      have hs : ∃ p, gS a b j = some p := by
        cases q : gS a b j with
        | none =>
          rw [gS_none q (show j ≤ e + 1 by omega)] at hg
          cases hg
        | some p => exact ⟨p, rfl⟩
      obtain ⟨p, hp⟩ := hs
      exact ⟨j, _, hj, by omega, fewS_of hp, hj2⟩
    · obtain ⟨rfl, _⟩ := fewS_cnt hk
      exact hC j hj hle
  · intro hnone j k hj hle hk
    obtain ⟨_, ⟨c, t⟩, hg⟩ := fewS_cnt hk
    have hne : gS a b (e + 1) = none := by
      unfold fewS at hnone
      rw [if_neg (by omega)] at hnone
      cases q : gS a b (e + 1) with
      | none => rfl
      | some p =>
        rw [q] at hnone
        cases hnone
    -- a number above the bound stands at j or behind it
    have key : ∀ m, j ≤ m → m ≤ e + 1 → (∀ i, j ≤ i → i < m → a i ≤ b) → ∃ p, gS a b m = some p := by
      intro m hjm
      induction hjm with
      | refl => exact fun _ _ => ⟨_, hg⟩
      | @step m hm ih =>
        intro hme hall
        obtain ⟨⟨c1, t1⟩, h1⟩ := ih (by omega) (fun i h2 h3 => hall i h2 (by omega))
        rw [gS, h1]
        dsimp only
        rw [if_neg (by have := hall m hm (by omega); omega)]
        split <;> exact ⟨_, rfl⟩
    have small : ∀ i, j ≤ i → i < e + 1 → a i ≤ b := fun i h2 h3 => by
      have m1 := pre_mono hn (show j ≤ i by omega) (show i ≤ n by omega)
      have m2 := pre_mono hn (show i + 1 ≤ e + 1 by omega) (show e + 1 ≤ n by omega)
      have : pre a (i + 1) = pre a i + a i := rfl
      omega
    obtain ⟨p, hp⟩ := key (e + 1) (by omega) (Nat.le_refl _) small
    rw [hne] at hp
    cases hp
/-! ### the least of what is gone through, the first such kept -/
def optMin (o c : Option Int) : Option Int := match c with
  | none => o
  | some m => match o with
    | none => some m
    | some k => if m < k then some m else some k
/-- from behind: c (hi - 1), c (hi - 2), .. -/
def bestI (c : Nat → Option Int) (hi : Nat) : Nat → Option Int
  | 0 => none
  | j + 1 => optMin (bestI c hi j) (c (hi - 1 - j))
theorem bestI_spec (c : Nat → Option Int) (hi : Nat) : ∀ j, j ≤ hi → (∀ m, bestI c hi j = some m → (∃ i, hi - j ≤ i ∧ i < hi ∧ c i = some m) ∧ ∀ i m', hi - j ≤ i → i < hi → c i = some m' → m ≤ m') ∧
    (bestI c hi j = none → ∀ i, hi - j ≤ i → i < hi → c i = none)
  | 0, _ => ⟨(fun m h => nomatch h), fun _ i h1 h2 => by omega⟩
  | j + 1, hj => by
    obtain ⟨ih1, ih2⟩ := bestI_spec c hi j (by omega)
    have cov : ∀ i, hi - (j + 1) ≤ i → i < hi → i = hi - 1 - j ∨ (hi - j ≤ i) := fun i h1 h2 => by omega
    rw [bestI]
    cases ec : c (hi - 1 - j) with
    | none =>
      refine ⟨fun m h => ?_, fun h i h1 h2 => ?_⟩
      · obtain ⟨⟨i, a1, a2, a3⟩, a4⟩ := ih1 m h
        refine ⟨⟨i, by omega, a2, a3⟩, fun i m' h1 h2 h3 => ?_⟩
        rcases cov i h1 h2 with rfl | h1
        · rw [ec] at h3
          cases h3
        · exact a4 i m' h1 h2 h3
      · rcases cov i h1 h2 with rfl | h1
        · exact ec
        · exact ih2 h i h1 h2
    | some x =>
      cases eb : bestI c hi j with
      | none =>
        refine ⟨fun m h => ?_, fun h => ?_⟩
        · cases h
          refine ⟨⟨_, by omega, by omega, ec⟩, fun i m' h1 h2 h3 => ?_⟩
          rcases cov i h1 h2 with rfl | h1
          · rw [ec] at h3
            cases h3
            exact Int.le_refl _
          · rw [ih2 eb i h1 h2] at h3
            cases h3
        · cases h
      | some y =>
        obtain ⟨⟨i0, a1, a2, a3⟩, a4⟩ := ih1 y eb
        show (∀ m, (if x < y then some x else some y) = some m → _) ∧ ((if x < y then some x else some y) = none → _)
        by_cases hxy : x < y
        · rw [if_pos hxy]
          refine ⟨fun m h => ?_, (fun h => nomatch h)⟩
          cases h
          refine ⟨⟨_, by omega, by omega, ec⟩, fun i m' h1 h2 h3 => ?_⟩
          rcases cov i h1 h2 with rfl | h1
          · rw [ec] at h3
            cases h3
            exact Int.le_refl _
          · have := a4 i m' h1 h2 h3
            omega
        · rw [if_neg hxy]
          refine ⟨fun m h => ?_, (fun h => nomatch h)⟩
          cases h
          refine ⟨⟨i0, by omega, a2, a3⟩, fun i m' h1 h2 h3 => ?_⟩
          rcases cov i h1 h2 with rfl | h1
          · rw [ec] at h3
            cases h3
            omega
          · exact a4 i m' h1 h2 h3
/-- so many ahead, with a sum of at most the bound behind -/
def fewC (a : Nat → Int) (b : Int) (e j : Nat) : Option Int := if pre a e - pre a j ≤ b then (fewS a b j).map (· + 1) else none
theorem fewC_some {a : Nat → Int} {b m : Int} {e j : Nat} (h : fewC a b e j = some m) : pre a e - pre a j ≤ b ∧ ∃ k, fewS a b j = some k ∧ m = k + 1 := by
  unfold fewC at h
  split at h
  · rename_i hle
    cases hf : fewS a b j with
    | none =>
      rw [hf] at h
      cases h
    | some k =>
      rw [hf] at h
      cases h
      exact ⟨hle, k, rfl, rfl⟩
  · cases h
theorem few_best {a : Nat → Int} {b : Int} {n e : Nat} (hn : ∀ i, i < n → 0 ≤ a i) (he : e + 1 ≤ n) : bestI (fewC a b (e + 1)) (e + 1) (e + 1) = fewS a b (e + 1) := by
  obtain ⟨s1, s2⟩ := bestI_spec (fewC a b (e + 1)) (e + 1) (e + 1) (Nat.le_refl _)
  obtain ⟨t1, t2⟩ := fewS_next (b := b) hn he
  cases h1 : fewS a b (e + 1) with
  | none =>
    cases h2 : bestI (fewC a b (e + 1)) (e + 1) (e + 1) with
    | none => rfl
    | some m =>
      obtain ⟨⟨i, _, hi, hc⟩, _⟩ := s1 m h2
      obtain ⟨h3, k, h4, _⟩ := fewC_some hc
      exact absurd (t2 h1 i k hi h3 h4) id
  | some m =>
    obtain ⟨⟨j, k, hj, h3, h4, h5⟩, hle⟩ := t1 m h1
    have hc : fewC a b (e + 1) j = some m := by
      unfold fewC
      rw [if_pos h3, h4, h5]
      rfl
    cases h2 : bestI (fewC a b (e + 1)) (e + 1) (e + 1) with
    | none =>
      rw [s2 h2 j (by omega) hj] at hc
      cases hc
    | some x =>
      obtain ⟨⟨i, _, hi, hcx⟩, hmin⟩ := s1 x h2
      have := hmin j m (by omega) hj hc
      obtain ⟨h6, k', h7, h8⟩ := fewC_some hcx
      have := hle i k' hi h6 h7
      congr 1
      omega
def optV : Option Int → V
  | none => .non
  | some i => .int i
/-- a table of what is told for each beginning -/
def tab (f : Nat → Option Int) (e : Nat) : List V := (List.range e).map fun i => optV (f i)
theorem tab_succ (f : Nat → Option Int) (e : Nat) : tab f e ++ [optV (f e)] = tab f (e + 1) := by
  unfold tab
  rw [List.range_succ, List.map_append]
  rfl
theorem tab_len (f : Nat → Option Int) (e : Nat) : (tab f e).length = e := by
  unfold tab
  rw [List.length_map, List.length_range]
theorem tab_at {f : Nat → Option Int} {e : Nat} {i : Int} (h0 : 0 ≤ i) (h1 : i < e) : atI (tab f e) i = some (optV (f i.toNat)) := by
  unfold tab
  rw [atI_map h0 (by rw [List.length_range]; exact h1), List.getElem!_eq_getElem?_getD, List.getElem?_range (by omega)]
  rfl
theorem tab_last (f : Nat → Option Int) (e : Nat) : atI (tab f (e + 1)) (-1) = some (optV (f e)) := by
  rw [← tab_succ]
  exact atI_last _ _
theorem few_eq {ns : List Int} {b : Int} (h : 1 ≤ ns.length) : few ns b = fewS (rowF ns) b ns.length := by
  unfold few lcut fewS
  rw [if_neg (by omega), Option.map_map]
  rfl
theorem few_le {ns : List Int} {b m : Int} (h : few ns b = some m) : 1 ≤ m ∧ m ≤ ns.length + 1 := by
  unfold few lcut at h
  cases e : gS (rowF ns) b ns.length with
  | none =>
    rw [e] at h
    cases h
  | some p =>
    obtain ⟨c, t⟩ := p
    rw [e] at h
    cases h
    have := gS_len e
    show 1 ≤ (c.length : Int) + 1 ∧ (c.length : Int) + 1 ≤ _
    omega
def dO : Option Int → PyData
  | none => .none
  | some i => .int i
theorem sd_opt {K : PySem.W.Frag} {H : Hp} {o : Option Int} (h : ∀ m, o = some m → m.natAbs < 2 ^ 64) : SameD K H (optV o) (dO o) false := by
  cases o with
  | none => exact sd_non
  | some m => exact sd_int (h m rfl)
theorem opt_of {o : Option Int} {x : V} (h1 : o = none → x = .non) (h2 : ∀ m, o = some m → x = .int m) : x = optV o := by
  cases o with
  | none => exact h1 rfl
  | some m => exact h2 m rfl
theorem gS_all {a : Nat → Int} {b : Int} : ∀ {m : Nat}, (∀ i, i < m → a i ≤ b) → ∃ p, gS a b m = some p
  | 0, _ => ⟨_, rfl⟩
  | m + 1, h => by
    obtain ⟨⟨c, t⟩, h1⟩ := gS_all (m := m) fun i hi => h i (by omega)
    rw [gS, h1]
    dsimp only
    rw [if_neg (by have := h m (by omega); omega)]
    split <;> exact ⟨_, rfl⟩
theorem lcut_none {ns : List Int} {b : Int} (h : ns ≠ []) : lcut ns b = none ↔ mxI ns > b := by
  unfold lcut
  rw [Option.map_eq_none_iff]
  constructor
  · intro e
    by_cases hb : mxI ns > b
    · exact hb
    · obtain ⟨p, hp⟩ := gS_all (a := rowF ns) (b := b) (m := ns.length) fun i hi => by
        have := mxI_le (rowF_mem hi)
        omega
      rw [e] at hp
      cases hp
  · intro hb
    cases e : gS (rowF ns) b ns.length with
    | none => rfl
    | some p =>
      obtain ⟨i, hi, e2⟩ := List.mem_iff_getElem.mp (mxI_mem h)
      have := gS_small e i hi
      rw [rowF_get (List.getElem?_eq_getElem hi), e2] at this
      omega
theorem gS_go {a : Nat → Int} {b t : Int} {i : Nat} {c : List Int} (h : gS a b i = some (c, t)) (h1 : a i ≤ b) (h2 : t + a i ≤ b) : gS a b (i + 1) = some (c, t + a i) := by
  rw [gS, h]
  dsimp only
  rw [if_neg (by omega), if_neg (by omega)]
theorem gS_new {a : Nat → Int} {b t : Int} {i : Nat} {c : List Int} (h : gS a b i = some (c, t)) (h1 : a i ≤ b) (h2 : b < t + a i) : gS a b (i + 1) = some (c ++ [(i : Int)], a i) := by
  rw [gS, h]
  dsimp only
  rw [if_neg (by omega), if_pos (by omega)]
theorem cutI_init (ns : List Int) : cutI ns none (some (-1)) = ns.dropLast := by
  unfold cutI
  rw [List.dropLast_eq_take, show HT.sIx ns.length 0 none = 0 from rfl, List.drop_zero, Nat.sub_zero]
  congr 1
  unfold HT.sIx
  dsimp only
  simp only [show ((-1 : Int) < 0) from by decide, if_true]
  omega
theorem sum_cut {ns : List Int} {i j : Int} (h0 : 0 ≤ i) (h1 : i ≤ j) (h2 : j ≤ ns.length) : (cutI ns (some i) (some j)).sum = pre (rowF ns) j.toNat - pre (rowF ns) i.toNat := by
  rw [cutI_mid ns h0 h1 h2, sum_part (by omega) (by omega)]
theorem gS_mem {a : Nat → Int} {b : Int} : ∀ {i : Nat} {c : List Int} {t : Int}, gS a b i = some (c, t) → ∀ x ∈ c, 0 ≤ x ∧ x < i
  | 0, c, t, h, x, hx => by
    rw [gS] at h
    cases h
    cases hx
  | i + 1, c, t, h, x, hx => by
    rw [gS] at h
    cases e : gS a b i with
    | none =>
      rw [e] at h
      cases h
    | some p =>
      obtain ⟨c0, t0⟩ := p
      rw [e] at h
      have ih := gS_mem e
      dsimp only at h
      split at h
      · cases h
      · split at h
        · cases h
          rcases List.mem_append.mp hx with hx | hx
          · have := ih x hx
            omega
          · rw [List.mem_singleton.mp hx]
            omega
        · cases h
          have := ih x hx
          omega
theorem lcut_mem {ns c : List Int} {b : Int} (h : lcut ns b = some c) : c.length ≤ ns.length ∧ ∀ x ∈ c, 0 ≤ x ∧ x < ns.length := by
  unfold lcut at h
  cases e : gS (rowF ns) b ns.length with
  | none =>
    rw [e] at h
    cases h
  | some p =>
    obtain ⟨c0, t0⟩ := p
    rw [e] at h
    cases h
    exact ⟨gS_len e, gS_mem e⟩
end PB

namespace PB
open PySem PySem.Spec PyProof.Rows L2
/-! ### the cut whose pieces are each as short as a bound lets; the most pieces -/
def eS (a : Nat → Int) (b : Int) : Nat → List Int × Int
  | 0 => ([], 0)
  | i + 1 => if (eS a b i).2 + a i ≥ b then ((eS a b i).1 ++ [(i : Int) + 1], 0) else ((eS a b i).1, (eS a b i).2 + a i)
def ends (ns : List Int) (b : Int) : List Int := (eS (rowF ns) b ns.length).1
theorem eS_mem (a : Nat → Int) (b : Int) : ∀ i, (eS a b i).1.length ≤ i ∧ ∀ x ∈ (eS a b i).1, 1 ≤ x ∧ x ≤ i
  | 0 => ⟨Nat.le_refl _, fun x h => nomatch h⟩
  | i + 1 => by
    obtain ⟨h1, h2⟩ := eS_mem a b i
    rw [eS]
    split
    · refine ⟨?_, fun x hx => ?_⟩
      · show ((eS a b i).1 ++ [(i : Int) + 1]).length ≤ _
        rw [List.length_append, List.length_singleton]
        omega
      · rcases List.mem_append.mp hx with hx | hx
        · have := h2 x hx
          omega
        · rw [List.mem_singleton.mp hx]
          omega
    · refine ⟨by show (eS a b i).1.length ≤ _; omega, fun x hx => ?_⟩
      have := h2 x hx
      omega
def sh (a : Nat → Int) (k : Nat) : Nat → Int := fun i => a (k + i)
theorem pre_sh (a : Nat → Int) (k : Nat) : ∀ i, pre (sh a k) i = pre a (k + i) - pre a k
  | 0 => by
    show 0 = _
    rw [Nat.add_zero]
    omega
  | i + 1 => by
    rw [pre, pre_sh a k i, ← Nat.add_assoc, pre]
    show _ + a (k + i) = _
    omega
theorem eS_shift {a : Nat → Int} {b : Int} {k : Nat} {c : List Int} (h : eS a b k = (c, 0)) : ∀ m, eS a b (k + m) = (c ++ (eS (sh a k) b m).1.map (· + (k : Int)), (eS (sh a k) b m).2)
  | 0 => by
    rw [Nat.add_zero, h, eS]
    show (c, (0 : Int)) = (c ++ [], 0)
    rw [List.append_nil]
  | m + 1 => by
    rw [← Nat.add_assoc, eS, eS_shift h m, eS]
    show (if (eS (sh a k) b m).2 + a (k + m) ≥ b then _ else _) = _
    by_cases hb : (eS (sh a k) b m).2 + a (k + m) ≥ b
    · rw [if_pos hb, if_pos (show (eS (sh a k) b m).2 + sh a k m ≥ b from hb)]
      show (_ ++ [((k + m : Nat) : Int) + 1], (0 : Int)) = (c ++ ((eS (sh a k) b m).1 ++ [(m : Int) + 1]).map (· + (k : Int)), 0)
      rw [List.map_append, ← List.append_assoc]
      show (_ ++ [((k + m : Nat) : Int) + 1], (0 : Int)) = (_ ++ [(m : Int) + 1 + (k : Int)], 0)
      rw [show ((k + m : Nat) : Int) + 1 = (m : Int) + 1 + (k : Int) by omega]
    · rw [if_neg hb, if_neg (show ¬ (eS (sh a k) b m).2 + sh a k m ≥ b from hb)]
      rfl
theorem eS_low {a : Nat → Int} {b : Int} : ∀ {m : Nat}, (∀ e, 1 ≤ e → e ≤ m → pre a e < b) → eS a b m = ([], pre a m)
  | 0, _ => rfl
  | m + 1, h => by
    rw [eS, eS_low fun e h1 h2 => h e h1 (by omega)]
    have := h (m + 1) (by omega) (Nat.le_refl _)
    rw [pre] at this
    exact if_neg (by show ¬ pre a m + a m ≥ b; omega)
theorem eS_hit {a : Nat → Int} {b : Int} {m : Nat} (h : ∀ e, 1 ≤ e → e < m + 1 → pre a e < b) (h2 : pre a (m + 1) ≥ b) : eS a b (m + 1) = ([(m : Int) + 1], 0) := by
  rw [eS, eS_low fun e h1 h2 => h e h1 (by omega)]
  rw [pre] at h2
  exact if_pos h2
/-- how many from a place on -/
def gE (a : Nat → Int) (b : Int) (n beg : Nat) : Nat := (eS (sh a beg) b (n - beg)).1.length
theorem gE_none {a : Nat → Int} {b : Int} {n beg : Nat} (h : ∀ e, beg < e → e ≤ n → pre a e - pre a beg < b) : gE a b n beg = 0 := by
  unfold gE
  rw [eS_low fun e h1 h2 => by
    rw [pre_sh]
    exact h _ (by omega) (by omega)]
  rfl
theorem eS_next {a : Nat → Int} {b : Int} {beg e : Nat} (hbe : beg < e) (h : ∀ j, beg < j → j < e → pre a j - pre a beg < b) (h2 : pre a e - pre a beg ≥ b) : eS (sh a beg) b (e - beg) = ([((e - beg : Nat) : Int)], 0) := by
  obtain ⟨m, rfl⟩ : ∃ m, e = beg + (m + 1) := ⟨e - beg - 1, by omega⟩
  rw [show beg + (m + 1) - beg = m + 1 by omega, eS_hit (fun j h1 h3 => by
    rw [pre_sh]
    exact h _ (by omega) (by omega)) (by rw [pre_sh]; exact h2)]
  rfl
theorem gE_next {a : Nat → Int} {b : Int} {n beg e : Nat} (hbe : beg < e) (hen : e ≤ n) (h : ∀ j, beg < j → j < e → pre a j - pre a beg < b) (h2 : pre a e - pre a beg ≥ b) : gE a b n beg = 1 + gE a b n e := by
  have s := eS_shift (eS_next hbe h h2) (n - e)
  unfold gE
  rw [show n - beg = (e - beg) + (n - e) by omega, s]
  have e2 : sh (sh a beg) (e - beg) = sh a e := by
    funext i
    show a (beg + (e - beg + i)) = a (e + i)
    rw [show beg + (e - beg + i) = e + i by omega]
  rw [e2, List.length_append, List.length_map, List.length_singleton]
theorem eS_at {a : Nat → Int} {b : Int} {beg e : Nat} {c : List Int} (hc : eS a b beg = (c, 0)) (hbe : beg < e) (h : ∀ j, beg < j → j < e → pre a j - pre a beg < b) (h2 : pre a e - pre a beg ≥ b) : eS a b e = (c ++ [(e : Int)], 0) := by
  have s := eS_shift hc (e - beg)
  rw [eS_next hbe h h2, show beg + (e - beg) = e by omega] at s
  rw [s]
  show (c ++ [((e - beg : Nat) : Int) + (beg : Int)], (0 : Int)) = _
  rw [show ((e - beg : Nat) : Int) + (beg : Int) = (e : Int) by omega]
theorem least {p : Nat → Prop} : ∀ e, p e → ∃ m, m ≤ e ∧ p m ∧ ∀ j, j < m → ¬ p j := by
  intro e
  induction e using Nat.strongRecOn with
  | _ e ih =>
    intro h
    by_cases hx : ∃ j, j < e ∧ p j
    · obtain ⟨j, hj, hp⟩ := hx
      obtain ⟨m, h1, h2⟩ := ih j hj hp
      exact ⟨m, by omega, h2⟩
    · exact ⟨e, Nat.le_refl _, h, fun j hj hp => hx ⟨j, hj, hp⟩⟩
/-- the first end from a place on, or none -/
theorem next_or {a : Nat → Int} (b : Int) (n beg : Nat) : (∀ e, beg < e → e ≤ n → pre a e - pre a beg < b) ∨ ∃ e, beg < e ∧ e ≤ n ∧ (∀ j, beg < j → j < e → pre a j - pre a beg < b) ∧ pre a e - pre a beg ≥ b := by
  by_cases hx : ∃ e, beg < e ∧ e ≤ n ∧ pre a e - pre a beg ≥ b
  · obtain ⟨e0, h0⟩ := hx
    obtain ⟨m, _, ⟨h1, h2, h3⟩, h4⟩ := least (p := fun e => beg < e ∧ e ≤ n ∧ pre a e - pre a beg ≥ b) e0 h0
    refine .inr ⟨m, h1, h2, fun j hj hm => ?_, h3⟩
    have := h4 j hm
    by_cases hb : pre a j - pre a beg < b
    · exact hb
    · exact absurd ⟨hj, by omega, by omega⟩ this
  · refine .inl fun e h1 h2 => ?_
    by_cases hb : pre a e - pre a beg < b
    · exact hb
    · exact absurd ⟨e, h1, h2, by omega⟩ hx
theorem gE_end (a : Nat → Int) (b : Int) (n : Nat) : gE a b n n = 0 := gE_none fun e h1 h2 => by omega
theorem gE_anti {a : Nat → Int} {b : Int} {n : Nat} (hn : ∀ i, i < n → 0 ≤ a i) : ∀ (d beg beg2 : Nat), n - beg ≤ d → beg ≤ beg2 → beg2 ≤ n → gE a b n beg2 ≤ gE a b n beg
  | 0, beg, beg2, hd, h1, h2 => by
    obtain rfl : beg2 = beg := by omega
    exact Nat.le_refl _
  | d + 1, beg, beg2, hd, h1, h2 => by
    rcases next_or (a := a) b n beg2 with h | ⟨e2, a1, a2, a3, a4⟩
    · rw [gE_none h]
      exact Nat.zero_le _
    · rcases next_or (a := a) b n beg with h | ⟨e1, b1, b2, b3, b4⟩
      · have m1 := pre_mono hn h1 h2
        have := h e2 (by omega) a2
        omega
      · rw [gE_next a1 a2 a3 a4, gE_next b1 b2 b3 b4]
        have hle : e1 ≤ e2 := by
          rcases Nat.lt_or_ge e2 e1 with h | h
          · have m1 := pre_mono hn h1 h2
            have := b3 e2 (by omega) h
            omega
          · exact h
        have := gE_anti (b := b) hn d e1 e2 (by omega) hle a2
        omega
/-- the most pieces from a place on -/
def mX (a : Nat → Int) (b : Int) (n j : Nat) : Option Int := if j = n then some 0 else if gE a b n j = 0 then none else some (gE a b n j)
theorem mX_some {a : Nat → Int} {b k : Int} {n j : Nat} (h : mX a b n j = some k) : k = gE a b n j := by
  unfold mX at h
  split at h
  · rename_i e
    cases h
    rw [e, gE_end]
    rfl
  · split at h
    · cases h
    · cases h
      rfl
def mC (f : Nat → Option Int) (a : Nat → Int) (b : Int) (beg e : Nat) : Option Int := if pre a e - pre a beg ≥ b then (f e).map (· + 1) else none
def optMax (o c : Option Int) : Option Int := match c with
  | none => o
  | some m => some (max (o.getD 0) m)
def mB (f : Nat → Option Int) (a : Nat → Int) (b : Int) (beg : Nat) : Nat → Option Int
  | 0 => none
  | j + 1 => optMax (mB f a b beg j) (mC f a b beg (beg + 1 + j))
theorem mC_some {f : Nat → Option Int} {a : Nat → Int} {b m : Int} {beg e : Nat} (h : mC f a b beg e = some m) : pre a e - pre a beg ≥ b ∧ ∃ k, f e = some k ∧ m = k + 1 := by
  unfold mC at h
  split at h
  · rename_i hle
    cases hf : f e with
    | none =>
      rw [hf] at h
      cases h
    | some k =>
      rw [hf] at h
      cases h
      exact ⟨hle, k, rfl, rfl⟩
  · cases h
theorem mB_spec {f : Nat → Option Int} {a : Nat → Int} {b : Int} {beg : Nat} (hp : ∀ e m, f e = some m → 0 ≤ m) : ∀ j,
    (∀ m, mB f a b beg j = some m → (∃ i, i < j ∧ mC f a b beg (beg + 1 + i) = some m) ∧ ∀ i m', i < j → mC f a b beg (beg + 1 + i) = some m' → m' ≤ m) ∧
    (mB f a b beg j = none → ∀ i, i < j → mC f a b beg (beg + 1 + i) = none)
  | 0 => ⟨(fun m h => nomatch h), fun _ i h => absurd h (Nat.not_lt_zero _)⟩
  | j + 1 => by
    obtain ⟨ih1, ih2⟩ := mB_spec (a := a) (b := b) (beg := beg) hp j
    have cov : ∀ i, i < j + 1 → i = j ∨ i < j := fun i h => by omega
    rw [mB]
    cases ec : mC f a b beg (beg + 1 + j) with
    | none =>
      refine ⟨fun m h => ?_, fun h i h1 => ?_⟩
      · obtain ⟨⟨i, a2, a3⟩, a4⟩ := ih1 m h
        refine ⟨⟨i, by omega, a3⟩, fun i m' h1 h3 => ?_⟩
        rcases cov i h1 with rfl | h1
        · rw [ec] at h3
          cases h3
        · exact a4 i m' h1 h3
      · rcases cov i h1 with rfl | h1
        · exact ec
        · exact ih2 h i h1
    | some x =>
      obtain ⟨_, k, hk, rfl⟩ := mC_some ec
      have hk0 := hp _ _ hk
      show (∀ m, some (max ((mB f a b beg j).getD 0) (k + 1)) = some m → _) ∧ (some _ = none → _)
      refine ⟨fun m h => ?_, (fun h => nomatch h)⟩
      cases h
      cases eb : mB f a b beg j with
      | none =>
        show (∃ i, i < j + 1 ∧ mC f a b beg (beg + 1 + i) = some (max 0 (k + 1))) ∧ ∀ i m', i < j + 1 → mC f a b beg (beg + 1 + i) = some m' → m' ≤ max 0 (k + 1)
        rw [show max 0 (k + 1) = k + 1 by omega]
        refine ⟨⟨j, by omega, ec⟩, fun i m' h1 h3 => ?_⟩
        rcases cov i h1 with rfl | h1
        · rw [ec] at h3
          cases h3
          exact Int.le_refl _
        · rw [ih2 eb i h1] at h3
          cases h3
      | some y =>
        obtain ⟨⟨i0, a2, a3⟩, a4⟩ := ih1 y eb
        show (∃ i, i < j + 1 ∧ mC f a b beg (beg + 1 + i) = some (max y (k + 1))) ∧ ∀ i m', i < j + 1 → mC f a b beg (beg + 1 + i) = some m' → m' ≤ max y (k + 1)
        refine ⟨?_, fun i m' h1 h3 => ?_⟩
        · rcases Int.le_total y (k + 1) with h | h
          · exact ⟨j, by omega, by rw [Int.max_eq_right h]; exact ec⟩
          · exact ⟨i0, by omega, by rw [Int.max_eq_left h]; exact a3⟩
        · rcases cov i h1 with rfl | h1
          · rw [ec] at h3
            cases h3
            omega
          · have := a4 i m' h1 h3
            omega
theorem mB_congr {f g : Nat → Option Int} {a : Nat → Int} {b : Int} {beg : Nat} (h : ∀ e, beg < e → f e = g e) : ∀ j, mB f a b beg j = mB g a b beg j
  | 0 => rfl
  | j + 1 => by
    rw [mB, mB, mB_congr h j]
    unfold mC
    rw [h _ (by omega)]
theorem mX_best {a : Nat → Int} {b : Int} {n beg : Nat} (hn : ∀ i, i < n → 0 ≤ a i) (hb : beg < n) : mB (mX a b n) a b beg (n - beg) = mX a b n beg := by
  obtain ⟨s1, s2⟩ := mB_spec (f := mX a b n) (a := a) (b := b) (beg := beg) (fun e m h => by
    rw [mX_some h]
    omega) (n - beg)
  rcases next_or (a := a) b n beg with h | ⟨e1, b1, b2, b3, b4⟩
  · have g0 := gE_none h
    have hx : mX a b n beg = none := by
      unfold mX
      rw [if_neg (by omega), if_pos g0]
    rw [hx]
    cases hm : mB (mX a b n) a b beg (n - beg) with
    | none => rfl
    | some m =>
      obtain ⟨⟨i, hi, hc⟩, _⟩ := s1 m hm
      obtain ⟨h5, _⟩ := mC_some hc
      have := h (beg + 1 + i) (by omega) (by omega)
      omega
  · have g1 := gE_next b1 b2 b3 b4
    have hx : mX a b n beg = some (gE a b n beg : Int) := by
      unfold mX
      rw [if_neg (by omega), if_neg (by omega)]
    rw [hx]
    have hat : ∃ i, i < n - beg ∧ mC (mX a b n) a b beg (beg + 1 + i) = some (gE a b n beg : Int) := by
      by_cases hz : gE a b n e1 = 0
      · refine ⟨n - beg - 1, by omega, ?_⟩
        rw [show beg + 1 + (n - beg - 1) = n by omega]
        have m1 := pre_mono hn b2 (Nat.le_refl _)
        unfold mC mX
        rw [if_pos (by omega), if_pos rfl, g1, hz]
        rfl
      · refine ⟨e1 - beg - 1, by omega, ?_⟩
        rw [show beg + 1 + (e1 - beg - 1) = e1 by omega]
        unfold mC mX
        have hne : e1 ≠ n := fun z => by
          rw [z, gE_end] at hz
          omega
        rw [if_pos b4, if_neg hne, if_neg hz, g1]
        show some ((gE a b n e1 : Int) + 1) = _
        congr 1
        omega
    obtain ⟨i, hi, hc⟩ := hat
    cases hm : mB (mX a b n) a b beg (n - beg) with
    | none =>
      rw [s2 hm i hi] at hc
      cases hc
    | some m =>
      obtain ⟨⟨i2, hi2, hc2⟩, hmax⟩ := s1 m hm
      have := hmax i _ hi hc
      obtain ⟨h5, k, h6, rfl⟩ := mC_some hc2
      have hk := mX_some h6
      have hle : e1 ≤ beg + 1 + i2 := by
        rcases Nat.lt_or_ge (beg + 1 + i2) e1 with h | h
        · have := b3 _ (by omega) h
          omega
        · exact h
      have := gE_anti hn (b := b) n e1 (beg + 1 + i2) (by omega) hle (by omega)
      congr 1
      omega
/-- the table from behind, so many turns -/
def mT (a : Nat → Int) (b : Int) (n k j : Nat) : Option Int := if n - k ≤ j then mX a b n j else none
theorem mT_zero {a : Nat → Int} {b : Int} {n j : Nat} (h : j ≤ n) : mT a b n 0 j = if j = n then some 0 else none := by
  unfold mT mX
  by_cases e : j = n
  · rw [if_pos (by omega), if_pos e, if_pos e]
  · rw [if_neg (by omega), if_neg e]
theorem mT_step {a : Nat → Int} {b : Int} {n k : Nat} (hn : ∀ i, i < n → 0 ≤ a i) (hk : k < n) (j : Nat) : mT a b n (k + 1) j = if j = n - 1 - k then mB (mT a b n k) a b (n - 1 - k) (k + 1) else mT a b n k j := by
  by_cases e : j = n - 1 - k
  · rw [if_pos e, e, mB_congr (f := mT a b n k) (g := mX a b n) (fun e he => if_pos (by omega)), show k + 1 = n - (n - 1 - k) by omega, mX_best hn (by omega)]
    exact if_pos (by omega)
  · rw [if_neg e]
    unfold mT
    by_cases h : n - k ≤ j
    · rw [if_pos h, if_pos (by omega)]
    · rw [if_neg h, if_neg (by omega)]
theorem tab_get (f : Nat → Option Int) (e k : Nat) : (tab f e)[k]? = if k < e then some (optV (f k)) else none := by
  unfold tab
  rw [List.getElem?_map]
  by_cases h : k < e
  · rw [if_pos h, List.getElem?_range h]
    rfl
  · rw [if_neg h, List.getElem?_eq_none (by rw [List.length_range]; omega)]
    rfl
theorem tab_set {f : Nat → Option Int} {e i : Nat} {v : Option Int} (h : i < e) : (tab f e).set i (optV v) = tab (fun j => if j = i then v else f j) e := by
  refine List.ext_getElem? fun k => ?_
  rw [List.getElem?_set, tab_get, tab_get, tab_len]
  by_cases e2 : i = k
  · rw [if_pos e2, if_pos h, if_pos (by omega), if_pos e2.symm]
  · rw [if_neg e2, if_neg (show ¬ k = i from fun z => e2 z.symm)]
theorem tab_congr {f g : Nat → Option Int} {e : Nat} (h : ∀ j, j < e → f j = g j) : tab f e = tab g e := by
  unfold tab
  exact List.map_congr_left fun i hi => by rw [h i (List.mem_range.mp hi)]
theorem tab_start (a : Nat → Int) (b : Int) (n : Nat) : List.replicate n V.non ++ [.int 0] = tab (mT a b n 0) (n + 1) := by
  rw [← tab_succ]
  congr 1
  · refine List.ext_getElem? fun k => ?_
    rw [tab_get, List.getElem?_replicate]
    by_cases h : k < n
    · rw [if_pos h, if_pos h, mT_zero (by omega), if_neg (by omega)]
      rfl
    · rw [if_neg h, if_neg h]
  · rw [mT_zero (Nat.le_refl _), if_pos rfl]
    rfl
theorem mT_all (a : Nat → Int) (b : Int) (n j : Nat) : mT a b n n j = mX a b n j := if_pos (by omega)
/-- how many ends -/
theorem ends_len (ns : List Int) (b : Int) : (ends ns b).length = gE (rowF ns) b ns.length 0 := by
  unfold ends gE
  have : sh (rowF ns) 0 = rowF ns := by
    funext i
    show rowF ns (0 + i) = _
    rw [Nat.zero_add]
  rw [this]
  rfl
def mostO (ns : List Int) (b : Int) : Option Int := if ends ns b = [] then none else some ((ends ns b).length : Int)
theorem mX_most {ns : List Int} (b : Int) (h : 1 ≤ ns.length) : mX (rowF ns) b ns.length 0 = mostO ns b := by
  unfold mX mostO
  rw [if_neg (by omega), ← ends_len]
  by_cases e : ends ns b = []
  · rw [if_pos e, e]
    rfl
  · rw [if_neg e, if_neg (fun z => e (List.length_eq_zero_iff.mp z))]
def firstO (ns : List Int) (b : Int) : Option (List Int) := if ends ns b = [] then none else some (ends ns b).dropLast
theorem most_le {ns : List Int} {b m : Int} (h : mostO ns b = some m) : 1 ≤ m ∧ m ≤ ns.length := by
  unfold mostO at h
  split at h
  · cases h
  · rename_i hne
    cases h
    have := (eS_mem (rowF ns) b ns.length).1
    have h0 : (ends ns b).length ≠ 0 := fun z => hne (List.length_eq_zero_iff.mp z)
    unfold ends at h0 ⊢
    omega
theorem first_mem {ns c : List Int} {b : Int} (h : firstO ns b = some c) : c.length ≤ ns.length ∧ ∀ x ∈ c, 0 ≤ x ∧ x ≤ ns.length := by
  unfold firstO at h
  split at h
  · cases h
  · cases h
    obtain ⟨h1, h2⟩ := eS_mem (rowF ns) b ns.length
    refine ⟨?_, fun x hx => ?_⟩
    · rw [List.length_dropLast]
      unfold ends
      omega
    · have := h2 x (List.dropLast_subset _ hx)
      omega
end PB
namespace PB
open PySem PySem.Spec PyProof.Rows L2
def top_ (i : Nat) : Stmt := PySem.Challenge.pw_piecebounds_k10_most_pieces.main.body.getD i (.Pass ⟨0, 0, 0, 0⟩)
abbrev s_ends_of : Stmt := top_ 1
abbrev s_most_pieces : Stmt := top_ 2
abbrev s_first_cut : Stmt := top_ 3
abbrev s__law_hand : Stmt := top_ 5
abbrev s__law_draw : Stmt := top_ 6
abbrev s__law_cells : Stmt := top_ 7
abbrev s__law_great : Stmt := top_ 8
abbrev s__law_row : Stmt := top_ 9
abbrev s__law_bounds : Stmt := top_ 10
abbrev s__law_same : Stmt := top_ 11
abbrev s__law_most : Stmt := top_ 12
abbrev s__law_first : Stmt := top_ 13
abbrev s__law_right : Stmt := top_ 14
abbrev s_law : Stmt := top_ 15
/-! the steps, by themselves -/
set_option hygiene false in
local macro_rules | `(tactic| k_updF) => `(tactic| first
  | assumption
  | exact SqL.of (Tr.get0 (by assumption)) | exact SqL.of (Tr.get1 (by assumption)) | exact SqL.of (Tr.get2 (by assumption)) | exact SqL.of (Tr.get3 (by assumption))
  | exact SqL.of (Tr.get4 (by assumption)) | exact SqL.of (Tr.get5 (by assumption)) | exact SqL.of (Tr.get6 (by assumption)) | exact SqL.of (Tr.get7 (by assumption)) | exact SqL.of (Tr.get8 (by assumption))
  | exact SqT.of (Tr.get0 (by assumption)) | exact SqT.of (Tr.get1 (by assumption)) | exact SqT.of (Tr.get2 (by assumption)) | exact SqT.of (Tr.get3 (by assumption))
  | exact SqT.of (Tr.get4 (by assumption)) | exact SqT.of (Tr.get5 (by assumption)) | exact SqT.of (Tr.get6 (by assumption))
  | exact Tr.get0 (by assumption) | exact Tr.get1 (by assumption) | exact Tr.get2 (by assumption) | exact Tr.get3 (by assumption) | exact Tr.get4 (by assumption)
  | exact Tr.get5 (by assumption) | exact Tr.get6 (by assumption) | exact Tr.get7 (by assumption) | exact Tr.get8 (by assumption) | exact Tr.get9 (by assumption)
  | exact Tr.seq (by assumption) (by assumption) | exact Tr.fz (by assumption) (by assumption)
  | exact SqL.of (Tr.fz (by assumption) (by assumption)) | exact SqT.of (Tr.fz (by assumption) (by assumption)))
set_option hygiene false in
local macro_rules | `(tactic| k_allIn) => `(tactic| first
  | omega | assumption | rfl | decide | (intro hh; cases hh; done)
  | (simp only [List.length_append, List.length_map, List.length_cons, List.length_nil, List.length_replicate, List.length_set]; omega))
set_option hygiene false in
local macro_rules | `(tactic| k_memK) => `(tactic| first
  | assumption | (exact Nat.le_trans (by omega) (by decide : 100000 ≤ sizeLine)) | (exact Nat.lt_of_lt_of_le (by omega) (by decide : 100000 ≤ sizeLine))
  | (simp only [List.length_append, List.length_map, List.length_cons, List.length_nil, List.length_replicate, List.length_set, List.length_take, List.length_drop]; first | (exact Nat.le_trans (by omega) (by decide : 100000 ≤ sizeLine)) | (exact Nat.lt_of_lt_of_le (by omega) (by decide : 100000 ≤ sizeLine))) | decide)
set_option hygiene false in
local macro_rules | `(tactic| k_clsL) => `(tactic| fail)
set_option hygiene false in
local macro_rules | `(tactic| k_subL) => `(tactic| first
  | refine Step.h ?_
  | (apply g_var; refine i_var (by with_unfolding_all rfl) ?_)
  | (apply g_ix; first
      | refine i_ixL (by k_updF) (by assumption) ?_ | refine i_ixL (by k_updF) (by with_unfolding_all rfl) ?_ | refine i_ixI (by k_updF) (by omega) (by omega) ?_
      | refine i_ixT (by k_updF) (by with_unfolding_all rfl) ?_ | refine i_ixM (by k_updF) (by omega) (by omega) ?_ | refine i_ixLast (by k_updF) (by assumption) ?_)
  | (apply g_ite; first
      | refine i_decT (by k_allIn) ?_ | refine i_decF (by k_allIn) ?_ | refine i_ndecT (by k_allIn) ?_ | refine i_ndecF (by k_allIn) ?_)
  | (apply g_I; first
      | refine i_mod (by first | decide | omega | assumption) ?_ | refine i_fdiv (by first | decide | omega | assumption) (by first | decide | omega | assumption) ?_
      | refine i_sq (by first | omega | assumption) ?_ | refine i_pow (n := 1000000000000000000) (by decide) (by with_unfolding_all rfl) ?_ | refine i_pow (n := 1000000000000) (by decide) (by with_unfolding_all rfl) ?_ | refine i_pow (n := 1000000000000000000000000000000) (by decide) (by with_unfolding_all rfl) ?_)
  | (apply g_add; first
      | refine i_catI (by assumption) (by k_updF) (by k_updF) (by k_memK) (fun p H T => ?_)
      | refine i_cat (by assumption) (by k_updF) (by k_updF) (by k_memK) (fun p H T => ?_))
  | (apply g_mul; first
      | refine i_mulI (wide_mul (a := 500) (b := 500) (by omega) (by omega) (by decide) (by decide) (by decide)) ?_
      | refine i_repI (by assumption) (by k_updF) (by omega) (by omega) (by k_memK) (fun p H T => ?_)
      | refine i_rep (by assumption) (by k_updF) (by omega) (by omega) (by k_memK) (fun p H T => ?_))
  | (apply g_len; first
      | refine i_lenI (by k_updF) ?_ | refine i_len (by k_updF) ?_ | refine i_lenT (by k_updF) ?_)
  | (apply g_sl; first
      | refine i_slI (by assumption) (by k_updF) (fun p H T => ?_) | refine i_slL (by assumption) (by k_updF) (fun p H T => ?_))
  | (apply g_mt; refine i_mtL (by k_updF) ?_)
  | (apply g_app; first
      | (refine i_appendI 0 (by assumption) (by with_unfolding_all rfl) (by k_memK) (fun H T => ?_); dsimp only [List.set] at T)
      | (refine i_append 0 (by assumption) (by with_unfolding_all rfl) (by k_memK) (fun H T => ?_); dsimp only [List.set] at T)
      | (refine i_appendI 1 (by assumption) (by with_unfolding_all rfl) (by k_memK) (fun H T => ?_); dsimp only [List.set] at T)
      | (refine i_append 1 (by assumption) (by with_unfolding_all rfl) (by k_memK) (fun H T => ?_); dsimp only [List.set] at T)
      | (refine i_appendI 2 (by assumption) (by with_unfolding_all rfl) (by k_memK) (fun H T => ?_); dsimp only [List.set] at T)
      | (refine i_append 2 (by assumption) (by with_unfolding_all rfl) (by k_memK) (fun H T => ?_); dsimp only [List.set] at T)
      | (refine i_appendI 3 (by assumption) (by with_unfolding_all rfl) (by k_memK) (fun H T => ?_); dsimp only [List.set] at T)
      | (refine i_append 3 (by assumption) (by with_unfolding_all rfl) (by k_memK) (fun H T => ?_); dsimp only [List.set] at T)
      | (refine i_appendI 4 (by assumption) (by with_unfolding_all rfl) (by k_memK) (fun H T => ?_); dsimp only [List.set] at T)
      | (refine i_append 4 (by assumption) (by with_unfolding_all rfl) (by k_memK) (fun H T => ?_); dsimp only [List.set] at T)
      | (refine i_appendI 5 (by assumption) (by with_unfolding_all rfl) (by k_memK) (fun H T => ?_); dsimp only [List.set] at T)
      | (refine i_append 5 (by assumption) (by with_unfolding_all rfl) (by k_memK) (fun H T => ?_); dsimp only [List.set] at T))
  | (apply g_elt; first
      | (refine i_eltI 0 (by assumption) (by with_unfolding_all rfl) (by k_memK) (fun H T => ?_); dsimp only [List.set] at T)
      | (refine i_elt 0 (by assumption) (by with_unfolding_all rfl) (by k_memK) (fun H T => ?_); dsimp only [List.set] at T)
      | (refine i_eltI 1 (by assumption) (by with_unfolding_all rfl) (by k_memK) (fun H T => ?_); dsimp only [List.set] at T)
      | (refine i_elt 1 (by assumption) (by with_unfolding_all rfl) (by k_memK) (fun H T => ?_); dsimp only [List.set] at T)
      | (refine i_eltI 2 (by assumption) (by with_unfolding_all rfl) (by k_memK) (fun H T => ?_); dsimp only [List.set] at T)
      | (refine i_elt 2 (by assumption) (by with_unfolding_all rfl) (by k_memK) (fun H T => ?_); dsimp only [List.set] at T)
      | (refine i_eltI 3 (by assumption) (by with_unfolding_all rfl) (by k_memK) (fun H T => ?_); dsimp only [List.set] at T)
      | (refine i_elt 3 (by assumption) (by with_unfolding_all rfl) (by k_memK) (fun H T => ?_); dsimp only [List.set] at T)
      | (refine i_eltI 4 (by assumption) (by with_unfolding_all rfl) (by k_memK) (fun H T => ?_); dsimp only [List.set] at T)
      | (refine i_elt 4 (by assumption) (by with_unfolding_all rfl) (by k_memK) (fun H T => ?_); dsimp only [List.set] at T)
      | (refine i_eltI 5 (by assumption) (by with_unfolding_all rfl) (by k_memK) (fun H T => ?_); dsimp only [List.set] at T)
      | (refine i_elt 5 (by assumption) (by with_unfolding_all rfl) (by k_memK) (fun H T => ?_); dsimp only [List.set] at T))
  | (apply g_set; first
      | (refine i_setI 0 (by assumption) (by with_unfolding_all rfl) (by omega) (by omega) (fun H T => ?_); dsimp only [List.set] at T)
      | (refine i_setI 1 (by assumption) (by with_unfolding_all rfl) (by omega) (by omega) (fun H T => ?_); dsimp only [List.set] at T)
      | (refine i_setI 2 (by assumption) (by with_unfolding_all rfl) (by omega) (by omega) (fun H T => ?_); dsimp only [List.set] at T)
      | (refine i_setI 3 (by assumption) (by with_unfolding_all rfl) (by omega) (by omega) (fun H T => ?_); dsimp only [List.set] at T)
      | (refine i_setL (l := 0) 0 (by assumption) (by with_unfolding_all rfl) (by with_unfolding_all rfl) (fun H T => ?_); dsimp only [List.set] at T)
      | (refine i_setL (l := 1) 0 (by assumption) (by with_unfolding_all rfl) (by with_unfolding_all rfl) (fun H T => ?_); dsimp only [List.set] at T))
  | (apply g_lst; first
      | refine i_lstC (by assumption) (by k_memK) (fun p H T => ?_) | refine i_lst (by assumption) (by k_memK) (fun p H T => ?_))
  | (apply g_tup; refine i_tup (by assumption) (by k_memK) (fun p H T => ?_))
  | (apply g_unp; refine i_unp (by k_updF) (by with_unfolding_all rfl) ?_)
  | (apply g_list; first | refine i_list (by assumption) (by k_updF) (fun p H T => ?_) | refine i_listT (by assumption) (by k_updF) (fun p H T => ?_))
  | (apply g_itL; refine i_itL (by k_updF) ?_) | (apply g_itT; refine i_itT (by k_updF) ?_)
  | (apply g_en; refine i_en (by k_updF) ?_) | (apply g_zp; refine i_zp (by k_updF) (by k_updF) ?_)
  | (apply g_rg1; refine i_rg1 (by omega) (by omega) ?_) | (apply g_rg2; refine i_rg2 (by omega) ?_) | (apply g_rg3; refine i_rg3n (by omega) ?_)
  | (apply g_eq; first
      | refine i_eqLI (by k_updF) (by k_updF) ?_ | refine i_eqLnil (by k_updF) (by k_updF) ?_)
  | (apply g_ne; first
      | refine i_neLI (by k_updF) (by k_updF) ?_ | refine i_neLnil (by k_updF) (by k_updF) ?_)
  | (apply g_repr; refine i_reprI (by k_updF) (by assumption) (by omega) ?_)
  | (apply g_sum; refine i_sum (by k_updF) ?_) | (apply g_max; refine i_maxF (by k_updF) (by k_allIn) ?_) | (apply g_min; refine i_minF (by k_updF) (by k_allIn) ?_)
  | (apply g_wipe; refine i_wipe (by with_unfolding_all rfl) ?_)
  | (apply g_aug; refine i_aug (by with_unfolding_all rfl) ?_)
  | k_clsL
  | dsimp only)
set_option hygiene false in
local macro_rules | `(tactic| k_offL) => `(tactic| repeat (with_reducible (k_subL)))
set_option hygiene false in
local macro_rules | `(tactic| k_ownIn) => `(tactic| first
  | assumption | exact Tr.drop (by assumption) | exact Tr.drop (Tr.drop (by assumption)) | exact Tr.drop (Tr.drop (Tr.drop (by assumption))) | exact Tr.drop (Tr.drop (Tr.drop (Tr.drop (by assumption)))) | exact Tr.drop (Tr.drop (Tr.drop (Tr.drop (Tr.drop (by assumption))))) | exact Tr.drop (Tr.drop (Tr.drop (Tr.drop (Tr.drop (Tr.drop (by assumption)))))) | exact Tr.drop (Tr.drop (Tr.drop (Tr.drop (Tr.drop (Tr.drop (Tr.drop (by assumption))))))) | exact Tr.drop (Tr.drop (Tr.drop (Tr.drop (Tr.drop (Tr.drop (Tr.drop (Tr.drop (by assumption)))))))) | exact Tr.drop (Tr.drop (Tr.drop (Tr.drop (Tr.drop (Tr.drop (Tr.drop (Tr.drop (Tr.drop (by assumption))))))))))
/-! ### ends_of -/

def sp_ends_of (K : PySem.W.Frag) : Sp := fun vs H Q _ => ∃ (a : Addr) (ns : List Int) (b : Int), vs = [.ref a, .int b] ∧ SqL K H a (ns.map V.int) ∧ ns.length ≤ 3000 ∧
  ∀ (p : Addr) (H' : Hp), Same H H' → H p = none → H' p = some (.lst ((ends ns b).map V.int)) → Q (.ref p) H'
theorem use_ends_of {K : PySem.W.Frag} {B H : Hp} {L : List (Addr × HO)} {Q : VK} {E : XK} {a : Addr} {ns : List Int} {b : Int} (T : Tr B L H) (h1 : SqL K H a (ns.map V.int)) (h2 : ns.length ≤ 3000)
    (k : ∀ p H', Tr B ((p, .lst ((ends ns b).map V.int)) :: L) H' → Q (.ref p) H') : sp_ends_of K [.ref a, .int b] H Q E :=
  ⟨a, ns, b, rfl, h1, h2, fun p H' s n e => k p H' (T.add s n e)⟩
section
variable {P : Program} {w : World} {K : PySem.W.Frag} {mg : Str → Option Value} {base : Heap}
abbrev N_ends_of : List Str := ["row", "bound", "found", "total", "place", "number"]
theorem scope_ends_of : FnScope N_ends_of ["row", "bound"] (defScope s_ends_of) := ⟨rfl, rfl, rfl, by decide +kernel, rfl, by decide +kernel, by decide +kernel⟩
theorem ok_ends_of {f : Addr} {fd : FuncData} (F : FunD K "ends_of" "ends_of" (defArgs s_ends_of) (defBody s_ends_of) (defScope s_ends_of) [] [] f fd) (hm : mg "ends_of" = some (.ref f)) (Z : Blt mg) :
    Fn P w K mg base 1 "ends_of" ["row", "bound"] (sp_ends_of K) := by
  refine mkFn F hm (fun _ _ _ _ _ _ us hl => match us, hl with | [_, _], _ => rfl) (okG (k := 0) F scope_ends_of (fun vs H0 Q E h => ?_) (fun cdv A outer s H0 vs Q E hr hgd h => ?_))
  · unfold sp_ends_of at h
    (repeat (obtain ⟨_, h⟩ := h)); subst_vars; rfl
  · have nd := scope_ends_of.nd
    have hu := hr.units
    unfold sp_ends_of at h
    refine ⟨_, PSs.nox (pss_cons (ps_set (i := 2) nd rfl (.inl rfl) (pe_lst pa_nil))
    (pss_cons (ps_set (i := 3) nd rfl (.inl rfl) pe_int)
    (pss_cons (ps_for PassesOwn.never rfl (pi_enum (by rfl) Z.enumerate_ (pa_cons (pv 0) pa_nil)) (pg_tup (by rfl) (pgs_cons (pg_name (i := 4) nd rfl (.inl rfl)) (pgs_cons (pg_name (i := 5) nd rfl (.inl rfl)) pgs_nil))) (pss_cons (ps_aug (i := 3) nd rfl (.inl rfl) (pv 5) ip_add)
    (pss_one (ps_if (pt_cmpR op_ge (pv 3) (pv 1) (nomark _)) (pss_cons (ps_expr (pe_bm PySem.F.plainAttrs_list PySem.F.slot_list_append PySem.F.type_list_append mt_append (pv 2) (pa_cons (pe_op op_addA (pv 4) pe_int) pa_nil)))
    (pss_one (ps_set (i := 3) nd rfl (.inl rfl) pe_int))) pss_nil))))
    (pss_one (ps_ret (pv 2)))))), ?_⟩
    (try dsimp only [cxOf])
    obtain ⟨a, ns, b, rfl, ha, hl, q⟩ := h
    have T := Tr.start H0
    k_offL
    refine f_enumI (ns := ns) (fun i σ H => ∃ (pc : Addr) (v4 v5 : Option V) (L : List (Addr × HO)), σ = [some (.ref a), some (.int b), some (.ref pc), some (.int (eS (rowF ns) b i).2), v4, v5] ∧ Tr H0 ((pc, .lst ((eS (rowF ns) b i).1.map V.int)) :: L) H)
      ⟨_, none, none, [], rfl, T⟩ (fun i σ H ⟨_, _, _, _, _, T⟩ => T.seq ha) ?_ ?_
    · rintro i n σ H p hi ⟨pc, v4, v5, L, rfl, T⟩ hp
      have T := T.new (o := .tup [.int (i : Nat), .int n]) hp
      have hi2 := (List.getElem?_eq_some_iff.mp hi).1
      have hn := rowF_get hi
      have hcl := (eS_mem (rowF ns) b i).1
      have hst : eS (rowF ns) b (i + 1) = if (eS (rowF ns) b i).2 + n ≥ b then ((eS (rowF ns) b i).1 ++ [(i : Int) + 1], 0) else ((eS (rowF ns) b i).1, (eS (rowF ns) b i).2 + n) := by rw [eS, hn]
      k_offL
      refine i_if (fun h => ?_) (fun h => ?_)
      · rw [if_pos (by omega)] at hst
        rw [hst]
        k_offL
        exact ⟨_, _, _, _, rfl, T.swapDrop2⟩
      · rw [if_neg (by omega)] at hst
        rw [hst]
        k_offL
        exact ⟨_, _, _, _, rfl, T.swapDrop2⟩
    · rintro σ H ⟨pc, v4, v5, L, rfl, T⟩
      k_offL
      exact q _ _ T.base (T.offI 0 rfl) T.get0
end

set_option hygiene false in
local macro_rules | `(tactic| k_clsL) => `(tactic| refine use_ends_of (by assumption) (by k_updF) (by omega) (fun p H T => ?_))
/-! ### most_pieces -/

def sp_most_pieces (K : PySem.W.Frag) : Sp := fun vs H Q _ => ∃ (a : Addr) (ns : List Int) (b : Int), vs = [.ref a, .int b] ∧ SqL K H a (ns.map V.int) ∧ ns.length ≤ 3000 ∧
  ∀ (H' : Hp), Same H H' → Q (optV (mostO ns b)) H'
theorem use_most_pieces {K : PySem.W.Frag} {B H : Hp} {L : List (Addr × HO)} {Q : VK} {E : XK} {a : Addr} {ns : List Int} {b : Int} (T : Tr B L H) (h1 : SqL K H a (ns.map V.int)) (h2 : ns.length ≤ 3000)
    (k : ∀ H', Tr B L H' → Q (optV (mostO ns b)) H') : sp_most_pieces K [.ref a, .int b] H Q E :=
  ⟨a, ns, b, rfl, h1, h2, fun H' s => k H' (T.same s)⟩
section
variable {P : Program} {w : World} {K : PySem.W.Frag} {mg : Str → Option Value} {base : Heap}
abbrev N_most_pieces : List Str := ["row", "bound", "ends"]
theorem scope_most_pieces : FnScope N_most_pieces ["row", "bound"] (defScope s_most_pieces) := ⟨rfl, rfl, rfl, by decide +kernel, rfl, by decide +kernel, by decide +kernel⟩
theorem ok_most_pieces {f : Addr} {fd : FuncData} (F : FunD K "most_pieces" "most_pieces" (defArgs s_most_pieces) (defBody s_most_pieces) (defScope s_most_pieces) [] [] f fd) (hm : mg "most_pieces" = some (.ref f)) (Z : Blt mg)
    (C_ends_of : Fn P w K mg base 1 "ends_of" ["row", "bound"] (sp_ends_of K)) :
    Fn P w K mg base 2 "most_pieces" ["row", "bound"] (sp_most_pieces K) := by
  refine mkFn F hm (fun _ _ _ _ _ _ us hl => match us, hl with | [_, _], _ => rfl) (okG (k := 1) F scope_most_pieces (fun vs H0 Q E h => ?_) (fun cdv A outer s H0 vs Q E hr hgd h => ?_))
  · unfold sp_most_pieces at h
    (repeat (obtain ⟨_, h⟩ := h)); subst_vars; rfl
  · have nd := scope_most_pieces.nd
    have hu := hr.units
    have hr_ends_of : Room 1 _ := hr.mono (by decide : 1 ≤ 1)
    unfold sp_most_pieces at h
    refine ⟨_, PSs.nox (pss_cons (ps_set (i := 2) nd rfl (.inl rfl) (pe_fn C_ends_of hr_ends_of hgd rfl passL (pa_cons (pv 0) (pa_cons (pv 1) pa_nil))))
    (pss_cons (ps_if (pt_cmpR (op_eqA hu) (pv 2) (pe_lst pa_nil) (nomark _)) (pss_one (ps_ret pe_non)) pss_nil)
    (pss_one (ps_ret (pe_callB cl_len (by rfl) Z.len_ (by decide +kernel) (pa_cons (pv 2) pa_nil)))))), ?_⟩
    (try dsimp only [cxOf])
    obtain ⟨a, ns, b, rfl, ha, hl, q⟩ := h
    have T := Tr.start H0
    k_offL
    refine i_if (fun h => ?_) (fun h => ?_)
    · k_offL
      have e : mostO ns b = none := if_pos h
      rw [e] at q
      exact q _ T.base
    · k_offL
      have e : mostO ns b = some ((ends ns b).length : Int) := if_neg h
      rw [e] at q
      exact q _ T.base
end
/-! ### first_cut -/

def sp_first_cut (K : PySem.W.Frag) : Sp := fun vs H Q _ => ∃ (a : Addr) (ns : List Int) (b : Int), vs = [.ref a, .int b] ∧ SqL K H a (ns.map V.int) ∧ ns.length ≤ 3000 ∧
  (firstO ns b = none → ∀ H', Same H H' → Q .non H') ∧ ∀ (c : List Int) (p : Addr) (H' : Hp), firstO ns b = some c → Same H H' → H p = none → H' p = some (.lst (c.map V.int)) → Q (.ref p) H'
theorem use_first_cut {K : PySem.W.Frag} {B H : Hp} {L : List (Addr × HO)} {Q : VK} {E : XK} {a : Addr} {ns : List Int} {b : Int} (T : Tr B L H) (h1 : SqL K H a (ns.map V.int)) (h2 : ns.length ≤ 3000)
    (k1 : firstO ns b = none → ∀ H', Tr B L H' → Q .non H') (k2 : ∀ c p H', firstO ns b = some c → Tr B ((p, .lst (c.map V.int)) :: L) H' → Q (.ref p) H') : sp_first_cut K [.ref a, .int b] H Q E :=
  ⟨a, ns, b, rfl, h1, h2, fun e H' s => k1 e H' (T.same s), fun c p H' e s n ep => k2 c p H' e (T.add s n ep)⟩
section
variable {P : Program} {w : World} {K : PySem.W.Frag} {mg : Str → Option Value} {base : Heap}
abbrev N_first_cut : List Str := ["row", "bound", "ends"]
theorem scope_first_cut : FnScope N_first_cut ["row", "bound"] (defScope s_first_cut) := ⟨rfl, rfl, rfl, by decide +kernel, rfl, by decide +kernel, by decide +kernel⟩
theorem ok_first_cut {f : Addr} {fd : FuncData} (F : FunD K "first_cut" "first_cut" (defArgs s_first_cut) (defBody s_first_cut) (defScope s_first_cut) [] [] f fd) (hm : mg "first_cut" = some (.ref f)) (Z : Blt mg)
    (C_ends_of : Fn P w K mg base 1 "ends_of" ["row", "bound"] (sp_ends_of K)) :
    Fn P w K mg base 2 "first_cut" ["row", "bound"] (sp_first_cut K) := by
  refine mkFn F hm (fun _ _ _ _ _ _ us hl => match us, hl with | [_, _], _ => rfl) (okG (k := 1) F scope_first_cut (fun vs H0 Q E h => ?_) (fun cdv A outer s H0 vs Q E hr hgd h => ?_))
  · unfold sp_first_cut at h
    (repeat (obtain ⟨_, h⟩ := h)); subst_vars; rfl
  · have nd := scope_first_cut.nd
    have hu := hr.units
    have hr_ends_of : Room 1 _ := hr.mono (by decide : 1 ≤ 1)
    unfold sp_first_cut at h
    refine ⟨_, PSs.nox (pss_cons (ps_set (i := 2) nd rfl (.inl rfl) (pe_fn C_ends_of hr_ends_of hgd rfl passL (pa_cons (pv 0) (pa_cons (pv 1) pa_nil))))
    (pss_cons (ps_if (pt_cmpR (op_eqA hu) (pv 2) (pe_lst pa_nil) (nomark _)) (pss_one (ps_ret pe_non)) pss_nil)
    (pss_one (ps_ret (pe_slice sl_list (pv 2) po_none (po_some (pe_un un_neg pe_int))))))), ?_⟩
    (try dsimp only [cxOf])
    obtain ⟨a, ns, b, rfl, ha, hl, q1, q2⟩ := h
    have T := Tr.start H0
    k_offL
    refine i_if (fun h => ?_) (fun h => ?_)
    · k_offL
      exact q1 (if_pos h) _ T.base
    · k_offL
      rw [cutI_init] at T
      exact q2 _ _ _ (if_neg h) T.base (T.offI 0 rfl) T.get0
end
/-! ### _law_cells -/

/-- the cells with their places: at p a list of new pairs -/
def Cells (H : Hp) (p : Addr) (ts : List Addr) : Prop := H p = some (.lst (ts.map V.ref)) ∧ ts.length ≤ 64 ∧ ∀ i t, ts[i]? = some t → ∃ c : Int, H t = some (.tup [.int (i : Nat), .int c])
theorem Cells.same {H H' : Hp} {p : Addr} {ts : List Addr} (c : Cells H p ts) (s : Same H H') : Cells H' p ts :=
  ⟨s _ _ c.1, c.2.1, fun i t e => let ⟨x, h⟩ := c.2.2 i t e; ⟨x, s _ _ h⟩⟩
def sp__law_cells (K : PySem.W.Frag) : Sp := fun vs H Q _ => ∃ (a : Addr) (ns : List Int) (m : Int), vs = [.ref a, .int m] ∧ SqL K H a (ns.map V.int) ∧ ns.length ≤ 63 ∧ 0 ≤ m ∧
  ∀ (p : Addr) (ts : List Addr) (H' : Hp), Same H H' → H p = none → Cells H' p ts → Q (.ref p) H'
theorem use__law_cells {K : PySem.W.Frag} {H : Hp} {Q : VK} {E : XK} {a : Addr} {ns : List Int} {m : Int} (h1 : SqL K H a (ns.map V.int)) (h2 : ns.length ≤ 63) (h3 : 0 ≤ m)
    (h : ∀ p ts H', Same H H' → H p = none → Cells H' p ts → Q (.ref p) H') : sp__law_cells K [.ref a, .int m] H Q E := ⟨a, ns, m, rfl, h1, h2, h3, h⟩
section
variable {P : Program} {w : World} {K : PySem.W.Frag} {mg : Str → Option Value} {base : Heap}
abbrev N__law_cells : List Str := ["script", "many"]
theorem scope__law_cells : FnScope N__law_cells ["script", "many"] (defScope s__law_cells) := ⟨rfl, rfl, rfl, by decide +kernel, rfl, by decide +kernel, by decide +kernel⟩
theorem ok__law_cells {f : Addr} {fd : FuncData} (F : FunD K "_law_cells" "_law_cells" (defArgs s__law_cells) (defBody s__law_cells) (defScope s__law_cells) [] [] f fd) (hm : mg "_law_cells" = some (.ref f)) (Z : Blt mg) :
    Fn P w K mg base 1 "_law_cells" ["script", "many"] (sp__law_cells K) := by
  refine mkFn F hm (fun _ _ _ _ _ _ us hl => match us, hl with | [_, _], _ => rfl) (okG (k := 0) F scope__law_cells (fun vs H0 Q E h => ?_) (fun cdv A outer s H0 vs Q E hr hgd h => ?_))
  · unfold sp__law_cells at h
    (repeat (obtain ⟨_, h⟩ := h)); subst_vars; rfl
  · have nd := scope__law_cells.nd
    have hu := hr.units
    unfold sp__law_cells at h
    refine ⟨_, PSs.nox (pss_one (ps_ret (pe_listEnum rfl rfl Z.list_ rfl Z.enumerate_ (pe_op op_addA (pe_slice sl_list (pv 0) po_none (po_some (pv 1))) (pe_op op_mulA (pe_lst (pa_cons pe_int pa_nil)) (pe_callTy cl_int (by rfl) Z.int_ (by decide +kernel) (pa_cons (pe_cmpR (op_eqA hu) (pv 0) (pe_lst pa_nil) (nomark _)) pa_nil))))))), ?_⟩
    (try dsimp only [cxOf])
    obtain ⟨a, ns, m, rfl, ha, hl, h0, q⟩ := h
    have T := Tr.start H0
    have hc := cutI_length ns none (some m)
    k_offL
    have hz : (cutI ns none (some m) ++ List.replicate (if decide (ns = []) = true then (1 : Int) else 0).toNat 0).length ≤ 64 := by
      rw [List.length_append, List.length_replicate]
      split <;> simp <;> omega
    generalize cutI ns none (some m) ++ List.replicate (if decide (ns = []) = true then (1 : Int) else 0).toNat 0 = cs at T hz
    refine ⟨_, _, rfl, SqL.of T.get0, fun H' p ts s n1 n2 n3 e pr => ?_⟩
    refine q p ts H' (T.base.trans s) (T.base.free (by assumption)) ⟨e, ?_, fun i t et => ?_⟩
    · have z := Paired.length pr
      rw [enV_len, List.length_map] at z
      omega
    · obtain ⟨y, ey, hy⟩ := LiI.paired_get pr et
      rw [enV_get, List.getElem?_map, Nat.zero_add] at ey
      cases z : cs[i]? with
      | none =>
        rw [z] at ey
        cases ey
      | some c =>
        rw [z] at ey
        cases ey
        exact ⟨c, hy⟩
end

set_option hygiene false in
local macro_rules | `(tactic| k_clsL) => `(tactic| refine use__law_cells (by k_updF) (by omega) (by omega) (fun p ts H hs hnp hc => ?_))
/-! ### _law_hand -/

/-- a hand: the great cell's rest, the mixed one -/
def IsHand (o : HO) : Prop := ∃ x y : Int, o = .lst [.int x, .int y] ∧ 0 ≤ x ∧ 0 ≤ y ∧ y < 2147483587
def sp__law_hand (K : PySem.W.Frag) : Sp := fun vs H Q _ => ∃ c k : Int, vs = [.int c, .int k] ∧ 0 ≤ k ∧ k ≤ 1000 ∧
  ∀ (p : Addr) (o : HO) (H' : Hp), Same H H' → H p = none → H' p = some o → IsHand o → Q (.ref p) H'
theorem use__law_hand {K : PySem.W.Frag} {B H : Hp} {L : List (Addr × HO)} {Q : VK} {E : XK} {c k : Int} (T : Tr B L H) (h0 : 0 ≤ k) (h1 : k ≤ 1000)
    (h : ∀ p o H', IsHand o → Tr B ((p, o) :: L) H' → Q (.ref p) H') : sp__law_hand K [.int c, .int k] H Q E :=
  ⟨c, k, rfl, h0, h1, fun p o H' s n e ho => h p o H' ho (T.add s n e)⟩
section
variable {P : Program} {w : World} {K : PySem.W.Frag} {mg : Str → Option Value} {base : Heap}
abbrev N__law_hand : List Str := ["cell", "k", "digits"]
theorem scope__law_hand : FnScope N__law_hand ["cell", "k"] (defScope s__law_hand) := ⟨rfl, rfl, rfl, by decide +kernel, rfl, by decide +kernel, by decide +kernel⟩
theorem ok__law_hand {f : Addr} {fd : FuncData} (F : FunD K "_law_hand" "_law_hand" (defArgs s__law_hand) (defBody s__law_hand) (defScope s__law_hand) [] [] f fd) (hm : mg "_law_hand" = some (.ref f)) (Z : Blt mg) :
    Fn P w K mg base 1 "_law_hand" ["cell", "k"] (sp__law_hand K) := by
  refine mkFn F hm (fun _ _ _ _ _ _ us hl => match us, hl with | [_, _], _ => rfl) (okG (k := 0) F scope__law_hand (fun vs H0 Q E h => ?_) (fun cdv A outer s H0 vs Q E hr hgd h => ?_))
  · unfold sp__law_hand at h
    (repeat (obtain ⟨_, h⟩ := h)); subst_vars; rfl
  · have nd := scope__law_hand.nd
    have hu := hr.units
    unfold sp__law_hand at h
    refine ⟨_, PSs.nox (pss_cons (ps_set (i := 2) nd rfl (.inl rfl) pe_int)
    (C8.pss_cut (ps_if (pt_cmpR op_ge (pv 0) (pe_op op_pow pe_int pe_int) (nomark _)) (pss_one (ps_set (i := 2) nd rfl (.inl rfl) (pv 0))) pss_nil)
    (pss_one (ps_ret (pe_lst (pa_cons (pv 2) (pa_cons (pe_op op_mod (pe_op op_mulA (pe_op op_addA (pe_op op_addA (pe_op op_mod (pv 0) pe_int) (pe_op op_mulA pe_int (pv 1))) pe_int) pe_int) pe_int) pa_nil))))))), ?_⟩
    (try dsimp only [cxOf])
    obtain ⟨c, k, rfl, h1, h2, q⟩ := h
    have T := Tr.start H0
    k_offL
    refine f_cut (fun σ H' => ∃ d : Int, 0 ≤ d ∧ σ = [some (.int c), some (.int k), some (.int d)] ∧ H' = H0) ?_ ?_
    · k_offL
      refine i_if (fun h => ?_) (fun h => ?_)
      · k_offL
        exact ⟨c, by omega, rfl, rfl⟩
      · k_offL
        exact ⟨0, by omega, rfl, rfl⟩
    · rintro σ H' ⟨d, hd, rfl, rfl⟩
      k_offL
      exact q _ _ _ T.base (T.offI 0 rfl) (T.get 0 rfl) ⟨d, _, rfl, hd, by omega, by omega⟩
end

set_option hygiene false in
local macro_rules | `(tactic| k_clsL) => `(tactic| refine use__law_hand (by assumption) (by omega) (by omega) (fun p o H ho T => ?_))
/-! ### _law_draw -/

def sp__law_draw (K : PySem.W.Frag) : Sp := fun vs H Q _ => ∃ (a : Addr) (l : Int) (o : HO), vs = [.ref a, .int l] ∧ H a = some o ∧ IsHand o ∧ 0 < l ∧ l ≤ 1000000000000000 ∧
  ∀ (v : Int) (o' : HO) (H' : Hp), 0 ≤ v → v < l → IsHand o' → But [a] H H' → H' a = some o' → Q (.int v) H'
theorem use__law_draw {K : PySem.W.Frag} {B H : Hp} {L : List (Addr × HO)} {Q : VK} {E : XK} {a : Addr} {o : HO} {l : Int} (m : Nat) (T : Tr B L H) (h1 : L[m]? = some (a, o)) (ho : IsHand o) (hl : 0 < l) (hm : l ≤ 1000000000000000)
    (h : ∀ v o' H', 0 ≤ v → v < l → IsHand o' → Tr B (L.set m (a, o')) H' → Q (.int v) H') : sp__law_draw K [.ref a, .int l] H Q E :=
  ⟨a, l, o, rfl, T.get m h1, ho, hl, hm, fun v o' H' h2 h3 h4 s e => h v o' H' h2 h3 h4 (T.but m h1 s e)⟩
section
variable {P : Program} {w : World} {K : PySem.W.Frag} {mg : Str → Option Value} {base : Heap}
abbrev N__law_draw : List Str := ["hand", "limit", "got"]
theorem scope__law_draw : FnScope N__law_draw ["hand", "limit"] (defScope s__law_draw) := ⟨rfl, rfl, rfl, by decide +kernel, rfl, by decide +kernel, by decide +kernel⟩
theorem ok__law_draw {f : Addr} {fd : FuncData} (F : FunD K "_law_draw" "_law_draw" (defArgs s__law_draw) (defBody s__law_draw) (defScope s__law_draw) [] [] f fd) (hm : mg "_law_draw" = some (.ref f)) (Z : Blt mg) :
    Fn P w K mg base 1 "_law_draw" ["hand", "limit"] (sp__law_draw K) := by
  refine mkFn F hm (fun _ _ _ _ _ _ us hl => match us, hl with | [_, _], _ => rfl) (okG (k := 0) F scope__law_draw (fun vs H0 Q E h => ?_) (fun cdv A outer s H0 vs Q E hr hgd h => ?_))
  · unfold sp__law_draw at h
    (repeat (obtain ⟨_, h⟩ := h)); subst_vars; rfl
  · have nd := scope__law_draw.nd
    have hu := hr.units
    unfold sp__law_draw at h
    refine ⟨_, PSs.nox (pss_cons (ps_if (pt_cmpR op_gt (pe_ix ix_seq (pv 0) pe_int (fun _ _ => rfl)) pe_int (nomark _)) (pss_cons (ps_set (i := 2) nd rfl (.inl rfl) (pe_op op_mod (pe_ix ix_seq (pv 0) pe_int (fun _ _ => rfl)) (pv 1)))
    (pss_cons (ps_asg (pe_op op_fdivW (pe_ix ix_seq (pv 0) pe_int (fun _ _ => rfl)) (pv 1)) (pg_sub (pv 0) pe_int set_list))
    (pss_one (ps_ret (pv 2))))) pss_nil)
    (pss_cons (ps_asg (pe_op op_mod (pe_op op_addA (pe_op op_addA (pe_op op_mulA (pe_ix ix_seq (pv 0) pe_int (fun _ _ => rfl)) (pe_ix ix_seq (pv 0) pe_int (fun _ _ => rfl))) (pe_op op_mulA pe_int (pe_ix ix_seq (pv 0) pe_int (fun _ _ => rfl)))) pe_int) pe_int) (pg_sub (pv 0) pe_int set_list))
    (pss_one (ps_ret (pe_op op_mod (pe_op op_fdivW (pe_ix ix_seq (pv 0) pe_int (fun _ _ => rfl)) pe_int) (pv 1)))))), ?_⟩
    (try dsimp only [cxOf])
    obtain ⟨a, l, o, rfl, ha, ⟨x, y, rfl, hx, hy0, hy1⟩, hl0, hl1, q⟩ := h
    have T := Tr.mut ha
    k_offL
    refine i_if (fun h => ?_) (fun h => ?_)
    · k_offL
      exact q _ _ _ (Int.emod_nonneg _ (by omega)) (Int.emod_lt_of_pos _ hl0) ⟨_, _, rfl, Int.ediv_nonneg hx (by omega), hy0, hy1⟩ (But.of_del T.base) T.get0
    · k_offL
      exact q _ _ _ (Int.emod_nonneg _ (by omega)) (Int.emod_lt_of_pos _ hl0) ⟨_, _, rfl, hx, by omega, by omega⟩ (But.of_del T.base) T.get0
end

set_option hygiene false in
local macro_rules | `(tactic| k_clsL) => `(tactic| first
  | (refine use__law_draw 0 (by assumption) (by with_unfolding_all rfl) (by assumption) (by omega) (by omega) (fun v o H hv0 hv1 ho T => ?_); dsimp only [List.set] at T)
  | (refine use__law_draw 1 (by assumption) (by with_unfolding_all rfl) (by assumption) (by omega) (by omega) (fun v o H hv0 hv1 ho T => ?_); dsimp only [List.set] at T)
  | (refine use__law_draw 2 (by assumption) (by with_unfolding_all rfl) (by assumption) (by omega) (by omega) (fun v o H hv0 hv1 ho T => ?_); dsimp only [List.set] at T)
  | (refine use__law_draw 3 (by assumption) (by with_unfolding_all rfl) (by assumption) (by omega) (by omega) (fun v o H hv0 hv1 ho T => ?_); dsimp only [List.set] at T)
  | (refine use__law_draw 4 (by assumption) (by with_unfolding_all rfl) (by assumption) (by omega) (by omega) (fun v o H hv0 hv1 ho T => ?_); dsimp only [List.set] at T)
  | (refine use__law_draw 5 (by assumption) (by with_unfolding_all rfl) (by assumption) (by omega) (by omega) (fun v o H hv0 hv1 ho T => ?_); dsimp only [List.set] at T))
/-! ### _law_row -/

/-- a row as the laws draw it -/
def Row (ns : List Int) : Prop := 1 ≤ ns.length ∧ ns.length ≤ 120 ∧ ∀ n ∈ ns, 0 ≤ n ∧ n ≤ 1000000000000
def sp__law_row (K : PySem.W.Frag) : Sp := fun vs H Q _ => ∃ (a : Addr) (b : Bool) (o : HO), vs = [.ref a, .bl b] ∧ H a = some o ∧ IsHand o ∧
  ∀ (p : Addr) (ns : List Int) (o' : HO) (H' : Hp), Row ns → But [a] H H' → H p = none → H' p = some (.lst (ns.map V.int)) → H' a = some o' → IsHand o' → Q (.ref p) H'
theorem use__law_row {K : PySem.W.Frag} {B H : Hp} {L : List (Addr × HO)} {Q : VK} {E : XK} {a : Addr} {o : HO} {b : Bool} (m : Nat) (T : Tr B L H) (h1 : L[m]? = some (a, o)) (ho : IsHand o)
    (h : ∀ p ns o' H', Row ns → IsHand o' → Tr B ((p, .lst (ns.map V.int)) :: L.set m (a, o')) H' → Q (.ref p) H') : sp__law_row K [.ref a, .bl b] H Q E :=
  ⟨a, b, o, rfl, T.get m h1, ho, fun p ns o' H' h2 s n e e2 h4 => h p ns o' H' h2 h4 (T.butAdd m h1 s e2 n e)⟩
section
variable {P : Program} {w : World} {K : PySem.W.Frag} {mg : Str → Option Value} {base : Heap}
abbrev N__law_row : List Str := ["hand", "long", "many", "reach", "kind", "row", "k", "number"]
theorem scope__law_row : FnScope N__law_row ["hand", "long"] (defScope s__law_row) := ⟨rfl, rfl, rfl, by decide +kernel, rfl, by decide +kernel, by decide +kernel⟩
-- comprehension scope 0
-- comprehension scope 1
theorem ok__law_row {f : Addr} {fd : FuncData} (F : FunD K "_law_row" "_law_row" (defArgs s__law_row) (defBody s__law_row) (defScope s__law_row) [] [] f fd) (hm : mg "_law_row" = some (.ref f)) (Z : Blt mg)
    (C__law_draw : Fn P w K mg base 1 "_law_draw" ["hand", "limit"] (sp__law_draw K)) :
    Fn P w K mg base 2 "_law_row" ["hand", "long"] (sp__law_row K) := by
  refine mkFn F hm (fun _ _ _ _ _ _ us hl => match us, hl with | [_, _], _ => rfl) (okG (k := 1) F scope__law_row (fun vs H0 Q E h => ?_) (fun cdv A outer s H0 vs Q E hr hgd h => ?_))
  · unfold sp__law_row at h
    (repeat (obtain ⟨_, h⟩ := h)); subst_vars; rfl
  · have nd := scope__law_row.nd
    have hu := hr.units
    have hr__law_draw : Room 1 _ := hr.mono (by decide : 1 ≤ 1)
    unfold sp__law_row at h
    refine ⟨_, PSs.nox (pss_cons (ps_set (i := 2) nd rfl (.inl rfl) (pe_op op_addA pe_int (pe_fn C__law_draw hr__law_draw hgd rfl passL (pa_cons (pv 0) (pa_cons (pe_ix ix_seq (pe_lst (pa_cons pe_int (pa_cons pe_int pa_nil))) (pe_fn C__law_draw hr__law_draw hgd rfl passL (pa_cons (pv 0) (pa_cons pe_int pa_nil))) (fun _ _ => rfl)) pa_nil)))))
    (C8.pss_cut (ps_if (pt_val (pv 1)) (pss_one (ps_set (i := 2) nd rfl (.inl rfl) (pe_ix ix_seq (pe_lst (pa_cons (pe_op op_addA pe_int (pe_fn C__law_draw hr__law_draw hgd rfl passL (pa_cons (pv 0) (pa_cons pe_int pa_nil)))) (pa_cons (pe_op op_addA pe_int (pe_fn C__law_draw hr__law_draw hgd rfl passL (pa_cons (pv 0) (pa_cons pe_int pa_nil)))) pa_nil))) (pe_fn C__law_draw hr__law_draw hgd rfl passL (pa_cons (pv 0) (pa_cons pe_int pa_nil))) (fun _ _ => rfl)))) pss_nil)
    (pss_cons (ps_set (i := 3) nd rfl (.inr rfl) (pe_ix ix_seq (pe_lst (pa_cons pe_int (pa_cons pe_int (pa_cons pe_int (pa_cons pe_int (pa_cons (pe_op op_pow pe_int pe_int) pa_nil)))))) (pe_fn C__law_draw hr__law_draw hgd rfl passL (pa_cons (pv 0) (pa_cons pe_int pa_nil))) (fun _ _ => rfl)))
    (pss_cons (ps_set (i := 4) nd rfl (.inl rfl) (pe_fn C__law_draw hr__law_draw hgd rfl passL (pa_cons (pv 0) (pa_cons pe_int pa_nil))))
    (pss_cons (ps_setLc (i := 5) (own := [("k", 6)]) (g := gName 6) (tt := tYes) (by rfl) nd rfl rfl (sw_true rfl rfl rfl (by decide +kernel)) (pi_range1 (by rfl) Z.range_ (pa_cons (pv 2) pa_nil)) (blkOk_by (own := [("k", 6)]) (N := N__law_row) (sc := (defScope s__law_row)) (by decide +kernel)) (fun _ _ _ _ _ => (pg_name (i := 6) nd rfl (.inl rfl))) (fun _ _ _ _ _ => pts_nil) (fun _ _ _ _ _ => (pe_fn C__law_draw hr__law_draw hgd rfl passL (pa_cons (pv 0) (pa_cons (pe_op op_addA (pv 3) pe_int) pa_nil)))))
    (pss_cons (ps_if (pt_cmpR (op_eqA hu) (pv 4) pe_int (nomark _)) (pss_one (ps_ret (pe_op op_mulA (pe_lst (pa_cons (pe_ix ix_seq (pv 5) pe_int (fun _ _ => rfl)) pa_nil)) (pv 2)))) pss_nil)
    (pss_cons (ps_if (pt_cmpR (op_eqA hu) (pv 4) pe_int (nomark _)) (pss_one (ps_ret (pe_lc (own := [("number", 7)]) (g := gName 7) (tt := tYes) (by rfl) nd (pi_list (pv 5)) (blkOk_by (own := [("number", 7)]) (N := N__law_row) (sc := (defScope s__law_row)) (by decide +kernel)) (fun _ _ _ _ _ => (pg_name (i := 7) nd rfl (.inl rfl))) (fun _ _ _ _ _ => pts_nil) (fun _ _ _ _ _ => (pe_op op_mulA (pv 7) (pe_fn C__law_draw hr__law_draw hgd rfl passL (pa_cons (pv 0) (pa_cons pe_int pa_nil)))))))) pss_nil)
    (pss_cons (ps_if (pt_cmpR (op_eqA hu) (pv 4) pe_int (nomark _)) (pss_one (ps_ret (pe_callB cr_sortedI (by rfl) Z.sorted_ (by decide +kernel) (pa_cons (pv 5) pa_nil)))) pss_nil)
    (C8.pss_cut (ps_if (pt_cmpR (op_eqA hu) (pv 4) pe_int (nomark _)) (pss_one (ps_asg (pe_op op_sub (pe_op op_pow pe_int pe_int) (pe_fn C__law_draw hr__law_draw hgd rfl passL (pa_cons (pv 0) (pa_cons pe_int pa_nil)))) (pg_sub (pv 5) (pe_fn C__law_draw hr__law_draw hgd rfl passL (pa_cons (pv 0) (pa_cons (pv 2) pa_nil))) set_list))) pss_nil)
    (pss_one (ps_ret (pv 5)))))))))))), ?_⟩
    (try dsimp only [cxOf])
    obtain ⟨a, b, o, rfl, ha, ho, q⟩ := h
    have T := Tr.mut ha
    k_offL
    have e2 : 1 ≤ [(4 : Int), 12][v.toNat]! ∧ [(4 : Int), 12][v.toNat]! ≤ 12 := get_bnd (by decide) (by omega) (show v < 2 by omega)
    k_offL
    refine f_cut (fun σ H' => ∃ (m : Int) (o : HO), 1 ≤ m ∧ m ≤ 120 ∧ IsHand o ∧ σ = [some (.ref a), some (.bl b), some (.int m), none, none, none, none, none] ∧ Tr (del H0 a) [(a, o)] H') ?_ ?_
    · k_offL
      cases b with
      | false =>
        k_offL
        exact ⟨_, _, by omega, by omega, ho, rfl, T.drop⟩
      | true =>
        k_offL
        refine ⟨_, _, ?_, ?_, ho, rfl, T.drop.drop⟩
        · exact (get_bnd (lo := 1) (hi := 120) (by intro n hn; simp at hn; omega) (by omega) (show v < 2 by omega)).1
        · exact (get_bnd (lo := 1) (hi := 120) (by intro n hn; simp at hn; omega) (by omega) (show v < 2 by omega)).2
    · rintro σ H' ⟨m, o, hm1, hm2, ho, rfl, T⟩
      k_offL
      rename_i v5 _ _ h50 h51 _ _
      have e3 : 1 ≤ [(1 : Int), 2, 9, 1000, 1000000000000][v5.toNat]! ∧ [(1 : Int), 2, 9, 1000, 1000000000000][v5.toNat]! ≤ 1000000000000 :=
        get_bnd (by decide) (by omega) (show v5 < 5 by omega)
      generalize [(1 : Int), 2, 9, 1000, 1000000000000][v5.toNat]! = reach at e3 ⊢
      refine c_range T (fun D i H => ∃ (o : HO) (ns : List Int), IsHand o ∧ ns.length = i ∧ (∀ n ∈ ns, 0 ≤ n ∧ n ≤ 1000000000000) ∧ Tr (del H0 a) [(D, .lst (ns.map V.int)), (a, o)] H) ?_ ?_ ?_
      · intro D H' T
        exact ⟨_, [], ho, rfl, by simp, Tr.swapDrop T⟩
      · rintro D i H hi ⟨o, ns, ho, hl, hb, T⟩
        k_offL
        refine ⟨_, _, ho, ?_, ?_, T⟩
        · rw [List.length_append, hl]; rfl
        · intro n hn
          rcases List.mem_append.mp hn with hn | hn
          · exact hb n hn
          · rw [List.mem_singleton.mp hn]
            omega
      · rintro D H' ⟨o, ns, ho, hl, hb, T⟩
        have hrow : Row ns := ⟨by omega, by omega, hb⟩
        have fin : ∀ (p : Addr) (ms : List Int) (o : HO) (H' : Hp) (L : List (Addr × HO)), Row ms → IsHand o → Tr (del H0 a) ((p, .lst (ms.map V.int)) :: (a, o) :: L) H' → Q (.ref p) H' := fun p ms o H' L h1 h2 T =>
          q p ms o H' h1 (But.of_del T.base) (T.newdel 1 0 rfl rfl) T.get0 T.get1 h2
        k_offL
        refine i_if (fun h => ?_) (fun h => ?_)
        · k_offL
          refine fin _ _ _ _ [] ⟨?_, ?_, fun n hn => ?_⟩ ho T.swapDrop.swapDrop
          · rw [List.length_replicate]
            omega
          · rw [List.length_replicate]
            omega
          · rw [List.eq_of_mem_replicate hn]
            exact hb _ (get_mem (v := 0) (by decide) (by omega))
        · k_offL
          refine i_if (fun h => ?_) (fun h => ?_)
          · k_offL
            refine c_ints (ns := ns) T (fun D' i H => ∃ (o : HO) (ms : List Int), IsHand o ∧ ms.length = i ∧ (∀ n ∈ ms, 0 ≤ n ∧ n ≤ 1000000000000) ∧ Tr (del H0 a) [(D', .lst (ms.map V.int)), (D, .lst (ns.map V.int)), (a, o)] H) ?_ ?_ ?_ ?_
            · intro D' H' T
              exact ⟨_, [], ho, rfl, by simp, T⟩
            · rintro D' i H ⟨o, ms, ho, hm, hb', T⟩
              exact SqL.of T.get1
            · rintro D' i n H hi ⟨o, ms, ho, hm, hb', T⟩
              have hn := hb n (List.mem_of_getElem? hi)
              have hi2 := (List.getElem?_eq_some_iff.mp hi).1
              k_offL
              refine ⟨_, _, ho, ?_, ?_, T⟩
              · rw [List.length_append, hm]; rfl
              · intro k hk
                rcases List.mem_append.mp hk with hk | hk
                · exact hb' k hk
                · rw [List.mem_singleton.mp hk]
                  rcases (show v = 0 ∨ v = 1 by omega) with rfl | rfl
                  · omega
                  · omega
            · rintro D' H' ⟨o, ms, ho, hm, hb', T⟩
              exact fin _ _ _ _ [] ⟨by omega, by omega, hb'⟩ ho T.swapDrop
          · k_offL
            refine i_if (fun h => ?_) (fun h => ?_)
            · k_offL
              refine i_sorted T (by k_updF) (fun ms p H' hp hs T => ?_)
              have hl2 := hp.length_eq
              exact fin _ _ _ _ [] ⟨by omega, by omega, fun n hn => hb n (hp.mem_iff.mp hn)⟩ ho T.swapDrop
            · k_offL
              refine f_cut (fun σ H' => ∃ (o : HO) (ms : List Int) (xs : List (Option V)), Row ms ∧ IsHand o ∧ σ = xs ∧ xs[5]? = some (some (.ref D)) ∧ Tr (del H0 a) [(D, .lst (ms.map V.int)), (a, o)] H') ?_ ?_
              · k_offL
                refine i_if (fun h => ?_) (fun h => ?_)
                · k_offL
                  refine ⟨_, _, _, ⟨?_, ?_, fun n hn => ?_⟩, ho, rfl, rfl, T⟩
                  · rw [List.length_set]
                    omega
                  · rw [List.length_set]
                    omega
                  · rcases List.mem_or_eq_of_mem_set hn with hn | rfl
                    · exact hb n hn
                    · omega
                · k_offL
                  exact ⟨_, _, _, hrow, ho, rfl, rfl, T⟩
              · rintro σ H' ⟨o, ms, xs, hm, ho, rfl, hx, T⟩
                refine i_ret (i_var hx ?_)
                exact fin _ _ _ _ [] hm ho T
end

set_option hygiene false in
local macro_rules | `(tactic| k_clsL) => `(tactic| first
  | (refine use__law_row 0 (by assumption) (by with_unfolding_all rfl) (by assumption) (fun p ns o H hrow ho T => ?_); dsimp only [List.set] at T)
  | (refine use__law_row 1 (by assumption) (by with_unfolding_all rfl) (by assumption) (fun p ns o H hrow ho T => ?_); dsimp only [List.set] at T)
  | (refine use__law_row 2 (by assumption) (by with_unfolding_all rfl) (by assumption) (fun p ns o H hrow ho T => ?_); dsimp only [List.set] at T)
  | (refine use__law_row 3 (by assumption) (by with_unfolding_all rfl) (by assumption) (fun p ns o H hrow ho T => ?_); dsimp only [List.set] at T))
/-! ### _law_bounds -/

theorem row_sum {ns : List Int} (h : ∀ n ∈ ns, 0 ≤ n ∧ n ≤ 1000000000000) : 0 ≤ ns.sum ∧ ns.sum ≤ 1000000000000 * ns.length := by
  induction ns with
  | nil => exact ⟨by simp, by simp⟩
  | cons x ns ih =>
    have h1 := ih fun n hn => h n (List.mem_cons_of_mem _ hn)
    have h2 := h x List.mem_cons_self
    rw [List.sum_cons, List.length_cons]
    omega
/-- bounds: so many ints below 10 ** 31 -/
def Bds (ms : List Int) : Prop := ms.length ≤ 20 ∧ ∀ m ∈ ms, m.natAbs ≤ 10000000000000000000000000000000
def sp__law_bounds (K : PySem.W.Frag) : Sp := fun vs H Q _ => ∃ (a r : Addr) (ns : List Int) (o : HO), vs = [.ref a, .ref r] ∧ a ≠ r ∧ H a = some o ∧ IsHand o ∧ H r = some (.lst (ns.map V.int)) ∧ Row ns ∧
  ∀ (p : Addr) (ms : List Int) (o' : HO) (H' : Hp), ms.length = 15 → But [a] H H' → H p = none → H' p = some (.lst (ms.map V.int)) → H' a = some o' → IsHand o' → Q (.ref p) H'
theorem use__law_bounds {K : PySem.W.Frag} {B H : Hp} {L : List (Addr × HO)} {Q : VK} {E : XK} {a r : Addr} {ns : List Int} {o : HO} (m l : Nat) (T : Tr B L H) (h1 : L[m]? = some (a, o)) (h2 : L[l]? = some (r, .lst (ns.map V.int))) (hlm : l ≠ m) (ho : IsHand o) (hr : Row ns)
    (h : ∀ (p : Addr) (ms : List Int) (o' : HO) (H' : Hp), ms.length = 15 → IsHand o' → Tr B ((p, .lst (ms.map V.int)) :: L.set m (a, o')) H' → Q (.ref p) H') : sp__law_bounds K [.ref a, .ref r] H Q E :=
  ⟨a, r, ns, o, rfl, T.apart m l h1 h2 (Ne.symm hlm), T.get m h1, ho, T.get l h2, hr, fun p ms o' H' hml s n e e2 h4 => h p ms o' H' hml h4 (T.butAdd m h1 s e2 n e)⟩
section
variable {P : Program} {w : World} {K : PySem.W.Frag} {mg : Str → Option Value} {base : Heap}
abbrev N__law_bounds : List Str := ["hand", "row", "total", "some", "k", "begin", "end"]
theorem scope__law_bounds : FnScope N__law_bounds ["hand", "row"] (defScope s__law_bounds) := ⟨rfl, rfl, rfl, by decide +kernel, rfl, by decide +kernel, by decide +kernel⟩
theorem ok__law_bounds {f : Addr} {fd : FuncData} (F : FunD K "_law_bounds" "_law_bounds" (defArgs s__law_bounds) (defBody s__law_bounds) (defScope s__law_bounds) [] [] f fd) (hm : mg "_law_bounds" = some (.ref f)) (Z : Blt mg)
    (C__law_draw : Fn P w K mg base 1 "_law_draw" ["hand", "limit"] (sp__law_draw K)) :
    Fn P w K mg base 2 "_law_bounds" ["hand", "row"] (sp__law_bounds K) := by
  refine mkFn F hm (fun _ _ _ _ _ _ us hl => match us, hl with | [_, _], _ => rfl) (okG (k := 1) F scope__law_bounds (fun vs H0 Q E h => ?_) (fun cdv A outer s H0 vs Q E hr hgd h => ?_))
  · unfold sp__law_bounds at h
    (repeat (obtain ⟨_, h⟩ := h)); subst_vars; rfl
  · have nd := scope__law_bounds.nd
    have hu := hr.units
    have hr__law_draw : Room 1 _ := hr.mono (by decide : 1 ≤ 1)
    unfold sp__law_bounds at h
    refine ⟨_, PSs.nox (pss_cons (ps_set (i := 2) nd rfl (.inl rfl) (pe_callB (cr_sum rfl) (by rfl) Z.sum_ (by decide +kernel) (pa_cons (pv 1) pa_nil)))
    (pss_cons (ps_set (i := 3) nd rfl (.inl rfl) (pe_lst (pa_cons pe_int (pa_cons (pe_un un_neg pe_int) (pa_cons (pe_callB (cr_max rfl) (by rfl) Z.max_ (by decide +kernel) (pa_cons (pv 1) pa_nil)) (pa_cons (pe_op op_sub (pe_callB (cr_max rfl) (by rfl) Z.max_ (by decide +kernel) (pa_cons (pv 1) pa_nil)) pe_int) (pa_cons (pv 2) (pa_cons (pe_op op_addA (pv 2) pe_int) (pa_cons (pe_op op_pow pe_int pe_int) (pa_cons (pe_op op_sub pe_int (pe_op op_pow pe_int pe_int)) (pa_cons (pe_op op_fdivW (pv 2) pe_int) pa_nil)))))))))))
    (pss_cons (ps_for PassesOwn.never rfl (pi_range1 (by rfl) Z.range_ (pa_cons pe_int pa_nil)) (pg_name (i := 4) nd rfl (.inl rfl)) (pss_cons (ps_set (i := 5) nd rfl (.inl rfl) (pe_fn C__law_draw hr__law_draw hgd rfl passL (pa_cons (pv 0) (pa_cons (pe_callB cl_len (by rfl) Z.len_ (by decide +kernel) (pa_cons (pv 1) pa_nil)) pa_nil))))
    (pss_cons (ps_set (i := 6) nd rfl (.inl rfl) (pe_op op_addA (pe_op op_addA (pv 5) pe_int) (pe_fn C__law_draw hr__law_draw hgd rfl passL (pa_cons (pv 0) (pa_cons (pe_op op_sub (pe_callB cl_len (by rfl) Z.len_ (by decide +kernel) (pa_cons (pv 1) pa_nil)) (pv 5)) pa_nil)))))
    (pss_one (ps_expr (pe_bm PySem.F.plainAttrs_list PySem.F.slot_list_append PySem.F.type_list_append mt_append (pv 3) (pa_cons (pe_op op_sub (pe_op op_addA (pe_callB (cr_sum rfl) (by rfl) Z.sum_ (by decide +kernel) (pa_cons (pe_slice sl_list (pv 1) (po_some (pv 5)) (po_some (pv 6))) pa_nil)) (pe_fn C__law_draw hr__law_draw hgd rfl passL (pa_cons (pv 0) (pa_cons pe_int pa_nil)))) pe_int) pa_nil)))))))
    (pss_one (ps_ret (pe_op op_addA (pv 3) (pe_lst (pa_cons (pe_fn C__law_draw hr__law_draw hgd rfl passL (pa_cons (pv 0) (pa_cons (pe_op op_addA (pv 2) pe_int) pa_nil))) (pa_cons (pe_fn C__law_draw hr__law_draw hgd rfl passL (pa_cons (pv 0) (pa_cons (pe_op op_addA (pe_callB (cr_max rfl) (by rfl) Z.max_ (by decide +kernel) (pa_cons (pv 1) pa_nil)) pe_int) pa_nil))) pa_nil))))))))), ?_⟩
    (try dsimp only [cxOf])
    obtain ⟨a, r, ns, o, rfl, hne, ha, ho, hr0, ⟨h1, h2, h3⟩, q⟩ := h
    have T := Tr.mut ha
    have hrB : del H0 a r = some (.lst (ns.map V.int)) := (del_ne (Ne.symm hne)).trans hr0
    have hs := row_sum h3
    have hmx := h3 _ (mxI_mem (ns := ns) (by intro e; rw [e] at h1; simp at h1))
    k_offL
    refine f_range (fun i σ H => ∃ (ps : Addr) (ms : List Int) (o : HO) (v4 v5 v6 : Option V) (L : List (Addr × HO)), σ = [some (.ref a), some (.ref r), some (.int ns.sum), some (.ref ps), v4, v5, v6] ∧ ms.length = 9 + i ∧ IsHand o ∧ Tr (del H0 a) [(ps, .lst (ms.map V.int)), (a, o)] H) ⟨_, _, _, _, _, _, [], rfl, rfl, ho, T⟩ ?_ ?_
    · rintro i σ H hi ⟨ps, ms, o, v4, v5, v6, L, rfl, hl, ho, T⟩
      k_offL
      exact ⟨_, _, _, _, _, _, [], rfl, by rw [List.length_append, hl]; rfl, ho, T.drop⟩
    · rintro σ H ⟨ps, ms, o, v4, v5, v6, L, rfl, hl, ho, T⟩
      k_offL
      exact q _ _ _ _ (by rw [List.length_append, hl]; rfl) (But.of_del T.base) (T.newdel 3 0 rfl rfl) T.get0 T.get3 ho
end

set_option hygiene false in
local macro_rules | `(tactic| k_clsL) => `(tactic| first
  | (refine use__law_bounds 1 0 (by assumption) (by with_unfolding_all rfl) (by with_unfolding_all rfl) (by decide) (by assumption) (by assumption) (fun p ms o H hml ho T => ?_); dsimp only [List.set] at T)
  | (refine use__law_bounds 2 1 (by assumption) (by with_unfolding_all rfl) (by with_unfolding_all rfl) (by decide) (by assumption) (by assumption) (fun p ms o H hml ho T => ?_); dsimp only [List.set] at T)
  | (refine use__law_bounds 2 0 (by assumption) (by with_unfolding_all rfl) (by with_unfolding_all rfl) (by decide) (by assumption) (by assumption) (fun p ms o H hml ho T => ?_); dsimp only [List.set] at T)
  | (refine use__law_bounds 3 1 (by assumption) (by with_unfolding_all rfl) (by with_unfolding_all rfl) (by decide) (by assumption) (by assumption) (fun p ms o H hml ho T => ?_); dsimp only [List.set] at T)
  | (refine use__law_bounds 3 2 (by assumption) (by with_unfolding_all rfl) (by with_unfolding_all rfl) (by decide) (by assumption) (by assumption) (fun p ms o H hml ho T => ?_); dsimp only [List.set] at T))
/-! ### _law_same -/

def sp__law_same (K : PySem.W.Frag) : Sp := fun vs H Q _ => ∃ (x y : V) (d : PyData) (l : Bool), vs = [x, y] ∧ SameD K H x d l ∧ SameD K H y d l ∧ Q (.bl true) H
theorem use__law_same {K : PySem.W.Frag} {H : Hp} {Q : VK} {E : XK} {x y : V} {d : PyData} {l : Bool} (h1 : SameD K H x d l) (h2 : SameD K H y d l) (h : Q (.bl true) H) : sp__law_same K [x, y] H Q E := ⟨x, y, d, l, rfl, h1, h2, h⟩
section
variable {P : Program} {w : World} {K : PySem.W.Frag} {mg : Str → Option Value} {base : Heap}
abbrev N__law_same : List Str := ["found", "due"]
theorem scope__law_same : FnScope N__law_same ["found", "due"] (defScope s__law_same) := ⟨rfl, rfl, rfl, by decide +kernel, rfl, by decide +kernel, by decide +kernel⟩
theorem ok__law_same {f : Addr} {fd : FuncData} (F : FunD K "_law_same" "_law_same" (defArgs s__law_same) (defBody s__law_same) (defScope s__law_same) [] [] f fd) (hm : mg "_law_same" = some (.ref f)) (Z : Blt mg) :
    Fn P w K mg base 1 "_law_same" ["found", "due"] (sp__law_same K) := by
  refine mkFn F hm (fun _ _ _ _ _ _ us hl => match us, hl with | [_, _], _ => rfl) (okG (k := 0) F scope__law_same (fun vs H0 Q E h => ?_) (fun cdv A outer s H0 vs Q E hr hgd h => ?_))
  · unfold sp__law_same at h
    (repeat (obtain ⟨_, h⟩ := h)); subst_vars; rfl
  · have nd := scope__law_same.nd
    have hu := hr.units
    unfold sp__law_same at h
    refine ⟨_, PSs.nox (pss_one (ps_ret (pe_and (pe_cmpR (op_eqA hu) (pe_callB call_isi (by rfl) Z.isinstance_ (by decide +kernel) (pa_cons (pv 0) (pa_cons (pe_bltn (v := .ty "list") (by rfl) Z.list_ (by decide +kernel) rfl) pa_nil))) (pe_callB call_isi (by rfl) Z.isinstance_ (by decide +kernel) (pa_cons (pv 1) (pa_cons (pe_bltn (v := .ty "list") (by rfl) Z.list_ (by decide +kernel) rfl) pa_nil))) (nomark _)) (pe_one (pe_cmpR (op_eqA hu) (pe_callB (call_reprD hgd hu) (by rfl) Z.repr_ (by decide +kernel) (pa_cons (pv 0) pa_nil)) (pe_callB (call_reprD hgd hu) (by rfl) Z.repr_ (by decide +kernel) (pa_cons (pv 1) pa_nil)) (nomark _)))))), ?_⟩
    (try dsimp only [cxOf])
    obtain ⟨x, y, d, l, rfl, ⟨d1, ⟨T1, t1, k1⟩, a1, b1, c1, e1⟩, ⟨d2, ⟨T2, t2, k2⟩, a2, b2, c2, e2⟩, q⟩ := h
    k_offL
    refine i_isi t1 k1 ?_
    k_offL
    refine i_isi t2 k2 ?_
    k_offL
    refine i_repr d1 a1 b1 c1 e1 ?_
    k_offL
    refine i_repr d2 a2 b2 c2 e2 ?_
    k_offL
    rw [decide_eq_true rfl]
    exact q
end

/-! ### _law_first -/

def sp__law_first (K : PySem.W.Frag) : Sp := fun vs H Q _ => ∃ (a m : Addr) (ns : List Int) (b : Int), vs = [.ref a, .int b, .ref m] ∧ SqL K H a (ns.map V.int) ∧ Row ns ∧ SqL K H m (tab (mX (rowF ns) b ns.length) (ns.length + 1)) ∧
  (firstO ns b = none → ∀ H', Same H H' → Q .non H') ∧ ∀ (c : List Int) (p : Addr) (H' : Hp), firstO ns b = some c → Same H H' → H p = none → H' p = some (.lst (c.map V.int)) → Q (.ref p) H'
theorem use__law_first {K : PySem.W.Frag} {B H : Hp} {L : List (Addr × HO)} {Q : VK} {E : XK} {a m : Addr} {ns : List Int} {b : Int} (T : Tr B L H) (h1 : SqL K H a (ns.map V.int)) (h2 : Row ns) (h3 : SqL K H m (tab (mX (rowF ns) b ns.length) (ns.length + 1)))
    (k1 : firstO ns b = none → ∀ H', Tr B L H' → Q .non H') (k2 : ∀ c p H', firstO ns b = some c → Tr B ((p, .lst (c.map V.int)) :: L) H' → Q (.ref p) H') : sp__law_first K [.ref a, .int b, .ref m] H Q E :=
  ⟨a, m, ns, b, rfl, h1, h2, h3, fun e H' s => k1 e H' (T.same s), fun c p H' e s n ep => k2 c p H' e (T.add s n ep)⟩
section
variable {P : Program} {w : World} {K : PySem.W.Frag} {mg : Str → Option Value} {base : Heap}
abbrev N__law_first : List Str := ["row", "bound", "most", "cut", "begin", "end"]
theorem scope__law_first : FnScope N__law_first ["row", "bound", "most"] (defScope s__law_first) := ⟨rfl, rfl, rfl, by decide +kernel, rfl, by decide +kernel, by decide +kernel⟩
theorem ok__law_first {f : Addr} {fd : FuncData} (F : FunD K "_law_first" "_law_first" (defArgs s__law_first) (defBody s__law_first) (defScope s__law_first) [] [] f fd) (hm : mg "_law_first" = some (.ref f)) (Z : Blt mg) :
    Fn P w K mg base 1 "_law_first" ["row", "bound", "most"] (sp__law_first K) := by
  refine mkFn F hm (fun _ _ _ _ _ _ us hl => match us, hl with | [_, _, _], _ => rfl) (okG (k := 0) F scope__law_first (fun vs H0 Q E h => ?_) (fun cdv A outer s H0 vs Q E hr hgd h => ?_))
  · unfold sp__law_first at h
    (repeat (obtain ⟨_, h⟩ := h)); subst_vars; rfl
  · have nd := scope__law_first.nd
    have hu := hr.units
    unfold sp__law_first at h
    refine ⟨_, PSs.nox (pss_cons (ps_if (pt_cmpR op_isNn (pe_ix ix_seq (pv 2) pe_int (fun _ _ => rfl)) pe_non (nomark _)) (pss_one (ps_ret pe_non)) pss_nil)
    (pss_cons (ps_set (i := 3) nd rfl (.inl rfl) (pe_lst pa_nil))
    (pss_cons (ps_set (i := 4) nd rfl (.inl rfl) pe_int)
    (pss_cons (ps_while PassesOwn.never (pt_cmpR op_gt (pe_ix ix_seq (pv 2) (pv 4) (fun _ _ => rfl)) pe_int (nomark _)) (pss_cons (ps_set (i := 5) nd rfl (.inl rfl) (pe_op op_addA (pv 4) pe_int))
    (pss_cons (ps_while PassesOwn.never (PW.pt (pw_or (pt_cmpR op_lt (pe_callB (cr_sum rfl) (by rfl) Z.sum_ (by decide +kernel) (pa_cons (pe_slice sl_list (pv 0) (po_some (pv 4)) (po_some (pv 5))) pa_nil)) (pv 1) (nomark _)) (pw_or1 (pt_cmpR (op_neA hu) (pe_ix ix_seq (pv 2) (pv 5) (fun _ _ => rfl)) (pe_op op_sub (pe_ix ix_seq (pv 2) (pv 4) (fun _ _ => rfl)) pe_int) (nomark _))))) (pss_one (ps_set (i := 5) nd rfl (.inl rfl) (pe_op op_addA (pv 5) pe_int))))
    (pss_cons (ps_expr (pe_bm PySem.F.plainAttrs_list PySem.F.slot_list_append PySem.F.type_list_append mt_append (pv 3) (pa_cons (pv 5) pa_nil)))
    (pss_one (ps_set (i := 4) nd rfl (.inl rfl) (pv 5)))))))
    (pss_one (ps_ret (pv 3))))))), ?_⟩
    (try dsimp only [cxOf])
    obtain ⟨a, mm, ns, b, rfl, ha, ⟨h1, h2, h3⟩, hmm, q1, q2⟩ := h
    have T := Tr.start H0
    have hpos := rowF_nonneg fun n hn => (h3 n hn).1
    have hat0 := tab_at (f := mX (rowF ns) b ns.length) (e := ns.length + 1) (show 0 ≤ (0 : Int) by omega) (by omega)
    rw [show (0 : Int).toNat = 0 from rfl, mX_most b h1] at hat0
    have hM : SqL K H0 mm (tab (mX (rowF ns) b ns.length) (ns.length + 1)) := hmm
    by_cases hE : ends ns b = []
    · have e : mostO ns b = none := if_pos hE
      rw [e] at hat0
      dsimp only [optV] at hat0
      k_offL
      exact q1 (if_pos hE) _ T.base
    · have e : mostO ns b = some ((ends ns b).length : Int) := if_neg hE
      rw [e] at hat0
      dsimp only [optV] at hat0
      have hl := ends_len ns b
      have hl0 : (ends ns b).length ≠ 0 := fun z => hE (List.length_eq_zero_iff.mp z)
      k_offL
      refine f_while (fun m σ H => ∃ (p : Addr) (c : List Int) (beg : Nat) (v5 : Option V), σ = [some (.ref a), some (.int b), some (.ref mm), some (.ref p), some (.int beg), v5] ∧ m = ns.length - beg ∧ beg < ns.length ∧
        eS (rowF ns) b beg = (c, 0) ∧ gE (rowF ns) b ns.length beg ≠ 0 ∧ Tr H0 [(p, .lst (c.map V.int))] H) ⟨_, _, [], 0, _, rfl, rfl, by omega, rfl, by omega, T⟩ ?_
      rintro m σ H ⟨p, c, beg, v5, rfl, rfl, hb, hc, hg, T⟩
      have hM := T.seq hmm
      have hatb := tab_at (f := mX (rowF ns) b ns.length) (e := ns.length + 1) (show 0 ≤ (beg : Int) by omega) (by omega)
      have hxb : mX (rowF ns) b ns.length beg = some (gE (rowF ns) b ns.length beg : Int) := by
        unfold mX
        rw [if_neg (by omega), if_neg hg]
      rw [Int.toNat_natCast, hxb] at hatb
      dsimp only [optV] at hatb
      have hcl := (eS_mem (rowF ns) b beg).1
      rw [hc] at hcl
      dsimp only at hcl
      obtain ⟨e1, b1, b2, b3, b4⟩ : ∃ e, beg < e ∧ e ≤ ns.length ∧ (∀ j, beg < j → j < e → pre (rowF ns) j - pre (rowF ns) beg < b) ∧ pre (rowF ns) e - pre (rowF ns) beg ≥ b := by
        rcases next_or (a := rowF ns) b ns.length beg with h | h
        · exact absurd (gE_none h) hg
        · exact h
      have g1 := gE_next b1 b2 b3 b4
      have hc2 := eS_at hc b1 b3 b4
      have hsh := eS_shift hc2 (ns.length - e1)
      rw [show e1 + (ns.length - e1) = ns.length by omega] at hsh
      k_offL
      refine i_if (fun h => ?_) (fun h => ?_)
      · have hge : gE (rowF ns) b ns.length e1 ≠ 0 := by omega
        have hne : e1 ≠ ns.length := fun z => by
          rw [z, gE_end] at hge
          exact hge rfl
        have hxe : mX (rowF ns) b ns.length e1 = some (gE (rowF ns) b ns.length e1 : Int) := by
          unfold mX
          rw [if_neg hne, if_neg hge]
        refine i_turn ?_
        k_offL
        refine f_while (fun m σ H => ∃ (e : Nat), σ = [some (.ref a), some (.int b), some (.ref mm), some (.ref p), some (.int beg), some (.int e)] ∧ m = ns.length - e ∧ beg < e ∧ e ≤ e1 ∧ Tr H0 [(p, .lst (c.map V.int))] H) ⟨_, beg + 1, rfl, rfl, by omega, by omega, T⟩ ?_
        rintro m σ H ⟨e, rfl, rfl, hbe, hee, T⟩
        have hM := T.seq hmm
        have hate := tab_at (f := mX (rowF ns) b ns.length) (e := ns.length + 1) (show 0 ≤ (e : Int) by omega) (by omega)
        rw [Int.toNat_natCast] at hate
        k_offL
        rw [sum_cut (by omega) (by omega) (by omega), show (e : Int).toNat = e by omega, show (beg : Int).toNat = beg by omega]
        by_cases hlt : e < e1
        · have := b3 e hbe hlt
          rw [decide_eq_true this]
          k_offL
          exact ⟨_, by omega, e + 1, rfl, rfl, by omega, by omega, T.drop⟩
        · obtain rfl : e = e1 := by omega
          rw [decide_eq_false (show ¬ pre (rowF ns) e - pre (rowF ns) beg < b by omega)]
          rw [hxe] at hate
          dsimp only [optV] at hate
          k_offL
          have T := T.drop
          k_offL
          exact ⟨_, by omega, _, c ++ [(e : Int)], e, _, rfl, rfl, by omega, hc2, hge, T⟩
      · k_offL
        refine q2 _ _ _ ?_ T.base (T.offI 0 rfl) T.get0
        unfold firstO
        rw [if_neg hE]
        have hz : (eS (sh (rowF ns) e1) b (ns.length - e1)).1 = [] := List.length_eq_zero_iff.mp (show gE (rowF ns) b ns.length e1 = 0 by omega)
        unfold ends
        rw [hsh, hz]
        show some (c ++ [(e1 : Int)] ++ []).dropLast = _
        rw [List.append_nil, List.dropLast_concat]
end
/-! ### _law_most -/

def sp__law_most (K : PySem.W.Frag) : Sp := fun vs H Q _ => ∃ (a : Addr) (ns : List Int) (b : Int), vs = [.ref a, .int b] ∧ H a = some (.lst (ns.map V.int)) ∧ Row ns ∧
  ∀ (p : Addr) (H' : Hp), Same H H' → H p = none → H' p = some (.lst (tab (mX (rowF ns) b ns.length) (ns.length + 1))) → Q (.ref p) H'
theorem use__law_most {K : PySem.W.Frag} {B H : Hp} {L : List (Addr × HO)} {Q : VK} {E : XK} {a : Addr} {ns : List Int} {b : Int} (T : Tr B L H) (h1 : H a = some (.lst (ns.map V.int))) (h2 : Row ns)
    (k : ∀ p H', Tr B ((p, .lst (tab (mX (rowF ns) b ns.length) (ns.length + 1))) :: L) H' → Q (.ref p) H') : sp__law_most K [.ref a, .int b] H Q E :=
  ⟨a, ns, b, rfl, h1, h2, fun p H' s n e => k p H' (T.add s n e)⟩
section
variable {P : Program} {w : World} {K : PySem.W.Frag} {mg : Str → Option Value} {base : Heap}
abbrev N__law_most : List Str := ["row", "bound", "size", "most", "begin", "total", "end"]
theorem scope__law_most : FnScope N__law_most ["row", "bound"] (defScope s__law_most) := ⟨rfl, rfl, rfl, by decide +kernel, rfl, by decide +kernel, by decide +kernel⟩
theorem ok__law_most {f : Addr} {fd : FuncData} (F : FunD K "_law_most" "_law_most" (defArgs s__law_most) (defBody s__law_most) (defScope s__law_most) [] [] f fd) (hm : mg "_law_most" = some (.ref f)) (Z : Blt mg) :
    Fn P w K mg base 1 "_law_most" ["row", "bound"] (sp__law_most K) := by
  refine mkFn F hm (fun _ _ _ _ _ _ us hl => match us, hl with | [_, _], _ => rfl) (okG (k := 0) F scope__law_most (fun vs H0 Q E h => ?_) (fun cdv A outer s H0 vs Q E hr hgd h => ?_))
  · unfold sp__law_most at h
    (repeat (obtain ⟨_, h⟩ := h)); subst_vars; rfl
  · have nd := scope__law_most.nd
    have hu := hr.units
    unfold sp__law_most at h
    refine ⟨_, PSs.nox (pss_cons (ps_set (i := 2) nd rfl (.inl rfl) (pe_callB cl_len (by rfl) Z.len_ (by decide +kernel) (pa_cons (pv 0) pa_nil)))
    (pss_cons (ps_set (i := 3) nd rfl (.inl rfl) (pe_op op_addA (pe_op op_mulA (pe_lst (pa_cons pe_non pa_nil)) (pv 2)) (pe_lst (pa_cons pe_int pa_nil))))
    (pss_cons (ps_for PassesOwn.never rfl (pi_range3 (by rfl) Z.range_ (pa_cons (pe_op op_sub (pv 2) pe_int) (pa_cons (pe_un un_neg pe_int) (pa_cons (pe_un un_neg pe_int) pa_nil)))) (pg_name (i := 4) nd rfl (.inl rfl)) (pss_cons (ps_set (i := 5) nd rfl (.inl rfl) pe_int)
    (pss_one (ps_for PassesOwn.never rfl (pi_range2 (by rfl) Z.range_ (pa_cons (pe_op op_addA (pv 4) pe_int) (pa_cons (pe_op op_addA (pv 2) pe_int) pa_nil))) (pg_name (i := 6) nd rfl (.inl rfl)) (pss_cons (ps_set (i := 5) nd rfl (.inl rfl) (pe_op op_addA (pv 5) (pe_ix ix_seq (pv 0) (pe_op op_sub (pv 6) pe_int) (fun _ _ => rfl))))
    (pss_one (ps_if (PW.pt (pw_and (pt_cmpR op_ge (pv 5) (pv 1) (nomark _)) (pw_and1 (pt_cmpR op_notNn (pe_ix ix_seq (pv 3) (pv 6) (fun _ _ => rfl)) pe_non (nomark _))))) (pss_one (ps_asg (pe_callB (cl_max2 rfl) (by rfl) Z.max_ (by decide +kernel) (pa_cons (pe_orT (pe_ix ix_seq (pv 3) (pv 4) (fun _ _ => rfl)) (pe_one pe_int)) (pa_cons (pe_op op_addA (pe_ix ix_seq (pv 3) (pv 6) (fun _ _ => rfl)) pe_int) pa_nil))) (pg_sub (pv 3) (pv 4) set_list))) pss_nil)))))))
    (pss_one (ps_ret (pv 3)))))), ?_⟩
    (try dsimp only [cxOf])
    obtain ⟨a, ns, b, rfl, ha, ⟨h1, h2, h3⟩, q⟩ := h
    have T := Tr.start H0
    have hpos := rowF_nonneg fun n hn => (h3 n hn).1
    k_offL
    rw [List.flatten_replicate_singleton, show ((ns.length : Int)).toNat = ns.length by omega] at T
    k_offL
    have T : Tr H0 [(p, .lst (tab (mT (rowF ns) b ns.length 0) (ns.length + 1)))] H := by
      rw [← tab_start]
      exact T.pick 0 rfl
    refine f_rangeC (fun k σ H => ∃ (v4 v5 v6 : Option V), σ = [some (.ref a), some (.int b), some (.int ns.length), some (.ref p), v4, v5, v6] ∧ Tr H0 [(p, .lst (tab (mT (rowF ns) b ns.length k) (ns.length + 1)))] H) ⟨_, _, _, rfl, T⟩ ?_ ?_
    · rintro k σ H hk ⟨v4, v5, v6, rfl, T⟩
      have hk2 : k < ns.length := by omega
      have eb : (ns.length : Int) - 1 + (k : Int) * -1 = ((ns.length - 1 - k : Nat) : Int) := by omega
      rw [eb]
      generalize hbg : ns.length - 1 - k = beg
      have T : Tr H0 [(p, .lst (tab (fun x => if x = beg then mB (mT (rowF ns) b ns.length k) (rowF ns) b beg 0 else mT (rowF ns) b ns.length k x) (ns.length + 1)))] H := by
        rw [tab_congr (g := mT (rowF ns) b ns.length k)]
        · exact T
        · intro j hj
          by_cases e : j = beg
          · rw [if_pos e, e]
            exact (if_neg (by omega)).symm
          · rw [if_neg e]
      k_offL
      refine f_range (fun j σ H => ∃ (v6 : Option V), σ = [some (.ref a), some (.int b), some (.int ns.length), some (.ref p), some (.int beg), some (.int (pre (rowF ns) (beg + j) - pre (rowF ns) beg)), v6] ∧
        Tr H0 [(p, .lst (tab (fun x => if x = beg then mB (mT (rowF ns) b ns.length k) (rowF ns) b beg j else mT (rowF ns) b ns.length k x) (ns.length + 1)))] H) ⟨v6, by rw [Nat.add_zero, Int.sub_self]; rfl, T⟩ ?_ ?_
      · rintro j σ H hj ⟨v6, rfl, T⟩
        have e1 : ((beg : Int) + 1 + (j : Int) - 1).toNat = beg + j := by omega
        have e2 : ((beg : Int) + 1 + (j : Int)).toNat = beg + 1 + j := by omega
        have hat1 := tab_at (f := fun x => if x = beg then mB (mT (rowF ns) b ns.length k) (rowF ns) b beg j else mT (rowF ns) b ns.length k x) (e := ns.length + 1) (show 0 ≤ (beg : Int) + 1 + (j : Int) by omega) (by omega)
        have hat2 := tab_at (f := fun x => if x = beg then mB (mT (rowF ns) b ns.length k) (rowF ns) b beg j else mT (rowF ns) b ns.length k x) (e := ns.length + 1) (show 0 ≤ (beg : Int) by omega) (by omega)
        rw [e2] at hat1
        rw [Int.toNat_natCast] at hat2
        try dsimp only at hat1
        try dsimp only at hat2
        rw [if_neg (by omega)] at hat1
        rw [if_pos rfl] at hat2
        have et : pre (rowF ns) (beg + j) - pre (rowF ns) beg + ns[beg + j]! = pre (rowF ns) (beg + (j + 1)) - pre (rowF ns) beg := by
          have e3 : pre (rowF ns) (beg + (j + 1)) = pre (rowF ns) (beg + j) + ns[beg + j]! := rfl
          omega
        have hst : mB (mT (rowF ns) b ns.length k) (rowF ns) b beg (j + 1) = optMax (mB (mT (rowF ns) b ns.length k) (rowF ns) b beg j) (mC (mT (rowF ns) b ns.length k) (rowF ns) b beg (beg + 1 + j)) := rfl
        have put : ∀ (v : Option Int) (H : Hp), Tr H0 [(p, .lst ((tab (fun x => if x = beg then mB (mT (rowF ns) b ns.length k) (rowF ns) b beg j else mT (rowF ns) b ns.length k x) (ns.length + 1)).set beg (optV v)))] H →
            Tr H0 [(p, .lst (tab (fun x => if x = beg then v else mT (rowF ns) b ns.length k x) (ns.length + 1)))] H := fun v H T => by
          rw [tab_set (by omega)] at T
          rw [tab_congr (g := fun x => if x = beg then v else if x = beg then mB (mT (rowF ns) b ns.length k) (rowF ns) b beg j else mT (rowF ns) b ns.length k x)]
          · exact T
          · intro x hx
            by_cases e : x = beg
            · rw [if_pos e, if_pos e]
            · rw [if_neg e, if_neg e, if_neg e]
        rw [hst]
        k_offL
        rw [e1, et]
        generalize hB : mB (mT (rowF ns) b ns.length k) (rowF ns) b beg j = best at *
        refine i_if (fun h => ?_) (fun h => ?_)
        · have hc : mC (mT (rowF ns) b ns.length k) (rowF ns) b beg (beg + 1 + j) = (mT (rowF ns) b ns.length k (beg + 1 + j)).map (· + 1) := if_pos (by rw [show beg + 1 + j = beg + (j + 1) by omega]; exact h)
          cases hf : mT (rowF ns) b ns.length k (beg + 1 + j) with
          | none =>
            rw [hf] at hat1 hc
            dsimp only [optV] at hat1
            k_offL
            rw [hc]
            exact ⟨_, rfl, T⟩
          | some m =>
            rw [hf] at hat1 hc
            dsimp only [optV] at hat1
            rw [hc]
            cases best with
            | none =>
              dsimp only [optV] at hat2
              k_offL
              refine i_setL 0 T rfl (ixN_int (by omega) (by rw [tab_len]; omega)) (fun H T => ?_)
              exact ⟨_, rfl, put _ _ T⟩
            | some y =>
              dsimp only [optV] at hat2
              k_offL
              by_cases hy : y = 0
              · refine i_orI0 hy ?_
                k_offL
                refine i_setL 0 T rfl (ixN_int (by omega) (by rw [tab_len]; omega)) (fun H T => ?_)
                rw [hy]
                exact ⟨_, rfl, put _ _ T⟩
              · refine i_orI1 hy ?_
                k_offL
                refine i_setL 0 T rfl (ixN_int (by omega) (by rw [tab_len]; omega)) (fun H T => ?_)
                exact ⟨_, rfl, put _ _ T⟩
        · have hc : mC (mT (rowF ns) b ns.length k) (rowF ns) b beg (beg + 1 + j) = none := if_neg (by rw [show beg + 1 + j = beg + (j + 1) by omega]; exact h)
          k_offL
          rw [hc]
          exact ⟨_, rfl, T⟩
      · rintro σ H ⟨v6, rfl, T⟩
        refine ⟨_, _, _, rfl, ?_⟩
        rw [tab_congr (g := fun x => if x = beg then mB (mT (rowF ns) b ns.length k) (rowF ns) b beg (k + 1) else mT (rowF ns) b ns.length k x)]
        · rw [show ((ns.length : Int) + 1 - ((beg : Int) + 1)).toNat = k + 1 by omega] at T
          exact T
        · intro x hx
          rw [mT_step hpos hk2, hbg]
    · rintro σ H ⟨v4, v5, v6, rfl, T⟩
      rw [show ((ns.length : Int) - 1 - -1).toNat = ns.length by omega, tab_congr (g := mX (rowF ns) b ns.length) fun j hj => mT_all _ _ _ _] at T
      k_offL
      exact q _ _ T.base (T.offI 0 rfl) T.get0
end
/-! ### _law_right -/

def sp__law_right (K : PySem.W.Frag) : Sp := fun vs H Q _ => ∃ (a : Addr) (ns : List Int) (b : Int), vs = [.ref a, .int b] ∧ H a = some (.lst (ns.map V.int)) ∧ Row ns ∧ ∀ (H' : Hp), Same H H' → Q (.bl true) H'
theorem use__law_right {K : PySem.W.Frag} {B H : Hp} {L : List (Addr × HO)} {Q : VK} {E : XK} {a : Addr} {ns : List Int} {b : Int} (T : Tr B L H) (h1 : H a = some (.lst (ns.map V.int))) (h2 : Row ns)
    (k : ∀ H', Tr B L H' → Q (.bl true) H') : sp__law_right K [.ref a, .int b] H Q E :=
  ⟨a, ns, b, rfl, h1, h2, fun H' s => k H' (T.same s)⟩
section
variable {P : Program} {w : World} {K : PySem.W.Frag} {mg : Str → Option Value} {base : Heap}
abbrev N__law_right : List Str := ["row", "bound", "most", "due", "handed", "told", "beside"]
theorem scope__law_right : FnScope N__law_right ["row", "bound"] (defScope s__law_right) := ⟨rfl, rfl, rfl, by decide +kernel, rfl, by decide +kernel, by decide +kernel⟩
theorem ok__law_right {f : Addr} {fd : FuncData} (F : FunD K "_law_right" "_law_right" (defArgs s__law_right) (defBody s__law_right) (defScope s__law_right) [] [] f fd) (hm : mg "_law_right" = some (.ref f)) (Z : Blt mg)
    (C__law_same : Fn P w K mg base 1 "_law_same" ["found", "due"] (sp__law_same K))
    (C_first_cut : Fn P w K mg base 2 "first_cut" ["row", "bound"] (sp_first_cut K))
    (C_most_pieces : Fn P w K mg base 2 "most_pieces" ["row", "bound"] (sp_most_pieces K))
    (C__law_first : Fn P w K mg base 1 "_law_first" ["row", "bound", "most"] (sp__law_first K))
    (C__law_most : Fn P w K mg base 1 "_law_most" ["row", "bound"] (sp__law_most K)) :
    Fn P w K mg base 3 "_law_right" ["row", "bound"] (sp__law_right K) := by
  refine mkFn F hm (fun _ _ _ _ _ _ us hl => match us, hl with | [_, _], _ => rfl) (okG (k := 2) F scope__law_right (fun vs H0 Q E h => ?_) (fun cdv A outer s H0 vs Q E hr hgd h => ?_))
  · unfold sp__law_right at h
    (repeat (obtain ⟨_, h⟩ := h)); subst_vars; rfl
  · have nd := scope__law_right.nd
    have hu := hr.units
    have hr__law_same : Room 1 _ := hr.mono (by decide : 1 ≤ 2)
    have hr_first_cut : Room 2 _ := hr.mono (by decide : 2 ≤ 2)
    have hr_most_pieces : Room 2 _ := hr.mono (by decide : 2 ≤ 2)
    have hr__law_first : Room 1 _ := hr.mono (by decide : 1 ≤ 2)
    have hr__law_most : Room 1 _ := hr.mono (by decide : 1 ≤ 2)
    unfold sp__law_right at h
    refine ⟨_, PSs.nox (pss_cons (ps_set (i := 2) nd rfl (.inl rfl) (pe_fn C__law_most hr__law_most hgd rfl passL (pa_cons (pv 0) (pa_cons (pv 1) pa_nil))))
    (pss_cons (ps_set (i := 3) nd rfl (.inl rfl) (pe_fn C__law_first hr__law_first hgd rfl passL (pa_cons (pv 0) (pa_cons (pv 1) (pa_cons (pv 2) pa_nil)))))
    (pss_cons (ps_set (i := 4) nd rfl (.inl rfl) (pe_callTy cl_list (by rfl) Z.list_ (by decide +kernel) (pa_cons (pv 0) pa_nil)))
    (pss_cons (ps_if (PW.pt (pw_or (pt_not (pt_val (pe_fn C__law_same hr__law_same hgd rfl passL (pa_cons (pe_fn C_most_pieces hr_most_pieces hgd rfl passL (pa_cons (pv 4) (pa_cons (pv 1) pa_nil))) (pa_cons (pe_ix ix_seq (pv 2) pe_int (fun _ _ => rfl)) pa_nil))))) (pw_or1 (pt_not (pt_val (pe_fn C__law_same hr__law_same hgd rfl passL (pa_cons (pe_fn C_most_pieces hr_most_pieces hgd rfl passL (pa_cons (pv 4) (pa_cons (pv 1) pa_nil))) (pa_cons (pe_ix ix_seq (pv 2) pe_int (fun _ _ => rfl)) pa_nil)))))))) (pss_one (ps_ret pe_bl)) pss_nil)
    (pss_cons (ps_set (i := 5) nd rfl (.inl rfl) (pe_fn C_first_cut hr_first_cut hgd rfl passL (pa_cons (pv 4) (pa_cons (pv 1) pa_nil))))
    (pss_cons (ps_if (PW.pt (pw_or (pt_not (pt_val (pe_fn C__law_same hr__law_same hgd rfl passL (pa_cons (pv 5) (pa_cons (pv 3) pa_nil))))) (pw_or1 (pt_cmpR (op_neA hu) (pe_callB (call_reprD hgd hu) (by rfl) Z.repr_ (by decide +kernel) (pa_cons (pv 4) pa_nil)) (pe_callB (call_reprD hgd hu) (by rfl) Z.repr_ (by decide +kernel) (pa_cons (pv 0) pa_nil)) (nomark _))))) (pss_one (ps_ret pe_bl)) pss_nil)
    (pss_cons (ps_set (i := 6) nd rfl (.inl rfl) (pe_fn C_first_cut hr_first_cut hgd rfl passL (pa_cons (pv 4) (pa_cons (pv 1) pa_nil))))
    (C8.pss_cut (ps_if (pt_cmpR op_notNn (pv 5) pe_non (nomark _)) (pss_one (ps_expr (pe_bm PySem.F.plainAttrs_list PySem.F.slot_list_append PySem.F.type_list_append mt_append (pv 5) (pa_cons pe_int pa_nil)))) pss_nil)
    (pss_cons (ps_expr (pe_bm PySem.F.plainAttrs_list PySem.F.slot_list_append PySem.F.type_list_append mt_append (pv 4) (pa_cons pe_int pa_nil)))
    (pss_one (ps_ret (pe_and (pe_fn C__law_same hr__law_same hgd rfl passL (pa_cons (pv 6) (pa_cons (pv 3) pa_nil))) (pe_one (pe_fn C__law_same hr__law_same hgd rfl passL (pa_cons (pe_fn C_first_cut hr_first_cut hgd rfl passL (pa_cons (pe_callTy cl_list (by rfl) Z.list_ (by decide +kernel) (pa_cons (pv 0) pa_nil)) (pa_cons (pv 1) pa_nil))) (pa_cons (pv 3) pa_nil)))))))))))))))), ?_⟩
    (try dsimp only [cxOf])
    obtain ⟨a, ns, b, rfl, ha, hrow, q⟩ := h
    have T := Tr.start H0
    have hrow2 := hrow
    obtain ⟨h1, h2, h3⟩ := hrow2
    have hbig : ∀ n ∈ ns, n.natAbs < 2 ^ 64 := fun n hn => by
      have := h3 n hn
      omega
    have hat0 := tab_at (f := mX (rowF ns) b ns.length) (e := ns.length + 1) (show 0 ≤ (0 : Int) by omega) (by omega)
    rw [show (0 : Int).toNat = 0 from rfl, mX_most b h1] at hat0
    have sd : ∀ H, SameD K H (optV (mostO ns b)) (dO (mostO ns b)) false := fun H => sd_opt fun m hm => by
      have := most_le hm
      omega
    k_offL
    refine use__law_most T (by k_updF) hrow (fun pm H T => ?_)
    k_offL
    refine use__law_first T (by k_updF) hrow (SqL.of T.get0) (fun e H T => ?_) (fun c pd H e T => ?_)
    · k_offL
      refine use_most_pieces T (by k_updF) (by omega) (fun H T => ?_)
      k_offL
      refine use__law_same (sd _) (sd _) ?_
      k_offL
      refine use_most_pieces T (by k_updF) (by omega) (fun H T => ?_)
      k_offL
      refine use__law_same (sd _) (sd _) ?_
      k_offL
      refine use_first_cut T (by k_updF) (by omega) (fun _ H T => ?_) (fun c2 p2 H e2 T => absurd (e.symm.trans e2) (by intro z; cases z))
      k_offL
      refine use__law_same sd_non sd_non ?_
      k_offL
      refine use_first_cut T (by k_updF) (by omega) (fun _ H T => ?_) (fun c2 p2 H e2 T => absurd (e.symm.trans e2) (by intro z; cases z))
      k_offL
      apply f_cutR (fun H' => H' = H)
      · k_offL
        exact ⟨rfl, rfl⟩
      rintro _ rfl
      k_offL
      refine use__law_same sd_non sd_non ?_
      k_offL
      refine use_first_cut T (by k_updF) (by omega) (fun _ H T => ?_) (fun c2 p2 H e2 T => absurd (e.symm.trans e2) (by intro z; cases z))
      k_offL
      refine use__law_same sd_non sd_non ?_
      exact q _ T.base
    · obtain ⟨el, em⟩ := first_mem e
      have ebig : ∀ n ∈ c, n.natAbs < 2 ^ 64 := fun n hn => by
        have := em n hn
        omega
      k_offL
      refine use_most_pieces T (by k_updF) (by omega) (fun H T => ?_)
      k_offL
      refine use__law_same (sd _) (sd _) ?_
      k_offL
      refine use_most_pieces T (by k_updF) (by omega) (fun H T => ?_)
      k_offL
      refine use__law_same (sd _) (sd _) ?_
      k_offL
      refine use_first_cut T (by k_updF) (by omega) (fun e2 H T => absurd (e2.symm.trans e) (by intro z; cases z)) (fun c2 p2 H e2 T => ?_)
      obtain rfl : c = c2 := Option.some.inj (e.symm.trans e2)
      k_offL
      refine use__law_same (sd_ints T.get0 ebig (by omega)) (sd_ints T.get2 ebig (by omega)) ?_
      k_offL
      refine use_first_cut T (by k_updF) (by omega) (fun e2 H T => absurd (e2.symm.trans e) (by intro z; cases z)) (fun c2 p3 H e2 T => ?_)
      obtain rfl : c = c2 := Option.some.inj (e.symm.trans e2)
      k_offL
      apply f_cutR (fun H' => ∃ x1 x4, Tr H0 [(p3, .lst (c.map V.int)), x1, (p, .lst (ns.map V.int)), (pd, .lst (c.map V.int)), x4] H')
      · k_offL
        exact ⟨rfl, _, _, T⟩
      rintro H' ⟨x1, x4, T⟩
      k_offL
      refine use__law_same (sd_ints T.get0 ebig (by omega)) (sd_ints T.get3 ebig (by omega)) ?_
      k_offL
      refine use_first_cut T (by k_updF) (by omega) (fun e2 H T => absurd (e2.symm.trans e) (by intro z; cases z)) (fun c2 p5 H e2 T => ?_)
      obtain rfl : c = c2 := Option.some.inj (e.symm.trans e2)
      k_offL
      refine use__law_same (sd_ints T.get0 ebig (by omega)) (sd_ints T.get5 ebig (by omega)) ?_
      exact q _ T.base
end
/-! ### _law_great -/

def sp__law_great (K : PySem.W.Frag) : Sp := fun vs H Q _ => ∃ (a : Addr) (ns : List Int), vs = [.ref a] ∧ SqL K H a (ns.map V.int) ∧ ∀ b : Bool, Q (.bl b) H
theorem use__law_great {K : PySem.W.Frag} {H : Hp} {Q : VK} {E : XK} {a : Addr} {ns : List Int} (h1 : SqL K H a (ns.map V.int)) (h : ∀ b, Q (.bl b) H) : sp__law_great K [.ref a] H Q E := ⟨a, ns, rfl, h1, h⟩
section
variable {P : Program} {w : World} {K : PySem.W.Frag} {mg : Str → Option Value} {base : Heap}
abbrev N__law_great : List Str := ["script"]
theorem scope__law_great : FnScope N__law_great ["script"] (defScope s__law_great) := ⟨rfl, rfl, rfl, by decide +kernel, rfl, by decide +kernel, by decide +kernel⟩
theorem ok__law_great {f : Addr} {fd : FuncData} (F : FunD K "_law_great" "_law_great" (defArgs s__law_great) (defBody s__law_great) (defScope s__law_great) [] [] f fd) (hm : mg "_law_great" = some (.ref f)) (Z : Blt mg) :
    Fn P w K mg base 1 "_law_great" ["script"] (sp__law_great K) := by
  refine mkFn F hm (fun _ _ _ _ _ _ us hl => match us, hl with | [_], _ => rfl) (okG (k := 0) F scope__law_great (fun vs H0 Q E h => ?_) (fun cdv A outer s H0 vs Q E hr hgd h => ?_))
  · unfold sp__law_great at h
    (repeat (obtain ⟨_, h⟩ := h)); subst_vars; rfl
  · have nd := scope__law_great.nd
    have hu := hr.units
    unfold sp__law_great at h
    refine ⟨_, PSs.nox (pss_one (ps_ret (pe_cmpR (op_eqA hu) (pe_op op_mod (pe_op op_fdivW (pe_callB (cr_sum rfl) (by rfl) Z.sum_ (by decide +kernel) (pa_cons (pv 0) pa_nil)) pe_int) pe_int) pe_int (nomark _)))), ?_⟩
    (try dsimp only [cxOf])
    obtain ⟨a, ns, rfl, ha, q⟩ := h
    k_offL
    exact q _
end

set_option hygiene false in
local macro_rules | `(tactic| k_clsL) => `(tactic| refine use__law_great (by k_updF) (fun b => ?_))
/-! ### law -/

def sp_law (K : PySem.W.Frag) : Sp := fun vs H Q _ => ∃ (a : Addr) (ns : List Int), vs = [.ref a] ∧ SqL K H a (ns.map V.int) ∧ ns.length ≤ 63 ∧ ∀ H', Q (.bl true) H'
section
variable {P : Program} {w : World} {K : PySem.W.Frag} {mg : Str → Option Value} {base : Heap}
abbrev N_law : List Str := ["script", "k", "cell", "hand", "row", "bound"]
theorem scope_law : FnScope N_law ["script"] (defScope s_law) := ⟨rfl, rfl, rfl, by decide +kernel, rfl, by decide +kernel, by decide +kernel⟩
-- comprehension scope 0
theorem ok_law {f : Addr} {fd : FuncData} (F : FunD K "law" "law" (defArgs s_law) (defBody s_law) (defScope s_law) [] [] f fd) (hm : mg "law" = some (.ref f)) (Z : Blt mg)
    (C_most_pieces : Fn P w K mg base 2 "most_pieces" ["row", "bound"] (sp_most_pieces K))
    (C_first_cut : Fn P w K mg base 2 "first_cut" ["row", "bound"] (sp_first_cut K))
    (C__law_cells : Fn P w K mg base 1 "_law_cells" ["script", "many"] (sp__law_cells K))
    (C__law_bounds : Fn P w K mg base 2 "_law_bounds" ["hand", "row"] (sp__law_bounds K))
    (C__law_right : Fn P w K mg base 3 "_law_right" ["row", "bound"] (sp__law_right K))
    (C__law_row : Fn P w K mg base 2 "_law_row" ["hand", "long"] (sp__law_row K))
    (C__law_great : Fn P w K mg base 1 "_law_great" ["script"] (sp__law_great K))
    (C__law_hand : Fn P w K mg base 1 "_law_hand" ["cell", "k"] (sp__law_hand K)) :
    FnG P w K mg base 4 f fd ["script"] (sp_law K) := by
  refine okG (k := 3) F scope_law (fun vs H0 Q E h => ?_) (fun cdv A outer s H0 vs Q E hr hgd h => ?_)
  · unfold sp_law at h
    (repeat (obtain ⟨_, h⟩ := h)); subst_vars; rfl
  · have nd := scope_law.nd
    have hu := hr.units
    have hr_most_pieces : Room 2 _ := hr.mono (by decide : 2 ≤ 3)
    have hr_first_cut : Room 2 _ := hr.mono (by decide : 2 ≤ 3)
    have hr__law_cells : Room 1 _ := hr.mono (by decide : 1 ≤ 3)
    have hr__law_bounds : Room 2 _ := hr.mono (by decide : 2 ≤ 3)
    have hr__law_right : Room 3 _ := hr.mono (by decide : 3 ≤ 3)
    have hr__law_row : Room 2 _ := hr.mono (by decide : 2 ≤ 3)
    have hr__law_great : Room 1 _ := hr.mono (by decide : 1 ≤ 3)
    have hr__law_hand : Room 1 _ := hr.mono (by decide : 1 ≤ 3)
    unfold sp_law at h
    refine ⟨_, PSs.nox (pss_cons (ps_for PassesOwn.never rfl (pi_list (pe_fn C__law_cells hr__law_cells hgd rfl passL (pa_cons (pv 0) (pa_cons pe_int pa_nil)))) (pg_tup (by rfl) (pgs_cons (pg_name (i := 1) nd rfl (.inl rfl)) (pgs_cons (pg_name (i := 2) nd rfl (.inl rfl)) pgs_nil))) (pss_cons (ps_set (i := 3) nd rfl (.inl rfl) (pe_fn C__law_hand hr__law_hand hgd rfl passL (pa_cons (pv 2) (pa_cons (pv 1) pa_nil))))
    (pss_cons (ps_set (i := 4) nd rfl (.inr rfl) (pe_fn C__law_row hr__law_row hgd rfl passL (pa_cons (pv 3) (pa_cons (pe_and (pe_cmpR (op_eqA hu) (pv 1) pe_int (nomark _)) (pe_one (pe_fn C__law_great hr__law_great hgd rfl passL (pa_cons (pv 0) pa_nil)))) pa_nil))))
    (pss_one (ps_if (pt_cmpR (op_neA hu) (pe_lc (own := [("bound", 5)]) (g := gName 5) (by rfl) nd (pi_list (pe_fn C__law_bounds hr__law_bounds hgd rfl passL (pa_cons (pv 3) (pa_cons (pv 4) pa_nil)))) (blkOk_by (own := [("bound", 5)]) (N := N_law) (sc := (defScope s_law)) (by decide +kernel)) (fun _ _ _ _ _ => (pg_name (i := 5) nd rfl (.inl rfl))) (fun _ _ _ _ _ => pts_one (pt_not (pt_val (pe_fn C__law_right hr__law_right hgd rfl passL (pa_cons (pv 4) (pa_cons (pv 5) pa_nil)))))) (fun _ _ _ _ _ => (pv 5))) (pe_lst pa_nil) (nomark _)) (pss_one (ps_ret pe_bl)) pss_nil)))))
    (pss_one (ps_ret (pe_and (pe_cmpR (op_eqA hu) (pe_fn C_first_cut hr_first_cut hgd rfl passL (pa_cons (pe_lst (pa_cons pe_int (pa_cons pe_int (pa_cons pe_int pa_nil)))) (pa_cons pe_int pa_nil))) (pe_lst pa_nil) (nomark _)) (pe_and (pe_cmpR (op_eqA hu) (pe_fn C_first_cut hr_first_cut hgd rfl passL (pa_cons (pe_lst (pa_cons pe_int (pa_cons pe_int (pa_cons pe_int (pa_cons pe_int pa_nil))))) (pa_cons pe_int pa_nil))) (pe_lst (pa_cons pe_int pa_nil)) (nomark _)) (pe_one (pe_cmpR op_isNn (pe_fn C_most_pieces hr_most_pieces hgd rfl passL (pa_cons (pe_lst (pa_cons pe_int pa_nil)) (pa_cons pe_int pa_nil))) pe_non (nomark _)))))))), ?_⟩
    (try dsimp only [cxOf])
    obtain ⟨a, ns, rfl, ha, hl, q⟩ := h
    k_offL
    rename Hp => Hc
    obtain ⟨hc1, h64, hc3⟩ := hc
    have T := Tr.start Hc
    have haC := hs.seq ha
    k_offL
    refine f_list (xs := ts.map V.ref) (fun i σ H => ∃ v1 v2 v3 v4 v5, σ = [some (.ref a), v1, v2, v3, v4, v5] ∧ Tr Hc [] H) ⟨_, _, _, _, _, rfl, Tr.start Hc⟩
      (fun i σ H ⟨v1, v2, v3, v4, v5, e, T⟩ => T.seq (SqL.of hc1)) ?_ ?_
    · rintro i x σ H hx ⟨v1, v2, v3, v4, v5, rfl, T⟩
      obtain ⟨t, rfl, ht⟩ : ∃ t, x = .ref t ∧ ts[i]? = some t := by
        rw [List.getElem?_map] at hx
        cases e : ts[i]? with
        | none =>
          rw [e] at hx
          cases hx
        | some t =>
          rw [e] at hx
          exact ⟨t, (Option.some.inj hx).symm, rfl⟩
      obtain ⟨c, hct⟩ := hc3 i t ht
      have hi := (List.getElem?_eq_some_iff.mp ht).1
      k_offL
      refine i_andAny (fun hp Q' hQ => ?_) (fun b => ?_)
      · k_offL
        exact hQ _
      k_offL
      have hrow2 := hrow
      obtain ⟨hr1, hr2, hr3⟩ := hrow2
      refine c_ints (ns := ms) T (fun D i H' => Tr Hc ((D, .lst []) :: _) H') (fun D H' T => T) (fun D i H' T => SqL.of T.get1) (fun D i b H' hx T => ?_) (fun D H' T => ?_)
      · k_offL
        refine use__law_right T T.get2 hrow (fun H T => ?_)
        k_offL
        exact T
      · k_offL
        refine i_neLnil (ns := []) (SqL.of T.get1) (SqL.of T.get0) ?_
        k_offL
        refine i_nif (fun h => absurd rfl h) (fun _ => ?_)
        k_offL
        exact ⟨_, _, _, _, _, rfl, by k_ownIn⟩
    · rintro σ H ⟨v1, v2, v3, v4, v5, rfl, T⟩
      k_offL
      refine use_first_cut T (by k_updF) (by decide) (fun e _ _ => absurd e (by decide)) (fun c2 p2 H e2 T => ?_)
      obtain rfl : c2 = [] := Option.some.inj (e2.symm.trans (by decide))
      k_offL
      refine i_decT rfl ?_
      k_offL
      refine use_first_cut T (by k_updF) (by decide) (fun e _ _ => absurd e (by decide)) (fun c2 p2 H e2 T => ?_)
      obtain rfl : c2 = [2] := Option.some.inj (e2.symm.trans (by decide))
      k_offL
      refine use_most_pieces T (by k_updF) (by decide) (fun H T => ?_)
      rw [show mostO [1] 2 = none by decide]
      show rIsN V.non V.non H Q
      k_offL
      exact q _
end
def d_ends_of : He.DefD := ⟨("ends_of", none), "ends_of", "ends_of", defArgs s_ends_of, defBody s_ends_of, defScope s_ends_of, [], []⟩
def d_most_pieces : He.DefD := ⟨("most_pieces", none), "most_pieces", "most_pieces", defArgs s_most_pieces, defBody s_most_pieces, defScope s_most_pieces, [], []⟩
def d_first_cut : He.DefD := ⟨("first_cut", none), "first_cut", "first_cut", defArgs s_first_cut, defBody s_first_cut, defScope s_first_cut, [], []⟩
def d__law_cells : He.DefD := ⟨("_law_cells", none), "_law_cells", "_law_cells", defArgs s__law_cells, defBody s__law_cells, defScope s__law_cells, [], []⟩
def d__law_hand : He.DefD := ⟨("_law_hand", none), "_law_hand", "_law_hand", defArgs s__law_hand, defBody s__law_hand, defScope s__law_hand, [], []⟩
def d__law_draw : He.DefD := ⟨("_law_draw", none), "_law_draw", "_law_draw", defArgs s__law_draw, defBody s__law_draw, defScope s__law_draw, [], []⟩
def d__law_row : He.DefD := ⟨("_law_row", none), "_law_row", "_law_row", defArgs s__law_row, defBody s__law_row, defScope s__law_row, [], []⟩
def d__law_bounds : He.DefD := ⟨("_law_bounds", none), "_law_bounds", "_law_bounds", defArgs s__law_bounds, defBody s__law_bounds, defScope s__law_bounds, [], []⟩
def d__law_same : He.DefD := ⟨("_law_same", none), "_law_same", "_law_same", defArgs s__law_same, defBody s__law_same, defScope s__law_same, [], []⟩
def d__law_first : He.DefD := ⟨("_law_first", none), "_law_first", "_law_first", defArgs s__law_first, defBody s__law_first, defScope s__law_first, [], []⟩
def d__law_most : He.DefD := ⟨("_law_most", none), "_law_most", "_law_most", defArgs s__law_most, defBody s__law_most, defScope s__law_most, [], []⟩
def d__law_right : He.DefD := ⟨("_law_right", none), "_law_right", "_law_right", defArgs s__law_right, defBody s__law_right, defScope s__law_right, [], []⟩
def d__law_great : He.DefD := ⟨("_law_great", none), "_law_great", "_law_great", defArgs s__law_great, defBody s__law_great, defScope s__law_great, [], []⟩
def d_law : He.DefD := ⟨("law", none), "law", "law", defArgs s_law, defBody s_law, defScope s_law, [], []⟩
def fn_ : List He.DefD := [d_ends_of, d_most_pieces, d_first_cut, d__law_cells, d__law_hand, d__law_draw, d__law_row, d__law_bounds, d__law_same, d__law_first, d__law_most, d__law_right, d__law_great, d_law]
def fa_ : List He.Fa := [.glo "ends_of", .glo "most_pieces", .glo "first_cut", .glo "_law_cells", .glo "_law_hand", .glo "_law_draw", .glo "_law_row", .glo "_law_bounds", .glo "_law_same", .glo "_law_first", .glo "_law_most", .glo "_law_right", .glo "_law_great", .glo "law", .free "abs", .free "all", .free "bool", .free "dict", .free "enumerate", .free "int", .free "isinstance", .free "len", .free "list", .free "max", .free "min", .free "range", .free "repr", .free "set", .free "sorted", .free "str", .free "sum", .free "tuple", .free "zip", .free "ValueError"]
def names_ : List PySem.Str := (["ends_of", "most_pieces", "first_cut", "_law_hand", "_law_draw", "_law_cells", "_law_great", "_law_row", "_law_bounds", "_law_same", "_law_most", "_law_first", "_law_right"] : List PySem.Str)
abbrev R_ : PySem.W.OpenRow := PySem.W.OpenLaw.row PySem.Challenge.rw_piecebounds_k10_most_pieces
abbrev hk_ : PySem.W.Hook := He.hookD 4 fa_ fn_
def ob_ (s : PySem.W.SharedT) : He.AlD := He.obsDG 4 fa_ fn_ (HandSHeadRun.getT s)
theorem ob_eq_ (s : PySem.W.SharedT) : ob_ s = hk_.obs s.abs := He.obsDG_eq (HandSHeadRun.getT_eq s)
theorem run_ (w : World) : HandSHeadRun.RunEq R_ (PySem.W.view R_.prog [15]) hk_ ob_ 4000 names_ w := by
  intro os
  kernel_rfl
theorem facts_ {P : Program} {w : World} {K : PySem.W.Frag} {h : Heap} {mg : Str → Option Value} {f : Addr} (X : K.In h) (G : h.Ns mainGlobals mg) (hfa : mg ("law" : Str) = some (.ref f)) (c : He.SaysD fa_ fn_ K) :
    ∃ fd : FuncData, (∀ (s : Shared) (v : Value), BindsTo s fd ⟨[v], []⟩ [("script", v)]) ∧ ∀ base : Heap, K.In base → base.Ns mainGlobals mg → FnG P w K mg base 4 f fd ["script"] (sp_law K) := by
  obtain ⟨fd_ends_of, F_ends_of⟩ := c.def_ 0 (d := d_ends_of) rfl
  have hm_ends_of := He.glo_ok X G (c.fact 0 (f := .glo "ends_of") rfl)
  obtain ⟨fd_most_pieces, F_most_pieces⟩ := c.def_ 1 (d := d_most_pieces) rfl
  have hm_most_pieces := He.glo_ok X G (c.fact 1 (f := .glo "most_pieces") rfl)
  obtain ⟨fd_first_cut, F_first_cut⟩ := c.def_ 2 (d := d_first_cut) rfl
  have hm_first_cut := He.glo_ok X G (c.fact 2 (f := .glo "first_cut") rfl)
  obtain ⟨fd__law_cells, F__law_cells⟩ := c.def_ 3 (d := d__law_cells) rfl
  have hm__law_cells := He.glo_ok X G (c.fact 3 (f := .glo "_law_cells") rfl)
  obtain ⟨fd__law_hand, F__law_hand⟩ := c.def_ 4 (d := d__law_hand) rfl
  have hm__law_hand := He.glo_ok X G (c.fact 4 (f := .glo "_law_hand") rfl)
  obtain ⟨fd__law_draw, F__law_draw⟩ := c.def_ 5 (d := d__law_draw) rfl
  have hm__law_draw := He.glo_ok X G (c.fact 5 (f := .glo "_law_draw") rfl)
  obtain ⟨fd__law_row, F__law_row⟩ := c.def_ 6 (d := d__law_row) rfl
  have hm__law_row := He.glo_ok X G (c.fact 6 (f := .glo "_law_row") rfl)
  obtain ⟨fd__law_bounds, F__law_bounds⟩ := c.def_ 7 (d := d__law_bounds) rfl
  have hm__law_bounds := He.glo_ok X G (c.fact 7 (f := .glo "_law_bounds") rfl)
  obtain ⟨fd__law_same, F__law_same⟩ := c.def_ 8 (d := d__law_same) rfl
  have hm__law_same := He.glo_ok X G (c.fact 8 (f := .glo "_law_same") rfl)
  obtain ⟨fd__law_first, F__law_first⟩ := c.def_ 9 (d := d__law_first) rfl
  have hm__law_first := He.glo_ok X G (c.fact 9 (f := .glo "_law_first") rfl)
  obtain ⟨fd__law_most, F__law_most⟩ := c.def_ 10 (d := d__law_most) rfl
  have hm__law_most := He.glo_ok X G (c.fact 10 (f := .glo "_law_most") rfl)
  obtain ⟨fd__law_right, F__law_right⟩ := c.def_ 11 (d := d__law_right) rfl
  have hm__law_right := He.glo_ok X G (c.fact 11 (f := .glo "_law_right") rfl)
  obtain ⟨fd__law_great, F__law_great⟩ := c.def_ 12 (d := d__law_great) rfl
  have hm__law_great := He.glo_ok X G (c.fact 12 (f := .glo "_law_great") rfl)
  obtain ⟨fd_law, F_law⟩ := c.def_ 13 (d := d_law) rfl
  have hm_law := He.glo_ok X G (c.fact 13 (f := .glo "law") rfl)
  have Z : Blt mg := ⟨He.free_ok X G (c.fact 14 (f := .free "abs") rfl), He.free_ok X G (c.fact 15 (f := .free "all") rfl), He.free_ok X G (c.fact 16 (f := .free "bool") rfl), He.free_ok X G (c.fact 17 (f := .free "dict") rfl), He.free_ok X G (c.fact 18 (f := .free "enumerate") rfl), He.free_ok X G (c.fact 19 (f := .free "int") rfl), He.free_ok X G (c.fact 20 (f := .free "isinstance") rfl), He.free_ok X G (c.fact 21 (f := .free "len") rfl), He.free_ok X G (c.fact 22 (f := .free "list") rfl), He.free_ok X G (c.fact 23 (f := .free "max") rfl), He.free_ok X G (c.fact 24 (f := .free "min") rfl), He.free_ok X G (c.fact 25 (f := .free "range") rfl), He.free_ok X G (c.fact 26 (f := .free "repr") rfl), He.free_ok X G (c.fact 27 (f := .free "set") rfl), He.free_ok X G (c.fact 28 (f := .free "sorted") rfl), He.free_ok X G (c.fact 29 (f := .free "str") rfl), He.free_ok X G (c.fact 30 (f := .free "sum") rfl), He.free_ok X G (c.fact 31 (f := .free "tuple") rfl), He.free_ok X G (c.fact 32 (f := .free "zip") rfl), He.free_ok X G (c.fact 33 (f := .free "ValueError") rfl)⟩
  have e := hfa.symm.trans hm_law
  cases e
  have b := FunD.bindsA (ps := ["script"]) F_law fun _ _ _ _ _ _ us hl => match us, hl with | [_], _ => rfl
  refine ⟨fd_law, fun s v => b s [v] rfl, fun base _ _ => ?_⟩
  have C_ends_of : Fn P w K mg base 1 "ends_of" ["row", "bound"] (sp_ends_of K) := ok_ends_of F_ends_of hm_ends_of Z 
  have C_most_pieces : Fn P w K mg base 2 "most_pieces" ["row", "bound"] (sp_most_pieces K) := ok_most_pieces F_most_pieces hm_most_pieces Z C_ends_of
  have C_first_cut : Fn P w K mg base 2 "first_cut" ["row", "bound"] (sp_first_cut K) := ok_first_cut F_first_cut hm_first_cut Z C_ends_of
  have C__law_cells : Fn P w K mg base 1 "_law_cells" ["script", "many"] (sp__law_cells K) := ok__law_cells F__law_cells hm__law_cells Z 
  have C__law_hand : Fn P w K mg base 1 "_law_hand" ["cell", "k"] (sp__law_hand K) := ok__law_hand F__law_hand hm__law_hand Z 
  have C__law_draw : Fn P w K mg base 1 "_law_draw" ["hand", "limit"] (sp__law_draw K) := ok__law_draw F__law_draw hm__law_draw Z 
  have C__law_row : Fn P w K mg base 2 "_law_row" ["hand", "long"] (sp__law_row K) := ok__law_row F__law_row hm__law_row Z C__law_draw
  have C__law_bounds : Fn P w K mg base 2 "_law_bounds" ["hand", "row"] (sp__law_bounds K) := ok__law_bounds F__law_bounds hm__law_bounds Z C__law_draw
  have C__law_same : Fn P w K mg base 1 "_law_same" ["found", "due"] (sp__law_same K) := ok__law_same F__law_same hm__law_same Z 
  have C__law_first : Fn P w K mg base 1 "_law_first" ["row", "bound", "most"] (sp__law_first K) := ok__law_first F__law_first hm__law_first Z 
  have C__law_most : Fn P w K mg base 1 "_law_most" ["row", "bound"] (sp__law_most K) := ok__law_most F__law_most hm__law_most Z 
  have C__law_right : Fn P w K mg base 3 "_law_right" ["row", "bound"] (sp__law_right K) := ok__law_right F__law_right hm__law_right Z C__law_same C_first_cut C_most_pieces C__law_first C__law_most
  have C__law_great : Fn P w K mg base 1 "_law_great" ["script"] (sp__law_great K) := ok__law_great F__law_great hm__law_great Z 
  exact ok_law F_law hm_law Z C_most_pieces C_first_cut C__law_cells C__law_bounds C__law_right C__law_row C__law_great C__law_hand
end PB
open PySem PySem.W PySem.Calls PyProof.Rows
theorem PySem.Challenge.cw_piecebounds_k10_most_pieces_holds : PySem.Challenge.rw_piecebounds_k10_most_pieces.Holds := by
  w_on; o_law
  refine HandSHeadRun.head_any (r := OpenLaw.row PySem.Challenge.rw_piecebounds_k10_most_pieces) (q := view (OpenLaw.row PySem.Challenge.rw_piecebounds_k10_most_pieces).prog [15]) (H := PB.hk_) (ob := PB.ob_) (M := 4000) (loose := PB.names_) (d := HandSHeadRun.topDef (OpenLaw.row PySem.Challenge.rw_piecebounds_k10_most_pieces).prog 15) (kwd := []) PB.ob_eq_
    (by kernel_rfl) (fun s => by kernel_rfl) PB.run_ (by kernel_rfl) (by kernel_rfl) (by kernel_rfl) (by rfl) (by first | assumption | decide +kernel) (by decide +kernel) ⟨rfl, rfl, rfl, rfl, rfl, by decide +kernel⟩ ?hw ?hc
  case hw => w_witness2
  case hc =>
    refine PB.walk_ofG (l := PySem.Challenge.rw_piecebounds_k10_most_pieces) (n := 63) (k := 4) (x := "script") rfl (by decide) (by kernel_rfl) ⟨rfl, by decide, by decide⟩ ?F
    intro w mg fa h Y G hmg0
    obtain ⟨K, KX, c⟩ := Y
    have hmg : mg ("law" : PySem.Str) = some (.ref fa) := by
      have e : (HandSHeadRun.topDef (OpenLaw.row PySem.Challenge.rw_piecebounds_k10_most_pieces).prog 15).name = ("law" : PySem.Str) := by kernel_rfl
      rw [← e]
      exact hmg0
    obtain ⟨fd, hb, hF⟩ := PB.facts_ (P := (PySem.Challenge.rw_piecebounds_k10_most_pieces).prog) (w := w) KX G hmg c
    exact ⟨K, fd, PB.sp_law K, KX, hb, fun H a ns hl hS => ⟨a, ns, rfl, hS, hl, fun _ => rfl⟩, hF⟩
#print axioms PySem.Challenge.cw_piecebounds_k10_most_pieces_holds
