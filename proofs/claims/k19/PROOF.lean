import PyProof.Rows.All
import Wide.All
import OpenK.AllK
import Wide.FinOn
import KE.KStateDown
import HandS.ForMost
import HandS.ForExc
import HandS.Wide
import HandS.SortInts
import HandS.IsInst
import HandS.Conv
import HandS.Zip
import HandS.Defaults
import HandS.HeadEnd
import HandS.Head0
import HandS.Head1
import HandS.Head2
import HandS.HeadHook1
import HandS.HeadHook2
import HandS.HeadHook3
import HandS.ListItems
import HandS.Codes
import HandS.Style
import HandS.Flow
import HandS.TryOnly
import KE.DatumOrd
import HandS.Strs
import HandS.SetFor
import PySem.Challenge.RW_piecebounds_k19_least_spreads_by_all_cut
set_option Elab.async false
set_option linter.all false
set_option maxRecDepth 100000
set_option maxHeartbeats 4000000
namespace PB
open PySem PySem.Spec PyProof.Rows L2

/-! ### defs whose calls happen with no repr under way -/
structure FnG (P : Program) (w : World) (K : PySem.W.Frag) (mg : Str → Option Value) (base : Heap)
    (k : Nat) (f : Addr) (fd : FuncData) (ps : List Str) (sp : Sp) : Prop where
  len : ∀ vs H Q E, sp vs H Q E → vs.length = ps.length
  run : ∀ (A : Around) (outer : List Env) (s : Shared) (H : Hp) (args : Args) (us : List Value)
    (vs : List V) (Q : VK) (E : XK), Room k A → A.guards = some [] →
    Env0 P w K mg base A outer s H → BindsTo s fd args (ps.zip us) → Vals vs us →
    sp vs H Q E → codeAny (model P w) A (.call (.ref f) args) (CR (L2.CX P w) outer P w H s Q E) s

theorem FnG.mono {P : Program} {w : World} {K : PySem.W.Frag} {mg : Str → Option Value} {base : Heap}
    {j k : Nat} {f : Addr} {fd : FuncData} {ps : List Str} {sp : Sp}
    (F : FnG P w K mg base j f fd ps sp) (h : j ≤ k) : FnG P w K mg base k f fd ps sp :=
  ⟨F.len, fun A o s H a us vs Q E hr => F.run A o s H a us vs Q E (hr.mono h)⟩

theorem FnG.of_ok {P : Program} {w : World} {K : PySem.W.Frag} {mg : Str → Option Value} {base : Heap}
    {k : Nat} {f : Addr} {fd : FuncData} {ps : List Str} {sp : Sp}
    (F : FnOk P w K mg base (L2.CX P w) k f fd ps sp) : FnG P w K mg base k f fd ps sp :=
  ⟨F.len, fun A o s H a us vs Q E hr _ => F.run A o s H a us vs Q E hr⟩

/-- from the def's body, as the layer has it, with the knowledge that nothing is being shown -/
theorem okG {P : Program} {w : World} {K : PySem.W.Frag} {mg : Str → Option Value} {base : Heap}
    {x qual : Str} {params : Arguments} {body : List Stmt} {scope : Scope} {dvs : List V}
    {kws : List (Str × V)} {f : Addr} {fd : FuncData} {N ps : List Str} {k : Nat} {sp : Sp}
    (F : FunD K x qual params body scope dvs kws f fd) (S : FnScope N ps scope)
    (len : ∀ vs H Q E, sp vs H Q E → vs.length = ps.length)
    (hb : ∀ (cdv : Value) (A : Around) (outer : List Env) (s : Shared) (H : Hp) (vs : List V) (Q : VK)
      (E : XK), Room k (A.deeper (envOfC qual scope s.heap.objs.size f cdv)) → A.guards = some [] →
      sp vs H Q E → ∃ t, PSs (cxOf (L2.CX P w) P w K mg base N qual scope f cdv A outer s H E) body t ∧
        t { nx := fun _ H' => Q .non H', rt := Q } (start N vs) H) :
    FnG P w K mg base (k + 1) f fd ps sp := by
  obtain ⟨oc, od, dV, kV, doc, pm, an, cd, ct, osl, rfl, lk, hcd, _, _⟩ := F.ex
  refine ⟨len, fun A outer s H args us vs Q E hr hgd e0 hbi r hsp => ?_⟩
  have hl := len _ _ _ _ hsp
  have KX : K.In s.heap := e0.mod.kin.keeps fun b o e =>
    (e0.bs b o e).1
  have lim : s.heap.NoLimit := e0.mod.nolimit.keeps fun b o e =>
    (e0.bs b o e).1
  have hkind : ∀ y ∈ ps.zip us, scope.names.lookup y.1 = some .local ∨ (scope.names.lookup y.1 = some .cell ∧
      ((cellsFrom (s.heap.objs.size + 1) scope.names []).lookup y.1).isSome = true) := fun ⟨n, v⟩ hy => by
    rcases S.par n (List.of_mem_zip hy).1 with q | q
    · exact .inl q
    · exact .inr ⟨q, PySem.W.cellsFrom_some _ _ _ (.inl q)⟩
  refine codeAny_call_function hr.depth (KX _ _ lk) rfl S.co S.gen rfl
    (PySem.W.codeRec_of KX hcd) (hbi _ _ _ _ ?_)
  refine wpAny_newFunctionEnv_cells S.kind hkind fun env he s1 x => ?_
  subst he
  refine ⟨lim.keeps x.toInCall.keep, codeAny_func ?_⟩
  obtain ⟨t, ht, hq⟩ := hb cd A outer s H vs Q E (hr.deeper _) hgd hsp
  have I : Inv (cxOf (L2.CX P w) P w K mg base N qual scope f cd A outer s H E) [] (start N vs) H s1 :=
    inv_start S hr.hd e0 hl r x
  refine wpAny_mono (ht.run [] s1 (start N vs) H _ I hq) (fun fl s' hs => ?_) (fun e s' hs => hs)
  have fin : ∀ {σ' : L2.St} {H' : Hp} {v : V} {u : Value},
      Inv (cxOf (L2.CX P w) P w K mg base N qual scope f cd A outer s H E) [] σ' H' s' → RelV v u → Q v H' →
      CE outer P w H s Q u s' := fun {σ' H' v u} J rv q =>
    ⟨v, H', J.os, J.bare, J.base, J.hok, rv, q⟩
  match fl, hs with
  | .ret u, hs =>
    obtain ⟨v, σ', H', J, rv, q⟩ := hs
    exact fin J rv q
  | .next, hs =>
    obtain ⟨σ', H', J, q⟩ := hs
    exact fin (v := V.non) (u := Value.none) J rfl q
  | .brk, hs =>
    obtain ⟨_, _, _, q⟩ := hs
    exact q.elim
  | .cont, hs =>
    obtain ⟨_, _, _, q⟩ := hs
    exact q.elim

/-- a def by its name -/
structure Fn (P : Program) (w : World) (K : PySem.W.Frag) (mg : Str → Option Value) (base : Heap)
    (k : Nat) (x : Str) (ps : List Str) (sp : Sp) : Prop where
  ex : ∃ (f : Addr) (fd : FuncData), mg x = some (.ref f) ∧ PySem.W.keepIn K (.ref f) = true ∧
    Binds K fd ps [] ∧ FnG P w K mg base k f fd ps sp

section
variable {X : Cx} {k : Nat} {f C : Addr} {fd : FuncData} {ps : List Str} {sp : Sp} {E : XK} {x : Str}
variable {p pos : Pos} {e : Expr} {es : List Expr} {t : TA}

theorem run_fnG {pins : List (Addr × Obj)} {σ : L2.St} {H : Hp} {s : Shared} {Q : VK} {us : List Value}
    {vs : List V} (F : FnG X.prog X.w X.K X.mg X.base k f fd ps sp) (hr : Room k X.A)
    (hgd : X.A.guards = some []) (hb : Binds X.K fd ps []) (hx : Passes (L2.CX X.prog X.w) X E)
    (I : Inv X pins σ H s) (r : Vals vs us) (h : sp vs H Q E) :
    wpAny (model X.prog X.w) X.A (call (.ref f) us) (EP X pins σ Q) X.xe s := by
  have hl : us.length = ps.length := by
    rw [← r.length]
    exact F.len _ _ _ _ h
  have hb2 := hb s us I.kIn (by rw [List.append_nil]; exact hl)
  rw [List.append_nil] at hb2
  refine wpAny_call (codeAny_mono (F.run X.A X.stack s H ⟨us, []⟩ us vs Q E hr hgd I.env0 hb2 r h)
    fun r s' hq => ?_)
  match r, hq with
  | .error e, hq => exact hx pins σ H s e s' I hq
  | .ok (.ret u), hq => exact I.after hq
  | .ok .next, hq => exact hq.elim
  | .ok .brk, hq => exact hq.elim
  | .ok .cont, hq => exact hq.elim

/-- f(e, ..) -/
theorem pe_fn (G : Fn X.prog X.w X.K X.mg X.base k x ps sp) (hr : Room k X.A)
    (hgd : X.A.guards = some []) (hg : Gl X x) (hx : Passes (L2.CX X.prog X.w) X E)
    (ha : PA X (e :: es) t) (hdb : (x == ("__debug__" : Str)) = false := by decide)
    (he : starEach (e :: es) X.env = (false, eval e X.env) :: starEach es X.env := by rfl)
    (hpl : (backTo pos (starEach es X.env)).any (·.1) = false := by rfl) :
    PE X (.Call (.Name x p) (e :: es) [] pos) (tCall sp [] E t) := by
  obtain ⟨f, fd, hm, hk, hb, F⟩ := G.ex
  refine ⟨fun pins s σ H Q I h => wpAny_Call_Name_kw (ld_glob I hg hm ?_ hdb)⟩
  refine PySem.W.callWith_K (h₀ := X.base) I.ok.mod.kin hk
    (thn (ha.run pos pins s σ H _ I h) fun us s1 ⟨vs, H1, I1, r, q⟩ => ⟨I1.kIn, ?_⟩) he hpl
  have q' : sp (vs ++ []) H1 Q E := q
  rw [List.append_nil] at q'
  exact run_fnG F hr hgd hb hx I1 r q'
end

/-! ### the law's own call, at the caller's place alone -/
theorem law_callG {P : Program} {w : World} {K : PySem.W.Frag} {mg mb : Str → Option Value} {k : Nat}
    {fa a : Addr} {fd : FuncData} {x : Str} {sp : Sp} {z : Shared} {vs : List Value} {ns : List Int}
    (KX : K.In z.heap) (hns : z.heap.Ns mainGlobals mg) (hb : z.heap.Ns builtinsNs mb)
    (hbb : ∀ x : Str, x ≠ "__name__" → mb x = bootBuiltins x) (hlim : z.heap.NoLimit) (hg : z.gens = #[])
    (ha : z.heap.get? a = some { cls := .type "list", data := .seq vs.toArray })
    (hi : IntsAre vs ns) (hl : ns.length ≤ sizeLine) (hr : Room k callerA)
    (F : ∀ base : Heap, K.In base → base.Ns mainGlobals mg → FnG P w K mg base k fa fd [x] sp)
    (hbind : ∀ (s : Shared) (u : Value), BindsTo s fd ⟨[u], []⟩ [(x, u)])
    (hsp : ∀ H : Hp, SqL K H a (ns.map V.int) →
      sp [.ref a] H (fun v _ => v = .bl true) fun _ _ _ => False) :
    codeAny (model P w) callerA (.call (.ref fa) ⟨[.ref a], []⟩)
      (fun r s' => r = .ok (.ret (.bool true)) ∧ OldK z.heap s'.heap ∧ s'.os = z.os ∧ AllBare s'.gens) z := by
  have rv := vals_ints hi
  have lenV := hi.length
  have core : ∀ H : Hp, Only H → SqL K H a (ns.map V.int) → HOk P w H z.heap →
      (∀ b, H b ≠ none → b = a) → (H a ≠ none → K.lookup a = none) →
      codeAny (model P w) callerA (.call (.ref fa) ⟨[.ref a], []⟩)
        (fun r s' => r = .ok (.ret (.bool true)) ∧ OldK z.heap s'.heap ∧ s'.os = z.os ∧ AllBare s'.gens) z := by
    intro H hO hS hok hA hK
    have noA : ∀ {b : Addr} {o : Obj} {es : Array DictEntry} {ep : Nat}, z.heap.get? b = some o →
        o.data = .dict es ep → H b = none := fun {b o es ep} e d => by
      cases q : H b with
      | none => rfl
      | some u =>
        obtain rfl : b = a := hA b (by simp [q])
        rw [ha] at e
        cases e
        cases (show Data.seq vs.toArray _ = Data.dict es ep from d)
    have nsK : ∀ {b : Addr} {m : Str → Option Value}, z.heap.Ns b m → (hidT z.heap H).Ns b m :=
      fun {b m} ⟨o, es, ep, e, d, r⟩ => ⟨o, es, ep, hidT_get e (noA e d), d, r⟩
    have hKb : K.In (hidT z.heap H) := fun b o e => hidT_get (KX b o e) (by
      cases q : H b with
      | none => rfl
      | some u =>
        obtain rfl : b = a := hA b (by simp [q])
        rw [hK (by simp [q])] at e
        cases e)
    have hM : Mod K mg (hidT z.heap H) :=
      ⟨hKb, nsK hns, ⟨mb, nsK hb, hbb⟩, let ⟨mc, h1, h2⟩ := hlim; ⟨mc, nsK h1, h2⟩⟩
    have e0 : Env0 P w K mg (hidT z.heap H) callerA [] z H :=
      ⟨rfl, hM, fun b o e => of_hidT e, Nat.le_of_eq (hidT_size _ _), trivial,
        fun b hb => absurd (show b ∈ ([] : List Addr) from hb) (by simp), hok, .of_eq hg⟩
    refine codeAny_mono ((F _ hKb (nsK hns)).run callerA [] z H ⟨[.ref a], []⟩ [.ref a] [.ref a] _ _ hr rfl e0
      (hbind z (.ref a)) (.cons rfl .nil) (hsp H hS)) fun r s' h => ?_
    match r, h with
    | .error e, h =>
      obtain ⟨_, _, _, _, _, _, _, _, _, _, _, _, q⟩ := h
      exact q.elim
    | .ok .next, h => exact h.elim
    | .ok .brk, h => exact h.elim
    | .ok .cont, h => exact h.elim
    | .ok (.ret u), h =>
      obtain ⟨v, H', os, bare, un, hok', r', q⟩ := h
      obtain rfl : v = .bl true := q
      obtain rfl : u = Value.bool true := r'
      refine ⟨rfl, OldK.of_keep fun b o e => ?_, os, bare⟩
      cases q : H b with
      | none =>
        exact un.keep b o e q (fun y => absurd (show b ∈ ([] : List Addr) from y) (by simp)) (by simp)
      | some u =>
        rcases hO b with y | ⟨ob, xs, y⟩
        · rw [q] at y
          cases y
        · obtain ⟨e1, _⟩ := hok b _ y
          obtain ⟨e2, _⟩ := hok' b _ (un.frzs b ob _ y)
          rw [e] at e1
          cases e1
          exact e2
  cases hk : K.lookup a with
  | some o =>
    have e := KX a o hk
    rw [ha] at e
    cases e
    refine core (fun _ => none) (fun _ => .inl rfl) (.inr ⟨_, vs.toArray, _, hk, rfl, rfl, rfl, ?_, by simpa using rv⟩)
      (fun b u q => by cases (show (none : Option HO) = some u from q)) (fun b q => absurd rfl q) fun q => absurd rfl q
    rw [List.size_toArray, lenV]
    exact hl
  | none =>
    let oS : Obj := { cls := .type "list", data := .seq vs.toArray }
    let HS : Hp := fun b => if b = a then some (.frz oS (.lst (ns.map V.int))) else none
    have hS : HS a = some (.frz oS (.lst (ns.map V.int))) := if_pos rfl
    have hN : ∀ b, b ≠ a → HS b = none := fun b hb => if_neg hb
    refine core HS (fun b => ?_) (.inl (.inr ⟨oS, hS⟩)) (fun b u q => ?_) (fun b q => ?_) fun _ => hk
    · by_cases hb : b = a
      · exact .inr ⟨_, _, by rw [hb]; exact hS⟩
      · exact .inl (hN b hb)
    · by_cases hb : b = a
      · subst hb
        rw [hS] at q
        cases q
        exact ⟨ha, by rw [List.length_map]; exact hl, vs, _, rv, ha⟩
      · rw [hN b hb] at q
        cases q
    · by_cases hb : b = a
      · exact hb
      · exact absurd (hN b hb) q

/-- a law's end over a head by facts -/
theorem walk_ofG {l : PySem.W.OpenLaw} {n k : Nat} {q : Program} {loose : List Str}
    {XP : (Str → Option Value) → Heap → Prop} {YP : World → Heap → Prop} {d : DefRec} {x : Str}
    (hn : l.most = some n) (hn2 : n ≤ sizeLine) (hdf : d.params.defaults = []) (hr : Room k callerA)
    (F : ∀ (w : World) (mg : Str → Option Value) (fa : Addr) (h : Heap), YP w h → h.Ns mainGlobals mg →
      mg d.name = some (.ref fa) → ∃ (K : PySem.W.Frag) (fd : FuncData) (sp : Sp), K.In h ∧
        (∀ (s : Shared) (u : Value), BindsTo s fd ⟨[u], []⟩ [(x, u)]) ∧
        (∀ (H : Hp) (a : Addr) (ns : List Int), ns.length ≤ n → SqL K H a (ns.map V.int) →
          sp [.ref a] H (fun v _ => v = .bl true) fun _ _ _ => False) ∧
        ∀ base : Heap, K.In base → base.Ns mainGlobals mg → FnG l.prog w K mg base k fa fd [x] sp) :
    PySem.W.WalkO q loose XP YP l.row.toRowW d [] (fun f vs => PySem.call f vs) := by
  refine Att.attach_call hn hdf fun w s₀ z mg mb fa o pm cd doc a vs ns G Y ho hd hcd hmg hobj hints hlen hg => ?_
  obtain ⟨K, fd, sp, KX, hb, hsp, hF⟩ := F w mg fa _ Y G.T.g hmg
  exact law_callG KX G.T.g G.T.b G.T.builtins G.T.nolimit hg hobj hints (Nat.le_trans hlen hn2) hr hF hb
    (fun H hS => hsp H a ns hlen hS)

/-! ### repr of data -/
section
variable {X : Cx}
def rRepr (K : PySem.W.Frag) : List V → Hp → VK → Prop := fun xs H Q => ∃ (x : V) (d : PyData),
  xs = [x] ∧ Dp K H x d ∧ d.showable = true ∧ d.hasDict = false ∧ d.depth ≤ 60 ∧
  d.shown.length ≤ sizeLine ∧ Q (.str d.shown) H
theorem call_reprD (hgd : X.A.guards = some []) (hu : X.A.units + 64 < cLine) :
    CallR X (.builtin "repr") (rRepr X.K) := by
  intro pins s σ H xs us Q I r h
  obtain ⟨x, d, rfl, hd, hs, hn, hdp, hz, q⟩ := h
  obtain ⟨u, rfl, rx⟩ := vals1 r
  have key : ∀ a, x = .ref a → wpAny (model X.prog X.w) X.A (call (.builtin "repr") [u]) (EP X pins σ Q) X.xe s := fun a ea => by
    subst ea
    have e : u = .ref a := rx
    subst e
    obtain ⟨as, rd⟩ := Dp.reads I d _ _ hd rx
    exact repr_of_reads' rd hs (fun y => by rw [hn] at y; cases y) hgd (by omega) (fun b o e => e)
      (fun h' u tk hk => ⟨.str d.shown, H, I.kept hk, ⟨_, rfl⟩, q⟩) hz
  cases hd with
  | non =>
    cases rx
    exact PySem.P.repr_of_none ⟨.str _, H, I.tok _, ⟨_, rfl⟩, q⟩
  | bl b =>
    cases rx
    exact PySem.P.repr_of_bool ⟨.str _, H, I.tok _, ⟨_, rfl⟩, by
      rw [PyData.shown] at q
      cases b <;> exact q⟩
  | int i =>
    obtain ⟨t, rfl⟩ := rx
    have hi : i.natAbs.log2 < 1920 := by simpa [PyData.showable] using hs
    exact PySem.P.repr_of_int hi ⟨.str _, H, I.tok _, ⟨_, rfl⟩, q⟩
  | str y =>
    obtain ⟨t, rfl⟩ := rx
    exact PySem.P.repr_of_str ⟨.str _, H, I.tok _, ⟨_, rfl⟩, q⟩ hz
  | lst h1 h2 => exact key _ rfl
  | tup h1 h2 => exact key _ rfl
end
end PB

namespace PB
open PySem PySem.Spec PyProof.Rows L2

/-! ### list(enumerate(xs)): the tuples given out are all held -/
/-- an enumerate whose last tuple stands somewhere -/
abbrev EnHeld (h : Heap) (e it : Addr) (i : Int) (item : Value) (a : Addr) (f : Bool) : Prop :=
  h.get? e = some (Obj.mk (.type "enumerate") none
    (.fields #[rawInt a, .bool f, .ref it, rawInt i, .none, item]) #[])

def EnSt (h : Heap) (e it l S : Addr) (i : Nat) : Prop := h.IsListIter it l i ∧
  ((∃ old, IsEnum h e it i old) ∨ ∃ item a f oa, EnHeld h e it i item a f ∧ h.get? a = some oa ∧
    a ≠ e ∧ a ≠ it ∧ a ≠ S)
theorem EnSt.keep {h h' : Heap} {e it l S : Addr} {i : Nat} (x : EnSt h e it l S i)
    (hk : ∀ b o, b ≠ S → h.get? b = some o → h'.get? b = some o) (h1 : e ≠ S) (h2 : it ≠ S) :
    EnSt h' e it l S i := by
  obtain ⟨⟨o, ho, r⟩, x⟩ := x
  refine ⟨⟨o, hk _ _ h2 ho, r⟩, ?_⟩
  rcases x with ⟨old, y⟩ | ⟨item, a, f, oa, y, z, n1, n2, n3⟩
  · exact .inl ⟨old, hk _ _ h1 y⟩
  · exact .inr ⟨item, a, f, oa, hk _ _ h1 y, hk _ _ n3 z, n1, n2, n3⟩

section
variable {prog : Program} {w : World} {A : Around} {E : Value → Shared → Prop} {s : Shared}
theorem en_alive {a : Addr} {o : Obj} {Q : Option Obj → Shared → Prop} (ho : s.heap.get? a = some o)
    (h : Q (some o) s) : wpAny (model prog w) A (loadIfAlive a) Q E s := by
  have h' : Q (s.heap.get? a) s := by
    rw [ho]
    exact h
  exact fun _ _ _ => h'

theorem en_next_held {e it l a : Addr} {f : Bool} {oa : Obj} {i : Nat} {items : Array Value}
    {x item : Value} {Q : Value → Shared → Prop} (he : EnHeld s.heap e it i item a f)
    (ha : s.heap.get? a = some oa) (hae : a ≠ e) (hai : a ≠ it)
    (hit : s.heap.IsListIter it l i) (hl : s.heap.IsList l items) (hx : items[i]? = some x) (hne : e ≠ it)
    (hQ : ∀ h', EnHeld h' e it ((i : Int) + 1) item a true → h'.IsListIter it l (i + 1) →
      h'.get? s.heap.objs.size = some { cls := .type "tuple", data := .seq #[.int i s.toks, x] } →
      h'.objs.size = s.heap.objs.size + 1 →
      (∀ b o, b ≠ e → b ≠ it → s.heap.get? b = some o → h'.get? b = some o) →
      Q (.ref s.heap.objs.size) { s with heap := h', toks := s.toks + 1 }) :
    wpAny (model prog w) A (Builtin.«enumerate.__next__» ⟨[.ref e], []⟩)
      (fun fin s' => ∃ v, fin = .done (.ret v) ∧ Q v s') E s := by
  obtain ⟨hp, g, d, tk, os⟩ := s
  show wpAny _ _ (field (.ref e) 2 >>= _) _ _ _
  refine wpAny_bind (wpAny_field he rfl (x := .ref it) rfl ?_)
  refine wpAny_bind (wpAny_nextOf_list_item hit hl hx fun h₁ hit₁ hs₁ => ?_)
  replace hs₁ : Heap.SameBut it hp h₁ := hs₁
  have he₁ : EnHeld h₁ e it i item a f := (hs₁.2 e hne).trans he
  show wpAny _ _ (field (.ref e) 3 >>= _) _ _ ⟨h₁, g, d, tk, os⟩
  refine wpAny_bind (wpAny_field he₁ rfl (x := rawInt i) rfl ?_)
  show wpAny _ _ (field (.ref e) 4 >>= _) _ _ ⟨h₁, g, d, tk, os⟩
  refine wpAny_bind (wpAny_field he₁ rfl (x := .none) rfl ?_)
  show wpAny _ _ (mkInt i >>= _) _ _ ⟨h₁, g, d, tk, os⟩
  refine wpAny_bind (wpAny_mkInt ?_)
  show wpAny _ _ (setField (.ref e) 3 (rawInt ((i : Int) + 1)) >>= _) _ _
    ⟨h₁, g, d, tk + 1, os⟩
  refine wpAny_bind (wpAny_setField_rec he₁ (by simp) fun h₂ he₂ hs₂ => ?_)
  replace hs₂ : Heap.SameBut e h₁ h₂ := hs₂
  replace he₂ : EnHeld h₂ e it ((i : Int) + 1) item a f := he₂
  show wpAny _ _ (setField (.ref e) 4 .none >>= _) _ _
    ⟨h₂, g, d, tk + 1, os⟩
  refine wpAny_bind (wpAny_setField_rec he₂ (by simp) fun h₃ he₃ hs₃ => ?_)
  replace hs₃ : Heap.SameBut e h₂ h₃ := hs₃
  replace he₃ : EnHeld h₃ e it ((i : Int) + 1) item a f := he₃
  show wpAny _ _ (newTuple [.int i tk, x] >>= _) _ _ ⟨h₃, g, d, tk + 1, os⟩
  refine wpAny_bind (wpAny_newTuple ?_)
  have he₄ : EnHeld (h₃.push { cls := .type "tuple", data := .seq #[.int i tk, x] }) e it
    ((i : Int) + 1) item a f := Heap.get?_push_of_some _ he₃
  generalize hh₄ : h₃.push { cls := .type "tuple", data := .seq #[.int i tk, x] } = h₄ at he₄
  have hsz : h₃.objs.size = hp.objs.size := by
    rw [hs₃.1, hs₂.1, hs₁.1]
  have hel : e < hp.objs.size := Heap.lt_size he
  have ht₄ : h₄.get? hp.objs.size = some { cls := .type "tuple", data := .seq #[.int i tk, x] } := by
    rw [← hh₄, ← hsz]
    exact Heap.get?_push_size _ rfl
  have hz₄ : h₄.objs.size = hp.objs.size + 1 := by
    rw [← hh₄, Heap.size_push, hsz]
  have hk₄ : ∀ b o, b ≠ e → b ≠ it → hp.get? b = some o → h₄.get? b = some o := fun b o hbe hbi hb => by
    rw [← hh₄]
    exact Heap.get?_push_of_some _ (hs₃.extBut b o hbe (hs₂.extBut b o hbe (hs₁.extBut b o hbi hb)))
  have hit₄ : h₄.IsListIter it l (i + 1) := by
    rw [← hh₄]
    obtain ⟨o, ho, r⟩ := (hit₁.extBut hs₂.extBut (Ne.symm hne)).extBut hs₃.extBut (Ne.symm hne)
    exact ⟨o, Heap.get?_push_of_some _ ho, r⟩
  show wpAny _ _ (Builtin.SmallTypes.ownedTupleIsFree (.ref e) >>= _) _ _
    ⟨h₄, g, d, tk + 1, os⟩
  rw [hsz]
  have ha₄ : h₄.get? a = some oa := hk₄ a oa hae hai ha
  clear hh₄ he₃ hs₃ he₂ hs₂ he₁ hs₁ hit₁ hsz h₃ h₂ h₁
  refine wpAny_bind ?_
  unfold Builtin.SmallTypes.ownedTupleIsFree
  refine wpAny_bind (wpAny_field he₄ rfl (x := rawInt a) rfl ?_)
  show wpAny _ _ (loadIfAlive ((a : Int).toNat) >>= _) _ _ _
  rw [Int.toNat_natCast]
  refine wpAny_bind (en_alive ha₄ ?_)
  simp only [Option.isNone_some, Bool.false_eq_true, if_false]
  refine wpAny_bind (wpAny_field he₄ rfl (x := .bool f) rfl ?_)
  have fin : ∀ h₅ : Heap, EnHeld h₅ e it ((i : Int) + 1) item a true → Heap.SameBut e h₄ h₅ →
      Q (.ref hp.objs.size) ⟨h₅, g, d, tk + 1, os⟩ := fun h₅ he₅ hs₅ => by
    refine hQ h₅ he₅ (hit₄.extBut hs₅.extBut (Ne.symm hne)) (hs₅.extBut _ _ (Nat.ne_of_gt hel) ht₄) ?_ ?_
    · show h₅.objs.size = hp.objs.size + 1
      rw [hs₅.1, hz₄]
    · exact fun b o hb hb2 e => hs₅.extBut b o hb (hk₄ b o hb hb2 e)
  cases f with
  | true =>
    rw [if_neg (show ¬ ((Value.bool true != Value.bool true) = true) from Bool.false_ne_true)]
    refine wpAny_pure ?_
    simp only [Bool.false_eq_true, if_false]
    exact wpAny_pure ⟨_, rfl, fin h₄ he₄ (Heap.SameBut.refl _ _)⟩
  | false =>
    rw [if_pos (show (Value.bool false != Value.bool true) = true from rfl)]
    refine wpAny_bind (wpAny_setField_rec he₄ (by simp) fun h₅ he₅ hs₅ => ?_)
    replace hs₅ : Heap.SameBut e h₄ h₅ := hs₅
    replace he₅ : EnHeld h₅ e it ((i : Int) + 1) item a true := he₅
    refine wpAny_pure ?_
    simp only [Bool.false_eq_true, if_false]
    exact wpAny_pure ⟨_, rfl, fin h₅ he₅ hs₅⟩

theorem en_pyNext_held {e it l a : Addr} {f : Bool} {oa : Obj} {i : Nat} {items : Array Value}
    {x item : Value} {Q : Option Value → Shared → Prop} (he : EnHeld s.heap e it i item a f)
    (ha : s.heap.get? a = some oa) (hae : a ≠ e) (hai : a ≠ it)
    (hit : s.heap.IsListIter it l i) (hl : s.heap.IsList l items) (hx : items[i]? = some x) (hne : e ≠ it)
    (hQ : ∀ h', EnHeld h' e it ((i : Int) + 1) item a true → h'.IsListIter it l (i + 1) →
      h'.get? s.heap.objs.size = some { cls := .type "tuple", data := .seq #[.int i s.toks, x] } →
      h'.objs.size = s.heap.objs.size + 1 →
      (∀ b o, b ≠ e → b ≠ it → s.heap.get? b = some o → h'.get? b = some o) →
      Q (some (.ref s.heap.objs.size)) { s with heap := h', toks := s.toks + 1 }) :
    wpAny (model prog w) A (pyNext (.ref e)) Q E s := by
  have hT : s.TypeIs (.ref e) "enumerate" := ⟨_, he, rfl⟩
  unfold pyNext
  refine wpAny_bind (wpAny_attempt (wpAny_callSpecial?_slot (name := Str.ofString "__next__") hT F.slot_enumerate_next
    (wpAny_call_entry F.slot_enumerate_next hT F.entry_enumerate_next ?_ (F.args_enumerate_next_1 _))))
  refine en_next_held he ha hae hai hit hl hx hne fun h' a1 a2 a3 a4 a5 => ?_
  exact wpAny_pure (hQ h' a1 a2 a3 a4 a5)

theorem en_pyNext_held_end {e it l a : Addr} {f : Bool} {i : Nat} {items : Array Value} {item : Value}
    {Q : Option Value → Shared → Prop} (hh : A.handled = none) (he : EnHeld s.heap e it i item a f)
    (hit : s.heap.IsListIter it l i) (hl : s.heap.IsList l items) (hx : items[i]? = none)
    (hQ : ∀ h', Heap.ExtBut it s.heap h' → Q none { s with heap := h' }) :
    wpAny (model prog w) A (pyNext (.ref e)) Q E s := by
  have hT : s.TypeIs (.ref e) "enumerate" := ⟨_, he, rfl⟩
  unfold pyNext
  refine wpAny_bind (wpAny_attempt (wpAny_callSpecial?_slot (name := Str.ofString "__next__") hT F.slot_enumerate_next
    (wpAny_call_entry F.slot_enumerate_next hT F.entry_enumerate_next ?_ (F.args_enumerate_next_1 _))))
  show wpAny _ _ (field (.ref e) 2 >>= _) _ _ _
  refine wpAny_bind (wpAny_field he rfl (x := .ref it) rfl ?_)
  refine wpAny_bind (wpAny_nextOf_list_end hh hit hl hx fun h' x he' hx' => ?_)
  refine wpAny_bind (wpAny_isInstance (T := "StopIteration") (b := true) hx' isSubtype_stop ?_)
  exact wpAny_pure (hQ h' he')
end

/-! ### the items as pairs of their place and themselves -/
def enV {α : Type} : Nat → List α → List (Key × α)
  | _, [] => []
  | i, x :: xs => (Sum.inl (i : Int), x) :: enV (i + 1) xs
theorem enV_len {α : Type} : ∀ (xs : List α) (i : Nat), (enV i xs).length = xs.length
  | [], _ => rfl
  | _ :: xs, i => congrArg Nat.succ (enV_len xs (i + 1))
theorem enV_get {α : Type} : ∀ (xs : List α) (i j : Nat), (enV i xs)[j]? = xs[j]?.map fun x => (Sum.inl ((i + j : Nat) : Int), x)
  | [], _, _ => rfl
  | x :: xs, i, 0 => rfl
  | x :: xs, i, j + 1 => by
    show (enV (i + 1) xs)[j]? = _
    rw [enV_get xs (i + 1) j, show i + 1 + j = i + (j + 1) by omega]
    rfl
theorem enV_kv : ∀ (xs : List V) (us : List Value) (i : Nat), Vals xs us → KV (enV i xs) (enV i us)
  | _, _, _, .nil => .nil
  | _, _, i, .cons r t => .cons ⟨rfl, r⟩ (enV_kv _ _ (i + 1) t)

section
variable {prog : Program} {w : World} {A : Around} {s : Shared} {R : Result → Shared → Prop} {items : Array Value}
abbrev EnG (prog : Program) (w : World) (items : Array Value) (lo : Addr) (h : Heap) (as : List Addr) : Prop :=
  PySem.W.KdxG (mixKind prog w) (enV 0 items.toList) lo h as

theorem en_loop {S I it l : Addr} (hh : A.handled = none) (hIS : I < S) (hSit : it ≠ S) (hlS : l ≠ S) (hlI : l ≠ I)
    (hlit : l ≠ it) (hIit : I ≠ it) (hitS : it < S) (hn : items.size ≤ sizeLine) (res : Value) {h₁ : Heap}
    (hR : ∀ h' tk acc c as, (∀ b o, b ≠ S → b ≠ I → b ≠ it → h₁.get? b = some o → h'.get? b = some o) →
      h'.get? S = some { cls := .type "list", dict := none, data := .seq acc c, slots := #[] } →
      as.length = items.size → EnG prog w items S h' as → acc.toList = as.map Value.ref →
      R (.ok (.ret res)) { s with heap := h', toks := tk }) :
    ∀ (k i : Nat) (h : Heap) (tk c : Nat) (acc : Array Value) (as : List Addr), items.size - i = k →
      i ≤ items.size → EnSt h I it l S i → h.IsList l items →
      (∀ b o, b ≠ S → b ≠ I → b ≠ it → h₁.get? b = some o → h.get? b = some o) →
      h.get? S = some { cls := .type "list", dict := none, data := .seq acc c, slots := #[] } →
      acc.toList = as.map Value.ref → as.length = i → EnG prog w items S h as →
      codeAny (model prog w) A (.builtin "list.extend.loop" ⟨[.ref S, .ref I, res], []⟩) R
        { s with heap := h, toks := tk } := by
  have hne : S ≠ I := Nat.ne_of_gt hIS
  intro k
  induction k with
  | zero =>
    intro i h tk c acc as hk hi hst hl hkeep hS hacc hal hG
    have hin : i = items.size := by omega
    refine codeAny_builtin PySem.F.entry_extend_loop ?_
    rw [Around.under_plainId PySem.F.plain_extend_loop _]
    show wpAny _ A.in1 (pyNext (.ref I) >>= _) _ _ _
    have hx : items[i]? = none := Array.getElem?_eq_none (by omega)
    have fin : ∀ h' : Heap, Heap.ExtBut it h h' → R (.ok (.ret res)) { s with heap := h', toks := tk } := fun h' he => by
      refine hR h' tk acc c as (fun b o h1 h2 h3 e => he b o h3 (hkeep b o h1 h2 h3 e)) (he S _ (Ne.symm hSit) hS) (by omega)
        ⟨hG.rise, hG.above, fun j a hj => ?_⟩ hacc
      obtain ⟨key, kk, x, e1, e2, e3⟩ := hG.pairs j a hj
      refine ⟨key, kk, x, e1, e2, he a _ ?_ e3⟩
      have := hG.above a (List.mem_of_getElem? hj)
      exact Nat.ne_of_gt (Nat.lt_trans hitS this)
    rcases hst.2 with ⟨old, he⟩ | ⟨item, a, f, oa, he, ha, n1, n2, n3⟩
    · refine wpAny_bind (wpAny_pyNext_enum_end (s := { s with heap := h, toks := tk }) (A := A.in1) hh he hst.1 hl hx fun h' e => ?_)
      exact wpAny_pure (fin h' e)
    · refine wpAny_bind (en_pyNext_held_end (s := { s with heap := h, toks := tk }) (A := A.in1) hh he hst.1 hl hx fun h' e => ?_)
      exact wpAny_pure (fin h' e)
  | succ k ih =>
    intro i h tk c acc as hk hi hst hl hkeep hS hacc hal hG
    have hlt : i < items.size := by omega
    have hx : items[i]? = some items[i] := Array.getElem?_eq_getElem hlt
    generalize items[i] = x at hx
    have hsz : acc.size = i := by rw [← Array.length_toList, hacc, List.length_map, hal]
    have hSl : S < h.objs.size := Heap.lt_size hS
    refine codeAny_builtin PySem.F.entry_extend_loop ?_
    rw [Around.under_plainId PySem.F.plain_extend_loop _]
    show wpAny _ A.in1 (pyNext (.ref I) >>= _) _ _ _
    have fin : ∀ h' : Heap, EnSt h' I it l S (i + 1) →
        h'.get? h.objs.size = some { cls := .type "tuple", data := .seq #[.int i tk, x] } →
        h'.objs.size = h.objs.size + 1 → (∀ b o, b ≠ I → b ≠ it → h.get? b = some o → h'.get? b = some o) →
        wpAny (model prog w) A.in1 (updateSeq S (·.push (Value.ref h.objs.size)) >>= fun _ =>
          again (.builtin "list.extend.loop" ⟨[.ref S, .ref I, res], []⟩))
          (fun fin s' => match fin with | .done f => R (.ok f) s' | .again c' => c'.quiet = true ∧ codeAny (model prog w) A c' R s')
          (fun e s' => R (.error e) s') { s with heap := h', toks := tk + 1 } := fun h' hst' ht hz hkp => by
      have hS' := hkp S _ hne (Ne.symm hSit) hS
      have up : ∀ b o, b ≠ S → h'.get? b = some o → (h'.update S (Obj.mapSeq (·.push (Value.ref h.objs.size)))).get? b = some o :=
        fun b o hb e => (Heap.get?_update_other _ _ (Ne.symm hb)).trans e
      have hl' : h'.IsList l items := hl.at fun o e => hkp l o hlI hlit e
      refine wpAny_bind (wpAny_updateSeq hS' rfl (wpAny_pure ⟨plainId_quiet PySem.F.plain_extend_loop _,
        ih (i + 1) _ (tk + 1) _ (acc.push (Value.ref h.objs.size)) (as ++ [h.objs.size]) (by omega) hlt
          (hst'.keep up (Ne.symm hne) hSit) (hl'.at fun o e => up l o hlS e)
          (fun b o h1 h2 h3 e => up b o h1 (hkp b o h2 h3 (hkeep b o h1 h2 h3 e))) (Heap.get?_update_self _ hS' rfl)
          (by rw [Array.toList_push, hacc, List.map_append]; rfl) (by rw [List.length_append, hal]; rfl) ⟨?_, ?_, ?_⟩⟩) ?_)
      · refine List.pairwise_append.mpr ⟨hG.rise, List.pairwise_singleton _ _, fun a ha b hb => ?_⟩
        rw [List.mem_singleton.mp hb]
        exact hG.there ha
      · intro a ha
        rcases List.mem_append.mp ha with ha | ha
        · exact hG.above a ha
        · rw [List.mem_singleton.mp ha]
          exact hSl
      · intro j b hj
        rcases Nat.lt_trichotomy j as.length with h1 | h1 | h1
        · rw [List.getElem?_append_left h1] at hj
          obtain ⟨key', k', x', e1, e2, e3⟩ := hG.pairs j b hj
          have hb := hG.above b (List.mem_of_getElem? hj)
          exact ⟨key', k', x', e1, e2, up b _ (Nat.ne_of_gt hb) (hkp b _ (Nat.ne_of_gt (Nat.lt_trans hIS hb))
            (Nat.ne_of_gt (Nat.lt_trans hitS hb)) e3)⟩
        · subst h1
          have hb : h.objs.size = b := by simpa using hj
          subst hb
          refine ⟨.int (i : Int) tk, Sum.inl (i : Int), x, ?_, mixKind_int prog w _ _, up _ _ (Nat.ne_of_gt hSl) ht⟩
          rw [enV_get, Array.getElem?_toList, hal, hx, Nat.zero_add]
          rfl
        · have hnone : (as ++ [h.objs.size])[j]? = none := List.getElem?_eq_none (by rw [List.length_append, List.length_singleton]; omega)
          rw [hnone] at hj
          cases hj
      · rw [hsz]
        omega
    rcases hst.2 with ⟨old, he⟩ | ⟨item, a, f, oa, he, ha, n1, n2, n3⟩
    · refine wpAny_bind (wpAny_pyNext_enum_item (s := { s with heap := h, toks := tk }) (A := A.in1) he hst.1 hl hx hIit fun h' g1 g2 g3 g4 g5 => ?_)
      refine fin h' ⟨g2, .inr ⟨x, h.objs.size, false, _, g1, g3, Nat.ne_of_gt (Heap.lt_size he), ?_, Nat.ne_of_gt hSl⟩⟩ g3 g4 g5
      obtain ⟨o, ho, _⟩ := hst.1
      exact Nat.ne_of_gt (Heap.lt_size ho)
    · refine wpAny_bind (en_pyNext_held (s := { s with heap := h, toks := tk }) (A := A.in1) he ha n1 n2 hst.1 hl hx hIit fun h' g1 g2 g3 g4 g5 => ?_)
      exact fin h' ⟨g2, .inr ⟨item, a, true, oa, g1, g5 a _ n1 n2 ha, n1, n2, n3⟩⟩ g3 g4 g5
end
end PB

namespace PB
open PySem PySem.Spec PyProof.Rows L2
theorem en_no_len : typeLookup (.type "enumerate") "__len__" = pure none := by
  rw [typeLookup_type, builtinLookup_eq_fast]
  kernel_rfl
theorem en_no_hint : typeLookup (.type "enumerate") "__length_hint__" = pure none := by
  rw [typeLookup_type, builtinLookup_eq_fast]
  kernel_rfl
section
variable {prog : Program} {w : World} {A : Around} {s : Shared} {items : Array Value}

theorem en_extend {R : Result → Shared → Prop} {I it l : Addr} (hh : A.handled = none)
    (he : IsEnum s.heap I it 0 .none) (hit : s.heap.IsListIter it l 0) (hl : s.heap.IsList l items)
    (S : Addr) (hIS : I < S) (hSit : it ≠ S) (hlS : l ≠ S) (hlI : l ≠ I) (hlit : l ≠ it) (hIit : I ≠ it)
    (hitS : it < S) (hn : items.size ≤ sizeLine) (res : Value) (c₀ : Nat)
    (hS : s.heap.get? S = some { cls := .type "list", data := .seq #[] c₀ })
    (hR : ∀ h' tk acc c as, (∀ b o, b ≠ S → b ≠ I → b ≠ it → s.heap.get? b = some o → h'.get? b = some o) →
      h'.get? S = some { cls := .type "list", dict := none, data := .seq acc c, slots := #[] } →
      as.length = items.size → EnG prog w items S h' as → acc.toList = as.map Value.ref →
      R (.ok (.ret res)) { s with heap := h', toks := tk }) :
    wpAny (model prog w) A.in1 (Builtin.List.listExtendWith (.ref S) (.ref I) res)
      (fun fin s' => match fin with | .done f => R (.ok f) s' | .again c' => c'.quiet = true ∧ codeAny (model prog w) A c' R s')
      (fun e s' => R (.error e) s') s := by
  have hSne : S ≠ I := Nat.ne_of_gt hIS
  have hT : s.TypeIs (.ref I) "enumerate" := ⟨_, he, rfl⟩
  unfold Builtin.List.listExtendWith
  refine wpAny_bind (wpAny_typeOf hT ?_)
  have h1 : Builtin.List.listSameRef (.ref S) (.ref I) = false := by simp [Builtin.List.listSameRef, hSne]
  have h2 : (Value.type "enumerate" == Value.type "list") = false := by decide
  have h3 : (Value.type "enumerate" == Value.type "tuple") = false := by decide
  simp only [h1, h2, h3, Bool.or_false, Bool.false_eq_true, if_false]
  refine wpAny_bind (wpAny_pyIter_enum he ?_)
  refine wpAny_bind (wpAny_holding ?_)
  unfold Builtin.List.listLengthHint
  refine wpAny_bind (wpAny_specialOf hT en_no_len ?_)
  show wpAny _ A.in1 (specialOf (Value.ref I) (Str.ofString "__length_hint__") >>= _) _ _ _
  refine wpAny_bind (wpAny_specialOf hT en_no_hint ?_)
  refine wpAny_pure ?_
  show wpAny _ A.in1 (rule "list.extend.makes-room" >>= fun _ =>
    Builtin.List.listTouch (.ref S) >>= fun _ =>
    again (.builtin "list.extend.loop" ⟨[.ref S, .ref I, res], []⟩)) _ _ _
  refine wpAny_bind (wpAny_rule ?_)
  refine wpAny_bind ?_
  show wpAny _ A.in1 (updateSeq S (·.push .none) >>= fun _ => updateSeq S (·.pop)) _ _ _
  refine wpAny_bind (wpAny_updateSeq hS rfl ?_)
  have hS₂ := Heap.get?_update_self (Obj.mapSeq (·.push Value.none)) hS rfl
  refine wpAny_updateSeq (hz := by seq_fits) hS₂ rfl ?_
  have hS₃ := Heap.get?_update_self (Obj.mapSeq (·.pop)) hS₂ rfl
  have oth : ∀ b o, b ≠ S → s.heap.get? b = some o →
      ((s.heap.update S (Obj.mapSeq (·.push Value.none))).update S (Obj.mapSeq (·.pop))).get? b = some o :=
    fun b o hb e => (Heap.get?_update_other _ _ (Ne.symm hb)).trans
      ((Heap.get?_update_other _ _ (Ne.symm hb)).trans e)
  obtain ⟨oit, hoit, rit⟩ := hit
  refine wpAny_pure ⟨plainId_quiet PySem.F.plain_extend_loop _, en_loop (s := s) (h₁ := s.heap) hh hIS hSit hlS hlI hlit hIit hitS hn res
    (fun h' tk acc c as k1 k2 k3 k4 k5 => hR h' tk acc c as k1 k2 k3 k4 k5)
    items.size 0 _ _ _ #[] [] (Nat.sub_zero _) (Nat.zero_le _)
    ⟨⟨oit, oth _ _ hSit hoit, rit⟩, .inl ⟨.none, oth _ _ hSne.symm he⟩⟩ (hl.at fun o e => oth _ _ hlS e)
    (fun b o h1 h2 h3 e => oth b o h1 e) hS₃ rfl rfl ⟨List.Pairwise.nil, (fun _ ha => nomatch ha), (fun j a hj => by simp at hj)⟩⟩

theorem en_init {R : Result → Shared → Prop} {I it l : Addr} (hh : A.handled = none)
    (he : IsEnum s.heap I it 0 .none) (hit : s.heap.IsListIter it l 0) (hl : s.heap.IsList l items)
    (S : Addr) (hIS : I < S) (hSit : it ≠ S) (hlS : l ≠ S) (hlI : l ≠ I) (hlit : l ≠ it) (hIit : I ≠ it)
    (hitS : it < S) (hn : items.size ≤ sizeLine)
    (hS : s.heap.get? S = some { cls := .type "list", data := .seq #[] })
    (hR : ∀ h' tk acc c as, (∀ b o, b ≠ S → b ≠ I → b ≠ it → s.heap.get? b = some o → h'.get? b = some o) →
      h'.get? S = some { cls := .type "list", dict := none, data := .seq acc c, slots := #[] } →
      as.length = items.size → EnG prog w items S h' as → acc.toList = as.map Value.ref →
      R (.ok (.ret .none)) { s with heap := h', toks := tk }) :
    wpAny (model prog w) A.in1 (Builtin.«list.__init__» ⟨[.ref S, .ref I], []⟩)
      (fun fin s' => match fin with | .done f => R (.ok f) s' | .again c' => c'.quiet = true ∧ codeAny (model prog w) A c' R s')
      (fun e s' => R (.error e) s') s := by
  show wpAny _ _ (do let old ← Builtin.List.listItems (.ref S); Builtin.List.listUpdate (.ref S) (fun _ => #[]); letGo old.toList.reverse; Builtin.List.listExtendWith (.ref S) (.ref I) .none) _ _ s
  refine wpAny_bind ?_
  unfold Builtin.List.listItems
  refine wpAny_bind (wpAny_seqItems hS rfl (wpAny_pure ?_))
  show wpAny _ _ (updateSeq S (fun _ => #[]) >>= fun _ => letGo (#[] : Array Value).toList.reverse >>= fun _ => Builtin.List.listExtendWith (.ref S) (.ref I) .none) _ _ s
  refine wpAny_bind (wpAny_updateSeq hS rfl ?_)
  have hS₂ := Heap.get?_update_self (Obj.mapSeq (fun _ => (#[] : Array Value))) hS rfl
  have oth : ∀ b o, b ≠ S → s.heap.get? b = some o → (s.heap.update S (Obj.mapSeq (fun _ => (#[] : Array Value)))).get? b = some o :=
    fun b o hb e => (Heap.get?_update_other _ _ (Ne.symm hb)).trans e
  refine wpAny_bind (wpAny_letGo ?_)
  obtain ⟨oit, hoit, rit⟩ := hit
  refine en_extend hh (oth _ _ (Nat.ne_of_lt hIS) he) ⟨oit, oth _ _ hSit hoit, rit⟩ (hl.at fun o e => oth _ _ hlS e) S hIS hSit hlS hlI hlit hIit hitS hn .none _ hS₂
    fun h' tk acc c as k1 k2 k3 k4 k5 => hR h' tk acc c as (fun b o n1 n2 n3 e => k1 b o n1 n2 n3 (oth b o n1 e)) k2 k3 k4 k5

theorem en_call {Q : Value → Shared → Prop} {E : Value → Shared → Prop} {I it l : Addr} (hh : A.handled = none)
    (he : IsEnum s.heap I it 0 .none) (hit : s.heap.IsListIter it l 0) (hl : s.heap.IsList l items)
    (hlI : l ≠ I) (hlit : l ≠ it) (hIit : I ≠ it) (hn : items.size ≤ sizeLine)
    (hQ : ∀ h' tk acc c as, (∀ b o, b ≠ I → b ≠ it → s.heap.get? b = some o → h'.get? b = some o) →
      h'.get? s.heap.objs.size = some { cls := .type "list", dict := none, data := .seq acc c, slots := #[] } →
      as.length = items.size → EnG prog w items s.heap.objs.size h' as → acc.toList = as.map Value.ref →
      Q (.ref s.heap.objs.size) { s with heap := h', toks := tk }) :
    wpAny (model prog w) A (call (.type "list") [.ref I]) Q E s := by
  refine callType_codes (Q₁ := fun obj s₁ => obj = .ref s.heap.objs.size ∧ s₁ = { s with heap := s.heap.push { cls := .type "list", data := .seq #[] } })
    PySem.F.called_list (PySem.F.typeCall_list_1 _) PySem.F.entry_list_init (code_list_new _ ⟨rfl, rfl⟩) fun obj s₁ h₁ => ?_
  obtain ⟨rfl, rfl⟩ := h₁
  have hS : (s.heap.push { cls := .type "list", data := .seq #[] }).get? s.heap.objs.size = some { cls := .type "list", data := .seq #[] } := Heap.get?_push_size _ rfl
  have lI : I < s.heap.objs.size := Heap.lt_size he
  obtain ⟨oit, hoit, rit⟩ := hit
  have lit : it < s.heap.objs.size := Heap.lt_size hoit
  obtain ⟨ol, hol, rl⟩ := hl
  have ll : l < s.heap.objs.size := Heap.lt_size hol
  refine ⟨⟨_, hS, rfl⟩, PySem.F.args_list_init_2 _ _, en_init (A := A.in1) hh (Heap.get?_push_of_some _ he) ⟨oit, Heap.get?_push_of_some _ hoit, rit⟩
    ⟨ol, Heap.get?_push_of_some _ hol, rl⟩ _ lI (Nat.ne_of_lt lit) (Nat.ne_of_lt ll) hlI hlit hIit lit hn hS fun h' tk acc c as k1 k2 k3 k4 k5 => ?_⟩
  exact ⟨rfl, hQ h' tk acc c as (fun b o n1 n2 e => k1 b o (Nat.ne_of_lt (Heap.lt_size e)) n1 n2 (Heap.get?_push_of_some _ e)) k2 k3 k4 k5⟩
end


/-- behind a call that has laid a list at p and pairs above it -/
theorem pairs_laid {X : Cx} {pins : List (Addr × Obj)} {σ : L2.St} {H : Hp} {s : Shared} {h' : Heap} {tk : Nat}
    {kvs : List (Key × V)} {vs : List (Key × Value)} {acc : Array Value} {c : Nat} {p : Addr} {as : List Addr}
    (I : Inv X pins σ H s) (hz : kvs.length ≤ sizeLine) (kv : KV kvs vs) (hp : s.heap.objs.size ≤ p)
    (hk : ∀ b o, s.heap.get? b = some o → h'.get? b = some o)
    (hS : h'.get? p = some { cls := .type "list", dict := none, data := .seq acc c, slots := #[] })
    (hl : as.length = vs.length) (hG : PySem.W.KdxG (mixKind X.prog X.w) vs p h' as)
    (hacc : acc.toList = as.map Value.ref) :
    ∃ H' : Hp, Same H H' ∧ H p = none ∧ (∀ t ∈ as, H t = none) ∧ p ∉ as ∧ H' p = some (.lst (as.map V.ref)) ∧
      Paired (fun (t : Addr) (q : Key × V) => H' t = some (.tup [kV q.1, q.2])) as kvs ∧
      Inv X pins σ H' { s with heap := h', toks := tk } := by
  have lk : kvs.length = vs.length := Paired.length kv
  have hpn : p ∉ as := fun z => Nat.lt_irrefl _ (hG.above _ z)
  have nd : as.Nodup := List.Pairwise.imp (fun {a b} (h : a < b) => Nat.ne_of_lt h) hG.rise
  have new : ∀ t ∈ as, H t = none := fun t ht =>
    I.hok.fresh (Nat.le_trans hp (Nat.le_of_lt (hG.above t ht)))
  have newS : H p = none := I.hok.fresh hp
  let G : Hp := LiI.putT (upd H p (.lst (as.map V.ref))) as kvs
  have atP : Paired (fun (t : Addr) (q : Key × V) => G t = some (.tup [kV q.1, q.2])) as kvs :=
    LiI.putT_at as kvs (upd H p (.lst (as.map V.ref))) (by omega) nd
  have off : ∀ b, b ∉ as → b ≠ p → G b = H b := fun b h1 h2 =>
    (LiI.putT_off as kvs _ h1).trans (upd_ne h2)
  have low : ∀ b o, s.heap.get? b = some o → b ∉ as ∧ b ≠ p := fun b o e =>
    ⟨fun z => absurd (Heap.lt_size e) (Nat.not_lt.mpr (Nat.le_trans hp (Nat.le_of_lt (hG.above b z)))),
      Nat.ne_of_lt (Nat.lt_of_lt_of_le (Heap.lt_size e) hp)⟩
  have kp : ∀ b u, H b = some u → G b = some u := fun b u e => by
    rw [off b (fun z => by rw [new b z] at e; cases e) (fun z => by rw [z, newS] at e; cases e)]
    exact e
  have eS : G p = some (.lst (as.map V.ref)) := (LiI.putT_off as kvs _ hpn).trans upd_same
  refine ⟨G, kp, newS, new, hpn, eS, atP, ?_⟩
  refine I.call' (ch := []) rfl ⟨fun b o q _ _ _ => hk b o q, fun b o q _ _ _ => ⟨o.slots, hk b o q⟩,
    fun b o q n _ => ?_, fun b o q _ => ⟨o, hk b o q⟩, fun b xs q => kp b _ q, fun b o u q => kp b _ q,
    fun b ps q => ⟨#[], by rw [kp b _ q]; simp⟩⟩ (fun b u q => ?_) I.bare fun b z => by simp at z
  · obtain ⟨z1, z2⟩ := low b o q
    rw [off b z1 z2]
    exact n
  · by_cases hb : b ∈ as
    · obtain ⟨j, pk, e1, e2, e3⟩ := LiI.paired_ix atP hb
      rw [e3] at q
      cases q
      obtain ⟨key, k, x, f1, f2, f3⟩ := hG.pairs j b e1
      obtain ⟨qv, g1, g2, g3⟩ := LiI.paired_get kv e2
      rw [f1] at g1
      cases g1
      have rk : RelV (kV pk.1) key := by
        rw [g2]
        exact relV_key (show keyIs k key = true from f2)
      exact ⟨by show 2 ≤ sizeLine; decide, [key, x], .cons rk (.cons g3 .nil), ⟨_, f3, rfl, _, rfl⟩⟩
    · by_cases hb2 : b = p
      · subst hb2
        rw [eS] at q
        cases q
        refine ⟨by rw [List.length_map]; omega, acc.toList, c, by rw [hacc]; exact LiI.vals_refs as, ?_⟩
        rw [Array.toArray_toList]
        exact hS
      · rw [off b hb hb2] at q
        exact (I.hok b u q).stay (fun d v _ y => hk d v y) (fun d y => kp d _ y) fun d xs y => kp d _ y
/-- list(enumerate(e)): a new list of new pairs -/
def rLE (K : PySem.W.Frag) (x : V) (H : Hp) (Q : VK) : Prop := ∃ (a : Addr) (xs : List V), x = .ref a ∧ SqL K H a xs ∧
  ∀ (H' : Hp) (p : Addr) (ts : List Addr), Same H H' → H p = none → (∀ t ∈ ts, H t = none) → p ∉ ts →
    H' p = some (.lst (ts.map V.ref)) →
    Paired (fun (t : Addr) (q : Key × V) => H' t = some (.tup [kV q.1, q.2])) ts (enV 0 xs) → Q (.ref p) H'
def tLE (K : PySem.W.Frag) (te : TE) : TE := fun σ H Q => te σ H fun x H1 => rLE K x H1 Q
section
variable {X : Cx} {e : Expr} {te : TE} {p p2 pos pos2 : Pos}
theorem pe_listEnum (hc : X.calm = true) (hg : Gl X "list") (hm : X.mg "list" = none) (hg2 : Gl X "enumerate")
    (hm2 : X.mg "enumerate" = none) (he : PE X e te)
    (hs : starEach [e] X.env = (false, eval e X.env) :: starEach [] X.env := by rfl)
    (hs2 : starEach [.Call (.Name "enumerate" p2) [e] [] pos2] X.env =
      (false, eval (.Call (.Name "enumerate" p2) [e] [] pos2) X.env) :: starEach [] X.env := by rfl) :
    PE X (.Call (.Name "list" p) [.Call (.Name "enumerate" p2) [e] [] pos2] [] pos) (tLE X.K te) := by
  refine ⟨fun pins s σ H Q I h => ?_⟩
  refine Call_ (ld_blt I hg hm boot_list (PyProof.Rows.callWith_type1 (args_cons ?_ hs2) hs2))
  refine Call_ (ld_blt I hg2 hm2 boot_enumerate (PyProof.Rows.callWith_type1 (one_arg he I h (fun v s1 x H1 I1 rx q => ?_) hs) hs))
  obtain ⟨a, xs, rfl, hq, q⟩ := q
  obtain rfl : v = .ref a := rx
  obtain ⟨its, rv, pl, hz⟩ := I1.list hq
  have hlen := rv.length
  refine call_enumerate_list pl.isList fun h1 he1 hit1 hsz1 hk1 => ?_
  refine args_nil ?_
  have I2 : Inv X pins σ H1 { s1 with heap := h1 } := I1.kept (t' := s1.toks) hk1
  obtain ⟨ol, hol, rl⟩ := pl.isList
  have ll : a < s1.heap.objs.size := Heap.lt_size hol
  have n0 : H1 (s1.heap.objs.size + 1) = none := I1.hok.fresh (Nat.le_succ _)
  have n1 : H1 s1.heap.objs.size = none := I1.hok.fresh (Nat.le_refl _)
  refine en_call (s := { s1 with heap := h1 }) (items := its.toArray) (I2.ok.hd hc) he1 hit1 ⟨ol, hk1 _ _ hol, rl⟩
    (by exact Nat.ne_of_lt (Nat.lt_succ_of_lt ll)) (Nat.ne_of_lt ll) (Nat.succ_ne_self _) (by simp only [List.size_toArray]; omega)
    fun h2 tk acc c as k1 k2 k3 k4 k5 => ?_
  have eI : EnG X.prog X.w its.toArray h1.objs.size h2 as := k4
  obtain ⟨H', g1, g2, g3, g4, g5, g6, J⟩ := pairs_laid (tk := tk) (p := h1.objs.size) (kvs := enV 0 xs) (vs := enV 0 its) (as := as) I1
    (by rw [enV_len]; exact hz) (enV_kv xs its 0 rv) (by rw [hsz1]; omega)
    (fun b o e => k1 b o (Nat.ne_of_lt (Nat.lt_succ_of_lt (Heap.lt_size e))) (Nat.ne_of_lt (Heap.lt_size e)) (hk1 b o e))
    k2 (by rw [enV_len, k3]; simp) (by simpa using k4) k5
  exact ⟨.ref _, H', J, rfl, q H' _ as g1 g2 g3 g4 g5 g6⟩
end
end PB

namespace PB
open PySem PySem.Spec PyProof.Rows L2

/-! ### what is known of the heap: B stands, and beside it the objects of the list L -/
structure Tr (B : Hp) (L : List (Addr × HO)) (H : Hp) : Prop where
  base : Same B H
  at_ : ∀ p ∈ L, H p.1 = some p.2
  off : ∀ p ∈ L, B p.1 = none
  nd : (L.map (·.1)).Nodup
section
variable {B B' H H' : Hp} {L : List (Addr × HO)} {a b p : Addr} {o o' u : HO}
theorem Tr.start (H : Hp) : Tr H [] H := ⟨Same.refl H, (fun _ h => nomatch h), (fun _ h => nomatch h), List.nodup_nil⟩
theorem Tr.fz (T : Tr B L H) (h : B a = some o) : H a = some o := T.base a o h
theorem Tr.get (T : Tr B L H) (i : Nat) (h : L[i]? = some (a, o)) : H a = some o := T.at_ _ (List.mem_of_getElem? h)
theorem Tr.ne (T : Tr B L H) (h : (a, o) ∈ L) (h2 : B b = some u) : b ≠ a := fun e => by
  have z := T.off _ h
  rw [← e] at z
  rw [h2] at z
  cases z
theorem Tr.new (T : Tr B L H) (hp : H p = none) : Tr B ((p, o) :: L) (upd H p o) := by
  have hB : B p = none := T.base.free hp
  have nm : ∀ q ∈ L, q.1 ≠ p := fun q hq e => by
    have z := T.at_ q hq
    rw [e, hp] at z
    cases z
  refine ⟨fun c v e => ?_, fun q hq => ?_, fun q hq => ?_, ?_⟩
  · rw [upd_ne (ne_of_none e hB)]
    exact T.base c v e
  · rcases List.mem_cons.mp hq with rfl | hq
    · exact upd_same
    · rw [upd_ne (nm q hq)]
      exact T.at_ q hq
  · rcases List.mem_cons.mp hq with rfl | hq
    · exact hB
    · exact T.off q hq
  · refine List.nodup_cons.mpr ⟨fun hm => ?_, T.nd⟩
    obtain ⟨q, hq, e⟩ := List.mem_map.mp hm
    exact nm q hq e
theorem Tr.same (T : Tr B L H) (s : Same H H') : Tr B L H' :=
  ⟨T.base.trans s, fun q hq => s _ _ (T.at_ q hq), T.off, T.nd⟩
theorem Tr.add (T : Tr B L H) (s : Same H H') (hp : H p = none) (e : H' p = some o) : Tr B ((p, o) :: L) H' := by
  have T2 := T.new (o := o) hp
  refine ⟨T.base.trans s, fun q hq => ?_, T2.off, T2.nd⟩
  rcases List.mem_cons.mp hq with rfl | hq
  · exact e
  · exact s _ _ (T.at_ q hq)
/-- all but the objects at as stand -/
def But (as : List Addr) (H H' : Hp) : Prop := ∀ b o, b ∉ as → H b = some o → H' b = some o
theorem But.same {as : List Addr} (s : Same H H') : But as H H' := fun b o _ e => s b o e
theorem But.refl {as : List Addr} : But as H H := fun _ _ _ e => e
theorem But.trans {as : List Addr} {H2 : Hp} (s : But as H H') (t : But as H' H2) : But as H H2 := fun b o n e => t b o n (s b o n e)
theorem But.upd (a : Addr) (o : HO) : But [a] H (L2.upd H a o) := fun b u n e => by
  rw [upd_ne (fun z => n (by rw [z]; exact List.mem_cons_self))]
  exact e
theorem setMem : ∀ (L : List (Addr × HO)) (i : Nat) (q : Addr × HO), (L.map (·.1)).Nodup → L[i]? = some (a, o) → q ∈ L.set i (a, o') →
    q = (a, o') ∨ (q ∈ L ∧ q.1 ≠ a)
  | [], _, _, _, h, _ => by cases h
  | x :: L, 0, q, nd, h, hq => by
    have e : x = (a, o) := Option.some.inj h
    subst e
    rcases List.mem_cons.mp hq with e | hq
    · exact .inl e
    · refine .inr ⟨List.mem_cons_of_mem _ hq, fun e => (List.nodup_cons.mp nd).1 ?_⟩
      show a ∈ L.map (·.1)
      rw [← e]
      exact List.mem_map_of_mem hq
  | x :: L, i + 1, q, nd, h, hq => by
    rcases List.mem_cons.mp hq with e | hq
    · subst e
      refine .inr ⟨List.mem_cons_self, fun z => (List.nodup_cons.mp nd).1 ?_⟩
      show q.1 ∈ L.map (·.1)
      rw [z]
      exact List.mem_map_of_mem (f := (·.1)) (List.mem_of_getElem? (show L[i]? = some (a, o) from h))
    · rcases setMem L i q (List.nodup_cons.mp nd).2 h hq with e | ⟨h1, h2⟩
      · exact .inl e
      · exact .inr ⟨List.mem_cons_of_mem _ h1, h2⟩
theorem set_keys : ∀ (L : List (Addr × HO)) (i : Nat), L[i]? = some (a, o) → (L.set i (a, o')).map (·.1) = L.map (·.1)
  | [], _, h => by cases h
  | x :: L, 0, h => by
    have e : x = (a, o) := Option.some.inj h
    subst e
    rfl
  | x :: L, i + 1, h => congrArg (x.1 :: ·) (set_keys L i h)
theorem Tr.but (T : Tr B L H) (i : Nat) (h : L[i]? = some (a, o)) (s : But [a] H H') (e : H' a = some o') :
    Tr B (L.set i (a, o')) H' := by
  have hoff : B a = none := T.off _ (List.mem_of_getElem? h)
  refine ⟨fun c v ec => ?_, fun q hq => ?_, fun q hq => ?_, ?_⟩
  · refine s c v (fun z => ?_) (T.base c v ec)
    have z' : c = a := by simpa using z
    rw [z', hoff] at ec
    cases ec
  · rcases setMem L i q T.nd h hq with rfl | ⟨h1, h2⟩
    · exact e
    · exact s _ _ (by simpa using h2) (T.at_ q h1)
  · rcases setMem L i q T.nd h hq with rfl | ⟨h1, h2⟩
    · exact hoff
    · exact T.off q h1
  · rw [set_keys L i h]
    exact T.nd
theorem Tr.put (T : Tr B L H) (i : Nat) (h : L[i]? = some (a, o)) : Tr B (L.set i (a, o')) (upd H a o') :=
  T.but i h (But.upd a o') upd_same
/-- another part of the heap as the ground -/
theorem Tr.rebase (T : Tr B L H) (s : Same B' H) (h : ∀ q ∈ L, B' q.1 = none) : Tr B' L H := ⟨s, T.at_, h, T.nd⟩
theorem Tr.drop (T : Tr B (q :: L) H) : Tr B L H :=
  ⟨T.base, fun r hr => T.at_ r (List.mem_cons_of_mem _ hr), fun r hr => T.off r (List.mem_cons_of_mem _ hr), (List.nodup_cons.mp T.nd).2⟩
theorem Tr.dropL : ∀ {M : List (Addr × HO)}, Tr B (M ++ L) H → Tr B L H
  | [], T => T
  | _ :: _, T => Tr.dropL (Tr.drop T)
/-- a heap without what stands at a -/
def del (H : Hp) (a : Addr) : Hp := fun b => if b = a then none else H b
theorem del_same : del H a a = none := if_pos rfl
theorem del_ne (h : b ≠ a) : del H a b = H b := if_neg h
theorem Same.del : Same (del H a) H := fun b o e => by
  by_cases h : b = a
  · rw [h, del_same] at e
    cases e
  · rwa [del_ne h] at e
theorem Tr.mut (h : H a = some o) : Tr (del H a) [(a, o)] H :=
  ⟨Same.del, fun q hq => by rw [List.mem_singleton.mp hq]; exact h, fun q hq => by rw [List.mem_singleton.mp hq]; exact del_same, by simp⟩
theorem But.of_del (s : Same (del H a) H') : But [a] H H' := fun b o n e => s b o (by
  rw [del_ne (fun z => n (by rw [z]; exact List.mem_cons_self))]
  exact e)
/-- what is new behind a def that changes a -/
theorem Tr.newdel (T : Tr (del H a) L H') (i j : Nat) (h : L[i]? = some (a, o)) (h2 : L[j]? = some (p, o')) (n : i ≠ j := by decide) : H p = none := by
  have ha := List.getElem?_map (f := (·.1)) (l := L) (i := i)
  have hp := List.getElem?_map (f := (·.1)) (l := L) (i := j)
  rw [h] at ha
  rw [h2] at hp
  have ne : p ≠ a := fun e => by
    have ha' : (L.map (·.1))[i]? = some a := ha
    have hp' : (L.map (·.1))[j]? = some p := hp
    rw [e] at hp'
    exact n (nd_ix T.nd ha' hp')
  have z := T.off _ (List.mem_of_getElem? h2)
  rw [← del_ne (H := H) ne]
  exact z
theorem Tr.offI (T : Tr B L H) (i : Nat) (h : L[i]? = some (a, o)) : B a = none := T.off _ (List.mem_of_getElem? h)
theorem Tr.get0 (T : Tr B ((a, o) :: L) H) : H a = some o := T.get 0 rfl
theorem Tr.get1 {x0} (T : Tr B (x0 :: (a, o) :: L) H) : H a = some o := T.get 1 rfl
theorem Tr.get2 {x0 x1} (T : Tr B (x0 :: x1 :: (a, o) :: L) H) : H a = some o := T.get 2 rfl
theorem Tr.get3 {x0 x1 x2} (T : Tr B (x0 :: x1 :: x2 :: (a, o) :: L) H) : H a = some o := T.get 3 rfl
theorem Tr.get4 {x0 x1 x2 x3} (T : Tr B (x0 :: x1 :: x2 :: x3 :: (a, o) :: L) H) : H a = some o := T.get 4 rfl
theorem Tr.get5 {x0 x1 x2 x3 x4} (T : Tr B (x0 :: x1 :: x2 :: x3 :: x4 :: (a, o) :: L) H) : H a = some o := T.get 5 rfl
theorem Tr.get6 {x0 x1 x2 x3 x4 x5} (T : Tr B (x0 :: x1 :: x2 :: x3 :: x4 :: x5 :: (a, o) :: L) H) : H a = some o := T.get 6 rfl
theorem Tr.get7 {x0 x1 x2 x3 x4 x5 x6} (T : Tr B (x0 :: x1 :: x2 :: x3 :: x4 :: x5 :: x6 :: (a, o) :: L) H) : H a = some o := T.get 7 rfl
theorem Tr.get8 {x0 x1 x2 x3 x4 x5 x6 x7} (T : Tr B (x0 :: x1 :: x2 :: x3 :: x4 :: x5 :: x6 :: x7 :: (a, o) :: L) H) : H a = some o := T.get 8 rfl
theorem Tr.get9 {x0 x1 x2 x3 x4 x5 x6 x7 x8} (T : Tr B (x0 :: x1 :: x2 :: x3 :: x4 :: x5 :: x6 :: x7 :: x8 :: (a, o) :: L) H) : H a = some o := T.get 9 rfl
theorem Tr.seq {K : PySem.W.Frag} {xs : List V} (T : Tr B L H) (h : SqL K B a xs) : SqL K H a xs := T.base.seq h
theorem Same.tup {K : PySem.W.Frag} {xs : List V} (e : Same H H') (h : SqT K H a xs) : SqT K H' a xs := by
  rcases h with (h | ⟨o, h⟩) | h
  · exact .inl (.inl (e _ _ h))
  · exact .inl (.inr ⟨o, e _ _ h⟩)
  · exact .inr h
end

/-! ### readings by names -/
section
variable {X : Cx}
def rLen (K : PySem.W.Frag) : List V → Hp → VK → Prop := fun xs H Q => ∃ p ys, xs = [.ref p] ∧ (SqL K H p ys ∨ SqT K H p ys) ∧ Q (.int ys.length) H
theorem cl_len : CallR X (.builtin "len") (rLen X.K) := call_len_seq
def rAbs : List V → Hp → VK → Prop := fun xs H Q => ∃ i, xs = [.int i] ∧ Q (.int (if i < 0 then -i else i)) H
theorem cl_abs : CallR X (.builtin "abs") rAbs := call_abs
def rMax2 : List V → Hp → VK → Prop := fun xs H Q => ∃ i j, xs = [.int i, .int j] ∧ Q (.int (if j > i then j else i)) H
theorem cl_max2 (hc : X.calm = true) : CallR X (.builtin "max") rMax2 := call_max2 hc
def rMin2 : List V → Hp → VK → Prop := fun xs H Q => ∃ i j, xs = [.int i, .int j] ∧ Q (.int (if j < i then j else i)) H
theorem cl_min2 (hc : X.calm = true) : CallR X (.builtin "min") rMin2 := call_min2 hc
def rInt1 : List V → Hp → VK → Prop := fun xs H Q => (∃ i, xs = [.int i] ∧ Q (.int i) H) ∨ ∃ k, xs = [.bl k] ∧ Q (.int (if k then 1 else 0)) H
theorem cl_int : CallR X (.type "int") rInt1 := call_int1
def rListOf (K : PySem.W.Frag) : List V → Hp → VK → Prop := fun xs H Q => ∃ p ys, xs = [.ref p] ∧ (SqL K H p ys ∨ SqT K H p ys) ∧ ∀ l, H l = none → Q (.ref l) (upd H l (.lst ys))
theorem cl_list : CallR X (.type "list") (rListOf X.K) := call_list_of
/-- + of ints, of lists -/
def rAddA : R2 := fun x y H Q => rI0 (fun i j => .int (i + j)) x y H Q ∨ rCat x y H Q
theorem op_addA : OpR X (binaryOp .Add) rAddA := fun pins s σ H x y v u Q I rx ry h => by
  rcases h with h | h
  · exact op_add pins s σ H x y v u Q I rx ry h
  · exact op_cat pins s σ H x y v u Q I rx ry h
/-- * of ints, of a list and an int -/
def rMulA : R2 := fun x y H Q => rI CMulW (fun i j => .int (i * j)) x y H Q ∨ rRep x y H Q
theorem op_mulA : OpR X (binaryOp .Mult) rMulA := fun pins s σ H x y v u Q I rx ry h => by
  rcases h with h | h
  · exact op_mulW pins s σ H x y v u Q I rx ry h
  · exact op_rep pins s σ H x y v u Q I rx ry h
/-- == of flat values, of data -/
def rEqA (K : PySem.W.Frag) : R2 := fun x y H Q => rEq x y H Q ∨ rEqD K x y H Q
theorem op_eqA (hu : X.A.units + 64 < cLine) : OpR X (compareOp .Eq) (rEqA X.K) := fun pins s σ H x y v u Q I rx ry h => by
  rcases h with h | h
  · exact op_eq pins s σ H x y v u Q I rx ry h
  · exact op_eqD hu pins s σ H x y v u Q I rx ry h
def rNeA (K : PySem.W.Frag) : R2 := fun x y H Q => rNe x y H Q ∨ rNeD K x y H Q
theorem op_neA (hu : X.A.units + 64 < cLine) : OpR X (compareOp .NotEq) (rNeA X.K) := fun pins s σ H x y v u Q I rx ry h => by
  rcases h with h | h
  · exact op_ne pins s σ H x y v u Q I rx ry h
  · exact op_neD hu pins s σ H x y v u Q I rx ry h
def rIsN : R2 := fun x y H Q => y = .non ∧ Q (.bl (decide (x = .non))) H
theorem op_isNn : OpR X (compareOp .Is) rIsN := op_isN
def rNotN : R2 := fun x y H Q => y = .non ∧ Q (.bl (!decide (x = .non))) H
theorem op_notNn : OpR X (compareOp .IsNot) rNotN := op_notN
end

/-! ### the rest of a loop, of a comprehension, by names -/
def rFor (J : It) (g : TG) (tb : TS) (D : Ends) (σ : L2.St) (H : Hp) : Prop := ∃ W : Nat → Nat → L2.St → Hp → Prop, (∃ m, W 0 m σ H) ∧ ∀ i m σ H, W i m σ H →
  (J.stop i H ∧ D.nx σ H) ∨ (J.go i H ∧ ∃ N : L2.St → Hp → Prop, (∀ σ' H', N σ' H' → ∃ m', m' < m ∧ W (i + 1) m' σ' H') ∧ ∀ x H', J.yld i H x H' → g x σ H' fun σ2 H2 => tb { D with nx := N, ct := N, bk := D.nx } σ2 H2)
def rLc (J : It) (g : TG) (tt : TT) (te : TE) (vs : List Nat) (σ : L2.St) (H1 : Hp) (Q : VK) : Prop := ∀ D, H1 D = none → ∃ W : Nat → Nat → Hp → Prop, (∃ m, W 0 m (upd H1 D (.lst []))) ∧ ∀ i m H, W i m H →
  (J.stop i H ∧ Q (.ref D) H) ∨ (J.go i H ∧ ∃ Nx : Hp → Prop, (∀ H', Nx H' → ∃ m', m' < m ∧ W (i + 1) m' H') ∧ ∀ x H', J.yld i H x H' → g x (wipe σ vs) H' fun σ2 H2 => wipe σ2 vs = wipe σ vs ∧ tt σ2 H2 fun b H3 =>
    if b = true then te σ2 H3 fun y H4 => ∃ acc, H4 D = some (.lst acc) ∧ acc.length < sizeLine ∧ Nx (upd H4 D (.lst (acc ++ [y]))) else Nx H3)
/-- an element that goes to the list at D -/
def rElt (D : Addr) (Nx : Hp → Prop) (y : V) (H4 : Hp) : Prop := ∃ acc, H4 D = some (.lst acc) ∧ acc.length < sizeLine ∧ Nx (upd H4 D (.lst (acc ++ [y])))
def rItL (K : PySem.W.Frag) (x : V) (H : Hp) (R : It → Hp → Prop) : Prop := ∃ a, x = .ref a ∧ (∃ xs, SqL K H a xs) ∧ R (Itl K a) H
def rItT (K : PySem.W.Frag) (x : V) (H : Hp) (R : It → Hp → Prop) : Prop := ∃ a, x = .ref a ∧ (∃ xs, SqT K H a xs) ∧ R (Itt K a) H
def rRg1 (vs : List V) (H : Hp) (R : It → Hp → Prop) : Prop := ∃ j : Int, vs = [.int j] ∧ -(2 ^ 62) ≤ j ∧ j < 2 ^ 62 ∧ R (Itr 0 j.toNat) H
def rRg2 (vs : List V) (H : Hp) (R : It → Hp → Prop) : Prop := ∃ i j : Int, vs = [.int i, .int j] ∧ (-(2 ^ 62) ≤ i ∧ i < 2 ^ 62 ∧ -(2 ^ 62) ≤ j ∧ j < 2 ^ 62) ∧ R (Itr i (j - i).toNat) H
def rRg3 (vs : List V) (H : Hp) (R : It → Hp → Prop) : Prop := ∃ (i j c : Int) (n : Nat), vs = [.int i, .int j, .int c] ∧ RgC i j c n ∧ R (Itc i c n) H
def rEn (K : PySem.W.Frag) (vs : List V) (H : Hp) (R : It → Hp → Prop) : Prop := ∃ a xs, vs = [.ref a] ∧ SqL K H a xs ∧ R (Ite K a) H
def rZp (K : PySem.W.Frag) (vs : List V) (H : Hp) (R : It → Hp → Prop) : Prop := ∃ a b xs ys, vs = [.ref a, .ref b] ∧ SqL K H a xs ∧ SqL K H b ys ∧ R (Itz K a b) H
def rTup (xs : List V) (H : Hp) (Q : VK) : Prop := xs.length ≤ sizeLine ∧ ∀ p, H p = none → Q (.ref p) (upd H p (.tup xs))
def rLst (xs : List V) (H : Hp) (Q : VK) : Prop := xs.length ≤ sizeLine ∧ ∀ p, H p = none → Q (.ref p) (upd H p (.lst xs))
def rBl (x : V) (H : Hp) (Q : Bool → Hp → Prop) : Prop := ∃ k, x = .bl k ∧ Q k H
def rUnp (K : PySem.W.Frag) (n : Nat) (t : TGs) (v : V) (σ : L2.St) (H : Hp) (Q : L2.St → Hp → Prop) : Prop := ∃ a xs, v = .ref a ∧ SqT K H a xs ∧ xs.length = n ∧ t xs σ H Q
def rMt (K : PySem.W.Frag) (T : String) (r : V → List V → Hp → VK → Prop) (t : TA) (σ : L2.St) (x : V) (H1 : Hp) (Q : VK) : Prop := tyV K T x H1 ∧ t σ H1 fun xs H2 => r x xs H2 Q

/-! ### the steps -/
section
variable {K : PySem.W.Frag} {B H H1 : Hp} {L : List (Addr × HO)} {σ : L2.St} {D : Ends} {Q : VK} {t u : TS} {ta tb tc te to ti : TE} {tx ty : TA} {c tt : TT} {r r' : R2} {x y v w : V} {i j k n : Int} {a p : Addr} {xs ys : List V} {ns : List Int}
-- statements
section
variable {nx bk ct : L2.St → Hp → Prop} {rt : VK}
theorem i_seq (h : t ⟨u ⟨nx, rt, bk, ct⟩, rt, bk, ct⟩ σ H) : tSeq t u ⟨nx, rt, bk, ct⟩ σ H := h
theorem i_next (h : nx σ H) : tNext ⟨nx, rt, bk, ct⟩ σ H := h
theorem i_break (h : bk σ H) : tBreak ⟨nx, rt, bk, ct⟩ σ H := h
theorem i_cont (h : ct σ H) : tCont ⟨nx, rt, bk, ct⟩ σ H := h
theorem i_drop (h : te σ H fun _ H1 => nx σ H1) : tDrop te ⟨nx, rt, bk, ct⟩ σ H := h
theorem i_ret (h : te σ H rt) : tRet te ⟨nx, rt, bk, ct⟩ σ H := h
theorem i_retN (h : rt .non H) : tRetN ⟨nx, rt, bk, ct⟩ σ H := h
theorem i_ifS (h : c σ H fun b H1 => if b = true then t ⟨nx, rt, bk, ct⟩ σ H1 else u ⟨nx, rt, bk, ct⟩ σ H1) : tIfS c t u ⟨nx, rt, bk, ct⟩ σ H := h
theorem i_asg {g : TG} (h : te σ H fun x H1 => g x σ H1 nx) : tAsg te g ⟨nx, rt, bk, ct⟩ σ H := h
theorem i_aug {m : Nat} {ip : TIp} (hx : σ[m]? = some (some x)) (h : te σ H fun y H1 => ip x y H1 fun z H2 => nx (σ.set m (some z)) H2) : tAug m te ip ⟨nx, rt, bk, ct⟩ σ H := ⟨x, hx, h⟩
theorem i_for {wi : TI} {g : TG} {tb : TS} (h : wi σ H fun J H1 => rFor J g tb ⟨nx, rt, bk, ct⟩ σ H1) : tFor wi g tb ⟨nx, rt, bk, ct⟩ σ H := h
end
theorem i_gName {m : Nat} {R : L2.St → Hp → Prop} (h : R (σ.set m (some v)) H) : gName m v σ H R := h
theorem i_gTup {n : Nat} {g : TGs} {R : L2.St → Hp → Prop} (h : rUnp K n g v σ H R) : gTup K n g v σ H R := h
theorem i_unp {m : Nat} {g : TGs} {R : L2.St → Hp → Prop} (h1 : SqT K H a xs) (h2 : xs.length = m) (h : g xs σ H R) : rUnp K m g (.ref a) σ H R := ⟨a, xs, rfl, h1, h2, h⟩
theorem i_gCons {g : TG} {gs : TGs} {R : L2.St → Hp → Prop} (h : g x σ H fun σ' H' => gs xs σ' H' R) : gCons g gs (x :: xs) σ H R := ⟨x, xs, rfl, h⟩
theorem i_gNil {R : L2.St → Hp → Prop} (h : R σ H) : gNil [] σ H R := ⟨rfl, h⟩
theorem i_gSub {st : TSet} {R : L2.St → Hp → Prop} (h : to σ H fun o H1 => ti σ H1 fun i H2 => st o i v H2 fun H3 => R σ H3) : gSub to ti st v σ H R := h
theorem i_ip {f : Int → Int → Int} (h : Q (.int (f i j)) H) : ipI f (.int i) (.int j) H Q := ⟨i, j, rfl, rfl, h⟩
-- what is walked
section
variable {R : It → Hp → Prop}
theorem i_iList (h : te σ H fun x H1 => rItL K x H1 R) : iList K te σ H R := h
theorem i_itL (h1 : SqL K H a xs) (h : R (Itl K a) H) : rItL K (.ref a) H R := ⟨a, rfl, ⟨xs, h1⟩, h⟩
theorem i_iTup (h : te σ H fun x H1 => rItT K x H1 R) : iTup K te σ H R := h
theorem i_itT (h1 : SqT K H a xs) (h : R (Itt K a) H) : rItT K (.ref a) H R := ⟨a, rfl, ⟨xs, h1⟩, h⟩
theorem i_iRng1 (h : tx σ H fun vs H1 => rRg1 vs H1 R) : iRng1 tx σ H R := h
theorem i_rg1 (h1 : -(2 ^ 62) ≤ j) (h2 : j < 2 ^ 62) (h : R (Itr 0 j.toNat) H) : rRg1 [.int j] H R := ⟨j, rfl, h1, h2, h⟩
theorem i_iRng2 (h : tx σ H fun vs H1 => rRg2 vs H1 R) : iRng2 tx σ H R := h
theorem i_rg2 (h1 : -(2 ^ 62) ≤ i ∧ i < 2 ^ 62 ∧ -(2 ^ 62) ≤ j ∧ j < 2 ^ 62) (h : R (Itr i (j - i).toNat) H) : rRg2 [.int i, .int j] H R := ⟨i, j, rfl, h1, h⟩
theorem i_iRng3 (h : tx σ H fun vs H1 => rRg3 vs H1 R) : iRng3 tx σ H R := h
theorem i_iEnum (h : tx σ H fun vs H1 => rEn K vs H1 R) : iEnum K tx σ H R := h
theorem i_en (h1 : SqL K H a xs) (h : R (Ite K a) H) : rEn K [.ref a] H R := ⟨a, xs, rfl, h1, h⟩
theorem i_iZip (h : tx σ H fun vs H1 => rZp K vs H1 R) : iZip K tx σ H R := h
theorem i_zp {b : Addr} (h1 : SqL K H a xs) (h2 : SqL K H b ys) (h : R (Itz K a b) H) : rZp K [.ref a, .ref b] H R := ⟨a, b, xs, ys, rfl, h1, h2, h⟩
end
-- expressions
theorem i_var {m : Nat} (hx : σ[m]? = some (some v)) (h : Q v H) : tVar m σ H Q := ⟨v, hx, h⟩
theorem i_c (h : Q v H) : tC v σ H Q := h
theorem i_op (h : ta σ H fun x H1 => tb σ H1 fun y H2 => r x y H2 Q) : tOp r ta tb σ H Q := h
theorem i_un {r : V → Hp → VK → Prop} (h : ta σ H fun x H1 => r x H1 Q) : tUn r ta σ H Q := h
theorem i_rU {g : Int → V} (h : Q (g i) H) : rU g (.int i) H Q := ⟨i, rfl, h⟩
theorem i_I0 {g : Int → Int → V} (h : Q (g i j) H) : rI0 g (.int i) (.int j) H Q := ⟨i, j, rfl, rfl, h⟩
theorem i_I {C : Int → Int → Prop} {g : Int → Int → V} (hc : C i j) (h : Q (g i j) H) : rI C g (.int i) (.int j) H Q := ⟨i, j, rfl, rfl, hc, h⟩
theorem i_addI (h : Q (.int (i + j)) H) : rAddA (.int i) (.int j) H Q := .inl (i_I0 h)
theorem i_cat {b : Addr} (T : Tr B L H) (h1 : H a = some (.lst xs)) (h2 : H b = some (.lst ys)) (hz : xs.length + ys.length ≤ sizeLine)
    (h : ∀ p H', Tr B ((p, .lst (xs ++ ys)) :: L) H' → Q (.ref p) H') : rAddA (.ref a) (.ref b) H Q :=
  .inr ⟨a, b, xs, ys, rfl, rfl, h1, h2, hz, fun p hp => h p _ (T.new hp)⟩
theorem i_mulI (hc : CMulW i j) (h : Q (.int (i * j)) H) : rMulA (.int i) (.int j) H Q := .inl (i_I hc h)
theorem i_rep (T : Tr B L H) (h1 : H a = some (.lst xs)) (hk : -(2 ^ 63) ≤ k) (hk2 : k < 2 ^ 63) (hz : xs.length * k.toNat ≤ sizeLine)
    (h : ∀ p H', Tr B ((p, .lst ((List.replicate k.toNat xs).flatten)) :: L) H' → Q (.ref p) H') : rMulA (.ref a) (.int k) H Q :=
  .inr ⟨a, k, xs, rfl, rfl, h1, hk, hk2, hz, fun p hp => h p _ (T.new hp)⟩
theorem i_fdiv (h0 : 0 < j) (hb : j.natAbs < 2 ^ 60) (h : Q (.int (i / j)) H) : rI CDivW (fun i j => .int (i / j)) (.int i) (.int j) H Q := i_I (wide_div h0 hb (by decide) (by decide)) h
theorem i_mod (h0 : 0 < j) (h : Q (.int (i % j)) H) : rI (fun _ j => 0 < j) (fun i j => .int (i % j)) (.int i) (.int j) H Q := i_I h0 h
theorem i_pow (hc : (0 ≤ j ∧ j ≤ 1000000) ∧ i.natAbs < 2 ^ 64) (e : i ^ j.toNat = n) (h : Q (.int n) H) : rI CPow (fun i j => .int (i ^ j.toNat)) (.int i) (.int j) H Q := i_I ⟨hc.1.1, hc.1.2, hc.2⟩ (by rw [e]; exact h)
theorem i_sq (hc : i.natAbs < 2 ^ 64) (h : Q (.int (i * i)) H) : rI CPow (fun i j => .int (i ^ j.toNat)) (.int i) (.int 2) H Q := i_pow (n := i * i) ⟨⟨by decide, by decide⟩, hc⟩ (by show i ^ 2 = i * i; rw [Int.pow_succ, Int.pow_succ, Int.pow_zero, Int.one_mul]) h
theorem dec_int : decide (V.int i = V.int j) = decide (i = j) := by
  by_cases h : i = j
  · rw [decide_eq_true h, decide_eq_true (by rw [h])]
  · rw [decide_eq_false h, decide_eq_false (fun e => h (V.int.inj e))]
theorem dec_bl {a b : Bool} : decide (V.bl a = V.bl b) = decide (a = b) := by cases a <;> cases b <;> rfl
theorem i_eqI (h : Q (.bl (decide (i = j))) H) : rEqA K (.int i) (.int j) H Q := .inl ⟨rfl, by rw [dec_int]; exact h⟩
theorem i_neI (h : Q (.bl (!decide (i = j))) H) : rNeA K (.int i) (.int j) H Q := .inl ⟨rfl, by rw [dec_int]; exact h⟩
theorem i_eqB {a b : Bool} (h : Q (.bl (decide (a = b))) H) : rEqA K (.bl a) (.bl b) H Q := .inl ⟨rfl, by rw [dec_bl]; exact h⟩
theorem i_neB {a b : Bool} (h : Q (.bl (!decide (a = b))) H) : rNeA K (.bl a) (.bl b) H Q := .inl ⟨rfl, by rw [dec_bl]; exact h⟩
theorem i_eqD {d e : PyData} (h1 : Dp K H x d) (h2 : Dp K H y e) (s1 : SeqAt.shaped d = true) (s2 : SeqAt.shaped e = true) (h : Q (.bl (PyData.eqv d e)) H) : rEqA K x y H Q := .inr ⟨d, e, h1, h2, s1, s2, h⟩
theorem i_neD {d e : PyData} (h1 : Dp K H x d) (h2 : Dp K H y e) (s1 : SeqAt.shaped d = true) (s2 : SeqAt.shaped e = true) (h : Q (.bl (!PyData.eqv d e)) H) : rNeA K x y H Q := .inr ⟨d, e, h1, h2, s1, s2, h⟩
theorem i_isN (h : Q (.bl (decide (x = .non))) H) : rIsN x .non H Q := ⟨rfl, h⟩
theorem i_notN (h : Q (.bl (!decide (x = .non))) H) : rNotN x .non H Q := ⟨rfl, h⟩
theorem i_ixL (h1 : SqL K H a xs) (h2 : atI xs i = some v) (h : Q v H) : rIx K (.ref a) (.int i) H Q := .inl ⟨a, xs, i, v, rfl, rfl, h1, h2, h⟩
theorem i_ixT (h1 : SqT K H a xs) (h2 : atI xs i = some v) (h : Q v H) : rIx K (.ref a) (.int i) H Q := .inr (.inl ⟨a, xs, i, v, rfl, rfl, h1, h2, h⟩)
theorem atI_int (h0 : 0 ≤ i) (h1 : i < ns.length) : atI (ns.map V.int) i = some (.int ns[i.toNat]!) := by
  obtain ⟨m, rfl⟩ : ∃ m : Nat, i = m := ⟨i.toNat, by omega⟩
  refine atI_nat ?_
  rw [List.getElem?_map, Int.toNat_natCast, List.getElem!_eq_getElem?_getD, List.getElem?_eq_getElem (by omega)]
  rfl
theorem i_ixI (h1 : SqL K H a (ns.map V.int)) (h0 : 0 ≤ i) (h2 : i < ns.length) (h : Q (.int ns[i.toNat]!) H) : rIx K (.ref a) (.int i) H Q := i_ixL h1 (atI_int h0 h2) h
theorem i_tcons {R : List V → Hp → Prop} (h : te σ H fun x H1 => tx σ H1 fun xs H2 => R (x :: xs) H2) : tCons te tx σ H R := h
theorem i_tnil {R : List V → Hp → Prop} (h : R [] H) : tNil σ H R := h
theorem i_ttup (h : tx σ H fun xs H1 => rTup xs H1 Q) : tTup tx σ H Q := h
theorem i_tup (T : Tr B L H) (hz : xs.length ≤ sizeLine) (h : ∀ p H', Tr B ((p, .tup xs) :: L) H' → Q (.ref p) H') : rTup xs H Q := ⟨hz, fun p hp => h p _ (T.new hp)⟩
theorem i_tlst (h : tx σ H fun xs H1 => rLst xs H1 Q) : tLst tx σ H Q := h
theorem i_lst (T : Tr B L H) (hz : xs.length ≤ sizeLine) (h : ∀ p H', Tr B ((p, .lst xs) :: L) H' → Q (.ref p) H') : rLst xs H Q := ⟨hz, fun p hp => h p _ (T.new hp)⟩
theorem i_call {sp : Sp} {E : XK} (h : tx σ H fun vs H1 => sp vs H1 Q E) : tCall sp [] E tx σ H Q := by
  have e : (fun (vs : List V) (H1 : Hp) => sp (vs ++ []) H1 Q E) = fun vs H1 => sp vs H1 Q E := by
    funext vs H1
    rw [List.append_nil]
  show tx σ H fun vs H1 => sp (vs ++ []) H1 Q E
  rw [e]
  exact h
theorem i_cb {r : List V → Hp → VK → Prop} (h : tx σ H fun vs H1 => r vs H1 Q) : tCB r tx σ H Q := h
theorem i_len (h1 : SqL K H a xs) (h : Q (.int xs.length) H) : rLen K [.ref a] H Q := ⟨a, xs, rfl, .inl h1, h⟩
theorem i_lenI (h1 : SqL K H a (ns.map V.int)) (h : Q (.int ns.length) H) : rLen K [.ref a] H Q := i_len h1 (by rw [List.length_map]; exact h)
theorem i_lenT (h1 : SqT K H a xs) (h : Q (.int xs.length) H) : rLen K [.ref a] H Q := ⟨a, xs, rfl, .inr h1, h⟩
theorem i_abs (h : Q (.int (if i < 0 then -i else i)) H) : rAbs [.int i] H Q := ⟨i, rfl, h⟩
theorem i_max2 (h : Q (.int (max i j)) H) : rMax2 [.int i, .int j] H Q := ⟨i, j, rfl, by
  rw [show (if j > i then j else i) = max i j by split <;> omega]
  exact h⟩
theorem i_min2 (h : Q (.int (min i j)) H) : rMin2 [.int i, .int j] H Q := ⟨i, j, rfl, by
  rw [show (if j < i then j else i) = min i j by split <;> omega]
  exact h⟩
theorem i_intI (h : Q (.int i) H) : rInt1 [.int i] H Q := .inl ⟨i, rfl, h⟩
theorem i_intB {k : Bool} (h : Q (.int (if k then 1 else 0)) H) : rInt1 [.bl k] H Q := .inr ⟨k, rfl, h⟩
theorem i_list (T : Tr B L H) (h1 : SqL K H a xs) (h : ∀ p H', Tr B ((p, .lst xs) :: L) H' → Q (.ref p) H') : rListOf K [.ref a] H Q := ⟨a, xs, rfl, .inl h1, fun p hp => h p _ (T.new hp)⟩
theorem i_listT (T : Tr B L H) (h1 : SqT K H a xs) (h : ∀ p H', Tr B ((p, .lst xs) :: L) H' → Q (.ref p) H') : rListOf K [.ref a] H Q := ⟨a, xs, rfl, .inr h1, fun p hp => h p _ (T.new hp)⟩
theorem i_sum (h1 : SqL K H a (ns.map V.int)) (h : Q (.int ns.sum) H) : rSum K [.ref a] H Q := ⟨a, ns, rfl, h1, h⟩
theorem i_max (h1 : SqL K H a (ns.map V.int)) (h0 : 0 < ns.length) (h : ∀ m, m ∈ ns → (∀ y, y ∈ ns → y ≤ m) → Q (.int m) H) : rMax K [.ref a] H Q := ⟨a, ns, rfl, h1, h0, h⟩
theorem i_min (h1 : SqL K H a (ns.map V.int)) (h0 : 0 < ns.length) (h : ∀ m, m ∈ ns → (∀ y, y ∈ ns → m ≤ y) → Q (.int m) H) : rMin K [.ref a] H Q := ⟨a, ns, rfl, h1, h0, h⟩
theorem i_sorted (T : Tr B L H) (h1 : SqL K H a (ns.map V.int)) (h : ∀ (ms : List Int) p H', ms.Perm ns → ms.Pairwise (· ≤ ·) → Tr B ((p, .lst (ms.map V.int)) :: L) H' → Q (.ref p) H') : rSortedI K [.ref a] H Q :=
  ⟨a, ns, rfl, h1, fun ms p h2 h3 hp => h ms p _ h2 h3 (T.new hp)⟩
theorem i_repr {d : PyData} (h1 : Dp K H x d) (h2 : d.showable = true) (h3 : d.hasDict = false) (h4 : d.depth ≤ 60) (h5 : d.shown.length ≤ sizeLine) (h : Q (.str d.shown) H) : rRepr K [x] H Q := ⟨x, d, rfl, h1, h2, h3, h4, h5, h⟩
-- methods
theorem i_bm {T : String} {r : V → List V → Hp → VK → Prop} (h : to σ H fun x H1 => rMt K T r tx σ x H1 Q) : tBM K T r to tx σ H Q := h
theorem i_mtL {r : V → List V → Hp → VK → Prop} (h1 : SqL K H a xs) (h : tx σ H fun zs H2 => r (.ref a) zs H2 Q) : rMt K "list" r tx σ (.ref a) H Q := ⟨.inl ⟨rfl, xs, h1⟩, h⟩
theorem i_append (m : Nat) (T : Tr B L H) (h1 : L[m]? = some (a, .lst xs)) (hz : xs.length < sizeLine) (h : ∀ H', Tr B (L.set m (a, .lst (xs ++ [y]))) H' → Q .non H') : rAppend (.ref a) [y] H Q :=
  ⟨a, xs, y, rfl, rfl, T.get m h1, hz, h _ (T.put m h1)⟩
theorem i_setL (m : Nat) {l : Nat} {R : Hp → Prop} (T : Tr B L H) (h1 : L[m]? = some (a, .lst xs)) (h2 : ixN xs.length i = some l) (h : ∀ H', Tr B (L.set m (a, .lst (xs.set l v))) H' → R H') : rSetL (.ref a) (.int i) v H R :=
  ⟨a, xs, i, l, rfl, rfl, T.get m h1, h2, h _ (T.put m h1)⟩
-- slices
theorem i_sl {r : V → Option Int → Option Int → Hp → VK → Prop} {tl th : TO} (h : te σ H fun x H1 => tl σ H1 fun l H2 => th σ H2 fun u H3 => r x l u H3 Q) : tSl r te tl th σ H Q := h
theorem i_nopart {R : Option Int → Hp → Prop} (h : R none H) : tNoPart σ H R := h
def rPart (x : V) (H : Hp) (R : Option Int → Hp → Prop) : Prop := ∃ i, x = .int i ∧ R (some i) H
theorem i_part {R : Option Int → Hp → Prop} (h : te σ H fun x H1 => rPart x H1 R) : tPart te σ H R := h
theorem i_partI {R : Option Int → Hp → Prop} (h : R (some i) H) : rPart (.int i) H R := ⟨i, rfl, h⟩
theorem i_slL {lo hi : Option Int} (T : Tr B L H) (h1 : SqL K H a xs) (h : ∀ p H', Tr B ((p, .lst (cutV xs lo hi)) :: L) H' → Q (.ref p) H') : rSlL K (.ref a) lo hi H Q := ⟨a, xs, rfl, h1, fun p hp => h p _ (T.new hp)⟩
-- tests
section
variable {R : Bool → Hp → Prop}
theorem i_test (h : te σ H fun x H1 => rBl x H1 R) : tTest te σ H R := h
theorem i_tB (h : te σ H fun x H1 => rBl x H1 R) : tB te σ H R := h
theorem i_bl {k : Bool} (h : R k H) : rBl (.bl k) H R := ⟨k, rfl, h⟩
theorem i_and (h : c σ H fun b H1 => if b = true then tt σ H1 R else R false H1) : tAnd c tt σ H R := h
theorem i_or (h : c σ H fun b H1 => if b = true then R true H1 else tt σ H1 R) : tOr c tt σ H R := h
theorem i_not (h : c σ H fun b H1 => R (!b) H1) : tNot c σ H R := h
end
def rBlV (x : V) (H : Hp) (R : Bool → Hp → Prop) : Prop := ∃ k, x = .bl k ∧ R k H
theorem i_andV (h : ta σ H fun x H1 => rBl x H1 fun k H2 => if k = true then tb σ H2 Q else Q (.bl false) H2) : tAndV ta tb σ H Q := h
theorem i_orV (h : ta σ H fun x H1 => rBl x H1 fun k H2 => if k = true then Q (.bl true) H2 else tb σ H2 Q) : tOrV ta tb σ H Q := h
theorem i_notV (h : ta σ H fun x H1 => rBl x H1 fun k H2 => Q (.bl (!k)) H2) : tNotV ta σ H Q := h
theorem i_ifE (h : c σ H fun b H1 => if b = true then ta σ H1 Q else tb σ H1 Q) : tIf c ta tb σ H Q := h
theorem i_chain (h : ta σ H fun x H1 => tb σ H1 fun y H2 => r x y H2 fun z H3 => rBl z H3 fun k H4 => if k = true then tc σ H4 fun w' H5 => r' y w' H5 Q else Q (.bl false) H4) : tChain r r' ta tb tc σ H Q := h
end

/-! ### branches -/
theorem i_T {A C : Prop} (h : A) : if true = true then A else C := by
  rw [if_pos rfl]
  exact h
theorem i_F {A C : Prop} (h : C) : if false = true then A else C := by
  rw [if_neg Bool.false_ne_true]
  exact h
theorem i_decT {p A C : Prop} [Decidable p] (hp : p) (h : A) : if decide p = true then A else C := by
  rw [if_pos (decide_eq_true hp)]
  exact h
theorem i_decF {p A C : Prop} [Decidable p] (hp : ¬ p) (h : C) : if decide p = true then A else C := by
  rw [if_neg (by rw [decide_eq_false hp]; exact Bool.false_ne_true)]
  exact h
theorem i_ndecT {p A C : Prop} [Decidable p] (hp : ¬ p) (h : A) : if (!decide p) = true then A else C := by
  rw [if_pos (by rw [decide_eq_false hp]; rfl)]
  exact h
theorem i_ndecF {p A C : Prop} [Decidable p] (hp : p) (h : C) : if (!decide p) = true then A else C := by
  rw [if_neg (by rw [decide_eq_true hp]; exact Bool.false_ne_true)]
  exact h
/-- both ways -/
theorem i_if {p A C : Prop} [Decidable p] (h1 : p → A) (h2 : ¬ p → C) : if decide p = true then A else C := by
  by_cases hp : p
  · exact i_decT hp (h1 hp)
  · exact i_decF hp (h2 hp)
theorem i_nif {p A C : Prop} [Decidable p] (h1 : ¬ p → A) (h2 : p → C) : if (!decide p) = true then A else C := by
  by_cases hp : p
  · exact i_ndecF hp (h2 hp)
  · exact i_ndecT hp (h1 hp)
theorem i_bif {b : Bool} {A C : Prop} (h1 : b = true → A) (h2 : b = false → C) : if b = true then A else C := by
  cases b with
  | true => exact i_T (h1 rfl)
  | false => exact i_F (h2 rfl)

/-! ### loops -/
section
variable {K : PySem.W.Frag} {H : Hp} {σ : L2.St} {nx bk ct : L2.St → Hp → Prop} {rt : VK} {g : TG} {tb : TS} {c : TT} {a : Addr} {xs : List V} {ns : List Int}
theorem f_list (Pv : Nat → L2.St → Hp → Prop) (h0 : Pv 0 σ H) (hl : ∀ i σ H, Pv i σ H → SqL K H a xs)
    (hs : ∀ i x σ H, xs[i]? = some x → Pv i σ H → g x σ H fun σ2 H2 => tb ⟨Pv (i + 1), rt, nx, Pv (i + 1)⟩ σ2 H2) (hd : ∀ σ H, Pv xs.length σ H → nx σ H) :
    rFor (Itl K a) g tb ⟨nx, rt, bk, ct⟩ σ H := for_list Pv h0 (fun i σ H _ h => hl i σ H h) hs hd
theorem f_ints (Pv : Nat → L2.St → Hp → Prop) (h0 : Pv 0 σ H) (hl : ∀ i σ H, Pv i σ H → SqL K H a (ns.map V.int))
    (hs : ∀ i n σ H, ns[i]? = some n → Pv i σ H → g (.int n) σ H fun σ2 H2 => tb ⟨Pv (i + 1), rt, nx, Pv (i + 1)⟩ σ2 H2) (hd : ∀ σ H, Pv ns.length σ H → nx σ H) :
    rFor (Itl K a) g tb ⟨nx, rt, bk, ct⟩ σ H := f_list (xs := ns.map V.int) Pv h0 hl (fun i x σ H e h => by
      rw [List.getElem?_map] at e
      cases z : ns[i]? with
      | none =>
        rw [z] at e
        cases e
      | some n =>
        rw [z] at e
        cases e
        exact hs i n σ H z h) (by rw [List.length_map]; exact hd)
theorem f_tup (Pv : Nat → L2.St → Hp → Prop) (h0 : Pv 0 σ H) (hl : ∀ i σ H, Pv i σ H → SqT K H a xs)
    (hs : ∀ i x σ H, xs[i]? = some x → Pv i σ H → g x σ H fun σ2 H2 => tb ⟨Pv (i + 1), rt, nx, Pv (i + 1)⟩ σ2 H2) (hd : ∀ σ H, Pv xs.length σ H → nx σ H) :
    rFor (Itt K a) g tb ⟨nx, rt, bk, ct⟩ σ H := for_tup Pv h0 (fun i σ H _ h => hl i σ H h) hs hd
theorem f_range {lo : Int} {n : Nat} (Pv : Nat → L2.St → Hp → Prop) (h0 : Pv 0 σ H)
    (hs : ∀ i σ H, i < n → Pv i σ H → g (.int (lo + i)) σ H fun σ2 H2 => tb ⟨Pv (i + 1), rt, nx, Pv (i + 1)⟩ σ2 H2) (hd : ∀ σ H, Pv n σ H → nx σ H) :
    rFor (Itr lo n) g tb ⟨nx, rt, bk, ct⟩ σ H := for_range Pv h0 hs hd
theorem f_rangeC {lo c : Int} {n : Nat} (Pv : Nat → L2.St → Hp → Prop) (h0 : Pv 0 σ H)
    (hs : ∀ i σ H, i < n → Pv i σ H → g (.int (lo + (i : Nat) * c)) σ H fun σ2 H2 => tb ⟨Pv (i + 1), rt, nx, Pv (i + 1)⟩ σ2 H2) (hd : ∀ σ H, Pv n σ H → nx σ H) :
    rFor (Itc lo c n) g tb ⟨nx, rt, bk, ct⟩ σ H := for_rangeC Pv h0 hs hd
/-- enumerate: a new pair each turn -/
theorem f_enum (Pv : Nat → L2.St → Hp → Prop) (h0 : Pv 0 σ H) (hl : ∀ i σ H, Pv i σ H → SqL K H a xs)
    (hs : ∀ i x σ H p, xs[i]? = some x → Pv i σ H → H p = none → g (.ref p) σ (upd H p (.tup [.int i, x])) fun σ2 H2 => tb ⟨Pv (i + 1), rt, nx, Pv (i + 1)⟩ σ2 H2)
    (hd : ∀ σ H, Pv xs.length σ H → nx σ H) : rFor (Ite K a) g tb ⟨nx, rt, bk, ct⟩ σ H := by
  refine ⟨fun i m σ H => m = xs.length - i ∧ i ≤ xs.length ∧ Pv i σ H, ⟨xs.length, by simp, Nat.zero_le _, h0⟩, ?_⟩
  rintro i m σ H ⟨rfl, hi, p⟩
  have q := hl i σ H p
  by_cases hlt : i < xs.length
  · refine .inr ⟨⟨xs, xs[i], q, by simp [hlt]⟩, Pv (i + 1), fun σ' H' p' => ⟨xs.length - (i + 1), by omega, rfl, hlt, p'⟩, fun x H' y => ?_⟩
    obtain ⟨T, v, rfl, hT, rfl, fv⟩ := y
    exact hs i v σ H T (fv xs q) p hT
  · have e : i = xs.length := by omega
    subst e
    exact .inl ⟨⟨xs, q, Nat.le_refl _⟩, hd σ H p⟩
/-- while, its invariant with a number that falls -/
def rTurn (Pv : Nat → L2.St → Hp → Prop) (m : Nat) (tb : TS) (D : Ends) (σ : L2.St) (H : Hp) : Prop :=
  ∃ N : L2.St → Hp → Prop, (∀ σ' H', N σ' H' → ∃ m', m' < m ∧ Pv m' σ' H') ∧ tb ⟨N, D.rt, D.nx, N⟩ σ H
theorem i_turn {Pv : Nat → L2.St → Hp → Prop} {m : Nat}
    (h : tb ⟨fun σ' H' => ∃ m', m' < m ∧ Pv m' σ' H', rt, nx, fun σ' H' => ∃ m', m' < m ∧ Pv m' σ' H'⟩ σ H) : rTurn Pv m tb ⟨nx, rt, bk, ct⟩ σ H := ⟨_, fun _ _ z => z, h⟩
theorem f_while (Pv : Nat → L2.St → Hp → Prop) (h0 : ∃ m, Pv m σ H)
    (hs : ∀ m σ H, Pv m σ H → c σ H fun b H1 => if b = true then rTurn Pv m tb ⟨nx, rt, bk, ct⟩ σ H1 else nx σ H1) : tWhile c tb ⟨nx, rt, bk, ct⟩ σ H :=
  ⟨Pv, h0, hs⟩
/-- if, its ways joined behind it -/
theorem f_cut {t u : TS} (Mid : L2.St → Hp → Prop) (h1 : t ⟨Mid, rt, bk, ct⟩ σ H) (h2 : ∀ σ' H', Mid σ' H' → u ⟨nx, rt, bk, ct⟩ σ' H') : C8.tCut t u ⟨nx, rt, bk, ct⟩ σ H := ⟨Mid, h1, h2⟩
end

/-! ### comprehensions -/
section
variable {K : PySem.W.Frag} {B H : Hp} {L : List (Addr × HO)} {σ : L2.St} {g : TG} {tt : TT} {te : TE} {vs : List Nat} {Q : VK} {a b : Addr} {xs ys : List V} {ns : List Int} {wi : TI}
theorem i_lc (h : wi σ H fun J H1 => rLc J g tt te vs σ H1 Q) : tLc wi g tt te vs σ H Q := h
theorem i_yes {R : Bool → Hp → Prop} (h : R true H) : tYes σ H R := h
theorem i_wipe {σ2 : L2.St} {P : Prop} (e : wipe σ2 vs = wipe σ vs) (h : P) : wipe σ2 vs = wipe σ vs ∧ P := ⟨e, h⟩
theorem i_elt (m : Nat) {D : Addr} {acc : List V} {Nx : Hp → Prop} {y : V} (T : Tr B L H) (h1 : L[m]? = some (D, .lst acc)) (hz : acc.length < sizeLine)
    (h : ∀ H', Tr B (L.set m (D, .lst (acc ++ [y]))) H' → Nx H') : rElt D Nx y H := ⟨acc, T.get m h1, hz, h _ (T.put m h1)⟩
theorem c_list (T : Tr B L H) (Pv : Addr → Nat → Hp → Prop) (h0 : ∀ D H', Tr B ((D, .lst []) :: L) H' → Pv D 0 H')
    (hl : ∀ D i H, Pv D i H → SqL K H a xs)
    (hs : ∀ D i x H, xs[i]? = some x → Pv D i H → g x (wipe σ vs) H fun σ2 H2 => wipe σ2 vs = wipe σ vs ∧ tt σ2 H2 fun b H3 =>
      if b = true then te σ2 H3 (rElt D (Pv D (i + 1))) else Pv D (i + 1) H3)
    (hd : ∀ D H', Pv D xs.length H' → Q (.ref D) H') : rLc (Itl K a) g tt te vs σ H Q := fun D hD =>
  lc_list (Pv D) (h0 D _ (T.new hD)) (fun i H _ h => hl D i H h) (hs D) (hd D)
theorem c_ints (T : Tr B L H) (Pv : Addr → Nat → Hp → Prop) (h0 : ∀ D H', Tr B ((D, .lst []) :: L) H' → Pv D 0 H')
    (hl : ∀ D i H, Pv D i H → SqL K H a (ns.map V.int))
    (hs : ∀ D i n H, ns[i]? = some n → Pv D i H → g (.int n) (wipe σ vs) H fun σ2 H2 => wipe σ2 vs = wipe σ vs ∧ tt σ2 H2 fun b H3 =>
      if b = true then te σ2 H3 (rElt D (Pv D (i + 1))) else Pv D (i + 1) H3)
    (hd : ∀ D H', Pv D ns.length H' → Q (.ref D) H') : rLc (Itl K a) g tt te vs σ H Q :=
  c_list (xs := ns.map V.int) T Pv h0 hl (fun D i x H e h => by
    rw [List.getElem?_map] at e
    cases z : ns[i]? with
    | none =>
      rw [z] at e
      cases e
    | some n =>
      rw [z] at e
      cases e
      exact hs D i n H z h) (by rw [List.length_map]; exact hd)
theorem c_range {lo : Int} {n : Nat} (T : Tr B L H) (Pv : Addr → Nat → Hp → Prop) (h0 : ∀ D H', Tr B ((D, .lst []) :: L) H' → Pv D 0 H')
    (hs : ∀ D i H, i < n → Pv D i H → g (.int (lo + i)) (wipe σ vs) H fun σ2 H2 => wipe σ2 vs = wipe σ vs ∧ tt σ2 H2 fun b H3 =>
      if b = true then te σ2 H3 (rElt D (Pv D (i + 1))) else Pv D (i + 1) H3)
    (hd : ∀ D H', Pv D n H' → Q (.ref D) H') : rLc (Itr lo n) g tt te vs σ H Q := fun D hD =>
  lc_range (Pv D) (h0 D _ (T.new hD)) (hs D) (hd D)
/-- over a zip: as long as both have items -/
theorem c_zip (T : Tr B L H) (Pv : Addr → Nat → Hp → Prop) (h0 : ∀ D H', Tr B ((D, .lst []) :: L) H' → Pv D 0 H')
    (hl : ∀ D i H, Pv D i H → SqL K H a xs ∧ SqL K H b ys) (hlen : xs.length = ys.length)
    (hs : ∀ D i x y H p, xs[i]? = some x → ys[i]? = some y → Pv D i H → H p = none → g (.ref p) (wipe σ vs) (upd H p (.tup [x, y])) fun σ2 H2 => wipe σ2 vs = wipe σ vs ∧ tt σ2 H2 fun b H3 =>
      if b = true then te σ2 H3 (rElt D (Pv D (i + 1))) else Pv D (i + 1) H3)
    (hd : ∀ D H', Pv D xs.length H' → Q (.ref D) H') : rLc (Itz K a b) g tt te vs σ H Q := fun D hD => by
  refine ⟨fun i m H => m = xs.length - i ∧ i ≤ xs.length ∧ Pv D i H, ⟨xs.length, by simp, Nat.zero_le _, h0 D _ (T.new hD)⟩, ?_⟩
  rintro i m H ⟨rfl, hi, p⟩
  obtain ⟨q1, q2⟩ := hl D i H p
  by_cases hlt : i < xs.length
  · have hy : i < ys.length := by omega
    refine .inr ⟨⟨xs, ys, xs[i], ys[i], q1, q2, by simp [hlt], by simp [hy]⟩, Pv D (i + 1), fun H' p' => ⟨xs.length - (i + 1), by omega, rfl, hlt, p'⟩, fun x H' y => ?_⟩
    obtain ⟨t, u, v, rfl, hT, rfl, f1, f2⟩ := y
    exact hs D i u v H t (f1 xs q1) (f2 ys q2) p hT
  · have e : i = xs.length := by omega
    subst e
    exact .inl ⟨⟨xs, ys, q1, q2, .inl (Nat.le_refl _)⟩, hd D H p⟩
theorem c_enum (T : Tr B L H) (Pv : Addr → Nat → Hp → Prop) (h0 : ∀ D H', Tr B ((D, .lst []) :: L) H' → Pv D 0 H')
    (hl : ∀ D i H, Pv D i H → SqL K H a xs)
    (hs : ∀ D i x H p, xs[i]? = some x → Pv D i H → H p = none → g (.ref p) (wipe σ vs) (upd H p (.tup [.int i, x])) fun σ2 H2 => wipe σ2 vs = wipe σ vs ∧ tt σ2 H2 fun b H3 =>
      if b = true then te σ2 H3 (rElt D (Pv D (i + 1))) else Pv D (i + 1) H3)
    (hd : ∀ D H', Pv D xs.length H' → Q (.ref D) H') : rLc (Ite K a) g tt te vs σ H Q := fun D hD => by
  refine ⟨fun i m H => m = xs.length - i ∧ i ≤ xs.length ∧ Pv D i H, ⟨xs.length, by simp, Nat.zero_le _, h0 D _ (T.new hD)⟩, ?_⟩
  rintro i m H ⟨rfl, hi, p⟩
  have q := hl D i H p
  by_cases hlt : i < xs.length
  · refine .inr ⟨⟨xs, xs[i], q, by simp [hlt]⟩, Pv D (i + 1), fun H' p' => ⟨xs.length - (i + 1), by omega, rfl, hlt, p'⟩, fun x H' y => ?_⟩
    obtain ⟨t, v, rfl, hT, rfl, fv⟩ := y
    exact hs D i v H t (fv xs q) p hT
  · have e : i = xs.length := by omega
    subst e
    exact .inl ⟨⟨xs, q, Nat.le_refl _⟩, hd D H p⟩
end

/-! ### the names of the built-ins, the defs -/
structure Blt (mg : Str → Option Value) : Prop where
  abs_ : mg "abs" = none
  all_ : mg "all" = none
  bool_ : mg "bool" = none
  dict_ : mg "dict" = none
  enumerate_ : mg "enumerate" = none
  int_ : mg "int" = none
  isinstance_ : mg "isinstance" = none
  len_ : mg "len" = none
  list_ : mg "list" = none
  max_ : mg "max" = none
  min_ : mg "min" = none
  range_ : mg "range" = none
  repr_ : mg "repr" = none
  set_ : mg "set" = none
  sorted_ : mg "sorted" = none
  str_ : mg "str" = none
  sum_ : mg "sum" = none
  tuple_ : mg "tuple" = none
  zip_ : mg "zip" = none
  ValueError_ : mg "ValueError" = none
theorem mkFn {P : Program} {w : World} {K : PySem.W.Frag} {mg : Str → Option Value} {base : Heap} {x qual : Str} {params : Arguments} {body : List Stmt} {scope : Scope}
    {f : Addr} {fd : FuncData} {ps : List Str} {k : Nat} {sp : Sp} (F : FunD K x qual params body scope [] [] f fd) (hm : mg x = some (.ref f))
    (hb : ∀ (kV doc pm : Value) (an : Option Addr) (cdv ct : Value) (us : List Value), us.length = ps.length →
      bindArgs (PySem.W.fnOf x qual params body scope .none kV doc pm an cdv ct) ⟨us, []⟩ = pure (ps.zip us))
    (G : FnG P w K mg base k f fd ps sp) : Fn P w K mg base k x ps sp := ⟨f, fd, hm, F.kp, F.bindsN hb, G⟩
end PB

namespace PB
open PySem PySem.Spec PyProof.Rows L2
/-! ### lists of ints as data -/
def dI (ns : List Int) : PyData := .list (ns.map .int)
theorem dp_all {K : PySem.W.Frag} {H : Hp} : ∀ ns : List Int, DpAll K H (ns.map V.int) (ns.map PyData.int)
  | [] => .nil
  | n :: ns => .cons (.int n) (dp_all ns)
theorem dp_ints {K : PySem.W.Frag} {H : Hp} {a : Addr} {ns : List Int} (h : SqL K H a (ns.map V.int)) : Dp K H (.ref a) (dI ns) := .lst h (dp_all ns)
theorem canLay_ints : ∀ ns : List Int, PyData.canLayAll0 (ns.map PyData.int) = true
  | [] => by simp [PyData.canLayAll0]
  | n :: ns => by
    simp only [List.map_cons, PyData.canLayAll0, PyData.canLay0, canLay_ints ns, Bool.and_self]
theorem depth_ints : ∀ ns : List Int, PyData.depthAll (ns.map PyData.int) = 0
  | [] => by simp [PyData.depthAll]
  | n :: ns => by
    simp only [List.map_cons, PyData.depthAll, PyData.depth, depth_ints ns, Nat.max_self]
theorem dI_depth (ns : List Int) : (dI ns).depth = 1 := by
  unfold dI
  rw [PyData.depth, depth_ints]
theorem shaped_ints (ns : List Int) : SeqAt.shaped (dI ns) = true := by
  unfold SeqAt.shaped
  rw [dI_depth]
  unfold dI
  rw [PyData.canLay0, canLay_ints]
  rfl
theorem showable_ints : ∀ ns : List Int, (∀ n ∈ ns, n.natAbs < 2 ^ 64) → PyData.showableAll (ns.map PyData.int) = true
  | [], _ => by simp [PyData.showableAll]
  | n :: ns, h => by
    have h1 : n.natAbs.log2 < 1920 := by
      have h2 := h n List.mem_cons_self
      have h3 : n.natAbs.log2 < 64 := PySem.Flt.log2_lt_of (by decide) h2
      omega
    simp only [List.map_cons, PyData.showableAll, PyData.showable, showable_ints ns (fun m hm => h m (List.mem_cons_of_mem _ hm)), Bool.and_true, decide_eq_true_eq]
    exact h1
theorem dI_showable {ns : List Int} (h : ∀ n ∈ ns, n.natAbs < 2 ^ 64) : (dI ns).showable = true := by
  unfold dI
  rw [PyData.showable, showable_ints ns h]
theorem nodict_ints : ∀ ns : List Int, PyData.hasDictAll (ns.map PyData.int) = false
  | [] => by simp [PyData.hasDictAll]
  | n :: ns => by
    simp only [List.map_cons, PyData.hasDictAll, PyData.hasDict, nodict_ints ns, Bool.or_self]
theorem dI_nodict (ns : List Int) : (dI ns).hasDict = false := by
  unfold dI
  rw [PyData.hasDict, nodict_ints]
theorem short_ints : ∀ ns : List Int, (∀ n ∈ ns, n.natAbs < 2 ^ 64) → PyData.leavesShortAll 65 (ns.map PyData.int) = true
  | [], _ => by simp [PyData.leavesShortAll]
  | n :: ns, h => by
    have h1 : (toString n).length ≤ 64 + 1 := int_text_length_le (by decide) (PySem.Flt.log2_lt_of (by decide) (h n List.mem_cons_self))
    simp only [List.map_cons, PyData.leavesShortAll, PyData.leavesShort, short_ints ns (fun m hm => h m (List.mem_cons_of_mem _ hm)), Bool.and_true, decide_eq_true_eq]
    show (Str.ofString (toString n)).length ≤ 65
    rw [PySem.ofString_length]
    exact h1
theorem weight_ints : ∀ ns : List Int, (∀ n ∈ ns, n.natAbs < 2 ^ 64) → PyData.weightAll (ns.map PyData.int) ≤ 66 * ns.length
  | [], _ => by simp [PyData.weightAll]
  | n :: ns, h => by
    have ih := weight_ints ns (fun m hm => h m (List.mem_cons_of_mem _ hm))
    have h3 : n.natAbs.log2 < 64 := PySem.Flt.log2_lt_of (by decide) (h n List.mem_cons_self)
    rw [List.map_cons, PyData.weightAll, PyData.weight, List.length_cons]
    split <;> omega
theorem dI_shown {ns : List Int} (h : ∀ n ∈ ns, n.natAbs < 2 ^ 64) (hl : ns.length ≤ 3000) : (dI ns).shown.length ≤ sizeLine := by
  have h1 : (dI ns).leavesShort 65 = true := by
    unfold dI
    rw [PyData.leavesShort, short_ints ns h]
  have h2 := PyData.shown_le 65 (by decide) (dI ns) h1
  have h3 : (dI ns).weight ≤ 66 * ns.length := by
    unfold dI
    rw [PyData.weight]
    exact weight_ints ns h
  rw [sizeLine_eq]
  have h4 : (65 + 2) * (dI ns).weight ≤ 67 * (66 * ns.length) := Nat.mul_le_mul_left _ h3
  omega
theorem eqv_ints : ∀ ns ms : List Int, PyData.eqvAll (ns.map .int) (ms.map .int) = decide (ns = ms)
  | [], [] => by simp [PyData.eqvAll]
  | [], m :: ms => by simp [PyData.eqvAll]
  | n :: ns, [] => by simp [PyData.eqvAll]
  | n :: ns, m :: ms => by
    rw [List.map_cons, List.map_cons, PyData.eqvAll, PyData.eqv, eqv_ints ns ms]
    by_cases h : n = m <;> by_cases h2 : ns = ms <;> simp [h, h2]
theorem dI_eqv (ns ms : List Int) : PyData.eqv (dI ns) (dI ms) = decide (ns = ms) := by
  unfold dI
  rw [PyData.eqv, eqv_ints]
section
variable {K : PySem.W.Frag} {B H : Hp} {Q : VK} {a b : Addr} {ns ms : List Int} {x : V}
theorem i_eqLI (h1 : SqL K H a (ns.map V.int)) (h2 : SqL K H b (ms.map V.int)) (h : Q (.bl (decide (ns = ms))) H) : rEqA K (.ref a) (.ref b) H Q :=
  i_eqD (dp_ints h1) (dp_ints h2) (shaped_ints _) (shaped_ints _) (by rw [dI_eqv]; exact h)
theorem i_neLI (h1 : SqL K H a (ns.map V.int)) (h2 : SqL K H b (ms.map V.int)) (h : Q (.bl (!decide (ns = ms))) H) : rNeA K (.ref a) (.ref b) H Q :=
  i_neD (dp_ints h1) (dp_ints h2) (shaped_ints _) (shaped_ints _) (by rw [dI_eqv]; exact h)
theorem i_eqLnil (h1 : SqL K H a (ns.map V.int)) (h2 : SqL K H b []) (h : Q (.bl (decide (ns = []))) H) : rEqA K (.ref a) (.ref b) H Q :=
  i_eqLI (ms := []) h1 h2 h
theorem i_neLnil (h1 : SqL K H a (ns.map V.int)) (h2 : SqL K H b []) (h : Q (.bl (!decide (ns = []))) H) : rNeA K (.ref a) (.ref b) H Q :=
  i_neLI (ms := []) h1 h2 h
/-- the text of a list of ints, kept closed -/
def txt (ns : List Int) : Str := (dI ns).shown
theorem i_reprI (h1 : SqL K H a (ns.map V.int)) (hn : ∀ n ∈ ns, n.natAbs < 2 ^ 64) (hl : ns.length ≤ 3000) (h : Q (.str (txt ns)) H) : rRepr K [.ref a] H Q :=
  i_repr (dp_ints h1) (dI_showable hn) (dI_nodict ns) (by rw [dI_depth]; decide) (dI_shown hn hl) h
theorem i_eqS {s t : Str} (h : Q (.bl (decide (s = t))) H) : rEqA K (.str s) (.str t) H Q := .inl ⟨rfl, by
  rw [show decide (V.str s = V.str t) = decide (s = t) by
    by_cases e : s = t
    · rw [decide_eq_true e, decide_eq_true (by rw [e])]
    · rw [decide_eq_false e, decide_eq_false (fun z => e (V.str.inj z))]]
  exact h⟩
theorem i_neS {s t : Str} (h : Q (.bl (!decide (s = t))) H) : rNeA K (.str s) (.str t) H Q := .inl ⟨rfl, by
  rw [show decide (V.str s = V.str t) = decide (s = t) by
    by_cases e : s = t
    · rw [decide_eq_true e, decide_eq_true (by rw [e])]
    · rw [decide_eq_false e, decide_eq_false (fun z => e (V.str.inj z))]]
  exact h⟩
theorem i_isi {T c : String} {k : Bool} (ht : TyX K H x (.type T)) (hk : kitB T c = some k) (h : Q (.bl k) H) : rIsi K [x, .ty c] H Q := ⟨x, .ty c, _, _, k, rfl, ClsV.ty c, ht, kit_ty hk, h⟩
theorem kit_ii : kitB "int" "int" = some true := by decide +kernel
theorem kit_ib : kitB "int" "bool" = some false := by decide +kernel
theorem i_isiI {n : Int} (h : Q (.bl true) H) : rIsi K [.int n, .ty "int"] H Q := i_isi (.base (.int n)) kit_ii h
theorem i_isiB {n : Int} (h : Q (.bl false) H) : rIsi K [.int n, .ty "bool"] H Q := i_isi (.base (.int n)) kit_ib h
end
/-! ### slices of lists of ints -/
theorem cut_map (ns : List Int) (lo hi : Option Int) : cutV (ns.map V.int) lo hi = (((ns.drop (HT.sIx ns.length 0 lo)).take (HT.sIx ns.length ns.length hi - HT.sIx ns.length 0 lo)).map V.int) := by
  unfold cutV
  rw [List.length_map, ← List.map_drop, ← List.map_take]
theorem sIx_of {n d : Nat} {i : Int} (h0 : 0 ≤ i) : HT.sIx n d (some i) = min i.toNat n := by
  show (if i < 0 then (i + (n : Int)).toNat else min i.toNat n) = min i.toNat n
  rw [if_neg (by omega)]
theorem rep_one {α : Type} (x : α) : ∀ n : Nat, (List.replicate n [x]).flatten = List.replicate n x
  | 0 => rfl
  | n + 1 => by rw [List.replicate_succ, List.flatten_cons, rep_one x n]; rfl
theorem i_nT {A C : Prop} (h : C) : if (!true) = true then A else C := by
  rw [if_neg (by decide)]
  exact h
theorem i_nF {A C : Prop} (h : A) : if (!false) = true then A else C := by
  rw [if_pos (by decide)]
  exact h
/-- the part of a list of ints -/
def cutI (ns : List Int) (lo hi : Option Int) : List Int := (ns.drop (HT.sIx ns.length 0 lo)).take (HT.sIx ns.length ns.length hi - HT.sIx ns.length 0 lo)
theorem cutI_length (ns : List Int) (lo hi : Option Int) : (cutI ns lo hi).length ≤ ns.length := by
  unfold cutI
  rw [List.length_take, List.length_drop]
  omega
theorem cutI_from (ns : List Int) {i : Int} (h0 : 0 ≤ i) : cutI ns (some i) none = ns.drop i.toNat := by
  unfold cutI
  rw [sIx_of h0, HT.sIx_none]
  by_cases h : i.toNat ≤ ns.length
  · rw [Nat.min_eq_left h, List.take_of_length_le (by rw [List.length_drop]; omega)]
  · rw [Nat.min_eq_right (by omega), List.drop_eq_nil_of_le (Nat.le_refl _), List.drop_eq_nil_of_le (by omega), List.take_nil]
theorem cutI_to (ns : List Int) {i : Int} (h0 : 0 ≤ i) : cutI ns none (some i) = ns.take i.toNat := by
  unfold cutI
  rw [sIx_of h0, HT.sIx_none]
  show ns.take (min i.toNat ns.length - 0) = _
  rw [Nat.sub_zero]
  by_cases h : i.toNat ≤ ns.length
  · rw [Nat.min_eq_left h]
  · rw [Nat.min_eq_right (by omega), List.take_of_length_le (Nat.le_refl _), List.take_of_length_le (by omega)]
theorem cutI_mid (ns : List Int) {i j : Int} (h0 : 0 ≤ i) (h1 : i ≤ j) (h2 : j ≤ ns.length) : cutI ns (some i) (some j) = (ns.drop i.toNat).take (j.toNat - i.toNat) := by
  unfold cutI
  rw [sIx_of h0, sIx_of (by omega), Nat.min_eq_left (by omega), Nat.min_eq_left (by omega)]
section
variable {K : PySem.W.Frag} {B H : Hp} {L : List (Addr × HO)} {Q : VK} {a b p : Addr} {ns ms : List Int} {x y n i k : Int} {te : TE} {σ : L2.St}
theorem i_tLE (h : te σ H fun x H1 => rLE K x H1 Q) : tLE K te σ H Q := h
theorem i_lst1 (T : Tr B L H) (h : ∀ p H', Tr B ((p, .lst ([x].map V.int)) :: L) H' → Q (.ref p) H') : rLst [.int x] H Q := i_lst T (show 1 ≤ sizeLine by decide) h
theorem i_lst2 (T : Tr B L H) (h : ∀ p H', Tr B ((p, .lst ([x, y].map V.int)) :: L) H' → Q (.ref p) H') : rLst [.int x, .int y] H Q := i_lst T (show 2 ≤ sizeLine by decide) h
theorem i_repI (T : Tr B L H) (h1 : H a = some (.lst ([x].map V.int))) (hk : -(2 ^ 63) ≤ k) (hk2 : k < 2 ^ 63) (hz : k.toNat ≤ sizeLine)
    (h : ∀ p H', Tr B ((p, .lst ((List.replicate k.toNat x).map V.int)) :: L) H' → Q (.ref p) H') : rMulA (.ref a) (.int k) H Q :=
  i_rep (xs := [.int x]) T h1 hk hk2 (by rw [List.length_singleton, Nat.one_mul]; exact hz) (by
    rw [rep_one, ← List.map_replicate]
    exact h)
theorem i_catI (T : Tr B L H) (h1 : H a = some (.lst (ns.map V.int))) (h2 : H b = some (.lst (ms.map V.int))) (hz : ns.length + ms.length ≤ sizeLine)
    (h : ∀ p H', Tr B ((p, .lst ((ns ++ ms).map V.int)) :: L) H' → Q (.ref p) H') : rAddA (.ref a) (.ref b) H Q :=
  i_cat T h1 h2 (by rw [List.length_map, List.length_map]; exact hz) (by rw [← List.map_append]; exact h)
theorem i_slI {lo hi : Option Int} (T : Tr B L H) (h1 : SqL K H a (ns.map V.int)) (h : ∀ p H', Tr B ((p, .lst ((cutI ns lo hi).map V.int)) :: L) H' → Q (.ref p) H') : rSlL K (.ref a) lo hi H Q :=
  i_slL T h1 (by rw [cut_map]; exact h)
theorem i_appendI (m : Nat) (T : Tr B L H) (h1 : L[m]? = some (a, .lst (ns.map V.int))) (hz : ns.length < sizeLine) (h : ∀ H', Tr B (L.set m (a, .lst ((ns ++ [n]).map V.int))) H' → Q .non H') : rAppend (.ref a) [.int n] H Q :=
  i_append m T h1 (by rw [List.length_map]; exact hz) (by
    rw [List.map_append] at h
    exact h)
theorem i_eltI (m : Nat) {D : Addr} {Nx : Hp → Prop} (T : Tr B L H) (h1 : L[m]? = some (D, .lst (ns.map V.int))) (hz : ns.length < sizeLine)
    (h : ∀ H', Tr B (L.set m (D, .lst ((ns ++ [n]).map V.int))) H' → Nx H') : rElt D Nx (.int n) H :=
  i_elt m T h1 (by rw [List.length_map]; exact hz) (by
    rw [List.map_append] at h
    exact h)
theorem ixN_int {n : Nat} {i : Int} (h0 : 0 ≤ i) (h1 : i < n) : ixN n i = some i.toNat := by
  unfold ixN
  rw [if_pos h0, if_pos h1]
theorem i_setI (m : Nat) {R : Hp → Prop} (T : Tr B L H) (h1 : L[m]? = some (a, .lst (ns.map V.int))) (h0 : 0 ≤ i) (h2 : i < ns.length)
    (h : ∀ H', Tr B (L.set m (a, .lst ((ns.set i.toNat n).map V.int))) H' → R H') : rSetL (.ref a) (.int i) (.int n) H R :=
  i_setL m (l := i.toNat) T h1 (ixN_int h0 (by rw [List.length_map]; exact h2)) (by
    rw [List.map_set] at h
    exact h)
end
/-- a call changes one object and lays a new one -/
theorem Tr.butAdd {B H H' : Hp} {L : List (Addr × HO)} {a p : Addr} {o o' u : HO} (T : Tr B L H) (i : Nat) (h : L[i]? = some (a, o)) (s : But [a] H H') (e : H' a = some o') (hp : H p = none) (e2 : H' p = some u) :
    Tr B ((p, u) :: L.set i (a, o')) H' := by
  have T1 := T.but i h s e
  have T2 := T.new (o := u) hp
  refine ⟨T1.base, fun q hq => ?_, fun q hq => ?_, ?_⟩
  · rcases List.mem_cons.mp hq with rfl | hq
    · exact e2
    · exact T1.at_ q hq
  · rcases List.mem_cons.mp hq with rfl | hq
    · exact T2.off (p, u) List.mem_cons_self
    · exact T1.off q hq
  · show (p :: (L.set i (a, o')).map (·.1)).Nodup
    rw [set_keys L i h]
    exact T2.nd
theorem get_mem {ns : List Int} {v : Int} (h0 : 0 ≤ v) (h1 : v < ns.length) : ns[v.toNat]! ∈ ns := by
  rw [List.getElem!_eq_getElem?_getD, List.getElem?_eq_getElem (by omega)]
  exact List.getElem_mem _
theorem get_bnd {ns : List Int} {lo hi : Int} (h : ∀ n ∈ ns, lo ≤ n ∧ n ≤ hi) {v : Int} (h0 : 0 ≤ v) (h1 : v < ns.length) : lo ≤ ns[v.toNat]! ∧ ns[v.toNat]! ≤ hi := h _ (get_mem h0 h1)

theorem Tr.swapDrop2 {B H : Hp} {x y : Addr × HO} {L : List (Addr × HO)} (T : Tr B (x :: y :: L) H) : Tr B (y :: L) H := T.drop
theorem Tr.swapDrop {B H : Hp} {x y : Addr × HO} {L : List (Addr × HO)} (T : Tr B (x :: y :: L) H) : Tr B (x :: L) H := by
  refine ⟨T.base, fun q hq => ?_, fun q hq => ?_, ?_⟩
  · rcases List.mem_cons.mp hq with rfl | hq
    · exact T.at_ _ List.mem_cons_self
    · exact T.at_ q (List.mem_cons_of_mem _ (List.mem_cons_of_mem _ hq))
  · rcases List.mem_cons.mp hq with rfl | hq
    · exact T.off _ List.mem_cons_self
    · exact T.off q (List.mem_cons_of_mem _ (List.mem_cons_of_mem _ hq))
  · have h := T.nd
    rw [List.map_cons, List.map_cons] at h
    rw [List.map_cons]
    obtain ⟨h1, h2⟩ := List.nodup_cons.mp h
    obtain ⟨h3, h4⟩ := List.nodup_cons.mp h2
    exact List.nodup_cons.mpr ⟨fun z => h1 (List.mem_cons_of_mem _ z), h4⟩
end PB

namespace PB
open PySem PySem.Spec PyProof.Rows L2
/-! ### the steps that ask nothing, found by the goal's head -/
class Step (P : Prop) (P' : outParam Prop) : Prop where
  h : P' → P
section
variable {K : PySem.W.Frag} {H : Hp} {σ : L2.St} {Q : VK} {t u : TS} {ta tb tc te to ti : TE} {tx : TA} {c tt : TT} {r r' : R2} {x y v w : V} {i j : Int} {xs : List V} {nx bk ct : L2.St → Hp → Prop} {rt : VK}
instance : Step (tSeq t u ⟨nx, rt, bk, ct⟩ σ H) (t ⟨u ⟨nx, rt, bk, ct⟩, rt, bk, ct⟩ σ H) := ⟨i_seq⟩
instance : Step (tNext ⟨nx, rt, bk, ct⟩ σ H) (nx σ H) := ⟨i_next⟩
instance : Step (tBreak ⟨nx, rt, bk, ct⟩ σ H) (bk σ H) := ⟨i_break⟩
instance : Step (tCont ⟨nx, rt, bk, ct⟩ σ H) (ct σ H) := ⟨i_cont⟩
instance : Step (tDrop te ⟨nx, rt, bk, ct⟩ σ H) (te σ H fun _ H1 => nx σ H1) := ⟨i_drop⟩
instance : Step (tRet te ⟨nx, rt, bk, ct⟩ σ H) (te σ H rt) := ⟨i_ret⟩
instance : Step (tRetN ⟨nx, rt, bk, ct⟩ σ H) (rt .non H) := ⟨i_retN⟩
instance : Step (tIfS c t u ⟨nx, rt, bk, ct⟩ σ H) (c σ H fun b H1 => if b = true then t ⟨nx, rt, bk, ct⟩ σ H1 else u ⟨nx, rt, bk, ct⟩ σ H1) := ⟨i_ifS⟩
instance {g : TG} : Step (tAsg te g ⟨nx, rt, bk, ct⟩ σ H) (te σ H fun x H1 => g x σ H1 nx) := ⟨i_asg⟩
instance {wi : TI} {g : TG} {tb : TS} : Step (tFor wi g tb ⟨nx, rt, bk, ct⟩ σ H) (wi σ H fun J H1 => rFor J g tb ⟨nx, rt, bk, ct⟩ σ H1) := ⟨i_for⟩
instance {m : Nat} {R : L2.St → Hp → Prop} : Step (gName m v σ H R) (R (σ.set m (some v)) H) := ⟨i_gName⟩
instance {n : Nat} {g : TGs} {R : L2.St → Hp → Prop} : Step (gTup K n g v σ H R) (rUnp K n g v σ H R) := ⟨i_gTup⟩
instance {g : TG} {gs : TGs} {R : L2.St → Hp → Prop} : Step (gCons g gs (x :: xs) σ H R) (g x σ H fun σ' H' => gs xs σ' H' R) := ⟨i_gCons⟩
instance {R : L2.St → Hp → Prop} : Step (gNil [] σ H R) (R σ H) := ⟨i_gNil⟩
instance {st : TSet} {R : L2.St → Hp → Prop} : Step (gSub to ti st v σ H R) (to σ H fun o H1 => ti σ H1 fun i H2 => st o i v H2 fun H3 => R σ H3) := ⟨i_gSub⟩
instance {f : Int → Int → Int} : Step (ipI f (.int i) (.int j) H Q) (Q (.int (f i j)) H) := ⟨i_ip⟩
section
variable {R : It → Hp → Prop}
instance : Step (iList K te σ H R) (te σ H fun x H1 => rItL K x H1 R) := ⟨i_iList⟩
instance : Step (iTup K te σ H R) (te σ H fun x H1 => rItT K x H1 R) := ⟨i_iTup⟩
instance : Step (iRng1 tx σ H R) (tx σ H fun vs H1 => rRg1 vs H1 R) := ⟨i_iRng1⟩
instance : Step (iRng2 tx σ H R) (tx σ H fun vs H1 => rRg2 vs H1 R) := ⟨i_iRng2⟩
instance : Step (iRng3 tx σ H R) (tx σ H fun vs H1 => rRg3 vs H1 R) := ⟨i_iRng3⟩
instance : Step (iEnum K tx σ H R) (tx σ H fun vs H1 => rEn K vs H1 R) := ⟨i_iEnum⟩
instance : Step (iZip K tx σ H R) (tx σ H fun vs H1 => rZp K vs H1 R) := ⟨i_iZip⟩
end
instance : Step (tC v σ H Q) (Q v H) := ⟨i_c⟩
instance : Step (tOp r ta tb σ H Q) (ta σ H fun x H1 => tb σ H1 fun y H2 => r x y H2 Q) := ⟨i_op⟩
instance {r : V → Hp → VK → Prop} : Step (tUn r ta σ H Q) (ta σ H fun x H1 => r x H1 Q) := ⟨i_un⟩
instance {g : Int → V} : Step (rU g (.int i) H Q) (Q (g i) H) := ⟨i_rU⟩
instance {g : Int → Int → V} : Step (rI0 g (.int i) (.int j) H Q) (Q (g i j) H) := ⟨i_I0⟩
instance : Step (rAddA (.int i) (.int j) H Q) (Q (.int (i + j)) H) := ⟨i_addI⟩
instance : Step (rEqA K (.int i) (.int j) H Q) (Q (.bl (decide (i = j))) H) := ⟨i_eqI⟩
instance : Step (rNeA K (.int i) (.int j) H Q) (Q (.bl (!decide (i = j))) H) := ⟨i_neI⟩
instance {a b : Bool} : Step (rEqA K (.bl a) (.bl b) H Q) (Q (.bl (decide (a = b))) H) := ⟨i_eqB⟩
instance {a b : Bool} : Step (rNeA K (.bl a) (.bl b) H Q) (Q (.bl (!decide (a = b))) H) := ⟨i_neB⟩
instance {s t : Str} : Step (rEqA K (.str s) (.str t) H Q) (Q (.bl (decide (s = t))) H) := ⟨i_eqS⟩
instance {s t : Str} : Step (rNeA K (.str s) (.str t) H Q) (Q (.bl (!decide (s = t))) H) := ⟨i_neS⟩
theorem i_isNI (h : Q (.bl false) H) : rIsN (.int i) .non H Q := i_isN h
theorem i_isNR {a : Addr} (h : Q (.bl false) H) : rIsN (.ref a) .non H Q := i_isN h
theorem i_isNN (h : Q (.bl true) H) : rIsN .non .non H Q := i_isN h
theorem i_notNI (h : Q (.bl true) H) : rNotN (.int i) .non H Q := i_notN h
theorem i_notNR {a : Addr} (h : Q (.bl true) H) : rNotN (.ref a) .non H Q := i_notN h
theorem i_notNN (h : Q (.bl false) H) : rNotN .non .non H Q := i_notN h
instance : Step (rIsN (.int i) .non H Q) (Q (.bl false) H) := ⟨i_isNI⟩
instance {a : Addr} : Step (rIsN (.ref a) .non H Q) (Q (.bl false) H) := ⟨i_isNR⟩
instance : Step (rIsN .non .non H Q) (Q (.bl true) H) := ⟨i_isNN⟩
instance : Step (rNotN (.int i) .non H Q) (Q (.bl true) H) := ⟨i_notNI⟩
instance {a : Addr} : Step (rNotN (.ref a) .non H Q) (Q (.bl true) H) := ⟨i_notNR⟩
instance : Step (rNotN .non .non H Q) (Q (.bl false) H) := ⟨i_notNN⟩
instance {R : List V → Hp → Prop} : Step (tCons te tx σ H R) (te σ H fun x H1 => tx σ H1 fun xs H2 => R (x :: xs) H2) := ⟨i_tcons⟩
instance {R : List V → Hp → Prop} : Step (tNil σ H R) (R [] H) := ⟨i_tnil⟩
instance : Step (tTup tx σ H Q) (tx σ H fun xs H1 => rTup xs H1 Q) := ⟨i_ttup⟩
instance : Step (tLst tx σ H Q) (tx σ H fun xs H1 => rLst xs H1 Q) := ⟨i_tlst⟩
instance {sp : Sp} {E : XK} : Step (tCall sp [] E tx σ H Q) (tx σ H fun vs H1 => sp vs H1 Q E) := ⟨i_call⟩
instance {r : List V → Hp → VK → Prop} : Step (tCB r tx σ H Q) (tx σ H fun vs H1 => r vs H1 Q) := ⟨i_cb⟩
instance : Step (rAbs [.int i] H Q) (Q (.int (if i < 0 then -i else i)) H) := ⟨i_abs⟩
instance : Step (rMax2 [.int i, .int j] H Q) (Q (.int (max i j)) H) := ⟨i_max2⟩
instance : Step (rMin2 [.int i, .int j] H Q) (Q (.int (min i j)) H) := ⟨i_min2⟩
instance : Step (rInt1 [.int i] H Q) (Q (.int i) H) := ⟨i_intI⟩
instance {k : Bool} : Step (rInt1 [.bl k] H Q) (Q (.int (if k then 1 else 0)) H) := ⟨i_intB⟩
instance : Step (rIsi K [.int i, .ty "int"] H Q) (Q (.bl true) H) := ⟨i_isiI⟩
instance : Step (rIsi K [.int i, .ty "bool"] H Q) (Q (.bl false) H) := ⟨i_isiB⟩
instance {T : String} {r : V → List V → Hp → VK → Prop} : Step (tBM K T r to tx σ H Q) (to σ H fun x H1 => rMt K T r tx σ x H1 Q) := ⟨i_bm⟩
instance {r : V → Option Int → Option Int → Hp → VK → Prop} {tl th : TO} : Step (tSl r te tl th σ H Q) (te σ H fun x H1 => tl σ H1 fun l H2 => th σ H2 fun u H3 => r x l u H3 Q) := ⟨i_sl⟩
instance {R : Option Int → Hp → Prop} : Step (tNoPart σ H R) (R none H) := ⟨i_nopart⟩
instance {R : Option Int → Hp → Prop} : Step (tPart te σ H R) (te σ H fun x H1 => rPart x H1 R) := ⟨i_part⟩
instance {R : Option Int → Hp → Prop} : Step (rPart (.int i) H R) (R (some i) H) := ⟨i_partI⟩
instance {R : Bool → Hp → Prop} : Step (tTest te σ H R) (te σ H fun x H1 => rBl x H1 R) := ⟨i_test⟩
instance {R : Bool → Hp → Prop} : Step (tB te σ H R) (te σ H fun x H1 => rBl x H1 R) := ⟨i_tB⟩
instance {R : Bool → Hp → Prop} {k : Bool} : Step (rBl (.bl k) H R) (R k H) := ⟨i_bl⟩
instance {R : Bool → Hp → Prop} : Step (tAnd c tt σ H R) (c σ H fun b H1 => if b = true then tt σ H1 R else R false H1) := ⟨i_and⟩
instance {R : Bool → Hp → Prop} : Step (tOr c tt σ H R) (c σ H fun b H1 => if b = true then R true H1 else tt σ H1 R) := ⟨i_or⟩
instance {R : Bool → Hp → Prop} : Step (tNot c σ H R) (c σ H fun b H1 => R (!b) H1) := ⟨i_not⟩
instance : Step (tAndV ta tb σ H Q) (ta σ H fun x H1 => rBl x H1 fun k H2 => if k = true then tb σ H2 Q else Q (.bl false) H2) := ⟨i_andV⟩
instance : Step (tOrV ta tb σ H Q) (ta σ H fun x H1 => rBl x H1 fun k H2 => if k = true then Q (.bl true) H2 else tb σ H2 Q) := ⟨i_orV⟩
instance : Step (tNotV ta σ H Q) (ta σ H fun x H1 => rBl x H1 fun k H2 => Q (.bl (!k)) H2) := ⟨i_notV⟩
instance : Step (tIf c ta tb σ H Q) (c σ H fun b H1 => if b = true then ta σ H1 Q else tb σ H1 Q) := ⟨i_ifE⟩
instance : Step (tChain r r' ta tb tc σ H Q) (ta σ H fun x H1 => tb σ H1 fun y H2 => r x y H2 fun z H3 => rBl z H3 fun k H4 => if k = true then tc σ H4 fun w' H5 => r' y w' H5 Q else Q (.bl false) H4) := ⟨i_chain⟩
instance {g : TG} {vs : List Nat} {wi : TI} : Step (tLc wi g tt te vs σ H Q) (wi σ H fun J H1 => rLc J g tt te vs σ H1 Q) := ⟨i_lc⟩
instance {R : Bool → Hp → Prop} : Step (tYes σ H R) (R true H) := ⟨i_yes⟩
instance : Step (tLE K te σ H Q) (te σ H fun x H1 => rLE K x H1 Q) := ⟨i_tLE⟩
instance {A C : Prop} : Step (if true = true then A else C) A := ⟨i_T⟩
instance {A C : Prop} : Step (if false = true then A else C) C := ⟨i_F⟩
instance {A C : Prop} : Step (if (!true) = true then A else C) C := ⟨i_nT⟩
instance {A C : Prop} : Step (if (!false) = true then A else C) A := ⟨i_nF⟩
instance {Pv : Nat → L2.St → Hp → Prop} {m : Nat} : Step (rTurn Pv m t ⟨nx, rt, bk, ct⟩ σ H) (t ⟨fun σ' H' => ∃ m', m' < m ∧ Pv m' σ' H', rt, nx, fun σ' H' => ∃ m', m' < m ∧ Pv m' σ' H'⟩ σ H) := ⟨i_turn⟩
/-! guards: is the head this one? -/
theorem g_var {m : Nat} (h : tVar m σ H Q) : tVar m σ H Q := h
theorem g_ix (h : rIx K x y H Q) : rIx K x y H Q := h
theorem g_len (h : rLen K xs H Q) : rLen K xs H Q := h
theorem g_add (h : rAddA x y H Q) : rAddA x y H Q := h
theorem g_mul (h : rMulA x y H Q) : rMulA x y H Q := h
theorem g_I {C : Int → Int → Prop} {g : Int → Int → V} (h : rI C g x y H Q) : rI C g x y H Q := h
theorem g_eq (h : rEqA K x y H Q) : rEqA K x y H Q := h
theorem g_ne (h : rNeA K x y H Q) : rNeA K x y H Q := h
theorem g_tup (h : rTup xs H Q) : rTup xs H Q := h
theorem g_lst (h : rLst xs H Q) : rLst xs H Q := h
theorem g_list (h : rListOf K xs H Q) : rListOf K xs H Q := h
theorem g_sl {lo hi : Option Int} (h : rSlL K x lo hi H Q) : rSlL K x lo hi H Q := h
theorem g_mt {T : String} {r : V → List V → Hp → VK → Prop} (h : rMt K T r tx σ x H Q) : rMt K T r tx σ x H Q := h
theorem g_app (h : rAppend x xs H Q) : rAppend x xs H Q := h
theorem g_set {R : Hp → Prop} (h : rSetL x y v H R) : rSetL x y v H R := h
theorem g_elt {D : Addr} {Nx : Hp → Prop} (h : rElt D Nx y H) : rElt D Nx y H := h
theorem g_unp {n : Nat} {g : TGs} {R : L2.St → Hp → Prop} (h : rUnp K n g v σ H R) : rUnp K n g v σ H R := h
theorem g_itL {R : It → Hp → Prop} (h : rItL K x H R) : rItL K x H R := h
theorem g_itT {R : It → Hp → Prop} (h : rItT K x H R) : rItT K x H R := h
theorem g_en {R : It → Hp → Prop} (h : rEn K xs H R) : rEn K xs H R := h
theorem g_zp {R : It → Hp → Prop} (h : rZp K xs H R) : rZp K xs H R := h
theorem g_rg1 {R : It → Hp → Prop} (h : rRg1 xs H R) : rRg1 xs H R := h
theorem g_rg2 {R : It → Hp → Prop} (h : rRg2 xs H R) : rRg2 xs H R := h
theorem g_sum (h : rSum K xs H Q) : rSum K xs H Q := h
theorem g_repr (h : rRepr K xs H Q) : rRepr K xs H Q := h
theorem g_ite {b : Bool} {A C : Prop} (h : if b = true then A else C) : if b = true then A else C := h
theorem g_wipe {vs : List Nat} {σ2 : L2.St} {P : Prop} (h : wipe σ2 vs = wipe σ vs ∧ P) : wipe σ2 vs = wipe σ vs ∧ P := h
theorem g_aug {m : Nat} {ip : TIp} {D : Ends} (h : tAug m te ip D σ H) : tAug m te ip D σ H := h
theorem g_sp {sp : Sp} {E : XK} (h : sp xs H Q E) : sp xs H Q E := h
end
end PB

namespace PB
open PySem PySem.Spec PyProof.Rows L2
section
variable {K : PySem.W.Frag} {B H : Hp} {L : List (Addr × HO)} {σ : L2.St} {g : TG} {tt : TT} {te : TE} {vs : List Nat} {Q : VK} {a b : Addr} {xs ys : List V} {ns ms : List Int}
theorem Tr.pick {x : Addr × HO} (T : Tr B L H) (i : Nat) (h : L[i]? = some x) : Tr B [x] H :=
  ⟨T.base, fun q hq => by rw [List.mem_singleton.mp hq]; exact T.at_ _ (List.mem_of_getElem? h), fun q hq => by rw [List.mem_singleton.mp hq]; exact T.off _ (List.mem_of_getElem? h), by simp⟩
theorem Tr.head {x : Addr × HO} (T : Tr B (x :: L) H) : Tr B [x] H := T.pick 0 rfl
theorem Tr.nil (T : Tr B L H) : Tr B [] H := ⟨T.base, (fun _ h => nomatch h), (fun _ h => nomatch h), List.nodup_nil⟩
theorem Tr.apart {o u : HO} (T : Tr B L H) (i j : Nat) (h : L[i]? = some (a, o)) (h2 : L[j]? = some (b, u)) (n : i ≠ j) : a ≠ b := fun e => by
  refine n ((List.getElem?_inj (l := L.map (·.1)) ?_ T.nd).mp ?_)
  · rw [List.length_map]
    exact (List.getElem?_eq_some_iff.mp h).1
  · rw [List.getElem?_map, List.getElem?_map, h, h2, e]
    rfl
/-- comprehensions that make ints, each of one item, all else standing: F the whole result -/
abbrev NxI (B : Hp) (L : List (Addr × HO)) (F : List Int) (D : Addr) (j : Nat) (H : Hp) : Prop := ∃ v, F[j]? = some v ∧ Tr B ((D, .lst ((F.take j ++ [v]).map V.int)) :: L) H
theorem nx_take {F : List Int} {D : Addr} {j : Nat} (h : NxI B L F D j H) : Tr B ((D, .lst ((F.take (j + 1)).map V.int)) :: L) H := by
  obtain ⟨v, hv, T⟩ := h
  rw [List.take_add_one, hv]
  exact T
theorem elt_imp {D : Addr} {N M : Hp → Prop} {y : V} (h : rElt D N y H) (i : ∀ H, N H → M H) : rElt D M y H := by
  obtain ⟨acc, h1, h2, h3⟩ := h
  exact ⟨acc, h1, h2, i _ h3⟩
theorem c_intsF {F : List Int} (T : Tr B L H) (hl : ∀ D o H', Tr B ((D, o) :: L) H' → SqL K H' a (ns.map V.int)) (hF : F.length = ns.length)
    (hs : ∀ D j n H', ns[j]? = some n → Tr B ((D, .lst ((F.take j).map V.int)) :: L) H' → g (.int n) (wipe σ vs) H' fun σ2 H2 => wipe σ2 vs = wipe σ vs ∧ tYes σ2 H2 fun b H3 =>
      if b = true then te σ2 H3 (rElt D fun H4 => Tr B ((D, .lst ((F.take (j + 1)).map V.int)) :: L) H4) else Tr B ((D, .lst ((F.take (j + 1)).map V.int)) :: L) H3)
    (hd : ∀ D H', Tr B ((D, .lst (F.map V.int)) :: L) H' → Q (.ref D) H') : rLc (Itl K a) g tYes te vs σ H Q :=
  c_ints T (fun D j H => Tr B ((D, .lst ((F.take j).map V.int)) :: L) H) (fun D H' T => T) (fun D j H T => hl D _ H T) hs
    (fun D H' T => hd D H' (by rw [← hF, List.take_length] at T; exact T))
theorem c_rangeF {F : List Int} {lo : Int} {n : Nat} (T : Tr B L H) (hF : F.length = n)
    (hs : ∀ D j H', j < n → Tr B ((D, .lst ((F.take j).map V.int)) :: L) H' → g (.int (lo + j)) (wipe σ vs) H' fun σ2 H2 => wipe σ2 vs = wipe σ vs ∧ tYes σ2 H2 fun b H3 =>
      if b = true then te σ2 H3 (rElt D fun H4 => Tr B ((D, .lst ((F.take (j + 1)).map V.int)) :: L) H4) else Tr B ((D, .lst ((F.take (j + 1)).map V.int)) :: L) H3)
    (hd : ∀ D H', Tr B ((D, .lst (F.map V.int)) :: L) H' → Q (.ref D) H') : rLc (Itr lo n) g tYes te vs σ H Q :=
  c_range T (fun D j H => Tr B ((D, .lst ((F.take j).map V.int)) :: L) H) (fun D H' T => T) hs
    (fun D H' T => hd D H' (by rw [← hF, List.take_length] at T; exact T))
theorem map_at {i : Nat} {x : V} (h : (ns.map V.int)[i]? = some x) : ∃ n, x = .int n ∧ ns[i]? = some n := by
  rw [List.getElem?_map] at h
  cases e : ns[i]? with
  | none =>
    rw [e] at h
    cases h
  | some n =>
    rw [e] at h
    exact ⟨n, (Option.some.inj h).symm, rfl⟩
theorem c_zipF {F : List Int} (T : Tr B L H) (hl : ∀ D o H', Tr B ((D, o) :: L) H' → SqL K H' a (ns.map V.int)) (hl2 : ∀ D o H', Tr B ((D, o) :: L) H' → SqL K H' b (ms.map V.int))
    (hlen : ns.length = ms.length) (hF : F.length = ns.length)
    (hs : ∀ D j n m p H', ns[j]? = some n → ms[j]? = some m → Tr B ((p, .tup [.int n, .int m]) :: (D, .lst ((F.take j).map V.int)) :: L) H' → g (.ref p) (wipe σ vs) H' fun σ2 H2 => wipe σ2 vs = wipe σ vs ∧ tYes σ2 H2 fun b H3 =>
      if b = true then te σ2 H3 (rElt D fun H4 => Tr B ((D, .lst ((F.take (j + 1)).map V.int)) :: L) H4) else Tr B ((D, .lst ((F.take (j + 1)).map V.int)) :: L) H3)
    (hd : ∀ D H', Tr B ((D, .lst (F.map V.int)) :: L) H' → Q (.ref D) H') : rLc (Itz K a b) g tYes te vs σ H Q :=
  c_zip (xs := ns.map V.int) (ys := ms.map V.int) T (fun D j H => Tr B ((D, .lst ((F.take j).map V.int)) :: L) H) (fun D H' T => T) (fun D j H T => ⟨hl D _ H T, hl2 D _ H T⟩) (by simp [hlen])
    (fun D j x y H p hx hy T hp => by
      obtain ⟨n, rfl, hn⟩ := map_at hx
      obtain ⟨m, rfl, hm⟩ := map_at hy
      exact hs D j n m p _ hn hm (T.new hp))
    (fun D H' T => hd D H' (by rw [List.length_map, ← hF, List.take_length] at T; exact T))
/-- for over a range whose turns leave nothing but what the word says -/
theorem take_succ_get {F : List Int} {j : Nat} {v : Int} (h : F[j]? = some v) : F.take (j + 1) = F.take j ++ [v] := by
  rw [List.take_add_one, h]
  rfl
/-- a truth that does not matter -/
theorem i_andAny {p : Prop} [Decidable p] {tb : TE} (h2 : p → ∀ Q' : VK, (∀ b, Q' (.bl b) H) → tb σ H Q') (h : ∀ b, Q (.bl b) H) : if decide p = true then tb σ H Q else Q (.bl false) H := by
  by_cases hp : p
  · exact i_decT hp (h2 hp Q h)
  · exact i_decF hp (h false)
end
/-- a display of ints -/
class IsInts (xs : List V) (ns : outParam (List Int)) : Prop where
  e : xs = ns.map V.int
instance : IsInts [] [] := ⟨rfl⟩
instance {xs : List V} {ns : List Int} {n : Int} [h : IsInts xs ns] : IsInts (.int n :: xs) (n :: ns) := ⟨by rw [h.e]; rfl⟩
theorem i_lstC {B H : Hp} {L : List (Addr × HO)} {Q : VK} {xs : List V} {ns : List Int} [h : IsInts xs ns] (T : Tr B L H) (hz : ns.length ≤ sizeLine) (k : ∀ p H', Tr B ((p, .lst (ns.map V.int)) :: L) H' → Q (.ref p) H') : rLst xs H Q :=
  i_lst T (by rw [h.e, List.length_map]; exact hz) (by rw [h.e]; exact k)
/-- if, its ways joined behind it with like slots -/
theorem f_cutR {nx bk ct : L2.St → Hp → Prop} {rt : VK} {t u : TS} {σ : L2.St} {H : Hp} (R : Hp → Prop) {σ1 : L2.St} (h1 : t ⟨fun σ' H' => σ' = σ1 ∧ R H', rt, bk, ct⟩ σ H) (h2 : ∀ H', R H' → u ⟨nx, rt, bk, ct⟩ σ1 H') : C8.tCut t u ⟨nx, rt, bk, ct⟩ σ H :=
  f_cut (fun σ' H' => σ' = σ1 ∧ R H') h1 fun σ' H' ⟨e, r⟩ => by rw [e]; exact h2 H' r
/-! ### loops whose turns change some slots, and leave what stands -/
def NW {ω : Type} (W : ω → L2.St) (B : Hp) (L : List (Addr × HO)) (σ' : L2.St) (H' : Hp) : Prop := (∃ w, σ' = W w) ∧ Tr B L H'
section
variable {K : PySem.W.Frag} {B H : Hp} {L : List (Addr × HO)} {σ : L2.St} {nx bk ct : L2.St → Hp → Prop} {rt : VK} {g : TG} {tb : TS} {a : Addr} {xs : List V} {ns : List Int} {ω : Type}
theorem f_rangeW {lo : Int} {n : Nat} (W : L2.St → ω → L2.St) (w0 : ω) (e0 : σ = W σ w0) (T : Tr B L H)
    (hs : ∀ j w H', j < n → Tr B L H' → g (.int (lo + (j : Nat))) (W σ w) H' fun σ2 H2 => tb ⟨NW (W σ) B L, rt, nx, NW (W σ) B L⟩ σ2 H2)
    (hd : ∀ w H', Tr B L H' → nx (W σ w) H') : rFor (Itr lo n) g tb ⟨nx, rt, bk, ct⟩ σ H :=
  f_range (fun _ σ' H' => NW (W σ) B L σ' H') ⟨⟨w0, e0⟩, T⟩ (fun j σ' H' hj ⟨⟨w, e⟩, T⟩ => by rw [e]; exact hs j w H' hj T) (fun σ' H' ⟨⟨w, e⟩, T⟩ => by rw [e]; exact hd w H' T)
theorem f_listW (W : L2.St → ω → L2.St) (w0 : ω) (e0 : σ = W σ w0) (T : Tr B L H) (hl : ∀ H', Tr B L H' → SqL K H' a xs)
    (hs : ∀ (j : Nat) x w H', xs[j]? = some x → Tr B L H' → g x (W σ w) H' fun σ2 H2 => tb ⟨NW (W σ) B L, rt, nx, NW (W σ) B L⟩ σ2 H2)
    (hd : ∀ w H', Tr B L H' → nx (W σ w) H') : rFor (Itl K a) g tb ⟨nx, rt, bk, ct⟩ σ H :=
  f_list (fun _ σ' H' => NW (W σ) B L σ' H') ⟨⟨w0, e0⟩, T⟩ (fun _ _ H' h => hl H' h.2) (fun j x σ' H' hx ⟨⟨w, e⟩, T⟩ => by rw [e]; exact hs j x w H' hx T) (fun σ' H' ⟨⟨w, e⟩, T⟩ => by rw [e]; exact hd w H' T)
theorem f_intsW (W : L2.St → ω → L2.St) (w0 : ω) (e0 : σ = W σ w0) (T : Tr B L H) (hl : ∀ H', Tr B L H' → SqL K H' a (ns.map V.int))
    (hs : ∀ (j : Nat) x w H', ns[j]? = some x → Tr B L H' → g (.int x) (W σ w) H' fun σ2 H2 => tb ⟨NW (W σ) B L, rt, nx, NW (W σ) B L⟩ σ2 H2)
    (hd : ∀ w H', Tr B L H' → nx (W σ w) H') : rFor (Itl K a) g tb ⟨nx, rt, bk, ct⟩ σ H :=
  f_ints (fun _ σ' H' => NW (W σ) B L σ' H') ⟨⟨w0, e0⟩, T⟩ (fun _ _ H' h => hl H' h.2) (fun j x σ' H' hx ⟨⟨w, e⟩, T⟩ => by rw [e]; exact hs j x w H' hx T) (fun σ' H' ⟨⟨w, e⟩, T⟩ => by rw [e]; exact hd w H' T)
theorem f_tupW (W : L2.St → ω → L2.St) (w0 : ω) (e0 : σ = W σ w0) (T : Tr B L H) (hl : ∀ H', Tr B L H' → SqT K H' a xs)
    (hs : ∀ (j : Nat) x w H', xs[j]? = some x → Tr B L H' → g x (W σ w) H' fun σ2 H2 => tb ⟨NW (W σ) B L, rt, nx, NW (W σ) B L⟩ σ2 H2)
    (hd : ∀ w H', Tr B L H' → nx (W σ w) H') : rFor (Itt K a) g tb ⟨nx, rt, bk, ct⟩ σ H :=
  f_tup (fun _ σ' H' => NW (W σ) B L σ' H') ⟨⟨w0, e0⟩, T⟩ (fun _ _ H' h => hl H' h.2) (fun j x σ' H' hx ⟨⟨w, e⟩, T⟩ => by rw [e]; exact hs j x w H' hx T) (fun σ' H' ⟨⟨w, e⟩, T⟩ => by rw [e]; exact hd w H' T)
/-- the same with a word about the heap at each turn -/
def NR {ω : Type} (W : ω → L2.St) (R : Hp → Prop) (σ' : L2.St) (H' : Hp) : Prop := (∃ w, σ' = W w) ∧ R H'
theorem f_rangeR {lo : Int} {n : Nat} (W : L2.St → ω → L2.St) (w0 : ω) (e0 : σ = W σ w0) (R : Nat → Hp → Prop) (r0 : R 0 H)
    (hs : ∀ j w H', j < n → R j H' → g (.int (lo + (j : Nat))) (W σ w) H' fun σ2 H2 => tb ⟨NR (W σ) (R (j + 1)), rt, nx, NR (W σ) (R (j + 1))⟩ σ2 H2)
    (hd : ∀ w H', R n H' → nx (W σ w) H') : rFor (Itr lo n) g tb ⟨nx, rt, bk, ct⟩ σ H :=
  f_range (fun j σ' H' => NR (W σ) (R j) σ' H') ⟨⟨w0, e0⟩, r0⟩ (fun j σ' H' hj ⟨⟨w, e⟩, T⟩ => by rw [e]; exact hs j w H' hj T) (fun σ' H' ⟨⟨w, e⟩, T⟩ => by rw [e]; exact hd w H' T)
theorem f_listR (W : L2.St → ω → L2.St) (w0 : ω) (e0 : σ = W σ w0) (R : Nat → Hp → Prop) (r0 : R 0 H) (hl : ∀ j H', R j H' → SqL K H' a xs)
    (hs : ∀ (j : Nat) x w H', xs[j]? = some x → R j H' → g x (W σ w) H' fun σ2 H2 => tb ⟨NR (W σ) (R (j + 1)), rt, nx, NR (W σ) (R (j + 1))⟩ σ2 H2)
    (hd : ∀ w H', R xs.length H' → nx (W σ w) H') : rFor (Itl K a) g tb ⟨nx, rt, bk, ct⟩ σ H :=
  f_list (fun j σ' H' => NR (W σ) (R j) σ' H') ⟨⟨w0, e0⟩, r0⟩ (fun j _ H' h => hl j H' h.2) (fun j x σ' H' hx ⟨⟨w, e⟩, T⟩ => by rw [e]; exact hs j x w H' hx T) (fun σ' H' ⟨⟨w, e⟩, T⟩ => by rw [e]; exact hd w H' T)
theorem f_intsR (W : L2.St → ω → L2.St) (w0 : ω) (e0 : σ = W σ w0) (R : Nat → Hp → Prop) (r0 : R 0 H) (hl : ∀ j H', R j H' → SqL K H' a (ns.map V.int))
    (hs : ∀ (j : Nat) x w H', ns[j]? = some x → R j H' → g (.int x) (W σ w) H' fun σ2 H2 => tb ⟨NR (W σ) (R (j + 1)), rt, nx, NR (W σ) (R (j + 1))⟩ σ2 H2)
    (hd : ∀ w H', R ns.length H' → nx (W σ w) H') : rFor (Itl K a) g tb ⟨nx, rt, bk, ct⟩ σ H :=
  f_ints (fun j σ' H' => NR (W σ) (R j) σ' H') ⟨⟨w0, e0⟩, r0⟩ (fun j _ H' h => hl j H' h.2) (fun j x σ' H' hx ⟨⟨w, e⟩, T⟩ => by rw [e]; exact hs j x w H' hx T) (fun σ' H' ⟨⟨w, e⟩, T⟩ => by rw [e]; exact hd w H' T)
abbrev S4 (s t u x : Nat) (σ : L2.St) (w : Option V × Option V × Option V × Option V) : L2.St := (((σ.set s w.1).set t w.2.1).set u w.2.2.1).set x w.2.2.2
abbrev S1 (s : Nat) (σ : L2.St) (w : Option V) : L2.St := σ.set s w
abbrev S2 (s t : Nat) (σ : L2.St) (w : Option V × Option V) : L2.St := (σ.set s w.1).set t w.2
abbrev S3 (s t u : Nat) (σ : L2.St) (w : Option V × Option V × Option V) : L2.St := ((σ.set s w.1).set t w.2.1).set u w.2.2
end
theorem two_get {α : Type} {u v x : α} {k : Nat} (h : [u, v][k]? = some x) : x = u ∨ x = v := by
  match k, h with
  | 0, h => exact .inl (Option.some.inj h).symm
  | 1, h => exact .inr (Option.some.inj h).symm
  | k + 2, h => simp at h
theorem getE_of {ns : List Int} {i : Nat} {n : Int} (h : ns[i]? = some n) : ns[i]! = n := by
  rw [List.getElem!_eq_getElem?_getD, h]
  rfl
section
variable {K : PySem.W.Frag} {B H : Hp} {L : List (Addr × HO)} {σ : L2.St} {nx bk ct : L2.St → Hp → Prop} {rt : VK} {g : TG} {tb : TS} {a : Addr} {xs : List V} {ns ms : List Int} {Q : VK} {x y : V} {i j : Int}
theorem i_rg3n {R : It → Hp → Prop} (h1 : -(2 ^ 62) ≤ i ∧ i < 2 ^ 62 ∧ -(2 ^ 62) ≤ j ∧ j < 2 ^ 62) (h : R (Itc i (-1) (i - j).toNat) H) : rRg3 [.int i, .int j, .int (-1)] H R :=
  ⟨i, j, -1, _, rfl, RgC.neg h1.1 h1.2.1 h1.2.2.1 h1.2.2.2, h⟩
theorem g_rg3 {R : It → Hp → Prop} (h : rRg3 xs H R) : rRg3 xs H R := h
theorem f_enumI (Pv : Nat → L2.St → Hp → Prop) (h0 : Pv 0 σ H) (hl : ∀ i σ H, Pv i σ H → SqL K H a (ns.map V.int))
    (hs : ∀ (i : Nat) n σ H p, ns[i]? = some n → Pv i σ H → H p = none → g (.ref p) σ (upd H p (.tup [.int i, .int n])) fun σ2 H2 => tb ⟨Pv (i + 1), rt, nx, Pv (i + 1)⟩ σ2 H2)
    (hd : ∀ σ H, Pv ns.length σ H → nx σ H) : rFor (Ite K a) g tb ⟨nx, rt, bk, ct⟩ σ H :=
  f_enum (xs := ns.map V.int) Pv h0 hl (fun i x σ H p hx h hp => by
    obtain ⟨n, rfl, hn⟩ := map_at hx
    exact hs i n σ H p hn h hp) (by rw [List.length_map]; exact hd)
theorem atI_map {α : Type} [Inhabited α] {f : α → V} {fs : List α} (h0 : 0 ≤ i) (h1 : i < fs.length) : atI (fs.map f) i = some (f fs[i.toNat]!) := by
  obtain ⟨m, rfl⟩ : ∃ m : Nat, i = m := ⟨i.toNat, by omega⟩
  refine atI_nat ?_
  rw [List.getElem?_map, Int.toNat_natCast, List.getElem!_eq_getElem?_getD, List.getElem?_eq_getElem (by omega)]
  rfl
theorem i_ixM {α : Type} [Inhabited α] {f : α → V} {fs : List α} (h1 : SqL K H a (fs.map f)) (h0 : 0 ≤ i) (h2 : i < fs.length) (h : Q (f fs[i.toNat]!) H) : rIx K (.ref a) (.int i) H Q := i_ixL h1 (atI_map h0 h2) h
/-- the last item -/
theorem atI_lastI (h : ns ≠ []) : atI (ns.map V.int) (-1) = some (.int (ns.getLast h)) := by
  have e : ns.map V.int = ns.dropLast.map V.int ++ [.int (ns.getLast h)] := by
    rw [← List.map_singleton, ← List.map_append, List.dropLast_concat_getLast]
  rw [e]
  exact atI_last _ _
theorem i_ixLast (h1 : SqL K H a (ns.map V.int)) (hn : ns ≠ []) (h : Q (.int (ns.getLast hn)) H) : rIx K (.ref a) (.int (-1)) H Q := i_ixL h1 (atI_lastI hn) h
/-- a value whose text and kind are told by a datum -/
structure SameD (K : PySem.W.Frag) (H : Hp) (x : V) (d : PyData) (l : Bool) : Prop where
  dp : Dp K H x d
  ty : ∃ T, TyX K H x (.type T) ∧ kitB T "list" = some l
  sh : d.showable = true
  nd : d.hasDict = false
  de : d.depth ≤ 60
  le : d.shown.length ≤ sizeLine
theorem kit_nl : kitB "NoneType" "list" = some false := by decide +kernel
theorem kit_il : kitB "int" "list" = some false := by decide +kernel
theorem kit_ll : kitB "list" "list" = some true := by decide +kernel
theorem sd_non : SameD K H .non .none false :=
  ⟨.non, ⟨_, .base .non, kit_nl⟩, by simp [PyData.showable], by simp [PyData.hasDict], by simp [PyData.depth], by
    rw [PyData.shown]
    show (Str.ofString "None").length ≤ sizeLine
    rw [PySem.ofString_length]
    decide⟩
theorem sd_int (h : i.natAbs < 2 ^ 64) : SameD K H (.int i) (.int i) false := by
  have h3 : i.natAbs.log2 < 64 := PySem.Flt.log2_lt_of (by decide) h
  refine ⟨.int i, ⟨_, .base (.int i), kit_il⟩, ?_, by simp [PyData.hasDict], by simp [PyData.depth], ?_⟩
  · rw [PyData.showable, decide_eq_true_eq]
    omega
  · rw [PyData.shown]
    exact int_text_fits (by omega)
theorem sd_ints (h : H a = some (.lst (ns.map V.int))) (hn : ∀ n ∈ ns, n.natAbs < 2 ^ 64) (hl : ns.length ≤ 3000) : SameD K H (.ref a) (dI ns) true :=
  ⟨dp_ints (SqL.of h), ⟨_, .base (.lst h), kit_ll⟩, dI_showable hn, dI_nodict ns, by rw [dI_depth]; decide, dI_shown hn hl⟩
end
/-! ### a list unpacked -/
section
variable {K : PySem.W.Frag} {H : Hp} {σ : L2.St} {v : V} {xs : List V} {a : Addr}
def rUnpL (K : PySem.W.Frag) (n : Nat) (t : TGs) (v : V) (σ : L2.St) (H : Hp) (Q : L2.St → Hp → Prop) : Prop := ∃ a xs, v = .ref a ∧ SqL K H a xs ∧ xs.length = n ∧ t xs σ H Q
instance {n : Nat} {g : TGs} {R : L2.St → Hp → Prop} : Step (gLst K n g v σ H R) (rUnpL K n g v σ H R) := ⟨fun h => h⟩
theorem i_unpL {m : Nat} {g : TGs} {R : L2.St → Hp → Prop} (h1 : SqL K H a xs) (h2 : xs.length = m) (h : g xs σ H R) : rUnpL K m g (.ref a) σ H R := ⟨a, xs, rfl, h1, h2, h⟩
end
/-! ### x or y by truth -/
section
variable {K : PySem.W.Frag} {H : Hp} {Q : VK} {σ : L2.St} {tb : TE} {i : Int}
def rOrT (K : PySem.W.Frag) (x : V) (tb : TE) (σ : L2.St) (H : Hp) (Q : VK) : Prop := ∃ k, TruV K x H k ∧ if k = true then Q x H else tb σ H Q
instance {ta : TE} : Step (tOrT K ta tb σ H Q) (ta σ H fun x H1 => rOrT K x tb σ H1 Q) := ⟨fun h => h⟩
instance : Step (rOrT K .non tb σ H Q) (tb σ H Q) := ⟨fun h => ⟨false, rfl, h⟩⟩
theorem i_orI0 (hi : i = 0) (h : tb σ H Q) : rOrT K (.int i) tb σ H Q := ⟨false, by rw [hi]; rfl, h⟩
theorem i_orI1 (hi : i ≠ 0) (h : Q (.int i) H) : rOrT K (.int i) tb σ H Q := ⟨true, by show true = (i != 0); simp [hi], h⟩
end
/-! ### what is kept over turns -/
section
variable {B B2 H : Hp} {L : List (Addr × HO)} {a : Addr} {o : HO} {G : Hp → Addr → Prop} {hs : List Addr} {h : Addr}
theorem Tr.sdel (T : Tr B L H) (i : Nat) (h : L[i]? = some (a, o)) : Same B (del H a) := fun b u e => by
  rw [del_ne (fun z => by
    rw [z, T.offI i h] at e
    cases e)]
  exact T.base b u e
theorem del_of {b : Addr} {u : HO} (h : H b = some u) (n : b ≠ a) : del H a b = some u := (del_ne n).trans h
theorem Tr.kept {b : Addr} {u : HO} (T : Tr B L H) (i j : Nat) (h : L[i]? = some (a, o)) (h2 : L[j]? = some (b, u)) (n : j ≠ i) : del H a b = some u := del_of (T.get j h2) (T.apart j i h2 h n)
def Kept (G : Hp → Addr → Prop) (B : Hp) (hs : List Addr) : Prop := ∀ h ∈ hs, G B h
theorem Kept.nil : Kept G B [] := fun _ h => nomatch h
theorem Kept.mono (k : Kept G B hs) (m : ∀ h, G B h → G B2 h) : Kept G B2 hs := fun h hh => m h (k h hh)
theorem Kept.add (k : Kept G B hs) (g : G B h) : Kept G B (hs ++ [h]) := fun x hx => by
  rcases List.mem_append.mp hx with hx | hx
  · exact k x hx
  · rw [List.mem_singleton.mp hx]
    exact g
/-- a pair of like int lists -/
def Two (B : Hp) (h : Addr) : Prop := ∃ (x y : Addr) (c : List Int), B h = some (.lst [.ref x, .ref y]) ∧ B x = some (.lst (c.map V.int)) ∧ B y = some (.lst (c.map V.int)) ∧ (∀ n ∈ c, n.natAbs < 2 ^ 64) ∧ c.length ≤ 3000
theorem Two.same (s : Same B B2) (h : Addr) (t : Two B h) : Two B2 h := let ⟨x, y, c, h1, h2, h3, h4⟩ := t; ⟨x, y, c, s _ _ h1, s _ _ h2, s _ _ h3, h4⟩
end
/-! ### the greatest, the least -/
def mxI : List Int → Int
  | [] => 0
  | [x] => x
  | x :: y :: r => max x (mxI (y :: r))
def mnI : List Int → Int
  | [] => 0
  | [x] => x
  | x :: y :: r => min x (mnI (y :: r))
theorem mxI_mem : ∀ {ns : List Int}, ns ≠ [] → mxI ns ∈ ns
  | [], h => absurd rfl h
  | [x], _ => List.mem_singleton.mpr rfl
  | x :: y :: r, _ => by
    have ih := mxI_mem (ns := y :: r) (List.cons_ne_nil _ _)
    rw [mxI]
    rcases Int.le_total x (mxI (y :: r)) with h | h
    · rw [Int.max_eq_right h]
      exact List.mem_cons_of_mem _ ih
    · rw [Int.max_eq_left h]
      exact List.mem_cons_self
theorem mxI_le : ∀ {ns : List Int} {n : Int}, n ∈ ns → n ≤ mxI ns
  | [x], n, h => by
    rw [List.mem_singleton.mp h]
    exact Int.le_refl _
  | x :: y :: r, n, h => by
    rw [mxI]
    rcases List.mem_cons.mp h with rfl | h
    · omega
    · have := mxI_le h
      omega
theorem mxI_eq {ns : List Int} {m : Int} (h1 : m ∈ ns) (h2 : ∀ y, y ∈ ns → y ≤ m) : m = mxI ns := by
  have hn : ns ≠ [] := fun e => by
    rw [e] at h1
    cases h1
  have a := mxI_le h1
  have b := h2 _ (mxI_mem hn)
  omega
theorem mnI_mem : ∀ {ns : List Int}, ns ≠ [] → mnI ns ∈ ns
  | [], h => absurd rfl h
  | [x], _ => List.mem_singleton.mpr rfl
  | x :: y :: r, _ => by
    have ih := mnI_mem (ns := y :: r) (List.cons_ne_nil _ _)
    rw [mnI]
    rcases Int.le_total x (mnI (y :: r)) with h | h
    · rw [Int.min_eq_left h]
      exact List.mem_cons_self
    · rw [Int.min_eq_right h]
      exact List.mem_cons_of_mem _ ih
theorem mnI_le : ∀ {ns : List Int} {n : Int}, n ∈ ns → mnI ns ≤ n
  | [x], n, h => by
    rw [List.mem_singleton.mp h]
    exact Int.le_refl _
  | x :: y :: r, n, h => by
    rw [mnI]
    rcases List.mem_cons.mp h with rfl | h
    · omega
    · have := mnI_le h
      omega
theorem mnI_eq {ns : List Int} {m : Int} (h1 : m ∈ ns) (h2 : ∀ y, y ∈ ns → m ≤ y) : m = mnI ns := by
  have hn : ns ≠ [] := fun e => by
    rw [e] at h1
    cases h1
  have a := mnI_le h1
  have b := h2 _ (mnI_mem hn)
  omega
section
variable {K : PySem.W.Frag} {H : Hp} {Q : VK} {a : Addr} {ns : List Int} {xs : List V}
theorem i_maxF (h1 : SqL K H a (ns.map V.int)) (h0 : 0 < ns.length) (h : Q (.int (mxI ns)) H) : rMax K [.ref a] H Q := i_max h1 h0 fun m a b => by rw [mxI_eq a b]; exact h
theorem i_minF (h1 : SqL K H a (ns.map V.int)) (h0 : 0 < ns.length) (h : Q (.int (mnI ns)) H) : rMin K [.ref a] H Q := i_min h1 h0 fun m a b => by rw [mnI_eq a b]; exact h
theorem g_max (h : rMax K xs H Q) : rMax K xs H Q := h
theorem g_min (h : rMin K xs H Q) : rMin K xs H Q := h
end
end PB

namespace PB
open PySem PySem.Spec PyProof.Rows L2
/-! ### typed values and what stands for them -/
/-- where lists, tuples, the script are to be read -/
structure Lk where
  l : Addr → List V → Prop
  t : Addr → List V → Prop
  s : Addr → List V → Prop
structure Lk.Le (S T : Lk) : Prop where
  l : ∀ a vs, S.l a vs → T.l a vs
  t : ∀ a vs, S.t a vs → T.t a vs
  s : ∀ a vs, S.s a vs → T.s a vs
def lkA (K : PySem.W.Frag) (H : Hp) : Lk := ⟨fun a vs => H a = some (.lst vs), SqT K H, SqL K H⟩
def lkN (N : Hp) : Lk := ⟨fun a vs => N a = some (.lst vs), fun a vs => N a = some (.tup vs), fun a vs => N a = some (.lst vs)⟩
theorem Lk.Le.refl (S : Lk) : S.Le S := ⟨fun _ _ h => h, fun _ _ h => h, fun _ _ h => h⟩
theorem Lk.Le.trans {S T U : Lk} (a : S.Le T) (b : T.Le U) : S.Le U := ⟨fun x y h => b.l x y (a.l x y h), fun x y h => b.t x y (a.t x y h), fun x y h => b.s x y (a.s x y h)⟩
section
variable {K : PySem.W.Frag} {H H' N N' F F' B : Hp}
theorem lkA_mono (s : Same H H') : (lkA K H).Le (lkA K H') := ⟨fun a vs h => s _ _ h, fun a vs h => Same.tup s h, fun a vs h => s.seq h⟩
theorem lkN_mono (s : Same N N') : (lkN N).Le (lkN N') := ⟨fun a vs h => s _ _ h, fun a vs h => s _ _ h, fun a vs h => s _ _ h⟩
theorem lkNA (s : Same N H) : (lkN N).Le (lkA K H) := ⟨fun a vs h => s _ _ h, fun a vs h => SqT.of (s _ _ h), fun a vs h => SqL.of (s _ _ h)⟩
end
def All2 {α : Type} (R : α → V → Prop) : List α → List V → Prop
  | [], [] => True
  | x :: xs, v :: vs => R x v ∧ All2 R xs vs
  | _, _ => False
section
variable {α : Type} {R R' : α → V → Prop}
theorem All2.mono (h : ∀ x v, R x v → R' x v) : ∀ {xs : List α} {vs : List V}, All2 R xs vs → All2 R' xs vs
  | [], [], _ => trivial
  | _ :: _, _ :: _, h2 => ⟨h _ _ h2.1, All2.mono h h2.2⟩
  | [], _ :: _, h2 => h2.elim
  | _ :: _, [], h2 => h2.elim
theorem All2.len : ∀ {xs : List α} {vs : List V}, All2 R xs vs → vs.length = xs.length
  | [], [], _ => rfl
  | _ :: _, _ :: _, h => congrArg (· + 1) (All2.len h.2)
  | [], _ :: _, h => h.elim
  | _ :: _, [], h => h.elim
theorem All2.get : ∀ {xs : List α} {vs : List V} {i : Nat} {x : α}, All2 R xs vs → xs[i]? = some x → ∃ v, vs[i]? = some v ∧ R x v
  | _ :: _, v :: _, 0, _, h, e => ⟨v, rfl, by cases e; exact h.1⟩
  | _ :: xs, _ :: vs, i + 1, x, h, e => All2.get (xs := xs) (vs := vs) (i := i) h.2 (by simpa using e)
  | [], _, _, _, _, e => by simp at e
  | _ :: _, [], _, _, h, _ => h.elim
theorem All2.getV {xs : List α} {vs : List V} {i : Nat} {v : V} (h : All2 R xs vs) (e : vs[i]? = some v) : ∃ x, xs[i]? = some x ∧ R x v := by
  have hl := (List.getElem?_eq_some_iff.mp e).1
  rw [h.len] at hl
  obtain ⟨w, hw, r⟩ := h.get (List.getElem?_eq_getElem hl)
  rw [e] at hw
  cases hw
  exact ⟨_, List.getElem?_eq_getElem hl, r⟩
theorem All2.app : ∀ {xs ys : List α} {vs ws : List V}, All2 R xs vs → All2 R ys ws → All2 R (xs ++ ys) (vs ++ ws)
  | [], _, [], _, _, h => h
  | _ :: _, _, _ :: _, _, h, h2 => ⟨h.1, All2.app h.2 h2⟩
  | [], _, _ :: _, _, h, _ => h.elim
  | _ :: _, _, [], _, h, _ => h.elim
theorem All2.one {x : α} {v : V} (h : R x v) : All2 R [x] [v] := ⟨h, trivial⟩
theorem All2.drop : ∀ {xs : List α} {vs : List V} (n : Nat), All2 R xs vs → All2 R (xs.drop n) (vs.drop n)
  | _, _, 0, h => h
  | [], [], _ + 1, _ => trivial
  | _ :: _, _ :: _, n + 1, h => All2.drop n h.2
  | [], _ :: _, _ + 1, h => h.elim
  | _ :: _, [], _ + 1, h => h.elim
theorem All2.take : ∀ {xs : List α} {vs : List V} (n : Nat), All2 R xs vs → All2 R (xs.take n) (vs.take n)
  | _, _, 0, _ => trivial
  | [], [], _ + 1, _ => trivial
  | _ :: _, _ :: _, n + 1, h => ⟨h.1, All2.take n h.2⟩
  | [], _ :: _, _ + 1, h => h.elim
  | _ :: _, [], _ + 1, h => h.elim
theorem All2.set : ∀ {xs : List α} {vs : List V} {x : α} {v : V} (n : Nat), All2 R xs vs → R x v → All2 R (xs.set n x) (vs.set n v)
  | [], [], _, _, _, _, _ => trivial
  | _ :: _, _ :: _, _, _, 0, h, r => ⟨r, h.2⟩
  | _ :: _, _ :: _, _, _, n + 1, h, r => ⟨h.1, All2.set n h.2 r⟩
  | [], _ :: _, _, _, _, h, _ => h.elim
  | _ :: _, [], _, _, _, h, _ => h.elim
theorem All2.rev : ∀ {xs : List α} {vs : List V}, All2 R xs vs → All2 R xs.reverse vs.reverse
  | [], [], _ => trivial
  | _ :: _, _ :: _, h => by
    rw [List.reverse_cons, List.reverse_cons]
    exact (All2.rev h.2).app (All2.one h.1)
  | [], _ :: _, h => h.elim
  | _ :: _, [], h => h.elim
theorem All2.rep {xs : List α} {vs : List V} (h : All2 R xs vs) : ∀ n : Nat, All2 R (List.replicate n xs).flatten (List.replicate n vs).flatten
  | 0 => trivial
  | n + 1 => by
    rw [List.replicate_succ, List.replicate_succ, List.flatten_cons, List.flatten_cons]
    exact h.app (All2.rep h n)
end

class Rp (α : Type) where
  rep : Lk → α → V → Prop
  mono : ∀ {S T : Lk} {x : α} {v : V}, S.Le T → rep S x v → rep T x v
instance : Rp Int := ⟨fun _ x v => v = .int x, fun _ h => h⟩
instance : Rp Bool := ⟨fun _ x v => v = .bl x, fun _ h => h⟩
instance : Rp Unit := ⟨fun _ _ v => v = .non, fun _ h => h⟩
instance : Rp PySem.Str := ⟨fun _ x v => v = .str x, fun _ h => h⟩
section
variable {α β γ δ : Type} [Rp α] [Rp β] [Rp γ] [Rp δ]
def repOpt (S : Lk) : Option α → V → Prop
  | none, v => v = .non
  | some x, v => Rp.rep S x v
instance : Rp (Option α) := ⟨repOpt, fun {S T x v} s h => by
  cases x with
  | none => exact h
  | some y => exact Rp.mono (α := α) s h⟩
instance : Rp (List α) := ⟨fun S xs v => ∃ a vs, v = .ref a ∧ S.l a vs ∧ All2 (Rp.rep S) xs vs, fun s ⟨a, vs, e, h, r⟩ => ⟨a, vs, e, s.l _ _ h, r.mono fun _ _ h => Rp.mono s h⟩⟩
instance : Rp (α × β) := ⟨fun S x v => ∃ a u w, v = .ref a ∧ S.t a [u, w] ∧ Rp.rep S x.1 u ∧ Rp.rep S x.2 w, fun s ⟨a, u, w, e, h, r1, r2⟩ => ⟨a, u, w, e, s.t _ _ h, Rp.mono s r1, Rp.mono s r2⟩⟩
/-- a tuple of three -/
structure T3 (α β γ : Type) where
  a : α
  b : β
  c : γ
  deriving DecidableEq
instance : Rp (T3 α β γ) := ⟨fun S x v => ∃ a u w z, v = .ref a ∧ S.t a [u, w, z] ∧ Rp.rep S x.a u ∧ Rp.rep S x.b w ∧ Rp.rep S x.c z, fun s ⟨a, u, w, z, e, h, r1, r2, r3⟩ => ⟨a, u, w, z, e, s.t _ _ h, Rp.mono s r1, Rp.mono s r2, Rp.mono s r3⟩⟩
/-- a tuple of one -/
structure T1 (α : Type) where
  a : α
  deriving DecidableEq
instance : Rp (T1 α) := ⟨fun S x v => ∃ a u, v = .ref a ∧ S.t a [u] ∧ Rp.rep S x.a u, fun s ⟨a, u, e, h, r1⟩ => ⟨a, u, e, s.t _ _ h, Rp.mono s r1⟩⟩
/-- the script -/
structure Scr where
  l : List Int
instance : Rp Scr := ⟨fun S x v => ∃ a, v = .ref a ∧ S.s a (x.l.map V.int), fun s ⟨a, e, h⟩ => ⟨a, e, s.s _ _ h⟩⟩
end
theorem all2_int {S : Lk} : ∀ {xs : List Int} {vs : List V}, All2 (Rp.rep S) xs vs → vs = xs.map V.int
  | [], [], _ => rfl
  | x :: xs, v :: vs, h => by
    have e : v = .int x := h.1
    rw [List.map_cons, e, all2_int h.2]
  | [], _ :: _, h => h.elim
  | _ :: _, [], h => h.elim
theorem all2_ofInt {S : Lk} : ∀ (xs : List Int), All2 (Rp.rep S) xs (xs.map V.int)
  | [] => trivial
  | _ :: xs => ⟨rfl, all2_ofInt xs⟩

/-! ### what is known -/
def reg (t : Bool) (K : PySem.W.Frag) (N F : Hp) : Lk := match t with
  | true => lkN N
  | false => lkA K F
theorem reg_mono {t : Bool} {K : PySem.W.Frag} {N F N' F' : Hp} (h1 : Same N N') (h2 : Same F F') : (reg t K N F).Le (reg t K N' F') := by
  cases t
  · exact lkA_mono h2
  · exact lkN_mono h1
theorem reg_A {t : Bool} {K : PySem.W.Frag} {N F H : Hp} (h1 : Same N F) (h2 : Same F H) : (reg t K N F).Le (lkA K H) := by
  cases t
  · exact lkA_mono h2
  · exact lkNA (h1.trans h2)
structure Fact where
  P : PySem.W.Frag → Hp → Hp → Prop
  mono : ∀ {K N F N' F'}, Same N N' → Same F F' → P K N F → P K N' F'
def fc (t : Bool) {α : Type} [Rp α] (x : α) (v : V) : Fact := ⟨fun K N F => Rp.rep (reg t K N F) x v, fun h1 h2 h => Rp.mono (reg_mono h1 h2) h⟩
structure Own where
  a : Addr
  P : PySem.W.Frag → Hp → Hp → HO → Prop
  mono : ∀ {K N F N' F' o}, Same N N' → Same F F' → P K N F o → P K N' F' o
def oL (t : Bool) {α : Type} [Rp α] (a : Addr) (xs : List α) : Own :=
  ⟨a, fun K N F o => ∃ vs, o = .lst vs ∧ All2 (Rp.rep (reg t K N F)) xs vs, fun h1 h2 ⟨vs, e, h⟩ => ⟨vs, e, h.mono fun _ _ h => Rp.mono (reg_mono h1 h2) h⟩⟩
structure WdI (K : PySem.W.Frag) (B : Hp) (ctx : List Fact) (L : List Own) (H N F : Hp) : Prop where
  bF : Same B F
  nF : Same N F
  sep : ∀ a u, N a = some u → B a = none
  fH : Same F H
  facts : ∀ f ∈ ctx, f.P K N F
  at_ : ∀ o ∈ L, ∃ h, H o.a = some h ∧ o.P K N F h
  off : ∀ o ∈ L, F o.a = none
  nd : (L.map (·.a)).Nodup
def Wd (K : PySem.W.Frag) (B : Hp) (ctx : List Fact) (L : List Own) (H : Hp) : Prop := ∃ N F, WdI K B ctx L H N F
theorem setMem' {L : List Own} {j : Nat} {o o' q : Own} (nd : (L.map (·.a)).Nodup) (hj : L[j]? = some o) (hq : q ∈ L.set j o') : q = o' ∨ (q ∈ L ∧ q.a ≠ o.a) := by
  induction L generalizing j with
  | nil => simp at hj
  | cons y L ih =>
    rw [List.map_cons] at nd
    cases j with
    | zero =>
      have e : y = o := by simpa using hj
      rw [List.set_cons_zero] at hq
      rcases List.mem_cons.mp hq with rfl | hq
      · exact .inl rfl
      · refine .inr ⟨List.mem_cons_of_mem _ hq, fun e2 => (List.nodup_cons.mp nd).1 ?_⟩
        rw [e, ← e2]
        exact List.mem_map_of_mem hq
    | succ j =>
      rw [List.set_cons_succ] at hq
      rcases List.mem_cons.mp hq with rfl | hq
      · refine .inr ⟨List.mem_cons_self, fun e2 => (List.nodup_cons.mp nd).1 ?_⟩
        rw [e2]
        exact List.mem_map_of_mem (f := (·.a)) (List.mem_of_getElem? (show L[j]? = some o by simpa using hj))
      · rcases ih (List.nodup_cons.mp nd).2 (by simpa using hj) hq with r | ⟨r1, r2⟩
        · exact .inl r
        · exact .inr ⟨List.mem_cons_of_mem _ r1, r2⟩
/-- known of a value; of a list's items -/
def Kn (K : PySem.W.Frag) (ctx : List Fact) (t : Bool) {α : Type} [Rp α] (x : α) (v : V) : Prop := ∀ N F, Same N F → (∀ f ∈ ctx, f.P K N F) → Rp.rep (reg t K N F) x v
def KnL (K : PySem.W.Frag) (ctx : List Fact) (t : Bool) {α : Type} [Rp α] (xs : List α) (vs : List V) : Prop := ∀ N F, Same N F → (∀ f ∈ ctx, f.P K N F) → All2 (Rp.rep (reg t K N F)) xs vs
/-- a list to be read; a list proper -/
def Ls (K : PySem.W.Frag) (ctx : List Fact) (L : List Own) (t : Bool) {α : Type} [Rp α] (xs : List α) (v : V) : Prop := ∀ B H N F, WdI K B ctx L H N F → ∃ a vs, v = .ref a ∧ SqL K H a vs ∧ All2 (Rp.rep (reg t K N F)) xs vs
def Lx (K : PySem.W.Frag) (ctx : List Fact) (L : List Own) (t : Bool) {α : Type} [Rp α] (xs : List α) (v : V) : Prop := ∀ B H N F, WdI K B ctx L H N F → ∃ a vs, v = .ref a ∧ H a = some (.lst vs) ∧ All2 (Rp.rep (reg t K N F)) xs vs
/-- any value to be read in the whole heap; with the object at a left out -/
def Ar (K : PySem.W.Frag) (ctx : List Fact) (L : List Own) {α : Type} [Rp α] (x : α) (v : V) : Prop := ∀ B H N F, WdI K B ctx L H N F → Rp.rep (lkA K H) x v
def ArD (K : PySem.W.Frag) (ctx : List Fact) (L : List Own) (a : Addr) {α : Type} [Rp α] (x : α) (v : V) : Prop := ∀ B H N F, WdI K B ctx L H N F → Rp.rep (lkA K (del H a)) x v
section
variable {K : PySem.W.Frag} {B H H' N F : Hp} {ctx ctx' : List Fact} {L L' : List Own} {t : Bool} {α β γ : Type} [Rp α] [Rp β] [Rp γ] {x : α} {y : β} {z : γ} {xs : List α} {v w u : V} {vs : List V} {a p : Addr} {f : Fact} {o : Own}
theorem Kn.int {i : Int} : Kn K ctx t i (.int i) := fun _ _ _ _ => rfl
theorem Kn.bl {i : Bool} : Kn K ctx t i (.bl i) := fun _ _ _ _ => rfl
theorem Kn.str {i : PySem.Str} : Kn K ctx t i (.str i) := fun _ _ _ _ => rfl
theorem Kn.unit : Kn K ctx t () .non := fun _ _ _ _ => rfl
theorem Kn.none : Kn K ctx t (none : Option α) .non := fun _ _ _ _ => rfl
theorem Kn.some (h : Kn K ctx t x v) : Kn K ctx t (some x) v := fun N F s q => h N F s q
theorem Kn.at (i : Nat) (h : ctx[i]? = Option.some (fc t x v)) : Kn K ctx t x v := fun N F s q => q _ (List.mem_of_getElem? h)
theorem Kn.weak (h : Kn K ctx true x v) : Kn K ctx false x v := fun N F s q => Rp.mono (lkNA s) (h N F s q)
theorem KnL.nil : KnL K ctx t ([] : List α) [] := fun _ _ _ _ => trivial
theorem KnL.cons (h : Kn K ctx t x v) (h2 : KnL K ctx t xs vs) : KnL K ctx t (x :: xs) (v :: vs) := fun N F s q => ⟨h N F s q, h2 N F s q⟩
theorem Lx.ls (h : Lx K ctx L t xs v) : Ls K ctx L t xs v := fun B H N F W => by
  obtain ⟨a, vs, e, h1, h2⟩ := h B H N F W
  exact ⟨a, vs, e, SqL.of h1, h2⟩
theorem reg_l {vs : List V} (h1 : Same N F) (h2 : Same F H) (h : (reg t K N F).l a vs) : H a = some (.lst vs) := (reg_A h1 h2).l _ _ h
theorem Lx.kn (h : Kn K ctx t xs v) : Lx K ctx L t xs v := fun B H N F W => by
  obtain ⟨a, vs, e, h1, h2⟩ := h N F W.nF W.facts
  exact ⟨a, vs, e, reg_l W.nF W.fH h1, h2⟩
theorem Lx.own (j : Nat) (h : L[j]? = some (oL t a xs)) : Lx K ctx L t xs (.ref a) := fun B H N F W => by
  obtain ⟨o, h1, vs, rfl, h2⟩ := W.at_ _ (List.mem_of_getElem? h)
  exact ⟨a, vs, rfl, h1, h2⟩
theorem Ls.scr {x : Scr} (h : Kn K ctx false x v) : Ls K ctx L t x.l v := fun B H N F W => by
  obtain ⟨a, e, h1⟩ := h N F W.nF W.facts
  exact ⟨a, _, e, W.fH.seq h1, all2_ofInt _⟩
theorem Ar.kn (h : Kn K ctx t x v) : Ar K ctx L x v := fun B H N F W => Rp.mono (reg_A W.nF W.fH) (h N F W.nF W.facts)
theorem Ar.lx (h : Lx K ctx L t xs v) : Ar K ctx L xs v := fun B H N F W => by
  obtain ⟨a, vs, e, h1, h2⟩ := h B H N F W
  exact ⟨a, vs, e, h1, h2.mono fun _ _ q => Rp.mono (reg_A W.nF W.fH) q⟩
theorem toDel (s : Same F H) (h : F a = Option.none) : Same F (del H a) := fun b u e => by
  rw [del_ne (fun z => by rw [z, h] at e; cases e)]
  exact s b u e
theorem ArD.kn {ys : List β} {t' : Bool} (j : Nat) (hj : L[j]? = some (oL t' a ys)) (h : Kn K ctx t x v) : ArD K ctx L a x v := fun B H N F W =>
  Rp.mono (reg_A W.nF (toDel W.fH (W.off _ (List.mem_of_getElem? hj)))) (h N F W.nF W.facts)
theorem ArD.own {ys : List β} {b : Addr} {t' : Bool} (j : Nat) (hj : L[j]? = some (oL t' a ys)) (i : Nat) (hi : L[i]? = some (oL t b xs)) (n : i ≠ j) : ArD K ctx L a xs (.ref b) := fun B H N F W => by
  obtain ⟨o, h1, vs, rfl, h2⟩ := W.at_ _ (List.mem_of_getElem? hi)
  have hn : b ≠ a := fun e => by
    have ha := List.getElem?_map (f := (·.a)) (l := L) (i := i)
    have hp := List.getElem?_map (f := (·.a)) (l := L) (i := j)
    rw [hi] at ha
    rw [hj] at hp
    have ha' : (L.map (·.a))[i]? = some b := ha
    have hp' : (L.map (·.a))[j]? = some a := hp
    rw [← e] at hp'
    exact n (nd_ix W.nd ha' hp')
  exact ⟨b, vs, rfl, (del_ne hn).trans h1, h2.mono fun _ _ q => Rp.mono (reg_A W.nF (toDel W.fH (W.off _ (List.mem_of_getElem? hj)))) q⟩

/-! ### worlds -/
theorem Wd.start (H : Hp) : Wd K H [] [] H := ⟨fun _ => none, H, Same.refl H, (fun _ _ h => nomatch h), (fun _ _ h => nomatch h), Same.refl H, (fun _ h => nomatch h), (fun _ h => nomatch h), (fun _ h => nomatch h), List.nodup_nil⟩
/-- a fact of what stood at the beginning -/
theorem Wd.arg (W : Wd K B ctx L H) (r : Rp.rep (lkA K B) x v) : Wd K B (fc false x v :: ctx) L H := by
  obtain ⟨N, F, W⟩ := W
  refine ⟨N, F, W.bF, W.nF, W.sep, W.fH, fun f hf => ?_, W.at_, W.off, W.nd⟩
  rcases List.mem_cons.mp hf with rfl | hf
  · exact Rp.mono (lkA_mono W.bF) r
  · exact W.facts f hf
/-- the one list that the def may change -/
theorem Wd.mut {xs : List α} (h : H a = some (.lst vs)) (r : All2 (Rp.rep (lkN fun _ => none)) xs vs) : Wd K (del H a) [] [oL true a xs] H := by
  refine ⟨fun _ => none, del H a, Same.refl _, (fun _ _ h => nomatch h), (fun _ _ h => nomatch h), Same.del, (fun _ h => nomatch h), fun o ho => ?_, fun o ho => ?_, by simp⟩
  · obtain rfl := List.mem_singleton.mp ho
    exact ⟨_, h, vs, rfl, r⟩
  · obtain rfl := List.mem_singleton.mp ho
    exact del_same
theorem Wd.add (W : Wd K B ctx L H) (h : ∀ N F, WdI K B ctx L H N F → f.P K N F) : Wd K B (f :: ctx) L H := by
  obtain ⟨N, F, W⟩ := W
  refine ⟨N, F, W.bF, W.nF, W.sep, W.fH, fun g hg => ?_, W.at_, W.off, W.nd⟩
  rcases List.mem_cons.mp hg with rfl | hg
  · exact h N F W
  · exact W.facts g hg
theorem Wd.know (W : Wd K B ctx L H) (h : Kn K ctx t x v) : Wd K B (fc t x v :: ctx) L H := W.add fun N F W => h N F W.nF W.facts
/-- fewer facts -/
theorem Wd.sub (W : Wd K B ctx L H) (h : ∀ f ∈ ctx', f ∈ ctx) : Wd K B ctx' L H := by
  obtain ⟨N, F, W⟩ := W
  exact ⟨N, F, W.bF, W.nF, W.sep, W.fH, fun f hf => W.facts f (h f hf), W.at_, W.off, W.nd⟩
def selB {τ : Type} : List Nat → List τ → Option (List τ)
  | [], _ => some []
  | i :: is, l => match l[i]?, selB is l with
    | some x, some xs => some (x :: xs)
    | _, _ => none
theorem selB_mem {τ : Type} : ∀ {is : List Nat} {l m : List τ}, selB is l = some m → ∀ x ∈ m, ∃ i ∈ is, l[i]? = some x
  | [], _, _, h, x, hx => by
    cases h
    cases hx
  | i :: is, l, m, h, x, hx => by
    unfold selB at h
    cases e : l[i]? with
    | none => rw [e] at h; cases h
    | some y =>
      cases e2 : selB is l with
      | none => rw [e, e2] at h; cases h
      | some ys =>
        rw [e, e2] at h
        cases h
        rcases List.mem_cons.mp hx with rfl | hx
        · exact ⟨i, List.mem_cons_self, e⟩
        · obtain ⟨k, hk, q⟩ := selB_mem e2 x hx
          exact ⟨k, List.mem_cons_of_mem _ hk, q⟩
theorem Wd.sel (W : Wd K B ctx L H) (is : List Nat) (h : selB is ctx = some ctx') : Wd K B ctx' L H :=
  W.sub fun f hf => let ⟨_, _, q⟩ := selB_mem h f hf; List.mem_of_getElem? q
theorem Wd.drop (W : Wd K B ctx L H) (n : Nat) (h : ctx.drop n = ctx') : Wd K B ctx' L H := W.sub fun f hf => by
  rw [← h] at hf
  exact List.mem_of_mem_drop hf
theorem selB_nd {l m : List Own} : ∀ {is : List Nat} {m : List Own}, selB is l = some m → (l.map (·.a)).Nodup → is.Nodup → (m.map (·.a)).Nodup
  | [], m, h, _, _ => by
    cases h
    exact List.nodup_nil
  | i :: is, m, h, nd, ni => by
    unfold selB at h
    cases e : l[i]? with
    | none => rw [e] at h; cases h
    | some y =>
      cases e2 : selB is l with
      | none => rw [e, e2] at h; cases h
      | some ys =>
        rw [e, e2] at h
        cases h
        rw [List.map_cons]
        refine List.nodup_cons.mpr ⟨fun hm => ?_, selB_nd (m := ys) e2 nd (List.nodup_cons.mp ni).2⟩
        obtain ⟨q, hq, eq⟩ := List.mem_map.mp hm
        obtain ⟨k, hk, ek⟩ := selB_mem e2 q hq
        have ha := List.getElem?_map (f := (·.a)) (l := l) (i := i)
        have hp := List.getElem?_map (f := (·.a)) (l := l) (i := k)
        rw [e] at ha
        rw [ek] at hp
        have ha' : (l.map (·.a))[i]? = some y.a := ha
        have hp' : (l.map (·.a))[k]? = some q.a := hp
        rw [eq] at hp'
        have := nd_ix nd ha' hp'
        rw [this] at ni
        exact (List.nodup_cons.mp ni).1 hk
theorem Wd.selO (W : Wd K B ctx L H) (is : List Nat) (h : selB is L = some L') (n : is.Nodup := by decide) : Wd K B ctx L' H := by
  obtain ⟨N, F, W⟩ := W
  have hm : ∀ o ∈ L', o ∈ L := fun o ho => let ⟨_, _, q⟩ := selB_mem h o ho; List.mem_of_getElem? q
  exact ⟨N, F, W.bF, W.nF, W.sep, W.fH, W.facts, fun o ho => W.at_ o (hm o ho), fun o ho => W.off o (hm o ho), selB_nd (m := L) h W.nd n⟩
/-- another heap in which all that is known stands -/
theorem Wd.same (W : Wd K B ctx L H) (s : Same H H') : Wd K B ctx L H' := by
  obtain ⟨N, F, W⟩ := W
  exact ⟨N, F, W.bF, W.nF, W.sep, W.fH.trans s, W.facts, fun o ho => let ⟨h, e, q⟩ := W.at_ o ho; ⟨h, s _ _ e, q⟩, W.off, W.nd⟩
/-- a new object, one's own -/
theorem Wd.newO (W : WdI K B ctx L H N F) (hp : H p = Option.none) (k : HO) (ea : o.a = p) (h : o.P K N F k) : Wd K B ctx (o :: L) (upd H p k) := by
  refine ⟨N, F, W.bF, W.nF, W.sep, fun b u e => ?_, W.facts, fun q hq => ?_, fun q hq => ?_, ?_⟩
  · rw [upd_ne (ne_of_none (W.fH b u e) hp)]
    exact W.fH b u e
  · rcases List.mem_cons.mp hq with rfl | hq
    · exact ⟨k, by rw [ea]; exact upd_same, h⟩
    · obtain ⟨u, e, r⟩ := W.at_ q hq
      exact ⟨u, by rw [upd_ne (ne_of_none e hp)]; exact e, r⟩
  · rcases List.mem_cons.mp hq with rfl | hq
    · rw [ea]
      exact W.fH.free hp
    · exact W.off q hq
  · rw [List.map_cons]
    refine List.nodup_cons.mpr ⟨fun hm => ?_, W.nd⟩
    obtain ⟨q, hq, e⟩ := List.mem_map.mp hm
    obtain ⟨u, e2, r⟩ := W.at_ q hq
    rw [e, ea, hp] at e2
    cases e2
theorem Wd.newL (W : WdI K B ctx L H N F) (hp : H p = Option.none) (h : All2 (Rp.rep (reg t K N F)) xs vs) : Wd K B ctx (oL t p xs :: L) (upd H p (.lst vs)) :=
  Wd.newO W hp _ rfl ⟨vs, rfl, h⟩
/-- no longer changed -/
theorem Wd.frz (W : Wd K B ctx (oL t p xs :: L) H) : Wd K B (fc t xs (.ref p) :: ctx) L H := by
  obtain ⟨N, F, W⟩ := W
  obtain ⟨k, hk, vs, rfl, hr⟩ := W.at_ _ List.mem_cons_self
  have hF : F p = Option.none := W.off _ List.mem_cons_self
  have hN : N p = Option.none := W.nF.free hF
  have hB : B p = Option.none := W.bF.free hF
  have sN : Same N (upd N p (.lst vs)) := fun b u e => by
    rw [upd_ne (ne_of_none e hN)]
    exact e
  have sF : Same F (upd F p (.lst vs)) := fun b u e => by
    rw [upd_ne (ne_of_none e hF)]
    exact e
  refine ⟨upd N p (.lst vs), upd F p (.lst vs), W.bF.trans sF, fun b u e => ?_, fun b u e => ?_, fun b u e => ?_, fun f hf => ?_, fun o ho => ?_, fun o ho => ?_, ?_⟩
  · by_cases h : b = p
    · rw [h, upd_same] at e ⊢
      exact e
    · rw [upd_ne h] at e ⊢
      exact W.nF b u e
  · by_cases h : b = p
    · rw [h]
      exact hB
    · rw [upd_ne h] at e
      exact W.sep b u e
  · by_cases h : b = p
    · rw [h, upd_same] at e
      rw [h, ← e]
      exact hk
    · rw [upd_ne h] at e
      exact W.fH b u e
  · rcases List.mem_cons.mp hf with rfl | hf
    · refine ⟨p, vs, rfl, ?_, hr.mono fun _ _ q => Rp.mono (reg_mono sN sF) q⟩
      cases t
      · exact upd_same
      · exact upd_same
    · exact f.mono sN sF (W.facts f hf)
  · obtain ⟨u, e, r⟩ := W.at_ o (List.mem_cons_of_mem _ ho)
    exact ⟨u, e, o.mono sN sF r⟩
  · have nd := W.nd
    rw [List.map_cons] at nd
    have hne : o.a ≠ p := fun e => (List.nodup_cons.mp nd).1 (by
      have := List.mem_map_of_mem (f := (·.a)) ho
      rw [e] at this
      exact this)
    rw [upd_ne hne]
    exact W.off o (List.mem_cons_of_mem _ ho)
  · have nd := W.nd
    rw [List.map_cons] at nd
    exact (List.nodup_cons.mp nd).2
/-- a new tuple -/
theorem Wd.newT (W : WdI K B ctx L H N F) (hp : H p = Option.none) (t : Bool) (h : ∀ N' F', Same N N' → Same F F' → (reg t K N' F').t p vs → f.P K N' F') : Wd K B (f :: ctx) L (upd H p (.tup vs)) := by
  have hF : F p = Option.none := W.fH.free hp
  have hN : N p = Option.none := W.nF.free hF
  have hB : B p = Option.none := W.bF.free hF
  have sN : Same N (upd N p (.tup vs)) := fun b u e => by
    rw [upd_ne (ne_of_none e hN)]
    exact e
  have sF : Same F (upd F p (.tup vs)) := fun b u e => by
    rw [upd_ne (ne_of_none e hF)]
    exact e
  refine ⟨upd N p (.tup vs), upd F p (.tup vs), W.bF.trans sF, fun b u e => ?_, fun b u e => ?_, fun b u e => ?_, fun f hf => ?_, fun o ho => ?_, fun o ho => ?_, W.nd⟩
  · by_cases h : b = p
    · rw [h, upd_same] at e ⊢
      exact e
    · rw [upd_ne h] at e ⊢
      exact W.nF b u e
  · by_cases h : b = p
    · rw [h]
      exact hB
    · rw [upd_ne h] at e
      exact W.sep b u e
  · by_cases h : b = p
    · rw [h, upd_same] at e ⊢
      exact e
    · rw [upd_ne h] at e ⊢
      exact W.fH b u e
  · rcases List.mem_cons.mp hf with rfl | hf
    · refine h _ _ sN sF ?_
      cases t
      · exact SqT.of upd_same
      · exact upd_same
    · exact f.mono sN sF (W.facts f hf)
  · obtain ⟨u, e, r⟩ := W.at_ o ho
    exact ⟨u, by rw [upd_ne (ne_of_none e hp)]; exact e, o.mono sN sF r⟩
  · obtain ⟨u, e, r⟩ := W.at_ o ho
    rw [upd_ne (ne_of_none e hp)]
    exact W.off o ho
/-- one's own object changed -/
theorem Wd.put (W : WdI K B ctx L H N F) (j : Nat) {o' : Own} (hj : L[j]? = some o) (ea : o'.a = o.a) (k : HO) (h : o'.P K N F k) : Wd K B ctx (L.set j o') (upd H o.a k) := by
  have hoff := W.off _ (List.mem_of_getElem? hj)
  have key : ∀ q ∈ L.set j o', q = o' ∨ (q ∈ L ∧ q.a ≠ o.a) := fun q hq => setMem' W.nd hj hq
  refine ⟨N, F, W.bF, W.nF, W.sep, fun b u e => ?_, W.facts, fun q hq => ?_, fun q hq => ?_, ?_⟩
  · rw [upd_ne (fun z => by rw [z, hoff] at e; cases e)]
    exact W.fH b u e
  · rcases key q hq with rfl | ⟨h1, h2⟩
    · rw [ea]
      exact ⟨k, upd_same, h⟩
    · rw [upd_ne h2]
      exact W.at_ q h1
  · rcases key q hq with rfl | ⟨h1, h2⟩
    · rw [ea]
      exact hoff
    · exact W.off q h1
  · have e : (L.set j o').map (·.a) = L.map (·.a) := by
      rw [List.map_set, ea]
      refine List.ext_getElem? fun i => ?_
      rw [List.getElem?_set]
      by_cases hi : j = i
      · subst hi
        have := (List.getElem?_eq_some_iff.mp hj).1
        rw [if_pos rfl, if_pos (by rw [List.length_map]; exact this), List.getElem?_map, hj]
        rfl
      · rw [if_neg hi]
    rw [e]
    exact W.nd

/-! ### what a def gives back -/
def Res (K : PySem.W.Frag) (H : Hp) {α : Type} [Rp α] (r : α) (v : V) (H' : Hp) : Prop := ∃ R, Same H H' ∧ Same R H' ∧ (∀ a u, R a = some u → H a = none) ∧ Rp.rep (lkN R) r v
/-- with the list at a changed -/
def Res1 (K : PySem.W.Frag) (H : Hp) (a : Addr) {α β : Type} [Rp α] [Rp β] (r : α × List β) (v : V) (H' : Hp) : Prop := ∃ R, But [a] H H' ∧ Same R H' ∧ (∀ a u, R a = some u → H a = none) ∧ Rp.rep (lkN R) r.1 v ∧ ∃ vs, H' a = some (.lst vs) ∧ All2 (Rp.rep (lkN fun _ => none)) r.2 vs
theorem Wd.res (W : Wd K B ctx L H) (h : Kn K ctx true x v) : Res K B x v H := by
  obtain ⟨N, F, W⟩ := W
  exact ⟨N, W.bF.trans W.fH, W.nF.trans W.fH, W.sep, h N F W.nF W.facts⟩
/-- items that stand for themselves -/
class Flat (β : Type) [Rp β] : Prop where
  h : ∀ (S T : Lk) (x : β) (v : V), Rp.rep S x v → Rp.rep T x v
instance : Flat Int := ⟨fun _ _ _ _ h => h⟩
instance : Flat Bool := ⟨fun _ _ _ _ h => h⟩
theorem Wd.res1 [Flat β] {ys : List β} (W : Wd K (del B a) ctx L H) (hB : B a ≠ Option.none) (j : Nat) (hj : L[j]? = some (oL t a ys)) (h : Kn K ctx true x v) : Res1 K B a (x, ys) v H := by
  obtain ⟨N, F, W⟩ := W
  obtain ⟨k, hk, vs, rfl, hr⟩ := W.at_ _ (List.mem_of_getElem? hj)
  have hoff : F a = Option.none := W.off _ (List.mem_of_getElem? hj)
  refine ⟨N, But.of_del (W.bF.trans W.fH), W.nF.trans W.fH, fun b u e => ?_, h N F W.nF W.facts, vs, hk, hr.mono fun _ _ q => Flat.h _ _ _ _ q⟩
  have h1 := W.sep b u e
  by_cases hb : b = a
  · rw [hb] at e
    have := W.nF a u e
    rw [hoff] at this
    cases this
  · rwa [del_ne hb] at h1
def join (F R : Hp) : Hp := fun a => match F a with
  | some u => some u
  | none => R a
theorem join_l {F R : Hp} : Same F (join F R) := fun a u e => by
  unfold join
  rw [e]
theorem join_r {F R : Hp} (h : ∀ a u, R a = some u → F a = none) : Same R (join F R) := fun a u e => by
  unfold join
  rw [h a u e]
  exact e
theorem join_or {F R : Hp} {a : Addr} {u : HO} (h : join F R a = some u) : F a = some u ∨ R a = some u := by
  unfold join at h
  cases e : F a with
  | some w => rw [e] at h; exact .inl h
  | none => rw [e] at h; exact .inr h
/-- what is new behind a call joins what stands -/
theorem Wd.joinI {R : Hp} (W : WdI K B ctx L H N F) (s : But (L.map (·.a)) H H') (sR : Same R H') (hR : ∀ a u, R a = some u → H a = Option.none) (hL : ∀ o ∈ L', (∃ h, H' o.a = some h ∧ ∀ N' F', Same N N' → Same F F' → o.P K N' F' h)) (ea : L'.map (·.a) = L.map (·.a)) :
    WdI K B ctx L' H' (join N R) (join F R) := by
  have rF : ∀ a u, R a = some u → F a = Option.none := fun a u e => W.fH.free (hR a u e)
  have rN : ∀ a u, R a = some u → N a = Option.none := fun a u e => W.nF.free (rF a u e)
  have sN : Same N (join N R) := join_l
  have sF : Same F (join F R) := join_l
  have offL : ∀ o ∈ L', o.a ∈ L.map (·.a) := fun o ho => by
    rw [← ea]
    exact List.mem_map_of_mem ho
  refine ⟨W.bF.trans sF, fun b u e => ?_, fun b u e => ?_, fun b u e => ?_, fun f hf => f.mono sN sF (W.facts f hf), fun o ho => ?_, fun o ho => ?_, by rw [ea]; exact W.nd⟩
  · rcases join_or e with e | e
    · exact sF _ _ (W.nF b u e)
    · exact join_r rF _ _ e
  · rcases join_or e with e | e
    · exact W.sep b u e
    · exact W.bF.free (rF b u e)
  · rcases join_or e with e | e
    · refine s b u (fun hm => ?_) (W.fH b u e)
      obtain ⟨q, hq, eq⟩ := List.mem_map.mp hm
      have := W.off q hq
      rw [eq, e] at this
      cases this
    · exact sR b u e
  · obtain ⟨h, e, r⟩ := hL o ho
    exact ⟨h, e, r _ _ sN sF⟩
  · obtain ⟨q, hq, eq⟩ := List.mem_map.mp (offL o ho)
    rw [← eq]
    cases e : join F R q.a with
    | none => rfl
    | some u =>
      exfalso
      rcases join_or e with e | e
      · have := W.off q hq
        rw [e] at this
        cases this
      · obtain ⟨h, e2, _⟩ := W.at_ q hq
        have := hR _ _ e
        rw [e2] at this
        cases this
theorem Wd.call (W : Wd K B ctx L H) (r : Res K H x v H') : Wd K B (fc true x v :: ctx) L H' := by
  obtain ⟨N, F, W⟩ := W
  obtain ⟨R, s, sR, hR, hr⟩ := r
  have J := Wd.joinI (L' := L) W (fun b u _ e => s b u e) sR hR (fun o ho => let ⟨h, e, q⟩ := W.at_ o ho; ⟨h, s _ _ e, fun N' F' a b => o.mono a b q⟩) rfl
  refine ⟨_, _, J.bF, J.nF, J.sep, J.fH, fun f hf => ?_, J.at_, J.off, J.nd⟩
  rcases List.mem_cons.mp hf with rfl | hf
  · exact Rp.mono (lkN_mono (join_r fun a u e => W.nF.free (W.fH.free (hR a u e)))) hr
  · exact J.facts f hf
/-- the list that is told as one's own -/
theorem Wd.callO [Flat α] (W : Wd K B ctx L H) (r : Res K H xs v H') : ∃ p, v = .ref p ∧ Wd K B ctx (oL true p xs :: L) H' := by
  obtain ⟨N, F, W⟩ := W
  obtain ⟨R, s, sR, hR, p, vs, e, hl, hr⟩ := r
  have hn : H p = Option.none := hR p _ hl
  have J := Wd.joinI (L' := L) (R := del R p) W (fun b u _ e => s b u e) (Same.del.trans sR) (fun a u e => hR a u (Same.del a u e)) (fun o ho => let ⟨h, e, q⟩ := W.at_ o ho; ⟨h, s _ _ e, fun N' F' a b => o.mono a b q⟩) rfl
  refine ⟨p, e, _, _, J.bF, J.nF, J.sep, J.fH, J.facts, fun o ho => ?_, fun o ho => ?_, ?_⟩
  · rcases List.mem_cons.mp ho with rfl | ho
    · exact ⟨_, sR _ _ hl, vs, rfl, hr.mono fun _ _ q => Flat.h _ _ _ _ q⟩
    · exact J.at_ o ho
  · rcases List.mem_cons.mp ho with rfl | ho
    · show join F (del R p) p = none
      unfold join
      rw [W.fH.free hn]
      exact del_same
    · exact J.off o ho
  · rw [List.map_cons]
    refine List.nodup_cons.mpr ⟨fun hm => ?_, J.nd⟩
    obtain ⟨q, hq, eq⟩ := List.mem_map.mp hm
    obtain ⟨u, e2, _⟩ := W.at_ q hq
    rw [eq] at e2
    rw [show (oL true p xs).a = p from rfl, hn] at e2
    cases e2
theorem Wd.call1 [Flat β] {ys ys' : List β} {t' : Bool} (W : Wd K B ctx L H) (j : Nat) (hj : L[j]? = some (oL t' a ys)) (r : Res1 K H a (x, ys') v H') : Wd K B (fc true x v :: ctx) (L.set j (oL t' a ys')) H' := by
  obtain ⟨N, F, W⟩ := W
  obtain ⟨R, s, sR, hR, hr, vs, hv, hs⟩ := r
  have am : a ∈ L.map (·.a) := List.mem_map_of_mem (f := (·.a)) (List.mem_of_getElem? hj)
  have ea : (L.set j (oL t' a ys')).map (·.a) = L.map (·.a) := by
    rw [List.map_set]
    refine List.ext_getElem? fun i => ?_
    rw [List.getElem?_set]
    by_cases hi : j = i
    · subst hi
      have := (List.getElem?_eq_some_iff.mp hj).1
      rw [if_pos rfl, if_pos (by rw [List.length_map]; exact this), List.getElem?_map, hj]
      rfl
    · rw [if_neg hi]
  have J := Wd.joinI (L' := L.set j (oL t' a ys')) W (fun b u n e => s b u (fun z => n (by rw [List.mem_singleton.mp z]; exact am)) e) sR hR (fun o ho => ?_) ea
  · refine ⟨_, _, J.bF, J.nF, J.sep, J.fH, fun f hf => ?_, J.at_, J.off, J.nd⟩
    rcases List.mem_cons.mp hf with rfl | hf
    · exact Rp.mono (lkN_mono (join_r fun a u e => W.nF.free (W.fH.free (hR a u e)))) hr
    · exact J.facts f hf
  · rcases setMem' W.nd hj ho with rfl | ⟨h1, h2⟩
    · exact ⟨_, hv, fun N' F' _ _ => ⟨vs, rfl, hs.mono fun _ _ q => Flat.h _ _ _ _ q⟩⟩
    · obtain ⟨h, e, q⟩ := W.at_ o h1
      exact ⟨h, s _ _ (fun z => h2 (List.mem_singleton.mp z)) e, fun N' F' a b => o.mono a b q⟩
/-- by the kind of what is told -/
theorem Wd.callI {i : Int} (W : Wd K B ctx L H) (r : Res K H i v H') : v = .int i ∧ Wd K B ctx L H' := ⟨let ⟨_, _, _, _, h⟩ := r; h, W.same (let ⟨_, s, _⟩ := r; s)⟩
theorem Wd.callB {i : Bool} (W : Wd K B ctx L H) (r : Res K H i v H') : v = .bl i ∧ Wd K B ctx L H' := ⟨let ⟨_, _, _, _, h⟩ := r; h, W.same (let ⟨_, s, _⟩ := r; s)⟩
theorem Wd.callS {i : PySem.Str} (W : Wd K B ctx L H) (r : Res K H i v H') : v = .str i ∧ Wd K B ctx L H' := ⟨let ⟨_, _, _, _, h⟩ := r; h, W.same (let ⟨_, s, _⟩ := r; s)⟩
theorem Wd.callU {i : Unit} (W : Wd K B ctx L H) (r : Res K H i v H') : v = .non ∧ Wd K B ctx L H' := ⟨let ⟨_, _, _, _, h⟩ := r; h, W.same (let ⟨_, s, _⟩ := r; s)⟩
theorem Wd.call1I [Flat β] {i : Int} {ys ys' : List β} {t' : Bool} (W : Wd K B ctx L H) (j : Nat) (hj : L[j]? = some (oL t' a ys)) (r : Res1 K H a (i, ys') v H') : v = .int i ∧ Wd K B ctx (L.set j (oL t' a ys')) H' :=
  ⟨let ⟨_, _, _, _, h, _⟩ := r; h, (W.call1 j hj r).drop 1 rfl⟩
theorem Wd.call1B [Flat β] {i : Bool} {ys ys' : List β} {t' : Bool} (W : Wd K B ctx L H) (j : Nat) (hj : L[j]? = some (oL t' a ys)) (r : Res1 K H a (i, ys') v H') : v = .bl i ∧ Wd K B ctx (L.set j (oL t' a ys')) H' :=
  ⟨let ⟨_, _, _, _, h, _⟩ := r; h, (W.call1 j hj r).drop 1 rfl⟩
end
end PB

namespace PB
open PySem PySem.Spec PyProof.Rows L2
/-! ### the mirror's own words -/
inductive Ctl (ρ β : Type) where
  | go (b : β)
  | ret (r : ρ)
  | brk (b : β)
section
variable {α β γ ρ : Type}
def forO (f : α → β → Option (Ctl ρ β)) : List α → β → Option (Ctl ρ β)
  | [], b => some (.go b)
  | x :: xs, b => match f x b with
    | none => none
    | some (.go b') => forO f xs b'
    | some (.ret r) => some (.ret r)
    | some (.brk b') => some (.go b')
def foldO (f : α → β → Option β) : List α → β → Option β
  | [], b => some b
  | x :: xs, b => (f x b).bind fun b' => foldO f xs b'
def whileO (f : β → Option (Ctl ρ β)) : Nat → β → Option (Ctl ρ β)
  | 0, _ => none
  | n + 1, b => match f b with
    | none => none
    | some (.go b') => whileO f n b'
    | some (.ret r) => some (.ret r)
    | some (.brk b') => some (.go b')
def sizeO (n : Nat) : Option Unit := if n ≤ sizeLine then some () else none
def mapG (f : α → Option γ) : List α → Option (List γ)
  | [] => some []
  | x :: xs => (f x).bind fun y => (mapG f xs).bind fun ys => some (y :: ys)
/-- [e for x in xs] -/
def mapO (f : α → Option γ) (xs : List α) : Option (List γ) := if xs.length ≤ sizeLine then mapG f xs else none
/-- [e for x in xs if c]; none: left out -/
def cmpG (f : α → Option (Option γ)) : List α → Option (List γ)
  | [] => some []
  | x :: xs => (f x).bind fun y => (cmpG f xs).bind fun ys => some (match y with
    | some z => z :: ys
    | none => ys)
def cmpO (f : α → Option (Option γ)) (xs : List α) : Option (List γ) := if xs.length ≤ sizeLine then cmpG f xs else none
/-- the same with a state -/
def mapSG (f : α → β → Option (γ × β)) : List α → β → Option (List γ × β)
  | [], b => some ([], b)
  | x :: xs, b => (f x b).bind fun p => (mapSG f xs p.2).bind fun q => some (p.1 :: q.1, q.2)
def mapSO (f : α → β → Option (γ × β)) (xs : List α) (b : β) : Option (List γ × β) := if xs.length ≤ sizeLine then mapSG f xs b else none
/-- a condition and a state -/
def cmpSG (f : α → β → Option (Option γ × β)) : List α → β → Option (List γ × β)
  | [], b => some ([], b)
  | x :: xs, b => (f x b).bind fun p => (cmpSG f xs p.2).bind fun q => some (p.1.toList ++ q.1, q.2)
def cmpSO (f : α → β → Option (Option γ × β)) (xs : List α) (b : β) : Option (List γ × β) := if xs.length ≤ sizeLine then cmpSG f xs b else none
def lenI (xs : List α) : Int := xs.length
def sliceI (xs : List α) (lo hi : Option Int) : List α := (xs.drop (HT.sIx xs.length 0 lo)).take (HT.sIx xs.length xs.length hi - HT.sIx xs.length 0 lo)
def catO (xs ys : List α) : Option (List α) := if xs.length + ys.length ≤ sizeLine then some (xs ++ ys) else none
def appO (xs : List α) (x : α) : Option (List α) := if xs.length < sizeLine then some (xs ++ [x]) else none
def repO (xs : List α) (k : Int) : Option (List α) := if -(2 ^ 63) ≤ k ∧ k < 2 ^ 63 ∧ xs.length * k.toNat ≤ sizeLine then some (List.replicate k.toNat xs).flatten else none
def setO (xs : List α) (i : Int) (x : α) : Option (List α) := (ixN xs.length i).map fun j => xs.set j x
def rangeF (lo : Int) : Nat → List Int
  | 0 => []
  | n + 1 => lo :: rangeF (lo + 1) n
def rangeB (lo : Int) : Nat → List Int
  | 0 => []
  | n + 1 => lo :: rangeB (lo - 1) n
def ok62 (i : Int) : Prop := -(2 ^ 62) ≤ i ∧ i < 2 ^ 62
instance (i : Int) : Decidable (ok62 i) := by unfold ok62; infer_instance
def range1 (j : Int) : Option (List Int) := if ok62 j then some (rangeF 0 j.toNat) else none
def range2 (i j : Int) : Option (List Int) := if ok62 i ∧ ok62 j then some (rangeF i (j - i).toNat) else none
def rangeD (i j : Int) : Option (List Int) := if ok62 i ∧ ok62 j then some (rangeB i (i - j).toNat) else none
def enumI (i : Int) : List α → List (Int × α)
  | [] => []
  | x :: xs => (i, x) :: enumI (i + 1) xs
def mulO (i j : Int) : Option Int := if i.natAbs.log2 + j.natAbs.log2 < 1000000 then some (i * j) else none
def fdivO (i j : Int) : Option Int := if 0 < j ∧ j.natAbs.log2 < 9000 then some (i / j) else none
def modO (i j : Int) : Option Int := if 0 < j then some (i % j) else none
def powO (i j : Int) : Option Int := if 0 ≤ j ∧ j ≤ 1000000 ∧ i.natAbs < 2 ^ 64 then some (i ^ j.toNat) else none
def maxO (xs : List Int) : Option Int := if xs ≠ [] then some (mxI xs) else none
def minO (xs : List Int) : Option Int := if xs ≠ [] then some (mnI xs) else none
def sortI (xs : List Int) : List Int := xs.mergeSort
def isub (T c : String) : Bool := T == c || (T == "bool" && c == "int")
end
theorem bndE {α β : Type} {e : Option α} {f : α → Option β} {r : β} (h : e.bind f = some r) : ∃ x, e = some x ∧ f x = some r := by
  cases e with
  | none => cases h
  | some x => exact ⟨x, rfl, h⟩
theorem iteE {α : Type} {b : Bool} {A C : Option α} {r : α} (h : (if b = true then A else C) = some r) : (b = true ∧ A = some r) ∨ (b = false ∧ C = some r) := by
  cases b with
  | true => exact .inl ⟨rfl, h⟩
  | false => exact .inr ⟨rfl, h⟩
theorem guardE {α : Type} {p : Prop} [Decidable p] {x r : α} (h : (if p then some x else none) = some r) : p ∧ x = r := by
  by_cases hp : p
  · rw [if_pos hp] at h
    exact ⟨hp, Option.some.inj h⟩
  · rw [if_neg hp] at h
    cases h

/-! ### data, kinds -/
class RpD (α : Type) [Rp α] where
  d : α → PyData
  dp : ∀ {K : PySem.W.Frag} {H : Hp} {x : α} {v : V}, Rp.rep (lkA K H) x v → Dp K H v (d x)
  ty : α → String
  tyx : ∀ {K : PySem.W.Frag} {H : Hp} {x : α} {v : V}, Rp.rep (lkA K H) x v → TyX K H v (.type (ty x))
  tys : ∀ x, ty x ∈ ["NoneType", "bool", "int", "str", "list", "tuple"]
section
variable {α β γ : Type} [Rp α] [Rp β] [Rp γ] [RpD α] [RpD β] [RpD γ]
instance : RpD Int := ⟨.int, fun h => by cases h; exact .int _, fun _ => "int", fun h => by cases h; exact .base (.int _), fun _ => by simp⟩
instance : RpD Bool := ⟨.bool, fun h => by cases h; exact .bl _, fun _ => "bool", fun h => by cases h; exact .base (.bl _), fun _ => by simp⟩
instance : RpD Unit := ⟨fun _ => .none, fun h => by cases h; exact .non, fun _ => "NoneType", fun h => by cases h; exact .base .non, fun _ => by simp⟩
instance : RpD PySem.Str := ⟨.str, fun h => by cases h; exact .str _, fun _ => "str", fun h => by cases h; exact .base (.str _), fun _ => by simp⟩
instance : RpD (Option α) := ⟨fun x => match x with
    | none => .none
    | some y => RpD.d y, fun {K H x v} h => by
      cases x with
      | none => cases (show v = .non from h); exact .non
      | some y => exact RpD.dp (α := α) h, fun x => match x with
    | none => "NoneType"
    | some y => RpD.ty y, fun {K H x v} h => by
      cases x with
      | none => cases (show v = .non from h); exact .base .non
      | some y => exact RpD.tyx (α := α) h, fun x => by
      cases x with
      | none => simp
      | some y => exact RpD.tys y⟩
theorem all2_dp {K : PySem.W.Frag} {H : Hp} : ∀ {xs : List α} {vs : List V}, All2 (Rp.rep (lkA K H)) xs vs → DpAll K H vs (xs.map RpD.d)
  | [], [], _ => .nil
  | _ :: _, _ :: _, h => .cons (RpD.dp h.1) (all2_dp h.2)
  | [], _ :: _, h => h.elim
  | _ :: _, [], h => h.elim
theorem tyx_tup {K : PySem.W.Frag} {H : Hp} {a : Addr} {vs : List V} (h : SqT K H a vs) : TyX K H (.ref a) (.type "tuple") := by
  rcases h with (h | ⟨o, h⟩) | ⟨o, its, n, e, c, _⟩
  · exact .base (.tup h)
  · exact .fTuple h
  · exact .kTuple e c
instance : RpD (List α) := ⟨fun xs => .list (xs.map RpD.d), fun ⟨a, vs, e, h, r⟩ => by cases e; exact .lst (SqL.of h) (all2_dp r), fun _ => "list", fun ⟨a, vs, e, h, r⟩ => by cases e; exact .base (.lst h), fun _ => by simp⟩
instance : RpD (α × β) := ⟨fun x => .tuple [RpD.d x.1, RpD.d x.2], fun ⟨a, u, w, e, h, r1, r2⟩ => by cases e; exact .tup h (.cons (RpD.dp r1) (.cons (RpD.dp r2) .nil)), fun _ => "tuple", fun ⟨a, u, w, e, h, r1, r2⟩ => by cases e; exact tyx_tup h, fun _ => by simp⟩
instance : RpD (T3 α β γ) := ⟨fun x => .tuple [RpD.d x.a, RpD.d x.b, RpD.d x.c], fun ⟨a, u, w, z, e, h, r1, r2, r3⟩ => by cases e; exact .tup h (.cons (RpD.dp r1) (.cons (RpD.dp r2) (.cons (RpD.dp r3) .nil))), fun _ => "tuple", fun ⟨a, u, w, z, e, h, r1, r2, r3⟩ => by cases e; exact tyx_tup h, fun _ => by simp⟩
instance : RpD (T1 α) := ⟨fun x => .tuple [RpD.d x.a], fun ⟨a, u, e, h, r1⟩ => by cases e; exact .tup h (.cons (RpD.dp r1) .nil), fun _ => "tuple", fun ⟨a, u, e, h, r1⟩ => by cases e; exact tyx_tup h, fun _ => by simp⟩
end
def eqO {α β : Type} [Rp α] [RpD α] [Rp β] [RpD β] (x : α) (y : β) : Option Bool :=
  if SeqAt.shaped (RpD.d x) = true ∧ SeqAt.shaped (RpD.d y) = true then some (PyData.eqv (RpD.d x) (RpD.d y)) else none
def reprO {α : Type} [Rp α] [RpD α] (x : α) : Option PySem.Str :=
  if (RpD.d x).showable = true ∧ (RpD.d x).hasDict = false ∧ (RpD.d x).depth ≤ 60 ∧ (RpD.d x).shown.length ≤ sizeLine then some (RpD.d x).shown else none
def isiO {α : Type} [Rp α] [RpD α] (x : α) (c : String) : Bool := isub (RpD.ty x) c
theorem kit_isub {T c : String} (hT : T ∈ ["NoneType", "bool", "int", "str", "list", "tuple"]) (hc : c ∈ ["bool", "int", "str", "list", "tuple"]) : kitB T c = some (isub T c) := by
  have key : ∀ T ∈ ["NoneType", "bool", "int", "str", "list", "tuple"], ∀ c ∈ ["bool", "int", "str", "list", "tuple"], kitB T c = some (isub T c) := by decide +kernel
  exact key T hT c hc

/-! ### the steps over a world -/
section
variable {K : PySem.W.Frag} {B H H' : Hp} {ctx : List Fact} {L : List Own} {t t' : Bool} {α β γ : Type} [Rp α] [Rp β] [Rp γ] {x : α} {y : β} {z : γ} {xs ys : List α} {v w u : V} {vs : List V} {a p : Addr} {Q : VK} {i j : Int} {σ : L2.St}
theorem w_len (W : Wd K B ctx L H) (h : Ls K ctx L t xs v) (k : Q (.int (lenI xs)) H) : rLen K [v] H Q := by
  obtain ⟨N, F, W⟩ := W
  obtain ⟨a, vs, rfl, h1, h2⟩ := h B H N F W
  exact i_len h1 (by rw [h2.len]; exact k)
theorem w_lenT2 (W : Wd K B ctx L H) (h : Kn K ctx t (x, y) v) (k : Q (.int 2) H) : rLen K [v] H Q := by
  obtain ⟨N, F, W⟩ := W
  obtain ⟨a, u, w, rfl, h1, _⟩ := h N F W.nF W.facts
  exact i_lenT ((reg_A W.nF W.fH).t _ _ h1) k
theorem atI_2 {vs : List V} {R : α → V → Prop} (h : All2 R xs vs) (e : atI xs i = some x) : ∃ v, atI vs i = some v ∧ R x v := by
  unfold atI at e ⊢
  rw [h.len]
  cases q : ixN xs.length i with
  | none =>
    rw [q] at e
    cases e
  | some j =>
    rw [q] at e
    exact h.get e
theorem w_ix (W : Wd K B ctx L H) (h : Ls K ctx L t xs v) (e : atI xs i = some x) (k : ∀ u, Wd K B (fc t x u :: ctx) L H → Q u H) : rIx K v (.int i) H Q := by
  obtain ⟨N, F, W⟩ := W
  obtain ⟨a, vs, rfl, h1, h2⟩ := h B H N F W
  obtain ⟨u, e2, r⟩ := atI_2 h2 e
  refine i_ixL h1 e2 (k u ⟨N, F, W.bF, W.nF, W.sep, W.fH, fun f hf => ?_, W.at_, W.off, W.nd⟩)
  rcases List.mem_cons.mp hf with rfl | hf
  · exact r
  · exact W.facts f hf
theorem w_ixI {xs : List Int} {x : Int} (W : Wd K B ctx L H) (h : Ls K ctx L t xs v) (e : atI xs i = some x) (k : Q (.int x) H) : rIx K v (.int i) H Q := by
  obtain ⟨N, F, W⟩ := W
  obtain ⟨a, vs, rfl, h1, h2⟩ := h B H N F W
  obtain ⟨u, e2, r⟩ := atI_2 h2 e
  cases (show u = .int x from r)
  exact i_ixL h1 e2 k
theorem w_ixB {xs : List Bool} {x : Bool} (W : Wd K B ctx L H) (h : Ls K ctx L t xs v) (e : atI xs i = some x) (k : Q (.bl x) H) : rIx K v (.int i) H Q := by
  obtain ⟨N, F, W⟩ := W
  obtain ⟨a, vs, rfl, h1, h2⟩ := h B H N F W
  obtain ⟨u, e2, r⟩ := atI_2 h2 e
  cases (show u = .bl x from r)
  exact i_ixL h1 e2 k
theorem Wd.fact (W : WdI K B ctx L H N F) {f : Fact} (h : f.P K N F) : Wd K B (f :: ctx) L H :=
  ⟨N, F, W.bF, W.nF, W.sep, W.fH, fun g hg => by
    rcases List.mem_cons.mp hg with rfl | hg
    · exact h
    · exact W.facts g hg, W.at_, W.off, W.nd⟩
/-- t[0], t[1] of a pair -/
theorem w_fst (W : Wd K B ctx L H) (h : Kn K ctx t (x, y) v) (k : ∀ u, Wd K B (fc t x u :: ctx) L H → Q u H) : rIx K v (.int 0) H Q := by
  obtain ⟨N, F, W⟩ := W
  obtain ⟨a, u, w, rfl, h1, r1, r2⟩ := h N F W.nF W.facts
  exact i_ixT (v := u) ((reg_A W.nF W.fH).t _ _ h1) rfl (k u (Wd.fact W r1))
theorem w_snd (W : Wd K B ctx L H) (h : Kn K ctx t (x, y) v) (k : ∀ u, Wd K B (fc t y u :: ctx) L H → Q u H) : rIx K v (.int 1) H Q := by
  obtain ⟨N, F, W⟩ := W
  obtain ⟨a, u, w, rfl, h1, r1, r2⟩ := h N F W.nF W.facts
  exact i_ixT (v := w) ((reg_A W.nF W.fH).t _ _ h1) rfl (k w (Wd.fact W r2))
theorem w_3a {x : T3 α β γ} (W : Wd K B ctx L H) (h : Kn K ctx t x v) (k : ∀ u, Wd K B (fc t x.a u :: ctx) L H → Q u H) : rIx K v (.int 0) H Q := by
  obtain ⟨N, F, W⟩ := W
  obtain ⟨a, u, w, z, rfl, h1, r1, r2, r3⟩ := h N F W.nF W.facts
  exact i_ixT (v := u) ((reg_A W.nF W.fH).t _ _ h1) rfl (k u (Wd.fact W r1))
theorem w_3b {x : T3 α β γ} (W : Wd K B ctx L H) (h : Kn K ctx t x v) (k : ∀ u, Wd K B (fc t x.b u :: ctx) L H → Q u H) : rIx K v (.int 1) H Q := by
  obtain ⟨N, F, W⟩ := W
  obtain ⟨a, u, w, z, rfl, h1, r1, r2, r3⟩ := h N F W.nF W.facts
  exact i_ixT (v := w) ((reg_A W.nF W.fH).t _ _ h1) rfl (k w (Wd.fact W r2))
theorem w_3c {x : T3 α β γ} (W : Wd K B ctx L H) (h : Kn K ctx t x v) (k : ∀ u, Wd K B (fc t x.c u :: ctx) L H → Q u H) : rIx K v (.int 2) H Q := by
  obtain ⟨N, F, W⟩ := W
  obtain ⟨a, u, w, z, rfl, h1, r1, r2, r3⟩ := h N F W.nF W.facts
  exact i_ixT (v := z) ((reg_A W.nF W.fH).t _ _ h1) rfl (k z (Wd.fact W r3))
/-- a, b = t -/
theorem w_unp2 {g : TGs} {R : L2.St → Hp → Prop} (W : Wd K B ctx L H) (h : Kn K ctx t (x, y) v) (k : ∀ u w, Wd K B (fc t x u :: fc t y w :: ctx) L H → g [u, w] σ H R) : rUnp K 2 g v σ H R := by
  obtain ⟨N, F, W⟩ := W
  obtain ⟨a, u, w, rfl, h1, r1, r2⟩ := h N F W.nF W.facts
  refine ⟨a, _, rfl, (reg_A W.nF W.fH).t _ _ h1, rfl, k u w ?_⟩
  refine ⟨N, F, W.bF, W.nF, W.sep, W.fH, fun f hf => ?_, W.at_, W.off, W.nd⟩
  rcases List.mem_cons.mp hf with rfl | hf
  · exact r1
  · rcases List.mem_cons.mp hf with rfl | hf
    · exact r2
    · exact W.facts f hf
theorem w_unp3 {x : T3 α β γ} {g : TGs} {R : L2.St → Hp → Prop} (W : Wd K B ctx L H) (h : Kn K ctx t x v) (k : ∀ u w z, Wd K B (fc t x.a u :: fc t x.b w :: fc t x.c z :: ctx) L H → g [u, w, z] σ H R) : rUnp K 3 g v σ H R := by
  obtain ⟨N, F, W⟩ := W
  obtain ⟨a, u, w, z, rfl, h1, r1, r2, r3⟩ := h N F W.nF W.facts
  refine ⟨a, _, rfl, (reg_A W.nF W.fH).t _ _ h1, rfl, k u w z ?_⟩
  refine ⟨N, F, W.bF, W.nF, W.sep, W.fH, fun f hf => ?_, W.at_, W.off, W.nd⟩
  simp only [List.mem_cons] at hf
  rcases hf with rfl | rfl | rfl | hf
  · exact r1
  · exact r2
  · exact r3
  · exact W.facts f hf
/-- a, b = l of a list -/
theorem w_unpL {x1 x2 : α} {g : TGs} {R : L2.St → Hp → Prop} (W : Wd K B ctx L H) (h : Ls K ctx L t [x1, x2] v) (k : ∀ u w, Wd K B (fc t x1 u :: fc t x2 w :: ctx) L H → g [u, w] σ H R) : rUnpL K 2 g v σ H R := by
  obtain ⟨N, F, W⟩ := W
  obtain ⟨a, vs, rfl, h1, h2⟩ := h B H N F W
  match vs, h2, h1 with
  | [u, w], h2, h1 =>
    refine ⟨a, _, rfl, h1, rfl, k u w ⟨N, F, W.bF, W.nF, W.sep, W.fH, fun f hf => ?_, W.at_, W.off, W.nd⟩⟩
    rcases List.mem_cons.mp hf with rfl | hf
    · exact h2.1
    · rcases List.mem_cons.mp hf with rfl | hf
      · exact h2.2.1
      · exact W.facts f hf
theorem Wd.pI {i : Int} (W : Wd K B (fc t i v :: ctx) L H) : v = .int i ∧ Wd K B ctx L H := ⟨by
  obtain ⟨N, F, W⟩ := W
  exact W.facts _ List.mem_cons_self, W.drop 1 rfl⟩
theorem Wd.pB {i : Bool} (W : Wd K B (fc t i v :: ctx) L H) : v = .bl i ∧ Wd K B ctx L H := ⟨by
  obtain ⟨N, F, W⟩ := W
  exact W.facts _ List.mem_cons_self, W.drop 1 rfl⟩
theorem Wd.pS {i : PySem.Str} (W : Wd K B (fc t i v :: ctx) L H) : v = .str i ∧ Wd K B ctx L H := ⟨by
  obtain ⟨N, F, W⟩ := W
  exact W.facts _ List.mem_cons_self, W.drop 1 rfl⟩
/-- what a known value must be -/
theorem Wd.isI {i : Int} (W : Wd K B ctx L H) (h : Kn K ctx t (Option.some i) v) : v = .int i := by
  obtain ⟨N, F, W⟩ := W
  exact h N F W.nF W.facts
theorem Wd.isN (W : Wd K B ctx L H) (h : Kn K ctx t (Option.none : Option α) v) : v = .non := by
  obtain ⟨N, F, W⟩ := W
  exact h N F W.nF W.facts
theorem Kn.un (h : Kn K ctx t (Option.some x) v) : Kn K ctx t x v := fun N F s q => h N F s q
theorem cut_2 {vs : List V} {R : α → V → Prop} {lo hi : Option Int} (h : All2 R xs vs) : All2 R (sliceI xs lo hi) (cutV vs lo hi) := by
  unfold sliceI cutV
  rw [h.len]
  exact (h.drop _).take _
theorem w_slice {lo hi : Option Int} (W : Wd K B ctx L H) (h : Ls K ctx L t xs v) (k : ∀ p H', Wd K B ctx (oL t p (sliceI xs lo hi) :: L) H' → Q (.ref p) H') : rSlL K v lo hi H Q := by
  obtain ⟨N, F, W⟩ := W
  obtain ⟨a, vs, rfl, h1, h2⟩ := h B H N F W
  exact ⟨a, vs, rfl, h1, fun p hp => k p _ (Wd.newL W hp (cut_2 h2))⟩
def rRevL (K : PySem.W.Frag) (v : V) (H : Hp) (Q : VK) : Prop := ∃ a xs, v = .ref a ∧ SqL K H a xs ∧ ∀ p, H p = none → Q (.ref p) (upd H p (.lst xs.reverse))
theorem i_revL {te : TE} (h : te σ H fun x H1 => rRevL K x H1 Q) : tRevL K te σ H Q := h
theorem w_rev (W : Wd K B ctx L H) (h : Ls K ctx L t xs v) (k : ∀ p H', Wd K B ctx (oL t p xs.reverse :: L) H' → Q (.ref p) H') : rRevL K v H Q := by
  obtain ⟨N, F, W⟩ := W
  obtain ⟨a, vs, rfl, h1, h2⟩ := h B H N F W
  exact ⟨a, vs, rfl, h1, fun p hp => k p _ (Wd.newL W hp h2.rev)⟩
theorem w_list (W : Wd K B ctx L H) (h : Ls K ctx L t xs v) (k : ∀ p H', Wd K B ctx (oL t p xs :: L) H' → Q (.ref p) H') : rListOf K [v] H Q := by
  obtain ⟨N, F, W⟩ := W
  obtain ⟨a, vs, rfl, h1, h2⟩ := h B H N F W
  exact ⟨a, vs, rfl, .inl h1, fun p hp => k p _ (Wd.newL W hp h2)⟩
theorem w_cat {zs : List α} (W : Wd K B ctx L H) (h : Lx K ctx L t xs v) (h' : Lx K ctx L t ys w) (e : catO xs ys = some zs) (k : ∀ p H', Wd K B ctx (oL t p zs :: L) H' → Q (.ref p) H') : rAddA v w H Q := by
  obtain ⟨N, F, W⟩ := W
  obtain ⟨a, vs, rfl, h1, h2⟩ := h B H N F W
  obtain ⟨b, ws, rfl, h3, h4⟩ := h' B H N F W
  obtain ⟨hz, rfl⟩ := guardE e
  exact .inr ⟨a, b, vs, ws, rfl, rfl, h1, h3, by rw [h2.len, h4.len]; exact hz, fun p hp => k p _ (Wd.newL W hp (h2.app h4))⟩
theorem w_rep {zs : List α} {n : Int} (W : Wd K B ctx L H) (h : Lx K ctx L t xs v) (e : repO xs n = some zs) (k : ∀ p H', Wd K B ctx (oL t p zs :: L) H' → Q (.ref p) H') : rMulA v (.int n) H Q := by
  obtain ⟨N, F, W⟩ := W
  obtain ⟨a, vs, rfl, h1, h2⟩ := h B H N F W
  obtain ⟨⟨hz1, hz2, hz3⟩, rfl⟩ := guardE e
  exact .inr ⟨a, n, vs, rfl, rfl, h1, hz1, hz2, by rw [h2.len]; exact hz3, fun p hp => k p _ (Wd.newL W hp (h2.rep _))⟩
theorem w_lst (W : Wd K B ctx L H) (h : KnL K ctx t xs vs) (hz : vs.length ≤ sizeLine) (k : ∀ p H', Wd K B ctx (oL t p xs :: L) H' → Q (.ref p) H') : rLst vs H Q := by
  obtain ⟨N, F, W⟩ := W
  exact ⟨hz, fun p hp => k p _ (Wd.newL W hp (h N F W.nF W.facts))⟩
theorem w_tup2 (W : Wd K B ctx L H) (h : Kn K ctx t x v) (h' : Kn K ctx t y w) (k : ∀ p H', Wd K B (fc t (x, y) (.ref p) :: ctx) L H' → Q (.ref p) H') : rTup [v, w] H Q := by
  obtain ⟨N, F, W⟩ := W
  exact ⟨(by show (2 : Nat) ≤ sizeLine; decide), fun p hp => k p _ (Wd.newT W hp t fun N' F' s s' q => ⟨p, v, w, rfl, q, Rp.mono (reg_mono s s') (h N F W.nF W.facts), Rp.mono (reg_mono s s') (h' N F W.nF W.facts)⟩)⟩
theorem w_tup3 (W : Wd K B ctx L H) (h : Kn K ctx t x v) (h' : Kn K ctx t y w) (h'' : Kn K ctx t z u) (k : ∀ p H', Wd K B (fc t (T3.mk x y z) (.ref p) :: ctx) L H' → Q (.ref p) H') : rTup [v, w, u] H Q := by
  obtain ⟨N, F, W⟩ := W
  exact ⟨(by show (3 : Nat) ≤ sizeLine; decide), fun p hp => k p _ (Wd.newT W hp t fun N' F' s s' q => ⟨p, v, w, u, rfl, q, Rp.mono (reg_mono s s') (h N F W.nF W.facts), Rp.mono (reg_mono s s') (h' N F W.nF W.facts), Rp.mono (reg_mono s s') (h'' N F W.nF W.facts)⟩)⟩
theorem w_app {zs : List α} (W : Wd K B ctx L H) (j : Nat) (hj : L[j]? = some (oL t a xs)) (h : Kn K ctx t x v) (e : appO xs x = some zs) (k : ∀ H', Wd K B ctx (L.set j (oL t a zs)) H' → Q .non H') : rAppend (.ref a) [v] H Q := by
  obtain ⟨N, F, W⟩ := W
  obtain ⟨o, h1, vs, rfl, h2⟩ := W.at_ _ (List.mem_of_getElem? hj)
  obtain ⟨hz, rfl⟩ := guardE e
  exact ⟨a, vs, v, rfl, rfl, h1, by rw [h2.len]; exact hz, k _ (Wd.put (o' := oL t a (xs ++ [x])) W j hj rfl _ ⟨_, rfl, h2.app (.one (h N F W.nF W.facts))⟩)⟩
theorem w_ext {zs : List α} (W : Wd K B ctx L H) (j : Nat) (hj : L[j]? = some (oL t a xs)) (h : Lx K ctx L t ys v) (e : catO xs ys = some zs) (k : ∀ H', Wd K B ctx (L.set j (oL t a zs)) H' → Q .non H') : rExtend (.ref a) [v] H Q := by
  obtain ⟨N, F, W⟩ := W
  obtain ⟨o, h1, vs, rfl, h2⟩ := W.at_ _ (List.mem_of_getElem? hj)
  obtain ⟨b, ws, rfl, h3, h4⟩ := h B H N F W
  obtain ⟨hz, rfl⟩ := guardE e
  exact ⟨a, b, vs, ws, rfl, rfl, h1, h3, by rw [h2.len, h4.len]; exact hz, k _ (Wd.put (o' := oL t a (xs ++ ys)) W j hj rfl _ ⟨_, rfl, h2.app h4⟩)⟩
theorem w_set {zs : List α} {R : Hp → Prop} (W : Wd K B ctx L H) (j : Nat) (hj : L[j]? = some (oL t a xs)) (h : Kn K ctx t x v) (e : setO xs i x = some zs) (k : ∀ H', Wd K B ctx (L.set j (oL t a zs)) H' → R H') : rSetL (.ref a) (.int i) v H R := by
  obtain ⟨N, F, W⟩ := W
  obtain ⟨o, h1, vs, rfl, h2⟩ := W.at_ _ (List.mem_of_getElem? hj)
  unfold setO at e
  cases q : ixN xs.length i with
  | none => rw [q] at e; cases e
  | some m =>
    rw [q] at e
    cases e
    exact ⟨a, vs, i, m, rfl, rfl, h1, by rw [h2.len]; exact q, k _ (Wd.put (o' := oL t a (xs.set m x)) W j hj rfl _ ⟨_, rfl, h2.set m (h N F W.nF W.facts)⟩)⟩
theorem w_mt {r : V → List V → Hp → VK → Prop} {tx : TA} (W : Wd K B ctx L H) (h : Ls K ctx L t xs v) (k : tx σ H fun zs H2 => r v zs H2 Q) : rMt K "list" r tx σ v H Q := by
  obtain ⟨N, F, W⟩ := W
  obtain ⟨a, vs, rfl, h1, h2⟩ := h B H N F W
  exact i_mtL h1 k
theorem w_sum {xs : List Int} (W : Wd K B ctx L H) (h : Ls K ctx L t xs v) (k : Q (.int xs.sum) H) : rSum K [v] H Q := by
  obtain ⟨N, F, W⟩ := W
  obtain ⟨a, vs, rfl, h1, h2⟩ := h B H N F W
  rw [all2_int h2] at h1
  exact i_sum h1 k
theorem w_max {xs : List Int} {m : Int} (W : Wd K B ctx L H) (h : Ls K ctx L t xs v) (e : maxO xs = some m) (k : Q (.int m) H) : rMax K [v] H Q := by
  obtain ⟨N, F, W⟩ := W
  obtain ⟨a, vs, rfl, h1, h2⟩ := h B H N F W
  rw [all2_int h2] at h1
  obtain ⟨hn, rfl⟩ := guardE e
  exact i_maxF h1 (List.length_pos_iff.mpr hn) k
theorem w_min {xs : List Int} {m : Int} (W : Wd K B ctx L H) (h : Ls K ctx L t xs v) (e : minO xs = some m) (k : Q (.int m) H) : rMin K [v] H Q := by
  obtain ⟨N, F, W⟩ := W
  obtain ⟨a, vs, rfl, h1, h2⟩ := h B H N F W
  rw [all2_int h2] at h1
  obtain ⟨hn, rfl⟩ := guardE e
  exact i_minF h1 (List.length_pos_iff.mpr hn) k
theorem sorted_uniq : ∀ {xs ys : List Int}, xs.Perm ys → xs.Pairwise (· ≤ ·) → ys.Pairwise (· ≤ ·) → xs = ys
  | [], ys, p, _, _ => by rw [List.Perm.nil_eq p]
  | x :: xs, ys, p, h1, h2 => by
    cases ys with
    | nil => exact absurd p.length_eq (by simp)
    | cons y ys =>
      obtain ⟨a1, a2⟩ := List.pairwise_cons.mp h1
      obtain ⟨b1, b2⟩ := List.pairwise_cons.mp h2
      have e : x = y := by
        have hx := p.mem_iff.mp (List.mem_cons_self (a := x))
        have hy := p.mem_iff.mpr (List.mem_cons_self (a := y))
        rcases List.mem_cons.mp hx with h | h
        · exact h
        · rcases List.mem_cons.mp hy with h' | h'
          · exact h'.symm
          · have := a1 _ h'
            have := b1 _ h
            omega
      subst e
      rw [sorted_uniq (List.Perm.cons_inv p) a2 b2]
theorem sortI_perm (xs : List Int) : (sortI xs).Perm xs := List.mergeSort_perm _ _
theorem sortI_pw (xs : List Int) : (sortI xs).Pairwise (· ≤ ·) := by
  have h := List.pairwise_mergeSort (le := fun (a b : Int) => decide (a ≤ b)) (fun a b c h1 h2 => by simp at *; omega) (fun a b => by simp; omega) xs
  exact h.imp fun h => by simpa using h
theorem w_sorted {xs : List Int} (W : Wd K B ctx L H) (h : Ls K ctx L t xs v) (k : ∀ p H', Wd K B ctx (oL true p (sortI xs) :: L) H' → Q (.ref p) H') : rSortedI K [v] H Q := by
  obtain ⟨N, F, W⟩ := W
  obtain ⟨a, vs, rfl, h1, h2⟩ := h B H N F W
  rw [all2_int h2] at h1
  refine ⟨a, xs, rfl, h1, fun ms p hp hs hn => ?_⟩
  have e : ms = sortI xs := sorted_uniq (hp.trans (sortI_perm xs).symm) hs (sortI_pw xs)
  rw [e]
  exact k p _ (Wd.newL W hn (all2_ofInt _))
section
variable [RpD α] [RpD β]
theorem w_eq {b : Bool} (W : Wd K B ctx L H) (h : Ar K ctx L x v) (h' : Ar K ctx L y w) (e : eqO x y = some b) (k : Q (.bl b) H) : rEqA K v w H Q := by
  obtain ⟨N, F, W⟩ := W
  obtain ⟨⟨s1, s2⟩, rfl⟩ := guardE e
  exact i_eqD (RpD.dp (h B H N F W)) (RpD.dp (h' B H N F W)) s1 s2 k
theorem w_ne {b : Bool} (W : Wd K B ctx L H) (h : Ar K ctx L x v) (h' : Ar K ctx L y w) (e : eqO x y = some b) (k : Q (.bl (!b)) H) : rNeA K v w H Q := by
  obtain ⟨N, F, W⟩ := W
  obtain ⟨⟨s1, s2⟩, rfl⟩ := guardE e
  exact i_neD (RpD.dp (h B H N F W)) (RpD.dp (h' B H N F W)) s1 s2 k
theorem w_repr {s : PySem.Str} (W : Wd K B ctx L H) (h : Ar K ctx L x v) (e : reprO x = some s) (k : Q (.str s) H) : rRepr K [v] H Q := by
  obtain ⟨N, F, W⟩ := W
  obtain ⟨⟨s1, s2, s3, s4⟩, rfl⟩ := guardE e
  exact i_repr (RpD.dp (h B H N F W)) s1 s2 s3 s4 k
theorem w_isi {c : String} (W : Wd K B ctx L H) (h : Ar K ctx L x v) (hc : c ∈ ["bool", "int", "str", "list", "tuple"]) (k : Q (.bl (isiO x c)) H) : rIsi K [v, .ty c] H Q := by
  obtain ⟨N, F, W⟩ := W
  exact i_isi (RpD.tyx (h B H N F W)) (kit_isub (RpD.tys x) hc) k
end
theorem opt_non {x : Option α} (W : Wd K B ctx L H) (h : Kn K ctx t x v) (hn : ∀ (y : α) S u, Rp.rep S y u → u ≠ .non) : decide (v = .non) = x.isNone := by
  obtain ⟨N, F, W⟩ := W
  have r := h N F W.nF W.facts
  cases x with
  | none =>
    cases (show v = .non from r)
    rfl
  | some y => exact decide_eq_false (hn y _ v r)
/-- values that are never None -/
class NN (α : Type) [Rp α] : Prop where
  h : ∀ (y : α) S u, Rp.rep S y u → u ≠ .non
instance : NN Int := ⟨fun _ _ _ h e => by cases h; cases e⟩
instance : NN Bool := ⟨fun _ _ _ h e => by cases h; cases e⟩
instance : NN PySem.Str := ⟨fun _ _ _ h e => by cases h; cases e⟩
instance : NN (List α) := ⟨fun _ _ _ ⟨_, _, h, _⟩ e => by rw [h] at e; cases e⟩
instance : NN (α × β) := ⟨fun _ _ _ ⟨_, _, _, h, _⟩ e => by rw [h] at e; cases e⟩
instance : NN (T3 α β γ) := ⟨fun _ _ _ ⟨_, _, _, _, h, _⟩ e => by rw [h] at e; cases e⟩
theorem w_isN [NN α] {x : Option α} (W : Wd K B ctx L H) (h : Kn K ctx t x v) (k : Q (.bl x.isNone) H) : rIsN v .non H Q := ⟨rfl, by
  rw [opt_non W h NN.h]
  exact k⟩
theorem w_notN [NN α] {x : Option α} (W : Wd K B ctx L H) (h : Kn K ctx t x v) (k : Q (.bl (!x.isNone)) H) : rNotN v .non H Q := ⟨rfl, by
  rw [opt_non W h NN.h]
  exact k⟩
/-- and, or, if-else: the right side once for all wishes -/
theorem w_and {b : Bool} {tt : TT} {R : Bool → Hp → Prop} (Mid : Bool → Hp → Prop) (h1 : b = true → ∀ R' : Bool → Hp → Prop, (∀ c H', Mid c H' → R' c H') → tt σ H R') (h2 : b = false → Mid false H) (h3 : ∀ c H', Mid c H' → R c H') : if b = true then tt σ H R else R false H := by
  cases b with
  | true => exact i_T (h1 rfl R h3)
  | false => exact i_F (h3 _ _ (h2 rfl))
theorem w_or {b : Bool} {tt : TT} {R : Bool → Hp → Prop} (Mid : Bool → Hp → Prop) (h1 : b = false → ∀ R' : Bool → Hp → Prop, (∀ c H', Mid c H' → R' c H') → tt σ H R') (h2 : b = true → Mid true H) (h3 : ∀ c H', Mid c H' → R c H') : if b = true then R true H else tt σ H R := by
  cases b with
  | true => exact i_T (h3 _ _ (h2 rfl))
  | false => exact i_F (h1 rfl R h3)
theorem w_andV {b : Bool} {te : TE} (Mid : V → Hp → Prop) (h1 : b = true → ∀ Q' : VK, (∀ c H', Mid c H' → Q' c H') → te σ H Q') (h2 : b = false → Mid (.bl false) H) (h3 : ∀ c H', Mid c H' → Q c H') : if b = true then te σ H Q else Q (.bl false) H := by
  cases b with
  | true => exact i_T (h1 rfl Q h3)
  | false => exact i_F (h3 _ _ (h2 rfl))
theorem w_orV {b : Bool} {te : TE} (Mid : V → Hp → Prop) (h1 : b = false → ∀ Q' : VK, (∀ c H', Mid c H' → Q' c H') → te σ H Q') (h2 : b = true → Mid (.bl true) H) (h3 : ∀ c H', Mid c H' → Q c H') : if b = true then Q (.bl true) H else te σ H Q := by
  cases b with
  | true => exact i_T (h3 _ _ (h2 rfl))
  | false => exact i_F (h1 rfl Q h3)
theorem w_ite {b : Bool} {ta tb : TE} (Mid : V → Hp → Prop) (h1 : b = true → ∀ Q' : VK, (∀ c H', Mid c H' → Q' c H') → ta σ H Q') (h2 : b = false → ∀ Q' : VK, (∀ c H', Mid c H' → Q' c H') → tb σ H Q') (h3 : ∀ c H', Mid c H' → Q c H') : if b = true then ta σ H Q else tb σ H Q := by
  cases b with
  | true => exact i_T (h1 rfl Q h3)
  | false => exact i_F (h2 rfl Q h3)
end
end PB

namespace PB
open PySem PySem.Spec PyProof.Rows L2
/-! ### loops by their mirrors -/
section
variable {K : PySem.W.Frag} {B : Hp} {ρ β ε α γ : Type} [Rp α] [Rp γ]
/-- the state of a loop: slots, facts, own lists by the mirror's state b and what is chosen, e -/
structure Shp (β ε : Type) where
  sg : β → ε → L2.St
  cx : β → ε → List Fact
  ow : β → ε → List Own
def NX (K : PySem.W.Frag) (B : Hp) (S : Shp β ε) (o : Ctl ρ β) (σ : L2.St) (H : Hp) : Prop := ∃ b e, o = .go b ∧ σ = S.sg b e ∧ Wd K B (S.cx b e) (S.ow b e) H
def NF (K : PySem.W.Frag) (B : Hp) (S : Shp β ε) (b : β) (σ : L2.St) (H : Hp) : Prop := ∃ e, σ = S.sg b e ∧ Wd K B (S.cx b e) (S.ow b e) H
/-- what is walked gives the items of xs -/
def Gives (K : PySem.W.Frag) (B : Hp) (S : Shp β ε) (J : It) (t : Bool) (xs : List α) : Prop := ∀ (i : Nat) b e H, Wd K B (S.cx b e) (S.ow b e) H →
  (xs.length ≤ i → J.stop i H) ∧ ∀ x, xs[i]? = some x → J.go i H ∧ ∀ v H', J.yld i H v H' → Wd K B (fc t x v :: S.cx b e) (S.ow b e) H'
section
variable {S : Shp β ε} {H : Hp} {σ : L2.St} {nx bk ct : L2.St → Hp → Prop} {rt : VK} {g : TG} {tb : TS} {J : It} {t : Bool} {xs : List α} {b0 : β} {e0 : ε}
theorem w_for {f : α → β → Option (Ctl ρ β)} {o : Ctl ρ β} (S : Shp β ε) (e0 : ε) (hm : forO f xs b0 = some o) (hσ : σ = S.sg b0 e0) (W : Wd K B (S.cx b0 e0) (S.ow b0 e0) H) (hJ : Gives K B S J t xs)
    (step : ∀ x v b e H' o', Wd K B (fc t x v :: S.cx b e) (S.ow b e) H' → f x b = some o' → (∀ r, o' = .ret r → o = .ret r) → g v (S.sg b e) H' fun σ2 H2 => tb ⟨NX K B S o', rt, nx, NX K B S o'⟩ σ2 H2)
    (done : ∀ b e H, o = .go b → Wd K B (S.cx b e) (S.ow b e) H → nx (S.sg b e) H) : rFor J g tb ⟨nx, rt, bk, ct⟩ σ H := by
  refine ⟨fun i m σ H => m = xs.length - i ∧ ∃ b e, forO f (xs.drop i) b = some o ∧ σ = S.sg b e ∧ Wd K B (S.cx b e) (S.ow b e) H, ⟨_, rfl, b0, e0, hm, hσ, W⟩, ?_⟩
  rintro i m σ H ⟨rfl, b, e, hm, rfl, W⟩
  obtain ⟨h1, h2⟩ := hJ i b e H W
  by_cases hi : i < xs.length
  · have hx : xs[i]? = some xs[i] := List.getElem?_eq_getElem hi
    obtain ⟨h3, h4⟩ := h2 _ hx
    rw [List.drop_eq_getElem_cons hi, forO] at hm
    refine .inr ⟨h3, ?_⟩
    cases q : f xs[i] b with
    | none => rw [q] at hm; cases hm
    | some o' =>
      rw [q] at hm
      refine ⟨NX K B S o', ?_, fun v H' y => step _ v b e H' o' (h4 v H' y) q (fun r er => ?_)⟩
      · rintro σ' H'' ⟨b', e', rfl, rfl, W'⟩
        exact ⟨xs.length - (i + 1), by omega, rfl, b', e', hm, rfl, W'⟩
      · subst er
        exact (Option.some.inj hm).symm
  · rw [List.drop_eq_nil_of_le (by omega), forO] at hm
    exact .inl ⟨h1 (by omega), done b e H (Option.some.inj hm).symm W⟩
theorem w_fold {f : α → β → Option β} {b1 : β} (S : Shp β ε) (e0 : ε) (hm : foldO f xs b0 = some b1) (hσ : σ = S.sg b0 e0) (W : Wd K B (S.cx b0 e0) (S.ow b0 e0) H) (hJ : Gives K B S J t xs)
    (step : ∀ x v b e H' b', Wd K B (fc t x v :: S.cx b e) (S.ow b e) H' → f x b = some b' → g v (S.sg b e) H' fun σ2 H2 => tb ⟨NF K B S b', rt, nx, NF K B S b'⟩ σ2 H2)
    (done : ∀ e H, Wd K B (S.cx b1 e) (S.ow b1 e) H → nx (S.sg b1 e) H) : rFor J g tb ⟨nx, rt, bk, ct⟩ σ H := by
  refine ⟨fun i m σ H => m = xs.length - i ∧ ∃ b e, foldO f (xs.drop i) b = some b1 ∧ σ = S.sg b e ∧ Wd K B (S.cx b e) (S.ow b e) H, ⟨_, rfl, b0, e0, hm, hσ, W⟩, ?_⟩
  rintro i m σ H ⟨rfl, b, e, hm, rfl, W⟩
  obtain ⟨h1, h2⟩ := hJ i b e H W
  by_cases hi : i < xs.length
  · have hx : xs[i]? = some xs[i] := List.getElem?_eq_getElem hi
    obtain ⟨h3, h4⟩ := h2 _ hx
    rw [List.drop_eq_getElem_cons hi, foldO] at hm
    obtain ⟨b', q, hm⟩ := bndE hm
    refine .inr ⟨h3, NF K B S b', ?_, fun v H' y => step _ v b e H' b' (h4 v H' y) q⟩
    rintro σ' H'' ⟨e', rfl, W'⟩
    exact ⟨xs.length - (i + 1), by omega, rfl, b', e', hm, rfl, W'⟩
  · rw [List.drop_eq_nil_of_le (by omega), foldO] at hm
    cases hm
    exact .inl ⟨h1 (by omega), done e H W⟩
/-- while: .brk ends it -/
def NW2 (K : PySem.W.Frag) (B : Hp) (S : Shp β ε) (o : Ctl ρ β) (σ : L2.St) (H : Hp) : Prop := ∃ b e, o = .brk b ∧ σ = S.sg b e ∧ Wd K B (S.cx b e) (S.ow b e) H
theorem w_while {c : TT} {f : β → Option (Ctl ρ β)} {o : Ctl ρ β} {n : Nat} (S : Shp β ε) (e0 : ε) (hm : whileO f n b0 = some o) (hσ : σ = S.sg b0 e0) (W : Wd K B (S.cx b0 e0) (S.ow b0 e0) H)
    (step : ∀ b e H' o', Wd K B (S.cx b e) (S.ow b e) H' → f b = some o' → (∀ r, o' = .ret r → o = .ret r) → (∀ b' e' H'', o' = .brk b' → Wd K B (S.cx b' e') (S.ow b' e') H'' → nx (S.sg b' e') H'') → ∀ P : L2.St → Hp → Prop, (∀ σ' H'', NX K B S o' σ' H'' → P σ' H'') →
      c (S.sg b e) H' fun k H1 => if k = true then (∃ N : L2.St → Hp → Prop, (∀ σ' H'', N σ' H'' → P σ' H'') ∧ tb ⟨N, rt, nx, N⟩ (S.sg b e) H1) else nx (S.sg b e) H1)
    (done : ∀ b e H, o = .go b → Wd K B (S.cx b e) (S.ow b e) H → nx (S.sg b e) H) : tWhile c tb ⟨nx, rt, bk, ct⟩ σ H := by
  refine ⟨fun m σ H => ∃ b e, whileO f m b = some o ∧ σ = S.sg b e ∧ Wd K B (S.cx b e) (S.ow b e) H, ⟨n, b0, e0, hm, hσ, W⟩, ?_⟩
  rintro m σ H ⟨b, e, hm, rfl, W⟩
  cases m with
  | zero => cases hm
  | succ m =>
    rw [whileO] at hm
    cases q : f b with
    | none => rw [q] at hm; cases hm
    | some o' =>
      rw [q] at hm
      refine step b e H o' W q (fun r er => ?_) (fun b' e' H'' eb W' => ?_) _ ?_
      · subst er
        exact (Option.some.inj hm).symm
      · subst eb
        exact done b' e' H'' (Option.some.inj hm).symm W'
      · rintro σ' H'' ⟨b', e', rfl, rfl, W'⟩
        exact ⟨m, Nat.lt_succ_self m, b', e', hm, rfl, W'⟩
end
/-! ### what a for walks -/
section
variable {S : Shp β ε} {t : Bool} {xs : List α} {a : Addr}
theorem gv_list (h : ∀ b e, Ls K (S.cx b e) (S.ow b e) t xs (.ref a)) : Gives K B S (Itl K a) t xs := fun i b e H W => by
  obtain ⟨N, F, W⟩ := W
  obtain ⟨a', vs, ea, h1, h2⟩ := h b e B H N F W
  cases ea
  refine ⟨fun hi => ⟨vs, h1, by rw [h2.len]; exact hi⟩, fun x hx => ?_⟩
  obtain ⟨v, hv, r⟩ := h2.get hx
  refine ⟨⟨vs, v, h1, hv⟩, fun v' H' y => ?_⟩
  obtain ⟨rfl, y⟩ := y
  have := y vs h1
  rw [hv] at this
  cases this
  exact Wd.fact W r
theorem gv_enum (h : ∀ b e, Ls K (S.cx b e) (S.ow b e) t xs (.ref a)) : Gives K B S (Ite K a) t (enumI 0 xs) := fun i b e H W => by
  have en : ∀ (k : Int) (xs : List α) (i : Nat) (p : Int × α), (enumI k xs)[i]? = some p → p.1 = k + i ∧ xs[i]? = some p.2 := by
    intro k xs
    induction xs generalizing k with
    | nil => intro i p h; simp [enumI] at h
    | cons x xs ih =>
      intro i p h
      cases i with
      | zero => simp [enumI] at h; subst h; exact ⟨by simp, rfl⟩
      | succ i =>
        obtain ⟨h1, h2⟩ := ih (k + 1) i p (by simpa [enumI] using h)
        exact ⟨by rw [h1]; omega, by simpa using h2⟩
  have el : ∀ (k : Int) (xs : List α), (enumI k xs).length = xs.length := by
    intro k xs
    induction xs generalizing k with
    | nil => rfl
    | cons x xs ih => exact congrArg (· + 1) (ih (k + 1))
  obtain ⟨N, F, W⟩ := W
  obtain ⟨a', vs, ea, h1, h2⟩ := h b e B H N F W
  cases ea
  refine ⟨fun hi => ⟨vs, h1, by rw [h2.len, ← el 0]; exact hi⟩, fun x hx => ?_⟩
  obtain ⟨e1, e2⟩ := en 0 xs i x hx
  obtain ⟨v, hv, r⟩ := h2.get e2
  refine ⟨⟨vs, v, h1, hv⟩, fun v' H' y => ?_⟩
  obtain ⟨p, w, rfl, hp, rfl, y⟩ := y
  have := y vs h1
  rw [hv] at this
  cases this
  refine Wd.newT W hp t fun N' F' s s' q => ⟨p, _, v, rfl, q, ?_, Rp.mono (reg_mono s s') r⟩
  show V.int (i : Nat) = .int x.1
  rw [e1]
  simp
theorem gv_zip {δ : Type} [Rp δ] {ys : List δ} {c : Addr} (h : ∀ b e, Ls K (S.cx b e) (S.ow b e) t xs (.ref a)) (h' : ∀ b e, Ls K (S.cx b e) (S.ow b e) t ys (.ref c)) : Gives K B S (Itz K a c) t (xs.zip ys) := fun i b e H W => by
  obtain ⟨N, F, W⟩ := W
  obtain ⟨a', vs, ea, h1, h2⟩ := h b e B H N F W
  cases ea
  obtain ⟨a', ws, ea, h3, h4⟩ := h' b e B H N F W
  cases ea
  refine ⟨fun hi => ⟨vs, ws, h1, h3, ?_⟩, fun x hx => ?_⟩
  · rw [List.length_zip] at hi
    rw [h2.len, h4.len]
    omega
  · obtain ⟨e1, e2⟩ := List.getElem?_zip_eq_some.mp hx
    obtain ⟨v, hv, r⟩ := h2.get e1
    obtain ⟨w, hw, r'⟩ := h4.get e2
    refine ⟨⟨vs, ws, v, w, h1, h3, hv, hw⟩, fun v' H' y => ?_⟩
    obtain ⟨p, u, z, rfl, hp, rfl, y1, y2⟩ := y
    have t1 := y1 vs h1
    have t2 := y2 ws h3
    rw [hv] at t1
    rw [hw] at t2
    cases t1
    cases t2
    exact Wd.newT W hp t fun N' F' s s' q => ⟨p, v, w, rfl, q, Rp.mono (reg_mono s s') r, Rp.mono (reg_mono s s') r'⟩
theorem rangeF_get : ∀ (n : Nat) (lo : Int) (i : Nat) (x : Int), (rangeF lo n)[i]? = some x → i < n ∧ x = lo + i
  | 0, _, _, _, h => by simp [rangeF] at h
  | n + 1, lo, 0, x, h => by simp [rangeF] at h; subst h; exact ⟨by omega, by simp⟩
  | n + 1, lo, i + 1, x, h => by
    obtain ⟨h1, h2⟩ := rangeF_get n (lo + 1) i x (by simpa [rangeF] using h)
    exact ⟨by omega, by rw [h2]; omega⟩
theorem rangeF_len : ∀ (n : Nat) (lo : Int), (rangeF lo n).length = n
  | 0, _ => rfl
  | n + 1, lo => congrArg (· + 1) (rangeF_len n (lo + 1))
theorem rangeB_get : ∀ (n : Nat) (lo : Int) (i : Nat) (x : Int), (rangeB lo n)[i]? = some x → i < n ∧ x = lo - i
  | 0, _, _, _, h => by simp [rangeB] at h
  | n + 1, lo, 0, x, h => by simp [rangeB] at h; subst h; exact ⟨by omega, by simp⟩
  | n + 1, lo, i + 1, x, h => by
    obtain ⟨h1, h2⟩ := rangeB_get n (lo - 1) i x (by simpa [rangeB] using h)
    exact ⟨by omega, by rw [h2]; omega⟩
theorem rangeB_len : ∀ (n : Nat) (lo : Int), (rangeB lo n).length = n
  | 0, _ => rfl
  | n + 1, lo => congrArg (· + 1) (rangeB_len n (lo - 1))
theorem gv_rng {S : Shp β ε} {lo : Int} {n : Nat} : Gives K B S (Itr lo n) true (rangeF lo n) := fun i b e H W => by
  refine ⟨fun hi => by rw [rangeF_len] at hi; exact hi, fun x hx => ?_⟩
  obtain ⟨h1, h2⟩ := rangeF_get n lo i x hx
  refine ⟨h1, fun v H' y => ?_⟩
  obtain ⟨rfl, rfl⟩ := y
  rw [h2]
  exact W.know Kn.int
theorem gv_rgb {S : Shp β ε} {lo : Int} {n : Nat} : Gives K B S (Itc lo (-1) n) true (rangeB lo n) := fun i b e H W => by
  refine ⟨fun hi => by rw [rangeB_len] at hi; exact hi, fun x hx => ?_⟩
  obtain ⟨h1, h2⟩ := rangeB_get n lo i x hx
  refine ⟨h1, fun v H' y => ?_⟩
  obtain ⟨rfl, rfl⟩ := y
  rw [h2, show lo + (i : Int) * -1 = lo - i by omega]
  exact W.know Kn.int
/-- a tuple of like things that is walked: laid in the frame as a raw fact -/
def fT (t : Bool) {α : Type} [Rp α] (xs : List α) (v : V) : Fact := ⟨fun K N F => ∃ a vs, v = .ref a ∧ (reg t K N F).t a vs ∧ All2 (Rp.rep (reg t K N F)) xs vs,
  fun h1 h2 ⟨a, vs, e, h, r⟩ => ⟨a, vs, e, (reg_mono h1 h2).t _ _ h, r.mono fun _ _ q => Rp.mono (reg_mono h1 h2) q⟩⟩
theorem w_tupL {ctx : List Fact} {L : List Own} {H : Hp} {Q : VK} {vs : List V} (W : Wd K B ctx L H) (h : KnL K ctx t xs vs) (hz : vs.length ≤ sizeLine) (k : ∀ p H', Wd K B (fT t xs (.ref p) :: ctx) L H' → Q (.ref p) H') : rTup vs H Q := by
  obtain ⟨N, F, W⟩ := W
  exact ⟨hz, fun p hp => k p _ (Wd.newT W hp t fun N' F' s s' q => ⟨p, vs, rfl, q, (h N F W.nF W.facts).mono fun _ _ r => Rp.mono (reg_mono s s') r⟩)⟩
theorem gv_tup (j : β → ε → Nat) (h : ∀ b e, (S.cx b e)[j b e]? = some (fT t xs (.ref a))) : Gives K B S (Itt K a) t xs := fun i b e H W => by
  obtain ⟨N, F, W⟩ := W
  obtain ⟨a', vs, ea, h1, h2⟩ := W.facts _ (List.mem_of_getElem? (h b e))
  cases ea
  have h1 := (reg_A W.nF W.fH).t _ _ h1
  refine ⟨fun hi => ⟨vs, h1, by rw [h2.len]; exact hi⟩, fun x hx => ?_⟩
  obtain ⟨v, hv, r⟩ := h2.get hx
  refine ⟨⟨vs, v, h1, hv⟩, fun v' H' y => ?_⟩
  obtain ⟨rfl, y⟩ := y
  have := y vs h1
  rw [hv] at this
  cases this
  exact Wd.fact W r
end
/-! ### comprehensions -/
section
variable {S : Shp β ε} {H : Hp} {σ : L2.St} {g : TG} {tt : TT} {te : TE} {vs : List Nat} {Q : VK} {J : It} {t td : Bool} {xs : List α} {b0 b1 : β} {e0 : ε}
/-- the shape with the new list -/
def withD (S : Shp β ε) (td : Bool) (D : Addr) : Shp (β × List γ) ε := ⟨fun b e => S.sg b.1 e, fun b e => S.cx b.1 e, fun b e => oL td D b.2 :: S.ow b.1 e⟩
def NC (K : PySem.W.Frag) (B : Hp) (S : Shp β ε) (td : Bool) (D : Addr) (b : β) (acc : List γ) (H : Hp) : Prop := ∃ e, Wd K B (S.cx b e) (oL td D acc :: S.ow b e) H
theorem c_core {f : α → β → Option (Option γ × β)} {F : List α → β → Option (List γ × β)} {ys : List γ} (S : Shp β ε) (e0 : ε) (td : Bool)
    (hF0 : ∀ b, F [] b = some ([], b)) (hF1 : ∀ x xs b, F (x :: xs) b = (f x b).bind fun p => (F xs p.2).bind fun q => some (p.1.toList ++ q.1, q.2))
    (hm : F xs b0 = some (ys, b1)) (hz : xs.length ≤ sizeLine) (W : Wd K B (S.cx b0 e0) (S.ow b0 e0) H) (hJ : ∀ D, Gives K B (withD (γ := γ) S td D) J t xs)
    (step : ∀ D x v b e acc H' p, acc.length < sizeLine → Wd K B (fc t x v :: S.cx b e) (oL td D acc :: S.ow b e) H' → f x b = some p → g v (wipe σ vs) H' fun σ2 H2 => wipe σ2 vs = wipe σ vs ∧ tt σ2 H2 fun c H3 =>
      if c = true then te σ2 H3 (rElt D (NC K B S td D p.2 (acc ++ p.1.toList))) else NC K B S td D p.2 (acc ++ p.1.toList) H3)
    (done : ∀ D e H, Wd K B (S.cx b1 e) (oL td D ys :: S.ow b1 e) H → Q (.ref D) H) : rLc J g tt te vs σ H Q := fun D hD => by
  obtain ⟨N, F0, W⟩ := W
  have W1 : Wd K B (S.cx b0 e0) (oL td D ([] : List γ) :: S.ow b0 e0) (upd H D (.lst [])) := Wd.newL W hD trivial
  refine ⟨fun i m H => m = xs.length - i ∧ ∃ b e acc ys', F (xs.drop i) b = some (ys', b1) ∧ acc ++ ys' = ys ∧ acc.length ≤ i ∧ Wd K B (S.cx b e) (oL td D acc :: S.ow b e) H, ⟨_, rfl, b0, e0, [], ys, hm, rfl, Nat.le_refl _, W1⟩, ?_⟩
  rintro i m H ⟨rfl, b, e, acc, ys', hm, hys, hacc, W⟩
  obtain ⟨h1, h2⟩ := hJ D i (b, acc) e H W
  by_cases hi : i < xs.length
  · have hx : xs[i]? = some xs[i] := List.getElem?_eq_getElem hi
    obtain ⟨h3, h4⟩ := h2 _ hx
    rw [List.drop_eq_getElem_cons hi, hF1] at hm
    obtain ⟨p, q, hm⟩ := bndE hm
    obtain ⟨r, q2, hm⟩ := bndE hm
    have hm := Option.some.inj hm
    refine .inr ⟨h3, NC K B S td D p.2 (acc ++ p.1.toList), ?_, fun v H' y => step D _ v b e acc H' p (by omega) (h4 v H' y) q⟩
    rintro H'' ⟨e', W'⟩
    refine ⟨xs.length - (i + 1), by omega, rfl, p.2, e', acc ++ p.1.toList, r.1, ?_, ?_, ?_, W'⟩
    · rw [q2, ← (Prod.mk.inj hm).2]
    · rw [List.append_assoc, (Prod.mk.inj hm).1, hys]
    · rw [List.length_append]
      cases p.1 with
      | none => simp; omega
      | some z => simp; omega
  · rw [List.drop_eq_nil_of_le (by omega), hF0] at hm
    cases hm
    rw [List.append_nil] at hys
    subst hys
    exact .inl ⟨h1 (by omega), done D e H W⟩
theorem w_elt {ctx : List Fact} {L : List Own} {acc : List γ} {y : γ} {v : V} {D : Addr} {Nx : Hp → Prop} (W : Wd K B ctx (oL td D acc :: L) H) (h : Kn K ctx td y v) (hz : acc.length < sizeLine)
    (k : ∀ H', Wd K B ctx (oL td D (acc ++ [y]) :: L) H' → Nx H') : rElt D Nx v H := by
  obtain ⟨N, F, W⟩ := W
  obtain ⟨o, h1, vs, rfl, h2⟩ := W.at_ _ List.mem_cons_self
  exact ⟨vs, h1, by rw [h2.len]; exact hz, k _ (Wd.put (o' := oL td D (acc ++ [y])) W 0 rfl rfl _ ⟨_, rfl, h2.app (.one (h N F W.nF W.facts))⟩)⟩
/-- [e for x in xs] -/
theorem w_map {ctx : List Fact} {L : List Own} {f : α → Option γ} {ys : List γ} (td : Bool) (hm : mapO f xs = some ys) (W : Wd K B ctx L H) (hJ : ∀ D, Gives K B (withD (γ := γ) (⟨fun _ _ => σ, fun _ _ => ctx, fun _ _ => L⟩ : Shp Unit Unit) td D) J t xs)
    (step : ∀ D x v acc H' y, acc.length < sizeLine → Wd K B (fc t x v :: ctx) (oL td D acc :: L) H' → f x = some y → g v (wipe σ vs) H' fun σ2 H2 => wipe σ2 vs = wipe σ vs ∧ tt σ2 H2 fun c H3 =>
      if c = true then te σ2 H3 (rElt D (NC K B (⟨fun _ _ => σ, fun _ _ => ctx, fun _ _ => L⟩ : Shp Unit Unit) td D () (acc ++ [y]))) else NC K B (⟨fun _ _ => σ, fun _ _ => ctx, fun _ _ => L⟩ : Shp Unit Unit) td D () (acc ++ [y]) H3)
    (done : ∀ D H, Wd K B ctx (oL td D ys :: L) H → Q (.ref D) H) : rLc J g tt te vs σ H Q := by
  obtain ⟨hz, hm⟩ : xs.length ≤ sizeLine ∧ mapG f xs = some ys := by
    unfold mapO at hm
    by_cases h : xs.length ≤ sizeLine
    · rw [if_pos h] at hm; exact ⟨h, hm⟩
    · rw [if_neg h] at hm; cases hm
  refine c_core (f := fun x (_ : Unit) => (f x).map fun y => (some y, ())) (F := fun xs _ => (mapG f xs).map fun ys => (ys, ())) (b1 := ()) (⟨fun _ _ => σ, fun _ _ => ctx, fun _ _ => L⟩ : Shp Unit Unit) () td (fun _ => rfl) (fun x xs b => ?_) (b0 := ()) (by rw [hm]; rfl) hz W hJ
    (fun D x v b e acc H' p ha W hp => ?_) (fun D e H W => done D H W)
  · rw [mapG]
    cases f x with
    | none => rfl
    | some y => cases mapG f xs with
      | none => rfl
      | some ys => rfl
  · cases q : f x with
    | none => rw [q] at hp; cases hp
    | some y =>
      rw [q] at hp
      cases hp
      exact step D x v acc H' y ha W q
/-- [e for x in xs if c] -/
theorem w_cmp {ctx : List Fact} {L : List Own} {f : α → Option (Option γ)} {ys : List γ} (td : Bool) (hm : cmpO f xs = some ys) (W : Wd K B ctx L H) (hJ : ∀ D, Gives K B (withD (γ := γ) (⟨fun _ _ => σ, fun _ _ => ctx, fun _ _ => L⟩ : Shp Unit Unit) td D) J t xs)
    (step : ∀ D x v acc H' y, acc.length < sizeLine → Wd K B (fc t x v :: ctx) (oL td D acc :: L) H' → f x = some y → g v (wipe σ vs) H' fun σ2 H2 => wipe σ2 vs = wipe σ vs ∧ tt σ2 H2 fun c H3 =>
      if c = true then te σ2 H3 (rElt D (NC K B (⟨fun _ _ => σ, fun _ _ => ctx, fun _ _ => L⟩ : Shp Unit Unit) td D () (acc ++ y.toList))) else NC K B (⟨fun _ _ => σ, fun _ _ => ctx, fun _ _ => L⟩ : Shp Unit Unit) td D () (acc ++ y.toList) H3)
    (done : ∀ D H, Wd K B ctx (oL td D ys :: L) H → Q (.ref D) H) : rLc J g tt te vs σ H Q := by
  obtain ⟨hz, hm⟩ : xs.length ≤ sizeLine ∧ cmpG f xs = some ys := by
    unfold cmpO at hm
    by_cases h : xs.length ≤ sizeLine
    · rw [if_pos h] at hm; exact ⟨h, hm⟩
    · rw [if_neg h] at hm; cases hm
  refine c_core (f := fun x (_ : Unit) => (f x).map fun y => (y, ())) (F := fun xs _ => (cmpG f xs).map fun ys => (ys, ())) (b1 := ()) (⟨fun _ _ => σ, fun _ _ => ctx, fun _ _ => L⟩ : Shp Unit Unit) () td (fun _ => rfl) (fun x xs b => ?_) (b0 := ()) (by rw [hm]; rfl) hz W hJ
    (fun D x v b e acc H' p ha W hp => ?_) (fun D e H W => done D H W)
  · rw [cmpG]
    cases f x with
    | none => rfl
    | some y => cases cmpG f xs with
      | none => rfl
      | some ys => cases y <;> rfl
  · cases q : f x with
    | none => rw [q] at hp; cases hp
    | some y =>
      rw [q] at hp
      cases hp
      exact step D x v acc H' y ha W q
/-- [e for x in xs], e with a state -/
theorem w_maps {f : α → β → Option (γ × β)} {r : List γ × β} (S : Shp β ε) (e0 : ε) (td : Bool) (hm : mapSO f xs b0 = some r) (W : Wd K B (S.cx b0 e0) (S.ow b0 e0) H) (hJ : ∀ D, Gives K B (withD (γ := γ) S td D) J t xs)
    (step : ∀ D x v b e acc H' p, acc.length < sizeLine → Wd K B (fc t x v :: S.cx b e) (oL td D acc :: S.ow b e) H' → f x b = some p → g v (wipe σ vs) H' fun σ2 H2 => wipe σ2 vs = wipe σ vs ∧ tt σ2 H2 fun c H3 =>
      if c = true then te σ2 H3 (rElt D (NC K B S td D p.2 (acc ++ [p.1]))) else NC K B S td D p.2 (acc ++ [p.1]) H3)
    (done : ∀ D e H, Wd K B (S.cx r.2 e) (oL td D r.1 :: S.ow r.2 e) H → Q (.ref D) H) : rLc J g tt te vs σ H Q := by
  obtain ⟨hz, hm⟩ : xs.length ≤ sizeLine ∧ mapSG f xs b0 = some r := by
    unfold mapSO at hm
    by_cases h : xs.length ≤ sizeLine
    · rw [if_pos h] at hm; exact ⟨h, hm⟩
    · rw [if_neg h] at hm; cases hm
  refine c_core (f := fun x b => (f x b).map fun y => (some y.1, y.2)) (F := mapSG f) S e0 td (fun _ => rfl) (fun x xs b => ?_) (ys := r.1) (b1 := r.2) hm hz W hJ (fun D x v b e acc H' p ha W hp => ?_) done
  · rw [mapSG]
    cases f x b with
    | none => rfl
    | some y => rfl
  · cases q : f x b with
    | none => rw [q] at hp; cases hp
    | some y =>
      rw [q] at hp
      cases hp
      exact step D x v b e acc H' y ha W q
/-- [e for x in xs if c], with a state -/
theorem w_cmps {f : α → β → Option (Option γ × β)} {r : List γ × β} (S : Shp β ε) (e0 : ε) (td : Bool) (hm : cmpSO f xs b0 = some r) (W : Wd K B (S.cx b0 e0) (S.ow b0 e0) H) (hJ : ∀ D, Gives K B (withD (γ := γ) S td D) J t xs)
    (step : ∀ D x v b e acc H' p, acc.length < sizeLine → Wd K B (fc t x v :: S.cx b e) (oL td D acc :: S.ow b e) H' → f x b = some p → g v (wipe σ vs) H' fun σ2 H2 => wipe σ2 vs = wipe σ vs ∧ tt σ2 H2 fun c H3 =>
      if c = true then te σ2 H3 (rElt D (NC K B S td D p.2 (acc ++ p.1.toList))) else NC K B S td D p.2 (acc ++ p.1.toList) H3)
    (done : ∀ D e H, Wd K B (S.cx r.2 e) (oL td D r.1 :: S.ow r.2 e) H → Q (.ref D) H) : rLc J g tt te vs σ H Q := by
  obtain ⟨hz, hm⟩ : xs.length ≤ sizeLine ∧ cmpSG f xs b0 = some r := by
    unfold cmpSO at hm
    by_cases h : xs.length ≤ sizeLine
    · rw [if_pos h] at hm; exact ⟨h, hm⟩
    · rw [if_neg h] at hm; cases hm
  exact c_core (f := f) (F := cmpSG f) S e0 td (fun _ => rfl) (fun x xs b => rfl) (ys := r.1) (b1 := r.2) hm hz W hJ step done
end
end
end PB

namespace PB
open PySem PySem.Spec PyProof.Rows L2
/-! ### the walk's single steps -/
def fuelW : Nat := 10 ^ 40
def sqO (i : Int) : Option Int := if i.natAbs < 2 ^ 64 then some (i * i) else none
theorem some_inj {α : Type} {a b : α} (h : some a = some b) : a = b := Option.some.inj h
section
variable {K : PySem.W.Frag} {B H H' : Hp} {ctx : List Fact} {L L' : List Own} {t t' : Bool} {α β γ : Type} [Rp α] [Rp β] [Rp γ] {x : α} {y : β} {xs ys : List α} {v w u : V} {vs : List V} {a c : Addr} {Q : VK} {i j k n : Int} {σ : L2.St} {R : It → Hp → Prop}
theorem w_mul (h : mulO i j = some n) (q : Q (.int n) H) : rMulA (.int i) (.int j) H Q := by
  obtain ⟨hc, rfl⟩ := guardE h
  exact i_mulI hc q
theorem w_fdiv (h : fdivO i j = some n) (q : Q (.int n) H) : rI CDivW (fun i j => .int (i / j)) (.int i) (.int j) H Q := by
  obtain ⟨hc, rfl⟩ := guardE h
  exact i_I hc q
theorem w_mod (h : modO i j = some n) (q : Q (.int n) H) : rI (fun _ j => 0 < j) (fun i j => .int (i % j)) (.int i) (.int j) H Q := by
  obtain ⟨hc, rfl⟩ := guardE h
  exact i_I hc q
theorem w_sq (h : sqO i = some n) (q : Q (.int n) H) : rI CPow (fun i j => .int (i ^ j.toNat)) (.int i) (.int 2) H Q := by
  obtain ⟨hc, rfl⟩ := guardE h
  exact i_sq hc q
theorem w_pow (h : powO i j = some n) (q : Q (.int n) H) : rI CPow (fun i j => .int (i ^ j.toNat)) (.int i) (.int j) H Q := by
  obtain ⟨hc, rfl⟩ := guardE h
  exact i_I hc q
theorem w_rg1 {xs : List Int} (h : range1 j = some xs) (k : xs = rangeF 0 j.toNat → R (Itr 0 j.toNat) H) : rRg1 [.int j] H R := by
  obtain ⟨hc, e⟩ := guardE h
  exact i_rg1 hc.1 hc.2 (k e.symm)
theorem w_rg2 {xs : List Int} (h : range2 i j = some xs) (k : xs = rangeF i (j - i).toNat → R (Itr i (j - i).toNat) H) : rRg2 [.int i, .int j] H R := by
  obtain ⟨hc, e⟩ := guardE h
  exact i_rg2 ⟨hc.1.1, hc.1.2, hc.2.1, hc.2.2⟩ (k e.symm)
theorem w_rgD {xs : List Int} (h : rangeD i j = some xs) (k : xs = rangeB i (i - j).toNat → R (Itc i (-1) (i - j).toNat) H) : rRg3 [.int i, .int j, .int (-1)] H R := by
  obtain ⟨hc, e⟩ := guardE h
  exact i_rg3n ⟨hc.1.1, hc.1.2, hc.2.1, hc.2.2⟩ (k e.symm)
theorem w_itL (W : Wd K B ctx L H) (h : Ls K ctx L t xs (.ref a)) (k : R (Itl K a) H) : rItL K (.ref a) H R := by
  obtain ⟨N, F, W⟩ := W
  obtain ⟨a', vs, e, h1, h2⟩ := h B H N F W
  cases e
  exact i_itL h1 k
theorem w_itT (W : Wd K B ctx L H) (m : Nat) (h : ctx[m]? = some (fT t xs (.ref a))) (k : R (Itt K a) H) : rItT K (.ref a) H R := by
  obtain ⟨N, F, W⟩ := W
  obtain ⟨a', vs, e, h1, h2⟩ := W.facts _ (List.mem_of_getElem? h)
  cases e
  exact i_itT ((reg_A W.nF W.fH).t _ _ h1) k
theorem w_en (W : Wd K B ctx L H) (h : Ls K ctx L t xs (.ref a)) (k : R (Ite K a) H) : rEn K [.ref a] H R := by
  obtain ⟨N, F, W⟩ := W
  obtain ⟨a', vs, e, h1, h2⟩ := h B H N F W
  cases e
  exact i_en h1 k
theorem w_zp (W : Wd K B ctx L H) (h : Ls K ctx L t xs (.ref a)) (h' : Ls K ctx L t' ys (.ref c)) (k : R (Itz K a c) H) : rZp K [.ref a, .ref c] H R := by
  obtain ⟨N, F, W⟩ := W
  obtain ⟨a', vs, e, h1, h2⟩ := h B H N F W
  cases e
  obtain ⟨c', ws, e, h3, h4⟩ := h' B H N F W
  cases e
  exact i_zp h1 h3 k
theorem Wd.eqI {i : Int} (W : Wd K B ctx L H) (h : Kn K ctx t i v) : v = .int i := by
  obtain ⟨N, F, W⟩ := W
  exact h N F W.nF W.facts
theorem Wd.eqB {i : Bool} (W : Wd K B ctx L H) (h : Kn K ctx t i v) : v = .bl i := by
  obtain ⟨N, F, W⟩ := W
  exact h N F W.nF W.facts
theorem Wd.eqS {i : PySem.Str} (W : Wd K B ctx L H) (h : Kn K ctx t i v) : v = .str i := by
  obtain ⟨N, F, W⟩ := W
  exact h N F W.nF W.facts
theorem Wd.eqU {i : Unit} (W : Wd K B ctx L H) (h : Kn K ctx t i v) : v = .non := by
  obtain ⟨N, F, W⟩ := W
  exact h N F W.nF W.facts
theorem Wd.eqL (W : Wd K B ctx L H) (h : Kn K ctx t xs v) : ∃ a, v = .ref a := by
  obtain ⟨N, F, W⟩ := W
  obtain ⟨a, vs, e, _⟩ := h N F W.nF W.facts
  exact ⟨a, e⟩
theorem Wd.eqScr {x : Scr} (W : Wd K B ctx L H) (h : Kn K ctx t x v) : ∃ a, v = .ref a := by
  obtain ⟨N, F, W⟩ := W
  obtain ⟨a, e, _⟩ := h N F W.nF W.facts
  exact ⟨a, e⟩
theorem Wd.eqP {p : α × β} (W : Wd K B ctx L H) (h : Kn K ctx t p v) : ∃ a, v = .ref a := by
  obtain ⟨N, F, W⟩ := W
  obtain ⟨a, _, _, e, _⟩ := h N F W.nF W.facts
  exact ⟨a, e⟩
theorem Wd.eq3 {p : T3 α β γ} (W : Wd K B ctx L H) (h : Kn K ctx t p v) : ∃ a, v = .ref a := by
  obtain ⟨N, F, W⟩ := W
  obtain ⟨a, _, _, _, e, _⟩ := h N F W.nF W.facts
  exact ⟨a, e⟩
theorem i_bT {b : Bool} {A C : Prop} (hb : b = true) (h : A) : if b = true then A else C := by
  rw [if_pos hb]
  exact h
theorem i_bF {b : Bool} {A C : Prop} (hb : b = false) (h : C) : if b = true then A else C := by
  rw [if_neg (by rw [hb]; exact Bool.false_ne_true)]
  exact h
theorem and_t {b c : Bool} (hb : b = true) : c = (b && c) := by rw [hb]; rfl
theorem and_f {b c : Bool} (hb : b = false) : false = (b && c) := by rw [hb]; rfl
theorem or_t {b c : Bool} (hb : b = true) : true = (b || c) := by rw [hb]; rfl
theorem or_f {b c : Bool} (hb : b = false) : c = (b || c) := by rw [hb]; rfl
theorem w_andW {b : Bool} (c : Bool) {tt : TT} {P : Bool → Hp → Prop} (W : Wd K B ctx L H) (h1 : b = true → ∀ P' : Bool → Hp → Prop, (∀ d H', d = c → Wd K B ctx L' H' → P' d H') → tt σ H P') (h2 : b = false → false = c ∧ Wd K B ctx L' H) (h3 : ∀ H', Wd K B ctx L' H' → P c H') : if b = true then tt σ H P else P false H :=
  w_and (fun d H' => d = c ∧ Wd K B ctx L' H') (fun hb P' q => h1 hb P' fun d H' e W => q d H' ⟨e, W⟩) (fun hb => h2 hb) (fun d H' ⟨e, W⟩ => by rw [e]; exact h3 H' W)
theorem w_orW {b : Bool} (c : Bool) {tt : TT} {P : Bool → Hp → Prop} (W : Wd K B ctx L H) (h1 : b = false → ∀ P' : Bool → Hp → Prop, (∀ d H', d = c → Wd K B ctx L' H' → P' d H') → tt σ H P') (h2 : b = true → true = c ∧ Wd K B ctx L' H) (h3 : ∀ H', Wd K B ctx L' H' → P c H') {X : Prop} (hX : P true H = X := by rfl) : if b = true then X else tt σ H P := by
  subst hX
  exact w_or (fun d H' => d = c ∧ Wd K B ctx L' H') (fun hb P' q => h1 hb P' fun d H' e W => q d H' ⟨e, W⟩) (fun hb => h2 hb) (fun d H' ⟨e, W⟩ => by rw [e]; exact h3 H' W)
theorem w_andVW {b : Bool} (c : Bool) {te : TE} (W : Wd K B ctx L H) (h1 : b = true → ∀ P' : VK, (∀ d H', d = c → Wd K B ctx L' H' → P' (.bl d) H') → te σ H P') (h2 : b = false → false = c ∧ Wd K B ctx L' H) (h3 : ∀ H', Wd K B ctx L' H' → Q (.bl c) H') : if b = true then te σ H Q else Q (.bl false) H :=
  w_andV (fun d H' => d = .bl c ∧ Wd K B ctx L' H') (fun hb P' q => h1 hb P' fun d H' e W => q _ H' ⟨by rw [e], W⟩) (fun hb => ⟨by rw [(h2 hb).1], (h2 hb).2⟩) (fun d H' ⟨e, W⟩ => by rw [e]; exact h3 H' W)
theorem w_orVW {b : Bool} (c : Bool) {te : TE} (W : Wd K B ctx L H) (h1 : b = false → ∀ P' : VK, (∀ d H', d = c → Wd K B ctx L' H' → P' (.bl d) H') → te σ H P') (h2 : b = true → true = c ∧ Wd K B ctx L' H) (h3 : ∀ H', Wd K B ctx L' H' → Q (.bl c) H') {X : Prop} (hX : Q (.bl true) H = X := by rfl) : if b = true then X else te σ H Q := by
  subst hX
  exact w_orV (fun d H' => d = .bl c ∧ Wd K B ctx L' H') (fun hb P' q => h1 hb P' fun d H' e W => q _ H' ⟨by rw [e], W⟩) (fun hb => ⟨by rw [(h2 hb).1], (h2 hb).2⟩) (fun d H' ⟨e, W⟩ => by rw [e]; exact h3 H' W)
theorem w_chainW {b : Bool} (c : Bool) {te : TE} {r' : R2} {y : V} (W : Wd K B ctx L H) (h1 : b = true → ∀ P' : VK, (∀ d H', d = c → Wd K B ctx L' H' → P' (.bl d) H') → te σ H fun w' H5 => r' y w' H5 P') (h2 : b = false → false = c ∧ Wd K B ctx L' H) (h3 : ∀ H', Wd K B ctx L' H' → Q (.bl c) H') : if b = true then te σ H (fun w' H5 => r' y w' H5 Q) else Q (.bl false) H :=
  w_andVW (te := fun σ H P => te σ H fun w' H5 => r' y w' H5 P) c W h1 h2 h3
/-- if-else as an expression: the value x, by its word -/
theorem w_iteW {b : Bool} (x : α) (t : Bool) {ta tb : TE} (W : Wd K B ctx L H) (h1 : b = true → ∀ P' : VK, (∀ v H', Wd K B (fc t x v :: ctx) L' H' → P' v H') → ta σ H P') (h2 : b = false → ∀ P' : VK, (∀ v H', Wd K B (fc t x v :: ctx) L' H' → P' v H') → tb σ H P') (h3 : ∀ v H', Wd K B (fc t x v :: ctx) L' H' → Q v H') : if b = true then ta σ H Q else tb σ H Q :=
  w_ite (fun v H' => Wd K B (fc t x v :: ctx) L' H') h1 h2 h3
theorem i_isBl {a b : Bool} (h : Q (.bl (decide (a = b))) H) : rIsB (.bl a) (.bl b) H Q := ⟨a, b, rfl, rfl, h⟩
theorem i_notBl {a b : Bool} (h : Q (.bl (!decide (a = b))) H) : rNotB (.bl a) (.bl b) H Q := ⟨a, b, rfl, rfl, h⟩
theorem w_fstP {p : α × β} (W : Wd K B ctx L H) (h : Kn K ctx t p v) (k : ∀ u, Wd K B (fc t p.1 u :: ctx) L H → Q u H) : rIx K v (.int 0) H Q := w_fst (x := p.1) (y := p.2) W h k
theorem w_sndP {p : α × β} (W : Wd K B ctx L H) (h : Kn K ctx t p v) (k : ∀ u, Wd K B (fc t p.2 u :: ctx) L H → Q u H) : rIx K v (.int 1) H Q := w_snd (x := p.1) (y := p.2) W h k
theorem w_unpP {p : α × β} {g : TGs} {R : L2.St → Hp → Prop} (W : Wd K B ctx L H) (h : Kn K ctx t p v) (k : ∀ u w, Wd K B (fc t p.1 u :: fc t p.2 w :: ctx) L H → g [u, w] σ H R) : rUnp K 2 g v σ H R := w_unp2 (x := p.1) (y := p.2) W h k
end
/-- a value of one kind as one of another -/
class Co (α β : Type) [Rp α] [Rp β] where
  f : α → β
  h : ∀ {S : Lk} {x : α} {v : V}, Rp.rep S x v → Rp.rep S (f x) v
section
variable {α β γ δ : Type} [Rp α] [Rp β] [Rp γ] [Rp δ]
instance : Co α (Option α) := ⟨some, fun h => h⟩
instance : Co Unit (Option α) := ⟨fun _ => none, fun h => h⟩
theorem all2_map [Co α β] {S : Lk} : ∀ {xs : List α} {vs : List V}, All2 (Rp.rep S) xs vs → All2 (Rp.rep S) (xs.map (Co.f (β := β))) vs
  | [], [], _ => trivial
  | _ :: _, _ :: _, h => ⟨Co.h h.1, all2_map h.2⟩
  | [], _ :: _, h => h.elim
  | _ :: _, [], h => h.elim
instance [Co α β] : Co (List α) (List β) := ⟨List.map Co.f, fun ⟨a, vs, e, h, r⟩ => ⟨a, vs, e, h, all2_map r⟩⟩
theorem Kn.co [Co α β] {K : PySem.W.Frag} {ctx : List Fact} {t : Bool} {x : α} {v : V} (h : Kn K ctx t x v) : Kn K ctx t (Co.f x : β) v := fun N F s q => Co.h (h N F s q)
theorem Lx.co [Co α β] {K : PySem.W.Frag} {ctx : List Fact} {L : List Own} {t : Bool} {xs : List α} {v : V} (h : Lx K ctx L t xs v) : Lx K ctx L t (xs.map (Co.f (β := β))) v := fun B H N F W => by
  obtain ⟨a, vs, e, h1, h2⟩ := h B H N F W
  exact ⟨a, vs, e, h1, all2_map h2⟩
/-- one's own list read as one of another kind -/
theorem Wd.coO [Co α β] {K : PySem.W.Frag} {B H : Hp} {ctx : List Fact} {L : List Own} {t : Bool} {a : Addr} {xs : List α} (W : Wd K B ctx L H) (j : Nat) (hj : L[j]? = some (oL t a xs)) : Wd K B ctx (L.set j (oL t a (xs.map (Co.f (β := β))))) H := by
  obtain ⟨N, F, W⟩ := W
  have ea : (L.set j (oL t a (xs.map (Co.f (β := β))))).map (·.a) = L.map (·.a) := by
    rw [List.map_set]
    refine List.ext_getElem? fun i => ?_
    rw [List.getElem?_set]
    by_cases hi : j = i
    · subst hi
      have := (List.getElem?_eq_some_iff.mp hj).1
      rw [if_pos rfl, if_pos (by rw [List.length_map]; exact this), List.getElem?_map, hj]
      rfl
    · rw [if_neg hi]
  refine ⟨N, F, W.bF, W.nF, W.sep, W.fH, W.facts, fun o ho => ?_, fun o ho => ?_, by rw [ea]; exact W.nd⟩
  · rcases setMem' W.nd hj ho with rfl | ⟨h1, h2⟩
    · obtain ⟨h, e, vs, rfl, r⟩ := W.at_ _ (List.mem_of_getElem? hj)
      exact ⟨_, e, vs, rfl, all2_map r⟩
    · exact W.at_ o h1
  · rcases setMem' W.nd hj ho with rfl | ⟨h1, h2⟩
    · exact (W.off (oL t a xs) (List.mem_of_getElem? hj) : F a = none)
    · exact W.off o h1
/-- one's own list, its items no longer said to be new -/
theorem Wd.weakO {K : PySem.W.Frag} {B H : Hp} {ctx : List Fact} {L : List Own} {a : Addr} {xs : List α} (W : Wd K B ctx (oL true a xs :: L) H) : Wd K B ctx (oL false a xs :: L) H := by
  obtain ⟨N, F, W⟩ := W
  refine ⟨N, F, W.bF, W.nF, W.sep, W.fH, W.facts, fun o ho => ?_, fun o ho => ?_, W.nd⟩
  · rcases List.mem_cons.mp ho with rfl | ho
    · obtain ⟨h, e, vs, rfl, r⟩ := W.at_ _ List.mem_cons_self
      exact ⟨_, e, vs, rfl, r.mono fun _ _ q => Rp.mono (lkNA W.nF) q⟩
    · exact W.at_ o (List.mem_cons_of_mem _ ho)
  · rcases List.mem_cons.mp ho with rfl | ho
    · exact (W.off (oL true a xs) List.mem_cons_self : F a = none)
    · exact W.off o (List.mem_cons_of_mem _ ho)
end
theorem Wd.unopt {K : PySem.W.Frag} {B H : Hp} {ctx : List Fact} {L : List Own} {t : Bool} {α : Type} [Rp α] {x : Option α} {y : α} {v : V} (W : Wd K B ctx L H) (h : Kn K ctx t x v) (e : x = some y) : Wd K B (fc t y v :: ctx) L H := by
  subst e
  exact W.know h.un

section
variable {K : PySem.W.Frag} {B H H' : Hp} {ctx : List Fact} {L L' : List Own} {t t' : Bool} {α β γ : Type} [Rp α] [Rp β] [Rp γ] {x : α} {y : β} {xs ys : List α} {v w u : V} {vs : List V} {a c : Addr} {Q : VK} {i j k n : Int} {σ : L2.St} {R : It → Hp → Prop}
theorem Wd.arr (W : Wd K B ctx L H) (h : Ar K ctx L x v) : Rp.rep (lkA K H) x v := let ⟨N, F, W⟩ := W; h B H N F W
theorem Wd.ard (W : Wd K B ctx L H) (h : ArD K ctx L a x v) : Rp.rep (lkA K (PB.del H a)) x v := let ⟨N, F, W⟩ := W; h B H N F W
theorem Wd.ioa [Flat α] (W : Wd K B ctx L H) (m : Nat) (h : L[m]? = some (oL t a xs)) : ∃ us, H a = some (.lst us) ∧ All2 (Rp.rep (lkN fun _ => none)) xs us := by
  obtain ⟨N, F, W⟩ := W
  obtain ⟨o, h1, vs, rfl, h2⟩ := W.at_ _ (List.mem_of_getElem? h)
  exact ⟨vs, h1, h2.mono fun _ _ q => Flat.h _ _ _ _ q⟩
theorem Wd.call1U [Flat β] {i : Unit} {ys ys' : List β} {t' : Bool} (W : Wd K B ctx L H) (j : Nat) (hj : L[j]? = some (oL t' a ys)) (r : Res1 K H a (i, ys') v H') : v = .non ∧ Wd K B ctx (L.set j (oL t' a ys')) H' :=
  ⟨let ⟨_, _, _, _, h, _⟩ := r; h, (W.call1 j hj r).drop 1 rfl⟩
theorem Wd.call1S [Flat β] {i : PySem.Str} {ys ys' : List β} {t' : Bool} (W : Wd K B ctx L H) (j : Nat) (hj : L[j]? = some (oL t' a ys)) (r : Res1 K H a (i, ys') v H') : v = .str i ∧ Wd K B ctx (L.set j (oL t' a ys')) H' :=
  ⟨let ⟨_, _, _, _, h, _⟩ := r; h, (W.call1 j hj r).drop 1 rfl⟩
def twoO : List α → Option (α × α)
  | [a, b] => some (a, b)
  | _ => none
theorem w_unpL2 {p : α × α} {g : TGs} {R : L2.St → Hp → Prop} (W : Wd K B ctx L H) (h : Ls K ctx L t xs v) (e : twoO xs = some p) (k : ∀ u w, Wd K B (fc t p.1 u :: fc t p.2 w :: ctx) L H → g [u, w] σ H R) : rUnpL K 2 g v σ H R := by
  match xs, e with
  | [a, b], e =>
    cases e
    exact w_unpL W h k
/-- list(enumerate(xs)) -/
theorem w_le (W : Wd K B ctx L H) (h : Ls K ctx L t xs v) (k : ∀ p H', Wd K B (fc t (enumI 0 xs) (.ref p) :: ctx) L H' → Q (.ref p) H') : rLE K v H Q := by
  obtain ⟨N, F, W⟩ := W
  obtain ⟨a, vs, rfl, h1, h2⟩ := h B H N F W
  refine ⟨a, vs, rfl, h1, fun H' p ts s hp hts hn e pr => k p H' ?_⟩
  let R : Hp := fun b => if b = p ∨ b ∈ ts then H' b else none
  have sR : Same R H' := fun b u e => by
    show H' b = some u
    by_cases hb : b = p ∨ b ∈ ts
    · rw [show R b = H' b from if_pos hb] at e; exact e
    · rw [show R b = none from if_neg hb] at e; cases e
  have hR : ∀ b u, R b = some u → H b = none := fun b u e => by
    by_cases hb : b = p ∨ b ∈ ts
    · rcases hb with rfl | hb
      · exact hp
      · exact hts b hb
    · rw [show R b = none from if_neg hb] at e; cases e
  have J := Wd.joinI (L' := L) W (fun b u _ e => s b u e) sR hR (fun o ho => let ⟨h, e, q⟩ := W.at_ o ho; ⟨h, s _ _ e, fun N' F' a b => o.mono a b q⟩) rfl
  refine ⟨_, _, J.bF, J.nF, J.sep, J.fH, fun f hf => ?_, J.at_, J.off, J.nd⟩
  rcases List.mem_cons.mp hf with rfl | hf
  · have rN : Same R (join N R) := join_r fun a u e => W.nF.free (W.fH.free (hR a u e))
    have rF : Same R (join F R) := join_r fun a u e => W.fH.free (hR a u e)
    have hRp : R p = some (.lst (ts.map V.ref)) := by rw [show R p = H' p from if_pos (.inl rfl), e]
    have key : ∀ (ts' : List Addr) (xs : List α) (vs : List V) (i : Nat), All2 (Rp.rep (reg t K N F)) xs vs → (∀ b ∈ ts', b ∈ ts) → Paired (fun (t : Addr) (q : Key × V) => H' t = some (.tup [kV q.1, q.2])) ts' (enV i vs) → All2 (Rp.rep (reg t K (join N R) (join F R))) (enumI (i : Int) xs) (ts'.map V.ref) := by
      intro ts' xs
      induction xs generalizing ts' with
      | nil =>
        intro vs i h _ pr
        cases vs with
        | nil => cases pr; exact trivial
        | cons => exact h.elim
      | cons x xs ih =>
        intro vs i h hm pr
        cases vs with
        | nil => exact h.elim
        | cons v vs =>
          cases pr with
          | @cons b _ ts2 _ hb pr =>
            refine ⟨⟨b, _, _, rfl, ?_, rfl, Rp.mono (reg_mono join_l join_l) h.1⟩, ?_⟩
            · have hRb : R b = some (.tup [.int (i : Nat), v]) := by
                rw [show R b = H' b from if_pos (.inr (hm b List.mem_cons_self)), hb]
                rfl
              cases t
              · exact SqT.of (rF _ _ hRb)
              · exact rN _ _ hRb
            · have := ih ts2 vs (i + 1) h.2 (fun c hc => hm c (List.mem_cons_of_mem _ hc)) pr
              rw [show ((i + 1 : Nat) : Int) = (i : Int) + 1 by omega] at this
              exact this
    refine ⟨p, ts.map V.ref, rfl, ?_, ?_⟩
    · cases t
      · exact rF _ _ hRp
      · exact rN _ _ hRp
    · have := key ts xs vs 0 h2 (fun _ h => h) pr
      simpa using this
  · exact J.facts f hf
theorem w_eqScr {x : Scr} {ms : List Int} (W : Wd K B ctx L H) (h : Kn K ctx false x v) (h' : Ls K ctx L t ms w) (q : Q (.bl (decide (x.l = ms))) H) : rEqA K v w H Q := by
  obtain ⟨N, F, W⟩ := W
  obtain ⟨a, rfl, h1⟩ := h N F W.nF W.facts
  obtain ⟨b, vs, rfl, h3, h4⟩ := h' B H N F W
  rw [all2_int h4] at h3
  exact i_eqLI (W.fH.seq h1) h3 q
def rangeL (i j : Int) : Option (List Int) := if ok62 i ∧ ok62 j ∧ (j - i).toNat ≤ 2 ^ 24 then some (rangeF i (j - i).toNat) else none
theorem rgV_eq (i j : Int) : rgV i j = (rangeF i (j - i).toNat).map V.int := by
  unfold rgV
  refine List.ext_getElem? fun k => ?_
  rw [List.getElem?_map, List.getElem?_map]
  by_cases hk : k < (j - i).toNat
  · rw [List.getElem?_range hk]
    have hl : k < (rangeF i (j - i).toNat).length := by rw [rangeF_len]; exact hk
    rw [List.getElem?_eq_getElem hl, (rangeF_get _ _ _ _ (List.getElem?_eq_getElem hl)).2]
    rfl
  · rw [List.getElem?_eq_none (by rw [List.length_range]; omega), List.getElem?_eq_none (by rw [rangeF_len]; omega)]
    rfl
def rLRg (i j : Int) (H : Hp) (Q : VK) : Prop := RgOk i j ∧ ∀ q, H q = none → Q (.ref q) (upd H q (.lst (rgV i j)))
theorem i_lrg1 {ta : TE} (h : ta σ H fun x H1 => ∃ n, x = .int n ∧ rLRg 0 n H1 Q) : tLstRg (tRg1 ta) σ H Q := h
theorem i_lrg2 {ta tb : TE} (h : ta σ H fun x H1 => tb σ H1 fun y H2 => ∃ i j, x = .int i ∧ y = .int j ∧ rLRg i j H2 Q) : tLstRg (tRg2 ta tb) σ H Q := h
theorem w_lrg {xs : List Int} (W : Wd K B ctx L H) (h : rangeL i j = some xs) (k : ∀ p H', Wd K B ctx (oL true p xs :: L) H' → Q (.ref p) H') : rLRg i j H Q := by
  obtain ⟨⟨h1, h2, h3⟩, rfl⟩ := guardE h
  obtain ⟨N, F, W⟩ := W
  refine ⟨⟨h1.1, h1.2, h2.1, h2.2, h3⟩, fun q hq => ?_⟩
  rw [rgV_eq]
  exact k q _ (Wd.newL W hq (all2_ofInt _))
end

/-! ### more steps -/
instance [Rp α] [Flat α] : Flat (Option α) := ⟨fun S T x v h => by
  cases x with
  | none => exact h
  | some y => exact Flat.h (β := α) S T y v h⟩
instance : Flat Unit := ⟨fun _ _ _ _ h => h⟩
instance : Flat PySem.Str := ⟨fun _ _ _ _ h => h⟩
section
variable {K : PySem.W.Frag} {B H H' : Hp} {ctx : List Fact} {L L' : List Own} {t t' : Bool} {α β γ : Type} [Rp α] [Rp β] [Rp γ] {x : α} {y : β} {xs ys : List α} {v w u : V} {vs : List V} {a p c : Addr} {Q : VK} {i j k n : Int} {σ : L2.St} {R : It → Hp → Prop}
theorem Lx.flat [Flat α] (h : Lx K ctx L t' xs v) : Lx K ctx L t xs v := fun B H N F W => by
  obtain ⟨a, vs, e, h1, h2⟩ := h B H N F W
  exact ⟨a, vs, e, h1, h2.mono fun _ _ q => Flat.h _ _ _ _ q⟩
theorem Kn.flat [Flat α] (h : Kn K ctx t' x v) : Kn K ctx t x v := fun N F s q => Flat.h _ _ _ _ (h N F s q)
/-- a tuple whose items are told by their values -/
def fR (t : Bool) (vs : List V) (v : V) : Fact := ⟨fun K N F => ∃ a, v = .ref a ∧ (reg t K N F).t a vs, fun h1 h2 ⟨a, e, h⟩ => ⟨a, e, (reg_mono h1 h2).t _ _ h⟩⟩
theorem Wd.callRaw {R : Hp} [Flat β] {ys : List β} {tup vs : List V} (W : Wd K B ctx L H) (s : Same H H') (sR : Same R H') (hR : ∀ a u, R a = some u → H a = Option.none) (hl : R a = some (.tup tup)) (hp : R p = some (.lst vs)) (hr : All2 (Rp.rep (lkN R)) ys vs) :
    Wd K B (fR true tup (.ref a) :: ctx) (oL true p ys :: L) H' := by
  obtain ⟨N, F, W⟩ := W
  have hn : H p = Option.none := hR p _ hp
  have J := Wd.joinI (L' := L) (R := PB.del R p) W (fun b u _ e => s b u e) (Same.del.trans sR) (fun a u e => hR a u (Same.del a u e)) (fun o ho => let ⟨h, e, q⟩ := W.at_ o ho; ⟨h, s _ _ e, fun N' F' a b => o.mono a b q⟩) rfl
  have rN : Same (PB.del R p) (join N (PB.del R p)) := join_r fun a u e => W.nF.free (W.fH.free (hR a u (Same.del a u e)))
  have hap : a ≠ p := fun e2 => by
    rw [e2, hp] at hl
    cases hl
  refine ⟨_, _, J.bF, J.nF, J.sep, J.fH, fun f hf => ?_, fun o ho => ?_, fun o ho => ?_, ?_⟩
  · rcases List.mem_cons.mp hf with rfl | hf
    · exact ⟨a, rfl, rN _ _ ((del_ne hap).trans hl)⟩
    · exact J.facts f hf
  · rcases List.mem_cons.mp ho with rfl | ho
    · exact ⟨_, sR _ _ hp, vs, rfl, hr.mono fun _ _ q => Flat.h _ _ _ _ q⟩
    · exact J.at_ o ho
  · rcases List.mem_cons.mp ho with rfl | ho
    · show join F (PB.del R p) p = none
      unfold join
      rw [W.fH.free hn]
      exact del_same
    · exact J.off o ho
  · rw [List.map_cons]
    refine List.nodup_cons.mpr ⟨fun hm => ?_, J.nd⟩
    obtain ⟨q, hq, eq⟩ := List.mem_map.mp hm
    obtain ⟨u, e2, _⟩ := W.at_ q hq
    rw [eq] at e2
    rw [show (oL true p ys).a = p from rfl, hn] at e2
    cases e2
/-- a pair told by a def, its list one's own -/
theorem Wd.callP [Flat α] [Flat β] {r : α × List β} (W : Wd K B ctx L H) (r0 : Res K H r v H') : ∃ p a u, v = .ref a ∧ Wd K B (fc true r.1 u :: fR true [u, .ref p] (.ref a) :: ctx) (oL true p r.2 :: L) H' := by
  obtain ⟨R, s, sR, hR, a, u, w, e, hl, hr1, p, vs, ew, hp, hr⟩ := r0
  subst ew
  refine ⟨p, a, u, e, (Wd.callRaw W s sR hR hl hp hr).know fun N F _ _ => Flat.h _ _ _ _ hr1⟩
/-- a triple so -/
theorem Wd.callP3 [Flat α] [Flat β] [Flat γ] {r : T3 α γ (List β)} (W : Wd K B ctx L H) (r0 : Res K H r v H') : ∃ p a u w, v = .ref a ∧ Wd K B (fc true r.a u :: fc true r.b w :: fR true [u, w, .ref p] (.ref a) :: ctx) (oL true p r.c :: L) H' := by
  obtain ⟨R, s, sR, hR, a, u, w, z, e, hl, hr1, hr2, p, vs, ew, hp, hr⟩ := r0
  subst ew
  refine ⟨p, a, u, w, e, ((Wd.callRaw W s sR hR hl hp hr).know fun N F _ _ => Flat.h _ _ _ _ hr2).know fun N F _ _ => Flat.h _ _ _ _ hr1⟩
theorem Ar.pair (j : Nat) (hj : L[j]? = some (oL t' p ys)) (m : Nat) (hm : ctx[m]? = some (fR t [v, .ref p] (.ref a))) (h : Kn K ctx t y v) : Ar K ctx L (y, ys) (.ref a) := fun B H N F W => by
  obtain ⟨a', e, h1⟩ := W.facts _ (List.mem_of_getElem? hm)
  cases e
  obtain ⟨o, h2, vs, rfl, h3⟩ := W.at_ _ (List.mem_of_getElem? hj)
  exact ⟨a, _, _, rfl, (reg_A W.nF W.fH).t _ _ h1, Rp.mono (reg_A W.nF W.fH) (h N F W.nF W.facts), p, vs, rfl, h2, h3.mono fun _ _ q => Rp.mono (reg_A W.nF W.fH) q⟩
theorem Ar.triple {x1 : β} {x2 : γ} (j : Nat) (hj : L[j]? = some (oL t' p ys)) (m : Nat) (hm : ctx[m]? = some (fR t [v, w, .ref p] (.ref a))) (h : Kn K ctx t x1 v) (h' : Kn K ctx t x2 w) : Ar K ctx L (T3.mk x1 x2 ys) (.ref a) := fun B H N F W => by
  obtain ⟨a', e, h1⟩ := W.facts _ (List.mem_of_getElem? hm)
  cases e
  obtain ⟨o, h2, vs, rfl, h3⟩ := W.at_ _ (List.mem_of_getElem? hj)
  exact ⟨a, _, _, _, rfl, (reg_A W.nF W.fH).t _ _ h1, Rp.mono (reg_A W.nF W.fH) (h N F W.nF W.facts), Rp.mono (reg_A W.nF W.fH) (h' N F W.nF W.facts), p, vs, rfl, h2, h3.mono fun _ _ q => Rp.mono (reg_A W.nF W.fH) q⟩
theorem w_ixR (W : Wd K B ctx L H) (m : Nat) (hm : ctx[m]? = some (fR t vs (.ref a))) (e : atI vs i = some u) (k : Q u H) : rIx K (.ref a) (.int i) H Q := by
  obtain ⟨N, F, W⟩ := W
  obtain ⟨a', ea, h1⟩ := W.facts _ (List.mem_of_getElem? hm)
  cases ea
  exact i_ixT ((reg_A W.nF W.fH).t _ _ h1) e k
theorem w_unpR {n : Nat} {g : TGs} {R : L2.St → Hp → Prop} (W : Wd K B ctx L H) (m : Nat) (hm : ctx[m]? = some (fR t vs (.ref a))) (hl : vs.length = n) (k : g vs σ H R) : rUnp K n g (.ref a) σ H R := by
  obtain ⟨N, F, W⟩ := W
  obtain ⟨a', ea, h1⟩ := W.facts _ (List.mem_of_getElem? hm)
  cases ea
  exact ⟨a, vs, rfl, (reg_A W.nF W.fH).t _ _ h1, hl, k⟩
/-- pop(i) -/
def popO (xs : List α) (i : Int) : Option (α × List α) := if -(2 ^ 63) ≤ i ∧ i < 2 ^ 63 then (seqIndex? i xs.length).bind fun k => (xs[k]?).map fun x => (x, xs.eraseIdx k) else none
theorem All2.erase {R : α → V → Prop} : ∀ {xs : List α} {vs : List V} (n : Nat), All2 R xs vs → All2 R (xs.eraseIdx n) (vs.eraseIdx n)
  | [], [], _, _ => trivial
  | _ :: _, _ :: _, 0, h => h.2
  | _ :: _, _ :: _, n + 1, h => ⟨h.1, All2.erase n h.2⟩
  | [], _ :: _, _, h => h.elim
  | _ :: _, [], _, h => h.elim
theorem w_pop {r : α × List α} (W : Wd K B ctx L H) (j : Nat) (hj : L[j]? = some (oL t a xs)) (e : popO xs i = some r) (k : ∀ u H', Wd K B (fc t r.1 u :: ctx) (L.set j (oL t a r.2)) H' → Q u H') : rPopAt (.ref a) [.int i] H Q := by
  obtain ⟨N, F, W⟩ := W
  obtain ⟨o, h1, vs, rfl, h2⟩ := W.at_ _ (List.mem_of_getElem? hj)
  unfold popO at e
  by_cases hb : -(2 ^ 63) ≤ i ∧ i < 2 ^ 63
  · rw [if_pos hb] at e
    obtain ⟨m, e1, e⟩ := bndE e
    cases q : xs[m]? with
    | none => rw [q] at e; cases e
    | some x =>
      rw [q] at e
      cases e
      obtain ⟨u, hu, hr⟩ := h2.get q
      refine ⟨a, vs, i, m, u, rfl, rfl, h1, hb.1, hb.2, by rw [h2.len]; exact e1, hu, k u _ ?_⟩
      have W2 : Wd K B ctx (L.set j (oL t a (xs.eraseIdx m))) (upd H a (.lst (vs.eraseIdx m))) := Wd.put (o' := oL t a (xs.eraseIdx m)) W j hj rfl _ ⟨_, rfl, All2.erase m h2⟩
      obtain ⟨N2, F2, W2⟩ : ∃ N2 F2, WdI K B (fc t x u :: ctx) (L.set j (oL t a (xs.eraseIdx m))) (upd H a (.lst (vs.eraseIdx m))) N2 F2 := by
        have hoff := W.off _ (List.mem_of_getElem? hj)
        have P := W2
        refine Wd.put (o' := oL t a (xs.eraseIdx m)) (ctx := fc t x u :: ctx) ?_ j hj rfl _ ⟨_, rfl, All2.erase m h2⟩
        exact ⟨W.bF, W.nF, W.sep, W.fH, fun f hf => by
          rcases List.mem_cons.mp hf with rfl | hf
          · exact hr
          · exact W.facts f hf, W.at_, W.off, W.nd⟩
      exact ⟨N2, F2, W2⟩
  · rw [if_neg hb] at e
    cases e
/-- index of an int in a list of ints -/
def indexO (xs : List Int) (x : Int) : Option Int := (xs.findIdx? (· == x)).map fun n => (n : Int)
theorem w_index {xs : List Int} {x : Int} (W : Wd K B ctx L H) (h : Ls K ctx L t xs v) (e : indexO xs x = some n) (k : Q (.int n) H) : rIndex K v [.int x] H Q := by
  obtain ⟨N, F, W⟩ := W
  obtain ⟨a, vs, rfl, h1, h2⟩ := h B H N F W
  rw [all2_int h2] at h1
  unfold indexO at e
  cases q : xs.findIdx? (· == x) with
  | none => rw [q] at e; cases e
  | some m =>
    rw [q] at e
    cases e
    obtain ⟨hm, e1, e2⟩ := List.findIdx?_eq_some_iff_getElem.mp q
    refine ⟨a, _, .int x, m, .int xs[m], rfl, rfl, h1, rfl, ?_, ?_, ?_, ?_, k⟩
    · rw [List.all_eq_true]
      intro z hz
      obtain ⟨y, _, rfl⟩ := List.mem_map.mp hz
      rfl
    · rw [List.getElem?_map, List.getElem?_eq_getElem hm]
      rfl
    · have : xs[m] = x := by simpa using e1
      rw [this]
      simp [eqV]
    · intro l z hl hz
      rw [List.getElem?_map, List.getElem?_eq_getElem (by omega)] at hz
      cases hz
      have h3 := e2 l hl
      show (xs[l] == x) = false
      simpa using h3
/-- x in xs, of ints -/
theorem w_inG {xs : List Int} {x : Int} (neg : Bool) (W : Wd K B ctx L H) (h : Ls K ctx L t xs v) (k : Q (.bl (if neg then !decide (x ∈ xs) else decide (x ∈ xs))) H) : rIn K neg (.int x) v H Q := by
  obtain ⟨N, F, W⟩ := W
  obtain ⟨a, vs, rfl, h1, h2⟩ := h B H N F W
  rw [all2_int h2] at h1
  refine ⟨a, _, rfl, .inl h1, rfl, ?_, ?_⟩
  · rw [List.all_eq_true]
    intro z hz
    obtain ⟨y, _, rfl⟩ := List.mem_map.mp hz
    rfl
  · have e : inV (.int x) (xs.map V.int) = decide (x ∈ xs) := by
      unfold inV
      rw [List.any_map]
      rw [Bool.eq_iff_iff]
      simp only [List.any_eq_true, Function.comp, decide_eq_true_eq]
      constructor
      · rintro ⟨y, hy, e⟩
        have : (y == x) = true := e
        have : y = x := by simpa using this
        rwa [← this]
      · intro hx
        exact ⟨x, hx, by show (x == x) = true; simp⟩
    rw [e]
    exact k
theorem w_in {xs : List Int} {x : Int} (W : Wd K B ctx L H) (h : Ls K ctx L t xs v) (k : Q (.bl (decide (x ∈ xs))) H) : rIn K false (.int x) v H Q := w_inG false W h k
theorem w_notIn {xs : List Int} {x : Int} (W : Wd K B ctx L H) (h : Ls K ctx L t xs v) (k : Q (.bl (!decide (x ∈ xs))) H) : rIn K true (.int x) v H Q := w_inG true W h k
/-- if-else as an expression: kinds that stand for themselves -/
theorem w_iteI {b : Bool} (x : Int) {ta tb : TE} (W : Wd K B ctx L H) (h1 : b = true → ∀ P' : VK, (∀ d H', d = x → Wd K B ctx L' H' → P' (.int d) H') → ta σ H P') (h2 : b = false → ∀ P' : VK, (∀ d H', d = x → Wd K B ctx L' H' → P' (.int d) H') → tb σ H P') (h3 : ∀ H', Wd K B ctx L' H' → Q (.int x) H') : if b = true then ta σ H Q else tb σ H Q :=
  w_ite (fun d H' => d = .int x ∧ Wd K B ctx L' H') (fun hb P' q => h1 hb P' fun d H' e W => q _ H' ⟨by rw [e], W⟩) (fun hb P' q => h2 hb P' fun d H' e W => q _ H' ⟨by rw [e], W⟩) (fun d H' ⟨e, W⟩ => by rw [e]; exact h3 H' W)
/-- a rule's reading of an index that is a truth -/
def rIxTr (K : PySem.W.Frag) : R2 := fun x y H Q => ∃ p xs b v, x = .ref p ∧ y = .bl b ∧ SqL K H p xs ∧ atI xs (if b then 1 else 0) = some v ∧ Q v H
end
end PB

namespace PB
open PySem PySem.Spec PyProof.Rows L2
open PySem.W (alike alikeAll dataLt AlikeAll minD maxD Datum DatumOrd minOf maxOf lt_data gt_data le_data ge_data min_list_data max_list_data alike_unique readsAll_atA minD_map maxD_map alikeAll_datum depthAll_map)
/-! ### order of data: lists of ints, pairs -/
section
variable {X : Cx}
def rLtD (K : PySem.W.Frag) (g : PyData → PyData → Bool) : R2 := fun x y H Q => ∃ d e, Dp K H x d ∧ Dp K H y e ∧ alike d e = true ∧ d ≠ .none ∧ d.depth ≤ 60 ∧ Q (.bl (g d e)) H
def rLtA (K : PySem.W.Frag) : R2 := fun x y H Q => rI0 (fun i j => .bl (decide (i < j))) x y H Q ∨ rLtD K (fun d e => dataLt d e) x y H Q
def rLeA (K : PySem.W.Frag) : R2 := fun x y H Q => rI0 (fun i j => .bl (decide (i ≤ j))) x y H Q ∨ rLtD K (fun d e => !dataLt e d) x y H Q
def rGtA (K : PySem.W.Frag) : R2 := fun x y H Q => rI0 (fun i j => .bl (decide (j < i))) x y H Q ∨ rLtD K (fun d e => dataLt e d) x y H Q
def rGeA (K : PySem.W.Frag) : R2 := fun x y H Q => rI0 (fun i j => .bl (decide (j ≤ i))) x y H Q ∨ rLtD K (fun d e => !dataLt d e) x y H Q
theorem op_ltA (hu : X.A.units + 64 < cLine) : OpR X (compareOp .Lt) (rLtA X.K) := fun pins s σ H x y v u Q I rx ry h => by
  rcases h with h | h
  · exact op_lt pins s σ H x y v u Q I rx ry h
  · obtain ⟨d, e, hd, he, ha, hn, hp, q⟩ := h
    obtain ⟨as, r1⟩ := Dp.reads I d x v hd rx
    obtain ⟨bs, r2⟩ := Dp.reads I e y u he ry
    exact lt_data r1 r2 ha hn (by omega) ⟨.bl _, H, I, rfl, q⟩
theorem op_leA (hu : X.A.units + 64 < cLine) : OpR X (compareOp .LtE) (rLeA X.K) := fun pins s σ H x y v u Q I rx ry h => by
  rcases h with h | h
  · exact op_le pins s σ H x y v u Q I rx ry h
  · obtain ⟨d, e, hd, he, ha, hn, hp, q⟩ := h
    obtain ⟨as, r1⟩ := Dp.reads I d x v hd rx
    obtain ⟨bs, r2⟩ := Dp.reads I e y u he ry
    exact le_data r1 r2 ha hn (by omega) ⟨.bl _, H, I, rfl, q⟩
theorem op_gtA (hu : X.A.units + 64 < cLine) : OpR X (compareOp .Gt) (rGtA X.K) := fun pins s σ H x y v u Q I rx ry h => by
  rcases h with h | h
  · exact op_gt pins s σ H x y v u Q I rx ry h
  · obtain ⟨d, e, hd, he, ha, hn, hp, q⟩ := h
    obtain ⟨as, r1⟩ := Dp.reads I d x v hd rx
    obtain ⟨bs, r2⟩ := Dp.reads I e y u he ry
    exact gt_data r1 r2 ha hn (by omega) ⟨.bl _, H, I, rfl, q⟩
theorem op_geA (hu : X.A.units + 64 < cLine) : OpR X (compareOp .GtE) (rGeA X.K) := fun pins s σ H x y v u Q I rx ry h => by
  rcases h with h | h
  · exact op_ge pins s σ H x y v u Q I rx ry h
  · obtain ⟨d, e, hd, he, ha, hn, hp, q⟩ := h
    obtain ⟨as, r1⟩ := Dp.reads I d x v hd rx
    obtain ⟨bs, r2⟩ := Dp.reads I e y u he ry
    exact ge_data r1 r2 ha hn (by omega) ⟨.bl _, H, I, rfl, q⟩
theorem vals_back : ∀ {xs : List V} {us : List Value} {i : Nat} {u : Value}, Vals xs us → us[i]? = some u → ∃ x, xs[i]? = some x ∧ RelV x u
  | _, _, i, u, .nil, e => by simp at e
  | _, _, 0, u, .cons r t, e => by
    simp at e
    subst e
    exact ⟨_, rfl, r⟩
  | _, _, i + 1, u, .cons r t, e => by
    obtain ⟨x, h1, h2⟩ := vals_back (i := i) t (by simpa using e)
    exact ⟨x, by simpa using h1, h2⟩
theorem minD_mem : ∀ (ds : List PyData) (d : PyData), minD d ds ∈ d :: ds
  | [], d => List.mem_cons_self
  | e :: ds, d => by
    have h : minD d (e :: ds) = minD (if dataLt e d = true then e else d) ds := rfl
    rw [h]
    have ih := minD_mem ds (if dataLt e d = true then e else d)
    rcases List.mem_cons.mp ih with h | h
    · rw [h]
      split
      · exact List.mem_cons_of_mem _ List.mem_cons_self
      · exact List.mem_cons_self
    · exact List.mem_cons_of_mem _ (List.mem_cons_of_mem _ h)
theorem maxD_mem : ∀ (ds : List PyData) (d : PyData), maxD d ds ∈ d :: ds
  | [], d => List.mem_cons_self
  | e :: ds, d => by
    have h : maxD d (e :: ds) = maxD (if dataLt d e = true then e else d) ds := rfl
    rw [h]
    have ih := maxD_mem ds (if dataLt d e = true then e else d)
    rcases List.mem_cons.mp ih with h | h
    · rw [h]
      split
      · exact List.mem_cons_of_mem _ List.mem_cons_self
      · exact List.mem_cons_self
    · exact List.mem_cons_of_mem _ (List.mem_cons_of_mem _ h)
/-- min(xs), max(xs) of a list of data -/
def rBestD (K : PySem.W.Frag) (g : PyData → List PyData → PyData) : List V → Hp → VK → Prop := fun vs H Q => ∃ (a : Addr) (xs : List V) (d : PyData) (ds : List PyData), vs = [V.ref a] ∧ SqL K H a xs ∧ DpAll K H xs (d :: ds) ∧ AlikeAll (d :: ds) ∧ PyData.depthAll (d :: ds) ≤ 60 ∧
  ∀ (i : Nat) (x : V), xs[i]? = some x → (d :: ds)[i]? = some (g d ds) → Q x H
def rMinA (K : PySem.W.Frag) : List V → Hp → VK → Prop := fun vs H Q => rMin K vs H Q ∨ rBestD K minD vs H Q
def rMaxA (K : PySem.W.Frag) : List V → Hp → VK → Prop := fun vs H Q => rMax K vs H Q ∨ rBestD K maxD vs H Q
theorem getD_get {ds : List PyData} {i : Nat} (h : i < ds.length) : ds[i]? = some (ds.getD i .none) := by
  rw [List.getElem?_eq_getElem h, List.getD_eq_getElem?_getD, List.getElem?_eq_getElem h]
  rfl
theorem cr_minA (hc : X.calm = true) (hu : X.A.units + 64 < cLine) : CallR X (.builtin "min") (rMinA X.K) := by
  intro pins s σ H vs us Q I r h
  rcases h with h | h
  · exact cr_min hc pins s σ H vs us Q I r h
  obtain ⟨a, xs, d, ds, rfl, hs, hd, ha, hp, q⟩ := h
  obtain ⟨its, rv, hl, _⟩ := I.list hs
  rw [Vals.ref1 r]
  obtain ⟨as, hr⟩ := Dp.readsAll I (d :: ds) xs its hd rv
  refine min_list_data (I.ok.hd hc) hl.isList hr ha (by omega) fun i v h' tk bs hv hm hk => ?_
  obtain ⟨x, hx, hxv⟩ := vals_back (i := i) (u := v) rv (by simpa using hv)
  obtain ⟨bs', hr', hlt, hmem, _⟩ := readsAll_atA hr i v hv
  have e := alike_unique _ _ v bs' bs (ha.1 _ hmem _ (minD_mem ds d)) (Reads.keeps hk hr') hm
  exact ⟨x, H, I.kept hk, hxv, q i x hx (by rw [getD_get hlt, e])⟩
theorem cr_maxA (hc : X.calm = true) (hu : X.A.units + 64 < cLine) : CallR X (.builtin "max") (rMaxA X.K) := by
  intro pins s σ H vs us Q I r h
  rcases h with h | h
  · exact cr_max hc pins s σ H vs us Q I r h
  obtain ⟨a, xs, d, ds, rfl, hs, hd, ha, hp, q⟩ := h
  obtain ⟨its, rv, hl, _⟩ := I.list hs
  rw [Vals.ref1 r]
  obtain ⟨as, hr⟩ := Dp.readsAll I (d :: ds) xs its hd rv
  refine max_list_data (I.ok.hd hc) hl.isList hr ha (by omega) fun i v h' tk bs hv hm hk => ?_
  obtain ⟨x, hx, hxv⟩ := vals_back (i := i) (u := v) rv (by simpa using hv)
  obtain ⟨bs', hr', hlt, hmem, _⟩ := readsAll_atA hr i v hv
  have e := alike_unique _ _ v bs' bs (ha.1 _ hmem _ (maxD_mem ds d)) (Reads.keeps hk hr') hm
  exact ⟨x, H, I.kept hk, hxv, q i x hx (by rw [getD_get hlt, e])⟩
end
section
variable {K : PySem.W.Frag} {H : Hp} {Q : VK} {i j : Int}
theorem i_ltA (h : Q (.bl (decide (i < j))) H) : rLtA K (.int i) (.int j) H Q := .inl (i_I0 h)
theorem i_leA (h : Q (.bl (decide (i ≤ j))) H) : rLeA K (.int i) (.int j) H Q := .inl (i_I0 h)
theorem i_gtA (h : Q (.bl (decide (i > j))) H) : rGtA K (.int i) (.int j) H Q := .inl (i_I0 h)
theorem i_geA (h : Q (.bl (decide (i ≥ j))) H) : rGeA K (.int i) (.int j) H Q := .inl (i_I0 h)
end
section
variable {H : Hp} {σ : L2.St} {ta : TA} {nx : L2.St → Hp → Prop} {rt : VK} {bk ct : L2.St → Hp → Prop}
theorem i_par2 {i j : Nat} (h : ta σ H fun vs H1 => ∃ v w, vs = [v, w] ∧ nx ((σ.set i (some v)).set j (some w)) H1) : tPar i j ta ⟨nx, rt, bk, ct⟩ σ H := h
theorem i_par3 {i j l : Nat} (h : ta σ H fun vs H1 => ∃ u v w, vs = [u, v, w] ∧ nx (((σ.set i (some u)).set j (some v)).set l (some w)) H1) : tPar3 i j l ta ⟨nx, rt, bk, ct⟩ σ H := h
end
theorem pe_revK {X : Cx} {K : PySem.W.Frag} {e : Expr} {te : TE} {k : Nat} {p1 p2 p3 pos : Pos} (he : PE X e te) (hK : X.K = K := by rfl) : PE X (.Subscript e (.Slice none none (some (.UnaryOp .USub (.Constant (.int 1) k p1) p2)) p3) pos) (tRevL K te) := by
  subst hK
  exact pe_revL he
/-! ### with types -/
class RpQ (α : Type) [Rp α] [RpD α] [DecidableEq α] [DatumOrd α] : Prop where
  dc : ∀ x : α, RpD.d x = Datum.toD x
instance : RpQ Int := ⟨fun _ => rfl⟩
section
variable {α β : Type} [Rp α] [RpD α] [DecidableEq α] [DatumOrd α] [RpQ α] [Rp β] [RpD β] [DecidableEq β] [DatumOrd β] [RpQ β]
theorem dc_all (xs : List α) : xs.map RpD.d = xs.map Datum.toD := List.map_congr_left fun x _ => RpQ.dc x
instance : RpQ (List α) := ⟨fun xs => by show PyData.list (xs.map RpD.d) = .list (xs.map Datum.toD); rw [dc_all]⟩
instance : RpQ (α × β) := ⟨fun x => by show PyData.tuple [RpD.d x.1, RpD.d x.2] = .tuple [Datum.toD x.1, Datum.toD x.2]; rw [RpQ.dc, RpQ.dc]⟩
def ltO (x y : α) : Option Bool := if Datum.depth α ≤ 60 then some (DatumOrd.lt x y) else none
def minQ : List α → Option α
  | [] => none
  | x :: xs => if Datum.depth α ≤ 59 then some (minOf x xs) else none
def maxQ : List α → Option α
  | [] => none
  | x :: xs => if Datum.depth α ≤ 59 then some (maxOf x xs) else none
theorem toD_inj {x y : α} (h : (Datum.toD x : PyData) = Datum.toD y) : x = y := by
  have e : decide (x = y) = decide (y = y) := by rw [← Datum.eqv x y, ← Datum.eqv y y, h]
  rw [decide_eq_true (rfl : y = y)] at e
  exact of_decide_eq_true e
variable {K : PySem.W.Frag} {B H : Hp} {ctx : List Fact} {L : List Own} {t : Bool} {x y : α} {xs : List α} {v w : V} {Q : VK} {b : Bool}
theorem w_cmpQ {g : PyData → PyData → Bool} (W : Wd K B ctx L H) (h : Ar K ctx L x v) (h' : Ar K ctx L y w) (hd : Datum.depth α ≤ 60) (k : Q (.bl (g (Datum.toD x) (Datum.toD y))) H) : rLtD K g v w H Q := by
  obtain ⟨N, F, W⟩ := W
  have h1 := RpD.dp (h B H N F W)
  have h2 := RpD.dp (h' B H N F W)
  rw [RpQ.dc] at h1 h2
  exact ⟨_, _, h1, h2, DatumOrd.alike x y, DatumOrd.notNone x, Nat.le_trans (Datum.depth_le x) hd, k⟩
theorem w_ltQ (W : Wd K B ctx L H) (h : Ar K ctx L x v) (h' : Ar K ctx L y w) (e : ltO x y = some b) (k : Q (.bl b) H) : rLtA K v w H Q := by
  obtain ⟨hd, rfl⟩ := guardE e
  exact .inr (w_cmpQ W h h' hd (by rw [DatumOrd.lt_eq]; exact k))
theorem w_gtQ (W : Wd K B ctx L H) (h : Ar K ctx L x v) (h' : Ar K ctx L y w) (e : ltO y x = some b) (k : Q (.bl b) H) : rGtA K v w H Q := by
  obtain ⟨hd, rfl⟩ := guardE e
  exact .inr (w_cmpQ W h h' hd (by rw [DatumOrd.lt_eq]; exact k))
theorem w_leQ (W : Wd K B ctx L H) (h : Ar K ctx L x v) (h' : Ar K ctx L y w) (e : ltO y x = some b) (k : Q (.bl (!b)) H) : rLeA K v w H Q := by
  obtain ⟨hd, rfl⟩ := guardE e
  exact .inr (w_cmpQ W h h' hd (by rw [DatumOrd.lt_eq]; exact k))
theorem w_geQ (W : Wd K B ctx L H) (h : Ar K ctx L x v) (h' : Ar K ctx L y w) (e : ltO x y = some b) (k : Q (.bl (!b)) H) : rGeA K v w H Q := by
  obtain ⟨hd, rfl⟩ := guardE e
  exact .inr (w_cmpQ W h h' hd (by rw [DatumOrd.lt_eq]; exact k))
theorem all2_back : ∀ {xs : List α} {vs : List V} {R : α → V → Prop} {i : Nat} {u : V}, All2 R xs vs → vs[i]? = some u → ∃ x, xs[i]? = some x ∧ R x u
  | _ :: _, _ :: _, R, 0, u, h, e => by
    simp at e
    subst e
    exact ⟨_, rfl, h.1⟩
  | _ :: _, _ :: _, R, i + 1, u, h, e => by
    obtain ⟨x, h1, h2⟩ := all2_back (i := i) h.2 (by simpa using e)
    exact ⟨x, by simpa using h1, h2⟩
  | [], [], R, i, u, h, e => by simp at e
  | [], _ :: _, R, i, u, h, e => h.elim
  | _ :: _, [], R, i, u, h, e => h.elim
theorem w_bestQ {g : PyData → List PyData → PyData} {m : α} {x : α} (W : Wd K B ctx L H) (h : Ls K ctx L t (x :: xs) v) (hd : Datum.depth α ≤ 59) (hg : g (Datum.toD x) (xs.map Datum.toD) = Datum.toD m) (k : ∀ u, Wd K B (fc t m u :: ctx) L H → Q u H) : rBestD K g [v] H Q := by
  obtain ⟨N, F, W⟩ := W
  obtain ⟨a, vs, rfl, h1, h2⟩ := h B H N F W
  have hdp := all2_dp (xs := x :: xs) (All2.mono (fun _ _ r => Rp.mono (reg_A W.nF W.fH) r) h2)
  rw [dc_all] at hdp
  refine ⟨a, vs, _, _, rfl, h1, hdp, alikeAll_datum (x :: xs), Nat.le_trans (depthAll_map (x :: xs)) (by omega), fun i u hu he => ?_⟩
  obtain ⟨z, hz, r⟩ := all2_back h2 hu
  rw [hg, ← List.map_cons, List.getElem?_map, hz] at he
  have e := toD_inj (Option.some.inj he)
  subst e
  refine k u ⟨N, F, W.bF, W.nF, W.sep, W.fH, fun f hf => ?_, W.at_, W.off, W.nd⟩
  rcases List.mem_cons.mp hf with rfl | hf
  · exact r
  · exact W.facts f hf
theorem w_minQ {m : α} (W : Wd K B ctx L H) (h : Ls K ctx L t xs v) (e : minQ xs = some m) (k : ∀ u, Wd K B (fc t m u :: ctx) L H → Q u H) : rMinA K [v] H Q := by
  cases xs with
  | nil => cases e
  | cons x xs =>
    obtain ⟨hd, rfl⟩ := guardE e
    exact .inr (w_bestQ W h hd (minD_map x xs) k)
theorem w_maxQ {m : α} (W : Wd K B ctx L H) (h : Ls K ctx L t xs v) (e : maxQ xs = some m) (k : ∀ u, Wd K B (fc t m u :: ctx) L H → Q u H) : rMaxA K [v] H Q := by
  cases xs with
  | nil => cases e
  | cons x xs =>
    obtain ⟨hd, rfl⟩ := guardE e
    exact .inr (w_bestQ W h hd (maxD_map x xs) k)
end
end PB

namespace PB
open PySem PySem.Spec PyProof.Rows L2
section
variable {K : PySem.W.Frag} {B H H' : Hp} {ctx : List Fact} {L L' : List Own} {t t' : Bool} {α β γ : Type} [Rp α] [Rp β] [Rp γ] {x : α} {y : β} {xs ys : List α} {v w u : V} {vs : List V} {a p q c : Addr} {Q : VK} {i j k n : Int} {σ : L2.St} {f : Fact}
theorem w_lenR (W : Wd K B ctx L H) (m : Nat) (hm : ctx[m]? = some (fR t vs (.ref a))) (hl : vs.length = 2) (k : Q (.int 2) H) : rLen K [.ref a] H Q := by
  obtain ⟨N, F, W⟩ := W
  obtain ⟨a', ea, h1⟩ := W.facts _ (List.mem_of_getElem? hm)
  cases ea
  match vs, hl with
  | [v, w], _ => exact i_lenT ((reg_A W.nF W.fH).t _ _ h1) k
/-! ### a list of one's own lists -/
def fRL (t : Bool) (vs : List V) (v : V) : Fact := ⟨fun K N F => ∃ a, v = .ref a ∧ (reg t K N F).l a vs, fun h1 h2 ⟨a, e, h⟩ => ⟨a, e, (reg_mono h1 h2).l _ _ h⟩⟩
theorem Wd.newF (W : WdI K B ctx L H N F) (hp : H p = Option.none) (t : Bool) (h : ∀ N' F', Same N N' → Same F F' → (reg t K N' F').l p vs → f.P K N' F') : Wd K B (f :: ctx) L (upd H p (.lst vs)) := by
  have hF : F p = Option.none := W.fH.free hp
  have hN : N p = Option.none := W.nF.free hF
  have hB : B p = Option.none := W.bF.free hF
  have keep : ∀ {G : Hp}, G p = Option.none → Same G (upd G p (.lst vs)) := fun hG b u e => by
    rw [upd_ne (ne_of_none e hG)]
    exact e
  have up : ∀ {G G' : Hp}, Same G G' → G' p = Option.none → Same (upd G p (.lst vs)) (upd G' p (.lst vs)) := fun s hG b u e => by
    by_cases h : b = p
    · rw [h, upd_same] at e ⊢
      exact e
    · rw [upd_ne h] at e ⊢
      exact s b u e
  refine ⟨upd N p (.lst vs), upd F p (.lst vs), W.bF.trans (keep hF), up W.nF hF, fun b u e => ?_, up W.fH hp, fun f hf => ?_, fun o ho => ?_, fun o ho => ?_, W.nd⟩
  · by_cases h : b = p
    · rw [h]
      exact hB
    · rw [upd_ne h] at e
      exact W.sep b u e
  · rcases List.mem_cons.mp hf with rfl | hf
    · refine h _ _ (keep hN) (keep hF) ?_
      cases t
      · exact upd_same
      · exact upd_same
    · exact f.mono (keep hN) (keep hF) (W.facts f hf)
  · obtain ⟨u, e, r⟩ := W.at_ o ho
    exact ⟨u, by rw [upd_ne (ne_of_none e hp)]; exact e, o.mono (keep hN) (keep hF) r⟩
  · obtain ⟨u, e, r⟩ := W.at_ o ho
    rw [upd_ne (ne_of_none e hp)]
    exact W.off o ho
theorem w_lstR (W : Wd K B ctx L H) (hz : vs.length ≤ sizeLine) (k : ∀ p H', Wd K B (fRL true vs (.ref p) :: ctx) L H' → Q (.ref p) H') : rLst vs H Q := by
  obtain ⟨N, F, W⟩ := W
  exact ⟨hz, fun p hp => k p _ (Wd.newF W hp true fun N' F' _ _ h => ⟨p, rfl, h⟩)⟩
theorem w_ixRL (W : Wd K B ctx L H) (m : Nat) (hm : ctx[m]? = some (fRL t vs (.ref a))) (e : atI vs i = some u) (k : Q u H) : rIx K (.ref a) (.int i) H Q := by
  obtain ⟨N, F, W⟩ := W
  obtain ⟨a', ea, h1⟩ := W.facts _ (List.mem_of_getElem? hm)
  cases ea
  exact i_ixL (SqL.of ((reg_A W.nF W.fH).l _ _ h1)) e k
theorem Ar.lpair (j1 j2 : Nat) (h1 : L[j1]? = some (oL t p xs)) (h2 : L[j2]? = some (oL t' q ys)) (m : Nat) (hm : ctx[m]? = some (fRL true [.ref p, .ref q] (.ref a))) : Ar K ctx L [xs, ys] (.ref a) := fun B H N F W => by
  obtain ⟨a', e, h3⟩ := W.facts _ (List.mem_of_getElem? hm)
  cases e
  have g1 := Ar.lx (Lx.own j1 h1) B H N F W
  have g2 := Ar.lx (Lx.own j2 h2) B H N F W
  exact ⟨a, _, rfl, (reg_A W.nF W.fH).l _ _ h3, g1, g2, trivial⟩
end
/-- a list's method within a comprehension -/
theorem pe_bmK {X : Cx} {K : PySem.W.Frag} {name : Str} {T id : String} {o e : Expr} {es : List Expr} {to : TE} {t : TA} {r : V → List V → Hp → VK → Prop} {apos cpos : Pos} (pa : PlainAttrs T) (slot : Slot T name id) (hty : typeOf (.builtin id) = pure (.type "method_descriptor")) (hm : MtR X id r) (ho : PE X o to) (ha : PA X (e :: es) t) (hK : X.K = K := by rfl)
    (hbase : attributeBase o name X.env (eval o X.env) = eval o X.env := by rfl)
    (hfew : ((backTo cpos (starEach (e :: es) X.env)).all (fun x => !x.1) && (backToKw cpos (keywordEach [] X.env)).all (fun x => x.1.isSome)
      && decide ((e :: es).length + ([] : List Keyword).length + (if ([] : List Keyword).isEmpty then 0 else 1) < 30)) = true := by rfl)
    (hline : (apos.endLine == cpos.line) = true := by rfl) (hs : starEach (e :: es) X.env = (false, eval e X.env) :: starEach es X.env := by rfl) (hplain : (backTo cpos (starEach es X.env)).any (·.1) = false := by rfl) :
    PE X (.Call (.Attribute o name apos) (e :: es) [] cpos) (tBM K T r to t) := by
  subst hK
  exact pe_bm pa slot hty hm ho ha hbase hfew hline hs hplain
/-- a def under another name -/
theorem mkFnA {P : Program} {w : World} {K : PySem.W.Frag} {mg : Str → Option Value} {base : Heap} {x y qual : Str} {params : Arguments} {body : List Stmt} {scope : Scope}
    {f : Addr} {fd : FuncData} {ps : List Str} {k : Nat} {sp : Sp} (F : FunD K x qual params body scope [] [] f fd) (hm : mg y = some (.ref f))
    (hb : ∀ (kV doc pm : Value) (an : Option Addr) (cdv ct : Value) (us : List Value), us.length = ps.length →
      bindArgs (PySem.W.fnOf x qual params body scope .none kV doc pm an cdv ct) ⟨us, []⟩ = pure (ps.zip us))
    (G : FnG P w K mg base k f fd ps sp) : Fn P w K mg base k y ps sp := ⟨f, fd, hm, F.kp, F.bindsN hb, G⟩
/-! ### one thing or another -/
inductive Un (α β : Type) where
  | l (x : α)
  | r (y : β)
  deriving DecidableEq
section
variable {α β γ : Type} [Rp α] [Rp β] [Rp γ]
def repUn (S : Lk) : Un α β → V → Prop
  | .l x, v => Rp.rep S x v
  | .r y, v => Rp.rep S y v
instance : Rp (Un α β) := ⟨repUn, fun {S T x v} s h => by
  cases x with
  | l y => exact Rp.mono (α := α) s h
  | r y => exact Rp.mono (α := β) s h⟩
instance [RpD α] [RpD β] : RpD (Un α β) := ⟨fun x => match x with
    | .l y => RpD.d y
    | .r y => RpD.d y, fun {K H x v} h => by
      cases x with
      | l y => exact RpD.dp (α := α) h
      | r y => exact RpD.dp (α := β) h, fun x => match x with
    | .l y => RpD.ty y
    | .r y => RpD.ty y, fun {K H x v} h => by
      cases x with
      | l y => exact RpD.tyx (α := α) h
      | r y => exact RpD.tyx (α := β) h, fun x => by
      cases x with
      | l y => exact RpD.tys y
      | r y => exact RpD.tys y⟩
def Un.getL : Un α β → Option α
  | .l x => some x
  | .r _ => none
def Un.getR : Un α β → Option β
  | .l _ => none
  | .r y => some y
instance : Co α (Un α β) := ⟨.l, fun h => h⟩
instance : Co β (Un α β) := ⟨.r, fun h => h⟩
instance (priority := low) : Co α α := ⟨id, fun h => h⟩
instance {δ : Type} [Rp δ] [Co α β] [Co γ δ] : Co (α × γ) (β × δ) := ⟨fun x => (Co.f x.1, Co.f x.2), fun ⟨a, u, w, e, h, r1, r2⟩ => ⟨a, u, w, e, h, Co.h r1, Co.h r2⟩⟩
variable {K : PySem.W.Frag} {B H : Hp} {ctx : List Fact} {L : List Own} {t : Bool} {v : V}
theorem Kn.unl {x : α} (h : Kn K ctx t x v) : Kn K ctx t (Un.l x : Un α β) v := fun N F s q => h N F s q
theorem Kn.unr {y : β} (h : Kn K ctx t y v) : Kn K ctx t (Un.r y : Un α β) v := fun N F s q => h N F s q
theorem Wd.getL {x : Un α β} {y : α} (W : Wd K B ctx L H) (h : Kn K ctx t x v) (e : x.getL = some y) : Wd K B (fc t y v :: ctx) L H := by
  cases x with
  | l z =>
    cases e
    exact W.know fun N F s q => h N F s q
  | r z => cases e
theorem Wd.getR {x : Un α β} {y : β} (W : Wd K B ctx L H) (h : Kn K ctx t x v) (e : x.getR = some y) : Wd K B (fc t y v :: ctx) L H := by
  cases x with
  | r z =>
    cases e
    exact W.know fun N F s q => h N F s q
  | l z => cases e
end
end PB
namespace PB
open PySem PySem.Spec PyProof.Rows L2
/-! ### a tuple whose list is one's own, of things that are no lists -/
class NoL (β : Type) [Rp β] : Prop where
  h : ∀ (S T : Lk) (x : β) (v : V), (∀ a vs, S.t a vs → T.t a vs) → Rp.rep S x v → Rp.rep T x v
instance (priority := low) {β : Type} [Rp β] [Flat β] : NoL β := ⟨fun S T x v _ h => Flat.h S T x v h⟩
instance {α β : Type} [Rp α] [Rp β] [NoL α] [NoL β] : NoL (α × β) := ⟨fun S T x v ht ⟨a, u, w, e, h, r1, r2⟩ => ⟨a, u, w, e, ht _ _ h, NoL.h _ _ _ _ ht r1, NoL.h _ _ _ _ ht r2⟩⟩
section
variable {K : PySem.W.Frag} {B H H' : Hp} {ctx : List Fact} {L : List Own} {t : Bool} {α β γ : Type} [Rp α] [Rp β] [Rp γ] {x : α} {v : V} {vs : List V} {a p : Addr}
theorem Ar.co [Co α β] {x : α} (h : Ar K ctx L x v) : Ar K ctx L (Co.f x : β) v := fun B H N F W => Co.h (h B H N F W)
theorem Res.unl {r : α × Un β γ} {y : β} (R : Res K H r v H') (e : r.2 = Un.l y) : Res K H (r.1, y) v H' := by
  obtain ⟨r1, r2⟩ := r
  cases e
  exact R
theorem Res.unr {r : α × Un β γ} {y : γ} (R : Res K H r v H') (e : r.2 = Un.r y) : Res K H (r.1, y) v H' := by
  obtain ⟨r1, r2⟩ := r
  cases e
  exact R
theorem Wd.callRawT {R : Hp} [NoL β] {ys : List β} {tup vs : List V} (W : Wd K B ctx L H) (s : Same H H') (sR : Same R H') (hR : ∀ a u, R a = some u → H a = Option.none) (hl : R a = some (.tup tup)) (hp : R p = some (.lst vs)) (hr : All2 (Rp.rep (lkN R)) ys vs) :
    Wd K B (fR true tup (.ref a) :: ctx) (oL true p ys :: L) H' := by
  obtain ⟨N, F, W⟩ := W
  have hn : H p = Option.none := hR p _ hp
  have J := Wd.joinI (L' := L) (R := PB.del R p) W (fun b u _ e => s b u e) (Same.del.trans sR) (fun a u e => hR a u (Same.del a u e)) (fun o ho => let ⟨h, e, q⟩ := W.at_ o ho; ⟨h, s _ _ e, fun N' F' a b => o.mono a b q⟩) rfl
  have rN : Same (PB.del R p) (join N (PB.del R p)) := join_r fun a u e => W.nF.free (W.fH.free (hR a u (Same.del a u e)))
  have tup_ne : ∀ {b : Addr} {us : List V}, R b = some (.tup us) → b ≠ p := fun hb e2 => by
    rw [e2, hp] at hb
    cases hb
  refine ⟨_, _, J.bF, J.nF, J.sep, J.fH, fun f hf => ?_, fun o ho => ?_, fun o ho => ?_, ?_⟩
  · rcases List.mem_cons.mp hf with rfl | hf
    · exact ⟨a, rfl, rN _ _ ((del_ne (tup_ne hl)).trans hl)⟩
    · exact J.facts f hf
  · rcases List.mem_cons.mp ho with rfl | ho
    · exact ⟨_, sR _ _ hp, vs, rfl, hr.mono fun _ _ q => NoL.h _ _ _ _ (fun b us hb => rN _ _ ((del_ne (tup_ne hb)).trans hb)) q⟩
    · exact J.at_ o ho
  · rcases List.mem_cons.mp ho with rfl | ho
    · show join F (PB.del R p) p = none
      unfold join
      rw [W.fH.free hn]
      exact del_same
    · exact J.off o ho
  · rw [List.map_cons]
    refine List.nodup_cons.mpr ⟨fun hm => ?_, J.nd⟩
    obtain ⟨q, hq, eq⟩ := List.mem_map.mp hm
    obtain ⟨u, e2, _⟩ := W.at_ q hq
    rw [eq] at e2
    rw [show (oL true p ys).a = p from rfl, hn] at e2
    cases e2
theorem Wd.callPT [Flat α] [NoL β] {r : α × List β} (W : Wd K B ctx L H) (r0 : Res K H r v H') : ∃ p a u, v = .ref a ∧ Wd K B (fc true r.1 u :: fR true [u, .ref p] (.ref a) :: ctx) (oL true p r.2 :: L) H' := by
  obtain ⟨R, s, sR, hR, a, u, w, e, hl, hr1, p, vs, ew, hp, hr⟩ := r0
  subst ew
  refine ⟨p, a, u, e, (Wd.callRawT W s sR hR hl hp hr).know fun N F _ _ => Flat.h _ _ _ _ hr1⟩
end
end PB

namespace PB
open PySem PySem.Spec PyProof.Rows L2
/-! ### defs that tell parts of what is handed in: all within what the asker knows as new -/
def ResN (K : PySem.W.Frag) (N0 H : Hp) {α : Type} [Rp α] (r : α) (v : V) (H' : Hp) : Prop := ∃ N', Same N0 N' ∧ Same H H' ∧ Same N' H' ∧ (∀ a u, N' a = some u → H a = none ∨ N0 a = some u) ∧ Rp.rep (lkN N') r v
/-- the region stands within -/
def fN (N0 H0 : Hp) : Fact := ⟨fun _ N F => Same N0 N ∧ Same H0 F, fun h1 h2 ⟨a, b⟩ => ⟨a.trans h1, b.trans h2⟩⟩
def cutH (H N0 : Hp) : Hp := fun a => match N0 a with
  | some _ => none
  | none => H a
section
variable {K : PySem.W.Frag} {B H H' N0 H0 : Hp} {ctx : List Fact} {L : List Own} {α β : Type} [Rp α] [Rp β] {x : α} {v : V}
theorem Wd.startN (s : Same N0 H) : Wd K (cutH H N0) [fN N0 H] [] H := by
  refine ⟨N0, H, fun a u e => ?_, s, fun a u e => ?_, Same.refl H, fun f hf => ?_, (fun _ h => nomatch h), (fun _ h => nomatch h), List.nodup_nil⟩
  · unfold cutH at e
    cases q : N0 a with
    | some w => rw [q] at e; cases e
    | none => rw [q] at e; exact e
  · unfold cutH
    rw [e]
  · rw [List.mem_singleton.mp hf]
    exact ⟨Same.refl _, Same.refl _⟩
theorem Wd.argN (W : Wd K B ctx L H) (m : Nat) (hm : ctx[m]? = some (fN N0 H0)) (h : Rp.rep (lkN N0) x v) : Wd K B (fc true x v :: ctx) L H :=
  W.add fun N F W => Rp.mono (lkN_mono (W.facts _ (List.mem_of_getElem? hm)).1) h
theorem Wd.resN (W : Wd K (cutH H0 N0) ctx L H) (m : Nat) (hm : ctx[m]? = some (fN N0 H0)) (h : Kn K ctx true x v) : ResN K N0 H0 x v H := by
  obtain ⟨N, F, W⟩ := W
  obtain ⟨s1, s2⟩ := W.facts _ (List.mem_of_getElem? hm)
  refine ⟨N, s1, s2.trans W.fH, W.nF.trans W.fH, fun a u e => ?_, h N F W.nF W.facts⟩
  have h1 := W.sep a u e
  unfold cutH at h1
  cases q : N0 a with
  | some w =>
    have := s1 a w q
    rw [e] at this
    exact .inr this.symm
  | none =>
    rw [q] at h1
    exact .inl h1
theorem WdI.callN {N F : Hp} (W : WdI K B ctx L H N F) (r : ResN K N H x v H') : Wd K B (fc true x v :: ctx) L H' := by
  obtain ⟨N', s1, s2, s3, s4, hr⟩ := r
  have hF : ∀ a u, N' a = some u → F a = none ∨ F a = some u := fun a u e => by
    rcases s4 a u e with h | h
    · exact .inl (W.fH.free h)
    · exact .inr (W.nF a u h)
  have sN' : Same N' (join F N') := fun a u e => by
    unfold join
    rcases hF a u e with h | h
    · rw [h]
      exact e
    · rw [h]
  have sF : Same F (join F N') := join_l
  refine ⟨N', join F N', W.bF.trans sF, sN', fun a u e => ?_, fun a u e => ?_, fun f hf => ?_, fun o ho => ?_, fun o ho => ?_, W.nd⟩
  · rcases s4 a u e with h | h
    · exact W.bF.free (W.fH.free h)
    · exact W.sep a u h
  · rcases join_or e with e | e
    · exact s2 a u (W.fH a u e)
    · exact s3 a u e
  · rcases List.mem_cons.mp hf with rfl | hf
    · exact hr
    · exact f.mono s1 sF (W.facts f hf)
  · obtain ⟨u, e, q⟩ := W.at_ o ho
    exact ⟨u, s2 _ _ e, o.mono s1 sF q⟩
  · obtain ⟨u, e, q⟩ := W.at_ o ho
    have hoff := W.off o ho
    unfold join
    rw [hoff]
    show N' o.a = none
    cases q2 : N' o.a with
    | none => rfl
    | some w =>
      rcases s4 _ _ q2 with h | h
      · rw [e] at h
        cases h
      · have := W.nF _ _ h
        rw [hoff] at this
        cases this
theorem WdI.callNI {N F : Hp} {i : Int} (W : WdI K B ctx L H N F) (r : ResN K N H i v H') : v = .int i ∧ Wd K B ctx L H' := by
  have h := W.callN r
  exact ⟨h.eqI (Kn.at 0 rfl), h.drop 1 rfl⟩
theorem WdI.callNB {N F : Hp} {i : Bool} (W : WdI K B ctx L H N F) (r : ResN K N H i v H') : v = .bl i ∧ Wd K B ctx L H' := by
  have h := W.callN r
  exact ⟨h.eqB (Kn.at 0 rfl), h.drop 1 rfl⟩
/-- the asker's side: its region -/
theorem Wd.region (W : Wd K B ctx L H) {P : Prop} (h : ∀ N F, WdI K B ctx L H N F → P) : P := let ⟨N, F, W⟩ := W; h N F W
theorem knN {N F : Hp} (h : Kn K ctx true x v) (W : WdI K B ctx L H N F) : Rp.rep (lkN N) x v := h N F W.nF W.facts
theorem wdI (W : WdI K B ctx L H N0 H0) : Wd K B ctx L H := ⟨_, _, W⟩
end
/-! ### the same with a list that is changed, of things that the asker knows as new -/
def Res1N (K : PySem.W.Frag) (N0 H : Hp) (a : Addr) {α β : Type} [Rp α] [Rp β] (r : α × List β) (v : V) (H' : Hp) : Prop :=
  ∃ N', Same N0 N' ∧ But [a] H H' ∧ Same N' H' ∧ (∀ b u, N' b = some u → H b = none ∨ N0 b = some u) ∧ N' a = none ∧ Rp.rep (lkN N') r.1 v ∧ ∃ vs, H' a = some (.lst vs) ∧ All2 (Rp.rep (lkN N')) r.2 vs
section
variable {K : PySem.W.Frag} {B H H' N0 H0 N F : Hp} {ctx : List Fact} {L : List Own} {α β : Type} [Rp α] [Rp β] {x : α} {v : V} {a : Addr} {xs ys ys' : List β} {us : List V}
theorem Wd.mutN (s : Same N0 (PB.del H a)) (h : H a = some (.lst us)) (r : All2 (Rp.rep (lkN N0)) xs us) : Wd K (cutH (PB.del H a) N0) [fN N0 (PB.del H a)] [oL true a xs] H := by
  refine ⟨N0, PB.del H a, fun b u e => ?_, s, fun b u e => ?_, Same.del, fun f hf => ?_, fun o ho => ?_, fun o ho => ?_, by simp⟩
  · unfold cutH at e
    cases q : N0 b with
    | some w => rw [q] at e; cases e
    | none => rw [q] at e; exact e
  · unfold cutH
    rw [e]
  · rw [List.mem_singleton.mp hf]
    exact ⟨Same.refl _, Same.refl _⟩
  · obtain rfl := List.mem_singleton.mp ho
    exact ⟨_, h, us, rfl, r⟩
  · obtain rfl := List.mem_singleton.mp ho
    exact del_same
theorem Wd.res1N (W : Wd K (cutH (PB.del H0 a) N0) ctx L H) (m : Nat) (hm : ctx[m]? = some (fN N0 (PB.del H0 a))) (j : Nat) (hj : L[j]? = some (oL true a ys)) (h : Kn K ctx true x v) : Res1N K N0 H0 a (x, ys) v H := by
  obtain ⟨N, F, W⟩ := W
  obtain ⟨s1, s2⟩ := W.facts _ (List.mem_of_getElem? hm)
  obtain ⟨k, hk, vs, rfl, hr⟩ := W.at_ _ (List.mem_of_getElem? hj)
  have hoff : F a = none := W.off _ (List.mem_of_getElem? hj)
  have hNa : N a = none := W.nF.free hoff
  refine ⟨N, s1, But.of_del (s2.trans W.fH), W.nF.trans W.fH, fun b u e => ?_, hNa, h N F W.nF W.facts, vs, hk, hr⟩
  have hb : b ≠ a := fun z => by
    rw [z, hNa] at e
    cases e
  have h1 := W.sep b u e
  unfold cutH at h1
  cases q : N0 b with
  | some w =>
    have := s1 b w q
    rw [e] at this
    exact .inr this.symm
  | none =>
    rw [q] at h1
    exact .inl ((del_ne hb).symm.trans h1)
theorem WdI.ioN (W : WdI K B ctx L H N F) (j : Nat) (hj : L[j]? = some (oL true a xs)) : ∃ us, H a = some (.lst us) ∧ All2 (Rp.rep (lkN N)) xs us ∧ Same N (PB.del H a) := by
  obtain ⟨o, h1, vs, rfl, h2⟩ := W.at_ _ (List.mem_of_getElem? hj)
  exact ⟨vs, h1, h2, W.nF.trans (toDel W.fH (W.off _ (List.mem_of_getElem? hj)))⟩
theorem WdI.callN1 (W : WdI K B ctx L H N F) (j : Nat) (hj : L[j]? = some (oL true a ys)) (r : Res1N K N H a (x, ys') v H') : Wd K B (fc true x v :: ctx) (L.set j (oL true a ys')) H' := by
  obtain ⟨N', s1, s2, s3, s4, hNa, hr, vs, hv, hvs⟩ := r
  have hoff : F a = none := W.off _ (List.mem_of_getElem? hj)
  have hF : ∀ b u, N' b = some u → F b = none ∨ F b = some u := fun b u e => by
    rcases s4 b u e with h | h
    · exact .inl (W.fH.free h)
    · exact .inr (W.nF b u h)
  have sN' : Same N' (join F N') := fun b u e => by
    unfold join
    rcases hF b u e with h | h
    · rw [h]
      exact e
    · rw [h]
  have sF : Same F (join F N') := join_l
  have ea : (L.set j (oL true a ys')).map (·.a) = L.map (·.a) := by
    rw [List.map_set]
    refine List.ext_getElem? fun i => ?_
    rw [List.getElem?_set]
    by_cases hi : j = i
    · subst hi
      have := (List.getElem?_eq_some_iff.mp hj).1
      rw [if_pos rfl, if_pos (by rw [List.length_map]; exact this), List.getElem?_map, hj]
      rfl
    · rw [if_neg hi]
  have offJ : ∀ o ∈ L, o.a ≠ a → join F N' o.a = none := fun o ho _ => by
    obtain ⟨u, e, q⟩ := W.at_ o ho
    have ho2 := W.off o ho
    unfold join
    rw [ho2]
    show N' o.a = none
    cases q2 : N' o.a with
    | none => rfl
    | some w =>
      rcases s4 _ _ q2 with h | h
      · rw [e] at h
        cases h
      · have := W.nF _ _ h
        rw [ho2] at this
        cases this
  refine ⟨N', join F N', W.bF.trans sF, sN', fun b u e => ?_, fun b u e => ?_, fun f hf => ?_, fun o ho => ?_, fun o ho => ?_, by rw [ea]; exact W.nd⟩
  · rcases s4 b u e with h | h
    · exact W.bF.free (W.fH.free h)
    · exact W.sep b u h
  · rcases join_or e with e | e
    · refine s2 b u (fun hm => ?_) (W.fH b u e)
      rw [List.mem_singleton.mp hm, hoff] at e
      cases e
    · exact s3 b u e
  · rcases List.mem_cons.mp hf with rfl | hf
    · exact hr
    · exact f.mono s1 sF (W.facts f hf)
  · rcases setMem' W.nd hj ho with rfl | ⟨h1, h2⟩
    · exact ⟨_, hv, vs, rfl, hvs⟩
    · obtain ⟨u, e, q⟩ := W.at_ o h1
      exact ⟨u, s2 _ _ (fun hm => h2 (List.mem_singleton.mp hm)) e, o.mono s1 sF q⟩
  · rcases setMem' W.nd hj ho with rfl | ⟨h1, h2⟩
    · show join F N' a = none
      unfold join
      rw [hoff]
      exact hNa
    · exact offJ o h1 h2
theorem WdI.callN1B {i : Bool} (W : WdI K B ctx L H N F) (j : Nat) (hj : L[j]? = some (oL true a ys)) (r : Res1N K N H a (i, ys') v H') : v = .bl i ∧ Wd K B ctx (L.set j (oL true a ys')) H' := by
  have h := W.callN1 j hj r
  exact ⟨h.eqB (Kn.at 0 rfl), h.drop 1 rfl⟩
end
/-! ### tuples of three in order -/
open PySem.W PySem.SeqAt
section
variable {α β γ : Type} [DecidableEq α] [DatumOrd α] [DecidableEq β] [DatumOrd β] [DecidableEq γ] [DatumOrd γ]
theorem T3.ext' {p q : T3 α β γ} (h1 : p.a = q.a) (h2 : p.b = q.b) (h3 : p.c = q.c) : p = q := by
  cases p; cases q
  simp at h1 h2 h3
  rw [h1, h2, h3]
instance : Datum (T3 α β γ) where
  toD p := .tuple [Datum.toD p.a, Datum.toD p.b, Datum.toD p.c]
  plain p := by simp only [PyData.plain, PyData.plainAll, Datum.plain, Bool.and_self]
  eqv p q := by
    simp only [PyData.eqv, PyData.eqvAll, Datum.eqv, Bool.and_true, ← Bool.decide_and]
    exact decide_eq_decide.mpr ⟨fun e => T3.ext' e.1 e.2.1 e.2.2, fun e => by rw [e]; exact ⟨rfl, rfl, rfl⟩⟩
  depth := max (Datum.depth α) (max (Datum.depth β) (Datum.depth γ)) + 1
  depth_le p := by
    simp only [PyData.depth, PyData.depthAll]
    have h1 := Datum.depth_le p.a
    have h2 := Datum.depth_le p.b
    have h3 := Datum.depth_le p.c
    omega
def lt3 (p q : T3 α β γ) : Bool := if p.a = q.a then (if p.b = q.b then DatumOrd.lt p.c q.c else DatumOrd.lt p.b q.b) else DatumOrd.lt p.a q.a
instance : DatumOrd (T3 α β γ) where
  lt := lt3
  alike p q := by
    show PySem.W.alike (.tuple [_, _, _]) (.tuple [_, _, _]) = true
    simp only [PySem.W.alike, alikeAll, DatumOrd.alike, Bool.and_self]
  notNone a := fun e => by cases e
  lt_eq p q := by
    refine (dataLt_tuple _ _).trans ?_
    unfold lt3
    by_cases h : p.a = q.a
    · rw [if_pos h, dataLt_all_yes (DatumOrd.alike p.a q.a) (by rw [Datum.eqv, decide_eq_true_eq]; exact h)]
      by_cases h2 : p.b = q.b
      · rw [if_pos h2, dataLt_all_yes (DatumOrd.alike p.b q.b) (by rw [Datum.eqv, decide_eq_true_eq]; exact h2)]
        by_cases h3 : p.c = q.c
        · rw [dataLt_all_yes (DatumOrd.alike p.c q.c) (by rw [Datum.eqv, decide_eq_true_eq]; exact h3), lex_irrefl, h3]
          exact ((dataLt_self _).symm.trans (DatumOrd.lt_eq q.c q.c))
        · rw [dataLt_all_no (DatumOrd.alike p.c q.c) (by rw [Datum.eqv, decide_eq_false_iff_not]; exact h3)]
          exact DatumOrd.lt_eq p.c q.c
      · rw [if_neg h2, dataLt_all_no (DatumOrd.alike p.b q.b) (by rw [Datum.eqv, decide_eq_false_iff_not]; exact h2)]
        exact DatumOrd.lt_eq p.b q.b
    · rw [if_neg h, dataLt_all_no (DatumOrd.alike p.a q.a) (by rw [Datum.eqv, decide_eq_false_iff_not]; exact h)]
      exact DatumOrd.lt_eq p.a q.a
end
instance {α β γ : Type} [Rp α] [RpD α] [DecidableEq α] [DatumOrd α] [RpQ α] [Rp β] [RpD β] [DecidableEq β] [DatumOrd β] [RpQ β] [Rp γ] [RpD γ] [DecidableEq γ] [DatumOrd γ] [RpQ γ] : RpQ (T3 α β γ) := ⟨fun x => by show PyData.tuple [RpD.d x.a, RpD.d x.b, RpD.d x.c] = .tuple [Datum.toD x.a, Datum.toD x.b, Datum.toD x.c]; rw [RpQ.dc, RpQ.dc, RpQ.dc]⟩
end PB

namespace PB
open PySem PySem.Spec PyProof.Rows L2
/-! ### sorted(set(xs)) of a list of ints -/
def nilSet (w : World) : Obj := { cls := .type "set", dict := none, data := .set #[] 0 (.fresh 0 0 (!w.params.followText "set-order")) }
section
variable {P : Program} {w : World} {A : Around} {E : Value → Shared → Prop} {s : Shared}
theorem SetR.start {h : Heap} {a : Addr} (ns : List Int) (ho : h.get? a = some (nilSet w)) : SetR w h a (fun j => decide (j ∈ ns.take 0)) 0 := setR_new_at ho
/-- what stands behind set(list) -/
def SetDone (w : World) (s s' : Shared) (ns : List Int) : Prop := ∃ (h' : Heap) (tk c : Nat), s' = { s with heap := h', toks := tk } ∧ SetR w h' s.heap.objs.size (fun j => decide (j ∈ ns)) c ∧ c ≤ ns.length ∧ ∀ b o, s.heap.get? b = some o → h'.get? b = some o
theorem init_setL {l : Addr} {items : Array Value} {ns : List Int} (hh : A.handled = none) (hl : s.heap.IsList l items) (hi : IntsAre items.toList ns) (hb : ns.length + 1 < scanBound)
    {R : Result → Shared → Prop} (h : ∀ s', SetDone w s s' ns → R (.ok (.ret .none)) s') :
    codeAny (model P w) A (.call (.builtin "set.__init__") ⟨[.ref s.heap.objs.size, .ref l], []⟩) R { s with heap := s.heap.push (nilSet w) } := by
  have hz : items.size = ns.length := by
    have q := IntsAre.length hi
    rwa [Array.length_toList] at q
  have gS : (s.heap.push (nilSet w)).get? s.heap.objs.size = some (nilSet w) := Heap.get?_push_size _ rfl
  have hT : Shared.TypeIs { s with heap := s.heap.push (nilSet w) } (.ref s.heap.objs.size) "set" := ⟨_, gS, rfl⟩
  refine codeAny_call_builtin F.called_set.init.plain F.entry_set_init (check_set_init_1 hT ?_)
  have hlp : (s.heap.push (nilSet w)).IsList l items := hl.push _
  obtain ⟨ol, hol, hcl, nl, hdl⟩ := hlp
  obtain ⟨ocls, odict, odata, oslots⟩ := ol
  simp only at hcl hdl
  subst hcl
  subst hdl
  have u1 := F.sub_list_set
  have u2 := F.sub_list_frozenset
  have ne1 : (Value.type "list" == Value.type "dict") = false := by decide
  have hl2 : (s.heap.push (nilSet w)).IsList l items := hl.push _
  have hlt : l < s.heap.objs.size := by
    obtain ⟨o, ho, _⟩ := hl
    exact Heap.lt_size ho
  unfold Builtin.«set.__init__» noKeywords Builtin.Frozenset.updateFrom
  generalize hPI : pyIter = PI
  wp_walk
  subst hPI
  refine wpAny_pyIter_list hl2 ?_
  refine wpAny_bind (wpAny_runValue ?_)
  have h3 : A.in1.in1.handled = none := by simp [hh]
  have z1 : (s.heap.push (nilSet w)).objs.size = s.heap.objs.size + 1 := Heap.size_push ..
  have nI : l ≠ (s.heap.push (nilSet w)).objs.size := by rw [z1]; exact Nat.ne_of_lt (Nat.lt_succ_of_lt hlt)
  have nS : s.heap.objs.size ∉ [(s.heap.push (nilSet w)).objs.size, l] := by
    rw [z1]
    simp only [List.mem_cons, List.not_mem_nil, or_false, not_or]
    exact ⟨Nat.ne_of_lt (Nat.lt_succ_self _), Nat.ne_of_gt hlt⟩
  have hv : ∀ (i : Nat) (v : Value), items[i]? = some v → ∃ k t, ns[i]? = some k ∧ v = .int k t := fun i v e => by
    have hi' : i < ns.length := by rw [← hz]; exact (Array.getElem?_eq_some_iff.mp e).1
    obtain ⟨t, q⟩ := IntsAre.int_at hi i v (by rw [Array.getElem?_toList]; exact e)
    exact ⟨ns[i], t, List.getElem?_eq_getElem hi', by rw [q, List.getD_eq_getElem?_getD, List.getElem?_eq_getElem hi']; rfl⟩
  refine set_update_ints ((Walks.list h3 _ l nI items).toS) s.heap.objs.size nS ns hz hb hv (items.size - 0) 0 _ (by omega) (Nat.zero_le _)
    ?hT ⟨0, Nat.le_refl 0, ?hS⟩ ?hR
  case hT => exact ⟨⟨_, Heap.get?_push_size _ rfl, rfl, rfl⟩, hl2.push _⟩
  case hS => exact SetR.start ns (Heap.get?_push_of_some _ gS)
  case' hR => refine fun s' c hm hc hS => ?_
  obtain ⟨h', g2, d', tk', os'⟩ := s'
  obtain rfl : g2 = s.gens := hm.gens
  obtain rfl : d' = s.drawn := hm.drawn
  obtain rfl : os' = s.os := hm.os
  show wpAny _ _ _ _ _ _
  refine wpAny_pure ?_
  show wpAny _ _ (ret Value.none) _ _ _
  refine wpAny_pure (h _ ⟨h', tk', c, rfl, hS, by omega, fun b o e => ?_⟩)
  have b0 : b < s.heap.objs.size := Heap.lt_size e
  refine hm.heap b o ?_ (Heap.get?_push_of_some _ (Heap.get?_push_of_some _ e))
  rw [z1]
  simp only [List.mem_cons, List.not_mem_nil, or_false, not_or]
  exact ⟨Nat.ne_of_lt b0, Nat.ne_of_lt (Nat.lt_succ_of_lt b0)⟩
theorem call_setL {l : Addr} {items : Array Value} {ns : List Int} {Q : Value → Shared → Prop} (hh : A.handled = none) (hl : s.heap.IsList l items) (hi : IntsAre items.toList ns) (hb : ns.length + 1 < scanBound)
    (h : ∀ s', SetDone w s s' ns → Q (.ref s.heap.objs.size) s') : wpAny (model P w) A (call (.type "set") [.ref l]) Q E s := by
  obtain ⟨c, tl, hmro⟩ := F.called_set.mro
  have hmade := F.called_set.made
  have hsub := F.called_set.sub
  refine wpAny_call (codeAny_of_tree ?_)
  show wpAny _ _ (callAny (.type "set") _) _ _ _
  refine wpAny_pure ⟨Code.quiet_builtin _ (by decide +kernel), codeAny_builtin F.entry_type_call ?_⟩
  rw [Around.under_plain (weight_type_call_type "set" [.ref l] []) rfl]
  have h1 := F.called_set.notType
  have h2 := F.called_set.canCreate
  have hct := F.typeCall_set_1 (.ref l)
  repeat (any_goals (first | assumption | wp_step))
  refine codeAny_mono (code_set_led1 (.ref l) (E := E) (Q₁ := fun obj s1 => obj = .ref s.heap.objs.size ∧ s1 = { s with heap := s.heap.push (nilSet w) }) ⟨rfl, rfl⟩) fun r s1 hr => ?_
  cases r with
  | error e => exact hr
  | ok fl =>
    cases fl with
    | ret obj =>
      obtain ⟨rfl, rfl⟩ := hr
      have gS : (s.heap.push (nilSet w)).get? s.heap.objs.size = some (nilSet w) := Heap.get?_push_size _ rfl
      have hT : Shared.TypeIs { s with heap := s.heap.push (nilSet w) } (.ref s.heap.objs.size) "set" := ⟨_, gS, rfl⟩
      have hli := F.called_set.init.lookup
      have hbi := F.called_set.init.bind (.ref s.heap.objs.size)
      repeat (any_goals (first | assumption | wp_step))
      refine codeAny_mono (init_setL (R := wants (fun r s2 => r = .none ∧ SetDone w s s2 ns) E) (A := A.in1) (by simp [hh]) hl hi hb fun s' q => ⟨rfl, q⟩) fun r2 s2 hr2 => ?_
      cases r2 with
      | error e => exact hr2
      | ok fl2 =>
        cases fl2 with
        | ret r =>
          obtain ⟨rfl, q⟩ := hr2
          repeat (any_goals (first | assumption | wp_step))
          exact h _ q
        | _ => exact hr2.elim
    | _ => exact hr.elim
end
/-- sorted(found), any number of members -/
theorem sorted_setN {P : Program} {w : World} {A : Around} {E : Value → Shared → Prop} {s : Shared} {a : Addr} {S : Int → Bool} {n : Nat} {Q : Value → Shared → Prop} (R : SetR w s.heap a S n) (hh : A.handled = none) (hc : n ≤ 100000)
    (hQ : ∀ s' p (out : List Value) (c : Nat) (ns : List Int), (∀ b o, s.heap.get? b = some o → s'.heap.get? b = some o) → s'.gens = s.gens → s'.os = s.os → s.heap.objs.size ≤ p →
      s'.heap.get? p = some (seqObj "list" out.toArray c) → IntsAre out ns → ns.Pairwise (· < ·) → (∀ k, k ∈ ns ↔ S k = true) → ns.length = n → Q (.ref p) s') :
    wpAny (model P w) A (call (.builtin "sorted") [.ref a]) Q E s := by
  obtain ⟨o, es, ep, t, ho, hex, hd, g, nd, hm, hb, hf, hn, hr, hl⟩ := R
  refine Calls.call_function_entry kind_sorted plain_sorted entry_sorted (args_sorted1 _) ?_
  unfold Builtin.«sorted»
  refine wpAny_bind (m := checkCount "sorted" 1 1 _) (wpAny_pure ?_)
  refine wpAny_bind (collect_set (A := A.in1) hh ⟨o, ho, hex.1, hd⟩ hf hb hr hl fun s1 vs k1 hz g1 o1 pm => ?_)
  have hvl : vs.length = n := by rw [pm.length_eq, List.length_map, Array.length_toList]; exact hn
  have hI : IntsAre vs (vs.map Builtin.Re.reRawOf) := ints_of vs fun v hv => by
    obtain ⟨e, he, q⟩ := List.mem_map.mp (pm.mem_iff.mp hv)
    obtain ⟨k, tk, h1, _⟩ := g e he
    exact ⟨k, tk, by rw [← q]; exact h1⟩
  have pk : (vs.map Builtin.Re.reRawOf).Perm (es.toList.map keyOf) := by
    have q := pm.map Builtin.Re.reRawOf
    rw [List.map_map] at q
    exact q
  have hsz : vs.length ≤ sizeLine := by rw [hvl, sizeLine_eq]; omega
  refine wpAny_bind (wpAny_newList ?_ hsz)
  have hoL : (s1.heap.push (seqObj "list" vs.toArray 0)).get? s1.heap.objs.size = some (seqObj "list" vs.toArray 0) := Heap.get?_push_size _ rfl
  refine wpAny_bind (wpAny_holding (wpAny_call_entry slot_list_sort ⟨_, hoL, rfl⟩ entry_list_sort (SrtO.list_sort_ord SrtO.swo_int hoL hsz (fun h2 => SrtO.ints_sortable hI h2) fun out h1 h2 => ⟨_, rfl, ?_⟩) (args_list_sort _)))
  obtain ⟨c1, c2, c3⟩ := SrtO.ints_out hI h1 h2
  obtain ⟨c, hc⟩ := sortedHeap_at (vs := vs) (out := out.toArray) hoL
  have pn : (out.map SrtO.iv).Perm (es.toList.map keyOf) := c2.trans pk
  refine wpAny_pure ⟨_, rfl, hQ _ s1.heap.objs.size out c (out.map SrtO.iv) (fun b u e => ?_) g1 o1 hz hc c1 (lt_of_le_nodup _ c3 (pn.nodup_iff.mpr nd)) (fun k => by rw [pn.mem_iff, ← hm k]) ?_⟩
  · have q := k1 b u e
    have hlt := Heap.lt_size q
    show (sortedHeap (s1.heap.push (seqObj "list" vs.toArray 0)) s1.heap.objs.size vs out.toArray).get? b = some u
    rw [sortedHeap_old (Nat.ne_of_lt hlt) (by rw [size_push']; exact Nat.lt_succ_of_lt hlt)]
    exact Heap.get?_push_of_some _ q
  · rw [pn.length_eq, List.length_map, Array.length_toList]; exact hn
def rSrtSet (w : World) : List V → Hp → VK → Prop := fun vs H Q => ∃ (a : Addr) (S : Int → Bool) (n : Nat), vs = [V.ref a] ∧ H a = some (SetO w a S n) ∧ n ≤ 100000 ∧
  ∀ (ns : List Int) (p : Addr), ns.Pairwise (· < ·) → (∀ k : Int, k ∈ ns ↔ S k = true) → ns.length = n → H p = none → Q (.ref p) (upd H p (.lst (ns.map V.int)))
theorem cr_srtSet {X : Cx} (hc : X.calm = true) : CallR X (.builtin "sorted") (rSrtSet X.w) := by
  intro pins s σ H vs us Q I r h
  obtain ⟨a, S, n, rfl, ha, hn, q⟩ := h
  have R := setO_get I ha
  rw [Vals.ref1 r]
  refine sorted_setN R (I.ok.hd hc) hn fun s' p out c ns k g o hp hg hi hs hm hl => ?_
  have hlen : (ns.map V.int).length ≤ sizeLine := by rw [List.length_map, hl, sizeLine_eq]; omega
  have hn : H p = none := I.hok.fresh hp
  have J : Inv X pins σ (upd H p (.lst (ns.map V.int))) { s with heap := s'.heap, gens := s'.gens, drawn := s'.drawn, toks := s'.toks } :=
    I.call (ch := []) (Un.laid k hp hn) (I.hok.laid k hp ⟨hlen, out, c, vals_of_ints hi, hg⟩) (by rw [g]; exact I.bare) (fun _ z => nomatch z)
  have e : s' = { s with heap := s'.heap, gens := s'.gens, drawn := s'.drawn, toks := s'.toks } := by
    cases s'
    cases s
    cases o
    rfl
  rw [e]
  exact ⟨.ref p, _, J, rfl, q ns p hs hm hl hn⟩
/-- set(xs), a list of ints -/
def rSetL (w : World) (K : PySem.W.Frag) : List V → Hp → VK → Prop := fun vs H Q => ∃ (a : Addr) (ns : List Int), vs = [V.ref a] ∧ SqL K H a (ns.map V.int) ∧ ns.length ≤ 4000 ∧
  ∀ (p : Addr) (c : Nat), H p = none → c ≤ ns.length → Q (.ref p) (upd H p (SetO w p (fun j => decide (j ∈ ns)) c))
theorem cr_setL {X : Cx} (hc : X.calm = true) : CallR X (.type "set") (rSetL X.w X.K) := by
  intro pins s σ H vs us Q I r h
  obtain ⟨a, ns, rfl, hs, hl, q⟩ := h
  obtain ⟨its, rv, pl, hz⟩ := I.list hs
  rw [Vals.ref1 r]
  have hi : IntsAre its.toArray.toList ns := ints_of_vals rv
  refine call_setL (I.ok.hd hc) pl.isList hi (by unfold scanBound; omega) fun s' ⟨h', tk, c, e, R, hcn, k⟩ => ?_
  rw [e]
  exact ⟨.ref _, upd H s.heap.objs.size (SetO X.w s.heap.objs.size (fun j => decide (j ∈ ns)) c), I.laid (t' := tk) k (Nat.le_refl _) (setO_new R), rfl, q _ c (I.hok.fresh (Nat.le_refl _)) hcn⟩
/-- the members in order, each once -/
def insI (x : Int) : List Int → List Int
  | [] => [x]
  | y :: ys => if x < y then x :: y :: ys else if x = y then y :: ys else y :: insI x ys
def ssetI (xs : List Int) : List Int := xs.foldr insI []
def ssetO (xs : List Int) : Option (List Int) := if xs.length ≤ 4000 then some (ssetI xs) else none
theorem insI_mem (x : Int) : ∀ (ys : List Int) (z : Int), z ∈ insI x ys ↔ z = x ∨ z ∈ ys
  | [], z => by simp [insI]
  | y :: ys, z => by
    unfold insI
    split
    · simp
    · split
      · rename_i h
        simp [h]
      · rw [List.mem_cons, insI_mem x ys z, List.mem_cons]
        grind
theorem insI_pw (x : Int) : ∀ (ys : List Int), ys.Pairwise (· < ·) → (insI x ys).Pairwise (· < ·)
  | [], _ => List.pairwise_singleton _ _
  | y :: ys, h => by
    obtain ⟨h1, h2⟩ := List.pairwise_cons.mp h
    unfold insI
    split
    · rename_i c
      exact List.pairwise_cons.mpr ⟨fun z hz => by
        rcases List.mem_cons.mp hz with rfl | hz
        · exact c
        · exact Int.lt_trans c (h1 z hz), h⟩
    · split
      · exact h
      · refine List.pairwise_cons.mpr ⟨fun z hz => ?_, insI_pw x ys h2⟩
        rcases (insI_mem x ys z).mp hz with rfl | hz
        · omega
        · exact h1 z hz
theorem ssetI_mem (xs : List Int) (z : Int) : z ∈ ssetI xs ↔ z ∈ xs := by
  induction xs with
  | nil => exact Iff.rfl
  | cons x xs ih =>
    show z ∈ insI x (ssetI xs) ↔ _
    rw [insI_mem, ih, List.mem_cons]
theorem ssetI_pw (xs : List Int) : (ssetI xs).Pairwise (· < ·) := by
  induction xs with
  | nil => exact List.Pairwise.nil
  | cons x xs ih => exact insI_pw x _ ih
theorem pw_uniq : ∀ {xs ys : List Int}, xs.Pairwise (· < ·) → ys.Pairwise (· < ·) → (∀ z, z ∈ xs ↔ z ∈ ys) → xs = ys
  | [], ys, _, _, h => by
    cases ys with
    | nil => rfl
    | cons y ys => exact nomatch (h y).mpr List.mem_cons_self
  | x :: xs, ys, h1, h2, h => by
    cases ys with
    | nil => exact nomatch (h x).mp List.mem_cons_self
    | cons y ys =>
      obtain ⟨a1, a2⟩ := List.pairwise_cons.mp h1
      obtain ⟨b1, b2⟩ := List.pairwise_cons.mp h2
      have e : x = y := by
        rcases List.mem_cons.mp ((h x).mp List.mem_cons_self) with q | q
        · exact q
        · rcases List.mem_cons.mp ((h y).mpr List.mem_cons_self) with q' | q'
          · exact q'.symm
          · have := a1 _ q'
            have := b1 _ q
            omega
      subst e
      refine congrArg _ (pw_uniq a2 b2 fun z => ⟨fun hz => ?_, fun hz => ?_⟩)
      · rcases List.mem_cons.mp ((h z).mp (List.mem_cons_of_mem _ hz)) with q | q
        · have := a1 _ hz
          omega
        · exact q
      · rcases List.mem_cons.mp ((h z).mpr (List.mem_cons_of_mem _ hz)) with q | q
        · have := b1 _ hz
          omega
        · exact q
theorem w_sset {K : PySem.W.Frag} {B H : Hp} {ctx : List Fact} {L : List Own} {t : Bool} {xs ys : List Int} {v : V} {w : World} {Q : VK} {σ : L2.St} (W : Wd K B ctx L H) (h : Ls K ctx L t xs v) (e : ssetO xs = some ys)
    (k : ∀ p H', Wd K B ctx (oL true p ys :: L) H' → Q (.ref p) H') : rSetL w K [v] H (fun u H1 => tNil σ H1 fun xs H2 => rSrtSet w (u :: xs) H2 Q) := by
  show rSetL w K [v] H (fun u H1 => rSrtSet w [u] H1 Q)
  obtain ⟨N, F, W⟩ := W
  obtain ⟨a, vs, rfl, h1, h2⟩ := h B H N F W
  rw [all2_int h2] at h1
  unfold ssetO at e
  split at e
  · rename_i hl
    cases e
    refine ⟨a, xs, rfl, h1, hl, fun p c hp hc => ⟨p, (fun j => decide (j ∈ xs)), c, rfl, ?_, by omega, fun ns q hs hm hn hq => ?_⟩⟩
    · unfold upd
      simp
    · have e2 : ns = ssetI xs := pw_uniq hs (ssetI_pw xs) fun z => by rw [hm, ssetI_mem, decide_eq_true_eq]
      rw [e2]
      have W1 : Wd K B ctx L (upd H p (SetO w p (fun j => decide (j ∈ xs)) c)) := Wd.same ⟨N, F, W⟩ fun b u hb => by
        rw [upd_ne (fun z => by rw [z, hp] at hb; cases hb)]
        exact hb
      obtain ⟨N', F', W'⟩ := W1
      exact k q _ (Wd.newL W' hq (all2_ofInt _))
  · cases e
/-! ### a op b op' c op'' d -/
def tChain3 (r r' r'' : R2) (ta tb tc td : TE) : TE := fun σ H Q => ta σ H fun x H1 => tb σ H1 fun y H2 => r x y H2 fun z H3 => rBl z H3 fun k H4 =>
  if k = true then tc σ H4 (fun w' H5 => r' y w' H5 fun z' H6 => rBl z' H6 fun k' H7 => if k' = true then td σ H7 fun u H8 => r'' w' u H8 Q else Q (.bl false) H7) else Q (.bl false) H4
theorem pe_chain3 {X : Cx} {a b c d : Expr} {op op' op'' : CmpOp} {r r' r'' : R2} {ta tb tc td : TE} {pos : Pos} (ho : OpR X (compareOp op) r) (ho' : OpR X (compareOp op') r') (ho'' : OpR X (compareOp op'') r'') (ha : PE X a ta) (hb : PE X b tb) (hc : PE X c tc) (hd : PE X d td)
    (hm : lastMarks [op, op', op''] [b, c, d] = false := by with_unfolding_all rfl) : PE X (.Compare a [op, op', op''] [b, c, d] pos) (tChain3 r r' r'' ta tb tc td) := by
  refine ⟨fun pins s σ H Q I h => ?_⟩
  refine Compare_chain (thn (ha.run pins s σ H _ I h) fun v s1 ⟨x, H1, I1, r1, q1⟩ => chain_link (thn (hb.run pins s1 σ H1 _ I1 q1) fun u s2 ⟨y, H2, I2, r2, q2⟩ =>
    thn (ho pins s2 σ H2 x y v u _ I2 r1 r2 q2) fun d s3 ⟨z, H3, I3, r3, k, e, q3⟩ => ?_)) hm
  subst e
  cases r3
  refine wpAny_truthy_bool ?_
  cases k with
  | false => exact ite_ff ⟨.bl false, H3, I3, rfl, q3⟩
  | true =>
    refine ite_tt (chain_link (thn (hc.run pins s3 σ H3 _ I3 q3) fun w' s4 ⟨z', H4, I4, r4, q4⟩ => thn (ho' pins s4 σ H4 y z' u w' _ I4 r2 r4 q4) fun d s5 ⟨z2, H5, I5, r5, k2, e2, q5⟩ => ?_))
    subst e2
    cases r5
    refine wpAny_truthy_bool ?_
    cases k2 with
    | false => exact ite_ff ⟨.bl false, H5, I5, rfl, q5⟩
    | true => exact ite_tt (chain_last (thn (hd.run pins s5 σ H5 _ I5 q5) fun w2 s6 ⟨z3, H6, I6, r6, q6⟩ => ho'' pins s6 σ H6 z' z3 w' w2 Q I6 r4 r6 q6))
theorem pt_chain3 {X : Cx} {a b c d : Expr} {op op' op'' : CmpOp} {r r' r'' : R2} {ta tb tc td : TE} {pos : Pos} (ho : OpR X (compareOp op) r) (ho' : OpR X (compareOp op') r') (ho'' : OpR X (compareOp op'') r'') (ha : PE X a ta) (hb : PE X b tb) (hc : PE X c tc) (hd : PE X d td)
    (hm : lastMarks [op, op', op''] [b, c, d] = false := by with_unfolding_all rfl) : PT X (.Compare a [op, op', op''] [b, c, d] pos) (tTest (tChain3 r r' r'' ta tb tc td)) := by
  refine ⟨fun pins s σ H Q I h => ?_⟩
  refine isTrue_chain (thn (ha.run pins s σ H _ I h) fun v s1 ⟨x, H1, I1, r1, q1⟩ => test_link (thn (hb.run pins s1 σ H1 _ I1 q1) fun u s2 ⟨y, H2, I2, r2, q2⟩ =>
    thn (ho pins s2 σ H2 x y v u _ I2 r1 r2 q2) fun d s3 ⟨z, H3, I3, r3, k, e, q3⟩ => ?_)) hm
  subst e
  cases r3
  refine wpAny_truthy_bool ?_
  cases k with
  | false =>
    obtain ⟨k', e', q'⟩ := q3
    cases e'
    exact ite_ff ⟨H3, I3, q'⟩
  | true =>
    refine ite_tt (test_link (thn (hc.run pins s3 σ H3 _ I3 q3) fun w' s4 ⟨z', H4, I4, r4, q4⟩ => thn (ho' pins s4 σ H4 y z' u w' _ I4 r2 r4 q4) fun d s5 ⟨z2, H5, I5, r5, k2, e2, q5⟩ => ?_))
    subst e2
    cases r5
    refine wpAny_truthy_bool ?_
    cases k2 with
    | false =>
      obtain ⟨k', e', q'⟩ := q5
      cases e'
      exact ite_ff ⟨H5, I5, q'⟩
    | true =>
      refine ite_tt (test_last (thn (hd.run pins s5 σ H5 _ I5 q5) fun w2 s6 ⟨z3, H6, I6, r6, q6⟩ => thn (ho'' pins s6 σ H6 z' z3 w' w2 _ I6 r4 r6 q6) fun d' s7 ⟨z4, H7, I7, r7, k3, e3, q7⟩ => ?_))
      subst e3
      cases r7
      exact wpAny_truthy_bool ⟨H7, I7, q7⟩
section
variable {K : PySem.W.Frag} {B H : Hp} {ctx : List Fact} {L L' : List Own} {Q : VK} {σ : L2.St}
theorem i_chain3 {r r' r'' : R2} {ta tb tc td : TE} (h : ta σ H fun x H1 => tb σ H1 fun y H2 => r x y H2 fun z H3 => rBl z H3 fun k H4 =>
  if k = true then tc σ H4 (fun w' H5 => r' y w' H5 fun z' H6 => rBl z' H6 fun k' H7 => if k' = true then td σ H7 fun u H8 => r'' w' u H8 Q else Q (.bl false) H7) else Q (.bl false) H4) : tChain3 r r' r'' ta tb tc td σ H Q := h
theorem w_chain3W {b : Bool} (c : Bool) {tc td : TE} {r' r'' : R2} {y : V} (W : Wd K B ctx L H)
    (h1 : b = true → ∀ P' : VK, (∀ d H', d = c → Wd K B ctx L' H' → P' (.bl d) H') → tc σ H fun w' H5 => r' y w' H5 fun z' H6 => rBl z' H6 fun k' H7 => if k' = true then td σ H7 fun u H8 => r'' w' u H8 P' else P' (.bl false) H7)
    (h2 : b = false → false = c ∧ Wd K B ctx L' H) (h3 : ∀ H', Wd K B ctx L' H' → Q (.bl c) H') :
    if b = true then tc σ H (fun w' H5 => r' y w' H5 fun z' H6 => rBl z' H6 fun k' H7 => if k' = true then td σ H7 (fun u H8 => r'' w' u H8 Q) else Q (.bl false) H7) else Q (.bl false) H :=
  w_andVW (te := fun σ H P => tc σ H fun w' H5 => r' y w' H5 fun z' H6 => rBl z' H6 fun k' H7 => if k' = true then td σ H7 (fun u H8 => r'' w' u H8 P) else P (.bl false) H7) c W h1 h2 h3
end
section
variable {K : PySem.W.Frag} {B H : Hp} {ctx : List Fact} {L : List Own} {α β : Type} [Rp α] [Rp β] {xs : List α} {ys : List β} {a c : Addr} {t t' : Bool} {R : It → Hp → Prop}
theorem w_zpH (W : Wd K B ctx L H) (h : Ls K ctx L t xs (.ref a)) (h' : Ls K ctx L t' ys (.ref c)) (k : R (Itz K a c) H) : rZp K [.ref a, .ref c] H R := by
  obtain ⟨N, F, W⟩ := W
  obtain ⟨a', vs, e, h1, h2⟩ := h B H N F W
  cases e
  obtain ⟨c', ws, e, h3, h4⟩ := h' B H N F W
  cases e
  exact i_zp h1 h3 k
end
end PB

namespace PB
open PySem PySem.Spec PyProof.Rows L2
/-! ### rows as functions of the place; sums ahead of a place -/
abbrev rowF (ns : List Int) : Nat → Int := fun i => ns[i]!
def pre (a : Nat → Int) : Nat → Int
  | 0 => 0
  | i + 1 => pre a i + a i
theorem rowF_get {ns : List Int} {i : Nat} {n : Int} (h : ns[i]? = some n) : rowF ns i = n := getE_of h
theorem rowF_cons (x : Int) (ns : List Int) (i : Nat) : rowF (x :: ns) (i + 1) = rowF ns i := by
  show (x :: ns)[i + 1]! = ns[i]!
  rw [List.getElem!_eq_getElem?_getD, List.getElem!_eq_getElem?_getD, List.getElem?_cons_succ]
theorem pre_cons (x : Int) (ns : List Int) : ∀ i : Nat, pre (rowF (x :: ns)) (i + 1) = x + pre (rowF ns) i
  | 0 => by
    show 0 + (x :: ns)[0]! = x + 0
    rw [List.getElem!_eq_getElem?_getD]
    show 0 + x = x + 0
    omega
  | i + 1 => by
    rw [pre, pre_cons x ns i, rowF_cons, pre]
    omega
theorem pre_sum : ∀ (ns : List Int) (i : Nat), i ≤ ns.length → (ns.take i).sum = pre (rowF ns) i
  | _, 0, _ => by rw [List.take_zero]; rfl
  | [], i + 1, h => absurd h (Nat.not_succ_le_zero _)
  | x :: ns, i + 1, h => by
    rw [List.take_succ_cons, List.sum_cons, pre_sum ns i (by simpa using h), pre_cons]
theorem sum_all (ns : List Int) : ns.sum = pre (rowF ns) ns.length := by
  rw [← pre_sum ns ns.length (Nat.le_refl _), List.take_length]
theorem sum_part {ns : List Int} {i j : Nat} (h : i ≤ j) (hj : j ≤ ns.length) : ((ns.drop i).take (j - i)).sum = pre (rowF ns) j - pre (rowF ns) i := by
  have e : ns.take j = ns.take i ++ (ns.drop i).take (j - i) := by
    rw [← List.drop_take]
    have e2 := List.take_append_drop i (ns.take j)
    rw [List.take_take, Nat.min_eq_left h] at e2
    exact e2.symm
  have e3 := congrArg List.sum e
  rw [List.sum_append, pre_sum ns j hj, pre_sum ns i (by omega)] at e3
  omega
theorem pre_mono {a : Nat → Int} {n : Nat} (h : ∀ i, i < n → 0 ≤ a i) : ∀ {i j : Nat}, i ≤ j → j ≤ n → pre a i ≤ pre a j := by
  intro i j hij
  induction hij with
  | refl => intro _; exact Int.le_refl _
  | @step m hm ih =>
    intro hj
    have := ih (by omega)
    have := h m (by omega)
    show pre a i ≤ pre a m + a m
    omega
theorem rowF_mem {ns : List Int} {i : Nat} (h : i < ns.length) : rowF ns i ∈ ns := by
  show ns[i]! ∈ ns
  rw [List.getElem!_eq_getElem?_getD, List.getElem?_eq_getElem h]
  exact List.getElem_mem _
theorem rowF_nonneg {ns : List Int} (h : ∀ n ∈ ns, 0 ≤ n) : ∀ i, i < ns.length → 0 ≤ rowF ns i := fun i hi => h _ (rowF_mem hi)

/-! ### the cut whose pieces are each as long as a bound lets -/
/-- behind i numbers: the places so far, the sum of the piece at hand -/
def gS (a : Nat → Int) (b : Int) : Nat → Option (List Int × Int)
  | 0 => some ([], 0)
  | i + 1 => match gS a b i with
    | none => none
    | some (c, t) => if a i > b then none else if t + a i > b then some (c ++ [(i : Int)], a i) else some (c, t + a i)
def lcut (ns : List Int) (b : Int) : Option (List Int) := (gS (rowF ns) b ns.length).map (·.1)
def few (ns : List Int) (b : Int) : Option Int := (lcut ns b).map fun c => (c.length : Int) + 1
theorem gS_none {a : Nat → Int} {b : Int} {i j : Nat} (h : gS a b i = none) (hij : i ≤ j) : gS a b j = none := by
  induction hij with
  | refl => exact h
  | @step m hm ih => rw [gS, ih]
theorem gS_small {a : Nat → Int} {b : Int} : ∀ {i : Nat} {c : List Int} {t : Int}, gS a b i = some (c, t) → ∀ j, j < i → a j ≤ b
  | 0, _, _, _, _, hj => absurd hj (Nat.not_lt_zero _)
  | i + 1, c, t, h, j, hj => by
    rw [gS] at h
    cases e : gS a b i with
    | none =>
      rw [e] at h
      cases h
    | some p =>
      obtain ⟨c0, t0⟩ := p
      rw [e] at h
      dsimp only at h
      by_cases h1 : a i > b
      · rw [if_pos h1] at h
        cases h
      · rcases Nat.lt_succ_iff_lt_or_eq.mp hj with hj | hj
        · exact gS_small e j hj
        · rw [hj]
          omega
theorem gS_len {a : Nat → Int} {b : Int} : ∀ {i : Nat} {c : List Int} {t : Int}, gS a b i = some (c, t) → c.length ≤ i
  | 0, c, t, h => by
    rw [gS] at h
    cases h
    exact Nat.le_refl _
  | i + 1, c, t, h => by
    rw [gS] at h
    cases e : gS a b i with
    | none =>
      rw [e] at h
      cases h
    | some p =>
      obtain ⟨c0, t0⟩ := p
      rw [e] at h
      have ih := gS_len e
      dsimp only at h
      split at h
      · cases h
      · split at h
        · cases h
          rw [List.length_append, List.length_singleton]
          omega
        · cases h
          omega
/-- how many pieces so far -/
def cntS (a : Nat → Int) (b : Int) (e : Nat) : Int := match gS a b e with
  | none => 0
  | some (c, _) => if e = 0 then 0 else (c.length : Int) + 1
theorem cntS_zero (a : Nat → Int) (b : Int) : cntS a b 0 = 0 := rfl
theorem cntS_some {a : Nat → Int} {b : Int} {e : Nat} {c : List Int} {t : Int} (h : gS a b e = some (c, t)) (he : e ≠ 0) : cntS a b e = (c.length : Int) + 1 := by
  unfold cntS
  rw [h]
  exact if_neg he
theorem gS_opt {a : Nat → Int} {b : Int} {n : Nat} (hn : ∀ i, i < n → 0 ≤ a i) : ∀ (e : Nat) (c : List Int) (t : Int), e ≤ n → gS a b e = some (c, t) →
    (e ≠ 0 → t ≤ b ∧ ∃ j, j < e ∧ pre a e - pre a j = t ∧ cntS a b e = cntS a b j + 1) ∧
    (e = 0 → t = 0) ∧
    (∀ j, j ≤ e → pre a e - pre a j < t → cntS a b e ≤ cntS a b j) ∧
    (∀ j, j < e → pre a e - pre a j ≤ b → cntS a b e ≤ cntS a b j + 1) := by
  intro e
  induction e with
  | zero =>
    intro c t _ h
    rw [gS] at h
    cases h
    refine ⟨fun h => absurd rfl h, fun _ => rfl, fun j hj hlt => ?_, fun j hj => absurd hj (Nat.not_lt_zero _)⟩
    have e : j = 0 := by omega
    subst e
    omega
  | succ e ih =>
    intro c t he h
    have h0 := h
    rw [gS] at h
    cases eg : gS a b e with
    | none =>
      rw [eg] at h
      cases h
    | some p =>
      obtain ⟨c0, t0⟩ := p
      rw [eg] at h
      dsimp only at h
      obtain ⟨ihA, ih0, ihB, ihC⟩ := ih c0 t0 (by omega) eg
      have hae := hn e (by omega)
      have hp : pre a (e + 1) = pre a e + a e := rfl
      by_cases h1 : a e > b
      · rw [if_pos h1] at h
        cases h
      · rw [if_neg h1] at h
        by_cases h2 : t0 + a e > b
        · rw [if_pos h2] at h
          cases h
          have e0 : e ≠ 0 := fun z => by
            have := ih0 z
            omega
          have hc : cntS a b (e + 1) = cntS a b e + 1 := by
            rw [cntS_some h0 (by omega), cntS_some eg e0, List.length_append, List.length_singleton]
            omega
          refine ⟨fun _ => ⟨by omega, e, by omega, by omega, hc⟩, fun z => by omega, fun j hj hlt => ?_, fun j hj hle => ?_⟩
          · by_cases hj2 : j = e + 1
            · rw [hj2]
              exact Int.le_refl _
            · have := pre_mono hn (show j ≤ e by omega) (by omega)
              omega
          · by_cases hj2 : j = e
            · rw [hj2]
              omega
            · have := ihB j (by omega) (by omega)
              omega
        · rw [if_neg h2] at h
          cases h
          by_cases e0 : e = 0
          · subst e0
            have := ih0 rfl
            subst this
            have hc : cntS a b 1 = 1 := by
              rw [cntS_some h0 (by omega)]
              rw [gS] at eg
              cases eg
              rfl
            refine ⟨fun _ => ⟨by omega, 0, by omega, by omega, by rw [hc, cntS_zero]; rfl⟩, fun z => by omega, fun j hj hlt => ?_, fun j hj hle => ?_⟩
            · by_cases hj2 : j = 1
              · rw [hj2]
                exact Int.le_refl _
              · have e : j = 0 := by omega
                subst e
                omega
            · have e : j = 0 := by omega
              subst e
              rw [hc, cntS_zero]
              decide
          · have hc : cntS a b (e + 1) = cntS a b e := by
              rw [cntS_some h0 (by omega), cntS_some eg e0]
            obtain ⟨hb, j0, hj0, hj1, hj2⟩ := ihA e0
            refine ⟨fun _ => ⟨by omega, j0, by omega, by omega, by omega⟩, fun z => by omega, fun j hj hlt => ?_, fun j hj hle => ?_⟩
            · by_cases hj2 : j = e + 1
              · rw [hj2]
                exact Int.le_refl _
              · have := ihB j (by omega) (by omega)
                omega
            · by_cases hj2 : j = e
              · rw [hj2]
                omega
              · have := ihC j (by omega) (by omega)
                omega
/-- the fewest pieces of the first e numbers, None where there are none such -/
def fewS (a : Nat → Int) (b : Int) (e : Nat) : Option Int := if e = 0 then some 0 else (gS a b e).map fun p => (p.1.length : Int) + 1
theorem fewS_cnt {a : Nat → Int} {b : Int} {e : Nat} {m : Int} (h : fewS a b e = some m) : m = cntS a b e ∧ ∃ p, gS a b e = some p := by
  unfold fewS at h
  by_cases e0 : e = 0
  · subst e0
    rw [if_pos rfl] at h
    cases h
    exact ⟨rfl, _, rfl⟩
  · rw [if_neg e0] at h
    cases eg : gS a b e with
    | none =>
      rw [eg] at h
      cases h
    | some p =>
      rw [eg] at h
      cases h
      obtain ⟨c, t⟩ := p
      exact ⟨(cntS_some eg e0).symm, _, rfl⟩
theorem fewS_of {a : Nat → Int} {b : Int} {e : Nat} {p : List Int × Int} (h : gS a b e = some p) : fewS a b e = some (cntS a b e) := by
  unfold fewS
  by_cases e0 : e = 0
  · subst e0
    rw [if_pos rfl, cntS_zero]
  · obtain ⟨c, t⟩ := p
    rw [if_neg e0, cntS_some h e0, h]
    rfl
/-- THE LAW of it: what a table over all ends asks -/
theorem fewS_next {a : Nat → Int} {b : Int} {n e : Nat} (hn : ∀ i, i < n → 0 ≤ a i) (he : e + 1 ≤ n) :
    (∀ m, fewS a b (e + 1) = some m → (∃ j k, j < e + 1 ∧ pre a (e + 1) - pre a j ≤ b ∧ fewS a b j = some k ∧ m = k + 1) ∧ ∀ j k, j < e + 1 → pre a (e + 1) - pre a j ≤ b → fewS a b j = some k → m ≤ k + 1) ∧
    (fewS a b (e + 1) = none → ∀ j k, j < e + 1 → pre a (e + 1) - pre a j ≤ b → fewS a b j = some k → False) := by
  constructor
  · intro m hm
    obtain ⟨rfl, ⟨c, t⟩, hg⟩ := fewS_cnt hm
    obtain ⟨hA, _, _, hC⟩ := gS_opt hn (e + 1) c t he hg
    refine ⟨?_, fun j k hj hle hk => ?_⟩
    · obtain ⟨hb, j, hj, hj1, hj2⟩ := hA (by omega)
      have hs : ∃ p, gS a b j = some p := by
        cases q : gS a b j with
        | none =>
          rw [gS_none q (show j ≤ e + 1 by omega)] at hg
          cases hg
        | some p => exact ⟨p, rfl⟩
      obtain ⟨p, hp⟩ := hs
      exact ⟨j, _, hj, by omega, fewS_of hp, hj2⟩
    · obtain ⟨rfl, _⟩ := fewS_cnt hk
      exact hC j hj hle
  · intro hnone j k hj hle hk
    obtain ⟨_, ⟨c, t⟩, hg⟩ := fewS_cnt hk
    have hne : gS a b (e + 1) = none := by
      unfold fewS at hnone
      rw [if_neg (by omega)] at hnone
      cases q : gS a b (e + 1) with
      | none => rfl
      | some p =>
        rw [q] at hnone
        cases hnone
    -- a number above the bound stands at j or behind it
    have key : ∀ m, j ≤ m → m ≤ e + 1 → (∀ i, j ≤ i → i < m → a i ≤ b) → ∃ p, gS a b m = some p := by
      intro m hjm
      induction hjm with
      | refl => exact fun _ _ => ⟨_, hg⟩
      | @step m hm ih =>
        intro hme hall
        obtain ⟨⟨c1, t1⟩, h1⟩ := ih (by omega) (fun i h2 h3 => hall i h2 (by omega))
        rw [gS, h1]
        dsimp only
        rw [if_neg (by have := hall m hm (by omega); omega)]
        split <;> exact ⟨_, rfl⟩
    have small : ∀ i, j ≤ i → i < e + 1 → a i ≤ b := fun i h2 h3 => by
      have m1 := pre_mono hn (show j ≤ i by omega) (show i ≤ n by omega)
      have m2 := pre_mono hn (show i + 1 ≤ e + 1 by omega) (show e + 1 ≤ n by omega)
      have : pre a (i + 1) = pre a i + a i := rfl
      omega
    obtain ⟨p, hp⟩ := key (e + 1) (by omega) (Nat.le_refl _) small
    rw [hne] at hp
    cases hp
/-! ### the least of what is gone through, the first such kept -/
def optMin (o c : Option Int) : Option Int := match c with
  | none => o
  | some m => match o with
    | none => some m
    | some k => if m < k then some m else some k
/-- from behind: c (hi - 1), c (hi - 2), .. -/
def bestI (c : Nat → Option Int) (hi : Nat) : Nat → Option Int
  | 0 => none
  | j + 1 => optMin (bestI c hi j) (c (hi - 1 - j))
theorem bestI_spec (c : Nat → Option Int) (hi : Nat) : ∀ j, j ≤ hi → (∀ m, bestI c hi j = some m → (∃ i, hi - j ≤ i ∧ i < hi ∧ c i = some m) ∧ ∀ i m', hi - j ≤ i → i < hi → c i = some m' → m ≤ m') ∧
    (bestI c hi j = none → ∀ i, hi - j ≤ i → i < hi → c i = none)
  | 0, _ => ⟨(fun m h => nomatch h), fun _ i h1 h2 => by omega⟩
  | j + 1, hj => by
    obtain ⟨ih1, ih2⟩ := bestI_spec c hi j (by omega)
    have cov : ∀ i, hi - (j + 1) ≤ i → i < hi → i = hi - 1 - j ∨ (hi - j ≤ i) := fun i h1 h2 => by omega
    rw [bestI]
    cases ec : c (hi - 1 - j) with
    | none =>
      refine ⟨fun m h => ?_, fun h i h1 h2 => ?_⟩
      · obtain ⟨⟨i, a1, a2, a3⟩, a4⟩ := ih1 m h
        refine ⟨⟨i, by omega, a2, a3⟩, fun i m' h1 h2 h3 => ?_⟩
        rcases cov i h1 h2 with rfl | h1
        · rw [ec] at h3
          cases h3
        · exact a4 i m' h1 h2 h3
      · rcases cov i h1 h2 with rfl | h1
        · exact ec
        · exact ih2 h i h1 h2
    | some x =>
      cases eb : bestI c hi j with
      | none =>
        refine ⟨fun m h => ?_, fun h => ?_⟩
        · cases h
          refine ⟨⟨_, by omega, by omega, ec⟩, fun i m' h1 h2 h3 => ?_⟩
          rcases cov i h1 h2 with rfl | h1
          · rw [ec] at h3
            cases h3
            exact Int.le_refl _
          · rw [ih2 eb i h1 h2] at h3
            cases h3
        · cases h
      | some y =>
        obtain ⟨⟨i0, a1, a2, a3⟩, a4⟩ := ih1 y eb
        show (∀ m, (if x < y then some x else some y) = some m → _) ∧ ((if x < y then some x else some y) = none → _)
        by_cases hxy : x < y
        · rw [if_pos hxy]
          refine ⟨fun m h => ?_, (fun h => nomatch h)⟩
          cases h
          refine ⟨⟨_, by omega, by omega, ec⟩, fun i m' h1 h2 h3 => ?_⟩
          rcases cov i h1 h2 with rfl | h1
          · rw [ec] at h3
            cases h3
            exact Int.le_refl _
          · have := a4 i m' h1 h2 h3
            omega
        · rw [if_neg hxy]
          refine ⟨fun m h => ?_, (fun h => nomatch h)⟩
          cases h
          refine ⟨⟨i0, by omega, a2, a3⟩, fun i m' h1 h2 h3 => ?_⟩
          rcases cov i h1 h2 with rfl | h1
          · rw [ec] at h3
            cases h3
            omega
          · exact a4 i m' h1 h2 h3
/-- so many ahead, with a sum of at most the bound behind -/
def fewC (a : Nat → Int) (b : Int) (e j : Nat) : Option Int := if pre a e - pre a j ≤ b then (fewS a b j).map (· + 1) else none
theorem fewC_some {a : Nat → Int} {b m : Int} {e j : Nat} (h : fewC a b e j = some m) : pre a e - pre a j ≤ b ∧ ∃ k, fewS a b j = some k ∧ m = k + 1 := by
  unfold fewC at h
  split at h
  · rename_i hle
    cases hf : fewS a b j with
    | none =>
      rw [hf] at h
      cases h
    | some k =>
      rw [hf] at h
      cases h
      exact ⟨hle, k, rfl, rfl⟩
  · cases h
theorem few_best {a : Nat → Int} {b : Int} {n e : Nat} (hn : ∀ i, i < n → 0 ≤ a i) (he : e + 1 ≤ n) : bestI (fewC a b (e + 1)) (e + 1) (e + 1) = fewS a b (e + 1) := by
  obtain ⟨s1, s2⟩ := bestI_spec (fewC a b (e + 1)) (e + 1) (e + 1) (Nat.le_refl _)
  obtain ⟨t1, t2⟩ := fewS_next (b := b) hn he
  cases h1 : fewS a b (e + 1) with
  | none =>
    cases h2 : bestI (fewC a b (e + 1)) (e + 1) (e + 1) with
    | none => rfl
    | some m =>
      obtain ⟨⟨i, _, hi, hc⟩, _⟩ := s1 m h2
      obtain ⟨h3, k, h4, _⟩ := fewC_some hc
      exact absurd (t2 h1 i k hi h3 h4) id
  | some m =>
    obtain ⟨⟨j, k, hj, h3, h4, h5⟩, hle⟩ := t1 m h1
    have hc : fewC a b (e + 1) j = some m := by
      unfold fewC
      rw [if_pos h3, h4, h5]
      rfl
    cases h2 : bestI (fewC a b (e + 1)) (e + 1) (e + 1) with
    | none =>
      rw [s2 h2 j (by omega) hj] at hc
      cases hc
    | some x =>
      obtain ⟨⟨i, _, hi, hcx⟩, hmin⟩ := s1 x h2
      have := hmin j m (by omega) hj hc
      obtain ⟨h6, k', h7, h8⟩ := fewC_some hcx
      have := hle i k' hi h6 h7
      congr 1
      omega
def optV : Option Int → V
  | none => .non
  | some i => .int i
/-- a table of what is told for each beginning -/
def tab (f : Nat → Option Int) (e : Nat) : List V := (List.range e).map fun i => optV (f i)
theorem tab_succ (f : Nat → Option Int) (e : Nat) : tab f e ++ [optV (f e)] = tab f (e + 1) := by
  unfold tab
  rw [List.range_succ, List.map_append]
  rfl
theorem tab_len (f : Nat → Option Int) (e : Nat) : (tab f e).length = e := by
  unfold tab
  rw [List.length_map, List.length_range]
theorem tab_at {f : Nat → Option Int} {e : Nat} {i : Int} (h0 : 0 ≤ i) (h1 : i < e) : atI (tab f e) i = some (optV (f i.toNat)) := by
  unfold tab
  rw [atI_map h0 (by rw [List.length_range]; exact h1), List.getElem!_eq_getElem?_getD, List.getElem?_range (by omega)]
  rfl
theorem tab_last (f : Nat → Option Int) (e : Nat) : atI (tab f (e + 1)) (-1) = some (optV (f e)) := by
  rw [← tab_succ]
  exact atI_last _ _
theorem few_eq {ns : List Int} {b : Int} (h : 1 ≤ ns.length) : few ns b = fewS (rowF ns) b ns.length := by
  unfold few lcut fewS
  rw [if_neg (by omega), Option.map_map]
  rfl
theorem few_le {ns : List Int} {b m : Int} (h : few ns b = some m) : 1 ≤ m ∧ m ≤ ns.length + 1 := by
  unfold few lcut at h
  cases e : gS (rowF ns) b ns.length with
  | none =>
    rw [e] at h
    cases h
  | some p =>
    obtain ⟨c, t⟩ := p
    rw [e] at h
    cases h
    have := gS_len e
    show 1 ≤ (c.length : Int) + 1 ∧ (c.length : Int) + 1 ≤ _
    omega
def dO : Option Int → PyData
  | none => .none
  | some i => .int i
theorem sd_opt {K : PySem.W.Frag} {H : Hp} {o : Option Int} (h : ∀ m, o = some m → m.natAbs < 2 ^ 64) : SameD K H (optV o) (dO o) false := by
  cases o with
  | none => exact sd_non
  | some m => exact sd_int (h m rfl)
theorem opt_of {o : Option Int} {x : V} (h1 : o = none → x = .non) (h2 : ∀ m, o = some m → x = .int m) : x = optV o := by
  cases o with
  | none => exact h1 rfl
  | some m => exact h2 m rfl
theorem gS_all {a : Nat → Int} {b : Int} : ∀ {m : Nat}, (∀ i, i < m → a i ≤ b) → ∃ p, gS a b m = some p
  | 0, _ => ⟨_, rfl⟩
  | m + 1, h => by
    obtain ⟨⟨c, t⟩, h1⟩ := gS_all (m := m) fun i hi => h i (by omega)
    rw [gS, h1]
    dsimp only
    rw [if_neg (by have := h m (by omega); omega)]
    split <;> exact ⟨_, rfl⟩
theorem lcut_none {ns : List Int} {b : Int} (h : ns ≠ []) : lcut ns b = none ↔ mxI ns > b := by
  unfold lcut
  rw [Option.map_eq_none_iff]
  constructor
  · intro e
    by_cases hb : mxI ns > b
    · exact hb
    · obtain ⟨p, hp⟩ := gS_all (a := rowF ns) (b := b) (m := ns.length) fun i hi => by
        have := mxI_le (rowF_mem hi)
        omega
      rw [e] at hp
      cases hp
  · intro hb
    cases e : gS (rowF ns) b ns.length with
    | none => rfl
    | some p =>
      obtain ⟨i, hi, e2⟩ := List.mem_iff_getElem.mp (mxI_mem h)
      have := gS_small e i hi
      rw [rowF_get (List.getElem?_eq_getElem hi), e2] at this
      omega
theorem gS_go {a : Nat → Int} {b t : Int} {i : Nat} {c : List Int} (h : gS a b i = some (c, t)) (h1 : a i ≤ b) (h2 : t + a i ≤ b) : gS a b (i + 1) = some (c, t + a i) := by
  rw [gS, h]
  dsimp only
  rw [if_neg (by omega), if_neg (by omega)]
theorem gS_new {a : Nat → Int} {b t : Int} {i : Nat} {c : List Int} (h : gS a b i = some (c, t)) (h1 : a i ≤ b) (h2 : b < t + a i) : gS a b (i + 1) = some (c ++ [(i : Int)], a i) := by
  rw [gS, h]
  dsimp only
  rw [if_neg (by omega), if_pos (by omega)]
theorem cutI_init (ns : List Int) : cutI ns none (some (-1)) = ns.dropLast := by
  unfold cutI
  rw [List.dropLast_eq_take, show HT.sIx ns.length 0 none = 0 from rfl, List.drop_zero, Nat.sub_zero]
  congr 1
  unfold HT.sIx
  dsimp only
  simp only [show ((-1 : Int) < 0) from by decide, if_true]
  omega
theorem sum_cut {ns : List Int} {i j : Int} (h0 : 0 ≤ i) (h1 : i ≤ j) (h2 : j ≤ ns.length) : (cutI ns (some i) (some j)).sum = pre (rowF ns) j.toNat - pre (rowF ns) i.toNat := by
  rw [cutI_mid ns h0 h1 h2, sum_part (by omega) (by omega)]
theorem gS_mem {a : Nat → Int} {b : Int} : ∀ {i : Nat} {c : List Int} {t : Int}, gS a b i = some (c, t) → ∀ x ∈ c, 0 ≤ x ∧ x < i
  | 0, c, t, h, x, hx => by
    rw [gS] at h
    cases h
    cases hx
  | i + 1, c, t, h, x, hx => by
    rw [gS] at h
    cases e : gS a b i with
    | none =>
      rw [e] at h
      cases h
    | some p =>
      obtain ⟨c0, t0⟩ := p
      rw [e] at h
      have ih := gS_mem e
      dsimp only at h
      split at h
      · cases h
      · split at h
        · cases h
          rcases List.mem_append.mp hx with hx | hx
          · have := ih x hx
            omega
          · rw [List.mem_singleton.mp hx]
            omega
        · cases h
          have := ih x hx
          omega
theorem lcut_mem {ns c : List Int} {b : Int} (h : lcut ns b = some c) : c.length ≤ ns.length ∧ ∀ x ∈ c, 0 ≤ x ∧ x < ns.length := by
  unfold lcut at h
  cases e : gS (rowF ns) b ns.length with
  | none =>
    rw [e] at h
    cases h
  | some p =>
    obtain ⟨c0, t0⟩ := p
    rw [e] at h
    cases h
    exact ⟨gS_len e, gS_mem e⟩
end PB

namespace PB
open PySem PySem.Spec PyProof.Rows L2
/-! ### the cut whose pieces are each as short as a bound lets; the most pieces -/
def eS (a : Nat → Int) (b : Int) : Nat → List Int × Int
  | 0 => ([], 0)
  | i + 1 => if (eS a b i).2 + a i ≥ b then ((eS a b i).1 ++ [(i : Int) + 1], 0) else ((eS a b i).1, (eS a b i).2 + a i)
def ends (ns : List Int) (b : Int) : List Int := (eS (rowF ns) b ns.length).1
theorem eS_mem (a : Nat → Int) (b : Int) : ∀ i, (eS a b i).1.length ≤ i ∧ ∀ x ∈ (eS a b i).1, 1 ≤ x ∧ x ≤ i
  | 0 => ⟨Nat.le_refl _, fun x h => nomatch h⟩
  | i + 1 => by
    obtain ⟨h1, h2⟩ := eS_mem a b i
    rw [eS]
    split
    · refine ⟨?_, fun x hx => ?_⟩
      · show ((eS a b i).1 ++ [(i : Int) + 1]).length ≤ _
        rw [List.length_append, List.length_singleton]
        omega
      · rcases List.mem_append.mp hx with hx | hx
        · have := h2 x hx
          omega
        · rw [List.mem_singleton.mp hx]
          omega
    · refine ⟨by show (eS a b i).1.length ≤ _; omega, fun x hx => ?_⟩
      have := h2 x hx
      omega
def sh (a : Nat → Int) (k : Nat) : Nat → Int := fun i => a (k + i)
theorem pre_sh (a : Nat → Int) (k : Nat) : ∀ i, pre (sh a k) i = pre a (k + i) - pre a k
  | 0 => by
    show 0 = _
    rw [Nat.add_zero]
    omega
  | i + 1 => by
    rw [pre, pre_sh a k i, ← Nat.add_assoc, pre]
    show _ + a (k + i) = _
    omega
theorem eS_shift {a : Nat → Int} {b : Int} {k : Nat} {c : List Int} (h : eS a b k = (c, 0)) : ∀ m, eS a b (k + m) = (c ++ (eS (sh a k) b m).1.map (· + (k : Int)), (eS (sh a k) b m).2)
  | 0 => by
    rw [Nat.add_zero, h, eS]
    show (c, (0 : Int)) = (c ++ [], 0)
    rw [List.append_nil]
  | m + 1 => by
    rw [← Nat.add_assoc, eS, eS_shift h m, eS]
    show (if (eS (sh a k) b m).2 + a (k + m) ≥ b then _ else _) = _
    by_cases hb : (eS (sh a k) b m).2 + a (k + m) ≥ b
    · rw [if_pos hb, if_pos (show (eS (sh a k) b m).2 + sh a k m ≥ b from hb)]
      show (_ ++ [((k + m : Nat) : Int) + 1], (0 : Int)) = (c ++ ((eS (sh a k) b m).1 ++ [(m : Int) + 1]).map (· + (k : Int)), 0)
      rw [List.map_append, ← List.append_assoc]
      show (_ ++ [((k + m : Nat) : Int) + 1], (0 : Int)) = (_ ++ [(m : Int) + 1 + (k : Int)], 0)
      rw [show ((k + m : Nat) : Int) + 1 = (m : Int) + 1 + (k : Int) by omega]
    · rw [if_neg hb, if_neg (show ¬ (eS (sh a k) b m).2 + sh a k m ≥ b from hb)]
      rfl
theorem eS_low {a : Nat → Int} {b : Int} : ∀ {m : Nat}, (∀ e, 1 ≤ e → e ≤ m → pre a e < b) → eS a b m = ([], pre a m)
  | 0, _ => rfl
  | m + 1, h => by
    rw [eS, eS_low fun e h1 h2 => h e h1 (by omega)]
    have := h (m + 1) (by omega) (Nat.le_refl _)
    rw [pre] at this
    exact if_neg (by show ¬ pre a m + a m ≥ b; omega)
theorem eS_hit {a : Nat → Int} {b : Int} {m : Nat} (h : ∀ e, 1 ≤ e → e < m + 1 → pre a e < b) (h2 : pre a (m + 1) ≥ b) : eS a b (m + 1) = ([(m : Int) + 1], 0) := by
  rw [eS, eS_low fun e h1 h2 => h e h1 (by omega)]
  rw [pre] at h2
  exact if_pos h2
/-- how many from a place on -/
def gE (a : Nat → Int) (b : Int) (n beg : Nat) : Nat := (eS (sh a beg) b (n - beg)).1.length
theorem gE_none {a : Nat → Int} {b : Int} {n beg : Nat} (h : ∀ e, beg < e → e ≤ n → pre a e - pre a beg < b) : gE a b n beg = 0 := by
  unfold gE
  rw [eS_low fun e h1 h2 => by
    rw [pre_sh]
    exact h _ (by omega) (by omega)]
  rfl
theorem eS_next {a : Nat → Int} {b : Int} {beg e : Nat} (hbe : beg < e) (h : ∀ j, beg < j → j < e → pre a j - pre a beg < b) (h2 : pre a e - pre a beg ≥ b) : eS (sh a beg) b (e - beg) = ([((e - beg : Nat) : Int)], 0) := by
  obtain ⟨m, rfl⟩ : ∃ m, e = beg + (m + 1) := ⟨e - beg - 1, by omega⟩
  rw [show beg + (m + 1) - beg = m + 1 by omega, eS_hit (fun j h1 h3 => by
    rw [pre_sh]
    exact h _ (by omega) (by omega)) (by rw [pre_sh]; exact h2)]
  rfl
theorem gE_next {a : Nat → Int} {b : Int} {n beg e : Nat} (hbe : beg < e) (hen : e ≤ n) (h : ∀ j, beg < j → j < e → pre a j - pre a beg < b) (h2 : pre a e - pre a beg ≥ b) : gE a b n beg = 1 + gE a b n e := by
  have s := eS_shift (eS_next hbe h h2) (n - e)
  unfold gE
  rw [show n - beg = (e - beg) + (n - e) by omega, s]
  have e2 : sh (sh a beg) (e - beg) = sh a e := by
    funext i
    show a (beg + (e - beg + i)) = a (e + i)
    rw [show beg + (e - beg + i) = e + i by omega]
  rw [e2, List.length_append, List.length_map, List.length_singleton]
theorem eS_at {a : Nat → Int} {b : Int} {beg e : Nat} {c : List Int} (hc : eS a b beg = (c, 0)) (hbe : beg < e) (h : ∀ j, beg < j → j < e → pre a j - pre a beg < b) (h2 : pre a e - pre a beg ≥ b) : eS a b e = (c ++ [(e : Int)], 0) := by
  have s := eS_shift hc (e - beg)
  rw [eS_next hbe h h2, show beg + (e - beg) = e by omega] at s
  rw [s]
  show (c ++ [((e - beg : Nat) : Int) + (beg : Int)], (0 : Int)) = _
  rw [show ((e - beg : Nat) : Int) + (beg : Int) = (e : Int) by omega]
theorem least {p : Nat → Prop} : ∀ e, p e → ∃ m, m ≤ e ∧ p m ∧ ∀ j, j < m → ¬ p j := by
  intro e
  induction e using Nat.strongRecOn with
  | _ e ih =>
    intro h
    by_cases hx : ∃ j, j < e ∧ p j
    · obtain ⟨j, hj, hp⟩ := hx
      obtain ⟨m, h1, h2⟩ := ih j hj hp
      exact ⟨m, by omega, h2⟩
    · exact ⟨e, Nat.le_refl _, h, fun j hj hp => hx ⟨j, hj, hp⟩⟩
/-- the first end from a place on, or none -/
theorem next_or {a : Nat → Int} (b : Int) (n beg : Nat) : (∀ e, beg < e → e ≤ n → pre a e - pre a beg < b) ∨ ∃ e, beg < e ∧ e ≤ n ∧ (∀ j, beg < j → j < e → pre a j - pre a beg < b) ∧ pre a e - pre a beg ≥ b := by
  by_cases hx : ∃ e, beg < e ∧ e ≤ n ∧ pre a e - pre a beg ≥ b
  · obtain ⟨e0, h0⟩ := hx
    obtain ⟨m, _, ⟨h1, h2, h3⟩, h4⟩ := least (p := fun e => beg < e ∧ e ≤ n ∧ pre a e - pre a beg ≥ b) e0 h0
    refine .inr ⟨m, h1, h2, fun j hj hm => ?_, h3⟩
    have := h4 j hm
    by_cases hb : pre a j - pre a beg < b
    · exact hb
    · exact absurd ⟨hj, by omega, by omega⟩ this
  · refine .inl fun e h1 h2 => ?_
    by_cases hb : pre a e - pre a beg < b
    · exact hb
    · exact absurd ⟨e, h1, h2, by omega⟩ hx
theorem gE_end (a : Nat → Int) (b : Int) (n : Nat) : gE a b n n = 0 := gE_none fun e h1 h2 => by omega
theorem gE_anti {a : Nat → Int} {b : Int} {n : Nat} (hn : ∀ i, i < n → 0 ≤ a i) : ∀ (d beg beg2 : Nat), n - beg ≤ d → beg ≤ beg2 → beg2 ≤ n → gE a b n beg2 ≤ gE a b n beg
  | 0, beg, beg2, hd, h1, h2 => by
    obtain rfl : beg2 = beg := by omega
    exact Nat.le_refl _
  | d + 1, beg, beg2, hd, h1, h2 => by
    rcases next_or (a := a) b n beg2 with h | ⟨e2, a1, a2, a3, a4⟩
    · rw [gE_none h]
      exact Nat.zero_le _
    · rcases next_or (a := a) b n beg with h | ⟨e1, b1, b2, b3, b4⟩
      · have m1 := pre_mono hn h1 h2
        have := h e2 (by omega) a2
        omega
      · rw [gE_next a1 a2 a3 a4, gE_next b1 b2 b3 b4]
        have hle : e1 ≤ e2 := by
          rcases Nat.lt_or_ge e2 e1 with h | h
          · have m1 := pre_mono hn h1 h2
            have := b3 e2 (by omega) h
            omega
          · exact h
        have := gE_anti (b := b) hn d e1 e2 (by omega) hle a2
        omega
/-- the most pieces from a place on -/
def mX (a : Nat → Int) (b : Int) (n j : Nat) : Option Int := if j = n then some 0 else if gE a b n j = 0 then none else some (gE a b n j)
theorem mX_some {a : Nat → Int} {b k : Int} {n j : Nat} (h : mX a b n j = some k) : k = gE a b n j := by
  unfold mX at h
  split at h
  · rename_i e
    cases h
    rw [e, gE_end]
    rfl
  · split at h
    · cases h
    · cases h
      rfl
def mC (f : Nat → Option Int) (a : Nat → Int) (b : Int) (beg e : Nat) : Option Int := if pre a e - pre a beg ≥ b then (f e).map (· + 1) else none
def optMax (o c : Option Int) : Option Int := match c with
  | none => o
  | some m => some (max (o.getD 0) m)
def mB (f : Nat → Option Int) (a : Nat → Int) (b : Int) (beg : Nat) : Nat → Option Int
  | 0 => none
  | j + 1 => optMax (mB f a b beg j) (mC f a b beg (beg + 1 + j))
theorem mC_some {f : Nat → Option Int} {a : Nat → Int} {b m : Int} {beg e : Nat} (h : mC f a b beg e = some m) : pre a e - pre a beg ≥ b ∧ ∃ k, f e = some k ∧ m = k + 1 := by
  unfold mC at h
  split at h
  · rename_i hle
    cases hf : f e with
    | none =>
      rw [hf] at h
      cases h
    | some k =>
      rw [hf] at h
      cases h
      exact ⟨hle, k, rfl, rfl⟩
  · cases h
theorem mB_spec {f : Nat → Option Int} {a : Nat → Int} {b : Int} {beg : Nat} (hp : ∀ e m, f e = some m → 0 ≤ m) : ∀ j,
    (∀ m, mB f a b beg j = some m → (∃ i, i < j ∧ mC f a b beg (beg + 1 + i) = some m) ∧ ∀ i m', i < j → mC f a b beg (beg + 1 + i) = some m' → m' ≤ m) ∧
    (mB f a b beg j = none → ∀ i, i < j → mC f a b beg (beg + 1 + i) = none)
  | 0 => ⟨(fun m h => nomatch h), fun _ i h => absurd h (Nat.not_lt_zero _)⟩
  | j + 1 => by
    obtain ⟨ih1, ih2⟩ := mB_spec (a := a) (b := b) (beg := beg) hp j
    have cov : ∀ i, i < j + 1 → i = j ∨ i < j := fun i h => by omega
    rw [mB]
    cases ec : mC f a b beg (beg + 1 + j) with
    | none =>
      refine ⟨fun m h => ?_, fun h i h1 => ?_⟩
      · obtain ⟨⟨i, a2, a3⟩, a4⟩ := ih1 m h
        refine ⟨⟨i, by omega, a3⟩, fun i m' h1 h3 => ?_⟩
        rcases cov i h1 with rfl | h1
        · rw [ec] at h3
          cases h3
        · exact a4 i m' h1 h3
      · rcases cov i h1 with rfl | h1
        · exact ec
        · exact ih2 h i h1
    | some x =>
      obtain ⟨_, k, hk, rfl⟩ := mC_some ec
      have hk0 := hp _ _ hk
      show (∀ m, some (max ((mB f a b beg j).getD 0) (k + 1)) = some m → _) ∧ (some _ = none → _)
      refine ⟨fun m h => ?_, (fun h => nomatch h)⟩
      cases h
      cases eb : mB f a b beg j with
      | none =>
        show (∃ i, i < j + 1 ∧ mC f a b beg (beg + 1 + i) = some (max 0 (k + 1))) ∧ ∀ i m', i < j + 1 → mC f a b beg (beg + 1 + i) = some m' → m' ≤ max 0 (k + 1)
        rw [show max 0 (k + 1) = k + 1 by omega]
        refine ⟨⟨j, by omega, ec⟩, fun i m' h1 h3 => ?_⟩
        rcases cov i h1 with rfl | h1
        · rw [ec] at h3
          cases h3
          exact Int.le_refl _
        · rw [ih2 eb i h1] at h3
          cases h3
      | some y =>
        obtain ⟨⟨i0, a2, a3⟩, a4⟩ := ih1 y eb
        show (∃ i, i < j + 1 ∧ mC f a b beg (beg + 1 + i) = some (max y (k + 1))) ∧ ∀ i m', i < j + 1 → mC f a b beg (beg + 1 + i) = some m' → m' ≤ max y (k + 1)
        refine ⟨?_, fun i m' h1 h3 => ?_⟩
        · rcases Int.le_total y (k + 1) with h | h
          · exact ⟨j, by omega, by rw [Int.max_eq_right h]; exact ec⟩
          · exact ⟨i0, by omega, by rw [Int.max_eq_left h]; exact a3⟩
        · rcases cov i h1 with rfl | h1
          · rw [ec] at h3
            cases h3
            omega
          · have := a4 i m' h1 h3
            omega
theorem mB_congr {f g : Nat → Option Int} {a : Nat → Int} {b : Int} {beg : Nat} (h : ∀ e, beg < e → f e = g e) : ∀ j, mB f a b beg j = mB g a b beg j
  | 0 => rfl
  | j + 1 => by
    rw [mB, mB, mB_congr h j]
    unfold mC
    rw [h _ (by omega)]
theorem mX_best {a : Nat → Int} {b : Int} {n beg : Nat} (hn : ∀ i, i < n → 0 ≤ a i) (hb : beg < n) : mB (mX a b n) a b beg (n - beg) = mX a b n beg := by
  obtain ⟨s1, s2⟩ := mB_spec (f := mX a b n) (a := a) (b := b) (beg := beg) (fun e m h => by
    rw [mX_some h]
    omega) (n - beg)
  rcases next_or (a := a) b n beg with h | ⟨e1, b1, b2, b3, b4⟩
  · have g0 := gE_none h
    have hx : mX a b n beg = none := by
      unfold mX
      rw [if_neg (by omega), if_pos g0]
    rw [hx]
    cases hm : mB (mX a b n) a b beg (n - beg) with
    | none => rfl
    | some m =>
      obtain ⟨⟨i, hi, hc⟩, _⟩ := s1 m hm
      obtain ⟨h5, _⟩ := mC_some hc
      have := h (beg + 1 + i) (by omega) (by omega)
      omega
  · have g1 := gE_next b1 b2 b3 b4
    have hx : mX a b n beg = some (gE a b n beg : Int) := by
      unfold mX
      rw [if_neg (by omega), if_neg (by omega)]
    rw [hx]
    have hat : ∃ i, i < n - beg ∧ mC (mX a b n) a b beg (beg + 1 + i) = some (gE a b n beg : Int) := by
      by_cases hz : gE a b n e1 = 0
      · refine ⟨n - beg - 1, by omega, ?_⟩
        rw [show beg + 1 + (n - beg - 1) = n by omega]
        have m1 := pre_mono hn b2 (Nat.le_refl _)
        unfold mC mX
        rw [if_pos (by omega), if_pos rfl, g1, hz]
        rfl
      · refine ⟨e1 - beg - 1, by omega, ?_⟩
        rw [show beg + 1 + (e1 - beg - 1) = e1 by omega]
        unfold mC mX
        have hne : e1 ≠ n := fun z => by
          rw [z, gE_end] at hz
          omega
        rw [if_pos b4, if_neg hne, if_neg hz, g1]
        show some ((gE a b n e1 : Int) + 1) = _
        congr 1
        omega
    obtain ⟨i, hi, hc⟩ := hat
    cases hm : mB (mX a b n) a b beg (n - beg) with
    | none =>
      rw [s2 hm i hi] at hc
      cases hc
    | some m =>
      obtain ⟨⟨i2, hi2, hc2⟩, hmax⟩ := s1 m hm
      have := hmax i _ hi hc
      obtain ⟨h5, k, h6, rfl⟩ := mC_some hc2
      have hk := mX_some h6
      have hle : e1 ≤ beg + 1 + i2 := by
        rcases Nat.lt_or_ge (beg + 1 + i2) e1 with h | h
        · have := b3 _ (by omega) h
          omega
        · exact h
      have := gE_anti hn (b := b) n e1 (beg + 1 + i2) (by omega) hle (by omega)
      congr 1
      omega
/-- the table from behind, so many turns -/
def mT (a : Nat → Int) (b : Int) (n k j : Nat) : Option Int := if n - k ≤ j then mX a b n j else none
theorem mT_zero {a : Nat → Int} {b : Int} {n j : Nat} (h : j ≤ n) : mT a b n 0 j = if j = n then some 0 else none := by
  unfold mT mX
  by_cases e : j = n
  · rw [if_pos (by omega), if_pos e, if_pos e]
  · rw [if_neg (by omega), if_neg e]
theorem mT_step {a : Nat → Int} {b : Int} {n k : Nat} (hn : ∀ i, i < n → 0 ≤ a i) (hk : k < n) (j : Nat) : mT a b n (k + 1) j = if j = n - 1 - k then mB (mT a b n k) a b (n - 1 - k) (k + 1) else mT a b n k j := by
  by_cases e : j = n - 1 - k
  · rw [if_pos e, e, mB_congr (f := mT a b n k) (g := mX a b n) (fun e he => if_pos (by omega)), show k + 1 = n - (n - 1 - k) by omega, mX_best hn (by omega)]
    exact if_pos (by omega)
  · rw [if_neg e]
    unfold mT
    by_cases h : n - k ≤ j
    · rw [if_pos h, if_pos (by omega)]
    · rw [if_neg h, if_neg (by omega)]
theorem tab_get (f : Nat → Option Int) (e k : Nat) : (tab f e)[k]? = if k < e then some (optV (f k)) else none := by
  unfold tab
  rw [List.getElem?_map]
  by_cases h : k < e
  · rw [if_pos h, List.getElem?_range h]
    rfl
  · rw [if_neg h, List.getElem?_eq_none (by rw [List.length_range]; omega)]
    rfl
theorem tab_set {f : Nat → Option Int} {e i : Nat} {v : Option Int} (h : i < e) : (tab f e).set i (optV v) = tab (fun j => if j = i then v else f j) e := by
  refine List.ext_getElem? fun k => ?_
  rw [List.getElem?_set, tab_get, tab_get, tab_len]
  by_cases e2 : i = k
  · rw [if_pos e2, if_pos h, if_pos (by omega), if_pos e2.symm]
  · rw [if_neg e2, if_neg (show ¬ k = i from fun z => e2 z.symm)]
theorem tab_congr {f g : Nat → Option Int} {e : Nat} (h : ∀ j, j < e → f j = g j) : tab f e = tab g e := by
  unfold tab
  exact List.map_congr_left fun i hi => by rw [h i (List.mem_range.mp hi)]
theorem tab_start (a : Nat → Int) (b : Int) (n : Nat) : List.replicate n V.non ++ [.int 0] = tab (mT a b n 0) (n + 1) := by
  rw [← tab_succ]
  congr 1
  · refine List.ext_getElem? fun k => ?_
    rw [tab_get, List.getElem?_replicate]
    by_cases h : k < n
    · rw [if_pos h, if_pos h, mT_zero (by omega), if_neg (by omega)]
      rfl
    · rw [if_neg h, if_neg h]
  · rw [mT_zero (Nat.le_refl _), if_pos rfl]
    rfl
theorem mT_all (a : Nat → Int) (b : Int) (n j : Nat) : mT a b n n j = mX a b n j := if_pos (by omega)
/-- how many ends -/
theorem ends_len (ns : List Int) (b : Int) : (ends ns b).length = gE (rowF ns) b ns.length 0 := by
  unfold ends gE
  have : sh (rowF ns) 0 = rowF ns := by
    funext i
    show rowF ns (0 + i) = _
    rw [Nat.zero_add]
  rw [this]
  rfl
def mostO (ns : List Int) (b : Int) : Option Int := if ends ns b = [] then none else some ((ends ns b).length : Int)
theorem mX_most {ns : List Int} (b : Int) (h : 1 ≤ ns.length) : mX (rowF ns) b ns.length 0 = mostO ns b := by
  unfold mX mostO
  rw [if_neg (by omega), ← ends_len]
  by_cases e : ends ns b = []
  · rw [if_pos e, e]
    rfl
  · rw [if_neg e, if_neg (fun z => e (List.length_eq_zero_iff.mp z))]
def firstO (ns : List Int) (b : Int) : Option (List Int) := if ends ns b = [] then none else some (ends ns b).dropLast
theorem most_le {ns : List Int} {b m : Int} (h : mostO ns b = some m) : 1 ≤ m ∧ m ≤ ns.length := by
  unfold mostO at h
  split at h
  · cases h
  · rename_i hne
    cases h
    have := (eS_mem (rowF ns) b ns.length).1
    have h0 : (ends ns b).length ≠ 0 := fun z => hne (List.length_eq_zero_iff.mp z)
    unfold ends at h0 ⊢
    omega
theorem first_mem {ns c : List Int} {b : Int} (h : firstO ns b = some c) : c.length ≤ ns.length ∧ ∀ x ∈ c, 0 ≤ x ∧ x ≤ ns.length := by
  unfold firstO at h
  split at h
  · cases h
  · cases h
    obtain ⟨h1, h2⟩ := eS_mem (rowF ns) b ns.length
    refine ⟨?_, fun x hx => ?_⟩
    · rw [List.length_dropLast]
      unfold ends
      omega
    · have := h2 x (List.dropLast_subset _ hx)
      omega
end PB

namespace PB
open PySem PySem.Spec PyProof.Rows L2
/-! ### sums over places -/
def sumN (f : Nat → Int) : Nat → Int
  | 0 => 0
  | n + 1 => sumN f n + f n
theorem sumN_congr {f g : Nat → Int} : ∀ {n : Nat}, (∀ i, i < n → f i = g i) → sumN f n = sumN g n
  | 0, _ => rfl
  | n + 1, h => by rw [sumN, sumN, sumN_congr fun i hi => h i (by omega), h n (by omega)]
theorem sumN_zero {f : Nat → Int} {n : Nat} (h : ∀ i, i < n → f i = 0) : sumN f n = 0 := by
  induction n with
  | zero => rfl
  | succ n ih => rw [sumN, ih fun i hi => h i (by omega), h n (by omega)]; rfl
theorem sumN_add (f g : Nat → Int) : ∀ n, sumN (fun i => f i + g i) n = sumN f n + sumN g n
  | 0 => rfl
  | n + 1 => by
    rw [sumN, sumN, sumN, sumN_add f g n]
    omega
theorem sumN_mul (f : Nat → Int) (c : Int) : ∀ n, sumN (fun i => f i * c) n = sumN f n * c
  | 0 => by
    show 0 = 0 * c
    rw [Int.zero_mul]
  | n + 1 => by rw [sumN, sumN, sumN_mul f c n, Int.add_mul]
theorem sumN_lmul (f : Nat → Int) (c : Int) : ∀ n, sumN (fun i => c * f i) n = c * sumN f n
  | 0 => by
    show 0 = c * 0
    rw [Int.mul_zero]
  | n + 1 => by rw [sumN, sumN, sumN_lmul f c n, Int.mul_add]
theorem sumN_swap (f : Nat → Nat → Int) (m : Nat) : ∀ n, sumN (fun i => sumN (fun j => f i j) m) n = sumN (fun j => sumN (fun i => f i j) n) m
  | 0 => (sumN_zero fun i _ => rfl).symm
  | n + 1 => by
    rw [sumN, sumN_swap f m n, ← sumN_add]
    rfl
theorem sumN_one {f : Nat → Int} {n k : Nat} (hk : k < n) (h : ∀ i, i < n → i ≠ k → f i = 0) : sumN f n = f k := by
  induction n with
  | zero => omega
  | succ n ih =>
    rw [sumN]
    by_cases e : k = n
    · subst e
      rw [sumN_zero fun i hi => h i (by omega) (by omega), Int.zero_add]
    · rw [ih (by omega) fun i hi hne => h i (by omega) hne, h n (by omega) (fun z => e z.symm), Int.add_zero]
/-! ### cuts with sums between bounds, from a place on; up to a place -/
def okW (a : Nat → Int) (lo hi : Int) (b e : Nat) : Prop := b < e ∧ lo ≤ pre a e - pre a b ∧ pre a e - pre a b ≤ hi
instance (a : Nat → Int) (lo hi : Int) (b e : Nat) : Decidable (okW a lo hi b e) := inferInstanceAs (Decidable (_ ∧ _))
def wB (a : Nat → Int) (lo hi : Int) (n : Nat) : Nat → Nat → Int
  | 0, b => if b = n then 1 else 0
  | k + 1, b => sumN (fun e => if okW a lo hi b e then wB a lo hi n k e else 0) (n + 1)
def wF (a : Nat → Int) (lo hi : Int) (n : Nat) : Nat → Nat → Int
  | 0, e => if e = 0 then 1 else 0
  | k + 1, e => sumN (fun b => if okW a lo hi b e then wF a lo hi n k b else 0) (n + 1)
theorem w_step (a : Nat → Int) (lo hi : Int) (n j k : Nat) : sumN (fun b => wF a lo hi n j b * wB a lo hi n (k + 1) b) (n + 1) = sumN (fun e => wF a lo hi n (j + 1) e * wB a lo hi n k e) (n + 1) := by
  have h1 : ∀ b, wF a lo hi n j b * wB a lo hi n (k + 1) b = sumN (fun e => wF a lo hi n j b * (if okW a lo hi b e then wB a lo hi n k e else 0)) (n + 1) := fun b => (sumN_lmul _ _ _).symm
  have h2 : ∀ e, wF a lo hi n (j + 1) e * wB a lo hi n k e = sumN (fun b => (if okW a lo hi b e then wF a lo hi n j b else 0) * wB a lo hi n k e) (n + 1) := fun e => (sumN_mul _ _ _).symm
  rw [sumN_congr fun b _ => h1 b, sumN_congr fun e _ => h2 e, sumN_swap]
  refine sumN_congr fun e _ => sumN_congr fun b _ => ?_
  split
  · rfl
  · rw [Int.mul_zero, Int.zero_mul]
theorem w_move (a : Nat → Int) (lo hi : Int) (n : Nat) : ∀ k j, sumN (fun b => wF a lo hi n j b * wB a lo hi n k b) (n + 1) = sumN (fun b => wF a lo hi n (j + k) b * wB a lo hi n 0 b) (n + 1)
  | 0, j => rfl
  | k + 1, j => by
    rw [w_step, w_move a lo hi n k (j + 1), show j + 1 + k = j + (k + 1) by omega]
/-- THE LAW: counted from behind as counted from the beginning -/
theorem w_same (a : Nat → Int) (lo hi : Int) (n k : Nat) : wB a lo hi n k 0 = wF a lo hi n k n := by
  have h := w_move a lo hi n k 0
  rw [Nat.zero_add, sumN_one (k := 0) (by omega) (fun i _ hi0 => by rw [wF, if_neg hi0, Int.zero_mul]), sumN_one (k := n) (by omega) (fun i _ hin => by rw [wB, if_neg hin, Int.mul_zero]), show wF a lo hi n 0 0 = 1 from rfl, show wB a lo hi n 0 n = 1 from if_pos rfl, Int.one_mul, Int.mul_one] at h
  exact h
/-! ### tables of ints -/
def tabI (f : Nat → Int) (e : Nat) : List Int := (List.range e).map f
theorem tabI_succ (f : Nat → Int) (e : Nat) : tabI f e ++ [f e] = tabI f (e + 1) := by
  unfold tabI
  rw [List.range_succ, List.map_append]
  rfl
theorem tabI_len (f : Nat → Int) (e : Nat) : (tabI f e).length = e := by
  unfold tabI
  rw [List.length_map, List.length_range]
theorem tabI_get (f : Nat → Int) (e k : Nat) : (tabI f e)[k]? = if k < e then some (f k) else none := by
  unfold tabI
  rw [List.getElem?_map]
  by_cases h : k < e
  · rw [if_pos h, List.getElem?_range h]
    rfl
  · rw [if_neg h, List.getElem?_eq_none (by rw [List.length_range]; omega)]
    rfl
theorem tabI_e {f : Nat → Int} {e k : Nat} (h : k < e) : (tabI f e)[k]! = f k := getE_of (by rw [tabI_get, if_pos h])
theorem tabI_at {f : Nat → Int} {e : Nat} {i : Int} (h0 : 0 ≤ i) (h1 : i < e) : atI ((tabI f e).map V.int) i = some (.int (f i.toNat)) := by
  rw [atI_map h0 (by rw [tabI_len]; exact h1), tabI_e (by omega)]
theorem tabI_last (f : Nat → Int) (e : Nat) : atI ((tabI f (e + 1)).map V.int) (-1) = some (.int (f e)) := by
  rw [← tabI_succ, List.map_append]
  exact atI_last _ _
theorem tabI_set {f : Nat → Int} {e i : Nat} {v : Int} (h : i < e) : (tabI f e).set i v = tabI (fun j => if j = i then v else f j) e := by
  refine List.ext_getElem? fun k => ?_
  rw [List.getElem?_set, tabI_get, tabI_get, tabI_len]
  by_cases e2 : i = k
  · rw [if_pos e2, if_pos h, if_pos (by omega), if_pos e2.symm]
  · rw [if_neg e2, if_neg (show ¬ k = i from fun z => e2 z.symm)]
theorem tabI_congr {f g : Nat → Int} {e : Nat} (h : ∀ j, j < e → f j = g j) : tabI f e = tabI g e := by
  unfold tabI
  exact List.map_congr_left fun i hi => by rw [h i (List.mem_range.mp hi)]
theorem tabI_const (c : Int) (e : Nat) : List.replicate e c = tabI (fun _ => c) e := by
  refine List.ext_getElem? fun k => ?_
  rw [tabI_get, List.getElem?_replicate]
theorem sum_tabI (f : Nat → Int) : ∀ e, (tabI f e).sum = sumN f e
  | 0 => rfl
  | e + 1 => by
    rw [← tabI_succ, List.sum_append, sum_tabI f e, sumN]
    show _ + (f e + 0) = _
    rw [Int.add_zero]
/-- the ends gone through from a place, that fit -/
def endsL (a : Nat → Int) (lo hi : Int) (beg j : Nat) : List Int := ((List.range j).filter fun i => decide (okW a lo hi beg (beg + 1 + i))).map fun (i : Nat) => (beg : Int) + 1 + (i : Int)
theorem endsL_yes {a : Nat → Int} {lo hi : Int} {beg j : Nat} (h : okW a lo hi beg (beg + 1 + j)) : endsL a lo hi beg (j + 1) = endsL a lo hi beg j ++ [(beg : Int) + 1 + (j : Int)] := by
  unfold endsL
  rw [List.range_succ, List.filter_append, List.map_append]
  congr 1
  rw [List.filter_cons, if_pos (decide_eq_true h)]
  rfl
theorem endsL_no {a : Nat → Int} {lo hi : Int} {beg j : Nat} (h : ¬ okW a lo hi beg (beg + 1 + j)) : endsL a lo hi beg (j + 1) = endsL a lo hi beg j := by
  unfold endsL
  rw [List.range_succ, List.filter_append, List.filter_cons, if_neg (by rw [decide_eq_true_eq]; exact h), List.filter_nil, List.append_nil]
theorem endsL_mem {a : Nat → Int} {lo hi : Int} {beg j : Nat} {x : Int} (h : x ∈ endsL a lo hi beg j) : 0 ≤ x ∧ x ≤ beg + j := by
  unfold endsL at h
  obtain ⟨i, hi, rfl⟩ := List.mem_map.mp h
  have := List.mem_range.mp (List.mem_filter.mp hi).1
  omega
theorem endsL_len (a : Nat → Int) (lo hi : Int) (beg j : Nat) : (endsL a lo hi beg j).length ≤ j := by
  unfold endsL
  rw [List.length_map]
  exact Nat.le_trans (List.length_filter_le _ _) (by rw [List.length_range]; exact Nat.le_refl _)
theorem endsL_sum (a : Nat → Int) (lo hi : Int) (beg : Nat) (f : Nat → Int) : ∀ j, ((endsL a lo hi beg j).map fun x => f x.toNat).sum = sumN (fun e => if okW a lo hi beg e then f e else 0) (beg + 1 + j)
  | 0 => by
    rw [sumN_zero fun i h => if_neg fun z => by
      have := z.1
      omega]
    rfl
  | j + 1 => by
    rw [← Nat.add_assoc, sumN, ← endsL_sum a lo hi beg f j]
    by_cases h : okW a lo hi beg (beg + 1 + j)
    · rw [endsL_yes h, if_pos h, List.map_append, List.sum_append]
      show _ + (f ((beg : Int) + 1 + (j : Int)).toNat + 0) = _
      rw [show ((beg : Int) + 1 + (j : Int)).toNat = beg + 1 + j by omega, Int.add_zero]
    · rw [endsL_no h, if_neg h, Int.add_zero]
theorem wB_start (a : Nat → Int) (lo hi : Int) (n : Nat) : List.replicate n 0 ++ [1] = tabI (wB a lo hi n 0) (n + 1) := by
  rw [← tabI_succ]
  congr 1
  · rw [tabI_const]
    exact tabI_congr fun j hj => (if_neg (by omega)).symm
  · rw [show wB a lo hi n 0 n = 1 from if_pos rfl]
theorem wB_next (a : Nat → Int) (lo hi : Int) (n k beg : Nat) (h : beg ≤ n) : ((endsL a lo hi beg (n - beg)).map fun x => wB a lo hi n k x.toNat).sum = wB a lo hi n (k + 1) beg := by
  rw [endsL_sum a lo hi beg (wB a lo hi n k), show beg + 1 + (n - beg) = n + 1 by omega]
  rfl
theorem wF_start (a : Nat → Int) (lo hi : Int) (n : Nat) : [1] ++ List.replicate n 0 = tabI (wF a lo hi n 0) (n + 1) := by
  refine List.ext_getElem? fun k => ?_
  rw [tabI_get]
  cases k with
  | zero => rfl
  | succ k =>
    show (List.replicate n (0 : Int))[k]? = _
    rw [List.getElem?_replicate]
    by_cases h : k < n
    · rw [if_pos h, if_pos (by omega)]
      rfl
    · rw [if_neg h, if_neg (by omega)]
/-- behind so many places -/
def gW (a : Nat → Int) (lo hi : Int) (n k b e : Nat) : Int := sumN (fun x => if okW a lo hi x e then wF a lo hi n k x else 0) b
def gW2 (a : Nat → Int) (lo hi : Int) (n k b j e : Nat) : Int := if b < e ∧ e ≤ b + j then gW a lo hi n k (b + 1) e else gW a lo hi n k b e
theorem gW_zero (a : Nat → Int) (lo hi : Int) (n k : Nat) : List.replicate (n + 1) 0 = tabI (gW a lo hi n k 0) (n + 1) := tabI_const 0 (n + 1)
theorem gW_all (a : Nat → Int) (lo hi : Int) (n k : Nat) : tabI (gW a lo hi n k n) (n + 1) = tabI (wF a lo hi n (k + 1)) (n + 1) := tabI_congr fun e he => by
  rw [wF, sumN, if_neg (fun z => by have := z.1; omega), Int.add_zero]
  rfl
theorem gW2_zero (a : Nat → Int) (lo hi : Int) (n k b : Nat) : tabI (gW2 a lo hi n k b 0) (n + 1) = tabI (gW a lo hi n k b) (n + 1) := tabI_congr fun e he => if_neg (by omega)
theorem gW2_all (a : Nat → Int) (lo hi : Int) (n k b : Nat) : tabI (gW2 a lo hi n k b (n - b)) (n + 1) = tabI (gW a lo hi n k (b + 1)) (n + 1) := tabI_congr fun e he => by
  unfold gW2
  by_cases h : b < e ∧ e ≤ b + (n - b)
  · rw [if_pos h]
  · rw [if_neg h]
    unfold gW
    rw [sumN, if_neg (fun z => by have := z.1; omega), Int.add_zero]
theorem gW2_at (a : Nat → Int) (lo hi : Int) (n k b j : Nat) : gW2 a lo hi n k b j (b + 1 + j) = gW a lo hi n k b (b + 1 + j) := if_neg (by omega)
theorem gW2_yes {a : Nat → Int} {lo hi : Int} {n k b j : Nat} (hj : b + 1 + j < n + 1) (h : okW a lo hi b (b + 1 + j)) : (tabI (gW2 a lo hi n k b j) (n + 1)).set (b + 1 + j) (gW a lo hi n k b (b + 1 + j) + wF a lo hi n k b) = tabI (gW2 a lo hi n k b (j + 1)) (n + 1) := by
  rw [tabI_set hj]
  refine tabI_congr fun e he => ?_
  unfold gW2
  by_cases e1 : e = b + 1 + j
  · rw [if_pos e1, if_pos (by omega), e1]
    show _ = sumN _ b + (if okW a lo hi b (b + 1 + j) then wF a lo hi n k b else 0)
    rw [if_pos h]
    rfl
  · rw [if_neg e1]
    by_cases h2 : b < e ∧ e ≤ b + j
    · rw [if_pos h2, if_pos (by omega)]
    · rw [if_neg h2, if_neg (by omega)]
theorem gW2_no {a : Nat → Int} {lo hi : Int} {n k b j : Nat} (h : ¬ okW a lo hi b (b + 1 + j)) : tabI (gW2 a lo hi n k b j) (n + 1) = tabI (gW2 a lo hi n k b (j + 1)) (n + 1) := tabI_congr fun e he => by
  unfold gW2
  by_cases e1 : e = b + 1 + j
  · rw [if_neg (by omega), if_pos (by omega), e1]
    show _ = sumN _ b + (if okW a lo hi b (b + 1 + j) then wF a lo hi n k b else 0)
    rw [if_neg h, Int.add_zero]
    rfl
  · by_cases h2 : b < e ∧ e ≤ b + j
    · rw [if_pos h2, if_pos (by omega)]
    · rw [if_neg h2, if_neg (by omega)]
end PB

namespace PB
open PySem PySem.Spec PyProof.Rows L2
/-! ### what a mirror gives -/
def OkP {α : Type} (e : Option α) (P : α → Prop) : Prop := ∃ x, e = some x ∧ P x
section
variable {α β γ ρ : Type} {e : Option α} {P R : α → Prop} {f : α → Option β} {Q : β → Prop} {x : α} {b : Bool}
theorem Ok.some (h : P x) : OkP (Option.some x) P := ⟨x, rfl, h⟩
theorem Ok.of (e1 : e = Option.some x) (h : P x) : OkP e P := ⟨x, e1, h⟩
theorem Ok.eq (h : OkP e fun y => y = x) : e = Option.some x := by
  obtain ⟨y, h1, rfl⟩ := h
  exact h1
theorem Ok.mono (h : OkP e P) (k : ∀ x, P x → R x) : OkP e R := let ⟨x, e, p⟩ := h; ⟨x, e, k x p⟩
theorem Ok.bind (h : OkP e P) (k : ∀ x, P x → OkP (f x) Q) : OkP (e.bind f) Q := by
  obtain ⟨x, rfl, p⟩ := h
  exact k x p
theorem Ok.bindE (h : e = Option.some x) (k : OkP (f x) Q) : OkP (e.bind f) Q := by
  rw [h]
  exact k
theorem Ok.ite {A C : Option α} (h1 : b = true → OkP A P) (h2 : b = false → OkP C P) : OkP (if b = true then A else C) P := by
  cases b with
  | true => exact h1 rfl
  | false => exact h2 rfl
theorem Ok.iteT {A C : Option α} (h : b = true) (h1 : OkP A P) : OkP (if b = true then A else C) P := by
  rw [if_pos h]
  exact h1
theorem Ok.iteF {A C : Option α} (h : b = false) (h1 : OkP C P) : OkP (if b = true then A else C) P := by
  rw [if_neg (by rw [h]; exact Bool.false_ne_true)]
  exact h1
/-- loops -/
theorem Ok.forI {f : α → β → Option (Ctl ρ β)} {xs : List α} {b0 : β} (I : Nat → β → Prop) (h0 : I 0 b0) (hs : ∀ i x b, xs[i]? = Option.some x → I i b → OkP (f x b) fun o => ∃ b', o = .go b' ∧ I (i + 1) b') :
    OkP (forO f xs b0) fun o => ∃ b, o = .go b ∧ I xs.length b := by
  induction xs generalizing b0 I with
  | nil => exact ⟨_, rfl, b0, rfl, h0⟩
  | cons x xs ih =>
    obtain ⟨o, e, b', rfl, h1⟩ := hs 0 x b0 rfl h0
    rw [forO, e]
    exact ih (fun i => I (i + 1)) h1 fun i y b hy hb => hs (i + 1) y b (by simpa using hy) hb
theorem Ok.forA {f : α → β → Option (Ctl ρ β)} {xs : List α} {b0 : β} (I : β → Prop) (h0 : I b0) (hs : ∀ x ∈ xs, ∀ b, I b → OkP (f x b) fun o => ∃ b', o = .go b' ∧ I b') : OkP (forO f xs b0) fun o => ∃ b, o = .go b ∧ I b :=
  Ok.forI (fun _ => I) h0 fun i x b hx hb => hs x (List.mem_of_getElem? hx) b hb
/-- a loop that only looks -/
theorem Ok.forU {f : α → Unit → Option (Ctl ρ Unit)} {xs : List α} (hs : ∀ x ∈ xs, OkP (f x ()) fun o => o = .go ()) : OkP (forO f xs ()) fun o => o = .go () :=
  Ok.mono
    (Ok.forA (fun _ => True) trivial fun x hx b _ => Ok.mono (hs x hx) fun o e => ⟨(), e, trivial⟩) fun o ⟨b, e, _⟩ => e
theorem Ok.foldI {f : α → β → Option β} {xs : List α} {b0 : β} (I : Nat → β → Prop) (h0 : I 0 b0) (hs : ∀ i x b, xs[i]? = Option.some x → I i b → OkP (f x b) (I (i + 1))) : OkP (foldO f xs b0) (I xs.length) := by
  induction xs generalizing b0 I with
  | nil => exact ⟨b0, rfl, h0⟩
  | cons x xs ih =>
    obtain ⟨b', e, h1⟩ := hs 0 x b0 rfl h0
    rw [foldO, e]
    exact ih (fun i => I (i + 1)) h1 fun i y b hy hb => hs (i + 1) y b (by simpa using hy) hb
theorem Ok.foldA {f : α → β → Option β} {xs : List α} {b0 : β} (I : β → Prop) (h0 : I b0) (hs : ∀ x ∈ xs, ∀ b, I b → OkP (f x b) I) : OkP (foldO f xs b0) I :=
  Ok.foldI (fun _ => I) h0 fun i x b hx hb => hs x (List.mem_of_getElem? hx) b hb
theorem Ok.whileI {f : β → Option (Ctl ρ β)} {b0 : β} {n : Nat} (I E : β → Prop) (μ : β → Nat) (h0 : I b0) (hn : μ b0 < n) (hs : ∀ b, I b → OkP (f b) fun o => (∃ b', o = .go b' ∧ I b' ∧ μ b' < μ b) ∨ ∃ b', o = .brk b' ∧ E b') :
    OkP (whileO f n b0) fun o => ∃ b, o = .go b ∧ E b := by
  induction n generalizing b0 with
  | zero => omega
  | succ n ih =>
    obtain ⟨o, e, h⟩ := hs b0 h0
    rw [whileO, e]
    rcases h with ⟨b', rfl, h1, h2⟩ | ⟨b', rfl, h1⟩
    · exact ih h1 (by omega)
    · exact ⟨_, rfl, b', rfl, h1⟩
theorem mapG_eq {f : α → Option γ} {g : α → γ} : ∀ {xs : List α}, (∀ x ∈ xs, f x = Option.some (g x)) → mapG f xs = Option.some (xs.map g)
  | [], _ => rfl
  | x :: xs, h => by
    rw [mapG, h x List.mem_cons_self, mapG_eq fun y hy => h y (List.mem_cons_of_mem _ hy)]
    rfl
theorem mapO_eq {f : α → Option γ} {g : α → γ} {xs : List α} (hz : xs.length ≤ sizeLine) (h : ∀ x ∈ xs, f x = Option.some (g x)) : mapO f xs = Option.some (xs.map g) := by
  rw [mapO, if_pos hz, mapG_eq h]
theorem cmpG_eq {f : α → Option (Option γ)} {g : α → γ} {p : α → Bool} : ∀ {xs : List α}, (∀ x ∈ xs, f x = Option.some (if p x = true then Option.some (g x) else none)) → cmpG f xs = Option.some ((xs.filter p).map g)
  | [], _ => rfl
  | x :: xs, h => by
    rw [cmpG, h x List.mem_cons_self, cmpG_eq fun y hy => h y (List.mem_cons_of_mem _ hy)]
    cases hp : p x
    · rw [List.filter_cons_of_neg (by rw [hp]; exact Bool.false_ne_true)]; rfl
    · rw [List.filter_cons_of_pos hp]; rfl
theorem cmpO_eq {f : α → Option (Option γ)} {g : α → γ} {p : α → Bool} {xs : List α} (hz : xs.length ≤ sizeLine) (h : ∀ x ∈ xs, f x = Option.some (if p x = true then Option.some (g x) else none)) : cmpO f xs = Option.some ((xs.filter p).map g) := by
  rw [cmpO, if_pos hz, cmpG_eq h]
theorem cmpG_none {f : α → Option (Option γ)} : ∀ {xs : List α}, (∀ x ∈ xs, f x = Option.some none) → cmpG f xs = Option.some []
  | [], _ => rfl
  | x :: xs, h => by
    rw [cmpG, h x List.mem_cons_self, cmpG_none fun y hy => h y (List.mem_cons_of_mem _ hy)]
    rfl
theorem cmpO_none {f : α → Option (Option γ)} {xs : List α} (hz : xs.length ≤ 16777216) (h : ∀ x ∈ xs, OkP (f x) fun o => o = none) : cmpO f xs = Option.some [] := by
  rw [cmpO, if_pos (show xs.length ≤ sizeLine from hz), cmpG_none fun x hx => Ok.eq (h x hx)]
theorem Ok.mapS {f : α → β → Option (γ × β)} {xs : List α} {b0 : β} (P : γ → Prop) (I : β → Prop) (hz : xs.length ≤ sizeLine) (h0 : I b0) (hs : ∀ x ∈ xs, ∀ b, I b → OkP (f x b) fun p => P p.1 ∧ I p.2) :
    OkP (mapSO f xs b0) fun r => r.1.length = xs.length ∧ (∀ y ∈ r.1, P y) ∧ I r.2 := by
  rw [mapSO, if_pos hz]
  clear hz
  induction xs generalizing b0 with
  | nil => exact ⟨_, rfl, rfl, (fun _ h => nomatch h), h0⟩
  | cons x xs ih =>
    obtain ⟨p, e, h1, h2⟩ := hs x List.mem_cons_self b0 h0
    obtain ⟨q, e2, h3, h4, h5⟩ := ih h2 fun y hy => hs y (List.mem_cons_of_mem _ hy)
    refine ⟨(p.1 :: q.1, q.2), ?_, ?_, ?_, h5⟩
    · rw [mapSG, e]
      show (mapSG f xs p.2).bind _ = _
      rw [e2]
      rfl
    · show q.1.length + 1 = xs.length + 1
      rw [h3]
    · intro y hy
      rcases List.mem_cons.mp hy with rfl | hy
      · exact h1
      · exact h4 y hy
end
theorem forO_go {α β ρ : Type} {f : α → β → Option (Ctl ρ β)} {x : α} {xs : List α} {b b' : β} (h : f x b = some (.go b')) : forO f (x :: xs) b = forO f xs b' := by rw [forO, h]
theorem forO_S {α β ρ : Type} {f : α → β → Option (Ctl ρ β)} {xs : List α} {b0 : β} (S : Nat → Option β) (r : ρ) (h0 : S 0 = some b0)
    (hs : ∀ i x b, xs[i]? = some x → S i = some b → f x b = some (match S (i + 1) with
      | some b' => .go b'
      | none => .ret r))
    (hm : ∀ i, i ≤ xs.length → S i = none → S xs.length = none) : forO f xs b0 = some (match S xs.length with
      | some b => .go b
      | none => .ret r) := by
  induction xs generalizing b0 S with
  | nil =>
    show some (Ctl.go b0) = _
    rw [show S ([] : List α).length = some b0 from h0]
  | cons x xs ih =>
    have h1 := hs 0 x b0 rfl h0
    rw [forO, h1]
    cases e : S (0 + 1) with
    | none =>
      rw [hm 1 (by simp) e]
    | some b' =>
      exact ih (fun i => S (i + 1)) e (fun i y b hy hb => hs (i + 1) y b (by simpa using hy) hb) (fun i hi h => hm (i + 1) (by simpa using hi) h)
/-! ### single words -/
section
variable {α : Type} {xs ys : List α} {i j : Int} {x : α}
theorem mulO_s (hi : i.natAbs < 2 ^ 250) (hj : j.natAbs < 2 ^ 250) : mulO i j = some (i * j) := if_pos (wide_mul hi hj (by decide) (by decide) (by decide))
theorem fdivO_s (h0 : 0 < j) (hj : j.natAbs < 2 ^ 250) : fdivO i j = some (i / j) := if_pos (wide_div (i := i) h0 hj (by decide) (by decide) : 0 < j ∧ j.natAbs.log2 < 9000)
theorem modO_s (h0 : 0 < j) : modO i j = some (i % j) := if_pos h0
theorem atI_of (h0 : 0 ≤ i) (h1 : i < xs.length) : ∃ x, atI xs i = some x ∧ xs[i.toNat]? = some x := by
  have hl : i.toNat < xs.length := by omega
  refine ⟨xs[i.toNat], ?_, List.getElem?_eq_getElem hl⟩
  have := atI_nat (xs := xs) (j := i.toNat) (List.getElem?_eq_getElem hl)
  rwa [Int.toNat_of_nonneg h0] at this
theorem atI_get {n : Nat} (h : xs[n]? = some x) (e : i = n) : atI xs i = some x := by rw [e]; exact atI_nat h
theorem atI_neg1 {n : Nat} (h : xs[n]? = some x) (hl : xs.length = n + 1) : atI xs (-1) = some x := by
  unfold atI ixN
  rw [if_neg (by decide), if_pos (by omega)]
  show xs[(-1 + (xs.length : Int)).toNat]? = _
  rw [show (-1 + (xs.length : Int)).toNat = n by omega]
  exact h
theorem atI_bnd {ns : List Int} {lo hi : Int} (h : ∀ n ∈ ns, lo ≤ n ∧ n ≤ hi) (h0 : 0 ≤ i) (h1 : i < ns.length) : OkP (atI ns i) fun x => lo ≤ x ∧ x ≤ hi := by
  obtain ⟨x, e, e2⟩ := atI_of h0 h1
  exact ⟨x, e, h x (List.mem_of_getElem? e2)⟩
theorem atI_mem (h0 : 0 ≤ i) (h1 : i < xs.length) : OkP (atI xs i) fun x => x ∈ xs := by
  obtain ⟨x, e, e2⟩ := atI_of h0 h1
  exact ⟨x, e, List.mem_of_getElem? e2⟩
theorem catO_s (h : xs.length + ys.length ≤ 16777216) : catO xs ys = some (xs ++ ys) := if_pos h
theorem appO_s (h : xs.length < 16777216) : appO xs x = some (xs ++ [x]) := if_pos h
theorem repO_1 (h0 : 0 ≤ i) (h1 : i ≤ 16777216) : repO [x] i = some (List.replicate i.toNat x) := by
  rw [repO, if_pos ⟨by omega, by omega, by show 1 * i.toNat ≤ 16777216; omega⟩, rep_one]
theorem setO_s {xs : List Int} {x : Int} (h0 : 0 ≤ i) (h1 : i < xs.length) : setO xs i x = some (xs.set i.toNat x) := by
  rw [setO, ixN_int h0 h1]
  rfl
theorem setO_g (h0 : 0 ≤ i) (h1 : i < xs.length) : setO xs i x = some (xs.set i.toNat x) := by
  rw [setO, ixN_int h0 h1]
  rfl
theorem range1_s (h0 : -4611686018427387904 ≤ j) (h1 : j < 4611686018427387904) : range1 j = some (rangeF 0 j.toNat) := if_pos ⟨by omega, by omega⟩
theorem range2_s (h0 : -4611686018427387904 ≤ i) (h1 : i < 4611686018427387904) (h2 : -4611686018427387904 ≤ j) (h3 : j < 4611686018427387904) : range2 i j = some (rangeF i (j - i).toNat) := if_pos ⟨⟨by omega, by omega⟩, by omega, by omega⟩
theorem rangeD_s (h0 : -4611686018427387904 ≤ i) (h1 : i < 4611686018427387904) (h2 : -4611686018427387904 ≤ j) (h3 : j < 4611686018427387904) : rangeD i j = some (rangeB i (i - j).toNat) := if_pos ⟨⟨by omega, by omega⟩, by omega, by omega⟩
theorem rangeL_s (h0 : -1000000 ≤ i) (h1 : i < 1000000) (h2 : -1000000 ≤ j) (h3 : j < 1000000) : rangeL i j = some (rangeF i (j - i).toNat) := if_pos ⟨⟨by omega, by omega⟩, ⟨by omega, by omega⟩, by omega⟩
theorem maxO_s {ns : List Int} (h : ns ≠ []) : maxO ns = some (mxI ns) := if_pos h
theorem minO_s {ns : List Int} (h : ns ≠ []) : minO ns = some (mnI ns) := if_pos h
theorem mem_rangeF {n : Nat} {lo x : Int} (h : x ∈ rangeF lo n) : lo ≤ x ∧ x < lo + n := by
  obtain ⟨i, hi⟩ := List.mem_iff_getElem?.mp h
  obtain ⟨h1, h2⟩ := rangeF_get _ _ _ _ hi
  omega
theorem rangeF_at {n i : Nat} {lo : Int} (h : i < n) : (rangeF lo n)[i]? = some (lo + i) := by
  have hl : i < (rangeF lo n).length := by rw [rangeF_len]; exact h
  rw [List.getElem?_eq_getElem hl, (rangeF_get _ _ _ _ (List.getElem?_eq_getElem hl)).2]
theorem sliceI_mid {xs : List Int} (h0 : 0 ≤ i) (h1 : i ≤ j) (h2 : j ≤ xs.length) : sliceI xs (some i) (some j) = (xs.drop i.toNat).take (j.toNat - i.toNat) := cutI_mid xs h0 h1 h2
theorem sliceI_from {xs : List Int} (h0 : 0 ≤ i) : sliceI xs (some i) none = xs.drop i.toNat := cutI_from xs h0
theorem sliceI_to {xs : List Int} (h0 : 0 ≤ i) : sliceI xs none (some i) = xs.take i.toNat := cutI_to xs h0
theorem sliceI_sub {lo hi : Option Int} : (sliceI xs lo hi).Sublist xs := (List.take_sublist _ _).trans (List.drop_sublist _ _)
end
theorem pick_ok {α : Type} (d : Bool) (e : α) : ((some d).bind fun r => if r = true then some (some e) else some none) = some (if d = true then some e else none) := by cases d <;> rfl
/-! ### texts, likeness of ints, lists of them -/
theorem reprO_ints {ns : List Int} (h : ∀ n ∈ ns, n.natAbs < 2 ^ 64) (hl : ns.length ≤ 3000) : reprO ns = some (txt ns) :=
  if_pos ⟨dI_showable h, dI_nodict ns, by show (dI ns).depth ≤ 60; rw [dI_depth]; decide, dI_shown h hl⟩
theorem eqO_ints (xs ys : List Int) : eqO xs ys = some (decide (xs = ys)) := by
  unfold eqO
  rw [if_pos ⟨shaped_ints xs, shaped_ints ys⟩]
  exact congrArg some (dI_eqv xs ys)
theorem isi_int (n : Int) : isiO n "int" = true := rfl
theorem isi_ib (n : Int) : isiO n "bool" = false := rfl
end PB

namespace PB
open PySem PySem.Spec PyProof.Rows L2
/-! ### tables, plainly -/
theorem tabI_atP {f : Nat → Int} {e : Nat} {i : Int} (h0 : 0 ≤ i) (h1 : i < e) : atI (tabI f e) i = some (f i.toNat) := by
  refine atI_get (n := i.toNat) ?_ (by omega)
  rw [tabI_get, if_pos (by omega)]
theorem atI_lastP {α : Type} {xs : List α} {x : α} : atI (xs ++ [x]) (-1) = some x := atI_last xs x
theorem tabI_lastP (f : Nat → Int) (e : Nat) : atI (tabI f (e + 1)) (-1) = some (f e) := by
  rw [← tabI_succ]
  exact atI_lastP
/-- a table of anything -/
def tabA {α : Type} (f : Nat → α) (e : Nat) : List α := (List.range e).map f
section
variable {α : Type}
theorem tabA_succ (f : Nat → α) (e : Nat) : tabA f e ++ [f e] = tabA f (e + 1) := by
  unfold tabA
  rw [List.range_succ, List.map_append]
  rfl
theorem tabA_len (f : Nat → α) (e : Nat) : (tabA f e).length = e := by
  unfold tabA
  rw [List.length_map, List.length_range]
theorem tabA_get (f : Nat → α) (e k : Nat) : (tabA f e)[k]? = if k < e then some (f k) else none := by
  unfold tabA
  rw [List.getElem?_map]
  by_cases h : k < e
  · rw [if_pos h, List.getElem?_range h]
    rfl
  · rw [if_neg h, List.getElem?_eq_none (by rw [List.length_range]; omega)]
    rfl
theorem tabA_at {f : Nat → α} {e : Nat} {i : Int} (h0 : 0 ≤ i) (h1 : i < e) : atI (tabA f e) i = some (f i.toNat) := by
  refine atI_get (n := i.toNat) ?_ (by omega)
  rw [tabA_get, if_pos (by omega)]
theorem tabA_last (f : Nat → α) (e : Nat) : atI (tabA f (e + 1)) (-1) = some (f e) := by
  rw [← tabA_succ]
  exact atI_lastP
theorem tabA_congr {f g : Nat → α} {e : Nat} (h : ∀ j, j < e → f j = g j) : tabA f e = tabA g e := by
  unfold tabA
  exact List.map_congr_left fun j hj => h j (List.mem_range.mp hj)
theorem tabA_const (c : α) (e : Nat) : List.replicate e c = tabA (fun _ => c) e := by
  refine List.ext_getElem? fun k => ?_
  rw [tabA_get, List.getElem?_replicate]
theorem tabA_set {f : Nat → α} {e i : Nat} {v : α} (h : i < e) : (tabA f e).set i v = tabA (fun j => if j = i then v else f j) e := by
  refine List.ext_getElem? fun k => ?_
  rw [tabA_get, List.getElem?_set, tabA_len, tabA_get]
  by_cases hk : i = k
  · subst hk
    rw [if_pos rfl, if_pos h, if_pos h, if_pos rfl]
  · rw [if_neg hk]
    split
    · rw [if_neg (fun e => hk e.symm)]
    · rfl
theorem tabA_map {β : Type} (f : Nat → α) (g : α → β) (e : Nat) : (tabA f e).map g = tabA (fun i => g (f i)) e := by
  unfold tabA
  rw [List.map_map]
  rfl
end
theorem tabI_A (f : Nat → Int) (e : Nat) : tabI f e = tabA f e := rfl
/-! ### ranges, sums -/
theorem rangeF_tab : ∀ (n : Nat) (lo : Int), rangeF lo n = tabA (fun i => lo + (i : Nat)) n := fun n lo => by
  refine List.ext_getElem? fun k => ?_
  rw [tabA_get]
  by_cases h : k < n
  · rw [rangeF_at h, if_pos h]
  · rw [if_neg h, List.getElem?_eq_none (by rw [rangeF_len]; omega)]
theorem rangeF_snoc (n : Nat) (lo : Int) : rangeF lo (n + 1) = rangeF lo n ++ [lo + (n : Nat)] := by
  rw [rangeF_tab, rangeF_tab, tabA_succ]
theorem sum_rangeF (g : Int → Int) (lo : Int) : ∀ n, ((rangeF lo n).map g).sum = sumN (fun i => g (lo + (i : Nat))) n
  | 0 => rfl
  | n + 1 => by
    rw [rangeF_snoc, List.map_append, List.sum_append, sum_rangeF g lo n]
    simp [sumN]
theorem sum_filterF (p : Int → Bool) (g : Int → Int) (lo : Int) : ∀ n, (((rangeF lo n).filter p).map g).sum = sumN (fun i => if p (lo + (i : Nat)) = true then g (lo + (i : Nat)) else 0) n
  | 0 => rfl
  | n + 1 => by
    rw [rangeF_snoc, List.filter_append, List.map_append, List.sum_append, sum_filterF p g lo n, sumN]
    by_cases h : p (lo + (n : Nat)) = true
    · simp [List.filter, h]
    · simp [List.filter, h]
theorem sumN_shift {f : Nat → Int} {c : Nat} (h : ∀ i, i < c → f i = 0) : ∀ m, sumN f (c + m) = sumN (fun i => f (c + i)) m
  | 0 => sumN_zero h
  | m + 1 => by
    rw [← Nat.add_assoc, sumN, sumN_shift h m, sumN]
theorem sumN_ext {f g : Nat → Int} {n m : Nat} (e : n = m) (h : ∀ i, i < m → f i = g i) : sumN f n = sumN g m := by
  subst e
  exact sumN_congr h
end PB

namespace PB
open PySem PySem.Spec PyProof.Rows L2
/-! ### data that can be told as texts -/
structure DOK (d : PyData) (dep w : Nat) : Prop where
  sh : d.showable = true
  nd : d.hasDict = false
  de : d.depth ≤ dep
  le : d.leavesShort 201 = true
  wt : d.weight ≤ w
theorem DOK.int {i : Int} (h : i.natAbs < 2 ^ 200) : DOK (.int i) 0 200 := by
  have h3 : i.natAbs.log2 < 200 := PySem.Flt.log2_lt_of (by decide) h
  have h1 : (toString i).length ≤ 200 + 1 := int_text_length_le (by decide) h3
  refine ⟨?_, by simp [PyData.hasDict], by simp [PyData.depth], ?_, ?_⟩
  · rw [PyData.showable, decide_eq_true_eq]
    omega
  · rw [PyData.leavesShort, decide_eq_true_eq]
    show (Str.ofString (toString i)).length ≤ 201
    rw [PySem.ofString_length]
    exact h1
  · rw [PyData.weight]
    split <;> omega
theorem DOK.none : DOK .none 0 0 := ⟨by simp [PyData.showable], by simp [PyData.hasDict], by simp [PyData.depth], by simp [PyData.leavesShort], by simp [PyData.weight]⟩
theorem DOK.bool (b : Bool) : DOK (.bool b) 0 0 := ⟨by simp [PyData.showable], by simp [PyData.hasDict], by simp [PyData.depth], by simp [PyData.leavesShort], by simp [PyData.weight]⟩
theorem DOK.mono {d : PyData} {p q w u : Nat} (h : DOK d p w) (h1 : p ≤ q) (h2 : w ≤ u) : DOK d q u := ⟨h.sh, h.nd, Nat.le_trans h.de h1, h.le, Nat.le_trans h.wt h2⟩
theorem dok_all {dep w : Nat} : ∀ {ds : List PyData}, (∀ d ∈ ds, DOK d dep w) → PyData.showableAll ds = true ∧ PyData.hasDictAll ds = false ∧ PyData.depthAll ds ≤ dep ∧ PyData.leavesShortAll 201 ds = true ∧ PyData.weightAll ds ≤ ds.length * (w + 1)
  | [], _ => ⟨by simp [PyData.showableAll], by simp [PyData.hasDictAll], by simp [PyData.depthAll], by simp [PyData.leavesShortAll], by simp [PyData.weightAll]⟩
  | d :: ds, h => by
    obtain ⟨h1, h2, h3, h4, h5⟩ := dok_all fun x hx => h x (List.mem_cons_of_mem _ hx)
    have hd := h d List.mem_cons_self
    refine ⟨by rw [PyData.showableAll, hd.sh, h1]; rfl, by rw [PyData.hasDictAll, hd.nd, h2]; rfl, by rw [PyData.depthAll]; have := hd.de; omega, by rw [PyData.leavesShortAll, hd.le, h4]; rfl, ?_⟩
    rw [PyData.weightAll, List.length_cons, Nat.add_mul]
    have := hd.wt
    omega
theorem DOK.list {dep w n : Nat} {ds : List PyData} (h : ∀ d ∈ ds, DOK d dep w) (hl : ds.length ≤ n) : DOK (.list ds) (dep + 1) (n * (w + 1)) := by
  obtain ⟨h1, h2, h3, h4, h5⟩ := dok_all h
  exact ⟨by rw [PyData.showable]; exact h1, by rw [PyData.hasDict]; exact h2, by rw [PyData.depth]; omega, by rw [PyData.leavesShort]; exact h4, by rw [PyData.weight]; exact Nat.le_trans h5 (Nat.mul_le_mul_right _ hl)⟩
theorem DOK.tup {dep w n : Nat} {ds : List PyData} (h : ∀ d ∈ ds, DOK d dep w) (hl : ds.length ≤ n) : DOK (.tuple ds) (dep + 1) (n * (w + 1)) := by
  obtain ⟨h1, h2, h3, h4, h5⟩ := dok_all h
  exact ⟨by rw [PyData.showable]; exact h1, by rw [PyData.hasDict]; exact h2, by rw [PyData.depth]; omega, by rw [PyData.leavesShort]; exact h4, by rw [PyData.weight]; exact Nat.le_trans h5 (Nat.mul_le_mul_right _ hl)⟩
theorem DOK.ints {ns : List Int} {n : Nat} (h : ∀ x ∈ ns, x.natAbs < 2 ^ 200) (hl : ns.length ≤ n) : DOK (RpD.d ns) 1 (n * 201) :=
  DOK.list (fun d hd => by obtain ⟨x, hx, rfl⟩ := List.mem_map.mp hd; exact DOK.int (h x hx)) (by rw [List.length_map]; exact hl)
theorem DOK.pair {α β : Type} [Rp α] [Rp β] [RpD α] [RpD β] {x : α} {y : β} {dep w : Nat} (h : DOK (RpD.d x) dep w) (h' : DOK (RpD.d y) dep w) : DOK (RpD.d (x, y)) (dep + 1) (2 * (w + 1)) :=
  DOK.tup (ds := [RpD.d x, RpD.d y]) (fun d hd => by simp at hd; rcases hd with rfl | rfl; exact h; exact h') (Nat.le_refl _)
theorem DOK.tri {α β γ : Type} [Rp α] [Rp β] [Rp γ] [RpD α] [RpD β] [RpD γ] {x : T3 α β γ} {dep w : Nat} (h : DOK (RpD.d x.a) dep w) (h' : DOK (RpD.d x.b) dep w) (h'' : DOK (RpD.d x.c) dep w) : DOK (RpD.d x) (dep + 1) (3 * (w + 1)) :=
  DOK.tup (ds := [RpD.d x.a, RpD.d x.b, RpD.d x.c]) (fun d hd => by simp at hd; rcases hd with rfl | rfl | rfl; exact h; exact h'; exact h'') (Nat.le_refl _)
theorem reprO_d {α : Type} [Rp α] [RpD α] {x : α} {dep w : Nat} (h : DOK (RpD.d x) dep w) (h1 : dep ≤ 60) (h2 : w ≤ 80000) : reprO x = some (RpD.d x).shown := by
  have h3 := PyData.shown_le 201 (by decide) (RpD.d x) h.le
  have := h.wt
  refine if_pos ⟨h.sh, h.nd, Nat.le_trans h.de h1, ?_⟩
  have h4 : (201 + 2) * (RpD.d x).weight ≤ 203 * 80000 := Nat.mul_le_mul_left _ (Nat.le_trans this h2)
  rw [sizeLine_eq]
  omega
/-! ### likeness -/
class RpE (α : Type) [Rp α] [RpD α] [DecidableEq α] where
  k : Nat
  hk : k ≤ 20
  eqv : ∀ x y : α, PyData.eqv (RpD.d x) (RpD.d y) = decide (x = y)
  lay : ∀ x : α, (RpD.d x).canLay0 = true
  dep : ∀ x : α, (RpD.d x).depth ≤ k
class RpNN (α : Type) [Rp α] [RpD α] : Prop where
  l : ∀ x : α, PyData.eqv .none (RpD.d x) = false
  r : ∀ x : α, PyData.eqv (RpD.d x) .none = false
instance : RpNN Int := ⟨fun x => by simp [RpD.d, PyData.eqv], fun x => by simp [RpD.d, PyData.eqv]⟩
instance : RpNN Bool := ⟨fun x => by simp [RpD.d, PyData.eqv], fun x => by simp [RpD.d, PyData.eqv]⟩
section
variable {α β γ : Type} [Rp α] [Rp β] [Rp γ] [RpD α] [RpD β] [RpD γ] [DecidableEq α] [DecidableEq β] [DecidableEq γ]
instance : RpNN (List α) := ⟨fun x => by simp [RpD.d, PyData.eqv], fun x => by simp [RpD.d, PyData.eqv]⟩
instance : RpNN (α × β) := ⟨fun x => by simp [RpD.d, PyData.eqv], fun x => by simp [RpD.d, PyData.eqv]⟩
instance : RpNN (T3 α β γ) := ⟨fun x => by simp [RpD.d, PyData.eqv], fun x => by simp [RpD.d, PyData.eqv]⟩
instance : RpE Int := ⟨0, by decide, fun x y => by simp [RpD.d, PyData.eqv]; rfl, fun x => by simp [RpD.d, PyData.canLay0], fun x => by simp [RpD.d, PyData.depth]⟩
instance : RpE Bool := ⟨0, by decide, fun x y => by cases x <;> cases y <;> simp [RpD.d, PyData.eqv], fun x => by simp [RpD.d, PyData.canLay0], fun x => by simp [RpD.d, PyData.depth]⟩
instance : RpE Unit := ⟨0, by decide, fun x y => by simp [RpD.d, PyData.eqv], fun x => by simp [RpD.d, PyData.canLay0], fun x => by simp [RpD.d, PyData.depth]⟩
instance [RpE α] [RpNN α] : RpE (Option α) := ⟨RpE.k α, RpE.hk, fun x y => by
    cases x with
    | none => cases y with
      | none => simp [RpD.d, PyData.eqv]
      | some y => exact (RpNN.l y).trans (by simp)
    | some x => cases y with
      | none => exact (RpNN.r x).trans (by simp)
      | some y => exact (RpE.eqv x y).trans (by simp), fun x => by
    cases x with
    | none => simp [RpD.d, PyData.canLay0]
    | some x => exact RpE.lay x, fun x => by
    cases x with
    | none => simp [RpD.d, PyData.depth]
    | some x => exact RpE.dep x⟩
theorem eqvAll_E [RpE α] : ∀ xs ys : List α, PyData.eqvAll (xs.map RpD.d) (ys.map RpD.d) = decide (xs = ys)
  | [], [] => by simp [PyData.eqvAll]
  | [], _ :: _ => by simp [PyData.eqvAll]
  | _ :: _, [] => by simp [PyData.eqvAll]
  | x :: xs, y :: ys => by
    rw [List.map_cons, List.map_cons, PyData.eqvAll, RpE.eqv, eqvAll_E xs ys]
    by_cases h : x = y <;> by_cases h2 : xs = ys <;> simp [h, h2]
theorem layAll_E [RpE α] : ∀ xs : List α, PyData.canLayAll0 (xs.map RpD.d) = true
  | [] => by simp [PyData.canLayAll0]
  | x :: xs => by rw [List.map_cons, PyData.canLayAll0, RpE.lay, layAll_E xs]; rfl
theorem depAll_E [RpE α] : ∀ xs : List α, PyData.depthAll (xs.map RpD.d) ≤ RpE.k α
  | [] => by simp [PyData.depthAll]
  | x :: xs => by
    rw [List.map_cons, PyData.depthAll]
    have := RpE.dep x
    have := depAll_E xs
    omega
class Low (α : Type) [Rp α] [RpD α] [DecidableEq α] [RpE α] : Prop where
  h : RpE.k α < 20
instance [RpE α] [Low α] : RpE (List α) := ⟨RpE.k α + 1, Low.h, fun xs ys => by
    show PyData.eqv (.list _) (.list _) = _
    rw [PyData.eqv, eqvAll_E], fun xs => by
    show PyData.canLay0 (.list _) = _
    rw [PyData.canLay0, layAll_E], fun xs => by
    show PyData.depth (.list _) ≤ _
    rw [PyData.depth]
    have := depAll_E xs
    omega⟩
instance [RpE α] [RpE β] [Low α] [Low β] : RpE (α × β) := ⟨max (RpE.k α) (RpE.k β) + 1, by have := Low.h (α := α); have := Low.h (α := β); omega, fun x y => by
    show PyData.eqv (.tuple _) (.tuple _) = _
    rw [PyData.eqv]
    simp only [PyData.eqvAll, RpE.eqv]
    cases x; cases y
    simp [Prod.ext_iff, Bool.decide_and], fun x => by
    show PyData.canLay0 (.tuple _) = _
    rw [PyData.canLay0]
    simp only [PyData.canLayAll0, RpE.lay, Bool.and_self], fun x => by
    show PyData.depth (.tuple _) ≤ _
    rw [PyData.depth]
    simp only [PyData.depthAll]
    have := RpE.dep x.1
    have := RpE.dep x.2
    omega⟩
end
instance : Low Int := ⟨by decide⟩
instance : Low Bool := ⟨by decide⟩
instance : Low (Option Int) := ⟨by decide⟩
instance : Low (List Int) := ⟨by decide⟩
instance : Low (List (List Int)) := ⟨by decide⟩
instance : Low (List (Option Int)) := ⟨by decide⟩
instance : Low (Option (List Int)) := ⟨by decide⟩
theorem eqO_E {α : Type} [Rp α] [RpD α] [DecidableEq α] [RpE α] (x y : α) : eqO x y = some (decide (x = y)) := by
  have hs : ∀ z : α, SeqAt.shaped (RpD.d z) = true := fun z => by
    unfold SeqAt.shaped
    rw [RpE.lay, Bool.true_and, decide_eq_true_eq]
    have := RpE.dep z
    have := RpE.hk (α := α)
    omega
  rw [eqO, if_pos ⟨hs x, hs y⟩, RpE.eqv]
/-- a value beside one that may be none -/
theorem eqO_so {α β : Type} [Rp α] [RpD α] [Rp β] [RpD β] (x : α) (y : β) : eqO (some x) y = eqO x y := rfl
theorem eqO_os {α β : Type} [Rp α] [RpD α] [Rp β] [RpD β] (x : α) (y : β) : eqO x (some y) = eqO x y := rfl
end PB

namespace PB
open PySem PySem.Spec PyProof.Rows L2
/-! ### ways of k pieces from one place to another -/
def path (R : Nat → Nat → Prop) : Nat → Nat → Nat → Prop
  | 0, p, q => p = q
  | k + 1, p, q => ∃ e, p < e ∧ e ≤ q ∧ R p e ∧ path R k e q
section
variable {R R' : Nat → Nat → Prop} {k p q n : Nat}
theorem path_le : ∀ {k p : Nat}, path R k p q → p + k ≤ q
  | 0, p, h => by
    have : p = q := h
    omega
  | k + 1, p, ⟨e, h1, _, _, h4⟩ => by
    have := path_le h4
    omega
theorem path_mono (hR : ∀ x y, p ≤ x → x < y → y ≤ q → R x y → R' x y) : ∀ {k : Nat} {p' : Nat}, p ≤ p' → path R k p' q → path R' k p' q
  | 0, _, _, h => h
  | k + 1, p', hp, ⟨e, h1, h2, h3, h4⟩ => ⟨e, h1, h2, hR _ _ hp h1 h2 h3, path_mono hR (by omega) h4⟩
theorem path_snoc : ∀ {k p : Nat}, path R (k + 1) p q ↔ ∃ m, path R k p m ∧ m < q ∧ R m q
  | 0, p => by
    constructor
    · rintro ⟨e, h1, h2, h3, h4⟩
      have h4 : e = q := h4
      subst h4
      exact ⟨p, rfl, h1, h3⟩
    · rintro ⟨m, h1, h2, h3⟩
      have h1 : p = m := h1
      subst h1
      exact ⟨q, h2, Nat.le_refl _, h3, rfl⟩
  | k + 1, p => by
    constructor
    · rintro ⟨e, h1, h2, h3, h4⟩
      obtain ⟨m, h5, h6, h7⟩ := path_snoc.mp h4
      have := path_le h5
      exact ⟨m, ⟨e, h1, by omega, h3, h5⟩, h6, h7⟩
    · rintro ⟨m, ⟨e, h1, h2, h3, h4⟩, h6, h7⟩
      exact ⟨e, h1, by omega, h3, path_snoc.mpr ⟨m, h4, h6, h7⟩⟩
theorem path_one : path R 1 p q ↔ p < q ∧ R p q := by
  rw [path_snoc]
  constructor
  · rintro ⟨m, h1, h2, h3⟩
    have h1 : p = m := h1
    subst h1
    exact ⟨h2, h3⟩
  · rintro ⟨h1, h2⟩
    exact ⟨p, rfl, h1, h2⟩
theorem path_shift (c : Nat) : ∀ {k p : Nat}, path (fun x y => R (c + x) (c + y)) k p q ↔ path R k (c + p) (c + q)
  | 0, p => by
    show p = q ↔ c + p = c + q
    omega
  | k + 1, p => by
    constructor
    · rintro ⟨e, h1, h2, h3, h4⟩
      exact ⟨c + e, by omega, by omega, h3, (path_shift c).mp h4⟩
    · rintro ⟨e, h1, h2, h3, h4⟩
      obtain ⟨e', rfl⟩ : ∃ e', e = c + e' := ⟨e - c, by omega⟩
      exact ⟨e', by omega, by omega, h3, (path_shift c).mpr h4⟩
/-- every number a piece -/
theorem path_all (h : ∀ i, p ≤ i → i < q → R i (i + 1)) : p ≤ q → path R (q - p) p q := by
  intro hpq
  obtain ⟨d, rfl⟩ : ∃ d, q = p + d := ⟨q - p, by omega⟩
  rw [show p + d - p = d by omega]
  induction d generalizing p with
  | zero => rfl
  | succ d ih => exact ⟨p + 1, by omega, by omega, h p (by omega) (by omega), by
      have := ih (p := p + 1) (fun i h1 h2 => h i (by omega) (by omega)) (by omega)
      rwa [show p + 1 + d = p + (d + 1) by omega] at this⟩
end
/-- sums of at most b; of at least b -/
def RLe (a : Nat → Int) (b : Int) (p e : Nat) : Prop := pre a e - pre a p ≤ b
def RGe (a : Nat → Int) (b : Int) (p e : Nat) : Prop := b ≤ pre a e - pre a p
section
variable {a : Nat → Int} {b : Int} {n : Nat} {k p q : Nat}
/-- one piece more -/
theorem path_split (hn : ∀ i, i < n → 0 ≤ a i) : ∀ {k p q : Nat}, path (RLe a b) k p q → k < q - p → q ≤ n → p < q → 1 ≤ k → path (RLe a b) (k + 1) p q
  | 0, _, _, _, _, _, _, hk => by omega
  | k + 1, p, q, ⟨e, h1, h2, h3, h4⟩, hk, hq, hpq, _ => by
    by_cases hke : k < q - e ∧ 1 ≤ k
    · exact ⟨e, h1, h2, h3, path_split hn h4 hke.1 hq (by omega) hke.2⟩
    · have hle := path_le h4
      have hep : p + 1 < e := by
        rcases Nat.eq_zero_or_pos k with rfl | hk0
        · have h4 : e = q := h4
          omega
        · omega
      have m1 := pre_mono hn (show p + 1 ≤ e by omega) (by omega)
      have m2 := pre_mono hn (show p ≤ p + 1 by omega) (by omega)
      exact ⟨p + 1, by omega, by omega, by unfold RLe at *; omega, e, by omega, h2, by unfold RLe at *; omega, h4⟩
theorem path_more (hn : ∀ i, i < n → 0 ≤ a i) (h : path (RLe a b) k p q) (hq : q ≤ n) (hk : 1 ≤ k) : ∀ {m : Nat}, k ≤ m → m ≤ q - p → path (RLe a b) m p q := by
  intro m hkm
  have hle := path_le h
  induction hkm with
  | refl => exact fun _ => h
  | @step m hm ih =>
    intro hm2
    have hk' : k ≤ m := hm
    exact path_split hn (ih (by omega)) (by omega) hq (by omega) (by omega)
/-- one piece fewer -/
theorem path_merge (hn : ∀ i, i < n → 0 ≤ a i) (hq : q ≤ n) : path (RGe a b) (k + 2) p q → path (RGe a b) (k + 1) p q := by
  rintro ⟨e, h1, h2, h3, f, h4, h5, h6, h7⟩
  have m1 := pre_mono hn (show p ≤ e by omega) (by omega)
  have m2 := pre_mono hn (show e ≤ f by omega) (by omega)
  have := path_le h7
  exact ⟨f, by omega, by omega, by unfold RGe at *; omega, h7⟩
theorem path_fewer (hn : ∀ i, i < n → 0 ≤ a i) (hq : q ≤ n) (h : path (RGe a b) k p q) : ∀ {m : Nat}, m ≤ k → 1 ≤ m → path (RGe a b) m p q := by
  induction k generalizing p with
  | zero => intro m h1 h2; omega
  | succ k ih =>
    intro m h1 h2
    rcases Nat.lt_or_ge k m with h3 | h3
    · have : m = k + 1 := by omega
      rw [this]
      exact h
    · cases k with
      | zero => omega
      | succ k => exact ih (path_merge hn hq h) h3 h2
/-- the fewest pieces, as counted -/
theorem few_path (hn : ∀ i, i < n → 0 ≤ a i) : ∀ e, e ≤ n → (∀ m, fewS a b e = some m → 0 ≤ m ∧ path (RLe a b) m.toNat 0 e) ∧ ∀ k, path (RLe a b) k 0 e → ∃ m : Int, fewS a b e = some m ∧ m ≤ k := by
  intro e
  induction e using Nat.strongRecOn with
  | _ e ih =>
    intro he
    cases e with
    | zero =>
      refine ⟨fun m hm => ?_, fun k hk => ⟨0, rfl, by omega⟩⟩
      cases (show some (0 : Int) = some m from hm)
      exact ⟨by decide, rfl⟩
    | succ e =>
      obtain ⟨f1, f2⟩ := fewS_next (b := b) hn he
      refine ⟨fun m hm => ?_, fun k hk => ?_⟩
      · obtain ⟨⟨j, k, hj, hjb, hk, rfl⟩, _⟩ := f1 m hm
        obtain ⟨g1, g2⟩ := (ih j hj (by omega)).1 k hk
        refine ⟨by omega, ?_⟩
        rw [show (k + 1).toNat = k.toNat + 1 by omega]
        exact path_snoc.mpr ⟨j, g2, hj, hjb⟩
      · cases k with
        | zero => cases (show 0 = e + 1 from hk)
        | succ k =>
          obtain ⟨m, h1, h2, h3⟩ := path_snoc.mp hk
          obtain ⟨c, hc, hck⟩ := (ih m h2 (by omega)).2 k h1
          cases hf : fewS a b (e + 1) with
          | none => exact (f2 hf m c h2 h3 hc).elim
          | some c' =>
            have := (f1 c' hf).2 m c h2 h3 hc
            exact ⟨c', rfl, by omega⟩
theorem few_iff (hn : ∀ i, i < n → 0 ≤ a i) (h1 : 1 ≤ k) (hk : k ≤ n) : path (RLe a b) k 0 n ↔ ∃ m : Int, fewS a b n = some m ∧ m ≤ k := by
  constructor
  · exact (few_path hn n (Nat.le_refl _)).2 k
  · rintro ⟨m, hm, hmk⟩
    obtain ⟨h0, h2⟩ := (few_path hn n (Nat.le_refl _)).1 m hm
    have : 1 ≤ m.toNat := by
      rcases Nat.eq_zero_or_pos m.toNat with h | h
      · rw [h] at h2
        have h2 : 0 = n := h2
        omega
      · omega
    exact path_more hn h2 (Nat.le_refl _) this (by omega) (by omega)
theorem RLe_sh (c : Nat) : (fun x y => RLe a b (c + x) (c + y)) = RLe (sh a c) b := by
  funext x y
  unfold RLe
  rw [pre_sh, pre_sh]
  apply propext
  constructor <;> intro h <;> omega
theorem RGe_sh (c : Nat) : (fun x y => RGe a b (c + x) (c + y)) = RGe (sh a c) b := by
  funext x y
  unfold RGe
  rw [pre_sh, pre_sh]
  apply propext
  constructor <;> intro h <;> omega
theorem few_iff_sh (hn : ∀ i, i < n → 0 ≤ a i) {c : Nat} (h1 : 1 ≤ k) (hk : c + k ≤ n) : path (RLe a b) k c n ↔ ∃ m : Int, fewS (sh a c) b (n - c) = some m ∧ m ≤ k := by
  rw [← few_iff (a := sh a c) (n := n - c) (fun i hi => hn _ (by omega)) h1 (by omega), ← RLe_sh, path_shift, Nat.add_zero, show c + (n - c) = n by omega]
theorem rowF_drop (ns : List Int) (c : Nat) : rowF (ns.drop c) = sh (rowF ns) c := by
  funext i
  show (ns.drop c)[i]! = ns[c + i]!
  rw [List.getElem!_eq_getElem?_getD, List.getElem!_eq_getElem?_getD, List.getElem?_drop]
/-! ### the first cut, as lists are ordered -/
/-- the first way of k pieces from p to n, by where its pieces after the first begin -/
def First (R : Nat → Nat → Prop) (n : Nat) : Nat → Nat → List Int → Prop
  | 0, _, _ => False
  | 1, _, c => c = []
  | k + 2, p, c => ∃ (e : Nat) (c' : List Int), c = (e : Int) :: c' ∧ p < e ∧ e ≤ n ∧ R p e ∧ path R (k + 1) e n ∧ (∀ e', p < e' → e' < e → ¬ (R p e' ∧ path R (k + 1) e' n)) ∧ First R n (k + 1) e c'
theorem First.uniq {R : Nat → Nat → Prop} : ∀ {k p : Nat} {c d : List Int}, First R n k p c → First R n k p d → c = d
  | 0, _, _, _, h, _ => h.elim
  | 1, _, c, d, h, h2 => by rw [show c = [] from h, show d = [] from h2]
  | k + 2, p, c, d, hc, hd => by
    obtain ⟨e, c', rfl, h1, h2, h3, h4, h5, h6⟩ := hc
    obtain ⟨f, d', rfl, g1, g2, g3, g4, g5, g6⟩ := hd
    have : e = f := by
      rcases Nat.lt_trichotomy e f with h | h | h
      · exact (g5 e h1 h ⟨h3, h4⟩).elim
      · exact h
      · exact (h5 f g1 h ⟨g3, g4⟩).elim
    subst this
    rw [First.uniq h6 g6]
theorem First.mem {R : Nat → Nat → Prop} : ∀ {k p : Nat} {c : List Int}, First R n k p c → c.length + 1 = k ∧ ∀ x ∈ c, (p : Int) < x ∧ x ≤ n
  | 0, _, _, h => h.elim
  | 1, _, c, h => by
    rw [show c = [] from h]
    exact ⟨rfl, fun _ h => nomatch h⟩
  | k + 2, p, c, hc => by
    obtain ⟨e, c', rfl, h1, h2, h3, h4, h5, h6⟩ := hc
    obtain ⟨g1, g2⟩ := First.mem h6
    refine ⟨by rw [List.length_cons, g1], fun x hx => ?_⟩
    rcases List.mem_cons.mp hx with rfl | hx
    · omega
    · have := g2 x hx
      omega
end
end PB

namespace PB
open PySem PySem.Spec PyProof.Rows L2
/-! ### a cut of the stretch from p to n, its pieces such that R -/
def Ct (R : Nat → Nat → Prop) (n : Nat) : Nat → List Int → Prop
  | p, [] => p < n ∧ R p n
  | p, x :: c => ∃ e : Nat, x = (e : Int) ∧ p < e ∧ e < n ∧ R p e ∧ Ct R n e c
def Any (_ _ : Nat) : Prop := True
def sumsC (a : Nat → Int) (n : Nat) : Nat → List Int → List Int
  | p, [] => [pre a n - pre a p]
  | p, x :: c => (pre a x.toNat - pre a p) :: sumsC a n x.toNat c
section
variable {R R' : Nat → Nat → Prop} {n k : Nat} {a : Nat → Int} {b : Int}
theorem Ct.lt : ∀ {c : List Int} {p : Nat}, Ct R n p c → p < n
  | [], _, h => h.1
  | _ :: _, _, h => by
    obtain ⟨e, rfl, h1, h2, _⟩ := h
    omega
theorem Ct.mono (h : ∀ x y, x < y → y ≤ n → R x y → R' x y) : ∀ {c : List Int} {p : Nat}, Ct R n p c → Ct R' n p c
  | [], p, ⟨h1, h2⟩ => ⟨h1, h _ _ h1 (Nat.le_refl _) h2⟩
  | x :: c, p, hc => by
    obtain ⟨e, rfl, h1, h2, h3, h4⟩ := hc
    exact ⟨e, rfl, h1, h2, h _ _ h1 (by omega) h3, Ct.mono h h4⟩
theorem Ct.any {c : List Int} {p : Nat} (h : Ct R n p c) : Ct Any n p c := h.mono fun _ _ _ _ _ => trivial
theorem Ct.path : ∀ {c : List Int} {p : Nat}, Ct R n p c → path R (c.length + 1) p n
  | [], p, ⟨h1, h2⟩ => path_one.mpr ⟨h1, h2⟩
  | x :: c, p, hc => by
    obtain ⟨e, rfl, h1, h2, h3, h4⟩ := hc
    exact ⟨e, h1, by omega, h3, h4.path⟩
theorem Ct.of_path : ∀ {k p : Nat}, PB.path R (k + 1) p n → ∃ c : List Int, c.length = k ∧ Ct R n p c
  | 0, p, h => ⟨[], rfl, path_one.mp h⟩
  | k + 1, p, ⟨e, h1, h2, h3, h4⟩ => by
    obtain ⟨c, h5, h6⟩ := Ct.of_path h4
    exact ⟨(e : Int) :: c, by rw [List.length_cons, h5], e, rfl, h1, h6.lt, h3, h6⟩
theorem Ct.of_first : ∀ {k p : Nat} {c : List Int}, First R n k p c → PB.path R k p n → Ct R n p c
  | 0, _, _, h, _ => h.elim
  | 1, p, c, h, hp => by
    rw [show c = [] from h]
    exact path_one.mp hp
  | k + 2, p, c, h, _ => by
    obtain ⟨e, c', rfl, h1, h2, h3, h4, h5, h6⟩ := h
    have hl := path_le h4
    exact ⟨e, rfl, h1, by omega, h3, Ct.of_first h6 h4⟩
theorem Ct.mem : ∀ {c : List Int} {p : Nat}, Ct R n p c → ∀ x ∈ c, (p : Int) < x ∧ x < n
  | [], _, _ => fun _ h => nomatch h
  | x :: c, p, hc => by
    obtain ⟨e, rfl, h1, h2, h3, h4⟩ := hc
    intro y hy
    rcases List.mem_cons.mp hy with rfl | hy
    · omega
    · have := h4.mem y hy
      omega
theorem Ct.len {c : List Int} {p : Nat} (h : Ct R n p c) : p + c.length + 1 ≤ n := by
  have := path_le h.path
  omega
theorem sumsC_len : ∀ (c : List Int) (p : Nat), (sumsC a n p c).length = c.length + 1
  | [], _ => rfl
  | x :: c, p => congrArg (· + 1) (sumsC_len c x.toNat)
theorem sumsC_sum : ∀ (c : List Int) (p : Nat), (sumsC a n p c).sum = pre a n - pre a p
  | [], p => by simp [sumsC]
  | x :: c, p => by
    rw [sumsC, List.sum_cons, sumsC_sum c x.toNat]
    omega
/-- by the sums -/
theorem Ct.sums {P : Int → Prop} : ∀ {c : List Int} {p : Nat}, Ct (fun p e => P (pre a e - pre a p)) n p c ↔ Ct Any n p c ∧ ∀ s ∈ sumsC a n p c, P s
  | [], p => by
    constructor
    · rintro ⟨h1, h2⟩
      exact ⟨⟨h1, trivial⟩, fun s hs => by rw [List.mem_singleton.mp hs]; exact h2⟩
    · rintro ⟨⟨h1, _⟩, h2⟩
      exact ⟨h1, h2 _ (List.mem_singleton.mpr rfl)⟩
  | x :: c, p => by
    constructor
    · rintro ⟨e, rfl, h1, h2, h3, h4⟩
      obtain ⟨g1, g2⟩ := (Ct.sums (c := c) (p := e)).mp h4
      refine ⟨⟨e, rfl, h1, h2, trivial, g1⟩, fun s hs => ?_⟩
      rw [sumsC, Int.toNat_natCast] at hs
      rcases List.mem_cons.mp hs with rfl | hs
      · exact h3
      · exact g2 s hs
    · rintro ⟨⟨e, rfl, h1, h2, _, h4⟩, h5⟩
      rw [sumsC, Int.toNat_natCast] at h5
      exact ⟨e, rfl, h1, h2, h5 _ List.mem_cons_self, (Ct.sums (c := c) (p := e)).mpr ⟨h4, fun s hs => h5 s (List.mem_cons_of_mem _ hs)⟩⟩
theorem Ct.snoc : ∀ {c : List Int} {p m : Nat}, Ct R m p c → m < n → R m n → Ct R n p (c ++ [(m : Int)])
  | [], p, m, ⟨h1, h2⟩, hm, hR => ⟨m, rfl, h1, hm, h2, hm, hR⟩
  | x :: c, p, m, hc, hm, hR => by
    obtain ⟨e, rfl, h1, h2, h3, h4⟩ := hc
    exact ⟨e, rfl, h1, by omega, h3, h4.snoc hm hR⟩
theorem Ct.stretch (h : ∀ x, x < n → R x n → R x (n + 1)) : ∀ {c : List Int} {p : Nat}, Ct R n p c → Ct R (n + 1) p c
  | [], p, ⟨h1, h2⟩ => ⟨by omega, h p h1 h2⟩
  | x :: c, p, hc => by
    obtain ⟨e, rfl, h1, h2, h3, h4⟩ := hc
    exact ⟨e, rfl, h1, by omega, h3, h4.stretch h⟩
/-- the last piece begins at -/
def lastC : Nat → List Int → Nat
  | p, [] => p
  | _, x :: c => lastC x.toNat c
theorem lastC_snoc : ∀ (c : List Int) (p m : Nat), lastC p (c ++ [(m : Int)]) = m
  | [], _, m => by simp [lastC]
  | x :: c, p, m => lastC_snoc c x.toNat m
theorem Ct.last_to (m : Nat) (hm : n ≤ m) : ∀ {c : List Int} {p : Nat}, Ct R n p c → R (lastC p c) m → Ct R m p c
  | [], p, h, h2 => ⟨by have := h.1; omega, h2⟩
  | x :: c, p, hc, h2 => by
    obtain ⟨e, rfl, h1, h3, h4, h5⟩ := hc
    exact ⟨e, rfl, h1, by omega, h4, h5.last_to m hm (by rw [lastC, Int.toNat_natCast] at h2; exact h2)⟩
/-- the long cut is one, its pieces within the bound -/
theorem gS_ct (hn : ∀ i, 0 ≤ a i ∨ True) : ∀ {i : Nat} {c : List Int} {t : Int}, gS a b i = some (c, t) → 0 < i → Ct (RLe a b) i 0 c ∧ t = pre a i - pre a (lastC 0 c) ∧ t ≤ b
  | 0, _, _, _, h => by omega
  | i + 1, c, t, h, _ => by
    rw [gS] at h
    cases e : gS a b i with
    | none => rw [e] at h; cases h
    | some p =>
      obtain ⟨c1, t1⟩ := p
      rw [e] at h
      dsimp only at h
      by_cases h1 : a i > b
      · rw [if_pos h1] at h; cases h
      · rw [if_neg h1] at h
        have hs : pre a (i + 1) = pre a i + a i := rfl
        rcases Nat.eq_zero_or_pos i with rfl | hi
        · have e1 : c1 = [] ∧ t1 = 0 := by
            have e : some (([] : List Int), (0 : Int)) = some (c1, t1) := e
            cases e
            exact ⟨rfl, rfl⟩
          obtain ⟨rfl, rfl⟩ := e1
          rw [if_neg (by omega)] at h
          cases h
          refine ⟨⟨by omega, ?_⟩, ?_, by omega⟩
          · unfold RLe
            omega
          · show 0 + a 0 = pre a (0 + 1) - pre a 0
            omega
        · obtain ⟨g1, g2, g3⟩ := gS_ct hn e hi
          by_cases h2 : t1 + a i > b
          · rw [if_pos h2] at h
            cases h
            refine ⟨g1.snoc (by omega) (by unfold RLe; omega), ?_, by omega⟩
            rw [lastC_snoc]
            omega
          · rw [if_neg h2] at h
            cases h
            refine ⟨g1.last_to (i + 1) (by omega) (by unfold RLe; omega), by omega, by omega⟩
end
/-! ### the other way about -/
theorem path_rev {R : Nat → Nat → Prop} {n : Nat} : ∀ {k p q : Nat}, q ≤ n → p ≤ q → (path R k p q ↔ path (fun x y => R (n - y) (n - x)) k (n - q) (n - p))
  | 0, p, q, hq, hp => by
    show p = q ↔ n - q = n - p
    omega
  | k + 1, p, q, hq, hp => by
    rw [path_snoc (R := R)]
    constructor
    · rintro ⟨m, h1, h2, h3⟩
      have := path_le h1
      exact ⟨n - m, by omega, by omega, by show R (n - (n - m)) (n - (n - q)); rw [show n - (n - m) = m by omega, show n - (n - q) = q by omega]; exact h3, (path_rev (by omega) (by omega)).mp h1⟩
    · rintro ⟨e, h1, h2, h3, h4⟩
      obtain ⟨m, rfl⟩ : ∃ m, e = n - m := ⟨n - e, by omega⟩
      by_cases hm : m ≤ n
      · have h3 : R (n - (n - m)) (n - (n - q)) := h3
        rw [show n - (n - m) = m by omega, show n - (n - q) = q by omega] at h3
        refine ⟨m, (path_rev (by omega) (by omega)).mpr h4, by omega, h3⟩
      · omega
theorem rowF_rev {ns : List Int} {i : Nat} (h : i < ns.length) : rowF ns.reverse i = rowF ns (ns.length - 1 - i) := by
  show ns.reverse[i]! = ns[ns.length - 1 - i]!
  rw [List.getElem!_eq_getElem?_getD, List.getElem!_eq_getElem?_getD, List.getElem?_reverse h]
theorem pre_rev (ns : List Int) : ∀ i, i ≤ ns.length → pre (rowF ns.reverse) i = pre (rowF ns) ns.length - pre (rowF ns) (ns.length - i)
  | 0, _ => by
    rw [Nat.sub_zero]
    show (0 : Int) = _
    omega
  | i + 1, h => by
    have e : pre (rowF ns) (ns.length - i) = pre (rowF ns) (ns.length - (i + 1)) + rowF ns (ns.length - (i + 1)) := by
      rw [show ns.length - i = (ns.length - (i + 1)) + 1 by omega]
      rfl
    rw [pre, pre_rev ns i (by omega), rowF_rev (by omega), show ns.length - 1 - i = ns.length - (i + 1) by omega, e]
    omega
theorem path_back {ns : List Int} {b : Int} {k : Nat} {P : Int → Prop} : path (fun p e => P (pre (rowF ns.reverse) e - pre (rowF ns.reverse) p)) k 0 ns.length ↔ path (fun p e => P (pre (rowF ns) e - pre (rowF ns) p)) k 0 ns.length := by
  rw [path_rev (R := fun p e => P (pre (rowF ns) e - pre (rowF ns) p)) (n := ns.length) (Nat.le_refl _) (Nat.zero_le _), Nat.sub_self, Nat.sub_zero]
  have key : ∀ x y, x < y → y ≤ ns.length → (pre (rowF ns.reverse) y - pre (rowF ns.reverse) x = pre (rowF ns) (ns.length - x) - pre (rowF ns) (ns.length - y)) := fun x y h1 h2 => by
    rw [pre_rev ns y h2, pre_rev ns x (by omega)]
    omega
  constructor
  · exact path_mono (fun x y _ h1 h2 r => by rw [← key x y h1 h2]; exact r) (Nat.le_refl _)
  · exact path_mono (fun x y _ h1 h2 r => by rw [key x y h1 h2]; exact r) (Nat.le_refl _)
/-! ### parts of a way -/
section
variable {R : Nat → Nat → Prop} {n : Nat}
/-- R goes down to parts -/
def Down (R : Nat → Nat → Prop) (n : Nat) : Prop := ∀ p x y q, p ≤ x → x < y → y ≤ q → q ≤ n → R p q → R x y
theorem RLe_down {a : Nat → Int} {b : Int} (hn : ∀ i, i < n → 0 ≤ a i) : Down (RLe a b) n := fun p x y q h1 h2 h3 h4 r => by
  have m1 := pre_mono hn h1 (by omega)
  have m2 := pre_mono hn h3 h4
  unfold RLe at *
  omega
theorem path_pref (hR : Down R n) : ∀ {k p q m : Nat}, path R k p q → q ≤ n → p < m → m ≤ q → ∃ j, 1 ≤ j ∧ j ≤ k ∧ path R j p m
  | 0, p, q, m, h, _, h1, h2 => by
    have h : p = q := h
    omega
  | k + 1, p, q, m, ⟨e, g1, g2, g3, g4⟩, hq, h1, h2 => by
    rcases Nat.lt_or_ge e m with h | h
    · obtain ⟨j, j1, j2, j3⟩ := path_pref hR g4 hq h h2
      exact ⟨j + 1, by omega, by omega, e, g1, by omega, g3, j3⟩
    · exact ⟨1, Nat.le_refl _, by omega, path_one.mpr ⟨h1, hR p p m e (Nat.le_refl _) h1 h (by omega) g3⟩⟩
theorem path_suff (hR : Down R n) : ∀ {k p q m : Nat}, path R k p q → q ≤ n → p ≤ m → m < q → ∃ j, 1 ≤ j ∧ j ≤ k ∧ path R j m q
  | 0, p, q, m, h, _, h1, h2 => by
    have h : p = q := h
    omega
  | k + 1, p, q, m, ⟨e, g1, g2, g3, g4⟩, hq, h1, h2 => by
    rcases Nat.lt_or_ge m e with h | h
    · refine ⟨k + 1, by omega, by omega, e, h, g2, hR p m e e h1 h (Nat.le_refl _) (by omega) g3, g4⟩
    · obtain ⟨j, j1, j2, j3⟩ := path_suff hR g4 hq h h2
      exact ⟨j, j1, by omega, j3⟩
end
/-- every number a piece: the one way -/
theorem First.all {R : Nat → Nat → Prop} {n : Nat} : ∀ (d p : Nat), p + d + 1 = n → path R (d + 1) p n → First R n (d + 1) p (rangeF ((p : Int) + 1) d)
  | 0, _, _, _ => rfl
  | d + 1, p, hd, ⟨e, h1, h2, h3, h4⟩ => by
    have := path_le h4
    have he : e = p + 1 := by omega
    subst he
    refine ⟨p + 1, _, rfl, by omega, by omega, h3, h4, fun e' g1 g2 => by omega, ?_⟩
    have := First.all d (p + 1) (by omega) h4
    rwa [show ((p + 1 : Nat) : Int) + 1 = (p : Int) + 1 + 1 by omega] at this
end PB

namespace PB
open PySem PySem.Spec PyProof.Rows L2
/-! ### ways of k pieces, each with its cost; the least of their sums -/
def pc (c : Nat → Nat → Int) : Nat → Nat → Nat → Int → Prop
  | 0, p, q, m => p = q ∧ m = 0
  | k + 1, p, q, m => ∃ e m', p < e ∧ e ≤ q ∧ pc c k e q m' ∧ m = c p e + m'
section
variable {c c' : Nat → Nat → Int} {k p q n : Nat} {m m' : Int}
theorem pc_le : ∀ {k p : Nat} {m : Int}, pc c k p q m → p + k ≤ q
  | 0, p, m, h => by have := h.1; omega
  | k + 1, p, m, ⟨e, m', h1, h2, h3, h4⟩ => by have := pc_le h3; omega
theorem pc_snoc : ∀ {k p : Nat} {m : Int}, pc c (k + 1) p q m ↔ ∃ e m', p ≤ e ∧ e < q ∧ pc c k p e m' ∧ m = m' + c e q
  | 0, p, m => by
    constructor
    · rintro ⟨e, m', h1, h2, ⟨h3, h4⟩, h5⟩
      subst h3
      exact ⟨p, 0, Nat.le_refl _, h1, ⟨rfl, rfl⟩, by omega⟩
    · rintro ⟨e, m', h1, h2, ⟨h3, h4⟩, h5⟩
      subst h3
      exact ⟨q, 0, h2, Nat.le_refl _, ⟨rfl, rfl⟩, by omega⟩
  | k + 1, p, m => by
    constructor
    · rintro ⟨e, m', h1, h2, h3, h4⟩
      obtain ⟨f, m2, g1, g2, g3, g4⟩ := pc_snoc.mp h3
      exact ⟨f, c p e + m2, by omega, g2, ⟨e, m2, h1, g1, g3, rfl⟩, by omega⟩
    · rintro ⟨f, m', h1, h2, ⟨e, m2, g1, g2, g3, g4⟩, h4⟩
      exact ⟨e, m2 + c f q, g1, by omega, pc_snoc.mpr ⟨f, m2, g2, h2, g3, rfl⟩, by omega⟩
theorem pc_ex : ∀ {k p : Nat}, p + k + 1 ≤ q → ∃ m, pc c (k + 1) p q m
  | 0, p, h => ⟨c p q + 0, q, 0, by omega, Nat.le_refl _, ⟨rfl, rfl⟩, rfl⟩
  | k + 1, p, h => by
    obtain ⟨m, hm⟩ := pc_ex (k := k) (p := p + 1) (by omega)
    exact ⟨c p (p + 1) + m, p + 1, m, by omega, by omega, hm, rfl⟩
theorem pc_congr (h : ∀ x y, p ≤ x → x < y → y ≤ q → c x y = c' x y) : ∀ {k : Nat} {p' : Nat} {m : Int}, p ≤ p' → pc c k p' q m → pc c' k p' q m
  | 0, p', m, hp, h0 => h0
  | k + 1, p', m, hp, ⟨e, m', h1, h2, h3, h4⟩ => ⟨e, m', h1, h2, pc_congr h (by omega) h3, by rw [h4, h _ _ hp h1 h2]⟩
theorem pc_nonneg (h : ∀ x y, 0 ≤ c x y) : ∀ {k p : Nat} {m : Int}, pc c k p q m → 0 ≤ m
  | 0, p, m, h0 => by have := h0.2; omega
  | k + 1, p, m, ⟨e, m', h1, h2, h3, h4⟩ => by
    have := pc_nonneg h h3
    have := h p e
    omega
theorem pc_rev1 {n : Nat} : ∀ {k p q : Nat} {m : Int}, q ≤ n → pc c k p q m → pc (fun x y => c (n - y) (n - x)) k (n - q) (n - p) m
  | 0, p, q, m, hq, h => ⟨by rw [h.1], h.2⟩
  | k + 1, p, q, m, hq, ⟨e, m', h1, h2, h3, h4⟩ => by
    refine pc_snoc.mpr ⟨n - e, m', by omega, by omega, pc_rev1 hq h3, ?_⟩
    show m = m' + c (n - (n - p)) (n - (n - e))
    rw [show n - (n - p) = p by omega, show n - (n - e) = e by omega]
    omega
theorem pc_rev {n : Nat} {k p q : Nat} {m : Int} (hp : p ≤ n) (hq : q ≤ n) : pc (fun x y => c (n - y) (n - x)) k p q m ↔ pc c k (n - q) (n - p) m := by
  constructor
  · intro h
    have h2 := pc_rev1 hq h
    refine pc_congr (p := n - q) (q := n - p) (fun x y h3 h4 h5 => ?_) (Nat.le_refl _) h2
    show c (n - (n - x)) (n - (n - y)) = c x y
    rw [show n - (n - x) = x by omega, show n - (n - y) = y by omega]
  · intro h
    have h2 := pc_rev1 (n := n) (by omega) h
    rw [show n - (n - p) = p by omega, show n - (n - q) = q by omega] at h2
    exact h2
/-- the least cost -/
def Lst (c : Nat → Nat → Int) (k p q : Nat) (m : Int) : Prop := pc c k p q m ∧ ∀ m', pc c k p q m' → m ≤ m'
theorem Lst.uniq (h : Lst c k p q m) (g : Lst c k p q m') : m = m' := by
  have := h.2 _ g.1
  have := g.2 _ h.1
  omega
theorem Lst_one (h : p < q) : Lst c 1 p q (c p q) := by
  refine ⟨⟨q, 0, h, Nat.le_refl _, ⟨rfl, rfl⟩, by omega⟩, fun m' ⟨e, m2, h1, h2, ⟨h3, h4⟩, h5⟩ => ?_⟩
  subst h3
  omega
theorem Lst_first {L : Nat → Int} {xs : List Int} (hL : ∀ e, p < e → e + k ≤ q → Lst c k e q (L e)) (h1 : ∀ x, x ∈ xs ↔ ∃ e, p < e ∧ e + k ≤ q ∧ x = c p e + L e) (hpq : p + k + 1 ≤ q) : xs ≠ [] ∧ Lst c (k + 1) p q (mnI xs) := by
  have hm : c p (p + 1) + L (p + 1) ∈ xs := (h1 _).mpr ⟨p + 1, by omega, by omega, rfl⟩
  have hne : xs ≠ [] := fun e => by rw [e] at hm; cases hm
  refine ⟨hne, ?_, fun m' ⟨e, m2, g1, g2, g3, g4⟩ => ?_⟩
  · obtain ⟨e, g1, g2, g3⟩ := (h1 _).mp (mnI_mem hne)
    exact ⟨e, L e, g1, by omega, (hL e g1 g2).1, g3⟩
  · have hle := pc_le g3
    have a1 := (hL e g1 hle).2 _ g3
    have a2 := mnI_le ((h1 _).mpr ⟨e, g1, hle, rfl⟩)
    omega
theorem Lst_last {L : Nat → Int} {xs : List Int} (hL : ∀ e, p + k ≤ e → e < q → Lst c k p e (L e)) (h1 : ∀ x, x ∈ xs ↔ ∃ e, p + k ≤ e ∧ e < q ∧ x = L e + c e q) (hpq : p + k + 1 ≤ q) : xs ≠ [] ∧ Lst c (k + 1) p q (mnI xs) := by
  have hm : L (p + k) + c (p + k) q ∈ xs := (h1 _).mpr ⟨p + k, by omega, by omega, rfl⟩
  have hne : xs ≠ [] := fun e => by rw [e] at hm; cases hm
  refine ⟨hne, ?_, fun m' h => ?_⟩
  · obtain ⟨e, g1, g2, g3⟩ := (h1 _).mp (mnI_mem hne)
    exact pc_snoc.mpr ⟨e, L e, by omega, g2, (hL e g1 g2).1, g3⟩
  · obtain ⟨e, m2, g1, g2, g3, g4⟩ := pc_snoc.mp h
    have hle := pc_le g3
    have a1 := (hL e hle g2).2 _ g3
    have a2 := mnI_le ((h1 _).mpr ⟨e, hle, g2, rfl⟩)
    omega
theorem Lst_ex (h : p + k + 1 ≤ q) : ∃ m, Lst c (k + 1) p q m := by
  induction k generalizing p with
  | zero => exact ⟨_, Lst_one (by omega)⟩
  | succ k ih =>
    have hL : ∀ e, ∃ m, p < e → e + (k + 1) ≤ q → Lst c (k + 1) e q m := fun e => by
      by_cases he : e + (k + 1) ≤ q
      · obtain ⟨m, hm⟩ := ih (p := e) he
        exact ⟨m, fun _ _ => hm⟩
      · exact ⟨0, fun _ h => absurd h he⟩
    have hL2 : ∃ L : Nat → Int, ∀ e, p < e → e + (k + 1) ≤ q → Lst c (k + 1) e q (L e) := Classical.axiomOfChoice hL
    obtain ⟨L, hL⟩ := hL2
    have := Lst_first (xs := ((List.range (q + 1)).filter fun e => decide (p < e ∧ e + (k + 1) ≤ q)).map fun e => c p e + L e) hL (fun x => by
      rw [List.mem_map]
      constructor
      · rintro ⟨e, h1, rfl⟩
        have := of_decide_eq_true (List.mem_filter.mp h1).2
        exact ⟨e, this.1, this.2, rfl⟩
      · rintro ⟨e, h1, h2, rfl⟩
        exact ⟨e, List.mem_filter.mpr ⟨List.mem_range.mpr (by omega), decide_eq_true ⟨h1, h2⟩⟩, rfl⟩) h
    exact ⟨_, this.2⟩
theorem Lst_of (h : pc c k p q m) : ∃ v, Lst c k p q v := by
  cases k with
  | zero => exact ⟨0, ⟨h.1, rfl⟩, fun m' h' => by have := h'.2; omega⟩
  | succ k => exact Lst_ex (by have := pc_le h; omega)
theorem Lst.nonneg (hc : ∀ x y, 0 ≤ c x y) (h : Lst c k p q m) : 0 ≤ m := pc_nonneg hc h.1
theorem Lst_lastG {xs : List Int} (h1 : ∀ x, x ∈ xs ↔ ∃ e v, e < q ∧ Lst c k p e v ∧ x = v + c e q) (hpq : p + k + 1 ≤ q) : xs ≠ [] ∧ Lst c (k + 1) p q (mnI xs) := by
  obtain ⟨m0, hm0⟩ := pc_ex (c := c) hpq
  obtain ⟨e0, m1, _, g2, g3, _⟩ := pc_snoc.mp hm0
  obtain ⟨v0, hv0⟩ := Lst_of g3
  have hm : v0 + c e0 q ∈ xs := (h1 _).mpr ⟨e0, v0, g2, hv0, rfl⟩
  have hne : xs ≠ [] := fun e => by rw [e] at hm; cases hm
  refine ⟨hne, ?_, fun m' h => ?_⟩
  · obtain ⟨e, v, g1, g2, g3⟩ := (h1 _).mp (mnI_mem hne)
    exact pc_snoc.mpr ⟨e, v, by have := pc_le g2.1; omega, g1, g2.1, g3⟩
  · obtain ⟨e, m2, g1, g2, g3, g4⟩ := pc_snoc.mp h
    obtain ⟨v, hv⟩ := Lst_of g3
    have a1 := hv.2 _ g3
    have a2 := mnI_le ((h1 _).mpr ⟨e, v, g2, hv, rfl⟩)
    omega
theorem Lst_firstG {xs : List Int} (h1 : ∀ x, x ∈ xs ↔ ∃ e v, p < e ∧ Lst c k e q v ∧ x = c p e + v) (hpq : p + k + 1 ≤ q) : xs ≠ [] ∧ Lst c (k + 1) p q (mnI xs) := by
  obtain ⟨m0, e0, m1, g1, g2, g3, _⟩ := pc_ex (c := c) hpq
  obtain ⟨v0, hv0⟩ := Lst_of g3
  have hm : c p e0 + v0 ∈ xs := (h1 _).mpr ⟨e0, v0, g1, hv0, rfl⟩
  have hne : xs ≠ [] := fun e => by rw [e] at hm; cases hm
  refine ⟨hne, ?_, fun m' ⟨e, m2, g1, g2, g3, g4⟩ => ?_⟩
  · obtain ⟨e, v, g1, g2, g3⟩ := (h1 _).mp (mnI_mem hne)
    exact ⟨e, v, g1, by have := pc_le g2.1; omega, g2.1, g3⟩
  · obtain ⟨v, hv⟩ := Lst_of g3
    have a1 := hv.2 _ g3
    have a2 := mnI_le ((h1 _).mpr ⟨e, v, g1, hv, rfl⟩)
    omega
end
/-! ### a cut told place by place -/
def Chn (N : Nat → Nat → Nat → Prop) : Nat → List Int → Nat → Prop
  | 0, cut, p => cut = [] ∧ p = 0
  | i + 1, cut, p => ∃ cut' p', Chn N i cut' p' ∧ N i p' p ∧ cut = cut' ++ [(p : Int)]
theorem Chn.uniq {N : Nat → Nat → Nat → Prop} (hN : ∀ i p e f, N i p e → N i p f → e = f) : ∀ {i : Nat} {c d : List Int} {p q : Nat}, Chn N i c p → Chn N i d q → c = d ∧ p = q
  | 0, c, d, p, q, h, g => ⟨by rw [h.1, g.1], by rw [h.2, g.2]⟩
  | i + 1, c, d, p, q, ⟨c', p', h1, h2, h3⟩, ⟨d', q', g1, g2, g3⟩ => by
    obtain ⟨e1, e2⟩ := Chn.uniq hN h1 g1
    subst e1
    subst e2
    have := hN _ _ _ _ h2 g2
    subst this
    exact ⟨by rw [h3, g3], rfl⟩
theorem Chn.len {N : Nat → Nat → Nat → Prop} : ∀ {i : Nat} {c : List Int} {p : Nat}, Chn N i c p → c.length = i
  | 0, c, p, h => by rw [h.1]; rfl
  | i + 1, c, p, ⟨c', p', h1, h2, h3⟩ => by rw [h3, List.length_append, h1.len]; rfl
theorem Chn.last {N : Nat → Nat → Nat → Prop} : ∀ {i : Nat} {c : List Int} {p : Nat}, Chn N i c p → ([0] ++ c).getLast? = some (p : Int)
  | 0, c, p, h => by rw [h.1, h.2]; rfl
  | i + 1, c, p, ⟨c', p', h1, h2, h3⟩ => by rw [h3, ← List.append_assoc]; exact List.getLast?_concat
/-- the next place of the first cut of least cost: k + 1 pieces are left after it, of k + 2 -/
def Nxt (c : Nat → Nat → Int) (n k p e : Nat) : Prop := p < e ∧ e + (k + 1) ≤ n ∧ (∀ m, Lst c (k + 2) p n m → Lst c (k + 1) e n (m - c p e)) ∧ ∀ f, p < f → f < e → ¬ ∀ m, Lst c (k + 2) p n m → Lst c (k + 1) f n (m - c p f)
theorem Nxt.uniq {c : Nat → Nat → Int} {n k p e f : Nat} (h : Nxt c n k p e) (g : Nxt c n k p f) : e = f := by
  rcases Nat.lt_trichotomy e f with h1 | h1 | h1
  · exact absurd h.2.2.1 (g.2.2.2 e h.1 h1)
  · exact h1
  · exact absurd g.2.2.1 (h.2.2.2 f g.1 h1)
end PB

namespace PB
open PySem PySem.Spec PyProof.Rows L2
/-! ### the first cut of least cost -/
section
variable {c c' : Nat → Nat → Int} {k p q n : Nat} {m m' : Int}
def FLc (c : Nat → Nat → Int) (n : Nat) : Nat → Nat → List Int → Prop
  | 0, _, cut => cut = []
  | k + 1, p, cut => ∃ (e : Nat) (cut' : List Int), cut = (e : Int) :: cut' ∧ Nxt c n k p e ∧ FLc c n k e cut'
def costC (c : Nat → Nat → Int) (n : Nat) : Nat → List Int → Int
  | p, [] => c p n
  | p, x :: r => c p x.toNat + costC c n x.toNat r
theorem FLc.uniq : ∀ {k p : Nat} {x y : List Int}, FLc c n k p x → FLc c n k p y → x = y
  | 0, p, x, y, h, g => by rw [show x = [] from h, show y = [] from g]
  | k + 1, p, x, y, ⟨e, x', h1, h2, h3⟩, ⟨f, y', g1, g2, g3⟩ => by
    have := h2.uniq g2
    subst this
    rw [h1, g1, h3.uniq g3]
theorem FLc.ct : ∀ {k p : Nat} {x : List Int}, p + k + 1 ≤ n → FLc c n k p x → Ct Any n p x ∧ x.length = k
  | 0, p, x, hn, h => by
    rw [show x = [] from h]
    exact ⟨⟨by omega, trivial⟩, rfl⟩
  | k + 1, p, x, hn, ⟨e, x', h1, h2, h3⟩ => by
    subst h1
    have a1 := h2.1
    have a2 := h2.2.1
    obtain ⟨g1, g2⟩ := FLc.ct (by omega) h3
    exact ⟨⟨e, rfl, a1, by omega, trivial, g1⟩, by rw [List.length_cons, g2]⟩
theorem costC_pc : ∀ {x : List Int} {p : Nat}, Ct Any n p x → pc c (x.length + 1) p n (costC c n p x)
  | [], p, h => ⟨n, 0, h.1, Nat.le_refl _, ⟨rfl, rfl⟩, by rw [costC]; omega⟩
  | y :: x, p, h => by
    obtain ⟨e, rfl, h1, h2, h3, h4⟩ := h
    exact ⟨e, costC c n e x, h1, by omega, costC_pc h4, by rw [costC, Int.toNat_natCast]⟩
theorem pc_costC : ∀ {k p : Nat} {m : Int}, pc c (k + 1) p n m → ∃ x : List Int, x.length = k ∧ Ct Any n p x ∧ costC c n p x = m
  | 0, p, m, ⟨e, m', h1, h2, ⟨h3, h4⟩, h5⟩ => by
    subst h3
    exact ⟨[], rfl, ⟨h1, trivial⟩, by rw [costC]; omega⟩
  | k + 1, p, m, ⟨e, m', h1, h2, h3, h5⟩ => by
    obtain ⟨x, g1, g2, g3⟩ := pc_costC h3
    exact ⟨(e : Int) :: x, by rw [List.length_cons, g1], ⟨e, rfl, h1, g2.lt, trivial, g2⟩, by rw [costC, Int.toNat_natCast, g3, h5]⟩
/-- what is left of a least way is least -/
theorem Lst.tail {e : Nat} {v : Int} (h1 : p < e) (h : Lst c (k + 1) p n (c p e + v)) (g : pc c k e n v) (he : e ≤ n) : Lst c k e n v :=
  ⟨g, fun m' hm => by
    have := h.2 _ ⟨e, m', h1, he, hm, rfl⟩
    omega⟩
theorem FLc.cost : ∀ {k p : Nat} {x : List Int}, p + k + 1 ≤ n → FLc c n k p x → Lst c (k + 1) p n (costC c n p x)
  | 0, p, x, hn, h => by
    rw [show x = [] from h]
    exact Lst_one (by omega)
  | k + 1, p, x, hn, ⟨e, x', h1, h2, h3⟩ => by
    subst h1
    obtain ⟨m, hm⟩ := Lst_ex (c := c) hn
    have a1 := h2.2.2.1 m hm
    have a2 := h2.2.1
    have a3 := (FLc.cost (by omega) h3).uniq a1
    rw [costC, Int.toNat_natCast, a3, show c p e + (m - c p e) = m by omega]
    exact hm
theorem Ct.lt_nxt {d : List Int} {f : Nat} (hf : p < f) (hd : Ct Any n f d) (hl : d.length = k) (h : Lst c (k + 2) p n (c p f + costC c n f d)) : ∀ m, Lst c (k + 2) p n m → Lst c (k + 1) f n (m - c p f) := fun m hm => by
  have e := hm.uniq h
  subst e
  rw [show c p f + costC c n f d - c p f = costC c n f d by omega]
  have := costC_pc (c := c) hd
  rw [hl] at this
  exact h.tail hf this (Nat.le_of_lt hd.lt)
/-- none ahead of it costs as little -/
theorem FLc.first : ∀ {k p : Nat} {x d : List Int}, p + k + 1 ≤ n → FLc c n k p x → Ct Any n p d → d.length = k → Lst c (k + 1) p n (costC c n p d) → W.listLt d x = false
  | 0, p, x, d, hn, h, hd, hl, hc => by
    rw [show x = [] from h, List.length_eq_zero_iff.mp hl]
    rfl
  | k + 1, p, x, d, hn, ⟨e, x', h1, h2, h3⟩, hd, hl, hc => by
    subst h1
    cases d with
    | nil => cases hl
    | cons y d =>
      obtain ⟨f, rfl, g1, g2, _, g4⟩ := hd
      rw [costC, Int.toNat_natCast] at hc
      have hl' : d.length = k := by simpa using hl
      have key := Ct.lt_nxt g1 g4 hl' hc
      have hge : ¬ f < e := fun hlt => h2.2.2.2 f g1 hlt key
      rw [W.listLt]
      by_cases hfe : f = e
      · subst hfe
        rw [if_pos rfl]
        have := costC_pc (c := c) g4
        rw [hl'] at this
        have a2 := h2.2.1
        exact FLc.first (by omega) h3 g4 hl' (hc.tail g1 this (Nat.le_of_lt g2))
      · rw [if_neg (by omega)]
        exact decide_eq_false (by omega)
/-! ### so much times the cost -/
theorem pc_mul {s : Int} (hs : ∀ x y, c' x y = s * c x y) : ∀ {k p : Nat} {m' : Int}, pc c' k p q m' ↔ ∃ m, m' = s * m ∧ pc c k p q m
  | 0, p, m' => by
    constructor
    · rintro ⟨h1, h2⟩
      exact ⟨0, by omega, h1, rfl⟩
    · rintro ⟨m, h1, h2, h3⟩
      exact ⟨h2, by rw [h1, h3]; omega⟩
  | k + 1, p, m' => by
    constructor
    · rintro ⟨e, m2, h1, h2, h3, h4⟩
      obtain ⟨m, g1, g2⟩ := (pc_mul hs).mp h3
      exact ⟨c p e + m, by rw [h4, g1, hs, Int.mul_add], e, m, h1, h2, g2, rfl⟩
    · rintro ⟨m, h0, e, m2, h1, h2, h3, h4⟩
      exact ⟨e, s * m2, h1, h2, (pc_mul hs).mpr ⟨m2, rfl, h3⟩, by rw [h0, h4, hs, Int.mul_add]⟩
theorem Lst_mul {s : Int} (h0 : 0 < s) (hs : ∀ x y, c' x y = s * c x y) : Lst c' k p q (s * m) ↔ Lst c k p q m := by
  constructor
  · rintro ⟨h1, h2⟩
    obtain ⟨m2, g1, g2⟩ := (pc_mul hs).mp h1
    have e : m = m2 := Int.eq_of_mul_eq_mul_left (by omega) g1
    rw [← e] at g2
    exact ⟨g2, fun m' hm => Int.le_of_mul_le_mul_left (h2 _ ((pc_mul hs).mpr ⟨m', rfl, hm⟩)) h0⟩
  · rintro ⟨h1, h2⟩
    refine ⟨(pc_mul hs).mpr ⟨m, rfl, h1⟩, fun m' hm => ?_⟩
    obtain ⟨m2, rfl, g2⟩ := (pc_mul hs).mp hm
    exact Int.mul_le_mul_of_nonneg_left (h2 _ g2) (by omega)
theorem nxt_mul {s : Int} {e : Nat} (h0 : 0 < s) (hs : ∀ x y, c' x y = s * c x y) : (∀ m, Lst c' (k + 2) p n m → Lst c' (k + 1) e n (m - c' p e)) ↔ ∀ m, Lst c (k + 2) p n m → Lst c (k + 1) e n (m - c p e) := by
  constructor
  · intro h m hm
    have := h _ ((Lst_mul h0 hs).mpr hm)
    rw [hs, ← Int.mul_sub] at this
    exact (Lst_mul h0 hs).mp this
  · intro h m hm
    obtain ⟨m2, rfl, g2⟩ := (pc_mul hs).mp hm.1
    have := h _ ((Lst_mul h0 hs).mp hm)
    rw [hs, ← Int.mul_sub]
    exact (Lst_mul h0 hs).mpr this
theorem FLc_mul {s : Int} (h0 : 0 < s) (hs : ∀ x y, c' x y = s * c x y) : ∀ {k p : Nat} {x : List Int}, FLc c' n k p x → FLc c n k p x
  | 0, p, x, h => h
  | k + 1, p, x, ⟨e, x', h1, h2, h3⟩ => ⟨e, x', h1, ⟨h2.1, h2.2.1, (nxt_mul h0 hs).mp h2.2.2.1, fun f g1 g2 g3 => h2.2.2.2 f g1 g2 ((nxt_mul h0 hs).mpr g3)⟩, FLc_mul h0 hs h3⟩
/-! ### a piece more is no worse; the steps grow no greater -/
theorem pc_more (hc : ∀ x y z, x < y → y < z → z ≤ q → c x y + c y z ≤ c x z) : ∀ {k p : Nat} {m : Int}, p + k + 2 ≤ q → pc c (k + 1) p q m → ∃ m', m' ≤ m ∧ pc c (k + 2) p q m'
  | 0, p, m, hq, ⟨e, m', h1, h2, ⟨h3, h4⟩, h5⟩ => by
    subst h3
    have := hc p (p + 1) e (by omega) (by omega) (Nat.le_refl _)
    exact ⟨c p (p + 1) + (c (p + 1) e + 0), by omega, p + 1, _, by omega, by omega, ⟨e, 0, by omega, Nat.le_refl _, ⟨rfl, rfl⟩, rfl⟩, rfl⟩
  | k + 1, p, m, hq, ⟨e, m', h1, h2, h3, h5⟩ => by
    by_cases he : p + 2 ≤ e
    · have := hc p (p + 1) e (by omega) (by omega) h2
      exact ⟨c p (p + 1) + (c (p + 1) e + m'), by omega, p + 1, _, by omega, by omega, ⟨e, m', by omega, h2, h3, rfl⟩, rfl⟩
    · obtain ⟨m2, g1, g2⟩ := pc_more hc (by omega) h3
      exact ⟨c p e + m2, by omega, e, m2, h1, h2, g2, rfl⟩
theorem Lst_more (hc : ∀ x y z, x < y → y < z → z ≤ q → c x y + c y z ≤ c x z) (h : p + k + 2 ≤ q) (h1 : Lst c (k + 1) p q m) (h2 : Lst c (k + 2) p q m') : m' ≤ m := by
  obtain ⟨m2, g1, g2⟩ := pc_more hc h h1.1
  have := h2.2 _ g2
  omega
theorem pc_change (hc : ∀ x x' y y', x ≤ x' → x' < y → y ≤ y' → y' ≤ q → c x y + c x' y' ≤ c x y' + c x' y) : ∀ {r x y : Nat} {m m' : Int}, x ≤ y → pc c r x q m → pc c (r + 1) y q m' → ∃ m1 m2, pc c (r + 1) x q m1 ∧ pc c r y q m2 ∧ m1 + m2 ≤ m + m'
  | 0, x, y, m, m', hxy, ⟨h1, h2⟩, ⟨e, m2, g1, g2, g3, g4⟩ => by omega
  | r + 1, x, y, m, m', hxy, ⟨x1, mp, h1, h2, h3, h4⟩, ⟨y1, mq, g1, g2, g3, g4⟩ => by
    by_cases hc1 : y1 ≤ x1
    · have := hc x y y1 x1 hxy g1 hc1 h2
      exact ⟨c x y1 + mq, c y x1 + mp, ⟨y1, mq, by omega, g2, g3, rfl⟩, ⟨x1, mp, by omega, h2, h3, rfl⟩, by omega⟩
    · obtain ⟨m1, m2, a1, a2, a3⟩ := pc_change hc (by omega) h3 g3
      exact ⟨c x x1 + m1, c y y1 + m2, ⟨x1, m1, h1, h2, a1, rfl⟩, ⟨y1, m2, g1, g2, a2, rfl⟩, by omega⟩
theorem Lst_steps {v w : Int} (hc : ∀ x x' y y', x ≤ x' → x' < y → y ≤ y' → y' ≤ q → c x y + c x' y' ≤ c x y' + c x' y) (h1 : Lst c k p q m) (h2 : Lst c (k + 1) p q v) (h3 : Lst c (k + 2) p q w) : v - w ≤ m - v := by
  obtain ⟨y1, m', g1, g2, g3, g4⟩ := h3.1
  obtain ⟨m1, m2, a1, a2, a3⟩ := pc_change hc (Nat.le_of_lt g1) h1.1 g3
  have b1 := h2.2 _ a1
  have b2 := h2.2 _ ⟨y1, m2, g1, g2, a2, rfl⟩
  omega
/-- all pieces -/
theorem Ct_all_eq {n : Nat} : ∀ {x : List Int} {p : Nat}, Ct Any n p x → p + x.length + 1 = n → x = rangeF ((p + 1 : Nat) : Int) x.length
  | [], p, _, _ => rfl
  | y :: x, p, h, hl => by
    obtain ⟨e, rfl, h1, h2, _, h4⟩ := h
    have h5 := h4.len
    have hl2 : p + (x.length + 1) + 1 = n := by simpa using hl
    have : e = p + 1 := by omega
    subst this
    have := Ct_all_eq h4 (by omega)
    show ((p + 1 : Nat) : Int) :: x = ((p + 1 : Nat) : Int) :: rangeF (((p + 1 : Nat) : Int) + 1) x.length
    rw [show ((p + 1 : Nat) : Int) + 1 = ((p + 1 + 1 : Nat) : Int) by omega, ← this]
end
end PB
namespace PB
open PySem PySem.Spec PyProof.Rows L2
def m__law_cells (x_script : Scr) (x_many : Int) : Option (List (Int × Int)) :=
Option.bind (repO ([0] : List Int) (if (decide (x_script.l = ([] : List Int))) then 1 else 0)) fun x15 =>
Option.bind (catO (sliceI x_script.l none (some x_many)) x15) fun x21 =>
some (enumI 0 x21)

def m__law_hand (x_cell : Int) (x_k : Int) : Option (List Int) :=
Option.bind (if decide (x_cell ≥ 1000000000000000000) then (some x_cell) else (some 0) : Option (Int)) fun s1 =>
Option.bind (mulO 6271 x_k) fun x9 =>
Option.bind (mulO (((x_cell % 2147483563) + x9) + 3) 40014) fun x11 =>
some ([s1, (x11 % 2147483563)] : List Int)

def m__law_draw (x_hand : (List Int)) (x_limit : Int) : Option (Int × (List Int)) :=
Option.bind (atI x_hand 0) fun x1 =>
if decide (x1 > 0) then (Option.bind (atI x_hand 0) fun x4 =>
Option.bind (modO x4 x_limit) fun x6 =>
Option.bind (atI x_hand 0) fun x8 =>
Option.bind (fdivO x8 x_limit) fun x10 =>
Option.bind (setO x_hand 0 x10) fun x12 =>
some (x6, x12)) else
Option.bind (atI x_hand 1) fun x16 =>
Option.bind (atI x_hand 1) fun x18 =>
Option.bind (mulO x16 x18) fun x20 =>
Option.bind (atI x_hand 1) fun x22 =>
Option.bind (mulO 52774 x22) fun x24 =>
Option.bind (setO x_hand 1 (((x20 + x24) + 40692) % 2147483563)) fun x26 =>
Option.bind (atI x26 1) fun x30 =>
Option.bind (modO (x30 / 16) x_limit) fun x32 =>
some (x32, x26)

def m__law_size (x_hand : (List Int)) (x_k : Int) (x_most : Int) (x_far : Int) : Option (Int × (List Int)) :=
Option.bind (if (decide (x_k = 0)) then Option.bind (m__law_draw x_hand 8) fun r4 => some ((decide (r4.1 = 1)), r4.2) else some (false, x_hand)) fun x13 =>
if x13.1 then (Option.bind (m__law_draw x13.2 x_far) fun r19 =>
Option.bind (m__law_draw r19.2 2) fun r32 =>
Option.bind (atI ([x_far, (1 + r19.1)] : List Int) r32.1) fun x41 =>
some (x41, r32.2)) else
Option.bind (m__law_draw x13.2 3) fun r43 =>
Option.bind (atI ([4, 8, x_most] : List Int) r43.1) fun x56 =>
Option.bind (m__law_draw r43.2 x56) fun r58 =>
some ((1 + r58.1), r58.2)

def m__law_row (x_hand : (List Int)) (x_many : Int) : Option ((List Int) × (List Int)) :=
Option.bind (m__law_draw x_hand 6) fun r1 =>
Option.bind (m__law_draw r1.2 13) fun r10 =>
Option.bind (range1 r10.1) fun x20 =>
Option.bind (foldO (fun (x25 : Int) (b23 : Int) => Option.bind (mulO b23 10) fun x36 =>
some x36) x20 1) fun o28 =>
Option.bind (m__law_draw r10.2 30) fun r44 =>
Option.bind (range1 x_many) fun x57 =>
Option.bind (foldO (fun (x63 : Int) (b61 : (List Int) × (List Int)) => Option.bind (m__law_draw b61.2 4) fun r74 =>
Option.bind (if (decide (r1.1 = 0)) then (Option.bind (m__law_draw r74.2 10000000) fun r86 =>
Option.bind (mulO r86.1 10000000) fun x95 =>
Option.bind (m__law_draw r86.2 10000000) fun r97 =>
Option.bind (modO (x95 + r97.1) (o28 + 1)) fun x106 =>
some (r97.2, x106)) else (some (r74.2, r74.1)) : Option ((List Int) × Int)) fun s83 =>
Option.bind (if (decide (r1.1 = 2)) then (Option.bind (mulO r44.1 o28) fun x116 =>
some (x116 / 30)) else (some s83.2) : Option (Int)) fun s113 =>
Option.bind (if (decide (r1.1 = 3)) then (Option.bind (mulO (max 0 (s113 - 2)) r44.1) fun x126 =>
some x126) else (some s113) : Option (Int)) fun s123 =>
Option.bind (if (decide (r1.1 = 4)) then (Option.bind (mulO x63 r44.1) fun x136 =>
some x136) else (some s123) : Option (Int)) fun s133 =>
Option.bind (appO b61.1 s133) fun x143 =>
some (x143, s83.1)) x57 (([] : List Int), r44.2)) fun o66 =>
Option.bind (if (decide (r1.1 = 5)) then (Option.bind (m__law_draw o66.2 x_many) fun r156 =>
Option.bind (setO o66.1 r156.1 o28) fun x165 =>
some (x165, r156.2)) else (some (o66.1, o66.2)) : Option ((List Int) × (List Int))) fun s153 =>
some (s153.1, s153.2)

def m__law_many (x_hand : (List Int)) (x_row : (List Int)) : Option (Int × (List Int)) :=
Option.bind (m__law_draw x_hand (lenI x_row)) fun r3 =>
Option.bind (m__law_draw r3.2 8) fun r20 =>
Option.bind (atI ([0, 1, 2, 3, 4, 4, 4, 4] : List Int) r20.1) fun x29 =>
Option.bind (atI ([1, (min 2 (lenI x_row)), (lenI x_row), (max 1 ((lenI x_row) - 1)), (1 + r3.1)] : List Int) x29) fun x31 =>
some (x31, r20.2)

def m__law_cuts (x_many : Int) (x_parts : Int) : Option (List (List Int)) :=
Option.bind (rangeD (x_parts - 1) 0) fun x10 =>
Option.bind (foldO (fun (x15 : Int) (b13 : (List (List Int))) => Option.bind (foldO (fun (x33 : (List Int)) (b31 : (List (List Int))) => Option.bind (atI x33 (-1)) fun x45 =>
Option.bind (range2 (x45 + 1) ((x_many - x15) + 1)) fun x48 =>
Option.bind (mapO (fun (x50 : Int) => Option.bind (catO x33 ([x50] : List Int)) fun x63 => some x63) x48) fun x74 =>
Option.bind (catO b31 x74) fun x77 =>
some x77) b13 ([] : List (List Int))) fun o36 =>
some o36) x10 ([([0] : List Int)] : List (List Int))) fun o18 =>
Option.bind (mapO (fun (x95 : (List Int)) => some (sliceI x95 (some 1) none)) o18) fun x114 =>
some x114

def m__law_sums (x_row : (List Int)) (x_cut : (List Int)) : Option (List Int) :=
Option.bind (catO ([0] : List Int) x_cut) fun x9 =>
Option.bind (catO x9 ([(lenI x_row)] : List Int)) fun x19 =>
Option.bind (range1 ((lenI x_cut) + 1)) fun x26 =>
Option.bind (mapO (fun (x28 : Int) => Option.bind (atI x19 x28) fun x37 => Option.bind (atI x19 (x28 + 1)) fun x39 => some (List.sum (sliceI x_row (some x37) (some x39)))) x26) fun x50 =>
some x50

def m__law_due (x_row : (List Int)) (x_many : Int) : Option (Option (Int × (List Int))) :=
Option.bind (m__law_cuts (lenI x_row) x_many) fun r3 =>
Option.bind (foldO (fun (x14 : (List Int)) (b12 : (Option (Int × (List Int)))) => Option.bind (m__law_sums x_row x14) fun r26 =>
Option.bind (maxO r26) fun x33 =>
Option.bind (minO r26) fun x35 =>
Option.bind (if (Option.isNone b12) then some true else Option.bind (b12) fun x40 => some (decide ((x33 - x35) < x40.1))) fun x47 =>
if x47 then (some (some ((x33 - x35), x14))) else
(some b12)) r3 (none : (Option (Int × (List Int))))) fun o17 =>
some o17

def m_need_pieces (x_row : (List Int)) (x_many : Int) : Option Unit :=
if ((!(isiO (x_many : Int) "int")) || ((isiO (x_many : Int) "bool") || (!((decide (1 ≤ x_many)) && (decide (x_many ≤ (lenI x_row))))))) then (none) else
some ()

def m_sums_to_places (x_row : (List Int)) : Option (List Int) :=
Option.bind (foldO (fun (x9 : Int) (b7 : (List Int)) => Option.bind (atI b7 (-1)) fun x20 =>
Option.bind (appO b7 (x20 + x9)) fun x22 =>
some x22) x_row ([0] : List Int)) fun o12 =>
some o12

def m_least_ends (x_ahead : (List Int)) (x_many : Int) (x_low : Int) : Option (List (Option Int)) :=
Option.bind (repO ([()] : List Unit) ((lenI x_ahead) - 1)) fun x7 =>
Option.bind (catO (List.map Co.f x7 : (List (Option Int))) (List.map Co.f ([0] : List Int) : (List (Option Int)))) fun x17 =>
Option.bind (range1 x_many) fun x24 =>
Option.bind (foldO (fun (x29 : Int) (b27 : (List (Option Int))) => Option.bind (repO ([()] : List Unit) (lenI x_ahead)) fun x45 =>
Option.bind (range1 ((lenI x_ahead) - 1)) fun x51 =>
Option.bind (foldO (fun (x57 : Int) (b55 : (List (Option Int))) => Option.bind (range2 (x57 + 1) (((lenI x_ahead) - 1) + 1)) fun x72 =>
Option.bind (foldO (fun (x77 : Int) (b75 : (List Int)) => Option.bind (atI x_ahead x77) fun x88 =>
Option.bind (atI x_ahead x57) fun x90 =>
Option.bind (if decide ((x88 - x90) ≥ x_low) then Option.bind (atI b27 x77) fun x95 => some ((!Option.isNone x95)) else some false) fun x100 =>
if x100 then (Option.bind (atI b27 x77) fun x106 =>
Option.bind (x106) fun x110 =>
Option.bind (appO b75 (max (x88 - x90) x110)) fun x113 =>
some x113) else
(some b75)) x72 ([] : List Int)) fun o80 =>
Option.bind (eqO (o80 : (List Int)) (([] : List Int) : (List Int))) fun x128 =>
if (!x128) then (Option.bind (minO o80) fun x131 =>
Option.bind (setO b55 x57 (some x131)) fun x133 =>
some x133) else
(some b55)) x51 (List.map Co.f x45 : (List (Option Int)))) fun o60 =>
some o60) x24 x17) fun o32 =>
some o32

def m_first_within (x_ahead : (List Int)) (x_many : Int) (x_low : Int) (x_high : Int) : Option (Option (List Int)) :=
Option.bind (range1 (((lenI x_ahead) - 1) + 1)) fun x4 =>
Option.bind (mapO (fun (x6 : Int) => some (decide (x6 = ((lenI x_ahead) - 1)))) x4) fun x20 =>
Option.bind (range1 x_many) fun x27 =>
Option.bind (foldO (fun (x32 : Int) (b30 : (List (List Bool))) => Option.bind (range1 (((lenI x_ahead) - 1) + 1)) fun x47 =>
Option.bind (foldO (fun (x52 : Int) (b50 : (List Bool)) => Option.bind (range2 (x52 + 1) (((lenI x_ahead) - 1) + 1)) fun x64 =>
Option.bind (cmpO (fun (x66 : Int) => Option.bind (atI b30 (-1)) fun x75 => Option.bind (atI x75 x66) fun x80 => if x80 then some (some x66) else some none) x64) fun x88 =>
Option.bind (cmpO (fun (x91 : Int) => Option.bind (atI x_ahead x91) fun x100 => Option.bind (atI x_ahead x52) fun x102 => if ((decide (x_low ≤ (x100 - x102))) && (decide ((x100 - x102) ≤ x_high))) then some (some x91) else some none) x88) fun x115 =>
Option.bind (eqO (x115 : (List Int)) (([] : List Int) : (List Int))) fun x122 =>
Option.bind (appO b50 (!x122)) fun x124 =>
some x124) x47 ([] : List Bool)) fun o55 =>
Option.bind (appO b30 o55) fun x135 =>
some x135) x27 ([x20] : List (List Bool))) fun o35 =>
Option.bind (atI o35 x_many) fun x145 =>
Option.bind (atI x145 0) fun x150 =>
if (!x150) then (some (none : (Option (List Int)))) else
Option.bind (rangeD (x_many - 1) 0) fun x157 =>
Option.bind (foldO (fun (x162 : Int) (b160 : (List Int)) => Option.bind (atI b160 (-1)) fun x173 =>
Option.bind (range2 (x173 + 1) (((lenI x_ahead) - 1) + 1)) fun x176 =>
Option.bind (cmpO (fun (x178 : Int) => Option.bind (atI o35 x162) fun x187 => Option.bind (atI x187 x178) fun x192 => if x192 then some (some x178) else some none) x176) fun x200 =>
Option.bind (cmpO (fun (x203 : Int) => Option.bind (atI x_ahead x203) fun x212 => Option.bind (atI x_ahead x173) fun x214 => if ((decide (x_low ≤ (x212 - x214))) && (decide ((x212 - x214) ≤ x_high))) then some (some x203) else some none) x200) fun x227 =>
Option.bind (atI x227 0) fun x230 =>
Option.bind (appO b160 x230) fun x232 =>
some x232) x157 ([0] : List Int)) fun o165 =>
some (some (sliceI o165 (some 1) none))

def m_least_spread (x_row : (List Int)) (x_many : Int) : Option (Int × (List Int)) :=
Option.bind (m_need_pieces x_row x_many) fun r3 =>
Option.bind (m_sums_to_places x_row) fun r9 =>
Option.bind (range1 (lenI x_row)) fun x20 =>
Option.bind (foldO (fun (x25 : Int) (b23 : (List Int)) => Option.bind (range2 (x25 + 1) ((lenI x_row) + 1)) fun x37 =>
Option.bind (mapO (fun (x39 : Int) => Option.bind (atI r9 x39) fun x48 => Option.bind (atI r9 x25) fun x50 => some (x48 - x50)) x37) fun x57 =>
Option.bind (catO b23 x57) fun x60 =>
some x60) x20 ([] : List Int)) fun o28 =>
Option.bind (ssetO o28) fun x70 =>
Option.bind (mapO (fun (x78 : Int) => Option.bind (m_least_ends r9 x_many x78) fun r87 => Option.bind (atI r87 0) fun x95 => some x95) x70) fun x104 =>
Option.bind (cmpO (fun (x107 : (Int × (Option Int))) => if (!Option.isNone x107.2) then Option.bind (x107.2) fun x121 => some (some (x121 - x107.1)) else some none) (List.zip x70 x104)) fun x129 =>
Option.bind (minO x129) fun x132 =>
Option.bind (mapO (fun (x134 : Int) => Option.bind (m_first_within r9 x_many x134 (x134 + x132)) fun r143 => some r143) x70) fun x154 =>
Option.bind (cmpO (fun (x157 : (Option (List Int))) => if (!Option.isNone x157) then Option.bind (x157) fun x167 => some (some x167) else some none) x154) fun x176 =>
Option.bind (minQ x176) fun x179 =>
some (x132, x179)

def m__law_told (x_found : (Int × (List Int))) (x_due : (Option (Int × (List Int)))) : Option Bool :=
if ((!(isiO (x_found : (Int × (List Int))) "tuple")) || ((!decide ((2 : Int) = 2)) || (!(isiO (x_found.2 : (List Int)) "list")))) then (some false) else
Option.bind (catO ([x_found.1] : List Int) x_found.2) fun x28 =>
Option.bind (cmpO (fun (x34 : Int) => if ((!(isiO (x34 : Int) "int")) || (isiO (x34 : Int) "bool")) then some (some x34) else some none) x28) fun x54 =>
Option.bind (eqO (x54 : (List Int)) (([] : List Int) : (List Int))) fun x61 =>
if (!x61) then (some false) else
Option.bind (eqO (x_found : (Int × (List Int))) (x_due : (Option (Int × (List Int))))) fun x64 =>
some x64

def m__law_right (x_row : (List Int)) (x_many : Int) (x_held : (List ((Int × (List Int)) × (Int × (List Int))))) : Option (Bool × (List ((Int × (List Int)) × (Int × (List Int))))) :=
Option.bind (m__law_due x_row x_many) fun r3 =>
Option.bind (m_least_spread x_row x_many) fun r12 =>
Option.bind (m__law_told (r12.1, r12.2) r3) fun r21 =>
Option.bind (if (!r21) then some true else Option.bind (eqO (x_row : (List Int)) (x_row : (List Int))) fun x30 => some ((!x30))) fun x32 =>
if x32 then (some (false, x_held)) else
Option.bind (m_least_spread x_row x_many) fun r38 =>
Option.bind (r3) fun x45 =>
Option.bind (appO x_held (r38, (x45.1, x45.2))) fun x64 =>
Option.bind (appO r12.2 0) fun x68 =>
Option.bind (appO x_row 7) fun x72 =>
Option.bind (m_least_spread x_row x_many) fun r76 =>
Option.bind (eqO (r76 : (Int × (List Int))) (x45 : (Int × (List Int)))) fun x83 =>
some (x83, x64)

def m_law (x_script : Scr) : Option Bool :=
Option.bind (m__law_cells x_script 8) fun r6 =>
Option.bind (forO (ρ := Bool) (fun (x16 : (Int × Int)) (b14 : (List ((Int × (List Int)) × (Int × (List Int))))) => Option.bind (m__law_hand x16.2 x16.1) fun r31 =>
Option.bind (m__law_size r31 x16.1 9 11) fun r38 =>
Option.bind (m__law_row r38.2 r38.1) fun r47 =>
Option.bind (range1 3) fun x58 =>
Option.bind (mapSO (fun (x60 : Int) (b69 : List Int) => Option.bind (m__law_many b69 r47.1) fun r70 => some (r70.1, r70.2)) x58 r47.2) fun x84 =>
Option.bind (if decide ((lenI r47.1) < 8) then (Option.bind (rangeL 1 ((lenI r47.1) + 1)) fun x90 =>
some x90) else (some x84.1) : Option ((List Int))) fun s87 =>
Option.bind (cmpSO (fun (x104 : Int) (b113 : List ((Int × (List Int)) × (Int × (List Int)))) => Option.bind (m__law_right r47.1 x104 b113) fun r117 => if (!r117.1) then some (some x104, r117.2) else some (none, r117.2)) s87 b14) fun x133 =>
Option.bind (eqO (x133.1 : (List Int)) (([] : List Int) : (List Int))) fun x140 =>
if (!x140) then (some (.ret false)) else
some (.go x133.2)) r6 ([] : List ((Int × (List Int)) × (Int × (List Int))))) fun o19 =>
match o19 with
| .ret r => some r
| .brk _ => none
| .go s144 => Option.bind (cmpO (fun (x149 : ((Int × (List Int)) × (Int × (List Int)))) => Option.bind (eqO (x149.1 : (Int × (List Int))) (x149.2 : (Int × (List Int)))) fun x165 => if (!x165) then some (some x149) else some none) s144) fun x173 =>
Option.bind (eqO (x173 : (List ((Int × (List Int)) × (Int × (List Int))))) (([] : List Int) : (List Int))) fun x180 =>
some x180
/-! ### minof -/
theorem lt_anti : ∀ {x y : List Int}, W.listLt x y = false → W.listLt y x = false → x = y
  | [], [], _, _ => rfl
  | [], _ :: _, h, _ => by cases h
  | _ :: _, [], _, h => by cases h
  | x :: xs, y :: ys, h, g => by
    rw [W.listLt] at h g
    by_cases e : x = y
    · subst e
      rw [if_pos rfl] at h g
      rw [lt_anti h g]
    · rw [if_neg e] at h
      rw [if_neg (Ne.symm e)] at g
      have h : decide (x < y) = false := h
      have g : decide (y < x) = false := g
      have := of_decide_eq_false h
      have := of_decide_eq_false g
      omega
theorem minOf_eq {α : Type} [DecidableEq α] [W.DatumOrd α] {t : α} : ∀ {xs : List α} {x : α}, t ∈ x :: xs → (∀ y ∈ x :: xs, W.DatumOrd.lt y t = false) → (∀ y ∈ x :: xs, W.DatumOrd.lt t y = false → y = t) → W.minOf x xs = t
  | [], x, h, _, _ => (List.mem_singleton.mp h).symm
  | y :: xs, x, h, h1, h2 => by
    show W.minOf (if W.DatumOrd.lt y x = true then y else x) xs = t
    refine minOf_eq ?_ (fun z hz => h1 z ?_) fun z hz => h2 z ?_
    · rcases List.mem_cons.mp h with h | h
      · subst h
        rw [if_neg (by rw [h1 y (by simp)]; exact Bool.false_ne_true)]
        exact List.mem_cons_self
      · rcases List.mem_cons.mp h with h | h
        · subst h
          by_cases hc : W.DatumOrd.lt t x = true
          · rw [if_pos hc]
            exact List.mem_cons_self
          · rw [if_neg hc, h2 x (by simp) (by simpa using hc)]
            exact List.mem_cons_self
        · exact List.mem_cons_of_mem _ h
    · rcases List.mem_cons.mp hz with hz | hz
      · rw [hz]
        split <;> simp
      · simp [hz]
    · rcases List.mem_cons.mp hz with hz | hz
      · rw [hz]
        split <;> simp
      · simp [hz]
/-! ### enums -/
theorem enum_at {α : Type} {xs : List α} {i : Nat} {x : Int × α} (h : (enumI 0 xs)[i]? = some x) : x.1 = i ∧ xs[i]? = some x.2 := by
  have key : ∀ (k : Int) (xs : List α) (i : Nat) (p : Int × α), (enumI k xs)[i]? = some p → p.1 = k + i ∧ xs[i]? = some p.2 := by
    intro k xs
    induction xs generalizing k with
    | nil => intro i p h; simp [enumI] at h
    | cons x xs ih =>
      intro i p h
      cases i with
      | zero => simp [enumI] at h; subst h; exact ⟨by simp, rfl⟩
      | succ i =>
        obtain ⟨h1, h2⟩ := ih (k + 1) i p (by simpa [enumI] using h)
        exact ⟨by rw [h1]; omega, by simpa using h2⟩
  have := key 0 xs i x h
  simpa using this
theorem enum_len {α : Type} (xs : List α) : (enumI 0 xs).length = xs.length := by
  have key : ∀ (k : Int) (xs : List α), (enumI k xs).length = xs.length := by
    intro k xs
    induction xs generalizing k with
    | nil => rfl
    | cons x xs ih => exact congrArg (· + 1) (ih (k + 1))
  exact key 0 xs
/-! ### pl -/
/-! places of a ring -/
def Pl (n : Int) (ps : List Int) : Prop := ps.Pairwise (· < ·) ∧ ∀ p ∈ ps, 0 ≤ p ∧ p < n
/-! sums around a ring -/
def ringG (a : Nat → Int) (n x : Nat) : Int := if x ≤ n then pre a x else pre a n + pre a (x - n)
theorem ringG_step {a : Nat → Int} {n x : Nat} (h : x < 2 * n) : ringG a n (x + 1) = ringG a n x + a (x % n) := by
  unfold ringG
  by_cases h1 : x + 1 ≤ n
  · rw [if_pos h1, if_pos (by omega), Nat.mod_eq_of_lt (by omega)]
    rfl
  · rw [if_neg h1]
    have e : x % n = x - n := by rw [Nat.mod_eq_sub_mod (by omega), Nat.mod_eq_of_lt (by omega)]
    rw [e]
    by_cases h2 : x ≤ n
    · have : x = n := by omega
      subst this
      rw [if_pos (Nat.le_refl _), show x + 1 - x = (x - x) + 1 by omega, pre, Nat.sub_self]
      show _ + (0 + _) = _
      omega
    · rw [if_neg h2, show x + 1 - n = (x - n) + 1 by omega, pre]
      omega
/-- where a ring's piece ends -/
def ringE (ps : List Int) (n t : Nat) : Nat := if t + 1 < ps.length then (rowF ps (t + 1)).toNat else (rowF ps 0).toNat + n
def ringS (ns ps : List Int) (t : Nat) : Int := ringG (rowF ns) ns.length (ringE ps ns.length t) - ringG (rowF ns) ns.length (rowF ps t).toNat
theorem pl_at {n : Int} {ps : List Int} (h : Pl n ps) {t : Nat} (ht : t < ps.length) : ps[t]? = some (rowF ps t) ∧ 0 ≤ rowF ps t ∧ rowF ps t < n := by
  have e := List.getElem?_eq_getElem ht
  have e2 := rowF_get e
  rw [e, e2]
  exact ⟨rfl, h.2 _ (List.getElem_mem ht)⟩
theorem pl_lt {n : Int} {ps : List Int} (h : Pl n ps) {s t : Nat} (hst : s < t) (ht : t < ps.length) : rowF ps s < rowF ps t := by
  rw [rowF_get (List.getElem?_eq_getElem (show s < ps.length by omega)), rowF_get (List.getElem?_eq_getElem ht)]
  exact (List.pairwise_iff_getElem.mp h.1) s t (by omega) ht hst
theorem pl_le {n : Int} {ps : List Int} (h : Pl n ps) {t : Nat} (ht : t < ps.length) : rowF ps 0 ≤ rowF ps t := by
  rcases Nat.eq_zero_or_pos t with rfl | h0
  · exact Int.le_refl _
  · exact Int.le_of_lt (pl_lt h h0 ht)
theorem ringE_bnd {n : Nat} {ps : List Int} (h : Pl n ps) {t : Nat} (ht : t < ps.length) : (rowF ps t).toNat < ringE ps n t ∧ ringE ps n t ≤ (rowF ps t).toNat + n := by
  unfold ringE
  have h1 := (pl_at h ht).2
  split
  · rename_i h2
    have h3 := (pl_at h h2).2
    have h4 := pl_lt h (show t < t + 1 by omega) h2
    omega
  · have h3 := pl_le h ht
    have h4 := (pl_at h (show 0 < ps.length by omega)).2
    omega
/-- the place after the last figure -/
theorem ringE_end {n : Nat} {ps : List Int} (h : Pl n ps) {t : Nat} (ht : t < ps.length) : ((ringE ps n t % n : Nat) : Int) = rowF ps ((t + 1) % ps.length) := by
  unfold ringE
  split
  · rename_i h2
    have h3 := (pl_at h h2).2
    rw [Nat.mod_eq_of_lt (by omega), Nat.mod_eq_of_lt h2]
    omega
  · have h4 := (pl_at h (show 0 < ps.length by omega)).2
    rw [show t + 1 = ps.length by omega, Nat.mod_self, Nat.add_mod_right, Nat.mod_eq_of_lt (by omega)]
    omega
theorem whileN_ok {β ρ : Type} {f : β → Option (Ctl ρ β)} {b0 : β} {n : Nat} (N : Nat) (I : Nat → β → Prop) (E : β → Prop) (h0 : I 0 b0) (hn : N < n)
    (hs : ∀ k b, k ≤ N → I k b → OkP (f b) fun o => (∃ b', o = .go b' ∧ k < N ∧ I (k + 1) b') ∨ ∃ b', o = .brk b' ∧ E b') : OkP (whileO f n b0) fun o => ∃ b, o = .go b ∧ E b := by
  have key : ∀ (n k : Nat) (b : β), k ≤ N → N - k < n → I k b → OkP (whileO f n b) fun o => ∃ b, o = .go b ∧ E b := by
    intro n
    induction n with
    | zero => intro k b _ h; omega
    | succ n ih =>
      intro k b hk hn hb
      obtain ⟨o, e, h⟩ := hs k b hk hb
      rw [whileO, e]
      rcases h with ⟨b', rfl, h1, h2⟩ | ⟨b', rfl, h1⟩
      · exact ih (k + 1) b' (by omega) (by omega) h2
      · exact ⟨_, rfl, b', rfl, h1⟩
  exact key n 0 b0 (by omega) (by omega) h0
/-! ### cut -/
/-! cuts, pieces, sums of the program -/
theorem slice_sum {ns : List Int} {p e : Nat} (h : p ≤ e) (he : e ≤ ns.length) : (sliceI ns (some (p : Int)) (some (e : Int))).sum = pre (rowF ns) e - pre (rowF ns) p := by
  rw [sliceI_mid (by omega) (by omega) (by omega), Int.toNat_natCast, Int.toNat_natCast, sum_part h he]
/-- the pieces -/
def piecesC (ns : List Int) : Nat → List Int → List (List Int)
  | p, [] => [sliceI ns (some (p : Int)) (some (ns.length : Int))]
  | p, x :: c => sliceI ns (some (p : Int)) (some x) :: piecesC ns x.toNat c
theorem pieces_zip (ns : List Int) : ∀ (c : List Int) (p : Nat) {R : Nat → Nat → Prop}, Ct R ns.length p c →
    (List.zip ((p : Int) :: c) (c ++ [(ns.length : Int)])).map (fun x => sliceI ns (some x.1) (some x.2)) = piecesC ns p c
  | [], p, _, _ => rfl
  | x :: c, p, R, h => by
    obtain ⟨e, rfl, h1, h2, h3, h4⟩ := h
    show _ :: (List.zip ((e : Int) :: c) (c ++ [(ns.length : Int)])).map _ = _
    rw [pieces_zip ns c e h4]
    rfl
theorem pieces_sums (ns : List Int) : ∀ (c : List Int) (p : Nat) {R : Nat → Nat → Prop}, Ct R ns.length p c → (piecesC ns p c).map List.sum = sumsC (rowF ns) ns.length p c
  | [], p, _, h => by
    rw [piecesC, List.map_singleton, slice_sum (Nat.le_of_lt h.1) (Nat.le_refl _)]
    rfl
  | x :: c, p, R, h => by
    obtain ⟨e, rfl, h1, h2, h3, h4⟩ := h
    rw [piecesC, List.map_cons, slice_sum (by omega) (by omega), Int.toNat_natCast, pieces_sums ns c e h4, sumsC, Int.toNat_natCast]
theorem piecesC_len (ns : List Int) : ∀ (c : List Int) (p : Nat), (piecesC ns p c).length = c.length + 1
  | [], _ => rfl
  | x :: c, p => congrArg (· + 1) (piecesC_len ns c x.toNat)
/-! ### mapi -/
theorem mapI_ok {α γ : Type} {f : α → Option γ} : ∀ {xs : List α} (P : Nat → α → γ → Prop), xs.length ≤ 16777216 → (∀ (i : Nat) x, xs[i]? = some x → OkP (f x) (P i x)) → OkP (mapO f xs) fun ys => ys.length = xs.length ∧ ∀ (i : Nat) x, xs[i]? = some x → ∃ y, ys[i]? = some y ∧ P i x y := by
  intro xs P hz h
  rw [mapO, if_pos (show xs.length ≤ sizeLine from hz)]
  clear hz
  induction xs generalizing P with
  | nil => exact ⟨_, rfl, rfl, fun i x h => by simp at h⟩
  | cons x xs ih =>
    obtain ⟨y, e, hy⟩ := h 0 x rfl
    obtain ⟨ys, e2, h3, h4⟩ := ih (fun i => P (i + 1)) fun i z hz => h (i + 1) z (by simpa using hz)
    refine ⟨y :: ys, ?_, ?_, fun i z hz => ?_⟩
    · rw [mapG, e]
      show (mapG f xs).bind _ = _
      rw [e2]
      rfl
    · show ys.length + 1 = xs.length + 1
      rw [h3]
    · cases i with
      | zero =>
        simp at hz
        subst hz
        exact ⟨y, rfl, hy⟩
      | succ i =>
        obtain ⟨w, g1, g2⟩ := h4 i z (by simpa using hz)
        exact ⟨w, by simpa using g1, g2⟩
/-! ### lawcutO -/
/-! all cuts gone through, in order -/
theorem lt_snoc : ∀ {x y : List Int} {a b : List Int}, W.listLt x y = true → x.length = y.length → W.listLt (x ++ a) (y ++ b) = true
  | [], [], _, _, h, _ => by cases h
  | p :: x, q :: y, a, b, h, hl => by
    rw [W.listLt] at h
    rw [List.cons_append, List.cons_append, W.listLt]
    by_cases e : p = q
    · rw [if_pos e] at h ⊢
      exact lt_snoc h (by simpa using hl)
    · rw [if_neg e] at h ⊢
      exact h
theorem lt_snoc_same {z z' : Int} : ∀ {x : List Int}, W.listLt (x ++ [z]) (x ++ [z']) = true ↔ z < z'
  | [] => by
    rw [List.nil_append, List.nil_append, W.listLt]
    by_cases e : z = z'
    · rw [if_pos e]
      constructor
      · intro h
        cases h
      · intro h
        omega
    · rw [if_neg e]
      exact decide_eq_true_iff
  | p :: x => by
    rw [List.cons_append, List.cons_append, W.listLt, if_pos rfl]
    exact lt_snoc_same
theorem rangeF_pw (lo : Int) : ∀ n, (rangeF lo n).Pairwise (· < ·)
  | 0 => List.Pairwise.nil
  | n + 1 => by
    rw [rangeF_snoc, List.pairwise_append]
    refine ⟨rangeF_pw lo n, by simp, fun a ha b hb => ?_⟩
    have := mem_rangeF ha
    rw [List.mem_singleton.mp hb]
    omega
theorem Ct_srt {n : Nat} : ∀ {c : List Int} {x : Nat}, x < n → ((x : Int) :: c).Pairwise (· < ·) → (∀ y ∈ c, y < n) → Ct Any n x c
  | [], x, h, _, _ => ⟨h, trivial⟩
  | y :: c, x, h, hp, hc => by
    have h1 := (List.pairwise_cons.mp hp).1 y List.mem_cons_self
    have h2 := hc y List.mem_cons_self
    obtain ⟨e, rfl⟩ : ∃ e : Nat, y = (e : Int) := ⟨y.toNat, by omega⟩
    exact ⟨e, rfl, by omega, by omega, trivial, Ct_srt (by omega) (List.pairwise_cons.mp hp).2 fun z hz => hc z (List.mem_cons_of_mem _ hz)⟩
theorem Ct_pwl {R : Nat → Nat → Prop} {n : Nat} : ∀ {c : List Int} {x : Nat}, Ct R n x c → ((x : Int) :: c).Pairwise (· < ·)
  | [], x, _ => by simp
  | y :: c, x, h => by
    have hm := h.mem
    obtain ⟨e, rfl, h1, h2, _, h4⟩ := h
    rw [List.pairwise_cons]
    exact ⟨fun z hz => (hm z hz).1, Ct_pwl h4⟩
theorem pl_ct {n : Nat} {c : List Int} (hn : 0 < n) : Pl n ((0 : Int) :: c) ↔ Ct Any n 0 c := by
  constructor
  · rintro ⟨h1, h2⟩
    exact Ct_srt hn h1 fun y hy => (h2 y (List.mem_cons_of_mem _ hy)).2
  · intro h
    refine ⟨Ct_pwl h, fun y hy => ?_⟩
    rcases List.mem_cons.mp hy with rfl | hy
    · omega
    · have := h.mem y hy
      omega
theorem pl_snc {n x : Int} {ps : List Int} : Pl n (ps ++ [x]) ↔ Pl n ps ∧ 0 ≤ x ∧ x < n ∧ ∀ a ∈ ps, a < x := by
  unfold Pl
  rw [List.pairwise_append]
  constructor
  · rintro ⟨⟨h1, _, h3⟩, h4⟩
    exact ⟨⟨h1, fun p hp => h4 p (by simp [hp])⟩, (h4 x (by simp)).1, (h4 x (by simp)).2, fun a ha => h3 a ha x (by simp)⟩
  · rintro ⟨⟨h1, h2⟩, h3, h4, h5⟩
    refine ⟨⟨h1, by simp, fun a ha b hb => by rw [List.mem_singleton.mp hb]; exact h5 a ha⟩, fun p hp => ?_⟩
    rcases List.mem_append.mp hp with hp | hp
    · exact h2 p hp
    · rw [List.mem_singleton.mp hp]
      exact ⟨h3, h4⟩
theorem mem_rangeFi {n : Nat} {lo x : Int} : x ∈ rangeF lo n ↔ lo ≤ x ∧ x < lo + n := by
  refine ⟨mem_rangeF, fun h => ?_⟩
  have := rangeF_at (lo := lo) (n := n) (i := (x - lo).toNat) (by omega)
  have e : lo + ((x - lo).toNat : Int) = x := by omega
  rw [e] at this
  exact List.mem_of_getElem? this
theorem lawcutso_ok {n k : Nat} (hn : n ≤ 11) (hk : k + 1 ≤ n) : OkP (m__law_cuts n ((k : Int) + 1)) fun t => t.length ≤ 16777216 ∧ (∀ c : List Int, c ∈ t ↔ Ct Any n 0 c ∧ c.length = k) ∧ t.Pairwise (fun x y => W.listLt x y = true) := by
  unfold m__law_cuts
  refine Ok.bindE (rangeD_s (by omega) (by omega) (by decide) (by decide)) ?_
  have hlen : (rangeB ((k : Int) + 1 - 1) ((k : Int) + 1 - 1 - 0).toNat).length = k := by rw [rangeB_len]; omega
  have hpow : (n - k) ^ k ≤ 16384 := (by decide : ∀ n, n < 12 → ∀ k, k < n → (n - k) ^ k ≤ 16384) n (by omega) k (by omega)
  refine Ok.bind (Ok.foldI (fun i (t : List (List Int)) => t.length ≤ (n - k) ^ i ∧ (∀ x : List Int, x ∈ t ↔ Pl ((n - k + i : Nat) : Int) x ∧ x.length = i + 1 ∧ x[0]? = some 0) ∧ t.Pairwise (fun x y => W.listLt x y = true)) ⟨Nat.le_refl _, fun x => ?_, List.pairwise_singleton _ _⟩ fun i x t hx ht => ?_) fun t ht => ?_
  · constructor
    · intro h
      rw [List.mem_singleton.mp h]
      exact ⟨⟨by simp, fun p hp => by rw [List.mem_singleton.mp hp]; omega⟩, rfl, rfl⟩
    · rintro ⟨_, h2, h3⟩
      match x, h2, h3 with
      | [y], _, h3 =>
        have : y = 0 := by simpa using h3
        rw [this]
        exact List.mem_cons_self
  · obtain ⟨hi, rfl⟩ := rangeB_get _ _ _ _ hx
    have hi : i < k := by omega
    obtain ⟨t1, t2, t3⟩ := ht
    have h8i : (n - k) ^ (i + 1) ≤ (n - k) ^ k := Nat.pow_le_pow_right (by omega) (by omega)
    have h8s : (n - k) ^ (i + 1) = (n - k) ^ i * (n - k) := Nat.pow_succ ..
    have hleft : (k : Int) + 1 - 1 - (i : Nat) = ((k - i : Nat) : Int) := by omega
    rw [hleft]
    have htop : (n : Int) - ((k - i : Nat) : Int) + 1 = ((n - k + (i + 1) : Nat) : Int) := by omega
    rw [htop]
    refine Ok.bind (Ok.foldI (fun j (u : List (List Int)) => u.length ≤ j * (n - k) ∧ (∀ q : List Int, q ∈ u ↔ ∃ (x : List Int) (z : Int), x ∈ t.take j ∧ q = x ++ [z] ∧ (∀ a ∈ x, a < z) ∧ z < ((n - k + (i + 1) : Nat) : Int)) ∧ u.Pairwise (fun x y => W.listLt x y = true)) ⟨by simp, fun q => ?_, List.Pairwise.nil⟩ fun j x u hj hu => ?_) fun u hu => Ok.some ⟨?_, fun q => ?_, hu.2.2⟩
    · constructor
      · intro h
        cases h
      · rintro ⟨x, z, h, _⟩
        simp at h
    · have hjl := (List.getElem?_eq_some_iff.mp hj).1
      obtain ⟨u1, u2, u3⟩ := hu
      obtain ⟨m1, m2, m3⟩ := (t2 x).mp (List.mem_of_getElem? hj)
      have hne : x ≠ [] := List.ne_nil_of_length_pos (by omega)
      have hlast : atI x (-1) = some (x.getLast hne) := by
        refine atI_neg1 (n := i) ?_ m2
        rw [List.getLast_eq_getElem, List.getElem?_eq_getElem (by omega)]
        congr 2
        omega
      have hbig : ∀ z : Int, (∀ a ∈ x, a < z) ↔ x.getLast hne + 1 ≤ z := fun z => by
        constructor
        · intro h
          have := h _ (List.getLast_mem hne)
          omega
        · intro h a ha
          have e := List.dropLast_concat_getLast hne
          rw [← e] at ha
          rcases List.mem_append.mp ha with ha | ha
          · have hp := m1.1
            rw [← e, List.pairwise_append] at hp
            have := hp.2.2 a ha _ (List.mem_singleton.mpr rfl)
            omega
          · rw [List.mem_singleton.mp ha]
            omega
      have hl0 := m1.2 _ (List.getLast_mem hne)
      have hli : (i : Int) ≤ x.getLast hne := by
        have hx0 : ∃ c, x = 0 :: c := by
          cases x with
          | nil => cases m2
          | cons y c => exact ⟨c, by rw [show y = 0 by simpa using m3]⟩
        obtain ⟨c, hxc⟩ := hx0
        obtain ⟨g, hg⟩ : ∃ g, g = x.getLast hne := ⟨_, rfl⟩
        rw [← hg] at hl0 hbig ⊢
        have hp : Pl ((g.toNat + 1 : Nat) : Int) x := ⟨m1.1, fun p hp => ⟨(m1.2 p hp).1, by have := (hbig (g + 1)).mpr (Int.le_refl _) p hp; omega⟩⟩
        rw [hxc] at hp m2
        have := ((pl_ct (by omega)).mp hp).len
        simp at m2
        omega
      have hjs : j * (n - k) + (n - k) = (j + 1) * (n - k) := (Nat.succ_mul ..).symm
      have hju : (j + 1) * (n - k) ≤ (n - k) ^ i * (n - k) := Nat.mul_le_mul_right _ (by omega)
      have hcross : ∀ y ∈ t.take j, W.listLt y x = true := fun y hy => by
        have h := List.Pairwise.sublist (List.take_sublist (j + 1) t) t3
        rw [List.take_add_one, hj] at h
        exact (List.pairwise_append.mp h).2.2 y hy x (by simp)
      refine Ok.bindE hlast (Ok.bindE (range2_s (by omega) (by omega) (by omega) (by omega)) (Ok.bindE (mapO_eq (g := fun z => x ++ [z]) (by rw [rangeF_len]; show _ ≤ 16777216; omega) fun z _ => by rw [catO_s (by simp; omega)]; rfl) (Ok.bindE (catO_s (by rw [List.length_map, rangeF_len]; omega)) (Ok.some ⟨?_, fun q => ?_, ?_⟩))))
      · rw [List.length_append, List.length_map, rangeF_len]
        omega
      rotate_left
      · refine List.pairwise_append.mpr ⟨u3, List.pairwise_map.mpr ((rangeF_pw _ _).imp fun h => lt_snoc_same.mpr h), fun a ha b hb => ?_⟩
        obtain ⟨y, z, g1, rfl, _⟩ := (u2 a).mp ha
        obtain ⟨z', _, rfl⟩ := List.mem_map.mp hb
        exact lt_snoc (hcross y g1) (by rw [((t2 y).mp (List.mem_of_mem_take g1)).2.1, m2])
      · rw [List.mem_append, u2, List.mem_map, List.take_add_one, hj]
        constructor
        · rintro (⟨y, z, g1, g2, g3⟩ | ⟨z, g1, g2⟩)
          · exact ⟨y, z, List.mem_append_left _ g1, g2, g3⟩
          · have := mem_rangeFi.mp g1
            exact ⟨x, z, List.mem_append_right _ (by simp), g2.symm, (hbig z).mpr (by omega), by omega⟩
        · rintro ⟨y, z, g1, g2, g3, g4⟩
          rcases List.mem_append.mp g1 with g1 | g1
          · exact .inl ⟨y, z, g1, g2, g3, g4⟩
          · have : y = x := by simpa using g1
            subst this
            have := (hbig z).mp g3
            exact .inr ⟨z, mem_rangeFi.mpr (by omega), g2.symm⟩
    · have := hu.1
      have : t.length * (n - k) ≤ (n - k) ^ i * (n - k) := Nat.mul_le_mul_right _ t1
      omega
    · rw [hu.2.1, List.take_length]
      constructor
      · rintro ⟨x, z, g1, rfl, g3, g4⟩
        obtain ⟨p1, p2, p3⟩ := (t2 x).mp g1
        have hx0 : (0 : Int) ∈ x := List.mem_of_getElem? p3
        have := g3 0 hx0
        refine ⟨pl_snc.mpr ⟨⟨p1.1, fun a ha => by have := p1.2 a ha; omega⟩, by omega, g4, g3⟩, by simp [p2], ?_⟩
        rw [List.getElem?_append_left (by omega)]
        exact p3
      · rintro ⟨p1, p2, p3⟩
        have hne : q ≠ [] := List.ne_nil_of_length_pos (by omega)
        have e := List.dropLast_concat_getLast hne
        have hdl : q.dropLast.length = i + 1 := by rw [List.length_dropLast]; omega
        rw [← e] at p1 p3
        obtain ⟨q1, q2, q3, q4⟩ := pl_snc.mp p1
        refine ⟨q.dropLast, q.getLast hne, (t2 _).mpr ⟨⟨q1.1, fun a ha => ?_⟩, hdl, ?_⟩, e.symm, q4, q3⟩
        · have := q1.2 a ha
          have := q4 a ha
          omega
        · rwa [List.getElem?_append_left (by omega)] at p3
  · rw [hlen] at ht
    obtain ⟨t1, t2, t3⟩ := ht
    have hsl : ∀ x : List Int, sliceI x (some 1) none = x.drop 1 := fun x => by
      rw [sliceI_from (by decide)]
      rfl
    refine Ok.bindE (mapO_eq (g := fun x : List Int => x.drop 1) (by show _ ≤ 16777216; omega) fun x _ => by rw [hsl]) (Ok.some ⟨by rw [List.length_map]; omega, fun c => ?_, ?_⟩)
    rotate_left
    · rw [List.pairwise_map]
      refine List.Pairwise.imp_of_mem (fun {x y} hx hy h => ?_) t3
      obtain ⟨_, p2, p3⟩ := (t2 x).mp hx
      obtain ⟨_, q2, q3⟩ := (t2 y).mp hy
      match x, p3, y, q3, h with
      | a :: c, p3, b :: d, q3, h =>
        have ha : a = 0 := by simpa using p3
        have hb : b = 0 := by simpa using q3
        subst ha
        subst hb
        rw [W.listLt, if_pos rfl] at h
        exact h
    rw [List.mem_map]
    rw [show n - k + k = n by omega] at t2
    constructor
    · rintro ⟨x, hx, rfl⟩
      obtain ⟨p1, p2, p3⟩ := (t2 x).mp hx
      match x, p2, p3, p1 with
      | y :: c, p2, p3, p1 =>
        have : y = 0 := by simpa using p3
        subst this
        exact ⟨(pl_ct (by omega)).mp p1, by simpa using p2⟩
    · rintro ⟨p1, p2⟩
      exact ⟨(0 : Int) :: c, (t2 _).mpr ⟨(pl_ct (by omega)).mpr p1, by simp [p2], rfl⟩, rfl⟩
theorem lawsm_ok {ns c : List Int} (hl : ns.length ≤ 3000) (h : Ct Any ns.length 0 c) : m__law_sums ns c = some (sumsC (rowF ns) ns.length 0 c) := by
  have hL : lenI ns = (ns.length : Int) := rfl
  have hC : lenI c = (c.length : Int) := rfl
  have hlc := h.len
  have hz := pieces_zip ns c 0 h
  unfold m__law_sums
  refine Ok.eq (Ok.bindE (catO_s (by simp; omega)) (Ok.bindE (catO_s (by simp; omega)) (Ok.bindE (range1_s (by omega) (by omega)) (Ok.bind (mapI_ok (fun i _ (y : Int) => ((List.zip (((0 : Nat) : Int) :: c) (c ++ [(ns.length : Int)])).map (fun x => sliceI ns (some x.1) (some x.2)))[i]? = none ∨ ∃ p, ((List.zip (((0 : Nat) : Int) :: c) (c ++ [(ns.length : Int)])).map (fun x => sliceI ns (some x.1) (some x.2)))[i]? = some p ∧ y = p.sum) (by rw [rangeF_len]; omega) fun i x hx => ?_) fun ys hys => Ok.some ?_))))
  · obtain ⟨hi, rfl⟩ := rangeF_get _ _ _ _ hx
    have hi : i ≤ c.length := by omega
    obtain ⟨u, g1⟩ : ∃ u, (((0 : Nat) : Int) :: c)[i]? = some u := ⟨_, List.getElem?_eq_getElem (by simp; omega)⟩
    obtain ⟨v, g2⟩ : ∃ v, (c ++ [(ns.length : Int)])[i]? = some v := ⟨_, List.getElem?_eq_getElem (by simp; omega)⟩
    have g3 : (List.zip (((0 : Nat) : Int) :: c) (c ++ [(ns.length : Int)]))[i]? = some (u, v) := List.getElem?_zip_eq_some.mpr ⟨g1, g2⟩
    have e1 : atI ([0] ++ c ++ [lenI ns]) (0 + (i : Int)) = some u := by
      refine atI_get (n := i) ?_ (by omega)
      rw [List.getElem?_append_left (by simp; omega)]
      exact g1
    have e2 : atI ([0] ++ c ++ [lenI ns]) (0 + (i : Int) + 1) = some v := by
      refine atI_get (n := i + 1) ?_ (by omega)
      show ((0 : Int) :: (c ++ [lenI ns]))[i + 1]? = _
      rw [List.getElem?_cons_succ]
      exact g2
    refine Ok.bindE e1 (Ok.bindE e2 (Ok.some (.inr ⟨_, ?_, rfl⟩)))
    rw [List.getElem?_map, g3]
    rfl
  · obtain ⟨y1, y2⟩ := hys
    rw [rangeF_len] at y1
    rw [hz] at y2
    rw [← pieces_sums ns c 0 h]
    have hpl := piecesC_len ns c 0
    refine List.ext_getElem? fun i => ?_
    rw [List.getElem?_map]
    by_cases hi : i < c.length + 1
    · obtain ⟨y, g1, g2⟩ := y2 i _ (rangeF_at (by omega))
      rcases g2 with g2 | ⟨p, g2, g3⟩
      · rw [List.getElem?_eq_none_iff] at g2
        omega
      · rw [g1, g2, g3]
        rfl
    · rw [List.getElem?_eq_none (by omega), List.getElem?_eq_none (by omega)]
      rfl
/-! ### nearends -/
/-! near.py: the least greatest sum among cuts with all sums at least low; the first cut within two bounds -/
def RO (a : Nat → Int) (lo hi : Int) (p e : Nat) : Prop := lo ≤ pre a e - pre a p ∧ pre a e - pre a p ≤ hi
theorem stp_ok {ns : List Int} (hl : ns.length ≤ 3000) : m_sums_to_places ns = some (tabI (pre (rowF ns)) (ns.length + 1)) := by
  unfold m_sums_to_places
  refine Ok.eq (Ok.bind (Ok.foldI (fun i b => b = tabI (pre (rowF ns)) (i + 1)) rfl fun i x b hx hb => ?_) fun b hb => Ok.some hb)
  subst hb
  have hi := (List.getElem?_eq_some_iff.mp hx).1
  refine Ok.bindE (tabI_lastP _ _) (Ok.bindE (appO_s (by rw [tabI_len]; omega)) (Ok.some ?_))
  rw [← tabI_succ _ (i + 1), ← rowF_get hx]
  rfl
/-- the table's word of k pieces from p on -/
def IsE (a : Nat → Int) (n : Nat) (lo : Int) (k p : Nat) (o : Option Int) : Prop := (∀ v, o = some v → 0 ≤ v) ∧ ∀ b, 0 ≤ b → (path (RO a lo b) k p n ↔ ∃ v, o = some v ∧ v ≤ b)
theorem ends_row {ns : List Int} {lo : Int} {j k : Nat} {F : List (Option Int)} (hl : ns.length ≤ 3000) (hn : ∀ n ∈ ns, 0 ≤ n) (hj : j < ns.length) (hF : F.length = ns.length + 1) (hF2 : ∀ p, p ≤ ns.length → ∃ o, F[p]? = some o ∧ IsE (rowF ns) ns.length lo k p o) :
    OkP (foldO (fun (x77 : Int) (b75 : (List Int)) => Option.bind (atI (tabI (pre (rowF ns)) (ns.length + 1)) x77) fun x88 =>
Option.bind (atI (tabI (pre (rowF ns)) (ns.length + 1)) (j : Int)) fun x90 =>
Option.bind (if decide ((x88 - x90) ≥ lo) then Option.bind (atI F x77) fun x95 => some ((!Option.isNone x95)) else some false) fun x100 =>
if x100 then (Option.bind (atI F x77) fun x106 =>
Option.bind (x106) fun x110 =>
Option.bind (appO b75 (max (x88 - x90) x110)) fun x113 =>
some x113) else
(some b75)) (rangeF ((j : Int) + 1) (ns.length - j)) ([] : List Int)) fun S => S.length ≤ 3000 ∧ (∀ s ∈ S, 0 ≤ s) ∧ ∀ b, 0 ≤ b → ((∃ s ∈ S, s ≤ b) ↔ path (RO (rowF ns) lo b) (k + 1) j ns.length) := by
  have hnn := rowF_nonneg (ns := ns) hn
  refine Ok.mono (Ok.foldI (fun c S => S.length ≤ c ∧ (∀ s ∈ S, 0 ≤ s) ∧ ∀ b, 0 ≤ b → ((∃ s ∈ S, s ≤ b) ↔ ∃ e, j < e ∧ e ≤ j + c ∧ RO (rowF ns) lo b j e ∧ path (RO (rowF ns) lo b) k e ns.length)) ⟨Nat.le_refl _, (fun s hs => nomatch hs), fun b _ => ⟨fun ⟨s, hs, _⟩ => (nomatch hs), fun ⟨e, h1, h2, _⟩ => by omega⟩⟩ fun c x S hx hS => ?_) fun S hS => ?_
  · obtain ⟨hc, rfl⟩ := rangeF_get _ _ _ _ hx
    obtain ⟨S1, S2, S3⟩ := hS
    obtain ⟨o, ho1, ho2, ho3⟩ := hF2 (j + 1 + c) (by omega)
    have hs0 := pre_mono hnn (show j ≤ j + 1 + c by omega) (by omega)
    refine Ok.bindE (tabI_atP (by omega) (by omega)) (Ok.bindE (tabI_atP (by omega) (by omega)) ?_)
    rw [show ((j : Int) + 1 + (c : Nat)).toNat = j + 1 + c by omega, Int.toNat_natCast]
    have hat : atI F ((j : Int) + 1 + (c : Nat)) = some o := atI_get ho1 (by omega)
    have stay : (∀ b, 0 ≤ b → ¬ (RO (rowF ns) lo b j (j + 1 + c) ∧ path (RO (rowF ns) lo b) k (j + 1 + c) ns.length)) → (S.length ≤ c + 1 ∧ (∀ s ∈ S, 0 ≤ s) ∧ ∀ b, 0 ≤ b → ((∃ s ∈ S, s ≤ b) ↔ ∃ e, j < e ∧ e ≤ j + (c + 1) ∧ RO (rowF ns) lo b j e ∧ path (RO (rowF ns) lo b) k e ns.length)) := fun hno => ⟨by omega, S2, fun b hb => by
      rw [S3 b hb]
      constructor
      · rintro ⟨e, e1, e2, e3⟩
        exact ⟨e, e1, by omega, e3⟩
      · rintro ⟨e, e1, e2, e3⟩
        by_cases he : e ≤ j + c
        · exact ⟨e, e1, he, e3⟩
        · have : e = j + 1 + c := by omega
          subst this
          exact (hno b hb e3).elim⟩
    refine Ok.bind (P := fun q => q = (decide ((pre (rowF ns) (j + 1 + c) - pre (rowF ns) j) ≥ lo) && !o.isNone)) (Ok.ite (fun h => Ok.bindE hat (Ok.some (by rw [h, Bool.true_and]))) fun h => Ok.some (by rw [h, Bool.false_and])) fun q hq => ?_
    subst hq
    refine Ok.ite (fun h => ?_) fun h => Ok.some (stay fun b hb ⟨z1, z2⟩ => ?_)
    · rw [Bool.and_eq_true] at h
      have h1 := of_decide_eq_true h.1
      cases o with
      | none => cases h.2
      | some v =>
        have hv := ho2 v rfl
        refine Ok.bindE hat (Ok.bindE (x := v) rfl (Ok.bindE (appO_s (by omega)) (Ok.some ⟨by rw [List.length_append]; simp; omega, fun s hs => ?_, fun b hb => ?_⟩)))
        · rcases List.mem_append.mp hs with hs | hs
          · exact S2 s hs
          · rw [List.mem_singleton.mp hs]
            omega
        · constructor
          · rintro ⟨s, hs, h⟩
            rcases List.mem_append.mp hs with hs | hs
            · obtain ⟨e, e1, e2, e3⟩ := (S3 b hb).mp ⟨s, hs, h⟩
              exact ⟨e, e1, by omega, e3⟩
            · rw [List.mem_singleton.mp hs] at h
              exact ⟨j + 1 + c, by omega, by omega, ⟨h1, by omega⟩, (ho3 b hb).mpr ⟨v, rfl, by omega⟩⟩
          · rintro ⟨e, e1, e2, e3⟩
            by_cases he : e ≤ j + c
            · obtain ⟨s, hs, h⟩ := (S3 b hb).mpr ⟨e, e1, he, e3⟩
              exact ⟨s, List.mem_append_left _ hs, h⟩
            · have : e = j + 1 + c := by omega
              subst this
              obtain ⟨v', hv1, hv2⟩ := (ho3 b hb).mp e3.2
              cases hv1
              have := e3.1.2
              exact ⟨_, List.mem_append_right _ (List.mem_singleton.mpr rfl), by omega⟩
    · obtain ⟨v', hv1, hv2⟩ := (ho3 b hb).mp z2
      subst hv1
      rw [decide_eq_true (show pre (rowF ns) (j + 1 + c) - pre (rowF ns) j ≥ lo from z1.1)] at h
      cases h
  · rw [rangeF_len] at hS
    obtain ⟨S1, S2, S3⟩ := hS
    refine ⟨by omega, S2, fun b hb => ?_⟩
    rw [S3 b hb]
    constructor
    · rintro ⟨e, e1, e2, e3, e4⟩
      exact ⟨e, e1, by omega, e3, e4⟩
    · rintro ⟨e, e1, e2, e3, e4⟩
      have := path_le e4
      exact ⟨e, e1, by omega, e3, e4⟩
theorem ends_ok {ns : List Int} {lo : Int} {k : Nat} (hl : ns.length ≤ 3000) (hn : ∀ n ∈ ns, 0 ≤ n) (h1 : 1 ≤ ns.length) (hk : k ≤ 3000) : OkP (m_least_ends (tabI (pre (rowF ns)) (ns.length + 1)) k lo) fun F => ∃ o, atI F 0 = some o ∧ IsE (rowF ns) ns.length lo k 0 o := by
  have hA : lenI (tabI (pre (rowF ns)) (ns.length + 1)) = (ns.length : Int) + 1 := by
    show (((tabI (pre (rowF ns)) (ns.length + 1)).length : Nat) : Int) = _
    rw [tabI_len]
    rfl
  unfold m_least_ends
  rw [hA]
  refine Ok.bindE (repO_1 (by omega) (by omega)) (Ok.bindE (catO_s (by rw [List.length_map, List.length_replicate]; simp; omega)) (Ok.bindE (range1_s (by omega) (by omega)) ?_))
  refine Ok.bind (Ok.foldI (fun i (F : List (Option Int)) => F.length = ns.length + 1 ∧ ∀ p, p ≤ ns.length → ∃ o, F[p]? = some o ∧ IsE (rowF ns) ns.length lo i p o) ⟨by rw [List.length_append, List.length_map, List.length_replicate]; simp, fun p hp => ?_⟩ fun i x F hx hF => ?_) fun F hF => ?_
  · by_cases h : p < ns.length
    · refine ⟨none, ?_, (fun v hv => nomatch hv), fun b hb => ⟨fun h2 => ?_, fun ⟨v, hv, _⟩ => nomatch hv⟩⟩
      · rw [List.getElem?_append_left (by rw [List.length_map, List.length_replicate]; omega), List.getElem?_map, List.getElem?_replicate, if_pos (by omega)]
        rfl
      · have h2 : p = ns.length := h2
        omega
    · have : p = ns.length := by omega
      subst this
      refine ⟨some 0, ?_, fun v hv => by cases hv; omega, fun b hb => ⟨fun _ => ⟨0, rfl, hb⟩, fun _ => rfl⟩⟩
      rw [List.getElem?_append_right (by rw [List.length_map, List.length_replicate]; omega), List.length_map, List.length_replicate, show ns.length - ((ns.length : Int) + 1 - 1).toNat = 0 by omega]
      rfl
  · obtain ⟨F1, F2⟩ := hF
    refine Ok.bindE (repO_1 (by omega) (by omega)) (Ok.bindE (range1_s (by omega) (by omega)) ?_)
    refine Ok.bind (Ok.foldI (fun j (G : List (Option Int)) => G.length = ns.length + 1 ∧ ∀ p, p ≤ ns.length → ∃ o, G[p]? = some o ∧ (if p < j then IsE (rowF ns) ns.length lo (i + 1) p o else o = none)) ⟨by rw [List.length_map, List.length_replicate]; omega, fun p hp => ⟨none, ?_, by rw [if_neg (by omega)]⟩⟩ fun j x G hx hG => ?_) fun G hG => ?_
    · rw [List.getElem?_map, List.getElem?_replicate, if_pos (by omega)]
      rfl
    · obtain ⟨hj, rfl⟩ := rangeF_get _ _ _ _ hx
      have hj : j < ns.length := by omega
      obtain ⟨G1, G2⟩ := hG
      refine Ok.bindE (range2_s (by omega) (by omega) (by omega) (by omega)) ?_
      have hrow := ends_row (lo := lo) (k := i) hl hn hj F1 F2
      rw [show (0 : Int) + (j : Nat) = (j : Int) by omega, show ((ns.length : Int) + 1 - 1 + 1 - ((j : Int) + 1)).toNat = ns.length - j by omega]
      refine Ok.bind hrow fun S hS => ?_
      obtain ⟨S1, S2, S3⟩ := hS
      refine Ok.bindE (eqO_E _ _) (Ok.ite (fun h => ?_) fun h => Ok.some ⟨G1, fun p hp => ?_⟩)
      · have hne : S ≠ [] := fun e => by rw [decide_eq_true e] at h; cases h
        refine Ok.bindE (minO_s hne) ?_
        refine Ok.bindE (x := G.set j (some (mnI S))) ?_ (Ok.some ⟨by rw [List.length_set]; exact G1, fun p hp => ?_⟩)
        · rw [setO, ixN_int (by omega) (by omega)]
          rfl
        · by_cases hpj : p = j
          · subst hpj
            refine ⟨some (mnI S), by rw [List.getElem?_set_self (by omega)], ?_⟩
            rw [if_pos (by omega)]
            refine ⟨fun v hv => by cases hv; exact S2 _ (mnI_mem hne), fun b hb => ?_⟩
            rw [← S3 b hb]
            constructor
            · rintro ⟨s, hs, h⟩
              exact ⟨_, rfl, Int.le_trans (mnI_le hs) h⟩
            · rintro ⟨v, hv, h⟩
              cases hv
              exact ⟨_, mnI_mem hne, h⟩
          · obtain ⟨o, o1, o2⟩ := G2 p hp
            refine ⟨o, by rw [List.getElem?_set_ne (fun e => hpj e.symm)]; exact o1, ?_⟩
            by_cases hlt : p < j
            · rw [if_pos hlt] at o2
              rw [if_pos (by omega)]
              exact o2
            · rw [if_neg hlt] at o2
              rw [if_neg (by omega)]
              exact o2
      · have he : S = [] := by
          by_cases e : S = []
          · exact e
          · rw [decide_eq_false e] at h
            cases h
        obtain ⟨o, o1, o2⟩ := G2 p hp
        refine ⟨o, o1, ?_⟩
        by_cases hpj : p = j
        · subst hpj
          rw [if_neg (by omega)] at o2
          subst o2
          rw [if_pos (by omega)]
          refine ⟨(fun v hv => nomatch hv), fun b hb => ?_⟩
          rw [← S3 b hb, he]
          exact ⟨fun ⟨s, hs, _⟩ => (nomatch hs), fun ⟨v, hv, _⟩ => (nomatch hv)⟩
        · by_cases hlt : p < j
          · rw [if_pos hlt] at o2
            rw [if_pos (by omega)]
            exact o2
          · rw [if_neg hlt] at o2
            rw [if_neg (by omega)]
            exact o2
    · rw [rangeF_len] at hG
      refine Ok.some ⟨hG.1, fun p hp => ?_⟩
      obtain ⟨o, o1, o2⟩ := hG.2 p hp
      refine ⟨o, o1, ?_⟩
      by_cases hlt : p < ns.length
      · rw [if_pos (by omega)] at o2
        exact o2
      · rw [if_neg (by omega)] at o2
        subst o2
        refine ⟨(fun v hv => nomatch hv), fun b hb => ⟨fun h => ?_, fun ⟨v, hv, _⟩ => (nomatch hv)⟩⟩
        have := path_le h
        omega
  · rw [rangeF_len, Int.toNat_natCast] at hF
    obtain ⟨o, o1, o2⟩ := hF.2 0 (Nat.zero_le _)
    exact Ok.some ⟨o, atI_get o1 rfl, o2⟩
/-! ### nearfirst -/
/-! near.py: the first cut within two bounds -/
def rowOk (a : Nat → Int) (n : Nat) (lo hi : Int) (j : Nat) (r : List Bool) : Prop := r.length = n + 1 ∧ ∀ p, p ≤ n → ∃ b, r[p]? = some b ∧ (b = true ↔ path (RO a lo hi) j p n)
theorem rangeF_pwn (lo : Int) : ∀ n, (rangeF lo n).Pairwise (· < ·)
  | 0 => List.Pairwise.nil
  | n + 1 => by
    rw [rangeF_snoc, List.pairwise_append]
    refine ⟨rangeF_pwn lo n, by simp, fun a ha b hb => ?_⟩
    have := mem_rangeF ha
    rw [List.mem_singleton.mp hb]
    omega
theorem mem_rangeFn {n : Nat} {lo x : Int} : x ∈ rangeF lo n ↔ lo ≤ x ∧ x < lo + n := by
  refine ⟨mem_rangeF, fun h => ?_⟩
  have := rangeF_at (lo := lo) (n := n) (i := (x - lo).toNat) (by omega)
  have e : lo + ((x - lo).toNat : Int) = x := by omega
  rw [e] at this
  exact List.mem_of_getElem? this
/-- the places one piece further that will do -/
def nextL (a : Nat → Int) (n : Nat) (lo hi : Int) (r : List Bool) (p : Nat) : List Int := ((rangeF ((p : Int) + 1) (n - p)).filter fun x => (r[x.toNat]?).getD false).filter fun x => decide (lo ≤ pre a x.toNat - pre a p) && decide (pre a x.toNat - pre a p ≤ hi)
theorem nextL_mem {a : Nat → Int} {n : Nat} {lo hi : Int} {j p : Nat} {r : List Bool} (h : rowOk a n lo hi j r) {x : Int} : x ∈ nextL a n lo hi r p ↔ ∃ e : Nat, x = (e : Int) ∧ p < e ∧ e ≤ n ∧ RO a lo hi p e ∧ path (RO a lo hi) j e n := by
  unfold nextL
  rw [List.mem_filter, List.mem_filter, mem_rangeFn, Bool.and_eq_true, decide_eq_true_eq, decide_eq_true_eq]
  constructor
  · rintro ⟨⟨⟨h1, h2⟩, h3⟩, h4⟩
    refine ⟨x.toNat, by omega, by omega, by omega, h4, ?_⟩
    obtain ⟨b, g1, g2⟩ := h.2 x.toNat (by omega)
    rw [g1] at h3
    exact g2.mp h3
  · rintro ⟨e, rfl, h1, h2, h3, h4⟩
    obtain ⟨b, g1, g2⟩ := h.2 e h2
    rw [Int.toNat_natCast, g1]
    exact ⟨⟨⟨by omega, by omega⟩, g2.mpr h4⟩, h3⟩
theorem nextL_pw {a : Nat → Int} {n : Nat} {lo hi : Int} {p : Nat} {r : List Bool} : (nextL a n lo hi r p).Pairwise (· < ·) := ((rangeF_pwn _ _).filter _).filter _
theorem next_ok {ns : List Int} {lo hi : Int} {j p : Nat} {r : List Bool} {t : Option (List Bool)} (hl : ns.length ≤ 3000) (ht : t = some r) (h : rowOk (rowF ns) ns.length lo hi j r) (hp : p ≤ ns.length) {γ : Type} {K : List Int → Option γ} {P : γ → Prop} (hK : OkP (K (nextL (rowF ns) ns.length lo hi r p)) P) :
    OkP (Option.bind (cmpO (fun (x66 : Int) => Option.bind t fun x75 => Option.bind (atI x75 x66) fun x80 => if x80 then some (some x66) else some none) (rangeF ((p : Int) + 1) (ns.length - p))) fun x88 =>
Option.bind (cmpO (fun (x91 : Int) => Option.bind (atI (tabI (pre (rowF ns)) (ns.length + 1)) x91) fun x100 => Option.bind (atI (tabI (pre (rowF ns)) (ns.length + 1)) (p : Int)) fun x102 => if ((decide (lo ≤ (x100 - x102))) && (decide ((x100 - x102) ≤ hi))) then some (some x91) else some none) x88) fun x115 => K x115) P := by
  subst ht
  refine Ok.bindE (cmpO_eq (g := fun x => x) (p := fun x => (r[x.toNat]?).getD false) (by rw [rangeF_len]; show _ ≤ 16777216; omega) fun x hx => ?_) ?_
  · have hx := mem_rangeFn.mp hx
    obtain ⟨b, g1, g2⟩ := h.2 x.toNat (by omega)
    rw [g1]
    exact Ok.eq (Ok.bindE (x := r) rfl (Ok.bindE (atI_get g1 (by omega)) (by cases b <;> exact Ok.some rfl)))
  · rw [List.map_id']
    refine Ok.bindE (cmpO_eq (g := fun x => x) (p := fun x => decide (lo ≤ pre (rowF ns) x.toNat - pre (rowF ns) p) && decide (pre (rowF ns) x.toNat - pre (rowF ns) p ≤ hi)) (Nat.le_trans (List.length_filter_le _ _) (by rw [rangeF_len]; show _ ≤ 16777216; omega)) fun x hx => ?_) ?_
    · have hx := mem_rangeFn.mp (List.mem_filter.mp hx).1
      refine Ok.eq (Ok.bindE (tabI_atP (by omega) (by omega)) (Ok.bindE (tabI_atP (by omega) (by omega)) ?_))
      rw [Int.toNat_natCast]
      refine Ok.ite (fun hc => ?_) fun hc => ?_
      · rw [if_pos hc]
        exact Ok.some rfl
      · rw [if_neg (by rw [hc]; exact Bool.false_ne_true)]
        exact Ok.some rfl
    · rw [List.map_id']
      exact hK
theorem within_ok {ns : List Int} {lo hi : Int} {k : Nat} (hl : ns.length ≤ 3000) (h1 : 1 ≤ k) (hk : k ≤ ns.length) : OkP (m_first_within (tabI (pre (rowF ns)) (ns.length + 1)) k lo hi) fun o => (o = none ∧ ¬ path (RO (rowF ns) lo hi) k 0 ns.length) ∨ ∃ c, o = some c ∧ First (RO (rowF ns) lo hi) ns.length k 0 c ∧ path (RO (rowF ns) lo hi) k 0 ns.length := by
  have hA : lenI (tabI (pre (rowF ns)) (ns.length + 1)) = (ns.length : Int) + 1 := by
    show (((tabI (pre (rowF ns)) (ns.length + 1)).length : Nat) : Int) = _
    rw [tabI_len]
    rfl
  unfold m_first_within
  rw [hA]
  refine Ok.bindE (range1_s (by omega) (by omega)) (Ok.bindE (mapO_eq (g := fun x => decide (x = (ns.length : Int) + 1 - 1)) (by rw [rangeF_len]; show _ ≤ 16777216; omega) fun x _ => rfl) (Ok.bindE (range1_s (by omega) (by omega)) ?_))
  refine Ok.bind (Ok.foldI (fun i (t : List (List Bool)) => t.length = i + 1 ∧ ∀ j, j ≤ i → ∃ r, t[j]? = some r ∧ rowOk (rowF ns) ns.length lo hi j r) ⟨rfl, fun j hj => ?_⟩ fun i x t hx ht => ?_) fun t ht => ?_
  · obtain rfl : j = 0 := by omega
    refine ⟨_, rfl, by rw [List.length_map, rangeF_len]; omega, fun p hp => ⟨decide (p = ns.length), ?_, decide_eq_true_iff⟩⟩
    rw [List.getElem?_map, rangeF_at (by omega)]
    show some (decide _) = some _
    congr 1
    exact decide_eq_decide.mpr (by omega)
  · obtain ⟨t1, t2⟩ := ht
    obtain ⟨hik, _⟩ := rangeF_get _ _ _ _ hx
    obtain ⟨r, r1, r2⟩ := t2 i (Nat.le_refl _)
    refine Ok.bindE (range1_s (by omega) (by omega)) (Ok.bind (Ok.foldI (fun p (b : List Bool) => b.length = p ∧ ∀ q, q < p → ∃ v, b[q]? = some v ∧ (v = true ↔ path (RO (rowF ns) lo hi) (i + 1) q ns.length)) ⟨rfl, fun q hq => by omega⟩ fun p x b hx hb => ?_) fun b hb => ?_)
    · obtain ⟨hp, rfl⟩ := rangeF_get _ _ _ _ hx
      have hp : p ≤ ns.length := by omega
      obtain ⟨b1, b2⟩ := hb
      refine Ok.bindE (range2_s (by omega) (by omega) (by omega) (by omega)) ?_
      rw [show (0 : Int) + (p : Nat) = (p : Int) by omega, show ((ns.length : Int) + 1 - 1 + 1 - ((p : Int) + 1)).toNat = ns.length - p by omega]
      refine next_ok hl (atI_neg1 r1 t1) r2 hp (Ok.bindE (eqO_E _ _) (Ok.bindE (appO_s (by omega)) (Ok.some ⟨by rw [List.length_append, b1]; rfl, fun q hq => ?_⟩)))
      by_cases hqp : q < p
      · obtain ⟨v, v1, v2⟩ := b2 q hqp
        exact ⟨v, by rw [List.getElem?_append_left (by omega)]; exact v1, v2⟩
      · have : q = p := by omega
        subst this
        refine ⟨_, by rw [List.getElem?_append_right (by omega), b1, Nat.sub_self]; rfl, ?_⟩
        rw [Bool.not_eq_true', decide_eq_false_iff_not]
        constructor
        · intro h
          obtain ⟨x, hx⟩ := List.exists_mem_of_ne_nil _ h
          obtain ⟨e, _, e1, e2, e3, e4⟩ := (nextL_mem r2).mp hx
          exact ⟨e, e1, e2, e3, e4⟩
        · rintro ⟨e, e1, e2, e3, e4⟩ h
          have := (nextL_mem r2).mpr ⟨e, rfl, e1, e2, e3, e4⟩
          rw [h] at this
          cases this
    · rw [rangeF_len] at hb
      refine Ok.bindE (appO_s (by omega)) (Ok.some ⟨by rw [List.length_append, t1]; rfl, fun j hj => ?_⟩)
      by_cases hji : j ≤ i
      · obtain ⟨r', g1, g2⟩ := t2 j hji
        exact ⟨r', by rw [List.getElem?_append_left (by omega)]; exact g1, g2⟩
      · have : j = i + 1 := by omega
        subst this
        exact ⟨b, by rw [List.getElem?_append_right (by omega), t1, Nat.sub_self]; rfl, by rw [hb.1]; omega, fun p hp => hb.2 p (by omega)⟩
  · rw [rangeF_len, Int.toNat_natCast] at ht
    obtain ⟨t1, t2⟩ := ht
    obtain ⟨r, r1, r2, r3⟩ := t2 k (Nat.le_refl _)
    obtain ⟨b, b1, b2⟩ := r3 0 (Nat.zero_le _)
    refine Ok.bindE (atI_get r1 rfl) (Ok.bindE (atI_get b1 rfl) ?_)
    cases b with
    | false => exact Ok.iteT rfl (Ok.some (.inl ⟨rfl, fun h => by have := b2.mpr h; cases this⟩))
    | true =>
      have hpath := b2.mp rfl
      refine Ok.iteF rfl (Ok.bindE (rangeD_s (by omega) (by omega) (by omega) (by omega)) ?_)
      obtain ⟨k, rfl⟩ : ∃ j, k = j + 1 := ⟨k - 1, by omega⟩
      refine Ok.bind (Ok.foldI (fun i (s : List Int) => ∃ (p : Nat) (c : List Int), s = 0 :: c ∧ (0 :: c)[i]? = some (p : Int) ∧ c.length = i ∧ i ≤ k ∧ p ≤ ns.length ∧ path (RO (rowF ns) lo hi) (k + 1 - i) p ns.length ∧ ∀ d, First (RO (rowF ns) lo hi) ns.length (k + 1 - i) p d → First (RO (rowF ns) lo hi) ns.length (k + 1) 0 (c ++ d)) ⟨0, [], rfl, rfl, rfl, Nat.zero_le _, Nat.zero_le _, hpath, fun d h => h⟩ fun i x s hx hs => ?_) fun s hs => ?_
      · obtain ⟨p, c, rfl, hlast, hlen, hik, hpn, hpp, hfin⟩ := hs
        obtain ⟨hix, rfl⟩ := rangeB_get _ _ _ _ hx
        obtain ⟨m, hm⟩ : ∃ m, k - i = m + 1 := ⟨k - i - 1, by omega⟩
        rw [show k + 1 - i = m + 2 by omega] at hpp hfin
        obtain ⟨e0, g1, g2, g3, g4⟩ := hpp
        obtain ⟨rm, rm1, rm2⟩ := t2 (m + 1) (by omega)
        refine Ok.bindE (atI_neg1 hlast (by rw [List.length_cons, hlen])) (Ok.bindE (range2_s (by omega) (by omega) (by omega) (by omega)) ?_)
        rw [show ((ns.length : Int) + 1 - 1 + 1 - ((p : Int) + 1)).toNat = ns.length - p by omega]
        refine next_ok hl (atI_get rm1 (by omega)) rm2 hpn ?_
        have hmem := (nextL_mem rm2).mpr ⟨e0, rfl, g1, g2, g3, g4⟩
        have hpw := nextL_pw (a := rowF ns) (n := ns.length) (lo := lo) (hi := hi) (p := p) (r := rm)
        have hall := fun x => nextL_mem (p := p) rm2 (x := x)
        generalize nextL (rowF ns) ns.length lo hi rm p = L at hmem hpw hall
        cases L with
        | nil => cases hmem
        | cons y L =>
          obtain ⟨e, rfl, e1, e2, e3, e4⟩ := (hall y).mp List.mem_cons_self
          have hleast := (List.pairwise_cons.mp hpw).1
          refine Ok.bindE (x := (e : Int)) (atI_get (n := 0) rfl rfl) (Ok.bindE (appO_s (by rw [List.length_cons]; omega)) (Ok.some ⟨e, c ++ [(e : Int)], rfl, ?_, by rw [List.length_append, hlen]; rfl, by omega, e2, ?_, fun d hd => ?_⟩))
          · rw [List.getElem?_cons_succ, List.getElem?_append_right (by omega), hlen, Nat.sub_self]
            rfl
          · rw [show k + 1 - (i + 1) = m + 1 by omega]
            exact e4
          · rw [show k + 1 - (i + 1) = m + 1 by omega] at hd
            rw [List.append_assoc]
            refine hfin _ ⟨e, d, rfl, e1, e2, e3, e4, fun e' q1 q2 ⟨q3, q4⟩ => ?_, hd⟩
            have := (hall (e' : Int)).mpr ⟨e', rfl, q1, by omega, q3, q4⟩
            rcases List.mem_cons.mp this with h | h
            · omega
            · have := hleast _ h
              omega
      · obtain ⟨p, c, rfl, hlast, hlen, hik, hpn, hpp, hfin⟩ := hs
        rw [rangeB_len] at hlen hpp hfin
        rw [show k + 1 - (((k + 1 : Nat) : Int) - 1 - 0).toNat = 1 by omega] at hfin
        have := hfin [] rfl
        rw [List.append_nil] at this
        refine Ok.some (.inr ⟨c, ?_, this, hpath⟩)
        rw [sliceI_from (by decide)]
        rfl
/-! ### lexfirst -/
theorem First.lex {R : Nat → Nat → Prop} {n : Nat} : ∀ {k p : Nat} {c d : List Int}, First R n (k + 1) p c → Ct R n p d → d.length = k → W.listLt d c = false
  | 0, p, c, d, h, hd, hl => by
    rw [show c = [] from h, List.length_eq_zero_iff.mp hl]
    rfl
  | k + 1, p, c, d, h, hd, hl => by
    obtain ⟨e, c', rfl, h1, h2, h3, h4, h5, h6⟩ := h
    cases d with
    | nil => cases hl
    | cons y d =>
      obtain ⟨f, rfl, g1, g2, g3, g4⟩ := hd
      have hl' : d.length = k := by simpa using hl
      have key : R p f ∧ path R (k + 1) f n := ⟨g3, by
        have := g4.path
        rwa [hl'] at this⟩
      have hge : ¬ f < e := fun hlt => h5 f g1 hlt key
      rw [W.listLt]
      by_cases hfe : f = e
      · subst hfe
        rw [if_pos rfl]
        exact First.lex h6 g4 hl'
      · rw [if_neg (by omega)]
        exact decide_eq_false (by omega)
theorem lt_map (q : Int) : ∀ (x y : List Int), W.listLt (x.map (q + ·)) (y.map (q + ·)) = W.listLt x y
  | [], [] => rfl
  | [], _ :: _ => rfl
  | _ :: _, [] => rfl
  | x :: xs, y :: ys => by
    rw [List.map_cons, List.map_cons, W.listLt, W.listLt, lt_map q xs ys]
    by_cases h : x = y
    · rw [if_pos h, if_pos (by omega)]
    · rw [if_neg h, if_neg (by omega)]
      show decide (q + x < q + y) = decide (x < y)
      exact decide_eq_decide.mpr (by omega)
/-! ### rowdef -/
/-- a row as the laws draw it -/
def Row (ns : List Int) : Prop := 1 ≤ ns.length ∧ ns.length ≤ 120 ∧ ∀ n ∈ ns, 0 ≤ n ∧ n ≤ 1000000000000
/-! ### neardue -/
/-! the least spread of all cuts, and the first cut that has it -/
theorem lt_sf : ∀ x : List Int, W.listLt x x = false
  | [] => rfl
  | x :: xs => by rw [W.listLt, if_pos rfl, lt_sf xs]
theorem lt_as : ∀ {x y : List Int}, W.listLt x y = true → W.listLt y x = false
  | [], [], h => by cases h
  | [], _ :: _, _ => rfl
  | _ :: _, [], h => by cases h
  | x :: xs, y :: ys, h => by
    rw [W.listLt] at h ⊢
    by_cases e : x = y
    · subst e
      rw [if_pos rfl] at h ⊢
      exact lt_as h
    · rw [if_neg e] at h
      rw [if_neg (Ne.symm e)]
      have h := of_decide_eq_true h
      exact decide_eq_false (by omega)
theorem mx_len (a : Nat → Int) (n p : Nat) (c : List Int) : sumsC a n p c ≠ [] := List.ne_nil_of_length_pos (by rw [sumsC_len]; omega)
def spr (ns c : List Int) : Int := mxI (sumsC (rowF ns) ns.length 0 c) - mnI (sumsC (rowF ns) ns.length 0 c)
def IsCut (n k : Nat) (c : List Int) : Prop := Ct Any n 0 c ∧ c.length + 1 = k
theorem spr_ct {ns c : List Int} {lo hi : Int} : Ct (RO (rowF ns) lo hi) ns.length 0 c ↔ Ct Any ns.length 0 c ∧ lo ≤ mnI (sumsC (rowF ns) ns.length 0 c) ∧ mxI (sumsC (rowF ns) ns.length 0 c) ≤ hi := by
  have h := Ct.sums (a := rowF ns) (n := ns.length) (P := fun s => lo ≤ s ∧ s ≤ hi) (c := c) (p := 0)
  refine Iff.trans h (and_congr_right fun _ => ⟨fun h => ?_, fun ⟨h1, h2⟩ s hs => ⟨Int.le_trans h1 (mnI_le hs), Int.le_trans (mxI_le hs) h2⟩⟩)
  exact ⟨(h _ (mnI_mem (mx_len _ _ _ _))).1, (h _ (mxI_mem (mx_len _ _ _ _))).2⟩
theorem Ct_some : ∀ (k p n : Nat), p + k + 1 ≤ n → Ct Any n p (rangeF ((p + 1 : Nat) : Int) k)
  | 0, p, n, h => ⟨by omega, trivial⟩
  | k + 1, p, n, h => ⟨p + 1, rfl, by omega, by omega, trivial, Ct_some k (p + 1) n (by omega)⟩
/-- what is due -/
def Due (ns : List Int) (k : Nat) (D : Int) (C : List Int) : Prop := IsCut ns.length k C ∧ spr ns C = D ∧ ∀ c, IsCut ns.length k c → D ≤ spr ns c ∧ (D = spr ns c → W.listLt c C = false)
theorem due_ok {ns : List Int} {k : Nat} (hn : ns.length ≤ 11) (h1 : 1 ≤ k) (hk : k ≤ ns.length) : OkP (m__law_due ns k) fun o => ∃ D C, o = some (D, C) ∧ Due ns k D C := by
  obtain ⟨k, rfl⟩ : ∃ j, k = j + 1 := ⟨k - 1, by omega⟩
  unfold m__law_due
  have ek : ((k + 1 : Nat) : Int) = (k : Int) + 1 := by omega
  rw [ek]
  refine Ok.bind (lawcutso_ok (n := ns.length) hn hk) fun t ht => ?_
  obtain ⟨t1, t2, t3⟩ := ht
  refine Ok.bind (Ok.foldI (fun i (b : Option (Int × List Int)) => (i = 0 → b = none) ∧ (0 < i → ∃ D C, b = some (D, C) ∧ C ∈ t.take i ∧ D = spr ns C ∧ ∀ c ∈ t.take i, D ≤ spr ns c ∧ (D = spr ns c → W.listLt c C = false))) ⟨fun _ => rfl, fun h => by omega⟩ fun i x b hx hb => ?_) fun b hb => Ok.some ?_
  · have hxm := (t2 x).mp (List.mem_of_getElem? hx)
    have htake : t.take (i + 1) = t.take i ++ [x] := by
      rw [List.take_add_one, hx]
      rfl
    have hcross : ∀ y ∈ t.take i, W.listLt y x = true := fun y hy => by
      have h := List.Pairwise.sublist (List.take_sublist (i + 1) t) t3
      rw [htake] at h
      exact (List.pairwise_append.mp h).2.2 y hy x (by simp)
    refine Ok.bindE (lawsm_ok (by omega) hxm.1) (Ok.bindE (maxO_s (mx_len _ _ _ _)) (Ok.bindE (minO_s (mx_len _ _ _ _)) ?_))
    have fresh : (∀ c ∈ t.take i, spr ns x < spr ns c) → ∃ D C, some (spr ns x, x) = some (D, C) ∧ C ∈ t.take (i + 1) ∧ D = spr ns C ∧ ∀ c ∈ t.take (i + 1), D ≤ spr ns c ∧ (D = spr ns c → W.listLt c C = false) := fun h => by
      refine ⟨_, _, rfl, by rw [htake]; simp, rfl, fun c hc => ?_⟩
      rw [htake] at hc
      rcases List.mem_append.mp hc with hc | hc
      · have := h c hc
        exact ⟨by omega, fun e => by omega⟩
      · rw [List.mem_singleton.mp hc]
        exact ⟨Int.le_refl _, fun _ => lt_sf _⟩
    rcases Nat.eq_zero_or_pos i with h0 | h0
    · subst h0
      rw [hb.1 rfl]
      exact Ok.bindE (x := true) rfl (Ok.iteT rfl (Ok.some ⟨fun h => by omega, fun _ => fresh fun c hc => by simp at hc⟩))
    · obtain ⟨D, C, rfl, q1, q2, q3⟩ := hb.2 h0
      refine Ok.bindE (x := decide (spr ns x < D)) (Ok.eq (Ok.iteF rfl (Ok.bindE (x := (D, C)) rfl (Ok.some rfl)))) (Ok.ite (fun h => Ok.some ⟨fun h => by omega, fun _ => fresh fun c hc => ?_⟩) fun h => Ok.some ⟨fun h => by omega, fun _ => ⟨D, C, rfl, by rw [htake]; exact List.mem_append_left _ q1, q2, fun c hc => ?_⟩⟩)
      · have := of_decide_eq_true h
        have := (q3 c hc).1
        omega
      · have h := of_decide_eq_false h
        rw [htake] at hc
        rcases List.mem_append.mp hc with hc | hc
        · exact q3 c hc
        · rw [List.mem_singleton.mp hc]
          exact ⟨by omega, fun _ => lt_as (hcross C q1)⟩
  · have hne : 0 < t.length := by
      have := (t2 (rangeF ((0 + 1 : Nat) : Int) k)).mpr ⟨Ct_some k 0 ns.length (by omega), rangeF_len _ _⟩
      exact List.length_pos_of_mem this
    obtain ⟨D, C, rfl, q1, q2, q3⟩ := hb.2 hne
    rw [List.take_length] at q1 q3
    have hC := (t2 C).mp q1
    exact ⟨D, C, rfl, ⟨hC.1, by omega⟩, q2.symm, fun c hc => q3 c ((t2 c).mpr ⟨hc.1, by have := hc.2; omega⟩)⟩
theorem lows_ok {ns : List Int} (hl : ns.length ≤ 120) : OkP (Option.bind (range1 (lenI ns)) fun x20 =>
Option.bind (foldO (fun (x25 : Int) (b23 : (List Int)) => Option.bind (range2 (x25 + 1) ((lenI ns) + 1)) fun x37 =>
Option.bind (mapO (fun (x39 : Int) => Option.bind (atI (tabI (pre (rowF ns)) (ns.length + 1)) x39) fun x48 => Option.bind (atI (tabI (pre (rowF ns)) (ns.length + 1)) x25) fun x50 => some (x48 - x50)) x37) fun x57 =>
Option.bind (catO b23 x57) fun x60 =>
some x60) x20 ([] : List Int)) fun o28 => some o28) fun L => L.length ≤ ns.length * ns.length ∧ ∀ x, x ∈ L ↔ ∃ p e : Nat, p < e ∧ e ≤ ns.length ∧ x = pre (rowF ns) e - pre (rowF ns) p := by
  have hL : lenI ns = (ns.length : Int) := rfl
  have hmul : ∀ i, i ≤ ns.length → i * ns.length ≤ 120 * 120 := fun i hi => Nat.mul_le_mul (by omega) hl
  refine Ok.bindE (range1_s (by omega) (by omega)) (Ok.bind (Ok.foldI (fun i (L : List Int) => L.length ≤ i * ns.length ∧ ∀ x, x ∈ L ↔ ∃ p e : Nat, p < i ∧ p < e ∧ e ≤ ns.length ∧ x = pre (rowF ns) e - pre (rowF ns) p) ⟨by simp, fun x => ⟨fun h => (nomatch h), fun ⟨p, e, h, _⟩ => by omega⟩⟩ fun i x L hx hL2 => ?_) fun L hL2 => Ok.some ?_)
  · obtain ⟨hi, rfl⟩ := rangeF_get _ _ _ _ hx
    have hi : i < ns.length := by omega
    obtain ⟨l1, l2⟩ := hL2
    have hs : (i + 1) * ns.length = i * ns.length + ns.length := Nat.succ_mul ..
    have hm := hmul (i + 1) hi
    refine Ok.bindE (range2_s (by omega) (by omega) (by omega) (by omega)) (Ok.bindE (mapO_eq (g := fun x => pre (rowF ns) x.toNat - pre (rowF ns) i) (by rw [rangeF_len]; show _ ≤ 16777216; omega) fun x hx => ?_) (Ok.bindE (catO_s (by rw [List.length_map, rangeF_len]; omega)) (Ok.some ⟨?_, fun x => ?_⟩)))
    · have hx := mem_rangeFn.mp hx
      refine Ok.eq (Ok.bindE (tabI_atP (by omega) (by omega)) (Ok.bindE (tabI_atP (by omega) (by omega)) (Ok.some ?_)))
      rw [show ((0 : Int) + (i : Nat)).toNat = i by omega]
    · rw [List.length_append, List.length_map, rangeF_len]
      omega
    · rw [List.mem_append, l2, List.mem_map]
      constructor
      · rintro (⟨p, e, g1, g2, g3, g4⟩ | ⟨z, g1, g2⟩)
        · exact ⟨p, e, by omega, g2, g3, g4⟩
        · have := mem_rangeFn.mp g1
          exact ⟨i, z.toNat, by omega, by omega, by omega, g2.symm⟩
      · rintro ⟨p, e, g1, g2, g3, g4⟩
        by_cases hp : p < i
        · exact .inl ⟨p, e, hp, g2, g3, g4⟩
        · obtain rfl : p = i := by omega
          exact .inr ⟨(e : Int), mem_rangeFn.mpr (by omega), by rw [g4, Int.toNat_natCast]⟩
  · rw [rangeF_len] at hL2
    rw [show (lenI ns).toNat = ns.length from Int.toNat_natCast _] at hL2
    refine ⟨hL2.1, fun x => ?_⟩
    rw [hL2.2]
    constructor
    · rintro ⟨p, e, g1, g2⟩
      exact ⟨p, e, g2⟩
    · rintro ⟨p, e, g1, g2, g3⟩
      exact ⟨p, e, by omega, g1, g2, g3⟩
theorem sums_str {a : Nat → Int} {n : Nat} : ∀ {c : List Int} {p : Nat}, Ct Any n p c → ∀ s ∈ sumsC a n p c, ∃ x y : Nat, x < y ∧ y ≤ n ∧ s = pre a y - pre a x
  | [], p, h, s, hs => ⟨p, n, h.1, Nat.le_refl _, List.mem_singleton.mp hs⟩
  | y :: c, p, h, s, hs => by
    obtain ⟨e, rfl, h1, h2, _, h4⟩ := h
    rw [sumsC, Int.toNat_natCast] at hs
    rcases List.mem_cons.mp hs with rfl | hs
    · exact ⟨p, e, h1, by omega, rfl⟩
    · exact sums_str h4 s hs
theorem spread_ok {ns C : List Int} {k : Nat} {D : Int} (hr : Row ns) (hl : ns.length ≤ 11) (h1 : 1 ≤ k) (hk : k ≤ ns.length) (hdue : Due ns k D C) : m_least_spread ns k = some (D, C) := by
  have hL : lenI ns = (ns.length : Int) := rfl
  have hnn : ∀ n ∈ ns, 0 ≤ n := fun n h => (hr.2.2 n h).1
  have hpos : ∀ c, IsCut ns.length k c → 0 ≤ mnI (sumsC (rowF ns) ns.length 0 c) ∧ 0 ≤ mxI (sumsC (rowF ns) ns.length 0 c) := fun c hc => by
    have key : ∀ s ∈ sumsC (rowF ns) ns.length 0 c, 0 ≤ s := fun s hs => by
      obtain ⟨x, y, g1, g2, rfl⟩ := sums_str hc.1 s hs
      have := pre_mono (rowF_nonneg (ns := ns) hnn) (Nat.le_of_lt g1) g2
      omega
    exact ⟨key _ (mnI_mem (mx_len _ _ _ _)), key _ (mxI_mem (mx_len _ _ _ _))⟩
  have hq : ns.length * ns.length ≤ 121 := Nat.mul_le_mul hl hl
  unfold m_least_spread
  refine Ok.eq (Ok.bindE (x := ()) ?_ (Ok.bindE (stp_ok (by omega)) ?_))
  · unfold m_need_pieces
    rw [if_neg]
    rw [isi_int, isi_ib, decide_eq_true (show (1 : Int) ≤ k by omega), decide_eq_true (show (k : Int) ≤ lenI ns by omega)]
    decide
  obtain ⟨L, eL, L1, L2⟩ := lows_ok (ns := ns) (by omega)
  obtain ⟨x20, e20, eL⟩ := bndE eL
  obtain ⟨o28, e28, eL⟩ := bndE eL
  cases eL
  refine Ok.bindE e20 (Ok.bindE e28 (Ok.bindE (x := ssetI L) (if_pos (by omega)) ?_))
  have hlen : (ssetI L).length ≤ 3000 := by
    have h : ∀ xs, (ssetI xs).length ≤ xs.length := by
      have hi : ∀ (x : Int) ys, (insI x ys).length ≤ ys.length + 1 := fun x ys => by
        induction ys with
        | nil => exact Nat.le_refl _
        | cons y ys ih =>
          unfold insI
          split
          · simp
          · split
            · simp
            · simp
              omega
      intro xs
      induction xs with
      | nil => exact Nat.le_refl _
      | cons x xs ih =>
        have := hi x (ssetI xs)
        show (insI x (ssetI xs)).length ≤ xs.length + 1
        omega
    have := h L
    omega
  have hmem : ∀ x, x ∈ ssetI L ↔ ∃ p e : Nat, p < e ∧ e ≤ ns.length ∧ x = pre (rowF ns) e - pre (rowF ns) p := fun x => (ssetI_mem L x).trans (L2 x)
  generalize ssetI L = lows at hlen hmem
  have hlow : ∀ c, IsCut ns.length k c → mnI (sumsC (rowF ns) ns.length 0 c) ∈ lows := fun c hc => (hmem _).mpr (sums_str hc.1 _ (mnI_mem (mx_len _ _ _ _)))
  refine Ok.bind (mapI_ok (fun i (lo : Int) (o : Option Int) => IsE (rowF ns) ns.length lo k 0 o) (by omega) fun i lo hi => Ok.bind (ends_ok (by omega) hnn (by omega) (by omega)) fun F ⟨o, eo, ho⟩ => Ok.bindE eo (Ok.some ho)) fun es hes => ?_
  obtain ⟨es1, es2⟩ := hes
  refine Ok.bindE (cmpO_eq (g := fun x : Int × Option Int => x.2.getD 0 - x.1) (p := fun x => !x.2.isNone) (by rw [List.length_zip]; show _ ≤ 16777216; omega) fun x _ => ?_) ?_
  · obtain ⟨l, o⟩ := x
    cases o with
    | none => rfl
    | some v => rfl
  have hS : ∀ y, y ∈ ((List.zip lows es).filter fun x => !x.2.isNone).map (fun x => x.2.getD 0 - x.1) ↔ ∃ lo v, lo ∈ lows ∧ (0 ≤ v ∧ ∀ b, 0 ≤ b → (path (RO (rowF ns) lo b) k 0 ns.length ↔ v ≤ b)) ∧ y = v - lo := fun y => by
    rw [List.mem_map]
    constructor
    · rintro ⟨⟨lo, o⟩, hx, rfl⟩
      obtain ⟨hx1, hx2⟩ := List.mem_filter.mp hx
      obtain ⟨i, hi⟩ := List.mem_iff_getElem?.mp hx1
      obtain ⟨g1, g2⟩ := List.getElem?_zip_eq_some.mp hi
      obtain ⟨o', g3, g4⟩ := es2 i lo g1
      rw [g2] at g3
      cases g3
      cases o with
      | none => cases hx2
      | some v =>
        refine ⟨lo, v, List.mem_of_getElem? g1, ⟨g4.1 v rfl, fun b hb => ?_⟩, rfl⟩
        rw [g4.2 b hb]
        exact ⟨fun ⟨v', e, h⟩ => by cases e; exact h, fun h => ⟨v, rfl, h⟩⟩
    · rintro ⟨lo, v, hlo, ⟨hv0, hv⟩, rfl⟩
      obtain ⟨i, hi⟩ := List.mem_iff_getElem?.mp hlo
      obtain ⟨o, g3, g4⟩ := es2 i lo hi
      obtain ⟨v', rfl, hv'⟩ := (g4.2 v hv0).mp ((hv v hv0).mpr (Int.le_refl _))
      have := g4.1 v' rfl
      have h2 := (hv v' this).mp ((g4.2 v' this).mpr ⟨v', rfl, Int.le_refl _⟩)
      have : v' = v := by omega
      subst this
      exact ⟨(lo, some v'), List.mem_filter.mpr ⟨List.mem_of_getElem? (List.getElem?_zip_eq_some.mpr ⟨hi, g3⟩), rfl⟩, rfl⟩
  generalize ((List.zip lows es).filter fun x => !x.2.isNone).map (fun x => x.2.getD 0 - x.1) = S at hS
  -- each cut's spread is reached, each word of the table has a cut
  have hA : ∀ c, IsCut ns.length k c → ∃ y ∈ S, y ≤ spr ns c := fun c hc => by
    obtain ⟨p1, p2⟩ := hpos c hc
    have hp : path (RO (rowF ns) (mnI (sumsC (rowF ns) ns.length 0 c)) (mxI (sumsC (rowF ns) ns.length 0 c))) k 0 ns.length := by
      have := (spr_ct.mpr ⟨hc.1, Int.le_refl _, Int.le_refl _⟩ : Ct (RO (rowF ns) (mnI (sumsC (rowF ns) ns.length 0 c)) (mxI (sumsC (rowF ns) ns.length 0 c))) ns.length 0 c).path
      rwa [hc.2] at this
    obtain ⟨i, hi⟩ := List.mem_iff_getElem?.mp (hlow c hc)
    obtain ⟨o, g3, g4⟩ := es2 i _ hi
    obtain ⟨v, rfl, hv⟩ := (g4.2 _ p2).mp hp
    refine ⟨_, (hS _).mpr ⟨_, v, hlow c hc, ⟨g4.1 v rfl, fun b hb => ?_⟩, rfl⟩, by unfold spr; omega⟩
    rw [g4.2 b hb]
    exact ⟨fun ⟨v', e, h⟩ => by cases e; exact h, fun h => ⟨v, rfl, h⟩⟩
  have hB : ∀ y ∈ S, D ≤ y := fun y hy => by
    obtain ⟨lo, v, h2, ⟨h3, h4⟩, rfl⟩ := (hS y).mp hy
    obtain ⟨j, rfl⟩ : ∃ j, k = j + 1 := ⟨k - 1, by omega⟩
    obtain ⟨c, c1, c2⟩ := Ct.of_path ((h4 v h3).mpr (Int.le_refl _))
    obtain ⟨c3, c4, c5⟩ := spr_ct.mp c2
    have := (hdue.2.2 c ⟨c3, by omega⟩).1
    unfold spr at this
    omega
  obtain ⟨y0, hy0, hy1⟩ := hA C hdue.1
  have hne : S ≠ [] := List.ne_nil_of_mem hy0
  have hD : mnI S = D := by
    have a1 := hB _ (mnI_mem hne)
    have a2 := mnI_le hy0
    have a3 := hdue.2.1
    omega
  refine Ok.bindE (minO_s hne) ?_
  rw [hD]
  refine Ok.bind (mapI_ok (fun i (lo : Int) (o : Option (List Int)) => (o = none ∧ ¬ path (RO (rowF ns) lo (lo + D)) k 0 ns.length) ∨ ∃ c, o = some c ∧ First (RO (rowF ns) lo (lo + D)) ns.length k 0 c ∧ path (RO (rowF ns) lo (lo + D)) k 0 ns.length) (by omega) fun i lo hi => Ok.bind (within_ok (by omega) h1 hk) fun o ho => Ok.some ho) fun cs hcs => ?_
  obtain ⟨cs1, cs2⟩ := hcs
  refine Ok.bindE (cmpO_eq (g := fun x : Option (List Int) => x.getD []) (p := fun x => !x.isNone) (by show _ ≤ 16777216; omega) fun x _ => ?_) ?_
  · cases x with
    | none => rfl
    | some v => rfl
  have hM : ∀ c, c ∈ (cs.filter fun x => !x.isNone).map (fun x => x.getD []) ↔ ∃ lo ∈ lows, First (RO (rowF ns) lo (lo + D)) ns.length k 0 c ∧ path (RO (rowF ns) lo (lo + D)) k 0 ns.length := fun c => by
    rw [List.mem_map]
    constructor
    · rintro ⟨o, ho, rfl⟩
      obtain ⟨h2, h3⟩ := List.mem_filter.mp ho
      obtain ⟨i, hi⟩ := List.mem_iff_getElem?.mp h2
      have hil := (List.getElem?_eq_some_iff.mp hi).1
      obtain ⟨lo, hlo⟩ : ∃ lo, lows[i]? = some lo := ⟨_, List.getElem?_eq_getElem (by omega)⟩
      obtain ⟨o', g1, g2⟩ := cs2 i lo hlo
      rw [hi] at g1
      cases g1
      rcases g2 with ⟨rfl, _⟩ | ⟨c, rfl, g3⟩
      · cases h3
      · exact ⟨lo, List.mem_of_getElem? hlo, g3⟩
    · rintro ⟨lo, hlo, h2, h3⟩
      obtain ⟨i, hi⟩ := List.mem_iff_getElem?.mp hlo
      obtain ⟨o, g1, g2⟩ := cs2 i lo hi
      rcases g2 with ⟨_, h⟩ | ⟨c', rfl, g3, _⟩
      · exact (h h3).elim
      · rw [First.uniq h2 g3]
        exact ⟨some c', List.mem_filter.mpr ⟨List.mem_of_getElem? g1, rfl⟩, rfl⟩
  generalize (cs.filter fun x => !x.isNone).map (fun x => x.getD []) = M at hM
  have hcut : ∀ c ∈ M, IsCut ns.length k c ∧ spr ns c ≤ D := fun c hc => by
    obtain ⟨lo, h2, h3, h4⟩ := (hM c).mp hc
    obtain ⟨c3, c4, c5⟩ := spr_ct.mp (Ct.of_first h3 h4)
    exact ⟨⟨c3, (First.mem h3).1⟩, by unfold spr; omega⟩
  have hsee : ∀ c, IsCut ns.length k c → spr ns c ≤ D → ∃ d ∈ M, W.listLt c d = false := fun c hc hs => by
    have hp := (spr_ct.mpr ⟨hc.1, Int.le_refl _, by unfold spr at hs; omega⟩ : Ct (RO (rowF ns) (mnI (sumsC (rowF ns) ns.length 0 c)) (mnI (sumsC (rowF ns) ns.length 0 c) + D)) ns.length 0 c)
    have hpp := hp.path
    rw [hc.2] at hpp
    obtain ⟨i, hi⟩ := List.mem_iff_getElem?.mp (hlow c hc)
    obtain ⟨o, g1, g2⟩ := cs2 i _ hi
    rcases g2 with ⟨_, h⟩ | ⟨d, rfl, g3, _⟩
    · exact (h hpp).elim
    · refine ⟨d, (hM d).mpr ⟨_, hlow c hc, g3, hpp⟩, ?_⟩
      obtain ⟨j, rfl⟩ : ∃ j, k = j + 1 := ⟨k - 1, by omega⟩
      exact First.lex g3 hp (by have := hc.2; omega)
  have hCM : C ∈ M := by
    obtain ⟨d, d1, d2⟩ := hsee C hdue.1 (by rw [hdue.2.1]; omega)
    obtain ⟨e1, e2⟩ := hcut d d1
    have := hdue.2.2 d e1
    rw [lt_anti d2 (this.2 (by omega))]
    exact d1
  have hle : ∀ y ∈ M, W.listLt y C = false := fun y hy => by
    obtain ⟨e1, e2⟩ := hcut y hy
    have := hdue.2.2 y e1
    exact this.2 (by omega)
  cases M with
  | nil => cases hCM
  | cons x xs =>
    have e : W.minOf x xs = C := minOf_eq hCM hle fun y hy h => lt_anti (hle y hy) h
    refine Ok.bindE (x := C) ?_ (Ok.some rfl)
    show (if W.Datum.depth (List Int) ≤ 59 then some (W.minOf x xs) else none) = some C
    rw [if_pos (by decide), e]
/-! ### sdraw -/
/-! the drawing of the squares' laws -/
def Hand (h : List Int) : Prop := ∃ x y, h = [x, y] ∧ 0 ≤ x ∧ 0 ≤ y ∧ y < 2147483563
theorem hand_ok (cell k : Int) (hk0 : 0 ≤ k) (hk : k ≤ 100) : OkP (m__law_hand cell k) Hand := by
  unfold m__law_hand
  refine Ok.bind (P := fun s => 0 ≤ s) (Ok.ite (fun h => Ok.some ?_) fun _ => Ok.some (by omega)) fun s hs => ?_
  · have := of_decide_eq_true h
    omega
  refine Ok.bindE (mulO_s (by decide) (by omega)) ?_
  have h1 := Int.emod_nonneg cell (show (2147483563 : Int) ≠ 0 by decide)
  have h2 := Int.emod_lt_of_pos cell (show (0 : Int) < 2147483563 by decide)
  refine Ok.bindE (mulO_s (by omega) (by decide)) (Ok.some ⟨s, _, rfl, hs, Int.emod_nonneg _ (by decide), Int.emod_lt_of_pos _ (by decide)⟩)
theorem draw_ok {h : List Int} {l : Int} (hh : Hand h) (h0 : 0 < l) (h1 : l.natAbs < 2 ^ 250) : OkP (m__law_draw h l) fun r => 0 ≤ r.1 ∧ r.1 < l ∧ Hand r.2 := by
  obtain ⟨x, y, rfl, hx, hy0, hy1⟩ := hh
  unfold m__law_draw
  refine Ok.bindE (x := x) rfl (Ok.ite (fun _ => ?_) fun _ => ?_)
  · refine Ok.bindE (x := x) rfl (Ok.bindE (modO_s h0) (Ok.bindE (x := x) rfl (Ok.bindE (fdivO_s h0 h1) (Ok.bindE (x := [x / l, y]) rfl (Ok.some ⟨Int.emod_nonneg _ (by omega), Int.emod_lt_of_pos _ h0, _, _, rfl, Int.ediv_nonneg hx (by omega), hy0, hy1⟩)))))
  · refine Ok.bindE (x := y) rfl (Ok.bindE (x := y) rfl (Ok.bindE (mulO_s (by omega) (by omega)) (Ok.bindE (x := y) rfl (Ok.bindE (mulO_s (by decide) (by omega)) ?_))))
    refine Ok.bindE (x := [x, (y * y + 52774 * y + 40692) % 2147483563]) rfl (Ok.bindE (x := (y * y + 52774 * y + 40692) % 2147483563) rfl (Ok.bindE (modO_s h0) (Ok.some ⟨Int.emod_nonneg _ (by omega), Int.emod_lt_of_pos _ h0, _, _, rfl, hx, Int.emod_nonneg _ (by decide), Int.emod_lt_of_pos _ (by decide)⟩)))
theorem enumI_mem {α : Type} {k : Int} {xs : List α} {p : Int × α} (h : p ∈ enumI k xs) : k ≤ p.1 ∧ p.1 < k + xs.length := by
  induction xs generalizing k with
  | nil => cases h
  | cons x xs ih =>
    rcases List.mem_cons.mp h with rfl | h
    · simp; omega
    · have := ih h
      simp; omega
theorem cells_ok (ns : List Int) (m : Int) (hl : ns.length ≤ 63) : OkP (m__law_cells ⟨ns⟩ m) fun cs => ∀ p ∈ cs, 0 ≤ p.1 ∧ p.1 ≤ 64 := by
  unfold m__law_cells
  have key : ∀ i : Int, 0 ≤ i → i ≤ 1 → OkP (Option.bind (repO ([0] : List Int) i) fun x15 => Option.bind (catO (sliceI ns none (some m)) x15) fun x21 => some (enumI 0 x21)) fun cs => ∀ p ∈ cs, 0 ≤ p.1 ∧ p.1 ≤ 64 := by
    intro i h0 h1
    have h2 := (sliceI_sub (xs := ns) (lo := none) (hi := some m)).length_le
    refine Ok.bindE (repO_1 h0 (by omega)) (Ok.bindE (catO_s (by rw [List.length_replicate]; omega)) (Ok.some fun p hp => ?_))
    have := enumI_mem hp
    rw [List.length_append, List.length_replicate] at this
    omega
  refine key _ ?_ ?_ <;> split <;> omega
theorem row_ok {h : List Int} {many : Int} (hh : Hand h) (h1 : 1 ≤ many) (h2 : many ≤ 120) : OkP (m__law_row h many) fun r => Row r.1 ∧ (r.1.length : Int) = many ∧ Hand r.2 := by
  unfold m__law_row
  refine Ok.bind (draw_ok hh (by decide) (by decide)) fun r1 hr1 => Ok.bind (draw_ok hr1.2.2 (by decide) (by decide)) fun r2 hr2 => Ok.bindE (range1_s (by omega) (by omega)) ?_
  refine Ok.bind (P := fun w => 1 ≤ w ∧ w ≤ 1000000000000) (Ok.mono (Ok.foldI (fun i (b : Int) => b = ((10 ^ i : Nat) : Int)) rfl fun i x b hx hb => ?_) fun w hw => ?_) fun w hw => ?_
  · have hi := (List.getElem?_eq_some_iff.mp hx).1
    rw [rangeF_len] at hi
    have h3 : (10 : Nat) ^ i ≤ 10 ^ 12 := Nat.pow_le_pow_right (by decide) (by omega)
    have h3 : (10 : Nat) ^ i ≤ 1000000000000 := h3
    have hb0 : 0 ≤ b := by rw [hb]; exact Int.natCast_nonneg _
    have hb1 : b ≤ 1000000000000 := by rw [hb]; exact Int.ofNat_le.mpr h3
    refine Ok.bindE (mulO_s (by omega) (by decide)) (Ok.some ?_)
    rw [hb, Nat.pow_succ, Int.natCast_mul]
    rfl
  · rw [rangeF_len] at hw
    have h3 : (10 : Nat) ^ r2.1.toNat ≤ 10 ^ 12 := Nat.pow_le_pow_right (by decide) (by omega)
    have h3 : (10 : Nat) ^ r2.1.toNat ≤ 1000000000000 := h3
    have h4 : 0 < (10 : Nat) ^ r2.1.toNat := Nat.pow_pos (by decide)
    omega
  refine Ok.bind (draw_ok hr2.2.2 (by decide) (by decide)) fun r3 hr3 => Ok.bindE (range1_s (by omega) (by omega)) ?_
  refine Ok.bind (Ok.foldI (fun i (b : List Int × List Int) => b.1.length = i ∧ (∀ n ∈ b.1, 0 ≤ n ∧ n ≤ 1000000000000) ∧ Hand b.2) ⟨rfl, (fun n hn => nomatch hn), hr3.2.2⟩ fun i x b hx hb => ?_) fun o ho => ?_
  · obtain ⟨b1, b2, b3⟩ := hb
    obtain ⟨hi, rfl⟩ := rangeF_get _ _ _ _ hx
    have hx0 : 0 ≤ (0 : Int) + (i : Nat) ∧ (0 : Int) + (i : Nat) < 120 := by omega
    generalize (0 : Int) + (i : Nat) = x at hx0
    refine Ok.bind (draw_ok b3 (by decide) (by decide)) fun r4 hr4 => ?_
    refine Ok.bind (P := fun s => Hand s.1 ∧ 0 ≤ s.2 ∧ s.2 ≤ 1000000000000 ∧ (r1.1 ≠ 0 → s.2 ≤ 3)) (Ok.ite (fun hz => ?_) fun hz => Ok.some ⟨hr4.2.2, hr4.1, by have := hr4.2.1; dsimp only; omega, fun _ => by have := hr4.2.1; dsimp only; omega⟩) fun s hs => ?_
    · have hz := of_decide_eq_true hz
      refine Ok.bind (draw_ok hr4.2.2 (by decide) (by decide)) fun r5 hr5 => Ok.bindE (mulO_s (by omega) (by decide)) (Ok.bind (draw_ok hr5.2.2 (by decide) (by decide)) fun r6 hr6 => Ok.bindE (modO_s (by omega)) (Ok.some ⟨hr6.2.2, Int.emod_nonneg _ (by omega), ?_, fun h => absurd hz h⟩))
      have := Int.emod_lt_of_pos (r5.1 * 10000000 + r6.1) (show 0 < w + 1 by omega)
      dsimp only
      omega
    obtain ⟨s1, s2, s3, s4⟩ := hs
    refine Ok.bind (P := fun v => 0 ≤ v ∧ v ≤ 1000000000000 ∧ (r1.1 = 3 → v ≤ 3)) (Ok.ite (fun hz => ?_) fun hz => Ok.some ⟨s2, s3, fun e => s4 (by omega)⟩) fun v hv => ?_
    · have hz := of_decide_eq_true hz
      have m0 : 0 ≤ r3.1 * w := Int.mul_nonneg hr3.1 (by omega)
      have m1 : r3.1 * w ≤ 29 * w := Int.mul_le_mul_of_nonneg_right (by omega) (by omega)
      exact Ok.bindE (mulO_s (by omega) (by omega)) (Ok.some ⟨by omega, by omega, fun e => by omega⟩)
    refine Ok.bind (P := fun v => 0 ≤ v ∧ v ≤ 1000000000000) (Ok.ite (fun hz => ?_) fun hz => Ok.some ⟨hv.1, hv.2.1⟩) fun u hu => ?_
    · have hz := of_decide_eq_true hz
      have hv3 := hv.2.2 hz
      have m0 : 0 ≤ max 0 (v - 2) * r3.1 := Int.mul_nonneg (by omega) hr3.1
      have m1 : max 0 (v - 2) * r3.1 ≤ 1 * 29 := Int.mul_le_mul (by omega) (by omega) hr3.1 (by decide)
      exact Ok.bindE (mulO_s (by omega) (by omega)) (Ok.some ⟨m0, by omega⟩)
    refine Ok.bind (P := fun v => 0 ≤ v ∧ v ≤ 1000000000000) (Ok.ite (fun hz => ?_) fun hz => Ok.some hu) fun z hz => ?_
    · have m0 : 0 ≤ x * r3.1 := Int.mul_nonneg hx0.1 hr3.1
      have m1 : x * r3.1 ≤ 120 * 29 := Int.mul_le_mul (by omega) (by omega) hr3.1 (by decide)
      exact Ok.bindE (mulO_s (by omega) (by omega)) (Ok.some ⟨m0, by omega⟩)
    refine Ok.bindE (appO_s (by omega)) (Ok.some ⟨by simp; omega, fun n hn => ?_, s1⟩)
    rcases List.mem_append.mp hn with hn | hn
    · exact b2 n hn
    · rw [List.mem_singleton.mp hn]; exact hz
  · rw [rangeF_len] at ho
    obtain ⟨o1, o2, o3⟩ := ho
    refine Ok.bind (P := fun s => s.1.length = o.1.length ∧ (∀ n ∈ s.1, 0 ≤ n ∧ n ≤ 1000000000000) ∧ Hand s.2) (Ok.ite (fun _ => ?_) fun _ => Ok.some ⟨rfl, o2, o3⟩) fun s hs => Ok.some ⟨⟨by have := hs.1; dsimp only; omega, by have := hs.1; dsimp only; omega, hs.2.1⟩, by have := hs.1; dsimp only; omega, hs.2.2⟩
    refine Ok.bind (draw_ok o3 (by omega) (by omega)) fun r5 hr5 => Ok.bindE (setO_s hr5.1 (by omega)) (Ok.some ⟨List.length_set, fun n hn => ?_, hr5.2.2⟩)
    rcases List.mem_or_eq_of_mem_set hn with hn | rfl
    · exact o2 n hn
    · omega
/-! ### ssize -/
theorem size_ok {h : List Int} {k most far : Int} (hh : Hand h) (h1 : 8 ≤ most) (h2 : most ≤ 120) (h3 : 1 ≤ far) (h4 : far ≤ 120) : OkP (m__law_size h k most far) fun r => 1 ≤ r.1 ∧ r.1 ≤ 120 ∧ Hand r.2 := by
  unfold m__law_size
  refine Ok.bind (P := fun s => Hand s.2) (Ok.ite (fun _ => Ok.bind (draw_ok hh (by decide) (by decide)) fun r hr => Ok.some hr.2.2) fun _ => Ok.some hh) fun s hs => Ok.ite (fun _ => ?_) fun _ => ?_
  · refine Ok.bind (draw_ok hs (by omega) (by omega)) fun r1 hr1 => Ok.bind (draw_ok hr1.2.2 (by decide) (by decide)) fun r2 hr2 => Ok.bind (atI_bnd (lo := 1) (hi := 120) (fun n hn => ?_) hr2.1 hr2.2.1) fun x hx => Ok.some ⟨hx.1, hx.2, hr2.2.2⟩
    simp at hn
    omega
  · refine Ok.bind (draw_ok hs (by decide) (by decide)) fun r1 hr1 => Ok.bind (atI_bnd (lo := 4) (hi := 120) (fun n hn => ?_) hr1.1 hr1.2.1) fun x hx => Ok.bind (draw_ok hr1.2.2 (by omega) (by omega)) fun r2 hr2 => Ok.some ⟨by dsimp only; omega, by dsimp only; omega, hr2.2.2⟩
    simp at hn
    omega
/-! ### k19 -/
theorem enumI_len {α : Type} : ∀ (k : Int) (xs : List α), (enumI k xs).length = xs.length
  | _, [] => rfl
  | k, x :: xs => by
    show (enumI (k + 1) xs).length + 1 = xs.length + 1
    rw [enumI_len]
theorem cells_ok8 (ns : List Int) (hl : ns.length ≤ 63) : OkP (m__law_cells ⟨ns⟩ 8) fun cs => cs.length ≤ 64 ∧ ∀ p ∈ cs, 0 ≤ p.1 ∧ p.1 ≤ 64 := by
  obtain ⟨cs, e, h⟩ := cells_ok ns 8 hl
  refine ⟨cs, e, ?_, h⟩
  have key : ∀ i : Int, 0 ≤ i → i ≤ 1 → OkP (Option.bind (repO ([0] : List Int) i) fun x15 => Option.bind (catO (sliceI ns none (some 8)) x15) fun x21 => some (enumI 0 x21)) fun cs => cs.length ≤ 64 := by
    intro i h0 h1
    have h2 := (sliceI_sub (xs := ns) (lo := none) (hi := some 8)).length_le
    refine Ok.bindE (repO_1 h0 (by omega)) (Ok.bindE (catO_s (by rw [List.length_replicate]; omega)) (Ok.some ?_))
    rw [enumI_len, List.length_append, List.length_replicate]
    omega
  have k2 : OkP (m__law_cells ⟨ns⟩ 8) fun cs => cs.length ≤ 64 := by
    unfold m__law_cells
    refine key _ ?_ ?_ <;> split <;> omega
  obtain ⟨c2, e2, h2⟩ := k2
  rw [e] at e2
  cases e2
  exact h2
theorem size11 {h : List Int} {k : Int} (hh : Hand h) : OkP (m__law_size h k 9 11) fun r => 1 ≤ r.1 ∧ r.1 ≤ 11 ∧ Hand r.2 := by
  unfold m__law_size
  refine Ok.bind (P := fun s => Hand s.2) (Ok.ite (fun _ => Ok.bind (draw_ok hh (by decide) (by decide)) fun r hr => Ok.some hr.2.2) fun _ => Ok.some hh) fun s hs => Ok.ite (fun _ => ?_) fun _ => ?_
  · refine Ok.bind (draw_ok hs (by decide) (by decide)) fun r1 hr1 => Ok.bind (draw_ok hr1.2.2 (by decide) (by decide)) fun r2 hr2 => Ok.bind (atI_bnd (lo := 1) (hi := 11) (fun n hn => ?_) hr2.1 hr2.2.1) fun x hx => Ok.some ⟨hx.1, hx.2, hr2.2.2⟩
    simp at hn
    omega
  · refine Ok.bind (draw_ok hs (by decide) (by decide)) fun r1 hr1 => Ok.bind (atI_bnd (lo := 4) (hi := 9) (fun n hn => ?_) hr1.1 hr1.2.1) fun x hx => Ok.bind (draw_ok hr1.2.2 (by omega) (by omega)) fun r2 hr2 => Ok.some ⟨by dsimp only; omega, by dsimp only; omega, hr2.2.2⟩
    simp at hn
    omega
theorem many_ok {h ns : List Int} (hh : Hand h) (hr : Row ns) : OkP (m__law_many h ns) fun r => 1 ≤ r.1 ∧ r.1 ≤ ns.length ∧ Hand r.2 := by
  have hL : lenI ns = (ns.length : Int) := rfl
  have l1 := hr.1
  have l2 := hr.2.1
  unfold m__law_many
  refine Ok.bind (draw_ok hh (by omega) (by omega)) fun r1 h1 => Ok.bind (draw_ok h1.2.2 (by decide) (by decide)) fun r2 h2 => ?_
  have a1 := h1.1
  have a2 := h1.2.1
  refine Ok.bind (atI_bnd (lo := 0) (hi := 4) (fun n hn => by simp at hn; omega) h2.1 (by simp; exact h2.2.1)) fun x hx => Ok.bind (atI_bnd (lo := 1) (hi := ns.length) (fun n hn => ?_) hx.1 (by simp; omega)) fun y hy => Ok.some ⟨hy.1, hy.2, h2.2.2⟩
  simp only [List.mem_cons, List.not_mem_nil, or_false] at hn
  omega
theorem told_ok {D : Int} {C : List Int} (hl : C.length ≤ 3000) : m__law_told (D, C) (some (D, C)) = some true := by
  unfold m__law_told
  refine Ok.eq (Ok.iteF rfl (Ok.bindE (catO_s (by simp; omega)) (Ok.bindE (cmpO_none (by simp; omega) fun x hx => Ok.iteF rfl (Ok.some rfl)) (Ok.bindE (eqO_E _ _) (Ok.iteF rfl ?_)))))
  exact Ok.bindE ((eqO_os _ _).trans (eqO_E _ _)) (Ok.some (by rw [decide_eq_true rfl]))
abbrev Held := List ((Int × List Int) × (Int × List Int))
def HeldOk (m : Nat) (h : Held) : Prop := h.length ≤ m ∧ ∀ p ∈ h, p.1 = p.2
theorem right_ok {ns : List Int} {k : Int} {m : Nat} {held : Held} (hr : Row ns) (hl : ns.length ≤ 11) (h1 : 1 ≤ k) (hk : k ≤ ns.length) (hm : m ≤ 100000) (hh : HeldOk m held) : OkP (m__law_right ns k held) fun r => r.1 = true ∧ HeldOk (m + 1) r.2 := by
  obtain ⟨k, rfl⟩ : ∃ j : Nat, k = j := ⟨k.toNat, by omega⟩
  unfold m__law_right
  refine Ok.bind (due_ok hl (by omega) (by omega)) fun o ⟨D, C, eo, hD⟩ => ?_
  subst eo
  have es := spread_ok hr hl (by omega) (by omega) hD
  have hC := hD.1.1.len
  have hm2 := hh.1
  refine Ok.bindE es (Ok.bindE (told_ok (D := D) (C := C) (by omega)) (Ok.bindE (x := false) (Ok.eq (Ok.iteF rfl (Ok.bindE (eqO_E _ _) (Ok.some (by rw [decide_eq_true rfl]; rfl))))) (Ok.iteF rfl (Ok.bindE es (Ok.bindE (x := (D, C)) rfl (Ok.bindE (appO_s (by omega)) (Ok.bindE (appO_s (by dsimp only; omega)) (Ok.bindE (appO_s (by omega)) (Ok.bindE es (Ok.bindE (eqO_E _ _) (Ok.some ⟨by rw [decide_eq_true rfl], ?_, fun p hp => ?_⟩)))))))))))
  · simp
    omega
  · rcases List.mem_append.mp hp with hp | hp
    · exact hh.2 p hp
    · rw [List.mem_singleton.mp hp]
theorem cmpS_none {α β γ : Type} {f : α → β → Option (Option γ × β)} (I : Nat → β → Prop) : ∀ {xs : List α} {b0 : β} {i : Nat}, I i b0 → (∀ x ∈ xs, ∀ j b, j < i + xs.length → I j b → OkP (f x b) fun p => p.1 = none ∧ I (j + 1) p.2) → OkP (cmpSG f xs b0) fun r => r.1 = [] ∧ I (i + xs.length) r.2
  | [], b0, i, h0, _ => ⟨_, rfl, rfl, h0⟩
  | x :: xs, b0, i, h0, hs => by
    obtain ⟨p, e, h1, h2⟩ := hs x List.mem_cons_self i b0 (by simp) h0
    obtain ⟨q, e2, h3, h4⟩ := cmpS_none I h2 fun y hy j b hj hb => hs y (List.mem_cons_of_mem _ hy) j b (by simp; omega) hb
    refine ⟨(p.1.toList ++ q.1, q.2), ?_, ?_, ?_⟩
    · rw [cmpSG, e]
      show (cmpSG f xs p.2).bind _ = _
      rw [e2]
      rfl
    · show p.1.toList ++ q.1 = []
      rw [h1, h3]
      rfl
    · rw [List.length_cons, show i + (xs.length + 1) = i + 1 + xs.length by omega]
      exact h4
theorem law_true (ns : List Int) (hl : ns.length ≤ 63) : m_law ⟨ns⟩ = some true := by
  unfold m_law
  refine Ok.eq (Ok.bind (cells_ok8 ns hl) fun cs hcs => Ok.bind (Ok.forI (fun i (b : Held) => HeldOk (i * 12) b) ⟨Nat.le_refl _, fun p h => nomatch h⟩ fun i p b hpi hb => ?_) fun o ho => ?_)
  · have hi := (List.getElem?_eq_some_iff.mp hpi).1
    have hp := List.mem_of_getElem? hpi
    have hn := hcs.1
    refine Ok.bind (hand_ok _ _ (hcs.2 p hp).1 (by have := hcs.2 p hp; omega)) fun h hh => Ok.bind (size11 hh) fun s hs => Ok.bind (row_ok hs.2.2 hs.1 (by omega)) fun r hr => ?_
    obtain ⟨r1, r2, r3⟩ := hr
    have hlen : r.1.length ≤ 11 := by omega
    have hL : lenI r.1 = (r.1.length : Int) := rfl
    refine Ok.bindE (range1_s (by decide) (by decide)) (Ok.bind (Ok.mapS (fun x => 1 ≤ x ∧ x ≤ (r.1.length : Int)) Hand (by rw [rangeF_len]; decide) r3 fun x _ b hb => Ok.bind (many_ok hb r1) fun z hz => Ok.some ⟨⟨hz.1, hz.2.1⟩, hz.2.2⟩) fun q hq => ?_)
    refine Ok.bind (P := fun l => l.length ≤ 12 ∧ ∀ x ∈ l, 1 ≤ x ∧ x ≤ (r.1.length : Int)) (Ok.ite (fun h => ?_) fun _ => Ok.some ⟨by rw [hq.1, rangeF_len]; decide, hq.2.1⟩) fun l hl => ?_
    · refine Ok.bindE (rangeL_s (by omega) (by omega) (by omega) (by omega)) (Ok.some ⟨by rw [rangeF_len]; omega, fun x hx => ?_⟩)
      have := mem_rangeF hx
      omega
    · refine Ok.bind (P := fun r => r.1 = [] ∧ HeldOk ((i + 1) * 12) r.2) ?_ fun w hw => Ok.bindE (eqO_E _ _) (Ok.iteF (by rw [hw.1]; rfl) (Ok.some ⟨_, rfl, hw.2⟩))
      rw [cmpSO, if_pos (show _ ≤ sizeLine by show _ ≤ 16777216; omega)]
      refine Ok.mono (cmpS_none (fun j b => HeldOk j b) (i := i * 12) hb fun x hx j b hj hb => Ok.bind (right_ok r1 hlen (hl.2 x hx).1 (hl.2 x hx).2 (by omega) hb) fun z hz => Ok.iteF (by rw [hz.1]; rfl) (Ok.some ⟨rfl, hz.2⟩)) fun z hz => ⟨hz.1, by have := hz.2.1; omega, hz.2.2⟩
  · obtain ⟨b, rfl, b1, b2⟩ := ho
    have hn := hcs.1
    refine Ok.bindE (cmpO_none (by omega) fun x hx => ?_) (Ok.bindE (x := true) rfl (Ok.some rfl))
    rw [b2 x hx, eqO_E, decide_eq_true rfl]
    exact Ok.bindE rfl (Ok.iteF rfl (Ok.some rfl))
def top_ (i : Nat) : Stmt := PySem.Challenge.pw_piecebounds_k19_least_spreads_by_all_cut.main.body.getD i (.Pass ⟨0, 0, 0, 0⟩)
abbrev s_need_pieces : Stmt := top_ 4
abbrev s_sums_to_places : Stmt := top_ 5
abbrev s_least_ends : Stmt := top_ 6
abbrev s_first_within : Stmt := top_ 7
abbrev s_least_spread : Stmt := top_ 8
abbrev s__law_hand : Stmt := top_ 10
abbrev s__law_draw : Stmt := top_ 11
abbrev s__law_cells : Stmt := top_ 12
abbrev s__law_row : Stmt := top_ 13
abbrev s__law_size : Stmt := top_ 14
abbrev s__law_many : Stmt := top_ 15
abbrev s__law_told : Stmt := top_ 16
abbrev s__law_cuts : Stmt := top_ 17
abbrev s__law_sums : Stmt := top_ 18
abbrev s__law_due : Stmt := top_ 19
abbrev s__law_right : Stmt := top_ 20
abbrev s_law : Stmt := top_ 21
/-! ### _law_cells -/
abbrev sp__law_cells (K : PySem.W.Frag) : Sp := fun vs H Q _ => ∃ (x_script : Scr) (v_script : V) (x_many : Int),  vs = [v_script, .int x_many] ∧ Rp.rep (lkA K H) x_script v_script ∧ ∃ r : (List (Int × Int)), m__law_cells x_script x_many = some r ∧ ∀ v' H', Res K H r v' H' → Q v' H'
section
variable {P : Program} {w : World} {K : PySem.W.Frag} {mg : Str → Option Value} {base : Heap}
abbrev N__law_cells : List Str := ["script", "many"]
theorem scope__law_cells : FnScope N__law_cells ["script", "many"] (defScope s__law_cells) := ⟨rfl, rfl, rfl, by decide +kernel, rfl, by decide +kernel, by decide +kernel⟩
theorem ok__law_cells {f : Addr} {fd : FuncData} (F : FunD K "_law_cells" "_law_cells" (defArgs s__law_cells) (defBody s__law_cells) (defScope s__law_cells) [] [] f fd) (hm : mg "_law_cells" = some (.ref f)) (Z : Blt mg) :
    Fn P w K mg base 1 "_law_cells" ["script", "many"] (sp__law_cells K) := by
  refine mkFn F hm (fun _ _ _ _ _ _ us hl => match us, hl with | [_, _], _ => rfl) (okG (k := 0) F scope__law_cells (fun vs H0 Q E h => ?_) (fun cdv A outer s H0 vs Q E hr hgd h => ?_))
  · obtain ⟨_, _, _, rfl, _⟩ := h; rfl
  · have nd := scope__law_cells.nd
    have hu := hr.units
    unfold sp__law_cells at h
    refine ⟨_, PSs.nox (pss_one (ps_ret (pe_listEnum rfl rfl Z.list_ rfl Z.enumerate_ (pe_op op_addA (pe_slice sl_list (pv 0) po_none (po_some (pv 1))) (pe_op op_mulA (pe_lst (pa_cons pe_int pa_nil)) (pe_callTy cl_int (by rfl) Z.int_ (by decide +kernel) (pa_cons (pe_cmpR (op_eqA hu) (pv 0) (pe_lst pa_nil) (nomark _)) pa_nil))))))), ?_⟩
    (try dsimp only [cxOf])
    obtain ⟨x_script, v_script, x_many, rfl, h_script, r0, hm, q⟩ := h
    let G_ : (List (Int × Int)) → Prop := fun r => ∀ v' H', Res K H0 r v' H' → Q v' H'
    have hq : ∀ r, r = r0 → G_ r := fun r e => by subst e; exact q
    clear q
    unfold m__law_cells at hm
    have W0 := Wd.start (K := K) H0
    have W1 := Wd.arg W0 h_script
    obtain ⟨a2, rfl⟩ := Wd.eqScr W1 (Kn.at 0 rfl)
    refine i_ret ?_
    refine i_tLE ?_
    refine i_op ?_
    refine i_sl ?_
    refine i_var rfl ?_
    refine i_nopart ?_
    refine i_part ?_
    refine i_var rfl ?_
    refine i_partI ?_
    refine w_slice W1 (Ls.scr (t := true) (Kn.at 0 rfl)) (fun p3 H4 W5 => ?_)
    have W6 := Wd.frz W5
    refine i_op ?_
    refine i_tlst ?_
    refine i_tcons ?_
    refine i_c ?_
    refine i_tnil ?_
    refine w_lst (α := Int) (t := true) W6 (KnL.cons Kn.int KnL.nil) (by show (1 : Nat) ≤ sizeLine; decide) (fun p7 H8 W9 => ?_)
    have W10 := Wd.frz W9
    refine i_cb ?_
    refine i_tcons ?_
    refine i_op ?_
    refine i_var rfl ?_
    refine i_tlst ?_
    refine i_tnil ?_
    refine w_lst (α := Int) (t := true) W10 KnL.nil (by show (0 : Nat) ≤ sizeLine; decide) (fun p11 H12 W13 => ?_)
    have W14 := Wd.frz W13
    refine w_eqScr W14 (Kn.at 3 rfl) (Lx.ls (Lx.kn (Kn.at 0 rfl))) ?_
    refine i_tnil ?_
    refine i_intB ?_
    replace hm := bndE hm
    obtain ⟨x15, h16, hm⟩ := hm
    refine w_rep W14 (Lx.kn (Kn.at 1 rfl)) h16 (fun p17 H18 W19 => ?_)
    have W20 := Wd.frz W19
    replace hm := bndE hm
    obtain ⟨x21, h22, hm⟩ := hm
    refine w_cat W20 (Lx.kn (Kn.at 3 rfl)) (Lx.kn (Kn.at 0 rfl)) h22 (fun p23 H24 W25 => ?_)
    have W26 := Wd.frz W25
    refine w_le W26 (Lx.ls (Lx.kn (Kn.at 0 rfl))) (fun p27 H28 W29 => ?_)
    exact hq _ (some_inj hm) _ _ (Wd.res (x := ((enumI 0 x21) : (List (Int × Int)))) W29 (Kn.at 0 rfl))
end
/-! ### _law_hand -/
abbrev sp__law_hand (K : PySem.W.Frag) : Sp := fun vs H Q _ => ∃ (x_cell : Int) (x_k : Int),  vs = [.int x_cell, .int x_k] ∧ ∃ r : (List Int), m__law_hand x_cell x_k = some r ∧ ∀ v' H', Res K H r v' H' → Q v' H'
section
variable {P : Program} {w : World} {K : PySem.W.Frag} {mg : Str → Option Value} {base : Heap}
abbrev N__law_hand : List Str := ["cell", "k", "digits"]
theorem scope__law_hand : FnScope N__law_hand ["cell", "k"] (defScope s__law_hand) := ⟨rfl, rfl, rfl, by decide +kernel, rfl, by decide +kernel, by decide +kernel⟩
theorem ok__law_hand {f : Addr} {fd : FuncData} (F : FunD K "_law_hand" "_law_hand" (defArgs s__law_hand) (defBody s__law_hand) (defScope s__law_hand) [] [] f fd) (hm : mg "_law_hand" = some (.ref f)) (Z : Blt mg) :
    Fn P w K mg base 1 "_law_hand" ["cell", "k"] (sp__law_hand K) := by
  refine mkFn F hm (fun _ _ _ _ _ _ us hl => match us, hl with | [_, _], _ => rfl) (okG (k := 0) F scope__law_hand (fun vs H0 Q E h => ?_) (fun cdv A outer s H0 vs Q E hr hgd h => ?_))
  · obtain ⟨_, _, rfl, _⟩ := h; rfl
  · have nd := scope__law_hand.nd
    have hu := hr.units
    unfold sp__law_hand at h
    refine ⟨_, PSs.nox (pss_cons (ps_set (i := 2) nd rfl (.inl rfl) pe_int)
    (C8.pss_cut (ps_if (pt_cmpR (op_geA hu) (pv 0) (pe_op op_pow pe_int pe_int) (nomark _)) (pss_one (ps_set (i := 2) nd rfl (.inl rfl) (pv 0))) pss_nil)
    (pss_one (ps_ret (pe_lst (pa_cons (pv 2) (pa_cons (pe_op op_mod (pe_op op_mulA (pe_op op_addA (pe_op op_addA (pe_op op_mod (pv 0) pe_int) (pe_op op_mulA pe_int (pv 1))) pe_int) pe_int) pe_int) pa_nil))))))), ?_⟩
    (try dsimp only [cxOf])
    obtain ⟨x_cell, x_k, rfl, r0, hm, q⟩ := h
    let G_ : (List Int) → Prop := fun r => ∀ v' H', Res K H0 r v' H' → Q v' H'
    have hq : ∀ r, r = r0 → G_ r := fun r e => by subst e; exact q
    clear q
    unfold m__law_hand at hm
    have W0 := Wd.start (K := K) H0
    refine i_seq ?_
    refine i_asg ?_
    refine i_c ?_
    refine i_gName ?_
    replace hm := bndE hm
    obtain ⟨s1, h2, hm⟩ := hm
    refine f_cut (NF K H0 (⟨fun b e => [some (.int x_cell), some (.int x_k), some (.int b)], fun b e => [], fun b e => []⟩ : Shp (Int) (Unit)) s1 ) ?_ ?_
    · have hm := h2
      refine i_ifS ?_
      refine i_test ?_
      refine i_op ?_
      refine i_var rfl ?_
      refine i_op ?_
      refine i_c ?_
      refine i_c ?_
      refine i_pow (n := 1000000000000000000) (by decide) (by decide) ?_
      refine i_geA ?_
      refine i_bl ?_
      rcases iteE hm with ⟨hb3, hm⟩ | ⟨hb3, hm⟩
      · refine i_bT hb3 ?_
        refine i_asg ?_
        refine i_var rfl ?_
        refine i_gName ?_
        have W4 := Wd.sel W0 [] rfl
        obtain rfl := some_inj hm
        exact ⟨(), rfl, W4⟩
      · refine i_bF hb3 ?_
        refine i_next ?_
        have W5 := Wd.sel W0 [] rfl
        obtain rfl := some_inj hm
        exact ⟨(), rfl, W5⟩
    · rintro _ H6 ⟨_, rfl, W7⟩
      dsimp only at W7 ⊢
      refine i_ret ?_
      refine i_tlst ?_
      refine i_tcons ?_
      refine i_var rfl ?_
      refine i_tcons ?_
      refine i_op ?_
      refine i_op ?_
      refine i_op ?_
      refine i_op ?_
      refine i_op ?_
      refine i_var rfl ?_
      refine i_c ?_
      refine i_mod (by decide) ?_
      refine i_op ?_
      refine i_c ?_
      refine i_var rfl ?_
      replace hm := bndE hm
      obtain ⟨x9, h10, hm⟩ := hm
      refine w_mul h10 ?_
      refine i_addI ?_
      refine i_c ?_
      refine i_addI ?_
      refine i_c ?_
      replace hm := bndE hm
      obtain ⟨x11, h12, hm⟩ := hm
      refine w_mul h12 ?_
      refine i_c ?_
      refine i_mod (by decide) ?_
      refine i_tnil ?_
      refine w_lst (α := Int) (t := true) W7 (KnL.cons Kn.int (KnL.cons Kn.int KnL.nil)) (by show (2 : Nat) ≤ sizeLine; decide) (fun p13 H14 W15 => ?_)
      have W16 := Wd.frz W15
      exact hq _ (some_inj hm) _ _ (Wd.res (x := (([s1, (x11 % 2147483563)] : List Int) : (List Int))) W16 (Kn.at 0 rfl))
end
/-! ### _law_draw -/
abbrev sp__law_draw (K : PySem.W.Frag) : Sp := fun vs H Q _ => ∃ (a_hand : Addr) (x_hand : (List Int)) (us_hand : List V) (x_limit : Int),  vs = [.ref a_hand, .int x_limit] ∧ H a_hand = some (.lst us_hand) ∧ All2 (Rp.rep (lkN fun _ => none)) x_hand us_hand ∧ ∃ r : (Int × (List Int)), m__law_draw x_hand x_limit = some r ∧ ∀ v' H', Res1 K H a_hand r v' H' → Q v' H'
section
variable {P : Program} {w : World} {K : PySem.W.Frag} {mg : Str → Option Value} {base : Heap}
abbrev N__law_draw : List Str := ["hand", "limit", "got"]
theorem scope__law_draw : FnScope N__law_draw ["hand", "limit"] (defScope s__law_draw) := ⟨rfl, rfl, rfl, by decide +kernel, rfl, by decide +kernel, by decide +kernel⟩
theorem ok__law_draw {f : Addr} {fd : FuncData} (F : FunD K "_law_draw" "_law_draw" (defArgs s__law_draw) (defBody s__law_draw) (defScope s__law_draw) [] [] f fd) (hm : mg "_law_draw" = some (.ref f)) (Z : Blt mg) :
    Fn P w K mg base 1 "_law_draw" ["hand", "limit"] (sp__law_draw K) := by
  refine mkFn F hm (fun _ _ _ _ _ _ us hl => match us, hl with | [_, _], _ => rfl) (okG (k := 0) F scope__law_draw (fun vs H0 Q E h => ?_) (fun cdv A outer s H0 vs Q E hr hgd h => ?_))
  · obtain ⟨_, _, _, _, rfl, _⟩ := h; rfl
  · have nd := scope__law_draw.nd
    have hu := hr.units
    unfold sp__law_draw at h
    refine ⟨_, PSs.nox (pss_cons (ps_if (pt_cmpR (op_gtA hu) (pe_ix ix_seq (pv 0) pe_int (fun _ _ => rfl)) pe_int (nomark _)) (pss_cons (ps_set (i := 2) nd rfl (.inl rfl) (pe_op op_mod (pe_ix ix_seq (pv 0) pe_int (fun _ _ => rfl)) (pv 1)))
    (pss_cons (ps_asg (pe_op op_fdivW (pe_ix ix_seq (pv 0) pe_int (fun _ _ => rfl)) (pv 1)) (pg_sub (pv 0) pe_int set_list))
    (pss_one (ps_ret (pv 2))))) pss_nil)
    (pss_cons (ps_asg (pe_op op_mod (pe_op op_addA (pe_op op_addA (pe_op op_mulA (pe_ix ix_seq (pv 0) pe_int (fun _ _ => rfl)) (pe_ix ix_seq (pv 0) pe_int (fun _ _ => rfl))) (pe_op op_mulA pe_int (pe_ix ix_seq (pv 0) pe_int (fun _ _ => rfl)))) pe_int) pe_int) (pg_sub (pv 0) pe_int set_list))
    (pss_one (ps_ret (pe_op op_mod (pe_op op_fdivW (pe_ix ix_seq (pv 0) pe_int (fun _ _ => rfl)) pe_int) (pv 1)))))), ?_⟩
    (try dsimp only [cxOf])
    obtain ⟨a_hand, x_hand, us_hand, x_limit, rfl, ha_hand, hr_hand, r0, hm, q⟩ := h
    let G_ : (Int × (List Int)) → Prop := fun r => ∀ v' H', Res1 K H0 a_hand r v' H' → Q v' H'
    have hq : ∀ r, r = r0 → G_ r := fun r e => by subst e; exact q
    clear q
    unfold m__law_draw at hm
    have hB : H0 a_hand ≠ none := fun e => by rw [ha_hand] at e; cases e
    have W0 : Wd K (del H0 a_hand) [] [oL true a_hand x_hand] H0 := Wd.mut ha_hand hr_hand
    refine i_seq ?_
    refine i_ifS ?_
    refine i_test ?_
    refine i_op ?_
    refine i_op ?_
    refine i_var rfl ?_
    refine i_c ?_
    replace hm := bndE hm
    obtain ⟨x1, h2, hm⟩ := hm
    refine w_ixI W0 (Lx.ls (Lx.own 0 rfl)) h2 ?_
    refine i_c ?_
    refine i_gtA ?_
    refine i_bl ?_
    rcases iteE hm with ⟨hb3, hm⟩ | ⟨hb3, hm⟩
    · refine i_bT hb3 ?_
      refine i_seq ?_
      refine i_asg ?_
      refine i_op ?_
      refine i_op ?_
      refine i_var rfl ?_
      refine i_c ?_
      replace hm := bndE hm
      obtain ⟨x4, h5, hm⟩ := hm
      refine w_ixI W0 (Lx.ls (Lx.own 0 rfl)) h5 ?_
      refine i_var rfl ?_
      replace hm := bndE hm
      obtain ⟨x6, h7, hm⟩ := hm
      refine w_mod h7 ?_
      refine i_gName ?_
      refine i_seq ?_
      refine i_asg ?_
      refine i_op ?_
      refine i_op ?_
      refine i_var rfl ?_
      refine i_c ?_
      replace hm := bndE hm
      obtain ⟨x8, h9, hm⟩ := hm
      refine w_ixI W0 (Lx.ls (Lx.own 0 rfl)) h9 ?_
      refine i_var rfl ?_
      replace hm := bndE hm
      obtain ⟨x10, h11, hm⟩ := hm
      refine w_fdiv h11 ?_
      refine i_gSub ?_
      refine i_var rfl ?_
      refine i_c ?_
      replace hm := bndE hm
      obtain ⟨x12, h13, hm⟩ := hm
      refine w_set W0 0 rfl Kn.int h13 (fun H14 W15 => ?_)
      dsimp only [List.set] at W15
      clear W0
      refine i_ret ?_
      refine i_var rfl ?_
      exact hq _ (some_inj hm) _ _ (Wd.res1 (x := (x6 : Int)) W15 hB 0 rfl Kn.int)
    · refine i_bF hb3 ?_
      refine i_next ?_
      refine i_seq ?_
      refine i_asg ?_
      refine i_op ?_
      refine i_op ?_
      refine i_op ?_
      refine i_op ?_
      refine i_op ?_
      refine i_var rfl ?_
      refine i_c ?_
      replace hm := bndE hm
      obtain ⟨x16, h17, hm⟩ := hm
      refine w_ixI W0 (Lx.ls (Lx.own 0 rfl)) h17 ?_
      refine i_op ?_
      refine i_var rfl ?_
      refine i_c ?_
      replace hm := bndE hm
      obtain ⟨x18, h19, hm⟩ := hm
      refine w_ixI W0 (Lx.ls (Lx.own 0 rfl)) h19 ?_
      replace hm := bndE hm
      obtain ⟨x20, h21, hm⟩ := hm
      refine w_mul h21 ?_
      refine i_op ?_
      refine i_c ?_
      refine i_op ?_
      refine i_var rfl ?_
      refine i_c ?_
      replace hm := bndE hm
      obtain ⟨x22, h23, hm⟩ := hm
      refine w_ixI W0 (Lx.ls (Lx.own 0 rfl)) h23 ?_
      replace hm := bndE hm
      obtain ⟨x24, h25, hm⟩ := hm
      refine w_mul h25 ?_
      refine i_addI ?_
      refine i_c ?_
      refine i_addI ?_
      refine i_c ?_
      refine i_mod (by decide) ?_
      refine i_gSub ?_
      refine i_var rfl ?_
      refine i_c ?_
      replace hm := bndE hm
      obtain ⟨x26, h27, hm⟩ := hm
      refine w_set W0 0 rfl Kn.int h27 (fun H28 W29 => ?_)
      dsimp only [List.set] at W29
      clear W0
      refine i_ret ?_
      refine i_op ?_
      refine i_op ?_
      refine i_op ?_
      refine i_var rfl ?_
      refine i_c ?_
      replace hm := bndE hm
      obtain ⟨x30, h31, hm⟩ := hm
      refine w_ixI W29 (Lx.ls (Lx.own 0 rfl)) h31 ?_
      refine i_c ?_
      refine i_fdiv (by decide) (by decide) ?_
      refine i_var rfl ?_
      replace hm := bndE hm
      obtain ⟨x32, h33, hm⟩ := hm
      refine w_mod h33 ?_
      exact hq _ (some_inj hm) _ _ (Wd.res1 (x := (x32 : Int)) W29 hB 0 rfl Kn.int)
end
/-! ### _law_size -/
abbrev sp__law_size (K : PySem.W.Frag) : Sp := fun vs H Q _ => ∃ (a_hand : Addr) (x_hand : (List Int)) (us_hand : List V) (x_k : Int) (x_most : Int) (x_far : Int),  vs = [.ref a_hand, .int x_k, .int x_most, .int x_far] ∧ H a_hand = some (.lst us_hand) ∧ All2 (Rp.rep (lkN fun _ => none)) x_hand us_hand ∧ ∃ r : (Int × (List Int)), m__law_size x_hand x_k x_most x_far = some r ∧ ∀ v' H', Res1 K H a_hand r v' H' → Q v' H'
section
variable {P : Program} {w : World} {K : PySem.W.Frag} {mg : Str → Option Value} {base : Heap}
abbrev N__law_size : List Str := ["hand", "k", "most", "far", "more", "size"]
theorem scope__law_size : FnScope N__law_size ["hand", "k", "most", "far"] (defScope s__law_size) := ⟨rfl, rfl, rfl, by decide +kernel, rfl, by decide +kernel, by decide +kernel⟩
theorem ok__law_size {f : Addr} {fd : FuncData} (F : FunD K "_law_size" "_law_size" (defArgs s__law_size) (defBody s__law_size) (defScope s__law_size) [] [] f fd) (hm : mg "_law_size" = some (.ref f)) (Z : Blt mg)
    (C__law_draw : Fn P w K mg base 1 "_law_draw" ["hand", "limit"] (sp__law_draw K)) :
    Fn P w K mg base 2 "_law_size" ["hand", "k", "most", "far"] (sp__law_size K) := by
  refine mkFn F hm (fun _ _ _ _ _ _ us hl => match us, hl with | [_, _, _, _], _ => rfl) (okG (k := 1) F scope__law_size (fun vs H0 Q E h => ?_) (fun cdv A outer s H0 vs Q E hr hgd h => ?_))
  · obtain ⟨_, _, _, _, _, _, rfl, _⟩ := h; rfl
  · have nd := scope__law_size.nd
    have hu := hr.units
    have hr__law_draw : Room 1 _ := hr.mono (by decide : 1 ≤ 1)
    unfold sp__law_size at h
    refine ⟨_, PSs.nox (pss_cons (ps_if (PW.pt (pw_and (pt_cmpR (op_eqA hu) (pv 1) pe_int (nomark _)) (pw_and1 (pt_cmpR (op_eqA hu) (pe_fn C__law_draw hr__law_draw hgd (by rfl) passL (pa_cons (pv 0) (pa_cons pe_int pa_nil))) pe_int (nomark _))))) (pss_cons (ps_set (i := 4) nd rfl (.inl rfl) (pe_op op_addA pe_int (pe_fn C__law_draw hr__law_draw hgd (by rfl) passL (pa_cons (pv 0) (pa_cons (pv 3) pa_nil)))))
    (pss_one (ps_ret (pe_ix ix_seq (pe_lst (pa_cons (pv 3) (pa_cons (pv 4) pa_nil))) (pe_fn C__law_draw hr__law_draw hgd (by rfl) passL (pa_cons (pv 0) (pa_cons pe_int pa_nil))) (fun _ _ => rfl))))) pss_nil)
    (pss_cons (ps_set (i := 5) nd rfl (.inl rfl) (pe_fn C__law_draw hr__law_draw hgd (by rfl) passL (pa_cons (pv 0) (pa_cons pe_int pa_nil))))
    (pss_one (ps_ret (pe_op op_addA pe_int (pe_fn C__law_draw hr__law_draw hgd (by rfl) passL (pa_cons (pv 0) (pa_cons (pe_ix ix_seq (pe_lst (pa_cons pe_int (pa_cons pe_int (pa_cons (pv 2) pa_nil)))) (pv 5) (fun _ _ => rfl)) pa_nil)))))))), ?_⟩
    (try dsimp only [cxOf])
    obtain ⟨a_hand, x_hand, us_hand, x_k, x_most, x_far, rfl, ha_hand, hr_hand, r0, hm, q⟩ := h
    let G_ : (Int × (List Int)) → Prop := fun r => ∀ v' H', Res1 K H0 a_hand r v' H' → Q v' H'
    have hq : ∀ r, r = r0 → G_ r := fun r e => by subst e; exact q
    clear q
    unfold m__law_size at hm
    have hB : H0 a_hand ≠ none := fun e => by rw [ha_hand] at e; cases e
    have W0 : Wd K (del H0 a_hand) [] [oL true a_hand x_hand] H0 := Wd.mut ha_hand hr_hand
    refine i_seq ?_
    refine i_ifS ?_
    refine i_and ?_
    refine i_test ?_
    refine i_op ?_
    refine i_var rfl ?_
    refine i_c ?_
    refine i_eqI ?_
    refine i_bl ?_
    replace hm := bndE hm
    obtain ⟨x13, h14, hm⟩ := hm
    refine w_andW (L' := [oL true a_hand (x13.2 : List Int)]) x13.1 W0 (fun hb1 P2 hP3 => ?_) (fun hb1 => ?_) (fun H15 W16 => ?_)
    · have hm : _ = some x13 := (if_pos hb1).symm.trans h14
      refine i_test ?_
      refine i_op ?_
      refine i_call ?_
      refine i_tcons ?_
      refine i_var rfl ?_
      refine i_tcons ?_
      refine i_c ?_
      refine i_tnil ?_
      replace hm := bndE hm
      obtain ⟨r4, h5, hm⟩ := hm
      obtain ⟨us12, h10, h11⟩ := Wd.ioa W0 0 rfl
      refine ⟨a_hand, (x_hand : List Int), us12, 8, rfl, h10, h11, r4, h5, fun v6 H7 R8 => ?_⟩
      obtain ⟨rfl, W9⟩ := Wd.call1I (i := r4.1) (ys' := r4.2) W0 0 rfl R8
      refine i_c ?_
      refine i_eqI ?_
      refine i_bl ?_
      have hm := some_inj hm
      subst hm
      exact hP3 _ _ rfl W9
    · have hm := some_inj ((if_neg (by rw [hb1]; exact Bool.false_ne_true)).symm.trans h14)
      subst hm
      exact ⟨rfl, W0⟩
    clear W0
    rcases iteE hm with ⟨hb18, hm⟩ | ⟨hb18, hm⟩
    · refine i_bT hb18 ?_
      refine i_seq ?_
      refine i_asg ?_
      refine i_op ?_
      refine i_c ?_
      refine i_call ?_
      refine i_tcons ?_
      refine i_var rfl ?_
      refine i_tcons ?_
      refine i_var rfl ?_
      refine i_tnil ?_
      replace hm := bndE hm
      obtain ⟨r19, h20, hm⟩ := hm
      obtain ⟨us27, h25, h26⟩ := Wd.ioa W16 0 rfl
      refine ⟨a_hand, (x13.2 : List Int), us27, x_far, rfl, h25, h26, r19, h20, fun v21 H22 R23 => ?_⟩
      obtain ⟨rfl, W24⟩ := Wd.call1I (i := r19.1) (ys' := r19.2) W16 0 rfl R23
      refine i_addI ?_
      refine i_gName ?_
      clear W16
      refine i_ret ?_
      refine i_op ?_
      refine i_tlst ?_
      refine i_tcons ?_
      refine i_var rfl ?_
      refine i_tcons ?_
      refine i_var rfl ?_
      refine i_tnil ?_
      refine w_lst (α := Int) (t := true) W24 (KnL.cons Kn.int (KnL.cons Kn.int KnL.nil)) (by show (2 : Nat) ≤ sizeLine; decide) (fun p28 H29 W30 => ?_)
      have W31 := Wd.frz W30
      refine i_call ?_
      refine i_tcons ?_
      refine i_var rfl ?_
      refine i_tcons ?_
      refine i_c ?_
      refine i_tnil ?_
      replace hm := bndE hm
      obtain ⟨r32, h33, hm⟩ := hm
      obtain ⟨us40, h38, h39⟩ := Wd.ioa W31 0 rfl
      refine ⟨a_hand, (r19.2 : List Int), us40, 2, rfl, h38, h39, r32, h33, fun v34 H35 R36 => ?_⟩
      obtain ⟨rfl, W37⟩ := Wd.call1I (i := r32.1) (ys' := r32.2) W31 0 rfl R36
      replace hm := bndE hm
      obtain ⟨x41, h42, hm⟩ := hm
      refine w_ixI W37 (Lx.ls (Lx.kn (Kn.at 0 rfl))) h42 ?_
      exact hq _ (some_inj hm) _ _ (Wd.res1 (x := (x41 : Int)) W37 hB 0 rfl Kn.int)
    · refine i_bF hb18 ?_
      refine i_next ?_
      refine i_seq ?_
      refine i_asg ?_
      refine i_call ?_
      refine i_tcons ?_
      refine i_var rfl ?_
      refine i_tcons ?_
      refine i_c ?_
      refine i_tnil ?_
      replace hm := bndE hm
      obtain ⟨r43, h44, hm⟩ := hm
      obtain ⟨us51, h49, h50⟩ := Wd.ioa W16 0 rfl
      refine ⟨a_hand, (x13.2 : List Int), us51, 3, rfl, h49, h50, r43, h44, fun v45 H46 R47 => ?_⟩
      obtain ⟨rfl, W48⟩ := Wd.call1I (i := r43.1) (ys' := r43.2) W16 0 rfl R47
      refine i_gName ?_
      clear W16
      refine i_ret ?_
      refine i_op ?_
      refine i_c ?_
      refine i_call ?_
      refine i_tcons ?_
      refine i_var rfl ?_
      refine i_tcons ?_
      refine i_op ?_
      refine i_tlst ?_
      refine i_tcons ?_
      refine i_c ?_
      refine i_tcons ?_
      refine i_c ?_
      refine i_tcons ?_
      refine i_var rfl ?_
      refine i_tnil ?_
      refine w_lst (α := Int) (t := true) W48 (KnL.cons Kn.int (KnL.cons Kn.int (KnL.cons Kn.int KnL.nil))) (by show (3 : Nat) ≤ sizeLine; decide) (fun p52 H53 W54 => ?_)
      have W55 := Wd.frz W54
      refine i_var rfl ?_
      replace hm := bndE hm
      obtain ⟨x56, h57, hm⟩ := hm
      refine w_ixI W55 (Lx.ls (Lx.kn (Kn.at 0 rfl))) h57 ?_
      refine i_tnil ?_
      replace hm := bndE hm
      obtain ⟨r58, h59, hm⟩ := hm
      obtain ⟨us66, h64, h65⟩ := Wd.ioa W55 0 rfl
      refine ⟨a_hand, (r43.2 : List Int), us66, x56, rfl, h64, h65, r58, h59, fun v60 H61 R62 => ?_⟩
      obtain ⟨rfl, W63⟩ := Wd.call1I (i := r58.1) (ys' := r58.2) W55 0 rfl R62
      refine i_addI ?_
      exact hq _ (some_inj hm) _ _ (Wd.res1 (x := ((1 + r58.1) : Int)) W63 hB 0 rfl Kn.int)
end
/-! ### _law_row -/
abbrev sp__law_row (K : PySem.W.Frag) : Sp := fun vs H Q _ => ∃ (a_hand : Addr) (x_hand : (List Int)) (us_hand : List V) (x_many : Int),  vs = [.ref a_hand, .int x_many] ∧ H a_hand = some (.lst us_hand) ∧ All2 (Rp.rep (lkN fun _ => none)) x_hand us_hand ∧ ∃ r : ((List Int) × (List Int)), m__law_row x_hand x_many = some r ∧ ∀ v' H', Res1 K H a_hand r v' H' → Q v' H'
section
variable {P : Program} {w : World} {K : PySem.W.Frag} {mg : Str → Option Value} {base : Heap}
abbrev N__law_row : List Str := ["hand", "many", "way", "wide", "k", "one", "found", "number"]
theorem scope__law_row : FnScope N__law_row ["hand", "many"] (defScope s__law_row) := ⟨rfl, rfl, rfl, by decide +kernel, rfl, by decide +kernel, by decide +kernel⟩
theorem ok__law_row {f : Addr} {fd : FuncData} (F : FunD K "_law_row" "_law_row" (defArgs s__law_row) (defBody s__law_row) (defScope s__law_row) [] [] f fd) (hm : mg "_law_row" = some (.ref f)) (Z : Blt mg)
    (C__law_draw : Fn P w K mg base 1 "_law_draw" ["hand", "limit"] (sp__law_draw K)) :
    Fn P w K mg base 2 "_law_row" ["hand", "many"] (sp__law_row K) := by
  refine mkFn F hm (fun _ _ _ _ _ _ us hl => match us, hl with | [_, _], _ => rfl) (okG (k := 1) F scope__law_row (fun vs H0 Q E h => ?_) (fun cdv A outer s H0 vs Q E hr hgd h => ?_))
  · obtain ⟨_, _, _, _, rfl, _⟩ := h; rfl
  · have nd := scope__law_row.nd
    have hu := hr.units
    have hr__law_draw : Room 1 _ := hr.mono (by decide : 1 ≤ 1)
    unfold sp__law_row at h
    refine ⟨_, PSs.nox (pss_cons (ps_set (i := 2) nd rfl (.inl rfl) (pe_fn C__law_draw hr__law_draw hgd (by rfl) passL (pa_cons (pv 0) (pa_cons pe_int pa_nil))))
    (pss_cons (ps_set (i := 3) nd rfl (.inl rfl) pe_int)
    (pss_cons (ps_for PassesOwn.never rfl (pi_range1 (by rfl) Z.range_ (pa_cons (pe_fn C__law_draw hr__law_draw hgd (by rfl) passL (pa_cons (pv 0) (pa_cons pe_int pa_nil))) pa_nil)) (pg_name (i := 4) nd rfl (.inl rfl)) (pss_one (ps_set (i := 3) nd rfl (.inl rfl) (pe_op op_mulA (pv 3) pe_int))))
    (pss_cons (ps_set (i := 5) nd rfl (.inl rfl) (pe_fn C__law_draw hr__law_draw hgd (by rfl) passL (pa_cons (pv 0) (pa_cons pe_int pa_nil))))
    (pss_cons (ps_set (i := 6) nd rfl (.inl rfl) (pe_lst pa_nil))
    (pss_cons (ps_for PassesOwn.never rfl (pi_range1 (by rfl) Z.range_ (pa_cons (pv 1) pa_nil)) (pg_name (i := 4) nd rfl (.inl rfl)) (pss_cons (ps_set (i := 7) nd rfl (.inl rfl) (pe_fn C__law_draw hr__law_draw hgd (by rfl) passL (pa_cons (pv 0) (pa_cons pe_int pa_nil))))
    (C8.pss_cut (ps_if (pt_cmpR (op_eqA hu) (pv 2) pe_int (nomark _)) (pss_one (ps_set (i := 7) nd rfl (.inl rfl) (pe_op op_mod (pe_op op_addA (pe_op op_mulA (pe_fn C__law_draw hr__law_draw hgd (by rfl) passL (pa_cons (pv 0) (pa_cons (pe_op op_pow pe_int pe_int) pa_nil))) (pe_op op_pow pe_int pe_int)) (pe_fn C__law_draw hr__law_draw hgd (by rfl) passL (pa_cons (pv 0) (pa_cons (pe_op op_pow pe_int pe_int) pa_nil)))) (pe_op op_addA (pv 3) pe_int)))) pss_nil)
    (C8.pss_cut (ps_if (pt_cmpR (op_eqA hu) (pv 2) pe_int (nomark _)) (pss_one (ps_set (i := 7) nd rfl (.inl rfl) (pe_op op_fdivW (pe_op op_mulA (pv 5) (pv 3)) pe_int))) pss_nil)
    (C8.pss_cut (ps_if (pt_cmpR (op_eqA hu) (pv 2) pe_int (nomark _)) (pss_one (ps_set (i := 7) nd rfl (.inl rfl) (pe_op op_mulA (pe_callB (cl_max2 rfl) (by rfl) Z.max_ (by decide +kernel) (pa_cons pe_int (pa_cons (pe_op op_sub (pv 7) pe_int) pa_nil))) (pv 5)))) pss_nil)
    (C8.pss_cut (ps_if (pt_cmpR (op_eqA hu) (pv 2) pe_int (nomark _)) (pss_one (ps_set (i := 7) nd rfl (.inl rfl) (pe_op op_mulA (pv 4) (pv 5)))) pss_nil)
    (pss_one (ps_expr (pe_bmK (K := K) PySem.F.plainAttrs_list PySem.F.slot_list_append PySem.F.type_list_append mt_append (pv 6) (pa_cons (pv 7) pa_nil))))))))))
    (C8.pss_cut (ps_if (pt_cmpR (op_eqA hu) (pv 2) pe_int (nomark _)) (pss_one (ps_asg (pv 3) (pg_sub (pv 6) (pe_fn C__law_draw hr__law_draw hgd (by rfl) passL (pa_cons (pv 0) (pa_cons (pv 1) pa_nil))) set_list))) pss_nil)
    (pss_one (ps_ret (pv 6)))))))))), ?_⟩
    (try dsimp only [cxOf])
    obtain ⟨a_hand, x_hand, us_hand, x_many, rfl, ha_hand, hr_hand, r0, hm, q⟩ := h
    let G_ : ((List Int) × (List Int)) → Prop := fun r => ∀ v' H', Res1 K H0 a_hand r v' H' → Q v' H'
    have hq : ∀ r, r = r0 → G_ r := fun r e => by subst e; exact q
    clear q
    unfold m__law_row at hm
    have hB : H0 a_hand ≠ none := fun e => by rw [ha_hand] at e; cases e
    have W0 : Wd K (del H0 a_hand) [] [oL true a_hand x_hand] H0 := Wd.mut ha_hand hr_hand
    refine i_seq ?_
    refine i_asg ?_
    refine i_call ?_
    refine i_tcons ?_
    refine i_var rfl ?_
    refine i_tcons ?_
    refine i_c ?_
    refine i_tnil ?_
    replace hm := bndE hm
    obtain ⟨r1, h2, hm⟩ := hm
    obtain ⟨us9, h7, h8⟩ := Wd.ioa W0 0 rfl
    refine ⟨a_hand, (x_hand : List Int), us9, 6, rfl, h7, h8, r1, h2, fun v3 H4 R5 => ?_⟩
    obtain ⟨rfl, W6⟩ := Wd.call1I (i := r1.1) (ys' := r1.2) W0 0 rfl R5
    refine i_gName ?_
    clear W0
    refine i_seq ?_
    refine i_asg ?_
    refine i_c ?_
    refine i_gName ?_
    refine i_seq ?_
    refine i_for ?_
    refine i_iRng1 ?_
    refine i_tcons ?_
    refine i_call ?_
    refine i_tcons ?_
    refine i_var rfl ?_
    refine i_tcons ?_
    refine i_c ?_
    refine i_tnil ?_
    replace hm := bndE hm
    obtain ⟨r10, h11, hm⟩ := hm
    obtain ⟨us18, h16, h17⟩ := Wd.ioa W6 0 rfl
    refine ⟨a_hand, (r1.2 : List Int), us18, 13, rfl, h16, h17, r10, h11, fun v12 H13 R14 => ?_⟩
    obtain ⟨rfl, W15⟩ := Wd.call1I (i := r10.1) (ys' := r10.2) W6 0 rfl R14
    refine i_tnil ?_
    replace hm := bndE hm
    obtain ⟨x20, h21, hm⟩ := hm
    refine w_rg1 h21 (fun e19 => ?_)
    subst e19
    clear W6
    have W22 := Wd.sel W15 [] rfl
    replace hm := bndE hm
    obtain ⟨o28, h29, hm⟩ := hm
    refine w_fold (⟨fun b e => [some (.ref a_hand), some (.int x_many), some (.int r1.1), some (.int b), e, none, none, none], fun b e => [], fun b e => [oL true a_hand (r10.2 : List Int)]⟩ : Shp (Int) (Option V)) none h29 rfl W22 gv_rng ?_ ?_
    · intro x25 v26 b23 e24_0 H30 o31 W27 hm
      dsimp only at W27 ⊢
      obtain rfl := Wd.eqI W27 (Kn.at 0 rfl)
      refine i_gName ?_
      refine i_asg ?_
      refine i_op ?_
      refine i_var rfl ?_
      refine i_c ?_
      replace hm := bndE hm
      obtain ⟨x36, h37, hm⟩ := hm
      refine w_mul h37 ?_
      refine i_gName ?_
      have W38 := Wd.sel W27 [] rfl
      obtain rfl := some_inj hm
      exact ⟨some (.int x25), rfl, W38⟩
    · intro e40_0 H41 W42
      dsimp only at W42 ⊢
      refine i_seq ?_
      refine i_asg ?_
      refine i_call ?_
      refine i_tcons ?_
      refine i_var rfl ?_
      refine i_tcons ?_
      refine i_c ?_
      refine i_tnil ?_
      replace hm := bndE hm
      obtain ⟨r44, h45, hm⟩ := hm
      obtain ⟨us52, h50, h51⟩ := Wd.ioa W42 0 rfl
      refine ⟨a_hand, (r10.2 : List Int), us52, 30, rfl, h50, h51, r44, h45, fun v46 H47 R48 => ?_⟩
      obtain ⟨rfl, W49⟩ := Wd.call1I (i := r44.1) (ys' := r44.2) W42 0 rfl R48
      refine i_gName ?_
      clear W42
      refine i_seq ?_
      refine i_asg ?_
      refine i_tlst ?_
      refine i_tnil ?_
      refine w_lst (α := Int) (t := true) W49 KnL.nil (by show (0 : Nat) ≤ sizeLine; decide) (fun p53 H54 W55 => ?_)
      refine i_gName ?_
      clear W49
      refine i_seq ?_
      refine i_for ?_
      refine i_iRng1 ?_
      refine i_tcons ?_
      refine i_var rfl ?_
      refine i_tnil ?_
      replace hm := bndE hm
      obtain ⟨x57, h58, hm⟩ := hm
      refine w_rg1 h58 (fun e56 => ?_)
      subst e56
      have W59 := Wd.sel W55 [] rfl
      have W60 := Wd.selO W59 [1, 0] rfl
      replace hm := bndE hm
      obtain ⟨o66, h67, hm⟩ := hm
      refine w_fold (⟨fun b e => [some (.ref a_hand), some (.int x_many), some (.int r1.1), some (.int o28), e.1, some (.int r44.1), some (.ref p53), e.2], fun b e => [], fun b e => [oL true a_hand (b.2 : List Int), oL true p53 (b.1 : List Int)]⟩ : Shp ((List Int) × (List Int)) (Option V × Option V)) (e40_0, none) h67 rfl W60 gv_rng ?_ ?_
      · intro x63 v64 b61 e62 H68 o69 W65 hm
        obtain ⟨e62_0, e62_1⟩ := e62
        dsimp only at W65 ⊢
        obtain rfl := Wd.eqI W65 (Kn.at 0 rfl)
        refine i_gName ?_
        refine i_seq ?_
        refine i_asg ?_
        refine i_call ?_
        refine i_tcons ?_
        refine i_var rfl ?_
        refine i_tcons ?_
        refine i_c ?_
        refine i_tnil ?_
        replace hm := bndE hm
        obtain ⟨r74, h75, hm⟩ := hm
        obtain ⟨us82, h80, h81⟩ := Wd.ioa W65 0 rfl
        refine ⟨a_hand, (b61.2 : List Int), us82, 4, rfl, h80, h81, r74, h75, fun v76 H77 R78 => ?_⟩
        obtain ⟨rfl, W79⟩ := Wd.call1I (i := r74.1) (ys' := r74.2) W65 0 rfl R78
        refine i_gName ?_
        clear W65
        replace hm := bndE hm
        obtain ⟨s83, h84, hm⟩ := hm
        refine f_cut (NF K (del H0 a_hand) (⟨fun b e => [some (.ref a_hand), some (.int x_many), some (.int r1.1), some (.int o28), some (.int x63), some (.int r44.1), some (.ref p53), some (.int b.2)], fun b e => [], fun b e => [oL true a_hand (b.1 : List Int), oL true p53 (b61.1 : List Int)]⟩ : Shp ((List Int) × Int) (Unit)) s83 ) ?_ ?_
        · have hm := h84
          refine i_ifS ?_
          refine i_test ?_
          refine i_op ?_
          refine i_var rfl ?_
          refine i_c ?_
          refine i_eqI ?_
          refine i_bl ?_
          rcases iteE hm with ⟨hb85, hm⟩ | ⟨hb85, hm⟩
          · refine i_bT hb85 ?_
            refine i_asg ?_
            refine i_op ?_
            refine i_op ?_
            refine i_op ?_
            refine i_call ?_
            refine i_tcons ?_
            refine i_var rfl ?_
            refine i_tcons ?_
            refine i_op ?_
            refine i_c ?_
            refine i_c ?_
            refine i_pow (n := 10000000) (by decide) (by decide) ?_
            refine i_tnil ?_
            replace hm := bndE hm
            obtain ⟨r86, h87, hm⟩ := hm
            obtain ⟨us94, h92, h93⟩ := Wd.ioa W79 0 rfl
            refine ⟨a_hand, (r74.2 : List Int), us94, 10000000, rfl, h92, h93, r86, h87, fun v88 H89 R90 => ?_⟩
            obtain ⟨rfl, W91⟩ := Wd.call1I (i := r86.1) (ys' := r86.2) W79 0 rfl R90
            refine i_op ?_
            refine i_c ?_
            refine i_c ?_
            refine i_pow (n := 10000000) (by decide) (by decide) ?_
            replace hm := bndE hm
            obtain ⟨x95, h96, hm⟩ := hm
            refine w_mul h96 ?_
            refine i_call ?_
            refine i_tcons ?_
            refine i_var rfl ?_
            refine i_tcons ?_
            refine i_op ?_
            refine i_c ?_
            refine i_c ?_
            refine i_pow (n := 10000000) (by decide) (by decide) ?_
            refine i_tnil ?_
            replace hm := bndE hm
            obtain ⟨r97, h98, hm⟩ := hm
            obtain ⟨us105, h103, h104⟩ := Wd.ioa W91 0 rfl
            refine ⟨a_hand, (r86.2 : List Int), us105, 10000000, rfl, h103, h104, r97, h98, fun v99 H100 R101 => ?_⟩
            obtain ⟨rfl, W102⟩ := Wd.call1I (i := r97.1) (ys' := r97.2) W91 0 rfl R101
            refine i_addI ?_
            refine i_op ?_
            refine i_var rfl ?_
            refine i_c ?_
            refine i_addI ?_
            replace hm := bndE hm
            obtain ⟨x106, h107, hm⟩ := hm
            refine w_mod h107 ?_
            refine i_gName ?_
            clear W79 W91
            have W108 := Wd.sel W102 [] rfl
            obtain rfl := some_inj hm
            exact ⟨(), rfl, W108⟩
          · refine i_bF hb85 ?_
            refine i_next ?_
            have W109 := Wd.sel W79 [] rfl
            obtain rfl := some_inj hm
            exact ⟨(), rfl, W109⟩
        · rintro _ H110 ⟨_, rfl, W111⟩
          dsimp only at W111 ⊢
          replace hm := bndE hm
          obtain ⟨s113, h114, hm⟩ := hm
          refine f_cut (NF K (del H0 a_hand) (⟨fun b e => [some (.ref a_hand), some (.int x_many), some (.int r1.1), some (.int o28), some (.int x63), some (.int r44.1), some (.ref p53), some (.int b)], fun b e => [], fun b e => [oL true a_hand (s83.1 : List Int), oL true p53 (b61.1 : List Int)]⟩ : Shp (Int) (Unit)) s113 ) ?_ ?_
          · have hm := h114
            refine i_ifS ?_
            refine i_test ?_
            refine i_op ?_
            refine i_var rfl ?_
            refine i_c ?_
            refine i_eqI ?_
            refine i_bl ?_
            rcases iteE hm with ⟨hb115, hm⟩ | ⟨hb115, hm⟩
            · refine i_bT hb115 ?_
              refine i_asg ?_
              refine i_op ?_
              refine i_op ?_
              refine i_var rfl ?_
              refine i_var rfl ?_
              replace hm := bndE hm
              obtain ⟨x116, h117, hm⟩ := hm
              refine w_mul h117 ?_
              refine i_c ?_
              refine i_fdiv (by decide) (by decide) ?_
              refine i_gName ?_
              have W118 := Wd.sel W111 [] rfl
              obtain rfl := some_inj hm
              exact ⟨(), rfl, W118⟩
            · refine i_bF hb115 ?_
              refine i_next ?_
              have W119 := Wd.sel W111 [] rfl
              obtain rfl := some_inj hm
              exact ⟨(), rfl, W119⟩
          · rintro _ H120 ⟨_, rfl, W121⟩
            dsimp only at W121 ⊢
            replace hm := bndE hm
            obtain ⟨s123, h124, hm⟩ := hm
            refine f_cut (NF K (del H0 a_hand) (⟨fun b e => [some (.ref a_hand), some (.int x_many), some (.int r1.1), some (.int o28), some (.int x63), some (.int r44.1), some (.ref p53), some (.int b)], fun b e => [], fun b e => [oL true a_hand (s83.1 : List Int), oL true p53 (b61.1 : List Int)]⟩ : Shp (Int) (Unit)) s123 ) ?_ ?_
            · have hm := h124
              refine i_ifS ?_
              refine i_test ?_
              refine i_op ?_
              refine i_var rfl ?_
              refine i_c ?_
              refine i_eqI ?_
              refine i_bl ?_
              rcases iteE hm with ⟨hb125, hm⟩ | ⟨hb125, hm⟩
              · refine i_bT hb125 ?_
                refine i_asg ?_
                refine i_op ?_
                refine i_cb ?_
                refine i_tcons ?_
                refine i_c ?_
                refine i_tcons ?_
                refine i_op ?_
                refine i_var rfl ?_
                refine i_c ?_
                refine i_I0 ?_
                refine i_tnil ?_
                refine i_max2 ?_
                refine i_var rfl ?_
                replace hm := bndE hm
                obtain ⟨x126, h127, hm⟩ := hm
                refine w_mul h127 ?_
                refine i_gName ?_
                have W128 := Wd.sel W121 [] rfl
                obtain rfl := some_inj hm
                exact ⟨(), rfl, W128⟩
              · refine i_bF hb125 ?_
                refine i_next ?_
                have W129 := Wd.sel W121 [] rfl
                obtain rfl := some_inj hm
                exact ⟨(), rfl, W129⟩
            · rintro _ H130 ⟨_, rfl, W131⟩
              dsimp only at W131 ⊢
              replace hm := bndE hm
              obtain ⟨s133, h134, hm⟩ := hm
              refine f_cut (NF K (del H0 a_hand) (⟨fun b e => [some (.ref a_hand), some (.int x_many), some (.int r1.1), some (.int o28), some (.int x63), some (.int r44.1), some (.ref p53), some (.int b)], fun b e => [], fun b e => [oL true a_hand (s83.1 : List Int), oL true p53 (b61.1 : List Int)]⟩ : Shp (Int) (Unit)) s133 ) ?_ ?_
              · have hm := h134
                refine i_ifS ?_
                refine i_test ?_
                refine i_op ?_
                refine i_var rfl ?_
                refine i_c ?_
                refine i_eqI ?_
                refine i_bl ?_
                rcases iteE hm with ⟨hb135, hm⟩ | ⟨hb135, hm⟩
                · refine i_bT hb135 ?_
                  refine i_asg ?_
                  refine i_op ?_
                  refine i_var rfl ?_
                  refine i_var rfl ?_
                  replace hm := bndE hm
                  obtain ⟨x136, h137, hm⟩ := hm
                  refine w_mul h137 ?_
                  refine i_gName ?_
                  have W138 := Wd.sel W131 [] rfl
                  obtain rfl := some_inj hm
                  exact ⟨(), rfl, W138⟩
                · refine i_bF hb135 ?_
                  refine i_next ?_
                  have W139 := Wd.sel W131 [] rfl
                  obtain rfl := some_inj hm
                  exact ⟨(), rfl, W139⟩
              · rintro _ H140 ⟨_, rfl, W141⟩
                dsimp only at W141 ⊢
                refine i_drop ?_
                refine i_bm ?_
                refine i_var rfl ?_
                refine w_mt W141 (Lx.ls (Lx.own 1 rfl)) ?_
                refine i_tcons ?_
                refine i_var rfl ?_
                refine i_tnil ?_
                replace hm := bndE hm
                obtain ⟨x143, h144, hm⟩ := hm
                refine w_app W141 1 rfl Kn.int h144 (fun H145 W146 => ?_)
                dsimp only [List.set] at W146
                clear W141
                have W147 := Wd.sel W146 [] rfl
                obtain rfl := some_inj hm
                exact ⟨(some (.int x63), some (.int s133)), rfl, W147⟩
      · intro e149 H150 W151
        obtain ⟨e149_0, e149_1⟩ := e149
        dsimp only at W151 ⊢
        replace hm := bndE hm
        obtain ⟨s153, h154, hm⟩ := hm
        refine f_cut (NF K (del H0 a_hand) (⟨fun b e => [some (.ref a_hand), some (.int x_many), some (.int r1.1), some (.int o28), e149_0, some (.int r44.1), some (.ref p53), e149_1], fun b e => [], fun b e => [oL true a_hand (b.2 : List Int), oL true p53 (b.1 : List Int)]⟩ : Shp ((List Int) × (List Int)) (Unit)) s153 ) ?_ ?_
        · have hm := h154
          refine i_ifS ?_
          refine i_test ?_
          refine i_op ?_
          refine i_var rfl ?_
          refine i_c ?_
          refine i_eqI ?_
          refine i_bl ?_
          rcases iteE hm with ⟨hb155, hm⟩ | ⟨hb155, hm⟩
          · refine i_bT hb155 ?_
            refine i_asg ?_
            refine i_var rfl ?_
            refine i_gSub ?_
            refine i_var rfl ?_
            refine i_call ?_
            refine i_tcons ?_
            refine i_var rfl ?_
            refine i_tcons ?_
            refine i_var rfl ?_
            refine i_tnil ?_
            replace hm := bndE hm
            obtain ⟨r156, h157, hm⟩ := hm
            obtain ⟨us164, h162, h163⟩ := Wd.ioa W151 0 rfl
            refine ⟨a_hand, (o66.2 : List Int), us164, x_many, rfl, h162, h163, r156, h157, fun v158 H159 R160 => ?_⟩
            obtain ⟨rfl, W161⟩ := Wd.call1I (i := r156.1) (ys' := r156.2) W151 0 rfl R160
            replace hm := bndE hm
            obtain ⟨x165, h166, hm⟩ := hm
            refine w_set W161 1 rfl Kn.int h166 (fun H167 W168 => ?_)
            dsimp only [List.set] at W168
            clear W151 W161
            have W169 := Wd.sel W168 [] rfl
            obtain rfl := some_inj hm
            exact ⟨(), rfl, W169⟩
          · refine i_bF hb155 ?_
            refine i_next ?_
            have W170 := Wd.sel W151 [] rfl
            obtain rfl := some_inj hm
            exact ⟨(), rfl, W170⟩
        · rintro _ H171 ⟨_, rfl, W172⟩
          dsimp only at W172 ⊢
          refine i_ret ?_
          refine i_var rfl ?_
          have W174 := Wd.selO W172 [1, 0] rfl
          have W175 := Wd.frz W174
          exact hq _ (some_inj hm) _ _ (Wd.res1 (x := (s153.1 : (List Int))) W175 hB 0 rfl (Kn.at 0 rfl))
end
/-! ### _law_many -/
abbrev sp__law_many (K : PySem.W.Frag) : Sp := fun vs H Q _ => ∃ (a_hand : Addr) (x_hand : (List Int)) (us_hand : List V) (x_row : (List Int)) (v_row : V),  vs = [.ref a_hand, v_row] ∧ H a_hand = some (.lst us_hand) ∧ All2 (Rp.rep (lkN fun _ => none)) x_hand us_hand ∧ Rp.rep (lkA K (del H a_hand)) x_row v_row ∧ ∃ r : (Int × (List Int)), m__law_many x_hand x_row = some r ∧ ∀ v' H', Res1 K H a_hand r v' H' → Q v' H'
section
variable {P : Program} {w : World} {K : PySem.W.Frag} {mg : Str → Option Value} {base : Heap}
abbrev N__law_many : List Str := ["hand", "row", "many", "some"]
theorem scope__law_many : FnScope N__law_many ["hand", "row"] (defScope s__law_many) := ⟨rfl, rfl, rfl, by decide +kernel, rfl, by decide +kernel, by decide +kernel⟩
theorem ok__law_many {f : Addr} {fd : FuncData} (F : FunD K "_law_many" "_law_many" (defArgs s__law_many) (defBody s__law_many) (defScope s__law_many) [] [] f fd) (hm : mg "_law_many" = some (.ref f)) (Z : Blt mg)
    (C__law_draw : Fn P w K mg base 1 "_law_draw" ["hand", "limit"] (sp__law_draw K)) :
    Fn P w K mg base 2 "_law_many" ["hand", "row"] (sp__law_many K) := by
  refine mkFn F hm (fun _ _ _ _ _ _ us hl => match us, hl with | [_, _], _ => rfl) (okG (k := 1) F scope__law_many (fun vs H0 Q E h => ?_) (fun cdv A outer s H0 vs Q E hr hgd h => ?_))
  · obtain ⟨_, _, _, _, _, rfl, _⟩ := h; rfl
  · have nd := scope__law_many.nd
    have hu := hr.units
    have hr__law_draw : Room 1 _ := hr.mono (by decide : 1 ≤ 1)
    unfold sp__law_many at h
    refine ⟨_, PSs.nox (pss_cons (ps_set (i := 2) nd rfl (.inl rfl) (pe_callB cl_len (by rfl) Z.len_ (by decide +kernel) (pa_cons (pv 1) pa_nil)))
    (pss_cons (ps_set (i := 3) nd rfl (.inl rfl) (pe_lst (pa_cons pe_int (pa_cons (pe_callB (cl_min2 rfl) (by rfl) Z.min_ (by decide +kernel) (pa_cons pe_int (pa_cons (pv 2) pa_nil))) (pa_cons (pv 2) (pa_cons (pe_callB (cl_max2 rfl) (by rfl) Z.max_ (by decide +kernel) (pa_cons pe_int (pa_cons (pe_op op_sub (pv 2) pe_int) pa_nil))) (pa_cons (pe_op op_addA pe_int (pe_fn C__law_draw hr__law_draw hgd (by rfl) passL (pa_cons (pv 0) (pa_cons (pv 2) pa_nil)))) pa_nil)))))))
    (pss_one (ps_ret (pe_ix ix_seq (pv 3) (pe_ix ix_seq (pe_lst (pa_cons pe_int (pa_cons pe_int (pa_cons pe_int (pa_cons pe_int (pa_cons pe_int (pa_cons pe_int (pa_cons pe_int (pa_cons pe_int pa_nil))))))))) (pe_fn C__law_draw hr__law_draw hgd (by rfl) passL (pa_cons (pv 0) (pa_cons pe_int pa_nil))) (fun _ _ => rfl)) (fun _ _ => rfl)))))), ?_⟩
    (try dsimp only [cxOf])
    obtain ⟨a_hand, x_hand, us_hand, x_row, v_row, rfl, ha_hand, hr_hand, h_row, r0, hm, q⟩ := h
    let G_ : (Int × (List Int)) → Prop := fun r => ∀ v' H', Res1 K H0 a_hand r v' H' → Q v' H'
    have hq : ∀ r, r = r0 → G_ r := fun r e => by subst e; exact q
    clear q
    unfold m__law_many at hm
    have hB : H0 a_hand ≠ none := fun e => by rw [ha_hand] at e; cases e
    have W0 : Wd K (del H0 a_hand) [] [oL true a_hand x_hand] H0 := Wd.mut ha_hand hr_hand
    have W1 := Wd.arg W0 h_row
    obtain ⟨a2, rfl⟩ := Wd.eqL W1 (Kn.at 0 rfl)
    refine i_seq ?_
    refine i_asg ?_
    refine i_cb ?_
    refine i_tcons ?_
    refine i_var rfl ?_
    refine i_tnil ?_
    refine w_len W1 (Lx.ls (Lx.flat (t := true) (Lx.kn (Kn.at 0 rfl)))) ?_
    refine i_gName ?_
    clear W0
    refine i_seq ?_
    refine i_asg ?_
    refine i_tlst ?_
    refine i_tcons ?_
    refine i_c ?_
    refine i_tcons ?_
    refine i_cb ?_
    refine i_tcons ?_
    refine i_c ?_
    refine i_tcons ?_
    refine i_var rfl ?_
    refine i_tnil ?_
    refine i_min2 ?_
    refine i_tcons ?_
    refine i_var rfl ?_
    refine i_tcons ?_
    refine i_cb ?_
    refine i_tcons ?_
    refine i_c ?_
    refine i_tcons ?_
    refine i_op ?_
    refine i_var rfl ?_
    refine i_c ?_
    refine i_I0 ?_
    refine i_tnil ?_
    refine i_max2 ?_
    refine i_tcons ?_
    refine i_op ?_
    refine i_c ?_
    refine i_call ?_
    refine i_tcons ?_
    refine i_var rfl ?_
    refine i_tcons ?_
    refine i_var rfl ?_
    refine i_tnil ?_
    replace hm := bndE hm
    obtain ⟨r3, h4, hm⟩ := hm
    obtain ⟨us11, h9, h10⟩ := Wd.ioa W1 0 rfl
    refine ⟨a_hand, (x_hand : List Int), us11, (lenI x_row), rfl, h9, h10, r3, h4, fun v5 H6 R7 => ?_⟩
    obtain ⟨rfl, W8⟩ := Wd.call1I (i := r3.1) (ys' := r3.2) W1 0 rfl R7
    refine i_addI ?_
    refine i_tnil ?_
    refine w_lst (α := Int) (t := true) W8 (KnL.cons Kn.int (KnL.cons Kn.int (KnL.cons Kn.int (KnL.cons Kn.int (KnL.cons Kn.int KnL.nil))))) (by show (5 : Nat) ≤ sizeLine; decide) (fun p12 H13 W14 => ?_)
    have W15 := Wd.frz W14
    refine i_gName ?_
    clear W1 W8 W14
    refine i_ret ?_
    refine i_op ?_
    refine i_var rfl ?_
    refine i_op ?_
    refine i_tlst ?_
    refine i_tcons ?_
    refine i_c ?_
    refine i_tcons ?_
    refine i_c ?_
    refine i_tcons ?_
    refine i_c ?_
    refine i_tcons ?_
    refine i_c ?_
    refine i_tcons ?_
    refine i_c ?_
    refine i_tcons ?_
    refine i_c ?_
    refine i_tcons ?_
    refine i_c ?_
    refine i_tcons ?_
    refine i_c ?_
    refine i_tnil ?_
    refine w_lst (α := Int) (t := true) W15 (KnL.cons Kn.int (KnL.cons Kn.int (KnL.cons Kn.int (KnL.cons Kn.int (KnL.cons Kn.int (KnL.cons Kn.int (KnL.cons Kn.int (KnL.cons Kn.int KnL.nil)))))))) (by show (8 : Nat) ≤ sizeLine; decide) (fun p16 H17 W18 => ?_)
    have W19 := Wd.frz W18
    refine i_call ?_
    refine i_tcons ?_
    refine i_var rfl ?_
    refine i_tcons ?_
    refine i_c ?_
    refine i_tnil ?_
    replace hm := bndE hm
    obtain ⟨r20, h21, hm⟩ := hm
    obtain ⟨us28, h26, h27⟩ := Wd.ioa W19 0 rfl
    refine ⟨a_hand, (r3.2 : List Int), us28, 8, rfl, h26, h27, r20, h21, fun v22 H23 R24 => ?_⟩
    obtain ⟨rfl, W25⟩ := Wd.call1I (i := r20.1) (ys' := r20.2) W19 0 rfl R24
    replace hm := bndE hm
    obtain ⟨x29, h30, hm⟩ := hm
    refine w_ixI W25 (Lx.ls (Lx.kn (Kn.at 0 rfl))) h30 ?_
    replace hm := bndE hm
    obtain ⟨x31, h32, hm⟩ := hm
    refine w_ixI W25 (Lx.ls (Lx.kn (Kn.at 1 rfl))) h32 ?_
    exact hq _ (some_inj hm) _ _ (Wd.res1 (x := (x31 : Int)) W25 hB 0 rfl Kn.int)
end
/-! ### _law_cuts -/
abbrev sp__law_cuts (K : PySem.W.Frag) : Sp := fun vs H Q _ => ∃ (x_many : Int) (x_parts : Int),  vs = [.int x_many, .int x_parts] ∧ ∃ r : (List (List Int)), m__law_cuts x_many x_parts = some r ∧ ∀ v' H', Res K H r v' H' → Q v' H'
section
variable {P : Program} {w : World} {K : PySem.W.Frag} {mg : Str → Option Value} {base : Heap}
abbrev N__law_cuts : List Str := ["many", "parts", "found", "left", "longer", "cut", "place"]
theorem scope__law_cuts : FnScope N__law_cuts ["many", "parts"] (defScope s__law_cuts) := ⟨rfl, rfl, rfl, by decide +kernel, rfl, by decide +kernel, by decide +kernel⟩
-- comprehension scope 0
-- comprehension scope 1
theorem ok__law_cuts {f : Addr} {fd : FuncData} (F : FunD K "_law_cuts" "_law_cuts" (defArgs s__law_cuts) (defBody s__law_cuts) (defScope s__law_cuts) [] [] f fd) (hm : mg "_law_cuts" = some (.ref f)) (Z : Blt mg) :
    Fn P w K mg base 1 "_law_cuts" ["many", "parts"] (sp__law_cuts K) := by
  refine mkFn F hm (fun _ _ _ _ _ _ us hl => match us, hl with | [_, _], _ => rfl) (okG (k := 0) F scope__law_cuts (fun vs H0 Q E h => ?_) (fun cdv A outer s H0 vs Q E hr hgd h => ?_))
  · obtain ⟨_, _, rfl, _⟩ := h; rfl
  · have nd := scope__law_cuts.nd
    have hu := hr.units
    unfold sp__law_cuts at h
    refine ⟨_, PSs.nox (pss_cons (ps_set (i := 2) nd rfl (.inl rfl) (pe_lst (pa_cons (pe_lst (pa_cons pe_int pa_nil)) pa_nil)))
    (pss_cons (ps_for PassesOwn.never rfl (pi_range3 (by rfl) Z.range_ (pa_cons (pe_op op_sub (pv 1) pe_int) (pa_cons pe_int (pa_cons (pe_un un_neg pe_int) pa_nil)))) (pg_name (i := 3) nd rfl (.inl rfl)) (pss_cons (ps_set (i := 4) nd rfl (.inl rfl) (pe_lst pa_nil))
    (pss_cons (ps_for PassesOwn.never rfl (pi_list (pv 2)) (pg_name (i := 5) nd rfl (.inr rfl)) (pss_one (ps_expr (pe_bmK (K := K) PySem.F.plainAttrs_list PySem.F.slot_list_extend PySem.F.type_list_extend mt_extend (pv 4) (pa_cons (pe_lc (own := [("place", 6)]) (g := gName 6) (tt := tYes) (by rfl) nd (pi_range2 (by rfl) Z.range_ (pa_cons (pe_op op_addA (pe_ix ix_seq (pv 5) (pe_un un_neg pe_int) (fun _ _ => rfl)) pe_int) (pa_cons (pe_op op_addA (pe_op op_sub (pv 0) (pv 3)) pe_int) pa_nil))) (blkOk_by (own := [("place", 6)]) (N := N__law_cuts) (sc := (defScope s__law_cuts)) (by decide +kernel)) (fun _ _ _ _ _ => (pg_name (i := 6) nd rfl (.inl rfl))) (fun _ _ _ _ _ => pts_nil) (fun _ _ _ _ _ => (pe_op op_addA (pv 5) (pe_lst (pa_cons (pv 6) pa_nil))))) pa_nil)))))
    (pss_one (ps_set (i := 2) nd rfl (.inl rfl) (pv 4))))))
    (pss_one (ps_ret (pe_lc (own := [("cut", 5)]) (g := gName 5) (tt := tYes) (by rfl) nd (pi_list (pv 2)) (blkOk_by (own := [("cut", 5)]) (N := N__law_cuts) (sc := (defScope s__law_cuts)) (by decide +kernel)) (fun _ _ _ _ _ => (pg_name (i := 5) nd rfl (.inl rfl))) (fun _ _ _ _ _ => pts_nil) (fun _ _ _ _ _ => (pe_slice (r := rSlL K) sl_list (pv 5) (po_some pe_int) po_none))))))), ?_⟩
    (try dsimp only [cxOf])
    obtain ⟨x_many, x_parts, rfl, r0, hm, q⟩ := h
    let G_ : (List (List Int)) → Prop := fun r => ∀ v' H', Res K H0 r v' H' → Q v' H'
    have hq : ∀ r, r = r0 → G_ r := fun r e => by subst e; exact q
    clear q
    unfold m__law_cuts at hm
    have W0 := Wd.start (K := K) H0
    refine i_seq ?_
    refine i_asg ?_
    refine i_tlst ?_
    refine i_tcons ?_
    refine i_tlst ?_
    refine i_tcons ?_
    refine i_c ?_
    refine i_tnil ?_
    refine w_lst (α := Int) (t := true) W0 (KnL.cons Kn.int KnL.nil) (by show (1 : Nat) ≤ sizeLine; decide) (fun p1 H2 W3 => ?_)
    have W4 := Wd.frz W3
    refine i_tnil ?_
    refine w_lst (α := (List Int)) (t := true) W4 (KnL.cons (Kn.at 0 rfl) KnL.nil) (by show (1 : Nat) ≤ sizeLine; decide) (fun p5 H6 W7 => ?_)
    have W8 := Wd.frz W7
    refine i_gName ?_
    clear W0 W3 W4 W7
    refine i_seq ?_
    refine i_for ?_
    refine i_iRng3 ?_
    refine i_tcons ?_
    refine i_op ?_
    refine i_var rfl ?_
    refine i_c ?_
    refine i_I0 ?_
    refine i_tcons ?_
    refine i_c ?_
    refine i_tcons ?_
    refine i_un ?_
    refine i_c ?_
    refine i_rU ?_
    refine i_tnil ?_
    replace hm := bndE hm
    obtain ⟨x10, h11, hm⟩ := hm
    refine w_rgD h11 (fun e9 => ?_)
    subst e9
    have W12 := Wd.sel W8 [0] rfl
    replace hm := bndE hm
    obtain ⟨o18, h19, hm⟩ := hm
    refine w_fold (⟨fun b e => [some (.int x_many), some (.int x_parts), some e.2.1, e.2.2.1, e.2.2.2, e.1, none], fun b e => [fc true (b : (List (List Int))) e.2.1], fun b e => []⟩ : Shp ((List (List Int))) (Option V × V × Option V × Option V)) (none, (.ref p5), none, none) h19 rfl W12 gv_rgb ?_ ?_
    · intro x15 v16 b13 e14 H20 o21 W17 hm
      obtain ⟨e14_0, e14_1, e14_2, e14_3⟩ := e14
      dsimp only at W17 ⊢
      obtain ⟨a26, rfl⟩ := Wd.eqL W17 (Kn.at 1 rfl)
      obtain rfl := Wd.eqI W17 (Kn.at 0 rfl)
      refine i_gName ?_
      refine i_seq ?_
      refine i_asg ?_
      refine i_tlst ?_
      refine i_tnil ?_
      refine w_lst (α := (List Int)) (t := true) W17 KnL.nil (by show (0 : Nat) ≤ sizeLine; decide) (fun p27 H28 W29 => ?_)
      refine i_gName ?_
      clear W17
      refine i_seq ?_
      refine i_for ?_
      refine i_iList ?_
      refine i_var rfl ?_
      refine w_itL W29 (Lx.ls (Lx.kn (Kn.at 1 rfl))) ?_
      have W30 := Wd.sel W29 [1] rfl
      replace hm := bndE hm
      obtain ⟨o36, h37, hm⟩ := hm
      refine w_fold (⟨fun b e => [some (.int x_many), some (.int x_parts), some (.ref a26), some (.int x15), some (.ref p27), e, none], fun b e => [fc true (b13 : (List (List Int))) (.ref a26)], fun b e => [oL true p27 (b : List (List Int))]⟩ : Shp ((List (List Int))) (Option V)) e14_0 h37 rfl W30 (gv_list (fun _ _ => (Lx.ls (Lx.kn (Kn.at 0 rfl))))) ?_ ?_
      · intro x33 v34 b31 e32_0 H38 o39 W35 hm
        dsimp only at W35 ⊢
        obtain ⟨a44, rfl⟩ := Wd.eqL W35 (Kn.at 0 rfl)
        refine i_gName ?_
        refine i_drop ?_
        refine i_bm ?_
        refine i_var rfl ?_
        refine w_mt W35 (Lx.ls (Lx.own 0 rfl)) ?_
        refine i_tcons ?_
        refine i_lc ?_
        refine i_iRng2 ?_
        refine i_tcons ?_
        refine i_op ?_
        refine i_op ?_
        refine i_var rfl ?_
        refine i_un ?_
        refine i_c ?_
        refine i_rU ?_
        replace hm := bndE hm
        obtain ⟨x45, h46, hm⟩ := hm
        refine w_ixI W35 (Lx.ls (Lx.kn (Kn.at 0 rfl))) h46 ?_
        refine i_c ?_
        refine i_addI ?_
        refine i_tcons ?_
        refine i_op ?_
        refine i_op ?_
        refine i_var rfl ?_
        refine i_var rfl ?_
        refine i_I0 ?_
        refine i_c ?_
        refine i_addI ?_
        refine i_tnil ?_
        replace hm := bndE hm
        obtain ⟨x48, h49, hm⟩ := hm
        refine w_rg2 h49 (fun e47 => ?_)
        subst e47
        replace hm := bndE hm
        obtain ⟨x74, h75, hm⟩ := hm
        refine w_map (γ := (List Int)) true h75 W35 (fun _ => gv_rng) (fun D52 x50 v51 acc53 H54 y55 ha56 W57 hm => ?_) (fun p71 H72 W73 => ?_)
        · obtain rfl := Wd.eqI W57 (Kn.at 0 rfl)
          refine i_gName ?_
          refine i_wipe rfl ?_
          refine i_yes ?_
          refine i_T ?_
          refine i_op ?_
          refine i_var rfl ?_
          refine i_tlst ?_
          refine i_tcons ?_
          refine i_var rfl ?_
          refine i_tnil ?_
          refine w_lst (α := Int) (t := true) W57 (KnL.cons Kn.int KnL.nil) (by show (1 : Nat) ≤ sizeLine; decide) (fun p59 H60 W61 => ?_)
          have W62 := Wd.frz W61
          replace hm := bndE hm
          obtain ⟨x63, h64, hm⟩ := hm
          refine w_cat W62 (Lx.kn (Kn.at 2 rfl)) (Lx.kn (Kn.at 0 rfl)) h64 (fun p65 H66 W67 => ?_)
          have W68 := Wd.frz W67
          obtain rfl := some_inj hm
          refine w_elt W68 (Kn.at 0 rfl) ha56 (fun H69 W70 => ?_)
          exact ⟨(), Wd.drop W70 3 rfl⟩
        have W76 := Wd.frz W73
        refine i_tnil ?_
        replace hm := bndE hm
        obtain ⟨x77, h78, hm⟩ := hm
        refine w_ext W76 0 rfl (Lx.kn (Kn.at 0 rfl)) h78 (fun H79 W80 => ?_)
        dsimp only [List.set] at W80
        clear W35 W73 W76
        have W81 := Wd.sel W80 [2] rfl
        obtain rfl := some_inj hm
        exact ⟨some (.ref a44), rfl, W81⟩
      · intro e83_0 H84 W85
        dsimp only at W85 ⊢
        refine i_asg ?_
        refine i_var rfl ?_
        have W87 := Wd.frz W85
        refine i_gName ?_
        clear W85
        have W88 := Wd.sel W87 [0] rfl
        obtain rfl := some_inj hm
        exact ⟨(e83_0, (.ref p27), some (.int x15), some (.ref p27)), rfl, W88⟩
    · intro e90 H91 W92
      obtain ⟨e90_0, e90_1, e90_2, e90_3⟩ := e90
      dsimp only at W92 ⊢
      obtain ⟨a94, rfl⟩ := Wd.eqL W92 (Kn.at 0 rfl)
      refine i_ret ?_
      refine i_lc ?_
      refine i_iList ?_
      refine i_var rfl ?_
      refine w_itL W92 (Lx.ls (Lx.kn (Kn.at 0 rfl))) ?_
      replace hm := bndE hm
      obtain ⟨x114, h115, hm⟩ := hm
      refine w_map (γ := (List Int)) true h115 W92 (fun _ => (gv_list (fun _ _ => (Lx.ls (Lx.kn (Kn.at 0 rfl)))))) (fun D97 x95 v96 acc98 H99 y100 ha101 W102 hm => ?_) (fun p111 H112 W113 => ?_)
      · obtain ⟨a104, rfl⟩ := Wd.eqL W102 (Kn.at 0 rfl)
        refine i_gName ?_
        refine i_wipe rfl ?_
        refine i_yes ?_
        refine i_T ?_
        refine i_sl ?_
        refine i_var rfl ?_
        refine i_part ?_
        refine i_c ?_
        refine i_partI ?_
        refine i_nopart ?_
        refine w_slice W102 (Lx.ls (Lx.kn (Kn.at 0 rfl))) (fun p105 H106 W107 => ?_)
        have W108 := Wd.frz W107
        obtain rfl := some_inj hm
        refine w_elt W108 (Kn.at 0 rfl) ha101 (fun H109 W110 => ?_)
        exact ⟨(), Wd.drop W110 2 rfl⟩
      have W116 := Wd.frz W113
      exact hq _ (some_inj hm) _ _ (Wd.res (x := (x114 : (List (List Int)))) W116 (Kn.at 0 rfl))
end
/-! ### _law_sums -/
abbrev sp__law_sums (K : PySem.W.Frag) : Sp := fun vs H Q _ => ∃ (x_row : (List Int)) (v_row : V) (x_cut : (List Int)) (v_cut : V),  vs = [v_row, v_cut] ∧ Rp.rep (lkA K H) x_row v_row ∧ Rp.rep (lkA K H) x_cut v_cut ∧ ∃ r : (List Int), m__law_sums x_row x_cut = some r ∧ ∀ v' H', Res K H r v' H' → Q v' H'
section
variable {P : Program} {w : World} {K : PySem.W.Frag} {mg : Str → Option Value} {base : Heap}
abbrev N__law_sums : List Str := ["row", "cut", "ends", "k"]
theorem scope__law_sums : FnScope N__law_sums ["row", "cut"] (defScope s__law_sums) := ⟨rfl, rfl, rfl, by decide +kernel, rfl, by decide +kernel, by decide +kernel⟩
-- comprehension scope 0
theorem ok__law_sums {f : Addr} {fd : FuncData} (F : FunD K "_law_sums" "_law_sums" (defArgs s__law_sums) (defBody s__law_sums) (defScope s__law_sums) [] [] f fd) (hm : mg "_law_sums" = some (.ref f)) (Z : Blt mg) :
    Fn P w K mg base 1 "_law_sums" ["row", "cut"] (sp__law_sums K) := by
  refine mkFn F hm (fun _ _ _ _ _ _ us hl => match us, hl with | [_, _], _ => rfl) (okG (k := 0) F scope__law_sums (fun vs H0 Q E h => ?_) (fun cdv A outer s H0 vs Q E hr hgd h => ?_))
  · obtain ⟨_, _, _, _, rfl, _⟩ := h; rfl
  · have nd := scope__law_sums.nd
    have hu := hr.units
    unfold sp__law_sums at h
    refine ⟨_, PSs.nox (pss_cons (ps_set (i := 2) nd rfl (.inr rfl) (pe_op op_addA (pe_op op_addA (pe_lst (pa_cons pe_int pa_nil)) (pv 1)) (pe_lst (pa_cons (pe_callB cl_len (by rfl) Z.len_ (by decide +kernel) (pa_cons (pv 0) pa_nil)) pa_nil))))
    (pss_one (ps_ret (pe_lc (own := [("k", 3)]) (g := gName 3) (tt := tYes) (by rfl) nd (pi_range1 (by rfl) Z.range_ (pa_cons (pe_op op_addA (pe_callB cl_len (by rfl) Z.len_ (by decide +kernel) (pa_cons (pv 1) pa_nil)) pe_int) pa_nil)) (blkOk_by (own := [("k", 3)]) (N := N__law_sums) (sc := (defScope s__law_sums)) (by decide +kernel)) (fun _ _ _ _ _ => (pg_name (i := 3) nd rfl (.inl rfl))) (fun _ _ _ _ _ => pts_nil) (fun _ _ _ _ _ => (pe_callB (r := rSum K) (cr_sum rfl) (by rfl) Z.sum_ (by decide +kernel) (pa_cons (pe_slice (r := rSlL K) sl_list (pv 0) (po_some (pe_ix (r := rIx K) ix_seq (pv 2) (pv 3) (fun _ _ => rfl))) (po_some (pe_ix (r := rIx K) ix_seq (pv 2) (pe_op op_addA (pv 3) pe_int) (fun _ _ => rfl)))) pa_nil))))))), ?_⟩
    (try dsimp only [cxOf])
    obtain ⟨x_row, v_row, x_cut, v_cut, rfl, h_row, h_cut, r0, hm, q⟩ := h
    let G_ : (List Int) → Prop := fun r => ∀ v' H', Res K H0 r v' H' → Q v' H'
    have hq : ∀ r, r = r0 → G_ r := fun r e => by subst e; exact q
    clear q
    unfold m__law_sums at hm
    have W0 := Wd.start (K := K) H0
    have W1 := Wd.arg W0 h_row
    obtain ⟨a2, rfl⟩ := Wd.eqL W1 (Kn.at 0 rfl)
    have W3 := Wd.arg W1 h_cut
    obtain ⟨a4, rfl⟩ := Wd.eqL W3 (Kn.at 0 rfl)
    refine i_seq ?_
    refine i_asg ?_
    refine i_op ?_
    refine i_op ?_
    refine i_tlst ?_
    refine i_tcons ?_
    refine i_c ?_
    refine i_tnil ?_
    refine w_lst (α := Int) (t := true) W3 (KnL.cons Kn.int KnL.nil) (by show (1 : Nat) ≤ sizeLine; decide) (fun p5 H6 W7 => ?_)
    have W8 := Wd.frz W7
    refine i_var rfl ?_
    replace hm := bndE hm
    obtain ⟨x9, h10, hm⟩ := hm
    refine w_cat W8 (Lx.kn (Kn.at 0 rfl)) (Lx.flat (t := true) (Lx.kn (Kn.at 1 rfl))) h10 (fun p11 H12 W13 => ?_)
    have W14 := Wd.frz W13
    refine i_tlst ?_
    refine i_tcons ?_
    refine i_cb ?_
    refine i_tcons ?_
    refine i_var rfl ?_
    refine i_tnil ?_
    refine w_len W14 (Lx.ls (Lx.flat (t := true) (Lx.kn (Kn.at 3 rfl)))) ?_
    refine i_tnil ?_
    refine w_lst (α := Int) (t := true) W14 (KnL.cons Kn.int KnL.nil) (by show (1 : Nat) ≤ sizeLine; decide) (fun p15 H16 W17 => ?_)
    have W18 := Wd.frz W17
    replace hm := bndE hm
    obtain ⟨x19, h20, hm⟩ := hm
    refine w_cat W18 (Lx.kn (Kn.at 1 rfl)) (Lx.kn (Kn.at 0 rfl)) h20 (fun p21 H22 W23 => ?_)
    have W24 := Wd.frz W23
    refine i_gName ?_
    clear W0 W1 W3 W7 W8 W13 W14 W17 W18 W23
    refine i_ret ?_
    refine i_lc ?_
    refine i_iRng1 ?_
    refine i_tcons ?_
    refine i_op ?_
    refine i_cb ?_
    refine i_tcons ?_
    refine i_var rfl ?_
    refine i_tnil ?_
    refine w_len W24 (Lx.ls (Lx.flat (t := true) (Lx.kn (Kn.at 4 rfl)))) ?_
    refine i_c ?_
    refine i_addI ?_
    refine i_tnil ?_
    replace hm := bndE hm
    obtain ⟨x26, h27, hm⟩ := hm
    refine w_rg1 h27 (fun e25 => ?_)
    subst e25
    replace hm := bndE hm
    obtain ⟨x50, h51, hm⟩ := hm
    refine w_map (γ := Int) true h51 W24 (fun _ => gv_rng) (fun D30 x28 v29 acc31 H32 y33 ha34 W35 hm => ?_) (fun p47 H48 W49 => ?_)
    · obtain rfl := Wd.eqI W35 (Kn.at 0 rfl)
      refine i_gName ?_
      refine i_wipe rfl ?_
      refine i_yes ?_
      refine i_T ?_
      refine i_cb ?_
      refine i_tcons ?_
      refine i_sl ?_
      refine i_var rfl ?_
      refine i_part ?_
      refine i_op ?_
      refine i_var rfl ?_
      refine i_var rfl ?_
      replace hm := bndE hm
      obtain ⟨x37, h38, hm⟩ := hm
      refine w_ixI W35 (Lx.ls (Lx.kn (Kn.at 1 rfl))) h38 ?_
      refine i_partI ?_
      refine i_part ?_
      refine i_op ?_
      refine i_var rfl ?_
      refine i_op ?_
      refine i_var rfl ?_
      refine i_c ?_
      refine i_addI ?_
      replace hm := bndE hm
      obtain ⟨x39, h40, hm⟩ := hm
      refine w_ixI W35 (Lx.ls (Lx.kn (Kn.at 1 rfl))) h40 ?_
      refine i_partI ?_
      refine w_slice W35 (Lx.ls (Lx.flat (t := true) (Lx.kn (Kn.at 6 rfl)))) (fun p41 H42 W43 => ?_)
      have W44 := Wd.frz W43
      refine i_tnil ?_
      refine w_sum W44 (Lx.ls (Lx.kn (Kn.at 0 rfl))) ?_
      obtain rfl := some_inj hm
      refine w_elt W44 Kn.int ha34 (fun H45 W46 => ?_)
      exact ⟨(), Wd.drop W46 2 rfl⟩
    have W52 := Wd.frz W49
    exact hq _ (some_inj hm) _ _ (Wd.res (x := (x50 : (List Int))) W52 (Kn.at 0 rfl))
end
/-! ### _law_due -/
abbrev sp__law_due (K : PySem.W.Frag) : Sp := fun vs H Q _ => ∃ (x_row : (List Int)) (v_row : V) (x_many : Int),  vs = [v_row, .int x_many] ∧ Rp.rep (lkA K H) x_row v_row ∧ ∃ r : (Option (Int × (List Int))), m__law_due x_row x_many = some r ∧ ∀ v' H', Res K H r v' H' → Q v' H'
section
variable {P : Program} {w : World} {K : PySem.W.Frag} {mg : Str → Option Value} {base : Heap}
abbrev N__law_due : List Str := ["row", "many", "best", "cut", "sums", "spread"]
theorem scope__law_due : FnScope N__law_due ["row", "many"] (defScope s__law_due) := ⟨rfl, rfl, rfl, by decide +kernel, rfl, by decide +kernel, by decide +kernel⟩
theorem ok__law_due {f : Addr} {fd : FuncData} (F : FunD K "_law_due" "_law_due" (defArgs s__law_due) (defBody s__law_due) (defScope s__law_due) [] [] f fd) (hm : mg "_law_due" = some (.ref f)) (Z : Blt mg)
    (C__law_cuts : Fn P w K mg base 1 "_law_cuts" ["many", "parts"] (sp__law_cuts K))
    (C__law_sums : Fn P w K mg base 1 "_law_sums" ["row", "cut"] (sp__law_sums K)) :
    Fn P w K mg base 2 "_law_due" ["row", "many"] (sp__law_due K) := by
  refine mkFn F hm (fun _ _ _ _ _ _ us hl => match us, hl with | [_, _], _ => rfl) (okG (k := 1) F scope__law_due (fun vs H0 Q E h => ?_) (fun cdv A outer s H0 vs Q E hr hgd h => ?_))
  · obtain ⟨_, _, _, rfl, _⟩ := h; rfl
  · have nd := scope__law_due.nd
    have hu := hr.units
    have hr__law_cuts : Room 1 _ := hr.mono (by decide : 1 ≤ 1)
    have hr__law_sums : Room 1 _ := hr.mono (by decide : 1 ≤ 1)
    unfold sp__law_due at h
    refine ⟨_, PSs.nox (pss_cons (ps_set (i := 2) nd rfl (.inl rfl) pe_non)
    (pss_cons (ps_for PassesOwn.never rfl (pi_list (pe_fn C__law_cuts hr__law_cuts hgd (by rfl) passL (pa_cons (pe_callB cl_len (by rfl) Z.len_ (by decide +kernel) (pa_cons (pv 0) pa_nil)) (pa_cons (pv 1) pa_nil)))) (pg_name (i := 3) nd rfl (.inl rfl)) (pss_cons (ps_set (i := 4) nd rfl (.inl rfl) (pe_fn C__law_sums hr__law_sums hgd (by rfl) passL (pa_cons (pv 0) (pa_cons (pv 3) pa_nil))))
    (pss_cons (ps_set (i := 5) nd rfl (.inl rfl) (pe_op op_sub (pe_callB (cr_maxA rfl hu) (by rfl) Z.max_ (by decide +kernel) (pa_cons (pv 4) pa_nil)) (pe_callB (cr_minA rfl hu) (by rfl) Z.min_ (by decide +kernel) (pa_cons (pv 4) pa_nil))))
    (pss_one (ps_if (PW.pt (pw_or (pt_cmpR op_isNn (pv 2) pe_non (nomark _)) (pw_or1 (pt_cmpR (op_ltA hu) (pv 5) (pe_ix ix_seq (pv 2) pe_int (fun _ _ => rfl)) (nomark _))))) (pss_one (ps_set (i := 2) nd rfl (.inl rfl) (pe_tup (pa_cons (pv 5) (pa_cons (pv 3) pa_nil))))) pss_nil)))))
    (pss_one (ps_ret (pv 2))))), ?_⟩
    (try dsimp only [cxOf])
    obtain ⟨x_row, v_row, x_many, rfl, h_row, r0, hm, q⟩ := h
    let G_ : (Option (Int × (List Int))) → Prop := fun r => ∀ v' H', Res K H0 r v' H' → Q v' H'
    have hq : ∀ r, r = r0 → G_ r := fun r e => by subst e; exact q
    clear q
    unfold m__law_due at hm
    have W0 := Wd.start (K := K) H0
    have W1 := Wd.arg W0 h_row
    obtain ⟨a2, rfl⟩ := Wd.eqL W1 (Kn.at 0 rfl)
    refine i_seq ?_
    refine i_asg ?_
    refine i_c ?_
    refine i_gName ?_
    clear W0
    refine i_seq ?_
    refine i_for ?_
    refine i_iList ?_
    refine i_call ?_
    refine i_tcons ?_
    refine i_cb ?_
    refine i_tcons ?_
    refine i_var rfl ?_
    refine i_tnil ?_
    refine w_len W1 (Lx.ls (Lx.flat (t := true) (Lx.kn (Kn.at 0 rfl)))) ?_
    refine i_tcons ?_
    refine i_var rfl ?_
    refine i_tnil ?_
    replace hm := bndE hm
    obtain ⟨r3, h4, hm⟩ := hm
    refine ⟨(lenI x_row), x_many, rfl, r3, h4, fun v5 H6 R7 => ?_⟩
    have W8 := Wd.call W1 R7
    obtain ⟨a9, rfl⟩ := Wd.eqL W8 (Kn.at 0 rfl)
    refine w_itL W8 (Lx.ls (Lx.kn (Kn.at 0 rfl))) ?_
    clear W1
    have W10 := Wd.know (t := true) (x := ((none : (Option (Int × (List Int)))) : (Option (Int × (List Int))))) W8 Kn.none
    have W11 := Wd.sel W10 [0, 1, 2] rfl
    replace hm := bndE hm
    obtain ⟨o17, h18, hm⟩ := hm
    refine w_fold (⟨fun b e => [some (.ref a2), some (.int x_many), some e.1, e.2.1, e.2.2.2, e.2.2.1], fun b e => [fc true (b : (Option (Int × (List Int)))) e.1, fc true (r3 : (List (List Int))) (.ref a9), fc false (x_row : (List Int)) (.ref a2)], fun b e => []⟩ : Shp ((Option (Int × (List Int)))) (V × Option V × Option V × Option V)) (.non, none, none, none) h18 rfl W11 (gv_list (fun _ _ => (Lx.ls (Lx.kn (Kn.at 1 rfl))))) ?_ ?_
    · intro x14 v15 b12 e13 H19 o20 W16 hm
      obtain ⟨e13_0, e13_1, e13_2, e13_3⟩ := e13
      dsimp only at W16 ⊢
      obtain ⟨a25, rfl⟩ := Wd.eqL W16 (Kn.at 0 rfl)
      refine i_gName ?_
      refine i_seq ?_
      refine i_asg ?_
      refine i_call ?_
      refine i_tcons ?_
      refine i_var rfl ?_
      refine i_tcons ?_
      refine i_var rfl ?_
      refine i_tnil ?_
      replace hm := bndE hm
      obtain ⟨r26, h27, hm⟩ := hm
      refine ⟨(x_row : (List Int)), _, (x14 : (List Int)), _, rfl, (Wd.arr W16 (Ar.kn (t := false) (Kn.at 3 rfl))), (Wd.arr W16 (Ar.kn (t := true) (Kn.at 0 rfl))), r26, h27, fun v28 H29 R30 => ?_⟩
      have W31 := Wd.call W16 R30
      obtain ⟨a32, rfl⟩ := Wd.eqL W31 (Kn.at 0 rfl)
      refine i_gName ?_
      clear W16
      refine i_seq ?_
      refine i_asg ?_
      refine i_op ?_
      refine i_cb ?_
      refine i_tcons ?_
      refine i_var rfl ?_
      refine i_tnil ?_
      replace hm := bndE hm
      obtain ⟨x33, h34, hm⟩ := hm
      refine .inl (w_max W31 (Lx.ls (Lx.kn (Kn.at 0 rfl))) h34 ?_)
      refine i_cb ?_
      refine i_tcons ?_
      refine i_var rfl ?_
      refine i_tnil ?_
      replace hm := bndE hm
      obtain ⟨x35, h36, hm⟩ := hm
      refine .inl (w_min W31 (Lx.ls (Lx.kn (Kn.at 0 rfl))) h36 ?_)
      refine i_I0 ?_
      refine i_gName ?_
      refine i_ifS ?_
      refine i_or ?_
      refine i_test ?_
      refine i_op ?_
      refine i_var rfl ?_
      refine i_c ?_
      refine w_isN W31 (Kn.at 2 rfl) ?_
      refine i_bl ?_
      replace hm := bndE hm
      obtain ⟨x47, h48, hm⟩ := hm
      refine w_orW (L' := []) x47 W31 (fun hb37 P38 hP39 => ?_) (fun hb37 => ?_) (fun H49 W50 => ?_)
      · have hm : _ = some x47 := (if_neg (by rw [hb37]; exact Bool.false_ne_true)).symm.trans h48
        refine i_test ?_
        refine i_op ?_
        refine i_var rfl ?_
        refine i_op ?_
        refine i_var rfl ?_
        replace hm := bndE hm
        obtain ⟨x40, h41, hm⟩ := hm
        have W42 := Wd.unopt (t := true) W31 (Kn.at 2 rfl) h41
        obtain ⟨a43, rfl⟩ := Wd.eqP W42 (Kn.at 0 rfl)
        refine i_c ?_
        refine w_fstP W42 (Kn.at 0 rfl) (fun u44 W45 => ?_)
        obtain rfl := Wd.eqI W45 (Kn.at 0 rfl)
        refine i_ltA ?_
        refine i_bl ?_
        have W46 := Wd.drop W45 2 rfl
        have hm := some_inj hm
        exact hP39 _ _ hm W46
      · have hm := some_inj ((if_pos hb37).symm.trans h48)
        exact ⟨hm, W31⟩
      clear W31
      rcases iteE hm with ⟨hb52, hm⟩ | ⟨hb52, hm⟩
      · refine i_bT hb52 ?_
        refine i_asg ?_
        refine i_ttup ?_
        refine i_tcons ?_
        refine i_var rfl ?_
        refine i_tcons ?_
        refine i_var rfl ?_
        refine i_tnil ?_
        refine w_tup2 (t := true) W50 Kn.int (Kn.at 1 rfl) (fun p53 H54 W55 => ?_)
        refine i_gName ?_
        clear W50
        have W56 := Wd.know (t := true) (x := ((some ((x33 - x35), x14)) : (Option (Int × (List Int))))) W55 (Kn.some (Kn.at 0 rfl))
        have W57 := Wd.sel W56 [0, 5, 6] rfl
        obtain rfl := some_inj hm
        exact ⟨((.ref p53), some (.ref a25), some (.int (x33 - x35)), some (.ref a32)), rfl, W57⟩
      · refine i_bF hb52 ?_
        refine i_next ?_
        have W58 := Wd.sel W50 [2, 3, 4] rfl
        obtain rfl := some_inj hm
        exact ⟨(e13_0, some (.ref a25), some (.int (x33 - x35)), some (.ref a32)), rfl, W58⟩
    · intro e60 H61 W62
      obtain ⟨e60_0, e60_1, e60_2, e60_3⟩ := e60
      dsimp only at W62 ⊢
      refine i_ret ?_
      refine i_var rfl ?_
      exact hq _ (some_inj hm) _ _ (Wd.res (x := (o17 : (Option (Int × (List Int))))) W62 (Kn.at 0 rfl))
end
/-! ### need_pieces -/
abbrev sp_need_pieces (K : PySem.W.Frag) : Sp := fun vs H Q _ => ∃ (x_row : (List Int)) (v_row : V) (x_many : Int),  vs = [v_row, .int x_many] ∧ Rp.rep (lkA K H) x_row v_row ∧ ∃ r : Unit, m_need_pieces x_row x_many = some r ∧ ∀ v' H', Res K H r v' H' → Q v' H'
section
variable {P : Program} {w : World} {K : PySem.W.Frag} {mg : Str → Option Value} {base : Heap}
abbrev N_need_pieces : List Str := ["row", "many"]
theorem scope_need_pieces : FnScope N_need_pieces ["row", "many"] (defScope s_need_pieces) := ⟨rfl, rfl, rfl, by decide +kernel, rfl, by decide +kernel, by decide +kernel⟩
theorem ok_need_pieces {f : Addr} {fd : FuncData} (F : FunD K "need_pieces" "need_pieces" (defArgs s_need_pieces) (defBody s_need_pieces) (defScope s_need_pieces) [] [] f fd) (hm : mg "need_pieces" = some (.ref f)) (Z : Blt mg) :
    Fn P w K mg base 1 "need_pieces" ["row", "many"] (sp_need_pieces K) := by
  refine mkFn F hm (fun _ _ _ _ _ _ us hl => match us, hl with | [_, _], _ => rfl) (okG (k := 0) F scope_need_pieces (fun vs H0 Q E h => ?_) (fun cdv A outer s H0 vs Q E hr hgd h => ?_))
  · obtain ⟨_, _, _, rfl, _⟩ := h; rfl
  · have nd := scope_need_pieces.nd
    have hu := hr.units
    unfold sp_need_pieces at h
    refine ⟨_, PSs.nox (pss_one (ps_if (PW.pt (pw_or (pt_not (pt_val (pe_callB call_isi (by rfl) Z.isinstance_ (by decide +kernel) (pa_cons (pv 1) (pa_cons (pe_bltn (v := .ty "int") (by rfl) Z.int_ (by decide +kernel) rfl) pa_nil))))) (pw_or (pt_val (pe_callB call_isi (by rfl) Z.isinstance_ (by decide +kernel) (pa_cons (pv 1) (pa_cons (pe_bltn (v := .ty "bool") (by rfl) Z.bool_ (by decide +kernel) rfl) pa_nil)))) (pw_or1 (pt_not (pt_chain op_le op_le pe_int (pv 1) (pe_callB cl_len (by rfl) Z.len_ (by decide +kernel) (pa_cons (pv 0) pa_nil)))))))) (pss_one ps_never) pss_nil)), ?_⟩
    (try dsimp only [cxOf])
    obtain ⟨x_row, v_row, x_many, rfl, h_row, r0, hm, q⟩ := h
    let G_ : Unit → Prop := fun r => ∀ v' H', Res K H0 r v' H' → Q v' H'
    have hq : ∀ r, r = r0 → G_ r := fun r e => by subst e; exact q
    clear q
    unfold m_need_pieces at hm
    have W0 := Wd.start (K := K) H0
    have W1 := Wd.arg W0 h_row
    obtain ⟨a2, rfl⟩ := Wd.eqL W1 (Kn.at 0 rfl)
    refine i_ifS ?_
    refine i_or ?_
    refine i_not ?_
    refine i_tB ?_
    refine i_cb ?_
    refine i_tcons ?_
    refine i_var rfl ?_
    refine i_tcons ?_
    refine i_c ?_
    refine i_tnil ?_
    refine w_isi W1 (Ar.kn (t := true) Kn.int) (by simp) ?_
    refine i_bl ?_
    refine w_orW (L' := _) ((!(isiO (x_many : Int) "int")) || ((isiO (x_many : Int) "bool") || (!((decide (1 ≤ x_many)) && (decide (x_many ≤ (lenI x_row))))))) W1 (fun hb3 P4 hP5 => ?_) (fun hb3 => ⟨or_t hb3, W1⟩) (fun H16 W17 => ?_)
    · refine i_or ?_
      refine i_tB ?_
      refine i_cb ?_
      refine i_tcons ?_
      refine i_var rfl ?_
      refine i_tcons ?_
      refine i_c ?_
      refine i_tnil ?_
      refine w_isi W1 (Ar.kn (t := true) Kn.int) (by simp) ?_
      refine i_bl ?_
      refine w_orW (L' := _) ((isiO (x_many : Int) "bool") || (!((decide (1 ≤ x_many)) && (decide (x_many ≤ (lenI x_row)))))) W1 (fun hb6 P7 hP8 => ?_) (fun hb6 => ⟨or_t hb6, W1⟩) (fun H14 W15 => ?_)
      · refine i_not ?_
        refine i_test ?_
        refine i_chain ?_
        refine i_c ?_
        refine i_var rfl ?_
        refine i_I0 ?_
        refine i_bl ?_
        refine w_chainW (L' := _) ((decide (1 ≤ x_many)) && (decide (x_many ≤ (lenI x_row)))) W1 (fun hb9 P10 hP11 => ?_) (fun hb9 => ⟨and_f hb9, W1⟩) (fun H12 W13 => ?_)
        · refine i_cb ?_
          refine i_tcons ?_
          refine i_var rfl ?_
          refine i_tnil ?_
          refine w_len W1 (Lx.ls (Lx.flat (t := true) (Lx.kn (Kn.at 0 rfl)))) ?_
          refine i_I0 ?_
          exact hP11 _ _ (and_t hb9) W1
        refine i_bl ?_
        exact hP8 _ _ (or_f hb6) W13
      exact hP5 _ _ (or_f hb3) W15
    clear W0 W1
    rcases iteE hm with ⟨hb18, hm⟩ | ⟨hb18, hm⟩
    · refine i_bT hb18 ?_
      cases hm
    · refine i_bF hb18 ?_
      refine i_next ?_
      exact hq _ (some_inj hm) _ _ (Wd.res (x := (() : Unit)) W17 Kn.unit)
end
/-! ### sums_to_places -/
abbrev sp_sums_to_places (K : PySem.W.Frag) : Sp := fun vs H Q _ => ∃ (x_row : (List Int)) (v_row : V),  vs = [v_row] ∧ Rp.rep (lkA K H) x_row v_row ∧ ∃ r : (List Int), m_sums_to_places x_row = some r ∧ ∀ v' H', Res K H r v' H' → Q v' H'
section
variable {P : Program} {w : World} {K : PySem.W.Frag} {mg : Str → Option Value} {base : Heap}
abbrev N_sums_to_places : List Str := ["row", "found", "number"]
theorem scope_sums_to_places : FnScope N_sums_to_places ["row"] (defScope s_sums_to_places) := ⟨rfl, rfl, rfl, by decide +kernel, rfl, by decide +kernel, by decide +kernel⟩
theorem ok_sums_to_places {f : Addr} {fd : FuncData} (F : FunD K "sums_to_places" "sums_to_places" (defArgs s_sums_to_places) (defBody s_sums_to_places) (defScope s_sums_to_places) [] [] f fd) (hm : mg "sums_to_places" = some (.ref f)) (Z : Blt mg) :
    Fn P w K mg base 1 "sums_to_places" ["row"] (sp_sums_to_places K) := by
  refine mkFn F hm (fun _ _ _ _ _ _ us hl => match us, hl with | [_], _ => rfl) (okG (k := 0) F scope_sums_to_places (fun vs H0 Q E h => ?_) (fun cdv A outer s H0 vs Q E hr hgd h => ?_))
  · obtain ⟨_, _, rfl, _⟩ := h; rfl
  · have nd := scope_sums_to_places.nd
    have hu := hr.units
    unfold sp_sums_to_places at h
    refine ⟨_, PSs.nox (pss_cons (ps_set (i := 1) nd rfl (.inl rfl) (pe_lst (pa_cons pe_int pa_nil)))
    (pss_cons (ps_for PassesOwn.never rfl (pi_list (pv 0)) (pg_name (i := 2) nd rfl (.inl rfl)) (pss_one (ps_expr (pe_bmK (K := K) PySem.F.plainAttrs_list PySem.F.slot_list_append PySem.F.type_list_append mt_append (pv 1) (pa_cons (pe_op op_addA (pe_ix ix_seq (pv 1) (pe_un un_neg pe_int) (fun _ _ => rfl)) (pv 2)) pa_nil)))))
    (pss_one (ps_ret (pv 1))))), ?_⟩
    (try dsimp only [cxOf])
    obtain ⟨x_row, v_row, rfl, h_row, r0, hm, q⟩ := h
    let G_ : (List Int) → Prop := fun r => ∀ v' H', Res K H0 r v' H' → Q v' H'
    have hq : ∀ r, r = r0 → G_ r := fun r e => by subst e; exact q
    clear q
    unfold m_sums_to_places at hm
    have W0 := Wd.start (K := K) H0
    have W1 := Wd.arg W0 h_row
    obtain ⟨a2, rfl⟩ := Wd.eqL W1 (Kn.at 0 rfl)
    refine i_seq ?_
    refine i_asg ?_
    refine i_tlst ?_
    refine i_tcons ?_
    refine i_c ?_
    refine i_tnil ?_
    refine w_lst (α := Int) (t := true) W1 (KnL.cons Kn.int KnL.nil) (by show (1 : Nat) ≤ sizeLine; decide) (fun p3 H4 W5 => ?_)
    refine i_gName ?_
    clear W0 W1
    refine i_seq ?_
    refine i_for ?_
    refine i_iList ?_
    refine i_var rfl ?_
    refine w_itL W5 (Lx.ls (Lx.flat (t := true) (Lx.kn (Kn.at 0 rfl)))) ?_
    have W6 := Wd.sel W5 [0] rfl
    replace hm := bndE hm
    obtain ⟨o12, h13, hm⟩ := hm
    refine w_fold (⟨fun b e => [some (.ref a2), some (.ref p3), e], fun b e => [fc false (x_row : (List Int)) (.ref a2)], fun b e => [oL true p3 (b : List Int)]⟩ : Shp ((List Int)) (Option V)) none h13 rfl W6 (gv_list (fun _ _ => (Lx.ls (Lx.flat (t := true) (Lx.kn (Kn.at 0 rfl)))))) ?_ ?_
    · intro x9 v10 b7 e8_0 H14 o15 W11 hm
      dsimp only at W11 ⊢
      obtain rfl := Wd.eqI W11 (Kn.at 0 rfl)
      refine i_gName ?_
      refine i_drop ?_
      refine i_bm ?_
      refine i_var rfl ?_
      refine w_mt W11 (Lx.ls (Lx.own 0 rfl)) ?_
      refine i_tcons ?_
      refine i_op ?_
      refine i_op ?_
      refine i_var rfl ?_
      refine i_un ?_
      refine i_c ?_
      refine i_rU ?_
      replace hm := bndE hm
      obtain ⟨x20, h21, hm⟩ := hm
      refine w_ixI W11 (Lx.ls (Lx.own 0 rfl)) h21 ?_
      refine i_var rfl ?_
      refine i_addI ?_
      refine i_tnil ?_
      replace hm := bndE hm
      obtain ⟨x22, h23, hm⟩ := hm
      refine w_app W11 0 rfl Kn.int h23 (fun H24 W25 => ?_)
      dsimp only [List.set] at W25
      clear W11
      have W26 := Wd.sel W25 [1] rfl
      obtain rfl := some_inj hm
      exact ⟨some (.int x9), rfl, W26⟩
    · intro e28_0 H29 W30
      dsimp only at W30 ⊢
      refine i_ret ?_
      refine i_var rfl ?_
      have W32 := Wd.frz W30
      exact hq _ (some_inj hm) _ _ (Wd.res (x := (o12 : (List Int))) W32 (Kn.at 0 rfl))
end
/-! ### least_ends -/
abbrev sp_least_ends (K : PySem.W.Frag) : Sp := fun vs H Q _ => ∃ (x_ahead : (List Int)) (v_ahead : V) (x_many : Int) (x_low : Int),  vs = [v_ahead, .int x_many, .int x_low] ∧ Rp.rep (lkA K H) x_ahead v_ahead ∧ ∃ r : (List (Option Int)), m_least_ends x_ahead x_many x_low = some r ∧ ∀ v' H', Res K H r v' H' → Q v' H'
section
variable {P : Program} {w : World} {K : PySem.W.Frag} {mg : Str → Option Value} {base : Heap}
abbrev N_least_ends : List Str := ["ahead", "many", "low", "last", "found", "left", "further", "place", "some", "there", "number"]
theorem scope_least_ends : FnScope N_least_ends ["ahead", "many", "low"] (defScope s_least_ends) := ⟨rfl, rfl, rfl, by decide +kernel, rfl, by decide +kernel, by decide +kernel⟩
theorem ok_least_ends {f : Addr} {fd : FuncData} (F : FunD K "least_ends" "least_ends" (defArgs s_least_ends) (defBody s_least_ends) (defScope s_least_ends) [] [] f fd) (hm : mg "least_ends" = some (.ref f)) (Z : Blt mg) :
    Fn P w K mg base 1 "least_ends" ["ahead", "many", "low"] (sp_least_ends K) := by
  refine mkFn F hm (fun _ _ _ _ _ _ us hl => match us, hl with | [_, _, _], _ => rfl) (okG (k := 0) F scope_least_ends (fun vs H0 Q E h => ?_) (fun cdv A outer s H0 vs Q E hr hgd h => ?_))
  · obtain ⟨_, _, _, _, rfl, _⟩ := h; rfl
  · have nd := scope_least_ends.nd
    have hu := hr.units
    unfold sp_least_ends at h
    refine ⟨_, PSs.nox (pss_cons (ps_set (i := 3) nd rfl (.inl rfl) (pe_op op_sub (pe_callB cl_len (by rfl) Z.len_ (by decide +kernel) (pa_cons (pv 0) pa_nil)) pe_int))
    (pss_cons (ps_set (i := 4) nd rfl (.inl rfl) (pe_op op_addA (pe_op op_mulA (pe_lst (pa_cons pe_non pa_nil)) (pv 3)) (pe_lst (pa_cons pe_int pa_nil))))
    (pss_cons (ps_for PassesOwn.never rfl (pi_range1 (by rfl) Z.range_ (pa_cons (pv 1) pa_nil)) (pg_name (i := 5) nd rfl (.inl rfl)) (pss_cons (ps_set (i := 6) nd rfl (.inl rfl) (pe_op op_mulA (pe_lst (pa_cons pe_non pa_nil)) (pe_callB cl_len (by rfl) Z.len_ (by decide +kernel) (pa_cons (pv 0) pa_nil))))
    (pss_cons (ps_for PassesOwn.never rfl (pi_range1 (by rfl) Z.range_ (pa_cons (pv 3) pa_nil)) (pg_name (i := 7) nd rfl (.inl rfl)) (pss_cons (ps_set (i := 8) nd rfl (.inl rfl) (pe_lst pa_nil))
    (pss_cons (ps_for PassesOwn.never rfl (pi_range2 (by rfl) Z.range_ (pa_cons (pe_op op_addA (pv 7) pe_int) (pa_cons (pe_op op_addA (pv 3) pe_int) pa_nil))) (pg_name (i := 9) nd rfl (.inl rfl)) (pss_cons (ps_set (i := 10) nd rfl (.inl rfl) (pe_op op_sub (pe_ix ix_seq (pv 0) (pv 9) (fun _ _ => rfl)) (pe_ix ix_seq (pv 0) (pv 7) (fun _ _ => rfl))))
    (pss_one (ps_if (PW.pt (pw_and (pt_cmpR (op_geA hu) (pv 10) (pv 2) (nomark _)) (pw_and1 (pt_cmpR op_notNn (pe_ix ix_seq (pv 4) (pv 9) (fun _ _ => rfl)) pe_non (nomark _))))) (pss_one (ps_expr (pe_bmK (K := K) PySem.F.plainAttrs_list PySem.F.slot_list_append PySem.F.type_list_append mt_append (pv 8) (pa_cons (pe_callB (cl_max2 rfl) (by rfl) Z.max_ (by decide +kernel) (pa_cons (pv 10) (pa_cons (pe_ix ix_seq (pv 4) (pv 9) (fun _ _ => rfl)) pa_nil))) pa_nil)))) pss_nil))))
    (pss_one (ps_if (pt_cmpR (op_neA hu) (pv 8) (pe_lst pa_nil) (nomark _)) (pss_one (ps_asg (pe_callB (cr_minA rfl hu) (by rfl) Z.min_ (by decide +kernel) (pa_cons (pv 8) pa_nil)) (pg_sub (pv 6) (pv 7) set_list))) pss_nil)))))
    (pss_one (ps_set (i := 4) nd rfl (.inl rfl) (pv 6))))))
    (pss_one (ps_ret (pv 4)))))), ?_⟩
    (try dsimp only [cxOf])
    obtain ⟨x_ahead, v_ahead, x_many, x_low, rfl, h_ahead, r0, hm, q⟩ := h
    let G_ : (List (Option Int)) → Prop := fun r => ∀ v' H', Res K H0 r v' H' → Q v' H'
    have hq : ∀ r, r = r0 → G_ r := fun r e => by subst e; exact q
    clear q
    unfold m_least_ends at hm
    have W0 := Wd.start (K := K) H0
    have W1 := Wd.arg W0 h_ahead
    obtain ⟨a2, rfl⟩ := Wd.eqL W1 (Kn.at 0 rfl)
    refine i_seq ?_
    refine i_asg ?_
    refine i_op ?_
    refine i_cb ?_
    refine i_tcons ?_
    refine i_var rfl ?_
    refine i_tnil ?_
    refine w_len W1 (Lx.ls (Lx.flat (t := true) (Lx.kn (Kn.at 0 rfl)))) ?_
    refine i_c ?_
    refine i_I0 ?_
    refine i_gName ?_
    clear W0
    refine i_seq ?_
    refine i_asg ?_
    refine i_op ?_
    refine i_op ?_
    refine i_tlst ?_
    refine i_tcons ?_
    refine i_c ?_
    refine i_tnil ?_
    refine w_lst (α := Unit) (t := true) W1 (KnL.cons Kn.unit KnL.nil) (by show (1 : Nat) ≤ sizeLine; decide) (fun p3 H4 W5 => ?_)
    have W6 := Wd.frz W5
    refine i_var rfl ?_
    replace hm := bndE hm
    obtain ⟨x7, h8, hm⟩ := hm
    refine w_rep W6 (Lx.kn (Kn.at 0 rfl)) h8 (fun p9 H10 W11 => ?_)
    have W12 := Wd.frz W11
    refine i_tlst ?_
    refine i_tcons ?_
    refine i_c ?_
    refine i_tnil ?_
    refine w_lst (α := Int) (t := true) W12 (KnL.cons Kn.int KnL.nil) (by show (1 : Nat) ≤ sizeLine; decide) (fun p13 H14 W15 => ?_)
    have W16 := Wd.frz W15
    replace hm := bndE hm
    obtain ⟨x17, h18, hm⟩ := hm
    refine w_cat W16 (Lx.kn (Kn.co (β := (List (Option Int))) (Kn.at 1 rfl))) (Lx.kn (Kn.co (β := (List (Option Int))) (Kn.at 0 rfl))) h18 (fun p19 H20 W21 => ?_)
    have W22 := Wd.frz W21
    refine i_gName ?_
    clear W1 W5 W6 W11 W12 W15 W16 W21
    refine i_seq ?_
    refine i_for ?_
    refine i_iRng1 ?_
    refine i_tcons ?_
    refine i_var rfl ?_
    refine i_tnil ?_
    replace hm := bndE hm
    obtain ⟨x24, h25, hm⟩ := hm
    refine w_rg1 h25 (fun e23 => ?_)
    subst e23
    have W26 := Wd.sel W22 [0, 4] rfl
    replace hm := bndE hm
    obtain ⟨o32, h33, hm⟩ := hm
    refine w_fold (⟨fun b e => [some (.ref a2), some (.int x_many), some (.int x_low), some (.int ((lenI x_ahead) - 1)), some e.1, e.2.2.1, e.2.1, e.2.2.2.2.1, e.2.2.2.2.2.1, e.2.2.2.2.2.2, e.2.2.2.1], fun b e => [fc true (b : (List (Option Int))) e.1, fc false (x_ahead : (List Int)) (.ref a2)], fun b e => []⟩ : Shp ((List (Option Int))) (V × Option V × Option V × Option V × Option V × Option V × Option V)) ((.ref p19), none, none, none, none, none, none) h33 rfl W26 gv_rng ?_ ?_
    · intro x29 v30 b27 e28 H34 o35 W31 hm
      obtain ⟨e28_0, e28_1, e28_2, e28_3, e28_4, e28_5, e28_6⟩ := e28
      dsimp only at W31 ⊢
      obtain ⟨a40, rfl⟩ := Wd.eqL W31 (Kn.at 1 rfl)
      obtain rfl := Wd.eqI W31 (Kn.at 0 rfl)
      refine i_gName ?_
      refine i_seq ?_
      refine i_asg ?_
      refine i_op ?_
      refine i_tlst ?_
      refine i_tcons ?_
      refine i_c ?_
      refine i_tnil ?_
      refine w_lst (α := Unit) (t := true) W31 (KnL.cons Kn.unit KnL.nil) (by show (1 : Nat) ≤ sizeLine; decide) (fun p41 H42 W43 => ?_)
      have W44 := Wd.frz W43
      refine i_cb ?_
      refine i_tcons ?_
      refine i_var rfl ?_
      refine i_tnil ?_
      refine w_len W44 (Lx.ls (Lx.flat (t := true) (Lx.kn (Kn.at 3 rfl)))) ?_
      replace hm := bndE hm
      obtain ⟨x45, h46, hm⟩ := hm
      refine w_rep W44 (Lx.kn (Kn.at 0 rfl)) h46 (fun p47 H48 W49 => ?_)
      refine i_gName ?_
      clear W31 W43 W44
      refine i_seq ?_
      refine i_for ?_
      refine i_iRng1 ?_
      refine i_tcons ?_
      refine i_var rfl ?_
      refine i_tnil ?_
      replace hm := bndE hm
      obtain ⟨x51, h52, hm⟩ := hm
      refine w_rg1 h52 (fun e50 => ?_)
      subst e50
      have W53 := Wd.coO (β := (Option Int)) W49 0 rfl
      have W54 := Wd.sel W53 [2, 3] rfl
      replace hm := bndE hm
      obtain ⟨o60, h61, hm⟩ := hm
      refine w_fold (⟨fun b e => [some (.ref a2), some (.int x_many), some (.int x_low), some (.int ((lenI x_ahead) - 1)), some (.ref a40), some (.int x29), some (.ref p47), e.2.1, e.2.2.1, e.2.2.2, e.1], fun b e => [fc true (b27 : (List (Option Int))) (.ref a40), fc false (x_ahead : (List Int)) (.ref a2)], fun b e => [oL true p47 (b : List (Option Int))]⟩ : Shp ((List (Option Int))) (Option V × Option V × Option V × Option V)) (e28_3, e28_4, e28_5, e28_6) h61 rfl W54 gv_rng ?_ ?_
      · intro x57 v58 b55 e56 H62 o63 W59 hm
        obtain ⟨e56_0, e56_1, e56_2, e56_3⟩ := e56
        dsimp only at W59 ⊢
        obtain rfl := Wd.eqI W59 (Kn.at 0 rfl)
        refine i_gName ?_
        refine i_seq ?_
        refine i_asg ?_
        refine i_tlst ?_
        refine i_tnil ?_
        refine w_lst (α := Int) (t := true) W59 KnL.nil (by show (0 : Nat) ≤ sizeLine; decide) (fun p68 H69 W70 => ?_)
        refine i_gName ?_
        clear W59
        refine i_seq ?_
        refine i_for ?_
        refine i_iRng2 ?_
        refine i_tcons ?_
        refine i_op ?_
        refine i_var rfl ?_
        refine i_c ?_
        refine i_addI ?_
        refine i_tcons ?_
        refine i_op ?_
        refine i_var rfl ?_
        refine i_c ?_
        refine i_addI ?_
        refine i_tnil ?_
        replace hm := bndE hm
        obtain ⟨x72, h73, hm⟩ := hm
        refine w_rg2 h73 (fun e71 => ?_)
        subst e71
        have W74 := Wd.sel W70 [1, 2] rfl
        replace hm := bndE hm
        obtain ⟨o80, h81, hm⟩ := hm
        refine w_fold (⟨fun b e => [some (.ref a2), some (.int x_many), some (.int x_low), some (.int ((lenI x_ahead) - 1)), some (.ref a40), some (.int x29), some (.ref p47), some (.int x57), some (.ref p68), e.2, e.1], fun b e => [fc true (b27 : (List (Option Int))) (.ref a40), fc false (x_ahead : (List Int)) (.ref a2)], fun b e => [oL true p68 (b : List Int), oL true p47 (b55 : List (Option Int))]⟩ : Shp ((List Int)) (Option V × Option V)) (e56_0, e56_3) h81 rfl W74 gv_rng ?_ ?_
        · intro x77 v78 b75 e76 H82 o83 W79 hm
          obtain ⟨e76_0, e76_1⟩ := e76
          dsimp only at W79 ⊢
          obtain rfl := Wd.eqI W79 (Kn.at 0 rfl)
          refine i_gName ?_
          refine i_seq ?_
          refine i_asg ?_
          refine i_op ?_
          refine i_op ?_
          refine i_var rfl ?_
          refine i_var rfl ?_
          replace hm := bndE hm
          obtain ⟨x88, h89, hm⟩ := hm
          refine w_ixI W79 (Lx.ls (Lx.flat (t := true) (Lx.kn (Kn.at 2 rfl)))) h89 ?_
          refine i_op ?_
          refine i_var rfl ?_
          refine i_var rfl ?_
          replace hm := bndE hm
          obtain ⟨x90, h91, hm⟩ := hm
          refine w_ixI W79 (Lx.ls (Lx.flat (t := true) (Lx.kn (Kn.at 2 rfl)))) h91 ?_
          refine i_I0 ?_
          refine i_gName ?_
          refine i_ifS ?_
          refine i_and ?_
          refine i_test ?_
          refine i_op ?_
          refine i_var rfl ?_
          refine i_var rfl ?_
          refine i_geA ?_
          refine i_bl ?_
          replace hm := bndE hm
          obtain ⟨x100, h101, hm⟩ := hm
          refine w_andW (L' := [oL true p68 (b75 : List Int), oL true p47 (b55 : List (Option Int))]) x100 W79 (fun hb92 P93 hP94 => ?_) (fun hb92 => ?_) (fun H102 W103 => ?_)
          · have hm : _ = some x100 := (if_pos hb92).symm.trans h101
            refine i_test ?_
            refine i_op ?_
            refine i_op ?_
            refine i_var rfl ?_
            refine i_var rfl ?_
            replace hm := bndE hm
            obtain ⟨x95, h96, hm⟩ := hm
            refine w_ix W79 (Lx.ls (Lx.kn (Kn.at 1 rfl))) h96 (fun u97 W98 => ?_)
            refine i_c ?_
            refine w_notN W98 (Kn.at 0 rfl) ?_
            refine i_bl ?_
            have W99 := Wd.drop W98 1 rfl
            have hm := some_inj hm
            exact hP94 _ _ hm W99
          · have hm := some_inj ((if_neg (by rw [hb92]; exact Bool.false_ne_true)).symm.trans h101)
            exact ⟨hm, W79⟩
          clear W79
          rcases iteE hm with ⟨hb105, hm⟩ | ⟨hb105, hm⟩
          · refine i_bT hb105 ?_
            refine i_drop ?_
            refine i_bm ?_
            refine i_var rfl ?_
            refine w_mt W103 (Lx.ls (Lx.own 0 rfl)) ?_
            refine i_tcons ?_
            refine i_cb ?_
            refine i_tcons ?_
            refine i_var rfl ?_
            refine i_tcons ?_
            refine i_op ?_
            refine i_var rfl ?_
            refine i_var rfl ?_
            replace hm := bndE hm
            obtain ⟨x106, h107, hm⟩ := hm
            refine w_ix W103 (Lx.ls (Lx.kn (Kn.at 1 rfl))) h107 (fun u108 W109 => ?_)
            refine i_tnil ?_
            replace hm := bndE hm
            obtain ⟨x110, h111, hm⟩ := hm
            have W112 := Wd.unopt (t := true) W109 (Kn.at 0 rfl) h111
            obtain rfl := Wd.eqI W112 (Kn.at 0 rfl)
            refine i_max2 ?_
            refine i_tnil ?_
            replace hm := bndE hm
            obtain ⟨x113, h114, hm⟩ := hm
            refine w_app W112 0 rfl Kn.int h114 (fun H115 W116 => ?_)
            dsimp only [List.set] at W116
            clear W103 W109 W112
            have W117 := Wd.sel W116 [3, 4] rfl
            obtain rfl := some_inj hm
            exact ⟨(some (.int (x88 - x90)), some (.int x77)), rfl, W117⟩
          · refine i_bF hb105 ?_
            refine i_next ?_
            have W118 := Wd.sel W103 [1, 2] rfl
            obtain rfl := some_inj hm
            exact ⟨(some (.int (x88 - x90)), some (.int x77)), rfl, W118⟩
        · intro e120 H121 W122
          obtain ⟨e120_0, e120_1⟩ := e120
          dsimp only at W122 ⊢
          refine i_ifS ?_
          refine i_test ?_
          refine i_op ?_
          refine i_var rfl ?_
          refine i_tlst ?_
          refine i_tnil ?_
          refine w_lst (α := Int) (t := true) W122 KnL.nil (by show (0 : Nat) ≤ sizeLine; decide) (fun p124 H125 W126 => ?_)
          have W127 := Wd.frz W126
          replace hm := bndE hm
          obtain ⟨x128, h129, hm⟩ := hm
          refine w_ne W127 (Ar.lx (Lx.own 0 rfl)) (Ar.kn (t := true) (Kn.at 0 rfl)) h129 ?_
          refine i_bl ?_
          clear W122 W126
          rcases iteE hm with ⟨hb130, hm⟩ | ⟨hb130, hm⟩
          · refine i_bT hb130 ?_
            refine i_asg ?_
            refine i_cb ?_
            refine i_tcons ?_
            refine i_var rfl ?_
            refine i_tnil ?_
            replace hm := bndE hm
            obtain ⟨x131, h132, hm⟩ := hm
            refine .inl (w_min W127 (Lx.ls (Lx.own 0 rfl)) h132 ?_)
            refine i_gSub ?_
            refine i_var rfl ?_
            refine i_var rfl ?_
            replace hm := bndE hm
            obtain ⟨x133, h134, hm⟩ := hm
            refine w_set W127 1 rfl (Kn.some Kn.int) h134 (fun H135 W136 => ?_)
            dsimp only [List.set] at W136
            clear W127
            have W137 := Wd.sel W136 [1, 2] rfl
            have W138 := Wd.selO W137 [1] rfl
            obtain rfl := some_inj hm
            exact ⟨(e120_0, some (.int x57), some (.ref p68), e120_1), rfl, W138⟩
          · refine i_bF hb130 ?_
            refine i_next ?_
            have W139 := Wd.sel W127 [1, 2] rfl
            have W140 := Wd.selO W139 [1] rfl
            obtain rfl := some_inj hm
            exact ⟨(e120_0, some (.int x57), some (.ref p68), e120_1), rfl, W140⟩
      · intro e142 H143 W144
        obtain ⟨e142_0, e142_1, e142_2, e142_3⟩ := e142
        dsimp only at W144 ⊢
        refine i_asg ?_
        refine i_var rfl ?_
        have W146 := Wd.frz W144
        refine i_gName ?_
        clear W144
        have W147 := Wd.sel W146 [0, 2] rfl
        obtain rfl := some_inj hm
        exact ⟨((.ref p47), some (.ref p47), some (.int x29), e142_0, e142_1, e142_2, e142_3), rfl, W147⟩
    · intro e149 H150 W151
      obtain ⟨e149_0, e149_1, e149_2, e149_3, e149_4, e149_5, e149_6⟩ := e149
      dsimp only at W151 ⊢
      obtain ⟨a153, rfl⟩ := Wd.eqL W151 (Kn.at 0 rfl)
      refine i_ret ?_
      refine i_var rfl ?_
      exact hq _ (some_inj hm) _ _ (Wd.res (x := (o32 : (List (Option Int)))) W151 (Kn.at 0 rfl))
end
/-! ### first_within -/
abbrev sp_first_within (K : PySem.W.Frag) : Sp := fun vs H Q _ => ∃ (x_ahead : (List Int)) (v_ahead : V) (x_many : Int) (x_low : Int) (x_high : Int),  vs = [v_ahead, .int x_many, .int x_low, .int x_high] ∧ Rp.rep (lkA K H) x_ahead v_ahead ∧ ∃ r : (Option (List Int)), m_first_within x_ahead x_many x_low x_high = some r ∧ ∀ v' H', Res K H r v' H' → Q v' H'
section
variable {P : Program} {w : World} {K : PySem.W.Frag} {mg : Str → Option Value} {base : Heap}
abbrev N_first_within : List Str := ["ahead", "many", "low", "high", "last", "can", "left", "open_ones", "place", "beyond", "found", "there"]
theorem scope_first_within : FnScope N_first_within ["ahead", "many", "low", "high"] (defScope s_first_within) := ⟨rfl, rfl, rfl, by decide +kernel, rfl, by decide +kernel, by decide +kernel⟩
-- comprehension scope 0
-- comprehension scope 1
-- comprehension scope 2
-- comprehension scope 3
-- comprehension scope 4
theorem ok_first_within {f : Addr} {fd : FuncData} (F : FunD K "first_within" "first_within" (defArgs s_first_within) (defBody s_first_within) (defScope s_first_within) [] [] f fd) (hm : mg "first_within" = some (.ref f)) (Z : Blt mg) :
    Fn P w K mg base 1 "first_within" ["ahead", "many", "low", "high"] (sp_first_within K) := by
  refine mkFn F hm (fun _ _ _ _ _ _ us hl => match us, hl with | [_, _, _, _], _ => rfl) (okG (k := 0) F scope_first_within (fun vs H0 Q E h => ?_) (fun cdv A outer s H0 vs Q E hr hgd h => ?_))
  · obtain ⟨_, _, _, _, _, rfl, _⟩ := h; rfl
  · have nd := scope_first_within.nd
    have hu := hr.units
    unfold sp_first_within at h
    refine ⟨_, PSs.nox (pss_cons (ps_set (i := 4) nd rfl (.inr rfl) (pe_op op_sub (pe_callB cl_len (by rfl) Z.len_ (by decide +kernel) (pa_cons (pv 0) pa_nil)) pe_int))
    (pss_cons (ps_set (i := 5) nd rfl (.inr rfl) (pe_lst (pa_cons (pe_lc (own := [("place", 8)]) (g := gName 8) (tt := tYes) (by rfl) nd (pi_range1 (by rfl) Z.range_ (pa_cons (pe_op op_addA (pv 4) pe_int) pa_nil)) (blkOk_by (own := [("place", 8)]) (N := N_first_within) (sc := (defScope s_first_within)) (by decide +kernel)) (fun _ _ _ _ _ => (pg_name (i := 8) nd rfl (.inl rfl))) (fun _ _ _ _ _ => pts_nil) (fun _ _ _ _ _ => (pe_cmpR (r := rEqA K) (op_eqA hu) (pv 8) (pv 4) (nomark _)))) pa_nil)))
    (pss_cons (ps_for PassesOwn.never rfl (pi_range1 (by rfl) Z.range_ (pa_cons (pv 1) pa_nil)) (pg_name (i := 6) nd rfl (.inr rfl)) (pss_cons (ps_set (i := 7) nd rfl (.inl rfl) (pe_lst pa_nil))
    (pss_cons (ps_for PassesOwn.never rfl (pi_range1 (by rfl) Z.range_ (pa_cons (pe_op op_addA (pv 4) pe_int) pa_nil)) (pg_name (i := 8) nd rfl (.inr rfl)) (pss_cons (ps_setLc (i := 9) (own := [("there", 11)]) (g := gName 11) (by rfl) nd rfl rfl (sw_true rfl rfl rfl (by decide +kernel)) (pi_range2 (by rfl) Z.range_ (pa_cons (pe_op op_addA (pv 8) pe_int) (pa_cons (pe_op op_addA (pv 4) pe_int) pa_nil))) (blkOk_by (own := [("there", 11)]) (N := N_first_within) (sc := (defScope s_first_within)) (by decide +kernel)) (fun _ _ _ _ _ => (pg_name (i := 11) nd rfl (.inl rfl))) (fun _ _ _ _ _ => pts_one (pt_val (pe_ix (r := rIx K) ix_seq (pe_ix (r := rIx K) ix_seq (pv 5) (pe_un un_neg pe_int) (fun _ _ => rfl)) (pv 11) (fun _ _ => rfl)))) (fun _ _ _ _ _ => (pv 11)))
    (pss_one (ps_expr (pe_bmK (K := K) PySem.F.plainAttrs_list PySem.F.slot_list_append PySem.F.type_list_append mt_append (pv 7) (pa_cons (pe_cmpR (op_neA hu) (pe_lc (own := [("there", 11)]) (g := gName 11) (by rfl) nd (pi_list (pv 9)) (blkOk_by (own := [("there", 11)]) (N := N_first_within) (sc := (defScope s_first_within)) (by decide +kernel)) (fun _ _ _ _ _ => (pg_name (i := 11) nd rfl (.inl rfl))) (fun _ _ _ _ _ => pts_one (pt_chain op_le op_le (pv 2) (pe_op op_sub (pe_ix (r := rIx K) ix_seq (pv 0) (pv 11) (fun _ _ => rfl)) (pe_ix (r := rIx K) ix_seq (pv 0) (pv 8) (fun _ _ => rfl))) (pv 3))) (fun _ _ _ _ _ => (pv 11))) (pe_lst pa_nil) (nomark _)) pa_nil))))))
    (pss_one (ps_expr (pe_bmK (K := K) PySem.F.plainAttrs_list PySem.F.slot_list_append PySem.F.type_list_append mt_append (pv 5) (pa_cons (pv 7) pa_nil)))))))
    (pss_cons (ps_if (pt_not (pt_val (pe_ix ix_seq (pe_ix ix_seq (pv 5) (pv 1) (fun _ _ => rfl)) pe_int (fun _ _ => rfl)))) (pss_one (ps_ret pe_non)) pss_nil)
    (pss_cons (ps_set (i := 10) nd rfl (.inl rfl) (pe_lst (pa_cons pe_int pa_nil)))
    (pss_cons (ps_for PassesOwn.never rfl (pi_range3 (by rfl) Z.range_ (pa_cons (pe_op op_sub (pv 1) pe_int) (pa_cons pe_int (pa_cons (pe_un un_neg pe_int) pa_nil)))) (pg_name (i := 6) nd rfl (.inr rfl)) (pss_cons (ps_set (i := 8) nd rfl (.inr rfl) (pe_ix ix_seq (pv 10) (pe_un un_neg pe_int) (fun _ _ => rfl)))
    (pss_cons (ps_setLc (i := 9) (own := [("there", 11)]) (g := gName 11) (by rfl) nd rfl rfl (sw_true rfl rfl rfl (by decide +kernel)) (pi_range2 (by rfl) Z.range_ (pa_cons (pe_op op_addA (pv 8) pe_int) (pa_cons (pe_op op_addA (pv 4) pe_int) pa_nil))) (blkOk_by (own := [("there", 11)]) (N := N_first_within) (sc := (defScope s_first_within)) (by decide +kernel)) (fun _ _ _ _ _ => (pg_name (i := 11) nd rfl (.inl rfl))) (fun _ _ _ _ _ => pts_one (pt_val (pe_ix (r := rIx K) ix_seq (pe_ix (r := rIx K) ix_seq (pv 5) (pv 6) (fun _ _ => rfl)) (pv 11) (fun _ _ => rfl)))) (fun _ _ _ _ _ => (pv 11)))
    (pss_one (ps_expr (pe_bmK (K := K) PySem.F.plainAttrs_list PySem.F.slot_list_append PySem.F.type_list_append mt_append (pv 10) (pa_cons (pe_ix ix_seq (pe_lc (own := [("there", 11)]) (g := gName 11) (by rfl) nd (pi_list (pv 9)) (blkOk_by (own := [("there", 11)]) (N := N_first_within) (sc := (defScope s_first_within)) (by decide +kernel)) (fun _ _ _ _ _ => (pg_name (i := 11) nd rfl (.inl rfl))) (fun _ _ _ _ _ => pts_one (pt_chain op_le op_le (pv 2) (pe_op op_sub (pe_ix (r := rIx K) ix_seq (pv 0) (pv 11) (fun _ _ => rfl)) (pe_ix (r := rIx K) ix_seq (pv 0) (pv 8) (fun _ _ => rfl))) (pv 3))) (fun _ _ _ _ _ => (pv 11))) pe_int (fun _ _ => rfl)) pa_nil)))))))
    (pss_one (ps_ret (pe_slice sl_list (pv 10) (po_some pe_int) po_none))))))))), ?_⟩
    (try dsimp only [cxOf])
    obtain ⟨x_ahead, v_ahead, x_many, x_low, x_high, rfl, h_ahead, r0, hm, q⟩ := h
    let G_ : (Option (List Int)) → Prop := fun r => ∀ v' H', Res K H0 r v' H' → Q v' H'
    have hq : ∀ r, r = r0 → G_ r := fun r e => by subst e; exact q
    clear q
    unfold m_first_within at hm
    have W0 := Wd.start (K := K) H0
    have W1 := Wd.arg W0 h_ahead
    obtain ⟨a2, rfl⟩ := Wd.eqL W1 (Kn.at 0 rfl)
    refine i_seq ?_
    refine i_asg ?_
    refine i_op ?_
    refine i_cb ?_
    refine i_tcons ?_
    refine i_var rfl ?_
    refine i_tnil ?_
    refine w_len W1 (Lx.ls (Lx.flat (t := true) (Lx.kn (Kn.at 0 rfl)))) ?_
    refine i_c ?_
    refine i_I0 ?_
    refine i_gName ?_
    clear W0
    refine i_seq ?_
    refine i_asg ?_
    refine i_tlst ?_
    refine i_tcons ?_
    refine i_lc ?_
    refine i_iRng1 ?_
    refine i_tcons ?_
    refine i_op ?_
    refine i_var rfl ?_
    refine i_c ?_
    refine i_addI ?_
    refine i_tnil ?_
    replace hm := bndE hm
    obtain ⟨x4, h5, hm⟩ := hm
    refine w_rg1 h5 (fun e3 => ?_)
    subst e3
    replace hm := bndE hm
    obtain ⟨x20, h21, hm⟩ := hm
    refine w_map (γ := Bool) true h21 W1 (fun _ => gv_rng) (fun D8 x6 v7 acc9 H10 y11 ha12 W13 hm => ?_) (fun p17 H18 W19 => ?_)
    · obtain rfl := Wd.eqI W13 (Kn.at 0 rfl)
      refine i_gName ?_
      refine i_wipe rfl ?_
      refine i_yes ?_
      refine i_T ?_
      refine i_op ?_
      refine i_var rfl ?_
      refine i_var rfl ?_
      refine i_eqI ?_
      obtain rfl := some_inj hm
      refine w_elt W13 Kn.bl ha12 (fun H15 W16 => ?_)
      exact ⟨(), Wd.drop W16 1 rfl⟩
    have W22 := Wd.frz W19
    refine i_tnil ?_
    refine w_lst (α := (List Bool)) (t := true) W22 (KnL.cons (Kn.at 0 rfl) KnL.nil) (by show (1 : Nat) ≤ sizeLine; decide) (fun p23 H24 W25 => ?_)
    refine i_gName ?_
    clear W1 W19 W22
    refine i_seq ?_
    refine i_for ?_
    refine i_iRng1 ?_
    refine i_tcons ?_
    refine i_var rfl ?_
    refine i_tnil ?_
    replace hm := bndE hm
    obtain ⟨x27, h28, hm⟩ := hm
    refine w_rg1 h28 (fun e26 => ?_)
    subst e26
    have W29 := Wd.sel W25 [1] rfl
    replace hm := bndE hm
    obtain ⟨o35, h36, hm⟩ := hm
    refine w_fold (⟨fun b e => [some (.ref a2), some (.int x_many), some (.int x_low), some (.int x_high), some (.int ((lenI x_ahead) - 1)), some (.ref p23), e.2.1, e.2.2.1, e.2.2.2, e.1, none, none], fun b e => [fc false (x_ahead : (List Int)) (.ref a2)], fun b e => [oL true p23 (b : List (List Bool))]⟩ : Shp ((List (List Bool))) (Option V × Option V × Option V × Option V)) (none, none, none, none) h36 rfl W29 gv_rng ?_ ?_
    · intro x32 v33 b30 e31 H37 o38 W34 hm
      obtain ⟨e31_0, e31_1, e31_2, e31_3⟩ := e31
      dsimp only at W34 ⊢
      obtain rfl := Wd.eqI W34 (Kn.at 0 rfl)
      refine i_gName ?_
      refine i_seq ?_
      refine i_asg ?_
      refine i_tlst ?_
      refine i_tnil ?_
      refine w_lst (α := Bool) (t := true) W34 KnL.nil (by show (0 : Nat) ≤ sizeLine; decide) (fun p43 H44 W45 => ?_)
      refine i_gName ?_
      clear W34
      refine i_seq ?_
      refine i_for ?_
      refine i_iRng1 ?_
      refine i_tcons ?_
      refine i_op ?_
      refine i_var rfl ?_
      refine i_c ?_
      refine i_addI ?_
      refine i_tnil ?_
      replace hm := bndE hm
      obtain ⟨x47, h48, hm⟩ := hm
      refine w_rg1 h48 (fun e46 => ?_)
      subst e46
      have W49 := Wd.sel W45 [1] rfl
      replace hm := bndE hm
      obtain ⟨o55, h56, hm⟩ := hm
      refine w_fold (⟨fun b e => [some (.ref a2), some (.int x_many), some (.int x_low), some (.int x_high), some (.int ((lenI x_ahead) - 1)), some (.ref p23), some (.int x32), some (.ref p43), e.2, e.1, none, none], fun b e => [fc false (x_ahead : (List Int)) (.ref a2)], fun b e => [oL true p43 (b : List Bool), oL true p23 (b30 : List (List Bool))]⟩ : Shp ((List Bool)) (Option V × Option V)) (e31_0, e31_3) h56 rfl W49 gv_rng ?_ ?_
      · intro x52 v53 b50 e51 H57 o58 W54 hm
        obtain ⟨e51_0, e51_1⟩ := e51
        dsimp only at W54 ⊢
        obtain rfl := Wd.eqI W54 (Kn.at 0 rfl)
        refine i_gName ?_
        refine i_seq ?_
        refine i_asg ?_
        refine i_lc ?_
        refine i_iRng2 ?_
        refine i_tcons ?_
        refine i_op ?_
        refine i_var rfl ?_
        refine i_c ?_
        refine i_addI ?_
        refine i_tcons ?_
        refine i_op ?_
        refine i_var rfl ?_
        refine i_c ?_
        refine i_addI ?_
        refine i_tnil ?_
        replace hm := bndE hm
        obtain ⟨x64, h65, hm⟩ := hm
        refine w_rg2 h65 (fun e63 => ?_)
        subst e63
        replace hm := bndE hm
        obtain ⟨x88, h89, hm⟩ := hm
        refine w_cmp (γ := Int) true h89 W54 (fun _ => gv_rng) (fun D68 x66 v67 acc69 H70 y71 ha72 W73 hm => ?_) (fun p85 H86 W87 => ?_)
        · obtain rfl := Wd.eqI W73 (Kn.at 0 rfl)
          refine i_gName ?_
          refine i_wipe rfl ?_
          refine i_tB ?_
          refine i_op ?_
          refine i_op ?_
          refine i_var rfl ?_
          refine i_un ?_
          refine i_c ?_
          refine i_rU ?_
          replace hm := bndE hm
          obtain ⟨x75, h76, hm⟩ := hm
          refine w_ix W73 (Lx.ls (Lx.own 2 rfl)) h76 (fun u77 W78 => ?_)
          obtain ⟨a79, rfl⟩ := Wd.eqL W78 (Kn.at 0 rfl)
          refine i_var rfl ?_
          replace hm := bndE hm
          obtain ⟨x80, h81, hm⟩ := hm
          refine w_ixB W78 (Lx.ls (Lx.kn (Kn.at 0 rfl))) h81 ?_
          refine i_bl ?_
          rcases iteE hm with ⟨hb82, hm⟩ | ⟨hb82, hm⟩
          · refine i_bT hb82 ?_
            refine i_var rfl ?_
            obtain rfl := some_inj hm
            refine w_elt W78 Kn.int ha72 (fun H83 W84 => ?_)
            exact ⟨(), Wd.drop W84 2 rfl⟩
          · refine i_bF hb82 ?_
            obtain rfl := some_inj hm
            have hn := Wd.drop W78 2 rfl
            exact ⟨(), by rw [show (none : Option Int).toList = [] from rfl, List.append_nil]; exact hn⟩
        have W90 := Wd.frz W87
        refine i_gName ?_
        clear W54 W87
        refine i_drop ?_
        refine i_bm ?_
        refine i_var rfl ?_
        refine w_mt W90 (Lx.ls (Lx.own 0 rfl)) ?_
        refine i_tcons ?_
        refine i_op ?_
        refine i_lc ?_
        refine i_iList ?_
        refine i_var rfl ?_
        refine w_itL W90 (Lx.ls (Lx.kn (Kn.at 0 rfl))) ?_
        replace hm := bndE hm
        obtain ⟨x115, h116, hm⟩ := hm
        refine w_cmp (γ := Int) true h116 W90 (fun _ => (gv_list (fun _ _ => (Lx.ls (Lx.kn (Kn.at 0 rfl)))))) (fun D93 x91 v92 acc94 H95 y96 ha97 W98 hm => ?_) (fun p112 H113 W114 => ?_)
        · obtain rfl := Wd.eqI W98 (Kn.at 0 rfl)
          refine i_gName ?_
          refine i_wipe rfl ?_
          refine i_test ?_
          refine i_chain ?_
          refine i_var rfl ?_
          refine i_op ?_
          refine i_op ?_
          refine i_var rfl ?_
          refine i_var rfl ?_
          replace hm := bndE hm
          obtain ⟨x100, h101, hm⟩ := hm
          refine w_ixI W98 (Lx.ls (Lx.flat (t := true) (Lx.kn (Kn.at 3 rfl)))) h101 ?_
          refine i_op ?_
          refine i_var rfl ?_
          refine i_var rfl ?_
          replace hm := bndE hm
          obtain ⟨x102, h103, hm⟩ := hm
          refine w_ixI W98 (Lx.ls (Lx.flat (t := true) (Lx.kn (Kn.at 3 rfl)))) h103 ?_
          refine i_I0 ?_
          refine i_I0 ?_
          refine i_bl ?_
          refine w_chainW (L' := _) ((decide (x_low ≤ (x100 - x102))) && (decide ((x100 - x102) ≤ x_high))) W98 (fun hb104 P105 hP106 => ?_) (fun hb104 => ⟨and_f hb104, W98⟩) (fun H107 W108 => ?_)
          · refine i_var rfl ?_
            refine i_I0 ?_
            exact hP106 _ _ (and_t hb104) W98
          refine i_bl ?_
          rcases iteE hm with ⟨hb109, hm⟩ | ⟨hb109, hm⟩
          · refine i_bT hb109 ?_
            refine i_var rfl ?_
            obtain rfl := some_inj hm
            refine w_elt W108 Kn.int ha97 (fun H110 W111 => ?_)
            exact ⟨(), Wd.drop W111 1 rfl⟩
          · refine i_bF hb109 ?_
            obtain rfl := some_inj hm
            have hn := Wd.drop W108 1 rfl
            exact ⟨(), by rw [show (none : Option Int).toList = [] from rfl, List.append_nil]; exact hn⟩
        have W117 := Wd.frz W114
        refine i_tlst ?_
        refine i_tnil ?_
        refine w_lst (α := Int) (t := true) W117 KnL.nil (by show (0 : Nat) ≤ sizeLine; decide) (fun p118 H119 W120 => ?_)
        have W121 := Wd.frz W120
        replace hm := bndE hm
        obtain ⟨x122, h123, hm⟩ := hm
        refine w_ne W121 (Ar.kn (t := true) (Kn.at 1 rfl)) (Ar.kn (t := true) (Kn.at 0 rfl)) h123 ?_
        refine i_tnil ?_
        replace hm := bndE hm
        obtain ⟨x124, h125, hm⟩ := hm
        refine w_app W121 0 rfl Kn.bl h125 (fun H126 W127 => ?_)
        dsimp only [List.set] at W127
        clear W90 W114 W117 W120 W121
        have W128 := Wd.sel W127 [4] rfl
        obtain rfl := some_inj hm
        exact ⟨(some (.ref p85), some (.int x52)), rfl, W128⟩
      · intro e130 H131 W132
        obtain ⟨e130_0, e130_1⟩ := e130
        dsimp only at W132 ⊢
        refine i_drop ?_
        refine i_bm ?_
        refine i_var rfl ?_
        refine w_mt W132 (Lx.ls (Lx.own 1 rfl)) ?_
        refine i_tcons ?_
        refine i_var rfl ?_
        refine i_tnil ?_
        have W134 := Wd.frz W132
        replace hm := bndE hm
        obtain ⟨x135, h136, hm⟩ := hm
        refine w_app W134 0 rfl (Kn.at 0 rfl) h136 (fun H137 W138 => ?_)
        dsimp only [List.set] at W138
        clear W132 W134
        have W139 := Wd.sel W138 [1] rfl
        obtain rfl := some_inj hm
        exact ⟨(e130_0, some (.int x32), some (.ref p43), e130_1), rfl, W139⟩
    · intro e141 H142 W143
      obtain ⟨e141_0, e141_1, e141_2, e141_3⟩ := e141
      dsimp only at W143 ⊢
      refine i_seq ?_
      refine i_ifS ?_
      refine i_not ?_
      refine i_tB ?_
      refine i_op ?_
      refine i_op ?_
      refine i_var rfl ?_
      refine i_var rfl ?_
      replace hm := bndE hm
      obtain ⟨x145, h146, hm⟩ := hm
      refine w_ix W143 (Lx.ls (Lx.own 0 rfl)) h146 (fun u147 W148 => ?_)
      obtain ⟨a149, rfl⟩ := Wd.eqL W148 (Kn.at 0 rfl)
      refine i_c ?_
      replace hm := bndE hm
      obtain ⟨x150, h151, hm⟩ := hm
      refine w_ixB W148 (Lx.ls (Lx.kn (Kn.at 0 rfl))) h151 ?_
      refine i_bl ?_
      clear W143
      rcases iteE hm with ⟨hb152, hm⟩ | ⟨hb152, hm⟩
      · refine i_bT hb152 ?_
        refine i_ret ?_
        refine i_c ?_
        exact hq _ (some_inj hm) _ _ (Wd.res (x := ((none : (Option (List Int))) : (Option (List Int)))) W148 Kn.none)
      · refine i_bF hb152 ?_
        refine i_next ?_
        refine i_seq ?_
        refine i_asg ?_
        refine i_tlst ?_
        refine i_tcons ?_
        refine i_c ?_
        refine i_tnil ?_
        refine w_lst (α := Int) (t := true) W148 (KnL.cons Kn.int KnL.nil) (by show (1 : Nat) ≤ sizeLine; decide) (fun p153 H154 W155 => ?_)
        refine i_gName ?_
        clear W148
        refine i_seq ?_
        refine i_for ?_
        refine i_iRng3 ?_
        refine i_tcons ?_
        refine i_op ?_
        refine i_var rfl ?_
        refine i_c ?_
        refine i_I0 ?_
        refine i_tcons ?_
        refine i_c ?_
        refine i_tcons ?_
        refine i_un ?_
        refine i_c ?_
        refine i_rU ?_
        refine i_tnil ?_
        replace hm := bndE hm
        obtain ⟨x157, h158, hm⟩ := hm
        refine w_rgD h158 (fun e156 => ?_)
        subst e156
        have W159 := Wd.sel W155 [1] rfl
        replace hm := bndE hm
        obtain ⟨o165, h166, hm⟩ := hm
        refine w_fold (⟨fun b e => [some (.ref a2), some (.int x_many), some (.int x_low), some (.int x_high), some (.int ((lenI x_ahead) - 1)), some (.ref p23), e.2.1, e141_2, e.2.2, e.1, some (.ref p153), none], fun b e => [fc false (x_ahead : (List Int)) (.ref a2)], fun b e => [oL true p153 (b : List Int), oL true p23 (o35 : List (List Bool))]⟩ : Shp ((List Int)) (Option V × Option V × Option V)) (e141_0, e141_1, e141_3) h166 rfl W159 gv_rgb ?_ ?_
        · intro x162 v163 b160 e161 H167 o168 W164 hm
          obtain ⟨e161_0, e161_1, e161_2⟩ := e161
          dsimp only at W164 ⊢
          obtain rfl := Wd.eqI W164 (Kn.at 0 rfl)
          refine i_gName ?_
          refine i_seq ?_
          refine i_asg ?_
          refine i_op ?_
          refine i_var rfl ?_
          refine i_un ?_
          refine i_c ?_
          refine i_rU ?_
          replace hm := bndE hm
          obtain ⟨x173, h174, hm⟩ := hm
          refine w_ixI W164 (Lx.ls (Lx.own 0 rfl)) h174 ?_
          refine i_gName ?_
          refine i_seq ?_
          refine i_asg ?_
          refine i_lc ?_
          refine i_iRng2 ?_
          refine i_tcons ?_
          refine i_op ?_
          refine i_var rfl ?_
          refine i_c ?_
          refine i_addI ?_
          refine i_tcons ?_
          refine i_op ?_
          refine i_var rfl ?_
          refine i_c ?_
          refine i_addI ?_
          refine i_tnil ?_
          replace hm := bndE hm
          obtain ⟨x176, h177, hm⟩ := hm
          refine w_rg2 h177 (fun e175 => ?_)
          subst e175
          replace hm := bndE hm
          obtain ⟨x200, h201, hm⟩ := hm
          refine w_cmp (γ := Int) true h201 W164 (fun _ => gv_rng) (fun D180 x178 v179 acc181 H182 y183 ha184 W185 hm => ?_) (fun p197 H198 W199 => ?_)
          · obtain rfl := Wd.eqI W185 (Kn.at 0 rfl)
            refine i_gName ?_
            refine i_wipe rfl ?_
            refine i_tB ?_
            refine i_op ?_
            refine i_op ?_
            refine i_var rfl ?_
            refine i_var rfl ?_
            replace hm := bndE hm
            obtain ⟨x187, h188, hm⟩ := hm
            refine w_ix W185 (Lx.ls (Lx.own 2 rfl)) h188 (fun u189 W190 => ?_)
            obtain ⟨a191, rfl⟩ := Wd.eqL W190 (Kn.at 0 rfl)
            refine i_var rfl ?_
            replace hm := bndE hm
            obtain ⟨x192, h193, hm⟩ := hm
            refine w_ixB W190 (Lx.ls (Lx.kn (Kn.at 0 rfl))) h193 ?_
            refine i_bl ?_
            rcases iteE hm with ⟨hb194, hm⟩ | ⟨hb194, hm⟩
            · refine i_bT hb194 ?_
              refine i_var rfl ?_
              obtain rfl := some_inj hm
              refine w_elt W190 Kn.int ha184 (fun H195 W196 => ?_)
              exact ⟨(), Wd.drop W196 2 rfl⟩
            · refine i_bF hb194 ?_
              obtain rfl := some_inj hm
              have hn := Wd.drop W190 2 rfl
              exact ⟨(), by rw [show (none : Option Int).toList = [] from rfl, List.append_nil]; exact hn⟩
          have W202 := Wd.frz W199
          refine i_gName ?_
          clear W164 W199
          refine i_drop ?_
          refine i_bm ?_
          refine i_var rfl ?_
          refine w_mt W202 (Lx.ls (Lx.own 0 rfl)) ?_
          refine i_tcons ?_
          refine i_op ?_
          refine i_lc ?_
          refine i_iList ?_
          refine i_var rfl ?_
          refine w_itL W202 (Lx.ls (Lx.kn (Kn.at 0 rfl))) ?_
          replace hm := bndE hm
          obtain ⟨x227, h228, hm⟩ := hm
          refine w_cmp (γ := Int) true h228 W202 (fun _ => (gv_list (fun _ _ => (Lx.ls (Lx.kn (Kn.at 0 rfl)))))) (fun D205 x203 v204 acc206 H207 y208 ha209 W210 hm => ?_) (fun p224 H225 W226 => ?_)
          · obtain rfl := Wd.eqI W210 (Kn.at 0 rfl)
            refine i_gName ?_
            refine i_wipe rfl ?_
            refine i_test ?_
            refine i_chain ?_
            refine i_var rfl ?_
            refine i_op ?_
            refine i_op ?_
            refine i_var rfl ?_
            refine i_var rfl ?_
            replace hm := bndE hm
            obtain ⟨x212, h213, hm⟩ := hm
            refine w_ixI W210 (Lx.ls (Lx.flat (t := true) (Lx.kn (Kn.at 3 rfl)))) h213 ?_
            refine i_op ?_
            refine i_var rfl ?_
            refine i_var rfl ?_
            replace hm := bndE hm
            obtain ⟨x214, h215, hm⟩ := hm
            refine w_ixI W210 (Lx.ls (Lx.flat (t := true) (Lx.kn (Kn.at 3 rfl)))) h215 ?_
            refine i_I0 ?_
            refine i_I0 ?_
            refine i_bl ?_
            refine w_chainW (L' := _) ((decide (x_low ≤ (x212 - x214))) && (decide ((x212 - x214) ≤ x_high))) W210 (fun hb216 P217 hP218 => ?_) (fun hb216 => ⟨and_f hb216, W210⟩) (fun H219 W220 => ?_)
            · refine i_var rfl ?_
              refine i_I0 ?_
              exact hP218 _ _ (and_t hb216) W210
            refine i_bl ?_
            rcases iteE hm with ⟨hb221, hm⟩ | ⟨hb221, hm⟩
            · refine i_bT hb221 ?_
              refine i_var rfl ?_
              obtain rfl := some_inj hm
              refine w_elt W220 Kn.int ha209 (fun H222 W223 => ?_)
              exact ⟨(), Wd.drop W223 1 rfl⟩
            · refine i_bF hb221 ?_
              obtain rfl := some_inj hm
              have hn := Wd.drop W220 1 rfl
              exact ⟨(), by rw [show (none : Option Int).toList = [] from rfl, List.append_nil]; exact hn⟩
          have W229 := Wd.frz W226
          refine i_c ?_
          replace hm := bndE hm
          obtain ⟨x230, h231, hm⟩ := hm
          refine w_ixI W229 (Lx.ls (Lx.kn (Kn.at 0 rfl))) h231 ?_
          refine i_tnil ?_
          replace hm := bndE hm
          obtain ⟨x232, h233, hm⟩ := hm
          refine w_app W229 0 rfl Kn.int h233 (fun H234 W235 => ?_)
          dsimp only [List.set] at W235
          clear W202 W226 W229
          have W236 := Wd.sel W235 [3] rfl
          obtain rfl := some_inj hm
          exact ⟨(some (.ref p197), some (.int x162), some (.int x173)), rfl, W236⟩
        · intro e238 H239 W240
          obtain ⟨e238_0, e238_1, e238_2⟩ := e238
          dsimp only at W240 ⊢
          refine i_ret ?_
          refine i_sl ?_
          refine i_var rfl ?_
          refine i_part ?_
          refine i_c ?_
          refine i_partI ?_
          refine i_nopart ?_
          refine w_slice W240 (Lx.ls (Lx.own 0 rfl)) (fun p242 H243 W244 => ?_)
          have W245 := Wd.frz W244
          exact hq _ (some_inj hm) _ _ (Wd.res (x := ((some (sliceI o165 (some 1) none)) : (Option (List Int)))) W245 (Kn.some (Kn.at 0 rfl)))
end
/-! ### least_spread -/
abbrev sp_least_spread (K : PySem.W.Frag) : Sp := fun vs H Q _ => ∃ (x_row : (List Int)) (v_row : V) (x_many : Int),  vs = [v_row, .int x_many] ∧ Rp.rep (lkA K H) x_row v_row ∧ ∃ r : (Int × (List Int)), m_least_spread x_row x_many = some r ∧ ∀ v' H', Res K H r v' H' → Q v' H'
section
variable {P : Program} {w : World} {K : PySem.W.Frag} {mg : Str → Option Value} {base : Heap}
abbrev N_least_spread : List Str := ["row", "many", "ahead", "lows", "place", "ends", "spread", "cuts", "low", "end", "there", "cut"]
theorem scope_least_spread : FnScope N_least_spread ["row", "many"] (defScope s_least_spread) := ⟨rfl, rfl, rfl, by decide +kernel, rfl, by decide +kernel, by decide +kernel⟩
-- comprehension scope 0
-- comprehension scope 1
-- comprehension scope 2
-- comprehension scope 3
-- comprehension scope 4
theorem ok_least_spread {f : Addr} {fd : FuncData} (F : FunD K "least_spread" "least_spread" (defArgs s_least_spread) (defBody s_least_spread) (defScope s_least_spread) [] [] f fd) (hm : mg "least_spread" = some (.ref f)) (Z : Blt mg)
    (C_first_within : Fn P w K mg base 1 "first_within" ["ahead", "many", "low", "high"] (sp_first_within K))
    (C_least_ends : Fn P w K mg base 1 "least_ends" ["ahead", "many", "low"] (sp_least_ends K))
    (C_sums_to_places : Fn P w K mg base 1 "sums_to_places" ["row"] (sp_sums_to_places K))
    (C_need_pieces : Fn P w K mg base 1 "need_pieces" ["row", "many"] (sp_need_pieces K)) :
    Fn P w K mg base 2 "least_spread" ["row", "many"] (sp_least_spread K) := by
  refine mkFn F hm (fun _ _ _ _ _ _ us hl => match us, hl with | [_, _], _ => rfl) (okG (k := 1) F scope_least_spread (fun vs H0 Q E h => ?_) (fun cdv A outer s H0 vs Q E hr hgd h => ?_))
  · obtain ⟨_, _, _, rfl, _⟩ := h; rfl
  · have nd := scope_least_spread.nd
    have hu := hr.units
    have hr_first_within : Room 1 _ := hr.mono (by decide : 1 ≤ 1)
    have hr_least_ends : Room 1 _ := hr.mono (by decide : 1 ≤ 1)
    have hr_sums_to_places : Room 1 _ := hr.mono (by decide : 1 ≤ 1)
    have hr_need_pieces : Room 1 _ := hr.mono (by decide : 1 ≤ 1)
    unfold sp_least_spread at h
    refine ⟨_, PSs.nox (pss_cons (ps_expr (pe_fn C_need_pieces hr_need_pieces hgd (by rfl) passL (pa_cons (pv 0) (pa_cons (pv 1) pa_nil))))
    (pss_cons (ps_set (i := 2) nd rfl (.inr rfl) (pe_fn C_sums_to_places hr_sums_to_places hgd (by rfl) passL (pa_cons (pv 0) pa_nil)))
    (pss_cons (ps_set (i := 3) nd rfl (.inl rfl) (pe_lst pa_nil))
    (pss_cons (ps_for PassesOwn.never rfl (pi_range1 (by rfl) Z.range_ (pa_cons (pe_callB cl_len (by rfl) Z.len_ (by decide +kernel) (pa_cons (pv 0) pa_nil)) pa_nil)) (pg_name (i := 4) nd rfl (.inr rfl)) (pss_one (ps_expr (pe_bmK (K := K) PySem.F.plainAttrs_list PySem.F.slot_list_extend PySem.F.type_list_extend mt_extend (pv 3) (pa_cons (pe_lc (own := [("there", 10)]) (g := gName 10) (tt := tYes) (by rfl) nd (pi_range2 (by rfl) Z.range_ (pa_cons (pe_op op_addA (pv 4) pe_int) (pa_cons (pe_op op_addA (pe_callB cl_len (by rfl) Z.len_ (by decide +kernel) (pa_cons (pv 0) pa_nil)) pe_int) pa_nil))) (blkOk_by (own := [("there", 10)]) (N := N_least_spread) (sc := (defScope s_least_spread)) (by decide +kernel)) (fun _ _ _ _ _ => (pg_name (i := 10) nd rfl (.inl rfl))) (fun _ _ _ _ _ => pts_nil) (fun _ _ _ _ _ => (pe_op op_sub (pe_ix (r := rIx K) ix_seq (pv 2) (pv 10) (fun _ _ => rfl)) (pe_ix (r := rIx K) ix_seq (pv 2) (pv 4) (fun _ _ => rfl))))) pa_nil)))))
    (pss_cons (ps_set (i := 3) nd rfl (.inl rfl) (pe_callB (cr_srtSet rfl) (by rfl) Z.sorted_ (by decide +kernel) (pa_cons (pe_callTy (cr_setL rfl) (by rfl) Z.set_ (by decide +kernel) (pa_cons (pv 3) pa_nil)) pa_nil)))
    (pss_cons (ps_setLc (i := 5) (own := [("low", 8)]) (g := gName 8) (tt := tYes) (by rfl) nd rfl rfl (sw_true rfl rfl rfl (by decide +kernel)) (pi_list (pv 3)) (blkOk_by (own := [("low", 8)]) (N := N_least_spread) (sc := (defScope s_least_spread)) (by decide +kernel)) (fun _ _ _ _ _ => (pg_name (i := 8) nd rfl (.inl rfl))) (fun _ _ _ _ _ => pts_nil) (fun _ _ _ _ _ => (pe_ix (r := rIx K) ix_seq (pe_fn C_least_ends hr_least_ends hgd (by rfl) passL (pa_cons (pv 2) (pa_cons (pv 1) (pa_cons (pv 8) pa_nil)))) pe_int (fun _ _ => rfl))))
    (pss_cons (ps_set (i := 6) nd rfl (.inr rfl) (pe_callB (cr_minA rfl hu) (by rfl) Z.min_ (by decide +kernel) (pa_cons (pe_lc (own := [("low", 8), ("end", 9)]) (g := gTup K 2 (gCons (gName 8) (gCons (gName 9) (gNil)))) (by rfl) nd (pi_zip (by rfl) Z.zip_ (pa_cons (pv 3) (pa_cons (pv 5) pa_nil))) (blkOk_by (own := [("low", 8), ("end", 9)]) (N := N_least_spread) (sc := (defScope s_least_spread)) (by decide +kernel)) (fun _ _ _ _ _ => (pg_tup (by rfl) (pgs_cons (pg_name (i := 8) nd rfl (.inl rfl)) (pgs_cons (pg_name (i := 9) nd rfl (.inl rfl)) pgs_nil)))) (fun _ _ _ _ _ => pts_one (pt_cmpR op_notNn (pv 9) pe_non (nomark _))) (fun _ _ _ _ _ => (pe_op op_sub (pv 9) (pv 8)))) pa_nil)))
    (pss_cons (ps_setLc (i := 7) (own := [("low", 8)]) (g := gName 8) (tt := tYes) (by rfl) nd rfl rfl (sw_true rfl rfl rfl (by decide +kernel)) (pi_list (pv 3)) (blkOk_by (own := [("low", 8)]) (N := N_least_spread) (sc := (defScope s_least_spread)) (by decide +kernel)) (fun _ _ _ _ _ => (pg_name (i := 8) nd rfl (.inl rfl))) (fun _ _ _ _ _ => pts_nil) (fun _ _ _ _ _ => (pe_fn C_first_within hr_first_within hgd (by rfl) passL (pa_cons (pv 2) (pa_cons (pv 1) (pa_cons (pv 8) (pa_cons (pe_op op_addA (pv 8) (pv 6)) pa_nil)))))))
    (pss_one (ps_ret (pe_tup (pa_cons (pv 6) (pa_cons (pe_callB (cr_minA rfl hu) (by rfl) Z.min_ (by decide +kernel) (pa_cons (pe_lc (own := [("cut", 11)]) (g := gName 11) (by rfl) nd (pi_list (pv 7)) (blkOk_by (own := [("cut", 11)]) (N := N_least_spread) (sc := (defScope s_least_spread)) (by decide +kernel)) (fun _ _ _ _ _ => (pg_name (i := 11) nd rfl (.inl rfl))) (fun _ _ _ _ _ => pts_one (pt_cmpR op_notNn (pv 11) pe_non (nomark _))) (fun _ _ _ _ _ => (pv 11))) pa_nil)) pa_nil))))))))))))), ?_⟩
    (try dsimp only [cxOf])
    obtain ⟨x_row, v_row, x_many, rfl, h_row, r0, hm, q⟩ := h
    let G_ : (Int × (List Int)) → Prop := fun r => ∀ v' H', Res K H0 r v' H' → Q v' H'
    have hq : ∀ r, r = r0 → G_ r := fun r e => by subst e; exact q
    clear q
    unfold m_least_spread at hm
    have W0 := Wd.start (K := K) H0
    have W1 := Wd.arg W0 h_row
    obtain ⟨a2, rfl⟩ := Wd.eqL W1 (Kn.at 0 rfl)
    refine i_seq ?_
    refine i_drop ?_
    refine i_call ?_
    refine i_tcons ?_
    refine i_var rfl ?_
    refine i_tcons ?_
    refine i_var rfl ?_
    refine i_tnil ?_
    replace hm := bndE hm
    obtain ⟨r3, h4, hm⟩ := hm
    refine ⟨(x_row : (List Int)), _, x_many, rfl, (Wd.arr W1 (Ar.kn (t := false) (Kn.at 0 rfl))), r3, h4, fun v5 H6 R7 => ?_⟩
    obtain ⟨rfl, W8⟩ := Wd.callU W1 R7
    clear W0 W1
    refine i_seq ?_
    refine i_asg ?_
    refine i_call ?_
    refine i_tcons ?_
    refine i_var rfl ?_
    refine i_tnil ?_
    replace hm := bndE hm
    obtain ⟨r9, h10, hm⟩ := hm
    refine ⟨(x_row : (List Int)), _, rfl, (Wd.arr W8 (Ar.kn (t := false) (Kn.at 0 rfl))), r9, h10, fun v11 H12 R13 => ?_⟩
    have W14 := Wd.call W8 R13
    obtain ⟨a15, rfl⟩ := Wd.eqL W14 (Kn.at 0 rfl)
    refine i_gName ?_
    clear W8
    refine i_seq ?_
    refine i_asg ?_
    refine i_tlst ?_
    refine i_tnil ?_
    refine w_lst (α := Int) (t := true) W14 KnL.nil (by show (0 : Nat) ≤ sizeLine; decide) (fun p16 H17 W18 => ?_)
    refine i_gName ?_
    clear W14
    refine i_seq ?_
    refine i_for ?_
    refine i_iRng1 ?_
    refine i_tcons ?_
    refine i_cb ?_
    refine i_tcons ?_
    refine i_var rfl ?_
    refine i_tnil ?_
    refine w_len W18 (Lx.ls (Lx.flat (t := true) (Lx.kn (Kn.at 1 rfl)))) ?_
    refine i_tnil ?_
    replace hm := bndE hm
    obtain ⟨x20, h21, hm⟩ := hm
    refine w_rg1 h21 (fun e19 => ?_)
    subst e19
    have W22 := Wd.sel W18 [0, 1] rfl
    replace hm := bndE hm
    obtain ⟨o28, h29, hm⟩ := hm
    refine w_fold (⟨fun b e => [some (.ref a2), some (.int x_many), some (.ref a15), some (.ref p16), e, none, none, none, none, none, none, none], fun b e => [fc true (r9 : (List Int)) (.ref a15), fc false (x_row : (List Int)) (.ref a2)], fun b e => [oL true p16 (b : List Int)]⟩ : Shp ((List Int)) (Option V)) none h29 rfl W22 gv_rng ?_ ?_
    · intro x25 v26 b23 e24_0 H30 o31 W27 hm
      dsimp only at W27 ⊢
      obtain rfl := Wd.eqI W27 (Kn.at 0 rfl)
      refine i_gName ?_
      refine i_drop ?_
      refine i_bm ?_
      refine i_var rfl ?_
      refine w_mt W27 (Lx.ls (Lx.own 0 rfl)) ?_
      refine i_tcons ?_
      refine i_lc ?_
      refine i_iRng2 ?_
      refine i_tcons ?_
      refine i_op ?_
      refine i_var rfl ?_
      refine i_c ?_
      refine i_addI ?_
      refine i_tcons ?_
      refine i_op ?_
      refine i_cb ?_
      refine i_tcons ?_
      refine i_var rfl ?_
      refine i_tnil ?_
      refine w_len W27 (Lx.ls (Lx.flat (t := true) (Lx.kn (Kn.at 2 rfl)))) ?_
      refine i_c ?_
      refine i_addI ?_
      refine i_tnil ?_
      replace hm := bndE hm
      obtain ⟨x37, h38, hm⟩ := hm
      refine w_rg2 h38 (fun e36 => ?_)
      subst e36
      replace hm := bndE hm
      obtain ⟨x57, h58, hm⟩ := hm
      refine w_map (γ := Int) true h58 W27 (fun _ => gv_rng) (fun D41 x39 v40 acc42 H43 y44 ha45 W46 hm => ?_) (fun p54 H55 W56 => ?_)
      · obtain rfl := Wd.eqI W46 (Kn.at 0 rfl)
        refine i_gName ?_
        refine i_wipe rfl ?_
        refine i_yes ?_
        refine i_T ?_
        refine i_op ?_
        refine i_op ?_
        refine i_var rfl ?_
        refine i_var rfl ?_
        replace hm := bndE hm
        obtain ⟨x48, h49, hm⟩ := hm
        refine w_ixI W46 (Lx.ls (Lx.kn (Kn.at 2 rfl))) h49 ?_
        refine i_op ?_
        refine i_var rfl ?_
        refine i_var rfl ?_
        replace hm := bndE hm
        obtain ⟨x50, h51, hm⟩ := hm
        refine w_ixI W46 (Lx.ls (Lx.kn (Kn.at 2 rfl))) h51 ?_
        refine i_I0 ?_
        obtain rfl := some_inj hm
        refine w_elt W46 Kn.int ha45 (fun H52 W53 => ?_)
        exact ⟨(), Wd.drop W53 1 rfl⟩
      have W59 := Wd.frz W56
      refine i_tnil ?_
      replace hm := bndE hm
      obtain ⟨x60, h61, hm⟩ := hm
      refine w_ext W59 0 rfl (Lx.kn (Kn.at 0 rfl)) h61 (fun H62 W63 => ?_)
      dsimp only [List.set] at W63
      clear W27 W56 W59
      have W64 := Wd.sel W63 [2, 3] rfl
      obtain rfl := some_inj hm
      exact ⟨some (.int x25), rfl, W64⟩
    · intro e66_0 H67 W68
      dsimp only at W68 ⊢
      refine i_seq ?_
      refine i_asg ?_
      refine i_cb ?_
      refine i_tcons ?_
      refine i_cb ?_
      refine i_tcons ?_
      refine i_var rfl ?_
      refine i_tnil ?_
      replace hm := bndE hm
      obtain ⟨x70, h71, hm⟩ := hm
      refine w_sset W68 (Lx.ls (Lx.own 0 rfl)) h71 (fun p75 H76 W77 => ?_)
      refine i_gName ?_
      clear W68
      refine i_seq ?_
      refine i_asg ?_
      refine i_lc ?_
      refine i_iList ?_
      refine i_var rfl ?_
      refine w_itL W77 (Lx.ls (Lx.own 0 rfl)) ?_
      replace hm := bndE hm
      obtain ⟨x104, h105, hm⟩ := hm
      refine w_map (γ := (Option Int)) true h105 W77 (fun _ => (gv_list (fun _ _ => (Lx.ls (Lx.own 1 rfl))))) (fun D80 x78 v79 acc81 H82 y83 ha84 W85 hm => ?_) (fun p101 H102 W103 => ?_)
      · obtain rfl := Wd.eqI W85 (Kn.at 0 rfl)
        refine i_gName ?_
        refine i_wipe rfl ?_
        refine i_yes ?_
        refine i_T ?_
        refine i_op ?_
        refine i_call ?_
        refine i_tcons ?_
        refine i_var rfl ?_
        refine i_tcons ?_
        refine i_var rfl ?_
        refine i_tcons ?_
        refine i_var rfl ?_
        refine i_tnil ?_
        replace hm := bndE hm
        obtain ⟨r87, h88, hm⟩ := hm
        refine ⟨(r9 : (List Int)), _, x_many, x78, rfl, (Wd.arr W85 (Ar.kn (t := true) (Kn.at 1 rfl))), r87, h88, fun v89 H90 R91 => ?_⟩
        obtain ⟨p93, rfl, W92⟩ := Wd.callO W85 R91
        have W94 := Wd.frz W92
        refine i_c ?_
        replace hm := bndE hm
        obtain ⟨x95, h96, hm⟩ := hm
        refine w_ix W94 (Lx.ls (Lx.kn (Kn.at 0 rfl))) h96 (fun u97 W98 => ?_)
        obtain rfl := some_inj hm
        refine w_elt W98 (Kn.at 0 rfl) ha84 (fun H99 W100 => ?_)
        exact ⟨(), Wd.drop W100 3 rfl⟩
      have W106 := Wd.frz W103
      refine i_gName ?_
      clear W77 W103
      refine i_seq ?_
      refine i_asg ?_
      refine i_cb ?_
      refine i_tcons ?_
      refine i_lc ?_
      refine i_iZip ?_
      refine i_tcons ?_
      refine i_var rfl ?_
      refine i_tcons ?_
      refine i_var rfl ?_
      refine i_tnil ?_
      refine w_zpH W106 (Lx.ls (Lx.own 0 rfl)) (Lx.ls (Lx.kn (Kn.at 0 rfl))) ?_
      replace hm := bndE hm
      obtain ⟨x129, h130, hm⟩ := hm
      refine w_cmp (γ := Int) true h130 W106 (fun _ => (gv_zip (fun _ _ => (Lx.ls (Lx.own 1 rfl))) (fun _ _ => (Lx.ls (Lx.kn (Kn.at 0 rfl)))))) (fun D109 x107 v108 acc110 H111 y112 ha113 W114 hm => ?_) (fun p126 H127 W128 => ?_)
      · obtain ⟨a116, rfl⟩ := Wd.eqP W114 (Kn.at 0 rfl)
        refine i_gTup ?_
        refine w_unpP W114 (Kn.at 0 rfl) (fun u117 u118 W119 => ?_)
        obtain rfl := Wd.eqI W119 (Kn.at 0 rfl)
        refine i_gCons ?_
        refine i_gName ?_
        refine i_gCons ?_
        refine i_gName ?_
        refine i_gNil ?_
        refine i_wipe rfl ?_
        refine i_test ?_
        refine i_op ?_
        refine i_var rfl ?_
        refine i_c ?_
        refine w_notN W119 (Kn.at 1 rfl) ?_
        refine i_bl ?_
        rcases iteE hm with ⟨hb120, hm⟩ | ⟨hb120, hm⟩
        · refine i_bT hb120 ?_
          refine i_op ?_
          refine i_var rfl ?_
          replace hm := bndE hm
          obtain ⟨x121, h122, hm⟩ := hm
          have W123 := Wd.unopt (t := true) W119 (Kn.at 1 rfl) h122
          obtain rfl := Wd.eqI W123 (Kn.at 0 rfl)
          refine i_var rfl ?_
          refine i_I0 ?_
          obtain rfl := some_inj hm
          refine w_elt W123 Kn.int ha113 (fun H124 W125 => ?_)
          exact ⟨(), Wd.drop W125 4 rfl⟩
        · refine i_bF hb120 ?_
          obtain rfl := some_inj hm
          have hn := Wd.drop W119 3 rfl
          exact ⟨(), by rw [show (none : Option Int).toList = [] from rfl, List.append_nil]; exact hn⟩
      have W131 := Wd.frz W128
      refine i_tnil ?_
      replace hm := bndE hm
      obtain ⟨x132, h133, hm⟩ := hm
      refine .inl (w_min W131 (Lx.ls (Lx.kn (Kn.at 0 rfl))) h133 ?_)
      refine i_gName ?_
      clear W106 W128
      refine i_seq ?_
      refine i_asg ?_
      refine i_lc ?_
      refine i_iList ?_
      refine i_var rfl ?_
      refine w_itL W131 (Lx.ls (Lx.own 0 rfl)) ?_
      replace hm := bndE hm
      obtain ⟨x154, h155, hm⟩ := hm
      refine w_map (γ := (Option (List Int))) true h155 W131 (fun _ => (gv_list (fun _ _ => (Lx.ls (Lx.own 1 rfl))))) (fun D136 x134 v135 acc137 H138 y139 ha140 W141 hm => ?_) (fun p151 H152 W153 => ?_)
      · obtain rfl := Wd.eqI W141 (Kn.at 0 rfl)
        refine i_gName ?_
        refine i_wipe rfl ?_
        refine i_yes ?_
        refine i_T ?_
        refine i_call ?_
        refine i_tcons ?_
        refine i_var rfl ?_
        refine i_tcons ?_
        refine i_var rfl ?_
        refine i_tcons ?_
        refine i_var rfl ?_
        refine i_tcons ?_
        refine i_op ?_
        refine i_var rfl ?_
        refine i_var rfl ?_
        refine i_addI ?_
        refine i_tnil ?_
        replace hm := bndE hm
        obtain ⟨r143, h144, hm⟩ := hm
        refine ⟨(r9 : (List Int)), _, x_many, x134, (x134 + x132), rfl, (Wd.arr W141 (Ar.kn (t := true) (Kn.at 3 rfl))), r143, h144, fun v145 H146 R147 => ?_⟩
        have W148 := Wd.call W141 R147
        obtain rfl := some_inj hm
        refine w_elt W148 (Kn.at 0 rfl) ha140 (fun H149 W150 => ?_)
        exact ⟨(), Wd.drop W150 2 rfl⟩
      have W156 := Wd.frz W153
      refine i_gName ?_
      clear W131 W153
      refine i_ret ?_
      refine i_ttup ?_
      refine i_tcons ?_
      refine i_var rfl ?_
      refine i_tcons ?_
      refine i_cb ?_
      refine i_tcons ?_
      refine i_lc ?_
      refine i_iList ?_
      refine i_var rfl ?_
      refine w_itL W156 (Lx.ls (Lx.kn (Kn.at 0 rfl))) ?_
      replace hm := bndE hm
      obtain ⟨x176, h177, hm⟩ := hm
      refine w_cmp (γ := (List Int)) true h177 W156 (fun _ => (gv_list (fun _ _ => (Lx.ls (Lx.kn (Kn.at 0 rfl)))))) (fun D159 x157 v158 acc160 H161 y162 ha163 W164 hm => ?_) (fun p173 H174 W175 => ?_)
      · refine i_gName ?_
        refine i_wipe rfl ?_
        refine i_test ?_
        refine i_op ?_
        refine i_var rfl ?_
        refine i_c ?_
        refine w_notN W164 (Kn.at 0 rfl) ?_
        refine i_bl ?_
        rcases iteE hm with ⟨hb166, hm⟩ | ⟨hb166, hm⟩
        · refine i_bT hb166 ?_
          refine i_var rfl ?_
          replace hm := bndE hm
          obtain ⟨x167, h168, hm⟩ := hm
          have W169 := Wd.unopt (t := true) W164 (Kn.at 0 rfl) h168
          obtain ⟨a170, rfl⟩ := Wd.eqL W169 (Kn.at 0 rfl)
          obtain rfl := some_inj hm
          refine w_elt W169 (Kn.at 0 rfl) ha163 (fun H171 W172 => ?_)
          exact ⟨(), Wd.drop W172 2 rfl⟩
        · refine i_bF hb166 ?_
          obtain rfl := some_inj hm
          have hn := Wd.drop W164 1 rfl
          exact ⟨(), by rw [show (none : Option (List Int)).toList = [] from rfl, List.append_nil]; exact hn⟩
      have W178 := Wd.frz W175
      refine i_tnil ?_
      replace hm := bndE hm
      obtain ⟨x179, h180, hm⟩ := hm
      refine w_minQ W178 (Lx.ls (Lx.kn (Kn.at 0 rfl))) h180 (fun u181 W182 => ?_)
      obtain ⟨a183, rfl⟩ := Wd.eqL W182 (Kn.at 0 rfl)
      refine i_tnil ?_
      refine w_tup2 (t := true) W182 Kn.int (Kn.at 0 rfl) (fun p184 H185 W186 => ?_)
      exact hq _ (some_inj hm) _ _ (Wd.res (x := ((x132, x179) : (Int × (List Int)))) W186 (Kn.at 0 rfl))
end
/-! ### _law_told -/
abbrev sp__law_told (K : PySem.W.Frag) : Sp := fun vs H Q _ => ∃ (x_found : (Int × (List Int))) (v_found : V) (x_due : (Option (Int × (List Int)))) (v_due : V),  vs = [v_found, v_due] ∧ Rp.rep (lkA K H) x_found v_found ∧ Rp.rep (lkA K H) x_due v_due ∧ ∃ r : Bool, m__law_told x_found x_due = some r ∧ ∀ v' H', Res K H r v' H' → Q v' H'
section
variable {P : Program} {w : World} {K : PySem.W.Frag} {mg : Str → Option Value} {base : Heap}
abbrev N__law_told : List Str := ["found", "due", "one"]
theorem scope__law_told : FnScope N__law_told ["found", "due"] (defScope s__law_told) := ⟨rfl, rfl, rfl, by decide +kernel, rfl, by decide +kernel, by decide +kernel⟩
-- comprehension scope 0
theorem ok__law_told {f : Addr} {fd : FuncData} (F : FunD K "_law_told" "_law_told" (defArgs s__law_told) (defBody s__law_told) (defScope s__law_told) [] [] f fd) (hm : mg "_law_told" = some (.ref f)) (Z : Blt mg) :
    Fn P w K mg base 1 "_law_told" ["found", "due"] (sp__law_told K) := by
  refine mkFn F hm (fun _ _ _ _ _ _ us hl => match us, hl with | [_, _], _ => rfl) (okG (k := 0) F scope__law_told (fun vs H0 Q E h => ?_) (fun cdv A outer s H0 vs Q E hr hgd h => ?_))
  · obtain ⟨_, _, _, _, rfl, _⟩ := h; rfl
  · have nd := scope__law_told.nd
    have hu := hr.units
    unfold sp__law_told at h
    refine ⟨_, PSs.nox (pss_cons (ps_if (PW.pt (pw_or (pt_not (pt_val (pe_callB call_isi (by rfl) Z.isinstance_ (by decide +kernel) (pa_cons (pv 0) (pa_cons (pe_bltn (v := .ty "tuple") (by rfl) Z.tuple_ (by decide +kernel) rfl) pa_nil))))) (pw_or (pt_cmpR (op_neA hu) (pe_callB cl_len (by rfl) Z.len_ (by decide +kernel) (pa_cons (pv 0) pa_nil)) pe_int (nomark _)) (pw_or1 (pt_not (pt_val (pe_callB call_isi (by rfl) Z.isinstance_ (by decide +kernel) (pa_cons (pe_ix ix_seq (pv 0) pe_int (fun _ _ => rfl)) (pa_cons (pe_bltn (v := .ty "list") (by rfl) Z.list_ (by decide +kernel) rfl) pa_nil))))))))) (pss_one (ps_ret pe_bl)) pss_nil)
    (pss_cons (ps_if (pt_cmpR (op_neA hu) (pe_lc (own := [("one", 2)]) (g := gName 2) (by rfl) nd (pi_list (pe_op op_addA (pe_lst (pa_cons (pe_ix ix_seq (pv 0) pe_int (fun _ _ => rfl)) pa_nil)) (pe_ix ix_seq (pv 0) pe_int (fun _ _ => rfl)))) (blkOk_by (own := [("one", 2)]) (N := N__law_told) (sc := (defScope s__law_told)) (by decide +kernel)) (fun _ _ _ _ _ => (pg_name (i := 2) nd rfl (.inl rfl))) (fun _ _ _ _ _ => pts_one (PW.pt (pw_or (pt_not (pt_val (pe_callB (r := rIsi K) call_isi (by rfl) Z.isinstance_ (by decide +kernel) (pa_cons (pv 2) (pa_cons (pe_bltn (v := .ty "int") (by rfl) Z.int_ (by decide +kernel) rfl) pa_nil))))) (pw_or1 (pt_val (pe_callB (r := rIsi K) call_isi (by rfl) Z.isinstance_ (by decide +kernel) (pa_cons (pv 2) (pa_cons (pe_bltn (v := .ty "bool") (by rfl) Z.bool_ (by decide +kernel) rfl) pa_nil)))))))) (fun _ _ _ _ _ => (pv 2))) (pe_lst pa_nil) (nomark _)) (pss_one (ps_ret pe_bl)) pss_nil)
    (pss_one (ps_ret (pe_cmpR (op_eqA hu) (pv 0) (pv 1) (nomark _)))))), ?_⟩
    (try dsimp only [cxOf])
    obtain ⟨x_found, v_found, x_due, v_due, rfl, h_found, h_due, r0, hm, q⟩ := h
    let G_ : Bool → Prop := fun r => ∀ v' H', Res K H0 r v' H' → Q v' H'
    have hq : ∀ r, r = r0 → G_ r := fun r e => by subst e; exact q
    clear q
    unfold m__law_told at hm
    have W0 := Wd.start (K := K) H0
    have W1 := Wd.arg W0 h_found
    obtain ⟨a2, rfl⟩ := Wd.eqP W1 (Kn.at 0 rfl)
    have W3 := Wd.arg W1 h_due
    refine i_seq ?_
    refine i_ifS ?_
    refine i_or ?_
    refine i_not ?_
    refine i_tB ?_
    refine i_cb ?_
    refine i_tcons ?_
    refine i_var rfl ?_
    refine i_tcons ?_
    refine i_c ?_
    refine i_tnil ?_
    refine w_isi W3 (Ar.kn (t := false) (Kn.at 1 rfl)) (by simp) ?_
    refine i_bl ?_
    refine w_orW (L' := _) ((!(isiO (x_found : (Int × (List Int))) "tuple")) || ((!decide ((2 : Int) = 2)) || (!(isiO (x_found.2 : (List Int)) "list")))) W3 (fun hb4 P5 hP6 => ?_) (fun hb4 => ⟨or_t hb4, W3⟩) (fun H16 W17 => ?_)
    · refine i_or ?_
      refine i_test ?_
      refine i_op ?_
      refine i_cb ?_
      refine i_tcons ?_
      refine i_var rfl ?_
      refine i_tnil ?_
      refine w_lenT2 (x := (x_found).1) (y := (x_found).2) W3 (Kn.at 1 rfl) ?_
      refine i_c ?_
      refine i_neI ?_
      refine i_bl ?_
      refine w_orW (L' := _) ((!decide ((2 : Int) = 2)) || (!(isiO (x_found.2 : (List Int)) "list"))) W3 (fun hb7 P8 hP9 => ?_) (fun hb7 => ⟨or_t hb7, W3⟩) (fun H14 W15 => ?_)
      · refine i_not ?_
        refine i_tB ?_
        refine i_cb ?_
        refine i_tcons ?_
        refine i_op ?_
        refine i_var rfl ?_
        refine i_c ?_
        refine w_sndP W3 (Kn.at 1 rfl) (fun u10 W11 => ?_)
        obtain ⟨a12, rfl⟩ := Wd.eqL W11 (Kn.at 0 rfl)
        refine i_tcons ?_
        refine i_c ?_
        refine i_tnil ?_
        refine w_isi W11 (Ar.kn (t := false) (Kn.at 0 rfl)) (by simp) ?_
        refine i_bl ?_
        have W13 := Wd.drop W11 1 rfl
        exact hP9 _ _ (or_f hb7) W13
      exact hP6 _ _ (or_f hb4) W15
    clear W0 W1 W3
    rcases iteE hm with ⟨hb18, hm⟩ | ⟨hb18, hm⟩
    · refine i_bT hb18 ?_
      refine i_ret ?_
      refine i_c ?_
      exact hq _ (some_inj hm) _ _ (Wd.res (x := (false : Bool)) W17 Kn.bl)
    · refine i_bF hb18 ?_
      refine i_next ?_
      refine i_seq ?_
      refine i_ifS ?_
      refine i_test ?_
      refine i_op ?_
      refine i_lc ?_
      refine i_iList ?_
      refine i_op ?_
      refine i_tlst ?_
      refine i_tcons ?_
      refine i_op ?_
      refine i_var rfl ?_
      refine i_c ?_
      refine w_fstP W17 (Kn.at 1 rfl) (fun u19 W20 => ?_)
      obtain rfl := Wd.eqI W20 (Kn.at 0 rfl)
      refine i_tnil ?_
      refine w_lst (α := Int) (t := true) W20 (KnL.cons Kn.int KnL.nil) (by show (1 : Nat) ≤ sizeLine; decide) (fun p21 H22 W23 => ?_)
      have W24 := Wd.frz W23
      refine i_op ?_
      refine i_var rfl ?_
      refine i_c ?_
      refine w_sndP W24 (Kn.at 3 rfl) (fun u25 W26 => ?_)
      obtain ⟨a27, rfl⟩ := Wd.eqL W26 (Kn.at 0 rfl)
      replace hm := bndE hm
      obtain ⟨x28, h29, hm⟩ := hm
      refine w_cat W26 (Lx.kn (Kn.at 1 rfl)) (Lx.flat (t := true) (Lx.kn (Kn.at 0 rfl))) h29 (fun p30 H31 W32 => ?_)
      have W33 := Wd.frz W32
      refine w_itL W33 (Lx.ls (Lx.kn (Kn.at 0 rfl))) ?_
      replace hm := bndE hm
      obtain ⟨x54, h55, hm⟩ := hm
      refine w_cmp (γ := Int) true h55 W33 (fun _ => (gv_list (fun _ _ => (Lx.ls (Lx.kn (Kn.at 0 rfl)))))) (fun D36 x34 v35 acc37 H38 y39 ha40 W41 hm => ?_) (fun p51 H52 W53 => ?_)
      · obtain rfl := Wd.eqI W41 (Kn.at 0 rfl)
        refine i_gName ?_
        refine i_wipe rfl ?_
        refine i_or ?_
        refine i_not ?_
        refine i_tB ?_
        refine i_cb ?_
        refine i_tcons ?_
        refine i_var rfl ?_
        refine i_tcons ?_
        refine i_c ?_
        refine i_tnil ?_
        refine w_isi W41 (Ar.kn (t := true) Kn.int) (by simp) ?_
        refine i_bl ?_
        refine w_orW (L' := _) ((!(isiO (x34 : Int) "int")) || (isiO (x34 : Int) "bool")) W41 (fun hb43 P44 hP45 => ?_) (fun hb43 => ⟨or_t hb43, W41⟩) (fun H46 W47 => ?_)
        · refine i_tB ?_
          refine i_cb ?_
          refine i_tcons ?_
          refine i_var rfl ?_
          refine i_tcons ?_
          refine i_c ?_
          refine i_tnil ?_
          refine w_isi W41 (Ar.kn (t := true) Kn.int) (by simp) ?_
          refine i_bl ?_
          exact hP45 _ _ (or_f hb43) W41
        rcases iteE hm with ⟨hb48, hm⟩ | ⟨hb48, hm⟩
        · refine i_bT hb48 ?_
          refine i_var rfl ?_
          obtain rfl := some_inj hm
          refine w_elt W47 Kn.int ha40 (fun H49 W50 => ?_)
          exact ⟨(), Wd.drop W50 1 rfl⟩
        · refine i_bF hb48 ?_
          obtain rfl := some_inj hm
          have hn := Wd.drop W47 1 rfl
          exact ⟨(), by rw [show (none : Option Int).toList = [] from rfl, List.append_nil]; exact hn⟩
      have W56 := Wd.frz W53
      refine i_tlst ?_
      refine i_tnil ?_
      refine w_lst (α := Int) (t := true) W56 KnL.nil (by show (0 : Nat) ≤ sizeLine; decide) (fun p57 H58 W59 => ?_)
      have W60 := Wd.frz W59
      replace hm := bndE hm
      obtain ⟨x61, h62, hm⟩ := hm
      refine w_ne W60 (Ar.kn (t := true) (Kn.at 1 rfl)) (Ar.kn (t := true) (Kn.at 0 rfl)) h62 ?_
      refine i_bl ?_
      clear W17 W20 W23 W24 W26 W32 W33 W53 W56 W59
      rcases iteE hm with ⟨hb63, hm⟩ | ⟨hb63, hm⟩
      · refine i_bT hb63 ?_
        refine i_ret ?_
        refine i_c ?_
        exact hq _ (some_inj hm) _ _ (Wd.res (x := (false : Bool)) W60 Kn.bl)
      · refine i_bF hb63 ?_
        refine i_next ?_
        refine i_ret ?_
        refine i_op ?_
        refine i_var rfl ?_
        refine i_var rfl ?_
        replace hm := bndE hm
        obtain ⟨x64, h65, hm⟩ := hm
        refine w_eq W60 (Ar.kn (t := false) (Kn.at 7 rfl)) (Ar.kn (t := false) (Kn.at 6 rfl)) h65 ?_
        exact hq _ (some_inj hm) _ _ (Wd.res (x := (x64 : Bool)) W60 Kn.bl)
end
/-! ### _law_right -/
abbrev sp__law_right (K : PySem.W.Frag) : Sp := fun vs H Q _ => ∃ (N0 : Hp) (x_row : (List Int)) (v_row : V) (x_many : Int) (a_held : Addr) (x_held : (List ((Int × (List Int)) × (Int × (List Int))))) (us_held : List V),  vs = [v_row, .int x_many, .ref a_held] ∧ Same N0 (del H a_held) ∧ Rp.rep (lkN N0) x_row v_row ∧ H a_held = some (.lst us_held) ∧ All2 (Rp.rep (lkN N0)) x_held us_held ∧ ∃ r : (Bool × (List ((Int × (List Int)) × (Int × (List Int))))), m__law_right x_row x_many x_held = some r ∧ ∀ v' H', Res1N K N0 H a_held r v' H' → Q v' H'
section
variable {P : Program} {w : World} {K : PySem.W.Frag} {mg : Str → Option Value} {base : Heap}
abbrev N__law_right : List Str := ["row", "many", "held", "due", "handed", "told"]
theorem scope__law_right : FnScope N__law_right ["row", "many", "held"] (defScope s__law_right) := ⟨rfl, rfl, rfl, by decide +kernel, rfl, by decide +kernel, by decide +kernel⟩
theorem ok__law_right {f : Addr} {fd : FuncData} (F : FunD K "_law_right" "_law_right" (defArgs s__law_right) (defBody s__law_right) (defScope s__law_right) [] [] f fd) (hm : mg "_law_right" = some (.ref f)) (Z : Blt mg)
    (C_least_spread : Fn P w K mg base 2 "least_spread" ["row", "many"] (sp_least_spread K))
    (C__law_told : Fn P w K mg base 1 "_law_told" ["found", "due"] (sp__law_told K))
    (C__law_due : Fn P w K mg base 2 "_law_due" ["row", "many"] (sp__law_due K)) :
    Fn P w K mg base 3 "_law_right" ["row", "many", "held"] (sp__law_right K) := by
  refine mkFn F hm (fun _ _ _ _ _ _ us hl => match us, hl with | [_, _, _], _ => rfl) (okG (k := 2) F scope__law_right (fun vs H0 Q E h => ?_) (fun cdv A outer s H0 vs Q E hr hgd h => ?_))
  · obtain ⟨_, _, _, _, _, _, _, rfl, _⟩ := h; rfl
  · have nd := scope__law_right.nd
    have hu := hr.units
    have hr_least_spread : Room 2 _ := hr.mono (by decide : 2 ≤ 2)
    have hr__law_told : Room 1 _ := hr.mono (by decide : 1 ≤ 2)
    have hr__law_due : Room 2 _ := hr.mono (by decide : 2 ≤ 2)
    unfold sp__law_right at h
    refine ⟨_, PSs.nox (pss_cons (ps_set (i := 3) nd rfl (.inl rfl) (pe_fn C__law_due hr__law_due hgd (by rfl) passL (pa_cons (pv 0) (pa_cons (pv 1) pa_nil))))
    (pss_cons (ps_set (i := 4) nd rfl (.inl rfl) (pe_callTy cl_list (by rfl) Z.list_ (by decide +kernel) (pa_cons (pv 0) pa_nil)))
    (pss_cons (ps_set (i := 5) nd rfl (.inl rfl) (pe_fn C_least_spread hr_least_spread hgd (by rfl) passL (pa_cons (pv 4) (pa_cons (pv 1) pa_nil))))
    (pss_cons (ps_if (PW.pt (pw_or (pt_not (pt_val (pe_fn C__law_told hr__law_told hgd (by rfl) passL (pa_cons (pv 5) (pa_cons (pv 3) pa_nil))))) (pw_or1 (pt_cmpR (op_neA hu) (pv 4) (pv 0) (nomark _))))) (pss_one (ps_ret pe_bl)) pss_nil)
    (pss_cons (ps_expr (pe_bmK (K := K) PySem.F.plainAttrs_list PySem.F.slot_list_append PySem.F.type_list_append mt_append (pv 2) (pa_cons (pe_tup (pa_cons (pe_fn C_least_spread hr_least_spread hgd (by rfl) passL (pa_cons (pv 4) (pa_cons (pv 1) pa_nil))) (pa_cons (pe_tup (pa_cons (pe_ix ix_seq (pv 3) pe_int (fun _ _ => rfl)) (pa_cons (pe_callTy cl_list (by rfl) Z.list_ (by decide +kernel) (pa_cons (pe_ix ix_seq (pv 3) pe_int (fun _ _ => rfl)) pa_nil)) pa_nil))) pa_nil))) pa_nil)))
    (pss_cons (ps_expr (pe_bmK (K := K) PySem.F.plainAttrs_list PySem.F.slot_list_append PySem.F.type_list_append mt_append (pe_ix ix_seq (pv 5) pe_int (fun _ _ => rfl)) (pa_cons pe_int pa_nil)))
    (pss_cons (ps_expr (pe_bmK (K := K) PySem.F.plainAttrs_list PySem.F.slot_list_append PySem.F.type_list_append mt_append (pv 4) (pa_cons pe_int pa_nil)))
    (pss_one (ps_ret (pe_cmpR (op_eqA hu) (pe_fn C_least_spread hr_least_spread hgd (by rfl) passL (pa_cons (pv 0) (pa_cons (pv 1) pa_nil))) (pv 3) (nomark _))))))))))), ?_⟩
    (try dsimp only [cxOf])
    obtain ⟨N0, x_row, v_row, x_many, a_held, x_held, us_held, rfl, hN_, h_row, ha_held, hr_held, r0, hm, q⟩ := h
    let G_ : (Bool × (List ((Int × (List Int)) × (Int × (List Int))))) → Prop := fun r => ∀ v' H', Res1N K N0 H0 a_held r v' H' → Q v' H'
    have hq : ∀ r, r = r0 → G_ r := fun r e => by subst e; exact q
    clear q
    unfold m__law_right at hm
    have W0 := Wd.mutN (K := K) hN_ ha_held hr_held
    have W1 := Wd.argN W0 0 rfl h_row
    obtain ⟨a2, rfl⟩ := Wd.eqL W1 (Kn.at 0 rfl)
    refine i_seq ?_
    refine i_asg ?_
    refine i_call ?_
    refine i_tcons ?_
    refine i_var rfl ?_
    refine i_tcons ?_
    refine i_var rfl ?_
    refine i_tnil ?_
    replace hm := bndE hm
    obtain ⟨r3, h4, hm⟩ := hm
    refine ⟨(x_row : (List Int)), _, x_many, rfl, (Wd.arr W1 (Ar.kn (t := true) (Kn.at 0 rfl))), r3, h4, fun v5 H6 R7 => ?_⟩
    have W8 := Wd.call W1 R7
    refine i_gName ?_
    clear W0 W1
    refine i_seq ?_
    refine i_asg ?_
    refine i_cb ?_
    refine i_tcons ?_
    refine i_var rfl ?_
    refine i_tnil ?_
    refine w_list W8 (Lx.ls (Lx.kn (Kn.at 1 rfl))) (fun p9 H10 W11 => ?_)
    refine i_gName ?_
    clear W8
    refine i_seq ?_
    refine i_asg ?_
    refine i_call ?_
    refine i_tcons ?_
    refine i_var rfl ?_
    refine i_tcons ?_
    refine i_var rfl ?_
    refine i_tnil ?_
    replace hm := bndE hm
    obtain ⟨r12, h13, hm⟩ := hm
    refine ⟨(x_row : (List Int)), _, x_many, rfl, (Wd.arr W11 (Ar.lx (Lx.own 0 rfl))), r12, h13, fun v14 H15 R16 => ?_⟩
    obtain ⟨p18, a19, u20, rfl, W17⟩ := Wd.callP W11 R16
    obtain rfl := Wd.eqI W17 (Kn.at 0 rfl)
    refine i_gName ?_
    clear W11
    refine i_seq ?_
    refine i_ifS ?_
    refine i_or ?_
    refine i_not ?_
    refine i_tB ?_
    refine i_call ?_
    refine i_tcons ?_
    refine i_var rfl ?_
    refine i_tcons ?_
    refine i_var rfl ?_
    refine i_tnil ?_
    replace hm := bndE hm
    obtain ⟨r21, h22, hm⟩ := hm
    refine ⟨((r12.1, r12.2) : (Int × (List Int))), _, (r3 : (Option (Int × (List Int)))), _, rfl, (Wd.arr W17 (Ar.pair 0 rfl 1 rfl Kn.int)), (Wd.arr W17 (Ar.kn (t := true) (Kn.at 2 rfl))), r21, h22, fun v23 H24 R25 => ?_⟩
    obtain ⟨rfl, W26⟩ := Wd.callB W17 R25
    refine i_bl ?_
    replace hm := bndE hm
    obtain ⟨x32, h33, hm⟩ := hm
    refine w_orW (L' := [oL true p18 (r12.2 : List Int), oL true p9 (x_row : List Int), oL true a_held (x_held : List ((Int × (List Int)) × (Int × (List Int))))]) x32 W26 (fun hb27 P28 hP29 => ?_) (fun hb27 => ?_) (fun H34 W35 => ?_)
    · have hm : _ = some x32 := (if_neg (by rw [hb27]; exact Bool.false_ne_true)).symm.trans h33
      refine i_test ?_
      refine i_op ?_
      refine i_var rfl ?_
      refine i_var rfl ?_
      replace hm := bndE hm
      obtain ⟨x30, h31, hm⟩ := hm
      refine w_ne W26 (Ar.lx (Lx.own 1 rfl)) (Ar.kn (t := true) (Kn.at 3 rfl)) h31 ?_
      refine i_bl ?_
      have hm := some_inj hm
      exact hP29 _ _ hm W26
    · have hm := some_inj ((if_pos hb27).symm.trans h33)
      exact ⟨hm, W26⟩
    clear W17 W26
    rcases iteE hm with ⟨hb37, hm⟩ | ⟨hb37, hm⟩
    · refine i_bT hb37 ?_
      refine i_ret ?_
      refine i_c ?_
      exact hq _ (some_inj hm) _ _ (Wd.res1N (x := (false : Bool)) W35 4 rfl 2 rfl Kn.bl)
    · refine i_bF hb37 ?_
      refine i_next ?_
      refine i_seq ?_
      refine i_drop ?_
      refine i_bm ?_
      refine i_var rfl ?_
      refine w_mt W35 (Lx.ls (Lx.own 2 rfl)) ?_
      refine i_tcons ?_
      refine i_ttup ?_
      refine i_tcons ?_
      refine i_call ?_
      refine i_tcons ?_
      refine i_var rfl ?_
      refine i_tcons ?_
      refine i_var rfl ?_
      refine i_tnil ?_
      replace hm := bndE hm
      obtain ⟨r38, h39, hm⟩ := hm
      refine ⟨(x_row : (List Int)), _, x_many, rfl, (Wd.arr W35 (Ar.lx (Lx.own 1 rfl))), r38, h39, fun v40 H41 R42 => ?_⟩
      have W43 := Wd.call W35 R42
      obtain ⟨a44, rfl⟩ := Wd.eqP W43 (Kn.at 0 rfl)
      refine i_tcons ?_
      refine i_ttup ?_
      refine i_tcons ?_
      refine i_op ?_
      refine i_var rfl ?_
      replace hm := bndE hm
      obtain ⟨x45, h46, hm⟩ := hm
      have W47 := Wd.unopt (t := true) W43 (Kn.at 3 rfl) h46
      obtain ⟨a48, rfl⟩ := Wd.eqP W47 (Kn.at 0 rfl)
      refine i_c ?_
      refine w_fstP W47 (Kn.at 0 rfl) (fun u49 W50 => ?_)
      obtain rfl := Wd.eqI W50 (Kn.at 0 rfl)
      refine i_tcons ?_
      refine i_cb ?_
      refine i_tcons ?_
      refine i_op ?_
      refine i_var rfl ?_
      refine i_c ?_
      refine w_sndP W50 (Kn.at 1 rfl) (fun u51 W52 => ?_)
      obtain ⟨a53, rfl⟩ := Wd.eqL W52 (Kn.at 0 rfl)
      refine i_tnil ?_
      refine w_list W52 (Lx.ls (Lx.kn (Kn.at 0 rfl))) (fun p54 H55 W56 => ?_)
      have W57 := Wd.frz W56
      refine i_tnil ?_
      refine w_tup2 (t := true) W57 Kn.int (Kn.at 0 rfl) (fun p58 H59 W60 => ?_)
      refine i_tnil ?_
      refine w_tup2 (t := true) W60 (Kn.at 5 rfl) (Kn.at 0 rfl) (fun p61 H62 W63 => ?_)
      refine i_tnil ?_
      replace hm := bndE hm
      obtain ⟨x64, h65, hm⟩ := hm
      refine w_app W63 2 rfl (Kn.at 0 rfl) h65 (fun H66 W67 => ?_)
      dsimp only [List.set] at W67
      clear W35 W43 W47 W50 W52 W56 W57 W60 W63
      refine i_seq ?_
      refine i_drop ?_
      refine i_bm ?_
      refine i_op ?_
      refine i_var rfl ?_
      refine i_c ?_
      refine w_ixR W67 8 rfl (i := 1) rfl ?_
      refine w_mt W67 (Lx.ls (Lx.own 0 rfl)) ?_
      refine i_tcons ?_
      refine i_c ?_
      refine i_tnil ?_
      replace hm := bndE hm
      obtain ⟨x68, h69, hm⟩ := hm
      refine w_app W67 0 rfl Kn.int h69 (fun H70 W71 => ?_)
      dsimp only [List.set] at W71
      clear W67
      refine i_seq ?_
      refine i_drop ?_
      refine i_bm ?_
      refine i_var rfl ?_
      refine w_mt W71 (Lx.ls (Lx.own 1 rfl)) ?_
      refine i_tcons ?_
      refine i_c ?_
      refine i_tnil ?_
      replace hm := bndE hm
      obtain ⟨x72, h73, hm⟩ := hm
      refine w_app W71 1 rfl Kn.int h73 (fun H74 W75 => ?_)
      dsimp only [List.set] at W75
      clear W71
      refine i_ret ?_
      refine i_op ?_
      refine i_call ?_
      refine i_tcons ?_
      refine i_var rfl ?_
      refine i_tcons ?_
      refine i_var rfl ?_
      refine i_tnil ?_
      replace hm := bndE hm
      obtain ⟨r76, h77, hm⟩ := hm
      refine ⟨(x_row : (List Int)), _, x_many, rfl, (Wd.arr W75 (Ar.kn (t := true) (Kn.at 10 rfl))), r76, h77, fun v78 H79 R80 => ?_⟩
      have W81 := Wd.call W75 R80
      obtain ⟨a82, rfl⟩ := Wd.eqP W81 (Kn.at 0 rfl)
      refine i_var rfl ?_
      replace hm := bndE hm
      obtain ⟨x83, h84, hm⟩ := hm
      refine w_eq W81 (Ar.kn (t := true) (Kn.at 0 rfl)) (Ar.kn (t := true) (Kn.at 6 rfl)) h84 ?_
      exact hq _ (some_inj hm) _ _ (Wd.res1N (x := (x83 : Bool)) W81 12 rfl 2 rfl Kn.bl)
end
/-! ### law -/
abbrev sp_law (K : PySem.W.Frag) : Sp := fun vs H Q _ => ∃ (x_script : Scr) (v_script : V),  vs = [v_script] ∧ Rp.rep (lkA K H) x_script v_script ∧ ∃ r : Bool, m_law x_script = some r ∧ ∀ v' H', Res K H r v' H' → Q v' H'
section
variable {P : Program} {w : World} {K : PySem.W.Frag} {mg : Str → Option Value} {base : Heap}
abbrev N_law : List Str := ["script", "held", "k", "cell", "hand", "row", "some", "j", "one", "many"]
theorem scope_law : FnScope N_law ["script"] (defScope s_law) := ⟨rfl, rfl, rfl, by decide +kernel, rfl, by decide +kernel, by decide +kernel⟩
-- comprehension scope 0
-- comprehension scope 1
-- comprehension scope 2
theorem ok_law {f : Addr} {fd : FuncData} (F : FunD K "law" "law" (defArgs s_law) (defBody s_law) (defScope s_law) [] [] f fd) (hm : mg "law" = some (.ref f)) (Z : Blt mg)
    (C__law_cells : Fn P w K mg base 1 "_law_cells" ["script", "many"] (sp__law_cells K))
    (C__law_right : Fn P w K mg base 3 "_law_right" ["row", "many", "held"] (sp__law_right K))
    (C__law_many : Fn P w K mg base 2 "_law_many" ["hand", "row"] (sp__law_many K))
    (C__law_row : Fn P w K mg base 2 "_law_row" ["hand", "many"] (sp__law_row K))
    (C__law_size : Fn P w K mg base 2 "_law_size" ["hand", "k", "most", "far"] (sp__law_size K))
    (C__law_hand : Fn P w K mg base 1 "_law_hand" ["cell", "k"] (sp__law_hand K)) :
    FnG P w K mg base 4 f fd ["script"] (sp_law K) := by
  refine okG (k := 3) F scope_law (fun vs H0 Q E h => ?_) (fun cdv A outer s H0 vs Q E hr hgd h => ?_)
  · obtain ⟨_, _, rfl, _⟩ := h; rfl
  · have nd := scope_law.nd
    have hu := hr.units
    have hr__law_cells : Room 1 _ := hr.mono (by decide : 1 ≤ 3)
    have hr__law_right : Room 3 _ := hr.mono (by decide : 3 ≤ 3)
    have hr__law_many : Room 2 _ := hr.mono (by decide : 2 ≤ 3)
    have hr__law_row : Room 2 _ := hr.mono (by decide : 2 ≤ 3)
    have hr__law_size : Room 2 _ := hr.mono (by decide : 2 ≤ 3)
    have hr__law_hand : Room 1 _ := hr.mono (by decide : 1 ≤ 3)
    unfold sp_law at h
    refine ⟨_, PSs.nox (pss_cons (ps_set (i := 1) nd rfl (.inr rfl) (pe_lst pa_nil))
    (pss_cons (ps_for PassesOwn.never rfl (pi_list (pe_fn C__law_cells hr__law_cells hgd (by rfl) passL (pa_cons (pv 0) (pa_cons pe_int pa_nil)))) (pg_tup (by rfl) (pgs_cons (pg_name (i := 2) nd rfl (.inl rfl)) (pgs_cons (pg_name (i := 3) nd rfl (.inl rfl)) pgs_nil))) (pss_cons (ps_set (i := 4) nd rfl (.inr rfl) (pe_fn C__law_hand hr__law_hand hgd (by rfl) passL (pa_cons (pv 3) (pa_cons (pv 2) pa_nil))))
    (pss_cons (ps_set (i := 5) nd rfl (.inr rfl) (pe_fn C__law_row hr__law_row hgd (by rfl) passL (pa_cons (pv 4) (pa_cons (pe_fn C__law_size hr__law_size hgd (by rfl) passL (pa_cons (pv 4) (pa_cons (pv 2) (pa_cons pe_int (pa_cons pe_int pa_nil))))) pa_nil))))
    (pss_cons (ps_setLc (i := 6) (own := [("j", 7)]) (g := gName 7) (tt := tYes) (by rfl) nd rfl rfl (sw_true rfl rfl rfl (by decide +kernel)) (pi_range1 (by rfl) Z.range_ (pa_cons pe_int pa_nil)) (blkOk_by (own := [("j", 7)]) (N := N_law) (sc := (defScope s_law)) (by decide +kernel)) (fun _ _ _ _ _ => (pg_name (i := 7) nd rfl (.inl rfl))) (fun _ _ _ _ _ => pts_nil) (fun _ _ _ _ _ => (pe_fn C__law_many hr__law_many hgd (by rfl) passL (pa_cons (pv 4) (pa_cons (pv 5) pa_nil)))))
    (C8.pss_cut (ps_if (pt_cmpR (op_ltA hu) (pe_callB cl_len (by rfl) Z.len_ (by decide +kernel) (pa_cons (pv 5) pa_nil)) pe_int (nomark _)) (pss_one (ps_set (i := 6) nd rfl (.inl rfl) (pe_listRg rfl rfl Z.list_ (prg_2 rfl Z.range_ pe_int (pe_op op_addA (pe_callB cl_len (by rfl) Z.len_ (by decide +kernel) (pa_cons (pv 5) pa_nil)) pe_int))))) pss_nil)
    (pss_one (ps_if (pt_cmpR (op_neA hu) (pe_lc (own := [("many", 9)]) (g := gName 9) (by rfl) nd (pi_list (pv 6)) (blkOk_by (own := [("many", 9)]) (N := N_law) (sc := (defScope s_law)) (by decide +kernel)) (fun _ _ _ _ _ => (pg_name (i := 9) nd rfl (.inl rfl))) (fun _ _ _ _ _ => pts_one (pt_not (pt_val (pe_fn C__law_right hr__law_right hgd (by rfl) passL (pa_cons (pv 5) (pa_cons (pv 9) (pa_cons (pv 1) pa_nil))))))) (fun _ _ _ _ _ => (pv 9))) (pe_lst pa_nil) (nomark _)) (pss_one (ps_ret pe_bl)) pss_nil)))))))
    (pss_one (ps_ret (pe_cmpR (op_eqA hu) (pe_lc (own := [("one", 8)]) (g := gName 8) (by rfl) nd (pi_list (pv 1)) (blkOk_by (own := [("one", 8)]) (N := N_law) (sc := (defScope s_law)) (by decide +kernel)) (fun _ _ _ _ _ => (pg_name (i := 8) nd rfl (.inl rfl))) (fun _ _ _ _ _ => pts_one (pt_cmpR (r := rNeA K) (op_neA hu) (pe_ix (r := rIx K) ix_seq (pv 8) pe_int (fun _ _ => rfl)) (pe_ix (r := rIx K) ix_seq (pv 8) pe_int (fun _ _ => rfl)) (nomark _))) (fun _ _ _ _ _ => (pv 8))) (pe_lst pa_nil) (nomark _)))))), ?_⟩
    (try dsimp only [cxOf])
    obtain ⟨x_script, v_script, rfl, h_script, r0, hm, q⟩ := h
    let G_ : Bool → Prop := fun r => ∀ v' H', Res K H0 r v' H' → Q v' H'
    have hq : ∀ r, r = r0 → G_ r := fun r e => by subst e; exact q
    clear q
    unfold m_law at hm
    have W0 := Wd.start (K := K) H0
    have W1 := Wd.arg W0 h_script
    obtain ⟨a2, rfl⟩ := Wd.eqScr W1 (Kn.at 0 rfl)
    refine i_seq ?_
    refine i_asg ?_
    refine i_tlst ?_
    refine i_tnil ?_
    refine w_lst (α := ((Int × (List Int)) × (Int × (List Int)))) (t := true) W1 KnL.nil (by show (0 : Nat) ≤ sizeLine; decide) (fun p3 H4 W5 => ?_)
    refine i_gName ?_
    clear W0 W1
    refine i_seq ?_
    refine i_for ?_
    refine i_iList ?_
    refine i_call ?_
    refine i_tcons ?_
    refine i_var rfl ?_
    refine i_tcons ?_
    refine i_c ?_
    refine i_tnil ?_
    replace hm := bndE hm
    obtain ⟨r6, h7, hm⟩ := hm
    refine ⟨(x_script : Scr), _, 8, rfl, (Wd.arr W5 (Ar.kn (t := false) (Kn.at 0 rfl))), r6, h7, fun v8 H9 R10 => ?_⟩
    have W11 := Wd.call W5 R10
    obtain ⟨a12, rfl⟩ := Wd.eqL W11 (Kn.at 0 rfl)
    refine w_itL W11 (Lx.ls (Lx.kn (Kn.at 0 rfl))) ?_
    clear W5
    have W13 := Wd.sel W11 [0] rfl
    replace hm := bndE hm
    obtain ⟨o19, h20, hm⟩ := hm
    have hqi : ∀ r, o19 = .ret r → G_ r := fun r er => by subst er; exact hq _ (some_inj hm)
    refine w_for (⟨fun b e => [some (.ref a2), some (.ref p3), e.2.2.1, e.1, e.2.1, e.2.2.2.1, e.2.2.2.2, none, none, none], fun b e => [fc true (r6 : (List (Int × Int))) (.ref a12)], fun b e => [oL true p3 (b : List ((Int × (List Int)) × (Int × (List Int))))]⟩ : Shp ((List ((Int × (List Int)) × (Int × (List Int))))) (Option V × Option V × Option V × Option V × Option V)) (none, none, none, none, none) h20 rfl W13 (gv_list (fun _ _ => (Lx.ls (Lx.kn (Kn.at 0 rfl))))) ?_ ?_
    · intro x16 v17 b14 e15 H21 o22 W18 hm hr23
      have hqii : ∀ r, o22 = .ret r → G_ r := fun r er => hqi r (hr23 r er)
      obtain ⟨e15_0, e15_1, e15_2, e15_3, e15_4⟩ := e15
      dsimp only at W18 ⊢
      obtain ⟨a27, rfl⟩ := Wd.eqP W18 (Kn.at 0 rfl)
      refine i_gTup ?_
      refine w_unpP W18 (Kn.at 0 rfl) (fun u28 u29 W30 => ?_)
      obtain rfl := Wd.eqI W30 (Kn.at 0 rfl)
      obtain rfl := Wd.eqI W30 (Kn.at 1 rfl)
      refine i_gCons ?_
      refine i_gName ?_
      refine i_gCons ?_
      refine i_gName ?_
      refine i_gNil ?_
      clear W18
      refine i_seq ?_
      refine i_asg ?_
      refine i_call ?_
      refine i_tcons ?_
      refine i_var rfl ?_
      refine i_tcons ?_
      refine i_var rfl ?_
      refine i_tnil ?_
      replace hm := bndE hm
      obtain ⟨r31, h32, hm⟩ := hm
      refine ⟨x16.2, x16.1, rfl, r31, h32, fun v33 H34 R35 => ?_⟩
      obtain ⟨p37, rfl, W36⟩ := Wd.callO W30 R35
      refine i_gName ?_
      clear W30
      refine i_seq ?_
      refine i_asg ?_
      refine i_call ?_
      refine i_tcons ?_
      refine i_var rfl ?_
      refine i_tcons ?_
      refine i_call ?_
      refine i_tcons ?_
      refine i_var rfl ?_
      refine i_tcons ?_
      refine i_var rfl ?_
      refine i_tcons ?_
      refine i_c ?_
      refine i_tcons ?_
      refine i_c ?_
      refine i_tnil ?_
      replace hm := bndE hm
      obtain ⟨r38, h39, hm⟩ := hm
      obtain ⟨us46, h44, h45⟩ := Wd.ioa W36 0 rfl
      refine ⟨p37, (r31 : List Int), us46, x16.1, 9, 11, rfl, h44, h45, r38, h39, fun v40 H41 R42 => ?_⟩
      obtain ⟨rfl, W43⟩ := Wd.call1I (i := r38.1) (ys' := r38.2) W36 0 rfl R42
      refine i_tnil ?_
      replace hm := bndE hm
      obtain ⟨r47, h48, hm⟩ := hm
      obtain ⟨us55, h53, h54⟩ := Wd.ioa W43 0 rfl
      refine ⟨p37, (r38.2 : List Int), us55, r38.1, rfl, h53, h54, r47, h48, fun v49 H50 R51 => ?_⟩
      have W52 := Wd.call1 (x := r47.1) (ys' := r47.2) W43 0 rfl R51
      obtain ⟨a56, rfl⟩ := Wd.eqL W52 (Kn.at 0 rfl)
      refine i_gName ?_
      clear W36 W43
      refine i_seq ?_
      refine i_asg ?_
      refine i_lc ?_
      refine i_iRng1 ?_
      refine i_tcons ?_
      refine i_c ?_
      refine i_tnil ?_
      replace hm := bndE hm
      obtain ⟨x58, h59, hm⟩ := hm
      refine w_rg1 h59 (fun e57 => ?_)
      subst e57
      replace hm := bndE hm
      obtain ⟨x84, h85, hm⟩ := hm
      refine w_maps (γ := Int) (e0 := ()) (⟨fun b _ => [some (.ref a2), some (.ref p3), some (.int x16.1), some (.int x16.2), some (.ref p37), some (.ref a56), e15_4, none, none, none], fun b _ => [fc true (r47.1 : (List Int)) (.ref a56), fc true (x16.1 : Int) (.int x16.1), fc true (x16.2 : Int) (.int x16.2), fc true (x16 : (Int × Int)) (.ref a27), fc true (r6 : (List (Int × Int))) (.ref a12)], fun b _ => [oL true p37 (b : List Int), oL true p3 (b14 : List ((Int × (List Int)) × (Int × (List Int))))]⟩ : Shp (List Int) Unit) true h85 W52 (fun _ => gv_rng) (fun D62 x60 v61 b69 _ acc63 H64 y65 ha66 W67 hm => ?_) (fun p81 _ H82 W83 => ?_)
      · obtain rfl := Wd.eqI W67 (Kn.at 0 rfl)
        refine i_gName ?_
        refine i_wipe rfl ?_
        refine i_yes ?_
        refine i_T ?_
        refine i_call ?_
        refine i_tcons ?_
        refine i_var rfl ?_
        refine i_tcons ?_
        refine i_var rfl ?_
        refine i_tnil ?_
        replace hm := bndE hm
        obtain ⟨r70, h71, hm⟩ := hm
        obtain ⟨us78, h76, h77⟩ := Wd.ioa W67 1 rfl
        refine ⟨p37, (b69 : List Int), us78, (r47.1 : (List Int)), _, rfl, h76, h77, (Wd.ard W67 (ArD.kn (t := true) 1 rfl (Kn.at 1 rfl))), r70, h71, fun v72 H73 R74 => ?_⟩
        obtain ⟨rfl, W75⟩ := Wd.call1I (i := r70.1) (ys' := r70.2) W67 1 rfl R74
        obtain rfl := some_inj hm
        refine w_elt W75 Kn.int ha66 (fun H79 W80 => ?_)
        exact ⟨(), Wd.drop W80 1 rfl⟩
      have W86 := Wd.frz W83
      refine i_gName ?_
      clear W52 W83
      replace hm := bndE hm
      obtain ⟨s87, h88, hm⟩ := hm
      refine f_cut (NF K H0 (⟨fun b e => [some (.ref a2), some (.ref p3), some (.int x16.1), some (.int x16.2), some (.ref p37), some (.ref a56), some e, none, none, none], fun b e => [fc true (b : (List Int)) e, fc true (r6 : (List (Int × Int))) (.ref a12), fc true (r47.1 : (List Int)) (.ref a56)], fun b e => [oL true p3 (b14 : List ((Int × (List Int)) × (Int × (List Int))))]⟩ : Shp ((List Int)) (V)) s87 ) ?_ ?_
      · have hm := h88
        refine i_ifS ?_
        refine i_test ?_
        refine i_op ?_
        refine i_cb ?_
        refine i_tcons ?_
        refine i_var rfl ?_
        refine i_tnil ?_
        refine w_len W86 (Lx.ls (Lx.kn (Kn.at 1 rfl))) ?_
        refine i_c ?_
        refine i_ltA ?_
        refine i_bl ?_
        rcases iteE hm with ⟨hb89, hm⟩ | ⟨hb89, hm⟩
        · refine i_bT hb89 ?_
          refine i_asg ?_
          refine i_lrg2 ?_
          refine i_c ?_
          refine i_op ?_
          refine i_cb ?_
          refine i_tcons ?_
          refine i_var rfl ?_
          refine i_tnil ?_
          refine w_len W86 (Lx.ls (Lx.kn (Kn.at 1 rfl))) ?_
          refine i_c ?_
          refine i_addI ?_
          replace hm := bndE hm
          obtain ⟨x90, h91, hm⟩ := hm
          refine ⟨_, _, rfl, rfl, ?_⟩
          refine w_lrg W86 h91 (fun p92 H93 W94 => ?_)
          have W95 := Wd.frz W94
          refine i_gName ?_
          clear W86 W94
          have W96 := Wd.sel W95 [0, 6, 2] rfl
          have W97 := Wd.selO W96 [1] rfl
          obtain rfl := some_inj hm
          exact ⟨(.ref p92), rfl, W97⟩
        · refine i_bF hb89 ?_
          refine i_next ?_
          have W98 := Wd.sel W86 [0, 5, 1] rfl
          have W99 := Wd.selO W98 [1] rfl
          obtain rfl := some_inj hm
          exact ⟨(.ref p81), rfl, W99⟩
      · rintro _ H100 ⟨e102_0, rfl, W101⟩
        dsimp only at W101 ⊢
        obtain ⟨a103, rfl⟩ := Wd.eqL W101 (Kn.at 0 rfl)
        refine i_ifS ?_
        refine i_test ?_
        refine i_op ?_
        refine i_lc ?_
        refine i_iList ?_
        refine i_var rfl ?_
        refine w_itL W101 (Lx.ls (Lx.kn (Kn.at 0 rfl))) ?_
        replace hm := bndE hm
        obtain ⟨x133, h134, hm⟩ := hm
        refine w_cmps (γ := Int) (e0 := ()) (⟨fun b _ => [some (.ref a2), some (.ref p3), some (.int x16.1), some (.int x16.2), some (.ref p37), some (.ref a56), some (.ref a103), none, none, none], fun b _ => [fc true (s87 : (List Int)) (.ref a103), fc true (r6 : (List (Int × Int))) (.ref a12), fc true (r47.1 : (List Int)) (.ref a56)], fun b _ => [oL true p3 (b : List ((Int × (List Int)) × (Int × (List Int))))]⟩ : Shp (List ((Int × (List Int)) × (Int × (List Int)))) Unit) true h134 W101 (fun _ => (gv_list (fun _ _ => (Lx.ls (Lx.kn (Kn.at 0 rfl)))))) (fun D106 x104 v105 b113 _ acc107 H108 y109 ha110 W111 hm => ?_) (fun p130 _ H131 W132 => ?_)
        · obtain rfl := Wd.eqI W111 (Kn.at 0 rfl)
          refine i_gName ?_
          refine i_wipe rfl ?_
          refine i_not ?_
          refine i_tB ?_
          refine i_call ?_
          refine i_tcons ?_
          refine i_var rfl ?_
          refine i_tcons ?_
          refine i_var rfl ?_
          refine i_tcons ?_
          refine i_var rfl ?_
          refine i_tnil ?_
          replace hm := bndE hm
          obtain ⟨r117, h118, hm⟩ := hm
          refine Wd.region W111 fun N114 F115 Wi116 => ?_
          obtain ⟨us119, h120, h121, h122⟩ := WdI.ioN Wi116 1 rfl
          refine ⟨N114, (r47.1 : (List Int)), _, x104, p3, (b113 : List ((Int × (List Int)) × (Int × (List Int)))), us119, rfl, h122, (knN (Kn.at 3 rfl) Wi116), h120, h121, r117, h118, fun v123 H124 R125 => ?_⟩
          obtain ⟨rfl, W126⟩ := WdI.callN1B (i := r117.1) (ys' := r117.2) Wi116 1 rfl R125
          dsimp only [List.set] at W126
          refine i_bl ?_
          rcases iteE hm with ⟨hb127, hm⟩ | ⟨hb127, hm⟩
          · refine i_bT hb127 ?_
            refine i_var rfl ?_
            obtain rfl := some_inj hm
            refine w_elt W126 Kn.int ha110 (fun H128 W129 => ?_)
            exact ⟨(), Wd.drop W129 1 rfl⟩
          · refine i_bF hb127 ?_
            obtain rfl := some_inj hm
            have hn := Wd.drop W126 1 rfl
            exact ⟨(), by rw [show (none : Option Int).toList = [] from rfl, List.append_nil]; exact hn⟩
        have W135 := Wd.frz W132
        refine i_tlst ?_
        refine i_tnil ?_
        refine w_lst (α := Int) (t := true) W135 KnL.nil (by show (0 : Nat) ≤ sizeLine; decide) (fun p136 H137 W138 => ?_)
        have W139 := Wd.frz W138
        replace hm := bndE hm
        obtain ⟨x140, h141, hm⟩ := hm
        refine w_ne W139 (Ar.kn (t := true) (Kn.at 1 rfl)) (Ar.kn (t := true) (Kn.at 0 rfl)) h141 ?_
        refine i_bl ?_
        clear W101 W132 W135 W138
        rcases iteE hm with ⟨hb142, hm⟩ | ⟨hb142, hm⟩
        · refine i_bT hb142 ?_
          refine i_ret ?_
          refine i_c ?_
          exact hqii _ (some_inj hm).symm _ _ (Wd.res (x := (false : Bool)) W139 Kn.bl)
        · refine i_bF hb142 ?_
          refine i_next ?_
          have W143 := Wd.sel W139 [3] rfl
          exact ⟨x133.2, (some (.int x16.2), some (.ref p37), some (.int x16.1), some (.ref a56), some (.ref a103)), (some_inj hm).symm, rfl, W143⟩
    · intro s144 e145 H146 eb148 W147
      subst eb148
      obtain ⟨e145_0, e145_1, e145_2, e145_3, e145_4⟩ := e145
      dsimp only at W147 ⊢
      refine i_ret ?_
      refine i_op ?_
      refine i_lc ?_
      refine i_iList ?_
      refine i_var rfl ?_
      refine w_itL W147 (Lx.ls (Lx.own 0 rfl)) ?_
      replace hm := bndE hm
      obtain ⟨x173, h174, hm⟩ := hm
      refine w_cmp (γ := ((Int × (List Int)) × (Int × (List Int)))) true h174 W147 (fun _ => (gv_list (fun _ _ => (Lx.ls (Lx.own 1 rfl))))) (fun D151 x149 v150 acc152 H153 y154 ha155 W156 hm => ?_) (fun p170 H171 W172 => ?_)
      · obtain ⟨a158, rfl⟩ := Wd.eqP W156 (Kn.at 0 rfl)
        refine i_gName ?_
        refine i_wipe rfl ?_
        refine i_test ?_
        refine i_op ?_
        refine i_op ?_
        refine i_var rfl ?_
        refine i_c ?_
        refine w_fstP W156 (Kn.at 0 rfl) (fun u159 W160 => ?_)
        obtain ⟨a161, rfl⟩ := Wd.eqP W160 (Kn.at 0 rfl)
        refine i_op ?_
        refine i_var rfl ?_
        refine i_c ?_
        refine w_sndP W160 (Kn.at 1 rfl) (fun u162 W163 => ?_)
        obtain ⟨a164, rfl⟩ := Wd.eqP W163 (Kn.at 0 rfl)
        replace hm := bndE hm
        obtain ⟨x165, h166, hm⟩ := hm
        refine w_ne W163 (Ar.kn (t := true) (Kn.at 1 rfl)) (Ar.kn (t := true) (Kn.at 0 rfl)) h166 ?_
        refine i_bl ?_
        rcases iteE hm with ⟨hb167, hm⟩ | ⟨hb167, hm⟩
        · refine i_bT hb167 ?_
          refine i_var rfl ?_
          obtain rfl := some_inj hm
          refine w_elt W163 (Kn.at 2 rfl) ha155 (fun H168 W169 => ?_)
          exact ⟨(), Wd.drop W169 3 rfl⟩
        · refine i_bF hb167 ?_
          obtain rfl := some_inj hm
          have hn := Wd.drop W163 3 rfl
          exact ⟨(), by rw [show (none : Option ((Int × (List Int)) × (Int × (List Int)))).toList = [] from rfl, List.append_nil]; exact hn⟩
      have W175 := Wd.frz W172
      refine i_tlst ?_
      refine i_tnil ?_
      refine w_lst (α := Int) (t := true) W175 KnL.nil (by show (0 : Nat) ≤ sizeLine; decide) (fun p176 H177 W178 => ?_)
      have W179 := Wd.frz W178
      replace hm := bndE hm
      obtain ⟨x180, h181, hm⟩ := hm
      refine w_eq W179 (Ar.kn (t := true) (Kn.at 1 rfl)) (Ar.kn (t := true) (Kn.at 0 rfl)) h181 ?_
      exact hq _ (some_inj hm) _ _ (Wd.res (x := (x180 : Bool)) W179 Kn.bl)
end
def d__law_cells : He.DefD := ⟨("_law_cells", none), "_law_cells", "_law_cells", defArgs s__law_cells, defBody s__law_cells, defScope s__law_cells, [], []⟩
def d__law_hand : He.DefD := ⟨("_law_hand", none), "_law_hand", "_law_hand", defArgs s__law_hand, defBody s__law_hand, defScope s__law_hand, [], []⟩
def d__law_draw : He.DefD := ⟨("_law_draw", none), "_law_draw", "_law_draw", defArgs s__law_draw, defBody s__law_draw, defScope s__law_draw, [], []⟩
def d__law_size : He.DefD := ⟨("_law_size", none), "_law_size", "_law_size", defArgs s__law_size, defBody s__law_size, defScope s__law_size, [], []⟩
def d__law_row : He.DefD := ⟨("_law_row", none), "_law_row", "_law_row", defArgs s__law_row, defBody s__law_row, defScope s__law_row, [], []⟩
def d__law_many : He.DefD := ⟨("_law_many", none), "_law_many", "_law_many", defArgs s__law_many, defBody s__law_many, defScope s__law_many, [], []⟩
def d__law_cuts : He.DefD := ⟨("_law_cuts", none), "_law_cuts", "_law_cuts", defArgs s__law_cuts, defBody s__law_cuts, defScope s__law_cuts, [], []⟩
def d__law_sums : He.DefD := ⟨("_law_sums", none), "_law_sums", "_law_sums", defArgs s__law_sums, defBody s__law_sums, defScope s__law_sums, [], []⟩
def d__law_due : He.DefD := ⟨("_law_due", none), "_law_due", "_law_due", defArgs s__law_due, defBody s__law_due, defScope s__law_due, [], []⟩
def d_need_pieces : He.DefD := ⟨("need_pieces", none), "need_pieces", "need_pieces", defArgs s_need_pieces, defBody s_need_pieces, defScope s_need_pieces, [], []⟩
def d_sums_to_places : He.DefD := ⟨("sums_to_places", none), "sums_to_places", "sums_to_places", defArgs s_sums_to_places, defBody s_sums_to_places, defScope s_sums_to_places, [], []⟩
def d_least_ends : He.DefD := ⟨("least_ends", none), "least_ends", "least_ends", defArgs s_least_ends, defBody s_least_ends, defScope s_least_ends, [], []⟩
def d_first_within : He.DefD := ⟨("first_within", none), "first_within", "first_within", defArgs s_first_within, defBody s_first_within, defScope s_first_within, [], []⟩
def d_least_spread : He.DefD := ⟨("least_spread", none), "least_spread", "least_spread", defArgs s_least_spread, defBody s_least_spread, defScope s_least_spread, [], []⟩
def d__law_told : He.DefD := ⟨("_law_told", none), "_law_told", "_law_told", defArgs s__law_told, defBody s__law_told, defScope s__law_told, [], []⟩
def d__law_right : He.DefD := ⟨("_law_right", none), "_law_right", "_law_right", defArgs s__law_right, defBody s__law_right, defScope s__law_right, [], []⟩
def d_law : He.DefD := ⟨("law", none), "law", "law", defArgs s_law, defBody s_law, defScope s_law, [], []⟩
def fn_ : List He.DefD := [d__law_cells, d__law_hand, d__law_draw, d__law_size, d__law_row, d__law_many, d__law_cuts, d__law_sums, d__law_due, d_need_pieces, d_sums_to_places, d_least_ends, d_first_within, d_least_spread, d__law_told, d__law_right, d_law]
def fa_ : List He.Fa := [.glo "_law_cells", .glo "_law_hand", .glo "_law_draw", .glo "_law_size", .glo "_law_row", .glo "_law_many", .glo "_law_cuts", .glo "_law_sums", .glo "_law_due", .glo "need_pieces", .glo "sums_to_places", .glo "least_ends", .glo "first_within", .glo "least_spread", .glo "_law_told", .glo "_law_right", .glo "law", .free "abs", .free "all", .free "bool", .free "dict", .free "enumerate", .free "int", .free "isinstance", .free "len", .free "list", .free "max", .free "min", .free "range", .free "repr", .free "set", .free "sorted", .free "str", .free "sum", .free "tuple", .free "zip", .free "ValueError"]
def names_ : List PySem.Str := (["CutError", "NoMany", "need_pieces", "sums_to_places", "least_ends", "first_within", "least_spread", "_law_hand", "_law_draw", "_law_cells", "_law_row", "_law_size", "_law_many", "_law_told", "_law_cuts", "_law_sums", "_law_due", "_law_right"] : List PySem.Str)
abbrev R_ : PySem.W.OpenRow := PySem.W.OpenLaw.row PySem.Challenge.rw_piecebounds_k19_least_spreads_by_all_cut
abbrev hk_ : PySem.W.Hook := He.hookD 4 fa_ fn_
def ob_ (s : PySem.W.SharedT) : He.AlD := He.obsDG 4 fa_ fn_ (HandSHeadRun.getT s)
theorem ob_eq_ (s : PySem.W.SharedT) : ob_ s = hk_.obs s.abs := He.obsDG_eq (HandSHeadRun.getT_eq s)
theorem run_ (w : World) : HandSHeadRun.RunEq R_ (PySem.W.view R_.prog [21]) hk_ ob_ 4000 names_ w := by
  intro os
  kernel_rfl
theorem facts_ {P : Program} {w : World} {K : PySem.W.Frag} {h : Heap} {mg : Str → Option Value} {f : Addr} (X : K.In h) (G : h.Ns mainGlobals mg) (hfa : mg ("law" : Str) = some (.ref f)) (c : He.SaysD fa_ fn_ K) :
    ∃ fd : FuncData, (∀ (s : Shared) (v : Value), BindsTo s fd ⟨[v], []⟩ [("script", v)]) ∧ ∀ base : Heap, K.In base → base.Ns mainGlobals mg → FnG P w K mg base 4 f fd ["script"] (sp_law K) := by
  obtain ⟨fd__law_cells, F__law_cells⟩ := c.def_ 0 (d := d__law_cells) rfl
  have hm__law_cells := He.glo_ok X G (c.fact 0 (f := .glo "_law_cells") rfl)
  obtain ⟨fd__law_hand, F__law_hand⟩ := c.def_ 1 (d := d__law_hand) rfl
  have hm__law_hand := He.glo_ok X G (c.fact 1 (f := .glo "_law_hand") rfl)
  obtain ⟨fd__law_draw, F__law_draw⟩ := c.def_ 2 (d := d__law_draw) rfl
  have hm__law_draw := He.glo_ok X G (c.fact 2 (f := .glo "_law_draw") rfl)
  obtain ⟨fd__law_size, F__law_size⟩ := c.def_ 3 (d := d__law_size) rfl
  have hm__law_size := He.glo_ok X G (c.fact 3 (f := .glo "_law_size") rfl)
  obtain ⟨fd__law_row, F__law_row⟩ := c.def_ 4 (d := d__law_row) rfl
  have hm__law_row := He.glo_ok X G (c.fact 4 (f := .glo "_law_row") rfl)
  obtain ⟨fd__law_many, F__law_many⟩ := c.def_ 5 (d := d__law_many) rfl
  have hm__law_many := He.glo_ok X G (c.fact 5 (f := .glo "_law_many") rfl)
  obtain ⟨fd__law_cuts, F__law_cuts⟩ := c.def_ 6 (d := d__law_cuts) rfl
  have hm__law_cuts := He.glo_ok X G (c.fact 6 (f := .glo "_law_cuts") rfl)
  obtain ⟨fd__law_sums, F__law_sums⟩ := c.def_ 7 (d := d__law_sums) rfl
  have hm__law_sums := He.glo_ok X G (c.fact 7 (f := .glo "_law_sums") rfl)
  obtain ⟨fd__law_due, F__law_due⟩ := c.def_ 8 (d := d__law_due) rfl
  have hm__law_due := He.glo_ok X G (c.fact 8 (f := .glo "_law_due") rfl)
  obtain ⟨fd_need_pieces, F_need_pieces⟩ := c.def_ 9 (d := d_need_pieces) rfl
  have hm_need_pieces := He.glo_ok X G (c.fact 9 (f := .glo "need_pieces") rfl)
  obtain ⟨fd_sums_to_places, F_sums_to_places⟩ := c.def_ 10 (d := d_sums_to_places) rfl
  have hm_sums_to_places := He.glo_ok X G (c.fact 10 (f := .glo "sums_to_places") rfl)
  obtain ⟨fd_least_ends, F_least_ends⟩ := c.def_ 11 (d := d_least_ends) rfl
  have hm_least_ends := He.glo_ok X G (c.fact 11 (f := .glo "least_ends") rfl)
  obtain ⟨fd_first_within, F_first_within⟩ := c.def_ 12 (d := d_first_within) rfl
  have hm_first_within := He.glo_ok X G (c.fact 12 (f := .glo "first_within") rfl)
  obtain ⟨fd_least_spread, F_least_spread⟩ := c.def_ 13 (d := d_least_spread) rfl
  have hm_least_spread := He.glo_ok X G (c.fact 13 (f := .glo "least_spread") rfl)
  obtain ⟨fd__law_told, F__law_told⟩ := c.def_ 14 (d := d__law_told) rfl
  have hm__law_told := He.glo_ok X G (c.fact 14 (f := .glo "_law_told") rfl)
  obtain ⟨fd__law_right, F__law_right⟩ := c.def_ 15 (d := d__law_right) rfl
  have hm__law_right := He.glo_ok X G (c.fact 15 (f := .glo "_law_right") rfl)
  obtain ⟨fd_law, F_law⟩ := c.def_ 16 (d := d_law) rfl
  have hm_law := He.glo_ok X G (c.fact 16 (f := .glo "law") rfl)
  have Z : Blt mg := ⟨He.free_ok X G (c.fact 17 (f := .free "abs") rfl), He.free_ok X G (c.fact 18 (f := .free "all") rfl), He.free_ok X G (c.fact 19 (f := .free "bool") rfl), He.free_ok X G (c.fact 20 (f := .free "dict") rfl), He.free_ok X G (c.fact 21 (f := .free "enumerate") rfl), He.free_ok X G (c.fact 22 (f := .free "int") rfl), He.free_ok X G (c.fact 23 (f := .free "isinstance") rfl), He.free_ok X G (c.fact 24 (f := .free "len") rfl), He.free_ok X G (c.fact 25 (f := .free "list") rfl), He.free_ok X G (c.fact 26 (f := .free "max") rfl), He.free_ok X G (c.fact 27 (f := .free "min") rfl), He.free_ok X G (c.fact 28 (f := .free "range") rfl), He.free_ok X G (c.fact 29 (f := .free "repr") rfl), He.free_ok X G (c.fact 30 (f := .free "set") rfl), He.free_ok X G (c.fact 31 (f := .free "sorted") rfl), He.free_ok X G (c.fact 32 (f := .free "str") rfl), He.free_ok X G (c.fact 33 (f := .free "sum") rfl), He.free_ok X G (c.fact 34 (f := .free "tuple") rfl), He.free_ok X G (c.fact 35 (f := .free "zip") rfl), He.free_ok X G (c.fact 36 (f := .free "ValueError") rfl)⟩
  have e := hfa.symm.trans hm_law
  cases e
  have b := FunD.bindsA (ps := ["script"]) F_law fun _ _ _ _ _ _ us hl => match us, hl with | [_], _ => rfl
  refine ⟨fd_law, fun s v => b s [v] rfl, fun base _ _ => ?_⟩
  have C__law_cells : Fn P w K mg base 1 "_law_cells" ["script", "many"] (sp__law_cells K) := ok__law_cells F__law_cells hm__law_cells Z 
  have C__law_hand : Fn P w K mg base 1 "_law_hand" ["cell", "k"] (sp__law_hand K) := ok__law_hand F__law_hand hm__law_hand Z 
  have C__law_draw : Fn P w K mg base 1 "_law_draw" ["hand", "limit"] (sp__law_draw K) := ok__law_draw F__law_draw hm__law_draw Z 
  have C__law_size : Fn P w K mg base 2 "_law_size" ["hand", "k", "most", "far"] (sp__law_size K) := ok__law_size F__law_size hm__law_size Z C__law_draw
  have C__law_row : Fn P w K mg base 2 "_law_row" ["hand", "many"] (sp__law_row K) := ok__law_row F__law_row hm__law_row Z C__law_draw
  have C__law_many : Fn P w K mg base 2 "_law_many" ["hand", "row"] (sp__law_many K) := ok__law_many F__law_many hm__law_many Z C__law_draw
  have C__law_cuts : Fn P w K mg base 1 "_law_cuts" ["many", "parts"] (sp__law_cuts K) := ok__law_cuts F__law_cuts hm__law_cuts Z 
  have C__law_sums : Fn P w K mg base 1 "_law_sums" ["row", "cut"] (sp__law_sums K) := ok__law_sums F__law_sums hm__law_sums Z 
  have C__law_due : Fn P w K mg base 2 "_law_due" ["row", "many"] (sp__law_due K) := ok__law_due F__law_due hm__law_due Z C__law_cuts C__law_sums
  have C_need_pieces : Fn P w K mg base 1 "need_pieces" ["row", "many"] (sp_need_pieces K) := ok_need_pieces F_need_pieces hm_need_pieces Z 
  have C_sums_to_places : Fn P w K mg base 1 "sums_to_places" ["row"] (sp_sums_to_places K) := ok_sums_to_places F_sums_to_places hm_sums_to_places Z 
  have C_least_ends : Fn P w K mg base 1 "least_ends" ["ahead", "many", "low"] (sp_least_ends K) := ok_least_ends F_least_ends hm_least_ends Z 
  have C_first_within : Fn P w K mg base 1 "first_within" ["ahead", "many", "low", "high"] (sp_first_within K) := ok_first_within F_first_within hm_first_within Z 
  have C_least_spread : Fn P w K mg base 2 "least_spread" ["row", "many"] (sp_least_spread K) := ok_least_spread F_least_spread hm_least_spread Z C_first_within C_least_ends C_sums_to_places C_need_pieces
  have C__law_told : Fn P w K mg base 1 "_law_told" ["found", "due"] (sp__law_told K) := ok__law_told F__law_told hm__law_told Z 
  have C__law_right : Fn P w K mg base 3 "_law_right" ["row", "many", "held"] (sp__law_right K) := ok__law_right F__law_right hm__law_right Z C_least_spread C__law_told C__law_due
  exact ok_law F_law hm_law Z C__law_cells C__law_right C__law_many C__law_row C__law_size C__law_hand
end PB
open PySem PySem.W PySem.Calls PyProof.Rows
theorem PySem.Challenge.cw_piecebounds_k19_least_spreads_by_all_cut_holds : PySem.Challenge.rw_piecebounds_k19_least_spreads_by_all_cut.Holds := by
  w_on; o_law
  refine HandSHeadRun.head_any (r := OpenLaw.row PySem.Challenge.rw_piecebounds_k19_least_spreads_by_all_cut) (q := view (OpenLaw.row PySem.Challenge.rw_piecebounds_k19_least_spreads_by_all_cut).prog [21]) (H := PB.hk_) (ob := PB.ob_) (M := 4000) (loose := PB.names_) (d := HandSHeadRun.topDef (OpenLaw.row PySem.Challenge.rw_piecebounds_k19_least_spreads_by_all_cut).prog 21) (kwd := []) PB.ob_eq_
    (by kernel_rfl) (fun s => by kernel_rfl) PB.run_ (by kernel_rfl) (by kernel_rfl) (by kernel_rfl) (by rfl) (by first | assumption | decide +kernel) (by decide +kernel) ⟨rfl, rfl, rfl, rfl, rfl, by decide +kernel⟩ ?hw ?hc
  case hw => w_witness2
  case hc =>
    refine PB.walk_ofG (l := PySem.Challenge.rw_piecebounds_k19_least_spreads_by_all_cut) (n := 63) (k := 4) (x := "script") rfl (by decide) (by kernel_rfl) ⟨rfl, by decide, by decide⟩ ?F
    intro w mg fa h Y G hmg0
    obtain ⟨K, KX, c⟩ := Y
    have hmg : mg ("law" : PySem.Str) = some (.ref fa) := by
      have e : (HandSHeadRun.topDef (OpenLaw.row PySem.Challenge.rw_piecebounds_k19_least_spreads_by_all_cut).prog 21).name = ("law" : PySem.Str) := by kernel_rfl
      rw [← e]
      exact hmg0
    obtain ⟨fd, hb, hF⟩ := PB.facts_ (P := (PySem.Challenge.rw_piecebounds_k19_least_spreads_by_all_cut).prog) (w := w) KX G hmg c
    exact ⟨K, fd, PB.sp_law K, KX, hb, fun H a ns hl hS => ⟨⟨ns⟩, .ref a, rfl, ⟨a, rfl, hS⟩, true, PB.law_true ns hl, fun v' H' r => (let ⟨_, _, _, _, h⟩ := r; h)⟩, hF⟩
#print axioms PySem.Challenge.cw_piecebounds_k19_least_spreads_by_all_cut_holds
