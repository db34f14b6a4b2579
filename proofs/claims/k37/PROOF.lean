import PyProof.Rows.All
import Wide.All
import OpenK.AllK
import Wide.FinOn
import KE.KStateDown
import HandS.ForMost
import HandS.ForExc
import HandS.Wide
import HandS.SortInts
import HandS.IsInst
import HandS.Conv
import HandS.Zip
import HandS.Defaults
import HandS.HeadEnd
import HandS.Head0
import HandS.Head1
import HandS.Head2
import HandS.HeadHook1
import HandS.HeadHook2
import HandS.HeadHook3
import HandS.ListItems
import PyProof.ZipIter
import HandS.Codes
import HandS.Style
import HandS.Flow
import HandS.TryOnly
import HandS.ExcValue
import HandS.ExcBuiltin
import KE.KExcIs
import HandS.ExcIs
import KE.DatumOrd
import HandS.Strs
import HandS.SetFor
import HandS.Text
import HandS.Steps
import HandS.ExcOwn
import PyProof.Rows.IntBool
import KE.KDictZip
import PySem.Challenge.RW_piecebounds_k37_no_such_many
set_option Elab.async false
set_option linter.all false
set_option maxRecDepth 100000
set_option maxHeartbeats 4000000
namespace PB
open PySem PySem.Spec PyProof.Rows L2

/-! ### defs whose calls happen with no repr under way -/
structure FnG (P : Program) (w : World) (K : PySem.W.Frag) (mg : Str → Option Value) (base : Heap)
    (k : Nat) (f : Addr) (fd : FuncData) (ps : List Str) (sp : Sp) : Prop where
  len : ∀ vs H Q E, sp vs H Q E → vs.length = ps.length
  run : ∀ (A : Around) (outer : List Env) (s : Shared) (H : Hp) (args : Args) (us : List Value)
    (vs : List V) (Q : VK) (E : XK), Room k A → A.guards = some [] →
    Env0 P w K mg base A outer s H → BindsTo s fd args (ps.zip us) → Vals vs us →
    sp vs H Q E → codeAny (model P w) A (.call (.ref f) args) (CR (L2.CX P w) outer P w H s Q E) s

theorem FnG.mono {P : Program} {w : World} {K : PySem.W.Frag} {mg : Str → Option Value} {base : Heap}
    {j k : Nat} {f : Addr} {fd : FuncData} {ps : List Str} {sp : Sp}
    (F : FnG P w K mg base j f fd ps sp) (h : j ≤ k) : FnG P w K mg base k f fd ps sp :=
  ⟨F.len, fun A o s H a us vs Q E hr => F.run A o s H a us vs Q E (hr.mono h)⟩

theorem FnG.of_ok {P : Program} {w : World} {K : PySem.W.Frag} {mg : Str → Option Value} {base : Heap}
    {k : Nat} {f : Addr} {fd : FuncData} {ps : List Str} {sp : Sp}
    (F : FnOk P w K mg base (L2.CX P w) k f fd ps sp) : FnG P w K mg base k f fd ps sp :=
  ⟨F.len, fun A o s H a us vs Q E hr _ => F.run A o s H a us vs Q E hr⟩

/-- from the def's body, as the layer has it, with the knowledge that nothing is being shown -/
theorem okG {P : Program} {w : World} {K : PySem.W.Frag} {mg : Str → Option Value} {base : Heap}
    {x qual : Str} {params : Arguments} {body : List Stmt} {scope : Scope} {dvs : List V}
    {kws : List (Str × V)} {f : Addr} {fd : FuncData} {N ps : List Str} {k : Nat} {sp : Sp}
    (F : FunD K x qual params body scope dvs kws f fd) (S : FnScope N ps scope)
    (len : ∀ vs H Q E, sp vs H Q E → vs.length = ps.length)
    (hb : ∀ (cdv : Value) (A : Around) (outer : List Env) (s : Shared) (H : Hp) (vs : List V) (Q : VK)
      (E : XK), Room k (A.deeper (envOfC qual scope s.heap.objs.size f cdv)) → A.guards = some [] →
      sp vs H Q E → ∃ t, PSs (cxOf (L2.CX P w) P w K mg base N qual scope f cdv A outer s H E) body t ∧
        t { nx := fun _ H' => Q .non H', rt := Q } (start N vs) H) :
    FnG P w K mg base (k + 1) f fd ps sp := by
  obtain ⟨oc, od, dV, kV, doc, pm, an, cd, ct, osl, rfl, lk, hcd, _, _⟩ := F.ex
  refine ⟨len, fun A outer s H args us vs Q E hr hgd e0 hbi r hsp => ?_⟩
  have hl := len _ _ _ _ hsp
  have KX : K.In s.heap := e0.mod.kin.keeps fun b o e =>
    (e0.bs b o e).1
  have lim : s.heap.NoLimit := e0.mod.nolimit.keeps fun b o e =>
    (e0.bs b o e).1
  have hkind : ∀ y ∈ ps.zip us, scope.names.lookup y.1 = some .local ∨ (scope.names.lookup y.1 = some .cell ∧
      ((cellsFrom (s.heap.objs.size + 1) scope.names []).lookup y.1).isSome = true) := fun ⟨n, v⟩ hy => by
    rcases S.par n (List.of_mem_zip hy).1 with q | q
    · exact .inl q
    · exact .inr ⟨q, PySem.W.cellsFrom_some _ _ _ (.inl q)⟩
  refine codeAny_call_function hr.depth (KX _ _ lk) rfl S.co S.gen rfl
    (PySem.W.codeRec_of KX hcd) (hbi _ _ _ _ ?_)
  refine wpAny_newFunctionEnv_cells S.kind hkind fun env he s1 x => ?_
  subst he
  refine ⟨lim.keeps x.toInCall.keep, codeAny_func ?_⟩
  obtain ⟨t, ht, hq⟩ := hb cd A outer s H vs Q E (hr.deeper _) hgd hsp
  have I : Inv (cxOf (L2.CX P w) P w K mg base N qual scope f cd A outer s H E) [] (start N vs) H s1 :=
    inv_start S hr.hd e0 hl r x
  refine wpAny_mono (ht.run [] s1 (start N vs) H _ I hq) (fun fl s' hs => ?_) (fun e s' hs => hs)
  have fin : ∀ {σ' : L2.St} {H' : Hp} {v : V} {u : Value},
      Inv (cxOf (L2.CX P w) P w K mg base N qual scope f cd A outer s H E) [] σ' H' s' → RelV v u → Q v H' →
      CE outer P w H s Q u s' := fun {σ' H' v u} J rv q =>
    ⟨v, H', J.os, J.bare, J.base, J.hok, rv, q⟩
  match fl, hs with
  | .ret u, hs =>
    obtain ⟨v, σ', H', J, rv, q⟩ := hs
    exact fin J rv q
  | .next, hs =>
    obtain ⟨σ', H', J, q⟩ := hs
    exact fin (v := V.non) (u := Value.none) J rfl q
  | .brk, hs =>
    obtain ⟨_, _, _, q⟩ := hs
    exact q.elim
  | .cont, hs =>
    obtain ⟨_, _, _, q⟩ := hs
    exact q.elim

/-- a def by its name -/
structure Fn (P : Program) (w : World) (K : PySem.W.Frag) (mg : Str → Option Value) (base : Heap)
    (k : Nat) (x : Str) (ps : List Str) (sp : Sp) : Prop where
  ex : ∃ (f : Addr) (fd : FuncData), mg x = some (.ref f) ∧ PySem.W.keepIn K (.ref f) = true ∧
    Binds K fd ps [] ∧ FnG P w K mg base k f fd ps sp

section
variable {X : Cx} {k : Nat} {f C : Addr} {fd : FuncData} {ps : List Str} {sp : Sp} {E : XK} {x : Str}
variable {p pos : Pos} {e : Expr} {es : List Expr} {t : TA}

theorem run_fnG {pins : List (Addr × Obj)} {σ : L2.St} {H : Hp} {s : Shared} {Q : VK} {us : List Value}
    {vs : List V} (F : FnG X.prog X.w X.K X.mg X.base k f fd ps sp) (hr : Room k X.A)
    (hgd : X.A.guards = some []) (hb : Binds X.K fd ps []) (hx : Passes (L2.CX X.prog X.w) X E)
    (I : Inv X pins σ H s) (r : Vals vs us) (h : sp vs H Q E) :
    wpAny (model X.prog X.w) X.A (call (.ref f) us) (EP X pins σ Q) X.xe s := by
  have hl : us.length = ps.length := by
    rw [← r.length]
    exact F.len _ _ _ _ h
  have hb2 := hb s us I.kIn (by rw [List.append_nil]; exact hl)
  rw [List.append_nil] at hb2
  refine wpAny_call (codeAny_mono (F.run X.A X.stack s H ⟨us, []⟩ us vs Q E hr hgd I.env0 hb2 r h)
    fun r s' hq => ?_)
  match r, hq with
  | .error e, hq => exact hx pins σ H s e s' I hq
  | .ok (.ret u), hq => exact I.after hq
  | .ok .next, hq => exact hq.elim
  | .ok .brk, hq => exact hq.elim
  | .ok .cont, hq => exact hq.elim

/-- f(e, ..) -/
theorem pe_fn (G : Fn X.prog X.w X.K X.mg X.base k x ps sp) (hr : Room k X.A)
    (hgd : X.A.guards = some []) (hg : Gl X x) (hx : Passes (L2.CX X.prog X.w) X E)
    (ha : PA X (e :: es) t) (hdb : (x == ("__debug__" : Str)) = false := by decide)
    (he : starEach (e :: es) X.env = (false, eval e X.env) :: starEach es X.env := by rfl)
    (hpl : (backTo pos (starEach es X.env)).any (·.1) = false := by rfl) :
    PE X (.Call (.Name x p) (e :: es) [] pos) (tCall sp [] E t) := by
  obtain ⟨f, fd, hm, hk, hb, F⟩ := G.ex
  refine ⟨fun pins s σ H Q I h => wpAny_Call_Name_kw (ld_glob I hg hm ?_ hdb)⟩
  refine PySem.W.callWith_K (h₀ := X.base) I.ok.mod.kin hk
    (thn (ha.run pos pins s σ H _ I h) fun us s1 ⟨vs, H1, I1, r, q⟩ => ⟨I1.kIn, ?_⟩) he hpl
  have q' : sp (vs ++ []) H1 Q E := q
  rw [List.append_nil] at q'
  exact run_fnG F hr hgd hb hx I1 r q'
end

/-! ### the law's own call, at the caller's place alone -/
theorem law_callG {P : Program} {w : World} {K : PySem.W.Frag} {mg mb : Str → Option Value} {k : Nat}
    {fa a : Addr} {fd : FuncData} {x : Str} {sp : Sp} {z : Shared} {vs : List Value} {ns : List Int}
    (KX : K.In z.heap) (hns : z.heap.Ns mainGlobals mg) (hb : z.heap.Ns builtinsNs mb)
    (hbb : ∀ x : Str, x ≠ "__name__" → mb x = bootBuiltins x) (hlim : z.heap.NoLimit) (hg : z.gens = #[])
    (ha : z.heap.get? a = some { cls := .type "list", data := .seq vs.toArray })
    (hi : IntsAre vs ns) (hl : ns.length ≤ sizeLine) (hr : Room k callerA)
    (F : ∀ base : Heap, K.In base → base.Ns mainGlobals mg → FnG P w K mg base k fa fd [x] sp)
    (hbind : ∀ (s : Shared) (u : Value), BindsTo s fd ⟨[u], []⟩ [(x, u)])
    (hsp : ∀ H : Hp, SqL K H a (ns.map V.int) →
      sp [.ref a] H (fun v _ => v = .bl true) fun _ _ _ => False) :
    codeAny (model P w) callerA (.call (.ref fa) ⟨[.ref a], []⟩)
      (fun r s' => r = .ok (.ret (.bool true)) ∧ OldK z.heap s'.heap ∧ s'.os = z.os ∧ AllBare s'.gens) z := by
  have rv := vals_ints hi
  have lenV := hi.length
  have core : ∀ H : Hp, Only H → SqL K H a (ns.map V.int) → HOk P w H z.heap →
      (∀ b, H b ≠ none → b = a) → (H a ≠ none → K.lookup a = none) →
      codeAny (model P w) callerA (.call (.ref fa) ⟨[.ref a], []⟩)
        (fun r s' => r = .ok (.ret (.bool true)) ∧ OldK z.heap s'.heap ∧ s'.os = z.os ∧ AllBare s'.gens) z := by
    intro H hO hS hok hA hK
    have noA : ∀ {b : Addr} {o : Obj} {es : Array DictEntry} {ep : Nat}, z.heap.get? b = some o →
        o.data = .dict es ep → H b = none := fun {b o es ep} e d => by
      cases q : H b with
      | none => rfl
      | some u =>
        obtain rfl : b = a := hA b (by simp [q])
        rw [ha] at e
        cases e
        cases (show Data.seq vs.toArray _ = Data.dict es ep from d)
    have nsK : ∀ {b : Addr} {m : Str → Option Value}, z.heap.Ns b m → (hidT z.heap H).Ns b m :=
      fun {b m} ⟨o, es, ep, e, d, r⟩ => ⟨o, es, ep, hidT_get e (noA e d), d, r⟩
    have hKb : K.In (hidT z.heap H) := fun b o e => hidT_get (KX b o e) (by
      cases q : H b with
      | none => rfl
      | some u =>
        obtain rfl : b = a := hA b (by simp [q])
        rw [hK (by simp [q])] at e
        cases e)
    have hM : Mod K mg (hidT z.heap H) :=
      ⟨hKb, nsK hns, ⟨mb, nsK hb, hbb⟩, let ⟨mc, h1, h2⟩ := hlim; ⟨mc, nsK h1, h2⟩⟩
    have e0 : Env0 P w K mg (hidT z.heap H) callerA [] z H :=
      ⟨rfl, hM, fun b o e => of_hidT e, Nat.le_of_eq (hidT_size _ _), trivial,
        fun b hb => absurd (show b ∈ ([] : List Addr) from hb) (by simp), hok, .of_eq hg⟩
    refine codeAny_mono ((F _ hKb (nsK hns)).run callerA [] z H ⟨[.ref a], []⟩ [.ref a] [.ref a] _ _ hr rfl e0
      (hbind z (.ref a)) (.cons rfl .nil) (hsp H hS)) fun r s' h => ?_
    match r, h with
    | .error e, h =>
      obtain ⟨_, _, _, _, _, _, _, _, _, _, _, _, q⟩ := h
      exact q.elim
    | .ok .next, h => exact h.elim
    | .ok .brk, h => exact h.elim
    | .ok .cont, h => exact h.elim
    | .ok (.ret u), h =>
      obtain ⟨v, H', os, bare, un, hok', r', q⟩ := h
      obtain rfl : v = .bl true := q
      obtain rfl : u = Value.bool true := r'
      refine ⟨rfl, OldK.of_keep fun b o e => ?_, os, bare⟩
      cases q : H b with
      | none =>
        exact un.keep b o e q (fun y => absurd (show b ∈ ([] : List Addr) from y) (by simp)) (by simp)
      | some u =>
        rcases hO b with y | ⟨ob, xs, y⟩
        · rw [q] at y
          cases y
        · obtain ⟨e1, _⟩ := hok b _ y
          obtain ⟨e2, _⟩ := hok' b _ (un.frzs b ob _ y)
          rw [e] at e1
          cases e1
          exact e2
  cases hk : K.lookup a with
  | some o =>
    have e := KX a o hk
    rw [ha] at e
    cases e
    refine core (fun _ => none) (fun _ => .inl rfl) (.inr ⟨_, vs.toArray, _, hk, rfl, rfl, rfl, ?_, by simpa using rv⟩)
      (fun b u q => by cases (show (none : Option HO) = some u from q)) (fun b q => absurd rfl q) fun q => absurd rfl q
    rw [List.size_toArray, lenV]
    exact hl
  | none =>
    let oS : Obj := { cls := .type "list", data := .seq vs.toArray }
    let HS : Hp := fun b => if b = a then some (.frz oS (.lst (ns.map V.int))) else none
    have hS : HS a = some (.frz oS (.lst (ns.map V.int))) := if_pos rfl
    have hN : ∀ b, b ≠ a → HS b = none := fun b hb => if_neg hb
    refine core HS (fun b => ?_) (.inl (.inr ⟨oS, hS⟩)) (fun b u q => ?_) (fun b q => ?_) fun _ => hk
    · by_cases hb : b = a
      · exact .inr ⟨_, _, by rw [hb]; exact hS⟩
      · exact .inl (hN b hb)
    · by_cases hb : b = a
      · subst hb
        rw [hS] at q
        cases q
        exact ⟨ha, by rw [List.length_map]; exact hl, vs, _, rv, ha⟩
      · rw [hN b hb] at q
        cases q
    · by_cases hb : b = a
      · exact hb
      · exact absurd (hN b hb) q

/-- a law's end over a head by facts -/
theorem walk_ofG {l : PySem.W.OpenLaw} {n k : Nat} {q : Program} {loose : List Str}
    {XP : (Str → Option Value) → Heap → Prop} {YP : World → Heap → Prop} {d : DefRec} {x : Str}
    (hn : l.most = some n) (hn2 : n ≤ sizeLine) (hdf : d.params.defaults = []) (hr : Room k callerA)
    (F : ∀ (w : World) (mg : Str → Option Value) (fa : Addr) (h : Heap), YP w h → h.Ns mainGlobals mg →
      mg d.name = some (.ref fa) → ∃ (K : PySem.W.Frag) (fd : FuncData) (sp : Sp), K.In h ∧
        (∀ (s : Shared) (u : Value), BindsTo s fd ⟨[u], []⟩ [(x, u)]) ∧
        (∀ (H : Hp) (a : Addr) (ns : List Int), ns.length ≤ n → SqL K H a (ns.map V.int) →
          sp [.ref a] H (fun v _ => v = .bl true) fun _ _ _ => False) ∧
        ∀ base : Heap, K.In base → base.Ns mainGlobals mg → FnG l.prog w K mg base k fa fd [x] sp) :
    PySem.W.WalkO q loose XP YP l.row.toRowW d [] (fun f vs => PySem.call f vs) := by
  refine Att.attach_call hn hdf fun w s₀ z mg mb fa o pm cd doc a vs ns G Y ho hd hcd hmg hobj hints hlen hg => ?_
  obtain ⟨K, fd, sp, KX, hb, hsp, hF⟩ := F w mg fa _ Y G.T.g hmg
  exact law_callG KX G.T.g G.T.b G.T.builtins G.T.nolimit hg hobj hints (Nat.le_trans hlen hn2) hr hF hb
    (fun H hS => hsp H a ns hlen hS)

/-! ### repr of data -/
section
variable {X : Cx}
def rRepr (K : PySem.W.Frag) : List V → Hp → VK → Prop := fun xs H Q => ∃ (x : V) (d : PyData),
  xs = [x] ∧ Dp K H x d ∧ d.showable = true ∧ d.hasDict = false ∧ d.depth ≤ 60 ∧
  d.shown.length ≤ sizeLine ∧ Q (.str d.shown) H
theorem call_reprD (hgd : X.A.guards = some []) (hu : X.A.units + 64 < cLine) :
    CallR X (.builtin "repr") (rRepr X.K) := by
  intro pins s σ H xs us Q I r h
  obtain ⟨x, d, rfl, hd, hs, hn, hdp, hz, q⟩ := h
  obtain ⟨u, rfl, rx⟩ := vals1 r
  have key : ∀ a, x = .ref a → wpAny (model X.prog X.w) X.A (call (.builtin "repr") [u]) (EP X pins σ Q) X.xe s := fun a ea => by
    subst ea
    have e : u = .ref a := rx
    subst e
    obtain ⟨as, rd⟩ := Dp.reads I d _ _ hd rx
    exact repr_of_reads' rd hs (fun y => by rw [hn] at y; cases y) hgd (by omega) (fun b o e => e)
      (fun h' u tk hk => ⟨.str d.shown, H, I.kept hk, ⟨_, rfl⟩, q⟩) hz
  cases hd with
  | non =>
    cases rx
    exact PySem.P.repr_of_none ⟨.str _, H, I.tok _, ⟨_, rfl⟩, q⟩
  | bl b =>
    cases rx
    exact PySem.P.repr_of_bool ⟨.str _, H, I.tok _, ⟨_, rfl⟩, by
      rw [PyData.shown] at q
      cases b <;> exact q⟩
  | int i =>
    obtain ⟨t, rfl⟩ := rx
    have hi : i.natAbs.log2 < 1920 := by simpa [PyData.showable] using hs
    exact PySem.P.repr_of_int hi ⟨.str _, H, I.tok _, ⟨_, rfl⟩, q⟩
  | str y =>
    obtain ⟨t, rfl⟩ := rx
    exact PySem.P.repr_of_str ⟨.str _, H, I.tok _, ⟨_, rfl⟩, q⟩ hz
  | lst h1 h2 => exact key _ rfl
  | tup h1 h2 => exact key _ rfl
end
end PB

namespace PB
open PySem PySem.Spec PyProof.Rows L2

/-! ### list(enumerate(xs)): the tuples given out are all held -/
/-- an enumerate whose last tuple stands somewhere -/
abbrev EnHeld (h : Heap) (e it : Addr) (i : Int) (item : Value) (a : Addr) (f : Bool) : Prop :=
  h.get? e = some (Obj.mk (.type "enumerate") none
    (.fields #[rawInt a, .bool f, .ref it, rawInt i, .none, item]) #[])

def EnSt (h : Heap) (e it l S : Addr) (i : Nat) : Prop := h.IsListIter it l i ∧
  ((∃ old, IsEnum h e it i old) ∨ ∃ item a f oa, EnHeld h e it i item a f ∧ h.get? a = some oa ∧
    a ≠ e ∧ a ≠ it ∧ a ≠ S)
theorem EnSt.keep {h h' : Heap} {e it l S : Addr} {i : Nat} (x : EnSt h e it l S i)
    (hk : ∀ b o, b ≠ S → h.get? b = some o → h'.get? b = some o) (h1 : e ≠ S) (h2 : it ≠ S) :
    EnSt h' e it l S i := by
  obtain ⟨⟨o, ho, r⟩, x⟩ := x
  refine ⟨⟨o, hk _ _ h2 ho, r⟩, ?_⟩
  rcases x with ⟨old, y⟩ | ⟨item, a, f, oa, y, z, n1, n2, n3⟩
  · exact .inl ⟨old, hk _ _ h1 y⟩
  · exact .inr ⟨item, a, f, oa, hk _ _ h1 y, hk _ _ n3 z, n1, n2, n3⟩

section
variable {prog : Program} {w : World} {A : Around} {E : Value → Shared → Prop} {s : Shared}
theorem en_alive {a : Addr} {o : Obj} {Q : Option Obj → Shared → Prop} (ho : s.heap.get? a = some o)
    (h : Q (some o) s) : wpAny (model prog w) A (loadIfAlive a) Q E s := by
  have h' : Q (s.heap.get? a) s := by
    rw [ho]
    exact h
  exact fun _ _ _ => h'

theorem en_next_held {e it l a : Addr} {f : Bool} {oa : Obj} {i : Nat} {items : Array Value}
    {x item : Value} {Q : Value → Shared → Prop} (he : EnHeld s.heap e it i item a f)
    (ha : s.heap.get? a = some oa) (hae : a ≠ e) (hai : a ≠ it)
    (hit : s.heap.IsListIter it l i) (hl : s.heap.IsList l items) (hx : items[i]? = some x) (hne : e ≠ it)
    (hQ : ∀ h', EnHeld h' e it ((i : Int) + 1) item a true → h'.IsListIter it l (i + 1) →
      h'.get? s.heap.objs.size = some { cls := .type "tuple", data := .seq #[.int i s.toks, x] } →
      h'.objs.size = s.heap.objs.size + 1 →
      (∀ b o, b ≠ e → b ≠ it → s.heap.get? b = some o → h'.get? b = some o) →
      Q (.ref s.heap.objs.size) { s with heap := h', toks := s.toks + 1 }) :
    wpAny (model prog w) A (Builtin.«enumerate.__next__» ⟨[.ref e], []⟩)
      (fun fin s' => ∃ v, fin = .done (.ret v) ∧ Q v s') E s := by
  obtain ⟨hp, g, d, tk, os⟩ := s
  show wpAny _ _ (field (.ref e) 2 >>= _) _ _ _
  refine wpAny_bind (wpAny_field he rfl (x := .ref it) rfl ?_)
  refine wpAny_bind (wpAny_nextOf_list_item hit hl hx fun h₁ hit₁ hs₁ => ?_)
  replace hs₁ : Heap.SameBut it hp h₁ := hs₁
  have he₁ : EnHeld h₁ e it i item a f := (hs₁.2 e hne).trans he
  show wpAny _ _ (field (.ref e) 3 >>= _) _ _ ⟨h₁, g, d, tk, os⟩
  refine wpAny_bind (wpAny_field he₁ rfl (x := rawInt i) rfl ?_)
  show wpAny _ _ (field (.ref e) 4 >>= _) _ _ ⟨h₁, g, d, tk, os⟩
  refine wpAny_bind (wpAny_field he₁ rfl (x := .none) rfl ?_)
  show wpAny _ _ (mkInt i >>= _) _ _ ⟨h₁, g, d, tk, os⟩
  refine wpAny_bind (wpAny_mkInt ?_)
  show wpAny _ _ (setField (.ref e) 3 (rawInt ((i : Int) + 1)) >>= _) _ _
    ⟨h₁, g, d, tk + 1, os⟩
  refine wpAny_bind (wpAny_setField_rec he₁ (by simp) fun h₂ he₂ hs₂ => ?_)
  replace hs₂ : Heap.SameBut e h₁ h₂ := hs₂
  replace he₂ : EnHeld h₂ e it ((i : Int) + 1) item a f := he₂
  show wpAny _ _ (setField (.ref e) 4 .none >>= _) _ _
    ⟨h₂, g, d, tk + 1, os⟩
  refine wpAny_bind (wpAny_setField_rec he₂ (by simp) fun h₃ he₃ hs₃ => ?_)
  replace hs₃ : Heap.SameBut e h₂ h₃ := hs₃
  replace he₃ : EnHeld h₃ e it ((i : Int) + 1) item a f := he₃
  show wpAny _ _ (newTuple [.int i tk, x] >>= _) _ _ ⟨h₃, g, d, tk + 1, os⟩
  refine wpAny_bind (wpAny_newTuple ?_)
  have he₄ : EnHeld (h₃.push { cls := .type "tuple", data := .seq #[.int i tk, x] }) e it
    ((i : Int) + 1) item a f := Heap.get?_push_of_some _ he₃
  generalize hh₄ : h₃.push { cls := .type "tuple", data := .seq #[.int i tk, x] } = h₄ at he₄
  have hsz : h₃.objs.size = hp.objs.size := by
    rw [hs₃.1, hs₂.1, hs₁.1]
  have hel : e < hp.objs.size := Heap.lt_size he
  have ht₄ : h₄.get? hp.objs.size = some { cls := .type "tuple", data := .seq #[.int i tk, x] } := by
    rw [← hh₄, ← hsz]
    exact Heap.get?_push_size _ rfl
  have hz₄ : h₄.objs.size = hp.objs.size + 1 := by
    rw [← hh₄, Heap.size_push, hsz]
  have hk₄ : ∀ b o, b ≠ e → b ≠ it → hp.get? b = some o → h₄.get? b = some o := fun b o hbe hbi hb => by
    rw [← hh₄]
    exact Heap.get?_push_of_some _ (hs₃.extBut b o hbe (hs₂.extBut b o hbe (hs₁.extBut b o hbi hb)))
  have hit₄ : h₄.IsListIter it l (i + 1) := by
    rw [← hh₄]
    obtain ⟨o, ho, r⟩ := (hit₁.extBut hs₂.extBut (Ne.symm hne)).extBut hs₃.extBut (Ne.symm hne)
    exact ⟨o, Heap.get?_push_of_some _ ho, r⟩
  show wpAny _ _ (Builtin.SmallTypes.ownedTupleIsFree (.ref e) >>= _) _ _
    ⟨h₄, g, d, tk + 1, os⟩
  rw [hsz]
  have ha₄ : h₄.get? a = some oa := hk₄ a oa hae hai ha
  clear hh₄ he₃ hs₃ he₂ hs₂ he₁ hs₁ hit₁ hsz h₃ h₂ h₁
  refine wpAny_bind ?_
  unfold Builtin.SmallTypes.ownedTupleIsFree
  refine wpAny_bind (wpAny_field he₄ rfl (x := rawInt a) rfl ?_)
  show wpAny _ _ (loadIfAlive ((a : Int).toNat) >>= _) _ _ _
  rw [Int.toNat_natCast]
  refine wpAny_bind (en_alive ha₄ ?_)
  simp only [Option.isNone_some, Bool.false_eq_true, if_false]
  refine wpAny_bind (wpAny_field he₄ rfl (x := .bool f) rfl ?_)
  have fin : ∀ h₅ : Heap, EnHeld h₅ e it ((i : Int) + 1) item a true → Heap.SameBut e h₄ h₅ →
      Q (.ref hp.objs.size) ⟨h₅, g, d, tk + 1, os⟩ := fun h₅ he₅ hs₅ => by
    refine hQ h₅ he₅ (hit₄.extBut hs₅.extBut (Ne.symm hne)) (hs₅.extBut _ _ (Nat.ne_of_gt hel) ht₄) ?_ ?_
    · show h₅.objs.size = hp.objs.size + 1
      rw [hs₅.1, hz₄]
    · exact fun b o hb hb2 e => hs₅.extBut b o hb (hk₄ b o hb hb2 e)
  cases f with
  | true =>
    rw [if_neg (show ¬ ((Value.bool true != Value.bool true) = true) from Bool.false_ne_true)]
    refine wpAny_pure ?_
    simp only [Bool.false_eq_true, if_false]
    exact wpAny_pure ⟨_, rfl, fin h₄ he₄ (Heap.SameBut.refl _ _)⟩
  | false =>
    rw [if_pos (show (Value.bool false != Value.bool true) = true from rfl)]
    refine wpAny_bind (wpAny_setField_rec he₄ (by simp) fun h₅ he₅ hs₅ => ?_)
    replace hs₅ : Heap.SameBut e h₄ h₅ := hs₅
    replace he₅ : EnHeld h₅ e it ((i : Int) + 1) item a true := he₅
    refine wpAny_pure ?_
    simp only [Bool.false_eq_true, if_false]
    exact wpAny_pure ⟨_, rfl, fin h₅ he₅ hs₅⟩

theorem en_pyNext_held {e it l a : Addr} {f : Bool} {oa : Obj} {i : Nat} {items : Array Value}
    {x item : Value} {Q : Option Value → Shared → Prop} (he : EnHeld s.heap e it i item a f)
    (ha : s.heap.get? a = some oa) (hae : a ≠ e) (hai : a ≠ it)
    (hit : s.heap.IsListIter it l i) (hl : s.heap.IsList l items) (hx : items[i]? = some x) (hne : e ≠ it)
    (hQ : ∀ h', EnHeld h' e it ((i : Int) + 1) item a true → h'.IsListIter it l (i + 1) →
      h'.get? s.heap.objs.size = some { cls := .type "tuple", data := .seq #[.int i s.toks, x] } →
      h'.objs.size = s.heap.objs.size + 1 →
      (∀ b o, b ≠ e → b ≠ it → s.heap.get? b = some o → h'.get? b = some o) →
      Q (some (.ref s.heap.objs.size)) { s with heap := h', toks := s.toks + 1 }) :
    wpAny (model prog w) A (pyNext (.ref e)) Q E s := by
  have hT : s.TypeIs (.ref e) "enumerate" := ⟨_, he, rfl⟩
  unfold pyNext
  refine wpAny_bind (wpAny_attempt (wpAny_callSpecial?_slot (name := Str.ofString "__next__") hT F.slot_enumerate_next
    (wpAny_call_entry F.slot_enumerate_next hT F.entry_enumerate_next ?_ (F.args_enumerate_next_1 _))))
  refine en_next_held he ha hae hai hit hl hx hne fun h' a1 a2 a3 a4 a5 => ?_
  exact wpAny_pure (hQ h' a1 a2 a3 a4 a5)

theorem en_pyNext_held_end {e it l a : Addr} {f : Bool} {i : Nat} {items : Array Value} {item : Value}
    {Q : Option Value → Shared → Prop} (hh : A.handled = none) (he : EnHeld s.heap e it i item a f)
    (hit : s.heap.IsListIter it l i) (hl : s.heap.IsList l items) (hx : items[i]? = none)
    (hQ : ∀ h', Heap.ExtBut it s.heap h' → Q none { s with heap := h' }) :
    wpAny (model prog w) A (pyNext (.ref e)) Q E s := by
  have hT : s.TypeIs (.ref e) "enumerate" := ⟨_, he, rfl⟩
  unfold pyNext
  refine wpAny_bind (wpAny_attempt (wpAny_callSpecial?_slot (name := Str.ofString "__next__") hT F.slot_enumerate_next
    (wpAny_call_entry F.slot_enumerate_next hT F.entry_enumerate_next ?_ (F.args_enumerate_next_1 _))))
  show wpAny _ _ (field (.ref e) 2 >>= _) _ _ _
  refine wpAny_bind (wpAny_field he rfl (x := .ref it) rfl ?_)
  refine wpAny_bind (wpAny_nextOf_list_end hh hit hl hx fun h' x he' hx' => ?_)
  refine wpAny_bind (wpAny_isInstance (T := "StopIteration") (b := true) hx' isSubtype_stop ?_)
  exact wpAny_pure (hQ h' he')
end

/-! ### the items as pairs of their place and themselves -/
def enV {α : Type} : Nat → List α → List (Key × α)
  | _, [] => []
  | i, x :: xs => (Sum.inl (i : Int), x) :: enV (i + 1) xs
theorem enV_len {α : Type} : ∀ (xs : List α) (i : Nat), (enV i xs).length = xs.length
  | [], _ => rfl
  | _ :: xs, i => congrArg Nat.succ (enV_len xs (i + 1))
theorem enV_get {α : Type} : ∀ (xs : List α) (i j : Nat), (enV i xs)[j]? = xs[j]?.map fun x => (Sum.inl ((i + j : Nat) : Int), x)
  | [], _, _ => rfl
  | x :: xs, i, 0 => rfl
  | x :: xs, i, j + 1 => by
    show (enV (i + 1) xs)[j]? = _
    rw [enV_get xs (i + 1) j, show i + 1 + j = i + (j + 1) by omega]
    rfl
theorem enV_kv : ∀ (xs : List V) (us : List Value) (i : Nat), Vals xs us → KV (enV i xs) (enV i us)
  | _, _, _, .nil => .nil
  | _, _, i, .cons r t => .cons ⟨rfl, r⟩ (enV_kv _ _ (i + 1) t)

section
variable {prog : Program} {w : World} {A : Around} {s : Shared} {R : Result → Shared → Prop} {items : Array Value}
abbrev EnG (prog : Program) (w : World) (items : Array Value) (lo : Addr) (h : Heap) (as : List Addr) : Prop :=
  PySem.W.KdxG (mixKind prog w) (enV 0 items.toList) lo h as

theorem en_loop {S I it l : Addr} (hh : A.handled = none) (hIS : I < S) (hSit : it ≠ S) (hlS : l ≠ S) (hlI : l ≠ I)
    (hlit : l ≠ it) (hIit : I ≠ it) (hitS : it < S) (hn : items.size ≤ sizeLine) (res : Value) {h₁ : Heap}
    (hR : ∀ h' tk acc c as, (∀ b o, b ≠ S → b ≠ I → b ≠ it → h₁.get? b = some o → h'.get? b = some o) →
      h'.get? S = some { cls := .type "list", dict := none, data := .seq acc c, slots := #[] } →
      as.length = items.size → EnG prog w items S h' as → acc.toList = as.map Value.ref →
      R (.ok (.ret res)) { s with heap := h', toks := tk }) :
    ∀ (k i : Nat) (h : Heap) (tk c : Nat) (acc : Array Value) (as : List Addr), items.size - i = k →
      i ≤ items.size → EnSt h I it l S i → h.IsList l items →
      (∀ b o, b ≠ S → b ≠ I → b ≠ it → h₁.get? b = some o → h.get? b = some o) →
      h.get? S = some { cls := .type "list", dict := none, data := .seq acc c, slots := #[] } →
      acc.toList = as.map Value.ref → as.length = i → EnG prog w items S h as →
      codeAny (model prog w) A (.builtin "list.extend.loop" ⟨[.ref S, .ref I, res], []⟩) R
        { s with heap := h, toks := tk } := by
  have hne : S ≠ I := Nat.ne_of_gt hIS
  intro k
  induction k with
  | zero =>
    intro i h tk c acc as hk hi hst hl hkeep hS hacc hal hG
    have hin : i = items.size := by omega
    refine codeAny_builtin PySem.F.entry_extend_loop ?_
    rw [Around.under_plainId PySem.F.plain_extend_loop _]
    show wpAny _ A.in1 (pyNext (.ref I) >>= _) _ _ _
    have hx : items[i]? = none := Array.getElem?_eq_none (by omega)
    have fin : ∀ h' : Heap, Heap.ExtBut it h h' → R (.ok (.ret res)) { s with heap := h', toks := tk } := fun h' he => by
      refine hR h' tk acc c as (fun b o h1 h2 h3 e => he b o h3 (hkeep b o h1 h2 h3 e)) (he S _ (Ne.symm hSit) hS) (by omega)
        ⟨hG.rise, hG.above, fun j a hj => ?_⟩ hacc
      obtain ⟨key, kk, x, e1, e2, e3⟩ := hG.pairs j a hj
      refine ⟨key, kk, x, e1, e2, he a _ ?_ e3⟩
      have := hG.above a (List.mem_of_getElem? hj)
      exact Nat.ne_of_gt (Nat.lt_trans hitS this)
    rcases hst.2 with ⟨old, he⟩ | ⟨item, a, f, oa, he, ha, n1, n2, n3⟩
    · refine wpAny_bind (wpAny_pyNext_enum_end (s := { s with heap := h, toks := tk }) (A := A.in1) hh he hst.1 hl hx fun h' e => ?_)
      exact wpAny_pure (fin h' e)
    · refine wpAny_bind (en_pyNext_held_end (s := { s with heap := h, toks := tk }) (A := A.in1) hh he hst.1 hl hx fun h' e => ?_)
      exact wpAny_pure (fin h' e)
  | succ k ih =>
    intro i h tk c acc as hk hi hst hl hkeep hS hacc hal hG
    have hlt : i < items.size := by omega
    have hx : items[i]? = some items[i] := Array.getElem?_eq_getElem hlt
    generalize items[i] = x at hx
    have hsz : acc.size = i := by rw [← Array.length_toList, hacc, List.length_map, hal]
    have hSl : S < h.objs.size := Heap.lt_size hS
    refine codeAny_builtin PySem.F.entry_extend_loop ?_
    rw [Around.under_plainId PySem.F.plain_extend_loop _]
    show wpAny _ A.in1 (pyNext (.ref I) >>= _) _ _ _
    have fin : ∀ h' : Heap, EnSt h' I it l S (i + 1) →
        h'.get? h.objs.size = some { cls := .type "tuple", data := .seq #[.int i tk, x] } →
        h'.objs.size = h.objs.size + 1 → (∀ b o, b ≠ I → b ≠ it → h.get? b = some o → h'.get? b = some o) →
        wpAny (model prog w) A.in1 (updateSeq S (·.push (Value.ref h.objs.size)) >>= fun _ =>
          again (.builtin "list.extend.loop" ⟨[.ref S, .ref I, res], []⟩))
          (fun fin s' => match fin with | .done f => R (.ok f) s' | .again c' => c'.quiet = true ∧ codeAny (model prog w) A c' R s')
          (fun e s' => R (.error e) s') { s with heap := h', toks := tk + 1 } := fun h' hst' ht hz hkp => by
      have hS' := hkp S _ hne (Ne.symm hSit) hS
      have up : ∀ b o, b ≠ S → h'.get? b = some o → (h'.update S (Obj.mapSeq (·.push (Value.ref h.objs.size)))).get? b = some o :=
        fun b o hb e => (Heap.get?_update_other _ _ (Ne.symm hb)).trans e
      have hl' : h'.IsList l items := hl.at fun o e => hkp l o hlI hlit e
      refine wpAny_bind (wpAny_updateSeq hS' rfl (wpAny_pure ⟨plainId_quiet PySem.F.plain_extend_loop _,
        ih (i + 1) _ (tk + 1) _ (acc.push (Value.ref h.objs.size)) (as ++ [h.objs.size]) (by omega) hlt
          (hst'.keep up (Ne.symm hne) hSit) (hl'.at fun o e => up l o hlS e)
          (fun b o h1 h2 h3 e => up b o h1 (hkp b o h2 h3 (hkeep b o h1 h2 h3 e))) (Heap.get?_update_self _ hS' rfl)
          (by rw [Array.toList_push, hacc, List.map_append]; rfl) (by rw [List.length_append, hal]; rfl) ⟨?_, ?_, ?_⟩⟩) ?_)
      · refine List.pairwise_append.mpr ⟨hG.rise, List.pairwise_singleton _ _, fun a ha b hb => ?_⟩
        rw [List.mem_singleton.mp hb]
        exact hG.there ha
      · intro a ha
        rcases List.mem_append.mp ha with ha | ha
        · exact hG.above a ha
        · rw [List.mem_singleton.mp ha]
          exact hSl
      · intro j b hj
        rcases Nat.lt_trichotomy j as.length with h1 | h1 | h1
        · rw [List.getElem?_append_left h1] at hj
          obtain ⟨key', k', x', e1, e2, e3⟩ := hG.pairs j b hj
          have hb := hG.above b (List.mem_of_getElem? hj)
          exact ⟨key', k', x', e1, e2, up b _ (Nat.ne_of_gt hb) (hkp b _ (Nat.ne_of_gt (Nat.lt_trans hIS hb))
            (Nat.ne_of_gt (Nat.lt_trans hitS hb)) e3)⟩
        · subst h1
          have hb : h.objs.size = b := by simpa using hj
          subst hb
          refine ⟨.int (i : Int) tk, Sum.inl (i : Int), x, ?_, mixKind_int prog w _ _, up _ _ (Nat.ne_of_gt hSl) ht⟩
          rw [enV_get, Array.getElem?_toList, hal, hx, Nat.zero_add]
          rfl
        · have hnone : (as ++ [h.objs.size])[j]? = none := List.getElem?_eq_none (by rw [List.length_append, List.length_singleton]; omega)
          rw [hnone] at hj
          cases hj
      · rw [hsz]
        omega
    rcases hst.2 with ⟨old, he⟩ | ⟨item, a, f, oa, he, ha, n1, n2, n3⟩
    · refine wpAny_bind (wpAny_pyNext_enum_item (s := { s with heap := h, toks := tk }) (A := A.in1) he hst.1 hl hx hIit fun h' g1 g2 g3 g4 g5 => ?_)
      refine fin h' ⟨g2, .inr ⟨x, h.objs.size, false, _, g1, g3, Nat.ne_of_gt (Heap.lt_size he), ?_, Nat.ne_of_gt hSl⟩⟩ g3 g4 g5
      obtain ⟨o, ho, _⟩ := hst.1
      exact Nat.ne_of_gt (Heap.lt_size ho)
    · refine wpAny_bind (en_pyNext_held (s := { s with heap := h, toks := tk }) (A := A.in1) he ha n1 n2 hst.1 hl hx hIit fun h' g1 g2 g3 g4 g5 => ?_)
      exact fin h' ⟨g2, .inr ⟨item, a, true, oa, g1, g5 a _ n1 n2 ha, n1, n2, n3⟩⟩ g3 g4 g5
end
end PB

namespace PB
open PySem PySem.Spec PyProof.Rows L2
theorem en_no_len : typeLookup (.type "enumerate") "__len__" = pure none := by
  rw [typeLookup_type, builtinLookup_eq_fast]
  kernel_rfl
theorem en_no_hint : typeLookup (.type "enumerate") "__length_hint__" = pure none := by
  rw [typeLookup_type, builtinLookup_eq_fast]
  kernel_rfl
section
variable {prog : Program} {w : World} {A : Around} {s : Shared} {items : Array Value}

theorem en_extend {R : Result → Shared → Prop} {I it l : Addr} (hh : A.handled = none)
    (he : IsEnum s.heap I it 0 .none) (hit : s.heap.IsListIter it l 0) (hl : s.heap.IsList l items)
    (S : Addr) (hIS : I < S) (hSit : it ≠ S) (hlS : l ≠ S) (hlI : l ≠ I) (hlit : l ≠ it) (hIit : I ≠ it)
    (hitS : it < S) (hn : items.size ≤ sizeLine) (res : Value) (c₀ : Nat)
    (hS : s.heap.get? S = some { cls := .type "list", data := .seq #[] c₀ })
    (hR : ∀ h' tk acc c as, (∀ b o, b ≠ S → b ≠ I → b ≠ it → s.heap.get? b = some o → h'.get? b = some o) →
      h'.get? S = some { cls := .type "list", dict := none, data := .seq acc c, slots := #[] } →
      as.length = items.size → EnG prog w items S h' as → acc.toList = as.map Value.ref →
      R (.ok (.ret res)) { s with heap := h', toks := tk }) :
    wpAny (model prog w) A.in1 (Builtin.List.listExtendWith (.ref S) (.ref I) res)
      (fun fin s' => match fin with | .done f => R (.ok f) s' | .again c' => c'.quiet = true ∧ codeAny (model prog w) A c' R s')
      (fun e s' => R (.error e) s') s := by
  have hSne : S ≠ I := Nat.ne_of_gt hIS
  have hT : s.TypeIs (.ref I) "enumerate" := ⟨_, he, rfl⟩
  unfold Builtin.List.listExtendWith
  refine wpAny_bind (wpAny_typeOf hT ?_)
  have h1 : Builtin.List.listSameRef (.ref S) (.ref I) = false := by simp [Builtin.List.listSameRef, hSne]
  have h2 : (Value.type "enumerate" == Value.type "list") = false := by decide
  have h3 : (Value.type "enumerate" == Value.type "tuple") = false := by decide
  simp only [h1, h2, h3, Bool.or_false, Bool.false_eq_true, if_false]
  refine wpAny_bind (wpAny_pyIter_enum he ?_)
  refine wpAny_bind (wpAny_holding ?_)
  unfold Builtin.List.listLengthHint
  refine wpAny_bind (wpAny_specialOf hT en_no_len ?_)
  show wpAny _ A.in1 (specialOf (Value.ref I) (Str.ofString "__length_hint__") >>= _) _ _ _
  refine wpAny_bind (wpAny_specialOf hT en_no_hint ?_)
  refine wpAny_pure ?_
  show wpAny _ A.in1 (rule "list.extend.makes-room" >>= fun _ =>
    Builtin.List.listTouch (.ref S) >>= fun _ =>
    again (.builtin "list.extend.loop" ⟨[.ref S, .ref I, res], []⟩)) _ _ _
  refine wpAny_bind (wpAny_rule ?_)
  refine wpAny_bind ?_
  show wpAny _ A.in1 (updateSeq S (·.push .none) >>= fun _ => updateSeq S (·.pop)) _ _ _
  refine wpAny_bind (wpAny_updateSeq hS rfl ?_)
  have hS₂ := Heap.get?_update_self (Obj.mapSeq (·.push Value.none)) hS rfl
  refine wpAny_updateSeq (hz := by seq_fits) hS₂ rfl ?_
  have hS₃ := Heap.get?_update_self (Obj.mapSeq (·.pop)) hS₂ rfl
  have oth : ∀ b o, b ≠ S → s.heap.get? b = some o →
      ((s.heap.update S (Obj.mapSeq (·.push Value.none))).update S (Obj.mapSeq (·.pop))).get? b = some o :=
    fun b o hb e => (Heap.get?_update_other _ _ (Ne.symm hb)).trans
      ((Heap.get?_update_other _ _ (Ne.symm hb)).trans e)
  obtain ⟨oit, hoit, rit⟩ := hit
  refine wpAny_pure ⟨plainId_quiet PySem.F.plain_extend_loop _, en_loop (s := s) (h₁ := s.heap) hh hIS hSit hlS hlI hlit hIit hitS hn res
    (fun h' tk acc c as k1 k2 k3 k4 k5 => hR h' tk acc c as k1 k2 k3 k4 k5)
    items.size 0 _ _ _ #[] [] (Nat.sub_zero _) (Nat.zero_le _)
    ⟨⟨oit, oth _ _ hSit hoit, rit⟩, .inl ⟨.none, oth _ _ hSne.symm he⟩⟩ (hl.at fun o e => oth _ _ hlS e)
    (fun b o h1 h2 h3 e => oth b o h1 e) hS₃ rfl rfl ⟨List.Pairwise.nil, (fun _ ha => nomatch ha), (fun j a hj => by simp at hj)⟩⟩

theorem en_init {R : Result → Shared → Prop} {I it l : Addr} (hh : A.handled = none)
    (he : IsEnum s.heap I it 0 .none) (hit : s.heap.IsListIter it l 0) (hl : s.heap.IsList l items)
    (S : Addr) (hIS : I < S) (hSit : it ≠ S) (hlS : l ≠ S) (hlI : l ≠ I) (hlit : l ≠ it) (hIit : I ≠ it)
    (hitS : it < S) (hn : items.size ≤ sizeLine)
    (hS : s.heap.get? S = some { cls := .type "list", data := .seq #[] })
    (hR : ∀ h' tk acc c as, (∀ b o, b ≠ S → b ≠ I → b ≠ it → s.heap.get? b = some o → h'.get? b = some o) →
      h'.get? S = some { cls := .type "list", dict := none, data := .seq acc c, slots := #[] } →
      as.length = items.size → EnG prog w items S h' as → acc.toList = as.map Value.ref →
      R (.ok (.ret .none)) { s with heap := h', toks := tk }) :
    wpAny (model prog w) A.in1 (Builtin.«list.__init__» ⟨[.ref S, .ref I], []⟩)
      (fun fin s' => match fin with | .done f => R (.ok f) s' | .again c' => c'.quiet = true ∧ codeAny (model prog w) A c' R s')
      (fun e s' => R (.error e) s') s := by
  show wpAny _ _ (do let old ← Builtin.List.listItems (.ref S); Builtin.List.listUpdate (.ref S) (fun _ => #[]); letGo old.toList.reverse; Builtin.List.listExtendWith (.ref S) (.ref I) .none) _ _ s
  refine wpAny_bind ?_
  unfold Builtin.List.listItems
  refine wpAny_bind (wpAny_seqItems hS rfl (wpAny_pure ?_))
  show wpAny _ _ (updateSeq S (fun _ => #[]) >>= fun _ => letGo (#[] : Array Value).toList.reverse >>= fun _ => Builtin.List.listExtendWith (.ref S) (.ref I) .none) _ _ s
  refine wpAny_bind (wpAny_updateSeq hS rfl ?_)
  have hS₂ := Heap.get?_update_self (Obj.mapSeq (fun _ => (#[] : Array Value))) hS rfl
  have oth : ∀ b o, b ≠ S → s.heap.get? b = some o → (s.heap.update S (Obj.mapSeq (fun _ => (#[] : Array Value)))).get? b = some o :=
    fun b o hb e => (Heap.get?_update_other _ _ (Ne.symm hb)).trans e
  refine wpAny_bind (wpAny_letGo ?_)
  obtain ⟨oit, hoit, rit⟩ := hit
  refine en_extend hh (oth _ _ (Nat.ne_of_lt hIS) he) ⟨oit, oth _ _ hSit hoit, rit⟩ (hl.at fun o e => oth _ _ hlS e) S hIS hSit hlS hlI hlit hIit hitS hn .none _ hS₂
    fun h' tk acc c as k1 k2 k3 k4 k5 => hR h' tk acc c as (fun b o n1 n2 n3 e => k1 b o n1 n2 n3 (oth b o n1 e)) k2 k3 k4 k5

theorem en_call {Q : Value → Shared → Prop} {E : Value → Shared → Prop} {I it l : Addr} (hh : A.handled = none)
    (he : IsEnum s.heap I it 0 .none) (hit : s.heap.IsListIter it l 0) (hl : s.heap.IsList l items)
    (hlI : l ≠ I) (hlit : l ≠ it) (hIit : I ≠ it) (hn : items.size ≤ sizeLine)
    (hQ : ∀ h' tk acc c as, (∀ b o, b ≠ I → b ≠ it → s.heap.get? b = some o → h'.get? b = some o) →
      h'.get? s.heap.objs.size = some { cls := .type "list", dict := none, data := .seq acc c, slots := #[] } →
      as.length = items.size → EnG prog w items s.heap.objs.size h' as → acc.toList = as.map Value.ref →
      Q (.ref s.heap.objs.size) { s with heap := h', toks := tk }) :
    wpAny (model prog w) A (call (.type "list") [.ref I]) Q E s := by
  refine callType_codes (Q₁ := fun obj s₁ => obj = .ref s.heap.objs.size ∧ s₁ = { s with heap := s.heap.push { cls := .type "list", data := .seq #[] } })
    PySem.F.called_list (PySem.F.typeCall_list_1 _) PySem.F.entry_list_init (code_list_new _ ⟨rfl, rfl⟩) fun obj s₁ h₁ => ?_
  obtain ⟨rfl, rfl⟩ := h₁
  have hS : (s.heap.push { cls := .type "list", data := .seq #[] }).get? s.heap.objs.size = some { cls := .type "list", data := .seq #[] } := Heap.get?_push_size _ rfl
  have lI : I < s.heap.objs.size := Heap.lt_size he
  obtain ⟨oit, hoit, rit⟩ := hit
  have lit : it < s.heap.objs.size := Heap.lt_size hoit
  obtain ⟨ol, hol, rl⟩ := hl
  have ll : l < s.heap.objs.size := Heap.lt_size hol
  refine ⟨⟨_, hS, rfl⟩, PySem.F.args_list_init_2 _ _, en_init (A := A.in1) hh (Heap.get?_push_of_some _ he) ⟨oit, Heap.get?_push_of_some _ hoit, rit⟩
    ⟨ol, Heap.get?_push_of_some _ hol, rl⟩ _ lI (Nat.ne_of_lt lit) (Nat.ne_of_lt ll) hlI hlit hIit lit hn hS fun h' tk acc c as k1 k2 k3 k4 k5 => ?_⟩
  exact ⟨rfl, hQ h' tk acc c as (fun b o n1 n2 e => k1 b o (Nat.ne_of_lt (Heap.lt_size e)) n1 n2 (Heap.get?_push_of_some _ e)) k2 k3 k4 k5⟩
end


/-- behind a call that has laid a list at p and pairs above it -/
theorem pairs_laid {X : Cx} {pins : List (Addr × Obj)} {σ : L2.St} {H : Hp} {s : Shared} {h' : Heap} {tk : Nat}
    {kvs : List (Key × V)} {vs : List (Key × Value)} {acc : Array Value} {c : Nat} {p : Addr} {as : List Addr}
    (I : Inv X pins σ H s) (hz : kvs.length ≤ sizeLine) (kv : KV kvs vs) (hp : s.heap.objs.size ≤ p)
    (hk : ∀ b o, s.heap.get? b = some o → h'.get? b = some o)
    (hS : h'.get? p = some { cls := .type "list", dict := none, data := .seq acc c, slots := #[] })
    (hl : as.length = vs.length) (hG : PySem.W.KdxG (mixKind X.prog X.w) vs p h' as)
    (hacc : acc.toList = as.map Value.ref) :
    ∃ H' : Hp, Same H H' ∧ H p = none ∧ (∀ t ∈ as, H t = none) ∧ p ∉ as ∧ H' p = some (.lst (as.map V.ref)) ∧
      Paired (fun (t : Addr) (q : Key × V) => H' t = some (.tup [kV q.1, q.2])) as kvs ∧
      Inv X pins σ H' { s with heap := h', toks := tk } := by
  have lk : kvs.length = vs.length := Paired.length kv
  have hpn : p ∉ as := fun z => Nat.lt_irrefl _ (hG.above _ z)
  have nd : as.Nodup := List.Pairwise.imp (fun {a b} (h : a < b) => Nat.ne_of_lt h) hG.rise
  have new : ∀ t ∈ as, H t = none := fun t ht =>
    I.hok.fresh (Nat.le_trans hp (Nat.le_of_lt (hG.above t ht)))
  have newS : H p = none := I.hok.fresh hp
  let G : Hp := LiI.putT (upd H p (.lst (as.map V.ref))) as kvs
  have atP : Paired (fun (t : Addr) (q : Key × V) => G t = some (.tup [kV q.1, q.2])) as kvs :=
    LiI.putT_at as kvs (upd H p (.lst (as.map V.ref))) (by omega) nd
  have off : ∀ b, b ∉ as → b ≠ p → G b = H b := fun b h1 h2 =>
    (LiI.putT_off as kvs _ h1).trans (upd_ne h2)
  have low : ∀ b o, s.heap.get? b = some o → b ∉ as ∧ b ≠ p := fun b o e =>
    ⟨fun z => absurd (Heap.lt_size e) (Nat.not_lt.mpr (Nat.le_trans hp (Nat.le_of_lt (hG.above b z)))),
      Nat.ne_of_lt (Nat.lt_of_lt_of_le (Heap.lt_size e) hp)⟩
  have kp : ∀ b u, H b = some u → G b = some u := fun b u e => by
    rw [off b (fun z => by rw [new b z] at e; cases e) (fun z => by rw [z, newS] at e; cases e)]
    exact e
  have eS : G p = some (.lst (as.map V.ref)) := (LiI.putT_off as kvs _ hpn).trans upd_same
  refine ⟨G, kp, newS, new, hpn, eS, atP, ?_⟩
  refine I.call' (ch := []) rfl ⟨fun b o q _ _ _ => hk b o q, fun b o q _ _ _ => ⟨o.slots, hk b o q⟩,
    fun b o q n _ => ?_, fun b o q _ => ⟨o, hk b o q⟩, fun b xs q => kp b _ q, fun b o u q => kp b _ q,
    fun b ps q => ⟨#[], by rw [kp b _ q]; simp⟩⟩ (fun b u q => ?_) I.bare fun b z => by simp at z
  · obtain ⟨z1, z2⟩ := low b o q
    rw [off b z1 z2]
    exact n
  · by_cases hb : b ∈ as
    · obtain ⟨j, pk, e1, e2, e3⟩ := LiI.paired_ix atP hb
      rw [e3] at q
      cases q
      obtain ⟨key, k, x, f1, f2, f3⟩ := hG.pairs j b e1
      obtain ⟨qv, g1, g2, g3⟩ := LiI.paired_get kv e2
      rw [f1] at g1
      cases g1
      have rk : RelV (kV pk.1) key := by
        rw [g2]
        exact relV_key (show keyIs k key = true from f2)
      exact ⟨by show 2 ≤ sizeLine; decide, [key, x], .cons rk (.cons g3 .nil), ⟨_, f3, rfl, _, rfl⟩⟩
    · by_cases hb2 : b = p
      · subst hb2
        rw [eS] at q
        cases q
        refine ⟨by rw [List.length_map]; omega, acc.toList, c, by rw [hacc]; exact LiI.vals_refs as, ?_⟩
        rw [Array.toArray_toList]
        exact hS
      · rw [off b hb hb2] at q
        exact (I.hok b u q).stay (fun d v _ y => hk d v y) (fun d y => kp d _ y) fun d xs y => kp d _ y
/-- list(enumerate(e)): a new list of new pairs -/
def rLE (K : PySem.W.Frag) (x : V) (H : Hp) (Q : VK) : Prop := ∃ (a : Addr) (xs : List V), x = .ref a ∧ SqL K H a xs ∧
  ∀ (H' : Hp) (p : Addr) (ts : List Addr), Same H H' → H p = none → (∀ t ∈ ts, H t = none) → p ∉ ts →
    H' p = some (.lst (ts.map V.ref)) →
    Paired (fun (t : Addr) (q : Key × V) => H' t = some (.tup [kV q.1, q.2])) ts (enV 0 xs) → Q (.ref p) H'
def tLE (K : PySem.W.Frag) (te : TE) : TE := fun σ H Q => te σ H fun x H1 => rLE K x H1 Q
section
variable {X : Cx} {e : Expr} {te : TE} {p p2 pos pos2 : Pos}
theorem pe_listEnum (hc : X.calm = true) (hg : Gl X "list") (hm : X.mg "list" = none) (hg2 : Gl X "enumerate")
    (hm2 : X.mg "enumerate" = none) (he : PE X e te)
    (hs : starEach [e] X.env = (false, eval e X.env) :: starEach [] X.env := by rfl)
    (hs2 : starEach [.Call (.Name "enumerate" p2) [e] [] pos2] X.env =
      (false, eval (.Call (.Name "enumerate" p2) [e] [] pos2) X.env) :: starEach [] X.env := by rfl) :
    PE X (.Call (.Name "list" p) [.Call (.Name "enumerate" p2) [e] [] pos2] [] pos) (tLE X.K te) := by
  refine ⟨fun pins s σ H Q I h => ?_⟩
  refine Call_ (ld_blt I hg hm boot_list (PyProof.Rows.callWith_type1 (args_cons ?_ hs2) hs2))
  refine Call_ (ld_blt I hg2 hm2 boot_enumerate (PyProof.Rows.callWith_type1 (one_arg he I h (fun v s1 x H1 I1 rx q => ?_) hs) hs))
  obtain ⟨a, xs, rfl, hq, q⟩ := q
  obtain rfl : v = .ref a := rx
  obtain ⟨its, rv, pl, hz⟩ := I1.list hq
  have hlen := rv.length
  refine call_enumerate_list pl.isList fun h1 he1 hit1 hsz1 hk1 => ?_
  refine args_nil ?_
  have I2 : Inv X pins σ H1 { s1 with heap := h1 } := I1.kept (t' := s1.toks) hk1
  obtain ⟨ol, hol, rl⟩ := pl.isList
  have ll : a < s1.heap.objs.size := Heap.lt_size hol
  have n0 : H1 (s1.heap.objs.size + 1) = none := I1.hok.fresh (Nat.le_succ _)
  have n1 : H1 s1.heap.objs.size = none := I1.hok.fresh (Nat.le_refl _)
  refine en_call (s := { s1 with heap := h1 }) (items := its.toArray) (I2.ok.hd hc) he1 hit1 ⟨ol, hk1 _ _ hol, rl⟩
    (by exact Nat.ne_of_lt (Nat.lt_succ_of_lt ll)) (Nat.ne_of_lt ll) (Nat.succ_ne_self _) (by simp only [List.size_toArray]; omega)
    fun h2 tk acc c as k1 k2 k3 k4 k5 => ?_
  have eI : EnG X.prog X.w its.toArray h1.objs.size h2 as := k4
  obtain ⟨H', g1, g2, g3, g4, g5, g6, J⟩ := pairs_laid (tk := tk) (p := h1.objs.size) (kvs := enV 0 xs) (vs := enV 0 its) (as := as) I1
    (by rw [enV_len]; exact hz) (enV_kv xs its 0 rv) (by rw [hsz1]; omega)
    (fun b o e => k1 b o (Nat.ne_of_lt (Nat.lt_succ_of_lt (Heap.lt_size e))) (Nat.ne_of_lt (Heap.lt_size e)) (hk1 b o e))
    k2 (by rw [enV_len, k3]; simp) (by simpa using k4) k5
  exact ⟨.ref _, H', J, rfl, q H' _ as g1 g2 g3 g4 g5 g6⟩
end
end PB

namespace PB
open PySem PySem.Spec PyProof.Rows L2
/-! ### list(zip(xs, ys)): the tuples given out are all held -/
abbrev ZiHeld (h : Heap) (z TI TO : Addr) (a : Addr) (f : Bool) : Prop :=
  h.get? z = some { cls := .type "zip", dict := none, data := .fields #[rawInt a, .bool f, .bool false, .ref TI, .ref TO], slots := #[] }
section
variable {prog : Program} {w : World} {A : Around} {E : Value → Shared → Prop} {s : Shared}
theorem zi_free_held {z TI TO a : Addr} {f : Bool} {oa : Obj} {Q : Bool → Shared → Prop} (hz : ZiHeld s.heap z TI TO a f) (ha : s.heap.get? a = some oa)
    (hQ : ∀ h', ZiHeld h' z TI TO a true → Heap.SameBut z s.heap h' → Q false { s with heap := h' }) :
    wpAny (model prog w) A (Builtin.SmallTypes.ownedTupleIsFree (.ref z)) Q E s := by
  unfold Builtin.SmallTypes.ownedTupleIsFree
  refine wpAny_bind (wpAny_field hz rfl (x := rawInt a) rfl ?_)
  show wpAny _ _ (loadIfAlive ((a : Int).toNat) >>= _) _ _ _
  rw [Int.toNat_natCast]
  refine wpAny_bind (en_alive ha ?_)
  simp only [Option.isNone_some, Bool.false_eq_true, if_false]
  refine wpAny_bind (wpAny_field hz rfl (x := .bool f) rfl ?_)
  cases f with
  | true =>
    rw [if_neg (show ¬ ((Value.bool true != Value.bool true) = true) from Bool.false_ne_true)]
    exact wpAny_pure (hQ _ hz (Heap.SameBut.refl _ _))
  | false =>
    rw [if_pos (show (Value.bool false != Value.bool true) = true from rfl)]
    refine wpAny_bind (wpAny_setField_rec hz (by simp) fun h₅ he₅ hs₅ => ?_)
    exact wpAny_pure (hQ h₅ he₅ hs₅)
theorem zi_next_held {z TI TO i1 i2 l1 l2 a : Addr} {f : Bool} {oa : Obj} {k : Nat} {xs ys : Array Value} {x y : Value} {Q : Value → Shared → Prop} (D : ZipApart z TI TO i1 i2 l1 l2)
    (hz : ZiHeld s.heap z TI TO a f) (ha : s.heap.get? a = some oa) (haz : a ≠ z) (ha1 : a ≠ i1) (ha2 : a ≠ i2) (hTI : IsPair s.heap TI (.ref i1) (.ref i2))
    (h1 : s.heap.IsListIter i1 l1 k) (h2 : s.heap.IsListIter i2 l2 k) (hl1 : s.heap.IsList l1 xs) (hl2 : s.heap.IsList l2 ys) (hx : xs[k]? = some x) (hy : ys[k]? = some y)
    (hQ : ∀ h', ZiHeld h' z TI TO a true → h'.IsListIter i1 l1 (k + 1) → h'.IsListIter i2 l2 (k + 1) → IsPair h' s.heap.objs.size x y → h'.objs.size = s.heap.objs.size + 1 →
      (∀ c o, c ≠ z → c ≠ i1 → c ≠ i2 → s.heap.get? c = some o → h'.get? c = some o) → Q (.ref s.heap.objs.size) { s with heap := h' }) :
    wpAny (model prog w) A (Builtin.«zip.__next__» ⟨[.ref z], []⟩) (fun fin s' => ∃ v, fin = .done (.ret v) ∧ Q v s') E s := by
  show wpAny _ _ (field (.ref z) 2 >>= _) _ _ _
  refine wpAny_bind (wpAny_field hz rfl (x := .bool false) rfl ?_)
  show wpAny _ _ (field (.ref z) 3 >>= _) _ _ _
  refine wpAny_bind (wpAny_field hz rfl (x := .ref TI) rfl ?_)
  refine wpAny_bind (wpAny_seqItems hTI rfl ?_)
  show wpAny _ _ (Builtin.SmallTypes.ownedTupleIsFree (.ref z) >>= _) _ _ _
  refine wpAny_bind (zi_free_held hz ha fun h₁ hz₁ hs₁ => ?_)
  simp only [Bool.false_eq_true, if_false]
  refine wpAny_bind ?_
  rw [← Array.forIn_toList]
  simp only [List.forIn_cons, List.forIn_nil]
  refine wpAny_bind (wpAny_bind (wpAny_holding ?_))
  show wpAny _ _ (Builtin.SmallTypes.nextOf (.ref i1) >>= _) _ _ _
  refine wpAny_bind (wpAny_nextOf_list_item (h1.extBut hs₁.extBut D.i1z) (hl1.extBut hs₁.extBut D.l1z) hx fun h₂ h1₂ hs₂ => wpAny_pure ?_)
  refine wpAny_pure ?_
  refine wpAny_bind (wpAny_bind (wpAny_holding ?_))
  show wpAny _ _ (Builtin.SmallTypes.nextOf (.ref i2) >>= _) _ _ _
  refine wpAny_bind (wpAny_nextOf_list_item ((h2.extBut hs₁.extBut D.i2z).extBut hs₂.extBut D.i12.symm) ((hl2.extBut hs₁.extBut D.l2z).extBut hs₂.extBut D.l2i1) hy fun h₃ h2₃ hs₃ => wpAny_pure ?_)
  refine wpAny_pure (wpAny_pure ?_)
  show wpAny _ _ (newTuple [x, y] >>= _) _ _ _
  refine wpAny_bind (wpAny_newTuple ?_)
  have hsz : h₃.objs.size = s.heap.objs.size := by rw [hs₃.1, hs₂.1, hs₁.1]
  have hz₃ : ZiHeld h₃ z TI TO a true := hs₃.extBut _ _ D.i2z.symm (hs₂.extBut _ _ D.i1z.symm hz₁)
  have h1₃ : h₃.IsListIter i1 l1 (k + 1) := h1₂.extBut hs₃.extBut D.i12
  have hk₃ : ∀ c o, c ≠ z → c ≠ i1 → c ≠ i2 → s.heap.get? c = some o → h₃.get? c = some o := fun c o c1 c3 c4 e =>
    hs₃.extBut _ _ c4 (hs₂.extBut _ _ c3 (hs₁.extBut _ _ c1 e))
  refine wpAny_pure ⟨_, rfl, ?_⟩
  show Q (.ref h₃.objs.size) _
  have hT : IsPair (h₃.push { cls := .type "tuple", data := .seq #[x, y] }) h₃.objs.size x y := Heap.get?_push_size _ rfl
  rw [hsz] at hT ⊢
  exact hQ _ (Heap.get?_push_of_some _ hz₃) (h1₃.at fun o e => Heap.get?_push_of_some _ e) (h2₃.at fun o e => Heap.get?_push_of_some _ e) hT (by rw [Heap.size_push, hsz]) fun c o c1 c2 c3 e => Heap.get?_push_of_some _ (hk₃ c o c1 c2 c3 e)
theorem zi_next_held_end {z TI TO i1 i2 l1 l2 a : Addr} {f : Bool} {oa : Obj} {k : Nat} {xs : Array Value} {Q : Fin → Shared → Prop} (hh : A.handled = none) (D : ZipApart z TI TO i1 i2 l1 l2)
    (hz : ZiHeld s.heap z TI TO a f) (ha : s.heap.get? a = some oa) (hTI : IsPair s.heap TI (.ref i1) (.ref i2))
    (h1 : s.heap.IsListIter i1 l1 k) (hl1 : s.heap.IsList l1 xs) (hx : xs[k]? = none)
    (hE : ∀ h' e, (∀ c o, c ≠ z → c ≠ i1 → c ≠ i2 → s.heap.get? c = some o → h'.get? c = some o) → (∃ o, h'.get? e = some o ∧ o.cls = .type "StopIteration") → E (.ref e) { s with heap := h' }) :
    wpAny (model prog w) A (Builtin.«zip.__next__» ⟨[.ref z], []⟩) Q E s := by
  show wpAny _ _ (field (.ref z) 2 >>= _) _ _ _
  refine wpAny_bind (wpAny_field hz rfl (x := .bool false) rfl ?_)
  show wpAny _ _ (field (.ref z) 3 >>= _) _ _ _
  refine wpAny_bind (wpAny_field hz rfl (x := .ref TI) rfl ?_)
  refine wpAny_bind (wpAny_seqItems hTI rfl ?_)
  show wpAny _ _ (Builtin.SmallTypes.ownedTupleIsFree (.ref z) >>= _) _ _ _
  refine wpAny_bind (zi_free_held hz ha fun h₁ hz₁ hs₁ => ?_)
  simp only [Bool.false_eq_true, if_false]
  refine wpAny_bind ?_
  rw [← Array.forIn_toList]
  simp only [List.forIn_cons, List.forIn_nil]
  refine wpAny_bind (wpAny_bind (wpAny_holding ?_))
  show wpAny _ _ (Builtin.SmallTypes.nextOf (.ref i1) >>= _) _ _ _
  refine wpAny_bind (wpAny_nextOf_list_end hh (h1.extBut hs₁.extBut D.i1z) (hl1.extBut hs₁.extBut D.l1z) hx fun h₂ e hs₂ he => ?_)
  exact hE h₂ e (fun c o c1 c3 _ x => hs₂ _ _ c3 (hs₁.extBut _ _ c1 x)) he
theorem zi_pyNext_held {z TI TO i1 i2 l1 l2 a : Addr} {f : Bool} {oa : Obj} {k : Nat} {xs ys : Array Value} {x y : Value} {Q : Option Value → Shared → Prop} (D : ZipApart z TI TO i1 i2 l1 l2)
    (hz : ZiHeld s.heap z TI TO a f) (ha : s.heap.get? a = some oa) (haz : a ≠ z) (ha1 : a ≠ i1) (ha2 : a ≠ i2) (hTI : IsPair s.heap TI (.ref i1) (.ref i2))
    (h1 : s.heap.IsListIter i1 l1 k) (h2 : s.heap.IsListIter i2 l2 k) (hl1 : s.heap.IsList l1 xs) (hl2 : s.heap.IsList l2 ys) (hx : xs[k]? = some x) (hy : ys[k]? = some y)
    (hQ : ∀ h', ZiHeld h' z TI TO a true → h'.IsListIter i1 l1 (k + 1) → h'.IsListIter i2 l2 (k + 1) → IsPair h' s.heap.objs.size x y → h'.objs.size = s.heap.objs.size + 1 →
      (∀ c o, c ≠ z → c ≠ i1 → c ≠ i2 → s.heap.get? c = some o → h'.get? c = some o) → Q (some (.ref s.heap.objs.size)) { s with heap := h' }) :
    wpAny (model prog w) A (pyNext (.ref z)) Q E s := by
  have hT : s.TypeIs (.ref z) "zip" := ⟨_, hz, rfl⟩
  unfold pyNext
  exact wpAny_bind (wpAny_attempt (wpAny_callSpecial?_slot (name := Str.ofString "__next__") hT F.slot_zip_next
    (wpAny_call_entry F.slot_zip_next hT F.entry_zip_next
      (zi_next_held D hz ha haz ha1 ha2 hTI h1 h2 hl1 hl2 hx hy fun h' a1 a2 a3 a4 a5 a6 => wpAny_pure (hQ h' a1 a2 a3 a4 a5 a6)) (F.args_zip_next_1 _))))
theorem zi_pyNext_held_end {z TI TO i1 i2 l1 l2 a : Addr} {f : Bool} {oa : Obj} {k : Nat} {xs : Array Value} {Q : Option Value → Shared → Prop} (hh : A.handled = none) (D : ZipApart z TI TO i1 i2 l1 l2)
    (hz : ZiHeld s.heap z TI TO a f) (ha : s.heap.get? a = some oa) (hTI : IsPair s.heap TI (.ref i1) (.ref i2))
    (h1 : s.heap.IsListIter i1 l1 k) (hl1 : s.heap.IsList l1 xs) (hx : xs[k]? = none)
    (hQ : ∀ h', (∀ c o, c ≠ z → c ≠ i1 → c ≠ i2 → s.heap.get? c = some o → h'.get? c = some o) → Q none { s with heap := h' }) : wpAny (model prog w) A (pyNext (.ref z)) Q E s := by
  have hT : s.TypeIs (.ref z) "zip" := ⟨_, hz, rfl⟩
  unfold pyNext
  refine wpAny_bind (wpAny_attempt (wpAny_callSpecial?_slot (name := Str.ofString "__next__") hT F.slot_zip_next
    (wpAny_call_entry F.slot_zip_next hT F.entry_zip_next (zi_next_held_end hh D hz ha hTI h1 hl1 hx fun h' e hk he => ?_) (F.args_zip_next_1 _))))
  obtain ⟨o, ho, hc⟩ := he
  refine wpAny_bind (wpAny_isInstance (T := "StopIteration") (b := true) ⟨o, ho, hc⟩ isSubtype_stop ?_)
  exact wpAny_pure (hQ _ hk)
end
end PB

namespace PB
open PySem PySem.Spec PyProof.Rows L2
/-- whole numbers, each with a thing -/
abbrev zV {α : Type} (ns : List Int) (xs : List α) : List (Key × α) := List.zip (ns.map Sum.inl) xs
theorem zV_get {α : Type} {ns : List Int} {xs : List α} {j : Nat} {n : Int} {x : α} (h1 : ns[j]? = some n) (h2 : xs[j]? = some x) : (zV ns xs)[j]? = some (Sum.inl n, x) :=
  List.getElem?_zip_eq_some.mpr ⟨by rw [List.getElem?_map, h1]; rfl, h2⟩
theorem zV_kv : ∀ (ns : List Int) (xs : List V) (us : List Value), Vals xs us → KV (zV ns xs) (zV ns us)
  | [], _, _, _ => .nil
  | _ :: _, _, _, .nil => .nil
  | n :: ns, _, _, .cons r t => .cons ⟨rfl, r⟩ (zV_kv ns _ _ t)
def ZiSt (h : Heap) (z TI TO i1 i2 l1 l2 S : Addr) (i : Nat) : Prop := h.IsListIter i1 l1 i ∧ h.IsListIter i2 l2 i ∧ IsPair h TI (.ref i1) (.ref i2) ∧ (∃ a b, IsPair h TO a b) ∧
  (IsZip h z TI TO .none ∨ ∃ a f oa, ZiHeld h z TI TO a f ∧ h.get? a = some oa ∧ a ≠ z ∧ a ≠ i1 ∧ a ≠ i2 ∧ a ≠ S)
structure ZiOff (z TI TO i1 i2 l1 l2 S : Addr) : Prop where
  z : z < S
  ti : TI < S
  to : TO < S
  i1 : i1 < S
  i2 : i2 < S
  l1 : l1 ≠ S
  l2 : l2 ≠ S
theorem ZiSt.keep {h h' : Heap} {z TI TO i1 i2 l1 l2 S : Addr} {i : Nat} (O : ZiOff z TI TO i1 i2 l1 l2 S) (x : ZiSt h z TI TO i1 i2 l1 l2 S i)
    (hk : ∀ b o, b ≠ S → h.get? b = some o → h'.get? b = some o) : ZiSt h' z TI TO i1 i2 l1 l2 S i := by
  obtain ⟨x1, x2, x3, ⟨a, b, x4⟩, x⟩ := x
  refine ⟨x1.at fun o e => hk _ _ (Nat.ne_of_lt O.i1) e, x2.at fun o e => hk _ _ (Nat.ne_of_lt O.i2) e, hk _ _ (Nat.ne_of_lt O.ti) x3, ⟨a, b, hk _ _ (Nat.ne_of_lt O.to) x4⟩, ?_⟩
  rcases x with y | ⟨a, f, oa, y, z1, n1, n2, n3, n4⟩
  · exact .inl (hk _ _ (Nat.ne_of_lt O.z) y)
  · exact .inr ⟨a, f, oa, hk _ _ (Nat.ne_of_lt O.z) y, hk _ _ n4 z1, n1, n2, n3, n4⟩
section
variable {prog : Program} {w : World} {A : Around} {s : Shared} {R : Result → Shared → Prop} {xs ys : Array Value} {ns : List Int}
abbrev ZiG (prog : Program) (w : World) (ns : List Int) (ys : Array Value) (lo : Addr) (h : Heap) (as : List Addr) : Prop :=
  PySem.W.KdxG (mixKind prog w) (zV ns ys.toList) lo h as
theorem zi_loop {S z TI TO i1 i2 l1 l2 : Addr} (hh : A.handled = none) (D : ZipApart z TI TO i1 i2 l1 l2) (O : ZiOff z TI TO i1 i2 l1 l2 S) (hsz : xs.size = ys.size)
    (hint : ∀ (j : Nat) u, xs[j]? = some u → ∃ n t, ns[j]? = some n ∧ u = .int n t) (hn : xs.size ≤ sizeLine) (res : Value) {h₁ : Heap}
    (hR : ∀ h' acc c as, (∀ b o, b ≠ S → b ≠ z → b ≠ TO → b ≠ i1 → b ≠ i2 → h₁.get? b = some o → h'.get? b = some o) →
      h'.get? S = some { cls := .type "list", dict := none, data := .seq acc c, slots := #[] } →
      as.length = xs.size → ZiG prog w ns ys S h' as → acc.toList = as.map Value.ref →
      R (.ok (.ret res)) { s with heap := h' }) :
    ∀ (k i : Nat) (h : Heap) (c : Nat) (acc : Array Value) (as : List Addr), xs.size - i = k →
      i ≤ xs.size → ZiSt h z TI TO i1 i2 l1 l2 S i → h.IsList l1 xs → h.IsList l2 ys →
      (∀ b o, b ≠ S → b ≠ z → b ≠ TO → b ≠ i1 → b ≠ i2 → h₁.get? b = some o → h.get? b = some o) →
      h.get? S = some { cls := .type "list", dict := none, data := .seq acc c, slots := #[] } →
      acc.toList = as.map Value.ref → as.length = i → ZiG prog w ns ys S h as →
      codeAny (model prog w) A (.builtin "list.extend.loop" ⟨[.ref S, .ref z, res], []⟩) R { s with heap := h } := by
  have hne : S ≠ z := Nat.ne_of_gt O.z
  intro k
  induction k with
  | zero =>
    intro i h c acc as hk hi hst hl1 hl2 hkeep hS hacc hal hG
    have hin : i = xs.size := by omega
    refine codeAny_builtin PySem.F.entry_extend_loop ?_
    rw [Around.under_plainId PySem.F.plain_extend_loop _]
    show wpAny _ A.in1 (pyNext (.ref z) >>= _) _ _ _
    have hx : xs[i]? = none := Array.getElem?_eq_none (by omega)
    have fin : ∀ h' : Heap, (∀ c o, c ≠ z → c ≠ TO → c ≠ i1 → c ≠ i2 → h.get? c = some o → h'.get? c = some o) → R (.ok (.ret res)) { s with heap := h' } := fun h' he => by
      refine hR h' acc c as (fun b o h1 h2 h3 h4 h5 e => he b o h2 h3 h4 h5 (hkeep b o h1 h2 h3 h4 h5 e)) (he S _ hne (Nat.ne_of_gt O.to) (Nat.ne_of_gt O.i1) (Nat.ne_of_gt O.i2) hS) (by omega)
        ⟨hG.rise, hG.above, fun j a hj => ?_⟩ hacc
      obtain ⟨key, kk, x, e1, e2, e3⟩ := hG.pairs j a hj
      have := hG.above a (List.mem_of_getElem? hj)
      exact ⟨key, kk, x, e1, e2, he a _ (Nat.ne_of_gt (Nat.lt_trans O.z this)) (Nat.ne_of_gt (Nat.lt_trans O.to this)) (Nat.ne_of_gt (Nat.lt_trans O.i1 this)) (Nat.ne_of_gt (Nat.lt_trans O.i2 this)) e3⟩
    obtain ⟨x1, x2, x3, ⟨a, b, x4⟩, hz⟩ := hst
    rcases hz with hz | ⟨a, f, oa, hz, ha, n1, n2, n3, n4⟩
    · refine wpAny_bind (wpAny_pyNext_zip_end (s := { s with heap := h }) (A := A.in1) hh D hz x3 x4 x1 x2 hl1 hl2 (.inl hx) fun h' e => ?_)
      exact wpAny_pure (fin h' e)
    · refine wpAny_bind (zi_pyNext_held_end (s := { s with heap := h }) (A := A.in1) hh D hz ha x3 x1 hl1 hx fun h' e => ?_)
      exact wpAny_pure (fin h' fun c o c1 _ c3 c4 => e c o c1 c3 c4)
  | succ k ih =>
    intro i h c acc as hk hi hst hl1 hl2 hkeep hS hacc hal hG
    have hlt : i < xs.size := by omega
    have hx : xs[i]? = some xs[i] := Array.getElem?_eq_getElem hlt
    have hy : ys[i]? = some (ys[i]'(by omega)) := Array.getElem?_eq_getElem (by omega)
    generalize xs[i] = x at hx
    generalize ys[i]'(by omega) = y at hy
    have hsz2 : acc.size = i := by rw [← Array.length_toList, hacc, List.length_map, hal]
    have hSl : S < h.objs.size := Heap.lt_size hS
    obtain ⟨n, t, hn1, hxe⟩ := hint i x hx
    refine codeAny_builtin PySem.F.entry_extend_loop ?_
    rw [Around.under_plainId PySem.F.plain_extend_loop _]
    show wpAny _ A.in1 (pyNext (.ref z) >>= _) _ _ _
    have fin : ∀ h' : Heap, ZiSt h' z TI TO i1 i2 l1 l2 S (i + 1) → IsPair h' h.objs.size x y →
        h'.objs.size = h.objs.size + 1 → (∀ c o, c ≠ z → c ≠ TO → c ≠ i1 → c ≠ i2 → h.get? c = some o → h'.get? c = some o) →
        wpAny (model prog w) A.in1 (updateSeq S (·.push (Value.ref h.objs.size)) >>= fun _ =>
          again (.builtin "list.extend.loop" ⟨[.ref S, .ref z, res], []⟩))
          (fun fin s' => match fin with | .done f => R (.ok f) s' | .again c' => c'.quiet = true ∧ codeAny (model prog w) A c' R s')
          (fun e s' => R (.error e) s') { s with heap := h' } := fun h' hst' ht hz hkp => by
      have hS' := hkp S _ hne (Nat.ne_of_gt O.to) (Nat.ne_of_gt O.i1) (Nat.ne_of_gt O.i2) hS
      have up : ∀ b o, b ≠ S → h'.get? b = some o → (h'.update S (Obj.mapSeq (·.push (Value.ref h.objs.size)))).get? b = some o :=
        fun b o hb e => (Heap.get?_update_other _ _ (Ne.symm hb)).trans e
      have hl1' : h'.IsList l1 xs := hl1.at fun o e => hkp l1 o D.l1z D.l1TO D.l1i1 D.l1i2 e
      have hl2' : h'.IsList l2 ys := hl2.at fun o e => hkp l2 o D.l2z D.l2TO D.l2i1 D.l2i2 e
      refine wpAny_bind (wpAny_updateSeq hS' rfl (wpAny_pure ⟨plainId_quiet PySem.F.plain_extend_loop _,
        ih (i + 1) _ _ (acc.push (Value.ref h.objs.size)) (as ++ [h.objs.size]) (by omega) hlt
          (hst'.keep O up) (hl1'.at fun o e => up l1 o O.l1 e) (hl2'.at fun o e => up l2 o O.l2 e)
          (fun b o h1 h2 h3 h4 h5 e => up b o h1 (hkp b o h2 h3 h4 h5 (hkeep b o h1 h2 h3 h4 h5 e))) (Heap.get?_update_self _ hS' rfl)
          (by rw [Array.toList_push, hacc, List.map_append]; rfl) (by rw [List.length_append, hal]; rfl) ⟨?_, ?_, ?_⟩⟩) ?_)
      · refine List.pairwise_append.mpr ⟨hG.rise, List.pairwise_singleton _ _, fun a ha b hb => ?_⟩
        rw [List.mem_singleton.mp hb]
        exact hG.there ha
      · intro a ha
        rcases List.mem_append.mp ha with ha | ha
        · exact hG.above a ha
        · rw [List.mem_singleton.mp ha]
          exact hSl
      · intro j b hj
        rcases Nat.lt_trichotomy j as.length with h1 | h1 | h1
        · rw [List.getElem?_append_left h1] at hj
          obtain ⟨key', k', x', e1, e2, e3⟩ := hG.pairs j b hj
          have hb := hG.above b (List.mem_of_getElem? hj)
          exact ⟨key', k', x', e1, e2, up b _ (Nat.ne_of_gt hb) (hkp b _ (Nat.ne_of_gt (Nat.lt_trans O.z hb)) (Nat.ne_of_gt (Nat.lt_trans O.to hb))
            (Nat.ne_of_gt (Nat.lt_trans O.i1 hb)) (Nat.ne_of_gt (Nat.lt_trans O.i2 hb)) e3)⟩
        · subst h1
          have hb : h.objs.size = b := by simpa using hj
          subst hb
          subst hxe
          refine ⟨.int n t, Sum.inl n, y, ?_, mixKind_int prog w _ _, up _ _ (Nat.ne_of_gt hSl) ht⟩
          refine zV_get (by rw [hal]; exact hn1) ?_
          rw [Array.getElem?_toList, hal]
          exact hy
        · have hnone : (as ++ [h.objs.size])[j]? = none := List.getElem?_eq_none (by rw [List.length_append, List.length_singleton]; omega)
          rw [hnone] at hj
          cases hj
      · rw [hsz2]
        omega
    obtain ⟨x1, x2, x3, ⟨a, b, x4⟩, hz⟩ := hst
    have lz : ∀ {b : Addr} {o : Obj}, h.get? b = some o → h.objs.size ≠ b := fun e => Nat.ne_of_gt (Heap.lt_size e)
    have li1 : h.objs.size ≠ i1 := by obtain ⟨o, ho, _⟩ := x1; exact lz ho
    have li2 : h.objs.size ≠ i2 := by obtain ⟨o, ho, _⟩ := x2; exact lz ho
    rcases hz with hz | ⟨a', f, oa, hz, ha, n1, n2, n3, n4⟩
    · refine wpAny_bind (wpAny_pyNext_zip_item (s := { s with heap := h }) (A := A.in1) D hz x3 x4 x1 x2 hl1 hl2 hx hy fun h' g1 g2 g3 g4 g5 g6 g7 => ?_)
      exact fin h' ⟨g3, g4, g7 _ _ D.TIz D.TITO D.TIi1 D.TIi2 x3, ⟨_, _, g2⟩, .inr ⟨h.objs.size, false, _, g1, g5, lz hz, li1, li2, Nat.ne_of_gt hSl⟩⟩ g5 g6 g7
    · refine wpAny_bind (zi_pyNext_held (s := { s with heap := h }) (A := A.in1) D hz ha n1 n2 n3 x3 x1 x2 hl1 hl2 hx hy fun h' g1 g2 g3 g4 g5 g6 => ?_)
      exact fin h' ⟨g2, g3, g6 _ _ D.TIz D.TIi1 D.TIi2 x3, ⟨_, _, g6 _ _ D.TOz D.TOi1 D.TOi2 x4⟩, .inr ⟨a', true, oa, g1, g6 a' _ n1 n2 n3 ha, n1, n2, n3, n4⟩⟩ g4 g5 fun c o c1 _ c3 c4 => g6 c o c1 c3 c4
theorem zip_no_len : typeLookup (.type "zip") "__len__" = pure none := by
  rw [typeLookup_type, builtinLookup_eq_fast]
  kernel_rfl
theorem zip_no_hint : typeLookup (.type "zip") "__length_hint__" = pure none := by
  rw [typeLookup_type, builtinLookup_eq_fast]
  kernel_rfl
/-- what zip has made -/
def ZiNew (h : Heap) (z TI TO i1 i2 l1 l2 : Addr) : Prop := IsZip h z TI TO .none ∧ IsPair h TI (.ref i1) (.ref i2) ∧ IsPair h TO .none .none ∧ h.IsListIter i1 l1 0 ∧ h.IsListIter i2 l2 0
theorem ZiNew.up {h h' : Heap} {z TI TO i1 i2 l1 l2 : Addr} (x : ZiNew h z TI TO i1 i2 l1 l2) (k : ∀ b o, (b = z ∨ b = TI ∨ b = TO ∨ b = i1 ∨ b = i2) → h.get? b = some o → h'.get? b = some o) : ZiNew h' z TI TO i1 i2 l1 l2 :=
  ⟨k _ _ (.inl rfl) x.1, k _ _ (.inr (.inl rfl)) x.2.1, k _ _ (.inr (.inr (.inl rfl))) x.2.2.1, x.2.2.2.1.at fun o e => k _ o (.inr (.inr (.inr (.inl rfl)))) e, x.2.2.2.2.at fun o e => k _ o (.inr (.inr (.inr (.inr rfl)))) e⟩
theorem zi_extend {z TI TO i1 i2 l1 l2 : Addr} (hh : A.handled = none) (D : ZipApart z TI TO i1 i2 l1 l2) (Z : ZiNew s.heap z TI TO i1 i2 l1 l2) (hl1 : s.heap.IsList l1 xs) (hl2 : s.heap.IsList l2 ys)
    (S : Addr) (O : ZiOff z TI TO i1 i2 l1 l2 S) (hsz : xs.size = ys.size) (hint : ∀ (j : Nat) u, xs[j]? = some u → ∃ n t, ns[j]? = some n ∧ u = .int n t) (hn : xs.size ≤ sizeLine) (res : Value) (c₀ : Nat)
    (hS : s.heap.get? S = some { cls := .type "list", data := .seq #[] c₀ })
    (hR : ∀ h' acc c as, (∀ b o, b ≠ S → b ≠ z → b ≠ TO → b ≠ i1 → b ≠ i2 → s.heap.get? b = some o → h'.get? b = some o) →
      h'.get? S = some { cls := .type "list", dict := none, data := .seq acc c, slots := #[] } →
      as.length = xs.size → ZiG prog w ns ys S h' as → acc.toList = as.map Value.ref →
      R (.ok (.ret res)) { s with heap := h' }) :
    wpAny (model prog w) A.in1 (Builtin.List.listExtendWith (.ref S) (.ref z) res)
      (fun fin s' => match fin with | .done f => R (.ok f) s' | .again c' => c'.quiet = true ∧ codeAny (model prog w) A c' R s')
      (fun e s' => R (.error e) s') s := by
  have hSne : S ≠ z := Nat.ne_of_gt O.z
  have hT : s.TypeIs (.ref z) "zip" := ⟨_, Z.1, rfl⟩
  unfold Builtin.List.listExtendWith
  refine wpAny_bind (wpAny_typeOf hT ?_)
  have h1 : Builtin.List.listSameRef (.ref S) (.ref z) = false := by simp [Builtin.List.listSameRef, hSne]
  have h2 : (Value.type "zip" == Value.type "list") = false := by decide
  have h3 : (Value.type "zip" == Value.type "tuple") = false := by decide
  simp only [h1, h2, h3, Bool.or_false, Bool.false_eq_true, if_false]
  refine wpAny_bind (wpAny_pyIter_zip Z.1 ?_)
  refine wpAny_bind (wpAny_holding ?_)
  unfold Builtin.List.listLengthHint
  refine wpAny_bind (wpAny_specialOf hT zip_no_len ?_)
  show wpAny _ A.in1 (specialOf (Value.ref z) (Str.ofString "__length_hint__") >>= _) _ _ _
  refine wpAny_bind (wpAny_specialOf hT zip_no_hint ?_)
  refine wpAny_pure ?_
  show wpAny _ A.in1 (rule "list.extend.makes-room" >>= fun _ =>
    Builtin.List.listTouch (.ref S) >>= fun _ =>
    again (.builtin "list.extend.loop" ⟨[.ref S, .ref z, res], []⟩)) _ _ _
  refine wpAny_bind (wpAny_rule ?_)
  refine wpAny_bind ?_
  show wpAny _ A.in1 (updateSeq S (·.push .none) >>= fun _ => updateSeq S (·.pop)) _ _ _
  refine wpAny_bind (wpAny_updateSeq hS rfl ?_)
  have hS₂ := Heap.get?_update_self (Obj.mapSeq (·.push Value.none)) hS rfl
  refine wpAny_updateSeq (hz := by seq_fits) hS₂ rfl ?_
  have hS₃ := Heap.get?_update_self (Obj.mapSeq (·.pop)) hS₂ rfl
  have oth : ∀ b o, b ≠ S → s.heap.get? b = some o →
      ((s.heap.update S (Obj.mapSeq (·.push Value.none))).update S (Obj.mapSeq (·.pop))).get? b = some o :=
    fun b o hb e => (Heap.get?_update_other _ _ (Ne.symm hb)).trans
      ((Heap.get?_update_other _ _ (Ne.symm hb)).trans e)
  have Z2 := Z.up fun b o hb e => oth b o (by rcases hb with rfl | rfl | rfl | rfl | rfl; exact Nat.ne_of_lt O.z; exact Nat.ne_of_lt O.ti; exact Nat.ne_of_lt O.to; exact Nat.ne_of_lt O.i1; exact Nat.ne_of_lt O.i2) e
  obtain ⟨q1, q2, q3, q4, q5⟩ := Z2
  refine wpAny_pure ⟨plainId_quiet PySem.F.plain_extend_loop _, zi_loop (s := s) (h₁ := s.heap) hh D O hsz hint hn res
    (fun h' acc c as k1 k2 k3 k4 k5 => hR h' acc c as k1 k2 k3 k4 k5)
    xs.size 0 _ _ #[] [] (Nat.sub_zero _) (Nat.zero_le _)
    ⟨q4, q5, q2, ⟨_, _, q3⟩, .inl q1⟩ (hl1.at fun o e => oth _ _ O.l1 e) (hl2.at fun o e => oth _ _ O.l2 e)
    (fun b o h1 _ _ _ _ e => oth b o h1 e) hS₃ rfl rfl ⟨List.Pairwise.nil, (fun _ ha => nomatch ha), (fun j a hj => by simp at hj)⟩⟩
theorem zi_init {z TI TO i1 i2 l1 l2 : Addr} (hh : A.handled = none) (D : ZipApart z TI TO i1 i2 l1 l2) (Z : ZiNew s.heap z TI TO i1 i2 l1 l2) (hl1 : s.heap.IsList l1 xs) (hl2 : s.heap.IsList l2 ys)
    (S : Addr) (O : ZiOff z TI TO i1 i2 l1 l2 S) (hsz : xs.size = ys.size) (hint : ∀ (j : Nat) u, xs[j]? = some u → ∃ n t, ns[j]? = some n ∧ u = .int n t) (hn : xs.size ≤ sizeLine)
    (hS : s.heap.get? S = some { cls := .type "list", data := .seq #[] })
    (hR : ∀ h' acc c as, (∀ b o, b ≠ S → b ≠ z → b ≠ TO → b ≠ i1 → b ≠ i2 → s.heap.get? b = some o → h'.get? b = some o) →
      h'.get? S = some { cls := .type "list", dict := none, data := .seq acc c, slots := #[] } →
      as.length = xs.size → ZiG prog w ns ys S h' as → acc.toList = as.map Value.ref →
      R (.ok (.ret .none)) { s with heap := h' }) :
    wpAny (model prog w) A.in1 (Builtin.«list.__init__» ⟨[.ref S, .ref z], []⟩)
      (fun fin s' => match fin with | .done f => R (.ok f) s' | .again c' => c'.quiet = true ∧ codeAny (model prog w) A c' R s')
      (fun e s' => R (.error e) s') s := by
  show wpAny _ _ (do let old ← Builtin.List.listItems (.ref S); Builtin.List.listUpdate (.ref S) (fun _ => #[]); letGo old.toList.reverse; Builtin.List.listExtendWith (.ref S) (.ref z) .none) _ _ s
  refine wpAny_bind ?_
  unfold Builtin.List.listItems
  refine wpAny_bind (wpAny_seqItems hS rfl (wpAny_pure ?_))
  show wpAny _ _ (updateSeq S (fun _ => #[]) >>= fun _ => letGo (#[] : Array Value).toList.reverse >>= fun _ => Builtin.List.listExtendWith (.ref S) (.ref z) .none) _ _ s
  refine wpAny_bind (wpAny_updateSeq hS rfl ?_)
  have hS₂ := Heap.get?_update_self (Obj.mapSeq (fun _ => (#[] : Array Value))) hS rfl
  have oth : ∀ b o, b ≠ S → s.heap.get? b = some o → (s.heap.update S (Obj.mapSeq (fun _ => (#[] : Array Value)))).get? b = some o :=
    fun b o hb e => (Heap.get?_update_other _ _ (Ne.symm hb)).trans e
  refine wpAny_bind (wpAny_letGo ?_)
  have Z2 := Z.up fun b o hb e => oth b o (by rcases hb with rfl | rfl | rfl | rfl | rfl; exact Nat.ne_of_lt O.z; exact Nat.ne_of_lt O.ti; exact Nat.ne_of_lt O.to; exact Nat.ne_of_lt O.i1; exact Nat.ne_of_lt O.i2) e
  refine zi_extend hh D Z2 (hl1.at fun o e => oth _ _ O.l1 e) (hl2.at fun o e => oth _ _ O.l2 e) S O hsz hint hn .none _ hS₂
    fun h' acc c as k1 k2 k3 k4 k5 => hR h' acc c as (fun b o n1 n2 n3 n4 n5 e => k1 b o n1 n2 n3 n4 n5 (oth b o n1 e)) k2 k3 k4 k5
theorem zi_call {Q : Value → Shared → Prop} {E : Value → Shared → Prop} {z TI TO i1 i2 l1 l2 : Addr} (hh : A.handled = none) (D : ZipApart z TI TO i1 i2 l1 l2) (Z : ZiNew s.heap z TI TO i1 i2 l1 l2)
    (hl1 : s.heap.IsList l1 xs) (hl2 : s.heap.IsList l2 ys) (hsz : xs.size = ys.size) (hint : ∀ (j : Nat) u, xs[j]? = some u → ∃ n t, ns[j]? = some n ∧ u = .int n t) (hn : xs.size ≤ sizeLine)
    (hQ : ∀ h' acc c as, (∀ b o, b ≠ z → b ≠ TO → b ≠ i1 → b ≠ i2 → s.heap.get? b = some o → h'.get? b = some o) →
      h'.get? s.heap.objs.size = some { cls := .type "list", dict := none, data := .seq acc c, slots := #[] } →
      as.length = xs.size → ZiG prog w ns ys s.heap.objs.size h' as → acc.toList = as.map Value.ref →
      Q (.ref s.heap.objs.size) { s with heap := h' }) :
    wpAny (model prog w) A (call (.type "list") [.ref z]) Q E s := by
  refine callType_codes (Q₁ := fun obj s₁ => obj = .ref s.heap.objs.size ∧ s₁ = { s with heap := s.heap.push { cls := .type "list", data := .seq #[] } })
    PySem.F.called_list (PySem.F.typeCall_list_1 _) PySem.F.entry_list_init (code_list_new _ ⟨rfl, rfl⟩) fun obj s₁ h₁ => ?_
  obtain ⟨rfl, rfl⟩ := h₁
  have hS : (s.heap.push { cls := .type "list", data := .seq #[] }).get? s.heap.objs.size = some { cls := .type "list", data := .seq #[] } := Heap.get?_push_size _ rfl
  have L : ∀ {b : Addr} {o : Obj}, s.heap.get? b = some o → b < s.heap.objs.size := fun e => Heap.lt_size e
  have O : ZiOff z TI TO i1 i2 l1 l2 s.heap.objs.size := ⟨L Z.1, L Z.2.1, L Z.2.2.1, by obtain ⟨o, ho, _⟩ := Z.2.2.2.1; exact L ho, by obtain ⟨o, ho, _⟩ := Z.2.2.2.2; exact L ho,
    by obtain ⟨o, ho, _⟩ := id hl1; exact Nat.ne_of_lt (L ho), by obtain ⟨o, ho, _⟩ := id hl2; exact Nat.ne_of_lt (L ho)⟩
  refine ⟨⟨_, hS, rfl⟩, PySem.F.args_list_init_2 _ _, zi_init (A := A.in1) hh D (Z.up fun b o _ e => Heap.get?_push_of_some _ e) (hl1.at fun o e => Heap.get?_push_of_some _ e) (hl2.at fun o e => Heap.get?_push_of_some _ e) _ O hsz hint hn hS fun h' acc c as k1 k2 k3 k4 k5 => ?_⟩
  exact ⟨rfl, hQ h' acc c as (fun b o n1 n2 n3 n4 e => k1 b o (Nat.ne_of_lt (L e)) n1 n2 n3 n4 (Heap.get?_push_of_some _ e)) k2 k3 k4 k5⟩
end
/-- list(zip(e, e2)) of as many whole numbers as things: a new list of new pairs -/
def rLZ (K : PySem.W.Frag) (x y : V) (H : Hp) (Q : VK) : Prop := ∃ (a b : Addr) (ns : List Int) (ys : List V), x = .ref a ∧ y = .ref b ∧ SqL K H a (ns.map V.int) ∧ SqL K H b ys ∧ ns.length = ys.length ∧
  ∀ (H' : Hp) (p : Addr) (ts : List Addr), Same H H' → H p = none → (∀ t ∈ ts, H t = none) → p ∉ ts →
    H' p = some (.lst (ts.map V.ref)) →
    Paired (fun (t : Addr) (q : Key × V) => H' t = some (.tup [kV q.1, q.2])) ts (zV ns ys) → Q (.ref p) H'
def tLZ (K : PySem.W.Frag) (ta : TA) : TE := fun σ H Q => ta σ H fun vs H1 => ∃ x y, vs = [x, y] ∧ rLZ K x y H1 Q
theorem zvals_ints : ∀ {ns : List Int} {us : List Value}, Vals (ns.map V.int) us → ∀ (j : Nat) u, us[j]? = some u → ∃ n t, ns[j]? = some n ∧ u = .int n t
  | [], _, .nil, j, u, h => by simp at h
  | n :: ns, _, .cons r t, 0, u, h => by
    obtain ⟨k, e⟩ := r
    cases h
    exact ⟨n, k, rfl, e⟩
  | n :: ns, _, .cons r t, j + 1, u, h => by
    obtain ⟨m, k, e1, e2⟩ := zvals_ints t j u (by simpa using h)
    exact ⟨m, k, by simpa using e1, e2⟩
section
variable {X : Cx} {e e2 : Expr} {ta : TA} {p p2 pos pos2 : Pos}
theorem pe_listZip (hc : X.calm = true) (hg : Gl X "list") (hm : X.mg "list" = none) (hg2 : Gl X "zip")
    (hm2 : X.mg "zip" = none) (ha : PA X [e, e2] ta)
    (hs : starEach [e, e2] X.env = (false, eval e X.env) :: starEach [e2] X.env := by rfl) (hpl : (backTo pos2 (starEach [e2] X.env)).any (·.1) = false := by rfl)
    (hs2 : starEach [.Call (.Name "zip" p2) [e, e2] [] pos2] X.env =
      (false, eval (.Call (.Name "zip" p2) [e, e2] [] pos2) X.env) :: starEach [] X.env := by rfl) :
    PE X (.Call (.Name "list" p) [.Call (.Name "zip" p2) [e, e2] [] pos2] [] pos) (tLZ X.K ta) := by
  refine ⟨fun pins s σ H Q I h => ?_⟩
  refine Call_ (ld_blt I hg hm boot_list (PyProof.Rows.callWith_type1 (args_cons ?_ hs2) hs2))
  refine Call_ (ld_blt I hg2 hm2 PyProof.Rows.boot_zip (PyProof.Rows.callWith_type1 (thn (ha.run pos2 pins s σ H _ I h) fun us s1 ⟨vs, H1, I1, r1, q1⟩ => ?_) hs hpl))
  obtain ⟨x, y, ex, a, b, ns, ys, rfl, rfl, hqx, hqy, hlen, q⟩ := q1
  subst ex
  cases r1 with
  | cons r rr =>
    cases rr with
    | cons r' rr =>
      cases rr
      cases r
      cases r'
      obtain ⟨its, rv, p1, hz1⟩ := I1.list hqx
      obtain ⟨its2, rv2, p2, hz2⟩ := I1.list hqy
      refine call_zip_2 p1.isList p2.isList fun h1 hz hTI hTO hi1 hi2 hsz1 hk1 => ?_
      refine args_nil ?_
      have I2 : Inv X pins σ H1 { s1 with heap := h1 } := I1.kept (t' := s1.toks) hk1
      obtain ⟨o1, ho1, rl1⟩ := p1.isList
      obtain ⟨o2, ho2, rl2⟩ := p2.isList
      have ll1 : a < s1.heap.objs.size := Heap.lt_size ho1
      have ll2 : b < s1.heap.objs.size := Heap.lt_size ho2
      have len1 := rv.length
      have len2 := rv2.length
      rw [List.length_map] at len1
      have D : ZipApart (s1.heap.objs.size + 4) (s1.heap.objs.size + 2) (s1.heap.objs.size + 3) s1.heap.objs.size (s1.heap.objs.size + 1) a b := PySem.W.ktu_apart s1.heap.objs.size a b p1.lt p2.lt
      refine zi_call (s := { s1 with heap := h1 }) (xs := its.toArray) (ys := its2.toArray) (ns := ns) (I2.ok.hd hc) D ⟨hz, hTI, hTO, hi1, hi2⟩ ⟨o1, hk1 _ _ ho1, rl1⟩ ⟨o2, hk1 _ _ ho2, rl2⟩
        (by simp only [List.size_toArray]; omega) (fun j u hu => zvals_ints rv j u (by simpa using hu)) (by simp only [List.size_toArray]; rw [← len1]; rw [List.length_map] at hz1; exact hz1)
        fun h2 acc c as k1 k2 k3 k4 k5 => ?_
      have eI : ZiG X.prog X.w ns its2.toArray h1.objs.size h2 as := k4
      obtain ⟨H', g1, g2, g3, g4, g5, g6, J⟩ := pairs_laid (tk := s1.toks) (p := h1.objs.size) (kvs := zV ns ys) (vs := zV ns its2) (as := as) I1
        (Nat.le_trans (by rw [List.length_zip, List.length_map]; exact Nat.min_le_left _ _) (by rw [List.length_map] at hz1; exact hz1)) (zV_kv ns ys its2 rv2) (by rw [hsz1]; exact Nat.le_add_right _ _)
        (fun d o e => by
          have hd := Heap.lt_size e
          exact k1 d o (Nat.ne_of_lt (Nat.lt_of_lt_of_le hd (Nat.le_add_right _ _))) (Nat.ne_of_lt (Nat.lt_of_lt_of_le hd (Nat.le_add_right _ _))) (Nat.ne_of_lt hd) (Nat.ne_of_lt (Nat.lt_of_lt_of_le hd (Nat.le_add_right _ _))) (hk1 d o e))
        k2 (by rw [k3, List.length_zip, List.length_map]; simp only [List.size_toArray]; omega) (by simpa using k4) k5
      exact ⟨.ref _, H', J, rfl, q H' _ as g1 g2 g3 g4 g5 g6⟩
end
end PB

namespace PB
open PySem PySem.Spec PyProof.Rows L2

/-! ### what is known of the heap: B stands, and beside it the objects of the list L -/
structure Tr (B : Hp) (L : List (Addr × HO)) (H : Hp) : Prop where
  base : Same B H
  at_ : ∀ p ∈ L, H p.1 = some p.2
  off : ∀ p ∈ L, B p.1 = none
  nd : (L.map (·.1)).Nodup
section
variable {B B' H H' : Hp} {L : List (Addr × HO)} {a b p : Addr} {o o' u : HO}
theorem Tr.start (H : Hp) : Tr H [] H := ⟨Same.refl H, (fun _ h => nomatch h), (fun _ h => nomatch h), List.nodup_nil⟩
theorem Tr.fz (T : Tr B L H) (h : B a = some o) : H a = some o := T.base a o h
theorem Tr.get (T : Tr B L H) (i : Nat) (h : L[i]? = some (a, o)) : H a = some o := T.at_ _ (List.mem_of_getElem? h)
theorem Tr.ne (T : Tr B L H) (h : (a, o) ∈ L) (h2 : B b = some u) : b ≠ a := fun e => by
  have z := T.off _ h
  rw [← e] at z
  rw [h2] at z
  cases z
theorem Tr.new (T : Tr B L H) (hp : H p = none) : Tr B ((p, o) :: L) (upd H p o) := by
  have hB : B p = none := T.base.free hp
  have nm : ∀ q ∈ L, q.1 ≠ p := fun q hq e => by
    have z := T.at_ q hq
    rw [e, hp] at z
    cases z
  refine ⟨fun c v e => ?_, fun q hq => ?_, fun q hq => ?_, ?_⟩
  · rw [upd_ne (ne_of_none e hB)]
    exact T.base c v e
  · rcases List.mem_cons.mp hq with rfl | hq
    · exact upd_same
    · rw [upd_ne (nm q hq)]
      exact T.at_ q hq
  · rcases List.mem_cons.mp hq with rfl | hq
    · exact hB
    · exact T.off q hq
  · refine List.nodup_cons.mpr ⟨fun hm => ?_, T.nd⟩
    obtain ⟨q, hq, e⟩ := List.mem_map.mp hm
    exact nm q hq e
theorem Tr.same (T : Tr B L H) (s : Same H H') : Tr B L H' :=
  ⟨T.base.trans s, fun q hq => s _ _ (T.at_ q hq), T.off, T.nd⟩
theorem Tr.add (T : Tr B L H) (s : Same H H') (hp : H p = none) (e : H' p = some o) : Tr B ((p, o) :: L) H' := by
  have T2 := T.new (o := o) hp
  refine ⟨T.base.trans s, fun q hq => ?_, T2.off, T2.nd⟩
  rcases List.mem_cons.mp hq with rfl | hq
  · exact e
  · exact s _ _ (T.at_ q hq)
/-- all but the objects at as stand -/
def But (as : List Addr) (H H' : Hp) : Prop := ∀ b o, b ∉ as → H b = some o → H' b = some o
theorem But.same {as : List Addr} (s : Same H H') : But as H H' := fun b o _ e => s b o e
theorem But.refl {as : List Addr} : But as H H := fun _ _ _ e => e
theorem But.trans {as : List Addr} {H2 : Hp} (s : But as H H') (t : But as H' H2) : But as H H2 := fun b o n e => t b o n (s b o n e)
theorem But.upd (a : Addr) (o : HO) : But [a] H (L2.upd H a o) := fun b u n e => by
  rw [upd_ne (fun z => n (by rw [z]; exact List.mem_cons_self))]
  exact e
theorem setMem : ∀ (L : List (Addr × HO)) (i : Nat) (q : Addr × HO), (L.map (·.1)).Nodup → L[i]? = some (a, o) → q ∈ L.set i (a, o') →
    q = (a, o') ∨ (q ∈ L ∧ q.1 ≠ a)
  | [], _, _, _, h, _ => by cases h
  | x :: L, 0, q, nd, h, hq => by
    have e : x = (a, o) := Option.some.inj h
    subst e
    rcases List.mem_cons.mp hq with e | hq
    · exact .inl e
    · refine .inr ⟨List.mem_cons_of_mem _ hq, fun e => (List.nodup_cons.mp nd).1 ?_⟩
      show a ∈ L.map (·.1)
      rw [← e]
      exact List.mem_map_of_mem hq
  | x :: L, i + 1, q, nd, h, hq => by
    rcases List.mem_cons.mp hq with e | hq
    · subst e
      refine .inr ⟨List.mem_cons_self, fun z => (List.nodup_cons.mp nd).1 ?_⟩
      show q.1 ∈ L.map (·.1)
      rw [z]
      exact List.mem_map_of_mem (f := (·.1)) (List.mem_of_getElem? (show L[i]? = some (a, o) from h))
    · rcases setMem L i q (List.nodup_cons.mp nd).2 h hq with e | ⟨h1, h2⟩
      · exact .inl e
      · exact .inr ⟨List.mem_cons_of_mem _ h1, h2⟩
theorem set_keys : ∀ (L : List (Addr × HO)) (i : Nat), L[i]? = some (a, o) → (L.set i (a, o')).map (·.1) = L.map (·.1)
  | [], _, h => by cases h
  | x :: L, 0, h => by
    have e : x = (a, o) := Option.some.inj h
    subst e
    rfl
  | x :: L, i + 1, h => congrArg (x.1 :: ·) (set_keys L i h)
theorem Tr.but (T : Tr B L H) (i : Nat) (h : L[i]? = some (a, o)) (s : But [a] H H') (e : H' a = some o') :
    Tr B (L.set i (a, o')) H' := by
  have hoff : B a = none := T.off _ (List.mem_of_getElem? h)
  refine ⟨fun c v ec => ?_, fun q hq => ?_, fun q hq => ?_, ?_⟩
  · refine s c v (fun z => ?_) (T.base c v ec)
    have z' : c = a := by simpa using z
    rw [z', hoff] at ec
    cases ec
  · rcases setMem L i q T.nd h hq with rfl | ⟨h1, h2⟩
    · exact e
    · exact s _ _ (by simpa using h2) (T.at_ q h1)
  · rcases setMem L i q T.nd h hq with rfl | ⟨h1, h2⟩
    · exact hoff
    · exact T.off q h1
  · rw [set_keys L i h]
    exact T.nd
theorem Tr.put (T : Tr B L H) (i : Nat) (h : L[i]? = some (a, o)) : Tr B (L.set i (a, o')) (upd H a o') :=
  T.but i h (But.upd a o') upd_same
/-- another part of the heap as the ground -/
theorem Tr.rebase (T : Tr B L H) (s : Same B' H) (h : ∀ q ∈ L, B' q.1 = none) : Tr B' L H := ⟨s, T.at_, h, T.nd⟩
theorem Tr.drop (T : Tr B (q :: L) H) : Tr B L H :=
  ⟨T.base, fun r hr => T.at_ r (List.mem_cons_of_mem _ hr), fun r hr => T.off r (List.mem_cons_of_mem _ hr), (List.nodup_cons.mp T.nd).2⟩
theorem Tr.dropL : ∀ {M : List (Addr × HO)}, Tr B (M ++ L) H → Tr B L H
  | [], T => T
  | _ :: _, T => Tr.dropL (Tr.drop T)
/-- a heap without what stands at a -/
def del (H : Hp) (a : Addr) : Hp := fun b => if b = a then none else H b
theorem del_same : del H a a = none := if_pos rfl
theorem del_ne (h : b ≠ a) : del H a b = H b := if_neg h
theorem Same.del : Same (del H a) H := fun b o e => by
  by_cases h : b = a
  · rw [h, del_same] at e
    cases e
  · rwa [del_ne h] at e
theorem Tr.mut (h : H a = some o) : Tr (del H a) [(a, o)] H :=
  ⟨Same.del, fun q hq => by rw [List.mem_singleton.mp hq]; exact h, fun q hq => by rw [List.mem_singleton.mp hq]; exact del_same, by simp⟩
theorem But.of_del (s : Same (del H a) H') : But [a] H H' := fun b o n e => s b o (by
  rw [del_ne (fun z => n (by rw [z]; exact List.mem_cons_self))]
  exact e)
/-- what is new behind a def that changes a -/
theorem Tr.newdel (T : Tr (del H a) L H') (i j : Nat) (h : L[i]? = some (a, o)) (h2 : L[j]? = some (p, o')) (n : i ≠ j := by decide) : H p = none := by
  have ha := List.getElem?_map (f := (·.1)) (l := L) (i := i)
  have hp := List.getElem?_map (f := (·.1)) (l := L) (i := j)
  rw [h] at ha
  rw [h2] at hp
  have ne : p ≠ a := fun e => by
    have ha' : (L.map (·.1))[i]? = some a := ha
    have hp' : (L.map (·.1))[j]? = some p := hp
    rw [e] at hp'
    exact n (nd_ix T.nd ha' hp')
  have z := T.off _ (List.mem_of_getElem? h2)
  rw [← del_ne (H := H) ne]
  exact z
theorem Tr.offI (T : Tr B L H) (i : Nat) (h : L[i]? = some (a, o)) : B a = none := T.off _ (List.mem_of_getElem? h)
theorem Tr.get0 (T : Tr B ((a, o) :: L) H) : H a = some o := T.get 0 rfl
theorem Tr.get1 {x0} (T : Tr B (x0 :: (a, o) :: L) H) : H a = some o := T.get 1 rfl
theorem Tr.get2 {x0 x1} (T : Tr B (x0 :: x1 :: (a, o) :: L) H) : H a = some o := T.get 2 rfl
theorem Tr.get3 {x0 x1 x2} (T : Tr B (x0 :: x1 :: x2 :: (a, o) :: L) H) : H a = some o := T.get 3 rfl
theorem Tr.get4 {x0 x1 x2 x3} (T : Tr B (x0 :: x1 :: x2 :: x3 :: (a, o) :: L) H) : H a = some o := T.get 4 rfl
theorem Tr.get5 {x0 x1 x2 x3 x4} (T : Tr B (x0 :: x1 :: x2 :: x3 :: x4 :: (a, o) :: L) H) : H a = some o := T.get 5 rfl
theorem Tr.get6 {x0 x1 x2 x3 x4 x5} (T : Tr B (x0 :: x1 :: x2 :: x3 :: x4 :: x5 :: (a, o) :: L) H) : H a = some o := T.get 6 rfl
theorem Tr.get7 {x0 x1 x2 x3 x4 x5 x6} (T : Tr B (x0 :: x1 :: x2 :: x3 :: x4 :: x5 :: x6 :: (a, o) :: L) H) : H a = some o := T.get 7 rfl
theorem Tr.get8 {x0 x1 x2 x3 x4 x5 x6 x7} (T : Tr B (x0 :: x1 :: x2 :: x3 :: x4 :: x5 :: x6 :: x7 :: (a, o) :: L) H) : H a = some o := T.get 8 rfl
theorem Tr.get9 {x0 x1 x2 x3 x4 x5 x6 x7 x8} (T : Tr B (x0 :: x1 :: x2 :: x3 :: x4 :: x5 :: x6 :: x7 :: x8 :: (a, o) :: L) H) : H a = some o := T.get 9 rfl
theorem Tr.seq {K : PySem.W.Frag} {xs : List V} (T : Tr B L H) (h : SqL K B a xs) : SqL K H a xs := T.base.seq h
theorem Same.tup {K : PySem.W.Frag} {xs : List V} (e : Same H H') (h : SqT K H a xs) : SqT K H' a xs := by
  rcases h with (h | ⟨o, h⟩) | h
  · exact .inl (.inl (e _ _ h))
  · exact .inl (.inr ⟨o, e _ _ h⟩)
  · exact .inr h
end

/-! ### readings by names -/
section
variable {X : Cx}
def rLen (K : PySem.W.Frag) : List V → Hp → VK → Prop := fun xs H Q => ∃ p ys, xs = [.ref p] ∧ (SqL K H p ys ∨ SqT K H p ys) ∧ Q (.int ys.length) H
theorem cl_len : CallR X (.builtin "len") (rLen X.K) := call_len_seq
def rAbs : List V → Hp → VK → Prop := fun xs H Q => ∃ i, xs = [.int i] ∧ Q (.int (if i < 0 then -i else i)) H
theorem cl_abs : CallR X (.builtin "abs") rAbs := call_abs
def rMax2 : List V → Hp → VK → Prop := fun xs H Q => ∃ i j, xs = [.int i, .int j] ∧ Q (.int (if j > i then j else i)) H
theorem cl_max2 (hc : X.calm = true) : CallR X (.builtin "max") rMax2 := call_max2 hc
def rMin2 : List V → Hp → VK → Prop := fun xs H Q => ∃ i j, xs = [.int i, .int j] ∧ Q (.int (if j < i then j else i)) H
theorem cl_min2 (hc : X.calm = true) : CallR X (.builtin "min") rMin2 := call_min2 hc
def rInt1 : List V → Hp → VK → Prop := fun xs H Q => (∃ i, xs = [.int i] ∧ Q (.int i) H) ∨ ∃ k, xs = [.bl k] ∧ Q (.int (if k then 1 else 0)) H
theorem cl_int : CallR X (.type "int") rInt1 := call_int1
def rListOf (K : PySem.W.Frag) : List V → Hp → VK → Prop := fun xs H Q => ∃ p ys, xs = [.ref p] ∧ (SqL K H p ys ∨ SqT K H p ys) ∧ ∀ l, H l = none → Q (.ref l) (upd H l (.lst ys))
theorem cl_list : CallR X (.type "list") (rListOf X.K) := call_list_of
/-- + of ints, of lists -/
def rAddA : R2 := fun x y H Q => rI0 (fun i j => .int (i + j)) x y H Q ∨ rCat x y H Q
theorem op_addA : OpR X (binaryOp .Add) rAddA := fun pins s σ H x y v u Q I rx ry h => by
  rcases h with h | h
  · exact op_add pins s σ H x y v u Q I rx ry h
  · exact op_cat pins s σ H x y v u Q I rx ry h
/-- * of ints, of a list and an int -/
def rMulA : R2 := fun x y H Q => rI CMulW (fun i j => .int (i * j)) x y H Q ∨ rRep x y H Q
theorem op_mulA : OpR X (binaryOp .Mult) rMulA := fun pins s σ H x y v u Q I rx ry h => by
  rcases h with h | h
  · exact op_mulW pins s σ H x y v u Q I rx ry h
  · exact op_rep pins s σ H x y v u Q I rx ry h
/-- == of a list with the empty one: no item is asked -/
def rEqN (K : PySem.W.Frag) : R2 := fun x y H Q => ∃ a b xs, x = .ref a ∧ y = .ref b ∧ SqL K H a xs ∧ SqL K H b [] ∧ Q (.bl xs.isEmpty) H
theorem op_eqN (hu : X.A.units + 64 < cLine) : OpR X (compareOp .Eq) (rEqN X.K) := by
  intro pins s σ H x y v u Q I rx ry h
  obtain ⟨a, b, xs, rfl, rfl, h1, h2, q⟩ := h
  cases xs with
  | nil => exact op_eqD hu pins s σ H _ _ v u Q I rx ry ⟨.list [], .list [], .lst h1 .nil, .lst h2 .nil, rfl, rfl, q⟩
  | cons z zs =>
    cases rx
    cases ry
    obtain ⟨its, r', pl, hz⟩ := I.list h1
    obtain ⟨its2, r2, pl2, hz2⟩ := I.list h2
    have e1 := r'.length
    have e2 := r2.length
    simp only [List.length_cons, List.length_nil] at e1 e2
    exact SeqAt.eq_list_lengthsAt pl.isList pl2.isList (by simp only [List.size_toArray]; exact bne_iff_ne.mpr (by omega)) (by omega) ⟨.bl _, H, I, rfl, q⟩
def rNeN (K : PySem.W.Frag) : R2 := fun x y H Q => ∃ a b xs, x = .ref a ∧ y = .ref b ∧ SqL K H a xs ∧ SqL K H b [] ∧ Q (.bl (!xs.isEmpty)) H
theorem op_neN (hu : X.A.units + 64 < cLine) : OpR X (compareOp .NotEq) (rNeN X.K) := by
  intro pins s σ H x y v u Q I rx ry h
  obtain ⟨a, b, xs, rfl, rfl, h1, h2, q⟩ := h
  cases xs with
  | nil => exact op_neD hu pins s σ H _ _ v u Q I rx ry ⟨.list [], .list [], .lst h1 .nil, .lst h2 .nil, rfl, rfl, q⟩
  | cons z zs =>
    cases rx
    cases ry
    obtain ⟨its, r', pl, hz⟩ := I.list h1
    obtain ⟨its2, r2, pl2, hz2⟩ := I.list h2
    have e1 := r'.length
    have e2 := r2.length
    simp only [List.length_cons, List.length_nil] at e1 e2
    exact SeqAt.RcNeAt.lists_lengths pl.isList pl2.isList (by simp only [List.size_toArray]; exact bne_iff_ne.mpr (by omega)) (by omega) _ _ _ _ ⟨.bl _, H, I, rfl, q⟩
/-- == of flat values, of data -/
def rEqA (K : PySem.W.Frag) : R2 := fun x y H Q => rEq x y H Q ∨ rEqD K x y H Q ∨ rEqN K x y H Q
theorem op_eqA (hu : X.A.units + 64 < cLine) : OpR X (compareOp .Eq) (rEqA X.K) := fun pins s σ H x y v u Q I rx ry h => by
  rcases h with h | h | h
  · exact op_eq pins s σ H x y v u Q I rx ry h
  · exact op_eqD hu pins s σ H x y v u Q I rx ry h
  · exact op_eqN hu pins s σ H x y v u Q I rx ry h
def rNeA (K : PySem.W.Frag) : R2 := fun x y H Q => rNe x y H Q ∨ rNeD K x y H Q ∨ rNeN K x y H Q
theorem op_neA (hu : X.A.units + 64 < cLine) : OpR X (compareOp .NotEq) (rNeA X.K) := fun pins s σ H x y v u Q I rx ry h => by
  rcases h with h | h | h
  · exact op_ne pins s σ H x y v u Q I rx ry h
  · exact op_neD hu pins s σ H x y v u Q I rx ry h
  · exact op_neN hu pins s σ H x y v u Q I rx ry h
def rIsN : R2 := fun x y H Q => y = .non ∧ Q (.bl (decide (x = .non))) H
theorem op_isNn : OpR X (compareOp .Is) rIsN := op_isN
def rNotN : R2 := fun x y H Q => y = .non ∧ Q (.bl (!decide (x = .non))) H
theorem op_notNn : OpR X (compareOp .IsNot) rNotN := op_notN
end

/-! ### the rest of a loop, of a comprehension, by names -/
def rFor (J : It) (g : TG) (tb : TS) (D : Ends) (σ : L2.St) (H : Hp) : Prop := ∃ W : Nat → Nat → L2.St → Hp → Prop, (∃ m, W 0 m σ H) ∧ ∀ i m σ H, W i m σ H →
  (J.stop i H ∧ D.nx σ H) ∨ (J.go i H ∧ ∃ N : L2.St → Hp → Prop, (∀ σ' H', N σ' H' → ∃ m', m' < m ∧ W (i + 1) m' σ' H') ∧ ∀ x H', J.yld i H x H' → g x σ H' fun σ2 H2 => tb { D with nx := N, ct := N, bk := D.nx } σ2 H2)
def rLc (J : It) (g : TG) (tt : TT) (te : TE) (vs : List Nat) (σ : L2.St) (H1 : Hp) (Q : VK) : Prop := ∀ D, H1 D = none → ∃ W : Nat → Nat → Hp → Prop, (∃ m, W 0 m (upd H1 D (.lst []))) ∧ ∀ i m H, W i m H →
  (J.stop i H ∧ Q (.ref D) H) ∨ (J.go i H ∧ ∃ Nx : Hp → Prop, (∀ H', Nx H' → ∃ m', m' < m ∧ W (i + 1) m' H') ∧ ∀ x H', J.yld i H x H' → g x (wipe σ vs) H' fun σ2 H2 => wipe σ2 vs = wipe σ vs ∧ tt σ2 H2 fun b H3 =>
    if b = true then te σ2 H3 fun y H4 => ∃ acc, H4 D = some (.lst acc) ∧ acc.length < sizeLine ∧ Nx (upd H4 D (.lst (acc ++ [y]))) else Nx H3)
/-- an element that goes to the list at D -/
def rElt (D : Addr) (Nx : Hp → Prop) (y : V) (H4 : Hp) : Prop := ∃ acc, H4 D = some (.lst acc) ∧ acc.length < sizeLine ∧ Nx (upd H4 D (.lst (acc ++ [y])))
def rItL (K : PySem.W.Frag) (x : V) (H : Hp) (R : It → Hp → Prop) : Prop := ∃ a, x = .ref a ∧ (∃ xs, SqL K H a xs) ∧ R (Itl K a) H
def rItT (K : PySem.W.Frag) (x : V) (H : Hp) (R : It → Hp → Prop) : Prop := ∃ a, x = .ref a ∧ (∃ xs, SqT K H a xs) ∧ R (Itt K a) H
def rRg1 (vs : List V) (H : Hp) (R : It → Hp → Prop) : Prop := ∃ j : Int, vs = [.int j] ∧ -(2 ^ 62) ≤ j ∧ j < 2 ^ 62 ∧ R (Itr 0 j.toNat) H
def rRg2 (vs : List V) (H : Hp) (R : It → Hp → Prop) : Prop := ∃ i j : Int, vs = [.int i, .int j] ∧ (-(2 ^ 62) ≤ i ∧ i < 2 ^ 62 ∧ -(2 ^ 62) ≤ j ∧ j < 2 ^ 62) ∧ R (Itr i (j - i).toNat) H
def rRg3 (vs : List V) (H : Hp) (R : It → Hp → Prop) : Prop := ∃ (i j c : Int) (n : Nat), vs = [.int i, .int j, .int c] ∧ RgC i j c n ∧ R (Itc i c n) H
def rEn (K : PySem.W.Frag) (vs : List V) (H : Hp) (R : It → Hp → Prop) : Prop := ∃ a xs, vs = [.ref a] ∧ SqL K H a xs ∧ R (Ite K a) H
def rZp (K : PySem.W.Frag) (vs : List V) (H : Hp) (R : It → Hp → Prop) : Prop := ∃ a b xs ys, vs = [.ref a, .ref b] ∧ SqL K H a xs ∧ SqL K H b ys ∧ R (Itz K a b) H
def rTup (xs : List V) (H : Hp) (Q : VK) : Prop := xs.length ≤ sizeLine ∧ ∀ p, H p = none → Q (.ref p) (upd H p (.tup xs))
def rLst (xs : List V) (H : Hp) (Q : VK) : Prop := xs.length ≤ sizeLine ∧ ∀ p, H p = none → Q (.ref p) (upd H p (.lst xs))
def rBl (x : V) (H : Hp) (Q : Bool → Hp → Prop) : Prop := ∃ k, x = .bl k ∧ Q k H
def rUnp (K : PySem.W.Frag) (n : Nat) (t : TGs) (v : V) (σ : L2.St) (H : Hp) (Q : L2.St → Hp → Prop) : Prop := ∃ a xs, v = .ref a ∧ SqT K H a xs ∧ xs.length = n ∧ t xs σ H Q
def rMt (K : PySem.W.Frag) (T : String) (r : V → List V → Hp → VK → Prop) (t : TA) (σ : L2.St) (x : V) (H1 : Hp) (Q : VK) : Prop := tyV K T x H1 ∧ t σ H1 fun xs H2 => r x xs H2 Q

/-! ### the steps -/
section
variable {K : PySem.W.Frag} {B H H1 : Hp} {L : List (Addr × HO)} {σ : L2.St} {D : Ends} {Q : VK} {t u : TS} {ta tb tc te to ti : TE} {tx ty : TA} {c tt : TT} {r r' : R2} {x y v w : V} {i j k n : Int} {a p : Addr} {xs ys : List V} {ns : List Int}
-- statements
section
variable {nx bk ct : L2.St → Hp → Prop} {rt : VK}
theorem i_seq (h : t ⟨u ⟨nx, rt, bk, ct⟩, rt, bk, ct⟩ σ H) : tSeq t u ⟨nx, rt, bk, ct⟩ σ H := h
theorem i_next (h : nx σ H) : tNext ⟨nx, rt, bk, ct⟩ σ H := h
theorem i_break (h : bk σ H) : tBreak ⟨nx, rt, bk, ct⟩ σ H := h
theorem i_cont (h : ct σ H) : tCont ⟨nx, rt, bk, ct⟩ σ H := h
theorem i_drop (h : te σ H fun _ H1 => nx σ H1) : tDrop te ⟨nx, rt, bk, ct⟩ σ H := h
theorem i_ret (h : te σ H rt) : tRet te ⟨nx, rt, bk, ct⟩ σ H := h
theorem i_retN (h : rt .non H) : tRetN ⟨nx, rt, bk, ct⟩ σ H := h
theorem i_ifS (h : c σ H fun b H1 => if b = true then t ⟨nx, rt, bk, ct⟩ σ H1 else u ⟨nx, rt, bk, ct⟩ σ H1) : tIfS c t u ⟨nx, rt, bk, ct⟩ σ H := h
theorem i_asg {g : TG} (h : te σ H fun x H1 => g x σ H1 nx) : tAsg te g ⟨nx, rt, bk, ct⟩ σ H := h
theorem i_aug {m : Nat} {ip : TIp} (hx : σ[m]? = some (some x)) (h : te σ H fun y H1 => ip x y H1 fun z H2 => nx (σ.set m (some z)) H2) : tAug m te ip ⟨nx, rt, bk, ct⟩ σ H := ⟨x, hx, h⟩
theorem i_for {wi : TI} {g : TG} {tb : TS} (h : wi σ H fun J H1 => rFor J g tb ⟨nx, rt, bk, ct⟩ σ H1) : tFor wi g tb ⟨nx, rt, bk, ct⟩ σ H := h
end
theorem i_gName {m : Nat} {R : L2.St → Hp → Prop} (h : R (σ.set m (some v)) H) : gName m v σ H R := h
theorem i_gTup {n : Nat} {g : TGs} {R : L2.St → Hp → Prop} (h : rUnp K n g v σ H R) : gTup K n g v σ H R := h
theorem i_unp {m : Nat} {g : TGs} {R : L2.St → Hp → Prop} (h1 : SqT K H a xs) (h2 : xs.length = m) (h : g xs σ H R) : rUnp K m g (.ref a) σ H R := ⟨a, xs, rfl, h1, h2, h⟩
theorem i_gCons {g : TG} {gs : TGs} {R : L2.St → Hp → Prop} (h : g x σ H fun σ' H' => gs xs σ' H' R) : gCons g gs (x :: xs) σ H R := ⟨x, xs, rfl, h⟩
theorem i_gNil {R : L2.St → Hp → Prop} (h : R σ H) : gNil [] σ H R := ⟨rfl, h⟩
theorem i_gSub {st : TSet} {R : L2.St → Hp → Prop} (h : to σ H fun o H1 => ti σ H1 fun i H2 => st o i v H2 fun H3 => R σ H3) : gSub to ti st v σ H R := h
theorem i_ip {f : Int → Int → Int} (h : Q (.int (f i j)) H) : ipI f (.int i) (.int j) H Q := ⟨i, j, rfl, rfl, h⟩
-- what is walked
section
variable {R : It → Hp → Prop}
theorem i_iList (h : te σ H fun x H1 => rItL K x H1 R) : iList K te σ H R := h
theorem i_itL (h1 : SqL K H a xs) (h : R (Itl K a) H) : rItL K (.ref a) H R := ⟨a, rfl, ⟨xs, h1⟩, h⟩
theorem i_iTup (h : te σ H fun x H1 => rItT K x H1 R) : iTup K te σ H R := h
theorem i_itT (h1 : SqT K H a xs) (h : R (Itt K a) H) : rItT K (.ref a) H R := ⟨a, rfl, ⟨xs, h1⟩, h⟩
theorem i_iRng1 (h : tx σ H fun vs H1 => rRg1 vs H1 R) : iRng1 tx σ H R := h
theorem i_rg1 (h1 : -(2 ^ 62) ≤ j) (h2 : j < 2 ^ 62) (h : R (Itr 0 j.toNat) H) : rRg1 [.int j] H R := ⟨j, rfl, h1, h2, h⟩
theorem i_iRng2 (h : tx σ H fun vs H1 => rRg2 vs H1 R) : iRng2 tx σ H R := h
theorem i_rg2 (h1 : -(2 ^ 62) ≤ i ∧ i < 2 ^ 62 ∧ -(2 ^ 62) ≤ j ∧ j < 2 ^ 62) (h : R (Itr i (j - i).toNat) H) : rRg2 [.int i, .int j] H R := ⟨i, j, rfl, h1, h⟩
theorem i_iRng3 (h : tx σ H fun vs H1 => rRg3 vs H1 R) : iRng3 tx σ H R := h
theorem i_iEnum (h : tx σ H fun vs H1 => rEn K vs H1 R) : iEnum K tx σ H R := h
theorem i_en (h1 : SqL K H a xs) (h : R (Ite K a) H) : rEn K [.ref a] H R := ⟨a, xs, rfl, h1, h⟩
theorem i_iZip (h : tx σ H fun vs H1 => rZp K vs H1 R) : iZip K tx σ H R := h
theorem i_zp {b : Addr} (h1 : SqL K H a xs) (h2 : SqL K H b ys) (h : R (Itz K a b) H) : rZp K [.ref a, .ref b] H R := ⟨a, b, xs, ys, rfl, h1, h2, h⟩
end
-- expressions
theorem i_var {m : Nat} (hx : σ[m]? = some (some v)) (h : Q v H) : tVar m σ H Q := ⟨v, hx, h⟩
theorem i_c (h : Q v H) : tC v σ H Q := h
theorem i_op (h : ta σ H fun x H1 => tb σ H1 fun y H2 => r x y H2 Q) : tOp r ta tb σ H Q := h
theorem i_un {r : V → Hp → VK → Prop} (h : ta σ H fun x H1 => r x H1 Q) : tUn r ta σ H Q := h
theorem i_rU {g : Int → V} (h : Q (g i) H) : rU g (.int i) H Q := ⟨i, rfl, h⟩
theorem i_I0 {g : Int → Int → V} (h : Q (g i j) H) : rI0 g (.int i) (.int j) H Q := ⟨i, j, rfl, rfl, h⟩
theorem i_I {C : Int → Int → Prop} {g : Int → Int → V} (hc : C i j) (h : Q (g i j) H) : rI C g (.int i) (.int j) H Q := ⟨i, j, rfl, rfl, hc, h⟩
theorem i_addI (h : Q (.int (i + j)) H) : rAddA (.int i) (.int j) H Q := .inl (i_I0 h)
theorem i_cat {b : Addr} (T : Tr B L H) (h1 : H a = some (.lst xs)) (h2 : H b = some (.lst ys)) (hz : xs.length + ys.length ≤ sizeLine)
    (h : ∀ p H', Tr B ((p, .lst (xs ++ ys)) :: L) H' → Q (.ref p) H') : rAddA (.ref a) (.ref b) H Q :=
  .inr ⟨a, b, xs, ys, rfl, rfl, h1, h2, hz, fun p hp => h p _ (T.new hp)⟩
theorem i_mulI (hc : CMulW i j) (h : Q (.int (i * j)) H) : rMulA (.int i) (.int j) H Q := .inl (i_I hc h)
theorem i_rep (T : Tr B L H) (h1 : H a = some (.lst xs)) (hk : -(2 ^ 63) ≤ k) (hk2 : k < 2 ^ 63) (hz : xs.length * k.toNat ≤ sizeLine)
    (h : ∀ p H', Tr B ((p, .lst ((List.replicate k.toNat xs).flatten)) :: L) H' → Q (.ref p) H') : rMulA (.ref a) (.int k) H Q :=
  .inr ⟨a, k, xs, rfl, rfl, h1, hk, hk2, hz, fun p hp => h p _ (T.new hp)⟩
theorem i_fdiv (h0 : 0 < j) (hb : j.natAbs < 2 ^ 60) (h : Q (.int (i / j)) H) : rI CDivW (fun i j => .int (i / j)) (.int i) (.int j) H Q := i_I (wide_div h0 hb (by decide) (by decide)) h
theorem i_mod (h0 : 0 < j) (h : Q (.int (i % j)) H) : rI (fun _ j => 0 < j) (fun i j => .int (i % j)) (.int i) (.int j) H Q := i_I h0 h
theorem i_pow (hc : (0 ≤ j ∧ j ≤ 1000000) ∧ i.natAbs < 2 ^ 64) (e : i ^ j.toNat = n) (h : Q (.int n) H) : rI CPow (fun i j => .int (i ^ j.toNat)) (.int i) (.int j) H Q := i_I ⟨hc.1.1, hc.1.2, hc.2⟩ (by rw [e]; exact h)
theorem i_sq (hc : i.natAbs < 2 ^ 64) (h : Q (.int (i * i)) H) : rI CPow (fun i j => .int (i ^ j.toNat)) (.int i) (.int 2) H Q := i_pow (n := i * i) ⟨⟨by decide, by decide⟩, hc⟩ (by show i ^ 2 = i * i; rw [Int.pow_succ, Int.pow_succ, Int.pow_zero, Int.one_mul]) h
theorem dec_int : decide (V.int i = V.int j) = decide (i = j) := by
  by_cases h : i = j
  · rw [decide_eq_true h, decide_eq_true (by rw [h])]
  · rw [decide_eq_false h, decide_eq_false (fun e => h (V.int.inj e))]
theorem dec_bl {a b : Bool} : decide (V.bl a = V.bl b) = decide (a = b) := by cases a <;> cases b <;> rfl
theorem i_eqI (h : Q (.bl (decide (i = j))) H) : rEqA K (.int i) (.int j) H Q := .inl ⟨rfl, by rw [dec_int]; exact h⟩
theorem i_neI (h : Q (.bl (!decide (i = j))) H) : rNeA K (.int i) (.int j) H Q := .inl ⟨rfl, by rw [dec_int]; exact h⟩
theorem i_eqB {a b : Bool} (h : Q (.bl (decide (a = b))) H) : rEqA K (.bl a) (.bl b) H Q := .inl ⟨rfl, by rw [dec_bl]; exact h⟩
theorem i_neB {a b : Bool} (h : Q (.bl (!decide (a = b))) H) : rNeA K (.bl a) (.bl b) H Q := .inl ⟨rfl, by rw [dec_bl]; exact h⟩
theorem i_eqD {d e : PyData} (h1 : Dp K H x d) (h2 : Dp K H y e) (s1 : SeqAt.shaped d = true) (s2 : SeqAt.shaped e = true) (h : Q (.bl (PyData.eqv d e)) H) : rEqA K x y H Q := .inr (.inl ⟨d, e, h1, h2, s1, s2, h⟩)
theorem i_neD {d e : PyData} (h1 : Dp K H x d) (h2 : Dp K H y e) (s1 : SeqAt.shaped d = true) (s2 : SeqAt.shaped e = true) (h : Q (.bl (!PyData.eqv d e)) H) : rNeA K x y H Q := .inr (.inl ⟨d, e, h1, h2, s1, s2, h⟩)
theorem i_isN (h : Q (.bl (decide (x = .non))) H) : rIsN x .non H Q := ⟨rfl, h⟩
theorem i_notN (h : Q (.bl (!decide (x = .non))) H) : rNotN x .non H Q := ⟨rfl, h⟩
theorem i_ixL (h1 : SqL K H a xs) (h2 : atI xs i = some v) (h : Q v H) : rIx K (.ref a) (.int i) H Q := .inl ⟨a, xs, i, v, rfl, rfl, h1, h2, h⟩
theorem i_ixT (h1 : SqT K H a xs) (h2 : atI xs i = some v) (h : Q v H) : rIx K (.ref a) (.int i) H Q := .inr (.inl ⟨a, xs, i, v, rfl, rfl, h1, h2, h⟩)
theorem atI_int (h0 : 0 ≤ i) (h1 : i < ns.length) : atI (ns.map V.int) i = some (.int ns[i.toNat]!) := by
  obtain ⟨m, rfl⟩ : ∃ m : Nat, i = m := ⟨i.toNat, by omega⟩
  refine atI_nat ?_
  rw [List.getElem?_map, Int.toNat_natCast, List.getElem!_eq_getElem?_getD, List.getElem?_eq_getElem (by omega)]
  rfl
theorem i_ixI (h1 : SqL K H a (ns.map V.int)) (h0 : 0 ≤ i) (h2 : i < ns.length) (h : Q (.int ns[i.toNat]!) H) : rIx K (.ref a) (.int i) H Q := i_ixL h1 (atI_int h0 h2) h
theorem i_tcons {R : List V → Hp → Prop} (h : te σ H fun x H1 => tx σ H1 fun xs H2 => R (x :: xs) H2) : tCons te tx σ H R := h
theorem i_tnil {R : List V → Hp → Prop} (h : R [] H) : tNil σ H R := h
theorem i_ttup (h : tx σ H fun xs H1 => rTup xs H1 Q) : tTup tx σ H Q := h
theorem i_tup (T : Tr B L H) (hz : xs.length ≤ sizeLine) (h : ∀ p H', Tr B ((p, .tup xs) :: L) H' → Q (.ref p) H') : rTup xs H Q := ⟨hz, fun p hp => h p _ (T.new hp)⟩
theorem i_tlst (h : tx σ H fun xs H1 => rLst xs H1 Q) : tLst tx σ H Q := h
theorem i_lst (T : Tr B L H) (hz : xs.length ≤ sizeLine) (h : ∀ p H', Tr B ((p, .lst xs) :: L) H' → Q (.ref p) H') : rLst xs H Q := ⟨hz, fun p hp => h p _ (T.new hp)⟩
theorem i_call {sp : Sp} {E : XK} (h : tx σ H fun vs H1 => sp vs H1 Q E) : tCall sp [] E tx σ H Q := by
  have e : (fun (vs : List V) (H1 : Hp) => sp (vs ++ []) H1 Q E) = fun vs H1 => sp vs H1 Q E := by
    funext vs H1
    rw [List.append_nil]
  show tx σ H fun vs H1 => sp (vs ++ []) H1 Q E
  rw [e]
  exact h
theorem i_cb {r : List V → Hp → VK → Prop} (h : tx σ H fun vs H1 => r vs H1 Q) : tCB r tx σ H Q := h
theorem i_len (h1 : SqL K H a xs) (h : Q (.int xs.length) H) : rLen K [.ref a] H Q := ⟨a, xs, rfl, .inl h1, h⟩
theorem i_lenI (h1 : SqL K H a (ns.map V.int)) (h : Q (.int ns.length) H) : rLen K [.ref a] H Q := i_len h1 (by rw [List.length_map]; exact h)
theorem i_lenT (h1 : SqT K H a xs) (h : Q (.int xs.length) H) : rLen K [.ref a] H Q := ⟨a, xs, rfl, .inr h1, h⟩
theorem i_abs (h : Q (.int (if i < 0 then -i else i)) H) : rAbs [.int i] H Q := ⟨i, rfl, h⟩
theorem i_max2 (h : Q (.int (max i j)) H) : rMax2 [.int i, .int j] H Q := ⟨i, j, rfl, by
  rw [show (if j > i then j else i) = max i j by split <;> omega]
  exact h⟩
theorem i_min2 (h : Q (.int (min i j)) H) : rMin2 [.int i, .int j] H Q := ⟨i, j, rfl, by
  rw [show (if j < i then j else i) = min i j by split <;> omega]
  exact h⟩
theorem i_intI (h : Q (.int i) H) : rInt1 [.int i] H Q := .inl ⟨i, rfl, h⟩
theorem i_intB {k : Bool} (h : Q (.int (if k then 1 else 0)) H) : rInt1 [.bl k] H Q := .inr ⟨k, rfl, h⟩
theorem i_list (T : Tr B L H) (h1 : SqL K H a xs) (h : ∀ p H', Tr B ((p, .lst xs) :: L) H' → Q (.ref p) H') : rListOf K [.ref a] H Q := ⟨a, xs, rfl, .inl h1, fun p hp => h p _ (T.new hp)⟩
theorem i_listT (T : Tr B L H) (h1 : SqT K H a xs) (h : ∀ p H', Tr B ((p, .lst xs) :: L) H' → Q (.ref p) H') : rListOf K [.ref a] H Q := ⟨a, xs, rfl, .inr h1, fun p hp => h p _ (T.new hp)⟩
theorem i_sum (h1 : SqL K H a (ns.map V.int)) (h : Q (.int ns.sum) H) : rSum K [.ref a] H Q := ⟨a, ns, rfl, h1, h⟩
theorem i_max (h1 : SqL K H a (ns.map V.int)) (h0 : 0 < ns.length) (h : ∀ m, m ∈ ns → (∀ y, y ∈ ns → y ≤ m) → Q (.int m) H) : rMax K [.ref a] H Q := ⟨a, ns, rfl, h1, h0, h⟩
theorem i_min (h1 : SqL K H a (ns.map V.int)) (h0 : 0 < ns.length) (h : ∀ m, m ∈ ns → (∀ y, y ∈ ns → m ≤ y) → Q (.int m) H) : rMin K [.ref a] H Q := ⟨a, ns, rfl, h1, h0, h⟩
theorem i_sorted (T : Tr B L H) (h1 : SqL K H a (ns.map V.int)) (h : ∀ (ms : List Int) p H', ms.Perm ns → ms.Pairwise (· ≤ ·) → Tr B ((p, .lst (ms.map V.int)) :: L) H' → Q (.ref p) H') : rSortedI K [.ref a] H Q :=
  ⟨a, ns, rfl, h1, fun ms p h2 h3 hp => h ms p _ h2 h3 (T.new hp)⟩
theorem i_repr {d : PyData} (h1 : Dp K H x d) (h2 : d.showable = true) (h3 : d.hasDict = false) (h4 : d.depth ≤ 60) (h5 : d.shown.length ≤ sizeLine) (h : Q (.str d.shown) H) : rRepr K [x] H Q := ⟨x, d, rfl, h1, h2, h3, h4, h5, h⟩
-- methods
theorem i_bm {T : String} {r : V → List V → Hp → VK → Prop} (h : to σ H fun x H1 => rMt K T r tx σ x H1 Q) : tBM K T r to tx σ H Q := h
theorem i_mtL {r : V → List V → Hp → VK → Prop} (h1 : SqL K H a xs) (h : tx σ H fun zs H2 => r (.ref a) zs H2 Q) : rMt K "list" r tx σ (.ref a) H Q := ⟨.inl ⟨rfl, xs, h1⟩, h⟩
theorem i_append (m : Nat) (T : Tr B L H) (h1 : L[m]? = some (a, .lst xs)) (hz : xs.length < sizeLine) (h : ∀ H', Tr B (L.set m (a, .lst (xs ++ [y]))) H' → Q .non H') : rAppend (.ref a) [y] H Q :=
  ⟨a, xs, y, rfl, rfl, T.get m h1, hz, h _ (T.put m h1)⟩
theorem i_setL (m : Nat) {l : Nat} {R : Hp → Prop} (T : Tr B L H) (h1 : L[m]? = some (a, .lst xs)) (h2 : ixN xs.length i = some l) (h : ∀ H', Tr B (L.set m (a, .lst (xs.set l v))) H' → R H') : rSetL (.ref a) (.int i) v H R :=
  ⟨a, xs, i, l, rfl, rfl, T.get m h1, h2, h _ (T.put m h1)⟩
-- slices
theorem i_sl {r : V → Option Int → Option Int → Hp → VK → Prop} {tl th : TO} (h : te σ H fun x H1 => tl σ H1 fun l H2 => th σ H2 fun u H3 => r x l u H3 Q) : tSl r te tl th σ H Q := h
theorem i_nopart {R : Option Int → Hp → Prop} (h : R none H) : tNoPart σ H R := h
def rPart (x : V) (H : Hp) (R : Option Int → Hp → Prop) : Prop := ∃ i, x = .int i ∧ R (some i) H
theorem i_part {R : Option Int → Hp → Prop} (h : te σ H fun x H1 => rPart x H1 R) : tPart te σ H R := h
theorem i_partI {R : Option Int → Hp → Prop} (h : R (some i) H) : rPart (.int i) H R := ⟨i, rfl, h⟩
theorem i_slL {lo hi : Option Int} (T : Tr B L H) (h1 : SqL K H a xs) (h : ∀ p H', Tr B ((p, .lst (cutV xs lo hi)) :: L) H' → Q (.ref p) H') : rSlL K (.ref a) lo hi H Q := ⟨a, xs, rfl, h1, fun p hp => h p _ (T.new hp)⟩
-- tests
section
variable {R : Bool → Hp → Prop}
theorem i_test (h : te σ H fun x H1 => rBl x H1 R) : tTest te σ H R := h
theorem i_tB (h : te σ H fun x H1 => rBl x H1 R) : tB te σ H R := h
theorem i_bl {k : Bool} (h : R k H) : rBl (.bl k) H R := ⟨k, rfl, h⟩
theorem i_and (h : c σ H fun b H1 => if b = true then tt σ H1 R else R false H1) : tAnd c tt σ H R := h
theorem i_or (h : c σ H fun b H1 => if b = true then R true H1 else tt σ H1 R) : tOr c tt σ H R := h
theorem i_not (h : c σ H fun b H1 => R (!b) H1) : tNot c σ H R := h
end
def rBlV (x : V) (H : Hp) (R : Bool → Hp → Prop) : Prop := ∃ k, x = .bl k ∧ R k H
theorem i_andV (h : ta σ H fun x H1 => rBl x H1 fun k H2 => if k = true then tb σ H2 Q else Q (.bl false) H2) : tAndV ta tb σ H Q := h
theorem i_orV (h : ta σ H fun x H1 => rBl x H1 fun k H2 => if k = true then Q (.bl true) H2 else tb σ H2 Q) : tOrV ta tb σ H Q := h
theorem i_notV (h : ta σ H fun x H1 => rBl x H1 fun k H2 => Q (.bl (!k)) H2) : tNotV ta σ H Q := h
theorem i_ifE (h : c σ H fun b H1 => if b = true then ta σ H1 Q else tb σ H1 Q) : tIf c ta tb σ H Q := h
theorem i_chain (h : ta σ H fun x H1 => tb σ H1 fun y H2 => r x y H2 fun z H3 => rBl z H3 fun k H4 => if k = true then tc σ H4 fun w' H5 => r' y w' H5 Q else Q (.bl false) H4) : tChain r r' ta tb tc σ H Q := h
end

/-! ### branches -/
theorem i_T {A C : Prop} (h : A) : if true = true then A else C := by
  rw [if_pos rfl]
  exact h
theorem i_F {A C : Prop} (h : C) : if false = true then A else C := by
  rw [if_neg Bool.false_ne_true]
  exact h
theorem i_decT {p A C : Prop} [Decidable p] (hp : p) (h : A) : if decide p = true then A else C := by
  rw [if_pos (decide_eq_true hp)]
  exact h
theorem i_decF {p A C : Prop} [Decidable p] (hp : ¬ p) (h : C) : if decide p = true then A else C := by
  rw [if_neg (by rw [decide_eq_false hp]; exact Bool.false_ne_true)]
  exact h
theorem i_ndecT {p A C : Prop} [Decidable p] (hp : ¬ p) (h : A) : if (!decide p) = true then A else C := by
  rw [if_pos (by rw [decide_eq_false hp]; rfl)]
  exact h
theorem i_ndecF {p A C : Prop} [Decidable p] (hp : p) (h : C) : if (!decide p) = true then A else C := by
  rw [if_neg (by rw [decide_eq_true hp]; exact Bool.false_ne_true)]
  exact h
/-- both ways -/
theorem i_if {p A C : Prop} [Decidable p] (h1 : p → A) (h2 : ¬ p → C) : if decide p = true then A else C := by
  by_cases hp : p
  · exact i_decT hp (h1 hp)
  · exact i_decF hp (h2 hp)
theorem i_nif {p A C : Prop} [Decidable p] (h1 : ¬ p → A) (h2 : p → C) : if (!decide p) = true then A else C := by
  by_cases hp : p
  · exact i_ndecF hp (h2 hp)
  · exact i_ndecT hp (h1 hp)
theorem i_bif {b : Bool} {A C : Prop} (h1 : b = true → A) (h2 : b = false → C) : if b = true then A else C := by
  cases b with
  | true => exact i_T (h1 rfl)
  | false => exact i_F (h2 rfl)

/-! ### loops -/
section
variable {K : PySem.W.Frag} {H : Hp} {σ : L2.St} {nx bk ct : L2.St → Hp → Prop} {rt : VK} {g : TG} {tb : TS} {c : TT} {a : Addr} {xs : List V} {ns : List Int}
theorem f_list (Pv : Nat → L2.St → Hp → Prop) (h0 : Pv 0 σ H) (hl : ∀ i σ H, Pv i σ H → SqL K H a xs)
    (hs : ∀ i x σ H, xs[i]? = some x → Pv i σ H → g x σ H fun σ2 H2 => tb ⟨Pv (i + 1), rt, nx, Pv (i + 1)⟩ σ2 H2) (hd : ∀ σ H, Pv xs.length σ H → nx σ H) :
    rFor (Itl K a) g tb ⟨nx, rt, bk, ct⟩ σ H := for_list Pv h0 (fun i σ H _ h => hl i σ H h) hs hd
theorem f_ints (Pv : Nat → L2.St → Hp → Prop) (h0 : Pv 0 σ H) (hl : ∀ i σ H, Pv i σ H → SqL K H a (ns.map V.int))
    (hs : ∀ i n σ H, ns[i]? = some n → Pv i σ H → g (.int n) σ H fun σ2 H2 => tb ⟨Pv (i + 1), rt, nx, Pv (i + 1)⟩ σ2 H2) (hd : ∀ σ H, Pv ns.length σ H → nx σ H) :
    rFor (Itl K a) g tb ⟨nx, rt, bk, ct⟩ σ H := f_list (xs := ns.map V.int) Pv h0 hl (fun i x σ H e h => by
      rw [List.getElem?_map] at e
      cases z : ns[i]? with
      | none =>
        rw [z] at e
        cases e
      | some n =>
        rw [z] at e
        cases e
        exact hs i n σ H z h) (by rw [List.length_map]; exact hd)
theorem f_tup (Pv : Nat → L2.St → Hp → Prop) (h0 : Pv 0 σ H) (hl : ∀ i σ H, Pv i σ H → SqT K H a xs)
    (hs : ∀ i x σ H, xs[i]? = some x → Pv i σ H → g x σ H fun σ2 H2 => tb ⟨Pv (i + 1), rt, nx, Pv (i + 1)⟩ σ2 H2) (hd : ∀ σ H, Pv xs.length σ H → nx σ H) :
    rFor (Itt K a) g tb ⟨nx, rt, bk, ct⟩ σ H := for_tup Pv h0 (fun i σ H _ h => hl i σ H h) hs hd
theorem f_range {lo : Int} {n : Nat} (Pv : Nat → L2.St → Hp → Prop) (h0 : Pv 0 σ H)
    (hs : ∀ i σ H, i < n → Pv i σ H → g (.int (lo + i)) σ H fun σ2 H2 => tb ⟨Pv (i + 1), rt, nx, Pv (i + 1)⟩ σ2 H2) (hd : ∀ σ H, Pv n σ H → nx σ H) :
    rFor (Itr lo n) g tb ⟨nx, rt, bk, ct⟩ σ H := for_range Pv h0 hs hd
theorem f_rangeC {lo c : Int} {n : Nat} (Pv : Nat → L2.St → Hp → Prop) (h0 : Pv 0 σ H)
    (hs : ∀ i σ H, i < n → Pv i σ H → g (.int (lo + (i : Nat) * c)) σ H fun σ2 H2 => tb ⟨Pv (i + 1), rt, nx, Pv (i + 1)⟩ σ2 H2) (hd : ∀ σ H, Pv n σ H → nx σ H) :
    rFor (Itc lo c n) g tb ⟨nx, rt, bk, ct⟩ σ H := for_rangeC Pv h0 hs hd
/-- enumerate: a new pair each turn -/
theorem f_enum (Pv : Nat → L2.St → Hp → Prop) (h0 : Pv 0 σ H) (hl : ∀ i σ H, Pv i σ H → SqL K H a xs)
    (hs : ∀ i x σ H p, xs[i]? = some x → Pv i σ H → H p = none → g (.ref p) σ (upd H p (.tup [.int i, x])) fun σ2 H2 => tb ⟨Pv (i + 1), rt, nx, Pv (i + 1)⟩ σ2 H2)
    (hd : ∀ σ H, Pv xs.length σ H → nx σ H) : rFor (Ite K a) g tb ⟨nx, rt, bk, ct⟩ σ H := by
  refine ⟨fun i m σ H => m = xs.length - i ∧ i ≤ xs.length ∧ Pv i σ H, ⟨xs.length, by simp, Nat.zero_le _, h0⟩, ?_⟩
  rintro i m σ H ⟨rfl, hi, p⟩
  have q := hl i σ H p
  by_cases hlt : i < xs.length
  · refine .inr ⟨⟨xs, xs[i], q, by simp [hlt]⟩, Pv (i + 1), fun σ' H' p' => ⟨xs.length - (i + 1), by omega, rfl, hlt, p'⟩, fun x H' y => ?_⟩
    obtain ⟨T, v, rfl, hT, rfl, fv⟩ := y
    exact hs i v σ H T (fv xs q) p hT
  · have e : i = xs.length := by omega
    subst e
    exact .inl ⟨⟨xs, q, Nat.le_refl _⟩, hd σ H p⟩
/-- while, its invariant with a number that falls -/
def rTurn (Pv : Nat → L2.St → Hp → Prop) (m : Nat) (tb : TS) (D : Ends) (σ : L2.St) (H : Hp) : Prop :=
  ∃ N : L2.St → Hp → Prop, (∀ σ' H', N σ' H' → ∃ m', m' < m ∧ Pv m' σ' H') ∧ tb ⟨N, D.rt, D.nx, N⟩ σ H
theorem i_turn {Pv : Nat → L2.St → Hp → Prop} {m : Nat}
    (h : tb ⟨fun σ' H' => ∃ m', m' < m ∧ Pv m' σ' H', rt, nx, fun σ' H' => ∃ m', m' < m ∧ Pv m' σ' H'⟩ σ H) : rTurn Pv m tb ⟨nx, rt, bk, ct⟩ σ H := ⟨_, fun _ _ z => z, h⟩
theorem f_while (Pv : Nat → L2.St → Hp → Prop) (h0 : ∃ m, Pv m σ H)
    (hs : ∀ m σ H, Pv m σ H → c σ H fun b H1 => if b = true then rTurn Pv m tb ⟨nx, rt, bk, ct⟩ σ H1 else nx σ H1) : tWhile c tb ⟨nx, rt, bk, ct⟩ σ H :=
  ⟨Pv, h0, hs⟩
/-- if, its ways joined behind it -/
theorem f_cut {t u : TS} (Mid : L2.St → Hp → Prop) (h1 : t ⟨Mid, rt, bk, ct⟩ σ H) (h2 : ∀ σ' H', Mid σ' H' → u ⟨nx, rt, bk, ct⟩ σ' H') : C8.tCut t u ⟨nx, rt, bk, ct⟩ σ H := ⟨Mid, h1, h2⟩
end

/-! ### comprehensions -/
section
variable {K : PySem.W.Frag} {B H : Hp} {L : List (Addr × HO)} {σ : L2.St} {g : TG} {tt : TT} {te : TE} {vs : List Nat} {Q : VK} {a b : Addr} {xs ys : List V} {ns : List Int} {wi : TI}
theorem i_lc (h : wi σ H fun J H1 => rLc J g tt te vs σ H1 Q) : tLc wi g tt te vs σ H Q := h
theorem i_yes {R : Bool → Hp → Prop} (h : R true H) : tYes σ H R := h
theorem i_wipe {σ2 : L2.St} {P : Prop} (e : wipe σ2 vs = wipe σ vs) (h : P) : wipe σ2 vs = wipe σ vs ∧ P := ⟨e, h⟩
theorem i_elt (m : Nat) {D : Addr} {acc : List V} {Nx : Hp → Prop} {y : V} (T : Tr B L H) (h1 : L[m]? = some (D, .lst acc)) (hz : acc.length < sizeLine)
    (h : ∀ H', Tr B (L.set m (D, .lst (acc ++ [y]))) H' → Nx H') : rElt D Nx y H := ⟨acc, T.get m h1, hz, h _ (T.put m h1)⟩
theorem c_list (T : Tr B L H) (Pv : Addr → Nat → Hp → Prop) (h0 : ∀ D H', Tr B ((D, .lst []) :: L) H' → Pv D 0 H')
    (hl : ∀ D i H, Pv D i H → SqL K H a xs)
    (hs : ∀ D i x H, xs[i]? = some x → Pv D i H → g x (wipe σ vs) H fun σ2 H2 => wipe σ2 vs = wipe σ vs ∧ tt σ2 H2 fun b H3 =>
      if b = true then te σ2 H3 (rElt D (Pv D (i + 1))) else Pv D (i + 1) H3)
    (hd : ∀ D H', Pv D xs.length H' → Q (.ref D) H') : rLc (Itl K a) g tt te vs σ H Q := fun D hD =>
  lc_list (Pv D) (h0 D _ (T.new hD)) (fun i H _ h => hl D i H h) (hs D) (hd D)
theorem c_ints (T : Tr B L H) (Pv : Addr → Nat → Hp → Prop) (h0 : ∀ D H', Tr B ((D, .lst []) :: L) H' → Pv D 0 H')
    (hl : ∀ D i H, Pv D i H → SqL K H a (ns.map V.int))
    (hs : ∀ D i n H, ns[i]? = some n → Pv D i H → g (.int n) (wipe σ vs) H fun σ2 H2 => wipe σ2 vs = wipe σ vs ∧ tt σ2 H2 fun b H3 =>
      if b = true then te σ2 H3 (rElt D (Pv D (i + 1))) else Pv D (i + 1) H3)
    (hd : ∀ D H', Pv D ns.length H' → Q (.ref D) H') : rLc (Itl K a) g tt te vs σ H Q :=
  c_list (xs := ns.map V.int) T Pv h0 hl (fun D i x H e h => by
    rw [List.getElem?_map] at e
    cases z : ns[i]? with
    | none =>
      rw [z] at e
      cases e
    | some n =>
      rw [z] at e
      cases e
      exact hs D i n H z h) (by rw [List.length_map]; exact hd)
theorem c_range {lo : Int} {n : Nat} (T : Tr B L H) (Pv : Addr → Nat → Hp → Prop) (h0 : ∀ D H', Tr B ((D, .lst []) :: L) H' → Pv D 0 H')
    (hs : ∀ D i H, i < n → Pv D i H → g (.int (lo + i)) (wipe σ vs) H fun σ2 H2 => wipe σ2 vs = wipe σ vs ∧ tt σ2 H2 fun b H3 =>
      if b = true then te σ2 H3 (rElt D (Pv D (i + 1))) else Pv D (i + 1) H3)
    (hd : ∀ D H', Pv D n H' → Q (.ref D) H') : rLc (Itr lo n) g tt te vs σ H Q := fun D hD =>
  lc_range (Pv D) (h0 D _ (T.new hD)) (hs D) (hd D)
/-- over a zip: as long as both have items -/
theorem c_zip (T : Tr B L H) (Pv : Addr → Nat → Hp → Prop) (h0 : ∀ D H', Tr B ((D, .lst []) :: L) H' → Pv D 0 H')
    (hl : ∀ D i H, Pv D i H → SqL K H a xs ∧ SqL K H b ys) (hlen : xs.length = ys.length)
    (hs : ∀ D i x y H p, xs[i]? = some x → ys[i]? = some y → Pv D i H → H p = none → g (.ref p) (wipe σ vs) (upd H p (.tup [x, y])) fun σ2 H2 => wipe σ2 vs = wipe σ vs ∧ tt σ2 H2 fun b H3 =>
      if b = true then te σ2 H3 (rElt D (Pv D (i + 1))) else Pv D (i + 1) H3)
    (hd : ∀ D H', Pv D xs.length H' → Q (.ref D) H') : rLc (Itz K a b) g tt te vs σ H Q := fun D hD => by
  refine ⟨fun i m H => m = xs.length - i ∧ i ≤ xs.length ∧ Pv D i H, ⟨xs.length, by simp, Nat.zero_le _, h0 D _ (T.new hD)⟩, ?_⟩
  rintro i m H ⟨rfl, hi, p⟩
  obtain ⟨q1, q2⟩ := hl D i H p
  by_cases hlt : i < xs.length
  · have hy : i < ys.length := by omega
    refine .inr ⟨⟨xs, ys, xs[i], ys[i], q1, q2, by simp [hlt], by simp [hy]⟩, Pv D (i + 1), fun H' p' => ⟨xs.length - (i + 1), by omega, rfl, hlt, p'⟩, fun x H' y => ?_⟩
    obtain ⟨t, u, v, rfl, hT, rfl, f1, f2⟩ := y
    exact hs D i u v H t (f1 xs q1) (f2 ys q2) p hT
  · have e : i = xs.length := by omega
    subst e
    exact .inl ⟨⟨xs, ys, q1, q2, .inl (Nat.le_refl _)⟩, hd D H p⟩
theorem c_enum (T : Tr B L H) (Pv : Addr → Nat → Hp → Prop) (h0 : ∀ D H', Tr B ((D, .lst []) :: L) H' → Pv D 0 H')
    (hl : ∀ D i H, Pv D i H → SqL K H a xs)
    (hs : ∀ D i x H p, xs[i]? = some x → Pv D i H → H p = none → g (.ref p) (wipe σ vs) (upd H p (.tup [.int i, x])) fun σ2 H2 => wipe σ2 vs = wipe σ vs ∧ tt σ2 H2 fun b H3 =>
      if b = true then te σ2 H3 (rElt D (Pv D (i + 1))) else Pv D (i + 1) H3)
    (hd : ∀ D H', Pv D xs.length H' → Q (.ref D) H') : rLc (Ite K a) g tt te vs σ H Q := fun D hD => by
  refine ⟨fun i m H => m = xs.length - i ∧ i ≤ xs.length ∧ Pv D i H, ⟨xs.length, by simp, Nat.zero_le _, h0 D _ (T.new hD)⟩, ?_⟩
  rintro i m H ⟨rfl, hi, p⟩
  have q := hl D i H p
  by_cases hlt : i < xs.length
  · refine .inr ⟨⟨xs, xs[i], q, by simp [hlt]⟩, Pv D (i + 1), fun H' p' => ⟨xs.length - (i + 1), by omega, rfl, hlt, p'⟩, fun x H' y => ?_⟩
    obtain ⟨t, v, rfl, hT, rfl, fv⟩ := y
    exact hs D i v H t (fv xs q) p hT
  · have e : i = xs.length := by omega
    subst e
    exact .inl ⟨⟨xs, q, Nat.le_refl _⟩, hd D H p⟩
end

/-! ### the names of the built-ins, the defs -/
structure Blt (mg : Str → Option Value) : Prop where
  abs_ : mg "abs" = none
  all_ : mg "all" = none
  bool_ : mg "bool" = none
  dict_ : mg "dict" = none
  enumerate_ : mg "enumerate" = none
  int_ : mg "int" = none
  isinstance_ : mg "isinstance" = none
  len_ : mg "len" = none
  list_ : mg "list" = none
  max_ : mg "max" = none
  min_ : mg "min" = none
  range_ : mg "range" = none
  repr_ : mg "repr" = none
  set_ : mg "set" = none
  sorted_ : mg "sorted" = none
  str_ : mg "str" = none
  sum_ : mg "sum" = none
  tuple_ : mg "tuple" = none
  zip_ : mg "zip" = none
  ValueError_ : mg "ValueError" = none
theorem mkFn {P : Program} {w : World} {K : PySem.W.Frag} {mg : Str → Option Value} {base : Heap} {x qual : Str} {params : Arguments} {body : List Stmt} {scope : Scope}
    {f : Addr} {fd : FuncData} {ps : List Str} {k : Nat} {sp : Sp} (F : FunD K x qual params body scope [] [] f fd) (hm : mg x = some (.ref f))
    (hb : ∀ (kV doc pm : Value) (an : Option Addr) (cdv ct : Value) (us : List Value), us.length = ps.length →
      bindArgs (PySem.W.fnOf x qual params body scope .none kV doc pm an cdv ct) ⟨us, []⟩ = pure (ps.zip us))
    (G : FnG P w K mg base k f fd ps sp) : Fn P w K mg base k x ps sp := ⟨f, fd, hm, F.kp, F.bindsN hb, G⟩
end PB

namespace PB
open PySem PySem.Spec PyProof.Rows L2
/-! ### lists of ints as data -/
def dI (ns : List Int) : PyData := .list (ns.map .int)
theorem dp_all {K : PySem.W.Frag} {H : Hp} : ∀ ns : List Int, DpAll K H (ns.map V.int) (ns.map PyData.int)
  | [] => .nil
  | n :: ns => .cons (.int n) (dp_all ns)
theorem dp_ints {K : PySem.W.Frag} {H : Hp} {a : Addr} {ns : List Int} (h : SqL K H a (ns.map V.int)) : Dp K H (.ref a) (dI ns) := .lst h (dp_all ns)
theorem canLay_ints : ∀ ns : List Int, PyData.canLayAll0 (ns.map PyData.int) = true
  | [] => by simp [PyData.canLayAll0]
  | n :: ns => by
    simp only [List.map_cons, PyData.canLayAll0, PyData.canLay0, canLay_ints ns, Bool.and_self]
theorem depth_ints : ∀ ns : List Int, PyData.depthAll (ns.map PyData.int) = 0
  | [] => by simp [PyData.depthAll]
  | n :: ns => by
    simp only [List.map_cons, PyData.depthAll, PyData.depth, depth_ints ns, Nat.max_self]
theorem dI_depth (ns : List Int) : (dI ns).depth = 1 := by
  unfold dI
  rw [PyData.depth, depth_ints]
theorem shaped_ints (ns : List Int) : SeqAt.shaped (dI ns) = true := by
  unfold SeqAt.shaped
  rw [dI_depth]
  unfold dI
  rw [PyData.canLay0, canLay_ints]
  rfl
theorem showable_ints : ∀ ns : List Int, (∀ n ∈ ns, n.natAbs < 2 ^ 64) → PyData.showableAll (ns.map PyData.int) = true
  | [], _ => by simp [PyData.showableAll]
  | n :: ns, h => by
    have h1 : n.natAbs.log2 < 1920 := by
      have h2 := h n List.mem_cons_self
      have h3 : n.natAbs.log2 < 64 := PySem.Flt.log2_lt_of (by decide) h2
      omega
    simp only [List.map_cons, PyData.showableAll, PyData.showable, showable_ints ns (fun m hm => h m (List.mem_cons_of_mem _ hm)), Bool.and_true, decide_eq_true_eq]
    exact h1
theorem dI_showable {ns : List Int} (h : ∀ n ∈ ns, n.natAbs < 2 ^ 64) : (dI ns).showable = true := by
  unfold dI
  rw [PyData.showable, showable_ints ns h]
theorem nodict_ints : ∀ ns : List Int, PyData.hasDictAll (ns.map PyData.int) = false
  | [] => by simp [PyData.hasDictAll]
  | n :: ns => by
    simp only [List.map_cons, PyData.hasDictAll, PyData.hasDict, nodict_ints ns, Bool.or_self]
theorem dI_nodict (ns : List Int) : (dI ns).hasDict = false := by
  unfold dI
  rw [PyData.hasDict, nodict_ints]
theorem short_ints : ∀ ns : List Int, (∀ n ∈ ns, n.natAbs < 2 ^ 64) → PyData.leavesShortAll 65 (ns.map PyData.int) = true
  | [], _ => by simp [PyData.leavesShortAll]
  | n :: ns, h => by
    have h1 : (toString n).length ≤ 64 + 1 := int_text_length_le (by decide) (PySem.Flt.log2_lt_of (by decide) (h n List.mem_cons_self))
    simp only [List.map_cons, PyData.leavesShortAll, PyData.leavesShort, short_ints ns (fun m hm => h m (List.mem_cons_of_mem _ hm)), Bool.and_true, decide_eq_true_eq]
    show (Str.ofString (toString n)).length ≤ 65
    rw [PySem.ofString_length]
    exact h1
theorem weight_ints : ∀ ns : List Int, (∀ n ∈ ns, n.natAbs < 2 ^ 64) → PyData.weightAll (ns.map PyData.int) ≤ 66 * ns.length
  | [], _ => by simp [PyData.weightAll]
  | n :: ns, h => by
    have ih := weight_ints ns (fun m hm => h m (List.mem_cons_of_mem _ hm))
    have h3 : n.natAbs.log2 < 64 := PySem.Flt.log2_lt_of (by decide) (h n List.mem_cons_self)
    rw [List.map_cons, PyData.weightAll, PyData.weight, List.length_cons]
    split <;> omega
theorem dI_shown {ns : List Int} (h : ∀ n ∈ ns, n.natAbs < 2 ^ 64) (hl : ns.length ≤ 3000) : (dI ns).shown.length ≤ sizeLine := by
  have h1 : (dI ns).leavesShort 65 = true := by
    unfold dI
    rw [PyData.leavesShort, short_ints ns h]
  have h2 := PyData.shown_le 65 (by decide) (dI ns) h1
  have h3 : (dI ns).weight ≤ 66 * ns.length := by
    unfold dI
    rw [PyData.weight]
    exact weight_ints ns h
  rw [sizeLine_eq]
  have h4 : (65 + 2) * (dI ns).weight ≤ 67 * (66 * ns.length) := Nat.mul_le_mul_left _ h3
  omega
theorem eqv_ints : ∀ ns ms : List Int, PyData.eqvAll (ns.map .int) (ms.map .int) = decide (ns = ms)
  | [], [] => by simp [PyData.eqvAll]
  | [], m :: ms => by simp [PyData.eqvAll]
  | n :: ns, [] => by simp [PyData.eqvAll]
  | n :: ns, m :: ms => by
    rw [List.map_cons, List.map_cons, PyData.eqvAll, PyData.eqv, eqv_ints ns ms]
    by_cases h : n = m <;> by_cases h2 : ns = ms <;> simp [h, h2]
theorem dI_eqv (ns ms : List Int) : PyData.eqv (dI ns) (dI ms) = decide (ns = ms) := by
  unfold dI
  rw [PyData.eqv, eqv_ints]
section
variable {K : PySem.W.Frag} {B H : Hp} {Q : VK} {a b : Addr} {ns ms : List Int} {x : V}
theorem i_eqLI (h1 : SqL K H a (ns.map V.int)) (h2 : SqL K H b (ms.map V.int)) (h : Q (.bl (decide (ns = ms))) H) : rEqA K (.ref a) (.ref b) H Q :=
  i_eqD (dp_ints h1) (dp_ints h2) (shaped_ints _) (shaped_ints _) (by rw [dI_eqv]; exact h)
theorem i_neLI (h1 : SqL K H a (ns.map V.int)) (h2 : SqL K H b (ms.map V.int)) (h : Q (.bl (!decide (ns = ms))) H) : rNeA K (.ref a) (.ref b) H Q :=
  i_neD (dp_ints h1) (dp_ints h2) (shaped_ints _) (shaped_ints _) (by rw [dI_eqv]; exact h)
theorem i_eqLnil (h1 : SqL K H a (ns.map V.int)) (h2 : SqL K H b []) (h : Q (.bl (decide (ns = []))) H) : rEqA K (.ref a) (.ref b) H Q :=
  i_eqLI (ms := []) h1 h2 h
theorem i_neLnil (h1 : SqL K H a (ns.map V.int)) (h2 : SqL K H b []) (h : Q (.bl (!decide (ns = []))) H) : rNeA K (.ref a) (.ref b) H Q :=
  i_neLI (ms := []) h1 h2 h
/-- the text of a list of ints, kept closed -/
def txt (ns : List Int) : Str := (dI ns).shown
theorem i_reprI (h1 : SqL K H a (ns.map V.int)) (hn : ∀ n ∈ ns, n.natAbs < 2 ^ 64) (hl : ns.length ≤ 3000) (h : Q (.str (txt ns)) H) : rRepr K [.ref a] H Q :=
  i_repr (dp_ints h1) (dI_showable hn) (dI_nodict ns) (by rw [dI_depth]; decide) (dI_shown hn hl) h
theorem i_eqS {s t : Str} (h : Q (.bl (decide (s = t))) H) : rEqA K (.str s) (.str t) H Q := .inl ⟨rfl, by
  rw [show decide (V.str s = V.str t) = decide (s = t) by
    by_cases e : s = t
    · rw [decide_eq_true e, decide_eq_true (by rw [e])]
    · rw [decide_eq_false e, decide_eq_false (fun z => e (V.str.inj z))]]
  exact h⟩
theorem i_neS {s t : Str} (h : Q (.bl (!decide (s = t))) H) : rNeA K (.str s) (.str t) H Q := .inl ⟨rfl, by
  rw [show decide (V.str s = V.str t) = decide (s = t) by
    by_cases e : s = t
    · rw [decide_eq_true e, decide_eq_true (by rw [e])]
    · rw [decide_eq_false e, decide_eq_false (fun z => e (V.str.inj z))]]
  exact h⟩
theorem i_isi {T c : String} {k : Bool} (ht : TyX K H x (.type T)) (hk : kitB T c = some k) (h : Q (.bl k) H) : rIsi K [x, .ty c] H Q := ⟨x, .ty c, _, _, k, rfl, ClsV.ty c, ht, kit_ty hk, h⟩
theorem kit_ii : kitB "int" "int" = some true := by decide +kernel
theorem kit_ib : kitB "int" "bool" = some false := by decide +kernel
theorem i_isiI {n : Int} (h : Q (.bl true) H) : rIsi K [.int n, .ty "int"] H Q := i_isi (.base (.int n)) kit_ii h
theorem i_isiB {n : Int} (h : Q (.bl false) H) : rIsi K [.int n, .ty "bool"] H Q := i_isi (.base (.int n)) kit_ib h
end
/-! ### slices of lists of ints -/
theorem cut_map (ns : List Int) (lo hi : Option Int) : cutV (ns.map V.int) lo hi = (((ns.drop (HT.sIx ns.length 0 lo)).take (HT.sIx ns.length ns.length hi - HT.sIx ns.length 0 lo)).map V.int) := by
  unfold cutV
  rw [List.length_map, ← List.map_drop, ← List.map_take]
theorem sIx_of {n d : Nat} {i : Int} (h0 : 0 ≤ i) : HT.sIx n d (some i) = min i.toNat n := by
  show (if i < 0 then (i + (n : Int)).toNat else min i.toNat n) = min i.toNat n
  rw [if_neg (by omega)]
theorem rep_one {α : Type} (x : α) : ∀ n : Nat, (List.replicate n [x]).flatten = List.replicate n x
  | 0 => rfl
  | n + 1 => by rw [List.replicate_succ, List.flatten_cons, rep_one x n]; rfl
theorem i_nT {A C : Prop} (h : C) : if (!true) = true then A else C := by
  rw [if_neg (by decide)]
  exact h
theorem i_nF {A C : Prop} (h : A) : if (!false) = true then A else C := by
  rw [if_pos (by decide)]
  exact h
/-- the part of a list of ints -/
def cutI (ns : List Int) (lo hi : Option Int) : List Int := (ns.drop (HT.sIx ns.length 0 lo)).take (HT.sIx ns.length ns.length hi - HT.sIx ns.length 0 lo)
theorem cutI_length (ns : List Int) (lo hi : Option Int) : (cutI ns lo hi).length ≤ ns.length := by
  unfold cutI
  rw [List.length_take, List.length_drop]
  omega
theorem cutI_from (ns : List Int) {i : Int} (h0 : 0 ≤ i) : cutI ns (some i) none = ns.drop i.toNat := by
  unfold cutI
  rw [sIx_of h0, HT.sIx_none]
  by_cases h : i.toNat ≤ ns.length
  · rw [Nat.min_eq_left h, List.take_of_length_le (by rw [List.length_drop]; omega)]
  · rw [Nat.min_eq_right (by omega), List.drop_eq_nil_of_le (Nat.le_refl _), List.drop_eq_nil_of_le (by omega), List.take_nil]
theorem cutI_to (ns : List Int) {i : Int} (h0 : 0 ≤ i) : cutI ns none (some i) = ns.take i.toNat := by
  unfold cutI
  rw [sIx_of h0, HT.sIx_none]
  show ns.take (min i.toNat ns.length - 0) = _
  rw [Nat.sub_zero]
  by_cases h : i.toNat ≤ ns.length
  · rw [Nat.min_eq_left h]
  · rw [Nat.min_eq_right (by omega), List.take_of_length_le (Nat.le_refl _), List.take_of_length_le (by omega)]
theorem cutI_mid (ns : List Int) {i j : Int} (h0 : 0 ≤ i) (h1 : i ≤ j) (h2 : j ≤ ns.length) : cutI ns (some i) (some j) = (ns.drop i.toNat).take (j.toNat - i.toNat) := by
  unfold cutI
  rw [sIx_of h0, sIx_of (by omega), Nat.min_eq_left (by omega), Nat.min_eq_left (by omega)]
section
variable {K : PySem.W.Frag} {B H : Hp} {L : List (Addr × HO)} {Q : VK} {a b p : Addr} {ns ms : List Int} {x y n i k : Int} {te : TE} {σ : L2.St}
theorem i_tLE (h : te σ H fun x H1 => rLE K x H1 Q) : tLE K te σ H Q := h
theorem i_lst1 (T : Tr B L H) (h : ∀ p H', Tr B ((p, .lst ([x].map V.int)) :: L) H' → Q (.ref p) H') : rLst [.int x] H Q := i_lst T (show 1 ≤ sizeLine by decide) h
theorem i_lst2 (T : Tr B L H) (h : ∀ p H', Tr B ((p, .lst ([x, y].map V.int)) :: L) H' → Q (.ref p) H') : rLst [.int x, .int y] H Q := i_lst T (show 2 ≤ sizeLine by decide) h
theorem i_repI (T : Tr B L H) (h1 : H a = some (.lst ([x].map V.int))) (hk : -(2 ^ 63) ≤ k) (hk2 : k < 2 ^ 63) (hz : k.toNat ≤ sizeLine)
    (h : ∀ p H', Tr B ((p, .lst ((List.replicate k.toNat x).map V.int)) :: L) H' → Q (.ref p) H') : rMulA (.ref a) (.int k) H Q :=
  i_rep (xs := [.int x]) T h1 hk hk2 (by rw [List.length_singleton, Nat.one_mul]; exact hz) (by
    rw [rep_one, ← List.map_replicate]
    exact h)
theorem i_catI (T : Tr B L H) (h1 : H a = some (.lst (ns.map V.int))) (h2 : H b = some (.lst (ms.map V.int))) (hz : ns.length + ms.length ≤ sizeLine)
    (h : ∀ p H', Tr B ((p, .lst ((ns ++ ms).map V.int)) :: L) H' → Q (.ref p) H') : rAddA (.ref a) (.ref b) H Q :=
  i_cat T h1 h2 (by rw [List.length_map, List.length_map]; exact hz) (by rw [← List.map_append]; exact h)
theorem i_slI {lo hi : Option Int} (T : Tr B L H) (h1 : SqL K H a (ns.map V.int)) (h : ∀ p H', Tr B ((p, .lst ((cutI ns lo hi).map V.int)) :: L) H' → Q (.ref p) H') : rSlL K (.ref a) lo hi H Q :=
  i_slL T h1 (by rw [cut_map]; exact h)
theorem i_appendI (m : Nat) (T : Tr B L H) (h1 : L[m]? = some (a, .lst (ns.map V.int))) (hz : ns.length < sizeLine) (h : ∀ H', Tr B (L.set m (a, .lst ((ns ++ [n]).map V.int))) H' → Q .non H') : rAppend (.ref a) [.int n] H Q :=
  i_append m T h1 (by rw [List.length_map]; exact hz) (by
    rw [List.map_append] at h
    exact h)
theorem i_eltI (m : Nat) {D : Addr} {Nx : Hp → Prop} (T : Tr B L H) (h1 : L[m]? = some (D, .lst (ns.map V.int))) (hz : ns.length < sizeLine)
    (h : ∀ H', Tr B (L.set m (D, .lst ((ns ++ [n]).map V.int))) H' → Nx H') : rElt D Nx (.int n) H :=
  i_elt m T h1 (by rw [List.length_map]; exact hz) (by
    rw [List.map_append] at h
    exact h)
theorem ixN_int {n : Nat} {i : Int} (h0 : 0 ≤ i) (h1 : i < n) : ixN n i = some i.toNat := by
  unfold ixN
  rw [if_pos h0, if_pos h1]
theorem i_setI (m : Nat) {R : Hp → Prop} (T : Tr B L H) (h1 : L[m]? = some (a, .lst (ns.map V.int))) (h0 : 0 ≤ i) (h2 : i < ns.length)
    (h : ∀ H', Tr B (L.set m (a, .lst ((ns.set i.toNat n).map V.int))) H' → R H') : rSetL (.ref a) (.int i) (.int n) H R :=
  i_setL m (l := i.toNat) T h1 (ixN_int h0 (by rw [List.length_map]; exact h2)) (by
    rw [List.map_set] at h
    exact h)
end
/-- a call changes one object and lays a new one -/
theorem Tr.butAdd {B H H' : Hp} {L : List (Addr × HO)} {a p : Addr} {o o' u : HO} (T : Tr B L H) (i : Nat) (h : L[i]? = some (a, o)) (s : But [a] H H') (e : H' a = some o') (hp : H p = none) (e2 : H' p = some u) :
    Tr B ((p, u) :: L.set i (a, o')) H' := by
  have T1 := T.but i h s e
  have T2 := T.new (o := u) hp
  refine ⟨T1.base, fun q hq => ?_, fun q hq => ?_, ?_⟩
  · rcases List.mem_cons.mp hq with rfl | hq
    · exact e2
    · exact T1.at_ q hq
  · rcases List.mem_cons.mp hq with rfl | hq
    · exact T2.off (p, u) List.mem_cons_self
    · exact T1.off q hq
  · show (p :: (L.set i (a, o')).map (·.1)).Nodup
    rw [set_keys L i h]
    exact T2.nd
theorem get_mem {ns : List Int} {v : Int} (h0 : 0 ≤ v) (h1 : v < ns.length) : ns[v.toNat]! ∈ ns := by
  rw [List.getElem!_eq_getElem?_getD, List.getElem?_eq_getElem (by omega)]
  exact List.getElem_mem _
theorem get_bnd {ns : List Int} {lo hi : Int} (h : ∀ n ∈ ns, lo ≤ n ∧ n ≤ hi) {v : Int} (h0 : 0 ≤ v) (h1 : v < ns.length) : lo ≤ ns[v.toNat]! ∧ ns[v.toNat]! ≤ hi := h _ (get_mem h0 h1)

theorem Tr.swapDrop2 {B H : Hp} {x y : Addr × HO} {L : List (Addr × HO)} (T : Tr B (x :: y :: L) H) : Tr B (y :: L) H := T.drop
theorem Tr.swapDrop {B H : Hp} {x y : Addr × HO} {L : List (Addr × HO)} (T : Tr B (x :: y :: L) H) : Tr B (x :: L) H := by
  refine ⟨T.base, fun q hq => ?_, fun q hq => ?_, ?_⟩
  · rcases List.mem_cons.mp hq with rfl | hq
    · exact T.at_ _ List.mem_cons_self
    · exact T.at_ q (List.mem_cons_of_mem _ (List.mem_cons_of_mem _ hq))
  · rcases List.mem_cons.mp hq with rfl | hq
    · exact T.off _ List.mem_cons_self
    · exact T.off q (List.mem_cons_of_mem _ (List.mem_cons_of_mem _ hq))
  · have h := T.nd
    rw [List.map_cons, List.map_cons] at h
    rw [List.map_cons]
    obtain ⟨h1, h2⟩ := List.nodup_cons.mp h
    obtain ⟨h3, h4⟩ := List.nodup_cons.mp h2
    exact List.nodup_cons.mpr ⟨fun z => h1 (List.mem_cons_of_mem _ z), h4⟩
end PB

namespace PB
open PySem PySem.Spec PyProof.Rows L2
/-! ### the steps that ask nothing, found by the goal's head -/
class Step (P : Prop) (P' : outParam Prop) : Prop where
  h : P' → P
section
variable {K : PySem.W.Frag} {H : Hp} {σ : L2.St} {Q : VK} {t u : TS} {ta tb tc te to ti : TE} {tx : TA} {c tt : TT} {r r' : R2} {x y v w : V} {i j : Int} {xs : List V} {nx bk ct : L2.St → Hp → Prop} {rt : VK}
instance : Step (tSeq t u ⟨nx, rt, bk, ct⟩ σ H) (t ⟨u ⟨nx, rt, bk, ct⟩, rt, bk, ct⟩ σ H) := ⟨i_seq⟩
instance : Step (tNext ⟨nx, rt, bk, ct⟩ σ H) (nx σ H) := ⟨i_next⟩
instance : Step (tBreak ⟨nx, rt, bk, ct⟩ σ H) (bk σ H) := ⟨i_break⟩
instance : Step (tCont ⟨nx, rt, bk, ct⟩ σ H) (ct σ H) := ⟨i_cont⟩
instance : Step (tDrop te ⟨nx, rt, bk, ct⟩ σ H) (te σ H fun _ H1 => nx σ H1) := ⟨i_drop⟩
instance : Step (tRet te ⟨nx, rt, bk, ct⟩ σ H) (te σ H rt) := ⟨i_ret⟩
instance : Step (tRetN ⟨nx, rt, bk, ct⟩ σ H) (rt .non H) := ⟨i_retN⟩
instance : Step (tIfS c t u ⟨nx, rt, bk, ct⟩ σ H) (c σ H fun b H1 => if b = true then t ⟨nx, rt, bk, ct⟩ σ H1 else u ⟨nx, rt, bk, ct⟩ σ H1) := ⟨i_ifS⟩
instance {g : TG} : Step (tAsg te g ⟨nx, rt, bk, ct⟩ σ H) (te σ H fun x H1 => g x σ H1 nx) := ⟨i_asg⟩
instance {wi : TI} {g : TG} {tb : TS} : Step (tFor wi g tb ⟨nx, rt, bk, ct⟩ σ H) (wi σ H fun J H1 => rFor J g tb ⟨nx, rt, bk, ct⟩ σ H1) := ⟨i_for⟩
instance {m : Nat} {R : L2.St → Hp → Prop} : Step (gName m v σ H R) (R (σ.set m (some v)) H) := ⟨i_gName⟩
instance {n : Nat} {g : TGs} {R : L2.St → Hp → Prop} : Step (gTup K n g v σ H R) (rUnp K n g v σ H R) := ⟨i_gTup⟩
instance {g : TG} {gs : TGs} {R : L2.St → Hp → Prop} : Step (gCons g gs (x :: xs) σ H R) (g x σ H fun σ' H' => gs xs σ' H' R) := ⟨i_gCons⟩
instance {R : L2.St → Hp → Prop} : Step (gNil [] σ H R) (R σ H) := ⟨i_gNil⟩
instance {st : TSet} {R : L2.St → Hp → Prop} : Step (gSub to ti st v σ H R) (to σ H fun o H1 => ti σ H1 fun i H2 => st o i v H2 fun H3 => R σ H3) := ⟨i_gSub⟩
instance {f : Int → Int → Int} : Step (ipI f (.int i) (.int j) H Q) (Q (.int (f i j)) H) := ⟨i_ip⟩
section
variable {R : It → Hp → Prop}
instance : Step (iList K te σ H R) (te σ H fun x H1 => rItL K x H1 R) := ⟨i_iList⟩
instance : Step (iTup K te σ H R) (te σ H fun x H1 => rItT K x H1 R) := ⟨i_iTup⟩
instance : Step (iRng1 tx σ H R) (tx σ H fun vs H1 => rRg1 vs H1 R) := ⟨i_iRng1⟩
instance : Step (iRng2 tx σ H R) (tx σ H fun vs H1 => rRg2 vs H1 R) := ⟨i_iRng2⟩
instance : Step (iRng3 tx σ H R) (tx σ H fun vs H1 => rRg3 vs H1 R) := ⟨i_iRng3⟩
instance : Step (iEnum K tx σ H R) (tx σ H fun vs H1 => rEn K vs H1 R) := ⟨i_iEnum⟩
instance : Step (iZip K tx σ H R) (tx σ H fun vs H1 => rZp K vs H1 R) := ⟨i_iZip⟩
end
instance : Step (tC v σ H Q) (Q v H) := ⟨i_c⟩
instance : Step (tOp r ta tb σ H Q) (ta σ H fun x H1 => tb σ H1 fun y H2 => r x y H2 Q) := ⟨i_op⟩
instance {r : V → Hp → VK → Prop} : Step (tUn r ta σ H Q) (ta σ H fun x H1 => r x H1 Q) := ⟨i_un⟩
instance {g : Int → V} : Step (rU g (.int i) H Q) (Q (g i) H) := ⟨i_rU⟩
instance {g : Int → Int → V} : Step (rI0 g (.int i) (.int j) H Q) (Q (g i j) H) := ⟨i_I0⟩
instance : Step (rAddA (.int i) (.int j) H Q) (Q (.int (i + j)) H) := ⟨i_addI⟩
instance : Step (rEqA K (.int i) (.int j) H Q) (Q (.bl (decide (i = j))) H) := ⟨i_eqI⟩
instance : Step (rNeA K (.int i) (.int j) H Q) (Q (.bl (!decide (i = j))) H) := ⟨i_neI⟩
instance {a b : Bool} : Step (rEqA K (.bl a) (.bl b) H Q) (Q (.bl (decide (a = b))) H) := ⟨i_eqB⟩
instance {a b : Bool} : Step (rNeA K (.bl a) (.bl b) H Q) (Q (.bl (!decide (a = b))) H) := ⟨i_neB⟩
instance {s t : Str} : Step (rEqA K (.str s) (.str t) H Q) (Q (.bl (decide (s = t))) H) := ⟨i_eqS⟩
instance {s t : Str} : Step (rNeA K (.str s) (.str t) H Q) (Q (.bl (!decide (s = t))) H) := ⟨i_neS⟩
theorem i_isNI (h : Q (.bl false) H) : rIsN (.int i) .non H Q := i_isN h
theorem i_isNR {a : Addr} (h : Q (.bl false) H) : rIsN (.ref a) .non H Q := i_isN h
theorem i_isNN (h : Q (.bl true) H) : rIsN .non .non H Q := i_isN h
theorem i_notNI (h : Q (.bl true) H) : rNotN (.int i) .non H Q := i_notN h
theorem i_notNR {a : Addr} (h : Q (.bl true) H) : rNotN (.ref a) .non H Q := i_notN h
theorem i_notNN (h : Q (.bl false) H) : rNotN .non .non H Q := i_notN h
instance : Step (rIsN (.int i) .non H Q) (Q (.bl false) H) := ⟨i_isNI⟩
instance {a : Addr} : Step (rIsN (.ref a) .non H Q) (Q (.bl false) H) := ⟨i_isNR⟩
instance : Step (rIsN .non .non H Q) (Q (.bl true) H) := ⟨i_isNN⟩
instance : Step (rNotN (.int i) .non H Q) (Q (.bl true) H) := ⟨i_notNI⟩
instance {a : Addr} : Step (rNotN (.ref a) .non H Q) (Q (.bl true) H) := ⟨i_notNR⟩
instance : Step (rNotN .non .non H Q) (Q (.bl false) H) := ⟨i_notNN⟩
instance {R : List V → Hp → Prop} : Step (tCons te tx σ H R) (te σ H fun x H1 => tx σ H1 fun xs H2 => R (x :: xs) H2) := ⟨i_tcons⟩
instance {R : List V → Hp → Prop} : Step (tNil σ H R) (R [] H) := ⟨i_tnil⟩
instance : Step (tTup tx σ H Q) (tx σ H fun xs H1 => rTup xs H1 Q) := ⟨i_ttup⟩
instance : Step (tLst tx σ H Q) (tx σ H fun xs H1 => rLst xs H1 Q) := ⟨i_tlst⟩
instance {sp : Sp} {E : XK} : Step (tCall sp [] E tx σ H Q) (tx σ H fun vs H1 => sp vs H1 Q E) := ⟨i_call⟩
instance {r : List V → Hp → VK → Prop} : Step (tCB r tx σ H Q) (tx σ H fun vs H1 => r vs H1 Q) := ⟨i_cb⟩
instance : Step (rAbs [.int i] H Q) (Q (.int (if i < 0 then -i else i)) H) := ⟨i_abs⟩
instance : Step (rMax2 [.int i, .int j] H Q) (Q (.int (max i j)) H) := ⟨i_max2⟩
instance : Step (rMin2 [.int i, .int j] H Q) (Q (.int (min i j)) H) := ⟨i_min2⟩
instance : Step (rInt1 [.int i] H Q) (Q (.int i) H) := ⟨i_intI⟩
instance {k : Bool} : Step (rInt1 [.bl k] H Q) (Q (.int (if k then 1 else 0)) H) := ⟨i_intB⟩
instance : Step (rIsi K [.int i, .ty "int"] H Q) (Q (.bl true) H) := ⟨i_isiI⟩
instance : Step (rIsi K [.int i, .ty "bool"] H Q) (Q (.bl false) H) := ⟨i_isiB⟩
instance {T : String} {r : V → List V → Hp → VK → Prop} : Step (tBM K T r to tx σ H Q) (to σ H fun x H1 => rMt K T r tx σ x H1 Q) := ⟨i_bm⟩
instance {r : V → Option Int → Option Int → Hp → VK → Prop} {tl th : TO} : Step (tSl r te tl th σ H Q) (te σ H fun x H1 => tl σ H1 fun l H2 => th σ H2 fun u H3 => r x l u H3 Q) := ⟨i_sl⟩
instance {R : Option Int → Hp → Prop} : Step (tNoPart σ H R) (R none H) := ⟨i_nopart⟩
instance {R : Option Int → Hp → Prop} : Step (tPart te σ H R) (te σ H fun x H1 => rPart x H1 R) := ⟨i_part⟩
instance {R : Option Int → Hp → Prop} : Step (rPart (.int i) H R) (R (some i) H) := ⟨i_partI⟩
instance {R : Bool → Hp → Prop} : Step (tTest te σ H R) (te σ H fun x H1 => rBl x H1 R) := ⟨i_test⟩
instance {R : Bool → Hp → Prop} : Step (tB te σ H R) (te σ H fun x H1 => rBl x H1 R) := ⟨i_tB⟩
instance {R : Bool → Hp → Prop} {k : Bool} : Step (rBl (.bl k) H R) (R k H) := ⟨i_bl⟩
instance {R : Bool → Hp → Prop} : Step (tAnd c tt σ H R) (c σ H fun b H1 => if b = true then tt σ H1 R else R false H1) := ⟨i_and⟩
instance {R : Bool → Hp → Prop} : Step (tOr c tt σ H R) (c σ H fun b H1 => if b = true then R true H1 else tt σ H1 R) := ⟨i_or⟩
instance {R : Bool → Hp → Prop} : Step (tNot c σ H R) (c σ H fun b H1 => R (!b) H1) := ⟨i_not⟩
instance : Step (tAndV ta tb σ H Q) (ta σ H fun x H1 => rBl x H1 fun k H2 => if k = true then tb σ H2 Q else Q (.bl false) H2) := ⟨i_andV⟩
instance : Step (tOrV ta tb σ H Q) (ta σ H fun x H1 => rBl x H1 fun k H2 => if k = true then Q (.bl true) H2 else tb σ H2 Q) := ⟨i_orV⟩
instance : Step (tNotV ta σ H Q) (ta σ H fun x H1 => rBl x H1 fun k H2 => Q (.bl (!k)) H2) := ⟨i_notV⟩
instance : Step (tIf c ta tb σ H Q) (c σ H fun b H1 => if b = true then ta σ H1 Q else tb σ H1 Q) := ⟨i_ifE⟩
instance : Step (tChain r r' ta tb tc σ H Q) (ta σ H fun x H1 => tb σ H1 fun y H2 => r x y H2 fun z H3 => rBl z H3 fun k H4 => if k = true then tc σ H4 fun w' H5 => r' y w' H5 Q else Q (.bl false) H4) := ⟨i_chain⟩
instance {g : TG} {vs : List Nat} {wi : TI} : Step (tLc wi g tt te vs σ H Q) (wi σ H fun J H1 => rLc J g tt te vs σ H1 Q) := ⟨i_lc⟩
instance {R : Bool → Hp → Prop} : Step (tYes σ H R) (R true H) := ⟨i_yes⟩
instance : Step (tLE K te σ H Q) (te σ H fun x H1 => rLE K x H1 Q) := ⟨i_tLE⟩
instance {A C : Prop} : Step (if true = true then A else C) A := ⟨i_T⟩
instance {A C : Prop} : Step (if false = true then A else C) C := ⟨i_F⟩
instance {A C : Prop} : Step (if (!true) = true then A else C) C := ⟨i_nT⟩
instance {A C : Prop} : Step (if (!false) = true then A else C) A := ⟨i_nF⟩
instance {Pv : Nat → L2.St → Hp → Prop} {m : Nat} : Step (rTurn Pv m t ⟨nx, rt, bk, ct⟩ σ H) (t ⟨fun σ' H' => ∃ m', m' < m ∧ Pv m' σ' H', rt, nx, fun σ' H' => ∃ m', m' < m ∧ Pv m' σ' H'⟩ σ H) := ⟨i_turn⟩
/-! guards: is the head this one? -/
theorem g_var {m : Nat} (h : tVar m σ H Q) : tVar m σ H Q := h
theorem g_ix (h : rIx K x y H Q) : rIx K x y H Q := h
theorem g_len (h : rLen K xs H Q) : rLen K xs H Q := h
theorem g_add (h : rAddA x y H Q) : rAddA x y H Q := h
theorem g_mul (h : rMulA x y H Q) : rMulA x y H Q := h
theorem g_I {C : Int → Int → Prop} {g : Int → Int → V} (h : rI C g x y H Q) : rI C g x y H Q := h
theorem g_eq (h : rEqA K x y H Q) : rEqA K x y H Q := h
theorem g_ne (h : rNeA K x y H Q) : rNeA K x y H Q := h
theorem g_tup (h : rTup xs H Q) : rTup xs H Q := h
theorem g_lst (h : rLst xs H Q) : rLst xs H Q := h
theorem g_list (h : rListOf K xs H Q) : rListOf K xs H Q := h
theorem g_sl {lo hi : Option Int} (h : rSlL K x lo hi H Q) : rSlL K x lo hi H Q := h
theorem g_mt {T : String} {r : V → List V → Hp → VK → Prop} (h : rMt K T r tx σ x H Q) : rMt K T r tx σ x H Q := h
theorem g_app (h : rAppend x xs H Q) : rAppend x xs H Q := h
theorem g_set {R : Hp → Prop} (h : rSetL x y v H R) : rSetL x y v H R := h
theorem g_elt {D : Addr} {Nx : Hp → Prop} (h : rElt D Nx y H) : rElt D Nx y H := h
theorem g_unp {n : Nat} {g : TGs} {R : L2.St → Hp → Prop} (h : rUnp K n g v σ H R) : rUnp K n g v σ H R := h
theorem g_itL {R : It → Hp → Prop} (h : rItL K x H R) : rItL K x H R := h
theorem g_itT {R : It → Hp → Prop} (h : rItT K x H R) : rItT K x H R := h
theorem g_en {R : It → Hp → Prop} (h : rEn K xs H R) : rEn K xs H R := h
theorem g_zp {R : It → Hp → Prop} (h : rZp K xs H R) : rZp K xs H R := h
theorem g_rg1 {R : It → Hp → Prop} (h : rRg1 xs H R) : rRg1 xs H R := h
theorem g_rg2 {R : It → Hp → Prop} (h : rRg2 xs H R) : rRg2 xs H R := h
theorem g_sum (h : rSum K xs H Q) : rSum K xs H Q := h
theorem g_repr (h : rRepr K xs H Q) : rRepr K xs H Q := h
theorem g_ite {b : Bool} {A C : Prop} (h : if b = true then A else C) : if b = true then A else C := h
theorem g_wipe {vs : List Nat} {σ2 : L2.St} {P : Prop} (h : wipe σ2 vs = wipe σ vs ∧ P) : wipe σ2 vs = wipe σ vs ∧ P := h
theorem g_aug {m : Nat} {ip : TIp} {D : Ends} (h : tAug m te ip D σ H) : tAug m te ip D σ H := h
theorem g_sp {sp : Sp} {E : XK} (h : sp xs H Q E) : sp xs H Q E := h
end
end PB

namespace PB
open PySem PySem.Spec PyProof.Rows L2
section
variable {K : PySem.W.Frag} {B H : Hp} {L : List (Addr × HO)} {σ : L2.St} {g : TG} {tt : TT} {te : TE} {vs : List Nat} {Q : VK} {a b : Addr} {xs ys : List V} {ns ms : List Int}
theorem Tr.pick {x : Addr × HO} (T : Tr B L H) (i : Nat) (h : L[i]? = some x) : Tr B [x] H :=
  ⟨T.base, fun q hq => by rw [List.mem_singleton.mp hq]; exact T.at_ _ (List.mem_of_getElem? h), fun q hq => by rw [List.mem_singleton.mp hq]; exact T.off _ (List.mem_of_getElem? h), by simp⟩
theorem Tr.head {x : Addr × HO} (T : Tr B (x :: L) H) : Tr B [x] H := T.pick 0 rfl
theorem Tr.nil (T : Tr B L H) : Tr B [] H := ⟨T.base, (fun _ h => nomatch h), (fun _ h => nomatch h), List.nodup_nil⟩
theorem Tr.apart {o u : HO} (T : Tr B L H) (i j : Nat) (h : L[i]? = some (a, o)) (h2 : L[j]? = some (b, u)) (n : i ≠ j) : a ≠ b := fun e => by
  refine n ((List.getElem?_inj (l := L.map (·.1)) ?_ T.nd).mp ?_)
  · rw [List.length_map]
    exact (List.getElem?_eq_some_iff.mp h).1
  · rw [List.getElem?_map, List.getElem?_map, h, h2, e]
    rfl
/-- comprehensions that make ints, each of one item, all else standing: F the whole result -/
abbrev NxI (B : Hp) (L : List (Addr × HO)) (F : List Int) (D : Addr) (j : Nat) (H : Hp) : Prop := ∃ v, F[j]? = some v ∧ Tr B ((D, .lst ((F.take j ++ [v]).map V.int)) :: L) H
theorem nx_take {F : List Int} {D : Addr} {j : Nat} (h : NxI B L F D j H) : Tr B ((D, .lst ((F.take (j + 1)).map V.int)) :: L) H := by
  obtain ⟨v, hv, T⟩ := h
  rw [List.take_add_one, hv]
  exact T
theorem elt_imp {D : Addr} {N M : Hp → Prop} {y : V} (h : rElt D N y H) (i : ∀ H, N H → M H) : rElt D M y H := by
  obtain ⟨acc, h1, h2, h3⟩ := h
  exact ⟨acc, h1, h2, i _ h3⟩
theorem c_intsF {F : List Int} (T : Tr B L H) (hl : ∀ D o H', Tr B ((D, o) :: L) H' → SqL K H' a (ns.map V.int)) (hF : F.length = ns.length)
    (hs : ∀ D j n H', ns[j]? = some n → Tr B ((D, .lst ((F.take j).map V.int)) :: L) H' → g (.int n) (wipe σ vs) H' fun σ2 H2 => wipe σ2 vs = wipe σ vs ∧ tYes σ2 H2 fun b H3 =>
      if b = true then te σ2 H3 (rElt D fun H4 => Tr B ((D, .lst ((F.take (j + 1)).map V.int)) :: L) H4) else Tr B ((D, .lst ((F.take (j + 1)).map V.int)) :: L) H3)
    (hd : ∀ D H', Tr B ((D, .lst (F.map V.int)) :: L) H' → Q (.ref D) H') : rLc (Itl K a) g tYes te vs σ H Q :=
  c_ints T (fun D j H => Tr B ((D, .lst ((F.take j).map V.int)) :: L) H) (fun D H' T => T) (fun D j H T => hl D _ H T) hs
    (fun D H' T => hd D H' (by rw [← hF, List.take_length] at T; exact T))
theorem c_rangeF {F : List Int} {lo : Int} {n : Nat} (T : Tr B L H) (hF : F.length = n)
    (hs : ∀ D j H', j < n → Tr B ((D, .lst ((F.take j).map V.int)) :: L) H' → g (.int (lo + j)) (wipe σ vs) H' fun σ2 H2 => wipe σ2 vs = wipe σ vs ∧ tYes σ2 H2 fun b H3 =>
      if b = true then te σ2 H3 (rElt D fun H4 => Tr B ((D, .lst ((F.take (j + 1)).map V.int)) :: L) H4) else Tr B ((D, .lst ((F.take (j + 1)).map V.int)) :: L) H3)
    (hd : ∀ D H', Tr B ((D, .lst (F.map V.int)) :: L) H' → Q (.ref D) H') : rLc (Itr lo n) g tYes te vs σ H Q :=
  c_range T (fun D j H => Tr B ((D, .lst ((F.take j).map V.int)) :: L) H) (fun D H' T => T) hs
    (fun D H' T => hd D H' (by rw [← hF, List.take_length] at T; exact T))
theorem map_at {i : Nat} {x : V} (h : (ns.map V.int)[i]? = some x) : ∃ n, x = .int n ∧ ns[i]? = some n := by
  rw [List.getElem?_map] at h
  cases e : ns[i]? with
  | none =>
    rw [e] at h
    cases h
  | some n =>
    rw [e] at h
    exact ⟨n, (Option.some.inj h).symm, rfl⟩
theorem c_zipF {F : List Int} (T : Tr B L H) (hl : ∀ D o H', Tr B ((D, o) :: L) H' → SqL K H' a (ns.map V.int)) (hl2 : ∀ D o H', Tr B ((D, o) :: L) H' → SqL K H' b (ms.map V.int))
    (hlen : ns.length = ms.length) (hF : F.length = ns.length)
    (hs : ∀ D j n m p H', ns[j]? = some n → ms[j]? = some m → Tr B ((p, .tup [.int n, .int m]) :: (D, .lst ((F.take j).map V.int)) :: L) H' → g (.ref p) (wipe σ vs) H' fun σ2 H2 => wipe σ2 vs = wipe σ vs ∧ tYes σ2 H2 fun b H3 =>
      if b = true then te σ2 H3 (rElt D fun H4 => Tr B ((D, .lst ((F.take (j + 1)).map V.int)) :: L) H4) else Tr B ((D, .lst ((F.take (j + 1)).map V.int)) :: L) H3)
    (hd : ∀ D H', Tr B ((D, .lst (F.map V.int)) :: L) H' → Q (.ref D) H') : rLc (Itz K a b) g tYes te vs σ H Q :=
  c_zip (xs := ns.map V.int) (ys := ms.map V.int) T (fun D j H => Tr B ((D, .lst ((F.take j).map V.int)) :: L) H) (fun D H' T => T) (fun D j H T => ⟨hl D _ H T, hl2 D _ H T⟩) (by simp [hlen])
    (fun D j x y H p hx hy T hp => by
      obtain ⟨n, rfl, hn⟩ := map_at hx
      obtain ⟨m, rfl, hm⟩ := map_at hy
      exact hs D j n m p _ hn hm (T.new hp))
    (fun D H' T => hd D H' (by rw [List.length_map, ← hF, List.take_length] at T; exact T))
/-- for over a range whose turns leave nothing but what the word says -/
theorem take_succ_get {F : List Int} {j : Nat} {v : Int} (h : F[j]? = some v) : F.take (j + 1) = F.take j ++ [v] := by
  rw [List.take_add_one, h]
  rfl
/-- a truth that does not matter -/
theorem i_andAny {p : Prop} [Decidable p] {tb : TE} (h2 : p → ∀ Q' : VK, (∀ b, Q' (.bl b) H) → tb σ H Q') (h : ∀ b, Q (.bl b) H) : if decide p = true then tb σ H Q else Q (.bl false) H := by
  by_cases hp : p
  · exact i_decT hp (h2 hp Q h)
  · exact i_decF hp (h false)
end
/-- a display of ints -/
class IsInts (xs : List V) (ns : outParam (List Int)) : Prop where
  e : xs = ns.map V.int
instance : IsInts [] [] := ⟨rfl⟩
instance {xs : List V} {ns : List Int} {n : Int} [h : IsInts xs ns] : IsInts (.int n :: xs) (n :: ns) := ⟨by rw [h.e]; rfl⟩
theorem i_lstC {B H : Hp} {L : List (Addr × HO)} {Q : VK} {xs : List V} {ns : List Int} [h : IsInts xs ns] (T : Tr B L H) (hz : ns.length ≤ sizeLine) (k : ∀ p H', Tr B ((p, .lst (ns.map V.int)) :: L) H' → Q (.ref p) H') : rLst xs H Q :=
  i_lst T (by rw [h.e, List.length_map]; exact hz) (by rw [h.e]; exact k)
/-- if, its ways joined behind it with like slots -/
theorem f_cutR {nx bk ct : L2.St → Hp → Prop} {rt : VK} {t u : TS} {σ : L2.St} {H : Hp} (R : Hp → Prop) {σ1 : L2.St} (h1 : t ⟨fun σ' H' => σ' = σ1 ∧ R H', rt, bk, ct⟩ σ H) (h2 : ∀ H', R H' → u ⟨nx, rt, bk, ct⟩ σ1 H') : C8.tCut t u ⟨nx, rt, bk, ct⟩ σ H :=
  f_cut (fun σ' H' => σ' = σ1 ∧ R H') h1 fun σ' H' ⟨e, r⟩ => by rw [e]; exact h2 H' r
/-! ### loops whose turns change some slots, and leave what stands -/
def NW {ω : Type} (W : ω → L2.St) (B : Hp) (L : List (Addr × HO)) (σ' : L2.St) (H' : Hp) : Prop := (∃ w, σ' = W w) ∧ Tr B L H'
section
variable {K : PySem.W.Frag} {B H : Hp} {L : List (Addr × HO)} {σ : L2.St} {nx bk ct : L2.St → Hp → Prop} {rt : VK} {g : TG} {tb : TS} {a : Addr} {xs : List V} {ns : List Int} {ω : Type}
theorem f_rangeW {lo : Int} {n : Nat} (W : L2.St → ω → L2.St) (w0 : ω) (e0 : σ = W σ w0) (T : Tr B L H)
    (hs : ∀ j w H', j < n → Tr B L H' → g (.int (lo + (j : Nat))) (W σ w) H' fun σ2 H2 => tb ⟨NW (W σ) B L, rt, nx, NW (W σ) B L⟩ σ2 H2)
    (hd : ∀ w H', Tr B L H' → nx (W σ w) H') : rFor (Itr lo n) g tb ⟨nx, rt, bk, ct⟩ σ H :=
  f_range (fun _ σ' H' => NW (W σ) B L σ' H') ⟨⟨w0, e0⟩, T⟩ (fun j σ' H' hj ⟨⟨w, e⟩, T⟩ => by rw [e]; exact hs j w H' hj T) (fun σ' H' ⟨⟨w, e⟩, T⟩ => by rw [e]; exact hd w H' T)
theorem f_listW (W : L2.St → ω → L2.St) (w0 : ω) (e0 : σ = W σ w0) (T : Tr B L H) (hl : ∀ H', Tr B L H' → SqL K H' a xs)
    (hs : ∀ (j : Nat) x w H', xs[j]? = some x → Tr B L H' → g x (W σ w) H' fun σ2 H2 => tb ⟨NW (W σ) B L, rt, nx, NW (W σ) B L⟩ σ2 H2)
    (hd : ∀ w H', Tr B L H' → nx (W σ w) H') : rFor (Itl K a) g tb ⟨nx, rt, bk, ct⟩ σ H :=
  f_list (fun _ σ' H' => NW (W σ) B L σ' H') ⟨⟨w0, e0⟩, T⟩ (fun _ _ H' h => hl H' h.2) (fun j x σ' H' hx ⟨⟨w, e⟩, T⟩ => by rw [e]; exact hs j x w H' hx T) (fun σ' H' ⟨⟨w, e⟩, T⟩ => by rw [e]; exact hd w H' T)
theorem f_intsW (W : L2.St → ω → L2.St) (w0 : ω) (e0 : σ = W σ w0) (T : Tr B L H) (hl : ∀ H', Tr B L H' → SqL K H' a (ns.map V.int))
    (hs : ∀ (j : Nat) x w H', ns[j]? = some x → Tr B L H' → g (.int x) (W σ w) H' fun σ2 H2 => tb ⟨NW (W σ) B L, rt, nx, NW (W σ) B L⟩ σ2 H2)
    (hd : ∀ w H', Tr B L H' → nx (W σ w) H') : rFor (Itl K a) g tb ⟨nx, rt, bk, ct⟩ σ H :=
  f_ints (fun _ σ' H' => NW (W σ) B L σ' H') ⟨⟨w0, e0⟩, T⟩ (fun _ _ H' h => hl H' h.2) (fun j x σ' H' hx ⟨⟨w, e⟩, T⟩ => by rw [e]; exact hs j x w H' hx T) (fun σ' H' ⟨⟨w, e⟩, T⟩ => by rw [e]; exact hd w H' T)
theorem f_tupW (W : L2.St → ω → L2.St) (w0 : ω) (e0 : σ = W σ w0) (T : Tr B L H) (hl : ∀ H', Tr B L H' → SqT K H' a xs)
    (hs : ∀ (j : Nat) x w H', xs[j]? = some x → Tr B L H' → g x (W σ w) H' fun σ2 H2 => tb ⟨NW (W σ) B L, rt, nx, NW (W σ) B L⟩ σ2 H2)
    (hd : ∀ w H', Tr B L H' → nx (W σ w) H') : rFor (Itt K a) g tb ⟨nx, rt, bk, ct⟩ σ H :=
  f_tup (fun _ σ' H' => NW (W σ) B L σ' H') ⟨⟨w0, e0⟩, T⟩ (fun _ _ H' h => hl H' h.2) (fun j x σ' H' hx ⟨⟨w, e⟩, T⟩ => by rw [e]; exact hs j x w H' hx T) (fun σ' H' ⟨⟨w, e⟩, T⟩ => by rw [e]; exact hd w H' T)
/-- the same with a word about the heap at each turn -/
def NR {ω : Type} (W : ω → L2.St) (R : Hp → Prop) (σ' : L2.St) (H' : Hp) : Prop := (∃ w, σ' = W w) ∧ R H'
theorem f_rangeR {lo : Int} {n : Nat} (W : L2.St → ω → L2.St) (w0 : ω) (e0 : σ = W σ w0) (R : Nat → Hp → Prop) (r0 : R 0 H)
    (hs : ∀ j w H', j < n → R j H' → g (.int (lo + (j : Nat))) (W σ w) H' fun σ2 H2 => tb ⟨NR (W σ) (R (j + 1)), rt, nx, NR (W σ) (R (j + 1))⟩ σ2 H2)
    (hd : ∀ w H', R n H' → nx (W σ w) H') : rFor (Itr lo n) g tb ⟨nx, rt, bk, ct⟩ σ H :=
  f_range (fun j σ' H' => NR (W σ) (R j) σ' H') ⟨⟨w0, e0⟩, r0⟩ (fun j σ' H' hj ⟨⟨w, e⟩, T⟩ => by rw [e]; exact hs j w H' hj T) (fun σ' H' ⟨⟨w, e⟩, T⟩ => by rw [e]; exact hd w H' T)
theorem f_listR (W : L2.St → ω → L2.St) (w0 : ω) (e0 : σ = W σ w0) (R : Nat → Hp → Prop) (r0 : R 0 H) (hl : ∀ j H', R j H' → SqL K H' a xs)
    (hs : ∀ (j : Nat) x w H', xs[j]? = some x → R j H' → g x (W σ w) H' fun σ2 H2 => tb ⟨NR (W σ) (R (j + 1)), rt, nx, NR (W σ) (R (j + 1))⟩ σ2 H2)
    (hd : ∀ w H', R xs.length H' → nx (W σ w) H') : rFor (Itl K a) g tb ⟨nx, rt, bk, ct⟩ σ H :=
  f_list (fun j σ' H' => NR (W σ) (R j) σ' H') ⟨⟨w0, e0⟩, r0⟩ (fun j _ H' h => hl j H' h.2) (fun j x σ' H' hx ⟨⟨w, e⟩, T⟩ => by rw [e]; exact hs j x w H' hx T) (fun σ' H' ⟨⟨w, e⟩, T⟩ => by rw [e]; exact hd w H' T)
theorem f_intsR (W : L2.St → ω → L2.St) (w0 : ω) (e0 : σ = W σ w0) (R : Nat → Hp → Prop) (r0 : R 0 H) (hl : ∀ j H', R j H' → SqL K H' a (ns.map V.int))
    (hs : ∀ (j : Nat) x w H', ns[j]? = some x → R j H' → g (.int x) (W σ w) H' fun σ2 H2 => tb ⟨NR (W σ) (R (j + 1)), rt, nx, NR (W σ) (R (j + 1))⟩ σ2 H2)
    (hd : ∀ w H', R ns.length H' → nx (W σ w) H') : rFor (Itl K a) g tb ⟨nx, rt, bk, ct⟩ σ H :=
  f_ints (fun j σ' H' => NR (W σ) (R j) σ' H') ⟨⟨w0, e0⟩, r0⟩ (fun j _ H' h => hl j H' h.2) (fun j x σ' H' hx ⟨⟨w, e⟩, T⟩ => by rw [e]; exact hs j x w H' hx T) (fun σ' H' ⟨⟨w, e⟩, T⟩ => by rw [e]; exact hd w H' T)
abbrev S4 (s t u x : Nat) (σ : L2.St) (w : Option V × Option V × Option V × Option V) : L2.St := (((σ.set s w.1).set t w.2.1).set u w.2.2.1).set x w.2.2.2
abbrev S1 (s : Nat) (σ : L2.St) (w : Option V) : L2.St := σ.set s w
abbrev S2 (s t : Nat) (σ : L2.St) (w : Option V × Option V) : L2.St := (σ.set s w.1).set t w.2
abbrev S3 (s t u : Nat) (σ : L2.St) (w : Option V × Option V × Option V) : L2.St := ((σ.set s w.1).set t w.2.1).set u w.2.2
end
theorem two_get {α : Type} {u v x : α} {k : Nat} (h : [u, v][k]? = some x) : x = u ∨ x = v := by
  match k, h with
  | 0, h => exact .inl (Option.some.inj h).symm
  | 1, h => exact .inr (Option.some.inj h).symm
  | k + 2, h => simp at h
theorem getE_of {ns : List Int} {i : Nat} {n : Int} (h : ns[i]? = some n) : ns[i]! = n := by
  rw [List.getElem!_eq_getElem?_getD, h]
  rfl
section
variable {K : PySem.W.Frag} {B H : Hp} {L : List (Addr × HO)} {σ : L2.St} {nx bk ct : L2.St → Hp → Prop} {rt : VK} {g : TG} {tb : TS} {a : Addr} {xs : List V} {ns ms : List Int} {Q : VK} {x y : V} {i j : Int}
theorem i_rg3n {R : It → Hp → Prop} (h1 : -(2 ^ 62) ≤ i ∧ i < 2 ^ 62 ∧ -(2 ^ 62) ≤ j ∧ j < 2 ^ 62) (h : R (Itc i (-1) (i - j).toNat) H) : rRg3 [.int i, .int j, .int (-1)] H R :=
  ⟨i, j, -1, _, rfl, RgC.neg h1.1 h1.2.1 h1.2.2.1 h1.2.2.2, h⟩
theorem g_rg3 {R : It → Hp → Prop} (h : rRg3 xs H R) : rRg3 xs H R := h
theorem f_enumI (Pv : Nat → L2.St → Hp → Prop) (h0 : Pv 0 σ H) (hl : ∀ i σ H, Pv i σ H → SqL K H a (ns.map V.int))
    (hs : ∀ (i : Nat) n σ H p, ns[i]? = some n → Pv i σ H → H p = none → g (.ref p) σ (upd H p (.tup [.int i, .int n])) fun σ2 H2 => tb ⟨Pv (i + 1), rt, nx, Pv (i + 1)⟩ σ2 H2)
    (hd : ∀ σ H, Pv ns.length σ H → nx σ H) : rFor (Ite K a) g tb ⟨nx, rt, bk, ct⟩ σ H :=
  f_enum (xs := ns.map V.int) Pv h0 hl (fun i x σ H p hx h hp => by
    obtain ⟨n, rfl, hn⟩ := map_at hx
    exact hs i n σ H p hn h hp) (by rw [List.length_map]; exact hd)
theorem atI_map {α : Type} [Inhabited α] {f : α → V} {fs : List α} (h0 : 0 ≤ i) (h1 : i < fs.length) : atI (fs.map f) i = some (f fs[i.toNat]!) := by
  obtain ⟨m, rfl⟩ : ∃ m : Nat, i = m := ⟨i.toNat, by omega⟩
  refine atI_nat ?_
  rw [List.getElem?_map, Int.toNat_natCast, List.getElem!_eq_getElem?_getD, List.getElem?_eq_getElem (by omega)]
  rfl
theorem i_ixM {α : Type} [Inhabited α] {f : α → V} {fs : List α} (h1 : SqL K H a (fs.map f)) (h0 : 0 ≤ i) (h2 : i < fs.length) (h : Q (f fs[i.toNat]!) H) : rIx K (.ref a) (.int i) H Q := i_ixL h1 (atI_map h0 h2) h
/-- the last item -/
theorem atI_lastI (h : ns ≠ []) : atI (ns.map V.int) (-1) = some (.int (ns.getLast h)) := by
  have e : ns.map V.int = ns.dropLast.map V.int ++ [.int (ns.getLast h)] := by
    rw [← List.map_singleton, ← List.map_append, List.dropLast_concat_getLast]
  rw [e]
  exact atI_last _ _
theorem i_ixLast (h1 : SqL K H a (ns.map V.int)) (hn : ns ≠ []) (h : Q (.int (ns.getLast hn)) H) : rIx K (.ref a) (.int (-1)) H Q := i_ixL h1 (atI_lastI hn) h
/-- a value whose text and kind are told by a datum -/
structure SameD (K : PySem.W.Frag) (H : Hp) (x : V) (d : PyData) (l : Bool) : Prop where
  dp : Dp K H x d
  ty : ∃ T, TyX K H x (.type T) ∧ kitB T "list" = some l
  sh : d.showable = true
  nd : d.hasDict = false
  de : d.depth ≤ 60
  le : d.shown.length ≤ sizeLine
theorem kit_nl : kitB "NoneType" "list" = some false := by decide +kernel
theorem kit_il : kitB "int" "list" = some false := by decide +kernel
theorem kit_ll : kitB "list" "list" = some true := by decide +kernel
theorem sd_non : SameD K H .non .none false :=
  ⟨.non, ⟨_, .base .non, kit_nl⟩, by simp [PyData.showable], by simp [PyData.hasDict], by simp [PyData.depth], by
    rw [PyData.shown]
    show (Str.ofString "None").length ≤ sizeLine
    rw [PySem.ofString_length]
    decide⟩
theorem sd_int (h : i.natAbs < 2 ^ 64) : SameD K H (.int i) (.int i) false := by
  have h3 : i.natAbs.log2 < 64 := PySem.Flt.log2_lt_of (by decide) h
  refine ⟨.int i, ⟨_, .base (.int i), kit_il⟩, ?_, by simp [PyData.hasDict], by simp [PyData.depth], ?_⟩
  · rw [PyData.showable, decide_eq_true_eq]
    omega
  · rw [PyData.shown]
    exact int_text_fits (by omega)
theorem sd_ints (h : H a = some (.lst (ns.map V.int))) (hn : ∀ n ∈ ns, n.natAbs < 2 ^ 64) (hl : ns.length ≤ 3000) : SameD K H (.ref a) (dI ns) true :=
  ⟨dp_ints (SqL.of h), ⟨_, .base (.lst h), kit_ll⟩, dI_showable hn, dI_nodict ns, by rw [dI_depth]; decide, dI_shown hn hl⟩
end
/-! ### a list unpacked -/
section
variable {K : PySem.W.Frag} {H : Hp} {σ : L2.St} {v : V} {xs : List V} {a : Addr}
def rUnpL (K : PySem.W.Frag) (n : Nat) (t : TGs) (v : V) (σ : L2.St) (H : Hp) (Q : L2.St → Hp → Prop) : Prop := ∃ a xs, v = .ref a ∧ SqL K H a xs ∧ xs.length = n ∧ t xs σ H Q
instance {n : Nat} {g : TGs} {R : L2.St → Hp → Prop} : Step (gLst K n g v σ H R) (rUnpL K n g v σ H R) := ⟨fun h => h⟩
theorem i_unpL {m : Nat} {g : TGs} {R : L2.St → Hp → Prop} (h1 : SqL K H a xs) (h2 : xs.length = m) (h : g xs σ H R) : rUnpL K m g (.ref a) σ H R := ⟨a, xs, rfl, h1, h2, h⟩
end
/-! ### x or y by truth -/
section
variable {K : PySem.W.Frag} {H : Hp} {Q : VK} {σ : L2.St} {tb : TE} {i : Int}
def rOrT (K : PySem.W.Frag) (x : V) (tb : TE) (σ : L2.St) (H : Hp) (Q : VK) : Prop := ∃ k, TruV K x H k ∧ if k = true then Q x H else tb σ H Q
instance {ta : TE} : Step (tOrT K ta tb σ H Q) (ta σ H fun x H1 => rOrT K x tb σ H1 Q) := ⟨fun h => h⟩
instance : Step (rOrT K .non tb σ H Q) (tb σ H Q) := ⟨fun h => ⟨false, rfl, h⟩⟩
theorem i_orI0 (hi : i = 0) (h : tb σ H Q) : rOrT K (.int i) tb σ H Q := ⟨false, by rw [hi]; rfl, h⟩
theorem i_orI1 (hi : i ≠ 0) (h : Q (.int i) H) : rOrT K (.int i) tb σ H Q := ⟨true, by show true = (i != 0); simp [hi], h⟩
end
/-! ### what is kept over turns -/
section
variable {B B2 H : Hp} {L : List (Addr × HO)} {a : Addr} {o : HO} {G : Hp → Addr → Prop} {hs : List Addr} {h : Addr}
theorem Tr.sdel (T : Tr B L H) (i : Nat) (h : L[i]? = some (a, o)) : Same B (del H a) := fun b u e => by
  rw [del_ne (fun z => by
    rw [z, T.offI i h] at e
    cases e)]
  exact T.base b u e
theorem del_of {b : Addr} {u : HO} (h : H b = some u) (n : b ≠ a) : del H a b = some u := (del_ne n).trans h
theorem Tr.kept {b : Addr} {u : HO} (T : Tr B L H) (i j : Nat) (h : L[i]? = some (a, o)) (h2 : L[j]? = some (b, u)) (n : j ≠ i) : del H a b = some u := del_of (T.get j h2) (T.apart j i h2 h n)
def Kept (G : Hp → Addr → Prop) (B : Hp) (hs : List Addr) : Prop := ∀ h ∈ hs, G B h
theorem Kept.nil : Kept G B [] := fun _ h => nomatch h
theorem Kept.mono (k : Kept G B hs) (m : ∀ h, G B h → G B2 h) : Kept G B2 hs := fun h hh => m h (k h hh)
theorem Kept.add (k : Kept G B hs) (g : G B h) : Kept G B (hs ++ [h]) := fun x hx => by
  rcases List.mem_append.mp hx with hx | hx
  · exact k x hx
  · rw [List.mem_singleton.mp hx]
    exact g
/-- a pair of like int lists -/
def Two (B : Hp) (h : Addr) : Prop := ∃ (x y : Addr) (c : List Int), B h = some (.lst [.ref x, .ref y]) ∧ B x = some (.lst (c.map V.int)) ∧ B y = some (.lst (c.map V.int)) ∧ (∀ n ∈ c, n.natAbs < 2 ^ 64) ∧ c.length ≤ 3000
theorem Two.same (s : Same B B2) (h : Addr) (t : Two B h) : Two B2 h := let ⟨x, y, c, h1, h2, h3, h4⟩ := t; ⟨x, y, c, s _ _ h1, s _ _ h2, s _ _ h3, h4⟩
end
/-! ### the greatest, the least -/
def mxI : List Int → Int
  | [] => 0
  | [x] => x
  | x :: y :: r => max x (mxI (y :: r))
def mnI : List Int → Int
  | [] => 0
  | [x] => x
  | x :: y :: r => min x (mnI (y :: r))
theorem mxI_mem : ∀ {ns : List Int}, ns ≠ [] → mxI ns ∈ ns
  | [], h => absurd rfl h
  | [x], _ => List.mem_singleton.mpr rfl
  | x :: y :: r, _ => by
    have ih := mxI_mem (ns := y :: r) (List.cons_ne_nil _ _)
    rw [mxI]
    rcases Int.le_total x (mxI (y :: r)) with h | h
    · rw [Int.max_eq_right h]
      exact List.mem_cons_of_mem _ ih
    · rw [Int.max_eq_left h]
      exact List.mem_cons_self
theorem mxI_le : ∀ {ns : List Int} {n : Int}, n ∈ ns → n ≤ mxI ns
  | [x], n, h => by
    rw [List.mem_singleton.mp h]
    exact Int.le_refl _
  | x :: y :: r, n, h => by
    rw [mxI]
    rcases List.mem_cons.mp h with rfl | h
    · omega
    · have := mxI_le h
      omega
theorem mxI_eq {ns : List Int} {m : Int} (h1 : m ∈ ns) (h2 : ∀ y, y ∈ ns → y ≤ m) : m = mxI ns := by
  have hn : ns ≠ [] := fun e => by
    rw [e] at h1
    cases h1
  have a := mxI_le h1
  have b := h2 _ (mxI_mem hn)
  omega
theorem mnI_mem : ∀ {ns : List Int}, ns ≠ [] → mnI ns ∈ ns
  | [], h => absurd rfl h
  | [x], _ => List.mem_singleton.mpr rfl
  | x :: y :: r, _ => by
    have ih := mnI_mem (ns := y :: r) (List.cons_ne_nil _ _)
    rw [mnI]
    rcases Int.le_total x (mnI (y :: r)) with h | h
    · rw [Int.min_eq_left h]
      exact List.mem_cons_self
    · rw [Int.min_eq_right h]
      exact List.mem_cons_of_mem _ ih
theorem mnI_le : ∀ {ns : List Int} {n : Int}, n ∈ ns → mnI ns ≤ n
  | [x], n, h => by
    rw [List.mem_singleton.mp h]
    exact Int.le_refl _
  | x :: y :: r, n, h => by
    rw [mnI]
    rcases List.mem_cons.mp h with rfl | h
    · omega
    · have := mnI_le h
      omega
theorem mnI_eq {ns : List Int} {m : Int} (h1 : m ∈ ns) (h2 : ∀ y, y ∈ ns → m ≤ y) : m = mnI ns := by
  have hn : ns ≠ [] := fun e => by
    rw [e] at h1
    cases h1
  have a := mnI_le h1
  have b := h2 _ (mnI_mem hn)
  omega
section
variable {K : PySem.W.Frag} {H : Hp} {Q : VK} {a : Addr} {ns : List Int} {xs : List V}
theorem i_maxF (h1 : SqL K H a (ns.map V.int)) (h0 : 0 < ns.length) (h : Q (.int (mxI ns)) H) : rMax K [.ref a] H Q := i_max h1 h0 fun m a b => by rw [mxI_eq a b]; exact h
theorem i_minF (h1 : SqL K H a (ns.map V.int)) (h0 : 0 < ns.length) (h : Q (.int (mnI ns)) H) : rMin K [.ref a] H Q := i_min h1 h0 fun m a b => by rw [mnI_eq a b]; exact h
theorem g_max (h : rMax K xs H Q) : rMax K xs H Q := h
theorem g_min (h : rMin K xs H Q) : rMin K xs H Q := h
end
end PB

namespace PB
open PySem PySem.Spec PyProof.Rows L2
/-! ### ValueError("..") as a value -/
section
variable {X : Cx} {x : PySem.Str} {p pos : Pos} {e : Expr} {ta : TE} {T N I : String}
theorem pe_excA {t : TA} {es : List Expr} (F : ExcB T N I) (hg : Gl X x) (hm : X.mg x = none) (hv : bootBuiltins x = some (.type T)) (ha : PA X (e :: es) t) (hn : x ≠ "__name__" := by decide) (hdb : (x == ("__debug__" : PySem.Str)) = false := by decide)
    (he : starEach (e :: es) X.env = (false, eval e X.env) :: starEach es X.env := by rfl) (hpl : (backTo pos (starEach es X.env)).any (·.1) = false := by rfl) :
    PE X (.Call (.Name x p) (e :: es) [] pos) (fun σ H Q => t σ H fun vs H1 => vs.length ≤ sizeLine ∧ ∀ a, H1 a = none → Q (.ref a) (upd H1 a (ExO (.type T) a))) := by
  refine ⟨fun pins s σ H Q J h => ?_⟩
  refine wpAny_Call_Name_kw (ld_blt J hg hm hv ?_ hn hdb)
  refine PyProof.Rows.callWith_type1 (thn (ha.run pos pins s σ H _ J h) fun us s1 hh => ?_) he hpl
  obtain ⟨vs, H1, I1, r1, q0, q1⟩ := hh
  obtain ⟨hp1, g1, d1, tk1, os1⟩ := s1
  refine wpAny_call_exc F.call (fun h' a mk => ?_) (Nat.le_trans (Nat.le_of_eq r1.length.symm) q0)
  have hn : H1 a = none := I1.hok.gone mk.new
  obtain ⟨t, ht, _, _⟩ := mk.there
  exact ⟨.ref a, upd H1 a (ExO (.type T) a), I1.laidN mk.keeps mk.new hn (exO_ok ht ⟨rfl, rfl⟩ rfl rfl rfl (show 4 < 6 by decide)), rfl, q1 a hn⟩
theorem pe_excS {m : PySem.Str} {j : Nat} {p2 : Pos} (F : ExcB T N I) (hg : Gl X x) (hm : X.mg x = none) (hv : bootBuiltins x = some (.type T)) (hn : x ≠ "__name__" := by decide) (hdb : (x == ("__debug__" : PySem.Str)) = false := by decide) :
    PE X (.Call (.Name x p) [.Constant (.str m) j p2] [] pos) (fun σ H Q => ∀ a, H a = none → Q (.ref a) (upd H a (ExO (.type T) a))) := ⟨fun pins s σ H Q J h =>
  (pe_excA F hg hm hv (pa_cons pe_str pa_nil) hn hdb rfl rfl).run pins s σ H Q J ⟨(by show 1 ≤ sizeLine; rw [sizeLine_eq]; omega), h⟩⟩
end
/-! isinstance of it -/
def rIsV : List V → Hp → VK → Prop := fun xs H Q => ∃ (a : Addr) (c : V) (u : Value) (b : Bool), xs = [.ref a, c] ∧ ClsV c u ∧ H a = some (ExO (.type "ValueError") a) ∧ (∀ K, PySem.W.kitOne K (.type "ValueError") u = some b) ∧ Q (.bl b) H
theorem call_isV {X : Cx} : CallR X (.builtin "isinstance") rIsV := by
  intro pins s σ H xs us Q I r h
  obtain ⟨a, c, u, b, rfl, k, ty, e, q⟩ := h
  obtain ⟨u1, u2, rfl, r1, r2⟩ := vals2 r
  have e2 := k.eq r2
  subst e2
  cases (show u1 = Value.ref a from r1)
  obtain ⟨⟨oe, vs, ho, hz, _⟩, _, _⟩ := I.hok a _ ty
  exact PySem.W.kia_one (PySem.W.kitx_bexc PySem.F.excAttr_ValueError (by kernel_rfl) (by kernel_rfl) (by decide +kernel)) I.kIn ⟨oe, ho, hz.1⟩ (e _) (fun z => nomatch z) fun tk => ⟨.bl b, H, I.tok tk, rfl, q⟩
/-- isinstance of what has a builtin kind, or of a ValueError -/
def rIsX (K : PySem.W.Frag) : List V → Hp → VK → Prop := fun xs H Q => rIsi K xs H Q ∨ rIsV xs H Q
theorem call_isX {X : Cx} : CallR X (.builtin "isinstance") (rIsX X.K) := fun pins s σ H xs us Q I r h => h.elim (call_isi pins s σ H xs us Q I r) (call_isV pins s σ H xs us Q I r)
theorem i_isV {H : Hp} {Q : VK} {a : Addr} {c : String} {b : Bool} (h : H a = some (ExO (.type "ValueError") a)) (hk : kitB "ValueError" c = some b) (k : Q (.bl b) H) : rIsV [.ref a, .ty c] H Q := ⟨a, .ty c, _, b, rfl, ClsV.ty c, h, fun _ => kit_ty hk, k⟩
/-! ### the program's own errors -/
inductive Er where
  | cut | many | place | number | text | command
  deriving DecidableEq
def Er.nm : Er → PySem.Str
  | .cut => "CutError" | .many => "NoMany" | .place => "NoPlace" | .number => "NoNumber" | .text => "NoText" | .command => "NoCommand"
/-- is a c a d -/
def Er.sub (c d : Er) : Bool := c == d || d == .cut
/-- an object of the class cls, of an exception -/
def EcO (cls : Value) (a : Addr) : HO := .ext fun h => ∃ (oe : Obj) (vs : Array Value), h.get? a = some oe ∧ Zc cls none oe ∧ oe.data = .fields vs
theorem ecO_ok {P : Program} {w : World} {H : Hp} {h : Heap} {a : Addr} {cls : Value} {oe : Obj} {vs : Array Value} (e : h.get? a = some oe) (z : Zc cls none oe) (d : oe.data = .fields vs) : ObjOk P w H h a (EcO cls a) :=
  ⟨⟨oe, vs, e, z, d⟩, ⟨oe, e⟩, fun _ _ ⟨o, v, q, r⟩ k => ⟨o, v, k o q, r⟩⟩
end PB

namespace PB
open PySem PySem.Spec PyProof.Rows L2
/-! ### typed values and what stands for them -/
/-- where lists, tuples, the script are to be read -/
structure Lk where
  l : Addr → List V → Prop
  t : Addr → List V → Prop
  s : Addr → List V → Prop
  d : Addr → List (Key × V) → Prop
  x : Addr → Prop
  e : Er → Addr → Prop
structure Lk.Le (S T : Lk) : Prop where
  l : ∀ a vs, S.l a vs → T.l a vs
  t : ∀ a vs, S.t a vs → T.t a vs
  s : ∀ a vs, S.s a vs → T.s a vs
  d : ∀ a kvs, S.d a kvs → T.d a kvs
  x : ∀ a, S.x a → T.x a
  e : ∀ c a, S.e c a → T.e c a
def lkA (K : PySem.W.Frag) (H : Hp) : Lk := ⟨fun a vs => H a = some (.lst vs), SqT K H, SqL K H, fun a kvs => H a = some (.dK kvs), fun a => H a = some (ExO (.type "ValueError") a), fun c a => H a = some (EcO (.ref (He.ga K c.nm)) a)⟩
def lkN (N : Hp) : Lk := ⟨fun a vs => N a = some (.lst vs), fun a vs => N a = some (.tup vs), fun a vs => N a = some (.lst vs), fun a kvs => N a = some (.dK kvs), fun a => N a = some (ExO (.type "ValueError") a), fun _ _ => False⟩
theorem Lk.Le.refl (S : Lk) : S.Le S := ⟨fun _ _ h => h, fun _ _ h => h, fun _ _ h => h, fun _ _ h => h, fun _ h => h, fun _ _ h => h⟩
theorem Lk.Le.trans {S T U : Lk} (a : S.Le T) (b : T.Le U) : S.Le U := ⟨fun x y h => b.l x y (a.l x y h), fun x y h => b.t x y (a.t x y h), fun x y h => b.s x y (a.s x y h), fun x y h => b.d x y (a.d x y h), fun x h => b.x x (a.x x h), fun c x h => b.e c x (a.e c x h)⟩
section
variable {K : PySem.W.Frag} {H H' N N' F F' B : Hp}
theorem lkA_mono (s : Same H H') : (lkA K H).Le (lkA K H') := ⟨fun a vs h => s _ _ h, fun a vs h => Same.tup s h, fun a vs h => s.seq h, fun a kvs h => s _ _ h, fun a h => s _ _ h, fun c a h => s _ _ h⟩
theorem lkN_mono (s : Same N N') : (lkN N).Le (lkN N') := ⟨fun a vs h => s _ _ h, fun a vs h => s _ _ h, fun a vs h => s _ _ h, fun a vs h => s _ _ h, fun a h => s _ _ h, fun _ _ h => h⟩
theorem lkNA (s : Same N H) : (lkN N).Le (lkA K H) := ⟨fun a vs h => s _ _ h, fun a vs h => SqT.of (s _ _ h), fun a vs h => SqL.of (s _ _ h), fun a kvs h => s _ _ h, fun a h => s _ _ h, fun _ _ h => h.elim⟩
end
def All2 {α : Type} (R : α → V → Prop) : List α → List V → Prop
  | [], [] => True
  | x :: xs, v :: vs => R x v ∧ All2 R xs vs
  | _, _ => False
section
variable {α : Type} {R R' : α → V → Prop}
theorem All2.mono (h : ∀ x v, R x v → R' x v) : ∀ {xs : List α} {vs : List V}, All2 R xs vs → All2 R' xs vs
  | [], [], _ => trivial
  | _ :: _, _ :: _, h2 => ⟨h _ _ h2.1, All2.mono h h2.2⟩
  | [], _ :: _, h2 => h2.elim
  | _ :: _, [], h2 => h2.elim
theorem All2.len : ∀ {xs : List α} {vs : List V}, All2 R xs vs → vs.length = xs.length
  | [], [], _ => rfl
  | _ :: _, _ :: _, h => congrArg (· + 1) (All2.len h.2)
  | [], _ :: _, h => h.elim
  | _ :: _, [], h => h.elim
theorem All2.get : ∀ {xs : List α} {vs : List V} {i : Nat} {x : α}, All2 R xs vs → xs[i]? = some x → ∃ v, vs[i]? = some v ∧ R x v
  | _ :: _, v :: _, 0, _, h, e => ⟨v, rfl, by cases e; exact h.1⟩
  | _ :: xs, _ :: vs, i + 1, x, h, e => All2.get (xs := xs) (vs := vs) (i := i) h.2 (by simpa using e)
  | [], _, _, _, _, e => by simp at e
  | _ :: _, [], _, _, h, _ => h.elim
theorem All2.getV {xs : List α} {vs : List V} {i : Nat} {v : V} (h : All2 R xs vs) (e : vs[i]? = some v) : ∃ x, xs[i]? = some x ∧ R x v := by
  have hl := (List.getElem?_eq_some_iff.mp e).1
  rw [h.len] at hl
  obtain ⟨w, hw, r⟩ := h.get (List.getElem?_eq_getElem hl)
  rw [e] at hw
  cases hw
  exact ⟨_, List.getElem?_eq_getElem hl, r⟩
theorem All2.app : ∀ {xs ys : List α} {vs ws : List V}, All2 R xs vs → All2 R ys ws → All2 R (xs ++ ys) (vs ++ ws)
  | [], _, [], _, _, h => h
  | _ :: _, _, _ :: _, _, h, h2 => ⟨h.1, All2.app h.2 h2⟩
  | [], _, _ :: _, _, h, _ => h.elim
  | _ :: _, _, [], _, h, _ => h.elim
theorem All2.one {x : α} {v : V} (h : R x v) : All2 R [x] [v] := ⟨h, trivial⟩
theorem All2.drop : ∀ {xs : List α} {vs : List V} (n : Nat), All2 R xs vs → All2 R (xs.drop n) (vs.drop n)
  | _, _, 0, h => h
  | [], [], _ + 1, _ => trivial
  | _ :: _, _ :: _, n + 1, h => All2.drop n h.2
  | [], _ :: _, _ + 1, h => h.elim
  | _ :: _, [], _ + 1, h => h.elim
theorem All2.take : ∀ {xs : List α} {vs : List V} (n : Nat), All2 R xs vs → All2 R (xs.take n) (vs.take n)
  | _, _, 0, _ => trivial
  | [], [], _ + 1, _ => trivial
  | _ :: _, _ :: _, n + 1, h => ⟨h.1, All2.take n h.2⟩
  | [], _ :: _, _ + 1, h => h.elim
  | _ :: _, [], _ + 1, h => h.elim
theorem All2.set : ∀ {xs : List α} {vs : List V} {x : α} {v : V} (n : Nat), All2 R xs vs → R x v → All2 R (xs.set n x) (vs.set n v)
  | [], [], _, _, _, _, _ => trivial
  | _ :: _, _ :: _, _, _, 0, h, r => ⟨r, h.2⟩
  | _ :: _, _ :: _, _, _, n + 1, h, r => ⟨h.1, All2.set n h.2 r⟩
  | [], _ :: _, _, _, _, h, _ => h.elim
  | _ :: _, [], _, _, _, h, _ => h.elim
theorem All2.rev : ∀ {xs : List α} {vs : List V}, All2 R xs vs → All2 R xs.reverse vs.reverse
  | [], [], _ => trivial
  | _ :: _, _ :: _, h => by
    rw [List.reverse_cons, List.reverse_cons]
    exact (All2.rev h.2).app (All2.one h.1)
  | [], _ :: _, h => h.elim
  | _ :: _, [], h => h.elim
theorem All2.rep {xs : List α} {vs : List V} (h : All2 R xs vs) : ∀ n : Nat, All2 R (List.replicate n xs).flatten (List.replicate n vs).flatten
  | 0 => trivial
  | n + 1 => by
    rw [List.replicate_succ, List.replicate_succ, List.flatten_cons, List.flatten_cons]
    exact h.app (All2.rep h n)
end

class Rp (α : Type) where
  rep : Lk → α → V → Prop
  mono : ∀ {S T : Lk} {x : α} {v : V}, S.Le T → rep S x v → rep T x v
instance : Rp Int := ⟨fun _ x v => v = .int x, fun _ h => h⟩
instance : Rp Bool := ⟨fun _ x v => v = .bl x, fun _ h => h⟩
instance : Rp Unit := ⟨fun _ _ v => v = .non, fun _ h => h⟩
instance : Rp PySem.Str := ⟨fun _ x v => v = .str x, fun _ h => h⟩
section
variable {α β γ δ : Type} [Rp α] [Rp β] [Rp γ] [Rp δ]
def repOpt (S : Lk) : Option α → V → Prop
  | none, v => v = .non
  | some x, v => Rp.rep S x v
instance : Rp (Option α) := ⟨repOpt, fun {S T x v} s h => by
  cases x with
  | none => exact h
  | some y => exact Rp.mono (α := α) s h⟩
instance : Rp (List α) := ⟨fun S xs v => ∃ a vs, v = .ref a ∧ S.l a vs ∧ All2 (Rp.rep S) xs vs, fun s ⟨a, vs, e, h, r⟩ => ⟨a, vs, e, s.l _ _ h, r.mono fun _ _ h => Rp.mono s h⟩⟩
instance : Rp (α × β) := ⟨fun S x v => ∃ a u w, v = .ref a ∧ S.t a [u, w] ∧ Rp.rep S x.1 u ∧ Rp.rep S x.2 w, fun s ⟨a, u, w, e, h, r1, r2⟩ => ⟨a, u, w, e, s.t _ _ h, Rp.mono s r1, Rp.mono s r2⟩⟩
/-- a tuple of three -/
structure T3 (α β γ : Type) where
  a : α
  b : β
  c : γ
  deriving DecidableEq
instance : Rp (T3 α β γ) := ⟨fun S x v => ∃ a u w z, v = .ref a ∧ S.t a [u, w, z] ∧ Rp.rep S x.a u ∧ Rp.rep S x.b w ∧ Rp.rep S x.c z, fun s ⟨a, u, w, z, e, h, r1, r2, r3⟩ => ⟨a, u, w, z, e, s.t _ _ h, Rp.mono s r1, Rp.mono s r2, Rp.mono s r3⟩⟩
/-- a tuple of one -/
structure T1 (α : Type) where
  a : α
  deriving DecidableEq
instance : Rp (T1 α) := ⟨fun S x v => ∃ a u, v = .ref a ∧ S.t a [u] ∧ Rp.rep S x.a u, fun s ⟨a, u, e, h, r1⟩ => ⟨a, u, e, s.t _ _ h, Rp.mono s r1⟩⟩
instance : Rp Er := ⟨fun S c v => ∃ a, v = .ref a ∧ S.e c a, fun s ⟨a, e, h⟩ => ⟨a, e, s.e _ _ h⟩⟩
/-- the script -/
structure Scr where
  l : List Int
instance : Rp Scr := ⟨fun S x v => ∃ a, v = .ref a ∧ S.s a (x.l.map V.int), fun s ⟨a, e, h⟩ => ⟨a, e, s.s _ _ h⟩⟩
end
theorem all2_int {S : Lk} : ∀ {xs : List Int} {vs : List V}, All2 (Rp.rep S) xs vs → vs = xs.map V.int
  | [], [], _ => rfl
  | x :: xs, v :: vs, h => by
    have e : v = .int x := h.1
    rw [List.map_cons, e, all2_int h.2]
  | [], _ :: _, h => h.elim
  | _ :: _, [], h => h.elim
theorem all2_ofInt {S : Lk} : ∀ (xs : List Int), All2 (Rp.rep S) xs (xs.map V.int)
  | [] => trivial
  | _ :: xs => ⟨rfl, all2_ofInt xs⟩

/-! ### what is known -/
def reg (t : Bool) (K : PySem.W.Frag) (N F : Hp) : Lk := match t with
  | true => lkN N
  | false => lkA K F
theorem reg_mono {t : Bool} {K : PySem.W.Frag} {N F N' F' : Hp} (h1 : Same N N') (h2 : Same F F') : (reg t K N F).Le (reg t K N' F') := by
  cases t
  · exact lkA_mono h2
  · exact lkN_mono h1
theorem reg_A {t : Bool} {K : PySem.W.Frag} {N F H : Hp} (h1 : Same N F) (h2 : Same F H) : (reg t K N F).Le (lkA K H) := by
  cases t
  · exact lkA_mono h2
  · exact lkNA (h1.trans h2)
structure Fact where
  P : PySem.W.Frag → Hp → Hp → Prop
  mono : ∀ {K N F N' F'}, Same N N' → Same F F' → P K N F → P K N' F'
def fc (t : Bool) {α : Type} [Rp α] (x : α) (v : V) : Fact := ⟨fun K N F => Rp.rep (reg t K N F) x v, fun h1 h2 h => Rp.mono (reg_mono h1 h2) h⟩
structure Own where
  a : Addr
  P : PySem.W.Frag → Hp → Hp → HO → Prop
  mono : ∀ {K N F N' F' o}, Same N N' → Same F F' → P K N F o → P K N' F' o
def oL (t : Bool) {α : Type} [Rp α] (a : Addr) (xs : List α) : Own :=
  ⟨a, fun K N F o => ∃ vs, o = .lst vs ∧ All2 (Rp.rep (reg t K N F)) xs vs, fun h1 h2 ⟨vs, e, h⟩ => ⟨vs, e, h.mono fun _ _ h => Rp.mono (reg_mono h1 h2) h⟩⟩
structure WdI (K : PySem.W.Frag) (B : Hp) (ctx : List Fact) (L : List Own) (H N F : Hp) : Prop where
  bF : Same B F
  nF : Same N F
  sep : ∀ a u, N a = some u → B a = none
  fH : Same F H
  facts : ∀ f ∈ ctx, f.P K N F
  at_ : ∀ o ∈ L, ∃ h, H o.a = some h ∧ o.P K N F h
  off : ∀ o ∈ L, F o.a = none
  nd : (L.map (·.a)).Nodup
def Wd (K : PySem.W.Frag) (B : Hp) (ctx : List Fact) (L : List Own) (H : Hp) : Prop := ∃ N F, WdI K B ctx L H N F
theorem setMem' {L : List Own} {j : Nat} {o o' q : Own} (nd : (L.map (·.a)).Nodup) (hj : L[j]? = some o) (hq : q ∈ L.set j o') : q = o' ∨ (q ∈ L ∧ q.a ≠ o.a) := by
  induction L generalizing j with
  | nil => simp at hj
  | cons y L ih =>
    rw [List.map_cons] at nd
    cases j with
    | zero =>
      have e : y = o := by simpa using hj
      rw [List.set_cons_zero] at hq
      rcases List.mem_cons.mp hq with rfl | hq
      · exact .inl rfl
      · refine .inr ⟨List.mem_cons_of_mem _ hq, fun e2 => (List.nodup_cons.mp nd).1 ?_⟩
        rw [e, ← e2]
        exact List.mem_map_of_mem hq
    | succ j =>
      rw [List.set_cons_succ] at hq
      rcases List.mem_cons.mp hq with rfl | hq
      · refine .inr ⟨List.mem_cons_self, fun e2 => (List.nodup_cons.mp nd).1 ?_⟩
        rw [e2]
        exact List.mem_map_of_mem (f := (·.a)) (List.mem_of_getElem? (show L[j]? = some o by simpa using hj))
      · rcases ih (List.nodup_cons.mp nd).2 (by simpa using hj) hq with r | ⟨r1, r2⟩
        · exact .inl r
        · exact .inr ⟨List.mem_cons_of_mem _ r1, r2⟩
/-- known of a value; of a list's items -/
def Kn (K : PySem.W.Frag) (ctx : List Fact) (t : Bool) {α : Type} [Rp α] (x : α) (v : V) : Prop := ∀ N F, Same N F → (∀ f ∈ ctx, f.P K N F) → Rp.rep (reg t K N F) x v
def KnL (K : PySem.W.Frag) (ctx : List Fact) (t : Bool) {α : Type} [Rp α] (xs : List α) (vs : List V) : Prop := ∀ N F, Same N F → (∀ f ∈ ctx, f.P K N F) → All2 (Rp.rep (reg t K N F)) xs vs
/-- a list to be read; a list proper -/
def Ls (K : PySem.W.Frag) (ctx : List Fact) (L : List Own) (t : Bool) {α : Type} [Rp α] (xs : List α) (v : V) : Prop := ∀ B H N F, WdI K B ctx L H N F → ∃ a vs, v = .ref a ∧ SqL K H a vs ∧ All2 (Rp.rep (reg t K N F)) xs vs
def Lx (K : PySem.W.Frag) (ctx : List Fact) (L : List Own) (t : Bool) {α : Type} [Rp α] (xs : List α) (v : V) : Prop := ∀ B H N F, WdI K B ctx L H N F → ∃ a vs, v = .ref a ∧ H a = some (.lst vs) ∧ All2 (Rp.rep (reg t K N F)) xs vs
/-- any value to be read in the whole heap; with the object at a left out -/
def Ar (K : PySem.W.Frag) (ctx : List Fact) (L : List Own) {α : Type} [Rp α] (x : α) (v : V) : Prop := ∀ B H N F, WdI K B ctx L H N F → Rp.rep (lkA K H) x v
def ArD (K : PySem.W.Frag) (ctx : List Fact) (L : List Own) (a : Addr) {α : Type} [Rp α] (x : α) (v : V) : Prop := ∀ B H N F, WdI K B ctx L H N F → Rp.rep (lkA K (del H a)) x v
section
variable {K : PySem.W.Frag} {B H H' N F : Hp} {ctx ctx' : List Fact} {L L' : List Own} {t : Bool} {α β γ : Type} [Rp α] [Rp β] [Rp γ] {x : α} {y : β} {z : γ} {xs : List α} {v w u : V} {vs : List V} {a p : Addr} {f : Fact} {o : Own}
theorem Kn.int {i : Int} : Kn K ctx t i (.int i) := fun _ _ _ _ => rfl
theorem Kn.bl {i : Bool} : Kn K ctx t i (.bl i) := fun _ _ _ _ => rfl
theorem Kn.str {i : PySem.Str} : Kn K ctx t i (.str i) := fun _ _ _ _ => rfl
theorem Kn.unit : Kn K ctx t () .non := fun _ _ _ _ => rfl
theorem Kn.none : Kn K ctx t (none : Option α) .non := fun _ _ _ _ => rfl
theorem Kn.some (h : Kn K ctx t x v) : Kn K ctx t (some x) v := fun N F s q => h N F s q
theorem Kn.at (i : Nat) (h : ctx[i]? = Option.some (fc t x v)) : Kn K ctx t x v := fun N F s q => q _ (List.mem_of_getElem? h)
theorem Kn.weak (h : Kn K ctx true x v) : Kn K ctx false x v := fun N F s q => Rp.mono (lkNA s) (h N F s q)
theorem KnL.nil : KnL K ctx t ([] : List α) [] := fun _ _ _ _ => trivial
theorem KnL.cons (h : Kn K ctx t x v) (h2 : KnL K ctx t xs vs) : KnL K ctx t (x :: xs) (v :: vs) := fun N F s q => ⟨h N F s q, h2 N F s q⟩
theorem Lx.ls (h : Lx K ctx L t xs v) : Ls K ctx L t xs v := fun B H N F W => by
  obtain ⟨a, vs, e, h1, h2⟩ := h B H N F W
  exact ⟨a, vs, e, SqL.of h1, h2⟩
theorem reg_l {vs : List V} (h1 : Same N F) (h2 : Same F H) (h : (reg t K N F).l a vs) : H a = some (.lst vs) := (reg_A h1 h2).l _ _ h
theorem Lx.kn (h : Kn K ctx t xs v) : Lx K ctx L t xs v := fun B H N F W => by
  obtain ⟨a, vs, e, h1, h2⟩ := h N F W.nF W.facts
  exact ⟨a, vs, e, reg_l W.nF W.fH h1, h2⟩
theorem Lx.own (j : Nat) (h : L[j]? = some (oL t a xs)) : Lx K ctx L t xs (.ref a) := fun B H N F W => by
  obtain ⟨o, h1, vs, rfl, h2⟩ := W.at_ _ (List.mem_of_getElem? h)
  exact ⟨a, vs, rfl, h1, h2⟩
theorem Ls.scr {x : Scr} (h : Kn K ctx false x v) : Ls K ctx L t x.l v := fun B H N F W => by
  obtain ⟨a, e, h1⟩ := h N F W.nF W.facts
  exact ⟨a, _, e, W.fH.seq h1, all2_ofInt _⟩
theorem Ar.kn (h : Kn K ctx t x v) : Ar K ctx L x v := fun B H N F W => Rp.mono (reg_A W.nF W.fH) (h N F W.nF W.facts)
theorem Ar.lx (h : Lx K ctx L t xs v) : Ar K ctx L xs v := fun B H N F W => by
  obtain ⟨a, vs, e, h1, h2⟩ := h B H N F W
  exact ⟨a, vs, e, h1, h2.mono fun _ _ q => Rp.mono (reg_A W.nF W.fH) q⟩
theorem toDel (s : Same F H) (h : F a = Option.none) : Same F (del H a) := fun b u e => by
  rw [del_ne (fun z => by rw [z, h] at e; cases e)]
  exact s b u e
theorem ArD.kn {ys : List β} {t' : Bool} (j : Nat) (hj : L[j]? = some (oL t' a ys)) (h : Kn K ctx t x v) : ArD K ctx L a x v := fun B H N F W =>
  Rp.mono (reg_A W.nF (toDel W.fH (W.off _ (List.mem_of_getElem? hj)))) (h N F W.nF W.facts)
theorem ArD.own {ys : List β} {b : Addr} {t' : Bool} (j : Nat) (hj : L[j]? = some (oL t' a ys)) (i : Nat) (hi : L[i]? = some (oL t b xs)) (n : i ≠ j) : ArD K ctx L a xs (.ref b) := fun B H N F W => by
  obtain ⟨o, h1, vs, rfl, h2⟩ := W.at_ _ (List.mem_of_getElem? hi)
  have hn : b ≠ a := fun e => by
    have ha := List.getElem?_map (f := (·.a)) (l := L) (i := i)
    have hp := List.getElem?_map (f := (·.a)) (l := L) (i := j)
    rw [hi] at ha
    rw [hj] at hp
    have ha' : (L.map (·.a))[i]? = some b := ha
    have hp' : (L.map (·.a))[j]? = some a := hp
    rw [← e] at hp'
    exact n (nd_ix W.nd ha' hp')
  exact ⟨b, vs, rfl, (del_ne hn).trans h1, h2.mono fun _ _ q => Rp.mono (reg_A W.nF (toDel W.fH (W.off _ (List.mem_of_getElem? hj)))) q⟩

/-! ### worlds -/
theorem Wd.start (H : Hp) : Wd K H [] [] H := ⟨fun _ => none, H, Same.refl H, (fun _ _ h => nomatch h), (fun _ _ h => nomatch h), Same.refl H, (fun _ h => nomatch h), (fun _ h => nomatch h), (fun _ h => nomatch h), List.nodup_nil⟩
/-- a fact of what stood at the beginning -/
theorem Wd.arg (W : Wd K B ctx L H) (r : Rp.rep (lkA K B) x v) : Wd K B (fc false x v :: ctx) L H := by
  obtain ⟨N, F, W⟩ := W
  refine ⟨N, F, W.bF, W.nF, W.sep, W.fH, fun f hf => ?_, W.at_, W.off, W.nd⟩
  rcases List.mem_cons.mp hf with rfl | hf
  · exact Rp.mono (lkA_mono W.bF) r
  · exact W.facts f hf
/-- the one list that the def may change -/
theorem Wd.mut {xs : List α} (h : H a = some (.lst vs)) (r : All2 (Rp.rep (lkN fun _ => none)) xs vs) : Wd K (del H a) [] [oL true a xs] H := by
  refine ⟨fun _ => none, del H a, Same.refl _, (fun _ _ h => nomatch h), (fun _ _ h => nomatch h), Same.del, (fun _ h => nomatch h), fun o ho => ?_, fun o ho => ?_, by simp⟩
  · obtain rfl := List.mem_singleton.mp ho
    exact ⟨_, h, vs, rfl, r⟩
  · obtain rfl := List.mem_singleton.mp ho
    exact del_same
theorem Wd.add (W : Wd K B ctx L H) (h : ∀ N F, WdI K B ctx L H N F → f.P K N F) : Wd K B (f :: ctx) L H := by
  obtain ⟨N, F, W⟩ := W
  refine ⟨N, F, W.bF, W.nF, W.sep, W.fH, fun g hg => ?_, W.at_, W.off, W.nd⟩
  rcases List.mem_cons.mp hg with rfl | hg
  · exact h N F W
  · exact W.facts g hg
theorem Wd.know (W : Wd K B ctx L H) (h : Kn K ctx t x v) : Wd K B (fc t x v :: ctx) L H := W.add fun N F W => h N F W.nF W.facts
/-- fewer facts -/
theorem Wd.sub (W : Wd K B ctx L H) (h : ∀ f ∈ ctx', f ∈ ctx) : Wd K B ctx' L H := by
  obtain ⟨N, F, W⟩ := W
  exact ⟨N, F, W.bF, W.nF, W.sep, W.fH, fun f hf => W.facts f (h f hf), W.at_, W.off, W.nd⟩
def selB {τ : Type} : List Nat → List τ → Option (List τ)
  | [], _ => some []
  | i :: is, l => match l[i]?, selB is l with
    | some x, some xs => some (x :: xs)
    | _, _ => none
theorem selB_mem {τ : Type} : ∀ {is : List Nat} {l m : List τ}, selB is l = some m → ∀ x ∈ m, ∃ i ∈ is, l[i]? = some x
  | [], _, _, h, x, hx => by
    cases h
    cases hx
  | i :: is, l, m, h, x, hx => by
    unfold selB at h
    cases e : l[i]? with
    | none => rw [e] at h; cases h
    | some y =>
      cases e2 : selB is l with
      | none => rw [e, e2] at h; cases h
      | some ys =>
        rw [e, e2] at h
        cases h
        rcases List.mem_cons.mp hx with rfl | hx
        · exact ⟨i, List.mem_cons_self, e⟩
        · obtain ⟨k, hk, q⟩ := selB_mem e2 x hx
          exact ⟨k, List.mem_cons_of_mem _ hk, q⟩
theorem Wd.sel (W : Wd K B ctx L H) (is : List Nat) (h : selB is ctx = some ctx') : Wd K B ctx' L H :=
  W.sub fun f hf => let ⟨_, _, q⟩ := selB_mem h f hf; List.mem_of_getElem? q
theorem Wd.drop (W : Wd K B ctx L H) (n : Nat) (h : ctx.drop n = ctx') : Wd K B ctx' L H := W.sub fun f hf => by
  rw [← h] at hf
  exact List.mem_of_mem_drop hf
theorem selB_nd {l m : List Own} : ∀ {is : List Nat} {m : List Own}, selB is l = some m → (l.map (·.a)).Nodup → is.Nodup → (m.map (·.a)).Nodup
  | [], m, h, _, _ => by
    cases h
    exact List.nodup_nil
  | i :: is, m, h, nd, ni => by
    unfold selB at h
    cases e : l[i]? with
    | none => rw [e] at h; cases h
    | some y =>
      cases e2 : selB is l with
      | none => rw [e, e2] at h; cases h
      | some ys =>
        rw [e, e2] at h
        cases h
        rw [List.map_cons]
        refine List.nodup_cons.mpr ⟨fun hm => ?_, selB_nd (m := ys) e2 nd (List.nodup_cons.mp ni).2⟩
        obtain ⟨q, hq, eq⟩ := List.mem_map.mp hm
        obtain ⟨k, hk, ek⟩ := selB_mem e2 q hq
        have ha := List.getElem?_map (f := (·.a)) (l := l) (i := i)
        have hp := List.getElem?_map (f := (·.a)) (l := l) (i := k)
        rw [e] at ha
        rw [ek] at hp
        have ha' : (l.map (·.a))[i]? = some y.a := ha
        have hp' : (l.map (·.a))[k]? = some q.a := hp
        rw [eq] at hp'
        have := nd_ix nd ha' hp'
        rw [this] at ni
        exact (List.nodup_cons.mp ni).1 hk
theorem Wd.selO (W : Wd K B ctx L H) (is : List Nat) (h : selB is L = some L') (n : is.Nodup := by decide) : Wd K B ctx L' H := by
  obtain ⟨N, F, W⟩ := W
  have hm : ∀ o ∈ L', o ∈ L := fun o ho => let ⟨_, _, q⟩ := selB_mem h o ho; List.mem_of_getElem? q
  exact ⟨N, F, W.bF, W.nF, W.sep, W.fH, W.facts, fun o ho => W.at_ o (hm o ho), fun o ho => W.off o (hm o ho), selB_nd (m := L) h W.nd n⟩
/-- another heap in which all that is known stands -/
theorem Wd.same (W : Wd K B ctx L H) (s : Same H H') : Wd K B ctx L H' := by
  obtain ⟨N, F, W⟩ := W
  exact ⟨N, F, W.bF, W.nF, W.sep, W.fH.trans s, W.facts, fun o ho => let ⟨h, e, q⟩ := W.at_ o ho; ⟨h, s _ _ e, q⟩, W.off, W.nd⟩
/-- a new object, one's own -/
theorem Wd.newO (W : WdI K B ctx L H N F) (hp : H p = Option.none) (k : HO) (ea : o.a = p) (h : o.P K N F k) : Wd K B ctx (o :: L) (upd H p k) := by
  refine ⟨N, F, W.bF, W.nF, W.sep, fun b u e => ?_, W.facts, fun q hq => ?_, fun q hq => ?_, ?_⟩
  · rw [upd_ne (ne_of_none (W.fH b u e) hp)]
    exact W.fH b u e
  · rcases List.mem_cons.mp hq with rfl | hq
    · exact ⟨k, by rw [ea]; exact upd_same, h⟩
    · obtain ⟨u, e, r⟩ := W.at_ q hq
      exact ⟨u, by rw [upd_ne (ne_of_none e hp)]; exact e, r⟩
  · rcases List.mem_cons.mp hq with rfl | hq
    · rw [ea]
      exact W.fH.free hp
    · exact W.off q hq
  · rw [List.map_cons]
    refine List.nodup_cons.mpr ⟨fun hm => ?_, W.nd⟩
    obtain ⟨q, hq, e⟩ := List.mem_map.mp hm
    obtain ⟨u, e2, r⟩ := W.at_ q hq
    rw [e, ea, hp] at e2
    cases e2
theorem Wd.newL (W : WdI K B ctx L H N F) (hp : H p = Option.none) (h : All2 (Rp.rep (reg t K N F)) xs vs) : Wd K B ctx (oL t p xs :: L) (upd H p (.lst vs)) :=
  Wd.newO W hp _ rfl ⟨vs, rfl, h⟩
/-- no longer changed -/
theorem Wd.frz (W : Wd K B ctx (oL t p xs :: L) H) : Wd K B (fc t xs (.ref p) :: ctx) L H := by
  obtain ⟨N, F, W⟩ := W
  obtain ⟨k, hk, vs, rfl, hr⟩ := W.at_ _ List.mem_cons_self
  have hF : F p = Option.none := W.off _ List.mem_cons_self
  have hN : N p = Option.none := W.nF.free hF
  have hB : B p = Option.none := W.bF.free hF
  have sN : Same N (upd N p (.lst vs)) := fun b u e => by
    rw [upd_ne (ne_of_none e hN)]
    exact e
  have sF : Same F (upd F p (.lst vs)) := fun b u e => by
    rw [upd_ne (ne_of_none e hF)]
    exact e
  refine ⟨upd N p (.lst vs), upd F p (.lst vs), W.bF.trans sF, fun b u e => ?_, fun b u e => ?_, fun b u e => ?_, fun f hf => ?_, fun o ho => ?_, fun o ho => ?_, ?_⟩
  · by_cases h : b = p
    · rw [h, upd_same] at e ⊢
      exact e
    · rw [upd_ne h] at e ⊢
      exact W.nF b u e
  · by_cases h : b = p
    · rw [h]
      exact hB
    · rw [upd_ne h] at e
      exact W.sep b u e
  · by_cases h : b = p
    · rw [h, upd_same] at e
      rw [h, ← e]
      exact hk
    · rw [upd_ne h] at e
      exact W.fH b u e
  · rcases List.mem_cons.mp hf with rfl | hf
    · refine ⟨p, vs, rfl, ?_, hr.mono fun _ _ q => Rp.mono (reg_mono sN sF) q⟩
      cases t
      · exact upd_same
      · exact upd_same
    · exact f.mono sN sF (W.facts f hf)
  · obtain ⟨u, e, r⟩ := W.at_ o (List.mem_cons_of_mem _ ho)
    exact ⟨u, e, o.mono sN sF r⟩
  · have nd := W.nd
    rw [List.map_cons] at nd
    have hne : o.a ≠ p := fun e => (List.nodup_cons.mp nd).1 (by
      have := List.mem_map_of_mem (f := (·.a)) ho
      rw [e] at this
      exact this)
    rw [upd_ne hne]
    exact W.off o (List.mem_cons_of_mem _ ho)
  · have nd := W.nd
    rw [List.map_cons] at nd
    exact (List.nodup_cons.mp nd).2
/-- a new tuple -/
theorem Wd.newT (W : WdI K B ctx L H N F) (hp : H p = Option.none) (t : Bool) (h : ∀ N' F', Same N N' → Same F F' → (reg t K N' F').t p vs → f.P K N' F') : Wd K B (f :: ctx) L (upd H p (.tup vs)) := by
  have hF : F p = Option.none := W.fH.free hp
  have hN : N p = Option.none := W.nF.free hF
  have hB : B p = Option.none := W.bF.free hF
  have sN : Same N (upd N p (.tup vs)) := fun b u e => by
    rw [upd_ne (ne_of_none e hN)]
    exact e
  have sF : Same F (upd F p (.tup vs)) := fun b u e => by
    rw [upd_ne (ne_of_none e hF)]
    exact e
  refine ⟨upd N p (.tup vs), upd F p (.tup vs), W.bF.trans sF, fun b u e => ?_, fun b u e => ?_, fun b u e => ?_, fun f hf => ?_, fun o ho => ?_, fun o ho => ?_, W.nd⟩
  · by_cases h : b = p
    · rw [h, upd_same] at e ⊢
      exact e
    · rw [upd_ne h] at e ⊢
      exact W.nF b u e
  · by_cases h : b = p
    · rw [h]
      exact hB
    · rw [upd_ne h] at e
      exact W.sep b u e
  · by_cases h : b = p
    · rw [h, upd_same] at e ⊢
      exact e
    · rw [upd_ne h] at e ⊢
      exact W.fH b u e
  · rcases List.mem_cons.mp hf with rfl | hf
    · refine h _ _ sN sF ?_
      cases t
      · exact SqT.of upd_same
      · exact upd_same
    · exact f.mono sN sF (W.facts f hf)
  · obtain ⟨u, e, r⟩ := W.at_ o ho
    exact ⟨u, by rw [upd_ne (ne_of_none e hp)]; exact e, o.mono sN sF r⟩
  · obtain ⟨u, e, r⟩ := W.at_ o ho
    rw [upd_ne (ne_of_none e hp)]
    exact W.off o ho
/-- one's own object changed -/
theorem Wd.put (W : WdI K B ctx L H N F) (j : Nat) {o' : Own} (hj : L[j]? = some o) (ea : o'.a = o.a) (k : HO) (h : o'.P K N F k) : Wd K B ctx (L.set j o') (upd H o.a k) := by
  have hoff := W.off _ (List.mem_of_getElem? hj)
  have key : ∀ q ∈ L.set j o', q = o' ∨ (q ∈ L ∧ q.a ≠ o.a) := fun q hq => setMem' W.nd hj hq
  refine ⟨N, F, W.bF, W.nF, W.sep, fun b u e => ?_, W.facts, fun q hq => ?_, fun q hq => ?_, ?_⟩
  · rw [upd_ne (fun z => by rw [z, hoff] at e; cases e)]
    exact W.fH b u e
  · rcases key q hq with rfl | ⟨h1, h2⟩
    · rw [ea]
      exact ⟨k, upd_same, h⟩
    · rw [upd_ne h2]
      exact W.at_ q h1
  · rcases key q hq with rfl | ⟨h1, h2⟩
    · rw [ea]
      exact hoff
    · exact W.off q h1
  · have e : (L.set j o').map (·.a) = L.map (·.a) := by
      rw [List.map_set, ea]
      refine List.ext_getElem? fun i => ?_
      rw [List.getElem?_set]
      by_cases hi : j = i
      · subst hi
        have := (List.getElem?_eq_some_iff.mp hj).1
        rw [if_pos rfl, if_pos (by rw [List.length_map]; exact this), List.getElem?_map, hj]
        rfl
      · rw [if_neg hi]
    rw [e]
    exact W.nd

/-! ### what a def gives back -/
def Res (K : PySem.W.Frag) (H : Hp) {α : Type} [Rp α] (r : α) (v : V) (H' : Hp) : Prop := ∃ R, Same H H' ∧ Same R H' ∧ (∀ a u, R a = some u → H a = none) ∧ Rp.rep (lkN R) r v
/-- with the list at a changed -/
def Res1 (K : PySem.W.Frag) (H : Hp) (a : Addr) {α β : Type} [Rp α] [Rp β] (r : α × List β) (v : V) (H' : Hp) : Prop := ∃ R, But [a] H H' ∧ Same R H' ∧ (∀ a u, R a = some u → H a = none) ∧ Rp.rep (lkN R) r.1 v ∧ ∃ vs, H' a = some (.lst vs) ∧ All2 (Rp.rep (lkN fun _ => none)) r.2 vs
theorem Wd.res (W : Wd K B ctx L H) (h : Kn K ctx true x v) : Res K B x v H := by
  obtain ⟨N, F, W⟩ := W
  exact ⟨N, W.bF.trans W.fH, W.nF.trans W.fH, W.sep, h N F W.nF W.facts⟩
/-- items that stand for themselves -/
class Flat (β : Type) [Rp β] : Prop where
  h : ∀ (S T : Lk) (x : β) (v : V), Rp.rep S x v → Rp.rep T x v
instance : Flat Int := ⟨fun _ _ _ _ h => h⟩
instance : Flat Bool := ⟨fun _ _ _ _ h => h⟩
theorem Wd.res1 [Flat β] {ys : List β} (W : Wd K (del B a) ctx L H) (hB : B a ≠ Option.none) (j : Nat) (hj : L[j]? = some (oL t a ys)) (h : Kn K ctx true x v) : Res1 K B a (x, ys) v H := by
  obtain ⟨N, F, W⟩ := W
  obtain ⟨k, hk, vs, rfl, hr⟩ := W.at_ _ (List.mem_of_getElem? hj)
  have hoff : F a = Option.none := W.off _ (List.mem_of_getElem? hj)
  refine ⟨N, But.of_del (W.bF.trans W.fH), W.nF.trans W.fH, fun b u e => ?_, h N F W.nF W.facts, vs, hk, hr.mono fun _ _ q => Flat.h _ _ _ _ q⟩
  have h1 := W.sep b u e
  by_cases hb : b = a
  · rw [hb] at e
    have := W.nF a u e
    rw [hoff] at this
    cases this
  · rwa [del_ne hb] at h1
def join (F R : Hp) : Hp := fun a => match F a with
  | some u => some u
  | none => R a
theorem join_l {F R : Hp} : Same F (join F R) := fun a u e => by
  unfold join
  rw [e]
theorem join_r {F R : Hp} (h : ∀ a u, R a = some u → F a = none) : Same R (join F R) := fun a u e => by
  unfold join
  rw [h a u e]
  exact e
theorem join_or {F R : Hp} {a : Addr} {u : HO} (h : join F R a = some u) : F a = some u ∨ R a = some u := by
  unfold join at h
  cases e : F a with
  | some w => rw [e] at h; exact .inl h
  | none => rw [e] at h; exact .inr h
/-- what is new behind a call joins what stands -/
theorem Wd.joinI {R : Hp} (W : WdI K B ctx L H N F) (s : But (L.map (·.a)) H H') (sR : Same R H') (hR : ∀ a u, R a = some u → H a = Option.none) (hL : ∀ o ∈ L', (∃ h, H' o.a = some h ∧ ∀ N' F', Same N N' → Same F F' → o.P K N' F' h)) (ea : L'.map (·.a) = L.map (·.a)) :
    WdI K B ctx L' H' (join N R) (join F R) := by
  have rF : ∀ a u, R a = some u → F a = Option.none := fun a u e => W.fH.free (hR a u e)
  have rN : ∀ a u, R a = some u → N a = Option.none := fun a u e => W.nF.free (rF a u e)
  have sN : Same N (join N R) := join_l
  have sF : Same F (join F R) := join_l
  have offL : ∀ o ∈ L', o.a ∈ L.map (·.a) := fun o ho => by
    rw [← ea]
    exact List.mem_map_of_mem ho
  refine ⟨W.bF.trans sF, fun b u e => ?_, fun b u e => ?_, fun b u e => ?_, fun f hf => f.mono sN sF (W.facts f hf), fun o ho => ?_, fun o ho => ?_, by rw [ea]; exact W.nd⟩
  · rcases join_or e with e | e
    · exact sF _ _ (W.nF b u e)
    · exact join_r rF _ _ e
  · rcases join_or e with e | e
    · exact W.sep b u e
    · exact W.bF.free (rF b u e)
  · rcases join_or e with e | e
    · refine s b u (fun hm => ?_) (W.fH b u e)
      obtain ⟨q, hq, eq⟩ := List.mem_map.mp hm
      have := W.off q hq
      rw [eq, e] at this
      cases this
    · exact sR b u e
  · obtain ⟨h, e, r⟩ := hL o ho
    exact ⟨h, e, r _ _ sN sF⟩
  · obtain ⟨q, hq, eq⟩ := List.mem_map.mp (offL o ho)
    rw [← eq]
    cases e : join F R q.a with
    | none => rfl
    | some u =>
      exfalso
      rcases join_or e with e | e
      · have := W.off q hq
        rw [e] at this
        cases this
      · obtain ⟨h, e2, _⟩ := W.at_ q hq
        have := hR _ _ e
        rw [e2] at this
        cases this
theorem Wd.call (W : Wd K B ctx L H) (r : Res K H x v H') : Wd K B (fc true x v :: ctx) L H' := by
  obtain ⟨N, F, W⟩ := W
  obtain ⟨R, s, sR, hR, hr⟩ := r
  have J := Wd.joinI (L' := L) W (fun b u _ e => s b u e) sR hR (fun o ho => let ⟨h, e, q⟩ := W.at_ o ho; ⟨h, s _ _ e, fun N' F' a b => o.mono a b q⟩) rfl
  refine ⟨_, _, J.bF, J.nF, J.sep, J.fH, fun f hf => ?_, J.at_, J.off, J.nd⟩
  rcases List.mem_cons.mp hf with rfl | hf
  · exact Rp.mono (lkN_mono (join_r fun a u e => W.nF.free (W.fH.free (hR a u e)))) hr
  · exact J.facts f hf
/-- the list that is told as one's own -/
theorem Wd.callO [Flat α] (W : Wd K B ctx L H) (r : Res K H xs v H') : ∃ p, v = .ref p ∧ Wd K B ctx (oL true p xs :: L) H' := by
  obtain ⟨N, F, W⟩ := W
  obtain ⟨R, s, sR, hR, p, vs, e, hl, hr⟩ := r
  have hn : H p = Option.none := hR p _ hl
  have J := Wd.joinI (L' := L) (R := del R p) W (fun b u _ e => s b u e) (Same.del.trans sR) (fun a u e => hR a u (Same.del a u e)) (fun o ho => let ⟨h, e, q⟩ := W.at_ o ho; ⟨h, s _ _ e, fun N' F' a b => o.mono a b q⟩) rfl
  refine ⟨p, e, _, _, J.bF, J.nF, J.sep, J.fH, J.facts, fun o ho => ?_, fun o ho => ?_, ?_⟩
  · rcases List.mem_cons.mp ho with rfl | ho
    · exact ⟨_, sR _ _ hl, vs, rfl, hr.mono fun _ _ q => Flat.h _ _ _ _ q⟩
    · exact J.at_ o ho
  · rcases List.mem_cons.mp ho with rfl | ho
    · show join F (del R p) p = none
      unfold join
      rw [W.fH.free hn]
      exact del_same
    · exact J.off o ho
  · rw [List.map_cons]
    refine List.nodup_cons.mpr ⟨fun hm => ?_, J.nd⟩
    obtain ⟨q, hq, eq⟩ := List.mem_map.mp hm
    obtain ⟨u, e2, _⟩ := W.at_ q hq
    rw [eq] at e2
    rw [show (oL true p xs).a = p from rfl, hn] at e2
    cases e2
theorem Wd.call1 [Flat β] {ys ys' : List β} {t' : Bool} (W : Wd K B ctx L H) (j : Nat) (hj : L[j]? = some (oL t' a ys)) (r : Res1 K H a (x, ys') v H') : Wd K B (fc true x v :: ctx) (L.set j (oL t' a ys')) H' := by
  obtain ⟨N, F, W⟩ := W
  obtain ⟨R, s, sR, hR, hr, vs, hv, hs⟩ := r
  have am : a ∈ L.map (·.a) := List.mem_map_of_mem (f := (·.a)) (List.mem_of_getElem? hj)
  have ea : (L.set j (oL t' a ys')).map (·.a) = L.map (·.a) := by
    rw [List.map_set]
    refine List.ext_getElem? fun i => ?_
    rw [List.getElem?_set]
    by_cases hi : j = i
    · subst hi
      have := (List.getElem?_eq_some_iff.mp hj).1
      rw [if_pos rfl, if_pos (by rw [List.length_map]; exact this), List.getElem?_map, hj]
      rfl
    · rw [if_neg hi]
  have J := Wd.joinI (L' := L.set j (oL t' a ys')) W (fun b u n e => s b u (fun z => n (by rw [List.mem_singleton.mp z]; exact am)) e) sR hR (fun o ho => ?_) ea
  · refine ⟨_, _, J.bF, J.nF, J.sep, J.fH, fun f hf => ?_, J.at_, J.off, J.nd⟩
    rcases List.mem_cons.mp hf with rfl | hf
    · exact Rp.mono (lkN_mono (join_r fun a u e => W.nF.free (W.fH.free (hR a u e)))) hr
    · exact J.facts f hf
  · rcases setMem' W.nd hj ho with rfl | ⟨h1, h2⟩
    · exact ⟨_, hv, fun N' F' _ _ => ⟨vs, rfl, hs.mono fun _ _ q => Flat.h _ _ _ _ q⟩⟩
    · obtain ⟨h, e, q⟩ := W.at_ o h1
      exact ⟨h, s _ _ (fun z => h2 (List.mem_singleton.mp z)) e, fun N' F' a b => o.mono a b q⟩
/-- by the kind of what is told -/
theorem Wd.callI {i : Int} (W : Wd K B ctx L H) (r : Res K H i v H') : v = .int i ∧ Wd K B ctx L H' := ⟨let ⟨_, _, _, _, h⟩ := r; h, W.same (let ⟨_, s, _⟩ := r; s)⟩
theorem Wd.callB {i : Bool} (W : Wd K B ctx L H) (r : Res K H i v H') : v = .bl i ∧ Wd K B ctx L H' := ⟨let ⟨_, _, _, _, h⟩ := r; h, W.same (let ⟨_, s, _⟩ := r; s)⟩
theorem Wd.callS {i : PySem.Str} (W : Wd K B ctx L H) (r : Res K H i v H') : v = .str i ∧ Wd K B ctx L H' := ⟨let ⟨_, _, _, _, h⟩ := r; h, W.same (let ⟨_, s, _⟩ := r; s)⟩
theorem Wd.callU {i : Unit} (W : Wd K B ctx L H) (r : Res K H i v H') : v = .non ∧ Wd K B ctx L H' := ⟨let ⟨_, _, _, _, h⟩ := r; h, W.same (let ⟨_, s, _⟩ := r; s)⟩
theorem Wd.call1I [Flat β] {i : Int} {ys ys' : List β} {t' : Bool} (W : Wd K B ctx L H) (j : Nat) (hj : L[j]? = some (oL t' a ys)) (r : Res1 K H a (i, ys') v H') : v = .int i ∧ Wd K B ctx (L.set j (oL t' a ys')) H' :=
  ⟨let ⟨_, _, _, _, h, _⟩ := r; h, (W.call1 j hj r).drop 1 rfl⟩
theorem Wd.call1B [Flat β] {i : Bool} {ys ys' : List β} {t' : Bool} (W : Wd K B ctx L H) (j : Nat) (hj : L[j]? = some (oL t' a ys)) (r : Res1 K H a (i, ys') v H') : v = .bl i ∧ Wd K B ctx (L.set j (oL t' a ys')) H' :=
  ⟨let ⟨_, _, _, _, h, _⟩ := r; h, (W.call1 j hj r).drop 1 rfl⟩
end
end PB

namespace PB
open PySem PySem.Spec PyProof.Rows L2
/-! ### the mirror's own words -/
inductive Ctl (ρ β : Type) where
  | go (b : β)
  | ret (r : ρ)
  | brk (b : β)
section
variable {α β γ ρ : Type}
def forO (f : α → β → Option (Ctl ρ β)) : List α → β → Option (Ctl ρ β)
  | [], b => some (.go b)
  | x :: xs, b => match f x b with
    | none => none
    | some (.go b') => forO f xs b'
    | some (.ret r) => some (.ret r)
    | some (.brk b') => some (.go b')
def foldO (f : α → β → Option β) : List α → β → Option β
  | [], b => some b
  | x :: xs, b => (f x b).bind fun b' => foldO f xs b'
def whileO (f : β → Option (Ctl ρ β)) : Nat → β → Option (Ctl ρ β)
  | 0, _ => none
  | n + 1, b => match f b with
    | none => none
    | some (.go b') => whileO f n b'
    | some (.ret r) => some (.ret r)
    | some (.brk b') => some (.go b')
def sizeO (n : Nat) : Option Unit := if n ≤ sizeLine then some () else none
def mapG (f : α → Option γ) : List α → Option (List γ)
  | [] => some []
  | x :: xs => (f x).bind fun y => (mapG f xs).bind fun ys => some (y :: ys)
/-- [e for x in xs] -/
def mapO (f : α → Option γ) (xs : List α) : Option (List γ) := if xs.length ≤ sizeLine then mapG f xs else none
/-- [e for x in xs if c]; none: left out -/
def cmpG (f : α → Option (Option γ)) : List α → Option (List γ)
  | [] => some []
  | x :: xs => (f x).bind fun y => (cmpG f xs).bind fun ys => some (match y with
    | some z => z :: ys
    | none => ys)
def cmpO (f : α → Option (Option γ)) (xs : List α) : Option (List γ) := if xs.length ≤ sizeLine then cmpG f xs else none
/-- the same with a state -/
def mapSG (f : α → β → Option (γ × β)) : List α → β → Option (List γ × β)
  | [], b => some ([], b)
  | x :: xs, b => (f x b).bind fun p => (mapSG f xs p.2).bind fun q => some (p.1 :: q.1, q.2)
def mapSO (f : α → β → Option (γ × β)) (xs : List α) (b : β) : Option (List γ × β) := if xs.length ≤ sizeLine then mapSG f xs b else none
/-- a condition and a state -/
def cmpSG (f : α → β → Option (Option γ × β)) : List α → β → Option (List γ × β)
  | [], b => some ([], b)
  | x :: xs, b => (f x b).bind fun p => (cmpSG f xs p.2).bind fun q => some (p.1.toList ++ q.1, q.2)
def cmpSO (f : α → β → Option (Option γ × β)) (xs : List α) (b : β) : Option (List γ × β) := if xs.length ≤ sizeLine then cmpSG f xs b else none
def lenI (xs : List α) : Int := xs.length
def sliceI (xs : List α) (lo hi : Option Int) : List α := (xs.drop (HT.sIx xs.length 0 lo)).take (HT.sIx xs.length xs.length hi - HT.sIx xs.length 0 lo)
def catO (xs ys : List α) : Option (List α) := if xs.length + ys.length ≤ sizeLine then some (xs ++ ys) else none
def appO (xs : List α) (x : α) : Option (List α) := if xs.length < sizeLine then some (xs ++ [x]) else none
def repO (xs : List α) (k : Int) : Option (List α) := if -(2 ^ 63) ≤ k ∧ k < 2 ^ 63 ∧ xs.length * k.toNat ≤ sizeLine then some (List.replicate k.toNat xs).flatten else none
def setO (xs : List α) (i : Int) (x : α) : Option (List α) := (ixN xs.length i).map fun j => xs.set j x
def rangeF (lo : Int) : Nat → List Int
  | 0 => []
  | n + 1 => lo :: rangeF (lo + 1) n
def rangeB (lo : Int) : Nat → List Int
  | 0 => []
  | n + 1 => lo :: rangeB (lo - 1) n
def ok62 (i : Int) : Prop := -(2 ^ 62) ≤ i ∧ i < 2 ^ 62
instance (i : Int) : Decidable (ok62 i) := by unfold ok62; infer_instance
def range1 (j : Int) : Option (List Int) := if ok62 j then some (rangeF 0 j.toNat) else none
def range2 (i j : Int) : Option (List Int) := if ok62 i ∧ ok62 j then some (rangeF i (j - i).toNat) else none
def rangeD (i j : Int) : Option (List Int) := if ok62 i ∧ ok62 j then some (rangeB i (i - j).toNat) else none
def enumI (i : Int) : List α → List (Int × α)
  | [] => []
  | x :: xs => (i, x) :: enumI (i + 1) xs
def mulO (i j : Int) : Option Int := if i.natAbs.log2 + j.natAbs.log2 < 1000000 then some (i * j) else none
def fdivO (i j : Int) : Option Int := if 0 < j ∧ j.natAbs.log2 < 9000 then some (i / j) else none
def modO (i j : Int) : Option Int := if 0 < j then some (i % j) else none
def powO (i j : Int) : Option Int := if 0 ≤ j ∧ j ≤ 1000000 ∧ i.natAbs < 2 ^ 64 then some (i ^ j.toNat) else none
def maxO (xs : List Int) : Option Int := if xs ≠ [] then some (mxI xs) else none
def minO (xs : List Int) : Option Int := if xs ≠ [] then some (mnI xs) else none
def sortI (xs : List Int) : List Int := xs.mergeSort
def isub (T c : String) : Bool := T == c || (T == "bool" && c == "int")
end
theorem bndE {α β : Type} {e : Option α} {f : α → Option β} {r : β} (h : e.bind f = some r) : ∃ x, e = some x ∧ f x = some r := by
  cases e with
  | none => cases h
  | some x => exact ⟨x, rfl, h⟩
theorem iteE {α : Type} {b : Bool} {A C : Option α} {r : α} (h : (if b = true then A else C) = some r) : (b = true ∧ A = some r) ∨ (b = false ∧ C = some r) := by
  cases b with
  | true => exact .inl ⟨rfl, h⟩
  | false => exact .inr ⟨rfl, h⟩
theorem guardE {α : Type} {p : Prop} [Decidable p] {x r : α} (h : (if p then some x else none) = some r) : p ∧ x = r := by
  by_cases hp : p
  · rw [if_pos hp] at h
    exact ⟨hp, Option.some.inj h⟩
  · rw [if_neg hp] at h
    cases h

/-! ### data, kinds -/
class RpD (α : Type) [Rp α] where
  d : α → PyData
  dp : ∀ {K : PySem.W.Frag} {H : Hp} {x : α} {v : V}, Rp.rep (lkA K H) x v → Dp K H v (d x)
  ty : α → String
  tyx : ∀ {K : PySem.W.Frag} {H : Hp} {x : α} {v : V}, Rp.rep (lkA K H) x v → TyX K H v (.type (ty x))
  tys : ∀ x, ty x ∈ ["NoneType", "bool", "int", "str", "list", "tuple"]
section
variable {α β γ : Type} [Rp α] [Rp β] [Rp γ] [RpD α] [RpD β] [RpD γ]
instance : RpD Int := ⟨.int, fun h => by cases h; exact .int _, fun _ => "int", fun h => by cases h; exact .base (.int _), fun _ => by simp⟩
instance : RpD Bool := ⟨.bool, fun h => by cases h; exact .bl _, fun _ => "bool", fun h => by cases h; exact .base (.bl _), fun _ => by simp⟩
instance : RpD Unit := ⟨fun _ => .none, fun h => by cases h; exact .non, fun _ => "NoneType", fun h => by cases h; exact .base .non, fun _ => by simp⟩
instance : RpD PySem.Str := ⟨.str, fun h => by cases h; exact .str _, fun _ => "str", fun h => by cases h; exact .base (.str _), fun _ => by simp⟩
instance : RpD (Option α) := ⟨fun x => match x with
    | none => .none
    | some y => RpD.d y, fun {K H x v} h => by
      cases x with
      | none => cases (show v = .non from h); exact .non
      | some y => exact RpD.dp (α := α) h, fun x => match x with
    | none => "NoneType"
    | some y => RpD.ty y, fun {K H x v} h => by
      cases x with
      | none => cases (show v = .non from h); exact .base .non
      | some y => exact RpD.tyx (α := α) h, fun x => by
      cases x with
      | none => simp
      | some y => exact RpD.tys y⟩
theorem all2_dp {K : PySem.W.Frag} {H : Hp} : ∀ {xs : List α} {vs : List V}, All2 (Rp.rep (lkA K H)) xs vs → DpAll K H vs (xs.map RpD.d)
  | [], [], _ => .nil
  | _ :: _, _ :: _, h => .cons (RpD.dp h.1) (all2_dp h.2)
  | [], _ :: _, h => h.elim
  | _ :: _, [], h => h.elim
theorem tyx_tup {K : PySem.W.Frag} {H : Hp} {a : Addr} {vs : List V} (h : SqT K H a vs) : TyX K H (.ref a) (.type "tuple") := by
  rcases h with (h | ⟨o, h⟩) | ⟨o, its, n, e, c, _⟩
  · exact .base (.tup h)
  · exact .fTuple h
  · exact .kTuple e c
instance : RpD (List α) := ⟨fun xs => .list (xs.map RpD.d), fun ⟨a, vs, e, h, r⟩ => by cases e; exact .lst (SqL.of h) (all2_dp r), fun _ => "list", fun ⟨a, vs, e, h, r⟩ => by cases e; exact .base (.lst h), fun _ => by simp⟩
instance : RpD (α × β) := ⟨fun x => .tuple [RpD.d x.1, RpD.d x.2], fun ⟨a, u, w, e, h, r1, r2⟩ => by cases e; exact .tup h (.cons (RpD.dp r1) (.cons (RpD.dp r2) .nil)), fun _ => "tuple", fun ⟨a, u, w, e, h, r1, r2⟩ => by cases e; exact tyx_tup h, fun _ => by simp⟩
instance : RpD (T3 α β γ) := ⟨fun x => .tuple [RpD.d x.a, RpD.d x.b, RpD.d x.c], fun ⟨a, u, w, z, e, h, r1, r2, r3⟩ => by cases e; exact .tup h (.cons (RpD.dp r1) (.cons (RpD.dp r2) (.cons (RpD.dp r3) .nil))), fun _ => "tuple", fun ⟨a, u, w, z, e, h, r1, r2, r3⟩ => by cases e; exact tyx_tup h, fun _ => by simp⟩
instance : RpD (T1 α) := ⟨fun x => .tuple [RpD.d x.a], fun ⟨a, u, e, h, r1⟩ => by cases e; exact .tup h (.cons (RpD.dp r1) .nil), fun _ => "tuple", fun ⟨a, u, e, h, r1⟩ => by cases e; exact tyx_tup h, fun _ => by simp⟩
end
def eqO {α β : Type} [Rp α] [RpD α] [Rp β] [RpD β] (x : α) (y : β) : Option Bool :=
  if SeqAt.shaped (RpD.d x) = true ∧ SeqAt.shaped (RpD.d y) = true then some (PyData.eqv (RpD.d x) (RpD.d y)) else none
def reprO {α : Type} [Rp α] [RpD α] (x : α) : Option PySem.Str :=
  if (RpD.d x).showable = true ∧ (RpD.d x).hasDict = false ∧ (RpD.d x).depth ≤ 60 ∧ (RpD.d x).shown.length ≤ sizeLine then some (RpD.d x).shown else none
def isiO {α : Type} [Rp α] [RpD α] (x : α) (c : String) : Bool := isub (RpD.ty x) c
theorem kit_isub {T c : String} (hT : T ∈ ["NoneType", "bool", "int", "str", "list", "tuple"]) (hc : c ∈ ["bool", "int", "str", "list", "tuple"]) : kitB T c = some (isub T c) := by
  have key : ∀ T ∈ ["NoneType", "bool", "int", "str", "list", "tuple"], ∀ c ∈ ["bool", "int", "str", "list", "tuple"], kitB T c = some (isub T c) := by decide +kernel
  exact key T hT c hc

/-! ### the steps over a world -/
section
variable {K : PySem.W.Frag} {B H H' : Hp} {ctx : List Fact} {L : List Own} {t t' : Bool} {α β γ : Type} [Rp α] [Rp β] [Rp γ] {x : α} {y : β} {z : γ} {xs ys : List α} {v w u : V} {vs : List V} {a p : Addr} {Q : VK} {i j : Int} {σ : L2.St}
theorem w_len (W : Wd K B ctx L H) (h : Ls K ctx L t xs v) (k : Q (.int (lenI xs)) H) : rLen K [v] H Q := by
  obtain ⟨N, F, W⟩ := W
  obtain ⟨a, vs, rfl, h1, h2⟩ := h B H N F W
  exact i_len h1 (by rw [h2.len]; exact k)
theorem w_lenT2 (W : Wd K B ctx L H) (h : Kn K ctx t (x, y) v) (k : Q (.int 2) H) : rLen K [v] H Q := by
  obtain ⟨N, F, W⟩ := W
  obtain ⟨a, u, w, rfl, h1, _⟩ := h N F W.nF W.facts
  exact i_lenT ((reg_A W.nF W.fH).t _ _ h1) k
theorem atI_2 {vs : List V} {R : α → V → Prop} (h : All2 R xs vs) (e : atI xs i = some x) : ∃ v, atI vs i = some v ∧ R x v := by
  unfold atI at e ⊢
  rw [h.len]
  cases q : ixN xs.length i with
  | none =>
    rw [q] at e
    cases e
  | some j =>
    rw [q] at e
    exact h.get e
theorem w_ix (W : Wd K B ctx L H) (h : Ls K ctx L t xs v) (e : atI xs i = some x) (k : ∀ u, Wd K B (fc t x u :: ctx) L H → Q u H) : rIx K v (.int i) H Q := by
  obtain ⟨N, F, W⟩ := W
  obtain ⟨a, vs, rfl, h1, h2⟩ := h B H N F W
  obtain ⟨u, e2, r⟩ := atI_2 h2 e
  refine i_ixL h1 e2 (k u ⟨N, F, W.bF, W.nF, W.sep, W.fH, fun f hf => ?_, W.at_, W.off, W.nd⟩)
  rcases List.mem_cons.mp hf with rfl | hf
  · exact r
  · exact W.facts f hf
theorem w_ixI {xs : List Int} {x : Int} (W : Wd K B ctx L H) (h : Ls K ctx L t xs v) (e : atI xs i = some x) (k : Q (.int x) H) : rIx K v (.int i) H Q := by
  obtain ⟨N, F, W⟩ := W
  obtain ⟨a, vs, rfl, h1, h2⟩ := h B H N F W
  obtain ⟨u, e2, r⟩ := atI_2 h2 e
  cases (show u = .int x from r)
  exact i_ixL h1 e2 k
theorem w_ixB {xs : List Bool} {x : Bool} (W : Wd K B ctx L H) (h : Ls K ctx L t xs v) (e : atI xs i = some x) (k : Q (.bl x) H) : rIx K v (.int i) H Q := by
  obtain ⟨N, F, W⟩ := W
  obtain ⟨a, vs, rfl, h1, h2⟩ := h B H N F W
  obtain ⟨u, e2, r⟩ := atI_2 h2 e
  cases (show u = .bl x from r)
  exact i_ixL h1 e2 k
theorem Wd.fact (W : WdI K B ctx L H N F) {f : Fact} (h : f.P K N F) : Wd K B (f :: ctx) L H :=
  ⟨N, F, W.bF, W.nF, W.sep, W.fH, fun g hg => by
    rcases List.mem_cons.mp hg with rfl | hg
    · exact h
    · exact W.facts g hg, W.at_, W.off, W.nd⟩
/-- t[0], t[1] of a pair -/
theorem w_fst (W : Wd K B ctx L H) (h : Kn K ctx t (x, y) v) (k : ∀ u, Wd K B (fc t x u :: ctx) L H → Q u H) : rIx K v (.int 0) H Q := by
  obtain ⟨N, F, W⟩ := W
  obtain ⟨a, u, w, rfl, h1, r1, r2⟩ := h N F W.nF W.facts
  exact i_ixT (v := u) ((reg_A W.nF W.fH).t _ _ h1) rfl (k u (Wd.fact W r1))
theorem w_snd (W : Wd K B ctx L H) (h : Kn K ctx t (x, y) v) (k : ∀ u, Wd K B (fc t y u :: ctx) L H → Q u H) : rIx K v (.int 1) H Q := by
  obtain ⟨N, F, W⟩ := W
  obtain ⟨a, u, w, rfl, h1, r1, r2⟩ := h N F W.nF W.facts
  exact i_ixT (v := w) ((reg_A W.nF W.fH).t _ _ h1) rfl (k w (Wd.fact W r2))
theorem w_3a {x : T3 α β γ} (W : Wd K B ctx L H) (h : Kn K ctx t x v) (k : ∀ u, Wd K B (fc t x.a u :: ctx) L H → Q u H) : rIx K v (.int 0) H Q := by
  obtain ⟨N, F, W⟩ := W
  obtain ⟨a, u, w, z, rfl, h1, r1, r2, r3⟩ := h N F W.nF W.facts
  exact i_ixT (v := u) ((reg_A W.nF W.fH).t _ _ h1) rfl (k u (Wd.fact W r1))
theorem w_3b {x : T3 α β γ} (W : Wd K B ctx L H) (h : Kn K ctx t x v) (k : ∀ u, Wd K B (fc t x.b u :: ctx) L H → Q u H) : rIx K v (.int 1) H Q := by
  obtain ⟨N, F, W⟩ := W
  obtain ⟨a, u, w, z, rfl, h1, r1, r2, r3⟩ := h N F W.nF W.facts
  exact i_ixT (v := w) ((reg_A W.nF W.fH).t _ _ h1) rfl (k w (Wd.fact W r2))
theorem w_3c {x : T3 α β γ} (W : Wd K B ctx L H) (h : Kn K ctx t x v) (k : ∀ u, Wd K B (fc t x.c u :: ctx) L H → Q u H) : rIx K v (.int 2) H Q := by
  obtain ⟨N, F, W⟩ := W
  obtain ⟨a, u, w, z, rfl, h1, r1, r2, r3⟩ := h N F W.nF W.facts
  exact i_ixT (v := z) ((reg_A W.nF W.fH).t _ _ h1) rfl (k z (Wd.fact W r3))
/-- a, b = t -/
theorem w_unp2 {g : TGs} {R : L2.St → Hp → Prop} (W : Wd K B ctx L H) (h : Kn K ctx t (x, y) v) (k : ∀ u w, Wd K B (fc t x u :: fc t y w :: ctx) L H → g [u, w] σ H R) : rUnp K 2 g v σ H R := by
  obtain ⟨N, F, W⟩ := W
  obtain ⟨a, u, w, rfl, h1, r1, r2⟩ := h N F W.nF W.facts
  refine ⟨a, _, rfl, (reg_A W.nF W.fH).t _ _ h1, rfl, k u w ?_⟩
  refine ⟨N, F, W.bF, W.nF, W.sep, W.fH, fun f hf => ?_, W.at_, W.off, W.nd⟩
  rcases List.mem_cons.mp hf with rfl | hf
  · exact r1
  · rcases List.mem_cons.mp hf with rfl | hf
    · exact r2
    · exact W.facts f hf
theorem w_unp3 {x : T3 α β γ} {g : TGs} {R : L2.St → Hp → Prop} (W : Wd K B ctx L H) (h : Kn K ctx t x v) (k : ∀ u w z, Wd K B (fc t x.a u :: fc t x.b w :: fc t x.c z :: ctx) L H → g [u, w, z] σ H R) : rUnp K 3 g v σ H R := by
  obtain ⟨N, F, W⟩ := W
  obtain ⟨a, u, w, z, rfl, h1, r1, r2, r3⟩ := h N F W.nF W.facts
  refine ⟨a, _, rfl, (reg_A W.nF W.fH).t _ _ h1, rfl, k u w z ?_⟩
  refine ⟨N, F, W.bF, W.nF, W.sep, W.fH, fun f hf => ?_, W.at_, W.off, W.nd⟩
  simp only [List.mem_cons] at hf
  rcases hf with rfl | rfl | rfl | hf
  · exact r1
  · exact r2
  · exact r3
  · exact W.facts f hf
/-- a, b = l of a list -/
theorem w_unpL {x1 x2 : α} {g : TGs} {R : L2.St → Hp → Prop} (W : Wd K B ctx L H) (h : Ls K ctx L t [x1, x2] v) (k : ∀ u w, Wd K B (fc t x1 u :: fc t x2 w :: ctx) L H → g [u, w] σ H R) : rUnpL K 2 g v σ H R := by
  obtain ⟨N, F, W⟩ := W
  obtain ⟨a, vs, rfl, h1, h2⟩ := h B H N F W
  match vs, h2, h1 with
  | [u, w], h2, h1 =>
    refine ⟨a, _, rfl, h1, rfl, k u w ⟨N, F, W.bF, W.nF, W.sep, W.fH, fun f hf => ?_, W.at_, W.off, W.nd⟩⟩
    rcases List.mem_cons.mp hf with rfl | hf
    · exact h2.1
    · rcases List.mem_cons.mp hf with rfl | hf
      · exact h2.2.1
      · exact W.facts f hf
theorem Wd.pI {i : Int} (W : Wd K B (fc t i v :: ctx) L H) : v = .int i ∧ Wd K B ctx L H := ⟨by
  obtain ⟨N, F, W⟩ := W
  exact W.facts _ List.mem_cons_self, W.drop 1 rfl⟩
theorem Wd.pB {i : Bool} (W : Wd K B (fc t i v :: ctx) L H) : v = .bl i ∧ Wd K B ctx L H := ⟨by
  obtain ⟨N, F, W⟩ := W
  exact W.facts _ List.mem_cons_self, W.drop 1 rfl⟩
theorem Wd.pS {i : PySem.Str} (W : Wd K B (fc t i v :: ctx) L H) : v = .str i ∧ Wd K B ctx L H := ⟨by
  obtain ⟨N, F, W⟩ := W
  exact W.facts _ List.mem_cons_self, W.drop 1 rfl⟩
/-- what a known value must be -/
theorem Wd.isI {i : Int} (W : Wd K B ctx L H) (h : Kn K ctx t (Option.some i) v) : v = .int i := by
  obtain ⟨N, F, W⟩ := W
  exact h N F W.nF W.facts
theorem Wd.isN (W : Wd K B ctx L H) (h : Kn K ctx t (Option.none : Option α) v) : v = .non := by
  obtain ⟨N, F, W⟩ := W
  exact h N F W.nF W.facts
theorem Kn.un (h : Kn K ctx t (Option.some x) v) : Kn K ctx t x v := fun N F s q => h N F s q
theorem cut_2 {vs : List V} {R : α → V → Prop} {lo hi : Option Int} (h : All2 R xs vs) : All2 R (sliceI xs lo hi) (cutV vs lo hi) := by
  unfold sliceI cutV
  rw [h.len]
  exact (h.drop _).take _
theorem w_slice {lo hi : Option Int} (W : Wd K B ctx L H) (h : Ls K ctx L t xs v) (k : ∀ p H', Wd K B ctx (oL t p (sliceI xs lo hi) :: L) H' → Q (.ref p) H') : rSlL K v lo hi H Q := by
  obtain ⟨N, F, W⟩ := W
  obtain ⟨a, vs, rfl, h1, h2⟩ := h B H N F W
  exact ⟨a, vs, rfl, h1, fun p hp => k p _ (Wd.newL W hp (cut_2 h2))⟩
def rRevL (K : PySem.W.Frag) (v : V) (H : Hp) (Q : VK) : Prop := ∃ a xs, v = .ref a ∧ SqL K H a xs ∧ ∀ p, H p = none → Q (.ref p) (upd H p (.lst xs.reverse))
theorem i_revL {te : TE} (h : te σ H fun x H1 => rRevL K x H1 Q) : tRevL K te σ H Q := h
theorem w_rev (W : Wd K B ctx L H) (h : Ls K ctx L t xs v) (k : ∀ p H', Wd K B ctx (oL t p xs.reverse :: L) H' → Q (.ref p) H') : rRevL K v H Q := by
  obtain ⟨N, F, W⟩ := W
  obtain ⟨a, vs, rfl, h1, h2⟩ := h B H N F W
  exact ⟨a, vs, rfl, h1, fun p hp => k p _ (Wd.newL W hp h2.rev)⟩
theorem w_list (W : Wd K B ctx L H) (h : Ls K ctx L t xs v) (k : ∀ p H', Wd K B ctx (oL t p xs :: L) H' → Q (.ref p) H') : rListOf K [v] H Q := by
  obtain ⟨N, F, W⟩ := W
  obtain ⟨a, vs, rfl, h1, h2⟩ := h B H N F W
  exact ⟨a, vs, rfl, .inl h1, fun p hp => k p _ (Wd.newL W hp h2)⟩
theorem w_cat {zs : List α} (W : Wd K B ctx L H) (h : Lx K ctx L t xs v) (h' : Lx K ctx L t ys w) (e : catO xs ys = some zs) (k : ∀ p H', Wd K B ctx (oL t p zs :: L) H' → Q (.ref p) H') : rAddA v w H Q := by
  obtain ⟨N, F, W⟩ := W
  obtain ⟨a, vs, rfl, h1, h2⟩ := h B H N F W
  obtain ⟨b, ws, rfl, h3, h4⟩ := h' B H N F W
  obtain ⟨hz, rfl⟩ := guardE e
  exact .inr ⟨a, b, vs, ws, rfl, rfl, h1, h3, by rw [h2.len, h4.len]; exact hz, fun p hp => k p _ (Wd.newL W hp (h2.app h4))⟩
theorem w_rep {zs : List α} {n : Int} (W : Wd K B ctx L H) (h : Lx K ctx L t xs v) (e : repO xs n = some zs) (k : ∀ p H', Wd K B ctx (oL t p zs :: L) H' → Q (.ref p) H') : rMulA v (.int n) H Q := by
  obtain ⟨N, F, W⟩ := W
  obtain ⟨a, vs, rfl, h1, h2⟩ := h B H N F W
  obtain ⟨⟨hz1, hz2, hz3⟩, rfl⟩ := guardE e
  exact .inr ⟨a, n, vs, rfl, rfl, h1, hz1, hz2, by rw [h2.len]; exact hz3, fun p hp => k p _ (Wd.newL W hp (h2.rep _))⟩
theorem w_lst (W : Wd K B ctx L H) (h : KnL K ctx t xs vs) (hz : vs.length ≤ sizeLine) (k : ∀ p H', Wd K B ctx (oL t p xs :: L) H' → Q (.ref p) H') : rLst vs H Q := by
  obtain ⟨N, F, W⟩ := W
  exact ⟨hz, fun p hp => k p _ (Wd.newL W hp (h N F W.nF W.facts))⟩
theorem w_tup2 (W : Wd K B ctx L H) (h : Kn K ctx t x v) (h' : Kn K ctx t y w) (k : ∀ p H', Wd K B (fc t (x, y) (.ref p) :: ctx) L H' → Q (.ref p) H') : rTup [v, w] H Q := by
  obtain ⟨N, F, W⟩ := W
  exact ⟨(by show (2 : Nat) ≤ sizeLine; decide), fun p hp => k p _ (Wd.newT W hp t fun N' F' s s' q => ⟨p, v, w, rfl, q, Rp.mono (reg_mono s s') (h N F W.nF W.facts), Rp.mono (reg_mono s s') (h' N F W.nF W.facts)⟩)⟩
theorem w_tup3 (W : Wd K B ctx L H) (h : Kn K ctx t x v) (h' : Kn K ctx t y w) (h'' : Kn K ctx t z u) (k : ∀ p H', Wd K B (fc t (T3.mk x y z) (.ref p) :: ctx) L H' → Q (.ref p) H') : rTup [v, w, u] H Q := by
  obtain ⟨N, F, W⟩ := W
  exact ⟨(by show (3 : Nat) ≤ sizeLine; decide), fun p hp => k p _ (Wd.newT W hp t fun N' F' s s' q => ⟨p, v, w, u, rfl, q, Rp.mono (reg_mono s s') (h N F W.nF W.facts), Rp.mono (reg_mono s s') (h' N F W.nF W.facts), Rp.mono (reg_mono s s') (h'' N F W.nF W.facts)⟩)⟩
theorem w_app {zs : List α} (W : Wd K B ctx L H) (j : Nat) (hj : L[j]? = some (oL t a xs)) (h : Kn K ctx t x v) (e : appO xs x = some zs) (k : ∀ H', Wd K B ctx (L.set j (oL t a zs)) H' → Q .non H') : rAppend (.ref a) [v] H Q := by
  obtain ⟨N, F, W⟩ := W
  obtain ⟨o, h1, vs, rfl, h2⟩ := W.at_ _ (List.mem_of_getElem? hj)
  obtain ⟨hz, rfl⟩ := guardE e
  exact ⟨a, vs, v, rfl, rfl, h1, by rw [h2.len]; exact hz, k _ (Wd.put (o' := oL t a (xs ++ [x])) W j hj rfl _ ⟨_, rfl, h2.app (.one (h N F W.nF W.facts))⟩)⟩
theorem w_ext {zs : List α} (W : Wd K B ctx L H) (j : Nat) (hj : L[j]? = some (oL t a xs)) (h : Lx K ctx L t ys v) (e : catO xs ys = some zs) (k : ∀ H', Wd K B ctx (L.set j (oL t a zs)) H' → Q .non H') : rExtend (.ref a) [v] H Q := by
  obtain ⟨N, F, W⟩ := W
  obtain ⟨o, h1, vs, rfl, h2⟩ := W.at_ _ (List.mem_of_getElem? hj)
  obtain ⟨b, ws, rfl, h3, h4⟩ := h B H N F W
  obtain ⟨hz, rfl⟩ := guardE e
  exact ⟨a, b, vs, ws, rfl, rfl, h1, h3, by rw [h2.len, h4.len]; exact hz, k _ (Wd.put (o' := oL t a (xs ++ ys)) W j hj rfl _ ⟨_, rfl, h2.app h4⟩)⟩
theorem w_set {zs : List α} {R : Hp → Prop} (W : Wd K B ctx L H) (j : Nat) (hj : L[j]? = some (oL t a xs)) (h : Kn K ctx t x v) (e : setO xs i x = some zs) (k : ∀ H', Wd K B ctx (L.set j (oL t a zs)) H' → R H') : rSetL (.ref a) (.int i) v H R := by
  obtain ⟨N, F, W⟩ := W
  obtain ⟨o, h1, vs, rfl, h2⟩ := W.at_ _ (List.mem_of_getElem? hj)
  unfold setO at e
  cases q : ixN xs.length i with
  | none => rw [q] at e; cases e
  | some m =>
    rw [q] at e
    cases e
    exact ⟨a, vs, i, m, rfl, rfl, h1, by rw [h2.len]; exact q, k _ (Wd.put (o' := oL t a (xs.set m x)) W j hj rfl _ ⟨_, rfl, h2.set m (h N F W.nF W.facts)⟩)⟩
theorem w_mt {r : V → List V → Hp → VK → Prop} {tx : TA} (W : Wd K B ctx L H) (h : Ls K ctx L t xs v) (k : tx σ H fun zs H2 => r v zs H2 Q) : rMt K "list" r tx σ v H Q := by
  obtain ⟨N, F, W⟩ := W
  obtain ⟨a, vs, rfl, h1, h2⟩ := h B H N F W
  exact i_mtL h1 k
theorem w_sum {xs : List Int} (W : Wd K B ctx L H) (h : Ls K ctx L t xs v) (k : Q (.int xs.sum) H) : rSum K [v] H Q := by
  obtain ⟨N, F, W⟩ := W
  obtain ⟨a, vs, rfl, h1, h2⟩ := h B H N F W
  rw [all2_int h2] at h1
  exact i_sum h1 k
theorem w_max {xs : List Int} {m : Int} (W : Wd K B ctx L H) (h : Ls K ctx L t xs v) (e : maxO xs = some m) (k : Q (.int m) H) : rMax K [v] H Q := by
  obtain ⟨N, F, W⟩ := W
  obtain ⟨a, vs, rfl, h1, h2⟩ := h B H N F W
  rw [all2_int h2] at h1
  obtain ⟨hn, rfl⟩ := guardE e
  exact i_maxF h1 (List.length_pos_iff.mpr hn) k
theorem w_min {xs : List Int} {m : Int} (W : Wd K B ctx L H) (h : Ls K ctx L t xs v) (e : minO xs = some m) (k : Q (.int m) H) : rMin K [v] H Q := by
  obtain ⟨N, F, W⟩ := W
  obtain ⟨a, vs, rfl, h1, h2⟩ := h B H N F W
  rw [all2_int h2] at h1
  obtain ⟨hn, rfl⟩ := guardE e
  exact i_minF h1 (List.length_pos_iff.mpr hn) k
theorem sorted_uniq : ∀ {xs ys : List Int}, xs.Perm ys → xs.Pairwise (· ≤ ·) → ys.Pairwise (· ≤ ·) → xs = ys
  | [], ys, p, _, _ => by rw [List.Perm.nil_eq p]
  | x :: xs, ys, p, h1, h2 => by
    cases ys with
    | nil => exact absurd p.length_eq (by simp)
    | cons y ys =>
      obtain ⟨a1, a2⟩ := List.pairwise_cons.mp h1
      obtain ⟨b1, b2⟩ := List.pairwise_cons.mp h2
      have e : x = y := by
        have hx := p.mem_iff.mp (List.mem_cons_self (a := x))
        have hy := p.mem_iff.mpr (List.mem_cons_self (a := y))
        rcases List.mem_cons.mp hx with h | h
        · exact h
        · rcases List.mem_cons.mp hy with h' | h'
          · exact h'.symm
          · have := a1 _ h'
            have := b1 _ h
            omega
      subst e
      rw [sorted_uniq (List.Perm.cons_inv p) a2 b2]
theorem sortI_perm (xs : List Int) : (sortI xs).Perm xs := List.mergeSort_perm _ _
theorem sortI_pw (xs : List Int) : (sortI xs).Pairwise (· ≤ ·) := by
  have h := List.pairwise_mergeSort (le := fun (a b : Int) => decide (a ≤ b)) (fun a b c h1 h2 => by simp at *; omega) (fun a b => by simp; omega) xs
  exact h.imp fun h => by simpa using h
theorem w_sorted {xs : List Int} (W : Wd K B ctx L H) (h : Ls K ctx L t xs v) (k : ∀ p H', Wd K B ctx (oL true p (sortI xs) :: L) H' → Q (.ref p) H') : rSortedI K [v] H Q := by
  obtain ⟨N, F, W⟩ := W
  obtain ⟨a, vs, rfl, h1, h2⟩ := h B H N F W
  rw [all2_int h2] at h1
  refine ⟨a, xs, rfl, h1, fun ms p hp hs hn => ?_⟩
  have e : ms = sortI xs := sorted_uniq (hp.trans (sortI_perm xs).symm) hs (sortI_pw xs)
  rw [e]
  exact k p _ (Wd.newL W hn (all2_ofInt _))
section
variable [RpD α] [RpD β]
theorem w_eq {b : Bool} (W : Wd K B ctx L H) (h : Ar K ctx L x v) (h' : Ar K ctx L y w) (e : eqO x y = some b) (k : Q (.bl b) H) : rEqA K v w H Q := by
  obtain ⟨N, F, W⟩ := W
  obtain ⟨⟨s1, s2⟩, rfl⟩ := guardE e
  exact i_eqD (RpD.dp (h B H N F W)) (RpD.dp (h' B H N F W)) s1 s2 k
theorem w_ne {b : Bool} (W : Wd K B ctx L H) (h : Ar K ctx L x v) (h' : Ar K ctx L y w) (e : eqO x y = some b) (k : Q (.bl (!b)) H) : rNeA K v w H Q := by
  obtain ⟨N, F, W⟩ := W
  obtain ⟨⟨s1, s2⟩, rfl⟩ := guardE e
  exact i_neD (RpD.dp (h B H N F W)) (RpD.dp (h' B H N F W)) s1 s2 k
theorem w_repr {s : PySem.Str} (W : Wd K B ctx L H) (h : Ar K ctx L x v) (e : reprO x = some s) (k : Q (.str s) H) : rRepr K [v] H Q := by
  obtain ⟨N, F, W⟩ := W
  obtain ⟨⟨s1, s2, s3, s4⟩, rfl⟩ := guardE e
  exact i_repr (RpD.dp (h B H N F W)) s1 s2 s3 s4 k
theorem w_isi {c : String} (W : Wd K B ctx L H) (h : Ar K ctx L x v) (hc : c ∈ ["bool", "int", "str", "list", "tuple"]) (k : Q (.bl (isiO x c)) H) : rIsX K [v, .ty c] H Q := by
  obtain ⟨N, F, W⟩ := W
  exact .inl (i_isi (RpD.tyx (h B H N F W)) (kit_isub (RpD.tys x) hc) k)
end
theorem opt_non {x : Option α} (W : Wd K B ctx L H) (h : Kn K ctx t x v) (hn : ∀ (y : α) S u, Rp.rep S y u → u ≠ .non) : decide (v = .non) = x.isNone := by
  obtain ⟨N, F, W⟩ := W
  have r := h N F W.nF W.facts
  cases x with
  | none =>
    cases (show v = .non from r)
    rfl
  | some y => exact decide_eq_false (hn y _ v r)
/-- values that are never None -/
class NN (α : Type) [Rp α] : Prop where
  h : ∀ (y : α) S u, Rp.rep S y u → u ≠ .non
instance : NN Int := ⟨fun _ _ _ h e => by cases h; cases e⟩
instance : NN Bool := ⟨fun _ _ _ h e => by cases h; cases e⟩
instance : NN PySem.Str := ⟨fun _ _ _ h e => by cases h; cases e⟩
instance : NN (List α) := ⟨fun _ _ _ ⟨_, _, h, _⟩ e => by rw [h] at e; cases e⟩
instance : NN (α × β) := ⟨fun _ _ _ ⟨_, _, _, h, _⟩ e => by rw [h] at e; cases e⟩
instance : NN (T3 α β γ) := ⟨fun _ _ _ ⟨_, _, _, _, h, _⟩ e => by rw [h] at e; cases e⟩
theorem w_isN [NN α] {x : Option α} (W : Wd K B ctx L H) (h : Kn K ctx t x v) (k : Q (.bl x.isNone) H) : rIsN v .non H Q := ⟨rfl, by
  rw [opt_non W h NN.h]
  exact k⟩
theorem w_notN [NN α] {x : Option α} (W : Wd K B ctx L H) (h : Kn K ctx t x v) (k : Q (.bl (!x.isNone)) H) : rNotN v .non H Q := ⟨rfl, by
  rw [opt_non W h NN.h]
  exact k⟩
/-- and, or, if-else: the right side once for all wishes -/
theorem w_and {b : Bool} {tt : TT} {R : Bool → Hp → Prop} (Mid : Bool → Hp → Prop) (h1 : b = true → ∀ R' : Bool → Hp → Prop, (∀ c H', Mid c H' → R' c H') → tt σ H R') (h2 : b = false → Mid false H) (h3 : ∀ c H', Mid c H' → R c H') : if b = true then tt σ H R else R false H := by
  cases b with
  | true => exact i_T (h1 rfl R h3)
  | false => exact i_F (h3 _ _ (h2 rfl))
theorem w_or {b : Bool} {tt : TT} {R : Bool → Hp → Prop} (Mid : Bool → Hp → Prop) (h1 : b = false → ∀ R' : Bool → Hp → Prop, (∀ c H', Mid c H' → R' c H') → tt σ H R') (h2 : b = true → Mid true H) (h3 : ∀ c H', Mid c H' → R c H') : if b = true then R true H else tt σ H R := by
  cases b with
  | true => exact i_T (h3 _ _ (h2 rfl))
  | false => exact i_F (h1 rfl R h3)
theorem w_andV {b : Bool} {te : TE} (Mid : V → Hp → Prop) (h1 : b = true → ∀ Q' : VK, (∀ c H', Mid c H' → Q' c H') → te σ H Q') (h2 : b = false → Mid (.bl false) H) (h3 : ∀ c H', Mid c H' → Q c H') : if b = true then te σ H Q else Q (.bl false) H := by
  cases b with
  | true => exact i_T (h1 rfl Q h3)
  | false => exact i_F (h3 _ _ (h2 rfl))
theorem w_orV {b : Bool} {te : TE} (Mid : V → Hp → Prop) (h1 : b = false → ∀ Q' : VK, (∀ c H', Mid c H' → Q' c H') → te σ H Q') (h2 : b = true → Mid (.bl true) H) (h3 : ∀ c H', Mid c H' → Q c H') : if b = true then Q (.bl true) H else te σ H Q := by
  cases b with
  | true => exact i_T (h3 _ _ (h2 rfl))
  | false => exact i_F (h1 rfl Q h3)
theorem w_ite {b : Bool} {ta tb : TE} (Mid : V → Hp → Prop) (h1 : b = true → ∀ Q' : VK, (∀ c H', Mid c H' → Q' c H') → ta σ H Q') (h2 : b = false → ∀ Q' : VK, (∀ c H', Mid c H' → Q' c H') → tb σ H Q') (h3 : ∀ c H', Mid c H' → Q c H') : if b = true then ta σ H Q else tb σ H Q := by
  cases b with
  | true => exact i_T (h1 rfl Q h3)
  | false => exact i_F (h2 rfl Q h3)
end
end PB

namespace PB
open PySem PySem.Spec PyProof.Rows L2
/-! ### loops by their mirrors -/
section
variable {K : PySem.W.Frag} {B : Hp} {ρ β ε α γ : Type} [Rp α] [Rp γ]
/-- the state of a loop: slots, facts, own lists by the mirror's state b and what is chosen, e -/
structure Shp (β ε : Type) where
  sg : β → ε → L2.St
  cx : β → ε → List Fact
  ow : β → ε → List Own
def NX (K : PySem.W.Frag) (B : Hp) (S : Shp β ε) (o : Ctl ρ β) (σ : L2.St) (H : Hp) : Prop := ∃ b e, o = .go b ∧ σ = S.sg b e ∧ Wd K B (S.cx b e) (S.ow b e) H
def NF (K : PySem.W.Frag) (B : Hp) (S : Shp β ε) (b : β) (σ : L2.St) (H : Hp) : Prop := ∃ e, σ = S.sg b e ∧ Wd K B (S.cx b e) (S.ow b e) H
/-- what is walked gives the items of xs -/
def Gives (K : PySem.W.Frag) (B : Hp) (S : Shp β ε) (J : It) (t : Bool) (xs : List α) : Prop := ∀ (i : Nat) b e H, Wd K B (S.cx b e) (S.ow b e) H →
  (xs.length ≤ i → J.stop i H) ∧ ∀ x, xs[i]? = some x → J.go i H ∧ ∀ v H', J.yld i H v H' → Wd K B (fc t x v :: S.cx b e) (S.ow b e) H'
section
variable {S : Shp β ε} {H : Hp} {σ : L2.St} {nx bk ct : L2.St → Hp → Prop} {rt : VK} {g : TG} {tb : TS} {J : It} {t : Bool} {xs : List α} {b0 : β} {e0 : ε}
theorem w_for {f : α → β → Option (Ctl ρ β)} {o : Ctl ρ β} (S : Shp β ε) (e0 : ε) (hm : forO f xs b0 = some o) (hσ : σ = S.sg b0 e0) (W : Wd K B (S.cx b0 e0) (S.ow b0 e0) H) (hJ : Gives K B S J t xs)
    (step : ∀ x v b e H' o', Wd K B (fc t x v :: S.cx b e) (S.ow b e) H' → f x b = some o' → (∀ r, o' = .ret r → o = .ret r) → g v (S.sg b e) H' fun σ2 H2 => tb ⟨NX K B S o', rt, nx, NX K B S o'⟩ σ2 H2)
    (done : ∀ b e H, o = .go b → Wd K B (S.cx b e) (S.ow b e) H → nx (S.sg b e) H) : rFor J g tb ⟨nx, rt, bk, ct⟩ σ H := by
  refine ⟨fun i m σ H => m = xs.length - i ∧ ∃ b e, forO f (xs.drop i) b = some o ∧ σ = S.sg b e ∧ Wd K B (S.cx b e) (S.ow b e) H, ⟨_, rfl, b0, e0, hm, hσ, W⟩, ?_⟩
  rintro i m σ H ⟨rfl, b, e, hm, rfl, W⟩
  obtain ⟨h1, h2⟩ := hJ i b e H W
  by_cases hi : i < xs.length
  · have hx : xs[i]? = some xs[i] := List.getElem?_eq_getElem hi
    obtain ⟨h3, h4⟩ := h2 _ hx
    rw [List.drop_eq_getElem_cons hi, forO] at hm
    refine .inr ⟨h3, ?_⟩
    cases q : f xs[i] b with
    | none => rw [q] at hm; cases hm
    | some o' =>
      rw [q] at hm
      refine ⟨NX K B S o', ?_, fun v H' y => step _ v b e H' o' (h4 v H' y) q (fun r er => ?_)⟩
      · rintro σ' H'' ⟨b', e', rfl, rfl, W'⟩
        exact ⟨xs.length - (i + 1), by omega, rfl, b', e', hm, rfl, W'⟩
      · subst er
        exact (Option.some.inj hm).symm
  · rw [List.drop_eq_nil_of_le (by omega), forO] at hm
    exact .inl ⟨h1 (by omega), done b e H (Option.some.inj hm).symm W⟩
theorem w_fold {f : α → β → Option β} {b1 : β} (S : Shp β ε) (e0 : ε) (hm : foldO f xs b0 = some b1) (hσ : σ = S.sg b0 e0) (W : Wd K B (S.cx b0 e0) (S.ow b0 e0) H) (hJ : Gives K B S J t xs)
    (step : ∀ x v b e H' b', Wd K B (fc t x v :: S.cx b e) (S.ow b e) H' → f x b = some b' → g v (S.sg b e) H' fun σ2 H2 => tb ⟨NF K B S b', rt, nx, NF K B S b'⟩ σ2 H2)
    (done : ∀ e H, Wd K B (S.cx b1 e) (S.ow b1 e) H → nx (S.sg b1 e) H) : rFor J g tb ⟨nx, rt, bk, ct⟩ σ H := by
  refine ⟨fun i m σ H => m = xs.length - i ∧ ∃ b e, foldO f (xs.drop i) b = some b1 ∧ σ = S.sg b e ∧ Wd K B (S.cx b e) (S.ow b e) H, ⟨_, rfl, b0, e0, hm, hσ, W⟩, ?_⟩
  rintro i m σ H ⟨rfl, b, e, hm, rfl, W⟩
  obtain ⟨h1, h2⟩ := hJ i b e H W
  by_cases hi : i < xs.length
  · have hx : xs[i]? = some xs[i] := List.getElem?_eq_getElem hi
    obtain ⟨h3, h4⟩ := h2 _ hx
    rw [List.drop_eq_getElem_cons hi, foldO] at hm
    obtain ⟨b', q, hm⟩ := bndE hm
    refine .inr ⟨h3, NF K B S b', ?_, fun v H' y => step _ v b e H' b' (h4 v H' y) q⟩
    rintro σ' H'' ⟨e', rfl, W'⟩
    exact ⟨xs.length - (i + 1), by omega, rfl, b', e', hm, rfl, W'⟩
  · rw [List.drop_eq_nil_of_le (by omega), foldO] at hm
    cases hm
    exact .inl ⟨h1 (by omega), done e H W⟩
/-- while: .brk ends it -/
def NW2 (K : PySem.W.Frag) (B : Hp) (S : Shp β ε) (o : Ctl ρ β) (σ : L2.St) (H : Hp) : Prop := ∃ b e, o = .brk b ∧ σ = S.sg b e ∧ Wd K B (S.cx b e) (S.ow b e) H
theorem w_while {c : TT} {f : β → Option (Ctl ρ β)} {o : Ctl ρ β} {n : Nat} (S : Shp β ε) (e0 : ε) (hm : whileO f n b0 = some o) (hσ : σ = S.sg b0 e0) (W : Wd K B (S.cx b0 e0) (S.ow b0 e0) H)
    (step : ∀ b e H' o', Wd K B (S.cx b e) (S.ow b e) H' → f b = some o' → (∀ r, o' = .ret r → o = .ret r) → (∀ b' e' H'', o' = .brk b' → Wd K B (S.cx b' e') (S.ow b' e') H'' → nx (S.sg b' e') H'') → ∀ P : L2.St → Hp → Prop, (∀ σ' H'', NX K B S o' σ' H'' → P σ' H'') →
      c (S.sg b e) H' fun k H1 => if k = true then (∃ N : L2.St → Hp → Prop, (∀ σ' H'', N σ' H'' → P σ' H'') ∧ tb ⟨N, rt, nx, N⟩ (S.sg b e) H1) else nx (S.sg b e) H1)
    (done : ∀ b e H, o = .go b → Wd K B (S.cx b e) (S.ow b e) H → nx (S.sg b e) H) : tWhile c tb ⟨nx, rt, bk, ct⟩ σ H := by
  refine ⟨fun m σ H => ∃ b e, whileO f m b = some o ∧ σ = S.sg b e ∧ Wd K B (S.cx b e) (S.ow b e) H, ⟨n, b0, e0, hm, hσ, W⟩, ?_⟩
  rintro m σ H ⟨b, e, hm, rfl, W⟩
  cases m with
  | zero => cases hm
  | succ m =>
    rw [whileO] at hm
    cases q : f b with
    | none => rw [q] at hm; cases hm
    | some o' =>
      rw [q] at hm
      refine step b e H o' W q (fun r er => ?_) (fun b' e' H'' eb W' => ?_) _ ?_
      · subst er
        exact (Option.some.inj hm).symm
      · subst eb
        exact done b' e' H'' (Option.some.inj hm).symm W'
      · rintro σ' H'' ⟨b', e', rfl, rfl, W'⟩
        exact ⟨m, Nat.lt_succ_self m, b', e', hm, rfl, W'⟩
end
/-! ### what a for walks -/
section
variable {S : Shp β ε} {t : Bool} {xs : List α} {a : Addr}
theorem gv_list (h : ∀ b e, Ls K (S.cx b e) (S.ow b e) t xs (.ref a)) : Gives K B S (Itl K a) t xs := fun i b e H W => by
  obtain ⟨N, F, W⟩ := W
  obtain ⟨a', vs, ea, h1, h2⟩ := h b e B H N F W
  cases ea
  refine ⟨fun hi => ⟨vs, h1, by rw [h2.len]; exact hi⟩, fun x hx => ?_⟩
  obtain ⟨v, hv, r⟩ := h2.get hx
  refine ⟨⟨vs, v, h1, hv⟩, fun v' H' y => ?_⟩
  obtain ⟨rfl, y⟩ := y
  have := y vs h1
  rw [hv] at this
  cases this
  exact Wd.fact W r
theorem gv_enum (h : ∀ b e, Ls K (S.cx b e) (S.ow b e) t xs (.ref a)) : Gives K B S (Ite K a) t (enumI 0 xs) := fun i b e H W => by
  have en : ∀ (k : Int) (xs : List α) (i : Nat) (p : Int × α), (enumI k xs)[i]? = some p → p.1 = k + i ∧ xs[i]? = some p.2 := by
    intro k xs
    induction xs generalizing k with
    | nil => intro i p h; simp [enumI] at h
    | cons x xs ih =>
      intro i p h
      cases i with
      | zero => simp [enumI] at h; subst h; exact ⟨by simp, rfl⟩
      | succ i =>
        obtain ⟨h1, h2⟩ := ih (k + 1) i p (by simpa [enumI] using h)
        exact ⟨by rw [h1]; omega, by simpa using h2⟩
  have el : ∀ (k : Int) (xs : List α), (enumI k xs).length = xs.length := by
    intro k xs
    induction xs generalizing k with
    | nil => rfl
    | cons x xs ih => exact congrArg (· + 1) (ih (k + 1))
  obtain ⟨N, F, W⟩ := W
  obtain ⟨a', vs, ea, h1, h2⟩ := h b e B H N F W
  cases ea
  refine ⟨fun hi => ⟨vs, h1, by rw [h2.len, ← el 0]; exact hi⟩, fun x hx => ?_⟩
  obtain ⟨e1, e2⟩ := en 0 xs i x hx
  obtain ⟨v, hv, r⟩ := h2.get e2
  refine ⟨⟨vs, v, h1, hv⟩, fun v' H' y => ?_⟩
  obtain ⟨p, w, rfl, hp, rfl, y⟩ := y
  have := y vs h1
  rw [hv] at this
  cases this
  refine Wd.newT W hp t fun N' F' s s' q => ⟨p, _, v, rfl, q, ?_, Rp.mono (reg_mono s s') r⟩
  show V.int (i : Nat) = .int x.1
  rw [e1]
  simp
theorem gv_zip {δ : Type} [Rp δ] {ys : List δ} {c : Addr} (h : ∀ b e, Ls K (S.cx b e) (S.ow b e) t xs (.ref a)) (h' : ∀ b e, Ls K (S.cx b e) (S.ow b e) t ys (.ref c)) : Gives K B S (Itz K a c) t (xs.zip ys) := fun i b e H W => by
  obtain ⟨N, F, W⟩ := W
  obtain ⟨a', vs, ea, h1, h2⟩ := h b e B H N F W
  cases ea
  obtain ⟨a', ws, ea, h3, h4⟩ := h' b e B H N F W
  cases ea
  refine ⟨fun hi => ⟨vs, ws, h1, h3, ?_⟩, fun x hx => ?_⟩
  · rw [List.length_zip] at hi
    rw [h2.len, h4.len]
    omega
  · obtain ⟨e1, e2⟩ := List.getElem?_zip_eq_some.mp hx
    obtain ⟨v, hv, r⟩ := h2.get e1
    obtain ⟨w, hw, r'⟩ := h4.get e2
    refine ⟨⟨vs, ws, v, w, h1, h3, hv, hw⟩, fun v' H' y => ?_⟩
    obtain ⟨p, u, z, rfl, hp, rfl, y1, y2⟩ := y
    have t1 := y1 vs h1
    have t2 := y2 ws h3
    rw [hv] at t1
    rw [hw] at t2
    cases t1
    cases t2
    exact Wd.newT W hp t fun N' F' s s' q => ⟨p, v, w, rfl, q, Rp.mono (reg_mono s s') r, Rp.mono (reg_mono s s') r'⟩
theorem rangeF_get : ∀ (n : Nat) (lo : Int) (i : Nat) (x : Int), (rangeF lo n)[i]? = some x → i < n ∧ x = lo + i
  | 0, _, _, _, h => by simp [rangeF] at h
  | n + 1, lo, 0, x, h => by simp [rangeF] at h; subst h; exact ⟨by omega, by simp⟩
  | n + 1, lo, i + 1, x, h => by
    obtain ⟨h1, h2⟩ := rangeF_get n (lo + 1) i x (by simpa [rangeF] using h)
    exact ⟨by omega, by rw [h2]; omega⟩
theorem rangeF_len : ∀ (n : Nat) (lo : Int), (rangeF lo n).length = n
  | 0, _ => rfl
  | n + 1, lo => congrArg (· + 1) (rangeF_len n (lo + 1))
theorem rangeB_get : ∀ (n : Nat) (lo : Int) (i : Nat) (x : Int), (rangeB lo n)[i]? = some x → i < n ∧ x = lo - i
  | 0, _, _, _, h => by simp [rangeB] at h
  | n + 1, lo, 0, x, h => by simp [rangeB] at h; subst h; exact ⟨by omega, by simp⟩
  | n + 1, lo, i + 1, x, h => by
    obtain ⟨h1, h2⟩ := rangeB_get n (lo - 1) i x (by simpa [rangeB] using h)
    exact ⟨by omega, by rw [h2]; omega⟩
theorem rangeB_len : ∀ (n : Nat) (lo : Int), (rangeB lo n).length = n
  | 0, _ => rfl
  | n + 1, lo => congrArg (· + 1) (rangeB_len n (lo - 1))
theorem gv_rng {S : Shp β ε} {lo : Int} {n : Nat} : Gives K B S (Itr lo n) true (rangeF lo n) := fun i b e H W => by
  refine ⟨fun hi => by rw [rangeF_len] at hi; exact hi, fun x hx => ?_⟩
  obtain ⟨h1, h2⟩ := rangeF_get n lo i x hx
  refine ⟨h1, fun v H' y => ?_⟩
  obtain ⟨rfl, rfl⟩ := y
  rw [h2]
  exact W.know Kn.int
theorem gv_rgb {S : Shp β ε} {lo : Int} {n : Nat} : Gives K B S (Itc lo (-1) n) true (rangeB lo n) := fun i b e H W => by
  refine ⟨fun hi => by rw [rangeB_len] at hi; exact hi, fun x hx => ?_⟩
  obtain ⟨h1, h2⟩ := rangeB_get n lo i x hx
  refine ⟨h1, fun v H' y => ?_⟩
  obtain ⟨rfl, rfl⟩ := y
  rw [h2, show lo + (i : Int) * -1 = lo - i by omega]
  exact W.know Kn.int
/-- a tuple of like things that is walked: laid in the frame as a raw fact -/
def fT (t : Bool) {α : Type} [Rp α] (xs : List α) (v : V) : Fact := ⟨fun K N F => ∃ a vs, v = .ref a ∧ (reg t K N F).t a vs ∧ All2 (Rp.rep (reg t K N F)) xs vs,
  fun h1 h2 ⟨a, vs, e, h, r⟩ => ⟨a, vs, e, (reg_mono h1 h2).t _ _ h, r.mono fun _ _ q => Rp.mono (reg_mono h1 h2) q⟩⟩
theorem w_tupL {ctx : List Fact} {L : List Own} {H : Hp} {Q : VK} {vs : List V} (W : Wd K B ctx L H) (h : KnL K ctx t xs vs) (hz : vs.length ≤ sizeLine) (k : ∀ p H', Wd K B (fT t xs (.ref p) :: ctx) L H' → Q (.ref p) H') : rTup vs H Q := by
  obtain ⟨N, F, W⟩ := W
  exact ⟨hz, fun p hp => k p _ (Wd.newT W hp t fun N' F' s s' q => ⟨p, vs, rfl, q, (h N F W.nF W.facts).mono fun _ _ r => Rp.mono (reg_mono s s') r⟩)⟩
theorem gv_tup (j : β → ε → Nat) (h : ∀ b e, (S.cx b e)[j b e]? = some (fT t xs (.ref a))) : Gives K B S (Itt K a) t xs := fun i b e H W => by
  obtain ⟨N, F, W⟩ := W
  obtain ⟨a', vs, ea, h1, h2⟩ := W.facts _ (List.mem_of_getElem? (h b e))
  cases ea
  have h1 := (reg_A W.nF W.fH).t _ _ h1
  refine ⟨fun hi => ⟨vs, h1, by rw [h2.len]; exact hi⟩, fun x hx => ?_⟩
  obtain ⟨v, hv, r⟩ := h2.get hx
  refine ⟨⟨vs, v, h1, hv⟩, fun v' H' y => ?_⟩
  obtain ⟨rfl, y⟩ := y
  have := y vs h1
  rw [hv] at this
  cases this
  exact Wd.fact W r
end
/-! ### comprehensions -/
section
variable {S : Shp β ε} {H : Hp} {σ : L2.St} {g : TG} {tt : TT} {te : TE} {vs : List Nat} {Q : VK} {J : It} {t td : Bool} {xs : List α} {b0 b1 : β} {e0 : ε}
/-- the shape with the new list -/
def withD (S : Shp β ε) (td : Bool) (D : Addr) : Shp (β × List γ) ε := ⟨fun b e => S.sg b.1 e, fun b e => S.cx b.1 e, fun b e => oL td D b.2 :: S.ow b.1 e⟩
def NC (K : PySem.W.Frag) (B : Hp) (S : Shp β ε) (td : Bool) (D : Addr) (b : β) (acc : List γ) (H : Hp) : Prop := ∃ e, Wd K B (S.cx b e) (oL td D acc :: S.ow b e) H
theorem c_core {f : α → β → Option (Option γ × β)} {F : List α → β → Option (List γ × β)} {ys : List γ} (S : Shp β ε) (e0 : ε) (td : Bool)
    (hF0 : ∀ b, F [] b = some ([], b)) (hF1 : ∀ x xs b, F (x :: xs) b = (f x b).bind fun p => (F xs p.2).bind fun q => some (p.1.toList ++ q.1, q.2))
    (hm : F xs b0 = some (ys, b1)) (hz : xs.length ≤ sizeLine) (W : Wd K B (S.cx b0 e0) (S.ow b0 e0) H) (hJ : ∀ D, Gives K B (withD (γ := γ) S td D) J t xs)
    (step : ∀ D x v b e acc H' p, acc.length < sizeLine → Wd K B (fc t x v :: S.cx b e) (oL td D acc :: S.ow b e) H' → f x b = some p → g v (wipe σ vs) H' fun σ2 H2 => wipe σ2 vs = wipe σ vs ∧ tt σ2 H2 fun c H3 =>
      if c = true then te σ2 H3 (rElt D (NC K B S td D p.2 (acc ++ p.1.toList))) else NC K B S td D p.2 (acc ++ p.1.toList) H3)
    (done : ∀ D e H, Wd K B (S.cx b1 e) (oL td D ys :: S.ow b1 e) H → Q (.ref D) H) : rLc J g tt te vs σ H Q := fun D hD => by
  obtain ⟨N, F0, W⟩ := W
  have W1 : Wd K B (S.cx b0 e0) (oL td D ([] : List γ) :: S.ow b0 e0) (upd H D (.lst [])) := Wd.newL W hD trivial
  refine ⟨fun i m H => m = xs.length - i ∧ ∃ b e acc ys', F (xs.drop i) b = some (ys', b1) ∧ acc ++ ys' = ys ∧ acc.length ≤ i ∧ Wd K B (S.cx b e) (oL td D acc :: S.ow b e) H, ⟨_, rfl, b0, e0, [], ys, hm, rfl, Nat.le_refl _, W1⟩, ?_⟩
  rintro i m H ⟨rfl, b, e, acc, ys', hm, hys, hacc, W⟩
  obtain ⟨h1, h2⟩ := hJ D i (b, acc) e H W
  by_cases hi : i < xs.length
  · have hx : xs[i]? = some xs[i] := List.getElem?_eq_getElem hi
    obtain ⟨h3, h4⟩ := h2 _ hx
    rw [List.drop_eq_getElem_cons hi, hF1] at hm
    obtain ⟨p, q, hm⟩ := bndE hm
    obtain ⟨r, q2, hm⟩ := bndE hm
    have hm := Option.some.inj hm
    refine .inr ⟨h3, NC K B S td D p.2 (acc ++ p.1.toList), ?_, fun v H' y => step D _ v b e acc H' p (by omega) (h4 v H' y) q⟩
    rintro H'' ⟨e', W'⟩
    refine ⟨xs.length - (i + 1), by omega, rfl, p.2, e', acc ++ p.1.toList, r.1, ?_, ?_, ?_, W'⟩
    · rw [q2, ← (Prod.mk.inj hm).2]
    · rw [List.append_assoc, (Prod.mk.inj hm).1, hys]
    · rw [List.length_append]
      cases p.1 with
      | none => simp; omega
      | some z => simp; omega
  · rw [List.drop_eq_nil_of_le (by omega), hF0] at hm
    cases hm
    rw [List.append_nil] at hys
    subst hys
    exact .inl ⟨h1 (by omega), done D e H W⟩
theorem w_elt {ctx : List Fact} {L : List Own} {acc : List γ} {y : γ} {v : V} {D : Addr} {Nx : Hp → Prop} (W : Wd K B ctx (oL td D acc :: L) H) (h : Kn K ctx td y v) (hz : acc.length < sizeLine)
    (k : ∀ H', Wd K B ctx (oL td D (acc ++ [y]) :: L) H' → Nx H') : rElt D Nx v H := by
  obtain ⟨N, F, W⟩ := W
  obtain ⟨o, h1, vs, rfl, h2⟩ := W.at_ _ List.mem_cons_self
  exact ⟨vs, h1, by rw [h2.len]; exact hz, k _ (Wd.put (o' := oL td D (acc ++ [y])) W 0 rfl rfl _ ⟨_, rfl, h2.app (.one (h N F W.nF W.facts))⟩)⟩
/-- [e for x in xs] -/
theorem w_map {ctx : List Fact} {L : List Own} {f : α → Option γ} {ys : List γ} (td : Bool) (hm : mapO f xs = some ys) (W : Wd K B ctx L H) (hJ : ∀ D, Gives K B (withD (γ := γ) (⟨fun _ _ => σ, fun _ _ => ctx, fun _ _ => L⟩ : Shp Unit Unit) td D) J t xs)
    (step : ∀ D x v acc H' y, acc.length < sizeLine → Wd K B (fc t x v :: ctx) (oL td D acc :: L) H' → f x = some y → g v (wipe σ vs) H' fun σ2 H2 => wipe σ2 vs = wipe σ vs ∧ tt σ2 H2 fun c H3 =>
      if c = true then te σ2 H3 (rElt D (NC K B (⟨fun _ _ => σ, fun _ _ => ctx, fun _ _ => L⟩ : Shp Unit Unit) td D () (acc ++ [y]))) else NC K B (⟨fun _ _ => σ, fun _ _ => ctx, fun _ _ => L⟩ : Shp Unit Unit) td D () (acc ++ [y]) H3)
    (done : ∀ D H, Wd K B ctx (oL td D ys :: L) H → Q (.ref D) H) : rLc J g tt te vs σ H Q := by
  obtain ⟨hz, hm⟩ : xs.length ≤ sizeLine ∧ mapG f xs = some ys := by
    unfold mapO at hm
    by_cases h : xs.length ≤ sizeLine
    · rw [if_pos h] at hm; exact ⟨h, hm⟩
    · rw [if_neg h] at hm; cases hm
  refine c_core (f := fun x (_ : Unit) => (f x).map fun y => (some y, ())) (F := fun xs _ => (mapG f xs).map fun ys => (ys, ())) (b1 := ()) (⟨fun _ _ => σ, fun _ _ => ctx, fun _ _ => L⟩ : Shp Unit Unit) () td (fun _ => rfl) (fun x xs b => ?_) (b0 := ()) (by rw [hm]; rfl) hz W hJ
    (fun D x v b e acc H' p ha W hp => ?_) (fun D e H W => done D H W)
  · rw [mapG]
    cases f x with
    | none => rfl
    | some y => cases mapG f xs with
      | none => rfl
      | some ys => rfl
  · cases q : f x with
    | none => rw [q] at hp; cases hp
    | some y =>
      rw [q] at hp
      cases hp
      exact step D x v acc H' y ha W q
/-- [e for x in xs if c] -/
theorem w_cmp {ctx : List Fact} {L : List Own} {f : α → Option (Option γ)} {ys : List γ} (td : Bool) (hm : cmpO f xs = some ys) (W : Wd K B ctx L H) (hJ : ∀ D, Gives K B (withD (γ := γ) (⟨fun _ _ => σ, fun _ _ => ctx, fun _ _ => L⟩ : Shp Unit Unit) td D) J t xs)
    (step : ∀ D x v acc H' y, acc.length < sizeLine → Wd K B (fc t x v :: ctx) (oL td D acc :: L) H' → f x = some y → g v (wipe σ vs) H' fun σ2 H2 => wipe σ2 vs = wipe σ vs ∧ tt σ2 H2 fun c H3 =>
      if c = true then te σ2 H3 (rElt D (NC K B (⟨fun _ _ => σ, fun _ _ => ctx, fun _ _ => L⟩ : Shp Unit Unit) td D () (acc ++ y.toList))) else NC K B (⟨fun _ _ => σ, fun _ _ => ctx, fun _ _ => L⟩ : Shp Unit Unit) td D () (acc ++ y.toList) H3)
    (done : ∀ D H, Wd K B ctx (oL td D ys :: L) H → Q (.ref D) H) : rLc J g tt te vs σ H Q := by
  obtain ⟨hz, hm⟩ : xs.length ≤ sizeLine ∧ cmpG f xs = some ys := by
    unfold cmpO at hm
    by_cases h : xs.length ≤ sizeLine
    · rw [if_pos h] at hm; exact ⟨h, hm⟩
    · rw [if_neg h] at hm; cases hm
  refine c_core (f := fun x (_ : Unit) => (f x).map fun y => (y, ())) (F := fun xs _ => (cmpG f xs).map fun ys => (ys, ())) (b1 := ()) (⟨fun _ _ => σ, fun _ _ => ctx, fun _ _ => L⟩ : Shp Unit Unit) () td (fun _ => rfl) (fun x xs b => ?_) (b0 := ()) (by rw [hm]; rfl) hz W hJ
    (fun D x v b e acc H' p ha W hp => ?_) (fun D e H W => done D H W)
  · rw [cmpG]
    cases f x with
    | none => rfl
    | some y => cases cmpG f xs with
      | none => rfl
      | some ys => cases y <;> rfl
  · cases q : f x with
    | none => rw [q] at hp; cases hp
    | some y =>
      rw [q] at hp
      cases hp
      exact step D x v acc H' y ha W q
/-- [e for x in xs], e with a state -/
theorem w_maps {f : α → β → Option (γ × β)} {r : List γ × β} (S : Shp β ε) (e0 : ε) (td : Bool) (hm : mapSO f xs b0 = some r) (W : Wd K B (S.cx b0 e0) (S.ow b0 e0) H) (hJ : ∀ D, Gives K B (withD (γ := γ) S td D) J t xs)
    (step : ∀ D x v b e acc H' p, acc.length < sizeLine → Wd K B (fc t x v :: S.cx b e) (oL td D acc :: S.ow b e) H' → f x b = some p → g v (wipe σ vs) H' fun σ2 H2 => wipe σ2 vs = wipe σ vs ∧ tt σ2 H2 fun c H3 =>
      if c = true then te σ2 H3 (rElt D (NC K B S td D p.2 (acc ++ [p.1]))) else NC K B S td D p.2 (acc ++ [p.1]) H3)
    (done : ∀ D e H, Wd K B (S.cx r.2 e) (oL td D r.1 :: S.ow r.2 e) H → Q (.ref D) H) : rLc J g tt te vs σ H Q := by
  obtain ⟨hz, hm⟩ : xs.length ≤ sizeLine ∧ mapSG f xs b0 = some r := by
    unfold mapSO at hm
    by_cases h : xs.length ≤ sizeLine
    · rw [if_pos h] at hm; exact ⟨h, hm⟩
    · rw [if_neg h] at hm; cases hm
  refine c_core (f := fun x b => (f x b).map fun y => (some y.1, y.2)) (F := mapSG f) S e0 td (fun _ => rfl) (fun x xs b => ?_) (ys := r.1) (b1 := r.2) hm hz W hJ (fun D x v b e acc H' p ha W hp => ?_) done
  · rw [mapSG]
    cases f x b with
    | none => rfl
    | some y => rfl
  · cases q : f x b with
    | none => rw [q] at hp; cases hp
    | some y =>
      rw [q] at hp
      cases hp
      exact step D x v b e acc H' y ha W q
/-- [e for x in xs if c], with a state -/
theorem w_cmps {f : α → β → Option (Option γ × β)} {r : List γ × β} (S : Shp β ε) (e0 : ε) (td : Bool) (hm : cmpSO f xs b0 = some r) (W : Wd K B (S.cx b0 e0) (S.ow b0 e0) H) (hJ : ∀ D, Gives K B (withD (γ := γ) S td D) J t xs)
    (step : ∀ D x v b e acc H' p, acc.length < sizeLine → Wd K B (fc t x v :: S.cx b e) (oL td D acc :: S.ow b e) H' → f x b = some p → g v (wipe σ vs) H' fun σ2 H2 => wipe σ2 vs = wipe σ vs ∧ tt σ2 H2 fun c H3 =>
      if c = true then te σ2 H3 (rElt D (NC K B S td D p.2 (acc ++ p.1.toList))) else NC K B S td D p.2 (acc ++ p.1.toList) H3)
    (done : ∀ D e H, Wd K B (S.cx r.2 e) (oL td D r.1 :: S.ow r.2 e) H → Q (.ref D) H) : rLc J g tt te vs σ H Q := by
  obtain ⟨hz, hm⟩ : xs.length ≤ sizeLine ∧ cmpSG f xs b0 = some r := by
    unfold cmpSO at hm
    by_cases h : xs.length ≤ sizeLine
    · rw [if_pos h] at hm; exact ⟨h, hm⟩
    · rw [if_neg h] at hm; cases hm
  exact c_core (f := f) (F := cmpSG f) S e0 td (fun _ => rfl) (fun x xs b => rfl) (ys := r.1) (b1 := r.2) hm hz W hJ step done
end
end
end PB

namespace PB
open PySem PySem.Spec PyProof.Rows L2
/-! ### the walk's single steps -/
def fuelW : Nat := 10 ^ 40
def sqO (i : Int) : Option Int := if i.natAbs < 2 ^ 64 then some (i * i) else none
theorem some_inj {α : Type} {a b : α} (h : some a = some b) : a = b := Option.some.inj h
section
variable {K : PySem.W.Frag} {B H H' : Hp} {ctx : List Fact} {L L' : List Own} {t t' : Bool} {α β γ : Type} [Rp α] [Rp β] [Rp γ] {x : α} {y : β} {xs ys : List α} {v w u : V} {vs : List V} {a c : Addr} {Q : VK} {i j k n : Int} {σ : L2.St} {R : It → Hp → Prop}
theorem w_mul (h : mulO i j = some n) (q : Q (.int n) H) : rMulA (.int i) (.int j) H Q := by
  obtain ⟨hc, rfl⟩ := guardE h
  exact i_mulI hc q
theorem w_fdiv (h : fdivO i j = some n) (q : Q (.int n) H) : rI CDivW (fun i j => .int (i / j)) (.int i) (.int j) H Q := by
  obtain ⟨hc, rfl⟩ := guardE h
  exact i_I hc q
theorem w_mod (h : modO i j = some n) (q : Q (.int n) H) : rI (fun _ j => 0 < j) (fun i j => .int (i % j)) (.int i) (.int j) H Q := by
  obtain ⟨hc, rfl⟩ := guardE h
  exact i_I hc q
theorem w_sq (h : sqO i = some n) (q : Q (.int n) H) : rI CPow (fun i j => .int (i ^ j.toNat)) (.int i) (.int 2) H Q := by
  obtain ⟨hc, rfl⟩ := guardE h
  exact i_sq hc q
theorem w_pow (h : powO i j = some n) (q : Q (.int n) H) : rI CPow (fun i j => .int (i ^ j.toNat)) (.int i) (.int j) H Q := by
  obtain ⟨hc, rfl⟩ := guardE h
  exact i_I hc q
theorem w_rg1 {xs : List Int} (h : range1 j = some xs) (k : xs = rangeF 0 j.toNat → R (Itr 0 j.toNat) H) : rRg1 [.int j] H R := by
  obtain ⟨hc, e⟩ := guardE h
  exact i_rg1 hc.1 hc.2 (k e.symm)
theorem w_rg2 {xs : List Int} (h : range2 i j = some xs) (k : xs = rangeF i (j - i).toNat → R (Itr i (j - i).toNat) H) : rRg2 [.int i, .int j] H R := by
  obtain ⟨hc, e⟩ := guardE h
  exact i_rg2 ⟨hc.1.1, hc.1.2, hc.2.1, hc.2.2⟩ (k e.symm)
theorem w_rgD {xs : List Int} (h : rangeD i j = some xs) (k : xs = rangeB i (i - j).toNat → R (Itc i (-1) (i - j).toNat) H) : rRg3 [.int i, .int j, .int (-1)] H R := by
  obtain ⟨hc, e⟩ := guardE h
  exact i_rg3n ⟨hc.1.1, hc.1.2, hc.2.1, hc.2.2⟩ (k e.symm)
theorem w_itL (W : Wd K B ctx L H) (h : Ls K ctx L t xs (.ref a)) (k : R (Itl K a) H) : rItL K (.ref a) H R := by
  obtain ⟨N, F, W⟩ := W
  obtain ⟨a', vs, e, h1, h2⟩ := h B H N F W
  cases e
  exact i_itL h1 k
theorem w_itT (W : Wd K B ctx L H) (m : Nat) (h : ctx[m]? = some (fT t xs (.ref a))) (k : R (Itt K a) H) : rItT K (.ref a) H R := by
  obtain ⟨N, F, W⟩ := W
  obtain ⟨a', vs, e, h1, h2⟩ := W.facts _ (List.mem_of_getElem? h)
  cases e
  exact i_itT ((reg_A W.nF W.fH).t _ _ h1) k
theorem w_en (W : Wd K B ctx L H) (h : Ls K ctx L t xs (.ref a)) (k : R (Ite K a) H) : rEn K [.ref a] H R := by
  obtain ⟨N, F, W⟩ := W
  obtain ⟨a', vs, e, h1, h2⟩ := h B H N F W
  cases e
  exact i_en h1 k
theorem w_zp (W : Wd K B ctx L H) (h : Ls K ctx L t xs (.ref a)) (h' : Ls K ctx L t' ys (.ref c)) (k : R (Itz K a c) H) : rZp K [.ref a, .ref c] H R := by
  obtain ⟨N, F, W⟩ := W
  obtain ⟨a', vs, e, h1, h2⟩ := h B H N F W
  cases e
  obtain ⟨c', ws, e, h3, h4⟩ := h' B H N F W
  cases e
  exact i_zp h1 h3 k
theorem Wd.eqI {i : Int} (W : Wd K B ctx L H) (h : Kn K ctx t i v) : v = .int i := by
  obtain ⟨N, F, W⟩ := W
  exact h N F W.nF W.facts
theorem Wd.eqB {i : Bool} (W : Wd K B ctx L H) (h : Kn K ctx t i v) : v = .bl i := by
  obtain ⟨N, F, W⟩ := W
  exact h N F W.nF W.facts
theorem Wd.eqS {i : PySem.Str} (W : Wd K B ctx L H) (h : Kn K ctx t i v) : v = .str i := by
  obtain ⟨N, F, W⟩ := W
  exact h N F W.nF W.facts
theorem Wd.eqU {i : Unit} (W : Wd K B ctx L H) (h : Kn K ctx t i v) : v = .non := by
  obtain ⟨N, F, W⟩ := W
  exact h N F W.nF W.facts
theorem Wd.eqL (W : Wd K B ctx L H) (h : Kn K ctx t xs v) : ∃ a, v = .ref a := by
  obtain ⟨N, F, W⟩ := W
  obtain ⟨a, vs, e, _⟩ := h N F W.nF W.facts
  exact ⟨a, e⟩
theorem Wd.eqScr {x : Scr} (W : Wd K B ctx L H) (h : Kn K ctx t x v) : ∃ a, v = .ref a := by
  obtain ⟨N, F, W⟩ := W
  obtain ⟨a, e, _⟩ := h N F W.nF W.facts
  exact ⟨a, e⟩
theorem Wd.eqP {p : α × β} (W : Wd K B ctx L H) (h : Kn K ctx t p v) : ∃ a, v = .ref a := by
  obtain ⟨N, F, W⟩ := W
  obtain ⟨a, _, _, e, _⟩ := h N F W.nF W.facts
  exact ⟨a, e⟩
theorem Wd.eq3 {p : T3 α β γ} (W : Wd K B ctx L H) (h : Kn K ctx t p v) : ∃ a, v = .ref a := by
  obtain ⟨N, F, W⟩ := W
  obtain ⟨a, _, _, _, e, _⟩ := h N F W.nF W.facts
  exact ⟨a, e⟩
theorem i_bT {b : Bool} {A C : Prop} (hb : b = true) (h : A) : if b = true then A else C := by
  rw [if_pos hb]
  exact h
theorem i_bF {b : Bool} {A C : Prop} (hb : b = false) (h : C) : if b = true then A else C := by
  rw [if_neg (by rw [hb]; exact Bool.false_ne_true)]
  exact h
theorem and_t {b c : Bool} (hb : b = true) : c = (b && c) := by rw [hb]; rfl
theorem and_f {b c : Bool} (hb : b = false) : false = (b && c) := by rw [hb]; rfl
theorem or_t {b c : Bool} (hb : b = true) : true = (b || c) := by rw [hb]; rfl
theorem or_f {b c : Bool} (hb : b = false) : c = (b || c) := by rw [hb]; rfl
theorem w_andW {b : Bool} (c : Bool) {tt : TT} {P : Bool → Hp → Prop} (W : Wd K B ctx L H) (h1 : b = true → ∀ P' : Bool → Hp → Prop, (∀ d H', d = c → Wd K B ctx L' H' → P' d H') → tt σ H P') (h2 : b = false → false = c ∧ Wd K B ctx L' H) (h3 : ∀ H', Wd K B ctx L' H' → P c H') : if b = true then tt σ H P else P false H :=
  w_and (fun d H' => d = c ∧ Wd K B ctx L' H') (fun hb P' q => h1 hb P' fun d H' e W => q d H' ⟨e, W⟩) (fun hb => h2 hb) (fun d H' ⟨e, W⟩ => by rw [e]; exact h3 H' W)
theorem w_orW {b : Bool} (c : Bool) {tt : TT} {P : Bool → Hp → Prop} (W : Wd K B ctx L H) (h1 : b = false → ∀ P' : Bool → Hp → Prop, (∀ d H', d = c → Wd K B ctx L' H' → P' d H') → tt σ H P') (h2 : b = true → true = c ∧ Wd K B ctx L' H) (h3 : ∀ H', Wd K B ctx L' H' → P c H') {X : Prop} (hX : P true H = X := by rfl) : if b = true then X else tt σ H P := by
  subst hX
  exact w_or (fun d H' => d = c ∧ Wd K B ctx L' H') (fun hb P' q => h1 hb P' fun d H' e W => q d H' ⟨e, W⟩) (fun hb => h2 hb) (fun d H' ⟨e, W⟩ => by rw [e]; exact h3 H' W)
theorem w_andVW {b : Bool} (c : Bool) {te : TE} (W : Wd K B ctx L H) (h1 : b = true → ∀ P' : VK, (∀ d H', d = c → Wd K B ctx L' H' → P' (.bl d) H') → te σ H P') (h2 : b = false → false = c ∧ Wd K B ctx L' H) (h3 : ∀ H', Wd K B ctx L' H' → Q (.bl c) H') : if b = true then te σ H Q else Q (.bl false) H :=
  w_andV (fun d H' => d = .bl c ∧ Wd K B ctx L' H') (fun hb P' q => h1 hb P' fun d H' e W => q _ H' ⟨by rw [e], W⟩) (fun hb => ⟨by rw [(h2 hb).1], (h2 hb).2⟩) (fun d H' ⟨e, W⟩ => by rw [e]; exact h3 H' W)
theorem w_orVW {b : Bool} (c : Bool) {te : TE} (W : Wd K B ctx L H) (h1 : b = false → ∀ P' : VK, (∀ d H', d = c → Wd K B ctx L' H' → P' (.bl d) H') → te σ H P') (h2 : b = true → true = c ∧ Wd K B ctx L' H) (h3 : ∀ H', Wd K B ctx L' H' → Q (.bl c) H') {X : Prop} (hX : Q (.bl true) H = X := by rfl) : if b = true then X else te σ H Q := by
  subst hX
  exact w_orV (fun d H' => d = .bl c ∧ Wd K B ctx L' H') (fun hb P' q => h1 hb P' fun d H' e W => q _ H' ⟨by rw [e], W⟩) (fun hb => ⟨by rw [(h2 hb).1], (h2 hb).2⟩) (fun d H' ⟨e, W⟩ => by rw [e]; exact h3 H' W)
theorem w_chainW {b : Bool} (c : Bool) {te : TE} {r' : R2} {y : V} (W : Wd K B ctx L H) (h1 : b = true → ∀ P' : VK, (∀ d H', d = c → Wd K B ctx L' H' → P' (.bl d) H') → te σ H fun w' H5 => r' y w' H5 P') (h2 : b = false → false = c ∧ Wd K B ctx L' H) (h3 : ∀ H', Wd K B ctx L' H' → Q (.bl c) H') : if b = true then te σ H (fun w' H5 => r' y w' H5 Q) else Q (.bl false) H :=
  w_andVW (te := fun σ H P => te σ H fun w' H5 => r' y w' H5 P) c W h1 h2 h3
/-- if-else as an expression: the value x, by its word -/
theorem w_iteW {b : Bool} (x : α) (t : Bool) {ta tb : TE} (W : Wd K B ctx L H) (h1 : b = true → ∀ P' : VK, (∀ v H', Wd K B (fc t x v :: ctx) L' H' → P' v H') → ta σ H P') (h2 : b = false → ∀ P' : VK, (∀ v H', Wd K B (fc t x v :: ctx) L' H' → P' v H') → tb σ H P') (h3 : ∀ v H', Wd K B (fc t x v :: ctx) L' H' → Q v H') : if b = true then ta σ H Q else tb σ H Q :=
  w_ite (fun v H' => Wd K B (fc t x v :: ctx) L' H') h1 h2 h3
theorem i_isBl {a b : Bool} (h : Q (.bl (decide (a = b))) H) : rIsB (.bl a) (.bl b) H Q := ⟨a, b, rfl, rfl, h⟩
theorem i_notBl {a b : Bool} (h : Q (.bl (!decide (a = b))) H) : rNotB (.bl a) (.bl b) H Q := ⟨a, b, rfl, rfl, h⟩
theorem w_fstP {p : α × β} (W : Wd K B ctx L H) (h : Kn K ctx t p v) (k : ∀ u, Wd K B (fc t p.1 u :: ctx) L H → Q u H) : rIx K v (.int 0) H Q := w_fst (x := p.1) (y := p.2) W h k
theorem w_sndP {p : α × β} (W : Wd K B ctx L H) (h : Kn K ctx t p v) (k : ∀ u, Wd K B (fc t p.2 u :: ctx) L H → Q u H) : rIx K v (.int 1) H Q := w_snd (x := p.1) (y := p.2) W h k
theorem w_unpP {p : α × β} {g : TGs} {R : L2.St → Hp → Prop} (W : Wd K B ctx L H) (h : Kn K ctx t p v) (k : ∀ u w, Wd K B (fc t p.1 u :: fc t p.2 w :: ctx) L H → g [u, w] σ H R) : rUnp K 2 g v σ H R := w_unp2 (x := p.1) (y := p.2) W h k
end
/-- a value of one kind as one of another -/
class Co (α β : Type) [Rp α] [Rp β] where
  f : α → β
  h : ∀ {S : Lk} {x : α} {v : V}, Rp.rep S x v → Rp.rep S (f x) v
section
variable {α β γ δ : Type} [Rp α] [Rp β] [Rp γ] [Rp δ]
instance : Co α (Option α) := ⟨some, fun h => h⟩
instance : Co Unit (Option α) := ⟨fun _ => none, fun h => h⟩
theorem all2_map [Co α β] {S : Lk} : ∀ {xs : List α} {vs : List V}, All2 (Rp.rep S) xs vs → All2 (Rp.rep S) (xs.map (Co.f (β := β))) vs
  | [], [], _ => trivial
  | _ :: _, _ :: _, h => ⟨Co.h h.1, all2_map h.2⟩
  | [], _ :: _, h => h.elim
  | _ :: _, [], h => h.elim
instance [Co α β] : Co (List α) (List β) := ⟨List.map Co.f, fun ⟨a, vs, e, h, r⟩ => ⟨a, vs, e, h, all2_map r⟩⟩
theorem Kn.co [Co α β] {K : PySem.W.Frag} {ctx : List Fact} {t : Bool} {x : α} {v : V} (h : Kn K ctx t x v) : Kn K ctx t (Co.f x : β) v := fun N F s q => Co.h (h N F s q)
theorem Lx.co [Co α β] {K : PySem.W.Frag} {ctx : List Fact} {L : List Own} {t : Bool} {xs : List α} {v : V} (h : Lx K ctx L t xs v) : Lx K ctx L t (xs.map (Co.f (β := β))) v := fun B H N F W => by
  obtain ⟨a, vs, e, h1, h2⟩ := h B H N F W
  exact ⟨a, vs, e, h1, all2_map h2⟩
/-- one's own list read as one of another kind -/
theorem Wd.coO [Co α β] {K : PySem.W.Frag} {B H : Hp} {ctx : List Fact} {L : List Own} {t : Bool} {a : Addr} {xs : List α} (W : Wd K B ctx L H) (j : Nat) (hj : L[j]? = some (oL t a xs)) : Wd K B ctx (L.set j (oL t a (xs.map (Co.f (β := β))))) H := by
  obtain ⟨N, F, W⟩ := W
  have ea : (L.set j (oL t a (xs.map (Co.f (β := β))))).map (·.a) = L.map (·.a) := by
    rw [List.map_set]
    refine List.ext_getElem? fun i => ?_
    rw [List.getElem?_set]
    by_cases hi : j = i
    · subst hi
      have := (List.getElem?_eq_some_iff.mp hj).1
      rw [if_pos rfl, if_pos (by rw [List.length_map]; exact this), List.getElem?_map, hj]
      rfl
    · rw [if_neg hi]
  refine ⟨N, F, W.bF, W.nF, W.sep, W.fH, W.facts, fun o ho => ?_, fun o ho => ?_, by rw [ea]; exact W.nd⟩
  · rcases setMem' W.nd hj ho with rfl | ⟨h1, h2⟩
    · obtain ⟨h, e, vs, rfl, r⟩ := W.at_ _ (List.mem_of_getElem? hj)
      exact ⟨_, e, vs, rfl, all2_map r⟩
    · exact W.at_ o h1
  · rcases setMem' W.nd hj ho with rfl | ⟨h1, h2⟩
    · exact (W.off (oL t a xs) (List.mem_of_getElem? hj) : F a = none)
    · exact W.off o h1
/-- one's own list, its items no longer said to be new -/
theorem Wd.weakO {K : PySem.W.Frag} {B H : Hp} {ctx : List Fact} {L : List Own} {a : Addr} {xs : List α} (W : Wd K B ctx (oL true a xs :: L) H) : Wd K B ctx (oL false a xs :: L) H := by
  obtain ⟨N, F, W⟩ := W
  refine ⟨N, F, W.bF, W.nF, W.sep, W.fH, W.facts, fun o ho => ?_, fun o ho => ?_, W.nd⟩
  · rcases List.mem_cons.mp ho with rfl | ho
    · obtain ⟨h, e, vs, rfl, r⟩ := W.at_ _ List.mem_cons_self
      exact ⟨_, e, vs, rfl, r.mono fun _ _ q => Rp.mono (lkNA W.nF) q⟩
    · exact W.at_ o (List.mem_cons_of_mem _ ho)
  · rcases List.mem_cons.mp ho with rfl | ho
    · exact (W.off (oL true a xs) List.mem_cons_self : F a = none)
    · exact W.off o (List.mem_cons_of_mem _ ho)
end
theorem Wd.unopt {K : PySem.W.Frag} {B H : Hp} {ctx : List Fact} {L : List Own} {t : Bool} {α : Type} [Rp α] {x : Option α} {y : α} {v : V} (W : Wd K B ctx L H) (h : Kn K ctx t x v) (e : x = some y) : Wd K B (fc t y v :: ctx) L H := by
  subst e
  exact W.know h.un

section
variable {K : PySem.W.Frag} {B H H' : Hp} {ctx : List Fact} {L L' : List Own} {t t' : Bool} {α β γ : Type} [Rp α] [Rp β] [Rp γ] {x : α} {y : β} {xs ys : List α} {v w u : V} {vs : List V} {a c : Addr} {Q : VK} {i j k n : Int} {σ : L2.St} {R : It → Hp → Prop}
theorem Wd.arr (W : Wd K B ctx L H) (h : Ar K ctx L x v) : Rp.rep (lkA K H) x v := let ⟨N, F, W⟩ := W; h B H N F W
theorem Wd.ard (W : Wd K B ctx L H) (h : ArD K ctx L a x v) : Rp.rep (lkA K (PB.del H a)) x v := let ⟨N, F, W⟩ := W; h B H N F W
theorem Wd.ioa [Flat α] (W : Wd K B ctx L H) (m : Nat) (h : L[m]? = some (oL t a xs)) : ∃ us, H a = some (.lst us) ∧ All2 (Rp.rep (lkN fun _ => none)) xs us := by
  obtain ⟨N, F, W⟩ := W
  obtain ⟨o, h1, vs, rfl, h2⟩ := W.at_ _ (List.mem_of_getElem? h)
  exact ⟨vs, h1, h2.mono fun _ _ q => Flat.h _ _ _ _ q⟩
theorem Wd.call1U [Flat β] {i : Unit} {ys ys' : List β} {t' : Bool} (W : Wd K B ctx L H) (j : Nat) (hj : L[j]? = some (oL t' a ys)) (r : Res1 K H a (i, ys') v H') : v = .non ∧ Wd K B ctx (L.set j (oL t' a ys')) H' :=
  ⟨let ⟨_, _, _, _, h, _⟩ := r; h, (W.call1 j hj r).drop 1 rfl⟩
theorem Wd.call1S [Flat β] {i : PySem.Str} {ys ys' : List β} {t' : Bool} (W : Wd K B ctx L H) (j : Nat) (hj : L[j]? = some (oL t' a ys)) (r : Res1 K H a (i, ys') v H') : v = .str i ∧ Wd K B ctx (L.set j (oL t' a ys')) H' :=
  ⟨let ⟨_, _, _, _, h, _⟩ := r; h, (W.call1 j hj r).drop 1 rfl⟩
def twoO : List α → Option (α × α)
  | [a, b] => some (a, b)
  | _ => none
theorem w_unpL2 {p : α × α} {g : TGs} {R : L2.St → Hp → Prop} (W : Wd K B ctx L H) (h : Ls K ctx L t xs v) (e : twoO xs = some p) (k : ∀ u w, Wd K B (fc t p.1 u :: fc t p.2 w :: ctx) L H → g [u, w] σ H R) : rUnpL K 2 g v σ H R := by
  match xs, e with
  | [a, b], e =>
    cases e
    exact w_unpL W h k
/-- list(enumerate(xs)) -/
theorem w_le (W : Wd K B ctx L H) (h : Ls K ctx L t xs v) (k : ∀ p H', Wd K B (fc t (enumI 0 xs) (.ref p) :: ctx) L H' → Q (.ref p) H') : rLE K v H Q := by
  obtain ⟨N, F, W⟩ := W
  obtain ⟨a, vs, rfl, h1, h2⟩ := h B H N F W
  refine ⟨a, vs, rfl, h1, fun H' p ts s hp hts hn e pr => k p H' ?_⟩
  let R : Hp := fun b => if b = p ∨ b ∈ ts then H' b else none
  have sR : Same R H' := fun b u e => by
    show H' b = some u
    by_cases hb : b = p ∨ b ∈ ts
    · rw [show R b = H' b from if_pos hb] at e; exact e
    · rw [show R b = none from if_neg hb] at e; cases e
  have hR : ∀ b u, R b = some u → H b = none := fun b u e => by
    by_cases hb : b = p ∨ b ∈ ts
    · rcases hb with rfl | hb
      · exact hp
      · exact hts b hb
    · rw [show R b = none from if_neg hb] at e; cases e
  have J := Wd.joinI (L' := L) W (fun b u _ e => s b u e) sR hR (fun o ho => let ⟨h, e, q⟩ := W.at_ o ho; ⟨h, s _ _ e, fun N' F' a b => o.mono a b q⟩) rfl
  refine ⟨_, _, J.bF, J.nF, J.sep, J.fH, fun f hf => ?_, J.at_, J.off, J.nd⟩
  rcases List.mem_cons.mp hf with rfl | hf
  · have rN : Same R (join N R) := join_r fun a u e => W.nF.free (W.fH.free (hR a u e))
    have rF : Same R (join F R) := join_r fun a u e => W.fH.free (hR a u e)
    have hRp : R p = some (.lst (ts.map V.ref)) := by rw [show R p = H' p from if_pos (.inl rfl), e]
    have key : ∀ (ts' : List Addr) (xs : List α) (vs : List V) (i : Nat), All2 (Rp.rep (reg t K N F)) xs vs → (∀ b ∈ ts', b ∈ ts) → Paired (fun (t : Addr) (q : Key × V) => H' t = some (.tup [kV q.1, q.2])) ts' (enV i vs) → All2 (Rp.rep (reg t K (join N R) (join F R))) (enumI (i : Int) xs) (ts'.map V.ref) := by
      intro ts' xs
      induction xs generalizing ts' with
      | nil =>
        intro vs i h _ pr
        cases vs with
        | nil => cases pr; exact trivial
        | cons => exact h.elim
      | cons x xs ih =>
        intro vs i h hm pr
        cases vs with
        | nil => exact h.elim
        | cons v vs =>
          cases pr with
          | @cons b _ ts2 _ hb pr =>
            refine ⟨⟨b, _, _, rfl, ?_, rfl, Rp.mono (reg_mono join_l join_l) h.1⟩, ?_⟩
            · have hRb : R b = some (.tup [.int (i : Nat), v]) := by
                rw [show R b = H' b from if_pos (.inr (hm b List.mem_cons_self)), hb]
                rfl
              cases t
              · exact SqT.of (rF _ _ hRb)
              · exact rN _ _ hRb
            · have := ih ts2 vs (i + 1) h.2 (fun c hc => hm c (List.mem_cons_of_mem _ hc)) pr
              rw [show ((i + 1 : Nat) : Int) = (i : Int) + 1 by omega] at this
              exact this
    refine ⟨p, ts.map V.ref, rfl, ?_, ?_⟩
    · cases t
      · exact rF _ _ hRp
      · exact rN _ _ hRp
    · have := key ts xs vs 0 h2 (fun _ h => h) pr
      simpa using this
  · exact J.facts f hf
theorem w_eqScr {x : Scr} {ms : List Int} (W : Wd K B ctx L H) (h : Kn K ctx false x v) (h' : Ls K ctx L t ms w) (q : Q (.bl (decide (x.l = ms))) H) : rEqA K v w H Q := by
  obtain ⟨N, F, W⟩ := W
  obtain ⟨a, rfl, h1⟩ := h N F W.nF W.facts
  obtain ⟨b, vs, rfl, h3, h4⟩ := h' B H N F W
  rw [all2_int h4] at h3
  exact i_eqLI (W.fH.seq h1) h3 q
def rangeL (i j : Int) : Option (List Int) := if ok62 i ∧ ok62 j ∧ (j - i).toNat ≤ 2 ^ 24 then some (rangeF i (j - i).toNat) else none
theorem rgV_eq (i j : Int) : rgV i j = (rangeF i (j - i).toNat).map V.int := by
  unfold rgV
  refine List.ext_getElem? fun k => ?_
  rw [List.getElem?_map, List.getElem?_map]
  by_cases hk : k < (j - i).toNat
  · rw [List.getElem?_range hk]
    have hl : k < (rangeF i (j - i).toNat).length := by rw [rangeF_len]; exact hk
    rw [List.getElem?_eq_getElem hl, (rangeF_get _ _ _ _ (List.getElem?_eq_getElem hl)).2]
    rfl
  · rw [List.getElem?_eq_none (by rw [List.length_range]; omega), List.getElem?_eq_none (by rw [rangeF_len]; omega)]
    rfl
def rLRg (i j : Int) (H : Hp) (Q : VK) : Prop := RgOk i j ∧ ∀ q, H q = none → Q (.ref q) (upd H q (.lst (rgV i j)))
theorem i_lrg1 {ta : TE} (h : ta σ H fun x H1 => ∃ n, x = .int n ∧ rLRg 0 n H1 Q) : tLstRg (tRg1 ta) σ H Q := h
theorem i_lrg2 {ta tb : TE} (h : ta σ H fun x H1 => tb σ H1 fun y H2 => ∃ i j, x = .int i ∧ y = .int j ∧ rLRg i j H2 Q) : tLstRg (tRg2 ta tb) σ H Q := h
theorem w_lrg {xs : List Int} (W : Wd K B ctx L H) (h : rangeL i j = some xs) (k : ∀ p H', Wd K B ctx (oL true p xs :: L) H' → Q (.ref p) H') : rLRg i j H Q := by
  obtain ⟨⟨h1, h2, h3⟩, rfl⟩ := guardE h
  obtain ⟨N, F, W⟩ := W
  refine ⟨⟨h1.1, h1.2, h2.1, h2.2, h3⟩, fun q hq => ?_⟩
  rw [rgV_eq]
  exact k q _ (Wd.newL W hq (all2_ofInt _))
end

/-! ### more steps -/
instance [Rp α] [Flat α] : Flat (Option α) := ⟨fun S T x v h => by
  cases x with
  | none => exact h
  | some y => exact Flat.h (β := α) S T y v h⟩
instance : Flat Unit := ⟨fun _ _ _ _ h => h⟩
instance : Flat PySem.Str := ⟨fun _ _ _ _ h => h⟩
section
variable {K : PySem.W.Frag} {B H H' : Hp} {ctx : List Fact} {L L' : List Own} {t t' : Bool} {α β γ : Type} [Rp α] [Rp β] [Rp γ] {x : α} {y : β} {xs ys : List α} {v w u : V} {vs : List V} {a p c : Addr} {Q : VK} {i j k n : Int} {σ : L2.St} {R : It → Hp → Prop}
theorem Lx.flat [Flat α] (h : Lx K ctx L t' xs v) : Lx K ctx L t xs v := fun B H N F W => by
  obtain ⟨a, vs, e, h1, h2⟩ := h B H N F W
  exact ⟨a, vs, e, h1, h2.mono fun _ _ q => Flat.h _ _ _ _ q⟩
theorem Kn.flat [Flat α] (h : Kn K ctx t' x v) : Kn K ctx t x v := fun N F s q => Flat.h _ _ _ _ (h N F s q)
/-- a tuple whose items are told by their values -/
def fR (t : Bool) (vs : List V) (v : V) : Fact := ⟨fun K N F => ∃ a, v = .ref a ∧ (reg t K N F).t a vs, fun h1 h2 ⟨a, e, h⟩ => ⟨a, e, (reg_mono h1 h2).t _ _ h⟩⟩
theorem Wd.callRaw {R : Hp} [Flat β] {ys : List β} {tup vs : List V} (W : Wd K B ctx L H) (s : Same H H') (sR : Same R H') (hR : ∀ a u, R a = some u → H a = Option.none) (hl : R a = some (.tup tup)) (hp : R p = some (.lst vs)) (hr : All2 (Rp.rep (lkN R)) ys vs) :
    Wd K B (fR true tup (.ref a) :: ctx) (oL true p ys :: L) H' := by
  obtain ⟨N, F, W⟩ := W
  have hn : H p = Option.none := hR p _ hp
  have J := Wd.joinI (L' := L) (R := PB.del R p) W (fun b u _ e => s b u e) (Same.del.trans sR) (fun a u e => hR a u (Same.del a u e)) (fun o ho => let ⟨h, e, q⟩ := W.at_ o ho; ⟨h, s _ _ e, fun N' F' a b => o.mono a b q⟩) rfl
  have rN : Same (PB.del R p) (join N (PB.del R p)) := join_r fun a u e => W.nF.free (W.fH.free (hR a u (Same.del a u e)))
  have hap : a ≠ p := fun e2 => by
    rw [e2, hp] at hl
    cases hl
  refine ⟨_, _, J.bF, J.nF, J.sep, J.fH, fun f hf => ?_, fun o ho => ?_, fun o ho => ?_, ?_⟩
  · rcases List.mem_cons.mp hf with rfl | hf
    · exact ⟨a, rfl, rN _ _ ((del_ne hap).trans hl)⟩
    · exact J.facts f hf
  · rcases List.mem_cons.mp ho with rfl | ho
    · exact ⟨_, sR _ _ hp, vs, rfl, hr.mono fun _ _ q => Flat.h _ _ _ _ q⟩
    · exact J.at_ o ho
  · rcases List.mem_cons.mp ho with rfl | ho
    · show join F (PB.del R p) p = none
      unfold join
      rw [W.fH.free hn]
      exact del_same
    · exact J.off o ho
  · rw [List.map_cons]
    refine List.nodup_cons.mpr ⟨fun hm => ?_, J.nd⟩
    obtain ⟨q, hq, eq⟩ := List.mem_map.mp hm
    obtain ⟨u, e2, _⟩ := W.at_ q hq
    rw [eq] at e2
    rw [show (oL true p ys).a = p from rfl, hn] at e2
    cases e2
/-- a pair told by a def, its list one's own -/
theorem Wd.callP [Flat α] [Flat β] {r : α × List β} (W : Wd K B ctx L H) (r0 : Res K H r v H') : ∃ p a u, v = .ref a ∧ Wd K B (fc true r.1 u :: fR true [u, .ref p] (.ref a) :: ctx) (oL true p r.2 :: L) H' := by
  obtain ⟨R, s, sR, hR, a, u, w, e, hl, hr1, p, vs, ew, hp, hr⟩ := r0
  subst ew
  refine ⟨p, a, u, e, (Wd.callRaw W s sR hR hl hp hr).know fun N F _ _ => Flat.h _ _ _ _ hr1⟩
/-- a triple so -/
theorem Wd.callP3 [Flat α] [Flat β] [Flat γ] {r : T3 α γ (List β)} (W : Wd K B ctx L H) (r0 : Res K H r v H') : ∃ p a u w, v = .ref a ∧ Wd K B (fc true r.a u :: fc true r.b w :: fR true [u, w, .ref p] (.ref a) :: ctx) (oL true p r.c :: L) H' := by
  obtain ⟨R, s, sR, hR, a, u, w, z, e, hl, hr1, hr2, p, vs, ew, hp, hr⟩ := r0
  subst ew
  refine ⟨p, a, u, w, e, ((Wd.callRaw W s sR hR hl hp hr).know fun N F _ _ => Flat.h _ _ _ _ hr2).know fun N F _ _ => Flat.h _ _ _ _ hr1⟩
theorem Ar.pair (j : Nat) (hj : L[j]? = some (oL t' p ys)) (m : Nat) (hm : ctx[m]? = some (fR t [v, .ref p] (.ref a))) (h : Kn K ctx t y v) : Ar K ctx L (y, ys) (.ref a) := fun B H N F W => by
  obtain ⟨a', e, h1⟩ := W.facts _ (List.mem_of_getElem? hm)
  cases e
  obtain ⟨o, h2, vs, rfl, h3⟩ := W.at_ _ (List.mem_of_getElem? hj)
  exact ⟨a, _, _, rfl, (reg_A W.nF W.fH).t _ _ h1, Rp.mono (reg_A W.nF W.fH) (h N F W.nF W.facts), p, vs, rfl, h2, h3.mono fun _ _ q => Rp.mono (reg_A W.nF W.fH) q⟩
theorem Ar.triple {x1 : β} {x2 : γ} (j : Nat) (hj : L[j]? = some (oL t' p ys)) (m : Nat) (hm : ctx[m]? = some (fR t [v, w, .ref p] (.ref a))) (h : Kn K ctx t x1 v) (h' : Kn K ctx t x2 w) : Ar K ctx L (T3.mk x1 x2 ys) (.ref a) := fun B H N F W => by
  obtain ⟨a', e, h1⟩ := W.facts _ (List.mem_of_getElem? hm)
  cases e
  obtain ⟨o, h2, vs, rfl, h3⟩ := W.at_ _ (List.mem_of_getElem? hj)
  exact ⟨a, _, _, _, rfl, (reg_A W.nF W.fH).t _ _ h1, Rp.mono (reg_A W.nF W.fH) (h N F W.nF W.facts), Rp.mono (reg_A W.nF W.fH) (h' N F W.nF W.facts), p, vs, rfl, h2, h3.mono fun _ _ q => Rp.mono (reg_A W.nF W.fH) q⟩
theorem w_ixR (W : Wd K B ctx L H) (m : Nat) (hm : ctx[m]? = some (fR t vs (.ref a))) (e : atI vs i = some u) (k : Q u H) : rIx K (.ref a) (.int i) H Q := by
  obtain ⟨N, F, W⟩ := W
  obtain ⟨a', ea, h1⟩ := W.facts _ (List.mem_of_getElem? hm)
  cases ea
  exact i_ixT ((reg_A W.nF W.fH).t _ _ h1) e k
theorem w_unpR {n : Nat} {g : TGs} {R : L2.St → Hp → Prop} (W : Wd K B ctx L H) (m : Nat) (hm : ctx[m]? = some (fR t vs (.ref a))) (hl : vs.length = n) (k : g vs σ H R) : rUnp K n g (.ref a) σ H R := by
  obtain ⟨N, F, W⟩ := W
  obtain ⟨a', ea, h1⟩ := W.facts _ (List.mem_of_getElem? hm)
  cases ea
  exact ⟨a, vs, rfl, (reg_A W.nF W.fH).t _ _ h1, hl, k⟩
/-- pop(i) -/
def popO (xs : List α) (i : Int) : Option (α × List α) := if -(2 ^ 63) ≤ i ∧ i < 2 ^ 63 then (seqIndex? i xs.length).bind fun k => (xs[k]?).map fun x => (x, xs.eraseIdx k) else none
theorem All2.erase {R : α → V → Prop} : ∀ {xs : List α} {vs : List V} (n : Nat), All2 R xs vs → All2 R (xs.eraseIdx n) (vs.eraseIdx n)
  | [], [], _, _ => trivial
  | _ :: _, _ :: _, 0, h => h.2
  | _ :: _, _ :: _, n + 1, h => ⟨h.1, All2.erase n h.2⟩
  | [], _ :: _, _, h => h.elim
  | _ :: _, [], _, h => h.elim
theorem w_pop {r : α × List α} (W : Wd K B ctx L H) (j : Nat) (hj : L[j]? = some (oL t a xs)) (e : popO xs i = some r) (k : ∀ u H', Wd K B (fc t r.1 u :: ctx) (L.set j (oL t a r.2)) H' → Q u H') : rPopAt (.ref a) [.int i] H Q := by
  obtain ⟨N, F, W⟩ := W
  obtain ⟨o, h1, vs, rfl, h2⟩ := W.at_ _ (List.mem_of_getElem? hj)
  unfold popO at e
  by_cases hb : -(2 ^ 63) ≤ i ∧ i < 2 ^ 63
  · rw [if_pos hb] at e
    obtain ⟨m, e1, e⟩ := bndE e
    cases q : xs[m]? with
    | none => rw [q] at e; cases e
    | some x =>
      rw [q] at e
      cases e
      obtain ⟨u, hu, hr⟩ := h2.get q
      refine ⟨a, vs, i, m, u, rfl, rfl, h1, hb.1, hb.2, by rw [h2.len]; exact e1, hu, k u _ ?_⟩
      have W2 : Wd K B ctx (L.set j (oL t a (xs.eraseIdx m))) (upd H a (.lst (vs.eraseIdx m))) := Wd.put (o' := oL t a (xs.eraseIdx m)) W j hj rfl _ ⟨_, rfl, All2.erase m h2⟩
      obtain ⟨N2, F2, W2⟩ : ∃ N2 F2, WdI K B (fc t x u :: ctx) (L.set j (oL t a (xs.eraseIdx m))) (upd H a (.lst (vs.eraseIdx m))) N2 F2 := by
        have hoff := W.off _ (List.mem_of_getElem? hj)
        have P := W2
        refine Wd.put (o' := oL t a (xs.eraseIdx m)) (ctx := fc t x u :: ctx) ?_ j hj rfl _ ⟨_, rfl, All2.erase m h2⟩
        exact ⟨W.bF, W.nF, W.sep, W.fH, fun f hf => by
          rcases List.mem_cons.mp hf with rfl | hf
          · exact hr
          · exact W.facts f hf, W.at_, W.off, W.nd⟩
      exact ⟨N2, F2, W2⟩
  · rw [if_neg hb] at e
    cases e
/-- index of an int in a list of ints -/
def indexO (xs : List Int) (x : Int) : Option Int := (xs.findIdx? (· == x)).map fun n => (n : Int)
theorem w_index {xs : List Int} {x : Int} (W : Wd K B ctx L H) (h : Ls K ctx L t xs v) (e : indexO xs x = some n) (k : Q (.int n) H) : rIndex K v [.int x] H Q := by
  obtain ⟨N, F, W⟩ := W
  obtain ⟨a, vs, rfl, h1, h2⟩ := h B H N F W
  rw [all2_int h2] at h1
  unfold indexO at e
  cases q : xs.findIdx? (· == x) with
  | none => rw [q] at e; cases e
  | some m =>
    rw [q] at e
    cases e
    obtain ⟨hm, e1, e2⟩ := List.findIdx?_eq_some_iff_getElem.mp q
    refine ⟨a, _, .int x, m, .int xs[m], rfl, rfl, h1, rfl, ?_, ?_, ?_, ?_, k⟩
    · rw [List.all_eq_true]
      intro z hz
      obtain ⟨y, _, rfl⟩ := List.mem_map.mp hz
      rfl
    · rw [List.getElem?_map, List.getElem?_eq_getElem hm]
      rfl
    · have : xs[m] = x := by simpa using e1
      rw [this]
      simp [eqV]
    · intro l z hl hz
      rw [List.getElem?_map, List.getElem?_eq_getElem (by omega)] at hz
      cases hz
      have h3 := e2 l hl
      show (xs[l] == x) = false
      simpa using h3
/-- x in xs, of ints -/
theorem w_inG {xs : List Int} {x : Int} (neg : Bool) (W : Wd K B ctx L H) (h : Ls K ctx L t xs v) (k : Q (.bl (if neg then !decide (x ∈ xs) else decide (x ∈ xs))) H) : rIn K neg (.int x) v H Q := by
  obtain ⟨N, F, W⟩ := W
  obtain ⟨a, vs, rfl, h1, h2⟩ := h B H N F W
  rw [all2_int h2] at h1
  refine ⟨a, _, rfl, .inl h1, rfl, ?_, ?_⟩
  · rw [List.all_eq_true]
    intro z hz
    obtain ⟨y, _, rfl⟩ := List.mem_map.mp hz
    rfl
  · have e : inV (.int x) (xs.map V.int) = decide (x ∈ xs) := by
      unfold inV
      rw [List.any_map]
      rw [Bool.eq_iff_iff]
      simp only [List.any_eq_true, Function.comp, decide_eq_true_eq]
      constructor
      · rintro ⟨y, hy, e⟩
        have : (y == x) = true := e
        have : y = x := by simpa using this
        rwa [← this]
      · intro hx
        exact ⟨x, hx, by show (x == x) = true; simp⟩
    rw [e]
    exact k
theorem w_in {xs : List Int} {x : Int} (W : Wd K B ctx L H) (h : Ls K ctx L t xs v) (k : Q (.bl (decide (x ∈ xs))) H) : rIn K false (.int x) v H Q := w_inG false W h k
theorem w_notIn {xs : List Int} {x : Int} (W : Wd K B ctx L H) (h : Ls K ctx L t xs v) (k : Q (.bl (!decide (x ∈ xs))) H) : rIn K true (.int x) v H Q := w_inG true W h k
/-- if-else as an expression: kinds that stand for themselves -/
theorem w_iteI {b : Bool} (x : Int) {ta tb : TE} (W : Wd K B ctx L H) (h1 : b = true → ∀ P' : VK, (∀ d H', d = x → Wd K B ctx L' H' → P' (.int d) H') → ta σ H P') (h2 : b = false → ∀ P' : VK, (∀ d H', d = x → Wd K B ctx L' H' → P' (.int d) H') → tb σ H P') (h3 : ∀ H', Wd K B ctx L' H' → Q (.int x) H') : if b = true then ta σ H Q else tb σ H Q :=
  w_ite (fun d H' => d = .int x ∧ Wd K B ctx L' H') (fun hb P' q => h1 hb P' fun d H' e W => q _ H' ⟨by rw [e], W⟩) (fun hb P' q => h2 hb P' fun d H' e W => q _ H' ⟨by rw [e], W⟩) (fun d H' ⟨e, W⟩ => by rw [e]; exact h3 H' W)
/-- a rule's reading of an index that is a truth -/
def rIxTr (K : PySem.W.Frag) : R2 := fun x y H Q => ∃ p xs b v, x = .ref p ∧ y = .bl b ∧ SqL K H p xs ∧ atI xs (if b then 1 else 0) = some v ∧ Q v H
end
end PB

namespace PB
open PySem PySem.Spec PyProof.Rows L2
open PySem.W (alike alikeAll dataLt AlikeAll minD maxD Datum DatumOrd minOf maxOf lt_data gt_data le_data ge_data min_list_data max_list_data alike_unique readsAll_atA minD_map maxD_map alikeAll_datum depthAll_map)
/-! ### order of data: lists of ints, pairs -/
section
variable {X : Cx}
def rLtD (K : PySem.W.Frag) (g : PyData → PyData → Bool) : R2 := fun x y H Q => ∃ d e, Dp K H x d ∧ Dp K H y e ∧ alike d e = true ∧ d ≠ .none ∧ d.depth ≤ 60 ∧ Q (.bl (g d e)) H
def rLtA (K : PySem.W.Frag) : R2 := fun x y H Q => rI0 (fun i j => .bl (decide (i < j))) x y H Q ∨ rLtD K (fun d e => dataLt d e) x y H Q
def rLeA (K : PySem.W.Frag) : R2 := fun x y H Q => rI0 (fun i j => .bl (decide (i ≤ j))) x y H Q ∨ rLtD K (fun d e => !dataLt e d) x y H Q
def rGtA (K : PySem.W.Frag) : R2 := fun x y H Q => rI0 (fun i j => .bl (decide (j < i))) x y H Q ∨ rLtD K (fun d e => dataLt e d) x y H Q
def rGeA (K : PySem.W.Frag) : R2 := fun x y H Q => rI0 (fun i j => .bl (decide (j ≤ i))) x y H Q ∨ rLtD K (fun d e => !dataLt d e) x y H Q
theorem op_ltA (hu : X.A.units + 64 < cLine) : OpR X (compareOp .Lt) (rLtA X.K) := fun pins s σ H x y v u Q I rx ry h => by
  rcases h with h | h
  · exact op_lt pins s σ H x y v u Q I rx ry h
  · obtain ⟨d, e, hd, he, ha, hn, hp, q⟩ := h
    obtain ⟨as, r1⟩ := Dp.reads I d x v hd rx
    obtain ⟨bs, r2⟩ := Dp.reads I e y u he ry
    exact lt_data r1 r2 ha hn (by omega) ⟨.bl _, H, I, rfl, q⟩
theorem op_leA (hu : X.A.units + 64 < cLine) : OpR X (compareOp .LtE) (rLeA X.K) := fun pins s σ H x y v u Q I rx ry h => by
  rcases h with h | h
  · exact op_le pins s σ H x y v u Q I rx ry h
  · obtain ⟨d, e, hd, he, ha, hn, hp, q⟩ := h
    obtain ⟨as, r1⟩ := Dp.reads I d x v hd rx
    obtain ⟨bs, r2⟩ := Dp.reads I e y u he ry
    exact le_data r1 r2 ha hn (by omega) ⟨.bl _, H, I, rfl, q⟩
theorem op_gtA (hu : X.A.units + 64 < cLine) : OpR X (compareOp .Gt) (rGtA X.K) := fun pins s σ H x y v u Q I rx ry h => by
  rcases h with h | h
  · exact op_gt pins s σ H x y v u Q I rx ry h
  · obtain ⟨d, e, hd, he, ha, hn, hp, q⟩ := h
    obtain ⟨as, r1⟩ := Dp.reads I d x v hd rx
    obtain ⟨bs, r2⟩ := Dp.reads I e y u he ry
    exact gt_data r1 r2 ha hn (by omega) ⟨.bl _, H, I, rfl, q⟩
theorem op_geA (hu : X.A.units + 64 < cLine) : OpR X (compareOp .GtE) (rGeA X.K) := fun pins s σ H x y v u Q I rx ry h => by
  rcases h with h | h
  · exact op_ge pins s σ H x y v u Q I rx ry h
  · obtain ⟨d, e, hd, he, ha, hn, hp, q⟩ := h
    obtain ⟨as, r1⟩ := Dp.reads I d x v hd rx
    obtain ⟨bs, r2⟩ := Dp.reads I e y u he ry
    exact ge_data r1 r2 ha hn (by omega) ⟨.bl _, H, I, rfl, q⟩
theorem vals_back : ∀ {xs : List V} {us : List Value} {i : Nat} {u : Value}, Vals xs us → us[i]? = some u → ∃ x, xs[i]? = some x ∧ RelV x u
  | _, _, i, u, .nil, e => by simp at e
  | _, _, 0, u, .cons r t, e => by
    simp at e
    subst e
    exact ⟨_, rfl, r⟩
  | _, _, i + 1, u, .cons r t, e => by
    obtain ⟨x, h1, h2⟩ := vals_back (i := i) t (by simpa using e)
    exact ⟨x, by simpa using h1, h2⟩
theorem minD_mem : ∀ (ds : List PyData) (d : PyData), minD d ds ∈ d :: ds
  | [], d => List.mem_cons_self
  | e :: ds, d => by
    have h : minD d (e :: ds) = minD (if dataLt e d = true then e else d) ds := rfl
    rw [h]
    have ih := minD_mem ds (if dataLt e d = true then e else d)
    rcases List.mem_cons.mp ih with h | h
    · rw [h]
      split
      · exact List.mem_cons_of_mem _ List.mem_cons_self
      · exact List.mem_cons_self
    · exact List.mem_cons_of_mem _ (List.mem_cons_of_mem _ h)
theorem maxD_mem : ∀ (ds : List PyData) (d : PyData), maxD d ds ∈ d :: ds
  | [], d => List.mem_cons_self
  | e :: ds, d => by
    have h : maxD d (e :: ds) = maxD (if dataLt d e = true then e else d) ds := rfl
    rw [h]
    have ih := maxD_mem ds (if dataLt d e = true then e else d)
    rcases List.mem_cons.mp ih with h | h
    · rw [h]
      split
      · exact List.mem_cons_of_mem _ List.mem_cons_self
      · exact List.mem_cons_self
    · exact List.mem_cons_of_mem _ (List.mem_cons_of_mem _ h)
/-- min(xs), max(xs) of a list of data -/
def rBestD (K : PySem.W.Frag) (g : PyData → List PyData → PyData) : List V → Hp → VK → Prop := fun vs H Q => ∃ (a : Addr) (xs : List V) (d : PyData) (ds : List PyData), vs = [V.ref a] ∧ SqL K H a xs ∧ DpAll K H xs (d :: ds) ∧ AlikeAll (d :: ds) ∧ PyData.depthAll (d :: ds) ≤ 60 ∧
  ∀ (i : Nat) (x : V), xs[i]? = some x → (d :: ds)[i]? = some (g d ds) → Q x H
def rMinA (K : PySem.W.Frag) : List V → Hp → VK → Prop := fun vs H Q => rMin K vs H Q ∨ rBestD K minD vs H Q
def rMaxA (K : PySem.W.Frag) : List V → Hp → VK → Prop := fun vs H Q => rMax K vs H Q ∨ rBestD K maxD vs H Q
theorem getD_get {ds : List PyData} {i : Nat} (h : i < ds.length) : ds[i]? = some (ds.getD i .none) := by
  rw [List.getElem?_eq_getElem h, List.getD_eq_getElem?_getD, List.getElem?_eq_getElem h]
  rfl
theorem cr_minA (hc : X.calm = true) (hu : X.A.units + 64 < cLine) : CallR X (.builtin "min") (rMinA X.K) := by
  intro pins s σ H vs us Q I r h
  rcases h with h | h
  · exact cr_min hc pins s σ H vs us Q I r h
  obtain ⟨a, xs, d, ds, rfl, hs, hd, ha, hp, q⟩ := h
  obtain ⟨its, rv, hl, _⟩ := I.list hs
  rw [Vals.ref1 r]
  obtain ⟨as, hr⟩ := Dp.readsAll I (d :: ds) xs its hd rv
  refine min_list_data (I.ok.hd hc) hl.isList hr ha (by omega) fun i v h' tk bs hv hm hk => ?_
  obtain ⟨x, hx, hxv⟩ := vals_back (i := i) (u := v) rv (by simpa using hv)
  obtain ⟨bs', hr', hlt, hmem, _⟩ := readsAll_atA hr i v hv
  have e := alike_unique _ _ v bs' bs (ha.1 _ hmem _ (minD_mem ds d)) (Reads.keeps hk hr') hm
  exact ⟨x, H, I.kept hk, hxv, q i x hx (by rw [getD_get hlt, e])⟩
theorem cr_maxA (hc : X.calm = true) (hu : X.A.units + 64 < cLine) : CallR X (.builtin "max") (rMaxA X.K) := by
  intro pins s σ H vs us Q I r h
  rcases h with h | h
  · exact cr_max hc pins s σ H vs us Q I r h
  obtain ⟨a, xs, d, ds, rfl, hs, hd, ha, hp, q⟩ := h
  obtain ⟨its, rv, hl, _⟩ := I.list hs
  rw [Vals.ref1 r]
  obtain ⟨as, hr⟩ := Dp.readsAll I (d :: ds) xs its hd rv
  refine max_list_data (I.ok.hd hc) hl.isList hr ha (by omega) fun i v h' tk bs hv hm hk => ?_
  obtain ⟨x, hx, hxv⟩ := vals_back (i := i) (u := v) rv (by simpa using hv)
  obtain ⟨bs', hr', hlt, hmem, _⟩ := readsAll_atA hr i v hv
  have e := alike_unique _ _ v bs' bs (ha.1 _ hmem _ (maxD_mem ds d)) (Reads.keeps hk hr') hm
  exact ⟨x, H, I.kept hk, hxv, q i x hx (by rw [getD_get hlt, e])⟩
end
section
variable {K : PySem.W.Frag} {H : Hp} {Q : VK} {i j : Int}
theorem i_ltA (h : Q (.bl (decide (i < j))) H) : rLtA K (.int i) (.int j) H Q := .inl (i_I0 h)
theorem i_leA (h : Q (.bl (decide (i ≤ j))) H) : rLeA K (.int i) (.int j) H Q := .inl (i_I0 h)
theorem i_gtA (h : Q (.bl (decide (i > j))) H) : rGtA K (.int i) (.int j) H Q := .inl (i_I0 h)
theorem i_geA (h : Q (.bl (decide (i ≥ j))) H) : rGeA K (.int i) (.int j) H Q := .inl (i_I0 h)
end
section
variable {H : Hp} {σ : L2.St} {ta : TA} {nx : L2.St → Hp → Prop} {rt : VK} {bk ct : L2.St → Hp → Prop}
theorem i_par2 {i j : Nat} (h : ta σ H fun vs H1 => ∃ v w, vs = [v, w] ∧ nx ((σ.set i (some v)).set j (some w)) H1) : tPar i j ta ⟨nx, rt, bk, ct⟩ σ H := h
theorem i_par3 {i j l : Nat} (h : ta σ H fun vs H1 => ∃ u v w, vs = [u, v, w] ∧ nx (((σ.set i (some u)).set j (some v)).set l (some w)) H1) : tPar3 i j l ta ⟨nx, rt, bk, ct⟩ σ H := h
end
theorem pe_revK {X : Cx} {K : PySem.W.Frag} {e : Expr} {te : TE} {k : Nat} {p1 p2 p3 pos : Pos} (he : PE X e te) (hK : X.K = K := by rfl) : PE X (.Subscript e (.Slice none none (some (.UnaryOp .USub (.Constant (.int 1) k p1) p2)) p3) pos) (tRevL K te) := by
  subst hK
  exact pe_revL he
/-! ### with types -/
class RpQ (α : Type) [Rp α] [RpD α] [DecidableEq α] [DatumOrd α] : Prop where
  dc : ∀ x : α, RpD.d x = Datum.toD x
instance : RpQ Int := ⟨fun _ => rfl⟩
section
variable {α β : Type} [Rp α] [RpD α] [DecidableEq α] [DatumOrd α] [RpQ α] [Rp β] [RpD β] [DecidableEq β] [DatumOrd β] [RpQ β]
theorem dc_all (xs : List α) : xs.map RpD.d = xs.map Datum.toD := List.map_congr_left fun x _ => RpQ.dc x
instance : RpQ (List α) := ⟨fun xs => by show PyData.list (xs.map RpD.d) = .list (xs.map Datum.toD); rw [dc_all]⟩
instance : RpQ (α × β) := ⟨fun x => by show PyData.tuple [RpD.d x.1, RpD.d x.2] = .tuple [Datum.toD x.1, Datum.toD x.2]; rw [RpQ.dc, RpQ.dc]⟩
def ltO (x y : α) : Option Bool := if Datum.depth α ≤ 60 then some (DatumOrd.lt x y) else none
def minQ : List α → Option α
  | [] => none
  | x :: xs => if Datum.depth α ≤ 59 then some (minOf x xs) else none
def maxQ : List α → Option α
  | [] => none
  | x :: xs => if Datum.depth α ≤ 59 then some (maxOf x xs) else none
theorem toD_inj {x y : α} (h : (Datum.toD x : PyData) = Datum.toD y) : x = y := by
  have e : decide (x = y) = decide (y = y) := by rw [← Datum.eqv x y, ← Datum.eqv y y, h]
  rw [decide_eq_true (rfl : y = y)] at e
  exact of_decide_eq_true e
variable {K : PySem.W.Frag} {B H : Hp} {ctx : List Fact} {L : List Own} {t : Bool} {x y : α} {xs : List α} {v w : V} {Q : VK} {b : Bool}
theorem w_cmpQ {g : PyData → PyData → Bool} (W : Wd K B ctx L H) (h : Ar K ctx L x v) (h' : Ar K ctx L y w) (hd : Datum.depth α ≤ 60) (k : Q (.bl (g (Datum.toD x) (Datum.toD y))) H) : rLtD K g v w H Q := by
  obtain ⟨N, F, W⟩ := W
  have h1 := RpD.dp (h B H N F W)
  have h2 := RpD.dp (h' B H N F W)
  rw [RpQ.dc] at h1 h2
  exact ⟨_, _, h1, h2, DatumOrd.alike x y, DatumOrd.notNone x, Nat.le_trans (Datum.depth_le x) hd, k⟩
theorem w_ltQ (W : Wd K B ctx L H) (h : Ar K ctx L x v) (h' : Ar K ctx L y w) (e : ltO x y = some b) (k : Q (.bl b) H) : rLtA K v w H Q := by
  obtain ⟨hd, rfl⟩ := guardE e
  exact .inr (w_cmpQ W h h' hd (by rw [DatumOrd.lt_eq]; exact k))
theorem w_gtQ (W : Wd K B ctx L H) (h : Ar K ctx L x v) (h' : Ar K ctx L y w) (e : ltO y x = some b) (k : Q (.bl b) H) : rGtA K v w H Q := by
  obtain ⟨hd, rfl⟩ := guardE e
  exact .inr (w_cmpQ W h h' hd (by rw [DatumOrd.lt_eq]; exact k))
theorem w_leQ (W : Wd K B ctx L H) (h : Ar K ctx L x v) (h' : Ar K ctx L y w) (e : ltO y x = some b) (k : Q (.bl (!b)) H) : rLeA K v w H Q := by
  obtain ⟨hd, rfl⟩ := guardE e
  exact .inr (w_cmpQ W h h' hd (by rw [DatumOrd.lt_eq]; exact k))
theorem w_geQ (W : Wd K B ctx L H) (h : Ar K ctx L x v) (h' : Ar K ctx L y w) (e : ltO x y = some b) (k : Q (.bl (!b)) H) : rGeA K v w H Q := by
  obtain ⟨hd, rfl⟩ := guardE e
  exact .inr (w_cmpQ W h h' hd (by rw [DatumOrd.lt_eq]; exact k))
theorem all2_back : ∀ {xs : List α} {vs : List V} {R : α → V → Prop} {i : Nat} {u : V}, All2 R xs vs → vs[i]? = some u → ∃ x, xs[i]? = some x ∧ R x u
  | _ :: _, _ :: _, R, 0, u, h, e => by
    simp at e
    subst e
    exact ⟨_, rfl, h.1⟩
  | _ :: _, _ :: _, R, i + 1, u, h, e => by
    obtain ⟨x, h1, h2⟩ := all2_back (i := i) h.2 (by simpa using e)
    exact ⟨x, by simpa using h1, h2⟩
  | [], [], R, i, u, h, e => by simp at e
  | [], _ :: _, R, i, u, h, e => h.elim
  | _ :: _, [], R, i, u, h, e => h.elim
theorem w_bestQ {g : PyData → List PyData → PyData} {m : α} {x : α} (W : Wd K B ctx L H) (h : Ls K ctx L t (x :: xs) v) (hd : Datum.depth α ≤ 59) (hg : g (Datum.toD x) (xs.map Datum.toD) = Datum.toD m) (k : ∀ u, Wd K B (fc t m u :: ctx) L H → Q u H) : rBestD K g [v] H Q := by
  obtain ⟨N, F, W⟩ := W
  obtain ⟨a, vs, rfl, h1, h2⟩ := h B H N F W
  have hdp := all2_dp (xs := x :: xs) (All2.mono (fun _ _ r => Rp.mono (reg_A W.nF W.fH) r) h2)
  rw [dc_all] at hdp
  refine ⟨a, vs, _, _, rfl, h1, hdp, alikeAll_datum (x :: xs), Nat.le_trans (depthAll_map (x :: xs)) (by omega), fun i u hu he => ?_⟩
  obtain ⟨z, hz, r⟩ := all2_back h2 hu
  rw [hg, ← List.map_cons, List.getElem?_map, hz] at he
  have e := toD_inj (Option.some.inj he)
  subst e
  refine k u ⟨N, F, W.bF, W.nF, W.sep, W.fH, fun f hf => ?_, W.at_, W.off, W.nd⟩
  rcases List.mem_cons.mp hf with rfl | hf
  · exact r
  · exact W.facts f hf
theorem w_minQ {m : α} (W : Wd K B ctx L H) (h : Ls K ctx L t xs v) (e : minQ xs = some m) (k : ∀ u, Wd K B (fc t m u :: ctx) L H → Q u H) : rMinA K [v] H Q := by
  cases xs with
  | nil => cases e
  | cons x xs =>
    obtain ⟨hd, rfl⟩ := guardE e
    exact .inr (w_bestQ W h hd (minD_map x xs) k)
theorem w_maxQ {m : α} (W : Wd K B ctx L H) (h : Ls K ctx L t xs v) (e : maxQ xs = some m) (k : ∀ u, Wd K B (fc t m u :: ctx) L H → Q u H) : rMaxA K [v] H Q := by
  cases xs with
  | nil => cases e
  | cons x xs =>
    obtain ⟨hd, rfl⟩ := guardE e
    exact .inr (w_bestQ W h hd (maxD_map x xs) k)
end
end PB

namespace PB
open PySem PySem.Spec PyProof.Rows L2
section
variable {K : PySem.W.Frag} {B H H' : Hp} {ctx : List Fact} {L L' : List Own} {t t' : Bool} {α β γ : Type} [Rp α] [Rp β] [Rp γ] {x : α} {y : β} {xs ys : List α} {v w u : V} {vs : List V} {a p q c : Addr} {Q : VK} {i j k n : Int} {σ : L2.St} {f : Fact}
theorem w_lenR (W : Wd K B ctx L H) (m : Nat) (hm : ctx[m]? = some (fR t vs (.ref a))) (hl : vs.length = 2) (k : Q (.int 2) H) : rLen K [.ref a] H Q := by
  obtain ⟨N, F, W⟩ := W
  obtain ⟨a', ea, h1⟩ := W.facts _ (List.mem_of_getElem? hm)
  cases ea
  match vs, hl with
  | [v, w], _ => exact i_lenT ((reg_A W.nF W.fH).t _ _ h1) k
/-! ### a list of one's own lists -/
def fRL (t : Bool) (vs : List V) (v : V) : Fact := ⟨fun K N F => ∃ a, v = .ref a ∧ (reg t K N F).l a vs, fun h1 h2 ⟨a, e, h⟩ => ⟨a, e, (reg_mono h1 h2).l _ _ h⟩⟩
theorem Wd.newF (W : WdI K B ctx L H N F) (hp : H p = Option.none) (t : Bool) (h : ∀ N' F', Same N N' → Same F F' → (reg t K N' F').l p vs → f.P K N' F') : Wd K B (f :: ctx) L (upd H p (.lst vs)) := by
  have hF : F p = Option.none := W.fH.free hp
  have hN : N p = Option.none := W.nF.free hF
  have hB : B p = Option.none := W.bF.free hF
  have keep : ∀ {G : Hp}, G p = Option.none → Same G (upd G p (.lst vs)) := fun hG b u e => by
    rw [upd_ne (ne_of_none e hG)]
    exact e
  have up : ∀ {G G' : Hp}, Same G G' → G' p = Option.none → Same (upd G p (.lst vs)) (upd G' p (.lst vs)) := fun s hG b u e => by
    by_cases h : b = p
    · rw [h, upd_same] at e ⊢
      exact e
    · rw [upd_ne h] at e ⊢
      exact s b u e
  refine ⟨upd N p (.lst vs), upd F p (.lst vs), W.bF.trans (keep hF), up W.nF hF, fun b u e => ?_, up W.fH hp, fun f hf => ?_, fun o ho => ?_, fun o ho => ?_, W.nd⟩
  · by_cases h : b = p
    · rw [h]
      exact hB
    · rw [upd_ne h] at e
      exact W.sep b u e
  · rcases List.mem_cons.mp hf with rfl | hf
    · refine h _ _ (keep hN) (keep hF) ?_
      cases t
      · exact upd_same
      · exact upd_same
    · exact f.mono (keep hN) (keep hF) (W.facts f hf)
  · obtain ⟨u, e, r⟩ := W.at_ o ho
    exact ⟨u, by rw [upd_ne (ne_of_none e hp)]; exact e, o.mono (keep hN) (keep hF) r⟩
  · obtain ⟨u, e, r⟩ := W.at_ o ho
    rw [upd_ne (ne_of_none e hp)]
    exact W.off o ho
theorem w_lstR (W : Wd K B ctx L H) (hz : vs.length ≤ sizeLine) (k : ∀ p H', Wd K B (fRL true vs (.ref p) :: ctx) L H' → Q (.ref p) H') : rLst vs H Q := by
  obtain ⟨N, F, W⟩ := W
  exact ⟨hz, fun p hp => k p _ (Wd.newF W hp true fun N' F' _ _ h => ⟨p, rfl, h⟩)⟩
theorem w_ixRL (W : Wd K B ctx L H) (m : Nat) (hm : ctx[m]? = some (fRL t vs (.ref a))) (e : atI vs i = some u) (k : Q u H) : rIx K (.ref a) (.int i) H Q := by
  obtain ⟨N, F, W⟩ := W
  obtain ⟨a', ea, h1⟩ := W.facts _ (List.mem_of_getElem? hm)
  cases ea
  exact i_ixL (SqL.of ((reg_A W.nF W.fH).l _ _ h1)) e k
theorem Ar.lpair (j1 j2 : Nat) (h1 : L[j1]? = some (oL t p xs)) (h2 : L[j2]? = some (oL t' q ys)) (m : Nat) (hm : ctx[m]? = some (fRL true [.ref p, .ref q] (.ref a))) : Ar K ctx L [xs, ys] (.ref a) := fun B H N F W => by
  obtain ⟨a', e, h3⟩ := W.facts _ (List.mem_of_getElem? hm)
  cases e
  have g1 := Ar.lx (Lx.own j1 h1) B H N F W
  have g2 := Ar.lx (Lx.own j2 h2) B H N F W
  exact ⟨a, _, rfl, (reg_A W.nF W.fH).l _ _ h3, g1, g2, trivial⟩
end
/-- a list's method within a comprehension -/
theorem pe_bmK {X : Cx} {K : PySem.W.Frag} {name : Str} {T id : String} {o e : Expr} {es : List Expr} {to : TE} {t : TA} {r : V → List V → Hp → VK → Prop} {apos cpos : Pos} (pa : PlainAttrs T) (slot : Slot T name id) (hty : typeOf (.builtin id) = pure (.type "method_descriptor")) (hm : MtR X id r) (ho : PE X o to) (ha : PA X (e :: es) t) (hK : X.K = K := by rfl)
    (hbase : attributeBase o name X.env (eval o X.env) = eval o X.env := by rfl)
    (hfew : ((backTo cpos (starEach (e :: es) X.env)).all (fun x => !x.1) && (backToKw cpos (keywordEach [] X.env)).all (fun x => x.1.isSome)
      && decide ((e :: es).length + ([] : List Keyword).length + (if ([] : List Keyword).isEmpty then 0 else 1) < 30)) = true := by rfl)
    (hline : (apos.endLine == cpos.line) = true := by rfl) (hs : starEach (e :: es) X.env = (false, eval e X.env) :: starEach es X.env := by rfl) (hplain : (backTo cpos (starEach es X.env)).any (·.1) = false := by rfl) :
    PE X (.Call (.Attribute o name apos) (e :: es) [] cpos) (tBM K T r to t) := by
  subst hK
  exact pe_bm pa slot hty hm ho ha hbase hfew hline hs hplain
/-- a def under another name -/
theorem mkFnA {P : Program} {w : World} {K : PySem.W.Frag} {mg : Str → Option Value} {base : Heap} {x y qual : Str} {params : Arguments} {body : List Stmt} {scope : Scope}
    {f : Addr} {fd : FuncData} {ps : List Str} {k : Nat} {sp : Sp} (F : FunD K x qual params body scope [] [] f fd) (hm : mg y = some (.ref f))
    (hb : ∀ (kV doc pm : Value) (an : Option Addr) (cdv ct : Value) (us : List Value), us.length = ps.length →
      bindArgs (PySem.W.fnOf x qual params body scope .none kV doc pm an cdv ct) ⟨us, []⟩ = pure (ps.zip us))
    (G : FnG P w K mg base k f fd ps sp) : Fn P w K mg base k y ps sp := ⟨f, fd, hm, F.kp, F.bindsN hb, G⟩
/-! ### one thing or another -/
inductive Un (α β : Type) where
  | l (x : α)
  | r (y : β)
  deriving DecidableEq
section
variable {α β γ : Type} [Rp α] [Rp β] [Rp γ]
def repUn (S : Lk) : Un α β → V → Prop
  | .l x, v => Rp.rep S x v
  | .r y, v => Rp.rep S y v
instance : Rp (Un α β) := ⟨repUn, fun {S T x v} s h => by
  cases x with
  | l y => exact Rp.mono (α := α) s h
  | r y => exact Rp.mono (α := β) s h⟩
instance [RpD α] [RpD β] : RpD (Un α β) := ⟨fun x => match x with
    | .l y => RpD.d y
    | .r y => RpD.d y, fun {K H x v} h => by
      cases x with
      | l y => exact RpD.dp (α := α) h
      | r y => exact RpD.dp (α := β) h, fun x => match x with
    | .l y => RpD.ty y
    | .r y => RpD.ty y, fun {K H x v} h => by
      cases x with
      | l y => exact RpD.tyx (α := α) h
      | r y => exact RpD.tyx (α := β) h, fun x => by
      cases x with
      | l y => exact RpD.tys y
      | r y => exact RpD.tys y⟩
def Un.getL : Un α β → Option α
  | .l x => some x
  | .r _ => none
def Un.getR : Un α β → Option β
  | .l _ => none
  | .r y => some y
instance : Co α (Un α β) := ⟨.l, fun h => h⟩
instance : Co β (Un α β) := ⟨.r, fun h => h⟩
instance (priority := low) : Co α α := ⟨id, fun h => h⟩
instance {δ : Type} [Rp δ] [Co α β] [Co γ δ] : Co (α × γ) (β × δ) := ⟨fun x => (Co.f x.1, Co.f x.2), fun ⟨a, u, w, e, h, r1, r2⟩ => ⟨a, u, w, e, h, Co.h r1, Co.h r2⟩⟩
variable {K : PySem.W.Frag} {B H : Hp} {ctx : List Fact} {L : List Own} {t : Bool} {v : V}
theorem Kn.unl {x : α} (h : Kn K ctx t x v) : Kn K ctx t (Un.l x : Un α β) v := fun N F s q => h N F s q
theorem Kn.unr {y : β} (h : Kn K ctx t y v) : Kn K ctx t (Un.r y : Un α β) v := fun N F s q => h N F s q
theorem Wd.getL {x : Un α β} {y : α} (W : Wd K B ctx L H) (h : Kn K ctx t x v) (e : x.getL = some y) : Wd K B (fc t y v :: ctx) L H := by
  cases x with
  | l z =>
    cases e
    exact W.know fun N F s q => h N F s q
  | r z => cases e
theorem Wd.getR {x : Un α β} {y : β} (W : Wd K B ctx L H) (h : Kn K ctx t x v) (e : x.getR = some y) : Wd K B (fc t y v :: ctx) L H := by
  cases x with
  | r z =>
    cases e
    exact W.know fun N F s q => h N F s q
  | l z => cases e
end
end PB
namespace PB
open PySem PySem.Spec PyProof.Rows L2
/-! ### a tuple whose list is one's own, of things that are no lists -/
class NoL (β : Type) [Rp β] : Prop where
  h : ∀ (S T : Lk) (x : β) (v : V), (∀ a vs, S.t a vs → T.t a vs) → Rp.rep S x v → Rp.rep T x v
instance (priority := low) {β : Type} [Rp β] [Flat β] : NoL β := ⟨fun S T x v _ h => Flat.h S T x v h⟩
instance {α β : Type} [Rp α] [Rp β] [NoL α] [NoL β] : NoL (α × β) := ⟨fun S T x v ht ⟨a, u, w, e, h, r1, r2⟩ => ⟨a, u, w, e, ht _ _ h, NoL.h _ _ _ _ ht r1, NoL.h _ _ _ _ ht r2⟩⟩
section
variable {K : PySem.W.Frag} {B H H' : Hp} {ctx : List Fact} {L : List Own} {t : Bool} {α β γ : Type} [Rp α] [Rp β] [Rp γ] {x : α} {v : V} {vs : List V} {a p : Addr}
theorem Ar.co [Co α β] {x : α} (h : Ar K ctx L x v) : Ar K ctx L (Co.f x : β) v := fun B H N F W => Co.h (h B H N F W)
theorem Res.unl {r : α × Un β γ} {y : β} (R : Res K H r v H') (e : r.2 = Un.l y) : Res K H (r.1, y) v H' := by
  obtain ⟨r1, r2⟩ := r
  cases e
  exact R
theorem Res.unr {r : α × Un β γ} {y : γ} (R : Res K H r v H') (e : r.2 = Un.r y) : Res K H (r.1, y) v H' := by
  obtain ⟨r1, r2⟩ := r
  cases e
  exact R
theorem Wd.callRawT {R : Hp} [NoL β] {ys : List β} {tup vs : List V} (W : Wd K B ctx L H) (s : Same H H') (sR : Same R H') (hR : ∀ a u, R a = some u → H a = Option.none) (hl : R a = some (.tup tup)) (hp : R p = some (.lst vs)) (hr : All2 (Rp.rep (lkN R)) ys vs) :
    Wd K B (fR true tup (.ref a) :: ctx) (oL true p ys :: L) H' := by
  obtain ⟨N, F, W⟩ := W
  have hn : H p = Option.none := hR p _ hp
  have J := Wd.joinI (L' := L) (R := PB.del R p) W (fun b u _ e => s b u e) (Same.del.trans sR) (fun a u e => hR a u (Same.del a u e)) (fun o ho => let ⟨h, e, q⟩ := W.at_ o ho; ⟨h, s _ _ e, fun N' F' a b => o.mono a b q⟩) rfl
  have rN : Same (PB.del R p) (join N (PB.del R p)) := join_r fun a u e => W.nF.free (W.fH.free (hR a u (Same.del a u e)))
  have tup_ne : ∀ {b : Addr} {us : List V}, R b = some (.tup us) → b ≠ p := fun hb e2 => by
    rw [e2, hp] at hb
    cases hb
  refine ⟨_, _, J.bF, J.nF, J.sep, J.fH, fun f hf => ?_, fun o ho => ?_, fun o ho => ?_, ?_⟩
  · rcases List.mem_cons.mp hf with rfl | hf
    · exact ⟨a, rfl, rN _ _ ((del_ne (tup_ne hl)).trans hl)⟩
    · exact J.facts f hf
  · rcases List.mem_cons.mp ho with rfl | ho
    · exact ⟨_, sR _ _ hp, vs, rfl, hr.mono fun _ _ q => NoL.h _ _ _ _ (fun b us hb => rN _ _ ((del_ne (tup_ne hb)).trans hb)) q⟩
    · exact J.at_ o ho
  · rcases List.mem_cons.mp ho with rfl | ho
    · show join F (PB.del R p) p = none
      unfold join
      rw [W.fH.free hn]
      exact del_same
    · exact J.off o ho
  · rw [List.map_cons]
    refine List.nodup_cons.mpr ⟨fun hm => ?_, J.nd⟩
    obtain ⟨q, hq, eq⟩ := List.mem_map.mp hm
    obtain ⟨u, e2, _⟩ := W.at_ q hq
    rw [eq] at e2
    rw [show (oL true p ys).a = p from rfl, hn] at e2
    cases e2
theorem Wd.callPT [Flat α] [NoL β] {r : α × List β} (W : Wd K B ctx L H) (r0 : Res K H r v H') : ∃ p a u, v = .ref a ∧ Wd K B (fc true r.1 u :: fR true [u, .ref p] (.ref a) :: ctx) (oL true p r.2 :: L) H' := by
  obtain ⟨R, s, sR, hR, a, u, w, e, hl, hr1, p, vs, ew, hp, hr⟩ := r0
  subst ew
  refine ⟨p, a, u, e, (Wd.callRawT W s sR hR hl hp hr).know fun N F _ _ => Flat.h _ _ _ _ hr1⟩
end
end PB

namespace PB
open PySem PySem.Spec PyProof.Rows L2
/-! ### defs that tell parts of what is handed in: all within what the asker knows as new -/
def ResN (K : PySem.W.Frag) (N0 H : Hp) {α : Type} [Rp α] (r : α) (v : V) (H' : Hp) : Prop := ∃ N', Same N0 N' ∧ Same H H' ∧ Same N' H' ∧ (∀ a u, N' a = some u → H a = none ∨ N0 a = some u) ∧ Rp.rep (lkN N') r v
/-- the region stands within -/
def fN (N0 H0 : Hp) : Fact := ⟨fun _ N F => Same N0 N ∧ Same H0 F, fun h1 h2 ⟨a, b⟩ => ⟨a.trans h1, b.trans h2⟩⟩
def cutH (H N0 : Hp) : Hp := fun a => match N0 a with
  | some _ => none
  | none => H a
section
variable {K : PySem.W.Frag} {B H H' N0 H0 : Hp} {ctx : List Fact} {L : List Own} {α β : Type} [Rp α] [Rp β] {x : α} {v : V}
theorem Wd.startN (s : Same N0 H) : Wd K (cutH H N0) [fN N0 H] [] H := by
  refine ⟨N0, H, fun a u e => ?_, s, fun a u e => ?_, Same.refl H, fun f hf => ?_, (fun _ h => nomatch h), (fun _ h => nomatch h), List.nodup_nil⟩
  · unfold cutH at e
    cases q : N0 a with
    | some w => rw [q] at e; cases e
    | none => rw [q] at e; exact e
  · unfold cutH
    rw [e]
  · rw [List.mem_singleton.mp hf]
    exact ⟨Same.refl _, Same.refl _⟩
theorem Wd.argN (W : Wd K B ctx L H) (m : Nat) (hm : ctx[m]? = some (fN N0 H0)) (h : Rp.rep (lkN N0) x v) : Wd K B (fc true x v :: ctx) L H :=
  W.add fun N F W => Rp.mono (lkN_mono (W.facts _ (List.mem_of_getElem? hm)).1) h
theorem Wd.resN (W : Wd K (cutH H0 N0) ctx L H) (m : Nat) (hm : ctx[m]? = some (fN N0 H0)) (h : Kn K ctx true x v) : ResN K N0 H0 x v H := by
  obtain ⟨N, F, W⟩ := W
  obtain ⟨s1, s2⟩ := W.facts _ (List.mem_of_getElem? hm)
  refine ⟨N, s1, s2.trans W.fH, W.nF.trans W.fH, fun a u e => ?_, h N F W.nF W.facts⟩
  have h1 := W.sep a u e
  unfold cutH at h1
  cases q : N0 a with
  | some w =>
    have := s1 a w q
    rw [e] at this
    exact .inr this.symm
  | none =>
    rw [q] at h1
    exact .inl h1
theorem WdI.callN {N F : Hp} (W : WdI K B ctx L H N F) (r : ResN K N H x v H') : Wd K B (fc true x v :: ctx) L H' := by
  obtain ⟨N', s1, s2, s3, s4, hr⟩ := r
  have hF : ∀ a u, N' a = some u → F a = none ∨ F a = some u := fun a u e => by
    rcases s4 a u e with h | h
    · exact .inl (W.fH.free h)
    · exact .inr (W.nF a u h)
  have sN' : Same N' (join F N') := fun a u e => by
    unfold join
    rcases hF a u e with h | h
    · rw [h]
      exact e
    · rw [h]
  have sF : Same F (join F N') := join_l
  refine ⟨N', join F N', W.bF.trans sF, sN', fun a u e => ?_, fun a u e => ?_, fun f hf => ?_, fun o ho => ?_, fun o ho => ?_, W.nd⟩
  · rcases s4 a u e with h | h
    · exact W.bF.free (W.fH.free h)
    · exact W.sep a u h
  · rcases join_or e with e | e
    · exact s2 a u (W.fH a u e)
    · exact s3 a u e
  · rcases List.mem_cons.mp hf with rfl | hf
    · exact hr
    · exact f.mono s1 sF (W.facts f hf)
  · obtain ⟨u, e, q⟩ := W.at_ o ho
    exact ⟨u, s2 _ _ e, o.mono s1 sF q⟩
  · obtain ⟨u, e, q⟩ := W.at_ o ho
    have hoff := W.off o ho
    unfold join
    rw [hoff]
    show N' o.a = none
    cases q2 : N' o.a with
    | none => rfl
    | some w =>
      rcases s4 _ _ q2 with h | h
      · rw [e] at h
        cases h
      · have := W.nF _ _ h
        rw [hoff] at this
        cases this
theorem WdI.callNI {N F : Hp} {i : Int} (W : WdI K B ctx L H N F) (r : ResN K N H i v H') : v = .int i ∧ Wd K B ctx L H' := by
  have h := W.callN r
  exact ⟨h.eqI (Kn.at 0 rfl), h.drop 1 rfl⟩
theorem WdI.callNB {N F : Hp} {i : Bool} (W : WdI K B ctx L H N F) (r : ResN K N H i v H') : v = .bl i ∧ Wd K B ctx L H' := by
  have h := W.callN r
  exact ⟨h.eqB (Kn.at 0 rfl), h.drop 1 rfl⟩
/-- the asker's side: its region -/
theorem Wd.region (W : Wd K B ctx L H) {P : Prop} (h : ∀ N F, WdI K B ctx L H N F → P) : P := let ⟨N, F, W⟩ := W; h N F W
theorem knN {N F : Hp} (h : Kn K ctx true x v) (W : WdI K B ctx L H N F) : Rp.rep (lkN N) x v := h N F W.nF W.facts
theorem wdI (W : WdI K B ctx L H N0 H0) : Wd K B ctx L H := ⟨_, _, W⟩
end
/-! ### the same with a list that is changed, of things that the asker knows as new -/
def Res1N (K : PySem.W.Frag) (N0 H : Hp) (a : Addr) {α β : Type} [Rp α] [Rp β] (r : α × List β) (v : V) (H' : Hp) : Prop :=
  ∃ N', Same N0 N' ∧ But [a] H H' ∧ Same N' H' ∧ (∀ b u, N' b = some u → H b = none ∨ N0 b = some u) ∧ N' a = none ∧ Rp.rep (lkN N') r.1 v ∧ ∃ vs, H' a = some (.lst vs) ∧ All2 (Rp.rep (lkN N')) r.2 vs
section
variable {K : PySem.W.Frag} {B H H' N0 H0 N F : Hp} {ctx : List Fact} {L : List Own} {α β : Type} [Rp α] [Rp β] {x : α} {v : V} {a : Addr} {xs ys ys' : List β} {us : List V}
theorem Wd.mutN (s : Same N0 (PB.del H a)) (h : H a = some (.lst us)) (r : All2 (Rp.rep (lkN N0)) xs us) : Wd K (cutH (PB.del H a) N0) [fN N0 (PB.del H a)] [oL true a xs] H := by
  refine ⟨N0, PB.del H a, fun b u e => ?_, s, fun b u e => ?_, Same.del, fun f hf => ?_, fun o ho => ?_, fun o ho => ?_, by simp⟩
  · unfold cutH at e
    cases q : N0 b with
    | some w => rw [q] at e; cases e
    | none => rw [q] at e; exact e
  · unfold cutH
    rw [e]
  · rw [List.mem_singleton.mp hf]
    exact ⟨Same.refl _, Same.refl _⟩
  · obtain rfl := List.mem_singleton.mp ho
    exact ⟨_, h, us, rfl, r⟩
  · obtain rfl := List.mem_singleton.mp ho
    exact del_same
theorem Wd.res1N (W : Wd K (cutH (PB.del H0 a) N0) ctx L H) (m : Nat) (hm : ctx[m]? = some (fN N0 (PB.del H0 a))) (j : Nat) (hj : L[j]? = some (oL true a ys)) (h : Kn K ctx true x v) : Res1N K N0 H0 a (x, ys) v H := by
  obtain ⟨N, F, W⟩ := W
  obtain ⟨s1, s2⟩ := W.facts _ (List.mem_of_getElem? hm)
  obtain ⟨k, hk, vs, rfl, hr⟩ := W.at_ _ (List.mem_of_getElem? hj)
  have hoff : F a = none := W.off _ (List.mem_of_getElem? hj)
  have hNa : N a = none := W.nF.free hoff
  refine ⟨N, s1, But.of_del (s2.trans W.fH), W.nF.trans W.fH, fun b u e => ?_, hNa, h N F W.nF W.facts, vs, hk, hr⟩
  have hb : b ≠ a := fun z => by
    rw [z, hNa] at e
    cases e
  have h1 := W.sep b u e
  unfold cutH at h1
  cases q : N0 b with
  | some w =>
    have := s1 b w q
    rw [e] at this
    exact .inr this.symm
  | none =>
    rw [q] at h1
    exact .inl ((del_ne hb).symm.trans h1)
theorem WdI.ioN (W : WdI K B ctx L H N F) (j : Nat) (hj : L[j]? = some (oL true a xs)) : ∃ us, H a = some (.lst us) ∧ All2 (Rp.rep (lkN N)) xs us ∧ Same N (PB.del H a) := by
  obtain ⟨o, h1, vs, rfl, h2⟩ := W.at_ _ (List.mem_of_getElem? hj)
  exact ⟨vs, h1, h2, W.nF.trans (toDel W.fH (W.off _ (List.mem_of_getElem? hj)))⟩
theorem WdI.callN1 (W : WdI K B ctx L H N F) (j : Nat) (hj : L[j]? = some (oL true a ys)) (r : Res1N K N H a (x, ys') v H') : Wd K B (fc true x v :: ctx) (L.set j (oL true a ys')) H' := by
  obtain ⟨N', s1, s2, s3, s4, hNa, hr, vs, hv, hvs⟩ := r
  have hoff : F a = none := W.off _ (List.mem_of_getElem? hj)
  have hF : ∀ b u, N' b = some u → F b = none ∨ F b = some u := fun b u e => by
    rcases s4 b u e with h | h
    · exact .inl (W.fH.free h)
    · exact .inr (W.nF b u h)
  have sN' : Same N' (join F N') := fun b u e => by
    unfold join
    rcases hF b u e with h | h
    · rw [h]
      exact e
    · rw [h]
  have sF : Same F (join F N') := join_l
  have ea : (L.set j (oL true a ys')).map (·.a) = L.map (·.a) := by
    rw [List.map_set]
    refine List.ext_getElem? fun i => ?_
    rw [List.getElem?_set]
    by_cases hi : j = i
    · subst hi
      have := (List.getElem?_eq_some_iff.mp hj).1
      rw [if_pos rfl, if_pos (by rw [List.length_map]; exact this), List.getElem?_map, hj]
      rfl
    · rw [if_neg hi]
  have offJ : ∀ o ∈ L, o.a ≠ a → join F N' o.a = none := fun o ho _ => by
    obtain ⟨u, e, q⟩ := W.at_ o ho
    have ho2 := W.off o ho
    unfold join
    rw [ho2]
    show N' o.a = none
    cases q2 : N' o.a with
    | none => rfl
    | some w =>
      rcases s4 _ _ q2 with h | h
      · rw [e] at h
        cases h
      · have := W.nF _ _ h
        rw [ho2] at this
        cases this
  refine ⟨N', join F N', W.bF.trans sF, sN', fun b u e => ?_, fun b u e => ?_, fun f hf => ?_, fun o ho => ?_, fun o ho => ?_, by rw [ea]; exact W.nd⟩
  · rcases s4 b u e with h | h
    · exact W.bF.free (W.fH.free h)
    · exact W.sep b u h
  · rcases join_or e with e | e
    · refine s2 b u (fun hm => ?_) (W.fH b u e)
      rw [List.mem_singleton.mp hm, hoff] at e
      cases e
    · exact s3 b u e
  · rcases List.mem_cons.mp hf with rfl | hf
    · exact hr
    · exact f.mono s1 sF (W.facts f hf)
  · rcases setMem' W.nd hj ho with rfl | ⟨h1, h2⟩
    · exact ⟨_, hv, vs, rfl, hvs⟩
    · obtain ⟨u, e, q⟩ := W.at_ o h1
      exact ⟨u, s2 _ _ (fun hm => h2 (List.mem_singleton.mp hm)) e, o.mono s1 sF q⟩
  · rcases setMem' W.nd hj ho with rfl | ⟨h1, h2⟩
    · show join F N' a = none
      unfold join
      rw [hoff]
      exact hNa
    · exact offJ o h1 h2
theorem WdI.callN1B {i : Bool} (W : WdI K B ctx L H N F) (j : Nat) (hj : L[j]? = some (oL true a ys)) (r : Res1N K N H a (i, ys') v H') : v = .bl i ∧ Wd K B ctx (L.set j (oL true a ys')) H' := by
  have h := W.callN1 j hj r
  exact ⟨h.eqB (Kn.at 0 rfl), h.drop 1 rfl⟩
end
/-! ### tuples of three in order -/
open PySem.W PySem.SeqAt
section
variable {α β γ : Type} [DecidableEq α] [DatumOrd α] [DecidableEq β] [DatumOrd β] [DecidableEq γ] [DatumOrd γ]
theorem T3.ext' {p q : T3 α β γ} (h1 : p.a = q.a) (h2 : p.b = q.b) (h3 : p.c = q.c) : p = q := by
  cases p; cases q
  simp at h1 h2 h3
  rw [h1, h2, h3]
instance : Datum (T3 α β γ) where
  toD p := .tuple [Datum.toD p.a, Datum.toD p.b, Datum.toD p.c]
  plain p := by simp only [PyData.plain, PyData.plainAll, Datum.plain, Bool.and_self]
  eqv p q := by
    simp only [PyData.eqv, PyData.eqvAll, Datum.eqv, Bool.and_true, ← Bool.decide_and]
    exact decide_eq_decide.mpr ⟨fun e => T3.ext' e.1 e.2.1 e.2.2, fun e => by rw [e]; exact ⟨rfl, rfl, rfl⟩⟩
  depth := max (Datum.depth α) (max (Datum.depth β) (Datum.depth γ)) + 1
  depth_le p := by
    simp only [PyData.depth, PyData.depthAll]
    have h1 := Datum.depth_le p.a
    have h2 := Datum.depth_le p.b
    have h3 := Datum.depth_le p.c
    omega
def lt3 (p q : T3 α β γ) : Bool := if p.a = q.a then (if p.b = q.b then DatumOrd.lt p.c q.c else DatumOrd.lt p.b q.b) else DatumOrd.lt p.a q.a
instance : DatumOrd (T3 α β γ) where
  lt := lt3
  alike p q := by
    show PySem.W.alike (.tuple [_, _, _]) (.tuple [_, _, _]) = true
    simp only [PySem.W.alike, alikeAll, DatumOrd.alike, Bool.and_self]
  notNone a := fun e => by cases e
  lt_eq p q := by
    refine (dataLt_tuple _ _).trans ?_
    unfold lt3
    by_cases h : p.a = q.a
    · rw [if_pos h, dataLt_all_yes (DatumOrd.alike p.a q.a) (by rw [Datum.eqv, decide_eq_true_eq]; exact h)]
      by_cases h2 : p.b = q.b
      · rw [if_pos h2, dataLt_all_yes (DatumOrd.alike p.b q.b) (by rw [Datum.eqv, decide_eq_true_eq]; exact h2)]
        by_cases h3 : p.c = q.c
        · rw [dataLt_all_yes (DatumOrd.alike p.c q.c) (by rw [Datum.eqv, decide_eq_true_eq]; exact h3), lex_irrefl, h3]
          exact ((dataLt_self _).symm.trans (DatumOrd.lt_eq q.c q.c))
        · rw [dataLt_all_no (DatumOrd.alike p.c q.c) (by rw [Datum.eqv, decide_eq_false_iff_not]; exact h3)]
          exact DatumOrd.lt_eq p.c q.c
      · rw [if_neg h2, dataLt_all_no (DatumOrd.alike p.b q.b) (by rw [Datum.eqv, decide_eq_false_iff_not]; exact h2)]
        exact DatumOrd.lt_eq p.b q.b
    · rw [if_neg h, dataLt_all_no (DatumOrd.alike p.a q.a) (by rw [Datum.eqv, decide_eq_false_iff_not]; exact h)]
      exact DatumOrd.lt_eq p.a q.a
end
instance {α β γ : Type} [Rp α] [RpD α] [DecidableEq α] [DatumOrd α] [RpQ α] [Rp β] [RpD β] [DecidableEq β] [DatumOrd β] [RpQ β] [Rp γ] [RpD γ] [DecidableEq γ] [DatumOrd γ] [RpQ γ] : RpQ (T3 α β γ) := ⟨fun x => by show PyData.tuple [RpD.d x.a, RpD.d x.b, RpD.d x.c] = .tuple [Datum.toD x.a, Datum.toD x.b, Datum.toD x.c]; rw [RpQ.dc, RpQ.dc, RpQ.dc]⟩
end PB

namespace PB
open PySem PySem.Spec PyProof.Rows L2
/-! ### sorted(set(xs)) of a list of ints -/
def nilSet (w : World) : Obj := { cls := .type "set", dict := none, data := .set #[] 0 (.fresh 0 0 (!w.params.followText "set-order")) }
section
variable {P : Program} {w : World} {A : Around} {E : Value → Shared → Prop} {s : Shared}
theorem SetR.start {h : Heap} {a : Addr} (ns : List Int) (ho : h.get? a = some (nilSet w)) : SetR w h a (fun j => decide (j ∈ ns.take 0)) 0 := setR_new_at ho
/-- what stands behind set(list) -/
def SetDone (w : World) (s s' : Shared) (ns : List Int) : Prop := ∃ (h' : Heap) (tk c : Nat), s' = { s with heap := h', toks := tk } ∧ SetR w h' s.heap.objs.size (fun j => decide (j ∈ ns)) c ∧ c ≤ ns.length ∧ ∀ b o, s.heap.get? b = some o → h'.get? b = some o
theorem init_setL {l : Addr} {items : Array Value} {ns : List Int} (hh : A.handled = none) (hl : s.heap.IsList l items) (hi : IntsAre items.toList ns) (hb : ns.length + 1 < scanBound)
    {R : Result → Shared → Prop} (h : ∀ s', SetDone w s s' ns → R (.ok (.ret .none)) s') :
    codeAny (model P w) A (.call (.builtin "set.__init__") ⟨[.ref s.heap.objs.size, .ref l], []⟩) R { s with heap := s.heap.push (nilSet w) } := by
  have hz : items.size = ns.length := by
    have q := IntsAre.length hi
    rwa [Array.length_toList] at q
  have gS : (s.heap.push (nilSet w)).get? s.heap.objs.size = some (nilSet w) := Heap.get?_push_size _ rfl
  have hT : Shared.TypeIs { s with heap := s.heap.push (nilSet w) } (.ref s.heap.objs.size) "set" := ⟨_, gS, rfl⟩
  refine codeAny_call_builtin F.called_set.init.plain F.entry_set_init (check_set_init_1 hT ?_)
  have hlp : (s.heap.push (nilSet w)).IsList l items := hl.push _
  obtain ⟨ol, hol, hcl, nl, hdl⟩ := hlp
  obtain ⟨ocls, odict, odata, oslots⟩ := ol
  simp only at hcl hdl
  subst hcl
  subst hdl
  have u1 := F.sub_list_set
  have u2 := F.sub_list_frozenset
  have ne1 : (Value.type "list" == Value.type "dict") = false := by decide
  have hl2 : (s.heap.push (nilSet w)).IsList l items := hl.push _
  have hlt : l < s.heap.objs.size := by
    obtain ⟨o, ho, _⟩ := hl
    exact Heap.lt_size ho
  unfold Builtin.«set.__init__» noKeywords Builtin.Frozenset.updateFrom
  generalize hPI : pyIter = PI
  wp_walk
  subst hPI
  refine wpAny_pyIter_list hl2 ?_
  refine wpAny_bind (wpAny_runValue ?_)
  have h3 : A.in1.in1.handled = none := by simp [hh]
  have z1 : (s.heap.push (nilSet w)).objs.size = s.heap.objs.size + 1 := Heap.size_push ..
  have nI : l ≠ (s.heap.push (nilSet w)).objs.size := by rw [z1]; exact Nat.ne_of_lt (Nat.lt_succ_of_lt hlt)
  have nS : s.heap.objs.size ∉ [(s.heap.push (nilSet w)).objs.size, l] := by
    rw [z1]
    simp only [List.mem_cons, List.not_mem_nil, or_false, not_or]
    exact ⟨Nat.ne_of_lt (Nat.lt_succ_self _), Nat.ne_of_gt hlt⟩
  have hv : ∀ (i : Nat) (v : Value), items[i]? = some v → ∃ k t, ns[i]? = some k ∧ v = .int k t := fun i v e => by
    have hi' : i < ns.length := by rw [← hz]; exact (Array.getElem?_eq_some_iff.mp e).1
    obtain ⟨t, q⟩ := IntsAre.int_at hi i v (by rw [Array.getElem?_toList]; exact e)
    exact ⟨ns[i], t, List.getElem?_eq_getElem hi', by rw [q, List.getD_eq_getElem?_getD, List.getElem?_eq_getElem hi']; rfl⟩
  refine set_update_ints ((Walks.list h3 _ l nI items).toS) s.heap.objs.size nS ns hz hb hv (items.size - 0) 0 _ (by omega) (Nat.zero_le _)
    ?hT ⟨0, Nat.le_refl 0, ?hS⟩ ?hR
  case hT => exact ⟨⟨_, Heap.get?_push_size _ rfl, rfl, rfl⟩, hl2.push _⟩
  case hS => exact SetR.start ns (Heap.get?_push_of_some _ gS)
  case' hR => refine fun s' c hm hc hS => ?_
  obtain ⟨h', g2, d', tk', os'⟩ := s'
  obtain rfl : g2 = s.gens := hm.gens
  obtain rfl : d' = s.drawn := hm.drawn
  obtain rfl : os' = s.os := hm.os
  show wpAny _ _ _ _ _ _
  refine wpAny_pure ?_
  show wpAny _ _ (ret Value.none) _ _ _
  refine wpAny_pure (h _ ⟨h', tk', c, rfl, hS, by omega, fun b o e => ?_⟩)
  have b0 : b < s.heap.objs.size := Heap.lt_size e
  refine hm.heap b o ?_ (Heap.get?_push_of_some _ (Heap.get?_push_of_some _ e))
  rw [z1]
  simp only [List.mem_cons, List.not_mem_nil, or_false, not_or]
  exact ⟨Nat.ne_of_lt b0, Nat.ne_of_lt (Nat.lt_succ_of_lt b0)⟩
theorem call_setL {l : Addr} {items : Array Value} {ns : List Int} {Q : Value → Shared → Prop} (hh : A.handled = none) (hl : s.heap.IsList l items) (hi : IntsAre items.toList ns) (hb : ns.length + 1 < scanBound)
    (h : ∀ s', SetDone w s s' ns → Q (.ref s.heap.objs.size) s') : wpAny (model P w) A (call (.type "set") [.ref l]) Q E s := by
  obtain ⟨c, tl, hmro⟩ := F.called_set.mro
  have hmade := F.called_set.made
  have hsub := F.called_set.sub
  refine wpAny_call (codeAny_of_tree ?_)
  show wpAny _ _ (callAny (.type "set") _) _ _ _
  refine wpAny_pure ⟨Code.quiet_builtin _ (by decide +kernel), codeAny_builtin F.entry_type_call ?_⟩
  rw [Around.under_plain (weight_type_call_type "set" [.ref l] []) rfl]
  have h1 := F.called_set.notType
  have h2 := F.called_set.canCreate
  have hct := F.typeCall_set_1 (.ref l)
  repeat (any_goals (first | assumption | wp_step))
  refine codeAny_mono (code_set_led1 (.ref l) (E := E) (Q₁ := fun obj s1 => obj = .ref s.heap.objs.size ∧ s1 = { s with heap := s.heap.push (nilSet w) }) ⟨rfl, rfl⟩) fun r s1 hr => ?_
  cases r with
  | error e => exact hr
  | ok fl =>
    cases fl with
    | ret obj =>
      obtain ⟨rfl, rfl⟩ := hr
      have gS : (s.heap.push (nilSet w)).get? s.heap.objs.size = some (nilSet w) := Heap.get?_push_size _ rfl
      have hT : Shared.TypeIs { s with heap := s.heap.push (nilSet w) } (.ref s.heap.objs.size) "set" := ⟨_, gS, rfl⟩
      have hli := F.called_set.init.lookup
      have hbi := F.called_set.init.bind (.ref s.heap.objs.size)
      repeat (any_goals (first | assumption | wp_step))
      refine codeAny_mono (init_setL (R := wants (fun r s2 => r = .none ∧ SetDone w s s2 ns) E) (A := A.in1) (by simp [hh]) hl hi hb fun s' q => ⟨rfl, q⟩) fun r2 s2 hr2 => ?_
      cases r2 with
      | error e => exact hr2
      | ok fl2 =>
        cases fl2 with
        | ret r =>
          obtain ⟨rfl, q⟩ := hr2
          repeat (any_goals (first | assumption | wp_step))
          exact h _ q
        | _ => exact hr2.elim
    | _ => exact hr.elim
end
/-- sorted(found), any number of members -/
theorem sorted_setN {P : Program} {w : World} {A : Around} {E : Value → Shared → Prop} {s : Shared} {a : Addr} {S : Int → Bool} {n : Nat} {Q : Value → Shared → Prop} (R : SetR w s.heap a S n) (hh : A.handled = none) (hc : n ≤ 100000)
    (hQ : ∀ s' p (out : List Value) (c : Nat) (ns : List Int), (∀ b o, s.heap.get? b = some o → s'.heap.get? b = some o) → s'.gens = s.gens → s'.os = s.os → s.heap.objs.size ≤ p →
      s'.heap.get? p = some (seqObj "list" out.toArray c) → IntsAre out ns → ns.Pairwise (· < ·) → (∀ k, k ∈ ns ↔ S k = true) → ns.length = n → Q (.ref p) s') :
    wpAny (model P w) A (call (.builtin "sorted") [.ref a]) Q E s := by
  obtain ⟨o, es, ep, t, ho, hex, hd, g, nd, hm, hb, hf, hn, hr, hl⟩ := R
  refine Calls.call_function_entry kind_sorted plain_sorted entry_sorted (args_sorted1 _) ?_
  unfold Builtin.«sorted»
  refine wpAny_bind (m := checkCount "sorted" 1 1 _) (wpAny_pure ?_)
  refine wpAny_bind (collect_set (A := A.in1) hh ⟨o, ho, hex.1, hd⟩ hf hb hr hl fun s1 vs k1 hz g1 o1 pm => ?_)
  have hvl : vs.length = n := by rw [pm.length_eq, List.length_map, Array.length_toList]; exact hn
  have hI : IntsAre vs (vs.map Builtin.Re.reRawOf) := ints_of vs fun v hv => by
    obtain ⟨e, he, q⟩ := List.mem_map.mp (pm.mem_iff.mp hv)
    obtain ⟨k, tk, h1, _⟩ := g e he
    exact ⟨k, tk, by rw [← q]; exact h1⟩
  have pk : (vs.map Builtin.Re.reRawOf).Perm (es.toList.map keyOf) := by
    have q := pm.map Builtin.Re.reRawOf
    rw [List.map_map] at q
    exact q
  have hsz : vs.length ≤ sizeLine := by rw [hvl, sizeLine_eq]; omega
  refine wpAny_bind (wpAny_newList ?_ hsz)
  have hoL : (s1.heap.push (seqObj "list" vs.toArray 0)).get? s1.heap.objs.size = some (seqObj "list" vs.toArray 0) := Heap.get?_push_size _ rfl
  refine wpAny_bind (wpAny_holding (wpAny_call_entry slot_list_sort ⟨_, hoL, rfl⟩ entry_list_sort (SrtO.list_sort_ord SrtO.swo_int hoL hsz (fun h2 => SrtO.ints_sortable hI h2) fun out h1 h2 => ⟨_, rfl, ?_⟩) (args_list_sort _)))
  obtain ⟨c1, c2, c3⟩ := SrtO.ints_out hI h1 h2
  obtain ⟨c, hc⟩ := sortedHeap_at (vs := vs) (out := out.toArray) hoL
  have pn : (out.map SrtO.iv).Perm (es.toList.map keyOf) := c2.trans pk
  refine wpAny_pure ⟨_, rfl, hQ _ s1.heap.objs.size out c (out.map SrtO.iv) (fun b u e => ?_) g1 o1 hz hc c1 (lt_of_le_nodup _ c3 (pn.nodup_iff.mpr nd)) (fun k => by rw [pn.mem_iff, ← hm k]) ?_⟩
  · have q := k1 b u e
    have hlt := Heap.lt_size q
    show (sortedHeap (s1.heap.push (seqObj "list" vs.toArray 0)) s1.heap.objs.size vs out.toArray).get? b = some u
    rw [sortedHeap_old (Nat.ne_of_lt hlt) (by rw [size_push']; exact Nat.lt_succ_of_lt hlt)]
    exact Heap.get?_push_of_some _ q
  · rw [pn.length_eq, List.length_map, Array.length_toList]; exact hn
def rSrtSet (w : World) : List V → Hp → VK → Prop := fun vs H Q => ∃ (a : Addr) (S : Int → Bool) (n : Nat), vs = [V.ref a] ∧ H a = some (SetO w a S n) ∧ n ≤ 100000 ∧
  ∀ (ns : List Int) (p : Addr), ns.Pairwise (· < ·) → (∀ k : Int, k ∈ ns ↔ S k = true) → ns.length = n → H p = none → Q (.ref p) (upd H p (.lst (ns.map V.int)))
theorem cr_srtSet {X : Cx} (hc : X.calm = true) : CallR X (.builtin "sorted") (rSrtSet X.w) := by
  intro pins s σ H vs us Q I r h
  obtain ⟨a, S, n, rfl, ha, hn, q⟩ := h
  have R := setO_get I ha
  rw [Vals.ref1 r]
  refine sorted_setN R (I.ok.hd hc) hn fun s' p out c ns k g o hp hg hi hs hm hl => ?_
  have hlen : (ns.map V.int).length ≤ sizeLine := by rw [List.length_map, hl, sizeLine_eq]; omega
  have hn : H p = none := I.hok.fresh hp
  have J : Inv X pins σ (upd H p (.lst (ns.map V.int))) { s with heap := s'.heap, gens := s'.gens, drawn := s'.drawn, toks := s'.toks } :=
    I.call (ch := []) (Un.laid k hp hn) (I.hok.laid k hp ⟨hlen, out, c, vals_of_ints hi, hg⟩) (by rw [g]; exact I.bare) (fun _ z => nomatch z)
  have e : s' = { s with heap := s'.heap, gens := s'.gens, drawn := s'.drawn, toks := s'.toks } := by
    cases s'
    cases s
    cases o
    rfl
  rw [e]
  exact ⟨.ref p, _, J, rfl, q ns p hs hm hl hn⟩
/-- set(xs), a list of ints -/
def rSetL (w : World) (K : PySem.W.Frag) : List V → Hp → VK → Prop := fun vs H Q => ∃ (a : Addr) (ns : List Int), vs = [V.ref a] ∧ SqL K H a (ns.map V.int) ∧ ns.length ≤ 4000 ∧
  ∀ (p : Addr) (c : Nat), H p = none → c ≤ ns.length → Q (.ref p) (upd H p (SetO w p (fun j => decide (j ∈ ns)) c))
theorem cr_setL {X : Cx} (hc : X.calm = true) : CallR X (.type "set") (rSetL X.w X.K) := by
  intro pins s σ H vs us Q I r h
  obtain ⟨a, ns, rfl, hs, hl, q⟩ := h
  obtain ⟨its, rv, pl, hz⟩ := I.list hs
  rw [Vals.ref1 r]
  have hi : IntsAre its.toArray.toList ns := ints_of_vals rv
  refine call_setL (I.ok.hd hc) pl.isList hi (by unfold scanBound; omega) fun s' ⟨h', tk, c, e, R, hcn, k⟩ => ?_
  rw [e]
  exact ⟨.ref _, upd H s.heap.objs.size (SetO X.w s.heap.objs.size (fun j => decide (j ∈ ns)) c), I.laid (t' := tk) k (Nat.le_refl _) (setO_new R), rfl, q _ c (I.hok.fresh (Nat.le_refl _)) hcn⟩
/-- the members in order, each once -/
def insI (x : Int) : List Int → List Int
  | [] => [x]
  | y :: ys => if x < y then x :: y :: ys else if x = y then y :: ys else y :: insI x ys
def ssetI (xs : List Int) : List Int := xs.foldr insI []
def ssetO (xs : List Int) : Option (List Int) := if xs.length ≤ 4000 then some (ssetI xs) else none
theorem insI_mem (x : Int) : ∀ (ys : List Int) (z : Int), z ∈ insI x ys ↔ z = x ∨ z ∈ ys
  | [], z => by simp [insI]
  | y :: ys, z => by
    unfold insI
    split
    · simp
    · split
      · rename_i h
        simp [h]
      · rw [List.mem_cons, insI_mem x ys z, List.mem_cons]
        grind
theorem insI_pw (x : Int) : ∀ (ys : List Int), ys.Pairwise (· < ·) → (insI x ys).Pairwise (· < ·)
  | [], _ => List.pairwise_singleton _ _
  | y :: ys, h => by
    obtain ⟨h1, h2⟩ := List.pairwise_cons.mp h
    unfold insI
    split
    · rename_i c
      exact List.pairwise_cons.mpr ⟨fun z hz => by
        rcases List.mem_cons.mp hz with rfl | hz
        · exact c
        · exact Int.lt_trans c (h1 z hz), h⟩
    · split
      · exact h
      · refine List.pairwise_cons.mpr ⟨fun z hz => ?_, insI_pw x ys h2⟩
        rcases (insI_mem x ys z).mp hz with rfl | hz
        · omega
        · exact h1 z hz
theorem ssetI_mem (xs : List Int) (z : Int) : z ∈ ssetI xs ↔ z ∈ xs := by
  induction xs with
  | nil => exact Iff.rfl
  | cons x xs ih =>
    show z ∈ insI x (ssetI xs) ↔ _
    rw [insI_mem, ih, List.mem_cons]
theorem ssetI_pw (xs : List Int) : (ssetI xs).Pairwise (· < ·) := by
  induction xs with
  | nil => exact List.Pairwise.nil
  | cons x xs ih => exact insI_pw x _ ih
theorem pw_uniq : ∀ {xs ys : List Int}, xs.Pairwise (· < ·) → ys.Pairwise (· < ·) → (∀ z, z ∈ xs ↔ z ∈ ys) → xs = ys
  | [], ys, _, _, h => by
    cases ys with
    | nil => rfl
    | cons y ys => exact nomatch (h y).mpr List.mem_cons_self
  | x :: xs, ys, h1, h2, h => by
    cases ys with
    | nil => exact nomatch (h x).mp List.mem_cons_self
    | cons y ys =>
      obtain ⟨a1, a2⟩ := List.pairwise_cons.mp h1
      obtain ⟨b1, b2⟩ := List.pairwise_cons.mp h2
      have e : x = y := by
        rcases List.mem_cons.mp ((h x).mp List.mem_cons_self) with q | q
        · exact q
        · rcases List.mem_cons.mp ((h y).mpr List.mem_cons_self) with q' | q'
          · exact q'.symm
          · have := a1 _ q'
            have := b1 _ q
            omega
      subst e
      refine congrArg _ (pw_uniq a2 b2 fun z => ⟨fun hz => ?_, fun hz => ?_⟩)
      · rcases List.mem_cons.mp ((h z).mp (List.mem_cons_of_mem _ hz)) with q | q
        · have := a1 _ hz
          omega
        · exact q
      · rcases List.mem_cons.mp ((h z).mpr (List.mem_cons_of_mem _ hz)) with q | q
        · have := b1 _ hz
          omega
        · exact q
theorem w_sset {K : PySem.W.Frag} {B H : Hp} {ctx : List Fact} {L : List Own} {t : Bool} {xs ys : List Int} {v : V} {w : World} {Q : VK} {σ : L2.St} (W : Wd K B ctx L H) (h : Ls K ctx L t xs v) (e : ssetO xs = some ys)
    (k : ∀ p H', Wd K B ctx (oL true p ys :: L) H' → Q (.ref p) H') : rSetL w K [v] H (fun u H1 => tNil σ H1 fun xs H2 => rSrtSet w (u :: xs) H2 Q) := by
  show rSetL w K [v] H (fun u H1 => rSrtSet w [u] H1 Q)
  obtain ⟨N, F, W⟩ := W
  obtain ⟨a, vs, rfl, h1, h2⟩ := h B H N F W
  rw [all2_int h2] at h1
  unfold ssetO at e
  split at e
  · rename_i hl
    cases e
    refine ⟨a, xs, rfl, h1, hl, fun p c hp hc => ⟨p, (fun j => decide (j ∈ xs)), c, rfl, ?_, by omega, fun ns q hs hm hn hq => ?_⟩⟩
    · unfold upd
      simp
    · have e2 : ns = ssetI xs := pw_uniq hs (ssetI_pw xs) fun z => by rw [hm, ssetI_mem, decide_eq_true_eq]
      rw [e2]
      have W1 : Wd K B ctx L (upd H p (SetO w p (fun j => decide (j ∈ xs)) c)) := Wd.same ⟨N, F, W⟩ fun b u hb => by
        rw [upd_ne (fun z => by rw [z, hp] at hb; cases hb)]
        exact hb
      obtain ⟨N', F', W'⟩ := W1
      exact k q _ (Wd.newL W' hq (all2_ofInt _))
  · cases e
/-! ### a op b op' c op'' d -/
def tChain3 (r r' r'' : R2) (ta tb tc td : TE) : TE := fun σ H Q => ta σ H fun x H1 => tb σ H1 fun y H2 => r x y H2 fun z H3 => rBl z H3 fun k H4 =>
  if k = true then tc σ H4 (fun w' H5 => r' y w' H5 fun z' H6 => rBl z' H6 fun k' H7 => if k' = true then td σ H7 fun u H8 => r'' w' u H8 Q else Q (.bl false) H7) else Q (.bl false) H4
theorem pe_chain3 {X : Cx} {a b c d : Expr} {op op' op'' : CmpOp} {r r' r'' : R2} {ta tb tc td : TE} {pos : Pos} (ho : OpR X (compareOp op) r) (ho' : OpR X (compareOp op') r') (ho'' : OpR X (compareOp op'') r'') (ha : PE X a ta) (hb : PE X b tb) (hc : PE X c tc) (hd : PE X d td)
    (hm : lastMarks [op, op', op''] [b, c, d] = false := by with_unfolding_all rfl) : PE X (.Compare a [op, op', op''] [b, c, d] pos) (tChain3 r r' r'' ta tb tc td) := by
  refine ⟨fun pins s σ H Q I h => ?_⟩
  refine Compare_chain (thn (ha.run pins s σ H _ I h) fun v s1 ⟨x, H1, I1, r1, q1⟩ => chain_link (thn (hb.run pins s1 σ H1 _ I1 q1) fun u s2 ⟨y, H2, I2, r2, q2⟩ =>
    thn (ho pins s2 σ H2 x y v u _ I2 r1 r2 q2) fun d s3 ⟨z, H3, I3, r3, k, e, q3⟩ => ?_)) hm
  subst e
  cases r3
  refine wpAny_truthy_bool ?_
  cases k with
  | false => exact ite_ff ⟨.bl false, H3, I3, rfl, q3⟩
  | true =>
    refine ite_tt (chain_link (thn (hc.run pins s3 σ H3 _ I3 q3) fun w' s4 ⟨z', H4, I4, r4, q4⟩ => thn (ho' pins s4 σ H4 y z' u w' _ I4 r2 r4 q4) fun d s5 ⟨z2, H5, I5, r5, k2, e2, q5⟩ => ?_))
    subst e2
    cases r5
    refine wpAny_truthy_bool ?_
    cases k2 with
    | false => exact ite_ff ⟨.bl false, H5, I5, rfl, q5⟩
    | true => exact ite_tt (chain_last (thn (hd.run pins s5 σ H5 _ I5 q5) fun w2 s6 ⟨z3, H6, I6, r6, q6⟩ => ho'' pins s6 σ H6 z' z3 w' w2 Q I6 r4 r6 q6))
theorem pt_chain3 {X : Cx} {a b c d : Expr} {op op' op'' : CmpOp} {r r' r'' : R2} {ta tb tc td : TE} {pos : Pos} (ho : OpR X (compareOp op) r) (ho' : OpR X (compareOp op') r') (ho'' : OpR X (compareOp op'') r'') (ha : PE X a ta) (hb : PE X b tb) (hc : PE X c tc) (hd : PE X d td)
    (hm : lastMarks [op, op', op''] [b, c, d] = false := by with_unfolding_all rfl) : PT X (.Compare a [op, op', op''] [b, c, d] pos) (tTest (tChain3 r r' r'' ta tb tc td)) := by
  refine ⟨fun pins s σ H Q I h => ?_⟩
  refine isTrue_chain (thn (ha.run pins s σ H _ I h) fun v s1 ⟨x, H1, I1, r1, q1⟩ => test_link (thn (hb.run pins s1 σ H1 _ I1 q1) fun u s2 ⟨y, H2, I2, r2, q2⟩ =>
    thn (ho pins s2 σ H2 x y v u _ I2 r1 r2 q2) fun d s3 ⟨z, H3, I3, r3, k, e, q3⟩ => ?_)) hm
  subst e
  cases r3
  refine wpAny_truthy_bool ?_
  cases k with
  | false =>
    obtain ⟨k', e', q'⟩ := q3
    cases e'
    exact ite_ff ⟨H3, I3, q'⟩
  | true =>
    refine ite_tt (test_link (thn (hc.run pins s3 σ H3 _ I3 q3) fun w' s4 ⟨z', H4, I4, r4, q4⟩ => thn (ho' pins s4 σ H4 y z' u w' _ I4 r2 r4 q4) fun d s5 ⟨z2, H5, I5, r5, k2, e2, q5⟩ => ?_))
    subst e2
    cases r5
    refine wpAny_truthy_bool ?_
    cases k2 with
    | false =>
      obtain ⟨k', e', q'⟩ := q5
      cases e'
      exact ite_ff ⟨H5, I5, q'⟩
    | true =>
      refine ite_tt (test_last (thn (hd.run pins s5 σ H5 _ I5 q5) fun w2 s6 ⟨z3, H6, I6, r6, q6⟩ => thn (ho'' pins s6 σ H6 z' z3 w' w2 _ I6 r4 r6 q6) fun d' s7 ⟨z4, H7, I7, r7, k3, e3, q7⟩ => ?_))
      subst e3
      cases r7
      exact wpAny_truthy_bool ⟨H7, I7, q7⟩
section
variable {K : PySem.W.Frag} {B H : Hp} {ctx : List Fact} {L L' : List Own} {Q : VK} {σ : L2.St}
theorem i_chain3 {r r' r'' : R2} {ta tb tc td : TE} (h : ta σ H fun x H1 => tb σ H1 fun y H2 => r x y H2 fun z H3 => rBl z H3 fun k H4 =>
  if k = true then tc σ H4 (fun w' H5 => r' y w' H5 fun z' H6 => rBl z' H6 fun k' H7 => if k' = true then td σ H7 fun u H8 => r'' w' u H8 Q else Q (.bl false) H7) else Q (.bl false) H4) : tChain3 r r' r'' ta tb tc td σ H Q := h
theorem w_chain3W {b : Bool} (c : Bool) {tc td : TE} {r' r'' : R2} {y : V} (W : Wd K B ctx L H)
    (h1 : b = true → ∀ P' : VK, (∀ d H', d = c → Wd K B ctx L' H' → P' (.bl d) H') → tc σ H fun w' H5 => r' y w' H5 fun z' H6 => rBl z' H6 fun k' H7 => if k' = true then td σ H7 fun u H8 => r'' w' u H8 P' else P' (.bl false) H7)
    (h2 : b = false → false = c ∧ Wd K B ctx L' H) (h3 : ∀ H', Wd K B ctx L' H' → Q (.bl c) H') :
    if b = true then tc σ H (fun w' H5 => r' y w' H5 fun z' H6 => rBl z' H6 fun k' H7 => if k' = true then td σ H7 (fun u H8 => r'' w' u H8 Q) else Q (.bl false) H7) else Q (.bl false) H :=
  w_andVW (te := fun σ H P => tc σ H fun w' H5 => r' y w' H5 fun z' H6 => rBl z' H6 fun k' H7 => if k' = true then td σ H7 (fun u H8 => r'' w' u H8 P) else P (.bl false) H7) c W h1 h2 h3
end
section
variable {K : PySem.W.Frag} {B H : Hp} {ctx : List Fact} {L : List Own} {α β : Type} [Rp α] [Rp β] {xs : List α} {ys : List β} {a c : Addr} {t t' : Bool} {R : It → Hp → Prop}
theorem w_zpH (W : Wd K B ctx L H) (h : Ls K ctx L t xs (.ref a)) (h' : Ls K ctx L t' ys (.ref c)) (k : R (Itz K a c) H) : rZp K [.ref a, .ref c] H R := by
  obtain ⟨N, F, W⟩ := W
  obtain ⟨a', vs, e, h1, h2⟩ := h B H N F W
  cases e
  obtain ⟨c', ws, e, h3, h4⟩ := h' B H N F W
  cases e
  exact i_zp h1 h3 k
end
end PB

namespace PB
open PySem PySem.Spec PyProof.Rows L2
/-! ### several objects changed by a def -/
/-- an entry that leans on what is new alone -/
def Own.Fr (o : Own) : Prop := ∀ K N F F' h, o.P K N F h → o.P K N F' h
def delL (H : Hp) (As : List Addr) : Hp := fun b => if b ∈ As then none else H b
structure PreM (K : PySem.W.Frag) (N0 H : Hp) (L0 : List Own) : Prop where
  s : Same N0 H
  nd : (L0.map (·.a)).Nodup
  off : ∀ o ∈ L0, N0 o.a = none
  at_ : ∀ o ∈ L0, ∃ h, H o.a = some h ∧ o.P K N0 N0 h
def ResM (K : PySem.W.Frag) (N0 H : Hp) (As : List Addr) (L' : List Own) {α : Type} [Rp α] (r : α) (v : V) (H' : Hp) : Prop :=
  ∃ N', Same N0 N' ∧ But As H H' ∧ Same N' H' ∧ (∀ b u, N' b = some u → H b = none ∨ N0 b = some u) ∧ (∀ a ∈ As, N' a = none) ∧ Rp.rep (lkN N') r v ∧ ∀ o ∈ L', ∃ h, H' o.a = some h ∧ o.P K N' N' h
def setAll (L : List Own) : List (Nat × Own × Own) → List Own
  | [] => L
  | p :: ps => setAll (L.set p.1 p.2.2) ps
def OkS (L : List Own) : List (Nat × Own × Own) → Prop
  | [] => True
  | p :: ps => L[p.1]? = some p.2.1 ∧ p.2.2.a = p.2.1.a ∧ OkS (L.set p.1 p.2.2) ps
def AllFr : List Own → Prop
  | [] => True
  | o :: L => o.Fr ∧ AllFr L
theorem AllFr.all : ∀ {L : List Own}, AllFr L → ∀ o ∈ L, o.Fr
  | [], _ => fun _ h => nomatch h
  | o :: L, ⟨h, g⟩ => fun q hq => by
    rcases List.mem_cons.mp hq with rfl | hq
    · exact h
    · exact g.all q hq
theorem set_mapa {L : List Own} {j : Nat} {o o' : Own} (hj : L[j]? = some o) (e : o'.a = o.a) : (L.set j o').map (·.a) = L.map (·.a) := by
  rw [List.map_set]
  refine List.ext_getElem? fun i => ?_
  rw [List.getElem?_set]
  by_cases hi : j = i
  · subst hi
    have := (List.getElem?_eq_some_iff.mp hj).1
    rw [if_pos rfl, if_pos (by rw [List.length_map]; exact this), List.getElem?_map, hj, e]
    rfl
  · rw [if_neg hi]
theorem setAll_map : ∀ {ps : List (Nat × Own × Own)} {L : List Own}, OkS L ps → (setAll L ps).map (·.a) = L.map (·.a)
  | [], _, _ => rfl
  | p :: ps, L, ⟨h1, h2, h3⟩ => (setAll_map h3).trans (set_mapa h1 h2)
theorem setAll_mem : ∀ {ps : List (Nat × Own × Own)} {L : List Own} {o : Own}, OkS L ps → (L.map (·.a)).Nodup → o ∈ setAll L ps → (o ∈ L ∧ ∀ p ∈ ps, o.a ≠ p.2.1.a) ∨ ∃ p ∈ ps, o = p.2.2
  | [], _, o, _, _, h => .inl ⟨h, fun _ h => nomatch h⟩
  | p :: ps, L, o, ⟨h1, h2, h3⟩, nd, h => by
    rcases setAll_mem h3 (by rw [set_mapa h1 h2]; exact nd) h with ⟨g1, g2⟩ | ⟨q, g1, g2⟩
    · rcases setMem' nd h1 g1 with rfl | ⟨g3, g4⟩
      · exact .inr ⟨p, List.mem_cons_self, rfl⟩
      · refine .inl ⟨g3, fun q hq => ?_⟩
        rcases List.mem_cons.mp hq with rfl | hq
        · exact g4
        · exact g2 q hq
    · exact .inr ⟨q, List.mem_cons_of_mem _ g1, g2⟩
theorem okS_addr : ∀ {ps : List (Nat × Own × Own)} {L : List Own}, OkS L ps → ∀ p ∈ ps, (∃ o ∈ L, o.a = p.2.1.a) ∧ p.2.2.a = p.2.1.a
  | p :: ps, L, ⟨h1, h2, h3⟩, q, hq => by
    rcases List.mem_cons.mp hq with rfl | hq
    · exact ⟨⟨_, List.mem_of_getElem? h1, rfl⟩, h2⟩
    · obtain ⟨⟨o, o1, o2⟩, e⟩ := okS_addr h3 q hq
      refine ⟨?_, e⟩
      have : o.a ∈ (L.set p.1 p.2.2).map (·.a) := List.mem_map.mpr ⟨o, o1, rfl⟩
      rw [set_mapa h1 h2] at this
      obtain ⟨o', g1, g2⟩ := List.mem_map.mp this
      exact ⟨o', g1, g2.trans o2⟩
section
variable {K : PySem.W.Frag} {B H H' N F N0 : Hp} {ctx : List Fact} {L L0 L' : List Own} {α : Type} [Rp α] {x : α} {v : V}
theorem Wd.startM (p : PreM K N0 H L0) (fr : AllFr L0) : Wd K (cutH (delL H (L0.map (·.a))) N0) [fN N0 (delL H (L0.map (·.a)))] L0 H := by
  have hin : ∀ o ∈ L0, o.a ∈ L0.map (·.a) := fun o ho => List.mem_map.mpr ⟨o, ho, rfl⟩
  refine ⟨N0, delL H (L0.map (·.a)), fun a u e => ?_, fun a u e => ?_, fun a u e => ?_, fun a u e => ?_, fun f hf => ?_, fun o ho => ?_, fun o ho => by
    unfold delL
    exact if_pos (hin o ho), p.nd⟩
  · unfold cutH at e
    cases q : N0 a with
    | some w => rw [q] at e; cases e
    | none => rw [q] at e; exact e
  · unfold delL
    rw [if_neg]
    · exact p.s a u e
    · intro hm
      obtain ⟨o, ho, rfl⟩ := List.mem_map.mp hm
      rw [p.off o ho] at e
      cases e
  · unfold cutH
    rw [e]
  · unfold delL at e
    split at e
    · cases e
    · exact e
  · rw [List.mem_singleton.mp hf]
    exact ⟨Same.refl _, Same.refl _⟩
  · obtain ⟨h, h1, h2⟩ := p.at_ o ho
    exact ⟨h, h1, fr.all o ho _ _ _ _ _ h2⟩
theorem Wd.resM {As : List Addr} (W : Wd K (cutH (delL H As) N0) ctx L H') (m : Nat) (hm : ctx[m]? = some (fN N0 (delL H As))) (hsub : ∀ o ∈ L', o ∈ L) (ha : L'.map (·.a) = As) (fr : AllFr L') (h : Kn K ctx true x v) : ResM K N0 H As L' x v H' := by
  obtain ⟨N, F, W⟩ := W
  obtain ⟨s1, s2⟩ := W.facts _ (List.mem_of_getElem? hm)
  have hoff : ∀ a ∈ As, F a = none := fun a ha' => by
    rw [← ha] at ha'
    obtain ⟨o, ho, rfl⟩ := List.mem_map.mp ha'
    exact W.off o (hsub o ho)
  have hN : ∀ a ∈ As, N a = none := fun a ha' => W.nF.free (hoff a ha')
  refine ⟨N, s1, fun b u hb e => W.fH b u (s2 b u ?_), W.nF.trans W.fH, fun b u e => ?_, hN, h N F W.nF W.facts, fun o ho => ?_⟩
  · unfold delL
    rw [if_neg hb]
    exact e
  · have hb : b ∉ As := fun z => by
      rw [hN b z] at e
      cases e
    have h1 := W.sep b u e
    unfold cutH at h1
    cases q : N0 b with
    | some w =>
      have := s1 b w q
      rw [e] at this
      exact .inr this.symm
    | none =>
      rw [q] at h1
      have h1 : delL H As b = none := h1
      unfold delL at h1
      rw [if_neg hb] at h1
      exact .inl h1
  · obtain ⟨u, e, q⟩ := W.at_ o (hsub o ho)
    exact ⟨u, e, fr.all o ho _ _ _ _ _ q⟩
theorem WdI.selO (W : WdI K B ctx L H N F) (is : List Nat) (h : selB is L = some L') (n : is.Nodup := by decide) : WdI K B ctx L' H N F := by
  have hm : ∀ o ∈ L', o ∈ L := fun o ho => let ⟨_, _, q⟩ := selB_mem h o ho; List.mem_of_getElem? q
  exact ⟨W.bF, W.nF, W.sep, W.fH, W.facts, fun o ho => W.at_ o (hm o ho), fun o ho => W.off o (hm o ho), selB_nd (m := L) h W.nd n⟩
theorem WdI.preM (W : WdI K B ctx L H N F) (is : List Nat) (h : selB is L = some L0) (fr : AllFr L0) (n : is.Nodup := by decide) : PreM K N H L0 := by
  have W' := W.selO is h n
  exact ⟨W'.nF.trans W'.fH, W'.nd, fun o ho => W'.nF.free (W'.off o ho), fun o ho => let ⟨u, e, q⟩ := W'.at_ o ho; ⟨u, e, fr.all o ho _ _ _ _ _ q⟩⟩
theorem WdI.callM {As : List Addr} (W : WdI K B ctx L H N F) (ps : List (Nat × Own × Own)) (hp : OkS L ps) (hA : As = ps.map fun p => p.2.1.a) (hL' : L' = ps.map fun p => p.2.2) (fr : AllFr L') (r : ResM K N H As L' x v H') : Wd K B (fc true x v :: ctx) (setAll L ps) H' := by
  obtain ⟨N', s1, s2, s3, s4, hNa, hr, hv⟩ := r
  have hadr := okS_addr hp
  have hoff : ∀ a ∈ As, F a = none := fun a ha => by
    rw [hA] at ha
    obtain ⟨p, hp1, rfl⟩ := List.mem_map.mp ha
    obtain ⟨⟨o, o1, o2⟩, _⟩ := hadr p hp1
    rw [← o2]
    exact W.off o o1
  have hF : ∀ b u, N' b = some u → F b = none ∨ F b = some u := fun b u e => by
    rcases s4 b u e with h | h
    · exact .inl (W.fH.free h)
    · exact .inr (W.nF b u h)
  have sN' : Same N' (join F N') := fun b u e => by
    unfold join
    rcases hF b u e with h | h
    · rw [h]
      exact e
    · rw [h]
  have sF : Same F (join F N') := join_l
  have offJ : ∀ o ∈ L, join F N' o.a = none ∨ o.a ∈ As := fun o ho => by
    obtain ⟨u, e, q⟩ := W.at_ o ho
    have ho2 := W.off o ho
    by_cases hm : o.a ∈ As
    · exact .inr hm
    · refine .inl ?_
      unfold join
      rw [ho2]
      show N' o.a = none
      cases q2 : N' o.a with
      | none => rfl
      | some w =>
        rcases s4 _ _ q2 with h | h
        · rw [e] at h
          cases h
        · have := W.nF _ _ h
          rw [ho2] at this
          cases this
  have offA : ∀ a ∈ As, join F N' a = none := fun a ha => by
    unfold join
    rw [hoff a ha]
    exact hNa a ha
  refine ⟨N', join F N', W.bF.trans sF, sN', fun b u e => ?_, fun b u e => ?_, fun f hf => ?_, fun o ho => ?_, fun o ho => ?_, by rw [setAll_map hp]; exact W.nd⟩
  · rcases s4 b u e with h | h
    · exact W.bF.free (W.fH.free h)
    · exact W.sep b u h
  · rcases join_or e with e | e
    · refine s2 b u (fun hm => ?_) (W.fH b u e)
      rw [hoff b hm] at e
      cases e
    · exact s3 b u e
  · rcases List.mem_cons.mp hf with rfl | hf
    · exact hr
    · exact f.mono s1 sF (W.facts f hf)
  · rcases setAll_mem hp W.nd ho with ⟨h1, h2⟩ | ⟨p, h1, rfl⟩
    · obtain ⟨u, e, q⟩ := W.at_ o h1
      refine ⟨u, s2 _ _ (fun hm => ?_) e, o.mono s1 sF q⟩
      rw [hA] at hm
      obtain ⟨p, g1, g2⟩ := List.mem_map.mp hm
      exact h2 p g1 g2.symm
    · have hm : p.2.2 ∈ L' := by rw [hL']; exact List.mem_map.mpr ⟨p, h1, rfl⟩
      obtain ⟨u, e, q⟩ := hv _ hm
      exact ⟨u, e, fr.all _ hm _ _ _ _ _ q⟩
  · rcases setAll_mem hp W.nd ho with ⟨h1, h2⟩ | ⟨p, h1, rfl⟩
    · rcases offJ o h1 with h | h
      · exact h
      · exact offA _ h
    · refine offA _ ?_
      rw [hA, (hadr p h1).2]
      exact List.mem_map.mpr ⟨p, h1, rfl⟩
theorem oL_fr {a : Addr} {xs : List α} : (oL true a xs).Fr := fun _ _ _ _ _ h => h
end
/-! ### the class Live: its instances, its methods -/
abbrev LvA (K : PySem.W.Frag) : Addr := He.ga K "Live"
structure Lv (K : PySem.W.Frag) : Prop where
  cls : Cls K (LvA K)
  n1 : NoAttr K (LvA K) "numbers"
  n2 : NoAttr K (LvA K) "rows_ahead"
/-- a method by its name -/
structure MFn (P : Program) (w : World) (K : PySem.W.Frag) (mg : Str → Option Value) (base : Heap) (k : Nat) (m : Str) (ps : List Str) (sp : Sp) : Prop where
  ex : ∃ (f : Addr) (fd : FuncData), Meth K (LvA K) m f ∧ Binds K fd ps [] ∧ FnG P w K mg base k f fd ps sp
theorem mkMFn {P : Program} {w : World} {K : PySem.W.Frag} {mg : Str → Option Value} {base : Heap} {x qual m : Str} {params : Arguments} {body : List Stmt} {scope : Scope}
    {f : Addr} {fd : FuncData} {ps : List Str} {k : Nat} {sp : Sp} (F : FunD K x qual params body scope [] [] f fd) (hm : Meth K (LvA K) m f)
    (hb : ∀ (kV doc pm : Value) (an : Option Addr) (cdv ct : Value) (us : List Value), us.length = ps.length →
      bindArgs (PySem.W.fnOf x qual params body scope .none kV doc pm an cdv ct) ⟨us, []⟩ = pure (ps.zip us))
    (G : FnG P w K mg base k f fd ps sp) : MFn P w K mg base k m ps sp := ⟨f, fd, hm, F.bindsN hb, G⟩
theorem okO {P : Program} {w : World} {K : PySem.W.Frag} {mg : Str → Option Value} {base : Heap} {x qual : Str} {params : Arguments} {body : List Stmt} {scope : Scope} {dvs : List V} {kws : List (Str × V)} {f : Addr} {fd : FuncData} {N ps : List Str} {k : Nat} {sp : Sp}
    (F : FunD K x qual params body scope dvs kws f fd) (S : FnScope N ps scope) (len : ∀ vs H Q E, sp vs H Q E → vs.length = ps.length)
    (hb : ∀ (cdv : Value) (A : Around) (outer : List Env) (s : Shared) (H : Hp) (vs : List V) (Q : VK) (E : XK), Room k (A.deeper (envOfC qual scope s.heap.objs.size f cdv)) → sp vs H Q E →
      ∃ t, PSs (cxOf (L2.CX P w) P w K mg base N qual scope f cdv A outer s H E) body t ∧ t { nx := fun _ H' => Q .non H', rt := Q } (start N vs) H) : FnOk P w K mg base (L2.CX P w) (k + 1) f fd ps sp := by
  obtain ⟨oc, od, dV, kV, doc, pm, an, cd, ct, osl, rfl, lk, hcd, _, _⟩ := F.ex
  exact fn_of lk hcd S len fun A outer s H vs Q E hr h => hb cd A outer s H vs Q E hr h
def tM (C : Addr) (m : Str) (sp : Sp) (E : XK) (ta : TE) (t : TA) : TE := fun σ H Q => ta σ H fun x H1 => ∃ a dx fs, x = .ref a ∧ H1 a = some (.ins C dx fs) ∧ fs.lookup m = none ∧ t σ H1 fun vs H2 => sp (x :: vs) H2 Q E
section
variable {X : Cx} {k : Nat} {ps : List Str} {sp : Sp} {E : XK} {m : Str} {pos apos : Pos} {e o : Expr} {es : List Expr} {ta : TE} {t : TA}
theorem pe_mG {pl : Sem Bool} (G : MFn X.prog X.w X.K X.mg X.base k m ps sp) (c : Cls X.K (LvA X.K)) (hr : Room k X.A) (hgd : X.A.guards = some []) (hx : Passes (L2.CX X.prog X.w) X E) (he : PE X o ta) (ha : PA X (e :: es) t)
    (hst : starEach (e :: es) X.env = (false, eval e X.env) :: starEach es X.env := by rfl) (hpl : (backTo pos (starEach es X.env)).any (·.1) = false := by rfl)
    (ht : eval (.Call (.Attribute o m apos) (e :: es) [] pos) X.env = (do
      let ov ← eval o X.env
      standAt apos.atName
      let (f, first) ← holding [ov] (getMethod ov m pl)
      callWith pos f first (backTo pos (starEach (e :: es) X.env)) (backToKw pos (keywordEach [] X.env))) := by rfl) :
    PE X (.Call (.Attribute o m apos) (e :: es) [] pos) (tM (LvA X.K) m sp E ta t) := by
  obtain ⟨f, fd, hm, hb, F⟩ := G.ex
  refine ⟨fun pins s σ H Q I h => ?_⟩
  refine PySem.W.methodCall_KW (pl := pl) (thn (he.run pins s σ H _ I h) fun u s1 ⟨x, H1, I1, rx, a, dx, fs, ex, ea, l, q⟩ => ?_) ht
  subst ex
  obtain rfl : u = Value.ref a := rx
  refine getmeth_ok I1 ea c hm l ?_
  refine PySem.W.callWith_K (first := [.ref a]) (h₀ := X.base) I.ok.mod.kin hm.kp (thn (ha.run pos pins s1 σ H1 _ I1 q) fun us s2 ⟨vs, H2, I2, r, q2⟩ => ⟨I2.kIn, ?_⟩) hst hpl
  exact run_fnG (us := .ref a :: us) (vs := .ref a :: vs) F hr hgd hb hx I2 (.cons rfl r) q2
theorem pe_mG0 {pl : Sem Bool} (G : MFn X.prog X.w X.K X.mg X.base k m ps sp) (c : Cls X.K (LvA X.K)) (hr : Room k X.A) (hgd : X.A.guards = some []) (hx : Passes (L2.CX X.prog X.w) X E) (he : PE X o ta)
    (ht : eval (.Call (.Attribute o m apos) [] [] pos) X.env = (do
      let ov ← eval o X.env
      standAt apos.atName
      let (f, first) ← holding [ov] (getMethod ov m pl)
      callWith pos f first (backTo pos (starEach [] X.env)) (backToKw pos (keywordEach [] X.env))) := by rfl) :
    PE X (.Call (.Attribute o m apos) [] [] pos) (tM (LvA X.K) m sp E ta tNil) := by
  obtain ⟨f, fd, hm, hb, F⟩ := G.ex
  refine ⟨fun pins s σ H Q I h => ?_⟩
  refine PySem.W.methodCall_KW (pl := pl) (thn (he.run pins s σ H _ I h) fun u s1 ⟨x, H1, I1, rx, a, dx, fs, ex, ea, l, q⟩ => ?_) ht
  subst ex
  obtain rfl : u = Value.ref a := rx
  refine getmeth_ok I1 ea c hm l ?_
  exact PySem.W.callWith_K0 (first := [.ref a]) I1.kIn hm.kp (run_fnG (us := [.ref a]) (vs := [.ref a]) F hr hgd hb hx I1 (.cons rfl .nil) q)
end
/-- an instance: its numbers, new and never changed; the list of the rows ahead -/
def oI (a b : Addr) (xs : List Int) : Own := ⟨a, fun K N _ o => ∃ dx u, o = .ins (LvA K) dx [("numbers", u), ("rows_ahead", .ref b)] ∧ Rp.rep (lkN N) xs u, fun h1 _ ⟨dx, u, e, h⟩ => ⟨dx, u, e, Rp.mono (lkN_mono h1) h⟩⟩
/-- a list of a list never changed and one of one's own -/
def oP (a b : Addr) (xs : List Int) : Own := ⟨a, fun _ N _ o => ∃ u, o = .lst [u, .ref b] ∧ Rp.rep (lkN N) xs u, fun h1 _ ⟨u, e, h⟩ => ⟨u, e, Rp.mono (lkN_mono h1) h⟩⟩
theorem oI_fr {a b : Addr} {xs : List Int} : (oI a b xs).Fr := fun _ _ _ _ _ h => h
theorem oP_fr {a b : Addr} {xs : List Int} : (oP a b xs).Fr := fun _ _ _ _ _ h => h
def rFld (K : PySem.W.Frag) (f : Str) (x : V) (H : Hp) (Q : VK) : Prop := ∃ a C dx fs v, x = .ref a ∧ H a = some (.ins C dx fs) ∧ Cls K C ∧ NoAttr K C f ∧ fs.lookup f = some v ∧ Q v H
def rSFld (K : PySem.W.Frag) (f : Str) (y x : V) (H : Hp) (R : Hp → Prop) : Prop := ∃ a C dx fs, x = .ref a ∧ H a = some (.ins C dx fs) ∧ Cls K C ∧ NoAttr K C f ∧ fs.length < 1000 ∧ R (upd H a (.ins C dx (putF f y fs)))
def rIns (K : PySem.W.Frag) (m : Str) (x : V) (H : Hp) (R : Prop) : Prop := ∃ a dx fs, x = .ref a ∧ H a = some (.ins (LvA K) dx fs) ∧ fs.lookup m = none ∧ R
section
variable {K : PySem.W.Frag} {B H H' N F : Hp} {ctx : List Fact} {L : List Own} {xs ys : List Int} {a b : Addr} {v : V} {Q : VK} {σ : L2.St}
theorem i_fld {ta : TE} {f : Str} (h : ta σ H fun x H1 => rFld K f x H1 Q) : tFld K ta f σ H Q := h
theorem i_sfld {ta tv : TE} {f : Str} {nx bk ct : L2.St → Hp → Prop} {rt : VK} (h : tv σ H fun y H1 => ta σ H1 fun x H2 => rSFld K f y x H2 fun H3 => nx σ H3) : sFld K ta tv f { nx := nx, rt := rt, bk := bk, ct := ct } σ H := h
theorem i_tM {m : Str} {sp : Sp} {E : XK} {ta : TE} {t : TA} (h : ta σ H fun x H1 => rIns K m x H1 (t σ H1 fun vs H2 => sp (x :: vs) H2 Q E)) : tM (LvA K) m sp E ta t σ H Q := h
theorem w_fldN (Z : Lv K) (W : Wd K B ctx L H) (j : Nat) (hj : L[j]? = some (oI a b xs)) (k : ∀ u, Wd K B (fc true xs u :: ctx) L H → Q u H) : rFld K "numbers" (.ref a) H Q := by
  obtain ⟨N, F, W⟩ := W
  obtain ⟨o, h1, dx, u, rfl, r⟩ := W.at_ _ (List.mem_of_getElem? hj)
  refine ⟨a, _, dx, _, u, rfl, h1, Z.cls, Z.n1, rfl, k u ?_⟩
  refine ⟨N, F, W.bF, W.nF, W.sep, W.fH, fun f hf => ?_, W.at_, W.off, W.nd⟩
  rcases List.mem_cons.mp hf with rfl | hf
  · exact r
  · exact W.facts f hf
theorem w_fldP (Z : Lv K) (W : Wd K B ctx L H) (j : Nat) (hj : L[j]? = some (oI a b xs)) (k : Q (.ref b) H) : rFld K "rows_ahead" (.ref a) H Q := by
  obtain ⟨N, F, W⟩ := W
  obtain ⟨o, h1, dx, u, rfl, r⟩ := W.at_ _ (List.mem_of_getElem? hj)
  exact ⟨a, _, dx, _, .ref b, rfl, h1, Z.cls, Z.n2, rfl, k⟩
theorem w_sfldN {R : Hp → Prop} (Z : Lv K) (W : Wd K B ctx L H) (j : Nat) (hj : L[j]? = some (oI a b xs)) (h : Kn K ctx true ys v) (k : ∀ H', Wd K B ctx (L.set j (oI a b ys)) H' → R H') : rSFld K "numbers" v (.ref a) H R := by
  obtain ⟨N, F, W⟩ := W
  obtain ⟨o, h1, dx, u, rfl, r⟩ := W.at_ _ (List.mem_of_getElem? hj)
  exact ⟨a, _, dx, _, rfl, h1, Z.cls, Z.n1, by simp, k _ (Wd.put (o' := oI a b ys) W j hj rfl _ ⟨dx, v, rfl, h N F W.nF W.facts⟩)⟩
theorem w_ins {m : Str} {R : Prop} (W : Wd K B ctx L H) (j : Nat) (hj : L[j]? = some (oI a b xs)) (k : R) (h1 : (m == ("numbers" : Str)) = false := by decide) (h2 : (m == ("rows_ahead" : Str)) = false := by decide) : rIns K m (.ref a) H R := by
  obtain ⟨N, F, W⟩ := W
  obtain ⟨o, e, dx, u, rfl, r⟩ := W.at_ _ (List.mem_of_getElem? hj)
  exact ⟨a, dx, _, rfl, e, by simp only [List.lookup, h1, h2], k⟩
/-! a list of two -/
theorem w_newP (W : Wd K B ctx L H) (h : Kn K ctx true xs v) (k : ∀ p H', Wd K B ctx (oP p b xs :: L) H' → Q (.ref p) H') : rLst [v, .ref b] H Q := by
  obtain ⟨N, F, W⟩ := W
  exact ⟨by simp [sizeLine_eq], fun p hp => k p _ (Wd.newO (o := oP p b xs) W hp _ rfl ⟨v, rfl, h N F W.nF W.facts⟩)⟩
theorem w_ixP0 (W : Wd K B ctx L H) (j : Nat) (hj : L[j]? = some (oP a b xs)) (k : ∀ u, Wd K B (fc true xs u :: ctx) L H → Q u H) : rIx K (.ref a) (.int 0) H Q := by
  obtain ⟨N, F, W⟩ := W
  obtain ⟨o, h1, u, rfl, r⟩ := W.at_ _ (List.mem_of_getElem? hj)
  refine i_ixL (SqL.of h1) (v := u) rfl (k u ?_)
  refine ⟨N, F, W.bF, W.nF, W.sep, W.fH, fun f hf => ?_, W.at_, W.off, W.nd⟩
  rcases List.mem_cons.mp hf with rfl | hf
  · exact r
  · exact W.facts f hf
theorem w_ixP1 (W : Wd K B ctx L H) (j : Nat) (hj : L[j]? = some (oP a b xs)) (k : Q (.ref b) H) : rIx K (.ref a) (.int 1) H Q := by
  obtain ⟨N, F, W⟩ := W
  obtain ⟨o, h1, u, rfl, r⟩ := W.at_ _ (List.mem_of_getElem? hj)
  exact i_ixL (SqL.of h1) (v := .ref b) rfl k
theorem w_setP0 {R : Hp → Prop} (W : Wd K B ctx L H) (j : Nat) (hj : L[j]? = some (oP a b xs)) (h : Kn K ctx true ys v) (k : ∀ H', Wd K B ctx (L.set j (oP a b ys)) H' → R H') : L2.rSetL (.ref a) (.int 0) v H R := by
  obtain ⟨N, F, W⟩ := W
  obtain ⟨o, h1, u, rfl, r⟩ := W.at_ _ (List.mem_of_getElem? hj)
  exact ⟨a, _, 0, 0, rfl, rfl, h1, rfl, k _ (Wd.put (o' := oP a b ys) W j hj rfl _ ⟨v, rfl, h N F W.nF W.facts⟩)⟩
theorem w_unpP0 {g : TGs} {R : L2.St → Hp → Prop} (W : Wd K B ctx L H) (j : Nat) (hj : L[j]? = some (oP a b xs)) (k : ∀ u, Wd K B (fc true xs u :: ctx) L H → g [u, .ref b] σ H R) : rUnpL K 2 g (.ref a) σ H R := by
  obtain ⟨N, F, W⟩ := W
  obtain ⟨o, h1, u, rfl, r⟩ := W.at_ _ (List.mem_of_getElem? hj)
  refine i_unpL (SqL.of h1) rfl (k u ?_)
  refine ⟨N, F, W.bF, W.nF, W.sep, W.fH, fun f hf => ?_, W.at_, W.off, W.nd⟩
  rcases List.mem_cons.mp hf with rfl | hf
  · exact r
  · exact W.facts f hf
end
/-! Live(xs) -/
def spInit (K : PySem.W.Frag) : Sp := fun vs H Q _ => ∃ (a dx p0 : Addr) (xs : List Int), vs = [.ref a, .ref p0] ∧ SqL K H p0 (xs.map V.int) ∧ H a = some (.ins (LvA K) dx []) ∧ ∀ p b, H p = none → H b = none → p ≠ b →
  Q .non (upd (upd (upd (upd H p (.lst (xs.map V.int))) a (.ins (LvA K) dx [("numbers", .ref p)])) b (.lst [])) a (.ins (LvA K) dx [("numbers", .ref p), ("rows_ahead", .ref b)]))
/-- the class by its name -/
structure CFn (P : Program) (w : World) (K : PySem.W.Frag) (mg : Str → Option Value) (base : Heap) (k : Nat) (ps : List Str) (sp : Sp) : Prop where
  ex : ∃ (f : Addr) (fd : FuncData), mg "Live" = some (.ref (LvA K)) ∧ Mk K (LvA K) f ∧ Binds K fd ps [] ∧ FnOk P w K mg base (L2.CX P w) k f fd ps sp
theorem mkCFn {P : Program} {w : World} {K : PySem.W.Frag} {mg : Str → Option Value} {base : Heap} {x qual : Str} {params : Arguments} {body : List Stmt} {scope : Scope}
    {f : Addr} {fd : FuncData} {ps : List Str} {k : Nat} {sp : Sp} (F : FunD K x qual params body scope [] [] f fd) (hg : mg "Live" = some (.ref (LvA K))) (M : Mk K (LvA K) f)
    (hb : ∀ (kV doc pm : Value) (an : Option Addr) (cdv ct : Value) (us : List Value), us.length = ps.length →
      bindArgs (PySem.W.fnOf x qual params body scope .none kV doc pm an cdv ct) ⟨us, []⟩ = pure (ps.zip us))
    (G : FnOk P w K mg base (L2.CX P w) k f fd ps sp) : CFn P w K mg base k ps sp := ⟨f, fd, hg, M, F.bindsN hb, G⟩
section
variable {X : Cx} {k : Nat} {ps : List Str} {sp : Sp} {E : XK} {p pos : Pos} {e : Expr} {es : List Expr} {t : TA}
theorem pe_mkG (G : CFn X.prog X.w X.K X.mg X.base k ps sp) (hr : Room (k + 1) X.A) (hg : Gl X "Live") (hx : Passes (L2.CX X.prog X.w) X E) (ha : PA X (e :: es) t)
    (he : starEach (e :: es) X.env = (false, eval e X.env) :: starEach es X.env := by rfl) (hpl : (backTo pos (starEach es X.env)).any (·.1) = false := by rfl) :
    PE X (.Call (.Name "Live" p) (e :: es) [] pos) (tMake (LvA X.K) sp [] E t) := by
  obtain ⟨f, fd, hm, M, hb, F⟩ := G.ex
  exact pe_make M F hr hg hm hb .nil hx ha (by decide) he hpl
end
section
variable {K : PySem.W.Frag} {B H H' N F : Hp} {ctx : List Fact} {L : List Own} {xs ys : List Int} {a b : Addr} {v : V} {Q : VK} {σ : L2.St}
theorem i_make {C : Addr} {sp : Sp} {E : XK} {tx : TA} (h : tx σ H fun vs H1 => ∀ x dx, H1 x = none → H1 dx = none → dx ≠ x → sp (.ref x :: vs) (upd (upd H1 dx (.own x)) x (.ins C dx [])) (fun v H2 => v = .non ∧ Q (.ref x) H2) E) : tMake C sp [] E tx σ H Q := by
  have e : (fun (vs : List V) (H1 : Hp) => ∀ x dx, H1 x = none → H1 dx = none → dx ≠ x → sp (.ref x :: (vs ++ [])) (upd (upd H1 dx (.own x)) x (.ins C dx [])) (fun v H2 => v = .non ∧ Q (.ref x) H2) E) = fun vs H1 => ∀ x dx, H1 x = none → H1 dx = none → dx ≠ x → sp (.ref x :: vs) (upd (upd H1 dx (.own x)) x (.ins C dx [])) (fun v H2 => v = .non ∧ Q (.ref x) H2) E := by
    funext vs H1
    rw [List.append_nil]
  unfold tMake
  rw [e]
  exact h
theorem same_upd {o : HO} (hp : H a = none) : Same H (upd H a o) := fun c u e => by
  rw [upd_ne (fun z => by rw [z, hp] at e; cases e)]
  exact e
theorem w_make {t : Bool} {E : XK} {Q : Addr → Hp → Prop} (W : Wd K B ctx L H) (h : Ls K ctx L t xs v) (k : ∀ x b H', Wd K B ctx (oI x b xs :: oL true b ([] : List (List Int)) :: L) H' → Q x H') :
    ∀ x dx, H x = none → H dx = none → dx ≠ x → spInit K [.ref x, v] (upd (upd H dx (.own x)) x (.ins (LvA K) dx [])) (fun v H2 => v = .non ∧ Q x H2) E := by
  intro x dx hx hdx hne
  obtain ⟨N, F, W⟩ := W
  obtain ⟨p0, vs, rfl, h1, h2⟩ := h B H N F W
  rw [all2_int h2] at h1
  have hx2 : upd H dx (.own x) x = none := by rw [upd_ne (Ne.symm hne)]; exact hx
  have s1 : Same H (upd (upd H dx (.own x)) x (.ins (LvA K) dx [])) := (same_upd hdx).trans (same_upd hx2)
  refine ⟨x, dx, p0, xs, rfl, s1.seq h1, upd_same, fun p b hp hb hpb => ⟨rfl, k x b _ ?_⟩⟩
  have hpx : p ≠ x := fun z => by rw [z, upd_same] at hp; cases hp
  have hbx : b ≠ x := fun z => by rw [z, upd_same] at hb; cases hb
  have hp0 : H p = none := s1.free hp
  have hb0 : H b = none := s1.free hb
  have W1 := (Wd.newL W hp0 (all2_ofInt xs) (t := true)).frz
  obtain ⟨N1, F1, W1⟩ := W1
  have W2 := Wd.newL (xs := ([] : List (List Int))) (t := true) W1 (show upd H p (.lst (xs.map V.int)) b = none by rw [upd_ne (Ne.symm hpb)]; exact hb0) (vs := []) trivial
  obtain ⟨N2, F2, W2⟩ := W2
  have hr := W2.facts _ List.mem_cons_self
  have W3 := Wd.newO (o := oI x b xs) W2 (show upd (upd H p (.lst (xs.map V.int))) b (.lst []) x = none by rw [upd_ne (Ne.symm hbx), upd_ne (Ne.symm hpx)]; exact hx) (.ins (LvA K) dx [("numbers", .ref p), ("rows_ahead", .ref b)]) rfl ⟨dx, .ref p, rfl, hr⟩
  refine (W3.drop 1 rfl).same fun c u e => ?_
  by_cases c1 : c = x
  · rw [c1, upd_same] at e
    rw [c1, upd_same]
    exact e
  · rw [upd_ne c1] at e ⊢
    by_cases c2 : c = b
    · rw [c2, upd_same] at e
      rw [c2, upd_same]
      exact e
    · rw [upd_ne c2] at e ⊢
      rw [upd_ne c1]
      by_cases c3 : c = p
      · rw [c3, upd_same] at e
        rw [c3, upd_same]
        exact e
      · rw [upd_ne c3] at e ⊢
        exact s1 c u e
end
/-! xs.pop() -/
def popE {α : Type} (xs : List α) : Option (α × List α) := (xs[xs.length - 1]?).map fun x => (x, xs.dropLast)
theorem All2.dropL {α : Type} {R : α → V → Prop} : ∀ {xs : List α} {vs : List V}, All2 R xs vs → All2 R xs.dropLast vs.dropLast
  | [], [], _ => trivial
  | [_], [_], _ => trivial
  | x :: y :: xs, v :: w :: vs, h => ⟨h.1, All2.dropL h.2⟩
  | [_], _ :: _ :: _, h => h.2.elim
  | _ :: _ :: _, [_], h => h.2.elim
  | [], _ :: _, h => h.elim
  | _ :: _, [], h => h.elim
theorem pe_bm0K {X : Cx} {K : PySem.W.Frag} {name : Str} {T id : String} {o : Expr} {to : TE} {r : V → List V → Hp → VK → Prop} {apos cpos : Pos} (pa : PlainAttrs T) (slot : Slot T name id) (hty : typeOf (.builtin id) = pure (.type "method_descriptor")) (hm : MtR X id r) (ho : PE X o to) (hK : X.K = K := by rfl)
    (hbase : attributeBase o name X.env (eval o X.env) = eval o X.env := by rfl) (hline : (apos.endLine == cpos.line) = true := by rfl) : PE X (.Call (.Attribute o name apos) [] [] cpos) (tBM0 K T r to) := by
  subst hK
  exact pe_bm0 pa slot hty hm ho hbase hline
def rMt0 (K : PySem.W.Frag) (T : String) (r : V → List V → Hp → VK → Prop) (x : V) (H : Hp) (Q : VK) : Prop := tyV K T x H ∧ r x [] H Q
section
variable {K : PySem.W.Frag} {B H H' N F : Hp} {ctx : List Fact} {L : List Own} {α : Type} [Rp α] {xs : List α} {a b : Addr} {t : Bool} {v : V} {Q : VK} {σ : L2.St}
theorem i_bm0 {T : String} {r : V → List V → Hp → VK → Prop} {to : TE} (h : to σ H fun x H1 => rMt0 K T r x H1 Q) : tBM0 K T r to σ H Q := h
theorem w_mt0 {r : V → List V → Hp → VK → Prop} (W : Wd K B ctx L H) (h : Ls K ctx L t xs v) (k : r v [] H Q) : rMt0 K "list" r v H Q := by
  obtain ⟨N, F, W⟩ := W
  obtain ⟨a, vs, rfl, h1, h2⟩ := h B H N F W
  exact ⟨.inl ⟨rfl, vs, h1⟩, k⟩
theorem w_popE {r : α × List α} (W : Wd K B ctx L H) (j : Nat) (hj : L[j]? = some (oL t a xs)) (e : popE xs = some r) (k : ∀ u H', Wd K B (fc t r.1 u :: ctx) (L.set j (oL t a r.2)) H' → Q u H') : rPop (.ref a) [] H Q := by
  obtain ⟨N, F, W⟩ := W
  obtain ⟨o, h1, vs, rfl, h2⟩ := W.at_ _ (List.mem_of_getElem? hj)
  unfold popE at e
  cases q : xs[xs.length - 1]? with
  | none => rw [q] at e; cases e
  | some x =>
    rw [q] at e
    cases e
    obtain ⟨u, hu, hr⟩ := h2.get q
    have W1 : Wd K B (fc t x u :: ctx) L H := by
      refine ⟨N, F, W.bF, W.nF, W.sep, W.fH, fun f hf => ?_, W.at_, W.off, W.nd⟩
      rcases List.mem_cons.mp hf with rfl | hf
      · exact hr
      · exact W.facts f hf
    obtain ⟨N1, F1, W1⟩ := W1
    obtain ⟨o2, g1, vs2, rfl, g2⟩ := W1.at_ _ (List.mem_of_getElem? hj)
    rw [h1] at g1
    cases g1
    exact ⟨a, vs, u, rfl, rfl, h1, by rw [h2.len]; exact hu, k u _ (Wd.put (o' := oL t a xs.dropLast) W1 j hj rfl _ ⟨_, rfl, g2.dropL⟩)⟩
theorem okS_nil : OkS L [] := trivial
theorem okS_cons {p : Nat × Own × Own} {ps : List (Nat × Own × Own)} (h1 : L[p.1]? = some p.2.1) (h2 : p.2.2.a = p.2.1.a) (h3 : OkS (L.set p.1 p.2.2) ps) : OkS L (p :: ps) := ⟨h1, h2, h3⟩
theorem allFr_nil : AllFr [] := trivial
theorem allFr_cons {o : Own} (h : o.Fr) (g : AllFr L) : AllFr (o :: L) := ⟨h, g⟩
theorem selB_sub {l m : List Own} {is : List Nat} (h : selB is l = some m) : ∀ o ∈ m, o ∈ l := fun o ho => let ⟨_, _, q⟩ := selB_mem h o ho; List.mem_of_getElem? q
end
end PB

namespace PB
open PySem PySem.Spec PyProof.Rows L2
/-! ### texts -/
instance : Flat PySem.Str := ⟨fun _ _ _ _ h => h⟩
instance : Flat Unit := ⟨fun _ _ _ _ h => h⟩
instance {α : Type} [Rp α] [Flat α] : Flat (Option α) := ⟨fun S T x v h => by
  cases x with
  | none => exact h
  | some y => exact Flat.h (β := α) S T y v h⟩
def joinO (a : PySem.Str) (ys : List PySem.Str) : Option PySem.Str := if (ys.map (·.length)).sum + ys.length * a.length ≤ 16777216 then some (Txt.join a ys) else none
def splitO (a b : PySem.Str) : Option (List PySem.Str) := if (b.length == 0) = false ∧ a.length + 2 ≤ sizeLine then some (Txt.split a b) else none
def partO (a b : PySem.Str) : Option (T3 PySem.Str PySem.Str PySem.Str) := if (b.length == 0) = false ∧ a.length ≤ sizeLine then some ⟨(Txt.partition a b).1, (Txt.partition a b).2.1, (Txt.partition a b).2.2⟩ else none
def intSO (a : PySem.Str) : Option Int := if a.length ≤ 640 then PySem.intText? a else none
def strO (i : Int) : Option PySem.Str := if i.natAbs.log2 < 1920 then some (PySem.Str.ofString (toString i)) else none
def charsT (z : PySem.Str) : List PySem.Str := z.cps.toList.map fun c => ⟨#[c]⟩
def atS (z : PySem.Str) (i : Int) : Option PySem.Str := if z.length ≤ sizeLine then (atI z.cps.toList i).map fun c => ⟨#[c]⟩ else none
def inSO (x z : PySem.Str) : Option Bool := match x.cps.toList with
  | [c] => some (decide (c ∈ z.cps.toList))
  | _ => none
def catS (a b : PySem.Str) : Option PySem.Str := if a.length + b.length ≤ sizeLine then some (a ++ b) else none
def sliceS (z : PySem.Str) (lo hi : Option Int) : Option PySem.Str := if z.length ≤ sizeLine then some (cutS z lo hi) else none
def lenSO (z : PySem.Str) : Option Int := if z.length ≤ sizeLine then some z.length else none
theorem all2_str {S : Lk} : ∀ {xs : List PySem.Str} {vs : List V}, All2 (Rp.rep S) xs vs → vs = xs.map V.str
  | [], [], _ => rfl
  | x :: xs, v :: vs, h => by
    have e : v = .str x := h.1
    rw [List.map_cons, e, all2_str h.2]
  | [], _ :: _, h => h.elim
  | _ :: _, [], h => h.elim
theorem all2_ofStr {S : Lk} : ∀ (xs : List PySem.Str), All2 (Rp.rep S) xs (xs.map V.str)
  | [] => trivial
  | _ :: xs => ⟨rfl, all2_ofStr xs⟩
def rLenTx : List V → Hp → VK → Prop := fun xs H Q => ∃ z, xs = [.str z] ∧ z.length ≤ sizeLine ∧ Q (.int z.length) H
theorem cl_lenS {X : Cx} : CallR X (.builtin "len") rLenTx := fun pins s σ H xs us Q I r ⟨z, e, hz, q⟩ => call_len pins s σ H xs us Q I r ⟨.str z, z.length, e, ⟨hz, rfl⟩, q⟩
def rTxt (x : V) (R : Prop) : Prop := (∃ a, x = .str a) ∧ R
theorem w_txt {a : PySem.Str} {R : Prop} (k : R) : rTxt (.str a) R := ⟨⟨a, rfl⟩, k⟩
theorem str_one {x : PySem.Str} {c : Nat} (h : x.cps.toList = [c]) : x = ⟨#[c]⟩ := by
  obtain ⟨cps⟩ := x
  have e : cps = #[c] := Array.toList_inj.mp h
  rw [e]
section
variable {K : PySem.W.Frag} {B H H' : Hp} {ctx : List Fact} {L : List Own} {t : Bool} {v w u : V} {p : Addr} {Q : VK} {i j : Int} {σ : L2.St} {a b c : PySem.Str}
theorem i_m1 {r : V → List V → Hp → VK → Prop} {to te : TE} (h : to σ H fun x H1 => rTxt x (te σ H1 fun y H2 => r x [y] H2 Q)) : tM1 r to te σ H Q := h
theorem w_split {ys : List PySem.Str} (W : Wd K B ctx L H) (e : splitO a b = some ys) (k : ∀ p H', Wd K B ctx (oL true p ys :: L) H' → Q (.ref p) H') :
    ∃ a' b', V.str a = .str a' ∧ [V.str b] = [.str b'] ∧ (b'.length == 0) = false ∧ a'.length + 2 ≤ sizeLine ∧ rNewStrs (Txt.split a' b') H Q := by
  obtain ⟨N, F, W⟩ := W
  obtain ⟨⟨h1, h2⟩, rfl⟩ := guardE e
  exact ⟨a, b, rfl, rfl, h1, h2, fun p hp => k p _ (Wd.newL W hp (all2_ofStr _))⟩
theorem w_part {y : T3 PySem.Str PySem.Str PySem.Str} (W : Wd K B ctx L H) (e : partO a b = some y) (k : ∀ p H', Wd K B (fc true y (.ref p) :: ctx) L H' → Q (.ref p) H') :
    ∃ a' b', V.str a = .str a' ∧ [V.str b] = [.str b'] ∧ (b'.length == 0) = false ∧ a'.length ≤ sizeLine ∧ ∀ p, H p = none → Q (.ref p) (upd H p (.tup [.str (Txt.partition a' b').1, .str (Txt.partition a' b').2.1, .str (Txt.partition a' b').2.2])) := by
  obtain ⟨N, F, W⟩ := W
  obtain ⟨⟨h1, h2⟩, rfl⟩ := guardE e
  exact ⟨a, b, rfl, rfl, h1, h2, fun p hp => k p _ (Wd.newT W hp true fun N' F' _ _ q => ⟨p, _, _, _, rfl, q, rfl, rfl, rfl⟩)⟩
theorem w_join {ys : List PySem.Str} (W : Wd K B ctx L H) (h : Ls K ctx L t ys v) (e : joinO a ys = some c) (k : Q (.str c) H) :
    ∃ a' p, ∃ ys' : List PySem.Str, V.str a = .str a' ∧ [v] = [.ref p] ∧ (SqL K H p (ys'.map V.str) ∨ SqT K H p (ys'.map V.str)) ∧ (ys'.map (·.length)).sum + ys'.length * a'.length ≤ 16777216 ∧ Q (.str (Txt.join a' ys')) H := by
  obtain ⟨N, F, W⟩ := W
  obtain ⟨q, vs, rfl, h1, h2⟩ := h B H N F W
  rw [all2_str h2] at h1
  obtain ⟨hz, rfl⟩ := guardE e
  exact ⟨a, q, ys, rfl, rfl, .inl h1, hz, k⟩
theorem w_intS (e : intSO a = some i) (k : Q (.int i) H) : ∃ a' n, [V.str a] = [.str a'] ∧ PySem.intText? a' = some n ∧ a'.length ≤ 640 ∧ Q (.int n) H := by
  unfold intSO at e
  split at e
  · exact ⟨a, i, rfl, e, by assumption, k⟩
  · cases e
def rStrI : List V → Hp → VK → Prop := fun xs H Q => ∃ i, xs = [.int i] ∧ i.natAbs.log2 < 1920 ∧ Q (.str (PySem.Str.ofString (toString i))) H
theorem call_strI {X : Cx} : CallR X (.type "str") rStrI := call_str_int
theorem w_strI (e : strO i = some a) (k : Q (.str a) H) : rStrI [V.int i] H Q := by
  obtain ⟨hz, rfl⟩ := guardE e
  exact ⟨i, rfl, hz, k⟩
theorem w_ixS (e : atS a i = some b) (k : Q (.str b) H) : rIx K (.str a) (.int i) H Q := by
  unfold atS at e
  split at e
  · rename_i hz
    cases q : atI a.cps.toList i with
    | none => rw [q] at e; cases e
    | some c =>
      rw [q] at e
      cases e
      exact .inr (.inr ⟨a, i, c, rfl, rfl, hz, q, k⟩)
  · cases e
theorem w_inS {r : Bool} (e : inSO a b = some r) (k : Q (.bl r) H) : rInS (.str a) (.str b) H Q := by
  unfold inSO at e
  split at e
  · rename_i c hc
    cases e
    exact ⟨c, b, by rw [str_one hc], rfl, k⟩
  · cases e
theorem w_notInS {r : Bool} (e : inSO a b = some r) (k : Q (.bl (!r)) H) : rNotInS (.str a) (.str b) H Q := by
  unfold inSO at e
  split at e
  · rename_i c hc
    cases e
    exact ⟨c, b, by rw [str_one hc], rfl, k⟩
  · cases e
theorem w_catS (e : catS a b = some c) (k : Q (.str c) H) : ∃ i j, V.str a = .str i ∧ V.str b = .str j ∧ i.length + j.length ≤ sizeLine ∧ Q (.str (i ++ j)) H := by
  obtain ⟨hz, rfl⟩ := guardE e
  exact ⟨a, b, rfl, rfl, hz, k⟩
theorem w_slS {lo hi : Option Int} (e : sliceS a lo hi = some c) (k : Q (.str c) H) : rSlS (.str a) lo hi H Q := by
  obtain ⟨hz, rfl⟩ := guardE e
  exact ⟨a, rfl, hz, k⟩
theorem w_lenS (e : lenSO a = some i) (k : Q (.int i) H) : rLenTx [.str a] H Q := by
  obtain ⟨hz, rfl⟩ := guardE e
  exact ⟨a, rfl, hz, k⟩
def rItS (v : V) (H : Hp) (R : It → Hp → Prop) : Prop := ∃ x, v = .str x ∧ R (Its x) H
theorem i_iStr {te : TE} {R : It → Hp → Prop} (h : te σ H fun v H1 => rItS v H1 R) : iStr te σ H R := h
theorem w_itS {R : It → Hp → Prop} (k : R (Its a) H) : rItS (.str a) H R := ⟨a, rfl, k⟩
theorem gv_str {β ε : Type} {S : Shp β ε} (t : Bool) : Gives K B S (Its a) t (charsT a) := fun i b e H W => by
  refine ⟨fun hi => ?_, fun x hx => ?_⟩
  · unfold charsT at hi
    rw [List.length_map, Array.length_toList] at hi
    exact hi
  · unfold charsT at hx
    rw [List.getElem?_map, Array.getElem?_toList] at hx
    cases q : a.cps[i]? with
    | none => rw [q] at hx; cases hx
    | some d =>
      rw [q] at hx
      cases hx
      refine ⟨(Array.getElem?_eq_some_iff.mp q).1, fun v' H' y => ?_⟩
      obtain ⟨rfl, d', q', rfl⟩ := y
      rw [q] at q'
      cases q'
      exact W.know fun N F _ _ => rfl
end
end PB

namespace PB
open PySem PySem.Spec PyProof.Rows L2
/-! ### what is told is new throughout, beside all that is known -/
structure Isl (L : List Own) (F H R : Hp) : Prop where
  s : Same R H
  off : ∀ a u, R a = some u → F a = none ∧ ∀ o ∈ L, o.a ≠ a
def ResMF (K : PySem.W.Frag) (N0 H : Hp) (As : List Addr) (L' : List Own) {α : Type} [Rp α] (r : α) (v : V) (H' : Hp) : Prop :=
  ∃ N' R, Same N0 N' ∧ But As H H' ∧ Same N' H' ∧ (∀ b u, N' b = some u → H b = none ∨ N0 b = some u) ∧ (∀ a ∈ As, N' a = none) ∧ Same R H' ∧ (∀ a u, R a = some u → H a = none ∧ N' a = none) ∧ Rp.rep (lkN R) r v ∧ ∀ o ∈ L', ∃ h, H' o.a = some h ∧ o.P K N' N' h
section
variable {K : PySem.W.Frag} {B H H' N F N0 R : Hp} {ctx : List Fact} {L L0 L' : List Own} {α β γ : Type} [Rp α] [Rp β] [Rp γ] {x : α} {v : V} {p : Addr}
theorem WdI.resMF {As : List Addr} (W : WdI K (cutH (delL H As) N0) ctx L H' N F) (m : Nat) (hm : ctx[m]? = some (fN N0 (delL H As))) (hsub : ∀ o ∈ L', o ∈ L) (ha : L'.map (·.a) = As) (fr : AllFr L') (I : Isl L F H' R) (h : Rp.rep (lkN R) x v) : ResMF K N0 H As L' x v H' := by
  obtain ⟨s1, s2⟩ := W.facts _ (List.mem_of_getElem? hm)
  have hoff : ∀ a ∈ As, F a = none := fun a ha' => by
    rw [← ha] at ha'
    obtain ⟨o, ho, rfl⟩ := List.mem_map.mp ha'
    exact W.off o (hsub o ho)
  have hN : ∀ a ∈ As, N a = none := fun a ha' => W.nF.free (hoff a ha')
  refine ⟨N, R, s1, fun b u hb e => W.fH b u (s2 b u ?_), W.nF.trans W.fH, fun b u e => ?_, hN, I.s, fun a u e => ⟨?_, W.nF.free (I.off a u e).1⟩, h, fun o ho => ?_⟩
  · unfold delL
    rw [if_neg hb]
    exact e
  · have hb : b ∉ As := fun z => by
      rw [hN b z] at e
      cases e
    have h1 := W.sep b u e
    unfold cutH at h1
    cases q : N0 b with
    | some w =>
      have := s1 b w q
      rw [e] at this
      exact .inr this.symm
    | none =>
      rw [q] at h1
      have h1 : delL H As b = none := h1
      unfold delL at h1
      rw [if_neg hb] at h1
      exact .inl h1
  · obtain ⟨g1, g2⟩ := I.off a u e
    have hna : a ∉ As := fun z => by
      rw [← ha] at z
      obtain ⟨o, ho, e2⟩ := List.mem_map.mp z
      exact g2 o (hsub o ho) e2
    cases q : H a with
    | none => rfl
    | some w =>
      have : delL H As a = some w := by
        unfold delL
        rw [if_neg hna]
        exact q
      have := s2 a w this
      rw [g1] at this
      cases this
  · obtain ⟨u, e, q⟩ := W.at_ o (hsub o ho)
    exact ⟨u, e, fr.all o ho _ _ _ _ _ q⟩
/-- a def that tells something new -/
theorem WdI.isl (W : WdI K B ctx L H N F) (r : Res K H x v H') : ∃ R, WdI K B ctx L H' N F ∧ Isl L F H' R ∧ Rp.rep (lkN R) x v := by
  obtain ⟨R, s, sR, hR, h⟩ := r
  refine ⟨R, ⟨W.bF, W.nF, W.sep, W.fH.trans s, W.facts, fun o ho => ?_, W.off, W.nd⟩, ⟨sR, fun a u e => ⟨W.fH.free (hR a u e), fun o ho e2 => ?_⟩⟩, h⟩
  · obtain ⟨u, e, q⟩ := W.at_ o ho
    exact ⟨u, s _ _ e, q⟩
  · obtain ⟨u2, e3, _⟩ := W.at_ o ho
    rw [e2, hR a u e] at e3
    cases e3
/-- one's own list, told -/
theorem WdI.islO [Flat β] {ys : List β} {t : Bool} (W : WdI K B ctx L H N F) (is : List Nat) (h : selB is L = some L') (j : Nat) (hj : L[j]? = some (oL t p ys)) (n : is.Nodup := by decide) (hji : j ∉ is := by decide) :
    ∃ R, WdI K B ctx L' H N F ∧ Isl L' F H R ∧ Rp.rep (lkN R) ys (.ref p) := by
  obtain ⟨u, e, vs, rfl, hr⟩ := W.at_ _ (List.mem_of_getElem? hj)
  have e : H p = some (.lst vs) := e
  refine ⟨fun b => if b = p then some (.lst vs) else none, W.selO is h n, ⟨fun b u hb => ?_, fun b u hb => ?_⟩, p, vs, rfl, if_pos rfl, hr.mono fun _ _ q => Flat.h _ _ _ _ q⟩
  · by_cases hbp : b = p
    · subst hbp
      rw [if_pos rfl] at hb
      cases hb
      exact e
    · rw [if_neg hbp] at hb
      cases hb
  · by_cases hbp : b = p
    · subst hbp
      refine ⟨W.off _ (List.mem_of_getElem? hj), fun o ho e2 => ?_⟩
      obtain ⟨i, hi, hq⟩ := selB_mem h o ho
      have a1 := List.getElem?_map (f := (·.a)) (l := L) (i := i)
      have a2 := List.getElem?_map (f := (·.a)) (l := L) (i := j)
      rw [hq] at a1
      rw [hj] at a2
      have a1 : (L.map (·.a))[i]? = some o.a := a1
      have a2 : (L.map (·.a))[j]? = some b := a2
      rw [e2] at a1
      have := nd_ix W.nd a1 a2
      subst this
      exact hji hi
    · rw [if_neg hbp] at hb
      cases hb
theorem WdI.callMF {As : List Addr} (W : WdI K B ctx L H N F) (ps : List (Nat × Own × Own)) (hp : OkS L ps) (hA : As = ps.map fun p => p.2.1.a) (hL' : L' = ps.map fun p => p.2.2) (fr : AllFr L') (r : ResMF K N H As L' x v H') : ∃ N2 F2 R, WdI K B ctx (setAll L ps) H' N2 F2 ∧ Isl (setAll L ps) F2 H' R ∧ Rp.rep (lkN R) x v := by
  obtain ⟨N', R, s1, s2, s3, s4, hNa, sR, hR, hr, hv⟩ := r
  have hadr := okS_addr hp
  have hoff : ∀ a ∈ As, F a = none := fun a ha => by
    rw [hA] at ha
    obtain ⟨p, hp1, rfl⟩ := List.mem_map.mp ha
    obtain ⟨⟨o, o1, o2⟩, _⟩ := hadr p hp1
    rw [← o2]
    exact W.off o o1
  have hF : ∀ b u, N' b = some u → F b = none ∨ F b = some u := fun b u e => by
    rcases s4 b u e with h | h
    · exact .inl (W.fH.free h)
    · exact .inr (W.nF b u h)
  have sN' : Same N' (join F N') := fun b u e => by
    unfold join
    rcases hF b u e with h | h
    · rw [h]
      exact e
    · rw [h]
  have sF : Same F (join F N') := join_l
  have offJ : ∀ o ∈ L, join F N' o.a = none ∨ o.a ∈ As := fun o ho => by
    obtain ⟨u, e, q⟩ := W.at_ o ho
    have ho2 := W.off o ho
    by_cases hm : o.a ∈ As
    · exact .inr hm
    · refine .inl ?_
      unfold join
      rw [ho2]
      show N' o.a = none
      cases q2 : N' o.a with
      | none => rfl
      | some w =>
        rcases s4 _ _ q2 with h | h
        · rw [e] at h
          cases h
        · have := W.nF _ _ h
          rw [ho2] at this
          cases this
  have offA : ∀ a ∈ As, join F N' a = none := fun a ha => by
    unfold join
    rw [hoff a ha]
    exact hNa a ha
  have W2 : WdI K B ctx (setAll L ps) H' N' (join F N') := by
    refine ⟨W.bF.trans sF, sN', fun b u e => ?_, fun b u e => ?_, fun f hf => ?_, fun o ho => ?_, fun o ho => ?_, by rw [setAll_map hp]; exact W.nd⟩
    · rcases s4 b u e with h | h
      · exact W.bF.free (W.fH.free h)
      · exact W.sep b u h
    · rcases join_or e with e | e
      · refine s2 b u (fun hm => ?_) (W.fH b u e)
        rw [hoff b hm] at e
        cases e
      · exact s3 b u e
    · exact f.mono s1 sF (W.facts f hf)
    · rcases setAll_mem hp W.nd ho with ⟨h1, h2⟩ | ⟨p, h1, rfl⟩
      · obtain ⟨u, e, q⟩ := W.at_ o h1
        refine ⟨u, s2 _ _ (fun hm => ?_) e, o.mono s1 sF q⟩
        rw [hA] at hm
        obtain ⟨p, g1, g2⟩ := List.mem_map.mp hm
        exact h2 p g1 g2.symm
      · have hm : p.2.2 ∈ L' := by rw [hL']; exact List.mem_map.mpr ⟨p, h1, rfl⟩
        obtain ⟨u, e, q⟩ := hv _ hm
        exact ⟨u, e, fr.all _ hm _ _ _ _ _ q⟩
    · rcases setAll_mem hp W.nd ho with ⟨h1, h2⟩ | ⟨p, h1, rfl⟩
      · rcases offJ o h1 with h | h
        · exact h
        · exact offA _ h
      · refine offA _ ?_
        rw [hA, (hadr p h1).2]
        exact List.mem_map.mpr ⟨p, h1, rfl⟩
  refine ⟨N', join F N', R, W2, ⟨sR, fun a u e => ?_⟩, hr⟩
  obtain ⟨g1, g2⟩ := hR a u e
  have gF := W.fH.free g1
  refine ⟨by unfold join; rw [gF]; exact g2, fun o ho e2 => ?_⟩
  have hm : o.a ∈ (setAll L ps).map (·.a) := List.mem_map.mpr ⟨o, ho, rfl⟩
  rw [setAll_map hp] at hm
  obtain ⟨q, hq, e3⟩ := List.mem_map.mp hm
  obtain ⟨u2, e4, _⟩ := W.at_ q hq
  rw [e3, e2, g1] at e4
  cases e4
/-- it joins what is known -/
theorem WdI.addI (W : WdI K B ctx L H N F) (I : Isl L F H R) : WdI K B ctx L H (join N R) (join F R) := by
  have rF : ∀ a u, R a = some u → F a = Option.none := fun a u e => (I.off a u e).1
  have rN : ∀ a u, R a = some u → N a = Option.none := fun a u e => W.nF.free (rF a u e)
  have sN : Same N (join N R) := join_l
  have sF : Same F (join F R) := join_l
  refine ⟨W.bF.trans sF, fun b u e => ?_, fun b u e => ?_, fun b u e => ?_, fun f hf => f.mono sN sF (W.facts f hf), fun o ho => ?_, fun o ho => ?_, W.nd⟩
  · rcases join_or e with e | e
    · exact sF _ _ (W.nF b u e)
    · exact join_r rF _ _ e
  · rcases join_or e with e | e
    · exact W.sep b u e
    · exact W.bF.free (rF b u e)
  · rcases join_or e with e | e
    · exact W.fH b u e
    · exact I.s b u e
  · obtain ⟨u, e, q⟩ := W.at_ o ho
    exact ⟨u, e, o.mono sN sF q⟩
  · cases e : join F R o.a with
    | none => rfl
    | some u =>
      exfalso
      rcases join_or e with e | e
      · rw [W.off o ho] at e
        cases e
      · exact (I.off _ _ e).2 o ho rfl
theorem WdI.addF (W : WdI K B ctx L H N F) (I : Isl L F H R) (h : Rp.rep (lkN R) x v) : Wd K B (fc true x v :: ctx) L H := by
  have rN : Same R (join N R) := join_r fun a u e => W.nF.free (I.off a u e).1
  have J := W.addI I
  refine ⟨_, _, J.bF, J.nF, J.sep, J.fH, fun f hf => ?_, J.at_, J.off, J.nd⟩
  rcases List.mem_cons.mp hf with rfl | hf
  · exact Rp.mono (lkN_mono rN) h
  · exact J.facts f hf
theorem Isl.del (I : Isl L F H R) : Isl L F H (PB.del R p) := ⟨Same.del.trans I.s, fun a u e => I.off a u (Same.del a u e)⟩
/-- an own list laid beside -/
theorem WdI.addOwn {o : Own} {u : HO} (W : WdI K B ctx L H N F) (e : H o.a = some u) (hF : F o.a = none) (hL : ∀ q ∈ L, q.a ≠ o.a) (h : o.P K N F u) : WdI K B ctx (o :: L) H N F := by
  refine ⟨W.bF, W.nF, W.sep, W.fH, W.facts, fun q hq => ?_, fun q hq => ?_, ?_⟩
  · rcases List.mem_cons.mp hq with rfl | hq
    · exact ⟨u, e, h⟩
    · exact W.at_ q hq
  · rcases List.mem_cons.mp hq with rfl | hq
    · exact hF
    · exact W.off q hq
  · rw [List.map_cons]
    refine List.nodup_cons.mpr ⟨fun hm => ?_, W.nd⟩
    obtain ⟨q, hq, eq⟩ := List.mem_map.mp hm
    exact hL q hq eq
theorem WdI.addO [Flat β] {ys : List β} (W : WdI K B ctx L H N F) (I : Isl L F H R) (h : Rp.rep (lkN R) ys v) : ∃ p, v = .ref p ∧ Wd K B ctx (oL true p ys :: L) H := by
  obtain ⟨p, vs, rfl, hp, hr⟩ := h
  obtain ⟨g1, g2⟩ := I.off _ _ hp
  exact ⟨p, rfl, _, _, WdI.addOwn (o := oL true p ys) W (I.s _ _ hp) g1 g2 ⟨vs, rfl, hr.mono fun _ _ q => Flat.h _ _ _ _ q⟩⟩
theorem WdI.addP [Flat α] [Flat β] {r : α × List β} (W : WdI K B ctx L H N F) (I : Isl L F H R) (h : Rp.rep (lkN R) r v) : ∃ p a u, v = .ref a ∧ Wd K B (fc true r.1 u :: fR true [u, .ref p] (.ref a) :: ctx) (oL true p r.2 :: L) H := by
  obtain ⟨a, u, w, rfl, hl, hr1, p, vs, rfl, hp, hr⟩ := h
  obtain ⟨g1, g2⟩ := I.off _ _ hp
  have hl : R a = some (.tup [u, .ref p]) := hl
  have hap : a ≠ p := fun e => by
    rw [e] at hl
    rw [show R p = some (.lst vs) from hp] at hl
    cases hl
  have J := W.addI (I.del (p := p))
  have rN : Same (PB.del R p) (join N (PB.del R p)) := join_r fun b q e => W.nF.free (I.off b q (Same.del b q e)).1
  have J2 := WdI.addOwn (o := oL true p r.2) J (I.s _ _ hp) (by
    show join F (PB.del R p) p = none
    unfold join
    rw [g1]
    exact del_same) g2 ⟨vs, rfl, hr.mono fun _ _ q => Flat.h _ _ _ _ q⟩
  refine ⟨p, a, u, rfl, _, _, J2.bF, J2.nF, J2.sep, J2.fH, fun f hf => ?_, J2.at_, J2.off, J2.nd⟩
  rcases List.mem_cons.mp hf with rfl | hf
  · exact Flat.h _ _ _ _ hr1
  · rcases List.mem_cons.mp hf with rfl | hf
    · exact ⟨a, rfl, rN _ _ ((del_ne hap).trans hl)⟩
    · exact J2.facts f hf
theorem Kn.pairR {ys : List β} {u : V} {a p : Addr} (m : Nat) (hm : ctx[m]? = Option.some (fR true [u, .ref p] (.ref a))) (h : Kn K ctx true x u) (h2 : Kn K ctx true ys (.ref p)) : Kn K ctx true (x, ys) (.ref a) := fun N F s q => by
  obtain ⟨a', e, ht⟩ := q _ (List.mem_of_getElem? hm)
  cases e
  exact ⟨a, u, .ref p, rfl, ht, h N F s q, h2 N F s q⟩
end
end PB

namespace PB
open PySem PySem.Spec PyProof.Rows L2
/-! ### things of any kind -/
inductive Th where
  | int (i : Int)
  | bl (b : Bool)
  | non
  | str (s : PySem.Str)
  | lst (xs : List Th)
  | tup (xs : List Th)
  | dic (ks : List Int) (xs : List Th)
  | exc
/-- what a dict of whole numbers holds -/
def dK (ks : List Int) (vs : List V) : List (Key × V) := (ks.zip vs).map fun p => (.inl p.1, p.2)
mutual
def Th.rp (S : Lk) : Th → V → Prop
  | .int i, v => v = .int i
  | .bl b, v => v = .bl b
  | .non, v => v = .non
  | .str s, v => v = .str s
  | .lst xs, v => ∃ a vs, v = .ref a ∧ S.l a vs ∧ Th.rpL S xs vs
  | .tup xs, v => ∃ a vs, v = .ref a ∧ S.t a vs ∧ Th.rpL S xs vs
  | .dic ks xs, v => ∃ a vs, v = .ref a ∧ ks.length = xs.length ∧ S.d a (dK ks vs) ∧ Th.rpL S xs vs
  | .exc, v => ∃ a, v = .ref a ∧ S.x a
def Th.rpL (S : Lk) : List Th → List V → Prop
  | [], vs => vs = []
  | x :: xs, vs => ∃ v ws, vs = v :: ws ∧ Th.rp S x v ∧ Th.rpL S xs ws
end
mutual
theorem Th.mono {S T : Lk} (s : S.Le T) : ∀ (x : Th) (v : V), Th.rp S x v → Th.rp T x v
  | .int _, _, h => h
  | .bl _, _, h => h
  | .non, _, h => h
  | .str _, _, h => h
  | .lst xs, _, ⟨a, vs, e, h, r⟩ => ⟨a, vs, e, s.l _ _ h, Th.monoL s xs vs r⟩
  | .tup xs, _, ⟨a, vs, e, h, r⟩ => ⟨a, vs, e, s.t _ _ h, Th.monoL s xs vs r⟩
  | .dic _ xs, _, ⟨a, vs, e, l, h, r⟩ => ⟨a, vs, e, l, s.d _ _ h, Th.monoL s xs vs r⟩
  | .exc, _, ⟨a, e, h⟩ => ⟨a, e, s.x _ h⟩
theorem Th.monoL {S T : Lk} (s : S.Le T) : ∀ (xs : List Th) (vs : List V), Th.rpL S xs vs → Th.rpL T xs vs
  | [], _, h => h
  | x :: xs, _, ⟨v, ws, e, h, r⟩ => ⟨v, ws, e, Th.mono s x v h, Th.monoL s xs ws r⟩
end
instance : Rp Th := ⟨Th.rp, fun s h => Th.mono s _ _ h⟩
theorem rpL_all {S : Lk} : ∀ {xs : List Th} {vs : List V}, Th.rpL S xs vs ↔ All2 (Rp.rep S) xs vs
  | [], [] => ⟨fun _ => trivial, fun _ => rfl⟩
  | [], _ :: _ => ⟨fun h => (nomatch h), fun h => False.elim h⟩
  | x :: xs, [] => ⟨fun ⟨_, _, e, _⟩ => (nomatch e), fun h => False.elim h⟩
  | x :: xs, v :: vs => ⟨fun ⟨_, _, e, h, r⟩ => by cases e; exact ⟨h, rpL_all.mp r⟩, fun h => ⟨v, vs, rfl, h.1, rpL_all.mpr h.2⟩⟩
mutual
def Th.d : Th → PyData
  | .int i => .int i
  | .bl b => .bool b
  | .non => .none
  | .str s => .str s
  | .lst xs => .list (Th.dL xs)
  | .tup xs => .tuple (Th.dL xs)
  | .dic ks xs => .dict ((ks.map PyData.int).zip (Th.dL xs))
  | .exc => .int (2 ^ 2000)
def Th.dL : List Th → List PyData
  | [] => []
  | x :: xs => x.d :: Th.dL xs
end
mutual
/-- without dicts -/
def Th.pl : Th → Bool
  | .int _ | .bl _ | .non | .str _ => true
  | .lst xs => Th.plL xs
  | .tup xs => Th.plL xs
  | .dic _ _ => false
  | .exc => false
def Th.plL : List Th → Bool
  | [] => true
  | x :: xs => x.pl && Th.plL xs
end
mutual
theorem Th.dp {K : PySem.W.Frag} {H : Hp} : ∀ (x : Th) (v : V), x.pl = true → Th.rp (lkA K H) x v → Dp K H v x.d
  | .int i, _, _, h => by cases h; exact .int i
  | .bl b, _, _, h => by cases h; exact .bl b
  | .non, _, _, h => by cases h; exact .non
  | .str s, _, _, h => by cases h; exact .str s
  | .lst xs, _, p, ⟨a, vs, e, h, r⟩ => by cases e; exact .lst (SqL.of h) (Th.dpL xs vs p r)
  | .tup xs, _, p, ⟨a, vs, e, h, r⟩ => by cases e; exact .tup h (Th.dpL xs vs p r)
  | .dic _ _, _, p, _ => by cases p
  | .exc, _, p, _ => by cases p
theorem Th.dpL {K : PySem.W.Frag} {H : Hp} : ∀ (xs : List Th) (vs : List V), Th.plL xs = true → Th.rpL (lkA K H) xs vs → DpAll K H vs (Th.dL xs)
  | [], _, _, h => by cases h; exact .nil
  | x :: xs, _, p, ⟨v, ws, e, h, r⟩ => by
    cases e
    have p2 := Bool.and_eq_true_iff.mp p
    exact .cons (Th.dp x v p2.1 h) (Th.dpL xs ws p2.2 r)
end
/-- data that may hold such things -/
class RpT (α : Type) [Rp α] where
  d : α → PyData
  ok : α → Bool
  dp : ∀ {K : PySem.W.Frag} {H : Hp} {x : α} {v : V}, ok x = true → Rp.rep (lkA K H) x v → Dp K H v (d x)
instance {α : Type} [Rp α] [RpD α] : RpT α := ⟨RpD.d, fun _ => true, fun _ h => RpD.dp h⟩
instance : RpT Th := ⟨Th.d, Th.pl, fun p h => Th.dp _ _ p h⟩
section
variable {α β : Type} [Rp α] [Rp β] [RpT α] [RpT β]
theorem all2_dpT {K : PySem.W.Frag} {H : Hp} : ∀ {xs : List α} {vs : List V}, xs.all RpT.ok = true → All2 (Rp.rep (lkA K H)) xs vs → DpAll K H vs (xs.map RpT.d)
  | [], [], _, _ => .nil
  | x :: xs, v :: vs, p, h => by
    rw [List.all_cons] at p
    have p2 := Bool.and_eq_true_iff.mp p
    exact .cons (RpT.dp p2.1 h.1) (all2_dpT p2.2 h.2)
  | [], _ :: _, _, h => False.elim h
  | _ :: _, [], _, h => False.elim h
instance (priority := low) : RpT (List α) := ⟨fun xs => .list (xs.map RpT.d), fun xs => xs.all RpT.ok, fun {K H x v} p ⟨a, vs, e, h, r⟩ => by cases e; exact .lst (SqL.of h) (all2_dpT p r)⟩
instance (priority := low) : RpT (α × β) := ⟨fun x => .tuple [RpT.d x.1, RpT.d x.2], fun x => RpT.ok x.1 && RpT.ok x.2, fun {K H x v} p ⟨a, u, w, e, h, r1, r2⟩ => by
  cases e
  have p2 := Bool.and_eq_true_iff.mp p
  exact .tup h (.cons (RpT.dp p2.1 r1) (.cons (RpT.dp p2.2 r2) .nil))⟩
instance (priority := low) : RpT (Option α) := ⟨fun x => match x with
    | none => .none
    | some y => RpT.d y, fun x => match x with
    | none => true
    | some y => RpT.ok y, fun {K H x v} p h => by
      cases x with
      | none => cases (show v = .non from h); exact .non
      | some y => exact RpT.dp (α := α) p h⟩
def eqT (x : α) (y : β) : Option Bool := if RpT.ok x = true ∧ RpT.ok y = true ∧ SeqAt.shaped (RpT.d x) = true ∧ SeqAt.shaped (RpT.d y) = true then some (PyData.eqv (RpT.d x) (RpT.d y)) else none
def reprT (x : α) : Option PySem.Str := if RpT.ok x = true ∧ (RpT.d x).showable = true ∧ (RpT.d x).hasDict = false ∧ (RpT.d x).depth ≤ 60 ∧ (RpT.d x).shown.length ≤ sizeLine then some (RpT.d x).shown else none
variable {K : PySem.W.Frag} {B H : Hp} {ctx : List Fact} {L : List Own} {x : α} {y : β} {v w : V} {Q : VK}
theorem w_eqT {b : Bool} (W : Wd K B ctx L H) (h : Ar K ctx L x v) (h' : Ar K ctx L y w) (e : eqT x y = some b) (k : Q (.bl b) H) : rEqA K v w H Q := by
  obtain ⟨N, F, W⟩ := W
  obtain ⟨⟨p1, p2, s1, s2⟩, rfl⟩ := guardE e
  exact i_eqD (RpT.dp p1 (h B H N F W)) (RpT.dp p2 (h' B H N F W)) s1 s2 k
theorem w_neT {b : Bool} (W : Wd K B ctx L H) (h : Ar K ctx L x v) (h' : Ar K ctx L y w) (e : eqT x y = some b) (k : Q (.bl (!b)) H) : rNeA K v w H Q := by
  obtain ⟨N, F, W⟩ := W
  obtain ⟨⟨p1, p2, s1, s2⟩, rfl⟩ := guardE e
  exact i_neD (RpT.dp p1 (h B H N F W)) (RpT.dp p2 (h' B H N F W)) s1 s2 k
theorem w_reprT {s : PySem.Str} (W : Wd K B ctx L H) (h : Ar K ctx L x v) (e : reprT x = some s) (k : Q (.str s) H) : rRepr K [v] H Q := by
  obtain ⟨N, F, W⟩ := W
  obtain ⟨⟨p, s1, s2, s3, s4⟩, rfl⟩ := guardE e
  exact i_repr (RpT.dp p (h B H N F W)) s1 s2 s3 s4 k
end
/-! kinds -/
def Th.ty : Th → String
  | .int _ => "int"
  | .bl _ => "bool"
  | .non => "NoneType"
  | .str _ => "str"
  | .lst _ => "list"
  | .tup _ => "tuple"
  | .dic _ _ => "dict"
  | .exc => "ValueError"
def isiT (x : Th) (c : String) : Bool := isub x.ty c
theorem th_tyx {K : PySem.W.Frag} {H : Hp} : ∀ {x : Th} {v : V}, Rp.rep (lkA K H) x v → TyX K H v (.type x.ty) ∨ x = .exc
  | .int _, _, h => by cases h; exact .inl (.base (.int _))
  | .bl _, _, h => by cases h; exact .inl (.base (.bl _))
  | .non, _, h => by cases h; exact .inl (.base .non)
  | .str _, _, h => by cases h; exact .inl (.base (.str _))
  | .lst _, _, ⟨a, vs, e, h, r⟩ => by cases e; exact .inl (.base (.lst h))
  | .tup _, _, ⟨a, vs, e, h, r⟩ => by cases e; exact .inl (tyx_tup h)
  | .dic _ _, _, ⟨a, vs, e, l, h, r⟩ => by cases e; exact .inl (.base (.dK h))
  | .exc, _, _ => .inr rfl
theorem kit_isubT {T c : String} (hT : T ∈ ["NoneType", "bool", "int", "str", "list", "tuple", "dict", "ValueError"]) (hc : c ∈ ["bool", "int", "str", "list", "tuple", "dict"]) : kitB T c = some (isub T c) := by
  have key : ∀ T ∈ ["NoneType", "bool", "int", "str", "list", "tuple", "dict", "ValueError"], ∀ c ∈ ["bool", "int", "str", "list", "tuple", "dict"], kitB T c = some (isub T c) := by decide +kernel
  exact key T hT c hc
theorem th_tys (x : Th) : x.ty ∈ ["NoneType", "bool", "int", "str", "list", "tuple", "dict", "ValueError"] := by cases x <;> simp [Th.ty]
def Th.getI : Th → Option Int
  | .int i => some i
  | _ => none
def Th.getB : Th → Option Bool
  | .bl b => some b
  | _ => none
def Th.getS : Th → Option PySem.Str
  | .str s => some s
  | _ => none
def Th.getL : Th → Option (List Th)
  | .lst xs => some xs
  | _ => none
def Th.getP : Th → Option (Th × Th)
  | .tup [x, y] => some (x, y)
  | _ => none
def Th.isNone : Th → Bool
  | .non => true
  | _ => false
section
variable {K : PySem.W.Frag} {B H : Hp} {ctx : List Fact} {L : List Own} {t : Bool} {x : Th} {v : V} {Q : VK}
theorem w_isiT {c : String} (W : Wd K B ctx L H) (h : Ar K ctx L x v) (hc : c ∈ ["bool", "int", "str", "list", "tuple", "dict"]) (k : Q (.bl (isiT x c)) H) : rIsX K [v, .ty c] H Q := by
  obtain ⟨N, F, W⟩ := W
  have r := h B H N F W
  rcases th_tyx r with ht | rfl
  · exact .inl (i_isi ht (kit_isubT (th_tys x) hc) k)
  · obtain ⟨a, e, hx⟩ := r
    cases e
    exact .inr (i_isV hx (kit_isubT (th_tys .exc) hc) k)
theorem Wd.thI {i : Int} (W : Wd K B ctx L H) (h : Kn K ctx t x v) (e : x.getI = some i) : Wd K B (fc t i v :: ctx) L H := by
  cases x <;> cases e
  exact W.know fun N F s q => h N F s q
theorem Wd.thB {i : Bool} (W : Wd K B ctx L H) (h : Kn K ctx t x v) (e : x.getB = some i) : Wd K B (fc t i v :: ctx) L H := by
  cases x <;> cases e
  exact W.know fun N F s q => h N F s q
theorem Wd.thS {i : PySem.Str} (W : Wd K B ctx L H) (h : Kn K ctx t x v) (e : x.getS = some i) : Wd K B (fc t i v :: ctx) L H := by
  cases x <;> cases e
  exact W.know fun N F s q => h N F s q
theorem Wd.thL {i : List Th} (W : Wd K B ctx L H) (h : Kn K ctx t x v) (e : x.getL = some i) : Wd K B (fc t i v :: ctx) L H := by
  cases x <;> cases e
  exact W.know fun N F s q => by
    obtain ⟨a, vs, e, h1, h2⟩ := h N F s q
    exact ⟨a, vs, e, h1, rpL_all.mp h2⟩
theorem Wd.thP {i : Th × Th} (W : Wd K B ctx L H) (h : Kn K ctx t x v) (e : x.getP = some i) : Wd K B (fc t i v :: ctx) L H := by
  match x, e, h with
  | .tup [p, q], e, h =>
    cases e
    exact W.know fun N F s g => by
      obtain ⟨a, vs, e, h1, u, ws, rfl, r1, w, zs, rfl, r2, e3⟩ := h N F s g
      have e3 : zs = [] := e3
      subst e3
      exact ⟨a, u, w, e, h1, r1, r2⟩
theorem w_isNT (W : Wd K B ctx L H) (h : Kn K ctx t x v) (k : Q (.bl x.isNone) H) : rIsN v .non H Q := ⟨rfl, by
  obtain ⟨N, F, W⟩ := W
  have r := h N F W.nF W.facts
  have e : decide (v = V.non) = x.isNone := by
    cases x with
    | non => cases (show v = .non from r); rfl
    | int i => cases (show v = .int i from r); rfl
    | bl i => cases (show v = .bl i from r); rfl
    | str i => cases (show v = .str i from r); rfl
    | lst i => obtain ⟨a, vs, rfl, _⟩ := r; rfl
    | tup i => obtain ⟨a, vs, rfl, _⟩ := r; rfl
    | dic i j => obtain ⟨a, vs, rfl, _⟩ := r; rfl
    | exc => obtain ⟨a, rfl, _⟩ := r; rfl
  rw [e]
  exact k⟩
theorem w_notNT (W : Wd K B ctx L H) (h : Kn K ctx t x v) (k : Q (.bl (!x.isNone)) H) : rNotN v .non H Q := ⟨rfl, by
  obtain ⟨N, F, W⟩ := W
  have r := h N F W.nF W.facts
  have e : decide (v = V.non) = x.isNone := by
    cases x with
    | non => cases (show v = .non from r); rfl
    | int i => cases (show v = .int i from r); rfl
    | bl i => cases (show v = .bl i from r); rfl
    | str i => cases (show v = .str i from r); rfl
    | lst i => obtain ⟨a, vs, rfl, _⟩ := r; rfl
    | tup i => obtain ⟨a, vs, rfl, _⟩ := r; rfl
    | dic i j => obtain ⟨a, vs, rfl, _⟩ := r; rfl
    | exc => obtain ⟨a, rfl, _⟩ := r; rfl
  rw [e]
  exact k⟩
end
def eqNil : Th → Option Bool
  | .lst xs => some xs.isEmpty
  | _ => none
section
variable {α β : Type} [Rp α] [Rp β] {K : PySem.W.Frag} {B H : Hp} {ctx : List Fact} {L : List Own} {t t' : Bool} {xs : List α} {v w : V} {Q : VK}
theorem w_eqNil (W : Wd K B ctx L H) (h : Ls K ctx L t xs v) (h' : Ls K ctx L t' ([] : List β) w) (k : Q (.bl xs.isEmpty) H) : rEqA K v w H Q := by
  obtain ⟨N, F, W⟩ := W
  obtain ⟨a, vs, rfl, h1, h2⟩ := h B H N F W
  obtain ⟨b, ws, rfl, h3, h4⟩ := h' B H N F W
  cases ws with
  | cons _ _ => exact False.elim h4
  | nil => exact .inr (.inr ⟨a, b, vs, rfl, rfl, h1, h3, by
      cases vs <;> cases xs <;> first | exact k | exact False.elim h2⟩)
theorem w_neNil (W : Wd K B ctx L H) (h : Ls K ctx L t xs v) (h' : Ls K ctx L t' ([] : List β) w) (k : Q (.bl (!xs.isEmpty)) H) : rNeA K v w H Q := by
  obtain ⟨N, F, W⟩ := W
  obtain ⟨a, vs, rfl, h1, h2⟩ := h B H N F W
  obtain ⟨b, ws, rfl, h3, h4⟩ := h' B H N F W
  cases ws with
  | cons _ _ => exact False.elim h4
  | nil => exact .inr (.inr ⟨a, b, vs, rfl, rfl, h1, h3, by
      cases vs <;> cases xs <;> first | exact k | exact False.elim h2⟩)
theorem rpL_nil {S : Lk} {xs : List Th} {vs : List V} (h : Th.rpL S xs vs) : vs.isEmpty = xs.isEmpty := by
  cases xs with
  | nil => cases h; rfl
  | cons x xs =>
    obtain ⟨v, ws, e, _⟩ := h
    subst e
    rfl
theorem w_eqNilT {x : Th} {b : Bool} (W : Wd K B ctx L H) (h : Ar K ctx L x v) (h' : Ls K ctx L t' ([] : List β) w) (e : eqNil x = some b) (k : Q (.bl b) H) : rEqA K v w H Q := by
  cases x <;> cases e
  obtain ⟨N, F, W⟩ := W
  obtain ⟨a, vs, rfl, h1, h2⟩ := h B H N F W
  obtain ⟨b, ws, rfl, h3, h4⟩ := h' B H N F W
  cases ws with
  | cons _ _ => exact False.elim h4
  | nil => exact .inr (.inr ⟨a, b, vs, rfl, rfl, SqL.of h1, h3, by rw [rpL_nil h2]; exact k⟩)
theorem w_neNilT {x : Th} {b : Bool} (W : Wd K B ctx L H) (h : Ar K ctx L x v) (h' : Ls K ctx L t' ([] : List β) w) (e : eqNil x = some b) (k : Q (.bl (!b)) H) : rNeA K v w H Q := by
  cases x <;> cases e
  obtain ⟨N, F, W⟩ := W
  obtain ⟨a, vs, rfl, h1, h2⟩ := h B H N F W
  obtain ⟨b, ws, rfl, h3, h4⟩ := h' B H N F W
  cases ws with
  | cons _ _ => exact False.elim h4
  | nil => exact .inr (.inr ⟨a, b, vs, rfl, rfl, SqL.of h1, h3, by rw [rpL_nil h2]; exact k⟩)
end
/-! values as things -/
section
variable {α β γ : Type} [Rp α] [Rp β] [Rp γ]
instance : Co Int Th := ⟨.int, fun h => h⟩
instance : Co Bool Th := ⟨.bl, fun h => h⟩
instance : Co Unit Th := ⟨fun _ => .non, fun h => h⟩
instance : Co PySem.Str Th := ⟨.str, fun h => h⟩
instance [Co α Th] : Co (Option α) Th := ⟨fun x => match x with
    | none => .non
    | some y => Co.f y, fun {S x v} h => by
      cases x with
      | none => exact h
      | some y => exact Co.h (β := Th) h⟩
instance [Co α Th] : Co (List α) Th := ⟨fun xs => .lst (xs.map Co.f), fun ⟨a, vs, e, h, r⟩ => ⟨a, vs, e, h, rpL_all.mpr (all2_map r)⟩⟩
instance [Co α Th] [Co β Th] : Co (α × β) Th := ⟨fun x => .tup [Co.f x.1, Co.f x.2], fun ⟨a, u, w, e, h, r1, r2⟩ => ⟨a, _, e, h, u, _, rfl, Co.h (β := Th) r1, w, _, rfl, Co.h (β := Th) r2, rfl⟩⟩
instance [Co α Th] [Co β Th] [Co γ Th] : Co (T3 α β γ) Th := ⟨fun x => .tup [Co.f x.a, Co.f x.b, Co.f x.c], fun ⟨a, u, w, z, e, h, r1, r2, r3⟩ => ⟨a, _, e, h, u, _, rfl, Co.h (β := Th) r1, w, _, rfl, Co.h (β := Th) r2, z, _, rfl, Co.h (β := Th) r3, rfl⟩⟩
instance [Co α Th] : Co (T1 α) Th := ⟨fun x => .tup [Co.f x.a], fun ⟨a, u, e, h, r1⟩ => ⟨a, _, e, h, u, _, rfl, Co.h (β := Th) r1, rfl⟩⟩
instance [Co α Th] [Co β Th] : Co (Un α β) Th := ⟨fun x => match x with
    | .l y => Co.f y
    | .r y => Co.f y, fun {S x v} h => by
      cases x with
      | l y => exact Co.h (β := Th) h
      | r y => exact Co.h (β := Th) h⟩
end
end PB

namespace PB
open PySem PySem.Spec PyProof.Rows L2
/-! ### calls that may let an exception out -/
section
variable {X : Cx} {k : Nat} {ps : List Str} {sp : Sp} {E : L2.St → XK} {x m : Str} {p pos apos : Pos} {e o : Expr} {es : List Expr} {ta : TE} {t : TA} {f : Addr} {fd : FuncData}
theorem run_fnX {pins : List (Addr × Obj)} {σ : L2.St} {H : Hp} {s : Shared} {Q : VK} {us : List Value} {vs : List V} (F : FnG X.prog X.w X.K X.mg X.base k f fd ps sp) (hr : Room k X.A)
    (hgd : X.A.guards = some []) (hb : Binds X.K fd ps []) (hx : PassesAt (L2.CX X.prog X.w) X σ (E σ)) (I : Inv X pins σ H s) (r : Vals vs us) (h : sp vs H Q (E σ)) :
    wpAny (model X.prog X.w) X.A (call (.ref f) us) (EP X pins σ Q) X.xe s := by
  have hl : us.length = ps.length := by
    rw [← r.length]
    exact F.len _ _ _ _ h
  have hb2 := hb s us I.kIn (by rw [List.append_nil]; exact hl)
  rw [List.append_nil] at hb2
  refine wpAny_call (codeAny_mono (F.run X.A X.stack s H ⟨us, []⟩ us vs Q (E σ) hr hgd I.env0 hb2 r h) fun r s' hq => ?_)
  match r, hq with
  | .error e, hq => exact hx pins H s e s' I hq
  | .ok (.ret u), hq => exact I.after hq
  | .ok .next, hq => exact hq.elim
  | .ok .brk, hq => exact hq.elim
  | .ok .cont, hq => exact hq.elim
def tCallX (sp : Sp) (E : L2.St → XK) (t : TA) : TE := fun σ H Q => t σ H fun vs H1 => sp vs H1 Q (E σ)
theorem pe_fnX (G : Fn X.prog X.w X.K X.mg X.base k x ps sp) (hr : Room k X.A) (hgd : X.A.guards = some []) (hg : Gl X x) (hx : ∀ σ, PassesAt (L2.CX X.prog X.w) X σ (E σ))
    (ha : PA X (e :: es) t) (hdb : (x == ("__debug__" : Str)) = false := by decide) (he : starEach (e :: es) X.env = (false, eval e X.env) :: starEach es X.env := by rfl)
    (hpl : (backTo pos (starEach es X.env)).any (·.1) = false := by rfl) : PE X (.Call (.Name x p) (e :: es) [] pos) (tCallX sp E t) := by
  obtain ⟨f, fd, hm, hk, hb, F⟩ := G.ex
  refine ⟨fun pins s σ H Q I h => wpAny_Call_Name_kw (ld_glob I hg hm ?_ hdb)⟩
  refine PySem.W.callWith_K (h₀ := X.base) I.ok.mod.kin hk (thn (ha.run pos pins s σ H _ I h) fun us s1 ⟨vs, H1, I1, r, q⟩ => ⟨I1.kIn, ?_⟩) he hpl
  exact run_fnX F hr hgd hb (hx σ) I1 r q
def tMX (C : Addr) (m : Str) (sp : Sp) (E : L2.St → XK) (ta : TE) (t : TA) : TE := fun σ H Q => ta σ H fun x H1 => ∃ a dx fs, x = .ref a ∧ H1 a = some (.ins C dx fs) ∧ fs.lookup m = none ∧ t σ H1 fun vs H2 => sp (x :: vs) H2 Q (E σ)
theorem pe_mGX {pl : Sem Bool} (G : MFn X.prog X.w X.K X.mg X.base k m ps sp) (c : Cls X.K (LvA X.K)) (hr : Room k X.A) (hgd : X.A.guards = some []) (hx : ∀ σ, PassesAt (L2.CX X.prog X.w) X σ (E σ)) (he : PE X o ta) (ha : PA X (e :: es) t)
    (hst : starEach (e :: es) X.env = (false, eval e X.env) :: starEach es X.env := by rfl) (hpl : (backTo pos (starEach es X.env)).any (·.1) = false := by rfl)
    (ht : eval (.Call (.Attribute o m apos) (e :: es) [] pos) X.env = (do
      let ov ← eval o X.env
      standAt apos.atName
      let (f, first) ← holding [ov] (getMethod ov m pl)
      callWith pos f first (backTo pos (starEach (e :: es) X.env)) (backToKw pos (keywordEach [] X.env))) := by rfl) :
    PE X (.Call (.Attribute o m apos) (e :: es) [] pos) (tMX (LvA X.K) m sp E ta t) := by
  obtain ⟨f, fd, hm, hb, F⟩ := G.ex
  refine ⟨fun pins s σ H Q I h => ?_⟩
  refine PySem.W.methodCall_KW (pl := pl) (thn (he.run pins s σ H _ I h) fun u s1 ⟨x, H1, I1, rx, a, dx, fs, ex, ea, l, q⟩ => ?_) ht
  subst ex
  obtain rfl : u = Value.ref a := rx
  refine getmeth_ok I1 ea c hm l ?_
  refine PySem.W.callWith_K (first := [.ref a]) (h₀ := X.base) I.ok.mod.kin hm.kp (thn (ha.run pos pins s1 σ H1 _ I1 q) fun us s2 ⟨vs, H2, I2, r, q2⟩ => ⟨I2.kIn, ?_⟩) hst hpl
  exact run_fnX (us := .ref a :: us) (vs := .ref a :: vs) F hr hgd hb (hx σ) I2 (.cons rfl r) q2
variable {σ : L2.St} {H : Hp} {Q : VK}
theorem i_callX (h : t σ H fun vs H1 => sp vs H1 Q (E σ)) : tCallX sp E t σ H Q := h
theorem i_tMX {C : Addr} (h : ta σ H fun x H1 => ∃ a dx fs, x = .ref a ∧ H1 a = some (.ins C dx fs) ∧ fs.lookup m = none ∧ t σ H1 fun vs H2 => sp (x :: vs) H2 Q (E σ)) : tMX C m sp E ta t σ H Q := h
end
/-! ### list(zip(ns, ys)) -/
def zipO {β : Type} (ns : List Int) (ys : List β) : Option (List (Int × β)) := if ns.length = ys.length then some (List.zip ns ys) else none
theorem i_tLZ {K : PySem.W.Frag} {ta : TA} {σ : L2.St} {H : Hp} {Q : VK} (h : ta σ H fun vs H1 => ∃ x y, vs = [x, y] ∧ rLZ K x y H1 Q) : tLZ K ta σ H Q := h
theorem ints_of {S : Lk} : ∀ {ns : List Int} {vs : List V}, All2 (Rp.rep S) ns vs → vs = ns.map V.int
  | [], [], _ => rfl
  | n :: ns, v :: vs, h => by
    rw [show v = .int n from h.1, ints_of h.2]
    rfl
  | [], _ :: _, h => h.elim
  | _ :: _, [], h => h.elim
theorem all2_len {α : Type} {R : α → V → Prop} : ∀ {xs : List α} {vs : List V}, All2 R xs vs → xs.length = vs.length
  | [], [], _ => rfl
  | _ :: _, _ :: _, h => congrArg (· + 1) (all2_len h.2)
  | [], _ :: _, h => h.elim
  | _ :: _, [], h => h.elim
section
variable {K : PySem.W.Frag} {B H : Hp} {ctx : List Fact} {L : List Own} {t t' : Bool} {β : Type} [Rp β] {ns : List Int} {ys : List β} {zs : List (Int × β)} {v u : V} {Q : VK}
theorem w_lz (W : Wd K B ctx L H) (h : Ls K ctx L t' ns v) (h' : Ls K ctx L t ys u) (e : zipO ns ys = some zs) (k : ∀ p H', Wd K B (fc t zs (.ref p) :: ctx) L H' → Q (.ref p) H') : rLZ K v u H Q := by
  obtain ⟨he, rfl⟩ := guardE e
  obtain ⟨N, F, W⟩ := W
  obtain ⟨a, vs1, rfl, h1, h2⟩ := h B H N F W
  obtain ⟨b, vs, rfl, g1, g2⟩ := h' B H N F W
  rw [ints_of h2] at h1
  refine ⟨a, b, ns, vs, rfl, rfl, h1, g1, he.trans (all2_len g2), fun H' p ts s hp hts hn e pr => k p H' ?_⟩
  let R : Hp := fun b => if b = p ∨ b ∈ ts then H' b else none
  have sR : Same R H' := fun b u e => by
    show H' b = some u
    by_cases hb : b = p ∨ b ∈ ts
    · rw [show R b = H' b from if_pos hb] at e; exact e
    · rw [show R b = none from if_neg hb] at e; cases e
  have hR : ∀ b u, R b = some u → H b = none := fun b u e => by
    by_cases hb : b = p ∨ b ∈ ts
    · rcases hb with rfl | hb
      · exact hp
      · exact hts b hb
    · rw [show R b = none from if_neg hb] at e; cases e
  have J := Wd.joinI (L' := L) W (fun b u _ e => s b u e) sR hR (fun o ho => let ⟨h, e, q⟩ := W.at_ o ho; ⟨h, s _ _ e, fun N' F' a b => o.mono a b q⟩) rfl
  refine ⟨_, _, J.bF, J.nF, J.sep, J.fH, fun f hf => ?_, J.at_, J.off, J.nd⟩
  rcases List.mem_cons.mp hf with rfl | hf
  · have rN : Same R (join N R) := join_r fun a u e => W.nF.free (W.fH.free (hR a u e))
    have rF : Same R (join F R) := join_r fun a u e => W.fH.free (hR a u e)
    have hRp : R p = some (.lst (ts.map V.ref)) := by rw [show R p = H' p from if_pos (.inl rfl), e]
    have key : ∀ (ts' : List Addr) (ns : List Int) (ys : List β) (vs : List V), All2 (Rp.rep (reg t K N F)) ys vs → ns.length = ys.length → (∀ b ∈ ts', b ∈ ts) → Paired (fun (t : Addr) (q : Key × V) => H' t = some (.tup [kV q.1, q.2])) ts' (zV ns vs) → All2 (Rp.rep (reg t K (join N R) (join F R))) (List.zip ns ys) (ts'.map V.ref) := by
      intro ts' ns
      induction ns generalizing ts' with
      | nil =>
        intro ys vs _ _ _ pr
        cases pr
        exact trivial
      | cons n ns ih =>
        intro ys vs h hl hm pr
        match ys, vs, h, hl, pr with
        | [], _, _, hl, _ => simp at hl
        | _ :: _, [], h, _, _ => exact h.elim
        | y :: ys, v :: vs, h, hl, pr =>
          cases pr with
          | @cons b _ ts2 _ hb pr =>
            refine ⟨⟨b, _, _, rfl, ?_, rfl, Rp.mono (reg_mono join_l join_l) h.1⟩, ih ts2 ys vs h.2 (by simpa using hl) (fun c hc => hm c (List.mem_cons_of_mem _ hc)) pr⟩
            have hRb : R b = some (.tup [.int n, v]) := by
              rw [show R b = H' b from if_pos (.inr (hm b List.mem_cons_self)), hb]
              rfl
            cases t
            · exact SqT.of (rF _ _ hRb)
            · exact rN _ _ hRb
    refine ⟨p, ts.map V.ref, rfl, ?_, key ts ns ys vs g2 he (fun b hb => hb) pr⟩
    cases t
    · exact rF _ _ hRp
    · exact rN _ _ hRp
  · exact J.facts f hf
end
end PB

namespace PB
open PySem PySem.Spec PyProof.Rows L2
/-! ### repr of things that may hold dicts: no thing lies where the modules lie -/
def SMd (h : Heap) : Prop := ∃ o, h.get? sysModules = some o ∧ o.cls = .type "dict"
section
variable {X : Cx} {pins : List (Addr × Obj)} {σ : L2.St} {H : Hp} {s : Shared}
theorem sm_ne (I : Inv X pins σ H s) (SM : SMd X.base) {a : Addr} {o : Obj} {c : String} (h : s.heap.get? a = some o) (hc : o.cls = .type c) (hn : c ≠ "dict") : sysModules ≠ a := fun e => by
  obtain ⟨p, h1, h2⟩ := SM
  rw [← e, I.bk _ _ h1] at h
  cases h
  rw [h2] at hc
  cases hc
  exact hn rfl
theorem dL_len : ∀ (xs : List Th), (Th.dL xs).length = xs.length
  | [] => rfl
  | _ :: xs => congrArg Nat.succ (dL_len xs)
theorem rpL_len {S : Lk} : ∀ {xs : List Th} {vs : List V}, Th.rpL S xs vs → vs.length = xs.length
  | [], _, h => by cases h; rfl
  | x :: xs, _, ⟨v, ws, e, _, r⟩ => by
    subst e
    exact congrArg Nat.succ (rpL_len r)
theorem showKv : ∀ {ks ds : List PyData}, ks.length = ds.length → PyData.showableKv (ks.zip ds) = true → PyData.showableAll ds = true
  | [], [], _, _ => by rw [PyData.showableAll]
  | [], _ :: _, h, _ => by cases h
  | _ :: _, [], h, _ => by cases h
  | k :: ks, d :: ds, h, p => by
    rw [List.zip_cons_cons, PyData.showableKv, Bool.and_eq_true, Bool.and_eq_true] at p
    rw [PyData.showableAll, p.1.2, showKv (Nat.succ.inj h) p.2]
    rfl
theorem pairs_reads {P : Program} {w : World} {h : Heap} : ∀ {es : List DictEntry} {vs : List (Key × Value)} {ks : List Int} {ws : List V}, ks.length = ws.length → Pairs (mixKind P w) es vs → KV (dK ks ws) vs →
    ReadsAll h (es.map (·.key)) (ks.map PyData.int) [] ∧ Vals ws (es.map (·.val))
  | [], _, ks, ws, l, .nil, r => by
    cases ks with
    | nil =>
      cases ws with
      | nil => exact ⟨.nil, .nil⟩
      | cons _ _ => cases l
    | cons p ps =>
      cases ws with
      | nil => cases l
      | cons _ _ => cases r
  | e :: es, _, ks, ws, l, .cons k1 k2 t, r => by
    cases ks with
    | nil => cases r
    | cons p ps =>
      cases ws with
      | nil => cases l
      | cons y ys =>
      cases r with
      | cons r1 r2 =>
        obtain ⟨g1, g2⟩ := pairs_reads (Nat.succ.inj l) t r2
        obtain ⟨q1, q2⟩ := r1
        have hk : ∃ i, e.key = Value.int p i := by
          rw [← q1] at k1
          rcases keyIs_shape (show keyIs (Sum.inl p) e.key = true from k1) with ⟨i, u, e1, e2⟩ | ⟨x, u, e1, e2⟩
          · cases e1
            exact ⟨u, e2⟩
          · cases e1
        obtain ⟨i, hk⟩ := hk
        rw [List.map_cons, List.map_cons, List.map_cons]
        refine ⟨?_, ?_⟩
        · rw [hk]
          exact ReadsAll.cons (as := []) (Reads.int _ _) g1
        · rw [k2]
          exact .cons q2 g2
mutual
theorem Th.reads (I : Inv X pins σ H s) (SM : SMd X.base) : ∀ (x : Th) (v : V) (u : Value), x.d.showable = true → Th.rp (lkA X.K H) x v → RelV v u → ∃ as, Reads s.heap u x.d as ∧ sysModules ∉ as
  | .int i, _, _, _, h, r => by
    cases h
    obtain ⟨t, rfl⟩ := r
    exact ⟨_, Reads.int i t, by simp⟩
  | .bl b, _, _, _, h, r => by
    cases h
    cases r
    exact ⟨_, Reads.bool b, by simp⟩
  | .non, _, _, _, h, r => by
    cases h
    cases r
    exact ⟨_, Reads.none, by simp⟩
  | .str y, _, _, _, h, r => by
    cases h
    obtain ⟨t, rfl⟩ := r
    exact ⟨_, Reads.str y t, by simp⟩
  | .lst xs, _, _, p, ⟨a, vs, e, h, q⟩, r => by
    subst e
    cases r
    obtain ⟨its, rv, ⟨o, n, ho, hc, _, hd⟩, _⟩ := I.list (SqL.of h)
    obtain ⟨as, hr, hs⟩ := Th.readsL I SM xs vs its (by rw [Th.d, PyData.showable] at p; exact p) q rv
    refine ⟨_, Reads.list ho hc hd hr, fun hm => ?_⟩
    rcases List.mem_cons.mp hm with hm | hm
    · exact sm_ne I SM ho hc (by decide) hm
    · exact hs hm
  | .tup xs, _, _, p, ⟨a, vs, e, h, q⟩, r => by
    subst e
    cases r
    obtain ⟨its, rv, ⟨o, ho, hc, n, hd⟩, _⟩ := I.tuple h
    obtain ⟨as, hr, hs⟩ := Th.readsL I SM xs vs its (by rw [Th.d, PyData.showable] at p; exact p) q rv
    exact ⟨_, Reads.tuple ho hc hd hr, hs⟩
  | .dic ks xs, _, _, p, ⟨a, ws, e, l, h, q⟩, r => by
    subst e
    cases r
    obtain ⟨_, hm, vs, kv, o, es, ep, ho, hx, hd, _, hp, _⟩ := dk_of I.hok (show H a = some (.dK _) from h)
    obtain ⟨g1, g2⟩ := pairs_reads (h := s.heap) (by rw [l, rpL_len q]) hp kv
    rw [Th.d, PyData.showable] at p
    obtain ⟨bs, g3, n3⟩ := Th.readsL I SM xs ws _ (showKv (by rw [List.length_map, dL_len, l]) p) q g2
    refine ⟨a :: [] ++ bs, by rw [Th.d]; exact Reads.dict ho hx.1 hd (by rw [List.map_fst_zip (by rw [List.length_map, dL_len, l]; exact Nat.le_refl _)]; exact g1) (by rw [List.map_snd_zip (by rw [List.length_map, dL_len, l]; exact Nat.le_refl _)]; exact g3), fun hm2 => ?_⟩
    have : sysModules = a ∨ sysModules ∈ bs := by simpa using hm2
    rcases this with this | this
    · rw [← this] at hm
      simp at hm
    · exact n3 this
  | .exc, _, _, p, _, _ => by
    rw [Th.d, PyData.showable, decide_eq_true_eq] at p
    exact absurd p (by decide +kernel)
theorem Th.readsL (I : Inv X pins σ H s) (SM : SMd X.base) : ∀ (xs : List Th) (vs : List V) (us : List Value), PyData.showableAll (Th.dL xs) = true → Th.rpL (lkA X.K H) xs vs → Vals vs us → ∃ as, ReadsAll s.heap us (Th.dL xs) as ∧ sysModules ∉ as
  | [], _, _, _, h, r => by
    cases h
    cases r
    exact ⟨_, ReadsAll.nil, by simp⟩
  | x :: xs, _, _, p, ⟨v, ws, e, h1, h2⟩, r => by
    rw [Th.dL, PyData.showableAll] at p
    have p2 := Bool.and_eq_true_iff.mp p
    subst e
    cases r with
    | cons r1 r2 =>
      obtain ⟨as, q1, n1⟩ := Th.reads I SM x _ _ p2.1 h1 r1
      obtain ⟨bs, q2, n2⟩ := Th.readsL I SM xs _ _ p2.2 h2 r2
      refine ⟨_, ReadsAll.cons q1 q2, fun hm => ?_⟩
      rcases List.mem_append.mp hm with hm | hm
      · exact n1 hm
      · exact n2 hm
end
end
/-- data that may hold dicts -/
class RpU (α : Type) [Rp α] where
  d : α → PyData
  rd : ∀ {X : Cx} {pins : List (Addr × Obj)} {σ : L2.St} {H : Hp} {s : Shared} {x : α} {v : V} {u : Value}, (d x).showable = true → Inv X pins σ H s → SMd X.base → Rp.rep (lkA X.K H) x v → RelV v u → ∃ as, Reads s.heap u (d x) as ∧ sysModules ∉ as
instance : RpU Th := ⟨Th.d, fun p I SM h r => Th.reads I SM _ _ _ p h r⟩
section
variable {α : Type} [Rp α] [RpU α]
theorem readsU {X : Cx} {pins : List (Addr × Obj)} {σ : L2.St} {H : Hp} {s : Shared} (I : Inv X pins σ H s) (SM : SMd X.base) : ∀ (xs : List α) (vs : List V) (us : List Value), PyData.showableAll (xs.map RpU.d) = true → All2 (Rp.rep (lkA X.K H)) xs vs → Vals vs us → ∃ as, ReadsAll s.heap us (xs.map RpU.d) as ∧ sysModules ∉ as
  | [], [], _, _, h, r => by
    cases r
    exact ⟨_, ReadsAll.nil, by simp⟩
  | [], _ :: _, _, _, h, _ => h.elim
  | _ :: _, [], _, _, h, _ => h.elim
  | x :: xs, v :: vs, _, p, h, r => by
    rw [List.map_cons, PyData.showableAll] at p
    have p2 := Bool.and_eq_true_iff.mp p
    cases r with
    | cons r1 r2 =>
      obtain ⟨as, q1, n1⟩ := RpU.rd p2.1 I SM h.1 r1
      obtain ⟨bs, q2, n2⟩ := readsU I SM xs vs _ p2.2 h.2 r2
      refine ⟨_, ReadsAll.cons q1 q2, fun hm => ?_⟩
      rcases List.mem_append.mp hm with hm | hm
      · exact n1 hm
      · exact n2 hm
instance : RpU (List α) := ⟨fun xs => .list (xs.map RpU.d), fun {X pins σ H s x v u} p I SM ⟨a, vs, e, h, q⟩ r => by
  subst e
  cases r
  obtain ⟨its, rv, ⟨o, n, ho, hc, _, hd⟩, _⟩ := I.list (SqL.of h)
  obtain ⟨as, hr, hs⟩ := readsU I SM x vs its (by rw [PyData.showable] at p; exact p) q rv
  refine ⟨_, Reads.list ho hc hd hr, fun hm => ?_⟩
  rcases List.mem_cons.mp hm with hm | hm
  · exact sm_ne I SM ho hc (by decide) hm
  · exact hs hm⟩
end
/-- a value that reads as data, wherever -/
def DqS (K : PySem.W.Frag) (H : Hp) (v : V) (d : PyData) : Prop := ∀ {X : Cx} {pins : List (Addr × Obj)} {σ : L2.St} {s : Shared} {u : Value}, X.K = K → Inv X pins σ H s → SMd X.base → RelV v u → ∃ as, Reads s.heap u d as ∧ sysModules ∉ as
def rReprU (K : PySem.W.Frag) : List V → Hp → VK → Prop := fun xs H Q => ∃ (x : V) (d : PyData), xs = [x] ∧ DqS K H x d ∧ d.showable = true ∧ d.depth ≤ 60 ∧ d.shown.length ≤ sizeLine ∧ Q (.str d.shown) H
theorem call_reprU {X : Cx} (hgd : X.A.guards = some []) (hu : X.A.units + 64 < cLine) (SM : SMd X.base) : CallR X (.builtin "repr") (rReprU X.K) := by
  intro pins s σ H xs us Q I r h
  obtain ⟨x, d, rfl, hd, hs, hdp, hz, q⟩ := h
  obtain ⟨u, rfl, rx⟩ := vals1 r
  obtain ⟨as, rd, hsm⟩ := hd rfl I SM rx
  have key : ∀ a, u = .ref a → wpAny (model X.prog X.w) X.A (call (.builtin "repr") [u]) (EP X pins σ Q) X.xe s := fun a ea => by
    subst ea
    exact repr_of_reads' rd hs (fun _ => hsm) hgd (by omega) (fun b o e => e)
      (fun h' u tk hk => ⟨.str d.shown, H, I.kept hk, ⟨_, rfl⟩, q⟩) hz
  cases rd with
  | none => exact PySem.P.repr_of_none ⟨.str _, H, I.tok _, ⟨_, rfl⟩, q⟩
  | bool b =>
    exact PySem.P.repr_of_bool ⟨.str _, H, I.tok _, ⟨_, rfl⟩, by
      rw [PyData.shown] at q
      cases b <;> exact q⟩
  | int i t =>
    have hi : i.natAbs.log2 < 1920 := by simpa [PyData.showable] using hs
    exact PySem.P.repr_of_int hi ⟨.str _, H, I.tok _, ⟨_, rfl⟩, q⟩
  | str y t => exact PySem.P.repr_of_str ⟨.str _, H, I.tok _, ⟨_, rfl⟩, q⟩ hz
  | list => exact key _ rfl
  | tuple => exact key _ rfl
  | dict => exact key _ rfl
section
variable {K : PySem.W.Frag} {B H : Hp} {ctx : List Fact} {L : List Own} {α : Type} [Rp α] [RpU α] {x : α} {v : V} {Q : VK}
def reprU (x : α) : Option PySem.Str := if (RpU.d x).showable = true ∧ (RpU.d x).depth ≤ 60 ∧ (RpU.d x).shown.length ≤ sizeLine then some (RpU.d x).shown else none
theorem w_reprU {s : PySem.Str} (W : Wd K B ctx L H) (h : Ar K ctx L x v) (e : reprU x = some s) (k : Q (.str s) H) : rReprU K [v] H Q := by
  obtain ⟨N, F, W⟩ := W
  obtain ⟨⟨s1, s2, s3⟩, rfl⟩ := guardE e
  have hr := h B H N F W
  exact ⟨v, _, rfl, fun {X pins σ s u} eK I SM r => by subst eK; exact RpU.rd s1 I SM hr r, s1, s2, s3, k⟩
end
/-! ### dict displays -/
section
variable {K : PySem.W.Frag} {B H N F : Hp} {ctx : List Fact} {L : List Own} {Q : VK} {σ : L2.St} {p : Addr} {kvs : List (Key × V)} {f : Fact}
/-- a new dict, never changed -/
theorem Wd.newD (W : WdI K B ctx L H N F) (hp : H p = Option.none) (t : Bool) (h : ∀ N' F', Same N N' → Same F F' → (reg t K N' F').d p kvs → f.P K N' F') : Wd K B (f :: ctx) L (upd H p (.dK kvs)) := by
  have hF : F p = Option.none := W.fH.free hp
  have hN : N p = Option.none := W.nF.free hF
  have hB : B p = Option.none := W.bF.free hF
  have sN : Same N (upd N p (.dK kvs)) := fun b u e => by
    rw [upd_ne (ne_of_none e hN)]
    exact e
  have sF : Same F (upd F p (.dK kvs)) := fun b u e => by
    rw [upd_ne (ne_of_none e hF)]
    exact e
  refine ⟨upd N p (.dK kvs), upd F p (.dK kvs), W.bF.trans sF, fun b u e => ?_, fun b u e => ?_, fun b u e => ?_, fun f hf => ?_, fun o ho => ?_, fun o ho => ?_, W.nd⟩
  · by_cases h : b = p
    · rw [h, upd_same] at e ⊢
      exact e
    · rw [upd_ne h] at e ⊢
      exact W.nF b u e
  · by_cases h : b = p
    · rw [h]
      exact hB
    · rw [upd_ne h] at e
      exact W.sep b u e
  · by_cases h : b = p
    · rw [h, upd_same] at e ⊢
      exact e
    · rw [upd_ne h] at e ⊢
      exact W.fH b u e
  · rcases List.mem_cons.mp hf with rfl | hf
    · refine h _ _ sN sF ?_
      cases t
      · exact upd_same
      · exact upd_same
    · exact f.mono sN sF (W.facts f hf)
  · obtain ⟨u, e, r⟩ := W.at_ o ho
    exact ⟨u, by rw [upd_ne (ne_of_none e hp)]; exact e, o.mono sN sF r⟩
  · obtain ⟨u, e, r⟩ := W.at_ o ho
    rw [upd_ne (ne_of_none e hp)]
    exact W.off o ho
/-- a new object, never changed -/
theorem Wd.newX {u : HO} (W : WdI K B ctx L H N F) (hp : H p = Option.none) (t : Bool) (h : ∀ N' F', Same N N' → Same F F' → (bif t then N' p = some u else F' p = some u) → f.P K N' F') : Wd K B (f :: ctx) L (upd H p u) := by
  have hF : F p = Option.none := W.fH.free hp
  have hN : N p = Option.none := W.nF.free hF
  have hB : B p = Option.none := W.bF.free hF
  have sN : Same N (upd N p u) := fun b u' e => by
    rw [upd_ne (ne_of_none e hN)]
    exact e
  have sF : Same F (upd F p u) := fun b u' e => by
    rw [upd_ne (ne_of_none e hF)]
    exact e
  refine ⟨upd N p u, upd F p u, W.bF.trans sF, fun b u' e => ?_, fun b u' e => ?_, fun b u' e => ?_, fun f hf => ?_, fun o ho => ?_, fun o ho => ?_, W.nd⟩
  · by_cases h : b = p
    · rw [h, upd_same] at e ⊢
      exact e
    · rw [upd_ne h] at e ⊢
      exact W.nF b u' e
  · by_cases h : b = p
    · rw [h]
      exact hB
    · rw [upd_ne h] at e
      exact W.sep b u' e
  · by_cases h : b = p
    · rw [h, upd_same] at e ⊢
      exact e
    · rw [upd_ne h] at e ⊢
      exact W.fH b u' e
  · rcases List.mem_cons.mp hf with rfl | hf
    · refine h _ _ sN sF ?_
      cases t
      · exact upd_same
      · exact upd_same
    · exact f.mono sN sF (W.facts f hf)
  · obtain ⟨w, e, r⟩ := W.at_ o ho
    exact ⟨w, by rw [upd_ne (ne_of_none e hp)]; exact e, o.mono sN sF r⟩
  · obtain ⟨w, e, r⟩ := W.at_ o ho
    rw [upd_ne (ne_of_none e hp)]
    exact W.off o ho
/-- ValueError("..") -/
theorem w_exc (W : Wd K B ctx L H) (k : ∀ p H', Wd K B (fc true Th.exc (.ref p) :: ctx) L H' → Q (.ref p) H') : ∀ p, H p = Option.none → Q (.ref p) (upd H p (ExO (.type "ValueError") p)) := fun p hp => by
  obtain ⟨N, F, W⟩ := W
  exact k p _ (Wd.newX W hp true fun N' F' _ _ q => ⟨p, rfl, q⟩)
/-- {} -/
theorem w_dnew (W : Wd K B ctx L H) (k : ∀ p H', Wd K B (fc true (Th.dic [] []) (.ref p) :: ctx) L H' → Q (.ref p) H') : tDNewK σ H Q := fun p hp => by
  obtain ⟨N, F, W⟩ := W
  exact k p _ (Wd.newD (kvs := []) W hp true fun N' F' _ _ q => ⟨p, [], rfl, rfl, q, rfl⟩)
theorem upd2 {u u' : HO} : upd (upd H p u) p u' = upd H p u' := by
  funext b
  by_cases h : b = p
  · rw [h, upd_same, upd_same]
  · rw [upd_ne h, upd_ne h, upd_ne h]
/-- {i: j} -/
theorem w_disp1 {i j : Int} (W : Wd K B ctx L H) (k : ∀ p H', Wd K B (fc true (Th.dic [i] [.int j]) (.ref p) :: ctx) L H' → Q (.ref p) H') : tDisp [(tC (.int i), tC (.int j))] σ H Q := fun p hp => by
  obtain ⟨N, F, W⟩ := W
  refine ⟨upd_same, [(Sum.inl i, .int j)], rfl, by show 1 ≤ 15; decide, ?_⟩
  rw [upd2]
  exact k p _ (Wd.newD (kvs := [(Sum.inl i, .int j)]) W hp true fun N' F' _ _ q => ⟨p, [.int j], rfl, rfl, q, _, _, rfl, rfl, rfl⟩)
end
/-! ### a thing and a whole number; a tuple of none -/
def Th.num : Th → Option Int
  | .int i => some i
  | .bl b => some (if b = true then 1 else 0)
  | _ => none
def rAddTh : R2 := fun x y H Q => (∃ b j, x = .bl b ∧ y = .int j ∧ Q (.int ((if b = true then (1 : Int) else 0) + j)) H) ∨ rI0 (fun i j => .int (i + j)) x y H Q
theorem op_addTh {X : Cx} : OpR X (binaryOp .Add) rAddTh := fun pins s σ H x y v u Q I rx ry h => by
  rcases h with ⟨b, j, rfl, rfl, q⟩ | h
  · cases rx
    obtain ⟨t, rfl⟩ := ry
    exact PySem.IntBool.add_bool_int ⟨.int _, H, I.tok _, ⟨_, rfl⟩, q⟩
  · exact op_add pins s σ H x y v u Q I rx ry h
structure T0 where
  deriving DecidableEq
instance : Rp T0 := ⟨fun S _ v => ∃ a, v = .ref a ∧ S.t a [], fun s ⟨a, e, h⟩ => ⟨a, e, s.t _ _ h⟩⟩
instance : Co T0 Th := ⟨fun _ => .tup [], fun ⟨a, e, h⟩ => ⟨a, [], e, h, rfl⟩⟩
section
variable {K : PySem.W.Frag} {B H : Hp} {ctx : List Fact} {L : List Own} {Q : VK} {t : Bool} {x : Th} {v : V} {i j : Int}
theorem w_addTh (W : Wd K B ctx L H) (h : Kn K ctx t x v) (e : Th.num x = some i) (k : Q (.int (i + j)) H) : rAddTh v (.int j) H Q := by
  obtain ⟨N, F, W⟩ := W
  have r := h N F W.nF W.facts
  cases x with
  | int n =>
    cases (show v = .int n from r)
    cases e
    exact .inr ⟨_, _, rfl, rfl, k⟩
  | bl b =>
    cases (show v = .bl b from r)
    cases e
    exact .inl ⟨b, j, rfl, rfl, k⟩
  | _ => cases e
theorem w_tup1 {α : Type} [Rp α] {y : α} {u : V} (W : Wd K B ctx L H) (h : Kn K ctx t y u) (k : ∀ p H', Wd K B (fc t (T1.mk y) (.ref p) :: ctx) L H' → Q (.ref p) H') : rTup [u] H Q := by
  obtain ⟨N, F, W⟩ := W
  exact ⟨(by show (1 : Nat) ≤ sizeLine; decide), fun p hp => k p _ (Wd.newT W hp t fun N' F' s s' q => ⟨p, u, rfl, q, Rp.mono (reg_mono s s') (h N F W.nF W.facts)⟩)⟩
theorem w_tup0 (W : Wd K B ctx L H) (k : ∀ p H', Wd K B (fc t T0.mk (.ref p) :: ctx) L H' → Q (.ref p) H') : rTup [] H Q := by
  obtain ⟨N, F, W⟩ := W
  exact ⟨(by show (0 : Nat) ≤ sizeLine; decide), fun p hp => k p _ (Wd.newT W hp t fun N' F' s s' q => ⟨p, rfl, q⟩)⟩
end
/-! ### tuple(xs), a thing -/
section
variable {K : PySem.W.Frag} {B H : Hp} {ctx : List Fact} {L : List Own} {Q : VK} {t : Bool} {α : Type} [Rp α] [Co α Th] {xs : List α} {v : V}
def rTupOf (K : PySem.W.Frag) : List V → Hp → VK → Prop := fun xs H Q => ∃ p ys, xs = [.ref p] ∧ ((SqL K H p ys ∧ ∀ l, H l = none → Q (.ref l) (upd H l (.tup ys))) ∨ (SqT K H p ys ∧ Q (.ref p) H))
theorem call_tupOf {X : Cx} : CallR X (.type "tuple") (rTupOf X.K) := call_tuple_of
theorem w_tupOf (W : Wd K B ctx L H) (h : Ls K ctx L t xs v) (k : ∀ p H', Wd K B (fc t (Th.tup (xs.map Co.f)) (.ref p) :: ctx) L H' → Q (.ref p) H') : rTupOf K [v] H Q := by
  obtain ⟨N, F, W⟩ := W
  obtain ⟨a, vs, rfl, h1, h2⟩ := h B H N F W
  exact ⟨a, vs, rfl, .inl ⟨h1, fun l hl => k l _ (Wd.newT W hl t fun N' F' s s' q => ⟨l, vs, rfl, q, rpL_all.mpr (all2_map (h2.mono fun _ _ r => Rp.mono (reg_mono s s') r))⟩)⟩⟩
end
/-! ### the law's own call, where the modules' dict stands -/
theorem law_callS {P : Program} {w : World} {K : PySem.W.Frag} {mg mb : Str → Option Value} {k : Nat}
    {fa a : Addr} {fd : FuncData} {x : Str} {sp : Sp} {z : Shared} {vs : List Value} {ns : List Int}
    (KX : K.In z.heap) (hns : z.heap.Ns mainGlobals mg) (hb : z.heap.Ns builtinsNs mb)
    (hbb : ∀ x : Str, x ≠ "__name__" → mb x = bootBuiltins x) (hlim : z.heap.NoLimit) (hsm : SMd z.heap) (hg : z.gens = #[])
    (ha : z.heap.get? a = some { cls := .type "list", data := .seq vs.toArray })
    (hi : IntsAre vs ns) (hl : ns.length ≤ sizeLine) (hr : Room k callerA)
    (F : ∀ base : Heap, K.In base → base.Ns mainGlobals mg → SMd base → FnG P w K mg base k fa fd [x] sp)
    (hbind : ∀ (s : Shared) (u : Value), BindsTo s fd ⟨[u], []⟩ [(x, u)])
    (hsp : ∀ H : Hp, SqL K H a (ns.map V.int) →
      sp [.ref a] H (fun v _ => v = .bl true) fun _ _ _ => False) :
    codeAny (model P w) callerA (.call (.ref fa) ⟨[.ref a], []⟩)
      (fun r s' => r = .ok (.ret (.bool true)) ∧ OldK z.heap s'.heap ∧ s'.os = z.os ∧ AllBare s'.gens) z := by
  have rv := vals_ints hi
  have lenV := hi.length
  have core : ∀ H : Hp, Only H → SqL K H a (ns.map V.int) → HOk P w H z.heap →
      (∀ b, H b ≠ none → b = a) → (H a ≠ none → K.lookup a = none) →
      codeAny (model P w) callerA (.call (.ref fa) ⟨[.ref a], []⟩)
        (fun r s' => r = .ok (.ret (.bool true)) ∧ OldK z.heap s'.heap ∧ s'.os = z.os ∧ AllBare s'.gens) z := by
    intro H hO hS hok hA hK
    have noA : ∀ {b : Addr} {o : Obj} {es : Array DictEntry} {ep : Nat}, z.heap.get? b = some o →
        o.data = .dict es ep → H b = none := fun {b o es ep} e d => by
      cases q : H b with
      | none => rfl
      | some u =>
        obtain rfl : b = a := hA b (by simp [q])
        rw [ha] at e
        cases e
        cases (show Data.seq vs.toArray _ = Data.dict es ep from d)
    have nsK : ∀ {b : Addr} {m : Str → Option Value}, z.heap.Ns b m → (hidT z.heap H).Ns b m :=
      fun {b m} ⟨o, es, ep, e, d, r⟩ => ⟨o, es, ep, hidT_get e (noA e d), d, r⟩
    have hKb : K.In (hidT z.heap H) := fun b o e => hidT_get (KX b o e) (by
      cases q : H b with
      | none => rfl
      | some u =>
        obtain rfl : b = a := hA b (by simp [q])
        rw [hK (by simp [q])] at e
        cases e)
    have hSb : SMd (hidT z.heap H) := by
      obtain ⟨o, h1, h2⟩ := hsm
      refine ⟨o, hidT_get h1 ?_, h2⟩
      cases q : H sysModules with
      | none => rfl
      | some u =>
        have e : sysModules = a := hA sysModules (by simp [q])
        rw [← e] at ha
        rw [ha] at h1
        have h2 : Value.type "list" = Value.type "dict" := by rw [← h2, ← Option.some.inj h1]
        exact absurd h2 (by decide)
    have hM : Mod K mg (hidT z.heap H) :=
      ⟨hKb, nsK hns, ⟨mb, nsK hb, hbb⟩, let ⟨mc, h1, h2⟩ := hlim; ⟨mc, nsK h1, h2⟩⟩
    have e0 : Env0 P w K mg (hidT z.heap H) callerA [] z H :=
      ⟨rfl, hM, fun b o e => of_hidT e, Nat.le_of_eq (hidT_size _ _), trivial,
        fun b hb => absurd (show b ∈ ([] : List Addr) from hb) (by simp), hok, .of_eq hg⟩
    refine codeAny_mono ((F _ hKb (nsK hns) hSb).run callerA [] z H ⟨[.ref a], []⟩ [.ref a] [.ref a] _ _ hr rfl e0
      (hbind z (.ref a)) (.cons rfl .nil) (hsp H hS)) fun r s' h => ?_
    match r, h with
    | .error e, h =>
      obtain ⟨_, _, _, _, _, _, _, _, _, _, _, _, q⟩ := h
      exact q.elim
    | .ok .next, h => exact h.elim
    | .ok .brk, h => exact h.elim
    | .ok .cont, h => exact h.elim
    | .ok (.ret u), h =>
      obtain ⟨v, H', os, bare, un, hok', r', q⟩ := h
      obtain rfl : v = .bl true := q
      obtain rfl : u = Value.bool true := r'
      refine ⟨rfl, OldK.of_keep fun b o e => ?_, os, bare⟩
      cases q : H b with
      | none =>
        exact un.keep b o e q (fun y => absurd (show b ∈ ([] : List Addr) from y) (by simp)) (by simp)
      | some u =>
        rcases hO b with y | ⟨ob, xs, y⟩
        · rw [q] at y
          cases y
        · obtain ⟨e1, _⟩ := hok b _ y
          obtain ⟨e2, _⟩ := hok' b _ (un.frzs b ob _ y)
          rw [e] at e1
          cases e1
          exact e2
  cases hk : K.lookup a with
  | some o =>
    have e := KX a o hk
    rw [ha] at e
    cases e
    refine core (fun _ => none) (fun _ => .inl rfl) (.inr ⟨_, vs.toArray, _, hk, rfl, rfl, rfl, ?_, by simpa using rv⟩)
      (fun b u q => by cases (show (none : Option HO) = some u from q)) (fun b q => absurd rfl q) fun q => absurd rfl q
    rw [List.size_toArray, lenV]
    exact hl
  | none =>
    let oS : Obj := { cls := .type "list", data := .seq vs.toArray }
    let HS : Hp := fun b => if b = a then some (.frz oS (.lst (ns.map V.int))) else none
    have hS : HS a = some (.frz oS (.lst (ns.map V.int))) := if_pos rfl
    have hN : ∀ b, b ≠ a → HS b = none := fun b hb => if_neg hb
    refine core HS (fun b => ?_) (.inl (.inr ⟨oS, hS⟩)) (fun b u q => ?_) (fun b q => ?_) fun _ => hk
    · by_cases hb : b = a
      · exact .inr ⟨_, _, by rw [hb]; exact hS⟩
      · exact .inl (hN b hb)
    · by_cases hb : b = a
      · subst hb
        rw [hS] at q
        cases q
        exact ⟨ha, by rw [List.length_map]; exact hl, vs, _, rv, ha⟩
      · rw [hN b hb] at q
        cases q
    · by_cases hb : b = a
      · exact hb
      · exact absurd (hN b hb) q

/-- a law's end over a head by facts -/
theorem walk_ofS {l : PySem.W.OpenLaw} {n k : Nat} {q : Program} {loose : List Str}
    {XP : (Str → Option Value) → Heap → Prop} {YP : World → Heap → Prop} {d : DefRec} {x : Str}
    (hn : l.most = some n) (hn2 : n ≤ sizeLine) (hdf : d.params.defaults = []) (hr : Room k callerA)
    (F : ∀ (w : World) (mg : Str → Option Value) (fa : Addr) (h : Heap), SMd h → YP w h → h.Ns mainGlobals mg →
      mg d.name = some (.ref fa) → ∃ (K : PySem.W.Frag) (fd : FuncData) (sp : Sp), K.In h ∧
        (∀ (s : Shared) (u : Value), BindsTo s fd ⟨[u], []⟩ [(x, u)]) ∧
        (∀ (H : Hp) (a : Addr) (ns : List Int), ns.length ≤ n → SqL K H a (ns.map V.int) →
          sp [.ref a] H (fun v _ => v = .bl true) fun _ _ _ => False) ∧
        ∀ base : Heap, K.In base → base.Ns mainGlobals mg → SMd base → FnG l.prog w K mg base k fa fd [x] sp) :
    PySem.W.WalkO q loose XP (fun w h => SMd h ∧ YP w h) l.row.toRowW d [] (fun f vs => PySem.call f vs) := by
  refine Att.attach_call hn hdf fun w s₀ z mg mb fa o pm cd doc a vs ns G Y ho hd hcd hmg hobj hints hlen hg => ?_
  obtain ⟨K, fd, sp, KX, hb, hsp, hF⟩ := F w mg fa _ Y.1 Y.2 G.T.g hmg
  exact law_callS KX G.T.g G.T.b G.T.builtins G.T.nolimit Y.1 hg hobj hints (Nat.le_trans hlen hn2) hr hF hb
    (fun H hS => hsp H a ns hlen hS)

/-! ### the head: the modules' dict stands where it stood -/
def smB (g : Addr → Option Obj) : Bool := match g sysModules with
  | some ⟨.type c, _, _, _⟩ => decide (c = "dict")
  | _ => false
theorem sm_of {h : Heap} (e : smB h.get? = true) : SMd h := by
  unfold smB at e
  split at e
  · next c _ _ _ q => exact ⟨_, q, congrArg Value.type (of_decide_eq_true e)⟩
  · cases e
def hookS (n : Nat) (fa : List He.Fa) (fn : List He.DefD) : PySem.W.Hook where
  α := Bool × He.AlD
  obs := fun s => (smB s.heap.get?, He.obsDG n fa fn s.heap.get?)
  val := fun _ => (true, He.valD fn)
  says := fun _ h => SMd h ∧ ∃ K : PySem.W.Frag, K.In h ∧ He.SaysD fa fn K
  of := fun w s e => ⟨sm_of (congrArg Prod.fst e), (He.hookD n fa fn).of w s (congrArg Prod.snd e)⟩
  keeps := fun w h h' ⟨⟨o, h1, h2⟩, q⟩ k => ⟨⟨o, k _ _ h1, h2⟩, (He.hookD n fa fn).keeps w h h' q k⟩
def obsS (n : Nat) (fa : List He.Fa) (fn : List He.DefD) (g : Addr → Option Obj) : Bool × He.AlD := (smB g, He.obsDG n fa fn g)
theorem obsS_eq {n : Nat} {fa : List He.Fa} {fn : List He.DefD} {g : Addr → Option Obj} {s : Shared} (h : ∀ a, g a = s.heap.get? a) : obsS n fa fn g = (hookS n fa fn).obs s := by
  have e : g = s.heap.get? := funext h
  rw [e] <;> rfl
end PB

namespace PB
open PySem PySem.Spec PyProof.Rows L2
/-! ### dict(enumerate(xs)) -/
def rangeI (i : Int) : Nat → List Int
  | 0 => []
  | n + 1 => i :: rangeI (i + 1) n
theorem rangeI_len : ∀ (n : Nat) (i : Int), (rangeI i n).length = n
  | 0, _ => rfl
  | n + 1, i => congrArg Nat.succ (rangeI_len n (i + 1))
theorem enV_nodup {α : Type} : ∀ (xs : List α) (i : Nat), ((enV i xs).map (·.1)).Nodup ∧ ∀ k ∈ (enV i xs).map (·.1), ∃ j : Nat, i ≤ j ∧ k = Sum.inl (j : Int)
  | [], _ => ⟨List.nodup_nil, fun _ h => by cases h⟩
  | x :: xs, i => by
    obtain ⟨h1, h2⟩ := enV_nodup xs (i + 1)
    refine ⟨List.nodup_cons.mpr ⟨fun hm => ?_, h1⟩, fun k hk => ?_⟩
    · obtain ⟨j, hj, e⟩ := h2 _ hm
      have e2 := Sum.inl.inj e
      omega
    · rcases List.mem_cons.mp hk with e | hk
      · exact ⟨i, Nat.le_refl _, e⟩
      · obtain ⟨j, hj, e⟩ := h2 k hk
        exact ⟨j, by omega, e⟩
def rDE (K : PySem.W.Frag) (x : V) (H : Hp) (Q : VK) : Prop := ∃ (a : Addr) (xs : List V), x = .ref a ∧ SqL K H a xs ∧ ∀ p, H p = none → Q (.ref p) (upd H p (.dK (enV 0 xs)))
def tDE (K : PySem.W.Frag) (te : TE) : TE := fun σ H Q => te σ H fun x H1 => rDE K x H1 Q
theorem boot_dict : bootBuiltins "dict" = some (.type "dict") := by decide +kernel
section
variable {X : Cx} {e : Expr} {te : TE} {p p2 pos pos2 : Pos}
theorem pe_dictEnum (hc : X.calm = true) (hg : Gl X "dict") (hm : X.mg "dict" = none) (hg2 : Gl X "enumerate")
    (hm2 : X.mg "enumerate" = none) (he : PE X e te)
    (hs : starEach [e] X.env = (false, eval e X.env) :: starEach [] X.env := by rfl)
    (hs2 : starEach [.Call (.Name "enumerate" p2) [e] [] pos2] X.env =
      (false, eval (.Call (.Name "enumerate" p2) [e] [] pos2) X.env) :: starEach [] X.env := by rfl) :
    PE X (.Call (.Name "dict" p) [.Call (.Name "enumerate" p2) [e] [] pos2] [] pos) (tDE X.K te) := by
  refine ⟨fun pins s σ H Q I h => ?_⟩
  refine Call_ (ld_blt I hg hm boot_dict (PyProof.Rows.callWith_type1 (args_cons ?_ hs2) hs2))
  refine Call_ (ld_blt I hg2 hm2 boot_enumerate (PyProof.Rows.callWith_type1 (one_arg he I h (fun v s1 x H1 I1 rx q => ?_) hs) hs))
  obtain ⟨a, xs, rfl, hq, q⟩ := q
  obtain rfl : v = .ref a := rx
  obtain ⟨its, rv, pl, hz⟩ := I1.list hq
  have hlen := rv.length
  refine call_enumerate_list pl.isList fun h1 he1 hit1 hsz1 hk1 => ?_
  refine args_nil ?_
  have I2 : Inv X pins σ H1 { s1 with heap := h1 } := I1.kept (t' := s1.toks) hk1
  obtain ⟨ol, hol, rl⟩ := pl.isList
  have ll : a < s1.heap.objs.size := Heap.lt_size hol
  have hn : its.toArray.size = xs.length := by rw [hlen]; simp
  refine PySem.call_dict_pairs (s := { s1 with heap := h1 }) (knd := mixKind X.prog X.w) (kvs := enV 0 its) (PySem.PairArg.enumerate (s1.heap.objs.size + 1) s1.heap.objs.size a (Nat.succ_ne_self _) (Nat.ne_of_lt (Nat.lt_succ_of_lt ll)) (Nat.ne_of_lt ll) its.toArray) (I2.ok.hd hc)
    ⟨⟨_, he1⟩, hit1, ⟨ol, hk1 _ _ hol, rl⟩⟩ ⟨by rw [enV_len]; simp, fun i key v hv => ?_⟩ (by rw [hn]; exact hz) fun h' tk hd' hk => ?_
  · obtain ⟨⟨t, ek⟩, ev⟩ := hv
    refine ⟨Sum.inl (i : Int), ?_, ?_⟩
    · rw [enV_get]
      have ev2 : its[i]? = some v := by simpa using ev
      rw [ev2]
      simp
    · subst ek
      show Value.isInt (i : Int) (.int i t) = true
      simp [Value.isInt]
  · rw [PySem.merged_nil_of_nodup _ (enV_nodup its 0).1] at hd'
    have hmm : (h1.objs.size == sysModules) = false := beq_eq_false_iff_ne.mpr (Nat.ne_of_gt I2.big)
    have hle : s1.heap.objs.size ≤ h1.objs.size := by rw [hsz1]; omega
    have kk : ∀ b o, s1.heap.get? b = some o → h'.get? b = some o := fun b o e =>
      hk b o (fun hm => by
        have lt : b < s1.heap.objs.size := Heap.lt_size e
        simp only [List.mem_cons, List.not_mem_nil, or_false] at hm
        rcases hm with hm | hm
        · exact absurd lt (by rw [hm]; exact Nat.not_lt.mpr (Nat.le_succ _))
        · exact absurd lt (by rw [hm]; exact Nat.lt_irrefl _)) (hk1 b o e)
    exact ⟨.ref h1.objs.size, upd H1 h1.objs.size (.dK (enV 0 xs)), I1.laid (t' := tk) kk hle (show ObjOk X.prog X.w _ _ _ (.dK (enV 0 xs)) from ⟨by rw [enV_len]; exact hz, hmm, enV 0 its, enV_kv xs its 0 rv, hd'⟩), rfl, q _ (I1.hok.fresh hle)⟩
end
theorem enV_dK : ∀ (vs : List V) (i : Nat), enV i vs = dK (rangeI i vs.length) vs
  | [], _ => rfl
  | v :: vs, i => by
    have ih := enV_dK vs (i + 1)
    show _ :: enV (i + 1) vs = _
    rw [ih]
    rfl
theorem w_de {K : PySem.W.Frag} {B H : Hp} {ctx : List Fact} {L : List Own} {t : Bool} {α : Type} [Rp α] [Co α Th] {xs : List α} {v : V} {Q : VK} (W : Wd K B ctx L H) (h : Ls K ctx L t xs v) (k : ∀ p H', Wd K B (fc t (Th.dic (rangeI 0 xs.length) (xs.map Co.f)) (.ref p) :: ctx) L H' → Q (.ref p) H') : rDE K v H Q := by
  obtain ⟨N, F, W⟩ := W
  obtain ⟨a, vs, rfl, h1, h2⟩ := h B H N F W
  refine ⟨a, vs, rfl, h1, fun p hp => k p _ (Wd.newD (kvs := enV 0 vs) W hp t fun N' F' s s' q => ⟨p, vs, rfl, ?_, ?_, rpL_all.mpr (all2_map (h2.mono fun _ _ r => Rp.mono (reg_mono s s') r))⟩)⟩
  · rw [rangeI_len, List.length_map]
  · rw [enV_dK, h2.len] at q
    exact q
theorem i_tDE {K : PySem.W.Frag} {te : TE} {σ : L2.St} {H : Hp} {Q : VK} (h : te σ H fun x H1 => rDE K x H1 Q) : tDE K te σ H Q := h
/-! ### ValueError("..") as a value, its reading by name -/
def tExcV : TE := fun _ H Q => ∀ a, H a = none → Q (.ref a) (upd H a (ExO (.type "ValueError") a))
theorem pe_excV {X : Cx} {x : PySem.Str} {p pos : Pos} {m : PySem.Str} {j : Nat} {p2 : Pos} (hg : Gl X x) (hm : X.mg x = none) (hv : bootBuiltins x = some (.type "ValueError")) (hn : x ≠ "__name__" := by decide) (hdb : (x == ("__debug__" : PySem.Str)) = false := by decide) :
    PE X (.Call (.Name x p) [.Constant (.str m) j p2] [] pos) tExcV := pe_excS exb_ValueError hg hm hv hn hdb
theorem w_excV {K : PySem.W.Frag} {B H : Hp} {ctx : List Fact} {L : List Own} {Q : VK} {σ : L2.St} (W : Wd K B ctx L H) (k : ∀ p H', Wd K B (fc true Th.exc (.ref p) :: ctx) L H' → Q (.ref p) H') : tExcV σ H Q := w_exc W k
end PB

namespace PB
open PySem PySem.Spec PyProof.Rows L2
/-! ### an error that is caught and kept -/
section
variable {X : Cx} {pins : List (Addr × Obj)} {σ : L2.St} {H : Hp} {s : Shared}
theorem Inv.suiteK (I : Inv X pins σ H s) {a : Addr} {oe : Obj} {vs : Array Value} {cls : Value} (ha : s.heap.get? a = some oe) (hz : Zc cls none oe) (hd : oe.data = .fields vs) (na : H a = none) (nL : a ≠ X.env.locals)
    (n0 : X.s_0.heap.get? a = none) (np : ∀ p ∈ X.pn ++ pins, p.1 ≠ a) : Inv (X.suite a (X.pn ++ pins)) [] σ (upd H a (EcO cls a)) s := by
  have ne0 : ∀ b o, X.s_0.heap.get? b = some o → b ≠ a := fun b o e z => by
    rw [z, n0] at e
    cases e
  refine ⟨I.ok.suite _ _, I.os, I.bare, ⟨fun b o e n hb hx => I.base.keep b o e n hb hx, fun b o e n hb hx => I.base.slot b o e n hb hx, fun b o e n hx => ?_, fun b o e hx => I.base.there b o e hx, fun b xs e => ?_, fun b o u e => ?_, fun b ps e => ?_⟩, I.loc, I.cell, ?_, fun x c e => ?_, fun p hp => ?_, ?_, I.len⟩
  · rw [upd_ne (ne0 b o e)]
    exact I.base.free b o e n hx
  · have q := I.base.tups b xs e
    rw [upd_ne (ne_of_none q na)]
    exact q
  · have q := I.base.frzs b o u e
    rw [upd_ne (ne_of_none q na)]
    exact q
  · obtain ⟨more, q⟩ := I.base.tbls b ps e
    exact ⟨more, by rw [upd_ne (ne_of_none q na)]; exact q⟩
  · show upd H a _ X.env.locals = none
    rw [upd_ne nL.symm]
    exact I.free
  · have hc : c ≠ a := fun z => by
      obtain ⟨v, o, ho, hdd⟩ := I.cell x c e
      rw [z, ha] at ho
      cases ho
      rw [hd] at hdd
      cases hdd
    rw [upd_ne hc]
    exact I.freeC x c e
  · rw [List.append_nil] at hp
    obtain ⟨p1, p2, p3, p4, p5⟩ := I.pin p hp
    exact ⟨p1, by rw [upd_ne (np p hp)]; exact p2, p3, p4, p5⟩
  · exact I.hok.laidN (fun _ _ e => e) na (ecO_ok ha hz hd)
theorem Inv.unsuiteK {a : Addr} {pn' : List (Addr × Obj)} (I : Inv (X.suite a (X.pn ++ pins)) pn' σ H s) (ok : X.Ok) : Inv X pins σ H s :=
  ⟨ok, I.os, I.bare, I.base, I.loc, I.cell, I.free, I.freeC, fun p hp => I.pin p (List.mem_append_left _ hp), I.hok, I.len⟩
end
/-- what 'except x as n' wishes, the error kept -/
def wK (K : PySem.W.Frag) (c : Value) (i : Nat) (ts : TS) (D : Ends) : WX := fun cls d σ H => d = none ∧ PySem.W.exmOne K cls c = some true ∧
  ∀ a, H a = none → ts { nx := fun σ' H' => D.nx (σ'.set i none) H', rt := D.rt, bk := fun σ' H' => D.bk (σ'.set i none) H', ct := fun σ' H' => D.ct (σ'.set i none) H' } (σ.set i (some (.ref a))) (upd H a (EcO cls a))
section
variable {X : Cx} {x n : Str} {c : Value} {i : Nat} {body suite : List Stmt} {b₀ : Stmt} {np pos pos' : Pos} {tb : WX → TS} {ts : TS}
theorem ps_try_k (hs : X.stack = X.env :: X.outer) (hf : X.env.frame = some X.env.locals) (hex : X.ex = []) (hN : X.N.Nodup) (hi : X.N[i]? = some n) (hln : X.env.kindOf n = some .local) (hc : Names X x c)
    (hb : ∀ (W : WX) (pn : List (Addr × Obj)) (xe : Value → Shared → Prop), Takes (X.tr pn xe) W → PassesOwn (model X.prog X.w) X.A X.env xe → PSs (X.tr pn xe) body (tb W))
    (hsu : ∀ (a : Addr) (pn : List (Addr × Obj)), PSs (X.suite a pn) (b₀ :: suite) ts) :
    PS X (.Try body [.ExceptHandler (some (.Name x np)) (some n) (b₀ :: suite) pos'] [] [] pos) (fun D σ H => tb (wK X.K c i ts D) D σ H) := by
  refine ⟨fun pins s σ H D I h => ?_⟩
  have ok := I.ok
  have hfr : X.A.frames = some (X.env :: X.outer) := by rw [ok.frames, hs]
  have hloc : Loc X.env.scope n := .inl hln
  refine wpAny_Try_except ?_
  refine wpAny_mono ((hb (wK X.K c i ts D) (X.pn ++ pins) (fun e s₁ => wpAny (model X.prog X.w) X.A (noteFrame e X.env) (fun _ s₂ => wpAny (model X.prog X.w) X.A (setFlight e none) (fun _ s₃ =>
    wpAny (model X.prog X.w) X.A (handleBy e X.env [.ExceptHandler (some (.Name x np)) (some n) (b₀ :: suite) pos']) (SP X pins D) X.xe s₃) X.xe s₂) X.xe s₁) (fun u s' xx => ?_) PassesOwn.looking).run [] s σ H D (I.toTry _) h) (fun f s1 hsp => ?_) (fun e s1 he => he)
  · obtain ⟨a, B, sI, pins', σ', H', cls, d, rfl, J', nb, up, sky, na, os, ag, rfl, hb1, hyes⟩ := xx
    have J : Inv X pins σ' H' sI := J'.ofTry ok
    have sky' : Sky B (X.env :: X.outer) a (Zc cls none) X.env.locals s'.heap := by rw [← hs]; exact sky
    have hBa : B.get? a = none := by
      rcases sky' with h | h | h
      · exact h.2.1
      · exact h.2.1
      · exact h.2.1
    show wpAny (model X.prog X.w) X.A (noteFrame (.ref a) X.env) _ _ _
    refine Sky.land Zc.steady hfr hf sky' fun h3 fl3 up3 => ?_
    have J3 : Inv X pins σ' H' { s' with heap := h3 } := J.landed nb fl3.1 (up.trans up3) os ag
    obtain ⟨oe3, vs3, he3, hz3, hd3⟩ := fl3.there
    have notFr : ∀ {h : Heap} {o : Obj} {vs : Array Value}, h.FunFrames B (X.env :: X.outer) → h.get? a = some o → o.data = .fields vs → a ∉ frs (X.env :: X.outer) := fun {h o vs} ff e dd hm => by
      obtain ⟨_, o', e', hnf⟩ := ff.mem hm
      rw [e] at e'; cases e'
      exact hnf _ dd
    have nfr := notFr fl3.2.2.1 he3 hd3
    have nL : a ≠ X.env.locals := fun z => nfr (List.mem_filterMap.mpr ⟨X.env, List.mem_cons_self, by rw [hf, z]⟩)
    have nsI : sI.heap.get? a = none := by
      cases q : sI.heap.get? a with
      | none => rfl
      | some o =>
        have z := nb a o q (by show a ∉ frs X.stack; rw [hs]; exact nfr)
        rw [hBa] at z
        cases z
    have n0 : X.s_0.heap.get? a = none := by
      cases q : X.s_0.heap.get? a with
      | none => rfl
      | some o =>
        obtain ⟨o', z⟩ := J.base.there a o q (by rw [hex]; exact fun z => nomatch z)
        rw [nsI] at z
        cases z
    have npx : ∀ p ∈ X.pn ++ pins, p.1 ≠ a := fun p hp z => by
      have q := (J.pin p hp).1
      rw [z, nsI] at q
      cases q
    have S3 := Inv.suiteK J3 he3 hz3 hd3 na nL n0 npx
    refine wpAny_handleBy_cons (codeAny_handlers_test ?_) (by intro q; cases q)
    have LT : PySem.W.Looks (model X.prog X.w) h3 (typeOf (.ref a)) cls := fun A Q E s k q => wpAny_typeOf_ref (k _ _ he3) (by rw [hz3.1]; exact q)
    have LM := PySem.W.exm_one (M := model X.prog X.w) (J3.kIn) LT hb1
    have test : ∀ {Q : Value → Shared → Prop} {E : Value → Shared → Prop}, Q c { s' with heap := h3 } → wpAny (model X.prog X.w) (X.A.mark (some (.ref a))) (eval (.Name x np) X.env) Q E { s' with heap := h3 } := fun {Q E} q => by
      obtain ⟨hg, hdbg, hm | ⟨hm, hv, hnn⟩⟩ := hc
      · exact ld_glob (X := X.suite a (X.pn ++ pins)) S3 hg hm q hdbg
      · exact ld_blt (X := X.suite a (X.pn ++ pins)) S3 hg hm hv q hnn hdbg
    refine test (LM.here ?_)
    refine codeAny_handlers_suite_as ?_
    refine HandSPX.lands_againZ fl3 fun h4 fl4 up4 => ?_
    have J4 : Inv X pins σ' H' { s' with heap := h4 } := J.landed nb fl4.1 ((up.trans up3).trans up4) os ag
    obtain ⟨oe4, vs4, he4, hz4, hd4⟩ := fl4.there
    have S4 := Inv.suiteK J4 he4 hz4 hd4 na nL n0 npx
    refine store_ok (X := X.suite a (X.pn ++ pins)) (v := .ref a) S4 hN hi hloc rfl (fun s5 S5 => ?_) (.inr hln)
    refine wpAny_mono ((hsu a (X.pn ++ pins)).run [] s5 _ _ _ S5 (hyes a na)) (fun f s6 hsp => ?_) (fun _ _ z => False.elim z)
    have end_ : ∀ {σ6 : L2.St} {H6 : Hp} {Q : Shared → Prop}, Inv (X.suite a (X.pn ++ pins)) [] σ6 H6 s6 → (∀ s7, Inv X pins (σ6.set i none) H6 s7 → Q s7) →
        wpAny (model X.prog X.w) X.A (do bindName X.env n .none; unbindBehindTheSuite X.env n pos') (fun _ s7 => Q s7) X.xe s6 := fun {σ6 H6 Q} S6 hq => gone_ok (Inv.unsuiteK S6 ok) hN hi hln hq
    cases f with
    | next =>
      obtain ⟨σ6, H6, S6, q6⟩ := hsp
      exact end_ S6 fun s7 J7 => ⟨_, _, J7, q6⟩
    | brk =>
      obtain ⟨σ6, H6, S6, q6⟩ := hsp
      exact end_ S6 fun s7 J7 => ⟨_, _, J7, q6⟩
    | cont =>
      obtain ⟨σ6, H6, S6, q6⟩ := hsp
      exact end_ S6 fun s7 J7 => ⟨_, _, J7, q6⟩
    | ret u =>
      obtain ⟨v6, σ6, H6, S6, r6, q6⟩ := hsp
      exact end_ S6 fun s7 J7 => ⟨_, _, _, J7, r6, q6⟩
  · cases f with
    | next =>
      obtain ⟨σ', H', J', q⟩ := hsp
      exact wpAny_execs_nil ⟨σ', H', J'.ofTry ok, q⟩
    | brk =>
      obtain ⟨σ', H', J', q⟩ := hsp
      exact ⟨σ', H', J'.ofTry ok, q⟩
    | cont =>
      obtain ⟨σ', H', J', q⟩ := hsp
      exact ⟨σ', H', J'.ofTry ok, q⟩
    | ret u =>
      obtain ⟨v, σ', H', J', r, q⟩ := hsp
      exact ⟨v, σ', H', J'.ofTry ok, r, q⟩
end
/-! ### isinstance of it -/
def rIsC (K : PySem.W.Frag) : List V → Hp → VK → Prop := fun xs H Q => ∃ (a D : Addr) (c : V) (u : Value) (b : Bool), xs = [.ref a, c] ∧ H a = some (EcO (.ref D) a) ∧ ExcC K D ∧ (∀ u', RelV c u' → u' = u) ∧ PySem.W.kitOne K (.ref D) u = some b ∧ Q (.bl b) H
def rIsT (K : PySem.W.Frag) : List V → Hp → VK → Prop := fun xs H Q => ∃ (a D p : Addr) (cs : List V) (b : Bool), xs = [.ref a, .ref p] ∧ H a = some (EcO (.ref D) a) ∧ ExcC K D ∧ SqT K H p cs ∧ (∀ us, Vals cs us → PySem.W.kitAny K (.ref D) us = some b) ∧ Q (.bl b) H
theorem inst_of {X : Cx} {pins : List (Addr × Obj)} {σ : L2.St} {H : Hp} {s : Shared} (I : Inv X pins σ H s) {a D : Addr} (ha : H a = some (EcO (.ref D) a)) : ∃ oe, PySem.W.InstAt s.heap a oe D none := by
  obtain ⟨⟨oe, vs, ho, hz, hv⟩, _, _⟩ := I.hok a _ ha
  refine ⟨oe, ?_⟩
  obtain ⟨oc, od, oda, osl⟩ := oe
  obtain ⟨h1, h2⟩ := hz
  dsimp only at h1 h2 hv
  subst h1 h2 hv
  exact ⟨ho, rfl, rfl, trivial⟩
theorem call_isC {X : Cx} : CallR X (.builtin "isinstance") (rIsC X.K) := by
  intro pins s σ H xs us Q I r h
  obtain ⟨a, D, c, u, b, rfl, ha, C, hc, e, q⟩ := h
  obtain ⟨u1, u2, rfl, r1, r2⟩ := vals2 r
  obtain rfl := hc _ r2
  cases (show u1 = Value.ref a from r1)
  obtain ⟨oe, J⟩ := inst_of I ha
  exact PySem.W.kia_one (PySem.W.handS_kitx_exc C.hg C.hk C.hs C.hd C.ha C.hn C.ht C.hm) I.kIn J e (fun z => nomatch z) fun tk => ⟨.bl b, H, I.tok tk, rfl, q⟩
theorem call_isT {X : Cx} : CallR X (.builtin "isinstance") (rIsT X.K) := by
  intro pins s σ H xs us Q I r h
  obtain ⟨a, D, p, cs, b, rfl, ha, C, hp, e, q⟩ := h
  obtain ⟨u1, u2, rfl, r1, r2⟩ := vals2 r
  cases (show u1 = Value.ref a from r1)
  cases (show u2 = Value.ref p from r2)
  obtain ⟨oe, J⟩ := inst_of I ha
  obtain ⟨its, rv, ⟨o, ho, hc, n, hd⟩, _⟩ := I.tuple hp
  obtain ⟨oc, od, oda, osl⟩ := o
  dsimp only at hc hd
  subst hc hd
  exact PySem.W.kia_tup (PySem.W.handS_kitx_exc C.hg C.hk C.hs C.hd C.ha C.hn C.ht C.hm) I.kIn J ho (e _ rv) (fun z => nomatch z) fun tk => ⟨.bl b, H, I.tok tk, rfl, q⟩
def rIsY (K : PySem.W.Frag) : List V → Hp → VK → Prop := fun xs H Q => rIsX K xs H Q ∨ rIsC K xs H Q ∨ rIsT K xs H Q
theorem call_isY {X : Cx} : CallR X (.builtin "isinstance") (rIsY X.K) := fun pins s σ H xs us Q I r h => h.elim (call_isX pins s σ H xs us Q I r) fun h => h.elim (call_isC pins s σ H xs us Q I r) (call_isT pins s σ H xs us Q I r)
/-! ### what the head tells of the errors -/
def eqV (a b : Option (Option Value)) : Bool := decide (a = b)
def excB (K : PySem.W.Frag) (D : Addr) : Bool :=
  decide (PySem.W.findIn K (.ref D) "__getattribute__" = some (some (.builtin "BaseException.__getattribute__"))) && (decide (PySem.W.findIn K (.ref D) "__getattr__" = some none) && (decide (PySem.W.subIn K (.ref D) (.type "BaseException") = some true) && (PySem.W.hasDictIn K D &&
  (decide (PySem.W.findIn K (.ref D) "__class__" = some (some (.builtin "object.__class__"))) && (decide (PySem.W.specialIn K (.builtin "object.__class__") "__get__" = some (some (.builtin "getset_descriptor.__get__"))) && (decide (PySem.W.takesIn K (.builtin "object.__class__") = some true) && decide (PySem.W.mroIn K D (.type "object") = some true)))))))
theorem excB_ok {K : PySem.W.Frag} {D : Addr} (h : excB K D = true) : ExcC K D := by
  unfold excB at h
  simp only [Bool.and_eq_true, decide_eq_true_eq] at h
  obtain ⟨h1, h2, h3, h4, h5, h6, h7, h8⟩ := h
  exact ⟨h1, h2, h3, h4, h5, h6, h7, h8⟩
def erB (K : PySem.W.Frag) (es : List Er) (c : Er) : Bool :=
  (He.Fa.glo c.nm).ok K && ((He.Fa.exc c.nm).ok K && (excB K (He.ga K c.nm) && (decide (PySem.W.kitOne K (.ref (He.ga K c.nm)) (.type "ValueError") = some true) &&
  es.all fun d => decide (PySem.W.kitOne K (.ref (He.ga K c.nm)) (.ref (He.ga K d.nm)) = some (c.sub d)) && decide (PySem.W.exmOne K (.ref (He.ga K c.nm)) (.ref (He.ga K d.nm)) = some (c.sub d)))))
structure Exs (K : PySem.W.Frag) (mg : Str → Option Value) (es : List Er) : Prop where
  glo : ∀ c ∈ es, mg c.nm = some (.ref (He.ga K c.nm))
  exc : ∀ c ∈ es, (He.Fa.exc c.nm).ok K = true
  isi : ∀ c ∈ es, ExcC K (He.ga K c.nm)
  ve : ∀ c ∈ es, PySem.W.kitOne K (.ref (He.ga K c.nm)) (.type "ValueError") = some true
  kit : ∀ c ∈ es, ∀ d ∈ es, PySem.W.kitOne K (.ref (He.ga K c.nm)) (.ref (He.ga K d.nm)) = some (c.sub d)
  exm : ∀ c ∈ es, ∀ d ∈ es, PySem.W.exmOne K (.ref (He.ga K c.nm)) (.ref (He.ga K d.nm)) = some (c.sub d)
theorem exs_ok {K : PySem.W.Frag} {h : Heap} {mg : Str → Option Value} {es : List Er} (X : K.In h) (G : h.Ns mainGlobals mg) (c : (es.all fun c => erB K es c) = true) : Exs K mg es := by
  have key : ∀ c ∈ es, erB K es c = true := fun x hx => List.all_eq_true.mp c x hx
  have k2 : ∀ c ∈ es, (He.Fa.glo c.nm).ok K = true ∧ (He.Fa.exc c.nm).ok K = true ∧ excB K (He.ga K c.nm) = true ∧ PySem.W.kitOne K (.ref (He.ga K c.nm)) (.type "ValueError") = some true ∧ ∀ d ∈ es, PySem.W.kitOne K (.ref (He.ga K c.nm)) (.ref (He.ga K d.nm)) = some (c.sub d) ∧ PySem.W.exmOne K (.ref (He.ga K c.nm)) (.ref (He.ga K d.nm)) = some (c.sub d) := fun x hx => by
    have q := key x hx
    unfold erB at q
    simp only [Bool.and_eq_true, decide_eq_true_eq, List.all_eq_true] at q
    exact q
  exact ⟨fun c hc => He.glo_ok X G (k2 c hc).1, fun c hc => (k2 c hc).2.1, fun c hc => excB_ok (k2 c hc).2.2.1, fun c hc => (k2 c hc).2.2.2.1, fun c hc d hd => ((k2 c hc).2.2.2.2 d hd).1, fun c hc d hd => ((k2 c hc).2.2.2.2 d hd).2⟩
def hookX (n : Nat) (fa : List He.Fa) (fn : List He.DefD) (es : List Er) : PySem.W.Hook where
  α := Bool × Bool × He.AlD
  obs := fun s => (smB s.heap.get?, es.all (fun c => erB (He.frG s.heap.get? (He.asD s.heap.get? n)) es c), He.obsDG n fa fn s.heap.get?)
  val := fun _ => (true, true, He.valD fn)
  says := fun _ h => SMd h ∧ ∃ K : PySem.W.Frag, K.In h ∧ He.SaysD fa fn K ∧ (es.all fun c => erB K es c) = true
  of := fun w s e => ⟨sm_of (congrArg Prod.fst e), He.frG s.heap.get? (He.asD s.heap.get? n), He.frG_in, congrArg (fun z : Bool × Bool × He.AlD => z.2.2) e, congrArg (fun z : Bool × Bool × He.AlD => z.2.1) e⟩
  keeps := fun w h h' ⟨⟨o, h1, h2⟩, K, hK, c⟩ k => ⟨⟨o, k _ _ h1, h2⟩, K, PySem.W.Frag.In.keeps hK k, c⟩
def obsX (n : Nat) (fa : List He.Fa) (fn : List He.DefD) (es : List Er) (g : Addr → Option Obj) : Bool × Bool × He.AlD := (smB g, es.all (fun c => erB (He.frG g (He.asD g n)) es c), He.obsDG n fa fn g)
theorem obsX_eq {n : Nat} {fa : List He.Fa} {fn : List He.DefD} {es : List Er} {g : Addr → Option Obj} {s : Shared} (h : ∀ a, g a = s.heap.get? a) : obsX n fa fn es g = (hookX n fa fn es).obs s := by
  have e : g = s.heap.get? := funext h
  rw [e] <;> rfl
theorem pi_listK {X : Cx} {K : PySem.W.Frag} {tg l : Expr} {tl : TE} (e : X.K = K) (hl : PE X l tl) : PI X tg l (iList K tl) := by
  subst e
  exact pi_list hl
/-! ### errors in a world -/
abbrev es6 : List Er := [.cut, .many, .place, .number, .text, .command]
theorem Er.mem6 (c : Er) : c ∈ es6 := by cases c <;> decide
section
variable {K : PySem.W.Frag} {mg : Str → Option Value} {B H : Hp} {ctx : List Fact} {L : List Own} {a : Addr} {c d : Er} {v : V} {Q : VK}
theorem Exs.cut (XX : Exs K mg es6) (c : Er) : PySem.W.exmOne K (.ref (He.ga K c.nm)) (.ref (He.ga K ("CutError" : PySem.Str))) = some true := by
  have h := XX.exm c c.mem6 .cut (Er.mem6 _)
  have e : c.sub .cut = true := by cases c <;> rfl
  rw [e] at h
  exact h
theorem Wd.keepE (W : Wd K B ctx L H) (ha : H a = none) : Wd K B (fc false c (.ref a) :: ctx) L (upd H a (EcO (.ref (He.ga K c.nm)) a)) := by
  obtain ⟨N, F, W⟩ := W
  exact Wd.newX W ha false fun N' F' _ _ q => ⟨a, rfl, q⟩
theorem kn_exc (W : Wd K B ctx L H) (h : Kn K ctx false c v) : ∃ a, v = .ref a ∧ H a = some (EcO (.ref (He.ga K c.nm)) a) := by
  obtain ⟨N, F, W⟩ := W
  obtain ⟨a, e, q⟩ := h N F W.nF W.facts
  exact ⟨a, e, W.fH _ _ q⟩
theorem w_isC (d : Er) (XX : Exs K mg es6) (W : Wd K B ctx L H) (h : Kn K ctx false c v) (k : Q (.bl (c.sub d)) H) : rIsY K [v, .ref (He.ga K d.nm)] H Q := by
  obtain ⟨a, rfl, ha⟩ := kn_exc W h
  exact .inr (.inl ⟨a, _, _, _, _, rfl, ha, XX.isi c c.mem6, (fun u r => r), XX.kit c c.mem6 d d.mem6, k⟩)
theorem w_isVE (XX : Exs K mg es6) (W : Wd K B ctx L H) (h : Kn K ctx false c v) (k : Q (.bl (c.sub .cut)) H) : rIsY K [v, .ty "ValueError"] H Q := by
  obtain ⟨a, rfl, ha⟩ := kn_exc W h
  exact .inr (.inl ⟨a, _, _, _, _, rfl, ha, XX.isi c c.mem6, (fun u r => r), XX.ve c c.mem6, by
    have e : c.sub .cut = true := by cases c <;> rfl
    rw [e] at k
    exact k⟩)
theorem kitAny_sub (XX : Exs K mg es6) (c : Er) : ∀ (ds : List Er) (us : List Value), Vals (ds.map fun d => V.ref (He.ga K d.nm)) us → PySem.W.kitAny K (.ref (He.ga K c.nm)) us = some (ds.any c.sub)
  | [], _, h => by
    cases h
    rfl
  | d :: ds, _, h => by
    cases h with
    | cons h1 h2 =>
      cases h1
      have q := XX.kit c c.mem6 d d.mem6
      unfold PySem.W.kitAny
      rw [q, List.any_cons]
      cases e : c.sub d
      · exact kitAny_sub XX c ds _ h2
      · rfl
/-- (NoMany, NoText): new, held by itself -/
theorem w_tupC (ds : List Er) (hl : ds.length ≤ 100) (W : Wd K B ctx L H) (k : ∀ p H', Wd K B ctx L H' → H' p = some (.tup (ds.map fun d => V.ref (He.ga K d.nm))) → Q (.ref p) H') : rTup (ds.map fun d => V.ref (He.ga K d.nm)) H Q := by
  obtain ⟨N, F, W⟩ := W
  refine ⟨by rw [List.length_map, sizeLine_eq]; omega, fun p hp => k p _ ?_ upd_same⟩
  have W2 := Wd.newT (vs := ds.map fun d => V.ref (He.ga K d.nm)) (f := ⟨fun _ _ _ => True, fun _ _ _ => trivial⟩) W hp false fun N' F' s s' q => trivial
  exact Wd.sub W2 fun f hf => List.mem_cons_of_mem _ hf
theorem w_isT {p : Addr} (ds : List Er) (XX : Exs K mg es6) (W : Wd K B ctx L H) (h : Kn K ctx false c v) (hp : H p = some (.tup (ds.map fun d => V.ref (He.ga K d.nm)))) (k : Q (.bl (ds.any c.sub)) H) : rIsY K [v, .ref p] H Q := by
  obtain ⟨a, rfl, ha⟩ := kn_exc W h
  exact .inr (.inr ⟨a, _, p, _, _, rfl, ha, XX.isi c c.mem6, SqT.of hp, kitAny_sub XX c ds, k⟩)
theorem w_isY {xs : List V} (h : rIsX K xs H Q) : rIsY K xs H Q := .inl h
end
/-! ### things that are tuples -/
def lenTh : Th → Option Int
  | .lst xs => some xs.length
  | .tup xs => some xs.length
  | _ => none
def ixTh : Th → Int → Option Th
  | .lst xs, i => atI xs i
  | .tup xs, i => atI xs i
  | _, _ => none
section
variable {K : PySem.W.Frag} {B H : Hp} {ctx : List Fact} {L : List Own} {t : Bool} {x y : Th} {v : V} {i : Int} {Q : VK}
theorem w_lenTh (W : Wd K B ctx L H) (h : Kn K ctx t x v) (e : lenTh x = some i) (k : Q (.int i) H) : rLen K [v] H Q := by
  obtain ⟨N, F, W⟩ := W
  have r := h N F W.nF W.facts
  cases x with
  | lst xs =>
    cases e
    obtain ⟨a, vs, rfl, h1, h2⟩ := r
    exact i_len (SqL.of (reg_l W.nF W.fH h1)) (by rw [rpL_len h2]; exact k)
  | tup xs =>
    cases e
    obtain ⟨a, vs, rfl, h1, h2⟩ := r
    exact i_lenT ((reg_A W.nF W.fH).t _ _ h1) (by rw [rpL_len h2]; exact k)
  | _ => cases e
theorem w_ixTh (W : Wd K B ctx L H) (h : Kn K ctx t x v) (e : ixTh x i = some y) (k : ∀ u, Wd K B (fc t y u :: ctx) L H → Q u H) : rIx K v (.int i) H Q := by
  obtain ⟨N, F, W⟩ := W
  have r := h N F W.nF W.facts
  cases x with
  | lst xs =>
    obtain ⟨a, vs, rfl, h1, h2⟩ := r
    obtain ⟨u, e2, r⟩ := atI_2 (rpL_all.mp h2) (show atI xs i = some y from e)
    exact i_ixL (SqL.of (reg_l W.nF W.fH h1)) e2 (k u (Wd.fact W r))
  | tup xs =>
    obtain ⟨a, vs, rfl, h1, h2⟩ := r
    obtain ⟨u, e2, r⟩ := atI_2 (rpL_all.mp h2) (show atI xs i = some y from e)
    exact i_ixT ((reg_A W.nF W.fH).t _ _ h1) e2 (k u (Wd.fact W r))
  | _ => cases e
end
end PB

namespace PB
open PySem PySem.Spec PyProof.Rows L2
/-! ### what a mirror gives -/
def OkP {α : Type} (e : Option α) (P : α → Prop) : Prop := ∃ x, e = some x ∧ P x
section
variable {α β γ ρ : Type} {e : Option α} {P R : α → Prop} {f : α → Option β} {Q : β → Prop} {x : α} {b : Bool}
theorem Ok.some (h : P x) : OkP (Option.some x) P := ⟨x, rfl, h⟩
theorem Ok.of (e1 : e = Option.some x) (h : P x) : OkP e P := ⟨x, e1, h⟩
theorem Ok.eq (h : OkP e fun y => y = x) : e = Option.some x := by
  obtain ⟨y, h1, rfl⟩ := h
  exact h1
theorem Ok.mono (h : OkP e P) (k : ∀ x, P x → R x) : OkP e R := let ⟨x, e, p⟩ := h; ⟨x, e, k x p⟩
theorem Ok.bind (h : OkP e P) (k : ∀ x, P x → OkP (f x) Q) : OkP (e.bind f) Q := by
  obtain ⟨x, rfl, p⟩ := h
  exact k x p
theorem Ok.bindE (h : e = Option.some x) (k : OkP (f x) Q) : OkP (e.bind f) Q := by
  rw [h]
  exact k
theorem Ok.ite {A C : Option α} (h1 : b = true → OkP A P) (h2 : b = false → OkP C P) : OkP (if b = true then A else C) P := by
  cases b with
  | true => exact h1 rfl
  | false => exact h2 rfl
theorem Ok.iteT {A C : Option α} (h : b = true) (h1 : OkP A P) : OkP (if b = true then A else C) P := by
  rw [if_pos h]
  exact h1
theorem Ok.iteF {A C : Option α} (h : b = false) (h1 : OkP C P) : OkP (if b = true then A else C) P := by
  rw [if_neg (by rw [h]; exact Bool.false_ne_true)]
  exact h1
/-- loops -/
theorem Ok.forI {f : α → β → Option (Ctl ρ β)} {xs : List α} {b0 : β} (I : Nat → β → Prop) (h0 : I 0 b0) (hs : ∀ i x b, xs[i]? = Option.some x → I i b → OkP (f x b) fun o => ∃ b', o = .go b' ∧ I (i + 1) b') :
    OkP (forO f xs b0) fun o => ∃ b, o = .go b ∧ I xs.length b := by
  induction xs generalizing b0 I with
  | nil => exact ⟨_, rfl, b0, rfl, h0⟩
  | cons x xs ih =>
    obtain ⟨o, e, b', rfl, h1⟩ := hs 0 x b0 rfl h0
    rw [forO, e]
    exact ih (fun i => I (i + 1)) h1 fun i y b hy hb => hs (i + 1) y b (by simpa using hy) hb
theorem Ok.forA {f : α → β → Option (Ctl ρ β)} {xs : List α} {b0 : β} (I : β → Prop) (h0 : I b0) (hs : ∀ x ∈ xs, ∀ b, I b → OkP (f x b) fun o => ∃ b', o = .go b' ∧ I b') : OkP (forO f xs b0) fun o => ∃ b, o = .go b ∧ I b :=
  Ok.forI (fun _ => I) h0 fun i x b hx hb => hs x (List.mem_of_getElem? hx) b hb
/-- a loop that only looks -/
theorem Ok.forU {f : α → Unit → Option (Ctl ρ Unit)} {xs : List α} (hs : ∀ x ∈ xs, OkP (f x ()) fun o => o = .go ()) : OkP (forO f xs ()) fun o => o = .go () :=
  Ok.mono
    (Ok.forA (fun _ => True) trivial fun x hx b _ => Ok.mono (hs x hx) fun o e => ⟨(), e, trivial⟩) fun o ⟨b, e, _⟩ => e
theorem Ok.foldI {f : α → β → Option β} {xs : List α} {b0 : β} (I : Nat → β → Prop) (h0 : I 0 b0) (hs : ∀ i x b, xs[i]? = Option.some x → I i b → OkP (f x b) (I (i + 1))) : OkP (foldO f xs b0) (I xs.length) := by
  induction xs generalizing b0 I with
  | nil => exact ⟨b0, rfl, h0⟩
  | cons x xs ih =>
    obtain ⟨b', e, h1⟩ := hs 0 x b0 rfl h0
    rw [foldO, e]
    exact ih (fun i => I (i + 1)) h1 fun i y b hy hb => hs (i + 1) y b (by simpa using hy) hb
theorem Ok.foldA {f : α → β → Option β} {xs : List α} {b0 : β} (I : β → Prop) (h0 : I b0) (hs : ∀ x ∈ xs, ∀ b, I b → OkP (f x b) I) : OkP (foldO f xs b0) I :=
  Ok.foldI (fun _ => I) h0 fun i x b hx hb => hs x (List.mem_of_getElem? hx) b hb
theorem Ok.whileI {f : β → Option (Ctl ρ β)} {b0 : β} {n : Nat} (I E : β → Prop) (μ : β → Nat) (h0 : I b0) (hn : μ b0 < n) (hs : ∀ b, I b → OkP (f b) fun o => (∃ b', o = .go b' ∧ I b' ∧ μ b' < μ b) ∨ ∃ b', o = .brk b' ∧ E b') :
    OkP (whileO f n b0) fun o => ∃ b, o = .go b ∧ E b := by
  induction n generalizing b0 with
  | zero => omega
  | succ n ih =>
    obtain ⟨o, e, h⟩ := hs b0 h0
    rw [whileO, e]
    rcases h with ⟨b', rfl, h1, h2⟩ | ⟨b', rfl, h1⟩
    · exact ih h1 (by omega)
    · exact ⟨_, rfl, b', rfl, h1⟩
theorem mapG_eq {f : α → Option γ} {g : α → γ} : ∀ {xs : List α}, (∀ x ∈ xs, f x = Option.some (g x)) → mapG f xs = Option.some (xs.map g)
  | [], _ => rfl
  | x :: xs, h => by
    rw [mapG, h x List.mem_cons_self, mapG_eq fun y hy => h y (List.mem_cons_of_mem _ hy)]
    rfl
theorem mapO_eq {f : α → Option γ} {g : α → γ} {xs : List α} (hz : xs.length ≤ sizeLine) (h : ∀ x ∈ xs, f x = Option.some (g x)) : mapO f xs = Option.some (xs.map g) := by
  rw [mapO, if_pos hz, mapG_eq h]
theorem cmpG_eq {f : α → Option (Option γ)} {g : α → γ} {p : α → Bool} : ∀ {xs : List α}, (∀ x ∈ xs, f x = Option.some (if p x = true then Option.some (g x) else none)) → cmpG f xs = Option.some ((xs.filter p).map g)
  | [], _ => rfl
  | x :: xs, h => by
    rw [cmpG, h x List.mem_cons_self, cmpG_eq fun y hy => h y (List.mem_cons_of_mem _ hy)]
    cases hp : p x
    · rw [List.filter_cons_of_neg (by rw [hp]; exact Bool.false_ne_true)]; rfl
    · rw [List.filter_cons_of_pos hp]; rfl
theorem cmpO_eq {f : α → Option (Option γ)} {g : α → γ} {p : α → Bool} {xs : List α} (hz : xs.length ≤ sizeLine) (h : ∀ x ∈ xs, f x = Option.some (if p x = true then Option.some (g x) else none)) : cmpO f xs = Option.some ((xs.filter p).map g) := by
  rw [cmpO, if_pos hz, cmpG_eq h]
theorem cmpG_none {f : α → Option (Option γ)} : ∀ {xs : List α}, (∀ x ∈ xs, f x = Option.some none) → cmpG f xs = Option.some []
  | [], _ => rfl
  | x :: xs, h => by
    rw [cmpG, h x List.mem_cons_self, cmpG_none fun y hy => h y (List.mem_cons_of_mem _ hy)]
    rfl
theorem cmpO_none {f : α → Option (Option γ)} {xs : List α} (hz : xs.length ≤ 16777216) (h : ∀ x ∈ xs, OkP (f x) fun o => o = none) : cmpO f xs = Option.some [] := by
  rw [cmpO, if_pos (show xs.length ≤ sizeLine from hz), cmpG_none fun x hx => Ok.eq (h x hx)]
theorem Ok.mapS {f : α → β → Option (γ × β)} {xs : List α} {b0 : β} (P : γ → Prop) (I : β → Prop) (hz : xs.length ≤ sizeLine) (h0 : I b0) (hs : ∀ x ∈ xs, ∀ b, I b → OkP (f x b) fun p => P p.1 ∧ I p.2) :
    OkP (mapSO f xs b0) fun r => r.1.length = xs.length ∧ (∀ y ∈ r.1, P y) ∧ I r.2 := by
  rw [mapSO, if_pos hz]
  clear hz
  induction xs generalizing b0 with
  | nil => exact ⟨_, rfl, rfl, (fun _ h => nomatch h), h0⟩
  | cons x xs ih =>
    obtain ⟨p, e, h1, h2⟩ := hs x List.mem_cons_self b0 h0
    obtain ⟨q, e2, h3, h4, h5⟩ := ih h2 fun y hy => hs y (List.mem_cons_of_mem _ hy)
    refine ⟨(p.1 :: q.1, q.2), ?_, ?_, ?_, h5⟩
    · rw [mapSG, e]
      show (mapSG f xs p.2).bind _ = _
      rw [e2]
      rfl
    · show q.1.length + 1 = xs.length + 1
      rw [h3]
    · intro y hy
      rcases List.mem_cons.mp hy with rfl | hy
      · exact h1
      · exact h4 y hy
end
theorem forO_go {α β ρ : Type} {f : α → β → Option (Ctl ρ β)} {x : α} {xs : List α} {b b' : β} (h : f x b = some (.go b')) : forO f (x :: xs) b = forO f xs b' := by rw [forO, h]
theorem forO_S {α β ρ : Type} {f : α → β → Option (Ctl ρ β)} {xs : List α} {b0 : β} (S : Nat → Option β) (r : ρ) (h0 : S 0 = some b0)
    (hs : ∀ i x b, xs[i]? = some x → S i = some b → f x b = some (match S (i + 1) with
      | some b' => .go b'
      | none => .ret r))
    (hm : ∀ i, i ≤ xs.length → S i = none → S xs.length = none) : forO f xs b0 = some (match S xs.length with
      | some b => .go b
      | none => .ret r) := by
  induction xs generalizing b0 S with
  | nil =>
    show some (Ctl.go b0) = _
    rw [show S ([] : List α).length = some b0 from h0]
  | cons x xs ih =>
    have h1 := hs 0 x b0 rfl h0
    rw [forO, h1]
    cases e : S (0 + 1) with
    | none =>
      rw [hm 1 (by simp) e]
    | some b' =>
      exact ih (fun i => S (i + 1)) e (fun i y b hy hb => hs (i + 1) y b (by simpa using hy) hb) (fun i hi h => hm (i + 1) (by simpa using hi) h)
/-! ### single words -/
section
variable {α : Type} {xs ys : List α} {i j : Int} {x : α}
theorem mulO_s (hi : i.natAbs < 2 ^ 250) (hj : j.natAbs < 2 ^ 250) : mulO i j = some (i * j) := if_pos (wide_mul hi hj (by decide) (by decide) (by decide))
theorem fdivO_s (h0 : 0 < j) (hj : j.natAbs < 2 ^ 250) : fdivO i j = some (i / j) := if_pos (wide_div (i := i) h0 hj (by decide) (by decide) : 0 < j ∧ j.natAbs.log2 < 9000)
theorem modO_s (h0 : 0 < j) : modO i j = some (i % j) := if_pos h0
theorem atI_of (h0 : 0 ≤ i) (h1 : i < xs.length) : ∃ x, atI xs i = some x ∧ xs[i.toNat]? = some x := by
  have hl : i.toNat < xs.length := by omega
  refine ⟨xs[i.toNat], ?_, List.getElem?_eq_getElem hl⟩
  have := atI_nat (xs := xs) (j := i.toNat) (List.getElem?_eq_getElem hl)
  rwa [Int.toNat_of_nonneg h0] at this
theorem atI_get {n : Nat} (h : xs[n]? = some x) (e : i = n) : atI xs i = some x := by rw [e]; exact atI_nat h
theorem atI_neg1 {n : Nat} (h : xs[n]? = some x) (hl : xs.length = n + 1) : atI xs (-1) = some x := by
  unfold atI ixN
  rw [if_neg (by decide), if_pos (by omega)]
  show xs[(-1 + (xs.length : Int)).toNat]? = _
  rw [show (-1 + (xs.length : Int)).toNat = n by omega]
  exact h
theorem atI_bnd {ns : List Int} {lo hi : Int} (h : ∀ n ∈ ns, lo ≤ n ∧ n ≤ hi) (h0 : 0 ≤ i) (h1 : i < ns.length) : OkP (atI ns i) fun x => lo ≤ x ∧ x ≤ hi := by
  obtain ⟨x, e, e2⟩ := atI_of h0 h1
  exact ⟨x, e, h x (List.mem_of_getElem? e2)⟩
theorem atI_mem (h0 : 0 ≤ i) (h1 : i < xs.length) : OkP (atI xs i) fun x => x ∈ xs := by
  obtain ⟨x, e, e2⟩ := atI_of h0 h1
  exact ⟨x, e, List.mem_of_getElem? e2⟩
theorem catO_s (h : xs.length + ys.length ≤ 16777216) : catO xs ys = some (xs ++ ys) := if_pos h
theorem appO_s (h : xs.length < 16777216) : appO xs x = some (xs ++ [x]) := if_pos h
theorem repO_1 (h0 : 0 ≤ i) (h1 : i ≤ 16777216) : repO [x] i = some (List.replicate i.toNat x) := by
  rw [repO, if_pos ⟨by omega, by omega, by show 1 * i.toNat ≤ 16777216; omega⟩, rep_one]
theorem setO_s {xs : List Int} {x : Int} (h0 : 0 ≤ i) (h1 : i < xs.length) : setO xs i x = some (xs.set i.toNat x) := by
  rw [setO, ixN_int h0 h1]
  rfl
theorem setO_g (h0 : 0 ≤ i) (h1 : i < xs.length) : setO xs i x = some (xs.set i.toNat x) := by
  rw [setO, ixN_int h0 h1]
  rfl
theorem range1_s (h0 : -4611686018427387904 ≤ j) (h1 : j < 4611686018427387904) : range1 j = some (rangeF 0 j.toNat) := if_pos ⟨by omega, by omega⟩
theorem range2_s (h0 : -4611686018427387904 ≤ i) (h1 : i < 4611686018427387904) (h2 : -4611686018427387904 ≤ j) (h3 : j < 4611686018427387904) : range2 i j = some (rangeF i (j - i).toNat) := if_pos ⟨⟨by omega, by omega⟩, by omega, by omega⟩
theorem rangeD_s (h0 : -4611686018427387904 ≤ i) (h1 : i < 4611686018427387904) (h2 : -4611686018427387904 ≤ j) (h3 : j < 4611686018427387904) : rangeD i j = some (rangeB i (i - j).toNat) := if_pos ⟨⟨by omega, by omega⟩, by omega, by omega⟩
theorem rangeL_s (h0 : -1000000 ≤ i) (h1 : i < 1000000) (h2 : -1000000 ≤ j) (h3 : j < 1000000) : rangeL i j = some (rangeF i (j - i).toNat) := if_pos ⟨⟨by omega, by omega⟩, ⟨by omega, by omega⟩, by omega⟩
theorem maxO_s {ns : List Int} (h : ns ≠ []) : maxO ns = some (mxI ns) := if_pos h
theorem minO_s {ns : List Int} (h : ns ≠ []) : minO ns = some (mnI ns) := if_pos h
theorem mem_rangeF {n : Nat} {lo x : Int} (h : x ∈ rangeF lo n) : lo ≤ x ∧ x < lo + n := by
  obtain ⟨i, hi⟩ := List.mem_iff_getElem?.mp h
  obtain ⟨h1, h2⟩ := rangeF_get _ _ _ _ hi
  omega
theorem rangeF_at {n i : Nat} {lo : Int} (h : i < n) : (rangeF lo n)[i]? = some (lo + i) := by
  have hl : i < (rangeF lo n).length := by rw [rangeF_len]; exact h
  rw [List.getElem?_eq_getElem hl, (rangeF_get _ _ _ _ (List.getElem?_eq_getElem hl)).2]
theorem sliceI_mid {xs : List Int} (h0 : 0 ≤ i) (h1 : i ≤ j) (h2 : j ≤ xs.length) : sliceI xs (some i) (some j) = (xs.drop i.toNat).take (j.toNat - i.toNat) := cutI_mid xs h0 h1 h2
theorem sliceI_from {xs : List Int} (h0 : 0 ≤ i) : sliceI xs (some i) none = xs.drop i.toNat := cutI_from xs h0
theorem sliceI_to {xs : List Int} (h0 : 0 ≤ i) : sliceI xs none (some i) = xs.take i.toNat := cutI_to xs h0
theorem sliceI_sub {lo hi : Option Int} : (sliceI xs lo hi).Sublist xs := (List.take_sublist _ _).trans (List.drop_sublist _ _)
end
theorem pick_ok {α : Type} (d : Bool) (e : α) : ((some d).bind fun r => if r = true then some (some e) else some none) = some (if d = true then some e else none) := by cases d <;> rfl
/-! ### texts, likeness of ints, lists of them -/
theorem reprO_ints {ns : List Int} (h : ∀ n ∈ ns, n.natAbs < 2 ^ 64) (hl : ns.length ≤ 3000) : reprO ns = some (txt ns) :=
  if_pos ⟨dI_showable h, dI_nodict ns, by show (dI ns).depth ≤ 60; rw [dI_depth]; decide, dI_shown h hl⟩
theorem eqO_ints (xs ys : List Int) : eqO xs ys = some (decide (xs = ys)) := by
  unfold eqO
  rw [if_pos ⟨shaped_ints xs, shaped_ints ys⟩]
  exact congrArg some (dI_eqv xs ys)
theorem isi_int (n : Int) : isiO n "int" = true := rfl
theorem isi_ib (n : Int) : isiO n "bool" = false := rfl
end PB

namespace PB
open PySem PySem.Spec PyProof.Rows L2
/-! ### rows as functions of the place; sums ahead of a place -/
abbrev rowF (ns : List Int) : Nat → Int := fun i => ns[i]!
def pre (a : Nat → Int) : Nat → Int
  | 0 => 0
  | i + 1 => pre a i + a i
theorem rowF_get {ns : List Int} {i : Nat} {n : Int} (h : ns[i]? = some n) : rowF ns i = n := getE_of h
theorem rowF_cons (x : Int) (ns : List Int) (i : Nat) : rowF (x :: ns) (i + 1) = rowF ns i := by
  show (x :: ns)[i + 1]! = ns[i]!
  rw [List.getElem!_eq_getElem?_getD, List.getElem!_eq_getElem?_getD, List.getElem?_cons_succ]
theorem pre_cons (x : Int) (ns : List Int) : ∀ i : Nat, pre (rowF (x :: ns)) (i + 1) = x + pre (rowF ns) i
  | 0 => by
    show 0 + (x :: ns)[0]! = x + 0
    rw [List.getElem!_eq_getElem?_getD]
    show 0 + x = x + 0
    omega
  | i + 1 => by
    rw [pre, pre_cons x ns i, rowF_cons, pre]
    omega
theorem pre_sum : ∀ (ns : List Int) (i : Nat), i ≤ ns.length → (ns.take i).sum = pre (rowF ns) i
  | _, 0, _ => by rw [List.take_zero]; rfl
  | [], i + 1, h => absurd h (Nat.not_succ_le_zero _)
  | x :: ns, i + 1, h => by
    rw [List.take_succ_cons, List.sum_cons, pre_sum ns i (by simpa using h), pre_cons]
theorem sum_all (ns : List Int) : ns.sum = pre (rowF ns) ns.length := by
  rw [← pre_sum ns ns.length (Nat.le_refl _), List.take_length]
theorem sum_part {ns : List Int} {i j : Nat} (h : i ≤ j) (hj : j ≤ ns.length) : ((ns.drop i).take (j - i)).sum = pre (rowF ns) j - pre (rowF ns) i := by
  have e : ns.take j = ns.take i ++ (ns.drop i).take (j - i) := by
    rw [← List.drop_take]
    have e2 := List.take_append_drop i (ns.take j)
    rw [List.take_take, Nat.min_eq_left h] at e2
    exact e2.symm
  have e3 := congrArg List.sum e
  rw [List.sum_append, pre_sum ns j hj, pre_sum ns i (by omega)] at e3
  omega
theorem pre_mono {a : Nat → Int} {n : Nat} (h : ∀ i, i < n → 0 ≤ a i) : ∀ {i j : Nat}, i ≤ j → j ≤ n → pre a i ≤ pre a j := by
  intro i j hij
  induction hij with
  | refl => intro _; exact Int.le_refl _
  | @step m hm ih =>
    intro hj
    have := ih (by omega)
    have := h m (by omega)
    show pre a i ≤ pre a m + a m
    omega
theorem rowF_mem {ns : List Int} {i : Nat} (h : i < ns.length) : rowF ns i ∈ ns := by
  show ns[i]! ∈ ns
  rw [List.getElem!_eq_getElem?_getD, List.getElem?_eq_getElem h]
  exact List.getElem_mem _
theorem rowF_nonneg {ns : List Int} (h : ∀ n ∈ ns, 0 ≤ n) : ∀ i, i < ns.length → 0 ≤ rowF ns i := fun i hi => h _ (rowF_mem hi)

/-! ### the cut whose pieces are each as long as a bound lets -/
/-- behind i numbers: the places so far, the sum of the piece at hand -/
def gS (a : Nat → Int) (b : Int) : Nat → Option (List Int × Int)
  | 0 => some ([], 0)
  | i + 1 => match gS a b i with
    | none => none
    | some (c, t) => if a i > b then none else if t + a i > b then some (c ++ [(i : Int)], a i) else some (c, t + a i)
def lcut (ns : List Int) (b : Int) : Option (List Int) := (gS (rowF ns) b ns.length).map (·.1)
def few (ns : List Int) (b : Int) : Option Int := (lcut ns b).map fun c => (c.length : Int) + 1
theorem gS_none {a : Nat → Int} {b : Int} {i j : Nat} (h : gS a b i = none) (hij : i ≤ j) : gS a b j = none := by
  induction hij with
  | refl => exact h
  | @step m hm ih => rw [gS, ih]
theorem gS_small {a : Nat → Int} {b : Int} : ∀ {i : Nat} {c : List Int} {t : Int}, gS a b i = some (c, t) → ∀ j, j < i → a j ≤ b
  | 0, _, _, _, _, hj => absurd hj (Nat.not_lt_zero _)
  | i + 1, c, t, h, j, hj => by
    rw [gS] at h
    cases e : gS a b i with
    | none =>
      rw [e] at h
      cases h
    | some p =>
      obtain ⟨c0, t0⟩ := p
      rw [e] at h
      dsimp only at h
      by_cases h1 : a i > b
      · rw [if_pos h1] at h
        cases h
      · rcases Nat.lt_succ_iff_lt_or_eq.mp hj with hj | hj
        · exact gS_small e j hj
        · rw [hj]
          omega
theorem gS_len {a : Nat → Int} {b : Int} : ∀ {i : Nat} {c : List Int} {t : Int}, gS a b i = some (c, t) → c.length ≤ i
  | 0, c, t, h => by
    rw [gS] at h
    cases h
    exact Nat.le_refl _
  | i + 1, c, t, h => by
    rw [gS] at h
    cases e : gS a b i with
    | none =>
      rw [e] at h
      cases h
    | some p =>
      obtain ⟨c0, t0⟩ := p
      rw [e] at h
      have ih := gS_len e
      dsimp only at h
      split at h
      · cases h
      · split at h
        · cases h
          rw [List.length_append, List.length_singleton]
          omega
        · cases h
          omega
/-- how many pieces so far -/
def cntS (a : Nat → Int) (b : Int) (e : Nat) : Int := match gS a b e with
  | none => 0
  | some (c, _) => if e = 0 then 0 else (c.length : Int) + 1
theorem cntS_zero (a : Nat → Int) (b : Int) : cntS a b 0 = 0 := rfl
theorem cntS_some {a : Nat → Int} {b : Int} {e : Nat} {c : List Int} {t : Int} (h : gS a b e = some (c, t)) (he : e ≠ 0) : cntS a b e = (c.length : Int) + 1 := by
  unfold cntS
  rw [h]
  exact if_neg he
theorem gS_opt {a : Nat → Int} {b : Int} {n : Nat} (hn : ∀ i, i < n → 0 ≤ a i) : ∀ (e : Nat) (c : List Int) (t : Int), e ≤ n → gS a b e = some (c, t) →
    (e ≠ 0 → t ≤ b ∧ ∃ j, j < e ∧ pre a e - pre a j = t ∧ cntS a b e = cntS a b j + 1) ∧
    (e = 0 → t = 0) ∧
    (∀ j, j ≤ e → pre a e - pre a j < t → cntS a b e ≤ cntS a b j) ∧
    (∀ j, j < e → pre a e - pre a j ≤ b → cntS a b e ≤ cntS a b j + 1) := by
  intro e
  induction e with
  | zero =>
    intro c t _ h
    rw [gS] at h
    cases h
    refine ⟨fun h => absurd rfl h, fun _ => rfl, fun j hj hlt => ?_, fun j hj => absurd hj (Nat.not_lt_zero _)⟩
    have e : j = 0 := by omega
    subst e
    omega
  | succ e ih =>
    intro c t he h
    have h0 := h
    rw [gS] at h
    cases eg : gS a b e with
    | none =>
      rw [eg] at h
      cases h
    | some p =>
      obtain ⟨c0, t0⟩ := p
      rw [eg] at h
      dsimp only at h
      obtain ⟨ihA, ih0, ihB, ihC⟩ := ih c0 t0 (by omega) eg
      have hae := hn e (by omega)
      have hp : pre a (e + 1) = pre a e + a e := rfl
      by_cases h1 : a e > b
      · rw [if_pos h1] at h
        cases h
      · rw [if_neg h1] at h
        by_cases h2 : t0 + a e > b
        · rw [if_pos h2] at h
          cases h
          have e0 : e ≠ 0 := fun z => by
            have := ih0 z
            omega
          have hc : cntS a b (e + 1) = cntS a b e + 1 := by
            rw [cntS_some h0 (by omega), cntS_some eg e0, List.length_append, List.length_singleton]
            omega
          refine ⟨fun _ => ⟨by omega, e, by omega, by omega, hc⟩, fun z => by omega, fun j hj hlt => ?_, fun j hj hle => ?_⟩
          · by_cases hj2 : j = e + 1
            · rw [hj2]
              exact Int.le_refl _
            · have := pre_mono hn (show j ≤ e by omega) (by omega)
              omega
          · by_cases hj2 : j = e
            · rw [hj2]
              omega
            · have := ihB j (by omega) (by omega)
              omega
        · rw [if_neg h2] at h
          cases h
          by_cases e0 : e = 0
          · subst e0
            have := ih0 rfl
            subst this
            have hc : cntS a b 1 = 1 := by
              rw [cntS_some h0 (by omega)]
              rw [gS] at eg
              cases eg
              rfl
            refine ⟨fun _ => ⟨by omega, 0, by omega, by omega, by rw [hc, cntS_zero]; rfl⟩, fun z => by omega, fun j hj hlt => ?_, fun j hj hle => ?_⟩
            · by_cases hj2 : j = 1
              · rw [hj2]
                exact Int.le_refl _
              · have e : j = 0 := by omega
                subst e
                omega
            · have e : j = 0 := by omega
              subst e
              rw [hc, cntS_zero]
              decide
          · have hc : cntS a b (e + 1) = cntS a b e := by
              rw [cntS_some h0 (by omega), cntS_some eg e0]
            obtain ⟨hb, j0, hj0, hj1, hj2⟩ := ihA e0
            refine ⟨fun _ => ⟨by omega, j0, by omega, by omega, by omega⟩, fun z => by omega, fun j hj hlt => ?_, fun j hj hle => ?_⟩
            · by_cases hj2 : j = e + 1
              · rw [hj2]
                exact Int.le_refl _
              · have := ihB j (by omega) (by omega)
                omega
            · by_cases hj2 : j = e
              · rw [hj2]
                omega
              · have := ihC j (by omega) (by omega)
                omega
/-- the fewest pieces of the first e numbers, None where there are none such -/
def fewS (a : Nat → Int) (b : Int) (e : Nat) : Option Int := if e = 0 then some 0 else (gS a b e).map fun p => (p.1.length : Int) + 1
theorem fewS_cnt {a : Nat → Int} {b : Int} {e : Nat} {m : Int} (h : fewS a b e = some m) : m = cntS a b e ∧ ∃ p, gS a b e = some p := by
  unfold fewS at h
  by_cases e0 : e = 0
  · subst e0
    rw [if_pos rfl] at h
    cases h
    exact ⟨rfl, _, rfl⟩
  · rw [if_neg e0] at h
    cases eg : gS a b e with
    | none =>
      rw [eg] at h
      cases h
    | some p =>
      rw [eg] at h
      cases h
      obtain ⟨c, t⟩ := p
      exact ⟨(cntS_some eg e0).symm, _, rfl⟩
theorem fewS_of {a : Nat → Int} {b : Int} {e : Nat} {p : List Int × Int} (h : gS a b e = some p) : fewS a b e = some (cntS a b e) := by
  unfold fewS
  by_cases e0 : e = 0
  · subst e0
    rw [if_pos rfl, cntS_zero]
  · obtain ⟨c, t⟩ := p
    rw [if_neg e0, cntS_some h e0, h]
    rfl
/-- THE LAW of it: what a table over all ends asks -/
theorem fewS_next {a : Nat → Int} {b : Int} {n e : Nat} (hn : ∀ i, i < n → 0 ≤ a i) (he : e + 1 ≤ n) :
    (∀ m, fewS a b (e + 1) = some m → (∃ j k, j < e + 1 ∧ pre a (e + 1) - pre a j ≤ b ∧ fewS a b j = some k ∧ m = k + 1) ∧ ∀ j k, j < e + 1 → pre a (e + 1) - pre a j ≤ b → fewS a b j = some k → m ≤ k + 1) ∧
    (fewS a b (e + 1) = none → ∀ j k, j < e + 1 → pre a (e + 1) - pre a j ≤ b → fewS a b j = some k → False) := by
  constructor
  · intro m hm
    obtain ⟨rfl, ⟨c, t⟩, hg⟩ := fewS_cnt hm
    obtain ⟨hA, _, _, hC⟩ := gS_opt hn (e + 1) c t he hg
    refine ⟨?_, fun j k hj hle hk => ?_⟩
    · obtain ⟨hb, j, hj, hj1, hj2⟩ := hA (by omega)
      have hs : ∃ p, gS a b j = some p := by
        cases q : gS a b j with
        | none =>
          rw [gS_none q (show j ≤ e + 1 by omega)] at hg
          cases hg
        | some p => exact ⟨p, rfl⟩
      obtain ⟨p, hp⟩ := hs
      exact ⟨j, _, hj, by omega, fewS_of hp, hj2⟩
    · obtain ⟨rfl, _⟩ := fewS_cnt hk
      exact hC j hj hle
  · intro hnone j k hj hle hk
    obtain ⟨_, ⟨c, t⟩, hg⟩ := fewS_cnt hk
    have hne : gS a b (e + 1) = none := by
      unfold fewS at hnone
      rw [if_neg (by omega)] at hnone
      cases q : gS a b (e + 1) with
      | none => rfl
      | some p =>
        rw [q] at hnone
        cases hnone
    -- a number above the bound stands at j or behind it
    have key : ∀ m, j ≤ m → m ≤ e + 1 → (∀ i, j ≤ i → i < m → a i ≤ b) → ∃ p, gS a b m = some p := by
      intro m hjm
      induction hjm with
      | refl => exact fun _ _ => ⟨_, hg⟩
      | @step m hm ih =>
        intro hme hall
        obtain ⟨⟨c1, t1⟩, h1⟩ := ih (by omega) (fun i h2 h3 => hall i h2 (by omega))
        rw [gS, h1]
        dsimp only
        rw [if_neg (by have := hall m hm (by omega); omega)]
        split <;> exact ⟨_, rfl⟩
    have small : ∀ i, j ≤ i → i < e + 1 → a i ≤ b := fun i h2 h3 => by
      have m1 := pre_mono hn (show j ≤ i by omega) (show i ≤ n by omega)
      have m2 := pre_mono hn (show i + 1 ≤ e + 1 by omega) (show e + 1 ≤ n by omega)
      have : pre a (i + 1) = pre a i + a i := rfl
      omega
    obtain ⟨p, hp⟩ := key (e + 1) (by omega) (Nat.le_refl _) small
    rw [hne] at hp
    cases hp
/-! ### the least of what is gone through, the first such kept -/
def optMin (o c : Option Int) : Option Int := match c with
  | none => o
  | some m => match o with
    | none => some m
    | some k => if m < k then some m else some k
/-- from behind: c (hi - 1), c (hi - 2), .. -/
def bestI (c : Nat → Option Int) (hi : Nat) : Nat → Option Int
  | 0 => none
  | j + 1 => optMin (bestI c hi j) (c (hi - 1 - j))
theorem bestI_spec (c : Nat → Option Int) (hi : Nat) : ∀ j, j ≤ hi → (∀ m, bestI c hi j = some m → (∃ i, hi - j ≤ i ∧ i < hi ∧ c i = some m) ∧ ∀ i m', hi - j ≤ i → i < hi → c i = some m' → m ≤ m') ∧
    (bestI c hi j = none → ∀ i, hi - j ≤ i → i < hi → c i = none)
  | 0, _ => ⟨(fun m h => nomatch h), fun _ i h1 h2 => by omega⟩
  | j + 1, hj => by
    obtain ⟨ih1, ih2⟩ := bestI_spec c hi j (by omega)
    have cov : ∀ i, hi - (j + 1) ≤ i → i < hi → i = hi - 1 - j ∨ (hi - j ≤ i) := fun i h1 h2 => by omega
    rw [bestI]
    cases ec : c (hi - 1 - j) with
    | none =>
      refine ⟨fun m h => ?_, fun h i h1 h2 => ?_⟩
      · obtain ⟨⟨i, a1, a2, a3⟩, a4⟩ := ih1 m h
        refine ⟨⟨i, by omega, a2, a3⟩, fun i m' h1 h2 h3 => ?_⟩
        rcases cov i h1 h2 with rfl | h1
        · rw [ec] at h3
          cases h3
        · exact a4 i m' h1 h2 h3
      · rcases cov i h1 h2 with rfl | h1
        · exact ec
        · exact ih2 h i h1 h2
    | some x =>
      cases eb : bestI c hi j with
      | none =>
        refine ⟨fun m h => ?_, fun h => ?_⟩
        · cases h
          refine ⟨⟨_, by omega, by omega, ec⟩, fun i m' h1 h2 h3 => ?_⟩
          rcases cov i h1 h2 with rfl | h1
          · rw [ec] at h3
            cases h3
            exact Int.le_refl _
          · rw [ih2 eb i h1 h2] at h3
            cases h3
        · cases h
      | some y =>
        obtain ⟨⟨i0, a1, a2, a3⟩, a4⟩ := ih1 y eb
        show (∀ m, (if x < y then some x else some y) = some m → _) ∧ ((if x < y then some x else some y) = none → _)
        by_cases hxy : x < y
        · rw [if_pos hxy]
          refine ⟨fun m h => ?_, (fun h => nomatch h)⟩
          cases h
          refine ⟨⟨_, by omega, by omega, ec⟩, fun i m' h1 h2 h3 => ?_⟩
          rcases cov i h1 h2 with rfl | h1
          · rw [ec] at h3
            cases h3
            exact Int.le_refl _
          · have := a4 i m' h1 h2 h3
            omega
        · rw [if_neg hxy]
          refine ⟨fun m h => ?_, (fun h => nomatch h)⟩
          cases h
          refine ⟨⟨i0, by omega, a2, a3⟩, fun i m' h1 h2 h3 => ?_⟩
          rcases cov i h1 h2 with rfl | h1
          · rw [ec] at h3
            cases h3
            omega
          · exact a4 i m' h1 h2 h3
/-- so many ahead, with a sum of at most the bound behind -/
def fewC (a : Nat → Int) (b : Int) (e j : Nat) : Option Int := if pre a e - pre a j ≤ b then (fewS a b j).map (· + 1) else none
theorem fewC_some {a : Nat → Int} {b m : Int} {e j : Nat} (h : fewC a b e j = some m) : pre a e - pre a j ≤ b ∧ ∃ k, fewS a b j = some k ∧ m = k + 1 := by
  unfold fewC at h
  split at h
  · rename_i hle
    cases hf : fewS a b j with
    | none =>
      rw [hf] at h
      cases h
    | some k =>
      rw [hf] at h
      cases h
      exact ⟨hle, k, rfl, rfl⟩
  · cases h
theorem few_best {a : Nat → Int} {b : Int} {n e : Nat} (hn : ∀ i, i < n → 0 ≤ a i) (he : e + 1 ≤ n) : bestI (fewC a b (e + 1)) (e + 1) (e + 1) = fewS a b (e + 1) := by
  obtain ⟨s1, s2⟩ := bestI_spec (fewC a b (e + 1)) (e + 1) (e + 1) (Nat.le_refl _)
  obtain ⟨t1, t2⟩ := fewS_next (b := b) hn he
  cases h1 : fewS a b (e + 1) with
  | none =>
    cases h2 : bestI (fewC a b (e + 1)) (e + 1) (e + 1) with
    | none => rfl
    | some m =>
      obtain ⟨⟨i, _, hi, hc⟩, _⟩ := s1 m h2
      obtain ⟨h3, k, h4, _⟩ := fewC_some hc
      exact absurd (t2 h1 i k hi h3 h4) id
  | some m =>
    obtain ⟨⟨j, k, hj, h3, h4, h5⟩, hle⟩ := t1 m h1
    have hc : fewC a b (e + 1) j = some m := by
      unfold fewC
      rw [if_pos h3, h4, h5]
      rfl
    cases h2 : bestI (fewC a b (e + 1)) (e + 1) (e + 1) with
    | none =>
      rw [s2 h2 j (by omega) hj] at hc
      cases hc
    | some x =>
      obtain ⟨⟨i, _, hi, hcx⟩, hmin⟩ := s1 x h2
      have := hmin j m (by omega) hj hc
      obtain ⟨h6, k', h7, h8⟩ := fewC_some hcx
      have := hle i k' hi h6 h7
      congr 1
      omega
def optV : Option Int → V
  | none => .non
  | some i => .int i
/-- a table of what is told for each beginning -/
def tab (f : Nat → Option Int) (e : Nat) : List V := (List.range e).map fun i => optV (f i)
theorem tab_succ (f : Nat → Option Int) (e : Nat) : tab f e ++ [optV (f e)] = tab f (e + 1) := by
  unfold tab
  rw [List.range_succ, List.map_append]
  rfl
theorem tab_len (f : Nat → Option Int) (e : Nat) : (tab f e).length = e := by
  unfold tab
  rw [List.length_map, List.length_range]
theorem tab_at {f : Nat → Option Int} {e : Nat} {i : Int} (h0 : 0 ≤ i) (h1 : i < e) : atI (tab f e) i = some (optV (f i.toNat)) := by
  unfold tab
  rw [atI_map h0 (by rw [List.length_range]; exact h1), List.getElem!_eq_getElem?_getD, List.getElem?_range (by omega)]
  rfl
theorem tab_last (f : Nat → Option Int) (e : Nat) : atI (tab f (e + 1)) (-1) = some (optV (f e)) := by
  rw [← tab_succ]
  exact atI_last _ _
theorem few_eq {ns : List Int} {b : Int} (h : 1 ≤ ns.length) : few ns b = fewS (rowF ns) b ns.length := by
  unfold few lcut fewS
  rw [if_neg (by omega), Option.map_map]
  rfl
theorem few_le {ns : List Int} {b m : Int} (h : few ns b = some m) : 1 ≤ m ∧ m ≤ ns.length + 1 := by
  unfold few lcut at h
  cases e : gS (rowF ns) b ns.length with
  | none =>
    rw [e] at h
    cases h
  | some p =>
    obtain ⟨c, t⟩ := p
    rw [e] at h
    cases h
    have := gS_len e
    show 1 ≤ (c.length : Int) + 1 ∧ (c.length : Int) + 1 ≤ _
    omega
def dO : Option Int → PyData
  | none => .none
  | some i => .int i
theorem sd_opt {K : PySem.W.Frag} {H : Hp} {o : Option Int} (h : ∀ m, o = some m → m.natAbs < 2 ^ 64) : SameD K H (optV o) (dO o) false := by
  cases o with
  | none => exact sd_non
  | some m => exact sd_int (h m rfl)
theorem opt_of {o : Option Int} {x : V} (h1 : o = none → x = .non) (h2 : ∀ m, o = some m → x = .int m) : x = optV o := by
  cases o with
  | none => exact h1 rfl
  | some m => exact h2 m rfl
theorem gS_all {a : Nat → Int} {b : Int} : ∀ {m : Nat}, (∀ i, i < m → a i ≤ b) → ∃ p, gS a b m = some p
  | 0, _ => ⟨_, rfl⟩
  | m + 1, h => by
    obtain ⟨⟨c, t⟩, h1⟩ := gS_all (m := m) fun i hi => h i (by omega)
    rw [gS, h1]
    dsimp only
    rw [if_neg (by have := h m (by omega); omega)]
    split <;> exact ⟨_, rfl⟩
theorem lcut_none {ns : List Int} {b : Int} (h : ns ≠ []) : lcut ns b = none ↔ mxI ns > b := by
  unfold lcut
  rw [Option.map_eq_none_iff]
  constructor
  · intro e
    by_cases hb : mxI ns > b
    · exact hb
    · obtain ⟨p, hp⟩ := gS_all (a := rowF ns) (b := b) (m := ns.length) fun i hi => by
        have := mxI_le (rowF_mem hi)
        omega
      rw [e] at hp
      cases hp
  · intro hb
    cases e : gS (rowF ns) b ns.length with
    | none => rfl
    | some p =>
      obtain ⟨i, hi, e2⟩ := List.mem_iff_getElem.mp (mxI_mem h)
      have := gS_small e i hi
      rw [rowF_get (List.getElem?_eq_getElem hi), e2] at this
      omega
theorem gS_go {a : Nat → Int} {b t : Int} {i : Nat} {c : List Int} (h : gS a b i = some (c, t)) (h1 : a i ≤ b) (h2 : t + a i ≤ b) : gS a b (i + 1) = some (c, t + a i) := by
  rw [gS, h]
  dsimp only
  rw [if_neg (by omega), if_neg (by omega)]
theorem gS_new {a : Nat → Int} {b t : Int} {i : Nat} {c : List Int} (h : gS a b i = some (c, t)) (h1 : a i ≤ b) (h2 : b < t + a i) : gS a b (i + 1) = some (c ++ [(i : Int)], a i) := by
  rw [gS, h]
  dsimp only
  rw [if_neg (by omega), if_pos (by omega)]
theorem cutI_init (ns : List Int) : cutI ns none (some (-1)) = ns.dropLast := by
  unfold cutI
  rw [List.dropLast_eq_take, show HT.sIx ns.length 0 none = 0 from rfl, List.drop_zero, Nat.sub_zero]
  congr 1
  unfold HT.sIx
  dsimp only
  simp only [show ((-1 : Int) < 0) from by decide, if_true]
  omega
theorem sum_cut {ns : List Int} {i j : Int} (h0 : 0 ≤ i) (h1 : i ≤ j) (h2 : j ≤ ns.length) : (cutI ns (some i) (some j)).sum = pre (rowF ns) j.toNat - pre (rowF ns) i.toNat := by
  rw [cutI_mid ns h0 h1 h2, sum_part (by omega) (by omega)]
theorem gS_mem {a : Nat → Int} {b : Int} : ∀ {i : Nat} {c : List Int} {t : Int}, gS a b i = some (c, t) → ∀ x ∈ c, 0 ≤ x ∧ x < i
  | 0, c, t, h, x, hx => by
    rw [gS] at h
    cases h
    cases hx
  | i + 1, c, t, h, x, hx => by
    rw [gS] at h
    cases e : gS a b i with
    | none =>
      rw [e] at h
      cases h
    | some p =>
      obtain ⟨c0, t0⟩ := p
      rw [e] at h
      have ih := gS_mem e
      dsimp only at h
      split at h
      · cases h
      · split at h
        · cases h
          rcases List.mem_append.mp hx with hx | hx
          · have := ih x hx
            omega
          · rw [List.mem_singleton.mp hx]
            omega
        · cases h
          have := ih x hx
          omega
theorem lcut_mem {ns c : List Int} {b : Int} (h : lcut ns b = some c) : c.length ≤ ns.length ∧ ∀ x ∈ c, 0 ≤ x ∧ x < ns.length := by
  unfold lcut at h
  cases e : gS (rowF ns) b ns.length with
  | none =>
    rw [e] at h
    cases h
  | some p =>
    obtain ⟨c0, t0⟩ := p
    rw [e] at h
    cases h
    exact ⟨gS_len e, gS_mem e⟩
end PB

namespace PB
open PySem PySem.Spec PyProof.Rows L2
/-! ### sums over places -/
def sumN (f : Nat → Int) : Nat → Int
  | 0 => 0
  | n + 1 => sumN f n + f n
theorem sumN_congr {f g : Nat → Int} : ∀ {n : Nat}, (∀ i, i < n → f i = g i) → sumN f n = sumN g n
  | 0, _ => rfl
  | n + 1, h => by rw [sumN, sumN, sumN_congr fun i hi => h i (by omega), h n (by omega)]
theorem sumN_zero {f : Nat → Int} {n : Nat} (h : ∀ i, i < n → f i = 0) : sumN f n = 0 := by
  induction n with
  | zero => rfl
  | succ n ih => rw [sumN, ih fun i hi => h i (by omega), h n (by omega)]; rfl
theorem sumN_add (f g : Nat → Int) : ∀ n, sumN (fun i => f i + g i) n = sumN f n + sumN g n
  | 0 => rfl
  | n + 1 => by
    rw [sumN, sumN, sumN, sumN_add f g n]
    omega
theorem sumN_mul (f : Nat → Int) (c : Int) : ∀ n, sumN (fun i => f i * c) n = sumN f n * c
  | 0 => by
    show 0 = 0 * c
    rw [Int.zero_mul]
  | n + 1 => by rw [sumN, sumN, sumN_mul f c n, Int.add_mul]
theorem sumN_lmul (f : Nat → Int) (c : Int) : ∀ n, sumN (fun i => c * f i) n = c * sumN f n
  | 0 => by
    show 0 = c * 0
    rw [Int.mul_zero]
  | n + 1 => by rw [sumN, sumN, sumN_lmul f c n, Int.mul_add]
theorem sumN_swap (f : Nat → Nat → Int) (m : Nat) : ∀ n, sumN (fun i => sumN (fun j => f i j) m) n = sumN (fun j => sumN (fun i => f i j) n) m
  | 0 => (sumN_zero fun i _ => rfl).symm
  | n + 1 => by
    rw [sumN, sumN_swap f m n, ← sumN_add]
    rfl
theorem sumN_one {f : Nat → Int} {n k : Nat} (hk : k < n) (h : ∀ i, i < n → i ≠ k → f i = 0) : sumN f n = f k := by
  induction n with
  | zero => omega
  | succ n ih =>
    rw [sumN]
    by_cases e : k = n
    · subst e
      rw [sumN_zero fun i hi => h i (by omega) (by omega), Int.zero_add]
    · rw [ih (by omega) fun i hi hne => h i (by omega) hne, h n (by omega) (fun z => e z.symm), Int.add_zero]
/-! ### cuts with sums between bounds, from a place on; up to a place -/
def okW (a : Nat → Int) (lo hi : Int) (b e : Nat) : Prop := b < e ∧ lo ≤ pre a e - pre a b ∧ pre a e - pre a b ≤ hi
instance (a : Nat → Int) (lo hi : Int) (b e : Nat) : Decidable (okW a lo hi b e) := inferInstanceAs (Decidable (_ ∧ _))
def wB (a : Nat → Int) (lo hi : Int) (n : Nat) : Nat → Nat → Int
  | 0, b => if b = n then 1 else 0
  | k + 1, b => sumN (fun e => if okW a lo hi b e then wB a lo hi n k e else 0) (n + 1)
def wF (a : Nat → Int) (lo hi : Int) (n : Nat) : Nat → Nat → Int
  | 0, e => if e = 0 then 1 else 0
  | k + 1, e => sumN (fun b => if okW a lo hi b e then wF a lo hi n k b else 0) (n + 1)
theorem w_step (a : Nat → Int) (lo hi : Int) (n j k : Nat) : sumN (fun b => wF a lo hi n j b * wB a lo hi n (k + 1) b) (n + 1) = sumN (fun e => wF a lo hi n (j + 1) e * wB a lo hi n k e) (n + 1) := by
  have h1 : ∀ b, wF a lo hi n j b * wB a lo hi n (k + 1) b = sumN (fun e => wF a lo hi n j b * (if okW a lo hi b e then wB a lo hi n k e else 0)) (n + 1) := fun b => (sumN_lmul _ _ _).symm
  have h2 : ∀ e, wF a lo hi n (j + 1) e * wB a lo hi n k e = sumN (fun b => (if okW a lo hi b e then wF a lo hi n j b else 0) * wB a lo hi n k e) (n + 1) := fun e => (sumN_mul _ _ _).symm
  rw [sumN_congr fun b _ => h1 b, sumN_congr fun e _ => h2 e, sumN_swap]
  refine sumN_congr fun e _ => sumN_congr fun b _ => ?_
  split
  · rfl
  · rw [Int.mul_zero, Int.zero_mul]
theorem w_move (a : Nat → Int) (lo hi : Int) (n : Nat) : ∀ k j, sumN (fun b => wF a lo hi n j b * wB a lo hi n k b) (n + 1) = sumN (fun b => wF a lo hi n (j + k) b * wB a lo hi n 0 b) (n + 1)
  | 0, j => rfl
  | k + 1, j => by
    rw [w_step, w_move a lo hi n k (j + 1), show j + 1 + k = j + (k + 1) by omega]
/-- THE LAW: counted from behind as counted from the beginning -/
theorem w_same (a : Nat → Int) (lo hi : Int) (n k : Nat) : wB a lo hi n k 0 = wF a lo hi n k n := by
  have h := w_move a lo hi n k 0
  rw [Nat.zero_add, sumN_one (k := 0) (by omega) (fun i _ hi0 => by rw [wF, if_neg hi0, Int.zero_mul]), sumN_one (k := n) (by omega) (fun i _ hin => by rw [wB, if_neg hin, Int.mul_zero]), show wF a lo hi n 0 0 = 1 from rfl, show wB a lo hi n 0 n = 1 from if_pos rfl, Int.one_mul, Int.mul_one] at h
  exact h
/-! ### tables of ints -/
def tabI (f : Nat → Int) (e : Nat) : List Int := (List.range e).map f
theorem tabI_succ (f : Nat → Int) (e : Nat) : tabI f e ++ [f e] = tabI f (e + 1) := by
  unfold tabI
  rw [List.range_succ, List.map_append]
  rfl
theorem tabI_len (f : Nat → Int) (e : Nat) : (tabI f e).length = e := by
  unfold tabI
  rw [List.length_map, List.length_range]
theorem tabI_get (f : Nat → Int) (e k : Nat) : (tabI f e)[k]? = if k < e then some (f k) else none := by
  unfold tabI
  rw [List.getElem?_map]
  by_cases h : k < e
  · rw [if_pos h, List.getElem?_range h]
    rfl
  · rw [if_neg h, List.getElem?_eq_none (by rw [List.length_range]; omega)]
    rfl
theorem tabI_e {f : Nat → Int} {e k : Nat} (h : k < e) : (tabI f e)[k]! = f k := getE_of (by rw [tabI_get, if_pos h])
theorem tabI_at {f : Nat → Int} {e : Nat} {i : Int} (h0 : 0 ≤ i) (h1 : i < e) : atI ((tabI f e).map V.int) i = some (.int (f i.toNat)) := by
  rw [atI_map h0 (by rw [tabI_len]; exact h1), tabI_e (by omega)]
theorem tabI_last (f : Nat → Int) (e : Nat) : atI ((tabI f (e + 1)).map V.int) (-1) = some (.int (f e)) := by
  rw [← tabI_succ, List.map_append]
  exact atI_last _ _
theorem tabI_set {f : Nat → Int} {e i : Nat} {v : Int} (h : i < e) : (tabI f e).set i v = tabI (fun j => if j = i then v else f j) e := by
  refine List.ext_getElem? fun k => ?_
  rw [List.getElem?_set, tabI_get, tabI_get, tabI_len]
  by_cases e2 : i = k
  · rw [if_pos e2, if_pos h, if_pos (by omega), if_pos e2.symm]
  · rw [if_neg e2, if_neg (show ¬ k = i from fun z => e2 z.symm)]
theorem tabI_congr {f g : Nat → Int} {e : Nat} (h : ∀ j, j < e → f j = g j) : tabI f e = tabI g e := by
  unfold tabI
  exact List.map_congr_left fun i hi => by rw [h i (List.mem_range.mp hi)]
theorem tabI_const (c : Int) (e : Nat) : List.replicate e c = tabI (fun _ => c) e := by
  refine List.ext_getElem? fun k => ?_
  rw [tabI_get, List.getElem?_replicate]
theorem sum_tabI (f : Nat → Int) : ∀ e, (tabI f e).sum = sumN f e
  | 0 => rfl
  | e + 1 => by
    rw [← tabI_succ, List.sum_append, sum_tabI f e, sumN]
    show _ + (f e + 0) = _
    rw [Int.add_zero]
/-- the ends gone through from a place, that fit -/
def endsL (a : Nat → Int) (lo hi : Int) (beg j : Nat) : List Int := ((List.range j).filter fun i => decide (okW a lo hi beg (beg + 1 + i))).map fun (i : Nat) => (beg : Int) + 1 + (i : Int)
theorem endsL_yes {a : Nat → Int} {lo hi : Int} {beg j : Nat} (h : okW a lo hi beg (beg + 1 + j)) : endsL a lo hi beg (j + 1) = endsL a lo hi beg j ++ [(beg : Int) + 1 + (j : Int)] := by
  unfold endsL
  rw [List.range_succ, List.filter_append, List.map_append]
  congr 1
  rw [List.filter_cons, if_pos (decide_eq_true h)]
  rfl
theorem endsL_no {a : Nat → Int} {lo hi : Int} {beg j : Nat} (h : ¬ okW a lo hi beg (beg + 1 + j)) : endsL a lo hi beg (j + 1) = endsL a lo hi beg j := by
  unfold endsL
  rw [List.range_succ, List.filter_append, List.filter_cons, if_neg (by rw [decide_eq_true_eq]; exact h), List.filter_nil, List.append_nil]
theorem endsL_mem {a : Nat → Int} {lo hi : Int} {beg j : Nat} {x : Int} (h : x ∈ endsL a lo hi beg j) : 0 ≤ x ∧ x ≤ beg + j := by
  unfold endsL at h
  obtain ⟨i, hi, rfl⟩ := List.mem_map.mp h
  have := List.mem_range.mp (List.mem_filter.mp hi).1
  omega
theorem endsL_len (a : Nat → Int) (lo hi : Int) (beg j : Nat) : (endsL a lo hi beg j).length ≤ j := by
  unfold endsL
  rw [List.length_map]
  exact Nat.le_trans (List.length_filter_le _ _) (by rw [List.length_range]; exact Nat.le_refl _)
theorem endsL_sum (a : Nat → Int) (lo hi : Int) (beg : Nat) (f : Nat → Int) : ∀ j, ((endsL a lo hi beg j).map fun x => f x.toNat).sum = sumN (fun e => if okW a lo hi beg e then f e else 0) (beg + 1 + j)
  | 0 => by
    rw [sumN_zero fun i h => if_neg fun z => by
      have := z.1
      omega]
    rfl
  | j + 1 => by
    rw [← Nat.add_assoc, sumN, ← endsL_sum a lo hi beg f j]
    by_cases h : okW a lo hi beg (beg + 1 + j)
    · rw [endsL_yes h, if_pos h, List.map_append, List.sum_append]
      show _ + (f ((beg : Int) + 1 + (j : Int)).toNat + 0) = _
      rw [show ((beg : Int) + 1 + (j : Int)).toNat = beg + 1 + j by omega, Int.add_zero]
    · rw [endsL_no h, if_neg h, Int.add_zero]
theorem wB_start (a : Nat → Int) (lo hi : Int) (n : Nat) : List.replicate n 0 ++ [1] = tabI (wB a lo hi n 0) (n + 1) := by
  rw [← tabI_succ]
  congr 1
  · rw [tabI_const]
    exact tabI_congr fun j hj => (if_neg (by omega)).symm
  · rw [show wB a lo hi n 0 n = 1 from if_pos rfl]
theorem wB_next (a : Nat → Int) (lo hi : Int) (n k beg : Nat) (h : beg ≤ n) : ((endsL a lo hi beg (n - beg)).map fun x => wB a lo hi n k x.toNat).sum = wB a lo hi n (k + 1) beg := by
  rw [endsL_sum a lo hi beg (wB a lo hi n k), show beg + 1 + (n - beg) = n + 1 by omega]
  rfl
theorem wF_start (a : Nat → Int) (lo hi : Int) (n : Nat) : [1] ++ List.replicate n 0 = tabI (wF a lo hi n 0) (n + 1) := by
  refine List.ext_getElem? fun k => ?_
  rw [tabI_get]
  cases k with
  | zero => rfl
  | succ k =>
    show (List.replicate n (0 : Int))[k]? = _
    rw [List.getElem?_replicate]
    by_cases h : k < n
    · rw [if_pos h, if_pos (by omega)]
      rfl
    · rw [if_neg h, if_neg (by omega)]
/-- behind so many places -/
def gW (a : Nat → Int) (lo hi : Int) (n k b e : Nat) : Int := sumN (fun x => if okW a lo hi x e then wF a lo hi n k x else 0) b
def gW2 (a : Nat → Int) (lo hi : Int) (n k b j e : Nat) : Int := if b < e ∧ e ≤ b + j then gW a lo hi n k (b + 1) e else gW a lo hi n k b e
theorem gW_zero (a : Nat → Int) (lo hi : Int) (n k : Nat) : List.replicate (n + 1) 0 = tabI (gW a lo hi n k 0) (n + 1) := tabI_const 0 (n + 1)
theorem gW_all (a : Nat → Int) (lo hi : Int) (n k : Nat) : tabI (gW a lo hi n k n) (n + 1) = tabI (wF a lo hi n (k + 1)) (n + 1) := tabI_congr fun e he => by
  rw [wF, sumN, if_neg (fun z => by have := z.1; omega), Int.add_zero]
  rfl
theorem gW2_zero (a : Nat → Int) (lo hi : Int) (n k b : Nat) : tabI (gW2 a lo hi n k b 0) (n + 1) = tabI (gW a lo hi n k b) (n + 1) := tabI_congr fun e he => if_neg (by omega)
theorem gW2_all (a : Nat → Int) (lo hi : Int) (n k b : Nat) : tabI (gW2 a lo hi n k b (n - b)) (n + 1) = tabI (gW a lo hi n k (b + 1)) (n + 1) := tabI_congr fun e he => by
  unfold gW2
  by_cases h : b < e ∧ e ≤ b + (n - b)
  · rw [if_pos h]
  · rw [if_neg h]
    unfold gW
    rw [sumN, if_neg (fun z => by have := z.1; omega), Int.add_zero]
theorem gW2_at (a : Nat → Int) (lo hi : Int) (n k b j : Nat) : gW2 a lo hi n k b j (b + 1 + j) = gW a lo hi n k b (b + 1 + j) := if_neg (by omega)
theorem gW2_yes {a : Nat → Int} {lo hi : Int} {n k b j : Nat} (hj : b + 1 + j < n + 1) (h : okW a lo hi b (b + 1 + j)) : (tabI (gW2 a lo hi n k b j) (n + 1)).set (b + 1 + j) (gW a lo hi n k b (b + 1 + j) + wF a lo hi n k b) = tabI (gW2 a lo hi n k b (j + 1)) (n + 1) := by
  rw [tabI_set hj]
  refine tabI_congr fun e he => ?_
  unfold gW2
  by_cases e1 : e = b + 1 + j
  · rw [if_pos e1, if_pos (by omega), e1]
    show _ = sumN _ b + (if okW a lo hi b (b + 1 + j) then wF a lo hi n k b else 0)
    rw [if_pos h]
    rfl
  · rw [if_neg e1]
    by_cases h2 : b < e ∧ e ≤ b + j
    · rw [if_pos h2, if_pos (by omega)]
    · rw [if_neg h2, if_neg (by omega)]
theorem gW2_no {a : Nat → Int} {lo hi : Int} {n k b j : Nat} (h : ¬ okW a lo hi b (b + 1 + j)) : tabI (gW2 a lo hi n k b j) (n + 1) = tabI (gW2 a lo hi n k b (j + 1)) (n + 1) := tabI_congr fun e he => by
  unfold gW2
  by_cases e1 : e = b + 1 + j
  · rw [if_neg (by omega), if_pos (by omega), e1]
    show _ = sumN _ b + (if okW a lo hi b (b + 1 + j) then wF a lo hi n k b else 0)
    rw [if_neg h, Int.add_zero]
    rfl
  · by_cases h2 : b < e ∧ e ≤ b + j
    · rw [if_pos h2, if_pos (by omega)]
    · rw [if_neg h2, if_neg (by omega)]
end PB

namespace PB
open PySem PySem.Spec PyProof.Rows L2
/-! ### tables, plainly -/
theorem tabI_atP {f : Nat → Int} {e : Nat} {i : Int} (h0 : 0 ≤ i) (h1 : i < e) : atI (tabI f e) i = some (f i.toNat) := by
  refine atI_get (n := i.toNat) ?_ (by omega)
  rw [tabI_get, if_pos (by omega)]
theorem atI_lastP {α : Type} {xs : List α} {x : α} : atI (xs ++ [x]) (-1) = some x := atI_last xs x
theorem tabI_lastP (f : Nat → Int) (e : Nat) : atI (tabI f (e + 1)) (-1) = some (f e) := by
  rw [← tabI_succ]
  exact atI_lastP
/-- a table of anything -/
def tabA {α : Type} (f : Nat → α) (e : Nat) : List α := (List.range e).map f
section
variable {α : Type}
theorem tabA_succ (f : Nat → α) (e : Nat) : tabA f e ++ [f e] = tabA f (e + 1) := by
  unfold tabA
  rw [List.range_succ, List.map_append]
  rfl
theorem tabA_len (f : Nat → α) (e : Nat) : (tabA f e).length = e := by
  unfold tabA
  rw [List.length_map, List.length_range]
theorem tabA_get (f : Nat → α) (e k : Nat) : (tabA f e)[k]? = if k < e then some (f k) else none := by
  unfold tabA
  rw [List.getElem?_map]
  by_cases h : k < e
  · rw [if_pos h, List.getElem?_range h]
    rfl
  · rw [if_neg h, List.getElem?_eq_none (by rw [List.length_range]; omega)]
    rfl
theorem tabA_at {f : Nat → α} {e : Nat} {i : Int} (h0 : 0 ≤ i) (h1 : i < e) : atI (tabA f e) i = some (f i.toNat) := by
  refine atI_get (n := i.toNat) ?_ (by omega)
  rw [tabA_get, if_pos (by omega)]
theorem tabA_last (f : Nat → α) (e : Nat) : atI (tabA f (e + 1)) (-1) = some (f e) := by
  rw [← tabA_succ]
  exact atI_lastP
theorem tabA_congr {f g : Nat → α} {e : Nat} (h : ∀ j, j < e → f j = g j) : tabA f e = tabA g e := by
  unfold tabA
  exact List.map_congr_left fun j hj => h j (List.mem_range.mp hj)
theorem tabA_const (c : α) (e : Nat) : List.replicate e c = tabA (fun _ => c) e := by
  refine List.ext_getElem? fun k => ?_
  rw [tabA_get, List.getElem?_replicate]
theorem tabA_set {f : Nat → α} {e i : Nat} {v : α} (h : i < e) : (tabA f e).set i v = tabA (fun j => if j = i then v else f j) e := by
  refine List.ext_getElem? fun k => ?_
  rw [tabA_get, List.getElem?_set, tabA_len, tabA_get]
  by_cases hk : i = k
  · subst hk
    rw [if_pos rfl, if_pos h, if_pos h, if_pos rfl]
  · rw [if_neg hk]
    split
    · rw [if_neg (fun e => hk e.symm)]
    · rfl
theorem tabA_map {β : Type} (f : Nat → α) (g : α → β) (e : Nat) : (tabA f e).map g = tabA (fun i => g (f i)) e := by
  unfold tabA
  rw [List.map_map]
  rfl
end
theorem tabI_A (f : Nat → Int) (e : Nat) : tabI f e = tabA f e := rfl
/-! ### ranges, sums -/
theorem rangeF_tab : ∀ (n : Nat) (lo : Int), rangeF lo n = tabA (fun i => lo + (i : Nat)) n := fun n lo => by
  refine List.ext_getElem? fun k => ?_
  rw [tabA_get]
  by_cases h : k < n
  · rw [rangeF_at h, if_pos h]
  · rw [if_neg h, List.getElem?_eq_none (by rw [rangeF_len]; omega)]
theorem rangeF_snoc (n : Nat) (lo : Int) : rangeF lo (n + 1) = rangeF lo n ++ [lo + (n : Nat)] := by
  rw [rangeF_tab, rangeF_tab, tabA_succ]
theorem sum_rangeF (g : Int → Int) (lo : Int) : ∀ n, ((rangeF lo n).map g).sum = sumN (fun i => g (lo + (i : Nat))) n
  | 0 => rfl
  | n + 1 => by
    rw [rangeF_snoc, List.map_append, List.sum_append, sum_rangeF g lo n]
    simp [sumN]
theorem sum_filterF (p : Int → Bool) (g : Int → Int) (lo : Int) : ∀ n, (((rangeF lo n).filter p).map g).sum = sumN (fun i => if p (lo + (i : Nat)) = true then g (lo + (i : Nat)) else 0) n
  | 0 => rfl
  | n + 1 => by
    rw [rangeF_snoc, List.filter_append, List.map_append, List.sum_append, sum_filterF p g lo n, sumN]
    by_cases h : p (lo + (n : Nat)) = true
    · simp [List.filter, h]
    · simp [List.filter, h]
theorem sumN_shift {f : Nat → Int} {c : Nat} (h : ∀ i, i < c → f i = 0) : ∀ m, sumN f (c + m) = sumN (fun i => f (c + i)) m
  | 0 => sumN_zero h
  | m + 1 => by
    rw [← Nat.add_assoc, sumN, sumN_shift h m, sumN]
theorem sumN_ext {f g : Nat → Int} {n m : Nat} (e : n = m) (h : ∀ i, i < m → f i = g i) : sumN f n = sumN g m := by
  subst e
  exact sumN_congr h
end PB

namespace PB
open PySem PySem.Spec PyProof.Rows L2
/-! ### the cut whose pieces are each as short as a bound lets; the most pieces -/
def eS (a : Nat → Int) (b : Int) : Nat → List Int × Int
  | 0 => ([], 0)
  | i + 1 => if (eS a b i).2 + a i ≥ b then ((eS a b i).1 ++ [(i : Int) + 1], 0) else ((eS a b i).1, (eS a b i).2 + a i)
def ends (ns : List Int) (b : Int) : List Int := (eS (rowF ns) b ns.length).1
theorem eS_mem (a : Nat → Int) (b : Int) : ∀ i, (eS a b i).1.length ≤ i ∧ ∀ x ∈ (eS a b i).1, 1 ≤ x ∧ x ≤ i
  | 0 => ⟨Nat.le_refl _, fun x h => nomatch h⟩
  | i + 1 => by
    obtain ⟨h1, h2⟩ := eS_mem a b i
    rw [eS]
    split
    · refine ⟨?_, fun x hx => ?_⟩
      · show ((eS a b i).1 ++ [(i : Int) + 1]).length ≤ _
        rw [List.length_append, List.length_singleton]
        omega
      · rcases List.mem_append.mp hx with hx | hx
        · have := h2 x hx
          omega
        · rw [List.mem_singleton.mp hx]
          omega
    · refine ⟨by show (eS a b i).1.length ≤ _; omega, fun x hx => ?_⟩
      have := h2 x hx
      omega
def sh (a : Nat → Int) (k : Nat) : Nat → Int := fun i => a (k + i)
theorem pre_sh (a : Nat → Int) (k : Nat) : ∀ i, pre (sh a k) i = pre a (k + i) - pre a k
  | 0 => by
    show 0 = _
    rw [Nat.add_zero]
    omega
  | i + 1 => by
    rw [pre, pre_sh a k i, ← Nat.add_assoc, pre]
    show _ + a (k + i) = _
    omega
theorem eS_shift {a : Nat → Int} {b : Int} {k : Nat} {c : List Int} (h : eS a b k = (c, 0)) : ∀ m, eS a b (k + m) = (c ++ (eS (sh a k) b m).1.map (· + (k : Int)), (eS (sh a k) b m).2)
  | 0 => by
    rw [Nat.add_zero, h, eS]
    show (c, (0 : Int)) = (c ++ [], 0)
    rw [List.append_nil]
  | m + 1 => by
    rw [← Nat.add_assoc, eS, eS_shift h m, eS]
    show (if (eS (sh a k) b m).2 + a (k + m) ≥ b then _ else _) = _
    by_cases hb : (eS (sh a k) b m).2 + a (k + m) ≥ b
    · rw [if_pos hb, if_pos (show (eS (sh a k) b m).2 + sh a k m ≥ b from hb)]
      show (_ ++ [((k + m : Nat) : Int) + 1], (0 : Int)) = (c ++ ((eS (sh a k) b m).1 ++ [(m : Int) + 1]).map (· + (k : Int)), 0)
      rw [List.map_append, ← List.append_assoc]
      show (_ ++ [((k + m : Nat) : Int) + 1], (0 : Int)) = (_ ++ [(m : Int) + 1 + (k : Int)], 0)
      rw [show ((k + m : Nat) : Int) + 1 = (m : Int) + 1 + (k : Int) by omega]
    · rw [if_neg hb, if_neg (show ¬ (eS (sh a k) b m).2 + sh a k m ≥ b from hb)]
      rfl
theorem eS_low {a : Nat → Int} {b : Int} : ∀ {m : Nat}, (∀ e, 1 ≤ e → e ≤ m → pre a e < b) → eS a b m = ([], pre a m)
  | 0, _ => rfl
  | m + 1, h => by
    rw [eS, eS_low fun e h1 h2 => h e h1 (by omega)]
    have := h (m + 1) (by omega) (Nat.le_refl _)
    rw [pre] at this
    exact if_neg (by show ¬ pre a m + a m ≥ b; omega)
theorem eS_hit {a : Nat → Int} {b : Int} {m : Nat} (h : ∀ e, 1 ≤ e → e < m + 1 → pre a e < b) (h2 : pre a (m + 1) ≥ b) : eS a b (m + 1) = ([(m : Int) + 1], 0) := by
  rw [eS, eS_low fun e h1 h2 => h e h1 (by omega)]
  rw [pre] at h2
  exact if_pos h2
/-- how many from a place on -/
def gE (a : Nat → Int) (b : Int) (n beg : Nat) : Nat := (eS (sh a beg) b (n - beg)).1.length
theorem gE_none {a : Nat → Int} {b : Int} {n beg : Nat} (h : ∀ e, beg < e → e ≤ n → pre a e - pre a beg < b) : gE a b n beg = 0 := by
  unfold gE
  rw [eS_low fun e h1 h2 => by
    rw [pre_sh]
    exact h _ (by omega) (by omega)]
  rfl
theorem eS_next {a : Nat → Int} {b : Int} {beg e : Nat} (hbe : beg < e) (h : ∀ j, beg < j → j < e → pre a j - pre a beg < b) (h2 : pre a e - pre a beg ≥ b) : eS (sh a beg) b (e - beg) = ([((e - beg : Nat) : Int)], 0) := by
  obtain ⟨m, rfl⟩ : ∃ m, e = beg + (m + 1) := ⟨e - beg - 1, by omega⟩
  rw [show beg + (m + 1) - beg = m + 1 by omega, eS_hit (fun j h1 h3 => by
    rw [pre_sh]
    exact h _ (by omega) (by omega)) (by rw [pre_sh]; exact h2)]
  rfl
theorem gE_next {a : Nat → Int} {b : Int} {n beg e : Nat} (hbe : beg < e) (hen : e ≤ n) (h : ∀ j, beg < j → j < e → pre a j - pre a beg < b) (h2 : pre a e - pre a beg ≥ b) : gE a b n beg = 1 + gE a b n e := by
  have s := eS_shift (eS_next hbe h h2) (n - e)
  unfold gE
  rw [show n - beg = (e - beg) + (n - e) by omega, s]
  have e2 : sh (sh a beg) (e - beg) = sh a e := by
    funext i
    show a (beg + (e - beg + i)) = a (e + i)
    rw [show beg + (e - beg + i) = e + i by omega]
  rw [e2, List.length_append, List.length_map, List.length_singleton]
theorem eS_at {a : Nat → Int} {b : Int} {beg e : Nat} {c : List Int} (hc : eS a b beg = (c, 0)) (hbe : beg < e) (h : ∀ j, beg < j → j < e → pre a j - pre a beg < b) (h2 : pre a e - pre a beg ≥ b) : eS a b e = (c ++ [(e : Int)], 0) := by
  have s := eS_shift hc (e - beg)
  rw [eS_next hbe h h2, show beg + (e - beg) = e by omega] at s
  rw [s]
  show (c ++ [((e - beg : Nat) : Int) + (beg : Int)], (0 : Int)) = _
  rw [show ((e - beg : Nat) : Int) + (beg : Int) = (e : Int) by omega]
theorem least {p : Nat → Prop} : ∀ e, p e → ∃ m, m ≤ e ∧ p m ∧ ∀ j, j < m → ¬ p j := by
  intro e
  induction e using Nat.strongRecOn with
  | _ e ih =>
    intro h
    by_cases hx : ∃ j, j < e ∧ p j
    · obtain ⟨j, hj, hp⟩ := hx
      obtain ⟨m, h1, h2⟩ := ih j hj hp
      exact ⟨m, by omega, h2⟩
    · exact ⟨e, Nat.le_refl _, h, fun j hj hp => hx ⟨j, hj, hp⟩⟩
/-- the first end from a place on, or none -/
theorem next_or {a : Nat → Int} (b : Int) (n beg : Nat) : (∀ e, beg < e → e ≤ n → pre a e - pre a beg < b) ∨ ∃ e, beg < e ∧ e ≤ n ∧ (∀ j, beg < j → j < e → pre a j - pre a beg < b) ∧ pre a e - pre a beg ≥ b := by
  by_cases hx : ∃ e, beg < e ∧ e ≤ n ∧ pre a e - pre a beg ≥ b
  · obtain ⟨e0, h0⟩ := hx
    obtain ⟨m, _, ⟨h1, h2, h3⟩, h4⟩ := least (p := fun e => beg < e ∧ e ≤ n ∧ pre a e - pre a beg ≥ b) e0 h0
    refine .inr ⟨m, h1, h2, fun j hj hm => ?_, h3⟩
    have := h4 j hm
    by_cases hb : pre a j - pre a beg < b
    · exact hb
    · exact absurd ⟨hj, by omega, by omega⟩ this
  · refine .inl fun e h1 h2 => ?_
    by_cases hb : pre a e - pre a beg < b
    · exact hb
    · exact absurd ⟨e, h1, h2, by omega⟩ hx
theorem gE_end (a : Nat → Int) (b : Int) (n : Nat) : gE a b n n = 0 := gE_none fun e h1 h2 => by omega
theorem gE_anti {a : Nat → Int} {b : Int} {n : Nat} (hn : ∀ i, i < n → 0 ≤ a i) : ∀ (d beg beg2 : Nat), n - beg ≤ d → beg ≤ beg2 → beg2 ≤ n → gE a b n beg2 ≤ gE a b n beg
  | 0, beg, beg2, hd, h1, h2 => by
    obtain rfl : beg2 = beg := by omega
    exact Nat.le_refl _
  | d + 1, beg, beg2, hd, h1, h2 => by
    rcases next_or (a := a) b n beg2 with h | ⟨e2, a1, a2, a3, a4⟩
    · rw [gE_none h]
      exact Nat.zero_le _
    · rcases next_or (a := a) b n beg with h | ⟨e1, b1, b2, b3, b4⟩
      · have m1 := pre_mono hn h1 h2
        have := h e2 (by omega) a2
        omega
      · rw [gE_next a1 a2 a3 a4, gE_next b1 b2 b3 b4]
        have hle : e1 ≤ e2 := by
          rcases Nat.lt_or_ge e2 e1 with h | h
          · have m1 := pre_mono hn h1 h2
            have := b3 e2 (by omega) h
            omega
          · exact h
        have := gE_anti (b := b) hn d e1 e2 (by omega) hle a2
        omega
/-- the most pieces from a place on -/
def mX (a : Nat → Int) (b : Int) (n j : Nat) : Option Int := if j = n then some 0 else if gE a b n j = 0 then none else some (gE a b n j)
theorem mX_some {a : Nat → Int} {b k : Int} {n j : Nat} (h : mX a b n j = some k) : k = gE a b n j := by
  unfold mX at h
  split at h
  · rename_i e
    cases h
    rw [e, gE_end]
    rfl
  · split at h
    · cases h
    · cases h
      rfl
def mC (f : Nat → Option Int) (a : Nat → Int) (b : Int) (beg e : Nat) : Option Int := if pre a e - pre a beg ≥ b then (f e).map (· + 1) else none
def optMax (o c : Option Int) : Option Int := match c with
  | none => o
  | some m => some (max (o.getD 0) m)
def mB (f : Nat → Option Int) (a : Nat → Int) (b : Int) (beg : Nat) : Nat → Option Int
  | 0 => none
  | j + 1 => optMax (mB f a b beg j) (mC f a b beg (beg + 1 + j))
theorem mC_some {f : Nat → Option Int} {a : Nat → Int} {b m : Int} {beg e : Nat} (h : mC f a b beg e = some m) : pre a e - pre a beg ≥ b ∧ ∃ k, f e = some k ∧ m = k + 1 := by
  unfold mC at h
  split at h
  · rename_i hle
    cases hf : f e with
    | none =>
      rw [hf] at h
      cases h
    | some k =>
      rw [hf] at h
      cases h
      exact ⟨hle, k, rfl, rfl⟩
  · cases h
theorem mB_spec {f : Nat → Option Int} {a : Nat → Int} {b : Int} {beg : Nat} (hp : ∀ e m, f e = some m → 0 ≤ m) : ∀ j,
    (∀ m, mB f a b beg j = some m → (∃ i, i < j ∧ mC f a b beg (beg + 1 + i) = some m) ∧ ∀ i m', i < j → mC f a b beg (beg + 1 + i) = some m' → m' ≤ m) ∧
    (mB f a b beg j = none → ∀ i, i < j → mC f a b beg (beg + 1 + i) = none)
  | 0 => ⟨(fun m h => nomatch h), fun _ i h => absurd h (Nat.not_lt_zero _)⟩
  | j + 1 => by
    obtain ⟨ih1, ih2⟩ := mB_spec (a := a) (b := b) (beg := beg) hp j
    have cov : ∀ i, i < j + 1 → i = j ∨ i < j := fun i h => by omega
    rw [mB]
    cases ec : mC f a b beg (beg + 1 + j) with
    | none =>
      refine ⟨fun m h => ?_, fun h i h1 => ?_⟩
      · obtain ⟨⟨i, a2, a3⟩, a4⟩ := ih1 m h
        refine ⟨⟨i, by omega, a3⟩, fun i m' h1 h3 => ?_⟩
        rcases cov i h1 with rfl | h1
        · rw [ec] at h3
          cases h3
        · exact a4 i m' h1 h3
      · rcases cov i h1 with rfl | h1
        · exact ec
        · exact ih2 h i h1
    | some x =>
      obtain ⟨_, k, hk, rfl⟩ := mC_some ec
      have hk0 := hp _ _ hk
      show (∀ m, some (max ((mB f a b beg j).getD 0) (k + 1)) = some m → _) ∧ (some _ = none → _)
      refine ⟨fun m h => ?_, (fun h => nomatch h)⟩
      cases h
      cases eb : mB f a b beg j with
      | none =>
        show (∃ i, i < j + 1 ∧ mC f a b beg (beg + 1 + i) = some (max 0 (k + 1))) ∧ ∀ i m', i < j + 1 → mC f a b beg (beg + 1 + i) = some m' → m' ≤ max 0 (k + 1)
        rw [show max 0 (k + 1) = k + 1 by omega]
        refine ⟨⟨j, by omega, ec⟩, fun i m' h1 h3 => ?_⟩
        rcases cov i h1 with rfl | h1
        · rw [ec] at h3
          cases h3
          exact Int.le_refl _
        · rw [ih2 eb i h1] at h3
          cases h3
      | some y =>
        obtain ⟨⟨i0, a2, a3⟩, a4⟩ := ih1 y eb
        show (∃ i, i < j + 1 ∧ mC f a b beg (beg + 1 + i) = some (max y (k + 1))) ∧ ∀ i m', i < j + 1 → mC f a b beg (beg + 1 + i) = some m' → m' ≤ max y (k + 1)
        refine ⟨?_, fun i m' h1 h3 => ?_⟩
        · rcases Int.le_total y (k + 1) with h | h
          · exact ⟨j, by omega, by rw [Int.max_eq_right h]; exact ec⟩
          · exact ⟨i0, by omega, by rw [Int.max_eq_left h]; exact a3⟩
        · rcases cov i h1 with rfl | h1
          · rw [ec] at h3
            cases h3
            omega
          · have := a4 i m' h1 h3
            omega
theorem mB_congr {f g : Nat → Option Int} {a : Nat → Int} {b : Int} {beg : Nat} (h : ∀ e, beg < e → f e = g e) : ∀ j, mB f a b beg j = mB g a b beg j
  | 0 => rfl
  | j + 1 => by
    rw [mB, mB, mB_congr h j]
    unfold mC
    rw [h _ (by omega)]
theorem mX_best {a : Nat → Int} {b : Int} {n beg : Nat} (hn : ∀ i, i < n → 0 ≤ a i) (hb : beg < n) : mB (mX a b n) a b beg (n - beg) = mX a b n beg := by
  obtain ⟨s1, s2⟩ := mB_spec (f := mX a b n) (a := a) (b := b) (beg := beg) (fun e m h => by
    rw [mX_some h]
    omega) (n - beg)
  rcases next_or (a := a) b n beg with h | ⟨e1, b1, b2, b3, b4⟩
  · have g0 := gE_none h
    have hx : mX a b n beg = none := by
      unfold mX
      rw [if_neg (by omega), if_pos g0]
    rw [hx]
    cases hm : mB (mX a b n) a b beg (n - beg) with
    | none => rfl
    | some m =>
      obtain ⟨⟨i, hi, hc⟩, _⟩ := s1 m hm
      obtain ⟨h5, _⟩ := mC_some hc
      have := h (beg + 1 + i) (by omega) (by omega)
      omega
  · have g1 := gE_next b1 b2 b3 b4
    have hx : mX a b n beg = some (gE a b n beg : Int) := by
      unfold mX
      rw [if_neg (by omega), if_neg (by omega)]
    rw [hx]
    have hat : ∃ i, i < n - beg ∧ mC (mX a b n) a b beg (beg + 1 + i) = some (gE a b n beg : Int) := by
      by_cases hz : gE a b n e1 = 0
      · refine ⟨n - beg - 1, by omega, ?_⟩
        rw [show beg + 1 + (n - beg - 1) = n by omega]
        have m1 := pre_mono hn b2 (Nat.le_refl _)
        unfold mC mX
        rw [if_pos (by omega), if_pos rfl, g1, hz]
        rfl
      · refine ⟨e1 - beg - 1, by omega, ?_⟩
        rw [show beg + 1 + (e1 - beg - 1) = e1 by omega]
        unfold mC mX
        have hne : e1 ≠ n := fun z => by
          rw [z, gE_end] at hz
          omega
        rw [if_pos b4, if_neg hne, if_neg hz, g1]
        show some ((gE a b n e1 : Int) + 1) = _
        congr 1
        omega
    obtain ⟨i, hi, hc⟩ := hat
    cases hm : mB (mX a b n) a b beg (n - beg) with
    | none =>
      rw [s2 hm i hi] at hc
      cases hc
    | some m =>
      obtain ⟨⟨i2, hi2, hc2⟩, hmax⟩ := s1 m hm
      have := hmax i _ hi hc
      obtain ⟨h5, k, h6, rfl⟩ := mC_some hc2
      have hk := mX_some h6
      have hle : e1 ≤ beg + 1 + i2 := by
        rcases Nat.lt_or_ge (beg + 1 + i2) e1 with h | h
        · have := b3 _ (by omega) h
          omega
        · exact h
      have := gE_anti hn (b := b) n e1 (beg + 1 + i2) (by omega) hle (by omega)
      congr 1
      omega
/-- the table from behind, so many turns -/
def mT (a : Nat → Int) (b : Int) (n k j : Nat) : Option Int := if n - k ≤ j then mX a b n j else none
theorem mT_zero {a : Nat → Int} {b : Int} {n j : Nat} (h : j ≤ n) : mT a b n 0 j = if j = n then some 0 else none := by
  unfold mT mX
  by_cases e : j = n
  · rw [if_pos (by omega), if_pos e, if_pos e]
  · rw [if_neg (by omega), if_neg e]
theorem mT_step {a : Nat → Int} {b : Int} {n k : Nat} (hn : ∀ i, i < n → 0 ≤ a i) (hk : k < n) (j : Nat) : mT a b n (k + 1) j = if j = n - 1 - k then mB (mT a b n k) a b (n - 1 - k) (k + 1) else mT a b n k j := by
  by_cases e : j = n - 1 - k
  · rw [if_pos e, e, mB_congr (f := mT a b n k) (g := mX a b n) (fun e he => if_pos (by omega)), show k + 1 = n - (n - 1 - k) by omega, mX_best hn (by omega)]
    exact if_pos (by omega)
  · rw [if_neg e]
    unfold mT
    by_cases h : n - k ≤ j
    · rw [if_pos h, if_pos (by omega)]
    · rw [if_neg h, if_neg (by omega)]
theorem tab_get (f : Nat → Option Int) (e k : Nat) : (tab f e)[k]? = if k < e then some (optV (f k)) else none := by
  unfold tab
  rw [List.getElem?_map]
  by_cases h : k < e
  · rw [if_pos h, List.getElem?_range h]
    rfl
  · rw [if_neg h, List.getElem?_eq_none (by rw [List.length_range]; omega)]
    rfl
theorem tab_set {f : Nat → Option Int} {e i : Nat} {v : Option Int} (h : i < e) : (tab f e).set i (optV v) = tab (fun j => if j = i then v else f j) e := by
  refine List.ext_getElem? fun k => ?_
  rw [List.getElem?_set, tab_get, tab_get, tab_len]
  by_cases e2 : i = k
  · rw [if_pos e2, if_pos h, if_pos (by omega), if_pos e2.symm]
  · rw [if_neg e2, if_neg (show ¬ k = i from fun z => e2 z.symm)]
theorem tab_congr {f g : Nat → Option Int} {e : Nat} (h : ∀ j, j < e → f j = g j) : tab f e = tab g e := by
  unfold tab
  exact List.map_congr_left fun i hi => by rw [h i (List.mem_range.mp hi)]
theorem tab_start (a : Nat → Int) (b : Int) (n : Nat) : List.replicate n V.non ++ [.int 0] = tab (mT a b n 0) (n + 1) := by
  rw [← tab_succ]
  congr 1
  · refine List.ext_getElem? fun k => ?_
    rw [tab_get, List.getElem?_replicate]
    by_cases h : k < n
    · rw [if_pos h, if_pos h, mT_zero (by omega), if_neg (by omega)]
      rfl
    · rw [if_neg h, if_neg h]
  · rw [mT_zero (Nat.le_refl _), if_pos rfl]
    rfl
theorem mT_all (a : Nat → Int) (b : Int) (n j : Nat) : mT a b n n j = mX a b n j := if_pos (by omega)
/-- how many ends -/
theorem ends_len (ns : List Int) (b : Int) : (ends ns b).length = gE (rowF ns) b ns.length 0 := by
  unfold ends gE
  have : sh (rowF ns) 0 = rowF ns := by
    funext i
    show rowF ns (0 + i) = _
    rw [Nat.zero_add]
  rw [this]
  rfl
def mostO (ns : List Int) (b : Int) : Option Int := if ends ns b = [] then none else some ((ends ns b).length : Int)
theorem mX_most {ns : List Int} (b : Int) (h : 1 ≤ ns.length) : mX (rowF ns) b ns.length 0 = mostO ns b := by
  unfold mX mostO
  rw [if_neg (by omega), ← ends_len]
  by_cases e : ends ns b = []
  · rw [if_pos e, e]
    rfl
  · rw [if_neg e, if_neg (fun z => e (List.length_eq_zero_iff.mp z))]
def firstO (ns : List Int) (b : Int) : Option (List Int) := if ends ns b = [] then none else some (ends ns b).dropLast
theorem most_le {ns : List Int} {b m : Int} (h : mostO ns b = some m) : 1 ≤ m ∧ m ≤ ns.length := by
  unfold mostO at h
  split at h
  · cases h
  · rename_i hne
    cases h
    have := (eS_mem (rowF ns) b ns.length).1
    have h0 : (ends ns b).length ≠ 0 := fun z => hne (List.length_eq_zero_iff.mp z)
    unfold ends at h0 ⊢
    omega
theorem first_mem {ns c : List Int} {b : Int} (h : firstO ns b = some c) : c.length ≤ ns.length ∧ ∀ x ∈ c, 0 ≤ x ∧ x ≤ ns.length := by
  unfold firstO at h
  split at h
  · cases h
  · cases h
    obtain ⟨h1, h2⟩ := eS_mem (rowF ns) b ns.length
    refine ⟨?_, fun x hx => ?_⟩
    · rw [List.length_dropLast]
      unfold ends
      omega
    · have := h2 x (List.dropLast_subset _ hx)
      omega
end PB

namespace PB
open PySem PySem.Spec PyProof.Rows L2
/-! ### data that can be told as texts -/
structure DOK (d : PyData) (dep w : Nat) : Prop where
  sh : d.showable = true
  nd : d.hasDict = false
  de : d.depth ≤ dep
  le : d.leavesShort 201 = true
  wt : d.weight ≤ w
theorem DOK.int {i : Int} (h : i.natAbs < 2 ^ 200) : DOK (.int i) 0 200 := by
  have h3 : i.natAbs.log2 < 200 := PySem.Flt.log2_lt_of (by decide) h
  have h1 : (toString i).length ≤ 200 + 1 := int_text_length_le (by decide) h3
  refine ⟨?_, by simp [PyData.hasDict], by simp [PyData.depth], ?_, ?_⟩
  · rw [PyData.showable, decide_eq_true_eq]
    omega
  · rw [PyData.leavesShort, decide_eq_true_eq]
    show (Str.ofString (toString i)).length ≤ 201
    rw [PySem.ofString_length]
    exact h1
  · rw [PyData.weight]
    split <;> omega
theorem DOK.none : DOK .none 0 0 := ⟨by simp [PyData.showable], by simp [PyData.hasDict], by simp [PyData.depth], by simp [PyData.leavesShort], by simp [PyData.weight]⟩
theorem DOK.bool (b : Bool) : DOK (.bool b) 0 0 := ⟨by simp [PyData.showable], by simp [PyData.hasDict], by simp [PyData.depth], by simp [PyData.leavesShort], by simp [PyData.weight]⟩
theorem DOK.mono {d : PyData} {p q w u : Nat} (h : DOK d p w) (h1 : p ≤ q) (h2 : w ≤ u) : DOK d q u := ⟨h.sh, h.nd, Nat.le_trans h.de h1, h.le, Nat.le_trans h.wt h2⟩
theorem dok_all {dep w : Nat} : ∀ {ds : List PyData}, (∀ d ∈ ds, DOK d dep w) → PyData.showableAll ds = true ∧ PyData.hasDictAll ds = false ∧ PyData.depthAll ds ≤ dep ∧ PyData.leavesShortAll 201 ds = true ∧ PyData.weightAll ds ≤ ds.length * (w + 1)
  | [], _ => ⟨by simp [PyData.showableAll], by simp [PyData.hasDictAll], by simp [PyData.depthAll], by simp [PyData.leavesShortAll], by simp [PyData.weightAll]⟩
  | d :: ds, h => by
    obtain ⟨h1, h2, h3, h4, h5⟩ := dok_all fun x hx => h x (List.mem_cons_of_mem _ hx)
    have hd := h d List.mem_cons_self
    refine ⟨by rw [PyData.showableAll, hd.sh, h1]; rfl, by rw [PyData.hasDictAll, hd.nd, h2]; rfl, by rw [PyData.depthAll]; have := hd.de; omega, by rw [PyData.leavesShortAll, hd.le, h4]; rfl, ?_⟩
    rw [PyData.weightAll, List.length_cons, Nat.add_mul]
    have := hd.wt
    omega
theorem DOK.list {dep w n : Nat} {ds : List PyData} (h : ∀ d ∈ ds, DOK d dep w) (hl : ds.length ≤ n) : DOK (.list ds) (dep + 1) (n * (w + 1)) := by
  obtain ⟨h1, h2, h3, h4, h5⟩ := dok_all h
  exact ⟨by rw [PyData.showable]; exact h1, by rw [PyData.hasDict]; exact h2, by rw [PyData.depth]; omega, by rw [PyData.leavesShort]; exact h4, by rw [PyData.weight]; exact Nat.le_trans h5 (Nat.mul_le_mul_right _ hl)⟩
theorem DOK.tup {dep w n : Nat} {ds : List PyData} (h : ∀ d ∈ ds, DOK d dep w) (hl : ds.length ≤ n) : DOK (.tuple ds) (dep + 1) (n * (w + 1)) := by
  obtain ⟨h1, h2, h3, h4, h5⟩ := dok_all h
  exact ⟨by rw [PyData.showable]; exact h1, by rw [PyData.hasDict]; exact h2, by rw [PyData.depth]; omega, by rw [PyData.leavesShort]; exact h4, by rw [PyData.weight]; exact Nat.le_trans h5 (Nat.mul_le_mul_right _ hl)⟩
theorem DOK.ints {ns : List Int} {n : Nat} (h : ∀ x ∈ ns, x.natAbs < 2 ^ 200) (hl : ns.length ≤ n) : DOK (RpD.d ns) 1 (n * 201) :=
  DOK.list (fun d hd => by obtain ⟨x, hx, rfl⟩ := List.mem_map.mp hd; exact DOK.int (h x hx)) (by rw [List.length_map]; exact hl)
theorem DOK.pair {α β : Type} [Rp α] [Rp β] [RpD α] [RpD β] {x : α} {y : β} {dep w : Nat} (h : DOK (RpD.d x) dep w) (h' : DOK (RpD.d y) dep w) : DOK (RpD.d (x, y)) (dep + 1) (2 * (w + 1)) :=
  DOK.tup (ds := [RpD.d x, RpD.d y]) (fun d hd => by simp at hd; rcases hd with rfl | rfl; exact h; exact h') (Nat.le_refl _)
theorem DOK.tri {α β γ : Type} [Rp α] [Rp β] [Rp γ] [RpD α] [RpD β] [RpD γ] {x : T3 α β γ} {dep w : Nat} (h : DOK (RpD.d x.a) dep w) (h' : DOK (RpD.d x.b) dep w) (h'' : DOK (RpD.d x.c) dep w) : DOK (RpD.d x) (dep + 1) (3 * (w + 1)) :=
  DOK.tup (ds := [RpD.d x.a, RpD.d x.b, RpD.d x.c]) (fun d hd => by simp at hd; rcases hd with rfl | rfl | rfl; exact h; exact h'; exact h'') (Nat.le_refl _)
theorem reprO_d {α : Type} [Rp α] [RpD α] {x : α} {dep w : Nat} (h : DOK (RpD.d x) dep w) (h1 : dep ≤ 60) (h2 : w ≤ 80000) : reprO x = some (RpD.d x).shown := by
  have h3 := PyData.shown_le 201 (by decide) (RpD.d x) h.le
  have := h.wt
  refine if_pos ⟨h.sh, h.nd, Nat.le_trans h.de h1, ?_⟩
  have h4 : (201 + 2) * (RpD.d x).weight ≤ 203 * 80000 := Nat.mul_le_mul_left _ (Nat.le_trans this h2)
  rw [sizeLine_eq]
  omega
/-! ### likeness -/
class RpE (α : Type) [Rp α] [RpD α] [DecidableEq α] where
  k : Nat
  hk : k ≤ 20
  eqv : ∀ x y : α, PyData.eqv (RpD.d x) (RpD.d y) = decide (x = y)
  lay : ∀ x : α, (RpD.d x).canLay0 = true
  dep : ∀ x : α, (RpD.d x).depth ≤ k
class RpNN (α : Type) [Rp α] [RpD α] : Prop where
  l : ∀ x : α, PyData.eqv .none (RpD.d x) = false
  r : ∀ x : α, PyData.eqv (RpD.d x) .none = false
instance : RpNN Int := ⟨fun x => by simp [RpD.d, PyData.eqv], fun x => by simp [RpD.d, PyData.eqv]⟩
instance : RpNN Bool := ⟨fun x => by simp [RpD.d, PyData.eqv], fun x => by simp [RpD.d, PyData.eqv]⟩
section
variable {α β γ : Type} [Rp α] [Rp β] [Rp γ] [RpD α] [RpD β] [RpD γ] [DecidableEq α] [DecidableEq β] [DecidableEq γ]
instance : RpNN (List α) := ⟨fun x => by simp [RpD.d, PyData.eqv], fun x => by simp [RpD.d, PyData.eqv]⟩
instance : RpNN (α × β) := ⟨fun x => by simp [RpD.d, PyData.eqv], fun x => by simp [RpD.d, PyData.eqv]⟩
instance : RpNN (T3 α β γ) := ⟨fun x => by simp [RpD.d, PyData.eqv], fun x => by simp [RpD.d, PyData.eqv]⟩
instance : RpE Int := ⟨0, by decide, fun x y => by simp [RpD.d, PyData.eqv]; rfl, fun x => by simp [RpD.d, PyData.canLay0], fun x => by simp [RpD.d, PyData.depth]⟩
instance : RpE Bool := ⟨0, by decide, fun x y => by cases x <;> cases y <;> simp [RpD.d, PyData.eqv], fun x => by simp [RpD.d, PyData.canLay0], fun x => by simp [RpD.d, PyData.depth]⟩
instance : RpE Unit := ⟨0, by decide, fun x y => by simp [RpD.d, PyData.eqv], fun x => by simp [RpD.d, PyData.canLay0], fun x => by simp [RpD.d, PyData.depth]⟩
instance [RpE α] [RpNN α] : RpE (Option α) := ⟨RpE.k α, RpE.hk, fun x y => by
    cases x with
    | none => cases y with
      | none => simp [RpD.d, PyData.eqv]
      | some y => exact (RpNN.l y).trans (by simp)
    | some x => cases y with
      | none => exact (RpNN.r x).trans (by simp)
      | some y => exact (RpE.eqv x y).trans (by simp), fun x => by
    cases x with
    | none => simp [RpD.d, PyData.canLay0]
    | some x => exact RpE.lay x, fun x => by
    cases x with
    | none => simp [RpD.d, PyData.depth]
    | some x => exact RpE.dep x⟩
theorem eqvAll_E [RpE α] : ∀ xs ys : List α, PyData.eqvAll (xs.map RpD.d) (ys.map RpD.d) = decide (xs = ys)
  | [], [] => by simp [PyData.eqvAll]
  | [], _ :: _ => by simp [PyData.eqvAll]
  | _ :: _, [] => by simp [PyData.eqvAll]
  | x :: xs, y :: ys => by
    rw [List.map_cons, List.map_cons, PyData.eqvAll, RpE.eqv, eqvAll_E xs ys]
    by_cases h : x = y <;> by_cases h2 : xs = ys <;> simp [h, h2]
theorem layAll_E [RpE α] : ∀ xs : List α, PyData.canLayAll0 (xs.map RpD.d) = true
  | [] => by simp [PyData.canLayAll0]
  | x :: xs => by rw [List.map_cons, PyData.canLayAll0, RpE.lay, layAll_E xs]; rfl
theorem depAll_E [RpE α] : ∀ xs : List α, PyData.depthAll (xs.map RpD.d) ≤ RpE.k α
  | [] => by simp [PyData.depthAll]
  | x :: xs => by
    rw [List.map_cons, PyData.depthAll]
    have := RpE.dep x
    have := depAll_E xs
    omega
class Low (α : Type) [Rp α] [RpD α] [DecidableEq α] [RpE α] : Prop where
  h : RpE.k α < 20
instance [RpE α] [Low α] : RpE (List α) := ⟨RpE.k α + 1, Low.h, fun xs ys => by
    show PyData.eqv (.list _) (.list _) = _
    rw [PyData.eqv, eqvAll_E], fun xs => by
    show PyData.canLay0 (.list _) = _
    rw [PyData.canLay0, layAll_E], fun xs => by
    show PyData.depth (.list _) ≤ _
    rw [PyData.depth]
    have := depAll_E xs
    omega⟩
instance [RpE α] [RpE β] [Low α] [Low β] : RpE (α × β) := ⟨max (RpE.k α) (RpE.k β) + 1, by have := Low.h (α := α); have := Low.h (α := β); omega, fun x y => by
    show PyData.eqv (.tuple _) (.tuple _) = _
    rw [PyData.eqv]
    simp only [PyData.eqvAll, RpE.eqv]
    cases x; cases y
    simp [Prod.ext_iff, Bool.decide_and], fun x => by
    show PyData.canLay0 (.tuple _) = _
    rw [PyData.canLay0]
    simp only [PyData.canLayAll0, RpE.lay, Bool.and_self], fun x => by
    show PyData.depth (.tuple _) ≤ _
    rw [PyData.depth]
    simp only [PyData.depthAll]
    have := RpE.dep x.1
    have := RpE.dep x.2
    omega⟩
end
instance : Low Int := ⟨by decide⟩
instance : Low Bool := ⟨by decide⟩
instance : Low (Option Int) := ⟨by decide⟩
instance : Low (List Int) := ⟨by decide⟩
instance : Low (List (List Int)) := ⟨by decide⟩
instance : Low (List (Option Int)) := ⟨by decide⟩
instance : Low (Option (List Int)) := ⟨by decide⟩
theorem eqO_E {α : Type} [Rp α] [RpD α] [DecidableEq α] [RpE α] (x y : α) : eqO x y = some (decide (x = y)) := by
  have hs : ∀ z : α, SeqAt.shaped (RpD.d z) = true := fun z => by
    unfold SeqAt.shaped
    rw [RpE.lay, Bool.true_and, decide_eq_true_eq]
    have := RpE.dep z
    have := RpE.hk (α := α)
    omega
  rw [eqO, if_pos ⟨hs x, hs y⟩, RpE.eqv]
/-- a value beside one that may be none -/
theorem eqO_so {α β : Type} [Rp α] [RpD α] [Rp β] [RpD β] (x : α) (y : β) : eqO (some x) y = eqO x y := rfl
theorem eqO_os {α β : Type} [Rp α] [RpD α] [Rp β] [RpD β] (x : α) (y : β) : eqO x (some y) = eqO x y := rfl
end PB

namespace PB
open PySem PySem.Spec PyProof.Rows L2
/-! ### ways of k pieces from one place to another -/
def path (R : Nat → Nat → Prop) : Nat → Nat → Nat → Prop
  | 0, p, q => p = q
  | k + 1, p, q => ∃ e, p < e ∧ e ≤ q ∧ R p e ∧ path R k e q
section
variable {R R' : Nat → Nat → Prop} {k p q n : Nat}
theorem path_le : ∀ {k p : Nat}, path R k p q → p + k ≤ q
  | 0, p, h => by
    have : p = q := h
    omega
  | k + 1, p, ⟨e, h1, _, _, h4⟩ => by
    have := path_le h4
    omega
theorem path_mono (hR : ∀ x y, p ≤ x → x < y → y ≤ q → R x y → R' x y) : ∀ {k : Nat} {p' : Nat}, p ≤ p' → path R k p' q → path R' k p' q
  | 0, _, _, h => h
  | k + 1, p', hp, ⟨e, h1, h2, h3, h4⟩ => ⟨e, h1, h2, hR _ _ hp h1 h2 h3, path_mono hR (by omega) h4⟩
theorem path_snoc : ∀ {k p : Nat}, path R (k + 1) p q ↔ ∃ m, path R k p m ∧ m < q ∧ R m q
  | 0, p => by
    constructor
    · rintro ⟨e, h1, h2, h3, h4⟩
      have h4 : e = q := h4
      subst h4
      exact ⟨p, rfl, h1, h3⟩
    · rintro ⟨m, h1, h2, h3⟩
      have h1 : p = m := h1
      subst h1
      exact ⟨q, h2, Nat.le_refl _, h3, rfl⟩
  | k + 1, p => by
    constructor
    · rintro ⟨e, h1, h2, h3, h4⟩
      obtain ⟨m, h5, h6, h7⟩ := path_snoc.mp h4
      have := path_le h5
      exact ⟨m, ⟨e, h1, by omega, h3, h5⟩, h6, h7⟩
    · rintro ⟨m, ⟨e, h1, h2, h3, h4⟩, h6, h7⟩
      exact ⟨e, h1, by omega, h3, path_snoc.mpr ⟨m, h4, h6, h7⟩⟩
theorem path_one : path R 1 p q ↔ p < q ∧ R p q := by
  rw [path_snoc]
  constructor
  · rintro ⟨m, h1, h2, h3⟩
    have h1 : p = m := h1
    subst h1
    exact ⟨h2, h3⟩
  · rintro ⟨h1, h2⟩
    exact ⟨p, rfl, h1, h2⟩
theorem path_shift (c : Nat) : ∀ {k p : Nat}, path (fun x y => R (c + x) (c + y)) k p q ↔ path R k (c + p) (c + q)
  | 0, p => by
    show p = q ↔ c + p = c + q
    omega
  | k + 1, p => by
    constructor
    · rintro ⟨e, h1, h2, h3, h4⟩
      exact ⟨c + e, by omega, by omega, h3, (path_shift c).mp h4⟩
    · rintro ⟨e, h1, h2, h3, h4⟩
      obtain ⟨e', rfl⟩ : ∃ e', e = c + e' := ⟨e - c, by omega⟩
      exact ⟨e', by omega, by omega, h3, (path_shift c).mpr h4⟩
/-- every number a piece -/
theorem path_all (h : ∀ i, p ≤ i → i < q → R i (i + 1)) : p ≤ q → path R (q - p) p q := by
  intro hpq
  obtain ⟨d, rfl⟩ : ∃ d, q = p + d := ⟨q - p, by omega⟩
  rw [show p + d - p = d by omega]
  induction d generalizing p with
  | zero => rfl
  | succ d ih => exact ⟨p + 1, by omega, by omega, h p (by omega) (by omega), by
      have := ih (p := p + 1) (fun i h1 h2 => h i (by omega) (by omega)) (by omega)
      rwa [show p + 1 + d = p + (d + 1) by omega] at this⟩
end
/-- sums of at most b; of at least b -/
def RLe (a : Nat → Int) (b : Int) (p e : Nat) : Prop := pre a e - pre a p ≤ b
def RGe (a : Nat → Int) (b : Int) (p e : Nat) : Prop := b ≤ pre a e - pre a p
section
variable {a : Nat → Int} {b : Int} {n : Nat} {k p q : Nat}
/-- one piece more -/
theorem path_split (hn : ∀ i, i < n → 0 ≤ a i) : ∀ {k p q : Nat}, path (RLe a b) k p q → k < q - p → q ≤ n → p < q → 1 ≤ k → path (RLe a b) (k + 1) p q
  | 0, _, _, _, _, _, _, hk => by omega
  | k + 1, p, q, ⟨e, h1, h2, h3, h4⟩, hk, hq, hpq, _ => by
    by_cases hke : k < q - e ∧ 1 ≤ k
    · exact ⟨e, h1, h2, h3, path_split hn h4 hke.1 hq (by omega) hke.2⟩
    · have hle := path_le h4
      have hep : p + 1 < e := by
        rcases Nat.eq_zero_or_pos k with rfl | hk0
        · have h4 : e = q := h4
          omega
        · omega
      have m1 := pre_mono hn (show p + 1 ≤ e by omega) (by omega)
      have m2 := pre_mono hn (show p ≤ p + 1 by omega) (by omega)
      exact ⟨p + 1, by omega, by omega, by unfold RLe at *; omega, e, by omega, h2, by unfold RLe at *; omega, h4⟩
theorem path_more (hn : ∀ i, i < n → 0 ≤ a i) (h : path (RLe a b) k p q) (hq : q ≤ n) (hk : 1 ≤ k) : ∀ {m : Nat}, k ≤ m → m ≤ q - p → path (RLe a b) m p q := by
  intro m hkm
  have hle := path_le h
  induction hkm with
  | refl => exact fun _ => h
  | @step m hm ih =>
    intro hm2
    have hk' : k ≤ m := hm
    exact path_split hn (ih (by omega)) (by omega) hq (by omega) (by omega)
/-- one piece fewer -/
theorem path_merge (hn : ∀ i, i < n → 0 ≤ a i) (hq : q ≤ n) : path (RGe a b) (k + 2) p q → path (RGe a b) (k + 1) p q := by
  rintro ⟨e, h1, h2, h3, f, h4, h5, h6, h7⟩
  have m1 := pre_mono hn (show p ≤ e by omega) (by omega)
  have m2 := pre_mono hn (show e ≤ f by omega) (by omega)
  have := path_le h7
  exact ⟨f, by omega, by omega, by unfold RGe at *; omega, h7⟩
theorem path_fewer (hn : ∀ i, i < n → 0 ≤ a i) (hq : q ≤ n) (h : path (RGe a b) k p q) : ∀ {m : Nat}, m ≤ k → 1 ≤ m → path (RGe a b) m p q := by
  induction k generalizing p with
  | zero => intro m h1 h2; omega
  | succ k ih =>
    intro m h1 h2
    rcases Nat.lt_or_ge k m with h3 | h3
    · have : m = k + 1 := by omega
      rw [this]
      exact h
    · cases k with
      | zero => omega
      | succ k => exact ih (path_merge hn hq h) h3 h2
/-- the fewest pieces, as counted -/
theorem few_path (hn : ∀ i, i < n → 0 ≤ a i) : ∀ e, e ≤ n → (∀ m, fewS a b e = some m → 0 ≤ m ∧ path (RLe a b) m.toNat 0 e) ∧ ∀ k, path (RLe a b) k 0 e → ∃ m : Int, fewS a b e = some m ∧ m ≤ k := by
  intro e
  induction e using Nat.strongRecOn with
  | _ e ih =>
    intro he
    cases e with
    | zero =>
      refine ⟨fun m hm => ?_, fun k hk => ⟨0, rfl, by omega⟩⟩
      cases (show some (0 : Int) = some m from hm)
      exact ⟨by decide, rfl⟩
    | succ e =>
      obtain ⟨f1, f2⟩ := fewS_next (b := b) hn he
      refine ⟨fun m hm => ?_, fun k hk => ?_⟩
      · obtain ⟨⟨j, k, hj, hjb, hk, rfl⟩, _⟩ := f1 m hm
        obtain ⟨g1, g2⟩ := (ih j hj (by omega)).1 k hk
        refine ⟨by omega, ?_⟩
        rw [show (k + 1).toNat = k.toNat + 1 by omega]
        exact path_snoc.mpr ⟨j, g2, hj, hjb⟩
      · cases k with
        | zero => cases (show 0 = e + 1 from hk)
        | succ k =>
          obtain ⟨m, h1, h2, h3⟩ := path_snoc.mp hk
          obtain ⟨c, hc, hck⟩ := (ih m h2 (by omega)).2 k h1
          cases hf : fewS a b (e + 1) with
          | none => exact (f2 hf m c h2 h3 hc).elim
          | some c' =>
            have := (f1 c' hf).2 m c h2 h3 hc
            exact ⟨c', rfl, by omega⟩
theorem few_iff (hn : ∀ i, i < n → 0 ≤ a i) (h1 : 1 ≤ k) (hk : k ≤ n) : path (RLe a b) k 0 n ↔ ∃ m : Int, fewS a b n = some m ∧ m ≤ k := by
  constructor
  · exact (few_path hn n (Nat.le_refl _)).2 k
  · rintro ⟨m, hm, hmk⟩
    obtain ⟨h0, h2⟩ := (few_path hn n (Nat.le_refl _)).1 m hm
    have : 1 ≤ m.toNat := by
      rcases Nat.eq_zero_or_pos m.toNat with h | h
      · rw [h] at h2
        have h2 : 0 = n := h2
        omega
      · omega
    exact path_more hn h2 (Nat.le_refl _) this (by omega) (by omega)
theorem RLe_sh (c : Nat) : (fun x y => RLe a b (c + x) (c + y)) = RLe (sh a c) b := by
  funext x y
  unfold RLe
  rw [pre_sh, pre_sh]
  apply propext
  constructor <;> intro h <;> omega
theorem RGe_sh (c : Nat) : (fun x y => RGe a b (c + x) (c + y)) = RGe (sh a c) b := by
  funext x y
  unfold RGe
  rw [pre_sh, pre_sh]
  apply propext
  constructor <;> intro h <;> omega
theorem few_iff_sh (hn : ∀ i, i < n → 0 ≤ a i) {c : Nat} (h1 : 1 ≤ k) (hk : c + k ≤ n) : path (RLe a b) k c n ↔ ∃ m : Int, fewS (sh a c) b (n - c) = some m ∧ m ≤ k := by
  rw [← few_iff (a := sh a c) (n := n - c) (fun i hi => hn _ (by omega)) h1 (by omega), ← RLe_sh, path_shift, Nat.add_zero, show c + (n - c) = n by omega]
theorem rowF_drop (ns : List Int) (c : Nat) : rowF (ns.drop c) = sh (rowF ns) c := by
  funext i
  show (ns.drop c)[i]! = ns[c + i]!
  rw [List.getElem!_eq_getElem?_getD, List.getElem!_eq_getElem?_getD, List.getElem?_drop]
/-! ### the first cut, as lists are ordered -/
/-- the first way of k pieces from p to n, by where its pieces after the first begin -/
def First (R : Nat → Nat → Prop) (n : Nat) : Nat → Nat → List Int → Prop
  | 0, _, _ => False
  | 1, _, c => c = []
  | k + 2, p, c => ∃ (e : Nat) (c' : List Int), c = (e : Int) :: c' ∧ p < e ∧ e ≤ n ∧ R p e ∧ path R (k + 1) e n ∧ (∀ e', p < e' → e' < e → ¬ (R p e' ∧ path R (k + 1) e' n)) ∧ First R n (k + 1) e c'
theorem First.uniq {R : Nat → Nat → Prop} : ∀ {k p : Nat} {c d : List Int}, First R n k p c → First R n k p d → c = d
  | 0, _, _, _, h, _ => h.elim
  | 1, _, c, d, h, h2 => by rw [show c = [] from h, show d = [] from h2]
  | k + 2, p, c, d, hc, hd => by
    obtain ⟨e, c', rfl, h1, h2, h3, h4, h5, h6⟩ := hc
    obtain ⟨f, d', rfl, g1, g2, g3, g4, g5, g6⟩ := hd
    have : e = f := by
      rcases Nat.lt_trichotomy e f with h | h | h
      · exact (g5 e h1 h ⟨h3, h4⟩).elim
      · exact h
      · exact (h5 f g1 h ⟨g3, g4⟩).elim
    subst this
    rw [First.uniq h6 g6]
theorem First.mem {R : Nat → Nat → Prop} : ∀ {k p : Nat} {c : List Int}, First R n k p c → c.length + 1 = k ∧ ∀ x ∈ c, (p : Int) < x ∧ x ≤ n
  | 0, _, _, h => h.elim
  | 1, _, c, h => by
    rw [show c = [] from h]
    exact ⟨rfl, fun _ h => nomatch h⟩
  | k + 2, p, c, hc => by
    obtain ⟨e, c', rfl, h1, h2, h3, h4, h5, h6⟩ := hc
    obtain ⟨g1, g2⟩ := First.mem h6
    refine ⟨by rw [List.length_cons, g1], fun x hx => ?_⟩
    rcases List.mem_cons.mp hx with rfl | hx
    · omega
    · have := g2 x hx
      omega
end
end PB

namespace PB
open PySem PySem.Spec PyProof.Rows L2
/-! ### a cut of the stretch from p to n, its pieces such that R -/
def Ct (R : Nat → Nat → Prop) (n : Nat) : Nat → List Int → Prop
  | p, [] => p < n ∧ R p n
  | p, x :: c => ∃ e : Nat, x = (e : Int) ∧ p < e ∧ e < n ∧ R p e ∧ Ct R n e c
def Any (_ _ : Nat) : Prop := True
def sumsC (a : Nat → Int) (n : Nat) : Nat → List Int → List Int
  | p, [] => [pre a n - pre a p]
  | p, x :: c => (pre a x.toNat - pre a p) :: sumsC a n x.toNat c
section
variable {R R' : Nat → Nat → Prop} {n k : Nat} {a : Nat → Int} {b : Int}
theorem Ct.lt : ∀ {c : List Int} {p : Nat}, Ct R n p c → p < n
  | [], _, h => h.1
  | _ :: _, _, h => by
    obtain ⟨e, rfl, h1, h2, _⟩ := h
    omega
theorem Ct.mono (h : ∀ x y, x < y → y ≤ n → R x y → R' x y) : ∀ {c : List Int} {p : Nat}, Ct R n p c → Ct R' n p c
  | [], p, ⟨h1, h2⟩ => ⟨h1, h _ _ h1 (Nat.le_refl _) h2⟩
  | x :: c, p, hc => by
    obtain ⟨e, rfl, h1, h2, h3, h4⟩ := hc
    exact ⟨e, rfl, h1, h2, h _ _ h1 (by omega) h3, Ct.mono h h4⟩
theorem Ct.any {c : List Int} {p : Nat} (h : Ct R n p c) : Ct Any n p c := h.mono fun _ _ _ _ _ => trivial
theorem Ct.path : ∀ {c : List Int} {p : Nat}, Ct R n p c → path R (c.length + 1) p n
  | [], p, ⟨h1, h2⟩ => path_one.mpr ⟨h1, h2⟩
  | x :: c, p, hc => by
    obtain ⟨e, rfl, h1, h2, h3, h4⟩ := hc
    exact ⟨e, h1, by omega, h3, h4.path⟩
theorem Ct.of_path : ∀ {k p : Nat}, PB.path R (k + 1) p n → ∃ c : List Int, c.length = k ∧ Ct R n p c
  | 0, p, h => ⟨[], rfl, path_one.mp h⟩
  | k + 1, p, ⟨e, h1, h2, h3, h4⟩ => by
    obtain ⟨c, h5, h6⟩ := Ct.of_path h4
    exact ⟨(e : Int) :: c, by rw [List.length_cons, h5], e, rfl, h1, h6.lt, h3, h6⟩
theorem Ct.of_first : ∀ {k p : Nat} {c : List Int}, First R n k p c → PB.path R k p n → Ct R n p c
  | 0, _, _, h, _ => h.elim
  | 1, p, c, h, hp => by
    rw [show c = [] from h]
    exact path_one.mp hp
  | k + 2, p, c, h, _ => by
    obtain ⟨e, c', rfl, h1, h2, h3, h4, h5, h6⟩ := h
    have hl := path_le h4
    exact ⟨e, rfl, h1, by omega, h3, Ct.of_first h6 h4⟩
theorem Ct.mem : ∀ {c : List Int} {p : Nat}, Ct R n p c → ∀ x ∈ c, (p : Int) < x ∧ x < n
  | [], _, _ => fun _ h => nomatch h
  | x :: c, p, hc => by
    obtain ⟨e, rfl, h1, h2, h3, h4⟩ := hc
    intro y hy
    rcases List.mem_cons.mp hy with rfl | hy
    · omega
    · have := h4.mem y hy
      omega
theorem Ct.len {c : List Int} {p : Nat} (h : Ct R n p c) : p + c.length + 1 ≤ n := by
  have := path_le h.path
  omega
theorem sumsC_len : ∀ (c : List Int) (p : Nat), (sumsC a n p c).length = c.length + 1
  | [], _ => rfl
  | x :: c, p => congrArg (· + 1) (sumsC_len c x.toNat)
theorem sumsC_sum : ∀ (c : List Int) (p : Nat), (sumsC a n p c).sum = pre a n - pre a p
  | [], p => by simp [sumsC]
  | x :: c, p => by
    rw [sumsC, List.sum_cons, sumsC_sum c x.toNat]
    omega
/-- by the sums -/
theorem Ct.sums {P : Int → Prop} : ∀ {c : List Int} {p : Nat}, Ct (fun p e => P (pre a e - pre a p)) n p c ↔ Ct Any n p c ∧ ∀ s ∈ sumsC a n p c, P s
  | [], p => by
    constructor
    · rintro ⟨h1, h2⟩
      exact ⟨⟨h1, trivial⟩, fun s hs => by rw [List.mem_singleton.mp hs]; exact h2⟩
    · rintro ⟨⟨h1, _⟩, h2⟩
      exact ⟨h1, h2 _ (List.mem_singleton.mpr rfl)⟩
  | x :: c, p => by
    constructor
    · rintro ⟨e, rfl, h1, h2, h3, h4⟩
      obtain ⟨g1, g2⟩ := (Ct.sums (c := c) (p := e)).mp h4
      refine ⟨⟨e, rfl, h1, h2, trivial, g1⟩, fun s hs => ?_⟩
      rw [sumsC, Int.toNat_natCast] at hs
      rcases List.mem_cons.mp hs with rfl | hs
      · exact h3
      · exact g2 s hs
    · rintro ⟨⟨e, rfl, h1, h2, _, h4⟩, h5⟩
      rw [sumsC, Int.toNat_natCast] at h5
      exact ⟨e, rfl, h1, h2, h5 _ List.mem_cons_self, (Ct.sums (c := c) (p := e)).mpr ⟨h4, fun s hs => h5 s (List.mem_cons_of_mem _ hs)⟩⟩
theorem Ct.snoc : ∀ {c : List Int} {p m : Nat}, Ct R m p c → m < n → R m n → Ct R n p (c ++ [(m : Int)])
  | [], p, m, ⟨h1, h2⟩, hm, hR => ⟨m, rfl, h1, hm, h2, hm, hR⟩
  | x :: c, p, m, hc, hm, hR => by
    obtain ⟨e, rfl, h1, h2, h3, h4⟩ := hc
    exact ⟨e, rfl, h1, by omega, h3, h4.snoc hm hR⟩
theorem Ct.stretch (h : ∀ x, x < n → R x n → R x (n + 1)) : ∀ {c : List Int} {p : Nat}, Ct R n p c → Ct R (n + 1) p c
  | [], p, ⟨h1, h2⟩ => ⟨by omega, h p h1 h2⟩
  | x :: c, p, hc => by
    obtain ⟨e, rfl, h1, h2, h3, h4⟩ := hc
    exact ⟨e, rfl, h1, by omega, h3, h4.stretch h⟩
/-- the last piece begins at -/
def lastC : Nat → List Int → Nat
  | p, [] => p
  | _, x :: c => lastC x.toNat c
theorem lastC_snoc : ∀ (c : List Int) (p m : Nat), lastC p (c ++ [(m : Int)]) = m
  | [], _, m => by simp [lastC]
  | x :: c, p, m => lastC_snoc c x.toNat m
theorem Ct.last_to (m : Nat) (hm : n ≤ m) : ∀ {c : List Int} {p : Nat}, Ct R n p c → R (lastC p c) m → Ct R m p c
  | [], p, h, h2 => ⟨by have := h.1; omega, h2⟩
  | x :: c, p, hc, h2 => by
    obtain ⟨e, rfl, h1, h3, h4, h5⟩ := hc
    exact ⟨e, rfl, h1, by omega, h4, h5.last_to m hm (by rw [lastC, Int.toNat_natCast] at h2; exact h2)⟩
/-- the long cut is one, its pieces within the bound -/
theorem gS_ct (hn : ∀ i, 0 ≤ a i ∨ True) : ∀ {i : Nat} {c : List Int} {t : Int}, gS a b i = some (c, t) → 0 < i → Ct (RLe a b) i 0 c ∧ t = pre a i - pre a (lastC 0 c) ∧ t ≤ b
  | 0, _, _, _, h => by omega
  | i + 1, c, t, h, _ => by
    rw [gS] at h
    cases e : gS a b i with
    | none => rw [e] at h; cases h
    | some p =>
      obtain ⟨c1, t1⟩ := p
      rw [e] at h
      dsimp only at h
      by_cases h1 : a i > b
      · rw [if_pos h1] at h; cases h
      · rw [if_neg h1] at h
        have hs : pre a (i + 1) = pre a i + a i := rfl
        rcases Nat.eq_zero_or_pos i with rfl | hi
        · have e1 : c1 = [] ∧ t1 = 0 := by
            have e : some (([] : List Int), (0 : Int)) = some (c1, t1) := e
            cases e
            exact ⟨rfl, rfl⟩
          obtain ⟨rfl, rfl⟩ := e1
          rw [if_neg (by omega)] at h
          cases h
          refine ⟨⟨by omega, ?_⟩, ?_, by omega⟩
          · unfold RLe
            omega
          · show 0 + a 0 = pre a (0 + 1) - pre a 0
            omega
        · obtain ⟨g1, g2, g3⟩ := gS_ct hn e hi
          by_cases h2 : t1 + a i > b
          · rw [if_pos h2] at h
            cases h
            refine ⟨g1.snoc (by omega) (by unfold RLe; omega), ?_, by omega⟩
            rw [lastC_snoc]
            omega
          · rw [if_neg h2] at h
            cases h
            refine ⟨g1.last_to (i + 1) (by omega) (by unfold RLe; omega), by omega, by omega⟩
end
/-! ### the other way about -/
theorem path_rev {R : Nat → Nat → Prop} {n : Nat} : ∀ {k p q : Nat}, q ≤ n → p ≤ q → (path R k p q ↔ path (fun x y => R (n - y) (n - x)) k (n - q) (n - p))
  | 0, p, q, hq, hp => by
    show p = q ↔ n - q = n - p
    omega
  | k + 1, p, q, hq, hp => by
    rw [path_snoc (R := R)]
    constructor
    · rintro ⟨m, h1, h2, h3⟩
      have := path_le h1
      exact ⟨n - m, by omega, by omega, by show R (n - (n - m)) (n - (n - q)); rw [show n - (n - m) = m by omega, show n - (n - q) = q by omega]; exact h3, (path_rev (by omega) (by omega)).mp h1⟩
    · rintro ⟨e, h1, h2, h3, h4⟩
      obtain ⟨m, rfl⟩ : ∃ m, e = n - m := ⟨n - e, by omega⟩
      by_cases hm : m ≤ n
      · have h3 : R (n - (n - m)) (n - (n - q)) := h3
        rw [show n - (n - m) = m by omega, show n - (n - q) = q by omega] at h3
        refine ⟨m, (path_rev (by omega) (by omega)).mpr h4, by omega, h3⟩
      · omega
theorem rowF_rev {ns : List Int} {i : Nat} (h : i < ns.length) : rowF ns.reverse i = rowF ns (ns.length - 1 - i) := by
  show ns.reverse[i]! = ns[ns.length - 1 - i]!
  rw [List.getElem!_eq_getElem?_getD, List.getElem!_eq_getElem?_getD, List.getElem?_reverse h]
theorem pre_rev (ns : List Int) : ∀ i, i ≤ ns.length → pre (rowF ns.reverse) i = pre (rowF ns) ns.length - pre (rowF ns) (ns.length - i)
  | 0, _ => by
    rw [Nat.sub_zero]
    show (0 : Int) = _
    omega
  | i + 1, h => by
    have e : pre (rowF ns) (ns.length - i) = pre (rowF ns) (ns.length - (i + 1)) + rowF ns (ns.length - (i + 1)) := by
      rw [show ns.length - i = (ns.length - (i + 1)) + 1 by omega]
      rfl
    rw [pre, pre_rev ns i (by omega), rowF_rev (by omega), show ns.length - 1 - i = ns.length - (i + 1) by omega, e]
    omega
theorem path_back {ns : List Int} {b : Int} {k : Nat} {P : Int → Prop} : path (fun p e => P (pre (rowF ns.reverse) e - pre (rowF ns.reverse) p)) k 0 ns.length ↔ path (fun p e => P (pre (rowF ns) e - pre (rowF ns) p)) k 0 ns.length := by
  rw [path_rev (R := fun p e => P (pre (rowF ns) e - pre (rowF ns) p)) (n := ns.length) (Nat.le_refl _) (Nat.zero_le _), Nat.sub_self, Nat.sub_zero]
  have key : ∀ x y, x < y → y ≤ ns.length → (pre (rowF ns.reverse) y - pre (rowF ns.reverse) x = pre (rowF ns) (ns.length - x) - pre (rowF ns) (ns.length - y)) := fun x y h1 h2 => by
    rw [pre_rev ns y h2, pre_rev ns x (by omega)]
    omega
  constructor
  · exact path_mono (fun x y _ h1 h2 r => by rw [← key x y h1 h2]; exact r) (Nat.le_refl _)
  · exact path_mono (fun x y _ h1 h2 r => by rw [key x y h1 h2]; exact r) (Nat.le_refl _)
/-! ### parts of a way -/
section
variable {R : Nat → Nat → Prop} {n : Nat}
/-- R goes down to parts -/
def Down (R : Nat → Nat → Prop) (n : Nat) : Prop := ∀ p x y q, p ≤ x → x < y → y ≤ q → q ≤ n → R p q → R x y
theorem RLe_down {a : Nat → Int} {b : Int} (hn : ∀ i, i < n → 0 ≤ a i) : Down (RLe a b) n := fun p x y q h1 h2 h3 h4 r => by
  have m1 := pre_mono hn h1 (by omega)
  have m2 := pre_mono hn h3 h4
  unfold RLe at *
  omega
theorem path_pref (hR : Down R n) : ∀ {k p q m : Nat}, path R k p q → q ≤ n → p < m → m ≤ q → ∃ j, 1 ≤ j ∧ j ≤ k ∧ path R j p m
  | 0, p, q, m, h, _, h1, h2 => by
    have h : p = q := h
    omega
  | k + 1, p, q, m, ⟨e, g1, g2, g3, g4⟩, hq, h1, h2 => by
    rcases Nat.lt_or_ge e m with h | h
    · obtain ⟨j, j1, j2, j3⟩ := path_pref hR g4 hq h h2
      exact ⟨j + 1, by omega, by omega, e, g1, by omega, g3, j3⟩
    · exact ⟨1, Nat.le_refl _, by omega, path_one.mpr ⟨h1, hR p p m e (Nat.le_refl _) h1 h (by omega) g3⟩⟩
theorem path_suff (hR : Down R n) : ∀ {k p q m : Nat}, path R k p q → q ≤ n → p ≤ m → m < q → ∃ j, 1 ≤ j ∧ j ≤ k ∧ path R j m q
  | 0, p, q, m, h, _, h1, h2 => by
    have h : p = q := h
    omega
  | k + 1, p, q, m, ⟨e, g1, g2, g3, g4⟩, hq, h1, h2 => by
    rcases Nat.lt_or_ge m e with h | h
    · refine ⟨k + 1, by omega, by omega, e, h, g2, hR p m e e h1 h (Nat.le_refl _) (by omega) g3, g4⟩
    · obtain ⟨j, j1, j2, j3⟩ := path_suff hR g4 hq h h2
      exact ⟨j, j1, by omega, j3⟩
end
/-- every number a piece: the one way -/
theorem First.all {R : Nat → Nat → Prop} {n : Nat} : ∀ (d p : Nat), p + d + 1 = n → path R (d + 1) p n → First R n (d + 1) p (rangeF ((p : Int) + 1) d)
  | 0, _, _, _ => rfl
  | d + 1, p, hd, ⟨e, h1, h2, h3, h4⟩ => by
    have := path_le h4
    have he : e = p + 1 := by omega
    subst he
    refine ⟨p + 1, _, rfl, by omega, by omega, h3, h4, fun e' g1 g2 => by omega, ?_⟩
    have := First.all d (p + 1) (by omega) h4
    rwa [show ((p + 1 : Nat) : Int) + 1 = (p : Int) + 1 + 1 by omega] at this
end PB
namespace PB
open PySem PySem.Spec PyProof.Rows L2
def m__law_draws (x_script : Scr) : Option (List Int) :=
Option.bind (range1 (min (lenI x_script.l) 80)) fun x7 =>
Option.bind (foldO (fun (x12 : Int) (b10 : (List Int)) => Option.bind (atI x_script.l x12) fun x23 =>
if decide ((if x23 < 0 then -x23 else x23) < 1000000000000000000) then (Option.bind (mulO 7919 x12) fun x26 =>
Option.bind (mulO ((((if x23 < 0 then -x23 else x23) + x26) + 3) % 2147483647) 48271) fun x28 =>
Option.bind (mulO (x28 % 2147483647) (x28 % 2147483647)) fun x30 =>
Option.bind (appO b10 (((x30 % 2147483629) / 16) % 1000)) fun x32 =>
Option.bind (appO x32 (((x30 % 2147483629) / 16000) % 1000)) fun x36 =>
Option.bind (mulO 40692 (x12 + 7)) fun x40 =>
Option.bind (mulO (((x30 % 2147483629) + x40) % 2147483587) (((x30 % 2147483629) + x40) % 2147483587)) fun x42 =>
Option.bind (appO x36 (((x42 % 2147483647) / 16) % 1000)) fun x44 =>
some x44) else
(Option.bind (whileO (ρ := Unit) (fun (b50 : (List Int) × Int × Int) => if ((decide (b50.2.2 ≥ 1000)) && (decide (b50.2.1 < 60))) then (Option.bind (appO b50.1 (b50.2.2 % 1000)) fun x69 =>
some (.go (x69, (b50.2.1 + 1), (b50.2.2 / 1000)))) else some (.brk (b50.1, b50.2.1, b50.2.2))) fuelW (b10, 0, (if x23 < 0 then -x23 else x23))) fun o55 =>
match o55 with
| .ret _ => none
| .brk _ => none
| .go s75 => some s75.1)) x7 ([] : List Int)) fun o15 =>
some (sliceI o15 none (some 240))

def m__law_take (x_draws : (List Int)) (x_many : Int) : Option (Int × (List Int)) :=
Option.bind (eqO (x_draws : (List Int)) (([] : List Int) : (List Int))) fun x5 =>
if x5 then (some (0, x_draws)) else
Option.bind (popO x_draws 0) fun x8 =>
Option.bind (modO x8.1 x_many) fun x13 =>
some (x13, x8.2)

def m__law_row (x_draws : (List Int)) (x_most : Int) : Option ((List Int) × (List Int)) :=
Option.bind (m__law_take x_draws 12) fun r1 =>
Option.bind (Option.bind (m__law_take r1.2 8) fun r12 => if (decide (r12.1 = 1)) then (Option.bind (m__law_take r12.2 x_most) fun r22 =>
Option.bind (m__law_take r22.2 2) fun r35 =>
Option.bind (atI ([x_most, (1 + r22.1)] : List Int) r35.1) fun x44 =>
some (r35.2, x44)) else (some (r12.2, (min x_most (1 + r1.1)))) : Option ((List Int) × Int)) fun s10 =>
Option.bind (m__law_take s10.1 8) fun r55 =>
Option.bind (atI ([1, 2, 3, 10, 100, 100000, 1000000000, (1000000000000 + 1)] : List Int) r55.1) fun x64 =>
Option.bind (m__law_take r55.2 4) fun r66 =>
Option.bind (m__law_take r66.2 1000) fun r75 =>
Option.bind (m__law_take r75.2 1000) fun r84 =>
Option.bind (m__law_take r84.2 1000) fun r93 =>
Option.bind (m__law_take r93.2 3) fun r102 =>
Option.bind (m__law_take r102.2 20) fun r111 =>
Option.bind (m__law_take r111.2 3) fun r124 =>
Option.bind (atI ([1, 1, (1 + r111.1)] : List Int) r124.1) fun x133 =>
Option.bind (range1 s10.2) fun x139 =>
Option.bind (foldO (fun (x144 : Int) (b142 : Int × (List Int) × (List Int)) => Option.bind (fdivO x144 x133) fun x155 =>
Option.bind (mulO x155 x155) fun x157 =>
Option.bind (mulO x157 r75.1) fun x159 =>
Option.bind (mulO x155 (1 + r84.1)) fun x161 =>
Option.bind (mulO (x155 / 7) 31) fun x163 =>
Option.bind (if (decide (r66.1 = 1)) then (Option.bind (mulO x155 x155) fun x168 =>
Option.bind (atI ([1, 2, 3, 10, 100, 100000, 1000000000, (1000000000000 + 1)] : List Int) ((((((x159 + x161) + x163) + r93.1) % 9973) + x168) % 8)) fun x170 =>
some x170) else (some b142.1) : Option (Int)) fun s165 =>
Option.bind (if ((decide (s10.2 < 13)) || ((decide (r102.1 = 1)) && (decide ((lenI b142.2.1) > 60)))) then (Option.bind (m__law_take b142.2.1 1000) fun r190 =>
some (r190.2, r190.1)) else (some (b142.2.1, ((((x159 + x161) + x163) + r93.1) % 9973))) : Option ((List Int) × Int)) fun s177 =>
Option.bind (modO s177.2 s165) fun x206 =>
Option.bind (mulO s177.2 (s165 / 9973)) fun x208 =>
Option.bind (atI ([x206, (x208 + (s177.2 % 7))] : List Int) (if decide (s165 > 1000) then 1 else 0)) fun x214 =>
Option.bind (atI ([x214, 1000000000000] : List Int) (if ((decide (s165 > 1000000000)) && (decide ((s177.2 % 11) = 5))) then 1 else 0)) fun x225 =>
Option.bind (appO b142.2.2 x225) fun x227 =>
some (s165, s177.1, x227)) x139 (x64, r124.2, ([] : List Int))) fun o147 =>
Option.bind (m__law_take o147.2.1 8) fun r238 =>
if (decide (r238.1 = 1)) then (some ((sortI o147.2.2), r238.2)) else
if (decide (r238.1 = 2)) then (some ((List.reverse (sortI o147.2.2)), r238.2)) else
if (decide (r238.1 = 3)) then (Option.bind (mapO (fun (x262 : Int) => Option.bind (maxO o147.2.2) fun x275 => Option.bind (atI ([0, x262] : List Int) (if (decide (x262 = x275)) then 1 else 0)) fun x277 => some x277) o147.2.2) fun x284 =>
some (x284, r238.2)) else
some (o147.2.2, r238.2)

def m__law_pieces (x_draws : (List Int)) (x_row : (List Int)) : Option (Int × (List Int)) :=
Option.bind (m__law_take x_draws 4) fun r3 =>
Option.bind (m__law_take r3.2 1000) fun r12 =>
Option.bind (modO r12.1 (lenI x_row)) fun x21 =>
Option.bind (m__law_take r12.2 7) fun r31 =>
Option.bind (atI ([0, 1, 2, 2, 3, 3, 3] : List Int) r31.1) fun x40 =>
Option.bind (atI ([1, (lenI x_row), (min (lenI x_row) (2 + r3.1)), (1 + x21)] : List Int) x40) fun x42 =>
some (x42, r31.2)

def m_is_among (x_thing : Th) (x_low : Int) (x_high : Int) : Option Bool :=
Option.bind (if (isiT (x_thing : Th) "int") then Option.bind (if (!(isiT (x_thing : Th) "bool")) then Option.bind (Th.getI x_thing) fun x8 => some (((decide (x_low ≤ x8)) && (decide (x8 ≤ x_high)))) else some false) fun x17 => some (x17) else some false) fun x22 =>
some x22

def m_need_pieces_papers (x_row : (List Int)) (x_many : Int) : Option Unit :=
Option.bind (m_is_among (Co.f (x_many : Int) : Th) 1 (lenI x_row)) fun r3 =>
if (!r3) then (none) else
some ()

def m_is_whole (x_thing : Int) : Option Bool :=
some ((isiO (x_thing : Int) "int") && (!(isiO (x_thing : Int) "bool")))

def m_need_many (x_row : (List Int)) (x_many : Int) : Option Unit :=
Option.bind (m_is_whole x_many) fun r3 =>
if ((!r3) || (!((decide (1 ≤ x_many)) && (decide (x_many ≤ (lenI x_row)))))) then (none) else
some ()

def m_long_cut (x_row : (List Int)) (x_bound : Int) : Option (Option (List Int)) :=
Option.bind (forO (ρ := (Option (List Int))) (fun (x9 : (Int × Int)) (b7 : (List Int) × Int) => if decide (x9.2 > x_bound) then (some (.ret (none : (Option (List Int))))) else
Option.bind (if decide ((b7.2 + x9.2) > x_bound) then (Option.bind (appO b7.1 x9.1) fun x28 =>
some (x28, 0)) else (some (b7.1, b7.2)) : Option ((List Int) × Int)) fun s25 =>
some (.go (s25.1, (s25.2 + x9.2)))) (enumI 0 x_row) (([] : List Int), 0)) fun o12 =>
match o12 with
| .ret r => some r
| .brk _ => none
| .go s38 => some (some s38.1)

def m_fewest_pieces (x_row : (List Int)) (x_bound : Int) : Option (Option Int) :=
Option.bind (m_long_cut x_row x_bound) fun r3 =>
if (Option.isNone r3) then (some (none : (Option Int))) else
Option.bind (r3) fun x10 =>
some (some ((lenI x10) + 1))

def m_least_bound (x_row : (List Int)) (x_many : Int) : Option Int :=
Option.bind (maxO x_row) fun x3 =>
Option.bind (whileO (ρ := Unit) (fun (b6 : Int × Int) => if decide (b6.2 < b6.1) then (Option.bind (m_fewest_pieces x_row ((b6.2 + b6.1) / 2)) fun r20 =>
Option.bind (r20) fun x26 =>
if decide (x26 ≤ x_many) then (some (.go (((b6.2 + b6.1) / 2), b6.2))) else
(some (.go (b6.1, (((b6.2 + b6.1) / 2) + 1))))) else some (.brk (b6.1, b6.2))) fuelW ((List.sum x_row), x3)) fun o11 =>
match o11 with
| .ret _ => none
| .brk _ => none
| .go s33 => some s33.2

def m_early_cut (x_row : (List Int)) (x_many : Int) (x_bound : Int) : Option (List Int) :=
Option.bind (rangeD (x_many - 1) 0) fun x7 =>
Option.bind (foldO (fun (x12 : Int) (b10 : Int × (List Int)) => Option.bind (whileO (ρ := Unit) (fun (b24 : Int) => Option.bind (m_fewest_pieces (sliceI x_row (some b24) none) x_bound) fun r41 => Option.bind (r41) fun x47 => if decide (x47 > x12) then (some (.go (b24 + 1))) else some (.brk b24)) fuelW (b10.1 + 1)) fun o29 =>
match o29 with
| .ret _ => none
| .brk _ => none
| .go s53 => Option.bind (appO b10.2 s53) fun x58 =>
some (s53, x58)) x7 (0, ([] : List Int))) fun o15 =>
some o15.2

def m_least_greatest (x_row : (List Int)) (x_many : Int) : Option (Int × (List Int)) :=
Option.bind (m_need_many x_row x_many) fun r3 =>
Option.bind (m_least_bound x_row x_many) fun r9 =>
Option.bind (m_early_cut x_row x_many r9) fun r15 =>
some (r9, r15)

def m_stretches_to (x_row : (List Int)) (x_bound : Int) : Option (List (Int × Int)) :=
Option.bind (foldO (fun (x9 : (Int × Int)) (b7 : Int × (List (Int × Int)) × Int) => if decide ((b7.2.2 + x9.2) ≥ x_bound) then (Option.bind (appO b7.2.1 (b7.1, (x9.1 + 1))) fun x28 =>
some (x9.1, x28, x9.2)) else
(some (b7.1, b7.2.1, (b7.2.2 + x9.2)))) (enumI 0 x_row) (0, ([] : List (Int × Int)), 0)) fun o12 =>
some o12.2.1

def m_paper_of_greatest (x_row : (List Int)) (x_many : Int) : Option (PySem.Str × (Un Int (List (Int × Int)))) :=
Option.bind (m_need_pieces_papers x_row x_many) fun r3 =>
Option.bind (m_least_greatest x_row x_many) fun r9 =>
if (decide (r9.1 ∈ x_row)) then (Option.bind (indexO x_row r9.1) fun x19 =>
some (Co.f (("number" : PySem.Str), x19) : (PySem.Str × (Un Int (List (Int × Int)))))) else
Option.bind (m_stretches_to x_row r9.1) fun r24 =>
some (Co.f (("stretches" : PySem.Str), (sliceI r24 none (some x_many))) : (PySem.Str × (Un Int (List (Int × Int)))))

def m_are_stretches (x_row : (List Int)) (x_thing : Th) : Option Bool :=
if (!(isiT (x_thing : Th) "list")) then (some false) else
Option.bind (Th.getL x_thing) fun x5 =>
Option.bind (forO (ρ := Bool) (fun (x12 : Th) (b10 : Int) => Option.bind (if (!(isiT (x12 : Th) "tuple")) then some true else Option.bind (lenTh x12) fun x26 => some ((!decide (x26 = 2)))) fun x28 =>
if x28 then (some (.ret false)) else
Option.bind (ixTh x12 0) fun x34 =>
Option.bind (m_is_among x34 b10 (lenI x_row)) fun r38 =>
Option.bind (if (!r38) then some true else Option.bind (ixTh x12 1) fun x47 => Option.bind (ixTh x12 0) fun x51 => Option.bind (Th.num x51) fun x55 => Option.bind (m_is_among x47 (x55 + 2) (lenI x_row)) fun r57 => some ((!r57))) fun x64 =>
if x64 then (some (.ret false)) else
Option.bind (ixTh x12 1) fun x70 =>
Option.bind (Th.getI x70) fun x74 =>
some (.go (x74 - 1))) x5 0) fun o15 =>
match o15 with
| .ret r => some r
| .brk _ => none
| .go s78 => some true

def m_says_greatest (x_row : (List Int)) (x_many : Int) (x_thing : Th) : Option (Option Int) :=
Option.bind (m_need_pieces_papers x_row x_many) fun r4 =>
Option.bind (if (!(isiT (x_thing : Th) "tuple")) then some true else Option.bind (lenTh x_thing) fun x13 => Option.bind (if (!decide (x13 = 2)) then some true else Option.bind (ixTh x_thing 0) fun x18 => some ((!(isiT (x18 : Th) "str")))) fun x23 => some (x23)) fun x28 =>
if x28 then (some (none : (Option Int))) else
Option.bind (Th.getP x_thing) fun x34 =>
Option.bind (eqT (x34.1 : Th) (("number" : PySem.Str) : PySem.Str)) fun x41 =>
Option.bind (if x41 then Option.bind (m_is_among x34.2 0 ((lenI x_row) - 1)) fun r46 => some (r46) else some false) fun x52 =>
if x52 then (Option.bind (Th.getI x34.2) fun x58 =>
Option.bind (atI x_row x58) fun x61 =>
some (some x61)) else
Option.bind (eqT (x34.1 : Th) (("stretches" : PySem.Str) : PySem.Str)) fun x63 =>
Option.bind (if x63 then Option.bind (m_are_stretches x_row x34.2) fun r68 => Option.bind (if r68 then Option.bind (lenTh x34.2) fun x77 => some ((decide (x77 = x_many))) else some false) fun x79 => some (x79) else some false) fun x84 =>
if x84 then (Option.bind (Th.getL x34.2) fun x90 =>
Option.bind (mapO (fun (x94 : Th) => Option.bind (Th.getP x94) fun x103 => Option.bind (Th.getI x103.1) fun x110 => Option.bind (Th.getI x103.2) fun x113 => some (List.sum (sliceI x_row (some x110) (some x113)))) x90) fun x125 =>
Option.bind (minO x125) fun x128 =>
some (some x128)) else
some (none : (Option Int))

def m_ends_of (x_row : (List Int)) (x_bound : Int) : Option (List Int) :=
Option.bind (foldO (fun (x9 : (Int × Int)) (b7 : (List Int) × Int) => if decide ((b7.2 + x9.2) ≥ x_bound) then (Option.bind (appO b7.1 (x9.1 + 1)) fun x25 =>
some (x25, 0)) else
(some (b7.1, (b7.2 + x9.2)))) (enumI 0 x_row) (([] : List Int), 0)) fun o12 =>
some o12.1

def m_greatest_least (x_row : (List Int)) (x_many : Int) : Option (Int × (List Int)) :=
Option.bind (m_need_many x_row x_many) fun r3 =>
Option.bind (fdivO (List.sum x_row) x_many) fun x9 =>
Option.bind (whileO (ρ := Unit) (fun (b12 : Int × Int) => if decide (b12.2 < b12.1) then (Option.bind (m_ends_of x_row (((b12.2 + b12.1) + 1) / 2)) fun r26 =>
if decide ((lenI r26) ≥ x_many) then (some (.go (b12.1, (((b12.2 + b12.1) + 1) / 2)))) else
(some (.go (((((b12.2 + b12.1) + 1) / 2) - 1), b12.2)))) else some (.brk (b12.1, b12.2))) fuelW (x9, 0)) fun o17 =>
match o17 with
| .ret _ => none
| .brk _ => none
| .go s37 => Option.bind (m_ends_of x_row s37.2) fun r42 =>
some (s37.2, (sliceI r42 none (some (x_many - 1))))

def m_reaching (x_row : (List Int)) (x_bound : Int) : Option (List Int) :=
Option.bind (foldO (fun (x9 : (Int × Int)) (b7 : (List Int) × Int) => if decide ((b7.2 + x9.2) ≥ x_bound) then (Option.bind (appO b7.1 x9.1) fun x25 =>
some (x25, 0)) else
(some (b7.1, (b7.2 + x9.2)))) (enumI 0 x_row) (([] : List Int), 0)) fun o12 =>
some o12.1

def m_paper_of_least (x_row : (List Int)) (x_many : Int) : Option (List Int) :=
Option.bind (m_need_pieces_papers x_row x_many) fun r3 =>
Option.bind (m_greatest_least x_row x_many) fun r9 =>
Option.bind (m_reaching x_row (r9.1 + 1)) fun r18 =>
some r18

def m_says_least (x_row : (List Int)) (x_many : Int) (x_thing : Th) : Option (Option Int) :=
Option.bind (m_need_pieces_papers x_row x_many) fun r4 =>
Option.bind (if (!(isiT (x_thing : Th) "list")) then some true else Option.bind (Th.getL x_thing) fun x13 => some (decide ((lenI x13) ≥ x_many))) fun x18 =>
if x18 then (some (none : (Option Int))) else
Option.bind (Th.getL x_thing) fun x27 =>
Option.bind (forO (ρ := (Option Int)) (fun (x34 : Th) (b32 : Int × (List Int)) => Option.bind (m_is_among x34 b32.1 ((lenI x_row) - 1)) fun r45 =>
if (!r45) then (some (.ret (none : (Option Int)))) else
Option.bind (Th.getI x34) fun x52 =>
Option.bind (appO b32.2 (List.sum (sliceI x_row (some b32.1) (some x52)))) fun x59 =>
some (.go ((x52 + 1), x59))) x27 (0, ([] : List Int))) fun o37 =>
match o37 with
| .ret r => some r
| .brk _ => none
| .go s64 => Option.bind (catO s64.2 ([(List.sum (sliceI x_row (some s64.1) none))] : List Int)) fun x77 =>
Option.bind (maxO x77) fun x83 =>
some (some x83)

def m_need_pieces_rings (x_row : (List Int)) (x_many : Int) : Option Unit :=
if ((!(isiO (x_many : Int) "int")) || ((isiO (x_many : Int) "bool") || (!((decide (1 ≤ x_many)) && (decide (x_many ≤ (lenI x_row))))))) then (none) else
some ()

def m_ring_least_greatest (x_row : (List Int)) (x_many : Int) : Option (Option (Int × (List Int))) :=
Option.bind (m_need_pieces_rings x_row x_many) fun r3 =>
Option.bind (range1 (lenI x_row)) fun x10 =>
Option.bind (foldO (fun (x16 : Int) (b14 : (Option (Int × (List Int)))) => Option.bind (catO (sliceI x_row (some x16) none) (sliceI x_row none (some x16))) fun x35 =>
Option.bind (m_least_greatest x35 x_many) fun r41 =>
Option.bind (if (Option.isNone b14) then some true else Option.bind (b14) fun x55 => some (decide (r41.1 < x55.1))) fun x62 =>
if x62 then (Option.bind (catO ([0] : List Int) r41.2) fun x72 =>
Option.bind (mapO (fun (x78 : Int) => Option.bind (modO (x16 + x78) (lenI x_row)) fun x87 => some x87) x72) fun x94 =>
some (some (r41.1, (sortI x94)))) else
(some b14)) x10 (none : (Option (Int × (List Int))))) fun o19 =>
some o19

def m__law_told (x_way : Int) (x_row : (List Int)) (x_many : Int) (x_thing : Th) : Option Th :=
if (decide (x_way = 0)) then (Option.bind (m_paper_of_greatest x_row x_many) fun r5 =>
some (Co.f (r5 : (PySem.Str × (Un Int (List (Int × Int))))) : Th)) else
if (decide (x_way = 1)) then (Option.bind (m_says_greatest x_row x_many x_thing) fun r13 =>
some (Co.f (r13 : (Option Int)) : Th)) else
if (decide (x_way = 2)) then (Option.bind (m_paper_of_least x_row x_many) fun r20 =>
some (Co.f (r20 : (List Int)) : Th)) else
if (decide (x_way = 3)) then (Option.bind (m_says_least x_row x_many x_thing) fun r29 =>
some (Co.f (r29 : (Option Int)) : Th)) else
Option.bind (m_ring_least_greatest x_row x_many) fun r35 =>
some (Co.f (r35 : (Option (Int × (List Int)))) : Th)

def m__law_no_many (x_draws : (List Int)) (x_size : Int) : Option ((List Th) × (List Int)) :=
Option.bind (m__law_take x_draws 1000) fun r1 =>
Option.bind (m__law_take r1.2 1000) fun r10 =>
Option.bind (mulO r1.1 (1 + r10.1)) fun x19 =>
Option.bind (strO x_size) fun x21 =>
Option.bind (range1 4) fun x42 =>
Option.bind (mapSO (fun (x44 : Int) (b53 : List Int) => Option.bind (m__law_take b53 17) fun r54 => Option.bind (atI ([(Co.f (0 : Int) : Th), (Co.f ((x_size + 1) : Int) : Th), (Co.f (((x_size + 1) + x19) : Int) : Th), (Co.f ((-1) : Int) : Th), (Co.f ((0 - ((x_size + 1) + x19)) : Int) : Th), (Co.f ((0 - x_size) : Int) : Th), (Co.f (1000000000000000000000000000000 : Int) : Th), (Co.f (true : Bool) : Th), (Co.f (false : Bool) : Th), (Co.f (() : Unit) : Th), (Co.f (("1" : PySem.Str) : PySem.Str) : Th), (Co.f (x21 : PySem.Str) : Th), (Co.f (("" : PySem.Str) : PySem.Str) : Th), (Co.f (([1] : List Int) : (List Int)) : Th), (Co.f ((T1.mk 1) : (T1 Int)) : Th), (Th.dic [] []), (Co.f (([] : List Int) : (List Int)) : Th)] : List Th) r54.1) fun x63 => some (x63, r54.2)) x42 r10.2) fun x72 =>
Option.bind (catO x72.1 ([(Co.f (0 : Int) : Th), (Co.f ((x_size + 1) : Int) : Th), (Co.f (true : Bool) : Th)] : List Th)) fun x79 =>
some (x79, x72.2)

def m_X_need_pieces_papers (x_row : (List Int)) (x_many : Th) : Option (Except Er Unit) :=
Option.bind (m_is_among x_many 1 (lenI x_row)) fun r4 =>
if (!r4) then (some (.error .many)) else
some (.ok ())

def m_X_paper_of_greatest (x_row : (List Int)) (x_many : Th) : Option (Except Er Unit) :=
Option.bind (m_X_need_pieces_papers x_row x_many) fun r4 =>
match r4 with
| .error c12 => (some (.error c12))
| .ok y10 =>
none

def m_X_says_greatest (x_row : (List Int)) (x_many : Th) (x_thing : Th) : Option (Except Er Unit) :=
Option.bind (m_X_need_pieces_papers x_row x_many) fun r5 =>
match r5 with
| .error c13 => (some (.error c13))
| .ok y11 =>
none

def m_X_paper_of_least (x_row : (List Int)) (x_many : Th) : Option (Except Er Unit) :=
Option.bind (m_X_need_pieces_papers x_row x_many) fun r4 =>
match r4 with
| .error c12 => (some (.error c12))
| .ok y10 =>
none

def m_X_says_least (x_row : (List Int)) (x_many : Th) (x_thing : Th) : Option (Except Er Unit) :=
Option.bind (m_X_need_pieces_papers x_row x_many) fun r5 =>
match r5 with
| .error c13 => (some (.error c13))
| .ok y11 =>
none

def m_X_need_pieces_rings (x_row : (List Int)) (x_many : Th) : Option (Except Er Unit) :=
Option.bind (if (!(isiT (x_many : Th) "int")) then some true else Option.bind (if (isiT (x_many : Th) "bool") then some true else Option.bind (Th.getI x_many) fun x10 => some ((!((decide (1 ≤ x10)) && (decide (x10 ≤ (lenI x_row))))))) fun x19 => some (x19)) fun x24 =>
if x24 then (some (.error .many)) else
some (.ok ())

def m_X_ring_least_greatest (x_row : (List Int)) (x_many : Th) : Option (Except Er Unit) :=
Option.bind (m_X_need_pieces_rings x_row x_many) fun r4 =>
match r4 with
| .error c12 => (some (.error c12))
| .ok y10 =>
none

def m_X__law_told (x_way : Int) (x_row : (List Int)) (x_many : Th) (x_thing : Th) : Option (Except Er Unit) :=
if (decide (x_way = 0)) then (Option.bind (m_X_paper_of_greatest x_row x_many) fun r6 =>
match r6 with
| .error c14 => (some (.error c14))
| .ok y12 =>
none) else
if (decide (x_way = 1)) then (Option.bind (m_X_says_greatest x_row x_many x_thing) fun r20 =>
match r20 with
| .error c28 => (some (.error c28))
| .ok y26 =>
none) else
if (decide (x_way = 2)) then (Option.bind (m_X_paper_of_least x_row x_many) fun r34 =>
match r34 with
| .error c42 => (some (.error c42))
| .ok y40 =>
none) else
if (decide (x_way = 3)) then (Option.bind (m_X_says_least x_row x_many x_thing) fun r48 =>
match r48 with
| .error c56 => (some (.error c56))
| .ok y54 =>
none) else
Option.bind (m_X_ring_least_greatest x_row x_many) fun r61 =>
match r61 with
| .error c69 => (some (.error c69))
| .ok y67 =>
none

def m__law_refused (x_way : Int) (x_row : (List Int)) (x_many : Th) (x_thing : Th) : Option Bool :=
Option.bind (m_X__law_told x_way x_row x_many x_thing) fun r5 =>
match r5 with
| .error c13 => (if ((!(Er.sub c13 .many)) || (!(Er.sub c13 .cut))) then (some false) else
some (!(List.any [Er.command, Er.number, Er.place, Er.text] (Er.sub c13))))
| .ok y11 =>
none

def m__law_deep (x_many : Int) : Option (List Th) :=
Option.bind (range1 x_many) fun x6 =>
Option.bind (foldO (fun (x11 : Int) (b9 : (List Th)) => some (List.map Co.f ([b9] : List (List Th)) : (List Th))) x6 ([] : List Th)) fun o14 =>
some o14

def m_law (x_script : Scr) : Option Bool :=
Option.bind (m__law_draws x_script) fun r3 =>
Option.bind (whileO (ρ := Bool) (fun (b11 : (List Int) × Int) => Option.bind (if decide (b11.2 < 1) then some true else Option.bind (eqO (b11.1 : (List Int)) (([] : List Int) : (List Int))) fun x31 => some (((!x31) && (decide (b11.2 < 6))))) fun x39 => if x39 then (Option.bind (m__law_row b11.1 120) fun r45 =>
Option.bind (m__law_pieces r45.2 r45.1) fun r55 =>
Option.bind (range1 5) fun x98 =>
Option.bind (forO (ρ := Bool) (fun (x103 : Int) (b101 : (List Int)) => Option.bind (atI ([r45.1, (sliceI r45.1 none (some 40))] : List (List Int)) (if (decide (x103 = 4)) then 1 else 0)) fun x118 =>
Option.bind (m__law_take b101 6) fun r123 =>
Option.bind (atI ([(Co.f ((("number" : PySem.Str), 0) : (PySem.Str × Int)) : Th), (Co.f (([] : List Int) : (List Int)) : Th), (Co.f (() : Unit) : Th), (Co.f (([0] : List Int) : (List Int)) : Th), (Co.f ((("stretches" : PySem.Str), ([] : List Int)) : (PySem.Str × (List Int))) : Th), (Th.dic [] [])] : List Th) r123.1) fun x132 =>
Option.bind (m__law_told x103 x118 (min r55.1 (lenI x118)) x132) fun r136 =>
Option.bind (reprU (([(Co.f (x118 : (List Int)) : Th), x132] : List Th) : (List Th))) fun x146 =>
Option.bind (m__law_no_many r123.2 (lenI x118)) fun r148 =>
Option.bind (forO (ρ := Bool) (fun (x161 : Th) (b159 : Unit) => Option.bind (m__law_refused x103 x118 x161 x132) fun r172 =>
Option.bind (if (!r172) then some true else Option.bind (reprU (([(Co.f (x118 : (List Int)) : Th), x132] : List Th) : (List Th))) fun x185 => some ((!decide (x185 = x146)))) fun x188 =>
if x188 then (some (.ret false)) else
some (.go ())) r148.1 ()) fun o164 =>
match o164 with
| .ret r => some (.ret r)
| .brk _ => none
| .go s195 => Option.bind (m__law_deep 3000) fun r200 =>
Option.bind (m__law_refused x103 x118 (Co.f (r200 : (List Th)) : Th) x132) fun r207 =>
Option.bind (if (!r207) then some true else Option.bind (m__law_told x103 x118 (min r55.1 (lenI x118)) x132) fun r216 => Option.bind (eqT (r216 : Th) (r136 : Th)) fun x222 => some ((!x222))) fun x225 =>
if x225 then (some (.ret false)) else
Option.bind (reprU (([(Co.f (x118 : (List Int)) : Th), x132] : List Th) : (List Th))) fun x235 =>
Option.bind (if (!decide (x235 = x146)) then some true else Option.bind (eqO (r45.1 : (List Int)) (r45.1 : (List Int))) fun x240 => some ((!x240))) fun x242 =>
if x242 then (some (.ret false)) else
some (.go r148.2)) x98 r55.2) fun o106 =>
match o106 with
| .ret r => some (.ret r)
| .brk _ => none
| .go s249 => some (.go (s249, (b11.2 + 1)))) else some (.brk (b11.1, b11.2))) fuelW (r3, 0)) fun o16 =>
match o16 with
| .ret r => some r
| .brk _ => none
| .go s256 => some true
/-! ### enums -/
theorem enum_at {α : Type} {xs : List α} {i : Nat} {x : Int × α} (h : (enumI 0 xs)[i]? = some x) : x.1 = i ∧ xs[i]? = some x.2 := by
  have key : ∀ (k : Int) (xs : List α) (i : Nat) (p : Int × α), (enumI k xs)[i]? = some p → p.1 = k + i ∧ xs[i]? = some p.2 := by
    intro k xs
    induction xs generalizing k with
    | nil => intro i p h; simp [enumI] at h
    | cons x xs ih =>
      intro i p h
      cases i with
      | zero => simp [enumI] at h; subst h; exact ⟨by simp, rfl⟩
      | succ i =>
        obtain ⟨h1, h2⟩ := ih (k + 1) i p (by simpa [enumI] using h)
        exact ⟨by rw [h1]; omega, by simpa using h2⟩
  have := key 0 xs i x h
  simpa using this
theorem enum_len {α : Type} (xs : List α) : (enumI 0 xs).length = xs.length := by
  have key : ∀ (k : Int) (xs : List α), (enumI k xs).length = xs.length := by
    intro k xs
    induction xs generalizing k with
    | nil => rfl
    | cons x xs ih => exact congrArg (· + 1) (ih (k + 1))
  exact key 0 xs
/-! ### need -/
theorem need_many_ok {ns : List Int} {m : Int} (h1 : 1 ≤ m) (h2 : m ≤ ns.length) : m_need_many ns m = some () := by
  first
    | unfold m_need_many m_is_whole
      rw [isi_int, isi_ib, show lenI ns = (ns.length : Int) from rfl, decide_eq_true h1, decide_eq_true h2]
      rfl
    | unfold m_need_many
      refine Ok.eq (Ok.bindE (x := true) rfl (Ok.iteF ?_ (Ok.some rfl)))
      rw [show lenI ns = (ns.length : Int) from rfl, decide_eq_true h1, decide_eq_true h2]
      rfl
/-- rows, a little wider than the laws draw them -/
def RowS (ns : List Int) : Prop := 1 ≤ ns.length ∧ ns.length ≤ 3000 ∧ ∀ n ∈ ns, 0 ≤ n ∧ n ≤ 1000000000000000000000000000
/-! ### rsum -/
theorem rsum_le {ns : List Int} {c : Int} (h : ∀ n ∈ ns, n ≤ c) : ns.sum ≤ ns.length * c := by
  induction ns with
  | nil => simp
  | cons x xs ih =>
    have := ih fun n hn => h n (List.mem_cons_of_mem _ hn)
    have := h x List.mem_cons_self
    rw [List.sum_cons, List.length_cons]
    have e : ((xs.length + 1 : Nat) : Int) * c = xs.length * c + c := by
      rw [Int.natCast_add, Int.add_mul]
      omega
    rw [e]
    omega
/-! ### greatest -/
theorem longcut_ok {ns : List Int} {b : Int} (hl : ns.length ≤ 3000) : m_long_cut ns b = some (lcut ns b) := by
  unfold m_long_cut
  have hen : ∀ (i : Nat) (x : Int × Int), (enumI 0 ns)[i]? = some x → x.1 = i ∧ ns[i]? = some x.2 := fun i x h => enum_at h
  have hL : (enumI 0 ns).length = ns.length := enum_len ns
  refine Ok.eq (Ok.bindE (forO_S (fun i => (gS (rowF ns) b i)) none rfl (fun i x s hx hs => ?_) fun i hi h => gS_none h (by omega)) ?_)
  · obtain ⟨h1, h2⟩ := hen i x hx
    obtain ⟨c, t⟩ := s
    have hi := (List.getElem?_eq_some_iff.mp h2).1
    have hg := rowF_get h2
    have hcl := gS_len hs
    show (if decide (x.2 > b) = true then _ else _) = _
    rw [gS, hs]
    dsimp only
    rw [hg, h1]
    by_cases h : x.2 > b
    · rw [if_pos (decide_eq_true h), if_pos h]
    · rw [if_neg (by rw [decide_eq_false h]; exact Bool.false_ne_true), if_neg h]
      by_cases h3 : t + x.2 > b
      · rw [if_pos h3, if_pos (decide_eq_true h3), appO_s (by omega)]
        show some (Ctl.go (_, 0 + x.2)) = _
        rw [Int.zero_add]
      · rw [if_neg h3, if_neg (by rw [decide_eq_false h3]; exact Bool.false_ne_true)]
        rfl
  · rw [hL]
    unfold lcut
    cases gS (rowF ns) b ns.length with
    | none => exact Ok.some rfl
    | some p => exact Ok.some rfl
theorem fewest_ok {ns : List Int} {b : Int} (hl : ns.length ≤ 3000) : m_fewest_pieces ns b = some (few ns b) := by
  unfold m_fewest_pieces few
  rw [longcut_ok hl]
  cases lcut ns b with
  | none => rfl
  | some c => rfl
theorem few_some {ns : List Int} {b : Int} (h1 : 1 ≤ ns.length) (h : ∀ n ∈ ns, n ≤ b) : ∃ m, few ns b = some m := by
  rw [few_eq h1]
  obtain ⟨p, hp⟩ := gS_all (a := rowF ns) (b := b) (m := ns.length) fun i hi => h _ (rowF_mem hi)
  exact ⟨_, fewS_of hp⟩
theorem RLe_up {a : Nat → Int} {b c : Int} {k p q : Nat} (h : b ≤ c) (hp : path (RLe a b) k p q) : path (RLe a c) k p q :=
  path_mono (fun x y _ _ _ r => by unfold RLe at *; omega) (Nat.le_refl _) hp
theorem path_small {a : Nat → Int} {b : Int} {n : Nat} (hn : ∀ i, i < n → 0 ≤ a i) : ∀ {k p : Nat}, path (RLe a b) k p n → ∀ i, p ≤ i → i < n → a i ≤ b
  | 0, p, h, i, h1, h2 => by
    have h : p = n := h
    omega
  | k + 1, p, ⟨e, g1, g2, g3, g4⟩, i, h1, h2 => by
    rcases Nat.lt_or_ge i e with h | h
    · have m1 := pre_mono hn h1 (by omega)
      have m2 := pre_mono hn (show i + 1 ≤ e by omega) g2
      have : pre a (i + 1) = pre a i + a i := rfl
      unfold RLe at g3
      omega
    · exact path_small hn g4 i h h2
theorem leastb_ok {ns : List Int} {k : Nat} (hr : RowS ns) (h1 : 1 ≤ k) (hk : k ≤ ns.length) :
    OkP (m_least_bound ns k) fun B => mxI ns ≤ B ∧ B ≤ ns.sum ∧ ∀ b, path (RLe (rowF ns) b) k 0 ns.length ↔ B ≤ b := by
  obtain ⟨hl1, hl2, hb⟩ := hr
  have hne : ns ≠ [] := by rintro rfl; simp at hl1
  have hn := rowF_nonneg (ns := ns) fun n h => (hb n h).1
  have hsum : ns.sum ≤ ns.length * 1000000000000000000000000000 := rsum_le fun n h => (hb n h).2
  have hmx : ∀ b, path (RLe (rowF ns) b) k 0 ns.length → mxI ns ≤ b := fun b h => by
    obtain ⟨i, hi, e⟩ := List.mem_iff_getElem.mp (mxI_mem hne)
    have := path_small hn h i (Nat.zero_le _) hi
    rw [rowF_get (List.getElem?_eq_getElem hi), e] at this
    exact this
  have htop : path (RLe (rowF ns) ns.sum) k 0 ns.length := by
    refine path_more hn (k := 1) (path_one.mpr ⟨by omega, ?_⟩) (Nat.le_refl _) (Nat.le_refl _) h1 (by omega)
    unfold RLe
    rw [sum_all]
    show pre (rowF ns) ns.length - 0 ≤ _
    omega
  unfold m_least_bound
  refine Ok.bindE (maxO_s hne) ?_
  refine Ok.bind (Ok.whileI (fun s => mxI ns ≤ s.2 ∧ s.2 ≤ s.1 ∧ s.1 ≤ ns.sum ∧ (∀ b, path (RLe (rowF ns) b) k 0 ns.length → s.2 ≤ b) ∧ path (RLe (rowF ns) s.1) k 0 ns.length)
    (fun s => mxI ns ≤ s.2 ∧ s.2 ≤ ns.sum ∧ ∀ b, path (RLe (rowF ns) b) k 0 ns.length ↔ s.2 ≤ b) (fun s => (s.1 - s.2).toNat) ⟨Int.le_refl _, hmx _ htop, Int.le_refl _, hmx, htop⟩ ?_ fun s hs => ?_) fun o ho => ?_
  · have h0 := hb _ (mxI_mem hne)
    have hmul : (ns.length : Int) * 1000000000000000000000000000 ≤ 3000 * 1000000000000000000000000000 := by omega
    show (ns.sum - mxI ns).toNat < 10 ^ 40
    omega
  · obtain ⟨h1', h2', h3', h4', h5'⟩ := hs
    refine Ok.ite (fun h => ?_) fun h => Ok.some ?_
    · have h := of_decide_eq_true h
      have hmid : mxI ns ≤ (s.2 + s.1) / 2 := by omega
      refine Ok.bindE (fewest_ok (by omega)) ?_
      obtain ⟨m, hm⟩ := few_some (b := (s.2 + s.1) / 2) hl1 fun n hn => Int.le_trans (mxI_le hn) hmid
      rw [hm]
      refine Ok.bindE rfl ?_
      have key : path (RLe (rowF ns) ((s.2 + s.1) / 2)) k 0 ns.length ↔ m ≤ k := by
        rw [few_iff hn h1 hk, ← few_eq hl1, hm]
        constructor
        · rintro ⟨m', e, h⟩
          cases e
          exact h
        · exact fun h => ⟨m, rfl, h⟩
      refine Ok.ite (fun h6 => Ok.some (.inl ⟨_, rfl, ⟨h1', by dsimp only; omega, by dsimp only; omega, h4', key.mpr (of_decide_eq_true h6)⟩, by dsimp only; omega⟩)) fun h6 => Ok.some (.inl ⟨_, rfl, ⟨by dsimp only; omega, by dsimp only; omega, h3', fun b hb => ?_, h5'⟩, by dsimp only; omega⟩)
      have h6 := of_decide_eq_false h6
      rcases Int.lt_or_le ((s.2 + s.1) / 2) b with h7 | h7
      · dsimp only
        omega
      · exact (h6 (key.mp (RLe_up h7 hb))).elim
    · have h := of_decide_eq_false h
      have e : s.2 = s.1 := by omega
      exact .inr ⟨_, rfl, h1', by dsimp only; omega, fun b => ⟨h4' b, fun hle => RLe_up (by dsimp only at hle; omega) h5'⟩⟩
  · obtain ⟨s, rfl, h⟩ := ho
    exact Ok.some h
theorem few_suffix {ns : List Int} {b : Int} {c k : Nat} (hn : ∀ i, i < ns.length → 0 ≤ rowF ns i) (h1 : 1 ≤ k) (hk : c + k ≤ ns.length) : path (RLe (rowF ns) b) k c ns.length ↔ ∃ m : Int, few (ns.drop c) b = some m ∧ m ≤ k := by
  rw [few_iff_sh hn h1 hk, few_eq (by rw [List.length_drop]; omega), rowF_drop, List.length_drop]
theorem early_ok {ns : List Int} {k : Nat} {B : Int} (hr : RowS ns) (h1 : 1 ≤ k) (hB : ∀ n ∈ ns, n ≤ B) (hp : path (RLe (rowF ns) B) k 0 ns.length) :
    OkP (m_early_cut ns k B) fun c => First (RLe (rowF ns) B) ns.length k 0 c := by
  obtain ⟨hl1, hl2, hb⟩ := hr
  have hn := rowF_nonneg (ns := ns) fun n h => (hb n h).1
  have hk := path_le hp
  unfold m_early_cut
  obtain ⟨k, rfl⟩ : ∃ j, k = j + 1 := ⟨k - 1, by omega⟩
  refine Ok.bindE (rangeD_s (by omega) (by omega) (by omega) (by omega)) ?_
  refine Ok.bind (Ok.foldI (fun i (s : Int × List Int) => ∃ p : Nat, s.1 = (p : Int) ∧ i ≤ k ∧ path (RLe (rowF ns) B) (k + 1 - i) p ns.length ∧ s.2.length = i ∧ ∀ c, First (RLe (rowF ns) B) ns.length (k + 1 - i) p c → First (RLe (rowF ns) B) ns.length (k + 1) 0 (s.2 ++ c)) ⟨0, rfl, Nat.zero_le _, hp, rfl, fun c h => h⟩ fun i x s hx hs => ?_) fun s hs => ?_
  · obtain ⟨p, hs1, hik, hpp, hlen, hfin⟩ := hs
    obtain ⟨hi, rfl⟩ := rangeB_get _ _ _ _ hx
    have hi' : i < k := by omega
    obtain ⟨m, hm⟩ : ∃ m, k - i = m + 1 := ⟨k - i - 1, by omega⟩
    rw [show k + 1 - i = m + 2 by omega] at hpp hfin
    obtain ⟨e0, g1, g2, g3, g4⟩ := hpp
    have hle := path_le g4
    rw [hs1]
    have hx2 : ((k + 1 : Nat) : Int) - 1 - (i : Int) = (m + 1 : Nat) := by omega
    rw [hx2]
    refine Ok.bind (Ok.whileI (fun (q : Int) => ∃ e : Nat, q = (e : Int) ∧ p < e ∧ e ≤ e0 ∧ ∀ e', p < e' → e' < e → ¬ path (RLe (rowF ns) B) (m + 1) e' ns.length)
      (fun (q : Int) => ∃ e : Nat, q = (e : Int) ∧ p < e ∧ e ≤ e0 ∧ path (RLe (rowF ns) B) (m + 1) e ns.length ∧ ∀ e', p < e' → e' < e → ¬ path (RLe (rowF ns) B) (m + 1) e' ns.length) (fun (q : Int) => ((e0 : Int) - q).toNat) ⟨p + 1, by omega, by omega, by omega, fun e' h1 h2 => by omega⟩ (by show _ < 10 ^ 40; omega) fun q hq => ?_) fun o ho => ?_
    · obtain ⟨e, rfl, q1, q2, q3⟩ := hq
      rw [sliceI_from (by omega), Int.toNat_natCast]
      refine Ok.bindE (fewest_ok (by rw [List.length_drop]; omega)) ?_
      obtain ⟨c, hc⟩ := few_some (ns := ns.drop e) (b := B) (by rw [List.length_drop]; omega) fun n hn => hB n (List.mem_of_mem_drop hn)
      rw [hc]
      refine Ok.bindE rfl ?_
      have key : path (RLe (rowF ns) B) (m + 1) e ns.length ↔ c ≤ (m + 1 : Nat) := by
        rw [few_suffix hn (by omega) (by omega), hc]
        constructor
        · rintro ⟨m', e, h⟩
          cases e
          exact h
        · exact fun h => ⟨c, rfl, h⟩
      refine Ok.ite (fun h => Ok.some (.inl ?_)) fun h => Ok.some (.inr ⟨_, rfl, e, rfl, q1, q2, key.mpr (by have := of_decide_eq_false h; omega), q3⟩)
      have h := of_decide_eq_true h
      have hnp : ¬ path (RLe (rowF ns) B) (m + 1) e ns.length := fun z => by
        have := key.mp z
        omega
      have hee : e ≠ e0 := fun z => hnp (by rw [z]; exact g4)
      refine ⟨_, rfl, ⟨e + 1, by omega, by omega, by omega, fun e' h1 h2 => ?_⟩, by omega⟩
      by_cases z : e' = e
      · rw [z]; exact hnp
      · exact q3 e' h1 (by omega)
    · obtain ⟨q, rfl, e, rfl, q1, q2, q3, q4⟩ := ho
      refine Ok.bindE (appO_s (by omega)) (Ok.some ⟨e, rfl, by omega, ?_, ?_, fun c hc => ?_⟩)
      · rw [show k + 1 - (i + 1) = m + 1 by omega]
        exact q3
      · rw [List.length_append, hlen]
        rfl
      · rw [show k + 1 - (i + 1) = m + 1 by omega] at hc
        rw [List.append_assoc]
        refine hfin _ ⟨e, c, rfl, q1, by omega, ?_, q3, fun e' h1 h2 h3 => q4 e' h1 h2 h3.2, hc⟩
        have := pre_mono hn q2 g2
        unfold RLe at *
        omega
  · obtain ⟨p, hs1, hik, hpp, hlen, hfin⟩ := hs
    rw [rangeB_len] at hpp hfin hlen
    rw [show k + 1 - (((k + 1 : Nat) : Int) - 1 - 0).toNat = 1 by omega] at hfin
    have := hfin [] rfl
    rw [List.append_nil] at this
    exact Ok.some this
/-- what least_greatest tells -/
def IsLG (ns : List Int) (k : Nat) (r : Int × List Int) : Prop := mxI ns ≤ r.1 ∧ r.1 ≤ ns.sum ∧ (∀ b, path (RLe (rowF ns) b) k 0 ns.length ↔ r.1 ≤ b) ∧ First (RLe (rowF ns) r.1) ns.length k 0 r.2
theorem IsLG.uniq {ns : List Int} {k : Nat} {r s : Int × List Int} (h : IsLG ns k r) (g : IsLG ns k s) : r = s := by
  obtain ⟨r1, r2⟩ := r
  obtain ⟨s1, s2⟩ := s
  obtain ⟨_, _, h1, h2⟩ := h
  obtain ⟨_, _, g1, g2⟩ := g
  have e1 : r1 = s1 := by
    have a1 : s1 ≤ r1 := (g1 r1).mp ((h1 r1).mpr (Int.le_refl _))
    have a2 : r1 ≤ s1 := (h1 s1).mp ((g1 s1).mpr (Int.le_refl _))
    omega
  subst e1
  have e2 : r2 = s2 := First.uniq h2 g2
  rw [e2]
theorem leastg_ok {ns : List Int} {m : Int} (hr : RowS ns) (h1 : 1 ≤ m) (hk : m ≤ ns.length) : OkP (m_least_greatest ns m) (IsLG ns m.toNat) := by
  obtain ⟨k, rfl⟩ : ∃ k : Nat, m = k := ⟨m.toNat, by omega⟩
  unfold m_least_greatest
  refine Ok.bindE (need_many_ok h1 hk) (Ok.bind (leastb_ok hr (by omega) (by omega)) fun B hB => ?_)
  refine Ok.bind (early_ok hr (by omega) (fun n hn => Int.le_trans (mxI_le hn) hB.1) ((hB.2.2 B).mpr (Int.le_refl _))) fun c hc => Ok.some ⟨hB.1, hB.2.1, hB.2.2, hc⟩
/-! ### ringp -/
/-! a ring in at most m pieces, none over b -/
def RP (ns : List Int) (b : Int) (m : Nat) : Prop := ∃ U V T, ns = U ++ V ∧ (T : List (List Int)).flatten = V ++ U ∧ T.length ≤ m ∧ ∀ x ∈ T, x.sum ≤ b
def rot (p : Nat) (ns : List Int) : List Int := ns.drop p ++ ns.take p
theorem rot_len (p : Nat) (ns : List Int) : (rot p ns).length = ns.length := by
  unfold rot
  rw [List.length_append, List.length_drop, List.length_take]
  omega
theorem parts_path {W : List Int} {b : Int} : ∀ {T : List (List Int)} {P : List Int}, W = P ++ T.flatten → (∀ x ∈ T, x ≠ [] ∧ x.sum ≤ b) → path (RLe (rowF W) b) T.length P.length W.length
  | [], P, e, _ => by
    show P.length = W.length
    rw [e]
    simp
  | x :: T, P, e, h => by
    obtain ⟨h1, h2⟩ := h x List.mem_cons_self
    have hx := List.length_pos_iff.mpr h1
    have hl : P.length + x.length ≤ W.length := by rw [e]; simp
    refine ⟨P.length + x.length, by omega, hl, ?_, ?_⟩
    · have := sum_part (ns := W) (i := P.length) (j := P.length + x.length) (by omega) hl
      rw [Nat.add_sub_cancel_left, e, List.drop_left, List.flatten_cons, List.take_left, ← List.flatten_cons, ← e] at this
      unfold RLe
      omega
    · have := parts_path (W := W) (T := T) (P := P ++ x) (by rw [e]; simp) fun y hy => h y (List.mem_cons_of_mem _ hy)
      rwa [List.length_append] at this
theorem ct_psums {ns : List Int} {b : Int} : ∀ {c : List Int} {p : Nat}, Ct (RLe (rowF ns) b) ns.length p c → ∃ T : List (List Int), T.flatten = ns.drop p ∧ T.length = c.length + 1 ∧ ∀ x ∈ T, x.sum ≤ b
  | [], p, ⟨h1, h2⟩ => by
    refine ⟨[ns.drop p], by simp, rfl, fun x hx => ?_⟩
    rw [List.mem_singleton.mp hx]
    have := sum_part (ns := ns) (i := p) (j := ns.length) (by omega) (Nat.le_refl _)
    rw [List.take_of_length_le (by rw [List.length_drop]; omega)] at this
    unfold RLe at h2
    omega
  | x :: c, p, h => by
    obtain ⟨e, rfl, h1, h2, h3, h4⟩ := h
    obtain ⟨T, t1, t2, t3⟩ := ct_psums h4
    refine ⟨(ns.drop p).take (e - p) :: T, ?_, by rw [List.length_cons, t2]; rfl, fun x hx => ?_⟩
    · rw [List.flatten_cons, t1]
      have := List.take_append_drop (e - p) (ns.drop p)
      rw [List.drop_drop, show p + (e - p) = e by omega] at this
      exact this
    · rcases List.mem_cons.mp hx with rfl | hx
      · rw [sum_part (by omega) (by omega)]
        unfold RLe at h3
        exact h3
      · exact t3 x hx
theorem flatten_filter : ∀ T : List (List Int), (T.filter fun x => decide (x ≠ [])).flatten = T.flatten
  | [] => rfl
  | x :: T => by
    by_cases h : x = []
    · rw [List.filter_cons_of_neg (by simp [h]), flatten_filter T, h]
      rfl
    · rw [List.filter_cons_of_pos (by simp [h]), List.flatten_cons, flatten_filter T, List.flatten_cons]
theorem RP_iff {ns : List Int} {b : Int} {m : Nat} (hn : ∀ n ∈ ns, 0 ≤ n) (h1 : 1 ≤ m) (h2 : m ≤ ns.length) : (∃ p, p < ns.length ∧ path (RLe (rowF (rot p ns)) b) m 0 ns.length) ↔ RP ns b m := by
  constructor
  · rintro ⟨p, hp, h⟩
    obtain ⟨k, rfl⟩ : ∃ k, m = k + 1 := ⟨m - 1, by omega⟩
    obtain ⟨c, hc, h3⟩ := Ct.of_path h
    rw [← rot_len p ns] at h3
    obtain ⟨T, t1, t2, t3⟩ := ct_psums h3
    exact ⟨ns.take p, ns.drop p, T, (List.take_append_drop p ns).symm, t1, by omega, t3⟩
  · rintro ⟨U, V, T, e, t1, t2, t3⟩
    have key : ∀ p, p < ns.length → rot p ns = V ++ U → ∃ p, p < ns.length ∧ path (RLe (rowF (rot p ns)) b) m 0 ns.length := fun p hp he => by
      refine ⟨p, hp, ?_⟩
      have hT : (T.filter fun x => decide (x ≠ [])).flatten = V ++ U := by rw [flatten_filter, t1]
      have hpath := parts_path (W := V ++ U) (b := b) (P := []) hT.symm fun x hx => by
        have := List.mem_filter.mp hx
        exact ⟨of_decide_eq_true this.2, t3 x this.1⟩
      have hl : (V ++ U).length = ns.length := by rw [e, List.length_append, List.length_append]; omega
      rw [hl] at hpath
      rw [he]
      have hnn : ∀ i, i < ns.length → 0 ≤ rowF (V ++ U) i := by
        rw [← hl]
        exact rowF_nonneg fun n hx => hn n (by rw [e]; rcases List.mem_append.mp hx with h | h <;> simp [h])
      have hk1 : 1 ≤ (T.filter fun x => decide (x ≠ [])).length := by
        rcases Nat.eq_zero_or_pos (T.filter fun x => decide (x ≠ [])).length with h0 | h0
        · rw [h0] at hpath
          have : (0 : Nat) = ns.length := hpath
          omega
        · exact h0
      exact path_more hnn hpath (Nat.le_refl _) hk1 (Nat.le_trans (List.length_filter_le _ _) t2) (by omega)
    by_cases hV : V = []
    · refine key 0 (by omega) ?_
      unfold rot
      rw [hV, e, hV]
      simp
    · have := List.length_pos_iff.mpr hV
      refine key U.length (by rw [e, List.length_append]; omega) ?_
      unfold rot
      rw [e, List.drop_left, List.take_left]
/-- one number gives place to others whose sum is no greater -/
theorem parts_subst {b v : Int} {w : List Int} (hw : w.sum ≤ v) : ∀ {T : List (List Int)} {A B : List Int}, T.flatten = A ++ v :: B → (∀ x ∈ T, x.sum ≤ b) → ∃ T' : List (List Int), T'.flatten = A ++ (w ++ B) ∧ T'.length = T.length ∧ ∀ x ∈ T', x.sum ≤ b
  | [], A, B, e, _ => by
    have := congrArg List.length e
    simp at this
  | x :: T, A, B, e, h => by
    rw [List.flatten_cons] at e
    rcases List.append_eq_append_iff.mp e with ⟨A', e1, e2⟩ | ⟨C', e1, e2⟩
    · obtain ⟨T', t1, t2, t3⟩ := parts_subst hw e2 fun y hy => h y (List.mem_cons_of_mem _ hy)
      refine ⟨x :: T', by rw [List.flatten_cons, t1, e1, List.append_assoc], by rw [List.length_cons, t2]; rfl, fun y hy => ?_⟩
      rcases List.mem_cons.mp hy with rfl | hy
      · exact h _ List.mem_cons_self
      · exact t3 y hy
    · cases C' with
      | nil =>
        rw [List.append_nil] at e1
        obtain ⟨T', t1, t2, t3⟩ := parts_subst (A := []) hw e2.symm fun y hy => h y (List.mem_cons_of_mem _ hy)
        refine ⟨x :: T', by rw [List.flatten_cons, t1, e1]; rfl, by rw [List.length_cons, t2]; rfl, fun y hy => ?_⟩
        rcases List.mem_cons.mp hy with rfl | hy
        · exact h _ List.mem_cons_self
        · exact t3 y hy
      | cons z C =>
        rw [List.cons_append] at e2
        obtain ⟨rfl, e3⟩ := List.cons.inj e2
        refine ⟨(A ++ (w ++ C)) :: T, by rw [List.flatten_cons, e3]; simp, rfl, fun y hy => ?_⟩
        rcases List.mem_cons.mp hy with rfl | hy
        · have := h x List.mem_cons_self
          rw [e1, List.sum_append, List.sum_cons] at this
          rw [List.sum_append, List.sum_append]
          omega
        · exact h y (List.mem_cons_of_mem _ hy)
theorem RP_subst {X Y w : List Int} {v b : Int} {m : Nat} (hw : w.sum ≤ v) (h : RP (X ++ v :: Y) b m) : RP (X ++ (w ++ Y)) b m := by
  obtain ⟨U, V, T, e, t1, t2, t3⟩ := h
  rcases List.append_eq_append_iff.mp e with ⟨A', e1, e2⟩ | ⟨C', e1, e2⟩
  · cases A' with
    | nil =>
      rw [List.append_nil] at e1
      rw [List.nil_append] at e2
      rw [← e2, List.cons_append] at t1
      obtain ⟨T', g1, g2, g3⟩ := parts_subst (A := []) hw t1 t3
      exact ⟨X, w ++ Y, T', rfl, by rw [g1, e1]; simp, by omega, g3⟩
    | cons z A =>
      rw [List.cons_append] at e2
      obtain ⟨rfl, e3⟩ := List.cons.inj e2
      rw [e1, ← List.append_assoc] at t1
      obtain ⟨T', g1, g2, g3⟩ := parts_subst (A := V ++ X) hw t1 t3
      exact ⟨X ++ (w ++ A), V, T', by rw [e3]; simp, by rw [g1]; simp, by omega, g3⟩
  · rw [e2, List.append_assoc, List.cons_append] at t1
    obtain ⟨T', g1, g2, g3⟩ := parts_subst hw t1 t3
    exact ⟨U, C' ++ (w ++ Y), T', by rw [e1]; simp, by rw [g1]; simp, by omega, g3⟩
theorem parts_zero {b : Int} : ∀ {T : List (List Int)} {A B : List Int}, T ≠ [] → T.flatten = A ++ B → (∀ x ∈ T, x.sum ≤ b) → ∃ T' : List (List Int), T'.flatten = A ++ 0 :: B ∧ T'.length = T.length ∧ ∀ x ∈ T', x.sum ≤ b
  | [], A, B, h0, _, _ => absurd rfl h0
  | x :: T, A, B, _, e, h => by
    have hx := h x List.mem_cons_self
    have ht := fun y hy => h y (List.mem_cons_of_mem _ hy)
    rw [List.flatten_cons] at e
    rcases List.append_eq_append_iff.mp e with ⟨A', e1, e2⟩ | ⟨C', e1, e2⟩
    · by_cases hT : T = []
      · subst hT
        have e2 : [] = A' ++ B := e2
        obtain ⟨rfl, rfl⟩ := List.append_eq_nil_iff.mp e2.symm
        refine ⟨[x ++ [0]], by rw [e1]; simp, rfl, fun y hy => ?_⟩
        rw [List.mem_singleton.mp hy, List.sum_append]
        simp
        exact hx
      · obtain ⟨T', t1, t2, t3⟩ := parts_zero hT e2 ht
        refine ⟨x :: T', by rw [List.flatten_cons, t1, e1, List.append_assoc], by rw [List.length_cons, t2]; rfl, fun y hy => ?_⟩
        rcases List.mem_cons.mp hy with rfl | hy
        · exact hx
        · exact t3 y hy
    · refine ⟨(A ++ 0 :: C') :: T, by rw [List.flatten_cons, e2]; simp, rfl, fun y hy => ?_⟩
      rcases List.mem_cons.mp hy with rfl | hy
      · rw [e1, List.sum_append] at hx
        rw [List.sum_append, List.sum_cons]
        omega
      · exact ht y hy
theorem RP_zero {X Y : List Int} {b : Int} {m : Nat} (hne : X ++ Y ≠ []) (h : RP (X ++ Y) b m) : RP (X ++ 0 :: Y) b m := by
  obtain ⟨U, V, T, e, t1, t2, t3⟩ := h
  have hT : T ≠ [] := fun h0 => by
    rw [h0] at t1
    obtain ⟨rfl, rfl⟩ := List.append_eq_nil_iff.mp t1.symm
    exact hne e
  rcases List.append_eq_append_iff.mp e with ⟨A', e1, e2⟩ | ⟨C', e1, e2⟩
  · rw [e1, ← List.append_assoc] at t1
    obtain ⟨T', g1, g2, g3⟩ := parts_zero hT t1 t3
    exact ⟨X ++ 0 :: A', V, T', by rw [e2]; simp, by rw [g1]; simp, by omega, g3⟩
  · rw [e2, List.append_assoc] at t1
    obtain ⟨T', g1, g2, g3⟩ := parts_zero hT t1 t3
    exact ⟨U, C' ++ 0 :: Y, T', by rw [e1]; simp, by rw [g1]; simp, by omega, g3⟩
theorem RP_twice {ns : List Int} {b : Int} {m : Nat} (h : RP ns b m) : RP (ns ++ ns) b (2 * m) := by
  obtain ⟨U, V, T, e, t1, t2, t3⟩ := h
  refine ⟨U, V ++ U ++ V, T ++ T, by rw [e]; simp, by rw [List.flatten_append, t1]; simp, by rw [List.length_append]; omega, fun x hx => ?_⟩
  rcases List.mem_append.mp hx with hx | hx <;> exact t3 x hx
/-! ### rowdef -/
/-- a row as the laws draw it -/
def Row (ns : List Int) : Prop := 1 ≤ ns.length ∧ ns.length ≤ 120 ∧ ∀ n ∈ ns, 0 ≤ n ∧ n ≤ 1000000000000
/-! ### pops -/
theorem pop_s {α : Type} {xs : List α} {i : Int} {x : α} (h : xs[i.toNat]? = some x) (h0 : 0 ≤ i) (hl : xs.length < 4611686018427387904) : popO xs i = some (x, xs.eraseIdx i.toNat) := by
  have hn := (List.getElem?_eq_some_iff.mp h).1
  have e : seqIndex? i xs.length = some i.toNat := by
    unfold seqIndex?
    rw [if_neg (by omega : ¬ i < 0)]
    exact if_pos (by rw [Bool.and_eq_true, decide_eq_true_eq, decide_eq_true_eq]; omega)
  unfold popO
  rw [if_pos ⟨by omega, by omega⟩, e]
  show (xs[i.toNat]?).map _ = _
  rw [h]
  rfl
theorem erase_perm {α : Type} {xs : List α} {k : Nat} {x : α} (h : xs[k]? = some x) : (x :: xs.eraseIdx k).Perm xs := by
  induction xs generalizing k with
  | nil => simp at h
  | cons y ys ih =>
    cases k with
    | zero => simp at h; subst h; exact .refl _
    | succ k => exact (List.Perm.swap y x _).trans ((ih (by simpa using h)).cons y)
/-! ### draws -/
theorem mapA_ok {α γ : Type} {f : α → Option γ} {xs : List α} (P : γ → Prop) (hz : xs.length ≤ 16777216) (h : ∀ x ∈ xs, OkP (f x) P) : OkP (mapO f xs) fun ys => ys.length = xs.length ∧ ∀ y ∈ ys, P y := by
  rw [mapO, if_pos (show xs.length ≤ sizeLine from hz)]
  clear hz
  induction xs with
  | nil => exact ⟨_, rfl, rfl, fun _ h => nomatch h⟩
  | cons x xs ih =>
    obtain ⟨y, e, hy⟩ := h x List.mem_cons_self
    obtain ⟨ys, e2, h3, h4⟩ := ih fun y hy => h y (List.mem_cons_of_mem _ hy)
    refine ⟨y :: ys, ?_, ?_, ?_⟩
    · rw [mapG, e]
      show (mapG f xs).bind _ = _
      rw [e2]
      rfl
    · show ys.length + 1 = xs.length + 1
      rw [h3]
    · intro z hz
      rcases List.mem_cons.mp hz with rfl | hz
      · exact hy
      · exact h4 z hz
/-! drawing by a list of figures -/
def Ds (ds : List Int) : Prop := (∀ d ∈ ds, 0 ≤ d ∧ d < 1000) ∧ ds.length ≤ 240
theorem draws_ok (ns : List Int) (hl : ns.length ≤ 63) : OkP (m__law_draws ⟨ns⟩) Ds := by
  unfold m__law_draws
  have hL : lenI ns = (ns.length : Int) := rfl
  have fin : ∀ ds : List Int, (∀ d ∈ ds, 0 ≤ d ∧ d < 1000) → Ds (sliceI ds none (some 240)) := fun ds h => by
    rw [sliceI_to (by decide)]
    exact ⟨fun d hd => h d (List.mem_of_mem_take hd), by rw [List.length_take]; show min 240 _ ≤ _; omega⟩
  refine Ok.bindE (range1_s (by dsimp only; omega) (by dsimp only; omega)) ?_
  refine Ok.bind (Ok.foldI (fun i ds => (∀ d ∈ ds, 0 ≤ d ∧ d < 1000) ∧ ds.length ≤ 100 * i) ⟨fun d hd => (nomatch hd), by simp⟩ fun i x ds hx hds => ?_) fun ds hds => Ok.some (fin ds hds.1)
  obtain ⟨hi, rfl⟩ := rangeF_get _ _ _ _ hx
  have hi : i < ns.length := by dsimp only at hi; omega
  obtain ⟨hd1, hd2⟩ := hds
  have app : ∀ (ds : List Int) (v : Int), (∀ d ∈ ds, 0 ≤ d ∧ d < 1000) → 0 ≤ v → v < 1000 → ∀ d ∈ ds ++ [v], 0 ≤ d ∧ d < 1000 := fun ds v h h0 h1 d hd => by
    rcases List.mem_append.mp hd with hd | hd
    · exact h d hd
    · rw [List.mem_singleton.mp hd]; exact ⟨h0, h1⟩
  refine Ok.bindE (atI_get (n := i) (List.getElem?_eq_getElem hi) (by omega)) ?_
  generalize ns[i] = c
  have habs : 0 ≤ (if c < 0 then -c else c) := by split <;> omega
  generalize (if c < 0 then -c else c) = rest at habs
  refine Ok.ite (fun h => ?_) fun h => ?_
  · have h := of_decide_eq_true h
    have m1 : ∀ x : Int, 0 ≤ x % 2147483647 ∧ x % 2147483647 < 2147483647 := fun x => ⟨Int.emod_nonneg _ (by decide), Int.emod_lt_of_pos _ (by decide)⟩
    have m2 : ∀ x : Int, 0 ≤ x % 2147483629 ∧ x % 2147483629 < 2147483629 := fun x => ⟨Int.emod_nonneg _ (by decide), Int.emod_lt_of_pos _ (by decide)⟩
    have m3 : ∀ x : Int, 0 ≤ x % 2147483587 ∧ x % 2147483587 < 2147483587 := fun x => ⟨Int.emod_nonneg _ (by decide), Int.emod_lt_of_pos _ (by decide)⟩
    have m4 : ∀ x : Int, 0 ≤ x % 1000 ∧ x % 1000 < 1000 := fun x => ⟨Int.emod_nonneg _ (by decide), Int.emod_lt_of_pos _ (by decide)⟩
    refine Ok.bindE (mulO_s (by decide) (by omega)) ?_
    have hki : 0 ≤ (0 : Int) + (i : Nat) ∧ (0 : Int) + (i : Nat) ≤ 63 := by omega
    generalize (0 : Int) + (i : Nat) = ki at hki
    refine Ok.bindE (mulO_s (by have := m1 (rest + 7919 * ki + 3); omega) (by decide)) ?_
    generalize (rest + 7919 * ki + 3) % 2147483647 * 48271 = s1
    refine Ok.bindE (mulO_s (by have := m1 s1; omega) (by have := m1 s1; omega)) ?_
    generalize s1 % 2147483647 * (s1 % 2147483647) = s2
    refine Ok.bindE (appO_s (by omega)) (Ok.bindE (appO_s (by simp; omega)) ?_)
    refine Ok.bindE (mulO_s (by decide) (by omega)) ?_
    · generalize 40692 * (ki + 7) = x
      refine Ok.bindE (mulO_s (by have := m3 (s2 % 2147483629 + x); omega) (by have := m3 (s2 % 2147483629 + x); omega)) (Ok.bindE (appO_s (by simp; omega)) (Ok.some ⟨app _ _ (app _ _ (app _ _ hd1 (m4 _).1 (m4 _).2) (m4 _).1 (m4 _).2) (m4 _).1 (m4 _).2, by simp; omega⟩))
  · refine Ok.bind (Ok.whileI (fun (s : List Int × Int × Int) => (∀ d ∈ s.1, 0 ≤ d ∧ d < 1000) ∧ (s.1.length : Int) ≤ ds.length + s.2.1 ∧ 0 ≤ s.2.1 ∧ s.2.1 ≤ 60) (fun s => (∀ d ∈ s.1, 0 ≤ d ∧ d < 1000) ∧ s.1.length ≤ ds.length + 60) (fun s => (60 - s.2.1).toNat) ⟨hd1, by simp, Int.le_refl _, by show (0 : Int) ≤ 60; decide⟩ (Nat.lt_of_lt_of_le (show (60 - (0 : Int)).toNat < 100 by decide) (by decide)) fun s hs => ?_) fun o ho => ?_
    · obtain ⟨s1, s2, s3, s4⟩ := hs
      refine Ok.ite (fun h => ?_) fun h => Ok.some (.inr ⟨_, rfl, s1, by dsimp only; omega⟩)
      rw [Bool.and_eq_true, decide_eq_true_eq, decide_eq_true_eq] at h
      refine Ok.bindE (appO_s (by omega)) (Ok.some (.inl ⟨_, rfl, ⟨app _ _ s1 (Int.emod_nonneg _ (by decide)) (Int.emod_lt_of_pos _ (by decide)), by simp; omega, by dsimp only; omega, by dsimp only; omega⟩, by dsimp only; omega⟩))
    · obtain ⟨s, rfl, s1, s2⟩ := ho
      exact Ok.some ⟨s1, by omega⟩
theorem take_ok {ds : List Int} {m : Int} (h : Ds ds) (hm : 0 < m) : OkP (m__law_take ds m) fun r => 0 ≤ r.1 ∧ r.1 < m ∧ Ds r.2 := by
  unfold m__law_take
  cases ds with
  | nil => exact Ok.bindE (eqO_E _ _) (Ok.iteT (decide_eq_true rfl) (Ok.some ⟨Int.le_refl _, hm, h⟩))
  | cons d ds =>
    have hl := h.2
    have hp : popO (d :: ds) 0 = some (d, ds) := pop_s (x := d) (i := 0) rfl (by decide) (by simp at hl ⊢; omega)
    refine Ok.bindE (eqO_E _ _) (Ok.iteF (decide_eq_false (by simp)) (Ok.bindE hp (Ok.bindE (modO_s hm) (Ok.some ⟨Int.emod_nonneg _ (by omega), Int.emod_lt_of_pos _ hm, fun x hx => h.1 x (List.mem_cons_of_mem _ hx), ?_⟩))))
    have := h.2
    simp at this ⊢
    omega
theorem drow_ok {ds : List Int} {most : Int} (h : Ds ds) (hm : 1 ≤ most) (hm2 : most ≤ 120) : OkP (m__law_row ds most) fun r => Row r.1 ∧ (r.1.length : Int) ≤ most ∧ Ds r.2 := by
  unfold m__law_row
  refine Ok.bind (take_ok h (by decide)) fun r1 h1 => ?_
  refine Ok.bind (P := fun s => Ds s.1 ∧ 1 ≤ s.2 ∧ s.2 ≤ most) (Ok.bind (take_ok h1.2.2 (by decide)) fun r2 h2 => Ok.ite (fun _ => ?_) fun _ => Ok.some ⟨h2.2.2, by dsimp only; omega, by dsimp only; omega⟩) fun s hs => ?_
  · refine Ok.bind (take_ok h2.2.2 (by omega)) fun r3 h3 => Ok.bind (take_ok h3.2.2 (by decide)) fun r4 h4 => Ok.bind (atI_bnd (lo := 1) (hi := most) (fun n hn => ?_) h4.1 h4.2.1) fun x hx => Ok.some ⟨h4.2.2, hx⟩
    simp at hn
    omega
  refine Ok.bind (take_ok hs.1 (by decide)) fun r3 h3 => ?_
  refine Ok.bind (atI_bnd (lo := 1) (hi := 1000000000001) (by decide) h3.1 h3.2.1) fun b hb => ?_
  refine Ok.bind (take_ok h3.2.2 (by decide)) fun r4 h4 => Ok.bind (take_ok h4.2.2 (by decide)) fun r5 h5 => Ok.bind (take_ok h5.2.2 (by decide)) fun r6 h6 => Ok.bind (take_ok h6.2.2 (by decide)) fun r7 h7 => Ok.bind (take_ok h7.2.2 (by decide)) fun r8 h8 => Ok.bind (take_ok h8.2.2 (by decide)) fun r9 h9 => Ok.bind (take_ok h9.2.2 (by decide)) fun r10 h10 => ?_
  refine Ok.bind (atI_bnd (lo := 1) (hi := 20) (fun n hn => by simp at hn; omega) h10.1 h10.2.1) fun w hw => ?_
  refine Ok.bindE (range1_s (by omega) (by omega)) ?_
  refine Ok.bind (Ok.foldI (fun i (b : Int × List Int × List Int) => 1 ≤ b.1 ∧ b.1 ≤ 1000000000001 ∧ Ds b.2.1 ∧ b.2.2.length = i ∧ ∀ n ∈ b.2.2, 0 ≤ n ∧ n ≤ 1000000000000) ⟨hb.1, hb.2, h10.2.2, rfl, fun n hn => nomatch hn⟩ fun i x b hx hb => ?_) fun o ho => ?_
  · obtain ⟨hi1, rfl⟩ := rangeF_get _ _ _ _ hx
    obtain ⟨b1, b2, b3, b4, b5⟩ := hb
    have hx0 : 0 ≤ (0 : Int) + (i : Nat) ∧ (0 : Int) + (i : Nat) ≤ 120 := by omega
    generalize (0 : Int) + (i : Nat) = x at hx0
    refine Ok.bindE (fdivO_s (by omega) (by omega)) ?_
    have hk0 := Int.ediv_nonneg hx0.1 (show 0 ≤ w by omega)
    have hk1 : x / w ≤ x := Int.ediv_le_self _ hx0.1
    generalize x / w = k at hk0 hk1
    have hkk : 0 ≤ k * k ∧ k * k ≤ 14400 := ⟨Int.mul_nonneg hk0 hk0, Int.le_trans (Int.mul_le_mul (show k ≤ 120 by omega) (show k ≤ 120 by omega) hk0 (by decide)) (by decide)⟩
    refine Ok.bindE (mulO_s (by omega) (by omega)) (Ok.bindE (mulO_s (by omega) (by omega)) (Ok.bindE (mulO_s (by omega) (by omega)) (Ok.bindE (mulO_s (by omega) (by decide)) ?_)))
    have htn := Int.emod_nonneg (k * k * r5.1 + k * (1 + r6.1) + k / 7 * 31 + r7.1) (show (9973 : Int) ≠ 0 by decide)
    have htl := Int.emod_lt_of_pos (k * k * r5.1 + k * (1 + r6.1) + k / 7 * 31 + r7.1) (show (0 : Int) < 9973 by decide)
    generalize (k * k * r5.1 + k * (1 + r6.1) + k / 7 * 31 + r7.1) % 9973 = t at htn htl
    refine Ok.bind (P := fun s => 1 ≤ s ∧ s ≤ 1000000000001) (Ok.ite (fun _ => ?_) fun _ => Ok.some ⟨b1, b2⟩) fun c hc => ?_
    · refine Ok.bindE (mulO_s (by omega) (by omega)) (Ok.bind (atI_bnd (lo := 1) (hi := 1000000000001) (by decide) ?_ ?_) fun y hy => Ok.some hy)
      · exact Int.emod_nonneg _ (by decide)
      · exact Int.emod_lt_of_pos _ (by decide)
    refine Ok.bind (P := fun s => Ds s.1 ∧ 0 ≤ s.2 ∧ s.2 ≤ 9972) (Ok.ite (fun _ => Ok.bind (take_ok b3 (by decide)) fun r11 h11 => Ok.some ⟨h11.2.2, h11.1, by have := h11.2.1; dsimp only; omega⟩) fun _ => Ok.some ⟨b3, htn, by dsimp only; omega⟩) fun q hq => ?_
    refine Ok.bindE (modO_s (by omega)) ?_
    have m0 := Int.emod_nonneg q.2 (show c ≠ 0 by omega)
    have m1 := Int.emod_lt_of_pos q.2 (show 0 < c by omega)
    have d0 := Int.ediv_nonneg (show 0 ≤ c by omega) (show (0 : Int) ≤ 9973 by decide)
    have d1 : c / 9973 ≤ 100270730 := by omega
    refine Ok.bindE (mulO_s (by omega) (by omega)) ?_
    have p0 := Int.mul_nonneg hq.2.1 d0
    have p1 : q.2 * (c / 9973) ≤ 9972 * 100270730 := Int.mul_le_mul hq.2.2 d1 d0 (by decide)
    refine Ok.bind (atI_bnd (lo := 0) (hi := 1000000000000) (fun n hn => ?_) (by split <;> omega) (by simp; split <;> omega)) fun y hy => ?_
    · simp at hn
      omega
    refine Ok.bind (atI_bnd (lo := 0) (hi := 1000000000000) (fun n hn => ?_) (by split <;> omega) (by simp; split <;> omega)) fun z hz => ?_
    · simp at hn
      omega
    refine Ok.bindE (appO_s (by omega)) (Ok.some ⟨hc.1, hc.2, hq.1, by simp; omega, fun n hn => ?_⟩)
    rcases List.mem_append.mp hn with hn | hn
    · exact b5 n hn
    · rw [List.mem_singleton.mp hn]; exact hz
  · rw [rangeF_len] at ho
    obtain ⟨_, _, o3, o4, o5⟩ := ho
    refine Ok.bind (take_ok o3 (by decide)) fun r11 h11 => ?_
    have fin : ∀ (xs : List Int), xs.length = o.2.2.length → (∀ n ∈ xs, 0 ≤ n ∧ n ≤ 1000000000000) → Row xs ∧ (xs.length : Int) ≤ most ∧ Ds r11.2 := fun xs e hb => ⟨⟨by omega, by omega, hb⟩, by omega, h11.2.2⟩
    refine Ok.ite (fun _ => Ok.some (fin _ (sortI_perm _).length_eq fun n hn => o5 n ((sortI_perm _).mem_iff.mp hn))) fun _ => Ok.ite (fun _ => Ok.some (fin _ (by rw [List.length_reverse]; exact (sortI_perm _).length_eq) fun n hn => o5 n ((sortI_perm _).mem_iff.mp (List.mem_reverse.mp hn)))) fun _ => Ok.ite (fun _ => ?_) fun _ => Ok.some (fin _ rfl o5)
    refine Ok.bind (mapA_ok (fun n => 0 ≤ n ∧ n ≤ 1000000000000) (by omega) fun x hx => ?_) fun ys hys => Ok.some (fin _ hys.1 hys.2)
    refine Ok.bindE (maxO_s fun e => by rw [e] at hx; cases hx) (Ok.bind (atI_bnd (lo := 0) (hi := 1000000000000) (fun n hn => ?_) (by split <;> omega) (by simp; split <;> omega)) fun y hy => Ok.some hy)
    have := o5 x hx
    simp at hn
    omega
theorem dpieces_ok {ds xs : List Int} (h : Ds ds) (h1 : 1 ≤ xs.length) : OkP (m__law_pieces ds xs) fun r => 1 ≤ r.1 ∧ r.1 ≤ (xs.length : Int) ∧ Ds r.2 := by
  unfold m__law_pieces
  have hL : lenI xs = (xs.length : Int) := rfl
  refine Ok.bind (take_ok h (by decide)) fun r1 h1 => Ok.bind (take_ok h1.2.2 (by decide)) fun r2 h2 => ?_
  refine Ok.bindE (modO_s (by omega)) (Ok.bind (take_ok h2.2.2 (by decide)) fun r3 h3 => ?_)
  have m0 := Int.emod_nonneg r2.1 (show lenI xs ≠ 0 by omega)
  have m1 := Int.emod_lt_of_pos r2.1 (show 0 < lenI xs by omega)
  refine Ok.bind (atI_bnd (lo := 0) (hi := 3) (by decide) h3.1 h3.2.1) fun x hx => Ok.bind (atI_bnd (lo := 1) (hi := xs.length) (fun n hn => ?_) hx.1 (by simp; omega)) fun y hy => Ok.some ⟨hy.1, hy.2, h3.2.2⟩
  simp at hn
  omega
/-! ### ring -/
/-! ring_least_greatest -/
def IsRi (ns : List Int) (k i : Nat) (r : Int × List Int) : Prop := r.1.natAbs < 2 ^ 249 ∧ ∃ p, p < i ∧ path (RLe (rowF (rot p ns)) r.1) k 0 ns.length ∧ (∀ q, q < p → ¬ path (RLe (rowF (rot q ns)) r.1) k 0 ns.length) ∧
  (∀ b, (∃ q, q < i ∧ path (RLe (rowF (rot q ns)) b) k 0 ns.length) ↔ r.1 ≤ b) ∧ ∃ cut, First (RLe (rowF (rot p ns)) r.1) ns.length k 0 cut ∧ r.2 = sortI (([0] ++ cut).map fun a => ((p : Int) + a) % (ns.length : Int))
theorem IsRi.uniq {ns : List Int} {k i : Nat} {r s : Int × List Int} (h : IsRi ns k i r) (g : IsRi ns k i s) : r = s := by
  obtain ⟨r1, r2⟩ := r
  obtain ⟨s1, s2⟩ := s
  obtain ⟨_, p, h1, h2, h3, h4, c, h5, h6⟩ := h
  obtain ⟨_, q, g1, g2, g3, g4, d, g5, g6⟩ := g
  have e : r1 = s1 := by
    have a1 : s1 ≤ r1 := (g4 r1).mp ((h4 r1).mpr (Int.le_refl _))
    have a2 : r1 ≤ s1 := (h4 s1).mp ((g4 s1).mpr (Int.le_refl _))
    omega
  subst e
  have ep : p = q := by
    rcases Nat.lt_trichotomy p q with h | h | h
    · exact absurd h2 (g3 p h)
    · exact h
    · exact absurd g2 (h3 q h)
  subst ep
  have ec := First.uniq h5 g5
  subst ec
  have h6 : r2 = _ := h6
  have g6 : s2 = _ := g6
  rw [h6, g6]
theorem IsRi.rp {ns : List Int} {k : Nat} {r : Int × List Int} (h : IsRi ns k ns.length r) (hn : ∀ n ∈ ns, 0 ≤ n) (h1 : 1 ≤ k) (h2 : k ≤ ns.length) (b : Int) : RP ns b k ↔ r.1 ≤ b := by
  obtain ⟨_, p, _, _, _, h4, _⟩ := h
  rw [← h4 b, RP_iff hn h1 h2]
theorem rot_mem {p : Nat} {ns : List Int} {n : Int} : n ∈ rot p ns ↔ n ∈ ns := by
  have e := List.take_append_drop p ns
  unfold rot
  constructor
  · intro h
    rw [← e]
    rcases List.mem_append.mp h with h | h
    · exact List.mem_append_right _ h
    · exact List.mem_append_left _ h
  · intro h
    rw [← e] at h
    rcases List.mem_append.mp h with h | h
    · exact List.mem_append_right _ h
    · exact List.mem_append_left _ h
theorem ring_ok {ns : List Int} {m : Int} (hr : RowS ns) (h1 : 1 ≤ m) (h2 : m ≤ ns.length) : OkP (m_ring_least_greatest ns m) fun o => ∃ r, o = some r ∧ IsRi ns m.toNat ns.length r := by
  obtain ⟨l1, l2, l3⟩ := hr
  have hL : lenI ns = (ns.length : Int) := rfl
  have need : m_need_pieces_rings ns m = some () := by
    unfold m_need_pieces_rings
    refine Ok.eq (Ok.iteF ?_ (Ok.some rfl))
    rw [isi_int, isi_ib, decide_eq_true h1, decide_eq_true (show m ≤ lenI ns by omega)]
    rfl
  unfold m_ring_least_greatest
  refine Ok.bindE need (Ok.bindE (range1_s (by omega) (by omega)) (Ok.bind (Ok.foldI (fun i (o : Option (Int × List Int)) => (i = 0 → o = none) ∧ (0 < i → ∃ r, o = some r ∧ IsRi ns m.toNat i r)) ⟨fun _ => rfl, fun h => absurd h (Nat.lt_irrefl _)⟩ fun i x o hx ho => ?_) fun o ho => Ok.some ?_))
  · obtain ⟨hi, rfl⟩ := rangeF_get _ _ _ _ hx
    have hi : i < ns.length := by omega
    rw [show (0 : Int) + (i : Nat) = (i : Int) by omega, sliceI_from (by omega), sliceI_to (by omega), Int.toNat_natCast]
    refine Ok.bindE (catO_s (by rw [List.length_drop, List.length_take]; omega)) ?_
    show OkP (Option.bind (m_least_greatest (rot i ns) m) _) _
    have hlen := rot_len i ns
    have hrr : RowS (rot i ns) := ⟨by omega, by omega, fun n hn => l3 n (rot_mem.mp hn)⟩
    refine Ok.bind (leastg_ok hrr h1 (by omega)) fun r hr => ?_
    obtain ⟨g1, g2, g3, g4⟩ := hr
    rw [hlen] at g3 g4
    have hne : rot i ns ≠ [] := List.ne_nil_of_length_pos (by omega)
    have hsz : r.1.natAbs < 2 ^ 249 := by
      have a1 : 0 ≤ mxI (rot i ns) := (hrr.2.2 _ (mxI_mem hne)).1
      have a2 : (rot i ns).sum ≤ (rot i ns).length * 1000000000000000000000000000 := rsum_le fun n hn => (hrr.2.2 n hn).2
      omega
    have upd : ∀ cond : Bool, (cond = false → ∃ s, o = some s ∧ 0 < i ∧ s.1 ≤ r.1) → (cond = true → ∀ s, o = some s → r.1 < s.1) → OkP (if cond = true then (Option.bind (catO ([0] : List Int) r.2) fun x72 => Option.bind (mapO (fun (x78 : Int) => Option.bind (modO ((i : Int) + x78) (lenI ns)) fun x87 => some x87) x72) fun x94 => some (some (r.1, (sortI x94)))) else (some o)) fun o => (i + 1 = 0 → o = none) ∧ (0 < i + 1 → ∃ r, o = some r ∧ IsRi ns m.toNat (i + 1) r) := by
      intro cond c1 c2
      refine Ok.ite (fun hc => ?_) fun hc => Ok.some ⟨fun h => by omega, fun _ => ?_⟩
      · have hcl : r.2.length ≤ 3000 := by
          have := (Ct.of_first g4 ((g3 r.1).mpr (Int.le_refl _))).len
          omega
        refine Ok.bindE (catO_s (by simp; omega)) (Ok.bindE (mapO_eq (g := fun a => ((i : Int) + a) % lenI ns) (by simp; show _ ≤ 16777216; omega) fun x _ => by rw [modO_s (by omega)]; rfl) (Ok.some ⟨fun h => by omega, fun _ => ⟨_, rfl, hsz, i, by omega, (g3 r.1).mpr (Int.le_refl _), fun q hq hp => ?_, fun b => ⟨?_, fun hb => ⟨i, by omega, (g3 b).mpr hb⟩⟩, r.2, g4, rfl⟩⟩))
        · obtain ⟨s, hs, _, _, _, _, _, g5, _⟩ := ho.2 (by omega)
          have a1 := (g5 r.1).mp ⟨q, hq, hp⟩
          have a2 := c2 hc s hs
          omega
        · rintro ⟨q, hq, hp⟩
          by_cases hqi : q < i
          · obtain ⟨s, hs, _, _, _, _, _, g5, _⟩ := ho.2 (by omega)
            have a1 := (g5 b).mp ⟨q, hqi, hp⟩
            have a2 := c2 hc s hs
            dsimp only
            omega
          · have : q = i := by omega
            subst this
            exact (g3 b).mp hp
      · obtain ⟨s, hs, hi0, hle⟩ := c1 hc
        obtain ⟨s', hs', b0, p, b1, b2, b3, b4, b5⟩ := ho.2 hi0
        rw [hs] at hs'
        cases hs'
        refine ⟨s, hs, b0, p, by omega, b2, b3, fun b => ⟨?_, fun hb => ?_⟩, b5⟩
        · rintro ⟨q, hq, hp⟩
          by_cases hqi : q < i
          · exact (b4 b).mp ⟨q, hqi, hp⟩
          · have : q = i := by omega
            subst this
            have := (g3 b).mp hp
            omega
        · obtain ⟨q, hq, hp⟩ := (b4 b).mpr hb
          exact ⟨q, by omega, hp⟩
    cases o with
    | none =>
      refine Ok.bindE (x := true) rfl (upd true (fun h => by cases h) fun _ s hs => by cases hs)
    | some s =>
      have hi0 : 0 < i := by
        rcases Nat.eq_zero_or_pos i with h | h
        · exact absurd (ho.1 h) (by simp)
        · exact h
      refine Ok.bindE (x := decide (r.1 < s.1)) rfl (upd _ (fun h => ⟨s, rfl, hi0, by have := of_decide_eq_false h; omega⟩) fun h s' hs' => by cases hs'; exact of_decide_eq_true h)
  · rw [rangeF_len, hL, Int.toNat_natCast] at ho
    exact ho.2 (by omega)
/-- times a factor -/
theorem pre_times (f : Int) (ns : List Int) : ∀ i, pre (rowF (ns.map (f * ·))) i = f * pre (rowF ns) i
  | 0 => by show (0 : Int) = f * 0; omega
  | i + 1 => by
    rw [pre, pre, pre_times f ns i, Int.mul_add]
    congr 1
    show (ns.map (f * ·))[i]! = f * ns[i]!
    rw [List.getElem!_eq_getElem?_getD, List.getElem!_eq_getElem?_getD, List.getElem?_map]
    cases ns[i]? with
    | none => show (0 : Int) = f * 0; omega
    | some n => rfl
theorem rot_map (f : Int) (p : Nat) (ns : List Int) : rot p (ns.map (f * ·)) = (rot p ns).map (f * ·) := by
  unfold rot
  rw [List.map_append, List.map_drop, List.map_take]
theorem RLe_times {f b : Int} {ns : List Int} {p e : Nat} (hf : 0 < f) : RLe (rowF (ns.map (f * ·))) (f * b) p e ↔ RLe (rowF ns) b p e := by
  unfold RLe
  rw [pre_times, pre_times, ← Int.mul_sub]
  exact ⟨fun h => Int.le_of_mul_le_mul_left h hf, fun h => Int.mul_le_mul_of_nonneg_left h (by omega)⟩
theorem RLe_timesd {f b : Int} {ns : List Int} {p e : Nat} (hf : 0 < f) : RLe (rowF (ns.map (f * ·))) b p e ↔ RLe (rowF ns) (b / f) p e := by
  unfold RLe
  rw [pre_times, pre_times, ← Int.mul_sub, Int.le_ediv_iff_mul_le hf, Int.mul_comm]
theorem First_congr {R R' : Nat → Nat → Prop} {n : Nat} (h : ∀ p e, p < e → e ≤ n → (R p e ↔ R' p e)) : ∀ {k p : Nat} {c : List Int}, First R n k p c → First R' n k p c
  | 0, _, _, g => g.elim
  | 1, _, _, g => g
  | k + 2, p, c, g => by
    obtain ⟨e, c', h0, h1, h2, h3, h4, h5, h6⟩ := g
    refine ⟨e, c', h0, h1, h2, (h p e h1 h2).mp h3, path_mono (fun x y _ h1 h2 r => (h x y h1 h2).mp r) (Nat.le_refl _) h4, fun e' g1 g2 g3 => h5 e' g1 g2 ⟨(h p e' g1 (by omega)).mpr g3.1, path_mono (fun x y _ h1 h2 r => (h x y h1 h2).mpr r) (Nat.le_refl _) g3.2⟩, First_congr h h6⟩
theorem IsRi.times {ns : List Int} {k i : Nat} {r : Int × List Int} {f : Int} (hf : 0 < f) (hf2 : f ≤ 1000) (hb : r.1.natAbs < 2 ^ 200) (h : IsRi ns k i r) : IsRi (ns.map (f * ·)) k i (f * r.1, r.2) := by
  obtain ⟨h0, p, h1, h2, h3, h4, c, h5, h6⟩ := h
  have hl : (ns.map (f * ·)).length = ns.length := List.length_map _
  refine ⟨?_, p, h1, ?_, fun q hq => ?_, fun b => ?_, c, ?_, ?_⟩
  · show (f * r.1).natAbs < 2 ^ 249
    rw [Int.natAbs_mul]
    have : f.natAbs * r.1.natAbs ≤ 1000 * 2 ^ 200 := Nat.mul_le_mul (by omega) (by omega)
    omega
  · rw [hl, rot_map]
    exact path_mono (fun x y _ _ _ g => (RLe_times hf).mpr g) (Nat.le_refl _) h2
  · rw [hl, rot_map]
    exact fun g => h3 q hq (path_mono (fun x y _ _ _ g => (RLe_times hf).mp g) (Nat.le_refl _) g)
  · show _ ↔ f * r.1 ≤ b
    rw [hl, Int.mul_comm, ← Int.le_ediv_iff_mul_le hf, ← h4 (b / f)]
    constructor
    · rintro ⟨q, hq, g⟩
      rw [rot_map] at g
      exact ⟨q, hq, path_mono (fun x y _ _ _ g => (RLe_timesd hf).mp g) (Nat.le_refl _) g⟩
    · rintro ⟨q, hq, g⟩
      refine ⟨q, hq, ?_⟩
      rw [rot_map]
      exact path_mono (fun x y _ _ _ g => (RLe_timesd hf).mpr g) (Nat.le_refl _) g
  · rw [hl, rot_map]
    exact First_congr (fun p e _ _ => (RLe_times hf).symm) h5
  · show r.2 = _
    rw [hl]
    exact h6
/-! ### least -/
theorem endsof_ok {ns : List Int} {b : Int} (hl : ns.length ≤ 3000) : m_ends_of ns b = some (ends ns b) := by
  unfold m_ends_of
  refine Ok.eq (Ok.bind (Ok.foldI (fun i s => s = eS (rowF ns) b i) rfl fun i x s hx hs => ?_) fun s hs => Ok.some (by rw [hs, enum_len]; rfl))
  subst hs
  obtain ⟨h1, h2⟩ := enum_at hx
  have hi := (List.getElem?_eq_some_iff.mp h2).1
  have hg := rowF_get h2
  have hm := (eS_mem (rowF ns) b i).1
  rw [eS, hg, h1]
  refine Ok.ite (fun h => ?_) fun h => ?_
  · rw [if_pos (of_decide_eq_true h)]
    exact Ok.bindE (appO_s (by omega)) (Ok.some rfl)
  · rw [if_neg (of_decide_eq_false h)]
    exact Ok.some rfl
theorem path_gE {a : Nat → Int} {b : Int} {n : Nat} (hn : ∀ i, i < n → 0 ≤ a i) : ∀ (d p k : Nat), n - p ≤ d → p ≤ n → 1 ≤ k → (path (RGe a b) k p n ↔ k ≤ gE a b n p) := by
  intro d
  induction d with
  | zero =>
    intro p k h1 h2 h3
    have : p = n := by omega
    subst this
    rw [gE_end]
    constructor
    · intro h
      have := path_le h
      omega
    · intro h
      omega
  | succ d ih =>
    intro p k h1 h2 h3
    rcases next_or (a := a) b n p with h | ⟨e, he1, he2, he3, he4⟩
    · rw [gE_none h]
      constructor
      · intro hp
        cases k with
        | zero => omega
        | succ k =>
          obtain ⟨e, g1, g2, g3, g4⟩ := hp
          have := h e g1 g2
          unfold RGe at g3
          omega
      · intro h
        omega
    · rw [gE_next he1 he2 he3 he4]
      obtain ⟨k, rfl⟩ : ∃ j, k = j + 1 := ⟨k - 1, by omega⟩
      constructor
      · rintro ⟨f, g1, g2, g3, g4⟩
        have hef : e ≤ f := by
          rcases Nat.lt_or_ge f e with h | h
          · have := he3 f g1 h
            unfold RGe at g3
            omega
          · exact h
        rcases Nat.eq_zero_or_pos k with h0 | h0
        · omega
        · have a1 := (ih f k (by omega) g2 h0).mp g4
          have a2 := gE_anti (b := b) hn (n - e) e f (Nat.le_refl _) hef g2
          omega
      · intro hk
        rcases Nat.eq_zero_or_pos k with h0 | h0
        · subst h0
          refine path_one.mpr ⟨by omega, ?_⟩
          have := pre_mono hn he2 (Nat.le_refl _)
          unfold RGe
          omega
        · exact ⟨e, he1, he2, by unfold RGe; omega, (ih e k (by omega) he2 h0).mpr (by omega)⟩
def lE (a : Nat → Int) (b : Int) (n p : Nat) : List Int := (eS (sh a p) b (n - p)).1.map (· + (p : Int))
theorem lE_next {a : Nat → Int} {b : Int} {n beg e : Nat} (hbe : beg < e) (hen : e ≤ n) (h : ∀ j, beg < j → j < e → pre a j - pre a beg < b) (h2 : pre a e - pre a beg ≥ b) : lE a b n beg = (e : Int) :: lE a b n e := by
  have s := eS_shift (eS_next hbe h h2) (n - e)
  unfold lE
  rw [show n - beg = (e - beg) + (n - e) by omega, s]
  have e2 : sh (sh a beg) (e - beg) = sh a e := by
    funext i
    show a (beg + (e - beg + i)) = a (e + i)
    rw [show beg + (e - beg + i) = e + i by omega]
  rw [e2]
  show (((e - beg : Nat) : Int) :: _).map _ = _
  rw [List.map_cons, show (((e - beg : Nat) : Int) + (beg : Int)) = (e : Int) by omega]
  congr 1
  show List.map _ ([] ++ List.map _ _) = _
  rw [List.nil_append, List.map_map]
  refine List.map_congr_left fun x _ => ?_
  show x + ((e - beg : Nat) : Int) + (beg : Int) = x + (e : Int)
  omega
theorem lE_first {a : Nat → Int} {b : Int} {n : Nat} (hn : ∀ i, i < n → 0 ≤ a i) : ∀ (k p : Nat), p ≤ n → k + 1 ≤ gE a b n p → First (RGe a b) n (k + 1) p ((lE a b n p).take k)
  | 0, p, _, _ => by
    rw [List.take_zero]
    rfl
  | k + 1, p, hp, hk => by
    rcases next_or (a := a) b n p with h | ⟨e, he1, he2, he3, he4⟩
    · rw [gE_none h] at hk
      omega
    · rw [gE_next he1 he2 he3 he4] at hk
      rw [lE_next he1 he2 he3 he4, List.take_succ_cons]
      exact ⟨e, _, rfl, he1, he2, by unfold RGe; omega, (path_gE hn (n - e) e (k + 1) (Nat.le_refl _) he2 (by omega)).mpr (by omega), fun e' g1 g2 g3 => by
        have := he3 e' g1 g2
        have := g3.1
        unfold RGe at this
        omega, lE_first hn k e he2 (by omega)⟩
theorem lE_zero (a : Nat → Int) (b : Int) (n : Nat) : lE a b n 0 = (eS a b n).1 := by
  unfold lE
  have e : sh a 0 = a := by
    funext i
    show a (0 + i) = a i
    rw [Nat.zero_add]
  rw [e]
  show List.map (fun (x : Int) => x + 0) (eS a b n).1 = _
  simp
theorem path_sum {a : Nat → Int} {b : Int} : ∀ {k p q : Nat}, path (RGe a b) k p q → (k : Int) * b ≤ pre a q - pre a p
  | 0, p, q, h => by
    have h : p = q := h
    subst h
    simp
  | k + 1, p, q, ⟨e, h1, h2, h3, h4⟩ => by
    have := path_sum h4
    unfold RGe at h3
    have e1 : ((k + 1 : Nat) : Int) * b = k * b + b := by
      rw [Int.natCast_add, Int.add_mul]
      omega
    omega
theorem RGe_down {a : Nat → Int} {b c : Int} {k p q : Nat} (h : c ≤ b) (hp : path (RGe a b) k p q) : path (RGe a c) k p q :=
  path_mono (fun x y _ _ _ r => by unfold RGe at *; omega) (Nat.le_refl _) hp
/-- what greatest_least tells -/
def IsGL (ns : List Int) (k : Nat) (r : Int × List Int) : Prop := 0 ≤ r.1 ∧ r.1 ≤ ns.sum ∧ (∀ b, path (RGe (rowF ns) b) k 0 ns.length ↔ b ≤ r.1) ∧ First (RGe (rowF ns) r.1) ns.length k 0 r.2
theorem IsGL.uniq {ns : List Int} {k : Nat} {r s : Int × List Int} (h : IsGL ns k r) (g : IsGL ns k s) : r = s := by
  obtain ⟨r1, r2⟩ := r
  obtain ⟨s1, s2⟩ := s
  obtain ⟨_, _, h1, h2⟩ := h
  obtain ⟨_, _, g1, g2⟩ := g
  have e1 : r1 = s1 := by
    have a1 : s1 ≤ r1 := (h1 s1).mp ((g1 s1).mpr (Int.le_refl _))
    have a2 : r1 ≤ s1 := (g1 r1).mp ((h1 r1).mpr (Int.le_refl _))
    omega
  subst e1
  have e2 : r2 = s2 := First.uniq h2 g2
  rw [e2]
theorem greatl_ok {ns : List Int} {m : Int} (hr : RowS ns) (h1 : 1 ≤ m) (hk : m ≤ ns.length) : OkP (m_greatest_least ns m) (IsGL ns m.toNat) := by
  obtain ⟨k, rfl⟩ : ∃ k : Nat, m = k := ⟨m.toNat, by omega⟩
  obtain ⟨hl1, hl2, hb⟩ := hr
  have hn := rowF_nonneg (ns := ns) fun n h => (hb n h).1
  have hsum : ns.sum ≤ ns.length * 1000000000000000000000000000 := rsum_le fun n h => (hb n h).2
  have hs0 : 0 ≤ ns.sum := by
    rw [sum_all]
    have := pre_mono hn (Nat.zero_le ns.length) (Nat.le_refl _)
    exact this
  have key : ∀ b, path (RGe (rowF ns) b) k 0 ns.length ↔ (k : Int) ≤ (ends ns b).length := fun b => by
    rw [path_gE hn ns.length 0 k (by omega) (by omega) (by omega), ends_len]
    omega
  have kp : (0 : Int) < k := by omega
  have htop : ∀ b, path (RGe (rowF ns) b) k 0 ns.length → b ≤ ns.sum / k := fun b h => by
    have := path_sum h
    rw [sum_all]
    refine Int.le_ediv_of_mul_le kp ?_
    rw [Int.mul_comm]
    have e : pre (rowF ns) 0 = 0 := rfl
    omega
  have hbot : path (RGe (rowF ns) 0) k 0 ns.length := by
    refine path_fewer hn (Nat.le_refl _) (path_all (p := 0) (q := ns.length) (fun i _ hi => ?_) (Nat.zero_le _)) (by omega) (by omega)
    have := pre_mono hn (show i ≤ i + 1 by omega) (by omega)
    unfold RGe
    omega
  have hdiv : 0 ≤ ns.sum / k ∧ ns.sum / k ≤ ns.sum := ⟨Int.ediv_nonneg hs0 (by omega), Int.ediv_le_self _ hs0⟩
  unfold m_greatest_least
  refine Ok.bindE (need_many_ok h1 hk) (Ok.bindE (fdivO_s kp (by omega)) ?_)
  refine Ok.bind (Ok.whileI (fun s => 0 ≤ s.2 ∧ s.2 ≤ s.1 ∧ s.1 ≤ ns.sum ∧ (∀ b, path (RGe (rowF ns) b) k 0 ns.length → b ≤ s.1) ∧ path (RGe (rowF ns) s.2) k 0 ns.length)
    (fun s => 0 ≤ s.2 ∧ s.2 ≤ ns.sum ∧ ∀ b, path (RGe (rowF ns) b) k 0 ns.length ↔ b ≤ s.2) (fun s => (s.1 - s.2).toNat) ⟨Int.le_refl _, hdiv.1, hdiv.2, htop, hbot⟩ ?_ fun s hs => ?_) fun o ho => ?_
  · show (ns.sum / k - 0).toNat < 10 ^ 40
    have hmul : (ns.length : Int) * 1000000000000000000000000000 ≤ 3000 * 1000000000000000000000000000 := by omega
    omega
  · obtain ⟨h1', h2', h3', h4', h5'⟩ := hs
    refine Ok.ite (fun h => ?_) fun h => Ok.some ?_
    · have h := of_decide_eq_true h
      refine Ok.bindE (endsof_ok hl2) ?_
      refine Ok.ite (fun h6 => Ok.some (.inl ⟨_, rfl, ⟨by dsimp only; omega, by dsimp only; omega, h3', h4', (key _).mpr (of_decide_eq_true h6)⟩, by dsimp only; omega⟩)) fun h6 => Ok.some (.inl ⟨_, rfl, ⟨h1', by dsimp only; omega, by dsimp only; omega, fun b hb => ?_, h5'⟩, by dsimp only; omega⟩)
      have h6 := of_decide_eq_false h6
      rcases Int.lt_or_le b ((s.2 + s.1 + 1) / 2) with h7 | h7
      · dsimp only
        omega
      · exact (h6 ((key _).mp (RGe_down h7 hb))).elim
    · have h := of_decide_eq_false h
      exact .inr ⟨_, rfl, h1', by dsimp only; omega, fun b => ⟨fun hp => by have := h4' b hp; dsimp only; omega, fun hle => RGe_down hle h5'⟩⟩
  · obtain ⟨s, rfl, hs0, hs1, hs2⟩ := ho
    refine Ok.bindE (endsof_ok hl2) (Ok.some ⟨hs0, hs1, hs2, ?_⟩)
    show First _ _ _ _ (sliceI (ends ns s.2) none (some ((k : Int) - 1)))
    rw [sliceI_to (by omega)]
    have hg := (hs2 s.2).mpr (Int.le_refl _)
    rw [path_gE hn ns.length 0 k (by omega) (by omega) (by omega)] at hg
    obtain ⟨j, rfl⟩ : ∃ j, k = j + 1 := ⟨k - 1, by omega⟩
    have := lE_first (b := s.2) hn j 0 (Nat.zero_le _) hg
    rw [lE_zero] at this
    rw [show ((j + 1 : Nat) : Int) - 1 = (j : Nat) by omega, Int.toNat_natCast]
    exact this
/-! ### things -/
/-! things that equal themselves -/
class ThE (α : Type) [Rp α] [RpD α] [Co α Th] : Prop where
  pl : ∀ x : α, Th.pl (Co.f x) = true
  d : ∀ x : α, Th.d (Co.f x) = RpD.d x
instance : ThE Int := ⟨fun _ => rfl, fun _ => rfl⟩
instance : ThE Bool := ⟨fun _ => rfl, fun _ => rfl⟩
section
variable {α β : Type} [Rp α] [RpD α] [Co α Th] [Rp β] [RpD β] [Co β Th]
instance [ThE α] : ThE (Option α) := ⟨fun x => match x with
    | none => rfl
    | some y => ThE.pl y, fun x => match x with
    | none => rfl
    | some y => ThE.d y⟩
theorem plL_co [ThE α] : ∀ xs : List α, Th.plL (xs.map Co.f) = true
  | [] => rfl
  | x :: xs => by rw [List.map_cons, Th.plL, ThE.pl, plL_co xs]; rfl
theorem dL_co [ThE α] : ∀ xs : List α, Th.dL (xs.map Co.f) = xs.map RpD.d
  | [] => rfl
  | x :: xs => by rw [List.map_cons, Th.dL, ThE.d, dL_co xs]; rfl
instance [ThE α] : ThE (List α) := ⟨fun xs => plL_co xs, fun xs => congrArg PyData.list (dL_co xs)⟩
instance [ThE α] [ThE β] : ThE (α × β) := ⟨fun x => by
    show Th.plL [Co.f x.1, Co.f x.2] = true
    rw [Th.plL, Th.plL, ThE.pl, ThE.pl]
    rfl, fun x => by
    show PyData.tuple (Th.dL [Co.f x.1, Co.f x.2]) = PyData.tuple [RpD.d x.1, RpD.d x.2]
    rw [Th.dL, Th.dL, ThE.d, ThE.d]
    rfl⟩
theorem eqT_co [ThE α] [DecidableEq α] [RpE α] (x : α) : eqT (Co.f x : Th) (Co.f x : Th) = some true := by
  have hs : SeqAt.shaped (RpD.d x) = true := by
    unfold SeqAt.shaped
    rw [RpE.lay, Bool.true_and, decide_eq_true_eq]
    have := RpE.dep x
    have := RpE.hk (α := α)
    omega
  have e : RpT.d (Co.f x : Th) = RpD.d x := ThE.d x
  rw [eqT, e, if_pos ⟨ThE.pl x, ThE.pl x, hs, hs⟩, RpE.eqv, decide_eq_true rfl]
end
/-! ### thgood -/
/-- things that may be compared -/
def GoodT (t : Th) : Prop := Th.pl t = true ∧ (Th.d t).canLay0 = true ∧ (Th.d t).depth ≤ 60 ∧ PyData.eqv (Th.d t) (Th.d t) = true
theorem good_co {α : Type} [Rp α] [RpD α] [Co α Th] [ThE α] [DecidableEq α] [RpE α] (x : α) : GoodT (Co.f x : Th) := by
  have e : Th.d (Co.f x : Th) = RpD.d x := ThE.d x
  refine ⟨ThE.pl x, ?_, ?_, ?_⟩
  · rw [e, RpE.lay]
  · rw [e]
    have := RpE.dep x
    have := RpE.hk (α := α)
    omega
  · rw [e, RpE.eqv, decide_eq_true rfl]
theorem good_all : ∀ {A : List Th}, (∀ t ∈ A, GoodT t) → A.all Th.pl = true ∧ PyData.canLayAll0 (A.map Th.d) = true ∧ PyData.depthAll (A.map Th.d) ≤ 60 ∧ PyData.eqvAll (A.map Th.d) (A.map Th.d) = true
  | [], _ => ⟨rfl, by simp [PyData.canLayAll0], by simp [PyData.depthAll], by simp [PyData.eqvAll]⟩
  | t :: A, h => by
    obtain ⟨h1, h2, h3, h4⟩ := h t List.mem_cons_self
    obtain ⟨g1, g2, g3, g4⟩ := good_all fun t ht => h t (List.mem_cons_of_mem _ ht)
    refine ⟨?_, ?_, ?_, ?_⟩
    · rw [List.all_cons, h1, g1]
      rfl
    · rw [List.map_cons, PyData.canLayAll0, h2, g2]
      rfl
    · rw [List.map_cons, PyData.depthAll]
      omega
    · rw [List.map_cons, PyData.eqvAll, h4, g4]
      rfl
theorem good_eq {A B : List Th} (h : ∀ t ∈ A, GoodT t) (g : ∀ t ∈ B, GoodT t) : ∃ b, eqT A B = some b ∧ (A = B → b = true) := by
  obtain ⟨h1, h2, h3, h4⟩ := good_all h
  obtain ⟨g1, g2, g3, _⟩ := good_all g
  have sh : ∀ {A : List Th}, PyData.canLayAll0 (A.map Th.d) = true → PyData.depthAll (A.map Th.d) ≤ 60 → SeqAt.shaped (RpT.d A) = true := fun {A} p q => by
    show SeqAt.shaped (.list (A.map Th.d)) = true
    unfold SeqAt.shaped
    rw [PyData.canLay0, p, Bool.true_and, decide_eq_true_eq, PyData.depth]
    omega
  refine ⟨PyData.eqv (RpT.d A) (RpT.d B), if_pos ⟨h1, g1, sh h2 h3, sh g2 g3⟩, fun e => ?_⟩
  subst e
  show PyData.eqv (.list (A.map Th.d)) (.list (A.map Th.d)) = true
  rw [PyData.eqv]
  exact h4
/-! ### rows -/
theorem dok_pair {B : Int} {c : List Int} (h1 : 0 ≤ B) (h2 : B ≤ 1000000000000000000000000000000) (hl : c.length ≤ 120) (hc : ∀ x ∈ c, 0 ≤ x ∧ x ≤ 3000) : DOK (RpD.d (B, c)) 2 48242 :=
  have a : DOK (RpD.d B) 1 24120 := (DOK.int (i := B) (by omega)).mono (by decide) (by decide)
  have b : DOK (RpD.d c) 1 24120 := DOK.ints (n := 120) (fun x hx => by have := hc x hx; omega) hl
  DOK.pair a b
theorem RowS_of {ns : List Int} (h : Row ns) : RowS ns := ⟨h.1, by have := h.2.1; omega, fun n hn => by have := h.2.2 n hn; omega⟩
theorem row_sum {ns : List Int} (h : Row ns) : 0 ≤ ns.sum ∧ ns.sum ≤ 120000000000000 := by
  have h1 : ns.sum ≤ ns.length * 1000000000000 := rsum_le fun n hn => (h.2.2 n hn).2
  have h2 := h.2.1
  have hn := rowF_nonneg (ns := ns) fun n hn => (h.2.2 n hn).1
  have h3 : (0 : Int) ≤ pre (rowF ns) ns.length := pre_mono hn (Nat.zero_le ns.length) (Nat.le_refl _)
  rw [sum_all] at *
  have : (ns.length : Int) * 1000000000000 ≤ 120 * 1000000000000 := by omega
  omega
/-! ### thok -/
/-! things that can be told as texts -/
structure DOU (d : PyData) (dep w : Nat) : Prop where
  sh : d.showable = true
  de : d.depth ≤ dep
  le : d.leavesShort 201 = true
  wt : d.weight ≤ w
theorem DOU.mono {d : PyData} {p q w u : Nat} (h : DOU d p w) (h1 : p ≤ q) (h2 : w ≤ u) : DOU d q u := ⟨h.sh, Nat.le_trans h.de h1, h.le, Nat.le_trans h.wt h2⟩
theorem DOU.int {i : Int} (h : i.natAbs < 2 ^ 71) : DOU (.int i) 0 71 := by
  have h1 := DOK.int (i := i) (Nat.lt_of_lt_of_le h (by decide))
  refine ⟨h1.sh, h1.de, h1.le, ?_⟩
  have h3 : i.natAbs.log2 < 71 := PySem.Flt.log2_lt_of (by decide) h
  rw [PyData.weight]
  split <;> omega
theorem dou_all {dep w : Nat} : ∀ {ds : List PyData}, (∀ d ∈ ds, DOU d dep w) → PyData.showableAll ds = true ∧ PyData.depthAll ds ≤ dep ∧ PyData.leavesShortAll 201 ds = true ∧ PyData.weightAll ds ≤ ds.length * (w + 1)
  | [], _ => ⟨by simp [PyData.showableAll], by simp [PyData.depthAll], by simp [PyData.leavesShortAll], by simp [PyData.weightAll]⟩
  | d :: ds, h => by
    obtain ⟨h1, h3, h4, h5⟩ := dou_all fun x hx => h x (List.mem_cons_of_mem _ hx)
    have hd := h d List.mem_cons_self
    refine ⟨by rw [PyData.showableAll, hd.sh, h1]; rfl, by rw [PyData.depthAll]; have := hd.de; omega, by rw [PyData.leavesShortAll, hd.le, h4]; rfl, ?_⟩
    rw [PyData.weightAll, List.length_cons, Nat.add_mul]
    have := hd.wt
    omega
theorem DOU.list {dep w n : Nat} {ds : List PyData} (h : ∀ d ∈ ds, DOU d dep w) (hl : ds.length ≤ n) : DOU (.list ds) (dep + 1) (n * (w + 1)) := by
  obtain ⟨h1, h3, h4, h5⟩ := dou_all h
  exact ⟨by rw [PyData.showable]; exact h1, by rw [PyData.depth]; omega, by rw [PyData.leavesShort]; exact h4, by rw [PyData.weight]; exact Nat.le_trans h5 (Nat.mul_le_mul_right _ hl)⟩
theorem DOU.tup {dep w n : Nat} {ds : List PyData} (h : ∀ d ∈ ds, DOU d dep w) (hl : ds.length ≤ n) : DOU (.tuple ds) (dep + 1) (n * (w + 1)) := by
  obtain ⟨h1, h3, h4, h5⟩ := dou_all h
  exact ⟨by rw [PyData.showable]; exact h1, by rw [PyData.depth]; omega, by rw [PyData.leavesShort]; exact h4, by rw [PyData.weight]; exact Nat.le_trans h5 (Nat.mul_le_mul_right _ hl)⟩
theorem DOU.none : DOU .none 0 0 := ⟨by simp [PyData.showable], by simp [PyData.depth], by simp [PyData.leavesShort], by simp [PyData.weight]⟩
theorem DOU.bool (b : Bool) : DOU (.bool b) 0 0 := ⟨by simp [PyData.showable], by simp [PyData.depth], by simp [PyData.leavesShort], by simp [PyData.weight]⟩
theorem DOU.dic0 : DOU (.dict []) 1 0 := by
  refine ⟨?_, ?_, ?_, ?_⟩ <;> decide +kernel
theorem DOU.dic1 : DOU (.dict [(.int 0, .int 0)]) 1 4 := by
  refine ⟨?_, ?_, ?_, ?_⟩ <;> decide +kernel
theorem DOU.str0 : DOU (.str "") 0 0 := by
  refine ⟨?_, ?_, ?_, ?_⟩ <;> decide +kernel
theorem DOU.strn : DOU (.str "0") 0 1 := by
  refine ⟨?_, ?_, ?_, ?_⟩ <;> decide +kernel
/-- a thing that can be told -/
def ThOk (t : Th) : Prop := DOU (Th.d t) 10 82500
theorem reprU_ok {t : Th} (h : ThOk t) : reprU t = some (Th.d t).shown := by
  have h3 := PyData.shown_le 201 (by decide) (Th.d t) h.le
  have := h.wt
  refine if_pos ⟨h.sh, Nat.le_trans h.de (by decide), ?_⟩
  have h4 : (201 + 2) * (Th.d t).weight ≤ 203 * 82500 := Nat.mul_le_mul_left _ this
  show (Th.d t).shown.length ≤ sizeLine
  rw [sizeLine_eq]
  omega
/-- an item of a spoilt list -/
def It (c : Nat) (t : Th) : Prop := (∀ i, Th.num t = some i → i.natAbs ≤ 1000000000000000000000 + c) ∧ DOU (Th.d t) 1 75
theorem It.mono {c e : Nat} {t : Th} (h : It c t) (k : c ≤ e) : It e t := ⟨fun i hi => Nat.le_trans (h.1 i hi) (by omega), h.2⟩
theorem It.int {c : Nat} {i : Int} (h : i.natAbs ≤ 1000000000000000000000 + c) (hc : c ≤ 100) : It c (.int i) := by
  have e : (2 : Nat) ^ 71 = 2361183241434822606848 := by decide
  refine ⟨fun j hj => ?_, (DOU.int (by omega)).mono (by decide) (by decide)⟩
  cases hj
  exact h
theorem dL_map : ∀ xs : List Th, Th.dL xs = xs.map Th.d
  | [] => rfl
  | x :: xs => by rw [Th.dL, dL_map xs]; rfl
theorem list_ok {c : Nat} {xs : List Th} (h : ∀ t ∈ xs, It c t) (hl : xs.length ≤ 1085) : ThOk (.lst xs) := by
  have : DOU (.list (Th.dL xs)) 2 (1085 * 76) := by
    rw [dL_map]
    exact DOU.list (w := 75) (fun d hd => by obtain ⟨x, hx, rfl⟩ := List.mem_map.mp hd; exact (h x hx).2) (by rw [List.length_map]; exact hl)
  exact this.mono (by decide) (by decide)
theorem tup_ok {c : Nat} {xs : List Th} (h : ∀ t ∈ xs, It c t) (hl : xs.length ≤ 1085) : ThOk (.tup xs) := by
  have : DOU (.tuple (Th.dL xs)) 2 (1085 * 76) := by
    rw [dL_map]
    exact DOU.tup (w := 75) (fun d hd => by obtain ⟨x, hx, rfl⟩ := List.mem_map.mp hd; exact (h x hx).2) (by rw [List.length_map]; exact hl)
  exact this.mono (by decide) (by decide)
theorem slice_mem {α : Type} {xs : List α} {lo hi : Option Int} {x : α} (h : x ∈ sliceI xs lo hi) : x ∈ xs := List.mem_of_mem_drop (List.mem_of_mem_take h)
theorem slice_len {α : Type} {xs : List α} {lo hi : Option Int} : (sliceI xs lo hi).length ≤ xs.length := by
  unfold sliceI
  rw [List.length_take, List.length_drop]
  omega
/-! ### k37 -/
theorem eqT_good {t : Th} (h : GoodT t) : eqT t t = some true := by
  obtain ⟨h1, h2, h3, h4⟩ := h
  have s : SeqAt.shaped (RpT.d t) = true := by
    show SeqAt.shaped (Th.d t) = true
    unfold SeqAt.shaped
    rw [h2, Bool.true_and, decide_eq_true_eq]
    omega
  exact (if_pos ⟨h1, h1, s, s⟩).trans (congrArg some h4)
instance : Low (Int × Int) := ⟨by decide⟩
theorem good_word {s : PySem.Str} {t : Th} (hs : PyData.strOk s = true) (h : GoodT t) (hd : (Th.d t).depth ≤ 20) : GoodT (.tup [.str s, t]) := by
  obtain ⟨h1, h2, h3, h4⟩ := h
  refine ⟨?_, ?_, ?_, ?_⟩
  · show Th.plL [_, _] = true
    rw [Th.plL, Th.plL, h1]
    rfl
  · show (PyData.tuple [PyData.str s, Th.d t]).canLay0 = true
    simp [PyData.canLay0, PyData.canLayAll0, h2, hs]
  · show (PyData.tuple [PyData.str s, Th.d t]).depth ≤ 60
    rw [PyData.depth, PyData.depthAll, PyData.depthAll, PyData.depthAll, PyData.depth]
    omega
  · show PyData.eqv (PyData.tuple [PyData.str s, Th.d t]) (PyData.tuple [PyData.str s, Th.d t]) = true
    simp [PyData.eqv, PyData.eqvAll, h4]
theorem needpp_ok {ns : List Int} {m : Int} (h1 : 1 ≤ m) (h2 : m ≤ ns.length) : m_need_pieces_papers ns m = some () := by
  unfold m_need_pieces_papers
  refine Ok.eq (Ok.bindE (x := true) ?_ (Ok.iteF rfl (Ok.some rfl)))
  show some (decide (1 ≤ m) && decide (m ≤ lenI ns)) = some true
  rw [decide_eq_true h1, decide_eq_true (show m ≤ lenI ns from h2)]
  rfl
theorem stretches_tot {ns : List Int} {b : Int} (hl : ns.length ≤ 3000) : OkP (m_stretches_to ns b) fun _ => True := by
  unfold m_stretches_to
  refine Ok.bind (Ok.foldI (fun i (s : Int × List (Int × Int) × Int) => s.2.1.length ≤ i) (Nat.le_refl _) fun i x s hx hs => ?_) fun s _ => Ok.some trivial
  obtain ⟨h1, h2⟩ := enum_at hx
  have hi := (List.getElem?_eq_some_iff.mp h2).1
  exact Ok.ite (fun _ => Ok.bindE (appO_s (by omega)) (Ok.some (by simp; exact hs))) fun _ => Ok.some (by dsimp only; omega)
theorem reaching_tot {ns : List Int} {b : Int} (hl : ns.length ≤ 3000) : OkP (m_reaching ns b) fun _ => True := by
  unfold m_reaching
  refine Ok.bind (Ok.foldI (fun i (s : List Int × Int) => s.1.length ≤ i) (Nat.le_refl _) fun i x s hx hs => ?_) fun s _ => Ok.some trivial
  obtain ⟨h1, h2⟩ := enum_at hx
  have hi := (List.getElem?_eq_some_iff.mp h2).1
  exact Ok.ite (fun _ => Ok.bindE (appO_s (by omega)) (Ok.some (by simp; exact hs))) fun _ => Ok.some (by dsimp only; omega)
theorem told_str (S : List (Int × Int)) : GoodT (.tup [.str "stretches", Co.f S]) := good_word (by decide +kernel) (good_co S) (by rw [ThE.d]; exact Nat.le_trans (RpE.dep S) RpE.hk)
theorem told_num (i : Int) : GoodT (.tup [.str "number", Co.f i]) := good_word (by decide +kernel) (good_co i) (by rw [ThE.d]; exact Nat.le_trans (RpE.dep i) RpE.hk)
/-- the things that are asked with -/
def things6 : List Th := [.tup [.str "number", .int 0], .lst [], .non, .lst [.int 0], .tup [.str "stretches", .lst []], .dic [] []]
theorem saysg_ok {ns : List Int} {m : Int} {t : Th} (h1 : 1 ≤ m) (h2 : m ≤ ns.length) (ht : t ∈ things6) : OkP (m_says_greatest ns m t) fun _ => True := by
  have hL : lenI ns = (ns.length : Int) := rfl
  have e1 : eqT (Th.str "number" : Th) (("number" : PySem.Str) : PySem.Str) = some true := by decide +kernel
  have e2 : eqT (Th.str "stretches" : Th) (("number" : PySem.Str) : PySem.Str) = some false := by decide +kernel
  have e3 : eqT (Th.str "stretches" : Th) (("stretches" : PySem.Str) : PySem.Str) = some true := by decide +kernel
  unfold m_says_greatest
  refine Ok.bindE (needpp_ok h1 h2) ?_
  unfold things6 at ht
  simp only [List.mem_cons, List.not_mem_nil, or_false] at ht
  rcases ht with rfl | rfl | rfl | rfl | rfl | rfl
  · refine Ok.bindE (x := false) rfl (Ok.iteF rfl (Ok.bindE (x := (Th.str "number", Th.int 0)) rfl (Ok.bindE e1 (Ok.bindE (x := true) (Ok.eq (Ok.iteT rfl (Ok.bindE (x := true) ?_ (Ok.some rfl)))) (Ok.iteT rfl (Ok.bindE (x := 0) rfl (Ok.bind (atI_mem (by decide) (by omega)) fun _ _ => Ok.some trivial)))))))
    show some (decide ((0 : Int) ≤ 0) && decide ((0 : Int) ≤ lenI ns - 1)) = some true
    rw [decide_eq_true (show (0 : Int) ≤ lenI ns - 1 by omega)]
    rfl
  · exact Ok.bindE (x := true) rfl (Ok.iteT rfl (Ok.some trivial))
  · exact Ok.bindE (x := true) rfl (Ok.iteT rfl (Ok.some trivial))
  · exact Ok.bindE (x := true) rfl (Ok.iteT rfl (Ok.some trivial))
  · refine Ok.bindE (x := false) rfl (Ok.iteF rfl (Ok.bindE (x := (Th.str "stretches", Th.lst [])) rfl (Ok.bindE e2 ?_)))
    refine Ok.bindE (x := false) rfl (Ok.iteF rfl (Ok.bindE e3 (Ok.bindE (x := false) (Ok.eq ?_) (Ok.iteF rfl (Ok.some trivial)))))
    refine Ok.iteT rfl (Ok.bindE (x := true) rfl (Ok.bindE (x := false) (Ok.eq ?_) (Ok.some rfl)))
    refine Ok.iteT rfl (Ok.bindE (x := 0) rfl (Ok.some ?_))
    exact decide_eq_false (by omega)
  · exact Ok.bindE (x := true) rfl (Ok.iteT rfl (Ok.some trivial))
theorem saysl_ok {ns : List Int} {m : Int} {t : Th} (h1 : 1 ≤ m) (h2 : m ≤ ns.length) (ht : t ∈ things6) : OkP (m_says_least ns m t) fun _ => True := by
  have hL : lenI ns = (ns.length : Int) := rfl
  unfold m_says_least
  refine Ok.bindE (needpp_ok h1 h2) ?_
  unfold things6 at ht
  simp only [List.mem_cons, List.not_mem_nil, or_false] at ht
  rcases ht with rfl | rfl | rfl | rfl | rfl | rfl
  · exact Ok.bindE (x := true) rfl (Ok.iteT rfl (Ok.some trivial))
  · refine Ok.bindE (x := decide ((0 : Int) ≥ m)) rfl (Ok.iteF (decide_eq_false (by omega)) ?_)
    exact Ok.bindE (x := []) rfl (Ok.bindE (x := .go (0, [])) rfl (Ok.bindE (catO_s (by simp)) (Ok.bindE (maxO_s (by simp)) (Ok.some trivial))))
  · exact Ok.bindE (x := true) rfl (Ok.iteT rfl (Ok.some trivial))
  · refine Ok.bindE (x := decide ((1 : Int) ≥ m)) rfl (Ok.ite (fun _ => Ok.some trivial) fun _ => ?_)
    refine Ok.bindE (x := [.int 0]) rfl (Ok.bindE (x := .go (1, [List.sum (sliceI ns (some 0) (some 0))])) ?_ (Ok.bindE (catO_s (by simp)) (Ok.bindE (maxO_s (by simp)) (Ok.some trivial))))
    have hb : m_is_among (.int 0) 0 (lenI ns - 1) = some true := by
      show some (decide ((0 : Int) ≤ 0) && decide ((0 : Int) ≤ lenI ns - 1)) = some true
      rw [decide_eq_true (show (0 : Int) ≤ lenI ns - 1 by omega)]
      rfl
    refine (forO_go (b' := (1, [List.sum (sliceI ns (some 0) (some 0))])) ?_).trans rfl
    exact Ok.eq (Ok.bindE hb (Ok.iteF rfl (Ok.bindE (x := 0) rfl (Ok.bindE (x := [List.sum (sliceI ns (some 0) (some 0))]) rfl (Ok.some rfl)))))
  · exact Ok.bindE (x := true) rfl (Ok.iteT rfl (Ok.some trivial))
  · exact Ok.bindE (x := true) rfl (Ok.iteT rfl (Ok.some trivial))
theorem asked_ok {ns : List Int} {w m : Int} {t : Th} (hr : Row ns) (h1 : 1 ≤ m) (h2 : m ≤ ns.length) (ht : t ∈ things6) : OkP (m__law_told w ns m t) GoodT := by
  have hs : RowS ns := RowS_of hr
  have l2 := hr.2.1
  unfold m__law_told
  refine Ok.ite (fun _ => ?_) fun _ => Ok.ite (fun _ => ?_) fun _ => Ok.ite (fun _ => ?_) fun _ => Ok.ite (fun _ => ?_) fun _ => ?_
  · refine Ok.bind (P := fun r => GoodT (Co.f r : Th)) ?_ fun r hr => Ok.some hr
    unfold m_paper_of_greatest
    refine Ok.bindE (needpp_ok h1 h2) (Ok.bind (leastg_ok hs h1 h2) fun r _ => Ok.ite (fun hm => ?_) fun _ => Ok.bind (stretches_tot (by omega)) fun S _ => Ok.some (told_str _))
    have hm := of_decide_eq_true hm
    refine Ok.bind (P := fun _ => True) ?_ fun i _ => Ok.some (told_num i)
    unfold indexO
    cases q : ns.findIdx? (· == r.1) with
    | none =>
      have := List.findIdx?_eq_none_iff.mp q r.1 hm
      simp at this
    | some i => exact Ok.some trivial
  · exact Ok.bind (saysg_ok h1 h2 ht) fun r _ => Ok.some (good_co r)
  · refine Ok.bind (P := fun _ => True) ?_ fun r _ => Ok.some (good_co r)
    unfold m_paper_of_least
    exact Ok.bindE (needpp_ok h1 h2) (Ok.bind (greatl_ok hs h1 h2) fun r _ => Ok.bind (reaching_tot (by omega)) fun s _ => Ok.some trivial)
  · exact Ok.bind (saysl_ok h1 h2 ht) fun r _ => Ok.some (good_co r)
  · exact Ok.bind (ring_ok hs h1 h2) fun r _ => Ok.some (good_co r)
/-- what is no number of pieces -/
def BadM (n : Int) : Th → Prop
  | .int i => ¬ (1 ≤ i ∧ i ≤ n)
  | _ => True
theorem xpp_ok {ns : List Int} {t : Th} (h : BadM ns.length t) : m_X_need_pieces_papers ns t = some (.error .many) := by
  unfold m_X_need_pieces_papers
  cases t with
  | int i =>
    refine Ok.eq (Ok.bindE (x := false) ?_ (Ok.iteT rfl (Ok.some rfl)))
    show some (decide (1 ≤ i) && decide (i ≤ lenI ns)) = some false
    rw [show lenI ns = (ns.length : Int) from rfl, ← Bool.decide_and, decide_eq_false h]
  | _ => rfl
theorem xpr_ok {ns : List Int} {t : Th} (h : BadM ns.length t) : m_X_need_pieces_rings ns t = some (.error .many) := by
  unfold m_X_need_pieces_rings
  cases t with
  | int i =>
    refine Ok.eq (Ok.bindE (x := true) (Ok.eq (Ok.iteF rfl (Ok.bindE (x := true) (Ok.eq (Ok.iteF rfl (Ok.bindE (x := i) rfl (Ok.some ?_)))) (Ok.some rfl)))) (Ok.iteT rfl (Ok.some rfl)))
    rw [show lenI ns = (ns.length : Int) from rfl, ← Bool.decide_and, decide_eq_false h]
    rfl
  | _ => rfl
theorem refused_ok {ns : List Int} {w : Int} {t u : Th} (h : BadM ns.length t) : m__law_refused w ns t u = some true := by
  have e : m_X__law_told w ns t u = some (.error .many) := by
    unfold m_X__law_told m_X_paper_of_greatest m_X_says_greatest m_X_paper_of_least m_X_says_least m_X_ring_least_greatest
    rw [xpp_ok h, xpr_ok h]
    exact Ok.eq (Ok.ite (fun _ => Ok.some rfl) fun _ => Ok.ite (fun _ => Ok.some rfl) fun _ => Ok.ite (fun _ => Ok.some rfl) fun _ => Ok.ite (fun _ => Ok.some rfl) fun _ => Ok.some rfl)
  unfold m__law_refused
  rw [e]
  rfl
theorem nomany_ok {ds : List Int} {n : Int} (hd : Ds ds) (h0 : 1 ≤ n) (h1 : n ≤ 1000) : OkP (m__law_no_many ds n) fun r => (∀ t ∈ r.1, BadM n t) ∧ Ds r.2 := by
  unfold m__law_no_many
  refine Ok.bind (take_ok hd (by decide)) fun r hr => Ok.bind (take_ok hr.2.2 (by decide)) fun q hq => Ok.bindE (mulO_s (by omega) (by omega)) (Ok.bindE (x := _) (if_pos ?_) (Ok.bindE (range1_s (by decide) (by decide)) ?_))
  · exact Nat.lt_of_le_of_lt (Nat.log2_le_self _) (by omega)
  have hm : 0 ≤ r.1 * (1 + q.1) := Int.mul_nonneg hr.1 (by omega)
  generalize r.1 * (1 + q.1) = far at hm ⊢
  refine Ok.bind (Ok.mapS (BadM n) Ds (by rw [rangeF_len]; decide) hq.2.2 fun x hx b hb => Ok.bind (take_ok hb (by decide)) fun z hz => Ok.bind (atI_mem hz.1 hz.2.1) fun t ht => Ok.some ⟨?_, hz.2.2⟩) fun A hA => ?_
  · have ht : t ∈ [Th.int 0, Th.int (n + 1), Th.int ((n + 1) + far), Th.int (-1), Th.int (0 - ((n + 1) + far)), Th.int (0 - n), Th.int 1000000000000000000000000000000, Th.bl true, Th.bl false, Th.non, Th.str "1", Th.str (PySem.Str.ofString (toString n)), Th.str "", Th.lst [Th.int 1], Th.tup [Th.int 1], Th.dic [] [], Th.lst []] := ht
    simp only [List.mem_cons, List.not_mem_nil, or_false] at ht
    rcases ht with rfl | rfl | rfl | rfl | rfl | rfl | rfl | rfl | rfl | rfl | rfl | rfl | rfl | rfl | rfl | rfl | rfl <;> first | exact trivial | (show ¬ (_ ∧ _); omega)
  · rw [rangeF_len] at hA
    refine Ok.bindE (catO_s (by simp; rw [hA.1]; decide)) (Ok.some ⟨fun t ht => ?_, hA.2.2⟩)
    rcases List.mem_append.mp ht with ht | ht
    · exact hA.2.1 t ht
    · have ht : t ∈ [Th.int 0, Th.int (n + 1), Th.bl true] := ht
      simp only [List.mem_cons, List.not_mem_nil, or_false] at ht
      rcases ht with rfl | rfl | rfl <;> first | exact trivial | (show ¬ (_ ∧ _); omega)
theorem deep_ok : OkP (m__law_deep 3000) fun _ => True := by
  unfold m__law_deep
  exact Ok.bindE (range1_s (by decide) (by decide)) (Ok.bind (Ok.foldA (fun _ => True) trivial fun x _ b _ => Ok.some trivial) fun b _ => Ok.some trivial)
theorem things_dou {t : Th} (ht : t ∈ things6) : DOU (Th.d t) 2 100 := by
  unfold things6 at ht
  simp only [List.mem_cons, List.not_mem_nil, or_false] at ht
  rcases ht with rfl | rfl | rfl | rfl | rfl | rfl <;> (refine ⟨?_, ?_, ?_, ?_⟩ <;> decide +kernel)
theorem repr_ok {ns : List Int} {t : Th} (hr : Row ns) (ht : t ∈ things6) : OkP (reprU (([(Co.f (ns : (List Int)) : Th), t] : List Th) : (List Th))) fun _ => True := by
  have e71 : (2 : Nat) ^ 71 = 2361183241434822606848 := by decide
  have d1 : DOU (Th.d (.lst (ns.map Co.f))) 2 8640 := by
    have : DOU (.list (Th.dL (ns.map Co.f : List Th))) 1 (120 * 72) := by
      rw [dL_map]
      refine DOU.list (w := 71) (fun d hd => ?_) (by rw [List.length_map, List.length_map]; exact hr.2.1)
      obtain ⟨x, hx, rfl⟩ := List.mem_map.mp hd
      obtain ⟨i, hi, rfl⟩ := List.mem_map.mp hx
      have := hr.2.2 i hi
      exact DOU.int (by omega)
    exact this.mono (by decide) (by decide)
  have d2 : DOU (Th.d (.lst [(Co.f ns : Th), t])) 10 82500 := by
    have : DOU (.list (Th.dL [(Co.f ns : Th), t])) 3 (2 * 8641) := by
      rw [dL_map]
      refine DOU.list (w := 8640) (fun d hd => ?_) (Nat.le_refl _)
      have hd : d ∈ [Th.d (.lst (ns.map Co.f)), Th.d t] := hd
      simp only [List.mem_cons, List.not_mem_nil, or_false] at hd
      rcases hd with rfl | rfl
      · exact d1
      · exact (things_dou ht).mono (by decide) (by decide)
    exact this.mono (by decide) (by decide)
  exact ⟨_, reprU_ok (t := .lst [(Co.f ns : Th), t]) d2, trivial⟩
theorem law_true (ns : List Int) (hl : ns.length ≤ 63) : m_law ⟨ns⟩ = some true := by
  unfold m_law
  refine Ok.eq (Ok.bind (draws_ok ns hl) fun ds hds => Ok.bind (Ok.whileI (fun (s : List Int × Int) => Ds s.1 ∧ 0 ≤ s.2 ∧ s.2 ≤ 6) (fun _ => True) (fun s => (9 - s.2).toNat) ⟨hds, by show (0 : Int) ≤ 0; decide, by show (0 : Int) ≤ 6; decide⟩ (Nat.lt_of_lt_of_le (show (9 - (0 : Int)).toNat < 100 by decide) (by decide)) fun s hs => ?_) fun o ho => ?_)
  · obtain ⟨s1, s2, s3⟩ := hs
    refine Ok.bind (P := fun b => b = true → s.2 < 6) (Ok.ite (fun h => Ok.some fun _ => by have := of_decide_eq_true h; omega) fun _ => Ok.bindE (eqO_E _ _) (Ok.some fun h => ?_)) fun b hb => Ok.ite (fun h => ?_) fun h => Ok.some (.inr ⟨_, rfl, trivial⟩)
    · rw [Bool.and_eq_true, decide_eq_true_eq] at h
      exact h.2
    have hlt := hb h
    refine Ok.bind (drow_ok s1 (by decide) (by decide)) fun r hr => ?_
    have l1 := hr.1.1
    have l2 := hr.1.2.1
    have hL : lenI r.1 = (r.1.length : Int) := rfl
    refine Ok.bind (dpieces_ok hr.2.2 l1) fun q hq => Ok.bindE (range1_s (by decide) (by decide)) (Ok.bind (Ok.forA Ds hq.2.2 fun w hw ds2 hd2 => ?_) fun o ho => ?_)
    · have hw2 := mem_rangeF hw
      refine Ok.bind (P := fun row => Row row) ?_ fun row hrow => ?_
      · have ht : (sliceI r.1 none (some 40)) = r.1.take 40 := sliceI_to (by decide)
        have hrt : Row (r.1.take 40) := ⟨by rw [List.length_take]; omega, by rw [List.length_take]; omega, fun n hn => hr.1.2.2 n (List.mem_of_mem_take hn)⟩
        rw [ht]
        have key : ∀ i : Int, (i = 0 ∨ i = 1) → OkP (atI ([r.1, r.1.take 40] : List (List Int)) i) Row := fun i hi => by
          rcases hi with rfl | rfl
          · exact ⟨r.1, rfl, hr.1⟩
          · exact ⟨r.1.take 40, rfl, hrt⟩
        refine key _ ?_
        split
        · exact .inr rfl
        · exact .inl rfl
      · have k1 := hrow.1
        have k2 := hrow.2.1
        have hLr : lenI row = (row.length : Int) := rfl
        refine Ok.bind (take_ok hd2 (by decide)) fun a ha => Ok.bind (P := fun t => t ∈ things6) (atI_mem ha.1 ha.2.1) fun t ht => ?_
        have hm1 : 1 ≤ min q.1 (lenI row) := by omega
        have hm2 : min q.1 (lenI row) ≤ row.length := by omega
        obtain ⟨T, eT, hT⟩ := asked_ok (w := w) hrow hm1 hm2 ht
        obtain ⟨kept, ek, _⟩ := repr_ok hrow ht
        refine Ok.bindE eT (Ok.bindE ek (Ok.bind (nomany_ok ha.2.2 (by omega) (by omega)) fun z hz => ?_))
        refine Ok.bind (Ok.forU fun u hu => ?_) fun o ho => ?_
        · refine Ok.bindE (refused_ok (hz.1 u hu)) (Ok.bindE (x := false) (Ok.eq (Ok.iteF rfl (Ok.bindE ek (Ok.some ?_)))) (Ok.iteF rfl (Ok.some rfl)))
          rw [decide_eq_true rfl]
          rfl
        · subst ho
          refine Ok.bind deep_ok fun D _ => Ok.bindE (refused_ok (t := Co.f D) trivial) (Ok.bindE (x := false) (Ok.eq (Ok.iteF rfl (Ok.bindE eT (Ok.bindE (eqT_good hT) (Ok.some rfl))))) (Ok.iteF rfl (Ok.bindE ek (Ok.bindE (x := false) (Ok.eq (Ok.iteF ?_ (Ok.bindE (eqO_E _ _) (Ok.some ?_)))) (Ok.iteF rfl (Ok.some ⟨_, rfl, hz.2⟩))))))
          · rw [decide_eq_true rfl]
            rfl
          · rw [decide_eq_true rfl]
            rfl
    · obtain ⟨b, rfl, hb2⟩ := ho
      exact Ok.some (.inl ⟨_, rfl, ⟨hb2, by dsimp only; omega, by dsimp only; omega⟩, by dsimp only; omega⟩)
  · obtain ⟨s, rfl, _⟩ := ho
    exact Ok.some rfl
def top_ (i : Nat) : Stmt := PySem.Challenge.pw_piecebounds_k37_no_such_many.main.body.getD i (.Pass ⟨0, 0, 0, 0⟩)
abbrev s_is_whole : Stmt := top_ 8
abbrev s_need_many : Stmt := top_ 9
abbrev s_long_cut : Stmt := top_ 11
abbrev s_fewest_pieces : Stmt := top_ 12
abbrev s_least_bound : Stmt := top_ 13
abbrev s_early_cut : Stmt := top_ 14
abbrev s_least_greatest : Stmt := top_ 15
abbrev s_ends_of : Stmt := top_ 17
abbrev s_greatest_least : Stmt := top_ 18
abbrev s_is_among : Stmt := top_ 20
abbrev s_need_pieces : Stmt := top_ 31
abbrev s_need_pieces_papers : Stmt := top_ 21
abbrev s_reaching : Stmt := top_ 23
abbrev s_stretches_to : Stmt := top_ 24
abbrev s_paper_of_greatest : Stmt := top_ 25
abbrev s_are_stretches : Stmt := top_ 26
abbrev s_says_greatest : Stmt := top_ 27
abbrev s_paper_of_least : Stmt := top_ 28
abbrev s_says_least : Stmt := top_ 29
abbrev s_need_pieces_rings : Stmt := top_ 31
abbrev s_ring_least_greatest : Stmt := top_ 33
abbrev s__law_draws : Stmt := top_ 35
abbrev s__law_take : Stmt := top_ 36
abbrev s__law_row : Stmt := top_ 37
abbrev s__law_pieces : Stmt := top_ 38
abbrev s__law_deep : Stmt := top_ 39
abbrev s__law_told : Stmt := top_ 40
abbrev s__law_refused : Stmt := top_ 41
abbrev s__law_no_many : Stmt := top_ 42
abbrev s_law : Stmt := top_ 43
/-! ### _law_draws -/
abbrev sp__law_draws (K : PySem.W.Frag) : Sp := fun vs H Q _ => ∃ (x_script : Scr) (v_script : V),  vs = [v_script] ∧ Rp.rep (lkA K H) x_script v_script ∧ ∃ r : (List Int), m__law_draws x_script = some r ∧ ∀ v' H', Res K H r v' H' → Q v' H'
section
variable {P : Program} {w : World} {K : PySem.W.Frag} {mg : Str → Option Value} {base : Heap}
abbrev N__law_draws : List Str := ["script", "draws", "k", "rest", "stir", "many"]
theorem scope__law_draws : FnScope N__law_draws ["script"] (defScope s__law_draws) := ⟨rfl, rfl, rfl, by decide +kernel, rfl, by decide +kernel, by decide +kernel⟩
theorem ok__law_draws {f : Addr} {fd : FuncData} (F : FunD K "_law_draws" "_law_draws" (defArgs s__law_draws) (defBody s__law_draws) (defScope s__law_draws) [] [] f fd) (hm : mg "_law_draws" = some (.ref f)) (Z : Blt mg) (SM : SMd base) (XX : Exs K mg es6) :
    Fn P w K mg base 1 "_law_draws" ["script"] (sp__law_draws K) := by
  refine mkFn F hm (fun _ _ _ _ _ _ us hl => match us, hl with | [_], _ => rfl) (okG (k := 0) F scope__law_draws (fun vs H0 Q E h => ?_) (fun cdv A outer s H0 vs Q E hr hgd h => ?_))
  · obtain ⟨_, _, rfl, _⟩ := h; rfl
  · have nd := scope__law_draws.nd
    have hu := hr.units
    unfold sp__law_draws at h
    refine ⟨_, PSs.nox (pss_cons (ps_set (i := 1) nd rfl (.inl rfl) (pe_lst pa_nil))
    (pss_cons (ps_for PassesOwn.never rfl (pi_range1 (by rfl) Z.range_ (pa_cons (pe_callB (cl_min2 rfl) (by rfl) Z.min_ (by decide +kernel) (pa_cons (pe_callB cl_len (by rfl) Z.len_ (by decide +kernel) (pa_cons (pv 0) pa_nil)) (pa_cons pe_int pa_nil))) pa_nil)) (pg_name (i := 2) nd rfl (.inl rfl)) (pss_cons (ps_set (i := 3) nd rfl (.inl rfl) (pe_callB cl_abs (by rfl) Z.abs_ (by decide +kernel) (pa_cons (pe_ix ix_seq (pv 0) (pv 2) (fun _ _ => rfl)) pa_nil)))
    (pss_one (ps_if (pt_cmpR (op_ltA hu) (pv 3) (pe_op op_pow pe_int pe_int) (nomark _)) (pss_cons (ps_set (i := 4) nd rfl (.inl rfl) (pe_op op_mod (pe_op op_mulA (pe_op op_mod (pe_op op_addA (pe_op op_addA (pv 3) (pe_op op_mulA pe_int (pv 2))) pe_int) pe_int) pe_int) pe_int))
    (pss_cons (ps_set (i := 4) nd rfl (.inl rfl) (pe_op op_mod (pe_op op_mulA (pv 4) (pv 4)) pe_int))
    (pss_cons (ps_expr (pe_bmK (K := K) PySem.F.plainAttrs_list PySem.F.slot_list_append PySem.F.type_list_append mt_append (pv 1) (pa_cons (pe_op op_mod (pe_op op_fdivW (pv 4) pe_int) pe_int) pa_nil)))
    (pss_cons (ps_expr (pe_bmK (K := K) PySem.F.plainAttrs_list PySem.F.slot_list_append PySem.F.type_list_append mt_append (pv 1) (pa_cons (pe_op op_mod (pe_op op_fdivW (pv 4) pe_int) pe_int) pa_nil)))
    (pss_cons (ps_set (i := 4) nd rfl (.inl rfl) (pe_op op_mod (pe_op op_addA (pv 4) (pe_op op_mulA pe_int (pe_op op_addA (pv 2) pe_int))) pe_int))
    (pss_one (ps_expr (pe_bmK (K := K) PySem.F.plainAttrs_list PySem.F.slot_list_append PySem.F.type_list_append mt_append (pv 1) (pa_cons (pe_op op_mod (pe_op op_fdivW (pe_op op_mod (pe_op op_mulA (pv 4) (pv 4)) pe_int) pe_int) pe_int) pa_nil))))))))) (pss_cons (ps_set (i := 5) nd rfl (.inl rfl) pe_int)
    (pss_one (ps_while PassesOwn.never (PW.pt (pw_and (pt_cmpR (op_geA hu) (pv 3) pe_int (nomark _)) (pw_and1 (pt_cmpR (op_ltA hu) (pv 5) pe_int (nomark _))))) (pss_cons (ps_expr (pe_bmK (K := K) PySem.F.plainAttrs_list PySem.F.slot_list_append PySem.F.type_list_append mt_append (pv 1) (pa_cons (pe_op op_mod (pv 3) pe_int) pa_nil)))
    (pss_cons (ps_set (i := 3) nd rfl (.inl rfl) (pe_op op_fdivW (pv 3) pe_int))
    (pss_one (ps_set (i := 5) nd rfl (.inl rfl) (pe_op op_addA (pv 5) pe_int))))))))))))
    (pss_one (ps_ret (pe_slice sl_list (pv 1) po_none (po_some pe_int)))))), ?_⟩
    (try dsimp only [cxOf])
    obtain ⟨x_script, v_script, rfl, h_script, r0, hm, q⟩ := h
    let G_ : (List Int) → Prop := fun r => ∀ v' H', Res K H0 r v' H' → Q v' H'
    have hq : ∀ r, r = r0 → G_ r := fun r e => by subst e; exact q
    clear q
    unfold m__law_draws at hm
    have W0 := Wd.start (K := K) H0
    have W1 := Wd.arg W0 h_script
    obtain ⟨a2, rfl⟩ := Wd.eqScr W1 (Kn.at 0 rfl)
    refine i_seq ?_
    refine i_asg ?_
    refine i_tlst ?_
    refine i_tnil ?_
    refine w_lst (α := Int) (t := true) W1 KnL.nil (by show (0 : Nat) ≤ sizeLine; decide) (fun p3 H4 W5 => ?_)
    refine i_gName ?_
    clear W0 W1
    refine i_seq ?_
    refine i_for ?_
    refine i_iRng1 ?_
    refine i_tcons ?_
    refine i_cb ?_
    refine i_tcons ?_
    refine i_cb ?_
    refine i_tcons ?_
    refine i_var rfl ?_
    refine i_tnil ?_
    refine w_len W5 (Ls.scr (t := true) (Kn.at 0 rfl)) ?_
    refine i_tcons ?_
    refine i_c ?_
    refine i_tnil ?_
    refine i_min2 ?_
    refine i_tnil ?_
    replace hm := bndE hm
    obtain ⟨x7, h8, hm⟩ := hm
    refine w_rg1 h8 (fun e6 => ?_)
    subst e6
    have W9 := Wd.sel W5 [0] rfl
    replace hm := bndE hm
    obtain ⟨o15, h16, hm⟩ := hm
    refine w_fold (⟨fun b e => [some (.ref a2), some (.ref p3), e.1, e.2.2.1, e.2.2.2, e.2.1], fun b e => [fc false (x_script : Scr) (.ref a2)], fun b e => [oL true p3 (b : List Int)]⟩ : Shp ((List Int)) (Option V × Option V × Option V × Option V)) (none, none, none, none) h16 rfl W9 gv_rng ?_ ?_
    · intro x12 v13 b10 e11 H17 o18 W14 hm
      obtain ⟨e11_0, e11_1, e11_2, e11_3⟩ := e11
      dsimp only at W14 ⊢
      obtain rfl := Wd.eqI W14 (Kn.at 0 rfl)
      refine i_gName ?_
      refine i_seq ?_
      refine i_asg ?_
      refine i_cb ?_
      refine i_tcons ?_
      refine i_op ?_
      refine i_var rfl ?_
      refine i_var rfl ?_
      replace hm := bndE hm
      obtain ⟨x23, h24, hm⟩ := hm
      refine w_ixI W14 (Ls.scr (t := true) (Kn.at 1 rfl)) h24 ?_
      refine i_tnil ?_
      refine i_abs ?_
      refine i_gName ?_
      refine i_ifS ?_
      refine i_test ?_
      refine i_op ?_
      refine i_var rfl ?_
      refine i_op ?_
      refine i_c ?_
      refine i_c ?_
      refine i_pow (n := 1000000000000000000) (by decide) (by decide) ?_
      refine i_ltA ?_
      refine i_bl ?_
      rcases iteE hm with ⟨hb25, hm⟩ | ⟨hb25, hm⟩
      · refine i_bT hb25 ?_
        refine i_seq ?_
        refine i_asg ?_
        refine i_op ?_
        refine i_op ?_
        refine i_op ?_
        refine i_op ?_
        refine i_op ?_
        refine i_var rfl ?_
        refine i_op ?_
        refine i_c ?_
        refine i_var rfl ?_
        replace hm := bndE hm
        obtain ⟨x26, h27, hm⟩ := hm
        refine w_mul h27 ?_
        refine i_addI ?_
        refine i_c ?_
        refine i_addI ?_
        refine i_c ?_
        refine i_mod (by decide) ?_
        refine i_c ?_
        replace hm := bndE hm
        obtain ⟨x28, h29, hm⟩ := hm
        refine w_mul h29 ?_
        refine i_c ?_
        refine i_mod (by decide) ?_
        refine i_gName ?_
        refine i_seq ?_
        refine i_asg ?_
        refine i_op ?_
        refine i_op ?_
        refine i_var rfl ?_
        refine i_var rfl ?_
        replace hm := bndE hm
        obtain ⟨x30, h31, hm⟩ := hm
        refine w_mul h31 ?_
        refine i_c ?_
        refine i_mod (by decide) ?_
        refine i_gName ?_
        refine i_seq ?_
        refine i_drop ?_
        refine i_bm ?_
        refine i_var rfl ?_
        refine w_mt W14 (Lx.ls (Lx.own 0 rfl)) ?_
        refine i_tcons ?_
        refine i_op ?_
        refine i_op ?_
        refine i_var rfl ?_
        refine i_c ?_
        refine i_fdiv (by decide) (by decide) ?_
        refine i_c ?_
        refine i_mod (by decide) ?_
        refine i_tnil ?_
        replace hm := bndE hm
        obtain ⟨x32, h33, hm⟩ := hm
        refine w_app W14 0 rfl Kn.int h33 (fun H34 W35 => ?_)
        dsimp only [List.set] at W35
        clear W14
        refine i_seq ?_
        refine i_drop ?_
        refine i_bm ?_
        refine i_var rfl ?_
        refine w_mt W35 (Lx.ls (Lx.own 0 rfl)) ?_
        refine i_tcons ?_
        refine i_op ?_
        refine i_op ?_
        refine i_var rfl ?_
        refine i_c ?_
        refine i_fdiv (by decide) (by decide) ?_
        refine i_c ?_
        refine i_mod (by decide) ?_
        refine i_tnil ?_
        replace hm := bndE hm
        obtain ⟨x36, h37, hm⟩ := hm
        refine w_app W35 0 rfl Kn.int h37 (fun H38 W39 => ?_)
        dsimp only [List.set] at W39
        clear W35
        refine i_seq ?_
        refine i_asg ?_
        refine i_op ?_
        refine i_op ?_
        refine i_var rfl ?_
        refine i_op ?_
        refine i_c ?_
        refine i_op ?_
        refine i_var rfl ?_
        refine i_c ?_
        refine i_addI ?_
        replace hm := bndE hm
        obtain ⟨x40, h41, hm⟩ := hm
        refine w_mul h41 ?_
        refine i_addI ?_
        refine i_c ?_
        refine i_mod (by decide) ?_
        refine i_gName ?_
        refine i_drop ?_
        refine i_bm ?_
        refine i_var rfl ?_
        refine w_mt W39 (Lx.ls (Lx.own 0 rfl)) ?_
        refine i_tcons ?_
        refine i_op ?_
        refine i_op ?_
        refine i_op ?_
        refine i_op ?_
        refine i_var rfl ?_
        refine i_var rfl ?_
        replace hm := bndE hm
        obtain ⟨x42, h43, hm⟩ := hm
        refine w_mul h43 ?_
        refine i_c ?_
        refine i_mod (by decide) ?_
        refine i_c ?_
        refine i_fdiv (by decide) (by decide) ?_
        refine i_c ?_
        refine i_mod (by decide) ?_
        refine i_tnil ?_
        replace hm := bndE hm
        obtain ⟨x44, h45, hm⟩ := hm
        refine w_app W39 0 rfl Kn.int h45 (fun H46 W47 => ?_)
        dsimp only [List.set] at W47
        clear W39
        have W48 := Wd.sel W47 [1] rfl
        obtain rfl := some_inj hm
        exact ⟨(some (.int x12), e11_1, some (.int (if x23 < 0 then -x23 else x23)), some (.int (((x30 % 2147483629) + x40) % 2147483587))), rfl, W48⟩
      · refine i_bF hb25 ?_
        refine i_seq ?_
        refine i_asg ?_
        refine i_c ?_
        refine i_gName ?_
        have W49 := Wd.sel W14 [1] rfl
        replace hm := bndE hm
        obtain ⟨o55, h56, hm⟩ := hm
        refine w_while (⟨fun b e => [some (.ref a2), some (.ref p3), some (.int x12), some (.int b.2.2), e11_3, some (.int b.2.1)], fun b e => [fc false (x_script : Scr) (.ref a2)], fun b e => [oL true p3 (b.1 : List Int)]⟩ : Shp ((List Int) × Int × Int) (Unit)) () h56 rfl W49 ?_ ?_
        · intro b50 e51 H57 o58 W54 hm hr59 hbk62 P60 hP61
          dsimp only at W54 ⊢
          refine i_and ?_
          refine i_test ?_
          refine i_op ?_
          refine i_var rfl ?_
          refine i_c ?_
          refine i_geA ?_
          refine i_bl ?_
          refine w_andW (L' := _) ((decide (b50.2.2 ≥ 1000)) && (decide (b50.2.1 < 60))) W54 (fun hb63 P64 hP65 => ?_) (fun hb63 => ⟨and_f hb63, W54⟩) (fun H66 W67 => ?_)
          · refine i_test ?_
            refine i_op ?_
            refine i_var rfl ?_
            refine i_c ?_
            refine i_ltA ?_
            refine i_bl ?_
            exact hP65 _ _ (and_t hb63) W54
          clear W54
          rcases iteE hm with ⟨hb68, hm⟩ | ⟨hb68, hm⟩
          · refine i_bT hb68 ?_
            refine ⟨_, hP61, ?_⟩
            refine i_seq ?_
            refine i_drop ?_
            refine i_bm ?_
            refine i_var rfl ?_
            refine w_mt W67 (Lx.ls (Lx.own 0 rfl)) ?_
            refine i_tcons ?_
            refine i_op ?_
            refine i_var rfl ?_
            refine i_c ?_
            refine i_mod (by decide) ?_
            refine i_tnil ?_
            replace hm := bndE hm
            obtain ⟨x69, h70, hm⟩ := hm
            refine w_app W67 0 rfl Kn.int h70 (fun H71 W72 => ?_)
            dsimp only [List.set] at W72
            clear W67
            refine i_seq ?_
            refine i_asg ?_
            refine i_op ?_
            refine i_var rfl ?_
            refine i_c ?_
            refine i_fdiv (by decide) (by decide) ?_
            refine i_gName ?_
            refine i_asg ?_
            refine i_op ?_
            refine i_var rfl ?_
            refine i_c ?_
            refine i_addI ?_
            refine i_gName ?_
            have W73 := Wd.sel W72 [0] rfl
            exact ⟨(x69, (b50.2.1 + 1), (b50.2.2 / 1000)), (), (some_inj hm).symm, rfl, W73⟩
          · refine i_bF hb68 ?_
            have W74 := Wd.sel W67 [0] rfl
            exact hbk62 (b50.1, b50.2.1, b50.2.2) () _ (some_inj hm).symm W74
        · intro s75 e76 H77 eb79 W78
          subst eb79
          dsimp only at W78 ⊢
          have W80 := Wd.sel W78 [0] rfl
          obtain rfl := some_inj hm
          exact ⟨(some (.int x12), some (.int s75.2.1), some (.int s75.2.2), e11_3), rfl, W80⟩
    · intro e82 H83 W84
      obtain ⟨e82_0, e82_1, e82_2, e82_3⟩ := e82
      dsimp only at W84 ⊢
      refine i_ret ?_
      refine i_sl ?_
      refine i_var rfl ?_
      refine i_nopart ?_
      refine i_part ?_
      refine i_c ?_
      refine i_partI ?_
      refine w_slice W84 (Lx.ls (Lx.own 0 rfl)) (fun p86 H87 W88 => ?_)
      have W89 := Wd.frz W88
      exact hq _ (some_inj hm) _ _ (Wd.res (x := ((sliceI o15 none (some 240)) : (List Int))) W89 (Kn.at 0 rfl))
end
/-! ### _law_take -/
abbrev sp__law_take (K : PySem.W.Frag) : Sp := fun vs H Q _ => ∃ (a_draws : Addr) (x_draws : (List Int)) (us_draws : List V) (x_many : Int),  vs = [.ref a_draws, .int x_many] ∧ H a_draws = some (.lst us_draws) ∧ All2 (Rp.rep (lkN fun _ => none)) x_draws us_draws ∧ ∃ r : (Int × (List Int)), m__law_take x_draws x_many = some r ∧ ∀ v' H', Res1 K H a_draws r v' H' → Q v' H'
section
variable {P : Program} {w : World} {K : PySem.W.Frag} {mg : Str → Option Value} {base : Heap}
abbrev N__law_take : List Str := ["draws", "many"]
theorem scope__law_take : FnScope N__law_take ["draws", "many"] (defScope s__law_take) := ⟨rfl, rfl, rfl, by decide +kernel, rfl, by decide +kernel, by decide +kernel⟩
theorem ok__law_take {f : Addr} {fd : FuncData} (F : FunD K "_law_take" "_law_take" (defArgs s__law_take) (defBody s__law_take) (defScope s__law_take) [] [] f fd) (hm : mg "_law_take" = some (.ref f)) (Z : Blt mg) (SM : SMd base) (XX : Exs K mg es6) :
    Fn P w K mg base 1 "_law_take" ["draws", "many"] (sp__law_take K) := by
  refine mkFn F hm (fun _ _ _ _ _ _ us hl => match us, hl with | [_, _], _ => rfl) (okG (k := 0) F scope__law_take (fun vs H0 Q E h => ?_) (fun cdv A outer s H0 vs Q E hr hgd h => ?_))
  · obtain ⟨_, _, _, _, rfl, _⟩ := h; rfl
  · have nd := scope__law_take.nd
    have hu := hr.units
    unfold sp__law_take at h
    refine ⟨_, PSs.nox (pss_cons (ps_if (pt_cmpR (op_eqA hu) (pv 0) (pe_lst pa_nil) (nomark _)) (pss_one (ps_ret pe_int)) pss_nil)
    (pss_one (ps_ret (pe_op op_mod (pe_bmK (K := K) PySem.F.plainAttrs_list PySem.F.slot_list_pop PySem.F.type_list_pop mt_popAt (pv 0) (pa_cons pe_int pa_nil)) (pv 1))))), ?_⟩
    (try dsimp only [cxOf])
    obtain ⟨a_draws, x_draws, us_draws, x_many, rfl, ha_draws, hr_draws, r0, hm, q⟩ := h
    let G_ : (Int × (List Int)) → Prop := fun r => ∀ v' H', Res1 K H0 a_draws r v' H' → Q v' H'
    have hq : ∀ r, r = r0 → G_ r := fun r e => by subst e; exact q
    clear q
    unfold m__law_take at hm
    have hB : H0 a_draws ≠ none := fun e => by rw [ha_draws] at e; cases e
    have W0 : Wd K (del H0 a_draws) [] [oL true a_draws x_draws] H0 := Wd.mut ha_draws hr_draws
    refine i_seq ?_
    refine i_ifS ?_
    refine i_test ?_
    refine i_op ?_
    refine i_var rfl ?_
    refine i_tlst ?_
    refine i_tnil ?_
    refine w_lst (α := Int) (t := true) W0 KnL.nil (by show (0 : Nat) ≤ sizeLine; decide) (fun p1 H2 W3 => ?_)
    have W4 := Wd.frz W3
    replace hm := bndE hm
    obtain ⟨x5, h6, hm⟩ := hm
    refine w_eq W4 (Ar.lx (Lx.own 0 rfl)) (Ar.kn (t := true) (Kn.at 0 rfl)) h6 ?_
    refine i_bl ?_
    clear W0 W3
    rcases iteE hm with ⟨hb7, hm⟩ | ⟨hb7, hm⟩
    · refine i_bT hb7 ?_
      refine i_ret ?_
      refine i_c ?_
      exact hq _ (some_inj hm) _ _ (Wd.res1 (x := (0 : Int)) W4 hB 0 rfl Kn.int)
    · refine i_bF hb7 ?_
      refine i_next ?_
      refine i_ret ?_
      refine i_op ?_
      refine i_bm ?_
      refine i_var rfl ?_
      refine w_mt W4 (Lx.ls (Lx.own 0 rfl)) ?_
      refine i_tcons ?_
      refine i_c ?_
      refine i_tnil ?_
      replace hm := bndE hm
      obtain ⟨x8, h9, hm⟩ := hm
      refine w_pop W4 0 rfl h9 (fun u10 H11 W12 => ?_)
      dsimp only [List.set] at W12
      obtain rfl := Wd.eqI W12 (Kn.at 0 rfl)
      refine i_var rfl ?_
      replace hm := bndE hm
      obtain ⟨x13, h14, hm⟩ := hm
      refine w_mod h14 ?_
      exact hq _ (some_inj hm) _ _ (Wd.res1 (x := (x13 : Int)) W12 hB 0 rfl Kn.int)
end
/-! ### _law_row -/
abbrev sp__law_row (K : PySem.W.Frag) : Sp := fun vs H Q _ => ∃ (a_draws : Addr) (x_draws : (List Int)) (us_draws : List V) (x_most : Int),  vs = [.ref a_draws, .int x_most] ∧ H a_draws = some (.lst us_draws) ∧ All2 (Rp.rep (lkN fun _ => none)) x_draws us_draws ∧ ∃ r : ((List Int) × (List Int)), m__law_row x_draws x_most = some r ∧ ∀ v' H', Res1 K H a_draws r v' H' → Q v' H'
section
variable {P : Program} {w : World} {K : PySem.W.Frag} {mg : Str → Option Value} {base : Heap}
abbrev N__law_row : List Str := ["draws", "most", "many", "bases", "base", "mixed", "one", "other", "third", "free", "likes", "found", "k", "at", "turn", "number", "shape"]
theorem scope__law_row : FnScope N__law_row ["draws", "most"] (defScope s__law_row) := ⟨rfl, rfl, rfl, by decide +kernel, rfl, by decide +kernel, by decide +kernel⟩
-- comprehension scope 0
theorem ok__law_row {f : Addr} {fd : FuncData} (F : FunD K "_law_row" "_law_row" (defArgs s__law_row) (defBody s__law_row) (defScope s__law_row) [] [] f fd) (hm : mg "_law_row" = some (.ref f)) (Z : Blt mg) (SM : SMd base) (XX : Exs K mg es6)
    (C__law_take : Fn P w K mg base 1 "_law_take" ["draws", "many"] (sp__law_take K)) :
    Fn P w K mg base 2 "_law_row" ["draws", "most"] (sp__law_row K) := by
  refine mkFn F hm (fun _ _ _ _ _ _ us hl => match us, hl with | [_, _], _ => rfl) (okG (k := 1) F scope__law_row (fun vs H0 Q E h => ?_) (fun cdv A outer s H0 vs Q E hr hgd h => ?_))
  · obtain ⟨_, _, _, _, rfl, _⟩ := h; rfl
  · have nd := scope__law_row.nd
    have hu := hr.units
    have hr__law_take : Room 1 _ := hr.mono (by decide : 1 ≤ 1)
    unfold sp__law_row at h
    refine ⟨_, PSs.nox (pss_cons (ps_set (i := 2) nd rfl (.inl rfl) (pe_callB (cl_min2 rfl) (by rfl) Z.min_ (by decide +kernel) (pa_cons (pv 1) (pa_cons (pe_op op_addA pe_int (pe_fn C__law_take hr__law_take hgd (by rfl) passL (pa_cons (pv 0) (pa_cons pe_int pa_nil)))) pa_nil))))
    (C8.pss_cut (ps_if (pt_cmpR (op_eqA hu) (pe_fn C__law_take hr__law_take hgd (by rfl) passL (pa_cons (pv 0) (pa_cons pe_int pa_nil))) pe_int (nomark _)) (pss_one (ps_set (i := 2) nd rfl (.inl rfl) (pe_ix ix_seq (pe_lst (pa_cons (pv 1) (pa_cons (pe_op op_addA pe_int (pe_fn C__law_take hr__law_take hgd (by rfl) passL (pa_cons (pv 0) (pa_cons (pv 1) pa_nil)))) pa_nil))) (pe_fn C__law_take hr__law_take hgd (by rfl) passL (pa_cons (pv 0) (pa_cons pe_int pa_nil))) (fun _ _ => rfl)))) pss_nil)
    (pss_cons (ps_set (i := 3) nd rfl (.inl rfl) (pe_lst (pa_cons pe_int (pa_cons pe_int (pa_cons pe_int (pa_cons pe_int (pa_cons pe_int (pa_cons (pe_op op_pow pe_int pe_int) (pa_cons (pe_op op_pow pe_int pe_int) (pa_cons (pe_op op_addA (pe_op op_pow pe_int pe_int) pe_int) pa_nil))))))))))
    (pss_cons (ps_set (i := 4) nd rfl (.inl rfl) (pe_ix ix_seq (pv 3) (pe_fn C__law_take hr__law_take hgd (by rfl) passL (pa_cons (pv 0) (pa_cons pe_int pa_nil))) (fun _ _ => rfl)))
    (pss_cons (ps_set (i := 5) nd rfl (.inl rfl) (pe_cmpR (op_eqA hu) (pe_fn C__law_take hr__law_take hgd (by rfl) passL (pa_cons (pv 0) (pa_cons pe_int pa_nil))) pe_int (nomark _)))
    (pss_cons (ps_set (i := 6) nd rfl (.inl rfl) (pe_fn C__law_take hr__law_take hgd (by rfl) passL (pa_cons (pv 0) (pa_cons pe_int pa_nil))))
    (pss_cons (ps_set (i := 7) nd rfl (.inl rfl) (pe_op op_addA pe_int (pe_fn C__law_take hr__law_take hgd (by rfl) passL (pa_cons (pv 0) (pa_cons pe_int pa_nil)))))
    (pss_cons (ps_set (i := 8) nd rfl (.inl rfl) (pe_fn C__law_take hr__law_take hgd (by rfl) passL (pa_cons (pv 0) (pa_cons pe_int pa_nil))))
    (pss_cons (ps_set (i := 9) nd rfl (.inl rfl) (pe_cmpR (op_eqA hu) (pe_fn C__law_take hr__law_take hgd (by rfl) passL (pa_cons (pv 0) (pa_cons pe_int pa_nil))) pe_int (nomark _)))
    (pss_cons (ps_set (i := 10) nd rfl (.inl rfl) (pe_ix ix_seq (pe_lst (pa_cons pe_int (pa_cons pe_int (pa_cons (pe_op op_addA pe_int (pe_fn C__law_take hr__law_take hgd (by rfl) passL (pa_cons (pv 0) (pa_cons pe_int pa_nil)))) pa_nil)))) (pe_fn C__law_take hr__law_take hgd (by rfl) passL (pa_cons (pv 0) (pa_cons pe_int pa_nil))) (fun _ _ => rfl)))
    (pss_cons (ps_set (i := 11) nd rfl (.inr rfl) (pe_lst pa_nil))
    (pss_cons (ps_for PassesOwn.never rfl (pi_range1 (by rfl) Z.range_ (pa_cons (pv 2) pa_nil)) (pg_name (i := 12) nd rfl (.inl rfl)) (pss_cons (ps_set (i := 13) nd rfl (.inl rfl) (pe_op op_fdivW (pv 12) (pv 10)))
    (pss_cons (ps_set (i := 14) nd rfl (.inl rfl) (pe_op op_mod (pe_op op_addA (pe_op op_addA (pe_op op_addA (pe_op op_mulA (pe_op op_mulA (pv 13) (pv 13)) (pv 6)) (pe_op op_mulA (pv 13) (pv 7))) (pe_op op_mulA (pe_op op_fdivW (pv 13) pe_int) pe_int)) (pv 8)) pe_int))
    (C8.pss_cut (ps_if (pt_val (pv 5)) (pss_one (ps_set (i := 4) nd rfl (.inl rfl) (pe_ix ix_seq (pv 3) (pe_op op_mod (pe_op op_addA (pv 14) (pe_op op_mulA (pv 13) (pv 13))) pe_int) (fun _ _ => rfl)))) pss_nil)
    (C8.pss_cut (ps_if (PW.pt (pw_or (pt_cmpR (op_ltA hu) (pv 2) pe_int (nomark _)) (pw_or1 (PW.pt (pw_and (pt_val (pv 9)) (pw_and1 (pt_cmpR (op_gtA hu) (pe_callB cl_len (by rfl) Z.len_ (by decide +kernel) (pa_cons (pv 0) pa_nil)) pe_int (nomark _)))))))) (pss_one (ps_set (i := 14) nd rfl (.inl rfl) (pe_fn C__law_take hr__law_take hgd (by rfl) passL (pa_cons (pv 0) (pa_cons pe_int pa_nil))))) pss_nil)
    (pss_cons (ps_set (i := 15) nd rfl (.inl rfl) (pe_ix ix_seq (pe_lst (pa_cons (pe_op op_mod (pv 14) (pv 4)) (pa_cons (pe_op op_addA (pe_op op_mulA (pv 14) (pe_op op_fdivW (pv 4) pe_int)) (pe_op op_mod (pv 14) pe_int)) pa_nil))) (pe_callTy cl_int (by rfl) Z.int_ (by decide +kernel) (pa_cons (pe_cmpR (op_gtA hu) (pv 4) pe_int (nomark _)) pa_nil)) (fun _ _ => rfl)))
    (pss_one (ps_expr (pe_bmK (K := K) PySem.F.plainAttrs_list PySem.F.slot_list_append PySem.F.type_list_append mt_append (pv 11) (pa_cons (pe_ix ix_seq (pe_lst (pa_cons (pv 15) (pa_cons (pe_op op_pow pe_int pe_int) pa_nil))) (pe_callTy cl_int (by rfl) Z.int_ (by decide +kernel) (pa_cons (pe_and (pe_cmpR (op_gtA hu) (pv 4) (pe_op op_pow pe_int pe_int) (nomark _)) (pe_one (pe_cmpR (op_eqA hu) (pe_op op_mod (pv 14) pe_int) pe_int (nomark _)))) pa_nil)) (fun _ _ => rfl)) pa_nil))))))))))
    (pss_cons (ps_set (i := 16) nd rfl (.inl rfl) (pe_fn C__law_take hr__law_take hgd (by rfl) passL (pa_cons (pv 0) (pa_cons pe_int pa_nil))))
    (pss_cons (ps_if (pt_cmpR (op_eqA hu) (pv 16) pe_int (nomark _)) (pss_one (ps_ret (pe_callB cr_sortedI (by rfl) Z.sorted_ (by decide +kernel) (pa_cons (pv 11) pa_nil)))) pss_nil)
    (pss_cons (ps_if (pt_cmpR (op_eqA hu) (pv 16) pe_int (nomark _)) (pss_one (ps_ret (pe_revL (pe_callB cr_sortedI (by rfl) Z.sorted_ (by decide +kernel) (pa_cons (pv 11) pa_nil))))) pss_nil)
    (pss_cons (ps_if (pt_cmpR (op_eqA hu) (pv 16) pe_int (nomark _)) (pss_one (ps_ret (pe_lc (own := [("number", 15)]) (g := gName 15) (tt := tYes) (by rfl) nd (pi_list (pv 11)) (blkOk_by (own := [("number", 15)]) (N := N__law_row) (sc := (defScope s__law_row)) (by decide +kernel)) (fun _ _ _ _ _ => (pg_name (i := 15) nd rfl (.inl rfl))) (fun _ _ _ _ _ => pts_nil) (fun _ _ _ _ _ => (pe_ix (r := rIx K) ix_seq (pe_lst (pa_cons pe_int (pa_cons (pv 15) pa_nil))) (pe_callTy cl_int (by rfl) Z.int_ (by decide +kernel) (pa_cons (pe_cmpR (r := rEqA K) (op_eqA hu) (pv 15) (pe_callB (r := rMaxA K) (cr_maxA rfl hu) (by rfl) Z.max_ (by decide +kernel) (pa_cons (pv 11) pa_nil)) (nomark _)) pa_nil)) (fun _ _ => rfl)))))) pss_nil)
    (pss_one (ps_ret (pv 11))))))))))))))))))), ?_⟩
    (try dsimp only [cxOf])
    obtain ⟨a_draws, x_draws, us_draws, x_most, rfl, ha_draws, hr_draws, r0, hm, q⟩ := h
    let G_ : ((List Int) × (List Int)) → Prop := fun r => ∀ v' H', Res1 K H0 a_draws r v' H' → Q v' H'
    have hq : ∀ r, r = r0 → G_ r := fun r e => by subst e; exact q
    clear q
    unfold m__law_row at hm
    have hB : H0 a_draws ≠ none := fun e => by rw [ha_draws] at e; cases e
    have W0 : Wd K (del H0 a_draws) [] [oL true a_draws x_draws] H0 := Wd.mut ha_draws hr_draws
    refine i_seq ?_
    refine i_asg ?_
    refine i_cb ?_
    refine i_tcons ?_
    refine i_var rfl ?_
    refine i_tcons ?_
    refine i_op ?_
    refine i_c ?_
    refine i_call ?_
    refine i_tcons ?_
    refine i_var rfl ?_
    refine i_tcons ?_
    refine i_c ?_
    refine i_tnil ?_
    replace hm := bndE hm
    obtain ⟨r1, h2, hm⟩ := hm
    obtain ⟨us9, h7, h8⟩ := Wd.ioa W0 0 rfl
    refine ⟨a_draws, (x_draws : List Int), us9, 12, rfl, h7, h8, r1, h2, fun v3 H4 R5 => ?_⟩
    obtain ⟨rfl, W6⟩ := Wd.call1I (i := r1.1) (ys' := r1.2) W0 0 rfl R5
    refine i_addI ?_
    refine i_tnil ?_
    refine i_min2 ?_
    refine i_gName ?_
    clear W0
    replace hm := bndE hm
    obtain ⟨s10, h11, hm⟩ := hm
    refine f_cut (NF K (del H0 a_draws) (⟨fun b e => [some (.ref a_draws), some (.int x_most), some (.int b.2), none, none, none, none, none, none, none, none, none, none, none, none, none, none], fun b e => [], fun b e => [oL true a_draws (b.1 : List Int)]⟩ : Shp ((List Int) × Int) (Unit)) s10 ) ?_ ?_
    · have hm := h11
      refine i_ifS ?_
      refine i_test ?_
      refine i_op ?_
      refine i_call ?_
      refine i_tcons ?_
      refine i_var rfl ?_
      refine i_tcons ?_
      refine i_c ?_
      refine i_tnil ?_
      replace hm := bndE hm
      obtain ⟨r12, h13, hm⟩ := hm
      obtain ⟨us20, h18, h19⟩ := Wd.ioa W6 0 rfl
      refine ⟨a_draws, (r1.2 : List Int), us20, 8, rfl, h18, h19, r12, h13, fun v14 H15 R16 => ?_⟩
      obtain ⟨rfl, W17⟩ := Wd.call1I (i := r12.1) (ys' := r12.2) W6 0 rfl R16
      refine i_c ?_
      refine i_eqI ?_
      refine i_bl ?_
      clear W6
      rcases iteE hm with ⟨hb21, hm⟩ | ⟨hb21, hm⟩
      · refine i_bT hb21 ?_
        refine i_asg ?_
        refine i_op ?_
        refine i_tlst ?_
        refine i_tcons ?_
        refine i_var rfl ?_
        refine i_tcons ?_
        refine i_op ?_
        refine i_c ?_
        refine i_call ?_
        refine i_tcons ?_
        refine i_var rfl ?_
        refine i_tcons ?_
        refine i_var rfl ?_
        refine i_tnil ?_
        replace hm := bndE hm
        obtain ⟨r22, h23, hm⟩ := hm
        obtain ⟨us30, h28, h29⟩ := Wd.ioa W17 0 rfl
        refine ⟨a_draws, (r12.2 : List Int), us30, x_most, rfl, h28, h29, r22, h23, fun v24 H25 R26 => ?_⟩
        obtain ⟨rfl, W27⟩ := Wd.call1I (i := r22.1) (ys' := r22.2) W17 0 rfl R26
        refine i_addI ?_
        refine i_tnil ?_
        refine w_lst (α := Int) (t := true) W27 (KnL.cons Kn.int (KnL.cons Kn.int KnL.nil)) (by show (2 : Nat) ≤ sizeLine; decide) (fun p31 H32 W33 => ?_)
        have W34 := Wd.frz W33
        refine i_call ?_
        refine i_tcons ?_
        refine i_var rfl ?_
        refine i_tcons ?_
        refine i_c ?_
        refine i_tnil ?_
        replace hm := bndE hm
        obtain ⟨r35, h36, hm⟩ := hm
        obtain ⟨us43, h41, h42⟩ := Wd.ioa W34 0 rfl
        refine ⟨a_draws, (r22.2 : List Int), us43, 2, rfl, h41, h42, r35, h36, fun v37 H38 R39 => ?_⟩
        obtain ⟨rfl, W40⟩ := Wd.call1I (i := r35.1) (ys' := r35.2) W34 0 rfl R39
        replace hm := bndE hm
        obtain ⟨x44, h45, hm⟩ := hm
        refine w_ixI W40 (Lx.ls (Lx.kn (Kn.at 0 rfl))) h45 ?_
        refine i_gName ?_
        clear W17 W27 W33 W34
        have W46 := Wd.sel W40 [] rfl
        obtain rfl := some_inj hm
        exact ⟨(), rfl, W46⟩
      · refine i_bF hb21 ?_
        refine i_next ?_
        have W47 := Wd.sel W17 [] rfl
        obtain rfl := some_inj hm
        exact ⟨(), rfl, W47⟩
    · rintro _ H48 ⟨_, rfl, W49⟩
      dsimp only at W49 ⊢
      refine i_seq ?_
      refine i_asg ?_
      refine i_tlst ?_
      refine i_tcons ?_
      refine i_c ?_
      refine i_tcons ?_
      refine i_c ?_
      refine i_tcons ?_
      refine i_c ?_
      refine i_tcons ?_
      refine i_c ?_
      refine i_tcons ?_
      refine i_c ?_
      refine i_tcons ?_
      refine i_op ?_
      refine i_c ?_
      refine i_c ?_
      refine i_pow (n := 100000) (by decide) (by decide) ?_
      refine i_tcons ?_
      refine i_op ?_
      refine i_c ?_
      refine i_c ?_
      refine i_pow (n := 1000000000) (by decide) (by decide) ?_
      refine i_tcons ?_
      refine i_op ?_
      refine i_op ?_
      refine i_c ?_
      refine i_c ?_
      refine i_pow (n := 1000000000000) (by decide) (by decide) ?_
      refine i_c ?_
      refine i_addI ?_
      refine i_tnil ?_
      refine w_lst (α := Int) (t := true) W49 (KnL.cons Kn.int (KnL.cons Kn.int (KnL.cons Kn.int (KnL.cons Kn.int (KnL.cons Kn.int (KnL.cons Kn.int (KnL.cons Kn.int (KnL.cons Kn.int KnL.nil)))))))) (by show (8 : Nat) ≤ sizeLine; decide) (fun p51 H52 W53 => ?_)
      have W54 := Wd.frz W53
      refine i_gName ?_
      clear W49 W53
      refine i_seq ?_
      refine i_asg ?_
      refine i_op ?_
      refine i_var rfl ?_
      refine i_call ?_
      refine i_tcons ?_
      refine i_var rfl ?_
      refine i_tcons ?_
      refine i_c ?_
      refine i_tnil ?_
      replace hm := bndE hm
      obtain ⟨r55, h56, hm⟩ := hm
      obtain ⟨us63, h61, h62⟩ := Wd.ioa W54 0 rfl
      refine ⟨a_draws, (s10.1 : List Int), us63, 8, rfl, h61, h62, r55, h56, fun v57 H58 R59 => ?_⟩
      obtain ⟨rfl, W60⟩ := Wd.call1I (i := r55.1) (ys' := r55.2) W54 0 rfl R59
      replace hm := bndE hm
      obtain ⟨x64, h65, hm⟩ := hm
      refine w_ixI W60 (Lx.ls (Lx.kn (Kn.at 0 rfl))) h65 ?_
      refine i_gName ?_
      clear W54
      refine i_seq ?_
      refine i_asg ?_
      refine i_op ?_
      refine i_call ?_
      refine i_tcons ?_
      refine i_var rfl ?_
      refine i_tcons ?_
      refine i_c ?_
      refine i_tnil ?_
      replace hm := bndE hm
      obtain ⟨r66, h67, hm⟩ := hm
      obtain ⟨us74, h72, h73⟩ := Wd.ioa W60 0 rfl
      refine ⟨a_draws, (r55.2 : List Int), us74, 4, rfl, h72, h73, r66, h67, fun v68 H69 R70 => ?_⟩
      obtain ⟨rfl, W71⟩ := Wd.call1I (i := r66.1) (ys' := r66.2) W60 0 rfl R70
      refine i_c ?_
      refine i_eqI ?_
      refine i_gName ?_
      clear W60
      refine i_seq ?_
      refine i_asg ?_
      refine i_call ?_
      refine i_tcons ?_
      refine i_var rfl ?_
      refine i_tcons ?_
      refine i_c ?_
      refine i_tnil ?_
      replace hm := bndE hm
      obtain ⟨r75, h76, hm⟩ := hm
      obtain ⟨us83, h81, h82⟩ := Wd.ioa W71 0 rfl
      refine ⟨a_draws, (r66.2 : List Int), us83, 1000, rfl, h81, h82, r75, h76, fun v77 H78 R79 => ?_⟩
      obtain ⟨rfl, W80⟩ := Wd.call1I (i := r75.1) (ys' := r75.2) W71 0 rfl R79
      refine i_gName ?_
      clear W71
      refine i_seq ?_
      refine i_asg ?_
      refine i_op ?_
      refine i_c ?_
      refine i_call ?_
      refine i_tcons ?_
      refine i_var rfl ?_
      refine i_tcons ?_
      refine i_c ?_
      refine i_tnil ?_
      replace hm := bndE hm
      obtain ⟨r84, h85, hm⟩ := hm
      obtain ⟨us92, h90, h91⟩ := Wd.ioa W80 0 rfl
      refine ⟨a_draws, (r75.2 : List Int), us92, 1000, rfl, h90, h91, r84, h85, fun v86 H87 R88 => ?_⟩
      obtain ⟨rfl, W89⟩ := Wd.call1I (i := r84.1) (ys' := r84.2) W80 0 rfl R88
      refine i_addI ?_
      refine i_gName ?_
      clear W80
      refine i_seq ?_
      refine i_asg ?_
      refine i_call ?_
      refine i_tcons ?_
      refine i_var rfl ?_
      refine i_tcons ?_
      refine i_c ?_
      refine i_tnil ?_
      replace hm := bndE hm
      obtain ⟨r93, h94, hm⟩ := hm
      obtain ⟨us101, h99, h100⟩ := Wd.ioa W89 0 rfl
      refine ⟨a_draws, (r84.2 : List Int), us101, 1000, rfl, h99, h100, r93, h94, fun v95 H96 R97 => ?_⟩
      obtain ⟨rfl, W98⟩ := Wd.call1I (i := r93.1) (ys' := r93.2) W89 0 rfl R97
      refine i_gName ?_
      clear W89
      refine i_seq ?_
      refine i_asg ?_
      refine i_op ?_
      refine i_call ?_
      refine i_tcons ?_
      refine i_var rfl ?_
      refine i_tcons ?_
      refine i_c ?_
      refine i_tnil ?_
      replace hm := bndE hm
      obtain ⟨r102, h103, hm⟩ := hm
      obtain ⟨us110, h108, h109⟩ := Wd.ioa W98 0 rfl
      refine ⟨a_draws, (r93.2 : List Int), us110, 3, rfl, h108, h109, r102, h103, fun v104 H105 R106 => ?_⟩
      obtain ⟨rfl, W107⟩ := Wd.call1I (i := r102.1) (ys' := r102.2) W98 0 rfl R106
      refine i_c ?_
      refine i_eqI ?_
      refine i_gName ?_
      clear W98
      refine i_seq ?_
      refine i_asg ?_
      refine i_op ?_
      refine i_tlst ?_
      refine i_tcons ?_
      refine i_c ?_
      refine i_tcons ?_
      refine i_c ?_
      refine i_tcons ?_
      refine i_op ?_
      refine i_c ?_
      refine i_call ?_
      refine i_tcons ?_
      refine i_var rfl ?_
      refine i_tcons ?_
      refine i_c ?_
      refine i_tnil ?_
      replace hm := bndE hm
      obtain ⟨r111, h112, hm⟩ := hm
      obtain ⟨us119, h117, h118⟩ := Wd.ioa W107 0 rfl
      refine ⟨a_draws, (r102.2 : List Int), us119, 20, rfl, h117, h118, r111, h112, fun v113 H114 R115 => ?_⟩
      obtain ⟨rfl, W116⟩ := Wd.call1I (i := r111.1) (ys' := r111.2) W107 0 rfl R115
      refine i_addI ?_
      refine i_tnil ?_
      refine w_lst (α := Int) (t := true) W116 (KnL.cons Kn.int (KnL.cons Kn.int (KnL.cons Kn.int KnL.nil))) (by show (3 : Nat) ≤ sizeLine; decide) (fun p120 H121 W122 => ?_)
      have W123 := Wd.frz W122
      refine i_call ?_
      refine i_tcons ?_
      refine i_var rfl ?_
      refine i_tcons ?_
      refine i_c ?_
      refine i_tnil ?_
      replace hm := bndE hm
      obtain ⟨r124, h125, hm⟩ := hm
      obtain ⟨us132, h130, h131⟩ := Wd.ioa W123 0 rfl
      refine ⟨a_draws, (r111.2 : List Int), us132, 3, rfl, h130, h131, r124, h125, fun v126 H127 R128 => ?_⟩
      obtain ⟨rfl, W129⟩ := Wd.call1I (i := r124.1) (ys' := r124.2) W123 0 rfl R128
      replace hm := bndE hm
      obtain ⟨x133, h134, hm⟩ := hm
      refine w_ixI W129 (Lx.ls (Lx.kn (Kn.at 0 rfl))) h134 ?_
      refine i_gName ?_
      clear W107 W116 W122 W123
      refine i_seq ?_
      refine i_asg ?_
      refine i_tlst ?_
      refine i_tnil ?_
      refine w_lst (α := Int) (t := true) W129 KnL.nil (by show (0 : Nat) ≤ sizeLine; decide) (fun p135 H136 W137 => ?_)
      refine i_gName ?_
      clear W129
      refine i_seq ?_
      refine i_for ?_
      refine i_iRng1 ?_
      refine i_tcons ?_
      refine i_var rfl ?_
      refine i_tnil ?_
      replace hm := bndE hm
      obtain ⟨x139, h140, hm⟩ := hm
      refine w_rg1 h140 (fun e138 => ?_)
      subst e138
      have W141 := Wd.sel W137 [1] rfl
      replace hm := bndE hm
      obtain ⟨o147, h148, hm⟩ := hm
      refine w_fold (⟨fun b e => [some (.ref a_draws), some (.int x_most), some (.int s10.2), some (.ref p51), some (.int b.1), some (.bl (decide (r66.1 = 1))), some (.int r75.1), some (.int (1 + r84.1)), some (.int r93.1), some (.bl (decide (r102.1 = 1))), some (.int x133), some (.ref p135), e.2.1, e.1, e.2.2.2, e.2.2.1, none], fun b e => [fc true (([1, 2, 3, 10, 100, 100000, 1000000000, (1000000000000 + 1)] : List Int) : (List Int)) (.ref p51)], fun b e => [oL true p135 (b.2.2 : List Int), oL true a_draws (b.2.1 : List Int)]⟩ : Shp (Int × (List Int) × (List Int)) (Option V × Option V × Option V × Option V)) (none, none, none, none) h148 rfl W141 gv_rng ?_ ?_
      · intro x144 v145 b142 e143 H149 o150 W146 hm
        obtain ⟨e143_0, e143_1, e143_2, e143_3⟩ := e143
        dsimp only at W146 ⊢
        obtain rfl := Wd.eqI W146 (Kn.at 0 rfl)
        refine i_gName ?_
        refine i_seq ?_
        refine i_asg ?_
        refine i_op ?_
        refine i_var rfl ?_
        refine i_var rfl ?_
        replace hm := bndE hm
        obtain ⟨x155, h156, hm⟩ := hm
        refine w_fdiv h156 ?_
        refine i_gName ?_
        refine i_seq ?_
        refine i_asg ?_
        refine i_op ?_
        refine i_op ?_
        refine i_op ?_
        refine i_op ?_
        refine i_op ?_
        refine i_op ?_
        refine i_var rfl ?_
        refine i_var rfl ?_
        replace hm := bndE hm
        obtain ⟨x157, h158, hm⟩ := hm
        refine w_mul h158 ?_
        refine i_var rfl ?_
        replace hm := bndE hm
        obtain ⟨x159, h160, hm⟩ := hm
        refine w_mul h160 ?_
        refine i_op ?_
        refine i_var rfl ?_
        refine i_var rfl ?_
        replace hm := bndE hm
        obtain ⟨x161, h162, hm⟩ := hm
        refine w_mul h162 ?_
        refine i_addI ?_
        refine i_op ?_
        refine i_op ?_
        refine i_var rfl ?_
        refine i_c ?_
        refine i_fdiv (by decide) (by decide) ?_
        refine i_c ?_
        replace hm := bndE hm
        obtain ⟨x163, h164, hm⟩ := hm
        refine w_mul h164 ?_
        refine i_addI ?_
        refine i_var rfl ?_
        refine i_addI ?_
        refine i_c ?_
        refine i_mod (by decide) ?_
        refine i_gName ?_
        replace hm := bndE hm
        obtain ⟨s165, h166, hm⟩ := hm
        refine f_cut (NF K (del H0 a_draws) (⟨fun b e => [some (.ref a_draws), some (.int x_most), some (.int s10.2), some (.ref p51), some (.int b), some (.bl (decide (r66.1 = 1))), some (.int r75.1), some (.int (1 + r84.1)), some (.int r93.1), some (.bl (decide (r102.1 = 1))), some (.int x133), some (.ref p135), some (.int x144), some (.int x155), some (.int ((((x159 + x161) + x163) + r93.1) % 9973)), e143_2, none], fun b e => [fc true (([1, 2, 3, 10, 100, 100000, 1000000000, (1000000000000 + 1)] : List Int) : (List Int)) (.ref p51)], fun b e => [oL true p135 (b142.2.2 : List Int), oL true a_draws (b142.2.1 : List Int)]⟩ : Shp (Int) (Unit)) s165 ) ?_ ?_
        · have hm := h166
          refine i_ifS ?_
          refine i_tB ?_
          refine i_var rfl ?_
          refine i_bl ?_
          rcases iteE hm with ⟨hb167, hm⟩ | ⟨hb167, hm⟩
          · refine i_bT hb167 ?_
            refine i_asg ?_
            refine i_op ?_
            refine i_var rfl ?_
            refine i_op ?_
            refine i_op ?_
            refine i_var rfl ?_
            refine i_op ?_
            refine i_var rfl ?_
            refine i_var rfl ?_
            replace hm := bndE hm
            obtain ⟨x168, h169, hm⟩ := hm
            refine w_mul h169 ?_
            refine i_addI ?_
            refine i_c ?_
            refine i_mod (by decide) ?_
            replace hm := bndE hm
            obtain ⟨x170, h171, hm⟩ := hm
            refine w_ixI W146 (Lx.ls (Lx.kn (Kn.at 1 rfl))) h171 ?_
            refine i_gName ?_
            have W172 := Wd.sel W146 [1] rfl
            obtain rfl := some_inj hm
            exact ⟨(), rfl, W172⟩
          · refine i_bF hb167 ?_
            refine i_next ?_
            have W173 := Wd.sel W146 [1] rfl
            obtain rfl := some_inj hm
            exact ⟨(), rfl, W173⟩
        · rintro _ H174 ⟨_, rfl, W175⟩
          dsimp only at W175 ⊢
          replace hm := bndE hm
          obtain ⟨s177, h178, hm⟩ := hm
          refine f_cut (NF K (del H0 a_draws) (⟨fun b e => [some (.ref a_draws), some (.int x_most), some (.int s10.2), some (.ref p51), some (.int s165), some (.bl (decide (r66.1 = 1))), some (.int r75.1), some (.int (1 + r84.1)), some (.int r93.1), some (.bl (decide (r102.1 = 1))), some (.int x133), some (.ref p135), some (.int x144), some (.int x155), some (.int b.2), e143_2, none], fun b e => [fc true (([1, 2, 3, 10, 100, 100000, 1000000000, (1000000000000 + 1)] : List Int) : (List Int)) (.ref p51)], fun b e => [oL true a_draws (b.1 : List Int), oL true p135 (b142.2.2 : List Int)]⟩ : Shp ((List Int) × Int) (Unit)) s177 ) ?_ ?_
          · have hm := h178
            refine i_ifS ?_
            refine i_or ?_
            refine i_test ?_
            refine i_op ?_
            refine i_var rfl ?_
            refine i_c ?_
            refine i_ltA ?_
            refine i_bl ?_
            refine w_orW (L' := _) ((decide (s10.2 < 13)) || ((decide (r102.1 = 1)) && (decide ((lenI b142.2.1) > 60)))) W175 (fun hb179 P180 hP181 => ?_) (fun hb179 => ⟨or_t hb179, W175⟩) (fun H187 W188 => ?_)
            · refine i_and ?_
              refine i_tB ?_
              refine i_var rfl ?_
              refine i_bl ?_
              refine w_andW (L' := _) ((decide (r102.1 = 1)) && (decide ((lenI b142.2.1) > 60))) W175 (fun hb182 P183 hP184 => ?_) (fun hb182 => ⟨and_f hb182, W175⟩) (fun H185 W186 => ?_)
              · refine i_test ?_
                refine i_op ?_
                refine i_cb ?_
                refine i_tcons ?_
                refine i_var rfl ?_
                refine i_tnil ?_
                refine w_len W175 (Lx.ls (Lx.own 1 rfl)) ?_
                refine i_c ?_
                refine i_gtA ?_
                refine i_bl ?_
                exact hP184 _ _ (and_t hb182) W175
              exact hP181 _ _ (or_f hb179) W186
            clear W175
            rcases iteE hm with ⟨hb189, hm⟩ | ⟨hb189, hm⟩
            · refine i_bT hb189 ?_
              refine i_asg ?_
              refine i_call ?_
              refine i_tcons ?_
              refine i_var rfl ?_
              refine i_tcons ?_
              refine i_c ?_
              refine i_tnil ?_
              replace hm := bndE hm
              obtain ⟨r190, h191, hm⟩ := hm
              obtain ⟨us198, h196, h197⟩ := Wd.ioa W188 1 rfl
              refine ⟨a_draws, (b142.2.1 : List Int), us198, 1000, rfl, h196, h197, r190, h191, fun v192 H193 R194 => ?_⟩
              obtain ⟨rfl, W195⟩ := Wd.call1I (i := r190.1) (ys' := r190.2) W188 1 rfl R194
              refine i_gName ?_
              clear W188
              have W199 := Wd.sel W195 [0] rfl
              have W200 := Wd.selO W199 [1, 0] rfl
              obtain rfl := some_inj hm
              exact ⟨(), rfl, W200⟩
            · refine i_bF hb189 ?_
              refine i_next ?_
              have W201 := Wd.sel W188 [0] rfl
              have W202 := Wd.selO W201 [1, 0] rfl
              obtain rfl := some_inj hm
              exact ⟨(), rfl, W202⟩
          · rintro _ H203 ⟨_, rfl, W204⟩
            dsimp only at W204 ⊢
            refine i_seq ?_
            refine i_asg ?_
            refine i_op ?_
            refine i_tlst ?_
            refine i_tcons ?_
            refine i_op ?_
            refine i_var rfl ?_
            refine i_var rfl ?_
            replace hm := bndE hm
            obtain ⟨x206, h207, hm⟩ := hm
            refine w_mod h207 ?_
            refine i_tcons ?_
            refine i_op ?_
            refine i_op ?_
            refine i_var rfl ?_
            refine i_op ?_
            refine i_var rfl ?_
            refine i_c ?_
            refine i_fdiv (by decide) (by decide) ?_
            replace hm := bndE hm
            obtain ⟨x208, h209, hm⟩ := hm
            refine w_mul h209 ?_
            refine i_op ?_
            refine i_var rfl ?_
            refine i_c ?_
            refine i_mod (by decide) ?_
            refine i_addI ?_
            refine i_tnil ?_
            refine w_lst (α := Int) (t := true) W204 (KnL.cons Kn.int (KnL.cons Kn.int KnL.nil)) (by show (2 : Nat) ≤ sizeLine; decide) (fun p210 H211 W212 => ?_)
            have W213 := Wd.frz W212
            refine i_cb ?_
            refine i_tcons ?_
            refine i_op ?_
            refine i_var rfl ?_
            refine i_c ?_
            refine i_gtA ?_
            refine i_tnil ?_
            refine i_intB ?_
            replace hm := bndE hm
            obtain ⟨x214, h215, hm⟩ := hm
            refine w_ixI W213 (Lx.ls (Lx.kn (Kn.at 0 rfl))) h215 ?_
            refine i_gName ?_
            clear W204 W212
            refine i_drop ?_
            refine i_bm ?_
            refine i_var rfl ?_
            refine w_mt W213 (Lx.ls (Lx.own 1 rfl)) ?_
            refine i_tcons ?_
            refine i_op ?_
            refine i_tlst ?_
            refine i_tcons ?_
            refine i_var rfl ?_
            refine i_tcons ?_
            refine i_op ?_
            refine i_c ?_
            refine i_c ?_
            refine i_pow (n := 1000000000000) (by decide) (by decide) ?_
            refine i_tnil ?_
            refine w_lst (α := Int) (t := true) W213 (KnL.cons Kn.int (KnL.cons Kn.int KnL.nil)) (by show (2 : Nat) ≤ sizeLine; decide) (fun p216 H217 W218 => ?_)
            have W219 := Wd.frz W218
            refine i_cb ?_
            refine i_tcons ?_
            refine i_andV ?_
            refine i_op ?_
            refine i_var rfl ?_
            refine i_op ?_
            refine i_c ?_
            refine i_c ?_
            refine i_pow (n := 1000000000) (by decide) (by decide) ?_
            refine i_gtA ?_
            refine i_bl ?_
            refine w_andVW (L' := _) ((decide (s165 > 1000000000)) && (decide ((s177.2 % 11) = 5))) W219 (fun hb220 P221 hP222 => ?_) (fun hb220 => ⟨and_f hb220, W219⟩) (fun H223 W224 => ?_)
            · refine i_op ?_
              refine i_op ?_
              refine i_var rfl ?_
              refine i_c ?_
              refine i_mod (by decide) ?_
              refine i_c ?_
              refine i_eqI ?_
              exact hP222 _ _ (and_t hb220) W219
            refine i_tnil ?_
            refine i_intB ?_
            replace hm := bndE hm
            obtain ⟨x225, h226, hm⟩ := hm
            refine w_ixI W224 (Lx.ls (Lx.kn (Kn.at 0 rfl))) h226 ?_
            refine i_tnil ?_
            replace hm := bndE hm
            obtain ⟨x227, h228, hm⟩ := hm
            refine w_app W224 1 rfl Kn.int h228 (fun H229 W230 => ?_)
            dsimp only [List.set] at W230
            clear W213 W218 W219 W224
            have W231 := Wd.sel W230 [2] rfl
            have W232 := Wd.selO W231 [1, 0] rfl
            obtain rfl := some_inj hm
            exact ⟨(some (.int x155), some (.int x144), some (.int x214), some (.int s177.2)), rfl, W232⟩
      · intro e234 H235 W236
        obtain ⟨e234_0, e234_1, e234_2, e234_3⟩ := e234
        dsimp only at W236 ⊢
        refine i_seq ?_
        refine i_asg ?_
        refine i_call ?_
        refine i_tcons ?_
        refine i_var rfl ?_
        refine i_tcons ?_
        refine i_c ?_
        refine i_tnil ?_
        replace hm := bndE hm
        obtain ⟨r238, h239, hm⟩ := hm
        obtain ⟨us246, h244, h245⟩ := Wd.ioa W236 1 rfl
        refine ⟨a_draws, (o147.2.1 : List Int), us246, 8, rfl, h244, h245, r238, h239, fun v240 H241 R242 => ?_⟩
        obtain ⟨rfl, W243⟩ := Wd.call1I (i := r238.1) (ys' := r238.2) W236 1 rfl R242
        refine i_gName ?_
        clear W236
        refine i_seq ?_
        refine i_ifS ?_
        refine i_test ?_
        refine i_op ?_
        refine i_var rfl ?_
        refine i_c ?_
        refine i_eqI ?_
        refine i_bl ?_
        rcases iteE hm with ⟨hb247, hm⟩ | ⟨hb247, hm⟩
        · refine i_bT hb247 ?_
          refine i_ret ?_
          refine i_cb ?_
          refine i_tcons ?_
          refine i_var rfl ?_
          refine i_tnil ?_
          refine w_sorted W243 (Lx.ls (Lx.own 0 rfl)) (fun p248 H249 W250 => ?_)
          have W251 := Wd.frz W250
          exact hq _ (some_inj hm) _ _ (Wd.res1 (x := ((sortI o147.2.2) : (List Int))) W251 hB 1 rfl (Kn.at 0 rfl))
        · refine i_bF hb247 ?_
          refine i_next ?_
          refine i_seq ?_
          refine i_ifS ?_
          refine i_test ?_
          refine i_op ?_
          refine i_var rfl ?_
          refine i_c ?_
          refine i_eqI ?_
          refine i_bl ?_
          rcases iteE hm with ⟨hb252, hm⟩ | ⟨hb252, hm⟩
          · refine i_bT hb252 ?_
            refine i_ret ?_
            refine i_revL ?_
            refine i_cb ?_
            refine i_tcons ?_
            refine i_var rfl ?_
            refine i_tnil ?_
            refine w_sorted W243 (Lx.ls (Lx.own 0 rfl)) (fun p253 H254 W255 => ?_)
            have W256 := Wd.frz W255
            refine w_rev W256 (Lx.ls (Lx.kn (Kn.at 0 rfl))) (fun p257 H258 W259 => ?_)
            have W260 := Wd.frz W259
            exact hq _ (some_inj hm) _ _ (Wd.res1 (x := ((List.reverse (sortI o147.2.2)) : (List Int))) W260 hB 1 rfl (Kn.at 0 rfl))
          · refine i_bF hb252 ?_
            refine i_next ?_
            refine i_seq ?_
            refine i_ifS ?_
            refine i_test ?_
            refine i_op ?_
            refine i_var rfl ?_
            refine i_c ?_
            refine i_eqI ?_
            refine i_bl ?_
            rcases iteE hm with ⟨hb261, hm⟩ | ⟨hb261, hm⟩
            · refine i_bT hb261 ?_
              refine i_ret ?_
              refine i_lc ?_
              refine i_iList ?_
              refine i_var rfl ?_
              refine w_itL W243 (Lx.ls (Lx.own 0 rfl)) ?_
              replace hm := bndE hm
              obtain ⟨x284, h285, hm⟩ := hm
              refine w_map (γ := Int) true h285 W243 (fun _ => (gv_list (fun _ _ => (Lx.ls (Lx.own 1 rfl))))) (fun D264 x262 v263 acc265 H266 y267 ha268 W269 hm => ?_) (fun p281 H282 W283 => ?_)
              · obtain rfl := Wd.eqI W269 (Kn.at 0 rfl)
                refine i_gName ?_
                refine i_wipe rfl ?_
                refine i_yes ?_
                refine i_T ?_
                refine i_op ?_
                refine i_tlst ?_
                refine i_tcons ?_
                refine i_c ?_
                refine i_tcons ?_
                refine i_var rfl ?_
                refine i_tnil ?_
                refine w_lst (α := Int) (t := true) W269 (KnL.cons Kn.int (KnL.cons Kn.int KnL.nil)) (by show (2 : Nat) ≤ sizeLine; decide) (fun p271 H272 W273 => ?_)
                have W274 := Wd.frz W273
                refine i_cb ?_
                refine i_tcons ?_
                refine i_op ?_
                refine i_var rfl ?_
                refine i_cb ?_
                refine i_tcons ?_
                refine i_var rfl ?_
                refine i_tnil ?_
                replace hm := bndE hm
                obtain ⟨x275, h276, hm⟩ := hm
                refine .inl (w_max W274 (Lx.ls (Lx.own 1 rfl)) h276 ?_)
                refine i_eqI ?_
                refine i_tnil ?_
                refine i_intB ?_
                replace hm := bndE hm
                obtain ⟨x277, h278, hm⟩ := hm
                refine w_ixI W274 (Lx.ls (Lx.kn (Kn.at 0 rfl))) h278 ?_
                obtain rfl := some_inj hm
                refine w_elt W274 Kn.int ha268 (fun H279 W280 => ?_)
                exact ⟨(), Wd.drop W280 2 rfl⟩
              have W286 := Wd.frz W283
              exact hq _ (some_inj hm) _ _ (Wd.res1 (x := (x284 : (List Int))) W286 hB 1 rfl (Kn.at 0 rfl))
            · refine i_bF hb261 ?_
              refine i_next ?_
              refine i_ret ?_
              refine i_var rfl ?_
              have W287 := Wd.frz W243
              exact hq _ (some_inj hm) _ _ (Wd.res1 (x := (o147.2.2 : (List Int))) W287 hB 0 rfl (Kn.at 0 rfl))
end
/-! ### _law_pieces -/
abbrev sp__law_pieces (K : PySem.W.Frag) : Sp := fun vs H Q _ => ∃ (a_draws : Addr) (x_draws : (List Int)) (us_draws : List V) (x_row : (List Int)) (v_row : V),  vs = [.ref a_draws, v_row] ∧ H a_draws = some (.lst us_draws) ∧ All2 (Rp.rep (lkN fun _ => none)) x_draws us_draws ∧ Rp.rep (lkA K (del H a_draws)) x_row v_row ∧ ∃ r : (Int × (List Int)), m__law_pieces x_draws x_row = some r ∧ ∀ v' H', Res1 K H a_draws r v' H' → Q v' H'
section
variable {P : Program} {w : World} {K : PySem.W.Frag} {mg : Str → Option Value} {base : Heap}
abbrev N__law_pieces : List Str := ["draws", "row", "some"]
theorem scope__law_pieces : FnScope N__law_pieces ["draws", "row"] (defScope s__law_pieces) := ⟨rfl, rfl, rfl, by decide +kernel, rfl, by decide +kernel, by decide +kernel⟩
theorem ok__law_pieces {f : Addr} {fd : FuncData} (F : FunD K "_law_pieces" "_law_pieces" (defArgs s__law_pieces) (defBody s__law_pieces) (defScope s__law_pieces) [] [] f fd) (hm : mg "_law_pieces" = some (.ref f)) (Z : Blt mg) (SM : SMd base) (XX : Exs K mg es6)
    (C__law_take : Fn P w K mg base 1 "_law_take" ["draws", "many"] (sp__law_take K)) :
    Fn P w K mg base 2 "_law_pieces" ["draws", "row"] (sp__law_pieces K) := by
  refine mkFn F hm (fun _ _ _ _ _ _ us hl => match us, hl with | [_, _], _ => rfl) (okG (k := 1) F scope__law_pieces (fun vs H0 Q E h => ?_) (fun cdv A outer s H0 vs Q E hr hgd h => ?_))
  · obtain ⟨_, _, _, _, _, rfl, _⟩ := h; rfl
  · have nd := scope__law_pieces.nd
    have hu := hr.units
    have hr__law_take : Room 1 _ := hr.mono (by decide : 1 ≤ 1)
    unfold sp__law_pieces at h
    refine ⟨_, PSs.nox (pss_cons (ps_set (i := 2) nd rfl (.inl rfl) (pe_lst (pa_cons pe_int (pa_cons (pe_callB cl_len (by rfl) Z.len_ (by decide +kernel) (pa_cons (pv 1) pa_nil)) (pa_cons (pe_callB (cl_min2 rfl) (by rfl) Z.min_ (by decide +kernel) (pa_cons (pe_callB cl_len (by rfl) Z.len_ (by decide +kernel) (pa_cons (pv 1) pa_nil)) (pa_cons (pe_op op_addA pe_int (pe_fn C__law_take hr__law_take hgd (by rfl) passL (pa_cons (pv 0) (pa_cons pe_int pa_nil)))) pa_nil))) (pa_cons (pe_op op_addA pe_int (pe_op op_mod (pe_fn C__law_take hr__law_take hgd (by rfl) passL (pa_cons (pv 0) (pa_cons pe_int pa_nil))) (pe_callB cl_len (by rfl) Z.len_ (by decide +kernel) (pa_cons (pv 1) pa_nil)))) pa_nil))))))
    (pss_one (ps_ret (pe_ix ix_seq (pv 2) (pe_ix ix_seq (pe_lst (pa_cons pe_int (pa_cons pe_int (pa_cons pe_int (pa_cons pe_int (pa_cons pe_int (pa_cons pe_int (pa_cons pe_int pa_nil)))))))) (pe_fn C__law_take hr__law_take hgd (by rfl) passL (pa_cons (pv 0) (pa_cons pe_int pa_nil))) (fun _ _ => rfl)) (fun _ _ => rfl))))), ?_⟩
    (try dsimp only [cxOf])
    obtain ⟨a_draws, x_draws, us_draws, x_row, v_row, rfl, ha_draws, hr_draws, h_row, r0, hm, q⟩ := h
    let G_ : (Int × (List Int)) → Prop := fun r => ∀ v' H', Res1 K H0 a_draws r v' H' → Q v' H'
    have hq : ∀ r, r = r0 → G_ r := fun r e => by subst e; exact q
    clear q
    unfold m__law_pieces at hm
    have hB : H0 a_draws ≠ none := fun e => by rw [ha_draws] at e; cases e
    have W0 : Wd K (del H0 a_draws) [] [oL true a_draws x_draws] H0 := Wd.mut ha_draws hr_draws
    have W1 := Wd.arg W0 h_row
    obtain ⟨a2, rfl⟩ := Wd.eqL W1 (Kn.at 0 rfl)
    refine i_seq ?_
    refine i_asg ?_
    refine i_tlst ?_
    refine i_tcons ?_
    refine i_c ?_
    refine i_tcons ?_
    refine i_cb ?_
    refine i_tcons ?_
    refine i_var rfl ?_
    refine i_tnil ?_
    refine w_len W1 (Lx.ls (Lx.flat (t := true) (Lx.kn (Kn.at 0 rfl)))) ?_
    refine i_tcons ?_
    refine i_cb ?_
    refine i_tcons ?_
    refine i_cb ?_
    refine i_tcons ?_
    refine i_var rfl ?_
    refine i_tnil ?_
    refine w_len W1 (Lx.ls (Lx.flat (t := true) (Lx.kn (Kn.at 0 rfl)))) ?_
    refine i_tcons ?_
    refine i_op ?_
    refine i_c ?_
    refine i_call ?_
    refine i_tcons ?_
    refine i_var rfl ?_
    refine i_tcons ?_
    refine i_c ?_
    refine i_tnil ?_
    replace hm := bndE hm
    obtain ⟨r3, h4, hm⟩ := hm
    obtain ⟨us11, h9, h10⟩ := Wd.ioa W1 0 rfl
    refine ⟨a_draws, (x_draws : List Int), us11, 4, rfl, h9, h10, r3, h4, fun v5 H6 R7 => ?_⟩
    obtain ⟨rfl, W8⟩ := Wd.call1I (i := r3.1) (ys' := r3.2) W1 0 rfl R7
    refine i_addI ?_
    refine i_tnil ?_
    refine i_min2 ?_
    refine i_tcons ?_
    refine i_op ?_
    refine i_c ?_
    refine i_op ?_
    refine i_call ?_
    refine i_tcons ?_
    refine i_var rfl ?_
    refine i_tcons ?_
    refine i_c ?_
    refine i_tnil ?_
    replace hm := bndE hm
    obtain ⟨r12, h13, hm⟩ := hm
    obtain ⟨us20, h18, h19⟩ := Wd.ioa W8 0 rfl
    refine ⟨a_draws, (r3.2 : List Int), us20, 1000, rfl, h18, h19, r12, h13, fun v14 H15 R16 => ?_⟩
    obtain ⟨rfl, W17⟩ := Wd.call1I (i := r12.1) (ys' := r12.2) W8 0 rfl R16
    refine i_cb ?_
    refine i_tcons ?_
    refine i_var rfl ?_
    refine i_tnil ?_
    refine w_len W17 (Lx.ls (Lx.flat (t := true) (Lx.kn (Kn.at 0 rfl)))) ?_
    replace hm := bndE hm
    obtain ⟨x21, h22, hm⟩ := hm
    refine w_mod h22 ?_
    refine i_addI ?_
    refine i_tnil ?_
    refine w_lst (α := Int) (t := true) W17 (KnL.cons Kn.int (KnL.cons Kn.int (KnL.cons Kn.int (KnL.cons Kn.int KnL.nil)))) (by show (4 : Nat) ≤ sizeLine; decide) (fun p23 H24 W25 => ?_)
    have W26 := Wd.frz W25
    refine i_gName ?_
    clear W0 W1 W8 W17 W25
    refine i_ret ?_
    refine i_op ?_
    refine i_var rfl ?_
    refine i_op ?_
    refine i_tlst ?_
    refine i_tcons ?_
    refine i_c ?_
    refine i_tcons ?_
    refine i_c ?_
    refine i_tcons ?_
    refine i_c ?_
    refine i_tcons ?_
    refine i_c ?_
    refine i_tcons ?_
    refine i_c ?_
    refine i_tcons ?_
    refine i_c ?_
    refine i_tcons ?_
    refine i_c ?_
    refine i_tnil ?_
    refine w_lst (α := Int) (t := true) W26 (KnL.cons Kn.int (KnL.cons Kn.int (KnL.cons Kn.int (KnL.cons Kn.int (KnL.cons Kn.int (KnL.cons Kn.int (KnL.cons Kn.int KnL.nil))))))) (by show (7 : Nat) ≤ sizeLine; decide) (fun p27 H28 W29 => ?_)
    have W30 := Wd.frz W29
    refine i_call ?_
    refine i_tcons ?_
    refine i_var rfl ?_
    refine i_tcons ?_
    refine i_c ?_
    refine i_tnil ?_
    replace hm := bndE hm
    obtain ⟨r31, h32, hm⟩ := hm
    obtain ⟨us39, h37, h38⟩ := Wd.ioa W30 0 rfl
    refine ⟨a_draws, (r12.2 : List Int), us39, 7, rfl, h37, h38, r31, h32, fun v33 H34 R35 => ?_⟩
    obtain ⟨rfl, W36⟩ := Wd.call1I (i := r31.1) (ys' := r31.2) W30 0 rfl R35
    replace hm := bndE hm
    obtain ⟨x40, h41, hm⟩ := hm
    refine w_ixI W36 (Lx.ls (Lx.kn (Kn.at 0 rfl))) h41 ?_
    replace hm := bndE hm
    obtain ⟨x42, h43, hm⟩ := hm
    refine w_ixI W36 (Lx.ls (Lx.kn (Kn.at 1 rfl))) h43 ?_
    exact hq _ (some_inj hm) _ _ (Wd.res1 (x := (x42 : Int)) W36 hB 0 rfl Kn.int)
end
/-! ### is_among -/
abbrev sp_is_among (K : PySem.W.Frag) : Sp := fun vs H Q _ => ∃ (x_thing : Th) (v_thing : V) (x_low : Int) (x_high : Int),  vs = [v_thing, .int x_low, .int x_high] ∧ Rp.rep (lkA K H) x_thing v_thing ∧ ∃ r : Bool, m_is_among x_thing x_low x_high = some r ∧ ∀ v' H', Res K H r v' H' → Q v' H'
section
variable {P : Program} {w : World} {K : PySem.W.Frag} {mg : Str → Option Value} {base : Heap}
abbrev N_is_among : List Str := ["thing", "low", "high"]
theorem scope_is_among : FnScope N_is_among ["thing", "low", "high"] (defScope s_is_among) := ⟨rfl, rfl, rfl, by decide +kernel, rfl, by decide +kernel, by decide +kernel⟩
theorem ok_is_among {f : Addr} {fd : FuncData} (F : FunD K "is_among" "is_among" (defArgs s_is_among) (defBody s_is_among) (defScope s_is_among) [] [] f fd) (hm : mg "is_among" = some (.ref f)) (Z : Blt mg) (SM : SMd base) (XX : Exs K mg es6) :
    Fn P w K mg base 1 "is_among" ["thing", "low", "high"] (sp_is_among K) := by
  refine mkFn F hm (fun _ _ _ _ _ _ us hl => match us, hl with | [_, _, _], _ => rfl) (okG (k := 0) F scope_is_among (fun vs H0 Q E h => ?_) (fun cdv A outer s H0 vs Q E hr hgd h => ?_))
  · obtain ⟨_, _, _, _, rfl, _⟩ := h; rfl
  · have nd := scope_is_among.nd
    have hu := hr.units
    unfold sp_is_among at h
    refine ⟨_, PSs.nox (pss_one (ps_ret (pe_and (pe_callB call_isX (by rfl) Z.isinstance_ (by decide +kernel) (pa_cons (pv 0) (pa_cons (pe_bltn (v := .ty "int") (by rfl) Z.int_ (by decide +kernel) rfl) pa_nil))) (pe_and (pe_not (pe_callB call_isX (by rfl) Z.isinstance_ (by decide +kernel) (pa_cons (pv 0) (pa_cons (pe_bltn (v := .ty "bool") (by rfl) Z.bool_ (by decide +kernel) rfl) pa_nil)))) (pe_one (pe_chain op_le op_le (pv 1) (pv 0) (pv 2))))))), ?_⟩
    (try dsimp only [cxOf])
    obtain ⟨x_thing, v_thing, x_low, x_high, rfl, h_thing, r0, hm, q⟩ := h
    let G_ : Bool → Prop := fun r => ∀ v' H', Res K H0 r v' H' → Q v' H'
    have hq : ∀ r, r = r0 → G_ r := fun r e => by subst e; exact q
    clear q
    unfold m_is_among at hm
    have W0 := Wd.start (K := K) H0
    have W1 := Wd.arg W0 h_thing
    refine i_ret ?_
    refine i_andV ?_
    refine i_cb ?_
    refine i_tcons ?_
    refine i_var rfl ?_
    refine i_tcons ?_
    refine i_c ?_
    refine i_tnil ?_
    refine w_isiT W1 (Ar.kn (t := false) (Kn.at 0 rfl)) (by simp) ?_
    refine i_bl ?_
    replace hm := bndE hm
    obtain ⟨x22, h23, hm⟩ := hm
    refine w_andVW (L' := []) x22 W1 (fun hb2 P3 hP4 => ?_) (fun hb2 => ?_) (fun H24 W25 => ?_)
    · have hm : _ = some x22 := (if_pos hb2).symm.trans h23
      refine i_andV ?_
      refine i_notV ?_
      refine i_cb ?_
      refine i_tcons ?_
      refine i_var rfl ?_
      refine i_tcons ?_
      refine i_c ?_
      refine i_tnil ?_
      refine w_isiT W1 (Ar.kn (t := false) (Kn.at 0 rfl)) (by simp) ?_
      refine i_bl ?_
      refine i_bl ?_
      replace hm := bndE hm
      obtain ⟨x17, h18, hm⟩ := hm
      refine w_andVW (L' := []) x17 W1 (fun hb5 P6 hP7 => ?_) (fun hb5 => ?_) (fun H19 W20 => ?_)
      · have hm : _ = some x17 := (if_pos hb5).symm.trans h18
        refine i_chain ?_
        refine i_var rfl ?_
        refine i_var rfl ?_
        replace hm := bndE hm
        obtain ⟨x8, h9, hm⟩ := hm
        have W10 := Wd.thI (t := false) W1 (Kn.at 0 rfl) h9
        obtain rfl := Wd.eqI W10 (Kn.at 0 rfl)
        refine i_I0 ?_
        refine i_bl ?_
        refine w_chainW (L' := _) ((decide (x_low ≤ x8)) && (decide (x8 ≤ x_high))) W10 (fun hb11 P12 hP13 => ?_) (fun hb11 => ⟨and_f hb11, W10⟩) (fun H14 W15 => ?_)
        · refine i_var rfl ?_
          refine i_I0 ?_
          exact hP13 _ _ (and_t hb11) W10
        have W16 := Wd.drop W15 1 rfl
        have hm := some_inj hm
        exact hP7 _ _ hm W16
      · have hm := some_inj ((if_neg (by rw [hb5]; exact Bool.false_ne_true)).symm.trans h18)
        exact ⟨hm, W1⟩
      have hm := some_inj hm
      exact hP4 _ _ hm W20
    · have hm := some_inj ((if_neg (by rw [hb2]; exact Bool.false_ne_true)).symm.trans h23)
      exact ⟨hm, W1⟩
    exact hq _ (some_inj hm) _ _ (Wd.res (x := (x22 : Bool)) W25 Kn.bl)
end
/-! ### need_pieces_papers -/
abbrev sp_need_pieces_papers (K : PySem.W.Frag) : Sp := fun vs H Q _ => ∃ (x_row : (List Int)) (v_row : V) (x_many : Int),  vs = [v_row, .int x_many] ∧ Rp.rep (lkA K H) x_row v_row ∧ ∃ r : Unit, m_need_pieces_papers x_row x_many = some r ∧ ∀ v' H', Res K H r v' H' → Q v' H'
section
variable {P : Program} {w : World} {K : PySem.W.Frag} {mg : Str → Option Value} {base : Heap}
abbrev N_need_pieces_papers : List Str := ["row", "many"]
theorem scope_need_pieces_papers : FnScope N_need_pieces_papers ["row", "many"] (defScope s_need_pieces_papers) := ⟨rfl, rfl, rfl, by decide +kernel, rfl, by decide +kernel, by decide +kernel⟩
theorem ok_need_pieces_papers {f : Addr} {fd : FuncData} (F : FunD K "need_pieces" "need_pieces" (defArgs s_need_pieces_papers) (defBody s_need_pieces_papers) (defScope s_need_pieces_papers) [] [] f fd) (hm : mg "need_pieces_papers" = some (.ref f)) (Z : Blt mg) (SM : SMd base) (XX : Exs K mg es6)
    (C_is_among : Fn P w K mg base 1 "is_among" ["thing", "low", "high"] (sp_is_among K)) :
    Fn P w K mg base 2 "need_pieces_papers" ["row", "many"] (sp_need_pieces_papers K) := by
  refine mkFnA F hm (fun _ _ _ _ _ _ us hl => match us, hl with | [_, _], _ => rfl) (okG (k := 1) F scope_need_pieces_papers (fun vs H0 Q E h => ?_) (fun cdv A outer s H0 vs Q E hr hgd h => ?_))
  · obtain ⟨_, _, _, rfl, _⟩ := h; rfl
  · have nd := scope_need_pieces_papers.nd
    have hu := hr.units
    have hr_is_among : Room 1 _ := hr.mono (by decide : 1 ≤ 1)
    unfold sp_need_pieces_papers at h
    refine ⟨_, PSs.nox (pss_one (ps_if (pt_not (pt_val (pe_fn C_is_among hr_is_among hgd (by rfl) passL (pa_cons (pv 1) (pa_cons pe_int (pa_cons (pe_callB cl_len (by rfl) Z.len_ (by decide +kernel) (pa_cons (pv 0) pa_nil)) pa_nil)))))) (pss_one ps_never) pss_nil)), ?_⟩
    (try dsimp only [cxOf])
    obtain ⟨x_row, v_row, x_many, rfl, h_row, r0, hm, q⟩ := h
    let G_ : Unit → Prop := fun r => ∀ v' H', Res K H0 r v' H' → Q v' H'
    have hq : ∀ r, r = r0 → G_ r := fun r e => by subst e; exact q
    clear q
    unfold m_need_pieces_papers at hm
    have W0 := Wd.start (K := K) H0
    have W1 := Wd.arg W0 h_row
    obtain ⟨a2, rfl⟩ := Wd.eqL W1 (Kn.at 0 rfl)
    refine i_ifS ?_
    refine i_not ?_
    refine i_tB ?_
    refine i_call ?_
    refine i_tcons ?_
    refine i_var rfl ?_
    refine i_tcons ?_
    refine i_c ?_
    refine i_tcons ?_
    refine i_cb ?_
    refine i_tcons ?_
    refine i_var rfl ?_
    refine i_tnil ?_
    refine w_len W1 (Lx.ls (Lx.flat (t := true) (Lx.kn (Kn.at 0 rfl)))) ?_
    refine i_tnil ?_
    replace hm := bndE hm
    obtain ⟨r3, h4, hm⟩ := hm
    refine ⟨((Co.f (x_many : Int) : Th) : Th), _, 1, (lenI x_row), rfl, (Wd.arr W1 (Ar.kn (t := true) (Kn.co (α := Int) (β := Th) Kn.int))), r3, h4, fun v5 H6 R7 => ?_⟩
    obtain ⟨rfl, W8⟩ := Wd.callB W1 R7
    refine i_bl ?_
    clear W0 W1
    rcases iteE hm with ⟨hb9, hm⟩ | ⟨hb9, hm⟩
    · refine i_bT hb9 ?_
      cases hm
    · refine i_bF hb9 ?_
      refine i_next ?_
      exact hq _ (some_inj hm) _ _ (Wd.res (x := (() : Unit)) W8 Kn.unit)
end
/-! ### is_whole -/
abbrev sp_is_whole (K : PySem.W.Frag) : Sp := fun vs H Q _ => ∃ (x_thing : Int),  vs = [.int x_thing] ∧ ∃ r : Bool, m_is_whole x_thing = some r ∧ ∀ v' H', Res K H r v' H' → Q v' H'
section
variable {P : Program} {w : World} {K : PySem.W.Frag} {mg : Str → Option Value} {base : Heap}
abbrev N_is_whole : List Str := ["thing"]
theorem scope_is_whole : FnScope N_is_whole ["thing"] (defScope s_is_whole) := ⟨rfl, rfl, rfl, by decide +kernel, rfl, by decide +kernel, by decide +kernel⟩
theorem ok_is_whole {f : Addr} {fd : FuncData} (F : FunD K "is_whole" "is_whole" (defArgs s_is_whole) (defBody s_is_whole) (defScope s_is_whole) [] [] f fd) (hm : mg "is_whole" = some (.ref f)) (Z : Blt mg) (SM : SMd base) (XX : Exs K mg es6) :
    Fn P w K mg base 1 "is_whole" ["thing"] (sp_is_whole K) := by
  refine mkFn F hm (fun _ _ _ _ _ _ us hl => match us, hl with | [_], _ => rfl) (okG (k := 0) F scope_is_whole (fun vs H0 Q E h => ?_) (fun cdv A outer s H0 vs Q E hr hgd h => ?_))
  · obtain ⟨_, rfl, _⟩ := h; rfl
  · have nd := scope_is_whole.nd
    have hu := hr.units
    unfold sp_is_whole at h
    refine ⟨_, PSs.nox (pss_one (ps_ret (pe_and (pe_callB call_isX (by rfl) Z.isinstance_ (by decide +kernel) (pa_cons (pv 0) (pa_cons (pe_bltn (v := .ty "int") (by rfl) Z.int_ (by decide +kernel) rfl) pa_nil))) (pe_one (pe_not (pe_callB call_isX (by rfl) Z.isinstance_ (by decide +kernel) (pa_cons (pv 0) (pa_cons (pe_bltn (v := .ty "bool") (by rfl) Z.bool_ (by decide +kernel) rfl) pa_nil)))))))), ?_⟩
    (try dsimp only [cxOf])
    obtain ⟨x_thing, rfl, r0, hm, q⟩ := h
    let G_ : Bool → Prop := fun r => ∀ v' H', Res K H0 r v' H' → Q v' H'
    have hq : ∀ r, r = r0 → G_ r := fun r e => by subst e; exact q
    clear q
    unfold m_is_whole at hm
    have W0 := Wd.start (K := K) H0
    refine i_ret ?_
    refine i_andV ?_
    refine i_cb ?_
    refine i_tcons ?_
    refine i_var rfl ?_
    refine i_tcons ?_
    refine i_c ?_
    refine i_tnil ?_
    refine w_isi W0 (Ar.kn (t := true) Kn.int) (by simp) ?_
    refine i_bl ?_
    refine w_andVW (L' := _) ((isiO (x_thing : Int) "int") && (!(isiO (x_thing : Int) "bool"))) W0 (fun hb1 P2 hP3 => ?_) (fun hb1 => ⟨and_f hb1, W0⟩) (fun H4 W5 => ?_)
    · refine i_notV ?_
      refine i_cb ?_
      refine i_tcons ?_
      refine i_var rfl ?_
      refine i_tcons ?_
      refine i_c ?_
      refine i_tnil ?_
      refine w_isi W0 (Ar.kn (t := true) Kn.int) (by simp) ?_
      refine i_bl ?_
      exact hP3 _ _ (and_t hb1) W0
    exact hq _ (some_inj hm) _ _ (Wd.res (x := (((isiO (x_thing : Int) "int") && (!(isiO (x_thing : Int) "bool"))) : Bool)) W5 Kn.bl)
end
/-! ### need_many -/
abbrev sp_need_many (K : PySem.W.Frag) : Sp := fun vs H Q _ => ∃ (x_row : (List Int)) (v_row : V) (x_many : Int),  vs = [v_row, .int x_many] ∧ Rp.rep (lkA K H) x_row v_row ∧ ∃ r : Unit, m_need_many x_row x_many = some r ∧ ∀ v' H', Res K H r v' H' → Q v' H'
section
variable {P : Program} {w : World} {K : PySem.W.Frag} {mg : Str → Option Value} {base : Heap}
abbrev N_need_many : List Str := ["row", "many"]
theorem scope_need_many : FnScope N_need_many ["row", "many"] (defScope s_need_many) := ⟨rfl, rfl, rfl, by decide +kernel, rfl, by decide +kernel, by decide +kernel⟩
theorem ok_need_many {f : Addr} {fd : FuncData} (F : FunD K "need_many" "need_many" (defArgs s_need_many) (defBody s_need_many) (defScope s_need_many) [] [] f fd) (hm : mg "need_many" = some (.ref f)) (Z : Blt mg) (SM : SMd base) (XX : Exs K mg es6)
    (C_is_whole : Fn P w K mg base 1 "is_whole" ["thing"] (sp_is_whole K)) :
    Fn P w K mg base 2 "need_many" ["row", "many"] (sp_need_many K) := by
  refine mkFn F hm (fun _ _ _ _ _ _ us hl => match us, hl with | [_, _], _ => rfl) (okG (k := 1) F scope_need_many (fun vs H0 Q E h => ?_) (fun cdv A outer s H0 vs Q E hr hgd h => ?_))
  · obtain ⟨_, _, _, rfl, _⟩ := h; rfl
  · have nd := scope_need_many.nd
    have hu := hr.units
    have hr_is_whole : Room 1 _ := hr.mono (by decide : 1 ≤ 1)
    unfold sp_need_many at h
    refine ⟨_, PSs.nox (pss_one (ps_if (PW.pt (pw_or (pt_not (pt_val (pe_fn C_is_whole hr_is_whole hgd (by rfl) passL (pa_cons (pv 1) pa_nil)))) (pw_or1 (pt_not (pt_chain op_le op_le pe_int (pv 1) (pe_callB cl_len (by rfl) Z.len_ (by decide +kernel) (pa_cons (pv 0) pa_nil))))))) (pss_one ps_never) pss_nil)), ?_⟩
    (try dsimp only [cxOf])
    obtain ⟨x_row, v_row, x_many, rfl, h_row, r0, hm, q⟩ := h
    let G_ : Unit → Prop := fun r => ∀ v' H', Res K H0 r v' H' → Q v' H'
    have hq : ∀ r, r = r0 → G_ r := fun r e => by subst e; exact q
    clear q
    unfold m_need_many at hm
    have W0 := Wd.start (K := K) H0
    have W1 := Wd.arg W0 h_row
    obtain ⟨a2, rfl⟩ := Wd.eqL W1 (Kn.at 0 rfl)
    refine i_ifS ?_
    refine i_or ?_
    refine i_not ?_
    refine i_tB ?_
    refine i_call ?_
    refine i_tcons ?_
    refine i_var rfl ?_
    refine i_tnil ?_
    replace hm := bndE hm
    obtain ⟨r3, h4, hm⟩ := hm
    refine ⟨x_many, rfl, r3, h4, fun v5 H6 R7 => ?_⟩
    obtain ⟨rfl, W8⟩ := Wd.callB W1 R7
    refine i_bl ?_
    refine w_orW (L' := _) ((!r3) || (!((decide (1 ≤ x_many)) && (decide (x_many ≤ (lenI x_row)))))) W8 (fun hb9 P10 hP11 => ?_) (fun hb9 => ⟨or_t hb9, W8⟩) (fun H17 W18 => ?_)
    · refine i_not ?_
      refine i_test ?_
      refine i_chain ?_
      refine i_c ?_
      refine i_var rfl ?_
      refine i_I0 ?_
      refine i_bl ?_
      refine w_chainW (L' := _) ((decide (1 ≤ x_many)) && (decide (x_many ≤ (lenI x_row)))) W8 (fun hb12 P13 hP14 => ?_) (fun hb12 => ⟨and_f hb12, W8⟩) (fun H15 W16 => ?_)
      · refine i_cb ?_
        refine i_tcons ?_
        refine i_var rfl ?_
        refine i_tnil ?_
        refine w_len W8 (Lx.ls (Lx.flat (t := true) (Lx.kn (Kn.at 0 rfl)))) ?_
        refine i_I0 ?_
        exact hP14 _ _ (and_t hb12) W8
      refine i_bl ?_
      exact hP11 _ _ (or_f hb9) W16
    clear W0 W1 W8
    rcases iteE hm with ⟨hb19, hm⟩ | ⟨hb19, hm⟩
    · refine i_bT hb19 ?_
      cases hm
    · refine i_bF hb19 ?_
      refine i_next ?_
      exact hq _ (some_inj hm) _ _ (Wd.res (x := (() : Unit)) W18 Kn.unit)
end
/-! ### long_cut -/
abbrev sp_long_cut (K : PySem.W.Frag) : Sp := fun vs H Q _ => ∃ (x_row : (List Int)) (v_row : V) (x_bound : Int),  vs = [v_row, .int x_bound] ∧ Rp.rep (lkA K H) x_row v_row ∧ ∃ r : (Option (List Int)), m_long_cut x_row x_bound = some r ∧ ∀ v' H', Res K H r v' H' → Q v' H'
section
variable {P : Program} {w : World} {K : PySem.W.Frag} {mg : Str → Option Value} {base : Heap}
abbrev N_long_cut : List Str := ["row", "bound", "cut", "total", "place", "number"]
theorem scope_long_cut : FnScope N_long_cut ["row", "bound"] (defScope s_long_cut) := ⟨rfl, rfl, rfl, by decide +kernel, rfl, by decide +kernel, by decide +kernel⟩
theorem ok_long_cut {f : Addr} {fd : FuncData} (F : FunD K "long_cut" "long_cut" (defArgs s_long_cut) (defBody s_long_cut) (defScope s_long_cut) [] [] f fd) (hm : mg "long_cut" = some (.ref f)) (Z : Blt mg) (SM : SMd base) (XX : Exs K mg es6) :
    Fn P w K mg base 1 "long_cut" ["row", "bound"] (sp_long_cut K) := by
  refine mkFn F hm (fun _ _ _ _ _ _ us hl => match us, hl with | [_, _], _ => rfl) (okG (k := 0) F scope_long_cut (fun vs H0 Q E h => ?_) (fun cdv A outer s H0 vs Q E hr hgd h => ?_))
  · obtain ⟨_, _, _, rfl, _⟩ := h; rfl
  · have nd := scope_long_cut.nd
    have hu := hr.units
    unfold sp_long_cut at h
    refine ⟨_, PSs.nox (pss_cons (ps_set (i := 2) nd rfl (.inl rfl) (pe_lst pa_nil))
    (pss_cons (ps_set (i := 3) nd rfl (.inl rfl) pe_int)
    (pss_cons (ps_for PassesOwn.never rfl (pi_enum (by rfl) Z.enumerate_ (pa_cons (pv 0) pa_nil)) (pg_tup (by rfl) (pgs_cons (pg_name (i := 4) nd rfl (.inl rfl)) (pgs_cons (pg_name (i := 5) nd rfl (.inl rfl)) pgs_nil))) (pss_cons (ps_if (pt_cmpR (op_gtA hu) (pv 5) (pv 1) (nomark _)) (pss_one (ps_ret pe_non)) pss_nil)
    (C8.pss_cut (ps_if (pt_cmpR (op_gtA hu) (pe_op op_addA (pv 3) (pv 5)) (pv 1) (nomark _)) (pss_cons (ps_expr (pe_bmK (K := K) PySem.F.plainAttrs_list PySem.F.slot_list_append PySem.F.type_list_append mt_append (pv 2) (pa_cons (pv 4) pa_nil)))
    (pss_one (ps_set (i := 3) nd rfl (.inl rfl) pe_int))) pss_nil)
    (pss_one (ps_aug (i := 3) nd rfl (.inl rfl) (pv 5) ip_add)))))
    (pss_one (ps_ret (pv 2)))))), ?_⟩
    (try dsimp only [cxOf])
    obtain ⟨x_row, v_row, x_bound, rfl, h_row, r0, hm, q⟩ := h
    let G_ : (Option (List Int)) → Prop := fun r => ∀ v' H', Res K H0 r v' H' → Q v' H'
    have hq : ∀ r, r = r0 → G_ r := fun r e => by subst e; exact q
    clear q
    unfold m_long_cut at hm
    have W0 := Wd.start (K := K) H0
    have W1 := Wd.arg W0 h_row
    obtain ⟨a2, rfl⟩ := Wd.eqL W1 (Kn.at 0 rfl)
    refine i_seq ?_
    refine i_asg ?_
    refine i_tlst ?_
    refine i_tnil ?_
    refine w_lst (α := Int) (t := true) W1 KnL.nil (by show (0 : Nat) ≤ sizeLine; decide) (fun p3 H4 W5 => ?_)
    refine i_gName ?_
    clear W0 W1
    refine i_seq ?_
    refine i_asg ?_
    refine i_c ?_
    refine i_gName ?_
    refine i_seq ?_
    refine i_for ?_
    refine i_iEnum ?_
    refine i_tcons ?_
    refine i_var rfl ?_
    refine i_tnil ?_
    refine w_en W5 (Lx.ls (Lx.flat (t := true) (Lx.kn (Kn.at 0 rfl)))) ?_
    have W6 := Wd.sel W5 [0] rfl
    replace hm := bndE hm
    obtain ⟨o12, h13, hm⟩ := hm
    have hqi : ∀ r, o12 = .ret r → G_ r := fun r er => by subst er; exact hq _ (some_inj hm)
    refine w_for (⟨fun b e => [some (.ref a2), some (.int x_bound), some (.ref p3), some (.int b.2), e.2, e.1], fun b e => [fc false (x_row : (List Int)) (.ref a2)], fun b e => [oL true p3 (b.1 : List Int)]⟩ : Shp ((List Int) × Int) (Option V × Option V)) (none, none) h13 rfl W6 (gv_enum (fun _ _ => (Lx.ls (Lx.flat (t := true) (Lx.kn (Kn.at 0 rfl)))))) ?_ ?_
    · intro x9 v10 b7 e8 H14 o15 W11 hm hr16
      have hqii : ∀ r, o15 = .ret r → G_ r := fun r er => hqi r (hr16 r er)
      obtain ⟨e8_0, e8_1⟩ := e8
      dsimp only at W11 ⊢
      obtain ⟨a20, rfl⟩ := Wd.eqP W11 (Kn.at 0 rfl)
      refine i_gTup ?_
      refine w_unpP W11 (Kn.at 0 rfl) (fun u21 u22 W23 => ?_)
      obtain rfl := Wd.eqI W23 (Kn.at 0 rfl)
      obtain rfl := Wd.eqI W23 (Kn.at 1 rfl)
      refine i_gCons ?_
      refine i_gName ?_
      refine i_gCons ?_
      refine i_gName ?_
      refine i_gNil ?_
      clear W11
      refine i_seq ?_
      refine i_ifS ?_
      refine i_test ?_
      refine i_op ?_
      refine i_var rfl ?_
      refine i_var rfl ?_
      refine i_gtA ?_
      refine i_bl ?_
      rcases iteE hm with ⟨hb24, hm⟩ | ⟨hb24, hm⟩
      · refine i_bT hb24 ?_
        refine i_ret ?_
        refine i_c ?_
        exact hqii _ (some_inj hm).symm _ _ (Wd.res (x := ((none : (Option (List Int))) : (Option (List Int)))) W23 Kn.none)
      · refine i_bF hb24 ?_
        refine i_next ?_
        replace hm := bndE hm
        obtain ⟨s25, h26, hm⟩ := hm
        refine f_cut (NF K H0 (⟨fun b e => [some (.ref a2), some (.int x_bound), some (.ref p3), some (.int b.2), some (.int x9.1), some (.int x9.2)], fun b e => [fc false (x_row : (List Int)) (.ref a2)], fun b e => [oL true p3 (b.1 : List Int)]⟩ : Shp ((List Int) × Int) (Unit)) s25 ) ?_ ?_
        · have hm := h26
          refine i_ifS ?_
          refine i_test ?_
          refine i_op ?_
          refine i_op ?_
          refine i_var rfl ?_
          refine i_var rfl ?_
          refine i_addI ?_
          refine i_var rfl ?_
          refine i_gtA ?_
          refine i_bl ?_
          rcases iteE hm with ⟨hb27, hm⟩ | ⟨hb27, hm⟩
          · refine i_bT hb27 ?_
            refine i_seq ?_
            refine i_drop ?_
            refine i_bm ?_
            refine i_var rfl ?_
            refine w_mt W23 (Lx.ls (Lx.own 0 rfl)) ?_
            refine i_tcons ?_
            refine i_var rfl ?_
            refine i_tnil ?_
            replace hm := bndE hm
            obtain ⟨x28, h29, hm⟩ := hm
            refine w_app W23 0 rfl Kn.int h29 (fun H30 W31 => ?_)
            dsimp only [List.set] at W31
            clear W23
            refine i_asg ?_
            refine i_c ?_
            refine i_gName ?_
            have W32 := Wd.sel W31 [3] rfl
            obtain rfl := some_inj hm
            exact ⟨(), rfl, W32⟩
          · refine i_bF hb27 ?_
            refine i_next ?_
            have W33 := Wd.sel W23 [3] rfl
            obtain rfl := some_inj hm
            exact ⟨(), rfl, W33⟩
        · rintro _ H34 ⟨_, rfl, W35⟩
          dsimp only at W35 ⊢
          refine i_aug rfl ?_
          refine i_var rfl ?_
          refine i_ip ?_
          have W37 := Wd.sel W35 [0] rfl
          exact ⟨(s25.1, (s25.2 + x9.2)), (some (.int x9.2), some (.int x9.1)), (some_inj hm).symm, rfl, W37⟩
    · intro s38 e39 H40 eb42 W41
      subst eb42
      obtain ⟨e39_0, e39_1⟩ := e39
      dsimp only at W41 ⊢
      refine i_ret ?_
      refine i_var rfl ?_
      have W43 := Wd.frz W41
      exact hq _ (some_inj hm) _ _ (Wd.res (x := ((some s38.1) : (Option (List Int)))) W43 (Kn.some (Kn.at 0 rfl)))
end
/-! ### fewest_pieces -/
abbrev sp_fewest_pieces (K : PySem.W.Frag) : Sp := fun vs H Q _ => ∃ (x_row : (List Int)) (v_row : V) (x_bound : Int),  vs = [v_row, .int x_bound] ∧ Rp.rep (lkA K H) x_row v_row ∧ ∃ r : (Option Int), m_fewest_pieces x_row x_bound = some r ∧ ∀ v' H', Res K H r v' H' → Q v' H'
section
variable {P : Program} {w : World} {K : PySem.W.Frag} {mg : Str → Option Value} {base : Heap}
abbrev N_fewest_pieces : List Str := ["row", "bound", "cut"]
theorem scope_fewest_pieces : FnScope N_fewest_pieces ["row", "bound"] (defScope s_fewest_pieces) := ⟨rfl, rfl, rfl, by decide +kernel, rfl, by decide +kernel, by decide +kernel⟩
theorem ok_fewest_pieces {f : Addr} {fd : FuncData} (F : FunD K "fewest_pieces" "fewest_pieces" (defArgs s_fewest_pieces) (defBody s_fewest_pieces) (defScope s_fewest_pieces) [] [] f fd) (hm : mg "fewest_pieces" = some (.ref f)) (Z : Blt mg) (SM : SMd base) (XX : Exs K mg es6)
    (C_long_cut : Fn P w K mg base 1 "long_cut" ["row", "bound"] (sp_long_cut K)) :
    Fn P w K mg base 2 "fewest_pieces" ["row", "bound"] (sp_fewest_pieces K) := by
  refine mkFn F hm (fun _ _ _ _ _ _ us hl => match us, hl with | [_, _], _ => rfl) (okG (k := 1) F scope_fewest_pieces (fun vs H0 Q E h => ?_) (fun cdv A outer s H0 vs Q E hr hgd h => ?_))
  · obtain ⟨_, _, _, rfl, _⟩ := h; rfl
  · have nd := scope_fewest_pieces.nd
    have hu := hr.units
    have hr_long_cut : Room 1 _ := hr.mono (by decide : 1 ≤ 1)
    unfold sp_fewest_pieces at h
    refine ⟨_, PSs.nox (pss_cons (ps_set (i := 2) nd rfl (.inl rfl) (pe_fn C_long_cut hr_long_cut hgd (by rfl) passL (pa_cons (pv 0) (pa_cons (pv 1) pa_nil))))
    (pss_cons (ps_if (pt_cmpR op_isNn (pv 2) pe_non (nomark _)) (pss_one (ps_ret pe_non)) pss_nil)
    (pss_one (ps_ret (pe_op op_addA (pe_callB cl_len (by rfl) Z.len_ (by decide +kernel) (pa_cons (pv 2) pa_nil)) pe_int))))), ?_⟩
    (try dsimp only [cxOf])
    obtain ⟨x_row, v_row, x_bound, rfl, h_row, r0, hm, q⟩ := h
    let G_ : (Option Int) → Prop := fun r => ∀ v' H', Res K H0 r v' H' → Q v' H'
    have hq : ∀ r, r = r0 → G_ r := fun r e => by subst e; exact q
    clear q
    unfold m_fewest_pieces at hm
    have W0 := Wd.start (K := K) H0
    have W1 := Wd.arg W0 h_row
    obtain ⟨a2, rfl⟩ := Wd.eqL W1 (Kn.at 0 rfl)
    refine i_seq ?_
    refine i_asg ?_
    refine i_call ?_
    refine i_tcons ?_
    refine i_var rfl ?_
    refine i_tcons ?_
    refine i_var rfl ?_
    refine i_tnil ?_
    replace hm := bndE hm
    obtain ⟨r3, h4, hm⟩ := hm
    refine ⟨(x_row : (List Int)), _, x_bound, rfl, (Wd.arr W1 (Ar.kn (t := false) (Kn.at 0 rfl))), r3, h4, fun v5 H6 R7 => ?_⟩
    have W8 := Wd.call W1 R7
    refine i_gName ?_
    clear W0 W1
    refine i_seq ?_
    refine i_ifS ?_
    refine i_test ?_
    refine i_op ?_
    refine i_var rfl ?_
    refine i_c ?_
    refine w_isN W8 (Kn.at 0 rfl) ?_
    refine i_bl ?_
    rcases iteE hm with ⟨hb9, hm⟩ | ⟨hb9, hm⟩
    · refine i_bT hb9 ?_
      refine i_ret ?_
      refine i_c ?_
      exact hq _ (some_inj hm) _ _ (Wd.res (x := ((none : (Option Int)) : (Option Int))) W8 Kn.none)
    · refine i_bF hb9 ?_
      refine i_next ?_
      refine i_ret ?_
      refine i_op ?_
      refine i_cb ?_
      refine i_tcons ?_
      refine i_var rfl ?_
      refine i_tnil ?_
      replace hm := bndE hm
      obtain ⟨x10, h11, hm⟩ := hm
      have W12 := Wd.unopt (t := true) W8 (Kn.at 0 rfl) h11
      obtain ⟨a13, rfl⟩ := Wd.eqL W12 (Kn.at 0 rfl)
      refine w_len W12 (Lx.ls (Lx.kn (Kn.at 0 rfl))) ?_
      refine i_c ?_
      refine i_addI ?_
      exact hq _ (some_inj hm) _ _ (Wd.res (x := ((some ((lenI x10) + 1)) : (Option Int))) W12 (Kn.some Kn.int))
end
/-! ### least_bound -/
abbrev sp_least_bound (K : PySem.W.Frag) : Sp := fun vs H Q _ => ∃ (x_row : (List Int)) (v_row : V) (x_many : Int),  vs = [v_row, .int x_many] ∧ Rp.rep (lkA K H) x_row v_row ∧ ∃ r : Int, m_least_bound x_row x_many = some r ∧ ∀ v' H', Res K H r v' H' → Q v' H'
section
variable {P : Program} {w : World} {K : PySem.W.Frag} {mg : Str → Option Value} {base : Heap}
abbrev N_least_bound : List Str := ["row", "many", "low", "high", "amid"]
theorem scope_least_bound : FnScope N_least_bound ["row", "many"] (defScope s_least_bound) := ⟨rfl, rfl, rfl, by decide +kernel, rfl, by decide +kernel, by decide +kernel⟩
theorem ok_least_bound {f : Addr} {fd : FuncData} (F : FunD K "least_bound" "least_bound" (defArgs s_least_bound) (defBody s_least_bound) (defScope s_least_bound) [] [] f fd) (hm : mg "least_bound" = some (.ref f)) (Z : Blt mg) (SM : SMd base) (XX : Exs K mg es6)
    (C_fewest_pieces : Fn P w K mg base 2 "fewest_pieces" ["row", "bound"] (sp_fewest_pieces K)) :
    Fn P w K mg base 3 "least_bound" ["row", "many"] (sp_least_bound K) := by
  refine mkFn F hm (fun _ _ _ _ _ _ us hl => match us, hl with | [_, _], _ => rfl) (okG (k := 2) F scope_least_bound (fun vs H0 Q E h => ?_) (fun cdv A outer s H0 vs Q E hr hgd h => ?_))
  · obtain ⟨_, _, _, rfl, _⟩ := h; rfl
  · have nd := scope_least_bound.nd
    have hu := hr.units
    have hr_fewest_pieces : Room 2 _ := hr.mono (by decide : 2 ≤ 2)
    unfold sp_least_bound at h
    refine ⟨_, PSs.nox (pss_cons (ps_set (i := 2) nd rfl (.inl rfl) (pe_callB (cr_maxA rfl hu) (by rfl) Z.max_ (by decide +kernel) (pa_cons (pv 0) pa_nil)))
    (pss_cons (ps_set (i := 3) nd rfl (.inl rfl) (pe_callB (cr_sum rfl) (by rfl) Z.sum_ (by decide +kernel) (pa_cons (pv 0) pa_nil)))
    (pss_cons (ps_while PassesOwn.never (pt_cmpR (op_ltA hu) (pv 2) (pv 3) (nomark _)) (pss_cons (ps_set (i := 4) nd rfl (.inl rfl) (pe_op op_fdivW (pe_op op_addA (pv 2) (pv 3)) pe_int))
    (pss_one (ps_if (pt_cmpR (op_leA hu) (pe_fn C_fewest_pieces hr_fewest_pieces hgd (by rfl) passL (pa_cons (pv 0) (pa_cons (pv 4) pa_nil))) (pv 1) (nomark _)) (pss_one (ps_set (i := 3) nd rfl (.inl rfl) (pv 4))) (pss_one (ps_set (i := 2) nd rfl (.inl rfl) (pe_op op_addA (pv 4) pe_int)))))))
    (pss_one (ps_ret (pv 2)))))), ?_⟩
    (try dsimp only [cxOf])
    obtain ⟨x_row, v_row, x_many, rfl, h_row, r0, hm, q⟩ := h
    let G_ : Int → Prop := fun r => ∀ v' H', Res K H0 r v' H' → Q v' H'
    have hq : ∀ r, r = r0 → G_ r := fun r e => by subst e; exact q
    clear q
    unfold m_least_bound at hm
    have W0 := Wd.start (K := K) H0
    have W1 := Wd.arg W0 h_row
    obtain ⟨a2, rfl⟩ := Wd.eqL W1 (Kn.at 0 rfl)
    refine i_seq ?_
    refine i_asg ?_
    refine i_cb ?_
    refine i_tcons ?_
    refine i_var rfl ?_
    refine i_tnil ?_
    replace hm := bndE hm
    obtain ⟨x3, h4, hm⟩ := hm
    refine .inl (w_max W1 (Lx.ls (Lx.flat (t := true) (Lx.kn (Kn.at 0 rfl)))) h4 ?_)
    refine i_gName ?_
    clear W0
    refine i_seq ?_
    refine i_asg ?_
    refine i_cb ?_
    refine i_tcons ?_
    refine i_var rfl ?_
    refine i_tnil ?_
    refine w_sum W1 (Lx.ls (Lx.flat (t := true) (Lx.kn (Kn.at 0 rfl)))) ?_
    refine i_gName ?_
    refine i_seq ?_
    have W5 := Wd.sel W1 [0] rfl
    replace hm := bndE hm
    obtain ⟨o11, h12, hm⟩ := hm
    refine w_while (⟨fun b e => [some (.ref a2), some (.int x_many), some (.int b.2), some (.int b.1), e], fun b e => [fc false (x_row : (List Int)) (.ref a2)], fun b e => []⟩ : Shp (Int × Int) (Option V)) none h12 rfl W5 ?_ ?_
    · intro b6 e7_0 H13 o14 W10 hm hr15 hbk18 P16 hP17
      dsimp only at W10 ⊢
      refine i_test ?_
      refine i_op ?_
      refine i_var rfl ?_
      refine i_var rfl ?_
      refine i_ltA ?_
      refine i_bl ?_
      rcases iteE hm with ⟨hb19, hm⟩ | ⟨hb19, hm⟩
      · refine i_bT hb19 ?_
        refine ⟨_, hP17, ?_⟩
        refine i_seq ?_
        refine i_asg ?_
        refine i_op ?_
        refine i_op ?_
        refine i_var rfl ?_
        refine i_var rfl ?_
        refine i_addI ?_
        refine i_c ?_
        refine i_fdiv (by decide) (by decide) ?_
        refine i_gName ?_
        refine i_ifS ?_
        refine i_test ?_
        refine i_op ?_
        refine i_call ?_
        refine i_tcons ?_
        refine i_var rfl ?_
        refine i_tcons ?_
        refine i_var rfl ?_
        refine i_tnil ?_
        replace hm := bndE hm
        obtain ⟨r20, h21, hm⟩ := hm
        refine ⟨(x_row : (List Int)), _, ((b6.2 + b6.1) / 2), rfl, (Wd.arr W10 (Ar.kn (t := false) (Kn.at 0 rfl))), r20, h21, fun v22 H23 R24 => ?_⟩
        have W25 := Wd.call W10 R24
        refine i_var rfl ?_
        replace hm := bndE hm
        obtain ⟨x26, h27, hm⟩ := hm
        have W28 := Wd.unopt (t := true) W25 (Kn.at 0 rfl) h27
        obtain rfl := Wd.eqI W28 (Kn.at 0 rfl)
        refine i_leA ?_
        refine i_bl ?_
        clear W10 W25
        rcases iteE hm with ⟨hb29, hm⟩ | ⟨hb29, hm⟩
        · refine i_bT hb29 ?_
          refine i_asg ?_
          refine i_var rfl ?_
          refine i_gName ?_
          have W30 := Wd.sel W28 [2] rfl
          exact ⟨(((b6.2 + b6.1) / 2), b6.2), some (.int ((b6.2 + b6.1) / 2)), (some_inj hm).symm, rfl, W30⟩
        · refine i_bF hb29 ?_
          refine i_asg ?_
          refine i_op ?_
          refine i_var rfl ?_
          refine i_c ?_
          refine i_addI ?_
          refine i_gName ?_
          have W31 := Wd.sel W28 [2] rfl
          exact ⟨(b6.1, (((b6.2 + b6.1) / 2) + 1)), some (.int ((b6.2 + b6.1) / 2)), (some_inj hm).symm, rfl, W31⟩
      · refine i_bF hb19 ?_
        have W32 := Wd.sel W10 [0] rfl
        exact hbk18 (b6.1, b6.2) e7_0 _ (some_inj hm).symm W32
    · intro s33 e34_0 H35 eb37 W36
      subst eb37
      dsimp only at W36 ⊢
      refine i_ret ?_
      refine i_var rfl ?_
      exact hq _ (some_inj hm) _ _ (Wd.res (x := (s33.2 : Int)) W36 Kn.int)
end
/-! ### early_cut -/
abbrev sp_early_cut (K : PySem.W.Frag) : Sp := fun vs H Q _ => ∃ (x_row : (List Int)) (v_row : V) (x_many : Int) (x_bound : Int),  vs = [v_row, .int x_many, .int x_bound] ∧ Rp.rep (lkA K H) x_row v_row ∧ ∃ r : (List Int), m_early_cut x_row x_many x_bound = some r ∧ ∀ v' H', Res K H r v' H' → Q v' H'
section
variable {P : Program} {w : World} {K : PySem.W.Frag} {mg : Str → Option Value} {base : Heap}
abbrev N_early_cut : List Str := ["row", "many", "bound", "cut", "begin", "left"]
theorem scope_early_cut : FnScope N_early_cut ["row", "many", "bound"] (defScope s_early_cut) := ⟨rfl, rfl, rfl, by decide +kernel, rfl, by decide +kernel, by decide +kernel⟩
theorem ok_early_cut {f : Addr} {fd : FuncData} (F : FunD K "early_cut" "early_cut" (defArgs s_early_cut) (defBody s_early_cut) (defScope s_early_cut) [] [] f fd) (hm : mg "early_cut" = some (.ref f)) (Z : Blt mg) (SM : SMd base) (XX : Exs K mg es6)
    (C_fewest_pieces : Fn P w K mg base 2 "fewest_pieces" ["row", "bound"] (sp_fewest_pieces K)) :
    Fn P w K mg base 3 "early_cut" ["row", "many", "bound"] (sp_early_cut K) := by
  refine mkFn F hm (fun _ _ _ _ _ _ us hl => match us, hl with | [_, _, _], _ => rfl) (okG (k := 2) F scope_early_cut (fun vs H0 Q E h => ?_) (fun cdv A outer s H0 vs Q E hr hgd h => ?_))
  · obtain ⟨_, _, _, _, rfl, _⟩ := h; rfl
  · have nd := scope_early_cut.nd
    have hu := hr.units
    have hr_fewest_pieces : Room 2 _ := hr.mono (by decide : 2 ≤ 2)
    unfold sp_early_cut at h
    refine ⟨_, PSs.nox (pss_cons (ps_set (i := 3) nd rfl (.inl rfl) (pe_lst pa_nil))
    (pss_cons (ps_set (i := 4) nd rfl (.inl rfl) pe_int)
    (pss_cons (ps_for PassesOwn.never rfl (pi_range3 (by rfl) Z.range_ (pa_cons (pe_op op_sub (pv 1) pe_int) (pa_cons pe_int (pa_cons (pe_un un_neg pe_int) pa_nil)))) (pg_name (i := 5) nd rfl (.inl rfl)) (pss_cons (ps_aug (i := 4) nd rfl (.inl rfl) pe_int ip_add)
    (pss_cons (ps_while PassesOwn.never (pt_cmpR (op_gtA hu) (pe_fn C_fewest_pieces hr_fewest_pieces hgd (by rfl) passL (pa_cons (pe_slice sl_list (pv 0) (po_some (pv 4)) po_none) (pa_cons (pv 2) pa_nil))) (pv 5) (nomark _)) (pss_one (ps_aug (i := 4) nd rfl (.inl rfl) pe_int ip_add)))
    (pss_one (ps_expr (pe_bmK (K := K) PySem.F.plainAttrs_list PySem.F.slot_list_append PySem.F.type_list_append mt_append (pv 3) (pa_cons (pv 4) pa_nil)))))))
    (pss_one (ps_ret (pv 3)))))), ?_⟩
    (try dsimp only [cxOf])
    obtain ⟨x_row, v_row, x_many, x_bound, rfl, h_row, r0, hm, q⟩ := h
    let G_ : (List Int) → Prop := fun r => ∀ v' H', Res K H0 r v' H' → Q v' H'
    have hq : ∀ r, r = r0 → G_ r := fun r e => by subst e; exact q
    clear q
    unfold m_early_cut at hm
    have W0 := Wd.start (K := K) H0
    have W1 := Wd.arg W0 h_row
    obtain ⟨a2, rfl⟩ := Wd.eqL W1 (Kn.at 0 rfl)
    refine i_seq ?_
    refine i_asg ?_
    refine i_tlst ?_
    refine i_tnil ?_
    refine w_lst (α := Int) (t := true) W1 KnL.nil (by show (0 : Nat) ≤ sizeLine; decide) (fun p3 H4 W5 => ?_)
    refine i_gName ?_
    clear W0 W1
    refine i_seq ?_
    refine i_asg ?_
    refine i_c ?_
    refine i_gName ?_
    refine i_seq ?_
    refine i_for ?_
    refine i_iRng3 ?_
    refine i_tcons ?_
    refine i_op ?_
    refine i_var rfl ?_
    refine i_c ?_
    refine i_I0 ?_
    refine i_tcons ?_
    refine i_c ?_
    refine i_tcons ?_
    refine i_un ?_
    refine i_c ?_
    refine i_rU ?_
    refine i_tnil ?_
    replace hm := bndE hm
    obtain ⟨x7, h8, hm⟩ := hm
    refine w_rgD h8 (fun e6 => ?_)
    subst e6
    have W9 := Wd.sel W5 [0] rfl
    replace hm := bndE hm
    obtain ⟨o15, h16, hm⟩ := hm
    refine w_fold (⟨fun b e => [some (.ref a2), some (.int x_many), some (.int x_bound), some (.ref p3), some (.int b.1), e], fun b e => [fc false (x_row : (List Int)) (.ref a2)], fun b e => [oL true p3 (b.2 : List Int)]⟩ : Shp (Int × (List Int)) (Option V)) none h16 rfl W9 gv_rgb ?_ ?_
    · intro x12 v13 b10 e11_0 H17 o18 W14 hm
      dsimp only at W14 ⊢
      obtain rfl := Wd.eqI W14 (Kn.at 0 rfl)
      refine i_gName ?_
      refine i_seq ?_
      refine i_aug rfl ?_
      refine i_c ?_
      refine i_ip ?_
      refine i_seq ?_
      have W23 := Wd.sel W14 [1] rfl
      replace hm := bndE hm
      obtain ⟨o29, h30, hm⟩ := hm
      refine w_while (⟨fun b e => [some (.ref a2), some (.int x_many), some (.int x_bound), some (.ref p3), some (.int b), some (.int x12)], fun b e => [fc false (x_row : (List Int)) (.ref a2)], fun b e => [oL true p3 (b10.2 : List Int)]⟩ : Shp (Int) (Unit)) () h30 rfl W23 ?_ ?_
      · intro b24 e25 H31 o32 W28 hm hr33 hbk36 P34 hP35
        dsimp only at W28 ⊢
        refine i_test ?_
        refine i_op ?_
        refine i_call ?_
        refine i_tcons ?_
        refine i_sl ?_
        refine i_var rfl ?_
        refine i_part ?_
        refine i_var rfl ?_
        refine i_partI ?_
        refine i_nopart ?_
        refine w_slice W28 (Lx.ls (Lx.flat (t := true) (Lx.kn (Kn.at 0 rfl)))) (fun p37 H38 W39 => ?_)
        have W40 := Wd.frz W39
        refine i_tcons ?_
        refine i_var rfl ?_
        refine i_tnil ?_
        replace hm := bndE hm
        obtain ⟨r41, h42, hm⟩ := hm
        refine ⟨((sliceI x_row (some b24) none) : (List Int)), _, x_bound, rfl, (Wd.arr W40 (Ar.kn (t := true) (Kn.at 0 rfl))), r41, h42, fun v43 H44 R45 => ?_⟩
        have W46 := Wd.call W40 R45
        refine i_var rfl ?_
        replace hm := bndE hm
        obtain ⟨x47, h48, hm⟩ := hm
        have W49 := Wd.unopt (t := true) W46 (Kn.at 0 rfl) h48
        obtain rfl := Wd.eqI W49 (Kn.at 0 rfl)
        refine i_gtA ?_
        refine i_bl ?_
        clear W28 W39 W40 W46
        rcases iteE hm with ⟨hb50, hm⟩ | ⟨hb50, hm⟩
        · refine i_bT hb50 ?_
          refine ⟨_, hP35, ?_⟩
          refine i_aug rfl ?_
          refine i_c ?_
          refine i_ip ?_
          have W51 := Wd.sel W49 [3] rfl
          exact ⟨(b24 + 1), (), (some_inj hm).symm, rfl, W51⟩
        · refine i_bF hb50 ?_
          have W52 := Wd.sel W49 [3] rfl
          exact hbk36 b24 () _ (some_inj hm).symm W52
      · intro s53 e54 H55 eb57 W56
        subst eb57
        dsimp only at W56 ⊢
        refine i_drop ?_
        refine i_bm ?_
        refine i_var rfl ?_
        refine w_mt W56 (Lx.ls (Lx.own 0 rfl)) ?_
        refine i_tcons ?_
        refine i_var rfl ?_
        refine i_tnil ?_
        replace hm := bndE hm
        obtain ⟨x58, h59, hm⟩ := hm
        refine w_app W56 0 rfl Kn.int h59 (fun H60 W61 => ?_)
        dsimp only [List.set] at W61
        clear W56
        have W62 := Wd.sel W61 [0] rfl
        obtain rfl := some_inj hm
        exact ⟨some (.int x12), rfl, W62⟩
    · intro e64_0 H65 W66
      dsimp only at W66 ⊢
      refine i_ret ?_
      refine i_var rfl ?_
      have W68 := Wd.frz W66
      exact hq _ (some_inj hm) _ _ (Wd.res (x := (o15.2 : (List Int))) W68 (Kn.at 0 rfl))
end
/-! ### least_greatest -/
abbrev sp_least_greatest (K : PySem.W.Frag) : Sp := fun vs H Q _ => ∃ (x_row : (List Int)) (v_row : V) (x_many : Int),  vs = [v_row, .int x_many] ∧ Rp.rep (lkA K H) x_row v_row ∧ ∃ r : (Int × (List Int)), m_least_greatest x_row x_many = some r ∧ ∀ v' H', Res K H r v' H' → Q v' H'
section
variable {P : Program} {w : World} {K : PySem.W.Frag} {mg : Str → Option Value} {base : Heap}
abbrev N_least_greatest : List Str := ["row", "many", "bound"]
theorem scope_least_greatest : FnScope N_least_greatest ["row", "many"] (defScope s_least_greatest) := ⟨rfl, rfl, rfl, by decide +kernel, rfl, by decide +kernel, by decide +kernel⟩
theorem ok_least_greatest {f : Addr} {fd : FuncData} (F : FunD K "least_greatest" "least_greatest" (defArgs s_least_greatest) (defBody s_least_greatest) (defScope s_least_greatest) [] [] f fd) (hm : mg "least_greatest" = some (.ref f)) (Z : Blt mg) (SM : SMd base) (XX : Exs K mg es6)
    (C_early_cut : Fn P w K mg base 3 "early_cut" ["row", "many", "bound"] (sp_early_cut K))
    (C_least_bound : Fn P w K mg base 3 "least_bound" ["row", "many"] (sp_least_bound K))
    (C_need_many : Fn P w K mg base 2 "need_many" ["row", "many"] (sp_need_many K)) :
    Fn P w K mg base 4 "least_greatest" ["row", "many"] (sp_least_greatest K) := by
  refine mkFn F hm (fun _ _ _ _ _ _ us hl => match us, hl with | [_, _], _ => rfl) (okG (k := 3) F scope_least_greatest (fun vs H0 Q E h => ?_) (fun cdv A outer s H0 vs Q E hr hgd h => ?_))
  · obtain ⟨_, _, _, rfl, _⟩ := h; rfl
  · have nd := scope_least_greatest.nd
    have hu := hr.units
    have hr_early_cut : Room 3 _ := hr.mono (by decide : 3 ≤ 3)
    have hr_least_bound : Room 3 _ := hr.mono (by decide : 3 ≤ 3)
    have hr_need_many : Room 2 _ := hr.mono (by decide : 2 ≤ 3)
    unfold sp_least_greatest at h
    refine ⟨_, PSs.nox (pss_cons (ps_expr (pe_fn C_need_many hr_need_many hgd (by rfl) passL (pa_cons (pv 0) (pa_cons (pv 1) pa_nil))))
    (pss_cons (ps_set (i := 2) nd rfl (.inl rfl) (pe_fn C_least_bound hr_least_bound hgd (by rfl) passL (pa_cons (pv 0) (pa_cons (pv 1) pa_nil))))
    (pss_one (ps_ret (pe_tup (pa_cons (pv 2) (pa_cons (pe_fn C_early_cut hr_early_cut hgd (by rfl) passL (pa_cons (pv 0) (pa_cons (pv 1) (pa_cons (pv 2) pa_nil)))) pa_nil))))))), ?_⟩
    (try dsimp only [cxOf])
    obtain ⟨x_row, v_row, x_many, rfl, h_row, r0, hm, q⟩ := h
    let G_ : (Int × (List Int)) → Prop := fun r => ∀ v' H', Res K H0 r v' H' → Q v' H'
    have hq : ∀ r, r = r0 → G_ r := fun r e => by subst e; exact q
    clear q
    unfold m_least_greatest at hm
    have W0 := Wd.start (K := K) H0
    have W1 := Wd.arg W0 h_row
    obtain ⟨a2, rfl⟩ := Wd.eqL W1 (Kn.at 0 rfl)
    refine i_seq ?_
    refine i_drop ?_
    refine i_call ?_
    refine i_tcons ?_
    refine i_var rfl ?_
    refine i_tcons ?_
    refine i_var rfl ?_
    refine i_tnil ?_
    replace hm := bndE hm
    obtain ⟨r3, h4, hm⟩ := hm
    refine ⟨(x_row : (List Int)), _, x_many, rfl, (Wd.arr W1 (Ar.kn (t := false) (Kn.at 0 rfl))), r3, h4, fun v5 H6 R7 => ?_⟩
    obtain ⟨rfl, W8⟩ := Wd.callU W1 R7
    clear W0 W1
    refine i_seq ?_
    refine i_asg ?_
    refine i_call ?_
    refine i_tcons ?_
    refine i_var rfl ?_
    refine i_tcons ?_
    refine i_var rfl ?_
    refine i_tnil ?_
    replace hm := bndE hm
    obtain ⟨r9, h10, hm⟩ := hm
    refine ⟨(x_row : (List Int)), _, x_many, rfl, (Wd.arr W8 (Ar.kn (t := false) (Kn.at 0 rfl))), r9, h10, fun v11 H12 R13 => ?_⟩
    obtain ⟨rfl, W14⟩ := Wd.callI W8 R13
    refine i_gName ?_
    clear W8
    refine i_ret ?_
    refine i_ttup ?_
    refine i_tcons ?_
    refine i_var rfl ?_
    refine i_tcons ?_
    refine i_call ?_
    refine i_tcons ?_
    refine i_var rfl ?_
    refine i_tcons ?_
    refine i_var rfl ?_
    refine i_tcons ?_
    refine i_var rfl ?_
    refine i_tnil ?_
    replace hm := bndE hm
    obtain ⟨r15, h16, hm⟩ := hm
    refine ⟨(x_row : (List Int)), _, x_many, r9, rfl, (Wd.arr W14 (Ar.kn (t := false) (Kn.at 0 rfl))), r15, h16, fun v17 H18 R19 => ?_⟩
    have W20 := Wd.call W14 R19
    obtain ⟨a21, rfl⟩ := Wd.eqL W20 (Kn.at 0 rfl)
    refine i_tnil ?_
    refine w_tup2 (t := true) W20 Kn.int (Kn.at 0 rfl) (fun p22 H23 W24 => ?_)
    exact hq _ (some_inj hm) _ _ (Wd.res (x := ((r9, r15) : (Int × (List Int)))) W24 (Kn.at 0 rfl))
end
/-! ### stretches_to -/
abbrev sp_stretches_to (K : PySem.W.Frag) : Sp := fun vs H Q _ => ∃ (x_row : (List Int)) (v_row : V) (x_bound : Int),  vs = [v_row, .int x_bound] ∧ Rp.rep (lkA K H) x_row v_row ∧ ∃ r : (List (Int × Int)), m_stretches_to x_row x_bound = some r ∧ ∀ v' H', Res K H r v' H' → Q v' H'
section
variable {P : Program} {w : World} {K : PySem.W.Frag} {mg : Str → Option Value} {base : Heap}
abbrev N_stretches_to : List Str := ["row", "bound", "found", "begin", "total", "place", "number"]
theorem scope_stretches_to : FnScope N_stretches_to ["row", "bound"] (defScope s_stretches_to) := ⟨rfl, rfl, rfl, by decide +kernel, rfl, by decide +kernel, by decide +kernel⟩
theorem ok_stretches_to {f : Addr} {fd : FuncData} (F : FunD K "stretches_to" "stretches_to" (defArgs s_stretches_to) (defBody s_stretches_to) (defScope s_stretches_to) [] [] f fd) (hm : mg "stretches_to" = some (.ref f)) (Z : Blt mg) (SM : SMd base) (XX : Exs K mg es6) :
    Fn P w K mg base 1 "stretches_to" ["row", "bound"] (sp_stretches_to K) := by
  refine mkFn F hm (fun _ _ _ _ _ _ us hl => match us, hl with | [_, _], _ => rfl) (okG (k := 0) F scope_stretches_to (fun vs H0 Q E h => ?_) (fun cdv A outer s H0 vs Q E hr hgd h => ?_))
  · obtain ⟨_, _, _, rfl, _⟩ := h; rfl
  · have nd := scope_stretches_to.nd
    have hu := hr.units
    unfold sp_stretches_to at h
    refine ⟨_, PSs.nox (pss_cons (ps_set (i := 2) nd rfl (.inl rfl) (pe_lst pa_nil))
    (pss_cons (ps_set (i := 3) nd rfl (.inl rfl) pe_int)
    (pss_cons (ps_set (i := 4) nd rfl (.inl rfl) pe_int)
    (pss_cons (ps_for PassesOwn.never rfl (pi_enum (by rfl) Z.enumerate_ (pa_cons (pv 0) pa_nil)) (pg_tup (by rfl) (pgs_cons (pg_name (i := 5) nd rfl (.inl rfl)) (pgs_cons (pg_name (i := 6) nd rfl (.inl rfl)) pgs_nil))) (pss_cons (ps_aug (i := 4) nd rfl (.inl rfl) (pv 6) ip_add)
    (pss_one (ps_if (pt_cmpR (op_geA hu) (pv 4) (pv 1) (nomark _)) (pss_cons (ps_expr (pe_bmK (K := K) PySem.F.plainAttrs_list PySem.F.slot_list_append PySem.F.type_list_append mt_append (pv 2) (pa_cons (pe_tup (pa_cons (pv 3) (pa_cons (pe_op op_addA (pv 5) pe_int) pa_nil))) pa_nil)))
    (pss_cons (ps_set (i := 3) nd rfl (.inl rfl) (pv 5))
    (pss_one (ps_set (i := 4) nd rfl (.inl rfl) (pv 6))))) pss_nil))))
    (pss_one (ps_ret (pv 2))))))), ?_⟩
    (try dsimp only [cxOf])
    obtain ⟨x_row, v_row, x_bound, rfl, h_row, r0, hm, q⟩ := h
    let G_ : (List (Int × Int)) → Prop := fun r => ∀ v' H', Res K H0 r v' H' → Q v' H'
    have hq : ∀ r, r = r0 → G_ r := fun r e => by subst e; exact q
    clear q
    unfold m_stretches_to at hm
    have W0 := Wd.start (K := K) H0
    have W1 := Wd.arg W0 h_row
    obtain ⟨a2, rfl⟩ := Wd.eqL W1 (Kn.at 0 rfl)
    refine i_seq ?_
    refine i_asg ?_
    refine i_tlst ?_
    refine i_tnil ?_
    refine w_lst (α := (Int × Int)) (t := true) W1 KnL.nil (by show (0 : Nat) ≤ sizeLine; decide) (fun p3 H4 W5 => ?_)
    refine i_gName ?_
    clear W0 W1
    refine i_seq ?_
    refine i_asg ?_
    refine i_c ?_
    refine i_gName ?_
    refine i_seq ?_
    refine i_asg ?_
    refine i_c ?_
    refine i_gName ?_
    refine i_seq ?_
    refine i_for ?_
    refine i_iEnum ?_
    refine i_tcons ?_
    refine i_var rfl ?_
    refine i_tnil ?_
    refine w_en W5 (Lx.ls (Lx.flat (t := true) (Lx.kn (Kn.at 0 rfl)))) ?_
    have W6 := Wd.sel W5 [0] rfl
    replace hm := bndE hm
    obtain ⟨o12, h13, hm⟩ := hm
    refine w_fold (⟨fun b e => [some (.ref a2), some (.int x_bound), some (.ref p3), some (.int b.1), some (.int b.2.2), e.2, e.1], fun b e => [fc false (x_row : (List Int)) (.ref a2)], fun b e => [oL true p3 (b.2.1 : List (Int × Int))]⟩ : Shp (Int × (List (Int × Int)) × Int) (Option V × Option V)) (none, none) h13 rfl W6 (gv_enum (fun _ _ => (Lx.ls (Lx.flat (t := true) (Lx.kn (Kn.at 0 rfl)))))) ?_ ?_
    · intro x9 v10 b7 e8 H14 o15 W11 hm
      obtain ⟨e8_0, e8_1⟩ := e8
      dsimp only at W11 ⊢
      obtain ⟨a20, rfl⟩ := Wd.eqP W11 (Kn.at 0 rfl)
      refine i_gTup ?_
      refine w_unpP W11 (Kn.at 0 rfl) (fun u21 u22 W23 => ?_)
      obtain rfl := Wd.eqI W23 (Kn.at 0 rfl)
      obtain rfl := Wd.eqI W23 (Kn.at 1 rfl)
      refine i_gCons ?_
      refine i_gName ?_
      refine i_gCons ?_
      refine i_gName ?_
      refine i_gNil ?_
      clear W11
      refine i_seq ?_
      refine i_aug rfl ?_
      refine i_var rfl ?_
      refine i_ip ?_
      refine i_ifS ?_
      refine i_test ?_
      refine i_op ?_
      refine i_var rfl ?_
      refine i_var rfl ?_
      refine i_geA ?_
      refine i_bl ?_
      rcases iteE hm with ⟨hb24, hm⟩ | ⟨hb24, hm⟩
      · refine i_bT hb24 ?_
        refine i_seq ?_
        refine i_drop ?_
        refine i_bm ?_
        refine i_var rfl ?_
        refine w_mt W23 (Lx.ls (Lx.own 0 rfl)) ?_
        refine i_tcons ?_
        refine i_ttup ?_
        refine i_tcons ?_
        refine i_var rfl ?_
        refine i_tcons ?_
        refine i_op ?_
        refine i_var rfl ?_
        refine i_c ?_
        refine i_addI ?_
        refine i_tnil ?_
        refine w_tup2 (t := true) W23 Kn.int Kn.int (fun p25 H26 W27 => ?_)
        refine i_tnil ?_
        replace hm := bndE hm
        obtain ⟨x28, h29, hm⟩ := hm
        refine w_app W27 0 rfl (Kn.at 0 rfl) h29 (fun H30 W31 => ?_)
        dsimp only [List.set] at W31
        clear W23 W27
        refine i_seq ?_
        refine i_asg ?_
        refine i_var rfl ?_
        refine i_gName ?_
        refine i_asg ?_
        refine i_var rfl ?_
        refine i_gName ?_
        have W32 := Wd.sel W31 [4] rfl
        obtain rfl := some_inj hm
        exact ⟨(some (.int x9.2), some (.int x9.1)), rfl, W32⟩
      · refine i_bF hb24 ?_
        refine i_next ?_
        have W33 := Wd.sel W23 [3] rfl
        obtain rfl := some_inj hm
        exact ⟨(some (.int x9.2), some (.int x9.1)), rfl, W33⟩
    · intro e35 H36 W37
      obtain ⟨e35_0, e35_1⟩ := e35
      dsimp only at W37 ⊢
      refine i_ret ?_
      refine i_var rfl ?_
      have W39 := Wd.frz W37
      exact hq _ (some_inj hm) _ _ (Wd.res (x := (o12.2.1 : (List (Int × Int)))) W39 (Kn.at 0 rfl))
end
/-! ### paper_of_greatest -/
abbrev sp_paper_of_greatest (K : PySem.W.Frag) : Sp := fun vs H Q _ => ∃ (x_row : (List Int)) (v_row : V) (x_many : Int),  vs = [v_row, .int x_many] ∧ Rp.rep (lkA K H) x_row v_row ∧ ∃ r : (PySem.Str × (Un Int (List (Int × Int)))), m_paper_of_greatest x_row x_many = some r ∧ ∀ v' H', Res K H r v' H' → Q v' H'
section
variable {P : Program} {w : World} {K : PySem.W.Frag} {mg : Str → Option Value} {base : Heap}
abbrev N_paper_of_greatest : List Str := ["row", "many", "bound"]
theorem scope_paper_of_greatest : FnScope N_paper_of_greatest ["row", "many"] (defScope s_paper_of_greatest) := ⟨rfl, rfl, rfl, by decide +kernel, rfl, by decide +kernel, by decide +kernel⟩
theorem ok_paper_of_greatest {f : Addr} {fd : FuncData} (F : FunD K "paper_of_greatest" "paper_of_greatest" (defArgs s_paper_of_greatest) (defBody s_paper_of_greatest) (defScope s_paper_of_greatest) [] [] f fd) (hm : mg "paper_of_greatest" = some (.ref f)) (Z : Blt mg) (SM : SMd base) (XX : Exs K mg es6)
    (C_stretches_to : Fn P w K mg base 1 "stretches_to" ["row", "bound"] (sp_stretches_to K))
    (C_least_greatest : Fn P w K mg base 4 "least_greatest" ["row", "many"] (sp_least_greatest K))
    (C_need_pieces_papers : Fn P w K mg base 2 "need_pieces_papers" ["row", "many"] (sp_need_pieces_papers K)) :
    Fn P w K mg base 5 "paper_of_greatest" ["row", "many"] (sp_paper_of_greatest K) := by
  refine mkFn F hm (fun _ _ _ _ _ _ us hl => match us, hl with | [_, _], _ => rfl) (okG (k := 4) F scope_paper_of_greatest (fun vs H0 Q E h => ?_) (fun cdv A outer s H0 vs Q E hr hgd h => ?_))
  · obtain ⟨_, _, _, rfl, _⟩ := h; rfl
  · have nd := scope_paper_of_greatest.nd
    have hu := hr.units
    have hr_stretches_to : Room 1 _ := hr.mono (by decide : 1 ≤ 4)
    have hr_least_greatest : Room 4 _ := hr.mono (by decide : 4 ≤ 4)
    have hr_need_pieces_papers : Room 2 _ := hr.mono (by decide : 2 ≤ 4)
    unfold sp_paper_of_greatest at h
    refine ⟨_, PSs.nox (pss_cons (ps_expr (pe_fn C_need_pieces_papers hr_need_pieces_papers hgd (by rfl) passL (pa_cons (pv 0) (pa_cons (pv 1) pa_nil))))
    (pss_cons (ps_set (i := 2) nd rfl (.inl rfl) (pe_ix ix_seq (pe_fn C_least_greatest hr_least_greatest hgd (by rfl) passL (pa_cons (pv 0) (pa_cons (pv 1) pa_nil))) pe_int (fun _ _ => rfl)))
    (pss_cons (ps_if (pt_cmpR op_in_seq (pv 2) (pv 0) (by rfl)) (pss_one (ps_ret (pe_tup (pa_cons pe_str (pa_cons (pe_bmK (K := K) PySem.F.plainAttrs_list PySem.F.slot_list_index PySem.F.type_list_index mt_index (pv 0) (pa_cons (pv 2) pa_nil)) pa_nil))))) pss_nil)
    (pss_one (ps_ret (pe_tup (pa_cons pe_str (pa_cons (pe_slice sl_list (pe_fn C_stretches_to hr_stretches_to hgd (by rfl) passL (pa_cons (pv 0) (pa_cons (pv 2) pa_nil))) po_none (po_some (pv 1))) pa_nil)))))))), ?_⟩
    (try dsimp only [cxOf])
    obtain ⟨x_row, v_row, x_many, rfl, h_row, r0, hm, q⟩ := h
    let G_ : (PySem.Str × (Un Int (List (Int × Int)))) → Prop := fun r => ∀ v' H', Res K H0 r v' H' → Q v' H'
    have hq : ∀ r, r = r0 → G_ r := fun r e => by subst e; exact q
    clear q
    unfold m_paper_of_greatest at hm
    have W0 := Wd.start (K := K) H0
    have W1 := Wd.arg W0 h_row
    obtain ⟨a2, rfl⟩ := Wd.eqL W1 (Kn.at 0 rfl)
    refine i_seq ?_
    refine i_drop ?_
    refine i_call ?_
    refine i_tcons ?_
    refine i_var rfl ?_
    refine i_tcons ?_
    refine i_var rfl ?_
    refine i_tnil ?_
    replace hm := bndE hm
    obtain ⟨r3, h4, hm⟩ := hm
    refine ⟨(x_row : (List Int)), _, x_many, rfl, (Wd.arr W1 (Ar.kn (t := false) (Kn.at 0 rfl))), r3, h4, fun v5 H6 R7 => ?_⟩
    obtain ⟨rfl, W8⟩ := Wd.callU W1 R7
    clear W0 W1
    refine i_seq ?_
    refine i_asg ?_
    refine i_op ?_
    refine i_call ?_
    refine i_tcons ?_
    refine i_var rfl ?_
    refine i_tcons ?_
    refine i_var rfl ?_
    refine i_tnil ?_
    replace hm := bndE hm
    obtain ⟨r9, h10, hm⟩ := hm
    refine ⟨(x_row : (List Int)), _, x_many, rfl, (Wd.arr W8 (Ar.kn (t := false) (Kn.at 0 rfl))), r9, h10, fun v11 H12 R13 => ?_⟩
    have W14 := Wd.call W8 R13
    obtain ⟨a15, rfl⟩ := Wd.eqP W14 (Kn.at 0 rfl)
    refine i_c ?_
    refine w_fstP W14 (Kn.at 0 rfl) (fun u16 W17 => ?_)
    obtain rfl := Wd.eqI W17 (Kn.at 0 rfl)
    refine i_gName ?_
    clear W8 W14
    refine i_seq ?_
    refine i_ifS ?_
    refine i_test ?_
    refine i_op ?_
    refine i_var rfl ?_
    refine i_var rfl ?_
    refine w_in W17 (Lx.ls (Lx.flat (t := true) (Lx.kn (Kn.at 2 rfl)))) ?_
    refine i_bl ?_
    rcases iteE hm with ⟨hb18, hm⟩ | ⟨hb18, hm⟩
    · refine i_bT hb18 ?_
      refine i_ret ?_
      refine i_ttup ?_
      refine i_tcons ?_
      refine i_c ?_
      refine i_tcons ?_
      refine i_bm ?_
      refine i_var rfl ?_
      refine w_mt W17 (Lx.ls (Lx.flat (t := true) (Lx.kn (Kn.at 2 rfl)))) ?_
      refine i_tcons ?_
      refine i_var rfl ?_
      refine i_tnil ?_
      replace hm := bndE hm
      obtain ⟨x19, h20, hm⟩ := hm
      refine w_index W17 (Lx.ls (Lx.flat (t := true) (Lx.kn (Kn.at 2 rfl)))) h20 ?_
      refine i_tnil ?_
      refine w_tup2 (t := true) W17 Kn.str Kn.int (fun p21 H22 W23 => ?_)
      exact hq _ (some_inj hm) _ _ (Wd.res (x := ((Co.f (("number" : PySem.Str), x19) : (PySem.Str × (Un Int (List (Int × Int))))) : (PySem.Str × (Un Int (List (Int × Int)))))) W23 (Kn.co (β := (PySem.Str × (Un Int (List (Int × Int))))) (Kn.at 0 rfl)))
    · refine i_bF hb18 ?_
      refine i_next ?_
      refine i_ret ?_
      refine i_ttup ?_
      refine i_tcons ?_
      refine i_c ?_
      refine i_tcons ?_
      refine i_sl ?_
      refine i_call ?_
      refine i_tcons ?_
      refine i_var rfl ?_
      refine i_tcons ?_
      refine i_var rfl ?_
      refine i_tnil ?_
      replace hm := bndE hm
      obtain ⟨r24, h25, hm⟩ := hm
      refine ⟨(x_row : (List Int)), _, r9.1, rfl, (Wd.arr W17 (Ar.kn (t := false) (Kn.at 2 rfl))), r24, h25, fun v26 H27 R28 => ?_⟩
      have W29 := Wd.call W17 R28
      obtain ⟨a30, rfl⟩ := Wd.eqL W29 (Kn.at 0 rfl)
      refine i_nopart ?_
      refine i_part ?_
      refine i_var rfl ?_
      refine i_partI ?_
      refine w_slice W29 (Lx.ls (Lx.kn (Kn.at 0 rfl))) (fun p31 H32 W33 => ?_)
      have W34 := Wd.frz W33
      refine i_tnil ?_
      refine w_tup2 (t := true) W34 Kn.str (Kn.at 0 rfl) (fun p35 H36 W37 => ?_)
      exact hq _ (some_inj hm) _ _ (Wd.res (x := ((Co.f (("stretches" : PySem.Str), (sliceI r24 none (some x_many))) : (PySem.Str × (Un Int (List (Int × Int))))) : (PySem.Str × (Un Int (List (Int × Int)))))) W37 (Kn.co (β := (PySem.Str × (Un Int (List (Int × Int))))) (Kn.at 0 rfl)))
end
/-! ### are_stretches -/
abbrev sp_are_stretches (K : PySem.W.Frag) : Sp := fun vs H Q _ => ∃ (x_row : (List Int)) (v_row : V) (x_thing : Th) (v_thing : V),  vs = [v_row, v_thing] ∧ Rp.rep (lkA K H) x_row v_row ∧ Rp.rep (lkA K H) x_thing v_thing ∧ ∃ r : Bool, m_are_stretches x_row x_thing = some r ∧ ∀ v' H', Res K H r v' H' → Q v' H'
section
variable {P : Program} {w : World} {K : PySem.W.Frag} {mg : Str → Option Value} {base : Heap}
abbrev N_are_stretches : List Str := ["row", "thing", "ahead", "one"]
theorem scope_are_stretches : FnScope N_are_stretches ["row", "thing"] (defScope s_are_stretches) := ⟨rfl, rfl, rfl, by decide +kernel, rfl, by decide +kernel, by decide +kernel⟩
theorem ok_are_stretches {f : Addr} {fd : FuncData} (F : FunD K "are_stretches" "are_stretches" (defArgs s_are_stretches) (defBody s_are_stretches) (defScope s_are_stretches) [] [] f fd) (hm : mg "are_stretches" = some (.ref f)) (Z : Blt mg) (SM : SMd base) (XX : Exs K mg es6)
    (C_is_among : Fn P w K mg base 1 "is_among" ["thing", "low", "high"] (sp_is_among K)) :
    Fn P w K mg base 2 "are_stretches" ["row", "thing"] (sp_are_stretches K) := by
  refine mkFn F hm (fun _ _ _ _ _ _ us hl => match us, hl with | [_, _], _ => rfl) (okG (k := 1) F scope_are_stretches (fun vs H0 Q E h => ?_) (fun cdv A outer s H0 vs Q E hr hgd h => ?_))
  · obtain ⟨_, _, _, _, rfl, _⟩ := h; rfl
  · have nd := scope_are_stretches.nd
    have hu := hr.units
    have hr_is_among : Room 1 _ := hr.mono (by decide : 1 ≤ 1)
    unfold sp_are_stretches at h
    refine ⟨_, PSs.nox (pss_cons (ps_if (pt_not (pt_val (pe_callB call_isX (by rfl) Z.isinstance_ (by decide +kernel) (pa_cons (pv 1) (pa_cons (pe_bltn (v := .ty "list") (by rfl) Z.list_ (by decide +kernel) rfl) pa_nil))))) (pss_one (ps_ret pe_bl)) pss_nil)
    (pss_cons (ps_set (i := 2) nd rfl (.inl rfl) pe_int)
    (pss_cons (ps_for PassesOwn.never rfl (pi_list (pv 1)) (pg_name (i := 3) nd rfl (.inl rfl)) (pss_cons (ps_if (PW.pt (pw_or (pt_not (pt_val (pe_callB call_isX (by rfl) Z.isinstance_ (by decide +kernel) (pa_cons (pv 3) (pa_cons (pe_bltn (v := .ty "tuple") (by rfl) Z.tuple_ (by decide +kernel) rfl) pa_nil))))) (pw_or1 (pt_cmpR (op_neA hu) (pe_callB cl_len (by rfl) Z.len_ (by decide +kernel) (pa_cons (pv 3) pa_nil)) pe_int (nomark _))))) (pss_one (ps_ret pe_bl)) pss_nil)
    (pss_cons (ps_if (PW.pt (pw_or (pt_not (pt_val (pe_fn C_is_among hr_is_among hgd (by rfl) passL (pa_cons (pe_ix ix_seq (pv 3) pe_int (fun _ _ => rfl)) (pa_cons (pv 2) (pa_cons (pe_callB cl_len (by rfl) Z.len_ (by decide +kernel) (pa_cons (pv 0) pa_nil)) pa_nil)))))) (pw_or1 (pt_not (pt_val (pe_fn C_is_among hr_is_among hgd (by rfl) passL (pa_cons (pe_ix ix_seq (pv 3) pe_int (fun _ _ => rfl)) (pa_cons (pe_op op_addTh (pe_ix ix_seq (pv 3) pe_int (fun _ _ => rfl)) pe_int) (pa_cons (pe_callB cl_len (by rfl) Z.len_ (by decide +kernel) (pa_cons (pv 0) pa_nil)) pa_nil))))))))) (pss_one (ps_ret pe_bl)) pss_nil)
    (pss_one (ps_set (i := 2) nd rfl (.inl rfl) (pe_op op_sub (pe_ix ix_seq (pv 3) pe_int (fun _ _ => rfl)) pe_int))))))
    (pss_one (ps_ret pe_bl))))), ?_⟩
    (try dsimp only [cxOf])
    obtain ⟨x_row, v_row, x_thing, v_thing, rfl, h_row, h_thing, r0, hm, q⟩ := h
    let G_ : Bool → Prop := fun r => ∀ v' H', Res K H0 r v' H' → Q v' H'
    have hq : ∀ r, r = r0 → G_ r := fun r e => by subst e; exact q
    clear q
    unfold m_are_stretches at hm
    have W0 := Wd.start (K := K) H0
    have W1 := Wd.arg W0 h_row
    obtain ⟨a2, rfl⟩ := Wd.eqL W1 (Kn.at 0 rfl)
    have W3 := Wd.arg W1 h_thing
    refine i_seq ?_
    refine i_ifS ?_
    refine i_not ?_
    refine i_tB ?_
    refine i_cb ?_
    refine i_tcons ?_
    refine i_var rfl ?_
    refine i_tcons ?_
    refine i_c ?_
    refine i_tnil ?_
    refine w_isiT W3 (Ar.kn (t := false) (Kn.at 0 rfl)) (by simp) ?_
    refine i_bl ?_
    clear W0 W1
    rcases iteE hm with ⟨hb4, hm⟩ | ⟨hb4, hm⟩
    · refine i_bT hb4 ?_
      refine i_ret ?_
      refine i_c ?_
      exact hq _ (some_inj hm) _ _ (Wd.res (x := (false : Bool)) W3 Kn.bl)
    · refine i_bF hb4 ?_
      refine i_next ?_
      refine i_seq ?_
      refine i_asg ?_
      refine i_c ?_
      refine i_gName ?_
      refine i_seq ?_
      refine i_for ?_
      refine i_iList ?_
      refine i_var rfl ?_
      replace hm := bndE hm
      obtain ⟨x5, h6, hm⟩ := hm
      have W7 := Wd.thL (t := false) W3 (Kn.at 0 rfl) h6
      obtain ⟨a8, rfl⟩ := Wd.eqL W7 (Kn.at 0 rfl)
      refine w_itL W7 (Lx.ls (Lx.kn (Kn.at 0 rfl))) ?_
      clear W3
      have W9 := Wd.sel W7 [0, 2] rfl
      replace hm := bndE hm
      obtain ⟨o15, h16, hm⟩ := hm
      have hqi : ∀ r, o15 = .ret r → G_ r := fun r er => by subst er; exact hq _ (some_inj hm)
      refine w_for (⟨fun b e => [some (.ref a2), some (.ref a8), some (.int b), e], fun b e => [fc false (x5 : (List Th)) (.ref a8), fc false (x_row : (List Int)) (.ref a2)], fun b e => []⟩ : Shp (Int) (Option V)) none h16 rfl W9 (gv_list (fun _ _ => (Lx.ls (Lx.kn (Kn.at 0 rfl))))) ?_ ?_
      · intro x12 v13 b10 e11_0 H17 o18 W14 hm hr19
        have hqii : ∀ r, o18 = .ret r → G_ r := fun r er => hqi r (hr19 r er)
        dsimp only at W14 ⊢
        refine i_gName ?_
        refine i_seq ?_
        refine i_ifS ?_
        refine i_or ?_
        refine i_not ?_
        refine i_tB ?_
        refine i_cb ?_
        refine i_tcons ?_
        refine i_var rfl ?_
        refine i_tcons ?_
        refine i_c ?_
        refine i_tnil ?_
        refine w_isiT W14 (Ar.kn (t := false) (Kn.at 0 rfl)) (by simp) ?_
        refine i_bl ?_
        replace hm := bndE hm
        obtain ⟨x28, h29, hm⟩ := hm
        refine w_orW (L' := []) x28 W14 (fun hb23 P24 hP25 => ?_) (fun hb23 => ?_) (fun H30 W31 => ?_)
        · have hm : _ = some x28 := (if_neg (by rw [hb23]; exact Bool.false_ne_true)).symm.trans h29
          refine i_test ?_
          refine i_op ?_
          refine i_cb ?_
          refine i_tcons ?_
          refine i_var rfl ?_
          refine i_tnil ?_
          replace hm := bndE hm
          obtain ⟨x26, h27, hm⟩ := hm
          refine w_lenTh W14 (Kn.at 0 rfl) h27 ?_
          refine i_c ?_
          refine i_neI ?_
          refine i_bl ?_
          have hm := some_inj hm
          exact hP25 _ _ hm W14
        · have hm := some_inj ((if_pos hb23).symm.trans h29)
          exact ⟨hm, W14⟩
        clear W14
        rcases iteE hm with ⟨hb33, hm⟩ | ⟨hb33, hm⟩
        · refine i_bT hb33 ?_
          refine i_ret ?_
          refine i_c ?_
          exact hqii _ (some_inj hm).symm _ _ (Wd.res (x := (false : Bool)) W31 Kn.bl)
        · refine i_bF hb33 ?_
          refine i_next ?_
          refine i_seq ?_
          refine i_ifS ?_
          refine i_or ?_
          refine i_not ?_
          refine i_tB ?_
          refine i_call ?_
          refine i_tcons ?_
          refine i_op ?_
          refine i_var rfl ?_
          refine i_c ?_
          replace hm := bndE hm
          obtain ⟨x34, h35, hm⟩ := hm
          refine w_ixTh W31 (Kn.at 0 rfl) h35 (fun u36 W37 => ?_)
          refine i_tcons ?_
          refine i_var rfl ?_
          refine i_tcons ?_
          refine i_cb ?_
          refine i_tcons ?_
          refine i_var rfl ?_
          refine i_tnil ?_
          refine w_len W37 (Lx.ls (Lx.flat (t := true) (Lx.kn (Kn.at 3 rfl)))) ?_
          refine i_tnil ?_
          replace hm := bndE hm
          obtain ⟨r38, h39, hm⟩ := hm
          refine ⟨(x34 : Th), _, b10, (lenI x_row), rfl, (Wd.arr W37 (Ar.kn (t := false) (Kn.at 0 rfl))), r38, h39, fun v40 H41 R42 => ?_⟩
          obtain ⟨rfl, W43⟩ := Wd.callB W37 R42
          refine i_bl ?_
          replace hm := bndE hm
          obtain ⟨x64, h65, hm⟩ := hm
          refine w_orW (L' := []) x64 W43 (fun hb44 P45 hP46 => ?_) (fun hb44 => ?_) (fun H66 W67 => ?_)
          · have hm : _ = some x64 := (if_neg (by rw [hb44]; exact Bool.false_ne_true)).symm.trans h65
            refine i_not ?_
            refine i_tB ?_
            refine i_call ?_
            refine i_tcons ?_
            refine i_op ?_
            refine i_var rfl ?_
            refine i_c ?_
            replace hm := bndE hm
            obtain ⟨x47, h48, hm⟩ := hm
            refine w_ixTh W43 (Kn.at 1 rfl) h48 (fun u49 W50 => ?_)
            refine i_tcons ?_
            refine i_op ?_
            refine i_op ?_
            refine i_var rfl ?_
            refine i_c ?_
            replace hm := bndE hm
            obtain ⟨x51, h52, hm⟩ := hm
            refine w_ixTh W50 (Kn.at 2 rfl) h52 (fun u53 W54 => ?_)
            refine i_c ?_
            replace hm := bndE hm
            obtain ⟨x55, h56, hm⟩ := hm
            refine w_addTh (t := false) W54 (Kn.at 0 rfl) h56 ?_
            refine i_tcons ?_
            refine i_cb ?_
            refine i_tcons ?_
            refine i_var rfl ?_
            refine i_tnil ?_
            refine w_len W54 (Lx.ls (Lx.flat (t := true) (Lx.kn (Kn.at 5 rfl)))) ?_
            refine i_tnil ?_
            replace hm := bndE hm
            obtain ⟨r57, h58, hm⟩ := hm
            refine ⟨(x47 : Th), _, (x55 + 2), (lenI x_row), rfl, (Wd.arr W54 (Ar.kn (t := false) (Kn.at 1 rfl))), r57, h58, fun v59 H60 R61 => ?_⟩
            obtain ⟨rfl, W62⟩ := Wd.callB W54 R61
            refine i_bl ?_
            have W63 := Wd.drop W62 2 rfl
            have hm := some_inj hm
            exact hP46 _ _ hm W63
          · have hm := some_inj ((if_pos hb44).symm.trans h65)
            exact ⟨hm, W43⟩
          clear W31 W37 W43
          rcases iteE hm with ⟨hb69, hm⟩ | ⟨hb69, hm⟩
          · refine i_bT hb69 ?_
            refine i_ret ?_
            refine i_c ?_
            exact hqii _ (some_inj hm).symm _ _ (Wd.res (x := (false : Bool)) W67 Kn.bl)
          · refine i_bF hb69 ?_
            refine i_next ?_
            refine i_asg ?_
            refine i_op ?_
            refine i_op ?_
            refine i_var rfl ?_
            refine i_c ?_
            replace hm := bndE hm
            obtain ⟨x70, h71, hm⟩ := hm
            refine w_ixTh W67 (Kn.at 1 rfl) h71 (fun u72 W73 => ?_)
            refine i_c ?_
            replace hm := bndE hm
            obtain ⟨x74, h75, hm⟩ := hm
            have W76 := Wd.thI (t := false) W73 (Kn.at 0 rfl) h75
            obtain rfl := Wd.eqI W76 (Kn.at 0 rfl)
            refine i_I0 ?_
            refine i_gName ?_
            clear W67 W73
            have W77 := Wd.sel W76 [4, 5] rfl
            exact ⟨(x74 - 1), some v13, (some_inj hm).symm, rfl, W77⟩
      · intro s78 e79_0 H80 eb82 W81
        subst eb82
        dsimp only at W81 ⊢
        refine i_ret ?_
        refine i_c ?_
        exact hq _ (some_inj hm) _ _ (Wd.res (x := (true : Bool)) W81 Kn.bl)
end
/-! ### says_greatest -/
abbrev sp_says_greatest (K : PySem.W.Frag) : Sp := fun vs H Q _ => ∃ (x_row : (List Int)) (v_row : V) (x_many : Int) (x_thing : Th) (v_thing : V),  vs = [v_row, .int x_many, v_thing] ∧ Rp.rep (lkA K H) x_row v_row ∧ Rp.rep (lkA K H) x_thing v_thing ∧ ∃ r : (Option Int), m_says_greatest x_row x_many x_thing = some r ∧ ∀ v' H', Res K H r v' H' → Q v' H'
section
variable {P : Program} {w : World} {K : PySem.W.Frag} {mg : Str → Option Value} {base : Heap}
abbrev N_says_greatest : List Str := ["row", "many", "thing", "word", "told", "begin", "end"]
theorem scope_says_greatest : FnScope N_says_greatest ["row", "many", "thing"] (defScope s_says_greatest) := ⟨rfl, rfl, rfl, by decide +kernel, rfl, by decide +kernel, by decide +kernel⟩
-- comprehension scope 0
theorem ok_says_greatest {f : Addr} {fd : FuncData} (F : FunD K "says_greatest" "says_greatest" (defArgs s_says_greatest) (defBody s_says_greatest) (defScope s_says_greatest) [] [] f fd) (hm : mg "says_greatest" = some (.ref f)) (Z : Blt mg) (SM : SMd base) (XX : Exs K mg es6)
    (C_are_stretches : Fn P w K mg base 2 "are_stretches" ["row", "thing"] (sp_are_stretches K))
    (C_is_among : Fn P w K mg base 1 "is_among" ["thing", "low", "high"] (sp_is_among K))
    (C_need_pieces_papers : Fn P w K mg base 2 "need_pieces_papers" ["row", "many"] (sp_need_pieces_papers K)) :
    Fn P w K mg base 3 "says_greatest" ["row", "many", "thing"] (sp_says_greatest K) := by
  refine mkFn F hm (fun _ _ _ _ _ _ us hl => match us, hl with | [_, _, _], _ => rfl) (okG (k := 2) F scope_says_greatest (fun vs H0 Q E h => ?_) (fun cdv A outer s H0 vs Q E hr hgd h => ?_))
  · obtain ⟨_, _, _, _, _, rfl, _⟩ := h; rfl
  · have nd := scope_says_greatest.nd
    have hu := hr.units
    have hr_are_stretches : Room 2 _ := hr.mono (by decide : 2 ≤ 2)
    have hr_is_among : Room 1 _ := hr.mono (by decide : 1 ≤ 2)
    have hr_need_pieces_papers : Room 2 _ := hr.mono (by decide : 2 ≤ 2)
    unfold sp_says_greatest at h
    refine ⟨_, PSs.nox (pss_cons (ps_expr (pe_fn C_need_pieces_papers hr_need_pieces_papers hgd (by rfl) passL (pa_cons (pv 0) (pa_cons (pv 1) pa_nil))))
    (pss_cons (ps_if (PW.pt (pw_or (pt_not (pt_val (pe_callB call_isX (by rfl) Z.isinstance_ (by decide +kernel) (pa_cons (pv 2) (pa_cons (pe_bltn (v := .ty "tuple") (by rfl) Z.tuple_ (by decide +kernel) rfl) pa_nil))))) (pw_or (pt_cmpR (op_neA hu) (pe_callB cl_len (by rfl) Z.len_ (by decide +kernel) (pa_cons (pv 2) pa_nil)) pe_int (nomark _)) (pw_or1 (pt_not (pt_val (pe_callB call_isX (by rfl) Z.isinstance_ (by decide +kernel) (pa_cons (pe_ix ix_seq (pv 2) pe_int (fun _ _ => rfl)) (pa_cons (pe_bltn (v := .ty "str") (by rfl) Z.str_ (by decide +kernel) rfl) pa_nil))))))))) (pss_one (ps_ret pe_non)) pss_nil)
    (pss_cons (ps_asg (pv 2) (pg_tup (by rfl) (pgs_cons (pg_name (i := 3) nd rfl (.inl rfl)) (pgs_cons (pg_name (i := 4) nd rfl (.inl rfl)) pgs_nil))))
    (pss_cons (ps_if (PW.pt (pw_and (pt_cmpR (op_eqA hu) (pv 3) pe_str (nomark _)) (pw_and1 (pt_val (pe_fn C_is_among hr_is_among hgd (by rfl) passL (pa_cons (pv 4) (pa_cons pe_int (pa_cons (pe_op op_sub (pe_callB cl_len (by rfl) Z.len_ (by decide +kernel) (pa_cons (pv 0) pa_nil)) pe_int) pa_nil)))))))) (pss_one (ps_ret (pe_ix ix_seq (pv 0) (pv 4) (fun _ _ => rfl)))) pss_nil)
    (pss_cons (ps_if (PW.pt (pw_and (pt_cmpR (op_eqA hu) (pv 3) pe_str (nomark _)) (pw_and (pt_val (pe_fn C_are_stretches hr_are_stretches hgd (by rfl) passL (pa_cons (pv 0) (pa_cons (pv 4) pa_nil)))) (pw_and1 (pt_cmpR (op_eqA hu) (pe_callB cl_len (by rfl) Z.len_ (by decide +kernel) (pa_cons (pv 4) pa_nil)) (pv 1) (nomark _)))))) (pss_one (ps_ret (pe_callB (cr_minA rfl hu) (by rfl) Z.min_ (by decide +kernel) (pa_cons (pe_lc (own := [("begin", 5), ("end", 6)]) (g := gTup K 2 (gCons (gName 5) (gCons (gName 6) (gNil)))) (tt := tYes) (by rfl) nd (pi_list (pv 4)) (blkOk_by (own := [("begin", 5), ("end", 6)]) (N := N_says_greatest) (sc := (defScope s_says_greatest)) (by decide +kernel)) (fun _ _ _ _ _ => (pg_tup (by rfl) (pgs_cons (pg_name (i := 5) nd rfl (.inl rfl)) (pgs_cons (pg_name (i := 6) nd rfl (.inl rfl)) pgs_nil)))) (fun _ _ _ _ _ => pts_nil) (fun _ _ _ _ _ => (pe_callB (r := rSum K) (cr_sum rfl) (by rfl) Z.sum_ (by decide +kernel) (pa_cons (pe_slice (r := rSlL K) sl_list (pv 0) (po_some (pv 5)) (po_some (pv 6))) pa_nil)))) pa_nil)))) pss_nil)
    (pss_one (ps_ret pe_non))))))), ?_⟩
    (try dsimp only [cxOf])
    obtain ⟨x_row, v_row, x_many, x_thing, v_thing, rfl, h_row, h_thing, r0, hm, q⟩ := h
    let G_ : (Option Int) → Prop := fun r => ∀ v' H', Res K H0 r v' H' → Q v' H'
    have hq : ∀ r, r = r0 → G_ r := fun r e => by subst e; exact q
    clear q
    unfold m_says_greatest at hm
    have W0 := Wd.start (K := K) H0
    have W1 := Wd.arg W0 h_row
    obtain ⟨a2, rfl⟩ := Wd.eqL W1 (Kn.at 0 rfl)
    have W3 := Wd.arg W1 h_thing
    refine i_seq ?_
    refine i_drop ?_
    refine i_call ?_
    refine i_tcons ?_
    refine i_var rfl ?_
    refine i_tcons ?_
    refine i_var rfl ?_
    refine i_tnil ?_
    replace hm := bndE hm
    obtain ⟨r4, h5, hm⟩ := hm
    refine ⟨(x_row : (List Int)), _, x_many, rfl, (Wd.arr W3 (Ar.kn (t := false) (Kn.at 1 rfl))), r4, h5, fun v6 H7 R8 => ?_⟩
    obtain ⟨rfl, W9⟩ := Wd.callU W3 R8
    clear W0 W1 W3
    refine i_seq ?_
    refine i_ifS ?_
    refine i_or ?_
    refine i_not ?_
    refine i_tB ?_
    refine i_cb ?_
    refine i_tcons ?_
    refine i_var rfl ?_
    refine i_tcons ?_
    refine i_c ?_
    refine i_tnil ?_
    refine w_isiT W9 (Ar.kn (t := false) (Kn.at 0 rfl)) (by simp) ?_
    refine i_bl ?_
    replace hm := bndE hm
    obtain ⟨x28, h29, hm⟩ := hm
    refine w_orW (L' := []) x28 W9 (fun hb10 P11 hP12 => ?_) (fun hb10 => ?_) (fun H30 W31 => ?_)
    · have hm : _ = some x28 := (if_neg (by rw [hb10]; exact Bool.false_ne_true)).symm.trans h29
      refine i_or ?_
      refine i_test ?_
      refine i_op ?_
      refine i_cb ?_
      refine i_tcons ?_
      refine i_var rfl ?_
      refine i_tnil ?_
      replace hm := bndE hm
      obtain ⟨x13, h14, hm⟩ := hm
      refine w_lenTh W9 (Kn.at 0 rfl) h14 ?_
      refine i_c ?_
      refine i_neI ?_
      refine i_bl ?_
      replace hm := bndE hm
      obtain ⟨x23, h24, hm⟩ := hm
      refine w_orW (L' := []) x23 W9 (fun hb15 P16 hP17 => ?_) (fun hb15 => ?_) (fun H25 W26 => ?_)
      · have hm : _ = some x23 := (if_neg (by rw [hb15]; exact Bool.false_ne_true)).symm.trans h24
        refine i_not ?_
        refine i_tB ?_
        refine i_cb ?_
        refine i_tcons ?_
        refine i_op ?_
        refine i_var rfl ?_
        refine i_c ?_
        replace hm := bndE hm
        obtain ⟨x18, h19, hm⟩ := hm
        refine w_ixTh W9 (Kn.at 0 rfl) h19 (fun u20 W21 => ?_)
        refine i_tcons ?_
        refine i_c ?_
        refine i_tnil ?_
        refine w_isiT W21 (Ar.kn (t := false) (Kn.at 0 rfl)) (by simp) ?_
        refine i_bl ?_
        have W22 := Wd.drop W21 1 rfl
        have hm := some_inj hm
        exact hP17 _ _ hm W22
      · have hm := some_inj ((if_pos hb15).symm.trans h24)
        exact ⟨hm, W9⟩
      have hm := some_inj hm
      exact hP12 _ _ hm W26
    · have hm := some_inj ((if_pos hb10).symm.trans h29)
      exact ⟨hm, W9⟩
    clear W9
    rcases iteE hm with ⟨hb33, hm⟩ | ⟨hb33, hm⟩
    · refine i_bT hb33 ?_
      refine i_ret ?_
      refine i_c ?_
      exact hq _ (some_inj hm) _ _ (Wd.res (x := ((none : (Option Int)) : (Option Int))) W31 Kn.none)
    · refine i_bF hb33 ?_
      refine i_next ?_
      refine i_seq ?_
      refine i_asg ?_
      refine i_var rfl ?_
      replace hm := bndE hm
      obtain ⟨x34, h35, hm⟩ := hm
      have W36 := Wd.thP (t := false) W31 (Kn.at 0 rfl) h35
      obtain ⟨a37, rfl⟩ := Wd.eqP W36 (Kn.at 0 rfl)
      refine i_gTup ?_
      refine w_unpP W36 (Kn.at 0 rfl) (fun u38 u39 W40 => ?_)
      refine i_gCons ?_
      refine i_gName ?_
      refine i_gCons ?_
      refine i_gName ?_
      refine i_gNil ?_
      clear W31 W36
      refine i_seq ?_
      refine i_ifS ?_
      refine i_and ?_
      refine i_test ?_
      refine i_op ?_
      refine i_var rfl ?_
      refine i_c ?_
      replace hm := bndE hm
      obtain ⟨x41, h42, hm⟩ := hm
      refine w_eqT W40 (Ar.kn (t := false) (Kn.at 0 rfl)) (Ar.kn (t := true) Kn.str) h42 ?_
      refine i_bl ?_
      replace hm := bndE hm
      obtain ⟨x52, h53, hm⟩ := hm
      refine w_andW (L' := []) x52 W40 (fun hb43 P44 hP45 => ?_) (fun hb43 => ?_) (fun H54 W55 => ?_)
      · have hm : _ = some x52 := (if_pos hb43).symm.trans h53
        refine i_tB ?_
        refine i_call ?_
        refine i_tcons ?_
        refine i_var rfl ?_
        refine i_tcons ?_
        refine i_c ?_
        refine i_tcons ?_
        refine i_op ?_
        refine i_cb ?_
        refine i_tcons ?_
        refine i_var rfl ?_
        refine i_tnil ?_
        refine w_len W40 (Lx.ls (Lx.flat (t := true) (Lx.kn (Kn.at 4 rfl)))) ?_
        refine i_c ?_
        refine i_I0 ?_
        refine i_tnil ?_
        replace hm := bndE hm
        obtain ⟨r46, h47, hm⟩ := hm
        refine ⟨(x34.2 : Th), _, 0, ((lenI x_row) - 1), rfl, (Wd.arr W40 (Ar.kn (t := false) (Kn.at 1 rfl))), r46, h47, fun v48 H49 R50 => ?_⟩
        obtain ⟨rfl, W51⟩ := Wd.callB W40 R50
        refine i_bl ?_
        have hm := some_inj hm
        exact hP45 _ _ hm W51
      · have hm := some_inj ((if_neg (by rw [hb43]; exact Bool.false_ne_true)).symm.trans h53)
        exact ⟨hm, W40⟩
      clear W40
      rcases iteE hm with ⟨hb57, hm⟩ | ⟨hb57, hm⟩
      · refine i_bT hb57 ?_
        refine i_ret ?_
        refine i_op ?_
        refine i_var rfl ?_
        refine i_var rfl ?_
        replace hm := bndE hm
        obtain ⟨x58, h59, hm⟩ := hm
        have W60 := Wd.thI (t := false) W55 (Kn.at 1 rfl) h59
        obtain rfl := Wd.eqI W60 (Kn.at 0 rfl)
        replace hm := bndE hm
        obtain ⟨x61, h62, hm⟩ := hm
        refine w_ixI W60 (Lx.ls (Lx.flat (t := true) (Lx.kn (Kn.at 5 rfl)))) h62 ?_
        exact hq _ (some_inj hm) _ _ (Wd.res (x := ((some x61) : (Option Int))) W60 (Kn.some Kn.int))
      · refine i_bF hb57 ?_
        refine i_next ?_
        refine i_seq ?_
        refine i_ifS ?_
        refine i_and ?_
        refine i_test ?_
        refine i_op ?_
        refine i_var rfl ?_
        refine i_c ?_
        replace hm := bndE hm
        obtain ⟨x63, h64, hm⟩ := hm
        refine w_eqT W55 (Ar.kn (t := false) (Kn.at 0 rfl)) (Ar.kn (t := true) Kn.str) h64 ?_
        refine i_bl ?_
        replace hm := bndE hm
        obtain ⟨x84, h85, hm⟩ := hm
        refine w_andW (L' := []) x84 W55 (fun hb65 P66 hP67 => ?_) (fun hb65 => ?_) (fun H86 W87 => ?_)
        · have hm : _ = some x84 := (if_pos hb65).symm.trans h85
          refine i_and ?_
          refine i_tB ?_
          refine i_call ?_
          refine i_tcons ?_
          refine i_var rfl ?_
          refine i_tcons ?_
          refine i_var rfl ?_
          refine i_tnil ?_
          replace hm := bndE hm
          obtain ⟨r68, h69, hm⟩ := hm
          refine ⟨(x_row : (List Int)), _, (x34.2 : Th), _, rfl, (Wd.arr W55 (Ar.kn (t := false) (Kn.at 4 rfl))), (Wd.arr W55 (Ar.kn (t := false) (Kn.at 1 rfl))), r68, h69, fun v70 H71 R72 => ?_⟩
          obtain ⟨rfl, W73⟩ := Wd.callB W55 R72
          refine i_bl ?_
          replace hm := bndE hm
          obtain ⟨x79, h80, hm⟩ := hm
          refine w_andW (L' := []) x79 W73 (fun hb74 P75 hP76 => ?_) (fun hb74 => ?_) (fun H81 W82 => ?_)
          · have hm : _ = some x79 := (if_pos hb74).symm.trans h80
            refine i_test ?_
            refine i_op ?_
            refine i_cb ?_
            refine i_tcons ?_
            refine i_var rfl ?_
            refine i_tnil ?_
            replace hm := bndE hm
            obtain ⟨x77, h78, hm⟩ := hm
            refine w_lenTh W73 (Kn.at 1 rfl) h78 ?_
            refine i_var rfl ?_
            refine i_eqI ?_
            refine i_bl ?_
            have hm := some_inj hm
            exact hP76 _ _ hm W73
          · have hm := some_inj ((if_neg (by rw [hb74]; exact Bool.false_ne_true)).symm.trans h80)
            exact ⟨hm, W73⟩
          have hm := some_inj hm
          exact hP67 _ _ hm W82
        · have hm := some_inj ((if_neg (by rw [hb65]; exact Bool.false_ne_true)).symm.trans h85)
          exact ⟨hm, W55⟩
        clear W55
        rcases iteE hm with ⟨hb89, hm⟩ | ⟨hb89, hm⟩
        · refine i_bT hb89 ?_
          refine i_ret ?_
          refine i_cb ?_
          refine i_tcons ?_
          refine i_lc ?_
          refine i_iList ?_
          refine i_var rfl ?_
          replace hm := bndE hm
          obtain ⟨x90, h91, hm⟩ := hm
          have W92 := Wd.thL (t := false) W87 (Kn.at 1 rfl) h91
          obtain ⟨a93, rfl⟩ := Wd.eqL W92 (Kn.at 0 rfl)
          refine w_itL W92 (Lx.ls (Lx.kn (Kn.at 0 rfl))) ?_
          replace hm := bndE hm
          obtain ⟨x125, h126, hm⟩ := hm
          refine w_map (γ := Int) true h126 W92 (fun _ => (gv_list (fun _ _ => (Lx.ls (Lx.kn (Kn.at 0 rfl)))))) (fun D96 x94 v95 acc97 H98 y99 ha100 W101 hm => ?_) (fun p122 H123 W124 => ?_)
          · replace hm := bndE hm
            obtain ⟨x103, h104, hm⟩ := hm
            have W105 := Wd.thP (t := false) W101 (Kn.at 0 rfl) h104
            obtain ⟨a106, rfl⟩ := Wd.eqP W105 (Kn.at 0 rfl)
            refine i_gTup ?_
            refine w_unpP W105 (Kn.at 0 rfl) (fun u107 u108 W109 => ?_)
            refine i_gCons ?_
            refine i_gName ?_
            refine i_gCons ?_
            refine i_gName ?_
            refine i_gNil ?_
            refine i_wipe rfl ?_
            refine i_yes ?_
            refine i_T ?_
            refine i_cb ?_
            refine i_tcons ?_
            refine i_sl ?_
            refine i_var rfl ?_
            refine i_part ?_
            refine i_var rfl ?_
            replace hm := bndE hm
            obtain ⟨x110, h111, hm⟩ := hm
            have W112 := Wd.thI (t := false) W109 (Kn.at 0 rfl) h111
            obtain rfl := Wd.eqI W112 (Kn.at 0 rfl)
            refine i_partI ?_
            refine i_part ?_
            refine i_var rfl ?_
            replace hm := bndE hm
            obtain ⟨x113, h114, hm⟩ := hm
            have W115 := Wd.thI (t := false) W112 (Kn.at 2 rfl) h114
            obtain rfl := Wd.eqI W115 (Kn.at 0 rfl)
            refine i_partI ?_
            refine w_slice W115 (Lx.ls (Lx.flat (t := true) (Lx.kn (Kn.at 11 rfl)))) (fun p116 H117 W118 => ?_)
            have W119 := Wd.frz W118
            refine i_tnil ?_
            refine w_sum W119 (Lx.ls (Lx.kn (Kn.at 0 rfl))) ?_
            obtain rfl := some_inj hm
            refine w_elt W119 Kn.int ha100 (fun H120 W121 => ?_)
            exact ⟨(), Wd.drop W121 7 rfl⟩
          have W127 := Wd.frz W124
          refine i_tnil ?_
          replace hm := bndE hm
          obtain ⟨x128, h129, hm⟩ := hm
          refine .inl (w_min W127 (Lx.ls (Lx.kn (Kn.at 0 rfl))) h129 ?_)
          exact hq _ (some_inj hm) _ _ (Wd.res (x := ((some x128) : (Option Int))) W127 (Kn.some Kn.int))
        · refine i_bF hb89 ?_
          refine i_next ?_
          refine i_ret ?_
          refine i_c ?_
          exact hq _ (some_inj hm) _ _ (Wd.res (x := ((none : (Option Int)) : (Option Int))) W87 Kn.none)
end
/-! ### ends_of -/
abbrev sp_ends_of (K : PySem.W.Frag) : Sp := fun vs H Q _ => ∃ (x_row : (List Int)) (v_row : V) (x_bound : Int),  vs = [v_row, .int x_bound] ∧ Rp.rep (lkA K H) x_row v_row ∧ ∃ r : (List Int), m_ends_of x_row x_bound = some r ∧ ∀ v' H', Res K H r v' H' → Q v' H'
section
variable {P : Program} {w : World} {K : PySem.W.Frag} {mg : Str → Option Value} {base : Heap}
abbrev N_ends_of : List Str := ["row", "bound", "found", "total", "place", "number"]
theorem scope_ends_of : FnScope N_ends_of ["row", "bound"] (defScope s_ends_of) := ⟨rfl, rfl, rfl, by decide +kernel, rfl, by decide +kernel, by decide +kernel⟩
theorem ok_ends_of {f : Addr} {fd : FuncData} (F : FunD K "ends_of" "ends_of" (defArgs s_ends_of) (defBody s_ends_of) (defScope s_ends_of) [] [] f fd) (hm : mg "ends_of" = some (.ref f)) (Z : Blt mg) (SM : SMd base) (XX : Exs K mg es6) :
    Fn P w K mg base 1 "ends_of" ["row", "bound"] (sp_ends_of K) := by
  refine mkFn F hm (fun _ _ _ _ _ _ us hl => match us, hl with | [_, _], _ => rfl) (okG (k := 0) F scope_ends_of (fun vs H0 Q E h => ?_) (fun cdv A outer s H0 vs Q E hr hgd h => ?_))
  · obtain ⟨_, _, _, rfl, _⟩ := h; rfl
  · have nd := scope_ends_of.nd
    have hu := hr.units
    unfold sp_ends_of at h
    refine ⟨_, PSs.nox (pss_cons (ps_set (i := 2) nd rfl (.inl rfl) (pe_lst pa_nil))
    (pss_cons (ps_set (i := 3) nd rfl (.inl rfl) pe_int)
    (pss_cons (ps_for PassesOwn.never rfl (pi_enum (by rfl) Z.enumerate_ (pa_cons (pv 0) pa_nil)) (pg_tup (by rfl) (pgs_cons (pg_name (i := 4) nd rfl (.inl rfl)) (pgs_cons (pg_name (i := 5) nd rfl (.inl rfl)) pgs_nil))) (pss_cons (ps_aug (i := 3) nd rfl (.inl rfl) (pv 5) ip_add)
    (pss_one (ps_if (pt_cmpR (op_geA hu) (pv 3) (pv 1) (nomark _)) (pss_cons (ps_expr (pe_bmK (K := K) PySem.F.plainAttrs_list PySem.F.slot_list_append PySem.F.type_list_append mt_append (pv 2) (pa_cons (pe_op op_addA (pv 4) pe_int) pa_nil)))
    (pss_one (ps_set (i := 3) nd rfl (.inl rfl) pe_int))) pss_nil))))
    (pss_one (ps_ret (pv 2)))))), ?_⟩
    (try dsimp only [cxOf])
    obtain ⟨x_row, v_row, x_bound, rfl, h_row, r0, hm, q⟩ := h
    let G_ : (List Int) → Prop := fun r => ∀ v' H', Res K H0 r v' H' → Q v' H'
    have hq : ∀ r, r = r0 → G_ r := fun r e => by subst e; exact q
    clear q
    unfold m_ends_of at hm
    have W0 := Wd.start (K := K) H0
    have W1 := Wd.arg W0 h_row
    obtain ⟨a2, rfl⟩ := Wd.eqL W1 (Kn.at 0 rfl)
    refine i_seq ?_
    refine i_asg ?_
    refine i_tlst ?_
    refine i_tnil ?_
    refine w_lst (α := Int) (t := true) W1 KnL.nil (by show (0 : Nat) ≤ sizeLine; decide) (fun p3 H4 W5 => ?_)
    refine i_gName ?_
    clear W0 W1
    refine i_seq ?_
    refine i_asg ?_
    refine i_c ?_
    refine i_gName ?_
    refine i_seq ?_
    refine i_for ?_
    refine i_iEnum ?_
    refine i_tcons ?_
    refine i_var rfl ?_
    refine i_tnil ?_
    refine w_en W5 (Lx.ls (Lx.flat (t := true) (Lx.kn (Kn.at 0 rfl)))) ?_
    have W6 := Wd.sel W5 [0] rfl
    replace hm := bndE hm
    obtain ⟨o12, h13, hm⟩ := hm
    refine w_fold (⟨fun b e => [some (.ref a2), some (.int x_bound), some (.ref p3), some (.int b.2), e.2, e.1], fun b e => [fc false (x_row : (List Int)) (.ref a2)], fun b e => [oL true p3 (b.1 : List Int)]⟩ : Shp ((List Int) × Int) (Option V × Option V)) (none, none) h13 rfl W6 (gv_enum (fun _ _ => (Lx.ls (Lx.flat (t := true) (Lx.kn (Kn.at 0 rfl)))))) ?_ ?_
    · intro x9 v10 b7 e8 H14 o15 W11 hm
      obtain ⟨e8_0, e8_1⟩ := e8
      dsimp only at W11 ⊢
      obtain ⟨a20, rfl⟩ := Wd.eqP W11 (Kn.at 0 rfl)
      refine i_gTup ?_
      refine w_unpP W11 (Kn.at 0 rfl) (fun u21 u22 W23 => ?_)
      obtain rfl := Wd.eqI W23 (Kn.at 0 rfl)
      obtain rfl := Wd.eqI W23 (Kn.at 1 rfl)
      refine i_gCons ?_
      refine i_gName ?_
      refine i_gCons ?_
      refine i_gName ?_
      refine i_gNil ?_
      clear W11
      refine i_seq ?_
      refine i_aug rfl ?_
      refine i_var rfl ?_
      refine i_ip ?_
      refine i_ifS ?_
      refine i_test ?_
      refine i_op ?_
      refine i_var rfl ?_
      refine i_var rfl ?_
      refine i_geA ?_
      refine i_bl ?_
      rcases iteE hm with ⟨hb24, hm⟩ | ⟨hb24, hm⟩
      · refine i_bT hb24 ?_
        refine i_seq ?_
        refine i_drop ?_
        refine i_bm ?_
        refine i_var rfl ?_
        refine w_mt W23 (Lx.ls (Lx.own 0 rfl)) ?_
        refine i_tcons ?_
        refine i_op ?_
        refine i_var rfl ?_
        refine i_c ?_
        refine i_addI ?_
        refine i_tnil ?_
        replace hm := bndE hm
        obtain ⟨x25, h26, hm⟩ := hm
        refine w_app W23 0 rfl Kn.int h26 (fun H27 W28 => ?_)
        dsimp only [List.set] at W28
        clear W23
        refine i_asg ?_
        refine i_c ?_
        refine i_gName ?_
        have W29 := Wd.sel W28 [3] rfl
        obtain rfl := some_inj hm
        exact ⟨(some (.int x9.2), some (.int x9.1)), rfl, W29⟩
      · refine i_bF hb24 ?_
        refine i_next ?_
        have W30 := Wd.sel W23 [3] rfl
        obtain rfl := some_inj hm
        exact ⟨(some (.int x9.2), some (.int x9.1)), rfl, W30⟩
    · intro e32 H33 W34
      obtain ⟨e32_0, e32_1⟩ := e32
      dsimp only at W34 ⊢
      refine i_ret ?_
      refine i_var rfl ?_
      have W36 := Wd.frz W34
      exact hq _ (some_inj hm) _ _ (Wd.res (x := (o12.1 : (List Int))) W36 (Kn.at 0 rfl))
end
/-! ### greatest_least -/
abbrev sp_greatest_least (K : PySem.W.Frag) : Sp := fun vs H Q _ => ∃ (x_row : (List Int)) (v_row : V) (x_many : Int),  vs = [v_row, .int x_many] ∧ Rp.rep (lkA K H) x_row v_row ∧ ∃ r : (Int × (List Int)), m_greatest_least x_row x_many = some r ∧ ∀ v' H', Res K H r v' H' → Q v' H'
section
variable {P : Program} {w : World} {K : PySem.W.Frag} {mg : Str → Option Value} {base : Heap}
abbrev N_greatest_least : List Str := ["row", "many", "low", "high", "amid"]
theorem scope_greatest_least : FnScope N_greatest_least ["row", "many"] (defScope s_greatest_least) := ⟨rfl, rfl, rfl, by decide +kernel, rfl, by decide +kernel, by decide +kernel⟩
theorem ok_greatest_least {f : Addr} {fd : FuncData} (F : FunD K "greatest_least" "greatest_least" (defArgs s_greatest_least) (defBody s_greatest_least) (defScope s_greatest_least) [] [] f fd) (hm : mg "greatest_least" = some (.ref f)) (Z : Blt mg) (SM : SMd base) (XX : Exs K mg es6)
    (C_ends_of : Fn P w K mg base 1 "ends_of" ["row", "bound"] (sp_ends_of K))
    (C_need_many : Fn P w K mg base 2 "need_many" ["row", "many"] (sp_need_many K)) :
    Fn P w K mg base 3 "greatest_least" ["row", "many"] (sp_greatest_least K) := by
  refine mkFn F hm (fun _ _ _ _ _ _ us hl => match us, hl with | [_, _], _ => rfl) (okG (k := 2) F scope_greatest_least (fun vs H0 Q E h => ?_) (fun cdv A outer s H0 vs Q E hr hgd h => ?_))
  · obtain ⟨_, _, _, rfl, _⟩ := h; rfl
  · have nd := scope_greatest_least.nd
    have hu := hr.units
    have hr_ends_of : Room 1 _ := hr.mono (by decide : 1 ≤ 2)
    have hr_need_many : Room 2 _ := hr.mono (by decide : 2 ≤ 2)
    unfold sp_greatest_least at h
    refine ⟨_, PSs.nox (pss_cons (ps_expr (pe_fn C_need_many hr_need_many hgd (by rfl) passL (pa_cons (pv 0) (pa_cons (pv 1) pa_nil))))
    (pss_cons (ps_set (i := 2) nd rfl (.inl rfl) pe_int)
    (pss_cons (ps_set (i := 3) nd rfl (.inl rfl) (pe_op op_fdivW (pe_callB (cr_sum rfl) (by rfl) Z.sum_ (by decide +kernel) (pa_cons (pv 0) pa_nil)) (pv 1)))
    (pss_cons (ps_while PassesOwn.never (pt_cmpR (op_ltA hu) (pv 2) (pv 3) (nomark _)) (pss_cons (ps_set (i := 4) nd rfl (.inl rfl) (pe_op op_fdivW (pe_op op_addA (pe_op op_addA (pv 2) (pv 3)) pe_int) pe_int))
    (pss_one (ps_if (pt_cmpR (op_geA hu) (pe_callB cl_len (by rfl) Z.len_ (by decide +kernel) (pa_cons (pe_fn C_ends_of hr_ends_of hgd (by rfl) passL (pa_cons (pv 0) (pa_cons (pv 4) pa_nil))) pa_nil)) (pv 1) (nomark _)) (pss_one (ps_set (i := 2) nd rfl (.inl rfl) (pv 4))) (pss_one (ps_set (i := 3) nd rfl (.inl rfl) (pe_op op_sub (pv 4) pe_int)))))))
    (pss_one (ps_ret (pe_tup (pa_cons (pv 2) (pa_cons (pe_slice sl_list (pe_fn C_ends_of hr_ends_of hgd (by rfl) passL (pa_cons (pv 0) (pa_cons (pv 2) pa_nil))) po_none (po_some (pe_op op_sub (pv 1) pe_int))) pa_nil))))))))), ?_⟩
    (try dsimp only [cxOf])
    obtain ⟨x_row, v_row, x_many, rfl, h_row, r0, hm, q⟩ := h
    let G_ : (Int × (List Int)) → Prop := fun r => ∀ v' H', Res K H0 r v' H' → Q v' H'
    have hq : ∀ r, r = r0 → G_ r := fun r e => by subst e; exact q
    clear q
    unfold m_greatest_least at hm
    have W0 := Wd.start (K := K) H0
    have W1 := Wd.arg W0 h_row
    obtain ⟨a2, rfl⟩ := Wd.eqL W1 (Kn.at 0 rfl)
    refine i_seq ?_
    refine i_drop ?_
    refine i_call ?_
    refine i_tcons ?_
    refine i_var rfl ?_
    refine i_tcons ?_
    refine i_var rfl ?_
    refine i_tnil ?_
    replace hm := bndE hm
    obtain ⟨r3, h4, hm⟩ := hm
    refine ⟨(x_row : (List Int)), _, x_many, rfl, (Wd.arr W1 (Ar.kn (t := false) (Kn.at 0 rfl))), r3, h4, fun v5 H6 R7 => ?_⟩
    obtain ⟨rfl, W8⟩ := Wd.callU W1 R7
    clear W0 W1
    refine i_seq ?_
    refine i_asg ?_
    refine i_c ?_
    refine i_gName ?_
    refine i_seq ?_
    refine i_asg ?_
    refine i_op ?_
    refine i_cb ?_
    refine i_tcons ?_
    refine i_var rfl ?_
    refine i_tnil ?_
    refine w_sum W8 (Lx.ls (Lx.flat (t := true) (Lx.kn (Kn.at 0 rfl)))) ?_
    refine i_var rfl ?_
    replace hm := bndE hm
    obtain ⟨x9, h10, hm⟩ := hm
    refine w_fdiv h10 ?_
    refine i_gName ?_
    refine i_seq ?_
    have W11 := Wd.sel W8 [0] rfl
    replace hm := bndE hm
    obtain ⟨o17, h18, hm⟩ := hm
    refine w_while (⟨fun b e => [some (.ref a2), some (.int x_many), some (.int b.2), some (.int b.1), e], fun b e => [fc false (x_row : (List Int)) (.ref a2)], fun b e => []⟩ : Shp (Int × Int) (Option V)) none h18 rfl W11 ?_ ?_
    · intro b12 e13_0 H19 o20 W16 hm hr21 hbk24 P22 hP23
      dsimp only at W16 ⊢
      refine i_test ?_
      refine i_op ?_
      refine i_var rfl ?_
      refine i_var rfl ?_
      refine i_ltA ?_
      refine i_bl ?_
      rcases iteE hm with ⟨hb25, hm⟩ | ⟨hb25, hm⟩
      · refine i_bT hb25 ?_
        refine ⟨_, hP23, ?_⟩
        refine i_seq ?_
        refine i_asg ?_
        refine i_op ?_
        refine i_op ?_
        refine i_op ?_
        refine i_var rfl ?_
        refine i_var rfl ?_
        refine i_addI ?_
        refine i_c ?_
        refine i_addI ?_
        refine i_c ?_
        refine i_fdiv (by decide) (by decide) ?_
        refine i_gName ?_
        refine i_ifS ?_
        refine i_test ?_
        refine i_op ?_
        refine i_cb ?_
        refine i_tcons ?_
        refine i_call ?_
        refine i_tcons ?_
        refine i_var rfl ?_
        refine i_tcons ?_
        refine i_var rfl ?_
        refine i_tnil ?_
        replace hm := bndE hm
        obtain ⟨r26, h27, hm⟩ := hm
        refine ⟨(x_row : (List Int)), _, (((b12.2 + b12.1) + 1) / 2), rfl, (Wd.arr W16 (Ar.kn (t := false) (Kn.at 0 rfl))), r26, h27, fun v28 H29 R30 => ?_⟩
        have W31 := Wd.call W16 R30
        obtain ⟨a32, rfl⟩ := Wd.eqL W31 (Kn.at 0 rfl)
        refine i_tnil ?_
        refine w_len W31 (Lx.ls (Lx.kn (Kn.at 0 rfl))) ?_
        refine i_var rfl ?_
        refine i_geA ?_
        refine i_bl ?_
        clear W16
        rcases iteE hm with ⟨hb33, hm⟩ | ⟨hb33, hm⟩
        · refine i_bT hb33 ?_
          refine i_asg ?_
          refine i_var rfl ?_
          refine i_gName ?_
          have W34 := Wd.sel W31 [1] rfl
          exact ⟨(b12.1, (((b12.2 + b12.1) + 1) / 2)), some (.int (((b12.2 + b12.1) + 1) / 2)), (some_inj hm).symm, rfl, W34⟩
        · refine i_bF hb33 ?_
          refine i_asg ?_
          refine i_op ?_
          refine i_var rfl ?_
          refine i_c ?_
          refine i_I0 ?_
          refine i_gName ?_
          have W35 := Wd.sel W31 [1] rfl
          exact ⟨(((((b12.2 + b12.1) + 1) / 2) - 1), b12.2), some (.int (((b12.2 + b12.1) + 1) / 2)), (some_inj hm).symm, rfl, W35⟩
      · refine i_bF hb25 ?_
        have W36 := Wd.sel W16 [0] rfl
        exact hbk24 (b12.1, b12.2) e13_0 _ (some_inj hm).symm W36
    · intro s37 e38_0 H39 eb41 W40
      subst eb41
      dsimp only at W40 ⊢
      refine i_ret ?_
      refine i_ttup ?_
      refine i_tcons ?_
      refine i_var rfl ?_
      refine i_tcons ?_
      refine i_sl ?_
      refine i_call ?_
      refine i_tcons ?_
      refine i_var rfl ?_
      refine i_tcons ?_
      refine i_var rfl ?_
      refine i_tnil ?_
      replace hm := bndE hm
      obtain ⟨r42, h43, hm⟩ := hm
      refine ⟨(x_row : (List Int)), _, s37.2, rfl, (Wd.arr W40 (Ar.kn (t := false) (Kn.at 0 rfl))), r42, h43, fun v44 H45 R46 => ?_⟩
      obtain ⟨p48, rfl, W47⟩ := Wd.callO W40 R46
      have W49 := Wd.frz W47
      refine i_nopart ?_
      refine i_part ?_
      refine i_op ?_
      refine i_var rfl ?_
      refine i_c ?_
      refine i_I0 ?_
      refine i_partI ?_
      refine w_slice W49 (Lx.ls (Lx.kn (Kn.at 0 rfl))) (fun p50 H51 W52 => ?_)
      have W53 := Wd.frz W52
      refine i_tnil ?_
      refine w_tup2 (t := true) W53 Kn.int (Kn.at 0 rfl) (fun p54 H55 W56 => ?_)
      exact hq _ (some_inj hm) _ _ (Wd.res (x := ((s37.2, (sliceI r42 none (some (x_many - 1)))) : (Int × (List Int)))) W56 (Kn.at 0 rfl))
end
/-! ### reaching -/
abbrev sp_reaching (K : PySem.W.Frag) : Sp := fun vs H Q _ => ∃ (x_row : (List Int)) (v_row : V) (x_bound : Int),  vs = [v_row, .int x_bound] ∧ Rp.rep (lkA K H) x_row v_row ∧ ∃ r : (List Int), m_reaching x_row x_bound = some r ∧ ∀ v' H', Res K H r v' H' → Q v' H'
section
variable {P : Program} {w : World} {K : PySem.W.Frag} {mg : Str → Option Value} {base : Heap}
abbrev N_reaching : List Str := ["row", "bound", "found", "total", "place", "number"]
theorem scope_reaching : FnScope N_reaching ["row", "bound"] (defScope s_reaching) := ⟨rfl, rfl, rfl, by decide +kernel, rfl, by decide +kernel, by decide +kernel⟩
theorem ok_reaching {f : Addr} {fd : FuncData} (F : FunD K "reaching" "reaching" (defArgs s_reaching) (defBody s_reaching) (defScope s_reaching) [] [] f fd) (hm : mg "reaching" = some (.ref f)) (Z : Blt mg) (SM : SMd base) (XX : Exs K mg es6) :
    Fn P w K mg base 1 "reaching" ["row", "bound"] (sp_reaching K) := by
  refine mkFn F hm (fun _ _ _ _ _ _ us hl => match us, hl with | [_, _], _ => rfl) (okG (k := 0) F scope_reaching (fun vs H0 Q E h => ?_) (fun cdv A outer s H0 vs Q E hr hgd h => ?_))
  · obtain ⟨_, _, _, rfl, _⟩ := h; rfl
  · have nd := scope_reaching.nd
    have hu := hr.units
    unfold sp_reaching at h
    refine ⟨_, PSs.nox (pss_cons (ps_set (i := 2) nd rfl (.inl rfl) (pe_lst pa_nil))
    (pss_cons (ps_set (i := 3) nd rfl (.inl rfl) pe_int)
    (pss_cons (ps_for PassesOwn.never rfl (pi_enum (by rfl) Z.enumerate_ (pa_cons (pv 0) pa_nil)) (pg_tup (by rfl) (pgs_cons (pg_name (i := 4) nd rfl (.inl rfl)) (pgs_cons (pg_name (i := 5) nd rfl (.inl rfl)) pgs_nil))) (pss_cons (ps_aug (i := 3) nd rfl (.inl rfl) (pv 5) ip_add)
    (pss_one (ps_if (pt_cmpR (op_geA hu) (pv 3) (pv 1) (nomark _)) (pss_cons (ps_expr (pe_bmK (K := K) PySem.F.plainAttrs_list PySem.F.slot_list_append PySem.F.type_list_append mt_append (pv 2) (pa_cons (pv 4) pa_nil)))
    (pss_one (ps_set (i := 3) nd rfl (.inl rfl) pe_int))) pss_nil))))
    (pss_one (ps_ret (pv 2)))))), ?_⟩
    (try dsimp only [cxOf])
    obtain ⟨x_row, v_row, x_bound, rfl, h_row, r0, hm, q⟩ := h
    let G_ : (List Int) → Prop := fun r => ∀ v' H', Res K H0 r v' H' → Q v' H'
    have hq : ∀ r, r = r0 → G_ r := fun r e => by subst e; exact q
    clear q
    unfold m_reaching at hm
    have W0 := Wd.start (K := K) H0
    have W1 := Wd.arg W0 h_row
    obtain ⟨a2, rfl⟩ := Wd.eqL W1 (Kn.at 0 rfl)
    refine i_seq ?_
    refine i_asg ?_
    refine i_tlst ?_
    refine i_tnil ?_
    refine w_lst (α := Int) (t := true) W1 KnL.nil (by show (0 : Nat) ≤ sizeLine; decide) (fun p3 H4 W5 => ?_)
    refine i_gName ?_
    clear W0 W1
    refine i_seq ?_
    refine i_asg ?_
    refine i_c ?_
    refine i_gName ?_
    refine i_seq ?_
    refine i_for ?_
    refine i_iEnum ?_
    refine i_tcons ?_
    refine i_var rfl ?_
    refine i_tnil ?_
    refine w_en W5 (Lx.ls (Lx.flat (t := true) (Lx.kn (Kn.at 0 rfl)))) ?_
    have W6 := Wd.sel W5 [0] rfl
    replace hm := bndE hm
    obtain ⟨o12, h13, hm⟩ := hm
    refine w_fold (⟨fun b e => [some (.ref a2), some (.int x_bound), some (.ref p3), some (.int b.2), e.2, e.1], fun b e => [fc false (x_row : (List Int)) (.ref a2)], fun b e => [oL true p3 (b.1 : List Int)]⟩ : Shp ((List Int) × Int) (Option V × Option V)) (none, none) h13 rfl W6 (gv_enum (fun _ _ => (Lx.ls (Lx.flat (t := true) (Lx.kn (Kn.at 0 rfl)))))) ?_ ?_
    · intro x9 v10 b7 e8 H14 o15 W11 hm
      obtain ⟨e8_0, e8_1⟩ := e8
      dsimp only at W11 ⊢
      obtain ⟨a20, rfl⟩ := Wd.eqP W11 (Kn.at 0 rfl)
      refine i_gTup ?_
      refine w_unpP W11 (Kn.at 0 rfl) (fun u21 u22 W23 => ?_)
      obtain rfl := Wd.eqI W23 (Kn.at 0 rfl)
      obtain rfl := Wd.eqI W23 (Kn.at 1 rfl)
      refine i_gCons ?_
      refine i_gName ?_
      refine i_gCons ?_
      refine i_gName ?_
      refine i_gNil ?_
      clear W11
      refine i_seq ?_
      refine i_aug rfl ?_
      refine i_var rfl ?_
      refine i_ip ?_
      refine i_ifS ?_
      refine i_test ?_
      refine i_op ?_
      refine i_var rfl ?_
      refine i_var rfl ?_
      refine i_geA ?_
      refine i_bl ?_
      rcases iteE hm with ⟨hb24, hm⟩ | ⟨hb24, hm⟩
      · refine i_bT hb24 ?_
        refine i_seq ?_
        refine i_drop ?_
        refine i_bm ?_
        refine i_var rfl ?_
        refine w_mt W23 (Lx.ls (Lx.own 0 rfl)) ?_
        refine i_tcons ?_
        refine i_var rfl ?_
        refine i_tnil ?_
        replace hm := bndE hm
        obtain ⟨x25, h26, hm⟩ := hm
        refine w_app W23 0 rfl Kn.int h26 (fun H27 W28 => ?_)
        dsimp only [List.set] at W28
        clear W23
        refine i_asg ?_
        refine i_c ?_
        refine i_gName ?_
        have W29 := Wd.sel W28 [3] rfl
        obtain rfl := some_inj hm
        exact ⟨(some (.int x9.2), some (.int x9.1)), rfl, W29⟩
      · refine i_bF hb24 ?_
        refine i_next ?_
        have W30 := Wd.sel W23 [3] rfl
        obtain rfl := some_inj hm
        exact ⟨(some (.int x9.2), some (.int x9.1)), rfl, W30⟩
    · intro e32 H33 W34
      obtain ⟨e32_0, e32_1⟩ := e32
      dsimp only at W34 ⊢
      refine i_ret ?_
      refine i_var rfl ?_
      have W36 := Wd.frz W34
      exact hq _ (some_inj hm) _ _ (Wd.res (x := (o12.1 : (List Int))) W36 (Kn.at 0 rfl))
end
/-! ### paper_of_least -/
abbrev sp_paper_of_least (K : PySem.W.Frag) : Sp := fun vs H Q _ => ∃ (x_row : (List Int)) (v_row : V) (x_many : Int),  vs = [v_row, .int x_many] ∧ Rp.rep (lkA K H) x_row v_row ∧ ∃ r : (List Int), m_paper_of_least x_row x_many = some r ∧ ∀ v' H', Res K H r v' H' → Q v' H'
section
variable {P : Program} {w : World} {K : PySem.W.Frag} {mg : Str → Option Value} {base : Heap}
abbrev N_paper_of_least : List Str := ["row", "many"]
theorem scope_paper_of_least : FnScope N_paper_of_least ["row", "many"] (defScope s_paper_of_least) := ⟨rfl, rfl, rfl, by decide +kernel, rfl, by decide +kernel, by decide +kernel⟩
theorem ok_paper_of_least {f : Addr} {fd : FuncData} (F : FunD K "paper_of_least" "paper_of_least" (defArgs s_paper_of_least) (defBody s_paper_of_least) (defScope s_paper_of_least) [] [] f fd) (hm : mg "paper_of_least" = some (.ref f)) (Z : Blt mg) (SM : SMd base) (XX : Exs K mg es6)
    (C_reaching : Fn P w K mg base 1 "reaching" ["row", "bound"] (sp_reaching K))
    (C_greatest_least : Fn P w K mg base 3 "greatest_least" ["row", "many"] (sp_greatest_least K))
    (C_need_pieces_papers : Fn P w K mg base 2 "need_pieces_papers" ["row", "many"] (sp_need_pieces_papers K)) :
    Fn P w K mg base 4 "paper_of_least" ["row", "many"] (sp_paper_of_least K) := by
  refine mkFn F hm (fun _ _ _ _ _ _ us hl => match us, hl with | [_, _], _ => rfl) (okG (k := 3) F scope_paper_of_least (fun vs H0 Q E h => ?_) (fun cdv A outer s H0 vs Q E hr hgd h => ?_))
  · obtain ⟨_, _, _, rfl, _⟩ := h; rfl
  · have nd := scope_paper_of_least.nd
    have hu := hr.units
    have hr_reaching : Room 1 _ := hr.mono (by decide : 1 ≤ 3)
    have hr_greatest_least : Room 3 _ := hr.mono (by decide : 3 ≤ 3)
    have hr_need_pieces_papers : Room 2 _ := hr.mono (by decide : 2 ≤ 3)
    unfold sp_paper_of_least at h
    refine ⟨_, PSs.nox (pss_cons (ps_expr (pe_fn C_need_pieces_papers hr_need_pieces_papers hgd (by rfl) passL (pa_cons (pv 0) (pa_cons (pv 1) pa_nil))))
    (pss_one (ps_ret (pe_fn C_reaching hr_reaching hgd (by rfl) passL (pa_cons (pv 0) (pa_cons (pe_op op_addA (pe_ix ix_seq (pe_fn C_greatest_least hr_greatest_least hgd (by rfl) passL (pa_cons (pv 0) (pa_cons (pv 1) pa_nil))) pe_int (fun _ _ => rfl)) pe_int) pa_nil)))))), ?_⟩
    (try dsimp only [cxOf])
    obtain ⟨x_row, v_row, x_many, rfl, h_row, r0, hm, q⟩ := h
    let G_ : (List Int) → Prop := fun r => ∀ v' H', Res K H0 r v' H' → Q v' H'
    have hq : ∀ r, r = r0 → G_ r := fun r e => by subst e; exact q
    clear q
    unfold m_paper_of_least at hm
    have W0 := Wd.start (K := K) H0
    have W1 := Wd.arg W0 h_row
    obtain ⟨a2, rfl⟩ := Wd.eqL W1 (Kn.at 0 rfl)
    refine i_seq ?_
    refine i_drop ?_
    refine i_call ?_
    refine i_tcons ?_
    refine i_var rfl ?_
    refine i_tcons ?_
    refine i_var rfl ?_
    refine i_tnil ?_
    replace hm := bndE hm
    obtain ⟨r3, h4, hm⟩ := hm
    refine ⟨(x_row : (List Int)), _, x_many, rfl, (Wd.arr W1 (Ar.kn (t := false) (Kn.at 0 rfl))), r3, h4, fun v5 H6 R7 => ?_⟩
    obtain ⟨rfl, W8⟩ := Wd.callU W1 R7
    clear W0 W1
    refine i_ret ?_
    refine i_call ?_
    refine i_tcons ?_
    refine i_var rfl ?_
    refine i_tcons ?_
    refine i_op ?_
    refine i_op ?_
    refine i_call ?_
    refine i_tcons ?_
    refine i_var rfl ?_
    refine i_tcons ?_
    refine i_var rfl ?_
    refine i_tnil ?_
    replace hm := bndE hm
    obtain ⟨r9, h10, hm⟩ := hm
    refine ⟨(x_row : (List Int)), _, x_many, rfl, (Wd.arr W8 (Ar.kn (t := false) (Kn.at 0 rfl))), r9, h10, fun v11 H12 R13 => ?_⟩
    have W14 := Wd.call W8 R13
    obtain ⟨a15, rfl⟩ := Wd.eqP W14 (Kn.at 0 rfl)
    refine i_c ?_
    refine w_fstP W14 (Kn.at 0 rfl) (fun u16 W17 => ?_)
    obtain rfl := Wd.eqI W17 (Kn.at 0 rfl)
    refine i_c ?_
    refine i_addI ?_
    refine i_tnil ?_
    replace hm := bndE hm
    obtain ⟨r18, h19, hm⟩ := hm
    refine ⟨(x_row : (List Int)), _, (r9.1 + 1), rfl, (Wd.arr W17 (Ar.kn (t := false) (Kn.at 2 rfl))), r18, h19, fun v20 H21 R22 => ?_⟩
    obtain ⟨p24, rfl, W23⟩ := Wd.callO W17 R22
    have W25 := Wd.frz W23
    exact hq _ (some_inj hm) _ _ (Wd.res (x := (r18 : (List Int))) W25 (Kn.at 0 rfl))
end
/-! ### says_least -/
abbrev sp_says_least (K : PySem.W.Frag) : Sp := fun vs H Q _ => ∃ (x_row : (List Int)) (v_row : V) (x_many : Int) (x_thing : Th) (v_thing : V),  vs = [v_row, .int x_many, v_thing] ∧ Rp.rep (lkA K H) x_row v_row ∧ Rp.rep (lkA K H) x_thing v_thing ∧ ∃ r : (Option Int), m_says_least x_row x_many x_thing = some r ∧ ∀ v' H', Res K H r v' H' → Q v' H'
section
variable {P : Program} {w : World} {K : PySem.W.Frag} {mg : Str → Option Value} {base : Heap}
abbrev N_says_least : List Str := ["row", "many", "thing", "found", "ahead", "place"]
theorem scope_says_least : FnScope N_says_least ["row", "many", "thing"] (defScope s_says_least) := ⟨rfl, rfl, rfl, by decide +kernel, rfl, by decide +kernel, by decide +kernel⟩
theorem ok_says_least {f : Addr} {fd : FuncData} (F : FunD K "says_least" "says_least" (defArgs s_says_least) (defBody s_says_least) (defScope s_says_least) [] [] f fd) (hm : mg "says_least" = some (.ref f)) (Z : Blt mg) (SM : SMd base) (XX : Exs K mg es6)
    (C_is_among : Fn P w K mg base 1 "is_among" ["thing", "low", "high"] (sp_is_among K))
    (C_need_pieces_papers : Fn P w K mg base 2 "need_pieces_papers" ["row", "many"] (sp_need_pieces_papers K)) :
    Fn P w K mg base 3 "says_least" ["row", "many", "thing"] (sp_says_least K) := by
  refine mkFn F hm (fun _ _ _ _ _ _ us hl => match us, hl with | [_, _, _], _ => rfl) (okG (k := 2) F scope_says_least (fun vs H0 Q E h => ?_) (fun cdv A outer s H0 vs Q E hr hgd h => ?_))
  · obtain ⟨_, _, _, _, _, rfl, _⟩ := h; rfl
  · have nd := scope_says_least.nd
    have hu := hr.units
    have hr_is_among : Room 1 _ := hr.mono (by decide : 1 ≤ 2)
    have hr_need_pieces_papers : Room 2 _ := hr.mono (by decide : 2 ≤ 2)
    unfold sp_says_least at h
    refine ⟨_, PSs.nox (pss_cons (ps_expr (pe_fn C_need_pieces_papers hr_need_pieces_papers hgd (by rfl) passL (pa_cons (pv 0) (pa_cons (pv 1) pa_nil))))
    (pss_cons (ps_if (PW.pt (pw_or (pt_not (pt_val (pe_callB call_isX (by rfl) Z.isinstance_ (by decide +kernel) (pa_cons (pv 2) (pa_cons (pe_bltn (v := .ty "list") (by rfl) Z.list_ (by decide +kernel) rfl) pa_nil))))) (pw_or1 (pt_cmpR (op_geA hu) (pe_callB cl_len (by rfl) Z.len_ (by decide +kernel) (pa_cons (pv 2) pa_nil)) (pv 1) (nomark _))))) (pss_one (ps_ret pe_non)) pss_nil)
    (pss_cons (ps_set (i := 3) nd rfl (.inl rfl) (pe_lst pa_nil))
    (pss_cons (ps_set (i := 4) nd rfl (.inl rfl) pe_int)
    (pss_cons (ps_for PassesOwn.never rfl (pi_list (pv 2)) (pg_name (i := 5) nd rfl (.inl rfl)) (pss_cons (ps_if (pt_not (pt_val (pe_fn C_is_among hr_is_among hgd (by rfl) passL (pa_cons (pv 5) (pa_cons (pv 4) (pa_cons (pe_op op_sub (pe_callB cl_len (by rfl) Z.len_ (by decide +kernel) (pa_cons (pv 0) pa_nil)) pe_int) pa_nil)))))) (pss_one (ps_ret pe_non)) pss_nil)
    (pss_cons (ps_expr (pe_bmK (K := K) PySem.F.plainAttrs_list PySem.F.slot_list_append PySem.F.type_list_append mt_append (pv 3) (pa_cons (pe_callB (cr_sum rfl) (by rfl) Z.sum_ (by decide +kernel) (pa_cons (pe_slice sl_list (pv 0) (po_some (pv 4)) (po_some (pv 5))) pa_nil)) pa_nil)))
    (pss_one (ps_set (i := 4) nd rfl (.inl rfl) (pe_op op_addA (pv 5) pe_int))))))
    (pss_one (ps_ret (pe_callB (cr_maxA rfl hu) (by rfl) Z.max_ (by decide +kernel) (pa_cons (pe_op op_addA (pv 3) (pe_lst (pa_cons (pe_callB (cr_sum rfl) (by rfl) Z.sum_ (by decide +kernel) (pa_cons (pe_slice sl_list (pv 0) (po_some (pv 4)) po_none) pa_nil)) pa_nil))) pa_nil))))))))), ?_⟩
    (try dsimp only [cxOf])
    obtain ⟨x_row, v_row, x_many, x_thing, v_thing, rfl, h_row, h_thing, r0, hm, q⟩ := h
    let G_ : (Option Int) → Prop := fun r => ∀ v' H', Res K H0 r v' H' → Q v' H'
    have hq : ∀ r, r = r0 → G_ r := fun r e => by subst e; exact q
    clear q
    unfold m_says_least at hm
    have W0 := Wd.start (K := K) H0
    have W1 := Wd.arg W0 h_row
    obtain ⟨a2, rfl⟩ := Wd.eqL W1 (Kn.at 0 rfl)
    have W3 := Wd.arg W1 h_thing
    refine i_seq ?_
    refine i_drop ?_
    refine i_call ?_
    refine i_tcons ?_
    refine i_var rfl ?_
    refine i_tcons ?_
    refine i_var rfl ?_
    refine i_tnil ?_
    replace hm := bndE hm
    obtain ⟨r4, h5, hm⟩ := hm
    refine ⟨(x_row : (List Int)), _, x_many, rfl, (Wd.arr W3 (Ar.kn (t := false) (Kn.at 1 rfl))), r4, h5, fun v6 H7 R8 => ?_⟩
    obtain ⟨rfl, W9⟩ := Wd.callU W3 R8
    clear W0 W1 W3
    refine i_seq ?_
    refine i_ifS ?_
    refine i_or ?_
    refine i_not ?_
    refine i_tB ?_
    refine i_cb ?_
    refine i_tcons ?_
    refine i_var rfl ?_
    refine i_tcons ?_
    refine i_c ?_
    refine i_tnil ?_
    refine w_isiT W9 (Ar.kn (t := false) (Kn.at 0 rfl)) (by simp) ?_
    refine i_bl ?_
    replace hm := bndE hm
    obtain ⟨x18, h19, hm⟩ := hm
    refine w_orW (L' := []) x18 W9 (fun hb10 P11 hP12 => ?_) (fun hb10 => ?_) (fun H20 W21 => ?_)
    · have hm : _ = some x18 := (if_neg (by rw [hb10]; exact Bool.false_ne_true)).symm.trans h19
      refine i_test ?_
      refine i_op ?_
      refine i_cb ?_
      refine i_tcons ?_
      refine i_var rfl ?_
      refine i_tnil ?_
      replace hm := bndE hm
      obtain ⟨x13, h14, hm⟩ := hm
      have W15 := Wd.thL (t := false) W9 (Kn.at 0 rfl) h14
      obtain ⟨a16, rfl⟩ := Wd.eqL W15 (Kn.at 0 rfl)
      refine w_len W15 (Lx.ls (Lx.kn (Kn.at 0 rfl))) ?_
      refine i_var rfl ?_
      refine i_geA ?_
      refine i_bl ?_
      have W17 := Wd.drop W15 1 rfl
      have hm := some_inj hm
      exact hP12 _ _ hm W17
    · have hm := some_inj ((if_pos hb10).symm.trans h19)
      exact ⟨hm, W9⟩
    clear W9
    rcases iteE hm with ⟨hb23, hm⟩ | ⟨hb23, hm⟩
    · refine i_bT hb23 ?_
      refine i_ret ?_
      refine i_c ?_
      exact hq _ (some_inj hm) _ _ (Wd.res (x := ((none : (Option Int)) : (Option Int))) W21 Kn.none)
    · refine i_bF hb23 ?_
      refine i_next ?_
      refine i_seq ?_
      refine i_asg ?_
      refine i_tlst ?_
      refine i_tnil ?_
      refine w_lst (α := Int) (t := true) W21 KnL.nil (by show (0 : Nat) ≤ sizeLine; decide) (fun p24 H25 W26 => ?_)
      refine i_gName ?_
      clear W21
      refine i_seq ?_
      refine i_asg ?_
      refine i_c ?_
      refine i_gName ?_
      refine i_seq ?_
      refine i_for ?_
      refine i_iList ?_
      refine i_var rfl ?_
      replace hm := bndE hm
      obtain ⟨x27, h28, hm⟩ := hm
      have W29 := Wd.thL (t := false) W26 (Kn.at 0 rfl) h28
      obtain ⟨a30, rfl⟩ := Wd.eqL W29 (Kn.at 0 rfl)
      refine w_itL W29 (Lx.ls (Lx.kn (Kn.at 0 rfl))) ?_
      clear W26
      have W31 := Wd.sel W29 [0, 2] rfl
      replace hm := bndE hm
      obtain ⟨o37, h38, hm⟩ := hm
      have hqi : ∀ r, o37 = .ret r → G_ r := fun r er => by subst er; exact hq _ (some_inj hm)
      refine w_for (⟨fun b e => [some (.ref a2), some (.int x_many), some (.ref a30), some (.ref p24), some (.int b.1), e], fun b e => [fc false (x27 : (List Th)) (.ref a30), fc false (x_row : (List Int)) (.ref a2)], fun b e => [oL true p24 (b.2 : List Int)]⟩ : Shp (Int × (List Int)) (Option V)) none h38 rfl W31 (gv_list (fun _ _ => (Lx.ls (Lx.kn (Kn.at 0 rfl))))) ?_ ?_
      · intro x34 v35 b32 e33_0 H39 o40 W36 hm hr41
        have hqii : ∀ r, o40 = .ret r → G_ r := fun r er => hqi r (hr41 r er)
        dsimp only at W36 ⊢
        refine i_gName ?_
        refine i_seq ?_
        refine i_ifS ?_
        refine i_not ?_
        refine i_tB ?_
        refine i_call ?_
        refine i_tcons ?_
        refine i_var rfl ?_
        refine i_tcons ?_
        refine i_var rfl ?_
        refine i_tcons ?_
        refine i_op ?_
        refine i_cb ?_
        refine i_tcons ?_
        refine i_var rfl ?_
        refine i_tnil ?_
        refine w_len W36 (Lx.ls (Lx.flat (t := true) (Lx.kn (Kn.at 2 rfl)))) ?_
        refine i_c ?_
        refine i_I0 ?_
        refine i_tnil ?_
        replace hm := bndE hm
        obtain ⟨r45, h46, hm⟩ := hm
        refine ⟨(x34 : Th), _, b32.1, ((lenI x_row) - 1), rfl, (Wd.arr W36 (Ar.kn (t := false) (Kn.at 0 rfl))), r45, h46, fun v47 H48 R49 => ?_⟩
        obtain ⟨rfl, W50⟩ := Wd.callB W36 R49
        refine i_bl ?_
        clear W36
        rcases iteE hm with ⟨hb51, hm⟩ | ⟨hb51, hm⟩
        · refine i_bT hb51 ?_
          refine i_ret ?_
          refine i_c ?_
          exact hqii _ (some_inj hm).symm _ _ (Wd.res (x := ((none : (Option Int)) : (Option Int))) W50 Kn.none)
        · refine i_bF hb51 ?_
          refine i_next ?_
          refine i_seq ?_
          refine i_drop ?_
          refine i_bm ?_
          refine i_var rfl ?_
          refine w_mt W50 (Lx.ls (Lx.own 0 rfl)) ?_
          refine i_tcons ?_
          refine i_cb ?_
          refine i_tcons ?_
          refine i_sl ?_
          refine i_var rfl ?_
          refine i_part ?_
          refine i_var rfl ?_
          refine i_partI ?_
          refine i_part ?_
          refine i_var rfl ?_
          replace hm := bndE hm
          obtain ⟨x52, h53, hm⟩ := hm
          have W54 := Wd.thI (t := false) W50 (Kn.at 0 rfl) h53
          obtain rfl := Wd.eqI W54 (Kn.at 0 rfl)
          refine i_partI ?_
          refine w_slice W54 (Lx.ls (Lx.flat (t := true) (Lx.kn (Kn.at 3 rfl)))) (fun p55 H56 W57 => ?_)
          have W58 := Wd.frz W57
          refine i_tnil ?_
          refine w_sum W58 (Lx.ls (Lx.kn (Kn.at 0 rfl))) ?_
          refine i_tnil ?_
          replace hm := bndE hm
          obtain ⟨x59, h60, hm⟩ := hm
          refine w_app W58 0 rfl Kn.int h60 (fun H61 W62 => ?_)
          dsimp only [List.set] at W62
          clear W50 W54 W57 W58
          refine i_asg ?_
          refine i_op ?_
          refine i_var rfl ?_
          refine i_c ?_
          refine i_addI ?_
          refine i_gName ?_
          have W63 := Wd.sel W62 [3, 4] rfl
          exact ⟨((x52 + 1), x59), some (.int x52), (some_inj hm).symm, rfl, W63⟩
      · intro s64 e65_0 H66 eb68 W67
        subst eb68
        dsimp only at W67 ⊢
        refine i_ret ?_
        refine i_cb ?_
        refine i_tcons ?_
        refine i_op ?_
        refine i_var rfl ?_
        refine i_tlst ?_
        refine i_tcons ?_
        refine i_cb ?_
        refine i_tcons ?_
        refine i_sl ?_
        refine i_var rfl ?_
        refine i_part ?_
        refine i_var rfl ?_
        refine i_partI ?_
        refine i_nopart ?_
        refine w_slice W67 (Lx.ls (Lx.flat (t := true) (Lx.kn (Kn.at 1 rfl)))) (fun p69 H70 W71 => ?_)
        have W72 := Wd.frz W71
        refine i_tnil ?_
        refine w_sum W72 (Lx.ls (Lx.kn (Kn.at 0 rfl))) ?_
        refine i_tnil ?_
        refine w_lst (α := Int) (t := true) W72 (KnL.cons Kn.int KnL.nil) (by show (1 : Nat) ≤ sizeLine; decide) (fun p73 H74 W75 => ?_)
        have W76 := Wd.frz W75
        replace hm := bndE hm
        obtain ⟨x77, h78, hm⟩ := hm
        refine w_cat W76 (Lx.own 0 rfl) (Lx.kn (Kn.at 0 rfl)) h78 (fun p79 H80 W81 => ?_)
        have W82 := Wd.frz W81
        refine i_tnil ?_
        replace hm := bndE hm
        obtain ⟨x83, h84, hm⟩ := hm
        refine .inl (w_max W82 (Lx.ls (Lx.kn (Kn.at 0 rfl))) h84 ?_)
        exact hq _ (some_inj hm) _ _ (Wd.res (x := ((some x83) : (Option Int))) W82 (Kn.some Kn.int))
end
/-! ### need_pieces_rings -/
abbrev sp_need_pieces_rings (K : PySem.W.Frag) : Sp := fun vs H Q _ => ∃ (x_row : (List Int)) (v_row : V) (x_many : Int),  vs = [v_row, .int x_many] ∧ Rp.rep (lkA K H) x_row v_row ∧ ∃ r : Unit, m_need_pieces_rings x_row x_many = some r ∧ ∀ v' H', Res K H r v' H' → Q v' H'
section
variable {P : Program} {w : World} {K : PySem.W.Frag} {mg : Str → Option Value} {base : Heap}
abbrev N_need_pieces_rings : List Str := ["row", "many"]
theorem scope_need_pieces_rings : FnScope N_need_pieces_rings ["row", "many"] (defScope s_need_pieces_rings) := ⟨rfl, rfl, rfl, by decide +kernel, rfl, by decide +kernel, by decide +kernel⟩
theorem ok_need_pieces_rings {f : Addr} {fd : FuncData} (F : FunD K "need_pieces" "need_pieces" (defArgs s_need_pieces_rings) (defBody s_need_pieces_rings) (defScope s_need_pieces_rings) [] [] f fd) (hm : mg "need_pieces_rings" = some (.ref f)) (Z : Blt mg) (SM : SMd base) (XX : Exs K mg es6) :
    Fn P w K mg base 1 "need_pieces_rings" ["row", "many"] (sp_need_pieces_rings K) := by
  refine mkFnA F hm (fun _ _ _ _ _ _ us hl => match us, hl with | [_, _], _ => rfl) (okG (k := 0) F scope_need_pieces_rings (fun vs H0 Q E h => ?_) (fun cdv A outer s H0 vs Q E hr hgd h => ?_))
  · obtain ⟨_, _, _, rfl, _⟩ := h; rfl
  · have nd := scope_need_pieces_rings.nd
    have hu := hr.units
    unfold sp_need_pieces_rings at h
    refine ⟨_, PSs.nox (pss_one (ps_if (PW.pt (pw_or (pt_not (pt_val (pe_callB call_isX (by rfl) Z.isinstance_ (by decide +kernel) (pa_cons (pv 1) (pa_cons (pe_bltn (v := .ty "int") (by rfl) Z.int_ (by decide +kernel) rfl) pa_nil))))) (pw_or (pt_val (pe_callB call_isX (by rfl) Z.isinstance_ (by decide +kernel) (pa_cons (pv 1) (pa_cons (pe_bltn (v := .ty "bool") (by rfl) Z.bool_ (by decide +kernel) rfl) pa_nil)))) (pw_or1 (pt_not (pt_chain op_le op_le pe_int (pv 1) (pe_callB cl_len (by rfl) Z.len_ (by decide +kernel) (pa_cons (pv 0) pa_nil)))))))) (pss_one ps_never) pss_nil)), ?_⟩
    (try dsimp only [cxOf])
    obtain ⟨x_row, v_row, x_many, rfl, h_row, r0, hm, q⟩ := h
    let G_ : Unit → Prop := fun r => ∀ v' H', Res K H0 r v' H' → Q v' H'
    have hq : ∀ r, r = r0 → G_ r := fun r e => by subst e; exact q
    clear q
    unfold m_need_pieces_rings at hm
    have W0 := Wd.start (K := K) H0
    have W1 := Wd.arg W0 h_row
    obtain ⟨a2, rfl⟩ := Wd.eqL W1 (Kn.at 0 rfl)
    refine i_ifS ?_
    refine i_or ?_
    refine i_not ?_
    refine i_tB ?_
    refine i_cb ?_
    refine i_tcons ?_
    refine i_var rfl ?_
    refine i_tcons ?_
    refine i_c ?_
    refine i_tnil ?_
    refine w_isi W1 (Ar.kn (t := true) Kn.int) (by simp) ?_
    refine i_bl ?_
    refine w_orW (L' := _) ((!(isiO (x_many : Int) "int")) || ((isiO (x_many : Int) "bool") || (!((decide (1 ≤ x_many)) && (decide (x_many ≤ (lenI x_row))))))) W1 (fun hb3 P4 hP5 => ?_) (fun hb3 => ⟨or_t hb3, W1⟩) (fun H16 W17 => ?_)
    · refine i_or ?_
      refine i_tB ?_
      refine i_cb ?_
      refine i_tcons ?_
      refine i_var rfl ?_
      refine i_tcons ?_
      refine i_c ?_
      refine i_tnil ?_
      refine w_isi W1 (Ar.kn (t := true) Kn.int) (by simp) ?_
      refine i_bl ?_
      refine w_orW (L' := _) ((isiO (x_many : Int) "bool") || (!((decide (1 ≤ x_many)) && (decide (x_many ≤ (lenI x_row)))))) W1 (fun hb6 P7 hP8 => ?_) (fun hb6 => ⟨or_t hb6, W1⟩) (fun H14 W15 => ?_)
      · refine i_not ?_
        refine i_test ?_
        refine i_chain ?_
        refine i_c ?_
        refine i_var rfl ?_
        refine i_I0 ?_
        refine i_bl ?_
        refine w_chainW (L' := _) ((decide (1 ≤ x_many)) && (decide (x_many ≤ (lenI x_row)))) W1 (fun hb9 P10 hP11 => ?_) (fun hb9 => ⟨and_f hb9, W1⟩) (fun H12 W13 => ?_)
        · refine i_cb ?_
          refine i_tcons ?_
          refine i_var rfl ?_
          refine i_tnil ?_
          refine w_len W1 (Lx.ls (Lx.flat (t := true) (Lx.kn (Kn.at 0 rfl)))) ?_
          refine i_I0 ?_
          exact hP11 _ _ (and_t hb9) W1
        refine i_bl ?_
        exact hP8 _ _ (or_f hb6) W13
      exact hP5 _ _ (or_f hb3) W15
    clear W0 W1
    rcases iteE hm with ⟨hb18, hm⟩ | ⟨hb18, hm⟩
    · refine i_bT hb18 ?_
      cases hm
    · refine i_bF hb18 ?_
      refine i_next ?_
      exact hq _ (some_inj hm) _ _ (Wd.res (x := (() : Unit)) W17 Kn.unit)
end
/-! ### ring_least_greatest -/
abbrev sp_ring_least_greatest (K : PySem.W.Frag) : Sp := fun vs H Q _ => ∃ (x_row : (List Int)) (v_row : V) (x_many : Int),  vs = [v_row, .int x_many] ∧ Rp.rep (lkA K H) x_row v_row ∧ ∃ r : (Option (Int × (List Int))), m_ring_least_greatest x_row x_many = some r ∧ ∀ v' H', Res K H r v' H' → Q v' H'
section
variable {P : Program} {w : World} {K : PySem.W.Frag} {mg : Str → Option Value} {base : Heap}
abbrev N_ring_least_greatest : List Str := ["row", "many", "best", "place", "bound", "cut", "at"]
theorem scope_ring_least_greatest : FnScope N_ring_least_greatest ["row", "many"] (defScope s_ring_least_greatest) := ⟨rfl, rfl, rfl, by decide +kernel, rfl, by decide +kernel, by decide +kernel⟩
-- comprehension scope 0
theorem ok_ring_least_greatest {f : Addr} {fd : FuncData} (F : FunD K "ring_least_greatest" "ring_least_greatest" (defArgs s_ring_least_greatest) (defBody s_ring_least_greatest) (defScope s_ring_least_greatest) [] [] f fd) (hm : mg "ring_least_greatest" = some (.ref f)) (Z : Blt mg) (SM : SMd base) (XX : Exs K mg es6)
    (C_least_greatest : Fn P w K mg base 4 "least_greatest" ["row", "many"] (sp_least_greatest K))
    (C_need_pieces_rings : Fn P w K mg base 1 "need_pieces_rings" ["row", "many"] (sp_need_pieces_rings K)) :
    Fn P w K mg base 5 "ring_least_greatest" ["row", "many"] (sp_ring_least_greatest K) := by
  refine mkFn F hm (fun _ _ _ _ _ _ us hl => match us, hl with | [_, _], _ => rfl) (okG (k := 4) F scope_ring_least_greatest (fun vs H0 Q E h => ?_) (fun cdv A outer s H0 vs Q E hr hgd h => ?_))
  · obtain ⟨_, _, _, rfl, _⟩ := h; rfl
  · have nd := scope_ring_least_greatest.nd
    have hu := hr.units
    have hr_least_greatest : Room 4 _ := hr.mono (by decide : 4 ≤ 4)
    have hr_need_pieces_rings : Room 1 _ := hr.mono (by decide : 1 ≤ 4)
    unfold sp_ring_least_greatest at h
    refine ⟨_, PSs.nox (pss_cons (ps_expr (pe_fn C_need_pieces_rings hr_need_pieces_rings hgd (by rfl) passL (pa_cons (pv 0) (pa_cons (pv 1) pa_nil))))
    (pss_cons (ps_set (i := 2) nd rfl (.inl rfl) pe_non)
    (pss_cons (ps_for PassesOwn.never rfl (pi_range1 (by rfl) Z.range_ (pa_cons (pe_callB cl_len (by rfl) Z.len_ (by decide +kernel) (pa_cons (pv 0) pa_nil)) pa_nil)) (pg_name (i := 3) nd rfl (.inr rfl)) (pss_cons (ps_asg (pe_fn C_least_greatest hr_least_greatest hgd (by rfl) passL (pa_cons (pe_op op_addA (pe_slice sl_list (pv 0) (po_some (pv 3)) po_none) (pe_slice sl_list (pv 0) po_none (po_some (pv 3)))) (pa_cons (pv 1) pa_nil))) (pg_tup (by rfl) (pgs_cons (pg_name (i := 4) nd rfl (.inl rfl)) (pgs_cons (pg_name (i := 5) nd rfl (.inl rfl)) pgs_nil))))
    (pss_one (ps_if (PW.pt (pw_or (pt_cmpR op_isNn (pv 2) pe_non (nomark _)) (pw_or1 (pt_cmpR (op_ltA hu) (pv 4) (pe_ix ix_seq (pv 2) pe_int (fun _ _ => rfl)) (nomark _))))) (pss_one (ps_set (i := 2) nd rfl (.inl rfl) (pe_tup (pa_cons (pv 4) (pa_cons (pe_callB cr_sortedI (by rfl) Z.sorted_ (by decide +kernel) (pa_cons (pe_lc (own := [("at", 6)]) (g := gName 6) (tt := tYes) (by rfl) nd (pi_list (pe_op op_addA (pe_lst (pa_cons pe_int pa_nil)) (pv 5))) (blkOk_by (own := [("at", 6)]) (N := N_ring_least_greatest) (sc := (defScope s_ring_least_greatest)) (by decide +kernel)) (fun _ _ _ _ _ => (pg_name (i := 6) nd rfl (.inl rfl))) (fun _ _ _ _ _ => pts_nil) (fun _ _ _ _ _ => (pe_op op_mod (pe_op op_addA (pv 3) (pv 6)) (pe_callB (r := rLen K) cl_len (by rfl) Z.len_ (by decide +kernel) (pa_cons (pv 0) pa_nil))))) pa_nil)) pa_nil))))) pss_nil))))
    (pss_one (ps_ret (pv 2)))))), ?_⟩
    (try dsimp only [cxOf])
    obtain ⟨x_row, v_row, x_many, rfl, h_row, r0, hm, q⟩ := h
    let G_ : (Option (Int × (List Int))) → Prop := fun r => ∀ v' H', Res K H0 r v' H' → Q v' H'
    have hq : ∀ r, r = r0 → G_ r := fun r e => by subst e; exact q
    clear q
    unfold m_ring_least_greatest at hm
    have W0 := Wd.start (K := K) H0
    have W1 := Wd.arg W0 h_row
    obtain ⟨a2, rfl⟩ := Wd.eqL W1 (Kn.at 0 rfl)
    refine i_seq ?_
    refine i_drop ?_
    refine i_call ?_
    refine i_tcons ?_
    refine i_var rfl ?_
    refine i_tcons ?_
    refine i_var rfl ?_
    refine i_tnil ?_
    replace hm := bndE hm
    obtain ⟨r3, h4, hm⟩ := hm
    refine ⟨(x_row : (List Int)), _, x_many, rfl, (Wd.arr W1 (Ar.kn (t := false) (Kn.at 0 rfl))), r3, h4, fun v5 H6 R7 => ?_⟩
    obtain ⟨rfl, W8⟩ := Wd.callU W1 R7
    clear W0 W1
    refine i_seq ?_
    refine i_asg ?_
    refine i_c ?_
    refine i_gName ?_
    refine i_seq ?_
    refine i_for ?_
    refine i_iRng1 ?_
    refine i_tcons ?_
    refine i_cb ?_
    refine i_tcons ?_
    refine i_var rfl ?_
    refine i_tnil ?_
    refine w_len W8 (Lx.ls (Lx.flat (t := true) (Lx.kn (Kn.at 0 rfl)))) ?_
    refine i_tnil ?_
    replace hm := bndE hm
    obtain ⟨x10, h11, hm⟩ := hm
    refine w_rg1 h11 (fun e9 => ?_)
    subst e9
    have W12 := Wd.know (t := true) (x := ((none : (Option (Int × (List Int)))) : (Option (Int × (List Int))))) W8 Kn.none
    have W13 := Wd.sel W12 [0, 1] rfl
    replace hm := bndE hm
    obtain ⟨o19, h20, hm⟩ := hm
    refine w_fold (⟨fun b e => [some (.ref a2), some (.int x_many), some e.1, e.2.2.2, e.2.1, e.2.2.1, none], fun b e => [fc true (b : (Option (Int × (List Int)))) e.1, fc false (x_row : (List Int)) (.ref a2)], fun b e => []⟩ : Shp ((Option (Int × (List Int)))) (V × Option V × Option V × Option V)) (.non, none, none, none) h20 rfl W13 gv_rng ?_ ?_
    · intro x16 v17 b14 e15 H21 o22 W18 hm
      obtain ⟨e15_0, e15_1, e15_2, e15_3⟩ := e15
      dsimp only at W18 ⊢
      obtain rfl := Wd.eqI W18 (Kn.at 0 rfl)
      refine i_gName ?_
      refine i_seq ?_
      refine i_asg ?_
      refine i_call ?_
      refine i_tcons ?_
      refine i_op ?_
      refine i_sl ?_
      refine i_var rfl ?_
      refine i_part ?_
      refine i_var rfl ?_
      refine i_partI ?_
      refine i_nopart ?_
      refine w_slice W18 (Lx.ls (Lx.flat (t := true) (Lx.kn (Kn.at 2 rfl)))) (fun p27 H28 W29 => ?_)
      have W30 := Wd.frz W29
      refine i_sl ?_
      refine i_var rfl ?_
      refine i_nopart ?_
      refine i_part ?_
      refine i_var rfl ?_
      refine i_partI ?_
      refine w_slice W30 (Lx.ls (Lx.flat (t := true) (Lx.kn (Kn.at 3 rfl)))) (fun p31 H32 W33 => ?_)
      have W34 := Wd.frz W33
      replace hm := bndE hm
      obtain ⟨x35, h36, hm⟩ := hm
      refine w_cat W34 (Lx.kn (Kn.at 1 rfl)) (Lx.kn (Kn.at 0 rfl)) h36 (fun p37 H38 W39 => ?_)
      have W40 := Wd.frz W39
      refine i_tcons ?_
      refine i_var rfl ?_
      refine i_tnil ?_
      replace hm := bndE hm
      obtain ⟨r41, h42, hm⟩ := hm
      refine ⟨(x35 : (List Int)), _, x_many, rfl, (Wd.arr W40 (Ar.kn (t := true) (Kn.at 0 rfl))), r41, h42, fun v43 H44 R45 => ?_⟩
      have W46 := Wd.call W40 R45
      obtain ⟨a47, rfl⟩ := Wd.eqP W46 (Kn.at 0 rfl)
      refine i_gTup ?_
      refine w_unpP W46 (Kn.at 0 rfl) (fun u48 u49 W50 => ?_)
      obtain rfl := Wd.eqI W50 (Kn.at 0 rfl)
      obtain ⟨a51, rfl⟩ := Wd.eqL W50 (Kn.at 1 rfl)
      refine i_gCons ?_
      refine i_gName ?_
      refine i_gCons ?_
      refine i_gName ?_
      refine i_gNil ?_
      clear W18 W29 W30 W33 W34 W39 W40 W46
      refine i_ifS ?_
      refine i_or ?_
      refine i_test ?_
      refine i_op ?_
      refine i_var rfl ?_
      refine i_c ?_
      refine w_isN W50 (Kn.at 7 rfl) ?_
      refine i_bl ?_
      replace hm := bndE hm
      obtain ⟨x62, h63, hm⟩ := hm
      refine w_orW (L' := []) x62 W50 (fun hb52 P53 hP54 => ?_) (fun hb52 => ?_) (fun H64 W65 => ?_)
      · have hm : _ = some x62 := (if_neg (by rw [hb52]; exact Bool.false_ne_true)).symm.trans h63
        refine i_test ?_
        refine i_op ?_
        refine i_var rfl ?_
        refine i_op ?_
        refine i_var rfl ?_
        replace hm := bndE hm
        obtain ⟨x55, h56, hm⟩ := hm
        have W57 := Wd.unopt (t := true) W50 (Kn.at 7 rfl) h56
        obtain ⟨a58, rfl⟩ := Wd.eqP W57 (Kn.at 0 rfl)
        refine i_c ?_
        refine w_fstP W57 (Kn.at 0 rfl) (fun u59 W60 => ?_)
        obtain rfl := Wd.eqI W60 (Kn.at 0 rfl)
        refine i_ltA ?_
        refine i_bl ?_
        have W61 := Wd.drop W60 2 rfl
        have hm := some_inj hm
        exact hP54 _ _ hm W61
      · have hm := some_inj ((if_pos hb52).symm.trans h63)
        exact ⟨hm, W50⟩
      clear W50
      rcases iteE hm with ⟨hb67, hm⟩ | ⟨hb67, hm⟩
      · refine i_bT hb67 ?_
        refine i_asg ?_
        refine i_ttup ?_
        refine i_tcons ?_
        refine i_var rfl ?_
        refine i_tcons ?_
        refine i_cb ?_
        refine i_tcons ?_
        refine i_lc ?_
        refine i_iList ?_
        refine i_op ?_
        refine i_tlst ?_
        refine i_tcons ?_
        refine i_c ?_
        refine i_tnil ?_
        refine w_lst (α := Int) (t := true) W65 (KnL.cons Kn.int KnL.nil) (by show (1 : Nat) ≤ sizeLine; decide) (fun p68 H69 W70 => ?_)
        have W71 := Wd.frz W70
        refine i_var rfl ?_
        replace hm := bndE hm
        obtain ⟨x72, h73, hm⟩ := hm
        refine w_cat W71 (Lx.kn (Kn.at 0 rfl)) (Lx.kn (Kn.at 2 rfl)) h73 (fun p74 H75 W76 => ?_)
        have W77 := Wd.frz W76
        refine w_itL W77 (Lx.ls (Lx.kn (Kn.at 0 rfl))) ?_
        replace hm := bndE hm
        obtain ⟨x94, h95, hm⟩ := hm
        refine w_map (γ := Int) true h95 W77 (fun _ => (gv_list (fun _ _ => (Lx.ls (Lx.kn (Kn.at 0 rfl)))))) (fun D80 x78 v79 acc81 H82 y83 ha84 W85 hm => ?_) (fun p91 H92 W93 => ?_)
        · obtain rfl := Wd.eqI W85 (Kn.at 0 rfl)
          refine i_gName ?_
          refine i_wipe rfl ?_
          refine i_yes ?_
          refine i_T ?_
          refine i_op ?_
          refine i_op ?_
          refine i_var rfl ?_
          refine i_var rfl ?_
          refine i_addI ?_
          refine i_cb ?_
          refine i_tcons ?_
          refine i_var rfl ?_
          refine i_tnil ?_
          refine w_len W85 (Lx.ls (Lx.flat (t := true) (Lx.kn (Kn.at 11 rfl)))) ?_
          replace hm := bndE hm
          obtain ⟨x87, h88, hm⟩ := hm
          refine w_mod h88 ?_
          obtain rfl := some_inj hm
          refine w_elt W85 Kn.int ha84 (fun H89 W90 => ?_)
          exact ⟨(), Wd.drop W90 1 rfl⟩
        have W96 := Wd.frz W93
        refine i_tnil ?_
        refine w_sorted W96 (Lx.ls (Lx.kn (Kn.at 0 rfl))) (fun p97 H98 W99 => ?_)
        have W100 := Wd.frz W99
        refine i_tnil ?_
        refine w_tup2 (t := true) W100 Kn.int (Kn.at 0 rfl) (fun p101 H102 W103 => ?_)
        refine i_gName ?_
        clear W65 W70 W71 W76 W77 W93 W96 W99 W100
        have W104 := Wd.know (t := true) (x := ((some (r41.1, (sortI x94))) : (Option (Int × (List Int))))) W103 (Kn.some (Kn.at 0 rfl))
        have W105 := Wd.sel W104 [0, 14] rfl
        obtain rfl := some_inj hm
        exact ⟨((.ref p101), some (.int r41.1), some (.ref a51), some (.int x16)), rfl, W105⟩
      · refine i_bF hb67 ?_
        refine i_next ?_
        have W106 := Wd.sel W65 [7, 8] rfl
        obtain rfl := some_inj hm
        exact ⟨(e15_0, some (.int r41.1), some (.ref a51), some (.int x16)), rfl, W106⟩
    · intro e108 H109 W110
      obtain ⟨e108_0, e108_1, e108_2, e108_3⟩ := e108
      dsimp only at W110 ⊢
      refine i_ret ?_
      refine i_var rfl ?_
      exact hq _ (some_inj hm) _ _ (Wd.res (x := (o19 : (Option (Int × (List Int))))) W110 (Kn.at 0 rfl))
end
/-! ### _law_told -/
abbrev sp__law_told (K : PySem.W.Frag) : Sp := fun vs H Q _ => ∃ (x_way : Int) (x_row : (List Int)) (v_row : V) (x_many : Int) (x_thing : Th) (v_thing : V),  vs = [.int x_way, v_row, .int x_many, v_thing] ∧ Rp.rep (lkA K H) x_row v_row ∧ Rp.rep (lkA K H) x_thing v_thing ∧ ∃ r : Th, m__law_told x_way x_row x_many x_thing = some r ∧ ∀ v' H', Res K H r v' H' → Q v' H'
section
variable {P : Program} {w : World} {K : PySem.W.Frag} {mg : Str → Option Value} {base : Heap}
abbrev N__law_told : List Str := ["way", "row", "many", "thing"]
theorem scope__law_told : FnScope N__law_told ["way", "row", "many", "thing"] (defScope s__law_told) := ⟨rfl, rfl, rfl, by decide +kernel, rfl, by decide +kernel, by decide +kernel⟩
theorem ok__law_told {f : Addr} {fd : FuncData} (F : FunD K "_law_told" "_law_told" (defArgs s__law_told) (defBody s__law_told) (defScope s__law_told) [] [] f fd) (hm : mg "_law_told" = some (.ref f)) (Z : Blt mg) (SM : SMd base) (XX : Exs K mg es6)
    (C_ring_least_greatest : Fn P w K mg base 5 "ring_least_greatest" ["row", "many"] (sp_ring_least_greatest K))
    (C_says_least : Fn P w K mg base 3 "says_least" ["row", "many", "thing"] (sp_says_least K))
    (C_paper_of_least : Fn P w K mg base 4 "paper_of_least" ["row", "many"] (sp_paper_of_least K))
    (C_says_greatest : Fn P w K mg base 3 "says_greatest" ["row", "many", "thing"] (sp_says_greatest K))
    (C_paper_of_greatest : Fn P w K mg base 5 "paper_of_greatest" ["row", "many"] (sp_paper_of_greatest K)) :
    Fn P w K mg base 6 "_law_told" ["way", "row", "many", "thing"] (sp__law_told K) := by
  refine mkFn F hm (fun _ _ _ _ _ _ us hl => match us, hl with | [_, _, _, _], _ => rfl) (okG (k := 5) F scope__law_told (fun vs H0 Q E h => ?_) (fun cdv A outer s H0 vs Q E hr hgd h => ?_))
  · obtain ⟨_, _, _, _, _, _, rfl, _⟩ := h; rfl
  · have nd := scope__law_told.nd
    have hu := hr.units
    have hr_ring_least_greatest : Room 5 _ := hr.mono (by decide : 5 ≤ 5)
    have hr_says_least : Room 3 _ := hr.mono (by decide : 3 ≤ 5)
    have hr_paper_of_least : Room 4 _ := hr.mono (by decide : 4 ≤ 5)
    have hr_says_greatest : Room 3 _ := hr.mono (by decide : 3 ≤ 5)
    have hr_paper_of_greatest : Room 5 _ := hr.mono (by decide : 5 ≤ 5)
    unfold sp__law_told at h
    refine ⟨_, PSs.nox (pss_cons (ps_if (pt_cmpR (op_eqA hu) (pv 0) pe_int (nomark _)) (pss_one (ps_ret (pe_fn C_paper_of_greatest hr_paper_of_greatest hgd (by rfl) passL (pa_cons (pv 1) (pa_cons (pv 2) pa_nil))))) pss_nil)
    (pss_cons (ps_if (pt_cmpR (op_eqA hu) (pv 0) pe_int (nomark _)) (pss_one (ps_ret (pe_fn C_says_greatest hr_says_greatest hgd (by rfl) passL (pa_cons (pv 1) (pa_cons (pv 2) (pa_cons (pv 3) pa_nil)))))) pss_nil)
    (pss_cons (ps_if (pt_cmpR (op_eqA hu) (pv 0) pe_int (nomark _)) (pss_one (ps_ret (pe_fn C_paper_of_least hr_paper_of_least hgd (by rfl) passL (pa_cons (pv 1) (pa_cons (pv 2) pa_nil))))) pss_nil)
    (pss_cons (ps_if (pt_cmpR (op_eqA hu) (pv 0) pe_int (nomark _)) (pss_one (ps_ret (pe_fn C_says_least hr_says_least hgd (by rfl) passL (pa_cons (pv 1) (pa_cons (pv 2) (pa_cons (pv 3) pa_nil)))))) pss_nil)
    (pss_one (ps_ret (pe_fn C_ring_least_greatest hr_ring_least_greatest hgd (by rfl) passL (pa_cons (pv 1) (pa_cons (pv 2) pa_nil))))))))), ?_⟩
    (try dsimp only [cxOf])
    obtain ⟨x_way, x_row, v_row, x_many, x_thing, v_thing, rfl, h_row, h_thing, r0, hm, q⟩ := h
    let G_ : Th → Prop := fun r => ∀ v' H', Res K H0 r v' H' → Q v' H'
    have hq : ∀ r, r = r0 → G_ r := fun r e => by subst e; exact q
    clear q
    unfold m__law_told at hm
    have W0 := Wd.start (K := K) H0
    have W1 := Wd.arg W0 h_row
    obtain ⟨a2, rfl⟩ := Wd.eqL W1 (Kn.at 0 rfl)
    have W3 := Wd.arg W1 h_thing
    refine i_seq ?_
    refine i_ifS ?_
    refine i_test ?_
    refine i_op ?_
    refine i_var rfl ?_
    refine i_c ?_
    refine i_eqI ?_
    refine i_bl ?_
    clear W0 W1
    rcases iteE hm with ⟨hb4, hm⟩ | ⟨hb4, hm⟩
    · refine i_bT hb4 ?_
      refine i_ret ?_
      refine i_call ?_
      refine i_tcons ?_
      refine i_var rfl ?_
      refine i_tcons ?_
      refine i_var rfl ?_
      refine i_tnil ?_
      replace hm := bndE hm
      obtain ⟨r5, h6, hm⟩ := hm
      refine ⟨(x_row : (List Int)), _, x_many, rfl, (Wd.arr W3 (Ar.kn (t := false) (Kn.at 1 rfl))), r5, h6, fun v7 H8 R9 => ?_⟩
      have W10 := Wd.call W3 R9
      obtain ⟨a11, rfl⟩ := Wd.eqP W10 (Kn.at 0 rfl)
      exact hq _ (some_inj hm) _ _ (Wd.res (x := ((Co.f (r5 : (PySem.Str × (Un Int (List (Int × Int))))) : Th) : Th)) W10 (Kn.co (α := (PySem.Str × (Un Int (List (Int × Int))))) (β := Th) (Kn.at 0 rfl)))
    · refine i_bF hb4 ?_
      refine i_next ?_
      refine i_seq ?_
      refine i_ifS ?_
      refine i_test ?_
      refine i_op ?_
      refine i_var rfl ?_
      refine i_c ?_
      refine i_eqI ?_
      refine i_bl ?_
      rcases iteE hm with ⟨hb12, hm⟩ | ⟨hb12, hm⟩
      · refine i_bT hb12 ?_
        refine i_ret ?_
        refine i_call ?_
        refine i_tcons ?_
        refine i_var rfl ?_
        refine i_tcons ?_
        refine i_var rfl ?_
        refine i_tcons ?_
        refine i_var rfl ?_
        refine i_tnil ?_
        replace hm := bndE hm
        obtain ⟨r13, h14, hm⟩ := hm
        refine ⟨(x_row : (List Int)), _, x_many, (x_thing : Th), _, rfl, (Wd.arr W3 (Ar.kn (t := false) (Kn.at 1 rfl))), (Wd.arr W3 (Ar.kn (t := false) (Kn.at 0 rfl))), r13, h14, fun v15 H16 R17 => ?_⟩
        have W18 := Wd.call W3 R17
        exact hq _ (some_inj hm) _ _ (Wd.res (x := ((Co.f (r13 : (Option Int)) : Th) : Th)) W18 (Kn.co (α := (Option Int)) (β := Th) (Kn.at 0 rfl)))
      · refine i_bF hb12 ?_
        refine i_next ?_
        refine i_seq ?_
        refine i_ifS ?_
        refine i_test ?_
        refine i_op ?_
        refine i_var rfl ?_
        refine i_c ?_
        refine i_eqI ?_
        refine i_bl ?_
        rcases iteE hm with ⟨hb19, hm⟩ | ⟨hb19, hm⟩
        · refine i_bT hb19 ?_
          refine i_ret ?_
          refine i_call ?_
          refine i_tcons ?_
          refine i_var rfl ?_
          refine i_tcons ?_
          refine i_var rfl ?_
          refine i_tnil ?_
          replace hm := bndE hm
          obtain ⟨r20, h21, hm⟩ := hm
          refine ⟨(x_row : (List Int)), _, x_many, rfl, (Wd.arr W3 (Ar.kn (t := false) (Kn.at 1 rfl))), r20, h21, fun v22 H23 R24 => ?_⟩
          obtain ⟨p26, rfl, W25⟩ := Wd.callO W3 R24
          have W27 := Wd.frz W25
          exact hq _ (some_inj hm) _ _ (Wd.res (x := ((Co.f (r20 : (List Int)) : Th) : Th)) W27 (Kn.co (α := (List Int)) (β := Th) (Kn.at 0 rfl)))
        · refine i_bF hb19 ?_
          refine i_next ?_
          refine i_seq ?_
          refine i_ifS ?_
          refine i_test ?_
          refine i_op ?_
          refine i_var rfl ?_
          refine i_c ?_
          refine i_eqI ?_
          refine i_bl ?_
          rcases iteE hm with ⟨hb28, hm⟩ | ⟨hb28, hm⟩
          · refine i_bT hb28 ?_
            refine i_ret ?_
            refine i_call ?_
            refine i_tcons ?_
            refine i_var rfl ?_
            refine i_tcons ?_
            refine i_var rfl ?_
            refine i_tcons ?_
            refine i_var rfl ?_
            refine i_tnil ?_
            replace hm := bndE hm
            obtain ⟨r29, h30, hm⟩ := hm
            refine ⟨(x_row : (List Int)), _, x_many, (x_thing : Th), _, rfl, (Wd.arr W3 (Ar.kn (t := false) (Kn.at 1 rfl))), (Wd.arr W3 (Ar.kn (t := false) (Kn.at 0 rfl))), r29, h30, fun v31 H32 R33 => ?_⟩
            have W34 := Wd.call W3 R33
            exact hq _ (some_inj hm) _ _ (Wd.res (x := ((Co.f (r29 : (Option Int)) : Th) : Th)) W34 (Kn.co (α := (Option Int)) (β := Th) (Kn.at 0 rfl)))
          · refine i_bF hb28 ?_
            refine i_next ?_
            refine i_ret ?_
            refine i_call ?_
            refine i_tcons ?_
            refine i_var rfl ?_
            refine i_tcons ?_
            refine i_var rfl ?_
            refine i_tnil ?_
            replace hm := bndE hm
            obtain ⟨r35, h36, hm⟩ := hm
            refine ⟨(x_row : (List Int)), _, x_many, rfl, (Wd.arr W3 (Ar.kn (t := false) (Kn.at 1 rfl))), r35, h36, fun v37 H38 R39 => ?_⟩
            have W40 := Wd.call W3 R39
            exact hq _ (some_inj hm) _ _ (Wd.res (x := ((Co.f (r35 : (Option (Int × (List Int)))) : Th) : Th)) W40 (Kn.co (α := (Option (Int × (List Int)))) (β := Th) (Kn.at 0 rfl)))
end
/-! ### _law_no_many -/
abbrev sp__law_no_many (K : PySem.W.Frag) : Sp := fun vs H Q _ => ∃ (a_draws : Addr) (x_draws : (List Int)) (us_draws : List V) (x_size : Int),  vs = [.ref a_draws, .int x_size] ∧ H a_draws = some (.lst us_draws) ∧ All2 (Rp.rep (lkN fun _ => none)) x_draws us_draws ∧ ∃ r : ((List Th) × (List Int)), m__law_no_many x_draws x_size = some r ∧ ∀ v' H', Res1 K H a_draws r v' H' → Q v' H'
section
variable {P : Program} {w : World} {K : PySem.W.Frag} {mg : Str → Option Value} {base : Heap}
abbrev N__law_no_many : List Str := ["draws", "size", "far", "some", "k"]
theorem scope__law_no_many : FnScope N__law_no_many ["draws", "size"] (defScope s__law_no_many) := ⟨rfl, rfl, rfl, by decide +kernel, rfl, by decide +kernel, by decide +kernel⟩
-- comprehension scope 0
theorem ok__law_no_many {f : Addr} {fd : FuncData} (F : FunD K "_law_no_many" "_law_no_many" (defArgs s__law_no_many) (defBody s__law_no_many) (defScope s__law_no_many) [] [] f fd) (hm : mg "_law_no_many" = some (.ref f)) (Z : Blt mg) (SM : SMd base) (XX : Exs K mg es6)
    (C__law_take : Fn P w K mg base 1 "_law_take" ["draws", "many"] (sp__law_take K)) :
    Fn P w K mg base 2 "_law_no_many" ["draws", "size"] (sp__law_no_many K) := by
  refine mkFn F hm (fun _ _ _ _ _ _ us hl => match us, hl with | [_, _], _ => rfl) (okG (k := 1) F scope__law_no_many (fun vs H0 Q E h => ?_) (fun cdv A outer s H0 vs Q E hr hgd h => ?_))
  · obtain ⟨_, _, _, _, rfl, _⟩ := h; rfl
  · have nd := scope__law_no_many.nd
    have hu := hr.units
    have hr__law_take : Room 1 _ := hr.mono (by decide : 1 ≤ 1)
    unfold sp__law_no_many at h
    refine ⟨_, PSs.nox (pss_cons (ps_set (i := 2) nd rfl (.inl rfl) (pe_op op_addA (pe_op op_addA (pv 1) pe_int) (pe_op op_mulA (pe_fn C__law_take hr__law_take hgd (by rfl) passL (pa_cons (pv 0) (pa_cons pe_int pa_nil))) (pe_op op_addA pe_int (pe_fn C__law_take hr__law_take hgd (by rfl) passL (pa_cons (pv 0) (pa_cons pe_int pa_nil)))))))
    (pss_cons (ps_set (i := 3) nd rfl (.inr rfl) (pe_lst (pa_cons pe_int (pa_cons (pe_op op_addA (pv 1) pe_int) (pa_cons (pv 2) (pa_cons (pe_un un_neg pe_int) (pa_cons (pe_op op_sub pe_int (pv 2)) (pa_cons (pe_op op_sub pe_int (pv 1)) (pa_cons (pe_op op_pow pe_int pe_int) (pa_cons pe_bl (pa_cons pe_bl (pa_cons pe_non (pa_cons pe_str (pa_cons (pe_callTy (r := rStrI) call_strI (by rfl) Z.str_ (by decide +kernel) (pa_cons (pv 1) pa_nil)) (pa_cons pe_str (pa_cons (pe_lst (pa_cons pe_int pa_nil)) (pa_cons (pe_tup (pa_cons pe_int pa_nil)) (pa_cons pe_dnewK (pa_cons (pe_lst pa_nil) pa_nil)))))))))))))))))))
    (pss_one (ps_ret (pe_op op_addA (pe_lc (own := [("k", 4)]) (g := gName 4) (tt := tYes) (by rfl) nd (pi_range1 (by rfl) Z.range_ (pa_cons pe_int pa_nil)) (blkOk_by (own := [("k", 4)]) (N := N__law_no_many) (sc := (defScope s__law_no_many)) (by decide +kernel)) (fun _ _ _ _ _ => (pg_name (i := 4) nd rfl (.inl rfl))) (fun _ _ _ _ _ => pts_nil) (fun _ _ _ _ _ => (pe_ix (r := rIx K) ix_seq (pv 3) (pe_fn C__law_take hr__law_take hgd (by rfl) passL (pa_cons (pv 0) (pa_cons pe_int pa_nil))) (fun _ _ => rfl)))) (pe_lst (pa_cons pe_int (pa_cons (pe_op op_addA (pv 1) pe_int) (pa_cons pe_bl pa_nil))))))))), ?_⟩
    (try dsimp only [cxOf])
    obtain ⟨a_draws, x_draws, us_draws, x_size, rfl, ha_draws, hr_draws, r0, hm, q⟩ := h
    let G_ : ((List Th) × (List Int)) → Prop := fun r => ∀ v' H', Res1 K H0 a_draws r v' H' → Q v' H'
    have hq : ∀ r, r = r0 → G_ r := fun r e => by subst e; exact q
    clear q
    unfold m__law_no_many at hm
    have hB : H0 a_draws ≠ none := fun e => by rw [ha_draws] at e; cases e
    have W0 : Wd K (del H0 a_draws) [] [oL true a_draws x_draws] H0 := Wd.mut ha_draws hr_draws
    refine i_seq ?_
    refine i_asg ?_
    refine i_op ?_
    refine i_op ?_
    refine i_var rfl ?_
    refine i_c ?_
    refine i_addI ?_
    refine i_op ?_
    refine i_call ?_
    refine i_tcons ?_
    refine i_var rfl ?_
    refine i_tcons ?_
    refine i_c ?_
    refine i_tnil ?_
    replace hm := bndE hm
    obtain ⟨r1, h2, hm⟩ := hm
    obtain ⟨us9, h7, h8⟩ := Wd.ioa W0 0 rfl
    refine ⟨a_draws, (x_draws : List Int), us9, 1000, rfl, h7, h8, r1, h2, fun v3 H4 R5 => ?_⟩
    obtain ⟨rfl, W6⟩ := Wd.call1I (i := r1.1) (ys' := r1.2) W0 0 rfl R5
    refine i_op ?_
    refine i_c ?_
    refine i_call ?_
    refine i_tcons ?_
    refine i_var rfl ?_
    refine i_tcons ?_
    refine i_c ?_
    refine i_tnil ?_
    replace hm := bndE hm
    obtain ⟨r10, h11, hm⟩ := hm
    obtain ⟨us18, h16, h17⟩ := Wd.ioa W6 0 rfl
    refine ⟨a_draws, (r1.2 : List Int), us18, 1000, rfl, h16, h17, r10, h11, fun v12 H13 R14 => ?_⟩
    obtain ⟨rfl, W15⟩ := Wd.call1I (i := r10.1) (ys' := r10.2) W6 0 rfl R14
    refine i_addI ?_
    replace hm := bndE hm
    obtain ⟨x19, h20, hm⟩ := hm
    refine w_mul h20 ?_
    refine i_addI ?_
    refine i_gName ?_
    clear W0 W6
    refine i_seq ?_
    refine i_asg ?_
    refine i_tlst ?_
    refine i_tcons ?_
    refine i_c ?_
    refine i_tcons ?_
    refine i_op ?_
    refine i_var rfl ?_
    refine i_c ?_
    refine i_addI ?_
    refine i_tcons ?_
    refine i_var rfl ?_
    refine i_tcons ?_
    refine i_un ?_
    refine i_c ?_
    refine i_rU ?_
    refine i_tcons ?_
    refine i_op ?_
    refine i_c ?_
    refine i_var rfl ?_
    refine i_I0 ?_
    refine i_tcons ?_
    refine i_op ?_
    refine i_c ?_
    refine i_var rfl ?_
    refine i_I0 ?_
    refine i_tcons ?_
    refine i_op ?_
    refine i_c ?_
    refine i_c ?_
    refine i_pow (n := 1000000000000000000000000000000) (by decide) (by decide) ?_
    refine i_tcons ?_
    refine i_c ?_
    refine i_tcons ?_
    refine i_c ?_
    refine i_tcons ?_
    refine i_c ?_
    refine i_tcons ?_
    refine i_c ?_
    refine i_tcons ?_
    refine i_cb ?_
    refine i_tcons ?_
    refine i_var rfl ?_
    refine i_tnil ?_
    replace hm := bndE hm
    obtain ⟨x21, h22, hm⟩ := hm
    refine w_strI h22 ?_
    refine i_tcons ?_
    refine i_c ?_
    refine i_tcons ?_
    refine i_tlst ?_
    refine i_tcons ?_
    refine i_c ?_
    refine i_tnil ?_
    refine w_lst (α := Int) (t := true) W15 (KnL.cons Kn.int KnL.nil) (by show (1 : Nat) ≤ sizeLine; decide) (fun p23 H24 W25 => ?_)
    have W26 := Wd.frz W25
    refine i_tcons ?_
    refine i_ttup ?_
    refine i_tcons ?_
    refine i_c ?_
    refine i_tnil ?_
    refine w_tup1 (t := true) W26 Kn.int (fun p27 H28 W29 => ?_)
    refine i_tcons ?_
    refine w_dnew W29 (fun p30 H31 W32 => ?_)
    refine i_tcons ?_
    refine i_tlst ?_
    refine i_tnil ?_
    refine w_lst (α := Int) (t := true) W32 KnL.nil (by show (0 : Nat) ≤ sizeLine; decide) (fun p33 H34 W35 => ?_)
    have W36 := Wd.frz W35
    refine i_tnil ?_
    refine w_lst (α := Th) (t := true) W36 (KnL.cons (Kn.co (α := Int) (β := Th) Kn.int) (KnL.cons (Kn.co (α := Int) (β := Th) Kn.int) (KnL.cons (Kn.co (α := Int) (β := Th) Kn.int) (KnL.cons (Kn.co (α := Int) (β := Th) Kn.int) (KnL.cons (Kn.co (α := Int) (β := Th) Kn.int) (KnL.cons (Kn.co (α := Int) (β := Th) Kn.int) (KnL.cons (Kn.co (α := Int) (β := Th) Kn.int) (KnL.cons (Kn.co (α := Bool) (β := Th) Kn.bl) (KnL.cons (Kn.co (α := Bool) (β := Th) Kn.bl) (KnL.cons (Kn.co (α := Unit) (β := Th) Kn.unit) (KnL.cons (Kn.co (α := PySem.Str) (β := Th) Kn.str) (KnL.cons (Kn.co (α := PySem.Str) (β := Th) Kn.str) (KnL.cons (Kn.co (α := PySem.Str) (β := Th) Kn.str) (KnL.cons (Kn.co (α := (List Int)) (β := Th) (Kn.at 3 rfl)) (KnL.cons (Kn.co (α := (T1 Int)) (β := Th) (Kn.at 2 rfl)) (KnL.cons (Kn.at 1 rfl) (KnL.cons (Kn.co (α := (List Int)) (β := Th) (Kn.at 0 rfl)) KnL.nil))))))))))))))))) (by show (17 : Nat) ≤ sizeLine; decide) (fun p37 H38 W39 => ?_)
    have W40 := Wd.frz W39
    refine i_gName ?_
    clear W15 W25 W26 W29 W32 W35 W36 W39
    refine i_ret ?_
    refine i_op ?_
    refine i_lc ?_
    refine i_iRng1 ?_
    refine i_tcons ?_
    refine i_c ?_
    refine i_tnil ?_
    replace hm := bndE hm
    obtain ⟨x42, h43, hm⟩ := hm
    refine w_rg1 h43 (fun e41 => ?_)
    subst e41
    replace hm := bndE hm
    obtain ⟨x72, h73, hm⟩ := hm
    refine w_maps (γ := Th) (e0 := ()) (⟨fun b _ => [some (.ref a_draws), some (.int x_size), some (.int ((x_size + 1) + x19)), some (.ref p37), none], fun b _ => [fc true (([(Co.f (0 : Int) : Th), (Co.f ((x_size + 1) : Int) : Th), (Co.f (((x_size + 1) + x19) : Int) : Th), (Co.f ((-1) : Int) : Th), (Co.f ((0 - ((x_size + 1) + x19)) : Int) : Th), (Co.f ((0 - x_size) : Int) : Th), (Co.f (1000000000000000000000000000000 : Int) : Th), (Co.f (true : Bool) : Th), (Co.f (false : Bool) : Th), (Co.f (() : Unit) : Th), (Co.f (("1" : PySem.Str) : PySem.Str) : Th), (Co.f (x21 : PySem.Str) : Th), (Co.f (("" : PySem.Str) : PySem.Str) : Th), (Co.f (([1] : List Int) : (List Int)) : Th), (Co.f ((T1.mk 1) : (T1 Int)) : Th), (Th.dic [] []), (Co.f (([] : List Int) : (List Int)) : Th)] : List Th) : (List Th)) (.ref p37), fc true (([] : List Int) : (List Int)) (.ref p33), fc true ((Th.dic [] []) : Th) (.ref p30), fc true ((T1.mk 1) : (T1 Int)) (.ref p27), fc true (([1] : List Int) : (List Int)) (.ref p23)], fun b _ => [oL true a_draws (b : List Int)]⟩ : Shp (List Int) Unit) true h73 W40 (fun _ => gv_rng) (fun D46 x44 v45 b53 _ acc47 H48 y49 ha50 W51 hm => ?_) (fun p69 _ H70 W71 => ?_)
    · obtain rfl := Wd.eqI W51 (Kn.at 0 rfl)
      refine i_gName ?_
      refine i_wipe rfl ?_
      refine i_yes ?_
      refine i_T ?_
      refine i_op ?_
      refine i_var rfl ?_
      refine i_call ?_
      refine i_tcons ?_
      refine i_var rfl ?_
      refine i_tcons ?_
      refine i_c ?_
      refine i_tnil ?_
      replace hm := bndE hm
      obtain ⟨r54, h55, hm⟩ := hm
      obtain ⟨us62, h60, h61⟩ := Wd.ioa W51 1 rfl
      refine ⟨a_draws, (b53 : List Int), us62, 17, rfl, h60, h61, r54, h55, fun v56 H57 R58 => ?_⟩
      obtain ⟨rfl, W59⟩ := Wd.call1I (i := r54.1) (ys' := r54.2) W51 1 rfl R58
      replace hm := bndE hm
      obtain ⟨x63, h64, hm⟩ := hm
      refine w_ix W59 (Lx.ls (Lx.kn (Kn.at 1 rfl))) h64 (fun u65 W66 => ?_)
      obtain rfl := some_inj hm
      refine w_elt W66 (Kn.at 0 rfl) ha50 (fun H67 W68 => ?_)
      exact ⟨(), Wd.drop W68 2 rfl⟩
    have W74 := Wd.frz W71
    refine i_tlst ?_
    refine i_tcons ?_
    refine i_c ?_
    refine i_tcons ?_
    refine i_op ?_
    refine i_var rfl ?_
    refine i_c ?_
    refine i_addI ?_
    refine i_tcons ?_
    refine i_c ?_
    refine i_tnil ?_
    refine w_lst (α := Th) (t := true) W74 (KnL.cons (Kn.co (α := Int) (β := Th) Kn.int) (KnL.cons (Kn.co (α := Int) (β := Th) Kn.int) (KnL.cons (Kn.co (α := Bool) (β := Th) Kn.bl) KnL.nil))) (by show (3 : Nat) ≤ sizeLine; decide) (fun p75 H76 W77 => ?_)
    have W78 := Wd.frz W77
    replace hm := bndE hm
    obtain ⟨x79, h80, hm⟩ := hm
    refine w_cat W78 (Lx.kn (Kn.at 1 rfl)) (Lx.kn (Kn.at 0 rfl)) h80 (fun p81 H82 W83 => ?_)
    have W84 := Wd.frz W83
    exact hq _ (some_inj hm) _ _ (Wd.res1 (x := (x79 : (List Th))) W84 hB 0 rfl (Kn.at 0 rfl))
end
/-! ### X_need_pieces_papers -/
abbrev sp_X_need_pieces_papers (K : PySem.W.Frag) : Sp := fun vs H Q E => ∃ (x_row : (List Int)) (v_row : V) (x_many : Th) (v_many : V),  vs = [v_row, v_many] ∧ Rp.rep (lkA K H) x_row v_row ∧ Rp.rep (lkA K H) x_many v_many ∧ ∃ r : (Except Er Unit), m_X_need_pieces_papers x_row x_many = some r ∧ (∀ y, r = .ok y → ∀ v' H', Res K H y v' H' → Q v' H') ∧ ∀ c, r = .error c → ∀ H', Res K H (() : Unit) .non H' → E (.ref (He.ga K c.nm)) none H'
section
variable {P : Program} {w : World} {K : PySem.W.Frag} {mg : Str → Option Value} {base : Heap}
abbrev N_X_need_pieces_papers : List Str := ["row", "many"]
theorem scope_X_need_pieces_papers : FnScope N_X_need_pieces_papers ["row", "many"] (defScope s_need_pieces_papers) := ⟨rfl, rfl, rfl, by decide +kernel, rfl, by decide +kernel, by decide +kernel⟩
theorem ok_X_need_pieces_papers {f : Addr} {fd : FuncData} (F : FunD K "need_pieces" "need_pieces" (defArgs s_need_pieces_papers) (defBody s_need_pieces_papers) (defScope s_need_pieces_papers) [] [] f fd) (hm : mg "need_pieces_papers" = some (.ref f)) (Z : Blt mg) (SM : SMd base) (XX : Exs K mg es6)
    (C_is_among : Fn P w K mg base 1 "is_among" ["thing", "low", "high"] (sp_is_among K)) :
    Fn P w K mg base 2 "need_pieces_papers" ["row", "many"] (sp_X_need_pieces_papers K) := by
  refine mkFnA F hm (fun _ _ _ _ _ _ us hl => match us, hl with | [_, _], _ => rfl) (okG (k := 1) F scope_X_need_pieces_papers (fun vs H0 Q E h => ?_) (fun cdv A outer s H0 vs Q E hr hgd h => ?_))
  · obtain ⟨_, _, _, _, rfl, _⟩ := h; rfl
  · have nd := scope_X_need_pieces_papers.nd
    have hu := hr.units
    have hr_is_among : Room 1 _ := hr.mono (by decide : 1 ≤ 1)
    unfold sp_X_need_pieces_papers at h
    have g_NoMany : mg ("NoMany" : PySem.Str) = some (.ref (He.ga K ("NoMany" : PySem.Str))) := XX.glo .many (Er.mem6 _)
    obtain ⟨e1_NoMany, e2_NoMany, e3_NoMany, e4_NoMany⟩ := He.exc_ok (x := ("NoMany" : PySem.Str)) (XX.exc .many (Er.mem6 _))
    refine ⟨_, (pss_one (ps_if (pt_not (pt_val (pe_fn C_is_among hr_is_among hgd (by rfl) passL (pa_cons (pv 1) (pa_cons pe_int (pa_cons (pe_callB cl_len (by rfl) Z.len_ (by decide +kernel) (pa_cons (pv 0) pa_nil)) pa_nil)))))) (pss_one (ps_raise rfl (takes_of rfl rfl rfl rfl) (pmk_own PySem.F.excBase_ValueError e1_NoMany g_NoMany e2_NoMany (raises_own e3_NoMany e4_NoMany) rfl))) pss_nil)), ?_⟩
    (try dsimp only [cxOf])
    obtain ⟨x_row, v_row, x_many, v_many, rfl, h_row, h_many, r0, hm, q⟩ := h
    let G_ : (Except Er Unit) → Prop := fun r => (∀ y, r = .ok y → ∀ v' H', Res K H0 y v' H' → Q v' H') ∧ ∀ c, r = .error c → ∀ H', Res K H0 (() : Unit) .non H' → E (.ref (He.ga K c.nm)) none H'
    have hq : ∀ r, r = r0 → G_ r := fun r e => by subst e; exact q
    clear q
    unfold m_X_need_pieces_papers at hm
    have W0 := Wd.start (K := K) H0
    have W1 := Wd.arg W0 h_row
    obtain ⟨a2, rfl⟩ := Wd.eqL W1 (Kn.at 0 rfl)
    have W3 := Wd.arg W1 h_many
    refine i_ifS ?_
    refine i_not ?_
    refine i_tB ?_
    refine i_call ?_
    refine i_tcons ?_
    refine i_var rfl ?_
    refine i_tcons ?_
    refine i_c ?_
    refine i_tcons ?_
    refine i_cb ?_
    refine i_tcons ?_
    refine i_var rfl ?_
    refine i_tnil ?_
    refine w_len W3 (Lx.ls (Lx.flat (t := true) (Lx.kn (Kn.at 1 rfl)))) ?_
    refine i_tnil ?_
    replace hm := bndE hm
    obtain ⟨r4, h5, hm⟩ := hm
    refine ⟨(x_many : Th), _, 1, (lenI x_row), rfl, (Wd.arr W3 (Ar.kn (t := false) (Kn.at 0 rfl))), r4, h5, fun v6 H7 R8 => ?_⟩
    obtain ⟨rfl, W9⟩ := Wd.callB W3 R8
    refine i_bl ?_
    clear W0 W1 W3
    rcases iteE hm with ⟨hb10, hm⟩ | ⟨hb10, hm⟩
    · refine i_bT hb10 ?_
      exact (hq _ (some_inj hm)).2 _ rfl _ (Wd.res (x := (() : Unit)) W9 Kn.unit)
    · refine i_bF hb10 ?_
      refine i_next ?_
      exact (hq _ (some_inj hm)).1 _ rfl _ _ (Wd.res (x := (() : Unit)) W9 Kn.unit)
end
/-! ### X_paper_of_greatest -/
abbrev sp_X_paper_of_greatest (K : PySem.W.Frag) : Sp := fun vs H Q E => ∃ (x_row : (List Int)) (v_row : V) (x_many : Th) (v_many : V),  vs = [v_row, v_many] ∧ Rp.rep (lkA K H) x_row v_row ∧ Rp.rep (lkA K H) x_many v_many ∧ ∃ r : (Except Er Unit), m_X_paper_of_greatest x_row x_many = some r ∧ (∀ y, r = .ok y → ∀ v' H', Res K H y v' H' → Q v' H') ∧ ∀ c, r = .error c → ∀ H', Res K H (() : Unit) .non H' → E (.ref (He.ga K c.nm)) none H'
section
variable {P : Program} {w : World} {K : PySem.W.Frag} {mg : Str → Option Value} {base : Heap}
abbrev N_X_paper_of_greatest : List Str := ["row", "many", "bound"]
theorem scope_X_paper_of_greatest : FnScope N_X_paper_of_greatest ["row", "many"] (defScope s_paper_of_greatest) := ⟨rfl, rfl, rfl, by decide +kernel, rfl, by decide +kernel, by decide +kernel⟩
theorem ok_X_paper_of_greatest {f : Addr} {fd : FuncData} (F : FunD K "paper_of_greatest" "paper_of_greatest" (defArgs s_paper_of_greatest) (defBody s_paper_of_greatest) (defScope s_paper_of_greatest) [] [] f fd) (hm : mg "paper_of_greatest" = some (.ref f)) (Z : Blt mg) (SM : SMd base) (XX : Exs K mg es6)
    (C_stretches_to : Fn P w K mg base 1 "stretches_to" ["row", "bound"] (sp_stretches_to K))
    (C_least_greatest : Fn P w K mg base 4 "least_greatest" ["row", "many"] (sp_least_greatest K))
    (C_X_need_pieces_papers : Fn P w K mg base 2 "need_pieces_papers" ["row", "many"] (sp_X_need_pieces_papers K)) :
    Fn P w K mg base 5 "paper_of_greatest" ["row", "many"] (sp_X_paper_of_greatest K) := by
  refine mkFn F hm (fun _ _ _ _ _ _ us hl => match us, hl with | [_, _], _ => rfl) (okG (k := 4) F scope_X_paper_of_greatest (fun vs H0 Q E h => ?_) (fun cdv A outer s H0 vs Q E hr hgd h => ?_))
  · obtain ⟨_, _, _, _, rfl, _⟩ := h; rfl
  · have nd := scope_X_paper_of_greatest.nd
    have hu := hr.units
    have hr_stretches_to : Room 1 _ := hr.mono (by decide : 1 ≤ 4)
    have hr_least_greatest : Room 4 _ := hr.mono (by decide : 4 ≤ 4)
    have hr_X_need_pieces_papers : Room 2 _ := hr.mono (by decide : 2 ≤ 4)
    unfold sp_X_paper_of_greatest at h
    refine ⟨_, (pss_cons (ps_expr (pe_fnX C_X_need_pieces_papers hr_X_need_pieces_papers hgd (by rfl) (passAt (takes_of rfl rfl rfl rfl)) (pa_cons (pv 0) (pa_cons (pv 1) pa_nil))))
    (pss_cons (ps_set (i := 2) nd rfl (.inl rfl) (pe_ix ix_seq (pe_fn C_least_greatest hr_least_greatest hgd (by rfl) passL (pa_cons (pv 0) (pa_cons (pv 1) pa_nil))) pe_int (fun _ _ => rfl)))
    (pss_cons (ps_if (pt_cmpR op_in_seq (pv 2) (pv 0) (by rfl)) (pss_one (ps_ret (pe_tup (pa_cons pe_str (pa_cons (pe_bmK (K := K) PySem.F.plainAttrs_list PySem.F.slot_list_index PySem.F.type_list_index mt_index (pv 0) (pa_cons (pv 2) pa_nil)) pa_nil))))) pss_nil)
    (pss_one (ps_ret (pe_tup (pa_cons pe_str (pa_cons (pe_slice sl_list (pe_fn C_stretches_to hr_stretches_to hgd (by rfl) passL (pa_cons (pv 0) (pa_cons (pv 2) pa_nil))) po_none (po_some (pv 1))) pa_nil)))))))), ?_⟩
    (try dsimp only [cxOf])
    obtain ⟨x_row, v_row, x_many, v_many, rfl, h_row, h_many, r0, hm, q⟩ := h
    let G_ : (Except Er Unit) → Prop := fun r => (∀ y, r = .ok y → ∀ v' H', Res K H0 y v' H' → Q v' H') ∧ ∀ c, r = .error c → ∀ H', Res K H0 (() : Unit) .non H' → E (.ref (He.ga K c.nm)) none H'
    have hq : ∀ r, r = r0 → G_ r := fun r e => by subst e; exact q
    clear q
    unfold m_X_paper_of_greatest at hm
    have W0 := Wd.start (K := K) H0
    have W1 := Wd.arg W0 h_row
    obtain ⟨a2, rfl⟩ := Wd.eqL W1 (Kn.at 0 rfl)
    have W3 := Wd.arg W1 h_many
    refine i_seq ?_
    refine i_drop ?_
    refine i_callX ?_
    refine i_tcons ?_
    refine i_var rfl ?_
    refine i_tcons ?_
    refine i_var rfl ?_
    refine i_tnil ?_
    replace hm := bndE hm
    obtain ⟨r4, h5, hm⟩ := hm
    refine ⟨(x_row : (List Int)), _, (x_many : Th), _, rfl, (Wd.arr W3 (Ar.kn (t := false) (Kn.at 1 rfl))), (Wd.arr W3 (Ar.kn (t := false) (Kn.at 0 rfl))), r4, h5, fun y10 e11 v6 H7 R8 => ?_, fun c12 e13 H14 R15 => ?_⟩
    rotate_left
    · subst e13
      dsimp only at hm
      obtain ⟨_, W16⟩ := Wd.callU W3 R15
      exact (hq _ (some_inj hm)).2 _ rfl _ (Wd.res (x := (() : Unit)) W16 Kn.unit)
    subst e11
    dsimp only at hm
    obtain ⟨rfl, W9⟩ := Wd.callU W3 R8
    clear W0 W1 W3
    cases hm
end
/-! ### X_says_greatest -/
abbrev sp_X_says_greatest (K : PySem.W.Frag) : Sp := fun vs H Q E => ∃ (x_row : (List Int)) (v_row : V) (x_many : Th) (v_many : V) (x_thing : Th) (v_thing : V),  vs = [v_row, v_many, v_thing] ∧ Rp.rep (lkA K H) x_row v_row ∧ Rp.rep (lkA K H) x_many v_many ∧ Rp.rep (lkA K H) x_thing v_thing ∧ ∃ r : (Except Er Unit), m_X_says_greatest x_row x_many x_thing = some r ∧ (∀ y, r = .ok y → ∀ v' H', Res K H y v' H' → Q v' H') ∧ ∀ c, r = .error c → ∀ H', Res K H (() : Unit) .non H' → E (.ref (He.ga K c.nm)) none H'
section
variable {P : Program} {w : World} {K : PySem.W.Frag} {mg : Str → Option Value} {base : Heap}
abbrev N_X_says_greatest : List Str := ["row", "many", "thing", "word", "told", "begin", "end"]
theorem scope_X_says_greatest : FnScope N_X_says_greatest ["row", "many", "thing"] (defScope s_says_greatest) := ⟨rfl, rfl, rfl, by decide +kernel, rfl, by decide +kernel, by decide +kernel⟩
-- comprehension scope 0
theorem ok_X_says_greatest {f : Addr} {fd : FuncData} (F : FunD K "says_greatest" "says_greatest" (defArgs s_says_greatest) (defBody s_says_greatest) (defScope s_says_greatest) [] [] f fd) (hm : mg "says_greatest" = some (.ref f)) (Z : Blt mg) (SM : SMd base) (XX : Exs K mg es6)
    (C_are_stretches : Fn P w K mg base 2 "are_stretches" ["row", "thing"] (sp_are_stretches K))
    (C_is_among : Fn P w K mg base 1 "is_among" ["thing", "low", "high"] (sp_is_among K))
    (C_X_need_pieces_papers : Fn P w K mg base 2 "need_pieces_papers" ["row", "many"] (sp_X_need_pieces_papers K)) :
    Fn P w K mg base 3 "says_greatest" ["row", "many", "thing"] (sp_X_says_greatest K) := by
  refine mkFn F hm (fun _ _ _ _ _ _ us hl => match us, hl with | [_, _, _], _ => rfl) (okG (k := 2) F scope_X_says_greatest (fun vs H0 Q E h => ?_) (fun cdv A outer s H0 vs Q E hr hgd h => ?_))
  · obtain ⟨_, _, _, _, _, _, rfl, _⟩ := h; rfl
  · have nd := scope_X_says_greatest.nd
    have hu := hr.units
    have hr_are_stretches : Room 2 _ := hr.mono (by decide : 2 ≤ 2)
    have hr_is_among : Room 1 _ := hr.mono (by decide : 1 ≤ 2)
    have hr_X_need_pieces_papers : Room 2 _ := hr.mono (by decide : 2 ≤ 2)
    unfold sp_X_says_greatest at h
    refine ⟨_, (pss_cons (ps_expr (pe_fnX C_X_need_pieces_papers hr_X_need_pieces_papers hgd (by rfl) (passAt (takes_of rfl rfl rfl rfl)) (pa_cons (pv 0) (pa_cons (pv 1) pa_nil))))
    (pss_cons (ps_if (PW.pt (pw_or (pt_not (pt_val (pe_callB call_isX (by rfl) Z.isinstance_ (by decide +kernel) (pa_cons (pv 2) (pa_cons (pe_bltn (v := .ty "tuple") (by rfl) Z.tuple_ (by decide +kernel) rfl) pa_nil))))) (pw_or (pt_cmpR (op_neA hu) (pe_callB cl_len (by rfl) Z.len_ (by decide +kernel) (pa_cons (pv 2) pa_nil)) pe_int (nomark _)) (pw_or1 (pt_not (pt_val (pe_callB call_isX (by rfl) Z.isinstance_ (by decide +kernel) (pa_cons (pe_ix ix_seq (pv 2) pe_int (fun _ _ => rfl)) (pa_cons (pe_bltn (v := .ty "str") (by rfl) Z.str_ (by decide +kernel) rfl) pa_nil))))))))) (pss_one (ps_ret pe_non)) pss_nil)
    (pss_cons (ps_asg (pv 2) (pg_tup (by rfl) (pgs_cons (pg_name (i := 3) nd rfl (.inl rfl)) (pgs_cons (pg_name (i := 4) nd rfl (.inl rfl)) pgs_nil))))
    (pss_cons (ps_if (PW.pt (pw_and (pt_cmpR (op_eqA hu) (pv 3) pe_str (nomark _)) (pw_and1 (pt_val (pe_fn C_is_among hr_is_among hgd (by rfl) passL (pa_cons (pv 4) (pa_cons pe_int (pa_cons (pe_op op_sub (pe_callB cl_len (by rfl) Z.len_ (by decide +kernel) (pa_cons (pv 0) pa_nil)) pe_int) pa_nil)))))))) (pss_one (ps_ret (pe_ix ix_seq (pv 0) (pv 4) (fun _ _ => rfl)))) pss_nil)
    (pss_cons (ps_if (PW.pt (pw_and (pt_cmpR (op_eqA hu) (pv 3) pe_str (nomark _)) (pw_and (pt_val (pe_fn C_are_stretches hr_are_stretches hgd (by rfl) passL (pa_cons (pv 0) (pa_cons (pv 4) pa_nil)))) (pw_and1 (pt_cmpR (op_eqA hu) (pe_callB cl_len (by rfl) Z.len_ (by decide +kernel) (pa_cons (pv 4) pa_nil)) (pv 1) (nomark _)))))) (pss_one (ps_ret (pe_callB (cr_minA rfl hu) (by rfl) Z.min_ (by decide +kernel) (pa_cons (pe_lc (own := [("begin", 5), ("end", 6)]) (g := gTup K 2 (gCons (gName 5) (gCons (gName 6) (gNil)))) (tt := tYes) (by rfl) nd (pi_list (pv 4)) (blkOk_by (own := [("begin", 5), ("end", 6)]) (N := N_X_says_greatest) (sc := (defScope s_says_greatest)) (by decide +kernel)) (fun _ _ _ _ _ => (pg_tup (by rfl) (pgs_cons (pg_name (i := 5) nd rfl (.inl rfl)) (pgs_cons (pg_name (i := 6) nd rfl (.inl rfl)) pgs_nil)))) (fun _ _ _ _ _ => pts_nil) (fun _ _ _ _ _ => (pe_callB (r := rSum K) (cr_sum rfl) (by rfl) Z.sum_ (by decide +kernel) (pa_cons (pe_slice (r := rSlL K) sl_list (pv 0) (po_some (pv 5)) (po_some (pv 6))) pa_nil)))) pa_nil)))) pss_nil)
    (pss_one (ps_ret pe_non))))))), ?_⟩
    (try dsimp only [cxOf])
    obtain ⟨x_row, v_row, x_many, v_many, x_thing, v_thing, rfl, h_row, h_many, h_thing, r0, hm, q⟩ := h
    let G_ : (Except Er Unit) → Prop := fun r => (∀ y, r = .ok y → ∀ v' H', Res K H0 y v' H' → Q v' H') ∧ ∀ c, r = .error c → ∀ H', Res K H0 (() : Unit) .non H' → E (.ref (He.ga K c.nm)) none H'
    have hq : ∀ r, r = r0 → G_ r := fun r e => by subst e; exact q
    clear q
    unfold m_X_says_greatest at hm
    have W0 := Wd.start (K := K) H0
    have W1 := Wd.arg W0 h_row
    obtain ⟨a2, rfl⟩ := Wd.eqL W1 (Kn.at 0 rfl)
    have W3 := Wd.arg W1 h_many
    have W4 := Wd.arg W3 h_thing
    refine i_seq ?_
    refine i_drop ?_
    refine i_callX ?_
    refine i_tcons ?_
    refine i_var rfl ?_
    refine i_tcons ?_
    refine i_var rfl ?_
    refine i_tnil ?_
    replace hm := bndE hm
    obtain ⟨r5, h6, hm⟩ := hm
    refine ⟨(x_row : (List Int)), _, (x_many : Th), _, rfl, (Wd.arr W4 (Ar.kn (t := false) (Kn.at 2 rfl))), (Wd.arr W4 (Ar.kn (t := false) (Kn.at 1 rfl))), r5, h6, fun y11 e12 v7 H8 R9 => ?_, fun c13 e14 H15 R16 => ?_⟩
    rotate_left
    · subst e14
      dsimp only at hm
      obtain ⟨_, W17⟩ := Wd.callU W4 R16
      exact (hq _ (some_inj hm)).2 _ rfl _ (Wd.res (x := (() : Unit)) W17 Kn.unit)
    subst e12
    dsimp only at hm
    obtain ⟨rfl, W10⟩ := Wd.callU W4 R9
    clear W0 W1 W3 W4
    cases hm
end
/-! ### X_paper_of_least -/
abbrev sp_X_paper_of_least (K : PySem.W.Frag) : Sp := fun vs H Q E => ∃ (x_row : (List Int)) (v_row : V) (x_many : Th) (v_many : V),  vs = [v_row, v_many] ∧ Rp.rep (lkA K H) x_row v_row ∧ Rp.rep (lkA K H) x_many v_many ∧ ∃ r : (Except Er Unit), m_X_paper_of_least x_row x_many = some r ∧ (∀ y, r = .ok y → ∀ v' H', Res K H y v' H' → Q v' H') ∧ ∀ c, r = .error c → ∀ H', Res K H (() : Unit) .non H' → E (.ref (He.ga K c.nm)) none H'
section
variable {P : Program} {w : World} {K : PySem.W.Frag} {mg : Str → Option Value} {base : Heap}
abbrev N_X_paper_of_least : List Str := ["row", "many"]
theorem scope_X_paper_of_least : FnScope N_X_paper_of_least ["row", "many"] (defScope s_paper_of_least) := ⟨rfl, rfl, rfl, by decide +kernel, rfl, by decide +kernel, by decide +kernel⟩
theorem ok_X_paper_of_least {f : Addr} {fd : FuncData} (F : FunD K "paper_of_least" "paper_of_least" (defArgs s_paper_of_least) (defBody s_paper_of_least) (defScope s_paper_of_least) [] [] f fd) (hm : mg "paper_of_least" = some (.ref f)) (Z : Blt mg) (SM : SMd base) (XX : Exs K mg es6)
    (C_reaching : Fn P w K mg base 1 "reaching" ["row", "bound"] (sp_reaching K))
    (C_greatest_least : Fn P w K mg base 3 "greatest_least" ["row", "many"] (sp_greatest_least K))
    (C_X_need_pieces_papers : Fn P w K mg base 2 "need_pieces_papers" ["row", "many"] (sp_X_need_pieces_papers K)) :
    Fn P w K mg base 4 "paper_of_least" ["row", "many"] (sp_X_paper_of_least K) := by
  refine mkFn F hm (fun _ _ _ _ _ _ us hl => match us, hl with | [_, _], _ => rfl) (okG (k := 3) F scope_X_paper_of_least (fun vs H0 Q E h => ?_) (fun cdv A outer s H0 vs Q E hr hgd h => ?_))
  · obtain ⟨_, _, _, _, rfl, _⟩ := h; rfl
  · have nd := scope_X_paper_of_least.nd
    have hu := hr.units
    have hr_reaching : Room 1 _ := hr.mono (by decide : 1 ≤ 3)
    have hr_greatest_least : Room 3 _ := hr.mono (by decide : 3 ≤ 3)
    have hr_X_need_pieces_papers : Room 2 _ := hr.mono (by decide : 2 ≤ 3)
    unfold sp_X_paper_of_least at h
    refine ⟨_, (pss_cons (ps_expr (pe_fnX C_X_need_pieces_papers hr_X_need_pieces_papers hgd (by rfl) (passAt (takes_of rfl rfl rfl rfl)) (pa_cons (pv 0) (pa_cons (pv 1) pa_nil))))
    (pss_one (ps_ret (pe_fn C_reaching hr_reaching hgd (by rfl) passL (pa_cons (pv 0) (pa_cons (pe_op op_addA (pe_ix ix_seq (pe_fn C_greatest_least hr_greatest_least hgd (by rfl) passL (pa_cons (pv 0) (pa_cons (pv 1) pa_nil))) pe_int (fun _ _ => rfl)) pe_int) pa_nil)))))), ?_⟩
    (try dsimp only [cxOf])
    obtain ⟨x_row, v_row, x_many, v_many, rfl, h_row, h_many, r0, hm, q⟩ := h
    let G_ : (Except Er Unit) → Prop := fun r => (∀ y, r = .ok y → ∀ v' H', Res K H0 y v' H' → Q v' H') ∧ ∀ c, r = .error c → ∀ H', Res K H0 (() : Unit) .non H' → E (.ref (He.ga K c.nm)) none H'
    have hq : ∀ r, r = r0 → G_ r := fun r e => by subst e; exact q
    clear q
    unfold m_X_paper_of_least at hm
    have W0 := Wd.start (K := K) H0
    have W1 := Wd.arg W0 h_row
    obtain ⟨a2, rfl⟩ := Wd.eqL W1 (Kn.at 0 rfl)
    have W3 := Wd.arg W1 h_many
    refine i_seq ?_
    refine i_drop ?_
    refine i_callX ?_
    refine i_tcons ?_
    refine i_var rfl ?_
    refine i_tcons ?_
    refine i_var rfl ?_
    refine i_tnil ?_
    replace hm := bndE hm
    obtain ⟨r4, h5, hm⟩ := hm
    refine ⟨(x_row : (List Int)), _, (x_many : Th), _, rfl, (Wd.arr W3 (Ar.kn (t := false) (Kn.at 1 rfl))), (Wd.arr W3 (Ar.kn (t := false) (Kn.at 0 rfl))), r4, h5, fun y10 e11 v6 H7 R8 => ?_, fun c12 e13 H14 R15 => ?_⟩
    rotate_left
    · subst e13
      dsimp only at hm
      obtain ⟨_, W16⟩ := Wd.callU W3 R15
      exact (hq _ (some_inj hm)).2 _ rfl _ (Wd.res (x := (() : Unit)) W16 Kn.unit)
    subst e11
    dsimp only at hm
    obtain ⟨rfl, W9⟩ := Wd.callU W3 R8
    clear W0 W1 W3
    cases hm
end
/-! ### X_says_least -/
abbrev sp_X_says_least (K : PySem.W.Frag) : Sp := fun vs H Q E => ∃ (x_row : (List Int)) (v_row : V) (x_many : Th) (v_many : V) (x_thing : Th) (v_thing : V),  vs = [v_row, v_many, v_thing] ∧ Rp.rep (lkA K H) x_row v_row ∧ Rp.rep (lkA K H) x_many v_many ∧ Rp.rep (lkA K H) x_thing v_thing ∧ ∃ r : (Except Er Unit), m_X_says_least x_row x_many x_thing = some r ∧ (∀ y, r = .ok y → ∀ v' H', Res K H y v' H' → Q v' H') ∧ ∀ c, r = .error c → ∀ H', Res K H (() : Unit) .non H' → E (.ref (He.ga K c.nm)) none H'
section
variable {P : Program} {w : World} {K : PySem.W.Frag} {mg : Str → Option Value} {base : Heap}
abbrev N_X_says_least : List Str := ["row", "many", "thing", "found", "ahead", "place"]
theorem scope_X_says_least : FnScope N_X_says_least ["row", "many", "thing"] (defScope s_says_least) := ⟨rfl, rfl, rfl, by decide +kernel, rfl, by decide +kernel, by decide +kernel⟩
theorem ok_X_says_least {f : Addr} {fd : FuncData} (F : FunD K "says_least" "says_least" (defArgs s_says_least) (defBody s_says_least) (defScope s_says_least) [] [] f fd) (hm : mg "says_least" = some (.ref f)) (Z : Blt mg) (SM : SMd base) (XX : Exs K mg es6)
    (C_is_among : Fn P w K mg base 1 "is_among" ["thing", "low", "high"] (sp_is_among K))
    (C_X_need_pieces_papers : Fn P w K mg base 2 "need_pieces_papers" ["row", "many"] (sp_X_need_pieces_papers K)) :
    Fn P w K mg base 3 "says_least" ["row", "many", "thing"] (sp_X_says_least K) := by
  refine mkFn F hm (fun _ _ _ _ _ _ us hl => match us, hl with | [_, _, _], _ => rfl) (okG (k := 2) F scope_X_says_least (fun vs H0 Q E h => ?_) (fun cdv A outer s H0 vs Q E hr hgd h => ?_))
  · obtain ⟨_, _, _, _, _, _, rfl, _⟩ := h; rfl
  · have nd := scope_X_says_least.nd
    have hu := hr.units
    have hr_is_among : Room 1 _ := hr.mono (by decide : 1 ≤ 2)
    have hr_X_need_pieces_papers : Room 2 _ := hr.mono (by decide : 2 ≤ 2)
    unfold sp_X_says_least at h
    refine ⟨_, (pss_cons (ps_expr (pe_fnX C_X_need_pieces_papers hr_X_need_pieces_papers hgd (by rfl) (passAt (takes_of rfl rfl rfl rfl)) (pa_cons (pv 0) (pa_cons (pv 1) pa_nil))))
    (pss_cons (ps_if (PW.pt (pw_or (pt_not (pt_val (pe_callB call_isX (by rfl) Z.isinstance_ (by decide +kernel) (pa_cons (pv 2) (pa_cons (pe_bltn (v := .ty "list") (by rfl) Z.list_ (by decide +kernel) rfl) pa_nil))))) (pw_or1 (pt_cmpR (op_geA hu) (pe_callB cl_len (by rfl) Z.len_ (by decide +kernel) (pa_cons (pv 2) pa_nil)) (pv 1) (nomark _))))) (pss_one (ps_ret pe_non)) pss_nil)
    (pss_cons (ps_set (i := 3) nd rfl (.inl rfl) (pe_lst pa_nil))
    (pss_cons (ps_set (i := 4) nd rfl (.inl rfl) pe_int)
    (pss_cons (ps_for (passes_of rfl) rfl (pi_list (pv 2)) (pg_name (i := 5) nd rfl (.inl rfl)) (pss_cons (ps_if (pt_not (pt_val (pe_fn C_is_among hr_is_among hgd (by rfl) passL (pa_cons (pv 5) (pa_cons (pv 4) (pa_cons (pe_op op_sub (pe_callB cl_len (by rfl) Z.len_ (by decide +kernel) (pa_cons (pv 0) pa_nil)) pe_int) pa_nil)))))) (pss_one (ps_ret pe_non)) pss_nil)
    (pss_cons (ps_expr (pe_bmK (K := K) PySem.F.plainAttrs_list PySem.F.slot_list_append PySem.F.type_list_append mt_append (pv 3) (pa_cons (pe_callB (cr_sum rfl) (by rfl) Z.sum_ (by decide +kernel) (pa_cons (pe_slice sl_list (pv 0) (po_some (pv 4)) (po_some (pv 5))) pa_nil)) pa_nil)))
    (pss_one (ps_set (i := 4) nd rfl (.inl rfl) (pe_op op_addA (pv 5) pe_int))))))
    (pss_one (ps_ret (pe_callB (cr_maxA rfl hu) (by rfl) Z.max_ (by decide +kernel) (pa_cons (pe_op op_addA (pv 3) (pe_lst (pa_cons (pe_callB (cr_sum rfl) (by rfl) Z.sum_ (by decide +kernel) (pa_cons (pe_slice sl_list (pv 0) (po_some (pv 4)) po_none) pa_nil)) pa_nil))) pa_nil))))))))), ?_⟩
    (try dsimp only [cxOf])
    obtain ⟨x_row, v_row, x_many, v_many, x_thing, v_thing, rfl, h_row, h_many, h_thing, r0, hm, q⟩ := h
    let G_ : (Except Er Unit) → Prop := fun r => (∀ y, r = .ok y → ∀ v' H', Res K H0 y v' H' → Q v' H') ∧ ∀ c, r = .error c → ∀ H', Res K H0 (() : Unit) .non H' → E (.ref (He.ga K c.nm)) none H'
    have hq : ∀ r, r = r0 → G_ r := fun r e => by subst e; exact q
    clear q
    unfold m_X_says_least at hm
    have W0 := Wd.start (K := K) H0
    have W1 := Wd.arg W0 h_row
    obtain ⟨a2, rfl⟩ := Wd.eqL W1 (Kn.at 0 rfl)
    have W3 := Wd.arg W1 h_many
    have W4 := Wd.arg W3 h_thing
    refine i_seq ?_
    refine i_drop ?_
    refine i_callX ?_
    refine i_tcons ?_
    refine i_var rfl ?_
    refine i_tcons ?_
    refine i_var rfl ?_
    refine i_tnil ?_
    replace hm := bndE hm
    obtain ⟨r5, h6, hm⟩ := hm
    refine ⟨(x_row : (List Int)), _, (x_many : Th), _, rfl, (Wd.arr W4 (Ar.kn (t := false) (Kn.at 2 rfl))), (Wd.arr W4 (Ar.kn (t := false) (Kn.at 1 rfl))), r5, h6, fun y11 e12 v7 H8 R9 => ?_, fun c13 e14 H15 R16 => ?_⟩
    rotate_left
    · subst e14
      dsimp only at hm
      obtain ⟨_, W17⟩ := Wd.callU W4 R16
      exact (hq _ (some_inj hm)).2 _ rfl _ (Wd.res (x := (() : Unit)) W17 Kn.unit)
    subst e12
    dsimp only at hm
    obtain ⟨rfl, W10⟩ := Wd.callU W4 R9
    clear W0 W1 W3 W4
    cases hm
end
/-! ### X_need_pieces_rings -/
abbrev sp_X_need_pieces_rings (K : PySem.W.Frag) : Sp := fun vs H Q E => ∃ (x_row : (List Int)) (v_row : V) (x_many : Th) (v_many : V),  vs = [v_row, v_many] ∧ Rp.rep (lkA K H) x_row v_row ∧ Rp.rep (lkA K H) x_many v_many ∧ ∃ r : (Except Er Unit), m_X_need_pieces_rings x_row x_many = some r ∧ (∀ y, r = .ok y → ∀ v' H', Res K H y v' H' → Q v' H') ∧ ∀ c, r = .error c → ∀ H', Res K H (() : Unit) .non H' → E (.ref (He.ga K c.nm)) none H'
section
variable {P : Program} {w : World} {K : PySem.W.Frag} {mg : Str → Option Value} {base : Heap}
abbrev N_X_need_pieces_rings : List Str := ["row", "many"]
theorem scope_X_need_pieces_rings : FnScope N_X_need_pieces_rings ["row", "many"] (defScope s_need_pieces_rings) := ⟨rfl, rfl, rfl, by decide +kernel, rfl, by decide +kernel, by decide +kernel⟩
theorem ok_X_need_pieces_rings {f : Addr} {fd : FuncData} (F : FunD K "need_pieces" "need_pieces" (defArgs s_need_pieces_rings) (defBody s_need_pieces_rings) (defScope s_need_pieces_rings) [] [] f fd) (hm : mg "need_pieces_rings" = some (.ref f)) (Z : Blt mg) (SM : SMd base) (XX : Exs K mg es6) :
    Fn P w K mg base 1 "need_pieces_rings" ["row", "many"] (sp_X_need_pieces_rings K) := by
  refine mkFnA F hm (fun _ _ _ _ _ _ us hl => match us, hl with | [_, _], _ => rfl) (okG (k := 0) F scope_X_need_pieces_rings (fun vs H0 Q E h => ?_) (fun cdv A outer s H0 vs Q E hr hgd h => ?_))
  · obtain ⟨_, _, _, _, rfl, _⟩ := h; rfl
  · have nd := scope_X_need_pieces_rings.nd
    have hu := hr.units
    unfold sp_X_need_pieces_rings at h
    have g_NoMany : mg ("NoMany" : PySem.Str) = some (.ref (He.ga K ("NoMany" : PySem.Str))) := XX.glo .many (Er.mem6 _)
    obtain ⟨e1_NoMany, e2_NoMany, e3_NoMany, e4_NoMany⟩ := He.exc_ok (x := ("NoMany" : PySem.Str)) (XX.exc .many (Er.mem6 _))
    refine ⟨_, (pss_one (ps_if (PW.pt (pw_or (pt_not (pt_val (pe_callB call_isX (by rfl) Z.isinstance_ (by decide +kernel) (pa_cons (pv 1) (pa_cons (pe_bltn (v := .ty "int") (by rfl) Z.int_ (by decide +kernel) rfl) pa_nil))))) (pw_or (pt_val (pe_callB call_isX (by rfl) Z.isinstance_ (by decide +kernel) (pa_cons (pv 1) (pa_cons (pe_bltn (v := .ty "bool") (by rfl) Z.bool_ (by decide +kernel) rfl) pa_nil)))) (pw_or1 (pt_not (pt_chain op_le op_le pe_int (pv 1) (pe_callB cl_len (by rfl) Z.len_ (by decide +kernel) (pa_cons (pv 0) pa_nil)))))))) (pss_one (ps_raise rfl (takes_of rfl rfl rfl rfl) (pmk_own PySem.F.excBase_ValueError e1_NoMany g_NoMany e2_NoMany (raises_own e3_NoMany e4_NoMany) rfl))) pss_nil)), ?_⟩
    (try dsimp only [cxOf])
    obtain ⟨x_row, v_row, x_many, v_many, rfl, h_row, h_many, r0, hm, q⟩ := h
    let G_ : (Except Er Unit) → Prop := fun r => (∀ y, r = .ok y → ∀ v' H', Res K H0 y v' H' → Q v' H') ∧ ∀ c, r = .error c → ∀ H', Res K H0 (() : Unit) .non H' → E (.ref (He.ga K c.nm)) none H'
    have hq : ∀ r, r = r0 → G_ r := fun r e => by subst e; exact q
    clear q
    unfold m_X_need_pieces_rings at hm
    have W0 := Wd.start (K := K) H0
    have W1 := Wd.arg W0 h_row
    obtain ⟨a2, rfl⟩ := Wd.eqL W1 (Kn.at 0 rfl)
    have W3 := Wd.arg W1 h_many
    refine i_ifS ?_
    refine i_or ?_
    refine i_not ?_
    refine i_tB ?_
    refine i_cb ?_
    refine i_tcons ?_
    refine i_var rfl ?_
    refine i_tcons ?_
    refine i_c ?_
    refine i_tnil ?_
    refine w_isiT W3 (Ar.kn (t := false) (Kn.at 0 rfl)) (by simp) ?_
    refine i_bl ?_
    replace hm := bndE hm
    obtain ⟨x24, h25, hm⟩ := hm
    refine w_orW (L' := []) x24 W3 (fun hb4 P5 hP6 => ?_) (fun hb4 => ?_) (fun H26 W27 => ?_)
    · have hm : _ = some x24 := (if_neg (by rw [hb4]; exact Bool.false_ne_true)).symm.trans h25
      refine i_or ?_
      refine i_tB ?_
      refine i_cb ?_
      refine i_tcons ?_
      refine i_var rfl ?_
      refine i_tcons ?_
      refine i_c ?_
      refine i_tnil ?_
      refine w_isiT W3 (Ar.kn (t := false) (Kn.at 0 rfl)) (by simp) ?_
      refine i_bl ?_
      replace hm := bndE hm
      obtain ⟨x19, h20, hm⟩ := hm
      refine w_orW (L' := []) x19 W3 (fun hb7 P8 hP9 => ?_) (fun hb7 => ?_) (fun H21 W22 => ?_)
      · have hm : _ = some x19 := (if_neg (by rw [hb7]; exact Bool.false_ne_true)).symm.trans h20
        refine i_not ?_
        refine i_test ?_
        refine i_chain ?_
        refine i_c ?_
        refine i_var rfl ?_
        replace hm := bndE hm
        obtain ⟨x10, h11, hm⟩ := hm
        have W12 := Wd.thI (t := false) W3 (Kn.at 0 rfl) h11
        obtain rfl := Wd.eqI W12 (Kn.at 0 rfl)
        refine i_I0 ?_
        refine i_bl ?_
        refine w_chainW (L' := _) ((decide (1 ≤ x10)) && (decide (x10 ≤ (lenI x_row)))) W12 (fun hb13 P14 hP15 => ?_) (fun hb13 => ⟨and_f hb13, W12⟩) (fun H16 W17 => ?_)
        · refine i_cb ?_
          refine i_tcons ?_
          refine i_var rfl ?_
          refine i_tnil ?_
          refine w_len W12 (Lx.ls (Lx.flat (t := true) (Lx.kn (Kn.at 2 rfl)))) ?_
          refine i_I0 ?_
          exact hP15 _ _ (and_t hb13) W12
        refine i_bl ?_
        have W18 := Wd.drop W17 1 rfl
        have hm := some_inj hm
        exact hP9 _ _ hm W18
      · have hm := some_inj ((if_pos hb7).symm.trans h20)
        exact ⟨hm, W3⟩
      have hm := some_inj hm
      exact hP6 _ _ hm W22
    · have hm := some_inj ((if_pos hb4).symm.trans h25)
      exact ⟨hm, W3⟩
    clear W0 W1 W3
    rcases iteE hm with ⟨hb29, hm⟩ | ⟨hb29, hm⟩
    · refine i_bT hb29 ?_
      exact (hq _ (some_inj hm)).2 _ rfl _ (Wd.res (x := (() : Unit)) W27 Kn.unit)
    · refine i_bF hb29 ?_
      refine i_next ?_
      exact (hq _ (some_inj hm)).1 _ rfl _ _ (Wd.res (x := (() : Unit)) W27 Kn.unit)
end
/-! ### X_ring_least_greatest -/
abbrev sp_X_ring_least_greatest (K : PySem.W.Frag) : Sp := fun vs H Q E => ∃ (x_row : (List Int)) (v_row : V) (x_many : Th) (v_many : V),  vs = [v_row, v_many] ∧ Rp.rep (lkA K H) x_row v_row ∧ Rp.rep (lkA K H) x_many v_many ∧ ∃ r : (Except Er Unit), m_X_ring_least_greatest x_row x_many = some r ∧ (∀ y, r = .ok y → ∀ v' H', Res K H y v' H' → Q v' H') ∧ ∀ c, r = .error c → ∀ H', Res K H (() : Unit) .non H' → E (.ref (He.ga K c.nm)) none H'
section
variable {P : Program} {w : World} {K : PySem.W.Frag} {mg : Str → Option Value} {base : Heap}
abbrev N_X_ring_least_greatest : List Str := ["row", "many", "best", "place", "bound", "cut", "at"]
theorem scope_X_ring_least_greatest : FnScope N_X_ring_least_greatest ["row", "many"] (defScope s_ring_least_greatest) := ⟨rfl, rfl, rfl, by decide +kernel, rfl, by decide +kernel, by decide +kernel⟩
-- comprehension scope 0
theorem ok_X_ring_least_greatest {f : Addr} {fd : FuncData} (F : FunD K "ring_least_greatest" "ring_least_greatest" (defArgs s_ring_least_greatest) (defBody s_ring_least_greatest) (defScope s_ring_least_greatest) [] [] f fd) (hm : mg "ring_least_greatest" = some (.ref f)) (Z : Blt mg) (SM : SMd base) (XX : Exs K mg es6)
    (C_least_greatest : Fn P w K mg base 4 "least_greatest" ["row", "many"] (sp_least_greatest K))
    (C_X_need_pieces_rings : Fn P w K mg base 1 "need_pieces_rings" ["row", "many"] (sp_X_need_pieces_rings K)) :
    Fn P w K mg base 5 "ring_least_greatest" ["row", "many"] (sp_X_ring_least_greatest K) := by
  refine mkFn F hm (fun _ _ _ _ _ _ us hl => match us, hl with | [_, _], _ => rfl) (okG (k := 4) F scope_X_ring_least_greatest (fun vs H0 Q E h => ?_) (fun cdv A outer s H0 vs Q E hr hgd h => ?_))
  · obtain ⟨_, _, _, _, rfl, _⟩ := h; rfl
  · have nd := scope_X_ring_least_greatest.nd
    have hu := hr.units
    have hr_least_greatest : Room 4 _ := hr.mono (by decide : 4 ≤ 4)
    have hr_X_need_pieces_rings : Room 1 _ := hr.mono (by decide : 1 ≤ 4)
    unfold sp_X_ring_least_greatest at h
    refine ⟨_, (pss_cons (ps_expr (pe_fnX C_X_need_pieces_rings hr_X_need_pieces_rings hgd (by rfl) (passAt (takes_of rfl rfl rfl rfl)) (pa_cons (pv 0) (pa_cons (pv 1) pa_nil))))
    (pss_cons (ps_set (i := 2) nd rfl (.inl rfl) pe_non)
    (pss_cons (ps_for (passes_of rfl) rfl (pi_range1 (by rfl) Z.range_ (pa_cons (pe_callB cl_len (by rfl) Z.len_ (by decide +kernel) (pa_cons (pv 0) pa_nil)) pa_nil)) (pg_name (i := 3) nd rfl (.inr rfl)) (pss_cons (ps_asg (pe_fn C_least_greatest hr_least_greatest hgd (by rfl) passL (pa_cons (pe_op op_addA (pe_slice sl_list (pv 0) (po_some (pv 3)) po_none) (pe_slice sl_list (pv 0) po_none (po_some (pv 3)))) (pa_cons (pv 1) pa_nil))) (pg_tup (by rfl) (pgs_cons (pg_name (i := 4) nd rfl (.inl rfl)) (pgs_cons (pg_name (i := 5) nd rfl (.inl rfl)) pgs_nil))))
    (pss_one (ps_if (PW.pt (pw_or (pt_cmpR op_isNn (pv 2) pe_non (nomark _)) (pw_or1 (pt_cmpR (op_ltA hu) (pv 4) (pe_ix ix_seq (pv 2) pe_int (fun _ _ => rfl)) (nomark _))))) (pss_one (ps_set (i := 2) nd rfl (.inl rfl) (pe_tup (pa_cons (pv 4) (pa_cons (pe_callB cr_sortedI (by rfl) Z.sorted_ (by decide +kernel) (pa_cons (pe_lc (own := [("at", 6)]) (g := gName 6) (tt := tYes) (by rfl) nd (pi_list (pe_op op_addA (pe_lst (pa_cons pe_int pa_nil)) (pv 5))) (blkOk_by (own := [("at", 6)]) (N := N_X_ring_least_greatest) (sc := (defScope s_ring_least_greatest)) (by decide +kernel)) (fun _ _ _ _ _ => (pg_name (i := 6) nd rfl (.inl rfl))) (fun _ _ _ _ _ => pts_nil) (fun _ _ _ _ _ => (pe_op op_mod (pe_op op_addA (pv 3) (pv 6)) (pe_callB (r := rLen K) cl_len (by rfl) Z.len_ (by decide +kernel) (pa_cons (pv 0) pa_nil))))) pa_nil)) pa_nil))))) pss_nil))))
    (pss_one (ps_ret (pv 2)))))), ?_⟩
    (try dsimp only [cxOf])
    obtain ⟨x_row, v_row, x_many, v_many, rfl, h_row, h_many, r0, hm, q⟩ := h
    let G_ : (Except Er Unit) → Prop := fun r => (∀ y, r = .ok y → ∀ v' H', Res K H0 y v' H' → Q v' H') ∧ ∀ c, r = .error c → ∀ H', Res K H0 (() : Unit) .non H' → E (.ref (He.ga K c.nm)) none H'
    have hq : ∀ r, r = r0 → G_ r := fun r e => by subst e; exact q
    clear q
    unfold m_X_ring_least_greatest at hm
    have W0 := Wd.start (K := K) H0
    have W1 := Wd.arg W0 h_row
    obtain ⟨a2, rfl⟩ := Wd.eqL W1 (Kn.at 0 rfl)
    have W3 := Wd.arg W1 h_many
    refine i_seq ?_
    refine i_drop ?_
    refine i_callX ?_
    refine i_tcons ?_
    refine i_var rfl ?_
    refine i_tcons ?_
    refine i_var rfl ?_
    refine i_tnil ?_
    replace hm := bndE hm
    obtain ⟨r4, h5, hm⟩ := hm
    refine ⟨(x_row : (List Int)), _, (x_many : Th), _, rfl, (Wd.arr W3 (Ar.kn (t := false) (Kn.at 1 rfl))), (Wd.arr W3 (Ar.kn (t := false) (Kn.at 0 rfl))), r4, h5, fun y10 e11 v6 H7 R8 => ?_, fun c12 e13 H14 R15 => ?_⟩
    rotate_left
    · subst e13
      dsimp only at hm
      obtain ⟨_, W16⟩ := Wd.callU W3 R15
      exact (hq _ (some_inj hm)).2 _ rfl _ (Wd.res (x := (() : Unit)) W16 Kn.unit)
    subst e11
    dsimp only at hm
    obtain ⟨rfl, W9⟩ := Wd.callU W3 R8
    clear W0 W1 W3
    cases hm
end
/-! ### X__law_told -/
abbrev sp_X__law_told (K : PySem.W.Frag) : Sp := fun vs H Q E => ∃ (x_way : Int) (x_row : (List Int)) (v_row : V) (x_many : Th) (v_many : V) (x_thing : Th) (v_thing : V),  vs = [.int x_way, v_row, v_many, v_thing] ∧ Rp.rep (lkA K H) x_row v_row ∧ Rp.rep (lkA K H) x_many v_many ∧ Rp.rep (lkA K H) x_thing v_thing ∧ ∃ r : (Except Er Unit), m_X__law_told x_way x_row x_many x_thing = some r ∧ (∀ y, r = .ok y → ∀ v' H', Res K H y v' H' → Q v' H') ∧ ∀ c, r = .error c → ∀ H', Res K H (() : Unit) .non H' → E (.ref (He.ga K c.nm)) none H'
section
variable {P : Program} {w : World} {K : PySem.W.Frag} {mg : Str → Option Value} {base : Heap}
abbrev N_X__law_told : List Str := ["way", "row", "many", "thing"]
theorem scope_X__law_told : FnScope N_X__law_told ["way", "row", "many", "thing"] (defScope s__law_told) := ⟨rfl, rfl, rfl, by decide +kernel, rfl, by decide +kernel, by decide +kernel⟩
theorem ok_X__law_told {f : Addr} {fd : FuncData} (F : FunD K "_law_told" "_law_told" (defArgs s__law_told) (defBody s__law_told) (defScope s__law_told) [] [] f fd) (hm : mg "_law_told" = some (.ref f)) (Z : Blt mg) (SM : SMd base) (XX : Exs K mg es6)
    (C_X_ring_least_greatest : Fn P w K mg base 5 "ring_least_greatest" ["row", "many"] (sp_X_ring_least_greatest K))
    (C_X_says_least : Fn P w K mg base 3 "says_least" ["row", "many", "thing"] (sp_X_says_least K))
    (C_X_paper_of_least : Fn P w K mg base 4 "paper_of_least" ["row", "many"] (sp_X_paper_of_least K))
    (C_X_says_greatest : Fn P w K mg base 3 "says_greatest" ["row", "many", "thing"] (sp_X_says_greatest K))
    (C_X_paper_of_greatest : Fn P w K mg base 5 "paper_of_greatest" ["row", "many"] (sp_X_paper_of_greatest K)) :
    Fn P w K mg base 6 "_law_told" ["way", "row", "many", "thing"] (sp_X__law_told K) := by
  refine mkFn F hm (fun _ _ _ _ _ _ us hl => match us, hl with | [_, _, _, _], _ => rfl) (okG (k := 5) F scope_X__law_told (fun vs H0 Q E h => ?_) (fun cdv A outer s H0 vs Q E hr hgd h => ?_))
  · obtain ⟨_, _, _, _, _, _, _, rfl, _⟩ := h; rfl
  · have nd := scope_X__law_told.nd
    have hu := hr.units
    have hr_X_ring_least_greatest : Room 5 _ := hr.mono (by decide : 5 ≤ 5)
    have hr_X_says_least : Room 3 _ := hr.mono (by decide : 3 ≤ 5)
    have hr_X_paper_of_least : Room 4 _ := hr.mono (by decide : 4 ≤ 5)
    have hr_X_says_greatest : Room 3 _ := hr.mono (by decide : 3 ≤ 5)
    have hr_X_paper_of_greatest : Room 5 _ := hr.mono (by decide : 5 ≤ 5)
    unfold sp_X__law_told at h
    refine ⟨_, (pss_cons (ps_if (pt_cmpR (op_eqA hu) (pv 0) pe_int (nomark _)) (pss_one (ps_ret (pe_fnX C_X_paper_of_greatest hr_X_paper_of_greatest hgd (by rfl) (passAt (takes_of rfl rfl rfl rfl)) (pa_cons (pv 1) (pa_cons (pv 2) pa_nil))))) pss_nil)
    (pss_cons (ps_if (pt_cmpR (op_eqA hu) (pv 0) pe_int (nomark _)) (pss_one (ps_ret (pe_fnX C_X_says_greatest hr_X_says_greatest hgd (by rfl) (passAt (takes_of rfl rfl rfl rfl)) (pa_cons (pv 1) (pa_cons (pv 2) (pa_cons (pv 3) pa_nil)))))) pss_nil)
    (pss_cons (ps_if (pt_cmpR (op_eqA hu) (pv 0) pe_int (nomark _)) (pss_one (ps_ret (pe_fnX C_X_paper_of_least hr_X_paper_of_least hgd (by rfl) (passAt (takes_of rfl rfl rfl rfl)) (pa_cons (pv 1) (pa_cons (pv 2) pa_nil))))) pss_nil)
    (pss_cons (ps_if (pt_cmpR (op_eqA hu) (pv 0) pe_int (nomark _)) (pss_one (ps_ret (pe_fnX C_X_says_least hr_X_says_least hgd (by rfl) (passAt (takes_of rfl rfl rfl rfl)) (pa_cons (pv 1) (pa_cons (pv 2) (pa_cons (pv 3) pa_nil)))))) pss_nil)
    (pss_one (ps_ret (pe_fnX C_X_ring_least_greatest hr_X_ring_least_greatest hgd (by rfl) (passAt (takes_of rfl rfl rfl rfl)) (pa_cons (pv 1) (pa_cons (pv 2) pa_nil))))))))), ?_⟩
    (try dsimp only [cxOf])
    obtain ⟨x_way, x_row, v_row, x_many, v_many, x_thing, v_thing, rfl, h_row, h_many, h_thing, r0, hm, q⟩ := h
    let G_ : (Except Er Unit) → Prop := fun r => (∀ y, r = .ok y → ∀ v' H', Res K H0 y v' H' → Q v' H') ∧ ∀ c, r = .error c → ∀ H', Res K H0 (() : Unit) .non H' → E (.ref (He.ga K c.nm)) none H'
    have hq : ∀ r, r = r0 → G_ r := fun r e => by subst e; exact q
    clear q
    unfold m_X__law_told at hm
    have W0 := Wd.start (K := K) H0
    have W1 := Wd.arg W0 h_row
    obtain ⟨a2, rfl⟩ := Wd.eqL W1 (Kn.at 0 rfl)
    have W3 := Wd.arg W1 h_many
    have W4 := Wd.arg W3 h_thing
    refine i_seq ?_
    refine i_ifS ?_
    refine i_test ?_
    refine i_op ?_
    refine i_var rfl ?_
    refine i_c ?_
    refine i_eqI ?_
    refine i_bl ?_
    clear W0 W1 W3
    rcases iteE hm with ⟨hb5, hm⟩ | ⟨hb5, hm⟩
    · refine i_bT hb5 ?_
      refine i_ret ?_
      refine i_callX ?_
      refine i_tcons ?_
      refine i_var rfl ?_
      refine i_tcons ?_
      refine i_var rfl ?_
      refine i_tnil ?_
      replace hm := bndE hm
      obtain ⟨r6, h7, hm⟩ := hm
      refine ⟨(x_row : (List Int)), _, (x_many : Th), _, rfl, (Wd.arr W4 (Ar.kn (t := false) (Kn.at 2 rfl))), (Wd.arr W4 (Ar.kn (t := false) (Kn.at 1 rfl))), r6, h7, fun y12 e13 v8 H9 R10 => ?_, fun c14 e15 H16 R17 => ?_⟩
      rotate_left
      · subst e15
        dsimp only at hm
        obtain ⟨_, W18⟩ := Wd.callU W4 R17
        exact (hq _ (some_inj hm)).2 _ rfl _ (Wd.res (x := (() : Unit)) W18 Kn.unit)
      subst e13
      dsimp only at hm
      cases hm
    · refine i_bF hb5 ?_
      refine i_next ?_
      refine i_seq ?_
      refine i_ifS ?_
      refine i_test ?_
      refine i_op ?_
      refine i_var rfl ?_
      refine i_c ?_
      refine i_eqI ?_
      refine i_bl ?_
      rcases iteE hm with ⟨hb19, hm⟩ | ⟨hb19, hm⟩
      · refine i_bT hb19 ?_
        refine i_ret ?_
        refine i_callX ?_
        refine i_tcons ?_
        refine i_var rfl ?_
        refine i_tcons ?_
        refine i_var rfl ?_
        refine i_tcons ?_
        refine i_var rfl ?_
        refine i_tnil ?_
        replace hm := bndE hm
        obtain ⟨r20, h21, hm⟩ := hm
        refine ⟨(x_row : (List Int)), _, (x_many : Th), _, (x_thing : Th), _, rfl, (Wd.arr W4 (Ar.kn (t := false) (Kn.at 2 rfl))), (Wd.arr W4 (Ar.kn (t := false) (Kn.at 1 rfl))), (Wd.arr W4 (Ar.kn (t := false) (Kn.at 0 rfl))), r20, h21, fun y26 e27 v22 H23 R24 => ?_, fun c28 e29 H30 R31 => ?_⟩
        rotate_left
        · subst e29
          dsimp only at hm
          obtain ⟨_, W32⟩ := Wd.callU W4 R31
          exact (hq _ (some_inj hm)).2 _ rfl _ (Wd.res (x := (() : Unit)) W32 Kn.unit)
        subst e27
        dsimp only at hm
        cases hm
      · refine i_bF hb19 ?_
        refine i_next ?_
        refine i_seq ?_
        refine i_ifS ?_
        refine i_test ?_
        refine i_op ?_
        refine i_var rfl ?_
        refine i_c ?_
        refine i_eqI ?_
        refine i_bl ?_
        rcases iteE hm with ⟨hb33, hm⟩ | ⟨hb33, hm⟩
        · refine i_bT hb33 ?_
          refine i_ret ?_
          refine i_callX ?_
          refine i_tcons ?_
          refine i_var rfl ?_
          refine i_tcons ?_
          refine i_var rfl ?_
          refine i_tnil ?_
          replace hm := bndE hm
          obtain ⟨r34, h35, hm⟩ := hm
          refine ⟨(x_row : (List Int)), _, (x_many : Th), _, rfl, (Wd.arr W4 (Ar.kn (t := false) (Kn.at 2 rfl))), (Wd.arr W4 (Ar.kn (t := false) (Kn.at 1 rfl))), r34, h35, fun y40 e41 v36 H37 R38 => ?_, fun c42 e43 H44 R45 => ?_⟩
          rotate_left
          · subst e43
            dsimp only at hm
            obtain ⟨_, W46⟩ := Wd.callU W4 R45
            exact (hq _ (some_inj hm)).2 _ rfl _ (Wd.res (x := (() : Unit)) W46 Kn.unit)
          subst e41
          dsimp only at hm
          cases hm
        · refine i_bF hb33 ?_
          refine i_next ?_
          refine i_seq ?_
          refine i_ifS ?_
          refine i_test ?_
          refine i_op ?_
          refine i_var rfl ?_
          refine i_c ?_
          refine i_eqI ?_
          refine i_bl ?_
          rcases iteE hm with ⟨hb47, hm⟩ | ⟨hb47, hm⟩
          · refine i_bT hb47 ?_
            refine i_ret ?_
            refine i_callX ?_
            refine i_tcons ?_
            refine i_var rfl ?_
            refine i_tcons ?_
            refine i_var rfl ?_
            refine i_tcons ?_
            refine i_var rfl ?_
            refine i_tnil ?_
            replace hm := bndE hm
            obtain ⟨r48, h49, hm⟩ := hm
            refine ⟨(x_row : (List Int)), _, (x_many : Th), _, (x_thing : Th), _, rfl, (Wd.arr W4 (Ar.kn (t := false) (Kn.at 2 rfl))), (Wd.arr W4 (Ar.kn (t := false) (Kn.at 1 rfl))), (Wd.arr W4 (Ar.kn (t := false) (Kn.at 0 rfl))), r48, h49, fun y54 e55 v50 H51 R52 => ?_, fun c56 e57 H58 R59 => ?_⟩
            rotate_left
            · subst e57
              dsimp only at hm
              obtain ⟨_, W60⟩ := Wd.callU W4 R59
              exact (hq _ (some_inj hm)).2 _ rfl _ (Wd.res (x := (() : Unit)) W60 Kn.unit)
            subst e55
            dsimp only at hm
            cases hm
          · refine i_bF hb47 ?_
            refine i_next ?_
            refine i_ret ?_
            refine i_callX ?_
            refine i_tcons ?_
            refine i_var rfl ?_
            refine i_tcons ?_
            refine i_var rfl ?_
            refine i_tnil ?_
            replace hm := bndE hm
            obtain ⟨r61, h62, hm⟩ := hm
            refine ⟨(x_row : (List Int)), _, (x_many : Th), _, rfl, (Wd.arr W4 (Ar.kn (t := false) (Kn.at 2 rfl))), (Wd.arr W4 (Ar.kn (t := false) (Kn.at 1 rfl))), r61, h62, fun y67 e68 v63 H64 R65 => ?_, fun c69 e70 H71 R72 => ?_⟩
            rotate_left
            · subst e70
              dsimp only at hm
              obtain ⟨_, W73⟩ := Wd.callU W4 R72
              exact (hq _ (some_inj hm)).2 _ rfl _ (Wd.res (x := (() : Unit)) W73 Kn.unit)
            subst e68
            dsimp only at hm
            cases hm
end
/-! ### _law_refused -/
abbrev sp__law_refused (K : PySem.W.Frag) : Sp := fun vs H Q _ => ∃ (x_way : Int) (x_row : (List Int)) (v_row : V) (x_many : Th) (v_many : V) (x_thing : Th) (v_thing : V),  vs = [.int x_way, v_row, v_many, v_thing] ∧ Rp.rep (lkA K H) x_row v_row ∧ Rp.rep (lkA K H) x_many v_many ∧ Rp.rep (lkA K H) x_thing v_thing ∧ ∃ r : Bool, m__law_refused x_way x_row x_many x_thing = some r ∧ ∀ v' H', Res K H r v' H' → Q v' H'
section
variable {P : Program} {w : World} {K : PySem.W.Frag} {mg : Str → Option Value} {base : Heap}
abbrev N__law_refused : List Str := ["way", "row", "many", "thing", "caught", "e"]
theorem scope__law_refused : FnScope N__law_refused ["way", "row", "many", "thing"] (defScope s__law_refused) := ⟨rfl, rfl, rfl, by decide +kernel, rfl, by decide +kernel, by decide +kernel⟩
theorem ok__law_refused {f : Addr} {fd : FuncData} (F : FunD K "_law_refused" "_law_refused" (defArgs s__law_refused) (defBody s__law_refused) (defScope s__law_refused) [] [] f fd) (hm : mg "_law_refused" = some (.ref f)) (Z : Blt mg) (SM : SMd base) (XX : Exs K mg es6)
    (C_X__law_told : Fn P w K mg base 6 "_law_told" ["way", "row", "many", "thing"] (sp_X__law_told K)) :
    Fn P w K mg base 7 "_law_refused" ["way", "row", "many", "thing"] (sp__law_refused K) := by
  refine mkFn F hm (fun _ _ _ _ _ _ us hl => match us, hl with | [_, _, _, _], _ => rfl) (okG (k := 6) F scope__law_refused (fun vs H0 Q E h => ?_) (fun cdv A outer s H0 vs Q E hr hgd h => ?_))
  · obtain ⟨_, _, _, _, _, _, _, rfl, _⟩ := h; rfl
  · have nd := scope__law_refused.nd
    have hu := hr.units
    have hr_X__law_told : Room 6 _ := hr.mono (by decide : 6 ≤ 6)
    unfold sp__law_refused at h
    have g_CutError : mg ("CutError" : PySem.Str) = some (.ref (He.ga K ("CutError" : PySem.Str))) := XX.glo .cut (Er.mem6 _)
    obtain ⟨e1_CutError, e2_CutError, e3_CutError, e4_CutError⟩ := He.exc_ok (x := ("CutError" : PySem.Str)) (XX.exc .cut (Er.mem6 _))
    have g_NoCommand : mg ("NoCommand" : PySem.Str) = some (.ref (He.ga K ("NoCommand" : PySem.Str))) := XX.glo .command (Er.mem6 _)
    obtain ⟨e1_NoCommand, e2_NoCommand, e3_NoCommand, e4_NoCommand⟩ := He.exc_ok (x := ("NoCommand" : PySem.Str)) (XX.exc .command (Er.mem6 _))
    have g_NoMany : mg ("NoMany" : PySem.Str) = some (.ref (He.ga K ("NoMany" : PySem.Str))) := XX.glo .many (Er.mem6 _)
    obtain ⟨e1_NoMany, e2_NoMany, e3_NoMany, e4_NoMany⟩ := He.exc_ok (x := ("NoMany" : PySem.Str)) (XX.exc .many (Er.mem6 _))
    have g_NoNumber : mg ("NoNumber" : PySem.Str) = some (.ref (He.ga K ("NoNumber" : PySem.Str))) := XX.glo .number (Er.mem6 _)
    obtain ⟨e1_NoNumber, e2_NoNumber, e3_NoNumber, e4_NoNumber⟩ := He.exc_ok (x := ("NoNumber" : PySem.Str)) (XX.exc .number (Er.mem6 _))
    have g_NoPlace : mg ("NoPlace" : PySem.Str) = some (.ref (He.ga K ("NoPlace" : PySem.Str))) := XX.glo .place (Er.mem6 _)
    obtain ⟨e1_NoPlace, e2_NoPlace, e3_NoPlace, e4_NoPlace⟩ := He.exc_ok (x := ("NoPlace" : PySem.Str)) (XX.exc .place (Er.mem6 _))
    have g_NoText : mg ("NoText" : PySem.Str) = some (.ref (He.ga K ("NoText" : PySem.Str))) := XX.glo .text (Er.mem6 _)
    obtain ⟨e1_NoText, e2_NoText, e3_NoText, e4_NoText⟩ := He.exc_ok (x := ("NoText" : PySem.Str)) (XX.exc .text (Er.mem6 _))
    refine ⟨_, PSs.nox (pss_cons (ps_set (i := 4) nd rfl (.inl rfl) pe_non)
    (pss_cons (ps_try_k (i := 5) rfl rfl rfl nd rfl rfl ⟨by rfl, by decide, .inl g_CutError⟩ (fun W pn xe tk pw => (pss_one (ps_expr (pe_fnX C_X__law_told hr_X__law_told hgd (by rfl) (fun σ => passAt tk σ) (pa_cons (pv 0) (pa_cons (pv 1) (pa_cons (pv 2) (pa_cons (pv 3) pa_nil)))))))) (fun a pn => (pss_one (ps_set (i := 4) nd rfl (.inl rfl) (pv 5)))))
    (pss_cons (ps_if (PW.pt (pw_or (pt_not (pt_val (pe_callB call_isY (by rfl) Z.isinstance_ (by decide +kernel) (pa_cons (pv 4) (pa_cons (pe_glob (v := .ref (He.ga K ("NoMany" : PySem.Str))) rfl g_NoMany rfl) pa_nil))))) (pw_or1 (pt_not (pt_val (pe_callB call_isY (by rfl) Z.isinstance_ (by decide +kernel) (pa_cons (pv 4) (pa_cons (pe_bltn (v := .ty "ValueError") (by rfl) Z.ValueError_ (by decide +kernel) rfl) pa_nil)))))))) (pss_one (ps_ret pe_bl)) pss_nil)
    (pss_one (ps_ret (pe_not (pe_callB call_isY (by rfl) Z.isinstance_ (by decide +kernel) (pa_cons (pv 4) (pa_cons (pe_tup (pa_cons (pe_glob (v := .ref (He.ga K ("NoCommand" : PySem.Str))) rfl g_NoCommand rfl) (pa_cons (pe_glob (v := .ref (He.ga K ("NoNumber" : PySem.Str))) rfl g_NoNumber rfl) (pa_cons (pe_glob (v := .ref (He.ga K ("NoPlace" : PySem.Str))) rfl g_NoPlace rfl) (pa_cons (pe_glob (v := .ref (He.ga K ("NoText" : PySem.Str))) rfl g_NoText rfl) pa_nil))))) pa_nil))))))))), ?_⟩
    (try dsimp only [cxOf])
    obtain ⟨x_way, x_row, v_row, x_many, v_many, x_thing, v_thing, rfl, h_row, h_many, h_thing, r0, hm, q⟩ := h
    let G_ : Bool → Prop := fun r => ∀ v' H', Res K H0 r v' H' → Q v' H'
    have hq : ∀ r, r = r0 → G_ r := fun r e => by subst e; exact q
    clear q
    unfold m__law_refused at hm
    have W0 := Wd.start (K := K) H0
    have W1 := Wd.arg W0 h_row
    obtain ⟨a2, rfl⟩ := Wd.eqL W1 (Kn.at 0 rfl)
    have W3 := Wd.arg W1 h_many
    have W4 := Wd.arg W3 h_thing
    refine i_seq ?_
    refine i_asg ?_
    refine i_c ?_
    refine i_gName ?_
    clear W0 W1 W3
    refine i_seq ?_
    refine i_drop ?_
    refine i_callX ?_
    refine i_tcons ?_
    refine i_var rfl ?_
    refine i_tcons ?_
    refine i_var rfl ?_
    refine i_tcons ?_
    refine i_var rfl ?_
    refine i_tcons ?_
    refine i_var rfl ?_
    refine i_tnil ?_
    replace hm := bndE hm
    obtain ⟨r5, h6, hm⟩ := hm
    refine ⟨x_way, (x_row : (List Int)), _, (x_many : Th), _, (x_thing : Th), _, rfl, (Wd.arr W4 (Ar.kn (t := false) (Kn.at 2 rfl))), (Wd.arr W4 (Ar.kn (t := false) (Kn.at 1 rfl))), (Wd.arr W4 (Ar.kn (t := false) (Kn.at 0 rfl))), r5, h6, fun y11 e12 v7 H8 R9 => ?_, fun c13 e14 H15 R16 => ?_⟩
    rotate_left
    · subst e14
      dsimp only at hm
      obtain ⟨_, W17⟩ := Wd.callU W4 R16
      refine ⟨rfl, Exs.cut XX c13, fun a18 ha19 => ?_⟩
      (try dsimp only [List.set])
      have W20 := Wd.keepE (c := c13) W17 ha19
      refine i_asg ?_
      refine i_var rfl ?_
      refine i_gName ?_
      clear W4 W17
      (try dsimp only [List.set])
      refine i_seq ?_
      refine i_ifS ?_
      refine i_or ?_
      refine i_not ?_
      refine i_tB ?_
      refine i_cb ?_
      refine i_tcons ?_
      refine i_var rfl ?_
      refine i_tcons ?_
      refine i_c ?_
      refine i_tnil ?_
      refine w_isC .many XX W20 (Kn.at 0 rfl) ?_
      refine i_bl ?_
      refine w_orW (L' := _) ((!(Er.sub c13 .many)) || (!(Er.sub c13 .cut))) W20 (fun hb21 P22 hP23 => ?_) (fun hb21 => ⟨or_t hb21, W20⟩) (fun H24 W25 => ?_)
      · refine i_not ?_
        refine i_tB ?_
        refine i_cb ?_
        refine i_tcons ?_
        refine i_var rfl ?_
        refine i_tcons ?_
        refine i_c ?_
        refine i_tnil ?_
        refine w_isVE XX W20 (Kn.at 0 rfl) ?_
        refine i_bl ?_
        exact hP23 _ _ (or_f hb21) W20
      clear W20
      rcases iteE hm with ⟨hb26, hm⟩ | ⟨hb26, hm⟩
      · refine i_bT hb26 ?_
        refine i_ret ?_
        refine i_c ?_
        exact hq _ (some_inj hm) _ _ (Wd.res (x := (false : Bool)) W25 Kn.bl)
      · refine i_bF hb26 ?_
        refine i_next ?_
        refine i_ret ?_
        refine i_notV ?_
        refine i_cb ?_
        refine i_tcons ?_
        refine i_var rfl ?_
        refine i_tcons ?_
        refine i_ttup ?_
        refine i_tcons ?_
        refine i_c ?_
        refine i_tcons ?_
        refine i_c ?_
        refine i_tcons ?_
        refine i_c ?_
        refine i_tcons ?_
        refine i_c ?_
        refine i_tnil ?_
        refine w_tupC [Er.command, Er.number, Er.place, Er.text] (by decide) W25 (fun p27 H28 W29 hp30 => ?_)
        refine i_tnil ?_
        refine w_isT [Er.command, Er.number, Er.place, Er.text] XX W29 (Kn.at 0 rfl) hp30 ?_
        refine i_bl ?_
        exact hq _ (some_inj hm) _ _ (Wd.res (x := ((!(List.any [Er.command, Er.number, Er.place, Er.text] (Er.sub c13))) : Bool)) W29 Kn.bl)
    subst e12
    dsimp only at hm
    cases hm
end
/-! ### _law_deep -/
abbrev sp__law_deep (K : PySem.W.Frag) : Sp := fun vs H Q _ => ∃ (x_many : Int),  vs = [.int x_many] ∧ ∃ r : (List Th), m__law_deep x_many = some r ∧ ∀ v' H', Res K H r v' H' → Q v' H'
section
variable {P : Program} {w : World} {K : PySem.W.Frag} {mg : Str → Option Value} {base : Heap}
abbrev N__law_deep : List Str := ["many", "found", "k"]
theorem scope__law_deep : FnScope N__law_deep ["many"] (defScope s__law_deep) := ⟨rfl, rfl, rfl, by decide +kernel, rfl, by decide +kernel, by decide +kernel⟩
theorem ok__law_deep {f : Addr} {fd : FuncData} (F : FunD K "_law_deep" "_law_deep" (defArgs s__law_deep) (defBody s__law_deep) (defScope s__law_deep) [] [] f fd) (hm : mg "_law_deep" = some (.ref f)) (Z : Blt mg) (SM : SMd base) (XX : Exs K mg es6) :
    Fn P w K mg base 1 "_law_deep" ["many"] (sp__law_deep K) := by
  refine mkFn F hm (fun _ _ _ _ _ _ us hl => match us, hl with | [_], _ => rfl) (okG (k := 0) F scope__law_deep (fun vs H0 Q E h => ?_) (fun cdv A outer s H0 vs Q E hr hgd h => ?_))
  · obtain ⟨_, rfl, _⟩ := h; rfl
  · have nd := scope__law_deep.nd
    have hu := hr.units
    unfold sp__law_deep at h
    refine ⟨_, PSs.nox (pss_cons (ps_set (i := 1) nd rfl (.inl rfl) (pe_lst pa_nil))
    (pss_cons (ps_for PassesOwn.never rfl (pi_range1 (by rfl) Z.range_ (pa_cons (pv 0) pa_nil)) (pg_name (i := 2) nd rfl (.inl rfl)) (pss_one (ps_set (i := 1) nd rfl (.inl rfl) (pe_lst (pa_cons (pv 1) pa_nil)))))
    (pss_one (ps_ret (pv 1))))), ?_⟩
    (try dsimp only [cxOf])
    obtain ⟨x_many, rfl, r0, hm, q⟩ := h
    let G_ : (List Th) → Prop := fun r => ∀ v' H', Res K H0 r v' H' → Q v' H'
    have hq : ∀ r, r = r0 → G_ r := fun r e => by subst e; exact q
    clear q
    unfold m__law_deep at hm
    have W0 := Wd.start (K := K) H0
    refine i_seq ?_
    refine i_asg ?_
    refine i_tlst ?_
    refine i_tnil ?_
    refine w_lst (α := Th) (t := true) W0 KnL.nil (by show (0 : Nat) ≤ sizeLine; decide) (fun p1 H2 W3 => ?_)
    have W4 := Wd.frz W3
    refine i_gName ?_
    clear W0 W3
    refine i_seq ?_
    refine i_for ?_
    refine i_iRng1 ?_
    refine i_tcons ?_
    refine i_var rfl ?_
    refine i_tnil ?_
    replace hm := bndE hm
    obtain ⟨x6, h7, hm⟩ := hm
    refine w_rg1 h7 (fun e5 => ?_)
    subst e5
    have W8 := Wd.sel W4 [0] rfl
    replace hm := bndE hm
    obtain ⟨o14, h15, hm⟩ := hm
    refine w_fold (⟨fun b e => [some (.int x_many), some e.1, e.2], fun b e => [fc true (b : (List Th)) e.1], fun b e => []⟩ : Shp ((List Th)) (V × Option V)) ((.ref p1), none) h15 rfl W8 gv_rng ?_ ?_
    · intro x11 v12 b9 e10 H16 o17 W13 hm
      obtain ⟨e10_0, e10_1⟩ := e10
      dsimp only at W13 ⊢
      obtain ⟨a22, rfl⟩ := Wd.eqL W13 (Kn.at 1 rfl)
      obtain rfl := Wd.eqI W13 (Kn.at 0 rfl)
      refine i_gName ?_
      refine i_asg ?_
      refine i_tlst ?_
      refine i_tcons ?_
      refine i_var rfl ?_
      refine i_tnil ?_
      refine w_lst (α := (List Th)) (t := true) W13 (KnL.cons (Kn.at 1 rfl) KnL.nil) (by show (1 : Nat) ≤ sizeLine; decide) (fun p23 H24 W25 => ?_)
      have W26 := Wd.frz W25
      refine i_gName ?_
      clear W13 W25
      have W27 := Wd.know (t := true) (x := ((List.map Co.f ([b9] : List (List Th)) : (List Th)) : (List Th))) W26 (Kn.co (α := (List (List Th))) (β := (List Th)) (Kn.at 0 rfl))
      have W28 := Wd.sel W27 [0] rfl
      obtain rfl := some_inj hm
      exact ⟨((.ref p23), some (.int x11)), rfl, W28⟩
    · intro e30 H31 W32
      obtain ⟨e30_0, e30_1⟩ := e30
      dsimp only at W32 ⊢
      obtain ⟨a34, rfl⟩ := Wd.eqL W32 (Kn.at 0 rfl)
      refine i_ret ?_
      refine i_var rfl ?_
      exact hq _ (some_inj hm) _ _ (Wd.res (x := (o14 : (List Th))) W32 (Kn.at 0 rfl))
end
/-! ### law -/
abbrev sp_law (K : PySem.W.Frag) : Sp := fun vs H Q _ => ∃ (x_script : Scr) (v_script : V),  vs = [v_script] ∧ Rp.rep (lkA K H) x_script v_script ∧ ∃ r : Bool, m_law x_script = some r ∧ ∀ v' H', Res K H r v' H' → Q v' H'
section
variable {P : Program} {w : World} {K : PySem.W.Frag} {mg : Str → Option Value} {base : Heap}
abbrev N_law : List Str := ["script", "draws", "many", "row", "good", "handed", "things", "ring", "way", "some", "right", "thing", "told", "kept", "number"]
theorem scope_law : FnScope N_law ["script"] (defScope s_law) := ⟨rfl, rfl, rfl, by decide +kernel, rfl, by decide +kernel, by decide +kernel⟩
theorem ok_law {f : Addr} {fd : FuncData} (F : FunD K "law" "law" (defArgs s_law) (defBody s_law) (defScope s_law) [] [] f fd) (hm : mg "law" = some (.ref f)) (Z : Blt mg) (SM : SMd base) (XX : Exs K mg es6)
    (C__law_told : Fn P w K mg base 6 "_law_told" ["way", "row", "many", "thing"] (sp__law_told K))
    (C__law_refused : Fn P w K mg base 7 "_law_refused" ["way", "row", "many", "thing"] (sp__law_refused K))
    (C__law_deep : Fn P w K mg base 1 "_law_deep" ["many"] (sp__law_deep K))
    (C__law_no_many : Fn P w K mg base 2 "_law_no_many" ["draws", "size"] (sp__law_no_many K))
    (C__law_take : Fn P w K mg base 1 "_law_take" ["draws", "many"] (sp__law_take K))
    (C__law_pieces : Fn P w K mg base 2 "_law_pieces" ["draws", "row"] (sp__law_pieces K))
    (C__law_row : Fn P w K mg base 2 "_law_row" ["draws", "most"] (sp__law_row K))
    (C__law_draws : Fn P w K mg base 1 "_law_draws" ["script"] (sp__law_draws K)) :
    FnG P w K mg base 8 f fd ["script"] (sp_law K) := by
  refine okG (k := 7) F scope_law (fun vs H0 Q E h => ?_) (fun cdv A outer s H0 vs Q E hr hgd h => ?_)
  · obtain ⟨_, _, rfl, _⟩ := h; rfl
  · have nd := scope_law.nd
    have hu := hr.units
    have hr__law_told : Room 6 _ := hr.mono (by decide : 6 ≤ 7)
    have hr__law_refused : Room 7 _ := hr.mono (by decide : 7 ≤ 7)
    have hr__law_deep : Room 1 _ := hr.mono (by decide : 1 ≤ 7)
    have hr__law_no_many : Room 2 _ := hr.mono (by decide : 2 ≤ 7)
    have hr__law_take : Room 1 _ := hr.mono (by decide : 1 ≤ 7)
    have hr__law_pieces : Room 2 _ := hr.mono (by decide : 2 ≤ 7)
    have hr__law_row : Room 2 _ := hr.mono (by decide : 2 ≤ 7)
    have hr__law_draws : Room 1 _ := hr.mono (by decide : 1 ≤ 7)
    unfold sp_law at h
    refine ⟨_, PSs.nox (pss_cons (ps_set (i := 1) nd rfl (.inl rfl) (pe_fn C__law_draws hr__law_draws hgd (by rfl) passL (pa_cons (pv 0) pa_nil)))
    (pss_cons (ps_set (i := 2) nd rfl (.inl rfl) pe_int)
    (pss_cons (ps_while PassesOwn.never (PW.pt (pw_or (pt_cmpR (op_ltA hu) (pv 2) pe_int (nomark _)) (pw_or1 (PW.pt (pw_and (pt_cmpR (op_neA hu) (pv 1) (pe_lst pa_nil) (nomark _)) (pw_and1 (pt_cmpR (op_ltA hu) (pv 2) pe_int (nomark _)))))))) (pss_cons (ps_set (i := 3) nd rfl (.inl rfl) (pe_fn C__law_row hr__law_row hgd (by rfl) passL (pa_cons (pv 1) (pa_cons pe_int pa_nil))))
    (pss_cons (ps_set (i := 4) nd rfl (.inl rfl) (pe_fn C__law_pieces hr__law_pieces hgd (by rfl) passL (pa_cons (pv 1) (pa_cons (pv 3) pa_nil))))
    (pss_cons (ps_set (i := 5) nd rfl (.inl rfl) (pe_callTy cl_list (by rfl) Z.list_ (by decide +kernel) (pa_cons (pv 3) pa_nil)))
    (pss_cons (ps_set (i := 6) nd rfl (.inl rfl) (pe_lst (pa_cons (pe_tup (pa_cons pe_str (pa_cons pe_int pa_nil))) (pa_cons (pe_lst pa_nil) (pa_cons pe_non (pa_cons (pe_lst (pa_cons pe_int pa_nil)) (pa_cons (pe_tup (pa_cons pe_str (pa_cons (pe_lst pa_nil) pa_nil))) (pa_cons pe_dnewK pa_nil))))))))
    (pss_cons (ps_set (i := 7) nd rfl (.inl rfl) (pe_slice sl_list (pv 3) po_none (po_some pe_int)))
    (pss_cons (ps_for PassesOwn.never rfl (pi_range1 (by rfl) Z.range_ (pa_cons pe_int pa_nil)) (pg_name (i := 8) nd rfl (.inl rfl)) (pss_cons (ps_set (i := 9) nd rfl (.inl rfl) (pe_ix ix_seq (pe_lst (pa_cons (pv 3) (pa_cons (pv 7) pa_nil))) (pe_callTy cl_int (by rfl) Z.int_ (by decide +kernel) (pa_cons (pe_cmpR (op_eqA hu) (pv 8) pe_int (nomark _)) pa_nil)) (fun _ _ => rfl)))
    (pss_cons (ps_set (i := 10) nd rfl (.inl rfl) (pe_callB (cl_min2 rfl) (by rfl) Z.min_ (by decide +kernel) (pa_cons (pv 4) (pa_cons (pe_callB cl_len (by rfl) Z.len_ (by decide +kernel) (pa_cons (pv 9) pa_nil)) pa_nil))))
    (pss_cons (ps_set (i := 11) nd rfl (.inl rfl) (pe_ix ix_seq (pv 6) (pe_fn C__law_take hr__law_take hgd (by rfl) passL (pa_cons (pv 1) (pa_cons pe_int pa_nil))) (fun _ _ => rfl)))
    (pss_cons (ps_set (i := 12) nd rfl (.inl rfl) (pe_fn C__law_told hr__law_told hgd (by rfl) passL (pa_cons (pv 8) (pa_cons (pv 9) (pa_cons (pv 10) (pa_cons (pv 11) pa_nil))))))
    (pss_cons (ps_set (i := 13) nd rfl (.inl rfl) (pe_callB (call_reprU hgd hu SM) (by rfl) Z.repr_ (by decide +kernel) (pa_cons (pe_lst (pa_cons (pv 9) (pa_cons (pv 11) pa_nil))) pa_nil)))
    (pss_cons (ps_for PassesOwn.never rfl (pi_list (pe_fn C__law_no_many hr__law_no_many hgd (by rfl) passL (pa_cons (pv 1) (pa_cons (pe_callB cl_len (by rfl) Z.len_ (by decide +kernel) (pa_cons (pv 9) pa_nil)) pa_nil)))) (pg_name (i := 14) nd rfl (.inl rfl)) (pss_one (ps_if (PW.pt (pw_or (pt_not (pt_val (pe_fn C__law_refused hr__law_refused hgd (by rfl) passL (pa_cons (pv 8) (pa_cons (pv 9) (pa_cons (pv 14) (pa_cons (pv 11) pa_nil))))))) (pw_or1 (pt_cmpR (op_neA hu) (pe_callB (call_reprU hgd hu SM) (by rfl) Z.repr_ (by decide +kernel) (pa_cons (pe_lst (pa_cons (pv 9) (pa_cons (pv 11) pa_nil))) pa_nil)) (pv 13) (nomark _))))) (pss_one (ps_ret pe_bl)) pss_nil)))
    (pss_cons (ps_if (PW.pt (pw_or (pt_not (pt_val (pe_fn C__law_refused hr__law_refused hgd (by rfl) passL (pa_cons (pv 8) (pa_cons (pv 9) (pa_cons (pe_fn C__law_deep hr__law_deep hgd (by rfl) passL (pa_cons pe_int pa_nil)) (pa_cons (pv 11) pa_nil))))))) (pw_or1 (pt_cmpR (op_neA hu) (pe_fn C__law_told hr__law_told hgd (by rfl) passL (pa_cons (pv 8) (pa_cons (pv 9) (pa_cons (pv 10) (pa_cons (pv 11) pa_nil))))) (pv 12) (nomark _))))) (pss_one (ps_ret pe_bl)) pss_nil)
    (pss_one (ps_if (PW.pt (pw_or (pt_cmpR (op_neA hu) (pe_callB (call_reprU hgd hu SM) (by rfl) Z.repr_ (by decide +kernel) (pa_cons (pe_lst (pa_cons (pv 9) (pa_cons (pv 11) pa_nil))) pa_nil)) (pv 13) (nomark _)) (pw_or1 (pt_cmpR (op_neA hu) (pv 3) (pv 5) (nomark _))))) (pss_one (ps_ret pe_bl)) pss_nil))))))))))
    (pss_one (ps_set (i := 2) nd rfl (.inl rfl) (pe_op op_addA (pv 2) pe_int))))))))))
    (pss_one (ps_ret pe_bl))))), ?_⟩
    (try dsimp only [cxOf])
    obtain ⟨x_script, v_script, rfl, h_script, r0, hm, q⟩ := h
    let G_ : Bool → Prop := fun r => ∀ v' H', Res K H0 r v' H' → Q v' H'
    have hq : ∀ r, r = r0 → G_ r := fun r e => by subst e; exact q
    clear q
    unfold m_law at hm
    have W0 := Wd.start (K := K) H0
    have W1 := Wd.arg W0 h_script
    obtain ⟨a2, rfl⟩ := Wd.eqScr W1 (Kn.at 0 rfl)
    refine i_seq ?_
    refine i_asg ?_
    refine i_call ?_
    refine i_tcons ?_
    refine i_var rfl ?_
    refine i_tnil ?_
    replace hm := bndE hm
    obtain ⟨r3, h4, hm⟩ := hm
    refine ⟨(x_script : Scr), _, rfl, (Wd.arr W1 (Ar.kn (t := false) (Kn.at 0 rfl))), r3, h4, fun v5 H6 R7 => ?_⟩
    obtain ⟨p9, rfl, W8⟩ := Wd.callO W1 R7
    refine i_gName ?_
    clear W0 W1
    refine i_seq ?_
    refine i_asg ?_
    refine i_c ?_
    refine i_gName ?_
    refine i_seq ?_
    have W10 := Wd.sel W8 [] rfl
    replace hm := bndE hm
    obtain ⟨o16, h17, hm⟩ := hm
    have hqi : ∀ r, o16 = .ret r → G_ r := fun r er => by subst er; exact hq _ (some_inj hm)
    refine w_while (⟨fun b e => [some (.ref a2), some (.ref p9), some (.int b.2), e.2.2.2.2.2.2.1, e.1, e.2.1, e.2.2.2.2.2.2.2.2.2.1, e.2.2.2.2.2.1, e.2.2.2.2.2.2.2.2.2.2.2, e.2.2.2.2.2.2.2.1, e.2.2.2.2.1, e.2.2.2.2.2.2.2.2.1, e.2.2.2.2.2.2.2.2.2.2.1, e.2.2.1, e.2.2.2.1], fun b e => [], fun b e => [oL true p9 (b.1 : List Int)]⟩ : Shp ((List Int) × Int) (Option V × Option V × Option V × Option V × Option V × Option V × Option V × Option V × Option V × Option V × Option V × Option V)) (none, none, none, none, none, none, none, none, none, none, none, none) h17 rfl W10 ?_ ?_
    · intro b11 e12 H18 o19 W15 hm hr20 hbk23 P21 hP22
      have hqii : ∀ r, o19 = .ret r → G_ r := fun r er => hqi r (hr20 r er)
      obtain ⟨e12_0, e12_1, e12_2, e12_3, e12_4, e12_5, e12_6, e12_7, e12_8, e12_9, e12_10, e12_11⟩ := e12
      dsimp only at W15 ⊢
      refine i_or ?_
      refine i_test ?_
      refine i_op ?_
      refine i_var rfl ?_
      refine i_c ?_
      refine i_ltA ?_
      refine i_bl ?_
      replace hm := bndE hm
      obtain ⟨x39, h40, hm⟩ := hm
      refine w_orW (L' := [oL true p9 (b11.1 : List Int)]) x39 W15 (fun hb24 P25 hP26 => ?_) (fun hb24 => ?_) (fun H41 W42 => ?_)
      · have hm : _ = some x39 := (if_neg (by rw [hb24]; exact Bool.false_ne_true)).symm.trans h40
        refine i_and ?_
        refine i_test ?_
        refine i_op ?_
        refine i_var rfl ?_
        refine i_tlst ?_
        refine i_tnil ?_
        refine w_lst (α := Int) (t := true) W15 KnL.nil (by show (0 : Nat) ≤ sizeLine; decide) (fun p27 H28 W29 => ?_)
        have W30 := Wd.frz W29
        replace hm := bndE hm
        obtain ⟨x31, h32, hm⟩ := hm
        refine w_ne W30 (Ar.lx (Lx.own 0 rfl)) (Ar.kn (t := true) (Kn.at 0 rfl)) h32 ?_
        refine i_bl ?_
        refine w_andW (L' := _) ((!x31) && (decide (b11.2 < 6))) W30 (fun hb33 P34 hP35 => ?_) (fun hb33 => ⟨and_f hb33, W30⟩) (fun H36 W37 => ?_)
        · refine i_test ?_
          refine i_op ?_
          refine i_var rfl ?_
          refine i_c ?_
          refine i_ltA ?_
          refine i_bl ?_
          exact hP35 _ _ (and_t hb33) W30
        have W38 := Wd.drop W37 1 rfl
        have hm := some_inj hm
        exact hP26 _ _ hm W38
      · have hm := some_inj ((if_pos hb24).symm.trans h40)
        exact ⟨hm, W15⟩
      clear W15
      rcases iteE hm with ⟨hb44, hm⟩ | ⟨hb44, hm⟩
      · refine i_bT hb44 ?_
        refine ⟨_, hP22, ?_⟩
        refine i_seq ?_
        refine i_asg ?_
        refine i_call ?_
        refine i_tcons ?_
        refine i_var rfl ?_
        refine i_tcons ?_
        refine i_c ?_
        refine i_tnil ?_
        replace hm := bndE hm
        obtain ⟨r45, h46, hm⟩ := hm
        obtain ⟨us53, h51, h52⟩ := Wd.ioa W42 0 rfl
        refine ⟨p9, (b11.1 : List Int), us53, 120, rfl, h51, h52, r45, h46, fun v47 H48 R49 => ?_⟩
        have W50 := Wd.call1 (x := r45.1) (ys' := r45.2) W42 0 rfl R49
        obtain ⟨a54, rfl⟩ := Wd.eqL W50 (Kn.at 0 rfl)
        refine i_gName ?_
        clear W42
        refine i_seq ?_
        refine i_asg ?_
        refine i_call ?_
        refine i_tcons ?_
        refine i_var rfl ?_
        refine i_tcons ?_
        refine i_var rfl ?_
        refine i_tnil ?_
        replace hm := bndE hm
        obtain ⟨r55, h56, hm⟩ := hm
        obtain ⟨us63, h61, h62⟩ := Wd.ioa W50 0 rfl
        refine ⟨p9, (r45.2 : List Int), us63, (r45.1 : (List Int)), _, rfl, h61, h62, (Wd.ard W50 (ArD.kn (t := true) 0 rfl (Kn.at 0 rfl))), r55, h56, fun v57 H58 R59 => ?_⟩
        obtain ⟨rfl, W60⟩ := Wd.call1I (i := r55.1) (ys' := r55.2) W50 0 rfl R59
        refine i_gName ?_
        clear W50
        refine i_seq ?_
        refine i_asg ?_
        refine i_cb ?_
        refine i_tcons ?_
        refine i_var rfl ?_
        refine i_tnil ?_
        refine w_list W60 (Lx.ls (Lx.kn (Kn.at 0 rfl))) (fun p64 H65 W66 => ?_)
        have W67 := Wd.frz W66
        refine i_gName ?_
        clear W60 W66
        refine i_seq ?_
        refine i_asg ?_
        refine i_tlst ?_
        refine i_tcons ?_
        refine i_ttup ?_
        refine i_tcons ?_
        refine i_c ?_
        refine i_tcons ?_
        refine i_c ?_
        refine i_tnil ?_
        refine w_tup2 (t := true) W67 Kn.str Kn.int (fun p68 H69 W70 => ?_)
        refine i_tcons ?_
        refine i_tlst ?_
        refine i_tnil ?_
        refine w_lst (α := Int) (t := true) W70 KnL.nil (by show (0 : Nat) ≤ sizeLine; decide) (fun p71 H72 W73 => ?_)
        have W74 := Wd.frz W73
        refine i_tcons ?_
        refine i_c ?_
        refine i_tcons ?_
        refine i_tlst ?_
        refine i_tcons ?_
        refine i_c ?_
        refine i_tnil ?_
        refine w_lst (α := Int) (t := true) W74 (KnL.cons Kn.int KnL.nil) (by show (1 : Nat) ≤ sizeLine; decide) (fun p75 H76 W77 => ?_)
        have W78 := Wd.frz W77
        refine i_tcons ?_
        refine i_ttup ?_
        refine i_tcons ?_
        refine i_c ?_
        refine i_tcons ?_
        refine i_tlst ?_
        refine i_tnil ?_
        refine w_lst (α := Int) (t := true) W78 KnL.nil (by show (0 : Nat) ≤ sizeLine; decide) (fun p79 H80 W81 => ?_)
        have W82 := Wd.frz W81
        refine i_tnil ?_
        refine w_tup2 (t := true) W82 Kn.str (Kn.at 0 rfl) (fun p83 H84 W85 => ?_)
        refine i_tcons ?_
        refine w_dnew W85 (fun p86 H87 W88 => ?_)
        refine i_tnil ?_
        refine w_lst (α := Th) (t := true) W88 (KnL.cons (Kn.co (α := (PySem.Str × Int)) (β := Th) (Kn.at 5 rfl)) (KnL.cons (Kn.co (α := (List Int)) (β := Th) (Kn.at 4 rfl)) (KnL.cons (Kn.co (α := Unit) (β := Th) Kn.unit) (KnL.cons (Kn.co (α := (List Int)) (β := Th) (Kn.at 3 rfl)) (KnL.cons (Kn.co (α := (PySem.Str × (List Int))) (β := Th) (Kn.at 1 rfl)) (KnL.cons (Kn.at 0 rfl) KnL.nil)))))) (by show (6 : Nat) ≤ sizeLine; decide) (fun p89 H90 W91 => ?_)
        have W92 := Wd.frz W91
        refine i_gName ?_
        clear W67 W70 W73 W74 W77 W78 W81 W82 W85 W88 W91
        refine i_seq ?_
        refine i_asg ?_
        refine i_sl ?_
        refine i_var rfl ?_
        refine i_nopart ?_
        refine i_part ?_
        refine i_c ?_
        refine i_partI ?_
        refine w_slice W92 (Lx.ls (Lx.kn (Kn.at 8 rfl))) (fun p93 H94 W95 => ?_)
        have W96 := Wd.frz W95
        refine i_gName ?_
        clear W92 W95
        refine i_seq ?_
        refine i_for ?_
        refine i_iRng1 ?_
        refine i_tcons ?_
        refine i_c ?_
        refine i_tnil ?_
        replace hm := bndE hm
        obtain ⟨x98, h99, hm⟩ := hm
        refine w_rg1 h99 (fun e97 => ?_)
        subst e97
        have W100 := Wd.sel W96 [0, 1, 8, 9] rfl
        replace hm := bndE hm
        obtain ⟨o106, h107, hm⟩ := hm
        have hqiii : ∀ r, o106 = .ret r → G_ r := fun r er => by subst er; exact hqii _ (some_inj hm).symm
        refine w_for (⟨fun b e => [some (.ref a2), some (.ref p9), some (.int b11.2), some (.ref a54), some (.int r55.1), some (.ref p64), some (.ref p89), some (.ref p93), e.2.2.2.2.2.2, e.2.2.2.1, e.2.2.1, e.2.2.2.2.1, e.2.2.2.2.2.1, e.1, e.2.1], fun b e => [fc true ((sliceI r45.1 none (some 40)) : (List Int)) (.ref p93), fc true (([(Co.f ((("number" : PySem.Str), 0) : (PySem.Str × Int)) : Th), (Co.f (([] : List Int) : (List Int)) : Th), (Co.f (() : Unit) : Th), (Co.f (([0] : List Int) : (List Int)) : Th), (Co.f ((("stretches" : PySem.Str), ([] : List Int)) : (PySem.Str × (List Int))) : Th), (Th.dic [] [])] : List Th) : (List Th)) (.ref p89), fc true (r45.1 : (List Int)) (.ref p64), fc true (r45.1 : (List Int)) (.ref a54)], fun b e => [oL true p9 (b : List Int)]⟩ : Shp ((List Int)) (Option V × Option V × Option V × Option V × Option V × Option V × Option V)) (e12_2, e12_3, e12_4, e12_7, e12_8, e12_10, e12_11) h107 rfl W100 gv_rng ?_ ?_
        · intro x103 v104 b101 e102 H108 o109 W105 hm hr110
          have hqiiii : ∀ r, o109 = .ret r → G_ r := fun r er => hqiii r (hr110 r er)
          obtain ⟨e102_0, e102_1, e102_2, e102_3, e102_4, e102_5, e102_6⟩ := e102
          dsimp only at W105 ⊢
          obtain rfl := Wd.eqI W105 (Kn.at 0 rfl)
          refine i_gName ?_
          refine i_seq ?_
          refine i_asg ?_
          refine i_op ?_
          refine i_tlst ?_
          refine i_tcons ?_
          refine i_var rfl ?_
          refine i_tcons ?_
          refine i_var rfl ?_
          refine i_tnil ?_
          refine w_lst (α := (List Int)) (t := true) W105 (KnL.cons (Kn.at 4 rfl) (KnL.cons (Kn.at 1 rfl) KnL.nil)) (by show (2 : Nat) ≤ sizeLine; decide) (fun p114 H115 W116 => ?_)
          have W117 := Wd.frz W116
          refine i_cb ?_
          refine i_tcons ?_
          refine i_op ?_
          refine i_var rfl ?_
          refine i_c ?_
          refine i_eqI ?_
          refine i_tnil ?_
          refine i_intB ?_
          replace hm := bndE hm
          obtain ⟨x118, h119, hm⟩ := hm
          refine w_ix W117 (Lx.ls (Lx.kn (Kn.at 0 rfl))) h119 (fun u120 W121 => ?_)
          obtain ⟨a122, rfl⟩ := Wd.eqL W121 (Kn.at 0 rfl)
          refine i_gName ?_
          clear W105 W116 W117
          refine i_seq ?_
          refine i_asg ?_
          refine i_cb ?_
          refine i_tcons ?_
          refine i_var rfl ?_
          refine i_tcons ?_
          refine i_cb ?_
          refine i_tcons ?_
          refine i_var rfl ?_
          refine i_tnil ?_
          refine w_len W121 (Lx.ls (Lx.kn (Kn.at 0 rfl))) ?_
          refine i_tnil ?_
          refine i_min2 ?_
          refine i_gName ?_
          refine i_seq ?_
          refine i_asg ?_
          refine i_op ?_
          refine i_var rfl ?_
          refine i_call ?_
          refine i_tcons ?_
          refine i_var rfl ?_
          refine i_tcons ?_
          refine i_c ?_
          refine i_tnil ?_
          replace hm := bndE hm
          obtain ⟨r123, h124, hm⟩ := hm
          obtain ⟨us131, h129, h130⟩ := Wd.ioa W121 0 rfl
          refine ⟨p9, (b101 : List Int), us131, 6, rfl, h129, h130, r123, h124, fun v125 H126 R127 => ?_⟩
          obtain ⟨rfl, W128⟩ := Wd.call1I (i := r123.1) (ys' := r123.2) W121 0 rfl R127
          replace hm := bndE hm
          obtain ⟨x132, h133, hm⟩ := hm
          refine w_ix W128 (Lx.ls (Lx.kn (Kn.at 4 rfl))) h133 (fun u134 W135 => ?_)
          refine i_gName ?_
          clear W121 W128
          refine i_seq ?_
          refine i_asg ?_
          refine i_call ?_
          refine i_tcons ?_
          refine i_var rfl ?_
          refine i_tcons ?_
          refine i_var rfl ?_
          refine i_tcons ?_
          refine i_var rfl ?_
          refine i_tcons ?_
          refine i_var rfl ?_
          refine i_tnil ?_
          replace hm := bndE hm
          obtain ⟨r136, h137, hm⟩ := hm
          refine ⟨x103, (x118 : (List Int)), _, (min r55.1 (lenI x118)), (x132 : Th), _, rfl, (Wd.arr W135 (Ar.kn (t := true) (Kn.at 1 rfl))), (Wd.arr W135 (Ar.kn (t := true) (Kn.at 0 rfl))), r136, h137, fun v138 H139 R140 => ?_⟩
          have W141 := Wd.call W135 R140
          refine i_gName ?_
          clear W135
          refine i_seq ?_
          refine i_asg ?_
          refine i_cb ?_
          refine i_tcons ?_
          refine i_tlst ?_
          refine i_tcons ?_
          refine i_var rfl ?_
          refine i_tcons ?_
          refine i_var rfl ?_
          refine i_tnil ?_
          refine w_lst (α := Th) (t := true) W141 (KnL.cons (Kn.co (α := (List Int)) (β := Th) (Kn.at 2 rfl)) (KnL.cons (Kn.at 1 rfl) KnL.nil)) (by show (2 : Nat) ≤ sizeLine; decide) (fun p142 H143 W144 => ?_)
          have W145 := Wd.frz W144
          refine i_tnil ?_
          replace hm := bndE hm
          obtain ⟨x146, h147, hm⟩ := hm
          refine w_reprU W145 (Ar.kn (t := true) (Kn.at 0 rfl)) h147 ?_
          refine i_gName ?_
          clear W141 W144
          refine i_seq ?_
          refine i_for ?_
          refine i_iList ?_
          refine i_call ?_
          refine i_tcons ?_
          refine i_var rfl ?_
          refine i_tcons ?_
          refine i_cb ?_
          refine i_tcons ?_
          refine i_var rfl ?_
          refine i_tnil ?_
          refine w_len W145 (Lx.ls (Lx.kn (Kn.at 3 rfl))) ?_
          refine i_tnil ?_
          replace hm := bndE hm
          obtain ⟨r148, h149, hm⟩ := hm
          obtain ⟨us156, h154, h155⟩ := Wd.ioa W145 0 rfl
          refine ⟨p9, (r123.2 : List Int), us156, (lenI x118), rfl, h154, h155, r148, h149, fun v150 H151 R152 => ?_⟩
          have W153 := Wd.call1 (x := r148.1) (ys' := r148.2) W145 0 rfl R152
          obtain ⟨a157, rfl⟩ := Wd.eqL W153 (Kn.at 0 rfl)
          refine w_itL W153 (Lx.ls (Lx.kn (Kn.at 0 rfl))) ?_
          clear W145
          have W158 := Wd.sel W153 [0, 2, 3, 4, 7, 8, 9, 10] rfl
          replace hm := bndE hm
          obtain ⟨o164, h165, hm⟩ := hm
          have hqiiiii : ∀ r, o164 = .ret r → G_ r := fun r er => by subst er; exact hqiiii _ (some_inj hm).symm
          refine w_for (⟨fun b e => [some (.ref a2), some (.ref p9), some (.int b11.2), some (.ref a54), some (.int r55.1), some (.ref p64), some (.ref p89), some (.ref p93), some (.int x103), some (.ref a122), some (.int (min r55.1 (lenI x118))), some u134, some v138, some (.str x146), e], fun b e => [fc true (r148.1 : (List Th)) (.ref a157), fc true (r136 : Th) v138, fc true (x132 : Th) u134, fc true (x118 : (List Int)) (.ref a122), fc true ((sliceI r45.1 none (some 40)) : (List Int)) (.ref p93), fc true (([(Co.f ((("number" : PySem.Str), 0) : (PySem.Str × Int)) : Th), (Co.f (([] : List Int) : (List Int)) : Th), (Co.f (() : Unit) : Th), (Co.f (([0] : List Int) : (List Int)) : Th), (Co.f ((("stretches" : PySem.Str), ([] : List Int)) : (PySem.Str × (List Int))) : Th), (Th.dic [] [])] : List Th) : (List Th)) (.ref p89), fc true (r45.1 : (List Int)) (.ref p64), fc true (r45.1 : (List Int)) (.ref a54)], fun b e => [oL true p9 (r148.2 : List Int)]⟩ : Shp (Unit) (Option V)) e102_1 h165 rfl W158 (gv_list (fun _ _ => (Lx.ls (Lx.kn (Kn.at 0 rfl))))) ?_ ?_
          · intro x161 v162 b159 e160_0 H166 o167 W163 hm hr168
            have hqiiiiii : ∀ r, o167 = .ret r → G_ r := fun r er => hqiiiii r (hr168 r er)
            dsimp only at W163 ⊢
            refine i_gName ?_
            refine i_ifS ?_
            refine i_or ?_
            refine i_not ?_
            refine i_tB ?_
            refine i_call ?_
            refine i_tcons ?_
            refine i_var rfl ?_
            refine i_tcons ?_
            refine i_var rfl ?_
            refine i_tcons ?_
            refine i_var rfl ?_
            refine i_tcons ?_
            refine i_var rfl ?_
            refine i_tnil ?_
            replace hm := bndE hm
            obtain ⟨r172, h173, hm⟩ := hm
            refine ⟨x103, (x118 : (List Int)), _, (x161 : Th), _, (x132 : Th), _, rfl, (Wd.arr W163 (Ar.kn (t := true) (Kn.at 4 rfl))), (Wd.arr W163 (Ar.kn (t := true) (Kn.at 0 rfl))), (Wd.arr W163 (Ar.kn (t := true) (Kn.at 3 rfl))), r172, h173, fun v174 H175 R176 => ?_⟩
            obtain ⟨rfl, W177⟩ := Wd.callB W163 R176
            refine i_bl ?_
            replace hm := bndE hm
            obtain ⟨x188, h189, hm⟩ := hm
            refine w_orW (L' := [oL true p9 (r148.2 : List Int)]) x188 W177 (fun hb178 P179 hP180 => ?_) (fun hb178 => ?_) (fun H190 W191 => ?_)
            · have hm : _ = some x188 := (if_neg (by rw [hb178]; exact Bool.false_ne_true)).symm.trans h189
              refine i_test ?_
              refine i_op ?_
              refine i_cb ?_
              refine i_tcons ?_
              refine i_tlst ?_
              refine i_tcons ?_
              refine i_var rfl ?_
              refine i_tcons ?_
              refine i_var rfl ?_
              refine i_tnil ?_
              refine w_lst (α := Th) (t := true) W177 (KnL.cons (Kn.co (α := (List Int)) (β := Th) (Kn.at 4 rfl)) (KnL.cons (Kn.at 3 rfl) KnL.nil)) (by show (2 : Nat) ≤ sizeLine; decide) (fun p181 H182 W183 => ?_)
              have W184 := Wd.frz W183
              refine i_tnil ?_
              replace hm := bndE hm
              obtain ⟨x185, h186, hm⟩ := hm
              refine w_reprU W184 (Ar.kn (t := true) (Kn.at 0 rfl)) h186 ?_
              refine i_var rfl ?_
              refine i_neS ?_
              refine i_bl ?_
              have W187 := Wd.drop W184 1 rfl
              have hm := some_inj hm
              exact hP180 _ _ hm W187
            · have hm := some_inj ((if_pos hb178).symm.trans h189)
              exact ⟨hm, W177⟩
            clear W163 W177
            rcases iteE hm with ⟨hb193, hm⟩ | ⟨hb193, hm⟩
            · refine i_bT hb193 ?_
              refine i_ret ?_
              refine i_c ?_
              exact hqiiiiii _ (some_inj hm).symm _ _ (Wd.res (x := (false : Bool)) W191 Kn.bl)
            · refine i_bF hb193 ?_
              refine i_next ?_
              have W194 := Wd.sel W191 [1, 2, 3, 4, 5, 6, 7, 8] rfl
              exact ⟨(), some v162, (some_inj hm).symm, rfl, W194⟩
          · intro s195 e196_0 H197 eb199 W198
            subst eb199
            dsimp only at W198 ⊢
            refine i_seq ?_
            refine i_ifS ?_
            refine i_or ?_
            refine i_not ?_
            refine i_tB ?_
            refine i_call ?_
            refine i_tcons ?_
            refine i_var rfl ?_
            refine i_tcons ?_
            refine i_var rfl ?_
            refine i_tcons ?_
            refine i_call ?_
            refine i_tcons ?_
            refine i_c ?_
            refine i_tnil ?_
            replace hm := bndE hm
            obtain ⟨r200, h201, hm⟩ := hm
            refine ⟨3000, rfl, r200, h201, fun v202 H203 R204 => ?_⟩
            have W205 := Wd.call W198 R204
            obtain ⟨a206, rfl⟩ := Wd.eqL W205 (Kn.at 0 rfl)
            refine i_tcons ?_
            refine i_var rfl ?_
            refine i_tnil ?_
            replace hm := bndE hm
            obtain ⟨r207, h208, hm⟩ := hm
            refine ⟨x103, (x118 : (List Int)), _, ((Co.f (r200 : (List Th)) : Th) : Th), _, (x132 : Th), _, rfl, (Wd.arr W205 (Ar.kn (t := true) (Kn.at 4 rfl))), (Wd.arr W205 (Ar.kn (t := true) (Kn.co (α := (List Th)) (β := Th) (Kn.at 0 rfl)))), (Wd.arr W205 (Ar.kn (t := true) (Kn.at 3 rfl))), r207, h208, fun v209 H210 R211 => ?_⟩
            obtain ⟨rfl, W212⟩ := Wd.callB W205 R211
            refine i_bl ?_
            replace hm := bndE hm
            obtain ⟨x225, h226, hm⟩ := hm
            refine w_orW (L' := [oL true p9 (r148.2 : List Int)]) x225 W212 (fun hb213 P214 hP215 => ?_) (fun hb213 => ?_) (fun H227 W228 => ?_)
            · have hm : _ = some x225 := (if_neg (by rw [hb213]; exact Bool.false_ne_true)).symm.trans h226
              refine i_test ?_
              refine i_op ?_
              refine i_call ?_
              refine i_tcons ?_
              refine i_var rfl ?_
              refine i_tcons ?_
              refine i_var rfl ?_
              refine i_tcons ?_
              refine i_var rfl ?_
              refine i_tcons ?_
              refine i_var rfl ?_
              refine i_tnil ?_
              replace hm := bndE hm
              obtain ⟨r216, h217, hm⟩ := hm
              refine ⟨x103, (x118 : (List Int)), _, (min r55.1 (lenI x118)), (x132 : Th), _, rfl, (Wd.arr W212 (Ar.kn (t := true) (Kn.at 4 rfl))), (Wd.arr W212 (Ar.kn (t := true) (Kn.at 3 rfl))), r216, h217, fun v218 H219 R220 => ?_⟩
              have W221 := Wd.call W212 R220
              refine i_var rfl ?_
              replace hm := bndE hm
              obtain ⟨x222, h223, hm⟩ := hm
              refine w_neT W221 (Ar.kn (t := true) (Kn.at 0 rfl)) (Ar.kn (t := true) (Kn.at 3 rfl)) h223 ?_
              refine i_bl ?_
              have W224 := Wd.drop W221 1 rfl
              have hm := some_inj hm
              exact hP215 _ _ hm W224
            · have hm := some_inj ((if_pos hb213).symm.trans h226)
              exact ⟨hm, W212⟩
            clear W198 W205 W212
            rcases iteE hm with ⟨hb230, hm⟩ | ⟨hb230, hm⟩
            · refine i_bT hb230 ?_
              refine i_ret ?_
              refine i_c ?_
              exact hqiiii _ (some_inj hm).symm _ _ (Wd.res (x := (false : Bool)) W228 Kn.bl)
            · refine i_bF hb230 ?_
              refine i_next ?_
              refine i_ifS ?_
              refine i_or ?_
              refine i_test ?_
              refine i_op ?_
              refine i_cb ?_
              refine i_tcons ?_
              refine i_tlst ?_
              refine i_tcons ?_
              refine i_var rfl ?_
              refine i_tcons ?_
              refine i_var rfl ?_
              refine i_tnil ?_
              refine w_lst (α := Th) (t := true) W228 (KnL.cons (Kn.co (α := (List Int)) (β := Th) (Kn.at 4 rfl)) (KnL.cons (Kn.at 3 rfl) KnL.nil)) (by show (2 : Nat) ≤ sizeLine; decide) (fun p231 H232 W233 => ?_)
              have W234 := Wd.frz W233
              refine i_tnil ?_
              replace hm := bndE hm
              obtain ⟨x235, h236, hm⟩ := hm
              refine w_reprU W234 (Ar.kn (t := true) (Kn.at 0 rfl)) h236 ?_
              refine i_var rfl ?_
              refine i_neS ?_
              refine i_bl ?_
              replace hm := bndE hm
              obtain ⟨x242, h243, hm⟩ := hm
              refine w_orW (L' := [oL true p9 (r148.2 : List Int)]) x242 W234 (fun hb237 P238 hP239 => ?_) (fun hb237 => ?_) (fun H244 W245 => ?_)
              · have hm : _ = some x242 := (if_neg (by rw [hb237]; exact Bool.false_ne_true)).symm.trans h243
                refine i_test ?_
                refine i_op ?_
                refine i_var rfl ?_
                refine i_var rfl ?_
                replace hm := bndE hm
                obtain ⟨x240, h241, hm⟩ := hm
                refine w_ne W234 (Ar.kn (t := true) (Kn.at 9 rfl)) (Ar.kn (t := true) (Kn.at 8 rfl)) h241 ?_
                refine i_bl ?_
                have hm := some_inj hm
                exact hP239 _ _ hm W234
              · have hm := some_inj ((if_pos hb237).symm.trans h243)
                exact ⟨hm, W234⟩
              clear W228 W233 W234
              rcases iteE hm with ⟨hb247, hm⟩ | ⟨hb247, hm⟩
              · refine i_bT hb247 ?_
                refine i_ret ?_
                refine i_c ?_
                exact hqiiii _ (some_inj hm).symm _ _ (Wd.res (x := (false : Bool)) W245 Kn.bl)
              · refine i_bF hb247 ?_
                refine i_next ?_
                have W248 := Wd.sel W245 [6, 7, 8, 9] rfl
                exact ⟨r148.2, (some (.str x146), e196_0, some (.int (min r55.1 (lenI x118))), some (.ref a122), some u134, some v138, some (.int x103)), (some_inj hm).symm, rfl, W248⟩
        · intro s249 e250 H251 eb253 W252
          subst eb253
          obtain ⟨e250_0, e250_1, e250_2, e250_3, e250_4, e250_5, e250_6⟩ := e250
          dsimp only at W252 ⊢
          refine i_asg ?_
          refine i_op ?_
          refine i_var rfl ?_
          refine i_c ?_
          refine i_addI ?_
          refine i_gName ?_
          have W254 := Wd.sel W252 [] rfl
          exact ⟨(s249, (b11.2 + 1)), (some (.int r55.1), some (.ref p64), e250_0, e250_1, e250_2, some (.ref p93), some (.ref a54), e250_3, e250_4, some (.ref p89), e250_5, e250_6), (some_inj hm).symm, rfl, W254⟩
      · refine i_bF hb44 ?_
        have W255 := Wd.sel W42 [] rfl
        exact hbk23 (b11.1, b11.2) (e12_0, e12_1, e12_2, e12_3, e12_4, e12_5, e12_6, e12_7, e12_8, e12_9, e12_10, e12_11) _ (some_inj hm).symm W255
    · intro s256 e257 H258 eb260 W259
      subst eb260
      obtain ⟨e257_0, e257_1, e257_2, e257_3, e257_4, e257_5, e257_6, e257_7, e257_8, e257_9, e257_10, e257_11⟩ := e257
      dsimp only at W259 ⊢
      refine i_ret ?_
      refine i_c ?_
      exact hq _ (some_inj hm) _ _ (Wd.res (x := (true : Bool)) W259 Kn.bl)
end
def d__law_draws : He.DefD := ⟨("_law_draws", none), "_law_draws", "_law_draws", defArgs s__law_draws, defBody s__law_draws, defScope s__law_draws, [], []⟩
def d__law_take : He.DefD := ⟨("_law_take", none), "_law_take", "_law_take", defArgs s__law_take, defBody s__law_take, defScope s__law_take, [], []⟩
def d__law_row : He.DefD := ⟨("_law_row", none), "_law_row", "_law_row", defArgs s__law_row, defBody s__law_row, defScope s__law_row, [], []⟩
def d__law_pieces : He.DefD := ⟨("_law_pieces", none), "_law_pieces", "_law_pieces", defArgs s__law_pieces, defBody s__law_pieces, defScope s__law_pieces, [], []⟩
def d_is_among : He.DefD := ⟨("is_among", none), "is_among", "is_among", defArgs s_is_among, defBody s_is_among, defScope s_is_among, [], []⟩
def d_need_pieces_papers : He.DefD := ⟨("need_pieces_papers", none), "need_pieces", "need_pieces", defArgs s_need_pieces_papers, defBody s_need_pieces_papers, defScope s_need_pieces_papers, [], []⟩
def d_is_whole : He.DefD := ⟨("is_whole", none), "is_whole", "is_whole", defArgs s_is_whole, defBody s_is_whole, defScope s_is_whole, [], []⟩
def d_need_many : He.DefD := ⟨("need_many", none), "need_many", "need_many", defArgs s_need_many, defBody s_need_many, defScope s_need_many, [], []⟩
def d_long_cut : He.DefD := ⟨("long_cut", none), "long_cut", "long_cut", defArgs s_long_cut, defBody s_long_cut, defScope s_long_cut, [], []⟩
def d_fewest_pieces : He.DefD := ⟨("fewest_pieces", none), "fewest_pieces", "fewest_pieces", defArgs s_fewest_pieces, defBody s_fewest_pieces, defScope s_fewest_pieces, [], []⟩
def d_least_bound : He.DefD := ⟨("least_bound", none), "least_bound", "least_bound", defArgs s_least_bound, defBody s_least_bound, defScope s_least_bound, [], []⟩
def d_early_cut : He.DefD := ⟨("early_cut", none), "early_cut", "early_cut", defArgs s_early_cut, defBody s_early_cut, defScope s_early_cut, [], []⟩
def d_least_greatest : He.DefD := ⟨("least_greatest", none), "least_greatest", "least_greatest", defArgs s_least_greatest, defBody s_least_greatest, defScope s_least_greatest, [], []⟩
def d_stretches_to : He.DefD := ⟨("stretches_to", none), "stretches_to", "stretches_to", defArgs s_stretches_to, defBody s_stretches_to, defScope s_stretches_to, [], []⟩
def d_paper_of_greatest : He.DefD := ⟨("paper_of_greatest", none), "paper_of_greatest", "paper_of_greatest", defArgs s_paper_of_greatest, defBody s_paper_of_greatest, defScope s_paper_of_greatest, [], []⟩
def d_are_stretches : He.DefD := ⟨("are_stretches", none), "are_stretches", "are_stretches", defArgs s_are_stretches, defBody s_are_stretches, defScope s_are_stretches, [], []⟩
def d_says_greatest : He.DefD := ⟨("says_greatest", none), "says_greatest", "says_greatest", defArgs s_says_greatest, defBody s_says_greatest, defScope s_says_greatest, [], []⟩
def d_ends_of : He.DefD := ⟨("ends_of", none), "ends_of", "ends_of", defArgs s_ends_of, defBody s_ends_of, defScope s_ends_of, [], []⟩
def d_greatest_least : He.DefD := ⟨("greatest_least", none), "greatest_least", "greatest_least", defArgs s_greatest_least, defBody s_greatest_least, defScope s_greatest_least, [], []⟩
def d_reaching : He.DefD := ⟨("reaching", none), "reaching", "reaching", defArgs s_reaching, defBody s_reaching, defScope s_reaching, [], []⟩
def d_paper_of_least : He.DefD := ⟨("paper_of_least", none), "paper_of_least", "paper_of_least", defArgs s_paper_of_least, defBody s_paper_of_least, defScope s_paper_of_least, [], []⟩
def d_says_least : He.DefD := ⟨("says_least", none), "says_least", "says_least", defArgs s_says_least, defBody s_says_least, defScope s_says_least, [], []⟩
def d_need_pieces_rings : He.DefD := ⟨("need_pieces_rings", none), "need_pieces", "need_pieces", defArgs s_need_pieces_rings, defBody s_need_pieces_rings, defScope s_need_pieces_rings, [], []⟩
def d_ring_least_greatest : He.DefD := ⟨("ring_least_greatest", none), "ring_least_greatest", "ring_least_greatest", defArgs s_ring_least_greatest, defBody s_ring_least_greatest, defScope s_ring_least_greatest, [], []⟩
def d__law_told : He.DefD := ⟨("_law_told", none), "_law_told", "_law_told", defArgs s__law_told, defBody s__law_told, defScope s__law_told, [], []⟩
def d__law_no_many : He.DefD := ⟨("_law_no_many", none), "_law_no_many", "_law_no_many", defArgs s__law_no_many, defBody s__law_no_many, defScope s__law_no_many, [], []⟩
def d__law_refused : He.DefD := ⟨("_law_refused", none), "_law_refused", "_law_refused", defArgs s__law_refused, defBody s__law_refused, defScope s__law_refused, [], []⟩
def d__law_deep : He.DefD := ⟨("_law_deep", none), "_law_deep", "_law_deep", defArgs s__law_deep, defBody s__law_deep, defScope s__law_deep, [], []⟩
def d_law : He.DefD := ⟨("law", none), "law", "law", defArgs s_law, defBody s_law, defScope s_law, [], []⟩
def fn_ : List He.DefD := [d__law_draws, d__law_take, d__law_row, d__law_pieces, d_is_among, d_need_pieces_papers, d_is_whole, d_need_many, d_long_cut, d_fewest_pieces, d_least_bound, d_early_cut, d_least_greatest, d_stretches_to, d_paper_of_greatest, d_are_stretches, d_says_greatest, d_ends_of, d_greatest_least, d_reaching, d_paper_of_least, d_says_least, d_need_pieces_rings, d_ring_least_greatest, d__law_told, d__law_no_many, d__law_refused, d__law_deep, d_law]
def fa_ : List He.Fa := [.glo "_law_draws", .glo "_law_take", .glo "_law_row", .glo "_law_pieces", .glo "is_among", .glo "need_pieces_papers", .glo "is_whole", .glo "need_many", .glo "long_cut", .glo "fewest_pieces", .glo "least_bound", .glo "early_cut", .glo "least_greatest", .glo "stretches_to", .glo "paper_of_greatest", .glo "are_stretches", .glo "says_greatest", .glo "ends_of", .glo "greatest_least", .glo "reaching", .glo "paper_of_least", .glo "says_least", .glo "need_pieces_rings", .glo "ring_least_greatest", .glo "_law_told", .glo "_law_no_many", .glo "_law_refused", .glo "_law_deep", .glo "law", .free "abs", .free "all", .free "bool", .free "dict", .free "enumerate", .free "int", .free "isinstance", .free "len", .free "list", .free "max", .free "min", .free "range", .free "repr", .free "set", .free "sorted", .free "str", .free "sum", .free "tuple", .free "zip", .free "ValueError"]
def names_ : List PySem.Str := (["CutError", "NoMany", "NoPlace", "NoNumber", "NoText", "NoCommand", "is_whole", "need_many", "long_cut", "fewest_pieces", "least_bound", "early_cut", "least_greatest", "ends_of", "greatest_least", "is_among", "need_pieces", "need_pieces_papers", "reaching", "stretches_to"] : List PySem.Str) ++ (["paper_of_greatest", "are_stretches", "says_greatest", "paper_of_least", "says_least", "need_pieces_rings", "ring_least_greatest", "_law_draws", "_law_take", "_law_row", "_law_pieces", "_law_deep", "_law_told", "_law_refused", "_law_no_many"] : List PySem.Str)
abbrev R_ : PySem.W.OpenRow := PySem.W.OpenLaw.row PySem.Challenge.rw_piecebounds_k37_no_such_many
abbrev hk_ : PySem.W.Hook := hookX 4 fa_ fn_ es6
def ob_ (s : PySem.W.SharedT) : Bool × Bool × He.AlD := obsX 4 fa_ fn_ es6 (HandSHeadRun.getT s)
theorem ob_eq_ (s : PySem.W.SharedT) : ob_ s = hk_.obs s.abs := obsX_eq (HandSHeadRun.getT_eq s)
theorem run_ (w : World) : HandSHeadRun.RunEq R_ (PySem.W.view R_.prog [43]) hk_ ob_ 4000 names_ w := by
  intro os
  kernel_rfl
theorem facts_ {P : Program} {w : World} {K : PySem.W.Frag} {h : Heap} {mg : Str → Option Value} {f : Addr} (X : K.In h) (G : h.Ns mainGlobals mg) (hfa : mg ("law" : Str) = some (.ref f)) (c : He.SaysD fa_ fn_ K) (ce : (es6.all fun c => erB K es6 c) = true) :
    ∃ fd : FuncData, (∀ (s : Shared) (v : Value), BindsTo s fd ⟨[v], []⟩ [("script", v)]) ∧ ∀ base : Heap, K.In base → base.Ns mainGlobals mg → SMd base → FnG P w K mg base 8 f fd ["script"] (sp_law K) := by
  obtain ⟨fd__law_draws, F__law_draws⟩ := c.def_ 0 (d := d__law_draws) rfl
  have hm__law_draws := He.glo_ok X G (c.fact 0 (f := .glo "_law_draws") rfl)
  obtain ⟨fd__law_take, F__law_take⟩ := c.def_ 1 (d := d__law_take) rfl
  have hm__law_take := He.glo_ok X G (c.fact 1 (f := .glo "_law_take") rfl)
  obtain ⟨fd__law_row, F__law_row⟩ := c.def_ 2 (d := d__law_row) rfl
  have hm__law_row := He.glo_ok X G (c.fact 2 (f := .glo "_law_row") rfl)
  obtain ⟨fd__law_pieces, F__law_pieces⟩ := c.def_ 3 (d := d__law_pieces) rfl
  have hm__law_pieces := He.glo_ok X G (c.fact 3 (f := .glo "_law_pieces") rfl)
  obtain ⟨fd_is_among, F_is_among⟩ := c.def_ 4 (d := d_is_among) rfl
  have hm_is_among := He.glo_ok X G (c.fact 4 (f := .glo "is_among") rfl)
  obtain ⟨fd_need_pieces_papers, F_need_pieces_papers⟩ := c.def_ 5 (d := d_need_pieces_papers) rfl
  have hm_need_pieces_papers := He.glo_ok X G (c.fact 5 (f := .glo "need_pieces_papers") rfl)
  obtain ⟨fd_is_whole, F_is_whole⟩ := c.def_ 6 (d := d_is_whole) rfl
  have hm_is_whole := He.glo_ok X G (c.fact 6 (f := .glo "is_whole") rfl)
  obtain ⟨fd_need_many, F_need_many⟩ := c.def_ 7 (d := d_need_many) rfl
  have hm_need_many := He.glo_ok X G (c.fact 7 (f := .glo "need_many") rfl)
  obtain ⟨fd_long_cut, F_long_cut⟩ := c.def_ 8 (d := d_long_cut) rfl
  have hm_long_cut := He.glo_ok X G (c.fact 8 (f := .glo "long_cut") rfl)
  obtain ⟨fd_fewest_pieces, F_fewest_pieces⟩ := c.def_ 9 (d := d_fewest_pieces) rfl
  have hm_fewest_pieces := He.glo_ok X G (c.fact 9 (f := .glo "fewest_pieces") rfl)
  obtain ⟨fd_least_bound, F_least_bound⟩ := c.def_ 10 (d := d_least_bound) rfl
  have hm_least_bound := He.glo_ok X G (c.fact 10 (f := .glo "least_bound") rfl)
  obtain ⟨fd_early_cut, F_early_cut⟩ := c.def_ 11 (d := d_early_cut) rfl
  have hm_early_cut := He.glo_ok X G (c.fact 11 (f := .glo "early_cut") rfl)
  obtain ⟨fd_least_greatest, F_least_greatest⟩ := c.def_ 12 (d := d_least_greatest) rfl
  have hm_least_greatest := He.glo_ok X G (c.fact 12 (f := .glo "least_greatest") rfl)
  obtain ⟨fd_stretches_to, F_stretches_to⟩ := c.def_ 13 (d := d_stretches_to) rfl
  have hm_stretches_to := He.glo_ok X G (c.fact 13 (f := .glo "stretches_to") rfl)
  obtain ⟨fd_paper_of_greatest, F_paper_of_greatest⟩ := c.def_ 14 (d := d_paper_of_greatest) rfl
  have hm_paper_of_greatest := He.glo_ok X G (c.fact 14 (f := .glo "paper_of_greatest") rfl)
  obtain ⟨fd_are_stretches, F_are_stretches⟩ := c.def_ 15 (d := d_are_stretches) rfl
  have hm_are_stretches := He.glo_ok X G (c.fact 15 (f := .glo "are_stretches") rfl)
  obtain ⟨fd_says_greatest, F_says_greatest⟩ := c.def_ 16 (d := d_says_greatest) rfl
  have hm_says_greatest := He.glo_ok X G (c.fact 16 (f := .glo "says_greatest") rfl)
  obtain ⟨fd_ends_of, F_ends_of⟩ := c.def_ 17 (d := d_ends_of) rfl
  have hm_ends_of := He.glo_ok X G (c.fact 17 (f := .glo "ends_of") rfl)
  obtain ⟨fd_greatest_least, F_greatest_least⟩ := c.def_ 18 (d := d_greatest_least) rfl
  have hm_greatest_least := He.glo_ok X G (c.fact 18 (f := .glo "greatest_least") rfl)
  obtain ⟨fd_reaching, F_reaching⟩ := c.def_ 19 (d := d_reaching) rfl
  have hm_reaching := He.glo_ok X G (c.fact 19 (f := .glo "reaching") rfl)
  obtain ⟨fd_paper_of_least, F_paper_of_least⟩ := c.def_ 20 (d := d_paper_of_least) rfl
  have hm_paper_of_least := He.glo_ok X G (c.fact 20 (f := .glo "paper_of_least") rfl)
  obtain ⟨fd_says_least, F_says_least⟩ := c.def_ 21 (d := d_says_least) rfl
  have hm_says_least := He.glo_ok X G (c.fact 21 (f := .glo "says_least") rfl)
  obtain ⟨fd_need_pieces_rings, F_need_pieces_rings⟩ := c.def_ 22 (d := d_need_pieces_rings) rfl
  have hm_need_pieces_rings := He.glo_ok X G (c.fact 22 (f := .glo "need_pieces_rings") rfl)
  obtain ⟨fd_ring_least_greatest, F_ring_least_greatest⟩ := c.def_ 23 (d := d_ring_least_greatest) rfl
  have hm_ring_least_greatest := He.glo_ok X G (c.fact 23 (f := .glo "ring_least_greatest") rfl)
  obtain ⟨fd__law_told, F__law_told⟩ := c.def_ 24 (d := d__law_told) rfl
  have hm__law_told := He.glo_ok X G (c.fact 24 (f := .glo "_law_told") rfl)
  obtain ⟨fd__law_no_many, F__law_no_many⟩ := c.def_ 25 (d := d__law_no_many) rfl
  have hm__law_no_many := He.glo_ok X G (c.fact 25 (f := .glo "_law_no_many") rfl)
  obtain ⟨fd__law_refused, F__law_refused⟩ := c.def_ 26 (d := d__law_refused) rfl
  have hm__law_refused := He.glo_ok X G (c.fact 26 (f := .glo "_law_refused") rfl)
  obtain ⟨fd__law_deep, F__law_deep⟩ := c.def_ 27 (d := d__law_deep) rfl
  have hm__law_deep := He.glo_ok X G (c.fact 27 (f := .glo "_law_deep") rfl)
  obtain ⟨fd_law, F_law⟩ := c.def_ 28 (d := d_law) rfl
  have hm_law := He.glo_ok X G (c.fact 28 (f := .glo "law") rfl)
  have Z : Blt mg := ⟨He.free_ok X G (c.fact 29 (f := .free "abs") rfl), He.free_ok X G (c.fact 30 (f := .free "all") rfl), He.free_ok X G (c.fact 31 (f := .free "bool") rfl), He.free_ok X G (c.fact 32 (f := .free "dict") rfl), He.free_ok X G (c.fact 33 (f := .free "enumerate") rfl), He.free_ok X G (c.fact 34 (f := .free "int") rfl), He.free_ok X G (c.fact 35 (f := .free "isinstance") rfl), He.free_ok X G (c.fact 36 (f := .free "len") rfl), He.free_ok X G (c.fact 37 (f := .free "list") rfl), He.free_ok X G (c.fact 38 (f := .free "max") rfl), He.free_ok X G (c.fact 39 (f := .free "min") rfl), He.free_ok X G (c.fact 40 (f := .free "range") rfl), He.free_ok X G (c.fact 41 (f := .free "repr") rfl), He.free_ok X G (c.fact 42 (f := .free "set") rfl), He.free_ok X G (c.fact 43 (f := .free "sorted") rfl), He.free_ok X G (c.fact 44 (f := .free "str") rfl), He.free_ok X G (c.fact 45 (f := .free "sum") rfl), He.free_ok X G (c.fact 46 (f := .free "tuple") rfl), He.free_ok X G (c.fact 47 (f := .free "zip") rfl), He.free_ok X G (c.fact 48 (f := .free "ValueError") rfl)⟩
  have XX : Exs K mg es6 := exs_ok X G ce
  have e := hfa.symm.trans hm_law
  cases e
  have b := FunD.bindsA (ps := ["script"]) F_law fun _ _ _ _ _ _ us hl => match us, hl with | [_], _ => rfl
  refine ⟨fd_law, fun s v => b s [v] rfl, fun base _ _ SM => ?_⟩
  have C__law_draws : Fn P w K mg base 1 "_law_draws" ["script"] (sp__law_draws K) := ok__law_draws F__law_draws hm__law_draws Z SM XX
  have C__law_take : Fn P w K mg base 1 "_law_take" ["draws", "many"] (sp__law_take K) := ok__law_take F__law_take hm__law_take Z SM XX
  have C__law_row : Fn P w K mg base 2 "_law_row" ["draws", "most"] (sp__law_row K) := ok__law_row F__law_row hm__law_row Z SM XX C__law_take
  have C__law_pieces : Fn P w K mg base 2 "_law_pieces" ["draws", "row"] (sp__law_pieces K) := ok__law_pieces F__law_pieces hm__law_pieces Z SM XX C__law_take
  have C_is_among : Fn P w K mg base 1 "is_among" ["thing", "low", "high"] (sp_is_among K) := ok_is_among F_is_among hm_is_among Z SM XX
  have C_need_pieces_papers : Fn P w K mg base 2 "need_pieces_papers" ["row", "many"] (sp_need_pieces_papers K) := ok_need_pieces_papers F_need_pieces_papers hm_need_pieces_papers Z SM XX C_is_among
  have C_is_whole : Fn P w K mg base 1 "is_whole" ["thing"] (sp_is_whole K) := ok_is_whole F_is_whole hm_is_whole Z SM XX
  have C_need_many : Fn P w K mg base 2 "need_many" ["row", "many"] (sp_need_many K) := ok_need_many F_need_many hm_need_many Z SM XX C_is_whole
  have C_long_cut : Fn P w K mg base 1 "long_cut" ["row", "bound"] (sp_long_cut K) := ok_long_cut F_long_cut hm_long_cut Z SM XX
  have C_fewest_pieces : Fn P w K mg base 2 "fewest_pieces" ["row", "bound"] (sp_fewest_pieces K) := ok_fewest_pieces F_fewest_pieces hm_fewest_pieces Z SM XX C_long_cut
  have C_least_bound : Fn P w K mg base 3 "least_bound" ["row", "many"] (sp_least_bound K) := ok_least_bound F_least_bound hm_least_bound Z SM XX C_fewest_pieces
  have C_early_cut : Fn P w K mg base 3 "early_cut" ["row", "many", "bound"] (sp_early_cut K) := ok_early_cut F_early_cut hm_early_cut Z SM XX C_fewest_pieces
  have C_least_greatest : Fn P w K mg base 4 "least_greatest" ["row", "many"] (sp_least_greatest K) := ok_least_greatest F_least_greatest hm_least_greatest Z SM XX C_early_cut C_least_bound C_need_many
  have C_stretches_to : Fn P w K mg base 1 "stretches_to" ["row", "bound"] (sp_stretches_to K) := ok_stretches_to F_stretches_to hm_stretches_to Z SM XX
  have C_paper_of_greatest : Fn P w K mg base 5 "paper_of_greatest" ["row", "many"] (sp_paper_of_greatest K) := ok_paper_of_greatest F_paper_of_greatest hm_paper_of_greatest Z SM XX C_stretches_to C_least_greatest C_need_pieces_papers
  have C_are_stretches : Fn P w K mg base 2 "are_stretches" ["row", "thing"] (sp_are_stretches K) := ok_are_stretches F_are_stretches hm_are_stretches Z SM XX C_is_among
  have C_says_greatest : Fn P w K mg base 3 "says_greatest" ["row", "many", "thing"] (sp_says_greatest K) := ok_says_greatest F_says_greatest hm_says_greatest Z SM XX C_are_stretches C_is_among C_need_pieces_papers
  have C_ends_of : Fn P w K mg base 1 "ends_of" ["row", "bound"] (sp_ends_of K) := ok_ends_of F_ends_of hm_ends_of Z SM XX
  have C_greatest_least : Fn P w K mg base 3 "greatest_least" ["row", "many"] (sp_greatest_least K) := ok_greatest_least F_greatest_least hm_greatest_least Z SM XX C_ends_of C_need_many
  have C_reaching : Fn P w K mg base 1 "reaching" ["row", "bound"] (sp_reaching K) := ok_reaching F_reaching hm_reaching Z SM XX
  have C_paper_of_least : Fn P w K mg base 4 "paper_of_least" ["row", "many"] (sp_paper_of_least K) := ok_paper_of_least F_paper_of_least hm_paper_of_least Z SM XX C_reaching C_greatest_least C_need_pieces_papers
  have C_says_least : Fn P w K mg base 3 "says_least" ["row", "many", "thing"] (sp_says_least K) := ok_says_least F_says_least hm_says_least Z SM XX C_is_among C_need_pieces_papers
  have C_need_pieces_rings : Fn P w K mg base 1 "need_pieces_rings" ["row", "many"] (sp_need_pieces_rings K) := ok_need_pieces_rings F_need_pieces_rings hm_need_pieces_rings Z SM XX
  have C_ring_least_greatest : Fn P w K mg base 5 "ring_least_greatest" ["row", "many"] (sp_ring_least_greatest K) := ok_ring_least_greatest F_ring_least_greatest hm_ring_least_greatest Z SM XX C_least_greatest C_need_pieces_rings
  have C__law_told : Fn P w K mg base 6 "_law_told" ["way", "row", "many", "thing"] (sp__law_told K) := ok__law_told F__law_told hm__law_told Z SM XX C_ring_least_greatest C_says_least C_paper_of_least C_says_greatest C_paper_of_greatest
  have C__law_no_many : Fn P w K mg base 2 "_law_no_many" ["draws", "size"] (sp__law_no_many K) := ok__law_no_many F__law_no_many hm__law_no_many Z SM XX C__law_take
  have C_X_need_pieces_papers : Fn P w K mg base 2 "need_pieces_papers" ["row", "many"] (sp_X_need_pieces_papers K) := ok_X_need_pieces_papers F_need_pieces_papers hm_need_pieces_papers Z SM XX C_is_among
  have C_X_paper_of_greatest : Fn P w K mg base 5 "paper_of_greatest" ["row", "many"] (sp_X_paper_of_greatest K) := ok_X_paper_of_greatest F_paper_of_greatest hm_paper_of_greatest Z SM XX C_stretches_to C_least_greatest C_X_need_pieces_papers
  have C_X_says_greatest : Fn P w K mg base 3 "says_greatest" ["row", "many", "thing"] (sp_X_says_greatest K) := ok_X_says_greatest F_says_greatest hm_says_greatest Z SM XX C_are_stretches C_is_among C_X_need_pieces_papers
  have C_X_paper_of_least : Fn P w K mg base 4 "paper_of_least" ["row", "many"] (sp_X_paper_of_least K) := ok_X_paper_of_least F_paper_of_least hm_paper_of_least Z SM XX C_reaching C_greatest_least C_X_need_pieces_papers
  have C_X_says_least : Fn P w K mg base 3 "says_least" ["row", "many", "thing"] (sp_X_says_least K) := ok_X_says_least F_says_least hm_says_least Z SM XX C_is_among C_X_need_pieces_papers
  have C_X_need_pieces_rings : Fn P w K mg base 1 "need_pieces_rings" ["row", "many"] (sp_X_need_pieces_rings K) := ok_X_need_pieces_rings F_need_pieces_rings hm_need_pieces_rings Z SM XX
  have C_X_ring_least_greatest : Fn P w K mg base 5 "ring_least_greatest" ["row", "many"] (sp_X_ring_least_greatest K) := ok_X_ring_least_greatest F_ring_least_greatest hm_ring_least_greatest Z SM XX C_least_greatest C_X_need_pieces_rings
  have C_X__law_told : Fn P w K mg base 6 "_law_told" ["way", "row", "many", "thing"] (sp_X__law_told K) := ok_X__law_told F__law_told hm__law_told Z SM XX C_X_ring_least_greatest C_X_says_least C_X_paper_of_least C_X_says_greatest C_X_paper_of_greatest
  have C__law_refused : Fn P w K mg base 7 "_law_refused" ["way", "row", "many", "thing"] (sp__law_refused K) := ok__law_refused F__law_refused hm__law_refused Z SM XX C_X__law_told
  have C__law_deep : Fn P w K mg base 1 "_law_deep" ["many"] (sp__law_deep K) := ok__law_deep F__law_deep hm__law_deep Z SM XX
  exact ok_law F_law hm_law Z SM XX C__law_told C__law_refused C__law_deep C__law_no_many C__law_take C__law_pieces C__law_row C__law_draws
end PB
open PySem PySem.W PySem.Calls PyProof.Rows
theorem PySem.Challenge.cw_piecebounds_k37_no_such_many_holds : PySem.Challenge.rw_piecebounds_k37_no_such_many.Holds := by
  w_on; o_law
  refine HandSHeadRun.head_any (r := OpenLaw.row PySem.Challenge.rw_piecebounds_k37_no_such_many) (q := view (OpenLaw.row PySem.Challenge.rw_piecebounds_k37_no_such_many).prog [43]) (H := PB.hk_) (ob := PB.ob_) (M := 4000) (loose := PB.names_) (d := HandSHeadRun.topDef (OpenLaw.row PySem.Challenge.rw_piecebounds_k37_no_such_many).prog 43) (kwd := []) PB.ob_eq_
    (by kernel_rfl) (fun s => by kernel_rfl) PB.run_ (by kernel_rfl) (by kernel_rfl) (by kernel_rfl) (by rfl) (by first | assumption | decide +kernel) (by decide +kernel) ⟨rfl, rfl, rfl, rfl, rfl, by decide +kernel⟩ ?hw ?hc
  case hw => w_witness2
  case hc =>
    refine PB.walk_ofS (l := PySem.Challenge.rw_piecebounds_k37_no_such_many) (n := 63) (k := 8) (x := "script") rfl (by decide) (by kernel_rfl) ⟨rfl, by decide, by decide⟩ ?F
    intro w mg fa h SMh Y G hmg0
    obtain ⟨K, KX, c, ce⟩ := Y
    have hmg : mg ("law" : PySem.Str) = some (.ref fa) := by
      have e : (HandSHeadRun.topDef (OpenLaw.row PySem.Challenge.rw_piecebounds_k37_no_such_many).prog 43).name = ("law" : PySem.Str) := by kernel_rfl
      rw [← e]
      exact hmg0
    obtain ⟨fd, hb, hF⟩ := PB.facts_ (P := (PySem.Challenge.rw_piecebounds_k37_no_such_many).prog) (w := w) KX G hmg c ce
    exact ⟨K, fd, PB.sp_law K, KX, hb, fun H a ns hl hS => ⟨⟨ns⟩, .ref a, rfl, ⟨a, rfl, hS⟩, true, PB.law_true ns hl, fun v' H' r => (let ⟨_, _, _, _, h⟩ := r; h)⟩, hF⟩
#print axioms PySem.Challenge.cw_piecebounds_k37_no_such_many_holds
