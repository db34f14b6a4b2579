import PyProof.Rows.All
import Wide.All
import OpenK.AllK
import Wide.FinOn
import KE.KStateDown
import HandS.ForMost
import HandS.ForExc
import HandS.Wide
import HandS.SortInts
import HandS.IsInst
import HandS.Conv
import HandS.Zip
import HandS.Defaults
import HandS.HeadEnd
import HandS.Head0
import HandS.Head1
import HandS.Head2
import HandS.HeadHook1
import HandS.HeadHook2
import HandS.HeadHook3
import HandS.ListItems
import PyProof.ZipIter
import HandS.Codes
import HandS.Style
import HandS.Flow
import HandS.TryOnly
import HandS.ExcValue
import HandS.ExcBuiltin
import KE.KExcIs
import HandS.ExcIs
import KE.DatumOrd
import HandS.Strs
import HandS.SetFor
import HandS.Text
import HandS.Steps
import HandS.ExcOwn
import PyProof.Rows.IntBool
import KE.KDictZip
import HandS.TupAny
import KE.GoesComp
import KE.IntTextLaws
import PyProof.StrBlock2
import HandS.FStr
import PySem.Challenge.RW_piecebounds_k03_pieces_and_sums
set_option Elab.async false
set_option linter.all false
set_option maxRecDepth 100000
set_option maxHeartbeats 4000000
namespace PB
open PySem PySem.Spec PyProof.Rows L2

/-! ### defs whose calls happen with no repr under way -/
structure FnG (P : Program) (w : World) (K : PySem.W.Frag) (mg : Str → Option Value) (base : Heap)
    (k : Nat) (f : Addr) (fd : FuncData) (ps : List Str) (sp : Sp) : Prop where
  len : ∀ vs H Q E, sp vs H Q E → vs.length = ps.length
  run : ∀ (A : Around) (outer : List Env) (s : Shared) (H : Hp) (args : Args) (us : List Value)
    (vs : List V) (Q : VK) (E : XK), Room k A → A.guards = some [] →
    Env0 P w K mg base A outer s H → BindsTo s fd args (ps.zip us) → Vals vs us →
    sp vs H Q E → codeAny (model P w) A (.call (.ref f) args) (CR (L2.CX P w) outer P w H s Q E) s

theorem FnG.mono {P : Program} {w : World} {K : PySem.W.Frag} {mg : Str → Option Value} {base : Heap}
    {j k : Nat} {f : Addr} {fd : FuncData} {ps : List Str} {sp : Sp}
    (F : FnG P w K mg base j f fd ps sp) (h : j ≤ k) : FnG P w K mg base k f fd ps sp :=
  ⟨F.len, fun A o s H a us vs Q E hr => F.run A o s H a us vs Q E (hr.mono h)⟩

theorem FnG.of_ok {P : Program} {w : World} {K : PySem.W.Frag} {mg : Str → Option Value} {base : Heap}
    {k : Nat} {f : Addr} {fd : FuncData} {ps : List Str} {sp : Sp}
    (F : FnOk P w K mg base (L2.CX P w) k f fd ps sp) : FnG P w K mg base k f fd ps sp :=
  ⟨F.len, fun A o s H a us vs Q E hr _ => F.run A o s H a us vs Q E hr⟩

/-- from the def's body, as the layer has it, with the knowledge that nothing is being shown -/
theorem okG {P : Program} {w : World} {K : PySem.W.Frag} {mg : Str → Option Value} {base : Heap}
    {x qual : Str} {params : Arguments} {body : List Stmt} {scope : Scope} {dvs : List V}
    {kws : List (Str × V)} {f : Addr} {fd : FuncData} {N ps : List Str} {k : Nat} {sp : Sp}
    (F : FunD K x qual params body scope dvs kws f fd) (S : FnScope N ps scope)
    (len : ∀ vs H Q E, sp vs H Q E → vs.length = ps.length)
    (hb : ∀ (cdv : Value) (A : Around) (outer : List Env) (s : Shared) (H : Hp) (vs : List V) (Q : VK)
      (E : XK), Room k (A.deeper (envOfC qual scope s.heap.objs.size f cdv)) → A.guards = some [] →
      sp vs H Q E → ∃ t, PSs (cxOf (L2.CX P w) P w K mg base N qual scope f cdv A outer s H E) body t ∧
        t { nx := fun _ H' => Q .non H', rt := Q } (start N vs) H) :
    FnG P w K mg base (k + 1) f fd ps sp := by
  obtain ⟨oc, od, dV, kV, doc, pm, an, cd, ct, osl, rfl, lk, hcd, _, _⟩ := F.ex
  refine ⟨len, fun A outer s H args us vs Q E hr hgd e0 hbi r hsp => ?_⟩
  have hl := len _ _ _ _ hsp
  have KX : K.In s.heap := e0.mod.kin.keeps fun b o e =>
    (e0.bs b o e).1
  have lim : s.heap.NoLimit := e0.mod.nolimit.keeps fun b o e =>
    (e0.bs b o e).1
  have hkind : ∀ y ∈ ps.zip us, scope.names.lookup y.1 = some .local ∨ (scope.names.lookup y.1 = some .cell ∧
      ((cellsFrom (s.heap.objs.size + 1) scope.names []).lookup y.1).isSome = true) := fun ⟨n, v⟩ hy => by
    rcases S.par n (List.of_mem_zip hy).1 with q | q
    · exact .inl q
    · exact .inr ⟨q, PySem.W.cellsFrom_some _ _ _ (.inl q)⟩
  refine codeAny_call_function hr.depth (KX _ _ lk) rfl S.co S.gen rfl
    (PySem.W.codeRec_of KX hcd) (hbi _ _ _ _ ?_)
  refine wpAny_newFunctionEnv_cells S.kind hkind fun env he s1 x => ?_
  subst he
  refine ⟨lim.keeps x.toInCall.keep, codeAny_func ?_⟩
  obtain ⟨t, ht, hq⟩ := hb cd A outer s H vs Q E (hr.deeper _) hgd hsp
  have I : Inv (cxOf (L2.CX P w) P w K mg base N qual scope f cd A outer s H E) [] (start N vs) H s1 :=
    inv_start S hr.hd e0 hl r x
  refine wpAny_mono (ht.run [] s1 (start N vs) H _ I hq) (fun fl s' hs => ?_) (fun e s' hs => hs)
  have fin : ∀ {σ' : L2.St} {H' : Hp} {v : V} {u : Value},
      Inv (cxOf (L2.CX P w) P w K mg base N qual scope f cd A outer s H E) [] σ' H' s' → RelV v u → Q v H' →
      CE outer P w H s Q u s' := fun {σ' H' v u} J rv q =>
    ⟨v, H', J.os, J.bare, J.base, J.hok, rv, q⟩
  match fl, hs with
  | .ret u, hs =>
    obtain ⟨v, σ', H', J, rv, q⟩ := hs
    exact fin J rv q
  | .next, hs =>
    obtain ⟨σ', H', J, q⟩ := hs
    exact fin (v := V.non) (u := Value.none) J rfl q
  | .brk, hs =>
    obtain ⟨_, _, _, q⟩ := hs
    exact q.elim
  | .cont, hs =>
    obtain ⟨_, _, _, q⟩ := hs
    exact q.elim

/-- a def by its name -/
structure Fn (P : Program) (w : World) (K : PySem.W.Frag) (mg : Str → Option Value) (base : Heap)
    (k : Nat) (x : Str) (ps : List Str) (sp : Sp) : Prop where
  ex : ∃ (f : Addr) (fd : FuncData), mg x = some (.ref f) ∧ PySem.W.keepIn K (.ref f) = true ∧
    Binds K fd ps [] ∧ FnG P w K mg base k f fd ps sp

section
variable {X : Cx} {k : Nat} {f C : Addr} {fd : FuncData} {ps : List Str} {sp : Sp} {E : XK} {x : Str}
variable {p pos : Pos} {e : Expr} {es : List Expr} {t : TA}

theorem run_fnG {pins : List (Addr × Obj)} {σ : L2.St} {H : Hp} {s : Shared} {Q : VK} {us : List Value}
    {vs : List V} (F : FnG X.prog X.w X.K X.mg X.base k f fd ps sp) (hr : Room k X.A)
    (hgd : X.A.guards = some []) (hb : Binds X.K fd ps []) (hx : Passes (L2.CX X.prog X.w) X E)
    (I : Inv X pins σ H s) (r : Vals vs us) (h : sp vs H Q E) :
    wpAny (model X.prog X.w) X.A (call (.ref f) us) (EP X pins σ Q) X.xe s := by
  have hl : us.length = ps.length := by
    rw [← r.length]
    exact F.len _ _ _ _ h
  have hb2 := hb s us I.kIn (by rw [List.append_nil]; exact hl)
  rw [List.append_nil] at hb2
  refine wpAny_call (codeAny_mono (F.run X.A X.stack s H ⟨us, []⟩ us vs Q E hr hgd I.env0 hb2 r h)
    fun r s' hq => ?_)
  match r, hq with
  | .error e, hq => exact hx pins σ H s e s' I hq
  | .ok (.ret u), hq => exact I.after hq
  | .ok .next, hq => exact hq.elim
  | .ok .brk, hq => exact hq.elim
  | .ok .cont, hq => exact hq.elim

/-- f(e, ..) -/
theorem pe_fn (G : Fn X.prog X.w X.K X.mg X.base k x ps sp) (hr : Room k X.A)
    (hgd : X.A.guards = some []) (hg : Gl X x) (hx : Passes (L2.CX X.prog X.w) X E)
    (ha : PA X (e :: es) t) (hdb : (x == ("__debug__" : Str)) = false := by decide)
    (he : starEach (e :: es) X.env = (false, eval e X.env) :: starEach es X.env := by rfl)
    (hpl : (backTo pos (starEach es X.env)).any (·.1) = false := by rfl) :
    PE X (.Call (.Name x p) (e :: es) [] pos) (tCall sp [] E t) := by
  obtain ⟨f, fd, hm, hk, hb, F⟩ := G.ex
  refine ⟨fun pins s σ H Q I h => wpAny_Call_Name_kw (ld_glob I hg hm ?_ hdb)⟩
  refine PySem.W.callWith_K (h₀ := X.base) I.ok.mod.kin hk
    (thn (ha.run pos pins s σ H _ I h) fun us s1 ⟨vs, H1, I1, r, q⟩ => ⟨I1.kIn, ?_⟩) he hpl
  have q' : sp (vs ++ []) H1 Q E := q
  rw [List.append_nil] at q'
  exact run_fnG F hr hgd hb hx I1 r q'
end

/-! ### the law's own call, at the caller's place alone -/
theorem law_callG {P : Program} {w : World} {K : PySem.W.Frag} {mg mb : Str → Option Value} {k : Nat}
    {fa a : Addr} {fd : FuncData} {x : Str} {sp : Sp} {z : Shared} {vs : List Value} {ns : List Int}
    (KX : K.In z.heap) (hns : z.heap.Ns mainGlobals mg) (hb : z.heap.Ns builtinsNs mb)
    (hbb : ∀ x : Str, x ≠ "__name__" → mb x = bootBuiltins x) (hlim : z.heap.NoLimit) (hg : z.gens = #[])
    (ha : z.heap.get? a = some { cls := .type "list", data := .seq vs.toArray })
    (hi : IntsAre vs ns) (hl : ns.length ≤ sizeLine) (hr : Room k callerA)
    (F : ∀ base : Heap, K.In base → base.Ns mainGlobals mg → FnG P w K mg base k fa fd [x] sp)
    (hbind : ∀ (s : Shared) (u : Value), BindsTo s fd ⟨[u], []⟩ [(x, u)])
    (hsp : ∀ H : Hp, SqL K H a (ns.map V.int) →
      sp [.ref a] H (fun v _ => v = .bl true) fun _ _ _ => False) :
    codeAny (model P w) callerA (.call (.ref fa) ⟨[.ref a], []⟩)
      (fun r s' => r = .ok (.ret (.bool true)) ∧ OldK z.heap s'.heap ∧ s'.os = z.os ∧ AllBare s'.gens) z := by
  have rv := vals_ints hi
  have lenV := hi.length
  have core : ∀ H : Hp, Only H → SqL K H a (ns.map V.int) → HOk P w H z.heap →
      (∀ b, H b ≠ none → b = a) → (H a ≠ none → K.lookup a = none) →
      codeAny (model P w) callerA (.call (.ref fa) ⟨[.ref a], []⟩)
        (fun r s' => r = .ok (.ret (.bool true)) ∧ OldK z.heap s'.heap ∧ s'.os = z.os ∧ AllBare s'.gens) z := by
    intro H hO hS hok hA hK
    have noA : ∀ {b : Addr} {o : Obj} {es : Array DictEntry} {ep : Nat}, z.heap.get? b = some o →
        o.data = .dict es ep → H b = none := fun {b o es ep} e d => by
      cases q : H b with
      | none => rfl
      | some u =>
        obtain rfl : b = a := hA b (by simp [q])
        rw [ha] at e
        cases e
        cases (show Data.seq vs.toArray _ = Data.dict es ep from d)
    have nsK : ∀ {b : Addr} {m : Str → Option Value}, z.heap.Ns b m → (hidT z.heap H).Ns b m :=
      fun {b m} ⟨o, es, ep, e, d, r⟩ => ⟨o, es, ep, hidT_get e (noA e d), d, r⟩
    have hKb : K.In (hidT z.heap H) := fun b o e => hidT_get (KX b o e) (by
      cases q : H b with
      | none => rfl
      | some u =>
        obtain rfl : b = a := hA b (by simp [q])
        rw [hK (by simp [q])] at e
        cases e)
    have hM : Mod K mg (hidT z.heap H) :=
      ⟨hKb, nsK hns, ⟨mb, nsK hb, hbb⟩, let ⟨mc, h1, h2⟩ := hlim; ⟨mc, nsK h1, h2⟩⟩
    have e0 : Env0 P w K mg (hidT z.heap H) callerA [] z H :=
      ⟨rfl, hM, fun b o e => of_hidT e, Nat.le_of_eq (hidT_size _ _), trivial,
        fun b hb => absurd (show b ∈ ([] : List Addr) from hb) (by simp), hok, .of_eq hg⟩
    refine codeAny_mono ((F _ hKb (nsK hns)).run callerA [] z H ⟨[.ref a], []⟩ [.ref a] [.ref a] _ _ hr rfl e0
      (hbind z (.ref a)) (.cons rfl .nil) (hsp H hS)) fun r s' h => ?_
    match r, h with
    | .error e, h =>
      obtain ⟨_, _, _, _, _, _, _, _, _, _, _, _, q⟩ := h
      exact q.elim
    | .ok .next, h => exact h.elim
    | .ok .brk, h => exact h.elim
    | .ok .cont, h => exact h.elim
    | .ok (.ret u), h =>
      obtain ⟨v, H', os, bare, un, hok', r', q⟩ := h
      obtain rfl : v = .bl true := q
      obtain rfl : u = Value.bool true := r'
      refine ⟨rfl, OldK.of_keep fun b o e => ?_, os, bare⟩
      cases q : H b with
      | none =>
        exact un.keep b o e q (fun y => absurd (show b ∈ ([] : List Addr) from y) (by simp)) (by simp)
      | some u =>
        rcases hO b with y | ⟨ob, xs, y⟩
        · rw [q] at y
          cases y
        · obtain ⟨e1, _⟩ := hok b _ y
          obtain ⟨e2, _⟩ := hok' b _ (un.frzs b ob _ y)
          rw [e] at e1
          cases e1
          exact e2
  cases hk : K.lookup a with
  | some o =>
    have e := KX a o hk
    rw [ha] at e
    cases e
    refine core (fun _ => none) (fun _ => .inl rfl) (.inr ⟨_, vs.toArray, _, hk, rfl, rfl, rfl, ?_, by simpa using rv⟩)
      (fun b u q => by cases (show (none : Option HO) = some u from q)) (fun b q => absurd rfl q) fun q => absurd rfl q
    rw [List.size_toArray, lenV]
    exact hl
  | none =>
    let oS : Obj := { cls := .type "list", data := .seq vs.toArray }
    let HS : Hp := fun b => if b = a then some (.frz oS (.lst (ns.map V.int))) else none
    have hS : HS a = some (.frz oS (.lst (ns.map V.int))) := if_pos rfl
    have hN : ∀ b, b ≠ a → HS b = none := fun b hb => if_neg hb
    refine core HS (fun b => ?_) (.inl (.inr ⟨oS, hS⟩)) (fun b u q => ?_) (fun b q => ?_) fun _ => hk
    · by_cases hb : b = a
      · exact .inr ⟨_, _, by rw [hb]; exact hS⟩
      · exact .inl (hN b hb)
    · by_cases hb : b = a
      · subst hb
        rw [hS] at q
        cases q
        exact ⟨ha, by rw [List.length_map]; exact hl, vs, _, rv, ha⟩
      · rw [hN b hb] at q
        cases q
    · by_cases hb : b = a
      · exact hb
      · exact absurd (hN b hb) q

/-- a law's end over a head by facts -/
theorem walk_ofG {l : PySem.W.OpenLaw} {n k : Nat} {q : Program} {loose : List Str}
    {XP : (Str → Option Value) → Heap → Prop} {YP : World → Heap → Prop} {d : DefRec} {x : Str}
    (hn : l.most = some n) (hn2 : n ≤ sizeLine) (hdf : d.params.defaults = []) (hr : Room k callerA)
    (F : ∀ (w : World) (mg : Str → Option Value) (fa : Addr) (h : Heap), YP w h → h.Ns mainGlobals mg →
      mg d.name = some (.ref fa) → ∃ (K : PySem.W.Frag) (fd : FuncData) (sp : Sp), K.In h ∧
        (∀ (s : Shared) (u : Value), BindsTo s fd ⟨[u], []⟩ [(x, u)]) ∧
        (∀ (H : Hp) (a : Addr) (ns : List Int), ns.length ≤ n → SqL K H a (ns.map V.int) →
          sp [.ref a] H (fun v _ => v = .bl true) fun _ _ _ => False) ∧
        ∀ base : Heap, K.In base → base.Ns mainGlobals mg → FnG l.prog w K mg base k fa fd [x] sp) :
    PySem.W.WalkO q loose XP YP l.row.toRowW d [] (fun f vs => PySem.call f vs) := by
  refine Att.attach_call hn hdf fun w s₀ z mg mb fa o pm cd doc a vs ns G Y ho hd hcd hmg hobj hints hlen hg => ?_
  obtain ⟨K, fd, sp, KX, hb, hsp, hF⟩ := F w mg fa _ Y G.T.g hmg
  exact law_callG KX G.T.g G.T.b G.T.builtins G.T.nolimit hg hobj hints (Nat.le_trans hlen hn2) hr hF hb
    (fun H hS => hsp H a ns hlen hS)

/-! ### repr of data -/
section
variable {X : Cx}
def rRepr (K : PySem.W.Frag) : List V → Hp → VK → Prop := fun xs H Q => ∃ (x : V) (d : PyData),
  xs = [x] ∧ Dp K H x d ∧ d.showable = true ∧ d.hasDict = false ∧ d.depth ≤ 60 ∧
  d.shown.length ≤ sizeLine ∧ Q (.str d.shown) H
theorem call_reprD (hgd : X.A.guards = some []) (hu : X.A.units + 64 < cLine) :
    CallR X (.builtin "repr") (rRepr X.K) := by
  intro pins s σ H xs us Q I r h
  obtain ⟨x, d, rfl, hd, hs, hn, hdp, hz, q⟩ := h
  obtain ⟨u, rfl, rx⟩ := vals1 r
  have key : ∀ a, x = .ref a → wpAny (model X.prog X.w) X.A (call (.builtin "repr") [u]) (EP X pins σ Q) X.xe s := fun a ea => by
    subst ea
    have e : u = .ref a := rx
    subst e
    obtain ⟨as, rd⟩ := Dp.reads I d _ _ hd rx
    exact repr_of_reads' rd hs (fun y => by rw [hn] at y; cases y) hgd (by omega) (fun b o e => e)
      (fun h' u tk hk => ⟨.str d.shown, H, I.kept hk, ⟨_, rfl⟩, q⟩) hz
  cases hd with
  | non =>
    cases rx
    exact PySem.P.repr_of_none ⟨.str _, H, I.tok _, ⟨_, rfl⟩, q⟩
  | bl b =>
    cases rx
    exact PySem.P.repr_of_bool ⟨.str _, H, I.tok _, ⟨_, rfl⟩, by
      rw [PyData.shown] at q
      cases b <;> exact q⟩
  | int i =>
    obtain ⟨t, rfl⟩ := rx
    have hi : i.natAbs.log2 < 1920 := by simpa [PyData.showable] using hs
    exact PySem.P.repr_of_int hi ⟨.str _, H, I.tok _, ⟨_, rfl⟩, q⟩
  | str y =>
    obtain ⟨t, rfl⟩ := rx
    exact PySem.P.repr_of_str ⟨.str _, H, I.tok _, ⟨_, rfl⟩, q⟩ hz
  | lst h1 h2 => exact key _ rfl
  | tup h1 h2 => exact key _ rfl
end
end PB

namespace PB
open PySem PySem.Spec PyProof.Rows L2

/-! ### list(enumerate(xs)): the tuples given out are all held -/
/-- an enumerate whose last tuple stands somewhere -/
abbrev EnHeld (h : Heap) (e it : Addr) (i : Int) (item : Value) (a : Addr) (f : Bool) : Prop :=
  h.get? e = some (Obj.mk (.type "enumerate") none
    (.fields #[rawInt a, .bool f, .ref it, rawInt i, .none, item]) #[])

def EnSt (h : Heap) (e it l S : Addr) (i : Nat) : Prop := h.IsListIter it l i ∧
  ((∃ old, IsEnum h e it i old) ∨ ∃ item a f oa, EnHeld h e it i item a f ∧ h.get? a = some oa ∧
    a ≠ e ∧ a ≠ it ∧ a ≠ S)
theorem EnSt.keep {h h' : Heap} {e it l S : Addr} {i : Nat} (x : EnSt h e it l S i)
    (hk : ∀ b o, b ≠ S → h.get? b = some o → h'.get? b = some o) (h1 : e ≠ S) (h2 : it ≠ S) :
    EnSt h' e it l S i := by
  obtain ⟨⟨o, ho, r⟩, x⟩ := x
  refine ⟨⟨o, hk _ _ h2 ho, r⟩, ?_⟩
  rcases x with ⟨old, y⟩ | ⟨item, a, f, oa, y, z, n1, n2, n3⟩
  · exact .inl ⟨old, hk _ _ h1 y⟩
  · exact .inr ⟨item, a, f, oa, hk _ _ h1 y, hk _ _ n3 z, n1, n2, n3⟩

section
variable {prog : Program} {w : World} {A : Around} {E : Value → Shared → Prop} {s : Shared}
theorem en_alive {a : Addr} {o : Obj} {Q : Option Obj → Shared → Prop} (ho : s.heap.get? a = some o)
    (h : Q (some o) s) : wpAny (model prog w) A (loadIfAlive a) Q E s := by
  have h' : Q (s.heap.get? a) s := by
    rw [ho]
    exact h
  exact fun _ _ _ => h'

theorem en_next_held {e it l a : Addr} {f : Bool} {oa : Obj} {i : Nat} {items : Array Value}
    {x item : Value} {Q : Value → Shared → Prop} (he : EnHeld s.heap e it i item a f)
    (ha : s.heap.get? a = some oa) (hae : a ≠ e) (hai : a ≠ it)
    (hit : s.heap.IsListIter it l i) (hl : s.heap.IsList l items) (hx : items[i]? = some x) (hne : e ≠ it)
    (hQ : ∀ h', EnHeld h' e it ((i : Int) + 1) item a true → h'.IsListIter it l (i + 1) →
      h'.get? s.heap.objs.size = some { cls := .type "tuple", data := .seq #[.int i s.toks, x] } →
      h'.objs.size = s.heap.objs.size + 1 →
      (∀ b o, b ≠ e → b ≠ it → s.heap.get? b = some o → h'.get? b = some o) →
      Q (.ref s.heap.objs.size) { s with heap := h', toks := s.toks + 1 }) :
    wpAny (model prog w) A (Builtin.«enumerate.__next__» ⟨[.ref e], []⟩)
      (fun fin s' => ∃ v, fin = .done (.ret v) ∧ Q v s') E s := by
  obtain ⟨hp, g, d, tk, os⟩ := s
  show wpAny _ _ (field (.ref e) 2 >>= _) _ _ _
  refine wpAny_bind (wpAny_field he rfl (x := .ref it) rfl ?_)
  refine wpAny_bind (wpAny_nextOf_list_item hit hl hx fun h₁ hit₁ hs₁ => ?_)
  replace hs₁ : Heap.SameBut it hp h₁ := hs₁
  have he₁ : EnHeld h₁ e it i item a f := (hs₁.2 e hne).trans he
  show wpAny _ _ (field (.ref e) 3 >>= _) _ _ ⟨h₁, g, d, tk, os⟩
  refine wpAny_bind (wpAny_field he₁ rfl (x := rawInt i) rfl ?_)
  show wpAny _ _ (field (.ref e) 4 >>= _) _ _ ⟨h₁, g, d, tk, os⟩
  refine wpAny_bind (wpAny_field he₁ rfl (x := .none) rfl ?_)
  show wpAny _ _ (mkInt i >>= _) _ _ ⟨h₁, g, d, tk, os⟩
  refine wpAny_bind (wpAny_mkInt ?_)
  show wpAny _ _ (setField (.ref e) 3 (rawInt ((i : Int) + 1)) >>= _) _ _
    ⟨h₁, g, d, tk + 1, os⟩
  refine wpAny_bind (wpAny_setField_rec he₁ (by simp) fun h₂ he₂ hs₂ => ?_)
  replace hs₂ : Heap.SameBut e h₁ h₂ := hs₂
  replace he₂ : EnHeld h₂ e it ((i : Int) + 1) item a f := he₂
  show wpAny _ _ (setField (.ref e) 4 .none >>= _) _ _
    ⟨h₂, g, d, tk + 1, os⟩
  refine wpAny_bind (wpAny_setField_rec he₂ (by simp) fun h₃ he₃ hs₃ => ?_)
  replace hs₃ : Heap.SameBut e h₂ h₃ := hs₃
  replace he₃ : EnHeld h₃ e it ((i : Int) + 1) item a f := he₃
  show wpAny _ _ (newTuple [.int i tk, x] >>= _) _ _ ⟨h₃, g, d, tk + 1, os⟩
  refine wpAny_bind (wpAny_newTuple ?_)
  have he₄ : EnHeld (h₃.push { cls := .type "tuple", data := .seq #[.int i tk, x] }) e it
    ((i : Int) + 1) item a f := Heap.get?_push_of_some _ he₃
  generalize hh₄ : h₃.push { cls := .type "tuple", data := .seq #[.int i tk, x] } = h₄ at he₄
  have hsz : h₃.objs.size = hp.objs.size := by
    rw [hs₃.1, hs₂.1, hs₁.1]
  have hel : e < hp.objs.size := Heap.lt_size he
  have ht₄ : h₄.get? hp.objs.size = some { cls := .type "tuple", data := .seq #[.int i tk, x] } := by
    rw [← hh₄, ← hsz]
    exact Heap.get?_push_size _ rfl
  have hz₄ : h₄.objs.size = hp.objs.size + 1 := by
    rw [← hh₄, Heap.size_push, hsz]
  have hk₄ : ∀ b o, b ≠ e → b ≠ it → hp.get? b = some o → h₄.get? b = some o := fun b o hbe hbi hb => by
    rw [← hh₄]
    exact Heap.get?_push_of_some _ (hs₃.extBut b o hbe (hs₂.extBut b o hbe (hs₁.extBut b o hbi hb)))
  have hit₄ : h₄.IsListIter it l (i + 1) := by
    rw [← hh₄]
    obtain ⟨o, ho, r⟩ := (hit₁.extBut hs₂.extBut (Ne.symm hne)).extBut hs₃.extBut (Ne.symm hne)
    exact ⟨o, Heap.get?_push_of_some _ ho, r⟩
  show wpAny _ _ (Builtin.SmallTypes.ownedTupleIsFree (.ref e) >>= _) _ _
    ⟨h₄, g, d, tk + 1, os⟩
  rw [hsz]
  have ha₄ : h₄.get? a = some oa := hk₄ a oa hae hai ha
  clear hh₄ he₃ hs₃ he₂ hs₂ he₁ hs₁ hit₁ hsz h₃ h₂ h₁
  refine wpAny_bind ?_
  unfold Builtin.SmallTypes.ownedTupleIsFree
  refine wpAny_bind (wpAny_field he₄ rfl (x := rawInt a) rfl ?_)
  show wpAny _ _ (loadIfAlive ((a : Int).toNat) >>= _) _ _ _
  rw [Int.toNat_natCast]
  refine wpAny_bind (en_alive ha₄ ?_)
  simp only [Option.isNone_some, Bool.false_eq_true, if_false]
  refine wpAny_bind (wpAny_field he₄ rfl (x := .bool f) rfl ?_)
  have fin : ∀ h₅ : Heap, EnHeld h₅ e it ((i : Int) + 1) item a true → Heap.SameBut e h₄ h₅ →
      Q (.ref hp.objs.size) ⟨h₅, g, d, tk + 1, os⟩ := fun h₅ he₅ hs₅ => by
    refine hQ h₅ he₅ (hit₄.extBut hs₅.extBut (Ne.symm hne)) (hs₅.extBut _ _ (Nat.ne_of_gt hel) ht₄) ?_ ?_
    · show h₅.objs.size = hp.objs.size + 1
      rw [hs₅.1, hz₄]
    · exact fun b o hb hb2 e => hs₅.extBut b o hb (hk₄ b o hb hb2 e)
  cases f with
  | true =>
    rw [if_neg (show ¬ ((Value.bool true != Value.bool true) = true) from Bool.false_ne_true)]
    refine wpAny_pure ?_
    simp only [Bool.false_eq_true, if_false]
    exact wpAny_pure ⟨_, rfl, fin h₄ he₄ (Heap.SameBut.refl _ _)⟩
  | false =>
    rw [if_pos (show (Value.bool false != Value.bool true) = true from rfl)]
    refine wpAny_bind (wpAny_setField_rec he₄ (by simp) fun h₅ he₅ hs₅ => ?_)
    replace hs₅ : Heap.SameBut e h₄ h₅ := hs₅
    replace he₅ : EnHeld h₅ e it ((i : Int) + 1) item a true := he₅
    refine wpAny_pure ?_
    simp only [Bool.false_eq_true, if_false]
    exact wpAny_pure ⟨_, rfl, fin h₅ he₅ hs₅⟩

theorem en_pyNext_held {e it l a : Addr} {f : Bool} {oa : Obj} {i : Nat} {items : Array Value}
    {x item : Value} {Q : Option Value → Shared → Prop} (he : EnHeld s.heap e it i item a f)
    (ha : s.heap.get? a = some oa) (hae : a ≠ e) (hai : a ≠ it)
    (hit : s.heap.IsListIter it l i) (hl : s.heap.IsList l items) (hx : items[i]? = some x) (hne : e ≠ it)
    (hQ : ∀ h', EnHeld h' e it ((i : Int) + 1) item a true → h'.IsListIter it l (i + 1) →
      h'.get? s.heap.objs.size = some { cls := .type "tuple", data := .seq #[.int i s.toks, x] } →
      h'.objs.size = s.heap.objs.size + 1 →
      (∀ b o, b ≠ e → b ≠ it → s.heap.get? b = some o → h'.get? b = some o) →
      Q (some (.ref s.heap.objs.size)) { s with heap := h', toks := s.toks + 1 }) :
    wpAny (model prog w) A (pyNext (.ref e)) Q E s := by
  have hT : s.TypeIs (.ref e) "enumerate" := ⟨_, he, rfl⟩
  unfold pyNext
  refine wpAny_bind (wpAny_attempt (wpAny_callSpecial?_slot (name := Str.ofString "__next__") hT F.slot_enumerate_next
    (wpAny_call_entry F.slot_enumerate_next hT F.entry_enumerate_next ?_ (F.args_enumerate_next_1 _))))
  refine en_next_held he ha hae hai hit hl hx hne fun h' a1 a2 a3 a4 a5 => ?_
  exact wpAny_pure (hQ h' a1 a2 a3 a4 a5)

theorem en_pyNext_held_end {e it l a : Addr} {f : Bool} {i : Nat} {items : Array Value} {item : Value}
    {Q : Option Value → Shared → Prop} (hh : A.handled = none) (he : EnHeld s.heap e it i item a f)
    (hit : s.heap.IsListIter it l i) (hl : s.heap.IsList l items) (hx : items[i]? = none)
    (hQ : ∀ h', Heap.ExtBut it s.heap h' → Q none { s with heap := h' }) :
    wpAny (model prog w) A (pyNext (.ref e)) Q E s := by
  have hT : s.TypeIs (.ref e) "enumerate" := ⟨_, he, rfl⟩
  unfold pyNext
  refine wpAny_bind (wpAny_attempt (wpAny_callSpecial?_slot (name := Str.ofString "__next__") hT F.slot_enumerate_next
    (wpAny_call_entry F.slot_enumerate_next hT F.entry_enumerate_next ?_ (F.args_enumerate_next_1 _))))
  show wpAny _ _ (field (.ref e) 2 >>= _) _ _ _
  refine wpAny_bind (wpAny_field he rfl (x := .ref it) rfl ?_)
  refine wpAny_bind (wpAny_nextOf_list_end hh hit hl hx fun h' x he' hx' => ?_)
  refine wpAny_bind (wpAny_isInstance (T := "StopIteration") (b := true) hx' isSubtype_stop ?_)
  exact wpAny_pure (hQ h' he')
end

/-! ### the items as pairs of their place and themselves -/
def enV {α : Type} : Nat → List α → List (Key × α)
  | _, [] => []
  | i, x :: xs => (Sum.inl (i : Int), x) :: enV (i + 1) xs
theorem enV_len {α : Type} : ∀ (xs : List α) (i : Nat), (enV i xs).length = xs.length
  | [], _ => rfl
  | _ :: xs, i => congrArg Nat.succ (enV_len xs (i + 1))
theorem enV_get {α : Type} : ∀ (xs : List α) (i j : Nat), (enV i xs)[j]? = xs[j]?.map fun x => (Sum.inl ((i + j : Nat) : Int), x)
  | [], _, _ => rfl
  | x :: xs, i, 0 => rfl
  | x :: xs, i, j + 1 => by
    show (enV (i + 1) xs)[j]? = _
    rw [enV_get xs (i + 1) j, show i + 1 + j = i + (j + 1) by omega]
    rfl
theorem enV_kv : ∀ (xs : List V) (us : List Value) (i : Nat), Vals xs us → KV (enV i xs) (enV i us)
  | _, _, _, .nil => .nil
  | _, _, i, .cons r t => .cons ⟨rfl, r⟩ (enV_kv _ _ (i + 1) t)

section
variable {prog : Program} {w : World} {A : Around} {s : Shared} {R : Result → Shared → Prop} {items : Array Value}
abbrev EnG (prog : Program) (w : World) (items : Array Value) (lo : Addr) (h : Heap) (as : List Addr) : Prop :=
  PySem.W.KdxG (mixKind prog w) (enV 0 items.toList) lo h as

theorem en_loop {S I it l : Addr} (hh : A.handled = none) (hIS : I < S) (hSit : it ≠ S) (hlS : l ≠ S) (hlI : l ≠ I)
    (hlit : l ≠ it) (hIit : I ≠ it) (hitS : it < S) (hn : items.size ≤ sizeLine) (res : Value) {h₁ : Heap}
    (hR : ∀ h' tk acc c as, (∀ b o, b ≠ S → b ≠ I → b ≠ it → h₁.get? b = some o → h'.get? b = some o) →
      h'.get? S = some { cls := .type "list", dict := none, data := .seq acc c, slots := #[] } →
      as.length = items.size → EnG prog w items S h' as → acc.toList = as.map Value.ref →
      R (.ok (.ret res)) { s with heap := h', toks := tk }) :
    ∀ (k i : Nat) (h : Heap) (tk c : Nat) (acc : Array Value) (as : List Addr), items.size - i = k →
      i ≤ items.size → EnSt h I it l S i → h.IsList l items →
      (∀ b o, b ≠ S → b ≠ I → b ≠ it → h₁.get? b = some o → h.get? b = some o) →
      h.get? S = some { cls := .type "list", dict := none, data := .seq acc c, slots := #[] } →
      acc.toList = as.map Value.ref → as.length = i → EnG prog w items S h as →
      codeAny (model prog w) A (.builtin "list.extend.loop" ⟨[.ref S, .ref I, res], []⟩) R
        { s with heap := h, toks := tk } := by
  have hne : S ≠ I := Nat.ne_of_gt hIS
  intro k
  induction k with
  | zero =>
    intro i h tk c acc as hk hi hst hl hkeep hS hacc hal hG
    have hin : i = items.size := by omega
    refine codeAny_builtin PySem.F.entry_extend_loop ?_
    rw [Around.under_plainId PySem.F.plain_extend_loop _]
    show wpAny _ A.in1 (pyNext (.ref I) >>= _) _ _ _
    have hx : items[i]? = none := Array.getElem?_eq_none (by omega)
    have fin : ∀ h' : Heap, Heap.ExtBut it h h' → R (.ok (.ret res)) { s with heap := h', toks := tk } := fun h' he => by
      refine hR h' tk acc c as (fun b o h1 h2 h3 e => he b o h3 (hkeep b o h1 h2 h3 e)) (he S _ (Ne.symm hSit) hS) (by omega)
        ⟨hG.rise, hG.above, fun j a hj => ?_⟩ hacc
      obtain ⟨key, kk, x, e1, e2, e3⟩ := hG.pairs j a hj
      refine ⟨key, kk, x, e1, e2, he a _ ?_ e3⟩
      have := hG.above a (List.mem_of_getElem? hj)
      exact Nat.ne_of_gt (Nat.lt_trans hitS this)
    rcases hst.2 with ⟨old, he⟩ | ⟨item, a, f, oa, he, ha, n1, n2, n3⟩
    · refine wpAny_bind (wpAny_pyNext_enum_end (s := { s with heap := h, toks := tk }) (A := A.in1) hh he hst.1 hl hx fun h' e => ?_)
      exact wpAny_pure (fin h' e)
    · refine wpAny_bind (en_pyNext_held_end (s := { s with heap := h, toks := tk }) (A := A.in1) hh he hst.1 hl hx fun h' e => ?_)
      exact wpAny_pure (fin h' e)
  | succ k ih =>
    intro i h tk c acc as hk hi hst hl hkeep hS hacc hal hG
    have hlt : i < items.size := by omega
    have hx : items[i]? = some items[i] := Array.getElem?_eq_getElem hlt
    generalize items[i] = x at hx
    have hsz : acc.size = i := by rw [← Array.length_toList, hacc, List.length_map, hal]
    have hSl : S < h.objs.size := Heap.lt_size hS
    refine codeAny_builtin PySem.F.entry_extend_loop ?_
    rw [Around.under_plainId PySem.F.plain_extend_loop _]
    show wpAny _ A.in1 (pyNext (.ref I) >>= _) _ _ _
    have fin : ∀ h' : Heap, EnSt h' I it l S (i + 1) →
        h'.get? h.objs.size = some { cls := .type "tuple", data := .seq #[.int i tk, x] } →
        h'.objs.size = h.objs.size + 1 → (∀ b o, b ≠ I → b ≠ it → h.get? b = some o → h'.get? b = some o) →
        wpAny (model prog w) A.in1 (updateSeq S (·.push (Value.ref h.objs.size)) >>= fun _ =>
          again (.builtin "list.extend.loop" ⟨[.ref S, .ref I, res], []⟩))
          (fun fin s' => match fin with | .done f => R (.ok f) s' | .again c' => c'.quiet = true ∧ codeAny (model prog w) A c' R s')
          (fun e s' => R (.error e) s') { s with heap := h', toks := tk + 1 } := fun h' hst' ht hz hkp => by
      have hS' := hkp S _ hne (Ne.symm hSit) hS
      have up : ∀ b o, b ≠ S → h'.get? b = some o → (h'.update S (Obj.mapSeq (·.push (Value.ref h.objs.size)))).get? b = some o :=
        fun b o hb e => (Heap.get?_update_other _ _ (Ne.symm hb)).trans e
      have hl' : h'.IsList l items := hl.at fun o e => hkp l o hlI hlit e
      refine wpAny_bind (wpAny_updateSeq hS' rfl (wpAny_pure ⟨plainId_quiet PySem.F.plain_extend_loop _,
        ih (i + 1) _ (tk + 1) _ (acc.push (Value.ref h.objs.size)) (as ++ [h.objs.size]) (by omega) hlt
          (hst'.keep up (Ne.symm hne) hSit) (hl'.at fun o e => up l o hlS e)
          (fun b o h1 h2 h3 e => up b o h1 (hkp b o h2 h3 (hkeep b o h1 h2 h3 e))) (Heap.get?_update_self _ hS' rfl)
          (by rw [Array.toList_push, hacc, List.map_append]; rfl) (by rw [List.length_append, hal]; rfl) ⟨?_, ?_, ?_⟩⟩) ?_)
      · refine List.pairwise_append.mpr ⟨hG.rise, List.pairwise_singleton _ _, fun a ha b hb => ?_⟩
        rw [List.mem_singleton.mp hb]
        exact hG.there ha
      · intro a ha
        rcases List.mem_append.mp ha with ha | ha
        · exact hG.above a ha
        · rw [List.mem_singleton.mp ha]
          exact hSl
      · intro j b hj
        rcases Nat.lt_trichotomy j as.length with h1 | h1 | h1
        · rw [List.getElem?_append_left h1] at hj
          obtain ⟨key', k', x', e1, e2, e3⟩ := hG.pairs j b hj
          have hb := hG.above b (List.mem_of_getElem? hj)
          exact ⟨key', k', x', e1, e2, up b _ (Nat.ne_of_gt hb) (hkp b _ (Nat.ne_of_gt (Nat.lt_trans hIS hb))
            (Nat.ne_of_gt (Nat.lt_trans hitS hb)) e3)⟩
        · subst h1
          have hb : h.objs.size = b := by simpa using hj
          subst hb
          refine ⟨.int (i : Int) tk, Sum.inl (i : Int), x, ?_, mixKind_int prog w _ _, up _ _ (Nat.ne_of_gt hSl) ht⟩
          rw [enV_get, Array.getElem?_toList, hal, hx, Nat.zero_add]
          rfl
        · have hnone : (as ++ [h.objs.size])[j]? = none := List.getElem?_eq_none (by rw [List.length_append, List.length_singleton]; omega)
          rw [hnone] at hj
          cases hj
      · rw [hsz]
        omega
    rcases hst.2 with ⟨old, he⟩ | ⟨item, a, f, oa, he, ha, n1, n2, n3⟩
    · refine wpAny_bind (wpAny_pyNext_enum_item (s := { s with heap := h, toks := tk }) (A := A.in1) he hst.1 hl hx hIit fun h' g1 g2 g3 g4 g5 => ?_)
      refine fin h' ⟨g2, .inr ⟨x, h.objs.size, false, _, g1, g3, Nat.ne_of_gt (Heap.lt_size he), ?_, Nat.ne_of_gt hSl⟩⟩ g3 g4 g5
      obtain ⟨o, ho, _⟩ := hst.1
      exact Nat.ne_of_gt (Heap.lt_size ho)
    · refine wpAny_bind (en_pyNext_held (s := { s with heap := h, toks := tk }) (A := A.in1) he ha n1 n2 hst.1 hl hx hIit fun h' g1 g2 g3 g4 g5 => ?_)
      exact fin h' ⟨g2, .inr ⟨item, a, true, oa, g1, g5 a _ n1 n2 ha, n1, n2, n3⟩⟩ g3 g4 g5
end
end PB

namespace PB
open PySem PySem.Spec PyProof.Rows L2
theorem en_no_len : typeLookup (.type "enumerate") "__len__" = pure none := by
  rw [typeLookup_type, builtinLookup_eq_fast]
  kernel_rfl
theorem en_no_hint : typeLookup (.type "enumerate") "__length_hint__" = pure none := by
  rw [typeLookup_type, builtinLookup_eq_fast]
  kernel_rfl
section
variable {prog : Program} {w : World} {A : Around} {s : Shared} {items : Array Value}

theorem en_extend {R : Result → Shared → Prop} {I it l : Addr} (hh : A.handled = none)
    (he : IsEnum s.heap I it 0 .none) (hit : s.heap.IsListIter it l 0) (hl : s.heap.IsList l items)
    (S : Addr) (hIS : I < S) (hSit : it ≠ S) (hlS : l ≠ S) (hlI : l ≠ I) (hlit : l ≠ it) (hIit : I ≠ it)
    (hitS : it < S) (hn : items.size ≤ sizeLine) (res : Value) (c₀ : Nat)
    (hS : s.heap.get? S = some { cls := .type "list", data := .seq #[] c₀ })
    (hR : ∀ h' tk acc c as, (∀ b o, b ≠ S → b ≠ I → b ≠ it → s.heap.get? b = some o → h'.get? b = some o) →
      h'.get? S = some { cls := .type "list", dict := none, data := .seq acc c, slots := #[] } →
      as.length = items.size → EnG prog w items S h' as → acc.toList = as.map Value.ref →
      R (.ok (.ret res)) { s with heap := h', toks := tk }) :
    wpAny (model prog w) A.in1 (Builtin.List.listExtendWith (.ref S) (.ref I) res)
      (fun fin s' => match fin with | .done f => R (.ok f) s' | .again c' => c'.quiet = true ∧ codeAny (model prog w) A c' R s')
      (fun e s' => R (.error e) s') s := by
  have hSne : S ≠ I := Nat.ne_of_gt hIS
  have hT : s.TypeIs (.ref I) "enumerate" := ⟨_, he, rfl⟩
  unfold Builtin.List.listExtendWith
  refine wpAny_bind (wpAny_typeOf hT ?_)
  have h1 : Builtin.List.listSameRef (.ref S) (.ref I) = false := by simp [Builtin.List.listSameRef, hSne]
  have h2 : (Value.type "enumerate" == Value.type "list") = false := by decide
  have h3 : (Value.type "enumerate" == Value.type "tuple") = false := by decide
  simp only [h1, h2, h3, Bool.or_false, Bool.false_eq_true, if_false]
  refine wpAny_bind (wpAny_pyIter_enum he ?_)
  refine wpAny_bind (wpAny_holding ?_)
  unfold Builtin.List.listLengthHint
  refine wpAny_bind (wpAny_specialOf hT en_no_len ?_)
  show wpAny _ A.in1 (specialOf (Value.ref I) (Str.ofString "__length_hint__") >>= _) _ _ _
  refine wpAny_bind (wpAny_specialOf hT en_no_hint ?_)
  refine wpAny_pure ?_
  show wpAny _ A.in1 (rule "list.extend.makes-room" >>= fun _ =>
    Builtin.List.listTouch (.ref S) >>= fun _ =>
    again (.builtin "list.extend.loop" ⟨[.ref S, .ref I, res], []⟩)) _ _ _
  refine wpAny_bind (wpAny_rule ?_)
  refine wpAny_bind ?_
  show wpAny _ A.in1 (updateSeq S (·.push .none) >>= fun _ => updateSeq S (·.pop)) _ _ _
  refine wpAny_bind (wpAny_updateSeq hS rfl ?_)
  have hS₂ := Heap.get?_update_self (Obj.mapSeq (·.push Value.none)) hS rfl
  refine wpAny_updateSeq (hz := by seq_fits) hS₂ rfl ?_
  have hS₃ := Heap.get?_update_self (Obj.mapSeq (·.pop)) hS₂ rfl
  have oth : ∀ b o, b ≠ S → s.heap.get? b = some o →
      ((s.heap.update S (Obj.mapSeq (·.push Value.none))).update S (Obj.mapSeq (·.pop))).get? b = some o :=
    fun b o hb e => (Heap.get?_update_other _ _ (Ne.symm hb)).trans
      ((Heap.get?_update_other _ _ (Ne.symm hb)).trans e)
  obtain ⟨oit, hoit, rit⟩ := hit
  refine wpAny_pure ⟨plainId_quiet PySem.F.plain_extend_loop _, en_loop (s := s) (h₁ := s.heap) hh hIS hSit hlS hlI hlit hIit hitS hn res
    (fun h' tk acc c as k1 k2 k3 k4 k5 => hR h' tk acc c as k1 k2 k3 k4 k5)
    items.size 0 _ _ _ #[] [] (Nat.sub_zero _) (Nat.zero_le _)
    ⟨⟨oit, oth _ _ hSit hoit, rit⟩, .inl ⟨.none, oth _ _ hSne.symm he⟩⟩ (hl.at fun o e => oth _ _ hlS e)
    (fun b o h1 h2 h3 e => oth b o h1 e) hS₃ rfl rfl ⟨List.Pairwise.nil, (fun _ ha => nomatch ha), (fun j a hj => by simp at hj)⟩⟩

theorem en_init {R : Result → Shared → Prop} {I it l : Addr} (hh : A.handled = none)
    (he : IsEnum s.heap I it 0 .none) (hit : s.heap.IsListIter it l 0) (hl : s.heap.IsList l items)
    (S : Addr) (hIS : I < S) (hSit : it ≠ S) (hlS : l ≠ S) (hlI : l ≠ I) (hlit : l ≠ it) (hIit : I ≠ it)
    (hitS : it < S) (hn : items.size ≤ sizeLine)
    (hS : s.heap.get? S = some { cls := .type "list", data := .seq #[] })
    (hR : ∀ h' tk acc c as, (∀ b o, b ≠ S → b ≠ I → b ≠ it → s.heap.get? b = some o → h'.get? b = some o) →
      h'.get? S = some { cls := .type "list", dict := none, data := .seq acc c, slots := #[] } →
      as.length = items.size → EnG prog w items S h' as → acc.toList = as.map Value.ref →
      R (.ok (.ret .none)) { s with heap := h', toks := tk }) :
    wpAny (model prog w) A.in1 (Builtin.«list.__init__» ⟨[.ref S, .ref I], []⟩)
      (fun fin s' => match fin with | .done f => R (.ok f) s' | .again c' => c'.quiet = true ∧ codeAny (model prog w) A c' R s')
      (fun e s' => R (.error e) s') s := by
  show wpAny _ _ (do let old ← Builtin.List.listItems (.ref S); Builtin.List.listUpdate (.ref S) (fun _ => #[]); letGo old.toList.reverse; Builtin.List.listExtendWith (.ref S) (.ref I) .none) _ _ s
  refine wpAny_bind ?_
  unfold Builtin.List.listItems
  refine wpAny_bind (wpAny_seqItems hS rfl (wpAny_pure ?_))
  show wpAny _ _ (updateSeq S (fun _ => #[]) >>= fun _ => letGo (#[] : Array Value).toList.reverse >>= fun _ => Builtin.List.listExtendWith (.ref S) (.ref I) .none) _ _ s
  refine wpAny_bind (wpAny_updateSeq hS rfl ?_)
  have hS₂ := Heap.get?_update_self (Obj.mapSeq (fun _ => (#[] : Array Value))) hS rfl
  have oth : ∀ b o, b ≠ S → s.heap.get? b = some o → (s.heap.update S (Obj.mapSeq (fun _ => (#[] : Array Value)))).get? b = some o :=
    fun b o hb e => (Heap.get?_update_other _ _ (Ne.symm hb)).trans e
  refine wpAny_bind (wpAny_letGo ?_)
  obtain ⟨oit, hoit, rit⟩ := hit
  refine en_extend hh (oth _ _ (Nat.ne_of_lt hIS) he) ⟨oit, oth _ _ hSit hoit, rit⟩ (hl.at fun o e => oth _ _ hlS e) S hIS hSit hlS hlI hlit hIit hitS hn .none _ hS₂
    fun h' tk acc c as k1 k2 k3 k4 k5 => hR h' tk acc c as (fun b o n1 n2 n3 e => k1 b o n1 n2 n3 (oth b o n1 e)) k2 k3 k4 k5

theorem en_call {Q : Value → Shared → Prop} {E : Value → Shared → Prop} {I it l : Addr} (hh : A.handled = none)
    (he : IsEnum s.heap I it 0 .none) (hit : s.heap.IsListIter it l 0) (hl : s.heap.IsList l items)
    (hlI : l ≠ I) (hlit : l ≠ it) (hIit : I ≠ it) (hn : items.size ≤ sizeLine)
    (hQ : ∀ h' tk acc c as, (∀ b o, b ≠ I → b ≠ it → s.heap.get? b = some o → h'.get? b = some o) →
      h'.get? s.heap.objs.size = some { cls := .type "list", dict := none, data := .seq acc c, slots := #[] } →
      as.length = items.size → EnG prog w items s.heap.objs.size h' as → acc.toList = as.map Value.ref →
      Q (.ref s.heap.objs.size) { s with heap := h', toks := tk }) :
    wpAny (model prog w) A (call (.type "list") [.ref I]) Q E s := by
  refine callType_codes (Q₁ := fun obj s₁ => obj = .ref s.heap.objs.size ∧ s₁ = { s with heap := s.heap.push { cls := .type "list", data := .seq #[] } })
    PySem.F.called_list (PySem.F.typeCall_list_1 _) PySem.F.entry_list_init (code_list_new _ ⟨rfl, rfl⟩) fun obj s₁ h₁ => ?_
  obtain ⟨rfl, rfl⟩ := h₁
  have hS : (s.heap.push { cls := .type "list", data := .seq #[] }).get? s.heap.objs.size = some { cls := .type "list", data := .seq #[] } := Heap.get?_push_size _ rfl
  have lI : I < s.heap.objs.size := Heap.lt_size he
  obtain ⟨oit, hoit, rit⟩ := hit
  have lit : it < s.heap.objs.size := Heap.lt_size hoit
  obtain ⟨ol, hol, rl⟩ := hl
  have ll : l < s.heap.objs.size := Heap.lt_size hol
  refine ⟨⟨_, hS, rfl⟩, PySem.F.args_list_init_2 _ _, en_init (A := A.in1) hh (Heap.get?_push_of_some _ he) ⟨oit, Heap.get?_push_of_some _ hoit, rit⟩
    ⟨ol, Heap.get?_push_of_some _ hol, rl⟩ _ lI (Nat.ne_of_lt lit) (Nat.ne_of_lt ll) hlI hlit hIit lit hn hS fun h' tk acc c as k1 k2 k3 k4 k5 => ?_⟩
  exact ⟨rfl, hQ h' tk acc c as (fun b o n1 n2 e => k1 b o (Nat.ne_of_lt (Heap.lt_size e)) n1 n2 (Heap.get?_push_of_some _ e)) k2 k3 k4 k5⟩
end


/-- behind a call that has laid a list at p and pairs above it -/
theorem pairs_laid {X : Cx} {pins : List (Addr × Obj)} {σ : L2.St} {H : Hp} {s : Shared} {h' : Heap} {tk : Nat}
    {kvs : List (Key × V)} {vs : List (Key × Value)} {acc : Array Value} {c : Nat} {p : Addr} {as : List Addr}
    (I : Inv X pins σ H s) (hz : kvs.length ≤ sizeLine) (kv : KV kvs vs) (hp : s.heap.objs.size ≤ p)
    (hk : ∀ b o, s.heap.get? b = some o → h'.get? b = some o)
    (hS : h'.get? p = some { cls := .type "list", dict := none, data := .seq acc c, slots := #[] })
    (hl : as.length = vs.length) (hG : PySem.W.KdxG (mixKind X.prog X.w) vs p h' as)
    (hacc : acc.toList = as.map Value.ref) :
    ∃ H' : Hp, Same H H' ∧ H p = none ∧ (∀ t ∈ as, H t = none) ∧ p ∉ as ∧ H' p = some (.lst (as.map V.ref)) ∧
      Paired (fun (t : Addr) (q : Key × V) => H' t = some (.tup [kV q.1, q.2])) as kvs ∧
      Inv X pins σ H' { s with heap := h', toks := tk } := by
  have lk : kvs.length = vs.length := Paired.length kv
  have hpn : p ∉ as := fun z => Nat.lt_irrefl _ (hG.above _ z)
  have nd : as.Nodup := List.Pairwise.imp (fun {a b} (h : a < b) => Nat.ne_of_lt h) hG.rise
  have new : ∀ t ∈ as, H t = none := fun t ht =>
    I.hok.fresh (Nat.le_trans hp (Nat.le_of_lt (hG.above t ht)))
  have newS : H p = none := I.hok.fresh hp
  let G : Hp := LiI.putT (upd H p (.lst (as.map V.ref))) as kvs
  have atP : Paired (fun (t : Addr) (q : Key × V) => G t = some (.tup [kV q.1, q.2])) as kvs :=
    LiI.putT_at as kvs (upd H p (.lst (as.map V.ref))) (by omega) nd
  have off : ∀ b, b ∉ as → b ≠ p → G b = H b := fun b h1 h2 =>
    (LiI.putT_off as kvs _ h1).trans (upd_ne h2)
  have low : ∀ b o, s.heap.get? b = some o → b ∉ as ∧ b ≠ p := fun b o e =>
    ⟨fun z => absurd (Heap.lt_size e) (Nat.not_lt.mpr (Nat.le_trans hp (Nat.le_of_lt (hG.above b z)))),
      Nat.ne_of_lt (Nat.lt_of_lt_of_le (Heap.lt_size e) hp)⟩
  have kp : ∀ b u, H b = some u → G b = some u := fun b u e => by
    rw [off b (fun z => by rw [new b z] at e; cases e) (fun z => by rw [z, newS] at e; cases e)]
    exact e
  have eS : G p = some (.lst (as.map V.ref)) := (LiI.putT_off as kvs _ hpn).trans upd_same
  refine ⟨G, kp, newS, new, hpn, eS, atP, ?_⟩
  refine I.call' (ch := []) rfl ⟨fun b o q _ _ _ => hk b o q, fun b o q _ _ _ => ⟨o.slots, hk b o q⟩,
    fun b o q n _ => ?_, fun b o q _ => ⟨o, hk b o q⟩, fun b xs q => kp b _ q, fun b o u q => kp b _ q,
    fun b ps q => ⟨#[], by rw [kp b _ q]; simp⟩⟩ (fun b u q => ?_) I.bare fun b z => by simp at z
  · obtain ⟨z1, z2⟩ := low b o q
    rw [off b z1 z2]
    exact n
  · by_cases hb : b ∈ as
    · obtain ⟨j, pk, e1, e2, e3⟩ := LiI.paired_ix atP hb
      rw [e3] at q
      cases q
      obtain ⟨key, k, x, f1, f2, f3⟩ := hG.pairs j b e1
      obtain ⟨qv, g1, g2, g3⟩ := LiI.paired_get kv e2
      rw [f1] at g1
      cases g1
      have rk : RelV (kV pk.1) key := by
        rw [g2]
        exact relV_key (show keyIs k key = true from f2)
      exact ⟨by show 2 ≤ sizeLine; decide, [key, x], .cons rk (.cons g3 .nil), ⟨_, f3, rfl, _, rfl⟩⟩
    · by_cases hb2 : b = p
      · subst hb2
        rw [eS] at q
        cases q
        refine ⟨by rw [List.length_map]; omega, acc.toList, c, by rw [hacc]; exact LiI.vals_refs as, ?_⟩
        rw [Array.toArray_toList]
        exact hS
      · rw [off b hb hb2] at q
        exact (I.hok b u q).stay (fun d v _ y => hk d v y) (fun d y => kp d _ y) fun d xs y => kp d _ y
/-- list(enumerate(e)): a new list of new pairs -/
def rLE (K : PySem.W.Frag) (x : V) (H : Hp) (Q : VK) : Prop := ∃ (a : Addr) (xs : List V), x = .ref a ∧ SqL K H a xs ∧
  ∀ (H' : Hp) (p : Addr) (ts : List Addr), Same H H' → H p = none → (∀ t ∈ ts, H t = none) → p ∉ ts →
    H' p = some (.lst (ts.map V.ref)) →
    Paired (fun (t : Addr) (q : Key × V) => H' t = some (.tup [kV q.1, q.2])) ts (enV 0 xs) → Q (.ref p) H'
def tLE (K : PySem.W.Frag) (te : TE) : TE := fun σ H Q => te σ H fun x H1 => rLE K x H1 Q
section
variable {X : Cx} {e : Expr} {te : TE} {p p2 pos pos2 : Pos}
theorem pe_listEnum (hc : X.calm = true) (hg : Gl X "list") (hm : X.mg "list" = none) (hg2 : Gl X "enumerate")
    (hm2 : X.mg "enumerate" = none) (he : PE X e te)
    (hs : starEach [e] X.env = (false, eval e X.env) :: starEach [] X.env := by rfl)
    (hs2 : starEach [.Call (.Name "enumerate" p2) [e] [] pos2] X.env =
      (false, eval (.Call (.Name "enumerate" p2) [e] [] pos2) X.env) :: starEach [] X.env := by rfl) :
    PE X (.Call (.Name "list" p) [.Call (.Name "enumerate" p2) [e] [] pos2] [] pos) (tLE X.K te) := by
  refine ⟨fun pins s σ H Q I h => ?_⟩
  refine Call_ (ld_blt I hg hm boot_list (PyProof.Rows.callWith_type1 (args_cons ?_ hs2) hs2))
  refine Call_ (ld_blt I hg2 hm2 boot_enumerate (PyProof.Rows.callWith_type1 (one_arg he I h (fun v s1 x H1 I1 rx q => ?_) hs) hs))
  obtain ⟨a, xs, rfl, hq, q⟩ := q
  obtain rfl : v = .ref a := rx
  obtain ⟨its, rv, pl, hz⟩ := I1.list hq
  have hlen := rv.length
  refine call_enumerate_list pl.isList fun h1 he1 hit1 hsz1 hk1 => ?_
  refine args_nil ?_
  have I2 : Inv X pins σ H1 { s1 with heap := h1 } := I1.kept (t' := s1.toks) hk1
  obtain ⟨ol, hol, rl⟩ := pl.isList
  have ll : a < s1.heap.objs.size := Heap.lt_size hol
  have n0 : H1 (s1.heap.objs.size + 1) = none := I1.hok.fresh (Nat.le_succ _)
  have n1 : H1 s1.heap.objs.size = none := I1.hok.fresh (Nat.le_refl _)
  refine en_call (s := { s1 with heap := h1 }) (items := its.toArray) (I2.ok.hd hc) he1 hit1 ⟨ol, hk1 _ _ hol, rl⟩
    (by exact Nat.ne_of_lt (Nat.lt_succ_of_lt ll)) (Nat.ne_of_lt ll) (Nat.succ_ne_self _) (by simp only [List.size_toArray]; omega)
    fun h2 tk acc c as k1 k2 k3 k4 k5 => ?_
  have eI : EnG X.prog X.w its.toArray h1.objs.size h2 as := k4
  obtain ⟨H', g1, g2, g3, g4, g5, g6, J⟩ := pairs_laid (tk := tk) (p := h1.objs.size) (kvs := enV 0 xs) (vs := enV 0 its) (as := as) I1
    (by rw [enV_len]; exact hz) (enV_kv xs its 0 rv) (by rw [hsz1]; omega)
    (fun b o e => k1 b o (Nat.ne_of_lt (Nat.lt_succ_of_lt (Heap.lt_size e))) (Nat.ne_of_lt (Heap.lt_size e)) (hk1 b o e))
    k2 (by rw [enV_len, k3]; simp) (by simpa using k4) k5
  exact ⟨.ref _, H', J, rfl, q H' _ as g1 g2 g3 g4 g5 g6⟩
end
end PB

namespace PB
open PySem PySem.Spec PyProof.Rows L2
/-! ### list(zip(xs, ys)): the tuples given out are all held -/
abbrev ZiHeld (h : Heap) (z TI TO : Addr) (a : Addr) (f : Bool) : Prop :=
  h.get? z = some { cls := .type "zip", dict := none, data := .fields #[rawInt a, .bool f, .bool false, .ref TI, .ref TO], slots := #[] }
section
variable {prog : Program} {w : World} {A : Around} {E : Value → Shared → Prop} {s : Shared}
theorem zi_free_held {z TI TO a : Addr} {f : Bool} {oa : Obj} {Q : Bool → Shared → Prop} (hz : ZiHeld s.heap z TI TO a f) (ha : s.heap.get? a = some oa)
    (hQ : ∀ h', ZiHeld h' z TI TO a true → Heap.SameBut z s.heap h' → Q false { s with heap := h' }) :
    wpAny (model prog w) A (Builtin.SmallTypes.ownedTupleIsFree (.ref z)) Q E s := by
  unfold Builtin.SmallTypes.ownedTupleIsFree
  refine wpAny_bind (wpAny_field hz rfl (x := rawInt a) rfl ?_)
  show wpAny _ _ (loadIfAlive ((a : Int).toNat) >>= _) _ _ _
  rw [Int.toNat_natCast]
  refine wpAny_bind (en_alive ha ?_)
  simp only [Option.isNone_some, Bool.false_eq_true, if_false]
  refine wpAny_bind (wpAny_field hz rfl (x := .bool f) rfl ?_)
  cases f with
  | true =>
    rw [if_neg (show ¬ ((Value.bool true != Value.bool true) = true) from Bool.false_ne_true)]
    exact wpAny_pure (hQ _ hz (Heap.SameBut.refl _ _))
  | false =>
    rw [if_pos (show (Value.bool false != Value.bool true) = true from rfl)]
    refine wpAny_bind (wpAny_setField_rec hz (by simp) fun h₅ he₅ hs₅ => ?_)
    exact wpAny_pure (hQ h₅ he₅ hs₅)
theorem zi_next_held {z TI TO i1 i2 l1 l2 a : Addr} {f : Bool} {oa : Obj} {k : Nat} {xs ys : Array Value} {x y : Value} {Q : Value → Shared → Prop} (D : ZipApart z TI TO i1 i2 l1 l2)
    (hz : ZiHeld s.heap z TI TO a f) (ha : s.heap.get? a = some oa) (haz : a ≠ z) (ha1 : a ≠ i1) (ha2 : a ≠ i2) (hTI : IsPair s.heap TI (.ref i1) (.ref i2))
    (h1 : s.heap.IsListIter i1 l1 k) (h2 : s.heap.IsListIter i2 l2 k) (hl1 : s.heap.IsList l1 xs) (hl2 : s.heap.IsList l2 ys) (hx : xs[k]? = some x) (hy : ys[k]? = some y)
    (hQ : ∀ h', ZiHeld h' z TI TO a true → h'.IsListIter i1 l1 (k + 1) → h'.IsListIter i2 l2 (k + 1) → IsPair h' s.heap.objs.size x y → h'.objs.size = s.heap.objs.size + 1 →
      (∀ c o, c ≠ z → c ≠ i1 → c ≠ i2 → s.heap.get? c = some o → h'.get? c = some o) → Q (.ref s.heap.objs.size) { s with heap := h' }) :
    wpAny (model prog w) A (Builtin.«zip.__next__» ⟨[.ref z], []⟩) (fun fin s' => ∃ v, fin = .done (.ret v) ∧ Q v s') E s := by
  show wpAny _ _ (field (.ref z) 2 >>= _) _ _ _
  refine wpAny_bind (wpAny_field hz rfl (x := .bool false) rfl ?_)
  show wpAny _ _ (field (.ref z) 3 >>= _) _ _ _
  refine wpAny_bind (wpAny_field hz rfl (x := .ref TI) rfl ?_)
  refine wpAny_bind (wpAny_seqItems hTI rfl ?_)
  show wpAny _ _ (Builtin.SmallTypes.ownedTupleIsFree (.ref z) >>= _) _ _ _
  refine wpAny_bind (zi_free_held hz ha fun h₁ hz₁ hs₁ => ?_)
  simp only [Bool.false_eq_true, if_false]
  refine wpAny_bind ?_
  rw [← Array.forIn_toList]
  simp only [List.forIn_cons, List.forIn_nil]
  refine wpAny_bind (wpAny_bind (wpAny_holding ?_))
  show wpAny _ _ (Builtin.SmallTypes.nextOf (.ref i1) >>= _) _ _ _
  refine wpAny_bind (wpAny_nextOf_list_item (h1.extBut hs₁.extBut D.i1z) (hl1.extBut hs₁.extBut D.l1z) hx fun h₂ h1₂ hs₂ => wpAny_pure ?_)
  refine wpAny_pure ?_
  refine wpAny_bind (wpAny_bind (wpAny_holding ?_))
  show wpAny _ _ (Builtin.SmallTypes.nextOf (.ref i2) >>= _) _ _ _
  refine wpAny_bind (wpAny_nextOf_list_item ((h2.extBut hs₁.extBut D.i2z).extBut hs₂.extBut D.i12.symm) ((hl2.extBut hs₁.extBut D.l2z).extBut hs₂.extBut D.l2i1) hy fun h₃ h2₃ hs₃ => wpAny_pure ?_)
  refine wpAny_pure (wpAny_pure ?_)
  show wpAny _ _ (newTuple [x, y] >>= _) _ _ _
  refine wpAny_bind (wpAny_newTuple ?_)
  have hsz : h₃.objs.size = s.heap.objs.size := by rw [hs₃.1, hs₂.1, hs₁.1]
  have hz₃ : ZiHeld h₃ z TI TO a true := hs₃.extBut _ _ D.i2z.symm (hs₂.extBut _ _ D.i1z.symm hz₁)
  have h1₃ : h₃.IsListIter i1 l1 (k + 1) := h1₂.extBut hs₃.extBut D.i12
  have hk₃ : ∀ c o, c ≠ z → c ≠ i1 → c ≠ i2 → s.heap.get? c = some o → h₃.get? c = some o := fun c o c1 c3 c4 e =>
    hs₃.extBut _ _ c4 (hs₂.extBut _ _ c3 (hs₁.extBut _ _ c1 e))
  refine wpAny_pure ⟨_, rfl, ?_⟩
  show Q (.ref h₃.objs.size) _
  have hT : IsPair (h₃.push { cls := .type "tuple", data := .seq #[x, y] }) h₃.objs.size x y := Heap.get?_push_size _ rfl
  rw [hsz] at hT ⊢
  exact hQ _ (Heap.get?_push_of_some _ hz₃) (h1₃.at fun o e => Heap.get?_push_of_some _ e) (h2₃.at fun o e => Heap.get?_push_of_some _ e) hT (by rw [Heap.size_push, hsz]) fun c o c1 c2 c3 e => Heap.get?_push_of_some _ (hk₃ c o c1 c2 c3 e)
theorem zi_next_held_end {z TI TO i1 i2 l1 l2 a : Addr} {f : Bool} {oa : Obj} {k : Nat} {xs : Array Value} {Q : Fin → Shared → Prop} (hh : A.handled = none) (D : ZipApart z TI TO i1 i2 l1 l2)
    (hz : ZiHeld s.heap z TI TO a f) (ha : s.heap.get? a = some oa) (hTI : IsPair s.heap TI (.ref i1) (.ref i2))
    (h1 : s.heap.IsListIter i1 l1 k) (hl1 : s.heap.IsList l1 xs) (hx : xs[k]? = none)
    (hE : ∀ h' e, (∀ c o, c ≠ z → c ≠ i1 → c ≠ i2 → s.heap.get? c = some o → h'.get? c = some o) → (∃ o, h'.get? e = some o ∧ o.cls = .type "StopIteration") → E (.ref e) { s with heap := h' }) :
    wpAny (model prog w) A (Builtin.«zip.__next__» ⟨[.ref z], []⟩) Q E s := by
  show wpAny _ _ (field (.ref z) 2 >>= _) _ _ _
  refine wpAny_bind (wpAny_field hz rfl (x := .bool false) rfl ?_)
  show wpAny _ _ (field (.ref z) 3 >>= _) _ _ _
  refine wpAny_bind (wpAny_field hz rfl (x := .ref TI) rfl ?_)
  refine wpAny_bind (wpAny_seqItems hTI rfl ?_)
  show wpAny _ _ (Builtin.SmallTypes.ownedTupleIsFree (.ref z) >>= _) _ _ _
  refine wpAny_bind (zi_free_held hz ha fun h₁ hz₁ hs₁ => ?_)
  simp only [Bool.false_eq_true, if_false]
  refine wpAny_bind ?_
  rw [← Array.forIn_toList]
  simp only [List.forIn_cons, List.forIn_nil]
  refine wpAny_bind (wpAny_bind (wpAny_holding ?_))
  show wpAny _ _ (Builtin.SmallTypes.nextOf (.ref i1) >>= _) _ _ _
  refine wpAny_bind (wpAny_nextOf_list_end hh (h1.extBut hs₁.extBut D.i1z) (hl1.extBut hs₁.extBut D.l1z) hx fun h₂ e hs₂ he => ?_)
  exact hE h₂ e (fun c o c1 c3 _ x => hs₂ _ _ c3 (hs₁.extBut _ _ c1 x)) he
theorem zi_pyNext_held {z TI TO i1 i2 l1 l2 a : Addr} {f : Bool} {oa : Obj} {k : Nat} {xs ys : Array Value} {x y : Value} {Q : Option Value → Shared → Prop} (D : ZipApart z TI TO i1 i2 l1 l2)
    (hz : ZiHeld s.heap z TI TO a f) (ha : s.heap.get? a = some oa) (haz : a ≠ z) (ha1 : a ≠ i1) (ha2 : a ≠ i2) (hTI : IsPair s.heap TI (.ref i1) (.ref i2))
    (h1 : s.heap.IsListIter i1 l1 k) (h2 : s.heap.IsListIter i2 l2 k) (hl1 : s.heap.IsList l1 xs) (hl2 : s.heap.IsList l2 ys) (hx : xs[k]? = some x) (hy : ys[k]? = some y)
    (hQ : ∀ h', ZiHeld h' z TI TO a true → h'.IsListIter i1 l1 (k + 1) → h'.IsListIter i2 l2 (k + 1) → IsPair h' s.heap.objs.size x y → h'.objs.size = s.heap.objs.size + 1 →
      (∀ c o, c ≠ z → c ≠ i1 → c ≠ i2 → s.heap.get? c = some o → h'.get? c = some o) → Q (some (.ref s.heap.objs.size)) { s with heap := h' }) :
    wpAny (model prog w) A (pyNext (.ref z)) Q E s := by
  have hT : s.TypeIs (.ref z) "zip" := ⟨_, hz, rfl⟩
  unfold pyNext
  exact wpAny_bind (wpAny_attempt (wpAny_callSpecial?_slot (name := Str.ofString "__next__") hT F.slot_zip_next
    (wpAny_call_entry F.slot_zip_next hT F.entry_zip_next
      (zi_next_held D hz ha haz ha1 ha2 hTI h1 h2 hl1 hl2 hx hy fun h' a1 a2 a3 a4 a5 a6 => wpAny_pure (hQ h' a1 a2 a3 a4 a5 a6)) (F.args_zip_next_1 _))))
theorem zi_pyNext_held_end {z TI TO i1 i2 l1 l2 a : Addr} {f : Bool} {oa : Obj} {k : Nat} {xs : Array Value} {Q : Option Value → Shared → Prop} (hh : A.handled = none) (D : ZipApart z TI TO i1 i2 l1 l2)
    (hz : ZiHeld s.heap z TI TO a f) (ha : s.heap.get? a = some oa) (hTI : IsPair s.heap TI (.ref i1) (.ref i2))
    (h1 : s.heap.IsListIter i1 l1 k) (hl1 : s.heap.IsList l1 xs) (hx : xs[k]? = none)
    (hQ : ∀ h', (∀ c o, c ≠ z → c ≠ i1 → c ≠ i2 → s.heap.get? c = some o → h'.get? c = some o) → Q none { s with heap := h' }) : wpAny (model prog w) A (pyNext (.ref z)) Q E s := by
  have hT : s.TypeIs (.ref z) "zip" := ⟨_, hz, rfl⟩
  unfold pyNext
  refine wpAny_bind (wpAny_attempt (wpAny_callSpecial?_slot (name := Str.ofString "__next__") hT F.slot_zip_next
    (wpAny_call_entry F.slot_zip_next hT F.entry_zip_next (zi_next_held_end hh D hz ha hTI h1 hl1 hx fun h' e hk he => ?_) (F.args_zip_next_1 _))))
  obtain ⟨o, ho, hc⟩ := he
  refine wpAny_bind (wpAny_isInstance (T := "StopIteration") (b := true) ⟨o, ho, hc⟩ isSubtype_stop ?_)
  exact wpAny_pure (hQ _ hk)
end
end PB

namespace PB
open PySem PySem.Spec PyProof.Rows L2
/-- whole numbers, each with a thing -/
abbrev zV {α : Type} (ns : List Int) (xs : List α) : List (Key × α) := List.zip (ns.map Sum.inl) xs
theorem zV_get {α : Type} {ns : List Int} {xs : List α} {j : Nat} {n : Int} {x : α} (h1 : ns[j]? = some n) (h2 : xs[j]? = some x) : (zV ns xs)[j]? = some (Sum.inl n, x) :=
  List.getElem?_zip_eq_some.mpr ⟨by rw [List.getElem?_map, h1]; rfl, h2⟩
theorem zV_kv : ∀ (ns : List Int) (xs : List V) (us : List Value), Vals xs us → KV (zV ns xs) (zV ns us)
  | [], _, _, _ => .nil
  | _ :: _, _, _, .nil => .nil
  | n :: ns, _, _, .cons r t => .cons ⟨rfl, r⟩ (zV_kv ns _ _ t)
def ZiSt (h : Heap) (z TI TO i1 i2 l1 l2 S : Addr) (i : Nat) : Prop := h.IsListIter i1 l1 i ∧ h.IsListIter i2 l2 i ∧ IsPair h TI (.ref i1) (.ref i2) ∧ (∃ a b, IsPair h TO a b) ∧
  (IsZip h z TI TO .none ∨ ∃ a f oa, ZiHeld h z TI TO a f ∧ h.get? a = some oa ∧ a ≠ z ∧ a ≠ i1 ∧ a ≠ i2 ∧ a ≠ S)
structure ZiOff (z TI TO i1 i2 l1 l2 S : Addr) : Prop where
  z : z < S
  ti : TI < S
  to : TO < S
  i1 : i1 < S
  i2 : i2 < S
  l1 : l1 ≠ S
  l2 : l2 ≠ S
theorem ZiSt.keep {h h' : Heap} {z TI TO i1 i2 l1 l2 S : Addr} {i : Nat} (O : ZiOff z TI TO i1 i2 l1 l2 S) (x : ZiSt h z TI TO i1 i2 l1 l2 S i)
    (hk : ∀ b o, b ≠ S → h.get? b = some o → h'.get? b = some o) : ZiSt h' z TI TO i1 i2 l1 l2 S i := by
  obtain ⟨x1, x2, x3, ⟨a, b, x4⟩, x⟩ := x
  refine ⟨x1.at fun o e => hk _ _ (Nat.ne_of_lt O.i1) e, x2.at fun o e => hk _ _ (Nat.ne_of_lt O.i2) e, hk _ _ (Nat.ne_of_lt O.ti) x3, ⟨a, b, hk _ _ (Nat.ne_of_lt O.to) x4⟩, ?_⟩
  rcases x with y | ⟨a, f, oa, y, z1, n1, n2, n3, n4⟩
  · exact .inl (hk _ _ (Nat.ne_of_lt O.z) y)
  · exact .inr ⟨a, f, oa, hk _ _ (Nat.ne_of_lt O.z) y, hk _ _ n4 z1, n1, n2, n3, n4⟩
section
variable {prog : Program} {w : World} {A : Around} {s : Shared} {R : Result → Shared → Prop} {xs ys : Array Value} {ns : List Int}
abbrev ZiG (prog : Program) (w : World) (ns : List Int) (ys : Array Value) (lo : Addr) (h : Heap) (as : List Addr) : Prop :=
  PySem.W.KdxG (mixKind prog w) (zV ns ys.toList) lo h as
theorem zi_loop {S z TI TO i1 i2 l1 l2 : Addr} (hh : A.handled = none) (D : ZipApart z TI TO i1 i2 l1 l2) (O : ZiOff z TI TO i1 i2 l1 l2 S) (hsz : xs.size = ys.size)
    (hint : ∀ (j : Nat) u, xs[j]? = some u → ∃ n t, ns[j]? = some n ∧ u = .int n t) (hn : xs.size ≤ sizeLine) (res : Value) {h₁ : Heap}
    (hR : ∀ h' acc c as, (∀ b o, b ≠ S → b ≠ z → b ≠ TO → b ≠ i1 → b ≠ i2 → h₁.get? b = some o → h'.get? b = some o) →
      h'.get? S = some { cls := .type "list", dict := none, data := .seq acc c, slots := #[] } →
      as.length = xs.size → ZiG prog w ns ys S h' as → acc.toList = as.map Value.ref →
      R (.ok (.ret res)) { s with heap := h' }) :
    ∀ (k i : Nat) (h : Heap) (c : Nat) (acc : Array Value) (as : List Addr), xs.size - i = k →
      i ≤ xs.size → ZiSt h z TI TO i1 i2 l1 l2 S i → h.IsList l1 xs → h.IsList l2 ys →
      (∀ b o, b ≠ S → b ≠ z → b ≠ TO → b ≠ i1 → b ≠ i2 → h₁.get? b = some o → h.get? b = some o) →
      h.get? S = some { cls := .type "list", dict := none, data := .seq acc c, slots := #[] } →
      acc.toList = as.map Value.ref → as.length = i → ZiG prog w ns ys S h as →
      codeAny (model prog w) A (.builtin "list.extend.loop" ⟨[.ref S, .ref z, res], []⟩) R { s with heap := h } := by
  have hne : S ≠ z := Nat.ne_of_gt O.z
  intro k
  induction k with
  | zero =>
    intro i h c acc as hk hi hst hl1 hl2 hkeep hS hacc hal hG
    have hin : i = xs.size := by omega
    refine codeAny_builtin PySem.F.entry_extend_loop ?_
    rw [Around.under_plainId PySem.F.plain_extend_loop _]
    show wpAny _ A.in1 (pyNext (.ref z) >>= _) _ _ _
    have hx : xs[i]? = none := Array.getElem?_eq_none (by omega)
    have fin : ∀ h' : Heap, (∀ c o, c ≠ z → c ≠ TO → c ≠ i1 → c ≠ i2 → h.get? c = some o → h'.get? c = some o) → R (.ok (.ret res)) { s with heap := h' } := fun h' he => by
      refine hR h' acc c as (fun b o h1 h2 h3 h4 h5 e => he b o h2 h3 h4 h5 (hkeep b o h1 h2 h3 h4 h5 e)) (he S _ hne (Nat.ne_of_gt O.to) (Nat.ne_of_gt O.i1) (Nat.ne_of_gt O.i2) hS) (by omega)
        ⟨hG.rise, hG.above, fun j a hj => ?_⟩ hacc
      obtain ⟨key, kk, x, e1, e2, e3⟩ := hG.pairs j a hj
      have := hG.above a (List.mem_of_getElem? hj)
      exact ⟨key, kk, x, e1, e2, he a _ (Nat.ne_of_gt (Nat.lt_trans O.z this)) (Nat.ne_of_gt (Nat.lt_trans O.to this)) (Nat.ne_of_gt (Nat.lt_trans O.i1 this)) (Nat.ne_of_gt (Nat.lt_trans O.i2 this)) e3⟩
    obtain ⟨x1, x2, x3, ⟨a, b, x4⟩, hz⟩ := hst
    rcases hz with hz | ⟨a, f, oa, hz, ha, n1, n2, n3, n4⟩
    · refine wpAny_bind (wpAny_pyNext_zip_end (s := { s with heap := h }) (A := A.in1) hh D hz x3 x4 x1 x2 hl1 hl2 (.inl hx) fun h' e => ?_)
      exact wpAny_pure (fin h' e)
    · refine wpAny_bind (zi_pyNext_held_end (s := { s with heap := h }) (A := A.in1) hh D hz ha x3 x1 hl1 hx fun h' e => ?_)
      exact wpAny_pure (fin h' fun c o c1 _ c3 c4 => e c o c1 c3 c4)
  | succ k ih =>
    intro i h c acc as hk hi hst hl1 hl2 hkeep hS hacc hal hG
    have hlt : i < xs.size := by omega
    have hx : xs[i]? = some xs[i] := Array.getElem?_eq_getElem hlt
    have hy : ys[i]? = some (ys[i]'(by omega)) := Array.getElem?_eq_getElem (by omega)
    generalize xs[i] = x at hx
    generalize ys[i]'(by omega) = y at hy
    have hsz2 : acc.size = i := by rw [← Array.length_toList, hacc, List.length_map, hal]
    have hSl : S < h.objs.size := Heap.lt_size hS
    obtain ⟨n, t, hn1, hxe⟩ := hint i x hx
    refine codeAny_builtin PySem.F.entry_extend_loop ?_
    rw [Around.under_plainId PySem.F.plain_extend_loop _]
    show wpAny _ A.in1 (pyNext (.ref z) >>= _) _ _ _
    have fin : ∀ h' : Heap, ZiSt h' z TI TO i1 i2 l1 l2 S (i + 1) → IsPair h' h.objs.size x y →
        h'.objs.size = h.objs.size + 1 → (∀ c o, c ≠ z → c ≠ TO → c ≠ i1 → c ≠ i2 → h.get? c = some o → h'.get? c = some o) →
        wpAny (model prog w) A.in1 (updateSeq S (·.push (Value.ref h.objs.size)) >>= fun _ =>
          again (.builtin "list.extend.loop" ⟨[.ref S, .ref z, res], []⟩))
          (fun fin s' => match fin with | .done f => R (.ok f) s' | .again c' => c'.quiet = true ∧ codeAny (model prog w) A c' R s')
          (fun e s' => R (.error e) s') { s with heap := h' } := fun h' hst' ht hz hkp => by
      have hS' := hkp S _ hne (Nat.ne_of_gt O.to) (Nat.ne_of_gt O.i1) (Nat.ne_of_gt O.i2) hS
      have up : ∀ b o, b ≠ S → h'.get? b = some o → (h'.update S (Obj.mapSeq (·.push (Value.ref h.objs.size)))).get? b = some o :=
        fun b o hb e => (Heap.get?_update_other _ _ (Ne.symm hb)).trans e
      have hl1' : h'.IsList l1 xs := hl1.at fun o e => hkp l1 o D.l1z D.l1TO D.l1i1 D.l1i2 e
      have hl2' : h'.IsList l2 ys := hl2.at fun o e => hkp l2 o D.l2z D.l2TO D.l2i1 D.l2i2 e
      refine wpAny_bind (wpAny_updateSeq hS' rfl (wpAny_pure ⟨plainId_quiet PySem.F.plain_extend_loop _,
        ih (i + 1) _ _ (acc.push (Value.ref h.objs.size)) (as ++ [h.objs.size]) (by omega) hlt
          (hst'.keep O up) (hl1'.at fun o e => up l1 o O.l1 e) (hl2'.at fun o e => up l2 o O.l2 e)
          (fun b o h1 h2 h3 h4 h5 e => up b o h1 (hkp b o h2 h3 h4 h5 (hkeep b o h1 h2 h3 h4 h5 e))) (Heap.get?_update_self _ hS' rfl)
          (by rw [Array.toList_push, hacc, List.map_append]; rfl) (by rw [List.length_append, hal]; rfl) ⟨?_, ?_, ?_⟩⟩) ?_)
      · refine List.pairwise_append.mpr ⟨hG.rise, List.pairwise_singleton _ _, fun a ha b hb => ?_⟩
        rw [List.mem_singleton.mp hb]
        exact hG.there ha
      · intro a ha
        rcases List.mem_append.mp ha with ha | ha
        · exact hG.above a ha
        · rw [List.mem_singleton.mp ha]
          exact hSl
      · intro j b hj
        rcases Nat.lt_trichotomy j as.length with h1 | h1 | h1
        · rw [List.getElem?_append_left h1] at hj
          obtain ⟨key', k', x', e1, e2, e3⟩ := hG.pairs j b hj
          have hb := hG.above b (List.mem_of_getElem? hj)
          exact ⟨key', k', x', e1, e2, up b _ (Nat.ne_of_gt hb) (hkp b _ (Nat.ne_of_gt (Nat.lt_trans O.z hb)) (Nat.ne_of_gt (Nat.lt_trans O.to hb))
            (Nat.ne_of_gt (Nat.lt_trans O.i1 hb)) (Nat.ne_of_gt (Nat.lt_trans O.i2 hb)) e3)⟩
        · subst h1
          have hb : h.objs.size = b := by simpa using hj
          subst hb
          subst hxe
          refine ⟨.int n t, Sum.inl n, y, ?_, mixKind_int prog w _ _, up _ _ (Nat.ne_of_gt hSl) ht⟩
          refine zV_get (by rw [hal]; exact hn1) ?_
          rw [Array.getElem?_toList, hal]
          exact hy
        · have hnone : (as ++ [h.objs.size])[j]? = none := List.getElem?_eq_none (by rw [List.length_append, List.length_singleton]; omega)
          rw [hnone] at hj
          cases hj
      · rw [hsz2]
        omega
    obtain ⟨x1, x2, x3, ⟨a, b, x4⟩, hz⟩ := hst
    have lz : ∀ {b : Addr} {o : Obj}, h.get? b = some o → h.objs.size ≠ b := fun e => Nat.ne_of_gt (Heap.lt_size e)
    have li1 : h.objs.size ≠ i1 := by obtain ⟨o, ho, _⟩ := x1; exact lz ho
    have li2 : h.objs.size ≠ i2 := by obtain ⟨o, ho, _⟩ := x2; exact lz ho
    rcases hz with hz | ⟨a', f, oa, hz, ha, n1, n2, n3, n4⟩
    · refine wpAny_bind (wpAny_pyNext_zip_item (s := { s with heap := h }) (A := A.in1) D hz x3 x4 x1 x2 hl1 hl2 hx hy fun h' g1 g2 g3 g4 g5 g6 g7 => ?_)
      exact fin h' ⟨g3, g4, g7 _ _ D.TIz D.TITO D.TIi1 D.TIi2 x3, ⟨_, _, g2⟩, .inr ⟨h.objs.size, false, _, g1, g5, lz hz, li1, li2, Nat.ne_of_gt hSl⟩⟩ g5 g6 g7
    · refine wpAny_bind (zi_pyNext_held (s := { s with heap := h }) (A := A.in1) D hz ha n1 n2 n3 x3 x1 x2 hl1 hl2 hx hy fun h' g1 g2 g3 g4 g5 g6 => ?_)
      exact fin h' ⟨g2, g3, g6 _ _ D.TIz D.TIi1 D.TIi2 x3, ⟨_, _, g6 _ _ D.TOz D.TOi1 D.TOi2 x4⟩, .inr ⟨a', true, oa, g1, g6 a' _ n1 n2 n3 ha, n1, n2, n3, n4⟩⟩ g4 g5 fun c o c1 _ c3 c4 => g6 c o c1 c3 c4
theorem zip_no_len : typeLookup (.type "zip") "__len__" = pure none := by
  rw [typeLookup_type, builtinLookup_eq_fast]
  kernel_rfl
theorem zip_no_hint : typeLookup (.type "zip") "__length_hint__" = pure none := by
  rw [typeLookup_type, builtinLookup_eq_fast]
  kernel_rfl
/-- what zip has made -/
def ZiNew (h : Heap) (z TI TO i1 i2 l1 l2 : Addr) : Prop := IsZip h z TI TO .none ∧ IsPair h TI (.ref i1) (.ref i2) ∧ IsPair h TO .none .none ∧ h.IsListIter i1 l1 0 ∧ h.IsListIter i2 l2 0
theorem ZiNew.up {h h' : Heap} {z TI TO i1 i2 l1 l2 : Addr} (x : ZiNew h z TI TO i1 i2 l1 l2) (k : ∀ b o, (b = z ∨ b = TI ∨ b = TO ∨ b = i1 ∨ b = i2) → h.get? b = some o → h'.get? b = some o) : ZiNew h' z TI TO i1 i2 l1 l2 :=
  ⟨k _ _ (.inl rfl) x.1, k _ _ (.inr (.inl rfl)) x.2.1, k _ _ (.inr (.inr (.inl rfl))) x.2.2.1, x.2.2.2.1.at fun o e => k _ o (.inr (.inr (.inr (.inl rfl)))) e, x.2.2.2.2.at fun o e => k _ o (.inr (.inr (.inr (.inr rfl)))) e⟩
theorem zi_extend {z TI TO i1 i2 l1 l2 : Addr} (hh : A.handled = none) (D : ZipApart z TI TO i1 i2 l1 l2) (Z : ZiNew s.heap z TI TO i1 i2 l1 l2) (hl1 : s.heap.IsList l1 xs) (hl2 : s.heap.IsList l2 ys)
    (S : Addr) (O : ZiOff z TI TO i1 i2 l1 l2 S) (hsz : xs.size = ys.size) (hint : ∀ (j : Nat) u, xs[j]? = some u → ∃ n t, ns[j]? = some n ∧ u = .int n t) (hn : xs.size ≤ sizeLine) (res : Value) (c₀ : Nat)
    (hS : s.heap.get? S = some { cls := .type "list", data := .seq #[] c₀ })
    (hR : ∀ h' acc c as, (∀ b o, b ≠ S → b ≠ z → b ≠ TO → b ≠ i1 → b ≠ i2 → s.heap.get? b = some o → h'.get? b = some o) →
      h'.get? S = some { cls := .type "list", dict := none, data := .seq acc c, slots := #[] } →
      as.length = xs.size → ZiG prog w ns ys S h' as → acc.toList = as.map Value.ref →
      R (.ok (.ret res)) { s with heap := h' }) :
    wpAny (model prog w) A.in1 (Builtin.List.listExtendWith (.ref S) (.ref z) res)
      (fun fin s' => match fin with | .done f => R (.ok f) s' | .again c' => c'.quiet = true ∧ codeAny (model prog w) A c' R s')
      (fun e s' => R (.error e) s') s := by
  have hSne : S ≠ z := Nat.ne_of_gt O.z
  have hT : s.TypeIs (.ref z) "zip" := ⟨_, Z.1, rfl⟩
  unfold Builtin.List.listExtendWith
  refine wpAny_bind (wpAny_typeOf hT ?_)
  have h1 : Builtin.List.listSameRef (.ref S) (.ref z) = false := by simp [Builtin.List.listSameRef, hSne]
  have h2 : (Value.type "zip" == Value.type "list") = false := by decide
  have h3 : (Value.type "zip" == Value.type "tuple") = false := by decide
  simp only [h1, h2, h3, Bool.or_false, Bool.false_eq_true, if_false]
  refine wpAny_bind (wpAny_pyIter_zip Z.1 ?_)
  refine wpAny_bind (wpAny_holding ?_)
  unfold Builtin.List.listLengthHint
  refine wpAny_bind (wpAny_specialOf hT zip_no_len ?_)
  show wpAny _ A.in1 (specialOf (Value.ref z) (Str.ofString "__length_hint__") >>= _) _ _ _
  refine wpAny_bind (wpAny_specialOf hT zip_no_hint ?_)
  refine wpAny_pure ?_
  show wpAny _ A.in1 (rule "list.extend.makes-room" >>= fun _ =>
    Builtin.List.listTouch (.ref S) >>= fun _ =>
    again (.builtin "list.extend.loop" ⟨[.ref S, .ref z, res], []⟩)) _ _ _
  refine wpAny_bind (wpAny_rule ?_)
  refine wpAny_bind ?_
  show wpAny _ A.in1 (updateSeq S (·.push .none) >>= fun _ => updateSeq S (·.pop)) _ _ _
  refine wpAny_bind (wpAny_updateSeq hS rfl ?_)
  have hS₂ := Heap.get?_update_self (Obj.mapSeq (·.push Value.none)) hS rfl
  refine wpAny_updateSeq (hz := by seq_fits) hS₂ rfl ?_
  have hS₃ := Heap.get?_update_self (Obj.mapSeq (·.pop)) hS₂ rfl
  have oth : ∀ b o, b ≠ S → s.heap.get? b = some o →
      ((s.heap.update S (Obj.mapSeq (·.push Value.none))).update S (Obj.mapSeq (·.pop))).get? b = some o :=
    fun b o hb e => (Heap.get?_update_other _ _ (Ne.symm hb)).trans
      ((Heap.get?_update_other _ _ (Ne.symm hb)).trans e)
  have Z2 := Z.up fun b o hb e => oth b o (by rcases hb with rfl | rfl | rfl | rfl | rfl; exact Nat.ne_of_lt O.z; exact Nat.ne_of_lt O.ti; exact Nat.ne_of_lt O.to; exact Nat.ne_of_lt O.i1; exact Nat.ne_of_lt O.i2) e
  obtain ⟨q1, q2, q3, q4, q5⟩ := Z2
  refine wpAny_pure ⟨plainId_quiet PySem.F.plain_extend_loop _, zi_loop (s := s) (h₁ := s.heap) hh D O hsz hint hn res
    (fun h' acc c as k1 k2 k3 k4 k5 => hR h' acc c as k1 k2 k3 k4 k5)
    xs.size 0 _ _ #[] [] (Nat.sub_zero _) (Nat.zero_le _)
    ⟨q4, q5, q2, ⟨_, _, q3⟩, .inl q1⟩ (hl1.at fun o e => oth _ _ O.l1 e) (hl2.at fun o e => oth _ _ O.l2 e)
    (fun b o h1 _ _ _ _ e => oth b o h1 e) hS₃ rfl rfl ⟨List.Pairwise.nil, (fun _ ha => nomatch ha), (fun j a hj => by simp at hj)⟩⟩
theorem zi_init {z TI TO i1 i2 l1 l2 : Addr} (hh : A.handled = none) (D : ZipApart z TI TO i1 i2 l1 l2) (Z : ZiNew s.heap z TI TO i1 i2 l1 l2) (hl1 : s.heap.IsList l1 xs) (hl2 : s.heap.IsList l2 ys)
    (S : Addr) (O : ZiOff z TI TO i1 i2 l1 l2 S) (hsz : xs.size = ys.size) (hint : ∀ (j : Nat) u, xs[j]? = some u → ∃ n t, ns[j]? = some n ∧ u = .int n t) (hn : xs.size ≤ sizeLine)
    (hS : s.heap.get? S = some { cls := .type "list", data := .seq #[] })
    (hR : ∀ h' acc c as, (∀ b o, b ≠ S → b ≠ z → b ≠ TO → b ≠ i1 → b ≠ i2 → s.heap.get? b = some o → h'.get? b = some o) →
      h'.get? S = some { cls := .type "list", dict := none, data := .seq acc c, slots := #[] } →
      as.length = xs.size → ZiG prog w ns ys S h' as → acc.toList = as.map Value.ref →
      R (.ok (.ret .none)) { s with heap := h' }) :
    wpAny (model prog w) A.in1 (Builtin.«list.__init__» ⟨[.ref S, .ref z], []⟩)
      (fun fin s' => match fin with | .done f => R (.ok f) s' | .again c' => c'.quiet = true ∧ codeAny (model prog w) A c' R s')
      (fun e s' => R (.error e) s') s := by
  show wpAny _ _ (do let old ← Builtin.List.listItems (.ref S); Builtin.List.listUpdate (.ref S) (fun _ => #[]); letGo old.toList.reverse; Builtin.List.listExtendWith (.ref S) (.ref z) .none) _ _ s
  refine wpAny_bind ?_
  unfold Builtin.List.listItems
  refine wpAny_bind (wpAny_seqItems hS rfl (wpAny_pure ?_))
  show wpAny _ _ (updateSeq S (fun _ => #[]) >>= fun _ => letGo (#[] : Array Value).toList.reverse >>= fun _ => Builtin.List.listExtendWith (.ref S) (.ref z) .none) _ _ s
  refine wpAny_bind (wpAny_updateSeq hS rfl ?_)
  have hS₂ := Heap.get?_update_self (Obj.mapSeq (fun _ => (#[] : Array Value))) hS rfl
  have oth : ∀ b o, b ≠ S → s.heap.get? b = some o → (s.heap.update S (Obj.mapSeq (fun _ => (#[] : Array Value)))).get? b = some o :=
    fun b o hb e => (Heap.get?_update_other _ _ (Ne.symm hb)).trans e
  refine wpAny_bind (wpAny_letGo ?_)
  have Z2 := Z.up fun b o hb e => oth b o (by rcases hb with rfl | rfl | rfl | rfl | rfl; exact Nat.ne_of_lt O.z; exact Nat.ne_of_lt O.ti; exact Nat.ne_of_lt O.to; exact Nat.ne_of_lt O.i1; exact Nat.ne_of_lt O.i2) e
  refine zi_extend hh D Z2 (hl1.at fun o e => oth _ _ O.l1 e) (hl2.at fun o e => oth _ _ O.l2 e) S O hsz hint hn .none _ hS₂
    fun h' acc c as k1 k2 k3 k4 k5 => hR h' acc c as (fun b o n1 n2 n3 n4 n5 e => k1 b o n1 n2 n3 n4 n5 (oth b o n1 e)) k2 k3 k4 k5
theorem zi_call {Q : Value → Shared → Prop} {E : Value → Shared → Prop} {z TI TO i1 i2 l1 l2 : Addr} (hh : A.handled = none) (D : ZipApart z TI TO i1 i2 l1 l2) (Z : ZiNew s.heap z TI TO i1 i2 l1 l2)
    (hl1 : s.heap.IsList l1 xs) (hl2 : s.heap.IsList l2 ys) (hsz : xs.size = ys.size) (hint : ∀ (j : Nat) u, xs[j]? = some u → ∃ n t, ns[j]? = some n ∧ u = .int n t) (hn : xs.size ≤ sizeLine)
    (hQ : ∀ h' acc c as, (∀ b o, b ≠ z → b ≠ TO → b ≠ i1 → b ≠ i2 → s.heap.get? b = some o → h'.get? b = some o) →
      h'.get? s.heap.objs.size = some { cls := .type "list", dict := none, data := .seq acc c, slots := #[] } →
      as.length = xs.size → ZiG prog w ns ys s.heap.objs.size h' as → acc.toList = as.map Value.ref →
      Q (.ref s.heap.objs.size) { s with heap := h' }) :
    wpAny (model prog w) A (call (.type "list") [.ref z]) Q E s := by
  refine callType_codes (Q₁ := fun obj s₁ => obj = .ref s.heap.objs.size ∧ s₁ = { s with heap := s.heap.push { cls := .type "list", data := .seq #[] } })
    PySem.F.called_list (PySem.F.typeCall_list_1 _) PySem.F.entry_list_init (code_list_new _ ⟨rfl, rfl⟩) fun obj s₁ h₁ => ?_
  obtain ⟨rfl, rfl⟩ := h₁
  have hS : (s.heap.push { cls := .type "list", data := .seq #[] }).get? s.heap.objs.size = some { cls := .type "list", data := .seq #[] } := Heap.get?_push_size _ rfl
  have L : ∀ {b : Addr} {o : Obj}, s.heap.get? b = some o → b < s.heap.objs.size := fun e => Heap.lt_size e
  have O : ZiOff z TI TO i1 i2 l1 l2 s.heap.objs.size := ⟨L Z.1, L Z.2.1, L Z.2.2.1, by obtain ⟨o, ho, _⟩ := Z.2.2.2.1; exact L ho, by obtain ⟨o, ho, _⟩ := Z.2.2.2.2; exact L ho,
    by obtain ⟨o, ho, _⟩ := id hl1; exact Nat.ne_of_lt (L ho), by obtain ⟨o, ho, _⟩ := id hl2; exact Nat.ne_of_lt (L ho)⟩
  refine ⟨⟨_, hS, rfl⟩, PySem.F.args_list_init_2 _ _, zi_init (A := A.in1) hh D (Z.up fun b o _ e => Heap.get?_push_of_some _ e) (hl1.at fun o e => Heap.get?_push_of_some _ e) (hl2.at fun o e => Heap.get?_push_of_some _ e) _ O hsz hint hn hS fun h' acc c as k1 k2 k3 k4 k5 => ?_⟩
  exact ⟨rfl, hQ h' acc c as (fun b o n1 n2 n3 n4 e => k1 b o (Nat.ne_of_lt (L e)) n1 n2 n3 n4 (Heap.get?_push_of_some _ e)) k2 k3 k4 k5⟩
end
/-- list(zip(e, e2)) of as many whole numbers as things: a new list of new pairs -/
def rLZ (K : PySem.W.Frag) (x y : V) (H : Hp) (Q : VK) : Prop := ∃ (a b : Addr) (ns : List Int) (ys : List V), x = .ref a ∧ y = .ref b ∧ SqL K H a (ns.map V.int) ∧ SqL K H b ys ∧ ns.length = ys.length ∧
  ∀ (H' : Hp) (p : Addr) (ts : List Addr), Same H H' → H p = none → (∀ t ∈ ts, H t = none) → p ∉ ts →
    H' p = some (.lst (ts.map V.ref)) →
    Paired (fun (t : Addr) (q : Key × V) => H' t = some (.tup [kV q.1, q.2])) ts (zV ns ys) → Q (.ref p) H'
def tLZ (K : PySem.W.Frag) (ta : TA) : TE := fun σ H Q => ta σ H fun vs H1 => ∃ x y, vs = [x, y] ∧ rLZ K x y H1 Q
theorem zvals_ints : ∀ {ns : List Int} {us : List Value}, Vals (ns.map V.int) us → ∀ (j : Nat) u, us[j]? = some u → ∃ n t, ns[j]? = some n ∧ u = .int n t
  | [], _, .nil, j, u, h => by simp at h
  | n :: ns, _, .cons r t, 0, u, h => by
    obtain ⟨k, e⟩ := r
    cases h
    exact ⟨n, k, rfl, e⟩
  | n :: ns, _, .cons r t, j + 1, u, h => by
    obtain ⟨m, k, e1, e2⟩ := zvals_ints t j u (by simpa using h)
    exact ⟨m, k, by simpa using e1, e2⟩
section
variable {X : Cx} {e e2 : Expr} {ta : TA} {p p2 pos pos2 : Pos}
theorem pe_listZip (hc : X.calm = true) (hg : Gl X "list") (hm : X.mg "list" = none) (hg2 : Gl X "zip")
    (hm2 : X.mg "zip" = none) (ha : PA X [e, e2] ta)
    (hs : starEach [e, e2] X.env = (false, eval e X.env) :: starEach [e2] X.env := by rfl) (hpl : (backTo pos2 (starEach [e2] X.env)).any (·.1) = false := by rfl)
    (hs2 : starEach [.Call (.Name "zip" p2) [e, e2] [] pos2] X.env =
      (false, eval (.Call (.Name "zip" p2) [e, e2] [] pos2) X.env) :: starEach [] X.env := by rfl) :
    PE X (.Call (.Name "list" p) [.Call (.Name "zip" p2) [e, e2] [] pos2] [] pos) (tLZ X.K ta) := by
  refine ⟨fun pins s σ H Q I h => ?_⟩
  refine Call_ (ld_blt I hg hm boot_list (PyProof.Rows.callWith_type1 (args_cons ?_ hs2) hs2))
  refine Call_ (ld_blt I hg2 hm2 PyProof.Rows.boot_zip (PyProof.Rows.callWith_type1 (thn (ha.run pos2 pins s σ H _ I h) fun us s1 ⟨vs, H1, I1, r1, q1⟩ => ?_) hs hpl))
  obtain ⟨x, y, ex, a, b, ns, ys, rfl, rfl, hqx, hqy, hlen, q⟩ := q1
  subst ex
  cases r1 with
  | cons r rr =>
    cases rr with
    | cons r' rr =>
      cases rr
      cases r
      cases r'
      obtain ⟨its, rv, p1, hz1⟩ := I1.list hqx
      obtain ⟨its2, rv2, p2, hz2⟩ := I1.list hqy
      refine call_zip_2 p1.isList p2.isList fun h1 hz hTI hTO hi1 hi2 hsz1 hk1 => ?_
      refine args_nil ?_
      have I2 : Inv X pins σ H1 { s1 with heap := h1 } := I1.kept (t' := s1.toks) hk1
      obtain ⟨o1, ho1, rl1⟩ := p1.isList
      obtain ⟨o2, ho2, rl2⟩ := p2.isList
      have ll1 : a < s1.heap.objs.size := Heap.lt_size ho1
      have ll2 : b < s1.heap.objs.size := Heap.lt_size ho2
      have len1 := rv.length
      have len2 := rv2.length
      rw [List.length_map] at len1
      have D : ZipApart (s1.heap.objs.size + 4) (s1.heap.objs.size + 2) (s1.heap.objs.size + 3) s1.heap.objs.size (s1.heap.objs.size + 1) a b := PySem.W.ktu_apart s1.heap.objs.size a b p1.lt p2.lt
      refine zi_call (s := { s1 with heap := h1 }) (xs := its.toArray) (ys := its2.toArray) (ns := ns) (I2.ok.hd hc) D ⟨hz, hTI, hTO, hi1, hi2⟩ ⟨o1, hk1 _ _ ho1, rl1⟩ ⟨o2, hk1 _ _ ho2, rl2⟩
        (by simp only [List.size_toArray]; omega) (fun j u hu => zvals_ints rv j u (by simpa using hu)) (by simp only [List.size_toArray]; rw [← len1]; rw [List.length_map] at hz1; exact hz1)
        fun h2 acc c as k1 k2 k3 k4 k5 => ?_
      have eI : ZiG X.prog X.w ns its2.toArray h1.objs.size h2 as := k4
      obtain ⟨H', g1, g2, g3, g4, g5, g6, J⟩ := pairs_laid (tk := s1.toks) (p := h1.objs.size) (kvs := zV ns ys) (vs := zV ns its2) (as := as) I1
        (Nat.le_trans (by rw [List.length_zip, List.length_map]; exact Nat.min_le_left _ _) (by rw [List.length_map] at hz1; exact hz1)) (zV_kv ns ys its2 rv2) (by rw [hsz1]; exact Nat.le_add_right _ _)
        (fun d o e => by
          have hd := Heap.lt_size e
          exact k1 d o (Nat.ne_of_lt (Nat.lt_of_lt_of_le hd (Nat.le_add_right _ _))) (Nat.ne_of_lt (Nat.lt_of_lt_of_le hd (Nat.le_add_right _ _))) (Nat.ne_of_lt hd) (Nat.ne_of_lt (Nat.lt_of_lt_of_le hd (Nat.le_add_right _ _))) (hk1 d o e))
        k2 (by rw [k3, List.length_zip, List.length_map]; simp only [List.size_toArray]; omega) (by simpa using k4) k5
      exact ⟨.ref _, H', J, rfl, q H' _ as g1 g2 g3 g4 g5 g6⟩
end
end PB

namespace PB
open PySem PySem.Spec PyProof.Rows L2

/-! ### what is known of the heap: B stands, and beside it the objects of the list L -/
structure Tr (B : Hp) (L : List (Addr × HO)) (H : Hp) : Prop where
  base : Same B H
  at_ : ∀ p ∈ L, H p.1 = some p.2
  off : ∀ p ∈ L, B p.1 = none
  nd : (L.map (·.1)).Nodup
section
variable {B B' H H' : Hp} {L : List (Addr × HO)} {a b p : Addr} {o o' u : HO}
theorem Tr.start (H : Hp) : Tr H [] H := ⟨Same.refl H, (fun _ h => nomatch h), (fun _ h => nomatch h), List.nodup_nil⟩
theorem Tr.fz (T : Tr B L H) (h : B a = some o) : H a = some o := T.base a o h
theorem Tr.get (T : Tr B L H) (i : Nat) (h : L[i]? = some (a, o)) : H a = some o := T.at_ _ (List.mem_of_getElem? h)
theorem Tr.ne (T : Tr B L H) (h : (a, o) ∈ L) (h2 : B b = some u) : b ≠ a := fun e => by
  have z := T.off _ h
  rw [← e] at z
  rw [h2] at z
  cases z
theorem Tr.new (T : Tr B L H) (hp : H p = none) : Tr B ((p, o) :: L) (upd H p o) := by
  have hB : B p = none := T.base.free hp
  have nm : ∀ q ∈ L, q.1 ≠ p := fun q hq e => by
    have z := T.at_ q hq
    rw [e, hp] at z
    cases z
  refine ⟨fun c v e => ?_, fun q hq => ?_, fun q hq => ?_, ?_⟩
  · rw [upd_ne (ne_of_none e hB)]
    exact T.base c v e
  · rcases List.mem_cons.mp hq with rfl | hq
    · exact upd_same
    · rw [upd_ne (nm q hq)]
      exact T.at_ q hq
  · rcases List.mem_cons.mp hq with rfl | hq
    · exact hB
    · exact T.off q hq
  · refine List.nodup_cons.mpr ⟨fun hm => ?_, T.nd⟩
    obtain ⟨q, hq, e⟩ := List.mem_map.mp hm
    exact nm q hq e
theorem Tr.same (T : Tr B L H) (s : Same H H') : Tr B L H' :=
  ⟨T.base.trans s, fun q hq => s _ _ (T.at_ q hq), T.off, T.nd⟩
theorem Tr.add (T : Tr B L H) (s : Same H H') (hp : H p = none) (e : H' p = some o) : Tr B ((p, o) :: L) H' := by
  have T2 := T.new (o := o) hp
  refine ⟨T.base.trans s, fun q hq => ?_, T2.off, T2.nd⟩
  rcases List.mem_cons.mp hq with rfl | hq
  · exact e
  · exact s _ _ (T.at_ q hq)
/-- all but the objects at as stand -/
def But (as : List Addr) (H H' : Hp) : Prop := ∀ b o, b ∉ as → H b = some o → H' b = some o
theorem But.same {as : List Addr} (s : Same H H') : But as H H' := fun b o _ e => s b o e
theorem But.refl {as : List Addr} : But as H H := fun _ _ _ e => e
theorem But.trans {as : List Addr} {H2 : Hp} (s : But as H H') (t : But as H' H2) : But as H H2 := fun b o n e => t b o n (s b o n e)
theorem But.upd (a : Addr) (o : HO) : But [a] H (L2.upd H a o) := fun b u n e => by
  rw [upd_ne (fun z => n (by rw [z]; exact List.mem_cons_self))]
  exact e
theorem setMem : ∀ (L : List (Addr × HO)) (i : Nat) (q : Addr × HO), (L.map (·.1)).Nodup → L[i]? = some (a, o) → q ∈ L.set i (a, o') →
    q = (a, o') ∨ (q ∈ L ∧ q.1 ≠ a)
  | [], _, _, _, h, _ => by cases h
  | x :: L, 0, q, nd, h, hq => by
    have e : x = (a, o) := Option.some.inj h
    subst e
    rcases List.mem_cons.mp hq with e | hq
    · exact .inl e
    · refine .inr ⟨List.mem_cons_of_mem _ hq, fun e => (List.nodup_cons.mp nd).1 ?_⟩
      show a ∈ L.map (·.1)
      rw [← e]
      exact List.mem_map_of_mem hq
  | x :: L, i + 1, q, nd, h, hq => by
    rcases List.mem_cons.mp hq with e | hq
    · subst e
      refine .inr ⟨List.mem_cons_self, fun z => (List.nodup_cons.mp nd).1 ?_⟩
      show q.1 ∈ L.map (·.1)
      rw [z]
      exact List.mem_map_of_mem (f := (·.1)) (List.mem_of_getElem? (show L[i]? = some (a, o) from h))
    · rcases setMem L i q (List.nodup_cons.mp nd).2 h hq with e | ⟨h1, h2⟩
      · exact .inl e
      · exact .inr ⟨List.mem_cons_of_mem _ h1, h2⟩
theorem set_keys : ∀ (L : List (Addr × HO)) (i : Nat), L[i]? = some (a, o) → (L.set i (a, o')).map (·.1) = L.map (·.1)
  | [], _, h => by cases h
  | x :: L, 0, h => by
    have e : x = (a, o) := Option.some.inj h
    subst e
    rfl
  | x :: L, i + 1, h => congrArg (x.1 :: ·) (set_keys L i h)
theorem Tr.but (T : Tr B L H) (i : Nat) (h : L[i]? = some (a, o)) (s : But [a] H H') (e : H' a = some o') :
    Tr B (L.set i (a, o')) H' := by
  have hoff : B a = none := T.off _ (List.mem_of_getElem? h)
  refine ⟨fun c v ec => ?_, fun q hq => ?_, fun q hq => ?_, ?_⟩
  · refine s c v (fun z => ?_) (T.base c v ec)
    have z' : c = a := by simpa using z
    rw [z', hoff] at ec
    cases ec
  · rcases setMem L i q T.nd h hq with rfl | ⟨h1, h2⟩
    · exact e
    · exact s _ _ (by simpa using h2) (T.at_ q h1)
  · rcases setMem L i q T.nd h hq with rfl | ⟨h1, h2⟩
    · exact hoff
    · exact T.off q h1
  · rw [set_keys L i h]
    exact T.nd
theorem Tr.put (T : Tr B L H) (i : Nat) (h : L[i]? = some (a, o)) : Tr B (L.set i (a, o')) (upd H a o') :=
  T.but i h (But.upd a o') upd_same
/-- another part of the heap as the ground -/
theorem Tr.rebase (T : Tr B L H) (s : Same B' H) (h : ∀ q ∈ L, B' q.1 = none) : Tr B' L H := ⟨s, T.at_, h, T.nd⟩
theorem Tr.drop (T : Tr B (q :: L) H) : Tr B L H :=
  ⟨T.base, fun r hr => T.at_ r (List.mem_cons_of_mem _ hr), fun r hr => T.off r (List.mem_cons_of_mem _ hr), (List.nodup_cons.mp T.nd).2⟩
theorem Tr.dropL : ∀ {M : List (Addr × HO)}, Tr B (M ++ L) H → Tr B L H
  | [], T => T
  | _ :: _, T => Tr.dropL (Tr.drop T)
/-- a heap without what stands at a -/
def del (H : Hp) (a : Addr) : Hp := fun b => if b = a then none else H b
theorem del_same : del H a a = none := if_pos rfl
theorem del_ne (h : b ≠ a) : del H a b = H b := if_neg h
theorem Same.del : Same (del H a) H := fun b o e => by
  by_cases h : b = a
  · rw [h, del_same] at e
    cases e
  · rwa [del_ne h] at e
theorem Tr.mut (h : H a = some o) : Tr (del H a) [(a, o)] H :=
  ⟨Same.del, fun q hq => by rw [List.mem_singleton.mp hq]; exact h, fun q hq => by rw [List.mem_singleton.mp hq]; exact del_same, by simp⟩
theorem But.of_del (s : Same (del H a) H') : But [a] H H' := fun b o n e => s b o (by
  rw [del_ne (fun z => n (by rw [z]; exact List.mem_cons_self))]
  exact e)
/-- what is new behind a def that changes a -/
theorem Tr.newdel (T : Tr (del H a) L H') (i j : Nat) (h : L[i]? = some (a, o)) (h2 : L[j]? = some (p, o')) (n : i ≠ j := by decide) : H p = none := by
  have ha := List.getElem?_map (f := (·.1)) (l := L) (i := i)
  have hp := List.getElem?_map (f := (·.1)) (l := L) (i := j)
  rw [h] at ha
  rw [h2] at hp
  have ne : p ≠ a := fun e => by
    have ha' : (L.map (·.1))[i]? = some a := ha
    have hp' : (L.map (·.1))[j]? = some p := hp
    rw [e] at hp'
    exact n (nd_ix T.nd ha' hp')
  have z := T.off _ (List.mem_of_getElem? h2)
  rw [← del_ne (H := H) ne]
  exact z
theorem Tr.offI (T : Tr B L H) (i : Nat) (h : L[i]? = some (a, o)) : B a = none := T.off _ (List.mem_of_getElem? h)
theorem Tr.get0 (T : Tr B ((a, o) :: L) H) : H a = some o := T.get 0 rfl
theorem Tr.get1 {x0} (T : Tr B (x0 :: (a, o) :: L) H) : H a = some o := T.get 1 rfl
theorem Tr.get2 {x0 x1} (T : Tr B (x0 :: x1 :: (a, o) :: L) H) : H a = some o := T.get 2 rfl
theorem Tr.get3 {x0 x1 x2} (T : Tr B (x0 :: x1 :: x2 :: (a, o) :: L) H) : H a = some o := T.get 3 rfl
theorem Tr.get4 {x0 x1 x2 x3} (T : Tr B (x0 :: x1 :: x2 :: x3 :: (a, o) :: L) H) : H a = some o := T.get 4 rfl
theorem Tr.get5 {x0 x1 x2 x3 x4} (T : Tr B (x0 :: x1 :: x2 :: x3 :: x4 :: (a, o) :: L) H) : H a = some o := T.get 5 rfl
theorem Tr.get6 {x0 x1 x2 x3 x4 x5} (T : Tr B (x0 :: x1 :: x2 :: x3 :: x4 :: x5 :: (a, o) :: L) H) : H a = some o := T.get 6 rfl
theorem Tr.get7 {x0 x1 x2 x3 x4 x5 x6} (T : Tr B (x0 :: x1 :: x2 :: x3 :: x4 :: x5 :: x6 :: (a, o) :: L) H) : H a = some o := T.get 7 rfl
theorem Tr.get8 {x0 x1 x2 x3 x4 x5 x6 x7} (T : Tr B (x0 :: x1 :: x2 :: x3 :: x4 :: x5 :: x6 :: x7 :: (a, o) :: L) H) : H a = some o := T.get 8 rfl
theorem Tr.get9 {x0 x1 x2 x3 x4 x5 x6 x7 x8} (T : Tr B (x0 :: x1 :: x2 :: x3 :: x4 :: x5 :: x6 :: x7 :: x8 :: (a, o) :: L) H) : H a = some o := T.get 9 rfl
theorem Tr.seq {K : PySem.W.Frag} {xs : List V} (T : Tr B L H) (h : SqL K B a xs) : SqL K H a xs := T.base.seq h
theorem Same.tup {K : PySem.W.Frag} {xs : List V} (e : Same H H') (h : SqT K H a xs) : SqT K H' a xs := by
  rcases h with (h | ⟨o, h⟩) | h
  · exact .inl (.inl (e _ _ h))
  · exact .inl (.inr ⟨o, e _ _ h⟩)
  · exact .inr h
end

/-! ### readings by names -/
section
variable {X : Cx}
def rLen (K : PySem.W.Frag) : List V → Hp → VK → Prop := fun xs H Q => ∃ p ys, xs = [.ref p] ∧ (SqL K H p ys ∨ SqT K H p ys) ∧ Q (.int ys.length) H
theorem cl_len : CallR X (.builtin "len") (rLen X.K) := call_len_seq
def rAbs : List V → Hp → VK → Prop := fun xs H Q => ∃ i, xs = [.int i] ∧ Q (.int (if i < 0 then -i else i)) H
theorem cl_abs : CallR X (.builtin "abs") rAbs := call_abs
def rMax2 : List V → Hp → VK → Prop := fun xs H Q => ∃ i j, xs = [.int i, .int j] ∧ Q (.int (if j > i then j else i)) H
theorem cl_max2 (hc : X.calm = true) : CallR X (.builtin "max") rMax2 := call_max2 hc
def rMin2 : List V → Hp → VK → Prop := fun xs H Q => ∃ i j, xs = [.int i, .int j] ∧ Q (.int (if j < i then j else i)) H
theorem cl_min2 (hc : X.calm = true) : CallR X (.builtin "min") rMin2 := call_min2 hc
def rInt1 : List V → Hp → VK → Prop := fun xs H Q => (∃ i, xs = [.int i] ∧ Q (.int i) H) ∨ ∃ k, xs = [.bl k] ∧ Q (.int (if k then 1 else 0)) H
theorem cl_int : CallR X (.type "int") rInt1 := call_int1
def rListOf (K : PySem.W.Frag) : List V → Hp → VK → Prop := fun xs H Q => ∃ p ys, xs = [.ref p] ∧ (SqL K H p ys ∨ SqT K H p ys) ∧ ∀ l, H l = none → Q (.ref l) (upd H l (.lst ys))
theorem cl_list : CallR X (.type "list") (rListOf X.K) := call_list_of
/-- + of ints, of lists -/
def rAddA : R2 := fun x y H Q => rI0 (fun i j => .int (i + j)) x y H Q ∨ rCat x y H Q
theorem op_addA : OpR X (binaryOp .Add) rAddA := fun pins s σ H x y v u Q I rx ry h => by
  rcases h with h | h
  · exact op_add pins s σ H x y v u Q I rx ry h
  · exact op_cat pins s σ H x y v u Q I rx ry h
/-- * of ints, of a list and an int -/
def rMulA : R2 := fun x y H Q => rI CMulW (fun i j => .int (i * j)) x y H Q ∨ rRep x y H Q
theorem op_mulA : OpR X (binaryOp .Mult) rMulA := fun pins s σ H x y v u Q I rx ry h => by
  rcases h with h | h
  · exact op_mulW pins s σ H x y v u Q I rx ry h
  · exact op_rep pins s σ H x y v u Q I rx ry h
/-- == of a list with the empty one: no item is asked -/
def rEqN (K : PySem.W.Frag) : R2 := fun x y H Q => ∃ a b xs, x = .ref a ∧ y = .ref b ∧ SqL K H a xs ∧ SqL K H b [] ∧ Q (.bl xs.isEmpty) H
theorem op_eqN (hu : X.A.units + 64 < cLine) : OpR X (compareOp .Eq) (rEqN X.K) := by
  intro pins s σ H x y v u Q I rx ry h
  obtain ⟨a, b, xs, rfl, rfl, h1, h2, q⟩ := h
  cases xs with
  | nil => exact op_eqD hu pins s σ H _ _ v u Q I rx ry ⟨.list [], .list [], .lst h1 .nil, .lst h2 .nil, rfl, rfl, q⟩
  | cons z zs =>
    cases rx
    cases ry
    obtain ⟨its, r', pl, hz⟩ := I.list h1
    obtain ⟨its2, r2, pl2, hz2⟩ := I.list h2
    have e1 := r'.length
    have e2 := r2.length
    simp only [List.length_cons, List.length_nil] at e1 e2
    exact SeqAt.eq_list_lengthsAt pl.isList pl2.isList (by simp only [List.size_toArray]; exact bne_iff_ne.mpr (by omega)) (by omega) ⟨.bl _, H, I, rfl, q⟩
def rNeN (K : PySem.W.Frag) : R2 := fun x y H Q => ∃ a b xs, x = .ref a ∧ y = .ref b ∧ SqL K H a xs ∧ SqL K H b [] ∧ Q (.bl (!xs.isEmpty)) H
theorem op_neN (hu : X.A.units + 64 < cLine) : OpR X (compareOp .NotEq) (rNeN X.K) := by
  intro pins s σ H x y v u Q I rx ry h
  obtain ⟨a, b, xs, rfl, rfl, h1, h2, q⟩ := h
  cases xs with
  | nil => exact op_neD hu pins s σ H _ _ v u Q I rx ry ⟨.list [], .list [], .lst h1 .nil, .lst h2 .nil, rfl, rfl, q⟩
  | cons z zs =>
    cases rx
    cases ry
    obtain ⟨its, r', pl, hz⟩ := I.list h1
    obtain ⟨its2, r2, pl2, hz2⟩ := I.list h2
    have e1 := r'.length
    have e2 := r2.length
    simp only [List.length_cons, List.length_nil] at e1 e2
    exact SeqAt.RcNeAt.lists_lengths pl.isList pl2.isList (by simp only [List.size_toArray]; exact bne_iff_ne.mpr (by omega)) (by omega) _ _ _ _ ⟨.bl _, H, I, rfl, q⟩
/-- == of flat values, of data -/
def rEqA (K : PySem.W.Frag) : R2 := fun x y H Q => rEq x y H Q ∨ rEqD K x y H Q ∨ rEqN K x y H Q
theorem op_eqA (hu : X.A.units + 64 < cLine) : OpR X (compareOp .Eq) (rEqA X.K) := fun pins s σ H x y v u Q I rx ry h => by
  rcases h with h | h | h
  · exact op_eq pins s σ H x y v u Q I rx ry h
  · exact op_eqD hu pins s σ H x y v u Q I rx ry h
  · exact op_eqN hu pins s σ H x y v u Q I rx ry h
def rNeA (K : PySem.W.Frag) : R2 := fun x y H Q => rNe x y H Q ∨ rNeD K x y H Q ∨ rNeN K x y H Q
theorem op_neA (hu : X.A.units + 64 < cLine) : OpR X (compareOp .NotEq) (rNeA X.K) := fun pins s σ H x y v u Q I rx ry h => by
  rcases h with h | h | h
  · exact op_ne pins s σ H x y v u Q I rx ry h
  · exact op_neD hu pins s σ H x y v u Q I rx ry h
  · exact op_neN hu pins s σ H x y v u Q I rx ry h
def rIsN : R2 := fun x y H Q => y = .non ∧ Q (.bl (decide (x = .non))) H
theorem op_isNn : OpR X (compareOp .Is) rIsN := op_isN
def rNotN : R2 := fun x y H Q => y = .non ∧ Q (.bl (!decide (x = .non))) H
theorem op_notNn : OpR X (compareOp .IsNot) rNotN := op_notN
end

/-! ### the rest of a loop, of a comprehension, by names -/
def rFor (J : It) (g : TG) (tb : TS) (D : Ends) (σ : L2.St) (H : Hp) : Prop := ∃ W : Nat → Nat → L2.St → Hp → Prop, (∃ m, W 0 m σ H) ∧ ∀ i m σ H, W i m σ H →
  (J.stop i H ∧ D.nx σ H) ∨ (J.go i H ∧ ∃ N : L2.St → Hp → Prop, (∀ σ' H', N σ' H' → ∃ m', m' < m ∧ W (i + 1) m' σ' H') ∧ ∀ x H', J.yld i H x H' → g x σ H' fun σ2 H2 => tb { D with nx := N, ct := N, bk := D.nx } σ2 H2)
def rLc (J : It) (g : TG) (tt : TT) (te : TE) (vs : List Nat) (σ : L2.St) (H1 : Hp) (Q : VK) : Prop := ∀ D, H1 D = none → ∃ W : Nat → Nat → Hp → Prop, (∃ m, W 0 m (upd H1 D (.lst []))) ∧ ∀ i m H, W i m H →
  (J.stop i H ∧ Q (.ref D) H) ∨ (J.go i H ∧ ∃ Nx : Hp → Prop, (∀ H', Nx H' → ∃ m', m' < m ∧ W (i + 1) m' H') ∧ ∀ x H', J.yld i H x H' → g x (wipe σ vs) H' fun σ2 H2 => wipe σ2 vs = wipe σ vs ∧ tt σ2 H2 fun b H3 =>
    if b = true then te σ2 H3 fun y H4 => ∃ acc, H4 D = some (.lst acc) ∧ acc.length < sizeLine ∧ Nx (upd H4 D (.lst (acc ++ [y]))) else Nx H3)
/-- an element that goes to the list at D -/
def rElt (D : Addr) (Nx : Hp → Prop) (y : V) (H4 : Hp) : Prop := ∃ acc, H4 D = some (.lst acc) ∧ acc.length < sizeLine ∧ Nx (upd H4 D (.lst (acc ++ [y])))
def rItL (K : PySem.W.Frag) (x : V) (H : Hp) (R : It → Hp → Prop) : Prop := ∃ a, x = .ref a ∧ (∃ xs, SqL K H a xs) ∧ R (Itl K a) H
def rItT (K : PySem.W.Frag) (x : V) (H : Hp) (R : It → Hp → Prop) : Prop := ∃ a, x = .ref a ∧ (∃ xs, SqT K H a xs) ∧ R (Itt K a) H
def rRg1 (vs : List V) (H : Hp) (R : It → Hp → Prop) : Prop := ∃ j : Int, vs = [.int j] ∧ -(2 ^ 62) ≤ j ∧ j < 2 ^ 62 ∧ R (Itr 0 j.toNat) H
def rRg2 (vs : List V) (H : Hp) (R : It → Hp → Prop) : Prop := ∃ i j : Int, vs = [.int i, .int j] ∧ (-(2 ^ 62) ≤ i ∧ i < 2 ^ 62 ∧ -(2 ^ 62) ≤ j ∧ j < 2 ^ 62) ∧ R (Itr i (j - i).toNat) H
def rRg3 (vs : List V) (H : Hp) (R : It → Hp → Prop) : Prop := ∃ (i j c : Int) (n : Nat), vs = [.int i, .int j, .int c] ∧ RgC i j c n ∧ R (Itc i c n) H
def rEn (K : PySem.W.Frag) (vs : List V) (H : Hp) (R : It → Hp → Prop) : Prop := ∃ a xs, vs = [.ref a] ∧ SqL K H a xs ∧ R (Ite K a) H
def rZp (K : PySem.W.Frag) (vs : List V) (H : Hp) (R : It → Hp → Prop) : Prop := ∃ a b xs ys, vs = [.ref a, .ref b] ∧ SqL K H a xs ∧ SqL K H b ys ∧ R (Itz K a b) H
def rTup (xs : List V) (H : Hp) (Q : VK) : Prop := xs.length ≤ sizeLine ∧ ∀ p, H p = none → Q (.ref p) (upd H p (.tup xs))
def rLst (xs : List V) (H : Hp) (Q : VK) : Prop := xs.length ≤ sizeLine ∧ ∀ p, H p = none → Q (.ref p) (upd H p (.lst xs))
def rBl (x : V) (H : Hp) (Q : Bool → Hp → Prop) : Prop := ∃ k, x = .bl k ∧ Q k H
def rUnp (K : PySem.W.Frag) (n : Nat) (t : TGs) (v : V) (σ : L2.St) (H : Hp) (Q : L2.St → Hp → Prop) : Prop := ∃ a xs, v = .ref a ∧ SqT K H a xs ∧ xs.length = n ∧ t xs σ H Q
def rMt (K : PySem.W.Frag) (T : String) (r : V → List V → Hp → VK → Prop) (t : TA) (σ : L2.St) (x : V) (H1 : Hp) (Q : VK) : Prop := tyV K T x H1 ∧ t σ H1 fun xs H2 => r x xs H2 Q

/-! ### the steps -/
section
variable {K : PySem.W.Frag} {B H H1 : Hp} {L : List (Addr × HO)} {σ : L2.St} {D : Ends} {Q : VK} {t u : TS} {ta tb tc te to ti : TE} {tx ty : TA} {c tt : TT} {r r' : R2} {x y v w : V} {i j k n : Int} {a p : Addr} {xs ys : List V} {ns : List Int}
-- statements
section
variable {nx bk ct : L2.St → Hp → Prop} {rt : VK}
theorem i_seq (h : t ⟨u ⟨nx, rt, bk, ct⟩, rt, bk, ct⟩ σ H) : tSeq t u ⟨nx, rt, bk, ct⟩ σ H := h
theorem i_next (h : nx σ H) : tNext ⟨nx, rt, bk, ct⟩ σ H := h
theorem i_break (h : bk σ H) : tBreak ⟨nx, rt, bk, ct⟩ σ H := h
theorem i_cont (h : ct σ H) : tCont ⟨nx, rt, bk, ct⟩ σ H := h
theorem i_drop (h : te σ H fun _ H1 => nx σ H1) : tDrop te ⟨nx, rt, bk, ct⟩ σ H := h
theorem i_ret (h : te σ H rt) : tRet te ⟨nx, rt, bk, ct⟩ σ H := h
theorem i_retN (h : rt .non H) : tRetN ⟨nx, rt, bk, ct⟩ σ H := h
theorem i_ifS (h : c σ H fun b H1 => if b = true then t ⟨nx, rt, bk, ct⟩ σ H1 else u ⟨nx, rt, bk, ct⟩ σ H1) : tIfS c t u ⟨nx, rt, bk, ct⟩ σ H := h
theorem i_asg {g : TG} (h : te σ H fun x H1 => g x σ H1 nx) : tAsg te g ⟨nx, rt, bk, ct⟩ σ H := h
theorem i_aug {m : Nat} {ip : TIp} (hx : σ[m]? = some (some x)) (h : te σ H fun y H1 => ip x y H1 fun z H2 => nx (σ.set m (some z)) H2) : tAug m te ip ⟨nx, rt, bk, ct⟩ σ H := ⟨x, hx, h⟩
theorem i_for {wi : TI} {g : TG} {tb : TS} (h : wi σ H fun J H1 => rFor J g tb ⟨nx, rt, bk, ct⟩ σ H1) : tFor wi g tb ⟨nx, rt, bk, ct⟩ σ H := h
end
theorem i_gName {m : Nat} {R : L2.St → Hp → Prop} (h : R (σ.set m (some v)) H) : gName m v σ H R := h
theorem i_gTup {n : Nat} {g : TGs} {R : L2.St → Hp → Prop} (h : rUnp K n g v σ H R) : gTup K n g v σ H R := h
theorem i_unp {m : Nat} {g : TGs} {R : L2.St → Hp → Prop} (h1 : SqT K H a xs) (h2 : xs.length = m) (h : g xs σ H R) : rUnp K m g (.ref a) σ H R := ⟨a, xs, rfl, h1, h2, h⟩
theorem i_gCons {g : TG} {gs : TGs} {R : L2.St → Hp → Prop} (h : g x σ H fun σ' H' => gs xs σ' H' R) : gCons g gs (x :: xs) σ H R := ⟨x, xs, rfl, h⟩
theorem i_gNil {R : L2.St → Hp → Prop} (h : R σ H) : gNil [] σ H R := ⟨rfl, h⟩
theorem i_gSub {st : TSet} {R : L2.St → Hp → Prop} (h : to σ H fun o H1 => ti σ H1 fun i H2 => st o i v H2 fun H3 => R σ H3) : gSub to ti st v σ H R := h
theorem i_ip {f : Int → Int → Int} (h : Q (.int (f i j)) H) : ipI f (.int i) (.int j) H Q := ⟨i, j, rfl, rfl, h⟩
-- what is walked
section
variable {R : It → Hp → Prop}
theorem i_iList (h : te σ H fun x H1 => rItL K x H1 R) : iList K te σ H R := h
theorem i_itL (h1 : SqL K H a xs) (h : R (Itl K a) H) : rItL K (.ref a) H R := ⟨a, rfl, ⟨xs, h1⟩, h⟩
theorem i_iTup (h : te σ H fun x H1 => rItT K x H1 R) : iTup K te σ H R := h
theorem i_itT (h1 : SqT K H a xs) (h : R (Itt K a) H) : rItT K (.ref a) H R := ⟨a, rfl, ⟨xs, h1⟩, h⟩
theorem i_iRng1 (h : tx σ H fun vs H1 => rRg1 vs H1 R) : iRng1 tx σ H R := h
theorem i_rg1 (h1 : -(2 ^ 62) ≤ j) (h2 : j < 2 ^ 62) (h : R (Itr 0 j.toNat) H) : rRg1 [.int j] H R := ⟨j, rfl, h1, h2, h⟩
theorem i_iRng2 (h : tx σ H fun vs H1 => rRg2 vs H1 R) : iRng2 tx σ H R := h
theorem i_rg2 (h1 : -(2 ^ 62) ≤ i ∧ i < 2 ^ 62 ∧ -(2 ^ 62) ≤ j ∧ j < 2 ^ 62) (h : R (Itr i (j - i).toNat) H) : rRg2 [.int i, .int j] H R := ⟨i, j, rfl, h1, h⟩
theorem i_iRng3 (h : tx σ H fun vs H1 => rRg3 vs H1 R) : iRng3 tx σ H R := h
theorem i_iEnum (h : tx σ H fun vs H1 => rEn K vs H1 R) : iEnum K tx σ H R := h
theorem i_en (h1 : SqL K H a xs) (h : R (Ite K a) H) : rEn K [.ref a] H R := ⟨a, xs, rfl, h1, h⟩
theorem i_iZip (h : tx σ H fun vs H1 => rZp K vs H1 R) : iZip K tx σ H R := h
theorem i_zp {b : Addr} (h1 : SqL K H a xs) (h2 : SqL K H b ys) (h : R (Itz K a b) H) : rZp K [.ref a, .ref b] H R := ⟨a, b, xs, ys, rfl, h1, h2, h⟩
end
-- expressions
theorem i_var {m : Nat} (hx : σ[m]? = some (some v)) (h : Q v H) : tVar m σ H Q := ⟨v, hx, h⟩
theorem i_c (h : Q v H) : tC v σ H Q := h
theorem i_op (h : ta σ H fun x H1 => tb σ H1 fun y H2 => r x y H2 Q) : tOp r ta tb σ H Q := h
theorem i_un {r : V → Hp → VK → Prop} (h : ta σ H fun x H1 => r x H1 Q) : tUn r ta σ H Q := h
theorem i_rU {g : Int → V} (h : Q (g i) H) : rU g (.int i) H Q := ⟨i, rfl, h⟩
theorem i_I0 {g : Int → Int → V} (h : Q (g i j) H) : rI0 g (.int i) (.int j) H Q := ⟨i, j, rfl, rfl, h⟩
theorem i_I {C : Int → Int → Prop} {g : Int → Int → V} (hc : C i j) (h : Q (g i j) H) : rI C g (.int i) (.int j) H Q := ⟨i, j, rfl, rfl, hc, h⟩
theorem i_addI (h : Q (.int (i + j)) H) : rAddA (.int i) (.int j) H Q := .inl (i_I0 h)
theorem i_cat {b : Addr} (T : Tr B L H) (h1 : H a = some (.lst xs)) (h2 : H b = some (.lst ys)) (hz : xs.length + ys.length ≤ sizeLine)
    (h : ∀ p H', Tr B ((p, .lst (xs ++ ys)) :: L) H' → Q (.ref p) H') : rAddA (.ref a) (.ref b) H Q :=
  .inr ⟨a, b, xs, ys, rfl, rfl, h1, h2, hz, fun p hp => h p _ (T.new hp)⟩
theorem i_mulI (hc : CMulW i j) (h : Q (.int (i * j)) H) : rMulA (.int i) (.int j) H Q := .inl (i_I hc h)
theorem i_rep (T : Tr B L H) (h1 : H a = some (.lst xs)) (hk : -(2 ^ 63) ≤ k) (hk2 : k < 2 ^ 63) (hz : xs.length * k.toNat ≤ sizeLine)
    (h : ∀ p H', Tr B ((p, .lst ((List.replicate k.toNat xs).flatten)) :: L) H' → Q (.ref p) H') : rMulA (.ref a) (.int k) H Q :=
  .inr ⟨a, k, xs, rfl, rfl, h1, hk, hk2, hz, fun p hp => h p _ (T.new hp)⟩
theorem i_fdiv (h0 : 0 < j) (hb : j.natAbs < 2 ^ 60) (h : Q (.int (i / j)) H) : rI CDivW (fun i j => .int (i / j)) (.int i) (.int j) H Q := i_I (wide_div h0 hb (by decide) (by decide)) h
theorem i_mod (h0 : 0 < j) (h : Q (.int (i % j)) H) : rI (fun _ j => 0 < j) (fun i j => .int (i % j)) (.int i) (.int j) H Q := i_I h0 h
theorem i_pow (hc : (0 ≤ j ∧ j ≤ 1000000) ∧ i.natAbs < 2 ^ 64) (e : i ^ j.toNat = n) (h : Q (.int n) H) : rI CPow (fun i j => .int (i ^ j.toNat)) (.int i) (.int j) H Q := i_I ⟨hc.1.1, hc.1.2, hc.2⟩ (by rw [e]; exact h)
theorem i_sq (hc : i.natAbs < 2 ^ 64) (h : Q (.int (i * i)) H) : rI CPow (fun i j => .int (i ^ j.toNat)) (.int i) (.int 2) H Q := i_pow (n := i * i) ⟨⟨by decide, by decide⟩, hc⟩ (by show i ^ 2 = i * i; rw [Int.pow_succ, Int.pow_succ, Int.pow_zero, Int.one_mul]) h
theorem dec_int : decide (V.int i = V.int j) = decide (i = j) := by
  by_cases h : i = j
  · rw [decide_eq_true h, decide_eq_true (by rw [h])]
  · rw [decide_eq_false h, decide_eq_false (fun e => h (V.int.inj e))]
theorem dec_bl {a b : Bool} : decide (V.bl a = V.bl b) = decide (a = b) := by cases a <;> cases b <;> rfl
theorem i_eqI (h : Q (.bl (decide (i = j))) H) : rEqA K (.int i) (.int j) H Q := .inl ⟨rfl, by rw [dec_int]; exact h⟩
theorem i_neI (h : Q (.bl (!decide (i = j))) H) : rNeA K (.int i) (.int j) H Q := .inl ⟨rfl, by rw [dec_int]; exact h⟩
theorem i_eqB {a b : Bool} (h : Q (.bl (decide (a = b))) H) : rEqA K (.bl a) (.bl b) H Q := .inl ⟨rfl, by rw [dec_bl]; exact h⟩
theorem i_neB {a b : Bool} (h : Q (.bl (!decide (a = b))) H) : rNeA K (.bl a) (.bl b) H Q := .inl ⟨rfl, by rw [dec_bl]; exact h⟩
theorem i_eqD {d e : PyData} (h1 : Dp K H x d) (h2 : Dp K H y e) (s1 : SeqAt.shaped d = true) (s2 : SeqAt.shaped e = true) (h : Q (.bl (PyData.eqv d e)) H) : rEqA K x y H Q := .inr (.inl ⟨d, e, h1, h2, s1, s2, h⟩)
theorem i_neD {d e : PyData} (h1 : Dp K H x d) (h2 : Dp K H y e) (s1 : SeqAt.shaped d = true) (s2 : SeqAt.shaped e = true) (h : Q (.bl (!PyData.eqv d e)) H) : rNeA K x y H Q := .inr (.inl ⟨d, e, h1, h2, s1, s2, h⟩)
theorem i_isN (h : Q (.bl (decide (x = .non))) H) : rIsN x .non H Q := ⟨rfl, h⟩
theorem i_notN (h : Q (.bl (!decide (x = .non))) H) : rNotN x .non H Q := ⟨rfl, h⟩
theorem i_ixL (h1 : SqL K H a xs) (h2 : atI xs i = some v) (h : Q v H) : rIx K (.ref a) (.int i) H Q := .inl ⟨a, xs, i, v, rfl, rfl, h1, h2, h⟩
theorem i_ixT (h1 : SqT K H a xs) (h2 : atI xs i = some v) (h : Q v H) : rIx K (.ref a) (.int i) H Q := .inr (.inl ⟨a, xs, i, v, rfl, rfl, h1, h2, h⟩)
theorem atI_int (h0 : 0 ≤ i) (h1 : i < ns.length) : atI (ns.map V.int) i = some (.int ns[i.toNat]!) := by
  obtain ⟨m, rfl⟩ : ∃ m : Nat, i = m := ⟨i.toNat, by omega⟩
  refine atI_nat ?_
  rw [List.getElem?_map, Int.toNat_natCast, List.getElem!_eq_getElem?_getD, List.getElem?_eq_getElem (by omega)]
  rfl
theorem i_ixI (h1 : SqL K H a (ns.map V.int)) (h0 : 0 ≤ i) (h2 : i < ns.length) (h : Q (.int ns[i.toNat]!) H) : rIx K (.ref a) (.int i) H Q := i_ixL h1 (atI_int h0 h2) h
theorem i_tcons {R : List V → Hp → Prop} (h : te σ H fun x H1 => tx σ H1 fun xs H2 => R (x :: xs) H2) : tCons te tx σ H R := h
theorem i_tnil {R : List V → Hp → Prop} (h : R [] H) : tNil σ H R := h
theorem i_ttup (h : tx σ H fun xs H1 => rTup xs H1 Q) : tTup tx σ H Q := h
theorem i_tup (T : Tr B L H) (hz : xs.length ≤ sizeLine) (h : ∀ p H', Tr B ((p, .tup xs) :: L) H' → Q (.ref p) H') : rTup xs H Q := ⟨hz, fun p hp => h p _ (T.new hp)⟩
theorem i_tlst (h : tx σ H fun xs H1 => rLst xs H1 Q) : tLst tx σ H Q := h
theorem i_lst (T : Tr B L H) (hz : xs.length ≤ sizeLine) (h : ∀ p H', Tr B ((p, .lst xs) :: L) H' → Q (.ref p) H') : rLst xs H Q := ⟨hz, fun p hp => h p _ (T.new hp)⟩
theorem i_call {sp : Sp} {E : XK} (h : tx σ H fun vs H1 => sp vs H1 Q E) : tCall sp [] E tx σ H Q := by
  have e : (fun (vs : List V) (H1 : Hp) => sp (vs ++ []) H1 Q E) = fun vs H1 => sp vs H1 Q E := by
    funext vs H1
    rw [List.append_nil]
  show tx σ H fun vs H1 => sp (vs ++ []) H1 Q E
  rw [e]
  exact h
theorem i_cb {r : List V → Hp → VK → Prop} (h : tx σ H fun vs H1 => r vs H1 Q) : tCB r tx σ H Q := h
theorem i_len (h1 : SqL K H a xs) (h : Q (.int xs.length) H) : rLen K [.ref a] H Q := ⟨a, xs, rfl, .inl h1, h⟩
theorem i_lenI (h1 : SqL K H a (ns.map V.int)) (h : Q (.int ns.length) H) : rLen K [.ref a] H Q := i_len h1 (by rw [List.length_map]; exact h)
theorem i_lenT (h1 : SqT K H a xs) (h : Q (.int xs.length) H) : rLen K [.ref a] H Q := ⟨a, xs, rfl, .inr h1, h⟩
theorem i_abs (h : Q (.int (if i < 0 then -i else i)) H) : rAbs [.int i] H Q := ⟨i, rfl, h⟩
theorem i_max2 (h : Q (.int (max i j)) H) : rMax2 [.int i, .int j] H Q := ⟨i, j, rfl, by
  rw [show (if j > i then j else i) = max i j by split <;> omega]
  exact h⟩
theorem i_min2 (h : Q (.int (min i j)) H) : rMin2 [.int i, .int j] H Q := ⟨i, j, rfl, by
  rw [show (if j < i then j else i) = min i j by split <;> omega]
  exact h⟩
theorem i_intI (h : Q (.int i) H) : rInt1 [.int i] H Q := .inl ⟨i, rfl, h⟩
theorem i_intB {k : Bool} (h : Q (.int (if k then 1 else 0)) H) : rInt1 [.bl k] H Q := .inr ⟨k, rfl, h⟩
theorem i_list (T : Tr B L H) (h1 : SqL K H a xs) (h : ∀ p H', Tr B ((p, .lst xs) :: L) H' → Q (.ref p) H') : rListOf K [.ref a] H Q := ⟨a, xs, rfl, .inl h1, fun p hp => h p _ (T.new hp)⟩
theorem i_listT (T : Tr B L H) (h1 : SqT K H a xs) (h : ∀ p H', Tr B ((p, .lst xs) :: L) H' → Q (.ref p) H') : rListOf K [.ref a] H Q := ⟨a, xs, rfl, .inr h1, fun p hp => h p _ (T.new hp)⟩
theorem i_sum (h1 : SqL K H a (ns.map V.int)) (h : Q (.int ns.sum) H) : rSum K [.ref a] H Q := ⟨a, ns, rfl, h1, h⟩
theorem i_max (h1 : SqL K H a (ns.map V.int)) (h0 : 0 < ns.length) (h : ∀ m, m ∈ ns → (∀ y, y ∈ ns → y ≤ m) → Q (.int m) H) : rMax K [.ref a] H Q := ⟨a, ns, rfl, h1, h0, h⟩
theorem i_min (h1 : SqL K H a (ns.map V.int)) (h0 : 0 < ns.length) (h : ∀ m, m ∈ ns → (∀ y, y ∈ ns → m ≤ y) → Q (.int m) H) : rMin K [.ref a] H Q := ⟨a, ns, rfl, h1, h0, h⟩
theorem i_sorted (T : Tr B L H) (h1 : SqL K H a (ns.map V.int)) (h : ∀ (ms : List Int) p H', ms.Perm ns → ms.Pairwise (· ≤ ·) → Tr B ((p, .lst (ms.map V.int)) :: L) H' → Q (.ref p) H') : rSortedI K [.ref a] H Q :=
  ⟨a, ns, rfl, h1, fun ms p h2 h3 hp => h ms p _ h2 h3 (T.new hp)⟩
theorem i_repr {d : PyData} (h1 : Dp K H x d) (h2 : d.showable = true) (h3 : d.hasDict = false) (h4 : d.depth ≤ 60) (h5 : d.shown.length ≤ sizeLine) (h : Q (.str d.shown) H) : rRepr K [x] H Q := ⟨x, d, rfl, h1, h2, h3, h4, h5, h⟩
-- methods
theorem i_bm {T : String} {r : V → List V → Hp → VK → Prop} (h : to σ H fun x H1 => rMt K T r tx σ x H1 Q) : tBM K T r to tx σ H Q := h
theorem i_mtL {r : V → List V → Hp → VK → Prop} (h1 : SqL K H a xs) (h : tx σ H fun zs H2 => r (.ref a) zs H2 Q) : rMt K "list" r tx σ (.ref a) H Q := ⟨.inl ⟨rfl, xs, h1⟩, h⟩
theorem i_append (m : Nat) (T : Tr B L H) (h1 : L[m]? = some (a, .lst xs)) (hz : xs.length < sizeLine) (h : ∀ H', Tr B (L.set m (a, .lst (xs ++ [y]))) H' → Q .non H') : rAppend (.ref a) [y] H Q :=
  ⟨a, xs, y, rfl, rfl, T.get m h1, hz, h _ (T.put m h1)⟩
theorem i_setL (m : Nat) {l : Nat} {R : Hp → Prop} (T : Tr B L H) (h1 : L[m]? = some (a, .lst xs)) (h2 : ixN xs.length i = some l) (h : ∀ H', Tr B (L.set m (a, .lst (xs.set l v))) H' → R H') : rSetL (.ref a) (.int i) v H R :=
  ⟨a, xs, i, l, rfl, rfl, T.get m h1, h2, h _ (T.put m h1)⟩
-- slices
theorem i_sl {r : V → Option Int → Option Int → Hp → VK → Prop} {tl th : TO} (h : te σ H fun x H1 => tl σ H1 fun l H2 => th σ H2 fun u H3 => r x l u H3 Q) : tSl r te tl th σ H Q := h
theorem i_nopart {R : Option Int → Hp → Prop} (h : R none H) : tNoPart σ H R := h
def rPart (x : V) (H : Hp) (R : Option Int → Hp → Prop) : Prop := ∃ i, x = .int i ∧ R (some i) H
theorem i_part {R : Option Int → Hp → Prop} (h : te σ H fun x H1 => rPart x H1 R) : tPart te σ H R := h
theorem i_partI {R : Option Int → Hp → Prop} (h : R (some i) H) : rPart (.int i) H R := ⟨i, rfl, h⟩
theorem i_slL {lo hi : Option Int} (T : Tr B L H) (h1 : SqL K H a xs) (h : ∀ p H', Tr B ((p, .lst (cutV xs lo hi)) :: L) H' → Q (.ref p) H') : rSlL K (.ref a) lo hi H Q := ⟨a, xs, rfl, h1, fun p hp => h p _ (T.new hp)⟩
-- tests
section
variable {R : Bool → Hp → Prop}
theorem i_test (h : te σ H fun x H1 => rBl x H1 R) : tTest te σ H R := h
theorem i_tB (h : te σ H fun x H1 => rBl x H1 R) : tB te σ H R := h
theorem i_bl {k : Bool} (h : R k H) : rBl (.bl k) H R := ⟨k, rfl, h⟩
theorem i_and (h : c σ H fun b H1 => if b = true then tt σ H1 R else R false H1) : tAnd c tt σ H R := h
theorem i_or (h : c σ H fun b H1 => if b = true then R true H1 else tt σ H1 R) : tOr c tt σ H R := h
theorem i_not (h : c σ H fun b H1 => R (!b) H1) : tNot c σ H R := h
end
def rBlV (x : V) (H : Hp) (R : Bool → Hp → Prop) : Prop := ∃ k, x = .bl k ∧ R k H
theorem i_andV (h : ta σ H fun x H1 => rBl x H1 fun k H2 => if k = true then tb σ H2 Q else Q (.bl false) H2) : tAndV ta tb σ H Q := h
theorem i_orV (h : ta σ H fun x H1 => rBl x H1 fun k H2 => if k = true then Q (.bl true) H2 else tb σ H2 Q) : tOrV ta tb σ H Q := h
theorem i_notV (h : ta σ H fun x H1 => rBl x H1 fun k H2 => Q (.bl (!k)) H2) : tNotV ta σ H Q := h
theorem i_ifE (h : c σ H fun b H1 => if b = true then ta σ H1 Q else tb σ H1 Q) : tIf c ta tb σ H Q := h
theorem i_chain (h : ta σ H fun x H1 => tb σ H1 fun y H2 => r x y H2 fun z H3 => rBl z H3 fun k H4 => if k = true then tc σ H4 fun w' H5 => r' y w' H5 Q else Q (.bl false) H4) : tChain r r' ta tb tc σ H Q := h
end

/-! ### branches -/
theorem i_T {A C : Prop} (h : A) : if true = true then A else C := by
  rw [if_pos rfl]
  exact h
theorem i_F {A C : Prop} (h : C) : if false = true then A else C := by
  rw [if_neg Bool.false_ne_true]
  exact h
theorem i_decT {p A C : Prop} [Decidable p] (hp : p) (h : A) : if decide p = true then A else C := by
  rw [if_pos (decide_eq_true hp)]
  exact h
theorem i_decF {p A C : Prop} [Decidable p] (hp : ¬ p) (h : C) : if decide p = true then A else C := by
  rw [if_neg (by rw [decide_eq_false hp]; exact Bool.false_ne_true)]
  exact h
theorem i_ndecT {p A C : Prop} [Decidable p] (hp : ¬ p) (h : A) : if (!decide p) = true then A else C := by
  rw [if_pos (by rw [decide_eq_false hp]; rfl)]
  exact h
theorem i_ndecF {p A C : Prop} [Decidable p] (hp : p) (h : C) : if (!decide p) = true then A else C := by
  rw [if_neg (by rw [decide_eq_true hp]; exact Bool.false_ne_true)]
  exact h
/-- both ways -/
theorem i_if {p A C : Prop} [Decidable p] (h1 : p → A) (h2 : ¬ p → C) : if decide p = true then A else C := by
  by_cases hp : p
  · exact i_decT hp (h1 hp)
  · exact i_decF hp (h2 hp)
theorem i_nif {p A C : Prop} [Decidable p] (h1 : ¬ p → A) (h2 : p → C) : if (!decide p) = true then A else C := by
  by_cases hp : p
  · exact i_ndecF hp (h2 hp)
  · exact i_ndecT hp (h1 hp)
theorem i_bif {b : Bool} {A C : Prop} (h1 : b = true → A) (h2 : b = false → C) : if b = true then A else C := by
  cases b with
  | true => exact i_T (h1 rfl)
  | false => exact i_F (h2 rfl)

/-! ### loops -/
section
variable {K : PySem.W.Frag} {H : Hp} {σ : L2.St} {nx bk ct : L2.St → Hp → Prop} {rt : VK} {g : TG} {tb : TS} {c : TT} {a : Addr} {xs : List V} {ns : List Int}
theorem f_list (Pv : Nat → L2.St → Hp → Prop) (h0 : Pv 0 σ H) (hl : ∀ i σ H, Pv i σ H → SqL K H a xs)
    (hs : ∀ i x σ H, xs[i]? = some x → Pv i σ H → g x σ H fun σ2 H2 => tb ⟨Pv (i + 1), rt, nx, Pv (i + 1)⟩ σ2 H2) (hd : ∀ σ H, Pv xs.length σ H → nx σ H) :
    rFor (Itl K a) g tb ⟨nx, rt, bk, ct⟩ σ H := for_list Pv h0 (fun i σ H _ h => hl i σ H h) hs hd
theorem f_ints (Pv : Nat → L2.St → Hp → Prop) (h0 : Pv 0 σ H) (hl : ∀ i σ H, Pv i σ H → SqL K H a (ns.map V.int))
    (hs : ∀ i n σ H, ns[i]? = some n → Pv i σ H → g (.int n) σ H fun σ2 H2 => tb ⟨Pv (i + 1), rt, nx, Pv (i + 1)⟩ σ2 H2) (hd : ∀ σ H, Pv ns.length σ H → nx σ H) :
    rFor (Itl K a) g tb ⟨nx, rt, bk, ct⟩ σ H := f_list (xs := ns.map V.int) Pv h0 hl (fun i x σ H e h => by
      rw [List.getElem?_map] at e
      cases z : ns[i]? with
      | none =>
        rw [z] at e
        cases e
      | some n =>
        rw [z] at e
        cases e
        exact hs i n σ H z h) (by rw [List.length_map]; exact hd)
theorem f_tup (Pv : Nat → L2.St → Hp → Prop) (h0 : Pv 0 σ H) (hl : ∀ i σ H, Pv i σ H → SqT K H a xs)
    (hs : ∀ i x σ H, xs[i]? = some x → Pv i σ H → g x σ H fun σ2 H2 => tb ⟨Pv (i + 1), rt, nx, Pv (i + 1)⟩ σ2 H2) (hd : ∀ σ H, Pv xs.length σ H → nx σ H) :
    rFor (Itt K a) g tb ⟨nx, rt, bk, ct⟩ σ H := for_tup Pv h0 (fun i σ H _ h => hl i σ H h) hs hd
theorem f_range {lo : Int} {n : Nat} (Pv : Nat → L2.St → Hp → Prop) (h0 : Pv 0 σ H)
    (hs : ∀ i σ H, i < n → Pv i σ H → g (.int (lo + i)) σ H fun σ2 H2 => tb ⟨Pv (i + 1), rt, nx, Pv (i + 1)⟩ σ2 H2) (hd : ∀ σ H, Pv n σ H → nx σ H) :
    rFor (Itr lo n) g tb ⟨nx, rt, bk, ct⟩ σ H := for_range Pv h0 hs hd
theorem f_rangeC {lo c : Int} {n : Nat} (Pv : Nat → L2.St → Hp → Prop) (h0 : Pv 0 σ H)
    (hs : ∀ i σ H, i < n → Pv i σ H → g (.int (lo + (i : Nat) * c)) σ H fun σ2 H2 => tb ⟨Pv (i + 1), rt, nx, Pv (i + 1)⟩ σ2 H2) (hd : ∀ σ H, Pv n σ H → nx σ H) :
    rFor (Itc lo c n) g tb ⟨nx, rt, bk, ct⟩ σ H := for_rangeC Pv h0 hs hd
/-- enumerate: a new pair each turn -/
theorem f_enum (Pv : Nat → L2.St → Hp → Prop) (h0 : Pv 0 σ H) (hl : ∀ i σ H, Pv i σ H → SqL K H a xs)
    (hs : ∀ i x σ H p, xs[i]? = some x → Pv i σ H → H p = none → g (.ref p) σ (upd H p (.tup [.int i, x])) fun σ2 H2 => tb ⟨Pv (i + 1), rt, nx, Pv (i + 1)⟩ σ2 H2)
    (hd : ∀ σ H, Pv xs.length σ H → nx σ H) : rFor (Ite K a) g tb ⟨nx, rt, bk, ct⟩ σ H := by
  refine ⟨fun i m σ H => m = xs.length - i ∧ i ≤ xs.length ∧ Pv i σ H, ⟨xs.length, by simp, Nat.zero_le _, h0⟩, ?_⟩
  rintro i m σ H ⟨rfl, hi, p⟩
  have q := hl i σ H p
  by_cases hlt : i < xs.length
  · refine .inr ⟨⟨xs, xs[i], q, by simp [hlt]⟩, Pv (i + 1), fun σ' H' p' => ⟨xs.length - (i + 1), by omega, rfl, hlt, p'⟩, fun x H' y => ?_⟩
    obtain ⟨T, v, rfl, hT, rfl, fv⟩ := y
    exact hs i v σ H T (fv xs q) p hT
  · have e : i = xs.length := by omega
    subst e
    exact .inl ⟨⟨xs, q, Nat.le_refl _⟩, hd σ H p⟩
/-- while, its invariant with a number that falls -/
def rTurn (Pv : Nat → L2.St → Hp → Prop) (m : Nat) (tb : TS) (D : Ends) (σ : L2.St) (H : Hp) : Prop :=
  ∃ N : L2.St → Hp → Prop, (∀ σ' H', N σ' H' → ∃ m', m' < m ∧ Pv m' σ' H') ∧ tb ⟨N, D.rt, D.nx, N⟩ σ H
theorem i_turn {Pv : Nat → L2.St → Hp → Prop} {m : Nat}
    (h : tb ⟨fun σ' H' => ∃ m', m' < m ∧ Pv m' σ' H', rt, nx, fun σ' H' => ∃ m', m' < m ∧ Pv m' σ' H'⟩ σ H) : rTurn Pv m tb ⟨nx, rt, bk, ct⟩ σ H := ⟨_, fun _ _ z => z, h⟩
theorem f_while (Pv : Nat → L2.St → Hp → Prop) (h0 : ∃ m, Pv m σ H)
    (hs : ∀ m σ H, Pv m σ H → c σ H fun b H1 => if b = true then rTurn Pv m tb ⟨nx, rt, bk, ct⟩ σ H1 else nx σ H1) : tWhile c tb ⟨nx, rt, bk, ct⟩ σ H :=
  ⟨Pv, h0, hs⟩
/-- if, its ways joined behind it -/
theorem f_cut {t u : TS} (Mid : L2.St → Hp → Prop) (h1 : t ⟨Mid, rt, bk, ct⟩ σ H) (h2 : ∀ σ' H', Mid σ' H' → u ⟨nx, rt, bk, ct⟩ σ' H') : C8.tCut t u ⟨nx, rt, bk, ct⟩ σ H := ⟨Mid, h1, h2⟩
end

/-! ### comprehensions -/
section
variable {K : PySem.W.Frag} {B H : Hp} {L : List (Addr × HO)} {σ : L2.St} {g : TG} {tt : TT} {te : TE} {vs : List Nat} {Q : VK} {a b : Addr} {xs ys : List V} {ns : List Int} {wi : TI}
theorem i_lc (h : wi σ H fun J H1 => rLc J g tt te vs σ H1 Q) : tLc wi g tt te vs σ H Q := h
theorem i_yes {R : Bool → Hp → Prop} (h : R true H) : tYes σ H R := h
theorem i_wipe {σ2 : L2.St} {P : Prop} (e : wipe σ2 vs = wipe σ vs) (h : P) : wipe σ2 vs = wipe σ vs ∧ P := ⟨e, h⟩
theorem i_elt (m : Nat) {D : Addr} {acc : List V} {Nx : Hp → Prop} {y : V} (T : Tr B L H) (h1 : L[m]? = some (D, .lst acc)) (hz : acc.length < sizeLine)
    (h : ∀ H', Tr B (L.set m (D, .lst (acc ++ [y]))) H' → Nx H') : rElt D Nx y H := ⟨acc, T.get m h1, hz, h _ (T.put m h1)⟩
theorem c_list (T : Tr B L H) (Pv : Addr → Nat → Hp → Prop) (h0 : ∀ D H', Tr B ((D, .lst []) :: L) H' → Pv D 0 H')
    (hl : ∀ D i H, Pv D i H → SqL K H a xs)
    (hs : ∀ D i x H, xs[i]? = some x → Pv D i H → g x (wipe σ vs) H fun σ2 H2 => wipe σ2 vs = wipe σ vs ∧ tt σ2 H2 fun b H3 =>
      if b = true then te σ2 H3 (rElt D (Pv D (i + 1))) else Pv D (i + 1) H3)
    (hd : ∀ D H', Pv D xs.length H' → Q (.ref D) H') : rLc (Itl K a) g tt te vs σ H Q := fun D hD =>
  lc_list (Pv D) (h0 D _ (T.new hD)) (fun i H _ h => hl D i H h) (hs D) (hd D)
theorem c_ints (T : Tr B L H) (Pv : Addr → Nat → Hp → Prop) (h0 : ∀ D H', Tr B ((D, .lst []) :: L) H' → Pv D 0 H')
    (hl : ∀ D i H, Pv D i H → SqL K H a (ns.map V.int))
    (hs : ∀ D i n H, ns[i]? = some n → Pv D i H → g (.int n) (wipe σ vs) H fun σ2 H2 => wipe σ2 vs = wipe σ vs ∧ tt σ2 H2 fun b H3 =>
      if b = true then te σ2 H3 (rElt D (Pv D (i + 1))) else Pv D (i + 1) H3)
    (hd : ∀ D H', Pv D ns.length H' → Q (.ref D) H') : rLc (Itl K a) g tt te vs σ H Q :=
  c_list (xs := ns.map V.int) T Pv h0 hl (fun D i x H e h => by
    rw [List.getElem?_map] at e
    cases z : ns[i]? with
    | none =>
      rw [z] at e
      cases e
    | some n =>
      rw [z] at e
      cases e
      exact hs D i n H z h) (by rw [List.length_map]; exact hd)
theorem c_range {lo : Int} {n : Nat} (T : Tr B L H) (Pv : Addr → Nat → Hp → Prop) (h0 : ∀ D H', Tr B ((D, .lst []) :: L) H' → Pv D 0 H')
    (hs : ∀ D i H, i < n → Pv D i H → g (.int (lo + i)) (wipe σ vs) H fun σ2 H2 => wipe σ2 vs = wipe σ vs ∧ tt σ2 H2 fun b H3 =>
      if b = true then te σ2 H3 (rElt D (Pv D (i + 1))) else Pv D (i + 1) H3)
    (hd : ∀ D H', Pv D n H' → Q (.ref D) H') : rLc (Itr lo n) g tt te vs σ H Q := fun D hD =>
  lc_range (Pv D) (h0 D _ (T.new hD)) (hs D) (hd D)
/-- over a zip: as long as both have items -/
theorem c_zip (T : Tr B L H) (Pv : Addr → Nat → Hp → Prop) (h0 : ∀ D H', Tr B ((D, .lst []) :: L) H' → Pv D 0 H')
    (hl : ∀ D i H, Pv D i H → SqL K H a xs ∧ SqL K H b ys) (hlen : xs.length = ys.length)
    (hs : ∀ D i x y H p, xs[i]? = some x → ys[i]? = some y → Pv D i H → H p = none → g (.ref p) (wipe σ vs) (upd H p (.tup [x, y])) fun σ2 H2 => wipe σ2 vs = wipe σ vs ∧ tt σ2 H2 fun b H3 =>
      if b = true then te σ2 H3 (rElt D (Pv D (i + 1))) else Pv D (i + 1) H3)
    (hd : ∀ D H', Pv D xs.length H' → Q (.ref D) H') : rLc (Itz K a b) g tt te vs σ H Q := fun D hD => by
  refine ⟨fun i m H => m = xs.length - i ∧ i ≤ xs.length ∧ Pv D i H, ⟨xs.length, by simp, Nat.zero_le _, h0 D _ (T.new hD)⟩, ?_⟩
  rintro i m H ⟨rfl, hi, p⟩
  obtain ⟨q1, q2⟩ := hl D i H p
  by_cases hlt : i < xs.length
  · have hy : i < ys.length := by omega
    refine .inr ⟨⟨xs, ys, xs[i], ys[i], q1, q2, by simp [hlt], by simp [hy]⟩, Pv D (i + 1), fun H' p' => ⟨xs.length - (i + 1), by omega, rfl, hlt, p'⟩, fun x H' y => ?_⟩
    obtain ⟨t, u, v, rfl, hT, rfl, f1, f2⟩ := y
    exact hs D i u v H t (f1 xs q1) (f2 ys q2) p hT
  · have e : i = xs.length := by omega
    subst e
    exact .inl ⟨⟨xs, ys, q1, q2, .inl (Nat.le_refl _)⟩, hd D H p⟩
theorem c_enum (T : Tr B L H) (Pv : Addr → Nat → Hp → Prop) (h0 : ∀ D H', Tr B ((D, .lst []) :: L) H' → Pv D 0 H')
    (hl : ∀ D i H, Pv D i H → SqL K H a xs)
    (hs : ∀ D i x H p, xs[i]? = some x → Pv D i H → H p = none → g (.ref p) (wipe σ vs) (upd H p (.tup [.int i, x])) fun σ2 H2 => wipe σ2 vs = wipe σ vs ∧ tt σ2 H2 fun b H3 =>
      if b = true then te σ2 H3 (rElt D (Pv D (i + 1))) else Pv D (i + 1) H3)
    (hd : ∀ D H', Pv D xs.length H' → Q (.ref D) H') : rLc (Ite K a) g tt te vs σ H Q := fun D hD => by
  refine ⟨fun i m H => m = xs.length - i ∧ i ≤ xs.length ∧ Pv D i H, ⟨xs.length, by simp, Nat.zero_le _, h0 D _ (T.new hD)⟩, ?_⟩
  rintro i m H ⟨rfl, hi, p⟩
  have q := hl D i H p
  by_cases hlt : i < xs.length
  · refine .inr ⟨⟨xs, xs[i], q, by simp [hlt]⟩, Pv D (i + 1), fun H' p' => ⟨xs.length - (i + 1), by omega, rfl, hlt, p'⟩, fun x H' y => ?_⟩
    obtain ⟨t, v, rfl, hT, rfl, fv⟩ := y
    exact hs D i v H t (fv xs q) p hT
  · have e : i = xs.length := by omega
    subst e
    exact .inl ⟨⟨xs, q, Nat.le_refl _⟩, hd D H p⟩
end

/-! ### the names of the built-ins, the defs -/
structure Blt (mg : Str → Option Value) : Prop where
  abs_ : mg "abs" = none
  all_ : mg "all" = none
  bool_ : mg "bool" = none
  dict_ : mg "dict" = none
  enumerate_ : mg "enumerate" = none
  int_ : mg "int" = none
  isinstance_ : mg "isinstance" = none
  len_ : mg "len" = none
  list_ : mg "list" = none
  max_ : mg "max" = none
  min_ : mg "min" = none
  range_ : mg "range" = none
  repr_ : mg "repr" = none
  set_ : mg "set" = none
  sorted_ : mg "sorted" = none
  str_ : mg "str" = none
  sum_ : mg "sum" = none
  tuple_ : mg "tuple" = none
  zip_ : mg "zip" = none
  ValueError_ : mg "ValueError" = none
theorem mkFn {P : Program} {w : World} {K : PySem.W.Frag} {mg : Str → Option Value} {base : Heap} {x qual : Str} {params : Arguments} {body : List Stmt} {scope : Scope}
    {f : Addr} {fd : FuncData} {ps : List Str} {k : Nat} {sp : Sp} (F : FunD K x qual params body scope [] [] f fd) (hm : mg x = some (.ref f))
    (hb : ∀ (kV doc pm : Value) (an : Option Addr) (cdv ct : Value) (us : List Value), us.length = ps.length →
      bindArgs (PySem.W.fnOf x qual params body scope .none kV doc pm an cdv ct) ⟨us, []⟩ = pure (ps.zip us))
    (G : FnG P w K mg base k f fd ps sp) : Fn P w K mg base k x ps sp := ⟨f, fd, hm, F.kp, F.bindsN hb, G⟩
end PB

namespace PB
open PySem PySem.Spec PyProof.Rows L2
/-! ### lists of ints as data -/
def dI (ns : List Int) : PyData := .list (ns.map .int)
theorem dp_all {K : PySem.W.Frag} {H : Hp} : ∀ ns : List Int, DpAll K H (ns.map V.int) (ns.map PyData.int)
  | [] => .nil
  | n :: ns => .cons (.int n) (dp_all ns)
theorem dp_ints {K : PySem.W.Frag} {H : Hp} {a : Addr} {ns : List Int} (h : SqL K H a (ns.map V.int)) : Dp K H (.ref a) (dI ns) := .lst h (dp_all ns)
theorem canLay_ints : ∀ ns : List Int, PyData.canLayAll0 (ns.map PyData.int) = true
  | [] => by simp [PyData.canLayAll0]
  | n :: ns => by
    simp only [List.map_cons, PyData.canLayAll0, PyData.canLay0, canLay_ints ns, Bool.and_self]
theorem depth_ints : ∀ ns : List Int, PyData.depthAll (ns.map PyData.int) = 0
  | [] => by simp [PyData.depthAll]
  | n :: ns => by
    simp only [List.map_cons, PyData.depthAll, PyData.depth, depth_ints ns, Nat.max_self]
theorem dI_depth (ns : List Int) : (dI ns).depth = 1 := by
  unfold dI
  rw [PyData.depth, depth_ints]
theorem shaped_ints (ns : List Int) : SeqAt.shaped (dI ns) = true := by
  unfold SeqAt.shaped
  rw [dI_depth]
  unfold dI
  rw [PyData.canLay0, canLay_ints]
  rfl
theorem showable_ints : ∀ ns : List Int, (∀ n ∈ ns, n.natAbs < 2 ^ 64) → PyData.showableAll (ns.map PyData.int) = true
  | [], _ => by simp [PyData.showableAll]
  | n :: ns, h => by
    have h1 : n.natAbs.log2 < 1920 := by
      have h2 := h n List.mem_cons_self
      have h3 : n.natAbs.log2 < 64 := PySem.Flt.log2_lt_of (by decide) h2
      omega
    simp only [List.map_cons, PyData.showableAll, PyData.showable, showable_ints ns (fun m hm => h m (List.mem_cons_of_mem _ hm)), Bool.and_true, decide_eq_true_eq]
    exact h1
theorem dI_showable {ns : List Int} (h : ∀ n ∈ ns, n.natAbs < 2 ^ 64) : (dI ns).showable = true := by
  unfold dI
  rw [PyData.showable, showable_ints ns h]
theorem nodict_ints : ∀ ns : List Int, PyData.hasDictAll (ns.map PyData.int) = false
  | [] => by simp [PyData.hasDictAll]
  | n :: ns => by
    simp only [List.map_cons, PyData.hasDictAll, PyData.hasDict, nodict_ints ns, Bool.or_self]
theorem dI_nodict (ns : List Int) : (dI ns).hasDict = false := by
  unfold dI
  rw [PyData.hasDict, nodict_ints]
theorem short_ints : ∀ ns : List Int, (∀ n ∈ ns, n.natAbs < 2 ^ 64) → PyData.leavesShortAll 65 (ns.map PyData.int) = true
  | [], _ => by simp [PyData.leavesShortAll]
  | n :: ns, h => by
    have h1 : (toString n).length ≤ 64 + 1 := int_text_length_le (by decide) (PySem.Flt.log2_lt_of (by decide) (h n List.mem_cons_self))
    simp only [List.map_cons, PyData.leavesShortAll, PyData.leavesShort, short_ints ns (fun m hm => h m (List.mem_cons_of_mem _ hm)), Bool.and_true, decide_eq_true_eq]
    show (Str.ofString (toString n)).length ≤ 65
    rw [PySem.ofString_length]
    exact h1
theorem weight_ints : ∀ ns : List Int, (∀ n ∈ ns, n.natAbs < 2 ^ 64) → PyData.weightAll (ns.map PyData.int) ≤ 66 * ns.length
  | [], _ => by simp [PyData.weightAll]
  | n :: ns, h => by
    have ih := weight_ints ns (fun m hm => h m (List.mem_cons_of_mem _ hm))
    have h3 : n.natAbs.log2 < 64 := PySem.Flt.log2_lt_of (by decide) (h n List.mem_cons_self)
    rw [List.map_cons, PyData.weightAll, PyData.weight, List.length_cons]
    split <;> omega
theorem dI_shown {ns : List Int} (h : ∀ n ∈ ns, n.natAbs < 2 ^ 64) (hl : ns.length ≤ 3000) : (dI ns).shown.length ≤ sizeLine := by
  have h1 : (dI ns).leavesShort 65 = true := by
    unfold dI
    rw [PyData.leavesShort, short_ints ns h]
  have h2 := PyData.shown_le 65 (by decide) (dI ns) h1
  have h3 : (dI ns).weight ≤ 66 * ns.length := by
    unfold dI
    rw [PyData.weight]
    exact weight_ints ns h
  rw [sizeLine_eq]
  have h4 : (65 + 2) * (dI ns).weight ≤ 67 * (66 * ns.length) := Nat.mul_le_mul_left _ h3
  omega
theorem eqv_ints : ∀ ns ms : List Int, PyData.eqvAll (ns.map .int) (ms.map .int) = decide (ns = ms)
  | [], [] => by simp [PyData.eqvAll]
  | [], m :: ms => by simp [PyData.eqvAll]
  | n :: ns, [] => by simp [PyData.eqvAll]
  | n :: ns, m :: ms => by
    rw [List.map_cons, List.map_cons, PyData.eqvAll, PyData.eqv, eqv_ints ns ms]
    by_cases h : n = m <;> by_cases h2 : ns = ms <;> simp [h, h2]
theorem dI_eqv (ns ms : List Int) : PyData.eqv (dI ns) (dI ms) = decide (ns = ms) := by
  unfold dI
  rw [PyData.eqv, eqv_ints]
section
variable {K : PySem.W.Frag} {B H : Hp} {Q : VK} {a b : Addr} {ns ms : List Int} {x : V}
theorem i_eqLI (h1 : SqL K H a (ns.map V.int)) (h2 : SqL K H b (ms.map V.int)) (h : Q (.bl (decide (ns = ms))) H) : rEqA K (.ref a) (.ref b) H Q :=
  i_eqD (dp_ints h1) (dp_ints h2) (shaped_ints _) (shaped_ints _) (by rw [dI_eqv]; exact h)
theorem i_neLI (h1 : SqL K H a (ns.map V.int)) (h2 : SqL K H b (ms.map V.int)) (h : Q (.bl (!decide (ns = ms))) H) : rNeA K (.ref a) (.ref b) H Q :=
  i_neD (dp_ints h1) (dp_ints h2) (shaped_ints _) (shaped_ints _) (by rw [dI_eqv]; exact h)
theorem i_eqLnil (h1 : SqL K H a (ns.map V.int)) (h2 : SqL K H b []) (h : Q (.bl (decide (ns = []))) H) : rEqA K (.ref a) (.ref b) H Q :=
  i_eqLI (ms := []) h1 h2 h
theorem i_neLnil (h1 : SqL K H a (ns.map V.int)) (h2 : SqL K H b []) (h : Q (.bl (!decide (ns = []))) H) : rNeA K (.ref a) (.ref b) H Q :=
  i_neLI (ms := []) h1 h2 h
/-- the text of a list of ints, kept closed -/
def txt (ns : List Int) : Str := (dI ns).shown
theorem i_reprI (h1 : SqL K H a (ns.map V.int)) (hn : ∀ n ∈ ns, n.natAbs < 2 ^ 64) (hl : ns.length ≤ 3000) (h : Q (.str (txt ns)) H) : rRepr K [.ref a] H Q :=
  i_repr (dp_ints h1) (dI_showable hn) (dI_nodict ns) (by rw [dI_depth]; decide) (dI_shown hn hl) h
theorem i_eqS {s t : Str} (h : Q (.bl (decide (s = t))) H) : rEqA K (.str s) (.str t) H Q := .inl ⟨rfl, by
  rw [show decide (V.str s = V.str t) = decide (s = t) by
    by_cases e : s = t
    · rw [decide_eq_true e, decide_eq_true (by rw [e])]
    · rw [decide_eq_false e, decide_eq_false (fun z => e (V.str.inj z))]]
  exact h⟩
theorem i_neS {s t : Str} (h : Q (.bl (!decide (s = t))) H) : rNeA K (.str s) (.str t) H Q := .inl ⟨rfl, by
  rw [show decide (V.str s = V.str t) = decide (s = t) by
    by_cases e : s = t
    · rw [decide_eq_true e, decide_eq_true (by rw [e])]
    · rw [decide_eq_false e, decide_eq_false (fun z => e (V.str.inj z))]]
  exact h⟩
theorem i_isi {T c : String} {k : Bool} (ht : TyX K H x (.type T)) (hk : kitB T c = some k) (h : Q (.bl k) H) : rIsi K [x, .ty c] H Q := ⟨x, .ty c, _, _, k, rfl, ClsV.ty c, ht, kit_ty hk, h⟩
theorem kit_ii : kitB "int" "int" = some true := by decide +kernel
theorem kit_ib : kitB "int" "bool" = some false := by decide +kernel
theorem i_isiI {n : Int} (h : Q (.bl true) H) : rIsi K [.int n, .ty "int"] H Q := i_isi (.base (.int n)) kit_ii h
theorem i_isiB {n : Int} (h : Q (.bl false) H) : rIsi K [.int n, .ty "bool"] H Q := i_isi (.base (.int n)) kit_ib h
end
/-! ### slices of lists of ints -/
theorem cut_map (ns : List Int) (lo hi : Option Int) : cutV (ns.map V.int) lo hi = (((ns.drop (HT.sIx ns.length 0 lo)).take (HT.sIx ns.length ns.length hi - HT.sIx ns.length 0 lo)).map V.int) := by
  unfold cutV
  rw [List.length_map, ← List.map_drop, ← List.map_take]
theorem sIx_of {n d : Nat} {i : Int} (h0 : 0 ≤ i) : HT.sIx n d (some i) = min i.toNat n := by
  show (if i < 0 then (i + (n : Int)).toNat else min i.toNat n) = min i.toNat n
  rw [if_neg (by omega)]
theorem rep_one {α : Type} (x : α) : ∀ n : Nat, (List.replicate n [x]).flatten = List.replicate n x
  | 0 => rfl
  | n + 1 => by rw [List.replicate_succ, List.flatten_cons, rep_one x n]; rfl
theorem i_nT {A C : Prop} (h : C) : if (!true) = true then A else C := by
  rw [if_neg (by decide)]
  exact h
theorem i_nF {A C : Prop} (h : A) : if (!false) = true then A else C := by
  rw [if_pos (by decide)]
  exact h
/-- the part of a list of ints -/
def cutI (ns : List Int) (lo hi : Option Int) : List Int := (ns.drop (HT.sIx ns.length 0 lo)).take (HT.sIx ns.length ns.length hi - HT.sIx ns.length 0 lo)
theorem cutI_length (ns : List Int) (lo hi : Option Int) : (cutI ns lo hi).length ≤ ns.length := by
  unfold cutI
  rw [List.length_take, List.length_drop]
  omega
theorem cutI_from (ns : List Int) {i : Int} (h0 : 0 ≤ i) : cutI ns (some i) none = ns.drop i.toNat := by
  unfold cutI
  rw [sIx_of h0, HT.sIx_none]
  by_cases h : i.toNat ≤ ns.length
  · rw [Nat.min_eq_left h, List.take_of_length_le (by rw [List.length_drop]; omega)]
  · rw [Nat.min_eq_right (by omega), List.drop_eq_nil_of_le (Nat.le_refl _), List.drop_eq_nil_of_le (by omega), List.take_nil]
theorem cutI_to (ns : List Int) {i : Int} (h0 : 0 ≤ i) : cutI ns none (some i) = ns.take i.toNat := by
  unfold cutI
  rw [sIx_of h0, HT.sIx_none]
  show ns.take (min i.toNat ns.length - 0) = _
  rw [Nat.sub_zero]
  by_cases h : i.toNat ≤ ns.length
  · rw [Nat.min_eq_left h]
  · rw [Nat.min_eq_right (by omega), List.take_of_length_le (Nat.le_refl _), List.take_of_length_le (by omega)]
theorem cutI_mid (ns : List Int) {i j : Int} (h0 : 0 ≤ i) (h1 : i ≤ j) (h2 : j ≤ ns.length) : cutI ns (some i) (some j) = (ns.drop i.toNat).take (j.toNat - i.toNat) := by
  unfold cutI
  rw [sIx_of h0, sIx_of (by omega), Nat.min_eq_left (by omega), Nat.min_eq_left (by omega)]
section
variable {K : PySem.W.Frag} {B H : Hp} {L : List (Addr × HO)} {Q : VK} {a b p : Addr} {ns ms : List Int} {x y n i k : Int} {te : TE} {σ : L2.St}
theorem i_tLE (h : te σ H fun x H1 => rLE K x H1 Q) : tLE K te σ H Q := h
theorem i_lst1 (T : Tr B L H) (h : ∀ p H', Tr B ((p, .lst ([x].map V.int)) :: L) H' → Q (.ref p) H') : rLst [.int x] H Q := i_lst T (show 1 ≤ sizeLine by decide) h
theorem i_lst2 (T : Tr B L H) (h : ∀ p H', Tr B ((p, .lst ([x, y].map V.int)) :: L) H' → Q (.ref p) H') : rLst [.int x, .int y] H Q := i_lst T (show 2 ≤ sizeLine by decide) h
theorem i_repI (T : Tr B L H) (h1 : H a = some (.lst ([x].map V.int))) (hk : -(2 ^ 63) ≤ k) (hk2 : k < 2 ^ 63) (hz : k.toNat ≤ sizeLine)
    (h : ∀ p H', Tr B ((p, .lst ((List.replicate k.toNat x).map V.int)) :: L) H' → Q (.ref p) H') : rMulA (.ref a) (.int k) H Q :=
  i_rep (xs := [.int x]) T h1 hk hk2 (by rw [List.length_singleton, Nat.one_mul]; exact hz) (by
    rw [rep_one, ← List.map_replicate]
    exact h)
theorem i_catI (T : Tr B L H) (h1 : H a = some (.lst (ns.map V.int))) (h2 : H b = some (.lst (ms.map V.int))) (hz : ns.length + ms.length ≤ sizeLine)
    (h : ∀ p H', Tr B ((p, .lst ((ns ++ ms).map V.int)) :: L) H' → Q (.ref p) H') : rAddA (.ref a) (.ref b) H Q :=
  i_cat T h1 h2 (by rw [List.length_map, List.length_map]; exact hz) (by rw [← List.map_append]; exact h)
theorem i_slI {lo hi : Option Int} (T : Tr B L H) (h1 : SqL K H a (ns.map V.int)) (h : ∀ p H', Tr B ((p, .lst ((cutI ns lo hi).map V.int)) :: L) H' → Q (.ref p) H') : rSlL K (.ref a) lo hi H Q :=
  i_slL T h1 (by rw [cut_map]; exact h)
theorem i_appendI (m : Nat) (T : Tr B L H) (h1 : L[m]? = some (a, .lst (ns.map V.int))) (hz : ns.length < sizeLine) (h : ∀ H', Tr B (L.set m (a, .lst ((ns ++ [n]).map V.int))) H' → Q .non H') : rAppend (.ref a) [.int n] H Q :=
  i_append m T h1 (by rw [List.length_map]; exact hz) (by
    rw [List.map_append] at h
    exact h)
theorem i_eltI (m : Nat) {D : Addr} {Nx : Hp → Prop} (T : Tr B L H) (h1 : L[m]? = some (D, .lst (ns.map V.int))) (hz : ns.length < sizeLine)
    (h : ∀ H', Tr B (L.set m (D, .lst ((ns ++ [n]).map V.int))) H' → Nx H') : rElt D Nx (.int n) H :=
  i_elt m T h1 (by rw [List.length_map]; exact hz) (by
    rw [List.map_append] at h
    exact h)
theorem ixN_int {n : Nat} {i : Int} (h0 : 0 ≤ i) (h1 : i < n) : ixN n i = some i.toNat := by
  unfold ixN
  rw [if_pos h0, if_pos h1]
theorem i_setI (m : Nat) {R : Hp → Prop} (T : Tr B L H) (h1 : L[m]? = some (a, .lst (ns.map V.int))) (h0 : 0 ≤ i) (h2 : i < ns.length)
    (h : ∀ H', Tr B (L.set m (a, .lst ((ns.set i.toNat n).map V.int))) H' → R H') : rSetL (.ref a) (.int i) (.int n) H R :=
  i_setL m (l := i.toNat) T h1 (ixN_int h0 (by rw [List.length_map]; exact h2)) (by
    rw [List.map_set] at h
    exact h)
end
/-- a call changes one object and lays a new one -/
theorem Tr.butAdd {B H H' : Hp} {L : List (Addr × HO)} {a p : Addr} {o o' u : HO} (T : Tr B L H) (i : Nat) (h : L[i]? = some (a, o)) (s : But [a] H H') (e : H' a = some o') (hp : H p = none) (e2 : H' p = some u) :
    Tr B ((p, u) :: L.set i (a, o')) H' := by
  have T1 := T.but i h s e
  have T2 := T.new (o := u) hp
  refine ⟨T1.base, fun q hq => ?_, fun q hq => ?_, ?_⟩
  · rcases List.mem_cons.mp hq with rfl | hq
    · exact e2
    · exact T1.at_ q hq
  · rcases List.mem_cons.mp hq with rfl | hq
    · exact T2.off (p, u) List.mem_cons_self
    · exact T1.off q hq
  · show (p :: (L.set i (a, o')).map (·.1)).Nodup
    rw [set_keys L i h]
    exact T2.nd
theorem get_mem {ns : List Int} {v : Int} (h0 : 0 ≤ v) (h1 : v < ns.length) : ns[v.toNat]! ∈ ns := by
  rw [List.getElem!_eq_getElem?_getD, List.getElem?_eq_getElem (by omega)]
  exact List.getElem_mem _
theorem get_bnd {ns : List Int} {lo hi : Int} (h : ∀ n ∈ ns, lo ≤ n ∧ n ≤ hi) {v : Int} (h0 : 0 ≤ v) (h1 : v < ns.length) : lo ≤ ns[v.toNat]! ∧ ns[v.toNat]! ≤ hi := h _ (get_mem h0 h1)

theorem Tr.swapDrop2 {B H : Hp} {x y : Addr × HO} {L : List (Addr × HO)} (T : Tr B (x :: y :: L) H) : Tr B (y :: L) H := T.drop
theorem Tr.swapDrop {B H : Hp} {x y : Addr × HO} {L : List (Addr × HO)} (T : Tr B (x :: y :: L) H) : Tr B (x :: L) H := by
  refine ⟨T.base, fun q hq => ?_, fun q hq => ?_, ?_⟩
  · rcases List.mem_cons.mp hq with rfl | hq
    · exact T.at_ _ List.mem_cons_self
    · exact T.at_ q (List.mem_cons_of_mem _ (List.mem_cons_of_mem _ hq))
  · rcases List.mem_cons.mp hq with rfl | hq
    · exact T.off _ List.mem_cons_self
    · exact T.off q (List.mem_cons_of_mem _ (List.mem_cons_of_mem _ hq))
  · have h := T.nd
    rw [List.map_cons, List.map_cons] at h
    rw [List.map_cons]
    obtain ⟨h1, h2⟩ := List.nodup_cons.mp h
    obtain ⟨h3, h4⟩ := List.nodup_cons.mp h2
    exact List.nodup_cons.mpr ⟨fun z => h1 (List.mem_cons_of_mem _ z), h4⟩
end PB

namespace PB
open PySem PySem.Spec PyProof.Rows L2
/-! ### the steps that ask nothing, found by the goal's head -/
class Step (P : Prop) (P' : outParam Prop) : Prop where
  h : P' → P
section
variable {K : PySem.W.Frag} {H : Hp} {σ : L2.St} {Q : VK} {t u : TS} {ta tb tc te to ti : TE} {tx : TA} {c tt : TT} {r r' : R2} {x y v w : V} {i j : Int} {xs : List V} {nx bk ct : L2.St → Hp → Prop} {rt : VK}
instance : Step (tSeq t u ⟨nx, rt, bk, ct⟩ σ H) (t ⟨u ⟨nx, rt, bk, ct⟩, rt, bk, ct⟩ σ H) := ⟨i_seq⟩
instance : Step (tNext ⟨nx, rt, bk, ct⟩ σ H) (nx σ H) := ⟨i_next⟩
instance : Step (tBreak ⟨nx, rt, bk, ct⟩ σ H) (bk σ H) := ⟨i_break⟩
instance : Step (tCont ⟨nx, rt, bk, ct⟩ σ H) (ct σ H) := ⟨i_cont⟩
instance : Step (tDrop te ⟨nx, rt, bk, ct⟩ σ H) (te σ H fun _ H1 => nx σ H1) := ⟨i_drop⟩
instance : Step (tRet te ⟨nx, rt, bk, ct⟩ σ H) (te σ H rt) := ⟨i_ret⟩
instance : Step (tRetN ⟨nx, rt, bk, ct⟩ σ H) (rt .non H) := ⟨i_retN⟩
instance : Step (tIfS c t u ⟨nx, rt, bk, ct⟩ σ H) (c σ H fun b H1 => if b = true then t ⟨nx, rt, bk, ct⟩ σ H1 else u ⟨nx, rt, bk, ct⟩ σ H1) := ⟨i_ifS⟩
instance {g : TG} : Step (tAsg te g ⟨nx, rt, bk, ct⟩ σ H) (te σ H fun x H1 => g x σ H1 nx) := ⟨i_asg⟩
instance {wi : TI} {g : TG} {tb : TS} : Step (tFor wi g tb ⟨nx, rt, bk, ct⟩ σ H) (wi σ H fun J H1 => rFor J g tb ⟨nx, rt, bk, ct⟩ σ H1) := ⟨i_for⟩
instance {m : Nat} {R : L2.St → Hp → Prop} : Step (gName m v σ H R) (R (σ.set m (some v)) H) := ⟨i_gName⟩
instance {n : Nat} {g : TGs} {R : L2.St → Hp → Prop} : Step (gTup K n g v σ H R) (rUnp K n g v σ H R) := ⟨i_gTup⟩
instance {g : TG} {gs : TGs} {R : L2.St → Hp → Prop} : Step (gCons g gs (x :: xs) σ H R) (g x σ H fun σ' H' => gs xs σ' H' R) := ⟨i_gCons⟩
instance {R : L2.St → Hp → Prop} : Step (gNil [] σ H R) (R σ H) := ⟨i_gNil⟩
instance {st : TSet} {R : L2.St → Hp → Prop} : Step (gSub to ti st v σ H R) (to σ H fun o H1 => ti σ H1 fun i H2 => st o i v H2 fun H3 => R σ H3) := ⟨i_gSub⟩
instance {f : Int → Int → Int} : Step (ipI f (.int i) (.int j) H Q) (Q (.int (f i j)) H) := ⟨i_ip⟩
section
variable {R : It → Hp → Prop}
instance : Step (iList K te σ H R) (te σ H fun x H1 => rItL K x H1 R) := ⟨i_iList⟩
instance : Step (iTup K te σ H R) (te σ H fun x H1 => rItT K x H1 R) := ⟨i_iTup⟩
instance : Step (iRng1 tx σ H R) (tx σ H fun vs H1 => rRg1 vs H1 R) := ⟨i_iRng1⟩
instance : Step (iRng2 tx σ H R) (tx σ H fun vs H1 => rRg2 vs H1 R) := ⟨i_iRng2⟩
instance : Step (iRng3 tx σ H R) (tx σ H fun vs H1 => rRg3 vs H1 R) := ⟨i_iRng3⟩
instance : Step (iEnum K tx σ H R) (tx σ H fun vs H1 => rEn K vs H1 R) := ⟨i_iEnum⟩
instance : Step (iZip K tx σ H R) (tx σ H fun vs H1 => rZp K vs H1 R) := ⟨i_iZip⟩
end
instance : Step (tC v σ H Q) (Q v H) := ⟨i_c⟩
instance : Step (tOp r ta tb σ H Q) (ta σ H fun x H1 => tb σ H1 fun y H2 => r x y H2 Q) := ⟨i_op⟩
instance {r : V → Hp → VK → Prop} : Step (tUn r ta σ H Q) (ta σ H fun x H1 => r x H1 Q) := ⟨i_un⟩
instance {g : Int → V} : Step (rU g (.int i) H Q) (Q (g i) H) := ⟨i_rU⟩
instance {g : Int → Int → V} : Step (rI0 g (.int i) (.int j) H Q) (Q (g i j) H) := ⟨i_I0⟩
instance : Step (rAddA (.int i) (.int j) H Q) (Q (.int (i + j)) H) := ⟨i_addI⟩
instance : Step (rEqA K (.int i) (.int j) H Q) (Q (.bl (decide (i = j))) H) := ⟨i_eqI⟩
instance : Step (rNeA K (.int i) (.int j) H Q) (Q (.bl (!decide (i = j))) H) := ⟨i_neI⟩
instance {a b : Bool} : Step (rEqA K (.bl a) (.bl b) H Q) (Q (.bl (decide (a = b))) H) := ⟨i_eqB⟩
instance {a b : Bool} : Step (rNeA K (.bl a) (.bl b) H Q) (Q (.bl (!decide (a = b))) H) := ⟨i_neB⟩
instance {s t : Str} : Step (rEqA K (.str s) (.str t) H Q) (Q (.bl (decide (s = t))) H) := ⟨i_eqS⟩
instance {s t : Str} : Step (rNeA K (.str s) (.str t) H Q) (Q (.bl (!decide (s = t))) H) := ⟨i_neS⟩
theorem i_isNI (h : Q (.bl false) H) : rIsN (.int i) .non H Q := i_isN h
theorem i_isNR {a : Addr} (h : Q (.bl false) H) : rIsN (.ref a) .non H Q := i_isN h
theorem i_isNN (h : Q (.bl true) H) : rIsN .non .non H Q := i_isN h
theorem i_notNI (h : Q (.bl true) H) : rNotN (.int i) .non H Q := i_notN h
theorem i_notNR {a : Addr} (h : Q (.bl true) H) : rNotN (.ref a) .non H Q := i_notN h
theorem i_notNN (h : Q (.bl false) H) : rNotN .non .non H Q := i_notN h
instance : Step (rIsN (.int i) .non H Q) (Q (.bl false) H) := ⟨i_isNI⟩
instance {a : Addr} : Step (rIsN (.ref a) .non H Q) (Q (.bl false) H) := ⟨i_isNR⟩
instance : Step (rIsN .non .non H Q) (Q (.bl true) H) := ⟨i_isNN⟩
instance : Step (rNotN (.int i) .non H Q) (Q (.bl true) H) := ⟨i_notNI⟩
instance {a : Addr} : Step (rNotN (.ref a) .non H Q) (Q (.bl true) H) := ⟨i_notNR⟩
instance : Step (rNotN .non .non H Q) (Q (.bl false) H) := ⟨i_notNN⟩
instance {R : List V → Hp → Prop} : Step (tCons te tx σ H R) (te σ H fun x H1 => tx σ H1 fun xs H2 => R (x :: xs) H2) := ⟨i_tcons⟩
instance {R : List V → Hp → Prop} : Step (tNil σ H R) (R [] H) := ⟨i_tnil⟩
instance : Step (tTup tx σ H Q) (tx σ H fun xs H1 => rTup xs H1 Q) := ⟨i_ttup⟩
instance : Step (tLst tx σ H Q) (tx σ H fun xs H1 => rLst xs H1 Q) := ⟨i_tlst⟩
instance {sp : Sp} {E : XK} : Step (tCall sp [] E tx σ H Q) (tx σ H fun vs H1 => sp vs H1 Q E) := ⟨i_call⟩
instance {r : List V → Hp → VK → Prop} : Step (tCB r tx σ H Q) (tx σ H fun vs H1 => r vs H1 Q) := ⟨i_cb⟩
instance : Step (rAbs [.int i] H Q) (Q (.int (if i < 0 then -i else i)) H) := ⟨i_abs⟩
instance : Step (rMax2 [.int i, .int j] H Q) (Q (.int (max i j)) H) := ⟨i_max2⟩
instance : Step (rMin2 [.int i, .int j] H Q) (Q (.int (min i j)) H) := ⟨i_min2⟩
instance : Step (rInt1 [.int i] H Q) (Q (.int i) H) := ⟨i_intI⟩
instance {k : Bool} : Step (rInt1 [.bl k] H Q) (Q (.int (if k then 1 else 0)) H) := ⟨i_intB⟩
instance : Step (rIsi K [.int i, .ty "int"] H Q) (Q (.bl true) H) := ⟨i_isiI⟩
instance : Step (rIsi K [.int i, .ty "bool"] H Q) (Q (.bl false) H) := ⟨i_isiB⟩
instance {T : String} {r : V → List V → Hp → VK → Prop} : Step (tBM K T r to tx σ H Q) (to σ H fun x H1 => rMt K T r tx σ x H1 Q) := ⟨i_bm⟩
instance {r : V → Option Int → Option Int → Hp → VK → Prop} {tl th : TO} : Step (tSl r te tl th σ H Q) (te σ H fun x H1 => tl σ H1 fun l H2 => th σ H2 fun u H3 => r x l u H3 Q) := ⟨i_sl⟩
instance {R : Option Int → Hp → Prop} : Step (tNoPart σ H R) (R none H) := ⟨i_nopart⟩
instance {R : Option Int → Hp → Prop} : Step (tPart te σ H R) (te σ H fun x H1 => rPart x H1 R) := ⟨i_part⟩
instance {R : Option Int → Hp → Prop} : Step (rPart (.int i) H R) (R (some i) H) := ⟨i_partI⟩
instance {R : Bool → Hp → Prop} : Step (tTest te σ H R) (te σ H fun x H1 => rBl x H1 R) := ⟨i_test⟩
instance {R : Bool → Hp → Prop} : Step (tB te σ H R) (te σ H fun x H1 => rBl x H1 R) := ⟨i_tB⟩
instance {R : Bool → Hp → Prop} {k : Bool} : Step (rBl (.bl k) H R) (R k H) := ⟨i_bl⟩
instance {R : Bool → Hp → Prop} : Step (tAnd c tt σ H R) (c σ H fun b H1 => if b = true then tt σ H1 R else R false H1) := ⟨i_and⟩
instance {R : Bool → Hp → Prop} : Step (tOr c tt σ H R) (c σ H fun b H1 => if b = true then R true H1 else tt σ H1 R) := ⟨i_or⟩
instance {R : Bool → Hp → Prop} : Step (tNot c σ H R) (c σ H fun b H1 => R (!b) H1) := ⟨i_not⟩
instance : Step (tAndV ta tb σ H Q) (ta σ H fun x H1 => rBl x H1 fun k H2 => if k = true then tb σ H2 Q else Q (.bl false) H2) := ⟨i_andV⟩
instance : Step (tOrV ta tb σ H Q) (ta σ H fun x H1 => rBl x H1 fun k H2 => if k = true then Q (.bl true) H2 else tb σ H2 Q) := ⟨i_orV⟩
instance : Step (tNotV ta σ H Q) (ta σ H fun x H1 => rBl x H1 fun k H2 => Q (.bl (!k)) H2) := ⟨i_notV⟩
instance : Step (tIf c ta tb σ H Q) (c σ H fun b H1 => if b = true then ta σ H1 Q else tb σ H1 Q) := ⟨i_ifE⟩
instance : Step (tChain r r' ta tb tc σ H Q) (ta σ H fun x H1 => tb σ H1 fun y H2 => r x y H2 fun z H3 => rBl z H3 fun k H4 => if k = true then tc σ H4 fun w' H5 => r' y w' H5 Q else Q (.bl false) H4) := ⟨i_chain⟩
instance {g : TG} {vs : List Nat} {wi : TI} : Step (tLc wi g tt te vs σ H Q) (wi σ H fun J H1 => rLc J g tt te vs σ H1 Q) := ⟨i_lc⟩
instance {R : Bool → Hp → Prop} : Step (tYes σ H R) (R true H) := ⟨i_yes⟩
instance : Step (tLE K te σ H Q) (te σ H fun x H1 => rLE K x H1 Q) := ⟨i_tLE⟩
instance {A C : Prop} : Step (if true = true then A else C) A := ⟨i_T⟩
instance {A C : Prop} : Step (if false = true then A else C) C := ⟨i_F⟩
instance {A C : Prop} : Step (if (!true) = true then A else C) C := ⟨i_nT⟩
instance {A C : Prop} : Step (if (!false) = true then A else C) A := ⟨i_nF⟩
instance {Pv : Nat → L2.St → Hp → Prop} {m : Nat} : Step (rTurn Pv m t ⟨nx, rt, bk, ct⟩ σ H) (t ⟨fun σ' H' => ∃ m', m' < m ∧ Pv m' σ' H', rt, nx, fun σ' H' => ∃ m', m' < m ∧ Pv m' σ' H'⟩ σ H) := ⟨i_turn⟩
/-! guards: is the head this one? -/
theorem g_var {m : Nat} (h : tVar m σ H Q) : tVar m σ H Q := h
theorem g_ix (h : rIx K x y H Q) : rIx K x y H Q := h
theorem g_len (h : rLen K xs H Q) : rLen K xs H Q := h
theorem g_add (h : rAddA x y H Q) : rAddA x y H Q := h
theorem g_mul (h : rMulA x y H Q) : rMulA x y H Q := h
theorem g_I {C : Int → Int → Prop} {g : Int → Int → V} (h : rI C g x y H Q) : rI C g x y H Q := h
theorem g_eq (h : rEqA K x y H Q) : rEqA K x y H Q := h
theorem g_ne (h : rNeA K x y H Q) : rNeA K x y H Q := h
theorem g_tup (h : rTup xs H Q) : rTup xs H Q := h
theorem g_lst (h : rLst xs H Q) : rLst xs H Q := h
theorem g_list (h : rListOf K xs H Q) : rListOf K xs H Q := h
theorem g_sl {lo hi : Option Int} (h : rSlL K x lo hi H Q) : rSlL K x lo hi H Q := h
theorem g_mt {T : String} {r : V → List V → Hp → VK → Prop} (h : rMt K T r tx σ x H Q) : rMt K T r tx σ x H Q := h
theorem g_app (h : rAppend x xs H Q) : rAppend x xs H Q := h
theorem g_set {R : Hp → Prop} (h : rSetL x y v H R) : rSetL x y v H R := h
theorem g_elt {D : Addr} {Nx : Hp → Prop} (h : rElt D Nx y H) : rElt D Nx y H := h
theorem g_unp {n : Nat} {g : TGs} {R : L2.St → Hp → Prop} (h : rUnp K n g v σ H R) : rUnp K n g v σ H R := h
theorem g_itL {R : It → Hp → Prop} (h : rItL K x H R) : rItL K x H R := h
theorem g_itT {R : It → Hp → Prop} (h : rItT K x H R) : rItT K x H R := h
theorem g_en {R : It → Hp → Prop} (h : rEn K xs H R) : rEn K xs H R := h
theorem g_zp {R : It → Hp → Prop} (h : rZp K xs H R) : rZp K xs H R := h
theorem g_rg1 {R : It → Hp → Prop} (h : rRg1 xs H R) : rRg1 xs H R := h
theorem g_rg2 {R : It → Hp → Prop} (h : rRg2 xs H R) : rRg2 xs H R := h
theorem g_sum (h : rSum K xs H Q) : rSum K xs H Q := h
theorem g_repr (h : rRepr K xs H Q) : rRepr K xs H Q := h
theorem g_ite {b : Bool} {A C : Prop} (h : if b = true then A else C) : if b = true then A else C := h
theorem g_wipe {vs : List Nat} {σ2 : L2.St} {P : Prop} (h : wipe σ2 vs = wipe σ vs ∧ P) : wipe σ2 vs = wipe σ vs ∧ P := h
theorem g_aug {m : Nat} {ip : TIp} {D : Ends} (h : tAug m te ip D σ H) : tAug m te ip D σ H := h
theorem g_sp {sp : Sp} {E : XK} (h : sp xs H Q E) : sp xs H Q E := h
end
end PB

namespace PB
open PySem PySem.Spec PyProof.Rows L2
section
variable {K : PySem.W.Frag} {B H : Hp} {L : List (Addr × HO)} {σ : L2.St} {g : TG} {tt : TT} {te : TE} {vs : List Nat} {Q : VK} {a b : Addr} {xs ys : List V} {ns ms : List Int}
theorem Tr.pick {x : Addr × HO} (T : Tr B L H) (i : Nat) (h : L[i]? = some x) : Tr B [x] H :=
  ⟨T.base, fun q hq => by rw [List.mem_singleton.mp hq]; exact T.at_ _ (List.mem_of_getElem? h), fun q hq => by rw [List.mem_singleton.mp hq]; exact T.off _ (List.mem_of_getElem? h), by simp⟩
theorem Tr.head {x : Addr × HO} (T : Tr B (x :: L) H) : Tr B [x] H := T.pick 0 rfl
theorem Tr.nil (T : Tr B L H) : Tr B [] H := ⟨T.base, (fun _ h => nomatch h), (fun _ h => nomatch h), List.nodup_nil⟩
theorem Tr.apart {o u : HO} (T : Tr B L H) (i j : Nat) (h : L[i]? = some (a, o)) (h2 : L[j]? = some (b, u)) (n : i ≠ j) : a ≠ b := fun e => by
  refine n ((List.getElem?_inj (l := L.map (·.1)) ?_ T.nd).mp ?_)
  · rw [List.length_map]
    exact (List.getElem?_eq_some_iff.mp h).1
  · rw [List.getElem?_map, List.getElem?_map, h, h2, e]
    rfl
/-- comprehensions that make ints, each of one item, all else standing: F the whole result -/
abbrev NxI (B : Hp) (L : List (Addr × HO)) (F : List Int) (D : Addr) (j : Nat) (H : Hp) : Prop := ∃ v, F[j]? = some v ∧ Tr B ((D, .lst ((F.take j ++ [v]).map V.int)) :: L) H
theorem nx_take {F : List Int} {D : Addr} {j : Nat} (h : NxI B L F D j H) : Tr B ((D, .lst ((F.take (j + 1)).map V.int)) :: L) H := by
  obtain ⟨v, hv, T⟩ := h
  rw [List.take_add_one, hv]
  exact T
theorem elt_imp {D : Addr} {N M : Hp → Prop} {y : V} (h : rElt D N y H) (i : ∀ H, N H → M H) : rElt D M y H := by
  obtain ⟨acc, h1, h2, h3⟩ := h
  exact ⟨acc, h1, h2, i _ h3⟩
theorem c_intsF {F : List Int} (T : Tr B L H) (hl : ∀ D o H', Tr B ((D, o) :: L) H' → SqL K H' a (ns.map V.int)) (hF : F.length = ns.length)
    (hs : ∀ D j n H', ns[j]? = some n → Tr B ((D, .lst ((F.take j).map V.int)) :: L) H' → g (.int n) (wipe σ vs) H' fun σ2 H2 => wipe σ2 vs = wipe σ vs ∧ tYes σ2 H2 fun b H3 =>
      if b = true then te σ2 H3 (rElt D fun H4 => Tr B ((D, .lst ((F.take (j + 1)).map V.int)) :: L) H4) else Tr B ((D, .lst ((F.take (j + 1)).map V.int)) :: L) H3)
    (hd : ∀ D H', Tr B ((D, .lst (F.map V.int)) :: L) H' → Q (.ref D) H') : rLc (Itl K a) g tYes te vs σ H Q :=
  c_ints T (fun D j H => Tr B ((D, .lst ((F.take j).map V.int)) :: L) H) (fun D H' T => T) (fun D j H T => hl D _ H T) hs
    (fun D H' T => hd D H' (by rw [← hF, List.take_length] at T; exact T))
theorem c_rangeF {F : List Int} {lo : Int} {n : Nat} (T : Tr B L H) (hF : F.length = n)
    (hs : ∀ D j H', j < n → Tr B ((D, .lst ((F.take j).map V.int)) :: L) H' → g (.int (lo + j)) (wipe σ vs) H' fun σ2 H2 => wipe σ2 vs = wipe σ vs ∧ tYes σ2 H2 fun b H3 =>
      if b = true then te σ2 H3 (rElt D fun H4 => Tr B ((D, .lst ((F.take (j + 1)).map V.int)) :: L) H4) else Tr B ((D, .lst ((F.take (j + 1)).map V.int)) :: L) H3)
    (hd : ∀ D H', Tr B ((D, .lst (F.map V.int)) :: L) H' → Q (.ref D) H') : rLc (Itr lo n) g tYes te vs σ H Q :=
  c_range T (fun D j H => Tr B ((D, .lst ((F.take j).map V.int)) :: L) H) (fun D H' T => T) hs
    (fun D H' T => hd D H' (by rw [← hF, List.take_length] at T; exact T))
theorem map_at {i : Nat} {x : V} (h : (ns.map V.int)[i]? = some x) : ∃ n, x = .int n ∧ ns[i]? = some n := by
  rw [List.getElem?_map] at h
  cases e : ns[i]? with
  | none =>
    rw [e] at h
    cases h
  | some n =>
    rw [e] at h
    exact ⟨n, (Option.some.inj h).symm, rfl⟩
theorem c_zipF {F : List Int} (T : Tr B L H) (hl : ∀ D o H', Tr B ((D, o) :: L) H' → SqL K H' a (ns.map V.int)) (hl2 : ∀ D o H', Tr B ((D, o) :: L) H' → SqL K H' b (ms.map V.int))
    (hlen : ns.length = ms.length) (hF : F.length = ns.length)
    (hs : ∀ D j n m p H', ns[j]? = some n → ms[j]? = some m → Tr B ((p, .tup [.int n, .int m]) :: (D, .lst ((F.take j).map V.int)) :: L) H' → g (.ref p) (wipe σ vs) H' fun σ2 H2 => wipe σ2 vs = wipe σ vs ∧ tYes σ2 H2 fun b H3 =>
      if b = true then te σ2 H3 (rElt D fun H4 => Tr B ((D, .lst ((F.take (j + 1)).map V.int)) :: L) H4) else Tr B ((D, .lst ((F.take (j + 1)).map V.int)) :: L) H3)
    (hd : ∀ D H', Tr B ((D, .lst (F.map V.int)) :: L) H' → Q (.ref D) H') : rLc (Itz K a b) g tYes te vs σ H Q :=
  c_zip (xs := ns.map V.int) (ys := ms.map V.int) T (fun D j H => Tr B ((D, .lst ((F.take j).map V.int)) :: L) H) (fun D H' T => T) (fun D j H T => ⟨hl D _ H T, hl2 D _ H T⟩) (by simp [hlen])
    (fun D j x y H p hx hy T hp => by
      obtain ⟨n, rfl, hn⟩ := map_at hx
      obtain ⟨m, rfl, hm⟩ := map_at hy
      exact hs D j n m p _ hn hm (T.new hp))
    (fun D H' T => hd D H' (by rw [List.length_map, ← hF, List.take_length] at T; exact T))
/-- for over a range whose turns leave nothing but what the word says -/
theorem take_succ_get {F : List Int} {j : Nat} {v : Int} (h : F[j]? = some v) : F.take (j + 1) = F.take j ++ [v] := by
  rw [List.take_add_one, h]
  rfl
/-- a truth that does not matter -/
theorem i_andAny {p : Prop} [Decidable p] {tb : TE} (h2 : p → ∀ Q' : VK, (∀ b, Q' (.bl b) H) → tb σ H Q') (h : ∀ b, Q (.bl b) H) : if decide p = true then tb σ H Q else Q (.bl false) H := by
  by_cases hp : p
  · exact i_decT hp (h2 hp Q h)
  · exact i_decF hp (h false)
end
/-- a display of ints -/
class IsInts (xs : List V) (ns : outParam (List Int)) : Prop where
  e : xs = ns.map V.int
instance : IsInts [] [] := ⟨rfl⟩
instance {xs : List V} {ns : List Int} {n : Int} [h : IsInts xs ns] : IsInts (.int n :: xs) (n :: ns) := ⟨by rw [h.e]; rfl⟩
theorem i_lstC {B H : Hp} {L : List (Addr × HO)} {Q : VK} {xs : List V} {ns : List Int} [h : IsInts xs ns] (T : Tr B L H) (hz : ns.length ≤ sizeLine) (k : ∀ p H', Tr B ((p, .lst (ns.map V.int)) :: L) H' → Q (.ref p) H') : rLst xs H Q :=
  i_lst T (by rw [h.e, List.length_map]; exact hz) (by rw [h.e]; exact k)
/-- if, its ways joined behind it with like slots -/
theorem f_cutR {nx bk ct : L2.St → Hp → Prop} {rt : VK} {t u : TS} {σ : L2.St} {H : Hp} (R : Hp → Prop) {σ1 : L2.St} (h1 : t ⟨fun σ' H' => σ' = σ1 ∧ R H', rt, bk, ct⟩ σ H) (h2 : ∀ H', R H' → u ⟨nx, rt, bk, ct⟩ σ1 H') : C8.tCut t u ⟨nx, rt, bk, ct⟩ σ H :=
  f_cut (fun σ' H' => σ' = σ1 ∧ R H') h1 fun σ' H' ⟨e, r⟩ => by rw [e]; exact h2 H' r
/-! ### loops whose turns change some slots, and leave what stands -/
def NW {ω : Type} (W : ω → L2.St) (B : Hp) (L : List (Addr × HO)) (σ' : L2.St) (H' : Hp) : Prop := (∃ w, σ' = W w) ∧ Tr B L H'
section
variable {K : PySem.W.Frag} {B H : Hp} {L : List (Addr × HO)} {σ : L2.St} {nx bk ct : L2.St → Hp → Prop} {rt : VK} {g : TG} {tb : TS} {a : Addr} {xs : List V} {ns : List Int} {ω : Type}
theorem f_rangeW {lo : Int} {n : Nat} (W : L2.St → ω → L2.St) (w0 : ω) (e0 : σ = W σ w0) (T : Tr B L H)
    (hs : ∀ j w H', j < n → Tr B L H' → g (.int (lo + (j : Nat))) (W σ w) H' fun σ2 H2 => tb ⟨NW (W σ) B L, rt, nx, NW (W σ) B L⟩ σ2 H2)
    (hd : ∀ w H', Tr B L H' → nx (W σ w) H') : rFor (Itr lo n) g tb ⟨nx, rt, bk, ct⟩ σ H :=
  f_range (fun _ σ' H' => NW (W σ) B L σ' H') ⟨⟨w0, e0⟩, T⟩ (fun j σ' H' hj ⟨⟨w, e⟩, T⟩ => by rw [e]; exact hs j w H' hj T) (fun σ' H' ⟨⟨w, e⟩, T⟩ => by rw [e]; exact hd w H' T)
theorem f_listW (W : L2.St → ω → L2.St) (w0 : ω) (e0 : σ = W σ w0) (T : Tr B L H) (hl : ∀ H', Tr B L H' → SqL K H' a xs)
    (hs : ∀ (j : Nat) x w H', xs[j]? = some x → Tr B L H' → g x (W σ w) H' fun σ2 H2 => tb ⟨NW (W σ) B L, rt, nx, NW (W σ) B L⟩ σ2 H2)
    (hd : ∀ w H', Tr B L H' → nx (W σ w) H') : rFor (Itl K a) g tb ⟨nx, rt, bk, ct⟩ σ H :=
  f_list (fun _ σ' H' => NW (W σ) B L σ' H') ⟨⟨w0, e0⟩, T⟩ (fun _ _ H' h => hl H' h.2) (fun j x σ' H' hx ⟨⟨w, e⟩, T⟩ => by rw [e]; exact hs j x w H' hx T) (fun σ' H' ⟨⟨w, e⟩, T⟩ => by rw [e]; exact hd w H' T)
theorem f_intsW (W : L2.St → ω → L2.St) (w0 : ω) (e0 : σ = W σ w0) (T : Tr B L H) (hl : ∀ H', Tr B L H' → SqL K H' a (ns.map V.int))
    (hs : ∀ (j : Nat) x w H', ns[j]? = some x → Tr B L H' → g (.int x) (W σ w) H' fun σ2 H2 => tb ⟨NW (W σ) B L, rt, nx, NW (W σ) B L⟩ σ2 H2)
    (hd : ∀ w H', Tr B L H' → nx (W σ w) H') : rFor (Itl K a) g tb ⟨nx, rt, bk, ct⟩ σ H :=
  f_ints (fun _ σ' H' => NW (W σ) B L σ' H') ⟨⟨w0, e0⟩, T⟩ (fun _ _ H' h => hl H' h.2) (fun j x σ' H' hx ⟨⟨w, e⟩, T⟩ => by rw [e]; exact hs j x w H' hx T) (fun σ' H' ⟨⟨w, e⟩, T⟩ => by rw [e]; exact hd w H' T)
theorem f_tupW (W : L2.St → ω → L2.St) (w0 : ω) (e0 : σ = W σ w0) (T : Tr B L H) (hl : ∀ H', Tr B L H' → SqT K H' a xs)
    (hs : ∀ (j : Nat) x w H', xs[j]? = some x → Tr B L H' → g x (W σ w) H' fun σ2 H2 => tb ⟨NW (W σ) B L, rt, nx, NW (W σ) B L⟩ σ2 H2)
    (hd : ∀ w H', Tr B L H' → nx (W σ w) H') : rFor (Itt K a) g tb ⟨nx, rt, bk, ct⟩ σ H :=
  f_tup (fun _ σ' H' => NW (W σ) B L σ' H') ⟨⟨w0, e0⟩, T⟩ (fun _ _ H' h => hl H' h.2) (fun j x σ' H' hx ⟨⟨w, e⟩, T⟩ => by rw [e]; exact hs j x w H' hx T) (fun σ' H' ⟨⟨w, e⟩, T⟩ => by rw [e]; exact hd w H' T)
/-- the same with a word about the heap at each turn -/
def NR {ω : Type} (W : ω → L2.St) (R : Hp → Prop) (σ' : L2.St) (H' : Hp) : Prop := (∃ w, σ' = W w) ∧ R H'
theorem f_rangeR {lo : Int} {n : Nat} (W : L2.St → ω → L2.St) (w0 : ω) (e0 : σ = W σ w0) (R : Nat → Hp → Prop) (r0 : R 0 H)
    (hs : ∀ j w H', j < n → R j H' → g (.int (lo + (j : Nat))) (W σ w) H' fun σ2 H2 => tb ⟨NR (W σ) (R (j + 1)), rt, nx, NR (W σ) (R (j + 1))⟩ σ2 H2)
    (hd : ∀ w H', R n H' → nx (W σ w) H') : rFor (Itr lo n) g tb ⟨nx, rt, bk, ct⟩ σ H :=
  f_range (fun j σ' H' => NR (W σ) (R j) σ' H') ⟨⟨w0, e0⟩, r0⟩ (fun j σ' H' hj ⟨⟨w, e⟩, T⟩ => by rw [e]; exact hs j w H' hj T) (fun σ' H' ⟨⟨w, e⟩, T⟩ => by rw [e]; exact hd w H' T)
theorem f_listR (W : L2.St → ω → L2.St) (w0 : ω) (e0 : σ = W σ w0) (R : Nat → Hp → Prop) (r0 : R 0 H) (hl : ∀ j H', R j H' → SqL K H' a xs)
    (hs : ∀ (j : Nat) x w H', xs[j]? = some x → R j H' → g x (W σ w) H' fun σ2 H2 => tb ⟨NR (W σ) (R (j + 1)), rt, nx, NR (W σ) (R (j + 1))⟩ σ2 H2)
    (hd : ∀ w H', R xs.length H' → nx (W σ w) H') : rFor (Itl K a) g tb ⟨nx, rt, bk, ct⟩ σ H :=
  f_list (fun j σ' H' => NR (W σ) (R j) σ' H') ⟨⟨w0, e0⟩, r0⟩ (fun j _ H' h => hl j H' h.2) (fun j x σ' H' hx ⟨⟨w, e⟩, T⟩ => by rw [e]; exact hs j x w H' hx T) (fun σ' H' ⟨⟨w, e⟩, T⟩ => by rw [e]; exact hd w H' T)
theorem f_intsR (W : L2.St → ω → L2.St) (w0 : ω) (e0 : σ = W σ w0) (R : Nat → Hp → Prop) (r0 : R 0 H) (hl : ∀ j H', R j H' → SqL K H' a (ns.map V.int))
    (hs : ∀ (j : Nat) x w H', ns[j]? = some x → R j H' → g (.int x) (W σ w) H' fun σ2 H2 => tb ⟨NR (W σ) (R (j + 1)), rt, nx, NR (W σ) (R (j + 1))⟩ σ2 H2)
    (hd : ∀ w H', R ns.length H' → nx (W σ w) H') : rFor (Itl K a) g tb ⟨nx, rt, bk, ct⟩ σ H :=
  f_ints (fun j σ' H' => NR (W σ) (R j) σ' H') ⟨⟨w0, e0⟩, r0⟩ (fun j _ H' h => hl j H' h.2) (fun j x σ' H' hx ⟨⟨w, e⟩, T⟩ => by rw [e]; exact hs j x w H' hx T) (fun σ' H' ⟨⟨w, e⟩, T⟩ => by rw [e]; exact hd w H' T)
abbrev S4 (s t u x : Nat) (σ : L2.St) (w : Option V × Option V × Option V × Option V) : L2.St := (((σ.set s w.1).set t w.2.1).set u w.2.2.1).set x w.2.2.2
abbrev S1 (s : Nat) (σ : L2.St) (w : Option V) : L2.St := σ.set s w
abbrev S2 (s t : Nat) (σ : L2.St) (w : Option V × Option V) : L2.St := (σ.set s w.1).set t w.2
abbrev S3 (s t u : Nat) (σ : L2.St) (w : Option V × Option V × Option V) : L2.St := ((σ.set s w.1).set t w.2.1).set u w.2.2
end
theorem two_get {α : Type} {u v x : α} {k : Nat} (h : [u, v][k]? = some x) : x = u ∨ x = v := by
  match k, h with
  | 0, h => exact .inl (Option.some.inj h).symm
  | 1, h => exact .inr (Option.some.inj h).symm
  | k + 2, h => simp at h
theorem getE_of {ns : List Int} {i : Nat} {n : Int} (h : ns[i]? = some n) : ns[i]! = n := by
  rw [List.getElem!_eq_getElem?_getD, h]
  rfl
section
variable {K : PySem.W.Frag} {B H : Hp} {L : List (Addr × HO)} {σ : L2.St} {nx bk ct : L2.St → Hp → Prop} {rt : VK} {g : TG} {tb : TS} {a : Addr} {xs : List V} {ns ms : List Int} {Q : VK} {x y : V} {i j : Int}
theorem i_rg3n {R : It → Hp → Prop} (h1 : -(2 ^ 62) ≤ i ∧ i < 2 ^ 62 ∧ -(2 ^ 62) ≤ j ∧ j < 2 ^ 62) (h : R (Itc i (-1) (i - j).toNat) H) : rRg3 [.int i, .int j, .int (-1)] H R :=
  ⟨i, j, -1, _, rfl, RgC.neg h1.1 h1.2.1 h1.2.2.1 h1.2.2.2, h⟩
theorem g_rg3 {R : It → Hp → Prop} (h : rRg3 xs H R) : rRg3 xs H R := h
theorem f_enumI (Pv : Nat → L2.St → Hp → Prop) (h0 : Pv 0 σ H) (hl : ∀ i σ H, Pv i σ H → SqL K H a (ns.map V.int))
    (hs : ∀ (i : Nat) n σ H p, ns[i]? = some n → Pv i σ H → H p = none → g (.ref p) σ (upd H p (.tup [.int i, .int n])) fun σ2 H2 => tb ⟨Pv (i + 1), rt, nx, Pv (i + 1)⟩ σ2 H2)
    (hd : ∀ σ H, Pv ns.length σ H → nx σ H) : rFor (Ite K a) g tb ⟨nx, rt, bk, ct⟩ σ H :=
  f_enum (xs := ns.map V.int) Pv h0 hl (fun i x σ H p hx h hp => by
    obtain ⟨n, rfl, hn⟩ := map_at hx
    exact hs i n σ H p hn h hp) (by rw [List.length_map]; exact hd)
theorem atI_map {α : Type} [Inhabited α] {f : α → V} {fs : List α} (h0 : 0 ≤ i) (h1 : i < fs.length) : atI (fs.map f) i = some (f fs[i.toNat]!) := by
  obtain ⟨m, rfl⟩ : ∃ m : Nat, i = m := ⟨i.toNat, by omega⟩
  refine atI_nat ?_
  rw [List.getElem?_map, Int.toNat_natCast, List.getElem!_eq_getElem?_getD, List.getElem?_eq_getElem (by omega)]
  rfl
theorem i_ixM {α : Type} [Inhabited α] {f : α → V} {fs : List α} (h1 : SqL K H a (fs.map f)) (h0 : 0 ≤ i) (h2 : i < fs.length) (h : Q (f fs[i.toNat]!) H) : rIx K (.ref a) (.int i) H Q := i_ixL h1 (atI_map h0 h2) h
/-- the last item -/
theorem atI_lastI (h : ns ≠ []) : atI (ns.map V.int) (-1) = some (.int (ns.getLast h)) := by
  have e : ns.map V.int = ns.dropLast.map V.int ++ [.int (ns.getLast h)] := by
    rw [← List.map_singleton, ← List.map_append, List.dropLast_concat_getLast]
  rw [e]
  exact atI_last _ _
theorem i_ixLast (h1 : SqL K H a (ns.map V.int)) (hn : ns ≠ []) (h : Q (.int (ns.getLast hn)) H) : rIx K (.ref a) (.int (-1)) H Q := i_ixL h1 (atI_lastI hn) h
/-- a value whose text and kind are told by a datum -/
structure SameD (K : PySem.W.Frag) (H : Hp) (x : V) (d : PyData) (l : Bool) : Prop where
  dp : Dp K H x d
  ty : ∃ T, TyX K H x (.type T) ∧ kitB T "list" = some l
  sh : d.showable = true
  nd : d.hasDict = false
  de : d.depth ≤ 60
  le : d.shown.length ≤ sizeLine
theorem kit_nl : kitB "NoneType" "list" = some false := by decide +kernel
theorem kit_il : kitB "int" "list" = some false := by decide +kernel
theorem kit_ll : kitB "list" "list" = some true := by decide +kernel
theorem sd_non : SameD K H .non .none false :=
  ⟨.non, ⟨_, .base .non, kit_nl⟩, by simp [PyData.showable], by simp [PyData.hasDict], by simp [PyData.depth], by
    rw [PyData.shown]
    show (Str.ofString "None").length ≤ sizeLine
    rw [PySem.ofString_length]
    decide⟩
theorem sd_int (h : i.natAbs < 2 ^ 64) : SameD K H (.int i) (.int i) false := by
  have h3 : i.natAbs.log2 < 64 := PySem.Flt.log2_lt_of (by decide) h
  refine ⟨.int i, ⟨_, .base (.int i), kit_il⟩, ?_, by simp [PyData.hasDict], by simp [PyData.depth], ?_⟩
  · rw [PyData.showable, decide_eq_true_eq]
    omega
  · rw [PyData.shown]
    exact int_text_fits (by omega)
theorem sd_ints (h : H a = some (.lst (ns.map V.int))) (hn : ∀ n ∈ ns, n.natAbs < 2 ^ 64) (hl : ns.length ≤ 3000) : SameD K H (.ref a) (dI ns) true :=
  ⟨dp_ints (SqL.of h), ⟨_, .base (.lst h), kit_ll⟩, dI_showable hn, dI_nodict ns, by rw [dI_depth]; decide, dI_shown hn hl⟩
end
/-! ### a list unpacked -/
section
variable {K : PySem.W.Frag} {H : Hp} {σ : L2.St} {v : V} {xs : List V} {a : Addr}
def rUnpL (K : PySem.W.Frag) (n : Nat) (t : TGs) (v : V) (σ : L2.St) (H : Hp) (Q : L2.St → Hp → Prop) : Prop := ∃ a xs, v = .ref a ∧ SqL K H a xs ∧ xs.length = n ∧ t xs σ H Q
instance {n : Nat} {g : TGs} {R : L2.St → Hp → Prop} : Step (gLst K n g v σ H R) (rUnpL K n g v σ H R) := ⟨fun h => h⟩
theorem i_unpL {m : Nat} {g : TGs} {R : L2.St → Hp → Prop} (h1 : SqL K H a xs) (h2 : xs.length = m) (h : g xs σ H R) : rUnpL K m g (.ref a) σ H R := ⟨a, xs, rfl, h1, h2, h⟩
end
/-! ### x or y by truth -/
section
variable {K : PySem.W.Frag} {H : Hp} {Q : VK} {σ : L2.St} {tb : TE} {i : Int}
def rOrT (K : PySem.W.Frag) (x : V) (tb : TE) (σ : L2.St) (H : Hp) (Q : VK) : Prop := ∃ k, TruV K x H k ∧ if k = true then Q x H else tb σ H Q
instance {ta : TE} : Step (tOrT K ta tb σ H Q) (ta σ H fun x H1 => rOrT K x tb σ H1 Q) := ⟨fun h => h⟩
instance : Step (rOrT K .non tb σ H Q) (tb σ H Q) := ⟨fun h => ⟨false, rfl, h⟩⟩
theorem i_orI0 (hi : i = 0) (h : tb σ H Q) : rOrT K (.int i) tb σ H Q := ⟨false, by rw [hi]; rfl, h⟩
theorem i_orI1 (hi : i ≠ 0) (h : Q (.int i) H) : rOrT K (.int i) tb σ H Q := ⟨true, by show true = (i != 0); simp [hi], h⟩
end
/-! ### what is kept over turns -/
section
variable {B B2 H : Hp} {L : List (Addr × HO)} {a : Addr} {o : HO} {G : Hp → Addr → Prop} {hs : List Addr} {h : Addr}
theorem Tr.sdel (T : Tr B L H) (i : Nat) (h : L[i]? = some (a, o)) : Same B (del H a) := fun b u e => by
  rw [del_ne (fun z => by
    rw [z, T.offI i h] at e
    cases e)]
  exact T.base b u e
theorem del_of {b : Addr} {u : HO} (h : H b = some u) (n : b ≠ a) : del H a b = some u := (del_ne n).trans h
theorem Tr.kept {b : Addr} {u : HO} (T : Tr B L H) (i j : Nat) (h : L[i]? = some (a, o)) (h2 : L[j]? = some (b, u)) (n : j ≠ i) : del H a b = some u := del_of (T.get j h2) (T.apart j i h2 h n)
def Kept (G : Hp → Addr → Prop) (B : Hp) (hs : List Addr) : Prop := ∀ h ∈ hs, G B h
theorem Kept.nil : Kept G B [] := fun _ h => nomatch h
theorem Kept.mono (k : Kept G B hs) (m : ∀ h, G B h → G B2 h) : Kept G B2 hs := fun h hh => m h (k h hh)
theorem Kept.add (k : Kept G B hs) (g : G B h) : Kept G B (hs ++ [h]) := fun x hx => by
  rcases List.mem_append.mp hx with hx | hx
  · exact k x hx
  · rw [List.mem_singleton.mp hx]
    exact g
/-- a pair of like int lists -/
def Two (B : Hp) (h : Addr) : Prop := ∃ (x y : Addr) (c : List Int), B h = some (.lst [.ref x, .ref y]) ∧ B x = some (.lst (c.map V.int)) ∧ B y = some (.lst (c.map V.int)) ∧ (∀ n ∈ c, n.natAbs < 2 ^ 64) ∧ c.length ≤ 3000
theorem Two.same (s : Same B B2) (h : Addr) (t : Two B h) : Two B2 h := let ⟨x, y, c, h1, h2, h3, h4⟩ := t; ⟨x, y, c, s _ _ h1, s _ _ h2, s _ _ h3, h4⟩
end
/-! ### the greatest, the least -/
def mxI : List Int → Int
  | [] => 0
  | [x] => x
  | x :: y :: r => max x (mxI (y :: r))
def mnI : List Int → Int
  | [] => 0
  | [x] => x
  | x :: y :: r => min x (mnI (y :: r))
theorem mxI_mem : ∀ {ns : List Int}, ns ≠ [] → mxI ns ∈ ns
  | [], h => absurd rfl h
  | [x], _ => List.mem_singleton.mpr rfl
  | x :: y :: r, _ => by
    have ih := mxI_mem (ns := y :: r) (List.cons_ne_nil _ _)
    rw [mxI]
    rcases Int.le_total x (mxI (y :: r)) with h | h
    · rw [Int.max_eq_right h]
      exact List.mem_cons_of_mem _ ih
    · rw [Int.max_eq_left h]
      exact List.mem_cons_self
theorem mxI_le : ∀ {ns : List Int} {n : Int}, n ∈ ns → n ≤ mxI ns
  | [x], n, h => by
    rw [List.mem_singleton.mp h]
    exact Int.le_refl _
  | x :: y :: r, n, h => by
    rw [mxI]
    rcases List.mem_cons.mp h with rfl | h
    · omega
    · have := mxI_le h
      omega
theorem mxI_eq {ns : List Int} {m : Int} (h1 : m ∈ ns) (h2 : ∀ y, y ∈ ns → y ≤ m) : m = mxI ns := by
  have hn : ns ≠ [] := fun e => by
    rw [e] at h1
    cases h1
  have a := mxI_le h1
  have b := h2 _ (mxI_mem hn)
  omega
theorem mnI_mem : ∀ {ns : List Int}, ns ≠ [] → mnI ns ∈ ns
  | [], h => absurd rfl h
  | [x], _ => List.mem_singleton.mpr rfl
  | x :: y :: r, _ => by
    have ih := mnI_mem (ns := y :: r) (List.cons_ne_nil _ _)
    rw [mnI]
    rcases Int.le_total x (mnI (y :: r)) with h | h
    · rw [Int.min_eq_left h]
      exact List.mem_cons_self
    · rw [Int.min_eq_right h]
      exact List.mem_cons_of_mem _ ih
theorem mnI_le : ∀ {ns : List Int} {n : Int}, n ∈ ns → mnI ns ≤ n
  | [x], n, h => by
    rw [List.mem_singleton.mp h]
    exact Int.le_refl _
  | x :: y :: r, n, h => by
    rw [mnI]
    rcases List.mem_cons.mp h with rfl | h
    · omega
    · have := mnI_le h
      omega
theorem mnI_eq {ns : List Int} {m : Int} (h1 : m ∈ ns) (h2 : ∀ y, y ∈ ns → m ≤ y) : m = mnI ns := by
  have hn : ns ≠ [] := fun e => by
    rw [e] at h1
    cases h1
  have a := mnI_le h1
  have b := h2 _ (mnI_mem hn)
  omega
section
variable {K : PySem.W.Frag} {H : Hp} {Q : VK} {a : Addr} {ns : List Int} {xs : List V}
theorem i_maxF (h1 : SqL K H a (ns.map V.int)) (h0 : 0 < ns.length) (h : Q (.int (mxI ns)) H) : rMax K [.ref a] H Q := i_max h1 h0 fun m a b => by rw [mxI_eq a b]; exact h
theorem i_minF (h1 : SqL K H a (ns.map V.int)) (h0 : 0 < ns.length) (h : Q (.int (mnI ns)) H) : rMin K [.ref a] H Q := i_min h1 h0 fun m a b => by rw [mnI_eq a b]; exact h
theorem g_max (h : rMax K xs H Q) : rMax K xs H Q := h
theorem g_min (h : rMin K xs H Q) : rMin K xs H Q := h
end
end PB

namespace PB
open PySem PySem.Spec PyProof.Rows L2
/-! ### ValueError("..") as a value -/
section
variable {X : Cx} {x : PySem.Str} {p pos : Pos} {e : Expr} {ta : TE} {T N I : String}
theorem pe_excA {t : TA} {es : List Expr} (F : ExcB T N I) (hg : Gl X x) (hm : X.mg x = none) (hv : bootBuiltins x = some (.type T)) (ha : PA X (e :: es) t) (hn : x ≠ "__name__" := by decide) (hdb : (x == ("__debug__" : PySem.Str)) = false := by decide)
    (he : starEach (e :: es) X.env = (false, eval e X.env) :: starEach es X.env := by rfl) (hpl : (backTo pos (starEach es X.env)).any (·.1) = false := by rfl) :
    PE X (.Call (.Name x p) (e :: es) [] pos) (fun σ H Q => t σ H fun vs H1 => vs.length ≤ sizeLine ∧ ∀ a, H1 a = none → Q (.ref a) (upd H1 a (ExO (.type T) a))) := by
  refine ⟨fun pins s σ H Q J h => ?_⟩
  refine wpAny_Call_Name_kw (ld_blt J hg hm hv ?_ hn hdb)
  refine PyProof.Rows.callWith_type1 (thn (ha.run pos pins s σ H _ J h) fun us s1 hh => ?_) he hpl
  obtain ⟨vs, H1, I1, r1, q0, q1⟩ := hh
  obtain ⟨hp1, g1, d1, tk1, os1⟩ := s1
  refine wpAny_call_exc F.call (fun h' a mk => ?_) (Nat.le_trans (Nat.le_of_eq r1.length.symm) q0)
  have hn : H1 a = none := I1.hok.gone mk.new
  obtain ⟨t, ht, _, _⟩ := mk.there
  exact ⟨.ref a, upd H1 a (ExO (.type T) a), I1.laidN mk.keeps mk.new hn (exO_ok ht ⟨rfl, rfl⟩ rfl rfl rfl (show 4 < 6 by decide)), rfl, q1 a hn⟩
theorem pe_excS {m : PySem.Str} {j : Nat} {p2 : Pos} (F : ExcB T N I) (hg : Gl X x) (hm : X.mg x = none) (hv : bootBuiltins x = some (.type T)) (hn : x ≠ "__name__" := by decide) (hdb : (x == ("__debug__" : PySem.Str)) = false := by decide) :
    PE X (.Call (.Name x p) [.Constant (.str m) j p2] [] pos) (fun σ H Q => ∀ a, H a = none → Q (.ref a) (upd H a (ExO (.type T) a))) := ⟨fun pins s σ H Q J h =>
  (pe_excA F hg hm hv (pa_cons pe_str pa_nil) hn hdb rfl rfl).run pins s σ H Q J ⟨(by show 1 ≤ sizeLine; rw [sizeLine_eq]; omega), h⟩⟩
end
/-! isinstance of it -/
def rIsV : List V → Hp → VK → Prop := fun xs H Q => ∃ (a : Addr) (c : V) (u : Value) (b : Bool), xs = [.ref a, c] ∧ ClsV c u ∧ H a = some (ExO (.type "ValueError") a) ∧ (∀ K, PySem.W.kitOne K (.type "ValueError") u = some b) ∧ Q (.bl b) H
theorem call_isV {X : Cx} : CallR X (.builtin "isinstance") rIsV := by
  intro pins s σ H xs us Q I r h
  obtain ⟨a, c, u, b, rfl, k, ty, e, q⟩ := h
  obtain ⟨u1, u2, rfl, r1, r2⟩ := vals2 r
  have e2 := k.eq r2
  subst e2
  cases (show u1 = Value.ref a from r1)
  obtain ⟨⟨oe, vs, ho, hz, _⟩, _, _⟩ := I.hok a _ ty
  exact PySem.W.kia_one (PySem.W.kitx_bexc PySem.F.excAttr_ValueError (by kernel_rfl) (by kernel_rfl) (by decide +kernel)) I.kIn ⟨oe, ho, hz.1⟩ (e _) (fun z => nomatch z) fun tk => ⟨.bl b, H, I.tok tk, rfl, q⟩
/-- isinstance of what has a builtin kind, or of a ValueError -/
def rIsX (K : PySem.W.Frag) : List V → Hp → VK → Prop := fun xs H Q => rIsi K xs H Q ∨ rIsV xs H Q
theorem call_isX {X : Cx} : CallR X (.builtin "isinstance") (rIsX X.K) := fun pins s σ H xs us Q I r h => h.elim (call_isi pins s σ H xs us Q I r) (call_isV pins s σ H xs us Q I r)
theorem i_isV {H : Hp} {Q : VK} {a : Addr} {c : String} {b : Bool} (h : H a = some (ExO (.type "ValueError") a)) (hk : kitB "ValueError" c = some b) (k : Q (.bl b) H) : rIsV [.ref a, .ty c] H Q := ⟨a, .ty c, _, b, rfl, ClsV.ty c, h, fun _ => kit_ty hk, k⟩
/-! ### the program's own errors -/
inductive Er where
  | cut | many | place | number | text | command
  deriving DecidableEq
def Er.nm : Er → PySem.Str
  | .cut => "CutError" | .many => "NoMany" | .place => "NoPlace" | .number => "NoNumber" | .text => "NoText" | .command => "NoCommand"
/-- is a c a d -/
def Er.sub (c d : Er) : Bool := c == d || d == .cut
/-- an object of the class cls, of an exception -/
def EcO (cls : Value) (a : Addr) : HO := .ext fun h => ∃ (oe : Obj) (vs : Array Value), h.get? a = some oe ∧ Zc cls none oe ∧ oe.data = .fields vs
theorem ecO_ok {P : Program} {w : World} {H : Hp} {h : Heap} {a : Addr} {cls : Value} {oe : Obj} {vs : Array Value} (e : h.get? a = some oe) (z : Zc cls none oe) (d : oe.data = .fields vs) : ObjOk P w H h a (EcO cls a) :=
  ⟨⟨oe, vs, e, z, d⟩, ⟨oe, e⟩, fun _ _ ⟨o, v, q, r⟩ k => ⟨o, v, k o q, r⟩⟩
end PB

namespace PB
open PySem PySem.Spec PyProof.Rows L2
/-! ### typed values and what stands for them -/
/-- where lists, tuples, the script are to be read -/
structure Lk where
  l : Addr → List V → Prop
  t : Addr → List V → Prop
  s : Addr → List V → Prop
  d : Addr → List (Key × V) → Prop
  x : Addr → Prop
  e : Er → Addr → Prop
structure Lk.Le (S T : Lk) : Prop where
  l : ∀ a vs, S.l a vs → T.l a vs
  t : ∀ a vs, S.t a vs → T.t a vs
  s : ∀ a vs, S.s a vs → T.s a vs
  d : ∀ a kvs, S.d a kvs → T.d a kvs
  x : ∀ a, S.x a → T.x a
  e : ∀ c a, S.e c a → T.e c a
def lkA (K : PySem.W.Frag) (H : Hp) : Lk := ⟨fun a vs => H a = some (.lst vs), SqT K H, SqL K H, fun a kvs => H a = some (.dK kvs), fun a => H a = some (ExO (.type "ValueError") a), fun c a => H a = some (EcO (.ref (He.ga K c.nm)) a)⟩
def lkN (N : Hp) : Lk := ⟨fun a vs => N a = some (.lst vs), fun a vs => N a = some (.tup vs), fun a vs => N a = some (.lst vs), fun a kvs => N a = some (.dK kvs), fun a => N a = some (ExO (.type "ValueError") a), fun _ _ => False⟩
theorem Lk.Le.refl (S : Lk) : S.Le S := ⟨fun _ _ h => h, fun _ _ h => h, fun _ _ h => h, fun _ _ h => h, fun _ h => h, fun _ _ h => h⟩
theorem Lk.Le.trans {S T U : Lk} (a : S.Le T) (b : T.Le U) : S.Le U := ⟨fun x y h => b.l x y (a.l x y h), fun x y h => b.t x y (a.t x y h), fun x y h => b.s x y (a.s x y h), fun x y h => b.d x y (a.d x y h), fun x h => b.x x (a.x x h), fun c x h => b.e c x (a.e c x h)⟩
section
variable {K : PySem.W.Frag} {H H' N N' F F' B : Hp}
theorem lkA_mono (s : Same H H') : (lkA K H).Le (lkA K H') := ⟨fun a vs h => s _ _ h, fun a vs h => Same.tup s h, fun a vs h => s.seq h, fun a kvs h => s _ _ h, fun a h => s _ _ h, fun c a h => s _ _ h⟩
theorem lkN_mono (s : Same N N') : (lkN N).Le (lkN N') := ⟨fun a vs h => s _ _ h, fun a vs h => s _ _ h, fun a vs h => s _ _ h, fun a vs h => s _ _ h, fun a h => s _ _ h, fun _ _ h => h⟩
theorem lkNA (s : Same N H) : (lkN N).Le (lkA K H) := ⟨fun a vs h => s _ _ h, fun a vs h => SqT.of (s _ _ h), fun a vs h => SqL.of (s _ _ h), fun a kvs h => s _ _ h, fun a h => s _ _ h, fun _ _ h => h.elim⟩
end
def All2 {α : Type} (R : α → V → Prop) : List α → List V → Prop
  | [], [] => True
  | x :: xs, v :: vs => R x v ∧ All2 R xs vs
  | _, _ => False
section
variable {α : Type} {R R' : α → V → Prop}
theorem All2.mono (h : ∀ x v, R x v → R' x v) : ∀ {xs : List α} {vs : List V}, All2 R xs vs → All2 R' xs vs
  | [], [], _ => trivial
  | _ :: _, _ :: _, h2 => ⟨h _ _ h2.1, All2.mono h h2.2⟩
  | [], _ :: _, h2 => h2.elim
  | _ :: _, [], h2 => h2.elim
theorem All2.len : ∀ {xs : List α} {vs : List V}, All2 R xs vs → vs.length = xs.length
  | [], [], _ => rfl
  | _ :: _, _ :: _, h => congrArg (· + 1) (All2.len h.2)
  | [], _ :: _, h => h.elim
  | _ :: _, [], h => h.elim
theorem All2.get : ∀ {xs : List α} {vs : List V} {i : Nat} {x : α}, All2 R xs vs → xs[i]? = some x → ∃ v, vs[i]? = some v ∧ R x v
  | _ :: _, v :: _, 0, _, h, e => ⟨v, rfl, by cases e; exact h.1⟩
  | _ :: xs, _ :: vs, i + 1, x, h, e => All2.get (xs := xs) (vs := vs) (i := i) h.2 (by simpa using e)
  | [], _, _, _, _, e => by simp at e
  | _ :: _, [], _, _, h, _ => h.elim
theorem All2.getV {xs : List α} {vs : List V} {i : Nat} {v : V} (h : All2 R xs vs) (e : vs[i]? = some v) : ∃ x, xs[i]? = some x ∧ R x v := by
  have hl := (List.getElem?_eq_some_iff.mp e).1
  rw [h.len] at hl
  obtain ⟨w, hw, r⟩ := h.get (List.getElem?_eq_getElem hl)
  rw [e] at hw
  cases hw
  exact ⟨_, List.getElem?_eq_getElem hl, r⟩
theorem All2.app : ∀ {xs ys : List α} {vs ws : List V}, All2 R xs vs → All2 R ys ws → All2 R (xs ++ ys) (vs ++ ws)
  | [], _, [], _, _, h => h
  | _ :: _, _, _ :: _, _, h, h2 => ⟨h.1, All2.app h.2 h2⟩
  | [], _, _ :: _, _, h, _ => h.elim
  | _ :: _, _, [], _, h, _ => h.elim
theorem All2.one {x : α} {v : V} (h : R x v) : All2 R [x] [v] := ⟨h, trivial⟩
theorem All2.drop : ∀ {xs : List α} {vs : List V} (n : Nat), All2 R xs vs → All2 R (xs.drop n) (vs.drop n)
  | _, _, 0, h => h
  | [], [], _ + 1, _ => trivial
  | _ :: _, _ :: _, n + 1, h => All2.drop n h.2
  | [], _ :: _, _ + 1, h => h.elim
  | _ :: _, [], _ + 1, h => h.elim
theorem All2.take : ∀ {xs : List α} {vs : List V} (n : Nat), All2 R xs vs → All2 R (xs.take n) (vs.take n)
  | _, _, 0, _ => trivial
  | [], [], _ + 1, _ => trivial
  | _ :: _, _ :: _, n + 1, h => ⟨h.1, All2.take n h.2⟩
  | [], _ :: _, _ + 1, h => h.elim
  | _ :: _, [], _ + 1, h => h.elim
theorem All2.set : ∀ {xs : List α} {vs : List V} {x : α} {v : V} (n : Nat), All2 R xs vs → R x v → All2 R (xs.set n x) (vs.set n v)
  | [], [], _, _, _, _, _ => trivial
  | _ :: _, _ :: _, _, _, 0, h, r => ⟨r, h.2⟩
  | _ :: _, _ :: _, _, _, n + 1, h, r => ⟨h.1, All2.set n h.2 r⟩
  | [], _ :: _, _, _, _, h, _ => h.elim
  | _ :: _, [], _, _, _, h, _ => h.elim
theorem All2.rev : ∀ {xs : List α} {vs : List V}, All2 R xs vs → All2 R xs.reverse vs.reverse
  | [], [], _ => trivial
  | _ :: _, _ :: _, h => by
    rw [List.reverse_cons, List.reverse_cons]
    exact (All2.rev h.2).app (All2.one h.1)
  | [], _ :: _, h => h.elim
  | _ :: _, [], h => h.elim
theorem All2.rep {xs : List α} {vs : List V} (h : All2 R xs vs) : ∀ n : Nat, All2 R (List.replicate n xs).flatten (List.replicate n vs).flatten
  | 0 => trivial
  | n + 1 => by
    rw [List.replicate_succ, List.replicate_succ, List.flatten_cons, List.flatten_cons]
    exact h.app (All2.rep h n)
end

class Rp (α : Type) where
  rep : Lk → α → V → Prop
  mono : ∀ {S T : Lk} {x : α} {v : V}, S.Le T → rep S x v → rep T x v
instance : Rp Int := ⟨fun _ x v => v = .int x, fun _ h => h⟩
instance : Rp Bool := ⟨fun _ x v => v = .bl x, fun _ h => h⟩
instance : Rp Unit := ⟨fun _ _ v => v = .non, fun _ h => h⟩
instance : Rp PySem.Str := ⟨fun _ x v => v = .str x, fun _ h => h⟩
section
variable {α β γ δ : Type} [Rp α] [Rp β] [Rp γ] [Rp δ]
def repOpt (S : Lk) : Option α → V → Prop
  | none, v => v = .non
  | some x, v => Rp.rep S x v
instance : Rp (Option α) := ⟨repOpt, fun {S T x v} s h => by
  cases x with
  | none => exact h
  | some y => exact Rp.mono (α := α) s h⟩
instance : Rp (List α) := ⟨fun S xs v => ∃ a vs, v = .ref a ∧ S.l a vs ∧ All2 (Rp.rep S) xs vs, fun s ⟨a, vs, e, h, r⟩ => ⟨a, vs, e, s.l _ _ h, r.mono fun _ _ h => Rp.mono s h⟩⟩
instance : Rp (α × β) := ⟨fun S x v => ∃ a u w, v = .ref a ∧ S.t a [u, w] ∧ Rp.rep S x.1 u ∧ Rp.rep S x.2 w, fun s ⟨a, u, w, e, h, r1, r2⟩ => ⟨a, u, w, e, s.t _ _ h, Rp.mono s r1, Rp.mono s r2⟩⟩
/-- a tuple of three -/
structure T3 (α β γ : Type) where
  a : α
  b : β
  c : γ
  deriving DecidableEq
instance : Rp (T3 α β γ) := ⟨fun S x v => ∃ a u w z, v = .ref a ∧ S.t a [u, w, z] ∧ Rp.rep S x.a u ∧ Rp.rep S x.b w ∧ Rp.rep S x.c z, fun s ⟨a, u, w, z, e, h, r1, r2, r3⟩ => ⟨a, u, w, z, e, s.t _ _ h, Rp.mono s r1, Rp.mono s r2, Rp.mono s r3⟩⟩
/-- a tuple of one -/
structure T1 (α : Type) where
  a : α
  deriving DecidableEq
instance : Rp (T1 α) := ⟨fun S x v => ∃ a u, v = .ref a ∧ S.t a [u] ∧ Rp.rep S x.a u, fun s ⟨a, u, e, h, r1⟩ => ⟨a, u, e, s.t _ _ h, Rp.mono s r1⟩⟩
instance : Rp Er := ⟨fun S c v => ∃ a, v = .ref a ∧ S.e c a, fun s ⟨a, e, h⟩ => ⟨a, e, s.e _ _ h⟩⟩
/-- the script -/
structure Scr where
  l : List Int
instance : Rp Scr := ⟨fun S x v => ∃ a, v = .ref a ∧ S.s a (x.l.map V.int), fun s ⟨a, e, h⟩ => ⟨a, e, s.s _ _ h⟩⟩
end
theorem all2_int {S : Lk} : ∀ {xs : List Int} {vs : List V}, All2 (Rp.rep S) xs vs → vs = xs.map V.int
  | [], [], _ => rfl
  | x :: xs, v :: vs, h => by
    have e : v = .int x := h.1
    rw [List.map_cons, e, all2_int h.2]
  | [], _ :: _, h => h.elim
  | _ :: _, [], h => h.elim
theorem all2_ofInt {S : Lk} : ∀ (xs : List Int), All2 (Rp.rep S) xs (xs.map V.int)
  | [] => trivial
  | _ :: xs => ⟨rfl, all2_ofInt xs⟩

/-! ### what is known -/
def reg (t : Bool) (K : PySem.W.Frag) (N F : Hp) : Lk := match t with
  | true => lkN N
  | false => lkA K F
theorem reg_mono {t : Bool} {K : PySem.W.Frag} {N F N' F' : Hp} (h1 : Same N N') (h2 : Same F F') : (reg t K N F).Le (reg t K N' F') := by
  cases t
  · exact lkA_mono h2
  · exact lkN_mono h1
theorem reg_A {t : Bool} {K : PySem.W.Frag} {N F H : Hp} (h1 : Same N F) (h2 : Same F H) : (reg t K N F).Le (lkA K H) := by
  cases t
  · exact lkA_mono h2
  · exact lkNA (h1.trans h2)
structure Fact where
  P : PySem.W.Frag → Hp → Hp → Prop
  mono : ∀ {K N F N' F'}, Same N N' → Same F F' → P K N F → P K N' F'
def fc (t : Bool) {α : Type} [Rp α] (x : α) (v : V) : Fact := ⟨fun K N F => Rp.rep (reg t K N F) x v, fun h1 h2 h => Rp.mono (reg_mono h1 h2) h⟩
structure Own where
  a : Addr
  P : PySem.W.Frag → Hp → Hp → HO → Prop
  mono : ∀ {K N F N' F' o}, Same N N' → Same F F' → P K N F o → P K N' F' o
def oL (t : Bool) {α : Type} [Rp α] (a : Addr) (xs : List α) : Own :=
  ⟨a, fun K N F o => ∃ vs, o = .lst vs ∧ All2 (Rp.rep (reg t K N F)) xs vs, fun h1 h2 ⟨vs, e, h⟩ => ⟨vs, e, h.mono fun _ _ h => Rp.mono (reg_mono h1 h2) h⟩⟩
structure WdI (K : PySem.W.Frag) (B : Hp) (ctx : List Fact) (L : List Own) (H N F : Hp) : Prop where
  bF : Same B F
  nF : Same N F
  sep : ∀ a u, N a = some u → B a = none
  fH : Same F H
  facts : ∀ f ∈ ctx, f.P K N F
  at_ : ∀ o ∈ L, ∃ h, H o.a = some h ∧ o.P K N F h
  off : ∀ o ∈ L, F o.a = none
  nd : (L.map (·.a)).Nodup
def Wd (K : PySem.W.Frag) (B : Hp) (ctx : List Fact) (L : List Own) (H : Hp) : Prop := ∃ N F, WdI K B ctx L H N F
theorem setMem' {L : List Own} {j : Nat} {o o' q : Own} (nd : (L.map (·.a)).Nodup) (hj : L[j]? = some o) (hq : q ∈ L.set j o') : q = o' ∨ (q ∈ L ∧ q.a ≠ o.a) := by
  induction L generalizing j with
  | nil => simp at hj
  | cons y L ih =>
    rw [List.map_cons] at nd
    cases j with
    | zero =>
      have e : y = o := by simpa using hj
      rw [List.set_cons_zero] at hq
      rcases List.mem_cons.mp hq with rfl | hq
      · exact .inl rfl
      · refine .inr ⟨List.mem_cons_of_mem _ hq, fun e2 => (List.nodup_cons.mp nd).1 ?_⟩
        rw [e, ← e2]
        exact List.mem_map_of_mem hq
    | succ j =>
      rw [List.set_cons_succ] at hq
      rcases List.mem_cons.mp hq with rfl | hq
      · refine .inr ⟨List.mem_cons_self, fun e2 => (List.nodup_cons.mp nd).1 ?_⟩
        rw [e2]
        exact List.mem_map_of_mem (f := (·.a)) (List.mem_of_getElem? (show L[j]? = some o by simpa using hj))
      · rcases ih (List.nodup_cons.mp nd).2 (by simpa using hj) hq with r | ⟨r1, r2⟩
        · exact .inl r
        · exact .inr ⟨List.mem_cons_of_mem _ r1, r2⟩
/-- known of a value; of a list's items -/
def Kn (K : PySem.W.Frag) (ctx : List Fact) (t : Bool) {α : Type} [Rp α] (x : α) (v : V) : Prop := ∀ N F, Same N F → (∀ f ∈ ctx, f.P K N F) → Rp.rep (reg t K N F) x v
def KnL (K : PySem.W.Frag) (ctx : List Fact) (t : Bool) {α : Type} [Rp α] (xs : List α) (vs : List V) : Prop := ∀ N F, Same N F → (∀ f ∈ ctx, f.P K N F) → All2 (Rp.rep (reg t K N F)) xs vs
/-- a list to be read; a list proper -/
def Ls (K : PySem.W.Frag) (ctx : List Fact) (L : List Own) (t : Bool) {α : Type} [Rp α] (xs : List α) (v : V) : Prop := ∀ B H N F, WdI K B ctx L H N F → ∃ a vs, v = .ref a ∧ SqL K H a vs ∧ All2 (Rp.rep (reg t K N F)) xs vs
def Lx (K : PySem.W.Frag) (ctx : List Fact) (L : List Own) (t : Bool) {α : Type} [Rp α] (xs : List α) (v : V) : Prop := ∀ B H N F, WdI K B ctx L H N F → ∃ a vs, v = .ref a ∧ H a = some (.lst vs) ∧ All2 (Rp.rep (reg t K N F)) xs vs
/-- any value to be read in the whole heap; with the object at a left out -/
def Ar (K : PySem.W.Frag) (ctx : List Fact) (L : List Own) {α : Type} [Rp α] (x : α) (v : V) : Prop := ∀ B H N F, WdI K B ctx L H N F → Rp.rep (lkA K H) x v
def ArD (K : PySem.W.Frag) (ctx : List Fact) (L : List Own) (a : Addr) {α : Type} [Rp α] (x : α) (v : V) : Prop := ∀ B H N F, WdI K B ctx L H N F → Rp.rep (lkA K (del H a)) x v
section
variable {K : PySem.W.Frag} {B H H' N F : Hp} {ctx ctx' : List Fact} {L L' : List Own} {t : Bool} {α β γ : Type} [Rp α] [Rp β] [Rp γ] {x : α} {y : β} {z : γ} {xs : List α} {v w u : V} {vs : List V} {a p : Addr} {f : Fact} {o : Own}
theorem Kn.int {i : Int} : Kn K ctx t i (.int i) := fun _ _ _ _ => rfl
theorem Kn.bl {i : Bool} : Kn K ctx t i (.bl i) := fun _ _ _ _ => rfl
theorem Kn.str {i : PySem.Str} : Kn K ctx t i (.str i) := fun _ _ _ _ => rfl
theorem Kn.unit : Kn K ctx t () .non := fun _ _ _ _ => rfl
theorem Kn.none : Kn K ctx t (none : Option α) .non := fun _ _ _ _ => rfl
theorem Kn.some (h : Kn K ctx t x v) : Kn K ctx t (some x) v := fun N F s q => h N F s q
theorem Kn.at (i : Nat) (h : ctx[i]? = Option.some (fc t x v)) : Kn K ctx t x v := fun N F s q => q _ (List.mem_of_getElem? h)
theorem Kn.weak (h : Kn K ctx true x v) : Kn K ctx false x v := fun N F s q => Rp.mono (lkNA s) (h N F s q)
theorem KnL.nil : KnL K ctx t ([] : List α) [] := fun _ _ _ _ => trivial
theorem KnL.cons (h : Kn K ctx t x v) (h2 : KnL K ctx t xs vs) : KnL K ctx t (x :: xs) (v :: vs) := fun N F s q => ⟨h N F s q, h2 N F s q⟩
theorem Lx.ls (h : Lx K ctx L t xs v) : Ls K ctx L t xs v := fun B H N F W => by
  obtain ⟨a, vs, e, h1, h2⟩ := h B H N F W
  exact ⟨a, vs, e, SqL.of h1, h2⟩
theorem reg_l {vs : List V} (h1 : Same N F) (h2 : Same F H) (h : (reg t K N F).l a vs) : H a = some (.lst vs) := (reg_A h1 h2).l _ _ h
theorem Lx.kn (h : Kn K ctx t xs v) : Lx K ctx L t xs v := fun B H N F W => by
  obtain ⟨a, vs, e, h1, h2⟩ := h N F W.nF W.facts
  exact ⟨a, vs, e, reg_l W.nF W.fH h1, h2⟩
theorem Lx.own (j : Nat) (h : L[j]? = some (oL t a xs)) : Lx K ctx L t xs (.ref a) := fun B H N F W => by
  obtain ⟨o, h1, vs, rfl, h2⟩ := W.at_ _ (List.mem_of_getElem? h)
  exact ⟨a, vs, rfl, h1, h2⟩
theorem Ls.scr {x : Scr} (h : Kn K ctx false x v) : Ls K ctx L t x.l v := fun B H N F W => by
  obtain ⟨a, e, h1⟩ := h N F W.nF W.facts
  exact ⟨a, _, e, W.fH.seq h1, all2_ofInt _⟩
theorem Ar.kn (h : Kn K ctx t x v) : Ar K ctx L x v := fun B H N F W => Rp.mono (reg_A W.nF W.fH) (h N F W.nF W.facts)
theorem Ar.lx (h : Lx K ctx L t xs v) : Ar K ctx L xs v := fun B H N F W => by
  obtain ⟨a, vs, e, h1, h2⟩ := h B H N F W
  exact ⟨a, vs, e, h1, h2.mono fun _ _ q => Rp.mono (reg_A W.nF W.fH) q⟩
theorem toDel (s : Same F H) (h : F a = Option.none) : Same F (del H a) := fun b u e => by
  rw [del_ne (fun z => by rw [z, h] at e; cases e)]
  exact s b u e
theorem ArD.kn {ys : List β} {t' : Bool} (j : Nat) (hj : L[j]? = some (oL t' a ys)) (h : Kn K ctx t x v) : ArD K ctx L a x v := fun B H N F W =>
  Rp.mono (reg_A W.nF (toDel W.fH (W.off _ (List.mem_of_getElem? hj)))) (h N F W.nF W.facts)
theorem ArD.own {ys : List β} {b : Addr} {t' : Bool} (j : Nat) (hj : L[j]? = some (oL t' a ys)) (i : Nat) (hi : L[i]? = some (oL t b xs)) (n : i ≠ j) : ArD K ctx L a xs (.ref b) := fun B H N F W => by
  obtain ⟨o, h1, vs, rfl, h2⟩ := W.at_ _ (List.mem_of_getElem? hi)
  have hn : b ≠ a := fun e => by
    have ha := List.getElem?_map (f := (·.a)) (l := L) (i := i)
    have hp := List.getElem?_map (f := (·.a)) (l := L) (i := j)
    rw [hi] at ha
    rw [hj] at hp
    have ha' : (L.map (·.a))[i]? = some b := ha
    have hp' : (L.map (·.a))[j]? = some a := hp
    rw [← e] at hp'
    exact n (nd_ix W.nd ha' hp')
  exact ⟨b, vs, rfl, (del_ne hn).trans h1, h2.mono fun _ _ q => Rp.mono (reg_A W.nF (toDel W.fH (W.off _ (List.mem_of_getElem? hj)))) q⟩

/-! ### worlds -/
theorem Wd.start (H : Hp) : Wd K H [] [] H := ⟨fun _ => none, H, Same.refl H, (fun _ _ h => nomatch h), (fun _ _ h => nomatch h), Same.refl H, (fun _ h => nomatch h), (fun _ h => nomatch h), (fun _ h => nomatch h), List.nodup_nil⟩
/-- a fact of what stood at the beginning -/
theorem Wd.arg (W : Wd K B ctx L H) (r : Rp.rep (lkA K B) x v) : Wd K B (fc false x v :: ctx) L H := by
  obtain ⟨N, F, W⟩ := W
  refine ⟨N, F, W.bF, W.nF, W.sep, W.fH, fun f hf => ?_, W.at_, W.off, W.nd⟩
  rcases List.mem_cons.mp hf with rfl | hf
  · exact Rp.mono (lkA_mono W.bF) r
  · exact W.facts f hf
/-- the one list that the def may change -/
theorem Wd.mut {xs : List α} (h : H a = some (.lst vs)) (r : All2 (Rp.rep (lkN fun _ => none)) xs vs) : Wd K (del H a) [] [oL true a xs] H := by
  refine ⟨fun _ => none, del H a, Same.refl _, (fun _ _ h => nomatch h), (fun _ _ h => nomatch h), Same.del, (fun _ h => nomatch h), fun o ho => ?_, fun o ho => ?_, by simp⟩
  · obtain rfl := List.mem_singleton.mp ho
    exact ⟨_, h, vs, rfl, r⟩
  · obtain rfl := List.mem_singleton.mp ho
    exact del_same
theorem Wd.add (W : Wd K B ctx L H) (h : ∀ N F, WdI K B ctx L H N F → f.P K N F) : Wd K B (f :: ctx) L H := by
  obtain ⟨N, F, W⟩ := W
  refine ⟨N, F, W.bF, W.nF, W.sep, W.fH, fun g hg => ?_, W.at_, W.off, W.nd⟩
  rcases List.mem_cons.mp hg with rfl | hg
  · exact h N F W
  · exact W.facts g hg
theorem Wd.know (W : Wd K B ctx L H) (h : Kn K ctx t x v) : Wd K B (fc t x v :: ctx) L H := W.add fun N F W => h N F W.nF W.facts
/-- fewer facts -/
theorem Wd.sub (W : Wd K B ctx L H) (h : ∀ f ∈ ctx', f ∈ ctx) : Wd K B ctx' L H := by
  obtain ⟨N, F, W⟩ := W
  exact ⟨N, F, W.bF, W.nF, W.sep, W.fH, fun f hf => W.facts f (h f hf), W.at_, W.off, W.nd⟩
def selB {τ : Type} : List Nat → List τ → Option (List τ)
  | [], _ => some []
  | i :: is, l => match l[i]?, selB is l with
    | some x, some xs => some (x :: xs)
    | _, _ => none
theorem selB_mem {τ : Type} : ∀ {is : List Nat} {l m : List τ}, selB is l = some m → ∀ x ∈ m, ∃ i ∈ is, l[i]? = some x
  | [], _, _, h, x, hx => by
    cases h
    cases hx
  | i :: is, l, m, h, x, hx => by
    unfold selB at h
    cases e : l[i]? with
    | none => rw [e] at h; cases h
    | some y =>
      cases e2 : selB is l with
      | none => rw [e, e2] at h; cases h
      | some ys =>
        rw [e, e2] at h
        cases h
        rcases List.mem_cons.mp hx with rfl | hx
        · exact ⟨i, List.mem_cons_self, e⟩
        · obtain ⟨k, hk, q⟩ := selB_mem e2 x hx
          exact ⟨k, List.mem_cons_of_mem _ hk, q⟩
theorem Wd.sel (W : Wd K B ctx L H) (is : List Nat) (h : selB is ctx = some ctx') : Wd K B ctx' L H :=
  W.sub fun f hf => let ⟨_, _, q⟩ := selB_mem h f hf; List.mem_of_getElem? q
theorem Wd.drop (W : Wd K B ctx L H) (n : Nat) (h : ctx.drop n = ctx') : Wd K B ctx' L H := W.sub fun f hf => by
  rw [← h] at hf
  exact List.mem_of_mem_drop hf
theorem selB_nd {l m : List Own} : ∀ {is : List Nat} {m : List Own}, selB is l = some m → (l.map (·.a)).Nodup → is.Nodup → (m.map (·.a)).Nodup
  | [], m, h, _, _ => by
    cases h
    exact List.nodup_nil
  | i :: is, m, h, nd, ni => by
    unfold selB at h
    cases e : l[i]? with
    | none => rw [e] at h; cases h
    | some y =>
      cases e2 : selB is l with
      | none => rw [e, e2] at h; cases h
      | some ys =>
        rw [e, e2] at h
        cases h
        rw [List.map_cons]
        refine List.nodup_cons.mpr ⟨fun hm => ?_, selB_nd (m := ys) e2 nd (List.nodup_cons.mp ni).2⟩
        obtain ⟨q, hq, eq⟩ := List.mem_map.mp hm
        obtain ⟨k, hk, ek⟩ := selB_mem e2 q hq
        have ha := List.getElem?_map (f := (·.a)) (l := l) (i := i)
        have hp := List.getElem?_map (f := (·.a)) (l := l) (i := k)
        rw [e] at ha
        rw [ek] at hp
        have ha' : (l.map (·.a))[i]? = some y.a := ha
        have hp' : (l.map (·.a))[k]? = some q.a := hp
        rw [eq] at hp'
        have := nd_ix nd ha' hp'
        rw [this] at ni
        exact (List.nodup_cons.mp ni).1 hk
theorem Wd.selO (W : Wd K B ctx L H) (is : List Nat) (h : selB is L = some L') (n : is.Nodup := by decide) : Wd K B ctx L' H := by
  obtain ⟨N, F, W⟩ := W
  have hm : ∀ o ∈ L', o ∈ L := fun o ho => let ⟨_, _, q⟩ := selB_mem h o ho; List.mem_of_getElem? q
  exact ⟨N, F, W.bF, W.nF, W.sep, W.fH, W.facts, fun o ho => W.at_ o (hm o ho), fun o ho => W.off o (hm o ho), selB_nd (m := L) h W.nd n⟩
/-- another heap in which all that is known stands -/
theorem Wd.same (W : Wd K B ctx L H) (s : Same H H') : Wd K B ctx L H' := by
  obtain ⟨N, F, W⟩ := W
  exact ⟨N, F, W.bF, W.nF, W.sep, W.fH.trans s, W.facts, fun o ho => let ⟨h, e, q⟩ := W.at_ o ho; ⟨h, s _ _ e, q⟩, W.off, W.nd⟩
/-- a new object, one's own -/
theorem Wd.newO (W : WdI K B ctx L H N F) (hp : H p = Option.none) (k : HO) (ea : o.a = p) (h : o.P K N F k) : Wd K B ctx (o :: L) (upd H p k) := by
  refine ⟨N, F, W.bF, W.nF, W.sep, fun b u e => ?_, W.facts, fun q hq => ?_, fun q hq => ?_, ?_⟩
  · rw [upd_ne (ne_of_none (W.fH b u e) hp)]
    exact W.fH b u e
  · rcases List.mem_cons.mp hq with rfl | hq
    · exact ⟨k, by rw [ea]; exact upd_same, h⟩
    · obtain ⟨u, e, r⟩ := W.at_ q hq
      exact ⟨u, by rw [upd_ne (ne_of_none e hp)]; exact e, r⟩
  · rcases List.mem_cons.mp hq with rfl | hq
    · rw [ea]
      exact W.fH.free hp
    · exact W.off q hq
  · rw [List.map_cons]
    refine List.nodup_cons.mpr ⟨fun hm => ?_, W.nd⟩
    obtain ⟨q, hq, e⟩ := List.mem_map.mp hm
    obtain ⟨u, e2, r⟩ := W.at_ q hq
    rw [e, ea, hp] at e2
    cases e2
theorem Wd.newL (W : WdI K B ctx L H N F) (hp : H p = Option.none) (h : All2 (Rp.rep (reg t K N F)) xs vs) : Wd K B ctx (oL t p xs :: L) (upd H p (.lst vs)) :=
  Wd.newO W hp _ rfl ⟨vs, rfl, h⟩
/-- no longer changed -/
theorem Wd.frz (W : Wd K B ctx (oL t p xs :: L) H) : Wd K B (fc t xs (.ref p) :: ctx) L H := by
  obtain ⟨N, F, W⟩ := W
  obtain ⟨k, hk, vs, rfl, hr⟩ := W.at_ _ List.mem_cons_self
  have hF : F p = Option.none := W.off _ List.mem_cons_self
  have hN : N p = Option.none := W.nF.free hF
  have hB : B p = Option.none := W.bF.free hF
  have sN : Same N (upd N p (.lst vs)) := fun b u e => by
    rw [upd_ne (ne_of_none e hN)]
    exact e
  have sF : Same F (upd F p (.lst vs)) := fun b u e => by
    rw [upd_ne (ne_of_none e hF)]
    exact e
  refine ⟨upd N p (.lst vs), upd F p (.lst vs), W.bF.trans sF, fun b u e => ?_, fun b u e => ?_, fun b u e => ?_, fun f hf => ?_, fun o ho => ?_, fun o ho => ?_, ?_⟩
  · by_cases h : b = p
    · rw [h, upd_same] at e ⊢
      exact e
    · rw [upd_ne h] at e ⊢
      exact W.nF b u e
  · by_cases h : b = p
    · rw [h]
      exact hB
    · rw [upd_ne h] at e
      exact W.sep b u e
  · by_cases h : b = p
    · rw [h, upd_same] at e
      rw [h, ← e]
      exact hk
    · rw [upd_ne h] at e
      exact W.fH b u e
  · rcases List.mem_cons.mp hf with rfl | hf
    · refine ⟨p, vs, rfl, ?_, hr.mono fun _ _ q => Rp.mono (reg_mono sN sF) q⟩
      cases t
      · exact upd_same
      · exact upd_same
    · exact f.mono sN sF (W.facts f hf)
  · obtain ⟨u, e, r⟩ := W.at_ o (List.mem_cons_of_mem _ ho)
    exact ⟨u, e, o.mono sN sF r⟩
  · have nd := W.nd
    rw [List.map_cons] at nd
    have hne : o.a ≠ p := fun e => (List.nodup_cons.mp nd).1 (by
      have := List.mem_map_of_mem (f := (·.a)) ho
      rw [e] at this
      exact this)
    rw [upd_ne hne]
    exact W.off o (List.mem_cons_of_mem _ ho)
  · have nd := W.nd
    rw [List.map_cons] at nd
    exact (List.nodup_cons.mp nd).2
/-- a new tuple -/
theorem Wd.newT (W : WdI K B ctx L H N F) (hp : H p = Option.none) (t : Bool) (h : ∀ N' F', Same N N' → Same F F' → (reg t K N' F').t p vs → f.P K N' F') : Wd K B (f :: ctx) L (upd H p (.tup vs)) := by
  have hF : F p = Option.none := W.fH.free hp
  have hN : N p = Option.none := W.nF.free hF
  have hB : B p = Option.none := W.bF.free hF
  have sN : Same N (upd N p (.tup vs)) := fun b u e => by
    rw [upd_ne (ne_of_none e hN)]
    exact e
  have sF : Same F (upd F p (.tup vs)) := fun b u e => by
    rw [upd_ne (ne_of_none e hF)]
    exact e
  refine ⟨upd N p (.tup vs), upd F p (.tup vs), W.bF.trans sF, fun b u e => ?_, fun b u e => ?_, fun b u e => ?_, fun f hf => ?_, fun o ho => ?_, fun o ho => ?_, W.nd⟩
  · by_cases h : b = p
    · rw [h, upd_same] at e ⊢
      exact e
    · rw [upd_ne h] at e ⊢
      exact W.nF b u e
  · by_cases h : b = p
    · rw [h]
      exact hB
    · rw [upd_ne h] at e
      exact W.sep b u e
  · by_cases h : b = p
    · rw [h, upd_same] at e ⊢
      exact e
    · rw [upd_ne h] at e ⊢
      exact W.fH b u e
  · rcases List.mem_cons.mp hf with rfl | hf
    · refine h _ _ sN sF ?_
      cases t
      · exact SqT.of upd_same
      · exact upd_same
    · exact f.mono sN sF (W.facts f hf)
  · obtain ⟨u, e, r⟩ := W.at_ o ho
    exact ⟨u, by rw [upd_ne (ne_of_none e hp)]; exact e, o.mono sN sF r⟩
  · obtain ⟨u, e, r⟩ := W.at_ o ho
    rw [upd_ne (ne_of_none e hp)]
    exact W.off o ho
/-- one's own object changed -/
theorem Wd.put (W : WdI K B ctx L H N F) (j : Nat) {o' : Own} (hj : L[j]? = some o) (ea : o'.a = o.a) (k : HO) (h : o'.P K N F k) : Wd K B ctx (L.set j o') (upd H o.a k) := by
  have hoff := W.off _ (List.mem_of_getElem? hj)
  have key : ∀ q ∈ L.set j o', q = o' ∨ (q ∈ L ∧ q.a ≠ o.a) := fun q hq => setMem' W.nd hj hq
  refine ⟨N, F, W.bF, W.nF, W.sep, fun b u e => ?_, W.facts, fun q hq => ?_, fun q hq => ?_, ?_⟩
  · rw [upd_ne (fun z => by rw [z, hoff] at e; cases e)]
    exact W.fH b u e
  · rcases key q hq with rfl | ⟨h1, h2⟩
    · rw [ea]
      exact ⟨k, upd_same, h⟩
    · rw [upd_ne h2]
      exact W.at_ q h1
  · rcases key q hq with rfl | ⟨h1, h2⟩
    · rw [ea]
      exact hoff
    · exact W.off q h1
  · have e : (L.set j o').map (·.a) = L.map (·.a) := by
      rw [List.map_set, ea]
      refine List.ext_getElem? fun i => ?_
      rw [List.getElem?_set]
      by_cases hi : j = i
      · subst hi
        have := (List.getElem?_eq_some_iff.mp hj).1
        rw [if_pos rfl, if_pos (by rw [List.length_map]; exact this), List.getElem?_map, hj]
        rfl
      · rw [if_neg hi]
    rw [e]
    exact W.nd

/-! ### what a def gives back -/
def Res (K : PySem.W.Frag) (H : Hp) {α : Type} [Rp α] (r : α) (v : V) (H' : Hp) : Prop := ∃ R, Same H H' ∧ Same R H' ∧ (∀ a u, R a = some u → H a = none) ∧ Rp.rep (lkN R) r v
/-- with the list at a changed -/
def Res1 (K : PySem.W.Frag) (H : Hp) (a : Addr) {α β : Type} [Rp α] [Rp β] (r : α × List β) (v : V) (H' : Hp) : Prop := ∃ R, But [a] H H' ∧ Same R H' ∧ (∀ a u, R a = some u → H a = none) ∧ Rp.rep (lkN R) r.1 v ∧ ∃ vs, H' a = some (.lst vs) ∧ All2 (Rp.rep (lkN fun _ => none)) r.2 vs
theorem Wd.res (W : Wd K B ctx L H) (h : Kn K ctx true x v) : Res K B x v H := by
  obtain ⟨N, F, W⟩ := W
  exact ⟨N, W.bF.trans W.fH, W.nF.trans W.fH, W.sep, h N F W.nF W.facts⟩
/-- items that stand for themselves -/
class Flat (β : Type) [Rp β] : Prop where
  h : ∀ (S T : Lk) (x : β) (v : V), Rp.rep S x v → Rp.rep T x v
instance : Flat Int := ⟨fun _ _ _ _ h => h⟩
instance : Flat Bool := ⟨fun _ _ _ _ h => h⟩
theorem Wd.res1 [Flat β] {ys : List β} (W : Wd K (del B a) ctx L H) (hB : B a ≠ Option.none) (j : Nat) (hj : L[j]? = some (oL t a ys)) (h : Kn K ctx true x v) : Res1 K B a (x, ys) v H := by
  obtain ⟨N, F, W⟩ := W
  obtain ⟨k, hk, vs, rfl, hr⟩ := W.at_ _ (List.mem_of_getElem? hj)
  have hoff : F a = Option.none := W.off _ (List.mem_of_getElem? hj)
  refine ⟨N, But.of_del (W.bF.trans W.fH), W.nF.trans W.fH, fun b u e => ?_, h N F W.nF W.facts, vs, hk, hr.mono fun _ _ q => Flat.h _ _ _ _ q⟩
  have h1 := W.sep b u e
  by_cases hb : b = a
  · rw [hb] at e
    have := W.nF a u e
    rw [hoff] at this
    cases this
  · rwa [del_ne hb] at h1
def join (F R : Hp) : Hp := fun a => match F a with
  | some u => some u
  | none => R a
theorem join_l {F R : Hp} : Same F (join F R) := fun a u e => by
  unfold join
  rw [e]
theorem join_r {F R : Hp} (h : ∀ a u, R a = some u → F a = none) : Same R (join F R) := fun a u e => by
  unfold join
  rw [h a u e]
  exact e
theorem join_or {F R : Hp} {a : Addr} {u : HO} (h : join F R a = some u) : F a = some u ∨ R a = some u := by
  unfold join at h
  cases e : F a with
  | some w => rw [e] at h; exact .inl h
  | none => rw [e] at h; exact .inr h
/-- what is new behind a call joins what stands -/
theorem Wd.joinI {R : Hp} (W : WdI K B ctx L H N F) (s : But (L.map (·.a)) H H') (sR : Same R H') (hR : ∀ a u, R a = some u → H a = Option.none) (hL : ∀ o ∈ L', (∃ h, H' o.a = some h ∧ ∀ N' F', Same N N' → Same F F' → o.P K N' F' h)) (ea : L'.map (·.a) = L.map (·.a)) :
    WdI K B ctx L' H' (join N R) (join F R) := by
  have rF : ∀ a u, R a = some u → F a = Option.none := fun a u e => W.fH.free (hR a u e)
  have rN : ∀ a u, R a = some u → N a = Option.none := fun a u e => W.nF.free (rF a u e)
  have sN : Same N (join N R) := join_l
  have sF : Same F (join F R) := join_l
  have offL : ∀ o ∈ L', o.a ∈ L.map (·.a) := fun o ho => by
    rw [← ea]
    exact List.mem_map_of_mem ho
  refine ⟨W.bF.trans sF, fun b u e => ?_, fun b u e => ?_, fun b u e => ?_, fun f hf => f.mono sN sF (W.facts f hf), fun o ho => ?_, fun o ho => ?_, by rw [ea]; exact W.nd⟩
  · rcases join_or e with e | e
    · exact sF _ _ (W.nF b u e)
    · exact join_r rF _ _ e
  · rcases join_or e with e | e
    · exact W.sep b u e
    · exact W.bF.free (rF b u e)
  · rcases join_or e with e | e
    · refine s b u (fun hm => ?_) (W.fH b u e)
      obtain ⟨q, hq, eq⟩ := List.mem_map.mp hm
      have := W.off q hq
      rw [eq, e] at this
      cases this
    · exact sR b u e
  · obtain ⟨h, e, r⟩ := hL o ho
    exact ⟨h, e, r _ _ sN sF⟩
  · obtain ⟨q, hq, eq⟩ := List.mem_map.mp (offL o ho)
    rw [← eq]
    cases e : join F R q.a with
    | none => rfl
    | some u =>
      exfalso
      rcases join_or e with e | e
      · have := W.off q hq
        rw [e] at this
        cases this
      · obtain ⟨h, e2, _⟩ := W.at_ q hq
        have := hR _ _ e
        rw [e2] at this
        cases this
theorem Wd.call (W : Wd K B ctx L H) (r : Res K H x v H') : Wd K B (fc true x v :: ctx) L H' := by
  obtain ⟨N, F, W⟩ := W
  obtain ⟨R, s, sR, hR, hr⟩ := r
  have J := Wd.joinI (L' := L) W (fun b u _ e => s b u e) sR hR (fun o ho => let ⟨h, e, q⟩ := W.at_ o ho; ⟨h, s _ _ e, fun N' F' a b => o.mono a b q⟩) rfl
  refine ⟨_, _, J.bF, J.nF, J.sep, J.fH, fun f hf => ?_, J.at_, J.off, J.nd⟩
  rcases List.mem_cons.mp hf with rfl | hf
  · exact Rp.mono (lkN_mono (join_r fun a u e => W.nF.free (W.fH.free (hR a u e)))) hr
  · exact J.facts f hf
/-- the list that is told as one's own -/
theorem Wd.callO [Flat α] (W : Wd K B ctx L H) (r : Res K H xs v H') : ∃ p, v = .ref p ∧ Wd K B ctx (oL true p xs :: L) H' := by
  obtain ⟨N, F, W⟩ := W
  obtain ⟨R, s, sR, hR, p, vs, e, hl, hr⟩ := r
  have hn : H p = Option.none := hR p _ hl
  have J := Wd.joinI (L' := L) (R := del R p) W (fun b u _ e => s b u e) (Same.del.trans sR) (fun a u e => hR a u (Same.del a u e)) (fun o ho => let ⟨h, e, q⟩ := W.at_ o ho; ⟨h, s _ _ e, fun N' F' a b => o.mono a b q⟩) rfl
  refine ⟨p, e, _, _, J.bF, J.nF, J.sep, J.fH, J.facts, fun o ho => ?_, fun o ho => ?_, ?_⟩
  · rcases List.mem_cons.mp ho with rfl | ho
    · exact ⟨_, sR _ _ hl, vs, rfl, hr.mono fun _ _ q => Flat.h _ _ _ _ q⟩
    · exact J.at_ o ho
  · rcases List.mem_cons.mp ho with rfl | ho
    · show join F (del R p) p = none
      unfold join
      rw [W.fH.free hn]
      exact del_same
    · exact J.off o ho
  · rw [List.map_cons]
    refine List.nodup_cons.mpr ⟨fun hm => ?_, J.nd⟩
    obtain ⟨q, hq, eq⟩ := List.mem_map.mp hm
    obtain ⟨u, e2, _⟩ := W.at_ q hq
    rw [eq] at e2
    rw [show (oL true p xs).a = p from rfl, hn] at e2
    cases e2
theorem Wd.call1 [Flat β] {ys ys' : List β} {t' : Bool} (W : Wd K B ctx L H) (j : Nat) (hj : L[j]? = some (oL t' a ys)) (r : Res1 K H a (x, ys') v H') : Wd K B (fc true x v :: ctx) (L.set j (oL t' a ys')) H' := by
  obtain ⟨N, F, W⟩ := W
  obtain ⟨R, s, sR, hR, hr, vs, hv, hs⟩ := r
  have am : a ∈ L.map (·.a) := List.mem_map_of_mem (f := (·.a)) (List.mem_of_getElem? hj)
  have ea : (L.set j (oL t' a ys')).map (·.a) = L.map (·.a) := by
    rw [List.map_set]
    refine List.ext_getElem? fun i => ?_
    rw [List.getElem?_set]
    by_cases hi : j = i
    · subst hi
      have := (List.getElem?_eq_some_iff.mp hj).1
      rw [if_pos rfl, if_pos (by rw [List.length_map]; exact this), List.getElem?_map, hj]
      rfl
    · rw [if_neg hi]
  have J := Wd.joinI (L' := L.set j (oL t' a ys')) W (fun b u n e => s b u (fun z => n (by rw [List.mem_singleton.mp z]; exact am)) e) sR hR (fun o ho => ?_) ea
  · refine ⟨_, _, J.bF, J.nF, J.sep, J.fH, fun f hf => ?_, J.at_, J.off, J.nd⟩
    rcases List.mem_cons.mp hf with rfl | hf
    · exact Rp.mono (lkN_mono (join_r fun a u e => W.nF.free (W.fH.free (hR a u e)))) hr
    · exact J.facts f hf
  · rcases setMem' W.nd hj ho with rfl | ⟨h1, h2⟩
    · exact ⟨_, hv, fun N' F' _ _ => ⟨vs, rfl, hs.mono fun _ _ q => Flat.h _ _ _ _ q⟩⟩
    · obtain ⟨h, e, q⟩ := W.at_ o h1
      exact ⟨h, s _ _ (fun z => h2 (List.mem_singleton.mp z)) e, fun N' F' a b => o.mono a b q⟩
/-- by the kind of what is told -/
theorem Wd.callI {i : Int} (W : Wd K B ctx L H) (r : Res K H i v H') : v = .int i ∧ Wd K B ctx L H' := ⟨let ⟨_, _, _, _, h⟩ := r; h, W.same (let ⟨_, s, _⟩ := r; s)⟩
theorem Wd.callB {i : Bool} (W : Wd K B ctx L H) (r : Res K H i v H') : v = .bl i ∧ Wd K B ctx L H' := ⟨let ⟨_, _, _, _, h⟩ := r; h, W.same (let ⟨_, s, _⟩ := r; s)⟩
theorem Wd.callS {i : PySem.Str} (W : Wd K B ctx L H) (r : Res K H i v H') : v = .str i ∧ Wd K B ctx L H' := ⟨let ⟨_, _, _, _, h⟩ := r; h, W.same (let ⟨_, s, _⟩ := r; s)⟩
theorem Wd.callU {i : Unit} (W : Wd K B ctx L H) (r : Res K H i v H') : v = .non ∧ Wd K B ctx L H' := ⟨let ⟨_, _, _, _, h⟩ := r; h, W.same (let ⟨_, s, _⟩ := r; s)⟩
theorem Wd.call1I [Flat β] {i : Int} {ys ys' : List β} {t' : Bool} (W : Wd K B ctx L H) (j : Nat) (hj : L[j]? = some (oL t' a ys)) (r : Res1 K H a (i, ys') v H') : v = .int i ∧ Wd K B ctx (L.set j (oL t' a ys')) H' :=
  ⟨let ⟨_, _, _, _, h, _⟩ := r; h, (W.call1 j hj r).drop 1 rfl⟩
theorem Wd.call1B [Flat β] {i : Bool} {ys ys' : List β} {t' : Bool} (W : Wd K B ctx L H) (j : Nat) (hj : L[j]? = some (oL t' a ys)) (r : Res1 K H a (i, ys') v H') : v = .bl i ∧ Wd K B ctx (L.set j (oL t' a ys')) H' :=
  ⟨let ⟨_, _, _, _, h, _⟩ := r; h, (W.call1 j hj r).drop 1 rfl⟩
end
end PB

namespace PB
open PySem PySem.Spec PyProof.Rows L2
/-! ### the mirror's own words -/
inductive Ctl (ρ β : Type) where
  | go (b : β)
  | ret (r : ρ)
  | brk (b : β)
section
variable {α β γ ρ : Type}
def forO (f : α → β → Option (Ctl ρ β)) : List α → β → Option (Ctl ρ β)
  | [], b => some (.go b)
  | x :: xs, b => match f x b with
    | none => none
    | some (.go b') => forO f xs b'
    | some (.ret r) => some (.ret r)
    | some (.brk b') => some (.go b')
def foldO (f : α → β → Option β) : List α → β → Option β
  | [], b => some b
  | x :: xs, b => (f x b).bind fun b' => foldO f xs b'
def whileO (f : β → Option (Ctl ρ β)) : Nat → β → Option (Ctl ρ β)
  | 0, _ => none
  | n + 1, b => match f b with
    | none => none
    | some (.go b') => whileO f n b'
    | some (.ret r) => some (.ret r)
    | some (.brk b') => some (.go b')
def sizeO (n : Nat) : Option Unit := if n ≤ sizeLine then some () else none
def mapG (f : α → Option γ) : List α → Option (List γ)
  | [] => some []
  | x :: xs => (f x).bind fun y => (mapG f xs).bind fun ys => some (y :: ys)
/-- [e for x in xs] -/
def mapO (f : α → Option γ) (xs : List α) : Option (List γ) := if xs.length ≤ sizeLine then mapG f xs else none
/-- [e for x in xs if c]; none: left out -/
def cmpG (f : α → Option (Option γ)) : List α → Option (List γ)
  | [] => some []
  | x :: xs => (f x).bind fun y => (cmpG f xs).bind fun ys => some (match y with
    | some z => z :: ys
    | none => ys)
def cmpO (f : α → Option (Option γ)) (xs : List α) : Option (List γ) := if xs.length ≤ sizeLine then cmpG f xs else none
/-- the same with a state -/
def mapSG (f : α → β → Option (γ × β)) : List α → β → Option (List γ × β)
  | [], b => some ([], b)
  | x :: xs, b => (f x b).bind fun p => (mapSG f xs p.2).bind fun q => some (p.1 :: q.1, q.2)
def mapSO (f : α → β → Option (γ × β)) (xs : List α) (b : β) : Option (List γ × β) := if xs.length ≤ sizeLine then mapSG f xs b else none
/-- a condition and a state -/
def cmpSG (f : α → β → Option (Option γ × β)) : List α → β → Option (List γ × β)
  | [], b => some ([], b)
  | x :: xs, b => (f x b).bind fun p => (cmpSG f xs p.2).bind fun q => some (p.1.toList ++ q.1, q.2)
def cmpSO (f : α → β → Option (Option γ × β)) (xs : List α) (b : β) : Option (List γ × β) := if xs.length ≤ sizeLine then cmpSG f xs b else none
def lenI (xs : List α) : Int := xs.length
def sliceI (xs : List α) (lo hi : Option Int) : List α := (xs.drop (HT.sIx xs.length 0 lo)).take (HT.sIx xs.length xs.length hi - HT.sIx xs.length 0 lo)
def catO (xs ys : List α) : Option (List α) := if xs.length + ys.length ≤ sizeLine then some (xs ++ ys) else none
def appO (xs : List α) (x : α) : Option (List α) := if xs.length < sizeLine then some (xs ++ [x]) else none
def repO (xs : List α) (k : Int) : Option (List α) := if -(2 ^ 63) ≤ k ∧ k < 2 ^ 63 ∧ xs.length * k.toNat ≤ sizeLine then some (List.replicate k.toNat xs).flatten else none
def setO (xs : List α) (i : Int) (x : α) : Option (List α) := (ixN xs.length i).map fun j => xs.set j x
def rangeF (lo : Int) : Nat → List Int
  | 0 => []
  | n + 1 => lo :: rangeF (lo + 1) n
def rangeB (lo : Int) : Nat → List Int
  | 0 => []
  | n + 1 => lo :: rangeB (lo - 1) n
def ok62 (i : Int) : Prop := -(2 ^ 62) ≤ i ∧ i < 2 ^ 62
instance (i : Int) : Decidable (ok62 i) := by unfold ok62; infer_instance
def range1 (j : Int) : Option (List Int) := if ok62 j then some (rangeF 0 j.toNat) else none
def range2 (i j : Int) : Option (List Int) := if ok62 i ∧ ok62 j then some (rangeF i (j - i).toNat) else none
def rangeD (i j : Int) : Option (List Int) := if ok62 i ∧ ok62 j then some (rangeB i (i - j).toNat) else none
def enumI (i : Int) : List α → List (Int × α)
  | [] => []
  | x :: xs => (i, x) :: enumI (i + 1) xs
def mulO (i j : Int) : Option Int := if i.natAbs.log2 + j.natAbs.log2 < 1000000 then some (i * j) else none
def fdivO (i j : Int) : Option Int := if 0 < j ∧ j.natAbs.log2 < 9000 then some (i / j) else none
def modO (i j : Int) : Option Int := if 0 < j then some (i % j) else none
def powO (i j : Int) : Option Int := if 0 ≤ j ∧ j ≤ 1000000 ∧ i.natAbs < 2 ^ 64 then some (i ^ j.toNat) else none
def maxO (xs : List Int) : Option Int := if xs ≠ [] then some (mxI xs) else none
def minO (xs : List Int) : Option Int := if xs ≠ [] then some (mnI xs) else none
def sortI (xs : List Int) : List Int := xs.mergeSort
def isub (T c : String) : Bool := T == c || (T == "bool" && c == "int")
end
theorem bndE {α β : Type} {e : Option α} {f : α → Option β} {r : β} (h : e.bind f = some r) : ∃ x, e = some x ∧ f x = some r := by
  cases e with
  | none => cases h
  | some x => exact ⟨x, rfl, h⟩
theorem iteE {α : Type} {b : Bool} {A C : Option α} {r : α} (h : (if b = true then A else C) = some r) : (b = true ∧ A = some r) ∨ (b = false ∧ C = some r) := by
  cases b with
  | true => exact .inl ⟨rfl, h⟩
  | false => exact .inr ⟨rfl, h⟩
theorem guardE {α : Type} {p : Prop} [Decidable p] {x r : α} (h : (if p then some x else none) = some r) : p ∧ x = r := by
  by_cases hp : p
  · rw [if_pos hp] at h
    exact ⟨hp, Option.some.inj h⟩
  · rw [if_neg hp] at h
    cases h

/-! ### data, kinds -/
class RpD (α : Type) [Rp α] where
  d : α → PyData
  dp : ∀ {K : PySem.W.Frag} {H : Hp} {x : α} {v : V}, Rp.rep (lkA K H) x v → Dp K H v (d x)
  ty : α → String
  tyx : ∀ {K : PySem.W.Frag} {H : Hp} {x : α} {v : V}, Rp.rep (lkA K H) x v → TyX K H v (.type (ty x))
  tys : ∀ x, ty x ∈ ["NoneType", "bool", "int", "str", "list", "tuple"]
section
variable {α β γ : Type} [Rp α] [Rp β] [Rp γ] [RpD α] [RpD β] [RpD γ]
instance : RpD Int := ⟨.int, fun h => by cases h; exact .int _, fun _ => "int", fun h => by cases h; exact .base (.int _), fun _ => by simp⟩
instance : RpD Bool := ⟨.bool, fun h => by cases h; exact .bl _, fun _ => "bool", fun h => by cases h; exact .base (.bl _), fun _ => by simp⟩
instance : RpD Unit := ⟨fun _ => .none, fun h => by cases h; exact .non, fun _ => "NoneType", fun h => by cases h; exact .base .non, fun _ => by simp⟩
instance : RpD PySem.Str := ⟨.str, fun h => by cases h; exact .str _, fun _ => "str", fun h => by cases h; exact .base (.str _), fun _ => by simp⟩
instance : RpD (Option α) := ⟨fun x => match x with
    | none => .none
    | some y => RpD.d y, fun {K H x v} h => by
      cases x with
      | none => cases (show v = .non from h); exact .non
      | some y => exact RpD.dp (α := α) h, fun x => match x with
    | none => "NoneType"
    | some y => RpD.ty y, fun {K H x v} h => by
      cases x with
      | none => cases (show v = .non from h); exact .base .non
      | some y => exact RpD.tyx (α := α) h, fun x => by
      cases x with
      | none => simp
      | some y => exact RpD.tys y⟩
theorem all2_dp {K : PySem.W.Frag} {H : Hp} : ∀ {xs : List α} {vs : List V}, All2 (Rp.rep (lkA K H)) xs vs → DpAll K H vs (xs.map RpD.d)
  | [], [], _ => .nil
  | _ :: _, _ :: _, h => .cons (RpD.dp h.1) (all2_dp h.2)
  | [], _ :: _, h => h.elim
  | _ :: _, [], h => h.elim
theorem tyx_tup {K : PySem.W.Frag} {H : Hp} {a : Addr} {vs : List V} (h : SqT K H a vs) : TyX K H (.ref a) (.type "tuple") := by
  rcases h with (h | ⟨o, h⟩) | ⟨o, its, n, e, c, _⟩
  · exact .base (.tup h)
  · exact .fTuple h
  · exact .kTuple e c
instance : RpD (List α) := ⟨fun xs => .list (xs.map RpD.d), fun ⟨a, vs, e, h, r⟩ => by cases e; exact .lst (SqL.of h) (all2_dp r), fun _ => "list", fun ⟨a, vs, e, h, r⟩ => by cases e; exact .base (.lst h), fun _ => by simp⟩
instance : RpD (α × β) := ⟨fun x => .tuple [RpD.d x.1, RpD.d x.2], fun ⟨a, u, w, e, h, r1, r2⟩ => by cases e; exact .tup h (.cons (RpD.dp r1) (.cons (RpD.dp r2) .nil)), fun _ => "tuple", fun ⟨a, u, w, e, h, r1, r2⟩ => by cases e; exact tyx_tup h, fun _ => by simp⟩
instance : RpD (T3 α β γ) := ⟨fun x => .tuple [RpD.d x.a, RpD.d x.b, RpD.d x.c], fun ⟨a, u, w, z, e, h, r1, r2, r3⟩ => by cases e; exact .tup h (.cons (RpD.dp r1) (.cons (RpD.dp r2) (.cons (RpD.dp r3) .nil))), fun _ => "tuple", fun ⟨a, u, w, z, e, h, r1, r2, r3⟩ => by cases e; exact tyx_tup h, fun _ => by simp⟩
instance : RpD (T1 α) := ⟨fun x => .tuple [RpD.d x.a], fun ⟨a, u, e, h, r1⟩ => by cases e; exact .tup h (.cons (RpD.dp r1) .nil), fun _ => "tuple", fun ⟨a, u, e, h, r1⟩ => by cases e; exact tyx_tup h, fun _ => by simp⟩
end
def eqO {α β : Type} [Rp α] [RpD α] [Rp β] [RpD β] (x : α) (y : β) : Option Bool :=
  if SeqAt.shaped (RpD.d x) = true ∧ SeqAt.shaped (RpD.d y) = true then some (PyData.eqv (RpD.d x) (RpD.d y)) else none
def reprO {α : Type} [Rp α] [RpD α] (x : α) : Option PySem.Str :=
  if (RpD.d x).showable = true ∧ (RpD.d x).hasDict = false ∧ (RpD.d x).depth ≤ 60 ∧ (RpD.d x).shown.length ≤ sizeLine then some (RpD.d x).shown else none
def isiO {α : Type} [Rp α] [RpD α] (x : α) (c : String) : Bool := isub (RpD.ty x) c
theorem kit_isub {T c : String} (hT : T ∈ ["NoneType", "bool", "int", "str", "list", "tuple"]) (hc : c ∈ ["bool", "int", "str", "list", "tuple"]) : kitB T c = some (isub T c) := by
  have key : ∀ T ∈ ["NoneType", "bool", "int", "str", "list", "tuple"], ∀ c ∈ ["bool", "int", "str", "list", "tuple"], kitB T c = some (isub T c) := by decide +kernel
  exact key T hT c hc

/-! ### the steps over a world -/
section
variable {K : PySem.W.Frag} {B H H' : Hp} {ctx : List Fact} {L : List Own} {t t' : Bool} {α β γ : Type} [Rp α] [Rp β] [Rp γ] {x : α} {y : β} {z : γ} {xs ys : List α} {v w u : V} {vs : List V} {a p : Addr} {Q : VK} {i j : Int} {σ : L2.St}
theorem w_len (W : Wd K B ctx L H) (h : Ls K ctx L t xs v) (k : Q (.int (lenI xs)) H) : rLen K [v] H Q := by
  obtain ⟨N, F, W⟩ := W
  obtain ⟨a, vs, rfl, h1, h2⟩ := h B H N F W
  exact i_len h1 (by rw [h2.len]; exact k)
theorem w_lenT2 (W : Wd K B ctx L H) (h : Kn K ctx t (x, y) v) (k : Q (.int 2) H) : rLen K [v] H Q := by
  obtain ⟨N, F, W⟩ := W
  obtain ⟨a, u, w, rfl, h1, _⟩ := h N F W.nF W.facts
  exact i_lenT ((reg_A W.nF W.fH).t _ _ h1) k
theorem atI_2 {vs : List V} {R : α → V → Prop} (h : All2 R xs vs) (e : atI xs i = some x) : ∃ v, atI vs i = some v ∧ R x v := by
  unfold atI at e ⊢
  rw [h.len]
  cases q : ixN xs.length i with
  | none =>
    rw [q] at e
    cases e
  | some j =>
    rw [q] at e
    exact h.get e
theorem w_ix (W : Wd K B ctx L H) (h : Ls K ctx L t xs v) (e : atI xs i = some x) (k : ∀ u, Wd K B (fc t x u :: ctx) L H → Q u H) : rIx K v (.int i) H Q := by
  obtain ⟨N, F, W⟩ := W
  obtain ⟨a, vs, rfl, h1, h2⟩ := h B H N F W
  obtain ⟨u, e2, r⟩ := atI_2 h2 e
  refine i_ixL h1 e2 (k u ⟨N, F, W.bF, W.nF, W.sep, W.fH, fun f hf => ?_, W.at_, W.off, W.nd⟩)
  rcases List.mem_cons.mp hf with rfl | hf
  · exact r
  · exact W.facts f hf
theorem w_ixI {xs : List Int} {x : Int} (W : Wd K B ctx L H) (h : Ls K ctx L t xs v) (e : atI xs i = some x) (k : Q (.int x) H) : rIx K v (.int i) H Q := by
  obtain ⟨N, F, W⟩ := W
  obtain ⟨a, vs, rfl, h1, h2⟩ := h B H N F W
  obtain ⟨u, e2, r⟩ := atI_2 h2 e
  cases (show u = .int x from r)
  exact i_ixL h1 e2 k
theorem w_ixB {xs : List Bool} {x : Bool} (W : Wd K B ctx L H) (h : Ls K ctx L t xs v) (e : atI xs i = some x) (k : Q (.bl x) H) : rIx K v (.int i) H Q := by
  obtain ⟨N, F, W⟩ := W
  obtain ⟨a, vs, rfl, h1, h2⟩ := h B H N F W
  obtain ⟨u, e2, r⟩ := atI_2 h2 e
  cases (show u = .bl x from r)
  exact i_ixL h1 e2 k
theorem Wd.fact (W : WdI K B ctx L H N F) {f : Fact} (h : f.P K N F) : Wd K B (f :: ctx) L H :=
  ⟨N, F, W.bF, W.nF, W.sep, W.fH, fun g hg => by
    rcases List.mem_cons.mp hg with rfl | hg
    · exact h
    · exact W.facts g hg, W.at_, W.off, W.nd⟩
/-- t[0], t[1] of a pair -/
theorem w_fst (W : Wd K B ctx L H) (h : Kn K ctx t (x, y) v) (k : ∀ u, Wd K B (fc t x u :: ctx) L H → Q u H) : rIx K v (.int 0) H Q := by
  obtain ⟨N, F, W⟩ := W
  obtain ⟨a, u, w, rfl, h1, r1, r2⟩ := h N F W.nF W.facts
  exact i_ixT (v := u) ((reg_A W.nF W.fH).t _ _ h1) rfl (k u (Wd.fact W r1))
theorem w_snd (W : Wd K B ctx L H) (h : Kn K ctx t (x, y) v) (k : ∀ u, Wd K B (fc t y u :: ctx) L H → Q u H) : rIx K v (.int 1) H Q := by
  obtain ⟨N, F, W⟩ := W
  obtain ⟨a, u, w, rfl, h1, r1, r2⟩ := h N F W.nF W.facts
  exact i_ixT (v := w) ((reg_A W.nF W.fH).t _ _ h1) rfl (k w (Wd.fact W r2))
theorem w_3a {x : T3 α β γ} (W : Wd K B ctx L H) (h : Kn K ctx t x v) (k : ∀ u, Wd K B (fc t x.a u :: ctx) L H → Q u H) : rIx K v (.int 0) H Q := by
  obtain ⟨N, F, W⟩ := W
  obtain ⟨a, u, w, z, rfl, h1, r1, r2, r3⟩ := h N F W.nF W.facts
  exact i_ixT (v := u) ((reg_A W.nF W.fH).t _ _ h1) rfl (k u (Wd.fact W r1))
theorem w_3b {x : T3 α β γ} (W : Wd K B ctx L H) (h : Kn K ctx t x v) (k : ∀ u, Wd K B (fc t x.b u :: ctx) L H → Q u H) : rIx K v (.int 1) H Q := by
  obtain ⟨N, F, W⟩ := W
  obtain ⟨a, u, w, z, rfl, h1, r1, r2, r3⟩ := h N F W.nF W.facts
  exact i_ixT (v := w) ((reg_A W.nF W.fH).t _ _ h1) rfl (k w (Wd.fact W r2))
theorem w_3c {x : T3 α β γ} (W : Wd K B ctx L H) (h : Kn K ctx t x v) (k : ∀ u, Wd K B (fc t x.c u :: ctx) L H → Q u H) : rIx K v (.int 2) H Q := by
  obtain ⟨N, F, W⟩ := W
  obtain ⟨a, u, w, z, rfl, h1, r1, r2, r3⟩ := h N F W.nF W.facts
  exact i_ixT (v := z) ((reg_A W.nF W.fH).t _ _ h1) rfl (k z (Wd.fact W r3))
/-- a, b = t -/
theorem w_unp2 {g : TGs} {R : L2.St → Hp → Prop} (W : Wd K B ctx L H) (h : Kn K ctx t (x, y) v) (k : ∀ u w, Wd K B (fc t x u :: fc t y w :: ctx) L H → g [u, w] σ H R) : rUnp K 2 g v σ H R := by
  obtain ⟨N, F, W⟩ := W
  obtain ⟨a, u, w, rfl, h1, r1, r2⟩ := h N F W.nF W.facts
  refine ⟨a, _, rfl, (reg_A W.nF W.fH).t _ _ h1, rfl, k u w ?_⟩
  refine ⟨N, F, W.bF, W.nF, W.sep, W.fH, fun f hf => ?_, W.at_, W.off, W.nd⟩
  rcases List.mem_cons.mp hf with rfl | hf
  · exact r1
  · rcases List.mem_cons.mp hf with rfl | hf
    · exact r2
    · exact W.facts f hf
theorem w_unp3 {x : T3 α β γ} {g : TGs} {R : L2.St → Hp → Prop} (W : Wd K B ctx L H) (h : Kn K ctx t x v) (k : ∀ u w z, Wd K B (fc t x.a u :: fc t x.b w :: fc t x.c z :: ctx) L H → g [u, w, z] σ H R) : rUnp K 3 g v σ H R := by
  obtain ⟨N, F, W⟩ := W
  obtain ⟨a, u, w, z, rfl, h1, r1, r2, r3⟩ := h N F W.nF W.facts
  refine ⟨a, _, rfl, (reg_A W.nF W.fH).t _ _ h1, rfl, k u w z ?_⟩
  refine ⟨N, F, W.bF, W.nF, W.sep, W.fH, fun f hf => ?_, W.at_, W.off, W.nd⟩
  simp only [List.mem_cons] at hf
  rcases hf with rfl | rfl | rfl | hf
  · exact r1
  · exact r2
  · exact r3
  · exact W.facts f hf
/-- a, b = l of a list -/
theorem w_unpL {x1 x2 : α} {g : TGs} {R : L2.St → Hp → Prop} (W : Wd K B ctx L H) (h : Ls K ctx L t [x1, x2] v) (k : ∀ u w, Wd K B (fc t x1 u :: fc t x2 w :: ctx) L H → g [u, w] σ H R) : rUnpL K 2 g v σ H R := by
  obtain ⟨N, F, W⟩ := W
  obtain ⟨a, vs, rfl, h1, h2⟩ := h B H N F W
  match vs, h2, h1 with
  | [u, w], h2, h1 =>
    refine ⟨a, _, rfl, h1, rfl, k u w ⟨N, F, W.bF, W.nF, W.sep, W.fH, fun f hf => ?_, W.at_, W.off, W.nd⟩⟩
    rcases List.mem_cons.mp hf with rfl | hf
    · exact h2.1
    · rcases List.mem_cons.mp hf with rfl | hf
      · exact h2.2.1
      · exact W.facts f hf
theorem Wd.pI {i : Int} (W : Wd K B (fc t i v :: ctx) L H) : v = .int i ∧ Wd K B ctx L H := ⟨by
  obtain ⟨N, F, W⟩ := W
  exact W.facts _ List.mem_cons_self, W.drop 1 rfl⟩
theorem Wd.pB {i : Bool} (W : Wd K B (fc t i v :: ctx) L H) : v = .bl i ∧ Wd K B ctx L H := ⟨by
  obtain ⟨N, F, W⟩ := W
  exact W.facts _ List.mem_cons_self, W.drop 1 rfl⟩
theorem Wd.pS {i : PySem.Str} (W : Wd K B (fc t i v :: ctx) L H) : v = .str i ∧ Wd K B ctx L H := ⟨by
  obtain ⟨N, F, W⟩ := W
  exact W.facts _ List.mem_cons_self, W.drop 1 rfl⟩
/-- what a known value must be -/
theorem Wd.isI {i : Int} (W : Wd K B ctx L H) (h : Kn K ctx t (Option.some i) v) : v = .int i := by
  obtain ⟨N, F, W⟩ := W
  exact h N F W.nF W.facts
theorem Wd.isN (W : Wd K B ctx L H) (h : Kn K ctx t (Option.none : Option α) v) : v = .non := by
  obtain ⟨N, F, W⟩ := W
  exact h N F W.nF W.facts
theorem Kn.un (h : Kn K ctx t (Option.some x) v) : Kn K ctx t x v := fun N F s q => h N F s q
theorem cut_2 {vs : List V} {R : α → V → Prop} {lo hi : Option Int} (h : All2 R xs vs) : All2 R (sliceI xs lo hi) (cutV vs lo hi) := by
  unfold sliceI cutV
  rw [h.len]
  exact (h.drop _).take _
theorem w_slice {lo hi : Option Int} (W : Wd K B ctx L H) (h : Ls K ctx L t xs v) (k : ∀ p H', Wd K B ctx (oL t p (sliceI xs lo hi) :: L) H' → Q (.ref p) H') : rSlL K v lo hi H Q := by
  obtain ⟨N, F, W⟩ := W
  obtain ⟨a, vs, rfl, h1, h2⟩ := h B H N F W
  exact ⟨a, vs, rfl, h1, fun p hp => k p _ (Wd.newL W hp (cut_2 h2))⟩
def rRevL (K : PySem.W.Frag) (v : V) (H : Hp) (Q : VK) : Prop := ∃ a xs, v = .ref a ∧ SqL K H a xs ∧ ∀ p, H p = none → Q (.ref p) (upd H p (.lst xs.reverse))
theorem i_revL {te : TE} (h : te σ H fun x H1 => rRevL K x H1 Q) : tRevL K te σ H Q := h
theorem w_rev (W : Wd K B ctx L H) (h : Ls K ctx L t xs v) (k : ∀ p H', Wd K B ctx (oL t p xs.reverse :: L) H' → Q (.ref p) H') : rRevL K v H Q := by
  obtain ⟨N, F, W⟩ := W
  obtain ⟨a, vs, rfl, h1, h2⟩ := h B H N F W
  exact ⟨a, vs, rfl, h1, fun p hp => k p _ (Wd.newL W hp h2.rev)⟩
theorem w_list (W : Wd K B ctx L H) (h : Ls K ctx L t xs v) (k : ∀ p H', Wd K B ctx (oL t p xs :: L) H' → Q (.ref p) H') : rListOf K [v] H Q := by
  obtain ⟨N, F, W⟩ := W
  obtain ⟨a, vs, rfl, h1, h2⟩ := h B H N F W
  exact ⟨a, vs, rfl, .inl h1, fun p hp => k p _ (Wd.newL W hp h2)⟩
theorem w_cat {zs : List α} (W : Wd K B ctx L H) (h : Lx K ctx L t xs v) (h' : Lx K ctx L t ys w) (e : catO xs ys = some zs) (k : ∀ p H', Wd K B ctx (oL t p zs :: L) H' → Q (.ref p) H') : rAddA v w H Q := by
  obtain ⟨N, F, W⟩ := W
  obtain ⟨a, vs, rfl, h1, h2⟩ := h B H N F W
  obtain ⟨b, ws, rfl, h3, h4⟩ := h' B H N F W
  obtain ⟨hz, rfl⟩ := guardE e
  exact .inr ⟨a, b, vs, ws, rfl, rfl, h1, h3, by rw [h2.len, h4.len]; exact hz, fun p hp => k p _ (Wd.newL W hp (h2.app h4))⟩
theorem w_rep {zs : List α} {n : Int} (W : Wd K B ctx L H) (h : Lx K ctx L t xs v) (e : repO xs n = some zs) (k : ∀ p H', Wd K B ctx (oL t p zs :: L) H' → Q (.ref p) H') : rMulA v (.int n) H Q := by
  obtain ⟨N, F, W⟩ := W
  obtain ⟨a, vs, rfl, h1, h2⟩ := h B H N F W
  obtain ⟨⟨hz1, hz2, hz3⟩, rfl⟩ := guardE e
  exact .inr ⟨a, n, vs, rfl, rfl, h1, hz1, hz2, by rw [h2.len]; exact hz3, fun p hp => k p _ (Wd.newL W hp (h2.rep _))⟩
theorem w_lst (W : Wd K B ctx L H) (h : KnL K ctx t xs vs) (hz : vs.length ≤ sizeLine) (k : ∀ p H', Wd K B ctx (oL t p xs :: L) H' → Q (.ref p) H') : rLst vs H Q := by
  obtain ⟨N, F, W⟩ := W
  exact ⟨hz, fun p hp => k p _ (Wd.newL W hp (h N F W.nF W.facts))⟩
theorem w_tup2 (W : Wd K B ctx L H) (h : Kn K ctx t x v) (h' : Kn K ctx t y w) (k : ∀ p H', Wd K B (fc t (x, y) (.ref p) :: ctx) L H' → Q (.ref p) H') : rTup [v, w] H Q := by
  obtain ⟨N, F, W⟩ := W
  exact ⟨(by show (2 : Nat) ≤ sizeLine; decide), fun p hp => k p _ (Wd.newT W hp t fun N' F' s s' q => ⟨p, v, w, rfl, q, Rp.mono (reg_mono s s') (h N F W.nF W.facts), Rp.mono (reg_mono s s') (h' N F W.nF W.facts)⟩)⟩
theorem w_tup3 (W : Wd K B ctx L H) (h : Kn K ctx t x v) (h' : Kn K ctx t y w) (h'' : Kn K ctx t z u) (k : ∀ p H', Wd K B (fc t (T3.mk x y z) (.ref p) :: ctx) L H' → Q (.ref p) H') : rTup [v, w, u] H Q := by
  obtain ⟨N, F, W⟩ := W
  exact ⟨(by show (3 : Nat) ≤ sizeLine; decide), fun p hp => k p _ (Wd.newT W hp t fun N' F' s s' q => ⟨p, v, w, u, rfl, q, Rp.mono (reg_mono s s') (h N F W.nF W.facts), Rp.mono (reg_mono s s') (h' N F W.nF W.facts), Rp.mono (reg_mono s s') (h'' N F W.nF W.facts)⟩)⟩
theorem w_app {zs : List α} (W : Wd K B ctx L H) (j : Nat) (hj : L[j]? = some (oL t a xs)) (h : Kn K ctx t x v) (e : appO xs x = some zs) (k : ∀ H', Wd K B ctx (L.set j (oL t a zs)) H' → Q .non H') : rAppend (.ref a) [v] H Q := by
  obtain ⟨N, F, W⟩ := W
  obtain ⟨o, h1, vs, rfl, h2⟩ := W.at_ _ (List.mem_of_getElem? hj)
  obtain ⟨hz, rfl⟩ := guardE e
  exact ⟨a, vs, v, rfl, rfl, h1, by rw [h2.len]; exact hz, k _ (Wd.put (o' := oL t a (xs ++ [x])) W j hj rfl _ ⟨_, rfl, h2.app (.one (h N F W.nF W.facts))⟩)⟩
theorem w_ext {zs : List α} (W : Wd K B ctx L H) (j : Nat) (hj : L[j]? = some (oL t a xs)) (h : Lx K ctx L t ys v) (e : catO xs ys = some zs) (k : ∀ H', Wd K B ctx (L.set j (oL t a zs)) H' → Q .non H') : rExtend (.ref a) [v] H Q := by
  obtain ⟨N, F, W⟩ := W
  obtain ⟨o, h1, vs, rfl, h2⟩ := W.at_ _ (List.mem_of_getElem? hj)
  obtain ⟨b, ws, rfl, h3, h4⟩ := h B H N F W
  obtain ⟨hz, rfl⟩ := guardE e
  exact ⟨a, b, vs, ws, rfl, rfl, h1, h3, by rw [h2.len, h4.len]; exact hz, k _ (Wd.put (o' := oL t a (xs ++ ys)) W j hj rfl _ ⟨_, rfl, h2.app h4⟩)⟩
theorem w_set {zs : List α} {R : Hp → Prop} (W : Wd K B ctx L H) (j : Nat) (hj : L[j]? = some (oL t a xs)) (h : Kn K ctx t x v) (e : setO xs i x = some zs) (k : ∀ H', Wd K B ctx (L.set j (oL t a zs)) H' → R H') : rSetL (.ref a) (.int i) v H R := by
  obtain ⟨N, F, W⟩ := W
  obtain ⟨o, h1, vs, rfl, h2⟩ := W.at_ _ (List.mem_of_getElem? hj)
  unfold setO at e
  cases q : ixN xs.length i with
  | none => rw [q] at e; cases e
  | some m =>
    rw [q] at e
    cases e
    exact ⟨a, vs, i, m, rfl, rfl, h1, by rw [h2.len]; exact q, k _ (Wd.put (o' := oL t a (xs.set m x)) W j hj rfl _ ⟨_, rfl, h2.set m (h N F W.nF W.facts)⟩)⟩
theorem w_mt {r : V → List V → Hp → VK → Prop} {tx : TA} (W : Wd K B ctx L H) (h : Ls K ctx L t xs v) (k : tx σ H fun zs H2 => r v zs H2 Q) : rMt K "list" r tx σ v H Q := by
  obtain ⟨N, F, W⟩ := W
  obtain ⟨a, vs, rfl, h1, h2⟩ := h B H N F W
  exact i_mtL h1 k
theorem w_sum {xs : List Int} (W : Wd K B ctx L H) (h : Ls K ctx L t xs v) (k : Q (.int xs.sum) H) : rSum K [v] H Q := by
  obtain ⟨N, F, W⟩ := W
  obtain ⟨a, vs, rfl, h1, h2⟩ := h B H N F W
  rw [all2_int h2] at h1
  exact i_sum h1 k
theorem w_max {xs : List Int} {m : Int} (W : Wd K B ctx L H) (h : Ls K ctx L t xs v) (e : maxO xs = some m) (k : Q (.int m) H) : rMax K [v] H Q := by
  obtain ⟨N, F, W⟩ := W
  obtain ⟨a, vs, rfl, h1, h2⟩ := h B H N F W
  rw [all2_int h2] at h1
  obtain ⟨hn, rfl⟩ := guardE e
  exact i_maxF h1 (List.length_pos_iff.mpr hn) k
theorem w_min {xs : List Int} {m : Int} (W : Wd K B ctx L H) (h : Ls K ctx L t xs v) (e : minO xs = some m) (k : Q (.int m) H) : rMin K [v] H Q := by
  obtain ⟨N, F, W⟩ := W
  obtain ⟨a, vs, rfl, h1, h2⟩ := h B H N F W
  rw [all2_int h2] at h1
  obtain ⟨hn, rfl⟩ := guardE e
  exact i_minF h1 (List.length_pos_iff.mpr hn) k
theorem sorted_uniq : ∀ {xs ys : List Int}, xs.Perm ys → xs.Pairwise (· ≤ ·) → ys.Pairwise (· ≤ ·) → xs = ys
  | [], ys, p, _, _ => by rw [List.Perm.nil_eq p]
  | x :: xs, ys, p, h1, h2 => by
    cases ys with
    | nil => exact absurd p.length_eq (by simp)
    | cons y ys =>
      obtain ⟨a1, a2⟩ := List.pairwise_cons.mp h1
      obtain ⟨b1, b2⟩ := List.pairwise_cons.mp h2
      have e : x = y := by
        have hx := p.mem_iff.mp (List.mem_cons_self (a := x))
        have hy := p.mem_iff.mpr (List.mem_cons_self (a := y))
        rcases List.mem_cons.mp hx with h | h
        · exact h
        · rcases List.mem_cons.mp hy with h' | h'
          · exact h'.symm
          · have := a1 _ h'
            have := b1 _ h
            omega
      subst e
      rw [sorted_uniq (List.Perm.cons_inv p) a2 b2]
theorem sortI_perm (xs : List Int) : (sortI xs).Perm xs := List.mergeSort_perm _ _
theorem sortI_pw (xs : List Int) : (sortI xs).Pairwise (· ≤ ·) := by
  have h := List.pairwise_mergeSort (le := fun (a b : Int) => decide (a ≤ b)) (fun a b c h1 h2 => by simp at *; omega) (fun a b => by simp; omega) xs
  exact h.imp fun h => by simpa using h
theorem w_sorted {xs : List Int} (W : Wd K B ctx L H) (h : Ls K ctx L t xs v) (k : ∀ p H', Wd K B ctx (oL true p (sortI xs) :: L) H' → Q (.ref p) H') : rSortedI K [v] H Q := by
  obtain ⟨N, F, W⟩ := W
  obtain ⟨a, vs, rfl, h1, h2⟩ := h B H N F W
  rw [all2_int h2] at h1
  refine ⟨a, xs, rfl, h1, fun ms p hp hs hn => ?_⟩
  have e : ms = sortI xs := sorted_uniq (hp.trans (sortI_perm xs).symm) hs (sortI_pw xs)
  rw [e]
  exact k p _ (Wd.newL W hn (all2_ofInt _))
section
variable [RpD α] [RpD β]
theorem w_eq {b : Bool} (W : Wd K B ctx L H) (h : Ar K ctx L x v) (h' : Ar K ctx L y w) (e : eqO x y = some b) (k : Q (.bl b) H) : rEqA K v w H Q := by
  obtain ⟨N, F, W⟩ := W
  obtain ⟨⟨s1, s2⟩, rfl⟩ := guardE e
  exact i_eqD (RpD.dp (h B H N F W)) (RpD.dp (h' B H N F W)) s1 s2 k
theorem w_ne {b : Bool} (W : Wd K B ctx L H) (h : Ar K ctx L x v) (h' : Ar K ctx L y w) (e : eqO x y = some b) (k : Q (.bl (!b)) H) : rNeA K v w H Q := by
  obtain ⟨N, F, W⟩ := W
  obtain ⟨⟨s1, s2⟩, rfl⟩ := guardE e
  exact i_neD (RpD.dp (h B H N F W)) (RpD.dp (h' B H N F W)) s1 s2 k
theorem w_repr {s : PySem.Str} (W : Wd K B ctx L H) (h : Ar K ctx L x v) (e : reprO x = some s) (k : Q (.str s) H) : rRepr K [v] H Q := by
  obtain ⟨N, F, W⟩ := W
  obtain ⟨⟨s1, s2, s3, s4⟩, rfl⟩ := guardE e
  exact i_repr (RpD.dp (h B H N F W)) s1 s2 s3 s4 k
theorem w_isi {c : String} (W : Wd K B ctx L H) (h : Ar K ctx L x v) (hc : c ∈ ["bool", "int", "str", "list", "tuple"]) (k : Q (.bl (isiO x c)) H) : rIsX K [v, .ty c] H Q := by
  obtain ⟨N, F, W⟩ := W
  exact .inl (i_isi (RpD.tyx (h B H N F W)) (kit_isub (RpD.tys x) hc) k)
end
theorem opt_non {x : Option α} (W : Wd K B ctx L H) (h : Kn K ctx t x v) (hn : ∀ (y : α) S u, Rp.rep S y u → u ≠ .non) : decide (v = .non) = x.isNone := by
  obtain ⟨N, F, W⟩ := W
  have r := h N F W.nF W.facts
  cases x with
  | none =>
    cases (show v = .non from r)
    rfl
  | some y => exact decide_eq_false (hn y _ v r)
/-- values that are never None -/
class NN (α : Type) [Rp α] : Prop where
  h : ∀ (y : α) S u, Rp.rep S y u → u ≠ .non
instance : NN Int := ⟨fun _ _ _ h e => by cases h; cases e⟩
instance : NN Bool := ⟨fun _ _ _ h e => by cases h; cases e⟩
instance : NN PySem.Str := ⟨fun _ _ _ h e => by cases h; cases e⟩
instance : NN (List α) := ⟨fun _ _ _ ⟨_, _, h, _⟩ e => by rw [h] at e; cases e⟩
instance : NN (α × β) := ⟨fun _ _ _ ⟨_, _, _, h, _⟩ e => by rw [h] at e; cases e⟩
instance : NN (T3 α β γ) := ⟨fun _ _ _ ⟨_, _, _, _, h, _⟩ e => by rw [h] at e; cases e⟩
theorem w_isN [NN α] {x : Option α} (W : Wd K B ctx L H) (h : Kn K ctx t x v) (k : Q (.bl x.isNone) H) : rIsN v .non H Q := ⟨rfl, by
  rw [opt_non W h NN.h]
  exact k⟩
theorem w_notN [NN α] {x : Option α} (W : Wd K B ctx L H) (h : Kn K ctx t x v) (k : Q (.bl (!x.isNone)) H) : rNotN v .non H Q := ⟨rfl, by
  rw [opt_non W h NN.h]
  exact k⟩
/-- and, or, if-else: the right side once for all wishes -/
theorem w_and {b : Bool} {tt : TT} {R : Bool → Hp → Prop} (Mid : Bool → Hp → Prop) (h1 : b = true → ∀ R' : Bool → Hp → Prop, (∀ c H', Mid c H' → R' c H') → tt σ H R') (h2 : b = false → Mid false H) (h3 : ∀ c H', Mid c H' → R c H') : if b = true then tt σ H R else R false H := by
  cases b with
  | true => exact i_T (h1 rfl R h3)
  | false => exact i_F (h3 _ _ (h2 rfl))
theorem w_or {b : Bool} {tt : TT} {R : Bool → Hp → Prop} (Mid : Bool → Hp → Prop) (h1 : b = false → ∀ R' : Bool → Hp → Prop, (∀ c H', Mid c H' → R' c H') → tt σ H R') (h2 : b = true → Mid true H) (h3 : ∀ c H', Mid c H' → R c H') : if b = true then R true H else tt σ H R := by
  cases b with
  | true => exact i_T (h3 _ _ (h2 rfl))
  | false => exact i_F (h1 rfl R h3)
theorem w_andV {b : Bool} {te : TE} (Mid : V → Hp → Prop) (h1 : b = true → ∀ Q' : VK, (∀ c H', Mid c H' → Q' c H') → te σ H Q') (h2 : b = false → Mid (.bl false) H) (h3 : ∀ c H', Mid c H' → Q c H') : if b = true then te σ H Q else Q (.bl false) H := by
  cases b with
  | true => exact i_T (h1 rfl Q h3)
  | false => exact i_F (h3 _ _ (h2 rfl))
theorem w_orV {b : Bool} {te : TE} (Mid : V → Hp → Prop) (h1 : b = false → ∀ Q' : VK, (∀ c H', Mid c H' → Q' c H') → te σ H Q') (h2 : b = true → Mid (.bl true) H) (h3 : ∀ c H', Mid c H' → Q c H') : if b = true then Q (.bl true) H else te σ H Q := by
  cases b with
  | true => exact i_T (h3 _ _ (h2 rfl))
  | false => exact i_F (h1 rfl Q h3)
theorem w_ite {b : Bool} {ta tb : TE} (Mid : V → Hp → Prop) (h1 : b = true → ∀ Q' : VK, (∀ c H', Mid c H' → Q' c H') → ta σ H Q') (h2 : b = false → ∀ Q' : VK, (∀ c H', Mid c H' → Q' c H') → tb σ H Q') (h3 : ∀ c H', Mid c H' → Q c H') : if b = true then ta σ H Q else tb σ H Q := by
  cases b with
  | true => exact i_T (h1 rfl Q h3)
  | false => exact i_F (h2 rfl Q h3)
end
end PB

namespace PB
open PySem PySem.Spec PyProof.Rows L2
/-! ### loops by their mirrors -/
section
variable {K : PySem.W.Frag} {B : Hp} {ρ β ε α γ : Type} [Rp α] [Rp γ]
/-- the state of a loop: slots, facts, own lists by the mirror's state b and what is chosen, e -/
structure Shp (β ε : Type) where
  sg : β → ε → L2.St
  cx : β → ε → List Fact
  ow : β → ε → List Own
def NX (K : PySem.W.Frag) (B : Hp) (S : Shp β ε) (o : Ctl ρ β) (σ : L2.St) (H : Hp) : Prop := ∃ b e, o = .go b ∧ σ = S.sg b e ∧ Wd K B (S.cx b e) (S.ow b e) H
def NF (K : PySem.W.Frag) (B : Hp) (S : Shp β ε) (b : β) (σ : L2.St) (H : Hp) : Prop := ∃ e, σ = S.sg b e ∧ Wd K B (S.cx b e) (S.ow b e) H
/-- what is walked gives the items of xs -/
def Gives (K : PySem.W.Frag) (B : Hp) (S : Shp β ε) (J : It) (t : Bool) (xs : List α) : Prop := ∀ (i : Nat) b e H, Wd K B (S.cx b e) (S.ow b e) H →
  (xs.length ≤ i → J.stop i H) ∧ ∀ x, xs[i]? = some x → J.go i H ∧ ∀ v H', J.yld i H v H' → Wd K B (fc t x v :: S.cx b e) (S.ow b e) H'
section
variable {S : Shp β ε} {H : Hp} {σ : L2.St} {nx bk ct : L2.St → Hp → Prop} {rt : VK} {g : TG} {tb : TS} {J : It} {t : Bool} {xs : List α} {b0 : β} {e0 : ε}
theorem w_for {f : α → β → Option (Ctl ρ β)} {o : Ctl ρ β} (S : Shp β ε) (e0 : ε) (hm : forO f xs b0 = some o) (hσ : σ = S.sg b0 e0) (W : Wd K B (S.cx b0 e0) (S.ow b0 e0) H) (hJ : Gives K B S J t xs)
    (step : ∀ x v b e H' o', Wd K B (fc t x v :: S.cx b e) (S.ow b e) H' → f x b = some o' → (∀ r, o' = .ret r → o = .ret r) → g v (S.sg b e) H' fun σ2 H2 => tb ⟨NX K B S o', rt, nx, NX K B S o'⟩ σ2 H2)
    (done : ∀ b e H, o = .go b → Wd K B (S.cx b e) (S.ow b e) H → nx (S.sg b e) H) : rFor J g tb ⟨nx, rt, bk, ct⟩ σ H := by
  refine ⟨fun i m σ H => m = xs.length - i ∧ ∃ b e, forO f (xs.drop i) b = some o ∧ σ = S.sg b e ∧ Wd K B (S.cx b e) (S.ow b e) H, ⟨_, rfl, b0, e0, hm, hσ, W⟩, ?_⟩
  rintro i m σ H ⟨rfl, b, e, hm, rfl, W⟩
  obtain ⟨h1, h2⟩ := hJ i b e H W
  by_cases hi : i < xs.length
  · have hx : xs[i]? = some xs[i] := List.getElem?_eq_getElem hi
    obtain ⟨h3, h4⟩ := h2 _ hx
    rw [List.drop_eq_getElem_cons hi, forO] at hm
    refine .inr ⟨h3, ?_⟩
    cases q : f xs[i] b with
    | none => rw [q] at hm; cases hm
    | some o' =>
      rw [q] at hm
      refine ⟨NX K B S o', ?_, fun v H' y => step _ v b e H' o' (h4 v H' y) q (fun r er => ?_)⟩
      · rintro σ' H'' ⟨b', e', rfl, rfl, W'⟩
        exact ⟨xs.length - (i + 1), by omega, rfl, b', e', hm, rfl, W'⟩
      · subst er
        exact (Option.some.inj hm).symm
  · rw [List.drop_eq_nil_of_le (by omega), forO] at hm
    exact .inl ⟨h1 (by omega), done b e H (Option.some.inj hm).symm W⟩
theorem w_fold {f : α → β → Option β} {b1 : β} (S : Shp β ε) (e0 : ε) (hm : foldO f xs b0 = some b1) (hσ : σ = S.sg b0 e0) (W : Wd K B (S.cx b0 e0) (S.ow b0 e0) H) (hJ : Gives K B S J t xs)
    (step : ∀ x v b e H' b', Wd K B (fc t x v :: S.cx b e) (S.ow b e) H' → f x b = some b' → g v (S.sg b e) H' fun σ2 H2 => tb ⟨NF K B S b', rt, nx, NF K B S b'⟩ σ2 H2)
    (done : ∀ e H, Wd K B (S.cx b1 e) (S.ow b1 e) H → nx (S.sg b1 e) H) : rFor J g tb ⟨nx, rt, bk, ct⟩ σ H := by
  refine ⟨fun i m σ H => m = xs.length - i ∧ ∃ b e, foldO f (xs.drop i) b = some b1 ∧ σ = S.sg b e ∧ Wd K B (S.cx b e) (S.ow b e) H, ⟨_, rfl, b0, e0, hm, hσ, W⟩, ?_⟩
  rintro i m σ H ⟨rfl, b, e, hm, rfl, W⟩
  obtain ⟨h1, h2⟩ := hJ i b e H W
  by_cases hi : i < xs.length
  · have hx : xs[i]? = some xs[i] := List.getElem?_eq_getElem hi
    obtain ⟨h3, h4⟩ := h2 _ hx
    rw [List.drop_eq_getElem_cons hi, foldO] at hm
    obtain ⟨b', q, hm⟩ := bndE hm
    refine .inr ⟨h3, NF K B S b', ?_, fun v H' y => step _ v b e H' b' (h4 v H' y) q⟩
    rintro σ' H'' ⟨e', rfl, W'⟩
    exact ⟨xs.length - (i + 1), by omega, rfl, b', e', hm, rfl, W'⟩
  · rw [List.drop_eq_nil_of_le (by omega), foldO] at hm
    cases hm
    exact .inl ⟨h1 (by omega), done e H W⟩
/-- while: .brk ends it -/
def NW2 (K : PySem.W.Frag) (B : Hp) (S : Shp β ε) (o : Ctl ρ β) (σ : L2.St) (H : Hp) : Prop := ∃ b e, o = .brk b ∧ σ = S.sg b e ∧ Wd K B (S.cx b e) (S.ow b e) H
theorem w_while {c : TT} {f : β → Option (Ctl ρ β)} {o : Ctl ρ β} {n : Nat} (S : Shp β ε) (e0 : ε) (hm : whileO f n b0 = some o) (hσ : σ = S.sg b0 e0) (W : Wd K B (S.cx b0 e0) (S.ow b0 e0) H)
    (step : ∀ b e H' o', Wd K B (S.cx b e) (S.ow b e) H' → f b = some o' → (∀ r, o' = .ret r → o = .ret r) → (∀ b' e' H'', o' = .brk b' → Wd K B (S.cx b' e') (S.ow b' e') H'' → nx (S.sg b' e') H'') → ∀ P : L2.St → Hp → Prop, (∀ σ' H'', NX K B S o' σ' H'' → P σ' H'') →
      c (S.sg b e) H' fun k H1 => if k = true then (∃ N : L2.St → Hp → Prop, (∀ σ' H'', N σ' H'' → P σ' H'') ∧ tb ⟨N, rt, nx, N⟩ (S.sg b e) H1) else nx (S.sg b e) H1)
    (done : ∀ b e H, o = .go b → Wd K B (S.cx b e) (S.ow b e) H → nx (S.sg b e) H) : tWhile c tb ⟨nx, rt, bk, ct⟩ σ H := by
  refine ⟨fun m σ H => ∃ b e, whileO f m b = some o ∧ σ = S.sg b e ∧ Wd K B (S.cx b e) (S.ow b e) H, ⟨n, b0, e0, hm, hσ, W⟩, ?_⟩
  rintro m σ H ⟨b, e, hm, rfl, W⟩
  cases m with
  | zero => cases hm
  | succ m =>
    rw [whileO] at hm
    cases q : f b with
    | none => rw [q] at hm; cases hm
    | some o' =>
      rw [q] at hm
      refine step b e H o' W q (fun r er => ?_) (fun b' e' H'' eb W' => ?_) _ ?_
      · subst er
        exact (Option.some.inj hm).symm
      · subst eb
        exact done b' e' H'' (Option.some.inj hm).symm W'
      · rintro σ' H'' ⟨b', e', rfl, rfl, W'⟩
        exact ⟨m, Nat.lt_succ_self m, b', e', hm, rfl, W'⟩
end
/-! ### what a for walks -/
section
variable {S : Shp β ε} {t : Bool} {xs : List α} {a : Addr}
theorem gv_list (h : ∀ b e, Ls K (S.cx b e) (S.ow b e) t xs (.ref a)) : Gives K B S (Itl K a) t xs := fun i b e H W => by
  obtain ⟨N, F, W⟩ := W
  obtain ⟨a', vs, ea, h1, h2⟩ := h b e B H N F W
  cases ea
  refine ⟨fun hi => ⟨vs, h1, by rw [h2.len]; exact hi⟩, fun x hx => ?_⟩
  obtain ⟨v, hv, r⟩ := h2.get hx
  refine ⟨⟨vs, v, h1, hv⟩, fun v' H' y => ?_⟩
  obtain ⟨rfl, y⟩ := y
  have := y vs h1
  rw [hv] at this
  cases this
  exact Wd.fact W r
theorem gv_enum (h : ∀ b e, Ls K (S.cx b e) (S.ow b e) t xs (.ref a)) : Gives K B S (Ite K a) t (enumI 0 xs) := fun i b e H W => by
  have en : ∀ (k : Int) (xs : List α) (i : Nat) (p : Int × α), (enumI k xs)[i]? = some p → p.1 = k + i ∧ xs[i]? = some p.2 := by
    intro k xs
    induction xs generalizing k with
    | nil => intro i p h; simp [enumI] at h
    | cons x xs ih =>
      intro i p h
      cases i with
      | zero => simp [enumI] at h; subst h; exact ⟨by simp, rfl⟩
      | succ i =>
        obtain ⟨h1, h2⟩ := ih (k + 1) i p (by simpa [enumI] using h)
        exact ⟨by rw [h1]; omega, by simpa using h2⟩
  have el : ∀ (k : Int) (xs : List α), (enumI k xs).length = xs.length := by
    intro k xs
    induction xs generalizing k with
    | nil => rfl
    | cons x xs ih => exact congrArg (· + 1) (ih (k + 1))
  obtain ⟨N, F, W⟩ := W
  obtain ⟨a', vs, ea, h1, h2⟩ := h b e B H N F W
  cases ea
  refine ⟨fun hi => ⟨vs, h1, by rw [h2.len, ← el 0]; exact hi⟩, fun x hx => ?_⟩
  obtain ⟨e1, e2⟩ := en 0 xs i x hx
  obtain ⟨v, hv, r⟩ := h2.get e2
  refine ⟨⟨vs, v, h1, hv⟩, fun v' H' y => ?_⟩
  obtain ⟨p, w, rfl, hp, rfl, y⟩ := y
  have := y vs h1
  rw [hv] at this
  cases this
  refine Wd.newT W hp t fun N' F' s s' q => ⟨p, _, v, rfl, q, ?_, Rp.mono (reg_mono s s') r⟩
  show V.int (i : Nat) = .int x.1
  rw [e1]
  simp
theorem gv_zip {δ : Type} [Rp δ] {ys : List δ} {c : Addr} (h : ∀ b e, Ls K (S.cx b e) (S.ow b e) t xs (.ref a)) (h' : ∀ b e, Ls K (S.cx b e) (S.ow b e) t ys (.ref c)) : Gives K B S (Itz K a c) t (xs.zip ys) := fun i b e H W => by
  obtain ⟨N, F, W⟩ := W
  obtain ⟨a', vs, ea, h1, h2⟩ := h b e B H N F W
  cases ea
  obtain ⟨a', ws, ea, h3, h4⟩ := h' b e B H N F W
  cases ea
  refine ⟨fun hi => ⟨vs, ws, h1, h3, ?_⟩, fun x hx => ?_⟩
  · rw [List.length_zip] at hi
    rw [h2.len, h4.len]
    omega
  · obtain ⟨e1, e2⟩ := List.getElem?_zip_eq_some.mp hx
    obtain ⟨v, hv, r⟩ := h2.get e1
    obtain ⟨w, hw, r'⟩ := h4.get e2
    refine ⟨⟨vs, ws, v, w, h1, h3, hv, hw⟩, fun v' H' y => ?_⟩
    obtain ⟨p, u, z, rfl, hp, rfl, y1, y2⟩ := y
    have t1 := y1 vs h1
    have t2 := y2 ws h3
    rw [hv] at t1
    rw [hw] at t2
    cases t1
    cases t2
    exact Wd.newT W hp t fun N' F' s s' q => ⟨p, v, w, rfl, q, Rp.mono (reg_mono s s') r, Rp.mono (reg_mono s s') r'⟩
theorem rangeF_get : ∀ (n : Nat) (lo : Int) (i : Nat) (x : Int), (rangeF lo n)[i]? = some x → i < n ∧ x = lo + i
  | 0, _, _, _, h => by simp [rangeF] at h
  | n + 1, lo, 0, x, h => by simp [rangeF] at h; subst h; exact ⟨by omega, by simp⟩
  | n + 1, lo, i + 1, x, h => by
    obtain ⟨h1, h2⟩ := rangeF_get n (lo + 1) i x (by simpa [rangeF] using h)
    exact ⟨by omega, by rw [h2]; omega⟩
theorem rangeF_len : ∀ (n : Nat) (lo : Int), (rangeF lo n).length = n
  | 0, _ => rfl
  | n + 1, lo => congrArg (· + 1) (rangeF_len n (lo + 1))
theorem rangeB_get : ∀ (n : Nat) (lo : Int) (i : Nat) (x : Int), (rangeB lo n)[i]? = some x → i < n ∧ x = lo - i
  | 0, _, _, _, h => by simp [rangeB] at h
  | n + 1, lo, 0, x, h => by simp [rangeB] at h; subst h; exact ⟨by omega, by simp⟩
  | n + 1, lo, i + 1, x, h => by
    obtain ⟨h1, h2⟩ := rangeB_get n (lo - 1) i x (by simpa [rangeB] using h)
    exact ⟨by omega, by rw [h2]; omega⟩
theorem rangeB_len : ∀ (n : Nat) (lo : Int), (rangeB lo n).length = n
  | 0, _ => rfl
  | n + 1, lo => congrArg (· + 1) (rangeB_len n (lo - 1))
theorem gv_rng {S : Shp β ε} {lo : Int} {n : Nat} : Gives K B S (Itr lo n) true (rangeF lo n) := fun i b e H W => by
  refine ⟨fun hi => by rw [rangeF_len] at hi; exact hi, fun x hx => ?_⟩
  obtain ⟨h1, h2⟩ := rangeF_get n lo i x hx
  refine ⟨h1, fun v H' y => ?_⟩
  obtain ⟨rfl, rfl⟩ := y
  rw [h2]
  exact W.know Kn.int
theorem gv_rgb {S : Shp β ε} {lo : Int} {n : Nat} : Gives K B S (Itc lo (-1) n) true (rangeB lo n) := fun i b e H W => by
  refine ⟨fun hi => by rw [rangeB_len] at hi; exact hi, fun x hx => ?_⟩
  obtain ⟨h1, h2⟩ := rangeB_get n lo i x hx
  refine ⟨h1, fun v H' y => ?_⟩
  obtain ⟨rfl, rfl⟩ := y
  rw [h2, show lo + (i : Int) * -1 = lo - i by omega]
  exact W.know Kn.int
/-- a tuple of like things that is walked: laid in the frame as a raw fact -/
def fT (t : Bool) {α : Type} [Rp α] (xs : List α) (v : V) : Fact := ⟨fun K N F => ∃ a vs, v = .ref a ∧ (reg t K N F).t a vs ∧ All2 (Rp.rep (reg t K N F)) xs vs,
  fun h1 h2 ⟨a, vs, e, h, r⟩ => ⟨a, vs, e, (reg_mono h1 h2).t _ _ h, r.mono fun _ _ q => Rp.mono (reg_mono h1 h2) q⟩⟩
theorem w_tupL {ctx : List Fact} {L : List Own} {H : Hp} {Q : VK} {vs : List V} (W : Wd K B ctx L H) (h : KnL K ctx t xs vs) (hz : vs.length ≤ sizeLine) (k : ∀ p H', Wd K B (fT t xs (.ref p) :: ctx) L H' → Q (.ref p) H') : rTup vs H Q := by
  obtain ⟨N, F, W⟩ := W
  exact ⟨hz, fun p hp => k p _ (Wd.newT W hp t fun N' F' s s' q => ⟨p, vs, rfl, q, (h N F W.nF W.facts).mono fun _ _ r => Rp.mono (reg_mono s s') r⟩)⟩
theorem gv_tup (j : β → ε → Nat) (h : ∀ b e, (S.cx b e)[j b e]? = some (fT t xs (.ref a))) : Gives K B S (Itt K a) t xs := fun i b e H W => by
  obtain ⟨N, F, W⟩ := W
  obtain ⟨a', vs, ea, h1, h2⟩ := W.facts _ (List.mem_of_getElem? (h b e))
  cases ea
  have h1 := (reg_A W.nF W.fH).t _ _ h1
  refine ⟨fun hi => ⟨vs, h1, by rw [h2.len]; exact hi⟩, fun x hx => ?_⟩
  obtain ⟨v, hv, r⟩ := h2.get hx
  refine ⟨⟨vs, v, h1, hv⟩, fun v' H' y => ?_⟩
  obtain ⟨rfl, y⟩ := y
  have := y vs h1
  rw [hv] at this
  cases this
  exact Wd.fact W r
end
/-! ### comprehensions -/
section
variable {S : Shp β ε} {H : Hp} {σ : L2.St} {g : TG} {tt : TT} {te : TE} {vs : List Nat} {Q : VK} {J : It} {t td : Bool} {xs : List α} {b0 b1 : β} {e0 : ε}
/-- the shape with the new list -/
def withD (S : Shp β ε) (td : Bool) (D : Addr) : Shp (β × List γ) ε := ⟨fun b e => S.sg b.1 e, fun b e => S.cx b.1 e, fun b e => oL td D b.2 :: S.ow b.1 e⟩
def NC (K : PySem.W.Frag) (B : Hp) (S : Shp β ε) (td : Bool) (D : Addr) (b : β) (acc : List γ) (H : Hp) : Prop := ∃ e, Wd K B (S.cx b e) (oL td D acc :: S.ow b e) H
theorem c_core {f : α → β → Option (Option γ × β)} {F : List α → β → Option (List γ × β)} {ys : List γ} (S : Shp β ε) (e0 : ε) (td : Bool)
    (hF0 : ∀ b, F [] b = some ([], b)) (hF1 : ∀ x xs b, F (x :: xs) b = (f x b).bind fun p => (F xs p.2).bind fun q => some (p.1.toList ++ q.1, q.2))
    (hm : F xs b0 = some (ys, b1)) (hz : xs.length ≤ sizeLine) (W : Wd K B (S.cx b0 e0) (S.ow b0 e0) H) (hJ : ∀ D, Gives K B (withD (γ := γ) S td D) J t xs)
    (step : ∀ D x v b e acc H' p, acc.length < sizeLine → Wd K B (fc t x v :: S.cx b e) (oL td D acc :: S.ow b e) H' → f x b = some p → g v (wipe σ vs) H' fun σ2 H2 => wipe σ2 vs = wipe σ vs ∧ tt σ2 H2 fun c H3 =>
      if c = true then te σ2 H3 (rElt D (NC K B S td D p.2 (acc ++ p.1.toList))) else NC K B S td D p.2 (acc ++ p.1.toList) H3)
    (done : ∀ D e H, Wd K B (S.cx b1 e) (oL td D ys :: S.ow b1 e) H → Q (.ref D) H) : rLc J g tt te vs σ H Q := fun D hD => by
  obtain ⟨N, F0, W⟩ := W
  have W1 : Wd K B (S.cx b0 e0) (oL td D ([] : List γ) :: S.ow b0 e0) (upd H D (.lst [])) := Wd.newL W hD trivial
  refine ⟨fun i m H => m = xs.length - i ∧ ∃ b e acc ys', F (xs.drop i) b = some (ys', b1) ∧ acc ++ ys' = ys ∧ acc.length ≤ i ∧ Wd K B (S.cx b e) (oL td D acc :: S.ow b e) H, ⟨_, rfl, b0, e0, [], ys, hm, rfl, Nat.le_refl _, W1⟩, ?_⟩
  rintro i m H ⟨rfl, b, e, acc, ys', hm, hys, hacc, W⟩
  obtain ⟨h1, h2⟩ := hJ D i (b, acc) e H W
  by_cases hi : i < xs.length
  · have hx : xs[i]? = some xs[i] := List.getElem?_eq_getElem hi
    obtain ⟨h3, h4⟩ := h2 _ hx
    rw [List.drop_eq_getElem_cons hi, hF1] at hm
    obtain ⟨p, q, hm⟩ := bndE hm
    obtain ⟨r, q2, hm⟩ := bndE hm
    have hm := Option.some.inj hm
    refine .inr ⟨h3, NC K B S td D p.2 (acc ++ p.1.toList), ?_, fun v H' y => step D _ v b e acc H' p (by omega) (h4 v H' y) q⟩
    rintro H'' ⟨e', W'⟩
    refine ⟨xs.length - (i + 1), by omega, rfl, p.2, e', acc ++ p.1.toList, r.1, ?_, ?_, ?_, W'⟩
    · rw [q2, ← (Prod.mk.inj hm).2]
    · rw [List.append_assoc, (Prod.mk.inj hm).1, hys]
    · rw [List.length_append]
      cases p.1 with
      | none => simp; omega
      | some z => simp; omega
  · rw [List.drop_eq_nil_of_le (by omega), hF0] at hm
    cases hm
    rw [List.append_nil] at hys
    subst hys
    exact .inl ⟨h1 (by omega), done D e H W⟩
theorem w_elt {ctx : List Fact} {L : List Own} {acc : List γ} {y : γ} {v : V} {D : Addr} {Nx : Hp → Prop} (W : Wd K B ctx (oL td D acc :: L) H) (h : Kn K ctx td y v) (hz : acc.length < sizeLine)
    (k : ∀ H', Wd K B ctx (oL td D (acc ++ [y]) :: L) H' → Nx H') : rElt D Nx v H := by
  obtain ⟨N, F, W⟩ := W
  obtain ⟨o, h1, vs, rfl, h2⟩ := W.at_ _ List.mem_cons_self
  exact ⟨vs, h1, by rw [h2.len]; exact hz, k _ (Wd.put (o' := oL td D (acc ++ [y])) W 0 rfl rfl _ ⟨_, rfl, h2.app (.one (h N F W.nF W.facts))⟩)⟩
/-- [e for x in xs] -/
theorem w_map {ctx : List Fact} {L : List Own} {f : α → Option γ} {ys : List γ} (td : Bool) (hm : mapO f xs = some ys) (W : Wd K B ctx L H) (hJ : ∀ D, Gives K B (withD (γ := γ) (⟨fun _ _ => σ, fun _ _ => ctx, fun _ _ => L⟩ : Shp Unit Unit) td D) J t xs)
    (step : ∀ D x v acc H' y, acc.length < sizeLine → Wd K B (fc t x v :: ctx) (oL td D acc :: L) H' → f x = some y → g v (wipe σ vs) H' fun σ2 H2 => wipe σ2 vs = wipe σ vs ∧ tt σ2 H2 fun c H3 =>
      if c = true then te σ2 H3 (rElt D (NC K B (⟨fun _ _ => σ, fun _ _ => ctx, fun _ _ => L⟩ : Shp Unit Unit) td D () (acc ++ [y]))) else NC K B (⟨fun _ _ => σ, fun _ _ => ctx, fun _ _ => L⟩ : Shp Unit Unit) td D () (acc ++ [y]) H3)
    (done : ∀ D H, Wd K B ctx (oL td D ys :: L) H → Q (.ref D) H) : rLc J g tt te vs σ H Q := by
  obtain ⟨hz, hm⟩ : xs.length ≤ sizeLine ∧ mapG f xs = some ys := by
    unfold mapO at hm
    by_cases h : xs.length ≤ sizeLine
    · rw [if_pos h] at hm; exact ⟨h, hm⟩
    · rw [if_neg h] at hm; cases hm
  refine c_core (f := fun x (_ : Unit) => (f x).map fun y => (some y, ())) (F := fun xs _ => (mapG f xs).map fun ys => (ys, ())) (b1 := ()) (⟨fun _ _ => σ, fun _ _ => ctx, fun _ _ => L⟩ : Shp Unit Unit) () td (fun _ => rfl) (fun x xs b => ?_) (b0 := ()) (by rw [hm]; rfl) hz W hJ
    (fun D x v b e acc H' p ha W hp => ?_) (fun D e H W => done D H W)
  · rw [mapG]
    cases f x with
    | none => rfl
    | some y => cases mapG f xs with
      | none => rfl
      | some ys => rfl
  · cases q : f x with
    | none => rw [q] at hp; cases hp
    | some y =>
      rw [q] at hp
      cases hp
      exact step D x v acc H' y ha W q
/-- [e for x in xs if c] -/
theorem w_cmp {ctx : List Fact} {L : List Own} {f : α → Option (Option γ)} {ys : List γ} (td : Bool) (hm : cmpO f xs = some ys) (W : Wd K B ctx L H) (hJ : ∀ D, Gives K B (withD (γ := γ) (⟨fun _ _ => σ, fun _ _ => ctx, fun _ _ => L⟩ : Shp Unit Unit) td D) J t xs)
    (step : ∀ D x v acc H' y, acc.length < sizeLine → Wd K B (fc t x v :: ctx) (oL td D acc :: L) H' → f x = some y → g v (wipe σ vs) H' fun σ2 H2 => wipe σ2 vs = wipe σ vs ∧ tt σ2 H2 fun c H3 =>
      if c = true then te σ2 H3 (rElt D (NC K B (⟨fun _ _ => σ, fun _ _ => ctx, fun _ _ => L⟩ : Shp Unit Unit) td D () (acc ++ y.toList))) else NC K B (⟨fun _ _ => σ, fun _ _ => ctx, fun _ _ => L⟩ : Shp Unit Unit) td D () (acc ++ y.toList) H3)
    (done : ∀ D H, Wd K B ctx (oL td D ys :: L) H → Q (.ref D) H) : rLc J g tt te vs σ H Q := by
  obtain ⟨hz, hm⟩ : xs.length ≤ sizeLine ∧ cmpG f xs = some ys := by
    unfold cmpO at hm
    by_cases h : xs.length ≤ sizeLine
    · rw [if_pos h] at hm; exact ⟨h, hm⟩
    · rw [if_neg h] at hm; cases hm
  refine c_core (f := fun x (_ : Unit) => (f x).map fun y => (y, ())) (F := fun xs _ => (cmpG f xs).map fun ys => (ys, ())) (b1 := ()) (⟨fun _ _ => σ, fun _ _ => ctx, fun _ _ => L⟩ : Shp Unit Unit) () td (fun _ => rfl) (fun x xs b => ?_) (b0 := ()) (by rw [hm]; rfl) hz W hJ
    (fun D x v b e acc H' p ha W hp => ?_) (fun D e H W => done D H W)
  · rw [cmpG]
    cases f x with
    | none => rfl
    | some y => cases cmpG f xs with
      | none => rfl
      | some ys => cases y <;> rfl
  · cases q : f x with
    | none => rw [q] at hp; cases hp
    | some y =>
      rw [q] at hp
      cases hp
      exact step D x v acc H' y ha W q
/-- [e for x in xs], e with a state -/
theorem w_maps {f : α → β → Option (γ × β)} {r : List γ × β} (S : Shp β ε) (e0 : ε) (td : Bool) (hm : mapSO f xs b0 = some r) (W : Wd K B (S.cx b0 e0) (S.ow b0 e0) H) (hJ : ∀ D, Gives K B (withD (γ := γ) S td D) J t xs)
    (step : ∀ D x v b e acc H' p, acc.length < sizeLine → Wd K B (fc t x v :: S.cx b e) (oL td D acc :: S.ow b e) H' → f x b = some p → g v (wipe σ vs) H' fun σ2 H2 => wipe σ2 vs = wipe σ vs ∧ tt σ2 H2 fun c H3 =>
      if c = true then te σ2 H3 (rElt D (NC K B S td D p.2 (acc ++ [p.1]))) else NC K B S td D p.2 (acc ++ [p.1]) H3)
    (done : ∀ D e H, Wd K B (S.cx r.2 e) (oL td D r.1 :: S.ow r.2 e) H → Q (.ref D) H) : rLc J g tt te vs σ H Q := by
  obtain ⟨hz, hm⟩ : xs.length ≤ sizeLine ∧ mapSG f xs b0 = some r := by
    unfold mapSO at hm
    by_cases h : xs.length ≤ sizeLine
    · rw [if_pos h] at hm; exact ⟨h, hm⟩
    · rw [if_neg h] at hm; cases hm
  refine c_core (f := fun x b => (f x b).map fun y => (some y.1, y.2)) (F := mapSG f) S e0 td (fun _ => rfl) (fun x xs b => ?_) (ys := r.1) (b1 := r.2) hm hz W hJ (fun D x v b e acc H' p ha W hp => ?_) done
  · rw [mapSG]
    cases f x b with
    | none => rfl
    | some y => rfl
  · cases q : f x b with
    | none => rw [q] at hp; cases hp
    | some y =>
      rw [q] at hp
      cases hp
      exact step D x v b e acc H' y ha W q
/-- [e for x in xs if c], with a state -/
theorem w_cmps {f : α → β → Option (Option γ × β)} {r : List γ × β} (S : Shp β ε) (e0 : ε) (td : Bool) (hm : cmpSO f xs b0 = some r) (W : Wd K B (S.cx b0 e0) (S.ow b0 e0) H) (hJ : ∀ D, Gives K B (withD (γ := γ) S td D) J t xs)
    (step : ∀ D x v b e acc H' p, acc.length < sizeLine → Wd K B (fc t x v :: S.cx b e) (oL td D acc :: S.ow b e) H' → f x b = some p → g v (wipe σ vs) H' fun σ2 H2 => wipe σ2 vs = wipe σ vs ∧ tt σ2 H2 fun c H3 =>
      if c = true then te σ2 H3 (rElt D (NC K B S td D p.2 (acc ++ p.1.toList))) else NC K B S td D p.2 (acc ++ p.1.toList) H3)
    (done : ∀ D e H, Wd K B (S.cx r.2 e) (oL td D r.1 :: S.ow r.2 e) H → Q (.ref D) H) : rLc J g tt te vs σ H Q := by
  obtain ⟨hz, hm⟩ : xs.length ≤ sizeLine ∧ cmpSG f xs b0 = some r := by
    unfold cmpSO at hm
    by_cases h : xs.length ≤ sizeLine
    · rw [if_pos h] at hm; exact ⟨h, hm⟩
    · rw [if_neg h] at hm; cases hm
  exact c_core (f := f) (F := cmpSG f) S e0 td (fun _ => rfl) (fun x xs b => rfl) (ys := r.1) (b1 := r.2) hm hz W hJ step done
end
end
end PB

namespace PB
open PySem PySem.Spec PyProof.Rows L2
/-! ### the walk's single steps -/
def fuelW : Nat := 10 ^ 40
def sqO (i : Int) : Option Int := if i.natAbs < 2 ^ 64 then some (i * i) else none
theorem some_inj {α : Type} {a b : α} (h : some a = some b) : a = b := Option.some.inj h
section
variable {K : PySem.W.Frag} {B H H' : Hp} {ctx : List Fact} {L L' : List Own} {t t' : Bool} {α β γ : Type} [Rp α] [Rp β] [Rp γ] {x : α} {y : β} {xs ys : List α} {v w u : V} {vs : List V} {a c : Addr} {Q : VK} {i j k n : Int} {σ : L2.St} {R : It → Hp → Prop}
theorem w_mul (h : mulO i j = some n) (q : Q (.int n) H) : rMulA (.int i) (.int j) H Q := by
  obtain ⟨hc, rfl⟩ := guardE h
  exact i_mulI hc q
theorem w_fdiv (h : fdivO i j = some n) (q : Q (.int n) H) : rI CDivW (fun i j => .int (i / j)) (.int i) (.int j) H Q := by
  obtain ⟨hc, rfl⟩ := guardE h
  exact i_I hc q
theorem w_mod (h : modO i j = some n) (q : Q (.int n) H) : rI (fun _ j => 0 < j) (fun i j => .int (i % j)) (.int i) (.int j) H Q := by
  obtain ⟨hc, rfl⟩ := guardE h
  exact i_I hc q
theorem w_sq (h : sqO i = some n) (q : Q (.int n) H) : rI CPow (fun i j => .int (i ^ j.toNat)) (.int i) (.int 2) H Q := by
  obtain ⟨hc, rfl⟩ := guardE h
  exact i_sq hc q
theorem w_pow (h : powO i j = some n) (q : Q (.int n) H) : rI CPow (fun i j => .int (i ^ j.toNat)) (.int i) (.int j) H Q := by
  obtain ⟨hc, rfl⟩ := guardE h
  exact i_I hc q
theorem w_rg1 {xs : List Int} (h : range1 j = some xs) (k : xs = rangeF 0 j.toNat → R (Itr 0 j.toNat) H) : rRg1 [.int j] H R := by
  obtain ⟨hc, e⟩ := guardE h
  exact i_rg1 hc.1 hc.2 (k e.symm)
theorem w_rg2 {xs : List Int} (h : range2 i j = some xs) (k : xs = rangeF i (j - i).toNat → R (Itr i (j - i).toNat) H) : rRg2 [.int i, .int j] H R := by
  obtain ⟨hc, e⟩ := guardE h
  exact i_rg2 ⟨hc.1.1, hc.1.2, hc.2.1, hc.2.2⟩ (k e.symm)
theorem w_rgD {xs : List Int} (h : rangeD i j = some xs) (k : xs = rangeB i (i - j).toNat → R (Itc i (-1) (i - j).toNat) H) : rRg3 [.int i, .int j, .int (-1)] H R := by
  obtain ⟨hc, e⟩ := guardE h
  exact i_rg3n ⟨hc.1.1, hc.1.2, hc.2.1, hc.2.2⟩ (k e.symm)
theorem w_itL (W : Wd K B ctx L H) (h : Ls K ctx L t xs (.ref a)) (k : R (Itl K a) H) : rItL K (.ref a) H R := by
  obtain ⟨N, F, W⟩ := W
  obtain ⟨a', vs, e, h1, h2⟩ := h B H N F W
  cases e
  exact i_itL h1 k
theorem w_itT (W : Wd K B ctx L H) (m : Nat) (h : ctx[m]? = some (fT t xs (.ref a))) (k : R (Itt K a) H) : rItT K (.ref a) H R := by
  obtain ⟨N, F, W⟩ := W
  obtain ⟨a', vs, e, h1, h2⟩ := W.facts _ (List.mem_of_getElem? h)
  cases e
  exact i_itT ((reg_A W.nF W.fH).t _ _ h1) k
theorem w_en (W : Wd K B ctx L H) (h : Ls K ctx L t xs (.ref a)) (k : R (Ite K a) H) : rEn K [.ref a] H R := by
  obtain ⟨N, F, W⟩ := W
  obtain ⟨a', vs, e, h1, h2⟩ := h B H N F W
  cases e
  exact i_en h1 k
theorem w_zp (W : Wd K B ctx L H) (h : Ls K ctx L t xs (.ref a)) (h' : Ls K ctx L t' ys (.ref c)) (k : R (Itz K a c) H) : rZp K [.ref a, .ref c] H R := by
  obtain ⟨N, F, W⟩ := W
  obtain ⟨a', vs, e, h1, h2⟩ := h B H N F W
  cases e
  obtain ⟨c', ws, e, h3, h4⟩ := h' B H N F W
  cases e
  exact i_zp h1 h3 k
theorem Wd.eqI {i : Int} (W : Wd K B ctx L H) (h : Kn K ctx t i v) : v = .int i := by
  obtain ⟨N, F, W⟩ := W
  exact h N F W.nF W.facts
theorem Wd.eqB {i : Bool} (W : Wd K B ctx L H) (h : Kn K ctx t i v) : v = .bl i := by
  obtain ⟨N, F, W⟩ := W
  exact h N F W.nF W.facts
theorem Wd.eqS {i : PySem.Str} (W : Wd K B ctx L H) (h : Kn K ctx t i v) : v = .str i := by
  obtain ⟨N, F, W⟩ := W
  exact h N F W.nF W.facts
theorem Wd.eqU {i : Unit} (W : Wd K B ctx L H) (h : Kn K ctx t i v) : v = .non := by
  obtain ⟨N, F, W⟩ := W
  exact h N F W.nF W.facts
theorem Wd.eqL (W : Wd K B ctx L H) (h : Kn K ctx t xs v) : ∃ a, v = .ref a := by
  obtain ⟨N, F, W⟩ := W
  obtain ⟨a, vs, e, _⟩ := h N F W.nF W.facts
  exact ⟨a, e⟩
theorem Wd.eqScr {x : Scr} (W : Wd K B ctx L H) (h : Kn K ctx t x v) : ∃ a, v = .ref a := by
  obtain ⟨N, F, W⟩ := W
  obtain ⟨a, e, _⟩ := h N F W.nF W.facts
  exact ⟨a, e⟩
theorem Wd.eqP {p : α × β} (W : Wd K B ctx L H) (h : Kn K ctx t p v) : ∃ a, v = .ref a := by
  obtain ⟨N, F, W⟩ := W
  obtain ⟨a, _, _, e, _⟩ := h N F W.nF W.facts
  exact ⟨a, e⟩
theorem Wd.eq3 {p : T3 α β γ} (W : Wd K B ctx L H) (h : Kn K ctx t p v) : ∃ a, v = .ref a := by
  obtain ⟨N, F, W⟩ := W
  obtain ⟨a, _, _, _, e, _⟩ := h N F W.nF W.facts
  exact ⟨a, e⟩
theorem i_bT {b : Bool} {A C : Prop} (hb : b = true) (h : A) : if b = true then A else C := by
  rw [if_pos hb]
  exact h
theorem i_bF {b : Bool} {A C : Prop} (hb : b = false) (h : C) : if b = true then A else C := by
  rw [if_neg (by rw [hb]; exact Bool.false_ne_true)]
  exact h
theorem and_t {b c : Bool} (hb : b = true) : c = (b && c) := by rw [hb]; rfl
theorem and_f {b c : Bool} (hb : b = false) : false = (b && c) := by rw [hb]; rfl
theorem or_t {b c : Bool} (hb : b = true) : true = (b || c) := by rw [hb]; rfl
theorem or_f {b c : Bool} (hb : b = false) : c = (b || c) := by rw [hb]; rfl
theorem w_andW {b : Bool} (c : Bool) {tt : TT} {P : Bool → Hp → Prop} (W : Wd K B ctx L H) (h1 : b = true → ∀ P' : Bool → Hp → Prop, (∀ d H', d = c → Wd K B ctx L' H' → P' d H') → tt σ H P') (h2 : b = false → false = c ∧ Wd K B ctx L' H) (h3 : ∀ H', Wd K B ctx L' H' → P c H') : if b = true then tt σ H P else P false H :=
  w_and (fun d H' => d = c ∧ Wd K B ctx L' H') (fun hb P' q => h1 hb P' fun d H' e W => q d H' ⟨e, W⟩) (fun hb => h2 hb) (fun d H' ⟨e, W⟩ => by rw [e]; exact h3 H' W)
theorem w_orW {b : Bool} (c : Bool) {tt : TT} {P : Bool → Hp → Prop} (W : Wd K B ctx L H) (h1 : b = false → ∀ P' : Bool → Hp → Prop, (∀ d H', d = c → Wd K B ctx L' H' → P' d H') → tt σ H P') (h2 : b = true → true = c ∧ Wd K B ctx L' H) (h3 : ∀ H', Wd K B ctx L' H' → P c H') {X : Prop} (hX : P true H = X := by rfl) : if b = true then X else tt σ H P := by
  subst hX
  exact w_or (fun d H' => d = c ∧ Wd K B ctx L' H') (fun hb P' q => h1 hb P' fun d H' e W => q d H' ⟨e, W⟩) (fun hb => h2 hb) (fun d H' ⟨e, W⟩ => by rw [e]; exact h3 H' W)
theorem w_andVW {b : Bool} (c : Bool) {te : TE} (W : Wd K B ctx L H) (h1 : b = true → ∀ P' : VK, (∀ d H', d = c → Wd K B ctx L' H' → P' (.bl d) H') → te σ H P') (h2 : b = false → false = c ∧ Wd K B ctx L' H) (h3 : ∀ H', Wd K B ctx L' H' → Q (.bl c) H') : if b = true then te σ H Q else Q (.bl false) H :=
  w_andV (fun d H' => d = .bl c ∧ Wd K B ctx L' H') (fun hb P' q => h1 hb P' fun d H' e W => q _ H' ⟨by rw [e], W⟩) (fun hb => ⟨by rw [(h2 hb).1], (h2 hb).2⟩) (fun d H' ⟨e, W⟩ => by rw [e]; exact h3 H' W)
theorem w_orVW {b : Bool} (c : Bool) {te : TE} (W : Wd K B ctx L H) (h1 : b = false → ∀ P' : VK, (∀ d H', d = c → Wd K B ctx L' H' → P' (.bl d) H') → te σ H P') (h2 : b = true → true = c ∧ Wd K B ctx L' H) (h3 : ∀ H', Wd K B ctx L' H' → Q (.bl c) H') {X : Prop} (hX : Q (.bl true) H = X := by rfl) : if b = true then X else te σ H Q := by
  subst hX
  exact w_orV (fun d H' => d = .bl c ∧ Wd K B ctx L' H') (fun hb P' q => h1 hb P' fun d H' e W => q _ H' ⟨by rw [e], W⟩) (fun hb => ⟨by rw [(h2 hb).1], (h2 hb).2⟩) (fun d H' ⟨e, W⟩ => by rw [e]; exact h3 H' W)
theorem w_chainW {b : Bool} (c : Bool) {te : TE} {r' : R2} {y : V} (W : Wd K B ctx L H) (h1 : b = true → ∀ P' : VK, (∀ d H', d = c → Wd K B ctx L' H' → P' (.bl d) H') → te σ H fun w' H5 => r' y w' H5 P') (h2 : b = false → false = c ∧ Wd K B ctx L' H) (h3 : ∀ H', Wd K B ctx L' H' → Q (.bl c) H') : if b = true then te σ H (fun w' H5 => r' y w' H5 Q) else Q (.bl false) H :=
  w_andVW (te := fun σ H P => te σ H fun w' H5 => r' y w' H5 P) c W h1 h2 h3
/-- if-else as an expression: the value x, by its word -/
theorem w_iteW {b : Bool} (x : α) (t : Bool) {ta tb : TE} (W : Wd K B ctx L H) (h1 : b = true → ∀ P' : VK, (∀ v H', Wd K B (fc t x v :: ctx) L' H' → P' v H') → ta σ H P') (h2 : b = false → ∀ P' : VK, (∀ v H', Wd K B (fc t x v :: ctx) L' H' → P' v H') → tb σ H P') (h3 : ∀ v H', Wd K B (fc t x v :: ctx) L' H' → Q v H') : if b = true then ta σ H Q else tb σ H Q :=
  w_ite (fun v H' => Wd K B (fc t x v :: ctx) L' H') h1 h2 h3
theorem i_isBl {a b : Bool} (h : Q (.bl (decide (a = b))) H) : rIsB (.bl a) (.bl b) H Q := ⟨a, b, rfl, rfl, h⟩
theorem i_notBl {a b : Bool} (h : Q (.bl (!decide (a = b))) H) : rNotB (.bl a) (.bl b) H Q := ⟨a, b, rfl, rfl, h⟩
theorem w_fstP {p : α × β} (W : Wd K B ctx L H) (h : Kn K ctx t p v) (k : ∀ u, Wd K B (fc t p.1 u :: ctx) L H → Q u H) : rIx K v (.int 0) H Q := w_fst (x := p.1) (y := p.2) W h k
theorem w_sndP {p : α × β} (W : Wd K B ctx L H) (h : Kn K ctx t p v) (k : ∀ u, Wd K B (fc t p.2 u :: ctx) L H → Q u H) : rIx K v (.int 1) H Q := w_snd (x := p.1) (y := p.2) W h k
theorem w_unpP {p : α × β} {g : TGs} {R : L2.St → Hp → Prop} (W : Wd K B ctx L H) (h : Kn K ctx t p v) (k : ∀ u w, Wd K B (fc t p.1 u :: fc t p.2 w :: ctx) L H → g [u, w] σ H R) : rUnp K 2 g v σ H R := w_unp2 (x := p.1) (y := p.2) W h k
end
/-- a value of one kind as one of another -/
class Co (α β : Type) [Rp α] [Rp β] where
  f : α → β
  h : ∀ {S : Lk} {x : α} {v : V}, Rp.rep S x v → Rp.rep S (f x) v
section
variable {α β γ δ : Type} [Rp α] [Rp β] [Rp γ] [Rp δ]
instance : Co α (Option α) := ⟨some, fun h => h⟩
instance : Co Unit (Option α) := ⟨fun _ => none, fun h => h⟩
theorem all2_map [Co α β] {S : Lk} : ∀ {xs : List α} {vs : List V}, All2 (Rp.rep S) xs vs → All2 (Rp.rep S) (xs.map (Co.f (β := β))) vs
  | [], [], _ => trivial
  | _ :: _, _ :: _, h => ⟨Co.h h.1, all2_map h.2⟩
  | [], _ :: _, h => h.elim
  | _ :: _, [], h => h.elim
instance [Co α β] : Co (List α) (List β) := ⟨List.map Co.f, fun ⟨a, vs, e, h, r⟩ => ⟨a, vs, e, h, all2_map r⟩⟩
theorem Kn.co [Co α β] {K : PySem.W.Frag} {ctx : List Fact} {t : Bool} {x : α} {v : V} (h : Kn K ctx t x v) : Kn K ctx t (Co.f x : β) v := fun N F s q => Co.h (h N F s q)
theorem Lx.co [Co α β] {K : PySem.W.Frag} {ctx : List Fact} {L : List Own} {t : Bool} {xs : List α} {v : V} (h : Lx K ctx L t xs v) : Lx K ctx L t (xs.map (Co.f (β := β))) v := fun B H N F W => by
  obtain ⟨a, vs, e, h1, h2⟩ := h B H N F W
  exact ⟨a, vs, e, h1, all2_map h2⟩
/-- one's own list read as one of another kind -/
theorem Wd.coO [Co α β] {K : PySem.W.Frag} {B H : Hp} {ctx : List Fact} {L : List Own} {t : Bool} {a : Addr} {xs : List α} (W : Wd K B ctx L H) (j : Nat) (hj : L[j]? = some (oL t a xs)) : Wd K B ctx (L.set j (oL t a (xs.map (Co.f (β := β))))) H := by
  obtain ⟨N, F, W⟩ := W
  have ea : (L.set j (oL t a (xs.map (Co.f (β := β))))).map (·.a) = L.map (·.a) := by
    rw [List.map_set]
    refine List.ext_getElem? fun i => ?_
    rw [List.getElem?_set]
    by_cases hi : j = i
    · subst hi
      have := (List.getElem?_eq_some_iff.mp hj).1
      rw [if_pos rfl, if_pos (by rw [List.length_map]; exact this), List.getElem?_map, hj]
      rfl
    · rw [if_neg hi]
  refine ⟨N, F, W.bF, W.nF, W.sep, W.fH, W.facts, fun o ho => ?_, fun o ho => ?_, by rw [ea]; exact W.nd⟩
  · rcases setMem' W.nd hj ho with rfl | ⟨h1, h2⟩
    · obtain ⟨h, e, vs, rfl, r⟩ := W.at_ _ (List.mem_of_getElem? hj)
      exact ⟨_, e, vs, rfl, all2_map r⟩
    · exact W.at_ o h1
  · rcases setMem' W.nd hj ho with rfl | ⟨h1, h2⟩
    · exact (W.off (oL t a xs) (List.mem_of_getElem? hj) : F a = none)
    · exact W.off o h1
/-- one's own list, its items no longer said to be new -/
theorem Wd.weakO {K : PySem.W.Frag} {B H : Hp} {ctx : List Fact} {L : List Own} {a : Addr} {xs : List α} (W : Wd K B ctx (oL true a xs :: L) H) : Wd K B ctx (oL false a xs :: L) H := by
  obtain ⟨N, F, W⟩ := W
  refine ⟨N, F, W.bF, W.nF, W.sep, W.fH, W.facts, fun o ho => ?_, fun o ho => ?_, W.nd⟩
  · rcases List.mem_cons.mp ho with rfl | ho
    · obtain ⟨h, e, vs, rfl, r⟩ := W.at_ _ List.mem_cons_self
      exact ⟨_, e, vs, rfl, r.mono fun _ _ q => Rp.mono (lkNA W.nF) q⟩
    · exact W.at_ o (List.mem_cons_of_mem _ ho)
  · rcases List.mem_cons.mp ho with rfl | ho
    · exact (W.off (oL true a xs) List.mem_cons_self : F a = none)
    · exact W.off o (List.mem_cons_of_mem _ ho)
end
theorem Wd.unopt {K : PySem.W.Frag} {B H : Hp} {ctx : List Fact} {L : List Own} {t : Bool} {α : Type} [Rp α] {x : Option α} {y : α} {v : V} (W : Wd K B ctx L H) (h : Kn K ctx t x v) (e : x = some y) : Wd K B (fc t y v :: ctx) L H := by
  subst e
  exact W.know h.un

section
variable {K : PySem.W.Frag} {B H H' : Hp} {ctx : List Fact} {L L' : List Own} {t t' : Bool} {α β γ : Type} [Rp α] [Rp β] [Rp γ] {x : α} {y : β} {xs ys : List α} {v w u : V} {vs : List V} {a c : Addr} {Q : VK} {i j k n : Int} {σ : L2.St} {R : It → Hp → Prop}
theorem Wd.arr (W : Wd K B ctx L H) (h : Ar K ctx L x v) : Rp.rep (lkA K H) x v := let ⟨N, F, W⟩ := W; h B H N F W
theorem Wd.ard (W : Wd K B ctx L H) (h : ArD K ctx L a x v) : Rp.rep (lkA K (PB.del H a)) x v := let ⟨N, F, W⟩ := W; h B H N F W
theorem Wd.ioa [Flat α] (W : Wd K B ctx L H) (m : Nat) (h : L[m]? = some (oL t a xs)) : ∃ us, H a = some (.lst us) ∧ All2 (Rp.rep (lkN fun _ => none)) xs us := by
  obtain ⟨N, F, W⟩ := W
  obtain ⟨o, h1, vs, rfl, h2⟩ := W.at_ _ (List.mem_of_getElem? h)
  exact ⟨vs, h1, h2.mono fun _ _ q => Flat.h _ _ _ _ q⟩
theorem Wd.call1U [Flat β] {i : Unit} {ys ys' : List β} {t' : Bool} (W : Wd K B ctx L H) (j : Nat) (hj : L[j]? = some (oL t' a ys)) (r : Res1 K H a (i, ys') v H') : v = .non ∧ Wd K B ctx (L.set j (oL t' a ys')) H' :=
  ⟨let ⟨_, _, _, _, h, _⟩ := r; h, (W.call1 j hj r).drop 1 rfl⟩
theorem Wd.call1S [Flat β] {i : PySem.Str} {ys ys' : List β} {t' : Bool} (W : Wd K B ctx L H) (j : Nat) (hj : L[j]? = some (oL t' a ys)) (r : Res1 K H a (i, ys') v H') : v = .str i ∧ Wd K B ctx (L.set j (oL t' a ys')) H' :=
  ⟨let ⟨_, _, _, _, h, _⟩ := r; h, (W.call1 j hj r).drop 1 rfl⟩
def twoO : List α → Option (α × α)
  | [a, b] => some (a, b)
  | _ => none
theorem w_unpL2 {p : α × α} {g : TGs} {R : L2.St → Hp → Prop} (W : Wd K B ctx L H) (h : Ls K ctx L t xs v) (e : twoO xs = some p) (k : ∀ u w, Wd K B (fc t p.1 u :: fc t p.2 w :: ctx) L H → g [u, w] σ H R) : rUnpL K 2 g v σ H R := by
  match xs, e with
  | [a, b], e =>
    cases e
    exact w_unpL W h k
/-- list(enumerate(xs)) -/
theorem w_le (W : Wd K B ctx L H) (h : Ls K ctx L t xs v) (k : ∀ p H', Wd K B (fc t (enumI 0 xs) (.ref p) :: ctx) L H' → Q (.ref p) H') : rLE K v H Q := by
  obtain ⟨N, F, W⟩ := W
  obtain ⟨a, vs, rfl, h1, h2⟩ := h B H N F W
  refine ⟨a, vs, rfl, h1, fun H' p ts s hp hts hn e pr => k p H' ?_⟩
  let R : Hp := fun b => if b = p ∨ b ∈ ts then H' b else none
  have sR : Same R H' := fun b u e => by
    show H' b = some u
    by_cases hb : b = p ∨ b ∈ ts
    · rw [show R b = H' b from if_pos hb] at e; exact e
    · rw [show R b = none from if_neg hb] at e; cases e
  have hR : ∀ b u, R b = some u → H b = none := fun b u e => by
    by_cases hb : b = p ∨ b ∈ ts
    · rcases hb with rfl | hb
      · exact hp
      · exact hts b hb
    · rw [show R b = none from if_neg hb] at e; cases e
  have J := Wd.joinI (L' := L) W (fun b u _ e => s b u e) sR hR (fun o ho => let ⟨h, e, q⟩ := W.at_ o ho; ⟨h, s _ _ e, fun N' F' a b => o.mono a b q⟩) rfl
  refine ⟨_, _, J.bF, J.nF, J.sep, J.fH, fun f hf => ?_, J.at_, J.off, J.nd⟩
  rcases List.mem_cons.mp hf with rfl | hf
  · have rN : Same R (join N R) := join_r fun a u e => W.nF.free (W.fH.free (hR a u e))
    have rF : Same R (join F R) := join_r fun a u e => W.fH.free (hR a u e)
    have hRp : R p = some (.lst (ts.map V.ref)) := by rw [show R p = H' p from if_pos (.inl rfl), e]
    have key : ∀ (ts' : List Addr) (xs : List α) (vs : List V) (i : Nat), All2 (Rp.rep (reg t K N F)) xs vs → (∀ b ∈ ts', b ∈ ts) → Paired (fun (t : Addr) (q : Key × V) => H' t = some (.tup [kV q.1, q.2])) ts' (enV i vs) → All2 (Rp.rep (reg t K (join N R) (join F R))) (enumI (i : Int) xs) (ts'.map V.ref) := by
      intro ts' xs
      induction xs generalizing ts' with
      | nil =>
        intro vs i h _ pr
        cases vs with
        | nil => cases pr; exact trivial
        | cons => exact h.elim
      | cons x xs ih =>
        intro vs i h hm pr
        cases vs with
        | nil => exact h.elim
        | cons v vs =>
          cases pr with
          | @cons b _ ts2 _ hb pr =>
            refine ⟨⟨b, _, _, rfl, ?_, rfl, Rp.mono (reg_mono join_l join_l) h.1⟩, ?_⟩
            · have hRb : R b = some (.tup [.int (i : Nat), v]) := by
                rw [show R b = H' b from if_pos (.inr (hm b List.mem_cons_self)), hb]
                rfl
              cases t
              · exact SqT.of (rF _ _ hRb)
              · exact rN _ _ hRb
            · have := ih ts2 vs (i + 1) h.2 (fun c hc => hm c (List.mem_cons_of_mem _ hc)) pr
              rw [show ((i + 1 : Nat) : Int) = (i : Int) + 1 by omega] at this
              exact this
    refine ⟨p, ts.map V.ref, rfl, ?_, ?_⟩
    · cases t
      · exact rF _ _ hRp
      · exact rN _ _ hRp
    · have := key ts xs vs 0 h2 (fun _ h => h) pr
      simpa using this
  · exact J.facts f hf
theorem w_eqScr {x : Scr} {ms : List Int} (W : Wd K B ctx L H) (h : Kn K ctx false x v) (h' : Ls K ctx L t ms w) (q : Q (.bl (decide (x.l = ms))) H) : rEqA K v w H Q := by
  obtain ⟨N, F, W⟩ := W
  obtain ⟨a, rfl, h1⟩ := h N F W.nF W.facts
  obtain ⟨b, vs, rfl, h3, h4⟩ := h' B H N F W
  rw [all2_int h4] at h3
  exact i_eqLI (W.fH.seq h1) h3 q
def rangeL (i j : Int) : Option (List Int) := if ok62 i ∧ ok62 j ∧ (j - i).toNat ≤ 2 ^ 24 then some (rangeF i (j - i).toNat) else none
theorem rgV_eq (i j : Int) : rgV i j = (rangeF i (j - i).toNat).map V.int := by
  unfold rgV
  refine List.ext_getElem? fun k => ?_
  rw [List.getElem?_map, List.getElem?_map]
  by_cases hk : k < (j - i).toNat
  · rw [List.getElem?_range hk]
    have hl : k < (rangeF i (j - i).toNat).length := by rw [rangeF_len]; exact hk
    rw [List.getElem?_eq_getElem hl, (rangeF_get _ _ _ _ (List.getElem?_eq_getElem hl)).2]
    rfl
  · rw [List.getElem?_eq_none (by rw [List.length_range]; omega), List.getElem?_eq_none (by rw [rangeF_len]; omega)]
    rfl
def rLRg (i j : Int) (H : Hp) (Q : VK) : Prop := RgOk i j ∧ ∀ q, H q = none → Q (.ref q) (upd H q (.lst (rgV i j)))
theorem i_lrg1 {ta : TE} (h : ta σ H fun x H1 => ∃ n, x = .int n ∧ rLRg 0 n H1 Q) : tLstRg (tRg1 ta) σ H Q := h
theorem i_lrg2 {ta tb : TE} (h : ta σ H fun x H1 => tb σ H1 fun y H2 => ∃ i j, x = .int i ∧ y = .int j ∧ rLRg i j H2 Q) : tLstRg (tRg2 ta tb) σ H Q := h
theorem w_lrg {xs : List Int} (W : Wd K B ctx L H) (h : rangeL i j = some xs) (k : ∀ p H', Wd K B ctx (oL true p xs :: L) H' → Q (.ref p) H') : rLRg i j H Q := by
  obtain ⟨⟨h1, h2, h3⟩, rfl⟩ := guardE h
  obtain ⟨N, F, W⟩ := W
  refine ⟨⟨h1.1, h1.2, h2.1, h2.2, h3⟩, fun q hq => ?_⟩
  rw [rgV_eq]
  exact k q _ (Wd.newL W hq (all2_ofInt _))
end

/-! ### more steps -/
instance [Rp α] [Flat α] : Flat (Option α) := ⟨fun S T x v h => by
  cases x with
  | none => exact h
  | some y => exact Flat.h (β := α) S T y v h⟩
instance : Flat Unit := ⟨fun _ _ _ _ h => h⟩
instance : Flat PySem.Str := ⟨fun _ _ _ _ h => h⟩
section
variable {K : PySem.W.Frag} {B H H' : Hp} {ctx : List Fact} {L L' : List Own} {t t' : Bool} {α β γ : Type} [Rp α] [Rp β] [Rp γ] {x : α} {y : β} {xs ys : List α} {v w u : V} {vs : List V} {a p c : Addr} {Q : VK} {i j k n : Int} {σ : L2.St} {R : It → Hp → Prop}
theorem Lx.flat [Flat α] (h : Lx K ctx L t' xs v) : Lx K ctx L t xs v := fun B H N F W => by
  obtain ⟨a, vs, e, h1, h2⟩ := h B H N F W
  exact ⟨a, vs, e, h1, h2.mono fun _ _ q => Flat.h _ _ _ _ q⟩
theorem Kn.flat [Flat α] (h : Kn K ctx t' x v) : Kn K ctx t x v := fun N F s q => Flat.h _ _ _ _ (h N F s q)
/-- a tuple whose items are told by their values -/
def fR (t : Bool) (vs : List V) (v : V) : Fact := ⟨fun K N F => ∃ a, v = .ref a ∧ (reg t K N F).t a vs, fun h1 h2 ⟨a, e, h⟩ => ⟨a, e, (reg_mono h1 h2).t _ _ h⟩⟩
theorem Wd.callRaw {R : Hp} [Flat β] {ys : List β} {tup vs : List V} (W : Wd K B ctx L H) (s : Same H H') (sR : Same R H') (hR : ∀ a u, R a = some u → H a = Option.none) (hl : R a = some (.tup tup)) (hp : R p = some (.lst vs)) (hr : All2 (Rp.rep (lkN R)) ys vs) :
    Wd K B (fR true tup (.ref a) :: ctx) (oL true p ys :: L) H' := by
  obtain ⟨N, F, W⟩ := W
  have hn : H p = Option.none := hR p _ hp
  have J := Wd.joinI (L' := L) (R := PB.del R p) W (fun b u _ e => s b u e) (Same.del.trans sR) (fun a u e => hR a u (Same.del a u e)) (fun o ho => let ⟨h, e, q⟩ := W.at_ o ho; ⟨h, s _ _ e, fun N' F' a b => o.mono a b q⟩) rfl
  have rN : Same (PB.del R p) (join N (PB.del R p)) := join_r fun a u e => W.nF.free (W.fH.free (hR a u (Same.del a u e)))
  have hap : a ≠ p := fun e2 => by
    rw [e2, hp] at hl
    cases hl
  refine ⟨_, _, J.bF, J.nF, J.sep, J.fH, fun f hf => ?_, fun o ho => ?_, fun o ho => ?_, ?_⟩
  · rcases List.mem_cons.mp hf with rfl | hf
    · exact ⟨a, rfl, rN _ _ ((del_ne hap).trans hl)⟩
    · exact J.facts f hf
  · rcases List.mem_cons.mp ho with rfl | ho
    · exact ⟨_, sR _ _ hp, vs, rfl, hr.mono fun _ _ q => Flat.h _ _ _ _ q⟩
    · exact J.at_ o ho
  · rcases List.mem_cons.mp ho with rfl | ho
    · show join F (PB.del R p) p = none
      unfold join
      rw [W.fH.free hn]
      exact del_same
    · exact J.off o ho
  · rw [List.map_cons]
    refine List.nodup_cons.mpr ⟨fun hm => ?_, J.nd⟩
    obtain ⟨q, hq, eq⟩ := List.mem_map.mp hm
    obtain ⟨u, e2, _⟩ := W.at_ q hq
    rw [eq] at e2
    rw [show (oL true p ys).a = p from rfl, hn] at e2
    cases e2
/-- a pair told by a def, its list one's own -/
theorem Wd.callP [Flat α] [Flat β] {r : α × List β} (W : Wd K B ctx L H) (r0 : Res K H r v H') : ∃ p a u, v = .ref a ∧ Wd K B (fc true r.1 u :: fR true [u, .ref p] (.ref a) :: ctx) (oL true p r.2 :: L) H' := by
  obtain ⟨R, s, sR, hR, a, u, w, e, hl, hr1, p, vs, ew, hp, hr⟩ := r0
  subst ew
  refine ⟨p, a, u, e, (Wd.callRaw W s sR hR hl hp hr).know fun N F _ _ => Flat.h _ _ _ _ hr1⟩
/-- a triple so -/
theorem Wd.callP3 [Flat α] [Flat β] [Flat γ] {r : T3 α γ (List β)} (W : Wd K B ctx L H) (r0 : Res K H r v H') : ∃ p a u w, v = .ref a ∧ Wd K B (fc true r.a u :: fc true r.b w :: fR true [u, w, .ref p] (.ref a) :: ctx) (oL true p r.c :: L) H' := by
  obtain ⟨R, s, sR, hR, a, u, w, z, e, hl, hr1, hr2, p, vs, ew, hp, hr⟩ := r0
  subst ew
  refine ⟨p, a, u, w, e, ((Wd.callRaw W s sR hR hl hp hr).know fun N F _ _ => Flat.h _ _ _ _ hr2).know fun N F _ _ => Flat.h _ _ _ _ hr1⟩
theorem Ar.pair (j : Nat) (hj : L[j]? = some (oL t' p ys)) (m : Nat) (hm : ctx[m]? = some (fR t [v, .ref p] (.ref a))) (h : Kn K ctx t y v) : Ar K ctx L (y, ys) (.ref a) := fun B H N F W => by
  obtain ⟨a', e, h1⟩ := W.facts _ (List.mem_of_getElem? hm)
  cases e
  obtain ⟨o, h2, vs, rfl, h3⟩ := W.at_ _ (List.mem_of_getElem? hj)
  exact ⟨a, _, _, rfl, (reg_A W.nF W.fH).t _ _ h1, Rp.mono (reg_A W.nF W.fH) (h N F W.nF W.facts), p, vs, rfl, h2, h3.mono fun _ _ q => Rp.mono (reg_A W.nF W.fH) q⟩
theorem Ar.triple {x1 : β} {x2 : γ} (j : Nat) (hj : L[j]? = some (oL t' p ys)) (m : Nat) (hm : ctx[m]? = some (fR t [v, w, .ref p] (.ref a))) (h : Kn K ctx t x1 v) (h' : Kn K ctx t x2 w) : Ar K ctx L (T3.mk x1 x2 ys) (.ref a) := fun B H N F W => by
  obtain ⟨a', e, h1⟩ := W.facts _ (List.mem_of_getElem? hm)
  cases e
  obtain ⟨o, h2, vs, rfl, h3⟩ := W.at_ _ (List.mem_of_getElem? hj)
  exact ⟨a, _, _, _, rfl, (reg_A W.nF W.fH).t _ _ h1, Rp.mono (reg_A W.nF W.fH) (h N F W.nF W.facts), Rp.mono (reg_A W.nF W.fH) (h' N F W.nF W.facts), p, vs, rfl, h2, h3.mono fun _ _ q => Rp.mono (reg_A W.nF W.fH) q⟩
theorem w_ixR (W : Wd K B ctx L H) (m : Nat) (hm : ctx[m]? = some (fR t vs (.ref a))) (e : atI vs i = some u) (k : Q u H) : rIx K (.ref a) (.int i) H Q := by
  obtain ⟨N, F, W⟩ := W
  obtain ⟨a', ea, h1⟩ := W.facts _ (List.mem_of_getElem? hm)
  cases ea
  exact i_ixT ((reg_A W.nF W.fH).t _ _ h1) e k
theorem w_unpR {n : Nat} {g : TGs} {R : L2.St → Hp → Prop} (W : Wd K B ctx L H) (m : Nat) (hm : ctx[m]? = some (fR t vs (.ref a))) (hl : vs.length = n) (k : g vs σ H R) : rUnp K n g (.ref a) σ H R := by
  obtain ⟨N, F, W⟩ := W
  obtain ⟨a', ea, h1⟩ := W.facts _ (List.mem_of_getElem? hm)
  cases ea
  exact ⟨a, vs, rfl, (reg_A W.nF W.fH).t _ _ h1, hl, k⟩
/-- pop(i) -/
def popO (xs : List α) (i : Int) : Option (α × List α) := if -(2 ^ 63) ≤ i ∧ i < 2 ^ 63 then (seqIndex? i xs.length).bind fun k => (xs[k]?).map fun x => (x, xs.eraseIdx k) else none
theorem All2.erase {R : α → V → Prop} : ∀ {xs : List α} {vs : List V} (n : Nat), All2 R xs vs → All2 R (xs.eraseIdx n) (vs.eraseIdx n)
  | [], [], _, _ => trivial
  | _ :: _, _ :: _, 0, h => h.2
  | _ :: _, _ :: _, n + 1, h => ⟨h.1, All2.erase n h.2⟩
  | [], _ :: _, _, h => h.elim
  | _ :: _, [], _, h => h.elim
theorem w_pop {r : α × List α} (W : Wd K B ctx L H) (j : Nat) (hj : L[j]? = some (oL t a xs)) (e : popO xs i = some r) (k : ∀ u H', Wd K B (fc t r.1 u :: ctx) (L.set j (oL t a r.2)) H' → Q u H') : rPopAt (.ref a) [.int i] H Q := by
  obtain ⟨N, F, W⟩ := W
  obtain ⟨o, h1, vs, rfl, h2⟩ := W.at_ _ (List.mem_of_getElem? hj)
  unfold popO at e
  by_cases hb : -(2 ^ 63) ≤ i ∧ i < 2 ^ 63
  · rw [if_pos hb] at e
    obtain ⟨m, e1, e⟩ := bndE e
    cases q : xs[m]? with
    | none => rw [q] at e; cases e
    | some x =>
      rw [q] at e
      cases e
      obtain ⟨u, hu, hr⟩ := h2.get q
      refine ⟨a, vs, i, m, u, rfl, rfl, h1, hb.1, hb.2, by rw [h2.len]; exact e1, hu, k u _ ?_⟩
      have W2 : Wd K B ctx (L.set j (oL t a (xs.eraseIdx m))) (upd H a (.lst (vs.eraseIdx m))) := Wd.put (o' := oL t a (xs.eraseIdx m)) W j hj rfl _ ⟨_, rfl, All2.erase m h2⟩
      obtain ⟨N2, F2, W2⟩ : ∃ N2 F2, WdI K B (fc t x u :: ctx) (L.set j (oL t a (xs.eraseIdx m))) (upd H a (.lst (vs.eraseIdx m))) N2 F2 := by
        have hoff := W.off _ (List.mem_of_getElem? hj)
        have P := W2
        refine Wd.put (o' := oL t a (xs.eraseIdx m)) (ctx := fc t x u :: ctx) ?_ j hj rfl _ ⟨_, rfl, All2.erase m h2⟩
        exact ⟨W.bF, W.nF, W.sep, W.fH, fun f hf => by
          rcases List.mem_cons.mp hf with rfl | hf
          · exact hr
          · exact W.facts f hf, W.at_, W.off, W.nd⟩
      exact ⟨N2, F2, W2⟩
  · rw [if_neg hb] at e
    cases e
/-- index of an int in a list of ints -/
def indexO (xs : List Int) (x : Int) : Option Int := (xs.findIdx? (· == x)).map fun n => (n : Int)
theorem w_index {xs : List Int} {x : Int} (W : Wd K B ctx L H) (h : Ls K ctx L t xs v) (e : indexO xs x = some n) (k : Q (.int n) H) : rIndex K v [.int x] H Q := by
  obtain ⟨N, F, W⟩ := W
  obtain ⟨a, vs, rfl, h1, h2⟩ := h B H N F W
  rw [all2_int h2] at h1
  unfold indexO at e
  cases q : xs.findIdx? (· == x) with
  | none => rw [q] at e; cases e
  | some m =>
    rw [q] at e
    cases e
    obtain ⟨hm, e1, e2⟩ := List.findIdx?_eq_some_iff_getElem.mp q
    refine ⟨a, _, .int x, m, .int xs[m], rfl, rfl, h1, rfl, ?_, ?_, ?_, ?_, k⟩
    · rw [List.all_eq_true]
      intro z hz
      obtain ⟨y, _, rfl⟩ := List.mem_map.mp hz
      rfl
    · rw [List.getElem?_map, List.getElem?_eq_getElem hm]
      rfl
    · have : xs[m] = x := by simpa using e1
      rw [this]
      simp [eqV]
    · intro l z hl hz
      rw [List.getElem?_map, List.getElem?_eq_getElem (by omega)] at hz
      cases hz
      have h3 := e2 l hl
      show (xs[l] == x) = false
      simpa using h3
/-- x in xs, of ints -/
theorem w_inG {xs : List Int} {x : Int} (neg : Bool) (W : Wd K B ctx L H) (h : Ls K ctx L t xs v) (k : Q (.bl (if neg then !decide (x ∈ xs) else decide (x ∈ xs))) H) : rIn K neg (.int x) v H Q := by
  obtain ⟨N, F, W⟩ := W
  obtain ⟨a, vs, rfl, h1, h2⟩ := h B H N F W
  rw [all2_int h2] at h1
  refine ⟨a, _, rfl, .inl h1, rfl, ?_, ?_⟩
  · rw [List.all_eq_true]
    intro z hz
    obtain ⟨y, _, rfl⟩ := List.mem_map.mp hz
    rfl
  · have e : inV (.int x) (xs.map V.int) = decide (x ∈ xs) := by
      unfold inV
      rw [List.any_map]
      rw [Bool.eq_iff_iff]
      simp only [List.any_eq_true, Function.comp, decide_eq_true_eq]
      constructor
      · rintro ⟨y, hy, e⟩
        have : (y == x) = true := e
        have : y = x := by simpa using this
        rwa [← this]
      · intro hx
        exact ⟨x, hx, by show (x == x) = true; simp⟩
    rw [e]
    exact k
theorem w_in {xs : List Int} {x : Int} (W : Wd K B ctx L H) (h : Ls K ctx L t xs v) (k : Q (.bl (decide (x ∈ xs))) H) : rIn K false (.int x) v H Q := w_inG false W h k
theorem w_notIn {xs : List Int} {x : Int} (W : Wd K B ctx L H) (h : Ls K ctx L t xs v) (k : Q (.bl (!decide (x ∈ xs))) H) : rIn K true (.int x) v H Q := w_inG true W h k
/-- if-else as an expression: kinds that stand for themselves -/
theorem w_iteI {b : Bool} (x : Int) {ta tb : TE} (W : Wd K B ctx L H) (h1 : b = true → ∀ P' : VK, (∀ d H', d = x → Wd K B ctx L' H' → P' (.int d) H') → ta σ H P') (h2 : b = false → ∀ P' : VK, (∀ d H', d = x → Wd K B ctx L' H' → P' (.int d) H') → tb σ H P') (h3 : ∀ H', Wd K B ctx L' H' → Q (.int x) H') : if b = true then ta σ H Q else tb σ H Q :=
  w_ite (fun d H' => d = .int x ∧ Wd K B ctx L' H') (fun hb P' q => h1 hb P' fun d H' e W => q _ H' ⟨by rw [e], W⟩) (fun hb P' q => h2 hb P' fun d H' e W => q _ H' ⟨by rw [e], W⟩) (fun d H' ⟨e, W⟩ => by rw [e]; exact h3 H' W)
/-- a rule's reading of an index that is a truth -/
def rIxTr (K : PySem.W.Frag) : R2 := fun x y H Q => ∃ p xs b v, x = .ref p ∧ y = .bl b ∧ SqL K H p xs ∧ atI xs (if b then 1 else 0) = some v ∧ Q v H
end
end PB

namespace PB
open PySem PySem.Spec PyProof.Rows L2
open PySem.W (alike alikeAll dataLt AlikeAll minD maxD Datum DatumOrd minOf maxOf lt_data gt_data le_data ge_data min_list_data max_list_data alike_unique readsAll_atA minD_map maxD_map alikeAll_datum depthAll_map)
/-! ### order of data: lists of ints, pairs -/
section
variable {X : Cx}
def rLtD (K : PySem.W.Frag) (g : PyData → PyData → Bool) : R2 := fun x y H Q => ∃ d e, Dp K H x d ∧ Dp K H y e ∧ alike d e = true ∧ d ≠ .none ∧ d.depth ≤ 60 ∧ Q (.bl (g d e)) H
def rLtA (K : PySem.W.Frag) : R2 := fun x y H Q => rI0 (fun i j => .bl (decide (i < j))) x y H Q ∨ rLtD K (fun d e => dataLt d e) x y H Q
def rLeA (K : PySem.W.Frag) : R2 := fun x y H Q => rI0 (fun i j => .bl (decide (i ≤ j))) x y H Q ∨ rLtD K (fun d e => !dataLt e d) x y H Q
def rGtA (K : PySem.W.Frag) : R2 := fun x y H Q => rI0 (fun i j => .bl (decide (j < i))) x y H Q ∨ rLtD K (fun d e => dataLt e d) x y H Q
def rGeA (K : PySem.W.Frag) : R2 := fun x y H Q => rI0 (fun i j => .bl (decide (j ≤ i))) x y H Q ∨ rLtD K (fun d e => !dataLt d e) x y H Q
theorem op_ltA (hu : X.A.units + 64 < cLine) : OpR X (compareOp .Lt) (rLtA X.K) := fun pins s σ H x y v u Q I rx ry h => by
  rcases h with h | h
  · exact op_lt pins s σ H x y v u Q I rx ry h
  · obtain ⟨d, e, hd, he, ha, hn, hp, q⟩ := h
    obtain ⟨as, r1⟩ := Dp.reads I d x v hd rx
    obtain ⟨bs, r2⟩ := Dp.reads I e y u he ry
    exact lt_data r1 r2 ha hn (by omega) ⟨.bl _, H, I, rfl, q⟩
theorem op_leA (hu : X.A.units + 64 < cLine) : OpR X (compareOp .LtE) (rLeA X.K) := fun pins s σ H x y v u Q I rx ry h => by
  rcases h with h | h
  · exact op_le pins s σ H x y v u Q I rx ry h
  · obtain ⟨d, e, hd, he, ha, hn, hp, q⟩ := h
    obtain ⟨as, r1⟩ := Dp.reads I d x v hd rx
    obtain ⟨bs, r2⟩ := Dp.reads I e y u he ry
    exact le_data r1 r2 ha hn (by omega) ⟨.bl _, H, I, rfl, q⟩
theorem op_gtA (hu : X.A.units + 64 < cLine) : OpR X (compareOp .Gt) (rGtA X.K) := fun pins s σ H x y v u Q I rx ry h => by
  rcases h with h | h
  · exact op_gt pins s σ H x y v u Q I rx ry h
  · obtain ⟨d, e, hd, he, ha, hn, hp, q⟩ := h
    obtain ⟨as, r1⟩ := Dp.reads I d x v hd rx
    obtain ⟨bs, r2⟩ := Dp.reads I e y u he ry
    exact gt_data r1 r2 ha hn (by omega) ⟨.bl _, H, I, rfl, q⟩
theorem op_geA (hu : X.A.units + 64 < cLine) : OpR X (compareOp .GtE) (rGeA X.K) := fun pins s σ H x y v u Q I rx ry h => by
  rcases h with h | h
  · exact op_ge pins s σ H x y v u Q I rx ry h
  · obtain ⟨d, e, hd, he, ha, hn, hp, q⟩ := h
    obtain ⟨as, r1⟩ := Dp.reads I d x v hd rx
    obtain ⟨bs, r2⟩ := Dp.reads I e y u he ry
    exact ge_data r1 r2 ha hn (by omega) ⟨.bl _, H, I, rfl, q⟩
theorem vals_back : ∀ {xs : List V} {us : List Value} {i : Nat} {u : Value}, Vals xs us → us[i]? = some u → ∃ x, xs[i]? = some x ∧ RelV x u
  | _, _, i, u, .nil, e => by simp at e
  | _, _, 0, u, .cons r t, e => by
    simp at e
    subst e
    exact ⟨_, rfl, r⟩
  | _, _, i + 1, u, .cons r t, e => by
    obtain ⟨x, h1, h2⟩ := vals_back (i := i) t (by simpa using e)
    exact ⟨x, by simpa using h1, h2⟩
theorem minD_mem : ∀ (ds : List PyData) (d : PyData), minD d ds ∈ d :: ds
  | [], d => List.mem_cons_self
  | e :: ds, d => by
    have h : minD d (e :: ds) = minD (if dataLt e d = true then e else d) ds := rfl
    rw [h]
    have ih := minD_mem ds (if dataLt e d = true then e else d)
    rcases List.mem_cons.mp ih with h | h
    · rw [h]
      split
      · exact List.mem_cons_of_mem _ List.mem_cons_self
      · exact List.mem_cons_self
    · exact List.mem_cons_of_mem _ (List.mem_cons_of_mem _ h)
theorem maxD_mem : ∀ (ds : List PyData) (d : PyData), maxD d ds ∈ d :: ds
  | [], d => List.mem_cons_self
  | e :: ds, d => by
    have h : maxD d (e :: ds) = maxD (if dataLt d e = true then e else d) ds := rfl
    rw [h]
    have ih := maxD_mem ds (if dataLt d e = true then e else d)
    rcases List.mem_cons.mp ih with h | h
    · rw [h]
      split
      · exact List.mem_cons_of_mem _ List.mem_cons_self
      · exact List.mem_cons_self
    · exact List.mem_cons_of_mem _ (List.mem_cons_of_mem _ h)
/-- min(xs), max(xs) of a list of data -/
def rBestD (K : PySem.W.Frag) (g : PyData → List PyData → PyData) : List V → Hp → VK → Prop := fun vs H Q => ∃ (a : Addr) (xs : List V) (d : PyData) (ds : List PyData), vs = [V.ref a] ∧ SqL K H a xs ∧ DpAll K H xs (d :: ds) ∧ AlikeAll (d :: ds) ∧ PyData.depthAll (d :: ds) ≤ 60 ∧
  ∀ (i : Nat) (x : V), xs[i]? = some x → (d :: ds)[i]? = some (g d ds) → Q x H
def rMinA (K : PySem.W.Frag) : List V → Hp → VK → Prop := fun vs H Q => rMin K vs H Q ∨ rBestD K minD vs H Q
def rMaxA (K : PySem.W.Frag) : List V → Hp → VK → Prop := fun vs H Q => rMax K vs H Q ∨ rBestD K maxD vs H Q
theorem getD_get {ds : List PyData} {i : Nat} (h : i < ds.length) : ds[i]? = some (ds.getD i .none) := by
  rw [List.getElem?_eq_getElem h, List.getD_eq_getElem?_getD, List.getElem?_eq_getElem h]
  rfl
theorem cr_minA (hc : X.calm = true) (hu : X.A.units + 64 < cLine) : CallR X (.builtin "min") (rMinA X.K) := by
  intro pins s σ H vs us Q I r h
  rcases h with h | h
  · exact cr_min hc pins s σ H vs us Q I r h
  obtain ⟨a, xs, d, ds, rfl, hs, hd, ha, hp, q⟩ := h
  obtain ⟨its, rv, hl, _⟩ := I.list hs
  rw [Vals.ref1 r]
  obtain ⟨as, hr⟩ := Dp.readsAll I (d :: ds) xs its hd rv
  refine min_list_data (I.ok.hd hc) hl.isList hr ha (by omega) fun i v h' tk bs hv hm hk => ?_
  obtain ⟨x, hx, hxv⟩ := vals_back (i := i) (u := v) rv (by simpa using hv)
  obtain ⟨bs', hr', hlt, hmem, _⟩ := readsAll_atA hr i v hv
  have e := alike_unique _ _ v bs' bs (ha.1 _ hmem _ (minD_mem ds d)) (Reads.keeps hk hr') hm
  exact ⟨x, H, I.kept hk, hxv, q i x hx (by rw [getD_get hlt, e])⟩
theorem cr_maxA (hc : X.calm = true) (hu : X.A.units + 64 < cLine) : CallR X (.builtin "max") (rMaxA X.K) := by
  intro pins s σ H vs us Q I r h
  rcases h with h | h
  · exact cr_max hc pins s σ H vs us Q I r h
  obtain ⟨a, xs, d, ds, rfl, hs, hd, ha, hp, q⟩ := h
  obtain ⟨its, rv, hl, _⟩ := I.list hs
  rw [Vals.ref1 r]
  obtain ⟨as, hr⟩ := Dp.readsAll I (d :: ds) xs its hd rv
  refine max_list_data (I.ok.hd hc) hl.isList hr ha (by omega) fun i v h' tk bs hv hm hk => ?_
  obtain ⟨x, hx, hxv⟩ := vals_back (i := i) (u := v) rv (by simpa using hv)
  obtain ⟨bs', hr', hlt, hmem, _⟩ := readsAll_atA hr i v hv
  have e := alike_unique _ _ v bs' bs (ha.1 _ hmem _ (maxD_mem ds d)) (Reads.keeps hk hr') hm
  exact ⟨x, H, I.kept hk, hxv, q i x hx (by rw [getD_get hlt, e])⟩
end
section
variable {K : PySem.W.Frag} {H : Hp} {Q : VK} {i j : Int}
theorem i_ltA (h : Q (.bl (decide (i < j))) H) : rLtA K (.int i) (.int j) H Q := .inl (i_I0 h)
theorem i_leA (h : Q (.bl (decide (i ≤ j))) H) : rLeA K (.int i) (.int j) H Q := .inl (i_I0 h)
theorem i_gtA (h : Q (.bl (decide (i > j))) H) : rGtA K (.int i) (.int j) H Q := .inl (i_I0 h)
theorem i_geA (h : Q (.bl (decide (i ≥ j))) H) : rGeA K (.int i) (.int j) H Q := .inl (i_I0 h)
end
section
variable {H : Hp} {σ : L2.St} {ta : TA} {nx : L2.St → Hp → Prop} {rt : VK} {bk ct : L2.St → Hp → Prop}
theorem i_par2 {i j : Nat} (h : ta σ H fun vs H1 => ∃ v w, vs = [v, w] ∧ nx ((σ.set i (some v)).set j (some w)) H1) : tPar i j ta ⟨nx, rt, bk, ct⟩ σ H := h
theorem i_par3 {i j l : Nat} (h : ta σ H fun vs H1 => ∃ u v w, vs = [u, v, w] ∧ nx (((σ.set i (some u)).set j (some v)).set l (some w)) H1) : tPar3 i j l ta ⟨nx, rt, bk, ct⟩ σ H := h
end
theorem pe_revK {X : Cx} {K : PySem.W.Frag} {e : Expr} {te : TE} {k : Nat} {p1 p2 p3 pos : Pos} (he : PE X e te) (hK : X.K = K := by rfl) : PE X (.Subscript e (.Slice none none (some (.UnaryOp .USub (.Constant (.int 1) k p1) p2)) p3) pos) (tRevL K te) := by
  subst hK
  exact pe_revL he
/-! ### with types -/
class RpQ (α : Type) [Rp α] [RpD α] [DecidableEq α] [DatumOrd α] : Prop where
  dc : ∀ x : α, RpD.d x = Datum.toD x
instance : RpQ Int := ⟨fun _ => rfl⟩
section
variable {α β : Type} [Rp α] [RpD α] [DecidableEq α] [DatumOrd α] [RpQ α] [Rp β] [RpD β] [DecidableEq β] [DatumOrd β] [RpQ β]
theorem dc_all (xs : List α) : xs.map RpD.d = xs.map Datum.toD := List.map_congr_left fun x _ => RpQ.dc x
instance : RpQ (List α) := ⟨fun xs => by show PyData.list (xs.map RpD.d) = .list (xs.map Datum.toD); rw [dc_all]⟩
instance : RpQ (α × β) := ⟨fun x => by show PyData.tuple [RpD.d x.1, RpD.d x.2] = .tuple [Datum.toD x.1, Datum.toD x.2]; rw [RpQ.dc, RpQ.dc]⟩
def ltO (x y : α) : Option Bool := if Datum.depth α ≤ 60 then some (DatumOrd.lt x y) else none
def minQ : List α → Option α
  | [] => none
  | x :: xs => if Datum.depth α ≤ 59 then some (minOf x xs) else none
def maxQ : List α → Option α
  | [] => none
  | x :: xs => if Datum.depth α ≤ 59 then some (maxOf x xs) else none
theorem toD_inj {x y : α} (h : (Datum.toD x : PyData) = Datum.toD y) : x = y := by
  have e : decide (x = y) = decide (y = y) := by rw [← Datum.eqv x y, ← Datum.eqv y y, h]
  rw [decide_eq_true (rfl : y = y)] at e
  exact of_decide_eq_true e
variable {K : PySem.W.Frag} {B H : Hp} {ctx : List Fact} {L : List Own} {t : Bool} {x y : α} {xs : List α} {v w : V} {Q : VK} {b : Bool}
theorem w_cmpQ {g : PyData → PyData → Bool} (W : Wd K B ctx L H) (h : Ar K ctx L x v) (h' : Ar K ctx L y w) (hd : Datum.depth α ≤ 60) (k : Q (.bl (g (Datum.toD x) (Datum.toD y))) H) : rLtD K g v w H Q := by
  obtain ⟨N, F, W⟩ := W
  have h1 := RpD.dp (h B H N F W)
  have h2 := RpD.dp (h' B H N F W)
  rw [RpQ.dc] at h1 h2
  exact ⟨_, _, h1, h2, DatumOrd.alike x y, DatumOrd.notNone x, Nat.le_trans (Datum.depth_le x) hd, k⟩
theorem w_ltQ (W : Wd K B ctx L H) (h : Ar K ctx L x v) (h' : Ar K ctx L y w) (e : ltO x y = some b) (k : Q (.bl b) H) : rLtA K v w H Q := by
  obtain ⟨hd, rfl⟩ := guardE e
  exact .inr (w_cmpQ W h h' hd (by rw [DatumOrd.lt_eq]; exact k))
theorem w_gtQ (W : Wd K B ctx L H) (h : Ar K ctx L x v) (h' : Ar K ctx L y w) (e : ltO y x = some b) (k : Q (.bl b) H) : rGtA K v w H Q := by
  obtain ⟨hd, rfl⟩ := guardE e
  exact .inr (w_cmpQ W h h' hd (by rw [DatumOrd.lt_eq]; exact k))
theorem w_leQ (W : Wd K B ctx L H) (h : Ar K ctx L x v) (h' : Ar K ctx L y w) (e : ltO y x = some b) (k : Q (.bl (!b)) H) : rLeA K v w H Q := by
  obtain ⟨hd, rfl⟩ := guardE e
  exact .inr (w_cmpQ W h h' hd (by rw [DatumOrd.lt_eq]; exact k))
theorem w_geQ (W : Wd K B ctx L H) (h : Ar K ctx L x v) (h' : Ar K ctx L y w) (e : ltO x y = some b) (k : Q (.bl (!b)) H) : rGeA K v w H Q := by
  obtain ⟨hd, rfl⟩ := guardE e
  exact .inr (w_cmpQ W h h' hd (by rw [DatumOrd.lt_eq]; exact k))
theorem all2_back : ∀ {xs : List α} {vs : List V} {R : α → V → Prop} {i : Nat} {u : V}, All2 R xs vs → vs[i]? = some u → ∃ x, xs[i]? = some x ∧ R x u
  | _ :: _, _ :: _, R, 0, u, h, e => by
    simp at e
    subst e
    exact ⟨_, rfl, h.1⟩
  | _ :: _, _ :: _, R, i + 1, u, h, e => by
    obtain ⟨x, h1, h2⟩ := all2_back (i := i) h.2 (by simpa using e)
    exact ⟨x, by simpa using h1, h2⟩
  | [], [], R, i, u, h, e => by simp at e
  | [], _ :: _, R, i, u, h, e => h.elim
  | _ :: _, [], R, i, u, h, e => h.elim
theorem w_bestQ {g : PyData → List PyData → PyData} {m : α} {x : α} (W : Wd K B ctx L H) (h : Ls K ctx L t (x :: xs) v) (hd : Datum.depth α ≤ 59) (hg : g (Datum.toD x) (xs.map Datum.toD) = Datum.toD m) (k : ∀ u, Wd K B (fc t m u :: ctx) L H → Q u H) : rBestD K g [v] H Q := by
  obtain ⟨N, F, W⟩ := W
  obtain ⟨a, vs, rfl, h1, h2⟩ := h B H N F W
  have hdp := all2_dp (xs := x :: xs) (All2.mono (fun _ _ r => Rp.mono (reg_A W.nF W.fH) r) h2)
  rw [dc_all] at hdp
  refine ⟨a, vs, _, _, rfl, h1, hdp, alikeAll_datum (x :: xs), Nat.le_trans (depthAll_map (x :: xs)) (by omega), fun i u hu he => ?_⟩
  obtain ⟨z, hz, r⟩ := all2_back h2 hu
  rw [hg, ← List.map_cons, List.getElem?_map, hz] at he
  have e := toD_inj (Option.some.inj he)
  subst e
  refine k u ⟨N, F, W.bF, W.nF, W.sep, W.fH, fun f hf => ?_, W.at_, W.off, W.nd⟩
  rcases List.mem_cons.mp hf with rfl | hf
  · exact r
  · exact W.facts f hf
theorem w_minQ {m : α} (W : Wd K B ctx L H) (h : Ls K ctx L t xs v) (e : minQ xs = some m) (k : ∀ u, Wd K B (fc t m u :: ctx) L H → Q u H) : rMinA K [v] H Q := by
  cases xs with
  | nil => cases e
  | cons x xs =>
    obtain ⟨hd, rfl⟩ := guardE e
    exact .inr (w_bestQ W h hd (minD_map x xs) k)
theorem w_maxQ {m : α} (W : Wd K B ctx L H) (h : Ls K ctx L t xs v) (e : maxQ xs = some m) (k : ∀ u, Wd K B (fc t m u :: ctx) L H → Q u H) : rMaxA K [v] H Q := by
  cases xs with
  | nil => cases e
  | cons x xs =>
    obtain ⟨hd, rfl⟩ := guardE e
    exact .inr (w_bestQ W h hd (maxD_map x xs) k)
end
end PB

namespace PB
open PySem PySem.Spec PyProof.Rows L2
section
variable {K : PySem.W.Frag} {B H H' : Hp} {ctx : List Fact} {L L' : List Own} {t t' : Bool} {α β γ : Type} [Rp α] [Rp β] [Rp γ] {x : α} {y : β} {xs ys : List α} {v w u : V} {vs : List V} {a p q c : Addr} {Q : VK} {i j k n : Int} {σ : L2.St} {f : Fact}
theorem w_lenR (W : Wd K B ctx L H) (m : Nat) (hm : ctx[m]? = some (fR t vs (.ref a))) (hl : vs.length = 2) (k : Q (.int 2) H) : rLen K [.ref a] H Q := by
  obtain ⟨N, F, W⟩ := W
  obtain ⟨a', ea, h1⟩ := W.facts _ (List.mem_of_getElem? hm)
  cases ea
  match vs, hl with
  | [v, w], _ => exact i_lenT ((reg_A W.nF W.fH).t _ _ h1) k
/-! ### a list of one's own lists -/
def fRL (t : Bool) (vs : List V) (v : V) : Fact := ⟨fun K N F => ∃ a, v = .ref a ∧ (reg t K N F).l a vs, fun h1 h2 ⟨a, e, h⟩ => ⟨a, e, (reg_mono h1 h2).l _ _ h⟩⟩
theorem Wd.newF (W : WdI K B ctx L H N F) (hp : H p = Option.none) (t : Bool) (h : ∀ N' F', Same N N' → Same F F' → (reg t K N' F').l p vs → f.P K N' F') : Wd K B (f :: ctx) L (upd H p (.lst vs)) := by
  have hF : F p = Option.none := W.fH.free hp
  have hN : N p = Option.none := W.nF.free hF
  have hB : B p = Option.none := W.bF.free hF
  have keep : ∀ {G : Hp}, G p = Option.none → Same G (upd G p (.lst vs)) := fun hG b u e => by
    rw [upd_ne (ne_of_none e hG)]
    exact e
  have up : ∀ {G G' : Hp}, Same G G' → G' p = Option.none → Same (upd G p (.lst vs)) (upd G' p (.lst vs)) := fun s hG b u e => by
    by_cases h : b = p
    · rw [h, upd_same] at e ⊢
      exact e
    · rw [upd_ne h] at e ⊢
      exact s b u e
  refine ⟨upd N p (.lst vs), upd F p (.lst vs), W.bF.trans (keep hF), up W.nF hF, fun b u e => ?_, up W.fH hp, fun f hf => ?_, fun o ho => ?_, fun o ho => ?_, W.nd⟩
  · by_cases h : b = p
    · rw [h]
      exact hB
    · rw [upd_ne h] at e
      exact W.sep b u e
  · rcases List.mem_cons.mp hf with rfl | hf
    · refine h _ _ (keep hN) (keep hF) ?_
      cases t
      · exact upd_same
      · exact upd_same
    · exact f.mono (keep hN) (keep hF) (W.facts f hf)
  · obtain ⟨u, e, r⟩ := W.at_ o ho
    exact ⟨u, by rw [upd_ne (ne_of_none e hp)]; exact e, o.mono (keep hN) (keep hF) r⟩
  · obtain ⟨u, e, r⟩ := W.at_ o ho
    rw [upd_ne (ne_of_none e hp)]
    exact W.off o ho
theorem w_lstR (W : Wd K B ctx L H) (hz : vs.length ≤ sizeLine) (k : ∀ p H', Wd K B (fRL true vs (.ref p) :: ctx) L H' → Q (.ref p) H') : rLst vs H Q := by
  obtain ⟨N, F, W⟩ := W
  exact ⟨hz, fun p hp => k p _ (Wd.newF W hp true fun N' F' _ _ h => ⟨p, rfl, h⟩)⟩
theorem w_ixRL (W : Wd K B ctx L H) (m : Nat) (hm : ctx[m]? = some (fRL t vs (.ref a))) (e : atI vs i = some u) (k : Q u H) : rIx K (.ref a) (.int i) H Q := by
  obtain ⟨N, F, W⟩ := W
  obtain ⟨a', ea, h1⟩ := W.facts _ (List.mem_of_getElem? hm)
  cases ea
  exact i_ixL (SqL.of ((reg_A W.nF W.fH).l _ _ h1)) e k
theorem Ar.lpair (j1 j2 : Nat) (h1 : L[j1]? = some (oL t p xs)) (h2 : L[j2]? = some (oL t' q ys)) (m : Nat) (hm : ctx[m]? = some (fRL true [.ref p, .ref q] (.ref a))) : Ar K ctx L [xs, ys] (.ref a) := fun B H N F W => by
  obtain ⟨a', e, h3⟩ := W.facts _ (List.mem_of_getElem? hm)
  cases e
  have g1 := Ar.lx (Lx.own j1 h1) B H N F W
  have g2 := Ar.lx (Lx.own j2 h2) B H N F W
  exact ⟨a, _, rfl, (reg_A W.nF W.fH).l _ _ h3, g1, g2, trivial⟩
end
/-- a list's method within a comprehension -/
theorem pe_bmK {X : Cx} {K : PySem.W.Frag} {name : Str} {T id : String} {o e : Expr} {es : List Expr} {to : TE} {t : TA} {r : V → List V → Hp → VK → Prop} {apos cpos : Pos} (pa : PlainAttrs T) (slot : Slot T name id) (hty : typeOf (.builtin id) = pure (.type "method_descriptor")) (hm : MtR X id r) (ho : PE X o to) (ha : PA X (e :: es) t) (hK : X.K = K := by rfl)
    (hbase : attributeBase o name X.env (eval o X.env) = eval o X.env := by rfl)
    (hfew : ((backTo cpos (starEach (e :: es) X.env)).all (fun x => !x.1) && (backToKw cpos (keywordEach [] X.env)).all (fun x => x.1.isSome)
      && decide ((e :: es).length + ([] : List Keyword).length + (if ([] : List Keyword).isEmpty then 0 else 1) < 30)) = true := by rfl)
    (hline : (apos.endLine == cpos.line) = true := by rfl) (hs : starEach (e :: es) X.env = (false, eval e X.env) :: starEach es X.env := by rfl) (hplain : (backTo cpos (starEach es X.env)).any (·.1) = false := by rfl) :
    PE X (.Call (.Attribute o name apos) (e :: es) [] cpos) (tBM K T r to t) := by
  subst hK
  exact pe_bm pa slot hty hm ho ha hbase hfew hline hs hplain
/-- a def under another name -/
theorem mkFnA {P : Program} {w : World} {K : PySem.W.Frag} {mg : Str → Option Value} {base : Heap} {x y qual : Str} {params : Arguments} {body : List Stmt} {scope : Scope}
    {f : Addr} {fd : FuncData} {ps : List Str} {k : Nat} {sp : Sp} (F : FunD K x qual params body scope [] [] f fd) (hm : mg y = some (.ref f))
    (hb : ∀ (kV doc pm : Value) (an : Option Addr) (cdv ct : Value) (us : List Value), us.length = ps.length →
      bindArgs (PySem.W.fnOf x qual params body scope .none kV doc pm an cdv ct) ⟨us, []⟩ = pure (ps.zip us))
    (G : FnG P w K mg base k f fd ps sp) : Fn P w K mg base k y ps sp := ⟨f, fd, hm, F.kp, F.bindsN hb, G⟩
/-! ### one thing or another -/
inductive Un (α β : Type) where
  | l (x : α)
  | r (y : β)
  deriving DecidableEq
section
variable {α β γ : Type} [Rp α] [Rp β] [Rp γ]
def repUn (S : Lk) : Un α β → V → Prop
  | .l x, v => Rp.rep S x v
  | .r y, v => Rp.rep S y v
instance : Rp (Un α β) := ⟨repUn, fun {S T x v} s h => by
  cases x with
  | l y => exact Rp.mono (α := α) s h
  | r y => exact Rp.mono (α := β) s h⟩
instance [RpD α] [RpD β] : RpD (Un α β) := ⟨fun x => match x with
    | .l y => RpD.d y
    | .r y => RpD.d y, fun {K H x v} h => by
      cases x with
      | l y => exact RpD.dp (α := α) h
      | r y => exact RpD.dp (α := β) h, fun x => match x with
    | .l y => RpD.ty y
    | .r y => RpD.ty y, fun {K H x v} h => by
      cases x with
      | l y => exact RpD.tyx (α := α) h
      | r y => exact RpD.tyx (α := β) h, fun x => by
      cases x with
      | l y => exact RpD.tys y
      | r y => exact RpD.tys y⟩
def Un.getL : Un α β → Option α
  | .l x => some x
  | .r _ => none
def Un.getR : Un α β → Option β
  | .l _ => none
  | .r y => some y
instance : Co α (Un α β) := ⟨.l, fun h => h⟩
instance : Co β (Un α β) := ⟨.r, fun h => h⟩
instance (priority := low) : Co α α := ⟨id, fun h => h⟩
instance {δ : Type} [Rp δ] [Co α β] [Co γ δ] : Co (α × γ) (β × δ) := ⟨fun x => (Co.f x.1, Co.f x.2), fun ⟨a, u, w, e, h, r1, r2⟩ => ⟨a, u, w, e, h, Co.h r1, Co.h r2⟩⟩
variable {K : PySem.W.Frag} {B H : Hp} {ctx : List Fact} {L : List Own} {t : Bool} {v : V}
theorem Kn.unl {x : α} (h : Kn K ctx t x v) : Kn K ctx t (Un.l x : Un α β) v := fun N F s q => h N F s q
theorem Kn.unr {y : β} (h : Kn K ctx t y v) : Kn K ctx t (Un.r y : Un α β) v := fun N F s q => h N F s q
theorem Wd.getL {x : Un α β} {y : α} (W : Wd K B ctx L H) (h : Kn K ctx t x v) (e : x.getL = some y) : Wd K B (fc t y v :: ctx) L H := by
  cases x with
  | l z =>
    cases e
    exact W.know fun N F s q => h N F s q
  | r z => cases e
theorem Wd.getR {x : Un α β} {y : β} (W : Wd K B ctx L H) (h : Kn K ctx t x v) (e : x.getR = some y) : Wd K B (fc t y v :: ctx) L H := by
  cases x with
  | r z =>
    cases e
    exact W.know fun N F s q => h N F s q
  | l z => cases e
end
end PB
namespace PB
open PySem PySem.Spec PyProof.Rows L2
/-! ### a tuple whose list is one's own, of things that are no lists -/
class NoL (β : Type) [Rp β] : Prop where
  h : ∀ (S T : Lk) (x : β) (v : V), (∀ a vs, S.t a vs → T.t a vs) → Rp.rep S x v → Rp.rep T x v
instance (priority := low) {β : Type} [Rp β] [Flat β] : NoL β := ⟨fun S T x v _ h => Flat.h S T x v h⟩
instance {α β : Type} [Rp α] [Rp β] [NoL α] [NoL β] : NoL (α × β) := ⟨fun S T x v ht ⟨a, u, w, e, h, r1, r2⟩ => ⟨a, u, w, e, ht _ _ h, NoL.h _ _ _ _ ht r1, NoL.h _ _ _ _ ht r2⟩⟩
section
variable {K : PySem.W.Frag} {B H H' : Hp} {ctx : List Fact} {L : List Own} {t : Bool} {α β γ : Type} [Rp α] [Rp β] [Rp γ] {x : α} {v : V} {vs : List V} {a p : Addr}
theorem Ar.co [Co α β] {x : α} (h : Ar K ctx L x v) : Ar K ctx L (Co.f x : β) v := fun B H N F W => Co.h (h B H N F W)
theorem Res.unl {r : α × Un β γ} {y : β} (R : Res K H r v H') (e : r.2 = Un.l y) : Res K H (r.1, y) v H' := by
  obtain ⟨r1, r2⟩ := r
  cases e
  exact R
theorem Res.unr {r : α × Un β γ} {y : γ} (R : Res K H r v H') (e : r.2 = Un.r y) : Res K H (r.1, y) v H' := by
  obtain ⟨r1, r2⟩ := r
  cases e
  exact R
theorem Wd.callRawT {R : Hp} [NoL β] {ys : List β} {tup vs : List V} (W : Wd K B ctx L H) (s : Same H H') (sR : Same R H') (hR : ∀ a u, R a = some u → H a = Option.none) (hl : R a = some (.tup tup)) (hp : R p = some (.lst vs)) (hr : All2 (Rp.rep (lkN R)) ys vs) :
    Wd K B (fR true tup (.ref a) :: ctx) (oL true p ys :: L) H' := by
  obtain ⟨N, F, W⟩ := W
  have hn : H p = Option.none := hR p _ hp
  have J := Wd.joinI (L' := L) (R := PB.del R p) W (fun b u _ e => s b u e) (Same.del.trans sR) (fun a u e => hR a u (Same.del a u e)) (fun o ho => let ⟨h, e, q⟩ := W.at_ o ho; ⟨h, s _ _ e, fun N' F' a b => o.mono a b q⟩) rfl
  have rN : Same (PB.del R p) (join N (PB.del R p)) := join_r fun a u e => W.nF.free (W.fH.free (hR a u (Same.del a u e)))
  have tup_ne : ∀ {b : Addr} {us : List V}, R b = some (.tup us) → b ≠ p := fun hb e2 => by
    rw [e2, hp] at hb
    cases hb
  refine ⟨_, _, J.bF, J.nF, J.sep, J.fH, fun f hf => ?_, fun o ho => ?_, fun o ho => ?_, ?_⟩
  · rcases List.mem_cons.mp hf with rfl | hf
    · exact ⟨a, rfl, rN _ _ ((del_ne (tup_ne hl)).trans hl)⟩
    · exact J.facts f hf
  · rcases List.mem_cons.mp ho with rfl | ho
    · exact ⟨_, sR _ _ hp, vs, rfl, hr.mono fun _ _ q => NoL.h _ _ _ _ (fun b us hb => rN _ _ ((del_ne (tup_ne hb)).trans hb)) q⟩
    · exact J.at_ o ho
  · rcases List.mem_cons.mp ho with rfl | ho
    · show join F (PB.del R p) p = none
      unfold join
      rw [W.fH.free hn]
      exact del_same
    · exact J.off o ho
  · rw [List.map_cons]
    refine List.nodup_cons.mpr ⟨fun hm => ?_, J.nd⟩
    obtain ⟨q, hq, eq⟩ := List.mem_map.mp hm
    obtain ⟨u, e2, _⟩ := W.at_ q hq
    rw [eq] at e2
    rw [show (oL true p ys).a = p from rfl, hn] at e2
    cases e2
theorem Wd.callPT [Flat α] [NoL β] {r : α × List β} (W : Wd K B ctx L H) (r0 : Res K H r v H') : ∃ p a u, v = .ref a ∧ Wd K B (fc true r.1 u :: fR true [u, .ref p] (.ref a) :: ctx) (oL true p r.2 :: L) H' := by
  obtain ⟨R, s, sR, hR, a, u, w, e, hl, hr1, p, vs, ew, hp, hr⟩ := r0
  subst ew
  refine ⟨p, a, u, e, (Wd.callRawT W s sR hR hl hp hr).know fun N F _ _ => Flat.h _ _ _ _ hr1⟩
end
end PB

namespace PB
open PySem PySem.Spec PyProof.Rows L2
/-! ### defs that tell parts of what is handed in: all within what the asker knows as new -/
def ResN (K : PySem.W.Frag) (N0 H : Hp) {α : Type} [Rp α] (r : α) (v : V) (H' : Hp) : Prop := ∃ N', Same N0 N' ∧ Same H H' ∧ Same N' H' ∧ (∀ a u, N' a = some u → H a = none ∨ N0 a = some u) ∧ Rp.rep (lkN N') r v
/-- the region stands within -/
def fN (N0 H0 : Hp) : Fact := ⟨fun _ N F => Same N0 N ∧ Same H0 F, fun h1 h2 ⟨a, b⟩ => ⟨a.trans h1, b.trans h2⟩⟩
def cutH (H N0 : Hp) : Hp := fun a => match N0 a with
  | some _ => none
  | none => H a
section
variable {K : PySem.W.Frag} {B H H' N0 H0 : Hp} {ctx : List Fact} {L : List Own} {α β : Type} [Rp α] [Rp β] {x : α} {v : V}
theorem Wd.startN (s : Same N0 H) : Wd K (cutH H N0) [fN N0 H] [] H := by
  refine ⟨N0, H, fun a u e => ?_, s, fun a u e => ?_, Same.refl H, fun f hf => ?_, (fun _ h => nomatch h), (fun _ h => nomatch h), List.nodup_nil⟩
  · unfold cutH at e
    cases q : N0 a with
    | some w => rw [q] at e; cases e
    | none => rw [q] at e; exact e
  · unfold cutH
    rw [e]
  · rw [List.mem_singleton.mp hf]
    exact ⟨Same.refl _, Same.refl _⟩
theorem Wd.argN (W : Wd K B ctx L H) (m : Nat) (hm : ctx[m]? = some (fN N0 H0)) (h : Rp.rep (lkN N0) x v) : Wd K B (fc true x v :: ctx) L H :=
  W.add fun N F W => Rp.mono (lkN_mono (W.facts _ (List.mem_of_getElem? hm)).1) h
theorem Wd.resN (W : Wd K (cutH H0 N0) ctx L H) (m : Nat) (hm : ctx[m]? = some (fN N0 H0)) (h : Kn K ctx true x v) : ResN K N0 H0 x v H := by
  obtain ⟨N, F, W⟩ := W
  obtain ⟨s1, s2⟩ := W.facts _ (List.mem_of_getElem? hm)
  refine ⟨N, s1, s2.trans W.fH, W.nF.trans W.fH, fun a u e => ?_, h N F W.nF W.facts⟩
  have h1 := W.sep a u e
  unfold cutH at h1
  cases q : N0 a with
  | some w =>
    have := s1 a w q
    rw [e] at this
    exact .inr this.symm
  | none =>
    rw [q] at h1
    exact .inl h1
theorem WdI.callN {N F : Hp} (W : WdI K B ctx L H N F) (r : ResN K N H x v H') : Wd K B (fc true x v :: ctx) L H' := by
  obtain ⟨N', s1, s2, s3, s4, hr⟩ := r
  have hF : ∀ a u, N' a = some u → F a = none ∨ F a = some u := fun a u e => by
    rcases s4 a u e with h | h
    · exact .inl (W.fH.free h)
    · exact .inr (W.nF a u h)
  have sN' : Same N' (join F N') := fun a u e => by
    unfold join
    rcases hF a u e with h | h
    · rw [h]
      exact e
    · rw [h]
  have sF : Same F (join F N') := join_l
  refine ⟨N', join F N', W.bF.trans sF, sN', fun a u e => ?_, fun a u e => ?_, fun f hf => ?_, fun o ho => ?_, fun o ho => ?_, W.nd⟩
  · rcases s4 a u e with h | h
    · exact W.bF.free (W.fH.free h)
    · exact W.sep a u h
  · rcases join_or e with e | e
    · exact s2 a u (W.fH a u e)
    · exact s3 a u e
  · rcases List.mem_cons.mp hf with rfl | hf
    · exact hr
    · exact f.mono s1 sF (W.facts f hf)
  · obtain ⟨u, e, q⟩ := W.at_ o ho
    exact ⟨u, s2 _ _ e, o.mono s1 sF q⟩
  · obtain ⟨u, e, q⟩ := W.at_ o ho
    have hoff := W.off o ho
    unfold join
    rw [hoff]
    show N' o.a = none
    cases q2 : N' o.a with
    | none => rfl
    | some w =>
      rcases s4 _ _ q2 with h | h
      · rw [e] at h
        cases h
      · have := W.nF _ _ h
        rw [hoff] at this
        cases this
theorem WdI.callNI {N F : Hp} {i : Int} (W : WdI K B ctx L H N F) (r : ResN K N H i v H') : v = .int i ∧ Wd K B ctx L H' := by
  have h := W.callN r
  exact ⟨h.eqI (Kn.at 0 rfl), h.drop 1 rfl⟩
theorem WdI.callNB {N F : Hp} {i : Bool} (W : WdI K B ctx L H N F) (r : ResN K N H i v H') : v = .bl i ∧ Wd K B ctx L H' := by
  have h := W.callN r
  exact ⟨h.eqB (Kn.at 0 rfl), h.drop 1 rfl⟩
/-- the asker's side: its region -/
theorem Wd.region (W : Wd K B ctx L H) {P : Prop} (h : ∀ N F, WdI K B ctx L H N F → P) : P := let ⟨N, F, W⟩ := W; h N F W
theorem knN {N F : Hp} (h : Kn K ctx true x v) (W : WdI K B ctx L H N F) : Rp.rep (lkN N) x v := h N F W.nF W.facts
theorem wdI (W : WdI K B ctx L H N0 H0) : Wd K B ctx L H := ⟨_, _, W⟩
end
/-! ### the same with a list that is changed, of things that the asker knows as new -/
def Res1N (K : PySem.W.Frag) (N0 H : Hp) (a : Addr) {α β : Type} [Rp α] [Rp β] (r : α × List β) (v : V) (H' : Hp) : Prop :=
  ∃ N', Same N0 N' ∧ But [a] H H' ∧ Same N' H' ∧ (∀ b u, N' b = some u → H b = none ∨ N0 b = some u) ∧ N' a = none ∧ Rp.rep (lkN N') r.1 v ∧ ∃ vs, H' a = some (.lst vs) ∧ All2 (Rp.rep (lkN N')) r.2 vs
section
variable {K : PySem.W.Frag} {B H H' N0 H0 N F : Hp} {ctx : List Fact} {L : List Own} {α β : Type} [Rp α] [Rp β] {x : α} {v : V} {a : Addr} {xs ys ys' : List β} {us : List V}
theorem Wd.mutN (s : Same N0 (PB.del H a)) (h : H a = some (.lst us)) (r : All2 (Rp.rep (lkN N0)) xs us) : Wd K (cutH (PB.del H a) N0) [fN N0 (PB.del H a)] [oL true a xs] H := by
  refine ⟨N0, PB.del H a, fun b u e => ?_, s, fun b u e => ?_, Same.del, fun f hf => ?_, fun o ho => ?_, fun o ho => ?_, by simp⟩
  · unfold cutH at e
    cases q : N0 b with
    | some w => rw [q] at e; cases e
    | none => rw [q] at e; exact e
  · unfold cutH
    rw [e]
  · rw [List.mem_singleton.mp hf]
    exact ⟨Same.refl _, Same.refl _⟩
  · obtain rfl := List.mem_singleton.mp ho
    exact ⟨_, h, us, rfl, r⟩
  · obtain rfl := List.mem_singleton.mp ho
    exact del_same
theorem Wd.res1N (W : Wd K (cutH (PB.del H0 a) N0) ctx L H) (m : Nat) (hm : ctx[m]? = some (fN N0 (PB.del H0 a))) (j : Nat) (hj : L[j]? = some (oL true a ys)) (h : Kn K ctx true x v) : Res1N K N0 H0 a (x, ys) v H := by
  obtain ⟨N, F, W⟩ := W
  obtain ⟨s1, s2⟩ := W.facts _ (List.mem_of_getElem? hm)
  obtain ⟨k, hk, vs, rfl, hr⟩ := W.at_ _ (List.mem_of_getElem? hj)
  have hoff : F a = none := W.off _ (List.mem_of_getElem? hj)
  have hNa : N a = none := W.nF.free hoff
  refine ⟨N, s1, But.of_del (s2.trans W.fH), W.nF.trans W.fH, fun b u e => ?_, hNa, h N F W.nF W.facts, vs, hk, hr⟩
  have hb : b ≠ a := fun z => by
    rw [z, hNa] at e
    cases e
  have h1 := W.sep b u e
  unfold cutH at h1
  cases q : N0 b with
  | some w =>
    have := s1 b w q
    rw [e] at this
    exact .inr this.symm
  | none =>
    rw [q] at h1
    exact .inl ((del_ne hb).symm.trans h1)
theorem WdI.ioN (W : WdI K B ctx L H N F) (j : Nat) (hj : L[j]? = some (oL true a xs)) : ∃ us, H a = some (.lst us) ∧ All2 (Rp.rep (lkN N)) xs us ∧ Same N (PB.del H a) := by
  obtain ⟨o, h1, vs, rfl, h2⟩ := W.at_ _ (List.mem_of_getElem? hj)
  exact ⟨vs, h1, h2, W.nF.trans (toDel W.fH (W.off _ (List.mem_of_getElem? hj)))⟩
theorem WdI.callN1 (W : WdI K B ctx L H N F) (j : Nat) (hj : L[j]? = some (oL true a ys)) (r : Res1N K N H a (x, ys') v H') : Wd K B (fc true x v :: ctx) (L.set j (oL true a ys')) H' := by
  obtain ⟨N', s1, s2, s3, s4, hNa, hr, vs, hv, hvs⟩ := r
  have hoff : F a = none := W.off _ (List.mem_of_getElem? hj)
  have hF : ∀ b u, N' b = some u → F b = none ∨ F b = some u := fun b u e => by
    rcases s4 b u e with h | h
    · exact .inl (W.fH.free h)
    · exact .inr (W.nF b u h)
  have sN' : Same N' (join F N') := fun b u e => by
    unfold join
    rcases hF b u e with h | h
    · rw [h]
      exact e
    · rw [h]
  have sF : Same F (join F N') := join_l
  have ea : (L.set j (oL true a ys')).map (·.a) = L.map (·.a) := by
    rw [List.map_set]
    refine List.ext_getElem? fun i => ?_
    rw [List.getElem?_set]
    by_cases hi : j = i
    · subst hi
      have := (List.getElem?_eq_some_iff.mp hj).1
      rw [if_pos rfl, if_pos (by rw [List.length_map]; exact this), List.getElem?_map, hj]
      rfl
    · rw [if_neg hi]
  have offJ : ∀ o ∈ L, o.a ≠ a → join F N' o.a = none := fun o ho _ => by
    obtain ⟨u, e, q⟩ := W.at_ o ho
    have ho2 := W.off o ho
    unfold join
    rw [ho2]
    show N' o.a = none
    cases q2 : N' o.a with
    | none => rfl
    | some w =>
      rcases s4 _ _ q2 with h | h
      · rw [e] at h
        cases h
      · have := W.nF _ _ h
        rw [ho2] at this
        cases this
  refine ⟨N', join F N', W.bF.trans sF, sN', fun b u e => ?_, fun b u e => ?_, fun f hf => ?_, fun o ho => ?_, fun o ho => ?_, by rw [ea]; exact W.nd⟩
  · rcases s4 b u e with h | h
    · exact W.bF.free (W.fH.free h)
    · exact W.sep b u h
  · rcases join_or e with e | e
    · refine s2 b u (fun hm => ?_) (W.fH b u e)
      rw [List.mem_singleton.mp hm, hoff] at e
      cases e
    · exact s3 b u e
  · rcases List.mem_cons.mp hf with rfl | hf
    · exact hr
    · exact f.mono s1 sF (W.facts f hf)
  · rcases setMem' W.nd hj ho with rfl | ⟨h1, h2⟩
    · exact ⟨_, hv, vs, rfl, hvs⟩
    · obtain ⟨u, e, q⟩ := W.at_ o h1
      exact ⟨u, s2 _ _ (fun hm => h2 (List.mem_singleton.mp hm)) e, o.mono s1 sF q⟩
  · rcases setMem' W.nd hj ho with rfl | ⟨h1, h2⟩
    · show join F N' a = none
      unfold join
      rw [hoff]
      exact hNa
    · exact offJ o h1 h2
theorem WdI.callN1B {i : Bool} (W : WdI K B ctx L H N F) (j : Nat) (hj : L[j]? = some (oL true a ys)) (r : Res1N K N H a (i, ys') v H') : v = .bl i ∧ Wd K B ctx (L.set j (oL true a ys')) H' := by
  have h := W.callN1 j hj r
  exact ⟨h.eqB (Kn.at 0 rfl), h.drop 1 rfl⟩
end
/-! ### tuples of three in order -/
open PySem.W PySem.SeqAt
section
variable {α β γ : Type} [DecidableEq α] [DatumOrd α] [DecidableEq β] [DatumOrd β] [DecidableEq γ] [DatumOrd γ]
theorem T3.ext' {p q : T3 α β γ} (h1 : p.a = q.a) (h2 : p.b = q.b) (h3 : p.c = q.c) : p = q := by
  cases p; cases q
  simp at h1 h2 h3
  rw [h1, h2, h3]
instance : Datum (T3 α β γ) where
  toD p := .tuple [Datum.toD p.a, Datum.toD p.b, Datum.toD p.c]
  plain p := by simp only [PyData.plain, PyData.plainAll, Datum.plain, Bool.and_self]
  eqv p q := by
    simp only [PyData.eqv, PyData.eqvAll, Datum.eqv, Bool.and_true, ← Bool.decide_and]
    exact decide_eq_decide.mpr ⟨fun e => T3.ext' e.1 e.2.1 e.2.2, fun e => by rw [e]; exact ⟨rfl, rfl, rfl⟩⟩
  depth := max (Datum.depth α) (max (Datum.depth β) (Datum.depth γ)) + 1
  depth_le p := by
    simp only [PyData.depth, PyData.depthAll]
    have h1 := Datum.depth_le p.a
    have h2 := Datum.depth_le p.b
    have h3 := Datum.depth_le p.c
    omega
def lt3 (p q : T3 α β γ) : Bool := if p.a = q.a then (if p.b = q.b then DatumOrd.lt p.c q.c else DatumOrd.lt p.b q.b) else DatumOrd.lt p.a q.a
instance : DatumOrd (T3 α β γ) where
  lt := lt3
  alike p q := by
    show PySem.W.alike (.tuple [_, _, _]) (.tuple [_, _, _]) = true
    simp only [PySem.W.alike, alikeAll, DatumOrd.alike, Bool.and_self]
  notNone a := fun e => by cases e
  lt_eq p q := by
    refine (dataLt_tuple _ _).trans ?_
    unfold lt3
    by_cases h : p.a = q.a
    · rw [if_pos h, dataLt_all_yes (DatumOrd.alike p.a q.a) (by rw [Datum.eqv, decide_eq_true_eq]; exact h)]
      by_cases h2 : p.b = q.b
      · rw [if_pos h2, dataLt_all_yes (DatumOrd.alike p.b q.b) (by rw [Datum.eqv, decide_eq_true_eq]; exact h2)]
        by_cases h3 : p.c = q.c
        · rw [dataLt_all_yes (DatumOrd.alike p.c q.c) (by rw [Datum.eqv, decide_eq_true_eq]; exact h3), lex_irrefl, h3]
          exact ((dataLt_self _).symm.trans (DatumOrd.lt_eq q.c q.c))
        · rw [dataLt_all_no (DatumOrd.alike p.c q.c) (by rw [Datum.eqv, decide_eq_false_iff_not]; exact h3)]
          exact DatumOrd.lt_eq p.c q.c
      · rw [if_neg h2, dataLt_all_no (DatumOrd.alike p.b q.b) (by rw [Datum.eqv, decide_eq_false_iff_not]; exact h2)]
        exact DatumOrd.lt_eq p.b q.b
    · rw [if_neg h, dataLt_all_no (DatumOrd.alike p.a q.a) (by rw [Datum.eqv, decide_eq_false_iff_not]; exact h)]
      exact DatumOrd.lt_eq p.a q.a
end
instance {α β γ : Type} [Rp α] [RpD α] [DecidableEq α] [DatumOrd α] [RpQ α] [Rp β] [RpD β] [DecidableEq β] [DatumOrd β] [RpQ β] [Rp γ] [RpD γ] [DecidableEq γ] [DatumOrd γ] [RpQ γ] : RpQ (T3 α β γ) := ⟨fun x => by show PyData.tuple [RpD.d x.a, RpD.d x.b, RpD.d x.c] = .tuple [Datum.toD x.a, Datum.toD x.b, Datum.toD x.c]; rw [RpQ.dc, RpQ.dc, RpQ.dc]⟩
end PB

namespace PB
open PySem PySem.Spec PyProof.Rows L2
/-! ### sorted(set(xs)) of a list of ints -/
def nilSet (w : World) : Obj := { cls := .type "set", dict := none, data := .set #[] 0 (.fresh 0 0 (!w.params.followText "set-order")) }
section
variable {P : Program} {w : World} {A : Around} {E : Value → Shared → Prop} {s : Shared}
theorem SetR.start {h : Heap} {a : Addr} (ns : List Int) (ho : h.get? a = some (nilSet w)) : SetR w h a (fun j => decide (j ∈ ns.take 0)) 0 := setR_new_at ho
/-- what stands behind set(list) -/
def SetDone (w : World) (s s' : Shared) (ns : List Int) : Prop := ∃ (h' : Heap) (tk c : Nat), s' = { s with heap := h', toks := tk } ∧ SetR w h' s.heap.objs.size (fun j => decide (j ∈ ns)) c ∧ c ≤ ns.length ∧ ∀ b o, s.heap.get? b = some o → h'.get? b = some o
theorem init_setL {l : Addr} {items : Array Value} {ns : List Int} (hh : A.handled = none) (hl : s.heap.IsList l items) (hi : IntsAre items.toList ns) (hb : ns.length + 1 < scanBound)
    {R : Result → Shared → Prop} (h : ∀ s', SetDone w s s' ns → R (.ok (.ret .none)) s') :
    codeAny (model P w) A (.call (.builtin "set.__init__") ⟨[.ref s.heap.objs.size, .ref l], []⟩) R { s with heap := s.heap.push (nilSet w) } := by
  have hz : items.size = ns.length := by
    have q := IntsAre.length hi
    rwa [Array.length_toList] at q
  have gS : (s.heap.push (nilSet w)).get? s.heap.objs.size = some (nilSet w) := Heap.get?_push_size _ rfl
  have hT : Shared.TypeIs { s with heap := s.heap.push (nilSet w) } (.ref s.heap.objs.size) "set" := ⟨_, gS, rfl⟩
  refine codeAny_call_builtin F.called_set.init.plain F.entry_set_init (check_set_init_1 hT ?_)
  have hlp : (s.heap.push (nilSet w)).IsList l items := hl.push _
  obtain ⟨ol, hol, hcl, nl, hdl⟩ := hlp
  obtain ⟨ocls, odict, odata, oslots⟩ := ol
  simp only at hcl hdl
  subst hcl
  subst hdl
  have u1 := F.sub_list_set
  have u2 := F.sub_list_frozenset
  have ne1 : (Value.type "list" == Value.type "dict") = false := by decide
  have hl2 : (s.heap.push (nilSet w)).IsList l items := hl.push _
  have hlt : l < s.heap.objs.size := by
    obtain ⟨o, ho, _⟩ := hl
    exact Heap.lt_size ho
  unfold Builtin.«set.__init__» noKeywords Builtin.Frozenset.updateFrom
  generalize hPI : pyIter = PI
  wp_walk
  subst hPI
  refine wpAny_pyIter_list hl2 ?_
  refine wpAny_bind (wpAny_runValue ?_)
  have h3 : A.in1.in1.handled = none := by simp [hh]
  have z1 : (s.heap.push (nilSet w)).objs.size = s.heap.objs.size + 1 := Heap.size_push ..
  have nI : l ≠ (s.heap.push (nilSet w)).objs.size := by rw [z1]; exact Nat.ne_of_lt (Nat.lt_succ_of_lt hlt)
  have nS : s.heap.objs.size ∉ [(s.heap.push (nilSet w)).objs.size, l] := by
    rw [z1]
    simp only [List.mem_cons, List.not_mem_nil, or_false, not_or]
    exact ⟨Nat.ne_of_lt (Nat.lt_succ_self _), Nat.ne_of_gt hlt⟩
  have hv : ∀ (i : Nat) (v : Value), items[i]? = some v → ∃ k t, ns[i]? = some k ∧ v = .int k t := fun i v e => by
    have hi' : i < ns.length := by rw [← hz]; exact (Array.getElem?_eq_some_iff.mp e).1
    obtain ⟨t, q⟩ := IntsAre.int_at hi i v (by rw [Array.getElem?_toList]; exact e)
    exact ⟨ns[i], t, List.getElem?_eq_getElem hi', by rw [q, List.getD_eq_getElem?_getD, List.getElem?_eq_getElem hi']; rfl⟩
  refine set_update_ints ((Walks.list h3 _ l nI items).toS) s.heap.objs.size nS ns hz hb hv (items.size - 0) 0 _ (by omega) (Nat.zero_le _)
    ?hT ⟨0, Nat.le_refl 0, ?hS⟩ ?hR
  case hT => exact ⟨⟨_, Heap.get?_push_size _ rfl, rfl, rfl⟩, hl2.push _⟩
  case hS => exact SetR.start ns (Heap.get?_push_of_some _ gS)
  case' hR => refine fun s' c hm hc hS => ?_
  obtain ⟨h', g2, d', tk', os'⟩ := s'
  obtain rfl : g2 = s.gens := hm.gens
  obtain rfl : d' = s.drawn := hm.drawn
  obtain rfl : os' = s.os := hm.os
  show wpAny _ _ _ _ _ _
  refine wpAny_pure ?_
  show wpAny _ _ (ret Value.none) _ _ _
  refine wpAny_pure (h _ ⟨h', tk', c, rfl, hS, by omega, fun b o e => ?_⟩)
  have b0 : b < s.heap.objs.size := Heap.lt_size e
  refine hm.heap b o ?_ (Heap.get?_push_of_some _ (Heap.get?_push_of_some _ e))
  rw [z1]
  simp only [List.mem_cons, List.not_mem_nil, or_false, not_or]
  exact ⟨Nat.ne_of_lt b0, Nat.ne_of_lt (Nat.lt_succ_of_lt b0)⟩
theorem call_setL {l : Addr} {items : Array Value} {ns : List Int} {Q : Value → Shared → Prop} (hh : A.handled = none) (hl : s.heap.IsList l items) (hi : IntsAre items.toList ns) (hb : ns.length + 1 < scanBound)
    (h : ∀ s', SetDone w s s' ns → Q (.ref s.heap.objs.size) s') : wpAny (model P w) A (call (.type "set") [.ref l]) Q E s := by
  obtain ⟨c, tl, hmro⟩ := F.called_set.mro
  have hmade := F.called_set.made
  have hsub := F.called_set.sub
  refine wpAny_call (codeAny_of_tree ?_)
  show wpAny _ _ (callAny (.type "set") _) _ _ _
  refine wpAny_pure ⟨Code.quiet_builtin _ (by decide +kernel), codeAny_builtin F.entry_type_call ?_⟩
  rw [Around.under_plain (weight_type_call_type "set" [.ref l] []) rfl]
  have h1 := F.called_set.notType
  have h2 := F.called_set.canCreate
  have hct := F.typeCall_set_1 (.ref l)
  repeat (any_goals (first | assumption | wp_step))
  refine codeAny_mono (code_set_led1 (.ref l) (E := E) (Q₁ := fun obj s1 => obj = .ref s.heap.objs.size ∧ s1 = { s with heap := s.heap.push (nilSet w) }) ⟨rfl, rfl⟩) fun r s1 hr => ?_
  cases r with
  | error e => exact hr
  | ok fl =>
    cases fl with
    | ret obj =>
      obtain ⟨rfl, rfl⟩ := hr
      have gS : (s.heap.push (nilSet w)).get? s.heap.objs.size = some (nilSet w) := Heap.get?_push_size _ rfl
      have hT : Shared.TypeIs { s with heap := s.heap.push (nilSet w) } (.ref s.heap.objs.size) "set" := ⟨_, gS, rfl⟩
      have hli := F.called_set.init.lookup
      have hbi := F.called_set.init.bind (.ref s.heap.objs.size)
      repeat (any_goals (first | assumption | wp_step))
      refine codeAny_mono (init_setL (R := wants (fun r s2 => r = .none ∧ SetDone w s s2 ns) E) (A := A.in1) (by simp [hh]) hl hi hb fun s' q => ⟨rfl, q⟩) fun r2 s2 hr2 => ?_
      cases r2 with
      | error e => exact hr2
      | ok fl2 =>
        cases fl2 with
        | ret r =>
          obtain ⟨rfl, q⟩ := hr2
          repeat (any_goals (first | assumption | wp_step))
          exact h _ q
        | _ => exact hr2.elim
    | _ => exact hr.elim
end
/-- sorted(found), any number of members -/
theorem sorted_setN {P : Program} {w : World} {A : Around} {E : Value → Shared → Prop} {s : Shared} {a : Addr} {S : Int → Bool} {n : Nat} {Q : Value → Shared → Prop} (R : SetR w s.heap a S n) (hh : A.handled = none) (hc : n ≤ 100000)
    (hQ : ∀ s' p (out : List Value) (c : Nat) (ns : List Int), (∀ b o, s.heap.get? b = some o → s'.heap.get? b = some o) → s'.gens = s.gens → s'.os = s.os → s.heap.objs.size ≤ p →
      s'.heap.get? p = some (seqObj "list" out.toArray c) → IntsAre out ns → ns.Pairwise (· < ·) → (∀ k, k ∈ ns ↔ S k = true) → ns.length = n → Q (.ref p) s') :
    wpAny (model P w) A (call (.builtin "sorted") [.ref a]) Q E s := by
  obtain ⟨o, es, ep, t, ho, hex, hd, g, nd, hm, hb, hf, hn, hr, hl⟩ := R
  refine Calls.call_function_entry kind_sorted plain_sorted entry_sorted (args_sorted1 _) ?_
  unfold Builtin.«sorted»
  refine wpAny_bind (m := checkCount "sorted" 1 1 _) (wpAny_pure ?_)
  refine wpAny_bind (collect_set (A := A.in1) hh ⟨o, ho, hex.1, hd⟩ hf hb hr hl fun s1 vs k1 hz g1 o1 pm => ?_)
  have hvl : vs.length = n := by rw [pm.length_eq, List.length_map, Array.length_toList]; exact hn
  have hI : IntsAre vs (vs.map Builtin.Re.reRawOf) := ints_of vs fun v hv => by
    obtain ⟨e, he, q⟩ := List.mem_map.mp (pm.mem_iff.mp hv)
    obtain ⟨k, tk, h1, _⟩ := g e he
    exact ⟨k, tk, by rw [← q]; exact h1⟩
  have pk : (vs.map Builtin.Re.reRawOf).Perm (es.toList.map keyOf) := by
    have q := pm.map Builtin.Re.reRawOf
    rw [List.map_map] at q
    exact q
  have hsz : vs.length ≤ sizeLine := by rw [hvl, sizeLine_eq]; omega
  refine wpAny_bind (wpAny_newList ?_ hsz)
  have hoL : (s1.heap.push (seqObj "list" vs.toArray 0)).get? s1.heap.objs.size = some (seqObj "list" vs.toArray 0) := Heap.get?_push_size _ rfl
  refine wpAny_bind (wpAny_holding (wpAny_call_entry slot_list_sort ⟨_, hoL, rfl⟩ entry_list_sort (SrtO.list_sort_ord SrtO.swo_int hoL hsz (fun h2 => SrtO.ints_sortable hI h2) fun out h1 h2 => ⟨_, rfl, ?_⟩) (args_list_sort _)))
  obtain ⟨c1, c2, c3⟩ := SrtO.ints_out hI h1 h2
  obtain ⟨c, hc⟩ := sortedHeap_at (vs := vs) (out := out.toArray) hoL
  have pn : (out.map SrtO.iv).Perm (es.toList.map keyOf) := c2.trans pk
  refine wpAny_pure ⟨_, rfl, hQ _ s1.heap.objs.size out c (out.map SrtO.iv) (fun b u e => ?_) g1 o1 hz hc c1 (lt_of_le_nodup _ c3 (pn.nodup_iff.mpr nd)) (fun k => by rw [pn.mem_iff, ← hm k]) ?_⟩
  · have q := k1 b u e
    have hlt := Heap.lt_size q
    show (sortedHeap (s1.heap.push (seqObj "list" vs.toArray 0)) s1.heap.objs.size vs out.toArray).get? b = some u
    rw [sortedHeap_old (Nat.ne_of_lt hlt) (by rw [size_push']; exact Nat.lt_succ_of_lt hlt)]
    exact Heap.get?_push_of_some _ q
  · rw [pn.length_eq, List.length_map, Array.length_toList]; exact hn
def rSrtSet (w : World) : List V → Hp → VK → Prop := fun vs H Q => ∃ (a : Addr) (S : Int → Bool) (n : Nat), vs = [V.ref a] ∧ H a = some (SetO w a S n) ∧ n ≤ 100000 ∧
  ∀ (ns : List Int) (p : Addr), ns.Pairwise (· < ·) → (∀ k : Int, k ∈ ns ↔ S k = true) → ns.length = n → H p = none → Q (.ref p) (upd H p (.lst (ns.map V.int)))
theorem cr_srtSet {X : Cx} (hc : X.calm = true) : CallR X (.builtin "sorted") (rSrtSet X.w) := by
  intro pins s σ H vs us Q I r h
  obtain ⟨a, S, n, rfl, ha, hn, q⟩ := h
  have R := setO_get I ha
  rw [Vals.ref1 r]
  refine sorted_setN R (I.ok.hd hc) hn fun s' p out c ns k g o hp hg hi hs hm hl => ?_
  have hlen : (ns.map V.int).length ≤ sizeLine := by rw [List.length_map, hl, sizeLine_eq]; omega
  have hn : H p = none := I.hok.fresh hp
  have J : Inv X pins σ (upd H p (.lst (ns.map V.int))) { s with heap := s'.heap, gens := s'.gens, drawn := s'.drawn, toks := s'.toks } :=
    I.call (ch := []) (Un.laid k hp hn) (I.hok.laid k hp ⟨hlen, out, c, vals_of_ints hi, hg⟩) (by rw [g]; exact I.bare) (fun _ z => nomatch z)
  have e : s' = { s with heap := s'.heap, gens := s'.gens, drawn := s'.drawn, toks := s'.toks } := by
    cases s'
    cases s
    cases o
    rfl
  rw [e]
  exact ⟨.ref p, _, J, rfl, q ns p hs hm hl hn⟩
/-- set(xs), a list of ints -/
def rSetL (w : World) (K : PySem.W.Frag) : List V → Hp → VK → Prop := fun vs H Q => ∃ (a : Addr) (ns : List Int), vs = [V.ref a] ∧ SqL K H a (ns.map V.int) ∧ ns.length ≤ 4000 ∧
  ∀ (p : Addr) (c : Nat), H p = none → c ≤ ns.length → Q (.ref p) (upd H p (SetO w p (fun j => decide (j ∈ ns)) c))
theorem cr_setL {X : Cx} (hc : X.calm = true) : CallR X (.type "set") (rSetL X.w X.K) := by
  intro pins s σ H vs us Q I r h
  obtain ⟨a, ns, rfl, hs, hl, q⟩ := h
  obtain ⟨its, rv, pl, hz⟩ := I.list hs
  rw [Vals.ref1 r]
  have hi : IntsAre its.toArray.toList ns := ints_of_vals rv
  refine call_setL (I.ok.hd hc) pl.isList hi (by unfold scanBound; omega) fun s' ⟨h', tk, c, e, R, hcn, k⟩ => ?_
  rw [e]
  exact ⟨.ref _, upd H s.heap.objs.size (SetO X.w s.heap.objs.size (fun j => decide (j ∈ ns)) c), I.laid (t' := tk) k (Nat.le_refl _) (setO_new R), rfl, q _ c (I.hok.fresh (Nat.le_refl _)) hcn⟩
/-- the members in order, each once -/
def insI (x : Int) : List Int → List Int
  | [] => [x]
  | y :: ys => if x < y then x :: y :: ys else if x = y then y :: ys else y :: insI x ys
def ssetI (xs : List Int) : List Int := xs.foldr insI []
def ssetO (xs : List Int) : Option (List Int) := if xs.length ≤ 4000 then some (ssetI xs) else none
theorem insI_mem (x : Int) : ∀ (ys : List Int) (z : Int), z ∈ insI x ys ↔ z = x ∨ z ∈ ys
  | [], z => by simp [insI]
  | y :: ys, z => by
    unfold insI
    split
    · simp
    · split
      · rename_i h
        simp [h]
      · rw [List.mem_cons, insI_mem x ys z, List.mem_cons]
        grind
theorem insI_pw (x : Int) : ∀ (ys : List Int), ys.Pairwise (· < ·) → (insI x ys).Pairwise (· < ·)
  | [], _ => List.pairwise_singleton _ _
  | y :: ys, h => by
    obtain ⟨h1, h2⟩ := List.pairwise_cons.mp h
    unfold insI
    split
    · rename_i c
      exact List.pairwise_cons.mpr ⟨fun z hz => by
        rcases List.mem_cons.mp hz with rfl | hz
        · exact c
        · exact Int.lt_trans c (h1 z hz), h⟩
    · split
      · exact h
      · refine List.pairwise_cons.mpr ⟨fun z hz => ?_, insI_pw x ys h2⟩
        rcases (insI_mem x ys z).mp hz with rfl | hz
        · omega
        · exact h1 z hz
theorem ssetI_mem (xs : List Int) (z : Int) : z ∈ ssetI xs ↔ z ∈ xs := by
  induction xs with
  | nil => exact Iff.rfl
  | cons x xs ih =>
    show z ∈ insI x (ssetI xs) ↔ _
    rw [insI_mem, ih, List.mem_cons]
theorem ssetI_pw (xs : List Int) : (ssetI xs).Pairwise (· < ·) := by
  induction xs with
  | nil => exact List.Pairwise.nil
  | cons x xs ih => exact insI_pw x _ ih
theorem pw_uniq : ∀ {xs ys : List Int}, xs.Pairwise (· < ·) → ys.Pairwise (· < ·) → (∀ z, z ∈ xs ↔ z ∈ ys) → xs = ys
  | [], ys, _, _, h => by
    cases ys with
    | nil => rfl
    | cons y ys => exact nomatch (h y).mpr List.mem_cons_self
  | x :: xs, ys, h1, h2, h => by
    cases ys with
    | nil => exact nomatch (h x).mp List.mem_cons_self
    | cons y ys =>
      obtain ⟨a1, a2⟩ := List.pairwise_cons.mp h1
      obtain ⟨b1, b2⟩ := List.pairwise_cons.mp h2
      have e : x = y := by
        rcases List.mem_cons.mp ((h x).mp List.mem_cons_self) with q | q
        · exact q
        · rcases List.mem_cons.mp ((h y).mpr List.mem_cons_self) with q' | q'
          · exact q'.symm
          · have := a1 _ q'
            have := b1 _ q
            omega
      subst e
      refine congrArg _ (pw_uniq a2 b2 fun z => ⟨fun hz => ?_, fun hz => ?_⟩)
      · rcases List.mem_cons.mp ((h z).mp (List.mem_cons_of_mem _ hz)) with q | q
        · have := a1 _ hz
          omega
        · exact q
      · rcases List.mem_cons.mp ((h z).mpr (List.mem_cons_of_mem _ hz)) with q | q
        · have := b1 _ hz
          omega
        · exact q
theorem w_sset {K : PySem.W.Frag} {B H : Hp} {ctx : List Fact} {L : List Own} {t : Bool} {xs ys : List Int} {v : V} {w : World} {Q : VK} {σ : L2.St} (W : Wd K B ctx L H) (h : Ls K ctx L t xs v) (e : ssetO xs = some ys)
    (k : ∀ p H', Wd K B ctx (oL true p ys :: L) H' → Q (.ref p) H') : rSetL w K [v] H (fun u H1 => tNil σ H1 fun xs H2 => rSrtSet w (u :: xs) H2 Q) := by
  show rSetL w K [v] H (fun u H1 => rSrtSet w [u] H1 Q)
  obtain ⟨N, F, W⟩ := W
  obtain ⟨a, vs, rfl, h1, h2⟩ := h B H N F W
  rw [all2_int h2] at h1
  unfold ssetO at e
  split at e
  · rename_i hl
    cases e
    refine ⟨a, xs, rfl, h1, hl, fun p c hp hc => ⟨p, (fun j => decide (j ∈ xs)), c, rfl, ?_, by omega, fun ns q hs hm hn hq => ?_⟩⟩
    · unfold upd
      simp
    · have e2 : ns = ssetI xs := pw_uniq hs (ssetI_pw xs) fun z => by rw [hm, ssetI_mem, decide_eq_true_eq]
      rw [e2]
      have W1 : Wd K B ctx L (upd H p (SetO w p (fun j => decide (j ∈ xs)) c)) := Wd.same ⟨N, F, W⟩ fun b u hb => by
        rw [upd_ne (fun z => by rw [z, hp] at hb; cases hb)]
        exact hb
      obtain ⟨N', F', W'⟩ := W1
      exact k q _ (Wd.newL W' hq (all2_ofInt _))
  · cases e
/-! ### a op b op' c op'' d -/
def tChain3 (r r' r'' : R2) (ta tb tc td : TE) : TE := fun σ H Q => ta σ H fun x H1 => tb σ H1 fun y H2 => r x y H2 fun z H3 => rBl z H3 fun k H4 =>
  if k = true then tc σ H4 (fun w' H5 => r' y w' H5 fun z' H6 => rBl z' H6 fun k' H7 => if k' = true then td σ H7 fun u H8 => r'' w' u H8 Q else Q (.bl false) H7) else Q (.bl false) H4
theorem pe_chain3 {X : Cx} {a b c d : Expr} {op op' op'' : CmpOp} {r r' r'' : R2} {ta tb tc td : TE} {pos : Pos} (ho : OpR X (compareOp op) r) (ho' : OpR X (compareOp op') r') (ho'' : OpR X (compareOp op'') r'') (ha : PE X a ta) (hb : PE X b tb) (hc : PE X c tc) (hd : PE X d td)
    (hm : lastMarks [op, op', op''] [b, c, d] = false := by with_unfolding_all rfl) : PE X (.Compare a [op, op', op''] [b, c, d] pos) (tChain3 r r' r'' ta tb tc td) := by
  refine ⟨fun pins s σ H Q I h => ?_⟩
  refine Compare_chain (thn (ha.run pins s σ H _ I h) fun v s1 ⟨x, H1, I1, r1, q1⟩ => chain_link (thn (hb.run pins s1 σ H1 _ I1 q1) fun u s2 ⟨y, H2, I2, r2, q2⟩ =>
    thn (ho pins s2 σ H2 x y v u _ I2 r1 r2 q2) fun d s3 ⟨z, H3, I3, r3, k, e, q3⟩ => ?_)) hm
  subst e
  cases r3
  refine wpAny_truthy_bool ?_
  cases k with
  | false => exact ite_ff ⟨.bl false, H3, I3, rfl, q3⟩
  | true =>
    refine ite_tt (chain_link (thn (hc.run pins s3 σ H3 _ I3 q3) fun w' s4 ⟨z', H4, I4, r4, q4⟩ => thn (ho' pins s4 σ H4 y z' u w' _ I4 r2 r4 q4) fun d s5 ⟨z2, H5, I5, r5, k2, e2, q5⟩ => ?_))
    subst e2
    cases r5
    refine wpAny_truthy_bool ?_
    cases k2 with
    | false => exact ite_ff ⟨.bl false, H5, I5, rfl, q5⟩
    | true => exact ite_tt (chain_last (thn (hd.run pins s5 σ H5 _ I5 q5) fun w2 s6 ⟨z3, H6, I6, r6, q6⟩ => ho'' pins s6 σ H6 z' z3 w' w2 Q I6 r4 r6 q6))
theorem pt_chain3 {X : Cx} {a b c d : Expr} {op op' op'' : CmpOp} {r r' r'' : R2} {ta tb tc td : TE} {pos : Pos} (ho : OpR X (compareOp op) r) (ho' : OpR X (compareOp op') r') (ho'' : OpR X (compareOp op'') r'') (ha : PE X a ta) (hb : PE X b tb) (hc : PE X c tc) (hd : PE X d td)
    (hm : lastMarks [op, op', op''] [b, c, d] = false := by with_unfolding_all rfl) : PT X (.Compare a [op, op', op''] [b, c, d] pos) (tTest (tChain3 r r' r'' ta tb tc td)) := by
  refine ⟨fun pins s σ H Q I h => ?_⟩
  refine isTrue_chain (thn (ha.run pins s σ H _ I h) fun v s1 ⟨x, H1, I1, r1, q1⟩ => test_link (thn (hb.run pins s1 σ H1 _ I1 q1) fun u s2 ⟨y, H2, I2, r2, q2⟩ =>
    thn (ho pins s2 σ H2 x y v u _ I2 r1 r2 q2) fun d s3 ⟨z, H3, I3, r3, k, e, q3⟩ => ?_)) hm
  subst e
  cases r3
  refine wpAny_truthy_bool ?_
  cases k with
  | false =>
    obtain ⟨k', e', q'⟩ := q3
    cases e'
    exact ite_ff ⟨H3, I3, q'⟩
  | true =>
    refine ite_tt (test_link (thn (hc.run pins s3 σ H3 _ I3 q3) fun w' s4 ⟨z', H4, I4, r4, q4⟩ => thn (ho' pins s4 σ H4 y z' u w' _ I4 r2 r4 q4) fun d s5 ⟨z2, H5, I5, r5, k2, e2, q5⟩ => ?_))
    subst e2
    cases r5
    refine wpAny_truthy_bool ?_
    cases k2 with
    | false =>
      obtain ⟨k', e', q'⟩ := q5
      cases e'
      exact ite_ff ⟨H5, I5, q'⟩
    | true =>
      refine ite_tt (test_last (thn (hd.run pins s5 σ H5 _ I5 q5) fun w2 s6 ⟨z3, H6, I6, r6, q6⟩ => thn (ho'' pins s6 σ H6 z' z3 w' w2 _ I6 r4 r6 q6) fun d' s7 ⟨z4, H7, I7, r7, k3, e3, q7⟩ => ?_))
      subst e3
      cases r7
      exact wpAny_truthy_bool ⟨H7, I7, q7⟩
section
variable {K : PySem.W.Frag} {B H : Hp} {ctx : List Fact} {L L' : List Own} {Q : VK} {σ : L2.St}
theorem i_chain3 {r r' r'' : R2} {ta tb tc td : TE} (h : ta σ H fun x H1 => tb σ H1 fun y H2 => r x y H2 fun z H3 => rBl z H3 fun k H4 =>
  if k = true then tc σ H4 (fun w' H5 => r' y w' H5 fun z' H6 => rBl z' H6 fun k' H7 => if k' = true then td σ H7 fun u H8 => r'' w' u H8 Q else Q (.bl false) H7) else Q (.bl false) H4) : tChain3 r r' r'' ta tb tc td σ H Q := h
theorem w_chain3W {b : Bool} (c : Bool) {tc td : TE} {r' r'' : R2} {y : V} (W : Wd K B ctx L H)
    (h1 : b = true → ∀ P' : VK, (∀ d H', d = c → Wd K B ctx L' H' → P' (.bl d) H') → tc σ H fun w' H5 => r' y w' H5 fun z' H6 => rBl z' H6 fun k' H7 => if k' = true then td σ H7 fun u H8 => r'' w' u H8 P' else P' (.bl false) H7)
    (h2 : b = false → false = c ∧ Wd K B ctx L' H) (h3 : ∀ H', Wd K B ctx L' H' → Q (.bl c) H') :
    if b = true then tc σ H (fun w' H5 => r' y w' H5 fun z' H6 => rBl z' H6 fun k' H7 => if k' = true then td σ H7 (fun u H8 => r'' w' u H8 Q) else Q (.bl false) H7) else Q (.bl false) H :=
  w_andVW (te := fun σ H P => tc σ H fun w' H5 => r' y w' H5 fun z' H6 => rBl z' H6 fun k' H7 => if k' = true then td σ H7 (fun u H8 => r'' w' u H8 P) else P (.bl false) H7) c W h1 h2 h3
end
section
variable {K : PySem.W.Frag} {B H : Hp} {ctx : List Fact} {L : List Own} {α β : Type} [Rp α] [Rp β] {xs : List α} {ys : List β} {a c : Addr} {t t' : Bool} {R : It → Hp → Prop}
theorem w_zpH (W : Wd K B ctx L H) (h : Ls K ctx L t xs (.ref a)) (h' : Ls K ctx L t' ys (.ref c)) (k : R (Itz K a c) H) : rZp K [.ref a, .ref c] H R := by
  obtain ⟨N, F, W⟩ := W
  obtain ⟨a', vs, e, h1, h2⟩ := h B H N F W
  cases e
  obtain ⟨c', ws, e, h3, h4⟩ := h' B H N F W
  cases e
  exact i_zp h1 h3 k
end
end PB

namespace PB
open PySem PySem.Spec PyProof.Rows L2
/-! ### several objects changed by a def -/
/-- an entry that leans on what is new alone -/
def Own.Fr (o : Own) : Prop := ∀ K N F F' h, o.P K N F h → o.P K N F' h
def delL (H : Hp) (As : List Addr) : Hp := fun b => if b ∈ As then none else H b
structure PreM (K : PySem.W.Frag) (N0 H : Hp) (L0 : List Own) : Prop where
  s : Same N0 H
  nd : (L0.map (·.a)).Nodup
  off : ∀ o ∈ L0, N0 o.a = none
  at_ : ∀ o ∈ L0, ∃ h, H o.a = some h ∧ o.P K N0 N0 h
def ResM (K : PySem.W.Frag) (N0 H : Hp) (As : List Addr) (L' : List Own) {α : Type} [Rp α] (r : α) (v : V) (H' : Hp) : Prop :=
  ∃ N', Same N0 N' ∧ But As H H' ∧ Same N' H' ∧ (∀ b u, N' b = some u → H b = none ∨ N0 b = some u) ∧ (∀ a ∈ As, N' a = none) ∧ Rp.rep (lkN N') r v ∧ ∀ o ∈ L', ∃ h, H' o.a = some h ∧ o.P K N' N' h
def setAll (L : List Own) : List (Nat × Own × Own) → List Own
  | [] => L
  | p :: ps => setAll (L.set p.1 p.2.2) ps
def OkS (L : List Own) : List (Nat × Own × Own) → Prop
  | [] => True
  | p :: ps => L[p.1]? = some p.2.1 ∧ p.2.2.a = p.2.1.a ∧ OkS (L.set p.1 p.2.2) ps
def AllFr : List Own → Prop
  | [] => True
  | o :: L => o.Fr ∧ AllFr L
theorem AllFr.all : ∀ {L : List Own}, AllFr L → ∀ o ∈ L, o.Fr
  | [], _ => fun _ h => nomatch h
  | o :: L, ⟨h, g⟩ => fun q hq => by
    rcases List.mem_cons.mp hq with rfl | hq
    · exact h
    · exact g.all q hq
theorem set_mapa {L : List Own} {j : Nat} {o o' : Own} (hj : L[j]? = some o) (e : o'.a = o.a) : (L.set j o').map (·.a) = L.map (·.a) := by
  rw [List.map_set]
  refine List.ext_getElem? fun i => ?_
  rw [List.getElem?_set]
  by_cases hi : j = i
  · subst hi
    have := (List.getElem?_eq_some_iff.mp hj).1
    rw [if_pos rfl, if_pos (by rw [List.length_map]; exact this), List.getElem?_map, hj, e]
    rfl
  · rw [if_neg hi]
theorem setAll_map : ∀ {ps : List (Nat × Own × Own)} {L : List Own}, OkS L ps → (setAll L ps).map (·.a) = L.map (·.a)
  | [], _, _ => rfl
  | p :: ps, L, ⟨h1, h2, h3⟩ => (setAll_map h3).trans (set_mapa h1 h2)
theorem setAll_mem : ∀ {ps : List (Nat × Own × Own)} {L : List Own} {o : Own}, OkS L ps → (L.map (·.a)).Nodup → o ∈ setAll L ps → (o ∈ L ∧ ∀ p ∈ ps, o.a ≠ p.2.1.a) ∨ ∃ p ∈ ps, o = p.2.2
  | [], _, o, _, _, h => .inl ⟨h, fun _ h => nomatch h⟩
  | p :: ps, L, o, ⟨h1, h2, h3⟩, nd, h => by
    rcases setAll_mem h3 (by rw [set_mapa h1 h2]; exact nd) h with ⟨g1, g2⟩ | ⟨q, g1, g2⟩
    · rcases setMem' nd h1 g1 with rfl | ⟨g3, g4⟩
      · exact .inr ⟨p, List.mem_cons_self, rfl⟩
      · refine .inl ⟨g3, fun q hq => ?_⟩
        rcases List.mem_cons.mp hq with rfl | hq
        · exact g4
        · exact g2 q hq
    · exact .inr ⟨q, List.mem_cons_of_mem _ g1, g2⟩
theorem okS_addr : ∀ {ps : List (Nat × Own × Own)} {L : List Own}, OkS L ps → ∀ p ∈ ps, (∃ o ∈ L, o.a = p.2.1.a) ∧ p.2.2.a = p.2.1.a
  | p :: ps, L, ⟨h1, h2, h3⟩, q, hq => by
    rcases List.mem_cons.mp hq with rfl | hq
    · exact ⟨⟨_, List.mem_of_getElem? h1, rfl⟩, h2⟩
    · obtain ⟨⟨o, o1, o2⟩, e⟩ := okS_addr h3 q hq
      refine ⟨?_, e⟩
      have : o.a ∈ (L.set p.1 p.2.2).map (·.a) := List.mem_map.mpr ⟨o, o1, rfl⟩
      rw [set_mapa h1 h2] at this
      obtain ⟨o', g1, g2⟩ := List.mem_map.mp this
      exact ⟨o', g1, g2.trans o2⟩
section
variable {K : PySem.W.Frag} {B H H' N F N0 : Hp} {ctx : List Fact} {L L0 L' : List Own} {α : Type} [Rp α] {x : α} {v : V}
theorem Wd.startM (p : PreM K N0 H L0) (fr : AllFr L0) : Wd K (cutH (delL H (L0.map (·.a))) N0) [fN N0 (delL H (L0.map (·.a)))] L0 H := by
  have hin : ∀ o ∈ L0, o.a ∈ L0.map (·.a) := fun o ho => List.mem_map.mpr ⟨o, ho, rfl⟩
  refine ⟨N0, delL H (L0.map (·.a)), fun a u e => ?_, fun a u e => ?_, fun a u e => ?_, fun a u e => ?_, fun f hf => ?_, fun o ho => ?_, fun o ho => by
    unfold delL
    exact if_pos (hin o ho), p.nd⟩
  · unfold cutH at e
    cases q : N0 a with
    | some w => rw [q] at e; cases e
    | none => rw [q] at e; exact e
  · unfold delL
    rw [if_neg]
    · exact p.s a u e
    · intro hm
      obtain ⟨o, ho, rfl⟩ := List.mem_map.mp hm
      rw [p.off o ho] at e
      cases e
  · unfold cutH
    rw [e]
  · unfold delL at e
    split at e
    · cases e
    · exact e
  · rw [List.mem_singleton.mp hf]
    exact ⟨Same.refl _, Same.refl _⟩
  · obtain ⟨h, h1, h2⟩ := p.at_ o ho
    exact ⟨h, h1, fr.all o ho _ _ _ _ _ h2⟩
theorem Wd.resM {As : List Addr} (W : Wd K (cutH (delL H As) N0) ctx L H') (m : Nat) (hm : ctx[m]? = some (fN N0 (delL H As))) (hsub : ∀ o ∈ L', o ∈ L) (ha : L'.map (·.a) = As) (fr : AllFr L') (h : Kn K ctx true x v) : ResM K N0 H As L' x v H' := by
  obtain ⟨N, F, W⟩ := W
  obtain ⟨s1, s2⟩ := W.facts _ (List.mem_of_getElem? hm)
  have hoff : ∀ a ∈ As, F a = none := fun a ha' => by
    rw [← ha] at ha'
    obtain ⟨o, ho, rfl⟩ := List.mem_map.mp ha'
    exact W.off o (hsub o ho)
  have hN : ∀ a ∈ As, N a = none := fun a ha' => W.nF.free (hoff a ha')
  refine ⟨N, s1, fun b u hb e => W.fH b u (s2 b u ?_), W.nF.trans W.fH, fun b u e => ?_, hN, h N F W.nF W.facts, fun o ho => ?_⟩
  · unfold delL
    rw [if_neg hb]
    exact e
  · have hb : b ∉ As := fun z => by
      rw [hN b z] at e
      cases e
    have h1 := W.sep b u e
    unfold cutH at h1
    cases q : N0 b with
    | some w =>
      have := s1 b w q
      rw [e] at this
      exact .inr this.symm
    | none =>
      rw [q] at h1
      have h1 : delL H As b = none := h1
      unfold delL at h1
      rw [if_neg hb] at h1
      exact .inl h1
  · obtain ⟨u, e, q⟩ := W.at_ o (hsub o ho)
    exact ⟨u, e, fr.all o ho _ _ _ _ _ q⟩
theorem WdI.selO (W : WdI K B ctx L H N F) (is : List Nat) (h : selB is L = some L') (n : is.Nodup := by decide) : WdI K B ctx L' H N F := by
  have hm : ∀ o ∈ L', o ∈ L := fun o ho => let ⟨_, _, q⟩ := selB_mem h o ho; List.mem_of_getElem? q
  exact ⟨W.bF, W.nF, W.sep, W.fH, W.facts, fun o ho => W.at_ o (hm o ho), fun o ho => W.off o (hm o ho), selB_nd (m := L) h W.nd n⟩
theorem WdI.preM (W : WdI K B ctx L H N F) (is : List Nat) (h : selB is L = some L0) (fr : AllFr L0) (n : is.Nodup := by decide) : PreM K N H L0 := by
  have W' := W.selO is h n
  exact ⟨W'.nF.trans W'.fH, W'.nd, fun o ho => W'.nF.free (W'.off o ho), fun o ho => let ⟨u, e, q⟩ := W'.at_ o ho; ⟨u, e, fr.all o ho _ _ _ _ _ q⟩⟩
theorem WdI.callM {As : List Addr} (W : WdI K B ctx L H N F) (ps : List (Nat × Own × Own)) (hp : OkS L ps) (hA : As = ps.map fun p => p.2.1.a) (hL' : L' = ps.map fun p => p.2.2) (fr : AllFr L') (r : ResM K N H As L' x v H') : Wd K B (fc true x v :: ctx) (setAll L ps) H' := by
  obtain ⟨N', s1, s2, s3, s4, hNa, hr, hv⟩ := r
  have hadr := okS_addr hp
  have hoff : ∀ a ∈ As, F a = none := fun a ha => by
    rw [hA] at ha
    obtain ⟨p, hp1, rfl⟩ := List.mem_map.mp ha
    obtain ⟨⟨o, o1, o2⟩, _⟩ := hadr p hp1
    rw [← o2]
    exact W.off o o1
  have hF : ∀ b u, N' b = some u → F b = none ∨ F b = some u := fun b u e => by
    rcases s4 b u e with h | h
    · exact .inl (W.fH.free h)
    · exact .inr (W.nF b u h)
  have sN' : Same N' (join F N') := fun b u e => by
    unfold join
    rcases hF b u e with h | h
    · rw [h]
      exact e
    · rw [h]
  have sF : Same F (join F N') := join_l
  have offJ : ∀ o ∈ L, join F N' o.a = none ∨ o.a ∈ As := fun o ho => by
    obtain ⟨u, e, q⟩ := W.at_ o ho
    have ho2 := W.off o ho
    by_cases hm : o.a ∈ As
    · exact .inr hm
    · refine .inl ?_
      unfold join
      rw [ho2]
      show N' o.a = none
      cases q2 : N' o.a with
      | none => rfl
      | some w =>
        rcases s4 _ _ q2 with h | h
        · rw [e] at h
          cases h
        · have := W.nF _ _ h
          rw [ho2] at this
          cases this
  have offA : ∀ a ∈ As, join F N' a = none := fun a ha => by
    unfold join
    rw [hoff a ha]
    exact hNa a ha
  refine ⟨N', join F N', W.bF.trans sF, sN', fun b u e => ?_, fun b u e => ?_, fun f hf => ?_, fun o ho => ?_, fun o ho => ?_, by rw [setAll_map hp]; exact W.nd⟩
  · rcases s4 b u e with h | h
    · exact W.bF.free (W.fH.free h)
    · exact W.sep b u h
  · rcases join_or e with e | e
    · refine s2 b u (fun hm => ?_) (W.fH b u e)
      rw [hoff b hm] at e
      cases e
    · exact s3 b u e
  · rcases List.mem_cons.mp hf with rfl | hf
    · exact hr
    · exact f.mono s1 sF (W.facts f hf)
  · rcases setAll_mem hp W.nd ho with ⟨h1, h2⟩ | ⟨p, h1, rfl⟩
    · obtain ⟨u, e, q⟩ := W.at_ o h1
      refine ⟨u, s2 _ _ (fun hm => ?_) e, o.mono s1 sF q⟩
      rw [hA] at hm
      obtain ⟨p, g1, g2⟩ := List.mem_map.mp hm
      exact h2 p g1 g2.symm
    · have hm : p.2.2 ∈ L' := by rw [hL']; exact List.mem_map.mpr ⟨p, h1, rfl⟩
      obtain ⟨u, e, q⟩ := hv _ hm
      exact ⟨u, e, fr.all _ hm _ _ _ _ _ q⟩
  · rcases setAll_mem hp W.nd ho with ⟨h1, h2⟩ | ⟨p, h1, rfl⟩
    · rcases offJ o h1 with h | h
      · exact h
      · exact offA _ h
    · refine offA _ ?_
      rw [hA, (hadr p h1).2]
      exact List.mem_map.mpr ⟨p, h1, rfl⟩
theorem oL_fr {a : Addr} {xs : List α} : (oL true a xs).Fr := fun _ _ _ _ _ h => h
end
/-! ### the class Live: its instances, its methods -/
abbrev LvA (K : PySem.W.Frag) : Addr := He.ga K "Live"
structure Lv (K : PySem.W.Frag) : Prop where
  cls : Cls K (LvA K)
  n1 : NoAttr K (LvA K) "numbers"
  n2 : NoAttr K (LvA K) "rows_ahead"
/-- a method by its name -/
structure MFn (P : Program) (w : World) (K : PySem.W.Frag) (mg : Str → Option Value) (base : Heap) (k : Nat) (m : Str) (ps : List Str) (sp : Sp) : Prop where
  ex : ∃ (f : Addr) (fd : FuncData), Meth K (LvA K) m f ∧ Binds K fd ps [] ∧ FnG P w K mg base k f fd ps sp
theorem mkMFn {P : Program} {w : World} {K : PySem.W.Frag} {mg : Str → Option Value} {base : Heap} {x qual m : Str} {params : Arguments} {body : List Stmt} {scope : Scope}
    {f : Addr} {fd : FuncData} {ps : List Str} {k : Nat} {sp : Sp} (F : FunD K x qual params body scope [] [] f fd) (hm : Meth K (LvA K) m f)
    (hb : ∀ (kV doc pm : Value) (an : Option Addr) (cdv ct : Value) (us : List Value), us.length = ps.length →
      bindArgs (PySem.W.fnOf x qual params body scope .none kV doc pm an cdv ct) ⟨us, []⟩ = pure (ps.zip us))
    (G : FnG P w K mg base k f fd ps sp) : MFn P w K mg base k m ps sp := ⟨f, fd, hm, F.bindsN hb, G⟩
theorem okO {P : Program} {w : World} {K : PySem.W.Frag} {mg : Str → Option Value} {base : Heap} {x qual : Str} {params : Arguments} {body : List Stmt} {scope : Scope} {dvs : List V} {kws : List (Str × V)} {f : Addr} {fd : FuncData} {N ps : List Str} {k : Nat} {sp : Sp}
    (F : FunD K x qual params body scope dvs kws f fd) (S : FnScope N ps scope) (len : ∀ vs H Q E, sp vs H Q E → vs.length = ps.length)
    (hb : ∀ (cdv : Value) (A : Around) (outer : List Env) (s : Shared) (H : Hp) (vs : List V) (Q : VK) (E : XK), Room k (A.deeper (envOfC qual scope s.heap.objs.size f cdv)) → sp vs H Q E →
      ∃ t, PSs (cxOf (L2.CX P w) P w K mg base N qual scope f cdv A outer s H E) body t ∧ t { nx := fun _ H' => Q .non H', rt := Q } (start N vs) H) : FnOk P w K mg base (L2.CX P w) (k + 1) f fd ps sp := by
  obtain ⟨oc, od, dV, kV, doc, pm, an, cd, ct, osl, rfl, lk, hcd, _, _⟩ := F.ex
  exact fn_of lk hcd S len fun A outer s H vs Q E hr h => hb cd A outer s H vs Q E hr h
def tM (C : Addr) (m : Str) (sp : Sp) (E : XK) (ta : TE) (t : TA) : TE := fun σ H Q => ta σ H fun x H1 => ∃ a dx fs, x = .ref a ∧ H1 a = some (.ins C dx fs) ∧ fs.lookup m = none ∧ t σ H1 fun vs H2 => sp (x :: vs) H2 Q E
section
variable {X : Cx} {k : Nat} {ps : List Str} {sp : Sp} {E : XK} {m : Str} {pos apos : Pos} {e o : Expr} {es : List Expr} {ta : TE} {t : TA}
theorem pe_mG {pl : Sem Bool} (G : MFn X.prog X.w X.K X.mg X.base k m ps sp) (c : Cls X.K (LvA X.K)) (hr : Room k X.A) (hgd : X.A.guards = some []) (hx : Passes (L2.CX X.prog X.w) X E) (he : PE X o ta) (ha : PA X (e :: es) t)
    (hst : starEach (e :: es) X.env = (false, eval e X.env) :: starEach es X.env := by rfl) (hpl : (backTo pos (starEach es X.env)).any (·.1) = false := by rfl)
    (ht : eval (.Call (.Attribute o m apos) (e :: es) [] pos) X.env = (do
      let ov ← eval o X.env
      standAt apos.atName
      let (f, first) ← holding [ov] (getMethod ov m pl)
      callWith pos f first (backTo pos (starEach (e :: es) X.env)) (backToKw pos (keywordEach [] X.env))) := by rfl) :
    PE X (.Call (.Attribute o m apos) (e :: es) [] pos) (tM (LvA X.K) m sp E ta t) := by
  obtain ⟨f, fd, hm, hb, F⟩ := G.ex
  refine ⟨fun pins s σ H Q I h => ?_⟩
  refine PySem.W.methodCall_KW (pl := pl) (thn (he.run pins s σ H _ I h) fun u s1 ⟨x, H1, I1, rx, a, dx, fs, ex, ea, l, q⟩ => ?_) ht
  subst ex
  obtain rfl : u = Value.ref a := rx
  refine getmeth_ok I1 ea c hm l ?_
  refine PySem.W.callWith_K (first := [.ref a]) (h₀ := X.base) I.ok.mod.kin hm.kp (thn (ha.run pos pins s1 σ H1 _ I1 q) fun us s2 ⟨vs, H2, I2, r, q2⟩ => ⟨I2.kIn, ?_⟩) hst hpl
  exact run_fnG (us := .ref a :: us) (vs := .ref a :: vs) F hr hgd hb hx I2 (.cons rfl r) q2
theorem pe_mG0 {pl : Sem Bool} (G : MFn X.prog X.w X.K X.mg X.base k m ps sp) (c : Cls X.K (LvA X.K)) (hr : Room k X.A) (hgd : X.A.guards = some []) (hx : Passes (L2.CX X.prog X.w) X E) (he : PE X o ta)
    (ht : eval (.Call (.Attribute o m apos) [] [] pos) X.env = (do
      let ov ← eval o X.env
      standAt apos.atName
      let (f, first) ← holding [ov] (getMethod ov m pl)
      callWith pos f first (backTo pos (starEach [] X.env)) (backToKw pos (keywordEach [] X.env))) := by rfl) :
    PE X (.Call (.Attribute o m apos) [] [] pos) (tM (LvA X.K) m sp E ta tNil) := by
  obtain ⟨f, fd, hm, hb, F⟩ := G.ex
  refine ⟨fun pins s σ H Q I h => ?_⟩
  refine PySem.W.methodCall_KW (pl := pl) (thn (he.run pins s σ H _ I h) fun u s1 ⟨x, H1, I1, rx, a, dx, fs, ex, ea, l, q⟩ => ?_) ht
  subst ex
  obtain rfl : u = Value.ref a := rx
  refine getmeth_ok I1 ea c hm l ?_
  exact PySem.W.callWith_K0 (first := [.ref a]) I1.kIn hm.kp (run_fnG (us := [.ref a]) (vs := [.ref a]) F hr hgd hb hx I1 (.cons rfl .nil) q)
end
/-- an instance: its numbers, new and never changed; the list of the rows ahead -/
def oI (a b : Addr) (xs : List Int) : Own := ⟨a, fun K N _ o => ∃ dx u, o = .ins (LvA K) dx [("numbers", u), ("rows_ahead", .ref b)] ∧ Rp.rep (lkN N) xs u, fun h1 _ ⟨dx, u, e, h⟩ => ⟨dx, u, e, Rp.mono (lkN_mono h1) h⟩⟩
/-- a list of a list never changed and one of one's own -/
def oP (a b : Addr) (xs : List Int) : Own := ⟨a, fun _ N _ o => ∃ u, o = .lst [u, .ref b] ∧ Rp.rep (lkN N) xs u, fun h1 _ ⟨u, e, h⟩ => ⟨u, e, Rp.mono (lkN_mono h1) h⟩⟩
theorem oI_fr {a b : Addr} {xs : List Int} : (oI a b xs).Fr := fun _ _ _ _ _ h => h
theorem oP_fr {a b : Addr} {xs : List Int} : (oP a b xs).Fr := fun _ _ _ _ _ h => h
def rFld (K : PySem.W.Frag) (f : Str) (x : V) (H : Hp) (Q : VK) : Prop := ∃ a C dx fs v, x = .ref a ∧ H a = some (.ins C dx fs) ∧ Cls K C ∧ NoAttr K C f ∧ fs.lookup f = some v ∧ Q v H
def rSFld (K : PySem.W.Frag) (f : Str) (y x : V) (H : Hp) (R : Hp → Prop) : Prop := ∃ a C dx fs, x = .ref a ∧ H a = some (.ins C dx fs) ∧ Cls K C ∧ NoAttr K C f ∧ fs.length < 1000 ∧ R (upd H a (.ins C dx (putF f y fs)))
def rIns (K : PySem.W.Frag) (m : Str) (x : V) (H : Hp) (R : Prop) : Prop := ∃ a dx fs, x = .ref a ∧ H a = some (.ins (LvA K) dx fs) ∧ fs.lookup m = none ∧ R
section
variable {K : PySem.W.Frag} {B H H' N F : Hp} {ctx : List Fact} {L : List Own} {xs ys : List Int} {a b : Addr} {v : V} {Q : VK} {σ : L2.St}
theorem i_fld {ta : TE} {f : Str} (h : ta σ H fun x H1 => rFld K f x H1 Q) : tFld K ta f σ H Q := h
theorem i_sfld {ta tv : TE} {f : Str} {nx bk ct : L2.St → Hp → Prop} {rt : VK} (h : tv σ H fun y H1 => ta σ H1 fun x H2 => rSFld K f y x H2 fun H3 => nx σ H3) : sFld K ta tv f { nx := nx, rt := rt, bk := bk, ct := ct } σ H := h
theorem i_tM {m : Str} {sp : Sp} {E : XK} {ta : TE} {t : TA} (h : ta σ H fun x H1 => rIns K m x H1 (t σ H1 fun vs H2 => sp (x :: vs) H2 Q E)) : tM (LvA K) m sp E ta t σ H Q := h
theorem w_fldN (Z : Lv K) (W : Wd K B ctx L H) (j : Nat) (hj : L[j]? = some (oI a b xs)) (k : ∀ u, Wd K B (fc true xs u :: ctx) L H → Q u H) : rFld K "numbers" (.ref a) H Q := by
  obtain ⟨N, F, W⟩ := W
  obtain ⟨o, h1, dx, u, rfl, r⟩ := W.at_ _ (List.mem_of_getElem? hj)
  refine ⟨a, _, dx, _, u, rfl, h1, Z.cls, Z.n1, rfl, k u ?_⟩
  refine ⟨N, F, W.bF, W.nF, W.sep, W.fH, fun f hf => ?_, W.at_, W.off, W.nd⟩
  rcases List.mem_cons.mp hf with rfl | hf
  · exact r
  · exact W.facts f hf
theorem w_fldP (Z : Lv K) (W : Wd K B ctx L H) (j : Nat) (hj : L[j]? = some (oI a b xs)) (k : Q (.ref b) H) : rFld K "rows_ahead" (.ref a) H Q := by
  obtain ⟨N, F, W⟩ := W
  obtain ⟨o, h1, dx, u, rfl, r⟩ := W.at_ _ (List.mem_of_getElem? hj)
  exact ⟨a, _, dx, _, .ref b, rfl, h1, Z.cls, Z.n2, rfl, k⟩
theorem w_sfldN {R : Hp → Prop} (Z : Lv K) (W : Wd K B ctx L H) (j : Nat) (hj : L[j]? = some (oI a b xs)) (h : Kn K ctx true ys v) (k : ∀ H', Wd K B ctx (L.set j (oI a b ys)) H' → R H') : rSFld K "numbers" v (.ref a) H R := by
  obtain ⟨N, F, W⟩ := W
  obtain ⟨o, h1, dx, u, rfl, r⟩ := W.at_ _ (List.mem_of_getElem? hj)
  exact ⟨a, _, dx, _, rfl, h1, Z.cls, Z.n1, by simp, k _ (Wd.put (o' := oI a b ys) W j hj rfl _ ⟨dx, v, rfl, h N F W.nF W.facts⟩)⟩
theorem w_ins {m : Str} {R : Prop} (W : Wd K B ctx L H) (j : Nat) (hj : L[j]? = some (oI a b xs)) (k : R) (h1 : (m == ("numbers" : Str)) = false := by decide) (h2 : (m == ("rows_ahead" : Str)) = false := by decide) : rIns K m (.ref a) H R := by
  obtain ⟨N, F, W⟩ := W
  obtain ⟨o, e, dx, u, rfl, r⟩ := W.at_ _ (List.mem_of_getElem? hj)
  exact ⟨a, dx, _, rfl, e, by simp only [List.lookup, h1, h2], k⟩
/-! a list of two -/
theorem w_newP (W : Wd K B ctx L H) (h : Kn K ctx true xs v) (k : ∀ p H', Wd K B ctx (oP p b xs :: L) H' → Q (.ref p) H') : rLst [v, .ref b] H Q := by
  obtain ⟨N, F, W⟩ := W
  exact ⟨by simp [sizeLine_eq], fun p hp => k p _ (Wd.newO (o := oP p b xs) W hp _ rfl ⟨v, rfl, h N F W.nF W.facts⟩)⟩
theorem w_ixP0 (W : Wd K B ctx L H) (j : Nat) (hj : L[j]? = some (oP a b xs)) (k : ∀ u, Wd K B (fc true xs u :: ctx) L H → Q u H) : rIx K (.ref a) (.int 0) H Q := by
  obtain ⟨N, F, W⟩ := W
  obtain ⟨o, h1, u, rfl, r⟩ := W.at_ _ (List.mem_of_getElem? hj)
  refine i_ixL (SqL.of h1) (v := u) rfl (k u ?_)
  refine ⟨N, F, W.bF, W.nF, W.sep, W.fH, fun f hf => ?_, W.at_, W.off, W.nd⟩
  rcases List.mem_cons.mp hf with rfl | hf
  · exact r
  · exact W.facts f hf
theorem w_ixP1 (W : Wd K B ctx L H) (j : Nat) (hj : L[j]? = some (oP a b xs)) (k : Q (.ref b) H) : rIx K (.ref a) (.int 1) H Q := by
  obtain ⟨N, F, W⟩ := W
  obtain ⟨o, h1, u, rfl, r⟩ := W.at_ _ (List.mem_of_getElem? hj)
  exact i_ixL (SqL.of h1) (v := .ref b) rfl k
theorem w_setP0 {R : Hp → Prop} (W : Wd K B ctx L H) (j : Nat) (hj : L[j]? = some (oP a b xs)) (h : Kn K ctx true ys v) (k : ∀ H', Wd K B ctx (L.set j (oP a b ys)) H' → R H') : L2.rSetL (.ref a) (.int 0) v H R := by
  obtain ⟨N, F, W⟩ := W
  obtain ⟨o, h1, u, rfl, r⟩ := W.at_ _ (List.mem_of_getElem? hj)
  exact ⟨a, _, 0, 0, rfl, rfl, h1, rfl, k _ (Wd.put (o' := oP a b ys) W j hj rfl _ ⟨v, rfl, h N F W.nF W.facts⟩)⟩
theorem w_unpP0 {g : TGs} {R : L2.St → Hp → Prop} (W : Wd K B ctx L H) (j : Nat) (hj : L[j]? = some (oP a b xs)) (k : ∀ u, Wd K B (fc true xs u :: ctx) L H → g [u, .ref b] σ H R) : rUnpL K 2 g (.ref a) σ H R := by
  obtain ⟨N, F, W⟩ := W
  obtain ⟨o, h1, u, rfl, r⟩ := W.at_ _ (List.mem_of_getElem? hj)
  refine i_unpL (SqL.of h1) rfl (k u ?_)
  refine ⟨N, F, W.bF, W.nF, W.sep, W.fH, fun f hf => ?_, W.at_, W.off, W.nd⟩
  rcases List.mem_cons.mp hf with rfl | hf
  · exact r
  · exact W.facts f hf
end
/-! Live(xs) -/
def spInit (K : PySem.W.Frag) : Sp := fun vs H Q _ => ∃ (a dx p0 : Addr) (xs : List Int), vs = [.ref a, .ref p0] ∧ SqL K H p0 (xs.map V.int) ∧ H a = some (.ins (LvA K) dx []) ∧ ∀ p b, H p = none → H b = none → p ≠ b →
  Q .non (upd (upd (upd (upd H p (.lst (xs.map V.int))) a (.ins (LvA K) dx [("numbers", .ref p)])) b (.lst [])) a (.ins (LvA K) dx [("numbers", .ref p), ("rows_ahead", .ref b)]))
/-- the class by its name -/
structure CFn (P : Program) (w : World) (K : PySem.W.Frag) (mg : Str → Option Value) (base : Heap) (k : Nat) (ps : List Str) (sp : Sp) : Prop where
  ex : ∃ (f : Addr) (fd : FuncData), mg "Live" = some (.ref (LvA K)) ∧ Mk K (LvA K) f ∧ Binds K fd ps [] ∧ FnOk P w K mg base (L2.CX P w) k f fd ps sp
theorem mkCFn {P : Program} {w : World} {K : PySem.W.Frag} {mg : Str → Option Value} {base : Heap} {x qual : Str} {params : Arguments} {body : List Stmt} {scope : Scope}
    {f : Addr} {fd : FuncData} {ps : List Str} {k : Nat} {sp : Sp} (F : FunD K x qual params body scope [] [] f fd) (hg : mg "Live" = some (.ref (LvA K))) (M : Mk K (LvA K) f)
    (hb : ∀ (kV doc pm : Value) (an : Option Addr) (cdv ct : Value) (us : List Value), us.length = ps.length →
      bindArgs (PySem.W.fnOf x qual params body scope .none kV doc pm an cdv ct) ⟨us, []⟩ = pure (ps.zip us))
    (G : FnOk P w K mg base (L2.CX P w) k f fd ps sp) : CFn P w K mg base k ps sp := ⟨f, fd, hg, M, F.bindsN hb, G⟩
section
variable {X : Cx} {k : Nat} {ps : List Str} {sp : Sp} {E : XK} {p pos : Pos} {e : Expr} {es : List Expr} {t : TA}
theorem pe_mkG (G : CFn X.prog X.w X.K X.mg X.base k ps sp) (hr : Room (k + 1) X.A) (hg : Gl X "Live") (hx : Passes (L2.CX X.prog X.w) X E) (ha : PA X (e :: es) t)
    (he : starEach (e :: es) X.env = (false, eval e X.env) :: starEach es X.env := by rfl) (hpl : (backTo pos (starEach es X.env)).any (·.1) = false := by rfl) :
    PE X (.Call (.Name "Live" p) (e :: es) [] pos) (tMake (LvA X.K) sp [] E t) := by
  obtain ⟨f, fd, hm, M, hb, F⟩ := G.ex
  exact pe_make M F hr hg hm hb .nil hx ha (by decide) he hpl
end
section
variable {K : PySem.W.Frag} {B H H' N F : Hp} {ctx : List Fact} {L : List Own} {xs ys : List Int} {a b : Addr} {v : V} {Q : VK} {σ : L2.St}
theorem i_make {C : Addr} {sp : Sp} {E : XK} {tx : TA} (h : tx σ H fun vs H1 => ∀ x dx, H1 x = none → H1 dx = none → dx ≠ x → sp (.ref x :: vs) (upd (upd H1 dx (.own x)) x (.ins C dx [])) (fun v H2 => v = .non ∧ Q (.ref x) H2) E) : tMake C sp [] E tx σ H Q := by
  have e : (fun (vs : List V) (H1 : Hp) => ∀ x dx, H1 x = none → H1 dx = none → dx ≠ x → sp (.ref x :: (vs ++ [])) (upd (upd H1 dx (.own x)) x (.ins C dx [])) (fun v H2 => v = .non ∧ Q (.ref x) H2) E) = fun vs H1 => ∀ x dx, H1 x = none → H1 dx = none → dx ≠ x → sp (.ref x :: vs) (upd (upd H1 dx (.own x)) x (.ins C dx [])) (fun v H2 => v = .non ∧ Q (.ref x) H2) E := by
    funext vs H1
    rw [List.append_nil]
  unfold tMake
  rw [e]
  exact h
theorem same_upd {o : HO} (hp : H a = none) : Same H (upd H a o) := fun c u e => by
  rw [upd_ne (fun z => by rw [z, hp] at e; cases e)]
  exact e
theorem w_make {t : Bool} {E : XK} {Q : Addr → Hp → Prop} (W : Wd K B ctx L H) (h : Ls K ctx L t xs v) (k : ∀ x b H', Wd K B ctx (oI x b xs :: oL true b ([] : List (List Int)) :: L) H' → Q x H') :
    ∀ x dx, H x = none → H dx = none → dx ≠ x → spInit K [.ref x, v] (upd (upd H dx (.own x)) x (.ins (LvA K) dx [])) (fun v H2 => v = .non ∧ Q x H2) E := by
  intro x dx hx hdx hne
  obtain ⟨N, F, W⟩ := W
  obtain ⟨p0, vs, rfl, h1, h2⟩ := h B H N F W
  rw [all2_int h2] at h1
  have hx2 : upd H dx (.own x) x = none := by rw [upd_ne (Ne.symm hne)]; exact hx
  have s1 : Same H (upd (upd H dx (.own x)) x (.ins (LvA K) dx [])) := (same_upd hdx).trans (same_upd hx2)
  refine ⟨x, dx, p0, xs, rfl, s1.seq h1, upd_same, fun p b hp hb hpb => ⟨rfl, k x b _ ?_⟩⟩
  have hpx : p ≠ x := fun z => by rw [z, upd_same] at hp; cases hp
  have hbx : b ≠ x := fun z => by rw [z, upd_same] at hb; cases hb
  have hp0 : H p = none := s1.free hp
  have hb0 : H b = none := s1.free hb
  have W1 := (Wd.newL W hp0 (all2_ofInt xs) (t := true)).frz
  obtain ⟨N1, F1, W1⟩ := W1
  have W2 := Wd.newL (xs := ([] : List (List Int))) (t := true) W1 (show upd H p (.lst (xs.map V.int)) b = none by rw [upd_ne (Ne.symm hpb)]; exact hb0) (vs := []) trivial
  obtain ⟨N2, F2, W2⟩ := W2
  have hr := W2.facts _ List.mem_cons_self
  have W3 := Wd.newO (o := oI x b xs) W2 (show upd (upd H p (.lst (xs.map V.int))) b (.lst []) x = none by rw [upd_ne (Ne.symm hbx), upd_ne (Ne.symm hpx)]; exact hx) (.ins (LvA K) dx [("numbers", .ref p), ("rows_ahead", .ref b)]) rfl ⟨dx, .ref p, rfl, hr⟩
  refine (W3.drop 1 rfl).same fun c u e => ?_
  by_cases c1 : c = x
  · rw [c1, upd_same] at e
    rw [c1, upd_same]
    exact e
  · rw [upd_ne c1] at e ⊢
    by_cases c2 : c = b
    · rw [c2, upd_same] at e
      rw [c2, upd_same]
      exact e
    · rw [upd_ne c2] at e ⊢
      rw [upd_ne c1]
      by_cases c3 : c = p
      · rw [c3, upd_same] at e
        rw [c3, upd_same]
        exact e
      · rw [upd_ne c3] at e ⊢
        exact s1 c u e
end
/-! xs.pop() -/
def popE {α : Type} (xs : List α) : Option (α × List α) := (xs[xs.length - 1]?).map fun x => (x, xs.dropLast)
theorem All2.dropL {α : Type} {R : α → V → Prop} : ∀ {xs : List α} {vs : List V}, All2 R xs vs → All2 R xs.dropLast vs.dropLast
  | [], [], _ => trivial
  | [_], [_], _ => trivial
  | x :: y :: xs, v :: w :: vs, h => ⟨h.1, All2.dropL h.2⟩
  | [_], _ :: _ :: _, h => h.2.elim
  | _ :: _ :: _, [_], h => h.2.elim
  | [], _ :: _, h => h.elim
  | _ :: _, [], h => h.elim
theorem pe_bm0K {X : Cx} {K : PySem.W.Frag} {name : Str} {T id : String} {o : Expr} {to : TE} {r : V → List V → Hp → VK → Prop} {apos cpos : Pos} (pa : PlainAttrs T) (slot : Slot T name id) (hty : typeOf (.builtin id) = pure (.type "method_descriptor")) (hm : MtR X id r) (ho : PE X o to) (hK : X.K = K := by rfl)
    (hbase : attributeBase o name X.env (eval o X.env) = eval o X.env := by rfl) (hline : (apos.endLine == cpos.line) = true := by rfl) : PE X (.Call (.Attribute o name apos) [] [] cpos) (tBM0 K T r to) := by
  subst hK
  exact pe_bm0 pa slot hty hm ho hbase hline
def rMt0 (K : PySem.W.Frag) (T : String) (r : V → List V → Hp → VK → Prop) (x : V) (H : Hp) (Q : VK) : Prop := tyV K T x H ∧ r x [] H Q
section
variable {K : PySem.W.Frag} {B H H' N F : Hp} {ctx : List Fact} {L : List Own} {α : Type} [Rp α] {xs : List α} {a b : Addr} {t : Bool} {v : V} {Q : VK} {σ : L2.St}
theorem i_bm0 {T : String} {r : V → List V → Hp → VK → Prop} {to : TE} (h : to σ H fun x H1 => rMt0 K T r x H1 Q) : tBM0 K T r to σ H Q := h
theorem w_mt0 {r : V → List V → Hp → VK → Prop} (W : Wd K B ctx L H) (h : Ls K ctx L t xs v) (k : r v [] H Q) : rMt0 K "list" r v H Q := by
  obtain ⟨N, F, W⟩ := W
  obtain ⟨a, vs, rfl, h1, h2⟩ := h B H N F W
  exact ⟨.inl ⟨rfl, vs, h1⟩, k⟩
theorem w_popE {r : α × List α} (W : Wd K B ctx L H) (j : Nat) (hj : L[j]? = some (oL t a xs)) (e : popE xs = some r) (k : ∀ u H', Wd K B (fc t r.1 u :: ctx) (L.set j (oL t a r.2)) H' → Q u H') : rPop (.ref a) [] H Q := by
  obtain ⟨N, F, W⟩ := W
  obtain ⟨o, h1, vs, rfl, h2⟩ := W.at_ _ (List.mem_of_getElem? hj)
  unfold popE at e
  cases q : xs[xs.length - 1]? with
  | none => rw [q] at e; cases e
  | some x =>
    rw [q] at e
    cases e
    obtain ⟨u, hu, hr⟩ := h2.get q
    have W1 : Wd K B (fc t x u :: ctx) L H := by
      refine ⟨N, F, W.bF, W.nF, W.sep, W.fH, fun f hf => ?_, W.at_, W.off, W.nd⟩
      rcases List.mem_cons.mp hf with rfl | hf
      · exact hr
      · exact W.facts f hf
    obtain ⟨N1, F1, W1⟩ := W1
    obtain ⟨o2, g1, vs2, rfl, g2⟩ := W1.at_ _ (List.mem_of_getElem? hj)
    rw [h1] at g1
    cases g1
    exact ⟨a, vs, u, rfl, rfl, h1, by rw [h2.len]; exact hu, k u _ (Wd.put (o' := oL t a xs.dropLast) W1 j hj rfl _ ⟨_, rfl, g2.dropL⟩)⟩
theorem okS_nil : OkS L [] := trivial
theorem okS_cons {p : Nat × Own × Own} {ps : List (Nat × Own × Own)} (h1 : L[p.1]? = some p.2.1) (h2 : p.2.2.a = p.2.1.a) (h3 : OkS (L.set p.1 p.2.2) ps) : OkS L (p :: ps) := ⟨h1, h2, h3⟩
theorem allFr_nil : AllFr [] := trivial
theorem allFr_cons {o : Own} (h : o.Fr) (g : AllFr L) : AllFr (o :: L) := ⟨h, g⟩
theorem selB_sub {l m : List Own} {is : List Nat} (h : selB is l = some m) : ∀ o ∈ m, o ∈ l := fun o ho => let ⟨_, _, q⟩ := selB_mem h o ho; List.mem_of_getElem? q
end
end PB

namespace PB
open PySem PySem.Spec PyProof.Rows L2
/-! ### texts -/
instance : Flat PySem.Str := ⟨fun _ _ _ _ h => h⟩
instance : Flat Unit := ⟨fun _ _ _ _ h => h⟩
instance {α : Type} [Rp α] [Flat α] : Flat (Option α) := ⟨fun S T x v h => by
  cases x with
  | none => exact h
  | some y => exact Flat.h (β := α) S T y v h⟩
def joinO (a : PySem.Str) (ys : List PySem.Str) : Option PySem.Str := if (ys.map (·.length)).sum + ys.length * a.length ≤ 16777216 then some (Txt.join a ys) else none
def splitO (a b : PySem.Str) : Option (List PySem.Str) := if (b.length == 0) = false ∧ a.length + 2 ≤ sizeLine then some (Txt.split a b) else none
def partO (a b : PySem.Str) : Option (T3 PySem.Str PySem.Str PySem.Str) := if (b.length == 0) = false ∧ a.length ≤ sizeLine then some ⟨(Txt.partition a b).1, (Txt.partition a b).2.1, (Txt.partition a b).2.2⟩ else none
def intSO (a : PySem.Str) : Option Int := if a.length ≤ 640 then PySem.intText? a else none
def strO (i : Int) : Option PySem.Str := if i.natAbs.log2 < 1920 then some (PySem.Str.ofString (toString i)) else none
def charsT (z : PySem.Str) : List PySem.Str := z.cps.toList.map fun c => ⟨#[c]⟩
def atS (z : PySem.Str) (i : Int) : Option PySem.Str := if z.length ≤ sizeLine then (atI z.cps.toList i).map fun c => ⟨#[c]⟩ else none
def inSO (x z : PySem.Str) : Option Bool := match x.cps.toList with
  | [c] => some (decide (c ∈ z.cps.toList))
  | _ => none
def catS (a b : PySem.Str) : Option PySem.Str := if a.length + b.length ≤ sizeLine then some (a ++ b) else none
def sliceS (z : PySem.Str) (lo hi : Option Int) : Option PySem.Str := if z.length ≤ sizeLine then some (cutS z lo hi) else none
def lenSO (z : PySem.Str) : Option Int := if z.length ≤ sizeLine then some z.length else none
theorem all2_str {S : Lk} : ∀ {xs : List PySem.Str} {vs : List V}, All2 (Rp.rep S) xs vs → vs = xs.map V.str
  | [], [], _ => rfl
  | x :: xs, v :: vs, h => by
    have e : v = .str x := h.1
    rw [List.map_cons, e, all2_str h.2]
  | [], _ :: _, h => h.elim
  | _ :: _, [], h => h.elim
theorem all2_ofStr {S : Lk} : ∀ (xs : List PySem.Str), All2 (Rp.rep S) xs (xs.map V.str)
  | [] => trivial
  | _ :: xs => ⟨rfl, all2_ofStr xs⟩
def rLenTx : List V → Hp → VK → Prop := fun xs H Q => ∃ z, xs = [.str z] ∧ z.length ≤ sizeLine ∧ Q (.int z.length) H
theorem cl_lenS {X : Cx} : CallR X (.builtin "len") rLenTx := fun pins s σ H xs us Q I r ⟨z, e, hz, q⟩ => call_len pins s σ H xs us Q I r ⟨.str z, z.length, e, ⟨hz, rfl⟩, q⟩
def rTxt (x : V) (R : Prop) : Prop := (∃ a, x = .str a) ∧ R
theorem w_txt {a : PySem.Str} {R : Prop} (k : R) : rTxt (.str a) R := ⟨⟨a, rfl⟩, k⟩
theorem str_one {x : PySem.Str} {c : Nat} (h : x.cps.toList = [c]) : x = ⟨#[c]⟩ := by
  obtain ⟨cps⟩ := x
  have e : cps = #[c] := Array.toList_inj.mp h
  rw [e]
section
variable {K : PySem.W.Frag} {B H H' : Hp} {ctx : List Fact} {L : List Own} {t : Bool} {v w u : V} {p : Addr} {Q : VK} {i j : Int} {σ : L2.St} {a b c : PySem.Str}
theorem i_m1 {r : V → List V → Hp → VK → Prop} {to te : TE} (h : to σ H fun x H1 => rTxt x (te σ H1 fun y H2 => r x [y] H2 Q)) : tM1 r to te σ H Q := h
theorem w_split {ys : List PySem.Str} (W : Wd K B ctx L H) (e : splitO a b = some ys) (k : ∀ p H', Wd K B ctx (oL true p ys :: L) H' → Q (.ref p) H') :
    ∃ a' b', V.str a = .str a' ∧ [V.str b] = [.str b'] ∧ (b'.length == 0) = false ∧ a'.length + 2 ≤ sizeLine ∧ rNewStrs (Txt.split a' b') H Q := by
  obtain ⟨N, F, W⟩ := W
  obtain ⟨⟨h1, h2⟩, rfl⟩ := guardE e
  exact ⟨a, b, rfl, rfl, h1, h2, fun p hp => k p _ (Wd.newL W hp (all2_ofStr _))⟩
theorem w_part {y : T3 PySem.Str PySem.Str PySem.Str} (W : Wd K B ctx L H) (e : partO a b = some y) (k : ∀ p H', Wd K B (fc true y (.ref p) :: ctx) L H' → Q (.ref p) H') :
    ∃ a' b', V.str a = .str a' ∧ [V.str b] = [.str b'] ∧ (b'.length == 0) = false ∧ a'.length ≤ sizeLine ∧ ∀ p, H p = none → Q (.ref p) (upd H p (.tup [.str (Txt.partition a' b').1, .str (Txt.partition a' b').2.1, .str (Txt.partition a' b').2.2])) := by
  obtain ⟨N, F, W⟩ := W
  obtain ⟨⟨h1, h2⟩, rfl⟩ := guardE e
  exact ⟨a, b, rfl, rfl, h1, h2, fun p hp => k p _ (Wd.newT W hp true fun N' F' _ _ q => ⟨p, _, _, _, rfl, q, rfl, rfl, rfl⟩)⟩
theorem w_join {ys : List PySem.Str} (W : Wd K B ctx L H) (h : Ls K ctx L t ys v) (e : joinO a ys = some c) (k : Q (.str c) H) :
    ∃ a' p, ∃ ys' : List PySem.Str, V.str a = .str a' ∧ [v] = [.ref p] ∧ (SqL K H p (ys'.map V.str) ∨ SqT K H p (ys'.map V.str)) ∧ (ys'.map (·.length)).sum + ys'.length * a'.length ≤ 16777216 ∧ Q (.str (Txt.join a' ys')) H := by
  obtain ⟨N, F, W⟩ := W
  obtain ⟨q, vs, rfl, h1, h2⟩ := h B H N F W
  rw [all2_str h2] at h1
  obtain ⟨hz, rfl⟩ := guardE e
  exact ⟨a, q, ys, rfl, rfl, .inl h1, hz, k⟩
theorem w_intS (e : intSO a = some i) (k : Q (.int i) H) : ∃ a' n, [V.str a] = [.str a'] ∧ PySem.intText? a' = some n ∧ a'.length ≤ 640 ∧ Q (.int n) H := by
  unfold intSO at e
  split at e
  · exact ⟨a, i, rfl, e, by assumption, k⟩
  · cases e
def rStrI : List V → Hp → VK → Prop := fun xs H Q => ∃ i, xs = [.int i] ∧ i.natAbs.log2 < 1920 ∧ Q (.str (PySem.Str.ofString (toString i))) H
theorem call_strI {X : Cx} : CallR X (.type "str") rStrI := call_str_int
theorem w_strI (e : strO i = some a) (k : Q (.str a) H) : rStrI [V.int i] H Q := by
  obtain ⟨hz, rfl⟩ := guardE e
  exact ⟨i, rfl, hz, k⟩
theorem w_ixS (e : atS a i = some b) (k : Q (.str b) H) : rIx K (.str a) (.int i) H Q := by
  unfold atS at e
  split at e
  · rename_i hz
    cases q : atI a.cps.toList i with
    | none => rw [q] at e; cases e
    | some c =>
      rw [q] at e
      cases e
      exact .inr (.inr ⟨a, i, c, rfl, rfl, hz, q, k⟩)
  · cases e
theorem w_inS {r : Bool} (e : inSO a b = some r) (k : Q (.bl r) H) : rInS (.str a) (.str b) H Q := by
  unfold inSO at e
  split at e
  · rename_i c hc
    cases e
    exact ⟨c, b, by rw [str_one hc], rfl, k⟩
  · cases e
theorem w_notInS {r : Bool} (e : inSO a b = some r) (k : Q (.bl (!r)) H) : rNotInS (.str a) (.str b) H Q := by
  unfold inSO at e
  split at e
  · rename_i c hc
    cases e
    exact ⟨c, b, by rw [str_one hc], rfl, k⟩
  · cases e
theorem w_catS (e : catS a b = some c) (k : Q (.str c) H) : ∃ i j, V.str a = .str i ∧ V.str b = .str j ∧ i.length + j.length ≤ sizeLine ∧ Q (.str (i ++ j)) H := by
  obtain ⟨hz, rfl⟩ := guardE e
  exact ⟨a, b, rfl, rfl, hz, k⟩
theorem w_slS {lo hi : Option Int} (e : sliceS a lo hi = some c) (k : Q (.str c) H) : rSlS (.str a) lo hi H Q := by
  obtain ⟨hz, rfl⟩ := guardE e
  exact ⟨a, rfl, hz, k⟩
theorem w_lenS (e : lenSO a = some i) (k : Q (.int i) H) : rLenTx [.str a] H Q := by
  obtain ⟨hz, rfl⟩ := guardE e
  exact ⟨a, rfl, hz, k⟩
def rItS (v : V) (H : Hp) (R : It → Hp → Prop) : Prop := ∃ x, v = .str x ∧ R (Its x) H
theorem i_iStr {te : TE} {R : It → Hp → Prop} (h : te σ H fun v H1 => rItS v H1 R) : iStr te σ H R := h
theorem w_itS {R : It → Hp → Prop} (k : R (Its a) H) : rItS (.str a) H R := ⟨a, rfl, k⟩
theorem gv_str {β ε : Type} {S : Shp β ε} (t : Bool) : Gives K B S (Its a) t (charsT a) := fun i b e H W => by
  refine ⟨fun hi => ?_, fun x hx => ?_⟩
  · unfold charsT at hi
    rw [List.length_map, Array.length_toList] at hi
    exact hi
  · unfold charsT at hx
    rw [List.getElem?_map, Array.getElem?_toList] at hx
    cases q : a.cps[i]? with
    | none => rw [q] at hx; cases hx
    | some d =>
      rw [q] at hx
      cases hx
      refine ⟨(Array.getElem?_eq_some_iff.mp q).1, fun v' H' y => ?_⟩
      obtain ⟨rfl, d', q', rfl⟩ := y
      rw [q] at q'
      cases q'
      exact W.know fun N F _ _ => rfl
end
end PB

namespace PB
open PySem PySem.Spec PyProof.Rows L2
/-! ### what is told is new throughout, beside all that is known -/
structure Isl (L : List Own) (F H R : Hp) : Prop where
  s : Same R H
  off : ∀ a u, R a = some u → F a = none ∧ ∀ o ∈ L, o.a ≠ a
def ResMF (K : PySem.W.Frag) (N0 H : Hp) (As : List Addr) (L' : List Own) {α : Type} [Rp α] (r : α) (v : V) (H' : Hp) : Prop :=
  ∃ N' R, Same N0 N' ∧ But As H H' ∧ Same N' H' ∧ (∀ b u, N' b = some u → H b = none ∨ N0 b = some u) ∧ (∀ a ∈ As, N' a = none) ∧ Same R H' ∧ (∀ a u, R a = some u → H a = none ∧ N' a = none) ∧ Rp.rep (lkN R) r v ∧ ∀ o ∈ L', ∃ h, H' o.a = some h ∧ o.P K N' N' h
section
variable {K : PySem.W.Frag} {B H H' N F N0 R : Hp} {ctx : List Fact} {L L0 L' : List Own} {α β γ : Type} [Rp α] [Rp β] [Rp γ] {x : α} {v : V} {p : Addr}
theorem WdI.resMF {As : List Addr} (W : WdI K (cutH (delL H As) N0) ctx L H' N F) (m : Nat) (hm : ctx[m]? = some (fN N0 (delL H As))) (hsub : ∀ o ∈ L', o ∈ L) (ha : L'.map (·.a) = As) (fr : AllFr L') (I : Isl L F H' R) (h : Rp.rep (lkN R) x v) : ResMF K N0 H As L' x v H' := by
  obtain ⟨s1, s2⟩ := W.facts _ (List.mem_of_getElem? hm)
  have hoff : ∀ a ∈ As, F a = none := fun a ha' => by
    rw [← ha] at ha'
    obtain ⟨o, ho, rfl⟩ := List.mem_map.mp ha'
    exact W.off o (hsub o ho)
  have hN : ∀ a ∈ As, N a = none := fun a ha' => W.nF.free (hoff a ha')
  refine ⟨N, R, s1, fun b u hb e => W.fH b u (s2 b u ?_), W.nF.trans W.fH, fun b u e => ?_, hN, I.s, fun a u e => ⟨?_, W.nF.free (I.off a u e).1⟩, h, fun o ho => ?_⟩
  · unfold delL
    rw [if_neg hb]
    exact e
  · have hb : b ∉ As := fun z => by
      rw [hN b z] at e
      cases e
    have h1 := W.sep b u e
    unfold cutH at h1
    cases q : N0 b with
    | some w =>
      have := s1 b w q
      rw [e] at this
      exact .inr this.symm
    | none =>
      rw [q] at h1
      have h1 : delL H As b = none := h1
      unfold delL at h1
      rw [if_neg hb] at h1
      exact .inl h1
  · obtain ⟨g1, g2⟩ := I.off a u e
    have hna : a ∉ As := fun z => by
      rw [← ha] at z
      obtain ⟨o, ho, e2⟩ := List.mem_map.mp z
      exact g2 o (hsub o ho) e2
    cases q : H a with
    | none => rfl
    | some w =>
      have : delL H As a = some w := by
        unfold delL
        rw [if_neg hna]
        exact q
      have := s2 a w this
      rw [g1] at this
      cases this
  · obtain ⟨u, e, q⟩ := W.at_ o (hsub o ho)
    exact ⟨u, e, fr.all o ho _ _ _ _ _ q⟩
/-- a def that tells something new -/
theorem WdI.isl (W : WdI K B ctx L H N F) (r : Res K H x v H') : ∃ R, WdI K B ctx L H' N F ∧ Isl L F H' R ∧ Rp.rep (lkN R) x v := by
  obtain ⟨R, s, sR, hR, h⟩ := r
  refine ⟨R, ⟨W.bF, W.nF, W.sep, W.fH.trans s, W.facts, fun o ho => ?_, W.off, W.nd⟩, ⟨sR, fun a u e => ⟨W.fH.free (hR a u e), fun o ho e2 => ?_⟩⟩, h⟩
  · obtain ⟨u, e, q⟩ := W.at_ o ho
    exact ⟨u, s _ _ e, q⟩
  · obtain ⟨u2, e3, _⟩ := W.at_ o ho
    rw [e2, hR a u e] at e3
    cases e3
/-- one's own list, told -/
theorem WdI.islO [Flat β] {ys : List β} {t : Bool} (W : WdI K B ctx L H N F) (is : List Nat) (h : selB is L = some L') (j : Nat) (hj : L[j]? = some (oL t p ys)) (n : is.Nodup := by decide) (hji : j ∉ is := by decide) :
    ∃ R, WdI K B ctx L' H N F ∧ Isl L' F H R ∧ Rp.rep (lkN R) ys (.ref p) := by
  obtain ⟨u, e, vs, rfl, hr⟩ := W.at_ _ (List.mem_of_getElem? hj)
  have e : H p = some (.lst vs) := e
  refine ⟨fun b => if b = p then some (.lst vs) else none, W.selO is h n, ⟨fun b u hb => ?_, fun b u hb => ?_⟩, p, vs, rfl, if_pos rfl, hr.mono fun _ _ q => Flat.h _ _ _ _ q⟩
  · by_cases hbp : b = p
    · subst hbp
      rw [if_pos rfl] at hb
      cases hb
      exact e
    · rw [if_neg hbp] at hb
      cases hb
  · by_cases hbp : b = p
    · subst hbp
      refine ⟨W.off _ (List.mem_of_getElem? hj), fun o ho e2 => ?_⟩
      obtain ⟨i, hi, hq⟩ := selB_mem h o ho
      have a1 := List.getElem?_map (f := (·.a)) (l := L) (i := i)
      have a2 := List.getElem?_map (f := (·.a)) (l := L) (i := j)
      rw [hq] at a1
      rw [hj] at a2
      have a1 : (L.map (·.a))[i]? = some o.a := a1
      have a2 : (L.map (·.a))[j]? = some b := a2
      rw [e2] at a1
      have := nd_ix W.nd a1 a2
      subst this
      exact hji hi
    · rw [if_neg hbp] at hb
      cases hb
theorem WdI.callMF {As : List Addr} (W : WdI K B ctx L H N F) (ps : List (Nat × Own × Own)) (hp : OkS L ps) (hA : As = ps.map fun p => p.2.1.a) (hL' : L' = ps.map fun p => p.2.2) (fr : AllFr L') (r : ResMF K N H As L' x v H') : ∃ N2 F2 R, WdI K B ctx (setAll L ps) H' N2 F2 ∧ Isl (setAll L ps) F2 H' R ∧ Rp.rep (lkN R) x v := by
  obtain ⟨N', R, s1, s2, s3, s4, hNa, sR, hR, hr, hv⟩ := r
  have hadr := okS_addr hp
  have hoff : ∀ a ∈ As, F a = none := fun a ha => by
    rw [hA] at ha
    obtain ⟨p, hp1, rfl⟩ := List.mem_map.mp ha
    obtain ⟨⟨o, o1, o2⟩, _⟩ := hadr p hp1
    rw [← o2]
    exact W.off o o1
  have hF : ∀ b u, N' b = some u → F b = none ∨ F b = some u := fun b u e => by
    rcases s4 b u e with h | h
    · exact .inl (W.fH.free h)
    · exact .inr (W.nF b u h)
  have sN' : Same N' (join F N') := fun b u e => by
    unfold join
    rcases hF b u e with h | h
    · rw [h]
      exact e
    · rw [h]
  have sF : Same F (join F N') := join_l
  have offJ : ∀ o ∈ L, join F N' o.a = none ∨ o.a ∈ As := fun o ho => by
    obtain ⟨u, e, q⟩ := W.at_ o ho
    have ho2 := W.off o ho
    by_cases hm : o.a ∈ As
    · exact .inr hm
    · refine .inl ?_
      unfold join
      rw [ho2]
      show N' o.a = none
      cases q2 : N' o.a with
      | none => rfl
      | some w =>
        rcases s4 _ _ q2 with h | h
        · rw [e] at h
          cases h
        · have := W.nF _ _ h
          rw [ho2] at this
          cases this
  have offA : ∀ a ∈ As, join F N' a = none := fun a ha => by
    unfold join
    rw [hoff a ha]
    exact hNa a ha
  have W2 : WdI K B ctx (setAll L ps) H' N' (join F N') := by
    refine ⟨W.bF.trans sF, sN', fun b u e => ?_, fun b u e => ?_, fun f hf => ?_, fun o ho => ?_, fun o ho => ?_, by rw [setAll_map hp]; exact W.nd⟩
    · rcases s4 b u e with h | h
      · exact W.bF.free (W.fH.free h)
      · exact W.sep b u h
    · rcases join_or e with e | e
      · refine s2 b u (fun hm => ?_) (W.fH b u e)
        rw [hoff b hm] at e
        cases e
      · exact s3 b u e
    · exact f.mono s1 sF (W.facts f hf)
    · rcases setAll_mem hp W.nd ho with ⟨h1, h2⟩ | ⟨p, h1, rfl⟩
      · obtain ⟨u, e, q⟩ := W.at_ o h1
        refine ⟨u, s2 _ _ (fun hm => ?_) e, o.mono s1 sF q⟩
        rw [hA] at hm
        obtain ⟨p, g1, g2⟩ := List.mem_map.mp hm
        exact h2 p g1 g2.symm
      · have hm : p.2.2 ∈ L' := by rw [hL']; exact List.mem_map.mpr ⟨p, h1, rfl⟩
        obtain ⟨u, e, q⟩ := hv _ hm
        exact ⟨u, e, fr.all _ hm _ _ _ _ _ q⟩
    · rcases setAll_mem hp W.nd ho with ⟨h1, h2⟩ | ⟨p, h1, rfl⟩
      · rcases offJ o h1 with h | h
        · exact h
        · exact offA _ h
      · refine offA _ ?_
        rw [hA, (hadr p h1).2]
        exact List.mem_map.mpr ⟨p, h1, rfl⟩
  refine ⟨N', join F N', R, W2, ⟨sR, fun a u e => ?_⟩, hr⟩
  obtain ⟨g1, g2⟩ := hR a u e
  have gF := W.fH.free g1
  refine ⟨by unfold join; rw [gF]; exact g2, fun o ho e2 => ?_⟩
  have hm : o.a ∈ (setAll L ps).map (·.a) := List.mem_map.mpr ⟨o, ho, rfl⟩
  rw [setAll_map hp] at hm
  obtain ⟨q, hq, e3⟩ := List.mem_map.mp hm
  obtain ⟨u2, e4, _⟩ := W.at_ q hq
  rw [e3, e2, g1] at e4
  cases e4
/-- it joins what is known -/
theorem WdI.addI (W : WdI K B ctx L H N F) (I : Isl L F H R) : WdI K B ctx L H (join N R) (join F R) := by
  have rF : ∀ a u, R a = some u → F a = Option.none := fun a u e => (I.off a u e).1
  have rN : ∀ a u, R a = some u → N a = Option.none := fun a u e => W.nF.free (rF a u e)
  have sN : Same N (join N R) := join_l
  have sF : Same F (join F R) := join_l
  refine ⟨W.bF.trans sF, fun b u e => ?_, fun b u e => ?_, fun b u e => ?_, fun f hf => f.mono sN sF (W.facts f hf), fun o ho => ?_, fun o ho => ?_, W.nd⟩
  · rcases join_or e with e | e
    · exact sF _ _ (W.nF b u e)
    · exact join_r rF _ _ e
  · rcases join_or e with e | e
    · exact W.sep b u e
    · exact W.bF.free (rF b u e)
  · rcases join_or e with e | e
    · exact W.fH b u e
    · exact I.s b u e
  · obtain ⟨u, e, q⟩ := W.at_ o ho
    exact ⟨u, e, o.mono sN sF q⟩
  · cases e : join F R o.a with
    | none => rfl
    | some u =>
      exfalso
      rcases join_or e with e | e
      · rw [W.off o ho] at e
        cases e
      · exact (I.off _ _ e).2 o ho rfl
theorem WdI.addF (W : WdI K B ctx L H N F) (I : Isl L F H R) (h : Rp.rep (lkN R) x v) : Wd K B (fc true x v :: ctx) L H := by
  have rN : Same R (join N R) := join_r fun a u e => W.nF.free (I.off a u e).1
  have J := W.addI I
  refine ⟨_, _, J.bF, J.nF, J.sep, J.fH, fun f hf => ?_, J.at_, J.off, J.nd⟩
  rcases List.mem_cons.mp hf with rfl | hf
  · exact Rp.mono (lkN_mono rN) h
  · exact J.facts f hf
theorem Isl.del (I : Isl L F H R) : Isl L F H (PB.del R p) := ⟨Same.del.trans I.s, fun a u e => I.off a u (Same.del a u e)⟩
/-- an own list laid beside -/
theorem WdI.addOwn {o : Own} {u : HO} (W : WdI K B ctx L H N F) (e : H o.a = some u) (hF : F o.a = none) (hL : ∀ q ∈ L, q.a ≠ o.a) (h : o.P K N F u) : WdI K B ctx (o :: L) H N F := by
  refine ⟨W.bF, W.nF, W.sep, W.fH, W.facts, fun q hq => ?_, fun q hq => ?_, ?_⟩
  · rcases List.mem_cons.mp hq with rfl | hq
    · exact ⟨u, e, h⟩
    · exact W.at_ q hq
  · rcases List.mem_cons.mp hq with rfl | hq
    · exact hF
    · exact W.off q hq
  · rw [List.map_cons]
    refine List.nodup_cons.mpr ⟨fun hm => ?_, W.nd⟩
    obtain ⟨q, hq, eq⟩ := List.mem_map.mp hm
    exact hL q hq eq
theorem WdI.addO [Flat β] {ys : List β} (W : WdI K B ctx L H N F) (I : Isl L F H R) (h : Rp.rep (lkN R) ys v) : ∃ p, v = .ref p ∧ Wd K B ctx (oL true p ys :: L) H := by
  obtain ⟨p, vs, rfl, hp, hr⟩ := h
  obtain ⟨g1, g2⟩ := I.off _ _ hp
  exact ⟨p, rfl, _, _, WdI.addOwn (o := oL true p ys) W (I.s _ _ hp) g1 g2 ⟨vs, rfl, hr.mono fun _ _ q => Flat.h _ _ _ _ q⟩⟩
theorem WdI.addP [Flat α] [Flat β] {r : α × List β} (W : WdI K B ctx L H N F) (I : Isl L F H R) (h : Rp.rep (lkN R) r v) : ∃ p a u, v = .ref a ∧ Wd K B (fc true r.1 u :: fR true [u, .ref p] (.ref a) :: ctx) (oL true p r.2 :: L) H := by
  obtain ⟨a, u, w, rfl, hl, hr1, p, vs, rfl, hp, hr⟩ := h
  obtain ⟨g1, g2⟩ := I.off _ _ hp
  have hl : R a = some (.tup [u, .ref p]) := hl
  have hap : a ≠ p := fun e => by
    rw [e] at hl
    rw [show R p = some (.lst vs) from hp] at hl
    cases hl
  have J := W.addI (I.del (p := p))
  have rN : Same (PB.del R p) (join N (PB.del R p)) := join_r fun b q e => W.nF.free (I.off b q (Same.del b q e)).1
  have J2 := WdI.addOwn (o := oL true p r.2) J (I.s _ _ hp) (by
    show join F (PB.del R p) p = none
    unfold join
    rw [g1]
    exact del_same) g2 ⟨vs, rfl, hr.mono fun _ _ q => Flat.h _ _ _ _ q⟩
  refine ⟨p, a, u, rfl, _, _, J2.bF, J2.nF, J2.sep, J2.fH, fun f hf => ?_, J2.at_, J2.off, J2.nd⟩
  rcases List.mem_cons.mp hf with rfl | hf
  · exact Flat.h _ _ _ _ hr1
  · rcases List.mem_cons.mp hf with rfl | hf
    · exact ⟨a, rfl, rN _ _ ((del_ne hap).trans hl)⟩
    · exact J2.facts f hf
theorem Kn.pairR {ys : List β} {u : V} {a p : Addr} (m : Nat) (hm : ctx[m]? = Option.some (fR true [u, .ref p] (.ref a))) (h : Kn K ctx true x u) (h2 : Kn K ctx true ys (.ref p)) : Kn K ctx true (x, ys) (.ref a) := fun N F s q => by
  obtain ⟨a', e, ht⟩ := q _ (List.mem_of_getElem? hm)
  cases e
  exact ⟨a, u, .ref p, rfl, ht, h N F s q, h2 N F s q⟩
end
end PB

namespace PB
open PySem PySem.Spec PyProof.Rows L2
/-! ### things of any kind -/
inductive Th where
  | int (i : Int)
  | bl (b : Bool)
  | non
  | str (s : PySem.Str)
  | lst (xs : List Th)
  | tup (xs : List Th)
  | dic (ks : List Int) (xs : List Th)
  | dis (s : PySem.Str) (i : Int)
  | exc
/-- what a dict of whole numbers holds -/
def dK (ks : List Int) (vs : List V) : List (Key × V) := (ks.zip vs).map fun p => (.inl p.1, p.2)
mutual
def Th.rp (S : Lk) : Th → V → Prop
  | .int i, v => v = .int i
  | .bl b, v => v = .bl b
  | .non, v => v = .non
  | .str s, v => v = .str s
  | .lst xs, v => ∃ a vs, v = .ref a ∧ S.l a vs ∧ Th.rpL S xs vs
  | .tup xs, v => ∃ a vs, v = .ref a ∧ S.t a vs ∧ Th.rpL S xs vs
  | .dic ks xs, v => ∃ a vs, v = .ref a ∧ ks.length = xs.length ∧ S.d a (dK ks vs) ∧ Th.rpL S xs vs
  | .dis s i, v => ∃ a, v = .ref a ∧ S.d a [(Sum.inr s, V.int i)]
  | .exc, v => ∃ a, v = .ref a ∧ S.x a
def Th.rpL (S : Lk) : List Th → List V → Prop
  | [], vs => vs = []
  | x :: xs, vs => ∃ v ws, vs = v :: ws ∧ Th.rp S x v ∧ Th.rpL S xs ws
end
mutual
theorem Th.mono {S T : Lk} (s : S.Le T) : ∀ (x : Th) (v : V), Th.rp S x v → Th.rp T x v
  | .int _, _, h => h
  | .bl _, _, h => h
  | .non, _, h => h
  | .str _, _, h => h
  | .lst xs, _, ⟨a, vs, e, h, r⟩ => ⟨a, vs, e, s.l _ _ h, Th.monoL s xs vs r⟩
  | .tup xs, _, ⟨a, vs, e, h, r⟩ => ⟨a, vs, e, s.t _ _ h, Th.monoL s xs vs r⟩
  | .dic _ xs, _, ⟨a, vs, e, l, h, r⟩ => ⟨a, vs, e, l, s.d _ _ h, Th.monoL s xs vs r⟩
  | .dis _ _, _, ⟨a, e, h⟩ => ⟨a, e, s.d _ _ h⟩
  | .exc, _, ⟨a, e, h⟩ => ⟨a, e, s.x _ h⟩
theorem Th.monoL {S T : Lk} (s : S.Le T) : ∀ (xs : List Th) (vs : List V), Th.rpL S xs vs → Th.rpL T xs vs
  | [], _, h => h
  | x :: xs, _, ⟨v, ws, e, h, r⟩ => ⟨v, ws, e, Th.mono s x v h, Th.monoL s xs ws r⟩
end
instance : Rp Th := ⟨Th.rp, fun s h => Th.mono s _ _ h⟩
theorem rpL_all {S : Lk} : ∀ {xs : List Th} {vs : List V}, Th.rpL S xs vs ↔ All2 (Rp.rep S) xs vs
  | [], [] => ⟨fun _ => trivial, fun _ => rfl⟩
  | [], _ :: _ => ⟨fun h => (nomatch h), fun h => False.elim h⟩
  | x :: xs, [] => ⟨fun ⟨_, _, e, _⟩ => (nomatch e), fun h => False.elim h⟩
  | x :: xs, v :: vs => ⟨fun ⟨_, _, e, h, r⟩ => by cases e; exact ⟨h, rpL_all.mp r⟩, fun h => ⟨v, vs, rfl, h.1, rpL_all.mpr h.2⟩⟩
mutual
def Th.d : Th → PyData
  | .int i => .int i
  | .bl b => .bool b
  | .non => .none
  | .str s => .str s
  | .lst xs => .list (Th.dL xs)
  | .tup xs => .tuple (Th.dL xs)
  | .dic ks xs => .dict ((ks.map PyData.int).zip (Th.dL xs))
  | .dis s i => .dict [(.str s, .int i)]
  | .exc => .int (2 ^ 2000)
def Th.dL : List Th → List PyData
  | [] => []
  | x :: xs => x.d :: Th.dL xs
end
mutual
/-- without dicts -/
def Th.pl : Th → Bool
  | .int _ | .bl _ | .non | .str _ => true
  | .lst xs => Th.plL xs
  | .tup xs => Th.plL xs
  | .dic _ _ => false
  | .dis _ _ => false
  | .exc => false
def Th.plL : List Th → Bool
  | [] => true
  | x :: xs => x.pl && Th.plL xs
end
mutual
theorem Th.dp {K : PySem.W.Frag} {H : Hp} : ∀ (x : Th) (v : V), x.pl = true → Th.rp (lkA K H) x v → Dp K H v x.d
  | .int i, _, _, h => by cases h; exact .int i
  | .bl b, _, _, h => by cases h; exact .bl b
  | .non, _, _, h => by cases h; exact .non
  | .str s, _, _, h => by cases h; exact .str s
  | .lst xs, _, p, ⟨a, vs, e, h, r⟩ => by cases e; exact .lst (SqL.of h) (Th.dpL xs vs p r)
  | .tup xs, _, p, ⟨a, vs, e, h, r⟩ => by cases e; exact .tup h (Th.dpL xs vs p r)
  | .dic _ _, _, p, _ => by cases p
  | .dis _ _, _, p, _ => by cases p
  | .exc, _, p, _ => by cases p
theorem Th.dpL {K : PySem.W.Frag} {H : Hp} : ∀ (xs : List Th) (vs : List V), Th.plL xs = true → Th.rpL (lkA K H) xs vs → DpAll K H vs (Th.dL xs)
  | [], _, _, h => by cases h; exact .nil
  | x :: xs, _, p, ⟨v, ws, e, h, r⟩ => by
    cases e
    have p2 := Bool.and_eq_true_iff.mp p
    exact .cons (Th.dp x v p2.1 h) (Th.dpL xs ws p2.2 r)
end
/-- data that may hold such things -/
class RpT (α : Type) [Rp α] where
  d : α → PyData
  ok : α → Bool
  dp : ∀ {K : PySem.W.Frag} {H : Hp} {x : α} {v : V}, ok x = true → Rp.rep (lkA K H) x v → Dp K H v (d x)
instance {α : Type} [Rp α] [RpD α] : RpT α := ⟨RpD.d, fun _ => true, fun _ h => RpD.dp h⟩
instance : RpT Th := ⟨Th.d, Th.pl, fun p h => Th.dp _ _ p h⟩
section
variable {α β : Type} [Rp α] [Rp β] [RpT α] [RpT β]
theorem all2_dpT {K : PySem.W.Frag} {H : Hp} : ∀ {xs : List α} {vs : List V}, xs.all RpT.ok = true → All2 (Rp.rep (lkA K H)) xs vs → DpAll K H vs (xs.map RpT.d)
  | [], [], _, _ => .nil
  | x :: xs, v :: vs, p, h => by
    rw [List.all_cons] at p
    have p2 := Bool.and_eq_true_iff.mp p
    exact .cons (RpT.dp p2.1 h.1) (all2_dpT p2.2 h.2)
  | [], _ :: _, _, h => False.elim h
  | _ :: _, [], _, h => False.elim h
instance (priority := low) : RpT (List α) := ⟨fun xs => .list (xs.map RpT.d), fun xs => xs.all RpT.ok, fun {K H x v} p ⟨a, vs, e, h, r⟩ => by cases e; exact .lst (SqL.of h) (all2_dpT p r)⟩
instance (priority := low) : RpT (α × β) := ⟨fun x => .tuple [RpT.d x.1, RpT.d x.2], fun x => RpT.ok x.1 && RpT.ok x.2, fun {K H x v} p ⟨a, u, w, e, h, r1, r2⟩ => by
  cases e
  have p2 := Bool.and_eq_true_iff.mp p
  exact .tup h (.cons (RpT.dp p2.1 r1) (.cons (RpT.dp p2.2 r2) .nil))⟩
instance (priority := low) : RpT (Option α) := ⟨fun x => match x with
    | none => .none
    | some y => RpT.d y, fun x => match x with
    | none => true
    | some y => RpT.ok y, fun {K H x v} p h => by
      cases x with
      | none => cases (show v = .non from h); exact .non
      | some y => exact RpT.dp (α := α) p h⟩
def eqT (x : α) (y : β) : Option Bool := if RpT.ok x = true ∧ RpT.ok y = true ∧ SeqAt.shaped (RpT.d x) = true ∧ SeqAt.shaped (RpT.d y) = true then some (PyData.eqv (RpT.d x) (RpT.d y)) else none
def reprT (x : α) : Option PySem.Str := if RpT.ok x = true ∧ (RpT.d x).showable = true ∧ (RpT.d x).hasDict = false ∧ (RpT.d x).depth ≤ 60 ∧ (RpT.d x).shown.length ≤ sizeLine then some (RpT.d x).shown else none
variable {K : PySem.W.Frag} {B H : Hp} {ctx : List Fact} {L : List Own} {x : α} {y : β} {v w : V} {Q : VK}
theorem w_eqT {b : Bool} (W : Wd K B ctx L H) (h : Ar K ctx L x v) (h' : Ar K ctx L y w) (e : eqT x y = some b) (k : Q (.bl b) H) : rEqA K v w H Q := by
  obtain ⟨N, F, W⟩ := W
  obtain ⟨⟨p1, p2, s1, s2⟩, rfl⟩ := guardE e
  exact i_eqD (RpT.dp p1 (h B H N F W)) (RpT.dp p2 (h' B H N F W)) s1 s2 k
theorem w_neT {b : Bool} (W : Wd K B ctx L H) (h : Ar K ctx L x v) (h' : Ar K ctx L y w) (e : eqT x y = some b) (k : Q (.bl (!b)) H) : rNeA K v w H Q := by
  obtain ⟨N, F, W⟩ := W
  obtain ⟨⟨p1, p2, s1, s2⟩, rfl⟩ := guardE e
  exact i_neD (RpT.dp p1 (h B H N F W)) (RpT.dp p2 (h' B H N F W)) s1 s2 k
theorem w_reprT {s : PySem.Str} (W : Wd K B ctx L H) (h : Ar K ctx L x v) (e : reprT x = some s) (k : Q (.str s) H) : rRepr K [v] H Q := by
  obtain ⟨N, F, W⟩ := W
  obtain ⟨⟨p, s1, s2, s3, s4⟩, rfl⟩ := guardE e
  exact i_repr (RpT.dp p (h B H N F W)) s1 s2 s3 s4 k
end
/-! kinds -/
def Th.ty : Th → String
  | .int _ => "int"
  | .bl _ => "bool"
  | .non => "NoneType"
  | .str _ => "str"
  | .lst _ => "list"
  | .tup _ => "tuple"
  | .dic _ _ => "dict"
  | .dis _ _ => "dict"
  | .exc => "ValueError"
def isiT (x : Th) (c : String) : Bool := isub x.ty c
theorem th_tyx {K : PySem.W.Frag} {H : Hp} : ∀ {x : Th} {v : V}, Rp.rep (lkA K H) x v → TyX K H v (.type x.ty) ∨ x = .exc
  | .int _, _, h => by cases h; exact .inl (.base (.int _))
  | .bl _, _, h => by cases h; exact .inl (.base (.bl _))
  | .non, _, h => by cases h; exact .inl (.base .non)
  | .str _, _, h => by cases h; exact .inl (.base (.str _))
  | .lst _, _, ⟨a, vs, e, h, r⟩ => by cases e; exact .inl (.base (.lst h))
  | .tup _, _, ⟨a, vs, e, h, r⟩ => by cases e; exact .inl (tyx_tup h)
  | .dic _ _, _, ⟨a, vs, e, l, h, r⟩ => by cases e; exact .inl (.base (.dK h))
  | .dis _ _, _, ⟨a, e, h⟩ => by cases e; exact .inl (.base (.dK h))
  | .exc, _, _ => .inr rfl
theorem kit_isubT {T c : String} (hT : T ∈ ["NoneType", "bool", "int", "str", "list", "tuple", "dict", "ValueError"]) (hc : c ∈ ["bool", "int", "str", "list", "tuple", "dict"]) : kitB T c = some (isub T c) := by
  have key : ∀ T ∈ ["NoneType", "bool", "int", "str", "list", "tuple", "dict", "ValueError"], ∀ c ∈ ["bool", "int", "str", "list", "tuple", "dict"], kitB T c = some (isub T c) := by decide +kernel
  exact key T hT c hc
theorem th_tys (x : Th) : x.ty ∈ ["NoneType", "bool", "int", "str", "list", "tuple", "dict", "ValueError"] := by cases x <;> simp [Th.ty]
def Th.getI : Th → Option Int
  | .int i => some i
  | _ => none
def Th.getB : Th → Option Bool
  | .bl b => some b
  | _ => none
def Th.getS : Th → Option PySem.Str
  | .str s => some s
  | _ => none
def Th.getL : Th → Option (List Th)
  | .lst xs => some xs
  | _ => none
def Th.getP : Th → Option (Th × Th)
  | .tup [x, y] => some (x, y)
  | _ => none
def Th.isNone : Th → Bool
  | .non => true
  | _ => false
section
variable {K : PySem.W.Frag} {B H : Hp} {ctx : List Fact} {L : List Own} {t : Bool} {x : Th} {v : V} {Q : VK}
theorem w_isiT {c : String} (W : Wd K B ctx L H) (h : Ar K ctx L x v) (hc : c ∈ ["bool", "int", "str", "list", "tuple", "dict"]) (k : Q (.bl (isiT x c)) H) : rIsX K [v, .ty c] H Q := by
  obtain ⟨N, F, W⟩ := W
  have r := h B H N F W
  rcases th_tyx r with ht | rfl
  · exact .inl (i_isi ht (kit_isubT (th_tys x) hc) k)
  · obtain ⟨a, e, hx⟩ := r
    cases e
    exact .inr (i_isV hx (kit_isubT (th_tys .exc) hc) k)
theorem Wd.thI {i : Int} (W : Wd K B ctx L H) (h : Kn K ctx t x v) (e : x.getI = some i) : Wd K B (fc t i v :: ctx) L H := by
  cases x <;> cases e
  exact W.know fun N F s q => h N F s q
theorem Wd.thB {i : Bool} (W : Wd K B ctx L H) (h : Kn K ctx t x v) (e : x.getB = some i) : Wd K B (fc t i v :: ctx) L H := by
  cases x <;> cases e
  exact W.know fun N F s q => h N F s q
theorem Wd.thS {i : PySem.Str} (W : Wd K B ctx L H) (h : Kn K ctx t x v) (e : x.getS = some i) : Wd K B (fc t i v :: ctx) L H := by
  cases x <;> cases e
  exact W.know fun N F s q => h N F s q
theorem Wd.thL {i : List Th} (W : Wd K B ctx L H) (h : Kn K ctx t x v) (e : x.getL = some i) : Wd K B (fc t i v :: ctx) L H := by
  cases x <;> cases e
  exact W.know fun N F s q => by
    obtain ⟨a, vs, e, h1, h2⟩ := h N F s q
    exact ⟨a, vs, e, h1, rpL_all.mp h2⟩
theorem Wd.thP {i : Th × Th} (W : Wd K B ctx L H) (h : Kn K ctx t x v) (e : x.getP = some i) : Wd K B (fc t i v :: ctx) L H := by
  match x, e, h with
  | .tup [p, q], e, h =>
    cases e
    exact W.know fun N F s g => by
      obtain ⟨a, vs, e, h1, u, ws, rfl, r1, w, zs, rfl, r2, e3⟩ := h N F s g
      have e3 : zs = [] := e3
      subst e3
      exact ⟨a, u, w, e, h1, r1, r2⟩
theorem w_isNT (W : Wd K B ctx L H) (h : Kn K ctx t x v) (k : Q (.bl x.isNone) H) : rIsN v .non H Q := ⟨rfl, by
  obtain ⟨N, F, W⟩ := W
  have r := h N F W.nF W.facts
  have e : decide (v = V.non) = x.isNone := by
    cases x with
    | non => cases (show v = .non from r); rfl
    | int i => cases (show v = .int i from r); rfl
    | bl i => cases (show v = .bl i from r); rfl
    | str i => cases (show v = .str i from r); rfl
    | lst i => obtain ⟨a, vs, rfl, _⟩ := r; rfl
    | tup i => obtain ⟨a, vs, rfl, _⟩ := r; rfl
    | dic i j => obtain ⟨a, vs, rfl, _⟩ := r; rfl
    | dis i j => obtain ⟨a, rfl, _⟩ := r; rfl
    | exc => obtain ⟨a, rfl, _⟩ := r; rfl
  rw [e]
  exact k⟩
theorem w_notNT (W : Wd K B ctx L H) (h : Kn K ctx t x v) (k : Q (.bl (!x.isNone)) H) : rNotN v .non H Q := ⟨rfl, by
  obtain ⟨N, F, W⟩ := W
  have r := h N F W.nF W.facts
  have e : decide (v = V.non) = x.isNone := by
    cases x with
    | non => cases (show v = .non from r); rfl
    | int i => cases (show v = .int i from r); rfl
    | bl i => cases (show v = .bl i from r); rfl
    | str i => cases (show v = .str i from r); rfl
    | lst i => obtain ⟨a, vs, rfl, _⟩ := r; rfl
    | tup i => obtain ⟨a, vs, rfl, _⟩ := r; rfl
    | dic i j => obtain ⟨a, vs, rfl, _⟩ := r; rfl
    | dis i j => obtain ⟨a, rfl, _⟩ := r; rfl
    | exc => obtain ⟨a, rfl, _⟩ := r; rfl
  rw [e]
  exact k⟩
end
def eqNil : Th → Option Bool
  | .lst xs => some xs.isEmpty
  | _ => none
section
variable {α β : Type} [Rp α] [Rp β] {K : PySem.W.Frag} {B H : Hp} {ctx : List Fact} {L : List Own} {t t' : Bool} {xs : List α} {v w : V} {Q : VK}
theorem w_eqNil (W : Wd K B ctx L H) (h : Ls K ctx L t xs v) (h' : Ls K ctx L t' ([] : List β) w) (k : Q (.bl xs.isEmpty) H) : rEqA K v w H Q := by
  obtain ⟨N, F, W⟩ := W
  obtain ⟨a, vs, rfl, h1, h2⟩ := h B H N F W
  obtain ⟨b, ws, rfl, h3, h4⟩ := h' B H N F W
  cases ws with
  | cons _ _ => exact False.elim h4
  | nil => exact .inr (.inr ⟨a, b, vs, rfl, rfl, h1, h3, by
      cases vs <;> cases xs <;> first | exact k | exact False.elim h2⟩)
theorem w_neNil (W : Wd K B ctx L H) (h : Ls K ctx L t xs v) (h' : Ls K ctx L t' ([] : List β) w) (k : Q (.bl (!xs.isEmpty)) H) : rNeA K v w H Q := by
  obtain ⟨N, F, W⟩ := W
  obtain ⟨a, vs, rfl, h1, h2⟩ := h B H N F W
  obtain ⟨b, ws, rfl, h3, h4⟩ := h' B H N F W
  cases ws with
  | cons _ _ => exact False.elim h4
  | nil => exact .inr (.inr ⟨a, b, vs, rfl, rfl, h1, h3, by
      cases vs <;> cases xs <;> first | exact k | exact False.elim h2⟩)
theorem rpL_nil {S : Lk} {xs : List Th} {vs : List V} (h : Th.rpL S xs vs) : vs.isEmpty = xs.isEmpty := by
  cases xs with
  | nil => cases h; rfl
  | cons x xs =>
    obtain ⟨v, ws, e, _⟩ := h
    subst e
    rfl
theorem w_eqNilT {x : Th} {b : Bool} (W : Wd K B ctx L H) (h : Ar K ctx L x v) (h' : Ls K ctx L t' ([] : List β) w) (e : eqNil x = some b) (k : Q (.bl b) H) : rEqA K v w H Q := by
  cases x <;> cases e
  obtain ⟨N, F, W⟩ := W
  obtain ⟨a, vs, rfl, h1, h2⟩ := h B H N F W
  obtain ⟨b, ws, rfl, h3, h4⟩ := h' B H N F W
  cases ws with
  | cons _ _ => exact False.elim h4
  | nil => exact .inr (.inr ⟨a, b, vs, rfl, rfl, SqL.of h1, h3, by rw [rpL_nil h2]; exact k⟩)
theorem w_neNilT {x : Th} {b : Bool} (W : Wd K B ctx L H) (h : Ar K ctx L x v) (h' : Ls K ctx L t' ([] : List β) w) (e : eqNil x = some b) (k : Q (.bl (!b)) H) : rNeA K v w H Q := by
  cases x <;> cases e
  obtain ⟨N, F, W⟩ := W
  obtain ⟨a, vs, rfl, h1, h2⟩ := h B H N F W
  obtain ⟨b, ws, rfl, h3, h4⟩ := h' B H N F W
  cases ws with
  | cons _ _ => exact False.elim h4
  | nil => exact .inr (.inr ⟨a, b, vs, rfl, rfl, SqL.of h1, h3, by rw [rpL_nil h2]; exact k⟩)
end
/-! values as things -/
section
variable {α β γ : Type} [Rp α] [Rp β] [Rp γ]
instance : Co Int Th := ⟨.int, fun h => h⟩
instance : Co Bool Th := ⟨.bl, fun h => h⟩
instance : Co Unit Th := ⟨fun _ => .non, fun h => h⟩
instance : Co PySem.Str Th := ⟨.str, fun h => h⟩
instance [Co α Th] : Co (Option α) Th := ⟨fun x => match x with
    | none => .non
    | some y => Co.f y, fun {S x v} h => by
      cases x with
      | none => exact h
      | some y => exact Co.h (β := Th) h⟩
instance [Co α Th] : Co (List α) Th := ⟨fun xs => .lst (xs.map Co.f), fun ⟨a, vs, e, h, r⟩ => ⟨a, vs, e, h, rpL_all.mpr (all2_map r)⟩⟩
instance [Co α Th] [Co β Th] : Co (α × β) Th := ⟨fun x => .tup [Co.f x.1, Co.f x.2], fun ⟨a, u, w, e, h, r1, r2⟩ => ⟨a, _, e, h, u, _, rfl, Co.h (β := Th) r1, w, _, rfl, Co.h (β := Th) r2, rfl⟩⟩
instance [Co α Th] [Co β Th] [Co γ Th] : Co (T3 α β γ) Th := ⟨fun x => .tup [Co.f x.a, Co.f x.b, Co.f x.c], fun ⟨a, u, w, z, e, h, r1, r2, r3⟩ => ⟨a, _, e, h, u, _, rfl, Co.h (β := Th) r1, w, _, rfl, Co.h (β := Th) r2, z, _, rfl, Co.h (β := Th) r3, rfl⟩⟩
instance [Co α Th] : Co (T1 α) Th := ⟨fun x => .tup [Co.f x.a], fun ⟨a, u, e, h, r1⟩ => ⟨a, _, e, h, u, _, rfl, Co.h (β := Th) r1, rfl⟩⟩
instance [Co α Th] [Co β Th] : Co (Un α β) Th := ⟨fun x => match x with
    | .l y => Co.f y
    | .r y => Co.f y, fun {S x v} h => by
      cases x with
      | l y => exact Co.h (β := Th) h
      | r y => exact Co.h (β := Th) h⟩
end
end PB

namespace PB
open PySem PySem.Spec PyProof.Rows L2
/-! ### calls that may let an exception out -/
section
variable {X : Cx} {k : Nat} {ps : List Str} {sp : Sp} {E : L2.St → XK} {x m : Str} {p pos apos : Pos} {e o : Expr} {es : List Expr} {ta : TE} {t : TA} {f : Addr} {fd : FuncData}
theorem run_fnX {pins : List (Addr × Obj)} {σ : L2.St} {H : Hp} {s : Shared} {Q : VK} {us : List Value} {vs : List V} (F : FnG X.prog X.w X.K X.mg X.base k f fd ps sp) (hr : Room k X.A)
    (hgd : X.A.guards = some []) (hb : Binds X.K fd ps []) (hx : PassesAt (L2.CX X.prog X.w) X σ (E σ)) (I : Inv X pins σ H s) (r : Vals vs us) (h : sp vs H Q (E σ)) :
    wpAny (model X.prog X.w) X.A (call (.ref f) us) (EP X pins σ Q) X.xe s := by
  have hl : us.length = ps.length := by
    rw [← r.length]
    exact F.len _ _ _ _ h
  have hb2 := hb s us I.kIn (by rw [List.append_nil]; exact hl)
  rw [List.append_nil] at hb2
  refine wpAny_call (codeAny_mono (F.run X.A X.stack s H ⟨us, []⟩ us vs Q (E σ) hr hgd I.env0 hb2 r h) fun r s' hq => ?_)
  match r, hq with
  | .error e, hq => exact hx pins H s e s' I hq
  | .ok (.ret u), hq => exact I.after hq
  | .ok .next, hq => exact hq.elim
  | .ok .brk, hq => exact hq.elim
  | .ok .cont, hq => exact hq.elim
def tCallX (sp : Sp) (E : L2.St → XK) (t : TA) : TE := fun σ H Q => t σ H fun vs H1 => sp vs H1 Q (E σ)
theorem pe_fnX (G : Fn X.prog X.w X.K X.mg X.base k x ps sp) (hr : Room k X.A) (hgd : X.A.guards = some []) (hg : Gl X x) (hx : ∀ σ, PassesAt (L2.CX X.prog X.w) X σ (E σ))
    (ha : PA X (e :: es) t) (hdb : (x == ("__debug__" : Str)) = false := by decide) (he : starEach (e :: es) X.env = (false, eval e X.env) :: starEach es X.env := by rfl)
    (hpl : (backTo pos (starEach es X.env)).any (·.1) = false := by rfl) : PE X (.Call (.Name x p) (e :: es) [] pos) (tCallX sp E t) := by
  obtain ⟨f, fd, hm, hk, hb, F⟩ := G.ex
  refine ⟨fun pins s σ H Q I h => wpAny_Call_Name_kw (ld_glob I hg hm ?_ hdb)⟩
  refine PySem.W.callWith_K (h₀ := X.base) I.ok.mod.kin hk (thn (ha.run pos pins s σ H _ I h) fun us s1 ⟨vs, H1, I1, r, q⟩ => ⟨I1.kIn, ?_⟩) he hpl
  exact run_fnX F hr hgd hb (hx σ) I1 r q
def tMX (C : Addr) (m : Str) (sp : Sp) (E : L2.St → XK) (ta : TE) (t : TA) : TE := fun σ H Q => ta σ H fun x H1 => ∃ a dx fs, x = .ref a ∧ H1 a = some (.ins C dx fs) ∧ fs.lookup m = none ∧ t σ H1 fun vs H2 => sp (x :: vs) H2 Q (E σ)
theorem pe_mGX {pl : Sem Bool} (G : MFn X.prog X.w X.K X.mg X.base k m ps sp) (c : Cls X.K (LvA X.K)) (hr : Room k X.A) (hgd : X.A.guards = some []) (hx : ∀ σ, PassesAt (L2.CX X.prog X.w) X σ (E σ)) (he : PE X o ta) (ha : PA X (e :: es) t)
    (hst : starEach (e :: es) X.env = (false, eval e X.env) :: starEach es X.env := by rfl) (hpl : (backTo pos (starEach es X.env)).any (·.1) = false := by rfl)
    (ht : eval (.Call (.Attribute o m apos) (e :: es) [] pos) X.env = (do
      let ov ← eval o X.env
      standAt apos.atName
      let (f, first) ← holding [ov] (getMethod ov m pl)
      callWith pos f first (backTo pos (starEach (e :: es) X.env)) (backToKw pos (keywordEach [] X.env))) := by rfl) :
    PE X (.Call (.Attribute o m apos) (e :: es) [] pos) (tMX (LvA X.K) m sp E ta t) := by
  obtain ⟨f, fd, hm, hb, F⟩ := G.ex
  refine ⟨fun pins s σ H Q I h => ?_⟩
  refine PySem.W.methodCall_KW (pl := pl) (thn (he.run pins s σ H _ I h) fun u s1 ⟨x, H1, I1, rx, a, dx, fs, ex, ea, l, q⟩ => ?_) ht
  subst ex
  obtain rfl : u = Value.ref a := rx
  refine getmeth_ok I1 ea c hm l ?_
  refine PySem.W.callWith_K (first := [.ref a]) (h₀ := X.base) I.ok.mod.kin hm.kp (thn (ha.run pos pins s1 σ H1 _ I1 q) fun us s2 ⟨vs, H2, I2, r, q2⟩ => ⟨I2.kIn, ?_⟩) hst hpl
  exact run_fnX (us := .ref a :: us) (vs := .ref a :: vs) F hr hgd hb (hx σ) I2 (.cons rfl r) q2
variable {σ : L2.St} {H : Hp} {Q : VK}
theorem i_callX (h : t σ H fun vs H1 => sp vs H1 Q (E σ)) : tCallX sp E t σ H Q := h
theorem i_tMX {C : Addr} (h : ta σ H fun x H1 => ∃ a dx fs, x = .ref a ∧ H1 a = some (.ins C dx fs) ∧ fs.lookup m = none ∧ t σ H1 fun vs H2 => sp (x :: vs) H2 Q (E σ)) : tMX C m sp E ta t σ H Q := h
end
/-! ### list(zip(ns, ys)) -/
def zipO {β : Type} (ns : List Int) (ys : List β) : Option (List (Int × β)) := if ns.length = ys.length then some (List.zip ns ys) else none
theorem i_tLZ {K : PySem.W.Frag} {ta : TA} {σ : L2.St} {H : Hp} {Q : VK} (h : ta σ H fun vs H1 => ∃ x y, vs = [x, y] ∧ rLZ K x y H1 Q) : tLZ K ta σ H Q := h
theorem ints_of {S : Lk} : ∀ {ns : List Int} {vs : List V}, All2 (Rp.rep S) ns vs → vs = ns.map V.int
  | [], [], _ => rfl
  | n :: ns, v :: vs, h => by
    rw [show v = .int n from h.1, ints_of h.2]
    rfl
  | [], _ :: _, h => h.elim
  | _ :: _, [], h => h.elim
theorem all2_len {α : Type} {R : α → V → Prop} : ∀ {xs : List α} {vs : List V}, All2 R xs vs → xs.length = vs.length
  | [], [], _ => rfl
  | _ :: _, _ :: _, h => congrArg (· + 1) (all2_len h.2)
  | [], _ :: _, h => h.elim
  | _ :: _, [], h => h.elim
section
variable {K : PySem.W.Frag} {B H : Hp} {ctx : List Fact} {L : List Own} {t t' : Bool} {β : Type} [Rp β] {ns : List Int} {ys : List β} {zs : List (Int × β)} {v u : V} {Q : VK}
theorem w_lz (W : Wd K B ctx L H) (h : Ls K ctx L t' ns v) (h' : Ls K ctx L t ys u) (e : zipO ns ys = some zs) (k : ∀ p H', Wd K B (fc t zs (.ref p) :: ctx) L H' → Q (.ref p) H') : rLZ K v u H Q := by
  obtain ⟨he, rfl⟩ := guardE e
  obtain ⟨N, F, W⟩ := W
  obtain ⟨a, vs1, rfl, h1, h2⟩ := h B H N F W
  obtain ⟨b, vs, rfl, g1, g2⟩ := h' B H N F W
  rw [ints_of h2] at h1
  refine ⟨a, b, ns, vs, rfl, rfl, h1, g1, he.trans (all2_len g2), fun H' p ts s hp hts hn e pr => k p H' ?_⟩
  let R : Hp := fun b => if b = p ∨ b ∈ ts then H' b else none
  have sR : Same R H' := fun b u e => by
    show H' b = some u
    by_cases hb : b = p ∨ b ∈ ts
    · rw [show R b = H' b from if_pos hb] at e; exact e
    · rw [show R b = none from if_neg hb] at e; cases e
  have hR : ∀ b u, R b = some u → H b = none := fun b u e => by
    by_cases hb : b = p ∨ b ∈ ts
    · rcases hb with rfl | hb
      · exact hp
      · exact hts b hb
    · rw [show R b = none from if_neg hb] at e; cases e
  have J := Wd.joinI (L' := L) W (fun b u _ e => s b u e) sR hR (fun o ho => let ⟨h, e, q⟩ := W.at_ o ho; ⟨h, s _ _ e, fun N' F' a b => o.mono a b q⟩) rfl
  refine ⟨_, _, J.bF, J.nF, J.sep, J.fH, fun f hf => ?_, J.at_, J.off, J.nd⟩
  rcases List.mem_cons.mp hf with rfl | hf
  · have rN : Same R (join N R) := join_r fun a u e => W.nF.free (W.fH.free (hR a u e))
    have rF : Same R (join F R) := join_r fun a u e => W.fH.free (hR a u e)
    have hRp : R p = some (.lst (ts.map V.ref)) := by rw [show R p = H' p from if_pos (.inl rfl), e]
    have key : ∀ (ts' : List Addr) (ns : List Int) (ys : List β) (vs : List V), All2 (Rp.rep (reg t K N F)) ys vs → ns.length = ys.length → (∀ b ∈ ts', b ∈ ts) → Paired (fun (t : Addr) (q : Key × V) => H' t = some (.tup [kV q.1, q.2])) ts' (zV ns vs) → All2 (Rp.rep (reg t K (join N R) (join F R))) (List.zip ns ys) (ts'.map V.ref) := by
      intro ts' ns
      induction ns generalizing ts' with
      | nil =>
        intro ys vs _ _ _ pr
        cases pr
        exact trivial
      | cons n ns ih =>
        intro ys vs h hl hm pr
        match ys, vs, h, hl, pr with
        | [], _, _, hl, _ => simp at hl
        | _ :: _, [], h, _, _ => exact h.elim
        | y :: ys, v :: vs, h, hl, pr =>
          cases pr with
          | @cons b _ ts2 _ hb pr =>
            refine ⟨⟨b, _, _, rfl, ?_, rfl, Rp.mono (reg_mono join_l join_l) h.1⟩, ih ts2 ys vs h.2 (by simpa using hl) (fun c hc => hm c (List.mem_cons_of_mem _ hc)) pr⟩
            have hRb : R b = some (.tup [.int n, v]) := by
              rw [show R b = H' b from if_pos (.inr (hm b List.mem_cons_self)), hb]
              rfl
            cases t
            · exact SqT.of (rF _ _ hRb)
            · exact rN _ _ hRb
    refine ⟨p, ts.map V.ref, rfl, ?_, key ts ns ys vs g2 he (fun b hb => hb) pr⟩
    cases t
    · exact rF _ _ hRp
    · exact rN _ _ hRp
  · exact J.facts f hf
end
end PB

namespace PB
open PySem PySem.Spec PyProof.Rows L2
/-! ### repr of things that may hold dicts: no thing lies where the modules lie -/
def SMd (h : Heap) : Prop := ∃ o, h.get? sysModules = some o ∧ o.cls = .type "dict"
section
variable {X : Cx} {pins : List (Addr × Obj)} {σ : L2.St} {H : Hp} {s : Shared}
theorem sm_ne (I : Inv X pins σ H s) (SM : SMd X.base) {a : Addr} {o : Obj} {c : String} (h : s.heap.get? a = some o) (hc : o.cls = .type c) (hn : c ≠ "dict") : sysModules ≠ a := fun e => by
  obtain ⟨p, h1, h2⟩ := SM
  rw [← e, I.bk _ _ h1] at h
  cases h
  rw [h2] at hc
  cases hc
  exact hn rfl
theorem dL_len : ∀ (xs : List Th), (Th.dL xs).length = xs.length
  | [] => rfl
  | _ :: xs => congrArg Nat.succ (dL_len xs)
theorem rpL_len {S : Lk} : ∀ {xs : List Th} {vs : List V}, Th.rpL S xs vs → vs.length = xs.length
  | [], _, h => by cases h; rfl
  | x :: xs, _, ⟨v, ws, e, _, r⟩ => by
    subst e
    exact congrArg Nat.succ (rpL_len r)
theorem showKv : ∀ {ks ds : List PyData}, ks.length = ds.length → PyData.showableKv (ks.zip ds) = true → PyData.showableAll ds = true
  | [], [], _, _ => by rw [PyData.showableAll]
  | [], _ :: _, h, _ => by cases h
  | _ :: _, [], h, _ => by cases h
  | k :: ks, d :: ds, h, p => by
    rw [List.zip_cons_cons, PyData.showableKv, Bool.and_eq_true, Bool.and_eq_true] at p
    rw [PyData.showableAll, p.1.2, showKv (Nat.succ.inj h) p.2]
    rfl
theorem pairs_reads {P : Program} {w : World} {h : Heap} : ∀ {es : List DictEntry} {vs : List (Key × Value)} {ks : List Int} {ws : List V}, ks.length = ws.length → Pairs (mixKind P w) es vs → KV (dK ks ws) vs →
    ReadsAll h (es.map (·.key)) (ks.map PyData.int) [] ∧ Vals ws (es.map (·.val))
  | [], _, ks, ws, l, .nil, r => by
    cases ks with
    | nil =>
      cases ws with
      | nil => exact ⟨.nil, .nil⟩
      | cons _ _ => cases l
    | cons p ps =>
      cases ws with
      | nil => cases l
      | cons _ _ => cases r
  | e :: es, _, ks, ws, l, .cons k1 k2 t, r => by
    cases ks with
    | nil => cases r
    | cons p ps =>
      cases ws with
      | nil => cases l
      | cons y ys =>
      cases r with
      | cons r1 r2 =>
        obtain ⟨g1, g2⟩ := pairs_reads (Nat.succ.inj l) t r2
        obtain ⟨q1, q2⟩ := r1
        have hk : ∃ i, e.key = Value.int p i := by
          rw [← q1] at k1
          rcases keyIs_shape (show keyIs (Sum.inl p) e.key = true from k1) with ⟨i, u, e1, e2⟩ | ⟨x, u, e1, e2⟩
          · cases e1
            exact ⟨u, e2⟩
          · cases e1
        obtain ⟨i, hk⟩ := hk
        rw [List.map_cons, List.map_cons, List.map_cons]
        refine ⟨?_, ?_⟩
        · rw [hk]
          exact ReadsAll.cons (as := []) (Reads.int _ _) g1
        · rw [k2]
          exact .cons q2 g2
mutual
theorem Th.reads (I : Inv X pins σ H s) (SM : SMd X.base) : ∀ (x : Th) (v : V) (u : Value), x.d.showable = true → Th.rp (lkA X.K H) x v → RelV v u → ∃ as, Reads s.heap u x.d as ∧ sysModules ∉ as
  | .int i, _, _, _, h, r => by
    cases h
    obtain ⟨t, rfl⟩ := r
    exact ⟨_, Reads.int i t, by simp⟩
  | .bl b, _, _, _, h, r => by
    cases h
    cases r
    exact ⟨_, Reads.bool b, by simp⟩
  | .non, _, _, _, h, r => by
    cases h
    cases r
    exact ⟨_, Reads.none, by simp⟩
  | .str y, _, _, _, h, r => by
    cases h
    obtain ⟨t, rfl⟩ := r
    exact ⟨_, Reads.str y t, by simp⟩
  | .lst xs, _, _, p, ⟨a, vs, e, h, q⟩, r => by
    subst e
    cases r
    obtain ⟨its, rv, ⟨o, n, ho, hc, _, hd⟩, _⟩ := I.list (SqL.of h)
    obtain ⟨as, hr, hs⟩ := Th.readsL I SM xs vs its (by rw [Th.d, PyData.showable] at p; exact p) q rv
    refine ⟨_, Reads.list ho hc hd hr, fun hm => ?_⟩
    rcases List.mem_cons.mp hm with hm | hm
    · exact sm_ne I SM ho hc (by decide) hm
    · exact hs hm
  | .tup xs, _, _, p, ⟨a, vs, e, h, q⟩, r => by
    subst e
    cases r
    obtain ⟨its, rv, ⟨o, ho, hc, n, hd⟩, _⟩ := I.tuple h
    obtain ⟨as, hr, hs⟩ := Th.readsL I SM xs vs its (by rw [Th.d, PyData.showable] at p; exact p) q rv
    exact ⟨_, Reads.tuple ho hc hd hr, hs⟩
  | .dic ks xs, _, _, p, ⟨a, ws, e, l, h, q⟩, r => by
    subst e
    cases r
    obtain ⟨_, hm, vs, kv, o, es, ep, ho, hx, hd, _, hp, _⟩ := dk_of I.hok (show H a = some (.dK _) from h)
    obtain ⟨g1, g2⟩ := pairs_reads (h := s.heap) (by rw [l, rpL_len q]) hp kv
    rw [Th.d, PyData.showable] at p
    obtain ⟨bs, g3, n3⟩ := Th.readsL I SM xs ws _ (showKv (by rw [List.length_map, dL_len, l]) p) q g2
    refine ⟨a :: [] ++ bs, by rw [Th.d]; exact Reads.dict ho hx.1 hd (by rw [List.map_fst_zip (by rw [List.length_map, dL_len, l]; exact Nat.le_refl _)]; exact g1) (by rw [List.map_snd_zip (by rw [List.length_map, dL_len, l]; exact Nat.le_refl _)]; exact g3), fun hm2 => ?_⟩
    have : sysModules = a ∨ sysModules ∈ bs := by simpa using hm2
    rcases this with this | this
    · rw [← this] at hm
      simp at hm
    · exact n3 this
  | .dis k i, _, _, p, ⟨a, e, h⟩, r => by
    subst e
    cases r
    obtain ⟨_, hm, vs, kv, o, es, ep, ho, hx, hd, _, hp, _⟩ := dk_of I.hok (show H a = some (.dK _) from h)
    cases kv with
    | cons r1 r2 =>
      cases r2
      obtain ⟨l, hl⟩ : ∃ l, l = es.toList := ⟨_, rfl⟩
      rw [← hl] at hp
      cases hp with
      | cons k1 k2 t =>
        rename_i e0 el
        cases t
        obtain ⟨q1, q2⟩ := r1
        have hk : ∃ u, e0.key = Value.str k u := by
          rw [← q1] at k1
          rcases keyIs_shape (show keyIs (Sum.inr k) e0.key = true from k1) with ⟨i, u, e1, e2⟩ | ⟨x, u, e1, e2⟩
          · cases e1
          · cases e1
            exact ⟨u, e2⟩
        obtain ⟨u, hk⟩ := hk
        obtain ⟨t2, q2⟩ : ∃ t2, e0.val = Value.int i t2 := by
          rw [k2]
          exact q2
        rw [Th.d]
        refine ⟨a :: [] ++ ([] ++ []), Reads.dict ho hx.1 hd (kvs := [(.str k, .int i)]) (as := []) (bs := [] ++ []) ?_ ?_, fun hm2 => ?_⟩
        · rw [← hl]
          show ReadsAll s.heap [e0.key] _ _
          rw [hk]
          exact ReadsAll.cons (as := []) (Reads.str _ _) .nil
        · rw [← hl]
          show ReadsAll s.heap [e0.val] _ _
          rw [q2]
          exact ReadsAll.cons (as := []) (Reads.int _ _) .nil
        · have : sysModules = a := by simpa using hm2
          rw [← this] at hm
          simp at hm
  | .exc, _, _, p, _, _ => by
    rw [Th.d, PyData.showable, decide_eq_true_eq] at p
    exact absurd p (by decide +kernel)
theorem Th.readsL (I : Inv X pins σ H s) (SM : SMd X.base) : ∀ (xs : List Th) (vs : List V) (us : List Value), PyData.showableAll (Th.dL xs) = true → Th.rpL (lkA X.K H) xs vs → Vals vs us → ∃ as, ReadsAll s.heap us (Th.dL xs) as ∧ sysModules ∉ as
  | [], _, _, _, h, r => by
    cases h
    cases r
    exact ⟨_, ReadsAll.nil, by simp⟩
  | x :: xs, _, _, p, ⟨v, ws, e, h1, h2⟩, r => by
    rw [Th.dL, PyData.showableAll] at p
    have p2 := Bool.and_eq_true_iff.mp p
    subst e
    cases r with
    | cons r1 r2 =>
      obtain ⟨as, q1, n1⟩ := Th.reads I SM x _ _ p2.1 h1 r1
      obtain ⟨bs, q2, n2⟩ := Th.readsL I SM xs _ _ p2.2 h2 r2
      refine ⟨_, ReadsAll.cons q1 q2, fun hm => ?_⟩
      rcases List.mem_append.mp hm with hm | hm
      · exact n1 hm
      · exact n2 hm
end
end
/-- data that may hold dicts -/
class RpU (α : Type) [Rp α] where
  d : α → PyData
  rd : ∀ {X : Cx} {pins : List (Addr × Obj)} {σ : L2.St} {H : Hp} {s : Shared} {x : α} {v : V} {u : Value}, (d x).showable = true → Inv X pins σ H s → SMd X.base → Rp.rep (lkA X.K H) x v → RelV v u → ∃ as, Reads s.heap u (d x) as ∧ sysModules ∉ as
instance : RpU Th := ⟨Th.d, fun p I SM h r => Th.reads I SM _ _ _ p h r⟩
section
variable {α : Type} [Rp α] [RpU α]
theorem readsU {X : Cx} {pins : List (Addr × Obj)} {σ : L2.St} {H : Hp} {s : Shared} (I : Inv X pins σ H s) (SM : SMd X.base) : ∀ (xs : List α) (vs : List V) (us : List Value), PyData.showableAll (xs.map RpU.d) = true → All2 (Rp.rep (lkA X.K H)) xs vs → Vals vs us → ∃ as, ReadsAll s.heap us (xs.map RpU.d) as ∧ sysModules ∉ as
  | [], [], _, _, h, r => by
    cases r
    exact ⟨_, ReadsAll.nil, by simp⟩
  | [], _ :: _, _, _, h, _ => h.elim
  | _ :: _, [], _, _, h, _ => h.elim
  | x :: xs, v :: vs, _, p, h, r => by
    rw [List.map_cons, PyData.showableAll] at p
    have p2 := Bool.and_eq_true_iff.mp p
    cases r with
    | cons r1 r2 =>
      obtain ⟨as, q1, n1⟩ := RpU.rd p2.1 I SM h.1 r1
      obtain ⟨bs, q2, n2⟩ := readsU I SM xs vs _ p2.2 h.2 r2
      refine ⟨_, ReadsAll.cons q1 q2, fun hm => ?_⟩
      rcases List.mem_append.mp hm with hm | hm
      · exact n1 hm
      · exact n2 hm
instance : RpU (List α) := ⟨fun xs => .list (xs.map RpU.d), fun {X pins σ H s x v u} p I SM ⟨a, vs, e, h, q⟩ r => by
  subst e
  cases r
  obtain ⟨its, rv, ⟨o, n, ho, hc, _, hd⟩, _⟩ := I.list (SqL.of h)
  obtain ⟨as, hr, hs⟩ := readsU I SM x vs its (by rw [PyData.showable] at p; exact p) q rv
  refine ⟨_, Reads.list ho hc hd hr, fun hm => ?_⟩
  rcases List.mem_cons.mp hm with hm | hm
  · exact sm_ne I SM ho hc (by decide) hm
  · exact hs hm⟩
end
/-- a value that reads as data, wherever -/
def DqS (K : PySem.W.Frag) (H : Hp) (v : V) (d : PyData) : Prop := ∀ {X : Cx} {pins : List (Addr × Obj)} {σ : L2.St} {s : Shared} {u : Value}, X.K = K → Inv X pins σ H s → SMd X.base → RelV v u → ∃ as, Reads s.heap u d as ∧ sysModules ∉ as
def rReprU (K : PySem.W.Frag) : List V → Hp → VK → Prop := fun xs H Q => ∃ (x : V) (d : PyData), xs = [x] ∧ DqS K H x d ∧ d.showable = true ∧ d.depth ≤ 60 ∧ d.shown.length ≤ sizeLine ∧ Q (.str d.shown) H
theorem call_reprU {X : Cx} (hgd : X.A.guards = some []) (hu : X.A.units + 64 < cLine) (SM : SMd X.base) : CallR X (.builtin "repr") (rReprU X.K) := by
  intro pins s σ H xs us Q I r h
  obtain ⟨x, d, rfl, hd, hs, hdp, hz, q⟩ := h
  obtain ⟨u, rfl, rx⟩ := vals1 r
  obtain ⟨as, rd, hsm⟩ := hd rfl I SM rx
  have key : ∀ a, u = .ref a → wpAny (model X.prog X.w) X.A (call (.builtin "repr") [u]) (EP X pins σ Q) X.xe s := fun a ea => by
    subst ea
    exact repr_of_reads' rd hs (fun _ => hsm) hgd (by omega) (fun b o e => e)
      (fun h' u tk hk => ⟨.str d.shown, H, I.kept hk, ⟨_, rfl⟩, q⟩) hz
  cases rd with
  | none => exact PySem.P.repr_of_none ⟨.str _, H, I.tok _, ⟨_, rfl⟩, q⟩
  | bool b =>
    exact PySem.P.repr_of_bool ⟨.str _, H, I.tok _, ⟨_, rfl⟩, by
      rw [PyData.shown] at q
      cases b <;> exact q⟩
  | int i t =>
    have hi : i.natAbs.log2 < 1920 := by simpa [PyData.showable] using hs
    exact PySem.P.repr_of_int hi ⟨.str _, H, I.tok _, ⟨_, rfl⟩, q⟩
  | str y t => exact PySem.P.repr_of_str ⟨.str _, H, I.tok _, ⟨_, rfl⟩, q⟩ hz
  | list => exact key _ rfl
  | tuple => exact key _ rfl
  | dict => exact key _ rfl
section
variable {K : PySem.W.Frag} {B H : Hp} {ctx : List Fact} {L : List Own} {α : Type} [Rp α] [RpU α] {x : α} {v : V} {Q : VK}
def reprU (x : α) : Option PySem.Str := if (RpU.d x).showable = true ∧ (RpU.d x).depth ≤ 60 ∧ (RpU.d x).shown.length ≤ sizeLine then some (RpU.d x).shown else none
theorem w_reprU {s : PySem.Str} (W : Wd K B ctx L H) (h : Ar K ctx L x v) (e : reprU x = some s) (k : Q (.str s) H) : rReprU K [v] H Q := by
  obtain ⟨N, F, W⟩ := W
  obtain ⟨⟨s1, s2, s3⟩, rfl⟩ := guardE e
  have hr := h B H N F W
  exact ⟨v, _, rfl, fun {X pins σ s u} eK I SM r => by subst eK; exact RpU.rd s1 I SM hr r, s1, s2, s3, k⟩
end
/-! ### dict displays -/
section
variable {K : PySem.W.Frag} {B H N F : Hp} {ctx : List Fact} {L : List Own} {Q : VK} {σ : L2.St} {p : Addr} {kvs : List (Key × V)} {f : Fact}
/-- a new dict, never changed -/
theorem Wd.newD (W : WdI K B ctx L H N F) (hp : H p = Option.none) (t : Bool) (h : ∀ N' F', Same N N' → Same F F' → (reg t K N' F').d p kvs → f.P K N' F') : Wd K B (f :: ctx) L (upd H p (.dK kvs)) := by
  have hF : F p = Option.none := W.fH.free hp
  have hN : N p = Option.none := W.nF.free hF
  have hB : B p = Option.none := W.bF.free hF
  have sN : Same N (upd N p (.dK kvs)) := fun b u e => by
    rw [upd_ne (ne_of_none e hN)]
    exact e
  have sF : Same F (upd F p (.dK kvs)) := fun b u e => by
    rw [upd_ne (ne_of_none e hF)]
    exact e
  refine ⟨upd N p (.dK kvs), upd F p (.dK kvs), W.bF.trans sF, fun b u e => ?_, fun b u e => ?_, fun b u e => ?_, fun f hf => ?_, fun o ho => ?_, fun o ho => ?_, W.nd⟩
  · by_cases h : b = p
    · rw [h, upd_same] at e ⊢
      exact e
    · rw [upd_ne h] at e ⊢
      exact W.nF b u e
  · by_cases h : b = p
    · rw [h]
      exact hB
    · rw [upd_ne h] at e
      exact W.sep b u e
  · by_cases h : b = p
    · rw [h, upd_same] at e ⊢
      exact e
    · rw [upd_ne h] at e ⊢
      exact W.fH b u e
  · rcases List.mem_cons.mp hf with rfl | hf
    · refine h _ _ sN sF ?_
      cases t
      · exact upd_same
      · exact upd_same
    · exact f.mono sN sF (W.facts f hf)
  · obtain ⟨u, e, r⟩ := W.at_ o ho
    exact ⟨u, by rw [upd_ne (ne_of_none e hp)]; exact e, o.mono sN sF r⟩
  · obtain ⟨u, e, r⟩ := W.at_ o ho
    rw [upd_ne (ne_of_none e hp)]
    exact W.off o ho
/-- a new object, never changed -/
theorem Wd.newX {u : HO} (W : WdI K B ctx L H N F) (hp : H p = Option.none) (t : Bool) (h : ∀ N' F', Same N N' → Same F F' → (bif t then N' p = some u else F' p = some u) → f.P K N' F') : Wd K B (f :: ctx) L (upd H p u) := by
  have hF : F p = Option.none := W.fH.free hp
  have hN : N p = Option.none := W.nF.free hF
  have hB : B p = Option.none := W.bF.free hF
  have sN : Same N (upd N p u) := fun b u' e => by
    rw [upd_ne (ne_of_none e hN)]
    exact e
  have sF : Same F (upd F p u) := fun b u' e => by
    rw [upd_ne (ne_of_none e hF)]
    exact e
  refine ⟨upd N p u, upd F p u, W.bF.trans sF, fun b u' e => ?_, fun b u' e => ?_, fun b u' e => ?_, fun f hf => ?_, fun o ho => ?_, fun o ho => ?_, W.nd⟩
  · by_cases h : b = p
    · rw [h, upd_same] at e ⊢
      exact e
    · rw [upd_ne h] at e ⊢
      exact W.nF b u' e
  · by_cases h : b = p
    · rw [h]
      exact hB
    · rw [upd_ne h] at e
      exact W.sep b u' e
  · by_cases h : b = p
    · rw [h, upd_same] at e ⊢
      exact e
    · rw [upd_ne h] at e ⊢
      exact W.fH b u' e
  · rcases List.mem_cons.mp hf with rfl | hf
    · refine h _ _ sN sF ?_
      cases t
      · exact upd_same
      · exact upd_same
    · exact f.mono sN sF (W.facts f hf)
  · obtain ⟨w, e, r⟩ := W.at_ o ho
    exact ⟨w, by rw [upd_ne (ne_of_none e hp)]; exact e, o.mono sN sF r⟩
  · obtain ⟨w, e, r⟩ := W.at_ o ho
    rw [upd_ne (ne_of_none e hp)]
    exact W.off o ho
/-- ValueError("..") -/
theorem w_exc (W : Wd K B ctx L H) (k : ∀ p H', Wd K B (fc true Th.exc (.ref p) :: ctx) L H' → Q (.ref p) H') : ∀ p, H p = Option.none → Q (.ref p) (upd H p (ExO (.type "ValueError") p)) := fun p hp => by
  obtain ⟨N, F, W⟩ := W
  exact k p _ (Wd.newX W hp true fun N' F' _ _ q => ⟨p, rfl, q⟩)
/-- {} -/
theorem w_dnew (W : Wd K B ctx L H) (k : ∀ p H', Wd K B (fc true (Th.dic [] []) (.ref p) :: ctx) L H' → Q (.ref p) H') : tDNewK σ H Q := fun p hp => by
  obtain ⟨N, F, W⟩ := W
  exact k p _ (Wd.newD (kvs := []) W hp true fun N' F' _ _ q => ⟨p, [], rfl, rfl, q, rfl⟩)
theorem upd2 {u u' : HO} : upd (upd H p u) p u' = upd H p u' := by
  funext b
  by_cases h : b = p
  · rw [h, upd_same, upd_same]
  · rw [upd_ne h, upd_ne h, upd_ne h]
/-- {i: j} -/
theorem w_disp1 {i j : Int} (W : Wd K B ctx L H) (k : ∀ p H', Wd K B (fc true (Th.dic [i] [.int j]) (.ref p) :: ctx) L H' → Q (.ref p) H') : tDisp [(tC (.int i), tC (.int j))] σ H Q := fun p hp => by
  obtain ⟨N, F, W⟩ := W
  refine ⟨upd_same, [(Sum.inl i, .int j)], rfl, by show 1 ≤ 15; decide, ?_⟩
  rw [upd2]
  exact k p _ (Wd.newD (kvs := [(Sum.inl i, .int j)]) W hp true fun N' F' _ _ q => ⟨p, [.int j], rfl, rfl, q, _, _, rfl, rfl, rfl⟩)
/-- {"k": j} -/
theorem w_disp1S {k : PySem.Str} {j : Int} (W : Wd K B ctx L H) (q : ∀ p H', Wd K B (fc true (Th.dis k j) (.ref p) :: ctx) L H' → Q (.ref p) H') : tDisp [(tC (.str k), tC (.int j))] σ H Q := fun p hp => by
  obtain ⟨N, F, W⟩ := W
  refine ⟨upd_same, [(Sum.inr k, .int j)], rfl, by show 1 ≤ 15; decide, ?_⟩
  rw [upd2]
  exact q p _ (Wd.newD (kvs := [(Sum.inr k, .int j)]) W hp true fun N' F' _ _ q => ⟨p, rfl, q⟩)
end
/-! ### a thing and a whole number; a tuple of none -/
def Th.num : Th → Option Int
  | .int i => some i
  | .bl b => some (if b = true then 1 else 0)
  | _ => none
def rAddTh : R2 := fun x y H Q => (∃ b j, x = .bl b ∧ y = .int j ∧ Q (.int ((if b = true then (1 : Int) else 0) + j)) H) ∨ rI0 (fun i j => .int (i + j)) x y H Q
theorem op_addTh {X : Cx} : OpR X (binaryOp .Add) rAddTh := fun pins s σ H x y v u Q I rx ry h => by
  rcases h with ⟨b, j, rfl, rfl, q⟩ | h
  · cases rx
    obtain ⟨t, rfl⟩ := ry
    exact PySem.IntBool.add_bool_int ⟨.int _, H, I.tok _, ⟨_, rfl⟩, q⟩
  · exact op_add pins s σ H x y v u Q I rx ry h
structure T0 where
  deriving DecidableEq
instance : Rp T0 := ⟨fun S _ v => ∃ a, v = .ref a ∧ S.t a [], fun s ⟨a, e, h⟩ => ⟨a, e, s.t _ _ h⟩⟩
instance : Co T0 Th := ⟨fun _ => .tup [], fun ⟨a, e, h⟩ => ⟨a, [], e, h, rfl⟩⟩
section
variable {K : PySem.W.Frag} {B H : Hp} {ctx : List Fact} {L : List Own} {Q : VK} {t : Bool} {x : Th} {v : V} {i j : Int}
theorem w_addTh (W : Wd K B ctx L H) (h : Kn K ctx t x v) (e : Th.num x = some i) (k : Q (.int (i + j)) H) : rAddTh v (.int j) H Q := by
  obtain ⟨N, F, W⟩ := W
  have r := h N F W.nF W.facts
  cases x with
  | int n =>
    cases (show v = .int n from r)
    cases e
    exact .inr ⟨_, _, rfl, rfl, k⟩
  | bl b =>
    cases (show v = .bl b from r)
    cases e
    exact .inl ⟨b, j, rfl, rfl, k⟩
  | _ => cases e
theorem w_tup1 {α : Type} [Rp α] {y : α} {u : V} (W : Wd K B ctx L H) (h : Kn K ctx t y u) (k : ∀ p H', Wd K B (fc t (T1.mk y) (.ref p) :: ctx) L H' → Q (.ref p) H') : rTup [u] H Q := by
  obtain ⟨N, F, W⟩ := W
  exact ⟨(by show (1 : Nat) ≤ sizeLine; decide), fun p hp => k p _ (Wd.newT W hp t fun N' F' s s' q => ⟨p, u, rfl, q, Rp.mono (reg_mono s s') (h N F W.nF W.facts)⟩)⟩
theorem w_tup0 (W : Wd K B ctx L H) (k : ∀ p H', Wd K B (fc t T0.mk (.ref p) :: ctx) L H' → Q (.ref p) H') : rTup [] H Q := by
  obtain ⟨N, F, W⟩ := W
  exact ⟨(by show (0 : Nat) ≤ sizeLine; decide), fun p hp => k p _ (Wd.newT W hp t fun N' F' s s' q => ⟨p, rfl, q⟩)⟩
end
/-! ### tuple(xs), a thing -/
section
variable {K : PySem.W.Frag} {B H : Hp} {ctx : List Fact} {L : List Own} {Q : VK} {t : Bool} {α : Type} [Rp α] [Co α Th] {xs : List α} {v : V}
def rTupOf (K : PySem.W.Frag) : List V → Hp → VK → Prop := fun xs H Q => ∃ p ys, xs = [.ref p] ∧ ((SqL K H p ys ∧ ∀ l, H l = none → Q (.ref l) (upd H l (.tup ys))) ∨ (SqT K H p ys ∧ Q (.ref p) H))
theorem call_tupOf {X : Cx} : CallR X (.type "tuple") (rTupOf X.K) := call_tuple_of
theorem w_tupOf (W : Wd K B ctx L H) (h : Ls K ctx L t xs v) (k : ∀ p H', Wd K B (fc t (Th.tup (xs.map Co.f)) (.ref p) :: ctx) L H' → Q (.ref p) H') : rTupOf K [v] H Q := by
  obtain ⟨N, F, W⟩ := W
  obtain ⟨a, vs, rfl, h1, h2⟩ := h B H N F W
  exact ⟨a, vs, rfl, .inl ⟨h1, fun l hl => k l _ (Wd.newT W hl t fun N' F' s s' q => ⟨l, vs, rfl, q, rpL_all.mpr (all2_map (h2.mono fun _ _ r => Rp.mono (reg_mono s s') r))⟩)⟩⟩
end
/-! ### the law's own call, where the modules' dict stands -/
theorem law_callS {P : Program} {w : World} {K : PySem.W.Frag} {mg mb : Str → Option Value} {k : Nat}
    {fa a : Addr} {fd : FuncData} {x : Str} {sp : Sp} {z : Shared} {vs : List Value} {ns : List Int}
    (KX : K.In z.heap) (hns : z.heap.Ns mainGlobals mg) (hb : z.heap.Ns builtinsNs mb)
    (hbb : ∀ x : Str, x ≠ "__name__" → mb x = bootBuiltins x) (hlim : z.heap.NoLimit) (hsm : SMd z.heap) (hg : z.gens = #[])
    (ha : z.heap.get? a = some { cls := .type "list", data := .seq vs.toArray })
    (hi : IntsAre vs ns) (hl : ns.length ≤ sizeLine) (hr : Room k callerA)
    (F : ∀ base : Heap, K.In base → base.Ns mainGlobals mg → SMd base → FnG P w K mg base k fa fd [x] sp)
    (hbind : ∀ (s : Shared) (u : Value), BindsTo s fd ⟨[u], []⟩ [(x, u)])
    (hsp : ∀ H : Hp, SqL K H a (ns.map V.int) →
      sp [.ref a] H (fun v _ => v = .bl true) fun _ _ _ => False) :
    codeAny (model P w) callerA (.call (.ref fa) ⟨[.ref a], []⟩)
      (fun r s' => r = .ok (.ret (.bool true)) ∧ OldK z.heap s'.heap ∧ s'.os = z.os ∧ AllBare s'.gens) z := by
  have rv := vals_ints hi
  have lenV := hi.length
  have core : ∀ H : Hp, Only H → SqL K H a (ns.map V.int) → HOk P w H z.heap →
      (∀ b, H b ≠ none → b = a) → (H a ≠ none → K.lookup a = none) →
      codeAny (model P w) callerA (.call (.ref fa) ⟨[.ref a], []⟩)
        (fun r s' => r = .ok (.ret (.bool true)) ∧ OldK z.heap s'.heap ∧ s'.os = z.os ∧ AllBare s'.gens) z := by
    intro H hO hS hok hA hK
    have noA : ∀ {b : Addr} {o : Obj} {es : Array DictEntry} {ep : Nat}, z.heap.get? b = some o →
        o.data = .dict es ep → H b = none := fun {b o es ep} e d => by
      cases q : H b with
      | none => rfl
      | some u =>
        obtain rfl : b = a := hA b (by simp [q])
        rw [ha] at e
        cases e
        cases (show Data.seq vs.toArray _ = Data.dict es ep from d)
    have nsK : ∀ {b : Addr} {m : Str → Option Value}, z.heap.Ns b m → (hidT z.heap H).Ns b m :=
      fun {b m} ⟨o, es, ep, e, d, r⟩ => ⟨o, es, ep, hidT_get e (noA e d), d, r⟩
    have hKb : K.In (hidT z.heap H) := fun b o e => hidT_get (KX b o e) (by
      cases q : H b with
      | none => rfl
      | some u =>
        obtain rfl : b = a := hA b (by simp [q])
        rw [hK (by simp [q])] at e
        cases e)
    have hSb : SMd (hidT z.heap H) := by
      obtain ⟨o, h1, h2⟩ := hsm
      refine ⟨o, hidT_get h1 ?_, h2⟩
      cases q : H sysModules with
      | none => rfl
      | some u =>
        have e : sysModules = a := hA sysModules (by simp [q])
        rw [← e] at ha
        rw [ha] at h1
        have h2 : Value.type "list" = Value.type "dict" := by rw [← h2, ← Option.some.inj h1]
        exact absurd h2 (by decide)
    have hM : Mod K mg (hidT z.heap H) :=
      ⟨hKb, nsK hns, ⟨mb, nsK hb, hbb⟩, let ⟨mc, h1, h2⟩ := hlim; ⟨mc, nsK h1, h2⟩⟩
    have e0 : Env0 P w K mg (hidT z.heap H) callerA [] z H :=
      ⟨rfl, hM, fun b o e => of_hidT e, Nat.le_of_eq (hidT_size _ _), trivial,
        fun b hb => absurd (show b ∈ ([] : List Addr) from hb) (by simp), hok, .of_eq hg⟩
    refine codeAny_mono ((F _ hKb (nsK hns) hSb).run callerA [] z H ⟨[.ref a], []⟩ [.ref a] [.ref a] _ _ hr rfl e0
      (hbind z (.ref a)) (.cons rfl .nil) (hsp H hS)) fun r s' h => ?_
    match r, h with
    | .error e, h =>
      obtain ⟨_, _, _, _, _, _, _, _, _, _, _, _, q⟩ := h
      exact q.elim
    | .ok .next, h => exact h.elim
    | .ok .brk, h => exact h.elim
    | .ok .cont, h => exact h.elim
    | .ok (.ret u), h =>
      obtain ⟨v, H', os, bare, un, hok', r', q⟩ := h
      obtain rfl : v = .bl true := q
      obtain rfl : u = Value.bool true := r'
      refine ⟨rfl, OldK.of_keep fun b o e => ?_, os, bare⟩
      cases q : H b with
      | none =>
        exact un.keep b o e q (fun y => absurd (show b ∈ ([] : List Addr) from y) (by simp)) (by simp)
      | some u =>
        rcases hO b with y | ⟨ob, xs, y⟩
        · rw [q] at y
          cases y
        · obtain ⟨e1, _⟩ := hok b _ y
          obtain ⟨e2, _⟩ := hok' b _ (un.frzs b ob _ y)
          rw [e] at e1
          cases e1
          exact e2
  cases hk : K.lookup a with
  | some o =>
    have e := KX a o hk
    rw [ha] at e
    cases e
    refine core (fun _ => none) (fun _ => .inl rfl) (.inr ⟨_, vs.toArray, _, hk, rfl, rfl, rfl, ?_, by simpa using rv⟩)
      (fun b u q => by cases (show (none : Option HO) = some u from q)) (fun b q => absurd rfl q) fun q => absurd rfl q
    rw [List.size_toArray, lenV]
    exact hl
  | none =>
    let oS : Obj := { cls := .type "list", data := .seq vs.toArray }
    let HS : Hp := fun b => if b = a then some (.frz oS (.lst (ns.map V.int))) else none
    have hS : HS a = some (.frz oS (.lst (ns.map V.int))) := if_pos rfl
    have hN : ∀ b, b ≠ a → HS b = none := fun b hb => if_neg hb
    refine core HS (fun b => ?_) (.inl (.inr ⟨oS, hS⟩)) (fun b u q => ?_) (fun b q => ?_) fun _ => hk
    · by_cases hb : b = a
      · exact .inr ⟨_, _, by rw [hb]; exact hS⟩
      · exact .inl (hN b hb)
    · by_cases hb : b = a
      · subst hb
        rw [hS] at q
        cases q
        exact ⟨ha, by rw [List.length_map]; exact hl, vs, _, rv, ha⟩
      · rw [hN b hb] at q
        cases q
    · by_cases hb : b = a
      · exact hb
      · exact absurd (hN b hb) q

/-- a law's end over a head by facts -/
theorem walk_ofS {l : PySem.W.OpenLaw} {n k : Nat} {q : Program} {loose : List Str}
    {XP : (Str → Option Value) → Heap → Prop} {YP : World → Heap → Prop} {d : DefRec} {x : Str}
    (hn : l.most = some n) (hn2 : n ≤ sizeLine) (hdf : d.params.defaults = []) (hr : Room k callerA)
    (F : ∀ (w : World) (mg : Str → Option Value) (fa : Addr) (h : Heap), SMd h → YP w h → h.Ns mainGlobals mg →
      mg d.name = some (.ref fa) → ∃ (K : PySem.W.Frag) (fd : FuncData) (sp : Sp), K.In h ∧
        (∀ (s : Shared) (u : Value), BindsTo s fd ⟨[u], []⟩ [(x, u)]) ∧
        (∀ (H : Hp) (a : Addr) (ns : List Int), ns.length ≤ n → SqL K H a (ns.map V.int) →
          sp [.ref a] H (fun v _ => v = .bl true) fun _ _ _ => False) ∧
        ∀ base : Heap, K.In base → base.Ns mainGlobals mg → SMd base → FnG l.prog w K mg base k fa fd [x] sp) :
    PySem.W.WalkO q loose XP (fun w h => SMd h ∧ YP w h) l.row.toRowW d [] (fun f vs => PySem.call f vs) := by
  refine Att.attach_call hn hdf fun w s₀ z mg mb fa o pm cd doc a vs ns G Y ho hd hcd hmg hobj hints hlen hg => ?_
  obtain ⟨K, fd, sp, KX, hb, hsp, hF⟩ := F w mg fa _ Y.1 Y.2 G.T.g hmg
  exact law_callS KX G.T.g G.T.b G.T.builtins G.T.nolimit Y.1 hg hobj hints (Nat.le_trans hlen hn2) hr hF hb
    (fun H hS => hsp H a ns hlen hS)

/-! ### the head: the modules' dict stands where it stood -/
def smB (g : Addr → Option Obj) : Bool := match g sysModules with
  | some ⟨.type c, _, _, _⟩ => decide (c = "dict")
  | _ => false
theorem sm_of {h : Heap} (e : smB h.get? = true) : SMd h := by
  unfold smB at e
  split at e
  · next c _ _ _ q => exact ⟨_, q, congrArg Value.type (of_decide_eq_true e)⟩
  · cases e
def hookS (n : Nat) (fa : List He.Fa) (fn : List He.DefD) : PySem.W.Hook where
  α := Bool × He.AlD
  obs := fun s => (smB s.heap.get?, He.obsDG n fa fn s.heap.get?)
  val := fun _ => (true, He.valD fn)
  says := fun _ h => SMd h ∧ ∃ K : PySem.W.Frag, K.In h ∧ He.SaysD fa fn K
  of := fun w s e => ⟨sm_of (congrArg Prod.fst e), (He.hookD n fa fn).of w s (congrArg Prod.snd e)⟩
  keeps := fun w h h' ⟨⟨o, h1, h2⟩, q⟩ k => ⟨⟨o, k _ _ h1, h2⟩, (He.hookD n fa fn).keeps w h h' q k⟩
def obsS (n : Nat) (fa : List He.Fa) (fn : List He.DefD) (g : Addr → Option Obj) : Bool × He.AlD := (smB g, He.obsDG n fa fn g)
theorem obsS_eq {n : Nat} {fa : List He.Fa} {fn : List He.DefD} {g : Addr → Option Obj} {s : Shared} (h : ∀ a, g a = s.heap.get? a) : obsS n fa fn g = (hookS n fa fn).obs s := by
  have e : g = s.heap.get? := funext h
  rw [e] <;> rfl
end PB

namespace PB
open PySem PySem.Spec PyProof.Rows L2
/-! ### dict(enumerate(xs)) -/
def rangeI (i : Int) : Nat → List Int
  | 0 => []
  | n + 1 => i :: rangeI (i + 1) n
theorem rangeI_len : ∀ (n : Nat) (i : Int), (rangeI i n).length = n
  | 0, _ => rfl
  | n + 1, i => congrArg Nat.succ (rangeI_len n (i + 1))
theorem enV_nodup {α : Type} : ∀ (xs : List α) (i : Nat), ((enV i xs).map (·.1)).Nodup ∧ ∀ k ∈ (enV i xs).map (·.1), ∃ j : Nat, i ≤ j ∧ k = Sum.inl (j : Int)
  | [], _ => ⟨List.nodup_nil, fun _ h => by cases h⟩
  | x :: xs, i => by
    obtain ⟨h1, h2⟩ := enV_nodup xs (i + 1)
    refine ⟨List.nodup_cons.mpr ⟨fun hm => ?_, h1⟩, fun k hk => ?_⟩
    · obtain ⟨j, hj, e⟩ := h2 _ hm
      have e2 := Sum.inl.inj e
      omega
    · rcases List.mem_cons.mp hk with e | hk
      · exact ⟨i, Nat.le_refl _, e⟩
      · obtain ⟨j, hj, e⟩ := h2 k hk
        exact ⟨j, by omega, e⟩
def rDE (K : PySem.W.Frag) (x : V) (H : Hp) (Q : VK) : Prop := ∃ (a : Addr) (xs : List V), x = .ref a ∧ SqL K H a xs ∧ ∀ p, H p = none → Q (.ref p) (upd H p (.dK (enV 0 xs)))
def tDE (K : PySem.W.Frag) (te : TE) : TE := fun σ H Q => te σ H fun x H1 => rDE K x H1 Q
theorem boot_dict : bootBuiltins "dict" = some (.type "dict") := by decide +kernel
section
variable {X : Cx} {e : Expr} {te : TE} {p p2 pos pos2 : Pos}
theorem pe_dictEnum (hc : X.calm = true) (hg : Gl X "dict") (hm : X.mg "dict" = none) (hg2 : Gl X "enumerate")
    (hm2 : X.mg "enumerate" = none) (he : PE X e te)
    (hs : starEach [e] X.env = (false, eval e X.env) :: starEach [] X.env := by rfl)
    (hs2 : starEach [.Call (.Name "enumerate" p2) [e] [] pos2] X.env =
      (false, eval (.Call (.Name "enumerate" p2) [e] [] pos2) X.env) :: starEach [] X.env := by rfl) :
    PE X (.Call (.Name "dict" p) [.Call (.Name "enumerate" p2) [e] [] pos2] [] pos) (tDE X.K te) := by
  refine ⟨fun pins s σ H Q I h => ?_⟩
  refine Call_ (ld_blt I hg hm boot_dict (PyProof.Rows.callWith_type1 (args_cons ?_ hs2) hs2))
  refine Call_ (ld_blt I hg2 hm2 boot_enumerate (PyProof.Rows.callWith_type1 (one_arg he I h (fun v s1 x H1 I1 rx q => ?_) hs) hs))
  obtain ⟨a, xs, rfl, hq, q⟩ := q
  obtain rfl : v = .ref a := rx
  obtain ⟨its, rv, pl, hz⟩ := I1.list hq
  have hlen := rv.length
  refine call_enumerate_list pl.isList fun h1 he1 hit1 hsz1 hk1 => ?_
  refine args_nil ?_
  have I2 : Inv X pins σ H1 { s1 with heap := h1 } := I1.kept (t' := s1.toks) hk1
  obtain ⟨ol, hol, rl⟩ := pl.isList
  have ll : a < s1.heap.objs.size := Heap.lt_size hol
  have hn : its.toArray.size = xs.length := by rw [hlen]; simp
  refine PySem.call_dict_pairs (s := { s1 with heap := h1 }) (knd := mixKind X.prog X.w) (kvs := enV 0 its) (PySem.PairArg.enumerate (s1.heap.objs.size + 1) s1.heap.objs.size a (Nat.succ_ne_self _) (Nat.ne_of_lt (Nat.lt_succ_of_lt ll)) (Nat.ne_of_lt ll) its.toArray) (I2.ok.hd hc)
    ⟨⟨_, he1⟩, hit1, ⟨ol, hk1 _ _ hol, rl⟩⟩ ⟨by rw [enV_len]; simp, fun i key v hv => ?_⟩ (by rw [hn]; exact hz) fun h' tk hd' hk => ?_
  · obtain ⟨⟨t, ek⟩, ev⟩ := hv
    refine ⟨Sum.inl (i : Int), ?_, ?_⟩
    · rw [enV_get]
      have ev2 : its[i]? = some v := by simpa using ev
      rw [ev2]
      simp
    · subst ek
      show Value.isInt (i : Int) (.int i t) = true
      simp [Value.isInt]
  · rw [PySem.merged_nil_of_nodup _ (enV_nodup its 0).1] at hd'
    have hmm : (h1.objs.size == sysModules) = false := beq_eq_false_iff_ne.mpr (Nat.ne_of_gt I2.big)
    have hle : s1.heap.objs.size ≤ h1.objs.size := by rw [hsz1]; omega
    have kk : ∀ b o, s1.heap.get? b = some o → h'.get? b = some o := fun b o e =>
      hk b o (fun hm => by
        have lt : b < s1.heap.objs.size := Heap.lt_size e
        simp only [List.mem_cons, List.not_mem_nil, or_false] at hm
        rcases hm with hm | hm
        · exact absurd lt (by rw [hm]; exact Nat.not_lt.mpr (Nat.le_succ _))
        · exact absurd lt (by rw [hm]; exact Nat.lt_irrefl _)) (hk1 b o e)
    exact ⟨.ref h1.objs.size, upd H1 h1.objs.size (.dK (enV 0 xs)), I1.laid (t' := tk) kk hle (show ObjOk X.prog X.w _ _ _ (.dK (enV 0 xs)) from ⟨by rw [enV_len]; exact hz, hmm, enV 0 its, enV_kv xs its 0 rv, hd'⟩), rfl, q _ (I1.hok.fresh hle)⟩
end
theorem enV_dK : ∀ (vs : List V) (i : Nat), enV i vs = dK (rangeI i vs.length) vs
  | [], _ => rfl
  | v :: vs, i => by
    have ih := enV_dK vs (i + 1)
    show _ :: enV (i + 1) vs = _
    rw [ih]
    rfl
theorem w_de {K : PySem.W.Frag} {B H : Hp} {ctx : List Fact} {L : List Own} {t : Bool} {α : Type} [Rp α] [Co α Th] {xs : List α} {v : V} {Q : VK} (W : Wd K B ctx L H) (h : Ls K ctx L t xs v) (k : ∀ p H', Wd K B (fc t (Th.dic (rangeI 0 xs.length) (xs.map Co.f)) (.ref p) :: ctx) L H' → Q (.ref p) H') : rDE K v H Q := by
  obtain ⟨N, F, W⟩ := W
  obtain ⟨a, vs, rfl, h1, h2⟩ := h B H N F W
  refine ⟨a, vs, rfl, h1, fun p hp => k p _ (Wd.newD (kvs := enV 0 vs) W hp t fun N' F' s s' q => ⟨p, vs, rfl, ?_, ?_, rpL_all.mpr (all2_map (h2.mono fun _ _ r => Rp.mono (reg_mono s s') r))⟩)⟩
  · rw [rangeI_len, List.length_map]
  · rw [enV_dK, h2.len] at q
    exact q
theorem i_tDE {K : PySem.W.Frag} {te : TE} {σ : L2.St} {H : Hp} {Q : VK} (h : te σ H fun x H1 => rDE K x H1 Q) : tDE K te σ H Q := h
/-! ### ValueError("..") as a value, its reading by name -/
def tExcV : TE := fun _ H Q => ∀ a, H a = none → Q (.ref a) (upd H a (ExO (.type "ValueError") a))
theorem pe_excV {X : Cx} {x : PySem.Str} {p pos : Pos} {m : PySem.Str} {j : Nat} {p2 : Pos} (hg : Gl X x) (hm : X.mg x = none) (hv : bootBuiltins x = some (.type "ValueError")) (hn : x ≠ "__name__" := by decide) (hdb : (x == ("__debug__" : PySem.Str)) = false := by decide) :
    PE X (.Call (.Name x p) [.Constant (.str m) j p2] [] pos) tExcV := pe_excS exb_ValueError hg hm hv hn hdb
theorem w_excV {K : PySem.W.Frag} {B H : Hp} {ctx : List Fact} {L : List Own} {Q : VK} {σ : L2.St} (W : Wd K B ctx L H) (k : ∀ p H', Wd K B (fc true Th.exc (.ref p) :: ctx) L H' → Q (.ref p) H') : tExcV σ H Q := w_exc W k
end PB

namespace PB
open PySem PySem.Spec PyProof.Rows L2
/-! ### an error that is caught and kept -/
section
variable {X : Cx} {pins : List (Addr × Obj)} {σ : L2.St} {H : Hp} {s : Shared}
theorem Inv.suiteK (I : Inv X pins σ H s) {a : Addr} {oe : Obj} {vs : Array Value} {cls : Value} (ha : s.heap.get? a = some oe) (hz : Zc cls none oe) (hd : oe.data = .fields vs) (na : H a = none) (nL : a ≠ X.env.locals)
    (n0 : X.s_0.heap.get? a = none) (np : ∀ p ∈ X.pn ++ pins, p.1 ≠ a) : Inv (X.suite a (X.pn ++ pins)) [] σ (upd H a (EcO cls a)) s := by
  have ne0 : ∀ b o, X.s_0.heap.get? b = some o → b ≠ a := fun b o e z => by
    rw [z, n0] at e
    cases e
  refine ⟨I.ok.suite _ _, I.os, I.bare, ⟨fun b o e n hb hx => I.base.keep b o e n hb hx, fun b o e n hb hx => I.base.slot b o e n hb hx, fun b o e n hx => ?_, fun b o e hx => I.base.there b o e hx, fun b xs e => ?_, fun b o u e => ?_, fun b ps e => ?_⟩, I.loc, I.cell, ?_, fun x c e => ?_, fun p hp => ?_, ?_, I.len⟩
  · rw [upd_ne (ne0 b o e)]
    exact I.base.free b o e n hx
  · have q := I.base.tups b xs e
    rw [upd_ne (ne_of_none q na)]
    exact q
  · have q := I.base.frzs b o u e
    rw [upd_ne (ne_of_none q na)]
    exact q
  · obtain ⟨more, q⟩ := I.base.tbls b ps e
    exact ⟨more, by rw [upd_ne (ne_of_none q na)]; exact q⟩
  · show upd H a _ X.env.locals = none
    rw [upd_ne nL.symm]
    exact I.free
  · have hc : c ≠ a := fun z => by
      obtain ⟨v, o, ho, hdd⟩ := I.cell x c e
      rw [z, ha] at ho
      cases ho
      rw [hd] at hdd
      cases hdd
    rw [upd_ne hc]
    exact I.freeC x c e
  · rw [List.append_nil] at hp
    obtain ⟨p1, p2, p3, p4, p5⟩ := I.pin p hp
    exact ⟨p1, by rw [upd_ne (np p hp)]; exact p2, p3, p4, p5⟩
  · exact I.hok.laidN (fun _ _ e => e) na (ecO_ok ha hz hd)
theorem Inv.unsuiteK {a : Addr} {pn' : List (Addr × Obj)} (I : Inv (X.suite a (X.pn ++ pins)) pn' σ H s) (ok : X.Ok) : Inv X pins σ H s :=
  ⟨ok, I.os, I.bare, I.base, I.loc, I.cell, I.free, I.freeC, fun p hp => I.pin p (List.mem_append_left _ hp), I.hok, I.len⟩
end
/-- what 'except x as n' wishes, the error kept -/
def wK (K : PySem.W.Frag) (c : Value) (i : Nat) (ts : TS) (D : Ends) : WX := fun cls d σ H => d = none ∧ PySem.W.exmOne K cls c = some true ∧
  ∀ a, H a = none → ts { nx := fun σ' H' => D.nx (σ'.set i none) H', rt := D.rt, bk := fun σ' H' => D.bk (σ'.set i none) H', ct := fun σ' H' => D.ct (σ'.set i none) H' } (σ.set i (some (.ref a))) (upd H a (EcO cls a))
section
variable {X : Cx} {x n : Str} {c : Value} {i : Nat} {body suite : List Stmt} {b₀ : Stmt} {np pos pos' : Pos} {tb : WX → TS} {ts : TS}
theorem ps_try_k (hs : X.stack = X.env :: X.outer) (hf : X.env.frame = some X.env.locals) (hex : X.ex = []) (hN : X.N.Nodup) (hi : X.N[i]? = some n) (hln : X.env.kindOf n = some .local) (hc : Names X x c)
    (hb : ∀ (W : WX) (pn : List (Addr × Obj)) (xe : Value → Shared → Prop), Takes (X.tr pn xe) W → PassesOwn (model X.prog X.w) X.A X.env xe → PSs (X.tr pn xe) body (tb W))
    (hsu : ∀ (a : Addr) (pn : List (Addr × Obj)), PSs (X.suite a pn) (b₀ :: suite) ts) :
    PS X (.Try body [.ExceptHandler (some (.Name x np)) (some n) (b₀ :: suite) pos'] [] [] pos) (fun D σ H => tb (wK X.K c i ts D) D σ H) := by
  refine ⟨fun pins s σ H D I h => ?_⟩
  have ok := I.ok
  have hfr : X.A.frames = some (X.env :: X.outer) := by rw [ok.frames, hs]
  have hloc : Loc X.env.scope n := .inl hln
  refine wpAny_Try_except ?_
  refine wpAny_mono ((hb (wK X.K c i ts D) (X.pn ++ pins) (fun e s₁ => wpAny (model X.prog X.w) X.A (noteFrame e X.env) (fun _ s₂ => wpAny (model X.prog X.w) X.A (setFlight e none) (fun _ s₃ =>
    wpAny (model X.prog X.w) X.A (handleBy e X.env [.ExceptHandler (some (.Name x np)) (some n) (b₀ :: suite) pos']) (SP X pins D) X.xe s₃) X.xe s₂) X.xe s₁) (fun u s' xx => ?_) PassesOwn.looking).run [] s σ H D (I.toTry _) h) (fun f s1 hsp => ?_) (fun e s1 he => he)
  · obtain ⟨a, B, sI, pins', σ', H', cls, d, rfl, J', nb, up, sky, na, os, ag, rfl, hb1, hyes⟩ := xx
    have J : Inv X pins σ' H' sI := J'.ofTry ok
    have sky' : Sky B (X.env :: X.outer) a (Zc cls none) X.env.locals s'.heap := by rw [← hs]; exact sky
    have hBa : B.get? a = none := by
      rcases sky' with h | h | h
      · exact h.2.1
      · exact h.2.1
      · exact h.2.1
    show wpAny (model X.prog X.w) X.A (noteFrame (.ref a) X.env) _ _ _
    refine Sky.land Zc.steady hfr hf sky' fun h3 fl3 up3 => ?_
    have J3 : Inv X pins σ' H' { s' with heap := h3 } := J.landed nb fl3.1 (up.trans up3) os ag
    obtain ⟨oe3, vs3, he3, hz3, hd3⟩ := fl3.there
    have notFr : ∀ {h : Heap} {o : Obj} {vs : Array Value}, h.FunFrames B (X.env :: X.outer) → h.get? a = some o → o.data = .fields vs → a ∉ frs (X.env :: X.outer) := fun {h o vs} ff e dd hm => by
      obtain ⟨_, o', e', hnf⟩ := ff.mem hm
      rw [e] at e'; cases e'
      exact hnf _ dd
    have nfr := notFr fl3.2.2.1 he3 hd3
    have nL : a ≠ X.env.locals := fun z => nfr (List.mem_filterMap.mpr ⟨X.env, List.mem_cons_self, by rw [hf, z]⟩)
    have nsI : sI.heap.get? a = none := by
      cases q : sI.heap.get? a with
      | none => rfl
      | some o =>
        have z := nb a o q (by show a ∉ frs X.stack; rw [hs]; exact nfr)
        rw [hBa] at z
        cases z
    have n0 : X.s_0.heap.get? a = none := by
      cases q : X.s_0.heap.get? a with
      | none => rfl
      | some o =>
        obtain ⟨o', z⟩ := J.base.there a o q (by rw [hex]; exact fun z => nomatch z)
        rw [nsI] at z
        cases z
    have npx : ∀ p ∈ X.pn ++ pins, p.1 ≠ a := fun p hp z => by
      have q := (J.pin p hp).1
      rw [z, nsI] at q
      cases q
    have S3 := Inv.suiteK J3 he3 hz3 hd3 na nL n0 npx
    refine wpAny_handleBy_cons (codeAny_handlers_test ?_) (by intro q; cases q)
    have LT : PySem.W.Looks (model X.prog X.w) h3 (typeOf (.ref a)) cls := fun A Q E s k q => wpAny_typeOf_ref (k _ _ he3) (by rw [hz3.1]; exact q)
    have LM := PySem.W.exm_one (M := model X.prog X.w) (J3.kIn) LT hb1
    have test : ∀ {Q : Value → Shared → Prop} {E : Value → Shared → Prop}, Q c { s' with heap := h3 } → wpAny (model X.prog X.w) (X.A.mark (some (.ref a))) (eval (.Name x np) X.env) Q E { s' with heap := h3 } := fun {Q E} q => by
      obtain ⟨hg, hdbg, hm | ⟨hm, hv, hnn⟩⟩ := hc
      · exact ld_glob (X := X.suite a (X.pn ++ pins)) S3 hg hm q hdbg
      · exact ld_blt (X := X.suite a (X.pn ++ pins)) S3 hg hm hv q hnn hdbg
    refine test (LM.here ?_)
    refine codeAny_handlers_suite_as ?_
    refine HandSPX.lands_againZ fl3 fun h4 fl4 up4 => ?_
    have J4 : Inv X pins σ' H' { s' with heap := h4 } := J.landed nb fl4.1 ((up.trans up3).trans up4) os ag
    obtain ⟨oe4, vs4, he4, hz4, hd4⟩ := fl4.there
    have S4 := Inv.suiteK J4 he4 hz4 hd4 na nL n0 npx
    refine store_ok (X := X.suite a (X.pn ++ pins)) (v := .ref a) S4 hN hi hloc rfl (fun s5 S5 => ?_) (.inr hln)
    refine wpAny_mono ((hsu a (X.pn ++ pins)).run [] s5 _ _ _ S5 (hyes a na)) (fun f s6 hsp => ?_) (fun _ _ z => False.elim z)
    have end_ : ∀ {σ6 : L2.St} {H6 : Hp} {Q : Shared → Prop}, Inv (X.suite a (X.pn ++ pins)) [] σ6 H6 s6 → (∀ s7, Inv X pins (σ6.set i none) H6 s7 → Q s7) →
        wpAny (model X.prog X.w) X.A (do bindName X.env n .none; unbindBehindTheSuite X.env n pos') (fun _ s7 => Q s7) X.xe s6 := fun {σ6 H6 Q} S6 hq => gone_ok (Inv.unsuiteK S6 ok) hN hi hln hq
    cases f with
    | next =>
      obtain ⟨σ6, H6, S6, q6⟩ := hsp
      exact end_ S6 fun s7 J7 => ⟨_, _, J7, q6⟩
    | brk =>
      obtain ⟨σ6, H6, S6, q6⟩ := hsp
      exact end_ S6 fun s7 J7 => ⟨_, _, J7, q6⟩
    | cont =>
      obtain ⟨σ6, H6, S6, q6⟩ := hsp
      exact end_ S6 fun s7 J7 => ⟨_, _, J7, q6⟩
    | ret u =>
      obtain ⟨v6, σ6, H6, S6, r6, q6⟩ := hsp
      exact end_ S6 fun s7 J7 => ⟨_, _, _, J7, r6, q6⟩
  · cases f with
    | next =>
      obtain ⟨σ', H', J', q⟩ := hsp
      exact wpAny_execs_nil ⟨σ', H', J'.ofTry ok, q⟩
    | brk =>
      obtain ⟨σ', H', J', q⟩ := hsp
      exact ⟨σ', H', J'.ofTry ok, q⟩
    | cont =>
      obtain ⟨σ', H', J', q⟩ := hsp
      exact ⟨σ', H', J'.ofTry ok, q⟩
    | ret u =>
      obtain ⟨v, σ', H', J', r, q⟩ := hsp
      exact ⟨v, σ', H', J'.ofTry ok, r, q⟩
end
/-! ### isinstance of it -/
def rIsC (K : PySem.W.Frag) : List V → Hp → VK → Prop := fun xs H Q => ∃ (a D : Addr) (c : V) (u : Value) (b : Bool), xs = [.ref a, c] ∧ H a = some (EcO (.ref D) a) ∧ ExcC K D ∧ (∀ u', RelV c u' → u' = u) ∧ PySem.W.kitOne K (.ref D) u = some b ∧ Q (.bl b) H
def rIsT (K : PySem.W.Frag) : List V → Hp → VK → Prop := fun xs H Q => ∃ (a D p : Addr) (cs : List V) (b : Bool), xs = [.ref a, .ref p] ∧ H a = some (EcO (.ref D) a) ∧ ExcC K D ∧ SqT K H p cs ∧ (∀ us, Vals cs us → PySem.W.kitAny K (.ref D) us = some b) ∧ Q (.bl b) H
theorem inst_of {X : Cx} {pins : List (Addr × Obj)} {σ : L2.St} {H : Hp} {s : Shared} (I : Inv X pins σ H s) {a D : Addr} (ha : H a = some (EcO (.ref D) a)) : ∃ oe, PySem.W.InstAt s.heap a oe D none := by
  obtain ⟨⟨oe, vs, ho, hz, hv⟩, _, _⟩ := I.hok a _ ha
  refine ⟨oe, ?_⟩
  obtain ⟨oc, od, oda, osl⟩ := oe
  obtain ⟨h1, h2⟩ := hz
  dsimp only at h1 h2 hv
  subst h1 h2 hv
  exact ⟨ho, rfl, rfl, trivial⟩
theorem call_isC {X : Cx} : CallR X (.builtin "isinstance") (rIsC X.K) := by
  intro pins s σ H xs us Q I r h
  obtain ⟨a, D, c, u, b, rfl, ha, C, hc, e, q⟩ := h
  obtain ⟨u1, u2, rfl, r1, r2⟩ := vals2 r
  obtain rfl := hc _ r2
  cases (show u1 = Value.ref a from r1)
  obtain ⟨oe, J⟩ := inst_of I ha
  exact PySem.W.kia_one (PySem.W.handS_kitx_exc C.hg C.hk C.hs C.hd C.ha C.hn C.ht C.hm) I.kIn J e (fun z => nomatch z) fun tk => ⟨.bl b, H, I.tok tk, rfl, q⟩
theorem call_isT {X : Cx} : CallR X (.builtin "isinstance") (rIsT X.K) := by
  intro pins s σ H xs us Q I r h
  obtain ⟨a, D, p, cs, b, rfl, ha, C, hp, e, q⟩ := h
  obtain ⟨u1, u2, rfl, r1, r2⟩ := vals2 r
  cases (show u1 = Value.ref a from r1)
  cases (show u2 = Value.ref p from r2)
  obtain ⟨oe, J⟩ := inst_of I ha
  obtain ⟨its, rv, ⟨o, ho, hc, n, hd⟩, _⟩ := I.tuple hp
  obtain ⟨oc, od, oda, osl⟩ := o
  dsimp only at hc hd
  subst hc hd
  exact PySem.W.kia_tup (PySem.W.handS_kitx_exc C.hg C.hk C.hs C.hd C.ha C.hn C.ht C.hm) I.kIn J ho (e _ rv) (fun z => nomatch z) fun tk => ⟨.bl b, H, I.tok tk, rfl, q⟩
def rIsY (K : PySem.W.Frag) : List V → Hp → VK → Prop := fun xs H Q => rIsX K xs H Q ∨ rIsC K xs H Q ∨ rIsT K xs H Q
theorem call_isY {X : Cx} : CallR X (.builtin "isinstance") (rIsY X.K) := fun pins s σ H xs us Q I r h => h.elim (call_isX pins s σ H xs us Q I r) fun h => h.elim (call_isC pins s σ H xs us Q I r) (call_isT pins s σ H xs us Q I r)
/-! ### what the head tells of the errors -/
def eqV (a b : Option (Option Value)) : Bool := decide (a = b)
def excB (K : PySem.W.Frag) (D : Addr) : Bool :=
  decide (PySem.W.findIn K (.ref D) "__getattribute__" = some (some (.builtin "BaseException.__getattribute__"))) && (decide (PySem.W.findIn K (.ref D) "__getattr__" = some none) && (decide (PySem.W.subIn K (.ref D) (.type "BaseException") = some true) && (PySem.W.hasDictIn K D &&
  (decide (PySem.W.findIn K (.ref D) "__class__" = some (some (.builtin "object.__class__"))) && (decide (PySem.W.specialIn K (.builtin "object.__class__") "__get__" = some (some (.builtin "getset_descriptor.__get__"))) && (decide (PySem.W.takesIn K (.builtin "object.__class__") = some true) && decide (PySem.W.mroIn K D (.type "object") = some true)))))))
theorem excB_ok {K : PySem.W.Frag} {D : Addr} (h : excB K D = true) : ExcC K D := by
  unfold excB at h
  simp only [Bool.and_eq_true, decide_eq_true_eq] at h
  obtain ⟨h1, h2, h3, h4, h5, h6, h7, h8⟩ := h
  exact ⟨h1, h2, h3, h4, h5, h6, h7, h8⟩
def erB (K : PySem.W.Frag) (es : List Er) (c : Er) : Bool :=
  (He.Fa.glo c.nm).ok K && ((He.Fa.exc c.nm).ok K && (excB K (He.ga K c.nm) && (decide (PySem.W.kitOne K (.ref (He.ga K c.nm)) (.type "ValueError") = some true) &&
  es.all fun d => decide (PySem.W.kitOne K (.ref (He.ga K c.nm)) (.ref (He.ga K d.nm)) = some (c.sub d)) && decide (PySem.W.exmOne K (.ref (He.ga K c.nm)) (.ref (He.ga K d.nm)) = some (c.sub d)))))
structure Exs (K : PySem.W.Frag) (mg : Str → Option Value) (es : List Er) : Prop where
  glo : ∀ c ∈ es, mg c.nm = some (.ref (He.ga K c.nm))
  exc : ∀ c ∈ es, (He.Fa.exc c.nm).ok K = true
  isi : ∀ c ∈ es, ExcC K (He.ga K c.nm)
  ve : ∀ c ∈ es, PySem.W.kitOne K (.ref (He.ga K c.nm)) (.type "ValueError") = some true
  kit : ∀ c ∈ es, ∀ d ∈ es, PySem.W.kitOne K (.ref (He.ga K c.nm)) (.ref (He.ga K d.nm)) = some (c.sub d)
  exm : ∀ c ∈ es, ∀ d ∈ es, PySem.W.exmOne K (.ref (He.ga K c.nm)) (.ref (He.ga K d.nm)) = some (c.sub d)
theorem exs_ok {K : PySem.W.Frag} {h : Heap} {mg : Str → Option Value} {es : List Er} (X : K.In h) (G : h.Ns mainGlobals mg) (c : (es.all fun c => erB K es c) = true) : Exs K mg es := by
  have key : ∀ c ∈ es, erB K es c = true := fun x hx => List.all_eq_true.mp c x hx
  have k2 : ∀ c ∈ es, (He.Fa.glo c.nm).ok K = true ∧ (He.Fa.exc c.nm).ok K = true ∧ excB K (He.ga K c.nm) = true ∧ PySem.W.kitOne K (.ref (He.ga K c.nm)) (.type "ValueError") = some true ∧ ∀ d ∈ es, PySem.W.kitOne K (.ref (He.ga K c.nm)) (.ref (He.ga K d.nm)) = some (c.sub d) ∧ PySem.W.exmOne K (.ref (He.ga K c.nm)) (.ref (He.ga K d.nm)) = some (c.sub d) := fun x hx => by
    have q := key x hx
    unfold erB at q
    simp only [Bool.and_eq_true, decide_eq_true_eq, List.all_eq_true] at q
    exact q
  exact ⟨fun c hc => He.glo_ok X G (k2 c hc).1, fun c hc => (k2 c hc).2.1, fun c hc => excB_ok (k2 c hc).2.2.1, fun c hc => (k2 c hc).2.2.2.1, fun c hc d hd => ((k2 c hc).2.2.2.2 d hd).1, fun c hc d hd => ((k2 c hc).2.2.2.2 d hd).2⟩
def hookX (n : Nat) (fa : List He.Fa) (fn : List He.DefD) (es : List Er) : PySem.W.Hook where
  α := Bool × Bool × He.AlD
  obs := fun s => (smB s.heap.get?, es.all (fun c => erB (He.frG s.heap.get? (He.asD s.heap.get? n)) es c), He.obsDG n fa fn s.heap.get?)
  val := fun _ => (true, true, He.valD fn)
  says := fun _ h => SMd h ∧ ∃ K : PySem.W.Frag, K.In h ∧ He.SaysD fa fn K ∧ (es.all fun c => erB K es c) = true
  of := fun w s e => ⟨sm_of (congrArg Prod.fst e), He.frG s.heap.get? (He.asD s.heap.get? n), He.frG_in, congrArg (fun z : Bool × Bool × He.AlD => z.2.2) e, congrArg (fun z : Bool × Bool × He.AlD => z.2.1) e⟩
  keeps := fun w h h' ⟨⟨o, h1, h2⟩, K, hK, c⟩ k => ⟨⟨o, k _ _ h1, h2⟩, K, PySem.W.Frag.In.keeps hK k, c⟩
def obsX (n : Nat) (fa : List He.Fa) (fn : List He.DefD) (es : List Er) (g : Addr → Option Obj) : Bool × Bool × He.AlD := (smB g, es.all (fun c => erB (He.frG g (He.asD g n)) es c), He.obsDG n fa fn g)
theorem obsX_eq {n : Nat} {fa : List He.Fa} {fn : List He.DefD} {es : List Er} {g : Addr → Option Obj} {s : Shared} (h : ∀ a, g a = s.heap.get? a) : obsX n fa fn es g = (hookX n fa fn es).obs s := by
  have e : g = s.heap.get? := funext h
  rw [e] <;> rfl
theorem pe_mGXK {X : Cx} {K : PySem.W.Frag} {k : Nat} {m : Str} {ps : List Str} {sp : Sp} {E : L2.St → XK} {o e : Expr} {es : List Expr} {ta : TE} {t : TA} {pos apos : Pos} {pl : Sem Bool} (eK : X.K = K) (G : MFn X.prog X.w K X.mg X.base k m ps sp) (c : Cls K (LvA K)) (hr : Room k X.A) (hgd : X.A.guards = some []) (hx : ∀ σ, PassesAt (L2.CX X.prog X.w) X σ (E σ)) (he : PE X o ta) (ha : PA X (e :: es) t)
    (hst : starEach (e :: es) X.env = (false, eval e X.env) :: starEach es X.env := by rfl) (hpl : (backTo pos (starEach es X.env)).any (·.1) = false := by rfl)
    (ht : eval (.Call (.Attribute o m apos) (e :: es) [] pos) X.env = (do
      let ov ← eval o X.env
      standAt apos.atName
      let (f, first) ← holding [ov] (getMethod ov m pl)
      callWith pos f first (backTo pos (starEach (e :: es) X.env)) (backToKw pos (keywordEach [] X.env))) := by rfl) :
    PE X (.Call (.Attribute o m apos) (e :: es) [] pos) (tMX (LvA K) m sp E ta t) := by
  subst eK
  exact pe_mGX G c hr hgd hx he ha hst hpl ht
theorem pi_listK {X : Cx} {K : PySem.W.Frag} {tg l : Expr} {tl : TE} (e : X.K = K) (hl : PE X l tl) : PI X tg l (iList K tl) := by
  subst e
  exact pi_list hl
/-! ### errors in a world -/
abbrev es6 : List Er := [.cut, .many, .place, .number, .text, .command]
theorem Er.mem6 (c : Er) : c ∈ es6 := by cases c <;> decide
section
variable {K : PySem.W.Frag} {mg : Str → Option Value} {B H : Hp} {ctx : List Fact} {L : List Own} {a : Addr} {c d : Er} {v : V} {Q : VK}
theorem Exs.cut (XX : Exs K mg es6) (c : Er) : PySem.W.exmOne K (.ref (He.ga K c.nm)) (.ref (He.ga K ("CutError" : PySem.Str))) = some true := by
  have h := XX.exm c c.mem6 .cut (Er.mem6 _)
  have e : c.sub .cut = true := by cases c <;> rfl
  rw [e] at h
  exact h
theorem Wd.keepE (W : Wd K B ctx L H) (ha : H a = none) : Wd K B (fc false c (.ref a) :: ctx) L (upd H a (EcO (.ref (He.ga K c.nm)) a)) := by
  obtain ⟨N, F, W⟩ := W
  exact Wd.newX W ha false fun N' F' _ _ q => ⟨a, rfl, q⟩
theorem kn_exc (W : Wd K B ctx L H) (h : Kn K ctx false c v) : ∃ a, v = .ref a ∧ H a = some (EcO (.ref (He.ga K c.nm)) a) := by
  obtain ⟨N, F, W⟩ := W
  obtain ⟨a, e, q⟩ := h N F W.nF W.facts
  exact ⟨a, e, W.fH _ _ q⟩
theorem w_isC (d : Er) (XX : Exs K mg es6) (W : Wd K B ctx L H) (h : Kn K ctx false c v) (k : Q (.bl (c.sub d)) H) : rIsY K [v, .ref (He.ga K d.nm)] H Q := by
  obtain ⟨a, rfl, ha⟩ := kn_exc W h
  exact .inr (.inl ⟨a, _, _, _, _, rfl, ha, XX.isi c c.mem6, (fun u r => r), XX.kit c c.mem6 d d.mem6, k⟩)
theorem w_isVE (XX : Exs K mg es6) (W : Wd K B ctx L H) (h : Kn K ctx false c v) (k : Q (.bl (c.sub .cut)) H) : rIsY K [v, .ty "ValueError"] H Q := by
  obtain ⟨a, rfl, ha⟩ := kn_exc W h
  exact .inr (.inl ⟨a, _, _, _, _, rfl, ha, XX.isi c c.mem6, (fun u r => r), XX.ve c c.mem6, by
    have e : c.sub .cut = true := by cases c <;> rfl
    rw [e] at k
    exact k⟩)
theorem kitAny_sub (XX : Exs K mg es6) (c : Er) : ∀ (ds : List Er) (us : List Value), Vals (ds.map fun d => V.ref (He.ga K d.nm)) us → PySem.W.kitAny K (.ref (He.ga K c.nm)) us = some (ds.any c.sub)
  | [], _, h => by
    cases h
    rfl
  | d :: ds, _, h => by
    cases h with
    | cons h1 h2 =>
      cases h1
      have q := XX.kit c c.mem6 d d.mem6
      unfold PySem.W.kitAny
      rw [q, List.any_cons]
      cases e : c.sub d
      · exact kitAny_sub XX c ds _ h2
      · rfl
/-- (NoMany, NoText): new, held by itself -/
theorem w_tupC (ds : List Er) (hl : ds.length ≤ 100) (W : Wd K B ctx L H) (k : ∀ p H', Wd K B ctx L H' → H' p = some (.tup (ds.map fun d => V.ref (He.ga K d.nm))) → Q (.ref p) H') : rTup (ds.map fun d => V.ref (He.ga K d.nm)) H Q := by
  obtain ⟨N, F, W⟩ := W
  refine ⟨by rw [List.length_map, sizeLine_eq]; omega, fun p hp => k p _ ?_ upd_same⟩
  have W2 := Wd.newT (vs := ds.map fun d => V.ref (He.ga K d.nm)) (f := ⟨fun _ _ _ => True, fun _ _ _ => trivial⟩) W hp false fun N' F' s s' q => trivial
  exact Wd.sub W2 fun f hf => List.mem_cons_of_mem _ hf
theorem w_isT {p : Addr} (ds : List Er) (XX : Exs K mg es6) (W : Wd K B ctx L H) (h : Kn K ctx false c v) (hp : H p = some (.tup (ds.map fun d => V.ref (He.ga K d.nm)))) (k : Q (.bl (ds.any c.sub)) H) : rIsY K [v, .ref p] H Q := by
  obtain ⟨a, rfl, ha⟩ := kn_exc W h
  exact .inr (.inr ⟨a, _, p, _, _, rfl, ha, XX.isi c c.mem6, SqT.of hp, kitAny_sub XX c ds, k⟩)
theorem w_isY {xs : List V} (h : rIsX K xs H Q) : rIsY K xs H Q := .inl h
end
/-! ### things that are tuples -/
def lenTh : Th → Option Int
  | .lst xs => some xs.length
  | .tup xs => some xs.length
  | _ => none
def ixTh : Th → Int → Option Th
  | .lst xs, i => atI xs i
  | .tup xs, i => atI xs i
  | _, _ => none
section
variable {K : PySem.W.Frag} {B H : Hp} {ctx : List Fact} {L : List Own} {t : Bool} {x y : Th} {v : V} {i : Int} {Q : VK}
theorem w_lenTh (W : Wd K B ctx L H) (h : Kn K ctx t x v) (e : lenTh x = some i) (k : Q (.int i) H) : rLen K [v] H Q := by
  obtain ⟨N, F, W⟩ := W
  have r := h N F W.nF W.facts
  cases x with
  | lst xs =>
    cases e
    obtain ⟨a, vs, rfl, h1, h2⟩ := r
    exact i_len (SqL.of (reg_l W.nF W.fH h1)) (by rw [rpL_len h2]; exact k)
  | tup xs =>
    cases e
    obtain ⟨a, vs, rfl, h1, h2⟩ := r
    exact i_lenT ((reg_A W.nF W.fH).t _ _ h1) (by rw [rpL_len h2]; exact k)
  | _ => cases e
theorem w_ixTh (W : Wd K B ctx L H) (h : Kn K ctx t x v) (e : ixTh x i = some y) (k : ∀ u, Wd K B (fc t y u :: ctx) L H → Q u H) : rIx K v (.int i) H Q := by
  obtain ⟨N, F, W⟩ := W
  have r := h N F W.nF W.facts
  cases x with
  | lst xs =>
    obtain ⟨a, vs, rfl, h1, h2⟩ := r
    obtain ⟨u, e2, r⟩ := atI_2 (rpL_all.mp h2) (show atI xs i = some y from e)
    exact i_ixL (SqL.of (reg_l W.nF W.fH h1)) e2 (k u (Wd.fact W r))
  | tup xs =>
    obtain ⟨a, vs, rfl, h1, h2⟩ := r
    obtain ⟨u, e2, r⟩ := atI_2 (rpL_all.mp h2) (show atI xs i = some y from e)
    exact i_ixT ((reg_A W.nF W.fH).t _ _ h1) e2 (k u (Wd.fact W r))
  | _ => cases e
end
/-! ### lists of truths: count, index -/
def rCountB (K : PySem.W.Frag) : V → List V → Hp → VK → Prop := fun x xs H Q => ∃ (a : Addr) (bs : List Bool) (b : Bool), x = V.ref a ∧ xs = [.bl b] ∧ SqL K H a (bs.map V.bl) ∧ Q (.int (bs.count b : Nat)) H
theorem countB_vals {b : Bool} : ∀ {bs : List Bool} {us : List Value}, Vals (bs.map V.bl) us → us.countP (eqU (.bl b)) = bs.count b
  | [], _, h => by
    cases h
    rfl
  | c :: bs, _, h => by
    cases h with
    | cons r h =>
      rw [List.countP_cons, List.count_cons, countB_vals h, eqU_of r rfl]
      rfl
theorem mt_countB {X : Cx} : MtR X "list.count" (rCountB X.K) := by
  intro pins s σ H x xs v us Q I rx rxs h
  obtain ⟨a, bs, b, rfl, rfl, hs, q⟩ := h
  cases rx
  cases rxs with
  | cons ry rt =>
    rename_i uy ut
    cases rt
    obtain ⟨its, rv, ⟨⟨cls, dd, data, sl⟩, n, ho, hc, hdn, hd⟩, hlen⟩ := I.list hs
    simp only at hc hd
    subst hc hd
    refine call_meets PySem.F.slot_list_count ⟨_, ho, rfl⟩ PySem.F.entry_list_count (PySem.F.args_list_count_2 _ _)
      (SeqAt.list_countAt a its.toArray n dd sl uy (eqU (.bl b))) ⟨ho, fun u' hu' => mem_eqAt ry rfl rv (by rw [List.all_map]; exact List.all_eq_true.mpr fun _ _ => rfl) u' (by simpa using hu'), ?_⟩
    refine ⟨.int (bs.count b : Nat), H, I.tok _, ⟨s.toks, ?_⟩, q⟩
    rw [show its.toArray.toList = its from rfl, countB_vals rv]
section
variable {K : PySem.W.Frag} {B H : Hp} {ctx : List Fact} {L : List Own} {t : Bool} {bs : List Bool} {b : Bool} {n : Int} {v : V} {Q : VK}
theorem bools_of {S : Lk} : ∀ {ns : List Bool} {vs : List V}, All2 (Rp.rep S) ns vs → vs = ns.map V.bl
  | [], [], _ => rfl
  | n :: ns, v :: vs, h => by
    rw [show v = .bl n from h.1, bools_of h.2]
    rfl
  | [], _ :: _, h => h.elim
  | _ :: _, [], h => h.elim
theorem w_countB (W : Wd K B ctx L H) (h : Ls K ctx L t bs v) (k : Q (.int (bs.count b : Nat)) H) : rCountB K v [.bl b] H Q := by
  obtain ⟨N, F, W⟩ := W
  obtain ⟨a, vs, rfl, h1, h2⟩ := h B H N F W
  rw [bools_of h2] at h1
  exact ⟨a, bs, b, rfl, rfl, h1, k⟩
def indexBO (bs : List Bool) (b : Bool) : Option Int := (bs.findIdx? (· == b)).map fun i => (i : Int)
theorem w_indexB (W : Wd K B ctx L H) (h : Ls K ctx L t bs v) (e : indexBO bs b = some n) (k : Q (.int n) H) : rIndex K v [.bl b] H Q := by
  obtain ⟨N, F, W⟩ := W
  obtain ⟨a, vs, rfl, h1, h2⟩ := h B H N F W
  rw [bools_of h2] at h1
  unfold indexBO at e
  cases q : bs.findIdx? (· == b) with
  | none => rw [q] at e; cases e
  | some m =>
    rw [q] at e
    cases e
    obtain ⟨hm, e1, e2⟩ := List.findIdx?_eq_some_iff_getElem.mp q
    refine ⟨a, _, _, m, .bl bs[m], rfl, rfl, h1, rfl, by rw [List.all_map]; exact List.all_eq_true.mpr fun _ _ => rfl, by rw [List.getElem?_map, List.getElem?_eq_getElem hm]; rfl, e1, fun i z' hi hz => ?_, k⟩
    rw [List.getElem?_map] at hz
    have hi2 : i < bs.length := by omega
    rw [List.getElem?_eq_getElem hi2] at hz
    cases hz
    have := e2 i hi
    exact Bool.eq_false_iff.mpr this
end
/-! ### tuples of any kind: joined, cut, listed -/
def catTh : Th → Th → Option Th
  | .tup xs, .tup ys => if xs.length + ys.length ≤ 16777216 then some (.tup (xs ++ ys)) else none
  | _, _ => none
def sliceTh : Th → Option Int → Option Int → Option Th
  | .tup xs, lo, hi => some (.tup (sliceI xs lo hi))
  | _, _, _ => none
def listTh : Th → Option (List Th)
  | .tup xs => some xs
  | _ => none
section
variable {K : PySem.W.Frag} {B H : Hp} {ctx : List Fact} {L : List Own} {t : Bool} {x y z : Th} {v u : V} {Q : VK}
theorem w_catTh (W : Wd K B ctx L H) (h : Kn K ctx t x v) (h' : Kn K ctx t y u) (e : catTh x y = some z) (k : ∀ p H', Wd K B (fc t z (.ref p) :: ctx) L H' → Q (.ref p) H') : rCatA K v u H Q := by
  obtain ⟨N, F, W⟩ := W
  have r := h N F W.nF W.facts
  have r' := h' N F W.nF W.facts
  match x, y, e with
  | .tup xs, .tup ys, e =>
    obtain ⟨hz, rfl⟩ := guardE e
    obtain ⟨a, vs, rfl, h1, h2⟩ := r
    obtain ⟨b, ws, rfl, g1, g2⟩ := r'
    have l1 := rpL_len h2
    have l2 := rpL_len g2
    have q1 := (reg_A W.nF W.fH).t _ _ h1
    have q2 := (reg_A W.nF W.fH).t _ _ g1
    refine ⟨a, b, vs, ws, rfl, rfl, q1, q2, by rw [l1, l2]; exact hz, fun e0 => ?_, fun e1 e2 => ?_, fun e1 e2 p hp => ?_⟩
    · subst e0
      have : xs = [] := List.length_eq_zero_iff.mp l1.symm
      subst this
      exact k b H (Wd.fact W ⟨b, ws, rfl, g1, g2⟩)
    · subst e2
      have : ys = [] := List.length_eq_zero_iff.mp l2.symm
      subst this
      rw [List.append_nil] at k
      exact k a H (Wd.fact W ⟨a, vs, rfl, h1, h2⟩)
    · exact k p _ (Wd.newT W hp t fun N' F' s s' q => ⟨p, vs ++ ws, rfl, q, rpL_all.mpr (((rpL_all.mp h2).mono fun _ _ r => Rp.mono (reg_mono s s') r).app ((rpL_all.mp g2).mono fun _ _ r => Rp.mono (reg_mono s s') r))⟩)
theorem w_slTh {lo hi : Option Int} (W : Wd K B ctx L H) (h : Kn K ctx t x v) (e : sliceTh x lo hi = some z) (k : ∀ p H', Wd K B (fc t z (.ref p) :: ctx) L H' → Q (.ref p) H') : rSlA K v lo hi H Q := by
  obtain ⟨N, F, W⟩ := W
  have r := h N F W.nF W.facts
  match x, e with
  | .tup xs, e =>
    cases e
    obtain ⟨a, vs, rfl, h1, h2⟩ := r
    have l1 := rpL_len h2
    have q1 := (reg_A W.nF W.fH).t _ _ h1
    refine ⟨a, vs, rfl, q1, fun e0 => ?_, fun e1 p hp => ?_⟩
    · have : sliceI xs lo hi = xs := by
        unfold sliceI
        rw [l1] at e0
        rw [e0.1, e0.2, List.drop_zero, Nat.sub_zero, List.take_length]
      rw [this] at k
      exact k a H (Wd.fact W ⟨a, vs, rfl, h1, h2⟩)
    · refine k p _ (Wd.newT W hp t fun N' F' s s' q => ⟨p, cutV vs lo hi, rfl, q, rpL_all.mpr ?_⟩)
      unfold sliceI cutV
      rw [l1]
      exact ((rpL_all.mp h2).mono fun _ _ r => Rp.mono (reg_mono s s') r).drop _ |>.take _
theorem w_listTh {ys : List Th} (W : Wd K B ctx L H) (h : Kn K ctx t x v) (e : listTh x = some ys) (k : ∀ p H', Wd K B ctx (oL t p ys :: L) H' → Q (.ref p) H') : rListOf K [v] H Q := by
  obtain ⟨N, F, W⟩ := W
  have r := h N F W.nF W.facts
  match x, e with
  | .tup xs, e =>
    cases e
    obtain ⟨a, vs, rfl, h1, h2⟩ := r
    exact ⟨a, vs, rfl, .inr ((reg_A W.nF W.fH).t _ _ h1), fun p hp => k p _ (Wd.newL W hp (rpL_all.mp h2))⟩
end
end PB

namespace PB
open PySem PySem.Spec PyProof.Rows L2
/-! ### a list comprehension whose item may let an exception out -/
theorem note_env {e : Value} {v v' : Env} (h : v.frame = v'.frame) : noteFrame e v = noteFrame e v' := by
  unfold noteFrame PySem.frameOf
  rw [h]
theorem passOn_held {M : Model} {A : Around} {E : Value → Shared → Prop} {s : Shared} {B : Heap} {l : List Env} {a L : Addr} {Z : Obj → Prop} {what : String} {env : Env} {Q : Value → Shared → Prop} (hf : env.frame = some L) (hh : HandSPX.HeldZ B l a Z L s.heap)
    (hQ : ∀ h', HandSPX.HeldZ B l a Z L h' → s.heap.UpToSlots h' → E (.ref a) { s with heap := h' }) : wpAny M A (PySem.passOn what (.ref a) env : Sem Value) Q E s := by
  unfold PySem.passOn
  have hh0 := hh
  obtain ⟨f1, f2, f3, oe, vs, T, oT, ts, he, hz, hd, h1, hnT, hTe, hT, hdT, h3⟩ := hh
  refine wpAny_bind (wpAny_field he hd h1 ?_)
  rw [if_neg (show ¬ ((Value.ref T == Value.none) = true) from by simp)]
  rw [hf]
  refine wpAny_bind (HandSPX.setFlight_onZ hh0 fun h' held up => ?_)
  exact wpAny_throw (hQ h' held up)
section
variable {X : Cx} {pins : List (Addr × Obj)} {σ : L2.St} {H : Hp} {s : Shared} {E : XK}
abbrev Cx.blkX (X : Cx) (s : Shared) (H : Hp) (scope : Scope) (cenv : Env) (fp : List Addr) (xe : Value → Shared → Prop) : Cx := { Cx.blk X s H scope cenv fp with xe := xe }
theorem blkX_passes {s3 : Shared} {H3 : Hp} {scope : Scope} {ce : Env} {fp : List Addr} (I3 : Inv X pins σ H3 s3) (tk : Takes X fun cls d _ H => E cls d H) (hs : X.stack = X.env :: X.outer) (hf : X.env.frame = some X.env.locals) (hcf : ce.frame = X.env.frame)
    (hfp : ∀ b ∈ fp, FpOk X pins H3 b ∧ b < s3.heap.objs.size) (hC : s3.heap.objs.size ≤ ce.locals) (σ' : L2.St) :
    PassesAt (L2.CX X.prog X.w) (Cx.blkX X s3 H3 scope ce fp (notedBy (model X.prog X.w) X.A ce (CompFails (model X.prog X.w) X.A X.xe ce))) σ' E := by
  intro pins' H' s e s' I' c
  obtain ⟨a, B, Hx, cls, d, rfl, fl, hok, ub, na, os, ag, hE⟩ := c
  have fl : HandSPX.FlyingZ B X.stack a (Zc cls d) s'.heap := fl
  have ub : UB (frs X.stack) H' Hx s.heap B s'.heap := ub
  have hfr : X.A.frames = some (X.env :: X.outer) := by rw [I3.ok.frames, hs]
  obtain ⟨m, ⟨oC, es, ep, hoC, hdC, rC⟩, _⟩ := I'.loc
  have hoC : s.heap.get? ce.locals = some oC := hoC
  have hHC : H' ce.locals = none := I'.free
  have hCs : ce.locals ∉ frs X.stack := fun hm => by
    obtain ⟨_, o, ho, _⟩ := I3.stack.mem hm
    exact absurd (Nat.lt_of_lt_of_le (Heap.lt_size ho) hC) (Nat.lt_irrefl _)
  have hBC : B.get? ce.locals = some oC := ub.keep _ _ hoC hHC hCs
  have hxC : Hx ce.locals = none := ub.free _ _ hoC hHC
  show wpAny _ _ (noteFrame (.ref a) ce) _ _ _
  rw [note_env hcf]
  refine HandSPX.looks_onZ Zc.steady hfr hf (hs ▸ fl) fun h1 held1 up1 => ?_
  have hC1 : h1.get? ce.locals = some oC := held1.1 _ _ hBC
  refine ⟨m, ⟨oC, es, ep, hC1, hdC, rC⟩, fun h2 m' hn2 sb => ?_⟩
  -- the ground without the block
  have gB' : ∀ b o, (PySem.W.hideAll B [ce.locals]).get? b = some o → B.get? b = some o ∧ b ≠ ce.locals := fun b o e => by
    refine ⟨PySem.W.of_hideAll _ e, fun z => ?_⟩
    rw [z, PySem.W.hideAll_none _ List.mem_cons_self] at e
    cases e
  have gB : ∀ b o, B.get? b = some o → b ≠ ce.locals → (PySem.W.hideAll B [ce.locals]).get? b = some o := fun b o e n => PySem.W.hideAll_get _ e fun hm => n (by simpa using hm)
  have held2 : HandSPX.HeldZ (PySem.W.hideAll B [ce.locals]) (X.env :: X.outer) a (Zc cls d) X.env.locals h2 := by
    obtain ⟨k1, k2, k3, oe, vs, T, oT, ts, he, hz, hd, hv1, hnT, hTe, hT, hdT, hv3⟩ := held1
    have nC : ∀ b, B.get? b = none → b ≠ ce.locals := fun b e z => by rw [z, hBC] at e; cases e
    have hide0 : ∀ b, B.get? b = none → (PySem.W.hideAll B [ce.locals]).get? b = none := fun b e => by
      cases q : (PySem.W.hideAll B [ce.locals]).get? b with
      | none => rfl
      | some o => rw [(gB' b o q).1] at e; cases e
    refine ⟨fun b o e => ?_, hide0 _ k2, ?_, oe, vs, T, oT, ts, (sb.2 _ (nC _ k2)).trans he, hz, hd, hv1, hide0 _ hnT, hTe, (sb.2 _ (nC _ hnT)).trans hT, hdT, hv3⟩
    · obtain ⟨e1, e2⟩ := gB' b o e
      exact (sb.2 b e2).trans (k1 b o e1)
    · have key : ∀ l : List Env, (∀ L ∈ frs l, L ≠ ce.locals) → h1.FunFrames B l → h2.FunFrames (PySem.W.hideAll B [ce.locals]) l := by
        intro l
        induction l with
        | nil => intro _ _; trivial
        | cons env l ih =>
          intro hl hff
          obtain ⟨q1, ⟨L, o, q2, q3, q4, q5⟩, q6⟩ := hff
          have hLm : L ∈ frs (env :: l) := List.mem_filterMap.mpr ⟨env, List.mem_cons_self, q2⟩
          refine ⟨q1, ⟨L, o, q2, hide0 _ q3, (sb.2 L (hl L hLm)).trans q4, q5⟩, ih (fun L' hL' => hl L' ?_) q6⟩
          obtain ⟨e1, he1, he2⟩ := List.mem_filterMap.mp hL'
          exact List.mem_filterMap.mpr ⟨e1, List.mem_cons_of_mem _ he1, he2⟩
      refine key _ (fun L hL z => ?_) k3
      rw [z, ← hs] at hL
      exact hCs hL
  refine passOn_held (hcf.trans hf) held2 fun h3 held3 up3 => ?_
  refine tk _ _ ?_
  -- the state of ours without the exception
  have st : (PySem.W.hideAll B [ce.locals]).StaysIn h3 := held3.1
  obtain ⟨G, g1, g2⟩ := restrict h3 fun b => ((PySem.W.hideAll B [ce.locals]).get? b).isSome || decide (b ∈ frs X.stack)
  have gG : ∀ b o, (PySem.W.hideAll B [ce.locals]).get? b = some o → G.get? b = some o := fun b o e => by
    rw [g1 b (by simp [e])]
    exact st b o e
  have gF : ∀ b, b ∈ frs X.stack → G.get? b = h3.get? b := fun b hb => g1 b (by simp [hb])
  have og : ∀ b o, G.get? b = some o → h3.get? b = some o ∧ (((PySem.W.hideAll B [ce.locals]).get? b).isSome = true ∨ b ∈ frs X.stack) := fun b o e => by
    cases q : (((PySem.W.hideAll B [ce.locals]).get? b).isSome || decide (b ∈ frs X.stack)) with
    | false => rw [g2 b q] at e; cases e
    | true =>
      rw [g1 b q] at e
      exact ⟨e, by simpa [Bool.or_eq_true] using q⟩
  have Ib : L2.Un (frs X.stack) fp H3 H' s3.heap s.heap := I'.base
  have lt3 : ∀ b o, s3.heap.get? b = some o → b ≠ ce.locals := fun b o e z => by
    have := Heap.lt_size e
    rw [z] at this
    exact absurd (Nat.lt_of_lt_of_le this hC) (Nat.lt_irrefl _)
  have slots : ∀ b o, s.heap.get? b = some o → b ∈ frs X.stack → (∀ vs, o.data ≠ .fields vs) → ∃ sl, G.get? b = some { o with slots := sl } := fun b o e hb hnf => by
    obtain ⟨sl, e1⟩ := ub.slot b o e hb
    obtain ⟨sl1, e2⟩ := up1 b _ e1 hnf
    have e3 := (sb.2 b fun z => hCs (z ▸ hb)).trans e2
    obtain ⟨sl3, e4⟩ := up3 b _ e3 hnf
    exact ⟨sl3, by rw [gF b hb]; exact e4⟩
  have hHx : ∀ b o, Hx b = some o → b ≠ ce.locals := fun b o e z => by rw [z, hxC] at e; cases e
  refine ⟨a, PySem.W.hideAll B [ce.locals], { s3 with heap := G, gens := s'.gens, drawn := s'.drawn, toks := s'.toks }, pins, σ, Hx, cls, d, rfl, ?_, fun b o e hb => ?_, Heap.UpToSlots.of_keeps fun b o e => (og b o e).1, .inr (.inr (hs ▸ held3)), na, ?_, ag, hE⟩
  · refine I3.call (ch := fp) ⟨fun b o e n hb hx => ?_, fun b o e n hb hx => ?_, fun b o e n hx => ?_, fun b o e hx => ?_, fun b xs e => ub.tups b xs (Ib.tups b xs e), fun b o u e => ub.frzs b o u (Ib.frzs b o u e), fun b ps e => ?_⟩ (fun b o e => ?_) ag
      fun b hb => ⟨(hfp b hb).1.2.2.2.1, (hfp b hb).1.2.1, (hfp b hb).1.2.2.2.2.1, (hfp b hb).1.2.2.2.2.2⟩
    · exact gG b o (gB b o (ub.keep b o (Ib.keep b o e n hb hx) (Ib.free b o e n hx) hb) (lt3 b o e))
    · obtain ⟨sl, e1⟩ := Ib.slot b o e n hb hx
      obtain ⟨_, o', e', hnf⟩ := I3.stack.mem hb
      rw [e] at e'
      cases e'
      exact slots b { o with slots := sl } e1 hb hnf
    · obtain ⟨sl, e1⟩ := Ib.any e n hx
      exact ub.free b _ e1 (Ib.free b o e n hx)
    · obtain ⟨o', e1⟩ := Ib.there b o e hx
      by_cases hb : b ∈ frs X.stack
      · have hnone : H3 b = none := I3.stkFree b hb
        obtain ⟨sl, e2⟩ := Ib.slot b o e hnone hb hx
        obtain ⟨_, o2, e', hnf⟩ := I3.stack.mem hb
        rw [e] at e'
        cases e'
        obtain ⟨sl3, e3⟩ := slots b _ e2 hb hnf
        exact ⟨_, e3⟩
      · obtain ⟨o2, e2⟩ := ub.there b o' e1 hb
        exact ⟨o2, gG b o2 (gB b o2 e2 (lt3 b o e))⟩
    · obtain ⟨more, e1⟩ := Ib.tbls b ps e
      obtain ⟨more2, e2⟩ := ub.tbls b _ e1
      exact ⟨more ++ more2, by rw [e2, Array.append_assoc]⟩
    · refine (hok b o e).stay (fun c u hc q => gG c u (gB c u q ?_)) (fun _ q => q) fun _ _ q => q
      rcases hc with rfl | hc
      · exact hHx _ _ e
      · exact hHx _ _ hc
  · obtain ⟨e', h⟩ := og b o e
    rcases h with h | h
    · obtain ⟨o', q⟩ := Option.isSome_iff_exists.mp h
      have z := st b o' q
      rw [e'] at z
      cases z
      exact q
    · exact absurd h hb
  · show s'.os = s3.os
    have h1 : s.os = s3.os := I'.os
    rw [← h1]
    exact os
theorem pe_lcX {elt tg iter : Expr} {ifs : List Expr} {scope : Scope} {own : List (Str × Nat)} {pos : Pos} {wi : TI} {g : TG} {tt : TT} {te : TE} (hc : X.calm = true) (hN : X.N.Nodup) (tk : Takes X fun cls d _ H => E cls d H) (hsk : X.stack = X.env :: X.outer) (hfr : X.env.frame = some X.env.locals)
    (hi : PI X tg iter wi) (ok : BlkOk X.N X.env.scope scope own)
    (hg : ∀ (s : Shared) (H : Hp) (C : Addr) (cl : List (Str × Addr)) (fp : List Addr) (xe : Value → Shared → Prop), PG (Cx.blkX X s H scope (compEnvC scope cl C X.env) fp xe) tg g)
    (ht : ∀ (s : Shared) (H : Hp) (C : Addr) (cl : List (Str × Addr)) (fp : List Addr) (xe : Value → Shared → Prop), PTs (Cx.blkX X s H scope (compEnvC scope cl C X.env) fp xe) ifs tt)
    (he : ∀ (s : Shared) (H : Hp) (C : Addr) (cl : List (Str × Addr)) (fp : List Addr) (xe : Value → Shared → Prop), (∀ σ, PassesAt (L2.CX X.prog X.w) (Cx.blkX X s H scope (compEnvC scope cl C X.env) fp xe) σ E) → PE (Cx.blkX X s H scope (compEnvC scope cl C X.env) fp xe) elt te)
    (hs : ∀ x, foldedSetIterable iter X.env x = pure x := by intro _; rfl) :
    PE X (.ListComp elt [⟨tg, iter, ifs, 0⟩] scope pos) (tLc wi g tt te (own.map (·.2))) := by
  refine ⟨fun pins s σ H Q I h => ?_⟩
  rw [eval_ListComp]
  have hfree : ∀ y ∈ scope.names, y.2 = .free → ∃ c, X.env.cells.lookup y.1 = some c := fun y hy e => by
    rcases ok.free y hy e with k | k
    · exact I.ok.has _ (.inl k)
    · exact I.ok.has _ (.inr k)
  refine comprehension_at (use := none) rfl hs (closure_ok hfree) ok.kind (fun y hy e => by rw [ok.uniq y hy, e])
    (thn (hi.run pins s σ H _ I h) fun xv s1 hx => thn hx fun itv s2 h2 => ?_)
  obtain ⟨it, fp, tn, J, H2, e, I2, T, st2, f2, q⟩ := h2
  subst e
  refine wpAny_newObj_type (newEnv_comp ?_) (by show 0 ≤ sizeLine; decide)
  generalize hD : s2.heap.objs.size = D
  have hDn : H2 D = none := I2.hok.fresh (Nat.le_of_eq hD)
  obtain ⟨W, ⟨m0, w0⟩, turn⟩ := q D hDn
  generalize hs3 : ({ s2 with heap := s2.heap.push { cls := .type "list", data := .seq ([] : List Value).toArray } } : Shared) = s3
  have I3 : Inv X pins σ (upd H2 D (.lst [])) s3 := by
    rw [← hs3]
    refine I2.laid (t' := s2.toks) (fun b o e => Heap.get?_push_of_some _ e) (Nat.le_of_eq hD) ⟨Nat.zero_le _, [], 0, .nil, ?_⟩
    rw [← hD]
    exact Heap.get?_push_size _ rfl
  have h3 : s3.heap = s2.heap.push { cls := .type "list", data := .seq ([] : List Value).toArray } := by rw [← hs3]
  have sz : ∀ b ∈ fp, b < s2.heap.objs.size := fun b hb => by
    obtain ⟨o, e, _⟩ := T.obj _ _ st2 b hb
    exact Heap.lt_size e
  have f3 : ∀ b ∈ fp, FpOk X pins (upd H2 D (.lst [])) b ∧ b < s3.heap.objs.size := fun b hb => by
    have hlt := sz b hb
    refine ⟨⟨?_, (f2 b hb).2⟩, by rw [h3, Heap.size_push]; exact Nat.lt_succ_of_lt hlt⟩
    rw [upd_ne (by rw [← hD]; exact Nat.ne_of_lt hlt)]
    exact (f2 b hb).1
  have st3 : tn 0 s3.heap := T.keep _ _ _ st2 fun b _ o e => by rw [h3]; exact Heap.get?_push_of_some _ e
  have I4 := block_start I3 ok hN f3
  have pg := hg s3 (upd H2 D (.lst [])) s3.heap.objs.size (cellsFrom (s3.heap.objs.size + 1) scope.names (cloFrom X.env.cells scope.names [])) fp
  have pt := ht s3 (upd H2 D (.lst [])) s3.heap.objs.size (cellsFrom (s3.heap.objs.size + 1) scope.names (cloFrom X.env.cells scope.names [])) fp
  have pe := he s3 (upd H2 D (.lst [])) s3.heap.objs.size (cellsFrom (s3.heap.objs.size + 1) scope.names (cloFrom X.env.cells scope.names [])) fp
  show codeAny _ _ (.compStart (.ListComp elt [⟨tg, iter, ifs, 0⟩] scope pos) 0 (.ref it) (.ref D) (compEnvC scope (cellsFrom (s3.heap.objs.size + 1) scope.names (cloFrom X.env.cells scope.names [])) s3.heap.objs.size X.env)) (compEnds (model X.prog X.w) X.A X.xe none _ (.ref D) (compEnvC scope (cellsFrom (s3.heap.objs.size + 1) scope.names (cloFrom X.env.cells scope.names [])) s3.heap.objs.size X.env)) { s3 with heap := pushCells (s3.heap.push { cls := .type "dict", data := .dict #[] }) scope.names }
  have nfp : ∀ b ∈ fp, (upd H2 D (.lst [])) b = none := fun b hb => (f3 b hb).1.1
  generalize hce : compEnvC scope (cellsFrom (s3.heap.objs.size + 1) scope.names (cloFrom X.env.cells scope.names [])) s3.heap.objs.size X.env = ce at I4 pg pt pe ⊢
  have cL : ce.locals = s3.heap.objs.size := by subst hce; rfl
  have cF : ce.frame = X.env.frame := by subst hce; rfl
  generalize hH3 : upd H2 D (.lst []) = H3 at I3 I4 pg pt pe w0 nfp f3
  have passes := fun σ' => blkX_passes I3 tk hsk hfr cF f3 (Nat.le_of_eq cL.symm) σ' (scope := scope)
  have pg := pg (notedBy (model X.prog X.w) X.A ce (CompFails (model X.prog X.w) X.A X.xe ce))
  have pt := pt (notedBy (model X.prog X.w) X.A ce (CompFails (model X.prog X.w) X.A X.xe ce))
  have pe := pe (notedBy (model X.prog X.w) X.A ce (CompFails (model X.prog X.w) X.A X.xe ce)) passes
  generalize hs4 : ({ s3 with heap := pushCells (s3.heap.push { cls := .type "dict", data := .dict #[] }) scope.names } : Shared) = s4 at I4 ⊢
  have st4 : tn 0 s4.heap := T.keep _ _ _ st3 fun b _ o e => by rw [← hs4]; exact pushCells_keeps _ _ _ _ (Heap.get?_push_of_some _ e)
  -- the block's state, whatever is wanted of exceptions
  have toX : ∀ {pins' : List (Addr × Obj)} {σ' : L2.St} {H' : Hp} {s' : Shared}, Inv (Cx.blk X s3 H3 scope ce fp) pins' σ' H' s' → Inv (Cx.blkX X s3 H3 scope ce fp (notedBy (model X.prog X.w) X.A ce (CompFails (model X.prog X.w) X.A X.xe ce))) pins' σ' H' s' := fun {pins' σ' H' s'} I' =>
    ⟨⟨I'.ok.mod, I'.ok.kind, I'.ok.glob, I'.ok.blt, I'.ok.above, I'.ok.inj, I'.ok.has, I'.ok.cab, I'.ok.hd, I'.ok.frames, I'.ok.stk, I'.ok.exf, I'.ok.bs, I'.ok.bsz, I'.ok.noex, I'.ok.exfs, I'.ok.funs, I'.ok.frf⟩, I'.os, I'.bare, I'.base, I'.loc, I'.cell, I'.free, I'.freeC, I'.pin, I'.hok, I'.len⟩
  have ofX : ∀ {pins' : List (Addr × Obj)} {σ' : L2.St} {H' : Hp} {s' : Shared}, Inv (Cx.blkX X s3 H3 scope ce fp (notedBy (model X.prog X.w) X.A ce (CompFails (model X.prog X.w) X.A X.xe ce))) pins' σ' H' s' → Inv (Cx.blk X s3 H3 scope ce fp) pins' σ' H' s' := fun {pins' σ' H' s'} I' =>
    ⟨⟨I'.ok.mod, I'.ok.kind, I'.ok.glob, I'.ok.blt, I'.ok.above, I'.ok.inj, I'.ok.has, I'.ok.cab, I'.ok.hd, I'.ok.frames, I'.ok.stk, I'.ok.exf, I'.ok.bs, I'.ok.bsz, I'.ok.noex, I'.ok.exfs, I'.ok.funs, I'.ok.frf⟩, I'.os, I'.bare, I'.base, I'.loc, I'.cell, I'.free, I'.freeC, I'.pin, I'.hok, I'.len⟩
  have stat : ∀ {σ' : L2.St} {H' : Hp} {s' : Shared}, Inv (Cx.blk X s3 H3 scope ce fp) [] σ' H' s' → (∀ b ∈ fp, H' b = none) → ∀ b ∈ fp, FpOk (Cx.blk X s3 H3 scope ce fp) [] H' b := fun {σ' H' s'} I' hn b hb =>
    ⟨hn b hb, (I'.ok.exf b hb).1, I'.ok.exfs b hb, .inl hb, fun x c e => (I'.ok.exf b hb).2 x c e, fun p hp => absurd (show p ∈ ([] : List (Addr × Obj)) ++ [] from hp) (by simp)⟩
  have loop : codeAny (model X.prog X.w) X.A (.compLoop (.ListComp elt [⟨tg, iter, ifs, 0⟩] scope pos) 0 (.ref it) (.ref D) ce) (compEnds (model X.prog X.w) X.A X.xe none (EP X pins σ Q) (.ref D) ce) s4 := by
    refine compLoop_any (fun n s' => ∃ i H', Inv (Cx.blk X s3 H3 scope ce fp) [] (wipe σ (own.map (·.2))) H' s' ∧ tn i s'.heap ∧ (∀ b ∈ fp, H' b = none) ∧ W i n H') ?_ m0 ⟨0, H3, I4, st4, nfp, w0⟩
    rintro n s5 ⟨i, H5, I5, st5, n5, w5⟩
    rcases turn i n H5 w5 with ⟨stop, qq⟩ | ⟨go, Nx, hNx, step⟩
    · have td := T.done (Cx.blk X s3 H3 scope ce fp) rfl rfl rfl hc i [] s5 _ H5 (fun _ _ => False) I5 (stat I5 n5) st5 stop
      refine thnF td fun r s6 ⟨hr, I6⟩ => ?_
      subst hr
      have I7 : Inv X pins σ H5 s6 := I3.call' (ch := fp) I6.os I6.base I6.hok I6.bare fun b hb => ⟨(f3 b hb).1.2.2.2.1, (f3 b hb).1.2.1, (f3 b hb).1.2.2.2.2.1, (f3 b hb).1.2.2.2.2.2⟩
      have nC : H5 s3.heap.objs.size = none := by
        have z : H5 ce.locals = none := I6.free
        rw [cL] at z
        exact z
      obtain ⟨m, hn, _⟩ := I6.loc
      have hn : s6.heap.Ns ce.locals m := hn
      refine ⟨m, hn, fun h'' sb => ?_⟩
      rw [cL] at sb
      obtain ⟨f0, f1, f2, f3, f4, f5⟩ := I3.fpOk (Nat.le_refl _) nC
      exact ⟨.ref D, H5, I7.turned (t' := s6.toks) (fun b o hb e => (sb.2 b hb).trans e) f0 f1 f3 f4 f5, rfl, qq⟩
    · have ti := T.item (Cx.blk X s3 H3 scope ce fp) rfl rfl rfl hc i [] s5 _ H5 (fun _ _ => False) I5 (stat I5 n5) st5 go
      refine thnF ti fun r s6 ⟨u, hr, h6⟩ => ?_
      subst hr
      refine thnF h6 fun _ s7 ⟨x, H7, I7, r7, y7, st7, n7⟩ => ?_
      have I7' := I7.pinned (stat I7 n7) (T.obj _ _ st7)
      refine wpAny_mono (pg.run _ s7 _ H7 x u _ (toX I7') r7 (step x H7 y7)) (fun _ s8 ⟨σ8, H8, I8, hw8, q8⟩ => ?_) fun _ _ z => z
      refine wpAny_mono (pt.run _ s8 σ8 H8 _ I8 q8) (fun b s9 ⟨H9, I9, q9⟩ => ?_) fun _ _ z => z
      have fin : ∀ {s' : Shared} {H' : Hp}, Inv (Cx.blk X s3 H3 scope ce fp) ([] ++ pinsAt fp s7.heap) σ8 H' s' → Nx H' → ∃ m, m < n ∧ ∃ i H', Inv (Cx.blk X s3 H3 scope ce fp) [] (wipe σ (own.map (·.2))) H' s' ∧ tn i s'.heap ∧ (∀ b ∈ fp, H' b = none) ∧ W i m H' := fun {s' H'} I' nx => by
        obtain ⟨m', hm, w'⟩ := hNx H' nx
        have pin' : ∀ b ∈ fp, ∀ o, s7.heap.get? b = some o → s'.heap.get? b = some o ∧ H' b = none := fun b hb o e =>
          let z := I'.pin (b, o) (List.mem_append_right _ (List.mem_append_right _ (mem_pinsAt hb e)))
          ⟨z.1, z.2.1⟩
        have hl : (wipe σ (own.map (·.2))).length = σ8.length := by rw [← hw8, wipe_length]
        refine ⟨m', hm, i + 1, H', (I'.unpinned (pins := [])).weak hl (fun j v e => ?_), T.keep _ _ _ st7 fun b hb o e => (pin' b hb o e).1, fun b hb => ?_, w'⟩
        · rw [← hw8] at e
          exact (wipe_some e).1
        · obtain ⟨o, e, _⟩ := T.obj _ _ st7 b hb
          exact (pin' b hb o e).2
      cases b with
      | false =>
        simp only [Bool.false_eq_true, if_false] at q9 ⊢
        exact fin (ofX I9) q9
      | true =>
        simp only [if_true] at q9 ⊢
        refine wpAny_mono (pe.run _ s9 σ8 H9 _ I9 q9) (fun z s10 ⟨yv, H10, I10, r10, acc, hD10, hz10, nx⟩ => ?_) fun _ _ z => z
        exact app_ok (X := Cx.blk X s3 H3 scope ce fp) (ofX I10) hD10 hz10 r10 fun s11 I11 => fin I11 nx
  exact codeAny_compStart_list loop (T.self X.A 0 _ _ _ st4 loop)
end
end PB

namespace PB
open PySem PySem.Spec PyProof.Rows L2
/-! ### [f(x) for x in xs], the call may raise -/
section
variable {K : PySem.W.Frag} {B : Hp} {α γ : Type} [Rp α] [Rp γ]
def mapXG (f : α → Option (Except Er γ)) : List α → Option (Except Er (List γ))
  | [] => some (.ok [])
  | x :: xs => (f x).bind fun o => match o with
    | .error c => some (.error c)
    | .ok y => (mapXG f xs).bind fun r => match r with
      | .error c => some (.error c)
      | .ok ys => some (.ok (y :: ys))
def mapXO (f : α → Option (Except Er γ)) (xs : List α) : Option (Except Er (List γ)) := if xs.length ≤ sizeLine then mapXG f xs else none
def catX (acc : List γ) : Except Er (List γ) → Except Er (List γ)
  | .ok ys => .ok (acc ++ ys)
  | .error c => .error c
variable {H : Hp} {σ : L2.St} {g : TG} {tt : TT} {te : TE} {vs : List Nat} {Q : VK} {J : It} {t : Bool} {xs : List α}
theorem w_mapX {ctx : List Fact} {L : List Own} {f : α → Option (Except Er γ)} {r : Except Er (List γ)} (td : Bool) (hm : mapXO f xs = some r) (W : Wd K B ctx L H) (hJ : ∀ D, Gives K B (withD (γ := γ) (⟨fun _ _ => σ, fun _ _ => ctx, fun _ _ => L⟩ : Shp Unit Unit) td D) J t xs)
    (step : ∀ D x v acc H' o, acc.length < sizeLine → Wd K B (fc t x v :: ctx) (oL td D acc :: L) H' → f x = some o → (∀ c, o = .error c → r = .error c) → g v (wipe σ vs) H' fun σ2 H2 => wipe σ2 vs = wipe σ vs ∧ tt σ2 H2 fun c H3 =>
      if c = true then te σ2 H3 (rElt D fun H4 => ∃ y, o = .ok y ∧ Wd K B ctx (oL td D (acc ++ [y]) :: L) H4) else ∃ y, o = .ok y ∧ Wd K B ctx (oL td D (acc ++ [y]) :: L) H3)
    (done : ∀ D ys H, r = .ok ys → Wd K B ctx (oL td D ys :: L) H → Q (.ref D) H) : rLc J g tt te vs σ H Q := fun D hD => by
  obtain ⟨hz, hm⟩ := (show xs.length ≤ sizeLine ∧ mapXG f xs = some r by
    unfold mapXO at hm
    by_cases h : xs.length ≤ sizeLine
    · rw [if_pos h] at hm; exact ⟨h, hm⟩
    · rw [if_neg h] at hm; cases hm)
  obtain ⟨N, F0, W⟩ := W
  have W1 : Wd K B ctx (oL td D ([] : List γ) :: L) (upd H D (.lst [])) := Wd.newL W hD trivial
  refine ⟨fun i m H => m = xs.length - i ∧ ∃ acc r', mapXG f (xs.drop i) = some r' ∧ catX acc r' = r ∧ acc.length ≤ i ∧ Wd K B ctx (oL td D acc :: L) H, ⟨_, rfl, [], r, hm, by cases r <;> rfl, Nat.le_refl _, W1⟩, ?_⟩
  rintro i m H ⟨rfl, acc, r', hm, hr, hacc, W⟩
  obtain ⟨h1, h2⟩ := hJ D i ((), acc) () H W
  by_cases hi : i < xs.length
  · have hx : xs[i]? = some xs[i] := List.getElem?_eq_getElem hi
    obtain ⟨h3, h4⟩ := h2 _ hx
    rw [List.drop_eq_getElem_cons hi, mapXG] at hm
    obtain ⟨o, q, hm⟩ := bndE hm
    refine .inr ⟨h3, fun H4 => ∃ y, o = .ok y ∧ Wd K B ctx (oL td D (acc ++ [y]) :: L) H4, ?_, fun v H' y => ?_⟩
    · rintro H'' ⟨y, rfl, W'⟩
      obtain ⟨r2, q2, hm⟩ := bndE hm
      refine ⟨xs.length - (i + 1), by omega, rfl, acc ++ [y], r2, q2, ?_, by rw [List.length_append]; simp; omega, W'⟩
      rw [← hr]
      cases r2 with
      | error c => cases hm; rfl
      | ok ys =>
        cases hm
        show Except.ok ((acc ++ [y]) ++ ys) = Except.ok (acc ++ (y :: ys))
        rw [List.append_assoc]
        rfl
    · exact step D _ v acc H' o (by omega) (h4 v H' y) q (fun c e => by
        subst e
        cases hm
        exact hr.symm)
  · rw [List.drop_eq_nil_of_le (by omega), mapXG] at hm
    cases hm
    have hr : Except.ok (acc ++ []) = r := hr
    rw [List.append_nil] at hr
    exact .inl ⟨h1 (by omega), done D acc H hr.symm W⟩
end
/-! ### readings by name -/
def rCatS : R2 := fun x y H Q => ∃ i j, x = .str i ∧ y = .str j ∧ i.length + j.length ≤ sizeLine ∧ Q (.str (i ++ j)) H
theorem op_catS {X : Cx} : OpR X (binaryOp .Add) rCatS := op_add_str
def rSplitS : V → List V → Hp → VK → Prop := fun x xs H Q => ∃ a b, x = .str a ∧ xs = [.str b] ∧ (b.length == 0) = false ∧ a.length + 2 ≤ sizeLine ∧ rNewStrs (Txt.split a b) H Q
def rPartS : V → List V → Hp → VK → Prop := fun x xs H Q => ∃ a b, x = .str a ∧ xs = [.str b] ∧ (b.length == 0) = false ∧ a.length ≤ sizeLine ∧ ∀ p, H p = none → Q (.ref p) (upd H p (.tup [.str (Txt.partition a b).1, .str (Txt.partition a b).2.1, .str (Txt.partition a b).2.2]))
def rJoinS (K : PySem.W.Frag) : V → List V → Hp → VK → Prop := fun x xs H Q => ∃ a p, ∃ ys : List PySem.Str, x = .str a ∧ xs = [.ref p] ∧ (SqL K H p (ys.map V.str) ∨ SqT K H p (ys.map V.str)) ∧ (ys.map (·.length)).sum + ys.length * a.length ≤ 16777216 ∧ Q (.str (Txt.join a ys)) H
def rIntS : List V → Hp → VK → Prop := fun xs H Q => ∃ a n, xs = [.str a] ∧ PySem.intText? a = some n ∧ a.length ≤ 640 ∧ Q (.int n) H
theorem call_intS {X : Cx} : CallR X (.type "int") rIntS := call_int_str
section
variable {X : Cx} {o e : Expr} {to te : TE}
theorem pe_splitR {apos pos : Pos} (ho : PE X o to) (he : PE X e te) (hs : starEach [e] X.env = [(false, eval e X.env)] := by rfl) (hbase : attributeBase o "split" X.env (eval o X.env) = eval o X.env := by rfl) (hline : (apos.endLine == pos.line) = true := by rfl) :
    PE X (.Call (.Attribute o "split" apos) [e] [] pos) (tM1 rSplitS to te) := pe_split ho he hs hbase hline
theorem pe_partR {apos pos : Pos} (ho : PE X o to) (he : PE X e te) (hs : starEach [e] X.env = [(false, eval e X.env)] := by rfl) (hbase : attributeBase o "partition" X.env (eval o X.env) = eval o X.env := by rfl) (hline : (apos.endLine == pos.line) = true := by rfl) :
    PE X (.Call (.Attribute o "partition" apos) [e] [] pos) (tM1 rPartS to te) := pe_partition ho he hs hbase hline
theorem pe_joinR {K : PySem.W.Frag} {apos pos : Pos} (ek : X.K = K) (ho : PE X o to) (he : PE X e te) (hs : starEach [e] X.env = [(false, eval e X.env)] := by rfl) (hbase : attributeBase o "join" X.env (eval o X.env) = eval o X.env := by rfl) (hline : (apos.endLine == pos.line) = true := by rfl) :
    PE X (.Call (.Attribute o "join" apos) [e] [] pos) (tM1 (rJoinS K) to te) := by
  subst ek
  exact pe_join ho he hs hbase hline
end
/-! ### texts: so many times; all of a list; None in a list -/
def rMulS : R2 := fun x y H Q => ∃ (s : PySem.Str) (i : Int), x = .str s ∧ y = .int i ∧ MulOk s i ∧ Q (.str (Txt.mul s i)) H
def repS (a : PySem.Str) (i : Int) : Option PySem.Str := if 0 ≤ i ∧ i ≤ 16777216 ∧ a.length * i.toNat ≤ 16777216 then some (Txt.mul a i) else none
theorem mulOk_of {a : PySem.Str} {i : Int} (h0 : 0 ≤ i) (h1 : i ≤ 16777216) (h2 : a.length * i.toNat ≤ 16777216) : MulOk a i := by
  refine ⟨by simp; omega, fun hi _ => ?_, fun hi _ => ?_⟩
  · have hp : 0 < i := by omega
    intro hgt
    have h3 : (2 ^ 63 - 1 : Int) / i < a.length := hgt
    have h4 := Int.lt_mul_of_ediv_lt hp h3
    have h5 : (a.length : Int) * i = ((a.length * i.toNat : Nat) : Int) := by
      rw [Int.natCast_mul, Int.toNat_of_nonneg h0]
    omega
  · have hs : sizeLine = 16777216 := by decide
    unfold Builtin.Str.tooLong
    rw [hs]
    simp
    exact h2
theorem op_mulS {X : Cx} : OpR X (binaryOp .Mult) rMulS := by
  intro pins s σ H x y v u Q I rx ry h
  obtain ⟨i, j, rfl, rfl, hz, q⟩ := h
  obtain ⟨t, rfl⟩ := rx
  obtain ⟨t', rfl⟩ := ry
  exact SB.mul hz (fun t' tk => ⟨.str (Txt.mul i j), H, I.tok _, ⟨_, rfl⟩, q⟩)
section
variable {K : PySem.W.Frag} {B H H' : Hp} {ctx : List Fact} {L : List Own} {t : Bool} {v w u : V} {p : Addr} {Q : VK} {i j : Int} {σ : L2.St} {a b c : PySem.Str}
theorem w_catR (e : catS a b = some c) (k : Q (.str c) H) : rCatS (.str a) (.str b) H Q := w_catS e k
theorem w_intR (e : intSO a = some i) (k : Q (.int i) H) : rIntS [.str a] H Q := w_intS e k
theorem w_splitR {ys : List PySem.Str} (W : Wd K B ctx L H) (e : splitO a b = some ys) (k : ∀ p H', Wd K B ctx (oL true p ys :: L) H' → Q (.ref p) H') : rSplitS (.str a) [.str b] H Q := w_split W e k
theorem w_partR {y : T3 PySem.Str PySem.Str PySem.Str} (W : Wd K B ctx L H) (e : partO a b = some y) (k : ∀ p H', Wd K B (fc true y (.ref p) :: ctx) L H' → Q (.ref p) H') : rPartS (.str a) [.str b] H Q := w_part W e k
theorem w_joinR {ys : List PySem.Str} (W : Wd K B ctx L H) (h : Ls K ctx L t ys v) (e : joinO a ys = some c) (k : Q (.str c) H) : rJoinS K (.str a) [v] H Q := w_join W h e k
theorem w_repS (e : repS a i = some c) (k : Q (.str c) H) : rMulS (.str a) (.int i) H Q := by
  obtain ⟨⟨h0, h1, h2⟩, rfl⟩ := guardE e
  exact ⟨a, i, rfl, rfl, mulOk_of h0 h1 h2, k⟩
theorem all2_bl {S : Lk} : ∀ {xs : List Bool} {vs : List V}, All2 (Rp.rep S) xs vs → vs = xs.map V.bl
  | [], [], _ => rfl
  | x :: xs, v :: vs, h => by
    have e : v = .bl x := h.1
    rw [List.map_cons, e, all2_bl h.2]
  | [], _ :: _, h => h.elim
  | _ :: _, [], h => h.elim
theorem w_all {xs : List Bool} (W : Wd K B ctx L H) (h : Ls K ctx L t xs v) (k : Q (.bl (xs.all id)) H) : rAll K [v] H Q := by
  obtain ⟨N, F, W⟩ := W
  obtain ⟨q, vs, rfl, h1, h2⟩ := h B H N F W
  rw [all2_bl h2] at h1
  exact ⟨q, xs, rfl, h1, k⟩
theorem w_inNone {xs : List (Option Int)} (W : Wd K B ctx L H) (h : Ls K ctx L t xs v) (k : Q (.bl (xs.any Option.isNone)) H) : rIn K false .non v H Q := by
  obtain ⟨N, F, W⟩ := W
  obtain ⟨q, vs, rfl, h1, h2⟩ := h B H N F W
  have key : ∀ {xs : List (Option Int)} {vs : List V}, All2 (Rp.rep (reg t K N F)) xs vs → vs.all flatV = true ∧ inV .non vs = xs.any Option.isNone := by
    intro xs
    induction xs with
    | nil =>
      intro vs h
      match vs, h with
      | [], _ => exact ⟨rfl, rfl⟩
    | cons x xs ih =>
      intro vs h
      match vs, h with
      | v :: vs, h =>
        obtain ⟨i1, i2⟩ := ih h.2
        cases x with
        | none =>
          have e : v = .non := h.1
          subst e
          exact ⟨by rw [List.all_cons, i1]; rfl, rfl⟩
        | some n =>
          have e : v = .int n := h.1
          subst e
          refine ⟨by rw [List.all_cons, i1]; rfl, ?_⟩
          show (false || inV .non vs) = (false || _)
          rw [i2]
  obtain ⟨k1, k2⟩ := key h2
  exact ⟨q, vs, rfl, .inl h1, rfl, k1, by simpa only [Bool.false_eq_true, if_false, k2] using k⟩
end
/-- the slots written out -/
theorem s_norm {P : L2.St → Hp → Prop} {σ : L2.St} {H : Hp} (σ' : L2.St) (e : σ = σ') (h : P σ' H) : P σ H := by
  rw [e]
  exact h
end PB

namespace PB
open PySem PySem.Spec PyProof.Rows L2
/-! ### objects held as they are: told things that lie apart -/
def oX (r : Addr × HO) : Own := ⟨r.1, fun _ _ _ o => o = r.2, fun _ _ h => h⟩
abbrev CT := Option Int × List Int
/-- a told bound and cut, or None, among the objects rs -/
def repX (rs : List (Addr × HO)) : Option CT → V → Prop
  | none, v => v = .non
  | some x, v => ∃ t p u, v = .ref t ∧ (t, HO.tup [u, .ref p]) ∈ rs ∧ (p, HO.lst (x.2.map V.int)) ∈ rs ∧ Rp.rep (lkN fun _ => none) x.1 u
theorem repX_mono {rs rs' : List (Addr × HO)} (h : ∀ r ∈ rs, r ∈ rs') : ∀ {x : Option CT} {v : V}, repX rs x v → repX rs' x v
  | none, _, e => e
  | some _, _, ⟨t, p, u, e, h1, h2, h3⟩ => ⟨t, p, u, e, h _ h1, h _ h2, h3⟩
def oR (rs : List (Addr × HO)) (p : Addr) (xs : List (Option CT)) : Own := ⟨p, fun _ _ _ o => ∃ vs, o = .lst vs ∧ All2 (repX rs) xs vs, fun _ _ h => h⟩
theorem oX_fr {r : Addr × HO} : (oX r).Fr := fun _ _ _ _ _ h => h
theorem oR_fr {rs : List (Addr × HO)} {p : Addr} {xs : List (Option CT)} : (oR rs p xs).Fr := fun _ _ _ _ _ h => h
section
variable {K : PySem.W.Frag} {B H N F R : Hp} {ctx : List Fact} {L L1 M2 L' : List Own} {rs : List (Addr × HO)} {p : Addr} {v : V} {xs ys : List (Option CT)} {Q : VK}
theorem WdI.perm (W : WdI K B ctx L H N F) (h : L.Perm L') : WdI K B ctx L' H N F :=
  ⟨W.bF, W.nF, W.sep, W.fH, W.facts, fun o ho => W.at_ o (h.mem_iff.mpr ho), fun o ho => W.off o (h.mem_iff.mpr ho), (h.map _).nodup_iff.mp W.nd⟩
/-- a told pair, its two objects laid beside -/
theorem WdI.addPair {α : Type} [Rp α] [Flat α] {r : α × List Int} (W : WdI K B ctx (L1 ++ rs.map oX) H N F) (I : Isl (L1 ++ rs.map oX) F H R) (h : Rp.rep (lkN R) r v) :
    ∃ t q u, v = .ref t ∧ Rp.rep (lkN fun _ => none) r.1 u ∧ Wd K B ctx (L1 ++ (((t, HO.tup [u, .ref q]) :: (q, HO.lst (r.2.map V.int)) :: rs).map oX)) H := by
  obtain ⟨a, u, w, rfl, hl, hr1, p, vs, rfl, hp, hr⟩ := h
  obtain ⟨g1, g2⟩ := I.off _ _ hp
  have hl : R a = some (.tup [u, .ref p]) := hl
  have hp : R p = some (.lst vs) := hp
  have hap : a ≠ p := fun e => by
    rw [e, hp] at hl
    cases hl
  obtain ⟨k1, k2⟩ := I.off _ _ hl
  have e := all2_int hr
  subst e
  have W1 : WdI K B ctx (oX (p, .lst (r.2.map V.int)) :: (L1 ++ rs.map oX)) H N F := WdI.addOwn (o := oX (p, .lst (r.2.map V.int))) W (I.s _ _ hp) g1 g2 rfl
  have W2 : WdI K B ctx (oX (a, .tup [u, .ref p]) :: oX (p, .lst (r.2.map V.int)) :: (L1 ++ rs.map oX)) H N F := WdI.addOwn (o := oX (a, .tup [u, .ref p])) W1 (I.s _ _ hl) k1 (fun o ho => by
    rcases List.mem_cons.mp ho with rfl | ho
    · exact fun z => hap z.symm
    · exact k2 o ho) rfl
  refine ⟨a, p, u, rfl, Flat.h _ _ _ _ hr1, N, F, W2.perm ?_⟩
  refine ((List.perm_middle (a := oX (p, .lst (r.2.map V.int))) (l₁ := L1) (l₂ := rs.map oX)).symm.cons _).trans ?_
  exact (List.perm_middle (l₁ := L1)).symm
theorem WdI.addXI {r : Int × List Int} (W : WdI K B ctx (L1 ++ rs.map oX) H N F) (I : Isl (L1 ++ rs.map oX) F H R) (h : Rp.rep (lkN R) r v) :
    ∃ t rs', v = .ref t ∧ (∀ z ∈ rs, z ∈ rs') ∧ repX rs' (some (Co.f r : CT)) (.ref t) ∧ Wd K B ctx (L1 ++ rs'.map oX) H := by
  obtain ⟨t, q, u, e, h1, W2⟩ := W.addPair I h
  exact ⟨t, _, e, fun z hz => List.mem_cons_of_mem _ (List.mem_cons_of_mem _ hz), ⟨t, q, u, rfl, List.mem_cons_self, List.mem_cons_of_mem _ (by
    show (q, HO.lst ((Co.f r : CT).2.map V.int)) ∈ _
    have : (Co.f r : CT).2 = r.2 := by first | rfl | exact List.map_id _
    rw [this]
    exact List.mem_cons_self), h1⟩, W2⟩
theorem WdI.addXO {r : CT} (W : WdI K B ctx (L1 ++ rs.map oX) H N F) (I : Isl (L1 ++ rs.map oX) F H R) (h : Rp.rep (lkN R) r v) :
    ∃ t rs', v = .ref t ∧ (∀ z ∈ rs, z ∈ rs') ∧ repX rs' (some r) (.ref t) ∧ Wd K B ctx (L1 ++ rs'.map oX) H := by
  obtain ⟨t, q, u, e, h1, W2⟩ := W.addPair I h
  exact ⟨t, _, e, fun z hz => List.mem_cons_of_mem _ (List.mem_cons_of_mem _ hz), ⟨t, q, u, rfl, List.mem_cons_self, List.mem_cons_of_mem _ List.mem_cons_self, h1⟩, W2⟩
/-- [None, None, None], to hold such -/
theorem Wd.toR (W : Wd K B ctx (oL true p ([(), (), ()] : List Unit) :: L) H) : Wd K B ctx (oR [] p (List.map Co.f ([(), (), ()] : List Unit) : List (Option CT)) :: L) H := by
  obtain ⟨N, F, W⟩ := W
  refine ⟨N, F, W.bF, W.nF, W.sep, W.fH, W.facts, fun o ho => ?_, fun o ho => ?_, W.nd⟩
  · rcases List.mem_cons.mp ho with rfl | ho
    · obtain ⟨k, h1, vs, rfl, h2⟩ := W.at_ _ List.mem_cons_self
      refine ⟨_, h1, vs, rfl, ?_⟩
      match vs, h2 with
      | [a, b, c], h2 => exact ⟨h2.1, h2.2.1, h2.2.2.1, trivial⟩
    · exact W.at_ o (List.mem_cons_of_mem _ ho)
  · rcases List.mem_cons.mp ho with rfl | ho
    · exact W.off (oL true p ([(), (), ()] : List Unit)) List.mem_cons_self
    · exact W.off o (List.mem_cons_of_mem _ ho)
theorem w_setR {rs0 : List (Addr × HO)} {x : Option CT} {i : Int} {R : Hp → Prop} (W : Wd K B ctx (oR rs0 p xs :: L) H) (hs : ∀ z ∈ rs0, z ∈ rs) (h : repX rs x v) (e : setO xs i x = some ys) (k : ∀ H', Wd K B ctx (oR rs p ys :: L) H' → R H') : L2.rSetL (.ref p) (.int i) v H R := by
  obtain ⟨N, F, W⟩ := W
  obtain ⟨o, h1, vs, rfl, h2⟩ := W.at_ _ List.mem_cons_self
  unfold setO at e
  cases q : ixN xs.length i with
  | none => rw [q] at e; cases e
  | some j =>
    rw [q] at e
    cases e
    have h3 : All2 (repX rs) xs vs := h2.mono fun _ _ r => repX_mono hs r
    have hl := h3.len
    refine ⟨p, vs, i, j, rfl, rfl, h1, ?_, k _ (Wd.put (o' := oR rs p (xs.set j x)) W 0 rfl rfl _ ⟨_, rfl, h3.set j h⟩)⟩
    rw [hl]
    exact q

/-- the list with what lies in it, told -/
theorem WdI.islR (W : WdI K B ctx (oR rs p xs :: (L1 ++ rs.map oX)) H N F) : ∃ R, WdI K B ctx L1 H N F ∧ Isl L1 F H R ∧ Rp.rep (lkN R) xs (.ref p) := by
  obtain ⟨o, h1, vs, rfl, h2⟩ := W.at_ _ List.mem_cons_self
  have h1 : H p = some (.lst vs) := h1
  have hX : ∀ z ∈ rs, oX z ∈ oR rs p xs :: (L1 ++ rs.map oX) := fun z hz => List.mem_cons_of_mem _ (List.mem_append_right _ (List.mem_map_of_mem hz))
  have hat : ∀ z ∈ rs, H z.1 = some z.2 := fun z hz => by
    obtain ⟨u, e, q⟩ := W.at_ _ (hX z hz)
    have e : H z.1 = some u := e
    have q : u = z.2 := q
    rw [e, q]
  have hL1 : ∀ o ∈ L1, o ∈ oR rs p xs :: (L1 ++ rs.map oX) := fun o ho => List.mem_cons_of_mem _ (List.mem_append_left _ ho)
  have nd := W.nd
  rw [List.map_cons, List.map_append] at nd
  have nd1 := List.nodup_cons.mp nd
  have nd2 := List.nodup_append.mp nd1.2
  refine ⟨fun a => if a = p ∨ a ∈ rs.map (·.1) then H a else none, ⟨W.bF, W.nF, W.sep, W.fH, W.facts, fun o ho => W.at_ o (hL1 o ho), fun o ho => W.off o (hL1 o ho), nd2.1⟩, ⟨fun a u e => ?_, fun a u e => ?_⟩, p, vs, rfl, ?_, ?_⟩
  · split at e
    · exact e
    · cases e
  · split at e
    case isFalse => cases e
    case isTrue c =>
      rcases c with rfl | c
      · refine ⟨W.off _ List.mem_cons_self, fun o ho eo => nd1.1 (List.mem_append_left _ ?_)⟩
        have := List.mem_map_of_mem (f := (·.a)) ho
        rw [eo] at this
        exact this
      · obtain ⟨z, hz, rfl⟩ := List.mem_map.mp c
        refine ⟨W.off _ (hX z hz), fun o ho eo => ?_⟩
        exact nd2.2.2 _ (List.mem_map_of_mem (f := (·.a)) ho) _ (List.mem_map_of_mem (f := (·.a)) (List.mem_map_of_mem (f := oX) hz)) eo
  · show (if p = p ∨ _ then H p else none) = _
    rw [if_pos (.inl rfl)]
    exact h1
  · have hx : ∀ a u, (a, u) ∈ rs → (if a = p ∨ a ∈ rs.map (·.1) then H a else none) = some u := fun a u hm => by
      rw [if_pos (.inr (List.mem_map.mpr ⟨_, hm, rfl⟩))]
      exact hat _ hm
    refine h2.mono fun x v h => ?_
    cases x with
    | none => exact h
    | some y =>
      obtain ⟨t, q, u, rfl, m1, m2, r⟩ := h
      exact ⟨t, u, .ref q, rfl, hx _ _ m1, Flat.h _ _ _ _ r, q, _, rfl, hx _ _ m2, all2_ofInt _⟩
/-! ### a told list as ground, and changed -/
def spoilO (xs : List (Option CT)) : Option Unit := if (xs.all fun o => match o with | some x => decide (x.2.length + xs.length < sizeLine) | none => false) = true then some () else none
theorem WdI.ground {α : Type} [Rp α] {x : α} (W : WdI K B ctx L H N F) (I : Isl L F H R) (h : Rp.rep (lkN R) x v) : Wd K (join B R) (fc false x v :: fN N F :: ctx) L H := by
  have rF : ∀ a u, R a = some u → F a = none := fun a u e => (I.off a u e).1
  have sF : Same F (join F R) := join_l
  have sR : Same R (join F R) := join_r rF
  have J := W.addI I
  refine ⟨N, join F R, fun b u e => ?_, W.nF.trans sF, fun a u e => ?_, J.fH, fun f hf => ?_, fun o ho => ?_, J.off, W.nd⟩
  · rcases join_or e with e | e
    · exact sF _ _ (W.bF _ _ e)
    · exact sR _ _ e
  · cases q : join B R a with
    | none => rfl
    | some w =>
      exfalso
      rcases join_or q with q | q
      · have := W.sep _ _ e
        rw [this] at q
        cases q
      · have := W.nF _ _ e
        rw [rF _ _ q] at this
        cases this
  · rcases List.mem_cons.mp hf with rfl | hf
    · exact Rp.mono (lkNA sR) h
    · rcases List.mem_cons.mp hf with rfl | hf
      · exact ⟨Same.refl _, sF⟩
      · exact f.mono (Same.refl _) sF (W.facts f hf)
  · obtain ⟨u, e, q⟩ := W.at_ o ho
    exact ⟨u, e, o.mono (Same.refl _) sF q⟩
theorem Isl.inB {N1 F1 H0 : Hp} {ctx0 : List Fact} {L0 : List Own} (W0 : WdI K B ctx0 L0 H0 N1 F1) (I : Isl L0 F1 H0 R) : Same R (join B R) := join_r fun a u e => W0.bF.free (I.off a u e).1
theorem WdI.spoilt {N1 F1 H0 H' : Hp} {ctx0 : List Fact} {L0 : List Own} {α : Type} [Rp α] {x : α} (W0 : WdI K B ctx0 L0 H0 N1 F1) (I : Isl L0 F1 H0 R) (W : WdI K (join B R) ctx L H N F) (m : Nat) (hm : ctx[m]? = some (fN N1 F1)) (fr : AllFr L)
    (hk : ∀ a, R a = none → H' a = H a) (h : Kn K ctx true x v) : Wd K B (fc true x v :: ctx0) L H' := by
  obtain ⟨s1, s2⟩ := W.facts _ (List.mem_of_getElem? hm)
  have rF : ∀ a u, R a = some u → F a = some u := fun a u e => W.bF _ _ (Isl.inB W0 I _ _ e)
  have offR : ∀ a, F a = none → R a = none := fun a e => by
    cases q : R a with
    | none => rfl
    | some u =>
      rw [rF _ _ q] at e
      cases e
  have rN : ∀ a u, N a = some u → R a = none := fun a u e => by
    cases q : R a with
    | none => rfl
    | some w =>
      have := W.sep _ _ e
      rw [Isl.inB W0 I _ _ q] at this
      cases this
  let F2 : Hp := fun a => if R a = none then F a else none
  have hF2 : ∀ a u, R a = none → F a = some u → F2 a = some u := fun a u q e => by
    show (if R a = none then F a else none) = _
    rw [if_pos q]
    exact e
  have hF3 : ∀ a u, F2 a = some u → R a = none ∧ F a = some u := fun a u e => by
    have e : (if R a = none then F a else none) = some u := e
    split at e
    · exact ⟨by assumption, e⟩
    · cases e
  have hF4 : ∀ a, F a = none → F2 a = none := fun a e => by
    show (if R a = none then F a else none) = _
    split
    · exact e
    · rfl
  have r1 : ∀ a u, F1 a = some u → R a = none := fun a u e => by
    cases q : R a with
    | none => rfl
    | some w =>
      rw [(I.off _ _ q).1] at e
      cases e
  refine ⟨N, F2, fun b u e => ?_, fun b u e => hF2 _ _ (rN _ _ e) (W.nF _ _ e), fun b u e => ?_, fun b u e => ?_, fun f hf => ?_, fun o ho => ?_, fun o ho => hF4 _ (W.off o ho), W.nd⟩
  · exact hF2 _ _ (r1 _ _ (W0.bF _ _ e)) (W.bF _ _ (join_l _ _ e))
  · have := W.sep _ _ e
    cases q : B b with
    | none => rfl
    | some w =>
      rw [join_l _ _ q] at this
      cases this
  · obtain ⟨g1, g2⟩ := hF3 _ _ e
    rw [hk _ g1]
    exact W.fH _ _ g2
  · rcases List.mem_cons.mp hf with rfl | hf
    · exact h N F W.nF W.facts
    · exact f.mono s1 (fun a u e => hF2 _ _ (r1 _ _ e) (s2 _ _ e)) (W0.facts f hf)
  · obtain ⟨u, e, q⟩ := W.at_ o ho
    refine ⟨u, ?_, fr.all o ho _ _ _ _ _ q⟩
    rw [hk _ (offR _ (W.off o ho))]
    exact e
/-- for bound, cut in xs: cut.append(None) -/
theorem w_spoil {g : TG} {tb : TS} {nx bk ct : L2.St → Hp → Prop} {rt : VK} {σ : L2.St} (i j : Nat) (x0 y0 : Option V) (hR : Rp.rep (lkN R) xs (.ref p)) (hH : Same R H) (hs : spoilO xs = some ()) (hσ : σ = (σ.set i x0).set j y0)
    (step : ∀ t u q ws x y H' (Nx : L2.St → Hp → Prop), H' t = some (.tup [u, .ref q]) → H' q = some (.lst ws) → ws.length < sizeLine → (∀ x' y', Nx ((σ.set i x').set j y') (upd H' q (.lst (ws ++ [.non])))) →
      g (.ref t) ((σ.set i x).set j y) H' fun σ2 H2 => tb ⟨Nx, rt, nx, Nx⟩ σ2 H2)
    (done : ∀ x y H', (∀ a, R a = none → H' a = H a) → nx ((σ.set i x).set j y) H') : rFor (Itl K p) g tb ⟨nx, rt, bk, ct⟩ σ H := by
  obtain ⟨p', vs, e, hl, hr⟩ := hR
  cases e
  have hl : R p = some (.lst vs) := hl
  unfold spoilO at hs
  split at hs
  case isFalse => cases hs
  case isTrue hs' =>
  have hall := List.all_eq_true.mp hs'
  refine ⟨fun n m σ' H' => m = xs.length - n ∧ (∃ x y, σ' = (σ.set i x).set j y) ∧ (∀ a, R a = none → H' a = H a) ∧ H' p = some (.lst vs) ∧ (∀ a us, R a = some (.tup us) → H' a = some (.tup us)) ∧ ∀ a us, R a = some (.lst us) → a ≠ p → ∃ ws, H' a = some (.lst ws) ∧ ws.length ≤ us.length + n, ⟨_, rfl, ⟨x0, y0, hσ⟩, fun _ _ => rfl, hH _ _ hl, fun a us e => hH _ _ e, fun a us e _ => ⟨us, hH _ _ e, by omega⟩⟩, ?_⟩
  rintro n m σ' H' ⟨rfl, ⟨x, y, rfl⟩, k1, k2, k3, k4⟩
  by_cases hn : n < xs.length
  · have hx : xs[n]? = some xs[n] := List.getElem?_eq_getElem hn
    obtain ⟨v, hv, r⟩ := hr.get hx
    have hb := hall _ (List.getElem_mem hn)
    cases ex : xs[n] with
    | none => rw [ex] at hb; cases hb
    | some c =>
      rw [ex] at hb r
      have hb : c.2.length + xs.length < sizeLine := of_decide_eq_true hb
      obtain ⟨t, u, w, rfl, ht, hr1, q, us, rfl, hq, hr2⟩ := r
      have ht : R t = some (.tup [u, .ref q]) := ht
      have hq : R q = some (.lst us) := hq
      have hlen : us.length = c.2.length := hr2.len
      have hqp : q ≠ p := fun z => by
        rw [z, hl] at hq
        cases hq
        obtain ⟨d, hd, rd⟩ := hr2.getV hv
        have : V.ref t = .int d := rd
        cases this
      obtain ⟨ws, hw, hwl⟩ := k4 _ _ hq hqp
      refine .inr ⟨⟨vs, _, SqL.of k2, hv⟩, fun σ2 H2 => (∃ x' y', σ2 = (σ.set i x').set j y') ∧ H2 = upd H' q (.lst (ws ++ [.non])), ?_, fun v' H2 yy => ?_⟩
      · rintro σ2 H2 ⟨hσ2, rfl⟩
        refine ⟨xs.length - (n + 1), by omega, rfl, hσ2, fun a ha => ?_, ?_, fun a us' ea => ?_, fun a us' ea na => ?_⟩
        · rw [upd_ne (fun z => by rw [z, hq] at ha; cases ha)]
          exact k1 a ha
        · rw [upd_ne (fun z => hqp z.symm)]
          exact k2
        · rw [upd_ne (fun z => by rw [z, hq] at ea; cases ea)]
          exact k3 _ _ ea
        · by_cases hz : a = q
          · subst hz
            rw [hq] at ea
            cases ea
            refine ⟨_, upd_same, ?_⟩
            rw [List.length_append, List.length_singleton]
            omega
          · obtain ⟨ws', g1, g2⟩ := k4 _ _ ea na
            exact ⟨ws', by rw [upd_ne hz]; exact g1, by omega⟩
      · obtain ⟨rfl, yy⟩ := yy
        have := yy vs (SqL.of k2)
        rw [hv] at this
        cases this
        exact step t u q ws x y H2 _ (k3 _ _ ht) hw (by omega) fun x' y' => ⟨⟨x', y', rfl⟩, rfl⟩
  · exact .inl ⟨⟨vs, SqL.of k2, by rw [hr.len]; omega⟩, done x y H' k1⟩
end
/-! ### methods asked in a comprehension -/
section
variable {X : Cx} {K : PySem.W.Frag} {k : Nat} {m : Str} {ps : List Str} {sp : Sp} {E : XK} {o e : Expr} {es : List Expr} {ta : TE} {t : TA} {pos apos : Pos} {pl : Sem Bool}
theorem pe_mGK (eK : X.K = K) (G : MFn X.prog X.w K X.mg X.base k m ps sp) (c : Cls K (LvA K)) (hr : Room k X.A) (hgd : X.A.guards = some []) (hx : Passes (L2.CX X.prog X.w) X E) (he : PE X o ta) (ha : PA X (e :: es) t)
    (hst : starEach (e :: es) X.env = (false, eval e X.env) :: starEach es X.env := by rfl) (hpl : (backTo pos (starEach es X.env)).any (·.1) = false := by rfl)
    (ht : eval (.Call (.Attribute o m apos) (e :: es) [] pos) X.env = (do
      let ov ← eval o X.env
      standAt apos.atName
      let (f, first) ← holding [ov] (getMethod ov m pl)
      callWith pos f first (backTo pos (starEach (e :: es) X.env)) (backToKw pos (keywordEach [] X.env))) := by rfl) :
    PE X (.Call (.Attribute o m apos) (e :: es) [] pos) (tM (LvA K) m sp E ta t) := by
  subst eK
  exact pe_mG G c hr hgd hx he ha hst hpl ht
theorem pe_mG0K (eK : X.K = K) (G : MFn X.prog X.w K X.mg X.base k m ps sp) (c : Cls K (LvA K)) (hr : Room k X.A) (hgd : X.A.guards = some []) (hx : Passes (L2.CX X.prog X.w) X E) (he : PE X o ta)
    (ht : eval (.Call (.Attribute o m apos) [] [] pos) X.env = (do
      let ov ← eval o X.env
      standAt apos.atName
      let (f, first) ← holding [ov] (getMethod ov m pl)
      callWith pos f first (backTo pos (starEach [] X.env)) (backToKw pos (keywordEach [] X.env))) := by rfl) :
    PE X (.Call (.Attribute o m apos) [] [] pos) (tM (LvA K) m sp E ta tNil) := by
  subst eK
  exact pe_mG0 G c hr hgd hx he ht
end
end PB

namespace PB
open PySem PySem.Spec PyProof.Rows L2
/-! ### a new list of new lists, each its own -/
def oLN (a : Addr) (xs : List (List Int)) : Own := ⟨a, fun K N F o => ∃ vs, o = .lst vs ∧ All2 (Rp.rep (lkN N)) xs vs ∧ vs.Nodup, fun h1 _ ⟨vs, e, h, n⟩ => ⟨vs, e, h.mono fun _ _ q => Rp.mono (lkN_mono h1) q, n⟩⟩
def oLast (a q : Addr) (xs : List (List Int)) : Own := ⟨a, fun K N F o => ∃ vs, o = .lst (vs ++ [.ref q]) ∧ All2 (Rp.rep (lkN N)) xs vs ∧ (vs ++ [V.ref q]).Nodup, fun h1 _ ⟨vs, e, h, n⟩ => ⟨vs, e, h.mono fun _ _ q => Rp.mono (lkN_mono h1) q, n⟩⟩
def ResD (K : PySem.W.Frag) (H : Hp) (xs : List (List Int)) (v : V) (H' : Hp) : Prop := ∃ R, Same H H' ∧ Same R H' ∧ (∀ a u, R a = some u → H a = none) ∧ ∃ p vs, v = .ref p ∧ R p = some (.lst vs) ∧ All2 (Rp.rep (lkN R)) xs vs ∧ vs.Nodup
theorem ResD.res {K : PySem.W.Frag} {H H' : Hp} {xs : List (List Int)} {v : V} (r : ResD K H xs v H') : Res K H xs v H' := by
  obtain ⟨R, h1, h2, h3, p, vs, e, h4, h5, _⟩ := r
  exact ⟨R, h1, h2, h3, p, vs, e, h4, h5⟩
section
variable {K : PySem.W.Frag} {B H H' N F R : Hp} {ctx ctx2 : List Fact} {L L' : List Own} {p q D : Addr} {v : V} {x : List Int} {acc xs ys : List (List Int)} {vs : List V} {Q : VK} {Nx : Hp → Prop}
theorem rep_l {S : Hp} {x : List Int} {v : V} (h : Rp.rep (lkN S) x v) : ∃ a, v = .ref a ∧ S a = some (.lst (x.map V.int)) := by
  obtain ⟨a, vs, e, h1, h2⟩ := h
  rw [all2_int h2] at h1
  exact ⟨a, e, h1⟩
theorem rep_mk {S : Hp} {x : List Int} {a : Addr} (h : S a = some (.lst (x.map V.int))) : Rp.rep (lkN S) x (.ref a) := ⟨a, _, rfl, h, all2_ofInt _⟩
theorem WdI.fresh_v (W : WdI K B ctx (oL true q x :: oLN D acc :: L) H N F) {vs : List V} (h : All2 (Rp.rep (lkN N)) acc vs) (nd : vs.Nodup) : (vs ++ [V.ref q]).Nodup := by
  have hq : N q = none := W.nF.free (W.off _ List.mem_cons_self)
  refine List.nodup_append.mpr ⟨nd, by simp, fun a ha b hb e => ?_⟩
  rw [List.mem_singleton.mp hb] at e
  subst e
  obtain ⟨i, hi⟩ := List.getElem?_of_mem ha
  obtain ⟨y, _, hy⟩ := h.getV hi
  obtain ⟨c, e, hc⟩ := rep_l hy
  cases e
  rw [hq] at hc
  cases hc
theorem Wd.pushP (W : Wd K B ctx (oL true q x :: oLN D acc :: L) H) : ∃ vs, H D = some (.lst vs) ∧ vs.length = acc.length ∧ Wd K B ctx (oLast D q acc :: oL true q x :: L) (upd H D (.lst (vs ++ [.ref q]))) := by
  obtain ⟨N, F, W⟩ := W
  obtain ⟨o, h1, vs, rfl, h2, nd⟩ := W.at_ (oLN D acc) (List.mem_cons_of_mem _ List.mem_cons_self)
  have P : Wd K B ctx (oL true q x :: oLast D q acc :: L) (upd H D (.lst (vs ++ [.ref q]))) := Wd.put (o' := oLast D q acc) W 1 rfl rfl _ ⟨vs, rfl, h2, W.fresh_v h2 nd⟩
  obtain ⟨N2, F2, P⟩ := P
  exact ⟨vs, h1, h2.len, N2, F2, P.perm (List.Perm.swap _ _ _)⟩
theorem w_pushE (W : Wd K B ctx (oL true q x :: oLN D acc :: L) H) (hz : acc.length < sizeLine) (k : ∀ H', Wd K B ctx (oLast D q acc :: oL true q x :: L) H' → Nx H') : rElt D Nx (.ref q) H := by
  obtain ⟨vs, h1, h2, W'⟩ := W.pushP
  exact ⟨vs, h1, by rw [h2]; exact hz, k _ W'⟩
theorem w_pushA (W : Wd K B ctx (oL true q x :: oLN D acc :: L) H) (hz : acc.length < sizeLine) (k : ∀ H', Wd K B ctx (oLast D q acc :: oL true q x :: L) H' → Q .non H') : rAppend (.ref D) [.ref q] H Q := by
  obtain ⟨vs, h1, h2, W'⟩ := W.pushP
  exact ⟨D, vs, _, rfl, rfl, h1, by rw [h2]; exact hz, k _ W'⟩
theorem Wd.close (W : Wd K B ctx (oLast D q acc :: oL true q x :: L) H) : Wd K B ctx (oLN D (acc ++ [x]) :: L) H := by
  obtain ⟨N, F, W⟩ := W
  have W1 : Wd K B ctx (oL true q x :: oLast D q acc :: L) H := ⟨N, F, W.perm (List.Perm.swap _ _ _)⟩
  obtain ⟨N, F, W2⟩ := Wd.frz W1
  have hx := W2.facts _ List.mem_cons_self
  have hx : Rp.rep (lkN N) x (.ref q) := hx
  refine ⟨N, F, W2.bF, W2.nF, W2.sep, W2.fH, fun f hf => W2.facts f (List.mem_cons_of_mem _ hf), fun o ho => ?_, fun o ho => ?_, W2.nd⟩
  · rcases List.mem_cons.mp ho with rfl | ho
    · obtain ⟨o, h1, vs, rfl, h2, nd⟩ := W2.at_ _ List.mem_cons_self
      exact ⟨_, h1, _, rfl, h2.app (.one hx), nd⟩
    · exact W2.at_ o (List.mem_cons_of_mem _ ho)
  · rcases List.mem_cons.mp ho with rfl | ho
    · exact W2.off (oLast D q acc) List.mem_cons_self
    · exact W2.off o (List.mem_cons_of_mem _ ho)
theorem Wd.toN (W : Wd K B ctx (oL true D ([] : List (List Int)) :: L) H) : Wd K B ctx (oLN D [] :: L) H := by
  obtain ⟨N, F, W⟩ := W
  refine ⟨N, F, W.bF, W.nF, W.sep, W.fH, W.facts, fun o ho => ?_, fun o ho => ?_, W.nd⟩
  · rcases List.mem_cons.mp ho with rfl | ho
    · obtain ⟨o, h1, vs, rfl, h2⟩ := W.at_ _ List.mem_cons_self
      match vs, h2 with
      | [], _ => exact ⟨_, h1, [], rfl, trivial, List.nodup_nil⟩
    · exact W.at_ o (List.mem_cons_of_mem _ ho)
  · rcases List.mem_cons.mp ho with rfl | ho
    · exact W.off (oL true D ([] : List (List Int))) List.mem_cons_self
    · exact W.off o (List.mem_cons_of_mem _ ho)
/-- the last one, to be read -/
theorem w_last (W : Wd K B ctx (oLast D q acc :: oL true q x :: L) H) (k : Q (.ref q) H) : rIx K (.ref D) (.int (-1)) H Q := by
  obtain ⟨N, F, W⟩ := W
  obtain ⟨o, h1, vs, rfl, h2, nd⟩ := W.at_ _ List.mem_cons_self
  refine i_ixL (v := .ref q) (SqL.of h1) ?_ k
  unfold atI ixN
  simp
  rw [if_pos (by omega)]
  show (vs ++ [V.ref q])[(-1 + ((vs.length : Int) + 1)).toNat]? = _
  rw [show (-1 + ((vs.length : Int) + 1)).toNat = vs.length by omega]
  simp
/-- told, each its own -/
theorem Wd.resD (W : Wd K B ctx (oLN p xs :: L) H) : ResD K B xs (.ref p) H := by
  obtain ⟨N, F, W⟩ := W
  obtain ⟨o, h1, vs, rfl, h2, nd⟩ := W.at_ _ List.mem_cons_self
  have h1 : H p = some (.lst vs) := h1
  have hF : F p = none := W.off _ List.mem_cons_self
  have hN : N p = none := W.nF.free hF
  have sN : Same N (upd N p (.lst vs)) := fun b u e => by
    rw [upd_ne (ne_of_none e hN)]
    exact e
  refine ⟨upd N p (.lst vs), W.bF.trans W.fH, fun b u e => ?_, fun b u e => ?_, p, vs, rfl, upd_same, h2.mono fun _ _ r => Rp.mono (lkN_mono sN) r, nd⟩
  · by_cases h : b = p
    · rw [h, upd_same] at e
      rw [h, ← e]
      exact h1
    · rw [upd_ne h] at e
      exact W.fH _ _ (W.nF _ _ e)
  · by_cases h : b = p
    · rw [h]
      exact W.bF.free hF
    · rw [upd_ne h] at e
      exact W.sep b u e
theorem WdI.islD (W : WdI K B ctx L H N F) (r : ResD K H xs v H') : ∃ R p vs, WdI K B ctx L H' N F ∧ Isl L F H' R ∧ v = .ref p ∧ R p = some (.lst vs) ∧ All2 (Rp.rep (lkN R)) xs vs ∧ vs.Nodup := by
  obtain ⟨R, s, sR, hR, p, vs, ev, h1, h2, nd⟩ := r
  refine ⟨R, p, vs, ⟨W.bF, W.nF, W.sep, W.fH.trans s, W.facts, fun o ho => ?_, W.off, W.nd⟩, ⟨sR, fun a u e => ⟨W.fH.free (hR a u e), fun o ho e2 => ?_⟩⟩, ev, h1, h2, nd⟩
  · obtain ⟨u, e, q⟩ := W.at_ o ho
    exact ⟨u, s _ _ e, q⟩
  · obtain ⟨u2, e3, _⟩ := W.at_ o ho
    rw [e2, hR a u e] at e3
    cases e3
/-- facts of what is new alone -/
def Fact.Nn (f : Fact) : Prop := ∀ K N F F', f.P K N F → f.P K N F'
theorem fc_nn {α : Type} [Rp α] {x : α} {v : V} : (fc true x v).Nn := fun _ _ _ _ h => h
theorem fRL_nn {vs : List V} {v : V} : (fRL true vs v).Nn := fun _ _ _ _ h => h
def AllNn : List Fact → Prop
  | [] => True
  | f :: l => f.Nn ∧ AllNn l
theorem AllNn.all : ∀ {l : List Fact}, AllNn l → ∀ f ∈ l, f.Nn
  | _ :: _, h, f, hf => by
    rcases List.mem_cons.mp hf with rfl | hf
    · exact h.1
    · exact AllNn.all h.2 f hf
def offH (F R : Hp) : Hp := fun a => if R a = none then F a else none
theorem WdI.unground {N1 F1 H0 : Hp} {ctx0 : List Fact} {L0 : List Own} (W0 : WdI K B ctx0 L0 H0 N1 F1) (I : Isl L0 F1 H0 R) (W : WdI K (join B R) ctx L H N F) (m : Nat) (hm : ctx[m]? = some (fN N1 F1)) (fr : AllFr L)
    (hk : ∀ a, R a = none → H' a = H a) (is : List Nat) (h : selB is ctx = some ctx2) (nn : AllNn ctx2) : WdI K B (ctx2 ++ ctx0) L H' N (offH F R) := by
  obtain ⟨s1, s2⟩ := W.facts _ (List.mem_of_getElem? hm)
  have rF : ∀ a u, R a = some u → F a = some u := fun a u e => W.bF _ _ (Isl.inB W0 I _ _ e)
  have offR : ∀ a, F a = none → R a = none := fun a e => by
    cases q : R a with
    | none => rfl
    | some u =>
      rw [rF _ _ q] at e
      cases e
  have rN : ∀ a u, N a = some u → R a = none := fun a u e => by
    cases q : R a with
    | none => rfl
    | some w =>
      have := W.sep _ _ e
      rw [Isl.inB W0 I _ _ q] at this
      cases this
  have hF2 : ∀ a u, R a = none → F a = some u → offH F R a = some u := fun a u q e => by
    unfold offH
    rw [if_pos q]
    exact e
  have hF3 : ∀ a u, offH F R a = some u → R a = none ∧ F a = some u := fun a u e => by
    unfold offH at e
    split at e
    · exact ⟨by assumption, e⟩
    · cases e
  have hF4 : ∀ a, F a = none → offH F R a = none := fun a e => by
    unfold offH
    split
    · exact e
    · rfl
  have r1 : ∀ a u, F1 a = some u → R a = none := fun a u e => by
    cases q : R a with
    | none => rfl
    | some w =>
      rw [(I.off _ _ q).1] at e
      cases e
  refine ⟨fun b u e => ?_, fun b u e => hF2 _ _ (rN _ _ e) (W.nF _ _ e), fun b u e => ?_, fun b u e => ?_, fun f hf => ?_, fun o ho => ?_, fun o ho => hF4 _ (W.off o ho), W.nd⟩
  · exact hF2 _ _ (r1 _ _ (W0.bF _ _ e)) (W.bF _ _ (join_l _ _ e))
  · have := W.sep _ _ e
    cases q : B b with
    | none => rfl
    | some w =>
      rw [join_l _ _ q] at this
      cases this
  · obtain ⟨g1, g2⟩ := hF3 _ _ e
    rw [hk _ g1]
    exact W.fH _ _ g2
  · rcases List.mem_append.mp hf with hf | hf
    · obtain ⟨_, _, hq⟩ := selB_mem h f hf
      exact nn.all f hf _ _ _ _ (W.facts f (List.mem_of_getElem? hq))
    · exact f.mono s1 (fun a u e => hF2 _ _ (r1 _ _ e) (s2 _ _ e)) (W0.facts f hf)
  · obtain ⟨u, e, q⟩ := W.at_ o ho
    refine ⟨u, ?_, fr.all o ho _ _ _ _ _ q⟩
    rw [hk _ (offR _ (W.off o ho))]
    exact e
theorem WdI.regrow {N1 F1 H0 R' : Hp} {ctx0 : List Fact} {L0 : List Own} (W0 : WdI K B ctx0 L0 H0 N1 F1) (I : Isl L0 F1 H0 R) (W : WdI K (join B R) ctx L H N F) (s : Same R' H') (d : ∀ a u, R' a = some u → ∃ w, R a = some w) : Isl L (offH F R) H' R' := by
  refine ⟨s, fun a u e => ?_⟩
  obtain ⟨w, hw⟩ := d a u e
  refine ⟨?_, fun o ho ea => ?_⟩
  · unfold offH
    rw [if_neg (by rw [hw]; exact fun z => by cases z)]
  · have h1 := W.off o ho
    have h2 := W.bF _ _ (Isl.inB W0 I _ _ hw)
    rw [ea, h2] at h1
    cases h1
/-- a told list of lists as one's own, its items told -/
theorem WdI.addOL (W : WdI K B ctx L H N F) (I : Isl L F H R) (hl : R p = some (.lst vs)) (hr : All2 (Rp.rep (lkN R)) ys vs) : Wd K B ctx (oL true p ys :: L) H := by
  obtain ⟨g1, g2⟩ := I.off _ _ hl
  have J := W.addI (I.del (p := p))
  have rN : Same (PB.del R p) (join N (PB.del R p)) := join_r fun b q e => W.nF.free (I.off b q (Same.del b q e)).1
  have hr2 : All2 (Rp.rep (lkN (PB.del R p))) ys vs := by
    have key : ∀ (ys : List (List Int)) (ws : List V), (∀ w ∈ ws, w ∈ vs) → All2 (Rp.rep (lkN R)) ys ws → All2 (Rp.rep (lkN (PB.del R p))) ys ws := by
      intro ys
      induction ys with
      | nil => intro ws _ h; cases ws with
        | nil => trivial
        | cons w ws => exact h.elim
      | cons y ys ih =>
        intro ws hm h
        cases ws with
        | nil => exact h.elim
        | cons w ws =>
          refine ⟨?_, ih ws (fun z hz => hm z (List.mem_cons_of_mem _ hz)) h.2⟩
          obtain ⟨a, rfl, ha⟩ := rep_l h.1
          refine rep_mk ?_
          rw [del_ne (fun z => ?_)]
          · exact ha
          · rw [z, hl] at ha
            have e := congrArg (fun o => match o with | some (HO.lst l) => l | _ => []) ha
            have e : vs = y.map V.int := e
            have hin := hm _ List.mem_cons_self
            rw [e] at hin
            obtain ⟨i, _, hi⟩ := List.mem_map.mp hin
            cases hi
    exact key ys vs (fun _ h => h) hr
  have J2 := WdI.addOwn (o := oL true p ys) J (I.s _ _ hl) (by
    show join F (PB.del R p) p = none
    unfold join
    rw [g1]
    exact del_same) g2 ⟨vs, rfl, hr2.mono fun _ _ q => Rp.mono (lkN_mono rN) q⟩
  exact ⟨_, _, J2⟩
def growO (xs : List (List Int)) : Option (List (List Int)) := if (xs.all fun x => decide (x.length < sizeLine)) = true then some (xs.map fun x => x ++ [-1]) else none
/-- for x in xs: x.append(-1) -/
theorem w_grow {g : TG} {tb : TS} {nx bk ct : L2.St → Hp → Prop} {rt : VK} {σ : L2.St} (i : Nat) (x0 : Option V) (hl : R p = some (.lst vs)) (hr : All2 (Rp.rep (lkN R)) xs vs) (nd : vs.Nodup) (hH : Same R H) (hs : growO xs = some ys) (hσ : σ = σ.set i x0)
    (step : ∀ q ws x H' (Nx : L2.St → Hp → Prop), H' q = some (.lst ws) → ws.length < sizeLine → (∀ x', Nx (σ.set i x') (upd H' q (.lst (ws ++ [.int (-1)])))) →
      g (.ref q) (σ.set i x) H' fun σ2 H2 => tb ⟨Nx, rt, nx, Nx⟩ σ2 H2)
    (done : ∀ x H', (∀ a, R a = none → H' a = H a) → (∃ R', Same R' H' ∧ (∀ a u, R' a = some u → ∃ w, R a = some w) ∧ R' p = some (.lst vs) ∧ All2 (Rp.rep (lkN R')) ys vs) → nx (σ.set i x) H') : rFor (Itl K p) g tb ⟨nx, rt, bk, ct⟩ σ H := by
  unfold growO at hs
  split at hs
  case isFalse => cases hs
  case isTrue hs' =>
  cases hs
  have hall := List.all_eq_true.mp hs'
  have hlen := hr.len
  have item : ∀ n (hn : n < xs.length), ∃ q, vs[n]? = some (.ref q) ∧ R q = some (.lst (xs[n].map V.int)) ∧ q ≠ p := fun n hn => by
    obtain ⟨v, hv, r⟩ := hr.get (List.getElem?_eq_getElem hn)
    obtain ⟨q, rfl, hq⟩ := rep_l r
    refine ⟨q, hv, hq, fun z => ?_⟩
    rw [z, hl] at hq
    have e := congrArg (fun o => match o with | some (HO.lst l) => l | _ => []) hq
    have e : vs = xs[n].map V.int := e
    have hin := List.mem_of_getElem? hv
    rw [e] at hin
    obtain ⟨d, _, hd⟩ := List.mem_map.mp hin
    cases hd
  have uniq : ∀ {a b : Nat} {w : V}, vs[a]? = some w → vs[b]? = some w → a = b := fun h1 h2 => nd_ix nd h1 h2
  refine ⟨fun n m σ' H' => m = xs.length - n ∧ (∃ x, σ' = σ.set i x) ∧ (∀ a, R a = none → H' a = H a) ∧ H' p = some (.lst vs) ∧ ∀ k q, vs[k]? = some (.ref q) → ∀ (hk : k < xs.length), H' q = some (.lst ((if k < n then xs[k] ++ [-1] else xs[k]).map V.int)), ⟨_, rfl, ⟨x0, hσ⟩, fun _ _ => rfl, hH _ _ hl, fun k q hv hk => ?_⟩, ?_⟩
  · obtain ⟨q', h1, h2, _⟩ := item k hk
    rw [hv] at h1
    cases h1
    rw [if_neg (Nat.not_lt_zero k)]
    exact hH _ _ h2
  rintro n m σ' H' ⟨rfl, ⟨x, rfl⟩, k1, k2, k4⟩
  by_cases hn : n < xs.length
  · obtain ⟨q, hv, hq, hqp⟩ := item n hn
    have hw := k4 n q hv hn
    rw [if_neg (Nat.lt_irrefl n)] at hw
    have hb : xs[n].length < sizeLine := of_decide_eq_true (hall _ (List.getElem_mem hn))
    refine .inr ⟨⟨vs, _, SqL.of k2, hv⟩, fun σ2 H2 => (∃ x', σ2 = σ.set i x') ∧ H2 = upd H' q (.lst (xs[n].map V.int ++ [.int (-1)])), ?_, fun v' H2 yy => ?_⟩
    · rintro σ2 H2 ⟨hσ2, rfl⟩
      refine ⟨xs.length - (n + 1), by omega, rfl, hσ2, fun a ha => ?_, ?_, fun k q' hv' hk => ?_⟩
      · rw [upd_ne (fun z => by rw [z, hq] at ha; cases ha)]
        exact k1 a ha
      · rw [upd_ne (fun z => hqp z.symm)]
        exact k2
      · by_cases hkn : k = n
        · subst hkn
          rw [hv] at hv'
          cases hv'
          rw [upd_same, if_pos (Nat.lt_succ_self k), List.map_append]
          rfl
        · have hne : q' ≠ q := fun z => by
            rw [z] at hv'
            exact hkn (uniq hv' hv)
          rw [upd_ne hne, k4 k q' hv' hk]
          by_cases hlt : k < n
          · rw [if_pos hlt, if_pos (by omega)]
          · rw [if_neg hlt, if_neg (by omega)]
    · obtain ⟨rfl, yy⟩ := yy
      have := yy vs (SqL.of k2)
      rw [hv] at this
      cases this
      exact step q _ x H2 _ hw (by rw [List.length_map]; exact hb) fun x' => ⟨⟨x', rfl⟩, rfl⟩
  · refine .inl ⟨⟨vs, SqL.of k2, by rw [hlen]; omega⟩, done x H' k1 ⟨fun a => match R a with | some _ => H' a | none => none, fun a u e => ?_, fun a u e => ?_, ?_, ?_⟩⟩
    · dsimp only at e
      split at e
      · exact e
      · cases e
    · dsimp only at e
      split at e
      · exact ⟨_, by assumption⟩
      · cases e
    · show (match R p with | some _ => H' p | none => none) = _
      rw [hl]
      exact k2
    · have key : ∀ (k : Nat) (zs : List (List Int)) (ws : List V), xs.drop k = zs → vs.drop k = ws → All2 (Rp.rep (lkN fun a => match R a with | some _ => H' a | none => none)) (zs.map fun x => x ++ [-1]) ws := by
        intro k zs
        induction zs generalizing k with
        | nil =>
          intro ws e1 e2
          have : ws = [] := by
            rw [← e2]
            exact List.drop_eq_nil_of_le (by rw [hlen]; exact List.drop_eq_nil_iff.mp e1)
          rw [this]
          trivial
        | cons z zs ih =>
          intro ws e1 e2
          have hk : k < xs.length := by
            rcases Nat.lt_or_ge k xs.length with h | h
            · exact h
            · rw [List.drop_eq_nil_of_le h] at e1
              cases e1
          obtain ⟨q, hv, hq, _⟩ := item k hk
          have hk2 := (List.getElem?_eq_some_iff.mp hv).1
          rw [List.drop_eq_getElem_cons hk] at e1
          rw [List.drop_eq_getElem_cons hk2] at e2
          obtain ⟨e3, e4⟩ := List.cons.inj e1
          subst e2
          refine ⟨?_, ih (k + 1) _ e4 rfl⟩
          rw [(List.getElem?_eq_some_iff.mp hv).2]
          refine rep_mk ?_
          show (match R q with | some _ => H' q | none => none) = _
          rw [hq]
          have := k4 k q hv hk
          rw [if_pos (by omega), e3] at this
          exact this
      exact key 0 xs vs rfl rfl
end
/-! ### a comprehension of new lists -/
section
variable {K : PySem.W.Frag} {B : Hp} {α : Type} [Rp α] {H : Hp} {σ : L2.St} {g : TG} {tt : TT} {te : TE} {vn : List Nat} {Q : VK} {J : It} {t : Bool} {xs : List α}
theorem w_mapN {ctx : List Fact} {L : List Own} {f : α → Option (List Int)} {ys : List (List Int)} (hm : mapO f xs = some ys) (W : Wd K B ctx L H) (hJ : ∀ D, Gives K B (⟨fun _ _ => σ, fun _ _ => ctx, fun b _ => oLN D b :: L⟩ : Shp (List (List Int)) Unit) J t xs)
    (step : ∀ D x v acc H' y, acc.length < sizeLine → Wd K B (fc t x v :: ctx) (oLN D acc :: L) H' → f x = some y → g v (wipe σ vn) H' fun σ2 H2 => wipe σ2 vn = wipe σ vn ∧ tt σ2 H2 fun c H3 =>
      if c = true then te σ2 H3 (rElt D (fun H4 => Wd K B ctx (oLN D (acc ++ [y]) :: L) H4)) else Wd K B ctx (oLN D (acc ++ [y]) :: L) H3)
    (done : ∀ D H, Wd K B ctx (oLN D ys :: L) H → Q (.ref D) H) : rLc J g tt te vn σ H Q := fun D hD => by
  obtain ⟨hz, hm⟩ : xs.length ≤ sizeLine ∧ mapG f xs = some ys := by
    unfold mapO at hm
    by_cases h : xs.length ≤ sizeLine
    · rw [if_pos h] at hm; exact ⟨h, hm⟩
    · rw [if_neg h] at hm; cases hm
  obtain ⟨N, F0, W⟩ := W
  have W1 : Wd K B ctx (oLN D [] :: L) (upd H D (.lst [])) := Wd.toN (Wd.newL (t := true) (xs := ([] : List (List Int))) W hD trivial)
  refine ⟨fun i m H => m = xs.length - i ∧ ∃ acc ys', mapG f (xs.drop i) = some ys' ∧ acc ++ ys' = ys ∧ acc.length ≤ i ∧ Wd K B ctx (oLN D acc :: L) H, ⟨_, rfl, [], ys, hm, rfl, Nat.le_refl _, W1⟩, ?_⟩
  rintro i m H ⟨rfl, acc, ys', hm, hys, hacc, W⟩
  obtain ⟨h1, h2⟩ := hJ D i acc () H W
  by_cases hi : i < xs.length
  · have hx : xs[i]? = some xs[i] := List.getElem?_eq_getElem hi
    obtain ⟨h3, h4⟩ := h2 _ hx
    rw [List.drop_eq_getElem_cons hi, mapG] at hm
    obtain ⟨y, q, hm⟩ := bndE hm
    obtain ⟨r, q2, hm⟩ := bndE hm
    have hm := Option.some.inj hm
    refine .inr ⟨h3, fun H4 => Wd K B ctx (oLN D (acc ++ [y]) :: L) H4, ?_, fun v H' y' => step D _ v acc H' y (by omega) (h4 v H' y') q⟩
    rintro H'' W'
    refine ⟨xs.length - (i + 1), by omega, rfl, acc ++ [y], r, q2, ?_, ?_, W'⟩
    · rw [List.append_assoc]
      show acc ++ (y :: r) = ys
      rw [hm, hys]
    · rw [List.length_append, List.length_singleton]
      omega
  · rw [List.drop_eq_nil_of_le (by omega), mapG] at hm
    cases hm
    rw [List.append_nil] at hys
    subst hys
    exact .inl ⟨h1 (by omega), done D H W⟩
end
theorem w_clr {K : PySem.W.Frag} {B H : Hp} {ctx : List Fact} {L : List Own} {α : Type} [Rp α] {xs : List α} {a : Addr} {t : Bool} {Q : VK} (W : Wd K B ctx L H) (j : Nat) (hj : L[j]? = some (oL t a xs)) (k : ∀ H', Wd K B ctx (L.set j (oL t a ([] : List α))) H' → Q .non H') : rClear (.ref a) [] H Q := by
  obtain ⟨N, F, W⟩ := W
  obtain ⟨o, h1, vs, rfl, h2⟩ := W.at_ _ (List.mem_of_getElem? hj)
  exact ⟨a, vs, rfl, rfl, h1, k _ (Wd.put (o' := oL t a ([] : List α)) W j hj rfl _ ⟨_, rfl, trivial⟩)⟩
/-! ### found[-1].append(..): what is found, by all but the last and the last -/
abbrev DS := Option (List (List Int) × List Int)
def dueA : DS → Option DS
  | none => some (some ([], []))
  | some (i, l) => if i.length + 1 < sizeLine then some (some (i ++ [l], [])) else none
def dueN : DS → Int → Option DS
  | none, _ => none
  | some (i, l), n => if l.length < sizeLine then some (some (i, l ++ [n])) else none
def dueL : DS → List (List Int)
  | none => []
  | some (i, l) => i ++ [l]
def owD (p : Addr) : DS → Addr → List Own
  | none, _ => [oLN p []]
  | some (i, l), q => [oLast p q i, oL true q l]
section
variable {K : PySem.W.Frag} {B H H' N F R : Hp} {ctx : List Fact} {p q q' : Addr} {b b' : DS} {Q : VK} {n : Int}
theorem owD_l {L : List Own} (W : Wd K B ctx (L ++ owD p b q) H) : ∃ vs, H p = some (.lst vs) := by
  obtain ⟨N, F, W⟩ := W
  cases b with
  | none =>
    obtain ⟨o, h1, vs, rfl, _⟩ := W.at_ (oLN p []) (List.mem_append_right _ List.mem_cons_self)
    exact ⟨_, h1⟩
  | some z =>
    obtain ⟨o, h1, vs, rfl, _⟩ := W.at_ (oLast p q z.1) (List.mem_append_right _ List.mem_cons_self)
    exact ⟨_, h1⟩
theorem w_dueA (W : Wd K B ctx (oL true q' ([] : List Int) :: owD p b q) H) (e : dueA b = some b') (k : ∀ H', Wd K B ctx (owD p b' q') H' → Q .non H') : rAppend (.ref p) [.ref q'] H Q := by
  cases b with
  | none =>
    cases e
    exact w_pushA W (show (0 : Nat) < sizeLine by decide) k
  | some z =>
    obtain ⟨i, l⟩ := z
    unfold dueA at e
    dsimp only at e
    split at e
    case isFalse => cases e
    case isTrue hz =>
    cases e
    obtain ⟨N, F, W⟩ := W
    have W1 : Wd K B ctx (oLast p q i :: oL true q l :: [oL true q' ([] : List Int)]) H := ⟨N, F, W.perm ((List.Perm.swap (oLast p q i) (oL true q' ([] : List Int)) [oL true q l]).trans ((List.Perm.swap (oL true q l) (oL true q' ([] : List Int)) []).cons _))⟩
    obtain ⟨N, F, W2⟩ := W1.close
    have W3 : Wd K B ctx (oL true q' ([] : List Int) :: [oLN p (i ++ [l])]) H := ⟨N, F, W2.perm (List.Perm.swap _ _ _)⟩
    exact w_pushA W3 (by rw [List.length_append]; exact hz) k
theorem w_ixD (W : Wd K B ctx (owD p b q) H) (e : dueN b n = some b') (k : Q (.ref q) H) : rIx K (.ref p) (.int (-1)) H Q := by
  cases b with
  | none => cases e
  | some z => exact w_last W k
theorem w_lastl (W : Wd K B ctx (owD p b q) H) (e : dueN b n = some b') : ∃ ws, H q = some (.lst ws) := by
  cases b with
  | none => cases e
  | some z =>
    obtain ⟨N, F, W⟩ := W
    obtain ⟨o, h1, vs, rfl, _⟩ := W.at_ (oL true q z.2) (List.mem_cons_of_mem _ List.mem_cons_self)
    exact ⟨_, h1⟩
theorem w_appD (W : Wd K B ctx (owD p b q) H) (e : dueN b n = some b') (k : ∀ H', Wd K B ctx (owD p b' q) H' → Q .non H') : rAppend (.ref q) [.int n] H Q := by
  cases b with
  | none => cases e
  | some z =>
    obtain ⟨i, l⟩ := z
    unfold dueN at e
    dsimp only at e
    split at e
    case isFalse => cases e
    case isTrue hz =>
    cases e
    exact w_app W 1 rfl (Kn.int (t := true)) (zs := l ++ [n]) (if_pos hz) fun H' W' => k H' W'
theorem Wd.dueRes (W : Wd K B ctx (owD p b q) H) : Res K B (dueL b) (.ref p) H := by
  cases b with
  | none => exact (Wd.resD W).res
  | some z => exact (Wd.resD (Wd.close W)).res
end
end PB

namespace PB
open PySem PySem.Spec PyProof.Rows L2
/-! ### what a mirror gives -/
def OkP {α : Type} (e : Option α) (P : α → Prop) : Prop := ∃ x, e = some x ∧ P x
section
variable {α β γ ρ : Type} {e : Option α} {P R : α → Prop} {f : α → Option β} {Q : β → Prop} {x : α} {b : Bool}
theorem Ok.some (h : P x) : OkP (Option.some x) P := ⟨x, rfl, h⟩
theorem Ok.of (e1 : e = Option.some x) (h : P x) : OkP e P := ⟨x, e1, h⟩
theorem Ok.eq (h : OkP e fun y => y = x) : e = Option.some x := by
  obtain ⟨y, h1, rfl⟩ := h
  exact h1
theorem Ok.mono (h : OkP e P) (k : ∀ x, P x → R x) : OkP e R := let ⟨x, e, p⟩ := h; ⟨x, e, k x p⟩
theorem Ok.bind (h : OkP e P) (k : ∀ x, P x → OkP (f x) Q) : OkP (e.bind f) Q := by
  obtain ⟨x, rfl, p⟩ := h
  exact k x p
theorem Ok.bindE (h : e = Option.some x) (k : OkP (f x) Q) : OkP (e.bind f) Q := by
  rw [h]
  exact k
theorem Ok.ite {A C : Option α} (h1 : b = true → OkP A P) (h2 : b = false → OkP C P) : OkP (if b = true then A else C) P := by
  cases b with
  | true => exact h1 rfl
  | false => exact h2 rfl
theorem Ok.iteT {A C : Option α} (h : b = true) (h1 : OkP A P) : OkP (if b = true then A else C) P := by
  rw [if_pos h]
  exact h1
theorem Ok.iteF {A C : Option α} (h : b = false) (h1 : OkP C P) : OkP (if b = true then A else C) P := by
  rw [if_neg (by rw [h]; exact Bool.false_ne_true)]
  exact h1
/-- loops -/
theorem Ok.forI {f : α → β → Option (Ctl ρ β)} {xs : List α} {b0 : β} (I : Nat → β → Prop) (h0 : I 0 b0) (hs : ∀ i x b, xs[i]? = Option.some x → I i b → OkP (f x b) fun o => ∃ b', o = .go b' ∧ I (i + 1) b') :
    OkP (forO f xs b0) fun o => ∃ b, o = .go b ∧ I xs.length b := by
  induction xs generalizing b0 I with
  | nil => exact ⟨_, rfl, b0, rfl, h0⟩
  | cons x xs ih =>
    obtain ⟨o, e, b', rfl, h1⟩ := hs 0 x b0 rfl h0
    rw [forO, e]
    exact ih (fun i => I (i + 1)) h1 fun i y b hy hb => hs (i + 1) y b (by simpa using hy) hb
theorem Ok.forA {f : α → β → Option (Ctl ρ β)} {xs : List α} {b0 : β} (I : β → Prop) (h0 : I b0) (hs : ∀ x ∈ xs, ∀ b, I b → OkP (f x b) fun o => ∃ b', o = .go b' ∧ I b') : OkP (forO f xs b0) fun o => ∃ b, o = .go b ∧ I b :=
  Ok.forI (fun _ => I) h0 fun i x b hx hb => hs x (List.mem_of_getElem? hx) b hb
/-- a loop that only looks -/
theorem Ok.forU {f : α → Unit → Option (Ctl ρ Unit)} {xs : List α} (hs : ∀ x ∈ xs, OkP (f x ()) fun o => o = .go ()) : OkP (forO f xs ()) fun o => o = .go () :=
  Ok.mono
    (Ok.forA (fun _ => True) trivial fun x hx b _ => Ok.mono (hs x hx) fun o e => ⟨(), e, trivial⟩) fun o ⟨b, e, _⟩ => e
theorem Ok.foldI {f : α → β → Option β} {xs : List α} {b0 : β} (I : Nat → β → Prop) (h0 : I 0 b0) (hs : ∀ i x b, xs[i]? = Option.some x → I i b → OkP (f x b) (I (i + 1))) : OkP (foldO f xs b0) (I xs.length) := by
  induction xs generalizing b0 I with
  | nil => exact ⟨b0, rfl, h0⟩
  | cons x xs ih =>
    obtain ⟨b', e, h1⟩ := hs 0 x b0 rfl h0
    rw [foldO, e]
    exact ih (fun i => I (i + 1)) h1 fun i y b hy hb => hs (i + 1) y b (by simpa using hy) hb
theorem Ok.foldA {f : α → β → Option β} {xs : List α} {b0 : β} (I : β → Prop) (h0 : I b0) (hs : ∀ x ∈ xs, ∀ b, I b → OkP (f x b) I) : OkP (foldO f xs b0) I :=
  Ok.foldI (fun _ => I) h0 fun i x b hx hb => hs x (List.mem_of_getElem? hx) b hb
theorem Ok.whileI {f : β → Option (Ctl ρ β)} {b0 : β} {n : Nat} (I E : β → Prop) (μ : β → Nat) (h0 : I b0) (hn : μ b0 < n) (hs : ∀ b, I b → OkP (f b) fun o => (∃ b', o = .go b' ∧ I b' ∧ μ b' < μ b) ∨ ∃ b', o = .brk b' ∧ E b') :
    OkP (whileO f n b0) fun o => ∃ b, o = .go b ∧ E b := by
  induction n generalizing b0 with
  | zero => omega
  | succ n ih =>
    obtain ⟨o, e, h⟩ := hs b0 h0
    rw [whileO, e]
    rcases h with ⟨b', rfl, h1, h2⟩ | ⟨b', rfl, h1⟩
    · exact ih h1 (by omega)
    · exact ⟨_, rfl, b', rfl, h1⟩
theorem mapG_eq {f : α → Option γ} {g : α → γ} : ∀ {xs : List α}, (∀ x ∈ xs, f x = Option.some (g x)) → mapG f xs = Option.some (xs.map g)
  | [], _ => rfl
  | x :: xs, h => by
    rw [mapG, h x List.mem_cons_self, mapG_eq fun y hy => h y (List.mem_cons_of_mem _ hy)]
    rfl
theorem mapO_eq {f : α → Option γ} {g : α → γ} {xs : List α} (hz : xs.length ≤ sizeLine) (h : ∀ x ∈ xs, f x = Option.some (g x)) : mapO f xs = Option.some (xs.map g) := by
  rw [mapO, if_pos hz, mapG_eq h]
theorem cmpG_eq {f : α → Option (Option γ)} {g : α → γ} {p : α → Bool} : ∀ {xs : List α}, (∀ x ∈ xs, f x = Option.some (if p x = true then Option.some (g x) else none)) → cmpG f xs = Option.some ((xs.filter p).map g)
  | [], _ => rfl
  | x :: xs, h => by
    rw [cmpG, h x List.mem_cons_self, cmpG_eq fun y hy => h y (List.mem_cons_of_mem _ hy)]
    cases hp : p x
    · rw [List.filter_cons_of_neg (by rw [hp]; exact Bool.false_ne_true)]; rfl
    · rw [List.filter_cons_of_pos hp]; rfl
theorem cmpO_eq {f : α → Option (Option γ)} {g : α → γ} {p : α → Bool} {xs : List α} (hz : xs.length ≤ sizeLine) (h : ∀ x ∈ xs, f x = Option.some (if p x = true then Option.some (g x) else none)) : cmpO f xs = Option.some ((xs.filter p).map g) := by
  rw [cmpO, if_pos hz, cmpG_eq h]
theorem cmpG_none {f : α → Option (Option γ)} : ∀ {xs : List α}, (∀ x ∈ xs, f x = Option.some none) → cmpG f xs = Option.some []
  | [], _ => rfl
  | x :: xs, h => by
    rw [cmpG, h x List.mem_cons_self, cmpG_none fun y hy => h y (List.mem_cons_of_mem _ hy)]
    rfl
theorem cmpO_none {f : α → Option (Option γ)} {xs : List α} (hz : xs.length ≤ 16777216) (h : ∀ x ∈ xs, OkP (f x) fun o => o = none) : cmpO f xs = Option.some [] := by
  rw [cmpO, if_pos (show xs.length ≤ sizeLine from hz), cmpG_none fun x hx => Ok.eq (h x hx)]
theorem Ok.mapS {f : α → β → Option (γ × β)} {xs : List α} {b0 : β} (P : γ → Prop) (I : β → Prop) (hz : xs.length ≤ sizeLine) (h0 : I b0) (hs : ∀ x ∈ xs, ∀ b, I b → OkP (f x b) fun p => P p.1 ∧ I p.2) :
    OkP (mapSO f xs b0) fun r => r.1.length = xs.length ∧ (∀ y ∈ r.1, P y) ∧ I r.2 := by
  rw [mapSO, if_pos hz]
  clear hz
  induction xs generalizing b0 with
  | nil => exact ⟨_, rfl, rfl, (fun _ h => nomatch h), h0⟩
  | cons x xs ih =>
    obtain ⟨p, e, h1, h2⟩ := hs x List.mem_cons_self b0 h0
    obtain ⟨q, e2, h3, h4, h5⟩ := ih h2 fun y hy => hs y (List.mem_cons_of_mem _ hy)
    refine ⟨(p.1 :: q.1, q.2), ?_, ?_, ?_, h5⟩
    · rw [mapSG, e]
      show (mapSG f xs p.2).bind _ = _
      rw [e2]
      rfl
    · show q.1.length + 1 = xs.length + 1
      rw [h3]
    · intro y hy
      rcases List.mem_cons.mp hy with rfl | hy
      · exact h1
      · exact h4 y hy
end
theorem forO_go {α β ρ : Type} {f : α → β → Option (Ctl ρ β)} {x : α} {xs : List α} {b b' : β} (h : f x b = some (.go b')) : forO f (x :: xs) b = forO f xs b' := by rw [forO, h]
theorem forO_S {α β ρ : Type} {f : α → β → Option (Ctl ρ β)} {xs : List α} {b0 : β} (S : Nat → Option β) (r : ρ) (h0 : S 0 = some b0)
    (hs : ∀ i x b, xs[i]? = some x → S i = some b → f x b = some (match S (i + 1) with
      | some b' => .go b'
      | none => .ret r))
    (hm : ∀ i, i ≤ xs.length → S i = none → S xs.length = none) : forO f xs b0 = some (match S xs.length with
      | some b => .go b
      | none => .ret r) := by
  induction xs generalizing b0 S with
  | nil =>
    show some (Ctl.go b0) = _
    rw [show S ([] : List α).length = some b0 from h0]
  | cons x xs ih =>
    have h1 := hs 0 x b0 rfl h0
    rw [forO, h1]
    cases e : S (0 + 1) with
    | none =>
      rw [hm 1 (by simp) e]
    | some b' =>
      exact ih (fun i => S (i + 1)) e (fun i y b hy hb => hs (i + 1) y b (by simpa using hy) hb) (fun i hi h => hm (i + 1) (by simpa using hi) h)
/-! ### single words -/
section
variable {α : Type} {xs ys : List α} {i j : Int} {x : α}
theorem mulO_s (hi : i.natAbs < 2 ^ 250) (hj : j.natAbs < 2 ^ 250) : mulO i j = some (i * j) := if_pos (wide_mul hi hj (by decide) (by decide) (by decide))
theorem fdivO_s (h0 : 0 < j) (hj : j.natAbs < 2 ^ 250) : fdivO i j = some (i / j) := if_pos (wide_div (i := i) h0 hj (by decide) (by decide) : 0 < j ∧ j.natAbs.log2 < 9000)
theorem modO_s (h0 : 0 < j) : modO i j = some (i % j) := if_pos h0
theorem atI_of (h0 : 0 ≤ i) (h1 : i < xs.length) : ∃ x, atI xs i = some x ∧ xs[i.toNat]? = some x := by
  have hl : i.toNat < xs.length := by omega
  refine ⟨xs[i.toNat], ?_, List.getElem?_eq_getElem hl⟩
  have := atI_nat (xs := xs) (j := i.toNat) (List.getElem?_eq_getElem hl)
  rwa [Int.toNat_of_nonneg h0] at this
theorem atI_get {n : Nat} (h : xs[n]? = some x) (e : i = n) : atI xs i = some x := by rw [e]; exact atI_nat h
theorem atI_neg1 {n : Nat} (h : xs[n]? = some x) (hl : xs.length = n + 1) : atI xs (-1) = some x := by
  unfold atI ixN
  rw [if_neg (by decide), if_pos (by omega)]
  show xs[(-1 + (xs.length : Int)).toNat]? = _
  rw [show (-1 + (xs.length : Int)).toNat = n by omega]
  exact h
theorem atI_bnd {ns : List Int} {lo hi : Int} (h : ∀ n ∈ ns, lo ≤ n ∧ n ≤ hi) (h0 : 0 ≤ i) (h1 : i < ns.length) : OkP (atI ns i) fun x => lo ≤ x ∧ x ≤ hi := by
  obtain ⟨x, e, e2⟩ := atI_of h0 h1
  exact ⟨x, e, h x (List.mem_of_getElem? e2)⟩
theorem atI_mem (h0 : 0 ≤ i) (h1 : i < xs.length) : OkP (atI xs i) fun x => x ∈ xs := by
  obtain ⟨x, e, e2⟩ := atI_of h0 h1
  exact ⟨x, e, List.mem_of_getElem? e2⟩
theorem catO_s (h : xs.length + ys.length ≤ 16777216) : catO xs ys = some (xs ++ ys) := if_pos h
theorem appO_s (h : xs.length < 16777216) : appO xs x = some (xs ++ [x]) := if_pos h
theorem repO_1 (h0 : 0 ≤ i) (h1 : i ≤ 16777216) : repO [x] i = some (List.replicate i.toNat x) := by
  rw [repO, if_pos ⟨by omega, by omega, by show 1 * i.toNat ≤ 16777216; omega⟩, rep_one]
theorem setO_s {xs : List Int} {x : Int} (h0 : 0 ≤ i) (h1 : i < xs.length) : setO xs i x = some (xs.set i.toNat x) := by
  rw [setO, ixN_int h0 h1]
  rfl
theorem setO_g (h0 : 0 ≤ i) (h1 : i < xs.length) : setO xs i x = some (xs.set i.toNat x) := by
  rw [setO, ixN_int h0 h1]
  rfl
theorem range1_s (h0 : -4611686018427387904 ≤ j) (h1 : j < 4611686018427387904) : range1 j = some (rangeF 0 j.toNat) := if_pos ⟨by omega, by omega⟩
theorem range2_s (h0 : -4611686018427387904 ≤ i) (h1 : i < 4611686018427387904) (h2 : -4611686018427387904 ≤ j) (h3 : j < 4611686018427387904) : range2 i j = some (rangeF i (j - i).toNat) := if_pos ⟨⟨by omega, by omega⟩, by omega, by omega⟩
theorem rangeD_s (h0 : -4611686018427387904 ≤ i) (h1 : i < 4611686018427387904) (h2 : -4611686018427387904 ≤ j) (h3 : j < 4611686018427387904) : rangeD i j = some (rangeB i (i - j).toNat) := if_pos ⟨⟨by omega, by omega⟩, by omega, by omega⟩
theorem rangeL_s (h0 : -1000000 ≤ i) (h1 : i < 1000000) (h2 : -1000000 ≤ j) (h3 : j < 1000000) : rangeL i j = some (rangeF i (j - i).toNat) := if_pos ⟨⟨by omega, by omega⟩, ⟨by omega, by omega⟩, by omega⟩
theorem maxO_s {ns : List Int} (h : ns ≠ []) : maxO ns = some (mxI ns) := if_pos h
theorem minO_s {ns : List Int} (h : ns ≠ []) : minO ns = some (mnI ns) := if_pos h
theorem mem_rangeF {n : Nat} {lo x : Int} (h : x ∈ rangeF lo n) : lo ≤ x ∧ x < lo + n := by
  obtain ⟨i, hi⟩ := List.mem_iff_getElem?.mp h
  obtain ⟨h1, h2⟩ := rangeF_get _ _ _ _ hi
  omega
theorem rangeF_at {n i : Nat} {lo : Int} (h : i < n) : (rangeF lo n)[i]? = some (lo + i) := by
  have hl : i < (rangeF lo n).length := by rw [rangeF_len]; exact h
  rw [List.getElem?_eq_getElem hl, (rangeF_get _ _ _ _ (List.getElem?_eq_getElem hl)).2]
theorem sliceI_mid {xs : List Int} (h0 : 0 ≤ i) (h1 : i ≤ j) (h2 : j ≤ xs.length) : sliceI xs (some i) (some j) = (xs.drop i.toNat).take (j.toNat - i.toNat) := cutI_mid xs h0 h1 h2
theorem sliceI_from {xs : List Int} (h0 : 0 ≤ i) : sliceI xs (some i) none = xs.drop i.toNat := cutI_from xs h0
theorem sliceI_to {xs : List Int} (h0 : 0 ≤ i) : sliceI xs none (some i) = xs.take i.toNat := cutI_to xs h0
theorem sliceI_sub {lo hi : Option Int} : (sliceI xs lo hi).Sublist xs := (List.take_sublist _ _).trans (List.drop_sublist _ _)
end
theorem pick_ok {α : Type} (d : Bool) (e : α) : ((some d).bind fun r => if r = true then some (some e) else some none) = some (if d = true then some e else none) := by cases d <;> rfl
/-! ### texts, likeness of ints, lists of them -/
theorem reprO_ints {ns : List Int} (h : ∀ n ∈ ns, n.natAbs < 2 ^ 64) (hl : ns.length ≤ 3000) : reprO ns = some (txt ns) :=
  if_pos ⟨dI_showable h, dI_nodict ns, by show (dI ns).depth ≤ 60; rw [dI_depth]; decide, dI_shown h hl⟩
theorem eqO_ints (xs ys : List Int) : eqO xs ys = some (decide (xs = ys)) := by
  unfold eqO
  rw [if_pos ⟨shaped_ints xs, shaped_ints ys⟩]
  exact congrArg some (dI_eqv xs ys)
theorem isi_int (n : Int) : isiO n "int" = true := rfl
theorem isi_ib (n : Int) : isiO n "bool" = false := rfl
end PB

namespace PB
open PySem PySem.Spec PyProof.Rows L2
/-! ### rows as functions of the place; sums ahead of a place -/
abbrev rowF (ns : List Int) : Nat → Int := fun i => ns[i]!
def pre (a : Nat → Int) : Nat → Int
  | 0 => 0
  | i + 1 => pre a i + a i
theorem rowF_get {ns : List Int} {i : Nat} {n : Int} (h : ns[i]? = some n) : rowF ns i = n := getE_of h
theorem rowF_cons (x : Int) (ns : List Int) (i : Nat) : rowF (x :: ns) (i + 1) = rowF ns i := by
  show (x :: ns)[i + 1]! = ns[i]!
  rw [List.getElem!_eq_getElem?_getD, List.getElem!_eq_getElem?_getD, List.getElem?_cons_succ]
theorem pre_cons (x : Int) (ns : List Int) : ∀ i : Nat, pre (rowF (x :: ns)) (i + 1) = x + pre (rowF ns) i
  | 0 => by
    show 0 + (x :: ns)[0]! = x + 0
    rw [List.getElem!_eq_getElem?_getD]
    show 0 + x = x + 0
    omega
  | i + 1 => by
    rw [pre, pre_cons x ns i, rowF_cons, pre]
    omega
theorem pre_sum : ∀ (ns : List Int) (i : Nat), i ≤ ns.length → (ns.take i).sum = pre (rowF ns) i
  | _, 0, _ => by rw [List.take_zero]; rfl
  | [], i + 1, h => absurd h (Nat.not_succ_le_zero _)
  | x :: ns, i + 1, h => by
    rw [List.take_succ_cons, List.sum_cons, pre_sum ns i (by simpa using h), pre_cons]
theorem sum_all (ns : List Int) : ns.sum = pre (rowF ns) ns.length := by
  rw [← pre_sum ns ns.length (Nat.le_refl _), List.take_length]
theorem sum_part {ns : List Int} {i j : Nat} (h : i ≤ j) (hj : j ≤ ns.length) : ((ns.drop i).take (j - i)).sum = pre (rowF ns) j - pre (rowF ns) i := by
  have e : ns.take j = ns.take i ++ (ns.drop i).take (j - i) := by
    rw [← List.drop_take]
    have e2 := List.take_append_drop i (ns.take j)
    rw [List.take_take, Nat.min_eq_left h] at e2
    exact e2.symm
  have e3 := congrArg List.sum e
  rw [List.sum_append, pre_sum ns j hj, pre_sum ns i (by omega)] at e3
  omega
theorem pre_mono {a : Nat → Int} {n : Nat} (h : ∀ i, i < n → 0 ≤ a i) : ∀ {i j : Nat}, i ≤ j → j ≤ n → pre a i ≤ pre a j := by
  intro i j hij
  induction hij with
  | refl => intro _; exact Int.le_refl _
  | @step m hm ih =>
    intro hj
    have := ih (by omega)
    have := h m (by omega)
    show pre a i ≤ pre a m + a m
    omega
theorem rowF_mem {ns : List Int} {i : Nat} (h : i < ns.length) : rowF ns i ∈ ns := by
  show ns[i]! ∈ ns
  rw [List.getElem!_eq_getElem?_getD, List.getElem?_eq_getElem h]
  exact List.getElem_mem _
theorem rowF_nonneg {ns : List Int} (h : ∀ n ∈ ns, 0 ≤ n) : ∀ i, i < ns.length → 0 ≤ rowF ns i := fun i hi => h _ (rowF_mem hi)

/-! ### the cut whose pieces are each as long as a bound lets -/
/-- behind i numbers: the places so far, the sum of the piece at hand -/
def gS (a : Nat → Int) (b : Int) : Nat → Option (List Int × Int)
  | 0 => some ([], 0)
  | i + 1 => match gS a b i with
    | none => none
    | some (c, t) => if a i > b then none else if t + a i > b then some (c ++ [(i : Int)], a i) else some (c, t + a i)
def lcut (ns : List Int) (b : Int) : Option (List Int) := (gS (rowF ns) b ns.length).map (·.1)
def few (ns : List Int) (b : Int) : Option Int := (lcut ns b).map fun c => (c.length : Int) + 1
theorem gS_none {a : Nat → Int} {b : Int} {i j : Nat} (h : gS a b i = none) (hij : i ≤ j) : gS a b j = none := by
  induction hij with
  | refl => exact h
  | @step m hm ih => rw [gS, ih]
theorem gS_small {a : Nat → Int} {b : Int} : ∀ {i : Nat} {c : List Int} {t : Int}, gS a b i = some (c, t) → ∀ j, j < i → a j ≤ b
  | 0, _, _, _, _, hj => absurd hj (Nat.not_lt_zero _)
  | i + 1, c, t, h, j, hj => by
    rw [gS] at h
    cases e : gS a b i with
    | none =>
      rw [e] at h
      cases h
    | some p =>
      obtain ⟨c0, t0⟩ := p
      rw [e] at h
      dsimp only at h
      by_cases h1 : a i > b
      · rw [if_pos h1] at h
        cases h
      · rcases Nat.lt_succ_iff_lt_or_eq.mp hj with hj | hj
        · exact gS_small e j hj
        · rw [hj]
          omega
theorem gS_len {a : Nat → Int} {b : Int} : ∀ {i : Nat} {c : List Int} {t : Int}, gS a b i = some (c, t) → c.length ≤ i
  | 0, c, t, h => by
    rw [gS] at h
    cases h
    exact Nat.le_refl _
  | i + 1, c, t, h => by
    rw [gS] at h
    cases e : gS a b i with
    | none =>
      rw [e] at h
      cases h
    | some p =>
      obtain ⟨c0, t0⟩ := p
      rw [e] at h
      have ih := gS_len e
      dsimp only at h
      split at h
      · cases h
      · split at h
        · cases h
          rw [List.length_append, List.length_singleton]
          omega
        · cases h
          omega
/-- how many pieces so far -/
def cntS (a : Nat → Int) (b : Int) (e : Nat) : Int := match gS a b e with
  | none => 0
  | some (c, _) => if e = 0 then 0 else (c.length : Int) + 1
theorem cntS_zero (a : Nat → Int) (b : Int) : cntS a b 0 = 0 := rfl
theorem cntS_some {a : Nat → Int} {b : Int} {e : Nat} {c : List Int} {t : Int} (h : gS a b e = some (c, t)) (he : e ≠ 0) : cntS a b e = (c.length : Int) + 1 := by
  unfold cntS
  rw [h]
  exact if_neg he
theorem gS_opt {a : Nat → Int} {b : Int} {n : Nat} (hn : ∀ i, i < n → 0 ≤ a i) : ∀ (e : Nat) (c : List Int) (t : Int), e ≤ n → gS a b e = some (c, t) →
    (e ≠ 0 → t ≤ b ∧ ∃ j, j < e ∧ pre a e - pre a j = t ∧ cntS a b e = cntS a b j + 1) ∧
    (e = 0 → t = 0) ∧
    (∀ j, j ≤ e → pre a e - pre a j < t → cntS a b e ≤ cntS a b j) ∧
    (∀ j, j < e → pre a e - pre a j ≤ b → cntS a b e ≤ cntS a b j + 1) := by
  intro e
  induction e with
  | zero =>
    intro c t _ h
    rw [gS] at h
    cases h
    refine ⟨fun h => absurd rfl h, fun _ => rfl, fun j hj hlt => ?_, fun j hj => absurd hj (Nat.not_lt_zero _)⟩
    have e : j = 0 := by omega
    subst e
    omega
  | succ e ih =>
    intro c t he h
    have h0 := h
    rw [gS] at h
    cases eg : gS a b e with
    | none =>
      rw [eg] at h
      cases h
    | some p =>
      obtain ⟨c0, t0⟩ := p
      rw [eg] at h
      dsimp only at h
      obtain ⟨ihA, ih0, ihB, ihC⟩ := ih c0 t0 (by omega) eg
      have hae := hn e (by omega)
      have hp : pre a (e + 1) = pre a e + a e := rfl
      by_cases h1 : a e > b
      · rw [if_pos h1] at h
        cases h
      · rw [if_neg h1] at h
        by_cases h2 : t0 + a e > b
        · rw [if_pos h2] at h
          cases h
          have e0 : e ≠ 0 := fun z => by
            have := ih0 z
            omega
          have hc : cntS a b (e + 1) = cntS a b e + 1 := by
            rw [cntS_some h0 (by omega), cntS_some eg e0, List.length_append, List.length_singleton]
            omega
          refine ⟨fun _ => ⟨by omega, e, by omega, by omega, hc⟩, fun z => by omega, fun j hj hlt => ?_, fun j hj hle => ?_⟩
          · by_cases hj2 : j = e + 1
            · rw [hj2]
              exact Int.le_refl _
            · have := pre_mono hn (show j ≤ e by omega) (by omega)
              omega
          · by_cases hj2 : j = e
            · rw [hj2]
              omega
            · have := ihB j (by omega) (by omega)
              omega
        · rw [if_neg h2] at h
          cases h
          by_cases e0 : e = 0
          · subst e0
            have := ih0 rfl
            subst this
            have hc : cntS a b 1 = 1 := by
              rw [cntS_some h0 (by omega)]
              rw [gS] at eg
              cases eg
              rfl
            refine ⟨fun _ => ⟨by omega, 0, by omega, by omega, by rw [hc, cntS_zero]; rfl⟩, fun z => by omega, fun j hj hlt => ?_, fun j hj hle => ?_⟩
            · by_cases hj2 : j = 1
              · rw [hj2]
                exact Int.le_refl _
              · have e : j = 0 := by omega
                subst e
                omega
            · have e : j = 0 := by omega
              subst e
              rw [hc, cntS_zero]
              decide
          · have hc : cntS a b (e + 1) = cntS a b e := by
              rw [cntS_some h0 (by omega), cntS_some eg e0]
            obtain ⟨hb, j0, hj0, hj1, hj2⟩ := ihA e0
            refine ⟨fun _ => ⟨by omega, j0, by omega, by omega, by omega⟩, fun z => by omega, fun j hj hlt => ?_, fun j hj hle => ?_⟩
            · by_cases hj2 : j = e + 1
              · rw [hj2]
                exact Int.le_refl _
              · have := ihB j (by omega) (by omega)
                omega
            · by_cases hj2 : j = e
              · rw [hj2]
                omega
              · have := ihC j (by omega) (by omega)
                omega
/-- the fewest pieces of the first e numbers, None where there are none such -/
def fewS (a : Nat → Int) (b : Int) (e : Nat) : Option Int := if e = 0 then some 0 else (gS a b e).map fun p => (p.1.length : Int) + 1
theorem fewS_cnt {a : Nat → Int} {b : Int} {e : Nat} {m : Int} (h : fewS a b e = some m) : m = cntS a b e ∧ ∃ p, gS a b e = some p := by
  unfold fewS at h
  by_cases e0 : e = 0
  · subst e0
    rw [if_pos rfl] at h
    cases h
    exact ⟨rfl, _, rfl⟩
  · rw [if_neg e0] at h
    cases eg : gS a b e with
    | none =>
      rw [eg] at h
      cases h
    | some p =>
      rw [eg] at h
      cases h
      obtain ⟨c, t⟩ := p
      exact ⟨(cntS_some eg e0).symm, _, rfl⟩
theorem fewS_of {a : Nat → Int} {b : Int} {e : Nat} {p : List Int × Int} (h : gS a b e = some p) : fewS a b e = some (cntS a b e) := by
  unfold fewS
  by_cases e0 : e = 0
  · subst e0
    rw [if_pos rfl, cntS_zero]
  · obtain ⟨c, t⟩ := p
    rw [if_neg e0, cntS_some h e0, h]
    rfl
/-- THE LAW of it: what a table over all ends asks -/
theorem fewS_next {a : Nat → Int} {b : Int} {n e : Nat} (hn : ∀ i, i < n → 0 ≤ a i) (he : e + 1 ≤ n) :
    (∀ m, fewS a b (e + 1) = some m → (∃ j k, j < e + 1 ∧ pre a (e + 1) - pre a j ≤ b ∧ fewS a b j = some k ∧ m = k + 1) ∧ ∀ j k, j < e + 1 → pre a (e + 1) - pre a j ≤ b → fewS a b j = some k → m ≤ k + 1) ∧
    (fewS a b (e + 1) = none → ∀ j k, j < e + 1 → pre a (e + 1) - pre a j ≤ b → fewS a b j = some k → False) := by
  constructor
  · intro m hm
    obtain ⟨rfl, ⟨c, t⟩, hg⟩ := fewS_cnt hm
    obtain ⟨hA, _, _, hC⟩ := gS_opt hn (e + 1) c t he hg
    refine ⟨?_, fun j k hj hle hk => ?_⟩
    · obtain ⟨hb, j, hj, hj1, hj2⟩ := hA (by omega)
      have hs : ∃ p, gS a b j = some p := by
        cases q : gS a b j with
        | none =>
          rw [gS_none q (show j ≤ e + 1 by omega)] at hg
          cases hg
        | some p => exact ⟨p, rfl⟩
      obtain ⟨p, hp⟩ := hs
      exact ⟨j, _, hj, by omega, fewS_of hp, hj2⟩
    · obtain ⟨rfl, _⟩ := fewS_cnt hk
      exact hC j hj hle
  · intro hnone j k hj hle hk
    obtain ⟨_, ⟨c, t⟩, hg⟩ := fewS_cnt hk
    have hne : gS a b (e + 1) = none := by
      unfold fewS at hnone
      rw [if_neg (by omega)] at hnone
      cases q : gS a b (e + 1) with
      | none => rfl
      | some p =>
        rw [q] at hnone
        cases hnone
    -- a number above the bound stands at j or behind it
    have key : ∀ m, j ≤ m → m ≤ e + 1 → (∀ i, j ≤ i → i < m → a i ≤ b) → ∃ p, gS a b m = some p := by
      intro m hjm
      induction hjm with
      | refl => exact fun _ _ => ⟨_, hg⟩
      | @step m hm ih =>
        intro hme hall
        obtain ⟨⟨c1, t1⟩, h1⟩ := ih (by omega) (fun i h2 h3 => hall i h2 (by omega))
        rw [gS, h1]
        dsimp only
        rw [if_neg (by have := hall m hm (by omega); omega)]
        split <;> exact ⟨_, rfl⟩
    have small : ∀ i, j ≤ i → i < e + 1 → a i ≤ b := fun i h2 h3 => by
      have m1 := pre_mono hn (show j ≤ i by omega) (show i ≤ n by omega)
      have m2 := pre_mono hn (show i + 1 ≤ e + 1 by omega) (show e + 1 ≤ n by omega)
      have : pre a (i + 1) = pre a i + a i := rfl
      omega
    obtain ⟨p, hp⟩ := key (e + 1) (by omega) (Nat.le_refl _) small
    rw [hne] at hp
    cases hp
/-! ### the least of what is gone through, the first such kept -/
def optMin (o c : Option Int) : Option Int := match c with
  | none => o
  | some m => match o with
    | none => some m
    | some k => if m < k then some m else some k
/-- from behind: c (hi - 1), c (hi - 2), .. -/
def bestI (c : Nat → Option Int) (hi : Nat) : Nat → Option Int
  | 0 => none
  | j + 1 => optMin (bestI c hi j) (c (hi - 1 - j))
theorem bestI_spec (c : Nat → Option Int) (hi : Nat) : ∀ j, j ≤ hi → (∀ m, bestI c hi j = some m → (∃ i, hi - j ≤ i ∧ i < hi ∧ c i = some m) ∧ ∀ i m', hi - j ≤ i → i < hi → c i = some m' → m ≤ m') ∧
    (bestI c hi j = none → ∀ i, hi - j ≤ i → i < hi → c i = none)
  | 0, _ => ⟨(fun m h => nomatch h), fun _ i h1 h2 => by omega⟩
  | j + 1, hj => by
    obtain ⟨ih1, ih2⟩ := bestI_spec c hi j (by omega)
    have cov : ∀ i, hi - (j + 1) ≤ i → i < hi → i = hi - 1 - j ∨ (hi - j ≤ i) := fun i h1 h2 => by omega
    rw [bestI]
    cases ec : c (hi - 1 - j) with
    | none =>
      refine ⟨fun m h => ?_, fun h i h1 h2 => ?_⟩
      · obtain ⟨⟨i, a1, a2, a3⟩, a4⟩ := ih1 m h
        refine ⟨⟨i, by omega, a2, a3⟩, fun i m' h1 h2 h3 => ?_⟩
        rcases cov i h1 h2 with rfl | h1
        · rw [ec] at h3
          cases h3
        · exact a4 i m' h1 h2 h3
      · rcases cov i h1 h2 with rfl | h1
        · exact ec
        · exact ih2 h i h1 h2
    | some x =>
      cases eb : bestI c hi j with
      | none =>
        refine ⟨fun m h => ?_, fun h => ?_⟩
        · cases h
          refine ⟨⟨_, by omega, by omega, ec⟩, fun i m' h1 h2 h3 => ?_⟩
          rcases cov i h1 h2 with rfl | h1
          · rw [ec] at h3
            cases h3
            exact Int.le_refl _
          · rw [ih2 eb i h1 h2] at h3
            cases h3
        · cases h
      | some y =>
        obtain ⟨⟨i0, a1, a2, a3⟩, a4⟩ := ih1 y eb
        show (∀ m, (if x < y then some x else some y) = some m → _) ∧ ((if x < y then some x else some y) = none → _)
        by_cases hxy : x < y
        · rw [if_pos hxy]
          refine ⟨fun m h => ?_, (fun h => nomatch h)⟩
          cases h
          refine ⟨⟨_, by omega, by omega, ec⟩, fun i m' h1 h2 h3 => ?_⟩
          rcases cov i h1 h2 with rfl | h1
          · rw [ec] at h3
            cases h3
            exact Int.le_refl _
          · have := a4 i m' h1 h2 h3
            omega
        · rw [if_neg hxy]
          refine ⟨fun m h => ?_, (fun h => nomatch h)⟩
          cases h
          refine ⟨⟨i0, by omega, a2, a3⟩, fun i m' h1 h2 h3 => ?_⟩
          rcases cov i h1 h2 with rfl | h1
          · rw [ec] at h3
            cases h3
            omega
          · exact a4 i m' h1 h2 h3
/-- so many ahead, with a sum of at most the bound behind -/
def fewC (a : Nat → Int) (b : Int) (e j : Nat) : Option Int := if pre a e - pre a j ≤ b then (fewS a b j).map (· + 1) else none
theorem fewC_some {a : Nat → Int} {b m : Int} {e j : Nat} (h : fewC a b e j = some m) : pre a e - pre a j ≤ b ∧ ∃ k, fewS a b j = some k ∧ m = k + 1 := by
  unfold fewC at h
  split at h
  · rename_i hle
    cases hf : fewS a b j with
    | none =>
      rw [hf] at h
      cases h
    | some k =>
      rw [hf] at h
      cases h
      exact ⟨hle, k, rfl, rfl⟩
  · cases h
theorem few_best {a : Nat → Int} {b : Int} {n e : Nat} (hn : ∀ i, i < n → 0 ≤ a i) (he : e + 1 ≤ n) : bestI (fewC a b (e + 1)) (e + 1) (e + 1) = fewS a b (e + 1) := by
  obtain ⟨s1, s2⟩ := bestI_spec (fewC a b (e + 1)) (e + 1) (e + 1) (Nat.le_refl _)
  obtain ⟨t1, t2⟩ := fewS_next (b := b) hn he
  cases h1 : fewS a b (e + 1) with
  | none =>
    cases h2 : bestI (fewC a b (e + 1)) (e + 1) (e + 1) with
    | none => rfl
    | some m =>
      obtain ⟨⟨i, _, hi, hc⟩, _⟩ := s1 m h2
      obtain ⟨h3, k, h4, _⟩ := fewC_some hc
      exact absurd (t2 h1 i k hi h3 h4) id
  | some m =>
    obtain ⟨⟨j, k, hj, h3, h4, h5⟩, hle⟩ := t1 m h1
    have hc : fewC a b (e + 1) j = some m := by
      unfold fewC
      rw [if_pos h3, h4, h5]
      rfl
    cases h2 : bestI (fewC a b (e + 1)) (e + 1) (e + 1) with
    | none =>
      rw [s2 h2 j (by omega) hj] at hc
      cases hc
    | some x =>
      obtain ⟨⟨i, _, hi, hcx⟩, hmin⟩ := s1 x h2
      have := hmin j m (by omega) hj hc
      obtain ⟨h6, k', h7, h8⟩ := fewC_some hcx
      have := hle i k' hi h6 h7
      congr 1
      omega
def optV : Option Int → V
  | none => .non
  | some i => .int i
/-- a table of what is told for each beginning -/
def tab (f : Nat → Option Int) (e : Nat) : List V := (List.range e).map fun i => optV (f i)
theorem tab_succ (f : Nat → Option Int) (e : Nat) : tab f e ++ [optV (f e)] = tab f (e + 1) := by
  unfold tab
  rw [List.range_succ, List.map_append]
  rfl
theorem tab_len (f : Nat → Option Int) (e : Nat) : (tab f e).length = e := by
  unfold tab
  rw [List.length_map, List.length_range]
theorem tab_at {f : Nat → Option Int} {e : Nat} {i : Int} (h0 : 0 ≤ i) (h1 : i < e) : atI (tab f e) i = some (optV (f i.toNat)) := by
  unfold tab
  rw [atI_map h0 (by rw [List.length_range]; exact h1), List.getElem!_eq_getElem?_getD, List.getElem?_range (by omega)]
  rfl
theorem tab_last (f : Nat → Option Int) (e : Nat) : atI (tab f (e + 1)) (-1) = some (optV (f e)) := by
  rw [← tab_succ]
  exact atI_last _ _
theorem few_eq {ns : List Int} {b : Int} (h : 1 ≤ ns.length) : few ns b = fewS (rowF ns) b ns.length := by
  unfold few lcut fewS
  rw [if_neg (by omega), Option.map_map]
  rfl
theorem few_le {ns : List Int} {b m : Int} (h : few ns b = some m) : 1 ≤ m ∧ m ≤ ns.length + 1 := by
  unfold few lcut at h
  cases e : gS (rowF ns) b ns.length with
  | none =>
    rw [e] at h
    cases h
  | some p =>
    obtain ⟨c, t⟩ := p
    rw [e] at h
    cases h
    have := gS_len e
    show 1 ≤ (c.length : Int) + 1 ∧ (c.length : Int) + 1 ≤ _
    omega
def dO : Option Int → PyData
  | none => .none
  | some i => .int i
theorem sd_opt {K : PySem.W.Frag} {H : Hp} {o : Option Int} (h : ∀ m, o = some m → m.natAbs < 2 ^ 64) : SameD K H (optV o) (dO o) false := by
  cases o with
  | none => exact sd_non
  | some m => exact sd_int (h m rfl)
theorem opt_of {o : Option Int} {x : V} (h1 : o = none → x = .non) (h2 : ∀ m, o = some m → x = .int m) : x = optV o := by
  cases o with
  | none => exact h1 rfl
  | some m => exact h2 m rfl
theorem gS_all {a : Nat → Int} {b : Int} : ∀ {m : Nat}, (∀ i, i < m → a i ≤ b) → ∃ p, gS a b m = some p
  | 0, _ => ⟨_, rfl⟩
  | m + 1, h => by
    obtain ⟨⟨c, t⟩, h1⟩ := gS_all (m := m) fun i hi => h i (by omega)
    rw [gS, h1]
    dsimp only
    rw [if_neg (by have := h m (by omega); omega)]
    split <;> exact ⟨_, rfl⟩
theorem lcut_none {ns : List Int} {b : Int} (h : ns ≠ []) : lcut ns b = none ↔ mxI ns > b := by
  unfold lcut
  rw [Option.map_eq_none_iff]
  constructor
  · intro e
    by_cases hb : mxI ns > b
    · exact hb
    · obtain ⟨p, hp⟩ := gS_all (a := rowF ns) (b := b) (m := ns.length) fun i hi => by
        have := mxI_le (rowF_mem hi)
        omega
      rw [e] at hp
      cases hp
  · intro hb
    cases e : gS (rowF ns) b ns.length with
    | none => rfl
    | some p =>
      obtain ⟨i, hi, e2⟩ := List.mem_iff_getElem.mp (mxI_mem h)
      have := gS_small e i hi
      rw [rowF_get (List.getElem?_eq_getElem hi), e2] at this
      omega
theorem gS_go {a : Nat → Int} {b t : Int} {i : Nat} {c : List Int} (h : gS a b i = some (c, t)) (h1 : a i ≤ b) (h2 : t + a i ≤ b) : gS a b (i + 1) = some (c, t + a i) := by
  rw [gS, h]
  dsimp only
  rw [if_neg (by omega), if_neg (by omega)]
theorem gS_new {a : Nat → Int} {b t : Int} {i : Nat} {c : List Int} (h : gS a b i = some (c, t)) (h1 : a i ≤ b) (h2 : b < t + a i) : gS a b (i + 1) = some (c ++ [(i : Int)], a i) := by
  rw [gS, h]
  dsimp only
  rw [if_neg (by omega), if_pos (by omega)]
theorem cutI_init (ns : List Int) : cutI ns none (some (-1)) = ns.dropLast := by
  unfold cutI
  rw [List.dropLast_eq_take, show HT.sIx ns.length 0 none = 0 from rfl, List.drop_zero, Nat.sub_zero]
  congr 1
  unfold HT.sIx
  dsimp only
  simp only [show ((-1 : Int) < 0) from by decide, if_true]
  omega
theorem sum_cut {ns : List Int} {i j : Int} (h0 : 0 ≤ i) (h1 : i ≤ j) (h2 : j ≤ ns.length) : (cutI ns (some i) (some j)).sum = pre (rowF ns) j.toNat - pre (rowF ns) i.toNat := by
  rw [cutI_mid ns h0 h1 h2, sum_part (by omega) (by omega)]
theorem gS_mem {a : Nat → Int} {b : Int} : ∀ {i : Nat} {c : List Int} {t : Int}, gS a b i = some (c, t) → ∀ x ∈ c, 0 ≤ x ∧ x < i
  | 0, c, t, h, x, hx => by
    rw [gS] at h
    cases h
    cases hx
  | i + 1, c, t, h, x, hx => by
    rw [gS] at h
    cases e : gS a b i with
    | none =>
      rw [e] at h
      cases h
    | some p =>
      obtain ⟨c0, t0⟩ := p
      rw [e] at h
      have ih := gS_mem e
      dsimp only at h
      split at h
      · cases h
      · split at h
        · cases h
          rcases List.mem_append.mp hx with hx | hx
          · have := ih x hx
            omega
          · rw [List.mem_singleton.mp hx]
            omega
        · cases h
          have := ih x hx
          omega
theorem lcut_mem {ns c : List Int} {b : Int} (h : lcut ns b = some c) : c.length ≤ ns.length ∧ ∀ x ∈ c, 0 ≤ x ∧ x < ns.length := by
  unfold lcut at h
  cases e : gS (rowF ns) b ns.length with
  | none =>
    rw [e] at h
    cases h
  | some p =>
    obtain ⟨c0, t0⟩ := p
    rw [e] at h
    cases h
    exact ⟨gS_len e, gS_mem e⟩
end PB

namespace PB
open PySem PySem.Spec PyProof.Rows L2
/-! ### the cut whose pieces are each as short as a bound lets; the most pieces -/
def eS (a : Nat → Int) (b : Int) : Nat → List Int × Int
  | 0 => ([], 0)
  | i + 1 => if (eS a b i).2 + a i ≥ b then ((eS a b i).1 ++ [(i : Int) + 1], 0) else ((eS a b i).1, (eS a b i).2 + a i)
def ends (ns : List Int) (b : Int) : List Int := (eS (rowF ns) b ns.length).1
theorem eS_mem (a : Nat → Int) (b : Int) : ∀ i, (eS a b i).1.length ≤ i ∧ ∀ x ∈ (eS a b i).1, 1 ≤ x ∧ x ≤ i
  | 0 => ⟨Nat.le_refl _, fun x h => nomatch h⟩
  | i + 1 => by
    obtain ⟨h1, h2⟩ := eS_mem a b i
    rw [eS]
    split
    · refine ⟨?_, fun x hx => ?_⟩
      · show ((eS a b i).1 ++ [(i : Int) + 1]).length ≤ _
        rw [List.length_append, List.length_singleton]
        omega
      · rcases List.mem_append.mp hx with hx | hx
        · have := h2 x hx
          omega
        · rw [List.mem_singleton.mp hx]
          omega
    · refine ⟨by show (eS a b i).1.length ≤ _; omega, fun x hx => ?_⟩
      have := h2 x hx
      omega
def sh (a : Nat → Int) (k : Nat) : Nat → Int := fun i => a (k + i)
theorem pre_sh (a : Nat → Int) (k : Nat) : ∀ i, pre (sh a k) i = pre a (k + i) - pre a k
  | 0 => by
    show 0 = _
    rw [Nat.add_zero]
    omega
  | i + 1 => by
    rw [pre, pre_sh a k i, ← Nat.add_assoc, pre]
    show _ + a (k + i) = _
    omega
theorem eS_shift {a : Nat → Int} {b : Int} {k : Nat} {c : List Int} (h : eS a b k = (c, 0)) : ∀ m, eS a b (k + m) = (c ++ (eS (sh a k) b m).1.map (· + (k : Int)), (eS (sh a k) b m).2)
  | 0 => by
    rw [Nat.add_zero, h, eS]
    show (c, (0 : Int)) = (c ++ [], 0)
    rw [List.append_nil]
  | m + 1 => by
    rw [← Nat.add_assoc, eS, eS_shift h m, eS]
    show (if (eS (sh a k) b m).2 + a (k + m) ≥ b then _ else _) = _
    by_cases hb : (eS (sh a k) b m).2 + a (k + m) ≥ b
    · rw [if_pos hb, if_pos (show (eS (sh a k) b m).2 + sh a k m ≥ b from hb)]
      show (_ ++ [((k + m : Nat) : Int) + 1], (0 : Int)) = (c ++ ((eS (sh a k) b m).1 ++ [(m : Int) + 1]).map (· + (k : Int)), 0)
      rw [List.map_append, ← List.append_assoc]
      show (_ ++ [((k + m : Nat) : Int) + 1], (0 : Int)) = (_ ++ [(m : Int) + 1 + (k : Int)], 0)
      rw [show ((k + m : Nat) : Int) + 1 = (m : Int) + 1 + (k : Int) by omega]
    · rw [if_neg hb, if_neg (show ¬ (eS (sh a k) b m).2 + sh a k m ≥ b from hb)]
      rfl
theorem eS_low {a : Nat → Int} {b : Int} : ∀ {m : Nat}, (∀ e, 1 ≤ e → e ≤ m → pre a e < b) → eS a b m = ([], pre a m)
  | 0, _ => rfl
  | m + 1, h => by
    rw [eS, eS_low fun e h1 h2 => h e h1 (by omega)]
    have := h (m + 1) (by omega) (Nat.le_refl _)
    rw [pre] at this
    exact if_neg (by show ¬ pre a m + a m ≥ b; omega)
theorem eS_hit {a : Nat → Int} {b : Int} {m : Nat} (h : ∀ e, 1 ≤ e → e < m + 1 → pre a e < b) (h2 : pre a (m + 1) ≥ b) : eS a b (m + 1) = ([(m : Int) + 1], 0) := by
  rw [eS, eS_low fun e h1 h2 => h e h1 (by omega)]
  rw [pre] at h2
  exact if_pos h2
/-- how many from a place on -/
def gE (a : Nat → Int) (b : Int) (n beg : Nat) : Nat := (eS (sh a beg) b (n - beg)).1.length
theorem gE_none {a : Nat → Int} {b : Int} {n beg : Nat} (h : ∀ e, beg < e → e ≤ n → pre a e - pre a beg < b) : gE a b n beg = 0 := by
  unfold gE
  rw [eS_low fun e h1 h2 => by
    rw [pre_sh]
    exact h _ (by omega) (by omega)]
  rfl
theorem eS_next {a : Nat → Int} {b : Int} {beg e : Nat} (hbe : beg < e) (h : ∀ j, beg < j → j < e → pre a j - pre a beg < b) (h2 : pre a e - pre a beg ≥ b) : eS (sh a beg) b (e - beg) = ([((e - beg : Nat) : Int)], 0) := by
  obtain ⟨m, rfl⟩ : ∃ m, e = beg + (m + 1) := ⟨e - beg - 1, by omega⟩
  rw [show beg + (m + 1) - beg = m + 1 by omega, eS_hit (fun j h1 h3 => by
    rw [pre_sh]
    exact h _ (by omega) (by omega)) (by rw [pre_sh]; exact h2)]
  rfl
theorem gE_next {a : Nat → Int} {b : Int} {n beg e : Nat} (hbe : beg < e) (hen : e ≤ n) (h : ∀ j, beg < j → j < e → pre a j - pre a beg < b) (h2 : pre a e - pre a beg ≥ b) : gE a b n beg = 1 + gE a b n e := by
  have s := eS_shift (eS_next hbe h h2) (n - e)
  unfold gE
  rw [show n - beg = (e - beg) + (n - e) by omega, s]
  have e2 : sh (sh a beg) (e - beg) = sh a e := by
    funext i
    show a (beg + (e - beg + i)) = a (e + i)
    rw [show beg + (e - beg + i) = e + i by omega]
  rw [e2, List.length_append, List.length_map, List.length_singleton]
theorem eS_at {a : Nat → Int} {b : Int} {beg e : Nat} {c : List Int} (hc : eS a b beg = (c, 0)) (hbe : beg < e) (h : ∀ j, beg < j → j < e → pre a j - pre a beg < b) (h2 : pre a e - pre a beg ≥ b) : eS a b e = (c ++ [(e : Int)], 0) := by
  have s := eS_shift hc (e - beg)
  rw [eS_next hbe h h2, show beg + (e - beg) = e by omega] at s
  rw [s]
  show (c ++ [((e - beg : Nat) : Int) + (beg : Int)], (0 : Int)) = _
  rw [show ((e - beg : Nat) : Int) + (beg : Int) = (e : Int) by omega]
theorem least {p : Nat → Prop} : ∀ e, p e → ∃ m, m ≤ e ∧ p m ∧ ∀ j, j < m → ¬ p j := by
  intro e
  induction e using Nat.strongRecOn with
  | _ e ih =>
    intro h
    by_cases hx : ∃ j, j < e ∧ p j
    · obtain ⟨j, hj, hp⟩ := hx
      obtain ⟨m, h1, h2⟩ := ih j hj hp
      exact ⟨m, by omega, h2⟩
    · exact ⟨e, Nat.le_refl _, h, fun j hj hp => hx ⟨j, hj, hp⟩⟩
/-- the first end from a place on, or none -/
theorem next_or {a : Nat → Int} (b : Int) (n beg : Nat) : (∀ e, beg < e → e ≤ n → pre a e - pre a beg < b) ∨ ∃ e, beg < e ∧ e ≤ n ∧ (∀ j, beg < j → j < e → pre a j - pre a beg < b) ∧ pre a e - pre a beg ≥ b := by
  by_cases hx : ∃ e, beg < e ∧ e ≤ n ∧ pre a e - pre a beg ≥ b
  · obtain ⟨e0, h0⟩ := hx
    obtain ⟨m, _, ⟨h1, h2, h3⟩, h4⟩ := least (p := fun e => beg < e ∧ e ≤ n ∧ pre a e - pre a beg ≥ b) e0 h0
    refine .inr ⟨m, h1, h2, fun j hj hm => ?_, h3⟩
    have := h4 j hm
    by_cases hb : pre a j - pre a beg < b
    · exact hb
    · exact absurd ⟨hj, by omega, by omega⟩ this
  · refine .inl fun e h1 h2 => ?_
    by_cases hb : pre a e - pre a beg < b
    · exact hb
    · exact absurd ⟨e, h1, h2, by omega⟩ hx
theorem gE_end (a : Nat → Int) (b : Int) (n : Nat) : gE a b n n = 0 := gE_none fun e h1 h2 => by omega
theorem gE_anti {a : Nat → Int} {b : Int} {n : Nat} (hn : ∀ i, i < n → 0 ≤ a i) : ∀ (d beg beg2 : Nat), n - beg ≤ d → beg ≤ beg2 → beg2 ≤ n → gE a b n beg2 ≤ gE a b n beg
  | 0, beg, beg2, hd, h1, h2 => by
    obtain rfl : beg2 = beg := by omega
    exact Nat.le_refl _
  | d + 1, beg, beg2, hd, h1, h2 => by
    rcases next_or (a := a) b n beg2 with h | ⟨e2, a1, a2, a3, a4⟩
    · rw [gE_none h]
      exact Nat.zero_le _
    · rcases next_or (a := a) b n beg with h | ⟨e1, b1, b2, b3, b4⟩
      · have m1 := pre_mono hn h1 h2
        have := h e2 (by omega) a2
        omega
      · rw [gE_next a1 a2 a3 a4, gE_next b1 b2 b3 b4]
        have hle : e1 ≤ e2 := by
          rcases Nat.lt_or_ge e2 e1 with h | h
          · have m1 := pre_mono hn h1 h2
            have := b3 e2 (by omega) h
            omega
          · exact h
        have := gE_anti (b := b) hn d e1 e2 (by omega) hle a2
        omega
/-- the most pieces from a place on -/
def mX (a : Nat → Int) (b : Int) (n j : Nat) : Option Int := if j = n then some 0 else if gE a b n j = 0 then none else some (gE a b n j)
theorem mX_some {a : Nat → Int} {b k : Int} {n j : Nat} (h : mX a b n j = some k) : k = gE a b n j := by
  unfold mX at h
  split at h
  · rename_i e
    cases h
    rw [e, gE_end]
    rfl
  · split at h
    · cases h
    · cases h
      rfl
def mC (f : Nat → Option Int) (a : Nat → Int) (b : Int) (beg e : Nat) : Option Int := if pre a e - pre a beg ≥ b then (f e).map (· + 1) else none
def optMax (o c : Option Int) : Option Int := match c with
  | none => o
  | some m => some (max (o.getD 0) m)
def mB (f : Nat → Option Int) (a : Nat → Int) (b : Int) (beg : Nat) : Nat → Option Int
  | 0 => none
  | j + 1 => optMax (mB f a b beg j) (mC f a b beg (beg + 1 + j))
theorem mC_some {f : Nat → Option Int} {a : Nat → Int} {b m : Int} {beg e : Nat} (h : mC f a b beg e = some m) : pre a e - pre a beg ≥ b ∧ ∃ k, f e = some k ∧ m = k + 1 := by
  unfold mC at h
  split at h
  · rename_i hle
    cases hf : f e with
    | none =>
      rw [hf] at h
      cases h
    | some k =>
      rw [hf] at h
      cases h
      exact ⟨hle, k, rfl, rfl⟩
  · cases h
theorem mB_spec {f : Nat → Option Int} {a : Nat → Int} {b : Int} {beg : Nat} (hp : ∀ e m, f e = some m → 0 ≤ m) : ∀ j,
    (∀ m, mB f a b beg j = some m → (∃ i, i < j ∧ mC f a b beg (beg + 1 + i) = some m) ∧ ∀ i m', i < j → mC f a b beg (beg + 1 + i) = some m' → m' ≤ m) ∧
    (mB f a b beg j = none → ∀ i, i < j → mC f a b beg (beg + 1 + i) = none)
  | 0 => ⟨(fun m h => nomatch h), fun _ i h => absurd h (Nat.not_lt_zero _)⟩
  | j + 1 => by
    obtain ⟨ih1, ih2⟩ := mB_spec (a := a) (b := b) (beg := beg) hp j
    have cov : ∀ i, i < j + 1 → i = j ∨ i < j := fun i h => by omega
    rw [mB]
    cases ec : mC f a b beg (beg + 1 + j) with
    | none =>
      refine ⟨fun m h => ?_, fun h i h1 => ?_⟩
      · obtain ⟨⟨i, a2, a3⟩, a4⟩ := ih1 m h
        refine ⟨⟨i, by omega, a3⟩, fun i m' h1 h3 => ?_⟩
        rcases cov i h1 with rfl | h1
        · rw [ec] at h3
          cases h3
        · exact a4 i m' h1 h3
      · rcases cov i h1 with rfl | h1
        · exact ec
        · exact ih2 h i h1
    | some x =>
      obtain ⟨_, k, hk, rfl⟩ := mC_some ec
      have hk0 := hp _ _ hk
      show (∀ m, some (max ((mB f a b beg j).getD 0) (k + 1)) = some m → _) ∧ (some _ = none → _)
      refine ⟨fun m h => ?_, (fun h => nomatch h)⟩
      cases h
      cases eb : mB f a b beg j with
      | none =>
        show (∃ i, i < j + 1 ∧ mC f a b beg (beg + 1 + i) = some (max 0 (k + 1))) ∧ ∀ i m', i < j + 1 → mC f a b beg (beg + 1 + i) = some m' → m' ≤ max 0 (k + 1)
        rw [show max 0 (k + 1) = k + 1 by omega]
        refine ⟨⟨j, by omega, ec⟩, fun i m' h1 h3 => ?_⟩
        rcases cov i h1 with rfl | h1
        · rw [ec] at h3
          cases h3
          exact Int.le_refl _
        · rw [ih2 eb i h1] at h3
          cases h3
      | some y =>
        obtain ⟨⟨i0, a2, a3⟩, a4⟩ := ih1 y eb
        show (∃ i, i < j + 1 ∧ mC f a b beg (beg + 1 + i) = some (max y (k + 1))) ∧ ∀ i m', i < j + 1 → mC f a b beg (beg + 1 + i) = some m' → m' ≤ max y (k + 1)
        refine ⟨?_, fun i m' h1 h3 => ?_⟩
        · rcases Int.le_total y (k + 1) with h | h
          · exact ⟨j, by omega, by rw [Int.max_eq_right h]; exact ec⟩
          · exact ⟨i0, by omega, by rw [Int.max_eq_left h]; exact a3⟩
        · rcases cov i h1 with rfl | h1
          · rw [ec] at h3
            cases h3
            omega
          · have := a4 i m' h1 h3
            omega
theorem mB_congr {f g : Nat → Option Int} {a : Nat → Int} {b : Int} {beg : Nat} (h : ∀ e, beg < e → f e = g e) : ∀ j, mB f a b beg j = mB g a b beg j
  | 0 => rfl
  | j + 1 => by
    rw [mB, mB, mB_congr h j]
    unfold mC
    rw [h _ (by omega)]
theorem mX_best {a : Nat → Int} {b : Int} {n beg : Nat} (hn : ∀ i, i < n → 0 ≤ a i) (hb : beg < n) : mB (mX a b n) a b beg (n - beg) = mX a b n beg := by
  obtain ⟨s1, s2⟩ := mB_spec (f := mX a b n) (a := a) (b := b) (beg := beg) (fun e m h => by
    rw [mX_some h]
    omega) (n - beg)
  rcases next_or (a := a) b n beg with h | ⟨e1, b1, b2, b3, b4⟩
  · have g0 := gE_none h
    have hx : mX a b n beg = none := by
      unfold mX
      rw [if_neg (by omega), if_pos g0]
    rw [hx]
    cases hm : mB (mX a b n) a b beg (n - beg) with
    | none => rfl
    | some m =>
      obtain ⟨⟨i, hi, hc⟩, _⟩ := s1 m hm
      obtain ⟨h5, _⟩ := mC_some hc
      have := h (beg + 1 + i) (by omega) (by omega)
      omega
  · have g1 := gE_next b1 b2 b3 b4
    have hx : mX a b n beg = some (gE a b n beg : Int) := by
      unfold mX
      rw [if_neg (by omega), if_neg (by omega)]
    rw [hx]
    have hat : ∃ i, i < n - beg ∧ mC (mX a b n) a b beg (beg + 1 + i) = some (gE a b n beg : Int) := by
      by_cases hz : gE a b n e1 = 0
      · refine ⟨n - beg - 1, by omega, ?_⟩
        rw [show beg + 1 + (n - beg - 1) = n by omega]
        have m1 := pre_mono hn b2 (Nat.le_refl _)
        unfold mC mX
        rw [if_pos (by omega), if_pos rfl, g1, hz]
        rfl
      · refine ⟨e1 - beg - 1, by omega, ?_⟩
        rw [show beg + 1 + (e1 - beg - 1) = e1 by omega]
        unfold mC mX
        have hne : e1 ≠ n := fun z => by
          rw [z, gE_end] at hz
          omega
        rw [if_pos b4, if_neg hne, if_neg hz, g1]
        show some ((gE a b n e1 : Int) + 1) = _
        congr 1
        omega
    obtain ⟨i, hi, hc⟩ := hat
    cases hm : mB (mX a b n) a b beg (n - beg) with
    | none =>
      rw [s2 hm i hi] at hc
      cases hc
    | some m =>
      obtain ⟨⟨i2, hi2, hc2⟩, hmax⟩ := s1 m hm
      have := hmax i _ hi hc
      obtain ⟨h5, k, h6, rfl⟩ := mC_some hc2
      have hk := mX_some h6
      have hle : e1 ≤ beg + 1 + i2 := by
        rcases Nat.lt_or_ge (beg + 1 + i2) e1 with h | h
        · have := b3 _ (by omega) h
          omega
        · exact h
      have := gE_anti hn (b := b) n e1 (beg + 1 + i2) (by omega) hle (by omega)
      congr 1
      omega
/-- the table from behind, so many turns -/
def mT (a : Nat → Int) (b : Int) (n k j : Nat) : Option Int := if n - k ≤ j then mX a b n j else none
theorem mT_zero {a : Nat → Int} {b : Int} {n j : Nat} (h : j ≤ n) : mT a b n 0 j = if j = n then some 0 else none := by
  unfold mT mX
  by_cases e : j = n
  · rw [if_pos (by omega), if_pos e, if_pos e]
  · rw [if_neg (by omega), if_neg e]
theorem mT_step {a : Nat → Int} {b : Int} {n k : Nat} (hn : ∀ i, i < n → 0 ≤ a i) (hk : k < n) (j : Nat) : mT a b n (k + 1) j = if j = n - 1 - k then mB (mT a b n k) a b (n - 1 - k) (k + 1) else mT a b n k j := by
  by_cases e : j = n - 1 - k
  · rw [if_pos e, e, mB_congr (f := mT a b n k) (g := mX a b n) (fun e he => if_pos (by omega)), show k + 1 = n - (n - 1 - k) by omega, mX_best hn (by omega)]
    exact if_pos (by omega)
  · rw [if_neg e]
    unfold mT
    by_cases h : n - k ≤ j
    · rw [if_pos h, if_pos (by omega)]
    · rw [if_neg h, if_neg (by omega)]
theorem tab_get (f : Nat → Option Int) (e k : Nat) : (tab f e)[k]? = if k < e then some (optV (f k)) else none := by
  unfold tab
  rw [List.getElem?_map]
  by_cases h : k < e
  · rw [if_pos h, List.getElem?_range h]
    rfl
  · rw [if_neg h, List.getElem?_eq_none (by rw [List.length_range]; omega)]
    rfl
theorem tab_set {f : Nat → Option Int} {e i : Nat} {v : Option Int} (h : i < e) : (tab f e).set i (optV v) = tab (fun j => if j = i then v else f j) e := by
  refine List.ext_getElem? fun k => ?_
  rw [List.getElem?_set, tab_get, tab_get, tab_len]
  by_cases e2 : i = k
  · rw [if_pos e2, if_pos h, if_pos (by omega), if_pos e2.symm]
  · rw [if_neg e2, if_neg (show ¬ k = i from fun z => e2 z.symm)]
theorem tab_congr {f g : Nat → Option Int} {e : Nat} (h : ∀ j, j < e → f j = g j) : tab f e = tab g e := by
  unfold tab
  exact List.map_congr_left fun i hi => by rw [h i (List.mem_range.mp hi)]
theorem tab_start (a : Nat → Int) (b : Int) (n : Nat) : List.replicate n V.non ++ [.int 0] = tab (mT a b n 0) (n + 1) := by
  rw [← tab_succ]
  congr 1
  · refine List.ext_getElem? fun k => ?_
    rw [tab_get, List.getElem?_replicate]
    by_cases h : k < n
    · rw [if_pos h, if_pos h, mT_zero (by omega), if_neg (by omega)]
      rfl
    · rw [if_neg h, if_neg h]
  · rw [mT_zero (Nat.le_refl _), if_pos rfl]
    rfl
theorem mT_all (a : Nat → Int) (b : Int) (n j : Nat) : mT a b n n j = mX a b n j := if_pos (by omega)
/-- how many ends -/
theorem ends_len (ns : List Int) (b : Int) : (ends ns b).length = gE (rowF ns) b ns.length 0 := by
  unfold ends gE
  have : sh (rowF ns) 0 = rowF ns := by
    funext i
    show rowF ns (0 + i) = _
    rw [Nat.zero_add]
  rw [this]
  rfl
def mostO (ns : List Int) (b : Int) : Option Int := if ends ns b = [] then none else some ((ends ns b).length : Int)
theorem mX_most {ns : List Int} (b : Int) (h : 1 ≤ ns.length) : mX (rowF ns) b ns.length 0 = mostO ns b := by
  unfold mX mostO
  rw [if_neg (by omega), ← ends_len]
  by_cases e : ends ns b = []
  · rw [if_pos e, e]
    rfl
  · rw [if_neg e, if_neg (fun z => e (List.length_eq_zero_iff.mp z))]
def firstO (ns : List Int) (b : Int) : Option (List Int) := if ends ns b = [] then none else some (ends ns b).dropLast
theorem most_le {ns : List Int} {b m : Int} (h : mostO ns b = some m) : 1 ≤ m ∧ m ≤ ns.length := by
  unfold mostO at h
  split at h
  · cases h
  · rename_i hne
    cases h
    have := (eS_mem (rowF ns) b ns.length).1
    have h0 : (ends ns b).length ≠ 0 := fun z => hne (List.length_eq_zero_iff.mp z)
    unfold ends at h0 ⊢
    omega
theorem first_mem {ns c : List Int} {b : Int} (h : firstO ns b = some c) : c.length ≤ ns.length ∧ ∀ x ∈ c, 0 ≤ x ∧ x ≤ ns.length := by
  unfold firstO at h
  split at h
  · cases h
  · cases h
    obtain ⟨h1, h2⟩ := eS_mem (rowF ns) b ns.length
    refine ⟨?_, fun x hx => ?_⟩
    · rw [List.length_dropLast]
      unfold ends
      omega
    · have := h2 x (List.dropLast_subset _ hx)
      omega
end PB

namespace PB
open PySem PySem.Spec PyProof.Rows L2
/-! ### sums over places -/
def sumN (f : Nat → Int) : Nat → Int
  | 0 => 0
  | n + 1 => sumN f n + f n
theorem sumN_congr {f g : Nat → Int} : ∀ {n : Nat}, (∀ i, i < n → f i = g i) → sumN f n = sumN g n
  | 0, _ => rfl
  | n + 1, h => by rw [sumN, sumN, sumN_congr fun i hi => h i (by omega), h n (by omega)]
theorem sumN_zero {f : Nat → Int} {n : Nat} (h : ∀ i, i < n → f i = 0) : sumN f n = 0 := by
  induction n with
  | zero => rfl
  | succ n ih => rw [sumN, ih fun i hi => h i (by omega), h n (by omega)]; rfl
theorem sumN_add (f g : Nat → Int) : ∀ n, sumN (fun i => f i + g i) n = sumN f n + sumN g n
  | 0 => rfl
  | n + 1 => by
    rw [sumN, sumN, sumN, sumN_add f g n]
    omega
theorem sumN_mul (f : Nat → Int) (c : Int) : ∀ n, sumN (fun i => f i * c) n = sumN f n * c
  | 0 => by
    show 0 = 0 * c
    rw [Int.zero_mul]
  | n + 1 => by rw [sumN, sumN, sumN_mul f c n, Int.add_mul]
theorem sumN_lmul (f : Nat → Int) (c : Int) : ∀ n, sumN (fun i => c * f i) n = c * sumN f n
  | 0 => by
    show 0 = c * 0
    rw [Int.mul_zero]
  | n + 1 => by rw [sumN, sumN, sumN_lmul f c n, Int.mul_add]
theorem sumN_swap (f : Nat → Nat → Int) (m : Nat) : ∀ n, sumN (fun i => sumN (fun j => f i j) m) n = sumN (fun j => sumN (fun i => f i j) n) m
  | 0 => (sumN_zero fun i _ => rfl).symm
  | n + 1 => by
    rw [sumN, sumN_swap f m n, ← sumN_add]
    rfl
theorem sumN_one {f : Nat → Int} {n k : Nat} (hk : k < n) (h : ∀ i, i < n → i ≠ k → f i = 0) : sumN f n = f k := by
  induction n with
  | zero => omega
  | succ n ih =>
    rw [sumN]
    by_cases e : k = n
    · subst e
      rw [sumN_zero fun i hi => h i (by omega) (by omega), Int.zero_add]
    · rw [ih (by omega) fun i hi hne => h i (by omega) hne, h n (by omega) (fun z => e z.symm), Int.add_zero]
/-! ### cuts with sums between bounds, from a place on; up to a place -/
def okW (a : Nat → Int) (lo hi : Int) (b e : Nat) : Prop := b < e ∧ lo ≤ pre a e - pre a b ∧ pre a e - pre a b ≤ hi
instance (a : Nat → Int) (lo hi : Int) (b e : Nat) : Decidable (okW a lo hi b e) := inferInstanceAs (Decidable (_ ∧ _))
def wB (a : Nat → Int) (lo hi : Int) (n : Nat) : Nat → Nat → Int
  | 0, b => if b = n then 1 else 0
  | k + 1, b => sumN (fun e => if okW a lo hi b e then wB a lo hi n k e else 0) (n + 1)
def wF (a : Nat → Int) (lo hi : Int) (n : Nat) : Nat → Nat → Int
  | 0, e => if e = 0 then 1 else 0
  | k + 1, e => sumN (fun b => if okW a lo hi b e then wF a lo hi n k b else 0) (n + 1)
theorem w_step (a : Nat → Int) (lo hi : Int) (n j k : Nat) : sumN (fun b => wF a lo hi n j b * wB a lo hi n (k + 1) b) (n + 1) = sumN (fun e => wF a lo hi n (j + 1) e * wB a lo hi n k e) (n + 1) := by
  have h1 : ∀ b, wF a lo hi n j b * wB a lo hi n (k + 1) b = sumN (fun e => wF a lo hi n j b * (if okW a lo hi b e then wB a lo hi n k e else 0)) (n + 1) := fun b => (sumN_lmul _ _ _).symm
  have h2 : ∀ e, wF a lo hi n (j + 1) e * wB a lo hi n k e = sumN (fun b => (if okW a lo hi b e then wF a lo hi n j b else 0) * wB a lo hi n k e) (n + 1) := fun e => (sumN_mul _ _ _).symm
  rw [sumN_congr fun b _ => h1 b, sumN_congr fun e _ => h2 e, sumN_swap]
  refine sumN_congr fun e _ => sumN_congr fun b _ => ?_
  split
  · rfl
  · rw [Int.mul_zero, Int.zero_mul]
theorem w_move (a : Nat → Int) (lo hi : Int) (n : Nat) : ∀ k j, sumN (fun b => wF a lo hi n j b * wB a lo hi n k b) (n + 1) = sumN (fun b => wF a lo hi n (j + k) b * wB a lo hi n 0 b) (n + 1)
  | 0, j => rfl
  | k + 1, j => by
    rw [w_step, w_move a lo hi n k (j + 1), show j + 1 + k = j + (k + 1) by omega]
/-- THE LAW: counted from behind as counted from the beginning -/
theorem w_same (a : Nat → Int) (lo hi : Int) (n k : Nat) : wB a lo hi n k 0 = wF a lo hi n k n := by
  have h := w_move a lo hi n k 0
  rw [Nat.zero_add, sumN_one (k := 0) (by omega) (fun i _ hi0 => by rw [wF, if_neg hi0, Int.zero_mul]), sumN_one (k := n) (by omega) (fun i _ hin => by rw [wB, if_neg hin, Int.mul_zero]), show wF a lo hi n 0 0 = 1 from rfl, show wB a lo hi n 0 n = 1 from if_pos rfl, Int.one_mul, Int.mul_one] at h
  exact h
/-! ### tables of ints -/
def tabI (f : Nat → Int) (e : Nat) : List Int := (List.range e).map f
theorem tabI_succ (f : Nat → Int) (e : Nat) : tabI f e ++ [f e] = tabI f (e + 1) := by
  unfold tabI
  rw [List.range_succ, List.map_append]
  rfl
theorem tabI_len (f : Nat → Int) (e : Nat) : (tabI f e).length = e := by
  unfold tabI
  rw [List.length_map, List.length_range]
theorem tabI_get (f : Nat → Int) (e k : Nat) : (tabI f e)[k]? = if k < e then some (f k) else none := by
  unfold tabI
  rw [List.getElem?_map]
  by_cases h : k < e
  · rw [if_pos h, List.getElem?_range h]
    rfl
  · rw [if_neg h, List.getElem?_eq_none (by rw [List.length_range]; omega)]
    rfl
theorem tabI_e {f : Nat → Int} {e k : Nat} (h : k < e) : (tabI f e)[k]! = f k := getE_of (by rw [tabI_get, if_pos h])
theorem tabI_at {f : Nat → Int} {e : Nat} {i : Int} (h0 : 0 ≤ i) (h1 : i < e) : atI ((tabI f e).map V.int) i = some (.int (f i.toNat)) := by
  rw [atI_map h0 (by rw [tabI_len]; exact h1), tabI_e (by omega)]
theorem tabI_last (f : Nat → Int) (e : Nat) : atI ((tabI f (e + 1)).map V.int) (-1) = some (.int (f e)) := by
  rw [← tabI_succ, List.map_append]
  exact atI_last _ _
theorem tabI_set {f : Nat → Int} {e i : Nat} {v : Int} (h : i < e) : (tabI f e).set i v = tabI (fun j => if j = i then v else f j) e := by
  refine List.ext_getElem? fun k => ?_
  rw [List.getElem?_set, tabI_get, tabI_get, tabI_len]
  by_cases e2 : i = k
  · rw [if_pos e2, if_pos h, if_pos (by omega), if_pos e2.symm]
  · rw [if_neg e2, if_neg (show ¬ k = i from fun z => e2 z.symm)]
theorem tabI_congr {f g : Nat → Int} {e : Nat} (h : ∀ j, j < e → f j = g j) : tabI f e = tabI g e := by
  unfold tabI
  exact List.map_congr_left fun i hi => by rw [h i (List.mem_range.mp hi)]
theorem tabI_const (c : Int) (e : Nat) : List.replicate e c = tabI (fun _ => c) e := by
  refine List.ext_getElem? fun k => ?_
  rw [tabI_get, List.getElem?_replicate]
theorem sum_tabI (f : Nat → Int) : ∀ e, (tabI f e).sum = sumN f e
  | 0 => rfl
  | e + 1 => by
    rw [← tabI_succ, List.sum_append, sum_tabI f e, sumN]
    show _ + (f e + 0) = _
    rw [Int.add_zero]
/-- the ends gone through from a place, that fit -/
def endsL (a : Nat → Int) (lo hi : Int) (beg j : Nat) : List Int := ((List.range j).filter fun i => decide (okW a lo hi beg (beg + 1 + i))).map fun (i : Nat) => (beg : Int) + 1 + (i : Int)
theorem endsL_yes {a : Nat → Int} {lo hi : Int} {beg j : Nat} (h : okW a lo hi beg (beg + 1 + j)) : endsL a lo hi beg (j + 1) = endsL a lo hi beg j ++ [(beg : Int) + 1 + (j : Int)] := by
  unfold endsL
  rw [List.range_succ, List.filter_append, List.map_append]
  congr 1
  rw [List.filter_cons, if_pos (decide_eq_true h)]
  rfl
theorem endsL_no {a : Nat → Int} {lo hi : Int} {beg j : Nat} (h : ¬ okW a lo hi beg (beg + 1 + j)) : endsL a lo hi beg (j + 1) = endsL a lo hi beg j := by
  unfold endsL
  rw [List.range_succ, List.filter_append, List.filter_cons, if_neg (by rw [decide_eq_true_eq]; exact h), List.filter_nil, List.append_nil]
theorem endsL_mem {a : Nat → Int} {lo hi : Int} {beg j : Nat} {x : Int} (h : x ∈ endsL a lo hi beg j) : 0 ≤ x ∧ x ≤ beg + j := by
  unfold endsL at h
  obtain ⟨i, hi, rfl⟩ := List.mem_map.mp h
  have := List.mem_range.mp (List.mem_filter.mp hi).1
  omega
theorem endsL_len (a : Nat → Int) (lo hi : Int) (beg j : Nat) : (endsL a lo hi beg j).length ≤ j := by
  unfold endsL
  rw [List.length_map]
  exact Nat.le_trans (List.length_filter_le _ _) (by rw [List.length_range]; exact Nat.le_refl _)
theorem endsL_sum (a : Nat → Int) (lo hi : Int) (beg : Nat) (f : Nat → Int) : ∀ j, ((endsL a lo hi beg j).map fun x => f x.toNat).sum = sumN (fun e => if okW a lo hi beg e then f e else 0) (beg + 1 + j)
  | 0 => by
    rw [sumN_zero fun i h => if_neg fun z => by
      have := z.1
      omega]
    rfl
  | j + 1 => by
    rw [← Nat.add_assoc, sumN, ← endsL_sum a lo hi beg f j]
    by_cases h : okW a lo hi beg (beg + 1 + j)
    · rw [endsL_yes h, if_pos h, List.map_append, List.sum_append]
      show _ + (f ((beg : Int) + 1 + (j : Int)).toNat + 0) = _
      rw [show ((beg : Int) + 1 + (j : Int)).toNat = beg + 1 + j by omega, Int.add_zero]
    · rw [endsL_no h, if_neg h, Int.add_zero]
theorem wB_start (a : Nat → Int) (lo hi : Int) (n : Nat) : List.replicate n 0 ++ [1] = tabI (wB a lo hi n 0) (n + 1) := by
  rw [← tabI_succ]
  congr 1
  · rw [tabI_const]
    exact tabI_congr fun j hj => (if_neg (by omega)).symm
  · rw [show wB a lo hi n 0 n = 1 from if_pos rfl]
theorem wB_next (a : Nat → Int) (lo hi : Int) (n k beg : Nat) (h : beg ≤ n) : ((endsL a lo hi beg (n - beg)).map fun x => wB a lo hi n k x.toNat).sum = wB a lo hi n (k + 1) beg := by
  rw [endsL_sum a lo hi beg (wB a lo hi n k), show beg + 1 + (n - beg) = n + 1 by omega]
  rfl
theorem wF_start (a : Nat → Int) (lo hi : Int) (n : Nat) : [1] ++ List.replicate n 0 = tabI (wF a lo hi n 0) (n + 1) := by
  refine List.ext_getElem? fun k => ?_
  rw [tabI_get]
  cases k with
  | zero => rfl
  | succ k =>
    show (List.replicate n (0 : Int))[k]? = _
    rw [List.getElem?_replicate]
    by_cases h : k < n
    · rw [if_pos h, if_pos (by omega)]
      rfl
    · rw [if_neg h, if_neg (by omega)]
/-- behind so many places -/
def gW (a : Nat → Int) (lo hi : Int) (n k b e : Nat) : Int := sumN (fun x => if okW a lo hi x e then wF a lo hi n k x else 0) b
def gW2 (a : Nat → Int) (lo hi : Int) (n k b j e : Nat) : Int := if b < e ∧ e ≤ b + j then gW a lo hi n k (b + 1) e else gW a lo hi n k b e
theorem gW_zero (a : Nat → Int) (lo hi : Int) (n k : Nat) : List.replicate (n + 1) 0 = tabI (gW a lo hi n k 0) (n + 1) := tabI_const 0 (n + 1)
theorem gW_all (a : Nat → Int) (lo hi : Int) (n k : Nat) : tabI (gW a lo hi n k n) (n + 1) = tabI (wF a lo hi n (k + 1)) (n + 1) := tabI_congr fun e he => by
  rw [wF, sumN, if_neg (fun z => by have := z.1; omega), Int.add_zero]
  rfl
theorem gW2_zero (a : Nat → Int) (lo hi : Int) (n k b : Nat) : tabI (gW2 a lo hi n k b 0) (n + 1) = tabI (gW a lo hi n k b) (n + 1) := tabI_congr fun e he => if_neg (by omega)
theorem gW2_all (a : Nat → Int) (lo hi : Int) (n k b : Nat) : tabI (gW2 a lo hi n k b (n - b)) (n + 1) = tabI (gW a lo hi n k (b + 1)) (n + 1) := tabI_congr fun e he => by
  unfold gW2
  by_cases h : b < e ∧ e ≤ b + (n - b)
  · rw [if_pos h]
  · rw [if_neg h]
    unfold gW
    rw [sumN, if_neg (fun z => by have := z.1; omega), Int.add_zero]
theorem gW2_at (a : Nat → Int) (lo hi : Int) (n k b j : Nat) : gW2 a lo hi n k b j (b + 1 + j) = gW a lo hi n k b (b + 1 + j) := if_neg (by omega)
theorem gW2_yes {a : Nat → Int} {lo hi : Int} {n k b j : Nat} (hj : b + 1 + j < n + 1) (h : okW a lo hi b (b + 1 + j)) : (tabI (gW2 a lo hi n k b j) (n + 1)).set (b + 1 + j) (gW a lo hi n k b (b + 1 + j) + wF a lo hi n k b) = tabI (gW2 a lo hi n k b (j + 1)) (n + 1) := by
  rw [tabI_set hj]
  refine tabI_congr fun e he => ?_
  unfold gW2
  by_cases e1 : e = b + 1 + j
  · rw [if_pos e1, if_pos (by omega), e1]
    show _ = sumN _ b + (if okW a lo hi b (b + 1 + j) then wF a lo hi n k b else 0)
    rw [if_pos h]
    rfl
  · rw [if_neg e1]
    by_cases h2 : b < e ∧ e ≤ b + j
    · rw [if_pos h2, if_pos (by omega)]
    · rw [if_neg h2, if_neg (by omega)]
theorem gW2_no {a : Nat → Int} {lo hi : Int} {n k b j : Nat} (h : ¬ okW a lo hi b (b + 1 + j)) : tabI (gW2 a lo hi n k b j) (n + 1) = tabI (gW2 a lo hi n k b (j + 1)) (n + 1) := tabI_congr fun e he => by
  unfold gW2
  by_cases e1 : e = b + 1 + j
  · rw [if_neg (by omega), if_pos (by omega), e1]
    show _ = sumN _ b + (if okW a lo hi b (b + 1 + j) then wF a lo hi n k b else 0)
    rw [if_neg h, Int.add_zero]
    rfl
  · by_cases h2 : b < e ∧ e ≤ b + j
    · rw [if_pos h2, if_pos (by omega)]
    · rw [if_neg h2, if_neg (by omega)]
end PB

namespace PB
open PySem PySem.Spec PyProof.Rows L2
/-! ### tables, plainly -/
theorem tabI_atP {f : Nat → Int} {e : Nat} {i : Int} (h0 : 0 ≤ i) (h1 : i < e) : atI (tabI f e) i = some (f i.toNat) := by
  refine atI_get (n := i.toNat) ?_ (by omega)
  rw [tabI_get, if_pos (by omega)]
theorem atI_lastP {α : Type} {xs : List α} {x : α} : atI (xs ++ [x]) (-1) = some x := atI_last xs x
theorem tabI_lastP (f : Nat → Int) (e : Nat) : atI (tabI f (e + 1)) (-1) = some (f e) := by
  rw [← tabI_succ]
  exact atI_lastP
/-- a table of anything -/
def tabA {α : Type} (f : Nat → α) (e : Nat) : List α := (List.range e).map f
section
variable {α : Type}
theorem tabA_succ (f : Nat → α) (e : Nat) : tabA f e ++ [f e] = tabA f (e + 1) := by
  unfold tabA
  rw [List.range_succ, List.map_append]
  rfl
theorem tabA_len (f : Nat → α) (e : Nat) : (tabA f e).length = e := by
  unfold tabA
  rw [List.length_map, List.length_range]
theorem tabA_get (f : Nat → α) (e k : Nat) : (tabA f e)[k]? = if k < e then some (f k) else none := by
  unfold tabA
  rw [List.getElem?_map]
  by_cases h : k < e
  · rw [if_pos h, List.getElem?_range h]
    rfl
  · rw [if_neg h, List.getElem?_eq_none (by rw [List.length_range]; omega)]
    rfl
theorem tabA_at {f : Nat → α} {e : Nat} {i : Int} (h0 : 0 ≤ i) (h1 : i < e) : atI (tabA f e) i = some (f i.toNat) := by
  refine atI_get (n := i.toNat) ?_ (by omega)
  rw [tabA_get, if_pos (by omega)]
theorem tabA_last (f : Nat → α) (e : Nat) : atI (tabA f (e + 1)) (-1) = some (f e) := by
  rw [← tabA_succ]
  exact atI_lastP
theorem tabA_congr {f g : Nat → α} {e : Nat} (h : ∀ j, j < e → f j = g j) : tabA f e = tabA g e := by
  unfold tabA
  exact List.map_congr_left fun j hj => h j (List.mem_range.mp hj)
theorem tabA_const (c : α) (e : Nat) : List.replicate e c = tabA (fun _ => c) e := by
  refine List.ext_getElem? fun k => ?_
  rw [tabA_get, List.getElem?_replicate]
theorem tabA_set {f : Nat → α} {e i : Nat} {v : α} (h : i < e) : (tabA f e).set i v = tabA (fun j => if j = i then v else f j) e := by
  refine List.ext_getElem? fun k => ?_
  rw [tabA_get, List.getElem?_set, tabA_len, tabA_get]
  by_cases hk : i = k
  · subst hk
    rw [if_pos rfl, if_pos h, if_pos h, if_pos rfl]
  · rw [if_neg hk]
    split
    · rw [if_neg (fun e => hk e.symm)]
    · rfl
theorem tabA_map {β : Type} (f : Nat → α) (g : α → β) (e : Nat) : (tabA f e).map g = tabA (fun i => g (f i)) e := by
  unfold tabA
  rw [List.map_map]
  rfl
end
theorem tabI_A (f : Nat → Int) (e : Nat) : tabI f e = tabA f e := rfl
/-! ### ranges, sums -/
theorem rangeF_tab : ∀ (n : Nat) (lo : Int), rangeF lo n = tabA (fun i => lo + (i : Nat)) n := fun n lo => by
  refine List.ext_getElem? fun k => ?_
  rw [tabA_get]
  by_cases h : k < n
  · rw [rangeF_at h, if_pos h]
  · rw [if_neg h, List.getElem?_eq_none (by rw [rangeF_len]; omega)]
theorem rangeF_snoc (n : Nat) (lo : Int) : rangeF lo (n + 1) = rangeF lo n ++ [lo + (n : Nat)] := by
  rw [rangeF_tab, rangeF_tab, tabA_succ]
theorem sum_rangeF (g : Int → Int) (lo : Int) : ∀ n, ((rangeF lo n).map g).sum = sumN (fun i => g (lo + (i : Nat))) n
  | 0 => rfl
  | n + 1 => by
    rw [rangeF_snoc, List.map_append, List.sum_append, sum_rangeF g lo n]
    simp [sumN]
theorem sum_filterF (p : Int → Bool) (g : Int → Int) (lo : Int) : ∀ n, (((rangeF lo n).filter p).map g).sum = sumN (fun i => if p (lo + (i : Nat)) = true then g (lo + (i : Nat)) else 0) n
  | 0 => rfl
  | n + 1 => by
    rw [rangeF_snoc, List.filter_append, List.map_append, List.sum_append, sum_filterF p g lo n, sumN]
    by_cases h : p (lo + (n : Nat)) = true
    · simp [List.filter, h]
    · simp [List.filter, h]
theorem sumN_shift {f : Nat → Int} {c : Nat} (h : ∀ i, i < c → f i = 0) : ∀ m, sumN f (c + m) = sumN (fun i => f (c + i)) m
  | 0 => sumN_zero h
  | m + 1 => by
    rw [← Nat.add_assoc, sumN, sumN_shift h m, sumN]
theorem sumN_ext {f g : Nat → Int} {n m : Nat} (e : n = m) (h : ∀ i, i < m → f i = g i) : sumN f n = sumN g m := by
  subst e
  exact sumN_congr h
end PB

namespace PB
open PySem PySem.Spec PyProof.Rows L2
/-! ### data that can be told as texts -/
structure DOK (d : PyData) (dep w : Nat) : Prop where
  sh : d.showable = true
  nd : d.hasDict = false
  de : d.depth ≤ dep
  le : d.leavesShort 201 = true
  wt : d.weight ≤ w
theorem DOK.int {i : Int} (h : i.natAbs < 2 ^ 200) : DOK (.int i) 0 200 := by
  have h3 : i.natAbs.log2 < 200 := PySem.Flt.log2_lt_of (by decide) h
  have h1 : (toString i).length ≤ 200 + 1 := int_text_length_le (by decide) h3
  refine ⟨?_, by simp [PyData.hasDict], by simp [PyData.depth], ?_, ?_⟩
  · rw [PyData.showable, decide_eq_true_eq]
    omega
  · rw [PyData.leavesShort, decide_eq_true_eq]
    show (Str.ofString (toString i)).length ≤ 201
    rw [PySem.ofString_length]
    exact h1
  · rw [PyData.weight]
    split <;> omega
theorem DOK.none : DOK .none 0 0 := ⟨by simp [PyData.showable], by simp [PyData.hasDict], by simp [PyData.depth], by simp [PyData.leavesShort], by simp [PyData.weight]⟩
theorem DOK.bool (b : Bool) : DOK (.bool b) 0 0 := ⟨by simp [PyData.showable], by simp [PyData.hasDict], by simp [PyData.depth], by simp [PyData.leavesShort], by simp [PyData.weight]⟩
theorem DOK.mono {d : PyData} {p q w u : Nat} (h : DOK d p w) (h1 : p ≤ q) (h2 : w ≤ u) : DOK d q u := ⟨h.sh, h.nd, Nat.le_trans h.de h1, h.le, Nat.le_trans h.wt h2⟩
theorem dok_all {dep w : Nat} : ∀ {ds : List PyData}, (∀ d ∈ ds, DOK d dep w) → PyData.showableAll ds = true ∧ PyData.hasDictAll ds = false ∧ PyData.depthAll ds ≤ dep ∧ PyData.leavesShortAll 201 ds = true ∧ PyData.weightAll ds ≤ ds.length * (w + 1)
  | [], _ => ⟨by simp [PyData.showableAll], by simp [PyData.hasDictAll], by simp [PyData.depthAll], by simp [PyData.leavesShortAll], by simp [PyData.weightAll]⟩
  | d :: ds, h => by
    obtain ⟨h1, h2, h3, h4, h5⟩ := dok_all fun x hx => h x (List.mem_cons_of_mem _ hx)
    have hd := h d List.mem_cons_self
    refine ⟨by rw [PyData.showableAll, hd.sh, h1]; rfl, by rw [PyData.hasDictAll, hd.nd, h2]; rfl, by rw [PyData.depthAll]; have := hd.de; omega, by rw [PyData.leavesShortAll, hd.le, h4]; rfl, ?_⟩
    rw [PyData.weightAll, List.length_cons, Nat.add_mul]
    have := hd.wt
    omega
theorem DOK.list {dep w n : Nat} {ds : List PyData} (h : ∀ d ∈ ds, DOK d dep w) (hl : ds.length ≤ n) : DOK (.list ds) (dep + 1) (n * (w + 1)) := by
  obtain ⟨h1, h2, h3, h4, h5⟩ := dok_all h
  exact ⟨by rw [PyData.showable]; exact h1, by rw [PyData.hasDict]; exact h2, by rw [PyData.depth]; omega, by rw [PyData.leavesShort]; exact h4, by rw [PyData.weight]; exact Nat.le_trans h5 (Nat.mul_le_mul_right _ hl)⟩
theorem DOK.tup {dep w n : Nat} {ds : List PyData} (h : ∀ d ∈ ds, DOK d dep w) (hl : ds.length ≤ n) : DOK (.tuple ds) (dep + 1) (n * (w + 1)) := by
  obtain ⟨h1, h2, h3, h4, h5⟩ := dok_all h
  exact ⟨by rw [PyData.showable]; exact h1, by rw [PyData.hasDict]; exact h2, by rw [PyData.depth]; omega, by rw [PyData.leavesShort]; exact h4, by rw [PyData.weight]; exact Nat.le_trans h5 (Nat.mul_le_mul_right _ hl)⟩
theorem DOK.ints {ns : List Int} {n : Nat} (h : ∀ x ∈ ns, x.natAbs < 2 ^ 200) (hl : ns.length ≤ n) : DOK (RpD.d ns) 1 (n * 201) :=
  DOK.list (fun d hd => by obtain ⟨x, hx, rfl⟩ := List.mem_map.mp hd; exact DOK.int (h x hx)) (by rw [List.length_map]; exact hl)
theorem DOK.pair {α β : Type} [Rp α] [Rp β] [RpD α] [RpD β] {x : α} {y : β} {dep w : Nat} (h : DOK (RpD.d x) dep w) (h' : DOK (RpD.d y) dep w) : DOK (RpD.d (x, y)) (dep + 1) (2 * (w + 1)) :=
  DOK.tup (ds := [RpD.d x, RpD.d y]) (fun d hd => by simp at hd; rcases hd with rfl | rfl; exact h; exact h') (Nat.le_refl _)
theorem DOK.tri {α β γ : Type} [Rp α] [Rp β] [Rp γ] [RpD α] [RpD β] [RpD γ] {x : T3 α β γ} {dep w : Nat} (h : DOK (RpD.d x.a) dep w) (h' : DOK (RpD.d x.b) dep w) (h'' : DOK (RpD.d x.c) dep w) : DOK (RpD.d x) (dep + 1) (3 * (w + 1)) :=
  DOK.tup (ds := [RpD.d x.a, RpD.d x.b, RpD.d x.c]) (fun d hd => by simp at hd; rcases hd with rfl | rfl | rfl; exact h; exact h'; exact h'') (Nat.le_refl _)
theorem reprO_d {α : Type} [Rp α] [RpD α] {x : α} {dep w : Nat} (h : DOK (RpD.d x) dep w) (h1 : dep ≤ 60) (h2 : w ≤ 80000) : reprO x = some (RpD.d x).shown := by
  have h3 := PyData.shown_le 201 (by decide) (RpD.d x) h.le
  have := h.wt
  refine if_pos ⟨h.sh, h.nd, Nat.le_trans h.de h1, ?_⟩
  have h4 : (201 + 2) * (RpD.d x).weight ≤ 203 * 80000 := Nat.mul_le_mul_left _ (Nat.le_trans this h2)
  rw [sizeLine_eq]
  omega
/-! ### likeness -/
class RpE (α : Type) [Rp α] [RpD α] [DecidableEq α] where
  k : Nat
  hk : k ≤ 20
  eqv : ∀ x y : α, PyData.eqv (RpD.d x) (RpD.d y) = decide (x = y)
  lay : ∀ x : α, (RpD.d x).canLay0 = true
  dep : ∀ x : α, (RpD.d x).depth ≤ k
class RpNN (α : Type) [Rp α] [RpD α] : Prop where
  l : ∀ x : α, PyData.eqv .none (RpD.d x) = false
  r : ∀ x : α, PyData.eqv (RpD.d x) .none = false
instance : RpNN Int := ⟨fun x => by simp [RpD.d, PyData.eqv], fun x => by simp [RpD.d, PyData.eqv]⟩
instance : RpNN Bool := ⟨fun x => by simp [RpD.d, PyData.eqv], fun x => by simp [RpD.d, PyData.eqv]⟩
section
variable {α β γ : Type} [Rp α] [Rp β] [Rp γ] [RpD α] [RpD β] [RpD γ] [DecidableEq α] [DecidableEq β] [DecidableEq γ]
instance : RpNN (List α) := ⟨fun x => by simp [RpD.d, PyData.eqv], fun x => by simp [RpD.d, PyData.eqv]⟩
instance : RpNN (α × β) := ⟨fun x => by simp [RpD.d, PyData.eqv], fun x => by simp [RpD.d, PyData.eqv]⟩
instance : RpNN (T3 α β γ) := ⟨fun x => by simp [RpD.d, PyData.eqv], fun x => by simp [RpD.d, PyData.eqv]⟩
instance : RpE Int := ⟨0, by decide, fun x y => by simp [RpD.d, PyData.eqv]; rfl, fun x => by simp [RpD.d, PyData.canLay0], fun x => by simp [RpD.d, PyData.depth]⟩
instance : RpE Bool := ⟨0, by decide, fun x y => by cases x <;> cases y <;> simp [RpD.d, PyData.eqv], fun x => by simp [RpD.d, PyData.canLay0], fun x => by simp [RpD.d, PyData.depth]⟩
instance : RpE Unit := ⟨0, by decide, fun x y => by simp [RpD.d, PyData.eqv], fun x => by simp [RpD.d, PyData.canLay0], fun x => by simp [RpD.d, PyData.depth]⟩
instance [RpE α] [RpNN α] : RpE (Option α) := ⟨RpE.k α, RpE.hk, fun x y => by
    cases x with
    | none => cases y with
      | none => simp [RpD.d, PyData.eqv]
      | some y => exact (RpNN.l y).trans (by simp)
    | some x => cases y with
      | none => exact (RpNN.r x).trans (by simp)
      | some y => exact (RpE.eqv x y).trans (by simp), fun x => by
    cases x with
    | none => simp [RpD.d, PyData.canLay0]
    | some x => exact RpE.lay x, fun x => by
    cases x with
    | none => simp [RpD.d, PyData.depth]
    | some x => exact RpE.dep x⟩
theorem eqvAll_E [RpE α] : ∀ xs ys : List α, PyData.eqvAll (xs.map RpD.d) (ys.map RpD.d) = decide (xs = ys)
  | [], [] => by simp [PyData.eqvAll]
  | [], _ :: _ => by simp [PyData.eqvAll]
  | _ :: _, [] => by simp [PyData.eqvAll]
  | x :: xs, y :: ys => by
    rw [List.map_cons, List.map_cons, PyData.eqvAll, RpE.eqv, eqvAll_E xs ys]
    by_cases h : x = y <;> by_cases h2 : xs = ys <;> simp [h, h2]
theorem layAll_E [RpE α] : ∀ xs : List α, PyData.canLayAll0 (xs.map RpD.d) = true
  | [] => by simp [PyData.canLayAll0]
  | x :: xs => by rw [List.map_cons, PyData.canLayAll0, RpE.lay, layAll_E xs]; rfl
theorem depAll_E [RpE α] : ∀ xs : List α, PyData.depthAll (xs.map RpD.d) ≤ RpE.k α
  | [] => by simp [PyData.depthAll]
  | x :: xs => by
    rw [List.map_cons, PyData.depthAll]
    have := RpE.dep x
    have := depAll_E xs
    omega
class Low (α : Type) [Rp α] [RpD α] [DecidableEq α] [RpE α] : Prop where
  h : RpE.k α < 20
instance [RpE α] [Low α] : RpE (List α) := ⟨RpE.k α + 1, Low.h, fun xs ys => by
    show PyData.eqv (.list _) (.list _) = _
    rw [PyData.eqv, eqvAll_E], fun xs => by
    show PyData.canLay0 (.list _) = _
    rw [PyData.canLay0, layAll_E], fun xs => by
    show PyData.depth (.list _) ≤ _
    rw [PyData.depth]
    have := depAll_E xs
    omega⟩
instance [RpE α] [RpE β] [Low α] [Low β] : RpE (α × β) := ⟨max (RpE.k α) (RpE.k β) + 1, by have := Low.h (α := α); have := Low.h (α := β); omega, fun x y => by
    show PyData.eqv (.tuple _) (.tuple _) = _
    rw [PyData.eqv]
    simp only [PyData.eqvAll, RpE.eqv]
    cases x; cases y
    simp [Prod.ext_iff, Bool.decide_and], fun x => by
    show PyData.canLay0 (.tuple _) = _
    rw [PyData.canLay0]
    simp only [PyData.canLayAll0, RpE.lay, Bool.and_self], fun x => by
    show PyData.depth (.tuple _) ≤ _
    rw [PyData.depth]
    simp only [PyData.depthAll]
    have := RpE.dep x.1
    have := RpE.dep x.2
    omega⟩
end
instance : Low Int := ⟨by decide⟩
instance : Low Bool := ⟨by decide⟩
instance : Low (Option Int) := ⟨by decide⟩
instance : Low (List Int) := ⟨by decide⟩
instance : Low (List (List Int)) := ⟨by decide⟩
instance : Low (List (Option Int)) := ⟨by decide⟩
instance : Low (Option (List Int)) := ⟨by decide⟩
theorem eqO_E {α : Type} [Rp α] [RpD α] [DecidableEq α] [RpE α] (x y : α) : eqO x y = some (decide (x = y)) := by
  have hs : ∀ z : α, SeqAt.shaped (RpD.d z) = true := fun z => by
    unfold SeqAt.shaped
    rw [RpE.lay, Bool.true_and, decide_eq_true_eq]
    have := RpE.dep z
    have := RpE.hk (α := α)
    omega
  rw [eqO, if_pos ⟨hs x, hs y⟩, RpE.eqv]
/-- a value beside one that may be none -/
theorem eqO_so {α β : Type} [Rp α] [RpD α] [Rp β] [RpD β] (x : α) (y : β) : eqO (some x) y = eqO x y := rfl
theorem eqO_os {α β : Type} [Rp α] [RpD α] [Rp β] [RpD β] (x : α) (y : β) : eqO x (some y) = eqO x y := rfl
end PB

namespace PB
open PySem PySem.Spec PyProof.Rows L2
/-! ### ways of k pieces from one place to another -/
def path (R : Nat → Nat → Prop) : Nat → Nat → Nat → Prop
  | 0, p, q => p = q
  | k + 1, p, q => ∃ e, p < e ∧ e ≤ q ∧ R p e ∧ path R k e q
section
variable {R R' : Nat → Nat → Prop} {k p q n : Nat}
theorem path_le : ∀ {k p : Nat}, path R k p q → p + k ≤ q
  | 0, p, h => by
    have : p = q := h
    omega
  | k + 1, p, ⟨e, h1, _, _, h4⟩ => by
    have := path_le h4
    omega
theorem path_mono (hR : ∀ x y, p ≤ x → x < y → y ≤ q → R x y → R' x y) : ∀ {k : Nat} {p' : Nat}, p ≤ p' → path R k p' q → path R' k p' q
  | 0, _, _, h => h
  | k + 1, p', hp, ⟨e, h1, h2, h3, h4⟩ => ⟨e, h1, h2, hR _ _ hp h1 h2 h3, path_mono hR (by omega) h4⟩
theorem path_snoc : ∀ {k p : Nat}, path R (k + 1) p q ↔ ∃ m, path R k p m ∧ m < q ∧ R m q
  | 0, p => by
    constructor
    · rintro ⟨e, h1, h2, h3, h4⟩
      have h4 : e = q := h4
      subst h4
      exact ⟨p, rfl, h1, h3⟩
    · rintro ⟨m, h1, h2, h3⟩
      have h1 : p = m := h1
      subst h1
      exact ⟨q, h2, Nat.le_refl _, h3, rfl⟩
  | k + 1, p => by
    constructor
    · rintro ⟨e, h1, h2, h3, h4⟩
      obtain ⟨m, h5, h6, h7⟩ := path_snoc.mp h4
      have := path_le h5
      exact ⟨m, ⟨e, h1, by omega, h3, h5⟩, h6, h7⟩
    · rintro ⟨m, ⟨e, h1, h2, h3, h4⟩, h6, h7⟩
      exact ⟨e, h1, by omega, h3, path_snoc.mpr ⟨m, h4, h6, h7⟩⟩
theorem path_one : path R 1 p q ↔ p < q ∧ R p q := by
  rw [path_snoc]
  constructor
  · rintro ⟨m, h1, h2, h3⟩
    have h1 : p = m := h1
    subst h1
    exact ⟨h2, h3⟩
  · rintro ⟨h1, h2⟩
    exact ⟨p, rfl, h1, h2⟩
theorem path_shift (c : Nat) : ∀ {k p : Nat}, path (fun x y => R (c + x) (c + y)) k p q ↔ path R k (c + p) (c + q)
  | 0, p => by
    show p = q ↔ c + p = c + q
    omega
  | k + 1, p => by
    constructor
    · rintro ⟨e, h1, h2, h3, h4⟩
      exact ⟨c + e, by omega, by omega, h3, (path_shift c).mp h4⟩
    · rintro ⟨e, h1, h2, h3, h4⟩
      obtain ⟨e', rfl⟩ : ∃ e', e = c + e' := ⟨e - c, by omega⟩
      exact ⟨e', by omega, by omega, h3, (path_shift c).mpr h4⟩
/-- every number a piece -/
theorem path_all (h : ∀ i, p ≤ i → i < q → R i (i + 1)) : p ≤ q → path R (q - p) p q := by
  intro hpq
  obtain ⟨d, rfl⟩ : ∃ d, q = p + d := ⟨q - p, by omega⟩
  rw [show p + d - p = d by omega]
  induction d generalizing p with
  | zero => rfl
  | succ d ih => exact ⟨p + 1, by omega, by omega, h p (by omega) (by omega), by
      have := ih (p := p + 1) (fun i h1 h2 => h i (by omega) (by omega)) (by omega)
      rwa [show p + 1 + d = p + (d + 1) by omega] at this⟩
end
/-- sums of at most b; of at least b -/
def RLe (a : Nat → Int) (b : Int) (p e : Nat) : Prop := pre a e - pre a p ≤ b
def RGe (a : Nat → Int) (b : Int) (p e : Nat) : Prop := b ≤ pre a e - pre a p
section
variable {a : Nat → Int} {b : Int} {n : Nat} {k p q : Nat}
/-- one piece more -/
theorem path_split (hn : ∀ i, i < n → 0 ≤ a i) : ∀ {k p q : Nat}, path (RLe a b) k p q → k < q - p → q ≤ n → p < q → 1 ≤ k → path (RLe a b) (k + 1) p q
  | 0, _, _, _, _, _, _, hk => by omega
  | k + 1, p, q, ⟨e, h1, h2, h3, h4⟩, hk, hq, hpq, _ => by
    by_cases hke : k < q - e ∧ 1 ≤ k
    · exact ⟨e, h1, h2, h3, path_split hn h4 hke.1 hq (by omega) hke.2⟩
    · have hle := path_le h4
      have hep : p + 1 < e := by
        rcases Nat.eq_zero_or_pos k with rfl | hk0
        · have h4 : e = q := h4
          omega
        · omega
      have m1 := pre_mono hn (show p + 1 ≤ e by omega) (by omega)
      have m2 := pre_mono hn (show p ≤ p + 1 by omega) (by omega)
      exact ⟨p + 1, by omega, by omega, by unfold RLe at *; omega, e, by omega, h2, by unfold RLe at *; omega, h4⟩
theorem path_more (hn : ∀ i, i < n → 0 ≤ a i) (h : path (RLe a b) k p q) (hq : q ≤ n) (hk : 1 ≤ k) : ∀ {m : Nat}, k ≤ m → m ≤ q - p → path (RLe a b) m p q := by
  intro m hkm
  have hle := path_le h
  induction hkm with
  | refl => exact fun _ => h
  | @step m hm ih =>
    intro hm2
    have hk' : k ≤ m := hm
    exact path_split hn (ih (by omega)) (by omega) hq (by omega) (by omega)
/-- one piece fewer -/
theorem path_merge (hn : ∀ i, i < n → 0 ≤ a i) (hq : q ≤ n) : path (RGe a b) (k + 2) p q → path (RGe a b) (k + 1) p q := by
  rintro ⟨e, h1, h2, h3, f, h4, h5, h6, h7⟩
  have m1 := pre_mono hn (show p ≤ e by omega) (by omega)
  have m2 := pre_mono hn (show e ≤ f by omega) (by omega)
  have := path_le h7
  exact ⟨f, by omega, by omega, by unfold RGe at *; omega, h7⟩
theorem path_fewer (hn : ∀ i, i < n → 0 ≤ a i) (hq : q ≤ n) (h : path (RGe a b) k p q) : ∀ {m : Nat}, m ≤ k → 1 ≤ m → path (RGe a b) m p q := by
  induction k generalizing p with
  | zero => intro m h1 h2; omega
  | succ k ih =>
    intro m h1 h2
    rcases Nat.lt_or_ge k m with h3 | h3
    · have : m = k + 1 := by omega
      rw [this]
      exact h
    · cases k with
      | zero => omega
      | succ k => exact ih (path_merge hn hq h) h3 h2
/-- the fewest pieces, as counted -/
theorem few_path (hn : ∀ i, i < n → 0 ≤ a i) : ∀ e, e ≤ n → (∀ m, fewS a b e = some m → 0 ≤ m ∧ path (RLe a b) m.toNat 0 e) ∧ ∀ k, path (RLe a b) k 0 e → ∃ m : Int, fewS a b e = some m ∧ m ≤ k := by
  intro e
  induction e using Nat.strongRecOn with
  | _ e ih =>
    intro he
    cases e with
    | zero =>
      refine ⟨fun m hm => ?_, fun k hk => ⟨0, rfl, by omega⟩⟩
      cases (show some (0 : Int) = some m from hm)
      exact ⟨by decide, rfl⟩
    | succ e =>
      obtain ⟨f1, f2⟩ := fewS_next (b := b) hn he
      refine ⟨fun m hm => ?_, fun k hk => ?_⟩
      · obtain ⟨⟨j, k, hj, hjb, hk, rfl⟩, _⟩ := f1 m hm
        obtain ⟨g1, g2⟩ := (ih j hj (by omega)).1 k hk
        refine ⟨by omega, ?_⟩
        rw [show (k + 1).toNat = k.toNat + 1 by omega]
        exact path_snoc.mpr ⟨j, g2, hj, hjb⟩
      · cases k with
        | zero => cases (show 0 = e + 1 from hk)
        | succ k =>
          obtain ⟨m, h1, h2, h3⟩ := path_snoc.mp hk
          obtain ⟨c, hc, hck⟩ := (ih m h2 (by omega)).2 k h1
          cases hf : fewS a b (e + 1) with
          | none => exact (f2 hf m c h2 h3 hc).elim
          | some c' =>
            have := (f1 c' hf).2 m c h2 h3 hc
            exact ⟨c', rfl, by omega⟩
theorem few_iff (hn : ∀ i, i < n → 0 ≤ a i) (h1 : 1 ≤ k) (hk : k ≤ n) : path (RLe a b) k 0 n ↔ ∃ m : Int, fewS a b n = some m ∧ m ≤ k := by
  constructor
  · exact (few_path hn n (Nat.le_refl _)).2 k
  · rintro ⟨m, hm, hmk⟩
    obtain ⟨h0, h2⟩ := (few_path hn n (Nat.le_refl _)).1 m hm
    have : 1 ≤ m.toNat := by
      rcases Nat.eq_zero_or_pos m.toNat with h | h
      · rw [h] at h2
        have h2 : 0 = n := h2
        omega
      · omega
    exact path_more hn h2 (Nat.le_refl _) this (by omega) (by omega)
theorem RLe_sh (c : Nat) : (fun x y => RLe a b (c + x) (c + y)) = RLe (sh a c) b := by
  funext x y
  unfold RLe
  rw [pre_sh, pre_sh]
  apply propext
  constructor <;> intro h <;> omega
theorem RGe_sh (c : Nat) : (fun x y => RGe a b (c + x) (c + y)) = RGe (sh a c) b := by
  funext x y
  unfold RGe
  rw [pre_sh, pre_sh]
  apply propext
  constructor <;> intro h <;> omega
theorem few_iff_sh (hn : ∀ i, i < n → 0 ≤ a i) {c : Nat} (h1 : 1 ≤ k) (hk : c + k ≤ n) : path (RLe a b) k c n ↔ ∃ m : Int, fewS (sh a c) b (n - c) = some m ∧ m ≤ k := by
  rw [← few_iff (a := sh a c) (n := n - c) (fun i hi => hn _ (by omega)) h1 (by omega), ← RLe_sh, path_shift, Nat.add_zero, show c + (n - c) = n by omega]
theorem rowF_drop (ns : List Int) (c : Nat) : rowF (ns.drop c) = sh (rowF ns) c := by
  funext i
  show (ns.drop c)[i]! = ns[c + i]!
  rw [List.getElem!_eq_getElem?_getD, List.getElem!_eq_getElem?_getD, List.getElem?_drop]
/-! ### the first cut, as lists are ordered -/
/-- the first way of k pieces from p to n, by where its pieces after the first begin -/
def First (R : Nat → Nat → Prop) (n : Nat) : Nat → Nat → List Int → Prop
  | 0, _, _ => False
  | 1, _, c => c = []
  | k + 2, p, c => ∃ (e : Nat) (c' : List Int), c = (e : Int) :: c' ∧ p < e ∧ e ≤ n ∧ R p e ∧ path R (k + 1) e n ∧ (∀ e', p < e' → e' < e → ¬ (R p e' ∧ path R (k + 1) e' n)) ∧ First R n (k + 1) e c'
theorem First.uniq {R : Nat → Nat → Prop} : ∀ {k p : Nat} {c d : List Int}, First R n k p c → First R n k p d → c = d
  | 0, _, _, _, h, _ => h.elim
  | 1, _, c, d, h, h2 => by rw [show c = [] from h, show d = [] from h2]
  | k + 2, p, c, d, hc, hd => by
    obtain ⟨e, c', rfl, h1, h2, h3, h4, h5, h6⟩ := hc
    obtain ⟨f, d', rfl, g1, g2, g3, g4, g5, g6⟩ := hd
    have : e = f := by
      rcases Nat.lt_trichotomy e f with h | h | h
      · exact (g5 e h1 h ⟨h3, h4⟩).elim
      · exact h
      · exact (h5 f g1 h ⟨g3, g4⟩).elim
    subst this
    rw [First.uniq h6 g6]
theorem First.mem {R : Nat → Nat → Prop} : ∀ {k p : Nat} {c : List Int}, First R n k p c → c.length + 1 = k ∧ ∀ x ∈ c, (p : Int) < x ∧ x ≤ n
  | 0, _, _, h => h.elim
  | 1, _, c, h => by
    rw [show c = [] from h]
    exact ⟨rfl, fun _ h => nomatch h⟩
  | k + 2, p, c, hc => by
    obtain ⟨e, c', rfl, h1, h2, h3, h4, h5, h6⟩ := hc
    obtain ⟨g1, g2⟩ := First.mem h6
    refine ⟨by rw [List.length_cons, g1], fun x hx => ?_⟩
    rcases List.mem_cons.mp hx with rfl | hx
    · omega
    · have := g2 x hx
      omega
end
end PB

namespace PB
open PySem PySem.Spec PyProof.Rows L2
/-! ### a cut of the stretch from p to n, its pieces such that R -/
def Ct (R : Nat → Nat → Prop) (n : Nat) : Nat → List Int → Prop
  | p, [] => p < n ∧ R p n
  | p, x :: c => ∃ e : Nat, x = (e : Int) ∧ p < e ∧ e < n ∧ R p e ∧ Ct R n e c
def Any (_ _ : Nat) : Prop := True
def sumsC (a : Nat → Int) (n : Nat) : Nat → List Int → List Int
  | p, [] => [pre a n - pre a p]
  | p, x :: c => (pre a x.toNat - pre a p) :: sumsC a n x.toNat c
section
variable {R R' : Nat → Nat → Prop} {n k : Nat} {a : Nat → Int} {b : Int}
theorem Ct.lt : ∀ {c : List Int} {p : Nat}, Ct R n p c → p < n
  | [], _, h => h.1
  | _ :: _, _, h => by
    obtain ⟨e, rfl, h1, h2, _⟩ := h
    omega
theorem Ct.mono (h : ∀ x y, x < y → y ≤ n → R x y → R' x y) : ∀ {c : List Int} {p : Nat}, Ct R n p c → Ct R' n p c
  | [], p, ⟨h1, h2⟩ => ⟨h1, h _ _ h1 (Nat.le_refl _) h2⟩
  | x :: c, p, hc => by
    obtain ⟨e, rfl, h1, h2, h3, h4⟩ := hc
    exact ⟨e, rfl, h1, h2, h _ _ h1 (by omega) h3, Ct.mono h h4⟩
theorem Ct.any {c : List Int} {p : Nat} (h : Ct R n p c) : Ct Any n p c := h.mono fun _ _ _ _ _ => trivial
theorem Ct.path : ∀ {c : List Int} {p : Nat}, Ct R n p c → path R (c.length + 1) p n
  | [], p, ⟨h1, h2⟩ => path_one.mpr ⟨h1, h2⟩
  | x :: c, p, hc => by
    obtain ⟨e, rfl, h1, h2, h3, h4⟩ := hc
    exact ⟨e, h1, by omega, h3, h4.path⟩
theorem Ct.of_path : ∀ {k p : Nat}, PB.path R (k + 1) p n → ∃ c : List Int, c.length = k ∧ Ct R n p c
  | 0, p, h => ⟨[], rfl, path_one.mp h⟩
  | k + 1, p, ⟨e, h1, h2, h3, h4⟩ => by
    obtain ⟨c, h5, h6⟩ := Ct.of_path h4
    exact ⟨(e : Int) :: c, by rw [List.length_cons, h5], e, rfl, h1, h6.lt, h3, h6⟩
theorem Ct.of_first : ∀ {k p : Nat} {c : List Int}, First R n k p c → PB.path R k p n → Ct R n p c
  | 0, _, _, h, _ => h.elim
  | 1, p, c, h, hp => by
    rw [show c = [] from h]
    exact path_one.mp hp
  | k + 2, p, c, h, _ => by
    obtain ⟨e, c', rfl, h1, h2, h3, h4, h5, h6⟩ := h
    have hl := path_le h4
    exact ⟨e, rfl, h1, by omega, h3, Ct.of_first h6 h4⟩
theorem Ct.mem : ∀ {c : List Int} {p : Nat}, Ct R n p c → ∀ x ∈ c, (p : Int) < x ∧ x < n
  | [], _, _ => fun _ h => nomatch h
  | x :: c, p, hc => by
    obtain ⟨e, rfl, h1, h2, h3, h4⟩ := hc
    intro y hy
    rcases List.mem_cons.mp hy with rfl | hy
    · omega
    · have := h4.mem y hy
      omega
theorem Ct.len {c : List Int} {p : Nat} (h : Ct R n p c) : p + c.length + 1 ≤ n := by
  have := path_le h.path
  omega
theorem sumsC_len : ∀ (c : List Int) (p : Nat), (sumsC a n p c).length = c.length + 1
  | [], _ => rfl
  | x :: c, p => congrArg (· + 1) (sumsC_len c x.toNat)
theorem sumsC_sum : ∀ (c : List Int) (p : Nat), (sumsC a n p c).sum = pre a n - pre a p
  | [], p => by simp [sumsC]
  | x :: c, p => by
    rw [sumsC, List.sum_cons, sumsC_sum c x.toNat]
    omega
/-- by the sums -/
theorem Ct.sums {P : Int → Prop} : ∀ {c : List Int} {p : Nat}, Ct (fun p e => P (pre a e - pre a p)) n p c ↔ Ct Any n p c ∧ ∀ s ∈ sumsC a n p c, P s
  | [], p => by
    constructor
    · rintro ⟨h1, h2⟩
      exact ⟨⟨h1, trivial⟩, fun s hs => by rw [List.mem_singleton.mp hs]; exact h2⟩
    · rintro ⟨⟨h1, _⟩, h2⟩
      exact ⟨h1, h2 _ (List.mem_singleton.mpr rfl)⟩
  | x :: c, p => by
    constructor
    · rintro ⟨e, rfl, h1, h2, h3, h4⟩
      obtain ⟨g1, g2⟩ := (Ct.sums (c := c) (p := e)).mp h4
      refine ⟨⟨e, rfl, h1, h2, trivial, g1⟩, fun s hs => ?_⟩
      rw [sumsC, Int.toNat_natCast] at hs
      rcases List.mem_cons.mp hs with rfl | hs
      · exact h3
      · exact g2 s hs
    · rintro ⟨⟨e, rfl, h1, h2, _, h4⟩, h5⟩
      rw [sumsC, Int.toNat_natCast] at h5
      exact ⟨e, rfl, h1, h2, h5 _ List.mem_cons_self, (Ct.sums (c := c) (p := e)).mpr ⟨h4, fun s hs => h5 s (List.mem_cons_of_mem _ hs)⟩⟩
theorem Ct.snoc : ∀ {c : List Int} {p m : Nat}, Ct R m p c → m < n → R m n → Ct R n p (c ++ [(m : Int)])
  | [], p, m, ⟨h1, h2⟩, hm, hR => ⟨m, rfl, h1, hm, h2, hm, hR⟩
  | x :: c, p, m, hc, hm, hR => by
    obtain ⟨e, rfl, h1, h2, h3, h4⟩ := hc
    exact ⟨e, rfl, h1, by omega, h3, h4.snoc hm hR⟩
theorem Ct.stretch (h : ∀ x, x < n → R x n → R x (n + 1)) : ∀ {c : List Int} {p : Nat}, Ct R n p c → Ct R (n + 1) p c
  | [], p, ⟨h1, h2⟩ => ⟨by omega, h p h1 h2⟩
  | x :: c, p, hc => by
    obtain ⟨e, rfl, h1, h2, h3, h4⟩ := hc
    exact ⟨e, rfl, h1, by omega, h3, h4.stretch h⟩
/-- the last piece begins at -/
def lastC : Nat → List Int → Nat
  | p, [] => p
  | _, x :: c => lastC x.toNat c
theorem lastC_snoc : ∀ (c : List Int) (p m : Nat), lastC p (c ++ [(m : Int)]) = m
  | [], _, m => by simp [lastC]
  | x :: c, p, m => lastC_snoc c x.toNat m
theorem Ct.last_to (m : Nat) (hm : n ≤ m) : ∀ {c : List Int} {p : Nat}, Ct R n p c → R (lastC p c) m → Ct R m p c
  | [], p, h, h2 => ⟨by have := h.1; omega, h2⟩
  | x :: c, p, hc, h2 => by
    obtain ⟨e, rfl, h1, h3, h4, h5⟩ := hc
    exact ⟨e, rfl, h1, by omega, h4, h5.last_to m hm (by rw [lastC, Int.toNat_natCast] at h2; exact h2)⟩
/-- the long cut is one, its pieces within the bound -/
theorem gS_ct (hn : ∀ i, 0 ≤ a i ∨ True) : ∀ {i : Nat} {c : List Int} {t : Int}, gS a b i = some (c, t) → 0 < i → Ct (RLe a b) i 0 c ∧ t = pre a i - pre a (lastC 0 c) ∧ t ≤ b
  | 0, _, _, _, h => by omega
  | i + 1, c, t, h, _ => by
    rw [gS] at h
    cases e : gS a b i with
    | none => rw [e] at h; cases h
    | some p =>
      obtain ⟨c1, t1⟩ := p
      rw [e] at h
      dsimp only at h
      by_cases h1 : a i > b
      · rw [if_pos h1] at h; cases h
      · rw [if_neg h1] at h
        have hs : pre a (i + 1) = pre a i + a i := rfl
        rcases Nat.eq_zero_or_pos i with rfl | hi
        · have e1 : c1 = [] ∧ t1 = 0 := by
            have e : some (([] : List Int), (0 : Int)) = some (c1, t1) := e
            cases e
            exact ⟨rfl, rfl⟩
          obtain ⟨rfl, rfl⟩ := e1
          rw [if_neg (by omega)] at h
          cases h
          refine ⟨⟨by omega, ?_⟩, ?_, by omega⟩
          · unfold RLe
            omega
          · show 0 + a 0 = pre a (0 + 1) - pre a 0
            omega
        · obtain ⟨g1, g2, g3⟩ := gS_ct hn e hi
          by_cases h2 : t1 + a i > b
          · rw [if_pos h2] at h
            cases h
            refine ⟨g1.snoc (by omega) (by unfold RLe; omega), ?_, by omega⟩
            rw [lastC_snoc]
            omega
          · rw [if_neg h2] at h
            cases h
            refine ⟨g1.last_to (i + 1) (by omega) (by unfold RLe; omega), by omega, by omega⟩
end
/-! ### the other way about -/
theorem path_rev {R : Nat → Nat → Prop} {n : Nat} : ∀ {k p q : Nat}, q ≤ n → p ≤ q → (path R k p q ↔ path (fun x y => R (n - y) (n - x)) k (n - q) (n - p))
  | 0, p, q, hq, hp => by
    show p = q ↔ n - q = n - p
    omega
  | k + 1, p, q, hq, hp => by
    rw [path_snoc (R := R)]
    constructor
    · rintro ⟨m, h1, h2, h3⟩
      have := path_le h1
      exact ⟨n - m, by omega, by omega, by show R (n - (n - m)) (n - (n - q)); rw [show n - (n - m) = m by omega, show n - (n - q) = q by omega]; exact h3, (path_rev (by omega) (by omega)).mp h1⟩
    · rintro ⟨e, h1, h2, h3, h4⟩
      obtain ⟨m, rfl⟩ : ∃ m, e = n - m := ⟨n - e, by omega⟩
      by_cases hm : m ≤ n
      · have h3 : R (n - (n - m)) (n - (n - q)) := h3
        rw [show n - (n - m) = m by omega, show n - (n - q) = q by omega] at h3
        refine ⟨m, (path_rev (by omega) (by omega)).mpr h4, by omega, h3⟩
      · omega
theorem rowF_rev {ns : List Int} {i : Nat} (h : i < ns.length) : rowF ns.reverse i = rowF ns (ns.length - 1 - i) := by
  show ns.reverse[i]! = ns[ns.length - 1 - i]!
  rw [List.getElem!_eq_getElem?_getD, List.getElem!_eq_getElem?_getD, List.getElem?_reverse h]
theorem pre_rev (ns : List Int) : ∀ i, i ≤ ns.length → pre (rowF ns.reverse) i = pre (rowF ns) ns.length - pre (rowF ns) (ns.length - i)
  | 0, _ => by
    rw [Nat.sub_zero]
    show (0 : Int) = _
    omega
  | i + 1, h => by
    have e : pre (rowF ns) (ns.length - i) = pre (rowF ns) (ns.length - (i + 1)) + rowF ns (ns.length - (i + 1)) := by
      rw [show ns.length - i = (ns.length - (i + 1)) + 1 by omega]
      rfl
    rw [pre, pre_rev ns i (by omega), rowF_rev (by omega), show ns.length - 1 - i = ns.length - (i + 1) by omega, e]
    omega
theorem path_back {ns : List Int} {b : Int} {k : Nat} {P : Int → Prop} : path (fun p e => P (pre (rowF ns.reverse) e - pre (rowF ns.reverse) p)) k 0 ns.length ↔ path (fun p e => P (pre (rowF ns) e - pre (rowF ns) p)) k 0 ns.length := by
  rw [path_rev (R := fun p e => P (pre (rowF ns) e - pre (rowF ns) p)) (n := ns.length) (Nat.le_refl _) (Nat.zero_le _), Nat.sub_self, Nat.sub_zero]
  have key : ∀ x y, x < y → y ≤ ns.length → (pre (rowF ns.reverse) y - pre (rowF ns.reverse) x = pre (rowF ns) (ns.length - x) - pre (rowF ns) (ns.length - y)) := fun x y h1 h2 => by
    rw [pre_rev ns y h2, pre_rev ns x (by omega)]
    omega
  constructor
  · exact path_mono (fun x y _ h1 h2 r => by rw [← key x y h1 h2]; exact r) (Nat.le_refl _)
  · exact path_mono (fun x y _ h1 h2 r => by rw [key x y h1 h2]; exact r) (Nat.le_refl _)
/-! ### parts of a way -/
section
variable {R : Nat → Nat → Prop} {n : Nat}
/-- R goes down to parts -/
def Down (R : Nat → Nat → Prop) (n : Nat) : Prop := ∀ p x y q, p ≤ x → x < y → y ≤ q → q ≤ n → R p q → R x y
theorem RLe_down {a : Nat → Int} {b : Int} (hn : ∀ i, i < n → 0 ≤ a i) : Down (RLe a b) n := fun p x y q h1 h2 h3 h4 r => by
  have m1 := pre_mono hn h1 (by omega)
  have m2 := pre_mono hn h3 h4
  unfold RLe at *
  omega
theorem path_pref (hR : Down R n) : ∀ {k p q m : Nat}, path R k p q → q ≤ n → p < m → m ≤ q → ∃ j, 1 ≤ j ∧ j ≤ k ∧ path R j p m
  | 0, p, q, m, h, _, h1, h2 => by
    have h : p = q := h
    omega
  | k + 1, p, q, m, ⟨e, g1, g2, g3, g4⟩, hq, h1, h2 => by
    rcases Nat.lt_or_ge e m with h | h
    · obtain ⟨j, j1, j2, j3⟩ := path_pref hR g4 hq h h2
      exact ⟨j + 1, by omega, by omega, e, g1, by omega, g3, j3⟩
    · exact ⟨1, Nat.le_refl _, by omega, path_one.mpr ⟨h1, hR p p m e (Nat.le_refl _) h1 h (by omega) g3⟩⟩
theorem path_suff (hR : Down R n) : ∀ {k p q m : Nat}, path R k p q → q ≤ n → p ≤ m → m < q → ∃ j, 1 ≤ j ∧ j ≤ k ∧ path R j m q
  | 0, p, q, m, h, _, h1, h2 => by
    have h : p = q := h
    omega
  | k + 1, p, q, m, ⟨e, g1, g2, g3, g4⟩, hq, h1, h2 => by
    rcases Nat.lt_or_ge m e with h | h
    · refine ⟨k + 1, by omega, by omega, e, h, g2, hR p m e e h1 h (Nat.le_refl _) (by omega) g3, g4⟩
    · obtain ⟨j, j1, j2, j3⟩ := path_suff hR g4 hq h h2
      exact ⟨j, j1, by omega, j3⟩
end
/-- every number a piece: the one way -/
theorem First.all {R : Nat → Nat → Prop} {n : Nat} : ∀ (d p : Nat), p + d + 1 = n → path R (d + 1) p n → First R n (d + 1) p (rangeF ((p : Int) + 1) d)
  | 0, _, _, _ => rfl
  | d + 1, p, hd, ⟨e, h1, h2, h3, h4⟩ => by
    have := path_le h4
    have he : e = p + 1 := by omega
    subst he
    refine ⟨p + 1, _, rfl, by omega, by omega, h3, h4, fun e' g1 g2 => by omega, ?_⟩
    have := First.all d (p + 1) (by omega) h4
    rwa [show ((p + 1 : Nat) : Int) + 1 = (p : Int) + 1 + 1 by omega] at this
end PB
namespace PB
open PySem PySem.Spec PyProof.Rows L2
def m__law_cells (x_script : Scr) (x_many : Int) : Option (List (Int × Int)) :=
Option.bind (repO ([0] : List Int) (if (decide (x_script.l = ([] : List Int))) then 1 else 0)) fun x15 =>
Option.bind (catO (sliceI x_script.l none (some x_many)) x15) fun x21 =>
some (enumI 0 x21)

def m__law_hand (x_cell : Int) (x_k : Int) : Option (List Int) :=
Option.bind (if decide (x_cell ≥ 1000000000000000000) then (some x_cell) else (some 0) : Option (Int)) fun s1 =>
Option.bind (mulO 7919 x_k) fun x9 =>
Option.bind (mulO (((x_cell % 2147483587) + x9) + 1) 48271) fun x11 =>
some ([s1, (x11 % 2147483587)] : List Int)

def m__law_great (x_script : Scr) : Option Bool :=
some (decide ((((List.sum x_script.l) / 3) % 8) = 5))

def m__law_draw (x_hand : (List Int)) (x_limit : Int) : Option (Int × (List Int)) :=
Option.bind (atI x_hand 0) fun x1 =>
if decide (x1 > 0) then (Option.bind (atI x_hand 0) fun x4 =>
Option.bind (modO x4 x_limit) fun x6 =>
Option.bind (atI x_hand 0) fun x8 =>
Option.bind (fdivO x8 x_limit) fun x10 =>
Option.bind (setO x_hand 0 x10) fun x12 =>
some (x6, x12)) else
Option.bind (atI x_hand 1) fun x16 =>
Option.bind (atI x_hand 1) fun x18 =>
Option.bind (mulO x16 x18) fun x20 =>
Option.bind (atI x_hand 1) fun x22 =>
Option.bind (mulO 69621 x22) fun x24 =>
Option.bind (setO x_hand 1 (((x20 + x24) + 12345) % 2147483587)) fun x26 =>
Option.bind (atI x26 1) fun x30 =>
Option.bind (modO (x30 / 8) x_limit) fun x32 =>
some (x32, x26)

def m__law_row (x_hand : (List Int)) (x_long : Bool) : Option ((List Int) × (List Int)) :=
Option.bind (m__law_draw x_hand 2) fun r5 =>
Option.bind (atI ([4, 12] : List Int) r5.1) fun x14 =>
Option.bind (m__law_draw r5.2 x14) fun r16 =>
Option.bind (if x_long then (Option.bind (m__law_draw r16.2 108) fun r28 =>
Option.bind (m__law_draw r28.2 11) fun r37 =>
Option.bind (m__law_draw r37.2 2) fun r50 =>
Option.bind (atI ([(13 + r28.1), (110 + r37.1)] : List Int) r50.1) fun x59 =>
some (r50.2, x59)) else (some (r16.2, (1 + r16.1))) : Option ((List Int) × Int)) fun s25 =>
Option.bind (m__law_draw s25.1 5) fun r70 =>
Option.bind (atI ([1, 2, 9, 1000, 1000000000000] : List Int) r70.1) fun x79 =>
Option.bind (m__law_draw r70.2 6) fun r81 =>
Option.bind (range1 s25.2) fun x91 =>
Option.bind (mapSO (fun (x93 : Int) (b102 : List Int) => Option.bind (m__law_draw b102 (x79 + 1)) fun r103 => some (r103.1, r103.2)) x91 r81.2) fun x117 =>
if (decide (r81.1 = 0)) then (Option.bind (atI x117.1 0) fun x120 =>
Option.bind (repO ([x120] : List Int) s25.2) fun x126 =>
some (x126, x117.2)) else
if (decide (r81.1 = 1)) then (Option.bind (mapSO (fun (x133 : Int) (b142 : List Int) => Option.bind (m__law_draw b142 2) fun r143 => Option.bind (mulO x133 r143.1) fun x152 => some (x152, r143.2)) x117.1 x117.2) fun x159 =>
some (x159.1, x159.2)) else
if (decide (r81.1 = 2)) then (some ((sortI x117.1), x117.2)) else
Option.bind (if (decide (r81.1 = 3)) then (Option.bind (m__law_draw x117.2 9) fun r170 =>
Option.bind (m__law_draw r170.2 s25.2) fun r179 =>
Option.bind (setO x117.1 r179.1 (1000000000000 - r170.1)) fun x188 =>
some (r179.2, x188)) else (some (x117.2, x117.1)) : Option ((List Int) × (List Int))) fun s167 =>
some (s167.2, s167.1)

def m__law_cut (x_hand : (List Int)) (x_size : Int) : Option ((List Int) × (List Int)) :=
Option.bind (m__law_draw x_hand 3) fun r5 =>
Option.bind (atI ([1, 3, 5] : List Int) r5.1) fun x14 =>
Option.bind (range2 1 x_size) fun x17 =>
Option.bind (cmpSO (fun (x19 : Int) (b28 : List Int) => Option.bind (m__law_draw b28 6) fun r29 => if decide (r29.1 < x14) then some (some x19, r29.2) else some (none, r29.2)) x17 r5.2) fun x44 =>
some (x44.1, x44.2)

def m__law_due (x_row : (List Int)) (x_cut : (List Int)) : Option (List (List Int)) :=
Option.bind (foldO (fun (x11 : (Int × Int)) (b9 : DS) => Option.bind (if ((decide (x11.1 = 0)) || (decide (x11.1 ∈ x_cut))) then dueA b9 else some b9) fun s26 => dueN s26 x11.2) (enumI 0 x_row) none) fun o14 =>
some (dueL o14)

def m_pieces (x_row : (List Int)) (x_cut : (List Int)) : Option (List (List Int)) :=
Option.bind (catO ([0] : List Int) x_cut) fun x9 =>
Option.bind (catO x_cut ([(lenI x_row)] : List Int)) fun x19 =>
Option.bind (mapO (fun (x25 : (Int × Int)) => some (sliceI x_row (some x25.1) (some x25.2))) (List.zip x9 x19)) fun x47 =>
some x47

def m_sums_of (x_row : (List Int)) (x_cut : (List Int)) : Option (List Int) :=
Option.bind (m_pieces x_row x_cut) fun r5 =>
Option.bind (mapO (fun (x12 : (List Int)) => some (List.sum x12)) r5) fun x27 =>
some x27

def m__law_same (x_found : (List (Un Int (List Int)))) (x_due : (List (Un Int (List Int)))) : Option Bool :=
Option.bind (if (decide ((isiO (x_found : (List (Un Int (List Int)))) "list") = (isiO (x_due : (List (Un Int (List Int)))) "list"))) then Option.bind (reprO (x_found : (List (Un Int (List Int))))) fun x8 => Option.bind (reprO (x_due : (List (Un Int (List Int))))) fun x10 => some ((decide (x8 = x10))) else some false) fun x12 =>
some x12

def m__law_right (x_row : (List Int)) (x_cut : (List Int)) : Option Bool :=
Option.bind (m__law_due x_row x_cut) fun r5 =>
Option.bind (mapO (fun (x12 : (List Int)) => some (List.sum x12)) r5) fun x27 =>
Option.bind (m_pieces x_row x_cut) fun r39 =>
Option.bind (m_sums_of x_row x_cut) fun r56 =>
Option.bind (m__law_same (List.map Co.f r39 : (List (Un Int (List Int)))) (List.map Co.f r5 : (List (Un Int (List Int))))) fun r66 =>
Option.bind (if (!r66) then some true else Option.bind (m__law_same (Co.f (r56 : (List Int)) : (List (Un Int (List Int)))) (List.map Co.f x27 : (List (Un Int (List Int))))) fun r75 => Option.bind (if (!r75) then some true else Option.bind (eqO ([x_row, x_cut] : (List (List Int))) (([x_row, x_cut] : List (List Int)) : (List (List Int)))) fun x88 => some ((!x88))) fun x91 => some (x91)) fun x96 =>
if x96 then (some false) else
Option.bind (m_pieces x_row x_cut) fun r106 =>
Option.bind (m_sums_of x_row x_cut) fun r113 =>
Option.bind (growO r39) fun x124 =>
Option.bind (mapO (fun (x132 : (List Int)) => some (lenI x132)) x124) fun x147 =>
Option.bind (mapO (fun (x150 : (List Int)) => some ((lenI x150) + 1)) r5) fun x165 =>
Option.bind (eqO (x147 : (List Int)) (x165 : (List Int))) fun x168 =>
Option.bind (if (!x168) then some true else Option.bind (eqO ([x_row, x_cut] : (List (List Int))) (([x_row, x_cut] : List (List Int)) : (List (List Int)))) fun x177 => some ((!x177))) fun x180 =>
if x180 then (some false) else
Option.bind (appO r56 0) fun x188 =>
Option.bind (appO x_row 3) fun x192 =>
Option.bind (atI ([(List.map Co.f r106 : (List (Un Int (List Int)))), (List.map Co.f r113 : (List (Un Int (List Int))))] : List (List (Un Int (List Int)))) 0) fun x198 =>
Option.bind (m__law_same x198 (List.map Co.f r5 : (List (Un Int (List Int))))) fun r203 =>
Option.bind (if (!r203) then some true else Option.bind (atI ([(List.map Co.f r106 : (List (Un Int (List Int)))), (List.map Co.f r113 : (List (Un Int (List Int))))] : List (List (Un Int (List Int)))) 1) fun x212 => Option.bind (m__law_same x212 (List.map Co.f x27 : (List (Un Int (List Int))))) fun r217 => some ((!r217))) fun x224 =>
if x224 then (some false) else
Option.bind (m_pieces x_row x_cut) fun r238 =>
Option.bind (m__law_same (List.map Co.f r238 : (List (Un Int (List Int)))) (List.map Co.f r5 : (List (Un Int (List Int))))) fun r245 =>
Option.bind (if r245 then Option.bind (m_sums_of x_row x_cut) fun r262 => Option.bind (m__law_same (List.map Co.f r262 : (List (Un Int (List Int)))) (List.map Co.f x27 : (List (Un Int (List Int))))) fun r269 => some (r269) else some false) fun x276 =>
some x276

def m_law (x_script : Scr) : Option Bool :=
Option.bind (m__law_cells x_script 30) fun r3 =>
Option.bind (forO (ρ := Bool) (fun (x13 : (Int × Int)) (b11 : Unit) => Option.bind (m__law_hand x13.2 x13.1) fun r28 =>
Option.bind (if (decide (x13.1 = 0)) then Option.bind (m__law_great x_script) fun r38 => some (r38) else some false) fun x44 =>
Option.bind (m__law_row r28 x44) fun r49 =>
Option.bind (m__law_cut r49.2 (lenI r49.1)) fun r59 =>
Option.bind (rangeL 1 (lenI r49.1)) fun x73 =>
Option.bind (forO (ρ := Bool) (fun (x87 : (List Int)) (b85 : Unit) => Option.bind (m__law_right r49.1 x87) fun r99 =>
if (!r99) then (some (.ret false)) else
some (.go ())) ([r59.1, ([] : List Int), x73] : List (List Int)) ()) fun o90 =>
match o90 with
| .ret r => some (.ret r)
| .brk _ => none
| .go s107 => some (.go ())) r3 ()) fun o16 =>
match o16 with
| .ret r => some r
| .brk _ => none
| .go s113 => Option.bind (m_pieces ([1, 2, 3] : List Int) ([2] : List Int)) fun r126 =>
Option.bind (eqO (r126 : (List (List Int))) (([([1, 2] : List Int), ([3] : List Int)] : List (List Int)) : (List (List Int)))) fun x145 =>
Option.bind (if x145 then Option.bind (m_sums_of ([4] : List Int) ([] : List Int)) fun r158 => Option.bind (eqO (r158 : (List Int)) (([4] : List Int) : (List Int))) fun x170 => some (x170) else some false) fun x173 =>
some x173
/-! ### rowdef -/
/-- a row as the laws draw it -/
def Row (ns : List Int) : Prop := 1 ≤ ns.length ∧ ns.length ≤ 120 ∧ ∀ n ∈ ns, 0 ≤ n ∧ n ≤ 1000000000000
/-! ### draw -/
/-! the drawing -/
def Hand (h : List Int) : Prop := ∃ x y, h = [x, y] ∧ 0 ≤ x ∧ 0 ≤ y ∧ y < 2147483587
theorem hand_ok (cell k : Int) (hk0 : 0 ≤ k) (hk : k ≤ 100) : OkP (m__law_hand cell k) Hand := by
  unfold m__law_hand
  refine Ok.bind (P := fun s => 0 ≤ s) (Ok.ite (fun h => Ok.some ?_) fun _ => Ok.some (by omega)) fun s hs => ?_
  · have := of_decide_eq_true h
    omega
  refine Ok.bindE (mulO_s (by decide) (by omega)) ?_
  have h1 := Int.emod_nonneg cell (show (2147483587 : Int) ≠ 0 by decide)
  have h2 := Int.emod_lt_of_pos cell (show (0 : Int) < 2147483587 by decide)
  refine Ok.bindE (mulO_s (by omega) (by decide)) (Ok.some ⟨s, _, rfl, hs, Int.emod_nonneg _ (by decide), Int.emod_lt_of_pos _ (by decide)⟩)
theorem draw_ok {h : List Int} {l : Int} (hh : Hand h) (h0 : 0 < l) (h1 : l.natAbs < 2 ^ 250) : OkP (m__law_draw h l) fun r => 0 ≤ r.1 ∧ r.1 < l ∧ Hand r.2 := by
  obtain ⟨x, y, rfl, hx, hy0, hy1⟩ := hh
  unfold m__law_draw
  refine Ok.bindE (x := x) rfl (Ok.ite (fun _ => ?_) fun _ => ?_)
  · refine Ok.bindE (x := x) rfl (Ok.bindE (modO_s h0) (Ok.bindE (x := x) rfl (Ok.bindE (fdivO_s h0 h1) (Ok.bindE (x := [x / l, y]) rfl (Ok.some ⟨Int.emod_nonneg _ (by omega), Int.emod_lt_of_pos _ h0, _, _, rfl, Int.ediv_nonneg hx (by omega), hy0, hy1⟩)))))
  · refine Ok.bindE (x := y) rfl (Ok.bindE (x := y) rfl (Ok.bindE (mulO_s (by omega) (by omega)) (Ok.bindE (x := y) rfl (Ok.bindE (mulO_s (by decide) (by omega)) ?_))))
    refine Ok.bindE (x := [x, (y * y + 69621 * y + 12345) % 2147483587]) rfl (Ok.bindE (x := (y * y + 69621 * y + 12345) % 2147483587) rfl (Ok.bindE (modO_s h0) (Ok.some ⟨Int.emod_nonneg _ (by omega), Int.emod_lt_of_pos _ h0, _, _, rfl, hx, Int.emod_nonneg _ (by decide), Int.emod_lt_of_pos _ (by decide)⟩)))
theorem enumI_mem {α : Type} {k : Int} {xs : List α} {p : Int × α} (h : p ∈ enumI k xs) : k ≤ p.1 ∧ p.1 < k + xs.length := by
  induction xs generalizing k with
  | nil => cases h
  | cons x xs ih =>
    rcases List.mem_cons.mp h with rfl | h
    · simp; omega
    · have := ih h
      simp; omega
theorem cells_ok (ns : List Int) (m : Int) (hl : ns.length ≤ 63) : OkP (m__law_cells ⟨ns⟩ m) fun cs => ∀ p ∈ cs, 0 ≤ p.1 ∧ p.1 ≤ 64 := by
  unfold m__law_cells
  have key : ∀ i : Int, 0 ≤ i → i ≤ 1 → OkP (Option.bind (repO ([0] : List Int) i) fun x15 => Option.bind (catO (sliceI ns none (some m)) x15) fun x21 => some (enumI 0 x21)) fun cs => ∀ p ∈ cs, 0 ≤ p.1 ∧ p.1 ≤ 64 := by
    intro i h0 h1
    have h2 := (sliceI_sub (xs := ns) (lo := none) (hi := some m)).length_le
    refine Ok.bindE (repO_1 h0 (by omega)) (Ok.bindE (catO_s (by rw [List.length_replicate]; omega)) (Ok.some fun p hp => ?_))
    have := enumI_mem hp
    rw [List.length_append, List.length_replicate] at this
    omega
  refine key _ ?_ ?_ <;> split <;> omega
theorem great_ok (x : Scr) : OkP (m__law_great x) fun _ => True := Ok.some trivial
theorem row_ok {h : List Int} (b : Bool) (hh : Hand h) : OkP (m__law_row h b) fun r => Row r.1 ∧ (b = true → 13 ≤ r.1.length) ∧ (b = false → r.1.length ≤ 12) ∧ Hand r.2 := by
  unfold m__law_row
  refine Ok.bind (draw_ok hh (by decide) (by decide)) fun r1 h1 => ?_
  refine Ok.bind (atI_bnd (lo := 4) (hi := 12) (by decide) h1.1 h1.2.1) fun x hx => ?_
  refine Ok.bind (draw_ok h1.2.2 (by omega) (by omega)) fun r2 h2 => ?_
  refine Ok.bind (P := fun s => Hand s.1 ∧ 1 ≤ s.2 ∧ s.2 ≤ 120 ∧ (b = true → 13 ≤ s.2) ∧ (b = false → s.2 ≤ 12)) (Ok.ite (fun hb => ?_) fun hb => ?_) fun s hs => ?_
  · refine Ok.bind (draw_ok h2.2.2 (by decide) (by decide)) fun r3 h3 => Ok.bind (draw_ok h3.2.2 (by decide) (by decide)) fun r4 h4 => Ok.bind (draw_ok h4.2.2 (by decide) (by decide)) fun r5 h5 => ?_
    refine Ok.bind (atI_bnd (lo := 13) (hi := 120) (fun n hn => ?_) h5.1 h5.2.1) fun y hy => Ok.some ⟨h5.2.2, by omega, by omega, fun _ => hy.1, fun e => by rw [hb] at e; cases e⟩
    simp at hn
    omega
  · exact Ok.some ⟨h2.2.2, by omega, by omega, (fun e => by rw [hb] at e; cases e), fun _ => by omega⟩
  refine Ok.bind (draw_ok hs.1 (by decide) (by decide)) fun r5 h5 => ?_
  refine Ok.bind (atI_bnd (lo := 1) (hi := 1000000000000) (by decide) h5.1 h5.2.1) fun y hy => ?_
  refine Ok.bind (draw_ok h5.2.2 (by decide) (by decide)) fun r6 h6 => ?_
  refine Ok.bindE (range1_s (by omega) (by omega)) ?_
  refine Ok.bind (Ok.mapS (fun n => 0 ≤ n ∧ n ≤ 1000000000000) Hand (by rw [rangeF_len]; show _ ≤ 16777216; omega) h6.2.2 fun x hx b hb => Ok.bind (draw_ok hb (by omega) (by omega)) fun r7 h7 => Ok.some ⟨⟨h7.1, by omega⟩, h7.2.2⟩) fun r7 h7 => ?_
  rw [rangeF_len] at h7
  have hl : (r7.1.length : Int) = s.2 := by rw [h7.1]; omega
  have fin : ∀ (xs : List Int) (h : List Int), xs.length = r7.1.length → (∀ n ∈ xs, 0 ≤ n ∧ n ≤ 1000000000000) → Hand h → Row xs ∧ (b = true → 13 ≤ xs.length) ∧ (b = false → xs.length ≤ 12) ∧ Hand h := fun xs h e hb hh =>
    ⟨⟨by omega, by omega, hb⟩, fun e => by have := hs.2.2.2.1 e; omega, fun e => by have := hs.2.2.2.2 e; omega, hh⟩
  refine Ok.ite (fun _ => ?_) fun _ => Ok.ite (fun _ => ?_) fun _ => Ok.ite (fun _ => ?_) fun _ => ?_
  · refine Ok.bind (atI_mem (by omega) (by omega)) fun z hz => Ok.bindE (repO_1 (by omega) (by omega)) (Ok.some (fin _ _ (by rw [List.length_replicate]; omega) (fun n hn => ?_) h7.2.2))
    rw [List.eq_of_mem_replicate hn]
    exact h7.2.1 _ hz
  · refine Ok.bind (Ok.mapS (fun n => 0 ≤ n ∧ n ≤ 1000000000000) Hand (by show _ ≤ 16777216; omega) h7.2.2 fun x hx b hb => Ok.bind (draw_ok hb (by decide) (by decide)) fun r8 h8 => ?_) fun r9 h9 => Ok.some (fin _ _ h9.1 h9.2.1 h9.2.2)
    have hx := h7.2.1 x hx
    refine Ok.bindE (mulO_s (by omega) (by omega)) (Ok.some ⟨?_, h8.2.2⟩)
    rcases (show r8.1 = 0 ∨ r8.1 = 1 by omega) with e | e <;> rw [e] <;> omega
  · exact Ok.some (fin _ _ (sortI_perm _).length_eq (fun n hn => h7.2.1 n ((sortI_perm _).mem_iff.mp hn)) h7.2.2)
  · refine Ok.bind (P := fun p => Hand p.1 ∧ p.2.length = r7.1.length ∧ ∀ n ∈ p.2, 0 ≤ n ∧ n ≤ 1000000000000) (Ok.ite (fun _ => ?_) fun _ => Ok.some ⟨h7.2.2, rfl, h7.2.1⟩) fun p hp => Ok.some (fin _ _ hp.2.1 hp.2.2 hp.1)
    refine Ok.bind (draw_ok h7.2.2 (by decide) (by decide)) fun r8 h8 => Ok.bind (draw_ok h8.2.2 (by omega) (by omega)) fun r9 h9 => Ok.bindE (setO_s h9.1 (by omega)) (Ok.some ⟨h9.2.2, List.length_set, fun n hn => ?_⟩)
    rcases List.mem_or_eq_of_mem_set hn with hn | rfl
    · exact h7.2.1 n hn
    · omega
/-! ### parts -/
/-! a row as its pieces, one after another -/
def endsT : Nat → List (List Int) → List Int
  | _, [] => []
  | s, x :: T => ((s + x.length : Nat) : Int) :: endsT (s + x.length) T
def cutT : Nat → List (List Int) → List Int
  | _, [] => []
  | _, [_] => []
  | s, x :: y :: T => ((s + x.length : Nat) : Int) :: cutT (s + x.length) (y :: T)
/-- pieces, none empty -/
def Pcs (T : List (List Int)) : Prop := T ≠ [] ∧ ∀ x ∈ T, x ≠ []
theorem endsT_cut : ∀ (T : List (List Int)) (s : Nat), T ≠ [] → endsT s T = cutT s T ++ [((s + T.flatten.length : Nat) : Int)]
  | [], _, h => absurd rfl h
  | [x], s, _ => by simp [endsT, cutT]
  | x :: y :: T, s, _ => by
    have e : s + (x :: y :: T).flatten.length = s + x.length + (y :: T).flatten.length := by
      rw [List.flatten_cons, List.length_append, Nat.add_assoc]
    rw [endsT, cutT, endsT_cut (y :: T) (s + x.length) (by simp), e]
    rfl
theorem endsT_app : ∀ (A B : List (List Int)) (s : Nat), endsT s (A ++ B) = endsT s A ++ endsT (s + A.flatten.length) B
  | [], B, s => by simp [endsT]
  | x :: A, B, s => by
    rw [List.cons_append, endsT, endsT_app A B, endsT, List.flatten_cons, List.length_append, Nat.add_assoc]
    rfl
theorem cutT_app {B : List (List Int)} (hB : B ≠ []) (A : List (List Int)) (s : Nat) : cutT s (A ++ B) = endsT s A ++ cutT (s + A.flatten.length) B := by
  have h1 := endsT_cut (A ++ B) s (by simp [hB])
  rw [endsT_app, endsT_cut B _ hB, List.flatten_append, List.length_append, ← List.append_assoc, Nat.add_assoc] at h1
  exact (List.append_inj_left' h1 rfl).symm
theorem endsT_len : ∀ (T : List (List Int)) (s : Nat), (endsT s T).length = T.length
  | [], _ => rfl
  | x :: T, s => congrArg (· + 1) (endsT_len T _)
theorem cutT_len (T : List (List Int)) (s : Nat) (h : T ≠ []) : (cutT s T).length + 1 = T.length := by
  have := congrArg List.length (endsT_cut T s h)
  rw [endsT_len, List.length_append] at this
  exact this.symm
theorem endsT_map (f : List Int → List Int) (hf : ∀ x, (f x).length = x.length) : ∀ (T : List (List Int)) (s : Nat), endsT s (T.map f) = endsT s T
  | [], _ => rfl
  | x :: T, s => by rw [List.map_cons, endsT, endsT, hf, endsT_map f hf T]
theorem cutT_map (f : List Int → List Int) (hf : ∀ x, (f x).length = x.length) : ∀ (T : List (List Int)) (s : Nat), cutT s (T.map f) = cutT s T
  | [], _ => rfl
  | [x], _ => rfl
  | x :: y :: T, s => by
    have := cutT_map f hf (y :: T) (s + x.length)
    rw [List.map_cons] at this
    rw [List.map_cons, List.map_cons, cutT, cutT, hf, this]
theorem cutT_shift : ∀ (T : List (List Int)) (s t : Nat), cutT (s + t) T = (cutT t T).map fun x => (s : Int) + x
  | [], _, _ => rfl
  | [x], _, _ => rfl
  | x :: y :: T, s, t => by
    rw [cutT, cutT, List.map_cons, Nat.add_assoc, cutT_shift (y :: T)]
    congr 1
theorem cutT_pw : ∀ {T : List (List Int)} {s : Nat}, (∀ x ∈ T, x ≠ []) → (cutT s T).Pairwise (· < ·) ∧ ∀ y ∈ cutT s T, (s : Int) < y
  | [], _, _ => ⟨.nil, fun _ h => nomatch h⟩
  | [x], _, _ => ⟨.nil, fun _ h => nomatch h⟩
  | x :: y :: T, s, h => by
    obtain ⟨h1, h2⟩ := cutT_pw (T := y :: T) (s := s + x.length) fun z hz => h z (List.mem_cons_of_mem _ hz)
    have hx := List.length_pos_iff.mpr (h x List.mem_cons_self)
    rw [cutT]
    refine ⟨List.pairwise_cons.mpr ⟨fun z hz => h2 z hz, h1⟩, fun z hz => ?_⟩
    rcases List.mem_cons.mp hz with rfl | hz
    · omega
    · have := h2 z hz
      omega
theorem parts_zip {W : List Int} : ∀ {T : List (List Int)} {P : List Int}, T ≠ [] → W = P ++ T.flatten →
    ((List.zip ((P.length : Int) :: cutT P.length T) (cutT P.length T ++ [(W.length : Int)])).map fun x => sliceI W (some x.1) (some x.2)) = T
  | [], _, h, _ => absurd rfl h
  | [x], P, _, e => by
    show [_] = [_]
    congr 1
    have hl : W.length = P.length + x.length := by rw [e]; simp
    show sliceI W (some (P.length : Int)) (some (W.length : Int)) = x
    rw [sliceI_mid (by omega) (by omega) (by omega), Int.toNat_natCast, Int.toNat_natCast, hl, e, Nat.add_sub_cancel_left, List.drop_left]
    simp
  | x :: y :: T, P, _, e => by
    have ih := parts_zip (W := W) (T := y :: T) (P := P ++ x) (by simp) (by rw [e]; simp)
    rw [List.length_append] at ih
    rw [cutT]
    show _ :: _ = _
    have hl : P.length + x.length ≤ W.length := by rw [e]; simp
    congr 1
    · show sliceI W (some ((P.length : Nat) : Int)) (some ((P.length + x.length : Nat) : Int)) = x
      rw [sliceI_mid (by omega) (by omega) (by omega), Int.toNat_natCast, Int.toNat_natCast, e, Nat.add_sub_cancel_left, List.drop_left, List.flatten_cons, List.take_left]
theorem parts_ok {T : List (List Int)} (h : Pcs T) (hl : T.flatten.length ≤ 3000) : m_pieces T.flatten (cutT 0 T) = some T := by
  have h1 := cutT_len T 0 h.1
  have hT : T.length ≤ T.flatten.length := by
    have : ∀ T : List (List Int), (∀ x ∈ T, x ≠ []) → T.length ≤ T.flatten.length := by
      intro T
      induction T with
      | nil => intro _; exact Nat.le_refl _
      | cons x T ih =>
        intro hx
        have := ih fun z hz => hx z (List.mem_cons_of_mem _ hz)
        have := List.length_pos_iff.mpr (hx x List.mem_cons_self)
        rw [List.flatten_cons, List.length_append, List.length_cons]
        omega
    exact this T h.2
  unfold m_pieces
  refine Ok.eq (Ok.bindE (catO_s (by simp; omega)) (Ok.bindE (catO_s (by simp; omega)) (Ok.bindE (mapO_eq (g := fun x => sliceI T.flatten (some x.1) (some x.2)) ?_ fun x _ => rfl) (Ok.some ?_))))
  · rw [List.length_zip]
    simp
    show _ ≤ 16777216
    omega
  · exact parts_zip (P := []) h.1 rfl
theorem partsums_ok {T : List (List Int)} (h : Pcs T) (hl : T.flatten.length ≤ 3000) (hT : T.length ≤ 3001) : m_sums_of T.flatten (cutT 0 T) = some (T.map List.sum) := by
  unfold m_sums_of
  exact Ok.eq (Ok.bindE (parts_ok h hl) (Ok.bindE (mapO_eq (g := List.sum) (by show _ ≤ 16777216; omega) fun x _ => rfl) (Ok.some rfl)))
/-- a cut tells pieces -/
theorem ct_parts {ns : List Int} {R : Nat → Nat → Prop} : ∀ {c : List Int} {p : Nat}, Ct R ns.length p c → ∃ T, Pcs T ∧ T.flatten = ns.drop p ∧ cutT p T = c
  | [], p, h => by
    refine ⟨[ns.drop p], ⟨by simp, fun x hx => ?_⟩, by simp, rfl⟩
    rw [List.mem_singleton.mp hx]
    have := h.1
    exact List.ne_nil_of_length_pos (by rw [List.length_drop]; omega)
  | x :: c, p, h => by
    obtain ⟨e, rfl, h1, h2, h3, h4⟩ := h
    obtain ⟨T, t1, t2, t3⟩ := ct_parts h4
    have hl : ((ns.drop p).take (e - p)).length = e - p := by rw [List.length_take, List.length_drop]; omega
    refine ⟨(ns.drop p).take (e - p) :: T, ⟨by simp, fun x hx => ?_⟩, ?_, ?_⟩
    · rcases List.mem_cons.mp hx with rfl | hx
      · exact List.ne_nil_of_length_pos (by omega)
      · exact t1.2 x hx
    · rw [List.flatten_cons, t2]
      have := List.take_append_drop (e - p) (ns.drop p)
      rw [List.drop_drop, show p + (e - p) = e by omega] at this
      exact this
    · obtain ⟨y, T', rfl⟩ : ∃ y T', T = y :: T' := by
        cases T with
        | nil => exact absurd rfl t1.1
        | cons y T' => exact ⟨y, T', rfl⟩
      rw [cutT, hl, show p + (e - p) = e by omega, t3]
/-! ### rsum -/
theorem rsum_le {ns : List Int} {c : Int} (h : ∀ n ∈ ns, n ≤ c) : ns.sum ≤ ns.length * c := by
  induction ns with
  | nil => simp
  | cons x xs ih =>
    have := ih fun n hn => h n (List.mem_cons_of_mem _ hn)
    have := h x List.mem_cons_self
    rw [List.sum_cons, List.length_cons]
    have e : ((xs.length + 1 : Nat) : Int) * c = xs.length * c + c := by
      rw [Int.natCast_add, Int.add_mul]
      omega
    rw [e]
    omega
/-! ### lcutp -/
theorem cmpS_ok {f : Int → List Int → Option (Option Int × List Int)} {I : List Int → Prop} (hf : ∀ x b, I b → OkP (f x b) fun r => (r.1 = some x ∨ r.1 = none) ∧ I r.2) : ∀ {n : Nat} {lo : Nat} {b : List Int} , I b → OkP (cmpSG f (rangeF (lo : Int) n) b) fun r => (∀ p : Nat, p < lo → Ct Any (lo + n) p r.1) ∧ I r.2
  | 0, lo, b, hb => ⟨_, rfl, fun p hp => ⟨by omega, trivial⟩, hb⟩
  | n + 1, lo, b, hb => by
    obtain ⟨r, e1, h1, h2⟩ := hf (lo : Int) b hb
    obtain ⟨q, e2, h3, h4⟩ := cmpS_ok hf (n := n) (lo := lo + 1) h2
    rcases h1 with h1 | h1
    · refine ⟨((lo : Int) :: q.1, q.2), ?_, fun p hp => ⟨lo, rfl, hp, by omega, trivial, ?_⟩, h4⟩
      · rw [rangeF, cmpSG, e1]
        show (cmpSG f (rangeF ((lo + 1 : Nat) : Int) n) r.2).bind _ = _
        rw [e2, h1]
        rfl
      · rw [show lo + (n + 1) = lo + 1 + n by omega]
        exact h3 lo (by omega)
    · refine ⟨q, ?_, fun p hp => ?_, h4⟩
      · rw [rangeF, cmpSG, e1]
        show (cmpSG f (rangeF ((lo + 1 : Nat) : Int) n) r.2).bind _ = _
        rw [e2, h1]
        rfl
      · rw [show lo + (n + 1) = lo + 1 + n by omega]
        exact h3 p (by omega)
theorem lcut_ok {h : List Int} {n : Nat} (hh : Hand h) (h1 : 1 ≤ n) (h2 : n ≤ 3000) : OkP (m__law_cut h n) fun r => Ct Any n 0 r.1 ∧ Hand r.2 := by
  unfold m__law_cut
  refine Ok.bind (draw_ok hh (by decide) (by decide)) fun r1 hr1 => Ok.bind (atI_mem hr1.1 (by simp; omega)) fun o _ => Ok.bindE (range2_s (by decide) (by decide) (by omega) (by omega)) ?_
  refine Ok.bind (P := fun r => Ct Any n 0 r.1 ∧ Hand r.2) ?_ fun r hr => Ok.some hr
  rw [cmpSO, if_pos (show _ ≤ sizeLine by rw [rangeF_len]; show _ ≤ 16777216; omega)]
  refine Ok.mono (cmpS_ok (I := Hand) (lo := 1) (n := ((n : Int) - 1).toNat) (fun x b hb => ?_) hr1.2.2) fun r hr => ⟨?_, hr.2⟩
  · refine Ok.bind (draw_ok hb (by decide) (by decide)) fun r2 hr2 => Ok.ite (fun _ => Ok.some ⟨.inl rfl, hr2.2.2⟩) fun _ => Ok.some ⟨.inr rfl, hr2.2.2⟩
  · have := hr.1 0 (by omega)
    rwa [show 1 + ((n : Int) - 1).toNat = n by omega] at this
/-! ### k03 -/
theorem ct_rng : ∀ (m lo p : Nat), p < lo → Ct Any (lo + m) p (rangeF (lo : Int) m)
  | 0, lo, p, h => ⟨by omega, trivial⟩
  | m + 1, lo, p, h => ⟨lo, rfl, h, by omega, trivial, by
      rw [show lo + (m + 1) = lo + 1 + m by omega]
      exact ct_rng m (lo + 1) lo (by omega)⟩
/-! what is due -/
abbrev stepF (C : List Int) : Int × Int → DS → Option DS := fun x11 b9 => Option.bind (if ((decide (x11.1 = 0)) || (decide (x11.1 ∈ C))) then dueA b9 else some b9) fun s26 => dueN s26 x11.2
theorem enum_app {α : Type} : ∀ (xs ys : List α) (k : Int), enumI k (xs ++ ys) = enumI k xs ++ enumI (k + xs.length) ys
  | [], ys, k => by
    rw [List.nil_append]
    show enumI k ys = enumI (k + 0) ys
    rw [Int.add_zero]
  | x :: xs, ys, k => by
    rw [List.cons_append, enumI, enumI, List.cons_append, enum_app xs ys (k + 1), List.length_cons]
    rw [show k + 1 + (xs.length : Int) = k + ((xs.length + 1 : Nat) : Int) by omega]
theorem fold_app {α β : Type} (f : α → β → Option β) : ∀ (xs ys : List α) (b : β), foldO f (xs ++ ys) b = (foldO f xs b).bind fun c => foldO f ys c
  | [], ys, b => rfl
  | x :: xs, ys, b => by
    rw [List.cons_append, foldO, foldO]
    cases f x b with
    | none => rfl
    | some c => exact fold_app f xs ys c
theorem rest_run {C : List Int} : ∀ (xs : List Int) (k : Int) (i : List (List Int)) (l : List Int), (∀ j : Int, k ≤ j → j < k + xs.length → j ≠ 0 ∧ j ∉ C) → l.length + xs.length ≤ 16777216 → foldO (stepF C) (enumI k xs) (some (i, l)) = some (some (i, l ++ xs))
  | [], k, i, l, _, _ => by
    rw [List.append_nil]
    rfl
  | x :: xs, k, i, l, h, hz => by
    have hk := h k (Int.le_refl _) (by rw [List.length_cons]; omega)
    rw [List.length_cons] at hz
    rw [enumI, foldO]
    have e : stepF C (k, x) (some (i, l)) = some (some (i, l ++ [x])) := by
      show Option.bind (if ((decide (k = 0)) || (decide (k ∈ C))) then dueA (some (i, l)) else some (some (i, l))) (fun s26 => dueN s26 x) = _
      rw [decide_eq_false hk.1, decide_eq_false hk.2]
      exact if_pos (show l.length < 16777216 by omega)
    rw [e]
    show foldO (stepF C) (enumI (k + 1) xs) (some (i, l ++ [x])) = _
    rw [rest_run xs (k + 1) i (l ++ [x]) (fun j h1 h2 => h j (by omega) (by rw [List.length_cons]; omega)) (by rw [List.length_append, List.length_singleton]; omega), List.append_assoc]
    rfl
theorem piece_run {C x : List Int} {s : Int} {b : DS} (hx : x ≠ []) (h0 : s = 0 ∨ s ∈ C) (h : ∀ j : Int, s < j → j < s + x.length → j ≠ 0 ∧ j ∉ C) (hz : (dueL b).length < 10000) (hz2 : x.length ≤ 10000) : foldO (stepF C) (enumI s x) b = some (some (dueL b, x)) := by
  cases x with
  | nil => exact absurd rfl hx
  | cons n xs =>
    rw [List.length_cons] at hz2
    rw [enumI, foldO]
    have e : stepF C (s, n) b = some (some (dueL b, [n])) := by
      show Option.bind (if ((decide (s = 0)) || (decide (s ∈ C))) then dueA b else some b) (fun s26 => dueN s26 n) = _
      have hc : ((decide (s = 0)) || (decide (s ∈ C))) = true := by
        rcases h0 with e | e
        · rw [decide_eq_true e]; rfl
        · rw [decide_eq_true e, Bool.or_true]
      rw [if_pos hc]
      have hA : dueA b = some (some (dueL b, [])) := by
        cases b with
        | none => rfl
        | some z =>
          obtain ⟨i, l⟩ := z
          have hz : (i ++ [l]).length < 10000 := hz
          rw [List.length_append, List.length_singleton] at hz
          exact if_pos (show i.length + 1 < 16777216 by omega)
      rw [hA]
      show (if ([] : List Int).length < sizeLine then some (some (dueL b, [] ++ [n])) else none) = _
      exact if_pos (by decide)
    rw [e]
    show foldO (stepF C) (enumI (s + 1) xs) (some (dueL b, [n])) = _
    rw [rest_run xs (s + 1) (dueL b) [n] (fun j h1 h2 => h j (by omega) (by rw [List.length_cons]; omega)) (by rw [List.length_singleton]; omega)]
    rfl
theorem ends_le : ∀ (A : List (List Int)) (s : Nat), ∀ y ∈ endsT s A, y ≤ ((s + A.flatten.length : Nat) : Int)
  | [], s, y, h => by cases h
  | x :: A, s, y, h => by
    rw [List.flatten_cons, List.length_append]
    rcases List.mem_cons.mp h with rfl | h
    · omega
    · have := ends_le A (s + x.length) y h
      omega
theorem ends_last : ∀ (A : List (List Int)) (s : Nat), A ≠ [] → ((s + A.flatten.length : Nat) : Int) ∈ endsT s A
  | [], s, h => absurd rfl h
  | [x], s, _ => by
    rw [List.flatten_cons, List.flatten_nil, List.append_nil]
    exact List.mem_cons_self
  | x :: y :: A, s, _ => by
    have := ends_last (y :: A) (s + x.length) (by simp)
    rw [List.flatten_cons, List.length_append, ← Nat.add_assoc]
    exact List.mem_cons_of_mem _ this
theorem cut_ge {x : List Int} {B : List (List Int)} {s : Nat} (h : ∀ z ∈ x :: B, z ≠ []) : ∀ z ∈ cutT s (x :: B), ((s + x.length : Nat) : Int) ≤ z := fun z hz => by
  cases B with
  | nil => cases hz
  | cons y B =>
    rcases List.mem_cons.mp hz with rfl | hz
    · exact Int.le_refl _
    · have := (cutT_pw (s := s + x.length) (fun z hz => h z (List.mem_cons_of_mem _ hz))).2 z hz
      omega
theorem all_run {T : List (List Int)} (hT : ∀ x ∈ T, x ≠ []) (hl : T.flatten.length ≤ 5000) (hl2 : T.length ≤ 5000) : ∀ (B A : List (List Int)) (b : DS), T = A ++ B → dueL b = A → ∃ b', foldO (stepF (cutT 0 T)) (enumI ((A.flatten.length : Nat) : Int) B.flatten) b = some b' ∧ dueL b' = A ++ B
  | [], A, b, _, hb => ⟨b, rfl, by rw [hb, List.append_nil]⟩
  | x :: B, A, b, e, hb => by
    have hA : A.flatten.length + (x.length + B.flatten.length) ≤ 5000 := by
      rw [e, List.flatten_append, List.length_append, List.flatten_cons, List.length_append] at hl
      exact hl
    have hlA : A.length + (B.length + 1) ≤ 5000 := by
      rw [e, List.length_append, List.length_cons] at hl2
      exact hl2
    have hC : cutT 0 T = endsT 0 A ++ cutT A.flatten.length (x :: B) := by
      rw [e, cutT_app (by simp), Nat.zero_add]
    have hx : x ≠ [] := hT x (by rw [e]; simp)
    have hB : ∀ z ∈ x :: B, z ≠ [] := fun z hz => hT z (by rw [e]; exact List.mem_append_right _ hz)
    have r := piece_run (C := cutT 0 T) (x := x) (s := ((A.flatten.length : Nat) : Int)) (b := b) hx (by
      by_cases hA0 : A = []
      · left
        rw [hA0]
        rfl
      · right
        rw [hC]
        refine List.mem_append_left _ ?_
        have := ends_last A 0 hA0
        rwa [Nat.zero_add] at this) (fun j h1 h2 => ⟨by omega, fun hj => by
      rw [hC] at hj
      rcases List.mem_append.mp hj with hj | hj
      · have := ends_le A 0 j hj
        omega
      · have := cut_ge hB j hj
        omega⟩) (by rw [hb]; omega) (by omega)
    obtain ⟨b', e2, e3⟩ := all_run hT hl hl2 B (A ++ [x]) (some (dueL b, x)) (by rw [e, List.append_assoc]; rfl) (by show dueL b ++ [x] = _; rw [hb])
    refine ⟨b', ?_, by rw [e3, List.append_assoc]; rfl⟩
    rw [List.flatten_cons, enum_app, fold_app, r]
    show foldO (stepF (cutT 0 T)) (enumI (((A.flatten.length : Nat) : Int) + x.length) B.flatten) (some (dueL b, x)) = some b'
    rw [← e2, List.flatten_append, List.length_append, List.flatten_cons, List.flatten_nil, List.append_nil]
    rfl
theorem due_ok {T : List (List Int)} (h : Pcs T) (hl : T.flatten.length ≤ 5000) (hl2 : T.length ≤ 5000) : m__law_due T.flatten (cutT 0 T) = some T := by
  unfold m__law_due
  obtain ⟨b, e1, e2⟩ := all_run h.2 hl hl2 T [] none rfl rfl
  rw [List.nil_append] at e2
  exact Ok.eq (Ok.bindE e1 (Ok.some e2))
/-! told as a text -/
theorem repr_d {α β : Type} [Rp α] [RpD α] [Rp β] [RpD β] {x : α} {y : β} (h : RpD.d x = RpD.d y) : reprO x = reprO y := by
  unfold reprO
  rw [h]
theorem d_coL (xs : List (List Int)) : RpD.d (List.map Co.f xs : List (Un Int (List Int))) = RpD.d xs := by
  show PyData.list (List.map RpD.d (List.map (fun x => (Un.r x : Un Int (List Int))) xs)) = PyData.list (xs.map RpD.d)
  rw [List.map_map]
  rfl
theorem d_coI (xs : List Int) : RpD.d (List.map Co.f xs : List (Un Int (List Int))) = RpD.d xs := by
  show PyData.list (List.map RpD.d (List.map (fun x => (Un.l x : Un Int (List Int))) xs)) = PyData.list (xs.map RpD.d)
  rw [List.map_map]
  rfl
theorem pcs_wt : ∀ (T : List (List Int)), (∀ x ∈ T, ∀ n ∈ x, n.natAbs < 2 ^ 200) → PyData.weightAll (T.map RpD.d) ≤ T.flatten.length * 201 + T.length
  | [], _ => by simp [PyData.weightAll]
  | x :: T, h => by
    have ih := pcs_wt T fun y hy => h y (List.mem_cons_of_mem _ hy)
    have hx := (DOK.ints (n := x.length) (h x List.mem_cons_self) (Nat.le_refl _)).wt
    rw [List.map_cons, PyData.weightAll, List.flatten_cons, List.length_append, List.length_cons]
    omega
theorem dok_pcs {T : List (List Int)} (h : ∀ x ∈ T, ∀ n ∈ x, n.natAbs < 2 ^ 200) : DOK (RpD.d T) 2 (T.flatten.length * 201 + T.length) := by
  have hd : ∀ d ∈ T.map RpD.d, ∃ w, DOK d 1 w := fun d hd => by
    obtain ⟨x, hx, rfl⟩ := List.mem_map.mp hd
    exact ⟨_, DOK.ints (h x hx) (Nat.le_refl _)⟩
  have all : ∀ ds : List PyData, (∀ d ∈ ds, ∃ w, DOK d 1 w) → PyData.showableAll ds = true ∧ PyData.hasDictAll ds = false ∧ PyData.depthAll ds ≤ 1 ∧ PyData.leavesShortAll 201 ds = true := by
    intro ds
    induction ds with
    | nil => intro _; exact ⟨by simp [PyData.showableAll], by simp [PyData.hasDictAll], by simp [PyData.depthAll], by simp [PyData.leavesShortAll]⟩
    | cons d ds ih =>
      intro h
      obtain ⟨h1, h2, h3, h4⟩ := ih fun x hx => h x (List.mem_cons_of_mem _ hx)
      obtain ⟨w, hw⟩ := h d List.mem_cons_self
      exact ⟨by rw [PyData.showableAll, hw.sh, h1]; rfl, by rw [PyData.hasDictAll, hw.nd, h2]; rfl, by rw [PyData.depthAll]; have := hw.de; omega, by rw [PyData.leavesShortAll, hw.le, h4]; rfl⟩
  obtain ⟨h1, h2, h3, h4⟩ := all _ hd
  show DOK (.list (T.map RpD.d)) _ _
  exact ⟨by rw [PyData.showable]; exact h1, by rw [PyData.hasDict]; exact h2, by rw [PyData.depth]; omega, by rw [PyData.leavesShort]; exact h4, by rw [PyData.weight]; exact pcs_wt T h⟩
theorem sameL {T : List (List Int)} (h : ∀ x ∈ T, ∀ n ∈ x, n.natAbs < 2 ^ 200) (h1 : T.flatten.length ≤ 120) (h2 : T.length ≤ 120) : m__law_same (List.map Co.f T : List (Un Int (List Int))) (List.map Co.f T : List (Un Int (List Int))) = some true := by
  have e := (repr_d (d_coL T)).trans (reprO_d (dok_pcs h) (by omega) (by omega))
  unfold m__law_same
  exact Ok.eq (Ok.bindE (x := true) (Ok.eq (Ok.iteT rfl (Ok.bindE e (Ok.bindE e (Ok.some (decide_eq_true rfl)))))) (Ok.some rfl))
theorem sameI {s : List Int} (h : ∀ n ∈ s, n.natAbs < 2 ^ 200) (h1 : s.length ≤ 120) : m__law_same (List.map Co.f s : List (Un Int (List Int))) (List.map Co.f s : List (Un Int (List Int))) = some true := by
  have e := (repr_d (d_coI s)).trans (reprO_d (DOK.ints h (Nat.le_refl _)) (by omega) (by omega))
  unfold m__law_same
  exact Ok.eq (Ok.bindE (x := true) (Ok.eq (Ok.iteT rfl (Ok.bindE e (Ok.bindE e (Ok.some (decide_eq_true rfl)))))) (Ok.some rfl))
theorem sum_bnd : ∀ (xs : List Int), (∀ n ∈ xs, 0 ≤ n ∧ n ≤ 1000000000000) → 0 ≤ xs.sum ∧ xs.sum ≤ 1000000000000 * xs.length
  | [], _ => by simp
  | x :: xs, h => by
    have ih := sum_bnd xs fun n hn => h n (List.mem_cons_of_mem _ hn)
    have := h x List.mem_cons_self
    rw [List.sum_cons, List.length_cons]
    omega
theorem flat_len : ∀ (T : List (List Int)), (∀ x ∈ T, x ≠ []) → T.length ≤ T.flatten.length
  | [], _ => Nat.le_refl _
  | x :: T, h => by
    have ih := flat_len T fun y hy => h y (List.mem_cons_of_mem _ hy)
    have hx := List.length_pos_iff.mpr (h x List.mem_cons_self)
    rw [List.flatten_cons, List.length_append, List.length_cons]
    omega
theorem mem_len : ∀ (T : List (List Int)), ∀ x ∈ T, x.length ≤ T.flatten.length
  | [], x, h => by cases h
  | y :: T, x, h => by
    rw [List.flatten_cons, List.length_append]
    rcases List.mem_cons.mp h with rfl | h
    · omega
    · have := mem_len T x h
      omega
theorem right_ok {ns c : List Int} (hr : Row ns) (hc : Ct Any ns.length 0 c) : m__law_right ns c = some true := by
  obtain ⟨T, hT, hf, hcut⟩ := ct_parts hc
  rw [List.drop_zero] at hf
  have l2 := hr.2.1
  have hfl : T.flatten.length ≤ 120 := by rw [hf]; exact l2
  have hTl := flat_len T hT.2
  have hsm : ∀ x ∈ T, ∀ n ∈ x, 0 ≤ n ∧ n ≤ 1000000000000 := fun x hx n hn => hr.2.2 n (by rw [← hf]; exact List.mem_flatten.mpr ⟨x, hx, hn⟩)
  have hs2 : ∀ x ∈ T, ∀ n ∈ x, n.natAbs < 2 ^ 200 := fun x hx n hn => by
    have := hsm x hx n hn
    have h3 : (1000000000001 : Nat) < 2 ^ 200 := by decide
    omega
  have hss : ∀ n ∈ T.map List.sum, n.natAbs < 2 ^ 200 := fun n hn => by
    obtain ⟨x, hx, rfl⟩ := List.mem_map.mp hn
    have h1 := sum_bnd x (hsm x hx)
    have h2 := mem_len T x hx
    have h3 : (1000000000000 * 120 + 1 : Nat) < 2 ^ 200 := by decide
    omega
  have eP : m_pieces ns c = some T := by
    rw [← hf, ← hcut]
    exact parts_ok hT (by omega)
  have eS : m_sums_of ns c = some (T.map List.sum) := by
    rw [← hf, ← hcut]
    exact partsums_ok hT (by omega) (by omega)
  have eD : m__law_due ns c = some T := by
    rw [← hf, ← hcut]
    exact due_ok hT (by omega) (by omega)
  have eL := sameL hs2 hfl (by omega)
  have eI := sameI hss (by rw [List.length_map]; omega)
  have eG : growO T = some (T.map fun x => x ++ [-1]) := if_pos (List.all_eq_true.mpr fun x hx => decide_eq_true (by
    have := mem_len T x hx
    show x.length < 16777216
    omega))
  unfold m__law_right
  refine Ok.eq (Ok.bindE eD (Ok.bindE (mapO_eq (g := List.sum) (by show _ ≤ 16777216; omega) fun _ _ => rfl) (Ok.bindE eP (Ok.bindE eS (Ok.bindE eL (Ok.bindE (x := false) ?_ (Ok.iteF rfl ?_)))))))
  · exact Ok.eq (Ok.iteF rfl (Ok.bindE eI (Ok.bindE (x := false) (Ok.eq (Ok.iteF rfl (Ok.bindE (eqO_E _ _) (Ok.some (by rw [decide_eq_true rfl]; rfl))))) (Ok.some rfl))))
  refine Ok.bindE eP (Ok.bindE eS (Ok.bindE eG (Ok.bindE (mapO_eq (g := lenI) (by rw [List.length_map]; show _ ≤ 16777216; omega) fun _ _ => rfl) (Ok.bindE (mapO_eq (g := fun x => lenI x + 1) (by show _ ≤ 16777216; omega) fun _ _ => rfl) (Ok.bindE (eqO_E _ _) (Ok.bindE (x := false) ?_ (Ok.iteF rfl ?_)))))))
  · have e : List.map lenI (T.map fun x => x ++ [-1]) = T.map fun x => lenI x + 1 := by
      rw [List.map_map]
      refine List.map_congr_left fun x _ => ?_
      show ((x ++ [-1]).length : Int) = (x.length : Int) + 1
      rw [List.length_append, List.length_singleton]
      omega
    rw [e, decide_eq_true rfl]
    exact Ok.eq (Ok.iteF rfl (Ok.bindE (eqO_E _ _) (Ok.some (by rw [decide_eq_true rfl]; rfl))))
  refine Ok.bindE (appO_s (by rw [List.length_map]; omega)) (Ok.bindE (appO_s (by omega)) (Ok.bindE rfl (Ok.bindE eL (Ok.bindE (x := false) ?_ (Ok.iteF rfl ?_)))))
  · exact Ok.eq (Ok.iteF rfl (Ok.bindE rfl (Ok.bindE eI (Ok.some rfl))))
  exact Ok.bindE eP (Ok.bindE eL (Ok.bindE (x := true) (Ok.eq (Ok.iteT rfl (Ok.bindE eS (Ok.bindE eI (Ok.some rfl))))) (Ok.some rfl)))
theorem law_true (ns : List Int) (hl : ns.length ≤ 63) : m_law ⟨ns⟩ = some true := by
  unfold m_law
  refine Ok.eq (Ok.bind (cells_ok ns _ hl) fun cs hcs => Ok.bind (Ok.forU fun x hx => ?_) fun o ho => ?_)
  · have hx := hcs x hx
    refine Ok.bind (hand_ok _ _ (by omega) (by omega)) fun h hh => Ok.bind (P := fun _ => True) (Ok.ite (fun _ => Ok.bind (great_ok _) fun _ _ => Ok.some trivial) fun _ => Ok.some trivial) fun b _ => ?_
    refine Ok.bind (row_ok b hh) fun r hr => ?_
    have l1 := hr.1.1
    have l2 := hr.1.2.1
    have hL : lenI r.1 = (r.1.length : Int) := rfl
    rw [hL]
    refine Ok.bind (lcut_ok hr.2.2.2 l1 (by omega)) fun c hc => Ok.bindE (rangeL_s (by omega) (by omega) (by omega) (by omega)) (Ok.bind (Ok.forU fun y hy => ?_) fun o ho => ?_)
    · have hy2 : Ct Any r.1.length 0 y := by
        simp only [List.mem_cons, List.not_mem_nil, or_false] at hy
        rcases hy with rfl | rfl | rfl
        · exact hc.1
        · exact ⟨by omega, trivial⟩
        · have := ct_rng ((r.1.length : Int) - 1).toNat 1 0 (by omega)
          rwa [show 1 + ((r.1.length : Int) - 1).toNat = r.1.length by omega] at this
      exact Ok.bindE (right_ok hr.1 hy2) (Ok.iteF rfl (Ok.some rfl))
    · subst ho
      exact Ok.some rfl
  · subst ho
    exact Ok.bindE (x := [[1, 2], [3]]) (by decide +kernel) (Ok.bindE (eqO_E _ _) (Ok.bindE (x := true) (Ok.eq (Ok.iteT (decide_eq_true rfl) (Ok.bindE (x := [4]) (by decide +kernel) (Ok.bindE (eqO_E _ _) (Ok.some (decide_eq_true rfl)))))) (Ok.some rfl)))
def top_ (i : Nat) : Stmt := PySem.Challenge.pw_piecebounds_k03_pieces_and_sums.main.body.getD i (.Pass ⟨0, 0, 0, 0⟩)
abbrev s_pieces : Stmt := top_ 1
abbrev s_sums_of : Stmt := top_ 2
abbrev s__law_hand : Stmt := top_ 4
abbrev s__law_draw : Stmt := top_ 5
abbrev s__law_cells : Stmt := top_ 6
abbrev s__law_great : Stmt := top_ 7
abbrev s__law_row : Stmt := top_ 8
abbrev s__law_cut : Stmt := top_ 9
abbrev s__law_same : Stmt := top_ 10
abbrev s__law_due : Stmt := top_ 11
abbrev s__law_right : Stmt := top_ 12
abbrev s_law : Stmt := top_ 13
/-! ### _law_cells -/
abbrev sp__law_cells (K : PySem.W.Frag) : Sp := fun vs H Q _ => ∃ (x_script : Scr) (v_script : V) (x_many : Int),  vs = [v_script, .int x_many] ∧ Rp.rep (lkA K H) x_script v_script ∧ ∃ r : (List (Int × Int)), m__law_cells x_script x_many = some r ∧ ∀ v' H', Res K H r v' H' → Q v' H'
section
variable {P : Program} {w : World} {K : PySem.W.Frag} {mg : Str → Option Value} {base : Heap}
abbrev N__law_cells : List Str := ["script", "many"]
theorem scope__law_cells : FnScope N__law_cells ["script", "many"] (defScope s__law_cells) := ⟨rfl, rfl, rfl, by decide +kernel, rfl, by decide +kernel, by decide +kernel⟩
theorem ok__law_cells {f : Addr} {fd : FuncData} (F : FunD K "_law_cells" "_law_cells" (defArgs s__law_cells) (defBody s__law_cells) (defScope s__law_cells) [] [] f fd) (hm : mg "_law_cells" = some (.ref f)) (Z : Blt mg) :
    Fn P w K mg base 1 "_law_cells" ["script", "many"] (sp__law_cells K) := by
  refine mkFn F hm (fun _ _ _ _ _ _ us hl => match us, hl with | [_, _], _ => rfl) (okG (k := 0) F scope__law_cells (fun vs H0 Q E h => ?_) (fun cdv A outer s H0 vs Q E hr hgd h => ?_))
  · obtain ⟨_, _, _, rfl, _⟩ := h; rfl
  · have nd := scope__law_cells.nd
    have hu := hr.units
    unfold sp__law_cells at h
    refine ⟨_, PSs.nox (pss_one (ps_ret (pe_listEnum rfl rfl Z.list_ rfl Z.enumerate_ (pe_op op_addA (pe_slice sl_list (pv 0) po_none (po_some (pv 1))) (pe_op op_mulA (pe_lst (pa_cons pe_int pa_nil)) (pe_callTy cl_int (by rfl) Z.int_ (by decide +kernel) (pa_cons (pe_cmpR (op_eqA hu) (pv 0) (pe_lst pa_nil) (nomark _)) pa_nil))))))), ?_⟩
    (try dsimp only [cxOf])
    obtain ⟨x_script, v_script, x_many, rfl, h_script, r0, hm, q⟩ := h
    let G_ : (List (Int × Int)) → Prop := fun r => ∀ v' H', Res K H0 r v' H' → Q v' H'
    have hq : ∀ r, r = r0 → G_ r := fun r e => by subst e; exact q
    clear q
    unfold m__law_cells at hm
    have W0 := Wd.start (K := K) H0
    have W1 := Wd.arg W0 h_script
    obtain ⟨a2, rfl⟩ := Wd.eqScr W1 (Kn.at 0 rfl)
    refine i_ret ?_
    refine i_tLE ?_
    refine i_op ?_
    refine i_sl ?_
    refine i_var rfl ?_
    refine i_nopart ?_
    refine i_part ?_
    refine i_var rfl ?_
    refine i_partI ?_
    refine w_slice W1 (Ls.scr (t := true) (Kn.at 0 rfl)) (fun p3 H4 W5 => ?_)
    have W6 := Wd.frz W5
    refine i_op ?_
    refine i_tlst ?_
    refine i_tcons ?_
    refine i_c ?_
    refine i_tnil ?_
    refine w_lst (α := Int) (t := true) W6 (KnL.cons Kn.int KnL.nil) (by show (1 : Nat) ≤ sizeLine; decide) (fun p7 H8 W9 => ?_)
    have W10 := Wd.frz W9
    refine i_cb ?_
    refine i_tcons ?_
    refine i_op ?_
    refine i_var rfl ?_
    refine i_tlst ?_
    refine i_tnil ?_
    refine w_lst (α := Int) (t := true) W10 KnL.nil (by show (0 : Nat) ≤ sizeLine; decide) (fun p11 H12 W13 => ?_)
    have W14 := Wd.frz W13
    refine w_eqScr W14 (Kn.at 3 rfl) (Lx.ls (Lx.kn (Kn.at 0 rfl))) ?_
    refine i_tnil ?_
    refine i_intB ?_
    replace hm := bndE hm
    obtain ⟨x15, h16, hm⟩ := hm
    refine w_rep W14 (Lx.kn (Kn.at 1 rfl)) h16 (fun p17 H18 W19 => ?_)
    have W20 := Wd.frz W19
    replace hm := bndE hm
    obtain ⟨x21, h22, hm⟩ := hm
    refine w_cat W20 (Lx.kn (Kn.at 3 rfl)) (Lx.kn (Kn.at 0 rfl)) h22 (fun p23 H24 W25 => ?_)
    have W26 := Wd.frz W25
    refine w_le W26 (Lx.ls (Lx.kn (Kn.at 0 rfl))) (fun p27 H28 W29 => ?_)
    exact hq _ (some_inj hm) _ _ (Wd.res (x := ((enumI 0 x21) : (List (Int × Int)))) W29 (Kn.at 0 rfl))
end
/-! ### _law_hand -/
abbrev sp__law_hand (K : PySem.W.Frag) : Sp := fun vs H Q _ => ∃ (x_cell : Int) (x_k : Int),  vs = [.int x_cell, .int x_k] ∧ ∃ r : (List Int), m__law_hand x_cell x_k = some r ∧ ∀ v' H', Res K H r v' H' → Q v' H'
section
variable {P : Program} {w : World} {K : PySem.W.Frag} {mg : Str → Option Value} {base : Heap}
abbrev N__law_hand : List Str := ["cell", "k", "digits"]
theorem scope__law_hand : FnScope N__law_hand ["cell", "k"] (defScope s__law_hand) := ⟨rfl, rfl, rfl, by decide +kernel, rfl, by decide +kernel, by decide +kernel⟩
theorem ok__law_hand {f : Addr} {fd : FuncData} (F : FunD K "_law_hand" "_law_hand" (defArgs s__law_hand) (defBody s__law_hand) (defScope s__law_hand) [] [] f fd) (hm : mg "_law_hand" = some (.ref f)) (Z : Blt mg) :
    Fn P w K mg base 1 "_law_hand" ["cell", "k"] (sp__law_hand K) := by
  refine mkFn F hm (fun _ _ _ _ _ _ us hl => match us, hl with | [_, _], _ => rfl) (okG (k := 0) F scope__law_hand (fun vs H0 Q E h => ?_) (fun cdv A outer s H0 vs Q E hr hgd h => ?_))
  · obtain ⟨_, _, rfl, _⟩ := h; rfl
  · have nd := scope__law_hand.nd
    have hu := hr.units
    unfold sp__law_hand at h
    refine ⟨_, PSs.nox (pss_cons (ps_set (i := 2) nd rfl (.inl rfl) pe_int)
    (C8.pss_cut (ps_if (pt_cmpR (op_geA hu) (pv 0) (pe_op op_pow pe_int pe_int) (nomark _)) (pss_one (ps_set (i := 2) nd rfl (.inl rfl) (pv 0))) pss_nil)
    (pss_one (ps_ret (pe_lst (pa_cons (pv 2) (pa_cons (pe_op op_mod (pe_op op_mulA (pe_op op_addA (pe_op op_addA (pe_op op_mod (pv 0) pe_int) (pe_op op_mulA pe_int (pv 1))) pe_int) pe_int) pe_int) pa_nil))))))), ?_⟩
    (try dsimp only [cxOf])
    obtain ⟨x_cell, x_k, rfl, r0, hm, q⟩ := h
    let G_ : (List Int) → Prop := fun r => ∀ v' H', Res K H0 r v' H' → Q v' H'
    have hq : ∀ r, r = r0 → G_ r := fun r e => by subst e; exact q
    clear q
    unfold m__law_hand at hm
    have W0 := Wd.start (K := K) H0
    refine i_seq ?_
    refine i_asg ?_
    refine i_c ?_
    refine i_gName ?_
    replace hm := bndE hm
    obtain ⟨s1, h2, hm⟩ := hm
    refine f_cut (NF K H0 (⟨fun b e => [some (.int x_cell), some (.int x_k), some (.int b)], fun b e => [], fun b e => []⟩ : Shp (Int) (Unit)) s1 ) ?_ ?_
    · have hm := h2
      refine i_ifS ?_
      refine i_test ?_
      refine i_op ?_
      refine i_var rfl ?_
      refine i_op ?_
      refine i_c ?_
      refine i_c ?_
      refine i_pow (n := 1000000000000000000) (by decide) (by decide) ?_
      refine i_geA ?_
      refine i_bl ?_
      rcases iteE hm with ⟨hb3, hm⟩ | ⟨hb3, hm⟩
      · refine i_bT hb3 ?_
        refine i_asg ?_
        refine i_var rfl ?_
        refine i_gName ?_
        have W4 := Wd.sel W0 [] rfl
        obtain rfl := some_inj hm
        exact ⟨(), rfl, W4⟩
      · refine i_bF hb3 ?_
        refine i_next ?_
        have W5 := Wd.sel W0 [] rfl
        obtain rfl := some_inj hm
        exact ⟨(), rfl, W5⟩
    · rintro _ H6 ⟨_, rfl, W7⟩
      dsimp only at W7 ⊢
      refine i_ret ?_
      refine i_tlst ?_
      refine i_tcons ?_
      refine i_var rfl ?_
      refine i_tcons ?_
      refine i_op ?_
      refine i_op ?_
      refine i_op ?_
      refine i_op ?_
      refine i_op ?_
      refine i_var rfl ?_
      refine i_c ?_
      refine i_mod (by decide) ?_
      refine i_op ?_
      refine i_c ?_
      refine i_var rfl ?_
      replace hm := bndE hm
      obtain ⟨x9, h10, hm⟩ := hm
      refine w_mul h10 ?_
      refine i_addI ?_
      refine i_c ?_
      refine i_addI ?_
      refine i_c ?_
      replace hm := bndE hm
      obtain ⟨x11, h12, hm⟩ := hm
      refine w_mul h12 ?_
      refine i_c ?_
      refine i_mod (by decide) ?_
      refine i_tnil ?_
      refine w_lst (α := Int) (t := true) W7 (KnL.cons Kn.int (KnL.cons Kn.int KnL.nil)) (by show (2 : Nat) ≤ sizeLine; decide) (fun p13 H14 W15 => ?_)
      have W16 := Wd.frz W15
      exact hq _ (some_inj hm) _ _ (Wd.res (x := (([s1, (x11 % 2147483587)] : List Int) : (List Int))) W16 (Kn.at 0 rfl))
end
/-! ### _law_great -/
abbrev sp__law_great (K : PySem.W.Frag) : Sp := fun vs H Q _ => ∃ (x_script : Scr) (v_script : V),  vs = [v_script] ∧ Rp.rep (lkA K H) x_script v_script ∧ ∃ r : Bool, m__law_great x_script = some r ∧ ∀ v' H', Res K H r v' H' → Q v' H'
section
variable {P : Program} {w : World} {K : PySem.W.Frag} {mg : Str → Option Value} {base : Heap}
abbrev N__law_great : List Str := ["script"]
theorem scope__law_great : FnScope N__law_great ["script"] (defScope s__law_great) := ⟨rfl, rfl, rfl, by decide +kernel, rfl, by decide +kernel, by decide +kernel⟩
theorem ok__law_great {f : Addr} {fd : FuncData} (F : FunD K "_law_great" "_law_great" (defArgs s__law_great) (defBody s__law_great) (defScope s__law_great) [] [] f fd) (hm : mg "_law_great" = some (.ref f)) (Z : Blt mg) :
    Fn P w K mg base 1 "_law_great" ["script"] (sp__law_great K) := by
  refine mkFn F hm (fun _ _ _ _ _ _ us hl => match us, hl with | [_], _ => rfl) (okG (k := 0) F scope__law_great (fun vs H0 Q E h => ?_) (fun cdv A outer s H0 vs Q E hr hgd h => ?_))
  · obtain ⟨_, _, rfl, _⟩ := h; rfl
  · have nd := scope__law_great.nd
    have hu := hr.units
    unfold sp__law_great at h
    refine ⟨_, PSs.nox (pss_one (ps_ret (pe_cmpR (op_eqA hu) (pe_op op_mod (pe_op op_fdivW (pe_callB (cr_sum rfl) (by rfl) Z.sum_ (by decide +kernel) (pa_cons (pv 0) pa_nil)) pe_int) pe_int) pe_int (nomark _)))), ?_⟩
    (try dsimp only [cxOf])
    obtain ⟨x_script, v_script, rfl, h_script, r0, hm, q⟩ := h
    let G_ : Bool → Prop := fun r => ∀ v' H', Res K H0 r v' H' → Q v' H'
    have hq : ∀ r, r = r0 → G_ r := fun r e => by subst e; exact q
    clear q
    unfold m__law_great at hm
    have W0 := Wd.start (K := K) H0
    have W1 := Wd.arg W0 h_script
    obtain ⟨a2, rfl⟩ := Wd.eqScr W1 (Kn.at 0 rfl)
    refine i_ret ?_
    refine i_op ?_
    refine i_op ?_
    refine i_op ?_
    refine i_cb ?_
    refine i_tcons ?_
    refine i_var rfl ?_
    refine i_tnil ?_
    refine w_sum W1 (Ls.scr (t := true) (Kn.at 0 rfl)) ?_
    refine i_c ?_
    refine i_fdiv (by decide) (by decide) ?_
    refine i_c ?_
    refine i_mod (by decide) ?_
    refine i_c ?_
    refine i_eqI ?_
    exact hq _ (some_inj hm) _ _ (Wd.res (x := ((decide ((((List.sum x_script.l) / 3) % 8) = 5)) : Bool)) W1 Kn.bl)
end
/-! ### _law_draw -/
abbrev sp__law_draw (K : PySem.W.Frag) : Sp := fun vs H Q _ => ∃ (a_hand : Addr) (x_hand : (List Int)) (us_hand : List V) (x_limit : Int),  vs = [.ref a_hand, .int x_limit] ∧ H a_hand = some (.lst us_hand) ∧ All2 (Rp.rep (lkN fun _ => none)) x_hand us_hand ∧ ∃ r : (Int × (List Int)), m__law_draw x_hand x_limit = some r ∧ ∀ v' H', Res1 K H a_hand r v' H' → Q v' H'
section
variable {P : Program} {w : World} {K : PySem.W.Frag} {mg : Str → Option Value} {base : Heap}
abbrev N__law_draw : List Str := ["hand", "limit", "got"]
theorem scope__law_draw : FnScope N__law_draw ["hand", "limit"] (defScope s__law_draw) := ⟨rfl, rfl, rfl, by decide +kernel, rfl, by decide +kernel, by decide +kernel⟩
theorem ok__law_draw {f : Addr} {fd : FuncData} (F : FunD K "_law_draw" "_law_draw" (defArgs s__law_draw) (defBody s__law_draw) (defScope s__law_draw) [] [] f fd) (hm : mg "_law_draw" = some (.ref f)) (Z : Blt mg) :
    Fn P w K mg base 1 "_law_draw" ["hand", "limit"] (sp__law_draw K) := by
  refine mkFn F hm (fun _ _ _ _ _ _ us hl => match us, hl with | [_, _], _ => rfl) (okG (k := 0) F scope__law_draw (fun vs H0 Q E h => ?_) (fun cdv A outer s H0 vs Q E hr hgd h => ?_))
  · obtain ⟨_, _, _, _, rfl, _⟩ := h; rfl
  · have nd := scope__law_draw.nd
    have hu := hr.units
    unfold sp__law_draw at h
    refine ⟨_, PSs.nox (pss_cons (ps_if (pt_cmpR (op_gtA hu) (pe_ix ix_seq (pv 0) pe_int (fun _ _ => rfl)) pe_int (nomark _)) (pss_cons (ps_set (i := 2) nd rfl (.inl rfl) (pe_op op_mod (pe_ix ix_seq (pv 0) pe_int (fun _ _ => rfl)) (pv 1)))
    (pss_cons (ps_asg (pe_op op_fdivW (pe_ix ix_seq (pv 0) pe_int (fun _ _ => rfl)) (pv 1)) (pg_sub (pv 0) pe_int set_list))
    (pss_one (ps_ret (pv 2))))) pss_nil)
    (pss_cons (ps_asg (pe_op op_mod (pe_op op_addA (pe_op op_addA (pe_op op_mulA (pe_ix ix_seq (pv 0) pe_int (fun _ _ => rfl)) (pe_ix ix_seq (pv 0) pe_int (fun _ _ => rfl))) (pe_op op_mulA pe_int (pe_ix ix_seq (pv 0) pe_int (fun _ _ => rfl)))) pe_int) pe_int) (pg_sub (pv 0) pe_int set_list))
    (pss_one (ps_ret (pe_op op_mod (pe_op op_fdivW (pe_ix ix_seq (pv 0) pe_int (fun _ _ => rfl)) pe_int) (pv 1)))))), ?_⟩
    (try dsimp only [cxOf])
    obtain ⟨a_hand, x_hand, us_hand, x_limit, rfl, ha_hand, hr_hand, r0, hm, q⟩ := h
    let G_ : (Int × (List Int)) → Prop := fun r => ∀ v' H', Res1 K H0 a_hand r v' H' → Q v' H'
    have hq : ∀ r, r = r0 → G_ r := fun r e => by subst e; exact q
    clear q
    unfold m__law_draw at hm
    have hB : H0 a_hand ≠ none := fun e => by rw [ha_hand] at e; cases e
    have W0 : Wd K (del H0 a_hand) [] [oL true a_hand x_hand] H0 := Wd.mut ha_hand hr_hand
    refine i_seq ?_
    refine i_ifS ?_
    refine i_test ?_
    refine i_op ?_
    refine i_op ?_
    refine i_var rfl ?_
    refine i_c ?_
    replace hm := bndE hm
    obtain ⟨x1, h2, hm⟩ := hm
    refine w_ixI W0 (Lx.ls (Lx.own 0 rfl)) h2 ?_
    refine i_c ?_
    refine i_gtA ?_
    refine i_bl ?_
    rcases iteE hm with ⟨hb3, hm⟩ | ⟨hb3, hm⟩
    · refine i_bT hb3 ?_
      refine i_seq ?_
      refine i_asg ?_
      refine i_op ?_
      refine i_op ?_
      refine i_var rfl ?_
      refine i_c ?_
      replace hm := bndE hm
      obtain ⟨x4, h5, hm⟩ := hm
      refine w_ixI W0 (Lx.ls (Lx.own 0 rfl)) h5 ?_
      refine i_var rfl ?_
      replace hm := bndE hm
      obtain ⟨x6, h7, hm⟩ := hm
      refine w_mod h7 ?_
      refine i_gName ?_
      refine i_seq ?_
      refine i_asg ?_
      refine i_op ?_
      refine i_op ?_
      refine i_var rfl ?_
      refine i_c ?_
      replace hm := bndE hm
      obtain ⟨x8, h9, hm⟩ := hm
      refine w_ixI W0 (Lx.ls (Lx.own 0 rfl)) h9 ?_
      refine i_var rfl ?_
      replace hm := bndE hm
      obtain ⟨x10, h11, hm⟩ := hm
      refine w_fdiv h11 ?_
      refine i_gSub ?_
      refine i_var rfl ?_
      refine i_c ?_
      replace hm := bndE hm
      obtain ⟨x12, h13, hm⟩ := hm
      refine w_set W0 0 rfl Kn.int h13 (fun H14 W15 => ?_)
      dsimp only [List.set] at W15
      clear W0
      refine i_ret ?_
      refine i_var rfl ?_
      exact hq _ (some_inj hm) _ _ (Wd.res1 (x := (x6 : Int)) W15 hB 0 rfl Kn.int)
    · refine i_bF hb3 ?_
      refine i_next ?_
      refine i_seq ?_
      refine i_asg ?_
      refine i_op ?_
      refine i_op ?_
      refine i_op ?_
      refine i_op ?_
      refine i_op ?_
      refine i_var rfl ?_
      refine i_c ?_
      replace hm := bndE hm
      obtain ⟨x16, h17, hm⟩ := hm
      refine w_ixI W0 (Lx.ls (Lx.own 0 rfl)) h17 ?_
      refine i_op ?_
      refine i_var rfl ?_
      refine i_c ?_
      replace hm := bndE hm
      obtain ⟨x18, h19, hm⟩ := hm
      refine w_ixI W0 (Lx.ls (Lx.own 0 rfl)) h19 ?_
      replace hm := bndE hm
      obtain ⟨x20, h21, hm⟩ := hm
      refine w_mul h21 ?_
      refine i_op ?_
      refine i_c ?_
      refine i_op ?_
      refine i_var rfl ?_
      refine i_c ?_
      replace hm := bndE hm
      obtain ⟨x22, h23, hm⟩ := hm
      refine w_ixI W0 (Lx.ls (Lx.own 0 rfl)) h23 ?_
      replace hm := bndE hm
      obtain ⟨x24, h25, hm⟩ := hm
      refine w_mul h25 ?_
      refine i_addI ?_
      refine i_c ?_
      refine i_addI ?_
      refine i_c ?_
      refine i_mod (by decide) ?_
      refine i_gSub ?_
      refine i_var rfl ?_
      refine i_c ?_
      replace hm := bndE hm
      obtain ⟨x26, h27, hm⟩ := hm
      refine w_set W0 0 rfl Kn.int h27 (fun H28 W29 => ?_)
      dsimp only [List.set] at W29
      clear W0
      refine i_ret ?_
      refine i_op ?_
      refine i_op ?_
      refine i_op ?_
      refine i_var rfl ?_
      refine i_c ?_
      replace hm := bndE hm
      obtain ⟨x30, h31, hm⟩ := hm
      refine w_ixI W29 (Lx.ls (Lx.own 0 rfl)) h31 ?_
      refine i_c ?_
      refine i_fdiv (by decide) (by decide) ?_
      refine i_var rfl ?_
      replace hm := bndE hm
      obtain ⟨x32, h33, hm⟩ := hm
      refine w_mod h33 ?_
      exact hq _ (some_inj hm) _ _ (Wd.res1 (x := (x32 : Int)) W29 hB 0 rfl Kn.int)
end
/-! ### _law_row -/
abbrev sp__law_row (K : PySem.W.Frag) : Sp := fun vs H Q _ => ∃ (a_hand : Addr) (x_hand : (List Int)) (us_hand : List V) (x_long : Bool),  vs = [.ref a_hand, .bl x_long] ∧ H a_hand = some (.lst us_hand) ∧ All2 (Rp.rep (lkN fun _ => none)) x_hand us_hand ∧ ∃ r : ((List Int) × (List Int)), m__law_row x_hand x_long = some r ∧ ∀ v' H', Res1 K H a_hand r v' H' → Q v' H'
section
variable {P : Program} {w : World} {K : PySem.W.Frag} {mg : Str → Option Value} {base : Heap}
abbrev N__law_row : List Str := ["hand", "long", "many", "reach", "kind", "row", "k", "number"]
theorem scope__law_row : FnScope N__law_row ["hand", "long"] (defScope s__law_row) := ⟨rfl, rfl, rfl, by decide +kernel, rfl, by decide +kernel, by decide +kernel⟩
-- comprehension scope 0
-- comprehension scope 1
theorem ok__law_row {f : Addr} {fd : FuncData} (F : FunD K "_law_row" "_law_row" (defArgs s__law_row) (defBody s__law_row) (defScope s__law_row) [] [] f fd) (hm : mg "_law_row" = some (.ref f)) (Z : Blt mg)
    (C__law_draw : Fn P w K mg base 1 "_law_draw" ["hand", "limit"] (sp__law_draw K)) :
    Fn P w K mg base 2 "_law_row" ["hand", "long"] (sp__law_row K) := by
  refine mkFn F hm (fun _ _ _ _ _ _ us hl => match us, hl with | [_, _], _ => rfl) (okG (k := 1) F scope__law_row (fun vs H0 Q E h => ?_) (fun cdv A outer s H0 vs Q E hr hgd h => ?_))
  · obtain ⟨_, _, _, _, rfl, _⟩ := h; rfl
  · have nd := scope__law_row.nd
    have hu := hr.units
    have hr__law_draw : Room 1 _ := hr.mono (by decide : 1 ≤ 1)
    unfold sp__law_row at h
    refine ⟨_, PSs.nox (pss_cons (ps_set (i := 2) nd rfl (.inl rfl) (pe_op op_addA pe_int (pe_fn C__law_draw hr__law_draw hgd (by rfl) passL (pa_cons (pv 0) (pa_cons (pe_ix ix_seq (pe_lst (pa_cons pe_int (pa_cons pe_int pa_nil))) (pe_fn C__law_draw hr__law_draw hgd (by rfl) passL (pa_cons (pv 0) (pa_cons pe_int pa_nil))) (fun _ _ => rfl)) pa_nil)))))
    (C8.pss_cut (ps_if (pt_val (pv 1)) (pss_one (ps_set (i := 2) nd rfl (.inl rfl) (pe_ix ix_seq (pe_lst (pa_cons (pe_op op_addA pe_int (pe_fn C__law_draw hr__law_draw hgd (by rfl) passL (pa_cons (pv 0) (pa_cons pe_int pa_nil)))) (pa_cons (pe_op op_addA pe_int (pe_fn C__law_draw hr__law_draw hgd (by rfl) passL (pa_cons (pv 0) (pa_cons pe_int pa_nil)))) pa_nil))) (pe_fn C__law_draw hr__law_draw hgd (by rfl) passL (pa_cons (pv 0) (pa_cons pe_int pa_nil))) (fun _ _ => rfl)))) pss_nil)
    (pss_cons (ps_set (i := 3) nd rfl (.inr rfl) (pe_ix ix_seq (pe_lst (pa_cons pe_int (pa_cons pe_int (pa_cons pe_int (pa_cons pe_int (pa_cons (pe_op op_pow pe_int pe_int) pa_nil)))))) (pe_fn C__law_draw hr__law_draw hgd (by rfl) passL (pa_cons (pv 0) (pa_cons pe_int pa_nil))) (fun _ _ => rfl)))
    (pss_cons (ps_set (i := 4) nd rfl (.inl rfl) (pe_fn C__law_draw hr__law_draw hgd (by rfl) passL (pa_cons (pv 0) (pa_cons pe_int pa_nil))))
    (pss_cons (ps_setLc (i := 5) (own := [("k", 6)]) (g := gName 6) (tt := tYes) (by rfl) nd rfl rfl (sw_true rfl rfl rfl (by decide +kernel)) (pi_range1 (by rfl) Z.range_ (pa_cons (pv 2) pa_nil)) (blkOk_by (own := [("k", 6)]) (N := N__law_row) (sc := (defScope s__law_row)) (by decide +kernel)) (fun _ _ _ _ _ => (pg_name (i := 6) nd rfl (.inl rfl))) (fun _ _ _ _ _ => pts_nil) (fun _ _ _ _ _ => (pe_fn C__law_draw hr__law_draw hgd (by rfl) passL (pa_cons (pv 0) (pa_cons (pe_op op_addA (pv 3) pe_int) pa_nil)))))
    (pss_cons (ps_if (pt_cmpR (op_eqA hu) (pv 4) pe_int (nomark _)) (pss_one (ps_ret (pe_op op_mulA (pe_lst (pa_cons (pe_ix ix_seq (pv 5) pe_int (fun _ _ => rfl)) pa_nil)) (pv 2)))) pss_nil)
    (pss_cons (ps_if (pt_cmpR (op_eqA hu) (pv 4) pe_int (nomark _)) (pss_one (ps_ret (pe_lc (own := [("number", 7)]) (g := gName 7) (tt := tYes) (by rfl) nd (pi_list (pv 5)) (blkOk_by (own := [("number", 7)]) (N := N__law_row) (sc := (defScope s__law_row)) (by decide +kernel)) (fun _ _ _ _ _ => (pg_name (i := 7) nd rfl (.inl rfl))) (fun _ _ _ _ _ => pts_nil) (fun _ _ _ _ _ => (pe_op op_mulA (pv 7) (pe_fn C__law_draw hr__law_draw hgd (by rfl) passL (pa_cons (pv 0) (pa_cons pe_int pa_nil)))))))) pss_nil)
    (pss_cons (ps_if (pt_cmpR (op_eqA hu) (pv 4) pe_int (nomark _)) (pss_one (ps_ret (pe_callB cr_sortedI (by rfl) Z.sorted_ (by decide +kernel) (pa_cons (pv 5) pa_nil)))) pss_nil)
    (C8.pss_cut (ps_if (pt_cmpR (op_eqA hu) (pv 4) pe_int (nomark _)) (pss_one (ps_asg (pe_op op_sub (pe_op op_pow pe_int pe_int) (pe_fn C__law_draw hr__law_draw hgd (by rfl) passL (pa_cons (pv 0) (pa_cons pe_int pa_nil)))) (pg_sub (pv 5) (pe_fn C__law_draw hr__law_draw hgd (by rfl) passL (pa_cons (pv 0) (pa_cons (pv 2) pa_nil))) set_list))) pss_nil)
    (pss_one (ps_ret (pv 5)))))))))))), ?_⟩
    (try dsimp only [cxOf])
    obtain ⟨a_hand, x_hand, us_hand, x_long, rfl, ha_hand, hr_hand, r0, hm, q⟩ := h
    let G_ : ((List Int) × (List Int)) → Prop := fun r => ∀ v' H', Res1 K H0 a_hand r v' H' → Q v' H'
    have hq : ∀ r, r = r0 → G_ r := fun r e => by subst e; exact q
    clear q
    unfold m__law_row at hm
    have hB : H0 a_hand ≠ none := fun e => by rw [ha_hand] at e; cases e
    have W0 : Wd K (del H0 a_hand) [] [oL true a_hand x_hand] H0 := Wd.mut ha_hand hr_hand
    refine i_seq ?_
    refine i_asg ?_
    refine i_op ?_
    refine i_c ?_
    refine i_call ?_
    refine i_tcons ?_
    refine i_var rfl ?_
    refine i_tcons ?_
    refine i_op ?_
    refine i_tlst ?_
    refine i_tcons ?_
    refine i_c ?_
    refine i_tcons ?_
    refine i_c ?_
    refine i_tnil ?_
    refine w_lst (α := Int) (t := true) W0 (KnL.cons Kn.int (KnL.cons Kn.int KnL.nil)) (by show (2 : Nat) ≤ sizeLine; decide) (fun p1 H2 W3 => ?_)
    have W4 := Wd.frz W3
    refine i_call ?_
    refine i_tcons ?_
    refine i_var rfl ?_
    refine i_tcons ?_
    refine i_c ?_
    refine i_tnil ?_
    replace hm := bndE hm
    obtain ⟨r5, h6, hm⟩ := hm
    obtain ⟨us13, h11, h12⟩ := Wd.ioa W4 0 rfl
    refine ⟨a_hand, (x_hand : List Int), us13, 2, rfl, h11, h12, r5, h6, fun v7 H8 R9 => ?_⟩
    obtain ⟨rfl, W10⟩ := Wd.call1I (i := r5.1) (ys' := r5.2) W4 0 rfl R9
    replace hm := bndE hm
    obtain ⟨x14, h15, hm⟩ := hm
    refine w_ixI W10 (Lx.ls (Lx.kn (Kn.at 0 rfl))) h15 ?_
    refine i_tnil ?_
    replace hm := bndE hm
    obtain ⟨r16, h17, hm⟩ := hm
    obtain ⟨us24, h22, h23⟩ := Wd.ioa W10 0 rfl
    refine ⟨a_hand, (r5.2 : List Int), us24, x14, rfl, h22, h23, r16, h17, fun v18 H19 R20 => ?_⟩
    obtain ⟨rfl, W21⟩ := Wd.call1I (i := r16.1) (ys' := r16.2) W10 0 rfl R20
    refine i_addI ?_
    refine i_gName ?_
    clear W0 W3 W4 W10
    replace hm := bndE hm
    obtain ⟨s25, h26, hm⟩ := hm
    refine f_cut (NF K (del H0 a_hand) (⟨fun b e => [some (.ref a_hand), some (.bl x_long), some (.int b.2), none, none, none, none, none], fun b e => [], fun b e => [oL true a_hand (b.1 : List Int)]⟩ : Shp ((List Int) × Int) (Unit)) s25 ) ?_ ?_
    · have hm := h26
      refine i_ifS ?_
      refine i_tB ?_
      refine i_var rfl ?_
      refine i_bl ?_
      rcases iteE hm with ⟨hb27, hm⟩ | ⟨hb27, hm⟩
      · refine i_bT hb27 ?_
        refine i_asg ?_
        refine i_op ?_
        refine i_tlst ?_
        refine i_tcons ?_
        refine i_op ?_
        refine i_c ?_
        refine i_call ?_
        refine i_tcons ?_
        refine i_var rfl ?_
        refine i_tcons ?_
        refine i_c ?_
        refine i_tnil ?_
        replace hm := bndE hm
        obtain ⟨r28, h29, hm⟩ := hm
        obtain ⟨us36, h34, h35⟩ := Wd.ioa W21 0 rfl
        refine ⟨a_hand, (r16.2 : List Int), us36, 108, rfl, h34, h35, r28, h29, fun v30 H31 R32 => ?_⟩
        obtain ⟨rfl, W33⟩ := Wd.call1I (i := r28.1) (ys' := r28.2) W21 0 rfl R32
        refine i_addI ?_
        refine i_tcons ?_
        refine i_op ?_
        refine i_c ?_
        refine i_call ?_
        refine i_tcons ?_
        refine i_var rfl ?_
        refine i_tcons ?_
        refine i_c ?_
        refine i_tnil ?_
        replace hm := bndE hm
        obtain ⟨r37, h38, hm⟩ := hm
        obtain ⟨us45, h43, h44⟩ := Wd.ioa W33 0 rfl
        refine ⟨a_hand, (r28.2 : List Int), us45, 11, rfl, h43, h44, r37, h38, fun v39 H40 R41 => ?_⟩
        obtain ⟨rfl, W42⟩ := Wd.call1I (i := r37.1) (ys' := r37.2) W33 0 rfl R41
        refine i_addI ?_
        refine i_tnil ?_
        refine w_lst (α := Int) (t := true) W42 (KnL.cons Kn.int (KnL.cons Kn.int KnL.nil)) (by show (2 : Nat) ≤ sizeLine; decide) (fun p46 H47 W48 => ?_)
        have W49 := Wd.frz W48
        refine i_call ?_
        refine i_tcons ?_
        refine i_var rfl ?_
        refine i_tcons ?_
        refine i_c ?_
        refine i_tnil ?_
        replace hm := bndE hm
        obtain ⟨r50, h51, hm⟩ := hm
        obtain ⟨us58, h56, h57⟩ := Wd.ioa W49 0 rfl
        refine ⟨a_hand, (r37.2 : List Int), us58, 2, rfl, h56, h57, r50, h51, fun v52 H53 R54 => ?_⟩
        obtain ⟨rfl, W55⟩ := Wd.call1I (i := r50.1) (ys' := r50.2) W49 0 rfl R54
        replace hm := bndE hm
        obtain ⟨x59, h60, hm⟩ := hm
        refine w_ixI W55 (Lx.ls (Lx.kn (Kn.at 0 rfl))) h60 ?_
        refine i_gName ?_
        clear W21 W33 W42 W48 W49
        have W61 := Wd.sel W55 [] rfl
        obtain rfl := some_inj hm
        exact ⟨(), rfl, W61⟩
      · refine i_bF hb27 ?_
        refine i_next ?_
        have W62 := Wd.sel W21 [] rfl
        obtain rfl := some_inj hm
        exact ⟨(), rfl, W62⟩
    · rintro _ H63 ⟨_, rfl, W64⟩
      dsimp only at W64 ⊢
      refine i_seq ?_
      refine i_asg ?_
      refine i_op ?_
      refine i_tlst ?_
      refine i_tcons ?_
      refine i_c ?_
      refine i_tcons ?_
      refine i_c ?_
      refine i_tcons ?_
      refine i_c ?_
      refine i_tcons ?_
      refine i_c ?_
      refine i_tcons ?_
      refine i_op ?_
      refine i_c ?_
      refine i_c ?_
      refine i_pow (n := 1000000000000) (by decide) (by decide) ?_
      refine i_tnil ?_
      refine w_lst (α := Int) (t := true) W64 (KnL.cons Kn.int (KnL.cons Kn.int (KnL.cons Kn.int (KnL.cons Kn.int (KnL.cons Kn.int KnL.nil))))) (by show (5 : Nat) ≤ sizeLine; decide) (fun p66 H67 W68 => ?_)
      have W69 := Wd.frz W68
      refine i_call ?_
      refine i_tcons ?_
      refine i_var rfl ?_
      refine i_tcons ?_
      refine i_c ?_
      refine i_tnil ?_
      replace hm := bndE hm
      obtain ⟨r70, h71, hm⟩ := hm
      obtain ⟨us78, h76, h77⟩ := Wd.ioa W69 0 rfl
      refine ⟨a_hand, (s25.1 : List Int), us78, 5, rfl, h76, h77, r70, h71, fun v72 H73 R74 => ?_⟩
      obtain ⟨rfl, W75⟩ := Wd.call1I (i := r70.1) (ys' := r70.2) W69 0 rfl R74
      replace hm := bndE hm
      obtain ⟨x79, h80, hm⟩ := hm
      refine w_ixI W75 (Lx.ls (Lx.kn (Kn.at 0 rfl))) h80 ?_
      refine i_gName ?_
      clear W64 W68 W69
      refine i_seq ?_
      refine i_asg ?_
      refine i_call ?_
      refine i_tcons ?_
      refine i_var rfl ?_
      refine i_tcons ?_
      refine i_c ?_
      refine i_tnil ?_
      replace hm := bndE hm
      obtain ⟨r81, h82, hm⟩ := hm
      obtain ⟨us89, h87, h88⟩ := Wd.ioa W75 0 rfl
      refine ⟨a_hand, (r70.2 : List Int), us89, 6, rfl, h87, h88, r81, h82, fun v83 H84 R85 => ?_⟩
      obtain ⟨rfl, W86⟩ := Wd.call1I (i := r81.1) (ys' := r81.2) W75 0 rfl R85
      refine i_gName ?_
      clear W75
      refine i_seq ?_
      refine i_asg ?_
      refine i_lc ?_
      refine i_iRng1 ?_
      refine i_tcons ?_
      refine i_var rfl ?_
      refine i_tnil ?_
      replace hm := bndE hm
      obtain ⟨x91, h92, hm⟩ := hm
      refine w_rg1 h92 (fun e90 => ?_)
      subst e90
      replace hm := bndE hm
      obtain ⟨x117, h118, hm⟩ := hm
      refine w_maps (γ := Int) (e0 := ()) (⟨fun b _ => [some (.ref a_hand), some (.bl x_long), some (.int s25.2), some (.int x79), some (.int r81.1), none, none, none], fun b _ => [fc true (([1, 2, 9, 1000, 1000000000000] : List Int) : (List Int)) (.ref p66)], fun b _ => [oL true a_hand (b : List Int)]⟩ : Shp (List Int) Unit) true h118 W86 (fun _ => gv_rng) (fun D95 x93 v94 b102 _ acc96 H97 y98 ha99 W100 hm => ?_) (fun p114 _ H115 W116 => ?_)
      · obtain rfl := Wd.eqI W100 (Kn.at 0 rfl)
        refine i_gName ?_
        refine i_wipe rfl ?_
        refine i_yes ?_
        refine i_T ?_
        refine i_call ?_
        refine i_tcons ?_
        refine i_var rfl ?_
        refine i_tcons ?_
        refine i_op ?_
        refine i_var rfl ?_
        refine i_c ?_
        refine i_addI ?_
        refine i_tnil ?_
        replace hm := bndE hm
        obtain ⟨r103, h104, hm⟩ := hm
        obtain ⟨us111, h109, h110⟩ := Wd.ioa W100 1 rfl
        refine ⟨a_hand, (b102 : List Int), us111, (x79 + 1), rfl, h109, h110, r103, h104, fun v105 H106 R107 => ?_⟩
        obtain ⟨rfl, W108⟩ := Wd.call1I (i := r103.1) (ys' := r103.2) W100 1 rfl R107
        obtain rfl := some_inj hm
        refine w_elt W108 Kn.int ha99 (fun H112 W113 => ?_)
        exact ⟨(), Wd.drop W113 1 rfl⟩
      refine i_gName ?_
      clear W86
      refine i_seq ?_
      refine i_ifS ?_
      refine i_test ?_
      refine i_op ?_
      refine i_var rfl ?_
      refine i_c ?_
      refine i_eqI ?_
      refine i_bl ?_
      rcases iteE hm with ⟨hb119, hm⟩ | ⟨hb119, hm⟩
      · refine i_bT hb119 ?_
        refine i_ret ?_
        refine i_op ?_
        refine i_tlst ?_
        refine i_tcons ?_
        refine i_op ?_
        refine i_var rfl ?_
        refine i_c ?_
        replace hm := bndE hm
        obtain ⟨x120, h121, hm⟩ := hm
        refine w_ixI W116 (Lx.ls (Lx.own 0 rfl)) h121 ?_
        refine i_tnil ?_
        refine w_lst (α := Int) (t := true) W116 (KnL.cons Kn.int KnL.nil) (by show (1 : Nat) ≤ sizeLine; decide) (fun p122 H123 W124 => ?_)
        have W125 := Wd.frz W124
        refine i_var rfl ?_
        replace hm := bndE hm
        obtain ⟨x126, h127, hm⟩ := hm
        refine w_rep W125 (Lx.kn (Kn.at 0 rfl)) h127 (fun p128 H129 W130 => ?_)
        have W131 := Wd.frz W130
        exact hq _ (some_inj hm) _ _ (Wd.res1 (x := (x126 : (List Int))) W131 hB 1 rfl (Kn.at 0 rfl))
      · refine i_bF hb119 ?_
        refine i_next ?_
        refine i_seq ?_
        refine i_ifS ?_
        refine i_test ?_
        refine i_op ?_
        refine i_var rfl ?_
        refine i_c ?_
        refine i_eqI ?_
        refine i_bl ?_
        rcases iteE hm with ⟨hb132, hm⟩ | ⟨hb132, hm⟩
        · refine i_bT hb132 ?_
          refine i_ret ?_
          refine i_lc ?_
          refine i_iList ?_
          refine i_var rfl ?_
          refine w_itL W116 (Lx.ls (Lx.own 0 rfl)) ?_
          replace hm := bndE hm
          obtain ⟨x159, h160, hm⟩ := hm
          refine w_maps (γ := Int) (e0 := ()) (⟨fun b _ => [some (.ref a_hand), some (.bl x_long), some (.int s25.2), some (.int x79), some (.int r81.1), some (.ref p114), none, none], fun b _ => [fc true (([1, 2, 9, 1000, 1000000000000] : List Int) : (List Int)) (.ref p66)], fun b _ => [oL true p114 (x117.1 : List Int), oL true a_hand (b : List Int)]⟩ : Shp (List Int) Unit) true h160 W116 (fun _ => (gv_list (fun _ _ => (Lx.ls (Lx.own 1 rfl))))) (fun D135 x133 v134 b142 _ acc136 H137 y138 ha139 W140 hm => ?_) (fun p156 _ H157 W158 => ?_)
          · obtain rfl := Wd.eqI W140 (Kn.at 0 rfl)
            refine i_gName ?_
            refine i_wipe rfl ?_
            refine i_yes ?_
            refine i_T ?_
            refine i_op ?_
            refine i_var rfl ?_
            refine i_call ?_
            refine i_tcons ?_
            refine i_var rfl ?_
            refine i_tcons ?_
            refine i_c ?_
            refine i_tnil ?_
            replace hm := bndE hm
            obtain ⟨r143, h144, hm⟩ := hm
            obtain ⟨us151, h149, h150⟩ := Wd.ioa W140 2 rfl
            refine ⟨a_hand, (b142 : List Int), us151, 2, rfl, h149, h150, r143, h144, fun v145 H146 R147 => ?_⟩
            obtain ⟨rfl, W148⟩ := Wd.call1I (i := r143.1) (ys' := r143.2) W140 2 rfl R147
            replace hm := bndE hm
            obtain ⟨x152, h153, hm⟩ := hm
            refine w_mul h153 ?_
            obtain rfl := some_inj hm
            refine w_elt W148 Kn.int ha139 (fun H154 W155 => ?_)
            exact ⟨(), Wd.drop W155 1 rfl⟩
          have W161 := Wd.frz W158
          exact hq _ (some_inj hm) _ _ (Wd.res1 (x := (x159.1 : (List Int))) W161 hB 1 rfl (Kn.at 0 rfl))
        · refine i_bF hb132 ?_
          refine i_next ?_
          refine i_seq ?_
          refine i_ifS ?_
          refine i_test ?_
          refine i_op ?_
          refine i_var rfl ?_
          refine i_c ?_
          refine i_eqI ?_
          refine i_bl ?_
          rcases iteE hm with ⟨hb162, hm⟩ | ⟨hb162, hm⟩
          · refine i_bT hb162 ?_
            refine i_ret ?_
            refine i_cb ?_
            refine i_tcons ?_
            refine i_var rfl ?_
            refine i_tnil ?_
            refine w_sorted W116 (Lx.ls (Lx.own 0 rfl)) (fun p163 H164 W165 => ?_)
            have W166 := Wd.frz W165
            exact hq _ (some_inj hm) _ _ (Wd.res1 (x := ((sortI x117.1) : (List Int))) W166 hB 1 rfl (Kn.at 0 rfl))
          · refine i_bF hb162 ?_
            refine i_next ?_
            replace hm := bndE hm
            obtain ⟨s167, h168, hm⟩ := hm
            refine f_cut (NF K (del H0 a_hand) (⟨fun b e => [some (.ref a_hand), some (.bl x_long), some (.int s25.2), some (.int x79), some (.int r81.1), some (.ref p114), none, none], fun b e => [], fun b e => [oL true p114 (b.2 : List Int), oL true a_hand (b.1 : List Int)]⟩ : Shp ((List Int) × (List Int)) (Unit)) s167 ) ?_ ?_
            · have hm := h168
              refine i_ifS ?_
              refine i_test ?_
              refine i_op ?_
              refine i_var rfl ?_
              refine i_c ?_
              refine i_eqI ?_
              refine i_bl ?_
              rcases iteE hm with ⟨hb169, hm⟩ | ⟨hb169, hm⟩
              · refine i_bT hb169 ?_
                refine i_asg ?_
                refine i_op ?_
                refine i_op ?_
                refine i_c ?_
                refine i_c ?_
                refine i_pow (n := 1000000000000) (by decide) (by decide) ?_
                refine i_call ?_
                refine i_tcons ?_
                refine i_var rfl ?_
                refine i_tcons ?_
                refine i_c ?_
                refine i_tnil ?_
                replace hm := bndE hm
                obtain ⟨r170, h171, hm⟩ := hm
                obtain ⟨us178, h176, h177⟩ := Wd.ioa W116 1 rfl
                refine ⟨a_hand, (x117.2 : List Int), us178, 9, rfl, h176, h177, r170, h171, fun v172 H173 R174 => ?_⟩
                obtain ⟨rfl, W175⟩ := Wd.call1I (i := r170.1) (ys' := r170.2) W116 1 rfl R174
                refine i_I0 ?_
                refine i_gSub ?_
                refine i_var rfl ?_
                refine i_call ?_
                refine i_tcons ?_
                refine i_var rfl ?_
                refine i_tcons ?_
                refine i_var rfl ?_
                refine i_tnil ?_
                replace hm := bndE hm
                obtain ⟨r179, h180, hm⟩ := hm
                obtain ⟨us187, h185, h186⟩ := Wd.ioa W175 1 rfl
                refine ⟨a_hand, (r170.2 : List Int), us187, s25.2, rfl, h185, h186, r179, h180, fun v181 H182 R183 => ?_⟩
                obtain ⟨rfl, W184⟩ := Wd.call1I (i := r179.1) (ys' := r179.2) W175 1 rfl R183
                replace hm := bndE hm
                obtain ⟨x188, h189, hm⟩ := hm
                refine w_set W184 0 rfl Kn.int h189 (fun H190 W191 => ?_)
                dsimp only [List.set] at W191
                clear W116 W175 W184
                have W192 := Wd.sel W191 [] rfl
                obtain rfl := some_inj hm
                exact ⟨(), rfl, W192⟩
              · refine i_bF hb169 ?_
                refine i_next ?_
                have W193 := Wd.sel W116 [] rfl
                obtain rfl := some_inj hm
                exact ⟨(), rfl, W193⟩
            · rintro _ H194 ⟨_, rfl, W195⟩
              dsimp only at W195 ⊢
              refine i_ret ?_
              refine i_var rfl ?_
              have W197 := Wd.frz W195
              exact hq _ (some_inj hm) _ _ (Wd.res1 (x := (s167.2 : (List Int))) W197 hB 0 rfl (Kn.at 0 rfl))
end
/-! ### _law_cut -/
abbrev sp__law_cut (K : PySem.W.Frag) : Sp := fun vs H Q _ => ∃ (a_hand : Addr) (x_hand : (List Int)) (us_hand : List V) (x_size : Int),  vs = [.ref a_hand, .int x_size] ∧ H a_hand = some (.lst us_hand) ∧ All2 (Rp.rep (lkN fun _ => none)) x_hand us_hand ∧ ∃ r : ((List Int) × (List Int)), m__law_cut x_hand x_size = some r ∧ ∀ v' H', Res1 K H a_hand r v' H' → Q v' H'
section
variable {P : Program} {w : World} {K : PySem.W.Frag} {mg : Str → Option Value} {base : Heap}
abbrev N__law_cut : List Str := ["hand", "size", "often", "place"]
theorem scope__law_cut : FnScope N__law_cut ["hand", "size"] (defScope s__law_cut) := ⟨rfl, rfl, rfl, by decide +kernel, rfl, by decide +kernel, by decide +kernel⟩
-- comprehension scope 0
theorem ok__law_cut {f : Addr} {fd : FuncData} (F : FunD K "_law_cut" "_law_cut" (defArgs s__law_cut) (defBody s__law_cut) (defScope s__law_cut) [] [] f fd) (hm : mg "_law_cut" = some (.ref f)) (Z : Blt mg)
    (C__law_draw : Fn P w K mg base 1 "_law_draw" ["hand", "limit"] (sp__law_draw K)) :
    Fn P w K mg base 2 "_law_cut" ["hand", "size"] (sp__law_cut K) := by
  refine mkFn F hm (fun _ _ _ _ _ _ us hl => match us, hl with | [_, _], _ => rfl) (okG (k := 1) F scope__law_cut (fun vs H0 Q E h => ?_) (fun cdv A outer s H0 vs Q E hr hgd h => ?_))
  · obtain ⟨_, _, _, _, rfl, _⟩ := h; rfl
  · have nd := scope__law_cut.nd
    have hu := hr.units
    have hr__law_draw : Room 1 _ := hr.mono (by decide : 1 ≤ 1)
    unfold sp__law_cut at h
    refine ⟨_, PSs.nox (pss_cons (ps_set (i := 2) nd rfl (.inr rfl) (pe_ix ix_seq (pe_lst (pa_cons pe_int (pa_cons pe_int (pa_cons pe_int pa_nil)))) (pe_fn C__law_draw hr__law_draw hgd (by rfl) passL (pa_cons (pv 0) (pa_cons pe_int pa_nil))) (fun _ _ => rfl)))
    (pss_one (ps_ret (pe_lc (own := [("place", 3)]) (g := gName 3) (by rfl) nd (pi_range2 (by rfl) Z.range_ (pa_cons pe_int (pa_cons (pv 1) pa_nil))) (blkOk_by (own := [("place", 3)]) (N := N__law_cut) (sc := (defScope s__law_cut)) (by decide +kernel)) (fun _ _ _ _ _ => (pg_name (i := 3) nd rfl (.inl rfl))) (fun _ _ _ _ _ => pts_one (pt_cmpR (r := rLtA K) (op_ltA hu) (pe_fn C__law_draw hr__law_draw hgd (by rfl) passL (pa_cons (pv 0) (pa_cons pe_int pa_nil))) (pv 2) (nomark _))) (fun _ _ _ _ _ => (pv 3)))))), ?_⟩
    (try dsimp only [cxOf])
    obtain ⟨a_hand, x_hand, us_hand, x_size, rfl, ha_hand, hr_hand, r0, hm, q⟩ := h
    let G_ : ((List Int) × (List Int)) → Prop := fun r => ∀ v' H', Res1 K H0 a_hand r v' H' → Q v' H'
    have hq : ∀ r, r = r0 → G_ r := fun r e => by subst e; exact q
    clear q
    unfold m__law_cut at hm
    have hB : H0 a_hand ≠ none := fun e => by rw [ha_hand] at e; cases e
    have W0 : Wd K (del H0 a_hand) [] [oL true a_hand x_hand] H0 := Wd.mut ha_hand hr_hand
    refine i_seq ?_
    refine i_asg ?_
    refine i_op ?_
    refine i_tlst ?_
    refine i_tcons ?_
    refine i_c ?_
    refine i_tcons ?_
    refine i_c ?_
    refine i_tcons ?_
    refine i_c ?_
    refine i_tnil ?_
    refine w_lst (α := Int) (t := true) W0 (KnL.cons Kn.int (KnL.cons Kn.int (KnL.cons Kn.int KnL.nil))) (by show (3 : Nat) ≤ sizeLine; decide) (fun p1 H2 W3 => ?_)
    have W4 := Wd.frz W3
    refine i_call ?_
    refine i_tcons ?_
    refine i_var rfl ?_
    refine i_tcons ?_
    refine i_c ?_
    refine i_tnil ?_
    replace hm := bndE hm
    obtain ⟨r5, h6, hm⟩ := hm
    obtain ⟨us13, h11, h12⟩ := Wd.ioa W4 0 rfl
    refine ⟨a_hand, (x_hand : List Int), us13, 3, rfl, h11, h12, r5, h6, fun v7 H8 R9 => ?_⟩
    obtain ⟨rfl, W10⟩ := Wd.call1I (i := r5.1) (ys' := r5.2) W4 0 rfl R9
    replace hm := bndE hm
    obtain ⟨x14, h15, hm⟩ := hm
    refine w_ixI W10 (Lx.ls (Lx.kn (Kn.at 0 rfl))) h15 ?_
    refine i_gName ?_
    clear W0 W3 W4
    refine i_ret ?_
    refine i_lc ?_
    refine i_iRng2 ?_
    refine i_tcons ?_
    refine i_c ?_
    refine i_tcons ?_
    refine i_var rfl ?_
    refine i_tnil ?_
    replace hm := bndE hm
    obtain ⟨x17, h18, hm⟩ := hm
    refine w_rg2 h18 (fun e16 => ?_)
    subst e16
    replace hm := bndE hm
    obtain ⟨x44, h45, hm⟩ := hm
    refine w_cmps (γ := Int) (e0 := ()) (⟨fun b _ => [some (.ref a_hand), some (.int x_size), some (.int x14), none], fun b _ => [fc true (([1, 3, 5] : List Int) : (List Int)) (.ref p1)], fun b _ => [oL true a_hand (b : List Int)]⟩ : Shp (List Int) Unit) true h45 W10 (fun _ => gv_rng) (fun D21 x19 v20 b28 _ acc22 H23 y24 ha25 W26 hm => ?_) (fun p41 _ H42 W43 => ?_)
    · obtain rfl := Wd.eqI W26 (Kn.at 0 rfl)
      refine i_gName ?_
      refine i_wipe rfl ?_
      refine i_test ?_
      refine i_op ?_
      refine i_call ?_
      refine i_tcons ?_
      refine i_var rfl ?_
      refine i_tcons ?_
      refine i_c ?_
      refine i_tnil ?_
      replace hm := bndE hm
      obtain ⟨r29, h30, hm⟩ := hm
      obtain ⟨us37, h35, h36⟩ := Wd.ioa W26 1 rfl
      refine ⟨a_hand, (b28 : List Int), us37, 6, rfl, h35, h36, r29, h30, fun v31 H32 R33 => ?_⟩
      obtain ⟨rfl, W34⟩ := Wd.call1I (i := r29.1) (ys' := r29.2) W26 1 rfl R33
      refine i_var rfl ?_
      refine i_ltA ?_
      refine i_bl ?_
      rcases iteE hm with ⟨hb38, hm⟩ | ⟨hb38, hm⟩
      · refine i_bT hb38 ?_
        refine i_var rfl ?_
        obtain rfl := some_inj hm
        refine w_elt W34 Kn.int ha25 (fun H39 W40 => ?_)
        exact ⟨(), Wd.drop W40 1 rfl⟩
      · refine i_bF hb38 ?_
        obtain rfl := some_inj hm
        have hn := Wd.drop W34 1 rfl
        exact ⟨(), by rw [show (none : Option Int).toList = [] from rfl, List.append_nil]; exact hn⟩
    have W46 := Wd.frz W43
    exact hq _ (some_inj hm) _ _ (Wd.res1 (x := (x44.1 : (List Int))) W46 hB 0 rfl (Kn.at 0 rfl))
end
/-! ### _law_due -/
abbrev sp__law_due (K : PySem.W.Frag) : Sp := fun vs H Q _ => ∃ (x_row : (List Int)) (v_row : V) (x_cut : (List Int)) (v_cut : V),  vs = [v_row, v_cut] ∧ Rp.rep (lkA K H) x_row v_row ∧ Rp.rep (lkA K H) x_cut v_cut ∧ ∃ r : (List (List Int)), m__law_due x_row x_cut = some r ∧ ∀ v' H', Res K H r v' H' → Q v' H'
section
variable {P : Program} {w : World} {K : PySem.W.Frag} {mg : Str → Option Value} {base : Heap}
abbrev N__law_due : List Str := ["row", "cut", "found", "place", "number"]
theorem scope__law_due : FnScope N__law_due ["row", "cut"] (defScope s__law_due) := ⟨rfl, rfl, rfl, by decide +kernel, rfl, by decide +kernel, by decide +kernel⟩
theorem ok__law_due {f : Addr} {fd : FuncData} (F : FunD K "_law_due" "_law_due" (defArgs s__law_due) (defBody s__law_due) (defScope s__law_due) [] [] f fd) (hm : mg "_law_due" = some (.ref f)) (Z : Blt mg) :
    Fn P w K mg base 1 "_law_due" ["row", "cut"] (sp__law_due K) := by
  refine mkFn F hm (fun _ _ _ _ _ _ us hl => match us, hl with | [_, _], _ => rfl) (okG (k := 0) F scope__law_due (fun vs H0 Q E h => ?_) (fun cdv A outer s H0 vs Q E hr hgd h => ?_))
  · obtain ⟨_, _, _, _, rfl, _⟩ := h; rfl
  · have nd := scope__law_due.nd
    have hu := hr.units
    unfold sp__law_due at h
    refine ⟨_, PSs.nox (pss_cons (ps_set (i := 2) nd rfl (.inl rfl) (pe_lst pa_nil))
    (pss_cons (ps_for PassesOwn.never rfl (pi_enum (by rfl) Z.enumerate_ (pa_cons (pv 0) pa_nil)) (pg_tup (by rfl) (pgs_cons (pg_name (i := 3) nd rfl (.inl rfl)) (pgs_cons (pg_name (i := 4) nd rfl (.inl rfl)) pgs_nil))) (C8.pss_cut (ps_if (PW.pt (pw_or (pt_cmpR (op_eqA hu) (pv 3) pe_int (nomark _)) (pw_or1 (pt_cmpR op_in_seq (pv 3) (pv 1) (by rfl))))) (pss_one (ps_expr (pe_bmK (K := K) PySem.F.plainAttrs_list PySem.F.slot_list_append PySem.F.type_list_append mt_append (pv 2) (pa_cons (pe_lst pa_nil) pa_nil)))) pss_nil)
    (pss_one (ps_expr (pe_bmK (K := K) PySem.F.plainAttrs_list PySem.F.slot_list_append PySem.F.type_list_append mt_append (pe_ix ix_seq (pv 2) (pe_un un_neg pe_int) (fun _ _ => rfl)) (pa_cons (pv 4) pa_nil))))))
    (pss_one (ps_ret (pv 2))))), ?_⟩
    (try dsimp only [cxOf])
    obtain ⟨x_row, v_row, x_cut, v_cut, rfl, h_row, h_cut, r0, hm, q⟩ := h
    let G_ : (List (List Int)) → Prop := fun r => ∀ v' H', Res K H0 r v' H' → Q v' H'
    have hq : ∀ r, r = r0 → G_ r := fun r e => by subst e; exact q
    clear q
    unfold m__law_due at hm
    have W0 := Wd.start (K := K) H0
    have W0 := Wd.start (K := K) H0
    have W1 := Wd.arg W0 h_row
    obtain ⟨a2, rfl⟩ := Wd.eqL W1 (Kn.at 0 rfl)
    have W3 := Wd.arg W1 h_cut
    obtain ⟨a4, rfl⟩ := Wd.eqL W3 (Kn.at 0 rfl)
    refine i_seq ?_
    refine i_asg ?_
    refine i_tlst ?_
    refine i_tnil ?_
    refine w_lst (α := (List Int)) (t := true) W3 KnL.nil (by show (0 : Nat) ≤ sizeLine; decide) (fun p5 H6 W7 => ?_)
    refine i_gName ?_
    clear W0 W1 W3
    refine i_seq ?_
    refine i_for ?_
    refine i_iEnum ?_
    refine i_tcons ?_
    refine i_var rfl ?_
    refine i_tnil ?_
    refine w_en W7 (Lx.ls (Lx.flat (t := true) (Lx.kn (Kn.at 1 rfl)))) ?_
    have W8 := Wd.toN (Wd.sel W7 [1, 0] rfl)
    replace hm := bndE hm
    obtain ⟨o14, h15, hm⟩ := hm
    refine w_fold (⟨fun b e => [some (.ref a2), some (.ref a4), some (.ref p5), e.2.1, e.1], fun b e => [fc false (x_row : (List Int)) (.ref a2), fc false (x_cut : (List Int)) (.ref a4)], fun b e => owD p5 b e.2.2⟩ : Shp DS (Option V × Option V × Addr)) (none, none, p5) h15 rfl W8 (gv_enum (fun _ _ => (Lx.ls (Lx.flat (t := true) (Lx.kn (Kn.at 0 rfl)))))) ?_ ?_
    · intro x11 v12 b9 e10 H16 o17 W13 hm
      obtain ⟨e10_0, e10_1, q_⟩ := e10
      dsimp only at W13 ⊢
      obtain ⟨a22, rfl⟩ := Wd.eqP W13 (Kn.at 0 rfl)
      refine i_gTup ?_
      refine w_unpP W13 (Kn.at 0 rfl) (fun u23 u24 W25 => ?_)
      obtain rfl := Wd.eqI W25 (Kn.at 0 rfl)
      obtain rfl := Wd.eqI W25 (Kn.at 1 rfl)
      refine i_gCons ?_
      refine i_gName ?_
      refine i_gCons ?_
      refine i_gName ?_
      refine i_gNil ?_
      clear W13
      replace hm := bndE hm
      obtain ⟨s26, h27, hm⟩ := hm
      refine f_cut (NF K H0 (⟨fun b e => [some (.ref a2), some (.ref a4), some (.ref p5), some (.int x11.1), some (.int x11.2)], fun b e => [fc false (x_row : (List Int)) (.ref a2), fc false (x_cut : (List Int)) (.ref a4)], fun b e => owD p5 b e⟩ : Shp DS Addr) s26 ) ?_ ?_
      · have hm := h27
        refine i_ifS ?_
        refine i_or ?_
        refine i_test ?_
        refine i_op ?_
        refine i_var rfl ?_
        refine i_c ?_
        refine i_eqI ?_
        refine i_bl ?_
        refine w_orW (L' := _) ((decide (x11.1 = 0)) || (decide (x11.1 ∈ x_cut))) W25 (fun hb28 P29 hP30 => ?_) (fun hb28 => ⟨or_t hb28, W25⟩) (fun H31 W32 => ?_)
        · refine i_test ?_
          refine i_op ?_
          refine i_var rfl ?_
          refine i_var rfl ?_
          refine w_in W25 (Lx.ls (Lx.flat (t := true) (Lx.kn (Kn.at 4 rfl)))) ?_
          refine i_bl ?_
          exact hP30 _ _ (or_f hb28) W25
        clear W25
        rcases iteE hm with ⟨hb33, hm⟩ | ⟨hb33, hm⟩
        · refine i_bT hb33 ?_
          refine i_drop ?_
          refine i_bm ?_
          refine i_var rfl ?_
          obtain ⟨vs_, hl_⟩ := owD_l (L := []) W32
          refine i_mtL (SqL.of hl_) ?_
          refine i_tcons ?_
          refine i_tlst ?_
          refine i_tnil ?_
          refine w_lst (α := Int) (t := true) W32 KnL.nil (by show (0 : Nat) ≤ sizeLine; decide) (fun p34 H35 W36 => ?_)
          refine i_tnil ?_
          refine w_dueA W36 hm (fun H40 W41 => ?_)
          have W42 := Wd.sel W41 [3, 4] rfl
          exact ⟨p34, rfl, W42⟩
        · refine i_bF hb33 ?_
          refine i_next ?_
          have W43 := Wd.sel W32 [3, 4] rfl
          obtain rfl := some_inj hm
          exact ⟨q_, rfl, W43⟩
      · rintro _ H44 ⟨q2_, rfl, W45⟩
        dsimp only at W45 ⊢
        refine i_drop ?_
        refine i_bm ?_
        refine i_op ?_
        refine i_var rfl ?_
        refine i_un ?_
        refine i_c ?_
        refine i_rU ?_
        refine w_ixD W45 hm ?_
        obtain ⟨ws_, hw_⟩ := w_lastl W45 hm
        refine i_mtL (SqL.of hw_) ?_
        refine i_tcons ?_
        refine i_var rfl ?_
        refine i_tnil ?_
        refine w_appD W45 hm (fun H53 W54 => ?_)
        exact ⟨(some (.int x11.2), some (.int x11.1), q2_), rfl, W54⟩
    · intro e57 H58 W59
      obtain ⟨e57_0, e57_1, q3_⟩ := e57
      dsimp only at W59 ⊢
      refine i_ret ?_
      refine i_var rfl ?_
      exact hq _ (some_inj hm) _ _ (Wd.dueRes W59)
end
/-! ### pieces -/
abbrev sp_pieces (K : PySem.W.Frag) : Sp := fun vs H Q _ => ∃ (x_row : (List Int)) (v_row : V) (x_cut : (List Int)) (v_cut : V),  vs = [v_row, v_cut] ∧ Rp.rep (lkA K H) x_row v_row ∧ Rp.rep (lkA K H) x_cut v_cut ∧ ∃ r : (List (List Int)), m_pieces x_row x_cut = some r ∧ ∀ v' H', ResD K H r v' H' → Q v' H'
section
variable {P : Program} {w : World} {K : PySem.W.Frag} {mg : Str → Option Value} {base : Heap}
abbrev N_pieces : List Str := ["row", "cut", "begin", "end"]
theorem scope_pieces : FnScope N_pieces ["row", "cut"] (defScope s_pieces) := ⟨rfl, rfl, rfl, by decide +kernel, rfl, by decide +kernel, by decide +kernel⟩
-- comprehension scope 0
theorem ok_pieces {f : Addr} {fd : FuncData} (F : FunD K "pieces" "pieces" (defArgs s_pieces) (defBody s_pieces) (defScope s_pieces) [] [] f fd) (hm : mg "pieces" = some (.ref f)) (Z : Blt mg) :
    Fn P w K mg base 1 "pieces" ["row", "cut"] (sp_pieces K) := by
  refine mkFn F hm (fun _ _ _ _ _ _ us hl => match us, hl with | [_, _], _ => rfl) (okG (k := 0) F scope_pieces (fun vs H0 Q E h => ?_) (fun cdv A outer s H0 vs Q E hr hgd h => ?_))
  · obtain ⟨_, _, _, _, rfl, _⟩ := h; rfl
  · have nd := scope_pieces.nd
    have hu := hr.units
    unfold sp_pieces at h
    refine ⟨_, PSs.nox (pss_one (ps_ret (pe_lc (own := [("begin", 2), ("end", 3)]) (g := gTup K 2 (gCons (gName 2) (gCons (gName 3) (gNil)))) (tt := tYes) (by rfl) nd (pi_zip (by rfl) Z.zip_ (pa_cons (pe_op op_addA (pe_lst (pa_cons pe_int pa_nil)) (pv 1)) (pa_cons (pe_op op_addA (pv 1) (pe_lst (pa_cons (pe_callB cl_len (by rfl) Z.len_ (by decide +kernel) (pa_cons (pv 0) pa_nil)) pa_nil))) pa_nil))) (blkOk_by (own := [("begin", 2), ("end", 3)]) (N := N_pieces) (sc := (defScope s_pieces)) (by decide +kernel)) (fun _ _ _ _ _ => (pg_tup (by rfl) (pgs_cons (pg_name (i := 2) nd rfl (.inl rfl)) (pgs_cons (pg_name (i := 3) nd rfl (.inl rfl)) pgs_nil)))) (fun _ _ _ _ _ => pts_nil) (fun _ _ _ _ _ => (pe_slice (r := rSlL K) sl_list (pv 0) (po_some (pv 2)) (po_some (pv 3))))))), ?_⟩
    (try dsimp only [cxOf])
    obtain ⟨x_row, v_row, x_cut, v_cut, rfl, h_row, h_cut, r0, hm, q⟩ := h
    let G_ : (List (List Int)) → Prop := fun r => ∀ v' H', ResD K H0 r v' H' → Q v' H'
    have hq : ∀ r, r = r0 → G_ r := fun r e => by subst e; exact q
    clear q
    unfold m_pieces at hm
    have W0 := Wd.start (K := K) H0
    have W1 := Wd.arg W0 h_row
    obtain ⟨a2, rfl⟩ := Wd.eqL W1 (Kn.at 0 rfl)
    have W3 := Wd.arg W1 h_cut
    obtain ⟨a4, rfl⟩ := Wd.eqL W3 (Kn.at 0 rfl)
    refine i_ret ?_
    refine i_lc ?_
    refine i_iZip ?_
    refine i_tcons ?_
    refine i_op ?_
    refine i_tlst ?_
    refine i_tcons ?_
    refine i_c ?_
    refine i_tnil ?_
    refine w_lst (α := Int) (t := true) W3 (KnL.cons Kn.int KnL.nil) (by show (1 : Nat) ≤ sizeLine; decide) (fun p5 H6 W7 => ?_)
    have W8 := Wd.frz W7
    refine i_var rfl ?_
    replace hm := bndE hm
    obtain ⟨x9, h10, hm⟩ := hm
    refine w_cat W8 (Lx.kn (Kn.at 0 rfl)) (Lx.flat (t := true) (Lx.kn (Kn.at 1 rfl))) h10 (fun p11 H12 W13 => ?_)
    have W14 := Wd.frz W13
    refine i_tcons ?_
    refine i_op ?_
    refine i_var rfl ?_
    refine i_tlst ?_
    refine i_tcons ?_
    refine i_cb ?_
    refine i_tcons ?_
    refine i_var rfl ?_
    refine i_tnil ?_
    refine w_len W14 (Lx.ls (Lx.flat (t := true) (Lx.kn (Kn.at 3 rfl)))) ?_
    refine i_tnil ?_
    refine w_lst (α := Int) (t := true) W14 (KnL.cons Kn.int KnL.nil) (by show (1 : Nat) ≤ sizeLine; decide) (fun p15 H16 W17 => ?_)
    have W18 := Wd.frz W17
    replace hm := bndE hm
    obtain ⟨x19, h20, hm⟩ := hm
    refine w_cat W18 (Lx.flat (t := true) (Lx.kn (Kn.at 3 rfl))) (Lx.kn (Kn.at 0 rfl)) h20 (fun p21 H22 W23 => ?_)
    have W24 := Wd.frz W23
    refine i_tnil ?_
    refine w_zp W24 (Lx.ls (Lx.kn (Kn.at 2 rfl))) (Lx.ls (Lx.kn (Kn.at 0 rfl))) ?_
    replace hm := bndE hm
    obtain ⟨x47, h48, hm⟩ := hm
    refine w_mapN h48 W24 (fun _ => (gv_zip (fun _ _ => (Lx.ls (Lx.kn (Kn.at 2 rfl)))) (fun _ _ => (Lx.ls (Lx.kn (Kn.at 0 rfl)))))) (fun D27 x25 v26 acc28 H29 y30 ha31 W32 hm => ?_) (fun p44 H45 W46 => ?_)
    · obtain ⟨a34, rfl⟩ := Wd.eqP W32 (Kn.at 0 rfl)
      refine i_gTup ?_
      refine w_unpP W32 (Kn.at 0 rfl) (fun u35 u36 W37 => ?_)
      obtain rfl := Wd.eqI W37 (Kn.at 0 rfl)
      obtain rfl := Wd.eqI W37 (Kn.at 1 rfl)
      refine i_gCons ?_
      refine i_gName ?_
      refine i_gCons ?_
      refine i_gName ?_
      refine i_gNil ?_
      refine i_wipe rfl ?_
      refine i_yes ?_
      refine i_T ?_
      refine i_sl ?_
      refine i_var rfl ?_
      refine i_part ?_
      refine i_var rfl ?_
      refine i_partI ?_
      refine i_part ?_
      refine i_var rfl ?_
      refine i_partI ?_
      refine w_slice W37 (Lx.ls (Lx.flat (t := true) (Lx.kn (Kn.at 8 rfl)))) (fun p38 H39 W40 => ?_)
      obtain rfl := some_inj hm
      refine w_pushE W40 ha31 (fun H42 W43 => ?_)
      exact Wd.close (Wd.drop W43 3 rfl)
    exact hq _ (some_inj hm) _ _ (Wd.resD W46)
end
/-! ### sums_of -/
abbrev sp_sums_of (K : PySem.W.Frag) : Sp := fun vs H Q _ => ∃ (x_row : (List Int)) (v_row : V) (x_cut : (List Int)) (v_cut : V),  vs = [v_row, v_cut] ∧ Rp.rep (lkA K H) x_row v_row ∧ Rp.rep (lkA K H) x_cut v_cut ∧ ∃ r : (List Int), m_sums_of x_row x_cut = some r ∧ ∀ v' H', Res K H r v' H' → Q v' H'
section
variable {P : Program} {w : World} {K : PySem.W.Frag} {mg : Str → Option Value} {base : Heap}
abbrev N_sums_of : List Str := ["row", "cut", "piece"]
theorem scope_sums_of : FnScope N_sums_of ["row", "cut"] (defScope s_sums_of) := ⟨rfl, rfl, rfl, by decide +kernel, rfl, by decide +kernel, by decide +kernel⟩
-- comprehension scope 0
theorem ok_sums_of {f : Addr} {fd : FuncData} (F : FunD K "sums_of" "sums_of" (defArgs s_sums_of) (defBody s_sums_of) (defScope s_sums_of) [] [] f fd) (hm : mg "sums_of" = some (.ref f)) (Z : Blt mg)
    (C_pieces : Fn P w K mg base 1 "pieces" ["row", "cut"] (sp_pieces K)) :
    Fn P w K mg base 2 "sums_of" ["row", "cut"] (sp_sums_of K) := by
  refine mkFn F hm (fun _ _ _ _ _ _ us hl => match us, hl with | [_, _], _ => rfl) (okG (k := 1) F scope_sums_of (fun vs H0 Q E h => ?_) (fun cdv A outer s H0 vs Q E hr hgd h => ?_))
  · obtain ⟨_, _, _, _, rfl, _⟩ := h; rfl
  · have nd := scope_sums_of.nd
    have hu := hr.units
    have hr_pieces : Room 1 _ := hr.mono (by decide : 1 ≤ 1)
    unfold sp_sums_of at h
    refine ⟨_, PSs.nox (pss_one (ps_ret (pe_lc (own := [("piece", 2)]) (g := gName 2) (tt := tYes) (by rfl) nd (pi_list (pe_fn C_pieces hr_pieces hgd (by rfl) passL (pa_cons (pv 0) (pa_cons (pv 1) pa_nil)))) (blkOk_by (own := [("piece", 2)]) (N := N_sums_of) (sc := (defScope s_sums_of)) (by decide +kernel)) (fun _ _ _ _ _ => (pg_name (i := 2) nd rfl (.inl rfl))) (fun _ _ _ _ _ => pts_nil) (fun _ _ _ _ _ => (pe_callB (r := rSum K) (cr_sum rfl) (by rfl) Z.sum_ (by decide +kernel) (pa_cons (pv 2) pa_nil)))))), ?_⟩
    (try dsimp only [cxOf])
    obtain ⟨x_row, v_row, x_cut, v_cut, rfl, h_row, h_cut, r0, hm, q⟩ := h
    let G_ : (List Int) → Prop := fun r => ∀ v' H', Res K H0 r v' H' → Q v' H'
    have hq : ∀ r, r = r0 → G_ r := fun r e => by subst e; exact q
    clear q
    unfold m_sums_of at hm
    have W0 := Wd.start (K := K) H0
    have W1 := Wd.arg W0 h_row
    obtain ⟨a2, rfl⟩ := Wd.eqL W1 (Kn.at 0 rfl)
    have W3 := Wd.arg W1 h_cut
    obtain ⟨a4, rfl⟩ := Wd.eqL W3 (Kn.at 0 rfl)
    refine i_ret ?_
    refine i_lc ?_
    refine i_iList ?_
    refine i_call ?_
    refine i_tcons ?_
    refine i_var rfl ?_
    refine i_tcons ?_
    refine i_var rfl ?_
    refine i_tnil ?_
    replace hm := bndE hm
    obtain ⟨r5, h6, hm⟩ := hm
    refine ⟨(x_row : (List Int)), _, (x_cut : (List Int)), _, rfl, (Wd.arr W3 (Ar.kn (t := false) (Kn.at 1 rfl))), (Wd.arr W3 (Ar.kn (t := false) (Kn.at 0 rfl))), r5, h6, fun v7 H8 R9 => ?_⟩
    have W10 := Wd.call W3 (ResD.res R9)
    obtain ⟨a11, rfl⟩ := Wd.eqL W10 (Kn.at 0 rfl)
    refine w_itL W10 (Lx.ls (Lx.kn (Kn.at 0 rfl))) ?_
    replace hm := bndE hm
    obtain ⟨x27, h28, hm⟩ := hm
    refine w_map (γ := Int) true h28 W10 (fun _ => (gv_list (fun _ _ => (Lx.ls (Lx.kn (Kn.at 0 rfl)))))) (fun D14 x12 v13 acc15 H16 y17 ha18 W19 hm => ?_) (fun p24 H25 W26 => ?_)
    · obtain ⟨a21, rfl⟩ := Wd.eqL W19 (Kn.at 0 rfl)
      refine i_gName ?_
      refine i_wipe rfl ?_
      refine i_yes ?_
      refine i_T ?_
      refine i_cb ?_
      refine i_tcons ?_
      refine i_var rfl ?_
      refine i_tnil ?_
      refine w_sum W19 (Lx.ls (Lx.kn (Kn.at 0 rfl))) ?_
      obtain rfl := some_inj hm
      refine w_elt W19 Kn.int ha18 (fun H22 W23 => ?_)
      exact ⟨(), Wd.drop W23 1 rfl⟩
    have W29 := Wd.frz W26
    exact hq _ (some_inj hm) _ _ (Wd.res (x := (x27 : (List Int))) W29 (Kn.at 0 rfl))
end
/-! ### _law_same -/
abbrev sp__law_same (K : PySem.W.Frag) : Sp := fun vs H Q _ => ∃ (x_found : (List (Un Int (List Int)))) (v_found : V) (x_due : (List (Un Int (List Int)))) (v_due : V),  vs = [v_found, v_due] ∧ Rp.rep (lkA K H) x_found v_found ∧ Rp.rep (lkA K H) x_due v_due ∧ ∃ r : Bool, m__law_same x_found x_due = some r ∧ ∀ v' H', Res K H r v' H' → Q v' H'
section
variable {P : Program} {w : World} {K : PySem.W.Frag} {mg : Str → Option Value} {base : Heap}
abbrev N__law_same : List Str := ["found", "due"]
theorem scope__law_same : FnScope N__law_same ["found", "due"] (defScope s__law_same) := ⟨rfl, rfl, rfl, by decide +kernel, rfl, by decide +kernel, by decide +kernel⟩
theorem ok__law_same {f : Addr} {fd : FuncData} (F : FunD K "_law_same" "_law_same" (defArgs s__law_same) (defBody s__law_same) (defScope s__law_same) [] [] f fd) (hm : mg "_law_same" = some (.ref f)) (Z : Blt mg) :
    Fn P w K mg base 1 "_law_same" ["found", "due"] (sp__law_same K) := by
  refine mkFn F hm (fun _ _ _ _ _ _ us hl => match us, hl with | [_, _], _ => rfl) (okG (k := 0) F scope__law_same (fun vs H0 Q E h => ?_) (fun cdv A outer s H0 vs Q E hr hgd h => ?_))
  · obtain ⟨_, _, _, _, rfl, _⟩ := h; rfl
  · have nd := scope__law_same.nd
    have hu := hr.units
    unfold sp__law_same at h
    refine ⟨_, PSs.nox (pss_one (ps_ret (pe_and (pe_cmpR (op_eqA hu) (pe_callB call_isX (by rfl) Z.isinstance_ (by decide +kernel) (pa_cons (pv 0) (pa_cons (pe_bltn (v := .ty "list") (by rfl) Z.list_ (by decide +kernel) rfl) pa_nil))) (pe_callB call_isX (by rfl) Z.isinstance_ (by decide +kernel) (pa_cons (pv 1) (pa_cons (pe_bltn (v := .ty "list") (by rfl) Z.list_ (by decide +kernel) rfl) pa_nil))) (nomark _)) (pe_one (pe_cmpR (op_eqA hu) (pe_callB (call_reprD hgd hu) (by rfl) Z.repr_ (by decide +kernel) (pa_cons (pv 0) pa_nil)) (pe_callB (call_reprD hgd hu) (by rfl) Z.repr_ (by decide +kernel) (pa_cons (pv 1) pa_nil)) (nomark _)))))), ?_⟩
    (try dsimp only [cxOf])
    obtain ⟨x_found, v_found, x_due, v_due, rfl, h_found, h_due, r0, hm, q⟩ := h
    let G_ : Bool → Prop := fun r => ∀ v' H', Res K H0 r v' H' → Q v' H'
    have hq : ∀ r, r = r0 → G_ r := fun r e => by subst e; exact q
    clear q
    unfold m__law_same at hm
    have W0 := Wd.start (K := K) H0
    have W1 := Wd.arg W0 h_found
    obtain ⟨a2, rfl⟩ := Wd.eqL W1 (Kn.at 0 rfl)
    have W3 := Wd.arg W1 h_due
    obtain ⟨a4, rfl⟩ := Wd.eqL W3 (Kn.at 0 rfl)
    refine i_ret ?_
    refine i_andV ?_
    refine i_op ?_
    refine i_cb ?_
    refine i_tcons ?_
    refine i_var rfl ?_
    refine i_tcons ?_
    refine i_c ?_
    refine i_tnil ?_
    refine w_isi W3 (Ar.kn (t := false) (Kn.at 1 rfl)) (by simp) ?_
    refine i_cb ?_
    refine i_tcons ?_
    refine i_var rfl ?_
    refine i_tcons ?_
    refine i_c ?_
    refine i_tnil ?_
    refine w_isi W3 (Ar.kn (t := false) (Kn.at 0 rfl)) (by simp) ?_
    refine i_eqB ?_
    refine i_bl ?_
    replace hm := bndE hm
    obtain ⟨x12, h13, hm⟩ := hm
    refine w_andVW (L' := []) x12 W3 (fun hb5 P6 hP7 => ?_) (fun hb5 => ?_) (fun H14 W15 => ?_)
    · have hm : _ = some x12 := (if_pos hb5).symm.trans h13
      refine i_op ?_
      refine i_cb ?_
      refine i_tcons ?_
      refine i_var rfl ?_
      refine i_tnil ?_
      replace hm := bndE hm
      obtain ⟨x8, h9, hm⟩ := hm
      refine w_repr W3 (Ar.kn (t := false) (Kn.at 1 rfl)) h9 ?_
      refine i_cb ?_
      refine i_tcons ?_
      refine i_var rfl ?_
      refine i_tnil ?_
      replace hm := bndE hm
      obtain ⟨x10, h11, hm⟩ := hm
      refine w_repr W3 (Ar.kn (t := false) (Kn.at 0 rfl)) h11 ?_
      refine i_eqS ?_
      have hm := some_inj hm
      exact hP7 _ _ hm W3
    · have hm := some_inj ((if_neg (by rw [hb5]; exact Bool.false_ne_true)).symm.trans h13)
      exact ⟨hm, W3⟩
    exact hq _ (some_inj hm) _ _ (Wd.res (x := (x12 : Bool)) W15 Kn.bl)
end
/-! ### _law_right -/
abbrev sp__law_right (K : PySem.W.Frag) : Sp := fun vs H Q _ => ∃ (x_row : (List Int)) (v_row : V) (x_cut : (List Int)) (v_cut : V),  vs = [v_row, v_cut] ∧ Rp.rep (lkA K H) x_row v_row ∧ Rp.rep (lkA K H) x_cut v_cut ∧ ∃ r : Bool, m__law_right x_row x_cut = some r ∧ ∀ v' H', Res K H r v' H' → Q v' H'
section
variable {P : Program} {w : World} {K : PySem.W.Frag} {mg : Str → Option Value} {base : Heap}
abbrev N__law_right : List Str := ["row", "cut", "due", "sums", "handed", "told", "beside", "piece"]
theorem scope__law_right : FnScope N__law_right ["row", "cut"] (defScope s__law_right) := ⟨rfl, rfl, rfl, by decide +kernel, rfl, by decide +kernel, by decide +kernel⟩
-- comprehension scope 0
-- comprehension scope 1
-- comprehension scope 2
theorem ok__law_right {f : Addr} {fd : FuncData} (F : FunD K "_law_right" "_law_right" (defArgs s__law_right) (defBody s__law_right) (defScope s__law_right) [] [] f fd) (hm : mg "_law_right" = some (.ref f)) (Z : Blt mg)
    (C__law_same : Fn P w K mg base 1 "_law_same" ["found", "due"] (sp__law_same K))
    (C_sums_of : Fn P w K mg base 2 "sums_of" ["row", "cut"] (sp_sums_of K))
    (C_pieces : Fn P w K mg base 1 "pieces" ["row", "cut"] (sp_pieces K))
    (C__law_due : Fn P w K mg base 1 "_law_due" ["row", "cut"] (sp__law_due K)) :
    Fn P w K mg base 3 "_law_right" ["row", "cut"] (sp__law_right K) := by
  refine mkFn F hm (fun _ _ _ _ _ _ us hl => match us, hl with | [_, _], _ => rfl) (okG (k := 2) F scope__law_right (fun vs H0 Q E h => ?_) (fun cdv A outer s H0 vs Q E hr hgd h => ?_))
  · obtain ⟨_, _, _, _, rfl, _⟩ := h; rfl
  · have nd := scope__law_right.nd
    have hu := hr.units
    have hr__law_same : Room 1 _ := hr.mono (by decide : 1 ≤ 2)
    have hr_sums_of : Room 2 _ := hr.mono (by decide : 2 ≤ 2)
    have hr_pieces : Room 1 _ := hr.mono (by decide : 1 ≤ 2)
    have hr__law_due : Room 1 _ := hr.mono (by decide : 1 ≤ 2)
    unfold sp__law_right at h
    refine ⟨_, PSs.nox (pss_cons (ps_set (i := 2) nd rfl (.inl rfl) (pe_fn C__law_due hr__law_due hgd (by rfl) passL (pa_cons (pv 0) (pa_cons (pv 1) pa_nil))))
    (pss_cons (ps_setLc (i := 3) (own := [("piece", 7)]) (g := gName 7) (tt := tYes) (by rfl) nd rfl rfl (sw_true rfl rfl rfl (by decide +kernel)) (pi_list (pv 2)) (blkOk_by (own := [("piece", 7)]) (N := N__law_right) (sc := (defScope s__law_right)) (by decide +kernel)) (fun _ _ _ _ _ => (pg_name (i := 7) nd rfl (.inl rfl))) (fun _ _ _ _ _ => pts_nil) (fun _ _ _ _ _ => (pe_callB (r := rSum K) (cr_sum rfl) (by rfl) Z.sum_ (by decide +kernel) (pa_cons (pv 7) pa_nil))))
    (pss_cons (ps_set (i := 4) nd rfl (.inl rfl) (pe_lst (pa_cons (pe_callTy cl_list (by rfl) Z.list_ (by decide +kernel) (pa_cons (pv 0) pa_nil)) (pa_cons (pe_callTy cl_list (by rfl) Z.list_ (by decide +kernel) (pa_cons (pv 1) pa_nil)) pa_nil))))
    (pss_cons (ps_set (i := 5) nd rfl (.inl rfl) (pe_lst (pa_cons (pe_fn C_pieces hr_pieces hgd (by rfl) passL (pa_cons (pe_ix ix_seq (pv 4) pe_int (fun _ _ => rfl)) (pa_cons (pe_ix ix_seq (pv 4) pe_int (fun _ _ => rfl)) pa_nil))) (pa_cons (pe_fn C_sums_of hr_sums_of hgd (by rfl) passL (pa_cons (pe_ix ix_seq (pv 4) pe_int (fun _ _ => rfl)) (pa_cons (pe_ix ix_seq (pv 4) pe_int (fun _ _ => rfl)) pa_nil))) pa_nil))))
    (pss_cons (ps_if (PW.pt (pw_or (pt_not (pt_val (pe_fn C__law_same hr__law_same hgd (by rfl) passL (pa_cons (pe_ix ix_seq (pv 5) pe_int (fun _ _ => rfl)) (pa_cons (pv 2) pa_nil))))) (pw_or (pt_not (pt_val (pe_fn C__law_same hr__law_same hgd (by rfl) passL (pa_cons (pe_ix ix_seq (pv 5) pe_int (fun _ _ => rfl)) (pa_cons (pv 3) pa_nil))))) (pw_or1 (pt_cmpR (op_neA hu) (pv 4) (pe_lst (pa_cons (pv 0) (pa_cons (pv 1) pa_nil))) (nomark _)))))) (pss_one (ps_ret pe_bl)) pss_nil)
    (pss_cons (ps_set (i := 6) nd rfl (.inl rfl) (pe_lst (pa_cons (pe_fn C_pieces hr_pieces hgd (by rfl) passL (pa_cons (pe_ix ix_seq (pv 4) pe_int (fun _ _ => rfl)) (pa_cons (pe_ix ix_seq (pv 4) pe_int (fun _ _ => rfl)) pa_nil))) (pa_cons (pe_fn C_sums_of hr_sums_of hgd (by rfl) passL (pa_cons (pe_ix ix_seq (pv 4) pe_int (fun _ _ => rfl)) (pa_cons (pe_ix ix_seq (pv 4) pe_int (fun _ _ => rfl)) pa_nil))) pa_nil))))
    (pss_cons (ps_for PassesOwn.never rfl (pi_list (pe_ix ix_seq (pv 5) pe_int (fun _ _ => rfl))) (pg_name (i := 7) nd rfl (.inl rfl)) (pss_one (ps_expr (pe_bmK (K := K) PySem.F.plainAttrs_list PySem.F.slot_list_append PySem.F.type_list_append mt_append (pv 7) (pa_cons (pe_un un_neg pe_int) pa_nil)))))
    (pss_cons (ps_if (PW.pt (pw_or (pt_cmpR (op_neA hu) (pe_lc (own := [("piece", 7)]) (g := gName 7) (tt := tYes) (by rfl) nd (pi_list (pe_ix ix_seq (pv 5) pe_int (fun _ _ => rfl))) (blkOk_by (own := [("piece", 7)]) (N := N__law_right) (sc := (defScope s__law_right)) (by decide +kernel)) (fun _ _ _ _ _ => (pg_name (i := 7) nd rfl (.inl rfl))) (fun _ _ _ _ _ => pts_nil) (fun _ _ _ _ _ => (pe_callB (r := rLen K) cl_len (by rfl) Z.len_ (by decide +kernel) (pa_cons (pv 7) pa_nil)))) (pe_lc (own := [("piece", 7)]) (g := gName 7) (tt := tYes) (by rfl) nd (pi_list (pv 2)) (blkOk_by (own := [("piece", 7)]) (N := N__law_right) (sc := (defScope s__law_right)) (by decide +kernel)) (fun _ _ _ _ _ => (pg_name (i := 7) nd rfl (.inl rfl))) (fun _ _ _ _ _ => pts_nil) (fun _ _ _ _ _ => (pe_op op_addA (pe_callB (r := rLen K) cl_len (by rfl) Z.len_ (by decide +kernel) (pa_cons (pv 7) pa_nil)) pe_int))) (nomark _)) (pw_or1 (pt_cmpR (op_neA hu) (pv 4) (pe_lst (pa_cons (pv 0) (pa_cons (pv 1) pa_nil))) (nomark _))))) (pss_one (ps_ret pe_bl)) pss_nil)
    (pss_cons (ps_expr (pe_bm0K (K := K) PySem.F.plainAttrs_list PySem.F.slot_list_clear PySem.F.type_list_clear mt_clear (pe_ix ix_seq (pv 5) pe_int (fun _ _ => rfl))))
    (pss_cons (ps_expr (pe_bmK (K := K) PySem.F.plainAttrs_list PySem.F.slot_list_append PySem.F.type_list_append mt_append (pe_ix ix_seq (pv 5) pe_int (fun _ _ => rfl)) (pa_cons pe_int pa_nil)))
    (pss_cons (ps_expr (pe_bmK (K := K) PySem.F.plainAttrs_list PySem.F.slot_list_append PySem.F.type_list_append mt_append (pe_ix ix_seq (pv 4) pe_int (fun _ _ => rfl)) (pa_cons pe_int pa_nil)))
    (pss_cons (ps_expr (pe_bm0K (K := K) PySem.F.plainAttrs_list PySem.F.slot_list_clear PySem.F.type_list_clear mt_clear (pe_ix ix_seq (pv 4) pe_int (fun _ _ => rfl))))
    (pss_cons (ps_if (PW.pt (pw_or (pt_not (pt_val (pe_fn C__law_same hr__law_same hgd (by rfl) passL (pa_cons (pe_ix ix_seq (pv 6) pe_int (fun _ _ => rfl)) (pa_cons (pv 2) pa_nil))))) (pw_or1 (pt_not (pt_val (pe_fn C__law_same hr__law_same hgd (by rfl) passL (pa_cons (pe_ix ix_seq (pv 6) pe_int (fun _ _ => rfl)) (pa_cons (pv 3) pa_nil)))))))) (pss_one (ps_ret pe_bl)) pss_nil)
    (pss_one (ps_ret (pe_and (pe_fn C__law_same hr__law_same hgd (by rfl) passL (pa_cons (pe_fn C_pieces hr_pieces hgd (by rfl) passL (pa_cons (pe_callTy cl_list (by rfl) Z.list_ (by decide +kernel) (pa_cons (pv 0) pa_nil)) (pa_cons (pe_callTy cl_list (by rfl) Z.list_ (by decide +kernel) (pa_cons (pv 1) pa_nil)) pa_nil))) (pa_cons (pv 2) pa_nil))) (pe_one (pe_fn C__law_same hr__law_same hgd (by rfl) passL (pa_cons (pe_fn C_sums_of hr_sums_of hgd (by rfl) passL (pa_cons (pe_callTy cl_list (by rfl) Z.list_ (by decide +kernel) (pa_cons (pv 0) pa_nil)) (pa_cons (pe_callTy cl_list (by rfl) Z.list_ (by decide +kernel) (pa_cons (pv 1) pa_nil)) pa_nil))) (pa_cons (pv 3) pa_nil)))))))))))))))))))), ?_⟩
    (try dsimp only [cxOf])
    obtain ⟨x_row, v_row, x_cut, v_cut, rfl, h_row, h_cut, r0, hm, q⟩ := h
    let G_ : Bool → Prop := fun r => ∀ v' H', Res K H0 r v' H' → Q v' H'
    have hq : ∀ r, r = r0 → G_ r := fun r e => by subst e; exact q
    clear q
    unfold m__law_right at hm
    have W0 := Wd.start (K := K) H0
    have W1 := Wd.arg W0 h_row
    obtain ⟨a2, rfl⟩ := Wd.eqL W1 (Kn.at 0 rfl)
    have W3 := Wd.arg W1 h_cut
    obtain ⟨a4, rfl⟩ := Wd.eqL W3 (Kn.at 0 rfl)
    refine i_seq ?_
    refine i_asg ?_
    refine i_call ?_
    refine i_tcons ?_
    refine i_var rfl ?_
    refine i_tcons ?_
    refine i_var rfl ?_
    refine i_tnil ?_
    replace hm := bndE hm
    obtain ⟨r5, h6, hm⟩ := hm
    refine ⟨(x_row : (List Int)), _, (x_cut : (List Int)), _, rfl, (Wd.arr W3 (Ar.kn (t := false) (Kn.at 1 rfl))), (Wd.arr W3 (Ar.kn (t := false) (Kn.at 0 rfl))), r5, h6, fun v7 H8 R9 => ?_⟩
    have W10 := Wd.call W3 R9
    obtain ⟨a11, rfl⟩ := Wd.eqL W10 (Kn.at 0 rfl)
    refine i_gName ?_
    clear W0 W1 W3
    refine i_seq ?_
    refine i_asg ?_
    refine i_lc ?_
    refine i_iList ?_
    refine i_var rfl ?_
    refine w_itL W10 (Lx.ls (Lx.kn (Kn.at 0 rfl))) ?_
    replace hm := bndE hm
    obtain ⟨x27, h28, hm⟩ := hm
    refine w_map (γ := Int) true h28 W10 (fun _ => (gv_list (fun _ _ => (Lx.ls (Lx.kn (Kn.at 0 rfl)))))) (fun D14 x12 v13 acc15 H16 y17 ha18 W19 hm => ?_) (fun p24 H25 W26 => ?_)
    · obtain ⟨a21, rfl⟩ := Wd.eqL W19 (Kn.at 0 rfl)
      refine i_gName ?_
      refine i_wipe rfl ?_
      refine i_yes ?_
      refine i_T ?_
      refine i_cb ?_
      refine i_tcons ?_
      refine i_var rfl ?_
      refine i_tnil ?_
      refine w_sum W19 (Lx.ls (Lx.kn (Kn.at 0 rfl))) ?_
      obtain rfl := some_inj hm
      refine w_elt W19 Kn.int ha18 (fun H22 W23 => ?_)
      exact ⟨(), Wd.drop W23 1 rfl⟩
    have W29 := Wd.frz W26
    refine i_gName ?_
    clear W10 W26
    refine i_seq ?_
    refine i_asg ?_
    refine i_tlst ?_
    refine i_tcons ?_
    refine i_cb ?_
    refine i_tcons ?_
    refine i_var rfl ?_
    refine i_tnil ?_
    refine w_list W29 (Lx.ls (Lx.flat (t := true) (Lx.kn (Kn.at 3 rfl)))) (fun p30 H31 W32 => ?_)
    refine i_tcons ?_
    refine i_cb ?_
    refine i_tcons ?_
    refine i_var rfl ?_
    refine i_tnil ?_
    refine w_list W32 (Lx.ls (Lx.flat (t := true) (Lx.kn (Kn.at 2 rfl)))) (fun p33 H34 W35 => ?_)
    refine i_tnil ?_
    refine w_lstR W35 (by show (2 : Nat) ≤ sizeLine; decide) (fun p36 H37 W38 => ?_)
    refine i_gName ?_
    clear W29 W32 W35
    refine i_seq ?_
    refine i_asg ?_
    refine i_tlst ?_
    refine i_tcons ?_
    refine i_call ?_
    refine i_tcons ?_
    refine i_op ?_
    refine i_var rfl ?_
    refine i_c ?_
    refine w_ixRL W38 0 rfl (i := 0) rfl ?_
    refine i_tcons ?_
    refine i_op ?_
    refine i_var rfl ?_
    refine i_c ?_
    refine w_ixRL W38 0 rfl (i := 1) rfl ?_
    refine i_tnil ?_
    replace hm := bndE hm
    obtain ⟨r39, h40, hm⟩ := hm
    refine ⟨(x_row : (List Int)), _, (x_cut : (List Int)), _, rfl, (Wd.arr W38 (Ar.lx (Lx.own 1 rfl))), (Wd.arr W38 (Ar.lx (Lx.own 0 rfl))), r39, h40, fun v41 H42 R43 => ?_⟩
    refine Wd.region W38 fun N45 F46 Wi47 => ?_
    obtain ⟨R48, p49, us50, Wi51, I52, rfl, hl53, hr54, nd55⟩ := WdI.islD Wi47 R43
    have W44 := WdI.ground (x := (r39 : (List (List Int)))) Wi51 I52 ⟨p49, us50, rfl, hl53, hr54⟩
    refine i_tcons ?_
    refine i_call ?_
    refine i_tcons ?_
    refine i_op ?_
    refine i_var rfl ?_
    refine i_c ?_
    refine w_ixRL W44 2 rfl (i := 0) rfl ?_
    refine i_tcons ?_
    refine i_op ?_
    refine i_var rfl ?_
    refine i_c ?_
    refine w_ixRL W44 2 rfl (i := 1) rfl ?_
    refine i_tnil ?_
    replace hm := bndE hm
    obtain ⟨r56, h57, hm⟩ := hm
    refine ⟨(x_row : (List Int)), _, (x_cut : (List Int)), _, rfl, (Wd.arr W44 (Ar.lx (Lx.own 1 rfl))), (Wd.arr W44 (Ar.lx (Lx.own 0 rfl))), r56, h57, fun v58 H59 R60 => ?_⟩
    obtain ⟨p62, rfl, W61⟩ := Wd.callO W44 R60
    refine i_tnil ?_
    refine w_lstR W61 (by show (2 : Nat) ≤ sizeLine; decide) (fun p63 H64 W65 => ?_)
    refine i_gName ?_
    clear W38 W44 W61
    refine i_seq ?_
    refine i_ifS ?_
    refine i_or ?_
    refine i_not ?_
    refine i_tB ?_
    refine i_call ?_
    refine i_tcons ?_
    refine i_op ?_
    refine i_var rfl ?_
    refine i_c ?_
    refine w_ixRL W65 0 rfl (i := 0) rfl ?_
    refine i_tcons ?_
    refine i_var rfl ?_
    refine i_tnil ?_
    replace hm := bndE hm
    obtain ⟨r66, h67, hm⟩ := hm
    refine ⟨((List.map Co.f r39 : (List (Un Int (List Int)))) : (List (Un Int (List Int)))), _, ((List.map Co.f r5 : (List (Un Int (List Int)))) : (List (Un Int (List Int)))), _, rfl, (Wd.arr W65 (Ar.kn (t := false) (Kn.co (α := (List (List Int))) (β := (List (Un Int (List Int)))) (Kn.at 1 rfl)))), (Wd.arr W65 (Ar.kn (t := true) (Kn.co (α := (List (List Int))) (β := (List (Un Int (List Int)))) (Kn.at 5 rfl)))), r66, h67, fun v68 H69 R70 => ?_⟩
    obtain ⟨rfl, W71⟩ := Wd.callB W65 R70
    refine i_bl ?_
    replace hm := bndE hm
    obtain ⟨x96, h97, hm⟩ := hm
    refine w_orW (L' := [oL true p62 (r56 : List Int), oL true p33 (x_cut : List Int), oL true p30 (x_row : List Int)]) x96 W71 (fun hb72 P73 hP74 => ?_) (fun hb72 => ?_) (fun H98 W99 => ?_)
    · have hm : _ = some x96 := (if_neg (by rw [hb72]; exact Bool.false_ne_true)).symm.trans h97
      refine i_or ?_
      refine i_not ?_
      refine i_tB ?_
      refine i_call ?_
      refine i_tcons ?_
      refine i_op ?_
      refine i_var rfl ?_
      refine i_c ?_
      refine w_ixRL W71 0 rfl (i := 1) rfl ?_
      refine i_tcons ?_
      refine i_var rfl ?_
      refine i_tnil ?_
      replace hm := bndE hm
      obtain ⟨r75, h76, hm⟩ := hm
      refine ⟨((Co.f (r56 : (List Int)) : (List (Un Int (List Int)))) : (List (Un Int (List Int)))), _, ((List.map Co.f x27 : (List (Un Int (List Int)))) : (List (Un Int (List Int)))), _, rfl, (Wd.arr W71 (Ar.co (β := (List (Un Int (List Int)))) (Ar.lx (Lx.own 0 rfl)))), (Wd.arr W71 (Ar.kn (t := true) (Kn.co (α := (List Int)) (β := (List (Un Int (List Int)))) (Kn.at 4 rfl)))), r75, h76, fun v77 H78 R79 => ?_⟩
      obtain ⟨rfl, W80⟩ := Wd.callB W71 R79
      refine i_bl ?_
      replace hm := bndE hm
      obtain ⟨x91, h92, hm⟩ := hm
      refine w_orW (L' := [oL true p62 (r56 : List Int), oL true p33 (x_cut : List Int), oL true p30 (x_row : List Int)]) x91 W80 (fun hb81 P82 hP83 => ?_) (fun hb81 => ?_) (fun H93 W94 => ?_)
      · have hm : _ = some x91 := (if_neg (by rw [hb81]; exact Bool.false_ne_true)).symm.trans h92
        refine i_test ?_
        refine i_op ?_
        refine i_var rfl ?_
        refine i_tlst ?_
        refine i_tcons ?_
        refine i_var rfl ?_
        refine i_tcons ?_
        refine i_var rfl ?_
        refine i_tnil ?_
        refine w_lst (α := (List Int)) (t := false) W80 (KnL.cons (Kn.at 7 rfl) (KnL.cons (Kn.at 6 rfl) KnL.nil)) (by show (2 : Nat) ≤ sizeLine; decide) (fun p84 H85 W86 => ?_)
        have W87 := Wd.frz W86
        replace hm := bndE hm
        obtain ⟨x88, h89, hm⟩ := hm
        refine w_ne W87 (Ar.lpair 2 1 rfl rfl 4 rfl) (Ar.kn (t := false) (Kn.at 0 rfl)) h89 ?_
        refine i_bl ?_
        have W90 := Wd.drop W87 1 rfl
        have hm := some_inj hm
        exact hP83 _ _ hm W90
      · have hm := some_inj ((if_pos hb81).symm.trans h92)
        exact ⟨hm, W80⟩
      have hm := some_inj hm
      exact hP74 _ _ hm W94
    · have hm := some_inj ((if_pos hb72).symm.trans h97)
      exact ⟨hm, W71⟩
    clear W65 W71
    rcases iteE hm with ⟨hb101, hm⟩ | ⟨hb101, hm⟩
    · refine i_bT hb101 ?_
      refine i_ret ?_
      refine i_c ?_
      refine Wd.region W99 fun N102 F103 Wi104 => ?_
      have W105 := WdI.spoilt (x := ()) Wi51 I52 Wi104 2 rfl (allFr_cons oL_fr (allFr_cons oL_fr (allFr_cons oL_fr allFr_nil))) (fun _ _ => rfl) Kn.unit
      exact hq _ (some_inj hm) _ _ (Wd.res (x := (false : Bool)) W105 Kn.bl)
    · refine i_bF hb101 ?_
      refine i_next ?_
      refine i_seq ?_
      refine i_asg ?_
      refine i_tlst ?_
      refine i_tcons ?_
      refine i_call ?_
      refine i_tcons ?_
      refine i_op ?_
      refine i_var rfl ?_
      refine i_c ?_
      refine w_ixRL W99 3 rfl (i := 0) rfl ?_
      refine i_tcons ?_
      refine i_op ?_
      refine i_var rfl ?_
      refine i_c ?_
      refine w_ixRL W99 3 rfl (i := 1) rfl ?_
      refine i_tnil ?_
      replace hm := bndE hm
      obtain ⟨r106, h107, hm⟩ := hm
      refine ⟨(x_row : (List Int)), _, (x_cut : (List Int)), _, rfl, (Wd.arr W99 (Ar.lx (Lx.own 2 rfl))), (Wd.arr W99 (Ar.lx (Lx.own 1 rfl))), r106, h107, fun v108 H109 R110 => ?_⟩
      have W111 := Wd.call W99 (ResD.res R110)
      obtain ⟨a112, rfl⟩ := Wd.eqL W111 (Kn.at 0 rfl)
      refine i_tcons ?_
      refine i_call ?_
      refine i_tcons ?_
      refine i_op ?_
      refine i_var rfl ?_
      refine i_c ?_
      refine w_ixRL W111 4 rfl (i := 0) rfl ?_
      refine i_tcons ?_
      refine i_op ?_
      refine i_var rfl ?_
      refine i_c ?_
      refine w_ixRL W111 4 rfl (i := 1) rfl ?_
      refine i_tnil ?_
      replace hm := bndE hm
      obtain ⟨r113, h114, hm⟩ := hm
      refine ⟨(x_row : (List Int)), _, (x_cut : (List Int)), _, rfl, (Wd.arr W111 (Ar.lx (Lx.own 2 rfl))), (Wd.arr W111 (Ar.lx (Lx.own 1 rfl))), r113, h114, fun v115 H116 R117 => ?_⟩
      have W118 := Wd.call W111 R117
      obtain ⟨a119, rfl⟩ := Wd.eqL W118 (Kn.at 0 rfl)
      refine i_tnil ?_
      refine w_lst (α := (List (Un Int (List Int)))) (t := true) W118 (KnL.cons (Kn.co (α := (List (List Int))) (β := (List (Un Int (List Int)))) (Kn.at 1 rfl)) (KnL.cons (Kn.co (α := (List Int)) (β := (List (Un Int (List Int)))) (Kn.at 0 rfl)) KnL.nil)) (by show (2 : Nat) ≤ sizeLine; decide) (fun p120 H121 W122 => ?_)
      have W123 := Wd.frz W122
      refine i_gName ?_
      clear W99 W111 W118 W122
      refine i_seq ?_
      refine i_for ?_
      refine i_iList ?_
      refine i_op ?_
      refine i_var rfl ?_
      refine i_c ?_
      refine w_ixRL W123 3 rfl (i := 0) rfl ?_
      refine w_itL W123 (Lx.ls (Lx.kn (Kn.at 4 rfl))) ?_
      replace hm := bndE hm
      obtain ⟨x124, h125, hm⟩ := hm
      refine Wd.region W123 fun N126 F127 Wi128 => ?_
      refine w_grow 7 (none) hl53 hr54 nd55 ((Isl.inB Wi51 I52).trans (Wi128.bF.trans Wi128.fH)) h125 rfl (fun q128 ws128 x128 H128 Nx128 ha128 hb128 hd128 => ?_) (fun xs128 H128 hk128 hr128 => ?_)
      · (try dsimp only [List.set])
        refine i_gName ?_
        refine i_drop ?_
        refine i_bm ?_
        refine i_var rfl ?_
        refine i_mtL (SqL.of ha128) ?_
        refine i_tcons ?_
        refine i_un ?_
        refine i_c ?_
        refine i_rU ?_
        refine i_tnil ?_
        exact ⟨q128, ws128, _, rfl, rfl, ha128, hb128, hd128 _⟩
      (try dsimp only [List.set])
      obtain ⟨R128_, s128_, d128_, hl128_, hr128_⟩ := hr128
      have Wi130 := WdI.unground Wi51 I52 Wi128 5 rfl (allFr_cons oL_fr (allFr_cons oL_fr (allFr_cons oL_fr allFr_nil))) hk128 [0, 1, 2, 3] rfl ⟨fc_nn, ⟨fc_nn, ⟨fc_nn, ⟨fRL_nn, trivial⟩⟩⟩⟩
      have W131 := WdI.addOL Wi130 (WdI.regrow Wi51 I52 Wi128 s128_ d128_) hl128_ hr128_
      dsimp only [List.cons_append, List.nil_append] at W131
      refine i_seq ?_
      refine i_ifS ?_
      refine i_or ?_
      refine i_test ?_
      refine i_op ?_
      refine i_lc ?_
      refine i_iList ?_
      refine i_op ?_
      refine i_var rfl ?_
      refine i_c ?_
      refine w_ixRL W131 3 rfl (i := 0) rfl ?_
      refine w_itL W131 (Lx.ls (Lx.own 0 rfl)) ?_
      replace hm := bndE hm
      obtain ⟨x147, h148, hm⟩ := hm
      refine w_map (γ := Int) true h148 W131 (fun _ => (gv_list (fun _ _ => (Lx.ls (Lx.own 1 rfl))))) (fun D134 x132 v133 acc135 H136 y137 ha138 W139 hm => ?_) (fun p144 H145 W146 => ?_)
      · obtain ⟨a141, rfl⟩ := Wd.eqL W139 (Kn.at 0 rfl)
        refine i_gName ?_
        refine i_wipe rfl ?_
        refine i_yes ?_
        refine i_T ?_
        refine i_cb ?_
        refine i_tcons ?_
        refine i_var rfl ?_
        refine i_tnil ?_
        refine w_len W139 (Lx.ls (Lx.kn (Kn.at 0 rfl))) ?_
        obtain rfl := some_inj hm
        refine w_elt W139 Kn.int ha138 (fun H142 W143 => ?_)
        exact ⟨(), Wd.drop W143 1 rfl⟩
      have W149 := Wd.frz W146
      refine i_lc ?_
      refine i_iList ?_
      refine i_var rfl ?_
      refine w_itL W149 (Lx.ls (Lx.kn (Kn.at 7 rfl))) ?_
      replace hm := bndE hm
      obtain ⟨x165, h166, hm⟩ := hm
      refine w_map (γ := Int) true h166 W149 (fun _ => (gv_list (fun _ _ => (Lx.ls (Lx.kn (Kn.at 7 rfl)))))) (fun D152 x150 v151 acc153 H154 y155 ha156 W157 hm => ?_) (fun p162 H163 W164 => ?_)
      · obtain ⟨a159, rfl⟩ := Wd.eqL W157 (Kn.at 0 rfl)
        refine i_gName ?_
        refine i_wipe rfl ?_
        refine i_yes ?_
        refine i_T ?_
        refine i_op ?_
        refine i_cb ?_
        refine i_tcons ?_
        refine i_var rfl ?_
        refine i_tnil ?_
        refine w_len W157 (Lx.ls (Lx.kn (Kn.at 0 rfl))) ?_
        refine i_c ?_
        refine i_addI ?_
        obtain rfl := some_inj hm
        refine w_elt W157 Kn.int ha156 (fun H160 W161 => ?_)
        exact ⟨(), Wd.drop W161 1 rfl⟩
      have W167 := Wd.frz W164
      replace hm := bndE hm
      obtain ⟨x168, h169, hm⟩ := hm
      refine w_ne W167 (Ar.kn (t := true) (Kn.at 1 rfl)) (Ar.kn (t := true) (Kn.at 0 rfl)) h169 ?_
      refine i_bl ?_
      replace hm := bndE hm
      obtain ⟨x180, h181, hm⟩ := hm
      refine w_orW (L' := [oL true p49 (x124 : List (List Int)), oL true p62 (r56 : List Int), oL true p33 (x_cut : List Int), oL true p30 (x_row : List Int)]) x180 W167 (fun hb170 P171 hP172 => ?_) (fun hb170 => ?_) (fun H182 W183 => ?_)
      · have hm : _ = some x180 := (if_neg (by rw [hb170]; exact Bool.false_ne_true)).symm.trans h181
        refine i_test ?_
        refine i_op ?_
        refine i_var rfl ?_
        refine i_tlst ?_
        refine i_tcons ?_
        refine i_var rfl ?_
        refine i_tcons ?_
        refine i_var rfl ?_
        refine i_tnil ?_
        refine w_lst (α := (List Int)) (t := false) W167 (KnL.cons (Kn.at 10 rfl) (KnL.cons (Kn.at 9 rfl) KnL.nil)) (by show (2 : Nat) ≤ sizeLine; decide) (fun p173 H174 W175 => ?_)
        have W176 := Wd.frz W175
        replace hm := bndE hm
        obtain ⟨x177, h178, hm⟩ := hm
        refine w_ne W176 (Ar.lpair 3 2 rfl rfl 7 rfl) (Ar.kn (t := false) (Kn.at 0 rfl)) h178 ?_
        refine i_bl ?_
        have W179 := Wd.drop W176 1 rfl
        have hm := some_inj hm
        exact hP172 _ _ hm W179
      · have hm := some_inj ((if_pos hb170).symm.trans h181)
        exact ⟨hm, W167⟩
      clear W123 W131 W146 W149 W164 W167
      rcases iteE hm with ⟨hb185, hm⟩ | ⟨hb185, hm⟩
      · refine i_bT hb185 ?_
        refine i_ret ?_
        refine i_c ?_
        exact hq _ (some_inj hm) _ _ (Wd.res (x := (false : Bool)) W183 Kn.bl)
      · refine i_bF hb185 ?_
        refine i_next ?_
        refine i_seq ?_
        refine i_drop ?_
        refine i_bm0 ?_
        refine i_op ?_
        refine i_var rfl ?_
        refine i_c ?_
        refine w_ixRL W183 5 rfl (i := 0) rfl ?_
        refine w_mt0 W183 (Lx.ls (Lx.own 0 rfl)) ?_
        refine w_clr W183 0 rfl (fun H186 W187 => ?_)
        dsimp only [List.set] at W187
        clear W183
        refine i_seq ?_
        refine i_drop ?_
        refine i_bm ?_
        refine i_op ?_
        refine i_var rfl ?_
        refine i_c ?_
        refine w_ixRL W187 5 rfl (i := 1) rfl ?_
        refine w_mt W187 (Lx.ls (Lx.own 1 rfl)) ?_
        refine i_tcons ?_
        refine i_c ?_
        refine i_tnil ?_
        replace hm := bndE hm
        obtain ⟨x188, h189, hm⟩ := hm
        refine w_app W187 1 rfl Kn.int h189 (fun H190 W191 => ?_)
        dsimp only [List.set] at W191
        clear W187
        refine i_seq ?_
        refine i_drop ?_
        refine i_bm ?_
        refine i_op ?_
        refine i_var rfl ?_
        refine i_c ?_
        refine w_ixRL W191 6 rfl (i := 0) rfl ?_
        refine w_mt W191 (Lx.ls (Lx.own 3 rfl)) ?_
        refine i_tcons ?_
        refine i_c ?_
        refine i_tnil ?_
        replace hm := bndE hm
        obtain ⟨x192, h193, hm⟩ := hm
        refine w_app W191 3 rfl Kn.int h193 (fun H194 W195 => ?_)
        dsimp only [List.set] at W195
        clear W191
        refine i_seq ?_
        refine i_drop ?_
        refine i_bm0 ?_
        refine i_op ?_
        refine i_var rfl ?_
        refine i_c ?_
        refine w_ixRL W195 6 rfl (i := 1) rfl ?_
        refine w_mt0 W195 (Lx.ls (Lx.own 2 rfl)) ?_
        refine w_clr W195 2 rfl (fun H196 W197 => ?_)
        dsimp only [List.set] at W197
        clear W195
        refine i_seq ?_
        refine i_ifS ?_
        refine i_or ?_
        refine i_not ?_
        refine i_tB ?_
        refine i_call ?_
        refine i_tcons ?_
        refine i_op ?_
        refine i_var rfl ?_
        refine i_c ?_
        replace hm := bndE hm
        obtain ⟨x198, h199, hm⟩ := hm
        refine w_ix W197 (Lx.ls (Lx.kn (Kn.at 2 rfl))) h199 (fun u200 W201 => ?_)
        obtain ⟨a202, rfl⟩ := Wd.eqL W201 (Kn.at 0 rfl)
        refine i_tcons ?_
        refine i_var rfl ?_
        refine i_tnil ?_
        replace hm := bndE hm
        obtain ⟨r203, h204, hm⟩ := hm
        refine ⟨(x198 : (List (Un Int (List Int)))), _, ((List.map Co.f r5 : (List (Un Int (List Int)))) : (List (Un Int (List Int)))), _, rfl, (Wd.arr W201 (Ar.kn (t := true) (Kn.at 0 rfl))), (Wd.arr W201 (Ar.kn (t := true) (Kn.co (α := (List (List Int))) (β := (List (Un Int (List Int)))) (Kn.at 9 rfl)))), r203, h204, fun v205 H206 R207 => ?_⟩
        obtain ⟨rfl, W208⟩ := Wd.callB W201 R207
        refine i_bl ?_
        replace hm := bndE hm
        obtain ⟨x224, h225, hm⟩ := hm
        refine w_orW (L' := [oL true p49 (([] : List (List Int)) : List (List Int)), oL true p62 (x188 : List Int), oL true p33 (([] : List Int) : List Int), oL true p30 (x192 : List Int)]) x224 W208 (fun hb209 P210 hP211 => ?_) (fun hb209 => ?_) (fun H226 W227 => ?_)
        · have hm : _ = some x224 := (if_neg (by rw [hb209]; exact Bool.false_ne_true)).symm.trans h225
          refine i_not ?_
          refine i_tB ?_
          refine i_call ?_
          refine i_tcons ?_
          refine i_op ?_
          refine i_var rfl ?_
          refine i_c ?_
          replace hm := bndE hm
          obtain ⟨x212, h213, hm⟩ := hm
          refine w_ix W208 (Lx.ls (Lx.kn (Kn.at 3 rfl))) h213 (fun u214 W215 => ?_)
          obtain ⟨a216, rfl⟩ := Wd.eqL W215 (Kn.at 0 rfl)
          refine i_tcons ?_
          refine i_var rfl ?_
          refine i_tnil ?_
          replace hm := bndE hm
          obtain ⟨r217, h218, hm⟩ := hm
          refine ⟨(x212 : (List (Un Int (List Int)))), _, ((List.map Co.f x27 : (List (Un Int (List Int)))) : (List (Un Int (List Int)))), _, rfl, (Wd.arr W215 (Ar.kn (t := true) (Kn.at 0 rfl))), (Wd.arr W215 (Ar.kn (t := true) (Kn.co (α := (List Int)) (β := (List (Un Int (List Int)))) (Kn.at 9 rfl)))), r217, h218, fun v219 H220 R221 => ?_⟩
          obtain ⟨rfl, W222⟩ := Wd.callB W215 R221
          refine i_bl ?_
          have W223 := Wd.drop W222 1 rfl
          have hm := some_inj hm
          exact hP211 _ _ hm W223
        · have hm := some_inj ((if_pos hb209).symm.trans h225)
          exact ⟨hm, W208⟩
        clear W197 W201 W208
        rcases iteE hm with ⟨hb229, hm⟩ | ⟨hb229, hm⟩
        · refine i_bT hb229 ?_
          refine i_ret ?_
          refine i_c ?_
          exact hq _ (some_inj hm) _ _ (Wd.res (x := (false : Bool)) W227 Kn.bl)
        · refine i_bF hb229 ?_
          refine i_next ?_
          refine i_ret ?_
          refine i_andV ?_
          refine i_call ?_
          refine i_tcons ?_
          refine i_call ?_
          refine i_tcons ?_
          refine i_cb ?_
          refine i_tcons ?_
          refine i_var rfl ?_
          refine i_tnil ?_
          refine w_list W227 (Lx.ls (Lx.flat (t := true) (Lx.kn (Kn.at 11 rfl)))) (fun p230 H231 W232 => ?_)
          have W233 := Wd.frz W232
          refine i_tcons ?_
          refine i_cb ?_
          refine i_tcons ?_
          refine i_var rfl ?_
          refine i_tnil ?_
          refine w_list W233 (Lx.ls (Lx.flat (t := true) (Lx.kn (Kn.at 11 rfl)))) (fun p234 H235 W236 => ?_)
          have W237 := Wd.frz W236
          refine i_tnil ?_
          replace hm := bndE hm
          obtain ⟨r238, h239, hm⟩ := hm
          refine ⟨(x_row : (List Int)), _, (x_cut : (List Int)), _, rfl, (Wd.arr W237 (Ar.kn (t := true) (Kn.at 1 rfl))), (Wd.arr W237 (Ar.kn (t := true) (Kn.at 0 rfl))), r238, h239, fun v240 H241 R242 => ?_⟩
          have W243 := Wd.call W237 (ResD.res R242)
          obtain ⟨a244, rfl⟩ := Wd.eqL W243 (Kn.at 0 rfl)
          refine i_tcons ?_
          refine i_var rfl ?_
          refine i_tnil ?_
          replace hm := bndE hm
          obtain ⟨r245, h246, hm⟩ := hm
          refine ⟨((List.map Co.f r238 : (List (Un Int (List Int)))) : (List (Un Int (List Int)))), _, ((List.map Co.f r5 : (List (Un Int (List Int)))) : (List (Un Int (List Int)))), _, rfl, (Wd.arr W243 (Ar.kn (t := true) (Kn.co (α := (List (List Int))) (β := (List (Un Int (List Int)))) (Kn.at 0 rfl)))), (Wd.arr W243 (Ar.kn (t := true) (Kn.co (α := (List (List Int))) (β := (List (Un Int (List Int)))) (Kn.at 12 rfl)))), r245, h246, fun v247 H248 R249 => ?_⟩
          obtain ⟨rfl, W250⟩ := Wd.callB W243 R249
          refine i_bl ?_
          replace hm := bndE hm
          obtain ⟨x276, h277, hm⟩ := hm
          refine w_andVW (L' := [oL true p49 (([] : List (List Int)) : List (List Int)), oL true p62 (x188 : List Int), oL true p33 (([] : List Int) : List Int), oL true p30 (x192 : List Int)]) x276 W250 (fun hb251 P252 hP253 => ?_) (fun hb251 => ?_) (fun H278 W279 => ?_)
          · have hm : _ = some x276 := (if_pos hb251).symm.trans h277
            refine i_call ?_
            refine i_tcons ?_
            refine i_call ?_
            refine i_tcons ?_
            refine i_cb ?_
            refine i_tcons ?_
            refine i_var rfl ?_
            refine i_tnil ?_
            refine w_list W250 (Lx.ls (Lx.flat (t := true) (Lx.kn (Kn.at 14 rfl)))) (fun p254 H255 W256 => ?_)
            have W257 := Wd.frz W256
            refine i_tcons ?_
            refine i_cb ?_
            refine i_tcons ?_
            refine i_var rfl ?_
            refine i_tnil ?_
            refine w_list W257 (Lx.ls (Lx.flat (t := true) (Lx.kn (Kn.at 14 rfl)))) (fun p258 H259 W260 => ?_)
            have W261 := Wd.frz W260
            refine i_tnil ?_
            replace hm := bndE hm
            obtain ⟨r262, h263, hm⟩ := hm
            refine ⟨(x_row : (List Int)), _, (x_cut : (List Int)), _, rfl, (Wd.arr W261 (Ar.kn (t := true) (Kn.at 1 rfl))), (Wd.arr W261 (Ar.kn (t := true) (Kn.at 0 rfl))), r262, h263, fun v264 H265 R266 => ?_⟩
            have W267 := Wd.call W261 R266
            obtain ⟨a268, rfl⟩ := Wd.eqL W267 (Kn.at 0 rfl)
            refine i_tcons ?_
            refine i_var rfl ?_
            refine i_tnil ?_
            replace hm := bndE hm
            obtain ⟨r269, h270, hm⟩ := hm
            refine ⟨((List.map Co.f r262 : (List (Un Int (List Int)))) : (List (Un Int (List Int)))), _, ((List.map Co.f x27 : (List (Un Int (List Int)))) : (List (Un Int (List Int)))), _, rfl, (Wd.arr W267 (Ar.kn (t := true) (Kn.co (α := (List Int)) (β := (List (Un Int (List Int)))) (Kn.at 0 rfl)))), (Wd.arr W267 (Ar.kn (t := true) (Kn.co (α := (List Int)) (β := (List (Un Int (List Int)))) (Kn.at 14 rfl)))), r269, h270, fun v271 H272 R273 => ?_⟩
            obtain ⟨rfl, W274⟩ := Wd.callB W267 R273
            have W275 := Wd.drop W274 3 rfl
            have hm := some_inj hm
            exact hP253 _ _ hm W275
          · have hm := some_inj ((if_neg (by rw [hb251]; exact Bool.false_ne_true)).symm.trans h277)
            exact ⟨hm, W250⟩
          exact hq _ (some_inj hm) _ _ (Wd.res (x := (x276 : Bool)) W279 Kn.bl)
end
/-! ### law -/
abbrev sp_law (K : PySem.W.Frag) : Sp := fun vs H Q _ => ∃ (x_script : Scr) (v_script : V),  vs = [v_script] ∧ Rp.rep (lkA K H) x_script v_script ∧ ∃ r : Bool, m_law x_script = some r ∧ ∀ v' H', Res K H r v' H' → Q v' H'
section
variable {P : Program} {w : World} {K : PySem.W.Frag} {mg : Str → Option Value} {base : Heap}
abbrev N_law : List Str := ["script", "k", "cell", "hand", "row", "cut"]
theorem scope_law : FnScope N_law ["script"] (defScope s_law) := ⟨rfl, rfl, rfl, by decide +kernel, rfl, by decide +kernel, by decide +kernel⟩
theorem ok_law {f : Addr} {fd : FuncData} (F : FunD K "law" "law" (defArgs s_law) (defBody s_law) (defScope s_law) [] [] f fd) (hm : mg "law" = some (.ref f)) (Z : Blt mg)
    (C_sums_of : Fn P w K mg base 2 "sums_of" ["row", "cut"] (sp_sums_of K))
    (C_pieces : Fn P w K mg base 1 "pieces" ["row", "cut"] (sp_pieces K))
    (C__law_cells : Fn P w K mg base 1 "_law_cells" ["script", "many"] (sp__law_cells K))
    (C__law_cut : Fn P w K mg base 2 "_law_cut" ["hand", "size"] (sp__law_cut K))
    (C__law_right : Fn P w K mg base 3 "_law_right" ["row", "cut"] (sp__law_right K))
    (C__law_row : Fn P w K mg base 2 "_law_row" ["hand", "long"] (sp__law_row K))
    (C__law_great : Fn P w K mg base 1 "_law_great" ["script"] (sp__law_great K))
    (C__law_hand : Fn P w K mg base 1 "_law_hand" ["cell", "k"] (sp__law_hand K)) :
    FnG P w K mg base 4 f fd ["script"] (sp_law K) := by
  refine okG (k := 3) F scope_law (fun vs H0 Q E h => ?_) (fun cdv A outer s H0 vs Q E hr hgd h => ?_)
  · obtain ⟨_, _, rfl, _⟩ := h; rfl
  · have nd := scope_law.nd
    have hu := hr.units
    have hr_sums_of : Room 2 _ := hr.mono (by decide : 2 ≤ 3)
    have hr_pieces : Room 1 _ := hr.mono (by decide : 1 ≤ 3)
    have hr__law_cells : Room 1 _ := hr.mono (by decide : 1 ≤ 3)
    have hr__law_cut : Room 2 _ := hr.mono (by decide : 2 ≤ 3)
    have hr__law_right : Room 3 _ := hr.mono (by decide : 3 ≤ 3)
    have hr__law_row : Room 2 _ := hr.mono (by decide : 2 ≤ 3)
    have hr__law_great : Room 1 _ := hr.mono (by decide : 1 ≤ 3)
    have hr__law_hand : Room 1 _ := hr.mono (by decide : 1 ≤ 3)
    unfold sp_law at h
    refine ⟨_, PSs.nox (pss_cons (ps_for PassesOwn.never rfl (pi_list (pe_fn C__law_cells hr__law_cells hgd (by rfl) passL (pa_cons (pv 0) (pa_cons pe_int pa_nil)))) (pg_tup (by rfl) (pgs_cons (pg_name (i := 1) nd rfl (.inl rfl)) (pgs_cons (pg_name (i := 2) nd rfl (.inl rfl)) pgs_nil))) (pss_cons (ps_set (i := 3) nd rfl (.inl rfl) (pe_fn C__law_hand hr__law_hand hgd (by rfl) passL (pa_cons (pv 2) (pa_cons (pv 1) pa_nil))))
    (pss_cons (ps_set (i := 4) nd rfl (.inl rfl) (pe_fn C__law_row hr__law_row hgd (by rfl) passL (pa_cons (pv 3) (pa_cons (pe_and (pe_cmpR (op_eqA hu) (pv 1) pe_int (nomark _)) (pe_one (pe_fn C__law_great hr__law_great hgd (by rfl) passL (pa_cons (pv 0) pa_nil)))) pa_nil))))
    (pss_one (ps_for PassesOwn.never rfl (pi_list (pe_lst (pa_cons (pe_fn C__law_cut hr__law_cut hgd (by rfl) passL (pa_cons (pv 3) (pa_cons (pe_callB cl_len (by rfl) Z.len_ (by decide +kernel) (pa_cons (pv 4) pa_nil)) pa_nil))) (pa_cons (pe_lst pa_nil) (pa_cons (pe_listRg rfl rfl Z.list_ (prg_2 rfl Z.range_ pe_int (pe_callB cl_len (by rfl) Z.len_ (by decide +kernel) (pa_cons (pv 4) pa_nil)))) pa_nil))))) (pg_name (i := 5) nd rfl (.inl rfl)) (pss_one (ps_if (pt_not (pt_val (pe_fn C__law_right hr__law_right hgd (by rfl) passL (pa_cons (pv 4) (pa_cons (pv 5) pa_nil))))) (pss_one (ps_ret pe_bl)) pss_nil)))))))
    (pss_one (ps_ret (pe_and (pe_cmpR (op_eqA hu) (pe_fn C_pieces hr_pieces hgd (by rfl) passL (pa_cons (pe_lst (pa_cons pe_int (pa_cons pe_int (pa_cons pe_int pa_nil)))) (pa_cons (pe_lst (pa_cons pe_int pa_nil)) pa_nil))) (pe_lst (pa_cons (pe_lst (pa_cons pe_int (pa_cons pe_int pa_nil))) (pa_cons (pe_lst (pa_cons pe_int pa_nil)) pa_nil))) (nomark _)) (pe_one (pe_cmpR (op_eqA hu) (pe_fn C_sums_of hr_sums_of hgd (by rfl) passL (pa_cons (pe_lst (pa_cons pe_int pa_nil)) (pa_cons (pe_lst pa_nil) pa_nil))) (pe_lst (pa_cons pe_int pa_nil)) (nomark _))))))), ?_⟩
    (try dsimp only [cxOf])
    obtain ⟨x_script, v_script, rfl, h_script, r0, hm, q⟩ := h
    let G_ : Bool → Prop := fun r => ∀ v' H', Res K H0 r v' H' → Q v' H'
    have hq : ∀ r, r = r0 → G_ r := fun r e => by subst e; exact q
    clear q
    unfold m_law at hm
    have W0 := Wd.start (K := K) H0
    have W1 := Wd.arg W0 h_script
    obtain ⟨a2, rfl⟩ := Wd.eqScr W1 (Kn.at 0 rfl)
    refine i_seq ?_
    refine i_for ?_
    refine i_iList ?_
    refine i_call ?_
    refine i_tcons ?_
    refine i_var rfl ?_
    refine i_tcons ?_
    refine i_c ?_
    refine i_tnil ?_
    replace hm := bndE hm
    obtain ⟨r3, h4, hm⟩ := hm
    refine ⟨(x_script : Scr), _, 30, rfl, (Wd.arr W1 (Ar.kn (t := false) (Kn.at 0 rfl))), r3, h4, fun v5 H6 R7 => ?_⟩
    have W8 := Wd.call W1 R7
    obtain ⟨a9, rfl⟩ := Wd.eqL W8 (Kn.at 0 rfl)
    refine w_itL W8 (Lx.ls (Lx.kn (Kn.at 0 rfl))) ?_
    clear W0 W1
    have W10 := Wd.sel W8 [0, 1] rfl
    replace hm := bndE hm
    obtain ⟨o16, h17, hm⟩ := hm
    have hqi : ∀ r, o16 = .ret r → G_ r := fun r er => by subst er; exact hq _ (some_inj hm)
    refine w_for (⟨fun b e => [some (.ref a2), e.2.2.2.1, e.1, e.2.2.1, e.2.2.2.2, e.2.1], fun b e => [fc true (r3 : (List (Int × Int))) (.ref a9), fc false (x_script : Scr) (.ref a2)], fun b e => []⟩ : Shp (Unit) (Option V × Option V × Option V × Option V × Option V)) (none, none, none, none, none) h17 rfl W10 (gv_list (fun _ _ => (Lx.ls (Lx.kn (Kn.at 0 rfl))))) ?_ ?_
    · intro x13 v14 b11 e12 H18 o19 W15 hm hr20
      have hqii : ∀ r, o19 = .ret r → G_ r := fun r er => hqi r (hr20 r er)
      obtain ⟨e12_0, e12_1, e12_2, e12_3, e12_4⟩ := e12
      dsimp only at W15 ⊢
      obtain ⟨a24, rfl⟩ := Wd.eqP W15 (Kn.at 0 rfl)
      refine i_gTup ?_
      refine w_unpP W15 (Kn.at 0 rfl) (fun u25 u26 W27 => ?_)
      obtain rfl := Wd.eqI W27 (Kn.at 0 rfl)
      obtain rfl := Wd.eqI W27 (Kn.at 1 rfl)
      refine i_gCons ?_
      refine i_gName ?_
      refine i_gCons ?_
      refine i_gName ?_
      refine i_gNil ?_
      clear W15
      refine i_seq ?_
      refine i_asg ?_
      refine i_call ?_
      refine i_tcons ?_
      refine i_var rfl ?_
      refine i_tcons ?_
      refine i_var rfl ?_
      refine i_tnil ?_
      replace hm := bndE hm
      obtain ⟨r28, h29, hm⟩ := hm
      refine ⟨x13.2, x13.1, rfl, r28, h29, fun v30 H31 R32 => ?_⟩
      obtain ⟨p34, rfl, W33⟩ := Wd.callO W27 R32
      refine i_gName ?_
      clear W27
      refine i_seq ?_
      refine i_asg ?_
      refine i_call ?_
      refine i_tcons ?_
      refine i_var rfl ?_
      refine i_tcons ?_
      refine i_andV ?_
      refine i_op ?_
      refine i_var rfl ?_
      refine i_c ?_
      refine i_eqI ?_
      refine i_bl ?_
      replace hm := bndE hm
      obtain ⟨x44, h45, hm⟩ := hm
      refine w_andVW (L' := [oL true p34 (r28 : List Int)]) x44 W33 (fun hb35 P36 hP37 => ?_) (fun hb35 => ?_) (fun H46 W47 => ?_)
      · have hm : _ = some x44 := (if_pos hb35).symm.trans h45
        refine i_call ?_
        refine i_tcons ?_
        refine i_var rfl ?_
        refine i_tnil ?_
        replace hm := bndE hm
        obtain ⟨r38, h39, hm⟩ := hm
        refine ⟨(x_script : Scr), _, rfl, (Wd.arr W33 (Ar.kn (t := false) (Kn.at 4 rfl))), r38, h39, fun v40 H41 R42 => ?_⟩
        obtain ⟨rfl, W43⟩ := Wd.callB W33 R42
        have hm := some_inj hm
        exact hP37 _ _ hm W43
      · have hm := some_inj ((if_neg (by rw [hb35]; exact Bool.false_ne_true)).symm.trans h45)
        exact ⟨hm, W33⟩
      refine i_tnil ?_
      replace hm := bndE hm
      obtain ⟨r49, h50, hm⟩ := hm
      obtain ⟨us57, h55, h56⟩ := Wd.ioa W47 0 rfl
      refine ⟨p34, (r28 : List Int), us57, x44, rfl, h55, h56, r49, h50, fun v51 H52 R53 => ?_⟩
      have W54 := Wd.call1 (x := r49.1) (ys' := r49.2) W47 0 rfl R53
      obtain ⟨a58, rfl⟩ := Wd.eqL W54 (Kn.at 0 rfl)
      refine i_gName ?_
      clear W33 W47
      refine i_for ?_
      refine i_iList ?_
      refine i_tlst ?_
      refine i_tcons ?_
      refine i_call ?_
      refine i_tcons ?_
      refine i_var rfl ?_
      refine i_tcons ?_
      refine i_cb ?_
      refine i_tcons ?_
      refine i_var rfl ?_
      refine i_tnil ?_
      refine w_len W54 (Lx.ls (Lx.kn (Kn.at 0 rfl))) ?_
      refine i_tnil ?_
      replace hm := bndE hm
      obtain ⟨r59, h60, hm⟩ := hm
      obtain ⟨us67, h65, h66⟩ := Wd.ioa W54 0 rfl
      refine ⟨p34, (r49.2 : List Int), us67, (lenI r49.1), rfl, h65, h66, r59, h60, fun v61 H62 R63 => ?_⟩
      have W64 := Wd.call1 (x := r59.1) (ys' := r59.2) W54 0 rfl R63
      obtain ⟨a68, rfl⟩ := Wd.eqL W64 (Kn.at 0 rfl)
      refine i_tcons ?_
      refine i_tlst ?_
      refine i_tnil ?_
      refine w_lst (α := Int) (t := true) W64 KnL.nil (by show (0 : Nat) ≤ sizeLine; decide) (fun p69 H70 W71 => ?_)
      have W72 := Wd.frz W71
      refine i_tcons ?_
      refine i_lrg2 ?_
      refine i_c ?_
      refine i_cb ?_
      refine i_tcons ?_
      refine i_var rfl ?_
      refine i_tnil ?_
      refine w_len W72 (Lx.ls (Lx.kn (Kn.at 2 rfl))) ?_
      replace hm := bndE hm
      obtain ⟨x73, h74, hm⟩ := hm
      refine ⟨_, _, rfl, rfl, ?_⟩
      refine w_lrg W72 h74 (fun p75 H76 W77 => ?_)
      have W78 := Wd.frz W77
      refine i_tnil ?_
      refine w_lst (α := (List Int)) (t := true) W78 (KnL.cons (Kn.at 2 rfl) (KnL.cons (Kn.at 1 rfl) (KnL.cons (Kn.at 0 rfl) KnL.nil))) (by show (3 : Nat) ≤ sizeLine; decide) (fun p79 H80 W81 => ?_)
      have W82 := Wd.frz W81
      refine w_itL W82 (Lx.ls (Lx.kn (Kn.at 0 rfl))) ?_
      clear W54 W64 W71 W72 W77 W78 W81
      have W83 := Wd.sel W82 [0, 8, 4, 9] rfl
      have W84 := Wd.selO W83 [] rfl
      replace hm := bndE hm
      obtain ⟨o90, h91, hm⟩ := hm
      have hqiii : ∀ r, o90 = .ret r → G_ r := fun r er => by subst er; exact hqii _ (some_inj hm).symm
      refine w_for (⟨fun b e => [some (.ref a2), some (.int x13.1), some (.int x13.2), some (.ref p34), some (.ref a58), e], fun b e => [fc true (([r59.1, ([] : List Int), x73] : List (List Int)) : (List (List Int))) (.ref p79), fc true (r3 : (List (Int × Int))) (.ref a9), fc true (r49.1 : (List Int)) (.ref a58), fc false (x_script : Scr) (.ref a2)], fun b e => []⟩ : Shp (Unit) (Option V)) e12_1 h91 rfl W84 (gv_list (fun _ _ => (Lx.ls (Lx.kn (Kn.at 0 rfl))))) ?_ ?_
      · intro x87 v88 b85 e86_0 H92 o93 W89 hm hr94
        have hqiiii : ∀ r, o93 = .ret r → G_ r := fun r er => hqiii r (hr94 r er)
        dsimp only at W89 ⊢
        obtain ⟨a98, rfl⟩ := Wd.eqL W89 (Kn.at 0 rfl)
        refine i_gName ?_
        refine i_ifS ?_
        refine i_not ?_
        refine i_tB ?_
        refine i_call ?_
        refine i_tcons ?_
        refine i_var rfl ?_
        refine i_tcons ?_
        refine i_var rfl ?_
        refine i_tnil ?_
        replace hm := bndE hm
        obtain ⟨r99, h100, hm⟩ := hm
        refine ⟨(r49.1 : (List Int)), _, (x87 : (List Int)), _, rfl, (Wd.arr W89 (Ar.kn (t := true) (Kn.at 3 rfl))), (Wd.arr W89 (Ar.kn (t := true) (Kn.at 0 rfl))), r99, h100, fun v101 H102 R103 => ?_⟩
        obtain ⟨rfl, W104⟩ := Wd.callB W89 R103
        refine i_bl ?_
        clear W89
        rcases iteE hm with ⟨hb105, hm⟩ | ⟨hb105, hm⟩
        · refine i_bT hb105 ?_
          refine i_ret ?_
          refine i_c ?_
          exact hqiiii _ (some_inj hm).symm _ _ (Wd.res (x := (false : Bool)) W104 Kn.bl)
        · refine i_bF hb105 ?_
          refine i_next ?_
          have W106 := Wd.sel W104 [1, 2, 3, 4] rfl
          exact ⟨(), some (.ref a98), (some_inj hm).symm, rfl, W106⟩
      · intro s107 e108_0 H109 eb111 W110
        subst eb111
        dsimp only at W110 ⊢
        have W112 := Wd.sel W110 [1, 3] rfl
        exact ⟨(), (some (.int x13.2), e108_0, some (.ref p34), some (.int x13.1), some (.ref a58)), (some_inj hm).symm, rfl, W112⟩
    · intro s113 e114 H115 eb117 W116
      subst eb117
      obtain ⟨e114_0, e114_1, e114_2, e114_3, e114_4⟩ := e114
      dsimp only at W116 ⊢
      refine i_ret ?_
      refine i_andV ?_
      refine i_op ?_
      refine i_call ?_
      refine i_tcons ?_
      refine i_tlst ?_
      refine i_tcons ?_
      refine i_c ?_
      refine i_tcons ?_
      refine i_c ?_
      refine i_tcons ?_
      refine i_c ?_
      refine i_tnil ?_
      refine w_lst (α := Int) (t := true) W116 (KnL.cons Kn.int (KnL.cons Kn.int (KnL.cons Kn.int KnL.nil))) (by show (3 : Nat) ≤ sizeLine; decide) (fun p118 H119 W120 => ?_)
      have W121 := Wd.frz W120
      refine i_tcons ?_
      refine i_tlst ?_
      refine i_tcons ?_
      refine i_c ?_
      refine i_tnil ?_
      refine w_lst (α := Int) (t := true) W121 (KnL.cons Kn.int KnL.nil) (by show (1 : Nat) ≤ sizeLine; decide) (fun p122 H123 W124 => ?_)
      have W125 := Wd.frz W124
      refine i_tnil ?_
      replace hm := bndE hm
      obtain ⟨r126, h127, hm⟩ := hm
      refine ⟨(([1, 2, 3] : List Int) : (List Int)), _, (([2] : List Int) : (List Int)), _, rfl, (Wd.arr W125 (Ar.kn (t := true) (Kn.at 1 rfl))), (Wd.arr W125 (Ar.kn (t := true) (Kn.at 0 rfl))), r126, h127, fun v128 H129 R130 => ?_⟩
      have W131 := Wd.call W125 (ResD.res R130)
      obtain ⟨a132, rfl⟩ := Wd.eqL W131 (Kn.at 0 rfl)
      refine i_tlst ?_
      refine i_tcons ?_
      refine i_tlst ?_
      refine i_tcons ?_
      refine i_c ?_
      refine i_tcons ?_
      refine i_c ?_
      refine i_tnil ?_
      refine w_lst (α := Int) (t := true) W131 (KnL.cons Kn.int (KnL.cons Kn.int KnL.nil)) (by show (2 : Nat) ≤ sizeLine; decide) (fun p133 H134 W135 => ?_)
      have W136 := Wd.frz W135
      refine i_tcons ?_
      refine i_tlst ?_
      refine i_tcons ?_
      refine i_c ?_
      refine i_tnil ?_
      refine w_lst (α := Int) (t := true) W136 (KnL.cons Kn.int KnL.nil) (by show (1 : Nat) ≤ sizeLine; decide) (fun p137 H138 W139 => ?_)
      have W140 := Wd.frz W139
      refine i_tnil ?_
      refine w_lst (α := (List Int)) (t := true) W140 (KnL.cons (Kn.at 1 rfl) (KnL.cons (Kn.at 0 rfl) KnL.nil)) (by show (2 : Nat) ≤ sizeLine; decide) (fun p141 H142 W143 => ?_)
      have W144 := Wd.frz W143
      replace hm := bndE hm
      obtain ⟨x145, h146, hm⟩ := hm
      refine w_eq W144 (Ar.kn (t := true) (Kn.at 3 rfl)) (Ar.kn (t := true) (Kn.at 0 rfl)) h146 ?_
      refine i_bl ?_
      replace hm := bndE hm
      obtain ⟨x173, h174, hm⟩ := hm
      refine w_andVW (L' := []) x173 W144 (fun hb147 P148 hP149 => ?_) (fun hb147 => ?_) (fun H175 W176 => ?_)
      · have hm : _ = some x173 := (if_pos hb147).symm.trans h174
        refine i_op ?_
        refine i_call ?_
        refine i_tcons ?_
        refine i_tlst ?_
        refine i_tcons ?_
        refine i_c ?_
        refine i_tnil ?_
        refine w_lst (α := Int) (t := true) W144 (KnL.cons Kn.int KnL.nil) (by show (1 : Nat) ≤ sizeLine; decide) (fun p150 H151 W152 => ?_)
        have W153 := Wd.frz W152
        refine i_tcons ?_
        refine i_tlst ?_
        refine i_tnil ?_
        refine w_lst (α := Int) (t := true) W153 KnL.nil (by show (0 : Nat) ≤ sizeLine; decide) (fun p154 H155 W156 => ?_)
        have W157 := Wd.frz W156
        refine i_tnil ?_
        replace hm := bndE hm
        obtain ⟨r158, h159, hm⟩ := hm
        refine ⟨(([4] : List Int) : (List Int)), _, (([] : List Int) : (List Int)), _, rfl, (Wd.arr W157 (Ar.kn (t := true) (Kn.at 1 rfl))), (Wd.arr W157 (Ar.kn (t := true) (Kn.at 0 rfl))), r158, h159, fun v160 H161 R162 => ?_⟩
        obtain ⟨p164, rfl, W163⟩ := Wd.callO W157 R162
        have W165 := Wd.frz W163
        refine i_tlst ?_
        refine i_tcons ?_
        refine i_c ?_
        refine i_tnil ?_
        refine w_lst (α := Int) (t := true) W165 (KnL.cons Kn.int KnL.nil) (by show (1 : Nat) ≤ sizeLine; decide) (fun p166 H167 W168 => ?_)
        have W169 := Wd.frz W168
        replace hm := bndE hm
        obtain ⟨x170, h171, hm⟩ := hm
        refine w_eq W169 (Ar.kn (t := true) (Kn.at 1 rfl)) (Ar.kn (t := true) (Kn.at 0 rfl)) h171 ?_
        have W172 := Wd.drop W169 4 rfl
        have hm := some_inj hm
        exact hP149 _ _ hm W172
      · have hm := some_inj ((if_neg (by rw [hb147]; exact Bool.false_ne_true)).symm.trans h174)
        exact ⟨hm, W144⟩
      exact hq _ (some_inj hm) _ _ (Wd.res (x := (x173 : Bool)) W176 Kn.bl)
end
def d__law_cells : He.DefD := ⟨("_law_cells", none), "_law_cells", "_law_cells", defArgs s__law_cells, defBody s__law_cells, defScope s__law_cells, [], []⟩
def d__law_hand : He.DefD := ⟨("_law_hand", none), "_law_hand", "_law_hand", defArgs s__law_hand, defBody s__law_hand, defScope s__law_hand, [], []⟩
def d__law_great : He.DefD := ⟨("_law_great", none), "_law_great", "_law_great", defArgs s__law_great, defBody s__law_great, defScope s__law_great, [], []⟩
def d__law_draw : He.DefD := ⟨("_law_draw", none), "_law_draw", "_law_draw", defArgs s__law_draw, defBody s__law_draw, defScope s__law_draw, [], []⟩
def d__law_row : He.DefD := ⟨("_law_row", none), "_law_row", "_law_row", defArgs s__law_row, defBody s__law_row, defScope s__law_row, [], []⟩
def d__law_cut : He.DefD := ⟨("_law_cut", none), "_law_cut", "_law_cut", defArgs s__law_cut, defBody s__law_cut, defScope s__law_cut, [], []⟩
def d__law_due : He.DefD := ⟨("_law_due", none), "_law_due", "_law_due", defArgs s__law_due, defBody s__law_due, defScope s__law_due, [], []⟩
def d_pieces : He.DefD := ⟨("pieces", none), "pieces", "pieces", defArgs s_pieces, defBody s_pieces, defScope s_pieces, [], []⟩
def d_sums_of : He.DefD := ⟨("sums_of", none), "sums_of", "sums_of", defArgs s_sums_of, defBody s_sums_of, defScope s_sums_of, [], []⟩
def d__law_same : He.DefD := ⟨("_law_same", none), "_law_same", "_law_same", defArgs s__law_same, defBody s__law_same, defScope s__law_same, [], []⟩
def d__law_right : He.DefD := ⟨("_law_right", none), "_law_right", "_law_right", defArgs s__law_right, defBody s__law_right, defScope s__law_right, [], []⟩
def d_law : He.DefD := ⟨("law", none), "law", "law", defArgs s_law, defBody s_law, defScope s_law, [], []⟩
def fn_ : List He.DefD := [d__law_cells, d__law_hand, d__law_great, d__law_draw, d__law_row, d__law_cut, d__law_due, d_pieces, d_sums_of, d__law_same, d__law_right, d_law]
def fa_ : List He.Fa := [.glo "_law_cells", .glo "_law_hand", .glo "_law_great", .glo "_law_draw", .glo "_law_row", .glo "_law_cut", .glo "_law_due", .glo "pieces", .glo "sums_of", .glo "_law_same", .glo "_law_right", .glo "law", .free "abs", .free "all", .free "bool", .free "dict", .free "enumerate", .free "int", .free "isinstance", .free "len", .free "list", .free "max", .free "min", .free "range", .free "repr", .free "set", .free "sorted", .free "str", .free "sum", .free "tuple", .free "zip", .free "ValueError"]
def names_ : List PySem.Str := (["pieces", "sums_of", "_law_hand", "_law_draw", "_law_cells", "_law_great", "_law_row", "_law_cut", "_law_same", "_law_due", "_law_right"] : List PySem.Str)
abbrev R_ : PySem.W.OpenRow := PySem.W.OpenLaw.row PySem.Challenge.rw_piecebounds_k03_pieces_and_sums
abbrev hk_ : PySem.W.Hook := He.hookD 4 fa_ fn_
def ob_ (s : PySem.W.SharedT) : He.AlD := He.obsDG 4 fa_ fn_ (HandSHeadRun.getT s)
theorem ob_eq_ (s : PySem.W.SharedT) : ob_ s = hk_.obs s.abs := He.obsDG_eq (HandSHeadRun.getT_eq s)
theorem run_ (w : World) : HandSHeadRun.RunEq R_ (PySem.W.view R_.prog [13]) hk_ ob_ 4000 names_ w := by
  intro os
  kernel_rfl
theorem facts_ {P : Program} {w : World} {K : PySem.W.Frag} {h : Heap} {mg : Str → Option Value} {f : Addr} (X : K.In h) (G : h.Ns mainGlobals mg) (hfa : mg ("law" : Str) = some (.ref f)) (c : He.SaysD fa_ fn_ K) :
    ∃ fd : FuncData, (∀ (s : Shared) (v : Value), BindsTo s fd ⟨[v], []⟩ [("script", v)]) ∧ ∀ base : Heap, K.In base → base.Ns mainGlobals mg → FnG P w K mg base 4 f fd ["script"] (sp_law K) := by
  obtain ⟨fd__law_cells, F__law_cells⟩ := c.def_ 0 (d := d__law_cells) rfl
  have hm__law_cells := He.glo_ok X G (c.fact 0 (f := .glo "_law_cells") rfl)
  obtain ⟨fd__law_hand, F__law_hand⟩ := c.def_ 1 (d := d__law_hand) rfl
  have hm__law_hand := He.glo_ok X G (c.fact 1 (f := .glo "_law_hand") rfl)
  obtain ⟨fd__law_great, F__law_great⟩ := c.def_ 2 (d := d__law_great) rfl
  have hm__law_great := He.glo_ok X G (c.fact 2 (f := .glo "_law_great") rfl)
  obtain ⟨fd__law_draw, F__law_draw⟩ := c.def_ 3 (d := d__law_draw) rfl
  have hm__law_draw := He.glo_ok X G (c.fact 3 (f := .glo "_law_draw") rfl)
  obtain ⟨fd__law_row, F__law_row⟩ := c.def_ 4 (d := d__law_row) rfl
  have hm__law_row := He.glo_ok X G (c.fact 4 (f := .glo "_law_row") rfl)
  obtain ⟨fd__law_cut, F__law_cut⟩ := c.def_ 5 (d := d__law_cut) rfl
  have hm__law_cut := He.glo_ok X G (c.fact 5 (f := .glo "_law_cut") rfl)
  obtain ⟨fd__law_due, F__law_due⟩ := c.def_ 6 (d := d__law_due) rfl
  have hm__law_due := He.glo_ok X G (c.fact 6 (f := .glo "_law_due") rfl)
  obtain ⟨fd_pieces, F_pieces⟩ := c.def_ 7 (d := d_pieces) rfl
  have hm_pieces := He.glo_ok X G (c.fact 7 (f := .glo "pieces") rfl)
  obtain ⟨fd_sums_of, F_sums_of⟩ := c.def_ 8 (d := d_sums_of) rfl
  have hm_sums_of := He.glo_ok X G (c.fact 8 (f := .glo "sums_of") rfl)
  obtain ⟨fd__law_same, F__law_same⟩ := c.def_ 9 (d := d__law_same) rfl
  have hm__law_same := He.glo_ok X G (c.fact 9 (f := .glo "_law_same") rfl)
  obtain ⟨fd__law_right, F__law_right⟩ := c.def_ 10 (d := d__law_right) rfl
  have hm__law_right := He.glo_ok X G (c.fact 10 (f := .glo "_law_right") rfl)
  obtain ⟨fd_law, F_law⟩ := c.def_ 11 (d := d_law) rfl
  have hm_law := He.glo_ok X G (c.fact 11 (f := .glo "law") rfl)
  have Z : Blt mg := ⟨He.free_ok X G (c.fact 12 (f := .free "abs") rfl), He.free_ok X G (c.fact 13 (f := .free "all") rfl), He.free_ok X G (c.fact 14 (f := .free "bool") rfl), He.free_ok X G (c.fact 15 (f := .free "dict") rfl), He.free_ok X G (c.fact 16 (f := .free "enumerate") rfl), He.free_ok X G (c.fact 17 (f := .free "int") rfl), He.free_ok X G (c.fact 18 (f := .free "isinstance") rfl), He.free_ok X G (c.fact 19 (f := .free "len") rfl), He.free_ok X G (c.fact 20 (f := .free "list") rfl), He.free_ok X G (c.fact 21 (f := .free "max") rfl), He.free_ok X G (c.fact 22 (f := .free "min") rfl), He.free_ok X G (c.fact 23 (f := .free "range") rfl), He.free_ok X G (c.fact 24 (f := .free "repr") rfl), He.free_ok X G (c.fact 25 (f := .free "set") rfl), He.free_ok X G (c.fact 26 (f := .free "sorted") rfl), He.free_ok X G (c.fact 27 (f := .free "str") rfl), He.free_ok X G (c.fact 28 (f := .free "sum") rfl), He.free_ok X G (c.fact 29 (f := .free "tuple") rfl), He.free_ok X G (c.fact 30 (f := .free "zip") rfl), He.free_ok X G (c.fact 31 (f := .free "ValueError") rfl)⟩
  have e := hfa.symm.trans hm_law
  cases e
  have b := FunD.bindsA (ps := ["script"]) F_law fun _ _ _ _ _ _ us hl => match us, hl with | [_], _ => rfl
  refine ⟨fd_law, fun s v => b s [v] rfl, fun base _ _ => ?_⟩
  have C__law_cells : Fn P w K mg base 1 "_law_cells" ["script", "many"] (sp__law_cells K) := ok__law_cells F__law_cells hm__law_cells Z 
  have C__law_hand : Fn P w K mg base 1 "_law_hand" ["cell", "k"] (sp__law_hand K) := ok__law_hand F__law_hand hm__law_hand Z 
  have C__law_great : Fn P w K mg base 1 "_law_great" ["script"] (sp__law_great K) := ok__law_great F__law_great hm__law_great Z 
  have C__law_draw : Fn P w K mg base 1 "_law_draw" ["hand", "limit"] (sp__law_draw K) := ok__law_draw F__law_draw hm__law_draw Z 
  have C__law_row : Fn P w K mg base 2 "_law_row" ["hand", "long"] (sp__law_row K) := ok__law_row F__law_row hm__law_row Z C__law_draw
  have C__law_cut : Fn P w K mg base 2 "_law_cut" ["hand", "size"] (sp__law_cut K) := ok__law_cut F__law_cut hm__law_cut Z C__law_draw
  have C__law_due : Fn P w K mg base 1 "_law_due" ["row", "cut"] (sp__law_due K) := ok__law_due F__law_due hm__law_due Z 
  have C_pieces : Fn P w K mg base 1 "pieces" ["row", "cut"] (sp_pieces K) := ok_pieces F_pieces hm_pieces Z 
  have C_sums_of : Fn P w K mg base 2 "sums_of" ["row", "cut"] (sp_sums_of K) := ok_sums_of F_sums_of hm_sums_of Z C_pieces
  have C__law_same : Fn P w K mg base 1 "_law_same" ["found", "due"] (sp__law_same K) := ok__law_same F__law_same hm__law_same Z 
  have C__law_right : Fn P w K mg base 3 "_law_right" ["row", "cut"] (sp__law_right K) := ok__law_right F__law_right hm__law_right Z C__law_same C_sums_of C_pieces C__law_due
  exact ok_law F_law hm_law Z C_sums_of C_pieces C__law_cells C__law_cut C__law_right C__law_row C__law_great C__law_hand
end PB
open PySem PySem.W PySem.Calls PyProof.Rows
theorem PySem.Challenge.cw_piecebounds_k03_pieces_and_sums_holds : PySem.Challenge.rw_piecebounds_k03_pieces_and_sums.Holds := by
  w_on; o_law
  refine HandSHeadRun.head_any (r := OpenLaw.row PySem.Challenge.rw_piecebounds_k03_pieces_and_sums) (q := view (OpenLaw.row PySem.Challenge.rw_piecebounds_k03_pieces_and_sums).prog [13]) (H := PB.hk_) (ob := PB.ob_) (M := 4000) (loose := PB.names_) (d := HandSHeadRun.topDef (OpenLaw.row PySem.Challenge.rw_piecebounds_k03_pieces_and_sums).prog 13) (kwd := []) PB.ob_eq_
    (by kernel_rfl) (fun s => by kernel_rfl) PB.run_ (by kernel_rfl) (by kernel_rfl) (by kernel_rfl) (by rfl) (by first | assumption | decide +kernel) (by decide +kernel) ⟨rfl, rfl, rfl, rfl, rfl, by decide +kernel⟩ ?hw ?hc
  case hw => w_witness2
  case hc =>
    refine PB.walk_ofG (l := PySem.Challenge.rw_piecebounds_k03_pieces_and_sums) (n := 63) (k := 4) (x := "script") rfl (by decide) (by kernel_rfl) ⟨rfl, by decide, by decide⟩ ?F
    intro w mg fa h Y G hmg0
    obtain ⟨K, KX, c⟩ := Y
    have hmg : mg ("law" : PySem.Str) = some (.ref fa) := by
      have e : (HandSHeadRun.topDef (OpenLaw.row PySem.Challenge.rw_piecebounds_k03_pieces_and_sums).prog 13).name = ("law" : PySem.Str) := by kernel_rfl
      rw [← e]
      exact hmg0
    obtain ⟨fd, hb, hF⟩ := PB.facts_ (P := (PySem.Challenge.rw_piecebounds_k03_pieces_and_sums).prog) (w := w) KX G hmg c
    exact ⟨K, fd, PB.sp_law K, KX, hb, fun H a ns hl hS => ⟨⟨ns⟩, .ref a, rfl, ⟨a, rfl, hS⟩, true, PB.law_true ns hl, fun v' H' r => (let ⟨_, _, _, _, h⟩ := r; h)⟩, hF⟩
#print axioms PySem.Challenge.cw_piecebounds_k03_pieces_and_sums_holds
