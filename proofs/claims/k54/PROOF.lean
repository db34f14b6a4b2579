import PyProof.Rows.All
import Wide.All
import OpenK.AllK
import Wide.FinOn
import KE.KStateDown
import HandS.ForMost
import HandS.ForExc
import HandS.Wide
import HandS.SortInts
import HandS.IsInst
import HandS.Conv
import HandS.Zip
import HandS.Defaults
import HandS.HeadEnd
import HandS.Head0
import HandS.Head1
import HandS.Head2
import HandS.HeadHook1
import HandS.HeadHook2
import HandS.HeadHook3
import HandS.ListItems
import PyProof.ZipIter
import HandS.Codes
import HandS.Style
import HandS.Flow
import HandS.TryOnly
import HandS.ExcValue
import HandS.ExcBuiltin
import KE.KExcIs
import HandS.ExcIs
import KE.DatumOrd
import HandS.Strs
import HandS.SetFor
import HandS.Text
import HandS.Steps
import HandS.ExcOwn
import PyProof.Rows.IntBool
import KE.KDictZip
import KE.GoesComp
import KE.IntTextLaws
import PyProof.StrBlock2
import HandS.FStr
import PySem.Challenge.RW_piecebounds_k54_texts_of_no_row
set_option Elab.async false
set_option linter.all false
set_option maxRecDepth 100000
set_option maxHeartbeats 4000000
namespace PB
open PySem PySem.Spec PyProof.Rows L2

/-! ### defs whose calls happen with no repr under way -/
structure FnG (P : Program) (w : World) (K : PySem.W.Frag) (mg : Str → Option Value) (base : Heap)
    (k : Nat) (f : Addr) (fd : FuncData) (ps : List Str) (sp : Sp) : Prop where
  len : ∀ vs H Q E, sp vs H Q E → vs.length = ps.length
  run : ∀ (A : Around) (outer : List Env) (s : Shared) (H : Hp) (args : Args) (us : List Value)
    (vs : List V) (Q : VK) (E : XK), Room k A → A.guards = some [] →
    Env0 P w K mg base A outer s H → BindsTo s fd args (ps.zip us) → Vals vs us →
    sp vs H Q E → codeAny (model P w) A (.call (.ref f) args) (CR (L2.CX P w) outer P w H s Q E) s

theorem FnG.mono {P : Program} {w : World} {K : PySem.W.Frag} {mg : Str → Option Value} {base : Heap}
    {j k : Nat} {f : Addr} {fd : FuncData} {ps : List Str} {sp : Sp}
    (F : FnG P w K mg base j f fd ps sp) (h : j ≤ k) : FnG P w K mg base k f fd ps sp :=
  ⟨F.len, fun A o s H a us vs Q E hr => F.run A o s H a us vs Q E (hr.mono h)⟩

theorem FnG.of_ok {P : Program} {w : World} {K : PySem.W.Frag} {mg : Str → Option Value} {base : Heap}
    {k : Nat} {f : Addr} {fd : FuncData} {ps : List Str} {sp : Sp}
    (F : FnOk P w K mg base (L2.CX P w) k f fd ps sp) : FnG P w K mg base k f fd ps sp :=
  ⟨F.len, fun A o s H a us vs Q E hr _ => F.run A o s H a us vs Q E hr⟩

/-- from the def's body, as the layer has it, with the knowledge that nothing is being shown -/
theorem okG {P : Program} {w : World} {K : PySem.W.Frag} {mg : Str → Option Value} {base : Heap}
    {x qual : Str} {params : Arguments} {body : List Stmt} {scope : Scope} {dvs : List V}
    {kws : List (Str × V)} {f : Addr} {fd : FuncData} {N ps : List Str} {k : Nat} {sp : Sp}
    (F : FunD K x qual params body scope dvs kws f fd) (S : FnScope N ps scope)
    (len : ∀ vs H Q E, sp vs H Q E → vs.length = ps.length)
    (hb : ∀ (cdv : Value) (A : Around) (outer : List Env) (s : Shared) (H : Hp) (vs : List V) (Q : VK)
      (E : XK), Room k (A.deeper (envOfC qual scope s.heap.objs.size f cdv)) → A.guards = some [] →
      sp vs H Q E → ∃ t, PSs (cxOf (L2.CX P w) P w K mg base N qual scope f cdv A outer s H E) body t ∧
        t { nx := fun _ H' => Q .non H', rt := Q } (start N vs) H) :
    FnG P w K mg base (k + 1) f fd ps sp := by
  obtain ⟨oc, od, dV, kV, doc, pm, an, cd, ct, osl, rfl, lk, hcd, _, _⟩ := F.ex
  refine ⟨len, fun A outer s H args us vs Q E hr hgd e0 hbi r hsp => ?_⟩
  have hl := len _ _ _ _ hsp
  have KX : K.In s.heap := e0.mod.kin.keeps fun b o e =>
    (e0.bs b o e).1
  have lim : s.heap.NoLimit := e0.mod.nolimit.keeps fun b o e =>
    (e0.bs b o e).1
  have hkind : ∀ y ∈ ps.zip us, scope.names.lookup y.1 = some .local ∨ (scope.names.lookup y.1 = some .cell ∧
      ((cellsFrom (s.heap.objs.size + 1) scope.names []).lookup y.1).isSome = true) := fun ⟨n, v⟩ hy => by
    rcases S.par n (List.of_mem_zip hy).1 with q | q
    · exact .inl q
    · exact .inr ⟨q, PySem.W.cellsFrom_some _ _ _ (.inl q)⟩
  refine codeAny_call_function hr.depth (KX _ _ lk) rfl S.co S.gen rfl
    (PySem.W.codeRec_of KX hcd) (hbi _ _ _ _ ?_)
  refine wpAny_newFunctionEnv_cells S.kind hkind fun env he s1 x => ?_
  subst he
  refine ⟨lim.keeps x.toInCall.keep, codeAny_func ?_⟩
  obtain ⟨t, ht, hq⟩ := hb cd A outer s H vs Q E (hr.deeper _) hgd hsp
  have I : Inv (cxOf (L2.CX P w) P w K mg base N qual scope f cd A outer s H E) [] (start N vs) H s1 :=
    inv_start S hr.hd e0 hl r x
  refine wpAny_mono (ht.run [] s1 (start N vs) H _ I hq) (fun fl s' hs => ?_) (fun e s' hs => hs)
  have fin : ∀ {σ' : L2.St} {H' : Hp} {v : V} {u : Value},
      Inv (cxOf (L2.CX P w) P w K mg base N qual scope f cd A outer s H E) [] σ' H' s' → RelV v u → Q v H' →
      CE outer P w H s Q u s' := fun {σ' H' v u} J rv q =>
    ⟨v, H', J.os, J.bare, J.base, J.hok, rv, q⟩
  match fl, hs with
  | .ret u, hs =>
    obtain ⟨v, σ', H', J, rv, q⟩ := hs
    exact fin J rv q
  | .next, hs =>
    obtain ⟨σ', H', J, q⟩ := hs
    exact fin (v := V.non) (u := Value.none) J rfl q
  | .brk, hs =>
    obtain ⟨_, _, _, q⟩ := hs
    exact q.elim
  | .cont, hs =>
    obtain ⟨_, _, _, q⟩ := hs
    exact q.elim

/-- a def by its name -/
structure Fn (P : Program) (w : World) (K : PySem.W.Frag) (mg : Str → Option Value) (base : Heap)
    (k : Nat) (x : Str) (ps : List Str) (sp : Sp) : Prop where
  ex : ∃ (f : Addr) (fd : FuncData), mg x = some (.ref f) ∧ PySem.W.keepIn K (.ref f) = true ∧
    Binds K fd ps [] ∧ FnG P w K mg base k f fd ps sp

section
variable {X : Cx} {k : Nat} {f C : Addr} {fd : FuncData} {ps : List Str} {sp : Sp} {E : XK} {x : Str}
variable {p pos : Pos} {e : Expr} {es : List Expr} {t : TA}

theorem run_fnG {pins : List (Addr × Obj)} {σ : L2.St} {H : Hp} {s : Shared} {Q : VK} {us : List Value}
    {vs : List V} (F : FnG X.prog X.w X.K X.mg X.base k f fd ps sp) (hr : Room k X.A)
    (hgd : X.A.guards = some []) (hb : Binds X.K fd ps []) (hx : Passes (L2.CX X.prog X.w) X E)
    (I : Inv X pins σ H s) (r : Vals vs us) (h : sp vs H Q E) :
    wpAny (model X.prog X.w) X.A (call (.ref f) us) (EP X pins σ Q) X.xe s := by
  have hl : us.length = ps.length := by
    rw [← r.length]
    exact F.len _ _ _ _ h
  have hb2 := hb s us I.kIn (by rw [List.append_nil]; exact hl)
  rw [List.append_nil] at hb2
  refine wpAny_call (codeAny_mono (F.run X.A X.stack s H ⟨us, []⟩ us vs Q E hr hgd I.env0 hb2 r h)
    fun r s' hq => ?_)
  match r, hq with
  | .error e, hq => exact hx pins σ H s e s' I hq
  | .ok (.ret u), hq => exact I.after hq
  | .ok .next, hq => exact hq.elim
  | .ok .brk, hq => exact hq.elim
  | .ok .cont, hq => exact hq.elim

/-- f(e, ..) -/
theorem pe_fn (G : Fn X.prog X.w X.K X.mg X.base k x ps sp) (hr : Room k X.A)
    (hgd : X.A.guards = some []) (hg : Gl X x) (hx : Passes (L2.CX X.prog X.w) X E)
    (ha : PA X (e :: es) t) (hdb : (x == ("__debug__" : Str)) = false := by decide)
    (he : starEach (e :: es) X.env = (false, eval e X.env) :: starEach es X.env := by rfl)
    (hpl : (backTo pos (starEach es X.env)).any (·.1) = false := by rfl) :
    PE X (.Call (.Name x p) (e :: es) [] pos) (tCall sp [] E t) := by
  obtain ⟨f, fd, hm, hk, hb, F⟩ := G.ex
  refine ⟨fun pins s σ H Q I h => wpAny_Call_Name_kw (ld_glob I hg hm ?_ hdb)⟩
  refine PySem.W.callWith_K (h₀ := X.base) I.ok.mod.kin hk
    (thn (ha.run pos pins s σ H _ I h) fun us s1 ⟨vs, H1, I1, r, q⟩ => ⟨I1.kIn, ?_⟩) he hpl
  have q' : sp (vs ++ []) H1 Q E := q
  rw [List.append_nil] at q'
  exact run_fnG F hr hgd hb hx I1 r q'
end

/-! ### the law's own call, at the caller's place alone -/
theorem law_callG {P : Program} {w : World} {K : PySem.W.Frag} {mg mb : Str → Option Value} {k : Nat}
    {fa a : Addr} {fd : FuncData} {x : Str} {sp : Sp} {z : Shared} {vs : List Value} {ns : List Int}
    (KX : K.In z.heap) (hns : z.heap.Ns mainGlobals mg) (hb : z.heap.Ns builtinsNs mb)
    (hbb : ∀ x : Str, x ≠ "__name__" → mb x = bootBuiltins x) (hlim : z.heap.NoLimit) (hg : z.gens = #[])
    (ha : z.heap.get? a = some { cls := .type "list", data := .seq vs.toArray })
    (hi : IntsAre vs ns) (hl : ns.length ≤ sizeLine) (hr : Room k callerA)
    (F : ∀ base : Heap, K.In base → base.Ns mainGlobals mg → FnG P w K mg base k fa fd [x] sp)
    (hbind : ∀ (s : Shared) (u : Value), BindsTo s fd ⟨[u], []⟩ [(x, u)])
    (hsp : ∀ H : Hp, SqL K H a (ns.map V.int) →
      sp [.ref a] H (fun v _ => v = .bl true) fun _ _ _ => False) :
    codeAny (model P w) callerA (.call (.ref fa) ⟨[.ref a], []⟩)
      (fun r s' => r = .ok (.ret (.bool true)) ∧ OldK z.heap s'.heap ∧ s'.os = z.os ∧ AllBare s'.gens) z := by
  have rv := vals_ints hi
  have lenV := hi.length
  have core : ∀ H : Hp, Only H → SqL K H a (ns.map V.int) → HOk P w H z.heap →
      (∀ b, H b ≠ none → b = a) → (H a ≠ none → K.lookup a = none) →
      codeAny (model P w) callerA (.call (.ref fa) ⟨[.ref a], []⟩)
        (fun r s' => r = .ok (.ret (.bool true)) ∧ OldK z.heap s'.heap ∧ s'.os = z.os ∧ AllBare s'.gens) z := by
    intro H hO hS hok hA hK
    have noA : ∀ {b : Addr} {o : Obj} {es : Array DictEntry} {ep : Nat}, z.heap.get? b = some o →
        o.data = .dict es ep → H b = none := fun {b o es ep} e d => by
      cases q : H b with
      | none => rfl
      | some u =>
        obtain rfl : b = a := hA b (by simp [q])
        rw [ha] at e
        cases e
        cases (show Data.seq vs.toArray _ = Data.dict es ep from d)
    have nsK : ∀ {b : Addr} {m : Str → Option Value}, z.heap.Ns b m → (hidT z.heap H).Ns b m :=
      fun {b m} ⟨o, es, ep, e, d, r⟩ => ⟨o, es, ep, hidT_get e (noA e d), d, r⟩
    have hKb : K.In (hidT z.heap H) := fun b o e => hidT_get (KX b o e) (by
      cases q : H b with
      | none => rfl
      | some u =>
        obtain rfl : b = a := hA b (by simp [q])
        rw [hK (by simp [q])] at e
        cases e)
    have hM : Mod K mg (hidT z.heap H) :=
      ⟨hKb, nsK hns, ⟨mb, nsK hb, hbb⟩, let ⟨mc, h1, h2⟩ := hlim; ⟨mc, nsK h1, h2⟩⟩
    have e0 : Env0 P w K mg (hidT z.heap H) callerA [] z H :=
      ⟨rfl, hM, fun b o e => of_hidT e, Nat.le_of_eq (hidT_size _ _), trivial,
        fun b hb => absurd (show b ∈ ([] : List Addr) from hb) (by simp), hok, .of_eq hg⟩
    refine codeAny_mono ((F _ hKb (nsK hns)).run callerA [] z H ⟨[.ref a], []⟩ [.ref a] [.ref a] _ _ hr rfl e0
      (hbind z (.ref a)) (.cons rfl .nil) (hsp H hS)) fun r s' h => ?_
    match r, h with
    | .error e, h =>
      obtain ⟨_, _, _, _, _, _, _, _, _, _, _, _, q⟩ := h
      exact q.elim
    | .ok .next, h => exact h.elim
    | .ok .brk, h => exact h.elim
    | .ok .cont, h => exact h.elim
    | .ok (.ret u), h =>
      obtain ⟨v, H', os, bare, un, hok', r', q⟩ := h
      obtain rfl : v = .bl true := q
      obtain rfl : u = Value.bool true := r'
      refine ⟨rfl, OldK.of_keep fun b o e => ?_, os, bare⟩
      cases q : H b with
      | none =>
        exact un.keep b o e q (fun y => absurd (show b ∈ ([] : List Addr) from y) (by simp)) (by simp)
      | some u =>
        rcases hO b with y | ⟨ob, xs, y⟩
        · rw [q] at y
          cases y
        · obtain ⟨e1, _⟩ := hok b _ y
          obtain ⟨e2, _⟩ := hok' b _ (un.frzs b ob _ y)
          rw [e] at e1
          cases e1
          exact e2
  cases hk : K.lookup a with
  | some o =>
    have e := KX a o hk
    rw [ha] at e
    cases e
    refine core (fun _ => none) (fun _ => .inl rfl) (.inr ⟨_, vs.toArray, _, hk, rfl, rfl, rfl, ?_, by simpa using rv⟩)
      (fun b u q => by cases (show (none : Option HO) = some u from q)) (fun b q => absurd rfl q) fun q => absurd rfl q
    rw [List.size_toArray, lenV]
    exact hl
  | none =>
    let oS : Obj := { cls := .type "list", data := .seq vs.toArray }
    let HS : Hp := fun b => if b = a then some (.frz oS (.lst (ns.map V.int))) else none
    have hS : HS a = some (.frz oS (.lst (ns.map V.int))) := if_pos rfl
    have hN : ∀ b, b ≠ a → HS b = none := fun b hb => if_neg hb
    refine core HS (fun b => ?_) (.inl (.inr ⟨oS, hS⟩)) (fun b u q => ?_) (fun b q => ?_) fun _ => hk
    · by_cases hb : b = a
      · exact .inr ⟨_, _, by rw [hb]; exact hS⟩
      · exact .inl (hN b hb)
    · by_cases hb : b = a
      · subst hb
        rw [hS] at q
        cases q
        exact ⟨ha, by rw [List.length_map]; exact hl, vs, _, rv, ha⟩
      · rw [hN b hb] at q
        cases q
    · by_cases hb : b = a
      · exact hb
      · exact absurd (hN b hb) q

/-- a law's end over a head by facts -/
theorem walk_ofG {l : PySem.W.OpenLaw} {n k : Nat} {q : Program} {loose : List Str}
    {XP : (Str → Option Value) → Heap → Prop} {YP : World → Heap → Prop} {d : DefRec} {x : Str}
    (hn : l.most = some n) (hn2 : n ≤ sizeLine) (hdf : d.params.defaults = []) (hr : Room k callerA)
    (F : ∀ (w : World) (mg : Str → Option Value) (fa : Addr) (h : Heap), YP w h → h.Ns mainGlobals mg →
      mg d.name = some (.ref fa) → ∃ (K : PySem.W.Frag) (fd : FuncData) (sp : Sp), K.In h ∧
        (∀ (s : Shared) (u : Value), BindsTo s fd ⟨[u], []⟩ [(x, u)]) ∧
        (∀ (H : Hp) (a : Addr) (ns : List Int), ns.length ≤ n → SqL K H a (ns.map V.int) →
          sp [.ref a] H (fun v _ => v = .bl true) fun _ _ _ => False) ∧
        ∀ base : Heap, K.In base → base.Ns mainGlobals mg → FnG l.prog w K mg base k fa fd [x] sp) :
    PySem.W.WalkO q loose XP YP l.row.toRowW d [] (fun f vs => PySem.call f vs) := by
  refine Att.attach_call hn hdf fun w s₀ z mg mb fa o pm cd doc a vs ns G Y ho hd hcd hmg hobj hints hlen hg => ?_
  obtain ⟨K, fd, sp, KX, hb, hsp, hF⟩ := F w mg fa _ Y G.T.g hmg
  exact law_callG KX G.T.g G.T.b G.T.builtins G.T.nolimit hg hobj hints (Nat.le_trans hlen hn2) hr hF hb
    (fun H hS => hsp H a ns hlen hS)

/-! ### repr of data -/
section
variable {X : Cx}
def rRepr (K : PySem.W.Frag) : List V → Hp → VK → Prop := fun xs H Q => ∃ (x : V) (d : PyData),
  xs = [x] ∧ Dp K H x d ∧ d.showable = true ∧ d.hasDict = false ∧ d.depth ≤ 60 ∧
  d.shown.length ≤ sizeLine ∧ Q (.str d.shown) H
theorem call_reprD (hgd : X.A.guards = some []) (hu : X.A.units + 64 < cLine) :
    CallR X (.builtin "repr") (rRepr X.K) := by
  intro pins s σ H xs us Q I r h
  obtain ⟨x, d, rfl, hd, hs, hn, hdp, hz, q⟩ := h
  obtain ⟨u, rfl, rx⟩ := vals1 r
  have key : ∀ a, x = .ref a → wpAny (model X.prog X.w) X.A (call (.builtin "repr") [u]) (EP X pins σ Q) X.xe s := fun a ea => by
    subst ea
    have e : u = .ref a := rx
    subst e
    obtain ⟨as, rd⟩ := Dp.reads I d _ _ hd rx
    exact repr_of_reads' rd hs (fun y => by rw [hn] at y; cases y) hgd (by omega) (fun b o e => e)
      (fun h' u tk hk => ⟨.str d.shown, H, I.kept hk, ⟨_, rfl⟩, q⟩) hz
  cases hd with
  | non =>
    cases rx
    exact PySem.P.repr_of_none ⟨.str _, H, I.tok _, ⟨_, rfl⟩, q⟩
  | bl b =>
    cases rx
    exact PySem.P.repr_of_bool ⟨.str _, H, I.tok _, ⟨_, rfl⟩, by
      rw [PyData.shown] at q
      cases b <;> exact q⟩
  | int i =>
    obtain ⟨t, rfl⟩ := rx
    have hi : i.natAbs.log2 < 1920 := by simpa [PyData.showable] using hs
    exact PySem.P.repr_of_int hi ⟨.str _, H, I.tok _, ⟨_, rfl⟩, q⟩
  | str y =>
    obtain ⟨t, rfl⟩ := rx
    exact PySem.P.repr_of_str ⟨.str _, H, I.tok _, ⟨_, rfl⟩, q⟩ hz
  | lst h1 h2 => exact key _ rfl
  | tup h1 h2 => exact key _ rfl
end
end PB

namespace PB
open PySem PySem.Spec PyProof.Rows L2

/-! ### list(enumerate(xs)): the tuples given out are all held -/
/-- an enumerate whose last tuple stands somewhere -/
abbrev EnHeld (h : Heap) (e it : Addr) (i : Int) (item : Value) (a : Addr) (f : Bool) : Prop :=
  h.get? e = some (Obj.mk (.type "enumerate") none
    (.fields #[rawInt a, .bool f, .ref it, rawInt i, .none, item]) #[])

def EnSt (h : Heap) (e it l S : Addr) (i : Nat) : Prop := h.IsListIter it l i ∧
  ((∃ old, IsEnum h e it i old) ∨ ∃ item a f oa, EnHeld h e it i item a f ∧ h.get? a = some oa ∧
    a ≠ e ∧ a ≠ it ∧ a ≠ S)
theorem EnSt.keep {h h' : Heap} {e it l S : Addr} {i : Nat} (x : EnSt h e it l S i)
    (hk : ∀ b o, b ≠ S → h.get? b = some o → h'.get? b = some o) (h1 : e ≠ S) (h2 : it ≠ S) :
    EnSt h' e it l S i := by
  obtain ⟨⟨o, ho, r⟩, x⟩ := x
  refine ⟨⟨o, hk _ _ h2 ho, r⟩, ?_⟩
  rcases x with ⟨old, y⟩ | ⟨item, a, f, oa, y, z, n1, n2, n3⟩
  · exact .inl ⟨old, hk _ _ h1 y⟩
  · exact .inr ⟨item, a, f, oa, hk _ _ h1 y, hk _ _ n3 z, n1, n2, n3⟩

section
variable {prog : Program} {w : World} {A : Around} {E : Value → Shared → Prop} {s : Shared}
theorem en_alive {a : Addr} {o : Obj} {Q : Option Obj → Shared → Prop} (ho : s.heap.get? a = some o)
    (h : Q (some o) s) : wpAny (model prog w) A (loadIfAlive a) Q E s := by
  have h' : Q (s.heap.get? a) s := by
    rw [ho]
    exact h
  exact fun _ _ _ => h'

theorem en_next_held {e it l a : Addr} {f : Bool} {oa : Obj} {i : Nat} {items : Array Value}
    {x item : Value} {Q : Value → Shared → Prop} (he : EnHeld s.heap e it i item a f)
    (ha : s.heap.get? a = some oa) (hae : a ≠ e) (hai : a ≠ it)
    (hit : s.heap.IsListIter it l i) (hl : s.heap.IsList l items) (hx : items[i]? = some x) (hne : e ≠ it)
    (hQ : ∀ h', EnHeld h' e it ((i : Int) + 1) item a true → h'.IsListIter it l (i + 1) →
      h'.get? s.heap.objs.size = some { cls := .type "tuple", data := .seq #[.int i s.toks, x] } →
      h'.objs.size = s.heap.objs.size + 1 →
      (∀ b o, b ≠ e → b ≠ it → s.heap.get? b = some o → h'.get? b = some o) →
      Q (.ref s.heap.objs.size) { s with heap := h', toks := s.toks + 1 }) :
    wpAny (model prog w) A (Builtin.«enumerate.__next__» ⟨[.ref e], []⟩)
      (fun fin s' => ∃ v, fin = .done (.ret v) ∧ Q v s') E s := by
  obtain ⟨hp, g, d, tk, os⟩ := s
  show wpAny _ _ (field (.ref e) 2 >>= _) _ _ _
  refine wpAny_bind (wpAny_field he rfl (x := .ref it) rfl ?_)
  refine wpAny_bind (wpAny_nextOf_list_item hit hl hx fun h₁ hit₁ hs₁ => ?_)
  replace hs₁ : Heap.SameBut it hp h₁ := hs₁
  have he₁ : EnHeld h₁ e it i item a f := (hs₁.2 e hne).trans he
  show wpAny _ _ (field (.ref e) 3 >>= _) _ _ ⟨h₁, g, d, tk, os⟩
  refine wpAny_bind (wpAny_field he₁ rfl (x := rawInt i) rfl ?_)
  show wpAny _ _ (field (.ref e) 4 >>= _) _ _ ⟨h₁, g, d, tk, os⟩
  refine wpAny_bind (wpAny_field he₁ rfl (x := .none) rfl ?_)
  show wpAny _ _ (mkInt i >>= _) _ _ ⟨h₁, g, d, tk, os⟩
  refine wpAny_bind (wpAny_mkInt ?_)
  show wpAny _ _ (setField (.ref e) 3 (rawInt ((i : Int) + 1)) >>= _) _ _
    ⟨h₁, g, d, tk + 1, os⟩
  refine wpAny_bind (wpAny_setField_rec he₁ (by simp) fun h₂ he₂ hs₂ => ?_)
  replace hs₂ : Heap.SameBut e h₁ h₂ := hs₂
  replace he₂ : EnHeld h₂ e it ((i : Int) + 1) item a f := he₂
  show wpAny _ _ (setField (.ref e) 4 .none >>= _) _ _
    ⟨h₂, g, d, tk + 1, os⟩
  refine wpAny_bind (wpAny_setField_rec he₂ (by simp) fun h₃ he₃ hs₃ => ?_)
  replace hs₃ : Heap.SameBut e h₂ h₃ := hs₃
  replace he₃ : EnHeld h₃ e it ((i : Int) + 1) item a f := he₃
  show wpAny _ _ (newTuple [.int i tk, x] >>= _) _ _ ⟨h₃, g, d, tk + 1, os⟩
  refine wpAny_bind (wpAny_newTuple ?_)
  have he₄ : EnHeld (h₃.push { cls := .type "tuple", data := .seq #[.int i tk, x] }) e it
    ((i : Int) + 1) item a f := Heap.get?_push_of_some _ he₃
  generalize hh₄ : h₃.push { cls := .type "tuple", data := .seq #[.int i tk, x] } = h₄ at he₄
  have hsz : h₃.objs.size = hp.objs.size := by
    rw [hs₃.1, hs₂.1, hs₁.1]
  have hel : e < hp.objs.size := Heap.lt_size he
  have ht₄ : h₄.get? hp.objs.size = some { cls := .type "tuple", data := .seq #[.int i tk, x] } := by
    rw [← hh₄, ← hsz]
    exact Heap.get?_push_size _ rfl
  have hz₄ : h₄.objs.size = hp.objs.size + 1 := by
    rw [← hh₄, Heap.size_push, hsz]
  have hk₄ : ∀ b o, b ≠ e → b ≠ it → hp.get? b = some o → h₄.get? b = some o := fun b o hbe hbi hb => by
    rw [← hh₄]
    exact Heap.get?_push_of_some _ (hs₃.extBut b o hbe (hs₂.extBut b o hbe (hs₁.extBut b o hbi hb)))
  have hit₄ : h₄.IsListIter it l (i + 1) := by
    rw [← hh₄]
    obtain ⟨o, ho, r⟩ := (hit₁.extBut hs₂.extBut (Ne.symm hne)).extBut hs₃.extBut (Ne.symm hne)
    exact ⟨o, Heap.get?_push_of_some _ ho, r⟩
  show wpAny _ _ (Builtin.SmallTypes.ownedTupleIsFree (.ref e) >>= _) _ _
    ⟨h₄, g, d, tk + 1, os⟩
  rw [hsz]
  have ha₄ : h₄.get? a = some oa := hk₄ a oa hae hai ha
  clear hh₄ he₃ hs₃ he₂ hs₂ he₁ hs₁ hit₁ hsz h₃ h₂ h₁
  refine wpAny_bind ?_
  unfold Builtin.SmallTypes.ownedTupleIsFree
  refine wpAny_bind (wpAny_field he₄ rfl (x := rawInt a) rfl ?_)
  show wpAny _ _ (loadIfAlive ((a : Int).toNat) >>= _) _ _ _
  rw [Int.toNat_natCast]
  refine wpAny_bind (en_alive ha₄ ?_)
  simp only [Option.isNone_some, Bool.false_eq_true, if_false]
  refine wpAny_bind (wpAny_field he₄ rfl (x := .bool f) rfl ?_)
  have fin : ∀ h₅ : Heap, EnHeld h₅ e it ((i : Int) + 1) item a true → Heap.SameBut e h₄ h₅ →
      Q (.ref hp.objs.size) ⟨h₅, g, d, tk + 1, os⟩ := fun h₅ he₅ hs₅ => by
    refine hQ h₅ he₅ (hit₄.extBut hs₅.extBut (Ne.symm hne)) (hs₅.extBut _ _ (Nat.ne_of_gt hel) ht₄) ?_ ?_
    · show h₅.objs.size = hp.objs.size + 1
      rw [hs₅.1, hz₄]
    · exact fun b o hb hb2 e => hs₅.extBut b o hb (hk₄ b o hb hb2 e)
  cases f with
  | true =>
    rw [if_neg (show ¬ ((Value.bool true != Value.bool true) = true) from Bool.false_ne_true)]
    refine wpAny_pure ?_
    simp only [Bool.false_eq_true, if_false]
    exact wpAny_pure ⟨_, rfl, fin h₄ he₄ (Heap.SameBut.refl _ _)⟩
  | false =>
    rw [if_pos (show (Value.bool false != Value.bool true) = true from rfl)]
    refine wpAny_bind (wpAny_setField_rec he₄ (by simp) fun h₅ he₅ hs₅ => ?_)
    replace hs₅ : Heap.SameBut e h₄ h₅ := hs₅
    replace he₅ : EnHeld h₅ e it ((i : Int) + 1) item a true := he₅
    refine wpAny_pure ?_
    simp only [Bool.false_eq_true, if_false]
    exact wpAny_pure ⟨_, rfl, fin h₅ he₅ hs₅⟩

theorem en_pyNext_held {e it l a : Addr} {f : Bool} {oa : Obj} {i : Nat} {items : Array Value}
    {x item : Value} {Q : Option Value → Shared → Prop} (he : EnHeld s.heap e it i item a f)
    (ha : s.heap.get? a = some oa) (hae : a ≠ e) (hai : a ≠ it)
    (hit : s.heap.IsListIter it l i) (hl : s.heap.IsList l items) (hx : items[i]? = some x) (hne : e ≠ it)
    (hQ : ∀ h', EnHeld h' e it ((i : Int) + 1) item a true → h'.IsListIter it l (i + 1) →
      h'.get? s.heap.objs.size = some { cls := .type "tuple", data := .seq #[.int i s.toks, x] } →
      h'.objs.size = s.heap.objs.size + 1 →
      (∀ b o, b ≠ e → b ≠ it → s.heap.get? b = some o → h'.get? b = some o) →
      Q (some (.ref s.heap.objs.size)) { s with heap := h', toks := s.toks + 1 }) :
    wpAny (model prog w) A (pyNext (.ref e)) Q E s := by
  have hT : s.TypeIs (.ref e) "enumerate" := ⟨_, he, rfl⟩
  unfold pyNext
  refine wpAny_bind (wpAny_attempt (wpAny_callSpecial?_slot (name := Str.ofString "__next__") hT F.slot_enumerate_next
    (wpAny_call_entry F.slot_enumerate_next hT F.entry_enumerate_next ?_ (F.args_enumerate_next_1 _))))
  refine en_next_held he ha hae hai hit hl hx hne fun h' a1 a2 a3 a4 a5 => ?_
  exact wpAny_pure (hQ h' a1 a2 a3 a4 a5)

theorem en_pyNext_held_end {e it l a : Addr} {f : Bool} {i : Nat} {items : Array Value} {item : Value}
    {Q : Option Value → Shared → Prop} (hh : A.handled = none) (he : EnHeld s.heap e it i item a f)
    (hit : s.heap.IsListIter it l i) (hl : s.heap.IsList l items) (hx : items[i]? = none)
    (hQ : ∀ h', Heap.ExtBut it s.heap h' → Q none { s with heap := h' }) :
    wpAny (model prog w) A (pyNext (.ref e)) Q E s := by
  have hT : s.TypeIs (.ref e) "enumerate" := ⟨_, he, rfl⟩
  unfold pyNext
  refine wpAny_bind (wpAny_attempt (wpAny_callSpecial?_slot (name := Str.ofString "__next__") hT F.slot_enumerate_next
    (wpAny_call_entry F.slot_enumerate_next hT F.entry_enumerate_next ?_ (F.args_enumerate_next_1 _))))
  show wpAny _ _ (field (.ref e) 2 >>= _) _ _ _
  refine wpAny_bind (wpAny_field he rfl (x := .ref it) rfl ?_)
  refine wpAny_bind (wpAny_nextOf_list_end hh hit hl hx fun h' x he' hx' => ?_)
  refine wpAny_bind (wpAny_isInstance (T := "StopIteration") (b := true) hx' isSubtype_stop ?_)
  exact wpAny_pure (hQ h' he')
end

/-! ### the items as pairs of their place and themselves -/
def enV {α : Type} : Nat → List α → List (Key × α)
  | _, [] => []
  | i, x :: xs => (Sum.inl (i : Int), x) :: enV (i + 1) xs
theorem enV_len {α : Type} : ∀ (xs : List α) (i : Nat), (enV i xs).length = xs.length
  | [], _ => rfl
  | _ :: xs, i => congrArg Nat.succ (enV_len xs (i + 1))
theorem enV_get {α : Type} : ∀ (xs : List α) (i j : Nat), (enV i xs)[j]? = xs[j]?.map fun x => (Sum.inl ((i + j : Nat) : Int), x)
  | [], _, _ => rfl
  | x :: xs, i, 0 => rfl
  | x :: xs, i, j + 1 => by
    show (enV (i + 1) xs)[j]? = _
    rw [enV_get xs (i + 1) j, show i + 1 + j = i + (j + 1) by omega]
    rfl
theorem enV_kv : ∀ (xs : List V) (us : List Value) (i : Nat), Vals xs us → KV (enV i xs) (enV i us)
  | _, _, _, .nil => .nil
  | _, _, i, .cons r t => .cons ⟨rfl, r⟩ (enV_kv _ _ (i + 1) t)

section
variable {prog : Program} {w : World} {A : Around} {s : Shared} {R : Result → Shared → Prop} {items : Array Value}
abbrev EnG (prog : Program) (w : World) (items : Array Value) (lo : Addr) (h : Heap) (as : List Addr) : Prop :=
  PySem.W.KdxG (mixKind prog w) (enV 0 items.toList) lo h as

theorem en_loop {S I it l : Addr} (hh : A.handled = none) (hIS : I < S) (hSit : it ≠ S) (hlS : l ≠ S) (hlI : l ≠ I)
    (hlit : l ≠ it) (hIit : I ≠ it) (hitS : it < S) (hn : items.size ≤ sizeLine) (res : Value) {h₁ : Heap}
    (hR : ∀ h' tk acc c as, (∀ b o, b ≠ S → b ≠ I → b ≠ it → h₁.get? b = some o → h'.get? b = some o) →
      h'.get? S = some { cls := .type "list", dict := none, data := .seq acc c, slots := #[] } →
      as.length = items.size → EnG prog w items S h' as → acc.toList = as.map Value.ref →
      R (.ok (.ret res)) { s with heap := h', toks := tk }) :
    ∀ (k i : Nat) (h : Heap) (tk c : Nat) (acc : Array Value) (as : List Addr), items.size - i = k →
      i ≤ items.size → EnSt h I it l S i → h.IsList l items →
      (∀ b o, b ≠ S → b ≠ I → b ≠ it → h₁.get? b = some o → h.get? b = some o) →
      h.get? S = some { cls := .type "list", dict := none, data := .seq acc c, slots := #[] } →
      acc.toList = as.map Value.ref → as.length = i → EnG prog w items S h as →
      codeAny (model prog w) A (.builtin "list.extend.loop" ⟨[.ref S, .ref I, res], []⟩) R
        { s with heap := h, toks := tk } := by
  have hne : S ≠ I := Nat.ne_of_gt hIS
  intro k
  induction k with
  | zero =>
    intro i h tk c acc as hk hi hst hl hkeep hS hacc hal hG
    have hin : i = items.size := by omega
    refine codeAny_builtin PySem.F.entry_extend_loop ?_
    rw [Around.under_plainId PySem.F.plain_extend_loop _]
    show wpAny _ A.in1 (pyNext (.ref I) >>= _) _ _ _
    have hx : items[i]? = none := Array.getElem?_eq_none (by omega)
    have fin : ∀ h' : Heap, Heap.ExtBut it h h' → R (.ok (.ret res)) { s with heap := h', toks := tk } := fun h' he => by
      refine hR h' tk acc c as (fun b o h1 h2 h3 e => he b o h3 (hkeep b o h1 h2 h3 e)) (he S _ (Ne.symm hSit) hS) (by omega)
        ⟨hG.rise, hG.above, fun j a hj => ?_⟩ hacc
      obtain ⟨key, kk, x, e1, e2, e3⟩ := hG.pairs j a hj
      refine ⟨key, kk, x, e1, e2, he a _ ?_ e3⟩
      have := hG.above a (List.mem_of_getElem? hj)
      exact Nat.ne_of_gt (Nat.lt_trans hitS this)
    rcases hst.2 with ⟨old, he⟩ | ⟨item, a, f, oa, he, ha, n1, n2, n3⟩
    · refine wpAny_bind (wpAny_pyNext_enum_end (s := { s with heap := h, toks := tk }) (A := A.in1) hh he hst.1 hl hx fun h' e => ?_)
      exact wpAny_pure (fin h' e)
    · refine wpAny_bind (en_pyNext_held_end (s := { s with heap := h, toks := tk }) (A := A.in1) hh he hst.1 hl hx fun h' e => ?_)
      exact wpAny_pure (fin h' e)
  | succ k ih =>
    intro i h tk c acc as hk hi hst hl hkeep hS hacc hal hG
    have hlt : i < items.size := by omega
    have hx : items[i]? = some items[i] := Array.getElem?_eq_getElem hlt
    generalize items[i] = x at hx
    have hsz : acc.size = i := by rw [← Array.length_toList, hacc, List.length_map, hal]
    have hSl : S < h.objs.size := Heap.lt_size hS
    refine codeAny_builtin PySem.F.entry_extend_loop ?_
    rw [Around.under_plainId PySem.F.plain_extend_loop _]
    show wpAny _ A.in1 (pyNext (.ref I) >>= _) _ _ _
    have fin : ∀ h' : Heap, EnSt h' I it l S (i + 1) →
        h'.get? h.objs.size = some { cls := .type "tuple", data := .seq #[.int i tk, x] } →
        h'.objs.size = h.objs.size + 1 → (∀ b o, b ≠ I → b ≠ it → h.get? b = some o → h'.get? b = some o) →
        wpAny (model prog w) A.in1 (updateSeq S (·.push (Value.ref h.objs.size)) >>= fun _ =>
          again (.builtin "list.extend.loop" ⟨[.ref S, .ref I, res], []⟩))
          (fun fin s' => match fin with | .done f => R (.ok f) s' | .again c' => c'.quiet = true ∧ codeAny (model prog w) A c' R s')
          (fun e s' => R (.error e) s') { s with heap := h', toks := tk + 1 } := fun h' hst' ht hz hkp => by
      have hS' := hkp S _ hne (Ne.symm hSit) hS
      have up : ∀ b o, b ≠ S → h'.get? b = some o → (h'.update S (Obj.mapSeq (·.push (Value.ref h.objs.size)))).get? b = some o :=
        fun b o hb e => (Heap.get?_update_other _ _ (Ne.symm hb)).trans e
      have hl' : h'.IsList l items := hl.at fun o e => hkp l o hlI hlit e
      refine wpAny_bind (wpAny_updateSeq hS' rfl (wpAny_pure ⟨plainId_quiet PySem.F.plain_extend_loop _,
        ih (i + 1) _ (tk + 1) _ (acc.push (Value.ref h.objs.size)) (as ++ [h.objs.size]) (by omega) hlt
          (hst'.keep up (Ne.symm hne) hSit) (hl'.at fun o e => up l o hlS e)
          (fun b o h1 h2 h3 e => up b o h1 (hkp b o h2 h3 (hkeep b o h1 h2 h3 e))) (Heap.get?_update_self _ hS' rfl)
          (by rw [Array.toList_push, hacc, List.map_append]; rfl) (by rw [List.length_append, hal]; rfl) ⟨?_, ?_, ?_⟩⟩) ?_)
      · refine List.pairwise_append.mpr ⟨hG.rise, List.pairwise_singleton _ _, fun a ha b hb => ?_⟩
        rw [List.mem_singleton.mp hb]
        exact hG.there ha
      · intro a ha
        rcases List.mem_append.mp ha with ha | ha
        · exact hG.above a ha
        · rw [List.mem_singleton.mp ha]
          exact hSl
      · intro j b hj
        rcases Nat.lt_trichotomy j as.length with h1 | h1 | h1
        · rw [List.getElem?_append_left h1] at hj
          obtain ⟨key', k', x', e1, e2, e3⟩ := hG.pairs j b hj
          have hb := hG.above b (List.mem_of_getElem? hj)
          exact ⟨key', k', x', e1, e2, up b _ (Nat.ne_of_gt hb) (hkp b _ (Nat.ne_of_gt (Nat.lt_trans hIS hb))
            (Nat.ne_of_gt (Nat.lt_trans hitS hb)) e3)⟩
        · subst h1
          have hb : h.objs.size = b := by simpa using hj
          subst hb
          refine ⟨.int (i : Int) tk, Sum.inl (i : Int), x, ?_, mixKind_int prog w _ _, up _ _ (Nat.ne_of_gt hSl) ht⟩
          rw [enV_get, Array.getElem?_toList, hal, hx, Nat.zero_add]
          rfl
        · have hnone : (as ++ [h.objs.size])[j]? = none := List.getElem?_eq_none (by rw [List.length_append, List.length_singleton]; omega)
          rw [hnone] at hj
          cases hj
      · rw [hsz]
        omega
    rcases hst.2 with ⟨old, he⟩ | ⟨item, a, f, oa, he, ha, n1, n2, n3⟩
    · refine wpAny_bind (wpAny_pyNext_enum_item (s := { s with heap := h, toks := tk }) (A := A.in1) he hst.1 hl hx hIit fun h' g1 g2 g3 g4 g5 => ?_)
      refine fin h' ⟨g2, .inr ⟨x, h.objs.size, false, _, g1, g3, Nat.ne_of_gt (Heap.lt_size he), ?_, Nat.ne_of_gt hSl⟩⟩ g3 g4 g5
      obtain ⟨o, ho, _⟩ := hst.1
      exact Nat.ne_of_gt (Heap.lt_size ho)
    · refine wpAny_bind (en_pyNext_held (s := { s with heap := h, toks := tk }) (A := A.in1) he ha n1 n2 hst.1 hl hx hIit fun h' g1 g2 g3 g4 g5 => ?_)
      exact fin h' ⟨g2, .inr ⟨item, a, true, oa, g1, g5 a _ n1 n2 ha, n1, n2, n3⟩⟩ g3 g4 g5
end
end PB

namespace PB
open PySem PySem.Spec PyProof.Rows L2
theorem en_no_len : typeLookup (.type "enumerate") "__len__" = pure none := by
  rw [typeLookup_type, builtinLookup_eq_fast]
  kernel_rfl
theorem en_no_hint : typeLookup (.type "enumerate") "__length_hint__" = pure none := by
  rw [typeLookup_type, builtinLookup_eq_fast]
  kernel_rfl
section
variable {prog : Program} {w : World} {A : Around} {s : Shared} {items : Array Value}

theorem en_extend {R : Result → Shared → Prop} {I it l : Addr} (hh : A.handled = none)
    (he : IsEnum s.heap I it 0 .none) (hit : s.heap.IsListIter it l 0) (hl : s.heap.IsList l items)
    (S : Addr) (hIS : I < S) (hSit : it ≠ S) (hlS : l ≠ S) (hlI : l ≠ I) (hlit : l ≠ it) (hIit : I ≠ it)
    (hitS : it < S) (hn : items.size ≤ sizeLine) (res : Value) (c₀ : Nat)
    (hS : s.heap.get? S = some { cls := .type "list", data := .seq #[] c₀ })
    (hR : ∀ h' tk acc c as, (∀ b o, b ≠ S → b ≠ I → b ≠ it → s.heap.get? b = some o → h'.get? b = some o) →
      h'.get? S = some { cls := .type "list", dict := none, data := .seq acc c, slots := #[] } →
      as.length = items.size → EnG prog w items S h' as → acc.toList = as.map Value.ref →
      R (.ok (.ret res)) { s with heap := h', toks := tk }) :
    wpAny (model prog w) A.in1 (Builtin.List.listExtendWith (.ref S) (.ref I) res)
      (fun fin s' => match fin with | .done f => R (.ok f) s' | .again c' => c'.quiet = true ∧ codeAny (model prog w) A c' R s')
      (fun e s' => R (.error e) s') s := by
  have hSne : S ≠ I := Nat.ne_of_gt hIS
  have hT : s.TypeIs (.ref I) "enumerate" := ⟨_, he, rfl⟩
  unfold Builtin.List.listExtendWith
  refine wpAny_bind (wpAny_typeOf hT ?_)
  have h1 : Builtin.List.listSameRef (.ref S) (.ref I) = false := by simp [Builtin.List.listSameRef, hSne]
  have h2 : (Value.type "enumerate" == Value.type "list") = false := by decide
  have h3 : (Value.type "enumerate" == Value.type "tuple") = false := by decide
  simp only [h1, h2, h3, Bool.or_false, Bool.false_eq_true, if_false]
  refine wpAny_bind (wpAny_pyIter_enum he ?_)
  refine wpAny_bind (wpAny_holding ?_)
  unfold Builtin.List.listLengthHint
  refine wpAny_bind (wpAny_specialOf hT en_no_len ?_)
  show wpAny _ A.in1 (specialOf (Value.ref I) (Str.ofString "__length_hint__") >>= _) _ _ _
  refine wpAny_bind (wpAny_specialOf hT en_no_hint ?_)
  refine wpAny_pure ?_
  show wpAny _ A.in1 (rule "list.extend.makes-room" >>= fun _ =>
    Builtin.List.listTouch (.ref S) >>= fun _ =>
    again (.builtin "list.extend.loop" ⟨[.ref S, .ref I, res], []⟩)) _ _ _
  refine wpAny_bind (wpAny_rule ?_)
  refine wpAny_bind ?_
  show wpAny _ A.in1 (updateSeq S (·.push .none) >>= fun _ => updateSeq S (·.pop)) _ _ _
  refine wpAny_bind (wpAny_updateSeq hS rfl ?_)
  have hS₂ := Heap.get?_update_self (Obj.mapSeq (·.push Value.none)) hS rfl
  refine wpAny_updateSeq (hz := by seq_fits) hS₂ rfl ?_
  have hS₃ := Heap.get?_update_self (Obj.mapSeq (·.pop)) hS₂ rfl
  have oth : ∀ b o, b ≠ S → s.heap.get? b = some o →
      ((s.heap.update S (Obj.mapSeq (·.push Value.none))).update S (Obj.mapSeq (·.pop))).get? b = some o :=
    fun b o hb e => (Heap.get?_update_other _ _ (Ne.symm hb)).trans
      ((Heap.get?_update_other _ _ (Ne.symm hb)).trans e)
  obtain ⟨oit, hoit, rit⟩ := hit
  refine wpAny_pure ⟨plainId_quiet PySem.F.plain_extend_loop _, en_loop (s := s) (h₁ := s.heap) hh hIS hSit hlS hlI hlit hIit hitS hn res
    (fun h' tk acc c as k1 k2 k3 k4 k5 => hR h' tk acc c as k1 k2 k3 k4 k5)
    items.size 0 _ _ _ #[] [] (Nat.sub_zero _) (Nat.zero_le _)
    ⟨⟨oit, oth _ _ hSit hoit, rit⟩, .inl ⟨.none, oth _ _ hSne.symm he⟩⟩ (hl.at fun o e => oth _ _ hlS e)
    (fun b o h1 h2 h3 e => oth b o h1 e) hS₃ rfl rfl ⟨List.Pairwise.nil, (fun _ ha => nomatch ha), (fun j a hj => by simp at hj)⟩⟩

theorem en_init {R : Result → Shared → Prop} {I it l : Addr} (hh : A.handled = none)
    (he : IsEnum s.heap I it 0 .none) (hit : s.heap.IsListIter it l 0) (hl : s.heap.IsList l items)
    (S : Addr) (hIS : I < S) (hSit : it ≠ S) (hlS : l ≠ S) (hlI : l ≠ I) (hlit : l ≠ it) (hIit : I ≠ it)
    (hitS : it < S) (hn : items.size ≤ sizeLine)
    (hS : s.heap.get? S = some { cls := .type "list", data := .seq #[] })
    (hR : ∀ h' tk acc c as, (∀ b o, b ≠ S → b ≠ I → b ≠ it → s.heap.get? b = some o → h'.get? b = some o) →
      h'.get? S = some { cls := .type "list", dict := none, data := .seq acc c, slots := #[] } →
      as.length = items.size → EnG prog w items S h' as → acc.toList = as.map Value.ref →
      R (.ok (.ret .none)) { s with heap := h', toks := tk }) :
    wpAny (model prog w) A.in1 (Builtin.«list.__init__» ⟨[.ref S, .ref I], []⟩)
      (fun fin s' => match fin with | .done f => R (.ok f) s' | .again c' => c'.quiet = true ∧ codeAny (model prog w) A c' R s')
      (fun e s' => R (.error e) s') s := by
  show wpAny _ _ (do let old ← Builtin.List.listItems (.ref S); Builtin.List.listUpdate (.ref S) (fun _ => #[]); letGo old.toList.reverse; Builtin.List.listExtendWith (.ref S) (.ref I) .none) _ _ s
  refine wpAny_bind ?_
  unfold Builtin.List.listItems
  refine wpAny_bind (wpAny_seqItems hS rfl (wpAny_pure ?_))
  show wpAny _ _ (updateSeq S (fun _ => #[]) >>= fun _ => letGo (#[] : Array Value).toList.reverse >>= fun _ => Builtin.List.listExtendWith (.ref S) (.ref I) .none) _ _ s
  refine wpAny_bind (wpAny_updateSeq hS rfl ?_)
  have hS₂ := Heap.get?_update_self (Obj.mapSeq (fun _ => (#[] : Array Value))) hS rfl
  have oth : ∀ b o, b ≠ S → s.heap.get? b = some o → (s.heap.update S (Obj.mapSeq (fun _ => (#[] : Array Value)))).get? b = some o :=
    fun b o hb e => (Heap.get?_update_other _ _ (Ne.symm hb)).trans e
  refine wpAny_bind (wpAny_letGo ?_)
  obtain ⟨oit, hoit, rit⟩ := hit
  refine en_extend hh (oth _ _ (Nat.ne_of_lt hIS) he) ⟨oit, oth _ _ hSit hoit, rit⟩ (hl.at fun o e => oth _ _ hlS e) S hIS hSit hlS hlI hlit hIit hitS hn .none _ hS₂
    fun h' tk acc c as k1 k2 k3 k4 k5 => hR h' tk acc c as (fun b o n1 n2 n3 e => k1 b o n1 n2 n3 (oth b o n1 e)) k2 k3 k4 k5

theorem en_call {Q : Value → Shared → Prop} {E : Value → Shared → Prop} {I it l : Addr} (hh : A.handled = none)
    (he : IsEnum s.heap I it 0 .none) (hit : s.heap.IsListIter it l 0) (hl : s.heap.IsList l items)
    (hlI : l ≠ I) (hlit : l ≠ it) (hIit : I ≠ it) (hn : items.size ≤ sizeLine)
    (hQ : ∀ h' tk acc c as, (∀ b o, b ≠ I → b ≠ it → s.heap.get? b = some o → h'.get? b = some o) →
      h'.get? s.heap.objs.size = some { cls := .type "list", dict := none, data := .seq acc c, slots := #[] } →
      as.length = items.size → EnG prog w items s.heap.objs.size h' as → acc.toList = as.map Value.ref →
      Q (.ref s.heap.objs.size) { s with heap := h', toks := tk }) :
    wpAny (model prog w) A (call (.type "list") [.ref I]) Q E s := by
  refine callType_codes (Q₁ := fun obj s₁ => obj = .ref s.heap.objs.size ∧ s₁ = { s with heap := s.heap.push { cls := .type "list", data := .seq #[] } })
    PySem.F.called_list (PySem.F.typeCall_list_1 _) PySem.F.entry_list_init (code_list_new _ ⟨rfl, rfl⟩) fun obj s₁ h₁ => ?_
  obtain ⟨rfl, rfl⟩ := h₁
  have hS : (s.heap.push { cls := .type "list", data := .seq #[] }).get? s.heap.objs.size = some { cls := .type "list", data := .seq #[] } := Heap.get?_push_size _ rfl
  have lI : I < s.heap.objs.size := Heap.lt_size he
  obtain ⟨oit, hoit, rit⟩ := hit
  have lit : it < s.heap.objs.size := Heap.lt_size hoit
  obtain ⟨ol, hol, rl⟩ := hl
  have ll : l < s.heap.objs.size := Heap.lt_size hol
  refine ⟨⟨_, hS, rfl⟩, PySem.F.args_list_init_2 _ _, en_init (A := A.in1) hh (Heap.get?_push_of_some _ he) ⟨oit, Heap.get?_push_of_some _ hoit, rit⟩
    ⟨ol, Heap.get?_push_of_some _ hol, rl⟩ _ lI (Nat.ne_of_lt lit) (Nat.ne_of_lt ll) hlI hlit hIit lit hn hS fun h' tk acc c as k1 k2 k3 k4 k5 => ?_⟩
  exact ⟨rfl, hQ h' tk acc c as (fun b o n1 n2 e => k1 b o (Nat.ne_of_lt (Heap.lt_size e)) n1 n2 (Heap.get?_push_of_some _ e)) k2 k3 k4 k5⟩
end


/-- behind a call that has laid a list at p and pairs above it -/
theorem pairs_laid {X : Cx} {pins : List (Addr × Obj)} {σ : L2.St} {H : Hp} {s : Shared} {h' : Heap} {tk : Nat}
    {kvs : List (Key × V)} {vs : List (Key × Value)} {acc : Array Value} {c : Nat} {p : Addr} {as : List Addr}
    (I : Inv X pins σ H s) (hz : kvs.length ≤ sizeLine) (kv : KV kvs vs) (hp : s.heap.objs.size ≤ p)
    (hk : ∀ b o, s.heap.get? b = some o → h'.get? b = some o)
    (hS : h'.get? p = some { cls := .type "list", dict := none, data := .seq acc c, slots := #[] })
    (hl : as.length = vs.length) (hG : PySem.W.KdxG (mixKind X.prog X.w) vs p h' as)
    (hacc : acc.toList = as.map Value.ref) :
    ∃ H' : Hp, Same H H' ∧ H p = none ∧ (∀ t ∈ as, H t = none) ∧ p ∉ as ∧ H' p = some (.lst (as.map V.ref)) ∧
      Paired (fun (t : Addr) (q : Key × V) => H' t = some (.tup [kV q.1, q.2])) as kvs ∧
      Inv X pins σ H' { s with heap := h', toks := tk } := by
  have lk : kvs.length = vs.length := Paired.length kv
  have hpn : p ∉ as := fun z => Nat.lt_irrefl _ (hG.above _ z)
  have nd : as.Nodup := List.Pairwise.imp (fun {a b} (h : a < b) => Nat.ne_of_lt h) hG.rise
  have new : ∀ t ∈ as, H t = none := fun t ht =>
    I.hok.fresh (Nat.le_trans hp (Nat.le_of_lt (hG.above t ht)))
  have newS : H p = none := I.hok.fresh hp
  let G : Hp := LiI.putT (upd H p (.lst (as.map V.ref))) as kvs
  have atP : Paired (fun (t : Addr) (q : Key × V) => G t = some (.tup [kV q.1, q.2])) as kvs :=
    LiI.putT_at as kvs (upd H p (.lst (as.map V.ref))) (by omega) nd
  have off : ∀ b, b ∉ as → b ≠ p → G b = H b := fun b h1 h2 =>
    (LiI.putT_off as kvs _ h1).trans (upd_ne h2)
  have low : ∀ b o, s.heap.get? b = some o → b ∉ as ∧ b ≠ p := fun b o e =>
    ⟨fun z => absurd (Heap.lt_size e) (Nat.not_lt.mpr (Nat.le_trans hp (Nat.le_of_lt (hG.above b z)))),
      Nat.ne_of_lt (Nat.lt_of_lt_of_le (Heap.lt_size e) hp)⟩
  have kp : ∀ b u, H b = some u → G b = some u := fun b u e => by
    rw [off b (fun z => by rw [new b z] at e; cases e) (fun z => by rw [z, newS] at e; cases e)]
    exact e
  have eS : G p = some (.lst (as.map V.ref)) := (LiI.putT_off as kvs _ hpn).trans upd_same
  refine ⟨G, kp, newS, new, hpn, eS, atP, ?_⟩
  refine I.call' (ch := []) rfl ⟨fun b o q _ _ _ => hk b o q, fun b o q _ _ _ => ⟨o.slots, hk b o q⟩,
    fun b o q n _ => ?_, fun b o q _ => ⟨o, hk b o q⟩, fun b xs q => kp b _ q, fun b o u q => kp b _ q,
    fun b ps q => ⟨#[], by rw [kp b _ q]; simp⟩⟩ (fun b u q => ?_) I.bare fun b z => by simp at z
  · obtain ⟨z1, z2⟩ := low b o q
    rw [off b z1 z2]
    exact n
  · by_cases hb : b ∈ as
    · obtain ⟨j, pk, e1, e2, e3⟩ := LiI.paired_ix atP hb
      rw [e3] at q
      cases q
      obtain ⟨key, k, x, f1, f2, f3⟩ := hG.pairs j b e1
      obtain ⟨qv, g1, g2, g3⟩ := LiI.paired_get kv e2
      rw [f1] at g1
      cases g1
      have rk : RelV (kV pk.1) key := by
        rw [g2]
        exact relV_key (show keyIs k key = true from f2)
      exact ⟨by show 2 ≤ sizeLine; decide, [key, x], .cons rk (.cons g3 .nil), ⟨_, f3, rfl, _, rfl⟩⟩
    · by_cases hb2 : b = p
      · subst hb2
        rw [eS] at q
        cases q
        refine ⟨by rw [List.length_map]; omega, acc.toList, c, by rw [hacc]; exact LiI.vals_refs as, ?_⟩
        rw [Array.toArray_toList]
        exact hS
      · rw [off b hb hb2] at q
        exact (I.hok b u q).stay (fun d v _ y => hk d v y) (fun d y => kp d _ y) fun d xs y => kp d _ y
/-- list(enumerate(e)): a new list of new pairs -/
def rLE (K : PySem.W.Frag) (x : V) (H : Hp) (Q : VK) : Prop := ∃ (a : Addr) (xs : List V), x = .ref a ∧ SqL K H a xs ∧
  ∀ (H' : Hp) (p : Addr) (ts : List Addr), Same H H' → H p = none → (∀ t ∈ ts, H t = none) → p ∉ ts →
    H' p = some (.lst (ts.map V.ref)) →
    Paired (fun (t : Addr) (q : Key × V) => H' t = some (.tup [kV q.1, q.2])) ts (enV 0 xs) → Q (.ref p) H'
def tLE (K : PySem.W.Frag) (te : TE) : TE := fun σ H Q => te σ H fun x H1 => rLE K x H1 Q
section
variable {X : Cx} {e : Expr} {te : TE} {p p2 pos pos2 : Pos}
theorem pe_listEnum (hc : X.calm = true) (hg : Gl X "list") (hm : X.mg "list" = none) (hg2 : Gl X "enumerate")
    (hm2 : X.mg "enumerate" = none) (he : PE X e te)
    (hs : starEach [e] X.env = (false, eval e X.env) :: starEach [] X.env := by rfl)
    (hs2 : starEach [.Call (.Name "enumerate" p2) [e] [] pos2] X.env =
      (false, eval (.Call (.Name "enumerate" p2) [e] [] pos2) X.env) :: starEach [] X.env := by rfl) :
    PE X (.Call (.Name "list" p) [.Call (.Name "enumerate" p2) [e] [] pos2] [] pos) (tLE X.K te) := by
  refine ⟨fun pins s σ H Q I h => ?_⟩
  refine Call_ (ld_blt I hg hm boot_list (PyProof.Rows.callWith_type1 (args_cons ?_ hs2) hs2))
  refine Call_ (ld_blt I hg2 hm2 boot_enumerate (PyProof.Rows.callWith_type1 (one_arg he I h (fun v s1 x H1 I1 rx q => ?_) hs) hs))
  obtain ⟨a, xs, rfl, hq, q⟩ := q
  obtain rfl : v = .ref a := rx
  obtain ⟨its, rv, pl, hz⟩ := I1.list hq
  have hlen := rv.length
  refine call_enumerate_list pl.isList fun h1 he1 hit1 hsz1 hk1 => ?_
  refine args_nil ?_
  have I2 : Inv X pins σ H1 { s1 with heap := h1 } := I1.kept (t' := s1.toks) hk1
  obtain ⟨ol, hol, rl⟩ := pl.isList
  have ll : a < s1.heap.objs.size := Heap.lt_size hol
  have n0 : H1 (s1.heap.objs.size + 1) = none := I1.hok.fresh (Nat.le_succ _)
  have n1 : H1 s1.heap.objs.size = none := I1.hok.fresh (Nat.le_refl _)
  refine en_call (s := { s1 with heap := h1 }) (items := its.toArray) (I2.ok.hd hc) he1 hit1 ⟨ol, hk1 _ _ hol, rl⟩
    (by exact Nat.ne_of_lt (Nat.lt_succ_of_lt ll)) (Nat.ne_of_lt ll) (Nat.succ_ne_self _) (by simp only [List.size_toArray]; omega)
    fun h2 tk acc c as k1 k2 k3 k4 k5 => ?_
  have eI : EnG X.prog X.w its.toArray h1.objs.size h2 as := k4
  obtain ⟨H', g1, g2, g3, g4, g5, g6, J⟩ := pairs_laid (tk := tk) (p := h1.objs.size) (kvs := enV 0 xs) (vs := enV 0 its) (as := as) I1
    (by rw [enV_len]; exact hz) (enV_kv xs its 0 rv) (by rw [hsz1]; omega)
    (fun b o e => k1 b o (Nat.ne_of_lt (Nat.lt_succ_of_lt (Heap.lt_size e))) (Nat.ne_of_lt (Heap.lt_size e)) (hk1 b o e))
    k2 (by rw [enV_len, k3]; simp) (by simpa using k4) k5
  exact ⟨.ref _, H', J, rfl, q H' _ as g1 g2 g3 g4 g5 g6⟩
end
end PB

namespace PB
open PySem PySem.Spec PyProof.Rows L2
/-! ### list(zip(xs, ys)): the tuples given out are all held -/
abbrev ZiHeld (h : Heap) (z TI TO : Addr) (a : Addr) (f : Bool) : Prop :=
  h.get? z = some { cls := .type "zip", dict := none, data := .fields #[rawInt a, .bool f, .bool false, .ref TI, .ref TO], slots := #[] }
section
variable {prog : Program} {w : World} {A : Around} {E : Value → Shared → Prop} {s : Shared}
theorem zi_free_held {z TI TO a : Addr} {f : Bool} {oa : Obj} {Q : Bool → Shared → Prop} (hz : ZiHeld s.heap z TI TO a f) (ha : s.heap.get? a = some oa)
    (hQ : ∀ h', ZiHeld h' z TI TO a true → Heap.SameBut z s.heap h' → Q false { s with heap := h' }) :
    wpAny (model prog w) A (Builtin.SmallTypes.ownedTupleIsFree (.ref z)) Q E s := by
  unfold Builtin.SmallTypes.ownedTupleIsFree
  refine wpAny_bind (wpAny_field hz rfl (x := rawInt a) rfl ?_)
  show wpAny _ _ (loadIfAlive ((a : Int).toNat) >>= _) _ _ _
  rw [Int.toNat_natCast]
  refine wpAny_bind (en_alive ha ?_)
  simp only [Option.isNone_some, Bool.false_eq_true, if_false]
  refine wpAny_bind (wpAny_field hz rfl (x := .bool f) rfl ?_)
  cases f with
  | true =>
    rw [if_neg (show ¬ ((Value.bool true != Value.bool true) = true) from Bool.false_ne_true)]
    exact wpAny_pure (hQ _ hz (Heap.SameBut.refl _ _))
  | false =>
    rw [if_pos (show (Value.bool false != Value.bool true) = true from rfl)]
    refine wpAny_bind (wpAny_setField_rec hz (by simp) fun h₅ he₅ hs₅ => ?_)
    exact wpAny_pure (hQ h₅ he₅ hs₅)
theorem zi_next_held {z TI TO i1 i2 l1 l2 a : Addr} {f : Bool} {oa : Obj} {k : Nat} {xs ys : Array Value} {x y : Value} {Q : Value → Shared → Prop} (D : ZipApart z TI TO i1 i2 l1 l2)
    (hz : ZiHeld s.heap z TI TO a f) (ha : s.heap.get? a = some oa) (haz : a ≠ z) (ha1 : a ≠ i1) (ha2 : a ≠ i2) (hTI : IsPair s.heap TI (.ref i1) (.ref i2))
    (h1 : s.heap.IsListIter i1 l1 k) (h2 : s.heap.IsListIter i2 l2 k) (hl1 : s.heap.IsList l1 xs) (hl2 : s.heap.IsList l2 ys) (hx : xs[k]? = some x) (hy : ys[k]? = some y)
    (hQ : ∀ h', ZiHeld h' z TI TO a true → h'.IsListIter i1 l1 (k + 1) → h'.IsListIter i2 l2 (k + 1) → IsPair h' s.heap.objs.size x y → h'.objs.size = s.heap.objs.size + 1 →
      (∀ c o, c ≠ z → c ≠ i1 → c ≠ i2 → s.heap.get? c = some o → h'.get? c = some o) → Q (.ref s.heap.objs.size) { s with heap := h' }) :
    wpAny (model prog w) A (Builtin.«zip.__next__» ⟨[.ref z], []⟩) (fun fin s' => ∃ v, fin = .done (.ret v) ∧ Q v s') E s := by
  show wpAny _ _ (field (.ref z) 2 >>= _) _ _ _
  refine wpAny_bind (wpAny_field hz rfl (x := .bool false) rfl ?_)
  show wpAny _ _ (field (.ref z) 3 >>= _) _ _ _
  refine wpAny_bind (wpAny_field hz rfl (x := .ref TI) rfl ?_)
  refine wpAny_bind (wpAny_seqItems hTI rfl ?_)
  show wpAny _ _ (Builtin.SmallTypes.ownedTupleIsFree (.ref z) >>= _) _ _ _
  refine wpAny_bind (zi_free_held hz ha fun h₁ hz₁ hs₁ => ?_)
  simp only [Bool.false_eq_true, if_false]
  refine wpAny_bind ?_
  rw [← Array.forIn_toList]
  simp only [List.forIn_cons, List.forIn_nil]
  refine wpAny_bind (wpAny_bind (wpAny_holding ?_))
  show wpAny _ _ (Builtin.SmallTypes.nextOf (.ref i1) >>= _) _ _ _
  refine wpAny_bind (wpAny_nextOf_list_item (h1.extBut hs₁.extBut D.i1z) (hl1.extBut hs₁.extBut D.l1z) hx fun h₂ h1₂ hs₂ => wpAny_pure ?_)
  refine wpAny_pure ?_
  refine wpAny_bind (wpAny_bind (wpAny_holding ?_))
  show wpAny _ _ (Builtin.SmallTypes.nextOf (.ref i2) >>= _) _ _ _
  refine wpAny_bind (wpAny_nextOf_list_item ((h2.extBut hs₁.extBut D.i2z).extBut hs₂.extBut D.i12.symm) ((hl2.extBut hs₁.extBut D.l2z).extBut hs₂.extBut D.l2i1) hy fun h₃ h2₃ hs₃ => wpAny_pure ?_)
  refine wpAny_pure (wpAny_pure ?_)
  show wpAny _ _ (newTuple [x, y] >>= _) _ _ _
  refine wpAny_bind (wpAny_newTuple ?_)
  have hsz : h₃.objs.size = s.heap.objs.size := by rw [hs₃.1, hs₂.1, hs₁.1]
  have hz₃ : ZiHeld h₃ z TI TO a true := hs₃.extBut _ _ D.i2z.symm (hs₂.extBut _ _ D.i1z.symm hz₁)
  have h1₃ : h₃.IsListIter i1 l1 (k + 1) := h1₂.extBut hs₃.extBut D.i12
  have hk₃ : ∀ c o, c ≠ z → c ≠ i1 → c ≠ i2 → s.heap.get? c = some o → h₃.get? c = some o := fun c o c1 c3 c4 e =>
    hs₃.extBut _ _ c4 (hs₂.extBut _ _ c3 (hs₁.extBut _ _ c1 e))
  refine wpAny_pure ⟨_, rfl, ?_⟩
  show Q (.ref h₃.objs.size) _
  have hT : IsPair (h₃.push { cls := .type "tuple", data := .seq #[x, y] }) h₃.objs.size x y := Heap.get?_push_size _ rfl
  rw [hsz] at hT ⊢
  exact hQ _ (Heap.get?_push_of_some _ hz₃) (h1₃.at fun o e => Heap.get?_push_of_some _ e) (h2₃.at fun o e => Heap.get?_push_of_some _ e) hT (by rw [Heap.size_push, hsz]) fun c o c1 c2 c3 e => Heap.get?_push_of_some _ (hk₃ c o c1 c2 c3 e)
theorem zi_next_held_end {z TI TO i1 i2 l1 l2 a : Addr} {f : Bool} {oa : Obj} {k : Nat} {xs : Array Value} {Q : Fin → Shared → Prop} (hh : A.handled = none) (D : ZipApart z TI TO i1 i2 l1 l2)
    (hz : ZiHeld s.heap z TI TO a f) (ha : s.heap.get? a = some oa) (hTI : IsPair s.heap TI (.ref i1) (.ref i2))
    (h1 : s.heap.IsListIter i1 l1 k) (hl1 : s.heap.IsList l1 xs) (hx : xs[k]? = none)
    (hE : ∀ h' e, (∀ c o, c ≠ z → c ≠ i1 → c ≠ i2 → s.heap.get? c = some o → h'.get? c = some o) → (∃ o, h'.get? e = some o ∧ o.cls = .type "StopIteration") → E (.ref e) { s with heap := h' }) :
    wpAny (model prog w) A (Builtin.«zip.__next__» ⟨[.ref z], []⟩) Q E s := by
  show wpAny _ _ (field (.ref z) 2 >>= _) _ _ _
  refine wpAny_bind (wpAny_field hz rfl (x := .bool false) rfl ?_)
  show wpAny _ _ (field (.ref z) 3 >>= _) _ _ _
  refine wpAny_bind (wpAny_field hz rfl (x := .ref TI) rfl ?_)
  refine wpAny_bind (wpAny_seqItems hTI rfl ?_)
  show wpAny _ _ (Builtin.SmallTypes.ownedTupleIsFree (.ref z) >>= _) _ _ _
  refine wpAny_bind (zi_free_held hz ha fun h₁ hz₁ hs₁ => ?_)
  simp only [Bool.false_eq_true, if_false]
  refine wpAny_bind ?_
  rw [← Array.forIn_toList]
  simp only [List.forIn_cons, List.forIn_nil]
  refine wpAny_bind (wpAny_bind (wpAny_holding ?_))
  show wpAny _ _ (Builtin.SmallTypes.nextOf (.ref i1) >>= _) _ _ _
  refine wpAny_bind (wpAny_nextOf_list_end hh (h1.extBut hs₁.extBut D.i1z) (hl1.extBut hs₁.extBut D.l1z) hx fun h₂ e hs₂ he => ?_)
  exact hE h₂ e (fun c o c1 c3 _ x => hs₂ _ _ c3 (hs₁.extBut _ _ c1 x)) he
theorem zi_pyNext_held {z TI TO i1 i2 l1 l2 a : Addr} {f : Bool} {oa : Obj} {k : Nat} {xs ys : Array Value} {x y : Value} {Q : Option Value → Shared → Prop} (D : ZipApart z TI TO i1 i2 l1 l2)
    (hz : ZiHeld s.heap z TI TO a f) (ha : s.heap.get? a = some oa) (haz : a ≠ z) (ha1 : a ≠ i1) (ha2 : a ≠ i2) (hTI : IsPair s.heap TI (.ref i1) (.ref i2))
    (h1 : s.heap.IsListIter i1 l1 k) (h2 : s.heap.IsListIter i2 l2 k) (hl1 : s.heap.IsList l1 xs) (hl2 : s.heap.IsList l2 ys) (hx : xs[k]? = some x) (hy : ys[k]? = some y)
    (hQ : ∀ h', ZiHeld h' z TI TO a true → h'.IsListIter i1 l1 (k + 1) → h'.IsListIter i2 l2 (k + 1) → IsPair h' s.heap.objs.size x y → h'.objs.size = s.heap.objs.size + 1 →
      (∀ c o, c ≠ z → c ≠ i1 → c ≠ i2 → s.heap.get? c = some o → h'.get? c = some o) → Q (some (.ref s.heap.objs.size)) { s with heap := h' }) :
    wpAny (model prog w) A (pyNext (.ref z)) Q E s := by
  have hT : s.TypeIs (.ref z) "zip" := ⟨_, hz, rfl⟩
  unfold pyNext
  exact wpAny_bind (wpAny_attempt (wpAny_callSpecial?_slot (name := Str.ofString "__next__") hT F.slot_zip_next
    (wpAny_call_entry F.slot_zip_next hT F.entry_zip_next
      (zi_next_held D hz ha haz ha1 ha2 hTI h1 h2 hl1 hl2 hx hy fun h' a1 a2 a3 a4 a5 a6 => wpAny_pure (hQ h' a1 a2 a3 a4 a5 a6)) (F.args_zip_next_1 _))))
theorem zi_pyNext_held_end {z TI TO i1 i2 l1 l2 a : Addr} {f : Bool} {oa : Obj} {k : Nat} {xs : Array Value} {Q : Option Value → Shared → Prop} (hh : A.handled = none) (D : ZipApart z TI TO i1 i2 l1 l2)
    (hz : ZiHeld s.heap z TI TO a f) (ha : s.heap.get? a = some oa) (hTI : IsPair s.heap TI (.ref i1) (.ref i2))
    (h1 : s.heap.IsListIter i1 l1 k) (hl1 : s.heap.IsList l1 xs) (hx : xs[k]? = none)
    (hQ : ∀ h', (∀ c o, c ≠ z → c ≠ i1 → c ≠ i2 → s.heap.get? c = some o → h'.get? c = some o) → Q none { s with heap := h' }) : wpAny (model prog w) A (pyNext (.ref z)) Q E s := by
  have hT : s.TypeIs (.ref z) "zip" := ⟨_, hz, rfl⟩
  unfold pyNext
  refine wpAny_bind (wpAny_attempt (wpAny_callSpecial?_slot (name := Str.ofString "__next__") hT F.slot_zip_next
    (wpAny_call_entry F.slot_zip_next hT F.entry_zip_next (zi_next_held_end hh D hz ha hTI h1 hl1 hx fun h' e hk he => ?_) (F.args_zip_next_1 _))))
  obtain ⟨o, ho, hc⟩ := he
  refine wpAny_bind (wpAny_isInstance (T := "StopIteration") (b := true) ⟨o, ho, hc⟩ isSubtype_stop ?_)
  exact wpAny_pure (hQ _ hk)
end
end PB

namespace PB
open PySem PySem.Spec PyProof.Rows L2
/-- whole numbers, each with a thing -/
abbrev zV {α : Type} (ns : List Int) (xs : List α) : List (Key × α) := List.zip (ns.map Sum.inl) xs
theorem zV_get {α : Type} {ns : List Int} {xs : List α} {j : Nat} {n : Int} {x : α} (h1 : ns[j]? = some n) (h2 : xs[j]? = some x) : (zV ns xs)[j]? = some (Sum.inl n, x) :=
  List.getElem?_zip_eq_some.mpr ⟨by rw [List.getElem?_map, h1]; rfl, h2⟩
theorem zV_kv : ∀ (ns : List Int) (xs : List V) (us : List Value), Vals xs us → KV (zV ns xs) (zV ns us)
  | [], _, _, _ => .nil
  | _ :: _, _, _, .nil => .nil
  | n :: ns, _, _, .cons r t => .cons ⟨rfl, r⟩ (zV_kv ns _ _ t)
def ZiSt (h : Heap) (z TI TO i1 i2 l1 l2 S : Addr) (i : Nat) : Prop := h.IsListIter i1 l1 i ∧ h.IsListIter i2 l2 i ∧ IsPair h TI (.ref i1) (.ref i2) ∧ (∃ a b, IsPair h TO a b) ∧
  (IsZip h z TI TO .none ∨ ∃ a f oa, ZiHeld h z TI TO a f ∧ h.get? a = some oa ∧ a ≠ z ∧ a ≠ i1 ∧ a ≠ i2 ∧ a ≠ S)
structure ZiOff (z TI TO i1 i2 l1 l2 S : Addr) : Prop where
  z : z < S
  ti : TI < S
  to : TO < S
  i1 : i1 < S
  i2 : i2 < S
  l1 : l1 ≠ S
  l2 : l2 ≠ S
theorem ZiSt.keep {h h' : Heap} {z TI TO i1 i2 l1 l2 S : Addr} {i : Nat} (O : ZiOff z TI TO i1 i2 l1 l2 S) (x : ZiSt h z TI TO i1 i2 l1 l2 S i)
    (hk : ∀ b o, b ≠ S → h.get? b = some o → h'.get? b = some o) : ZiSt h' z TI TO i1 i2 l1 l2 S i := by
  obtain ⟨x1, x2, x3, ⟨a, b, x4⟩, x⟩ := x
  refine ⟨x1.at fun o e => hk _ _ (Nat.ne_of_lt O.i1) e, x2.at fun o e => hk _ _ (Nat.ne_of_lt O.i2) e, hk _ _ (Nat.ne_of_lt O.ti) x3, ⟨a, b, hk _ _ (Nat.ne_of_lt O.to) x4⟩, ?_⟩
  rcases x with y | ⟨a, f, oa, y, z1, n1, n2, n3, n4⟩
  · exact .inl (hk _ _ (Nat.ne_of_lt O.z) y)
  · exact .inr ⟨a, f, oa, hk _ _ (Nat.ne_of_lt O.z) y, hk _ _ n4 z1, n1, n2, n3, n4⟩
section
variable {prog : Program} {w : World} {A : Around} {s : Shared} {R : Result → Shared → Prop} {xs ys : Array Value} {ns : List Int}
abbrev ZiG (prog : Program) (w : World) (ns : List Int) (ys : Array Value) (lo : Addr) (h : Heap) (as : List Addr) : Prop :=
  PySem.W.KdxG (mixKind prog w) (zV ns ys.toList) lo h as
theorem zi_loop {S z TI TO i1 i2 l1 l2 : Addr} (hh : A.handled = none) (D : ZipApart z TI TO i1 i2 l1 l2) (O : ZiOff z TI TO i1 i2 l1 l2 S) (hsz : xs.size = ys.size)
    (hint : ∀ (j : Nat) u, xs[j]? = some u → ∃ n t, ns[j]? = some n ∧ u = .int n t) (hn : xs.size ≤ sizeLine) (res : Value) {h₁ : Heap}
    (hR : ∀ h' acc c as, (∀ b o, b ≠ S → b ≠ z → b ≠ TO → b ≠ i1 → b ≠ i2 → h₁.get? b = some o → h'.get? b = some o) →
      h'.get? S = some { cls := .type "list", dict := none, data := .seq acc c, slots := #[] } →
      as.length = xs.size → ZiG prog w ns ys S h' as → acc.toList = as.map Value.ref →
      R (.ok (.ret res)) { s with heap := h' }) :
    ∀ (k i : Nat) (h : Heap) (c : Nat) (acc : Array Value) (as : List Addr), xs.size - i = k →
      i ≤ xs.size → ZiSt h z TI TO i1 i2 l1 l2 S i → h.IsList l1 xs → h.IsList l2 ys →
      (∀ b o, b ≠ S → b ≠ z → b ≠ TO → b ≠ i1 → b ≠ i2 → h₁.get? b = some o → h.get? b = some o) →
      h.get? S = some { cls := .type "list", dict := none, data := .seq acc c, slots := #[] } →
      acc.toList = as.map Value.ref → as.length = i → ZiG prog w ns ys S h as →
      codeAny (model prog w) A (.builtin "list.extend.loop" ⟨[.ref S, .ref z, res], []⟩) R { s with heap := h } := by
  have hne : S ≠ z := Nat.ne_of_gt O.z
  intro k
  induction k with
  | zero =>
    intro i h c acc as hk hi hst hl1 hl2 hkeep hS hacc hal hG
    have hin : i = xs.size := by omega
    refine codeAny_builtin PySem.F.entry_extend_loop ?_
    rw [Around.under_plainId PySem.F.plain_extend_loop _]
    show wpAny _ A.in1 (pyNext (.ref z) >>= _) _ _ _
    have hx : xs[i]? = none := Array.getElem?_eq_none (by omega)
    have fin : ∀ h' : Heap, (∀ c o, c ≠ z → c ≠ TO → c ≠ i1 → c ≠ i2 → h.get? c = some o → h'.get? c = some o) → R (.ok (.ret res)) { s with heap := h' } := fun h' he => by
      refine hR h' acc c as (fun b o h1 h2 h3 h4 h5 e => he b o h2 h3 h4 h5 (hkeep b o h1 h2 h3 h4 h5 e)) (he S _ hne (Nat.ne_of_gt O.to) (Nat.ne_of_gt O.i1) (Nat.ne_of_gt O.i2) hS) (by omega)
        ⟨hG.rise, hG.above, fun j a hj => ?_⟩ hacc
      obtain ⟨key, kk, x, e1, e2, e3⟩ := hG.pairs j a hj
      have := hG.above a (List.mem_of_getElem? hj)
      exact ⟨key, kk, x, e1, e2, he a _ (Nat.ne_of_gt (Nat.lt_trans O.z this)) (Nat.ne_of_gt (Nat.lt_trans O.to this)) (Nat.ne_of_gt (Nat.lt_trans O.i1 this)) (Nat.ne_of_gt (Nat.lt_trans O.i2 this)) e3⟩
    obtain ⟨x1, x2, x3, ⟨a, b, x4⟩, hz⟩ := hst
    rcases hz with hz | ⟨a, f, oa, hz, ha, n1, n2, n3, n4⟩
    · refine wpAny_bind (wpAny_pyNext_zip_end (s := { s with heap := h }) (A := A.in1) hh D hz x3 x4 x1 x2 hl1 hl2 (.inl hx) fun h' e => ?_)
      exact wpAny_pure (fin h' e)
    · refine wpAny_bind (zi_pyNext_held_end (s := { s with heap := h }) (A := A.in1) hh D hz ha x3 x1 hl1 hx fun h' e => ?_)
      exact wpAny_pure (fin h' fun c o c1 _ c3 c4 => e c o c1 c3 c4)
  | succ k ih =>
    intro i h c acc as hk hi hst hl1 hl2 hkeep hS hacc hal hG
    have hlt : i < xs.size := by omega
    have hx : xs[i]? = some xs[i] := Array.getElem?_eq_getElem hlt
    have hy : ys[i]? = some (ys[i]'(by omega)) := Array.getElem?_eq_getElem (by omega)
    generalize xs[i] = x at hx
    generalize ys[i]'(by omega) = y at hy
    have hsz2 : acc.size = i := by rw [← Array.length_toList, hacc, List.length_map, hal]
    have hSl : S < h.objs.size := Heap.lt_size hS
    obtain ⟨n, t, hn1, hxe⟩ := hint i x hx
    refine codeAny_builtin PySem.F.entry_extend_loop ?_
    rw [Around.under_plainId PySem.F.plain_extend_loop _]
    show wpAny _ A.in1 (pyNext (.ref z) >>= _) _ _ _
    have fin : ∀ h' : Heap, ZiSt h' z TI TO i1 i2 l1 l2 S (i + 1) → IsPair h' h.objs.size x y →
        h'.objs.size = h.objs.size + 1 → (∀ c o, c ≠ z → c ≠ TO → c ≠ i1 → c ≠ i2 → h.get? c = some o → h'.get? c = some o) →
        wpAny (model prog w) A.in1 (updateSeq S (·.push (Value.ref h.objs.size)) >>= fun _ =>
          again (.builtin "list.extend.loop" ⟨[.ref S, .ref z, res], []⟩))
          (fun fin s' => match fin with | .done f => R (.ok f) s' | .again c' => c'.quiet = true ∧ codeAny (model prog w) A c' R s')
          (fun e s' => R (.error e) s') { s with heap := h' } := fun h' hst' ht hz hkp => by
      have hS' := hkp S _ hne (Nat.ne_of_gt O.to) (Nat.ne_of_gt O.i1) (Nat.ne_of_gt O.i2) hS
      have up : ∀ b o, b ≠ S → h'.get? b = some o → (h'.update S (Obj.mapSeq (·.push (Value.ref h.objs.size)))).get? b = some o :=
        fun b o hb e => (Heap.get?_update_other _ _ (Ne.symm hb)).trans e
      have hl1' : h'.IsList l1 xs := hl1.at fun o e => hkp l1 o D.l1z D.l1TO D.l1i1 D.l1i2 e
      have hl2' : h'.IsList l2 ys := hl2.at fun o e => hkp l2 o D.l2z D.l2TO D.l2i1 D.l2i2 e
      refine wpAny_bind (wpAny_updateSeq hS' rfl (wpAny_pure ⟨plainId_quiet PySem.F.plain_extend_loop _,
        ih (i + 1) _ _ (acc.push (Value.ref h.objs.size)) (as ++ [h.objs.size]) (by omega) hlt
          (hst'.keep O up) (hl1'.at fun o e => up l1 o O.l1 e) (hl2'.at fun o e => up l2 o O.l2 e)
          (fun b o h1 h2 h3 h4 h5 e => up b o h1 (hkp b o h2 h3 h4 h5 (hkeep b o h1 h2 h3 h4 h5 e))) (Heap.get?_update_self _ hS' rfl)
          (by rw [Array.toList_push, hacc, List.map_append]; rfl) (by rw [List.length_append, hal]; rfl) ⟨?_, ?_, ?_⟩⟩) ?_)
      · refine List.pairwise_append.mpr ⟨hG.rise, List.pairwise_singleton _ _, fun a ha b hb => ?_⟩
        rw [List.mem_singleton.mp hb]
        exact hG.there ha
      · intro a ha
        rcases List.mem_append.mp ha with ha | ha
        · exact hG.above a ha
        · rw [List.mem_singleton.mp ha]
          exact hSl
      · intro j b hj
        rcases Nat.lt_trichotomy j as.length with h1 | h1 | h1
        · rw [List.getElem?_append_left h1] at hj
          obtain ⟨key', k', x', e1, e2, e3⟩ := hG.pairs j b hj
          have hb := hG.above b (List.mem_of_getElem? hj)
          exact ⟨key', k', x', e1, e2, up b _ (Nat.ne_of_gt hb) (hkp b _ (Nat.ne_of_gt (Nat.lt_trans O.z hb)) (Nat.ne_of_gt (Nat.lt_trans O.to hb))
            (Nat.ne_of_gt (Nat.lt_trans O.i1 hb)) (Nat.ne_of_gt (Nat.lt_trans O.i2 hb)) e3)⟩
        · subst h1
          have hb : h.objs.size = b := by simpa using hj
          subst hb
          subst hxe
          refine ⟨.int n t, Sum.inl n, y, ?_, mixKind_int prog w _ _, up _ _ (Nat.ne_of_gt hSl) ht⟩
          refine zV_get (by rw [hal]; exact hn1) ?_
          rw [Array.getElem?_toList, hal]
          exact hy
        · have hnone : (as ++ [h.objs.size])[j]? = none := List.getElem?_eq_none (by rw [List.length_append, List.length_singleton]; omega)
          rw [hnone] at hj
          cases hj
      · rw [hsz2]
        omega
    obtain ⟨x1, x2, x3, ⟨a, b, x4⟩, hz⟩ := hst
    have lz : ∀ {b : Addr} {o : Obj}, h.get? b = some o → h.objs.size ≠ b := fun e => Nat.ne_of_gt (Heap.lt_size e)
    have li1 : h.objs.size ≠ i1 := by obtain ⟨o, ho, _⟩ := x1; exact lz ho
    have li2 : h.objs.size ≠ i2 := by obtain ⟨o, ho, _⟩ := x2; exact lz ho
    rcases hz with hz | ⟨a', f, oa, hz, ha, n1, n2, n3, n4⟩
    · refine wpAny_bind (wpAny_pyNext_zip_item (s := { s with heap := h }) (A := A.in1) D hz x3 x4 x1 x2 hl1 hl2 hx hy fun h' g1 g2 g3 g4 g5 g6 g7 => ?_)
      exact fin h' ⟨g3, g4, g7 _ _ D.TIz D.TITO D.TIi1 D.TIi2 x3, ⟨_, _, g2⟩, .inr ⟨h.objs.size, false, _, g1, g5, lz hz, li1, li2, Nat.ne_of_gt hSl⟩⟩ g5 g6 g7
    · refine wpAny_bind (zi_pyNext_held (s := { s with heap := h }) (A := A.in1) D hz ha n1 n2 n3 x3 x1 x2 hl1 hl2 hx hy fun h' g1 g2 g3 g4 g5 g6 => ?_)
      exact fin h' ⟨g2, g3, g6 _ _ D.TIz D.TIi1 D.TIi2 x3, ⟨_, _, g6 _ _ D.TOz D.TOi1 D.TOi2 x4⟩, .inr ⟨a', true, oa, g1, g6 a' _ n1 n2 n3 ha, n1, n2, n3, n4⟩⟩ g4 g5 fun c o c1 _ c3 c4 => g6 c o c1 c3 c4
theorem zip_no_len : typeLookup (.type "zip") "__len__" = pure none := by
  rw [typeLookup_type, builtinLookup_eq_fast]
  kernel_rfl
theorem zip_no_hint : typeLookup (.type "zip") "__length_hint__" = pure none := by
  rw [typeLookup_type, builtinLookup_eq_fast]
  kernel_rfl
/-- what zip has made -/
def ZiNew (h : Heap) (z TI TO i1 i2 l1 l2 : Addr) : Prop := IsZip h z TI TO .none ∧ IsPair h TI (.ref i1) (.ref i2) ∧ IsPair h TO .none .none ∧ h.IsListIter i1 l1 0 ∧ h.IsListIter i2 l2 0
theorem ZiNew.up {h h' : Heap} {z TI TO i1 i2 l1 l2 : Addr} (x : ZiNew h z TI TO i1 i2 l1 l2) (k : ∀ b o, (b = z ∨ b = TI ∨ b = TO ∨ b = i1 ∨ b = i2) → h.get? b = some o → h'.get? b = some o) : ZiNew h' z TI TO i1 i2 l1 l2 :=
  ⟨k _ _ (.inl rfl) x.1, k _ _ (.inr (.inl rfl)) x.2.1, k _ _ (.inr (.inr (.inl rfl))) x.2.2.1, x.2.2.2.1.at fun o e => k _ o (.inr (.inr (.inr (.inl rfl)))) e, x.2.2.2.2.at fun o e => k _ o (.inr (.inr (.inr (.inr rfl)))) e⟩
theorem zi_extend {z TI TO i1 i2 l1 l2 : Addr} (hh : A.handled = none) (D : ZipApart z TI TO i1 i2 l1 l2) (Z : ZiNew s.heap z TI TO i1 i2 l1 l2) (hl1 : s.heap.IsList l1 xs) (hl2 : s.heap.IsList l2 ys)
    (S : Addr) (O : ZiOff z TI TO i1 i2 l1 l2 S) (hsz : xs.size = ys.size) (hint : ∀ (j : Nat) u, xs[j]? = some u → ∃ n t, ns[j]? = some n ∧ u = .int n t) (hn : xs.size ≤ sizeLine) (res : Value) (c₀ : Nat)
    (hS : s.heap.get? S = some { cls := .type "list", data := .seq #[] c₀ })
    (hR : ∀ h' acc c as, (∀ b o, b ≠ S → b ≠ z → b ≠ TO → b ≠ i1 → b ≠ i2 → s.heap.get? b = some o → h'.get? b = some o) →
      h'.get? S = some { cls := .type "list", dict := none, data := .seq acc c, slots := #[] } →
      as.length = xs.size → ZiG prog w ns ys S h' as → acc.toList = as.map Value.ref →
      R (.ok (.ret res)) { s with heap := h' }) :
    wpAny (model prog w) A.in1 (Builtin.List.listExtendWith (.ref S) (.ref z) res)
      (fun fin s' => match fin with | .done f => R (.ok f) s' | .again c' => c'.quiet = true ∧ codeAny (model prog w) A c' R s')
      (fun e s' => R (.error e) s') s := by
  have hSne : S ≠ z := Nat.ne_of_gt O.z
  have hT : s.TypeIs (.ref z) "zip" := ⟨_, Z.1, rfl⟩
  unfold Builtin.List.listExtendWith
  refine wpAny_bind (wpAny_typeOf hT ?_)
  have h1 : Builtin.List.listSameRef (.ref S) (.ref z) = false := by simp [Builtin.List.listSameRef, hSne]
  have h2 : (Value.type "zip" == Value.type "list") = false := by decide
  have h3 : (Value.type "zip" == Value.type "tuple") = false := by decide
  simp only [h1, h2, h3, Bool.or_false, Bool.false_eq_true, if_false]
  refine wpAny_bind (wpAny_pyIter_zip Z.1 ?_)
  refine wpAny_bind (wpAny_holding ?_)
  unfold Builtin.List.listLengthHint
  refine wpAny_bind (wpAny_specialOf hT zip_no_len ?_)
  show wpAny _ A.in1 (specialOf (Value.ref z) (Str.ofString "__length_hint__") >>= _) _ _ _
  refine wpAny_bind (wpAny_specialOf hT zip_no_hint ?_)
  refine wpAny_pure ?_
  show wpAny _ A.in1 (rule "list.extend.makes-room" >>= fun _ =>
    Builtin.List.listTouch (.ref S) >>= fun _ =>
    again (.builtin "list.extend.loop" ⟨[.ref S, .ref z, res], []⟩)) _ _ _
  refine wpAny_bind (wpAny_rule ?_)
  refine wpAny_bind ?_
  show wpAny _ A.in1 (updateSeq S (·.push .none) >>= fun _ => updateSeq S (·.pop)) _ _ _
  refine wpAny_bind (wpAny_updateSeq hS rfl ?_)
  have hS₂ := Heap.get?_update_self (Obj.mapSeq (·.push Value.none)) hS rfl
  refine wpAny_updateSeq (hz := by seq_fits) hS₂ rfl ?_
  have hS₃ := Heap.get?_update_self (Obj.mapSeq (·.pop)) hS₂ rfl
  have oth : ∀ b o, b ≠ S → s.heap.get? b = some o →
      ((s.heap.update S (Obj.mapSeq (·.push Value.none))).update S (Obj.mapSeq (·.pop))).get? b = some o :=
    fun b o hb e => (Heap.get?_update_other _ _ (Ne.symm hb)).trans
      ((Heap.get?_update_other _ _ (Ne.symm hb)).trans e)
  have Z2 := Z.up fun b o hb e => oth b o (by rcases hb with rfl | rfl | rfl | rfl | rfl; exact Nat.ne_of_lt O.z; exact Nat.ne_of_lt O.ti; exact Nat.ne_of_lt O.to; exact Nat.ne_of_lt O.i1; exact Nat.ne_of_lt O.i2) e
  obtain ⟨q1, q2, q3, q4, q5⟩ := Z2
  refine wpAny_pure ⟨plainId_quiet PySem.F.plain_extend_loop _, zi_loop (s := s) (h₁ := s.heap) hh D O hsz hint hn res
    (fun h' acc c as k1 k2 k3 k4 k5 => hR h' acc c as k1 k2 k3 k4 k5)
    xs.size 0 _ _ #[] [] (Nat.sub_zero _) (Nat.zero_le _)
    ⟨q4, q5, q2, ⟨_, _, q3⟩, .inl q1⟩ (hl1.at fun o e => oth _ _ O.l1 e) (hl2.at fun o e => oth _ _ O.l2 e)
    (fun b o h1 _ _ _ _ e => oth b o h1 e) hS₃ rfl rfl ⟨List.Pairwise.nil, (fun _ ha => nomatch ha), (fun j a hj => by simp at hj)⟩⟩
theorem zi_init {z TI TO i1 i2 l1 l2 : Addr} (hh : A.handled = none) (D : ZipApart z TI TO i1 i2 l1 l2) (Z : ZiNew s.heap z TI TO i1 i2 l1 l2) (hl1 : s.heap.IsList l1 xs) (hl2 : s.heap.IsList l2 ys)
    (S : Addr) (O : ZiOff z TI TO i1 i2 l1 l2 S) (hsz : xs.size = ys.size) (hint : ∀ (j : Nat) u, xs[j]? = some u → ∃ n t, ns[j]? = some n ∧ u = .int n t) (hn : xs.size ≤ sizeLine)
    (hS : s.heap.get? S = some { cls := .type "list", data := .seq #[] })
    (hR : ∀ h' acc c as, (∀ b o, b ≠ S → b ≠ z → b ≠ TO → b ≠ i1 → b ≠ i2 → s.heap.get? b = some o → h'.get? b = some o) →
      h'.get? S = some { cls := .type "list", dict := none, data := .seq acc c, slots := #[] } →
      as.length = xs.size → ZiG prog w ns ys S h' as → acc.toList = as.map Value.ref →
      R (.ok (.ret .none)) { s with heap := h' }) :
    wpAny (model prog w) A.in1 (Builtin.«list.__init__» ⟨[.ref S, .ref z], []⟩)
      (fun fin s' => match fin with | .done f => R (.ok f) s' | .again c' => c'.quiet = true ∧ codeAny (model prog w) A c' R s')
      (fun e s' => R (.error e) s') s := by
  show wpAny _ _ (do let old ← Builtin.List.listItems (.ref S); Builtin.List.listUpdate (.ref S) (fun _ => #[]); letGo old.toList.reverse; Builtin.List.listExtendWith (.ref S) (.ref z) .none) _ _ s
  refine wpAny_bind ?_
  unfold Builtin.List.listItems
  refine wpAny_bind (wpAny_seqItems hS rfl (wpAny_pure ?_))
  show wpAny _ _ (updateSeq S (fun _ => #[]) >>= fun _ => letGo (#[] : Array Value).toList.reverse >>= fun _ => Builtin.List.listExtendWith (.ref S) (.ref z) .none) _ _ s
  refine wpAny_bind (wpAny_updateSeq hS rfl ?_)
  have hS₂ := Heap.get?_update_self (Obj.mapSeq (fun _ => (#[] : Array Value))) hS rfl
  have oth : ∀ b o, b ≠ S → s.heap.get? b = some o → (s.heap.update S (Obj.mapSeq (fun _ => (#[] : Array Value)))).get? b = some o :=
    fun b o hb e => (Heap.get?_update_other _ _ (Ne.symm hb)).trans e
  refine wpAny_bind (wpAny_letGo ?_)
  have Z2 := Z.up fun b o hb e => oth b o (by rcases hb with rfl | rfl | rfl | rfl | rfl; exact Nat.ne_of_lt O.z; exact Nat.ne_of_lt O.ti; exact Nat.ne_of_lt O.to; exact Nat.ne_of_lt O.i1; exact Nat.ne_of_lt O.i2) e
  refine zi_extend hh D Z2 (hl1.at fun o e => oth _ _ O.l1 e) (hl2.at fun o e => oth _ _ O.l2 e) S O hsz hint hn .none _ hS₂
    fun h' acc c as k1 k2 k3 k4 k5 => hR h' acc c as (fun b o n1 n2 n3 n4 n5 e => k1 b o n1 n2 n3 n4 n5 (oth b o n1 e)) k2 k3 k4 k5
theorem zi_call {Q : Value → Shared → Prop} {E : Value → Shared → Prop} {z TI TO i1 i2 l1 l2 : Addr} (hh : A.handled = none) (D : ZipApart z TI TO i1 i2 l1 l2) (Z : ZiNew s.heap z TI TO i1 i2 l1 l2)
    (hl1 : s.heap.IsList l1 xs) (hl2 : s.heap.IsList l2 ys) (hsz : xs.size = ys.size) (hint : ∀ (j : Nat) u, xs[j]? = some u → ∃ n t, ns[j]? = some n ∧ u = .int n t) (hn : xs.size ≤ sizeLine)
    (hQ : ∀ h' acc c as, (∀ b o, b ≠ z → b ≠ TO → b ≠ i1 → b ≠ i2 → s.heap.get? b = some o → h'.get? b = some o) →
      h'.get? s.heap.objs.size = some { cls := .type "list", dict := none, data := .seq acc c, slots := #[] } →
      as.length = xs.size → ZiG prog w ns ys s.heap.objs.size h' as → acc.toList = as.map Value.ref →
      Q (.ref s.heap.objs.size) { s with heap := h' }) :
    wpAny (model prog w) A (call (.type "list") [.ref z]) Q E s := by
  refine callType_codes (Q₁ := fun obj s₁ => obj = .ref s.heap.objs.size ∧ s₁ = { s with heap := s.heap.push { cls := .type "list", data := .seq #[] } })
    PySem.F.called_list (PySem.F.typeCall_list_1 _) PySem.F.entry_list_init (code_list_new _ ⟨rfl, rfl⟩) fun obj s₁ h₁ => ?_
  obtain ⟨rfl, rfl⟩ := h₁
  have hS : (s.heap.push { cls := .type "list", data := .seq #[] }).get? s.heap.objs.size = some { cls := .type "list", data := .seq #[] } := Heap.get?_push_size _ rfl
  have L : ∀ {b : Addr} {o : Obj}, s.heap.get? b = some o → b < s.heap.objs.size := fun e => Heap.lt_size e
  have O : ZiOff z TI TO i1 i2 l1 l2 s.heap.objs.size := ⟨L Z.1, L Z.2.1, L Z.2.2.1, by obtain ⟨o, ho, _⟩ := Z.2.2.2.1; exact L ho, by obtain ⟨o, ho, _⟩ := Z.2.2.2.2; exact L ho,
    by obtain ⟨o, ho, _⟩ := id hl1; exact Nat.ne_of_lt (L ho), by obtain ⟨o, ho, _⟩ := id hl2; exact Nat.ne_of_lt (L ho)⟩
  refine ⟨⟨_, hS, rfl⟩, PySem.F.args_list_init_2 _ _, zi_init (A := A.in1) hh D (Z.up fun b o _ e => Heap.get?_push_of_some _ e) (hl1.at fun o e => Heap.get?_push_of_some _ e) (hl2.at fun o e => Heap.get?_push_of_some _ e) _ O hsz hint hn hS fun h' acc c as k1 k2 k3 k4 k5 => ?_⟩
  exact ⟨rfl, hQ h' acc c as (fun b o n1 n2 n3 n4 e => k1 b o (Nat.ne_of_lt (L e)) n1 n2 n3 n4 (Heap.get?_push_of_some _ e)) k2 k3 k4 k5⟩
end
/-- list(zip(e, e2)) of as many whole numbers as things: a new list of new pairs -/
def rLZ (K : PySem.W.Frag) (x y : V) (H : Hp) (Q : VK) : Prop := ∃ (a b : Addr) (ns : List Int) (ys : List V), x = .ref a ∧ y = .ref b ∧ SqL K H a (ns.map V.int) ∧ SqL K H b ys ∧ ns.length = ys.length ∧
  ∀ (H' : Hp) (p : Addr) (ts : List Addr), Same H H' → H p = none → (∀ t ∈ ts, H t = none) → p ∉ ts →
    H' p = some (.lst (ts.map V.ref)) →
    Paired (fun (t : Addr) (q : Key × V) => H' t = some (.tup [kV q.1, q.2])) ts (zV ns ys) → Q (.ref p) H'
def tLZ (K : PySem.W.Frag) (ta : TA) : TE := fun σ H Q => ta σ H fun vs H1 => ∃ x y, vs = [x, y] ∧ rLZ K x y H1 Q
theorem zvals_ints : ∀ {ns : List Int} {us : List Value}, Vals (ns.map V.int) us → ∀ (j : Nat) u, us[j]? = some u → ∃ n t, ns[j]? = some n ∧ u = .int n t
  | [], _, .nil, j, u, h => by simp at h
  | n :: ns, _, .cons r t, 0, u, h => by
    obtain ⟨k, e⟩ := r
    cases h
    exact ⟨n, k, rfl, e⟩
  | n :: ns, _, .cons r t, j + 1, u, h => by
    obtain ⟨m, k, e1, e2⟩ := zvals_ints t j u (by simpa using h)
    exact ⟨m, k, by simpa using e1, e2⟩
section
variable {X : Cx} {e e2 : Expr} {ta : TA} {p p2 pos pos2 : Pos}
theorem pe_listZip (hc : X.calm = true) (hg : Gl X "list") (hm : X.mg "list" = none) (hg2 : Gl X "zip")
    (hm2 : X.mg "zip" = none) (ha : PA X [e, e2] ta)
    (hs : starEach [e, e2] X.env = (false, eval e X.env) :: starEach [e2] X.env := by rfl) (hpl : (backTo pos2 (starEach [e2] X.env)).any (·.1) = false := by rfl)
    (hs2 : starEach [.Call (.Name "zip" p2) [e, e2] [] pos2] X.env =
      (false, eval (.Call (.Name "zip" p2) [e, e2] [] pos2) X.env) :: starEach [] X.env := by rfl) :
    PE X (.Call (.Name "list" p) [.Call (.Name "zip" p2) [e, e2] [] pos2] [] pos) (tLZ X.K ta) := by
  refine ⟨fun pins s σ H Q I h => ?_⟩
  refine Call_ (ld_blt I hg hm boot_list (PyProof.Rows.callWith_type1 (args_cons ?_ hs2) hs2))
  refine Call_ (ld_blt I hg2 hm2 PyProof.Rows.boot_zip (PyProof.Rows.callWith_type1 (thn (ha.run pos2 pins s σ H _ I h) fun us s1 ⟨vs, H1, I1, r1, q1⟩ => ?_) hs hpl))
  obtain ⟨x, y, ex, a, b, ns, ys, rfl, rfl, hqx, hqy, hlen, q⟩ := q1
  subst ex
  cases r1 with
  | cons r rr =>
    cases rr with
    | cons r' rr =>
      cases rr
      cases r
      cases r'
      obtain ⟨its, rv, p1, hz1⟩ := I1.list hqx
      obtain ⟨its2, rv2, p2, hz2⟩ := I1.list hqy
      refine call_zip_2 p1.isList p2.isList fun h1 hz hTI hTO hi1 hi2 hsz1 hk1 => ?_
      refine args_nil ?_
      have I2 : Inv X pins σ H1 { s1 with heap := h1 } := I1.kept (t' := s1.toks) hk1
      obtain ⟨o1, ho1, rl1⟩ := p1.isList
      obtain ⟨o2, ho2, rl2⟩ := p2.isList
      have ll1 : a < s1.heap.objs.size := Heap.lt_size ho1
      have ll2 : b < s1.heap.objs.size := Heap.lt_size ho2
      have len1 := rv.length
      have len2 := rv2.length
      rw [List.length_map] at len1
      have D : ZipApart (s1.heap.objs.size + 4) (s1.heap.objs.size + 2) (s1.heap.objs.size + 3) s1.heap.objs.size (s1.heap.objs.size + 1) a b := PySem.W.ktu_apart s1.heap.objs.size a b p1.lt p2.lt
      refine zi_call (s := { s1 with heap := h1 }) (xs := its.toArray) (ys := its2.toArray) (ns := ns) (I2.ok.hd hc) D ⟨hz, hTI, hTO, hi1, hi2⟩ ⟨o1, hk1 _ _ ho1, rl1⟩ ⟨o2, hk1 _ _ ho2, rl2⟩
        (by simp only [List.size_toArray]; omega) (fun j u hu => zvals_ints rv j u (by simpa using hu)) (by simp only [List.size_toArray]; rw [← len1]; rw [List.length_map] at hz1; exact hz1)
        fun h2 acc c as k1 k2 k3 k4 k5 => ?_
      have eI : ZiG X.prog X.w ns its2.toArray h1.objs.size h2 as := k4
      obtain ⟨H', g1, g2, g3, g4, g5, g6, J⟩ := pairs_laid (tk := s1.toks) (p := h1.objs.size) (kvs := zV ns ys) (vs := zV ns its2) (as := as) I1
        (Nat.le_trans (by rw [List.length_zip, List.length_map]; exact Nat.min_le_left _ _) (by rw [List.length_map] at hz1; exact hz1)) (zV_kv ns ys its2 rv2) (by rw [hsz1]; exact Nat.le_add_right _ _)
        (fun d o e => by
          have hd := Heap.lt_size e
          exact k1 d o (Nat.ne_of_lt (Nat.lt_of_lt_of_le hd (Nat.le_add_right _ _))) (Nat.ne_of_lt (Nat.lt_of_lt_of_le hd (Nat.le_add_right _ _))) (Nat.ne_of_lt hd) (Nat.ne_of_lt (Nat.lt_of_lt_of_le hd (Nat.le_add_right _ _))) (hk1 d o e))
        k2 (by rw [k3, List.length_zip, List.length_map]; simp only [List.size_toArray]; omega) (by simpa using k4) k5
      exact ⟨.ref _, H', J, rfl, q H' _ as g1 g2 g3 g4 g5 g6⟩
end
end PB

namespace PB
open PySem PySem.Spec PyProof.Rows L2

/-! ### what is known of the heap: B stands, and beside it the objects of the list L -/
structure Tr (B : Hp) (L : List (Addr × HO)) (H : Hp) : Prop where
  base : Same B H
  at_ : ∀ p ∈ L, H p.1 = some p.2
  off : ∀ p ∈ L, B p.1 = none
  nd : (L.map (·.1)).Nodup
section
variable {B B' H H' : Hp} {L : List (Addr × HO)} {a b p : Addr} {o o' u : HO}
theorem Tr.start (H : Hp) : Tr H [] H := ⟨Same.refl H, (fun _ h => nomatch h), (fun _ h => nomatch h), List.nodup_nil⟩
theorem Tr.fz (T : Tr B L H) (h : B a = some o) : H a = some o := T.base a o h
theorem Tr.get (T : Tr B L H) (i : Nat) (h : L[i]? = some (a, o)) : H a = some o := T.at_ _ (List.mem_of_getElem? h)
theorem Tr.ne (T : Tr B L H) (h : (a, o) ∈ L) (h2 : B b = some u) : b ≠ a := fun e => by
  have z := T.off _ h
  rw [← e] at z
  rw [h2] at z
  cases z
theorem Tr.new (T : Tr B L H) (hp : H p = none) : Tr B ((p, o) :: L) (upd H p o) := by
  have hB : B p = none := T.base.free hp
  have nm : ∀ q ∈ L, q.1 ≠ p := fun q hq e => by
    have z := T.at_ q hq
    rw [e, hp] at z
    cases z
  refine ⟨fun c v e => ?_, fun q hq => ?_, fun q hq => ?_, ?_⟩
  · rw [upd_ne (ne_of_none e hB)]
    exact T.base c v e
  · rcases List.mem_cons.mp hq with rfl | hq
    · exact upd_same
    · rw [upd_ne (nm q hq)]
      exact T.at_ q hq
  · rcases List.mem_cons.mp hq with rfl | hq
    · exact hB
    · exact T.off q hq
  · refine List.nodup_cons.mpr ⟨fun hm => ?_, T.nd⟩
    obtain ⟨q, hq, e⟩ := List.mem_map.mp hm
    exact nm q hq e
theorem Tr.same (T : Tr B L H) (s : Same H H') : Tr B L H' :=
  ⟨T.base.trans s, fun q hq => s _ _ (T.at_ q hq), T.off, T.nd⟩
theorem Tr.add (T : Tr B L H) (s : Same H H') (hp : H p = none) (e : H' p = some o) : Tr B ((p, o) :: L) H' := by
  have T2 := T.new (o := o) hp
  refine ⟨T.base.trans s, fun q hq => ?_, T2.off, T2.nd⟩
  rcases List.mem_cons.mp hq with rfl | hq
  · exact e
  · exact s _ _ (T.at_ q hq)
/-- all but the objects at as stand -/
def But (as : List Addr) (H H' : Hp) : Prop := ∀ b o, b ∉ as → H b = some o → H' b = some o
theorem But.same {as : List Addr} (s : Same H H') : But as H H' := fun b o _ e => s b o e
theorem But.refl {as : List Addr} : But as H H := fun _ _ _ e => e
theorem But.trans {as : List Addr} {H2 : Hp} (s : But as H H') (t : But as H' H2) : But as H H2 := fun b o n e => t b o n (s b o n e)
theorem But.upd (a : Addr) (o : HO) : But [a] H (L2.upd H a o) := fun b u n e => by
  rw [upd_ne (fun z => n (by rw [z]; exact List.mem_cons_self))]
  exact e
theorem setMem : ∀ (L : List (Addr × HO)) (i : Nat) (q : Addr × HO), (L.map (·.1)).Nodup → L[i]? = some (a, o) → q ∈ L.set i (a, o') →
    q = (a, o') ∨ (q ∈ L ∧ q.1 ≠ a)
  | [], _, _, _, h, _ => by cases h
  | x :: L, 0, q, nd, h, hq => by
    have e : x = (a, o) := Option.some.inj h
    subst e
    rcases List.mem_cons.mp hq with e | hq
    · exact .inl e
    · refine .inr ⟨List.mem_cons_of_mem _ hq, fun e => (List.nodup_cons.mp nd).1 ?_⟩
      show a ∈ L.map (·.1)
      rw [← e]
      exact List.mem_map_of_mem hq
  | x :: L, i + 1, q, nd, h, hq => by
    rcases List.mem_cons.mp hq with e | hq
    · subst e
      refine .inr ⟨List.mem_cons_self, fun z => (List.nodup_cons.mp nd).1 ?_⟩
      show q.1 ∈ L.map (·.1)
      rw [z]
      exact List.mem_map_of_mem (f := (·.1)) (List.mem_of_getElem? (show L[i]? = some (a, o) from h))
    · rcases setMem L i q (List.nodup_cons.mp nd).2 h hq with e | ⟨h1, h2⟩
      · exact .inl e
      · exact .inr ⟨List.mem_cons_of_mem _ h1, h2⟩
theorem set_keys : ∀ (L : List (Addr × HO)) (i : Nat), L[i]? = some (a, o) → (L.set i (a, o')).map (·.1) = L.map (·.1)
  | [], _, h => by cases h
  | x :: L, 0, h => by
    have e : x = (a, o) := Option.some.inj h
    subst e
    rfl
  | x :: L, i + 1, h => congrArg (x.1 :: ·) (set_keys L i h)
theorem Tr.but (T : Tr B L H) (i : Nat) (h : L[i]? = some (a, o)) (s : But [a] H H') (e : H' a = some o') :
    Tr B (L.set i (a, o')) H' := by
  have hoff : B a = none := T.off _ (List.mem_of_getElem? h)
  refine ⟨fun c v ec => ?_, fun q hq => ?_, fun q hq => ?_, ?_⟩
  · refine s c v (fun z => ?_) (T.base c v ec)
    have z' : c = a := by simpa using z
    rw [z', hoff] at ec
    cases ec
  · rcases setMem L i q T.nd h hq with rfl | ⟨h1, h2⟩
    · exact e
    · exact s _ _ (by simpa using h2) (T.at_ q h1)
  · rcases setMem L i q T.nd h hq with rfl | ⟨h1, h2⟩
    · exact hoff
    · exact T.off q h1
  · rw [set_keys L i h]
    exact T.nd
theorem Tr.put (T : Tr B L H) (i : Nat) (h : L[i]? = some (a, o)) : Tr B (L.set i (a, o')) (upd H a o') :=
  T.but i h (But.upd a o') upd_same
/-- another part of the heap as the ground -/
theorem Tr.rebase (T : Tr B L H) (s : Same B' H) (h : ∀ q ∈ L, B' q.1 = none) : Tr B' L H := ⟨s, T.at_, h, T.nd⟩
theorem Tr.drop (T : Tr B (q :: L) H) : Tr B L H :=
  ⟨T.base, fun r hr => T.at_ r (List.mem_cons_of_mem _ hr), fun r hr => T.off r (List.mem_cons_of_mem _ hr), (List.nodup_cons.mp T.nd).2⟩
theorem Tr.dropL : ∀ {M : List (Addr × HO)}, Tr B (M ++ L) H → Tr B L H
  | [], T => T
  | _ :: _, T => Tr.dropL (Tr.drop T)
/-- a heap without what stands at a -/
def del (H : Hp) (a : Addr) : Hp := fun b => if b = a then none else H b
theorem del_same : del H a a = none := if_pos rfl
theorem del_ne (h : b ≠ a) : del H a b = H b := if_neg h
theorem Same.del : Same (del H a) H := fun b o e => by
  by_cases h : b = a
  · rw [h, del_same] at e
    cases e
  · rwa [del_ne h] at e
theorem Tr.mut (h : H a = some o) : Tr (del H a) [(a, o)] H :=
  ⟨Same.del, fun q hq => by rw [List.mem_singleton.mp hq]; exact h, fun q hq => by rw [List.mem_singleton.mp hq]; exact del_same, by simp⟩
theorem But.of_del (s : Same (del H a) H') : But [a] H H' := fun b o n e => s b o (by
  rw [del_ne (fun z => n (by rw [z]; exact List.mem_cons_self))]
  exact e)
/-- what is new behind a def that changes a -/
theorem Tr.newdel (T : Tr (del H a) L H') (i j : Nat) (h : L[i]? = some (a, o)) (h2 : L[j]? = some (p, o')) (n : i ≠ j := by decide) : H p = none := by
  have ha := List.getElem?_map (f := (·.1)) (l := L) (i := i)
  have hp := List.getElem?_map (f := (·.1)) (l := L) (i := j)
  rw [h] at ha
  rw [h2] at hp
  have ne : p ≠ a := fun e => by
    have ha' : (L.map (·.1))[i]? = some a := ha
    have hp' : (L.map (·.1))[j]? = some p := hp
    rw [e] at hp'
    exact n (nd_ix T.nd ha' hp')
  have z := T.off _ (List.mem_of_getElem? h2)
  rw [← del_ne (H := H) ne]
  exact z
theorem Tr.offI (T : Tr B L H) (i : Nat) (h : L[i]? = some (a, o)) : B a = none := T.off _ (List.mem_of_getElem? h)
theorem Tr.get0 (T : Tr B ((a, o) :: L) H) : H a = some o := T.get 0 rfl
theorem Tr.get1 {x0} (T : Tr B (x0 :: (a, o) :: L) H) : H a = some o := T.get 1 rfl
theorem Tr.get2 {x0 x1} (T : Tr B (x0 :: x1 :: (a, o) :: L) H) : H a = some o := T.get 2 rfl
theorem Tr.get3 {x0 x1 x2} (T : Tr B (x0 :: x1 :: x2 :: (a, o) :: L) H) : H a = some o := T.get 3 rfl
theorem Tr.get4 {x0 x1 x2 x3} (T : Tr B (x0 :: x1 :: x2 :: x3 :: (a, o) :: L) H) : H a = some o := T.get 4 rfl
theorem Tr.get5 {x0 x1 x2 x3 x4} (T : Tr B (x0 :: x1 :: x2 :: x3 :: x4 :: (a, o) :: L) H) : H a = some o := T.get 5 rfl
theorem Tr.get6 {x0 x1 x2 x3 x4 x5} (T : Tr B (x0 :: x1 :: x2 :: x3 :: x4 :: x5 :: (a, o) :: L) H) : H a = some o := T.get 6 rfl
theorem Tr.get7 {x0 x1 x2 x3 x4 x5 x6} (T : Tr B (x0 :: x1 :: x2 :: x3 :: x4 :: x5 :: x6 :: (a, o) :: L) H) : H a = some o := T.get 7 rfl
theorem Tr.get8 {x0 x1 x2 x3 x4 x5 x6 x7} (T : Tr B (x0 :: x1 :: x2 :: x3 :: x4 :: x5 :: x6 :: x7 :: (a, o) :: L) H) : H a = some o := T.get 8 rfl
theorem Tr.get9 {x0 x1 x2 x3 x4 x5 x6 x7 x8} (T : Tr B (x0 :: x1 :: x2 :: x3 :: x4 :: x5 :: x6 :: x7 :: x8 :: (a, o) :: L) H) : H a = some o := T.get 9 rfl
theorem Tr.seq {K : PySem.W.Frag} {xs : List V} (T : Tr B L H) (h : SqL K B a xs) : SqL K H a xs := T.base.seq h
theorem Same.tup {K : PySem.W.Frag} {xs : List V} (e : Same H H') (h : SqT K H a xs) : SqT K H' a xs := by
  rcases h with (h | ⟨o, h⟩) | h
  · exact .inl (.inl (e _ _ h))
  · exact .inl (.inr ⟨o, e _ _ h⟩)
  · exact .inr h
end

/-! ### readings by names -/
section
variable {X : Cx}
def rLen (K : PySem.W.Frag) : List V → Hp → VK → Prop := fun xs H Q => ∃ p ys, xs = [.ref p] ∧ (SqL K H p ys ∨ SqT K H p ys) ∧ Q (.int ys.length) H
theorem cl_len : CallR X (.builtin "len") (rLen X.K) := call_len_seq
def rAbs : List V → Hp → VK → Prop := fun xs H Q => ∃ i, xs = [.int i] ∧ Q (.int (if i < 0 then -i else i)) H
theorem cl_abs : CallR X (.builtin "abs") rAbs := call_abs
def rMax2 : List V → Hp → VK → Prop := fun xs H Q => ∃ i j, xs = [.int i, .int j] ∧ Q (.int (if j > i then j else i)) H
theorem cl_max2 (hc : X.calm = true) : CallR X (.builtin "max") rMax2 := call_max2 hc
def rMin2 : List V → Hp → VK → Prop := fun xs H Q => ∃ i j, xs = [.int i, .int j] ∧ Q (.int (if j < i then j else i)) H
theorem cl_min2 (hc : X.calm = true) : CallR X (.builtin "min") rMin2 := call_min2 hc
def rInt1 : List V → Hp → VK → Prop := fun xs H Q => (∃ i, xs = [.int i] ∧ Q (.int i) H) ∨ ∃ k, xs = [.bl k] ∧ Q (.int (if k then 1 else 0)) H
theorem cl_int : CallR X (.type "int") rInt1 := call_int1
def rListOf (K : PySem.W.Frag) : List V → Hp → VK → Prop := fun xs H Q => ∃ p ys, xs = [.ref p] ∧ (SqL K H p ys ∨ SqT K H p ys) ∧ ∀ l, H l = none → Q (.ref l) (upd H l (.lst ys))
theorem cl_list : CallR X (.type "list") (rListOf X.K) := call_list_of
/-- + of ints, of lists -/
def rAddA : R2 := fun x y H Q => rI0 (fun i j => .int (i + j)) x y H Q ∨ rCat x y H Q
theorem op_addA : OpR X (binaryOp .Add) rAddA := fun pins s σ H x y v u Q I rx ry h => by
  rcases h with h | h
  · exact op_add pins s σ H x y v u Q I rx ry h
  · exact op_cat pins s σ H x y v u Q I rx ry h
/-- * of ints, of a list and an int -/
def rMulA : R2 := fun x y H Q => rI CMulW (fun i j => .int (i * j)) x y H Q ∨ rRep x y H Q
theorem op_mulA : OpR X (binaryOp .Mult) rMulA := fun pins s σ H x y v u Q I rx ry h => by
  rcases h with h | h
  · exact op_mulW pins s σ H x y v u Q I rx ry h
  · exact op_rep pins s σ H x y v u Q I rx ry h
/-- == of a list with the empty one: no item is asked -/
def rEqN (K : PySem.W.Frag) : R2 := fun x y H Q => ∃ a b xs, x = .ref a ∧ y = .ref b ∧ SqL K H a xs ∧ SqL K H b [] ∧ Q (.bl xs.isEmpty) H
theorem op_eqN (hu : X.A.units + 64 < cLine) : OpR X (compareOp .Eq) (rEqN X.K) := by
  intro pins s σ H x y v u Q I rx ry h
  obtain ⟨a, b, xs, rfl, rfl, h1, h2, q⟩ := h
  cases xs with
  | nil => exact op_eqD hu pins s σ H _ _ v u Q I rx ry ⟨.list [], .list [], .lst h1 .nil, .lst h2 .nil, rfl, rfl, q⟩
  | cons z zs =>
    cases rx
    cases ry
    obtain ⟨its, r', pl, hz⟩ := I.list h1
    obtain ⟨its2, r2, pl2, hz2⟩ := I.list h2
    have e1 := r'.length
    have e2 := r2.length
    simp only [List.length_cons, List.length_nil] at e1 e2
    exact SeqAt.eq_list_lengthsAt pl.isList pl2.isList (by simp only [List.size_toArray]; exact bne_iff_ne.mpr (by omega)) (by omega) ⟨.bl _, H, I, rfl, q⟩
def rNeN (K : PySem.W.Frag) : R2 := fun x y H Q => ∃ a b xs, x = .ref a ∧ y = .ref b ∧ SqL K H a xs ∧ SqL K H b [] ∧ Q (.bl (!xs.isEmpty)) H
theorem op_neN (hu : X.A.units + 64 < cLine) : OpR X (compareOp .NotEq) (rNeN X.K) := by
  intro pins s σ H x y v u Q I rx ry h
  obtain ⟨a, b, xs, rfl, rfl, h1, h2, q⟩ := h
  cases xs with
  | nil => exact op_neD hu pins s σ H _ _ v u Q I rx ry ⟨.list [], .list [], .lst h1 .nil, .lst h2 .nil, rfl, rfl, q⟩
  | cons z zs =>
    cases rx
    cases ry
    obtain ⟨its, r', pl, hz⟩ := I.list h1
    obtain ⟨its2, r2, pl2, hz2⟩ := I.list h2
    have e1 := r'.length
    have e2 := r2.length
    simp only [List.length_cons, List.length_nil] at e1 e2
    exact SeqAt.RcNeAt.lists_lengths pl.isList pl2.isList (by simp only [List.size_toArray]; exact bne_iff_ne.mpr (by omega)) (by omega) _ _ _ _ ⟨.bl _, H, I, rfl, q⟩
/-- == of flat values, of data -/
def rEqA (K : PySem.W.Frag) : R2 := fun x y H Q => rEq x y H Q ∨ rEqD K x y H Q ∨ rEqN K x y H Q
theorem op_eqA (hu : X.A.units + 64 < cLine) : OpR X (compareOp .Eq) (rEqA X.K) := fun pins s σ H x y v u Q I rx ry h => by
  rcases h with h | h | h
  · exact op_eq pins s σ H x y v u Q I rx ry h
  · exact op_eqD hu pins s σ H x y v u Q I rx ry h
  · exact op_eqN hu pins s σ H x y v u Q I rx ry h
def rNeA (K : PySem.W.Frag) : R2 := fun x y H Q => rNe x y H Q ∨ rNeD K x y H Q ∨ rNeN K x y H Q
theorem op_neA (hu : X.A.units + 64 < cLine) : OpR X (compareOp .NotEq) (rNeA X.K) := fun pins s σ H x y v u Q I rx ry h => by
  rcases h with h | h | h
  · exact op_ne pins s σ H x y v u Q I rx ry h
  · exact op_neD hu pins s σ H x y v u Q I rx ry h
  · exact op_neN hu pins s σ H x y v u Q I rx ry h
def rIsN : R2 := fun x y H Q => y = .non ∧ Q (.bl (decide (x = .non))) H
theorem op_isNn : OpR X (compareOp .Is) rIsN := op_isN
def rNotN : R2 := fun x y H Q => y = .non ∧ Q (.bl (!decide (x = .non))) H
theorem op_notNn : OpR X (compareOp .IsNot) rNotN := op_notN
end

/-! ### the rest of a loop, of a comprehension, by names -/
def rFor (J : It) (g : TG) (tb : TS) (D : Ends) (σ : L2.St) (H : Hp) : Prop := ∃ W : Nat → Nat → L2.St → Hp → Prop, (∃ m, W 0 m σ H) ∧ ∀ i m σ H, W i m σ H →
  (J.stop i H ∧ D.nx σ H) ∨ (J.go i H ∧ ∃ N : L2.St → Hp → Prop, (∀ σ' H', N σ' H' → ∃ m', m' < m ∧ W (i + 1) m' σ' H') ∧ ∀ x H', J.yld i H x H' → g x σ H' fun σ2 H2 => tb { D with nx := N, ct := N, bk := D.nx } σ2 H2)
def rLc (J : It) (g : TG) (tt : TT) (te : TE) (vs : List Nat) (σ : L2.St) (H1 : Hp) (Q : VK) : Prop := ∀ D, H1 D = none → ∃ W : Nat → Nat → Hp → Prop, (∃ m, W 0 m (upd H1 D (.lst []))) ∧ ∀ i m H, W i m H →
  (J.stop i H ∧ Q (.ref D) H) ∨ (J.go i H ∧ ∃ Nx : Hp → Prop, (∀ H', Nx H' → ∃ m', m' < m ∧ W (i + 1) m' H') ∧ ∀ x H', J.yld i H x H' → g x (wipe σ vs) H' fun σ2 H2 => wipe σ2 vs = wipe σ vs ∧ tt σ2 H2 fun b H3 =>
    if b = true then te σ2 H3 fun y H4 => ∃ acc, H4 D = some (.lst acc) ∧ acc.length < sizeLine ∧ Nx (upd H4 D (.lst (acc ++ [y]))) else Nx H3)
/-- an element that goes to the list at D -/
def rElt (D : Addr) (Nx : Hp → Prop) (y : V) (H4 : Hp) : Prop := ∃ acc, H4 D = some (.lst acc) ∧ acc.length < sizeLine ∧ Nx (upd H4 D (.lst (acc ++ [y])))
def rItL (K : PySem.W.Frag) (x : V) (H : Hp) (R : It → Hp → Prop) : Prop := ∃ a, x = .ref a ∧ (∃ xs, SqL K H a xs) ∧ R (Itl K a) H
def rItT (K : PySem.W.Frag) (x : V) (H : Hp) (R : It → Hp → Prop) : Prop := ∃ a, x = .ref a ∧ (∃ xs, SqT K H a xs) ∧ R (Itt K a) H
def rRg1 (vs : List V) (H : Hp) (R : It → Hp → Prop) : Prop := ∃ j : Int, vs = [.int j] ∧ -(2 ^ 62) ≤ j ∧ j < 2 ^ 62 ∧ R (Itr 0 j.toNat) H
def rRg2 (vs : List V) (H : Hp) (R : It → Hp → Prop) : Prop := ∃ i j : Int, vs = [.int i, .int j] ∧ (-(2 ^ 62) ≤ i ∧ i < 2 ^ 62 ∧ -(2 ^ 62) ≤ j ∧ j < 2 ^ 62) ∧ R (Itr i (j - i).toNat) H
def rRg3 (vs : List V) (H : Hp) (R : It → Hp → Prop) : Prop := ∃ (i j c : Int) (n : Nat), vs = [.int i, .int j, .int c] ∧ RgC i j c n ∧ R (Itc i c n) H
def rEn (K : PySem.W.Frag) (vs : List V) (H : Hp) (R : It → Hp → Prop) : Prop := ∃ a xs, vs = [.ref a] ∧ SqL K H a xs ∧ R (Ite K a) H
def rZp (K : PySem.W.Frag) (vs : List V) (H : Hp) (R : It → Hp → Prop) : Prop := ∃ a b xs ys, vs = [.ref a, .ref b] ∧ SqL K H a xs ∧ SqL K H b ys ∧ R (Itz K a b) H
def rTup (xs : List V) (H : Hp) (Q : VK) : Prop := xs.length ≤ sizeLine ∧ ∀ p, H p = none → Q (.ref p) (upd H p (.tup xs))
def rLst (xs : List V) (H : Hp) (Q : VK) : Prop := xs.length ≤ sizeLine ∧ ∀ p, H p = none → Q (.ref p) (upd H p (.lst xs))
def rBl (x : V) (H : Hp) (Q : Bool → Hp → Prop) : Prop := ∃ k, x = .bl k ∧ Q k H
def rUnp (K : PySem.W.Frag) (n : Nat) (t : TGs) (v : V) (σ : L2.St) (H : Hp) (Q : L2.St → Hp → Prop) : Prop := ∃ a xs, v = .ref a ∧ SqT K H a xs ∧ xs.length = n ∧ t xs σ H Q
def rMt (K : PySem.W.Frag) (T : String) (r : V → List V → Hp → VK → Prop) (t : TA) (σ : L2.St) (x : V) (H1 : Hp) (Q : VK) : Prop := tyV K T x H1 ∧ t σ H1 fun xs H2 => r x xs H2 Q

/-! ### the steps -/
section
variable {K : PySem.W.Frag} {B H H1 : Hp} {L : List (Addr × HO)} {σ : L2.St} {D : Ends} {Q : VK} {t u : TS} {ta tb tc te to ti : TE} {tx ty : TA} {c tt : TT} {r r' : R2} {x y v w : V} {i j k n : Int} {a p : Addr} {xs ys : List V} {ns : List Int}
-- statements
section
variable {nx bk ct : L2.St → Hp → Prop} {rt : VK}
theorem i_seq (h : t ⟨u ⟨nx, rt, bk, ct⟩, rt, bk, ct⟩ σ H) : tSeq t u ⟨nx, rt, bk, ct⟩ σ H := h
theorem i_next (h : nx σ H) : tNext ⟨nx, rt, bk, ct⟩ σ H := h
theorem i_break (h : bk σ H) : tBreak ⟨nx, rt, bk, ct⟩ σ H := h
theorem i_cont (h : ct σ H) : tCont ⟨nx, rt, bk, ct⟩ σ H := h
theorem i_drop (h : te σ H fun _ H1 => nx σ H1) : tDrop te ⟨nx, rt, bk, ct⟩ σ H := h
theorem i_ret (h : te σ H rt) : tRet te ⟨nx, rt, bk, ct⟩ σ H := h
theorem i_retN (h : rt .non H) : tRetN ⟨nx, rt, bk, ct⟩ σ H := h
theorem i_ifS (h : c σ H fun b H1 => if b = true then t ⟨nx, rt, bk, ct⟩ σ H1 else u ⟨nx, rt, bk, ct⟩ σ H1) : tIfS c t u ⟨nx, rt, bk, ct⟩ σ H := h
theorem i_asg {g : TG} (h : te σ H fun x H1 => g x σ H1 nx) : tAsg te g ⟨nx, rt, bk, ct⟩ σ H := h
theorem i_aug {m : Nat} {ip : TIp} (hx : σ[m]? = some (some x)) (h : te σ H fun y H1 => ip x y H1 fun z H2 => nx (σ.set m (some z)) H2) : tAug m te ip ⟨nx, rt, bk, ct⟩ σ H := ⟨x, hx, h⟩
theorem i_for {wi : TI} {g : TG} {tb : TS} (h : wi σ H fun J H1 => rFor J g tb ⟨nx, rt, bk, ct⟩ σ H1) : tFor wi g tb ⟨nx, rt, bk, ct⟩ σ H := h
end
theorem i_gName {m : Nat} {R : L2.St → Hp → Prop} (h : R (σ.set m (some v)) H) : gName m v σ H R := h
theorem i_gTup {n : Nat} {g : TGs} {R : L2.St → Hp → Prop} (h : rUnp K n g v σ H R) : gTup K n g v σ H R := h
theorem i_unp {m : Nat} {g : TGs} {R : L2.St → Hp → Prop} (h1 : SqT K H a xs) (h2 : xs.length = m) (h : g xs σ H R) : rUnp K m g (.ref a) σ H R := ⟨a, xs, rfl, h1, h2, h⟩
theorem i_gCons {g : TG} {gs : TGs} {R : L2.St → Hp → Prop} (h : g x σ H fun σ' H' => gs xs σ' H' R) : gCons g gs (x :: xs) σ H R := ⟨x, xs, rfl, h⟩
theorem i_gNil {R : L2.St → Hp → Prop} (h : R σ H) : gNil [] σ H R := ⟨rfl, h⟩
theorem i_gSub {st : TSet} {R : L2.St → Hp → Prop} (h : to σ H fun o H1 => ti σ H1 fun i H2 => st o i v H2 fun H3 => R σ H3) : gSub to ti st v σ H R := h
theorem i_ip {f : Int → Int → Int} (h : Q (.int (f i j)) H) : ipI f (.int i) (.int j) H Q := ⟨i, j, rfl, rfl, h⟩
-- what is walked
section
variable {R : It → Hp → Prop}
theorem i_iList (h : te σ H fun x H1 => rItL K x H1 R) : iList K te σ H R := h
theorem i_itL (h1 : SqL K H a xs) (h : R (Itl K a) H) : rItL K (.ref a) H R := ⟨a, rfl, ⟨xs, h1⟩, h⟩
theorem i_iTup (h : te σ H fun x H1 => rItT K x H1 R) : iTup K te σ H R := h
theorem i_itT (h1 : SqT K H a xs) (h : R (Itt K a) H) : rItT K (.ref a) H R := ⟨a, rfl, ⟨xs, h1⟩, h⟩
theorem i_iRng1 (h : tx σ H fun vs H1 => rRg1 vs H1 R) : iRng1 tx σ H R := h
theorem i_rg1 (h1 : -(2 ^ 62) ≤ j) (h2 : j < 2 ^ 62) (h : R (Itr 0 j.toNat) H) : rRg1 [.int j] H R := ⟨j, rfl, h1, h2, h⟩
theorem i_iRng2 (h : tx σ H fun vs H1 => rRg2 vs H1 R) : iRng2 tx σ H R := h
theorem i_rg2 (h1 : -(2 ^ 62) ≤ i ∧ i < 2 ^ 62 ∧ -(2 ^ 62) ≤ j ∧ j < 2 ^ 62) (h : R (Itr i (j - i).toNat) H) : rRg2 [.int i, .int j] H R := ⟨i, j, rfl, h1, h⟩
theorem i_iRng3 (h : tx σ H fun vs H1 => rRg3 vs H1 R) : iRng3 tx σ H R := h
theorem i_iEnum (h : tx σ H fun vs H1 => rEn K vs H1 R) : iEnum K tx σ H R := h
theorem i_en (h1 : SqL K H a xs) (h : R (Ite K a) H) : rEn K [.ref a] H R := ⟨a, xs, rfl, h1, h⟩
theorem i_iZip (h : tx σ H fun vs H1 => rZp K vs H1 R) : iZip K tx σ H R := h
theorem i_zp {b : Addr} (h1 : SqL K H a xs) (h2 : SqL K H b ys) (h : R (Itz K a b) H) : rZp K [.ref a, .ref b] H R := ⟨a, b, xs, ys, rfl, h1, h2, h⟩
end
-- expressions
theorem i_var {m : Nat} (hx : σ[m]? = some (some v)) (h : Q v H) : tVar m σ H Q := ⟨v, hx, h⟩
theorem i_c (h : Q v H) : tC v σ H Q := h
theorem i_op (h : ta σ H fun x H1 => tb σ H1 fun y H2 => r x y H2 Q) : tOp r ta tb σ H Q := h
theorem i_un {r : V → Hp → VK → Prop} (h : ta σ H fun x H1 => r x H1 Q) : tUn r ta σ H Q := h
theorem i_rU {g : Int → V} (h : Q (g i) H) : rU g (.int i) H Q := ⟨i, rfl, h⟩
theorem i_I0 {g : Int → Int → V} (h : Q (g i j) H) : rI0 g (.int i) (.int j) H Q := ⟨i, j, rfl, rfl, h⟩
theorem i_I {C : Int → Int → Prop} {g : Int → Int → V} (hc : C i j) (h : Q (g i j) H) : rI C g (.int i) (.int j) H Q := ⟨i, j, rfl, rfl, hc, h⟩
theorem i_addI (h : Q (.int (i + j)) H) : rAddA (.int i) (.int j) H Q := .inl (i_I0 h)
theorem i_cat {b : Addr} (T : Tr B L H) (h1 : H a = some (.lst xs)) (h2 : H b = some (.lst ys)) (hz : xs.length + ys.length ≤ sizeLine)
    (h : ∀ p H', Tr B ((p, .lst (xs ++ ys)) :: L) H' → Q (.ref p) H') : rAddA (.ref a) (.ref b) H Q :=
  .inr ⟨a, b, xs, ys, rfl, rfl, h1, h2, hz, fun p hp => h p _ (T.new hp)⟩
theorem i_mulI (hc : CMulW i j) (h : Q (.int (i * j)) H) : rMulA (.int i) (.int j) H Q := .inl (i_I hc h)
theorem i_rep (T : Tr B L H) (h1 : H a = some (.lst xs)) (hk : -(2 ^ 63) ≤ k) (hk2 : k < 2 ^ 63) (hz : xs.length * k.toNat ≤ sizeLine)
    (h : ∀ p H', Tr B ((p, .lst ((List.replicate k.toNat xs).flatten)) :: L) H' → Q (.ref p) H') : rMulA (.ref a) (.int k) H Q :=
  .inr ⟨a, k, xs, rfl, rfl, h1, hk, hk2, hz, fun p hp => h p _ (T.new hp)⟩
theorem i_fdiv (h0 : 0 < j) (hb : j.natAbs < 2 ^ 60) (h : Q (.int (i / j)) H) : rI CDivW (fun i j => .int (i / j)) (.int i) (.int j) H Q := i_I (wide_div h0 hb (by decide) (by decide)) h
theorem i_mod (h0 : 0 < j) (h : Q (.int (i % j)) H) : rI (fun _ j => 0 < j) (fun i j => .int (i % j)) (.int i) (.int j) H Q := i_I h0 h
theorem i_pow (hc : (0 ≤ j ∧ j ≤ 1000000) ∧ i.natAbs < 2 ^ 64) (e : i ^ j.toNat = n) (h : Q (.int n) H) : rI CPow (fun i j => .int (i ^ j.toNat)) (.int i) (.int j) H Q := i_I ⟨hc.1.1, hc.1.2, hc.2⟩ (by rw [e]; exact h)
theorem i_sq (hc : i.natAbs < 2 ^ 64) (h : Q (.int (i * i)) H) : rI CPow (fun i j => .int (i ^ j.toNat)) (.int i) (.int 2) H Q := i_pow (n := i * i) ⟨⟨by decide, by decide⟩, hc⟩ (by show i ^ 2 = i * i; rw [Int.pow_succ, Int.pow_succ, Int.pow_zero, Int.one_mul]) h
theorem dec_int : decide (V.int i = V.int j) = decide (i = j) := by
  by_cases h : i = j
  · rw [decide_eq_true h, decide_eq_true (by rw [h])]
  · rw [decide_eq_false h, decide_eq_false (fun e => h (V.int.inj e))]
theorem dec_bl {a b : Bool} : decide (V.bl a = V.bl b) = decide (a = b) := by cases a <;> cases b <;> rfl
theorem i_eqI (h : Q (.bl (decide (i = j))) H) : rEqA K (.int i) (.int j) H Q := .inl ⟨rfl, by rw [dec_int]; exact h⟩
theorem i_neI (h : Q (.bl (!decide (i = j))) H) : rNeA K (.int i) (.int j) H Q := .inl ⟨rfl, by rw [dec_int]; exact h⟩
theorem i_eqB {a b : Bool} (h : Q (.bl (decide (a = b))) H) : rEqA K (.bl a) (.bl b) H Q := .inl ⟨rfl, by rw [dec_bl]; exact h⟩
theorem i_neB {a b : Bool} (h : Q (.bl (!decide (a = b))) H) : rNeA K (.bl a) (.bl b) H Q := .inl ⟨rfl, by rw [dec_bl]; exact h⟩
theorem i_eqD {d e : PyData} (h1 : Dp K H x d) (h2 : Dp K H y e) (s1 : SeqAt.shaped d = true) (s2 : SeqAt.shaped e = true) (h : Q (.bl (PyData.eqv d e)) H) : rEqA K x y H Q := .inr (.inl ⟨d, e, h1, h2, s1, s2, h⟩)
theorem i_neD {d e : PyData} (h1 : Dp K H x d) (h2 : Dp K H y e) (s1 : SeqAt.shaped d = true) (s2 : SeqAt.shaped e = true) (h : Q (.bl (!PyData.eqv d e)) H) : rNeA K x y H Q := .inr (.inl ⟨d, e, h1, h2, s1, s2, h⟩)
theorem i_isN (h : Q (.bl (decide (x = .non))) H) : rIsN x .non H Q := ⟨rfl, h⟩
theorem i_notN (h : Q (.bl (!decide (x = .non))) H) : rNotN x .non H Q := ⟨rfl, h⟩
theorem i_ixL (h1 : SqL K H a xs) (h2 : atI xs i = some v) (h : Q v H) : rIx K (.ref a) (.int i) H Q := .inl ⟨a, xs, i, v, rfl, rfl, h1, h2, h⟩
theorem i_ixT (h1 : SqT K H a xs) (h2 : atI xs i = some v) (h : Q v H) : rIx K (.ref a) (.int i) H Q := .inr (.inl ⟨a, xs, i, v, rfl, rfl, h1, h2, h⟩)
theorem atI_int (h0 : 0 ≤ i) (h1 : i < ns.length) : atI (ns.map V.int) i = some (.int ns[i.toNat]!) := by
  obtain ⟨m, rfl⟩ : ∃ m : Nat, i = m := ⟨i.toNat, by omega⟩
  refine atI_nat ?_
  rw [List.getElem?_map, Int.toNat_natCast, List.getElem!_eq_getElem?_getD, List.getElem?_eq_getElem (by omega)]
  rfl
theorem i_ixI (h1 : SqL K H a (ns.map V.int)) (h0 : 0 ≤ i) (h2 : i < ns.length) (h : Q (.int ns[i.toNat]!) H) : rIx K (.ref a) (.int i) H Q := i_ixL h1 (atI_int h0 h2) h
theorem i_tcons {R : List V → Hp → Prop} (h : te σ H fun x H1 => tx σ H1 fun xs H2 => R (x :: xs) H2) : tCons te tx σ H R := h
theorem i_tnil {R : List V → Hp → Prop} (h : R [] H) : tNil σ H R := h
theorem i_ttup (h : tx σ H fun xs H1 => rTup xs H1 Q) : tTup tx σ H Q := h
theorem i_tup (T : Tr B L H) (hz : xs.length ≤ sizeLine) (h : ∀ p H', Tr B ((p, .tup xs) :: L) H' → Q (.ref p) H') : rTup xs H Q := ⟨hz, fun p hp => h p _ (T.new hp)⟩
theorem i_tlst (h : tx σ H fun xs H1 => rLst xs H1 Q) : tLst tx σ H Q := h
theorem i_lst (T : Tr B L H) (hz : xs.length ≤ sizeLine) (h : ∀ p H', Tr B ((p, .lst xs) :: L) H' → Q (.ref p) H') : rLst xs H Q := ⟨hz, fun p hp => h p _ (T.new hp)⟩
theorem i_call {sp : Sp} {E : XK} (h : tx σ H fun vs H1 => sp vs H1 Q E) : tCall sp [] E tx σ H Q := by
  have e : (fun (vs : List V) (H1 : Hp) => sp (vs ++ []) H1 Q E) = fun vs H1 => sp vs H1 Q E := by
    funext vs H1
    rw [List.append_nil]
  show tx σ H fun vs H1 => sp (vs ++ []) H1 Q E
  rw [e]
  exact h
theorem i_cb {r : List V → Hp → VK → Prop} (h : tx σ H fun vs H1 => r vs H1 Q) : tCB r tx σ H Q := h
theorem i_len (h1 : SqL K H a xs) (h : Q (.int xs.length) H) : rLen K [.ref a] H Q := ⟨a, xs, rfl, .inl h1, h⟩
theorem i_lenI (h1 : SqL K H a (ns.map V.int)) (h : Q (.int ns.length) H) : rLen K [.ref a] H Q := i_len h1 (by rw [List.length_map]; exact h)
theorem i_lenT (h1 : SqT K H a xs) (h : Q (.int xs.length) H) : rLen K [.ref a] H Q := ⟨a, xs, rfl, .inr h1, h⟩
theorem i_abs (h : Q (.int (if i < 0 then -i else i)) H) : rAbs [.int i] H Q := ⟨i, rfl, h⟩
theorem i_max2 (h : Q (.int (max i j)) H) : rMax2 [.int i, .int j] H Q := ⟨i, j, rfl, by
  rw [show (if j > i then j else i) = max i j by split <;> omega]
  exact h⟩
theorem i_min2 (h : Q (.int (min i j)) H) : rMin2 [.int i, .int j] H Q := ⟨i, j, rfl, by
  rw [show (if j < i then j else i) = min i j by split <;> omega]
  exact h⟩
theorem i_intI (h : Q (.int i) H) : rInt1 [.int i] H Q := .inl ⟨i, rfl, h⟩
theorem i_intB {k : Bool} (h : Q (.int (if k then 1 else 0)) H) : rInt1 [.bl k] H Q := .inr ⟨k, rfl, h⟩
theorem i_list (T : Tr B L H) (h1 : SqL K H a xs) (h : ∀ p H', Tr B ((p, .lst xs) :: L) H' → Q (.ref p) H') : rListOf K [.ref a] H Q := ⟨a, xs, rfl, .inl h1, fun p hp => h p _ (T.new hp)⟩
theorem i_listT (T : Tr B L H) (h1 : SqT K H a xs) (h : ∀ p H', Tr B ((p, .lst xs) :: L) H' → Q (.ref p) H') : rListOf K [.ref a] H Q := ⟨a, xs, rfl, .inr h1, fun p hp => h p _ (T.new hp)⟩
theorem i_sum (h1 : SqL K H a (ns.map V.int)) (h : Q (.int ns.sum) H) : rSum K [.ref a] H Q := ⟨a, ns, rfl, h1, h⟩
theorem i_max (h1 : SqL K H a (ns.map V.int)) (h0 : 0 < ns.length) (h : ∀ m, m ∈ ns → (∀ y, y ∈ ns → y ≤ m) → Q (.int m) H) : rMax K [.ref a] H Q := ⟨a, ns, rfl, h1, h0, h⟩
theorem i_min (h1 : SqL K H a (ns.map V.int)) (h0 : 0 < ns.length) (h : ∀ m, m ∈ ns → (∀ y, y ∈ ns → m ≤ y) → Q (.int m) H) : rMin K [.ref a] H Q := ⟨a, ns, rfl, h1, h0, h⟩
theorem i_sorted (T : Tr B L H) (h1 : SqL K H a (ns.map V.int)) (h : ∀ (ms : List Int) p H', ms.Perm ns → ms.Pairwise (· ≤ ·) → Tr B ((p, .lst (ms.map V.int)) :: L) H' → Q (.ref p) H') : rSortedI K [.ref a] H Q :=
  ⟨a, ns, rfl, h1, fun ms p h2 h3 hp => h ms p _ h2 h3 (T.new hp)⟩
theorem i_repr {d : PyData} (h1 : Dp K H x d) (h2 : d.showable = true) (h3 : d.hasDict = false) (h4 : d.depth ≤ 60) (h5 : d.shown.length ≤ sizeLine) (h : Q (.str d.shown) H) : rRepr K [x] H Q := ⟨x, d, rfl, h1, h2, h3, h4, h5, h⟩
-- methods
theorem i_bm {T : String} {r : V → List V → Hp → VK → Prop} (h : to σ H fun x H1 => rMt K T r tx σ x H1 Q) : tBM K T r to tx σ H Q := h
theorem i_mtL {r : V → List V → Hp → VK → Prop} (h1 : SqL K H a xs) (h : tx σ H fun zs H2 => r (.ref a) zs H2 Q) : rMt K "list" r tx σ (.ref a) H Q := ⟨.inl ⟨rfl, xs, h1⟩, h⟩
theorem i_append (m : Nat) (T : Tr B L H) (h1 : L[m]? = some (a, .lst xs)) (hz : xs.length < sizeLine) (h : ∀ H', Tr B (L.set m (a, .lst (xs ++ [y]))) H' → Q .non H') : rAppend (.ref a) [y] H Q :=
  ⟨a, xs, y, rfl, rfl, T.get m h1, hz, h _ (T.put m h1)⟩
theorem i_setL (m : Nat) {l : Nat} {R : Hp → Prop} (T : Tr B L H) (h1 : L[m]? = some (a, .lst xs)) (h2 : ixN xs.length i = some l) (h : ∀ H', Tr B (L.set m (a, .lst (xs.set l v))) H' → R H') : rSetL (.ref a) (.int i) v H R :=
  ⟨a, xs, i, l, rfl, rfl, T.get m h1, h2, h _ (T.put m h1)⟩
-- slices
theorem i_sl {r : V → Option Int → Option Int → Hp → VK → Prop} {tl th : TO} (h : te σ H fun x H1 => tl σ H1 fun l H2 => th σ H2 fun u H3 => r x l u H3 Q) : tSl r te tl th σ H Q := h
theorem i_nopart {R : Option Int → Hp → Prop} (h : R none H) : tNoPart σ H R := h
def rPart (x : V) (H : Hp) (R : Option Int → Hp → Prop) : Prop := ∃ i, x = .int i ∧ R (some i) H
theorem i_part {R : Option Int → Hp → Prop} (h : te σ H fun x H1 => rPart x H1 R) : tPart te σ H R := h
theorem i_partI {R : Option Int → Hp → Prop} (h : R (some i) H) : rPart (.int i) H R := ⟨i, rfl, h⟩
theorem i_slL {lo hi : Option Int} (T : Tr B L H) (h1 : SqL K H a xs) (h : ∀ p H', Tr B ((p, .lst (cutV xs lo hi)) :: L) H' → Q (.ref p) H') : rSlL K (.ref a) lo hi H Q := ⟨a, xs, rfl, h1, fun p hp => h p _ (T.new hp)⟩
-- tests
section
variable {R : Bool → Hp → Prop}
theorem i_test (h : te σ H fun x H1 => rBl x H1 R) : tTest te σ H R := h
theorem i_tB (h : te σ H fun x H1 => rBl x H1 R) : tB te σ H R := h
theorem i_bl {k : Bool} (h : R k H) : rBl (.bl k) H R := ⟨k, rfl, h⟩
theorem i_and (h : c σ H fun b H1 => if b = true then tt σ H1 R else R false H1) : tAnd c tt σ H R := h
theorem i_or (h : c σ H fun b H1 => if b = true then R true H1 else tt σ H1 R) : tOr c tt σ H R := h
theorem i_not (h : c σ H fun b H1 => R (!b) H1) : tNot c σ H R := h
end
def rBlV (x : V) (H : Hp) (R : Bool → Hp → Prop) : Prop := ∃ k, x = .bl k ∧ R k H
theorem i_andV (h : ta σ H fun x H1 => rBl x H1 fun k H2 => if k = true then tb σ H2 Q else Q (.bl false) H2) : tAndV ta tb σ H Q := h
theorem i_orV (h : ta σ H fun x H1 => rBl x H1 fun k H2 => if k = true then Q (.bl true) H2 else tb σ H2 Q) : tOrV ta tb σ H Q := h
theorem i_notV (h : ta σ H fun x H1 => rBl x H1 fun k H2 => Q (.bl (!k)) H2) : tNotV ta σ H Q := h
theorem i_ifE (h : c σ H fun b H1 => if b = true then ta σ H1 Q else tb σ H1 Q) : tIf c ta tb σ H Q := h
theorem i_chain (h : ta σ H fun x H1 => tb σ H1 fun y H2 => r x y H2 fun z H3 => rBl z H3 fun k H4 => if k = true then tc σ H4 fun w' H5 => r' y w' H5 Q else Q (.bl false) H4) : tChain r r' ta tb tc σ H Q := h
end

/-! ### branches -/
theorem i_T {A C : Prop} (h : A) : if true = true then A else C := by
  rw [if_pos rfl]
  exact h
theorem i_F {A C : Prop} (h : C) : if false = true then A else C := by
  rw [if_neg Bool.false_ne_true]
  exact h
theorem i_decT {p A C : Prop} [Decidable p] (hp : p) (h : A) : if decide p = true then A else C := by
  rw [if_pos (decide_eq_true hp)]
  exact h
theorem i_decF {p A C : Prop} [Decidable p] (hp : ¬ p) (h : C) : if decide p = true then A else C := by
  rw [if_neg (by rw [decide_eq_false hp]; exact Bool.false_ne_true)]
  exact h
theorem i_ndecT {p A C : Prop} [Decidable p] (hp : ¬ p) (h : A) : if (!decide p) = true then A else C := by
  rw [if_pos (by rw [decide_eq_false hp]; rfl)]
  exact h
theorem i_ndecF {p A C : Prop} [Decidable p] (hp : p) (h : C) : if (!decide p) = true then A else C := by
  rw [if_neg (by rw [decide_eq_true hp]; exact Bool.false_ne_true)]
  exact h
/-- both ways -/
theorem i_if {p A C : Prop} [Decidable p] (h1 : p → A) (h2 : ¬ p → C) : if decide p = true then A else C := by
  by_cases hp : p
  · exact i_decT hp (h1 hp)
  · exact i_decF hp (h2 hp)
theorem i_nif {p A C : Prop} [Decidable p] (h1 : ¬ p → A) (h2 : p → C) : if (!decide p) = true then A else C := by
  by_cases hp : p
  · exact i_ndecF hp (h2 hp)
  · exact i_ndecT hp (h1 hp)
theorem i_bif {b : Bool} {A C : Prop} (h1 : b = true → A) (h2 : b = false → C) : if b = true then A else C := by
  cases b with
  | true => exact i_T (h1 rfl)
  | false => exact i_F (h2 rfl)

/-! ### loops -/
section
variable {K : PySem.W.Frag} {H : Hp} {σ : L2.St} {nx bk ct : L2.St → Hp → Prop} {rt : VK} {g : TG} {tb : TS} {c : TT} {a : Addr} {xs : List V} {ns : List Int}
theorem f_list (Pv : Nat → L2.St → Hp → Prop) (h0 : Pv 0 σ H) (hl : ∀ i σ H, Pv i σ H → SqL K H a xs)
    (hs : ∀ i x σ H, xs[i]? = some x → Pv i σ H → g x σ H fun σ2 H2 => tb ⟨Pv (i + 1), rt, nx, Pv (i + 1)⟩ σ2 H2) (hd : ∀ σ H, Pv xs.length σ H → nx σ H) :
    rFor (Itl K a) g tb ⟨nx, rt, bk, ct⟩ σ H := for_list Pv h0 (fun i σ H _ h => hl i σ H h) hs hd
theorem f_ints (Pv : Nat → L2.St → Hp → Prop) (h0 : Pv 0 σ H) (hl : ∀ i σ H, Pv i σ H → SqL K H a (ns.map V.int))
    (hs : ∀ i n σ H, ns[i]? = some n → Pv i σ H → g (.int n) σ H fun σ2 H2 => tb ⟨Pv (i + 1), rt, nx, Pv (i + 1)⟩ σ2 H2) (hd : ∀ σ H, Pv ns.length σ H → nx σ H) :
    rFor (Itl K a) g tb ⟨nx, rt, bk, ct⟩ σ H := f_list (xs := ns.map V.int) Pv h0 hl (fun i x σ H e h => by
      rw [List.getElem?_map] at e
      cases z : ns[i]? with
      | none =>
        rw [z] at e
        cases e
      | some n =>
        rw [z] at e
        cases e
        exact hs i n σ H z h) (by rw [List.length_map]; exact hd)
theorem f_tup (Pv : Nat → L2.St → Hp → Prop) (h0 : Pv 0 σ H) (hl : ∀ i σ H, Pv i σ H → SqT K H a xs)
    (hs : ∀ i x σ H, xs[i]? = some x → Pv i σ H → g x σ H fun σ2 H2 => tb ⟨Pv (i + 1), rt, nx, Pv (i + 1)⟩ σ2 H2) (hd : ∀ σ H, Pv xs.length σ H → nx σ H) :
    rFor (Itt K a) g tb ⟨nx, rt, bk, ct⟩ σ H := for_tup Pv h0 (fun i σ H _ h => hl i σ H h) hs hd
theorem f_range {lo : Int} {n : Nat} (Pv : Nat → L2.St → Hp → Prop) (h0 : Pv 0 σ H)
    (hs : ∀ i σ H, i < n → Pv i σ H → g (.int (lo + i)) σ H fun σ2 H2 => tb ⟨Pv (i + 1), rt, nx, Pv (i + 1)⟩ σ2 H2) (hd : ∀ σ H, Pv n σ H → nx σ H) :
    rFor (Itr lo n) g tb ⟨nx, rt, bk, ct⟩ σ H := for_range Pv h0 hs hd
theorem f_rangeC {lo c : Int} {n : Nat} (Pv : Nat → L2.St → Hp → Prop) (h0 : Pv 0 σ H)
    (hs : ∀ i σ H, i < n → Pv i σ H → g (.int (lo + (i : Nat) * c)) σ H fun σ2 H2 => tb ⟨Pv (i + 1), rt, nx, Pv (i + 1)⟩ σ2 H2) (hd : ∀ σ H, Pv n σ H → nx σ H) :
    rFor (Itc lo c n) g tb ⟨nx, rt, bk, ct⟩ σ H := for_rangeC Pv h0 hs hd
/-- enumerate: a new pair each turn -/
theorem f_enum (Pv : Nat → L2.St → Hp → Prop) (h0 : Pv 0 σ H) (hl : ∀ i σ H, Pv i σ H → SqL K H a xs)
    (hs : ∀ i x σ H p, xs[i]? = some x → Pv i σ H → H p = none → g (.ref p) σ (upd H p (.tup [.int i, x])) fun σ2 H2 => tb ⟨Pv (i + 1), rt, nx, Pv (i + 1)⟩ σ2 H2)
    (hd : ∀ σ H, Pv xs.length σ H → nx σ H) : rFor (Ite K a) g tb ⟨nx, rt, bk, ct⟩ σ H := by
  refine ⟨fun i m σ H => m = xs.length - i ∧ i ≤ xs.length ∧ Pv i σ H, ⟨xs.length, by simp, Nat.zero_le _, h0⟩, ?_⟩
  rintro i m σ H ⟨rfl, hi, p⟩
  have q := hl i σ H p
  by_cases hlt : i < xs.length
  · refine .inr ⟨⟨xs, xs[i], q, by simp [hlt]⟩, Pv (i + 1), fun σ' H' p' => ⟨xs.length - (i + 1), by omega, rfl, hlt, p'⟩, fun x H' y => ?_⟩
    obtain ⟨T, v, rfl, hT, rfl, fv⟩ := y
    exact hs i v σ H T (fv xs q) p hT
  · have e : i = xs.length := by omega
    subst e
    exact .inl ⟨⟨xs, q, Nat.le_refl _⟩, hd σ H p⟩
/-- while, its invariant with a number that falls -/
def rTurn (Pv : Nat → L2.St → Hp → Prop) (m : Nat) (tb : TS) (D : Ends) (σ : L2.St) (H : Hp) : Prop :=
  ∃ N : L2.St → Hp → Prop, (∀ σ' H', N σ' H' → ∃ m', m' < m ∧ Pv m' σ' H') ∧ tb ⟨N, D.rt, D.nx, N⟩ σ H
theorem i_turn {Pv : Nat → L2.St → Hp → Prop} {m : Nat}
    (h : tb ⟨fun σ' H' => ∃ m', m' < m ∧ Pv m' σ' H', rt, nx, fun σ' H' => ∃ m', m' < m ∧ Pv m' σ' H'⟩ σ H) : rTurn Pv m tb ⟨nx, rt, bk, ct⟩ σ H := ⟨_, fun _ _ z => z, h⟩
theorem f_while (Pv : Nat → L2.St → Hp → Prop) (h0 : ∃ m, Pv m σ H)
    (hs : ∀ m σ H, Pv m σ H → c σ H fun b H1 => if b = true then rTurn Pv m tb ⟨nx, rt, bk, ct⟩ σ H1 else nx σ H1) : tWhile c tb ⟨nx, rt, bk, ct⟩ σ H :=
  ⟨Pv, h0, hs⟩
/-- if, its ways joined behind it -/
theorem f_cut {t u : TS} (Mid : L2.St → Hp → Prop) (h1 : t ⟨Mid, rt, bk, ct⟩ σ H) (h2 : ∀ σ' H', Mid σ' H' → u ⟨nx, rt, bk, ct⟩ σ' H') : C8.tCut t u ⟨nx, rt, bk, ct⟩ σ H := ⟨Mid, h1, h2⟩
end

/-! ### comprehensions -/
section
variable {K : PySem.W.Frag} {B H : Hp} {L : List (Addr × HO)} {σ : L2.St} {g : TG} {tt : TT} {te : TE} {vs : List Nat} {Q : VK} {a b : Addr} {xs ys : List V} {ns : List Int} {wi : TI}
theorem i_lc (h : wi σ H fun J H1 => rLc J g tt te vs σ H1 Q) : tLc wi g tt te vs σ H Q := h
theorem i_yes {R : Bool → Hp → Prop} (h : R true H) : tYes σ H R := h
theorem i_wipe {σ2 : L2.St} {P : Prop} (e : wipe σ2 vs = wipe σ vs) (h : P) : wipe σ2 vs = wipe σ vs ∧ P := ⟨e, h⟩
theorem i_elt (m : Nat) {D : Addr} {acc : List V} {Nx : Hp → Prop} {y : V} (T : Tr B L H) (h1 : L[m]? = some (D, .lst acc)) (hz : acc.length < sizeLine)
    (h : ∀ H', Tr B (L.set m (D, .lst (acc ++ [y]))) H' → Nx H') : rElt D Nx y H := ⟨acc, T.get m h1, hz, h _ (T.put m h1)⟩
theorem c_list (T : Tr B L H) (Pv : Addr → Nat → Hp → Prop) (h0 : ∀ D H', Tr B ((D, .lst []) :: L) H' → Pv D 0 H')
    (hl : ∀ D i H, Pv D i H → SqL K H a xs)
    (hs : ∀ D i x H, xs[i]? = some x → Pv D i H → g x (wipe σ vs) H fun σ2 H2 => wipe σ2 vs = wipe σ vs ∧ tt σ2 H2 fun b H3 =>
      if b = true then te σ2 H3 (rElt D (Pv D (i + 1))) else Pv D (i + 1) H3)
    (hd : ∀ D H', Pv D xs.length H' → Q (.ref D) H') : rLc (Itl K a) g tt te vs σ H Q := fun D hD =>
  lc_list (Pv D) (h0 D _ (T.new hD)) (fun i H _ h => hl D i H h) (hs D) (hd D)
theorem c_ints (T : Tr B L H) (Pv : Addr → Nat → Hp → Prop) (h0 : ∀ D H', Tr B ((D, .lst []) :: L) H' → Pv D 0 H')
    (hl : ∀ D i H, Pv D i H → SqL K H a (ns.map V.int))
    (hs : ∀ D i n H, ns[i]? = some n → Pv D i H → g (.int n) (wipe σ vs) H fun σ2 H2 => wipe σ2 vs = wipe σ vs ∧ tt σ2 H2 fun b H3 =>
      if b = true then te σ2 H3 (rElt D (Pv D (i + 1))) else Pv D (i + 1) H3)
    (hd : ∀ D H', Pv D ns.length H' → Q (.ref D) H') : rLc (Itl K a) g tt te vs σ H Q :=
  c_list (xs := ns.map V.int) T Pv h0 hl (fun D i x H e h => by
    rw [List.getElem?_map] at e
    cases z : ns[i]? with
    | none =>
      rw [z] at e
      cases e
    | some n =>
      rw [z] at e
      cases e
      exact hs D i n H z h) (by rw [List.length_map]; exact hd)
theorem c_range {lo : Int} {n : Nat} (T : Tr B L H) (Pv : Addr → Nat → Hp → Prop) (h0 : ∀ D H', Tr B ((D, .lst []) :: L) H' → Pv D 0 H')
    (hs : ∀ D i H, i < n → Pv D i H → g (.int (lo + i)) (wipe σ vs) H fun σ2 H2 => wipe σ2 vs = wipe σ vs ∧ tt σ2 H2 fun b H3 =>
      if b = true then te σ2 H3 (rElt D (Pv D (i + 1))) else Pv D (i + 1) H3)
    (hd : ∀ D H', Pv D n H' → Q (.ref D) H') : rLc (Itr lo n) g tt te vs σ H Q := fun D hD =>
  lc_range (Pv D) (h0 D _ (T.new hD)) (hs D) (hd D)
/-- over a zip: as long as both have items -/
theorem c_zip (T : Tr B L H) (Pv : Addr → Nat → Hp → Prop) (h0 : ∀ D H', Tr B ((D, .lst []) :: L) H' → Pv D 0 H')
    (hl : ∀ D i H, Pv D i H → SqL K H a xs ∧ SqL K H b ys) (hlen : xs.length = ys.length)
    (hs : ∀ D i x y H p, xs[i]? = some x → ys[i]? = some y → Pv D i H → H p = none → g (.ref p) (wipe σ vs) (upd H p (.tup [x, y])) fun σ2 H2 => wipe σ2 vs = wipe σ vs ∧ tt σ2 H2 fun b H3 =>
      if b = true then te σ2 H3 (rElt D (Pv D (i + 1))) else Pv D (i + 1) H3)
    (hd : ∀ D H', Pv D xs.length H' → Q (.ref D) H') : rLc (Itz K a b) g tt te vs σ H Q := fun D hD => by
  refine ⟨fun i m H => m = xs.length - i ∧ i ≤ xs.length ∧ Pv D i H, ⟨xs.length, by simp, Nat.zero_le _, h0 D _ (T.new hD)⟩, ?_⟩
  rintro i m H ⟨rfl, hi, p⟩
  obtain ⟨q1, q2⟩ := hl D i H p
  by_cases hlt : i < xs.length
  · have hy : i < ys.length := by omega
    refine .inr ⟨⟨xs, ys, xs[i], ys[i], q1, q2, by simp [hlt], by simp [hy]⟩, Pv D (i + 1), fun H' p' => ⟨xs.length - (i + 1), by omega, rfl, hlt, p'⟩, fun x H' y => ?_⟩
    obtain ⟨t, u, v, rfl, hT, rfl, f1, f2⟩ := y
    exact hs D i u v H t (f1 xs q1) (f2 ys q2) p hT
  · have e : i = xs.length := by omega
    subst e
    exact .inl ⟨⟨xs, ys, q1, q2, .inl (Nat.le_refl _)⟩, hd D H p⟩
theorem c_enum (T : Tr B L H) (Pv : Addr → Nat → Hp → Prop) (h0 : ∀ D H', Tr B ((D, .lst []) :: L) H' → Pv D 0 H')
    (hl : ∀ D i H, Pv D i H → SqL K H a xs)
    (hs : ∀ D i x H p, xs[i]? = some x → Pv D i H → H p = none → g (.ref p) (wipe σ vs) (upd H p (.tup [.int i, x])) fun σ2 H2 => wipe σ2 vs = wipe σ vs ∧ tt σ2 H2 fun b H3 =>
      if b = true then te σ2 H3 (rElt D (Pv D (i + 1))) else Pv D (i + 1) H3)
    (hd : ∀ D H', Pv D xs.length H' → Q (.ref D) H') : rLc (Ite K a) g tt te vs σ H Q := fun D hD => by
  refine ⟨fun i m H => m = xs.length - i ∧ i ≤ xs.length ∧ Pv D i H, ⟨xs.length, by simp, Nat.zero_le _, h0 D _ (T.new hD)⟩, ?_⟩
  rintro i m H ⟨rfl, hi, p⟩
  have q := hl D i H p
  by_cases hlt : i < xs.length
  · refine .inr ⟨⟨xs, xs[i], q, by simp [hlt]⟩, Pv D (i + 1), fun H' p' => ⟨xs.length - (i + 1), by omega, rfl, hlt, p'⟩, fun x H' y => ?_⟩
    obtain ⟨t, v, rfl, hT, rfl, fv⟩ := y
    exact hs D i v H t (fv xs q) p hT
  · have e : i = xs.length := by omega
    subst e
    exact .inl ⟨⟨xs, q, Nat.le_refl _⟩, hd D H p⟩
end

/-! ### the names of the built-ins, the defs -/
structure Blt (mg : Str → Option Value) : Prop where
  abs_ : mg "abs" = none
  all_ : mg "all" = none
  bool_ : mg "bool" = none
  dict_ : mg "dict" = none
  enumerate_ : mg "enumerate" = none
  int_ : mg "int" = none
  isinstance_ : mg "isinstance" = none
  len_ : mg "len" = none
  list_ : mg "list" = none
  max_ : mg "max" = none
  min_ : mg "min" = none
  range_ : mg "range" = none
  repr_ : mg "repr" = none
  set_ : mg "set" = none
  sorted_ : mg "sorted" = none
  str_ : mg "str" = none
  sum_ : mg "sum" = none
  tuple_ : mg "tuple" = none
  zip_ : mg "zip" = none
  ValueError_ : mg "ValueError" = none
theorem mkFn {P : Program} {w : World} {K : PySem.W.Frag} {mg : Str → Option Value} {base : Heap} {x qual : Str} {params : Arguments} {body : List Stmt} {scope : Scope}
    {f : Addr} {fd : FuncData} {ps : List Str} {k : Nat} {sp : Sp} (F : FunD K x qual params body scope [] [] f fd) (hm : mg x = some (.ref f))
    (hb : ∀ (kV doc pm : Value) (an : Option Addr) (cdv ct : Value) (us : List Value), us.length = ps.length →
      bindArgs (PySem.W.fnOf x qual params body scope .none kV doc pm an cdv ct) ⟨us, []⟩ = pure (ps.zip us))
    (G : FnG P w K mg base k f fd ps sp) : Fn P w K mg base k x ps sp := ⟨f, fd, hm, F.kp, F.bindsN hb, G⟩
end PB

namespace PB
open PySem PySem.Spec PyProof.Rows L2
/-! ### lists of ints as data -/
def dI (ns : List Int) : PyData := .list (ns.map .int)
theorem dp_all {K : PySem.W.Frag} {H : Hp} : ∀ ns : List Int, DpAll K H (ns.map V.int) (ns.map PyData.int)
  | [] => .nil
  | n :: ns => .cons (.int n) (dp_all ns)
theorem dp_ints {K : PySem.W.Frag} {H : Hp} {a : Addr} {ns : List Int} (h : SqL K H a (ns.map V.int)) : Dp K H (.ref a) (dI ns) := .lst h (dp_all ns)
theorem canLay_ints : ∀ ns : List Int, PyData.canLayAll0 (ns.map PyData.int) = true
  | [] => by simp [PyData.canLayAll0]
  | n :: ns => by
    simp only [List.map_cons, PyData.canLayAll0, PyData.canLay0, canLay_ints ns, Bool.and_self]
theorem depth_ints : ∀ ns : List Int, PyData.depthAll (ns.map PyData.int) = 0
  | [] => by simp [PyData.depthAll]
  | n :: ns => by
    simp only [List.map_cons, PyData.depthAll, PyData.depth, depth_ints ns, Nat.max_self]
theorem dI_depth (ns : List Int) : (dI ns).depth = 1 := by
  unfold dI
  rw [PyData.depth, depth_ints]
theorem shaped_ints (ns : List Int) : SeqAt.shaped (dI ns) = true := by
  unfold SeqAt.shaped
  rw [dI_depth]
  unfold dI
  rw [PyData.canLay0, canLay_ints]
  rfl
theorem showable_ints : ∀ ns : List Int, (∀ n ∈ ns, n.natAbs < 2 ^ 64) → PyData.showableAll (ns.map PyData.int) = true
  | [], _ => by simp [PyData.showableAll]
  | n :: ns, h => by
    have h1 : n.natAbs.log2 < 1920 := by
      have h2 := h n List.mem_cons_self
      have h3 : n.natAbs.log2 < 64 := PySem.Flt.log2_lt_of (by decide) h2
      omega
    simp only [List.map_cons, PyData.showableAll, PyData.showable, showable_ints ns (fun m hm => h m (List.mem_cons_of_mem _ hm)), Bool.and_true, decide_eq_true_eq]
    exact h1
theorem dI_showable {ns : List Int} (h : ∀ n ∈ ns, n.natAbs < 2 ^ 64) : (dI ns).showable = true := by
  unfold dI
  rw [PyData.showable, showable_ints ns h]
theorem nodict_ints : ∀ ns : List Int, PyData.hasDictAll (ns.map PyData.int) = false
  | [] => by simp [PyData.hasDictAll]
  | n :: ns => by
    simp only [List.map_cons, PyData.hasDictAll, PyData.hasDict, nodict_ints ns, Bool.or_self]
theorem dI_nodict (ns : List Int) : (dI ns).hasDict = false := by
  unfold dI
  rw [PyData.hasDict, nodict_ints]
theorem short_ints : ∀ ns : List Int, (∀ n ∈ ns, n.natAbs < 2 ^ 64) → PyData.leavesShortAll 65 (ns.map PyData.int) = true
  | [], _ => by simp [PyData.leavesShortAll]
  | n :: ns, h => by
    have h1 : (toString n).length ≤ 64 + 1 := int_text_length_le (by decide) (PySem.Flt.log2_lt_of (by decide) (h n List.mem_cons_self))
    simp only [List.map_cons, PyData.leavesShortAll, PyData.leavesShort, short_ints ns (fun m hm => h m (List.mem_cons_of_mem _ hm)), Bool.and_true, decide_eq_true_eq]
    show (Str.ofString (toString n)).length ≤ 65
    rw [PySem.ofString_length]
    exact h1
theorem weight_ints : ∀ ns : List Int, (∀ n ∈ ns, n.natAbs < 2 ^ 64) → PyData.weightAll (ns.map PyData.int) ≤ 66 * ns.length
  | [], _ => by simp [PyData.weightAll]
  | n :: ns, h => by
    have ih := weight_ints ns (fun m hm => h m (List.mem_cons_of_mem _ hm))
    have h3 : n.natAbs.log2 < 64 := PySem.Flt.log2_lt_of (by decide) (h n List.mem_cons_self)
    rw [List.map_cons, PyData.weightAll, PyData.weight, List.length_cons]
    split <;> omega
theorem dI_shown {ns : List Int} (h : ∀ n ∈ ns, n.natAbs < 2 ^ 64) (hl : ns.length ≤ 3000) : (dI ns).shown.length ≤ sizeLine := by
  have h1 : (dI ns).leavesShort 65 = true := by
    unfold dI
    rw [PyData.leavesShort, short_ints ns h]
  have h2 := PyData.shown_le 65 (by decide) (dI ns) h1
  have h3 : (dI ns).weight ≤ 66 * ns.length := by
    unfold dI
    rw [PyData.weight]
    exact weight_ints ns h
  rw [sizeLine_eq]
  have h4 : (65 + 2) * (dI ns).weight ≤ 67 * (66 * ns.length) := Nat.mul_le_mul_left _ h3
  omega
theorem eqv_ints : ∀ ns ms : List Int, PyData.eqvAll (ns.map .int) (ms.map .int) = decide (ns = ms)
  | [], [] => by simp [PyData.eqvAll]
  | [], m :: ms => by simp [PyData.eqvAll]
  | n :: ns, [] => by simp [PyData.eqvAll]
  | n :: ns, m :: ms => by
    rw [List.map_cons, List.map_cons, PyData.eqvAll, PyData.eqv, eqv_ints ns ms]
    by_cases h : n = m <;> by_cases h2 : ns = ms <;> simp [h, h2]
theorem dI_eqv (ns ms : List Int) : PyData.eqv (dI ns) (dI ms) = decide (ns = ms) := by
  unfold dI
  rw [PyData.eqv, eqv_ints]
section
variable {K : PySem.W.Frag} {B H : Hp} {Q : VK} {a b : Addr} {ns ms : List Int} {x : V}
theorem i_eqLI (h1 : SqL K H a (ns.map V.int)) (h2 : SqL K H b (ms.map V.int)) (h : Q (.bl (decide (ns = ms))) H) : rEqA K (.ref a) (.ref b) H Q :=
  i_eqD (dp_ints h1) (dp_ints h2) (shaped_ints _) (shaped_ints _) (by rw [dI_eqv]; exact h)
theorem i_neLI (h1 : SqL K H a (ns.map V.int)) (h2 : SqL K H b (ms.map V.int)) (h : Q (.bl (!decide (ns = ms))) H) : rNeA K (.ref a) (.ref b) H Q :=
  i_neD (dp_ints h1) (dp_ints h2) (shaped_ints _) (shaped_ints _) (by rw [dI_eqv]; exact h)
theorem i_eqLnil (h1 : SqL K H a (ns.map V.int)) (h2 : SqL K H b []) (h : Q (.bl (decide (ns = []))) H) : rEqA K (.ref a) (.ref b) H Q :=
  i_eqLI (ms := []) h1 h2 h
theorem i_neLnil (h1 : SqL K H a (ns.map V.int)) (h2 : SqL K H b []) (h : Q (.bl (!decide (ns = []))) H) : rNeA K (.ref a) (.ref b) H Q :=
  i_neLI (ms := []) h1 h2 h
/-- the text of a list of ints, kept closed -/
def txt (ns : List Int) : Str := (dI ns).shown
theorem i_reprI (h1 : SqL K H a (ns.map V.int)) (hn : ∀ n ∈ ns, n.natAbs < 2 ^ 64) (hl : ns.length ≤ 3000) (h : Q (.str (txt ns)) H) : rRepr K [.ref a] H Q :=
  i_repr (dp_ints h1) (dI_showable hn) (dI_nodict ns) (by rw [dI_depth]; decide) (dI_shown hn hl) h
theorem i_eqS {s t : Str} (h : Q (.bl (decide (s = t))) H) : rEqA K (.str s) (.str t) H Q := .inl ⟨rfl, by
  rw [show decide (V.str s = V.str t) = decide (s = t) by
    by_cases e : s = t
    · rw [decide_eq_true e, decide_eq_true (by rw [e])]
    · rw [decide_eq_false e, decide_eq_false (fun z => e (V.str.inj z))]]
  exact h⟩
theorem i_neS {s t : Str} (h : Q (.bl (!decide (s = t))) H) : rNeA K (.str s) (.str t) H Q := .inl ⟨rfl, by
  rw [show decide (V.str s = V.str t) = decide (s = t) by
    by_cases e : s = t
    · rw [decide_eq_true e, decide_eq_true (by rw [e])]
    · rw [decide_eq_false e, decide_eq_false (fun z => e (V.str.inj z))]]
  exact h⟩
theorem i_isi {T c : String} {k : Bool} (ht : TyX K H x (.type T)) (hk : kitB T c = some k) (h : Q (.bl k) H) : rIsi K [x, .ty c] H Q := ⟨x, .ty c, _, _, k, rfl, ClsV.ty c, ht, kit_ty hk, h⟩
theorem kit_ii : kitB "int" "int" = some true := by decide +kernel
theorem kit_ib : kitB "int" "bool" = some false := by decide +kernel
theorem i_isiI {n : Int} (h : Q (.bl true) H) : rIsi K [.int n, .ty "int"] H Q := i_isi (.base (.int n)) kit_ii h
theorem i_isiB {n : Int} (h : Q (.bl false) H) : rIsi K [.int n, .ty "bool"] H Q := i_isi (.base (.int n)) kit_ib h
end
/-! ### slices of lists of ints -/
theorem cut_map (ns : List Int) (lo hi : Option Int) : cutV (ns.map V.int) lo hi = (((ns.drop (HT.sIx ns.length 0 lo)).take (HT.sIx ns.length ns.length hi - HT.sIx ns.length 0 lo)).map V.int) := by
  unfold cutV
  rw [List.length_map, ← List.map_drop, ← List.map_take]
theorem sIx_of {n d : Nat} {i : Int} (h0 : 0 ≤ i) : HT.sIx n d (some i) = min i.toNat n := by
  show (if i < 0 then (i + (n : Int)).toNat else min i.toNat n) = min i.toNat n
  rw [if_neg (by omega)]
theorem rep_one {α : Type} (x : α) : ∀ n : Nat, (List.replicate n [x]).flatten = List.replicate n x
  | 0 => rfl
  | n + 1 => by rw [List.replicate_succ, List.flatten_cons, rep_one x n]; rfl
theorem i_nT {A C : Prop} (h : C) : if (!true) = true then A else C := by
  rw [if_neg (by decide)]
  exact h
theorem i_nF {A C : Prop} (h : A) : if (!false) = true then A else C := by
  rw [if_pos (by decide)]
  exact h
/-- the part of a list of ints -/
def cutI (ns : List Int) (lo hi : Option Int) : List Int := (ns.drop (HT.sIx ns.length 0 lo)).take (HT.sIx ns.length ns.length hi - HT.sIx ns.length 0 lo)
theorem cutI_length (ns : List Int) (lo hi : Option Int) : (cutI ns lo hi).length ≤ ns.length := by
  unfold cutI
  rw [List.length_take, List.length_drop]
  omega
theorem cutI_from (ns : List Int) {i : Int} (h0 : 0 ≤ i) : cutI ns (some i) none = ns.drop i.toNat := by
  unfold cutI
  rw [sIx_of h0, HT.sIx_none]
  by_cases h : i.toNat ≤ ns.length
  · rw [Nat.min_eq_left h, List.take_of_length_le (by rw [List.length_drop]; omega)]
  · rw [Nat.min_eq_right (by omega), List.drop_eq_nil_of_le (Nat.le_refl _), List.drop_eq_nil_of_le (by omega), List.take_nil]
theorem cutI_to (ns : List Int) {i : Int} (h0 : 0 ≤ i) : cutI ns none (some i) = ns.take i.toNat := by
  unfold cutI
  rw [sIx_of h0, HT.sIx_none]
  show ns.take (min i.toNat ns.length - 0) = _
  rw [Nat.sub_zero]
  by_cases h : i.toNat ≤ ns.length
  · rw [Nat.min_eq_left h]
  · rw [Nat.min_eq_right (by omega), List.take_of_length_le (Nat.le_refl _), List.take_of_length_le (by omega)]
theorem cutI_mid (ns : List Int) {i j : Int} (h0 : 0 ≤ i) (h1 : i ≤ j) (h2 : j ≤ ns.length) : cutI ns (some i) (some j) = (ns.drop i.toNat).take (j.toNat - i.toNat) := by
  unfold cutI
  rw [sIx_of h0, sIx_of (by omega), Nat.min_eq_left (by omega), Nat.min_eq_left (by omega)]
section
variable {K : PySem.W.Frag} {B H : Hp} {L : List (Addr × HO)} {Q : VK} {a b p : Addr} {ns ms : List Int} {x y n i k : Int} {te : TE} {σ : L2.St}
theorem i_tLE (h : te σ H fun x H1 => rLE K x H1 Q) : tLE K te σ H Q := h
theorem i_lst1 (T : Tr B L H) (h : ∀ p H', Tr B ((p, .lst ([x].map V.int)) :: L) H' → Q (.ref p) H') : rLst [.int x] H Q := i_lst T (show 1 ≤ sizeLine by decide) h
theorem i_lst2 (T : Tr B L H) (h : ∀ p H', Tr B ((p, .lst ([x, y].map V.int)) :: L) H' → Q (.ref p) H') : rLst [.int x, .int y] H Q := i_lst T (show 2 ≤ sizeLine by decide) h
theorem i_repI (T : Tr B L H) (h1 : H a = some (.lst ([x].map V.int))) (hk : -(2 ^ 63) ≤ k) (hk2 : k < 2 ^ 63) (hz : k.toNat ≤ sizeLine)
    (h : ∀ p H', Tr B ((p, .lst ((List.replicate k.toNat x).map V.int)) :: L) H' → Q (.ref p) H') : rMulA (.ref a) (.int k) H Q :=
  i_rep (xs := [.int x]) T h1 hk hk2 (by rw [List.length_singleton, Nat.one_mul]; exact hz) (by
    rw [rep_one, ← List.map_replicate]
    exact h)
theorem i_catI (T : Tr B L H) (h1 : H a = some (.lst (ns.map V.int))) (h2 : H b = some (.lst (ms.map V.int))) (hz : ns.length + ms.length ≤ sizeLine)
    (h : ∀ p H', Tr B ((p, .lst ((ns ++ ms).map V.int)) :: L) H' → Q (.ref p) H') : rAddA (.ref a) (.ref b) H Q :=
  i_cat T h1 h2 (by rw [List.length_map, List.length_map]; exact hz) (by rw [← List.map_append]; exact h)
theorem i_slI {lo hi : Option Int} (T : Tr B L H) (h1 : SqL K H a (ns.map V.int)) (h : ∀ p H', Tr B ((p, .lst ((cutI ns lo hi).map V.int)) :: L) H' → Q (.ref p) H') : rSlL K (.ref a) lo hi H Q :=
  i_slL T h1 (by rw [cut_map]; exact h)
theorem i_appendI (m : Nat) (T : Tr B L H) (h1 : L[m]? = some (a, .lst (ns.map V.int))) (hz : ns.length < sizeLine) (h : ∀ H', Tr B (L.set m (a, .lst ((ns ++ [n]).map V.int))) H' → Q .non H') : rAppend (.ref a) [.int n] H Q :=
  i_append m T h1 (by rw [List.length_map]; exact hz) (by
    rw [List.map_append] at h
    exact h)
theorem i_eltI (m : Nat) {D : Addr} {Nx : Hp → Prop} (T : Tr B L H) (h1 : L[m]? = some (D, .lst (ns.map V.int))) (hz : ns.length < sizeLine)
    (h : ∀ H', Tr B (L.set m (D, .lst ((ns ++ [n]).map V.int))) H' → Nx H') : rElt D Nx (.int n) H :=
  i_elt m T h1 (by rw [List.length_map]; exact hz) (by
    rw [List.map_append] at h
    exact h)
theorem ixN_int {n : Nat} {i : Int} (h0 : 0 ≤ i) (h1 : i < n) : ixN n i = some i.toNat := by
  unfold ixN
  rw [if_pos h0, if_pos h1]
theorem i_setI (m : Nat) {R : Hp → Prop} (T : Tr B L H) (h1 : L[m]? = some (a, .lst (ns.map V.int))) (h0 : 0 ≤ i) (h2 : i < ns.length)
    (h : ∀ H', Tr B (L.set m (a, .lst ((ns.set i.toNat n).map V.int))) H' → R H') : rSetL (.ref a) (.int i) (.int n) H R :=
  i_setL m (l := i.toNat) T h1 (ixN_int h0 (by rw [List.length_map]; exact h2)) (by
    rw [List.map_set] at h
    exact h)
end
/-- a call changes one object and lays a new one -/
theorem Tr.butAdd {B H H' : Hp} {L : List (Addr × HO)} {a p : Addr} {o o' u : HO} (T : Tr B L H) (i : Nat) (h : L[i]? = some (a, o)) (s : But [a] H H') (e : H' a = some o') (hp : H p = none) (e2 : H' p = some u) :
    Tr B ((p, u) :: L.set i (a, o')) H' := by
  have T1 := T.but i h s e
  have T2 := T.new (o := u) hp
  refine ⟨T1.base, fun q hq => ?_, fun q hq => ?_, ?_⟩
  · rcases List.mem_cons.mp hq with rfl | hq
    · exact e2
    · exact T1.at_ q hq
  · rcases List.mem_cons.mp hq with rfl | hq
    · exact T2.off (p, u) List.mem_cons_self
    · exact T1.off q hq
  · show (p :: (L.set i (a, o')).map (·.1)).Nodup
    rw [set_keys L i h]
    exact T2.nd
theorem get_mem {ns : List Int} {v : Int} (h0 : 0 ≤ v) (h1 : v < ns.length) : ns[v.toNat]! ∈ ns := by
  rw [List.getElem!_eq_getElem?_getD, List.getElem?_eq_getElem (by omega)]
  exact List.getElem_mem _
theorem get_bnd {ns : List Int} {lo hi : Int} (h : ∀ n ∈ ns, lo ≤ n ∧ n ≤ hi) {v : Int} (h0 : 0 ≤ v) (h1 : v < ns.length) : lo ≤ ns[v.toNat]! ∧ ns[v.toNat]! ≤ hi := h _ (get_mem h0 h1)

theorem Tr.swapDrop2 {B H : Hp} {x y : Addr × HO} {L : List (Addr × HO)} (T : Tr B (x :: y :: L) H) : Tr B (y :: L) H := T.drop
theorem Tr.swapDrop {B H : Hp} {x y : Addr × HO} {L : List (Addr × HO)} (T : Tr B (x :: y :: L) H) : Tr B (x :: L) H := by
  refine ⟨T.base, fun q hq => ?_, fun q hq => ?_, ?_⟩
  · rcases List.mem_cons.mp hq with rfl | hq
    · exact T.at_ _ List.mem_cons_self
    · exact T.at_ q (List.mem_cons_of_mem _ (List.mem_cons_of_mem _ hq))
  · rcases List.mem_cons.mp hq with rfl | hq
    · exact T.off _ List.mem_cons_self
    · exact T.off q (List.mem_cons_of_mem _ (List.mem_cons_of_mem _ hq))
  · have h := T.nd
    rw [List.map_cons, List.map_cons] at h
    rw [List.map_cons]
    obtain ⟨h1, h2⟩ := List.nodup_cons.mp h
    obtain ⟨h3, h4⟩ := List.nodup_cons.mp h2
    exact List.nodup_cons.mpr ⟨fun z => h1 (List.mem_cons_of_mem _ z), h4⟩
end PB

namespace PB
open PySem PySem.Spec PyProof.Rows L2
/-! ### the steps that ask nothing, found by the goal's head -/
class Step (P : Prop) (P' : outParam Prop) : Prop where
  h : P' → P
section
variable {K : PySem.W.Frag} {H : Hp} {σ : L2.St} {Q : VK} {t u : TS} {ta tb tc te to ti : TE} {tx : TA} {c tt : TT} {r r' : R2} {x y v w : V} {i j : Int} {xs : List V} {nx bk ct : L2.St → Hp → Prop} {rt : VK}
instance : Step (tSeq t u ⟨nx, rt, bk, ct⟩ σ H) (t ⟨u ⟨nx, rt, bk, ct⟩, rt, bk, ct⟩ σ H) := ⟨i_seq⟩
instance : Step (tNext ⟨nx, rt, bk, ct⟩ σ H) (nx σ H) := ⟨i_next⟩
instance : Step (tBreak ⟨nx, rt, bk, ct⟩ σ H) (bk σ H) := ⟨i_break⟩
instance : Step (tCont ⟨nx, rt, bk, ct⟩ σ H) (ct σ H) := ⟨i_cont⟩
instance : Step (tDrop te ⟨nx, rt, bk, ct⟩ σ H) (te σ H fun _ H1 => nx σ H1) := ⟨i_drop⟩
instance : Step (tRet te ⟨nx, rt, bk, ct⟩ σ H) (te σ H rt) := ⟨i_ret⟩
instance : Step (tRetN ⟨nx, rt, bk, ct⟩ σ H) (rt .non H) := ⟨i_retN⟩
instance : Step (tIfS c t u ⟨nx, rt, bk, ct⟩ σ H) (c σ H fun b H1 => if b = true then t ⟨nx, rt, bk, ct⟩ σ H1 else u ⟨nx, rt, bk, ct⟩ σ H1) := ⟨i_ifS⟩
instance {g : TG} : Step (tAsg te g ⟨nx, rt, bk, ct⟩ σ H) (te σ H fun x H1 => g x σ H1 nx) := ⟨i_asg⟩
instance {wi : TI} {g : TG} {tb : TS} : Step (tFor wi g tb ⟨nx, rt, bk, ct⟩ σ H) (wi σ H fun J H1 => rFor J g tb ⟨nx, rt, bk, ct⟩ σ H1) := ⟨i_for⟩
instance {m : Nat} {R : L2.St → Hp → Prop} : Step (gName m v σ H R) (R (σ.set m (some v)) H) := ⟨i_gName⟩
instance {n : Nat} {g : TGs} {R : L2.St → Hp → Prop} : Step (gTup K n g v σ H R) (rUnp K n g v σ H R) := ⟨i_gTup⟩
instance {g : TG} {gs : TGs} {R : L2.St → Hp → Prop} : Step (gCons g gs (x :: xs) σ H R) (g x σ H fun σ' H' => gs xs σ' H' R) := ⟨i_gCons⟩
instance {R : L2.St → Hp → Prop} : Step (gNil [] σ H R) (R σ H) := ⟨i_gNil⟩
instance {st : TSet} {R : L2.St → Hp → Prop} : Step (gSub to ti st v σ H R) (to σ H fun o H1 => ti σ H1 fun i H2 => st o i v H2 fun H3 => R σ H3) := ⟨i_gSub⟩
instance {f : Int → Int → Int} : Step (ipI f (.int i) (.int j) H Q) (Q (.int (f i j)) H) := ⟨i_ip⟩
section
variable {R : It → Hp → Prop}
instance : Step (iList K te σ H R) (te σ H fun x H1 => rItL K x H1 R) := ⟨i_iList⟩
instance : Step (iTup K te σ H R) (te σ H fun x H1 => rItT K x H1 R) := ⟨i_iTup⟩
instance : Step (iRng1 tx σ H R) (tx σ H fun vs H1 => rRg1 vs H1 R) := ⟨i_iRng1⟩
instance : Step (iRng2 tx σ H R) (tx σ H fun vs H1 => rRg2 vs H1 R) := ⟨i_iRng2⟩
instance : Step (iRng3 tx σ H R) (tx σ H fun vs H1 => rRg3 vs H1 R) := ⟨i_iRng3⟩
instance : Step (iEnum K tx σ H R) (tx σ H fun vs H1 => rEn K vs H1 R) := ⟨i_iEnum⟩
instance : Step (iZip K tx σ H R) (tx σ H fun vs H1 => rZp K vs H1 R) := ⟨i_iZip⟩
end
instance : Step (tC v σ H Q) (Q v H) := ⟨i_c⟩
instance : Step (tOp r ta tb σ H Q) (ta σ H fun x H1 => tb σ H1 fun y H2 => r x y H2 Q) := ⟨i_op⟩
instance {r : V → Hp → VK → Prop} : Step (tUn r ta σ H Q) (ta σ H fun x H1 => r x H1 Q) := ⟨i_un⟩
instance {g : Int → V} : Step (rU g (.int i) H Q) (Q (g i) H) := ⟨i_rU⟩
instance {g : Int → Int → V} : Step (rI0 g (.int i) (.int j) H Q) (Q (g i j) H) := ⟨i_I0⟩
instance : Step (rAddA (.int i) (.int j) H Q) (Q (.int (i + j)) H) := ⟨i_addI⟩
instance : Step (rEqA K (.int i) (.int j) H Q) (Q (.bl (decide (i = j))) H) := ⟨i_eqI⟩
instance : Step (rNeA K (.int i) (.int j) H Q) (Q (.bl (!decide (i = j))) H) := ⟨i_neI⟩
instance {a b : Bool} : Step (rEqA K (.bl a) (.bl b) H Q) (Q (.bl (decide (a = b))) H) := ⟨i_eqB⟩
instance {a b : Bool} : Step (rNeA K (.bl a) (.bl b) H Q) (Q (.bl (!decide (a = b))) H) := ⟨i_neB⟩
instance {s t : Str} : Step (rEqA K (.str s) (.str t) H Q) (Q (.bl (decide (s = t))) H) := ⟨i_eqS⟩
instance {s t : Str} : Step (rNeA K (.str s) (.str t) H Q) (Q (.bl (!decide (s = t))) H) := ⟨i_neS⟩
theorem i_isNI (h : Q (.bl false) H) : rIsN (.int i) .non H Q := i_isN h
theorem i_isNR {a : Addr} (h : Q (.bl false) H) : rIsN (.ref a) .non H Q := i_isN h
theorem i_isNN (h : Q (.bl true) H) : rIsN .non .non H Q := i_isN h
theorem i_notNI (h : Q (.bl true) H) : rNotN (.int i) .non H Q := i_notN h
theorem i_notNR {a : Addr} (h : Q (.bl true) H) : rNotN (.ref a) .non H Q := i_notN h
theorem i_notNN (h : Q (.bl false) H) : rNotN .non .non H Q := i_notN h
instance : Step (rIsN (.int i) .non H Q) (Q (.bl false) H) := ⟨i_isNI⟩
instance {a : Addr} : Step (rIsN (.ref a) .non H Q) (Q (.bl false) H) := ⟨i_isNR⟩
instance : Step (rIsN .non .non H Q) (Q (.bl true) H) := ⟨i_isNN⟩
instance : Step (rNotN (.int i) .non H Q) (Q (.bl true) H) := ⟨i_notNI⟩
instance {a : Addr} : Step (rNotN (.ref a) .non H Q) (Q (.bl true) H) := ⟨i_notNR⟩
instance : Step (rNotN .non .non H Q) (Q (.bl false) H) := ⟨i_notNN⟩
instance {R : List V → Hp → Prop} : Step (tCons te tx σ H R) (te σ H fun x H1 => tx σ H1 fun xs H2 => R (x :: xs) H2) := ⟨i_tcons⟩
instance {R : List V → Hp → Prop} : Step (tNil σ H R) (R [] H) := ⟨i_tnil⟩
instance : Step (tTup tx σ H Q) (tx σ H fun xs H1 => rTup xs H1 Q) := ⟨i_ttup⟩
instance : Step (tLst tx σ H Q) (tx σ H fun xs H1 => rLst xs H1 Q) := ⟨i_tlst⟩
instance {sp : Sp} {E : XK} : Step (tCall sp [] E tx σ H Q) (tx σ H fun vs H1 => sp vs H1 Q E) := ⟨i_call⟩
instance {r : List V → Hp → VK → Prop} : Step (tCB r tx σ H Q) (tx σ H fun vs H1 => r vs H1 Q) := ⟨i_cb⟩
instance : Step (rAbs [.int i] H Q) (Q (.int (if i < 0 then -i else i)) H) := ⟨i_abs⟩
instance : Step (rMax2 [.int i, .int j] H Q) (Q (.int (max i j)) H) := ⟨i_max2⟩
instance : Step (rMin2 [.int i, .int j] H Q) (Q (.int (min i j)) H) := ⟨i_min2⟩
instance : Step (rInt1 [.int i] H Q) (Q (.int i) H) := ⟨i_intI⟩
instance {k : Bool} : Step (rInt1 [.bl k] H Q) (Q (.int (if k then 1 else 0)) H) := ⟨i_intB⟩
instance : Step (rIsi K [.int i, .ty "int"] H Q) (Q (.bl true) H) := ⟨i_isiI⟩
instance : Step (rIsi K [.int i, .ty "bool"] H Q) (Q (.bl false) H) := ⟨i_isiB⟩
instance {T : String} {r : V → List V → Hp → VK → Prop} : Step (tBM K T r to tx σ H Q) (to σ H fun x H1 => rMt K T r tx σ x H1 Q) := ⟨i_bm⟩
instance {r : V → Option Int → Option Int → Hp → VK → Prop} {tl th : TO} : Step (tSl r te tl th σ H Q) (te σ H fun x H1 => tl σ H1 fun l H2 => th σ H2 fun u H3 => r x l u H3 Q) := ⟨i_sl⟩
instance {R : Option Int → Hp → Prop} : Step (tNoPart σ H R) (R none H) := ⟨i_nopart⟩
instance {R : Option Int → Hp → Prop} : Step (tPart te σ H R) (te σ H fun x H1 => rPart x H1 R) := ⟨i_part⟩
instance {R : Option Int → Hp → Prop} : Step (rPart (.int i) H R) (R (some i) H) := ⟨i_partI⟩
instance {R : Bool → Hp → Prop} : Step (tTest te σ H R) (te σ H fun x H1 => rBl x H1 R) := ⟨i_test⟩
instance {R : Bool → Hp → Prop} : Step (tB te σ H R) (te σ H fun x H1 => rBl x H1 R) := ⟨i_tB⟩
instance {R : Bool → Hp → Prop} {k : Bool} : Step (rBl (.bl k) H R) (R k H) := ⟨i_bl⟩
instance {R : Bool → Hp → Prop} : Step (tAnd c tt σ H R) (c σ H fun b H1 => if b = true then tt σ H1 R else R false H1) := ⟨i_and⟩
instance {R : Bool → Hp → Prop} : Step (tOr c tt σ H R) (c σ H fun b H1 => if b = true then R true H1 else tt σ H1 R) := ⟨i_or⟩
instance {R : Bool → Hp → Prop} : Step (tNot c σ H R) (c σ H fun b H1 => R (!b) H1) := ⟨i_not⟩
instance : Step (tAndV ta tb σ H Q) (ta σ H fun x H1 => rBl x H1 fun k H2 => if k = true then tb σ H2 Q else Q (.bl false) H2) := ⟨i_andV⟩
instance : Step (tOrV ta tb σ H Q) (ta σ H fun x H1 => rBl x H1 fun k H2 => if k = true then Q (.bl true) H2 else tb σ H2 Q) := ⟨i_orV⟩
instance : Step (tNotV ta σ H Q) (ta σ H fun x H1 => rBl x H1 fun k H2 => Q (.bl (!k)) H2) := ⟨i_notV⟩
instance : Step (tIf c ta tb σ H Q) (c σ H fun b H1 => if b = true then ta σ H1 Q else tb σ H1 Q) := ⟨i_ifE⟩
instance : Step (tChain r r' ta tb tc σ H Q) (ta σ H fun x H1 => tb σ H1 fun y H2 => r x y H2 fun z H3 => rBl z H3 fun k H4 => if k = true then tc σ H4 fun w' H5 => r' y w' H5 Q else Q (.bl false) H4) := ⟨i_chain⟩
instance {g : TG} {vs : List Nat} {wi : TI} : Step (tLc wi g tt te vs σ H Q) (wi σ H fun J H1 => rLc J g tt te vs σ H1 Q) := ⟨i_lc⟩
instance {R : Bool → Hp → Prop} : Step (tYes σ H R) (R true H) := ⟨i_yes⟩
instance : Step (tLE K te σ H Q) (te σ H fun x H1 => rLE K x H1 Q) := ⟨i_tLE⟩
instance {A C : Prop} : Step (if true = true then A else C) A := ⟨i_T⟩
instance {A C : Prop} : Step (if false = true then A else C) C := ⟨i_F⟩
instance {A C : Prop} : Step (if (!true) = true then A else C) C := ⟨i_nT⟩
instance {A C : Prop} : Step (if (!false) = true then A else C) A := ⟨i_nF⟩
instance {Pv : Nat → L2.St → Hp → Prop} {m : Nat} : Step (rTurn Pv m t ⟨nx, rt, bk, ct⟩ σ H) (t ⟨fun σ' H' => ∃ m', m' < m ∧ Pv m' σ' H', rt, nx, fun σ' H' => ∃ m', m' < m ∧ Pv m' σ' H'⟩ σ H) := ⟨i_turn⟩
/-! guards: is the head this one? -/
theorem g_var {m : Nat} (h : tVar m σ H Q) : tVar m σ H Q := h
theorem g_ix (h : rIx K x y H Q) : rIx K x y H Q := h
theorem g_len (h : rLen K xs H Q) : rLen K xs H Q := h
theorem g_add (h : rAddA x y H Q) : rAddA x y H Q := h
theorem g_mul (h : rMulA x y H Q) : rMulA x y H Q := h
theorem g_I {C : Int → Int → Prop} {g : Int → Int → V} (h : rI C g x y H Q) : rI C g x y H Q := h
theorem g_eq (h : rEqA K x y H Q) : rEqA K x y H Q := h
theorem g_ne (h : rNeA K x y H Q) : rNeA K x y H Q := h
theorem g_tup (h : rTup xs H Q) : rTup xs H Q := h
theorem g_lst (h : rLst xs H Q) : rLst xs H Q := h
theorem g_list (h : rListOf K xs H Q) : rListOf K xs H Q := h
theorem g_sl {lo hi : Option Int} (h : rSlL K x lo hi H Q) : rSlL K x lo hi H Q := h
theorem g_mt {T : String} {r : V → List V → Hp → VK → Prop} (h : rMt K T r tx σ x H Q) : rMt K T r tx σ x H Q := h
theorem g_app (h : rAppend x xs H Q) : rAppend x xs H Q := h
theorem g_set {R : Hp → Prop} (h : rSetL x y v H R) : rSetL x y v H R := h
theorem g_elt {D : Addr} {Nx : Hp → Prop} (h : rElt D Nx y H) : rElt D Nx y H := h
theorem g_unp {n : Nat} {g : TGs} {R : L2.St → Hp → Prop} (h : rUnp K n g v σ H R) : rUnp K n g v σ H R := h
theorem g_itL {R : It → Hp → Prop} (h : rItL K x H R) : rItL K x H R := h
theorem g_itT {R : It → Hp → Prop} (h : rItT K x H R) : rItT K x H R := h
theorem g_en {R : It → Hp → Prop} (h : rEn K xs H R) : rEn K xs H R := h
theorem g_zp {R : It → Hp → Prop} (h : rZp K xs H R) : rZp K xs H R := h
theorem g_rg1 {R : It → Hp → Prop} (h : rRg1 xs H R) : rRg1 xs H R := h
theorem g_rg2 {R : It → Hp → Prop} (h : rRg2 xs H R) : rRg2 xs H R := h
theorem g_sum (h : rSum K xs H Q) : rSum K xs H Q := h
theorem g_repr (h : rRepr K xs H Q) : rRepr K xs H Q := h
theorem g_ite {b : Bool} {A C : Prop} (h : if b = true then A else C) : if b = true then A else C := h
theorem g_wipe {vs : List Nat} {σ2 : L2.St} {P : Prop} (h : wipe σ2 vs = wipe σ vs ∧ P) : wipe σ2 vs = wipe σ vs ∧ P := h
theorem g_aug {m : Nat} {ip : TIp} {D : Ends} (h : tAug m te ip D σ H) : tAug m te ip D σ H := h
theorem g_sp {sp : Sp} {E : XK} (h : sp xs H Q E) : sp xs H Q E := h
end
end PB

namespace PB
open PySem PySem.Spec PyProof.Rows L2
section
variable {K : PySem.W.Frag} {B H : Hp} {L : List (Addr × HO)} {σ : L2.St} {g : TG} {tt : TT} {te : TE} {vs : List Nat} {Q : VK} {a b : Addr} {xs ys : List V} {ns ms : List Int}
theorem Tr.pick {x : Addr × HO} (T : Tr B L H) (i : Nat) (h : L[i]? = some x) : Tr B [x] H :=
  ⟨T.base, fun q hq => by rw [List.mem_singleton.mp hq]; exact T.at_ _ (List.mem_of_getElem? h), fun q hq => by rw [List.mem_singleton.mp hq]; exact T.off _ (List.mem_of_getElem? h), by simp⟩
theorem Tr.head {x : Addr × HO} (T : Tr B (x :: L) H) : Tr B [x] H := T.pick 0 rfl
theorem Tr.nil (T : Tr B L H) : Tr B [] H := ⟨T.base, (fun _ h => nomatch h), (fun _ h => nomatch h), List.nodup_nil⟩
theorem Tr.apart {o u : HO} (T : Tr B L H) (i j : Nat) (h : L[i]? = some (a, o)) (h2 : L[j]? = some (b, u)) (n : i ≠ j) : a ≠ b := fun e => by
  refine n ((List.getElem?_inj (l := L.map (·.1)) ?_ T.nd).mp ?_)
  · rw [List.length_map]
    exact (List.getElem?_eq_some_iff.mp h).1
  · rw [List.getElem?_map, List.getElem?_map, h, h2, e]
    rfl
/-- comprehensions that make ints, each of one item, all else standing: F the whole result -/
abbrev NxI (B : Hp) (L : List (Addr × HO)) (F : List Int) (D : Addr) (j : Nat) (H : Hp) : Prop := ∃ v, F[j]? = some v ∧ Tr B ((D, .lst ((F.take j ++ [v]).map V.int)) :: L) H
theorem nx_take {F : List Int} {D : Addr} {j : Nat} (h : NxI B L F D j H) : Tr B ((D, .lst ((F.take (j + 1)).map V.int)) :: L) H := by
  obtain ⟨v, hv, T⟩ := h
  rw [List.take_add_one, hv]
  exact T
theorem elt_imp {D : Addr} {N M : Hp → Prop} {y : V} (h : rElt D N y H) (i : ∀ H, N H → M H) : rElt D M y H := by
  obtain ⟨acc, h1, h2, h3⟩ := h
  exact ⟨acc, h1, h2, i _ h3⟩
theorem c_intsF {F : List Int} (T : Tr B L H) (hl : ∀ D o H', Tr B ((D, o) :: L) H' → SqL K H' a (ns.map V.int)) (hF : F.length = ns.length)
    (hs : ∀ D j n H', ns[j]? = some n → Tr B ((D, .lst ((F.take j).map V.int)) :: L) H' → g (.int n) (wipe σ vs) H' fun σ2 H2 => wipe σ2 vs = wipe σ vs ∧ tYes σ2 H2 fun b H3 =>
      if b = true then te σ2 H3 (rElt D fun H4 => Tr B ((D, .lst ((F.take (j + 1)).map V.int)) :: L) H4) else Tr B ((D, .lst ((F.take (j + 1)).map V.int)) :: L) H3)
    (hd : ∀ D H', Tr B ((D, .lst (F.map V.int)) :: L) H' → Q (.ref D) H') : rLc (Itl K a) g tYes te vs σ H Q :=
  c_ints T (fun D j H => Tr B ((D, .lst ((F.take j).map V.int)) :: L) H) (fun D H' T => T) (fun D j H T => hl D _ H T) hs
    (fun D H' T => hd D H' (by rw [← hF, List.take_length] at T; exact T))
theorem c_rangeF {F : List Int} {lo : Int} {n : Nat} (T : Tr B L H) (hF : F.length = n)
    (hs : ∀ D j H', j < n → Tr B ((D, .lst ((F.take j).map V.int)) :: L) H' → g (.int (lo + j)) (wipe σ vs) H' fun σ2 H2 => wipe σ2 vs = wipe σ vs ∧ tYes σ2 H2 fun b H3 =>
      if b = true then te σ2 H3 (rElt D fun H4 => Tr B ((D, .lst ((F.take (j + 1)).map V.int)) :: L) H4) else Tr B ((D, .lst ((F.take (j + 1)).map V.int)) :: L) H3)
    (hd : ∀ D H', Tr B ((D, .lst (F.map V.int)) :: L) H' → Q (.ref D) H') : rLc (Itr lo n) g tYes te vs σ H Q :=
  c_range T (fun D j H => Tr B ((D, .lst ((F.take j).map V.int)) :: L) H) (fun D H' T => T) hs
    (fun D H' T => hd D H' (by rw [← hF, List.take_length] at T; exact T))
theorem map_at {i : Nat} {x : V} (h : (ns.map V.int)[i]? = some x) : ∃ n, x = .int n ∧ ns[i]? = some n := by
  rw [List.getElem?_map] at h
  cases e : ns[i]? with
  | none =>
    rw [e] at h
    cases h
  | some n =>
    rw [e] at h
    exact ⟨n, (Option.some.inj h).symm, rfl⟩
theorem c_zipF {F : List Int} (T : Tr B L H) (hl : ∀ D o H', Tr B ((D, o) :: L) H' → SqL K H' a (ns.map V.int)) (hl2 : ∀ D o H', Tr B ((D, o) :: L) H' → SqL K H' b (ms.map V.int))
    (hlen : ns.length = ms.length) (hF : F.length = ns.length)
    (hs : ∀ D j n m p H', ns[j]? = some n → ms[j]? = some m → Tr B ((p, .tup [.int n, .int m]) :: (D, .lst ((F.take j).map V.int)) :: L) H' → g (.ref p) (wipe σ vs) H' fun σ2 H2 => wipe σ2 vs = wipe σ vs ∧ tYes σ2 H2 fun b H3 =>
      if b = true then te σ2 H3 (rElt D fun H4 => Tr B ((D, .lst ((F.take (j + 1)).map V.int)) :: L) H4) else Tr B ((D, .lst ((F.take (j + 1)).map V.int)) :: L) H3)
    (hd : ∀ D H', Tr B ((D, .lst (F.map V.int)) :: L) H' → Q (.ref D) H') : rLc (Itz K a b) g tYes te vs σ H Q :=
  c_zip (xs := ns.map V.int) (ys := ms.map V.int) T (fun D j H => Tr B ((D, .lst ((F.take j).map V.int)) :: L) H) (fun D H' T => T) (fun D j H T => ⟨hl D _ H T, hl2 D _ H T⟩) (by simp [hlen])
    (fun D j x y H p hx hy T hp => by
      obtain ⟨n, rfl, hn⟩ := map_at hx
      obtain ⟨m, rfl, hm⟩ := map_at hy
      exact hs D j n m p _ hn hm (T.new hp))
    (fun D H' T => hd D H' (by rw [List.length_map, ← hF, List.take_length] at T; exact T))
/-- for over a range whose turns leave nothing but what the word says -/
theorem take_succ_get {F : List Int} {j : Nat} {v : Int} (h : F[j]? = some v) : F.take (j + 1) = F.take j ++ [v] := by
  rw [List.take_add_one, h]
  rfl
/-- a truth that does not matter -/
theorem i_andAny {p : Prop} [Decidable p] {tb : TE} (h2 : p → ∀ Q' : VK, (∀ b, Q' (.bl b) H) → tb σ H Q') (h : ∀ b, Q (.bl b) H) : if decide p = true then tb σ H Q else Q (.bl false) H := by
  by_cases hp : p
  · exact i_decT hp (h2 hp Q h)
  · exact i_decF hp (h false)
end
/-- a display of ints -/
class IsInts (xs : List V) (ns : outParam (List Int)) : Prop where
  e : xs = ns.map V.int
instance : IsInts [] [] := ⟨rfl⟩
instance {xs : List V} {ns : List Int} {n : Int} [h : IsInts xs ns] : IsInts (.int n :: xs) (n :: ns) := ⟨by rw [h.e]; rfl⟩
theorem i_lstC {B H : Hp} {L : List (Addr × HO)} {Q : VK} {xs : List V} {ns : List Int} [h : IsInts xs ns] (T : Tr B L H) (hz : ns.length ≤ sizeLine) (k : ∀ p H', Tr B ((p, .lst (ns.map V.int)) :: L) H' → Q (.ref p) H') : rLst xs H Q :=
  i_lst T (by rw [h.e, List.length_map]; exact hz) (by rw [h.e]; exact k)
/-- if, its ways joined behind it with like slots -/
theorem f_cutR {nx bk ct : L2.St → Hp → Prop} {rt : VK} {t u : TS} {σ : L2.St} {H : Hp} (R : Hp → Prop) {σ1 : L2.St} (h1 : t ⟨fun σ' H' => σ' = σ1 ∧ R H', rt, bk, ct⟩ σ H) (h2 : ∀ H', R H' → u ⟨nx, rt, bk, ct⟩ σ1 H') : C8.tCut t u ⟨nx, rt, bk, ct⟩ σ H :=
  f_cut (fun σ' H' => σ' = σ1 ∧ R H') h1 fun σ' H' ⟨e, r⟩ => by rw [e]; exact h2 H' r
/-! ### loops whose turns change some slots, and leave what stands -/
def NW {ω : Type} (W : ω → L2.St) (B : Hp) (L : List (Addr × HO)) (σ' : L2.St) (H' : Hp) : Prop := (∃ w, σ' = W w) ∧ Tr B L H'
section
variable {K : PySem.W.Frag} {B H : Hp} {L : List (Addr × HO)} {σ : L2.St} {nx bk ct : L2.St → Hp → Prop} {rt : VK} {g : TG} {tb : TS} {a : Addr} {xs : List V} {ns : List Int} {ω : Type}
theorem f_rangeW {lo : Int} {n : Nat} (W : L2.St → ω → L2.St) (w0 : ω) (e0 : σ = W σ w0) (T : Tr B L H)
    (hs : ∀ j w H', j < n → Tr B L H' → g (.int (lo + (j : Nat))) (W σ w) H' fun σ2 H2 => tb ⟨NW (W σ) B L, rt, nx, NW (W σ) B L⟩ σ2 H2)
    (hd : ∀ w H', Tr B L H' → nx (W σ w) H') : rFor (Itr lo n) g tb ⟨nx, rt, bk, ct⟩ σ H :=
  f_range (fun _ σ' H' => NW (W σ) B L σ' H') ⟨⟨w0, e0⟩, T⟩ (fun j σ' H' hj ⟨⟨w, e⟩, T⟩ => by rw [e]; exact hs j w H' hj T) (fun σ' H' ⟨⟨w, e⟩, T⟩ => by rw [e]; exact hd w H' T)
theorem f_listW (W : L2.St → ω → L2.St) (w0 : ω) (e0 : σ = W σ w0) (T : Tr B L H) (hl : ∀ H', Tr B L H' → SqL K H' a xs)
    (hs : ∀ (j : Nat) x w H', xs[j]? = some x → Tr B L H' → g x (W σ w) H' fun σ2 H2 => tb ⟨NW (W σ) B L, rt, nx, NW (W σ) B L⟩ σ2 H2)
    (hd : ∀ w H', Tr B L H' → nx (W σ w) H') : rFor (Itl K a) g tb ⟨nx, rt, bk, ct⟩ σ H :=
  f_list (fun _ σ' H' => NW (W σ) B L σ' H') ⟨⟨w0, e0⟩, T⟩ (fun _ _ H' h => hl H' h.2) (fun j x σ' H' hx ⟨⟨w, e⟩, T⟩ => by rw [e]; exact hs j x w H' hx T) (fun σ' H' ⟨⟨w, e⟩, T⟩ => by rw [e]; exact hd w H' T)
theorem f_intsW (W : L2.St → ω → L2.St) (w0 : ω) (e0 : σ = W σ w0) (T : Tr B L H) (hl : ∀ H', Tr B L H' → SqL K H' a (ns.map V.int))
    (hs : ∀ (j : Nat) x w H', ns[j]? = some x → Tr B L H' → g (.int x) (W σ w) H' fun σ2 H2 => tb ⟨NW (W σ) B L, rt, nx, NW (W σ) B L⟩ σ2 H2)
    (hd : ∀ w H', Tr B L H' → nx (W σ w) H') : rFor (Itl K a) g tb ⟨nx, rt, bk, ct⟩ σ H :=
  f_ints (fun _ σ' H' => NW (W σ) B L σ' H') ⟨⟨w0, e0⟩, T⟩ (fun _ _ H' h => hl H' h.2) (fun j x σ' H' hx ⟨⟨w, e⟩, T⟩ => by rw [e]; exact hs j x w H' hx T) (fun σ' H' ⟨⟨w, e⟩, T⟩ => by rw [e]; exact hd w H' T)
theorem f_tupW (W : L2.St → ω → L2.St) (w0 : ω) (e0 : σ = W σ w0) (T : Tr B L H) (hl : ∀ H', Tr B L H' → SqT K H' a xs)
    (hs : ∀ (j : Nat) x w H', xs[j]? = some x → Tr B L H' → g x (W σ w) H' fun σ2 H2 => tb ⟨NW (W σ) B L, rt, nx, NW (W σ) B L⟩ σ2 H2)
    (hd : ∀ w H', Tr B L H' → nx (W σ w) H') : rFor (Itt K a) g tb ⟨nx, rt, bk, ct⟩ σ H :=
  f_tup (fun _ σ' H' => NW (W σ) B L σ' H') ⟨⟨w0, e0⟩, T⟩ (fun _ _ H' h => hl H' h.2) (fun j x σ' H' hx ⟨⟨w, e⟩, T⟩ => by rw [e]; exact hs j x w H' hx T) (fun σ' H' ⟨⟨w, e⟩, T⟩ => by rw [e]; exact hd w H' T)
/-- the same with a word about the heap at each turn -/
def NR {ω : Type} (W : ω → L2.St) (R : Hp → Prop) (σ' : L2.St) (H' : Hp) : Prop := (∃ w, σ' = W w) ∧ R H'
theorem f_rangeR {lo : Int} {n : Nat} (W : L2.St → ω → L2.St) (w0 : ω) (e0 : σ = W σ w0) (R : Nat → Hp → Prop) (r0 : R 0 H)
    (hs : ∀ j w H', j < n → R j H' → g (.int (lo + (j : Nat))) (W σ w) H' fun σ2 H2 => tb ⟨NR (W σ) (R (j + 1)), rt, nx, NR (W σ) (R (j + 1))⟩ σ2 H2)
    (hd : ∀ w H', R n H' → nx (W σ w) H') : rFor (Itr lo n) g tb ⟨nx, rt, bk, ct⟩ σ H :=
  f_range (fun j σ' H' => NR (W σ) (R j) σ' H') ⟨⟨w0, e0⟩, r0⟩ (fun j σ' H' hj ⟨⟨w, e⟩, T⟩ => by rw [e]; exact hs j w H' hj T) (fun σ' H' ⟨⟨w, e⟩, T⟩ => by rw [e]; exact hd w H' T)
theorem f_listR (W : L2.St → ω → L2.St) (w0 : ω) (e0 : σ = W σ w0) (R : Nat → Hp → Prop) (r0 : R 0 H) (hl : ∀ j H', R j H' → SqL K H' a xs)
    (hs : ∀ (j : Nat) x w H', xs[j]? = some x → R j H' → g x (W σ w) H' fun σ2 H2 => tb ⟨NR (W σ) (R (j + 1)), rt, nx, NR (W σ) (R (j + 1))⟩ σ2 H2)
    (hd : ∀ w H', R xs.length H' → nx (W σ w) H') : rFor (Itl K a) g tb ⟨nx, rt, bk, ct⟩ σ H :=
  f_list (fun j σ' H' => NR (W σ) (R j) σ' H') ⟨⟨w0, e0⟩, r0⟩ (fun j _ H' h => hl j H' h.2) (fun j x σ' H' hx ⟨⟨w, e⟩, T⟩ => by rw [e]; exact hs j x w H' hx T) (fun σ' H' ⟨⟨w, e⟩, T⟩ => by rw [e]; exact hd w H' T)
theorem f_intsR (W : L2.St → ω → L2.St) (w0 : ω) (e0 : σ = W σ w0) (R : Nat → Hp → Prop) (r0 : R 0 H) (hl : ∀ j H', R j H' → SqL K H' a (ns.map V.int))
    (hs : ∀ (j : Nat) x w H', ns[j]? = some x → R j H' → g (.int x) (W σ w) H' fun σ2 H2 => tb ⟨NR (W σ) (R (j + 1)), rt, nx, NR (W σ) (R (j + 1))⟩ σ2 H2)
    (hd : ∀ w H', R ns.length H' → nx (W σ w) H') : rFor (Itl K a) g tb ⟨nx, rt, bk, ct⟩ σ H :=
  f_ints (fun j σ' H' => NR (W σ) (R j) σ' H') ⟨⟨w0, e0⟩, r0⟩ (fun j _ H' h => hl j H' h.2) (fun j x σ' H' hx ⟨⟨w, e⟩, T⟩ => by rw [e]; exact hs j x w H' hx T) (fun σ' H' ⟨⟨w, e⟩, T⟩ => by rw [e]; exact hd w H' T)
abbrev S4 (s t u x : Nat) (σ : L2.St) (w : Option V × Option V × Option V × Option V) : L2.St := (((σ.set s w.1).set t w.2.1).set u w.2.2.1).set x w.2.2.2
abbrev S1 (s : Nat) (σ : L2.St) (w : Option V) : L2.St := σ.set s w
abbrev S2 (s t : Nat) (σ : L2.St) (w : Option V × Option V) : L2.St := (σ.set s w.1).set t w.2
abbrev S3 (s t u : Nat) (σ : L2.St) (w : Option V × Option V × Option V) : L2.St := ((σ.set s w.1).set t w.2.1).set u w.2.2
end
theorem two_get {α : Type} {u v x : α} {k : Nat} (h : [u, v][k]? = some x) : x = u ∨ x = v := by
  match k, h with
  | 0, h => exact .inl (Option.some.inj h).symm
  | 1, h => exact .inr (Option.some.inj h).symm
  | k + 2, h => simp at h
theorem getE_of {ns : List Int} {i : Nat} {n : Int} (h : ns[i]? = some n) : ns[i]! = n := by
  rw [List.getElem!_eq_getElem?_getD, h]
  rfl
section
variable {K : PySem.W.Frag} {B H : Hp} {L : List (Addr × HO)} {σ : L2.St} {nx bk ct : L2.St → Hp → Prop} {rt : VK} {g : TG} {tb : TS} {a : Addr} {xs : List V} {ns ms : List Int} {Q : VK} {x y : V} {i j : Int}
theorem i_rg3n {R : It → Hp → Prop} (h1 : -(2 ^ 62) ≤ i ∧ i < 2 ^ 62 ∧ -(2 ^ 62) ≤ j ∧ j < 2 ^ 62) (h : R (Itc i (-1) (i - j).toNat) H) : rRg3 [.int i, .int j, .int (-1)] H R :=
  ⟨i, j, -1, _, rfl, RgC.neg h1.1 h1.2.1 h1.2.2.1 h1.2.2.2, h⟩
theorem g_rg3 {R : It → Hp → Prop} (h : rRg3 xs H R) : rRg3 xs H R := h
theorem f_enumI (Pv : Nat → L2.St → Hp → Prop) (h0 : Pv 0 σ H) (hl : ∀ i σ H, Pv i σ H → SqL K H a (ns.map V.int))
    (hs : ∀ (i : Nat) n σ H p, ns[i]? = some n → Pv i σ H → H p = none → g (.ref p) σ (upd H p (.tup [.int i, .int n])) fun σ2 H2 => tb ⟨Pv (i + 1), rt, nx, Pv (i + 1)⟩ σ2 H2)
    (hd : ∀ σ H, Pv ns.length σ H → nx σ H) : rFor (Ite K a) g tb ⟨nx, rt, bk, ct⟩ σ H :=
  f_enum (xs := ns.map V.int) Pv h0 hl (fun i x σ H p hx h hp => by
    obtain ⟨n, rfl, hn⟩ := map_at hx
    exact hs i n σ H p hn h hp) (by rw [List.length_map]; exact hd)
theorem atI_map {α : Type} [Inhabited α] {f : α → V} {fs : List α} (h0 : 0 ≤ i) (h1 : i < fs.length) : atI (fs.map f) i = some (f fs[i.toNat]!) := by
  obtain ⟨m, rfl⟩ : ∃ m : Nat, i = m := ⟨i.toNat, by omega⟩
  refine atI_nat ?_
  rw [List.getElem?_map, Int.toNat_natCast, List.getElem!_eq_getElem?_getD, List.getElem?_eq_getElem (by omega)]
  rfl
theorem i_ixM {α : Type} [Inhabited α] {f : α → V} {fs : List α} (h1 : SqL K H a (fs.map f)) (h0 : 0 ≤ i) (h2 : i < fs.length) (h : Q (f fs[i.toNat]!) H) : rIx K (.ref a) (.int i) H Q := i_ixL h1 (atI_map h0 h2) h
/-- the last item -/
theorem atI_lastI (h : ns ≠ []) : atI (ns.map V.int) (-1) = some (.int (ns.getLast h)) := by
  have e : ns.map V.int = ns.dropLast.map V.int ++ [.int (ns.getLast h)] := by
    rw [← List.map_singleton, ← List.map_append, List.dropLast_concat_getLast]
  rw [e]
  exact atI_last _ _
theorem i_ixLast (h1 : SqL K H a (ns.map V.int)) (hn : ns ≠ []) (h : Q (.int (ns.getLast hn)) H) : rIx K (.ref a) (.int (-1)) H Q := i_ixL h1 (atI_lastI hn) h
/-- a value whose text and kind are told by a datum -/
structure SameD (K : PySem.W.Frag) (H : Hp) (x : V) (d : PyData) (l : Bool) : Prop where
  dp : Dp K H x d
  ty : ∃ T, TyX K H x (.type T) ∧ kitB T "list" = some l
  sh : d.showable = true
  nd : d.hasDict = false
  de : d.depth ≤ 60
  le : d.shown.length ≤ sizeLine
theorem kit_nl : kitB "NoneType" "list" = some false := by decide +kernel
theorem kit_il : kitB "int" "list" = some false := by decide +kernel
theorem kit_ll : kitB "list" "list" = some true := by decide +kernel
theorem sd_non : SameD K H .non .none false :=
  ⟨.non, ⟨_, .base .non, kit_nl⟩, by simp [PyData.showable], by simp [PyData.hasDict], by simp [PyData.depth], by
    rw [PyData.shown]
    show (Str.ofString "None").length ≤ sizeLine
    rw [PySem.ofString_length]
    decide⟩
theorem sd_int (h : i.natAbs < 2 ^ 64) : SameD K H (.int i) (.int i) false := by
  have h3 : i.natAbs.log2 < 64 := PySem.Flt.log2_lt_of (by decide) h
  refine ⟨.int i, ⟨_, .base (.int i), kit_il⟩, ?_, by simp [PyData.hasDict], by simp [PyData.depth], ?_⟩
  · rw [PyData.showable, decide_eq_true_eq]
    omega
  · rw [PyData.shown]
    exact int_text_fits (by omega)
theorem sd_ints (h : H a = some (.lst (ns.map V.int))) (hn : ∀ n ∈ ns, n.natAbs < 2 ^ 64) (hl : ns.length ≤ 3000) : SameD K H (.ref a) (dI ns) true :=
  ⟨dp_ints (SqL.of h), ⟨_, .base (.lst h), kit_ll⟩, dI_showable hn, dI_nodict ns, by rw [dI_depth]; decide, dI_shown hn hl⟩
end
/-! ### a list unpacked -/
section
variable {K : PySem.W.Frag} {H : Hp} {σ : L2.St} {v : V} {xs : List V} {a : Addr}
def rUnpL (K : PySem.W.Frag) (n : Nat) (t : TGs) (v : V) (σ : L2.St) (H : Hp) (Q : L2.St → Hp → Prop) : Prop := ∃ a xs, v = .ref a ∧ SqL K H a xs ∧ xs.length = n ∧ t xs σ H Q
instance {n : Nat} {g : TGs} {R : L2.St → Hp → Prop} : Step (gLst K n g v σ H R) (rUnpL K n g v σ H R) := ⟨fun h => h⟩
theorem i_unpL {m : Nat} {g : TGs} {R : L2.St → Hp → Prop} (h1 : SqL K H a xs) (h2 : xs.length = m) (h : g xs σ H R) : rUnpL K m g (.ref a) σ H R := ⟨a, xs, rfl, h1, h2, h⟩
end
/-! ### x or y by truth -/
section
variable {K : PySem.W.Frag} {H : Hp} {Q : VK} {σ : L2.St} {tb : TE} {i : Int}
def rOrT (K : PySem.W.Frag) (x : V) (tb : TE) (σ : L2.St) (H : Hp) (Q : VK) : Prop := ∃ k, TruV K x H k ∧ if k = true then Q x H else tb σ H Q
instance {ta : TE} : Step (tOrT K ta tb σ H Q) (ta σ H fun x H1 => rOrT K x tb σ H1 Q) := ⟨fun h => h⟩
instance : Step (rOrT K .non tb σ H Q) (tb σ H Q) := ⟨fun h => ⟨false, rfl, h⟩⟩
theorem i_orI0 (hi : i = 0) (h : tb σ H Q) : rOrT K (.int i) tb σ H Q := ⟨false, by rw [hi]; rfl, h⟩
theorem i_orI1 (hi : i ≠ 0) (h : Q (.int i) H) : rOrT K (.int i) tb σ H Q := ⟨true, by show true = (i != 0); simp [hi], h⟩
end
/-! ### what is kept over turns -/
section
variable {B B2 H : Hp} {L : List (Addr × HO)} {a : Addr} {o : HO} {G : Hp → Addr → Prop} {hs : List Addr} {h : Addr}
theorem Tr.sdel (T : Tr B L H) (i : Nat) (h : L[i]? = some (a, o)) : Same B (del H a) := fun b u e => by
  rw [del_ne (fun z => by
    rw [z, T.offI i h] at e
    cases e)]
  exact T.base b u e
theorem del_of {b : Addr} {u : HO} (h : H b = some u) (n : b ≠ a) : del H a b = some u := (del_ne n).trans h
theorem Tr.kept {b : Addr} {u : HO} (T : Tr B L H) (i j : Nat) (h : L[i]? = some (a, o)) (h2 : L[j]? = some (b, u)) (n : j ≠ i) : del H a b = some u := del_of (T.get j h2) (T.apart j i h2 h n)
def Kept (G : Hp → Addr → Prop) (B : Hp) (hs : List Addr) : Prop := ∀ h ∈ hs, G B h
theorem Kept.nil : Kept G B [] := fun _ h => nomatch h
theorem Kept.mono (k : Kept G B hs) (m : ∀ h, G B h → G B2 h) : Kept G B2 hs := fun h hh => m h (k h hh)
theorem Kept.add (k : Kept G B hs) (g : G B h) : Kept G B (hs ++ [h]) := fun x hx => by
  rcases List.mem_append.mp hx with hx | hx
  · exact k x hx
  · rw [List.mem_singleton.mp hx]
    exact g
/-- a pair of like int lists -/
def Two (B : Hp) (h : Addr) : Prop := ∃ (x y : Addr) (c : List Int), B h = some (.lst [.ref x, .ref y]) ∧ B x = some (.lst (c.map V.int)) ∧ B y = some (.lst (c.map V.int)) ∧ (∀ n ∈ c, n.natAbs < 2 ^ 64) ∧ c.length ≤ 3000
theorem Two.same (s : Same B B2) (h : Addr) (t : Two B h) : Two B2 h := let ⟨x, y, c, h1, h2, h3, h4⟩ := t; ⟨x, y, c, s _ _ h1, s _ _ h2, s _ _ h3, h4⟩
end
/-! ### the greatest, the least -/
def mxI : List Int → Int
  | [] => 0
  | [x] => x
  | x :: y :: r => max x (mxI (y :: r))
def mnI : List Int → Int
  | [] => 0
  | [x] => x
  | x :: y :: r => min x (mnI (y :: r))
theorem mxI_mem : ∀ {ns : List Int}, ns ≠ [] → mxI ns ∈ ns
  | [], h => absurd rfl h
  | [x], _ => List.mem_singleton.mpr rfl
  | x :: y :: r, _ => by
    have ih := mxI_mem (ns := y :: r) (List.cons_ne_nil _ _)
    rw [mxI]
    rcases Int.le_total x (mxI (y :: r)) with h | h
    · rw [Int.max_eq_right h]
      exact List.mem_cons_of_mem _ ih
    · rw [Int.max_eq_left h]
      exact List.mem_cons_self
theorem mxI_le : ∀ {ns : List Int} {n : Int}, n ∈ ns → n ≤ mxI ns
  | [x], n, h => by
    rw [List.mem_singleton.mp h]
    exact Int.le_refl _
  | x :: y :: r, n, h => by
    rw [mxI]
    rcases List.mem_cons.mp h with rfl | h
    · omega
    · have := mxI_le h
      omega
theorem mxI_eq {ns : List Int} {m : Int} (h1 : m ∈ ns) (h2 : ∀ y, y ∈ ns → y ≤ m) : m = mxI ns := by
  have hn : ns ≠ [] := fun e => by
    rw [e] at h1
    cases h1
  have a := mxI_le h1
  have b := h2 _ (mxI_mem hn)
  omega
theorem mnI_mem : ∀ {ns : List Int}, ns ≠ [] → mnI ns ∈ ns
  | [], h => absurd rfl h
  | [x], _ => List.mem_singleton.mpr rfl
  | x :: y :: r, _ => by
    have ih := mnI_mem (ns := y :: r) (List.cons_ne_nil _ _)
    rw [mnI]
    rcases Int.le_total x (mnI (y :: r)) with h | h
    · rw [Int.min_eq_left h]
      exact List.mem_cons_self
    · rw [Int.min_eq_right h]
      exact List.mem_cons_of_mem _ ih
theorem mnI_le : ∀ {ns : List Int} {n : Int}, n ∈ ns → mnI ns ≤ n
  | [x], n, h => by
    rw [List.mem_singleton.mp h]
    exact Int.le_refl _
  | x :: y :: r, n, h => by
    rw [mnI]
    rcases List.mem_cons.mp h with rfl | h
    · omega
    · have := mnI_le h
      omega
theorem mnI_eq {ns : List Int} {m : Int} (h1 : m ∈ ns) (h2 : ∀ y, y ∈ ns → m ≤ y) : m = mnI ns := by
  have hn : ns ≠ [] := fun e => by
    rw [e] at h1
    cases h1
  have a := mnI_le h1
  have b := h2 _ (mnI_mem hn)
  omega
section
variable {K : PySem.W.Frag} {H : Hp} {Q : VK} {a : Addr} {ns : List Int} {xs : List V}
theorem i_maxF (h1 : SqL K H a (ns.map V.int)) (h0 : 0 < ns.length) (h : Q (.int (mxI ns)) H) : rMax K [.ref a] H Q := i_max h1 h0 fun m a b => by rw [mxI_eq a b]; exact h
theorem i_minF (h1 : SqL K H a (ns.map V.int)) (h0 : 0 < ns.length) (h : Q (.int (mnI ns)) H) : rMin K [.ref a] H Q := i_min h1 h0 fun m a b => by rw [mnI_eq a b]; exact h
theorem g_max (h : rMax K xs H Q) : rMax K xs H Q := h
theorem g_min (h : rMin K xs H Q) : rMin K xs H Q := h
end
end PB

namespace PB
open PySem PySem.Spec PyProof.Rows L2
/-! ### ValueError("..") as a value -/
section
variable {X : Cx} {x : PySem.Str} {p pos : Pos} {e : Expr} {ta : TE} {T N I : String}
theorem pe_excA {t : TA} {es : List Expr} (F : ExcB T N I) (hg : Gl X x) (hm : X.mg x = none) (hv : bootBuiltins x = some (.type T)) (ha : PA X (e :: es) t) (hn : x ≠ "__name__" := by decide) (hdb : (x == ("__debug__" : PySem.Str)) = false := by decide)
    (he : starEach (e :: es) X.env = (false, eval e X.env) :: starEach es X.env := by rfl) (hpl : (backTo pos (starEach es X.env)).any (·.1) = false := by rfl) :
    PE X (.Call (.Name x p) (e :: es) [] pos) (fun σ H Q => t σ H fun vs H1 => vs.length ≤ sizeLine ∧ ∀ a, H1 a = none → Q (.ref a) (upd H1 a (ExO (.type T) a))) := by
  refine ⟨fun pins s σ H Q J h => ?_⟩
  refine wpAny_Call_Name_kw (ld_blt J hg hm hv ?_ hn hdb)
  refine PyProof.Rows.callWith_type1 (thn (ha.run pos pins s σ H _ J h) fun us s1 hh => ?_) he hpl
  obtain ⟨vs, H1, I1, r1, q0, q1⟩ := hh
  obtain ⟨hp1, g1, d1, tk1, os1⟩ := s1
  refine wpAny_call_exc F.call (fun h' a mk => ?_) (Nat.le_trans (Nat.le_of_eq r1.length.symm) q0)
  have hn : H1 a = none := I1.hok.gone mk.new
  obtain ⟨t, ht, _, _⟩ := mk.there
  exact ⟨.ref a, upd H1 a (ExO (.type T) a), I1.laidN mk.keeps mk.new hn (exO_ok ht ⟨rfl, rfl⟩ rfl rfl rfl (show 4 < 6 by decide)), rfl, q1 a hn⟩
theorem pe_excS {m : PySem.Str} {j : Nat} {p2 : Pos} (F : ExcB T N I) (hg : Gl X x) (hm : X.mg x = none) (hv : bootBuiltins x = some (.type T)) (hn : x ≠ "__name__" := by decide) (hdb : (x == ("__debug__" : PySem.Str)) = false := by decide) :
    PE X (.Call (.Name x p) [.Constant (.str m) j p2] [] pos) (fun σ H Q => ∀ a, H a = none → Q (.ref a) (upd H a (ExO (.type T) a))) := ⟨fun pins s σ H Q J h =>
  (pe_excA F hg hm hv (pa_cons pe_str pa_nil) hn hdb rfl rfl).run pins s σ H Q J ⟨(by show 1 ≤ sizeLine; rw [sizeLine_eq]; omega), h⟩⟩
end
/-! isinstance of it -/
def rIsV : List V → Hp → VK → Prop := fun xs H Q => ∃ (a : Addr) (c : V) (u : Value) (b : Bool), xs = [.ref a, c] ∧ ClsV c u ∧ H a = some (ExO (.type "ValueError") a) ∧ (∀ K, PySem.W.kitOne K (.type "ValueError") u = some b) ∧ Q (.bl b) H
theorem call_isV {X : Cx} : CallR X (.builtin "isinstance") rIsV := by
  intro pins s σ H xs us Q I r h
  obtain ⟨a, c, u, b, rfl, k, ty, e, q⟩ := h
  obtain ⟨u1, u2, rfl, r1, r2⟩ := vals2 r
  have e2 := k.eq r2
  subst e2
  cases (show u1 = Value.ref a from r1)
  obtain ⟨⟨oe, vs, ho, hz, _⟩, _, _⟩ := I.hok a _ ty
  exact PySem.W.kia_one (PySem.W.kitx_bexc PySem.F.excAttr_ValueError (by kernel_rfl) (by kernel_rfl) (by decide +kernel)) I.kIn ⟨oe, ho, hz.1⟩ (e _) (fun z => nomatch z) fun tk => ⟨.bl b, H, I.tok tk, rfl, q⟩
/-- isinstance of what has a builtin kind, or of a ValueError -/
def rIsX (K : PySem.W.Frag) : List V → Hp → VK → Prop := fun xs H Q => rIsi K xs H Q ∨ rIsV xs H Q
theorem call_isX {X : Cx} : CallR X (.builtin "isinstance") (rIsX X.K) := fun pins s σ H xs us Q I r h => h.elim (call_isi pins s σ H xs us Q I r) (call_isV pins s σ H xs us Q I r)
theorem i_isV {H : Hp} {Q : VK} {a : Addr} {c : String} {b : Bool} (h : H a = some (ExO (.type "ValueError") a)) (hk : kitB "ValueError" c = some b) (k : Q (.bl b) H) : rIsV [.ref a, .ty c] H Q := ⟨a, .ty c, _, b, rfl, ClsV.ty c, h, fun _ => kit_ty hk, k⟩
/-! ### the program's own errors -/
inductive Er where
  | cut | many | place | number | text | command
  deriving DecidableEq
def Er.nm : Er → PySem.Str
  | .cut => "CutError" | .many => "NoMany" | .place => "NoPlace" | .number => "NoNumber" | .text => "NoText" | .command => "NoCommand"
/-- is a c a d -/
def Er.sub (c d : Er) : Bool := c == d || d == .cut
/-- an object of the class cls, of an exception -/
def EcO (cls : Value) (a : Addr) : HO := .ext fun h => ∃ (oe : Obj) (vs : Array Value), h.get? a = some oe ∧ Zc cls none oe ∧ oe.data = .fields vs
theorem ecO_ok {P : Program} {w : World} {H : Hp} {h : Heap} {a : Addr} {cls : Value} {oe : Obj} {vs : Array Value} (e : h.get? a = some oe) (z : Zc cls none oe) (d : oe.data = .fields vs) : ObjOk P w H h a (EcO cls a) :=
  ⟨⟨oe, vs, e, z, d⟩, ⟨oe, e⟩, fun _ _ ⟨o, v, q, r⟩ k => ⟨o, v, k o q, r⟩⟩
end PB

namespace PB
open PySem PySem.Spec PyProof.Rows L2
/-! ### typed values and what stands for them -/
/-- where lists, tuples, the script are to be read -/
structure Lk where
  l : Addr → List V → Prop
  t : Addr → List V → Prop
  s : Addr → List V → Prop
  d : Addr → List (Key × V) → Prop
  x : Addr → Prop
  e : Er → Addr → Prop
structure Lk.Le (S T : Lk) : Prop where
  l : ∀ a vs, S.l a vs → T.l a vs
  t : ∀ a vs, S.t a vs → T.t a vs
  s : ∀ a vs, S.s a vs → T.s a vs
  d : ∀ a kvs, S.d a kvs → T.d a kvs
  x : ∀ a, S.x a → T.x a
  e : ∀ c a, S.e c a → T.e c a
def lkA (K : PySem.W.Frag) (H : Hp) : Lk := ⟨fun a vs => H a = some (.lst vs), SqT K H, SqL K H, fun a kvs => H a = some (.dK kvs), fun a => H a = some (ExO (.type "ValueError") a), fun c a => H a = some (EcO (.ref (He.ga K c.nm)) a)⟩
def lkN (N : Hp) : Lk := ⟨fun a vs => N a = some (.lst vs), fun a vs => N a = some (.tup vs), fun a vs => N a = some (.lst vs), fun a kvs => N a = some (.dK kvs), fun a => N a = some (ExO (.type "ValueError") a), fun _ _ => False⟩
theorem Lk.Le.refl (S : Lk) : S.Le S := ⟨fun _ _ h => h, fun _ _ h => h, fun _ _ h => h, fun _ _ h => h, fun _ h => h, fun _ _ h => h⟩
theorem Lk.Le.trans {S T U : Lk} (a : S.Le T) (b : T.Le U) : S.Le U := ⟨fun x y h => b.l x y (a.l x y h), fun x y h => b.t x y (a.t x y h), fun x y h => b.s x y (a.s x y h), fun x y h => b.d x y (a.d x y h), fun x h => b.x x (a.x x h), fun c x h => b.e c x (a.e c x h)⟩
section
variable {K : PySem.W.Frag} {H H' N N' F F' B : Hp}
theorem lkA_mono (s : Same H H') : (lkA K H).Le (lkA K H') := ⟨fun a vs h => s _ _ h, fun a vs h => Same.tup s h, fun a vs h => s.seq h, fun a kvs h => s _ _ h, fun a h => s _ _ h, fun c a h => s _ _ h⟩
theorem lkN_mono (s : Same N N') : (lkN N).Le (lkN N') := ⟨fun a vs h => s _ _ h, fun a vs h => s _ _ h, fun a vs h => s _ _ h, fun a vs h => s _ _ h, fun a h => s _ _ h, fun _ _ h => h⟩
theorem lkNA (s : Same N H) : (lkN N).Le (lkA K H) := ⟨fun a vs h => s _ _ h, fun a vs h => SqT.of (s _ _ h), fun a vs h => SqL.of (s _ _ h), fun a kvs h => s _ _ h, fun a h => s _ _ h, fun _ _ h => h.elim⟩
end
def All2 {α : Type} (R : α → V → Prop) : List α → List V → Prop
  | [], [] => True
  | x :: xs, v :: vs => R x v ∧ All2 R xs vs
  | _, _ => False
section
variable {α : Type} {R R' : α → V → Prop}
theorem All2.mono (h : ∀ x v, R x v → R' x v) : ∀ {xs : List α} {vs : List V}, All2 R xs vs → All2 R' xs vs
  | [], [], _ => trivial
  | _ :: _, _ :: _, h2 => ⟨h _ _ h2.1, All2.mono h h2.2⟩
  | [], _ :: _, h2 => h2.elim
  | _ :: _, [], h2 => h2.elim
theorem All2.len : ∀ {xs : List α} {vs : List V}, All2 R xs vs → vs.length = xs.length
  | [], [], _ => rfl
  | _ :: _, _ :: _, h => congrArg (· + 1) (All2.len h.2)
  | [], _ :: _, h => h.elim
  | _ :: _, [], h => h.elim
theorem All2.get : ∀ {xs : List α} {vs : List V} {i : Nat} {x : α}, All2 R xs vs → xs[i]? = some x → ∃ v, vs[i]? = some v ∧ R x v
  | _ :: _, v :: _, 0, _, h, e => ⟨v, rfl, by cases e; exact h.1⟩
  | _ :: xs, _ :: vs, i + 1, x, h, e => All2.get (xs := xs) (vs := vs) (i := i) h.2 (by simpa using e)
  | [], _, _, _, _, e => by simp at e
  | _ :: _, [], _, _, h, _ => h.elim
theorem All2.getV {xs : List α} {vs : List V} {i : Nat} {v : V} (h : All2 R xs vs) (e : vs[i]? = some v) : ∃ x, xs[i]? = some x ∧ R x v := by
  have hl := (List.getElem?_eq_some_iff.mp e).1
  rw [h.len] at hl
  obtain ⟨w, hw, r⟩ := h.get (List.getElem?_eq_getElem hl)
  rw [e] at hw
  cases hw
  exact ⟨_, List.getElem?_eq_getElem hl, r⟩
theorem All2.app : ∀ {xs ys : List α} {vs ws : List V}, All2 R xs vs → All2 R ys ws → All2 R (xs ++ ys) (vs ++ ws)
  | [], _, [], _, _, h => h
  | _ :: _, _, _ :: _, _, h, h2 => ⟨h.1, All2.app h.2 h2⟩
  | [], _, _ :: _, _, h, _ => h.elim
  | _ :: _, _, [], _, h, _ => h.elim
theorem All2.one {x : α} {v : V} (h : R x v) : All2 R [x] [v] := ⟨h, trivial⟩
theorem All2.drop : ∀ {xs : List α} {vs : List V} (n : Nat), All2 R xs vs → All2 R (xs.drop n) (vs.drop n)
  | _, _, 0, h => h
  | [], [], _ + 1, _ => trivial
  | _ :: _, _ :: _, n + 1, h => All2.drop n h.2
  | [], _ :: _, _ + 1, h => h.elim
  | _ :: _, [], _ + 1, h => h.elim
theorem All2.take : ∀ {xs : List α} {vs : List V} (n : Nat), All2 R xs vs → All2 R (xs.take n) (vs.take n)
  | _, _, 0, _ => trivial
  | [], [], _ + 1, _ => trivial
  | _ :: _, _ :: _, n + 1, h => ⟨h.1, All2.take n h.2⟩
  | [], _ :: _, _ + 1, h => h.elim
  | _ :: _, [], _ + 1, h => h.elim
theorem All2.set : ∀ {xs : List α} {vs : List V} {x : α} {v : V} (n : Nat), All2 R xs vs → R x v → All2 R (xs.set n x) (vs.set n v)
  | [], [], _, _, _, _, _ => trivial
  | _ :: _, _ :: _, _, _, 0, h, r => ⟨r, h.2⟩
  | _ :: _, _ :: _, _, _, n + 1, h, r => ⟨h.1, All2.set n h.2 r⟩
  | [], _ :: _, _, _, _, h, _ => h.elim
  | _ :: _, [], _, _, _, h, _ => h.elim
theorem All2.rev : ∀ {xs : List α} {vs : List V}, All2 R xs vs → All2 R xs.reverse vs.reverse
  | [], [], _ => trivial
  | _ :: _, _ :: _, h => by
    rw [List.reverse_cons, List.reverse_cons]
    exact (All2.rev h.2).app (All2.one h.1)
  | [], _ :: _, h => h.elim
  | _ :: _, [], h => h.elim
theorem All2.rep {xs : List α} {vs : List V} (h : All2 R xs vs) : ∀ n : Nat, All2 R (List.replicate n xs).flatten (List.replicate n vs).flatten
  | 0 => trivial
  | n + 1 => by
    rw [List.replicate_succ, List.replicate_succ, List.flatten_cons, List.flatten_cons]
    exact h.app (All2.rep h n)
end

class Rp (α : Type) where
  rep : Lk → α → V → Prop
  mono : ∀ {S T : Lk} {x : α} {v : V}, S.Le T → rep S x v → rep T x v
instance : Rp Int := ⟨fun _ x v => v = .int x, fun _ h => h⟩
instance : Rp Bool := ⟨fun _ x v => v = .bl x, fun _ h => h⟩
instance : Rp Unit := ⟨fun _ _ v => v = .non, fun _ h => h⟩
instance : Rp PySem.Str := ⟨fun _ x v => v = .str x, fun _ h => h⟩
section
variable {α β γ δ : Type} [Rp α] [Rp β] [Rp γ] [Rp δ]
def repOpt (S : Lk) : Option α → V → Prop
  | none, v => v = .non
  | some x, v => Rp.rep S x v
instance : Rp (Option α) := ⟨repOpt, fun {S T x v} s h => by
  cases x with
  | none => exact h
  | some y => exact Rp.mono (α := α) s h⟩
instance : Rp (List α) := ⟨fun S xs v => ∃ a vs, v = .ref a ∧ S.l a vs ∧ All2 (Rp.rep S) xs vs, fun s ⟨a, vs, e, h, r⟩ => ⟨a, vs, e, s.l _ _ h, r.mono fun _ _ h => Rp.mono s h⟩⟩
instance : Rp (α × β) := ⟨fun S x v => ∃ a u w, v = .ref a ∧ S.t a [u, w] ∧ Rp.rep S x.1 u ∧ Rp.rep S x.2 w, fun s ⟨a, u, w, e, h, r1, r2⟩ => ⟨a, u, w, e, s.t _ _ h, Rp.mono s r1, Rp.mono s r2⟩⟩
/-- a tuple of three -/
structure T3 (α β γ : Type) where
  a : α
  b : β
  c : γ
  deriving DecidableEq
instance : Rp (T3 α β γ) := ⟨fun S x v => ∃ a u w z, v = .ref a ∧ S.t a [u, w, z] ∧ Rp.rep S x.a u ∧ Rp.rep S x.b w ∧ Rp.rep S x.c z, fun s ⟨a, u, w, z, e, h, r1, r2, r3⟩ => ⟨a, u, w, z, e, s.t _ _ h, Rp.mono s r1, Rp.mono s r2, Rp.mono s r3⟩⟩
/-- a tuple of one -/
structure T1 (α : Type) where
  a : α
  deriving DecidableEq
instance : Rp (T1 α) := ⟨fun S x v => ∃ a u, v = .ref a ∧ S.t a [u] ∧ Rp.rep S x.a u, fun s ⟨a, u, e, h, r1⟩ => ⟨a, u, e, s.t _ _ h, Rp.mono s r1⟩⟩
instance : Rp Er := ⟨fun S c v => ∃ a, v = .ref a ∧ S.e c a, fun s ⟨a, e, h⟩ => ⟨a, e, s.e _ _ h⟩⟩
/-- the script -/
structure Scr where
  l : List Int
instance : Rp Scr := ⟨fun S x v => ∃ a, v = .ref a ∧ S.s a (x.l.map V.int), fun s ⟨a, e, h⟩ => ⟨a, e, s.s _ _ h⟩⟩
end
theorem all2_int {S : Lk} : ∀ {xs : List Int} {vs : List V}, All2 (Rp.rep S) xs vs → vs = xs.map V.int
  | [], [], _ => rfl
  | x :: xs, v :: vs, h => by
    have e : v = .int x := h.1
    rw [List.map_cons, e, all2_int h.2]
  | [], _ :: _, h => h.elim
  | _ :: _, [], h => h.elim
theorem all2_ofInt {S : Lk} : ∀ (xs : List Int), All2 (Rp.rep S) xs (xs.map V.int)
  | [] => trivial
  | _ :: xs => ⟨rfl, all2_ofInt xs⟩

/-! ### what is known -/
def reg (t : Bool) (K : PySem.W.Frag) (N F : Hp) : Lk := match t with
  | true => lkN N
  | false => lkA K F
theorem reg_mono {t : Bool} {K : PySem.W.Frag} {N F N' F' : Hp} (h1 : Same N N') (h2 : Same F F') : (reg t K N F).Le (reg t K N' F') := by
  cases t
  · exact lkA_mono h2
  · exact lkN_mono h1
theorem reg_A {t : Bool} {K : PySem.W.Frag} {N F H : Hp} (h1 : Same N F) (h2 : Same F H) : (reg t K N F).Le (lkA K H) := by
  cases t
  · exact lkA_mono h2
  · exact lkNA (h1.trans h2)
structure Fact where
  P : PySem.W.Frag → Hp → Hp → Prop
  mono : ∀ {K N F N' F'}, Same N N' → Same F F' → P K N F → P K N' F'
def fc (t : Bool) {α : Type} [Rp α] (x : α) (v : V) : Fact := ⟨fun K N F => Rp.rep (reg t K N F) x v, fun h1 h2 h => Rp.mono (reg_mono h1 h2) h⟩
structure Own where
  a : Addr
  P : PySem.W.Frag → Hp → Hp → HO → Prop
  mono : ∀ {K N F N' F' o}, Same N N' → Same F F' → P K N F o → P K N' F' o
def oL (t : Bool) {α : Type} [Rp α] (a : Addr) (xs : List α) : Own :=
  ⟨a, fun K N F o => ∃ vs, o = .lst vs ∧ All2 (Rp.rep (reg t K N F)) xs vs, fun h1 h2 ⟨vs, e, h⟩ => ⟨vs, e, h.mono fun _ _ h => Rp.mono (reg_mono h1 h2) h⟩⟩
structure WdI (K : PySem.W.Frag) (B : Hp) (ctx : List Fact) (L : List Own) (H N F : Hp) : Prop where
  bF : Same B F
  nF : Same N F
  sep : ∀ a u, N a = some u → B a = none
  fH : Same F H
  facts : ∀ f ∈ ctx, f.P K N F
  at_ : ∀ o ∈ L, ∃ h, H o.a = some h ∧ o.P K N F h
  off : ∀ o ∈ L, F o.a = none
  nd : (L.map (·.a)).Nodup
def Wd (K : PySem.W.Frag) (B : Hp) (ctx : List Fact) (L : List Own) (H : Hp) : Prop := ∃ N F, WdI K B ctx L H N F
theorem setMem' {L : List Own} {j : Nat} {o o' q : Own} (nd : (L.map (·.a)).Nodup) (hj : L[j]? = some o) (hq : q ∈ L.set j o') : q = o' ∨ (q ∈ L ∧ q.a ≠ o.a) := by
  induction L generalizing j with
  | nil => simp at hj
  | cons y L ih =>
    rw [List.map_cons] at nd
    cases j with
    | zero =>
      have e : y = o := by simpa using hj
      rw [List.set_cons_zero] at hq
      rcases List.mem_cons.mp hq with rfl | hq
      · exact .inl rfl
      · refine .inr ⟨List.mem_cons_of_mem _ hq, fun e2 => (List.nodup_cons.mp nd).1 ?_⟩
        rw [e, ← e2]
        exact List.mem_map_of_mem hq
    | succ j =>
      rw [List.set_cons_succ] at hq
      rcases List.mem_cons.mp hq with rfl | hq
      · refine .inr ⟨List.mem_cons_self, fun e2 => (List.nodup_cons.mp nd).1 ?_⟩
        rw [e2]
        exact List.mem_map_of_mem (f := (·.a)) (List.mem_of_getElem? (show L[j]? = some o by simpa using hj))
      · rcases ih (List.nodup_cons.mp nd).2 (by simpa using hj) hq with r | ⟨r1, r2⟩
        · exact .inl r
        · exact .inr ⟨List.mem_cons_of_mem _ r1, r2⟩
/-- known of a value; of a list's items -/
def Kn (K : PySem.W.Frag) (ctx : List Fact) (t : Bool) {α : Type} [Rp α] (x : α) (v : V) : Prop := ∀ N F, Same N F → (∀ f ∈ ctx, f.P K N F) → Rp.rep (reg t K N F) x v
def KnL (K : PySem.W.Frag) (ctx : List Fact) (t : Bool) {α : Type} [Rp α] (xs : List α) (vs : List V) : Prop := ∀ N F, Same N F → (∀ f ∈ ctx, f.P K N F) → All2 (Rp.rep (reg t K N F)) xs vs
/-- a list to be read; a list proper -/
def Ls (K : PySem.W.Frag) (ctx : List Fact) (L : List Own) (t : Bool) {α : Type} [Rp α] (xs : List α) (v : V) : Prop := ∀ B H N F, WdI K B ctx L H N F → ∃ a vs, v = .ref a ∧ SqL K H a vs ∧ All2 (Rp.rep (reg t K N F)) xs vs
def Lx (K : PySem.W.Frag) (ctx : List Fact) (L : List Own) (t : Bool) {α : Type} [Rp α] (xs : List α) (v : V) : Prop := ∀ B H N F, WdI K B ctx L H N F → ∃ a vs, v = .ref a ∧ H a = some (.lst vs) ∧ All2 (Rp.rep (reg t K N F)) xs vs
/-- any value to be read in the whole heap; with the object at a left out -/
def Ar (K : PySem.W.Frag) (ctx : List Fact) (L : List Own) {α : Type} [Rp α] (x : α) (v : V) : Prop := ∀ B H N F, WdI K B ctx L H N F → Rp.rep (lkA K H) x v
def ArD (K : PySem.W.Frag) (ctx : List Fact) (L : List Own) (a : Addr) {α : Type} [Rp α] (x : α) (v : V) : Prop := ∀ B H N F, WdI K B ctx L H N F → Rp.rep (lkA K (del H a)) x v
section
variable {K : PySem.W.Frag} {B H H' N F : Hp} {ctx ctx' : List Fact} {L L' : List Own} {t : Bool} {α β γ : Type} [Rp α] [Rp β] [Rp γ] {x : α} {y : β} {z : γ} {xs : List α} {v w u : V} {vs : List V} {a p : Addr} {f : Fact} {o : Own}
theorem Kn.int {i : Int} : Kn K ctx t i (.int i) := fun _ _ _ _ => rfl
theorem Kn.bl {i : Bool} : Kn K ctx t i (.bl i) := fun _ _ _ _ => rfl
theorem Kn.str {i : PySem.Str} : Kn K ctx t i (.str i) := fun _ _ _ _ => rfl
theorem Kn.unit : Kn K ctx t () .non := fun _ _ _ _ => rfl
theorem Kn.none : Kn K ctx t (none : Option α) .non := fun _ _ _ _ => rfl
theorem Kn.some (h : Kn K ctx t x v) : Kn K ctx t (some x) v := fun N F s q => h N F s q
theorem Kn.at (i : Nat) (h : ctx[i]? = Option.some (fc t x v)) : Kn K ctx t x v := fun N F s q => q _ (List.mem_of_getElem? h)
theorem Kn.weak (h : Kn K ctx true x v) : Kn K ctx false x v := fun N F s q => Rp.mono (lkNA s) (h N F s q)
theorem KnL.nil : KnL K ctx t ([] : List α) [] := fun _ _ _ _ => trivial
theorem KnL.cons (h : Kn K ctx t x v) (h2 : KnL K ctx t xs vs) : KnL K ctx t (x :: xs) (v :: vs) := fun N F s q => ⟨h N F s q, h2 N F s q⟩
theorem Lx.ls (h : Lx K ctx L t xs v) : Ls K ctx L t xs v := fun B H N F W => by
  obtain ⟨a, vs, e, h1, h2⟩ := h B H N F W
  exact ⟨a, vs, e, SqL.of h1, h2⟩
theorem reg_l {vs : List V} (h1 : Same N F) (h2 : Same F H) (h : (reg t K N F).l a vs) : H a = some (.lst vs) := (reg_A h1 h2).l _ _ h
theorem Lx.kn (h : Kn K ctx t xs v) : Lx K ctx L t xs v := fun B H N F W => by
  obtain ⟨a, vs, e, h1, h2⟩ := h N F W.nF W.facts
  exact ⟨a, vs, e, reg_l W.nF W.fH h1, h2⟩
theorem Lx.own (j : Nat) (h : L[j]? = some (oL t a xs)) : Lx K ctx L t xs (.ref a) := fun B H N F W => by
  obtain ⟨o, h1, vs, rfl, h2⟩ := W.at_ _ (List.mem_of_getElem? h)
  exact ⟨a, vs, rfl, h1, h2⟩
theorem Ls.scr {x : Scr} (h : Kn K ctx false x v) : Ls K ctx L t x.l v := fun B H N F W => by
  obtain ⟨a, e, h1⟩ := h N F W.nF W.facts
  exact ⟨a, _, e, W.fH.seq h1, all2_ofInt _⟩
theorem Ar.kn (h : Kn K ctx t x v) : Ar K ctx L x v := fun B H N F W => Rp.mono (reg_A W.nF W.fH) (h N F W.nF W.facts)
theorem Ar.lx (h : Lx K ctx L t xs v) : Ar K ctx L xs v := fun B H N F W => by
  obtain ⟨a, vs, e, h1, h2⟩ := h B H N F W
  exact ⟨a, vs, e, h1, h2.mono fun _ _ q => Rp.mono (reg_A W.nF W.fH) q⟩
theorem toDel (s : Same F H) (h : F a = Option.none) : Same F (del H a) := fun b u e => by
  rw [del_ne (fun z => by rw [z, h] at e; cases e)]
  exact s b u e
theorem ArD.kn {ys : List β} {t' : Bool} (j : Nat) (hj : L[j]? = some (oL t' a ys)) (h : Kn K ctx t x v) : ArD K ctx L a x v := fun B H N F W =>
  Rp.mono (reg_A W.nF (toDel W.fH (W.off _ (List.mem_of_getElem? hj)))) (h N F W.nF W.facts)
theorem ArD.own {ys : List β} {b : Addr} {t' : Bool} (j : Nat) (hj : L[j]? = some (oL t' a ys)) (i : Nat) (hi : L[i]? = some (oL t b xs)) (n : i ≠ j) : ArD K ctx L a xs (.ref b) := fun B H N F W => by
  obtain ⟨o, h1, vs, rfl, h2⟩ := W.at_ _ (List.mem_of_getElem? hi)
  have hn : b ≠ a := fun e => by
    have ha := List.getElem?_map (f := (·.a)) (l := L) (i := i)
    have hp := List.getElem?_map (f := (·.a)) (l := L) (i := j)
    rw [hi] at ha
    rw [hj] at hp
    have ha' : (L.map (·.a))[i]? = some b := ha
    have hp' : (L.map (·.a))[j]? = some a := hp
    rw [← e] at hp'
    exact n (nd_ix W.nd ha' hp')
  exact ⟨b, vs, rfl, (del_ne hn).trans h1, h2.mono fun _ _ q => Rp.mono (reg_A W.nF (toDel W.fH (W.off _ (List.mem_of_getElem? hj)))) q⟩

/-! ### worlds -/
theorem Wd.start (H : Hp) : Wd K H [] [] H := ⟨fun _ => none, H, Same.refl H, (fun _ _ h => nomatch h), (fun _ _ h => nomatch h), Same.refl H, (fun _ h => nomatch h), (fun _ h => nomatch h), (fun _ h => nomatch h), List.nodup_nil⟩
/-- a fact of what stood at the beginning -/
theorem Wd.arg (W : Wd K B ctx L H) (r : Rp.rep (lkA K B) x v) : Wd K B (fc false x v :: ctx) L H := by
  obtain ⟨N, F, W⟩ := W
  refine ⟨N, F, W.bF, W.nF, W.sep, W.fH, fun f hf => ?_, W.at_, W.off, W.nd⟩
  rcases List.mem_cons.mp hf with rfl | hf
  · exact Rp.mono (lkA_mono W.bF) r
  · exact W.facts f hf
/-- the one list that the def may change -/
theorem Wd.mut {xs : List α} (h : H a = some (.lst vs)) (r : All2 (Rp.rep (lkN fun _ => none)) xs vs) : Wd K (del H a) [] [oL true a xs] H := by
  refine ⟨fun _ => none, del H a, Same.refl _, (fun _ _ h => nomatch h), (fun _ _ h => nomatch h), Same.del, (fun _ h => nomatch h), fun o ho => ?_, fun o ho => ?_, by simp⟩
  · obtain rfl := List.mem_singleton.mp ho
    exact ⟨_, h, vs, rfl, r⟩
  · obtain rfl := List.mem_singleton.mp ho
    exact del_same
theorem Wd.add (W : Wd K B ctx L H) (h : ∀ N F, WdI K B ctx L H N F → f.P K N F) : Wd K B (f :: ctx) L H := by
  obtain ⟨N, F, W⟩ := W
  refine ⟨N, F, W.bF, W.nF, W.sep, W.fH, fun g hg => ?_, W.at_, W.off, W.nd⟩
  rcases List.mem_cons.mp hg with rfl | hg
  · exact h N F W
  · exact W.facts g hg
theorem Wd.know (W : Wd K B ctx L H) (h : Kn K ctx t x v) : Wd K B (fc t x v :: ctx) L H := W.add fun N F W => h N F W.nF W.facts
/-- fewer facts -/
theorem Wd.sub (W : Wd K B ctx L H) (h : ∀ f ∈ ctx', f ∈ ctx) : Wd K B ctx' L H := by
  obtain ⟨N, F, W⟩ := W
  exact ⟨N, F, W.bF, W.nF, W.sep, W.fH, fun f hf => W.facts f (h f hf), W.at_, W.off, W.nd⟩
def selB {τ : Type} : List Nat → List τ → Option (List τ)
  | [], _ => some []
  | i :: is, l => match l[i]?, selB is l with
    | some x, some xs => some (x :: xs)
    | _, _ => none
theorem selB_mem {τ : Type} : ∀ {is : List Nat} {l m : List τ}, selB is l = some m → ∀ x ∈ m, ∃ i ∈ is, l[i]? = some x
  | [], _, _, h, x, hx => by
    cases h
    cases hx
  | i :: is, l, m, h, x, hx => by
    unfold selB at h
    cases e : l[i]? with
    | none => rw [e] at h; cases h
    | some y =>
      cases e2 : selB is l with
      | none => rw [e, e2] at h; cases h
      | some ys =>
        rw [e, e2] at h
        cases h
        rcases List.mem_cons.mp hx with rfl | hx
        · exact ⟨i, List.mem_cons_self, e⟩
        · obtain ⟨k, hk, q⟩ := selB_mem e2 x hx
          exact ⟨k, List.mem_cons_of_mem _ hk, q⟩
theorem Wd.sel (W : Wd K B ctx L H) (is : List Nat) (h : selB is ctx = some ctx') : Wd K B ctx' L H :=
  W.sub fun f hf => let ⟨_, _, q⟩ := selB_mem h f hf; List.mem_of_getElem? q
theorem Wd.drop (W : Wd K B ctx L H) (n : Nat) (h : ctx.drop n = ctx') : Wd K B ctx' L H := W.sub fun f hf => by
  rw [← h] at hf
  exact List.mem_of_mem_drop hf
theorem selB_nd {l m : List Own} : ∀ {is : List Nat} {m : List Own}, selB is l = some m → (l.map (·.a)).Nodup → is.Nodup → (m.map (·.a)).Nodup
  | [], m, h, _, _ => by
    cases h
    exact List.nodup_nil
  | i :: is, m, h, nd, ni => by
    unfold selB at h
    cases e : l[i]? with
    | none => rw [e] at h; cases h
    | some y =>
      cases e2 : selB is l with
      | none => rw [e, e2] at h; cases h
      | some ys =>
        rw [e, e2] at h
        cases h
        rw [List.map_cons]
        refine List.nodup_cons.mpr ⟨fun hm => ?_, selB_nd (m := ys) e2 nd (List.nodup_cons.mp ni).2⟩
        obtain ⟨q, hq, eq⟩ := List.mem_map.mp hm
        obtain ⟨k, hk, ek⟩ := selB_mem e2 q hq
        have ha := List.getElem?_map (f := (·.a)) (l := l) (i := i)
        have hp := List.getElem?_map (f := (·.a)) (l := l) (i := k)
        rw [e] at ha
        rw [ek] at hp
        have ha' : (l.map (·.a))[i]? = some y.a := ha
        have hp' : (l.map (·.a))[k]? = some q.a := hp
        rw [eq] at hp'
        have := nd_ix nd ha' hp'
        rw [this] at ni
        exact (List.nodup_cons.mp ni).1 hk
theorem Wd.selO (W : Wd K B ctx L H) (is : List Nat) (h : selB is L = some L') (n : is.Nodup := by decide) : Wd K B ctx L' H := by
  obtain ⟨N, F, W⟩ := W
  have hm : ∀ o ∈ L', o ∈ L := fun o ho => let ⟨_, _, q⟩ := selB_mem h o ho; List.mem_of_getElem? q
  exact ⟨N, F, W.bF, W.nF, W.sep, W.fH, W.facts, fun o ho => W.at_ o (hm o ho), fun o ho => W.off o (hm o ho), selB_nd (m := L) h W.nd n⟩
/-- another heap in which all that is known stands -/
theorem Wd.same (W : Wd K B ctx L H) (s : Same H H') : Wd K B ctx L H' := by
  obtain ⟨N, F, W⟩ := W
  exact ⟨N, F, W.bF, W.nF, W.sep, W.fH.trans s, W.facts, fun o ho => let ⟨h, e, q⟩ := W.at_ o ho; ⟨h, s _ _ e, q⟩, W.off, W.nd⟩
/-- a new object, one's own -/
theorem Wd.newO (W : WdI K B ctx L H N F) (hp : H p = Option.none) (k : HO) (ea : o.a = p) (h : o.P K N F k) : Wd K B ctx (o :: L) (upd H p k) := by
  refine ⟨N, F, W.bF, W.nF, W.sep, fun b u e => ?_, W.facts, fun q hq => ?_, fun q hq => ?_, ?_⟩
  · rw [upd_ne (ne_of_none (W.fH b u e) hp)]
    exact W.fH b u e
  · rcases List.mem_cons.mp hq with rfl | hq
    · exact ⟨k, by rw [ea]; exact upd_same, h⟩
    · obtain ⟨u, e, r⟩ := W.at_ q hq
      exact ⟨u, by rw [upd_ne (ne_of_none e hp)]; exact e, r⟩
  · rcases List.mem_cons.mp hq with rfl | hq
    · rw [ea]
      exact W.fH.free hp
    · exact W.off q hq
  · rw [List.map_cons]
    refine List.nodup_cons.mpr ⟨fun hm => ?_, W.nd⟩
    obtain ⟨q, hq, e⟩ := List.mem_map.mp hm
    obtain ⟨u, e2, r⟩ := W.at_ q hq
    rw [e, ea, hp] at e2
    cases e2
theorem Wd.newL (W : WdI K B ctx L H N F) (hp : H p = Option.none) (h : All2 (Rp.rep (reg t K N F)) xs vs) : Wd K B ctx (oL t p xs :: L) (upd H p (.lst vs)) :=
  Wd.newO W hp _ rfl ⟨vs, rfl, h⟩
/-- no longer changed -/
theorem Wd.frz (W : Wd K B ctx (oL t p xs :: L) H) : Wd K B (fc t xs (.ref p) :: ctx) L H := by
  obtain ⟨N, F, W⟩ := W
  obtain ⟨k, hk, vs, rfl, hr⟩ := W.at_ _ List.mem_cons_self
  have hF : F p = Option.none := W.off _ List.mem_cons_self
  have hN : N p = Option.none := W.nF.free hF
  have hB : B p = Option.none := W.bF.free hF
  have sN : Same N (upd N p (.lst vs)) := fun b u e => by
    rw [upd_ne (ne_of_none e hN)]
    exact e
  have sF : Same F (upd F p (.lst vs)) := fun b u e => by
    rw [upd_ne (ne_of_none e hF)]
    exact e
  refine ⟨upd N p (.lst vs), upd F p (.lst vs), W.bF.trans sF, fun b u e => ?_, fun b u e => ?_, fun b u e => ?_, fun f hf => ?_, fun o ho => ?_, fun o ho => ?_, ?_⟩
  · by_cases h : b = p
    · rw [h, upd_same] at e ⊢
      exact e
    · rw [upd_ne h] at e ⊢
      exact W.nF b u e
  · by_cases h : b = p
    · rw [h]
      exact hB
    · rw [upd_ne h] at e
      exact W.sep b u e
  · by_cases h : b = p
    · rw [h, upd_same] at e
      rw [h, ← e]
      exact hk
    · rw [upd_ne h] at e
      exact W.fH b u e
  · rcases List.mem_cons.mp hf with rfl | hf
    · refine ⟨p, vs, rfl, ?_, hr.mono fun _ _ q => Rp.mono (reg_mono sN sF) q⟩
      cases t
      · exact upd_same
      · exact upd_same
    · exact f.mono sN sF (W.facts f hf)
  · obtain ⟨u, e, r⟩ := W.at_ o (List.mem_cons_of_mem _ ho)
    exact ⟨u, e, o.mono sN sF r⟩
  · have nd := W.nd
    rw [List.map_cons] at nd
    have hne : o.a ≠ p := fun e => (List.nodup_cons.mp nd).1 (by
      have := List.mem_map_of_mem (f := (·.a)) ho
      rw [e] at this
      exact this)
    rw [upd_ne hne]
    exact W.off o (List.mem_cons_of_mem _ ho)
  · have nd := W.nd
    rw [List.map_cons] at nd
    exact (List.nodup_cons.mp nd).2
/-- a new tuple -/
theorem Wd.newT (W : WdI K B ctx L H N F) (hp : H p = Option.none) (t : Bool) (h : ∀ N' F', Same N N' → Same F F' → (reg t K N' F').t p vs → f.P K N' F') : Wd K B (f :: ctx) L (upd H p (.tup vs)) := by
  have hF : F p = Option.none := W.fH.free hp
  have hN : N p = Option.none := W.nF.free hF
  have hB : B p = Option.none := W.bF.free hF
  have sN : Same N (upd N p (.tup vs)) := fun b u e => by
    rw [upd_ne (ne_of_none e hN)]
    exact e
  have sF : Same F (upd F p (.tup vs)) := fun b u e => by
    rw [upd_ne (ne_of_none e hF)]
    exact e
  refine ⟨upd N p (.tup vs), upd F p (.tup vs), W.bF.trans sF, fun b u e => ?_, fun b u e => ?_, fun b u e => ?_, fun f hf => ?_, fun o ho => ?_, fun o ho => ?_, W.nd⟩
  · by_cases h : b = p
    · rw [h, upd_same] at e ⊢
      exact e
    · rw [upd_ne h] at e ⊢
      exact W.nF b u e
  · by_cases h : b = p
    · rw [h]
      exact hB
    · rw [upd_ne h] at e
      exact W.sep b u e
  · by_cases h : b = p
    · rw [h, upd_same] at e ⊢
      exact e
    · rw [upd_ne h] at e ⊢
      exact W.fH b u e
  · rcases List.mem_cons.mp hf with rfl | hf
    · refine h _ _ sN sF ?_
      cases t
      · exact SqT.of upd_same
      · exact upd_same
    · exact f.mono sN sF (W.facts f hf)
  · obtain ⟨u, e, r⟩ := W.at_ o ho
    exact ⟨u, by rw [upd_ne (ne_of_none e hp)]; exact e, o.mono sN sF r⟩
  · obtain ⟨u, e, r⟩ := W.at_ o ho
    rw [upd_ne (ne_of_none e hp)]
    exact W.off o ho
/-- one's own object changed -/
theorem Wd.put (W : WdI K B ctx L H N F) (j : Nat) {o' : Own} (hj : L[j]? = some o) (ea : o'.a = o.a) (k : HO) (h : o'.P K N F k) : Wd K B ctx (L.set j o') (upd H o.a k) := by
  have hoff := W.off _ (List.mem_of_getElem? hj)
  have key : ∀ q ∈ L.set j o', q = o' ∨ (q ∈ L ∧ q.a ≠ o.a) := fun q hq => setMem' W.nd hj hq
  refine ⟨N, F, W.bF, W.nF, W.sep, fun b u e => ?_, W.facts, fun q hq => ?_, fun q hq => ?_, ?_⟩
  · rw [upd_ne (fun z => by rw [z, hoff] at e; cases e)]
    exact W.fH b u e
  · rcases key q hq with rfl | ⟨h1, h2⟩
    · rw [ea]
      exact ⟨k, upd_same, h⟩
    · rw [upd_ne h2]
      exact W.at_ q h1
  · rcases key q hq with rfl | ⟨h1, h2⟩
    · rw [ea]
      exact hoff
    · exact W.off q h1
  · have e : (L.set j o').map (·.a) = L.map (·.a) := by
      rw [List.map_set, ea]
      refine List.ext_getElem? fun i => ?_
      rw [List.getElem?_set]
      by_cases hi : j = i
      · subst hi
        have := (List.getElem?_eq_some_iff.mp hj).1
        rw [if_pos rfl, if_pos (by rw [List.length_map]; exact this), List.getElem?_map, hj]
        rfl
      · rw [if_neg hi]
    rw [e]
    exact W.nd

/-! ### what a def gives back -/
def Res (K : PySem.W.Frag) (H : Hp) {α : Type} [Rp α] (r : α) (v : V) (H' : Hp) : Prop := ∃ R, Same H H' ∧ Same R H' ∧ (∀ a u, R a = some u → H a = none) ∧ Rp.rep (lkN R) r v
/-- with the list at a changed -/
def Res1 (K : PySem.W.Frag) (H : Hp) (a : Addr) {α β : Type} [Rp α] [Rp β] (r : α × List β) (v : V) (H' : Hp) : Prop := ∃ R, But [a] H H' ∧ Same R H' ∧ (∀ a u, R a = some u → H a = none) ∧ Rp.rep (lkN R) r.1 v ∧ ∃ vs, H' a = some (.lst vs) ∧ All2 (Rp.rep (lkN fun _ => none)) r.2 vs
theorem Wd.res (W : Wd K B ctx L H) (h : Kn K ctx true x v) : Res K B x v H := by
  obtain ⟨N, F, W⟩ := W
  exact ⟨N, W.bF.trans W.fH, W.nF.trans W.fH, W.sep, h N F W.nF W.facts⟩
/-- items that stand for themselves -/
class Flat (β : Type) [Rp β] : Prop where
  h : ∀ (S T : Lk) (x : β) (v : V), Rp.rep S x v → Rp.rep T x v
instance : Flat Int := ⟨fun _ _ _ _ h => h⟩
instance : Flat Bool := ⟨fun _ _ _ _ h => h⟩
theorem Wd.res1 [Flat β] {ys : List β} (W : Wd K (del B a) ctx L H) (hB : B a ≠ Option.none) (j : Nat) (hj : L[j]? = some (oL t a ys)) (h : Kn K ctx true x v) : Res1 K B a (x, ys) v H := by
  obtain ⟨N, F, W⟩ := W
  obtain ⟨k, hk, vs, rfl, hr⟩ := W.at_ _ (List.mem_of_getElem? hj)
  have hoff : F a = Option.none := W.off _ (List.mem_of_getElem? hj)
  refine ⟨N, But.of_del (W.bF.trans W.fH), W.nF.trans W.fH, fun b u e => ?_, h N F W.nF W.facts, vs, hk, hr.mono fun _ _ q => Flat.h _ _ _ _ q⟩
  have h1 := W.sep b u e
  by_cases hb : b = a
  · rw [hb] at e
    have := W.nF a u e
    rw [hoff] at this
    cases this
  · rwa [del_ne hb] at h1
def join (F R : Hp) : Hp := fun a => match F a with
  | some u => some u
  | none => R a
theorem join_l {F R : Hp} : Same F (join F R) := fun a u e => by
  unfold join
  rw [e]
theorem join_r {F R : Hp} (h : ∀ a u, R a = some u → F a = none) : Same R (join F R) := fun a u e => by
  unfold join
  rw [h a u e]
  exact e
theorem join_or {F R : Hp} {a : Addr} {u : HO} (h : join F R a = some u) : F a = some u ∨ R a = some u := by
  unfold join at h
  cases e : F a with
  | some w => rw [e] at h; exact .inl h
  | none => rw [e] at h; exact .inr h
/-- what is new behind a call joins what stands -/
theorem Wd.joinI {R : Hp} (W : WdI K B ctx L H N F) (s : But (L.map (·.a)) H H') (sR : Same R H') (hR : ∀ a u, R a = some u → H a = Option.none) (hL : ∀ o ∈ L', (∃ h, H' o.a = some h ∧ ∀ N' F', Same N N' → Same F F' → o.P K N' F' h)) (ea : L'.map (·.a) = L.map (·.a)) :
    WdI K B ctx L' H' (join N R) (join F R) := by
  have rF : ∀ a u, R a = some u → F a = Option.none := fun a u e => W.fH.free (hR a u e)
  have rN : ∀ a u, R a = some u → N a = Option.none := fun a u e => W.nF.free (rF a u e)
  have sN : Same N (join N R) := join_l
  have sF : Same F (join F R) := join_l
  have offL : ∀ o ∈ L', o.a ∈ L.map (·.a) := fun o ho => by
    rw [← ea]
    exact List.mem_map_of_mem ho
  refine ⟨W.bF.trans sF, fun b u e => ?_, fun b u e => ?_, fun b u e => ?_, fun f hf => f.mono sN sF (W.facts f hf), fun o ho => ?_, fun o ho => ?_, by rw [ea]; exact W.nd⟩
  · rcases join_or e with e | e
    · exact sF _ _ (W.nF b u e)
    · exact join_r rF _ _ e
  · rcases join_or e with e | e
    · exact W.sep b u e
    · exact W.bF.free (rF b u e)
  · rcases join_or e with e | e
    · refine s b u (fun hm => ?_) (W.fH b u e)
      obtain ⟨q, hq, eq⟩ := List.mem_map.mp hm
      have := W.off q hq
      rw [eq, e] at this
      cases this
    · exact sR b u e
  · obtain ⟨h, e, r⟩ := hL o ho
    exact ⟨h, e, r _ _ sN sF⟩
  · obtain ⟨q, hq, eq⟩ := List.mem_map.mp (offL o ho)
    rw [← eq]
    cases e : join F R q.a with
    | none => rfl
    | some u =>
      exfalso
      rcases join_or e with e | e
      · have := W.off q hq
        rw [e] at this
        cases this
      · obtain ⟨h, e2, _⟩ := W.at_ q hq
        have := hR _ _ e
        rw [e2] at this
        cases this
theorem Wd.call (W : Wd K B ctx L H) (r : Res K H x v H') : Wd K B (fc true x v :: ctx) L H' := by
  obtain ⟨N, F, W⟩ := W
  obtain ⟨R, s, sR, hR, hr⟩ := r
  have J := Wd.joinI (L' := L) W (fun b u _ e => s b u e) sR hR (fun o ho => let ⟨h, e, q⟩ := W.at_ o ho; ⟨h, s _ _ e, fun N' F' a b => o.mono a b q⟩) rfl
  refine ⟨_, _, J.bF, J.nF, J.sep, J.fH, fun f hf => ?_, J.at_, J.off, J.nd⟩
  rcases List.mem_cons.mp hf with rfl | hf
  · exact Rp.mono (lkN_mono (join_r fun a u e => W.nF.free (W.fH.free (hR a u e)))) hr
  · exact J.facts f hf
/-- the list that is told as one's own -/
theorem Wd.callO [Flat α] (W : Wd K B ctx L H) (r : Res K H xs v H') : ∃ p, v = .ref p ∧ Wd K B ctx (oL true p xs :: L) H' := by
  obtain ⟨N, F, W⟩ := W
  obtain ⟨R, s, sR, hR, p, vs, e, hl, hr⟩ := r
  have hn : H p = Option.none := hR p _ hl
  have J := Wd.joinI (L' := L) (R := del R p) W (fun b u _ e => s b u e) (Same.del.trans sR) (fun a u e => hR a u (Same.del a u e)) (fun o ho => let ⟨h, e, q⟩ := W.at_ o ho; ⟨h, s _ _ e, fun N' F' a b => o.mono a b q⟩) rfl
  refine ⟨p, e, _, _, J.bF, J.nF, J.sep, J.fH, J.facts, fun o ho => ?_, fun o ho => ?_, ?_⟩
  · rcases List.mem_cons.mp ho with rfl | ho
    · exact ⟨_, sR _ _ hl, vs, rfl, hr.mono fun _ _ q => Flat.h _ _ _ _ q⟩
    · exact J.at_ o ho
  · rcases List.mem_cons.mp ho with rfl | ho
    · show join F (del R p) p = none
      unfold join
      rw [W.fH.free hn]
      exact del_same
    · exact J.off o ho
  · rw [List.map_cons]
    refine List.nodup_cons.mpr ⟨fun hm => ?_, J.nd⟩
    obtain ⟨q, hq, eq⟩ := List.mem_map.mp hm
    obtain ⟨u, e2, _⟩ := W.at_ q hq
    rw [eq] at e2
    rw [show (oL true p xs).a = p from rfl, hn] at e2
    cases e2
theorem Wd.call1 [Flat β] {ys ys' : List β} {t' : Bool} (W : Wd K B ctx L H) (j : Nat) (hj : L[j]? = some (oL t' a ys)) (r : Res1 K H a (x, ys') v H') : Wd K B (fc true x v :: ctx) (L.set j (oL t' a ys')) H' := by
  obtain ⟨N, F, W⟩ := W
  obtain ⟨R, s, sR, hR, hr, vs, hv, hs⟩ := r
  have am : a ∈ L.map (·.a) := List.mem_map_of_mem (f := (·.a)) (List.mem_of_getElem? hj)
  have ea : (L.set j (oL t' a ys')).map (·.a) = L.map (·.a) := by
    rw [List.map_set]
    refine List.ext_getElem? fun i => ?_
    rw [List.getElem?_set]
    by_cases hi : j = i
    · subst hi
      have := (List.getElem?_eq_some_iff.mp hj).1
      rw [if_pos rfl, if_pos (by rw [List.length_map]; exact this), List.getElem?_map, hj]
      rfl
    · rw [if_neg hi]
  have J := Wd.joinI (L' := L.set j (oL t' a ys')) W (fun b u n e => s b u (fun z => n (by rw [List.mem_singleton.mp z]; exact am)) e) sR hR (fun o ho => ?_) ea
  · refine ⟨_, _, J.bF, J.nF, J.sep, J.fH, fun f hf => ?_, J.at_, J.off, J.nd⟩
    rcases List.mem_cons.mp hf with rfl | hf
    · exact Rp.mono (lkN_mono (join_r fun a u e => W.nF.free (W.fH.free (hR a u e)))) hr
    · exact J.facts f hf
  · rcases setMem' W.nd hj ho with rfl | ⟨h1, h2⟩
    · exact ⟨_, hv, fun N' F' _ _ => ⟨vs, rfl, hs.mono fun _ _ q => Flat.h _ _ _ _ q⟩⟩
    · obtain ⟨h, e, q⟩ := W.at_ o h1
      exact ⟨h, s _ _ (fun z => h2 (List.mem_singleton.mp z)) e, fun N' F' a b => o.mono a b q⟩
/-- by the kind of what is told -/
theorem Wd.callI {i : Int} (W : Wd K B ctx L H) (r : Res K H i v H') : v = .int i ∧ Wd K B ctx L H' := ⟨let ⟨_, _, _, _, h⟩ := r; h, W.same (let ⟨_, s, _⟩ := r; s)⟩
theorem Wd.callB {i : Bool} (W : Wd K B ctx L H) (r : Res K H i v H') : v = .bl i ∧ Wd K B ctx L H' := ⟨let ⟨_, _, _, _, h⟩ := r; h, W.same (let ⟨_, s, _⟩ := r; s)⟩
theorem Wd.callS {i : PySem.Str} (W : Wd K B ctx L H) (r : Res K H i v H') : v = .str i ∧ Wd K B ctx L H' := ⟨let ⟨_, _, _, _, h⟩ := r; h, W.same (let ⟨_, s, _⟩ := r; s)⟩
theorem Wd.callU {i : Unit} (W : Wd K B ctx L H) (r : Res K H i v H') : v = .non ∧ Wd K B ctx L H' := ⟨let ⟨_, _, _, _, h⟩ := r; h, W.same (let ⟨_, s, _⟩ := r; s)⟩
theorem Wd.call1I [Flat β] {i : Int} {ys ys' : List β} {t' : Bool} (W : Wd K B ctx L H) (j : Nat) (hj : L[j]? = some (oL t' a ys)) (r : Res1 K H a (i, ys') v H') : v = .int i ∧ Wd K B ctx (L.set j (oL t' a ys')) H' :=
  ⟨let ⟨_, _, _, _, h, _⟩ := r; h, (W.call1 j hj r).drop 1 rfl⟩
theorem Wd.call1B [Flat β] {i : Bool} {ys ys' : List β} {t' : Bool} (W : Wd K B ctx L H) (j : Nat) (hj : L[j]? = some (oL t' a ys)) (r : Res1 K H a (i, ys') v H') : v = .bl i ∧ Wd K B ctx (L.set j (oL t' a ys')) H' :=
  ⟨let ⟨_, _, _, _, h, _⟩ := r; h, (W.call1 j hj r).drop 1 rfl⟩
end
end PB

namespace PB
open PySem PySem.Spec PyProof.Rows L2
/-! ### the mirror's own words -/
inductive Ctl (ρ β : Type) where
  | go (b : β)
  | ret (r : ρ)
  | brk (b : β)
section
variable {α β γ ρ : Type}
def forO (f : α → β → Option (Ctl ρ β)) : List α → β → Option (Ctl ρ β)
  | [], b => some (.go b)
  | x :: xs, b => match f x b with
    | none => none
    | some (.go b') => forO f xs b'
    | some (.ret r) => some (.ret r)
    | some (.brk b') => some (.go b')
def foldO (f : α → β → Option β) : List α → β → Option β
  | [], b => some b
  | x :: xs, b => (f x b).bind fun b' => foldO f xs b'
def whileO (f : β → Option (Ctl ρ β)) : Nat → β → Option (Ctl ρ β)
  | 0, _ => none
  | n + 1, b => match f b with
    | none => none
    | some (.go b') => whileO f n b'
    | some (.ret r) => some (.ret r)
    | some (.brk b') => some (.go b')
def sizeO (n : Nat) : Option Unit := if n ≤ sizeLine then some () else none
def mapG (f : α → Option γ) : List α → Option (List γ)
  | [] => some []
  | x :: xs => (f x).bind fun y => (mapG f xs).bind fun ys => some (y :: ys)
/-- [e for x in xs] -/
def mapO (f : α → Option γ) (xs : List α) : Option (List γ) := if xs.length ≤ sizeLine then mapG f xs else none
/-- [e for x in xs if c]; none: left out -/
def cmpG (f : α → Option (Option γ)) : List α → Option (List γ)
  | [] => some []
  | x :: xs => (f x).bind fun y => (cmpG f xs).bind fun ys => some (match y with
    | some z => z :: ys
    | none => ys)
def cmpO (f : α → Option (Option γ)) (xs : List α) : Option (List γ) := if xs.length ≤ sizeLine then cmpG f xs else none
/-- the same with a state -/
def mapSG (f : α → β → Option (γ × β)) : List α → β → Option (List γ × β)
  | [], b => some ([], b)
  | x :: xs, b => (f x b).bind fun p => (mapSG f xs p.2).bind fun q => some (p.1 :: q.1, q.2)
def mapSO (f : α → β → Option (γ × β)) (xs : List α) (b : β) : Option (List γ × β) := if xs.length ≤ sizeLine then mapSG f xs b else none
/-- a condition and a state -/
def cmpSG (f : α → β → Option (Option γ × β)) : List α → β → Option (List γ × β)
  | [], b => some ([], b)
  | x :: xs, b => (f x b).bind fun p => (cmpSG f xs p.2).bind fun q => some (p.1.toList ++ q.1, q.2)
def cmpSO (f : α → β → Option (Option γ × β)) (xs : List α) (b : β) : Option (List γ × β) := if xs.length ≤ sizeLine then cmpSG f xs b else none
def lenI (xs : List α) : Int := xs.length
def sliceI (xs : List α) (lo hi : Option Int) : List α := (xs.drop (HT.sIx xs.length 0 lo)).take (HT.sIx xs.length xs.length hi - HT.sIx xs.length 0 lo)
def catO (xs ys : List α) : Option (List α) := if xs.length + ys.length ≤ sizeLine then some (xs ++ ys) else none
def appO (xs : List α) (x : α) : Option (List α) := if xs.length < sizeLine then some (xs ++ [x]) else none
def repO (xs : List α) (k : Int) : Option (List α) := if -(2 ^ 63) ≤ k ∧ k < 2 ^ 63 ∧ xs.length * k.toNat ≤ sizeLine then some (List.replicate k.toNat xs).flatten else none
def setO (xs : List α) (i : Int) (x : α) : Option (List α) := (ixN xs.length i).map fun j => xs.set j x
def rangeF (lo : Int) : Nat → List Int
  | 0 => []
  | n + 1 => lo :: rangeF (lo + 1) n
def rangeB (lo : Int) : Nat → List Int
  | 0 => []
  | n + 1 => lo :: rangeB (lo - 1) n
def ok62 (i : Int) : Prop := -(2 ^ 62) ≤ i ∧ i < 2 ^ 62
instance (i : Int) : Decidable (ok62 i) := by unfold ok62; infer_instance
def range1 (j : Int) : Option (List Int) := if ok62 j then some (rangeF 0 j.toNat) else none
def range2 (i j : Int) : Option (List Int) := if ok62 i ∧ ok62 j then some (rangeF i (j - i).toNat) else none
def rangeD (i j : Int) : Option (List Int) := if ok62 i ∧ ok62 j then some (rangeB i (i - j).toNat) else none
def enumI (i : Int) : List α → List (Int × α)
  | [] => []
  | x :: xs => (i, x) :: enumI (i + 1) xs
def mulO (i j : Int) : Option Int := if i.natAbs.log2 + j.natAbs.log2 < 1000000 then some (i * j) else none
def fdivO (i j : Int) : Option Int := if 0 < j ∧ j.natAbs.log2 < 9000 then some (i / j) else none
def modO (i j : Int) : Option Int := if 0 < j then some (i % j) else none
def powO (i j : Int) : Option Int := if 0 ≤ j ∧ j ≤ 1000000 ∧ i.natAbs < 2 ^ 64 then some (i ^ j.toNat) else none
def maxO (xs : List Int) : Option Int := if xs ≠ [] then some (mxI xs) else none
def minO (xs : List Int) : Option Int := if xs ≠ [] then some (mnI xs) else none
def sortI (xs : List Int) : List Int := xs.mergeSort
def isub (T c : String) : Bool := T == c || (T == "bool" && c == "int")
end
theorem bndE {α β : Type} {e : Option α} {f : α → Option β} {r : β} (h : e.bind f = some r) : ∃ x, e = some x ∧ f x = some r := by
  cases e with
  | none => cases h
  | some x => exact ⟨x, rfl, h⟩
theorem iteE {α : Type} {b : Bool} {A C : Option α} {r : α} (h : (if b = true then A else C) = some r) : (b = true ∧ A = some r) ∨ (b = false ∧ C = some r) := by
  cases b with
  | true => exact .inl ⟨rfl, h⟩
  | false => exact .inr ⟨rfl, h⟩
theorem guardE {α : Type} {p : Prop} [Decidable p] {x r : α} (h : (if p then some x else none) = some r) : p ∧ x = r := by
  by_cases hp : p
  · rw [if_pos hp] at h
    exact ⟨hp, Option.some.inj h⟩
  · rw [if_neg hp] at h
    cases h

/-! ### data, kinds -/
class RpD (α : Type) [Rp α] where
  d : α → PyData
  dp : ∀ {K : PySem.W.Frag} {H : Hp} {x : α} {v : V}, Rp.rep (lkA K H) x v → Dp K H v (d x)
  ty : α → String
  tyx : ∀ {K : PySem.W.Frag} {H : Hp} {x : α} {v : V}, Rp.rep (lkA K H) x v → TyX K H v (.type (ty x))
  tys : ∀ x, ty x ∈ ["NoneType", "bool", "int", "str", "list", "tuple"]
section
variable {α β γ : Type} [Rp α] [Rp β] [Rp γ] [RpD α] [RpD β] [RpD γ]
instance : RpD Int := ⟨.int, fun h => by cases h; exact .int _, fun _ => "int", fun h => by cases h; exact .base (.int _), fun _ => by simp⟩
instance : RpD Bool := ⟨.bool, fun h => by cases h; exact .bl _, fun _ => "bool", fun h => by cases h; exact .base (.bl _), fun _ => by simp⟩
instance : RpD Unit := ⟨fun _ => .none, fun h => by cases h; exact .non, fun _ => "NoneType", fun h => by cases h; exact .base .non, fun _ => by simp⟩
instance : RpD PySem.Str := ⟨.str, fun h => by cases h; exact .str _, fun _ => "str", fun h => by cases h; exact .base (.str _), fun _ => by simp⟩
instance : RpD (Option α) := ⟨fun x => match x with
    | none => .none
    | some y => RpD.d y, fun {K H x v} h => by
      cases x with
      | none => cases (show v = .non from h); exact .non
      | some y => exact RpD.dp (α := α) h, fun x => match x with
    | none => "NoneType"
    | some y => RpD.ty y, fun {K H x v} h => by
      cases x with
      | none => cases (show v = .non from h); exact .base .non
      | some y => exact RpD.tyx (α := α) h, fun x => by
      cases x with
      | none => simp
      | some y => exact RpD.tys y⟩
theorem all2_dp {K : PySem.W.Frag} {H : Hp} : ∀ {xs : List α} {vs : List V}, All2 (Rp.rep (lkA K H)) xs vs → DpAll K H vs (xs.map RpD.d)
  | [], [], _ => .nil
  | _ :: _, _ :: _, h => .cons (RpD.dp h.1) (all2_dp h.2)
  | [], _ :: _, h => h.elim
  | _ :: _, [], h => h.elim
theorem tyx_tup {K : PySem.W.Frag} {H : Hp} {a : Addr} {vs : List V} (h : SqT K H a vs) : TyX K H (.ref a) (.type "tuple") := by
  rcases h with (h | ⟨o, h⟩) | ⟨o, its, n, e, c, _⟩
  · exact .base (.tup h)
  · exact .fTuple h
  · exact .kTuple e c
instance : RpD (List α) := ⟨fun xs => .list (xs.map RpD.d), fun ⟨a, vs, e, h, r⟩ => by cases e; exact .lst (SqL.of h) (all2_dp r), fun _ => "list", fun ⟨a, vs, e, h, r⟩ => by cases e; exact .base (.lst h), fun _ => by simp⟩
instance : RpD (α × β) := ⟨fun x => .tuple [RpD.d x.1, RpD.d x.2], fun ⟨a, u, w, e, h, r1, r2⟩ => by cases e; exact .tup h (.cons (RpD.dp r1) (.cons (RpD.dp r2) .nil)), fun _ => "tuple", fun ⟨a, u, w, e, h, r1, r2⟩ => by cases e; exact tyx_tup h, fun _ => by simp⟩
instance : RpD (T3 α β γ) := ⟨fun x => .tuple [RpD.d x.a, RpD.d x.b, RpD.d x.c], fun ⟨a, u, w, z, e, h, r1, r2, r3⟩ => by cases e; exact .tup h (.cons (RpD.dp r1) (.cons (RpD.dp r2) (.cons (RpD.dp r3) .nil))), fun _ => "tuple", fun ⟨a, u, w, z, e, h, r1, r2, r3⟩ => by cases e; exact tyx_tup h, fun _ => by simp⟩
instance : RpD (T1 α) := ⟨fun x => .tuple [RpD.d x.a], fun ⟨a, u, e, h, r1⟩ => by cases e; exact .tup h (.cons (RpD.dp r1) .nil), fun _ => "tuple", fun ⟨a, u, e, h, r1⟩ => by cases e; exact tyx_tup h, fun _ => by simp⟩
end
def eqO {α β : Type} [Rp α] [RpD α] [Rp β] [RpD β] (x : α) (y : β) : Option Bool :=
  if SeqAt.shaped (RpD.d x) = true ∧ SeqAt.shaped (RpD.d y) = true then some (PyData.eqv (RpD.d x) (RpD.d y)) else none
def reprO {α : Type} [Rp α] [RpD α] (x : α) : Option PySem.Str :=
  if (RpD.d x).showable = true ∧ (RpD.d x).hasDict = false ∧ (RpD.d x).depth ≤ 60 ∧ (RpD.d x).shown.length ≤ sizeLine then some (RpD.d x).shown else none
def isiO {α : Type} [Rp α] [RpD α] (x : α) (c : String) : Bool := isub (RpD.ty x) c
theorem kit_isub {T c : String} (hT : T ∈ ["NoneType", "bool", "int", "str", "list", "tuple"]) (hc : c ∈ ["bool", "int", "str", "list", "tuple"]) : kitB T c = some (isub T c) := by
  have key : ∀ T ∈ ["NoneType", "bool", "int", "str", "list", "tuple"], ∀ c ∈ ["bool", "int", "str", "list", "tuple"], kitB T c = some (isub T c) := by decide +kernel
  exact key T hT c hc

/-! ### the steps over a world -/
section
variable {K : PySem.W.Frag} {B H H' : Hp} {ctx : List Fact} {L : List Own} {t t' : Bool} {α β γ : Type} [Rp α] [Rp β] [Rp γ] {x : α} {y : β} {z : γ} {xs ys : List α} {v w u : V} {vs : List V} {a p : Addr} {Q : VK} {i j : Int} {σ : L2.St}
theorem w_len (W : Wd K B ctx L H) (h : Ls K ctx L t xs v) (k : Q (.int (lenI xs)) H) : rLen K [v] H Q := by
  obtain ⟨N, F, W⟩ := W
  obtain ⟨a, vs, rfl, h1, h2⟩ := h B H N F W
  exact i_len h1 (by rw [h2.len]; exact k)
theorem w_lenT2 (W : Wd K B ctx L H) (h : Kn K ctx t (x, y) v) (k : Q (.int 2) H) : rLen K [v] H Q := by
  obtain ⟨N, F, W⟩ := W
  obtain ⟨a, u, w, rfl, h1, _⟩ := h N F W.nF W.facts
  exact i_lenT ((reg_A W.nF W.fH).t _ _ h1) k
theorem atI_2 {vs : List V} {R : α → V → Prop} (h : All2 R xs vs) (e : atI xs i = some x) : ∃ v, atI vs i = some v ∧ R x v := by
  unfold atI at e ⊢
  rw [h.len]
  cases q : ixN xs.length i with
  | none =>
    rw [q] at e
    cases e
  | some j =>
    rw [q] at e
    exact h.get e
theorem w_ix (W : Wd K B ctx L H) (h : Ls K ctx L t xs v) (e : atI xs i = some x) (k : ∀ u, Wd K B (fc t x u :: ctx) L H → Q u H) : rIx K v (.int i) H Q := by
  obtain ⟨N, F, W⟩ := W
  obtain ⟨a, vs, rfl, h1, h2⟩ := h B H N F W
  obtain ⟨u, e2, r⟩ := atI_2 h2 e
  refine i_ixL h1 e2 (k u ⟨N, F, W.bF, W.nF, W.sep, W.fH, fun f hf => ?_, W.at_, W.off, W.nd⟩)
  rcases List.mem_cons.mp hf with rfl | hf
  · exact r
  · exact W.facts f hf
theorem w_ixI {xs : List Int} {x : Int} (W : Wd K B ctx L H) (h : Ls K ctx L t xs v) (e : atI xs i = some x) (k : Q (.int x) H) : rIx K v (.int i) H Q := by
  obtain ⟨N, F, W⟩ := W
  obtain ⟨a, vs, rfl, h1, h2⟩ := h B H N F W
  obtain ⟨u, e2, r⟩ := atI_2 h2 e
  cases (show u = .int x from r)
  exact i_ixL h1 e2 k
theorem w_ixB {xs : List Bool} {x : Bool} (W : Wd K B ctx L H) (h : Ls K ctx L t xs v) (e : atI xs i = some x) (k : Q (.bl x) H) : rIx K v (.int i) H Q := by
  obtain ⟨N, F, W⟩ := W
  obtain ⟨a, vs, rfl, h1, h2⟩ := h B H N F W
  obtain ⟨u, e2, r⟩ := atI_2 h2 e
  cases (show u = .bl x from r)
  exact i_ixL h1 e2 k
theorem Wd.fact (W : WdI K B ctx L H N F) {f : Fact} (h : f.P K N F) : Wd K B (f :: ctx) L H :=
  ⟨N, F, W.bF, W.nF, W.sep, W.fH, fun g hg => by
    rcases List.mem_cons.mp hg with rfl | hg
    · exact h
    · exact W.facts g hg, W.at_, W.off, W.nd⟩
/-- t[0], t[1] of a pair -/
theorem w_fst (W : Wd K B ctx L H) (h : Kn K ctx t (x, y) v) (k : ∀ u, Wd K B (fc t x u :: ctx) L H → Q u H) : rIx K v (.int 0) H Q := by
  obtain ⟨N, F, W⟩ := W
  obtain ⟨a, u, w, rfl, h1, r1, r2⟩ := h N F W.nF W.facts
  exact i_ixT (v := u) ((reg_A W.nF W.fH).t _ _ h1) rfl (k u (Wd.fact W r1))
theorem w_snd (W : Wd K B ctx L H) (h : Kn K ctx t (x, y) v) (k : ∀ u, Wd K B (fc t y u :: ctx) L H → Q u H) : rIx K v (.int 1) H Q := by
  obtain ⟨N, F, W⟩ := W
  obtain ⟨a, u, w, rfl, h1, r1, r2⟩ := h N F W.nF W.facts
  exact i_ixT (v := w) ((reg_A W.nF W.fH).t _ _ h1) rfl (k w (Wd.fact W r2))
theorem w_3a {x : T3 α β γ} (W : Wd K B ctx L H) (h : Kn K ctx t x v) (k : ∀ u, Wd K B (fc t x.a u :: ctx) L H → Q u H) : rIx K v (.int 0) H Q := by
  obtain ⟨N, F, W⟩ := W
  obtain ⟨a, u, w, z, rfl, h1, r1, r2, r3⟩ := h N F W.nF W.facts
  exact i_ixT (v := u) ((reg_A W.nF W.fH).t _ _ h1) rfl (k u (Wd.fact W r1))
theorem w_3b {x : T3 α β γ} (W : Wd K B ctx L H) (h : Kn K ctx t x v) (k : ∀ u, Wd K B (fc t x.b u :: ctx) L H → Q u H) : rIx K v (.int 1) H Q := by
  obtain ⟨N, F, W⟩ := W
  obtain ⟨a, u, w, z, rfl, h1, r1, r2, r3⟩ := h N F W.nF W.facts
  exact i_ixT (v := w) ((reg_A W.nF W.fH).t _ _ h1) rfl (k w (Wd.fact W r2))
theorem w_3c {x : T3 α β γ} (W : Wd K B ctx L H) (h : Kn K ctx t x v) (k : ∀ u, Wd K B (fc t x.c u :: ctx) L H → Q u H) : rIx K v (.int 2) H Q := by
  obtain ⟨N, F, W⟩ := W
  obtain ⟨a, u, w, z, rfl, h1, r1, r2, r3⟩ := h N F W.nF W.facts
  exact i_ixT (v := z) ((reg_A W.nF W.fH).t _ _ h1) rfl (k z (Wd.fact W r3))
/-- a, b = t -/
theorem w_unp2 {g : TGs} {R : L2.St → Hp → Prop} (W : Wd K B ctx L H) (h : Kn K ctx t (x, y) v) (k : ∀ u w, Wd K B (fc t x u :: fc t y w :: ctx) L H → g [u, w] σ H R) : rUnp K 2 g v σ H R := by
  obtain ⟨N, F, W⟩ := W
  obtain ⟨a, u, w, rfl, h1, r1, r2⟩ := h N F W.nF W.facts
  refine ⟨a, _, rfl, (reg_A W.nF W.fH).t _ _ h1, rfl, k u w ?_⟩
  refine ⟨N, F, W.bF, W.nF, W.sep, W.fH, fun f hf => ?_, W.at_, W.off, W.nd⟩
  rcases List.mem_cons.mp hf with rfl | hf
  · exact r1
  · rcases List.mem_cons.mp hf with rfl | hf
    · exact r2
    · exact W.facts f hf
theorem w_unp3 {x : T3 α β γ} {g : TGs} {R : L2.St → Hp → Prop} (W : Wd K B ctx L H) (h : Kn K ctx t x v) (k : ∀ u w z, Wd K B (fc t x.a u :: fc t x.b w :: fc t x.c z :: ctx) L H → g [u, w, z] σ H R) : rUnp K 3 g v σ H R := by
  obtain ⟨N, F, W⟩ := W
  obtain ⟨a, u, w, z, rfl, h1, r1, r2, r3⟩ := h N F W.nF W.facts
  refine ⟨a, _, rfl, (reg_A W.nF W.fH).t _ _ h1, rfl, k u w z ?_⟩
  refine ⟨N, F, W.bF, W.nF, W.sep, W.fH, fun f hf => ?_, W.at_, W.off, W.nd⟩
  simp only [List.mem_cons] at hf
  rcases hf with rfl | rfl | rfl | hf
  · exact r1
  · exact r2
  · exact r3
  · exact W.facts f hf
/-- a, b = l of a list -/
theorem w_unpL {x1 x2 : α} {g : TGs} {R : L2.St → Hp → Prop} (W : Wd K B ctx L H) (h : Ls K ctx L t [x1, x2] v) (k : ∀ u w, Wd K B (fc t x1 u :: fc t x2 w :: ctx) L H → g [u, w] σ H R) : rUnpL K 2 g v σ H R := by
  obtain ⟨N, F, W⟩ := W
  obtain ⟨a, vs, rfl, h1, h2⟩ := h B H N F W
  match vs, h2, h1 with
  | [u, w], h2, h1 =>
    refine ⟨a, _, rfl, h1, rfl, k u w ⟨N, F, W.bF, W.nF, W.sep, W.fH, fun f hf => ?_, W.at_, W.off, W.nd⟩⟩
    rcases List.mem_cons.mp hf with rfl | hf
    · exact h2.1
    · rcases List.mem_cons.mp hf with rfl | hf
      · exact h2.2.1
      · exact W.facts f hf
theorem Wd.pI {i : Int} (W : Wd K B (fc t i v :: ctx) L H) : v = .int i ∧ Wd K B ctx L H := ⟨by
  obtain ⟨N, F, W⟩ := W
  exact W.facts _ List.mem_cons_self, W.drop 1 rfl⟩
theorem Wd.pB {i : Bool} (W : Wd K B (fc t i v :: ctx) L H) : v = .bl i ∧ Wd K B ctx L H := ⟨by
  obtain ⟨N, F, W⟩ := W
  exact W.facts _ List.mem_cons_self, W.drop 1 rfl⟩
theorem Wd.pS {i : PySem.Str} (W : Wd K B (fc t i v :: ctx) L H) : v = .str i ∧ Wd K B ctx L H := ⟨by
  obtain ⟨N, F, W⟩ := W
  exact W.facts _ List.mem_cons_self, W.drop 1 rfl⟩
/-- what a known value must be -/
theorem Wd.isI {i : Int} (W : Wd K B ctx L H) (h : Kn K ctx t (Option.some i) v) : v = .int i := by
  obtain ⟨N, F, W⟩ := W
  exact h N F W.nF W.facts
theorem Wd.isN (W : Wd K B ctx L H) (h : Kn K ctx t (Option.none : Option α) v) : v = .non := by
  obtain ⟨N, F, W⟩ := W
  exact h N F W.nF W.facts
theorem Kn.un (h : Kn K ctx t (Option.some x) v) : Kn K ctx t x v := fun N F s q => h N F s q
theorem cut_2 {vs : List V} {R : α → V → Prop} {lo hi : Option Int} (h : All2 R xs vs) : All2 R (sliceI xs lo hi) (cutV vs lo hi) := by
  unfold sliceI cutV
  rw [h.len]
  exact (h.drop _).take _
theorem w_slice {lo hi : Option Int} (W : Wd K B ctx L H) (h : Ls K ctx L t xs v) (k : ∀ p H', Wd K B ctx (oL t p (sliceI xs lo hi) :: L) H' → Q (.ref p) H') : rSlL K v lo hi H Q := by
  obtain ⟨N, F, W⟩ := W
  obtain ⟨a, vs, rfl, h1, h2⟩ := h B H N F W
  exact ⟨a, vs, rfl, h1, fun p hp => k p _ (Wd.newL W hp (cut_2 h2))⟩
def rRevL (K : PySem.W.Frag) (v : V) (H : Hp) (Q : VK) : Prop := ∃ a xs, v = .ref a ∧ SqL K H a xs ∧ ∀ p, H p = none → Q (.ref p) (upd H p (.lst xs.reverse))
theorem i_revL {te : TE} (h : te σ H fun x H1 => rRevL K x H1 Q) : tRevL K te σ H Q := h
theorem w_rev (W : Wd K B ctx L H) (h : Ls K ctx L t xs v) (k : ∀ p H', Wd K B ctx (oL t p xs.reverse :: L) H' → Q (.ref p) H') : rRevL K v H Q := by
  obtain ⟨N, F, W⟩ := W
  obtain ⟨a, vs, rfl, h1, h2⟩ := h B H N F W
  exact ⟨a, vs, rfl, h1, fun p hp => k p _ (Wd.newL W hp h2.rev)⟩
theorem w_list (W : Wd K B ctx L H) (h : Ls K ctx L t xs v) (k : ∀ p H', Wd K B ctx (oL t p xs :: L) H' → Q (.ref p) H') : rListOf K [v] H Q := by
  obtain ⟨N, F, W⟩ := W
  obtain ⟨a, vs, rfl, h1, h2⟩ := h B H N F W
  exact ⟨a, vs, rfl, .inl h1, fun p hp => k p _ (Wd.newL W hp h2)⟩
theorem w_cat {zs : List α} (W : Wd K B ctx L H) (h : Lx K ctx L t xs v) (h' : Lx K ctx L t ys w) (e : catO xs ys = some zs) (k : ∀ p H', Wd K B ctx (oL t p zs :: L) H' → Q (.ref p) H') : rAddA v w H Q := by
  obtain ⟨N, F, W⟩ := W
  obtain ⟨a, vs, rfl, h1, h2⟩ := h B H N F W
  obtain ⟨b, ws, rfl, h3, h4⟩ := h' B H N F W
  obtain ⟨hz, rfl⟩ := guardE e
  exact .inr ⟨a, b, vs, ws, rfl, rfl, h1, h3, by rw [h2.len, h4.len]; exact hz, fun p hp => k p _ (Wd.newL W hp (h2.app h4))⟩
theorem w_rep {zs : List α} {n : Int} (W : Wd K B ctx L H) (h : Lx K ctx L t xs v) (e : repO xs n = some zs) (k : ∀ p H', Wd K B ctx (oL t p zs :: L) H' → Q (.ref p) H') : rMulA v (.int n) H Q := by
  obtain ⟨N, F, W⟩ := W
  obtain ⟨a, vs, rfl, h1, h2⟩ := h B H N F W
  obtain ⟨⟨hz1, hz2, hz3⟩, rfl⟩ := guardE e
  exact .inr ⟨a, n, vs, rfl, rfl, h1, hz1, hz2, by rw [h2.len]; exact hz3, fun p hp => k p _ (Wd.newL W hp (h2.rep _))⟩
theorem w_lst (W : Wd K B ctx L H) (h : KnL K ctx t xs vs) (hz : vs.length ≤ sizeLine) (k : ∀ p H', Wd K B ctx (oL t p xs :: L) H' → Q (.ref p) H') : rLst vs H Q := by
  obtain ⟨N, F, W⟩ := W
  exact ⟨hz, fun p hp => k p _ (Wd.newL W hp (h N F W.nF W.facts))⟩
theorem w_tup2 (W : Wd K B ctx L H) (h : Kn K ctx t x v) (h' : Kn K ctx t y w) (k : ∀ p H', Wd K B (fc t (x, y) (.ref p) :: ctx) L H' → Q (.ref p) H') : rTup [v, w] H Q := by
  obtain ⟨N, F, W⟩ := W
  exact ⟨(by show (2 : Nat) ≤ sizeLine; decide), fun p hp => k p _ (Wd.newT W hp t fun N' F' s s' q => ⟨p, v, w, rfl, q, Rp.mono (reg_mono s s') (h N F W.nF W.facts), Rp.mono (reg_mono s s') (h' N F W.nF W.facts)⟩)⟩
theorem w_tup3 (W : Wd K B ctx L H) (h : Kn K ctx t x v) (h' : Kn K ctx t y w) (h'' : Kn K ctx t z u) (k : ∀ p H', Wd K B (fc t (T3.mk x y z) (.ref p) :: ctx) L H' → Q (.ref p) H') : rTup [v, w, u] H Q := by
  obtain ⟨N, F, W⟩ := W
  exact ⟨(by show (3 : Nat) ≤ sizeLine; decide), fun p hp => k p _ (Wd.newT W hp t fun N' F' s s' q => ⟨p, v, w, u, rfl, q, Rp.mono (reg_mono s s') (h N F W.nF W.facts), Rp.mono (reg_mono s s') (h' N F W.nF W.facts), Rp.mono (reg_mono s s') (h'' N F W.nF W.facts)⟩)⟩
theorem w_app {zs : List α} (W : Wd K B ctx L H) (j : Nat) (hj : L[j]? = some (oL t a xs)) (h : Kn K ctx t x v) (e : appO xs x = some zs) (k : ∀ H', Wd K B ctx (L.set j (oL t a zs)) H' → Q .non H') : rAppend (.ref a) [v] H Q := by
  obtain ⟨N, F, W⟩ := W
  obtain ⟨o, h1, vs, rfl, h2⟩ := W.at_ _ (List.mem_of_getElem? hj)
  obtain ⟨hz, rfl⟩ := guardE e
  exact ⟨a, vs, v, rfl, rfl, h1, by rw [h2.len]; exact hz, k _ (Wd.put (o' := oL t a (xs ++ [x])) W j hj rfl _ ⟨_, rfl, h2.app (.one (h N F W.nF W.facts))⟩)⟩
theorem w_ext {zs : List α} (W : Wd K B ctx L H) (j : Nat) (hj : L[j]? = some (oL t a xs)) (h : Lx K ctx L t ys v) (e : catO xs ys = some zs) (k : ∀ H', Wd K B ctx (L.set j (oL t a zs)) H' → Q .non H') : rExtend (.ref a) [v] H Q := by
  obtain ⟨N, F, W⟩ := W
  obtain ⟨o, h1, vs, rfl, h2⟩ := W.at_ _ (List.mem_of_getElem? hj)
  obtain ⟨b, ws, rfl, h3, h4⟩ := h B H N F W
  obtain ⟨hz, rfl⟩ := guardE e
  exact ⟨a, b, vs, ws, rfl, rfl, h1, h3, by rw [h2.len, h4.len]; exact hz, k _ (Wd.put (o' := oL t a (xs ++ ys)) W j hj rfl _ ⟨_, rfl, h2.app h4⟩)⟩
theorem w_set {zs : List α} {R : Hp → Prop} (W : Wd K B ctx L H) (j : Nat) (hj : L[j]? = some (oL t a xs)) (h : Kn K ctx t x v) (e : setO xs i x = some zs) (k : ∀ H', Wd K B ctx (L.set j (oL t a zs)) H' → R H') : rSetL (.ref a) (.int i) v H R := by
  obtain ⟨N, F, W⟩ := W
  obtain ⟨o, h1, vs, rfl, h2⟩ := W.at_ _ (List.mem_of_getElem? hj)
  unfold setO at e
  cases q : ixN xs.length i with
  | none => rw [q] at e; cases e
  | some m =>
    rw [q] at e
    cases e
    exact ⟨a, vs, i, m, rfl, rfl, h1, by rw [h2.len]; exact q, k _ (Wd.put (o' := oL t a (xs.set m x)) W j hj rfl _ ⟨_, rfl, h2.set m (h N F W.nF W.facts)⟩)⟩
theorem w_mt {r : V → List V → Hp → VK → Prop} {tx : TA} (W : Wd K B ctx L H) (h : Ls K ctx L t xs v) (k : tx σ H fun zs H2 => r v zs H2 Q) : rMt K "list" r tx σ v H Q := by
  obtain ⟨N, F, W⟩ := W
  obtain ⟨a, vs, rfl, h1, h2⟩ := h B H N F W
  exact i_mtL h1 k
theorem w_sum {xs : List Int} (W : Wd K B ctx L H) (h : Ls K ctx L t xs v) (k : Q (.int xs.sum) H) : rSum K [v] H Q := by
  obtain ⟨N, F, W⟩ := W
  obtain ⟨a, vs, rfl, h1, h2⟩ := h B H N F W
  rw [all2_int h2] at h1
  exact i_sum h1 k
theorem w_max {xs : List Int} {m : Int} (W : Wd K B ctx L H) (h : Ls K ctx L t xs v) (e : maxO xs = some m) (k : Q (.int m) H) : rMax K [v] H Q := by
  obtain ⟨N, F, W⟩ := W
  obtain ⟨a, vs, rfl, h1, h2⟩ := h B H N F W
  rw [all2_int h2] at h1
  obtain ⟨hn, rfl⟩ := guardE e
  exact i_maxF h1 (List.length_pos_iff.mpr hn) k
theorem w_min {xs : List Int} {m : Int} (W : Wd K B ctx L H) (h : Ls K ctx L t xs v) (e : minO xs = some m) (k : Q (.int m) H) : rMin K [v] H Q := by
  obtain ⟨N, F, W⟩ := W
  obtain ⟨a, vs, rfl, h1, h2⟩ := h B H N F W
  rw [all2_int h2] at h1
  obtain ⟨hn, rfl⟩ := guardE e
  exact i_minF h1 (List.length_pos_iff.mpr hn) k
theorem sorted_uniq : ∀ {xs ys : List Int}, xs.Perm ys → xs.Pairwise (· ≤ ·) → ys.Pairwise (· ≤ ·) → xs = ys
  | [], ys, p, _, _ => by rw [List.Perm.nil_eq p]
  | x :: xs, ys, p, h1, h2 => by
    cases ys with
    | nil => exact absurd p.length_eq (by simp)
    | cons y ys =>
      obtain ⟨a1, a2⟩ := List.pairwise_cons.mp h1
      obtain ⟨b1, b2⟩ := List.pairwise_cons.mp h2
      have e : x = y := by
        have hx := p.mem_iff.mp (List.mem_cons_self (a := x))
        have hy := p.mem_iff.mpr (List.mem_cons_self (a := y))
        rcases List.mem_cons.mp hx with h | h
        · exact h
        · rcases List.mem_cons.mp hy with h' | h'
          · exact h'.symm
          · have := a1 _ h'
            have := b1 _ h
            omega
      subst e
      rw [sorted_uniq (List.Perm.cons_inv p) a2 b2]
theorem sortI_perm (xs : List Int) : (sortI xs).Perm xs := List.mergeSort_perm _ _
theorem sortI_pw (xs : List Int) : (sortI xs).Pairwise (· ≤ ·) := by
  have h := List.pairwise_mergeSort (le := fun (a b : Int) => decide (a ≤ b)) (fun a b c h1 h2 => by simp at *; omega) (fun a b => by simp; omega) xs
  exact h.imp fun h => by simpa using h
theorem w_sorted {xs : List Int} (W : Wd K B ctx L H) (h : Ls K ctx L t xs v) (k : ∀ p H', Wd K B ctx (oL true p (sortI xs) :: L) H' → Q (.ref p) H') : rSortedI K [v] H Q := by
  obtain ⟨N, F, W⟩ := W
  obtain ⟨a, vs, rfl, h1, h2⟩ := h B H N F W
  rw [all2_int h2] at h1
  refine ⟨a, xs, rfl, h1, fun ms p hp hs hn => ?_⟩
  have e : ms = sortI xs := sorted_uniq (hp.trans (sortI_perm xs).symm) hs (sortI_pw xs)
  rw [e]
  exact k p _ (Wd.newL W hn (all2_ofInt _))
section
variable [RpD α] [RpD β]
theorem w_eq {b : Bool} (W : Wd K B ctx L H) (h : Ar K ctx L x v) (h' : Ar K ctx L y w) (e : eqO x y = some b) (k : Q (.bl b) H) : rEqA K v w H Q := by
  obtain ⟨N, F, W⟩ := W
  obtain ⟨⟨s1, s2⟩, rfl⟩ := guardE e
  exact i_eqD (RpD.dp (h B H N F W)) (RpD.dp (h' B H N F W)) s1 s2 k
theorem w_ne {b : Bool} (W : Wd K B ctx L H) (h : Ar K ctx L x v) (h' : Ar K ctx L y w) (e : eqO x y = some b) (k : Q (.bl (!b)) H) : rNeA K v w H Q := by
  obtain ⟨N, F, W⟩ := W
  obtain ⟨⟨s1, s2⟩, rfl⟩ := guardE e
  exact i_neD (RpD.dp (h B H N F W)) (RpD.dp (h' B H N F W)) s1 s2 k
theorem w_repr {s : PySem.Str} (W : Wd K B ctx L H) (h : Ar K ctx L x v) (e : reprO x = some s) (k : Q (.str s) H) : rRepr K [v] H Q := by
  obtain ⟨N, F, W⟩ := W
  obtain ⟨⟨s1, s2, s3, s4⟩, rfl⟩ := guardE e
  exact i_repr (RpD.dp (h B H N F W)) s1 s2 s3 s4 k
theorem w_isi {c : String} (W : Wd K B ctx L H) (h : Ar K ctx L x v) (hc : c ∈ ["bool", "int", "str", "list", "tuple"]) (k : Q (.bl (isiO x c)) H) : rIsX K [v, .ty c] H Q := by
  obtain ⟨N, F, W⟩ := W
  exact .inl (i_isi (RpD.tyx (h B H N F W)) (kit_isub (RpD.tys x) hc) k)
end
theorem opt_non {x : Option α} (W : Wd K B ctx L H) (h : Kn K ctx t x v) (hn : ∀ (y : α) S u, Rp.rep S y u → u ≠ .non) : decide (v = .non) = x.isNone := by
  obtain ⟨N, F, W⟩ := W
  have r := h N F W.nF W.facts
  cases x with
  | none =>
    cases (show v = .non from r)
    rfl
  | some y => exact decide_eq_false (hn y _ v r)
/-- values that are never None -/
class NN (α : Type) [Rp α] : Prop where
  h : ∀ (y : α) S u, Rp.rep S y u → u ≠ .non
instance : NN Int := ⟨fun _ _ _ h e => by cases h; cases e⟩
instance : NN Bool := ⟨fun _ _ _ h e => by cases h; cases e⟩
instance : NN PySem.Str := ⟨fun _ _ _ h e => by cases h; cases e⟩
instance : NN (List α) := ⟨fun _ _ _ ⟨_, _, h, _⟩ e => by rw [h] at e; cases e⟩
instance : NN (α × β) := ⟨fun _ _ _ ⟨_, _, _, h, _⟩ e => by rw [h] at e; cases e⟩
instance : NN (T3 α β γ) := ⟨fun _ _ _ ⟨_, _, _, _, h, _⟩ e => by rw [h] at e; cases e⟩
theorem w_isN [NN α] {x : Option α} (W : Wd K B ctx L H) (h : Kn K ctx t x v) (k : Q (.bl x.isNone) H) : rIsN v .non H Q := ⟨rfl, by
  rw [opt_non W h NN.h]
  exact k⟩
theorem w_notN [NN α] {x : Option α} (W : Wd K B ctx L H) (h : Kn K ctx t x v) (k : Q (.bl (!x.isNone)) H) : rNotN v .non H Q := ⟨rfl, by
  rw [opt_non W h NN.h]
  exact k⟩
/-- and, or, if-else: the right side once for all wishes -/
theorem w_and {b : Bool} {tt : TT} {R : Bool → Hp → Prop} (Mid : Bool → Hp → Prop) (h1 : b = true → ∀ R' : Bool → Hp → Prop, (∀ c H', Mid c H' → R' c H') → tt σ H R') (h2 : b = false → Mid false H) (h3 : ∀ c H', Mid c H' → R c H') : if b = true then tt σ H R else R false H := by
  cases b with
  | true => exact i_T (h1 rfl R h3)
  | false => exact i_F (h3 _ _ (h2 rfl))
theorem w_or {b : Bool} {tt : TT} {R : Bool → Hp → Prop} (Mid : Bool → Hp → Prop) (h1 : b = false → ∀ R' : Bool → Hp → Prop, (∀ c H', Mid c H' → R' c H') → tt σ H R') (h2 : b = true → Mid true H) (h3 : ∀ c H', Mid c H' → R c H') : if b = true then R true H else tt σ H R := by
  cases b with
  | true => exact i_T (h3 _ _ (h2 rfl))
  | false => exact i_F (h1 rfl R h3)
theorem w_andV {b : Bool} {te : TE} (Mid : V → Hp → Prop) (h1 : b = true → ∀ Q' : VK, (∀ c H', Mid c H' → Q' c H') → te σ H Q') (h2 : b = false → Mid (.bl false) H) (h3 : ∀ c H', Mid c H' → Q c H') : if b = true then te σ H Q else Q (.bl false) H := by
  cases b with
  | true => exact i_T (h1 rfl Q h3)
  | false => exact i_F (h3 _ _ (h2 rfl))
theorem w_orV {b : Bool} {te : TE} (Mid : V → Hp → Prop) (h1 : b = false → ∀ Q' : VK, (∀ c H', Mid c H' → Q' c H') → te σ H Q') (h2 : b = true → Mid (.bl true) H) (h3 : ∀ c H', Mid c H' → Q c H') : if b = true then Q (.bl true) H else te σ H Q := by
  cases b with
  | true => exact i_T (h3 _ _ (h2 rfl))
  | false => exact i_F (h1 rfl Q h3)
theorem w_ite {b : Bool} {ta tb : TE} (Mid : V → Hp → Prop) (h1 : b = true → ∀ Q' : VK, (∀ c H', Mid c H' → Q' c H') → ta σ H Q') (h2 : b = false → ∀ Q' : VK, (∀ c H', Mid c H' → Q' c H') → tb σ H Q') (h3 : ∀ c H', Mid c H' → Q c H') : if b = true then ta σ H Q else tb σ H Q := by
  cases b with
  | true => exact i_T (h1 rfl Q h3)
  | false => exact i_F (h2 rfl Q h3)
end
end PB

namespace PB
open PySem PySem.Spec PyProof.Rows L2
/-! ### loops by their mirrors -/
section
variable {K : PySem.W.Frag} {B : Hp} {ρ β ε α γ : Type} [Rp α] [Rp γ]
/-- the state of a loop: slots, facts, own lists by the mirror's state b and what is chosen, e -/
structure Shp (β ε : Type) where
  sg : β → ε → L2.St
  cx : β → ε → List Fact
  ow : β → ε → List Own
def NX (K : PySem.W.Frag) (B : Hp) (S : Shp β ε) (o : Ctl ρ β) (σ : L2.St) (H : Hp) : Prop := ∃ b e, o = .go b ∧ σ = S.sg b e ∧ Wd K B (S.cx b e) (S.ow b e) H
def NF (K : PySem.W.Frag) (B : Hp) (S : Shp β ε) (b : β) (σ : L2.St) (H : Hp) : Prop := ∃ e, σ = S.sg b e ∧ Wd K B (S.cx b e) (S.ow b e) H
/-- what is walked gives the items of xs -/
def Gives (K : PySem.W.Frag) (B : Hp) (S : Shp β ε) (J : It) (t : Bool) (xs : List α) : Prop := ∀ (i : Nat) b e H, Wd K B (S.cx b e) (S.ow b e) H →
  (xs.length ≤ i → J.stop i H) ∧ ∀ x, xs[i]? = some x → J.go i H ∧ ∀ v H', J.yld i H v H' → Wd K B (fc t x v :: S.cx b e) (S.ow b e) H'
section
variable {S : Shp β ε} {H : Hp} {σ : L2.St} {nx bk ct : L2.St → Hp → Prop} {rt : VK} {g : TG} {tb : TS} {J : It} {t : Bool} {xs : List α} {b0 : β} {e0 : ε}
theorem w_for {f : α → β → Option (Ctl ρ β)} {o : Ctl ρ β} (S : Shp β ε) (e0 : ε) (hm : forO f xs b0 = some o) (hσ : σ = S.sg b0 e0) (W : Wd K B (S.cx b0 e0) (S.ow b0 e0) H) (hJ : Gives K B S J t xs)
    (step : ∀ x v b e H' o', Wd K B (fc t x v :: S.cx b e) (S.ow b e) H' → f x b = some o' → (∀ r, o' = .ret r → o = .ret r) → g v (S.sg b e) H' fun σ2 H2 => tb ⟨NX K B S o', rt, nx, NX K B S o'⟩ σ2 H2)
    (done : ∀ b e H, o = .go b → Wd K B (S.cx b e) (S.ow b e) H → nx (S.sg b e) H) : rFor J g tb ⟨nx, rt, bk, ct⟩ σ H := by
  refine ⟨fun i m σ H => m = xs.length - i ∧ ∃ b e, forO f (xs.drop i) b = some o ∧ σ = S.sg b e ∧ Wd K B (S.cx b e) (S.ow b e) H, ⟨_, rfl, b0, e0, hm, hσ, W⟩, ?_⟩
  rintro i m σ H ⟨rfl, b, e, hm, rfl, W⟩
  obtain ⟨h1, h2⟩ := hJ i b e H W
  by_cases hi : i < xs.length
  · have hx : xs[i]? = some xs[i] := List.getElem?_eq_getElem hi
    obtain ⟨h3, h4⟩ := h2 _ hx
    rw [List.drop_eq_getElem_cons hi, forO] at hm
    refine .inr ⟨h3, ?_⟩
    cases q : f xs[i] b with
    | none => rw [q] at hm; cases hm
    | some o' =>
      rw [q] at hm
      refine ⟨NX K B S o', ?_, fun v H' y => step _ v b e H' o' (h4 v H' y) q (fun r er => ?_)⟩
      · rintro σ' H'' ⟨b', e', rfl, rfl, W'⟩
        exact ⟨xs.length - (i + 1), by omega, rfl, b', e', hm, rfl, W'⟩
      · subst er
        exact (Option.some.inj hm).symm
  · rw [List.drop_eq_nil_of_le (by omega), forO] at hm
    exact .inl ⟨h1 (by omega), done b e H (Option.some.inj hm).symm W⟩
theorem w_fold {f : α → β → Option β} {b1 : β} (S : Shp β ε) (e0 : ε) (hm : foldO f xs b0 = some b1) (hσ : σ = S.sg b0 e0) (W : Wd K B (S.cx b0 e0) (S.ow b0 e0) H) (hJ : Gives K B S J t xs)
    (step : ∀ x v b e H' b', Wd K B (fc t x v :: S.cx b e) (S.ow b e) H' → f x b = some b' → g v (S.sg b e) H' fun σ2 H2 => tb ⟨NF K B S b', rt, nx, NF K B S b'⟩ σ2 H2)
    (done : ∀ e H, Wd K B (S.cx b1 e) (S.ow b1 e) H → nx (S.sg b1 e) H) : rFor J g tb ⟨nx, rt, bk, ct⟩ σ H := by
  refine ⟨fun i m σ H => m = xs.length - i ∧ ∃ b e, foldO f (xs.drop i) b = some b1 ∧ σ = S.sg b e ∧ Wd K B (S.cx b e) (S.ow b e) H, ⟨_, rfl, b0, e0, hm, hσ, W⟩, ?_⟩
  rintro i m σ H ⟨rfl, b, e, hm, rfl, W⟩
  obtain ⟨h1, h2⟩ := hJ i b e H W
  by_cases hi : i < xs.length
  · have hx : xs[i]? = some xs[i] := List.getElem?_eq_getElem hi
    obtain ⟨h3, h4⟩ := h2 _ hx
    rw [List.drop_eq_getElem_cons hi, foldO] at hm
    obtain ⟨b', q, hm⟩ := bndE hm
    refine .inr ⟨h3, NF K B S b', ?_, fun v H' y => step _ v b e H' b' (h4 v H' y) q⟩
    rintro σ' H'' ⟨e', rfl, W'⟩
    exact ⟨xs.length - (i + 1), by omega, rfl, b', e', hm, rfl, W'⟩
  · rw [List.drop_eq_nil_of_le (by omega), foldO] at hm
    cases hm
    exact .inl ⟨h1 (by omega), done e H W⟩
/-- while: .brk ends it -/
def NW2 (K : PySem.W.Frag) (B : Hp) (S : Shp β ε) (o : Ctl ρ β) (σ : L2.St) (H : Hp) : Prop := ∃ b e, o = .brk b ∧ σ = S.sg b e ∧ Wd K B (S.cx b e) (S.ow b e) H
theorem w_while {c : TT} {f : β → Option (Ctl ρ β)} {o : Ctl ρ β} {n : Nat} (S : Shp β ε) (e0 : ε) (hm : whileO f n b0 = some o) (hσ : σ = S.sg b0 e0) (W : Wd K B (S.cx b0 e0) (S.ow b0 e0) H)
    (step : ∀ b e H' o', Wd K B (S.cx b e) (S.ow b e) H' → f b = some o' → (∀ r, o' = .ret r → o = .ret r) → (∀ b' e' H'', o' = .brk b' → Wd K B (S.cx b' e') (S.ow b' e') H'' → nx (S.sg b' e') H'') → ∀ P : L2.St → Hp → Prop, (∀ σ' H'', NX K B S o' σ' H'' → P σ' H'') →
      c (S.sg b e) H' fun k H1 => if k = true then (∃ N : L2.St → Hp → Prop, (∀ σ' H'', N σ' H'' → P σ' H'') ∧ tb ⟨N, rt, nx, N⟩ (S.sg b e) H1) else nx (S.sg b e) H1)
    (done : ∀ b e H, o = .go b → Wd K B (S.cx b e) (S.ow b e) H → nx (S.sg b e) H) : tWhile c tb ⟨nx, rt, bk, ct⟩ σ H := by
  refine ⟨fun m σ H => ∃ b e, whileO f m b = some o ∧ σ = S.sg b e ∧ Wd K B (S.cx b e) (S.ow b e) H, ⟨n, b0, e0, hm, hσ, W⟩, ?_⟩
  rintro m σ H ⟨b, e, hm, rfl, W⟩
  cases m with
  | zero => cases hm
  | succ m =>
    rw [whileO] at hm
    cases q : f b with
    | none => rw [q] at hm; cases hm
    | some o' =>
      rw [q] at hm
      refine step b e H o' W q (fun r er => ?_) (fun b' e' H'' eb W' => ?_) _ ?_
      · subst er
        exact (Option.some.inj hm).symm
      · subst eb
        exact done b' e' H'' (Option.some.inj hm).symm W'
      · rintro σ' H'' ⟨b', e', rfl, rfl, W'⟩
        exact ⟨m, Nat.lt_succ_self m, b', e', hm, rfl, W'⟩
end
/-! ### what a for walks -/
section
variable {S : Shp β ε} {t : Bool} {xs : List α} {a : Addr}
theorem gv_list (h : ∀ b e, Ls K (S.cx b e) (S.ow b e) t xs (.ref a)) : Gives K B S (Itl K a) t xs := fun i b e H W => by
  obtain ⟨N, F, W⟩ := W
  obtain ⟨a', vs, ea, h1, h2⟩ := h b e B H N F W
  cases ea
  refine ⟨fun hi => ⟨vs, h1, by rw [h2.len]; exact hi⟩, fun x hx => ?_⟩
  obtain ⟨v, hv, r⟩ := h2.get hx
  refine ⟨⟨vs, v, h1, hv⟩, fun v' H' y => ?_⟩
  obtain ⟨rfl, y⟩ := y
  have := y vs h1
  rw [hv] at this
  cases this
  exact Wd.fact W r
theorem gv_enum (h : ∀ b e, Ls K (S.cx b e) (S.ow b e) t xs (.ref a)) : Gives K B S (Ite K a) t (enumI 0 xs) := fun i b e H W => by
  have en : ∀ (k : Int) (xs : List α) (i : Nat) (p : Int × α), (enumI k xs)[i]? = some p → p.1 = k + i ∧ xs[i]? = some p.2 := by
    intro k xs
    induction xs generalizing k with
    | nil => intro i p h; simp [enumI] at h
    | cons x xs ih =>
      intro i p h
      cases i with
      | zero => simp [enumI] at h; subst h; exact ⟨by simp, rfl⟩
      | succ i =>
        obtain ⟨h1, h2⟩ := ih (k + 1) i p (by simpa [enumI] using h)
        exact ⟨by rw [h1]; omega, by simpa using h2⟩
  have el : ∀ (k : Int) (xs : List α), (enumI k xs).length = xs.length := by
    intro k xs
    induction xs generalizing k with
    | nil => rfl
    | cons x xs ih => exact congrArg (· + 1) (ih (k + 1))
  obtain ⟨N, F, W⟩ := W
  obtain ⟨a', vs, ea, h1, h2⟩ := h b e B H N F W
  cases ea
  refine ⟨fun hi => ⟨vs, h1, by rw [h2.len, ← el 0]; exact hi⟩, fun x hx => ?_⟩
  obtain ⟨e1, e2⟩ := en 0 xs i x hx
  obtain ⟨v, hv, r⟩ := h2.get e2
  refine ⟨⟨vs, v, h1, hv⟩, fun v' H' y => ?_⟩
  obtain ⟨p, w, rfl, hp, rfl, y⟩ := y
  have := y vs h1
  rw [hv] at this
  cases this
  refine Wd.newT W hp t fun N' F' s s' q => ⟨p, _, v, rfl, q, ?_, Rp.mono (reg_mono s s') r⟩
  show V.int (i : Nat) = .int x.1
  rw [e1]
  simp
theorem gv_zip {δ : Type} [Rp δ] {ys : List δ} {c : Addr} (h : ∀ b e, Ls K (S.cx b e) (S.ow b e) t xs (.ref a)) (h' : ∀ b e, Ls K (S.cx b e) (S.ow b e) t ys (.ref c)) : Gives K B S (Itz K a c) t (xs.zip ys) := fun i b e H W => by
  obtain ⟨N, F, W⟩ := W
  obtain ⟨a', vs, ea, h1, h2⟩ := h b e B H N F W
  cases ea
  obtain ⟨a', ws, ea, h3, h4⟩ := h' b e B H N F W
  cases ea
  refine ⟨fun hi => ⟨vs, ws, h1, h3, ?_⟩, fun x hx => ?_⟩
  · rw [List.length_zip] at hi
    rw [h2.len, h4.len]
    omega
  · obtain ⟨e1, e2⟩ := List.getElem?_zip_eq_some.mp hx
    obtain ⟨v, hv, r⟩ := h2.get e1
    obtain ⟨w, hw, r'⟩ := h4.get e2
    refine ⟨⟨vs, ws, v, w, h1, h3, hv, hw⟩, fun v' H' y => ?_⟩
    obtain ⟨p, u, z, rfl, hp, rfl, y1, y2⟩ := y
    have t1 := y1 vs h1
    have t2 := y2 ws h3
    rw [hv] at t1
    rw [hw] at t2
    cases t1
    cases t2
    exact Wd.newT W hp t fun N' F' s s' q => ⟨p, v, w, rfl, q, Rp.mono (reg_mono s s') r, Rp.mono (reg_mono s s') r'⟩
theorem rangeF_get : ∀ (n : Nat) (lo : Int) (i : Nat) (x : Int), (rangeF lo n)[i]? = some x → i < n ∧ x = lo + i
  | 0, _, _, _, h => by simp [rangeF] at h
  | n + 1, lo, 0, x, h => by simp [rangeF] at h; subst h; exact ⟨by omega, by simp⟩
  | n + 1, lo, i + 1, x, h => by
    obtain ⟨h1, h2⟩ := rangeF_get n (lo + 1) i x (by simpa [rangeF] using h)
    exact ⟨by omega, by rw [h2]; omega⟩
theorem rangeF_len : ∀ (n : Nat) (lo : Int), (rangeF lo n).length = n
  | 0, _ => rfl
  | n + 1, lo => congrArg (· + 1) (rangeF_len n (lo + 1))
theorem rangeB_get : ∀ (n : Nat) (lo : Int) (i : Nat) (x : Int), (rangeB lo n)[i]? = some x → i < n ∧ x = lo - i
  | 0, _, _, _, h => by simp [rangeB] at h
  | n + 1, lo, 0, x, h => by simp [rangeB] at h; subst h; exact ⟨by omega, by simp⟩
  | n + 1, lo, i + 1, x, h => by
    obtain ⟨h1, h2⟩ := rangeB_get n (lo - 1) i x (by simpa [rangeB] using h)
    exact ⟨by omega, by rw [h2]; omega⟩
theorem rangeB_len : ∀ (n : Nat) (lo : Int), (rangeB lo n).length = n
  | 0, _ => rfl
  | n + 1, lo => congrArg (· + 1) (rangeB_len n (lo - 1))
theorem gv_rng {S : Shp β ε} {lo : Int} {n : Nat} : Gives K B S (Itr lo n) true (rangeF lo n) := fun i b e H W => by
  refine ⟨fun hi => by rw [rangeF_len] at hi; exact hi, fun x hx => ?_⟩
  obtain ⟨h1, h2⟩ := rangeF_get n lo i x hx
  refine ⟨h1, fun v H' y => ?_⟩
  obtain ⟨rfl, rfl⟩ := y
  rw [h2]
  exact W.know Kn.int
theorem gv_rgb {S : Shp β ε} {lo : Int} {n : Nat} : Gives K B S (Itc lo (-1) n) true (rangeB lo n) := fun i b e H W => by
  refine ⟨fun hi => by rw [rangeB_len] at hi; exact hi, fun x hx => ?_⟩
  obtain ⟨h1, h2⟩ := rangeB_get n lo i x hx
  refine ⟨h1, fun v H' y => ?_⟩
  obtain ⟨rfl, rfl⟩ := y
  rw [h2, show lo + (i : Int) * -1 = lo - i by omega]
  exact W.know Kn.int
/-- a tuple of like things that is walked: laid in the frame as a raw fact -/
def fT (t : Bool) {α : Type} [Rp α] (xs : List α) (v : V) : Fact := ⟨fun K N F => ∃ a vs, v = .ref a ∧ (reg t K N F).t a vs ∧ All2 (Rp.rep (reg t K N F)) xs vs,
  fun h1 h2 ⟨a, vs, e, h, r⟩ => ⟨a, vs, e, (reg_mono h1 h2).t _ _ h, r.mono fun _ _ q => Rp.mono (reg_mono h1 h2) q⟩⟩
theorem w_tupL {ctx : List Fact} {L : List Own} {H : Hp} {Q : VK} {vs : List V} (W : Wd K B ctx L H) (h : KnL K ctx t xs vs) (hz : vs.length ≤ sizeLine) (k : ∀ p H', Wd K B (fT t xs (.ref p) :: ctx) L H' → Q (.ref p) H') : rTup vs H Q := by
  obtain ⟨N, F, W⟩ := W
  exact ⟨hz, fun p hp => k p _ (Wd.newT W hp t fun N' F' s s' q => ⟨p, vs, rfl, q, (h N F W.nF W.facts).mono fun _ _ r => Rp.mono (reg_mono s s') r⟩)⟩
theorem gv_tup (j : β → ε → Nat) (h : ∀ b e, (S.cx b e)[j b e]? = some (fT t xs (.ref a))) : Gives K B S (Itt K a) t xs := fun i b e H W => by
  obtain ⟨N, F, W⟩ := W
  obtain ⟨a', vs, ea, h1, h2⟩ := W.facts _ (List.mem_of_getElem? (h b e))
  cases ea
  have h1 := (reg_A W.nF W.fH).t _ _ h1
  refine ⟨fun hi => ⟨vs, h1, by rw [h2.len]; exact hi⟩, fun x hx => ?_⟩
  obtain ⟨v, hv, r⟩ := h2.get hx
  refine ⟨⟨vs, v, h1, hv⟩, fun v' H' y => ?_⟩
  obtain ⟨rfl, y⟩ := y
  have := y vs h1
  rw [hv] at this
  cases this
  exact Wd.fact W r
end
/-! ### comprehensions -/
section
variable {S : Shp β ε} {H : Hp} {σ : L2.St} {g : TG} {tt : TT} {te : TE} {vs : List Nat} {Q : VK} {J : It} {t td : Bool} {xs : List α} {b0 b1 : β} {e0 : ε}
/-- the shape with the new list -/
def withD (S : Shp β ε) (td : Bool) (D : Addr) : Shp (β × List γ) ε := ⟨fun b e => S.sg b.1 e, fun b e => S.cx b.1 e, fun b e => oL td D b.2 :: S.ow b.1 e⟩
def NC (K : PySem.W.Frag) (B : Hp) (S : Shp β ε) (td : Bool) (D : Addr) (b : β) (acc : List γ) (H : Hp) : Prop := ∃ e, Wd K B (S.cx b e) (oL td D acc :: S.ow b e) H
theorem c_core {f : α → β → Option (Option γ × β)} {F : List α → β → Option (List γ × β)} {ys : List γ} (S : Shp β ε) (e0 : ε) (td : Bool)
    (hF0 : ∀ b, F [] b = some ([], b)) (hF1 : ∀ x xs b, F (x :: xs) b = (f x b).bind fun p => (F xs p.2).bind fun q => some (p.1.toList ++ q.1, q.2))
    (hm : F xs b0 = some (ys, b1)) (hz : xs.length ≤ sizeLine) (W : Wd K B (S.cx b0 e0) (S.ow b0 e0) H) (hJ : ∀ D, Gives K B (withD (γ := γ) S td D) J t xs)
    (step : ∀ D x v b e acc H' p, acc.length < sizeLine → Wd K B (fc t x v :: S.cx b e) (oL td D acc :: S.ow b e) H' → f x b = some p → g v (wipe σ vs) H' fun σ2 H2 => wipe σ2 vs = wipe σ vs ∧ tt σ2 H2 fun c H3 =>
      if c = true then te σ2 H3 (rElt D (NC K B S td D p.2 (acc ++ p.1.toList))) else NC K B S td D p.2 (acc ++ p.1.toList) H3)
    (done : ∀ D e H, Wd K B (S.cx b1 e) (oL td D ys :: S.ow b1 e) H → Q (.ref D) H) : rLc J g tt te vs σ H Q := fun D hD => by
  obtain ⟨N, F0, W⟩ := W
  have W1 : Wd K B (S.cx b0 e0) (oL td D ([] : List γ) :: S.ow b0 e0) (upd H D (.lst [])) := Wd.newL W hD trivial
  refine ⟨fun i m H => m = xs.length - i ∧ ∃ b e acc ys', F (xs.drop i) b = some (ys', b1) ∧ acc ++ ys' = ys ∧ acc.length ≤ i ∧ Wd K B (S.cx b e) (oL td D acc :: S.ow b e) H, ⟨_, rfl, b0, e0, [], ys, hm, rfl, Nat.le_refl _, W1⟩, ?_⟩
  rintro i m H ⟨rfl, b, e, acc, ys', hm, hys, hacc, W⟩
  obtain ⟨h1, h2⟩ := hJ D i (b, acc) e H W
  by_cases hi : i < xs.length
  · have hx : xs[i]? = some xs[i] := List.getElem?_eq_getElem hi
    obtain ⟨h3, h4⟩ := h2 _ hx
    rw [List.drop_eq_getElem_cons hi, hF1] at hm
    obtain ⟨p, q, hm⟩ := bndE hm
    obtain ⟨r, q2, hm⟩ := bndE hm
    have hm := Option.some.inj hm
    refine .inr ⟨h3, NC K B S td D p.2 (acc ++ p.1.toList), ?_, fun v H' y => step D _ v b e acc H' p (by omega) (h4 v H' y) q⟩
    rintro H'' ⟨e', W'⟩
    refine ⟨xs.length - (i + 1), by omega, rfl, p.2, e', acc ++ p.1.toList, r.1, ?_, ?_, ?_, W'⟩
    · rw [q2, ← (Prod.mk.inj hm).2]
    · rw [List.append_assoc, (Prod.mk.inj hm).1, hys]
    · rw [List.length_append]
      cases p.1 with
      | none => simp; omega
      | some z => simp; omega
  · rw [List.drop_eq_nil_of_le (by omega), hF0] at hm
    cases hm
    rw [List.append_nil] at hys
    subst hys
    exact .inl ⟨h1 (by omega), done D e H W⟩
theorem w_elt {ctx : List Fact} {L : List Own} {acc : List γ} {y : γ} {v : V} {D : Addr} {Nx : Hp → Prop} (W : Wd K B ctx (oL td D acc :: L) H) (h : Kn K ctx td y v) (hz : acc.length < sizeLine)
    (k : ∀ H', Wd K B ctx (oL td D (acc ++ [y]) :: L) H' → Nx H') : rElt D Nx v H := by
  obtain ⟨N, F, W⟩ := W
  obtain ⟨o, h1, vs, rfl, h2⟩ := W.at_ _ List.mem_cons_self
  exact ⟨vs, h1, by rw [h2.len]; exact hz, k _ (Wd.put (o' := oL td D (acc ++ [y])) W 0 rfl rfl _ ⟨_, rfl, h2.app (.one (h N F W.nF W.facts))⟩)⟩
/-- [e for x in xs] -/
theorem w_map {ctx : List Fact} {L : List Own} {f : α → Option γ} {ys : List γ} (td : Bool) (hm : mapO f xs = some ys) (W : Wd K B ctx L H) (hJ : ∀ D, Gives K B (withD (γ := γ) (⟨fun _ _ => σ, fun _ _ => ctx, fun _ _ => L⟩ : Shp Unit Unit) td D) J t xs)
    (step : ∀ D x v acc H' y, acc.length < sizeLine → Wd K B (fc t x v :: ctx) (oL td D acc :: L) H' → f x = some y → g v (wipe σ vs) H' fun σ2 H2 => wipe σ2 vs = wipe σ vs ∧ tt σ2 H2 fun c H3 =>
      if c = true then te σ2 H3 (rElt D (NC K B (⟨fun _ _ => σ, fun _ _ => ctx, fun _ _ => L⟩ : Shp Unit Unit) td D () (acc ++ [y]))) else NC K B (⟨fun _ _ => σ, fun _ _ => ctx, fun _ _ => L⟩ : Shp Unit Unit) td D () (acc ++ [y]) H3)
    (done : ∀ D H, Wd K B ctx (oL td D ys :: L) H → Q (.ref D) H) : rLc J g tt te vs σ H Q := by
  obtain ⟨hz, hm⟩ : xs.length ≤ sizeLine ∧ mapG f xs = some ys := by
    unfold mapO at hm
    by_cases h : xs.length ≤ sizeLine
    · rw [if_pos h] at hm; exact ⟨h, hm⟩
    · rw [if_neg h] at hm; cases hm
  refine c_core (f := fun x (_ : Unit) => (f x).map fun y => (some y, ())) (F := fun xs _ => (mapG f xs).map fun ys => (ys, ())) (b1 := ()) (⟨fun _ _ => σ, fun _ _ => ctx, fun _ _ => L⟩ : Shp Unit Unit) () td (fun _ => rfl) (fun x xs b => ?_) (b0 := ()) (by rw [hm]; rfl) hz W hJ
    (fun D x v b e acc H' p ha W hp => ?_) (fun D e H W => done D H W)
  · rw [mapG]
    cases f x with
    | none => rfl
    | some y => cases mapG f xs with
      | none => rfl
      | some ys => rfl
  · cases q : f x with
    | none => rw [q] at hp; cases hp
    | some y =>
      rw [q] at hp
      cases hp
      exact step D x v acc H' y ha W q
/-- [e for x in xs if c] -/
theorem w_cmp {ctx : List Fact} {L : List Own} {f : α → Option (Option γ)} {ys : List γ} (td : Bool) (hm : cmpO f xs = some ys) (W : Wd K B ctx L H) (hJ : ∀ D, Gives K B (withD (γ := γ) (⟨fun _ _ => σ, fun _ _ => ctx, fun _ _ => L⟩ : Shp Unit Unit) td D) J t xs)
    (step : ∀ D x v acc H' y, acc.length < sizeLine → Wd K B (fc t x v :: ctx) (oL td D acc :: L) H' → f x = some y → g v (wipe σ vs) H' fun σ2 H2 => wipe σ2 vs = wipe σ vs ∧ tt σ2 H2 fun c H3 =>
      if c = true then te σ2 H3 (rElt D (NC K B (⟨fun _ _ => σ, fun _ _ => ctx, fun _ _ => L⟩ : Shp Unit Unit) td D () (acc ++ y.toList))) else NC K B (⟨fun _ _ => σ, fun _ _ => ctx, fun _ _ => L⟩ : Shp Unit Unit) td D () (acc ++ y.toList) H3)
    (done : ∀ D H, Wd K B ctx (oL td D ys :: L) H → Q (.ref D) H) : rLc J g tt te vs σ H Q := by
  obtain ⟨hz, hm⟩ : xs.length ≤ sizeLine ∧ cmpG f xs = some ys := by
    unfold cmpO at hm
    by_cases h : xs.length ≤ sizeLine
    · rw [if_pos h] at hm; exact ⟨h, hm⟩
    · rw [if_neg h] at hm; cases hm
  refine c_core (f := fun x (_ : Unit) => (f x).map fun y => (y, ())) (F := fun xs _ => (cmpG f xs).map fun ys => (ys, ())) (b1 := ()) (⟨fun _ _ => σ, fun _ _ => ctx, fun _ _ => L⟩ : Shp Unit Unit) () td (fun _ => rfl) (fun x xs b => ?_) (b0 := ()) (by rw [hm]; rfl) hz W hJ
    (fun D x v b e acc H' p ha W hp => ?_) (fun D e H W => done D H W)
  · rw [cmpG]
    cases f x with
    | none => rfl
    | some y => cases cmpG f xs with
      | none => rfl
      | some ys => cases y <;> rfl
  · cases q : f x with
    | none => rw [q] at hp; cases hp
    | some y =>
      rw [q] at hp
      cases hp
      exact step D x v acc H' y ha W q
/-- [e for x in xs], e with a state -/
theorem w_maps {f : α → β → Option (γ × β)} {r : List γ × β} (S : Shp β ε) (e0 : ε) (td : Bool) (hm : mapSO f xs b0 = some r) (W : Wd K B (S.cx b0 e0) (S.ow b0 e0) H) (hJ : ∀ D, Gives K B (withD (γ := γ) S td D) J t xs)
    (step : ∀ D x v b e acc H' p, acc.length < sizeLine → Wd K B (fc t x v :: S.cx b e) (oL td D acc :: S.ow b e) H' → f x b = some p → g v (wipe σ vs) H' fun σ2 H2 => wipe σ2 vs = wipe σ vs ∧ tt σ2 H2 fun c H3 =>
      if c = true then te σ2 H3 (rElt D (NC K B S td D p.2 (acc ++ [p.1]))) else NC K B S td D p.2 (acc ++ [p.1]) H3)
    (done : ∀ D e H, Wd K B (S.cx r.2 e) (oL td D r.1 :: S.ow r.2 e) H → Q (.ref D) H) : rLc J g tt te vs σ H Q := by
  obtain ⟨hz, hm⟩ : xs.length ≤ sizeLine ∧ mapSG f xs b0 = some r := by
    unfold mapSO at hm
    by_cases h : xs.length ≤ sizeLine
    · rw [if_pos h] at hm; exact ⟨h, hm⟩
    · rw [if_neg h] at hm; cases hm
  refine c_core (f := fun x b => (f x b).map fun y => (some y.1, y.2)) (F := mapSG f) S e0 td (fun _ => rfl) (fun x xs b => ?_) (ys := r.1) (b1 := r.2) hm hz W hJ (fun D x v b e acc H' p ha W hp => ?_) done
  · rw [mapSG]
    cases f x b with
    | none => rfl
    | some y => rfl
  · cases q : f x b with
    | none => rw [q] at hp; cases hp
    | some y =>
      rw [q] at hp
      cases hp
      exact step D x v b e acc H' y ha W q
/-- [e for x in xs if c], with a state -/
theorem w_cmps {f : α → β → Option (Option γ × β)} {r : List γ × β} (S : Shp β ε) (e0 : ε) (td : Bool) (hm : cmpSO f xs b0 = some r) (W : Wd K B (S.cx b0 e0) (S.ow b0 e0) H) (hJ : ∀ D, Gives K B (withD (γ := γ) S td D) J t xs)
    (step : ∀ D x v b e acc H' p, acc.length < sizeLine → Wd K B (fc t x v :: S.cx b e) (oL td D acc :: S.ow b e) H' → f x b = some p → g v (wipe σ vs) H' fun σ2 H2 => wipe σ2 vs = wipe σ vs ∧ tt σ2 H2 fun c H3 =>
      if c = true then te σ2 H3 (rElt D (NC K B S td D p.2 (acc ++ p.1.toList))) else NC K B S td D p.2 (acc ++ p.1.toList) H3)
    (done : ∀ D e H, Wd K B (S.cx r.2 e) (oL td D r.1 :: S.ow r.2 e) H → Q (.ref D) H) : rLc J g tt te vs σ H Q := by
  obtain ⟨hz, hm⟩ : xs.length ≤ sizeLine ∧ cmpSG f xs b0 = some r := by
    unfold cmpSO at hm
    by_cases h : xs.length ≤ sizeLine
    · rw [if_pos h] at hm; exact ⟨h, hm⟩
    · rw [if_neg h] at hm; cases hm
  exact c_core (f := f) (F := cmpSG f) S e0 td (fun _ => rfl) (fun x xs b => rfl) (ys := r.1) (b1 := r.2) hm hz W hJ step done
end
end
end PB

namespace PB
open PySem PySem.Spec PyProof.Rows L2
/-! ### the walk's single steps -/
def fuelW : Nat := 10 ^ 40
def sqO (i : Int) : Option Int := if i.natAbs < 2 ^ 64 then some (i * i) else none
theorem some_inj {α : Type} {a b : α} (h : some a = some b) : a = b := Option.some.inj h
section
variable {K : PySem.W.Frag} {B H H' : Hp} {ctx : List Fact} {L L' : List Own} {t t' : Bool} {α β γ : Type} [Rp α] [Rp β] [Rp γ] {x : α} {y : β} {xs ys : List α} {v w u : V} {vs : List V} {a c : Addr} {Q : VK} {i j k n : Int} {σ : L2.St} {R : It → Hp → Prop}
theorem w_mul (h : mulO i j = some n) (q : Q (.int n) H) : rMulA (.int i) (.int j) H Q := by
  obtain ⟨hc, rfl⟩ := guardE h
  exact i_mulI hc q
theorem w_fdiv (h : fdivO i j = some n) (q : Q (.int n) H) : rI CDivW (fun i j => .int (i / j)) (.int i) (.int j) H Q := by
  obtain ⟨hc, rfl⟩ := guardE h
  exact i_I hc q
theorem w_mod (h : modO i j = some n) (q : Q (.int n) H) : rI (fun _ j => 0 < j) (fun i j => .int (i % j)) (.int i) (.int j) H Q := by
  obtain ⟨hc, rfl⟩ := guardE h
  exact i_I hc q
theorem w_sq (h : sqO i = some n) (q : Q (.int n) H) : rI CPow (fun i j => .int (i ^ j.toNat)) (.int i) (.int 2) H Q := by
  obtain ⟨hc, rfl⟩ := guardE h
  exact i_sq hc q
theorem w_pow (h : powO i j = some n) (q : Q (.int n) H) : rI CPow (fun i j => .int (i ^ j.toNat)) (.int i) (.int j) H Q := by
  obtain ⟨hc, rfl⟩ := guardE h
  exact i_I hc q
theorem w_rg1 {xs : List Int} (h : range1 j = some xs) (k : xs = rangeF 0 j.toNat → R (Itr 0 j.toNat) H) : rRg1 [.int j] H R := by
  obtain ⟨hc, e⟩ := guardE h
  exact i_rg1 hc.1 hc.2 (k e.symm)
theorem w_rg2 {xs : List Int} (h : range2 i j = some xs) (k : xs = rangeF i (j - i).toNat → R (Itr i (j - i).toNat) H) : rRg2 [.int i, .int j] H R := by
  obtain ⟨hc, e⟩ := guardE h
  exact i_rg2 ⟨hc.1.1, hc.1.2, hc.2.1, hc.2.2⟩ (k e.symm)
theorem w_rgD {xs : List Int} (h : rangeD i j = some xs) (k : xs = rangeB i (i - j).toNat → R (Itc i (-1) (i - j).toNat) H) : rRg3 [.int i, .int j, .int (-1)] H R := by
  obtain ⟨hc, e⟩ := guardE h
  exact i_rg3n ⟨hc.1.1, hc.1.2, hc.2.1, hc.2.2⟩ (k e.symm)
theorem w_itL (W : Wd K B ctx L H) (h : Ls K ctx L t xs (.ref a)) (k : R (Itl K a) H) : rItL K (.ref a) H R := by
  obtain ⟨N, F, W⟩ := W
  obtain ⟨a', vs, e, h1, h2⟩ := h B H N F W
  cases e
  exact i_itL h1 k
theorem w_itT (W : Wd K B ctx L H) (m : Nat) (h : ctx[m]? = some (fT t xs (.ref a))) (k : R (Itt K a) H) : rItT K (.ref a) H R := by
  obtain ⟨N, F, W⟩ := W
  obtain ⟨a', vs, e, h1, h2⟩ := W.facts _ (List.mem_of_getElem? h)
  cases e
  exact i_itT ((reg_A W.nF W.fH).t _ _ h1) k
theorem w_en (W : Wd K B ctx L H) (h : Ls K ctx L t xs (.ref a)) (k : R (Ite K a) H) : rEn K [.ref a] H R := by
  obtain ⟨N, F, W⟩ := W
  obtain ⟨a', vs, e, h1, h2⟩ := h B H N F W
  cases e
  exact i_en h1 k
theorem w_zp (W : Wd K B ctx L H) (h : Ls K ctx L t xs (.ref a)) (h' : Ls K ctx L t' ys (.ref c)) (k : R (Itz K a c) H) : rZp K [.ref a, .ref c] H R := by
  obtain ⟨N, F, W⟩ := W
  obtain ⟨a', vs, e, h1, h2⟩ := h B H N F W
  cases e
  obtain ⟨c', ws, e, h3, h4⟩ := h' B H N F W
  cases e
  exact i_zp h1 h3 k
theorem Wd.eqI {i : Int} (W : Wd K B ctx L H) (h : Kn K ctx t i v) : v = .int i := by
  obtain ⟨N, F, W⟩ := W
  exact h N F W.nF W.facts
theorem Wd.eqB {i : Bool} (W : Wd K B ctx L H) (h : Kn K ctx t i v) : v = .bl i := by
  obtain ⟨N, F, W⟩ := W
  exact h N F W.nF W.facts
theorem Wd.eqS {i : PySem.Str} (W : Wd K B ctx L H) (h : Kn K ctx t i v) : v = .str i := by
  obtain ⟨N, F, W⟩ := W
  exact h N F W.nF W.facts
theorem Wd.eqU {i : Unit} (W : Wd K B ctx L H) (h : Kn K ctx t i v) : v = .non := by
  obtain ⟨N, F, W⟩ := W
  exact h N F W.nF W.facts
theorem Wd.eqL (W : Wd K B ctx L H) (h : Kn K ctx t xs v) : ∃ a, v = .ref a := by
  obtain ⟨N, F, W⟩ := W
  obtain ⟨a, vs, e, _⟩ := h N F W.nF W.facts
  exact ⟨a, e⟩
theorem Wd.eqScr {x : Scr} (W : Wd K B ctx L H) (h : Kn K ctx t x v) : ∃ a, v = .ref a := by
  obtain ⟨N, F, W⟩ := W
  obtain ⟨a, e, _⟩ := h N F W.nF W.facts
  exact ⟨a, e⟩
theorem Wd.eqP {p : α × β} (W : Wd K B ctx L H) (h : Kn K ctx t p v) : ∃ a, v = .ref a := by
  obtain ⟨N, F, W⟩ := W
  obtain ⟨a, _, _, e, _⟩ := h N F W.nF W.facts
  exact ⟨a, e⟩
theorem Wd.eq3 {p : T3 α β γ} (W : Wd K B ctx L H) (h : Kn K ctx t p v) : ∃ a, v = .ref a := by
  obtain ⟨N, F, W⟩ := W
  obtain ⟨a, _, _, _, e, _⟩ := h N F W.nF W.facts
  exact ⟨a, e⟩
theorem i_bT {b : Bool} {A C : Prop} (hb : b = true) (h : A) : if b = true then A else C := by
  rw [if_pos hb]
  exact h
theorem i_bF {b : Bool} {A C : Prop} (hb : b = false) (h : C) : if b = true then A else C := by
  rw [if_neg (by rw [hb]; exact Bool.false_ne_true)]
  exact h
theorem and_t {b c : Bool} (hb : b = true) : c = (b && c) := by rw [hb]; rfl
theorem and_f {b c : Bool} (hb : b = false) : false = (b && c) := by rw [hb]; rfl
theorem or_t {b c : Bool} (hb : b = true) : true = (b || c) := by rw [hb]; rfl
theorem or_f {b c : Bool} (hb : b = false) : c = (b || c) := by rw [hb]; rfl
theorem w_andW {b : Bool} (c : Bool) {tt : TT} {P : Bool → Hp → Prop} (W : Wd K B ctx L H) (h1 : b = true → ∀ P' : Bool → Hp → Prop, (∀ d H', d = c → Wd K B ctx L' H' → P' d H') → tt σ H P') (h2 : b = false → false = c ∧ Wd K B ctx L' H) (h3 : ∀ H', Wd K B ctx L' H' → P c H') : if b = true then tt σ H P else P false H :=
  w_and (fun d H' => d = c ∧ Wd K B ctx L' H') (fun hb P' q => h1 hb P' fun d H' e W => q d H' ⟨e, W⟩) (fun hb => h2 hb) (fun d H' ⟨e, W⟩ => by rw [e]; exact h3 H' W)
theorem w_orW {b : Bool} (c : Bool) {tt : TT} {P : Bool → Hp → Prop} (W : Wd K B ctx L H) (h1 : b = false → ∀ P' : Bool → Hp → Prop, (∀ d H', d = c → Wd K B ctx L' H' → P' d H') → tt σ H P') (h2 : b = true → true = c ∧ Wd K B ctx L' H) (h3 : ∀ H', Wd K B ctx L' H' → P c H') {X : Prop} (hX : P true H = X := by rfl) : if b = true then X else tt σ H P := by
  subst hX
  exact w_or (fun d H' => d = c ∧ Wd K B ctx L' H') (fun hb P' q => h1 hb P' fun d H' e W => q d H' ⟨e, W⟩) (fun hb => h2 hb) (fun d H' ⟨e, W⟩ => by rw [e]; exact h3 H' W)
theorem w_andVW {b : Bool} (c : Bool) {te : TE} (W : Wd K B ctx L H) (h1 : b = true → ∀ P' : VK, (∀ d H', d = c → Wd K B ctx L' H' → P' (.bl d) H') → te σ H P') (h2 : b = false → false = c ∧ Wd K B ctx L' H) (h3 : ∀ H', Wd K B ctx L' H' → Q (.bl c) H') : if b = true then te σ H Q else Q (.bl false) H :=
  w_andV (fun d H' => d = .bl c ∧ Wd K B ctx L' H') (fun hb P' q => h1 hb P' fun d H' e W => q _ H' ⟨by rw [e], W⟩) (fun hb => ⟨by rw [(h2 hb).1], (h2 hb).2⟩) (fun d H' ⟨e, W⟩ => by rw [e]; exact h3 H' W)
theorem w_orVW {b : Bool} (c : Bool) {te : TE} (W : Wd K B ctx L H) (h1 : b = false → ∀ P' : VK, (∀ d H', d = c → Wd K B ctx L' H' → P' (.bl d) H') → te σ H P') (h2 : b = true → true = c ∧ Wd K B ctx L' H) (h3 : ∀ H', Wd K B ctx L' H' → Q (.bl c) H') {X : Prop} (hX : Q (.bl true) H = X := by rfl) : if b = true then X else te σ H Q := by
  subst hX
  exact w_orV (fun d H' => d = .bl c ∧ Wd K B ctx L' H') (fun hb P' q => h1 hb P' fun d H' e W => q _ H' ⟨by rw [e], W⟩) (fun hb => ⟨by rw [(h2 hb).1], (h2 hb).2⟩) (fun d H' ⟨e, W⟩ => by rw [e]; exact h3 H' W)
theorem w_chainW {b : Bool} (c : Bool) {te : TE} {r' : R2} {y : V} (W : Wd K B ctx L H) (h1 : b = true → ∀ P' : VK, (∀ d H', d = c → Wd K B ctx L' H' → P' (.bl d) H') → te σ H fun w' H5 => r' y w' H5 P') (h2 : b = false → false = c ∧ Wd K B ctx L' H) (h3 : ∀ H', Wd K B ctx L' H' → Q (.bl c) H') : if b = true then te σ H (fun w' H5 => r' y w' H5 Q) else Q (.bl false) H :=
  w_andVW (te := fun σ H P => te σ H fun w' H5 => r' y w' H5 P) c W h1 h2 h3
/-- if-else as an expression: the value x, by its word -/
theorem w_iteW {b : Bool} (x : α) (t : Bool) {ta tb : TE} (W : Wd K B ctx L H) (h1 : b = true → ∀ P' : VK, (∀ v H', Wd K B (fc t x v :: ctx) L' H' → P' v H') → ta σ H P') (h2 : b = false → ∀ P' : VK, (∀ v H', Wd K B (fc t x v :: ctx) L' H' → P' v H') → tb σ H P') (h3 : ∀ v H', Wd K B (fc t x v :: ctx) L' H' → Q v H') : if b = true then ta σ H Q else tb σ H Q :=
  w_ite (fun v H' => Wd K B (fc t x v :: ctx) L' H') h1 h2 h3
theorem i_isBl {a b : Bool} (h : Q (.bl (decide (a = b))) H) : rIsB (.bl a) (.bl b) H Q := ⟨a, b, rfl, rfl, h⟩
theorem i_notBl {a b : Bool} (h : Q (.bl (!decide (a = b))) H) : rNotB (.bl a) (.bl b) H Q := ⟨a, b, rfl, rfl, h⟩
theorem w_fstP {p : α × β} (W : Wd K B ctx L H) (h : Kn K ctx t p v) (k : ∀ u, Wd K B (fc t p.1 u :: ctx) L H → Q u H) : rIx K v (.int 0) H Q := w_fst (x := p.1) (y := p.2) W h k
theorem w_sndP {p : α × β} (W : Wd K B ctx L H) (h : Kn K ctx t p v) (k : ∀ u, Wd K B (fc t p.2 u :: ctx) L H → Q u H) : rIx K v (.int 1) H Q := w_snd (x := p.1) (y := p.2) W h k
theorem w_unpP {p : α × β} {g : TGs} {R : L2.St → Hp → Prop} (W : Wd K B ctx L H) (h : Kn K ctx t p v) (k : ∀ u w, Wd K B (fc t p.1 u :: fc t p.2 w :: ctx) L H → g [u, w] σ H R) : rUnp K 2 g v σ H R := w_unp2 (x := p.1) (y := p.2) W h k
end
/-- a value of one kind as one of another -/
class Co (α β : Type) [Rp α] [Rp β] where
  f : α → β
  h : ∀ {S : Lk} {x : α} {v : V}, Rp.rep S x v → Rp.rep S (f x) v
section
variable {α β γ δ : Type} [Rp α] [Rp β] [Rp γ] [Rp δ]
instance : Co α (Option α) := ⟨some, fun h => h⟩
instance : Co Unit (Option α) := ⟨fun _ => none, fun h => h⟩
theorem all2_map [Co α β] {S : Lk} : ∀ {xs : List α} {vs : List V}, All2 (Rp.rep S) xs vs → All2 (Rp.rep S) (xs.map (Co.f (β := β))) vs
  | [], [], _ => trivial
  | _ :: _, _ :: _, h => ⟨Co.h h.1, all2_map h.2⟩
  | [], _ :: _, h => h.elim
  | _ :: _, [], h => h.elim
instance [Co α β] : Co (List α) (List β) := ⟨List.map Co.f, fun ⟨a, vs, e, h, r⟩ => ⟨a, vs, e, h, all2_map r⟩⟩
theorem Kn.co [Co α β] {K : PySem.W.Frag} {ctx : List Fact} {t : Bool} {x : α} {v : V} (h : Kn K ctx t x v) : Kn K ctx t (Co.f x : β) v := fun N F s q => Co.h (h N F s q)
theorem Lx.co [Co α β] {K : PySem.W.Frag} {ctx : List Fact} {L : List Own} {t : Bool} {xs : List α} {v : V} (h : Lx K ctx L t xs v) : Lx K ctx L t (xs.map (Co.f (β := β))) v := fun B H N F W => by
  obtain ⟨a, vs, e, h1, h2⟩ := h B H N F W
  exact ⟨a, vs, e, h1, all2_map h2⟩
/-- one's own list read as one of another kind -/
theorem Wd.coO [Co α β] {K : PySem.W.Frag} {B H : Hp} {ctx : List Fact} {L : List Own} {t : Bool} {a : Addr} {xs : List α} (W : Wd K B ctx L H) (j : Nat) (hj : L[j]? = some (oL t a xs)) : Wd K B ctx (L.set j (oL t a (xs.map (Co.f (β := β))))) H := by
  obtain ⟨N, F, W⟩ := W
  have ea : (L.set j (oL t a (xs.map (Co.f (β := β))))).map (·.a) = L.map (·.a) := by
    rw [List.map_set]
    refine List.ext_getElem? fun i => ?_
    rw [List.getElem?_set]
    by_cases hi : j = i
    · subst hi
      have := (List.getElem?_eq_some_iff.mp hj).1
      rw [if_pos rfl, if_pos (by rw [List.length_map]; exact this), List.getElem?_map, hj]
      rfl
    · rw [if_neg hi]
  refine ⟨N, F, W.bF, W.nF, W.sep, W.fH, W.facts, fun o ho => ?_, fun o ho => ?_, by rw [ea]; exact W.nd⟩
  · rcases setMem' W.nd hj ho with rfl | ⟨h1, h2⟩
    · obtain ⟨h, e, vs, rfl, r⟩ := W.at_ _ (List.mem_of_getElem? hj)
      exact ⟨_, e, vs, rfl, all2_map r⟩
    · exact W.at_ o h1
  · rcases setMem' W.nd hj ho with rfl | ⟨h1, h2⟩
    · exact (W.off (oL t a xs) (List.mem_of_getElem? hj) : F a = none)
    · exact W.off o h1
/-- one's own list, its items no longer said to be new -/
theorem Wd.weakO {K : PySem.W.Frag} {B H : Hp} {ctx : List Fact} {L : List Own} {a : Addr} {xs : List α} (W : Wd K B ctx (oL true a xs :: L) H) : Wd K B ctx (oL false a xs :: L) H := by
  obtain ⟨N, F, W⟩ := W
  refine ⟨N, F, W.bF, W.nF, W.sep, W.fH, W.facts, fun o ho => ?_, fun o ho => ?_, W.nd⟩
  · rcases List.mem_cons.mp ho with rfl | ho
    · obtain ⟨h, e, vs, rfl, r⟩ := W.at_ _ List.mem_cons_self
      exact ⟨_, e, vs, rfl, r.mono fun _ _ q => Rp.mono (lkNA W.nF) q⟩
    · exact W.at_ o (List.mem_cons_of_mem _ ho)
  · rcases List.mem_cons.mp ho with rfl | ho
    · exact (W.off (oL true a xs) List.mem_cons_self : F a = none)
    · exact W.off o (List.mem_cons_of_mem _ ho)
end
theorem Wd.unopt {K : PySem.W.Frag} {B H : Hp} {ctx : List Fact} {L : List Own} {t : Bool} {α : Type} [Rp α] {x : Option α} {y : α} {v : V} (W : Wd K B ctx L H) (h : Kn K ctx t x v) (e : x = some y) : Wd K B (fc t y v :: ctx) L H := by
  subst e
  exact W.know h.un

section
variable {K : PySem.W.Frag} {B H H' : Hp} {ctx : List Fact} {L L' : List Own} {t t' : Bool} {α β γ : Type} [Rp α] [Rp β] [Rp γ] {x : α} {y : β} {xs ys : List α} {v w u : V} {vs : List V} {a c : Addr} {Q : VK} {i j k n : Int} {σ : L2.St} {R : It → Hp → Prop}
theorem Wd.arr (W : Wd K B ctx L H) (h : Ar K ctx L x v) : Rp.rep (lkA K H) x v := let ⟨N, F, W⟩ := W; h B H N F W
theorem Wd.ard (W : Wd K B ctx L H) (h : ArD K ctx L a x v) : Rp.rep (lkA K (PB.del H a)) x v := let ⟨N, F, W⟩ := W; h B H N F W
theorem Wd.ioa [Flat α] (W : Wd K B ctx L H) (m : Nat) (h : L[m]? = some (oL t a xs)) : ∃ us, H a = some (.lst us) ∧ All2 (Rp.rep (lkN fun _ => none)) xs us := by
  obtain ⟨N, F, W⟩ := W
  obtain ⟨o, h1, vs, rfl, h2⟩ := W.at_ _ (List.mem_of_getElem? h)
  exact ⟨vs, h1, h2.mono fun _ _ q => Flat.h _ _ _ _ q⟩
theorem Wd.call1U [Flat β] {i : Unit} {ys ys' : List β} {t' : Bool} (W : Wd K B ctx L H) (j : Nat) (hj : L[j]? = some (oL t' a ys)) (r : Res1 K H a (i, ys') v H') : v = .non ∧ Wd K B ctx (L.set j (oL t' a ys')) H' :=
  ⟨let ⟨_, _, _, _, h, _⟩ := r; h, (W.call1 j hj r).drop 1 rfl⟩
theorem Wd.call1S [Flat β] {i : PySem.Str} {ys ys' : List β} {t' : Bool} (W : Wd K B ctx L H) (j : Nat) (hj : L[j]? = some (oL t' a ys)) (r : Res1 K H a (i, ys') v H') : v = .str i ∧ Wd K B ctx (L.set j (oL t' a ys')) H' :=
  ⟨let ⟨_, _, _, _, h, _⟩ := r; h, (W.call1 j hj r).drop 1 rfl⟩
def twoO : List α → Option (α × α)
  | [a, b] => some (a, b)
  | _ => none
theorem w_unpL2 {p : α × α} {g : TGs} {R : L2.St → Hp → Prop} (W : Wd K B ctx L H) (h : Ls K ctx L t xs v) (e : twoO xs = some p) (k : ∀ u w, Wd K B (fc t p.1 u :: fc t p.2 w :: ctx) L H → g [u, w] σ H R) : rUnpL K 2 g v σ H R := by
  match xs, e with
  | [a, b], e =>
    cases e
    exact w_unpL W h k
/-- list(enumerate(xs)) -/
theorem w_le (W : Wd K B ctx L H) (h : Ls K ctx L t xs v) (k : ∀ p H', Wd K B (fc t (enumI 0 xs) (.ref p) :: ctx) L H' → Q (.ref p) H') : rLE K v H Q := by
  obtain ⟨N, F, W⟩ := W
  obtain ⟨a, vs, rfl, h1, h2⟩ := h B H N F W
  refine ⟨a, vs, rfl, h1, fun H' p ts s hp hts hn e pr => k p H' ?_⟩
  let R : Hp := fun b => if b = p ∨ b ∈ ts then H' b else none
  have sR : Same R H' := fun b u e => by
    show H' b = some u
    by_cases hb : b = p ∨ b ∈ ts
    · rw [show R b = H' b from if_pos hb] at e; exact e
    · rw [show R b = none from if_neg hb] at e; cases e
  have hR : ∀ b u, R b = some u → H b = none := fun b u e => by
    by_cases hb : b = p ∨ b ∈ ts
    · rcases hb with rfl | hb
      · exact hp
      · exact hts b hb
    · rw [show R b = none from if_neg hb] at e; cases e
  have J := Wd.joinI (L' := L) W (fun b u _ e => s b u e) sR hR (fun o ho => let ⟨h, e, q⟩ := W.at_ o ho; ⟨h, s _ _ e, fun N' F' a b => o.mono a b q⟩) rfl
  refine ⟨_, _, J.bF, J.nF, J.sep, J.fH, fun f hf => ?_, J.at_, J.off, J.nd⟩
  rcases List.mem_cons.mp hf with rfl | hf
  · have rN : Same R (join N R) := join_r fun a u e => W.nF.free (W.fH.free (hR a u e))
    have rF : Same R (join F R) := join_r fun a u e => W.fH.free (hR a u e)
    have hRp : R p = some (.lst (ts.map V.ref)) := by rw [show R p = H' p from if_pos (.inl rfl), e]
    have key : ∀ (ts' : List Addr) (xs : List α) (vs : List V) (i : Nat), All2 (Rp.rep (reg t K N F)) xs vs → (∀ b ∈ ts', b ∈ ts) → Paired (fun (t : Addr) (q : Key × V) => H' t = some (.tup [kV q.1, q.2])) ts' (enV i vs) → All2 (Rp.rep (reg t K (join N R) (join F R))) (enumI (i : Int) xs) (ts'.map V.ref) := by
      intro ts' xs
      induction xs generalizing ts' with
      | nil =>
        intro vs i h _ pr
        cases vs with
        | nil => cases pr; exact trivial
        | cons => exact h.elim
      | cons x xs ih =>
        intro vs i h hm pr
        cases vs with
        | nil => exact h.elim
        | cons v vs =>
          cases pr with
          | @cons b _ ts2 _ hb pr =>
            refine ⟨⟨b, _, _, rfl, ?_, rfl, Rp.mono (reg_mono join_l join_l) h.1⟩, ?_⟩
            · have hRb : R b = some (.tup [.int (i : Nat), v]) := by
                rw [show R b = H' b from if_pos (.inr (hm b List.mem_cons_self)), hb]
                rfl
              cases t
              · exact SqT.of (rF _ _ hRb)
              · exact rN _ _ hRb
            · have := ih ts2 vs (i + 1) h.2 (fun c hc => hm c (List.mem_cons_of_mem _ hc)) pr
              rw [show ((i + 1 : Nat) : Int) = (i : Int) + 1 by omega] at this
              exact this
    refine ⟨p, ts.map V.ref, rfl, ?_, ?_⟩
    · cases t
      · exact rF _ _ hRp
      · exact rN _ _ hRp
    · have := key ts xs vs 0 h2 (fun _ h => h) pr
      simpa using this
  · exact J.facts f hf
theorem w_eqScr {x : Scr} {ms : List Int} (W : Wd K B ctx L H) (h : Kn K ctx false x v) (h' : Ls K ctx L t ms w) (q : Q (.bl (decide (x.l = ms))) H) : rEqA K v w H Q := by
  obtain ⟨N, F, W⟩ := W
  obtain ⟨a, rfl, h1⟩ := h N F W.nF W.facts
  obtain ⟨b, vs, rfl, h3, h4⟩ := h' B H N F W
  rw [all2_int h4] at h3
  exact i_eqLI (W.fH.seq h1) h3 q
def rangeL (i j : Int) : Option (List Int) := if ok62 i ∧ ok62 j ∧ (j - i).toNat ≤ 2 ^ 24 then some (rangeF i (j - i).toNat) else none
theorem rgV_eq (i j : Int) : rgV i j = (rangeF i (j - i).toNat).map V.int := by
  unfold rgV
  refine List.ext_getElem? fun k => ?_
  rw [List.getElem?_map, List.getElem?_map]
  by_cases hk : k < (j - i).toNat
  · rw [List.getElem?_range hk]
    have hl : k < (rangeF i (j - i).toNat).length := by rw [rangeF_len]; exact hk
    rw [List.getElem?_eq_getElem hl, (rangeF_get _ _ _ _ (List.getElem?_eq_getElem hl)).2]
    rfl
  · rw [List.getElem?_eq_none (by rw [List.length_range]; omega), List.getElem?_eq_none (by rw [rangeF_len]; omega)]
    rfl
def rLRg (i j : Int) (H : Hp) (Q : VK) : Prop := RgOk i j ∧ ∀ q, H q = none → Q (.ref q) (upd H q (.lst (rgV i j)))
theorem i_lrg1 {ta : TE} (h : ta σ H fun x H1 => ∃ n, x = .int n ∧ rLRg 0 n H1 Q) : tLstRg (tRg1 ta) σ H Q := h
theorem i_lrg2 {ta tb : TE} (h : ta σ H fun x H1 => tb σ H1 fun y H2 => ∃ i j, x = .int i ∧ y = .int j ∧ rLRg i j H2 Q) : tLstRg (tRg2 ta tb) σ H Q := h
theorem w_lrg {xs : List Int} (W : Wd K B ctx L H) (h : rangeL i j = some xs) (k : ∀ p H', Wd K B ctx (oL true p xs :: L) H' → Q (.ref p) H') : rLRg i j H Q := by
  obtain ⟨⟨h1, h2, h3⟩, rfl⟩ := guardE h
  obtain ⟨N, F, W⟩ := W
  refine ⟨⟨h1.1, h1.2, h2.1, h2.2, h3⟩, fun q hq => ?_⟩
  rw [rgV_eq]
  exact k q _ (Wd.newL W hq (all2_ofInt _))
end

/-! ### more steps -/
instance [Rp α] [Flat α] : Flat (Option α) := ⟨fun S T x v h => by
  cases x with
  | none => exact h
  | some y => exact Flat.h (β := α) S T y v h⟩
instance : Flat Unit := ⟨fun _ _ _ _ h => h⟩
instance : Flat PySem.Str := ⟨fun _ _ _ _ h => h⟩
section
variable {K : PySem.W.Frag} {B H H' : Hp} {ctx : List Fact} {L L' : List Own} {t t' : Bool} {α β γ : Type} [Rp α] [Rp β] [Rp γ] {x : α} {y : β} {xs ys : List α} {v w u : V} {vs : List V} {a p c : Addr} {Q : VK} {i j k n : Int} {σ : L2.St} {R : It → Hp → Prop}
theorem Lx.flat [Flat α] (h : Lx K ctx L t' xs v) : Lx K ctx L t xs v := fun B H N F W => by
  obtain ⟨a, vs, e, h1, h2⟩ := h B H N F W
  exact ⟨a, vs, e, h1, h2.mono fun _ _ q => Flat.h _ _ _ _ q⟩
theorem Kn.flat [Flat α] (h : Kn K ctx t' x v) : Kn K ctx t x v := fun N F s q => Flat.h _ _ _ _ (h N F s q)
/-- a tuple whose items are told by their values -/
def fR (t : Bool) (vs : List V) (v : V) : Fact := ⟨fun K N F => ∃ a, v = .ref a ∧ (reg t K N F).t a vs, fun h1 h2 ⟨a, e, h⟩ => ⟨a, e, (reg_mono h1 h2).t _ _ h⟩⟩
theorem Wd.callRaw {R : Hp} [Flat β] {ys : List β} {tup vs : List V} (W : Wd K B ctx L H) (s : Same H H') (sR : Same R H') (hR : ∀ a u, R a = some u → H a = Option.none) (hl : R a = some (.tup tup)) (hp : R p = some (.lst vs)) (hr : All2 (Rp.rep (lkN R)) ys vs) :
    Wd K B (fR true tup (.ref a) :: ctx) (oL true p ys :: L) H' := by
  obtain ⟨N, F, W⟩ := W
  have hn : H p = Option.none := hR p _ hp
  have J := Wd.joinI (L' := L) (R := PB.del R p) W (fun b u _ e => s b u e) (Same.del.trans sR) (fun a u e => hR a u (Same.del a u e)) (fun o ho => let ⟨h, e, q⟩ := W.at_ o ho; ⟨h, s _ _ e, fun N' F' a b => o.mono a b q⟩) rfl
  have rN : Same (PB.del R p) (join N (PB.del R p)) := join_r fun a u e => W.nF.free (W.fH.free (hR a u (Same.del a u e)))
  have hap : a ≠ p := fun e2 => by
    rw [e2, hp] at hl
    cases hl
  refine ⟨_, _, J.bF, J.nF, J.sep, J.fH, fun f hf => ?_, fun o ho => ?_, fun o ho => ?_, ?_⟩
  · rcases List.mem_cons.mp hf with rfl | hf
    · exact ⟨a, rfl, rN _ _ ((del_ne hap).trans hl)⟩
    · exact J.facts f hf
  · rcases List.mem_cons.mp ho with rfl | ho
    · exact ⟨_, sR _ _ hp, vs, rfl, hr.mono fun _ _ q => Flat.h _ _ _ _ q⟩
    · exact J.at_ o ho
  · rcases List.mem_cons.mp ho with rfl | ho
    · show join F (PB.del R p) p = none
      unfold join
      rw [W.fH.free hn]
      exact del_same
    · exact J.off o ho
  · rw [List.map_cons]
    refine List.nodup_cons.mpr ⟨fun hm => ?_, J.nd⟩
    obtain ⟨q, hq, eq⟩ := List.mem_map.mp hm
    obtain ⟨u, e2, _⟩ := W.at_ q hq
    rw [eq] at e2
    rw [show (oL true p ys).a = p from rfl, hn] at e2
    cases e2
/-- a pair told by a def, its list one's own -/
theorem Wd.callP [Flat α] [Flat β] {r : α × List β} (W : Wd K B ctx L H) (r0 : Res K H r v H') : ∃ p a u, v = .ref a ∧ Wd K B (fc true r.1 u :: fR true [u, .ref p] (.ref a) :: ctx) (oL true p r.2 :: L) H' := by
  obtain ⟨R, s, sR, hR, a, u, w, e, hl, hr1, p, vs, ew, hp, hr⟩ := r0
  subst ew
  refine ⟨p, a, u, e, (Wd.callRaw W s sR hR hl hp hr).know fun N F _ _ => Flat.h _ _ _ _ hr1⟩
/-- a triple so -/
theorem Wd.callP3 [Flat α] [Flat β] [Flat γ] {r : T3 α γ (List β)} (W : Wd K B ctx L H) (r0 : Res K H r v H') : ∃ p a u w, v = .ref a ∧ Wd K B (fc true r.a u :: fc true r.b w :: fR true [u, w, .ref p] (.ref a) :: ctx) (oL true p r.c :: L) H' := by
  obtain ⟨R, s, sR, hR, a, u, w, z, e, hl, hr1, hr2, p, vs, ew, hp, hr⟩ := r0
  subst ew
  refine ⟨p, a, u, w, e, ((Wd.callRaw W s sR hR hl hp hr).know fun N F _ _ => Flat.h _ _ _ _ hr2).know fun N F _ _ => Flat.h _ _ _ _ hr1⟩
theorem Ar.pair (j : Nat) (hj : L[j]? = some (oL t' p ys)) (m : Nat) (hm : ctx[m]? = some (fR t [v, .ref p] (.ref a))) (h : Kn K ctx t y v) : Ar K ctx L (y, ys) (.ref a) := fun B H N F W => by
  obtain ⟨a', e, h1⟩ := W.facts _ (List.mem_of_getElem? hm)
  cases e
  obtain ⟨o, h2, vs, rfl, h3⟩ := W.at_ _ (List.mem_of_getElem? hj)
  exact ⟨a, _, _, rfl, (reg_A W.nF W.fH).t _ _ h1, Rp.mono (reg_A W.nF W.fH) (h N F W.nF W.facts), p, vs, rfl, h2, h3.mono fun _ _ q => Rp.mono (reg_A W.nF W.fH) q⟩
theorem Ar.triple {x1 : β} {x2 : γ} (j : Nat) (hj : L[j]? = some (oL t' p ys)) (m : Nat) (hm : ctx[m]? = some (fR t [v, w, .ref p] (.ref a))) (h : Kn K ctx t x1 v) (h' : Kn K ctx t x2 w) : Ar K ctx L (T3.mk x1 x2 ys) (.ref a) := fun B H N F W => by
  obtain ⟨a', e, h1⟩ := W.facts _ (List.mem_of_getElem? hm)
  cases e
  obtain ⟨o, h2, vs, rfl, h3⟩ := W.at_ _ (List.mem_of_getElem? hj)
  exact ⟨a, _, _, _, rfl, (reg_A W.nF W.fH).t _ _ h1, Rp.mono (reg_A W.nF W.fH) (h N F W.nF W.facts), Rp.mono (reg_A W.nF W.fH) (h' N F W.nF W.facts), p, vs, rfl, h2, h3.mono fun _ _ q => Rp.mono (reg_A W.nF W.fH) q⟩
theorem w_ixR (W : Wd K B ctx L H) (m : Nat) (hm : ctx[m]? = some (fR t vs (.ref a))) (e : atI vs i = some u) (k : Q u H) : rIx K (.ref a) (.int i) H Q := by
  obtain ⟨N, F, W⟩ := W
  obtain ⟨a', ea, h1⟩ := W.facts _ (List.mem_of_getElem? hm)
  cases ea
  exact i_ixT ((reg_A W.nF W.fH).t _ _ h1) e k
theorem w_unpR {n : Nat} {g : TGs} {R : L2.St → Hp → Prop} (W : Wd K B ctx L H) (m : Nat) (hm : ctx[m]? = some (fR t vs (.ref a))) (hl : vs.length = n) (k : g vs σ H R) : rUnp K n g (.ref a) σ H R := by
  obtain ⟨N, F, W⟩ := W
  obtain ⟨a', ea, h1⟩ := W.facts _ (List.mem_of_getElem? hm)
  cases ea
  exact ⟨a, vs, rfl, (reg_A W.nF W.fH).t _ _ h1, hl, k⟩
/-- pop(i) -/
def popO (xs : List α) (i : Int) : Option (α × List α) := if -(2 ^ 63) ≤ i ∧ i < 2 ^ 63 then (seqIndex? i xs.length).bind fun k => (xs[k]?).map fun x => (x, xs.eraseIdx k) else none
theorem All2.erase {R : α → V → Prop} : ∀ {xs : List α} {vs : List V} (n : Nat), All2 R xs vs → All2 R (xs.eraseIdx n) (vs.eraseIdx n)
  | [], [], _, _ => trivial
  | _ :: _, _ :: _, 0, h => h.2
  | _ :: _, _ :: _, n + 1, h => ⟨h.1, All2.erase n h.2⟩
  | [], _ :: _, _, h => h.elim
  | _ :: _, [], _, h => h.elim
theorem w_pop {r : α × List α} (W : Wd K B ctx L H) (j : Nat) (hj : L[j]? = some (oL t a xs)) (e : popO xs i = some r) (k : ∀ u H', Wd K B (fc t r.1 u :: ctx) (L.set j (oL t a r.2)) H' → Q u H') : rPopAt (.ref a) [.int i] H Q := by
  obtain ⟨N, F, W⟩ := W
  obtain ⟨o, h1, vs, rfl, h2⟩ := W.at_ _ (List.mem_of_getElem? hj)
  unfold popO at e
  by_cases hb : -(2 ^ 63) ≤ i ∧ i < 2 ^ 63
  · rw [if_pos hb] at e
    obtain ⟨m, e1, e⟩ := bndE e
    cases q : xs[m]? with
    | none => rw [q] at e; cases e
    | some x =>
      rw [q] at e
      cases e
      obtain ⟨u, hu, hr⟩ := h2.get q
      refine ⟨a, vs, i, m, u, rfl, rfl, h1, hb.1, hb.2, by rw [h2.len]; exact e1, hu, k u _ ?_⟩
      have W2 : Wd K B ctx (L.set j (oL t a (xs.eraseIdx m))) (upd H a (.lst (vs.eraseIdx m))) := Wd.put (o' := oL t a (xs.eraseIdx m)) W j hj rfl _ ⟨_, rfl, All2.erase m h2⟩
      obtain ⟨N2, F2, W2⟩ : ∃ N2 F2, WdI K B (fc t x u :: ctx) (L.set j (oL t a (xs.eraseIdx m))) (upd H a (.lst (vs.eraseIdx m))) N2 F2 := by
        have hoff := W.off _ (List.mem_of_getElem? hj)
        have P := W2
        refine Wd.put (o' := oL t a (xs.eraseIdx m)) (ctx := fc t x u :: ctx) ?_ j hj rfl _ ⟨_, rfl, All2.erase m h2⟩
        exact ⟨W.bF, W.nF, W.sep, W.fH, fun f hf => by
          rcases List.mem_cons.mp hf with rfl | hf
          · exact hr
          · exact W.facts f hf, W.at_, W.off, W.nd⟩
      exact ⟨N2, F2, W2⟩
  · rw [if_neg hb] at e
    cases e
/-- index of an int in a list of ints -/
def indexO (xs : List Int) (x : Int) : Option Int := (xs.findIdx? (· == x)).map fun n => (n : Int)
theorem w_index {xs : List Int} {x : Int} (W : Wd K B ctx L H) (h : Ls K ctx L t xs v) (e : indexO xs x = some n) (k : Q (.int n) H) : rIndex K v [.int x] H Q := by
  obtain ⟨N, F, W⟩ := W
  obtain ⟨a, vs, rfl, h1, h2⟩ := h B H N F W
  rw [all2_int h2] at h1
  unfold indexO at e
  cases q : xs.findIdx? (· == x) with
  | none => rw [q] at e; cases e
  | some m =>
    rw [q] at e
    cases e
    obtain ⟨hm, e1, e2⟩ := List.findIdx?_eq_some_iff_getElem.mp q
    refine ⟨a, _, .int x, m, .int xs[m], rfl, rfl, h1, rfl, ?_, ?_, ?_, ?_, k⟩
    · rw [List.all_eq_true]
      intro z hz
      obtain ⟨y, _, rfl⟩ := List.mem_map.mp hz
      rfl
    · rw [List.getElem?_map, List.getElem?_eq_getElem hm]
      rfl
    · have : xs[m] = x := by simpa using e1
      rw [this]
      simp [eqV]
    · intro l z hl hz
      rw [List.getElem?_map, List.getElem?_eq_getElem (by omega)] at hz
      cases hz
      have h3 := e2 l hl
      show (xs[l] == x) = false
      simpa using h3
/-- x in xs, of ints -/
theorem w_inG {xs : List Int} {x : Int} (neg : Bool) (W : Wd K B ctx L H) (h : Ls K ctx L t xs v) (k : Q (.bl (if neg then !decide (x ∈ xs) else decide (x ∈ xs))) H) : rIn K neg (.int x) v H Q := by
  obtain ⟨N, F, W⟩ := W
  obtain ⟨a, vs, rfl, h1, h2⟩ := h B H N F W
  rw [all2_int h2] at h1
  refine ⟨a, _, rfl, .inl h1, rfl, ?_, ?_⟩
  · rw [List.all_eq_true]
    intro z hz
    obtain ⟨y, _, rfl⟩ := List.mem_map.mp hz
    rfl
  · have e : inV (.int x) (xs.map V.int) = decide (x ∈ xs) := by
      unfold inV
      rw [List.any_map]
      rw [Bool.eq_iff_iff]
      simp only [List.any_eq_true, Function.comp, decide_eq_true_eq]
      constructor
      · rintro ⟨y, hy, e⟩
        have : (y == x) = true := e
        have : y = x := by simpa using this
        rwa [← this]
      · intro hx
        exact ⟨x, hx, by show (x == x) = true; simp⟩
    rw [e]
    exact k
theorem w_in {xs : List Int} {x : Int} (W : Wd K B ctx L H) (h : Ls K ctx L t xs v) (k : Q (.bl (decide (x ∈ xs))) H) : rIn K false (.int x) v H Q := w_inG false W h k
theorem w_notIn {xs : List Int} {x : Int} (W : Wd K B ctx L H) (h : Ls K ctx L t xs v) (k : Q (.bl (!decide (x ∈ xs))) H) : rIn K true (.int x) v H Q := w_inG true W h k
/-- if-else as an expression: kinds that stand for themselves -/
theorem w_iteI {b : Bool} (x : Int) {ta tb : TE} (W : Wd K B ctx L H) (h1 : b = true → ∀ P' : VK, (∀ d H', d = x → Wd K B ctx L' H' → P' (.int d) H') → ta σ H P') (h2 : b = false → ∀ P' : VK, (∀ d H', d = x → Wd K B ctx L' H' → P' (.int d) H') → tb σ H P') (h3 : ∀ H', Wd K B ctx L' H' → Q (.int x) H') : if b = true then ta σ H Q else tb σ H Q :=
  w_ite (fun d H' => d = .int x ∧ Wd K B ctx L' H') (fun hb P' q => h1 hb P' fun d H' e W => q _ H' ⟨by rw [e], W⟩) (fun hb P' q => h2 hb P' fun d H' e W => q _ H' ⟨by rw [e], W⟩) (fun d H' ⟨e, W⟩ => by rw [e]; exact h3 H' W)
/-- a rule's reading of an index that is a truth -/
def rIxTr (K : PySem.W.Frag) : R2 := fun x y H Q => ∃ p xs b v, x = .ref p ∧ y = .bl b ∧ SqL K H p xs ∧ atI xs (if b then 1 else 0) = some v ∧ Q v H
end
end PB

namespace PB
open PySem PySem.Spec PyProof.Rows L2
open PySem.W (alike alikeAll dataLt AlikeAll minD maxD Datum DatumOrd minOf maxOf lt_data gt_data le_data ge_data min_list_data max_list_data alike_unique readsAll_atA minD_map maxD_map alikeAll_datum depthAll_map)
/-! ### order of data: lists of ints, pairs -/
section
variable {X : Cx}
def rLtD (K : PySem.W.Frag) (g : PyData → PyData → Bool) : R2 := fun x y H Q => ∃ d e, Dp K H x d ∧ Dp K H y e ∧ alike d e = true ∧ d ≠ .none ∧ d.depth ≤ 60 ∧ Q (.bl (g d e)) H
def rLtA (K : PySem.W.Frag) : R2 := fun x y H Q => rI0 (fun i j => .bl (decide (i < j))) x y H Q ∨ rLtD K (fun d e => dataLt d e) x y H Q
def rLeA (K : PySem.W.Frag) : R2 := fun x y H Q => rI0 (fun i j => .bl (decide (i ≤ j))) x y H Q ∨ rLtD K (fun d e => !dataLt e d) x y H Q
def rGtA (K : PySem.W.Frag) : R2 := fun x y H Q => rI0 (fun i j => .bl (decide (j < i))) x y H Q ∨ rLtD K (fun d e => dataLt e d) x y H Q
def rGeA (K : PySem.W.Frag) : R2 := fun x y H Q => rI0 (fun i j => .bl (decide (j ≤ i))) x y H Q ∨ rLtD K (fun d e => !dataLt d e) x y H Q
theorem op_ltA (hu : X.A.units + 64 < cLine) : OpR X (compareOp .Lt) (rLtA X.K) := fun pins s σ H x y v u Q I rx ry h => by
  rcases h with h | h
  · exact op_lt pins s σ H x y v u Q I rx ry h
  · obtain ⟨d, e, hd, he, ha, hn, hp, q⟩ := h
    obtain ⟨as, r1⟩ := Dp.reads I d x v hd rx
    obtain ⟨bs, r2⟩ := Dp.reads I e y u he ry
    exact lt_data r1 r2 ha hn (by omega) ⟨.bl _, H, I, rfl, q⟩
theorem op_leA (hu : X.A.units + 64 < cLine) : OpR X (compareOp .LtE) (rLeA X.K) := fun pins s σ H x y v u Q I rx ry h => by
  rcases h with h | h
  · exact op_le pins s σ H x y v u Q I rx ry h
  · obtain ⟨d, e, hd, he, ha, hn, hp, q⟩ := h
    obtain ⟨as, r1⟩ := Dp.reads I d x v hd rx
    obtain ⟨bs, r2⟩ := Dp.reads I e y u he ry
    exact le_data r1 r2 ha hn (by omega) ⟨.bl _, H, I, rfl, q⟩
theorem op_gtA (hu : X.A.units + 64 < cLine) : OpR X (compareOp .Gt) (rGtA X.K) := fun pins s σ H x y v u Q I rx ry h => by
  rcases h with h | h
  · exact op_gt pins s σ H x y v u Q I rx ry h
  · obtain ⟨d, e, hd, he, ha, hn, hp, q⟩ := h
    obtain ⟨as, r1⟩ := Dp.reads I d x v hd rx
    obtain ⟨bs, r2⟩ := Dp.reads I e y u he ry
    exact gt_data r1 r2 ha hn (by omega) ⟨.bl _, H, I, rfl, q⟩
theorem op_geA (hu : X.A.units + 64 < cLine) : OpR X (compareOp .GtE) (rGeA X.K) := fun pins s σ H x y v u Q I rx ry h => by
  rcases h with h | h
  · exact op_ge pins s σ H x y v u Q I rx ry h
  · obtain ⟨d, e, hd, he, ha, hn, hp, q⟩ := h
    obtain ⟨as, r1⟩ := Dp.reads I d x v hd rx
    obtain ⟨bs, r2⟩ := Dp.reads I e y u he ry
    exact ge_data r1 r2 ha hn (by omega) ⟨.bl _, H, I, rfl, q⟩
theorem vals_back : ∀ {xs : List V} {us : List Value} {i : Nat} {u : Value}, Vals xs us → us[i]? = some u → ∃ x, xs[i]? = some x ∧ RelV x u
  | _, _, i, u, .nil, e => by simp at e
  | _, _, 0, u, .cons r t, e => by
    simp at e
    subst e
    exact ⟨_, rfl, r⟩
  | _, _, i + 1, u, .cons r t, e => by
    obtain ⟨x, h1, h2⟩ := vals_back (i := i) t (by simpa using e)
    exact ⟨x, by simpa using h1, h2⟩
theorem minD_mem : ∀ (ds : List PyData) (d : PyData), minD d ds ∈ d :: ds
  | [], d => List.mem_cons_self
  | e :: ds, d => by
    have h : minD d (e :: ds) = minD (if dataLt e d = true then e else d) ds := rfl
    rw [h]
    have ih := minD_mem ds (if dataLt e d = true then e else d)
    rcases List.mem_cons.mp ih with h | h
    · rw [h]
      split
      · exact List.mem_cons_of_mem _ List.mem_cons_self
      · exact List.mem_cons_self
    · exact List.mem_cons_of_mem _ (List.mem_cons_of_mem _ h)
theorem maxD_mem : ∀ (ds : List PyData) (d : PyData), maxD d ds ∈ d :: ds
  | [], d => List.mem_cons_self
  | e :: ds, d => by
    have h : maxD d (e :: ds) = maxD (if dataLt d e = true then e else d) ds := rfl
    rw [h]
    have ih := maxD_mem ds (if dataLt d e = true then e else d)
    rcases List.mem_cons.mp ih with h | h
    · rw [h]
      split
      · exact List.mem_cons_of_mem _ List.mem_cons_self
      · exact List.mem_cons_self
    · exact List.mem_cons_of_mem _ (List.mem_cons_of_mem _ h)
/-- min(xs), max(xs) of a list of data -/
def rBestD (K : PySem.W.Frag) (g : PyData → List PyData → PyData) : List V → Hp → VK → Prop := fun vs H Q => ∃ (a : Addr) (xs : List V) (d : PyData) (ds : List PyData), vs = [V.ref a] ∧ SqL K H a xs ∧ DpAll K H xs (d :: ds) ∧ AlikeAll (d :: ds) ∧ PyData.depthAll (d :: ds) ≤ 60 ∧
  ∀ (i : Nat) (x : V), xs[i]? = some x → (d :: ds)[i]? = some (g d ds) → Q x H
def rMinA (K : PySem.W.Frag) : List V → Hp → VK → Prop := fun vs H Q => rMin K vs H Q ∨ rBestD K minD vs H Q
def rMaxA (K : PySem.W.Frag) : List V → Hp → VK → Prop := fun vs H Q => rMax K vs H Q ∨ rBestD K maxD vs H Q
theorem getD_get {ds : List PyData} {i : Nat} (h : i < ds.length) : ds[i]? = some (ds.getD i .none) := by
  rw [List.getElem?_eq_getElem h, List.getD_eq_getElem?_getD, List.getElem?_eq_getElem h]
  rfl
theorem cr_minA (hc : X.calm = true) (hu : X.A.units + 64 < cLine) : CallR X (.builtin "min") (rMinA X.K) := by
  intro pins s σ H vs us Q I r h
  rcases h with h | h
  · exact cr_min hc pins s σ H vs us Q I r h
  obtain ⟨a, xs, d, ds, rfl, hs, hd, ha, hp, q⟩ := h
  obtain ⟨its, rv, hl, _⟩ := I.list hs
  rw [Vals.ref1 r]
  obtain ⟨as, hr⟩ := Dp.readsAll I (d :: ds) xs its hd rv
  refine min_list_data (I.ok.hd hc) hl.isList hr ha (by omega) fun i v h' tk bs hv hm hk => ?_
  obtain ⟨x, hx, hxv⟩ := vals_back (i := i) (u := v) rv (by simpa using hv)
  obtain ⟨bs', hr', hlt, hmem, _⟩ := readsAll_atA hr i v hv
  have e := alike_unique _ _ v bs' bs (ha.1 _ hmem _ (minD_mem ds d)) (Reads.keeps hk hr') hm
  exact ⟨x, H, I.kept hk, hxv, q i x hx (by rw [getD_get hlt, e])⟩
theorem cr_maxA (hc : X.calm = true) (hu : X.A.units + 64 < cLine) : CallR X (.builtin "max") (rMaxA X.K) := by
  intro pins s σ H vs us Q I r h
  rcases h with h | h
  · exact cr_max hc pins s σ H vs us Q I r h
  obtain ⟨a, xs, d, ds, rfl, hs, hd, ha, hp, q⟩ := h
  obtain ⟨its, rv, hl, _⟩ := I.list hs
  rw [Vals.ref1 r]
  obtain ⟨as, hr⟩ := Dp.readsAll I (d :: ds) xs its hd rv
  refine max_list_data (I.ok.hd hc) hl.isList hr ha (by omega) fun i v h' tk bs hv hm hk => ?_
  obtain ⟨x, hx, hxv⟩ := vals_back (i := i) (u := v) rv (by simpa using hv)
  obtain ⟨bs', hr', hlt, hmem, _⟩ := readsAll_atA hr i v hv
  have e := alike_unique _ _ v bs' bs (ha.1 _ hmem _ (maxD_mem ds d)) (Reads.keeps hk hr') hm
  exact ⟨x, H, I.kept hk, hxv, q i x hx (by rw [getD_get hlt, e])⟩
end
section
variable {K : PySem.W.Frag} {H : Hp} {Q : VK} {i j : Int}
theorem i_ltA (h : Q (.bl (decide (i < j))) H) : rLtA K (.int i) (.int j) H Q := .inl (i_I0 h)
theorem i_leA (h : Q (.bl (decide (i ≤ j))) H) : rLeA K (.int i) (.int j) H Q := .inl (i_I0 h)
theorem i_gtA (h : Q (.bl (decide (i > j))) H) : rGtA K (.int i) (.int j) H Q := .inl (i_I0 h)
theorem i_geA (h : Q (.bl (decide (i ≥ j))) H) : rGeA K (.int i) (.int j) H Q := .inl (i_I0 h)
end
section
variable {H : Hp} {σ : L2.St} {ta : TA} {nx : L2.St → Hp → Prop} {rt : VK} {bk ct : L2.St → Hp → Prop}
theorem i_par2 {i j : Nat} (h : ta σ H fun vs H1 => ∃ v w, vs = [v, w] ∧ nx ((σ.set i (some v)).set j (some w)) H1) : tPar i j ta ⟨nx, rt, bk, ct⟩ σ H := h
theorem i_par3 {i j l : Nat} (h : ta σ H fun vs H1 => ∃ u v w, vs = [u, v, w] ∧ nx (((σ.set i (some u)).set j (some v)).set l (some w)) H1) : tPar3 i j l ta ⟨nx, rt, bk, ct⟩ σ H := h
end
theorem pe_revK {X : Cx} {K : PySem.W.Frag} {e : Expr} {te : TE} {k : Nat} {p1 p2 p3 pos : Pos} (he : PE X e te) (hK : X.K = K := by rfl) : PE X (.Subscript e (.Slice none none (some (.UnaryOp .USub (.Constant (.int 1) k p1) p2)) p3) pos) (tRevL K te) := by
  subst hK
  exact pe_revL he
/-! ### with types -/
class RpQ (α : Type) [Rp α] [RpD α] [DecidableEq α] [DatumOrd α] : Prop where
  dc : ∀ x : α, RpD.d x = Datum.toD x
instance : RpQ Int := ⟨fun _ => rfl⟩
section
variable {α β : Type} [Rp α] [RpD α] [DecidableEq α] [DatumOrd α] [RpQ α] [Rp β] [RpD β] [DecidableEq β] [DatumOrd β] [RpQ β]
theorem dc_all (xs : List α) : xs.map RpD.d = xs.map Datum.toD := List.map_congr_left fun x _ => RpQ.dc x
instance : RpQ (List α) := ⟨fun xs => by show PyData.list (xs.map RpD.d) = .list (xs.map Datum.toD); rw [dc_all]⟩
instance : RpQ (α × β) := ⟨fun x => by show PyData.tuple [RpD.d x.1, RpD.d x.2] = .tuple [Datum.toD x.1, Datum.toD x.2]; rw [RpQ.dc, RpQ.dc]⟩
def ltO (x y : α) : Option Bool := if Datum.depth α ≤ 60 then some (DatumOrd.lt x y) else none
def minQ : List α → Option α
  | [] => none
  | x :: xs => if Datum.depth α ≤ 59 then some (minOf x xs) else none
def maxQ : List α → Option α
  | [] => none
  | x :: xs => if Datum.depth α ≤ 59 then some (maxOf x xs) else none
theorem toD_inj {x y : α} (h : (Datum.toD x : PyData) = Datum.toD y) : x = y := by
  have e : decide (x = y) = decide (y = y) := by rw [← Datum.eqv x y, ← Datum.eqv y y, h]
  rw [decide_eq_true (rfl : y = y)] at e
  exact of_decide_eq_true e
variable {K : PySem.W.Frag} {B H : Hp} {ctx : List Fact} {L : List Own} {t : Bool} {x y : α} {xs : List α} {v w : V} {Q : VK} {b : Bool}
theorem w_cmpQ {g : PyData → PyData → Bool} (W : Wd K B ctx L H) (h : Ar K ctx L x v) (h' : Ar K ctx L y w) (hd : Datum.depth α ≤ 60) (k : Q (.bl (g (Datum.toD x) (Datum.toD y))) H) : rLtD K g v w H Q := by
  obtain ⟨N, F, W⟩ := W
  have h1 := RpD.dp (h B H N F W)
  have h2 := RpD.dp (h' B H N F W)
  rw [RpQ.dc] at h1 h2
  exact ⟨_, _, h1, h2, DatumOrd.alike x y, DatumOrd.notNone x, Nat.le_trans (Datum.depth_le x) hd, k⟩
theorem w_ltQ (W : Wd K B ctx L H) (h : Ar K ctx L x v) (h' : Ar K ctx L y w) (e : ltO x y = some b) (k : Q (.bl b) H) : rLtA K v w H Q := by
  obtain ⟨hd, rfl⟩ := guardE e
  exact .inr (w_cmpQ W h h' hd (by rw [DatumOrd.lt_eq]; exact k))
theorem w_gtQ (W : Wd K B ctx L H) (h : Ar K ctx L x v) (h' : Ar K ctx L y w) (e : ltO y x = some b) (k : Q (.bl b) H) : rGtA K v w H Q := by
  obtain ⟨hd, rfl⟩ := guardE e
  exact .inr (w_cmpQ W h h' hd (by rw [DatumOrd.lt_eq]; exact k))
theorem w_leQ (W : Wd K B ctx L H) (h : Ar K ctx L x v) (h' : Ar K ctx L y w) (e : ltO y x = some b) (k : Q (.bl (!b)) H) : rLeA K v w H Q := by
  obtain ⟨hd, rfl⟩ := guardE e
  exact .inr (w_cmpQ W h h' hd (by rw [DatumOrd.lt_eq]; exact k))
theorem w_geQ (W : Wd K B ctx L H) (h : Ar K ctx L x v) (h' : Ar K ctx L y w) (e : ltO x y = some b) (k : Q (.bl (!b)) H) : rGeA K v w H Q := by
  obtain ⟨hd, rfl⟩ := guardE e
  exact .inr (w_cmpQ W h h' hd (by rw [DatumOrd.lt_eq]; exact k))
theorem all2_back : ∀ {xs : List α} {vs : List V} {R : α → V → Prop} {i : Nat} {u : V}, All2 R xs vs → vs[i]? = some u → ∃ x, xs[i]? = some x ∧ R x u
  | _ :: _, _ :: _, R, 0, u, h, e => by
    simp at e
    subst e
    exact ⟨_, rfl, h.1⟩
  | _ :: _, _ :: _, R, i + 1, u, h, e => by
    obtain ⟨x, h1, h2⟩ := all2_back (i := i) h.2 (by simpa using e)
    exact ⟨x, by simpa using h1, h2⟩
  | [], [], R, i, u, h, e => by simp at e
  | [], _ :: _, R, i, u, h, e => h.elim
  | _ :: _, [], R, i, u, h, e => h.elim
theorem w_bestQ {g : PyData → List PyData → PyData} {m : α} {x : α} (W : Wd K B ctx L H) (h : Ls K ctx L t (x :: xs) v) (hd : Datum.depth α ≤ 59) (hg : g (Datum.toD x) (xs.map Datum.toD) = Datum.toD m) (k : ∀ u, Wd K B (fc t m u :: ctx) L H → Q u H) : rBestD K g [v] H Q := by
  obtain ⟨N, F, W⟩ := W
  obtain ⟨a, vs, rfl, h1, h2⟩ := h B H N F W
  have hdp := all2_dp (xs := x :: xs) (All2.mono (fun _ _ r => Rp.mono (reg_A W.nF W.fH) r) h2)
  rw [dc_all] at hdp
  refine ⟨a, vs, _, _, rfl, h1, hdp, alikeAll_datum (x :: xs), Nat.le_trans (depthAll_map (x :: xs)) (by omega), fun i u hu he => ?_⟩
  obtain ⟨z, hz, r⟩ := all2_back h2 hu
  rw [hg, ← List.map_cons, List.getElem?_map, hz] at he
  have e := toD_inj (Option.some.inj he)
  subst e
  refine k u ⟨N, F, W.bF, W.nF, W.sep, W.fH, fun f hf => ?_, W.at_, W.off, W.nd⟩
  rcases List.mem_cons.mp hf with rfl | hf
  · exact r
  · exact W.facts f hf
theorem w_minQ {m : α} (W : Wd K B ctx L H) (h : Ls K ctx L t xs v) (e : minQ xs = some m) (k : ∀ u, Wd K B (fc t m u :: ctx) L H → Q u H) : rMinA K [v] H Q := by
  cases xs with
  | nil => cases e
  | cons x xs =>
    obtain ⟨hd, rfl⟩ := guardE e
    exact .inr (w_bestQ W h hd (minD_map x xs) k)
theorem w_maxQ {m : α} (W : Wd K B ctx L H) (h : Ls K ctx L t xs v) (e : maxQ xs = some m) (k : ∀ u, Wd K B (fc t m u :: ctx) L H → Q u H) : rMaxA K [v] H Q := by
  cases xs with
  | nil => cases e
  | cons x xs =>
    obtain ⟨hd, rfl⟩ := guardE e
    exact .inr (w_bestQ W h hd (maxD_map x xs) k)
end
end PB

namespace PB
open PySem PySem.Spec PyProof.Rows L2
section
variable {K : PySem.W.Frag} {B H H' : Hp} {ctx : List Fact} {L L' : List Own} {t t' : Bool} {α β γ : Type} [Rp α] [Rp β] [Rp γ] {x : α} {y : β} {xs ys : List α} {v w u : V} {vs : List V} {a p q c : Addr} {Q : VK} {i j k n : Int} {σ : L2.St} {f : Fact}
theorem w_lenR (W : Wd K B ctx L H) (m : Nat) (hm : ctx[m]? = some (fR t vs (.ref a))) (hl : vs.length = 2) (k : Q (.int 2) H) : rLen K [.ref a] H Q := by
  obtain ⟨N, F, W⟩ := W
  obtain ⟨a', ea, h1⟩ := W.facts _ (List.mem_of_getElem? hm)
  cases ea
  match vs, hl with
  | [v, w], _ => exact i_lenT ((reg_A W.nF W.fH).t _ _ h1) k
/-! ### a list of one's own lists -/
def fRL (t : Bool) (vs : List V) (v : V) : Fact := ⟨fun K N F => ∃ a, v = .ref a ∧ (reg t K N F).l a vs, fun h1 h2 ⟨a, e, h⟩ => ⟨a, e, (reg_mono h1 h2).l _ _ h⟩⟩
theorem Wd.newF (W : WdI K B ctx L H N F) (hp : H p = Option.none) (t : Bool) (h : ∀ N' F', Same N N' → Same F F' → (reg t K N' F').l p vs → f.P K N' F') : Wd K B (f :: ctx) L (upd H p (.lst vs)) := by
  have hF : F p = Option.none := W.fH.free hp
  have hN : N p = Option.none := W.nF.free hF
  have hB : B p = Option.none := W.bF.free hF
  have keep : ∀ {G : Hp}, G p = Option.none → Same G (upd G p (.lst vs)) := fun hG b u e => by
    rw [upd_ne (ne_of_none e hG)]
    exact e
  have up : ∀ {G G' : Hp}, Same G G' → G' p = Option.none → Same (upd G p (.lst vs)) (upd G' p (.lst vs)) := fun s hG b u e => by
    by_cases h : b = p
    · rw [h, upd_same] at e ⊢
      exact e
    · rw [upd_ne h] at e ⊢
      exact s b u e
  refine ⟨upd N p (.lst vs), upd F p (.lst vs), W.bF.trans (keep hF), up W.nF hF, fun b u e => ?_, up W.fH hp, fun f hf => ?_, fun o ho => ?_, fun o ho => ?_, W.nd⟩
  · by_cases h : b = p
    · rw [h]
      exact hB
    · rw [upd_ne h] at e
      exact W.sep b u e
  · rcases List.mem_cons.mp hf with rfl | hf
    · refine h _ _ (keep hN) (keep hF) ?_
      cases t
      · exact upd_same
      · exact upd_same
    · exact f.mono (keep hN) (keep hF) (W.facts f hf)
  · obtain ⟨u, e, r⟩ := W.at_ o ho
    exact ⟨u, by rw [upd_ne (ne_of_none e hp)]; exact e, o.mono (keep hN) (keep hF) r⟩
  · obtain ⟨u, e, r⟩ := W.at_ o ho
    rw [upd_ne (ne_of_none e hp)]
    exact W.off o ho
theorem w_lstR (W : Wd K B ctx L H) (hz : vs.length ≤ sizeLine) (k : ∀ p H', Wd K B (fRL true vs (.ref p) :: ctx) L H' → Q (.ref p) H') : rLst vs H Q := by
  obtain ⟨N, F, W⟩ := W
  exact ⟨hz, fun p hp => k p _ (Wd.newF W hp true fun N' F' _ _ h => ⟨p, rfl, h⟩)⟩
theorem w_ixRL (W : Wd K B ctx L H) (m : Nat) (hm : ctx[m]? = some (fRL t vs (.ref a))) (e : atI vs i = some u) (k : Q u H) : rIx K (.ref a) (.int i) H Q := by
  obtain ⟨N, F, W⟩ := W
  obtain ⟨a', ea, h1⟩ := W.facts _ (List.mem_of_getElem? hm)
  cases ea
  exact i_ixL (SqL.of ((reg_A W.nF W.fH).l _ _ h1)) e k
theorem Ar.lpair (j1 j2 : Nat) (h1 : L[j1]? = some (oL t p xs)) (h2 : L[j2]? = some (oL t' q ys)) (m : Nat) (hm : ctx[m]? = some (fRL true [.ref p, .ref q] (.ref a))) : Ar K ctx L [xs, ys] (.ref a) := fun B H N F W => by
  obtain ⟨a', e, h3⟩ := W.facts _ (List.mem_of_getElem? hm)
  cases e
  have g1 := Ar.lx (Lx.own j1 h1) B H N F W
  have g2 := Ar.lx (Lx.own j2 h2) B H N F W
  exact ⟨a, _, rfl, (reg_A W.nF W.fH).l _ _ h3, g1, g2, trivial⟩
end
/-- a list's method within a comprehension -/
theorem pe_bmK {X : Cx} {K : PySem.W.Frag} {name : Str} {T id : String} {o e : Expr} {es : List Expr} {to : TE} {t : TA} {r : V → List V → Hp → VK → Prop} {apos cpos : Pos} (pa : PlainAttrs T) (slot : Slot T name id) (hty : typeOf (.builtin id) = pure (.type "method_descriptor")) (hm : MtR X id r) (ho : PE X o to) (ha : PA X (e :: es) t) (hK : X.K = K := by rfl)
    (hbase : attributeBase o name X.env (eval o X.env) = eval o X.env := by rfl)
    (hfew : ((backTo cpos (starEach (e :: es) X.env)).all (fun x => !x.1) && (backToKw cpos (keywordEach [] X.env)).all (fun x => x.1.isSome)
      && decide ((e :: es).length + ([] : List Keyword).length + (if ([] : List Keyword).isEmpty then 0 else 1) < 30)) = true := by rfl)
    (hline : (apos.endLine == cpos.line) = true := by rfl) (hs : starEach (e :: es) X.env = (false, eval e X.env) :: starEach es X.env := by rfl) (hplain : (backTo cpos (starEach es X.env)).any (·.1) = false := by rfl) :
    PE X (.Call (.Attribute o name apos) (e :: es) [] cpos) (tBM K T r to t) := by
  subst hK
  exact pe_bm pa slot hty hm ho ha hbase hfew hline hs hplain
/-- a def under another name -/
theorem mkFnA {P : Program} {w : World} {K : PySem.W.Frag} {mg : Str → Option Value} {base : Heap} {x y qual : Str} {params : Arguments} {body : List Stmt} {scope : Scope}
    {f : Addr} {fd : FuncData} {ps : List Str} {k : Nat} {sp : Sp} (F : FunD K x qual params body scope [] [] f fd) (hm : mg y = some (.ref f))
    (hb : ∀ (kV doc pm : Value) (an : Option Addr) (cdv ct : Value) (us : List Value), us.length = ps.length →
      bindArgs (PySem.W.fnOf x qual params body scope .none kV doc pm an cdv ct) ⟨us, []⟩ = pure (ps.zip us))
    (G : FnG P w K mg base k f fd ps sp) : Fn P w K mg base k y ps sp := ⟨f, fd, hm, F.kp, F.bindsN hb, G⟩
/-! ### one thing or another -/
inductive Un (α β : Type) where
  | l (x : α)
  | r (y : β)
  deriving DecidableEq
section
variable {α β γ : Type} [Rp α] [Rp β] [Rp γ]
def repUn (S : Lk) : Un α β → V → Prop
  | .l x, v => Rp.rep S x v
  | .r y, v => Rp.rep S y v
instance : Rp (Un α β) := ⟨repUn, fun {S T x v} s h => by
  cases x with
  | l y => exact Rp.mono (α := α) s h
  | r y => exact Rp.mono (α := β) s h⟩
instance [RpD α] [RpD β] : RpD (Un α β) := ⟨fun x => match x with
    | .l y => RpD.d y
    | .r y => RpD.d y, fun {K H x v} h => by
      cases x with
      | l y => exact RpD.dp (α := α) h
      | r y => exact RpD.dp (α := β) h, fun x => match x with
    | .l y => RpD.ty y
    | .r y => RpD.ty y, fun {K H x v} h => by
      cases x with
      | l y => exact RpD.tyx (α := α) h
      | r y => exact RpD.tyx (α := β) h, fun x => by
      cases x with
      | l y => exact RpD.tys y
      | r y => exact RpD.tys y⟩
def Un.getL : Un α β → Option α
  | .l x => some x
  | .r _ => none
def Un.getR : Un α β → Option β
  | .l _ => none
  | .r y => some y
instance : Co α (Un α β) := ⟨.l, fun h => h⟩
instance : Co β (Un α β) := ⟨.r, fun h => h⟩
instance (priority := low) : Co α α := ⟨id, fun h => h⟩
instance {δ : Type} [Rp δ] [Co α β] [Co γ δ] : Co (α × γ) (β × δ) := ⟨fun x => (Co.f x.1, Co.f x.2), fun ⟨a, u, w, e, h, r1, r2⟩ => ⟨a, u, w, e, h, Co.h r1, Co.h r2⟩⟩
variable {K : PySem.W.Frag} {B H : Hp} {ctx : List Fact} {L : List Own} {t : Bool} {v : V}
theorem Kn.unl {x : α} (h : Kn K ctx t x v) : Kn K ctx t (Un.l x : Un α β) v := fun N F s q => h N F s q
theorem Kn.unr {y : β} (h : Kn K ctx t y v) : Kn K ctx t (Un.r y : Un α β) v := fun N F s q => h N F s q
theorem Wd.getL {x : Un α β} {y : α} (W : Wd K B ctx L H) (h : Kn K ctx t x v) (e : x.getL = some y) : Wd K B (fc t y v :: ctx) L H := by
  cases x with
  | l z =>
    cases e
    exact W.know fun N F s q => h N F s q
  | r z => cases e
theorem Wd.getR {x : Un α β} {y : β} (W : Wd K B ctx L H) (h : Kn K ctx t x v) (e : x.getR = some y) : Wd K B (fc t y v :: ctx) L H := by
  cases x with
  | r z =>
    cases e
    exact W.know fun N F s q => h N F s q
  | l z => cases e
end
end PB
namespace PB
open PySem PySem.Spec PyProof.Rows L2
/-! ### a tuple whose list is one's own, of things that are no lists -/
class NoL (β : Type) [Rp β] : Prop where
  h : ∀ (S T : Lk) (x : β) (v : V), (∀ a vs, S.t a vs → T.t a vs) → Rp.rep S x v → Rp.rep T x v
instance (priority := low) {β : Type} [Rp β] [Flat β] : NoL β := ⟨fun S T x v _ h => Flat.h S T x v h⟩
instance {α β : Type} [Rp α] [Rp β] [NoL α] [NoL β] : NoL (α × β) := ⟨fun S T x v ht ⟨a, u, w, e, h, r1, r2⟩ => ⟨a, u, w, e, ht _ _ h, NoL.h _ _ _ _ ht r1, NoL.h _ _ _ _ ht r2⟩⟩
section
variable {K : PySem.W.Frag} {B H H' : Hp} {ctx : List Fact} {L : List Own} {t : Bool} {α β γ : Type} [Rp α] [Rp β] [Rp γ] {x : α} {v : V} {vs : List V} {a p : Addr}
theorem Ar.co [Co α β] {x : α} (h : Ar K ctx L x v) : Ar K ctx L (Co.f x : β) v := fun B H N F W => Co.h (h B H N F W)
theorem Res.unl {r : α × Un β γ} {y : β} (R : Res K H r v H') (e : r.2 = Un.l y) : Res K H (r.1, y) v H' := by
  obtain ⟨r1, r2⟩ := r
  cases e
  exact R
theorem Res.unr {r : α × Un β γ} {y : γ} (R : Res K H r v H') (e : r.2 = Un.r y) : Res K H (r.1, y) v H' := by
  obtain ⟨r1, r2⟩ := r
  cases e
  exact R
theorem Wd.callRawT {R : Hp} [NoL β] {ys : List β} {tup vs : List V} (W : Wd K B ctx L H) (s : Same H H') (sR : Same R H') (hR : ∀ a u, R a = some u → H a = Option.none) (hl : R a = some (.tup tup)) (hp : R p = some (.lst vs)) (hr : All2 (Rp.rep (lkN R)) ys vs) :
    Wd K B (fR true tup (.ref a) :: ctx) (oL true p ys :: L) H' := by
  obtain ⟨N, F, W⟩ := W
  have hn : H p = Option.none := hR p _ hp
  have J := Wd.joinI (L' := L) (R := PB.del R p) W (fun b u _ e => s b u e) (Same.del.trans sR) (fun a u e => hR a u (Same.del a u e)) (fun o ho => let ⟨h, e, q⟩ := W.at_ o ho; ⟨h, s _ _ e, fun N' F' a b => o.mono a b q⟩) rfl
  have rN : Same (PB.del R p) (join N (PB.del R p)) := join_r fun a u e => W.nF.free (W.fH.free (hR a u (Same.del a u e)))
  have tup_ne : ∀ {b : Addr} {us : List V}, R b = some (.tup us) → b ≠ p := fun hb e2 => by
    rw [e2, hp] at hb
    cases hb
  refine ⟨_, _, J.bF, J.nF, J.sep, J.fH, fun f hf => ?_, fun o ho => ?_, fun o ho => ?_, ?_⟩
  · rcases List.mem_cons.mp hf with rfl | hf
    · exact ⟨a, rfl, rN _ _ ((del_ne (tup_ne hl)).trans hl)⟩
    · exact J.facts f hf
  · rcases List.mem_cons.mp ho with rfl | ho
    · exact ⟨_, sR _ _ hp, vs, rfl, hr.mono fun _ _ q => NoL.h _ _ _ _ (fun b us hb => rN _ _ ((del_ne (tup_ne hb)).trans hb)) q⟩
    · exact J.at_ o ho
  · rcases List.mem_cons.mp ho with rfl | ho
    · show join F (PB.del R p) p = none
      unfold join
      rw [W.fH.free hn]
      exact del_same
    · exact J.off o ho
  · rw [List.map_cons]
    refine List.nodup_cons.mpr ⟨fun hm => ?_, J.nd⟩
    obtain ⟨q, hq, eq⟩ := List.mem_map.mp hm
    obtain ⟨u, e2, _⟩ := W.at_ q hq
    rw [eq] at e2
    rw [show (oL true p ys).a = p from rfl, hn] at e2
    cases e2
theorem Wd.callPT [Flat α] [NoL β] {r : α × List β} (W : Wd K B ctx L H) (r0 : Res K H r v H') : ∃ p a u, v = .ref a ∧ Wd K B (fc true r.1 u :: fR true [u, .ref p] (.ref a) :: ctx) (oL true p r.2 :: L) H' := by
  obtain ⟨R, s, sR, hR, a, u, w, e, hl, hr1, p, vs, ew, hp, hr⟩ := r0
  subst ew
  refine ⟨p, a, u, e, (Wd.callRawT W s sR hR hl hp hr).know fun N F _ _ => Flat.h _ _ _ _ hr1⟩
end
end PB

namespace PB
open PySem PySem.Spec PyProof.Rows L2
/-! ### defs that tell parts of what is handed in: all within what the asker knows as new -/
def ResN (K : PySem.W.Frag) (N0 H : Hp) {α : Type} [Rp α] (r : α) (v : V) (H' : Hp) : Prop := ∃ N', Same N0 N' ∧ Same H H' ∧ Same N' H' ∧ (∀ a u, N' a = some u → H a = none ∨ N0 a = some u) ∧ Rp.rep (lkN N') r v
/-- the region stands within -/
def fN (N0 H0 : Hp) : Fact := ⟨fun _ N F => Same N0 N ∧ Same H0 F, fun h1 h2 ⟨a, b⟩ => ⟨a.trans h1, b.trans h2⟩⟩
def cutH (H N0 : Hp) : Hp := fun a => match N0 a with
  | some _ => none
  | none => H a
section
variable {K : PySem.W.Frag} {B H H' N0 H0 : Hp} {ctx : List Fact} {L : List Own} {α β : Type} [Rp α] [Rp β] {x : α} {v : V}
theorem Wd.startN (s : Same N0 H) : Wd K (cutH H N0) [fN N0 H] [] H := by
  refine ⟨N0, H, fun a u e => ?_, s, fun a u e => ?_, Same.refl H, fun f hf => ?_, (fun _ h => nomatch h), (fun _ h => nomatch h), List.nodup_nil⟩
  · unfold cutH at e
    cases q : N0 a with
    | some w => rw [q] at e; cases e
    | none => rw [q] at e; exact e
  · unfold cutH
    rw [e]
  · rw [List.mem_singleton.mp hf]
    exact ⟨Same.refl _, Same.refl _⟩
theorem Wd.argN (W : Wd K B ctx L H) (m : Nat) (hm : ctx[m]? = some (fN N0 H0)) (h : Rp.rep (lkN N0) x v) : Wd K B (fc true x v :: ctx) L H :=
  W.add fun N F W => Rp.mono (lkN_mono (W.facts _ (List.mem_of_getElem? hm)).1) h
theorem Wd.resN (W : Wd K (cutH H0 N0) ctx L H) (m : Nat) (hm : ctx[m]? = some (fN N0 H0)) (h : Kn K ctx true x v) : ResN K N0 H0 x v H := by
  obtain ⟨N, F, W⟩ := W
  obtain ⟨s1, s2⟩ := W.facts _ (List.mem_of_getElem? hm)
  refine ⟨N, s1, s2.trans W.fH, W.nF.trans W.fH, fun a u e => ?_, h N F W.nF W.facts⟩
  have h1 := W.sep a u e
  unfold cutH at h1
  cases q : N0 a with
  | some w =>
    have := s1 a w q
    rw [e] at this
    exact .inr this.symm
  | none =>
    rw [q] at h1
    exact .inl h1
theorem WdI.callN {N F : Hp} (W : WdI K B ctx L H N F) (r : ResN K N H x v H') : Wd K B (fc true x v :: ctx) L H' := by
  obtain ⟨N', s1, s2, s3, s4, hr⟩ := r
  have hF : ∀ a u, N' a = some u → F a = none ∨ F a = some u := fun a u e => by
    rcases s4 a u e with h | h
    · exact .inl (W.fH.free h)
    · exact .inr (W.nF a u h)
  have sN' : Same N' (join F N') := fun a u e => by
    unfold join
    rcases hF a u e with h | h
    · rw [h]
      exact e
    · rw [h]
  have sF : Same F (join F N') := join_l
  refine ⟨N', join F N', W.bF.trans sF, sN', fun a u e => ?_, fun a u e => ?_, fun f hf => ?_, fun o ho => ?_, fun o ho => ?_, W.nd⟩
  · rcases s4 a u e with h | h
    · exact W.bF.free (W.fH.free h)
    · exact W.sep a u h
  · rcases join_or e with e | e
    · exact s2 a u (W.fH a u e)
    · exact s3 a u e
  · rcases List.mem_cons.mp hf with rfl | hf
    · exact hr
    · exact f.mono s1 sF (W.facts f hf)
  · obtain ⟨u, e, q⟩ := W.at_ o ho
    exact ⟨u, s2 _ _ e, o.mono s1 sF q⟩
  · obtain ⟨u, e, q⟩ := W.at_ o ho
    have hoff := W.off o ho
    unfold join
    rw [hoff]
    show N' o.a = none
    cases q2 : N' o.a with
    | none => rfl
    | some w =>
      rcases s4 _ _ q2 with h | h
      · rw [e] at h
        cases h
      · have := W.nF _ _ h
        rw [hoff] at this
        cases this
theorem WdI.callNI {N F : Hp} {i : Int} (W : WdI K B ctx L H N F) (r : ResN K N H i v H') : v = .int i ∧ Wd K B ctx L H' := by
  have h := W.callN r
  exact ⟨h.eqI (Kn.at 0 rfl), h.drop 1 rfl⟩
theorem WdI.callNB {N F : Hp} {i : Bool} (W : WdI K B ctx L H N F) (r : ResN K N H i v H') : v = .bl i ∧ Wd K B ctx L H' := by
  have h := W.callN r
  exact ⟨h.eqB (Kn.at 0 rfl), h.drop 1 rfl⟩
/-- the asker's side: its region -/
theorem Wd.region (W : Wd K B ctx L H) {P : Prop} (h : ∀ N F, WdI K B ctx L H N F → P) : P := let ⟨N, F, W⟩ := W; h N F W
theorem knN {N F : Hp} (h : Kn K ctx true x v) (W : WdI K B ctx L H N F) : Rp.rep (lkN N) x v := h N F W.nF W.facts
theorem wdI (W : WdI K B ctx L H N0 H0) : Wd K B ctx L H := ⟨_, _, W⟩
end
/-! ### the same with a list that is changed, of things that the asker knows as new -/
def Res1N (K : PySem.W.Frag) (N0 H : Hp) (a : Addr) {α β : Type} [Rp α] [Rp β] (r : α × List β) (v : V) (H' : Hp) : Prop :=
  ∃ N', Same N0 N' ∧ But [a] H H' ∧ Same N' H' ∧ (∀ b u, N' b = some u → H b = none ∨ N0 b = some u) ∧ N' a = none ∧ Rp.rep (lkN N') r.1 v ∧ ∃ vs, H' a = some (.lst vs) ∧ All2 (Rp.rep (lkN N')) r.2 vs
section
variable {K : PySem.W.Frag} {B H H' N0 H0 N F : Hp} {ctx : List Fact} {L : List Own} {α β : Type} [Rp α] [Rp β] {x : α} {v : V} {a : Addr} {xs ys ys' : List β} {us : List V}
theorem Wd.mutN (s : Same N0 (PB.del H a)) (h : H a = some (.lst us)) (r : All2 (Rp.rep (lkN N0)) xs us) : Wd K (cutH (PB.del H a) N0) [fN N0 (PB.del H a)] [oL true a xs] H := by
  refine ⟨N0, PB.del H a, fun b u e => ?_, s, fun b u e => ?_, Same.del, fun f hf => ?_, fun o ho => ?_, fun o ho => ?_, by simp⟩
  · unfold cutH at e
    cases q : N0 b with
    | some w => rw [q] at e; cases e
    | none => rw [q] at e; exact e
  · unfold cutH
    rw [e]
  · rw [List.mem_singleton.mp hf]
    exact ⟨Same.refl _, Same.refl _⟩
  · obtain rfl := List.mem_singleton.mp ho
    exact ⟨_, h, us, rfl, r⟩
  · obtain rfl := List.mem_singleton.mp ho
    exact del_same
theorem Wd.res1N (W : Wd K (cutH (PB.del H0 a) N0) ctx L H) (m : Nat) (hm : ctx[m]? = some (fN N0 (PB.del H0 a))) (j : Nat) (hj : L[j]? = some (oL true a ys)) (h : Kn K ctx true x v) : Res1N K N0 H0 a (x, ys) v H := by
  obtain ⟨N, F, W⟩ := W
  obtain ⟨s1, s2⟩ := W.facts _ (List.mem_of_getElem? hm)
  obtain ⟨k, hk, vs, rfl, hr⟩ := W.at_ _ (List.mem_of_getElem? hj)
  have hoff : F a = none := W.off _ (List.mem_of_getElem? hj)
  have hNa : N a = none := W.nF.free hoff
  refine ⟨N, s1, But.of_del (s2.trans W.fH), W.nF.trans W.fH, fun b u e => ?_, hNa, h N F W.nF W.facts, vs, hk, hr⟩
  have hb : b ≠ a := fun z => by
    rw [z, hNa] at e
    cases e
  have h1 := W.sep b u e
  unfold cutH at h1
  cases q : N0 b with
  | some w =>
    have := s1 b w q
    rw [e] at this
    exact .inr this.symm
  | none =>
    rw [q] at h1
    exact .inl ((del_ne hb).symm.trans h1)
theorem WdI.ioN (W : WdI K B ctx L H N F) (j : Nat) (hj : L[j]? = some (oL true a xs)) : ∃ us, H a = some (.lst us) ∧ All2 (Rp.rep (lkN N)) xs us ∧ Same N (PB.del H a) := by
  obtain ⟨o, h1, vs, rfl, h2⟩ := W.at_ _ (List.mem_of_getElem? hj)
  exact ⟨vs, h1, h2, W.nF.trans (toDel W.fH (W.off _ (List.mem_of_getElem? hj)))⟩
theorem WdI.callN1 (W : WdI K B ctx L H N F) (j : Nat) (hj : L[j]? = some (oL true a ys)) (r : Res1N K N H a (x, ys') v H') : Wd K B (fc true x v :: ctx) (L.set j (oL true a ys')) H' := by
  obtain ⟨N', s1, s2, s3, s4, hNa, hr, vs, hv, hvs⟩ := r
  have hoff : F a = none := W.off _ (List.mem_of_getElem? hj)
  have hF : ∀ b u, N' b = some u → F b = none ∨ F b = some u := fun b u e => by
    rcases s4 b u e with h | h
    · exact .inl (W.fH.free h)
    · exact .inr (W.nF b u h)
  have sN' : Same N' (join F N') := fun b u e => by
    unfold join
    rcases hF b u e with h | h
    · rw [h]
      exact e
    · rw [h]
  have sF : Same F (join F N') := join_l
  have ea : (L.set j (oL true a ys')).map (·.a) = L.map (·.a) := by
    rw [List.map_set]
    refine List.ext_getElem? fun i => ?_
    rw [List.getElem?_set]
    by_cases hi : j = i
    · subst hi
      have := (List.getElem?_eq_some_iff.mp hj).1
      rw [if_pos rfl, if_pos (by rw [List.length_map]; exact this), List.getElem?_map, hj]
      rfl
    · rw [if_neg hi]
  have offJ : ∀ o ∈ L, o.a ≠ a → join F N' o.a = none := fun o ho _ => by
    obtain ⟨u, e, q⟩ := W.at_ o ho
    have ho2 := W.off o ho
    unfold join
    rw [ho2]
    show N' o.a = none
    cases q2 : N' o.a with
    | none => rfl
    | some w =>
      rcases s4 _ _ q2 with h | h
      · rw [e] at h
        cases h
      · have := W.nF _ _ h
        rw [ho2] at this
        cases this
  refine ⟨N', join F N', W.bF.trans sF, sN', fun b u e => ?_, fun b u e => ?_, fun f hf => ?_, fun o ho => ?_, fun o ho => ?_, by rw [ea]; exact W.nd⟩
  · rcases s4 b u e with h | h
    · exact W.bF.free (W.fH.free h)
    · exact W.sep b u h
  · rcases join_or e with e | e
    · refine s2 b u (fun hm => ?_) (W.fH b u e)
      rw [List.mem_singleton.mp hm, hoff] at e
      cases e
    · exact s3 b u e
  · rcases List.mem_cons.mp hf with rfl | hf
    · exact hr
    · exact f.mono s1 sF (W.facts f hf)
  · rcases setMem' W.nd hj ho with rfl | ⟨h1, h2⟩
    · exact ⟨_, hv, vs, rfl, hvs⟩
    · obtain ⟨u, e, q⟩ := W.at_ o h1
      exact ⟨u, s2 _ _ (fun hm => h2 (List.mem_singleton.mp hm)) e, o.mono s1 sF q⟩
  · rcases setMem' W.nd hj ho with rfl | ⟨h1, h2⟩
    · show join F N' a = none
      unfold join
      rw [hoff]
      exact hNa
    · exact offJ o h1 h2
theorem WdI.callN1B {i : Bool} (W : WdI K B ctx L H N F) (j : Nat) (hj : L[j]? = some (oL true a ys)) (r : Res1N K N H a (i, ys') v H') : v = .bl i ∧ Wd K B ctx (L.set j (oL true a ys')) H' := by
  have h := W.callN1 j hj r
  exact ⟨h.eqB (Kn.at 0 rfl), h.drop 1 rfl⟩
end
/-! ### tuples of three in order -/
open PySem.W PySem.SeqAt
section
variable {α β γ : Type} [DecidableEq α] [DatumOrd α] [DecidableEq β] [DatumOrd β] [DecidableEq γ] [DatumOrd γ]
theorem T3.ext' {p q : T3 α β γ} (h1 : p.a = q.a) (h2 : p.b = q.b) (h3 : p.c = q.c) : p = q := by
  cases p; cases q
  simp at h1 h2 h3
  rw [h1, h2, h3]
instance : Datum (T3 α β γ) where
  toD p := .tuple [Datum.toD p.a, Datum.toD p.b, Datum.toD p.c]
  plain p := by simp only [PyData.plain, PyData.plainAll, Datum.plain, Bool.and_self]
  eqv p q := by
    simp only [PyData.eqv, PyData.eqvAll, Datum.eqv, Bool.and_true, ← Bool.decide_and]
    exact decide_eq_decide.mpr ⟨fun e => T3.ext' e.1 e.2.1 e.2.2, fun e => by rw [e]; exact ⟨rfl, rfl, rfl⟩⟩
  depth := max (Datum.depth α) (max (Datum.depth β) (Datum.depth γ)) + 1
  depth_le p := by
    simp only [PyData.depth, PyData.depthAll]
    have h1 := Datum.depth_le p.a
    have h2 := Datum.depth_le p.b
    have h3 := Datum.depth_le p.c
    omega
def lt3 (p q : T3 α β γ) : Bool := if p.a = q.a then (if p.b = q.b then DatumOrd.lt p.c q.c else DatumOrd.lt p.b q.b) else DatumOrd.lt p.a q.a
instance : DatumOrd (T3 α β γ) where
  lt := lt3
  alike p q := by
    show PySem.W.alike (.tuple [_, _, _]) (.tuple [_, _, _]) = true
    simp only [PySem.W.alike, alikeAll, DatumOrd.alike, Bool.and_self]
  notNone a := fun e => by cases e
  lt_eq p q := by
    refine (dataLt_tuple _ _).trans ?_
    unfold lt3
    by_cases h : p.a = q.a
    · rw [if_pos h, dataLt_all_yes (DatumOrd.alike p.a q.a) (by rw [Datum.eqv, decide_eq_true_eq]; exact h)]
      by_cases h2 : p.b = q.b
      · rw [if_pos h2, dataLt_all_yes (DatumOrd.alike p.b q.b) (by rw [Datum.eqv, decide_eq_true_eq]; exact h2)]
        by_cases h3 : p.c = q.c
        · rw [dataLt_all_yes (DatumOrd.alike p.c q.c) (by rw [Datum.eqv, decide_eq_true_eq]; exact h3), lex_irrefl, h3]
          exact ((dataLt_self _).symm.trans (DatumOrd.lt_eq q.c q.c))
        · rw [dataLt_all_no (DatumOrd.alike p.c q.c) (by rw [Datum.eqv, decide_eq_false_iff_not]; exact h3)]
          exact DatumOrd.lt_eq p.c q.c
      · rw [if_neg h2, dataLt_all_no (DatumOrd.alike p.b q.b) (by rw [Datum.eqv, decide_eq_false_iff_not]; exact h2)]
        exact DatumOrd.lt_eq p.b q.b
    · rw [if_neg h, dataLt_all_no (DatumOrd.alike p.a q.a) (by rw [Datum.eqv, decide_eq_false_iff_not]; exact h)]
      exact DatumOrd.lt_eq p.a q.a
end
instance {α β γ : Type} [Rp α] [RpD α] [DecidableEq α] [DatumOrd α] [RpQ α] [Rp β] [RpD β] [DecidableEq β] [DatumOrd β] [RpQ β] [Rp γ] [RpD γ] [DecidableEq γ] [DatumOrd γ] [RpQ γ] : RpQ (T3 α β γ) := ⟨fun x => by show PyData.tuple [RpD.d x.a, RpD.d x.b, RpD.d x.c] = .tuple [Datum.toD x.a, Datum.toD x.b, Datum.toD x.c]; rw [RpQ.dc, RpQ.dc, RpQ.dc]⟩
end PB

namespace PB
open PySem PySem.Spec PyProof.Rows L2
/-! ### sorted(set(xs)) of a list of ints -/
def nilSet (w : World) : Obj := { cls := .type "set", dict := none, data := .set #[] 0 (.fresh 0 0 (!w.params.followText "set-order")) }
section
variable {P : Program} {w : World} {A : Around} {E : Value → Shared → Prop} {s : Shared}
theorem SetR.start {h : Heap} {a : Addr} (ns : List Int) (ho : h.get? a = some (nilSet w)) : SetR w h a (fun j => decide (j ∈ ns.take 0)) 0 := setR_new_at ho
/-- what stands behind set(list) -/
def SetDone (w : World) (s s' : Shared) (ns : List Int) : Prop := ∃ (h' : Heap) (tk c : Nat), s' = { s with heap := h', toks := tk } ∧ SetR w h' s.heap.objs.size (fun j => decide (j ∈ ns)) c ∧ c ≤ ns.length ∧ ∀ b o, s.heap.get? b = some o → h'.get? b = some o
theorem init_setL {l : Addr} {items : Array Value} {ns : List Int} (hh : A.handled = none) (hl : s.heap.IsList l items) (hi : IntsAre items.toList ns) (hb : ns.length + 1 < scanBound)
    {R : Result → Shared → Prop} (h : ∀ s', SetDone w s s' ns → R (.ok (.ret .none)) s') :
    codeAny (model P w) A (.call (.builtin "set.__init__") ⟨[.ref s.heap.objs.size, .ref l], []⟩) R { s with heap := s.heap.push (nilSet w) } := by
  have hz : items.size = ns.length := by
    have q := IntsAre.length hi
    rwa [Array.length_toList] at q
  have gS : (s.heap.push (nilSet w)).get? s.heap.objs.size = some (nilSet w) := Heap.get?_push_size _ rfl
  have hT : Shared.TypeIs { s with heap := s.heap.push (nilSet w) } (.ref s.heap.objs.size) "set" := ⟨_, gS, rfl⟩
  refine codeAny_call_builtin F.called_set.init.plain F.entry_set_init (check_set_init_1 hT ?_)
  have hlp : (s.heap.push (nilSet w)).IsList l items := hl.push _
  obtain ⟨ol, hol, hcl, nl, hdl⟩ := hlp
  obtain ⟨ocls, odict, odata, oslots⟩ := ol
  simp only at hcl hdl
  subst hcl
  subst hdl
  have u1 := F.sub_list_set
  have u2 := F.sub_list_frozenset
  have ne1 : (Value.type "list" == Value.type "dict") = false := by decide
  have hl2 : (s.heap.push (nilSet w)).IsList l items := hl.push _
  have hlt : l < s.heap.objs.size := by
    obtain ⟨o, ho, _⟩ := hl
    exact Heap.lt_size ho
  unfold Builtin.«set.__init__» noKeywords Builtin.Frozenset.updateFrom
  generalize hPI : pyIter = PI
  wp_walk
  subst hPI
  refine wpAny_pyIter_list hl2 ?_
  refine wpAny_bind (wpAny_runValue ?_)
  have h3 : A.in1.in1.handled = none := by simp [hh]
  have z1 : (s.heap.push (nilSet w)).objs.size = s.heap.objs.size + 1 := Heap.size_push ..
  have nI : l ≠ (s.heap.push (nilSet w)).objs.size := by rw [z1]; exact Nat.ne_of_lt (Nat.lt_succ_of_lt hlt)
  have nS : s.heap.objs.size ∉ [(s.heap.push (nilSet w)).objs.size, l] := by
    rw [z1]
    simp only [List.mem_cons, List.not_mem_nil, or_false, not_or]
    exact ⟨Nat.ne_of_lt (Nat.lt_succ_self _), Nat.ne_of_gt hlt⟩
  have hv : ∀ (i : Nat) (v : Value), items[i]? = some v → ∃ k t, ns[i]? = some k ∧ v = .int k t := fun i v e => by
    have hi' : i < ns.length := by rw [← hz]; exact (Array.getElem?_eq_some_iff.mp e).1
    obtain ⟨t, q⟩ := IntsAre.int_at hi i v (by rw [Array.getElem?_toList]; exact e)
    exact ⟨ns[i], t, List.getElem?_eq_getElem hi', by rw [q, List.getD_eq_getElem?_getD, List.getElem?_eq_getElem hi']; rfl⟩
  refine set_update_ints ((Walks.list h3 _ l nI items).toS) s.heap.objs.size nS ns hz hb hv (items.size - 0) 0 _ (by omega) (Nat.zero_le _)
    ?hT ⟨0, Nat.le_refl 0, ?hS⟩ ?hR
  case hT => exact ⟨⟨_, Heap.get?_push_size _ rfl, rfl, rfl⟩, hl2.push _⟩
  case hS => exact SetR.start ns (Heap.get?_push_of_some _ gS)
  case' hR => refine fun s' c hm hc hS => ?_
  obtain ⟨h', g2, d', tk', os'⟩ := s'
  obtain rfl : g2 = s.gens := hm.gens
  obtain rfl : d' = s.drawn := hm.drawn
  obtain rfl : os' = s.os := hm.os
  show wpAny _ _ _ _ _ _
  refine wpAny_pure ?_
  show wpAny _ _ (ret Value.none) _ _ _
  refine wpAny_pure (h _ ⟨h', tk', c, rfl, hS, by omega, fun b o e => ?_⟩)
  have b0 : b < s.heap.objs.size := Heap.lt_size e
  refine hm.heap b o ?_ (Heap.get?_push_of_some _ (Heap.get?_push_of_some _ e))
  rw [z1]
  simp only [List.mem_cons, List.not_mem_nil, or_false, not_or]
  exact ⟨Nat.ne_of_lt b0, Nat.ne_of_lt (Nat.lt_succ_of_lt b0)⟩
theorem call_setL {l : Addr} {items : Array Value} {ns : List Int} {Q : Value → Shared → Prop} (hh : A.handled = none) (hl : s.heap.IsList l items) (hi : IntsAre items.toList ns) (hb : ns.length + 1 < scanBound)
    (h : ∀ s', SetDone w s s' ns → Q (.ref s.heap.objs.size) s') : wpAny (model P w) A (call (.type "set") [.ref l]) Q E s := by
  obtain ⟨c, tl, hmro⟩ := F.called_set.mro
  have hmade := F.called_set.made
  have hsub := F.called_set.sub
  refine wpAny_call (codeAny_of_tree ?_)
  show wpAny _ _ (callAny (.type "set") _) _ _ _
  refine wpAny_pure ⟨Code.quiet_builtin _ (by decide +kernel), codeAny_builtin F.entry_type_call ?_⟩
  rw [Around.under_plain (weight_type_call_type "set" [.ref l] []) rfl]
  have h1 := F.called_set.notType
  have h2 := F.called_set.canCreate
  have hct := F.typeCall_set_1 (.ref l)
  repeat (any_goals (first | assumption | wp_step))
  refine codeAny_mono (code_set_led1 (.ref l) (E := E) (Q₁ := fun obj s1 => obj = .ref s.heap.objs.size ∧ s1 = { s with heap := s.heap.push (nilSet w) }) ⟨rfl, rfl⟩) fun r s1 hr => ?_
  cases r with
  | error e => exact hr
  | ok fl =>
    cases fl with
    | ret obj =>
      obtain ⟨rfl, rfl⟩ := hr
      have gS : (s.heap.push (nilSet w)).get? s.heap.objs.size = some (nilSet w) := Heap.get?_push_size _ rfl
      have hT : Shared.TypeIs { s with heap := s.heap.push (nilSet w) } (.ref s.heap.objs.size) "set" := ⟨_, gS, rfl⟩
      have hli := F.called_set.init.lookup
      have hbi := F.called_set.init.bind (.ref s.heap.objs.size)
      repeat (any_goals (first | assumption | wp_step))
      refine codeAny_mono (init_setL (R := wants (fun r s2 => r = .none ∧ SetDone w s s2 ns) E) (A := A.in1) (by simp [hh]) hl hi hb fun s' q => ⟨rfl, q⟩) fun r2 s2 hr2 => ?_
      cases r2 with
      | error e => exact hr2
      | ok fl2 =>
        cases fl2 with
        | ret r =>
          obtain ⟨rfl, q⟩ := hr2
          repeat (any_goals (first | assumption | wp_step))
          exact h _ q
        | _ => exact hr2.elim
    | _ => exact hr.elim
end
/-- sorted(found), any number of members -/
theorem sorted_setN {P : Program} {w : World} {A : Around} {E : Value → Shared → Prop} {s : Shared} {a : Addr} {S : Int → Bool} {n : Nat} {Q : Value → Shared → Prop} (R : SetR w s.heap a S n) (hh : A.handled = none) (hc : n ≤ 100000)
    (hQ : ∀ s' p (out : List Value) (c : Nat) (ns : List Int), (∀ b o, s.heap.get? b = some o → s'.heap.get? b = some o) → s'.gens = s.gens → s'.os = s.os → s.heap.objs.size ≤ p →
      s'.heap.get? p = some (seqObj "list" out.toArray c) → IntsAre out ns → ns.Pairwise (· < ·) → (∀ k, k ∈ ns ↔ S k = true) → ns.length = n → Q (.ref p) s') :
    wpAny (model P w) A (call (.builtin "sorted") [.ref a]) Q E s := by
  obtain ⟨o, es, ep, t, ho, hex, hd, g, nd, hm, hb, hf, hn, hr, hl⟩ := R
  refine Calls.call_function_entry kind_sorted plain_sorted entry_sorted (args_sorted1 _) ?_
  unfold Builtin.«sorted»
  refine wpAny_bind (m := checkCount "sorted" 1 1 _) (wpAny_pure ?_)
  refine wpAny_bind (collect_set (A := A.in1) hh ⟨o, ho, hex.1, hd⟩ hf hb hr hl fun s1 vs k1 hz g1 o1 pm => ?_)
  have hvl : vs.length = n := by rw [pm.length_eq, List.length_map, Array.length_toList]; exact hn
  have hI : IntsAre vs (vs.map Builtin.Re.reRawOf) := ints_of vs fun v hv => by
    obtain ⟨e, he, q⟩ := List.mem_map.mp (pm.mem_iff.mp hv)
    obtain ⟨k, tk, h1, _⟩ := g e he
    exact ⟨k, tk, by rw [← q]; exact h1⟩
  have pk : (vs.map Builtin.Re.reRawOf).Perm (es.toList.map keyOf) := by
    have q := pm.map Builtin.Re.reRawOf
    rw [List.map_map] at q
    exact q
  have hsz : vs.length ≤ sizeLine := by rw [hvl, sizeLine_eq]; omega
  refine wpAny_bind (wpAny_newList ?_ hsz)
  have hoL : (s1.heap.push (seqObj "list" vs.toArray 0)).get? s1.heap.objs.size = some (seqObj "list" vs.toArray 0) := Heap.get?_push_size _ rfl
  refine wpAny_bind (wpAny_holding (wpAny_call_entry slot_list_sort ⟨_, hoL, rfl⟩ entry_list_sort (SrtO.list_sort_ord SrtO.swo_int hoL hsz (fun h2 => SrtO.ints_sortable hI h2) fun out h1 h2 => ⟨_, rfl, ?_⟩) (args_list_sort _)))
  obtain ⟨c1, c2, c3⟩ := SrtO.ints_out hI h1 h2
  obtain ⟨c, hc⟩ := sortedHeap_at (vs := vs) (out := out.toArray) hoL
  have pn : (out.map SrtO.iv).Perm (es.toList.map keyOf) := c2.trans pk
  refine wpAny_pure ⟨_, rfl, hQ _ s1.heap.objs.size out c (out.map SrtO.iv) (fun b u e => ?_) g1 o1 hz hc c1 (lt_of_le_nodup _ c3 (pn.nodup_iff.mpr nd)) (fun k => by rw [pn.mem_iff, ← hm k]) ?_⟩
  · have q := k1 b u e
    have hlt := Heap.lt_size q
    show (sortedHeap (s1.heap.push (seqObj "list" vs.toArray 0)) s1.heap.objs.size vs out.toArray).get? b = some u
    rw [sortedHeap_old (Nat.ne_of_lt hlt) (by rw [size_push']; exact Nat.lt_succ_of_lt hlt)]
    exact Heap.get?_push_of_some _ q
  · rw [pn.length_eq, List.length_map, Array.length_toList]; exact hn
def rSrtSet (w : World) : List V → Hp → VK → Prop := fun vs H Q => ∃ (a : Addr) (S : Int → Bool) (n : Nat), vs = [V.ref a] ∧ H a = some (SetO w a S n) ∧ n ≤ 100000 ∧
  ∀ (ns : List Int) (p : Addr), ns.Pairwise (· < ·) → (∀ k : Int, k ∈ ns ↔ S k = true) → ns.length = n → H p = none → Q (.ref p) (upd H p (.lst (ns.map V.int)))
theorem cr_srtSet {X : Cx} (hc : X.calm = true) : CallR X (.builtin "sorted") (rSrtSet X.w) := by
  intro pins s σ H vs us Q I r h
  obtain ⟨a, S, n, rfl, ha, hn, q⟩ := h
  have R := setO_get I ha
  rw [Vals.ref1 r]
  refine sorted_setN R (I.ok.hd hc) hn fun s' p out c ns k g o hp hg hi hs hm hl => ?_
  have hlen : (ns.map V.int).length ≤ sizeLine := by rw [List.length_map, hl, sizeLine_eq]; omega
  have hn : H p = none := I.hok.fresh hp
  have J : Inv X pins σ (upd H p (.lst (ns.map V.int))) { s with heap := s'.heap, gens := s'.gens, drawn := s'.drawn, toks := s'.toks } :=
    I.call (ch := []) (Un.laid k hp hn) (I.hok.laid k hp ⟨hlen, out, c, vals_of_ints hi, hg⟩) (by rw [g]; exact I.bare) (fun _ z => nomatch z)
  have e : s' = { s with heap := s'.heap, gens := s'.gens, drawn := s'.drawn, toks := s'.toks } := by
    cases s'
    cases s
    cases o
    rfl
  rw [e]
  exact ⟨.ref p, _, J, rfl, q ns p hs hm hl hn⟩
/-- set(xs), a list of ints -/
def rSetL (w : World) (K : PySem.W.Frag) : List V → Hp → VK → Prop := fun vs H Q => ∃ (a : Addr) (ns : List Int), vs = [V.ref a] ∧ SqL K H a (ns.map V.int) ∧ ns.length ≤ 4000 ∧
  ∀ (p : Addr) (c : Nat), H p = none → c ≤ ns.length → Q (.ref p) (upd H p (SetO w p (fun j => decide (j ∈ ns)) c))
theorem cr_setL {X : Cx} (hc : X.calm = true) : CallR X (.type "set") (rSetL X.w X.K) := by
  intro pins s σ H vs us Q I r h
  obtain ⟨a, ns, rfl, hs, hl, q⟩ := h
  obtain ⟨its, rv, pl, hz⟩ := I.list hs
  rw [Vals.ref1 r]
  have hi : IntsAre its.toArray.toList ns := ints_of_vals rv
  refine call_setL (I.ok.hd hc) pl.isList hi (by unfold scanBound; omega) fun s' ⟨h', tk, c, e, R, hcn, k⟩ => ?_
  rw [e]
  exact ⟨.ref _, upd H s.heap.objs.size (SetO X.w s.heap.objs.size (fun j => decide (j ∈ ns)) c), I.laid (t' := tk) k (Nat.le_refl _) (setO_new R), rfl, q _ c (I.hok.fresh (Nat.le_refl _)) hcn⟩
/-- the members in order, each once -/
def insI (x : Int) : List Int → List Int
  | [] => [x]
  | y :: ys => if x < y then x :: y :: ys else if x = y then y :: ys else y :: insI x ys
def ssetI (xs : List Int) : List Int := xs.foldr insI []
def ssetO (xs : List Int) : Option (List Int) := if xs.length ≤ 4000 then some (ssetI xs) else none
theorem insI_mem (x : Int) : ∀ (ys : List Int) (z : Int), z ∈ insI x ys ↔ z = x ∨ z ∈ ys
  | [], z => by simp [insI]
  | y :: ys, z => by
    unfold insI
    split
    · simp
    · split
      · rename_i h
        simp [h]
      · rw [List.mem_cons, insI_mem x ys z, List.mem_cons]
        grind
theorem insI_pw (x : Int) : ∀ (ys : List Int), ys.Pairwise (· < ·) → (insI x ys).Pairwise (· < ·)
  | [], _ => List.pairwise_singleton _ _
  | y :: ys, h => by
    obtain ⟨h1, h2⟩ := List.pairwise_cons.mp h
    unfold insI
    split
    · rename_i c
      exact List.pairwise_cons.mpr ⟨fun z hz => by
        rcases List.mem_cons.mp hz with rfl | hz
        · exact c
        · exact Int.lt_trans c (h1 z hz), h⟩
    · split
      · exact h
      · refine List.pairwise_cons.mpr ⟨fun z hz => ?_, insI_pw x ys h2⟩
        rcases (insI_mem x ys z).mp hz with rfl | hz
        · omega
        · exact h1 z hz
theorem ssetI_mem (xs : List Int) (z : Int) : z ∈ ssetI xs ↔ z ∈ xs := by
  induction xs with
  | nil => exact Iff.rfl
  | cons x xs ih =>
    show z ∈ insI x (ssetI xs) ↔ _
    rw [insI_mem, ih, List.mem_cons]
theorem ssetI_pw (xs : List Int) : (ssetI xs).Pairwise (· < ·) := by
  induction xs with
  | nil => exact List.Pairwise.nil
  | cons x xs ih => exact insI_pw x _ ih
theorem pw_uniq : ∀ {xs ys : List Int}, xs.Pairwise (· < ·) → ys.Pairwise (· < ·) → (∀ z, z ∈ xs ↔ z ∈ ys) → xs = ys
  | [], ys, _, _, h => by
    cases ys with
    | nil => rfl
    | cons y ys => exact nomatch (h y).mpr List.mem_cons_self
  | x :: xs, ys, h1, h2, h => by
    cases ys with
    | nil => exact nomatch (h x).mp List.mem_cons_self
    | cons y ys =>
      obtain ⟨a1, a2⟩ := List.pairwise_cons.mp h1
      obtain ⟨b1, b2⟩ := List.pairwise_cons.mp h2
      have e : x = y := by
        rcases List.mem_cons.mp ((h x).mp List.mem_cons_self) with q | q
        · exact q
        · rcases List.mem_cons.mp ((h y).mpr List.mem_cons_self) with q' | q'
          · exact q'.symm
          · have := a1 _ q'
            have := b1 _ q
            omega
      subst e
      refine congrArg _ (pw_uniq a2 b2 fun z => ⟨fun hz => ?_, fun hz => ?_⟩)
      · rcases List.mem_cons.mp ((h z).mp (List.mem_cons_of_mem _ hz)) with q | q
        · have := a1 _ hz
          omega
        · exact q
      · rcases List.mem_cons.mp ((h z).mpr (List.mem_cons_of_mem _ hz)) with q | q
        · have := b1 _ hz
          omega
        · exact q
theorem w_sset {K : PySem.W.Frag} {B H : Hp} {ctx : List Fact} {L : List Own} {t : Bool} {xs ys : List Int} {v : V} {w : World} {Q : VK} {σ : L2.St} (W : Wd K B ctx L H) (h : Ls K ctx L t xs v) (e : ssetO xs = some ys)
    (k : ∀ p H', Wd K B ctx (oL true p ys :: L) H' → Q (.ref p) H') : rSetL w K [v] H (fun u H1 => tNil σ H1 fun xs H2 => rSrtSet w (u :: xs) H2 Q) := by
  show rSetL w K [v] H (fun u H1 => rSrtSet w [u] H1 Q)
  obtain ⟨N, F, W⟩ := W
  obtain ⟨a, vs, rfl, h1, h2⟩ := h B H N F W
  rw [all2_int h2] at h1
  unfold ssetO at e
  split at e
  · rename_i hl
    cases e
    refine ⟨a, xs, rfl, h1, hl, fun p c hp hc => ⟨p, (fun j => decide (j ∈ xs)), c, rfl, ?_, by omega, fun ns q hs hm hn hq => ?_⟩⟩
    · unfold upd
      simp
    · have e2 : ns = ssetI xs := pw_uniq hs (ssetI_pw xs) fun z => by rw [hm, ssetI_mem, decide_eq_true_eq]
      rw [e2]
      have W1 : Wd K B ctx L (upd H p (SetO w p (fun j => decide (j ∈ xs)) c)) := Wd.same ⟨N, F, W⟩ fun b u hb => by
        rw [upd_ne (fun z => by rw [z, hp] at hb; cases hb)]
        exact hb
      obtain ⟨N', F', W'⟩ := W1
      exact k q _ (Wd.newL W' hq (all2_ofInt _))
  · cases e
/-! ### a op b op' c op'' d -/
def tChain3 (r r' r'' : R2) (ta tb tc td : TE) : TE := fun σ H Q => ta σ H fun x H1 => tb σ H1 fun y H2 => r x y H2 fun z H3 => rBl z H3 fun k H4 =>
  if k = true then tc σ H4 (fun w' H5 => r' y w' H5 fun z' H6 => rBl z' H6 fun k' H7 => if k' = true then td σ H7 fun u H8 => r'' w' u H8 Q else Q (.bl false) H7) else Q (.bl false) H4
theorem pe_chain3 {X : Cx} {a b c d : Expr} {op op' op'' : CmpOp} {r r' r'' : R2} {ta tb tc td : TE} {pos : Pos} (ho : OpR X (compareOp op) r) (ho' : OpR X (compareOp op') r') (ho'' : OpR X (compareOp op'') r'') (ha : PE X a ta) (hb : PE X b tb) (hc : PE X c tc) (hd : PE X d td)
    (hm : lastMarks [op, op', op''] [b, c, d] = false := by with_unfolding_all rfl) : PE X (.Compare a [op, op', op''] [b, c, d] pos) (tChain3 r r' r'' ta tb tc td) := by
  refine ⟨fun pins s σ H Q I h => ?_⟩
  refine Compare_chain (thn (ha.run pins s σ H _ I h) fun v s1 ⟨x, H1, I1, r1, q1⟩ => chain_link (thn (hb.run pins s1 σ H1 _ I1 q1) fun u s2 ⟨y, H2, I2, r2, q2⟩ =>
    thn (ho pins s2 σ H2 x y v u _ I2 r1 r2 q2) fun d s3 ⟨z, H3, I3, r3, k, e, q3⟩ => ?_)) hm
  subst e
  cases r3
  refine wpAny_truthy_bool ?_
  cases k with
  | false => exact ite_ff ⟨.bl false, H3, I3, rfl, q3⟩
  | true =>
    refine ite_tt (chain_link (thn (hc.run pins s3 σ H3 _ I3 q3) fun w' s4 ⟨z', H4, I4, r4, q4⟩ => thn (ho' pins s4 σ H4 y z' u w' _ I4 r2 r4 q4) fun d s5 ⟨z2, H5, I5, r5, k2, e2, q5⟩ => ?_))
    subst e2
    cases r5
    refine wpAny_truthy_bool ?_
    cases k2 with
    | false => exact ite_ff ⟨.bl false, H5, I5, rfl, q5⟩
    | true => exact ite_tt (chain_last (thn (hd.run pins s5 σ H5 _ I5 q5) fun w2 s6 ⟨z3, H6, I6, r6, q6⟩ => ho'' pins s6 σ H6 z' z3 w' w2 Q I6 r4 r6 q6))
theorem pt_chain3 {X : Cx} {a b c d : Expr} {op op' op'' : CmpOp} {r r' r'' : R2} {ta tb tc td : TE} {pos : Pos} (ho : OpR X (compareOp op) r) (ho' : OpR X (compareOp op') r') (ho'' : OpR X (compareOp op'') r'') (ha : PE X a ta) (hb : PE X b tb) (hc : PE X c tc) (hd : PE X d td)
    (hm : lastMarks [op, op', op''] [b, c, d] = false := by with_unfolding_all rfl) : PT X (.Compare a [op, op', op''] [b, c, d] pos) (tTest (tChain3 r r' r'' ta tb tc td)) := by
  refine ⟨fun pins s σ H Q I h => ?_⟩
  refine isTrue_chain (thn (ha.run pins s σ H _ I h) fun v s1 ⟨x, H1, I1, r1, q1⟩ => test_link (thn (hb.run pins s1 σ H1 _ I1 q1) fun u s2 ⟨y, H2, I2, r2, q2⟩ =>
    thn (ho pins s2 σ H2 x y v u _ I2 r1 r2 q2) fun d s3 ⟨z, H3, I3, r3, k, e, q3⟩ => ?_)) hm
  subst e
  cases r3
  refine wpAny_truthy_bool ?_
  cases k with
  | false =>
    obtain ⟨k', e', q'⟩ := q3
    cases e'
    exact ite_ff ⟨H3, I3, q'⟩
  | true =>
    refine ite_tt (test_link (thn (hc.run pins s3 σ H3 _ I3 q3) fun w' s4 ⟨z', H4, I4, r4, q4⟩ => thn (ho' pins s4 σ H4 y z' u w' _ I4 r2 r4 q4) fun d s5 ⟨z2, H5, I5, r5, k2, e2, q5⟩ => ?_))
    subst e2
    cases r5
    refine wpAny_truthy_bool ?_
    cases k2 with
    | false =>
      obtain ⟨k', e', q'⟩ := q5
      cases e'
      exact ite_ff ⟨H5, I5, q'⟩
    | true =>
      refine ite_tt (test_last (thn (hd.run pins s5 σ H5 _ I5 q5) fun w2 s6 ⟨z3, H6, I6, r6, q6⟩ => thn (ho'' pins s6 σ H6 z' z3 w' w2 _ I6 r4 r6 q6) fun d' s7 ⟨z4, H7, I7, r7, k3, e3, q7⟩ => ?_))
      subst e3
      cases r7
      exact wpAny_truthy_bool ⟨H7, I7, q7⟩
section
variable {K : PySem.W.Frag} {B H : Hp} {ctx : List Fact} {L L' : List Own} {Q : VK} {σ : L2.St}
theorem i_chain3 {r r' r'' : R2} {ta tb tc td : TE} (h : ta σ H fun x H1 => tb σ H1 fun y H2 => r x y H2 fun z H3 => rBl z H3 fun k H4 =>
  if k = true then tc σ H4 (fun w' H5 => r' y w' H5 fun z' H6 => rBl z' H6 fun k' H7 => if k' = true then td σ H7 fun u H8 => r'' w' u H8 Q else Q (.bl false) H7) else Q (.bl false) H4) : tChain3 r r' r'' ta tb tc td σ H Q := h
theorem w_chain3W {b : Bool} (c : Bool) {tc td : TE} {r' r'' : R2} {y : V} (W : Wd K B ctx L H)
    (h1 : b = true → ∀ P' : VK, (∀ d H', d = c → Wd K B ctx L' H' → P' (.bl d) H') → tc σ H fun w' H5 => r' y w' H5 fun z' H6 => rBl z' H6 fun k' H7 => if k' = true then td σ H7 fun u H8 => r'' w' u H8 P' else P' (.bl false) H7)
    (h2 : b = false → false = c ∧ Wd K B ctx L' H) (h3 : ∀ H', Wd K B ctx L' H' → Q (.bl c) H') :
    if b = true then tc σ H (fun w' H5 => r' y w' H5 fun z' H6 => rBl z' H6 fun k' H7 => if k' = true then td σ H7 (fun u H8 => r'' w' u H8 Q) else Q (.bl false) H7) else Q (.bl false) H :=
  w_andVW (te := fun σ H P => tc σ H fun w' H5 => r' y w' H5 fun z' H6 => rBl z' H6 fun k' H7 => if k' = true then td σ H7 (fun u H8 => r'' w' u H8 P) else P (.bl false) H7) c W h1 h2 h3
end
section
variable {K : PySem.W.Frag} {B H : Hp} {ctx : List Fact} {L : List Own} {α β : Type} [Rp α] [Rp β] {xs : List α} {ys : List β} {a c : Addr} {t t' : Bool} {R : It → Hp → Prop}
theorem w_zpH (W : Wd K B ctx L H) (h : Ls K ctx L t xs (.ref a)) (h' : Ls K ctx L t' ys (.ref c)) (k : R (Itz K a c) H) : rZp K [.ref a, .ref c] H R := by
  obtain ⟨N, F, W⟩ := W
  obtain ⟨a', vs, e, h1, h2⟩ := h B H N F W
  cases e
  obtain ⟨c', ws, e, h3, h4⟩ := h' B H N F W
  cases e
  exact i_zp h1 h3 k
end
end PB

namespace PB
open PySem PySem.Spec PyProof.Rows L2
/-! ### several objects changed by a def -/
/-- an entry that leans on what is new alone -/
def Own.Fr (o : Own) : Prop := ∀ K N F F' h, o.P K N F h → o.P K N F' h
def delL (H : Hp) (As : List Addr) : Hp := fun b => if b ∈ As then none else H b
structure PreM (K : PySem.W.Frag) (N0 H : Hp) (L0 : List Own) : Prop where
  s : Same N0 H
  nd : (L0.map (·.a)).Nodup
  off : ∀ o ∈ L0, N0 o.a = none
  at_ : ∀ o ∈ L0, ∃ h, H o.a = some h ∧ o.P K N0 N0 h
def ResM (K : PySem.W.Frag) (N0 H : Hp) (As : List Addr) (L' : List Own) {α : Type} [Rp α] (r : α) (v : V) (H' : Hp) : Prop :=
  ∃ N', Same N0 N' ∧ But As H H' ∧ Same N' H' ∧ (∀ b u, N' b = some u → H b = none ∨ N0 b = some u) ∧ (∀ a ∈ As, N' a = none) ∧ Rp.rep (lkN N') r v ∧ ∀ o ∈ L', ∃ h, H' o.a = some h ∧ o.P K N' N' h
def setAll (L : List Own) : List (Nat × Own × Own) → List Own
  | [] => L
  | p :: ps => setAll (L.set p.1 p.2.2) ps
def OkS (L : List Own) : List (Nat × Own × Own) → Prop
  | [] => True
  | p :: ps => L[p.1]? = some p.2.1 ∧ p.2.2.a = p.2.1.a ∧ OkS (L.set p.1 p.2.2) ps
def AllFr : List Own → Prop
  | [] => True
  | o :: L => o.Fr ∧ AllFr L
theorem AllFr.all : ∀ {L : List Own}, AllFr L → ∀ o ∈ L, o.Fr
  | [], _ => fun _ h => nomatch h
  | o :: L, ⟨h, g⟩ => fun q hq => by
    rcases List.mem_cons.mp hq with rfl | hq
    · exact h
    · exact g.all q hq
theorem set_mapa {L : List Own} {j : Nat} {o o' : Own} (hj : L[j]? = some o) (e : o'.a = o.a) : (L.set j o').map (·.a) = L.map (·.a) := by
  rw [List.map_set]
  refine List.ext_getElem? fun i => ?_
  rw [List.getElem?_set]
  by_cases hi : j = i
  · subst hi
    have := (List.getElem?_eq_some_iff.mp hj).1
    rw [if_pos rfl, if_pos (by rw [List.length_map]; exact this), List.getElem?_map, hj, e]
    rfl
  · rw [if_neg hi]
theorem setAll_map : ∀ {ps : List (Nat × Own × Own)} {L : List Own}, OkS L ps → (setAll L ps).map (·.a) = L.map (·.a)
  | [], _, _ => rfl
  | p :: ps, L, ⟨h1, h2, h3⟩ => (setAll_map h3).trans (set_mapa h1 h2)
theorem setAll_mem : ∀ {ps : List (Nat × Own × Own)} {L : List Own} {o : Own}, OkS L ps → (L.map (·.a)).Nodup → o ∈ setAll L ps → (o ∈ L ∧ ∀ p ∈ ps, o.a ≠ p.2.1.a) ∨ ∃ p ∈ ps, o = p.2.2
  | [], _, o, _, _, h => .inl ⟨h, fun _ h => nomatch h⟩
  | p :: ps, L, o, ⟨h1, h2, h3⟩, nd, h => by
    rcases setAll_mem h3 (by rw [set_mapa h1 h2]; exact nd) h with ⟨g1, g2⟩ | ⟨q, g1, g2⟩
    · rcases setMem' nd h1 g1 with rfl | ⟨g3, g4⟩
      · exact .inr ⟨p, List.mem_cons_self, rfl⟩
      · refine .inl ⟨g3, fun q hq => ?_⟩
        rcases List.mem_cons.mp hq with rfl | hq
        · exact g4
        · exact g2 q hq
    · exact .inr ⟨q, List.mem_cons_of_mem _ g1, g2⟩
theorem okS_addr : ∀ {ps : List (Nat × Own × Own)} {L : List Own}, OkS L ps → ∀ p ∈ ps, (∃ o ∈ L, o.a = p.2.1.a) ∧ p.2.2.a = p.2.1.a
  | p :: ps, L, ⟨h1, h2, h3⟩, q, hq => by
    rcases List.mem_cons.mp hq with rfl | hq
    · exact ⟨⟨_, List.mem_of_getElem? h1, rfl⟩, h2⟩
    · obtain ⟨⟨o, o1, o2⟩, e⟩ := okS_addr h3 q hq
      refine ⟨?_, e⟩
      have : o.a ∈ (L.set p.1 p.2.2).map (·.a) := List.mem_map.mpr ⟨o, o1, rfl⟩
      rw [set_mapa h1 h2] at this
      obtain ⟨o', g1, g2⟩ := List.mem_map.mp this
      exact ⟨o', g1, g2.trans o2⟩
section
variable {K : PySem.W.Frag} {B H H' N F N0 : Hp} {ctx : List Fact} {L L0 L' : List Own} {α : Type} [Rp α] {x : α} {v : V}
theorem Wd.startM (p : PreM K N0 H L0) (fr : AllFr L0) : Wd K (cutH (delL H (L0.map (·.a))) N0) [fN N0 (delL H (L0.map (·.a)))] L0 H := by
  have hin : ∀ o ∈ L0, o.a ∈ L0.map (·.a) := fun o ho => List.mem_map.mpr ⟨o, ho, rfl⟩
  refine ⟨N0, delL H (L0.map (·.a)), fun a u e => ?_, fun a u e => ?_, fun a u e => ?_, fun a u e => ?_, fun f hf => ?_, fun o ho => ?_, fun o ho => by
    unfold delL
    exact if_pos (hin o ho), p.nd⟩
  · unfold cutH at e
    cases q : N0 a with
    | some w => rw [q] at e; cases e
    | none => rw [q] at e; exact e
  · unfold delL
    rw [if_neg]
    · exact p.s a u e
    · intro hm
      obtain ⟨o, ho, rfl⟩ := List.mem_map.mp hm
      rw [p.off o ho] at e
      cases e
  · unfold cutH
    rw [e]
  · unfold delL at e
    split at e
    · cases e
    · exact e
  · rw [List.mem_singleton.mp hf]
    exact ⟨Same.refl _, Same.refl _⟩
  · obtain ⟨h, h1, h2⟩ := p.at_ o ho
    exact ⟨h, h1, fr.all o ho _ _ _ _ _ h2⟩
theorem Wd.resM {As : List Addr} (W : Wd K (cutH (delL H As) N0) ctx L H') (m : Nat) (hm : ctx[m]? = some (fN N0 (delL H As))) (hsub : ∀ o ∈ L', o ∈ L) (ha : L'.map (·.a) = As) (fr : AllFr L') (h : Kn K ctx true x v) : ResM K N0 H As L' x v H' := by
  obtain ⟨N, F, W⟩ := W
  obtain ⟨s1, s2⟩ := W.facts _ (List.mem_of_getElem? hm)
  have hoff : ∀ a ∈ As, F a = none := fun a ha' => by
    rw [← ha] at ha'
    obtain ⟨o, ho, rfl⟩ := List.mem_map.mp ha'
    exact W.off o (hsub o ho)
  have hN : ∀ a ∈ As, N a = none := fun a ha' => W.nF.free (hoff a ha')
  refine ⟨N, s1, fun b u hb e => W.fH b u (s2 b u ?_), W.nF.trans W.fH, fun b u e => ?_, hN, h N F W.nF W.facts, fun o ho => ?_⟩
  · unfold delL
    rw [if_neg hb]
    exact e
  · have hb : b ∉ As := fun z => by
      rw [hN b z] at e
      cases e
    have h1 := W.sep b u e
    unfold cutH at h1
    cases q : N0 b with
    | some w =>
      have := s1 b w q
      rw [e] at this
      exact .inr this.symm
    | none =>
      rw [q] at h1
      have h1 : delL H As b = none := h1
      unfold delL at h1
      rw [if_neg hb] at h1
      exact .inl h1
  · obtain ⟨u, e, q⟩ := W.at_ o (hsub o ho)
    exact ⟨u, e, fr.all o ho _ _ _ _ _ q⟩
theorem WdI.selO (W : WdI K B ctx L H N F) (is : List Nat) (h : selB is L = some L') (n : is.Nodup := by decide) : WdI K B ctx L' H N F := by
  have hm : ∀ o ∈ L', o ∈ L := fun o ho => let ⟨_, _, q⟩ := selB_mem h o ho; List.mem_of_getElem? q
  exact ⟨W.bF, W.nF, W.sep, W.fH, W.facts, fun o ho => W.at_ o (hm o ho), fun o ho => W.off o (hm o ho), selB_nd (m := L) h W.nd n⟩
theorem WdI.preM (W : WdI K B ctx L H N F) (is : List Nat) (h : selB is L = some L0) (fr : AllFr L0) (n : is.Nodup := by decide) : PreM K N H L0 := by
  have W' := W.selO is h n
  exact ⟨W'.nF.trans W'.fH, W'.nd, fun o ho => W'.nF.free (W'.off o ho), fun o ho => let ⟨u, e, q⟩ := W'.at_ o ho; ⟨u, e, fr.all o ho _ _ _ _ _ q⟩⟩
theorem WdI.callM {As : List Addr} (W : WdI K B ctx L H N F) (ps : List (Nat × Own × Own)) (hp : OkS L ps) (hA : As = ps.map fun p => p.2.1.a) (hL' : L' = ps.map fun p => p.2.2) (fr : AllFr L') (r : ResM K N H As L' x v H') : Wd K B (fc true x v :: ctx) (setAll L ps) H' := by
  obtain ⟨N', s1, s2, s3, s4, hNa, hr, hv⟩ := r
  have hadr := okS_addr hp
  have hoff : ∀ a ∈ As, F a = none := fun a ha => by
    rw [hA] at ha
    obtain ⟨p, hp1, rfl⟩ := List.mem_map.mp ha
    obtain ⟨⟨o, o1, o2⟩, _⟩ := hadr p hp1
    rw [← o2]
    exact W.off o o1
  have hF : ∀ b u, N' b = some u → F b = none ∨ F b = some u := fun b u e => by
    rcases s4 b u e with h | h
    · exact .inl (W.fH.free h)
    · exact .inr (W.nF b u h)
  have sN' : Same N' (join F N') := fun b u e => by
    unfold join
    rcases hF b u e with h | h
    · rw [h]
      exact e
    · rw [h]
  have sF : Same F (join F N') := join_l
  have offJ : ∀ o ∈ L, join F N' o.a = none ∨ o.a ∈ As := fun o ho => by
    obtain ⟨u, e, q⟩ := W.at_ o ho
    have ho2 := W.off o ho
    by_cases hm : o.a ∈ As
    · exact .inr hm
    · refine .inl ?_
      unfold join
      rw [ho2]
      show N' o.a = none
      cases q2 : N' o.a with
      | none => rfl
      | some w =>
        rcases s4 _ _ q2 with h | h
        · rw [e] at h
          cases h
        · have := W.nF _ _ h
          rw [ho2] at this
          cases this
  have offA : ∀ a ∈ As, join F N' a = none := fun a ha => by
    unfold join
    rw [hoff a ha]
    exact hNa a ha
  refine ⟨N', join F N', W.bF.trans sF, sN', fun b u e => ?_, fun b u e => ?_, fun f hf => ?_, fun o ho => ?_, fun o ho => ?_, by rw [setAll_map hp]; exact W.nd⟩
  · rcases s4 b u e with h | h
    · exact W.bF.free (W.fH.free h)
    · exact W.sep b u h
  · rcases join_or e with e | e
    · refine s2 b u (fun hm => ?_) (W.fH b u e)
      rw [hoff b hm] at e
      cases e
    · exact s3 b u e
  · rcases List.mem_cons.mp hf with rfl | hf
    · exact hr
    · exact f.mono s1 sF (W.facts f hf)
  · rcases setAll_mem hp W.nd ho with ⟨h1, h2⟩ | ⟨p, h1, rfl⟩
    · obtain ⟨u, e, q⟩ := W.at_ o h1
      refine ⟨u, s2 _ _ (fun hm => ?_) e, o.mono s1 sF q⟩
      rw [hA] at hm
      obtain ⟨p, g1, g2⟩ := List.mem_map.mp hm
      exact h2 p g1 g2.symm
    · have hm : p.2.2 ∈ L' := by rw [hL']; exact List.mem_map.mpr ⟨p, h1, rfl⟩
      obtain ⟨u, e, q⟩ := hv _ hm
      exact ⟨u, e, fr.all _ hm _ _ _ _ _ q⟩
  · rcases setAll_mem hp W.nd ho with ⟨h1, h2⟩ | ⟨p, h1, rfl⟩
    · rcases offJ o h1 with h | h
      · exact h
      · exact offA _ h
    · refine offA _ ?_
      rw [hA, (hadr p h1).2]
      exact List.mem_map.mpr ⟨p, h1, rfl⟩
theorem oL_fr {a : Addr} {xs : List α} : (oL true a xs).Fr := fun _ _ _ _ _ h => h
end
/-! ### the class Live: its instances, its methods -/
abbrev LvA (K : PySem.W.Frag) : Addr := He.ga K "Live"
structure Lv (K : PySem.W.Frag) : Prop where
  cls : Cls K (LvA K)
  n1 : NoAttr K (LvA K) "numbers"
  n2 : NoAttr K (LvA K) "rows_ahead"
/-- a method by its name -/
structure MFn (P : Program) (w : World) (K : PySem.W.Frag) (mg : Str → Option Value) (base : Heap) (k : Nat) (m : Str) (ps : List Str) (sp : Sp) : Prop where
  ex : ∃ (f : Addr) (fd : FuncData), Meth K (LvA K) m f ∧ Binds K fd ps [] ∧ FnG P w K mg base k f fd ps sp
theorem mkMFn {P : Program} {w : World} {K : PySem.W.Frag} {mg : Str → Option Value} {base : Heap} {x qual m : Str} {params : Arguments} {body : List Stmt} {scope : Scope}
    {f : Addr} {fd : FuncData} {ps : List Str} {k : Nat} {sp : Sp} (F : FunD K x qual params body scope [] [] f fd) (hm : Meth K (LvA K) m f)
    (hb : ∀ (kV doc pm : Value) (an : Option Addr) (cdv ct : Value) (us : List Value), us.length = ps.length →
      bindArgs (PySem.W.fnOf x qual params body scope .none kV doc pm an cdv ct) ⟨us, []⟩ = pure (ps.zip us))
    (G : FnG P w K mg base k f fd ps sp) : MFn P w K mg base k m ps sp := ⟨f, fd, hm, F.bindsN hb, G⟩
theorem okO {P : Program} {w : World} {K : PySem.W.Frag} {mg : Str → Option Value} {base : Heap} {x qual : Str} {params : Arguments} {body : List Stmt} {scope : Scope} {dvs : List V} {kws : List (Str × V)} {f : Addr} {fd : FuncData} {N ps : List Str} {k : Nat} {sp : Sp}
    (F : FunD K x qual params body scope dvs kws f fd) (S : FnScope N ps scope) (len : ∀ vs H Q E, sp vs H Q E → vs.length = ps.length)
    (hb : ∀ (cdv : Value) (A : Around) (outer : List Env) (s : Shared) (H : Hp) (vs : List V) (Q : VK) (E : XK), Room k (A.deeper (envOfC qual scope s.heap.objs.size f cdv)) → sp vs H Q E →
      ∃ t, PSs (cxOf (L2.CX P w) P w K mg base N qual scope f cdv A outer s H E) body t ∧ t { nx := fun _ H' => Q .non H', rt := Q } (start N vs) H) : FnOk P w K mg base (L2.CX P w) (k + 1) f fd ps sp := by
  obtain ⟨oc, od, dV, kV, doc, pm, an, cd, ct, osl, rfl, lk, hcd, _, _⟩ := F.ex
  exact fn_of lk hcd S len fun A outer s H vs Q E hr h => hb cd A outer s H vs Q E hr h
def tM (C : Addr) (m : Str) (sp : Sp) (E : XK) (ta : TE) (t : TA) : TE := fun σ H Q => ta σ H fun x H1 => ∃ a dx fs, x = .ref a ∧ H1 a = some (.ins C dx fs) ∧ fs.lookup m = none ∧ t σ H1 fun vs H2 => sp (x :: vs) H2 Q E
section
variable {X : Cx} {k : Nat} {ps : List Str} {sp : Sp} {E : XK} {m : Str} {pos apos : Pos} {e o : Expr} {es : List Expr} {ta : TE} {t : TA}
theorem pe_mG {pl : Sem Bool} (G : MFn X.prog X.w X.K X.mg X.base k m ps sp) (c : Cls X.K (LvA X.K)) (hr : Room k X.A) (hgd : X.A.guards = some []) (hx : Passes (L2.CX X.prog X.w) X E) (he : PE X o ta) (ha : PA X (e :: es) t)
    (hst : starEach (e :: es) X.env = (false, eval e X.env) :: starEach es X.env := by rfl) (hpl : (backTo pos (starEach es X.env)).any (·.1) = false := by rfl)
    (ht : eval (.Call (.Attribute o m apos) (e :: es) [] pos) X.env = (do
      let ov ← eval o X.env
      standAt apos.atName
      let (f, first) ← holding [ov] (getMethod ov m pl)
      callWith pos f first (backTo pos (starEach (e :: es) X.env)) (backToKw pos (keywordEach [] X.env))) := by rfl) :
    PE X (.Call (.Attribute o m apos) (e :: es) [] pos) (tM (LvA X.K) m sp E ta t) := by
  obtain ⟨f, fd, hm, hb, F⟩ := G.ex
  refine ⟨fun pins s σ H Q I h => ?_⟩
  refine PySem.W.methodCall_KW (pl := pl) (thn (he.run pins s σ H _ I h) fun u s1 ⟨x, H1, I1, rx, a, dx, fs, ex, ea, l, q⟩ => ?_) ht
  subst ex
  obtain rfl : u = Value.ref a := rx
  refine getmeth_ok I1 ea c hm l ?_
  refine PySem.W.callWith_K (first := [.ref a]) (h₀ := X.base) I.ok.mod.kin hm.kp (thn (ha.run pos pins s1 σ H1 _ I1 q) fun us s2 ⟨vs, H2, I2, r, q2⟩ => ⟨I2.kIn, ?_⟩) hst hpl
  exact run_fnG (us := .ref a :: us) (vs := .ref a :: vs) F hr hgd hb hx I2 (.cons rfl r) q2
theorem pe_mG0 {pl : Sem Bool} (G : MFn X.prog X.w X.K X.mg X.base k m ps sp) (c : Cls X.K (LvA X.K)) (hr : Room k X.A) (hgd : X.A.guards = some []) (hx : Passes (L2.CX X.prog X.w) X E) (he : PE X o ta)
    (ht : eval (.Call (.Attribute o m apos) [] [] pos) X.env = (do
      let ov ← eval o X.env
      standAt apos.atName
      let (f, first) ← holding [ov] (getMethod ov m pl)
      callWith pos f first (backTo pos (starEach [] X.env)) (backToKw pos (keywordEach [] X.env))) := by rfl) :
    PE X (.Call (.Attribute o m apos) [] [] pos) (tM (LvA X.K) m sp E ta tNil) := by
  obtain ⟨f, fd, hm, hb, F⟩ := G.ex
  refine ⟨fun pins s σ H Q I h => ?_⟩
  refine PySem.W.methodCall_KW (pl := pl) (thn (he.run pins s σ H _ I h) fun u s1 ⟨x, H1, I1, rx, a, dx, fs, ex, ea, l, q⟩ => ?_) ht
  subst ex
  obtain rfl : u = Value.ref a := rx
  refine getmeth_ok I1 ea c hm l ?_
  exact PySem.W.callWith_K0 (first := [.ref a]) I1.kIn hm.kp (run_fnG (us := [.ref a]) (vs := [.ref a]) F hr hgd hb hx I1 (.cons rfl .nil) q)
end
/-- an instance: its numbers, new and never changed; the list of the rows ahead -/
def oI (a b : Addr) (xs : List Int) : Own := ⟨a, fun K N _ o => ∃ dx u, o = .ins (LvA K) dx [("numbers", u), ("rows_ahead", .ref b)] ∧ Rp.rep (lkN N) xs u, fun h1 _ ⟨dx, u, e, h⟩ => ⟨dx, u, e, Rp.mono (lkN_mono h1) h⟩⟩
/-- a list of a list never changed and one of one's own -/
def oP (a b : Addr) (xs : List Int) : Own := ⟨a, fun _ N _ o => ∃ u, o = .lst [u, .ref b] ∧ Rp.rep (lkN N) xs u, fun h1 _ ⟨u, e, h⟩ => ⟨u, e, Rp.mono (lkN_mono h1) h⟩⟩
theorem oI_fr {a b : Addr} {xs : List Int} : (oI a b xs).Fr := fun _ _ _ _ _ h => h
theorem oP_fr {a b : Addr} {xs : List Int} : (oP a b xs).Fr := fun _ _ _ _ _ h => h
def rFld (K : PySem.W.Frag) (f : Str) (x : V) (H : Hp) (Q : VK) : Prop := ∃ a C dx fs v, x = .ref a ∧ H a = some (.ins C dx fs) ∧ Cls K C ∧ NoAttr K C f ∧ fs.lookup f = some v ∧ Q v H
def rSFld (K : PySem.W.Frag) (f : Str) (y x : V) (H : Hp) (R : Hp → Prop) : Prop := ∃ a C dx fs, x = .ref a ∧ H a = some (.ins C dx fs) ∧ Cls K C ∧ NoAttr K C f ∧ fs.length < 1000 ∧ R (upd H a (.ins C dx (putF f y fs)))
def rIns (K : PySem.W.Frag) (m : Str) (x : V) (H : Hp) (R : Prop) : Prop := ∃ a dx fs, x = .ref a ∧ H a = some (.ins (LvA K) dx fs) ∧ fs.lookup m = none ∧ R
section
variable {K : PySem.W.Frag} {B H H' N F : Hp} {ctx : List Fact} {L : List Own} {xs ys : List Int} {a b : Addr} {v : V} {Q : VK} {σ : L2.St}
theorem i_fld {ta : TE} {f : Str} (h : ta σ H fun x H1 => rFld K f x H1 Q) : tFld K ta f σ H Q := h
theorem i_sfld {ta tv : TE} {f : Str} {nx bk ct : L2.St → Hp → Prop} {rt : VK} (h : tv σ H fun y H1 => ta σ H1 fun x H2 => rSFld K f y x H2 fun H3 => nx σ H3) : sFld K ta tv f { nx := nx, rt := rt, bk := bk, ct := ct } σ H := h
theorem i_tM {m : Str} {sp : Sp} {E : XK} {ta : TE} {t : TA} (h : ta σ H fun x H1 => rIns K m x H1 (t σ H1 fun vs H2 => sp (x :: vs) H2 Q E)) : tM (LvA K) m sp E ta t σ H Q := h
theorem w_fldN (Z : Lv K) (W : Wd K B ctx L H) (j : Nat) (hj : L[j]? = some (oI a b xs)) (k : ∀ u, Wd K B (fc true xs u :: ctx) L H → Q u H) : rFld K "numbers" (.ref a) H Q := by
  obtain ⟨N, F, W⟩ := W
  obtain ⟨o, h1, dx, u, rfl, r⟩ := W.at_ _ (List.mem_of_getElem? hj)
  refine ⟨a, _, dx, _, u, rfl, h1, Z.cls, Z.n1, rfl, k u ?_⟩
  refine ⟨N, F, W.bF, W.nF, W.sep, W.fH, fun f hf => ?_, W.at_, W.off, W.nd⟩
  rcases List.mem_cons.mp hf with rfl | hf
  · exact r
  · exact W.facts f hf
theorem w_fldP (Z : Lv K) (W : Wd K B ctx L H) (j : Nat) (hj : L[j]? = some (oI a b xs)) (k : Q (.ref b) H) : rFld K "rows_ahead" (.ref a) H Q := by
  obtain ⟨N, F, W⟩ := W
  obtain ⟨o, h1, dx, u, rfl, r⟩ := W.at_ _ (List.mem_of_getElem? hj)
  exact ⟨a, _, dx, _, .ref b, rfl, h1, Z.cls, Z.n2, rfl, k⟩
theorem w_sfldN {R : Hp → Prop} (Z : Lv K) (W : Wd K B ctx L H) (j : Nat) (hj : L[j]? = some (oI a b xs)) (h : Kn K ctx true ys v) (k : ∀ H', Wd K B ctx (L.set j (oI a b ys)) H' → R H') : rSFld K "numbers" v (.ref a) H R := by
  obtain ⟨N, F, W⟩ := W
  obtain ⟨o, h1, dx, u, rfl, r⟩ := W.at_ _ (List.mem_of_getElem? hj)
  exact ⟨a, _, dx, _, rfl, h1, Z.cls, Z.n1, by simp, k _ (Wd.put (o' := oI a b ys) W j hj rfl _ ⟨dx, v, rfl, h N F W.nF W.facts⟩)⟩
theorem w_ins {m : Str} {R : Prop} (W : Wd K B ctx L H) (j : Nat) (hj : L[j]? = some (oI a b xs)) (k : R) (h1 : (m == ("numbers" : Str)) = false := by decide) (h2 : (m == ("rows_ahead" : Str)) = false := by decide) : rIns K m (.ref a) H R := by
  obtain ⟨N, F, W⟩ := W
  obtain ⟨o, e, dx, u, rfl, r⟩ := W.at_ _ (List.mem_of_getElem? hj)
  exact ⟨a, dx, _, rfl, e, by simp only [List.lookup, h1, h2], k⟩
/-! a list of two -/
theorem w_newP (W : Wd K B ctx L H) (h : Kn K ctx true xs v) (k : ∀ p H', Wd K B ctx (oP p b xs :: L) H' → Q (.ref p) H') : rLst [v, .ref b] H Q := by
  obtain ⟨N, F, W⟩ := W
  exact ⟨by simp [sizeLine_eq], fun p hp => k p _ (Wd.newO (o := oP p b xs) W hp _ rfl ⟨v, rfl, h N F W.nF W.facts⟩)⟩
theorem w_ixP0 (W : Wd K B ctx L H) (j : Nat) (hj : L[j]? = some (oP a b xs)) (k : ∀ u, Wd K B (fc true xs u :: ctx) L H → Q u H) : rIx K (.ref a) (.int 0) H Q := by
  obtain ⟨N, F, W⟩ := W
  obtain ⟨o, h1, u, rfl, r⟩ := W.at_ _ (List.mem_of_getElem? hj)
  refine i_ixL (SqL.of h1) (v := u) rfl (k u ?_)
  refine ⟨N, F, W.bF, W.nF, W.sep, W.fH, fun f hf => ?_, W.at_, W.off, W.nd⟩
  rcases List.mem_cons.mp hf with rfl | hf
  · exact r
  · exact W.facts f hf
theorem w_ixP1 (W : Wd K B ctx L H) (j : Nat) (hj : L[j]? = some (oP a b xs)) (k : Q (.ref b) H) : rIx K (.ref a) (.int 1) H Q := by
  obtain ⟨N, F, W⟩ := W
  obtain ⟨o, h1, u, rfl, r⟩ := W.at_ _ (List.mem_of_getElem? hj)
  exact i_ixL (SqL.of h1) (v := .ref b) rfl k
theorem w_setP0 {R : Hp → Prop} (W : Wd K B ctx L H) (j : Nat) (hj : L[j]? = some (oP a b xs)) (h : Kn K ctx true ys v) (k : ∀ H', Wd K B ctx (L.set j (oP a b ys)) H' → R H') : L2.rSetL (.ref a) (.int 0) v H R := by
  obtain ⟨N, F, W⟩ := W
  obtain ⟨o, h1, u, rfl, r⟩ := W.at_ _ (List.mem_of_getElem? hj)
  exact ⟨a, _, 0, 0, rfl, rfl, h1, rfl, k _ (Wd.put (o' := oP a b ys) W j hj rfl _ ⟨v, rfl, h N F W.nF W.facts⟩)⟩
theorem w_unpP0 {g : TGs} {R : L2.St → Hp → Prop} (W : Wd K B ctx L H) (j : Nat) (hj : L[j]? = some (oP a b xs)) (k : ∀ u, Wd K B (fc true xs u :: ctx) L H → g [u, .ref b] σ H R) : rUnpL K 2 g (.ref a) σ H R := by
  obtain ⟨N, F, W⟩ := W
  obtain ⟨o, h1, u, rfl, r⟩ := W.at_ _ (List.mem_of_getElem? hj)
  refine i_unpL (SqL.of h1) rfl (k u ?_)
  refine ⟨N, F, W.bF, W.nF, W.sep, W.fH, fun f hf => ?_, W.at_, W.off, W.nd⟩
  rcases List.mem_cons.mp hf with rfl | hf
  · exact r
  · exact W.facts f hf
end
/-! Live(xs) -/
def spInit (K : PySem.W.Frag) : Sp := fun vs H Q _ => ∃ (a dx p0 : Addr) (xs : List Int), vs = [.ref a, .ref p0] ∧ SqL K H p0 (xs.map V.int) ∧ H a = some (.ins (LvA K) dx []) ∧ ∀ p b, H p = none → H b = none → p ≠ b →
  Q .non (upd (upd (upd (upd H p (.lst (xs.map V.int))) a (.ins (LvA K) dx [("numbers", .ref p)])) b (.lst [])) a (.ins (LvA K) dx [("numbers", .ref p), ("rows_ahead", .ref b)]))
/-- the class by its name -/
structure CFn (P : Program) (w : World) (K : PySem.W.Frag) (mg : Str → Option Value) (base : Heap) (k : Nat) (ps : List Str) (sp : Sp) : Prop where
  ex : ∃ (f : Addr) (fd : FuncData), mg "Live" = some (.ref (LvA K)) ∧ Mk K (LvA K) f ∧ Binds K fd ps [] ∧ FnOk P w K mg base (L2.CX P w) k f fd ps sp
theorem mkCFn {P : Program} {w : World} {K : PySem.W.Frag} {mg : Str → Option Value} {base : Heap} {x qual : Str} {params : Arguments} {body : List Stmt} {scope : Scope}
    {f : Addr} {fd : FuncData} {ps : List Str} {k : Nat} {sp : Sp} (F : FunD K x qual params body scope [] [] f fd) (hg : mg "Live" = some (.ref (LvA K))) (M : Mk K (LvA K) f)
    (hb : ∀ (kV doc pm : Value) (an : Option Addr) (cdv ct : Value) (us : List Value), us.length = ps.length →
      bindArgs (PySem.W.fnOf x qual params body scope .none kV doc pm an cdv ct) ⟨us, []⟩ = pure (ps.zip us))
    (G : FnOk P w K mg base (L2.CX P w) k f fd ps sp) : CFn P w K mg base k ps sp := ⟨f, fd, hg, M, F.bindsN hb, G⟩
section
variable {X : Cx} {k : Nat} {ps : List Str} {sp : Sp} {E : XK} {p pos : Pos} {e : Expr} {es : List Expr} {t : TA}
theorem pe_mkG (G : CFn X.prog X.w X.K X.mg X.base k ps sp) (hr : Room (k + 1) X.A) (hg : Gl X "Live") (hx : Passes (L2.CX X.prog X.w) X E) (ha : PA X (e :: es) t)
    (he : starEach (e :: es) X.env = (false, eval e X.env) :: starEach es X.env := by rfl) (hpl : (backTo pos (starEach es X.env)).any (·.1) = false := by rfl) :
    PE X (.Call (.Name "Live" p) (e :: es) [] pos) (tMake (LvA X.K) sp [] E t) := by
  obtain ⟨f, fd, hm, M, hb, F⟩ := G.ex
  exact pe_make M F hr hg hm hb .nil hx ha (by decide) he hpl
end
section
variable {K : PySem.W.Frag} {B H H' N F : Hp} {ctx : List Fact} {L : List Own} {xs ys : List Int} {a b : Addr} {v : V} {Q : VK} {σ : L2.St}
theorem i_make {C : Addr} {sp : Sp} {E : XK} {tx : TA} (h : tx σ H fun vs H1 => ∀ x dx, H1 x = none → H1 dx = none → dx ≠ x → sp (.ref x :: vs) (upd (upd H1 dx (.own x)) x (.ins C dx [])) (fun v H2 => v = .non ∧ Q (.ref x) H2) E) : tMake C sp [] E tx σ H Q := by
  have e : (fun (vs : List V) (H1 : Hp) => ∀ x dx, H1 x = none → H1 dx = none → dx ≠ x → sp (.ref x :: (vs ++ [])) (upd (upd H1 dx (.own x)) x (.ins C dx [])) (fun v H2 => v = .non ∧ Q (.ref x) H2) E) = fun vs H1 => ∀ x dx, H1 x = none → H1 dx = none → dx ≠ x → sp (.ref x :: vs) (upd (upd H1 dx (.own x)) x (.ins C dx [])) (fun v H2 => v = .non ∧ Q (.ref x) H2) E := by
    funext vs H1
    rw [List.append_nil]
  unfold tMake
  rw [e]
  exact h
theorem same_upd {o : HO} (hp : H a = none) : Same H (upd H a o) := fun c u e => by
  rw [upd_ne (fun z => by rw [z, hp] at e; cases e)]
  exact e
theorem w_make {t : Bool} {E : XK} {Q : Addr → Hp → Prop} (W : Wd K B ctx L H) (h : Ls K ctx L t xs v) (k : ∀ x b H', Wd K B ctx (oI x b xs :: oL true b ([] : List (List Int)) :: L) H' → Q x H') :
    ∀ x dx, H x = none → H dx = none → dx ≠ x → spInit K [.ref x, v] (upd (upd H dx (.own x)) x (.ins (LvA K) dx [])) (fun v H2 => v = .non ∧ Q x H2) E := by
  intro x dx hx hdx hne
  obtain ⟨N, F, W⟩ := W
  obtain ⟨p0, vs, rfl, h1, h2⟩ := h B H N F W
  rw [all2_int h2] at h1
  have hx2 : upd H dx (.own x) x = none := by rw [upd_ne (Ne.symm hne)]; exact hx
  have s1 : Same H (upd (upd H dx (.own x)) x (.ins (LvA K) dx [])) := (same_upd hdx).trans (same_upd hx2)
  refine ⟨x, dx, p0, xs, rfl, s1.seq h1, upd_same, fun p b hp hb hpb => ⟨rfl, k x b _ ?_⟩⟩
  have hpx : p ≠ x := fun z => by rw [z, upd_same] at hp; cases hp
  have hbx : b ≠ x := fun z => by rw [z, upd_same] at hb; cases hb
  have hp0 : H p = none := s1.free hp
  have hb0 : H b = none := s1.free hb
  have W1 := (Wd.newL W hp0 (all2_ofInt xs) (t := true)).frz
  obtain ⟨N1, F1, W1⟩ := W1
  have W2 := Wd.newL (xs := ([] : List (List Int))) (t := true) W1 (show upd H p (.lst (xs.map V.int)) b = none by rw [upd_ne (Ne.symm hpb)]; exact hb0) (vs := []) trivial
  obtain ⟨N2, F2, W2⟩ := W2
  have hr := W2.facts _ List.mem_cons_self
  have W3 := Wd.newO (o := oI x b xs) W2 (show upd (upd H p (.lst (xs.map V.int))) b (.lst []) x = none by rw [upd_ne (Ne.symm hbx), upd_ne (Ne.symm hpx)]; exact hx) (.ins (LvA K) dx [("numbers", .ref p), ("rows_ahead", .ref b)]) rfl ⟨dx, .ref p, rfl, hr⟩
  refine (W3.drop 1 rfl).same fun c u e => ?_
  by_cases c1 : c = x
  · rw [c1, upd_same] at e
    rw [c1, upd_same]
    exact e
  · rw [upd_ne c1] at e ⊢
    by_cases c2 : c = b
    · rw [c2, upd_same] at e
      rw [c2, upd_same]
      exact e
    · rw [upd_ne c2] at e ⊢
      rw [upd_ne c1]
      by_cases c3 : c = p
      · rw [c3, upd_same] at e
        rw [c3, upd_same]
        exact e
      · rw [upd_ne c3] at e ⊢
        exact s1 c u e
end
/-! xs.pop() -/
def popE {α : Type} (xs : List α) : Option (α × List α) := (xs[xs.length - 1]?).map fun x => (x, xs.dropLast)
theorem All2.dropL {α : Type} {R : α → V → Prop} : ∀ {xs : List α} {vs : List V}, All2 R xs vs → All2 R xs.dropLast vs.dropLast
  | [], [], _ => trivial
  | [_], [_], _ => trivial
  | x :: y :: xs, v :: w :: vs, h => ⟨h.1, All2.dropL h.2⟩
  | [_], _ :: _ :: _, h => h.2.elim
  | _ :: _ :: _, [_], h => h.2.elim
  | [], _ :: _, h => h.elim
  | _ :: _, [], h => h.elim
theorem pe_bm0K {X : Cx} {K : PySem.W.Frag} {name : Str} {T id : String} {o : Expr} {to : TE} {r : V → List V → Hp → VK → Prop} {apos cpos : Pos} (pa : PlainAttrs T) (slot : Slot T name id) (hty : typeOf (.builtin id) = pure (.type "method_descriptor")) (hm : MtR X id r) (ho : PE X o to) (hK : X.K = K := by rfl)
    (hbase : attributeBase o name X.env (eval o X.env) = eval o X.env := by rfl) (hline : (apos.endLine == cpos.line) = true := by rfl) : PE X (.Call (.Attribute o name apos) [] [] cpos) (tBM0 K T r to) := by
  subst hK
  exact pe_bm0 pa slot hty hm ho hbase hline
def rMt0 (K : PySem.W.Frag) (T : String) (r : V → List V → Hp → VK → Prop) (x : V) (H : Hp) (Q : VK) : Prop := tyV K T x H ∧ r x [] H Q
section
variable {K : PySem.W.Frag} {B H H' N F : Hp} {ctx : List Fact} {L : List Own} {α : Type} [Rp α] {xs : List α} {a b : Addr} {t : Bool} {v : V} {Q : VK} {σ : L2.St}
theorem i_bm0 {T : String} {r : V → List V → Hp → VK → Prop} {to : TE} (h : to σ H fun x H1 => rMt0 K T r x H1 Q) : tBM0 K T r to σ H Q := h
theorem w_mt0 {r : V → List V → Hp → VK → Prop} (W : Wd K B ctx L H) (h : Ls K ctx L t xs v) (k : r v [] H Q) : rMt0 K "list" r v H Q := by
  obtain ⟨N, F, W⟩ := W
  obtain ⟨a, vs, rfl, h1, h2⟩ := h B H N F W
  exact ⟨.inl ⟨rfl, vs, h1⟩, k⟩
theorem w_popE {r : α × List α} (W : Wd K B ctx L H) (j : Nat) (hj : L[j]? = some (oL t a xs)) (e : popE xs = some r) (k : ∀ u H', Wd K B (fc t r.1 u :: ctx) (L.set j (oL t a r.2)) H' → Q u H') : rPop (.ref a) [] H Q := by
  obtain ⟨N, F, W⟩ := W
  obtain ⟨o, h1, vs, rfl, h2⟩ := W.at_ _ (List.mem_of_getElem? hj)
  unfold popE at e
  cases q : xs[xs.length - 1]? with
  | none => rw [q] at e; cases e
  | some x =>
    rw [q] at e
    cases e
    obtain ⟨u, hu, hr⟩ := h2.get q
    have W1 : Wd K B (fc t x u :: ctx) L H := by
      refine ⟨N, F, W.bF, W.nF, W.sep, W.fH, fun f hf => ?_, W.at_, W.off, W.nd⟩
      rcases List.mem_cons.mp hf with rfl | hf
      · exact hr
      · exact W.facts f hf
    obtain ⟨N1, F1, W1⟩ := W1
    obtain ⟨o2, g1, vs2, rfl, g2⟩ := W1.at_ _ (List.mem_of_getElem? hj)
    rw [h1] at g1
    cases g1
    exact ⟨a, vs, u, rfl, rfl, h1, by rw [h2.len]; exact hu, k u _ (Wd.put (o' := oL t a xs.dropLast) W1 j hj rfl _ ⟨_, rfl, g2.dropL⟩)⟩
theorem okS_nil : OkS L [] := trivial
theorem okS_cons {p : Nat × Own × Own} {ps : List (Nat × Own × Own)} (h1 : L[p.1]? = some p.2.1) (h2 : p.2.2.a = p.2.1.a) (h3 : OkS (L.set p.1 p.2.2) ps) : OkS L (p :: ps) := ⟨h1, h2, h3⟩
theorem allFr_nil : AllFr [] := trivial
theorem allFr_cons {o : Own} (h : o.Fr) (g : AllFr L) : AllFr (o :: L) := ⟨h, g⟩
theorem selB_sub {l m : List Own} {is : List Nat} (h : selB is l = some m) : ∀ o ∈ m, o ∈ l := fun o ho => let ⟨_, _, q⟩ := selB_mem h o ho; List.mem_of_getElem? q
end
end PB

namespace PB
open PySem PySem.Spec PyProof.Rows L2
/-! ### texts -/
instance : Flat PySem.Str := ⟨fun _ _ _ _ h => h⟩
instance : Flat Unit := ⟨fun _ _ _ _ h => h⟩
instance {α : Type} [Rp α] [Flat α] : Flat (Option α) := ⟨fun S T x v h => by
  cases x with
  | none => exact h
  | some y => exact Flat.h (β := α) S T y v h⟩
def joinO (a : PySem.Str) (ys : List PySem.Str) : Option PySem.Str := if (ys.map (·.length)).sum + ys.length * a.length ≤ 16777216 then some (Txt.join a ys) else none
def splitO (a b : PySem.Str) : Option (List PySem.Str) := if (b.length == 0) = false ∧ a.length + 2 ≤ sizeLine then some (Txt.split a b) else none
def partO (a b : PySem.Str) : Option (T3 PySem.Str PySem.Str PySem.Str) := if (b.length == 0) = false ∧ a.length ≤ sizeLine then some ⟨(Txt.partition a b).1, (Txt.partition a b).2.1, (Txt.partition a b).2.2⟩ else none
def intSO (a : PySem.Str) : Option Int := if a.length ≤ 640 then PySem.intText? a else none
def strO (i : Int) : Option PySem.Str := if i.natAbs.log2 < 1920 then some (PySem.Str.ofString (toString i)) else none
def charsT (z : PySem.Str) : List PySem.Str := z.cps.toList.map fun c => ⟨#[c]⟩
def atS (z : PySem.Str) (i : Int) : Option PySem.Str := if z.length ≤ sizeLine then (atI z.cps.toList i).map fun c => ⟨#[c]⟩ else none
def inSO (x z : PySem.Str) : Option Bool := match x.cps.toList with
  | [c] => some (decide (c ∈ z.cps.toList))
  | _ => none
def catS (a b : PySem.Str) : Option PySem.Str := if a.length + b.length ≤ sizeLine then some (a ++ b) else none
def sliceS (z : PySem.Str) (lo hi : Option Int) : Option PySem.Str := if z.length ≤ sizeLine then some (cutS z lo hi) else none
def lenSO (z : PySem.Str) : Option Int := if z.length ≤ sizeLine then some z.length else none
theorem all2_str {S : Lk} : ∀ {xs : List PySem.Str} {vs : List V}, All2 (Rp.rep S) xs vs → vs = xs.map V.str
  | [], [], _ => rfl
  | x :: xs, v :: vs, h => by
    have e : v = .str x := h.1
    rw [List.map_cons, e, all2_str h.2]
  | [], _ :: _, h => h.elim
  | _ :: _, [], h => h.elim
theorem all2_ofStr {S : Lk} : ∀ (xs : List PySem.Str), All2 (Rp.rep S) xs (xs.map V.str)
  | [] => trivial
  | _ :: xs => ⟨rfl, all2_ofStr xs⟩
def rLenTx : List V → Hp → VK → Prop := fun xs H Q => ∃ z, xs = [.str z] ∧ z.length ≤ sizeLine ∧ Q (.int z.length) H
theorem cl_lenS {X : Cx} : CallR X (.builtin "len") rLenTx := fun pins s σ H xs us Q I r ⟨z, e, hz, q⟩ => call_len pins s σ H xs us Q I r ⟨.str z, z.length, e, ⟨hz, rfl⟩, q⟩
def rTxt (x : V) (R : Prop) : Prop := (∃ a, x = .str a) ∧ R
theorem w_txt {a : PySem.Str} {R : Prop} (k : R) : rTxt (.str a) R := ⟨⟨a, rfl⟩, k⟩
theorem str_one {x : PySem.Str} {c : Nat} (h : x.cps.toList = [c]) : x = ⟨#[c]⟩ := by
  obtain ⟨cps⟩ := x
  have e : cps = #[c] := Array.toList_inj.mp h
  rw [e]
section
variable {K : PySem.W.Frag} {B H H' : Hp} {ctx : List Fact} {L : List Own} {t : Bool} {v w u : V} {p : Addr} {Q : VK} {i j : Int} {σ : L2.St} {a b c : PySem.Str}
theorem i_m1 {r : V → List V → Hp → VK → Prop} {to te : TE} (h : to σ H fun x H1 => rTxt x (te σ H1 fun y H2 => r x [y] H2 Q)) : tM1 r to te σ H Q := h
theorem w_split {ys : List PySem.Str} (W : Wd K B ctx L H) (e : splitO a b = some ys) (k : ∀ p H', Wd K B ctx (oL true p ys :: L) H' → Q (.ref p) H') :
    ∃ a' b', V.str a = .str a' ∧ [V.str b] = [.str b'] ∧ (b'.length == 0) = false ∧ a'.length + 2 ≤ sizeLine ∧ rNewStrs (Txt.split a' b') H Q := by
  obtain ⟨N, F, W⟩ := W
  obtain ⟨⟨h1, h2⟩, rfl⟩ := guardE e
  exact ⟨a, b, rfl, rfl, h1, h2, fun p hp => k p _ (Wd.newL W hp (all2_ofStr _))⟩
theorem w_part {y : T3 PySem.Str PySem.Str PySem.Str} (W : Wd K B ctx L H) (e : partO a b = some y) (k : ∀ p H', Wd K B (fc true y (.ref p) :: ctx) L H' → Q (.ref p) H') :
    ∃ a' b', V.str a = .str a' ∧ [V.str b] = [.str b'] ∧ (b'.length == 0) = false ∧ a'.length ≤ sizeLine ∧ ∀ p, H p = none → Q (.ref p) (upd H p (.tup [.str (Txt.partition a' b').1, .str (Txt.partition a' b').2.1, .str (Txt.partition a' b').2.2])) := by
  obtain ⟨N, F, W⟩ := W
  obtain ⟨⟨h1, h2⟩, rfl⟩ := guardE e
  exact ⟨a, b, rfl, rfl, h1, h2, fun p hp => k p _ (Wd.newT W hp true fun N' F' _ _ q => ⟨p, _, _, _, rfl, q, rfl, rfl, rfl⟩)⟩
theorem w_join {ys : List PySem.Str} (W : Wd K B ctx L H) (h : Ls K ctx L t ys v) (e : joinO a ys = some c) (k : Q (.str c) H) :
    ∃ a' p, ∃ ys' : List PySem.Str, V.str a = .str a' ∧ [v] = [.ref p] ∧ (SqL K H p (ys'.map V.str) ∨ SqT K H p (ys'.map V.str)) ∧ (ys'.map (·.length)).sum + ys'.length * a'.length ≤ 16777216 ∧ Q (.str (Txt.join a' ys')) H := by
  obtain ⟨N, F, W⟩ := W
  obtain ⟨q, vs, rfl, h1, h2⟩ := h B H N F W
  rw [all2_str h2] at h1
  obtain ⟨hz, rfl⟩ := guardE e
  exact ⟨a, q, ys, rfl, rfl, .inl h1, hz, k⟩
theorem w_intS (e : intSO a = some i) (k : Q (.int i) H) : ∃ a' n, [V.str a] = [.str a'] ∧ PySem.intText? a' = some n ∧ a'.length ≤ 640 ∧ Q (.int n) H := by
  unfold intSO at e
  split at e
  · exact ⟨a, i, rfl, e, by assumption, k⟩
  · cases e
def rStrI : List V → Hp → VK → Prop := fun xs H Q => ∃ i, xs = [.int i] ∧ i.natAbs.log2 < 1920 ∧ Q (.str (PySem.Str.ofString (toString i))) H
theorem call_strI {X : Cx} : CallR X (.type "str") rStrI := call_str_int
theorem w_strI (e : strO i = some a) (k : Q (.str a) H) : rStrI [V.int i] H Q := by
  obtain ⟨hz, rfl⟩ := guardE e
  exact ⟨i, rfl, hz, k⟩
theorem w_ixS (e : atS a i = some b) (k : Q (.str b) H) : rIx K (.str a) (.int i) H Q := by
  unfold atS at e
  split at e
  · rename_i hz
    cases q : atI a.cps.toList i with
    | none => rw [q] at e; cases e
    | some c =>
      rw [q] at e
      cases e
      exact .inr (.inr ⟨a, i, c, rfl, rfl, hz, q, k⟩)
  · cases e
theorem w_inS {r : Bool} (e : inSO a b = some r) (k : Q (.bl r) H) : rInS (.str a) (.str b) H Q := by
  unfold inSO at e
  split at e
  · rename_i c hc
    cases e
    exact ⟨c, b, by rw [str_one hc], rfl, k⟩
  · cases e
theorem w_notInS {r : Bool} (e : inSO a b = some r) (k : Q (.bl (!r)) H) : rNotInS (.str a) (.str b) H Q := by
  unfold inSO at e
  split at e
  · rename_i c hc
    cases e
    exact ⟨c, b, by rw [str_one hc], rfl, k⟩
  · cases e
theorem w_catS (e : catS a b = some c) (k : Q (.str c) H) : ∃ i j, V.str a = .str i ∧ V.str b = .str j ∧ i.length + j.length ≤ sizeLine ∧ Q (.str (i ++ j)) H := by
  obtain ⟨hz, rfl⟩ := guardE e
  exact ⟨a, b, rfl, rfl, hz, k⟩
theorem w_slS {lo hi : Option Int} (e : sliceS a lo hi = some c) (k : Q (.str c) H) : rSlS (.str a) lo hi H Q := by
  obtain ⟨hz, rfl⟩ := guardE e
  exact ⟨a, rfl, hz, k⟩
theorem w_lenS (e : lenSO a = some i) (k : Q (.int i) H) : rLenTx [.str a] H Q := by
  obtain ⟨hz, rfl⟩ := guardE e
  exact ⟨a, rfl, hz, k⟩
def rItS (v : V) (H : Hp) (R : It → Hp → Prop) : Prop := ∃ x, v = .str x ∧ R (Its x) H
theorem i_iStr {te : TE} {R : It → Hp → Prop} (h : te σ H fun v H1 => rItS v H1 R) : iStr te σ H R := h
theorem w_itS {R : It → Hp → Prop} (k : R (Its a) H) : rItS (.str a) H R := ⟨a, rfl, k⟩
theorem gv_str {β ε : Type} {S : Shp β ε} (t : Bool) : Gives K B S (Its a) t (charsT a) := fun i b e H W => by
  refine ⟨fun hi => ?_, fun x hx => ?_⟩
  · unfold charsT at hi
    rw [List.length_map, Array.length_toList] at hi
    exact hi
  · unfold charsT at hx
    rw [List.getElem?_map, Array.getElem?_toList] at hx
    cases q : a.cps[i]? with
    | none => rw [q] at hx; cases hx
    | some d =>
      rw [q] at hx
      cases hx
      refine ⟨(Array.getElem?_eq_some_iff.mp q).1, fun v' H' y => ?_⟩
      obtain ⟨rfl, d', q', rfl⟩ := y
      rw [q] at q'
      cases q'
      exact W.know fun N F _ _ => rfl
end
end PB

namespace PB
open PySem PySem.Spec PyProof.Rows L2
/-! ### what is told is new throughout, beside all that is known -/
structure Isl (L : List Own) (F H R : Hp) : Prop where
  s : Same R H
  off : ∀ a u, R a = some u → F a = none ∧ ∀ o ∈ L, o.a ≠ a
def ResMF (K : PySem.W.Frag) (N0 H : Hp) (As : List Addr) (L' : List Own) {α : Type} [Rp α] (r : α) (v : V) (H' : Hp) : Prop :=
  ∃ N' R, Same N0 N' ∧ But As H H' ∧ Same N' H' ∧ (∀ b u, N' b = some u → H b = none ∨ N0 b = some u) ∧ (∀ a ∈ As, N' a = none) ∧ Same R H' ∧ (∀ a u, R a = some u → H a = none ∧ N' a = none) ∧ Rp.rep (lkN R) r v ∧ ∀ o ∈ L', ∃ h, H' o.a = some h ∧ o.P K N' N' h
section
variable {K : PySem.W.Frag} {B H H' N F N0 R : Hp} {ctx : List Fact} {L L0 L' : List Own} {α β γ : Type} [Rp α] [Rp β] [Rp γ] {x : α} {v : V} {p : Addr}
theorem WdI.resMF {As : List Addr} (W : WdI K (cutH (delL H As) N0) ctx L H' N F) (m : Nat) (hm : ctx[m]? = some (fN N0 (delL H As))) (hsub : ∀ o ∈ L', o ∈ L) (ha : L'.map (·.a) = As) (fr : AllFr L') (I : Isl L F H' R) (h : Rp.rep (lkN R) x v) : ResMF K N0 H As L' x v H' := by
  obtain ⟨s1, s2⟩ := W.facts _ (List.mem_of_getElem? hm)
  have hoff : ∀ a ∈ As, F a = none := fun a ha' => by
    rw [← ha] at ha'
    obtain ⟨o, ho, rfl⟩ := List.mem_map.mp ha'
    exact W.off o (hsub o ho)
  have hN : ∀ a ∈ As, N a = none := fun a ha' => W.nF.free (hoff a ha')
  refine ⟨N, R, s1, fun b u hb e => W.fH b u (s2 b u ?_), W.nF.trans W.fH, fun b u e => ?_, hN, I.s, fun a u e => ⟨?_, W.nF.free (I.off a u e).1⟩, h, fun o ho => ?_⟩
  · unfold delL
    rw [if_neg hb]
    exact e
  · have hb : b ∉ As := fun z => by
      rw [hN b z] at e
      cases e
    have h1 := W.sep b u e
    unfold cutH at h1
    cases q : N0 b with
    | some w =>
      have := s1 b w q
      rw [e] at this
      exact .inr this.symm
    | none =>
      rw [q] at h1
      have h1 : delL H As b = none := h1
      unfold delL at h1
      rw [if_neg hb] at h1
      exact .inl h1
  · obtain ⟨g1, g2⟩ := I.off a u e
    have hna : a ∉ As := fun z => by
      rw [← ha] at z
      obtain ⟨o, ho, e2⟩ := List.mem_map.mp z
      exact g2 o (hsub o ho) e2
    cases q : H a with
    | none => rfl
    | some w =>
      have : delL H As a = some w := by
        unfold delL
        rw [if_neg hna]
        exact q
      have := s2 a w this
      rw [g1] at this
      cases this
  · obtain ⟨u, e, q⟩ := W.at_ o (hsub o ho)
    exact ⟨u, e, fr.all o ho _ _ _ _ _ q⟩
/-- a def that tells something new -/
theorem WdI.isl (W : WdI K B ctx L H N F) (r : Res K H x v H') : ∃ R, WdI K B ctx L H' N F ∧ Isl L F H' R ∧ Rp.rep (lkN R) x v := by
  obtain ⟨R, s, sR, hR, h⟩ := r
  refine ⟨R, ⟨W.bF, W.nF, W.sep, W.fH.trans s, W.facts, fun o ho => ?_, W.off, W.nd⟩, ⟨sR, fun a u e => ⟨W.fH.free (hR a u e), fun o ho e2 => ?_⟩⟩, h⟩
  · obtain ⟨u, e, q⟩ := W.at_ o ho
    exact ⟨u, s _ _ e, q⟩
  · obtain ⟨u2, e3, _⟩ := W.at_ o ho
    rw [e2, hR a u e] at e3
    cases e3
/-- one's own list, told -/
theorem WdI.islO [Flat β] {ys : List β} {t : Bool} (W : WdI K B ctx L H N F) (is : List Nat) (h : selB is L = some L') (j : Nat) (hj : L[j]? = some (oL t p ys)) (n : is.Nodup := by decide) (hji : j ∉ is := by decide) :
    ∃ R, WdI K B ctx L' H N F ∧ Isl L' F H R ∧ Rp.rep (lkN R) ys (.ref p) := by
  obtain ⟨u, e, vs, rfl, hr⟩ := W.at_ _ (List.mem_of_getElem? hj)
  have e : H p = some (.lst vs) := e
  refine ⟨fun b => if b = p then some (.lst vs) else none, W.selO is h n, ⟨fun b u hb => ?_, fun b u hb => ?_⟩, p, vs, rfl, if_pos rfl, hr.mono fun _ _ q => Flat.h _ _ _ _ q⟩
  · by_cases hbp : b = p
    · subst hbp
      rw [if_pos rfl] at hb
      cases hb
      exact e
    · rw [if_neg hbp] at hb
      cases hb
  · by_cases hbp : b = p
    · subst hbp
      refine ⟨W.off _ (List.mem_of_getElem? hj), fun o ho e2 => ?_⟩
      obtain ⟨i, hi, hq⟩ := selB_mem h o ho
      have a1 := List.getElem?_map (f := (·.a)) (l := L) (i := i)
      have a2 := List.getElem?_map (f := (·.a)) (l := L) (i := j)
      rw [hq] at a1
      rw [hj] at a2
      have a1 : (L.map (·.a))[i]? = some o.a := a1
      have a2 : (L.map (·.a))[j]? = some b := a2
      rw [e2] at a1
      have := nd_ix W.nd a1 a2
      subst this
      exact hji hi
    · rw [if_neg hbp] at hb
      cases hb
theorem WdI.callMF {As : List Addr} (W : WdI K B ctx L H N F) (ps : List (Nat × Own × Own)) (hp : OkS L ps) (hA : As = ps.map fun p => p.2.1.a) (hL' : L' = ps.map fun p => p.2.2) (fr : AllFr L') (r : ResMF K N H As L' x v H') : ∃ N2 F2 R, WdI K B ctx (setAll L ps) H' N2 F2 ∧ Isl (setAll L ps) F2 H' R ∧ Rp.rep (lkN R) x v := by
  obtain ⟨N', R, s1, s2, s3, s4, hNa, sR, hR, hr, hv⟩ := r
  have hadr := okS_addr hp
  have hoff : ∀ a ∈ As, F a = none := fun a ha => by
    rw [hA] at ha
    obtain ⟨p, hp1, rfl⟩ := List.mem_map.mp ha
    obtain ⟨⟨o, o1, o2⟩, _⟩ := hadr p hp1
    rw [← o2]
    exact W.off o o1
  have hF : ∀ b u, N' b = some u → F b = none ∨ F b = some u := fun b u e => by
    rcases s4 b u e with h | h
    · exact .inl (W.fH.free h)
    · exact .inr (W.nF b u h)
  have sN' : Same N' (join F N') := fun b u e => by
    unfold join
    rcases hF b u e with h | h
    · rw [h]
      exact e
    · rw [h]
  have sF : Same F (join F N') := join_l
  have offJ : ∀ o ∈ L, join F N' o.a = none ∨ o.a ∈ As := fun o ho => by
    obtain ⟨u, e, q⟩ := W.at_ o ho
    have ho2 := W.off o ho
    by_cases hm : o.a ∈ As
    · exact .inr hm
    · refine .inl ?_
      unfold join
      rw [ho2]
      show N' o.a = none
      cases q2 : N' o.a with
      | none => rfl
      | some w =>
        rcases s4 _ _ q2 with h | h
        · rw [e] at h
          cases h
        · have := W.nF _ _ h
          rw [ho2] at this
          cases this
  have offA : ∀ a ∈ As, join F N' a = none := fun a ha => by
    unfold join
    rw [hoff a ha]
    exact hNa a ha
  have W2 : WdI K B ctx (setAll L ps) H' N' (join F N') := by
    refine ⟨W.bF.trans sF, sN', fun b u e => ?_, fun b u e => ?_, fun f hf => ?_, fun o ho => ?_, fun o ho => ?_, by rw [setAll_map hp]; exact W.nd⟩
    · rcases s4 b u e with h | h
      · exact W.bF.free (W.fH.free h)
      · exact W.sep b u h
    · rcases join_or e with e | e
      · refine s2 b u (fun hm => ?_) (W.fH b u e)
        rw [hoff b hm] at e
        cases e
      · exact s3 b u e
    · exact f.mono s1 sF (W.facts f hf)
    · rcases setAll_mem hp W.nd ho with ⟨h1, h2⟩ | ⟨p, h1, rfl⟩
      · obtain ⟨u, e, q⟩ := W.at_ o h1
        refine ⟨u, s2 _ _ (fun hm => ?_) e, o.mono s1 sF q⟩
        rw [hA] at hm
        obtain ⟨p, g1, g2⟩ := List.mem_map.mp hm
        exact h2 p g1 g2.symm
      · have hm : p.2.2 ∈ L' := by rw [hL']; exact List.mem_map.mpr ⟨p, h1, rfl⟩
        obtain ⟨u, e, q⟩ := hv _ hm
        exact ⟨u, e, fr.all _ hm _ _ _ _ _ q⟩
    · rcases setAll_mem hp W.nd ho with ⟨h1, h2⟩ | ⟨p, h1, rfl⟩
      · rcases offJ o h1 with h | h
        · exact h
        · exact offA _ h
      · refine offA _ ?_
        rw [hA, (hadr p h1).2]
        exact List.mem_map.mpr ⟨p, h1, rfl⟩
  refine ⟨N', join F N', R, W2, ⟨sR, fun a u e => ?_⟩, hr⟩
  obtain ⟨g1, g2⟩ := hR a u e
  have gF := W.fH.free g1
  refine ⟨by unfold join; rw [gF]; exact g2, fun o ho e2 => ?_⟩
  have hm : o.a ∈ (setAll L ps).map (·.a) := List.mem_map.mpr ⟨o, ho, rfl⟩
  rw [setAll_map hp] at hm
  obtain ⟨q, hq, e3⟩ := List.mem_map.mp hm
  obtain ⟨u2, e4, _⟩ := W.at_ q hq
  rw [e3, e2, g1] at e4
  cases e4
/-- it joins what is known -/
theorem WdI.addI (W : WdI K B ctx L H N F) (I : Isl L F H R) : WdI K B ctx L H (join N R) (join F R) := by
  have rF : ∀ a u, R a = some u → F a = Option.none := fun a u e => (I.off a u e).1
  have rN : ∀ a u, R a = some u → N a = Option.none := fun a u e => W.nF.free (rF a u e)
  have sN : Same N (join N R) := join_l
  have sF : Same F (join F R) := join_l
  refine ⟨W.bF.trans sF, fun b u e => ?_, fun b u e => ?_, fun b u e => ?_, fun f hf => f.mono sN sF (W.facts f hf), fun o ho => ?_, fun o ho => ?_, W.nd⟩
  · rcases join_or e with e | e
    · exact sF _ _ (W.nF b u e)
    · exact join_r rF _ _ e
  · rcases join_or e with e | e
    · exact W.sep b u e
    · exact W.bF.free (rF b u e)
  · rcases join_or e with e | e
    · exact W.fH b u e
    · exact I.s b u e
  · obtain ⟨u, e, q⟩ := W.at_ o ho
    exact ⟨u, e, o.mono sN sF q⟩
  · cases e : join F R o.a with
    | none => rfl
    | some u =>
      exfalso
      rcases join_or e with e | e
      · rw [W.off o ho] at e
        cases e
      · exact (I.off _ _ e).2 o ho rfl
theorem WdI.addF (W : WdI K B ctx L H N F) (I : Isl L F H R) (h : Rp.rep (lkN R) x v) : Wd K B (fc true x v :: ctx) L H := by
  have rN : Same R (join N R) := join_r fun a u e => W.nF.free (I.off a u e).1
  have J := W.addI I
  refine ⟨_, _, J.bF, J.nF, J.sep, J.fH, fun f hf => ?_, J.at_, J.off, J.nd⟩
  rcases List.mem_cons.mp hf with rfl | hf
  · exact Rp.mono (lkN_mono rN) h
  · exact J.facts f hf
theorem Isl.del (I : Isl L F H R) : Isl L F H (PB.del R p) := ⟨Same.del.trans I.s, fun a u e => I.off a u (Same.del a u e)⟩
/-- an own list laid beside -/
theorem WdI.addOwn {o : Own} {u : HO} (W : WdI K B ctx L H N F) (e : H o.a = some u) (hF : F o.a = none) (hL : ∀ q ∈ L, q.a ≠ o.a) (h : o.P K N F u) : WdI K B ctx (o :: L) H N F := by
  refine ⟨W.bF, W.nF, W.sep, W.fH, W.facts, fun q hq => ?_, fun q hq => ?_, ?_⟩
  · rcases List.mem_cons.mp hq with rfl | hq
    · exact ⟨u, e, h⟩
    · exact W.at_ q hq
  · rcases List.mem_cons.mp hq with rfl | hq
    · exact hF
    · exact W.off q hq
  · rw [List.map_cons]
    refine List.nodup_cons.mpr ⟨fun hm => ?_, W.nd⟩
    obtain ⟨q, hq, eq⟩ := List.mem_map.mp hm
    exact hL q hq eq
theorem WdI.addO [Flat β] {ys : List β} (W : WdI K B ctx L H N F) (I : Isl L F H R) (h : Rp.rep (lkN R) ys v) : ∃ p, v = .ref p ∧ Wd K B ctx (oL true p ys :: L) H := by
  obtain ⟨p, vs, rfl, hp, hr⟩ := h
  obtain ⟨g1, g2⟩ := I.off _ _ hp
  exact ⟨p, rfl, _, _, WdI.addOwn (o := oL true p ys) W (I.s _ _ hp) g1 g2 ⟨vs, rfl, hr.mono fun _ _ q => Flat.h _ _ _ _ q⟩⟩
theorem WdI.addP [Flat α] [Flat β] {r : α × List β} (W : WdI K B ctx L H N F) (I : Isl L F H R) (h : Rp.rep (lkN R) r v) : ∃ p a u, v = .ref a ∧ Wd K B (fc true r.1 u :: fR true [u, .ref p] (.ref a) :: ctx) (oL true p r.2 :: L) H := by
  obtain ⟨a, u, w, rfl, hl, hr1, p, vs, rfl, hp, hr⟩ := h
  obtain ⟨g1, g2⟩ := I.off _ _ hp
  have hl : R a = some (.tup [u, .ref p]) := hl
  have hap : a ≠ p := fun e => by
    rw [e] at hl
    rw [show R p = some (.lst vs) from hp] at hl
    cases hl
  have J := W.addI (I.del (p := p))
  have rN : Same (PB.del R p) (join N (PB.del R p)) := join_r fun b q e => W.nF.free (I.off b q (Same.del b q e)).1
  have J2 := WdI.addOwn (o := oL true p r.2) J (I.s _ _ hp) (by
    show join F (PB.del R p) p = none
    unfold join
    rw [g1]
    exact del_same) g2 ⟨vs, rfl, hr.mono fun _ _ q => Flat.h _ _ _ _ q⟩
  refine ⟨p, a, u, rfl, _, _, J2.bF, J2.nF, J2.sep, J2.fH, fun f hf => ?_, J2.at_, J2.off, J2.nd⟩
  rcases List.mem_cons.mp hf with rfl | hf
  · exact Flat.h _ _ _ _ hr1
  · rcases List.mem_cons.mp hf with rfl | hf
    · exact ⟨a, rfl, rN _ _ ((del_ne hap).trans hl)⟩
    · exact J2.facts f hf
theorem Kn.pairR {ys : List β} {u : V} {a p : Addr} (m : Nat) (hm : ctx[m]? = Option.some (fR true [u, .ref p] (.ref a))) (h : Kn K ctx true x u) (h2 : Kn K ctx true ys (.ref p)) : Kn K ctx true (x, ys) (.ref a) := fun N F s q => by
  obtain ⟨a', e, ht⟩ := q _ (List.mem_of_getElem? hm)
  cases e
  exact ⟨a, u, .ref p, rfl, ht, h N F s q, h2 N F s q⟩
end
end PB

namespace PB
open PySem PySem.Spec PyProof.Rows L2
/-! ### things of any kind -/
inductive Th where
  | int (i : Int)
  | bl (b : Bool)
  | non
  | str (s : PySem.Str)
  | lst (xs : List Th)
  | tup (xs : List Th)
  | dic (ks : List Int) (xs : List Th)
  | exc
/-- what a dict of whole numbers holds -/
def dK (ks : List Int) (vs : List V) : List (Key × V) := (ks.zip vs).map fun p => (.inl p.1, p.2)
mutual
def Th.rp (S : Lk) : Th → V → Prop
  | .int i, v => v = .int i
  | .bl b, v => v = .bl b
  | .non, v => v = .non
  | .str s, v => v = .str s
  | .lst xs, v => ∃ a vs, v = .ref a ∧ S.l a vs ∧ Th.rpL S xs vs
  | .tup xs, v => ∃ a vs, v = .ref a ∧ S.t a vs ∧ Th.rpL S xs vs
  | .dic ks xs, v => ∃ a vs, v = .ref a ∧ ks.length = xs.length ∧ S.d a (dK ks vs) ∧ Th.rpL S xs vs
  | .exc, v => ∃ a, v = .ref a ∧ S.x a
def Th.rpL (S : Lk) : List Th → List V → Prop
  | [], vs => vs = []
  | x :: xs, vs => ∃ v ws, vs = v :: ws ∧ Th.rp S x v ∧ Th.rpL S xs ws
end
mutual
theorem Th.mono {S T : Lk} (s : S.Le T) : ∀ (x : Th) (v : V), Th.rp S x v → Th.rp T x v
  | .int _, _, h => h
  | .bl _, _, h => h
  | .non, _, h => h
  | .str _, _, h => h
  | .lst xs, _, ⟨a, vs, e, h, r⟩ => ⟨a, vs, e, s.l _ _ h, Th.monoL s xs vs r⟩
  | .tup xs, _, ⟨a, vs, e, h, r⟩ => ⟨a, vs, e, s.t _ _ h, Th.monoL s xs vs r⟩
  | .dic _ xs, _, ⟨a, vs, e, l, h, r⟩ => ⟨a, vs, e, l, s.d _ _ h, Th.monoL s xs vs r⟩
  | .exc, _, ⟨a, e, h⟩ => ⟨a, e, s.x _ h⟩
theorem Th.monoL {S T : Lk} (s : S.Le T) : ∀ (xs : List Th) (vs : List V), Th.rpL S xs vs → Th.rpL T xs vs
  | [], _, h => h
  | x :: xs, _, ⟨v, ws, e, h, r⟩ => ⟨v, ws, e, Th.mono s x v h, Th.monoL s xs ws r⟩
end
instance : Rp Th := ⟨Th.rp, fun s h => Th.mono s _ _ h⟩
theorem rpL_all {S : Lk} : ∀ {xs : List Th} {vs : List V}, Th.rpL S xs vs ↔ All2 (Rp.rep S) xs vs
  | [], [] => ⟨fun _ => trivial, fun _ => rfl⟩
  | [], _ :: _ => ⟨fun h => (nomatch h), fun h => False.elim h⟩
  | x :: xs, [] => ⟨fun ⟨_, _, e, _⟩ => (nomatch e), fun h => False.elim h⟩
  | x :: xs, v :: vs => ⟨fun ⟨_, _, e, h, r⟩ => by cases e; exact ⟨h, rpL_all.mp r⟩, fun h => ⟨v, vs, rfl, h.1, rpL_all.mpr h.2⟩⟩
mutual
def Th.d : Th → PyData
  | .int i => .int i
  | .bl b => .bool b
  | .non => .none
  | .str s => .str s
  | .lst xs => .list (Th.dL xs)
  | .tup xs => .tuple (Th.dL xs)
  | .dic ks xs => .dict ((ks.map PyData.int).zip (Th.dL xs))
  | .exc => .int (2 ^ 2000)
def Th.dL : List Th → List PyData
  | [] => []
  | x :: xs => x.d :: Th.dL xs
end
mutual
/-- without dicts -/
def Th.pl : Th → Bool
  | .int _ | .bl _ | .non | .str _ => true
  | .lst xs => Th.plL xs
  | .tup xs => Th.plL xs
  | .dic _ _ => false
  | .exc => false
def Th.plL : List Th → Bool
  | [] => true
  | x :: xs => x.pl && Th.plL xs
end
mutual
theorem Th.dp {K : PySem.W.Frag} {H : Hp} : ∀ (x : Th) (v : V), x.pl = true → Th.rp (lkA K H) x v → Dp K H v x.d
  | .int i, _, _, h => by cases h; exact .int i
  | .bl b, _, _, h => by cases h; exact .bl b
  | .non, _, _, h => by cases h; exact .non
  | .str s, _, _, h => by cases h; exact .str s
  | .lst xs, _, p, ⟨a, vs, e, h, r⟩ => by cases e; exact .lst (SqL.of h) (Th.dpL xs vs p r)
  | .tup xs, _, p, ⟨a, vs, e, h, r⟩ => by cases e; exact .tup h (Th.dpL xs vs p r)
  | .dic _ _, _, p, _ => by cases p
  | .exc, _, p, _ => by cases p
theorem Th.dpL {K : PySem.W.Frag} {H : Hp} : ∀ (xs : List Th) (vs : List V), Th.plL xs = true → Th.rpL (lkA K H) xs vs → DpAll K H vs (Th.dL xs)
  | [], _, _, h => by cases h; exact .nil
  | x :: xs, _, p, ⟨v, ws, e, h, r⟩ => by
    cases e
    have p2 := Bool.and_eq_true_iff.mp p
    exact .cons (Th.dp x v p2.1 h) (Th.dpL xs ws p2.2 r)
end
/-- data that may hold such things -/
class RpT (α : Type) [Rp α] where
  d : α → PyData
  ok : α → Bool
  dp : ∀ {K : PySem.W.Frag} {H : Hp} {x : α} {v : V}, ok x = true → Rp.rep (lkA K H) x v → Dp K H v (d x)
instance {α : Type} [Rp α] [RpD α] : RpT α := ⟨RpD.d, fun _ => true, fun _ h => RpD.dp h⟩
instance : RpT Th := ⟨Th.d, Th.pl, fun p h => Th.dp _ _ p h⟩
section
variable {α β : Type} [Rp α] [Rp β] [RpT α] [RpT β]
theorem all2_dpT {K : PySem.W.Frag} {H : Hp} : ∀ {xs : List α} {vs : List V}, xs.all RpT.ok = true → All2 (Rp.rep (lkA K H)) xs vs → DpAll K H vs (xs.map RpT.d)
  | [], [], _, _ => .nil
  | x :: xs, v :: vs, p, h => by
    rw [List.all_cons] at p
    have p2 := Bool.and_eq_true_iff.mp p
    exact .cons (RpT.dp p2.1 h.1) (all2_dpT p2.2 h.2)
  | [], _ :: _, _, h => False.elim h
  | _ :: _, [], _, h => False.elim h
instance (priority := low) : RpT (List α) := ⟨fun xs => .list (xs.map RpT.d), fun xs => xs.all RpT.ok, fun {K H x v} p ⟨a, vs, e, h, r⟩ => by cases e; exact .lst (SqL.of h) (all2_dpT p r)⟩
instance (priority := low) : RpT (α × β) := ⟨fun x => .tuple [RpT.d x.1, RpT.d x.2], fun x => RpT.ok x.1 && RpT.ok x.2, fun {K H x v} p ⟨a, u, w, e, h, r1, r2⟩ => by
  cases e
  have p2 := Bool.and_eq_true_iff.mp p
  exact .tup h (.cons (RpT.dp p2.1 r1) (.cons (RpT.dp p2.2 r2) .nil))⟩
instance (priority := low) : RpT (Option α) := ⟨fun x => match x with
    | none => .none
    | some y => RpT.d y, fun x => match x with
    | none => true
    | some y => RpT.ok y, fun {K H x v} p h => by
      cases x with
      | none => cases (show v = .non from h); exact .non
      | some y => exact RpT.dp (α := α) p h⟩
def eqT (x : α) (y : β) : Option Bool := if RpT.ok x = true ∧ RpT.ok y = true ∧ SeqAt.shaped (RpT.d x) = true ∧ SeqAt.shaped (RpT.d y) = true then some (PyData.eqv (RpT.d x) (RpT.d y)) else none
def reprT (x : α) : Option PySem.Str := if RpT.ok x = true ∧ (RpT.d x).showable = true ∧ (RpT.d x).hasDict = false ∧ (RpT.d x).depth ≤ 60 ∧ (RpT.d x).shown.length ≤ sizeLine then some (RpT.d x).shown else none
variable {K : PySem.W.Frag} {B H : Hp} {ctx : List Fact} {L : List Own} {x : α} {y : β} {v w : V} {Q : VK}
theorem w_eqT {b : Bool} (W : Wd K B ctx L H) (h : Ar K ctx L x v) (h' : Ar K ctx L y w) (e : eqT x y = some b) (k : Q (.bl b) H) : rEqA K v w H Q := by
  obtain ⟨N, F, W⟩ := W
  obtain ⟨⟨p1, p2, s1, s2⟩, rfl⟩ := guardE e
  exact i_eqD (RpT.dp p1 (h B H N F W)) (RpT.dp p2 (h' B H N F W)) s1 s2 k
theorem w_neT {b : Bool} (W : Wd K B ctx L H) (h : Ar K ctx L x v) (h' : Ar K ctx L y w) (e : eqT x y = some b) (k : Q (.bl (!b)) H) : rNeA K v w H Q := by
  obtain ⟨N, F, W⟩ := W
  obtain ⟨⟨p1, p2, s1, s2⟩, rfl⟩ := guardE e
  exact i_neD (RpT.dp p1 (h B H N F W)) (RpT.dp p2 (h' B H N F W)) s1 s2 k
theorem w_reprT {s : PySem.Str} (W : Wd K B ctx L H) (h : Ar K ctx L x v) (e : reprT x = some s) (k : Q (.str s) H) : rRepr K [v] H Q := by
  obtain ⟨N, F, W⟩ := W
  obtain ⟨⟨p, s1, s2, s3, s4⟩, rfl⟩ := guardE e
  exact i_repr (RpT.dp p (h B H N F W)) s1 s2 s3 s4 k
end
/-! kinds -/
def Th.ty : Th → String
  | .int _ => "int"
  | .bl _ => "bool"
  | .non => "NoneType"
  | .str _ => "str"
  | .lst _ => "list"
  | .tup _ => "tuple"
  | .dic _ _ => "dict"
  | .exc => "ValueError"
def isiT (x : Th) (c : String) : Bool := isub x.ty c
theorem th_tyx {K : PySem.W.Frag} {H : Hp} : ∀ {x : Th} {v : V}, Rp.rep (lkA K H) x v → TyX K H v (.type x.ty) ∨ x = .exc
  | .int _, _, h => by cases h; exact .inl (.base (.int _))
  | .bl _, _, h => by cases h; exact .inl (.base (.bl _))
  | .non, _, h => by cases h; exact .inl (.base .non)
  | .str _, _, h => by cases h; exact .inl (.base (.str _))
  | .lst _, _, ⟨a, vs, e, h, r⟩ => by cases e; exact .inl (.base (.lst h))
  | .tup _, _, ⟨a, vs, e, h, r⟩ => by cases e; exact .inl (tyx_tup h)
  | .dic _ _, _, ⟨a, vs, e, l, h, r⟩ => by cases e; exact .inl (.base (.dK h))
  | .exc, _, _ => .inr rfl
theorem kit_isubT {T c : String} (hT : T ∈ ["NoneType", "bool", "int", "str", "list", "tuple", "dict", "ValueError"]) (hc : c ∈ ["bool", "int", "str", "list", "tuple", "dict"]) : kitB T c = some (isub T c) := by
  have key : ∀ T ∈ ["NoneType", "bool", "int", "str", "list", "tuple", "dict", "ValueError"], ∀ c ∈ ["bool", "int", "str", "list", "tuple", "dict"], kitB T c = some (isub T c) := by decide +kernel
  exact key T hT c hc
theorem th_tys (x : Th) : x.ty ∈ ["NoneType", "bool", "int", "str", "list", "tuple", "dict", "ValueError"] := by cases x <;> simp [Th.ty]
def Th.getI : Th → Option Int
  | .int i => some i
  | _ => none
def Th.getB : Th → Option Bool
  | .bl b => some b
  | _ => none
def Th.getS : Th → Option PySem.Str
  | .str s => some s
  | _ => none
def Th.getL : Th → Option (List Th)
  | .lst xs => some xs
  | _ => none
def Th.getP : Th → Option (Th × Th)
  | .tup [x, y] => some (x, y)
  | _ => none
def Th.isNone : Th → Bool
  | .non => true
  | _ => false
section
variable {K : PySem.W.Frag} {B H : Hp} {ctx : List Fact} {L : List Own} {t : Bool} {x : Th} {v : V} {Q : VK}
theorem w_isiT {c : String} (W : Wd K B ctx L H) (h : Ar K ctx L x v) (hc : c ∈ ["bool", "int", "str", "list", "tuple", "dict"]) (k : Q (.bl (isiT x c)) H) : rIsX K [v, .ty c] H Q := by
  obtain ⟨N, F, W⟩ := W
  have r := h B H N F W
  rcases th_tyx r with ht | rfl
  · exact .inl (i_isi ht (kit_isubT (th_tys x) hc) k)
  · obtain ⟨a, e, hx⟩ := r
    cases e
    exact .inr (i_isV hx (kit_isubT (th_tys .exc) hc) k)
theorem Wd.thI {i : Int} (W : Wd K B ctx L H) (h : Kn K ctx t x v) (e : x.getI = some i) : Wd K B (fc t i v :: ctx) L H := by
  cases x <;> cases e
  exact W.know fun N F s q => h N F s q
theorem Wd.thB {i : Bool} (W : Wd K B ctx L H) (h : Kn K ctx t x v) (e : x.getB = some i) : Wd K B (fc t i v :: ctx) L H := by
  cases x <;> cases e
  exact W.know fun N F s q => h N F s q
theorem Wd.thS {i : PySem.Str} (W : Wd K B ctx L H) (h : Kn K ctx t x v) (e : x.getS = some i) : Wd K B (fc t i v :: ctx) L H := by
  cases x <;> cases e
  exact W.know fun N F s q => h N F s q
theorem Wd.thL {i : List Th} (W : Wd K B ctx L H) (h : Kn K ctx t x v) (e : x.getL = some i) : Wd K B (fc t i v :: ctx) L H := by
  cases x <;> cases e
  exact W.know fun N F s q => by
    obtain ⟨a, vs, e, h1, h2⟩ := h N F s q
    exact ⟨a, vs, e, h1, rpL_all.mp h2⟩
theorem Wd.thP {i : Th × Th} (W : Wd K B ctx L H) (h : Kn K ctx t x v) (e : x.getP = some i) : Wd K B (fc t i v :: ctx) L H := by
  match x, e, h with
  | .tup [p, q], e, h =>
    cases e
    exact W.know fun N F s g => by
      obtain ⟨a, vs, e, h1, u, ws, rfl, r1, w, zs, rfl, r2, e3⟩ := h N F s g
      have e3 : zs = [] := e3
      subst e3
      exact ⟨a, u, w, e, h1, r1, r2⟩
theorem w_isNT (W : Wd K B ctx L H) (h : Kn K ctx t x v) (k : Q (.bl x.isNone) H) : rIsN v .non H Q := ⟨rfl, by
  obtain ⟨N, F, W⟩ := W
  have r := h N F W.nF W.facts
  have e : decide (v = V.non) = x.isNone := by
    cases x with
    | non => cases (show v = .non from r); rfl
    | int i => cases (show v = .int i from r); rfl
    | bl i => cases (show v = .bl i from r); rfl
    | str i => cases (show v = .str i from r); rfl
    | lst i => obtain ⟨a, vs, rfl, _⟩ := r; rfl
    | tup i => obtain ⟨a, vs, rfl, _⟩ := r; rfl
    | dic i j => obtain ⟨a, vs, rfl, _⟩ := r; rfl
    | exc => obtain ⟨a, rfl, _⟩ := r; rfl
  rw [e]
  exact k⟩
theorem w_notNT (W : Wd K B ctx L H) (h : Kn K ctx t x v) (k : Q (.bl (!x.isNone)) H) : rNotN v .non H Q := ⟨rfl, by
  obtain ⟨N, F, W⟩ := W
  have r := h N F W.nF W.facts
  have e : decide (v = V.non) = x.isNone := by
    cases x with
    | non => cases (show v = .non from r); rfl
    | int i => cases (show v = .int i from r); rfl
    | bl i => cases (show v = .bl i from r); rfl
    | str i => cases (show v = .str i from r); rfl
    | lst i => obtain ⟨a, vs, rfl, _⟩ := r; rfl
    | tup i => obtain ⟨a, vs, rfl, _⟩ := r; rfl
    | dic i j => obtain ⟨a, vs, rfl, _⟩ := r; rfl
    | exc => obtain ⟨a, rfl, _⟩ := r; rfl
  rw [e]
  exact k⟩
end
def eqNil : Th → Option Bool
  | .lst xs => some xs.isEmpty
  | _ => none
section
variable {α β : Type} [Rp α] [Rp β] {K : PySem.W.Frag} {B H : Hp} {ctx : List Fact} {L : List Own} {t t' : Bool} {xs : List α} {v w : V} {Q : VK}
theorem w_eqNil (W : Wd K B ctx L H) (h : Ls K ctx L t xs v) (h' : Ls K ctx L t' ([] : List β) w) (k : Q (.bl xs.isEmpty) H) : rEqA K v w H Q := by
  obtain ⟨N, F, W⟩ := W
  obtain ⟨a, vs, rfl, h1, h2⟩ := h B H N F W
  obtain ⟨b, ws, rfl, h3, h4⟩ := h' B H N F W
  cases ws with
  | cons _ _ => exact False.elim h4
  | nil => exact .inr (.inr ⟨a, b, vs, rfl, rfl, h1, h3, by
      cases vs <;> cases xs <;> first | exact k | exact False.elim h2⟩)
theorem w_neNil (W : Wd K B ctx L H) (h : Ls K ctx L t xs v) (h' : Ls K ctx L t' ([] : List β) w) (k : Q (.bl (!xs.isEmpty)) H) : rNeA K v w H Q := by
  obtain ⟨N, F, W⟩ := W
  obtain ⟨a, vs, rfl, h1, h2⟩ := h B H N F W
  obtain ⟨b, ws, rfl, h3, h4⟩ := h' B H N F W
  cases ws with
  | cons _ _ => exact False.elim h4
  | nil => exact .inr (.inr ⟨a, b, vs, rfl, rfl, h1, h3, by
      cases vs <;> cases xs <;> first | exact k | exact False.elim h2⟩)
theorem rpL_nil {S : Lk} {xs : List Th} {vs : List V} (h : Th.rpL S xs vs) : vs.isEmpty = xs.isEmpty := by
  cases xs with
  | nil => cases h; rfl
  | cons x xs =>
    obtain ⟨v, ws, e, _⟩ := h
    subst e
    rfl
theorem w_eqNilT {x : Th} {b : Bool} (W : Wd K B ctx L H) (h : Ar K ctx L x v) (h' : Ls K ctx L t' ([] : List β) w) (e : eqNil x = some b) (k : Q (.bl b) H) : rEqA K v w H Q := by
  cases x <;> cases e
  obtain ⟨N, F, W⟩ := W
  obtain ⟨a, vs, rfl, h1, h2⟩ := h B H N F W
  obtain ⟨b, ws, rfl, h3, h4⟩ := h' B H N F W
  cases ws with
  | cons _ _ => exact False.elim h4
  | nil => exact .inr (.inr ⟨a, b, vs, rfl, rfl, SqL.of h1, h3, by rw [rpL_nil h2]; exact k⟩)
theorem w_neNilT {x : Th} {b : Bool} (W : Wd K B ctx L H) (h : Ar K ctx L x v) (h' : Ls K ctx L t' ([] : List β) w) (e : eqNil x = some b) (k : Q (.bl (!b)) H) : rNeA K v w H Q := by
  cases x <;> cases e
  obtain ⟨N, F, W⟩ := W
  obtain ⟨a, vs, rfl, h1, h2⟩ := h B H N F W
  obtain ⟨b, ws, rfl, h3, h4⟩ := h' B H N F W
  cases ws with
  | cons _ _ => exact False.elim h4
  | nil => exact .inr (.inr ⟨a, b, vs, rfl, rfl, SqL.of h1, h3, by rw [rpL_nil h2]; exact k⟩)
end
/-! values as things -/
section
variable {α β γ : Type} [Rp α] [Rp β] [Rp γ]
instance : Co Int Th := ⟨.int, fun h => h⟩
instance : Co Bool Th := ⟨.bl, fun h => h⟩
instance : Co Unit Th := ⟨fun _ => .non, fun h => h⟩
instance : Co PySem.Str Th := ⟨.str, fun h => h⟩
instance [Co α Th] : Co (Option α) Th := ⟨fun x => match x with
    | none => .non
    | some y => Co.f y, fun {S x v} h => by
      cases x with
      | none => exact h
      | some y => exact Co.h (β := Th) h⟩
instance [Co α Th] : Co (List α) Th := ⟨fun xs => .lst (xs.map Co.f), fun ⟨a, vs, e, h, r⟩ => ⟨a, vs, e, h, rpL_all.mpr (all2_map r)⟩⟩
instance [Co α Th] [Co β Th] : Co (α × β) Th := ⟨fun x => .tup [Co.f x.1, Co.f x.2], fun ⟨a, u, w, e, h, r1, r2⟩ => ⟨a, _, e, h, u, _, rfl, Co.h (β := Th) r1, w, _, rfl, Co.h (β := Th) r2, rfl⟩⟩
instance [Co α Th] [Co β Th] [Co γ Th] : Co (T3 α β γ) Th := ⟨fun x => .tup [Co.f x.a, Co.f x.b, Co.f x.c], fun ⟨a, u, w, z, e, h, r1, r2, r3⟩ => ⟨a, _, e, h, u, _, rfl, Co.h (β := Th) r1, w, _, rfl, Co.h (β := Th) r2, z, _, rfl, Co.h (β := Th) r3, rfl⟩⟩
instance [Co α Th] : Co (T1 α) Th := ⟨fun x => .tup [Co.f x.a], fun ⟨a, u, e, h, r1⟩ => ⟨a, _, e, h, u, _, rfl, Co.h (β := Th) r1, rfl⟩⟩
instance [Co α Th] [Co β Th] : Co (Un α β) Th := ⟨fun x => match x with
    | .l y => Co.f y
    | .r y => Co.f y, fun {S x v} h => by
      cases x with
      | l y => exact Co.h (β := Th) h
      | r y => exact Co.h (β := Th) h⟩
end
end PB

namespace PB
open PySem PySem.Spec PyProof.Rows L2
/-! ### calls that may let an exception out -/
section
variable {X : Cx} {k : Nat} {ps : List Str} {sp : Sp} {E : L2.St → XK} {x m : Str} {p pos apos : Pos} {e o : Expr} {es : List Expr} {ta : TE} {t : TA} {f : Addr} {fd : FuncData}
theorem run_fnX {pins : List (Addr × Obj)} {σ : L2.St} {H : Hp} {s : Shared} {Q : VK} {us : List Value} {vs : List V} (F : FnG X.prog X.w X.K X.mg X.base k f fd ps sp) (hr : Room k X.A)
    (hgd : X.A.guards = some []) (hb : Binds X.K fd ps []) (hx : PassesAt (L2.CX X.prog X.w) X σ (E σ)) (I : Inv X pins σ H s) (r : Vals vs us) (h : sp vs H Q (E σ)) :
    wpAny (model X.prog X.w) X.A (call (.ref f) us) (EP X pins σ Q) X.xe s := by
  have hl : us.length = ps.length := by
    rw [← r.length]
    exact F.len _ _ _ _ h
  have hb2 := hb s us I.kIn (by rw [List.append_nil]; exact hl)
  rw [List.append_nil] at hb2
  refine wpAny_call (codeAny_mono (F.run X.A X.stack s H ⟨us, []⟩ us vs Q (E σ) hr hgd I.env0 hb2 r h) fun r s' hq => ?_)
  match r, hq with
  | .error e, hq => exact hx pins H s e s' I hq
  | .ok (.ret u), hq => exact I.after hq
  | .ok .next, hq => exact hq.elim
  | .ok .brk, hq => exact hq.elim
  | .ok .cont, hq => exact hq.elim
def tCallX (sp : Sp) (E : L2.St → XK) (t : TA) : TE := fun σ H Q => t σ H fun vs H1 => sp vs H1 Q (E σ)
theorem pe_fnX (G : Fn X.prog X.w X.K X.mg X.base k x ps sp) (hr : Room k X.A) (hgd : X.A.guards = some []) (hg : Gl X x) (hx : ∀ σ, PassesAt (L2.CX X.prog X.w) X σ (E σ))
    (ha : PA X (e :: es) t) (hdb : (x == ("__debug__" : Str)) = false := by decide) (he : starEach (e :: es) X.env = (false, eval e X.env) :: starEach es X.env := by rfl)
    (hpl : (backTo pos (starEach es X.env)).any (·.1) = false := by rfl) : PE X (.Call (.Name x p) (e :: es) [] pos) (tCallX sp E t) := by
  obtain ⟨f, fd, hm, hk, hb, F⟩ := G.ex
  refine ⟨fun pins s σ H Q I h => wpAny_Call_Name_kw (ld_glob I hg hm ?_ hdb)⟩
  refine PySem.W.callWith_K (h₀ := X.base) I.ok.mod.kin hk (thn (ha.run pos pins s σ H _ I h) fun us s1 ⟨vs, H1, I1, r, q⟩ => ⟨I1.kIn, ?_⟩) he hpl
  exact run_fnX F hr hgd hb (hx σ) I1 r q
def tMX (C : Addr) (m : Str) (sp : Sp) (E : L2.St → XK) (ta : TE) (t : TA) : TE := fun σ H Q => ta σ H fun x H1 => ∃ a dx fs, x = .ref a ∧ H1 a = some (.ins C dx fs) ∧ fs.lookup m = none ∧ t σ H1 fun vs H2 => sp (x :: vs) H2 Q (E σ)
theorem pe_mGX {pl : Sem Bool} (G : MFn X.prog X.w X.K X.mg X.base k m ps sp) (c : Cls X.K (LvA X.K)) (hr : Room k X.A) (hgd : X.A.guards = some []) (hx : ∀ σ, PassesAt (L2.CX X.prog X.w) X σ (E σ)) (he : PE X o ta) (ha : PA X (e :: es) t)
    (hst : starEach (e :: es) X.env = (false, eval e X.env) :: starEach es X.env := by rfl) (hpl : (backTo pos (starEach es X.env)).any (·.1) = false := by rfl)
    (ht : eval (.Call (.Attribute o m apos) (e :: es) [] pos) X.env = (do
      let ov ← eval o X.env
      standAt apos.atName
      let (f, first) ← holding [ov] (getMethod ov m pl)
      callWith pos f first (backTo pos (starEach (e :: es) X.env)) (backToKw pos (keywordEach [] X.env))) := by rfl) :
    PE X (.Call (.Attribute o m apos) (e :: es) [] pos) (tMX (LvA X.K) m sp E ta t) := by
  obtain ⟨f, fd, hm, hb, F⟩ := G.ex
  refine ⟨fun pins s σ H Q I h => ?_⟩
  refine PySem.W.methodCall_KW (pl := pl) (thn (he.run pins s σ H _ I h) fun u s1 ⟨x, H1, I1, rx, a, dx, fs, ex, ea, l, q⟩ => ?_) ht
  subst ex
  obtain rfl : u = Value.ref a := rx
  refine getmeth_ok I1 ea c hm l ?_
  refine PySem.W.callWith_K (first := [.ref a]) (h₀ := X.base) I.ok.mod.kin hm.kp (thn (ha.run pos pins s1 σ H1 _ I1 q) fun us s2 ⟨vs, H2, I2, r, q2⟩ => ⟨I2.kIn, ?_⟩) hst hpl
  exact run_fnX (us := .ref a :: us) (vs := .ref a :: vs) F hr hgd hb (hx σ) I2 (.cons rfl r) q2
variable {σ : L2.St} {H : Hp} {Q : VK}
theorem i_callX (h : t σ H fun vs H1 => sp vs H1 Q (E σ)) : tCallX sp E t σ H Q := h
theorem i_tMX {C : Addr} (h : ta σ H fun x H1 => ∃ a dx fs, x = .ref a ∧ H1 a = some (.ins C dx fs) ∧ fs.lookup m = none ∧ t σ H1 fun vs H2 => sp (x :: vs) H2 Q (E σ)) : tMX C m sp E ta t σ H Q := h
end
/-! ### list(zip(ns, ys)) -/
def zipO {β : Type} (ns : List Int) (ys : List β) : Option (List (Int × β)) := if ns.length = ys.length then some (List.zip ns ys) else none
theorem i_tLZ {K : PySem.W.Frag} {ta : TA} {σ : L2.St} {H : Hp} {Q : VK} (h : ta σ H fun vs H1 => ∃ x y, vs = [x, y] ∧ rLZ K x y H1 Q) : tLZ K ta σ H Q := h
theorem ints_of {S : Lk} : ∀ {ns : List Int} {vs : List V}, All2 (Rp.rep S) ns vs → vs = ns.map V.int
  | [], [], _ => rfl
  | n :: ns, v :: vs, h => by
    rw [show v = .int n from h.1, ints_of h.2]
    rfl
  | [], _ :: _, h => h.elim
  | _ :: _, [], h => h.elim
theorem all2_len {α : Type} {R : α → V → Prop} : ∀ {xs : List α} {vs : List V}, All2 R xs vs → xs.length = vs.length
  | [], [], _ => rfl
  | _ :: _, _ :: _, h => congrArg (· + 1) (all2_len h.2)
  | [], _ :: _, h => h.elim
  | _ :: _, [], h => h.elim
section
variable {K : PySem.W.Frag} {B H : Hp} {ctx : List Fact} {L : List Own} {t t' : Bool} {β : Type} [Rp β] {ns : List Int} {ys : List β} {zs : List (Int × β)} {v u : V} {Q : VK}
theorem w_lz (W : Wd K B ctx L H) (h : Ls K ctx L t' ns v) (h' : Ls K ctx L t ys u) (e : zipO ns ys = some zs) (k : ∀ p H', Wd K B (fc t zs (.ref p) :: ctx) L H' → Q (.ref p) H') : rLZ K v u H Q := by
  obtain ⟨he, rfl⟩ := guardE e
  obtain ⟨N, F, W⟩ := W
  obtain ⟨a, vs1, rfl, h1, h2⟩ := h B H N F W
  obtain ⟨b, vs, rfl, g1, g2⟩ := h' B H N F W
  rw [ints_of h2] at h1
  refine ⟨a, b, ns, vs, rfl, rfl, h1, g1, he.trans (all2_len g2), fun H' p ts s hp hts hn e pr => k p H' ?_⟩
  let R : Hp := fun b => if b = p ∨ b ∈ ts then H' b else none
  have sR : Same R H' := fun b u e => by
    show H' b = some u
    by_cases hb : b = p ∨ b ∈ ts
    · rw [show R b = H' b from if_pos hb] at e; exact e
    · rw [show R b = none from if_neg hb] at e; cases e
  have hR : ∀ b u, R b = some u → H b = none := fun b u e => by
    by_cases hb : b = p ∨ b ∈ ts
    · rcases hb with rfl | hb
      · exact hp
      · exact hts b hb
    · rw [show R b = none from if_neg hb] at e; cases e
  have J := Wd.joinI (L' := L) W (fun b u _ e => s b u e) sR hR (fun o ho => let ⟨h, e, q⟩ := W.at_ o ho; ⟨h, s _ _ e, fun N' F' a b => o.mono a b q⟩) rfl
  refine ⟨_, _, J.bF, J.nF, J.sep, J.fH, fun f hf => ?_, J.at_, J.off, J.nd⟩
  rcases List.mem_cons.mp hf with rfl | hf
  · have rN : Same R (join N R) := join_r fun a u e => W.nF.free (W.fH.free (hR a u e))
    have rF : Same R (join F R) := join_r fun a u e => W.fH.free (hR a u e)
    have hRp : R p = some (.lst (ts.map V.ref)) := by rw [show R p = H' p from if_pos (.inl rfl), e]
    have key : ∀ (ts' : List Addr) (ns : List Int) (ys : List β) (vs : List V), All2 (Rp.rep (reg t K N F)) ys vs → ns.length = ys.length → (∀ b ∈ ts', b ∈ ts) → Paired (fun (t : Addr) (q : Key × V) => H' t = some (.tup [kV q.1, q.2])) ts' (zV ns vs) → All2 (Rp.rep (reg t K (join N R) (join F R))) (List.zip ns ys) (ts'.map V.ref) := by
      intro ts' ns
      induction ns generalizing ts' with
      | nil =>
        intro ys vs _ _ _ pr
        cases pr
        exact trivial
      | cons n ns ih =>
        intro ys vs h hl hm pr
        match ys, vs, h, hl, pr with
        | [], _, _, hl, _ => simp at hl
        | _ :: _, [], h, _, _ => exact h.elim
        | y :: ys, v :: vs, h, hl, pr =>
          cases pr with
          | @cons b _ ts2 _ hb pr =>
            refine ⟨⟨b, _, _, rfl, ?_, rfl, Rp.mono (reg_mono join_l join_l) h.1⟩, ih ts2 ys vs h.2 (by simpa using hl) (fun c hc => hm c (List.mem_cons_of_mem _ hc)) pr⟩
            have hRb : R b = some (.tup [.int n, v]) := by
              rw [show R b = H' b from if_pos (.inr (hm b List.mem_cons_self)), hb]
              rfl
            cases t
            · exact SqT.of (rF _ _ hRb)
            · exact rN _ _ hRb
    refine ⟨p, ts.map V.ref, rfl, ?_, key ts ns ys vs g2 he (fun b hb => hb) pr⟩
    cases t
    · exact rF _ _ hRp
    · exact rN _ _ hRp
  · exact J.facts f hf
end
end PB

namespace PB
open PySem PySem.Spec PyProof.Rows L2
/-! ### repr of things that may hold dicts: no thing lies where the modules lie -/
def SMd (h : Heap) : Prop := ∃ o, h.get? sysModules = some o ∧ o.cls = .type "dict"
section
variable {X : Cx} {pins : List (Addr × Obj)} {σ : L2.St} {H : Hp} {s : Shared}
theorem sm_ne (I : Inv X pins σ H s) (SM : SMd X.base) {a : Addr} {o : Obj} {c : String} (h : s.heap.get? a = some o) (hc : o.cls = .type c) (hn : c ≠ "dict") : sysModules ≠ a := fun e => by
  obtain ⟨p, h1, h2⟩ := SM
  rw [← e, I.bk _ _ h1] at h
  cases h
  rw [h2] at hc
  cases hc
  exact hn rfl
theorem dL_len : ∀ (xs : List Th), (Th.dL xs).length = xs.length
  | [] => rfl
  | _ :: xs => congrArg Nat.succ (dL_len xs)
theorem rpL_len {S : Lk} : ∀ {xs : List Th} {vs : List V}, Th.rpL S xs vs → vs.length = xs.length
  | [], _, h => by cases h; rfl
  | x :: xs, _, ⟨v, ws, e, _, r⟩ => by
    subst e
    exact congrArg Nat.succ (rpL_len r)
theorem showKv : ∀ {ks ds : List PyData}, ks.length = ds.length → PyData.showableKv (ks.zip ds) = true → PyData.showableAll ds = true
  | [], [], _, _ => by rw [PyData.showableAll]
  | [], _ :: _, h, _ => by cases h
  | _ :: _, [], h, _ => by cases h
  | k :: ks, d :: ds, h, p => by
    rw [List.zip_cons_cons, PyData.showableKv, Bool.and_eq_true, Bool.and_eq_true] at p
    rw [PyData.showableAll, p.1.2, showKv (Nat.succ.inj h) p.2]
    rfl
theorem pairs_reads {P : Program} {w : World} {h : Heap} : ∀ {es : List DictEntry} {vs : List (Key × Value)} {ks : List Int} {ws : List V}, ks.length = ws.length → Pairs (mixKind P w) es vs → KV (dK ks ws) vs →
    ReadsAll h (es.map (·.key)) (ks.map PyData.int) [] ∧ Vals ws (es.map (·.val))
  | [], _, ks, ws, l, .nil, r => by
    cases ks with
    | nil =>
      cases ws with
      | nil => exact ⟨.nil, .nil⟩
      | cons _ _ => cases l
    | cons p ps =>
      cases ws with
      | nil => cases l
      | cons _ _ => cases r
  | e :: es, _, ks, ws, l, .cons k1 k2 t, r => by
    cases ks with
    | nil => cases r
    | cons p ps =>
      cases ws with
      | nil => cases l
      | cons y ys =>
      cases r with
      | cons r1 r2 =>
        obtain ⟨g1, g2⟩ := pairs_reads (Nat.succ.inj l) t r2
        obtain ⟨q1, q2⟩ := r1
        have hk : ∃ i, e.key = Value.int p i := by
          rw [← q1] at k1
          rcases keyIs_shape (show keyIs (Sum.inl p) e.key = true from k1) with ⟨i, u, e1, e2⟩ | ⟨x, u, e1, e2⟩
          · cases e1
            exact ⟨u, e2⟩
          · cases e1
        obtain ⟨i, hk⟩ := hk
        rw [List.map_cons, List.map_cons, List.map_cons]
        refine ⟨?_, ?_⟩
        · rw [hk]
          exact ReadsAll.cons (as := []) (Reads.int _ _) g1
        · rw [k2]
          exact .cons q2 g2
mutual
theorem Th.reads (I : Inv X pins σ H s) (SM : SMd X.base) : ∀ (x : Th) (v : V) (u : Value), x.d.showable = true → Th.rp (lkA X.K H) x v → RelV v u → ∃ as, Reads s.heap u x.d as ∧ sysModules ∉ as
  | .int i, _, _, _, h, r => by
    cases h
    obtain ⟨t, rfl⟩ := r
    exact ⟨_, Reads.int i t, by simp⟩
  | .bl b, _, _, _, h, r => by
    cases h
    cases r
    exact ⟨_, Reads.bool b, by simp⟩
  | .non, _, _, _, h, r => by
    cases h
    cases r
    exact ⟨_, Reads.none, by simp⟩
  | .str y, _, _, _, h, r => by
    cases h
    obtain ⟨t, rfl⟩ := r
    exact ⟨_, Reads.str y t, by simp⟩
  | .lst xs, _, _, p, ⟨a, vs, e, h, q⟩, r => by
    subst e
    cases r
    obtain ⟨its, rv, ⟨o, n, ho, hc, _, hd⟩, _⟩ := I.list (SqL.of h)
    obtain ⟨as, hr, hs⟩ := Th.readsL I SM xs vs its (by rw [Th.d, PyData.showable] at p; exact p) q rv
    refine ⟨_, Reads.list ho hc hd hr, fun hm => ?_⟩
    rcases List.mem_cons.mp hm with hm | hm
    · exact sm_ne I SM ho hc (by decide) hm
    · exact hs hm
  | .tup xs, _, _, p, ⟨a, vs, e, h, q⟩, r => by
    subst e
    cases r
    obtain ⟨its, rv, ⟨o, ho, hc, n, hd⟩, _⟩ := I.tuple h
    obtain ⟨as, hr, hs⟩ := Th.readsL I SM xs vs its (by rw [Th.d, PyData.showable] at p; exact p) q rv
    exact ⟨_, Reads.tuple ho hc hd hr, hs⟩
  | .dic ks xs, _, _, p, ⟨a, ws, e, l, h, q⟩, r => by
    subst e
    cases r
    obtain ⟨_, hm, vs, kv, o, es, ep, ho, hx, hd, _, hp, _⟩ := dk_of I.hok (show H a = some (.dK _) from h)
    obtain ⟨g1, g2⟩ := pairs_reads (h := s.heap) (by rw [l, rpL_len q]) hp kv
    rw [Th.d, PyData.showable] at p
    obtain ⟨bs, g3, n3⟩ := Th.readsL I SM xs ws _ (showKv (by rw [List.length_map, dL_len, l]) p) q g2
    refine ⟨a :: [] ++ bs, by rw [Th.d]; exact Reads.dict ho hx.1 hd (by rw [List.map_fst_zip (by rw [List.length_map, dL_len, l]; exact Nat.le_refl _)]; exact g1) (by rw [List.map_snd_zip (by rw [List.length_map, dL_len, l]; exact Nat.le_refl _)]; exact g3), fun hm2 => ?_⟩
    have : sysModules = a ∨ sysModules ∈ bs := by simpa using hm2
    rcases this with this | this
    · rw [← this] at hm
      simp at hm
    · exact n3 this
  | .exc, _, _, p, _, _ => by
    rw [Th.d, PyData.showable, decide_eq_true_eq] at p
    exact absurd p (by decide +kernel)
theorem Th.readsL (I : Inv X pins σ H s) (SM : SMd X.base) : ∀ (xs : List Th) (vs : List V) (us : List Value), PyData.showableAll (Th.dL xs) = true → Th.rpL (lkA X.K H) xs vs → Vals vs us → ∃ as, ReadsAll s.heap us (Th.dL xs) as ∧ sysModules ∉ as
  | [], _, _, _, h, r => by
    cases h
    cases r
    exact ⟨_, ReadsAll.nil, by simp⟩
  | x :: xs, _, _, p, ⟨v, ws, e, h1, h2⟩, r => by
    rw [Th.dL, PyData.showableAll] at p
    have p2 := Bool.and_eq_true_iff.mp p
    subst e
    cases r with
    | cons r1 r2 =>
      obtain ⟨as, q1, n1⟩ := Th.reads I SM x _ _ p2.1 h1 r1
      obtain ⟨bs, q2, n2⟩ := Th.readsL I SM xs _ _ p2.2 h2 r2
      refine ⟨_, ReadsAll.cons q1 q2, fun hm => ?_⟩
      rcases List.mem_append.mp hm with hm | hm
      · exact n1 hm
      · exact n2 hm
end
end
/-- data that may hold dicts -/
class RpU (α : Type) [Rp α] where
  d : α → PyData
  rd : ∀ {X : Cx} {pins : List (Addr × Obj)} {σ : L2.St} {H : Hp} {s : Shared} {x : α} {v : V} {u : Value}, (d x).showable = true → Inv X pins σ H s → SMd X.base → Rp.rep (lkA X.K H) x v → RelV v u → ∃ as, Reads s.heap u (d x) as ∧ sysModules ∉ as
instance : RpU Th := ⟨Th.d, fun p I SM h r => Th.reads I SM _ _ _ p h r⟩
section
variable {α : Type} [Rp α] [RpU α]
theorem readsU {X : Cx} {pins : List (Addr × Obj)} {σ : L2.St} {H : Hp} {s : Shared} (I : Inv X pins σ H s) (SM : SMd X.base) : ∀ (xs : List α) (vs : List V) (us : List Value), PyData.showableAll (xs.map RpU.d) = true → All2 (Rp.rep (lkA X.K H)) xs vs → Vals vs us → ∃ as, ReadsAll s.heap us (xs.map RpU.d) as ∧ sysModules ∉ as
  | [], [], _, _, h, r => by
    cases r
    exact ⟨_, ReadsAll.nil, by simp⟩
  | [], _ :: _, _, _, h, _ => h.elim
  | _ :: _, [], _, _, h, _ => h.elim
  | x :: xs, v :: vs, _, p, h, r => by
    rw [List.map_cons, PyData.showableAll] at p
    have p2 := Bool.and_eq_true_iff.mp p
    cases r with
    | cons r1 r2 =>
      obtain ⟨as, q1, n1⟩ := RpU.rd p2.1 I SM h.1 r1
      obtain ⟨bs, q2, n2⟩ := readsU I SM xs vs _ p2.2 h.2 r2
      refine ⟨_, ReadsAll.cons q1 q2, fun hm => ?_⟩
      rcases List.mem_append.mp hm with hm | hm
      · exact n1 hm
      · exact n2 hm
instance : RpU (List α) := ⟨fun xs => .list (xs.map RpU.d), fun {X pins σ H s x v u} p I SM ⟨a, vs, e, h, q⟩ r => by
  subst e
  cases r
  obtain ⟨its, rv, ⟨o, n, ho, hc, _, hd⟩, _⟩ := I.list (SqL.of h)
  obtain ⟨as, hr, hs⟩ := readsU I SM x vs its (by rw [PyData.showable] at p; exact p) q rv
  refine ⟨_, Reads.list ho hc hd hr, fun hm => ?_⟩
  rcases List.mem_cons.mp hm with hm | hm
  · exact sm_ne I SM ho hc (by decide) hm
  · exact hs hm⟩
end
/-- a value that reads as data, wherever -/
def DqS (K : PySem.W.Frag) (H : Hp) (v : V) (d : PyData) : Prop := ∀ {X : Cx} {pins : List (Addr × Obj)} {σ : L2.St} {s : Shared} {u : Value}, X.K = K → Inv X pins σ H s → SMd X.base → RelV v u → ∃ as, Reads s.heap u d as ∧ sysModules ∉ as
def rReprU (K : PySem.W.Frag) : List V → Hp → VK → Prop := fun xs H Q => ∃ (x : V) (d : PyData), xs = [x] ∧ DqS K H x d ∧ d.showable = true ∧ d.depth ≤ 60 ∧ d.shown.length ≤ sizeLine ∧ Q (.str d.shown) H
theorem call_reprU {X : Cx} (hgd : X.A.guards = some []) (hu : X.A.units + 64 < cLine) (SM : SMd X.base) : CallR X (.builtin "repr") (rReprU X.K) := by
  intro pins s σ H xs us Q I r h
  obtain ⟨x, d, rfl, hd, hs, hdp, hz, q⟩ := h
  obtain ⟨u, rfl, rx⟩ := vals1 r
  obtain ⟨as, rd, hsm⟩ := hd rfl I SM rx
  have key : ∀ a, u = .ref a → wpAny (model X.prog X.w) X.A (call (.builtin "repr") [u]) (EP X pins σ Q) X.xe s := fun a ea => by
    subst ea
    exact repr_of_reads' rd hs (fun _ => hsm) hgd (by omega) (fun b o e => e)
      (fun h' u tk hk => ⟨.str d.shown, H, I.kept hk, ⟨_, rfl⟩, q⟩) hz
  cases rd with
  | none => exact PySem.P.repr_of_none ⟨.str _, H, I.tok _, ⟨_, rfl⟩, q⟩
  | bool b =>
    exact PySem.P.repr_of_bool ⟨.str _, H, I.tok _, ⟨_, rfl⟩, by
      rw [PyData.shown] at q
      cases b <;> exact q⟩
  | int i t =>
    have hi : i.natAbs.log2 < 1920 := by simpa [PyData.showable] using hs
    exact PySem.P.repr_of_int hi ⟨.str _, H, I.tok _, ⟨_, rfl⟩, q⟩
  | str y t => exact PySem.P.repr_of_str ⟨.str _, H, I.tok _, ⟨_, rfl⟩, q⟩ hz
  | list => exact key _ rfl
  | tuple => exact key _ rfl
  | dict => exact key _ rfl
section
variable {K : PySem.W.Frag} {B H : Hp} {ctx : List Fact} {L : List Own} {α : Type} [Rp α] [RpU α] {x : α} {v : V} {Q : VK}
def reprU (x : α) : Option PySem.Str := if (RpU.d x).showable = true ∧ (RpU.d x).depth ≤ 60 ∧ (RpU.d x).shown.length ≤ sizeLine then some (RpU.d x).shown else none
theorem w_reprU {s : PySem.Str} (W : Wd K B ctx L H) (h : Ar K ctx L x v) (e : reprU x = some s) (k : Q (.str s) H) : rReprU K [v] H Q := by
  obtain ⟨N, F, W⟩ := W
  obtain ⟨⟨s1, s2, s3⟩, rfl⟩ := guardE e
  have hr := h B H N F W
  exact ⟨v, _, rfl, fun {X pins σ s u} eK I SM r => by subst eK; exact RpU.rd s1 I SM hr r, s1, s2, s3, k⟩
end
/-! ### dict displays -/
section
variable {K : PySem.W.Frag} {B H N F : Hp} {ctx : List Fact} {L : List Own} {Q : VK} {σ : L2.St} {p : Addr} {kvs : List (Key × V)} {f : Fact}
/-- a new dict, never changed -/
theorem Wd.newD (W : WdI K B ctx L H N F) (hp : H p = Option.none) (t : Bool) (h : ∀ N' F', Same N N' → Same F F' → (reg t K N' F').d p kvs → f.P K N' F') : Wd K B (f :: ctx) L (upd H p (.dK kvs)) := by
  have hF : F p = Option.none := W.fH.free hp
  have hN : N p = Option.none := W.nF.free hF
  have hB : B p = Option.none := W.bF.free hF
  have sN : Same N (upd N p (.dK kvs)) := fun b u e => by
    rw [upd_ne (ne_of_none e hN)]
    exact e
  have sF : Same F (upd F p (.dK kvs)) := fun b u e => by
    rw [upd_ne (ne_of_none e hF)]
    exact e
  refine ⟨upd N p (.dK kvs), upd F p (.dK kvs), W.bF.trans sF, fun b u e => ?_, fun b u e => ?_, fun b u e => ?_, fun f hf => ?_, fun o ho => ?_, fun o ho => ?_, W.nd⟩
  · by_cases h : b = p
    · rw [h, upd_same] at e ⊢
      exact e
    · rw [upd_ne h] at e ⊢
      exact W.nF b u e
  · by_cases h : b = p
    · rw [h]
      exact hB
    · rw [upd_ne h] at e
      exact W.sep b u e
  · by_cases h : b = p
    · rw [h, upd_same] at e ⊢
      exact e
    · rw [upd_ne h] at e ⊢
      exact W.fH b u e
  · rcases List.mem_cons.mp hf with rfl | hf
    · refine h _ _ sN sF ?_
      cases t
      · exact upd_same
      · exact upd_same
    · exact f.mono sN sF (W.facts f hf)
  · obtain ⟨u, e, r⟩ := W.at_ o ho
    exact ⟨u, by rw [upd_ne (ne_of_none e hp)]; exact e, o.mono sN sF r⟩
  · obtain ⟨u, e, r⟩ := W.at_ o ho
    rw [upd_ne (ne_of_none e hp)]
    exact W.off o ho
/-- a new object, never changed -/
theorem Wd.newX {u : HO} (W : WdI K B ctx L H N F) (hp : H p = Option.none) (t : Bool) (h : ∀ N' F', Same N N' → Same F F' → (bif t then N' p = some u else F' p = some u) → f.P K N' F') : Wd K B (f :: ctx) L (upd H p u) := by
  have hF : F p = Option.none := W.fH.free hp
  have hN : N p = Option.none := W.nF.free hF
  have hB : B p = Option.none := W.bF.free hF
  have sN : Same N (upd N p u) := fun b u' e => by
    rw [upd_ne (ne_of_none e hN)]
    exact e
  have sF : Same F (upd F p u) := fun b u' e => by
    rw [upd_ne (ne_of_none e hF)]
    exact e
  refine ⟨upd N p u, upd F p u, W.bF.trans sF, fun b u' e => ?_, fun b u' e => ?_, fun b u' e => ?_, fun f hf => ?_, fun o ho => ?_, fun o ho => ?_, W.nd⟩
  · by_cases h : b = p
    · rw [h, upd_same] at e ⊢
      exact e
    · rw [upd_ne h] at e ⊢
      exact W.nF b u' e
  · by_cases h : b = p
    · rw [h]
      exact hB
    · rw [upd_ne h] at e
      exact W.sep b u' e
  · by_cases h : b = p
    · rw [h, upd_same] at e ⊢
      exact e
    · rw [upd_ne h] at e ⊢
      exact W.fH b u' e
  · rcases List.mem_cons.mp hf with rfl | hf
    · refine h _ _ sN sF ?_
      cases t
      · exact upd_same
      · exact upd_same
    · exact f.mono sN sF (W.facts f hf)
  · obtain ⟨w, e, r⟩ := W.at_ o ho
    exact ⟨w, by rw [upd_ne (ne_of_none e hp)]; exact e, o.mono sN sF r⟩
  · obtain ⟨w, e, r⟩ := W.at_ o ho
    rw [upd_ne (ne_of_none e hp)]
    exact W.off o ho
/-- ValueError("..") -/
theorem w_exc (W : Wd K B ctx L H) (k : ∀ p H', Wd K B (fc true Th.exc (.ref p) :: ctx) L H' → Q (.ref p) H') : ∀ p, H p = Option.none → Q (.ref p) (upd H p (ExO (.type "ValueError") p)) := fun p hp => by
  obtain ⟨N, F, W⟩ := W
  exact k p _ (Wd.newX W hp true fun N' F' _ _ q => ⟨p, rfl, q⟩)
/-- {} -/
theorem w_dnew (W : Wd K B ctx L H) (k : ∀ p H', Wd K B (fc true (Th.dic [] []) (.ref p) :: ctx) L H' → Q (.ref p) H') : tDNewK σ H Q := fun p hp => by
  obtain ⟨N, F, W⟩ := W
  exact k p _ (Wd.newD (kvs := []) W hp true fun N' F' _ _ q => ⟨p, [], rfl, rfl, q, rfl⟩)
theorem upd2 {u u' : HO} : upd (upd H p u) p u' = upd H p u' := by
  funext b
  by_cases h : b = p
  · rw [h, upd_same, upd_same]
  · rw [upd_ne h, upd_ne h, upd_ne h]
/-- {i: j} -/
theorem w_disp1 {i j : Int} (W : Wd K B ctx L H) (k : ∀ p H', Wd K B (fc true (Th.dic [i] [.int j]) (.ref p) :: ctx) L H' → Q (.ref p) H') : tDisp [(tC (.int i), tC (.int j))] σ H Q := fun p hp => by
  obtain ⟨N, F, W⟩ := W
  refine ⟨upd_same, [(Sum.inl i, .int j)], rfl, by show 1 ≤ 15; decide, ?_⟩
  rw [upd2]
  exact k p _ (Wd.newD (kvs := [(Sum.inl i, .int j)]) W hp true fun N' F' _ _ q => ⟨p, [.int j], rfl, rfl, q, _, _, rfl, rfl, rfl⟩)
end
/-! ### a thing and a whole number; a tuple of none -/
def Th.num : Th → Option Int
  | .int i => some i
  | .bl b => some (if b = true then 1 else 0)
  | _ => none
def rAddTh : R2 := fun x y H Q => (∃ b j, x = .bl b ∧ y = .int j ∧ Q (.int ((if b = true then (1 : Int) else 0) + j)) H) ∨ rI0 (fun i j => .int (i + j)) x y H Q
theorem op_addTh {X : Cx} : OpR X (binaryOp .Add) rAddTh := fun pins s σ H x y v u Q I rx ry h => by
  rcases h with ⟨b, j, rfl, rfl, q⟩ | h
  · cases rx
    obtain ⟨t, rfl⟩ := ry
    exact PySem.IntBool.add_bool_int ⟨.int _, H, I.tok _, ⟨_, rfl⟩, q⟩
  · exact op_add pins s σ H x y v u Q I rx ry h
structure T0 where
  deriving DecidableEq
instance : Rp T0 := ⟨fun S _ v => ∃ a, v = .ref a ∧ S.t a [], fun s ⟨a, e, h⟩ => ⟨a, e, s.t _ _ h⟩⟩
instance : Co T0 Th := ⟨fun _ => .tup [], fun ⟨a, e, h⟩ => ⟨a, [], e, h, rfl⟩⟩
section
variable {K : PySem.W.Frag} {B H : Hp} {ctx : List Fact} {L : List Own} {Q : VK} {t : Bool} {x : Th} {v : V} {i j : Int}
theorem w_addTh (W : Wd K B ctx L H) (h : Kn K ctx t x v) (e : Th.num x = some i) (k : Q (.int (i + j)) H) : rAddTh v (.int j) H Q := by
  obtain ⟨N, F, W⟩ := W
  have r := h N F W.nF W.facts
  cases x with
  | int n =>
    cases (show v = .int n from r)
    cases e
    exact .inr ⟨_, _, rfl, rfl, k⟩
  | bl b =>
    cases (show v = .bl b from r)
    cases e
    exact .inl ⟨b, j, rfl, rfl, k⟩
  | _ => cases e
theorem w_tup1 {α : Type} [Rp α] {y : α} {u : V} (W : Wd K B ctx L H) (h : Kn K ctx t y u) (k : ∀ p H', Wd K B (fc t (T1.mk y) (.ref p) :: ctx) L H' → Q (.ref p) H') : rTup [u] H Q := by
  obtain ⟨N, F, W⟩ := W
  exact ⟨(by show (1 : Nat) ≤ sizeLine; decide), fun p hp => k p _ (Wd.newT W hp t fun N' F' s s' q => ⟨p, u, rfl, q, Rp.mono (reg_mono s s') (h N F W.nF W.facts)⟩)⟩
theorem w_tup0 (W : Wd K B ctx L H) (k : ∀ p H', Wd K B (fc t T0.mk (.ref p) :: ctx) L H' → Q (.ref p) H') : rTup [] H Q := by
  obtain ⟨N, F, W⟩ := W
  exact ⟨(by show (0 : Nat) ≤ sizeLine; decide), fun p hp => k p _ (Wd.newT W hp t fun N' F' s s' q => ⟨p, rfl, q⟩)⟩
end
/-! ### tuple(xs), a thing -/
section
variable {K : PySem.W.Frag} {B H : Hp} {ctx : List Fact} {L : List Own} {Q : VK} {t : Bool} {α : Type} [Rp α] [Co α Th] {xs : List α} {v : V}
def rTupOf (K : PySem.W.Frag) : List V → Hp → VK → Prop := fun xs H Q => ∃ p ys, xs = [.ref p] ∧ ((SqL K H p ys ∧ ∀ l, H l = none → Q (.ref l) (upd H l (.tup ys))) ∨ (SqT K H p ys ∧ Q (.ref p) H))
theorem call_tupOf {X : Cx} : CallR X (.type "tuple") (rTupOf X.K) := call_tuple_of
theorem w_tupOf (W : Wd K B ctx L H) (h : Ls K ctx L t xs v) (k : ∀ p H', Wd K B (fc t (Th.tup (xs.map Co.f)) (.ref p) :: ctx) L H' → Q (.ref p) H') : rTupOf K [v] H Q := by
  obtain ⟨N, F, W⟩ := W
  obtain ⟨a, vs, rfl, h1, h2⟩ := h B H N F W
  exact ⟨a, vs, rfl, .inl ⟨h1, fun l hl => k l _ (Wd.newT W hl t fun N' F' s s' q => ⟨l, vs, rfl, q, rpL_all.mpr (all2_map (h2.mono fun _ _ r => Rp.mono (reg_mono s s') r))⟩)⟩⟩
end
/-! ### the law's own call, where the modules' dict stands -/
theorem law_callS {P : Program} {w : World} {K : PySem.W.Frag} {mg mb : Str → Option Value} {k : Nat}
    {fa a : Addr} {fd : FuncData} {x : Str} {sp : Sp} {z : Shared} {vs : List Value} {ns : List Int}
    (KX : K.In z.heap) (hns : z.heap.Ns mainGlobals mg) (hb : z.heap.Ns builtinsNs mb)
    (hbb : ∀ x : Str, x ≠ "__name__" → mb x = bootBuiltins x) (hlim : z.heap.NoLimit) (hsm : SMd z.heap) (hg : z.gens = #[])
    (ha : z.heap.get? a = some { cls := .type "list", data := .seq vs.toArray })
    (hi : IntsAre vs ns) (hl : ns.length ≤ sizeLine) (hr : Room k callerA)
    (F : ∀ base : Heap, K.In base → base.Ns mainGlobals mg → SMd base → FnG P w K mg base k fa fd [x] sp)
    (hbind : ∀ (s : Shared) (u : Value), BindsTo s fd ⟨[u], []⟩ [(x, u)])
    (hsp : ∀ H : Hp, SqL K H a (ns.map V.int) →
      sp [.ref a] H (fun v _ => v = .bl true) fun _ _ _ => False) :
    codeAny (model P w) callerA (.call (.ref fa) ⟨[.ref a], []⟩)
      (fun r s' => r = .ok (.ret (.bool true)) ∧ OldK z.heap s'.heap ∧ s'.os = z.os ∧ AllBare s'.gens) z := by
  have rv := vals_ints hi
  have lenV := hi.length
  have core : ∀ H : Hp, Only H → SqL K H a (ns.map V.int) → HOk P w H z.heap →
      (∀ b, H b ≠ none → b = a) → (H a ≠ none → K.lookup a = none) →
      codeAny (model P w) callerA (.call (.ref fa) ⟨[.ref a], []⟩)
        (fun r s' => r = .ok (.ret (.bool true)) ∧ OldK z.heap s'.heap ∧ s'.os = z.os ∧ AllBare s'.gens) z := by
    intro H hO hS hok hA hK
    have noA : ∀ {b : Addr} {o : Obj} {es : Array DictEntry} {ep : Nat}, z.heap.get? b = some o →
        o.data = .dict es ep → H b = none := fun {b o es ep} e d => by
      cases q : H b with
      | none => rfl
      | some u =>
        obtain rfl : b = a := hA b (by simp [q])
        rw [ha] at e
        cases e
        cases (show Data.seq vs.toArray _ = Data.dict es ep from d)
    have nsK : ∀ {b : Addr} {m : Str → Option Value}, z.heap.Ns b m → (hidT z.heap H).Ns b m :=
      fun {b m} ⟨o, es, ep, e, d, r⟩ => ⟨o, es, ep, hidT_get e (noA e d), d, r⟩
    have hKb : K.In (hidT z.heap H) := fun b o e => hidT_get (KX b o e) (by
      cases q : H b with
      | none => rfl
      | some u =>
        obtain rfl : b = a := hA b (by simp [q])
        rw [hK (by simp [q])] at e
        cases e)
    have hSb : SMd (hidT z.heap H) := by
      obtain ⟨o, h1, h2⟩ := hsm
      refine ⟨o, hidT_get h1 ?_, h2⟩
      cases q : H sysModules with
      | none => rfl
      | some u =>
        have e : sysModules = a := hA sysModules (by simp [q])
        rw [← e] at ha
        rw [ha] at h1
        have h2 : Value.type "list" = Value.type "dict" := by rw [← h2, ← Option.some.inj h1]
        exact absurd h2 (by decide)
    have hM : Mod K mg (hidT z.heap H) :=
      ⟨hKb, nsK hns, ⟨mb, nsK hb, hbb⟩, let ⟨mc, h1, h2⟩ := hlim; ⟨mc, nsK h1, h2⟩⟩
    have e0 : Env0 P w K mg (hidT z.heap H) callerA [] z H :=
      ⟨rfl, hM, fun b o e => of_hidT e, Nat.le_of_eq (hidT_size _ _), trivial,
        fun b hb => absurd (show b ∈ ([] : List Addr) from hb) (by simp), hok, .of_eq hg⟩
    refine codeAny_mono ((F _ hKb (nsK hns) hSb).run callerA [] z H ⟨[.ref a], []⟩ [.ref a] [.ref a] _ _ hr rfl e0
      (hbind z (.ref a)) (.cons rfl .nil) (hsp H hS)) fun r s' h => ?_
    match r, h with
    | .error e, h =>
      obtain ⟨_, _, _, _, _, _, _, _, _, _, _, _, q⟩ := h
      exact q.elim
    | .ok .next, h => exact h.elim
    | .ok .brk, h => exact h.elim
    | .ok .cont, h => exact h.elim
    | .ok (.ret u), h =>
      obtain ⟨v, H', os, bare, un, hok', r', q⟩ := h
      obtain rfl : v = .bl true := q
      obtain rfl : u = Value.bool true := r'
      refine ⟨rfl, OldK.of_keep fun b o e => ?_, os, bare⟩
      cases q : H b with
      | none =>
        exact un.keep b o e q (fun y => absurd (show b ∈ ([] : List Addr) from y) (by simp)) (by simp)
      | some u =>
        rcases hO b with y | ⟨ob, xs, y⟩
        · rw [q] at y
          cases y
        · obtain ⟨e1, _⟩ := hok b _ y
          obtain ⟨e2, _⟩ := hok' b _ (un.frzs b ob _ y)
          rw [e] at e1
          cases e1
          exact e2
  cases hk : K.lookup a with
  | some o =>
    have e := KX a o hk
    rw [ha] at e
    cases e
    refine core (fun _ => none) (fun _ => .inl rfl) (.inr ⟨_, vs.toArray, _, hk, rfl, rfl, rfl, ?_, by simpa using rv⟩)
      (fun b u q => by cases (show (none : Option HO) = some u from q)) (fun b q => absurd rfl q) fun q => absurd rfl q
    rw [List.size_toArray, lenV]
    exact hl
  | none =>
    let oS : Obj := { cls := .type "list", data := .seq vs.toArray }
    let HS : Hp := fun b => if b = a then some (.frz oS (.lst (ns.map V.int))) else none
    have hS : HS a = some (.frz oS (.lst (ns.map V.int))) := if_pos rfl
    have hN : ∀ b, b ≠ a → HS b = none := fun b hb => if_neg hb
    refine core HS (fun b => ?_) (.inl (.inr ⟨oS, hS⟩)) (fun b u q => ?_) (fun b q => ?_) fun _ => hk
    · by_cases hb : b = a
      · exact .inr ⟨_, _, by rw [hb]; exact hS⟩
      · exact .inl (hN b hb)
    · by_cases hb : b = a
      · subst hb
        rw [hS] at q
        cases q
        exact ⟨ha, by rw [List.length_map]; exact hl, vs, _, rv, ha⟩
      · rw [hN b hb] at q
        cases q
    · by_cases hb : b = a
      · exact hb
      · exact absurd (hN b hb) q

/-- a law's end over a head by facts -/
theorem walk_ofS {l : PySem.W.OpenLaw} {n k : Nat} {q : Program} {loose : List Str}
    {XP : (Str → Option Value) → Heap → Prop} {YP : World → Heap → Prop} {d : DefRec} {x : Str}
    (hn : l.most = some n) (hn2 : n ≤ sizeLine) (hdf : d.params.defaults = []) (hr : Room k callerA)
    (F : ∀ (w : World) (mg : Str → Option Value) (fa : Addr) (h : Heap), SMd h → YP w h → h.Ns mainGlobals mg →
      mg d.name = some (.ref fa) → ∃ (K : PySem.W.Frag) (fd : FuncData) (sp : Sp), K.In h ∧
        (∀ (s : Shared) (u : Value), BindsTo s fd ⟨[u], []⟩ [(x, u)]) ∧
        (∀ (H : Hp) (a : Addr) (ns : List Int), ns.length ≤ n → SqL K H a (ns.map V.int) →
          sp [.ref a] H (fun v _ => v = .bl true) fun _ _ _ => False) ∧
        ∀ base : Heap, K.In base → base.Ns mainGlobals mg → SMd base → FnG l.prog w K mg base k fa fd [x] sp) :
    PySem.W.WalkO q loose XP (fun w h => SMd h ∧ YP w h) l.row.toRowW d [] (fun f vs => PySem.call f vs) := by
  refine Att.attach_call hn hdf fun w s₀ z mg mb fa o pm cd doc a vs ns G Y ho hd hcd hmg hobj hints hlen hg => ?_
  obtain ⟨K, fd, sp, KX, hb, hsp, hF⟩ := F w mg fa _ Y.1 Y.2 G.T.g hmg
  exact law_callS KX G.T.g G.T.b G.T.builtins G.T.nolimit Y.1 hg hobj hints (Nat.le_trans hlen hn2) hr hF hb
    (fun H hS => hsp H a ns hlen hS)

/-! ### the head: the modules' dict stands where it stood -/
def smB (g : Addr → Option Obj) : Bool := match g sysModules with
  | some ⟨.type c, _, _, _⟩ => decide (c = "dict")
  | _ => false
theorem sm_of {h : Heap} (e : smB h.get? = true) : SMd h := by
  unfold smB at e
  split at e
  · next c _ _ _ q => exact ⟨_, q, congrArg Value.type (of_decide_eq_true e)⟩
  · cases e
def hookS (n : Nat) (fa : List He.Fa) (fn : List He.DefD) : PySem.W.Hook where
  α := Bool × He.AlD
  obs := fun s => (smB s.heap.get?, He.obsDG n fa fn s.heap.get?)
  val := fun _ => (true, He.valD fn)
  says := fun _ h => SMd h ∧ ∃ K : PySem.W.Frag, K.In h ∧ He.SaysD fa fn K
  of := fun w s e => ⟨sm_of (congrArg Prod.fst e), (He.hookD n fa fn).of w s (congrArg Prod.snd e)⟩
  keeps := fun w h h' ⟨⟨o, h1, h2⟩, q⟩ k => ⟨⟨o, k _ _ h1, h2⟩, (He.hookD n fa fn).keeps w h h' q k⟩
def obsS (n : Nat) (fa : List He.Fa) (fn : List He.DefD) (g : Addr → Option Obj) : Bool × He.AlD := (smB g, He.obsDG n fa fn g)
theorem obsS_eq {n : Nat} {fa : List He.Fa} {fn : List He.DefD} {g : Addr → Option Obj} {s : Shared} (h : ∀ a, g a = s.heap.get? a) : obsS n fa fn g = (hookS n fa fn).obs s := by
  have e : g = s.heap.get? := funext h
  rw [e] <;> rfl
end PB

namespace PB
open PySem PySem.Spec PyProof.Rows L2
/-! ### dict(enumerate(xs)) -/
def rangeI (i : Int) : Nat → List Int
  | 0 => []
  | n + 1 => i :: rangeI (i + 1) n
theorem rangeI_len : ∀ (n : Nat) (i : Int), (rangeI i n).length = n
  | 0, _ => rfl
  | n + 1, i => congrArg Nat.succ (rangeI_len n (i + 1))
theorem enV_nodup {α : Type} : ∀ (xs : List α) (i : Nat), ((enV i xs).map (·.1)).Nodup ∧ ∀ k ∈ (enV i xs).map (·.1), ∃ j : Nat, i ≤ j ∧ k = Sum.inl (j : Int)
  | [], _ => ⟨List.nodup_nil, fun _ h => by cases h⟩
  | x :: xs, i => by
    obtain ⟨h1, h2⟩ := enV_nodup xs (i + 1)
    refine ⟨List.nodup_cons.mpr ⟨fun hm => ?_, h1⟩, fun k hk => ?_⟩
    · obtain ⟨j, hj, e⟩ := h2 _ hm
      have e2 := Sum.inl.inj e
      omega
    · rcases List.mem_cons.mp hk with e | hk
      · exact ⟨i, Nat.le_refl _, e⟩
      · obtain ⟨j, hj, e⟩ := h2 k hk
        exact ⟨j, by omega, e⟩
def rDE (K : PySem.W.Frag) (x : V) (H : Hp) (Q : VK) : Prop := ∃ (a : Addr) (xs : List V), x = .ref a ∧ SqL K H a xs ∧ ∀ p, H p = none → Q (.ref p) (upd H p (.dK (enV 0 xs)))
def tDE (K : PySem.W.Frag) (te : TE) : TE := fun σ H Q => te σ H fun x H1 => rDE K x H1 Q
theorem boot_dict : bootBuiltins "dict" = some (.type "dict") := by decide +kernel
section
variable {X : Cx} {e : Expr} {te : TE} {p p2 pos pos2 : Pos}
theorem pe_dictEnum (hc : X.calm = true) (hg : Gl X "dict") (hm : X.mg "dict" = none) (hg2 : Gl X "enumerate")
    (hm2 : X.mg "enumerate" = none) (he : PE X e te)
    (hs : starEach [e] X.env = (false, eval e X.env) :: starEach [] X.env := by rfl)
    (hs2 : starEach [.Call (.Name "enumerate" p2) [e] [] pos2] X.env =
      (false, eval (.Call (.Name "enumerate" p2) [e] [] pos2) X.env) :: starEach [] X.env := by rfl) :
    PE X (.Call (.Name "dict" p) [.Call (.Name "enumerate" p2) [e] [] pos2] [] pos) (tDE X.K te) := by
  refine ⟨fun pins s σ H Q I h => ?_⟩
  refine Call_ (ld_blt I hg hm boot_dict (PyProof.Rows.callWith_type1 (args_cons ?_ hs2) hs2))
  refine Call_ (ld_blt I hg2 hm2 boot_enumerate (PyProof.Rows.callWith_type1 (one_arg he I h (fun v s1 x H1 I1 rx q => ?_) hs) hs))
  obtain ⟨a, xs, rfl, hq, q⟩ := q
  obtain rfl : v = .ref a := rx
  obtain ⟨its, rv, pl, hz⟩ := I1.list hq
  have hlen := rv.length
  refine call_enumerate_list pl.isList fun h1 he1 hit1 hsz1 hk1 => ?_
  refine args_nil ?_
  have I2 : Inv X pins σ H1 { s1 with heap := h1 } := I1.kept (t' := s1.toks) hk1
  obtain ⟨ol, hol, rl⟩ := pl.isList
  have ll : a < s1.heap.objs.size := Heap.lt_size hol
  have hn : its.toArray.size = xs.length := by rw [hlen]; simp
  refine PySem.call_dict_pairs (s := { s1 with heap := h1 }) (knd := mixKind X.prog X.w) (kvs := enV 0 its) (PySem.PairArg.enumerate (s1.heap.objs.size + 1) s1.heap.objs.size a (Nat.succ_ne_self _) (Nat.ne_of_lt (Nat.lt_succ_of_lt ll)) (Nat.ne_of_lt ll) its.toArray) (I2.ok.hd hc)
    ⟨⟨_, he1⟩, hit1, ⟨ol, hk1 _ _ hol, rl⟩⟩ ⟨by rw [enV_len]; simp, fun i key v hv => ?_⟩ (by rw [hn]; exact hz) fun h' tk hd' hk => ?_
  · obtain ⟨⟨t, ek⟩, ev⟩ := hv
    refine ⟨Sum.inl (i : Int), ?_, ?_⟩
    · rw [enV_get]
      have ev2 : its[i]? = some v := by simpa using ev
      rw [ev2]
      simp
    · subst ek
      show Value.isInt (i : Int) (.int i t) = true
      simp [Value.isInt]
  · rw [PySem.merged_nil_of_nodup _ (enV_nodup its 0).1] at hd'
    have hmm : (h1.objs.size == sysModules) = false := beq_eq_false_iff_ne.mpr (Nat.ne_of_gt I2.big)
    have hle : s1.heap.objs.size ≤ h1.objs.size := by rw [hsz1]; omega
    have kk : ∀ b o, s1.heap.get? b = some o → h'.get? b = some o := fun b o e =>
      hk b o (fun hm => by
        have lt : b < s1.heap.objs.size := Heap.lt_size e
        simp only [List.mem_cons, List.not_mem_nil, or_false] at hm
        rcases hm with hm | hm
        · exact absurd lt (by rw [hm]; exact Nat.not_lt.mpr (Nat.le_succ _))
        · exact absurd lt (by rw [hm]; exact Nat.lt_irrefl _)) (hk1 b o e)
    exact ⟨.ref h1.objs.size, upd H1 h1.objs.size (.dK (enV 0 xs)), I1.laid (t' := tk) kk hle (show ObjOk X.prog X.w _ _ _ (.dK (enV 0 xs)) from ⟨by rw [enV_len]; exact hz, hmm, enV 0 its, enV_kv xs its 0 rv, hd'⟩), rfl, q _ (I1.hok.fresh hle)⟩
end
theorem enV_dK : ∀ (vs : List V) (i : Nat), enV i vs = dK (rangeI i vs.length) vs
  | [], _ => rfl
  | v :: vs, i => by
    have ih := enV_dK vs (i + 1)
    show _ :: enV (i + 1) vs = _
    rw [ih]
    rfl
theorem w_de {K : PySem.W.Frag} {B H : Hp} {ctx : List Fact} {L : List Own} {t : Bool} {α : Type} [Rp α] [Co α Th] {xs : List α} {v : V} {Q : VK} (W : Wd K B ctx L H) (h : Ls K ctx L t xs v) (k : ∀ p H', Wd K B (fc t (Th.dic (rangeI 0 xs.length) (xs.map Co.f)) (.ref p) :: ctx) L H' → Q (.ref p) H') : rDE K v H Q := by
  obtain ⟨N, F, W⟩ := W
  obtain ⟨a, vs, rfl, h1, h2⟩ := h B H N F W
  refine ⟨a, vs, rfl, h1, fun p hp => k p _ (Wd.newD (kvs := enV 0 vs) W hp t fun N' F' s s' q => ⟨p, vs, rfl, ?_, ?_, rpL_all.mpr (all2_map (h2.mono fun _ _ r => Rp.mono (reg_mono s s') r))⟩)⟩
  · rw [rangeI_len, List.length_map]
  · rw [enV_dK, h2.len] at q
    exact q
theorem i_tDE {K : PySem.W.Frag} {te : TE} {σ : L2.St} {H : Hp} {Q : VK} (h : te σ H fun x H1 => rDE K x H1 Q) : tDE K te σ H Q := h
/-! ### ValueError("..") as a value, its reading by name -/
def tExcV : TE := fun _ H Q => ∀ a, H a = none → Q (.ref a) (upd H a (ExO (.type "ValueError") a))
theorem pe_excV {X : Cx} {x : PySem.Str} {p pos : Pos} {m : PySem.Str} {j : Nat} {p2 : Pos} (hg : Gl X x) (hm : X.mg x = none) (hv : bootBuiltins x = some (.type "ValueError")) (hn : x ≠ "__name__" := by decide) (hdb : (x == ("__debug__" : PySem.Str)) = false := by decide) :
    PE X (.Call (.Name x p) [.Constant (.str m) j p2] [] pos) tExcV := pe_excS exb_ValueError hg hm hv hn hdb
theorem w_excV {K : PySem.W.Frag} {B H : Hp} {ctx : List Fact} {L : List Own} {Q : VK} {σ : L2.St} (W : Wd K B ctx L H) (k : ∀ p H', Wd K B (fc true Th.exc (.ref p) :: ctx) L H' → Q (.ref p) H') : tExcV σ H Q := w_exc W k
end PB

namespace PB
open PySem PySem.Spec PyProof.Rows L2
/-! ### an error that is caught and kept -/
section
variable {X : Cx} {pins : List (Addr × Obj)} {σ : L2.St} {H : Hp} {s : Shared}
theorem Inv.suiteK (I : Inv X pins σ H s) {a : Addr} {oe : Obj} {vs : Array Value} {cls : Value} (ha : s.heap.get? a = some oe) (hz : Zc cls none oe) (hd : oe.data = .fields vs) (na : H a = none) (nL : a ≠ X.env.locals)
    (n0 : X.s_0.heap.get? a = none) (np : ∀ p ∈ X.pn ++ pins, p.1 ≠ a) : Inv (X.suite a (X.pn ++ pins)) [] σ (upd H a (EcO cls a)) s := by
  have ne0 : ∀ b o, X.s_0.heap.get? b = some o → b ≠ a := fun b o e z => by
    rw [z, n0] at e
    cases e
  refine ⟨I.ok.suite _ _, I.os, I.bare, ⟨fun b o e n hb hx => I.base.keep b o e n hb hx, fun b o e n hb hx => I.base.slot b o e n hb hx, fun b o e n hx => ?_, fun b o e hx => I.base.there b o e hx, fun b xs e => ?_, fun b o u e => ?_, fun b ps e => ?_⟩, I.loc, I.cell, ?_, fun x c e => ?_, fun p hp => ?_, ?_, I.len⟩
  · rw [upd_ne (ne0 b o e)]
    exact I.base.free b o e n hx
  · have q := I.base.tups b xs e
    rw [upd_ne (ne_of_none q na)]
    exact q
  · have q := I.base.frzs b o u e
    rw [upd_ne (ne_of_none q na)]
    exact q
  · obtain ⟨more, q⟩ := I.base.tbls b ps e
    exact ⟨more, by rw [upd_ne (ne_of_none q na)]; exact q⟩
  · show upd H a _ X.env.locals = none
    rw [upd_ne nL.symm]
    exact I.free
  · have hc : c ≠ a := fun z => by
      obtain ⟨v, o, ho, hdd⟩ := I.cell x c e
      rw [z, ha] at ho
      cases ho
      rw [hd] at hdd
      cases hdd
    rw [upd_ne hc]
    exact I.freeC x c e
  · rw [List.append_nil] at hp
    obtain ⟨p1, p2, p3, p4, p5⟩ := I.pin p hp
    exact ⟨p1, by rw [upd_ne (np p hp)]; exact p2, p3, p4, p5⟩
  · exact I.hok.laidN (fun _ _ e => e) na (ecO_ok ha hz hd)
theorem Inv.unsuiteK {a : Addr} {pn' : List (Addr × Obj)} (I : Inv (X.suite a (X.pn ++ pins)) pn' σ H s) (ok : X.Ok) : Inv X pins σ H s :=
  ⟨ok, I.os, I.bare, I.base, I.loc, I.cell, I.free, I.freeC, fun p hp => I.pin p (List.mem_append_left _ hp), I.hok, I.len⟩
end
/-- what 'except x as n' wishes, the error kept -/
def wK (K : PySem.W.Frag) (c : Value) (i : Nat) (ts : TS) (D : Ends) : WX := fun cls d σ H => d = none ∧ PySem.W.exmOne K cls c = some true ∧
  ∀ a, H a = none → ts { nx := fun σ' H' => D.nx (σ'.set i none) H', rt := D.rt, bk := fun σ' H' => D.bk (σ'.set i none) H', ct := fun σ' H' => D.ct (σ'.set i none) H' } (σ.set i (some (.ref a))) (upd H a (EcO cls a))
section
variable {X : Cx} {x n : Str} {c : Value} {i : Nat} {body suite : List Stmt} {b₀ : Stmt} {np pos pos' : Pos} {tb : WX → TS} {ts : TS}
theorem ps_try_k (hs : X.stack = X.env :: X.outer) (hf : X.env.frame = some X.env.locals) (hex : X.ex = []) (hN : X.N.Nodup) (hi : X.N[i]? = some n) (hln : X.env.kindOf n = some .local) (hc : Names X x c)
    (hb : ∀ (W : WX) (pn : List (Addr × Obj)) (xe : Value → Shared → Prop), Takes (X.tr pn xe) W → PassesOwn (model X.prog X.w) X.A X.env xe → PSs (X.tr pn xe) body (tb W))
    (hsu : ∀ (a : Addr) (pn : List (Addr × Obj)), PSs (X.suite a pn) (b₀ :: suite) ts) :
    PS X (.Try body [.ExceptHandler (some (.Name x np)) (some n) (b₀ :: suite) pos'] [] [] pos) (fun D σ H => tb (wK X.K c i ts D) D σ H) := by
  refine ⟨fun pins s σ H D I h => ?_⟩
  have ok := I.ok
  have hfr : X.A.frames = some (X.env :: X.outer) := by rw [ok.frames, hs]
  have hloc : Loc X.env.scope n := .inl hln
  refine wpAny_Try_except ?_
  refine wpAny_mono ((hb (wK X.K c i ts D) (X.pn ++ pins) (fun e s₁ => wpAny (model X.prog X.w) X.A (noteFrame e X.env) (fun _ s₂ => wpAny (model X.prog X.w) X.A (setFlight e none) (fun _ s₃ =>
    wpAny (model X.prog X.w) X.A (handleBy e X.env [.ExceptHandler (some (.Name x np)) (some n) (b₀ :: suite) pos']) (SP X pins D) X.xe s₃) X.xe s₂) X.xe s₁) (fun u s' xx => ?_) PassesOwn.looking).run [] s σ H D (I.toTry _) h) (fun f s1 hsp => ?_) (fun e s1 he => he)
  · obtain ⟨a, B, sI, pins', σ', H', cls, d, rfl, J', nb, up, sky, na, os, ag, rfl, hb1, hyes⟩ := xx
    have J : Inv X pins σ' H' sI := J'.ofTry ok
    have sky' : Sky B (X.env :: X.outer) a (Zc cls none) X.env.locals s'.heap := by rw [← hs]; exact sky
    have hBa : B.get? a = none := by
      rcases sky' with h | h | h
      · exact h.2.1
      · exact h.2.1
      · exact h.2.1
    show wpAny (model X.prog X.w) X.A (noteFrame (.ref a) X.env) _ _ _
    refine Sky.land Zc.steady hfr hf sky' fun h3 fl3 up3 => ?_
    have J3 : Inv X pins σ' H' { s' with heap := h3 } := J.landed nb fl3.1 (up.trans up3) os ag
    obtain ⟨oe3, vs3, he3, hz3, hd3⟩ := fl3.there
    have notFr : ∀ {h : Heap} {o : Obj} {vs : Array Value}, h.FunFrames B (X.env :: X.outer) → h.get? a = some o → o.data = .fields vs → a ∉ frs (X.env :: X.outer) := fun {h o vs} ff e dd hm => by
      obtain ⟨_, o', e', hnf⟩ := ff.mem hm
      rw [e] at e'; cases e'
      exact hnf _ dd
    have nfr := notFr fl3.2.2.1 he3 hd3
    have nL : a ≠ X.env.locals := fun z => nfr (List.mem_filterMap.mpr ⟨X.env, List.mem_cons_self, by rw [hf, z]⟩)
    have nsI : sI.heap.get? a = none := by
      cases q : sI.heap.get? a with
      | none => rfl
      | some o =>
        have z := nb a o q (by show a ∉ frs X.stack; rw [hs]; exact nfr)
        rw [hBa] at z
        cases z
    have n0 : X.s_0.heap.get? a = none := by
      cases q : X.s_0.heap.get? a with
      | none => rfl
      | some o =>
        obtain ⟨o', z⟩ := J.base.there a o q (by rw [hex]; exact fun z => nomatch z)
        rw [nsI] at z
        cases z
    have npx : ∀ p ∈ X.pn ++ pins, p.1 ≠ a := fun p hp z => by
      have q := (J.pin p hp).1
      rw [z, nsI] at q
      cases q
    have S3 := Inv.suiteK J3 he3 hz3 hd3 na nL n0 npx
    refine wpAny_handleBy_cons (codeAny_handlers_test ?_) (by intro q; cases q)
    have LT : PySem.W.Looks (model X.prog X.w) h3 (typeOf (.ref a)) cls := fun A Q E s k q => wpAny_typeOf_ref (k _ _ he3) (by rw [hz3.1]; exact q)
    have LM := PySem.W.exm_one (M := model X.prog X.w) (J3.kIn) LT hb1
    have test : ∀ {Q : Value → Shared → Prop} {E : Value → Shared → Prop}, Q c { s' with heap := h3 } → wpAny (model X.prog X.w) (X.A.mark (some (.ref a))) (eval (.Name x np) X.env) Q E { s' with heap := h3 } := fun {Q E} q => by
      obtain ⟨hg, hdbg, hm | ⟨hm, hv, hnn⟩⟩ := hc
      · exact ld_glob (X := X.suite a (X.pn ++ pins)) S3 hg hm q hdbg
      · exact ld_blt (X := X.suite a (X.pn ++ pins)) S3 hg hm hv q hnn hdbg
    refine test (LM.here ?_)
    refine codeAny_handlers_suite_as ?_
    refine HandSPX.lands_againZ fl3 fun h4 fl4 up4 => ?_
    have J4 : Inv X pins σ' H' { s' with heap := h4 } := J.landed nb fl4.1 ((up.trans up3).trans up4) os ag
    obtain ⟨oe4, vs4, he4, hz4, hd4⟩ := fl4.there
    have S4 := Inv.suiteK J4 he4 hz4 hd4 na nL n0 npx
    refine store_ok (X := X.suite a (X.pn ++ pins)) (v := .ref a) S4 hN hi hloc rfl (fun s5 S5 => ?_) (.inr hln)
    refine wpAny_mono ((hsu a (X.pn ++ pins)).run [] s5 _ _ _ S5 (hyes a na)) (fun f s6 hsp => ?_) (fun _ _ z => False.elim z)
    have end_ : ∀ {σ6 : L2.St} {H6 : Hp} {Q : Shared → Prop}, Inv (X.suite a (X.pn ++ pins)) [] σ6 H6 s6 → (∀ s7, Inv X pins (σ6.set i none) H6 s7 → Q s7) →
        wpAny (model X.prog X.w) X.A (do bindName X.env n .none; unbindBehindTheSuite X.env n pos') (fun _ s7 => Q s7) X.xe s6 := fun {σ6 H6 Q} S6 hq => gone_ok (Inv.unsuiteK S6 ok) hN hi hln hq
    cases f with
    | next =>
      obtain ⟨σ6, H6, S6, q6⟩ := hsp
      exact end_ S6 fun s7 J7 => ⟨_, _, J7, q6⟩
    | brk =>
      obtain ⟨σ6, H6, S6, q6⟩ := hsp
      exact end_ S6 fun s7 J7 => ⟨_, _, J7, q6⟩
    | cont =>
      obtain ⟨σ6, H6, S6, q6⟩ := hsp
      exact end_ S6 fun s7 J7 => ⟨_, _, J7, q6⟩
    | ret u =>
      obtain ⟨v6, σ6, H6, S6, r6, q6⟩ := hsp
      exact end_ S6 fun s7 J7 => ⟨_, _, _, J7, r6, q6⟩
  · cases f with
    | next =>
      obtain ⟨σ', H', J', q⟩ := hsp
      exact wpAny_execs_nil ⟨σ', H', J'.ofTry ok, q⟩
    | brk =>
      obtain ⟨σ', H', J', q⟩ := hsp
      exact ⟨σ', H', J'.ofTry ok, q⟩
    | cont =>
      obtain ⟨σ', H', J', q⟩ := hsp
      exact ⟨σ', H', J'.ofTry ok, q⟩
    | ret u =>
      obtain ⟨v, σ', H', J', r, q⟩ := hsp
      exact ⟨v, σ', H', J'.ofTry ok, r, q⟩
end
/-! ### isinstance of it -/
def rIsC (K : PySem.W.Frag) : List V → Hp → VK → Prop := fun xs H Q => ∃ (a D : Addr) (c : V) (u : Value) (b : Bool), xs = [.ref a, c] ∧ H a = some (EcO (.ref D) a) ∧ ExcC K D ∧ (∀ u', RelV c u' → u' = u) ∧ PySem.W.kitOne K (.ref D) u = some b ∧ Q (.bl b) H
def rIsT (K : PySem.W.Frag) : List V → Hp → VK → Prop := fun xs H Q => ∃ (a D p : Addr) (cs : List V) (b : Bool), xs = [.ref a, .ref p] ∧ H a = some (EcO (.ref D) a) ∧ ExcC K D ∧ SqT K H p cs ∧ (∀ us, Vals cs us → PySem.W.kitAny K (.ref D) us = some b) ∧ Q (.bl b) H
theorem inst_of {X : Cx} {pins : List (Addr × Obj)} {σ : L2.St} {H : Hp} {s : Shared} (I : Inv X pins σ H s) {a D : Addr} (ha : H a = some (EcO (.ref D) a)) : ∃ oe, PySem.W.InstAt s.heap a oe D none := by
  obtain ⟨⟨oe, vs, ho, hz, hv⟩, _, _⟩ := I.hok a _ ha
  refine ⟨oe, ?_⟩
  obtain ⟨oc, od, oda, osl⟩ := oe
  obtain ⟨h1, h2⟩ := hz
  dsimp only at h1 h2 hv
  subst h1 h2 hv
  exact ⟨ho, rfl, rfl, trivial⟩
theorem call_isC {X : Cx} : CallR X (.builtin "isinstance") (rIsC X.K) := by
  intro pins s σ H xs us Q I r h
  obtain ⟨a, D, c, u, b, rfl, ha, C, hc, e, q⟩ := h
  obtain ⟨u1, u2, rfl, r1, r2⟩ := vals2 r
  obtain rfl := hc _ r2
  cases (show u1 = Value.ref a from r1)
  obtain ⟨oe, J⟩ := inst_of I ha
  exact PySem.W.kia_one (PySem.W.handS_kitx_exc C.hg C.hk C.hs C.hd C.ha C.hn C.ht C.hm) I.kIn J e (fun z => nomatch z) fun tk => ⟨.bl b, H, I.tok tk, rfl, q⟩
theorem call_isT {X : Cx} : CallR X (.builtin "isinstance") (rIsT X.K) := by
  intro pins s σ H xs us Q I r h
  obtain ⟨a, D, p, cs, b, rfl, ha, C, hp, e, q⟩ := h
  obtain ⟨u1, u2, rfl, r1, r2⟩ := vals2 r
  cases (show u1 = Value.ref a from r1)
  cases (show u2 = Value.ref p from r2)
  obtain ⟨oe, J⟩ := inst_of I ha
  obtain ⟨its, rv, ⟨o, ho, hc, n, hd⟩, _⟩ := I.tuple hp
  obtain ⟨oc, od, oda, osl⟩ := o
  dsimp only at hc hd
  subst hc hd
  exact PySem.W.kia_tup (PySem.W.handS_kitx_exc C.hg C.hk C.hs C.hd C.ha C.hn C.ht C.hm) I.kIn J ho (e _ rv) (fun z => nomatch z) fun tk => ⟨.bl b, H, I.tok tk, rfl, q⟩
def rIsY (K : PySem.W.Frag) : List V → Hp → VK → Prop := fun xs H Q => rIsX K xs H Q ∨ rIsC K xs H Q ∨ rIsT K xs H Q
theorem call_isY {X : Cx} : CallR X (.builtin "isinstance") (rIsY X.K) := fun pins s σ H xs us Q I r h => h.elim (call_isX pins s σ H xs us Q I r) fun h => h.elim (call_isC pins s σ H xs us Q I r) (call_isT pins s σ H xs us Q I r)
/-! ### what the head tells of the errors -/
def eqV (a b : Option (Option Value)) : Bool := decide (a = b)
def excB (K : PySem.W.Frag) (D : Addr) : Bool :=
  decide (PySem.W.findIn K (.ref D) "__getattribute__" = some (some (.builtin "BaseException.__getattribute__"))) && (decide (PySem.W.findIn K (.ref D) "__getattr__" = some none) && (decide (PySem.W.subIn K (.ref D) (.type "BaseException") = some true) && (PySem.W.hasDictIn K D &&
  (decide (PySem.W.findIn K (.ref D) "__class__" = some (some (.builtin "object.__class__"))) && (decide (PySem.W.specialIn K (.builtin "object.__class__") "__get__" = some (some (.builtin "getset_descriptor.__get__"))) && (decide (PySem.W.takesIn K (.builtin "object.__class__") = some true) && decide (PySem.W.mroIn K D (.type "object") = some true)))))))
theorem excB_ok {K : PySem.W.Frag} {D : Addr} (h : excB K D = true) : ExcC K D := by
  unfold excB at h
  simp only [Bool.and_eq_true, decide_eq_true_eq] at h
  obtain ⟨h1, h2, h3, h4, h5, h6, h7, h8⟩ := h
  exact ⟨h1, h2, h3, h4, h5, h6, h7, h8⟩
def erB (K : PySem.W.Frag) (es : List Er) (c : Er) : Bool :=
  (He.Fa.glo c.nm).ok K && ((He.Fa.exc c.nm).ok K && (excB K (He.ga K c.nm) && (decide (PySem.W.kitOne K (.ref (He.ga K c.nm)) (.type "ValueError") = some true) &&
  es.all fun d => decide (PySem.W.kitOne K (.ref (He.ga K c.nm)) (.ref (He.ga K d.nm)) = some (c.sub d)) && decide (PySem.W.exmOne K (.ref (He.ga K c.nm)) (.ref (He.ga K d.nm)) = some (c.sub d)))))
structure Exs (K : PySem.W.Frag) (mg : Str → Option Value) (es : List Er) : Prop where
  glo : ∀ c ∈ es, mg c.nm = some (.ref (He.ga K c.nm))
  exc : ∀ c ∈ es, (He.Fa.exc c.nm).ok K = true
  isi : ∀ c ∈ es, ExcC K (He.ga K c.nm)
  ve : ∀ c ∈ es, PySem.W.kitOne K (.ref (He.ga K c.nm)) (.type "ValueError") = some true
  kit : ∀ c ∈ es, ∀ d ∈ es, PySem.W.kitOne K (.ref (He.ga K c.nm)) (.ref (He.ga K d.nm)) = some (c.sub d)
  exm : ∀ c ∈ es, ∀ d ∈ es, PySem.W.exmOne K (.ref (He.ga K c.nm)) (.ref (He.ga K d.nm)) = some (c.sub d)
theorem exs_ok {K : PySem.W.Frag} {h : Heap} {mg : Str → Option Value} {es : List Er} (X : K.In h) (G : h.Ns mainGlobals mg) (c : (es.all fun c => erB K es c) = true) : Exs K mg es := by
  have key : ∀ c ∈ es, erB K es c = true := fun x hx => List.all_eq_true.mp c x hx
  have k2 : ∀ c ∈ es, (He.Fa.glo c.nm).ok K = true ∧ (He.Fa.exc c.nm).ok K = true ∧ excB K (He.ga K c.nm) = true ∧ PySem.W.kitOne K (.ref (He.ga K c.nm)) (.type "ValueError") = some true ∧ ∀ d ∈ es, PySem.W.kitOne K (.ref (He.ga K c.nm)) (.ref (He.ga K d.nm)) = some (c.sub d) ∧ PySem.W.exmOne K (.ref (He.ga K c.nm)) (.ref (He.ga K d.nm)) = some (c.sub d) := fun x hx => by
    have q := key x hx
    unfold erB at q
    simp only [Bool.and_eq_true, decide_eq_true_eq, List.all_eq_true] at q
    exact q
  exact ⟨fun c hc => He.glo_ok X G (k2 c hc).1, fun c hc => (k2 c hc).2.1, fun c hc => excB_ok (k2 c hc).2.2.1, fun c hc => (k2 c hc).2.2.2.1, fun c hc d hd => ((k2 c hc).2.2.2.2 d hd).1, fun c hc d hd => ((k2 c hc).2.2.2.2 d hd).2⟩
def hookX (n : Nat) (fa : List He.Fa) (fn : List He.DefD) (es : List Er) : PySem.W.Hook where
  α := Bool × Bool × He.AlD
  obs := fun s => (smB s.heap.get?, es.all (fun c => erB (He.frG s.heap.get? (He.asD s.heap.get? n)) es c), He.obsDG n fa fn s.heap.get?)
  val := fun _ => (true, true, He.valD fn)
  says := fun _ h => SMd h ∧ ∃ K : PySem.W.Frag, K.In h ∧ He.SaysD fa fn K ∧ (es.all fun c => erB K es c) = true
  of := fun w s e => ⟨sm_of (congrArg Prod.fst e), He.frG s.heap.get? (He.asD s.heap.get? n), He.frG_in, congrArg (fun z : Bool × Bool × He.AlD => z.2.2) e, congrArg (fun z : Bool × Bool × He.AlD => z.2.1) e⟩
  keeps := fun w h h' ⟨⟨o, h1, h2⟩, K, hK, c⟩ k => ⟨⟨o, k _ _ h1, h2⟩, K, PySem.W.Frag.In.keeps hK k, c⟩
def obsX (n : Nat) (fa : List He.Fa) (fn : List He.DefD) (es : List Er) (g : Addr → Option Obj) : Bool × Bool × He.AlD := (smB g, es.all (fun c => erB (He.frG g (He.asD g n)) es c), He.obsDG n fa fn g)
theorem obsX_eq {n : Nat} {fa : List He.Fa} {fn : List He.DefD} {es : List Er} {g : Addr → Option Obj} {s : Shared} (h : ∀ a, g a = s.heap.get? a) : obsX n fa fn es g = (hookX n fa fn es).obs s := by
  have e : g = s.heap.get? := funext h
  rw [e] <;> rfl
theorem pe_mGXK {X : Cx} {K : PySem.W.Frag} {k : Nat} {m : Str} {ps : List Str} {sp : Sp} {E : L2.St → XK} {o e : Expr} {es : List Expr} {ta : TE} {t : TA} {pos apos : Pos} {pl : Sem Bool} (eK : X.K = K) (G : MFn X.prog X.w K X.mg X.base k m ps sp) (c : Cls K (LvA K)) (hr : Room k X.A) (hgd : X.A.guards = some []) (hx : ∀ σ, PassesAt (L2.CX X.prog X.w) X σ (E σ)) (he : PE X o ta) (ha : PA X (e :: es) t)
    (hst : starEach (e :: es) X.env = (false, eval e X.env) :: starEach es X.env := by rfl) (hpl : (backTo pos (starEach es X.env)).any (·.1) = false := by rfl)
    (ht : eval (.Call (.Attribute o m apos) (e :: es) [] pos) X.env = (do
      let ov ← eval o X.env
      standAt apos.atName
      let (f, first) ← holding [ov] (getMethod ov m pl)
      callWith pos f first (backTo pos (starEach (e :: es) X.env)) (backToKw pos (keywordEach [] X.env))) := by rfl) :
    PE X (.Call (.Attribute o m apos) (e :: es) [] pos) (tMX (LvA K) m sp E ta t) := by
  subst eK
  exact pe_mGX G c hr hgd hx he ha hst hpl ht
theorem pi_listK {X : Cx} {K : PySem.W.Frag} {tg l : Expr} {tl : TE} (e : X.K = K) (hl : PE X l tl) : PI X tg l (iList K tl) := by
  subst e
  exact pi_list hl
/-! ### errors in a world -/
abbrev es6 : List Er := [.cut, .many, .place, .number, .text, .command]
theorem Er.mem6 (c : Er) : c ∈ es6 := by cases c <;> decide
section
variable {K : PySem.W.Frag} {mg : Str → Option Value} {B H : Hp} {ctx : List Fact} {L : List Own} {a : Addr} {c d : Er} {v : V} {Q : VK}
theorem Exs.cut (XX : Exs K mg es6) (c : Er) : PySem.W.exmOne K (.ref (He.ga K c.nm)) (.ref (He.ga K ("CutError" : PySem.Str))) = some true := by
  have h := XX.exm c c.mem6 .cut (Er.mem6 _)
  have e : c.sub .cut = true := by cases c <;> rfl
  rw [e] at h
  exact h
theorem Wd.keepE (W : Wd K B ctx L H) (ha : H a = none) : Wd K B (fc false c (.ref a) :: ctx) L (upd H a (EcO (.ref (He.ga K c.nm)) a)) := by
  obtain ⟨N, F, W⟩ := W
  exact Wd.newX W ha false fun N' F' _ _ q => ⟨a, rfl, q⟩
theorem kn_exc (W : Wd K B ctx L H) (h : Kn K ctx false c v) : ∃ a, v = .ref a ∧ H a = some (EcO (.ref (He.ga K c.nm)) a) := by
  obtain ⟨N, F, W⟩ := W
  obtain ⟨a, e, q⟩ := h N F W.nF W.facts
  exact ⟨a, e, W.fH _ _ q⟩
theorem w_isC (d : Er) (XX : Exs K mg es6) (W : Wd K B ctx L H) (h : Kn K ctx false c v) (k : Q (.bl (c.sub d)) H) : rIsY K [v, .ref (He.ga K d.nm)] H Q := by
  obtain ⟨a, rfl, ha⟩ := kn_exc W h
  exact .inr (.inl ⟨a, _, _, _, _, rfl, ha, XX.isi c c.mem6, (fun u r => r), XX.kit c c.mem6 d d.mem6, k⟩)
theorem w_isVE (XX : Exs K mg es6) (W : Wd K B ctx L H) (h : Kn K ctx false c v) (k : Q (.bl (c.sub .cut)) H) : rIsY K [v, .ty "ValueError"] H Q := by
  obtain ⟨a, rfl, ha⟩ := kn_exc W h
  exact .inr (.inl ⟨a, _, _, _, _, rfl, ha, XX.isi c c.mem6, (fun u r => r), XX.ve c c.mem6, by
    have e : c.sub .cut = true := by cases c <;> rfl
    rw [e] at k
    exact k⟩)
theorem kitAny_sub (XX : Exs K mg es6) (c : Er) : ∀ (ds : List Er) (us : List Value), Vals (ds.map fun d => V.ref (He.ga K d.nm)) us → PySem.W.kitAny K (.ref (He.ga K c.nm)) us = some (ds.any c.sub)
  | [], _, h => by
    cases h
    rfl
  | d :: ds, _, h => by
    cases h with
    | cons h1 h2 =>
      cases h1
      have q := XX.kit c c.mem6 d d.mem6
      unfold PySem.W.kitAny
      rw [q, List.any_cons]
      cases e : c.sub d
      · exact kitAny_sub XX c ds _ h2
      · rfl
/-- (NoMany, NoText): new, held by itself -/
theorem w_tupC (ds : List Er) (hl : ds.length ≤ 100) (W : Wd K B ctx L H) (k : ∀ p H', Wd K B ctx L H' → H' p = some (.tup (ds.map fun d => V.ref (He.ga K d.nm))) → Q (.ref p) H') : rTup (ds.map fun d => V.ref (He.ga K d.nm)) H Q := by
  obtain ⟨N, F, W⟩ := W
  refine ⟨by rw [List.length_map, sizeLine_eq]; omega, fun p hp => k p _ ?_ upd_same⟩
  have W2 := Wd.newT (vs := ds.map fun d => V.ref (He.ga K d.nm)) (f := ⟨fun _ _ _ => True, fun _ _ _ => trivial⟩) W hp false fun N' F' s s' q => trivial
  exact Wd.sub W2 fun f hf => List.mem_cons_of_mem _ hf
theorem w_isT {p : Addr} (ds : List Er) (XX : Exs K mg es6) (W : Wd K B ctx L H) (h : Kn K ctx false c v) (hp : H p = some (.tup (ds.map fun d => V.ref (He.ga K d.nm)))) (k : Q (.bl (ds.any c.sub)) H) : rIsY K [v, .ref p] H Q := by
  obtain ⟨a, rfl, ha⟩ := kn_exc W h
  exact .inr (.inr ⟨a, _, p, _, _, rfl, ha, XX.isi c c.mem6, SqT.of hp, kitAny_sub XX c ds, k⟩)
theorem w_isY {xs : List V} (h : rIsX K xs H Q) : rIsY K xs H Q := .inl h
end
/-! ### things that are tuples -/
def lenTh : Th → Option Int
  | .lst xs => some xs.length
  | .tup xs => some xs.length
  | _ => none
def ixTh : Th → Int → Option Th
  | .lst xs, i => atI xs i
  | .tup xs, i => atI xs i
  | _, _ => none
section
variable {K : PySem.W.Frag} {B H : Hp} {ctx : List Fact} {L : List Own} {t : Bool} {x y : Th} {v : V} {i : Int} {Q : VK}
theorem w_lenTh (W : Wd K B ctx L H) (h : Kn K ctx t x v) (e : lenTh x = some i) (k : Q (.int i) H) : rLen K [v] H Q := by
  obtain ⟨N, F, W⟩ := W
  have r := h N F W.nF W.facts
  cases x with
  | lst xs =>
    cases e
    obtain ⟨a, vs, rfl, h1, h2⟩ := r
    exact i_len (SqL.of (reg_l W.nF W.fH h1)) (by rw [rpL_len h2]; exact k)
  | tup xs =>
    cases e
    obtain ⟨a, vs, rfl, h1, h2⟩ := r
    exact i_lenT ((reg_A W.nF W.fH).t _ _ h1) (by rw [rpL_len h2]; exact k)
  | _ => cases e
theorem w_ixTh (W : Wd K B ctx L H) (h : Kn K ctx t x v) (e : ixTh x i = some y) (k : ∀ u, Wd K B (fc t y u :: ctx) L H → Q u H) : rIx K v (.int i) H Q := by
  obtain ⟨N, F, W⟩ := W
  have r := h N F W.nF W.facts
  cases x with
  | lst xs =>
    obtain ⟨a, vs, rfl, h1, h2⟩ := r
    obtain ⟨u, e2, r⟩ := atI_2 (rpL_all.mp h2) (show atI xs i = some y from e)
    exact i_ixL (SqL.of (reg_l W.nF W.fH h1)) e2 (k u (Wd.fact W r))
  | tup xs =>
    obtain ⟨a, vs, rfl, h1, h2⟩ := r
    obtain ⟨u, e2, r⟩ := atI_2 (rpL_all.mp h2) (show atI xs i = some y from e)
    exact i_ixT ((reg_A W.nF W.fH).t _ _ h1) e2 (k u (Wd.fact W r))
  | _ => cases e
end
/-! ### lists of truths: count, index -/
def rCountB (K : PySem.W.Frag) : V → List V → Hp → VK → Prop := fun x xs H Q => ∃ (a : Addr) (bs : List Bool) (b : Bool), x = V.ref a ∧ xs = [.bl b] ∧ SqL K H a (bs.map V.bl) ∧ Q (.int (bs.count b : Nat)) H
theorem countB_vals {b : Bool} : ∀ {bs : List Bool} {us : List Value}, Vals (bs.map V.bl) us → us.countP (eqU (.bl b)) = bs.count b
  | [], _, h => by
    cases h
    rfl
  | c :: bs, _, h => by
    cases h with
    | cons r h =>
      rw [List.countP_cons, List.count_cons, countB_vals h, eqU_of r rfl]
      rfl
theorem mt_countB {X : Cx} : MtR X "list.count" (rCountB X.K) := by
  intro pins s σ H x xs v us Q I rx rxs h
  obtain ⟨a, bs, b, rfl, rfl, hs, q⟩ := h
  cases rx
  cases rxs with
  | cons ry rt =>
    rename_i uy ut
    cases rt
    obtain ⟨its, rv, ⟨⟨cls, dd, data, sl⟩, n, ho, hc, hdn, hd⟩, hlen⟩ := I.list hs
    simp only at hc hd
    subst hc hd
    refine call_meets PySem.F.slot_list_count ⟨_, ho, rfl⟩ PySem.F.entry_list_count (PySem.F.args_list_count_2 _ _)
      (SeqAt.list_countAt a its.toArray n dd sl uy (eqU (.bl b))) ⟨ho, fun u' hu' => mem_eqAt ry rfl rv (by rw [List.all_map]; exact List.all_eq_true.mpr fun _ _ => rfl) u' (by simpa using hu'), ?_⟩
    refine ⟨.int (bs.count b : Nat), H, I.tok _, ⟨s.toks, ?_⟩, q⟩
    rw [show its.toArray.toList = its from rfl, countB_vals rv]
section
variable {K : PySem.W.Frag} {B H : Hp} {ctx : List Fact} {L : List Own} {t : Bool} {bs : List Bool} {b : Bool} {n : Int} {v : V} {Q : VK}
theorem bools_of {S : Lk} : ∀ {ns : List Bool} {vs : List V}, All2 (Rp.rep S) ns vs → vs = ns.map V.bl
  | [], [], _ => rfl
  | n :: ns, v :: vs, h => by
    rw [show v = .bl n from h.1, bools_of h.2]
    rfl
  | [], _ :: _, h => h.elim
  | _ :: _, [], h => h.elim
theorem w_countB (W : Wd K B ctx L H) (h : Ls K ctx L t bs v) (k : Q (.int (bs.count b : Nat)) H) : rCountB K v [.bl b] H Q := by
  obtain ⟨N, F, W⟩ := W
  obtain ⟨a, vs, rfl, h1, h2⟩ := h B H N F W
  rw [bools_of h2] at h1
  exact ⟨a, bs, b, rfl, rfl, h1, k⟩
def indexBO (bs : List Bool) (b : Bool) : Option Int := (bs.findIdx? (· == b)).map fun i => (i : Int)
theorem w_indexB (W : Wd K B ctx L H) (h : Ls K ctx L t bs v) (e : indexBO bs b = some n) (k : Q (.int n) H) : rIndex K v [.bl b] H Q := by
  obtain ⟨N, F, W⟩ := W
  obtain ⟨a, vs, rfl, h1, h2⟩ := h B H N F W
  rw [bools_of h2] at h1
  unfold indexBO at e
  cases q : bs.findIdx? (· == b) with
  | none => rw [q] at e; cases e
  | some m =>
    rw [q] at e
    cases e
    obtain ⟨hm, e1, e2⟩ := List.findIdx?_eq_some_iff_getElem.mp q
    refine ⟨a, _, _, m, .bl bs[m], rfl, rfl, h1, rfl, by rw [List.all_map]; exact List.all_eq_true.mpr fun _ _ => rfl, by rw [List.getElem?_map, List.getElem?_eq_getElem hm]; rfl, e1, fun i z' hi hz => ?_, k⟩
    rw [List.getElem?_map] at hz
    have hi2 : i < bs.length := by omega
    rw [List.getElem?_eq_getElem hi2] at hz
    cases hz
    have := e2 i hi
    exact Bool.eq_false_iff.mpr this
end
end PB

namespace PB
open PySem PySem.Spec PyProof.Rows L2
/-! ### a list comprehension whose item may let an exception out -/
theorem note_env {e : Value} {v v' : Env} (h : v.frame = v'.frame) : noteFrame e v = noteFrame e v' := by
  unfold noteFrame PySem.frameOf
  rw [h]
theorem passOn_held {M : Model} {A : Around} {E : Value → Shared → Prop} {s : Shared} {B : Heap} {l : List Env} {a L : Addr} {Z : Obj → Prop} {what : String} {env : Env} {Q : Value → Shared → Prop} (hf : env.frame = some L) (hh : HandSPX.HeldZ B l a Z L s.heap)
    (hQ : ∀ h', HandSPX.HeldZ B l a Z L h' → s.heap.UpToSlots h' → E (.ref a) { s with heap := h' }) : wpAny M A (PySem.passOn what (.ref a) env : Sem Value) Q E s := by
  unfold PySem.passOn
  have hh0 := hh
  obtain ⟨f1, f2, f3, oe, vs, T, oT, ts, he, hz, hd, h1, hnT, hTe, hT, hdT, h3⟩ := hh
  refine wpAny_bind (wpAny_field he hd h1 ?_)
  rw [if_neg (show ¬ ((Value.ref T == Value.none) = true) from by simp)]
  rw [hf]
  refine wpAny_bind (HandSPX.setFlight_onZ hh0 fun h' held up => ?_)
  exact wpAny_throw (hQ h' held up)
section
variable {X : Cx} {pins : List (Addr × Obj)} {σ : L2.St} {H : Hp} {s : Shared} {E : XK}
abbrev Cx.blkX (X : Cx) (s : Shared) (H : Hp) (scope : Scope) (cenv : Env) (fp : List Addr) (xe : Value → Shared → Prop) : Cx := { Cx.blk X s H scope cenv fp with xe := xe }
theorem blkX_passes {s3 : Shared} {H3 : Hp} {scope : Scope} {ce : Env} {fp : List Addr} (I3 : Inv X pins σ H3 s3) (tk : Takes X fun cls d _ H => E cls d H) (hs : X.stack = X.env :: X.outer) (hf : X.env.frame = some X.env.locals) (hcf : ce.frame = X.env.frame)
    (hfp : ∀ b ∈ fp, FpOk X pins H3 b ∧ b < s3.heap.objs.size) (hC : s3.heap.objs.size ≤ ce.locals) (σ' : L2.St) :
    PassesAt (L2.CX X.prog X.w) (Cx.blkX X s3 H3 scope ce fp (notedBy (model X.prog X.w) X.A ce (CompFails (model X.prog X.w) X.A X.xe ce))) σ' E := by
  intro pins' H' s e s' I' c
  obtain ⟨a, B, Hx, cls, d, rfl, fl, hok, ub, na, os, ag, hE⟩ := c
  have fl : HandSPX.FlyingZ B X.stack a (Zc cls d) s'.heap := fl
  have ub : UB (frs X.stack) H' Hx s.heap B s'.heap := ub
  have hfr : X.A.frames = some (X.env :: X.outer) := by rw [I3.ok.frames, hs]
  obtain ⟨m, ⟨oC, es, ep, hoC, hdC, rC⟩, _⟩ := I'.loc
  have hoC : s.heap.get? ce.locals = some oC := hoC
  have hHC : H' ce.locals = none := I'.free
  have hCs : ce.locals ∉ frs X.stack := fun hm => by
    obtain ⟨_, o, ho, _⟩ := I3.stack.mem hm
    exact absurd (Nat.lt_of_lt_of_le (Heap.lt_size ho) hC) (Nat.lt_irrefl _)
  have hBC : B.get? ce.locals = some oC := ub.keep _ _ hoC hHC hCs
  have hxC : Hx ce.locals = none := ub.free _ _ hoC hHC
  show wpAny _ _ (noteFrame (.ref a) ce) _ _ _
  rw [note_env hcf]
  refine HandSPX.looks_onZ Zc.steady hfr hf (hs ▸ fl) fun h1 held1 up1 => ?_
  have hC1 : h1.get? ce.locals = some oC := held1.1 _ _ hBC
  refine ⟨m, ⟨oC, es, ep, hC1, hdC, rC⟩, fun h2 m' hn2 sb => ?_⟩
  -- the ground without the block
  have gB' : ∀ b o, (PySem.W.hideAll B [ce.locals]).get? b = some o → B.get? b = some o ∧ b ≠ ce.locals := fun b o e => by
    refine ⟨PySem.W.of_hideAll _ e, fun z => ?_⟩
    rw [z, PySem.W.hideAll_none _ List.mem_cons_self] at e
    cases e
  have gB : ∀ b o, B.get? b = some o → b ≠ ce.locals → (PySem.W.hideAll B [ce.locals]).get? b = some o := fun b o e n => PySem.W.hideAll_get _ e fun hm => n (by simpa using hm)
  have held2 : HandSPX.HeldZ (PySem.W.hideAll B [ce.locals]) (X.env :: X.outer) a (Zc cls d) X.env.locals h2 := by
    obtain ⟨k1, k2, k3, oe, vs, T, oT, ts, he, hz, hd, hv1, hnT, hTe, hT, hdT, hv3⟩ := held1
    have nC : ∀ b, B.get? b = none → b ≠ ce.locals := fun b e z => by rw [z, hBC] at e; cases e
    have hide0 : ∀ b, B.get? b = none → (PySem.W.hideAll B [ce.locals]).get? b = none := fun b e => by
      cases q : (PySem.W.hideAll B [ce.locals]).get? b with
      | none => rfl
      | some o => rw [(gB' b o q).1] at e; cases e
    refine ⟨fun b o e => ?_, hide0 _ k2, ?_, oe, vs, T, oT, ts, (sb.2 _ (nC _ k2)).trans he, hz, hd, hv1, hide0 _ hnT, hTe, (sb.2 _ (nC _ hnT)).trans hT, hdT, hv3⟩
    · obtain ⟨e1, e2⟩ := gB' b o e
      exact (sb.2 b e2).trans (k1 b o e1)
    · have key : ∀ l : List Env, (∀ L ∈ frs l, L ≠ ce.locals) → h1.FunFrames B l → h2.FunFrames (PySem.W.hideAll B [ce.locals]) l := by
        intro l
        induction l with
        | nil => intro _ _; trivial
        | cons env l ih =>
          intro hl hff
          obtain ⟨q1, ⟨L, o, q2, q3, q4, q5⟩, q6⟩ := hff
          have hLm : L ∈ frs (env :: l) := List.mem_filterMap.mpr ⟨env, List.mem_cons_self, q2⟩
          refine ⟨q1, ⟨L, o, q2, hide0 _ q3, (sb.2 L (hl L hLm)).trans q4, q5⟩, ih (fun L' hL' => hl L' ?_) q6⟩
          obtain ⟨e1, he1, he2⟩ := List.mem_filterMap.mp hL'
          exact List.mem_filterMap.mpr ⟨e1, List.mem_cons_of_mem _ he1, he2⟩
      refine key _ (fun L hL z => ?_) k3
      rw [z, ← hs] at hL
      exact hCs hL
  refine passOn_held (hcf.trans hf) held2 fun h3 held3 up3 => ?_
  refine tk _ _ ?_
  -- the state of ours without the exception
  have st : (PySem.W.hideAll B [ce.locals]).StaysIn h3 := held3.1
  obtain ⟨G, g1, g2⟩ := restrict h3 fun b => ((PySem.W.hideAll B [ce.locals]).get? b).isSome || decide (b ∈ frs X.stack)
  have gG : ∀ b o, (PySem.W.hideAll B [ce.locals]).get? b = some o → G.get? b = some o := fun b o e => by
    rw [g1 b (by simp [e])]
    exact st b o e
  have gF : ∀ b, b ∈ frs X.stack → G.get? b = h3.get? b := fun b hb => g1 b (by simp [hb])
  have og : ∀ b o, G.get? b = some o → h3.get? b = some o ∧ (((PySem.W.hideAll B [ce.locals]).get? b).isSome = true ∨ b ∈ frs X.stack) := fun b o e => by
    cases q : (((PySem.W.hideAll B [ce.locals]).get? b).isSome || decide (b ∈ frs X.stack)) with
    | false => rw [g2 b q] at e; cases e
    | true =>
      rw [g1 b q] at e
      exact ⟨e, by simpa [Bool.or_eq_true] using q⟩
  have Ib : L2.Un (frs X.stack) fp H3 H' s3.heap s.heap := I'.base
  have lt3 : ∀ b o, s3.heap.get? b = some o → b ≠ ce.locals := fun b o e z => by
    have := Heap.lt_size e
    rw [z] at this
    exact absurd (Nat.lt_of_lt_of_le this hC) (Nat.lt_irrefl _)
  have slots : ∀ b o, s.heap.get? b = some o → b ∈ frs X.stack → (∀ vs, o.data ≠ .fields vs) → ∃ sl, G.get? b = some { o with slots := sl } := fun b o e hb hnf => by
    obtain ⟨sl, e1⟩ := ub.slot b o e hb
    obtain ⟨sl1, e2⟩ := up1 b _ e1 hnf
    have e3 := (sb.2 b fun z => hCs (z ▸ hb)).trans e2
    obtain ⟨sl3, e4⟩ := up3 b _ e3 hnf
    exact ⟨sl3, by rw [gF b hb]; exact e4⟩
  have hHx : ∀ b o, Hx b = some o → b ≠ ce.locals := fun b o e z => by rw [z, hxC] at e; cases e
  refine ⟨a, PySem.W.hideAll B [ce.locals], { s3 with heap := G, gens := s'.gens, drawn := s'.drawn, toks := s'.toks }, pins, σ, Hx, cls, d, rfl, ?_, fun b o e hb => ?_, Heap.UpToSlots.of_keeps fun b o e => (og b o e).1, .inr (.inr (hs ▸ held3)), na, ?_, ag, hE⟩
  · refine I3.call (ch := fp) ⟨fun b o e n hb hx => ?_, fun b o e n hb hx => ?_, fun b o e n hx => ?_, fun b o e hx => ?_, fun b xs e => ub.tups b xs (Ib.tups b xs e), fun b o u e => ub.frzs b o u (Ib.frzs b o u e), fun b ps e => ?_⟩ (fun b o e => ?_) ag
      fun b hb => ⟨(hfp b hb).1.2.2.2.1, (hfp b hb).1.2.1, (hfp b hb).1.2.2.2.2.1, (hfp b hb).1.2.2.2.2.2⟩
    · exact gG b o (gB b o (ub.keep b o (Ib.keep b o e n hb hx) (Ib.free b o e n hx) hb) (lt3 b o e))
    · obtain ⟨sl, e1⟩ := Ib.slot b o e n hb hx
      obtain ⟨_, o', e', hnf⟩ := I3.stack.mem hb
      rw [e] at e'
      cases e'
      exact slots b { o with slots := sl } e1 hb hnf
    · obtain ⟨sl, e1⟩ := Ib.any e n hx
      exact ub.free b _ e1 (Ib.free b o e n hx)
    · obtain ⟨o', e1⟩ := Ib.there b o e hx
      by_cases hb : b ∈ frs X.stack
      · have hnone : H3 b = none := I3.stkFree b hb
        obtain ⟨sl, e2⟩ := Ib.slot b o e hnone hb hx
        obtain ⟨_, o2, e', hnf⟩ := I3.stack.mem hb
        rw [e] at e'
        cases e'
        obtain ⟨sl3, e3⟩ := slots b _ e2 hb hnf
        exact ⟨_, e3⟩
      · obtain ⟨o2, e2⟩ := ub.there b o' e1 hb
        exact ⟨o2, gG b o2 (gB b o2 e2 (lt3 b o e))⟩
    · obtain ⟨more, e1⟩ := Ib.tbls b ps e
      obtain ⟨more2, e2⟩ := ub.tbls b _ e1
      exact ⟨more ++ more2, by rw [e2, Array.append_assoc]⟩
    · refine (hok b o e).stay (fun c u hc q => gG c u (gB c u q ?_)) (fun _ q => q) fun _ _ q => q
      rcases hc with rfl | hc
      · exact hHx _ _ e
      · exact hHx _ _ hc
  · obtain ⟨e', h⟩ := og b o e
    rcases h with h | h
    · obtain ⟨o', q⟩ := Option.isSome_iff_exists.mp h
      have z := st b o' q
      rw [e'] at z
      cases z
      exact q
    · exact absurd h hb
  · show s'.os = s3.os
    have h1 : s.os = s3.os := I'.os
    rw [← h1]
    exact os
theorem pe_lcX {elt tg iter : Expr} {ifs : List Expr} {scope : Scope} {own : List (Str × Nat)} {pos : Pos} {wi : TI} {g : TG} {tt : TT} {te : TE} (hc : X.calm = true) (hN : X.N.Nodup) (tk : Takes X fun cls d _ H => E cls d H) (hsk : X.stack = X.env :: X.outer) (hfr : X.env.frame = some X.env.locals)
    (hi : PI X tg iter wi) (ok : BlkOk X.N X.env.scope scope own)
    (hg : ∀ (s : Shared) (H : Hp) (C : Addr) (cl : List (Str × Addr)) (fp : List Addr) (xe : Value → Shared → Prop), PG (Cx.blkX X s H scope (compEnvC scope cl C X.env) fp xe) tg g)
    (ht : ∀ (s : Shared) (H : Hp) (C : Addr) (cl : List (Str × Addr)) (fp : List Addr) (xe : Value → Shared → Prop), PTs (Cx.blkX X s H scope (compEnvC scope cl C X.env) fp xe) ifs tt)
    (he : ∀ (s : Shared) (H : Hp) (C : Addr) (cl : List (Str × Addr)) (fp : List Addr) (xe : Value → Shared → Prop), (∀ σ, PassesAt (L2.CX X.prog X.w) (Cx.blkX X s H scope (compEnvC scope cl C X.env) fp xe) σ E) → PE (Cx.blkX X s H scope (compEnvC scope cl C X.env) fp xe) elt te)
    (hs : ∀ x, foldedSetIterable iter X.env x = pure x := by intro _; rfl) :
    PE X (.ListComp elt [⟨tg, iter, ifs, 0⟩] scope pos) (tLc wi g tt te (own.map (·.2))) := by
  refine ⟨fun pins s σ H Q I h => ?_⟩
  rw [eval_ListComp]
  have hfree : ∀ y ∈ scope.names, y.2 = .free → ∃ c, X.env.cells.lookup y.1 = some c := fun y hy e => by
    rcases ok.free y hy e with k | k
    · exact I.ok.has _ (.inl k)
    · exact I.ok.has _ (.inr k)
  refine comprehension_at (use := none) rfl hs (closure_ok hfree) ok.kind (fun y hy e => by rw [ok.uniq y hy, e])
    (thn (hi.run pins s σ H _ I h) fun xv s1 hx => thn hx fun itv s2 h2 => ?_)
  obtain ⟨it, fp, tn, J, H2, e, I2, T, st2, f2, q⟩ := h2
  subst e
  refine wpAny_newObj_type (newEnv_comp ?_) (by show 0 ≤ sizeLine; decide)
  generalize hD : s2.heap.objs.size = D
  have hDn : H2 D = none := I2.hok.fresh (Nat.le_of_eq hD)
  obtain ⟨W, ⟨m0, w0⟩, turn⟩ := q D hDn
  generalize hs3 : ({ s2 with heap := s2.heap.push { cls := .type "list", data := .seq ([] : List Value).toArray } } : Shared) = s3
  have I3 : Inv X pins σ (upd H2 D (.lst [])) s3 := by
    rw [← hs3]
    refine I2.laid (t' := s2.toks) (fun b o e => Heap.get?_push_of_some _ e) (Nat.le_of_eq hD) ⟨Nat.zero_le _, [], 0, .nil, ?_⟩
    rw [← hD]
    exact Heap.get?_push_size _ rfl
  have h3 : s3.heap = s2.heap.push { cls := .type "list", data := .seq ([] : List Value).toArray } := by rw [← hs3]
  have sz : ∀ b ∈ fp, b < s2.heap.objs.size := fun b hb => by
    obtain ⟨o, e, _⟩ := T.obj _ _ st2 b hb
    exact Heap.lt_size e
  have f3 : ∀ b ∈ fp, FpOk X pins (upd H2 D (.lst [])) b ∧ b < s3.heap.objs.size := fun b hb => by
    have hlt := sz b hb
    refine ⟨⟨?_, (f2 b hb).2⟩, by rw [h3, Heap.size_push]; exact Nat.lt_succ_of_lt hlt⟩
    rw [upd_ne (by rw [← hD]; exact Nat.ne_of_lt hlt)]
    exact (f2 b hb).1
  have st3 : tn 0 s3.heap := T.keep _ _ _ st2 fun b _ o e => by rw [h3]; exact Heap.get?_push_of_some _ e
  have I4 := block_start I3 ok hN f3
  have pg := hg s3 (upd H2 D (.lst [])) s3.heap.objs.size (cellsFrom (s3.heap.objs.size + 1) scope.names (cloFrom X.env.cells scope.names [])) fp
  have pt := ht s3 (upd H2 D (.lst [])) s3.heap.objs.size (cellsFrom (s3.heap.objs.size + 1) scope.names (cloFrom X.env.cells scope.names [])) fp
  have pe := he s3 (upd H2 D (.lst [])) s3.heap.objs.size (cellsFrom (s3.heap.objs.size + 1) scope.names (cloFrom X.env.cells scope.names [])) fp
  show codeAny _ _ (.compStart (.ListComp elt [⟨tg, iter, ifs, 0⟩] scope pos) 0 (.ref it) (.ref D) (compEnvC scope (cellsFrom (s3.heap.objs.size + 1) scope.names (cloFrom X.env.cells scope.names [])) s3.heap.objs.size X.env)) (compEnds (model X.prog X.w) X.A X.xe none _ (.ref D) (compEnvC scope (cellsFrom (s3.heap.objs.size + 1) scope.names (cloFrom X.env.cells scope.names [])) s3.heap.objs.size X.env)) { s3 with heap := pushCells (s3.heap.push { cls := .type "dict", data := .dict #[] }) scope.names }
  have nfp : ∀ b ∈ fp, (upd H2 D (.lst [])) b = none := fun b hb => (f3 b hb).1.1
  generalize hce : compEnvC scope (cellsFrom (s3.heap.objs.size + 1) scope.names (cloFrom X.env.cells scope.names [])) s3.heap.objs.size X.env = ce at I4 pg pt pe ⊢
  have cL : ce.locals = s3.heap.objs.size := by subst hce; rfl
  have cF : ce.frame = X.env.frame := by subst hce; rfl
  generalize hH3 : upd H2 D (.lst []) = H3 at I3 I4 pg pt pe w0 nfp f3
  have passes := fun σ' => blkX_passes I3 tk hsk hfr cF f3 (Nat.le_of_eq cL.symm) σ' (scope := scope)
  have pg := pg (notedBy (model X.prog X.w) X.A ce (CompFails (model X.prog X.w) X.A X.xe ce))
  have pt := pt (notedBy (model X.prog X.w) X.A ce (CompFails (model X.prog X.w) X.A X.xe ce))
  have pe := pe (notedBy (model X.prog X.w) X.A ce (CompFails (model X.prog X.w) X.A X.xe ce)) passes
  generalize hs4 : ({ s3 with heap := pushCells (s3.heap.push { cls := .type "dict", data := .dict #[] }) scope.names } : Shared) = s4 at I4 ⊢
  have st4 : tn 0 s4.heap := T.keep _ _ _ st3 fun b _ o e => by rw [← hs4]; exact pushCells_keeps _ _ _ _ (Heap.get?_push_of_some _ e)
  -- the block's state, whatever is wanted of exceptions
  have toX : ∀ {pins' : List (Addr × Obj)} {σ' : L2.St} {H' : Hp} {s' : Shared}, Inv (Cx.blk X s3 H3 scope ce fp) pins' σ' H' s' → Inv (Cx.blkX X s3 H3 scope ce fp (notedBy (model X.prog X.w) X.A ce (CompFails (model X.prog X.w) X.A X.xe ce))) pins' σ' H' s' := fun {pins' σ' H' s'} I' =>
    ⟨⟨I'.ok.mod, I'.ok.kind, I'.ok.glob, I'.ok.blt, I'.ok.above, I'.ok.inj, I'.ok.has, I'.ok.cab, I'.ok.hd, I'.ok.frames, I'.ok.stk, I'.ok.exf, I'.ok.bs, I'.ok.bsz, I'.ok.noex, I'.ok.exfs, I'.ok.funs, I'.ok.frf⟩, I'.os, I'.bare, I'.base, I'.loc, I'.cell, I'.free, I'.freeC, I'.pin, I'.hok, I'.len⟩
  have ofX : ∀ {pins' : List (Addr × Obj)} {σ' : L2.St} {H' : Hp} {s' : Shared}, Inv (Cx.blkX X s3 H3 scope ce fp (notedBy (model X.prog X.w) X.A ce (CompFails (model X.prog X.w) X.A X.xe ce))) pins' σ' H' s' → Inv (Cx.blk X s3 H3 scope ce fp) pins' σ' H' s' := fun {pins' σ' H' s'} I' =>
    ⟨⟨I'.ok.mod, I'.ok.kind, I'.ok.glob, I'.ok.blt, I'.ok.above, I'.ok.inj, I'.ok.has, I'.ok.cab, I'.ok.hd, I'.ok.frames, I'.ok.stk, I'.ok.exf, I'.ok.bs, I'.ok.bsz, I'.ok.noex, I'.ok.exfs, I'.ok.funs, I'.ok.frf⟩, I'.os, I'.bare, I'.base, I'.loc, I'.cell, I'.free, I'.freeC, I'.pin, I'.hok, I'.len⟩
  have stat : ∀ {σ' : L2.St} {H' : Hp} {s' : Shared}, Inv (Cx.blk X s3 H3 scope ce fp) [] σ' H' s' → (∀ b ∈ fp, H' b = none) → ∀ b ∈ fp, FpOk (Cx.blk X s3 H3 scope ce fp) [] H' b := fun {σ' H' s'} I' hn b hb =>
    ⟨hn b hb, (I'.ok.exf b hb).1, I'.ok.exfs b hb, .inl hb, fun x c e => (I'.ok.exf b hb).2 x c e, fun p hp => absurd (show p ∈ ([] : List (Addr × Obj)) ++ [] from hp) (by simp)⟩
  have loop : codeAny (model X.prog X.w) X.A (.compLoop (.ListComp elt [⟨tg, iter, ifs, 0⟩] scope pos) 0 (.ref it) (.ref D) ce) (compEnds (model X.prog X.w) X.A X.xe none (EP X pins σ Q) (.ref D) ce) s4 := by
    refine compLoop_any (fun n s' => ∃ i H', Inv (Cx.blk X s3 H3 scope ce fp) [] (wipe σ (own.map (·.2))) H' s' ∧ tn i s'.heap ∧ (∀ b ∈ fp, H' b = none) ∧ W i n H') ?_ m0 ⟨0, H3, I4, st4, nfp, w0⟩
    rintro n s5 ⟨i, H5, I5, st5, n5, w5⟩
    rcases turn i n H5 w5 with ⟨stop, qq⟩ | ⟨go, Nx, hNx, step⟩
    · have td := T.done (Cx.blk X s3 H3 scope ce fp) rfl rfl rfl hc i [] s5 _ H5 (fun _ _ => False) I5 (stat I5 n5) st5 stop
      refine thnF td fun r s6 ⟨hr, I6⟩ => ?_
      subst hr
      have I7 : Inv X pins σ H5 s6 := I3.call' (ch := fp) I6.os I6.base I6.hok I6.bare fun b hb => ⟨(f3 b hb).1.2.2.2.1, (f3 b hb).1.2.1, (f3 b hb).1.2.2.2.2.1, (f3 b hb).1.2.2.2.2.2⟩
      have nC : H5 s3.heap.objs.size = none := by
        have z : H5 ce.locals = none := I6.free
        rw [cL] at z
        exact z
      obtain ⟨m, hn, _⟩ := I6.loc
      have hn : s6.heap.Ns ce.locals m := hn
      refine ⟨m, hn, fun h'' sb => ?_⟩
      rw [cL] at sb
      obtain ⟨f0, f1, f2, f3, f4, f5⟩ := I3.fpOk (Nat.le_refl _) nC
      exact ⟨.ref D, H5, I7.turned (t' := s6.toks) (fun b o hb e => (sb.2 b hb).trans e) f0 f1 f3 f4 f5, rfl, qq⟩
    · have ti := T.item (Cx.blk X s3 H3 scope ce fp) rfl rfl rfl hc i [] s5 _ H5 (fun _ _ => False) I5 (stat I5 n5) st5 go
      refine thnF ti fun r s6 ⟨u, hr, h6⟩ => ?_
      subst hr
      refine thnF h6 fun _ s7 ⟨x, H7, I7, r7, y7, st7, n7⟩ => ?_
      have I7' := I7.pinned (stat I7 n7) (T.obj _ _ st7)
      refine wpAny_mono (pg.run _ s7 _ H7 x u _ (toX I7') r7 (step x H7 y7)) (fun _ s8 ⟨σ8, H8, I8, hw8, q8⟩ => ?_) fun _ _ z => z
      refine wpAny_mono (pt.run _ s8 σ8 H8 _ I8 q8) (fun b s9 ⟨H9, I9, q9⟩ => ?_) fun _ _ z => z
      have fin : ∀ {s' : Shared} {H' : Hp}, Inv (Cx.blk X s3 H3 scope ce fp) ([] ++ pinsAt fp s7.heap) σ8 H' s' → Nx H' → ∃ m, m < n ∧ ∃ i H', Inv (Cx.blk X s3 H3 scope ce fp) [] (wipe σ (own.map (·.2))) H' s' ∧ tn i s'.heap ∧ (∀ b ∈ fp, H' b = none) ∧ W i m H' := fun {s' H'} I' nx => by
        obtain ⟨m', hm, w'⟩ := hNx H' nx
        have pin' : ∀ b ∈ fp, ∀ o, s7.heap.get? b = some o → s'.heap.get? b = some o ∧ H' b = none := fun b hb o e =>
          let z := I'.pin (b, o) (List.mem_append_right _ (List.mem_append_right _ (mem_pinsAt hb e)))
          ⟨z.1, z.2.1⟩
        have hl : (wipe σ (own.map (·.2))).length = σ8.length := by rw [← hw8, wipe_length]
        refine ⟨m', hm, i + 1, H', (I'.unpinned (pins := [])).weak hl (fun j v e => ?_), T.keep _ _ _ st7 fun b hb o e => (pin' b hb o e).1, fun b hb => ?_, w'⟩
        · rw [← hw8] at e
          exact (wipe_some e).1
        · obtain ⟨o, e, _⟩ := T.obj _ _ st7 b hb
          exact (pin' b hb o e).2
      cases b with
      | false =>
        simp only [Bool.false_eq_true, if_false] at q9 ⊢
        exact fin (ofX I9) q9
      | true =>
        simp only [if_true] at q9 ⊢
        refine wpAny_mono (pe.run _ s9 σ8 H9 _ I9 q9) (fun z s10 ⟨yv, H10, I10, r10, acc, hD10, hz10, nx⟩ => ?_) fun _ _ z => z
        exact app_ok (X := Cx.blk X s3 H3 scope ce fp) (ofX I10) hD10 hz10 r10 fun s11 I11 => fin I11 nx
  exact codeAny_compStart_list loop (T.self X.A 0 _ _ _ st4 loop)
end
end PB

namespace PB
open PySem PySem.Spec PyProof.Rows L2
/-! ### [f(x) for x in xs], the call may raise -/
section
variable {K : PySem.W.Frag} {B : Hp} {α γ : Type} [Rp α] [Rp γ]
def mapXG (f : α → Option (Except Er γ)) : List α → Option (Except Er (List γ))
  | [] => some (.ok [])
  | x :: xs => (f x).bind fun o => match o with
    | .error c => some (.error c)
    | .ok y => (mapXG f xs).bind fun r => match r with
      | .error c => some (.error c)
      | .ok ys => some (.ok (y :: ys))
def mapXO (f : α → Option (Except Er γ)) (xs : List α) : Option (Except Er (List γ)) := if xs.length ≤ sizeLine then mapXG f xs else none
def catX (acc : List γ) : Except Er (List γ) → Except Er (List γ)
  | .ok ys => .ok (acc ++ ys)
  | .error c => .error c
variable {H : Hp} {σ : L2.St} {g : TG} {tt : TT} {te : TE} {vs : List Nat} {Q : VK} {J : It} {t : Bool} {xs : List α}
theorem w_mapX {ctx : List Fact} {L : List Own} {f : α → Option (Except Er γ)} {r : Except Er (List γ)} (td : Bool) (hm : mapXO f xs = some r) (W : Wd K B ctx L H) (hJ : ∀ D, Gives K B (withD (γ := γ) (⟨fun _ _ => σ, fun _ _ => ctx, fun _ _ => L⟩ : Shp Unit Unit) td D) J t xs)
    (step : ∀ D x v acc H' o, acc.length < sizeLine → Wd K B (fc t x v :: ctx) (oL td D acc :: L) H' → f x = some o → (∀ c, o = .error c → r = .error c) → g v (wipe σ vs) H' fun σ2 H2 => wipe σ2 vs = wipe σ vs ∧ tt σ2 H2 fun c H3 =>
      if c = true then te σ2 H3 (rElt D fun H4 => ∃ y, o = .ok y ∧ Wd K B ctx (oL td D (acc ++ [y]) :: L) H4) else ∃ y, o = .ok y ∧ Wd K B ctx (oL td D (acc ++ [y]) :: L) H3)
    (done : ∀ D ys H, r = .ok ys → Wd K B ctx (oL td D ys :: L) H → Q (.ref D) H) : rLc J g tt te vs σ H Q := fun D hD => by
  obtain ⟨hz, hm⟩ := (show xs.length ≤ sizeLine ∧ mapXG f xs = some r by
    unfold mapXO at hm
    by_cases h : xs.length ≤ sizeLine
    · rw [if_pos h] at hm; exact ⟨h, hm⟩
    · rw [if_neg h] at hm; cases hm)
  obtain ⟨N, F0, W⟩ := W
  have W1 : Wd K B ctx (oL td D ([] : List γ) :: L) (upd H D (.lst [])) := Wd.newL W hD trivial
  refine ⟨fun i m H => m = xs.length - i ∧ ∃ acc r', mapXG f (xs.drop i) = some r' ∧ catX acc r' = r ∧ acc.length ≤ i ∧ Wd K B ctx (oL td D acc :: L) H, ⟨_, rfl, [], r, hm, by cases r <;> rfl, Nat.le_refl _, W1⟩, ?_⟩
  rintro i m H ⟨rfl, acc, r', hm, hr, hacc, W⟩
  obtain ⟨h1, h2⟩ := hJ D i ((), acc) () H W
  by_cases hi : i < xs.length
  · have hx : xs[i]? = some xs[i] := List.getElem?_eq_getElem hi
    obtain ⟨h3, h4⟩ := h2 _ hx
    rw [List.drop_eq_getElem_cons hi, mapXG] at hm
    obtain ⟨o, q, hm⟩ := bndE hm
    refine .inr ⟨h3, fun H4 => ∃ y, o = .ok y ∧ Wd K B ctx (oL td D (acc ++ [y]) :: L) H4, ?_, fun v H' y => ?_⟩
    · rintro H'' ⟨y, rfl, W'⟩
      obtain ⟨r2, q2, hm⟩ := bndE hm
      refine ⟨xs.length - (i + 1), by omega, rfl, acc ++ [y], r2, q2, ?_, by rw [List.length_append]; simp; omega, W'⟩
      rw [← hr]
      cases r2 with
      | error c => cases hm; rfl
      | ok ys =>
        cases hm
        show Except.ok ((acc ++ [y]) ++ ys) = Except.ok (acc ++ (y :: ys))
        rw [List.append_assoc]
        rfl
    · exact step D _ v acc H' o (by omega) (h4 v H' y) q (fun c e => by
        subst e
        cases hm
        exact hr.symm)
  · rw [List.drop_eq_nil_of_le (by omega), mapXG] at hm
    cases hm
    have hr : Except.ok (acc ++ []) = r := hr
    rw [List.append_nil] at hr
    exact .inl ⟨h1 (by omega), done D acc H hr.symm W⟩
end
/-! ### readings by name -/
def rCatS : R2 := fun x y H Q => ∃ i j, x = .str i ∧ y = .str j ∧ i.length + j.length ≤ sizeLine ∧ Q (.str (i ++ j)) H
theorem op_catS {X : Cx} : OpR X (binaryOp .Add) rCatS := op_add_str
def rSplitS : V → List V → Hp → VK → Prop := fun x xs H Q => ∃ a b, x = .str a ∧ xs = [.str b] ∧ (b.length == 0) = false ∧ a.length + 2 ≤ sizeLine ∧ rNewStrs (Txt.split a b) H Q
def rPartS : V → List V → Hp → VK → Prop := fun x xs H Q => ∃ a b, x = .str a ∧ xs = [.str b] ∧ (b.length == 0) = false ∧ a.length ≤ sizeLine ∧ ∀ p, H p = none → Q (.ref p) (upd H p (.tup [.str (Txt.partition a b).1, .str (Txt.partition a b).2.1, .str (Txt.partition a b).2.2]))
def rJoinS (K : PySem.W.Frag) : V → List V → Hp → VK → Prop := fun x xs H Q => ∃ a p, ∃ ys : List PySem.Str, x = .str a ∧ xs = [.ref p] ∧ (SqL K H p (ys.map V.str) ∨ SqT K H p (ys.map V.str)) ∧ (ys.map (·.length)).sum + ys.length * a.length ≤ 16777216 ∧ Q (.str (Txt.join a ys)) H
def rIntS : List V → Hp → VK → Prop := fun xs H Q => ∃ a n, xs = [.str a] ∧ PySem.intText? a = some n ∧ a.length ≤ 640 ∧ Q (.int n) H
theorem call_intS {X : Cx} : CallR X (.type "int") rIntS := call_int_str
section
variable {X : Cx} {o e : Expr} {to te : TE}
theorem pe_splitR {apos pos : Pos} (ho : PE X o to) (he : PE X e te) (hs : starEach [e] X.env = [(false, eval e X.env)] := by rfl) (hbase : attributeBase o "split" X.env (eval o X.env) = eval o X.env := by rfl) (hline : (apos.endLine == pos.line) = true := by rfl) :
    PE X (.Call (.Attribute o "split" apos) [e] [] pos) (tM1 rSplitS to te) := pe_split ho he hs hbase hline
theorem pe_partR {apos pos : Pos} (ho : PE X o to) (he : PE X e te) (hs : starEach [e] X.env = [(false, eval e X.env)] := by rfl) (hbase : attributeBase o "partition" X.env (eval o X.env) = eval o X.env := by rfl) (hline : (apos.endLine == pos.line) = true := by rfl) :
    PE X (.Call (.Attribute o "partition" apos) [e] [] pos) (tM1 rPartS to te) := pe_partition ho he hs hbase hline
theorem pe_joinR {K : PySem.W.Frag} {apos pos : Pos} (ek : X.K = K) (ho : PE X o to) (he : PE X e te) (hs : starEach [e] X.env = [(false, eval e X.env)] := by rfl) (hbase : attributeBase o "join" X.env (eval o X.env) = eval o X.env := by rfl) (hline : (apos.endLine == pos.line) = true := by rfl) :
    PE X (.Call (.Attribute o "join" apos) [e] [] pos) (tM1 (rJoinS K) to te) := by
  subst ek
  exact pe_join ho he hs hbase hline
end
/-! ### texts: so many times; all of a list; None in a list -/
def rMulS : R2 := fun x y H Q => ∃ (s : PySem.Str) (i : Int), x = .str s ∧ y = .int i ∧ MulOk s i ∧ Q (.str (Txt.mul s i)) H
def repS (a : PySem.Str) (i : Int) : Option PySem.Str := if 0 ≤ i ∧ i ≤ 16777216 ∧ a.length * i.toNat ≤ 16777216 then some (Txt.mul a i) else none
theorem mulOk_of {a : PySem.Str} {i : Int} (h0 : 0 ≤ i) (h1 : i ≤ 16777216) (h2 : a.length * i.toNat ≤ 16777216) : MulOk a i := by
  refine ⟨by simp; omega, fun hi _ => ?_, fun hi _ => ?_⟩
  · have hp : 0 < i := by omega
    intro hgt
    have h3 : (2 ^ 63 - 1 : Int) / i < a.length := hgt
    have h4 := Int.lt_mul_of_ediv_lt hp h3
    have h5 : (a.length : Int) * i = ((a.length * i.toNat : Nat) : Int) := by
      rw [Int.natCast_mul, Int.toNat_of_nonneg h0]
    omega
  · have hs : sizeLine = 16777216 := by decide
    unfold Builtin.Str.tooLong
    rw [hs]
    simp
    exact h2
theorem op_mulS {X : Cx} : OpR X (binaryOp .Mult) rMulS := by
  intro pins s σ H x y v u Q I rx ry h
  obtain ⟨i, j, rfl, rfl, hz, q⟩ := h
  obtain ⟨t, rfl⟩ := rx
  obtain ⟨t', rfl⟩ := ry
  exact SB.mul hz (fun t' tk => ⟨.str (Txt.mul i j), H, I.tok _, ⟨_, rfl⟩, q⟩)
section
variable {K : PySem.W.Frag} {B H H' : Hp} {ctx : List Fact} {L : List Own} {t : Bool} {v w u : V} {p : Addr} {Q : VK} {i j : Int} {σ : L2.St} {a b c : PySem.Str}
theorem w_catR (e : catS a b = some c) (k : Q (.str c) H) : rCatS (.str a) (.str b) H Q := w_catS e k
theorem w_intR (e : intSO a = some i) (k : Q (.int i) H) : rIntS [.str a] H Q := w_intS e k
theorem w_splitR {ys : List PySem.Str} (W : Wd K B ctx L H) (e : splitO a b = some ys) (k : ∀ p H', Wd K B ctx (oL true p ys :: L) H' → Q (.ref p) H') : rSplitS (.str a) [.str b] H Q := w_split W e k
theorem w_partR {y : T3 PySem.Str PySem.Str PySem.Str} (W : Wd K B ctx L H) (e : partO a b = some y) (k : ∀ p H', Wd K B (fc true y (.ref p) :: ctx) L H' → Q (.ref p) H') : rPartS (.str a) [.str b] H Q := w_part W e k
theorem w_joinR {ys : List PySem.Str} (W : Wd K B ctx L H) (h : Ls K ctx L t ys v) (e : joinO a ys = some c) (k : Q (.str c) H) : rJoinS K (.str a) [v] H Q := w_join W h e k
theorem w_repS (e : repS a i = some c) (k : Q (.str c) H) : rMulS (.str a) (.int i) H Q := by
  obtain ⟨⟨h0, h1, h2⟩, rfl⟩ := guardE e
  exact ⟨a, i, rfl, rfl, mulOk_of h0 h1 h2, k⟩
theorem all2_bl {S : Lk} : ∀ {xs : List Bool} {vs : List V}, All2 (Rp.rep S) xs vs → vs = xs.map V.bl
  | [], [], _ => rfl
  | x :: xs, v :: vs, h => by
    have e : v = .bl x := h.1
    rw [List.map_cons, e, all2_bl h.2]
  | [], _ :: _, h => h.elim
  | _ :: _, [], h => h.elim
theorem w_all {xs : List Bool} (W : Wd K B ctx L H) (h : Ls K ctx L t xs v) (k : Q (.bl (xs.all id)) H) : rAll K [v] H Q := by
  obtain ⟨N, F, W⟩ := W
  obtain ⟨q, vs, rfl, h1, h2⟩ := h B H N F W
  rw [all2_bl h2] at h1
  exact ⟨q, xs, rfl, h1, k⟩
theorem w_inNone {xs : List (Option Int)} (W : Wd K B ctx L H) (h : Ls K ctx L t xs v) (k : Q (.bl (xs.any Option.isNone)) H) : rIn K false .non v H Q := by
  obtain ⟨N, F, W⟩ := W
  obtain ⟨q, vs, rfl, h1, h2⟩ := h B H N F W
  have key : ∀ {xs : List (Option Int)} {vs : List V}, All2 (Rp.rep (reg t K N F)) xs vs → vs.all flatV = true ∧ inV .non vs = xs.any Option.isNone := by
    intro xs
    induction xs with
    | nil =>
      intro vs h
      match vs, h with
      | [], _ => exact ⟨rfl, rfl⟩
    | cons x xs ih =>
      intro vs h
      match vs, h with
      | v :: vs, h =>
        obtain ⟨i1, i2⟩ := ih h.2
        cases x with
        | none =>
          have e : v = .non := h.1
          subst e
          exact ⟨by rw [List.all_cons, i1]; rfl, rfl⟩
        | some n =>
          have e : v = .int n := h.1
          subst e
          refine ⟨by rw [List.all_cons, i1]; rfl, ?_⟩
          show (false || inV .non vs) = (false || _)
          rw [i2]
  obtain ⟨k1, k2⟩ := key h2
  exact ⟨q, vs, rfl, .inl h1, rfl, k1, by simpa only [Bool.false_eq_true, if_false, k2] using k⟩
end
end PB

namespace PB
open PySem PySem.Spec PyProof.Rows L2
/-! ### what a mirror gives -/
def OkP {α : Type} (e : Option α) (P : α → Prop) : Prop := ∃ x, e = some x ∧ P x
section
variable {α β γ ρ : Type} {e : Option α} {P R : α → Prop} {f : α → Option β} {Q : β → Prop} {x : α} {b : Bool}
theorem Ok.some (h : P x) : OkP (Option.some x) P := ⟨x, rfl, h⟩
theorem Ok.of (e1 : e = Option.some x) (h : P x) : OkP e P := ⟨x, e1, h⟩
theorem Ok.eq (h : OkP e fun y => y = x) : e = Option.some x := by
  obtain ⟨y, h1, rfl⟩ := h
  exact h1
theorem Ok.mono (h : OkP e P) (k : ∀ x, P x → R x) : OkP e R := let ⟨x, e, p⟩ := h; ⟨x, e, k x p⟩
theorem Ok.bind (h : OkP e P) (k : ∀ x, P x → OkP (f x) Q) : OkP (e.bind f) Q := by
  obtain ⟨x, rfl, p⟩ := h
  exact k x p
theorem Ok.bindE (h : e = Option.some x) (k : OkP (f x) Q) : OkP (e.bind f) Q := by
  rw [h]
  exact k
theorem Ok.ite {A C : Option α} (h1 : b = true → OkP A P) (h2 : b = false → OkP C P) : OkP (if b = true then A else C) P := by
  cases b with
  | true => exact h1 rfl
  | false => exact h2 rfl
theorem Ok.iteT {A C : Option α} (h : b = true) (h1 : OkP A P) : OkP (if b = true then A else C) P := by
  rw [if_pos h]
  exact h1
theorem Ok.iteF {A C : Option α} (h : b = false) (h1 : OkP C P) : OkP (if b = true then A else C) P := by
  rw [if_neg (by rw [h]; exact Bool.false_ne_true)]
  exact h1
/-- loops -/
theorem Ok.forI {f : α → β → Option (Ctl ρ β)} {xs : List α} {b0 : β} (I : Nat → β → Prop) (h0 : I 0 b0) (hs : ∀ i x b, xs[i]? = Option.some x → I i b → OkP (f x b) fun o => ∃ b', o = .go b' ∧ I (i + 1) b') :
    OkP (forO f xs b0) fun o => ∃ b, o = .go b ∧ I xs.length b := by
  induction xs generalizing b0 I with
  | nil => exact ⟨_, rfl, b0, rfl, h0⟩
  | cons x xs ih =>
    obtain ⟨o, e, b', rfl, h1⟩ := hs 0 x b0 rfl h0
    rw [forO, e]
    exact ih (fun i => I (i + 1)) h1 fun i y b hy hb => hs (i + 1) y b (by simpa using hy) hb
theorem Ok.forA {f : α → β → Option (Ctl ρ β)} {xs : List α} {b0 : β} (I : β → Prop) (h0 : I b0) (hs : ∀ x ∈ xs, ∀ b, I b → OkP (f x b) fun o => ∃ b', o = .go b' ∧ I b') : OkP (forO f xs b0) fun o => ∃ b, o = .go b ∧ I b :=
  Ok.forI (fun _ => I) h0 fun i x b hx hb => hs x (List.mem_of_getElem? hx) b hb
/-- a loop that only looks -/
theorem Ok.forU {f : α → Unit → Option (Ctl ρ Unit)} {xs : List α} (hs : ∀ x ∈ xs, OkP (f x ()) fun o => o = .go ()) : OkP (forO f xs ()) fun o => o = .go () :=
  Ok.mono
    (Ok.forA (fun _ => True) trivial fun x hx b _ => Ok.mono (hs x hx) fun o e => ⟨(), e, trivial⟩) fun o ⟨b, e, _⟩ => e
theorem Ok.foldI {f : α → β → Option β} {xs : List α} {b0 : β} (I : Nat → β → Prop) (h0 : I 0 b0) (hs : ∀ i x b, xs[i]? = Option.some x → I i b → OkP (f x b) (I (i + 1))) : OkP (foldO f xs b0) (I xs.length) := by
  induction xs generalizing b0 I with
  | nil => exact ⟨b0, rfl, h0⟩
  | cons x xs ih =>
    obtain ⟨b', e, h1⟩ := hs 0 x b0 rfl h0
    rw [foldO, e]
    exact ih (fun i => I (i + 1)) h1 fun i y b hy hb => hs (i + 1) y b (by simpa using hy) hb
theorem Ok.foldA {f : α → β → Option β} {xs : List α} {b0 : β} (I : β → Prop) (h0 : I b0) (hs : ∀ x ∈ xs, ∀ b, I b → OkP (f x b) I) : OkP (foldO f xs b0) I :=
  Ok.foldI (fun _ => I) h0 fun i x b hx hb => hs x (List.mem_of_getElem? hx) b hb
theorem Ok.whileI {f : β → Option (Ctl ρ β)} {b0 : β} {n : Nat} (I E : β → Prop) (μ : β → Nat) (h0 : I b0) (hn : μ b0 < n) (hs : ∀ b, I b → OkP (f b) fun o => (∃ b', o = .go b' ∧ I b' ∧ μ b' < μ b) ∨ ∃ b', o = .brk b' ∧ E b') :
    OkP (whileO f n b0) fun o => ∃ b, o = .go b ∧ E b := by
  induction n generalizing b0 with
  | zero => omega
  | succ n ih =>
    obtain ⟨o, e, h⟩ := hs b0 h0
    rw [whileO, e]
    rcases h with ⟨b', rfl, h1, h2⟩ | ⟨b', rfl, h1⟩
    · exact ih h1 (by omega)
    · exact ⟨_, rfl, b', rfl, h1⟩
theorem mapG_eq {f : α → Option γ} {g : α → γ} : ∀ {xs : List α}, (∀ x ∈ xs, f x = Option.some (g x)) → mapG f xs = Option.some (xs.map g)
  | [], _ => rfl
  | x :: xs, h => by
    rw [mapG, h x List.mem_cons_self, mapG_eq fun y hy => h y (List.mem_cons_of_mem _ hy)]
    rfl
theorem mapO_eq {f : α → Option γ} {g : α → γ} {xs : List α} (hz : xs.length ≤ sizeLine) (h : ∀ x ∈ xs, f x = Option.some (g x)) : mapO f xs = Option.some (xs.map g) := by
  rw [mapO, if_pos hz, mapG_eq h]
theorem cmpG_eq {f : α → Option (Option γ)} {g : α → γ} {p : α → Bool} : ∀ {xs : List α}, (∀ x ∈ xs, f x = Option.some (if p x = true then Option.some (g x) else none)) → cmpG f xs = Option.some ((xs.filter p).map g)
  | [], _ => rfl
  | x :: xs, h => by
    rw [cmpG, h x List.mem_cons_self, cmpG_eq fun y hy => h y (List.mem_cons_of_mem _ hy)]
    cases hp : p x
    · rw [List.filter_cons_of_neg (by rw [hp]; exact Bool.false_ne_true)]; rfl
    · rw [List.filter_cons_of_pos hp]; rfl
theorem cmpO_eq {f : α → Option (Option γ)} {g : α → γ} {p : α → Bool} {xs : List α} (hz : xs.length ≤ sizeLine) (h : ∀ x ∈ xs, f x = Option.some (if p x = true then Option.some (g x) else none)) : cmpO f xs = Option.some ((xs.filter p).map g) := by
  rw [cmpO, if_pos hz, cmpG_eq h]
theorem cmpG_none {f : α → Option (Option γ)} : ∀ {xs : List α}, (∀ x ∈ xs, f x = Option.some none) → cmpG f xs = Option.some []
  | [], _ => rfl
  | x :: xs, h => by
    rw [cmpG, h x List.mem_cons_self, cmpG_none fun y hy => h y (List.mem_cons_of_mem _ hy)]
    rfl
theorem cmpO_none {f : α → Option (Option γ)} {xs : List α} (hz : xs.length ≤ 16777216) (h : ∀ x ∈ xs, OkP (f x) fun o => o = none) : cmpO f xs = Option.some [] := by
  rw [cmpO, if_pos (show xs.length ≤ sizeLine from hz), cmpG_none fun x hx => Ok.eq (h x hx)]
theorem Ok.mapS {f : α → β → Option (γ × β)} {xs : List α} {b0 : β} (P : γ → Prop) (I : β → Prop) (hz : xs.length ≤ sizeLine) (h0 : I b0) (hs : ∀ x ∈ xs, ∀ b, I b → OkP (f x b) fun p => P p.1 ∧ I p.2) :
    OkP (mapSO f xs b0) fun r => r.1.length = xs.length ∧ (∀ y ∈ r.1, P y) ∧ I r.2 := by
  rw [mapSO, if_pos hz]
  clear hz
  induction xs generalizing b0 with
  | nil => exact ⟨_, rfl, rfl, (fun _ h => nomatch h), h0⟩
  | cons x xs ih =>
    obtain ⟨p, e, h1, h2⟩ := hs x List.mem_cons_self b0 h0
    obtain ⟨q, e2, h3, h4, h5⟩ := ih h2 fun y hy => hs y (List.mem_cons_of_mem _ hy)
    refine ⟨(p.1 :: q.1, q.2), ?_, ?_, ?_, h5⟩
    · rw [mapSG, e]
      show (mapSG f xs p.2).bind _ = _
      rw [e2]
      rfl
    · show q.1.length + 1 = xs.length + 1
      rw [h3]
    · intro y hy
      rcases List.mem_cons.mp hy with rfl | hy
      · exact h1
      · exact h4 y hy
end
theorem forO_go {α β ρ : Type} {f : α → β → Option (Ctl ρ β)} {x : α} {xs : List α} {b b' : β} (h : f x b = some (.go b')) : forO f (x :: xs) b = forO f xs b' := by rw [forO, h]
theorem forO_S {α β ρ : Type} {f : α → β → Option (Ctl ρ β)} {xs : List α} {b0 : β} (S : Nat → Option β) (r : ρ) (h0 : S 0 = some b0)
    (hs : ∀ i x b, xs[i]? = some x → S i = some b → f x b = some (match S (i + 1) with
      | some b' => .go b'
      | none => .ret r))
    (hm : ∀ i, i ≤ xs.length → S i = none → S xs.length = none) : forO f xs b0 = some (match S xs.length with
      | some b => .go b
      | none => .ret r) := by
  induction xs generalizing b0 S with
  | nil =>
    show some (Ctl.go b0) = _
    rw [show S ([] : List α).length = some b0 from h0]
  | cons x xs ih =>
    have h1 := hs 0 x b0 rfl h0
    rw [forO, h1]
    cases e : S (0 + 1) with
    | none =>
      rw [hm 1 (by simp) e]
    | some b' =>
      exact ih (fun i => S (i + 1)) e (fun i y b hy hb => hs (i + 1) y b (by simpa using hy) hb) (fun i hi h => hm (i + 1) (by simpa using hi) h)
/-! ### single words -/
section
variable {α : Type} {xs ys : List α} {i j : Int} {x : α}
theorem mulO_s (hi : i.natAbs < 2 ^ 250) (hj : j.natAbs < 2 ^ 250) : mulO i j = some (i * j) := if_pos (wide_mul hi hj (by decide) (by decide) (by decide))
theorem fdivO_s (h0 : 0 < j) (hj : j.natAbs < 2 ^ 250) : fdivO i j = some (i / j) := if_pos (wide_div (i := i) h0 hj (by decide) (by decide) : 0 < j ∧ j.natAbs.log2 < 9000)
theorem modO_s (h0 : 0 < j) : modO i j = some (i % j) := if_pos h0
theorem atI_of (h0 : 0 ≤ i) (h1 : i < xs.length) : ∃ x, atI xs i = some x ∧ xs[i.toNat]? = some x := by
  have hl : i.toNat < xs.length := by omega
  refine ⟨xs[i.toNat], ?_, List.getElem?_eq_getElem hl⟩
  have := atI_nat (xs := xs) (j := i.toNat) (List.getElem?_eq_getElem hl)
  rwa [Int.toNat_of_nonneg h0] at this
theorem atI_get {n : Nat} (h : xs[n]? = some x) (e : i = n) : atI xs i = some x := by rw [e]; exact atI_nat h
theorem atI_neg1 {n : Nat} (h : xs[n]? = some x) (hl : xs.length = n + 1) : atI xs (-1) = some x := by
  unfold atI ixN
  rw [if_neg (by decide), if_pos (by omega)]
  show xs[(-1 + (xs.length : Int)).toNat]? = _
  rw [show (-1 + (xs.length : Int)).toNat = n by omega]
  exact h
theorem atI_bnd {ns : List Int} {lo hi : Int} (h : ∀ n ∈ ns, lo ≤ n ∧ n ≤ hi) (h0 : 0 ≤ i) (h1 : i < ns.length) : OkP (atI ns i) fun x => lo ≤ x ∧ x ≤ hi := by
  obtain ⟨x, e, e2⟩ := atI_of h0 h1
  exact ⟨x, e, h x (List.mem_of_getElem? e2)⟩
theorem atI_mem (h0 : 0 ≤ i) (h1 : i < xs.length) : OkP (atI xs i) fun x => x ∈ xs := by
  obtain ⟨x, e, e2⟩ := atI_of h0 h1
  exact ⟨x, e, List.mem_of_getElem? e2⟩
theorem catO_s (h : xs.length + ys.length ≤ 16777216) : catO xs ys = some (xs ++ ys) := if_pos h
theorem appO_s (h : xs.length < 16777216) : appO xs x = some (xs ++ [x]) := if_pos h
theorem repO_1 (h0 : 0 ≤ i) (h1 : i ≤ 16777216) : repO [x] i = some (List.replicate i.toNat x) := by
  rw [repO, if_pos ⟨by omega, by omega, by show 1 * i.toNat ≤ 16777216; omega⟩, rep_one]
theorem setO_s {xs : List Int} {x : Int} (h0 : 0 ≤ i) (h1 : i < xs.length) : setO xs i x = some (xs.set i.toNat x) := by
  rw [setO, ixN_int h0 h1]
  rfl
theorem setO_g (h0 : 0 ≤ i) (h1 : i < xs.length) : setO xs i x = some (xs.set i.toNat x) := by
  rw [setO, ixN_int h0 h1]
  rfl
theorem range1_s (h0 : -4611686018427387904 ≤ j) (h1 : j < 4611686018427387904) : range1 j = some (rangeF 0 j.toNat) := if_pos ⟨by omega, by omega⟩
theorem range2_s (h0 : -4611686018427387904 ≤ i) (h1 : i < 4611686018427387904) (h2 : -4611686018427387904 ≤ j) (h3 : j < 4611686018427387904) : range2 i j = some (rangeF i (j - i).toNat) := if_pos ⟨⟨by omega, by omega⟩, by omega, by omega⟩
theorem rangeD_s (h0 : -4611686018427387904 ≤ i) (h1 : i < 4611686018427387904) (h2 : -4611686018427387904 ≤ j) (h3 : j < 4611686018427387904) : rangeD i j = some (rangeB i (i - j).toNat) := if_pos ⟨⟨by omega, by omega⟩, by omega, by omega⟩
theorem rangeL_s (h0 : -1000000 ≤ i) (h1 : i < 1000000) (h2 : -1000000 ≤ j) (h3 : j < 1000000) : rangeL i j = some (rangeF i (j - i).toNat) := if_pos ⟨⟨by omega, by omega⟩, ⟨by omega, by omega⟩, by omega⟩
theorem maxO_s {ns : List Int} (h : ns ≠ []) : maxO ns = some (mxI ns) := if_pos h
theorem minO_s {ns : List Int} (h : ns ≠ []) : minO ns = some (mnI ns) := if_pos h
theorem mem_rangeF {n : Nat} {lo x : Int} (h : x ∈ rangeF lo n) : lo ≤ x ∧ x < lo + n := by
  obtain ⟨i, hi⟩ := List.mem_iff_getElem?.mp h
  obtain ⟨h1, h2⟩ := rangeF_get _ _ _ _ hi
  omega
theorem rangeF_at {n i : Nat} {lo : Int} (h : i < n) : (rangeF lo n)[i]? = some (lo + i) := by
  have hl : i < (rangeF lo n).length := by rw [rangeF_len]; exact h
  rw [List.getElem?_eq_getElem hl, (rangeF_get _ _ _ _ (List.getElem?_eq_getElem hl)).2]
theorem sliceI_mid {xs : List Int} (h0 : 0 ≤ i) (h1 : i ≤ j) (h2 : j ≤ xs.length) : sliceI xs (some i) (some j) = (xs.drop i.toNat).take (j.toNat - i.toNat) := cutI_mid xs h0 h1 h2
theorem sliceI_from {xs : List Int} (h0 : 0 ≤ i) : sliceI xs (some i) none = xs.drop i.toNat := cutI_from xs h0
theorem sliceI_to {xs : List Int} (h0 : 0 ≤ i) : sliceI xs none (some i) = xs.take i.toNat := cutI_to xs h0
theorem sliceI_sub {lo hi : Option Int} : (sliceI xs lo hi).Sublist xs := (List.take_sublist _ _).trans (List.drop_sublist _ _)
end
theorem pick_ok {α : Type} (d : Bool) (e : α) : ((some d).bind fun r => if r = true then some (some e) else some none) = some (if d = true then some e else none) := by cases d <;> rfl
/-! ### texts, likeness of ints, lists of them -/
theorem reprO_ints {ns : List Int} (h : ∀ n ∈ ns, n.natAbs < 2 ^ 64) (hl : ns.length ≤ 3000) : reprO ns = some (txt ns) :=
  if_pos ⟨dI_showable h, dI_nodict ns, by show (dI ns).depth ≤ 60; rw [dI_depth]; decide, dI_shown h hl⟩
theorem eqO_ints (xs ys : List Int) : eqO xs ys = some (decide (xs = ys)) := by
  unfold eqO
  rw [if_pos ⟨shaped_ints xs, shaped_ints ys⟩]
  exact congrArg some (dI_eqv xs ys)
theorem isi_int (n : Int) : isiO n "int" = true := rfl
theorem isi_ib (n : Int) : isiO n "bool" = false := rfl
end PB

namespace PB
open PySem PySem.Spec PyProof.Rows L2
/-! ### data that can be told as texts -/
structure DOK (d : PyData) (dep w : Nat) : Prop where
  sh : d.showable = true
  nd : d.hasDict = false
  de : d.depth ≤ dep
  le : d.leavesShort 201 = true
  wt : d.weight ≤ w
theorem DOK.int {i : Int} (h : i.natAbs < 2 ^ 200) : DOK (.int i) 0 200 := by
  have h3 : i.natAbs.log2 < 200 := PySem.Flt.log2_lt_of (by decide) h
  have h1 : (toString i).length ≤ 200 + 1 := int_text_length_le (by decide) h3
  refine ⟨?_, by simp [PyData.hasDict], by simp [PyData.depth], ?_, ?_⟩
  · rw [PyData.showable, decide_eq_true_eq]
    omega
  · rw [PyData.leavesShort, decide_eq_true_eq]
    show (Str.ofString (toString i)).length ≤ 201
    rw [PySem.ofString_length]
    exact h1
  · rw [PyData.weight]
    split <;> omega
theorem DOK.none : DOK .none 0 0 := ⟨by simp [PyData.showable], by simp [PyData.hasDict], by simp [PyData.depth], by simp [PyData.leavesShort], by simp [PyData.weight]⟩
theorem DOK.bool (b : Bool) : DOK (.bool b) 0 0 := ⟨by simp [PyData.showable], by simp [PyData.hasDict], by simp [PyData.depth], by simp [PyData.leavesShort], by simp [PyData.weight]⟩
theorem DOK.mono {d : PyData} {p q w u : Nat} (h : DOK d p w) (h1 : p ≤ q) (h2 : w ≤ u) : DOK d q u := ⟨h.sh, h.nd, Nat.le_trans h.de h1, h.le, Nat.le_trans h.wt h2⟩
theorem dok_all {dep w : Nat} : ∀ {ds : List PyData}, (∀ d ∈ ds, DOK d dep w) → PyData.showableAll ds = true ∧ PyData.hasDictAll ds = false ∧ PyData.depthAll ds ≤ dep ∧ PyData.leavesShortAll 201 ds = true ∧ PyData.weightAll ds ≤ ds.length * (w + 1)
  | [], _ => ⟨by simp [PyData.showableAll], by simp [PyData.hasDictAll], by simp [PyData.depthAll], by simp [PyData.leavesShortAll], by simp [PyData.weightAll]⟩
  | d :: ds, h => by
    obtain ⟨h1, h2, h3, h4, h5⟩ := dok_all fun x hx => h x (List.mem_cons_of_mem _ hx)
    have hd := h d List.mem_cons_self
    refine ⟨by rw [PyData.showableAll, hd.sh, h1]; rfl, by rw [PyData.hasDictAll, hd.nd, h2]; rfl, by rw [PyData.depthAll]; have := hd.de; omega, by rw [PyData.leavesShortAll, hd.le, h4]; rfl, ?_⟩
    rw [PyData.weightAll, List.length_cons, Nat.add_mul]
    have := hd.wt
    omega
theorem DOK.list {dep w n : Nat} {ds : List PyData} (h : ∀ d ∈ ds, DOK d dep w) (hl : ds.length ≤ n) : DOK (.list ds) (dep + 1) (n * (w + 1)) := by
  obtain ⟨h1, h2, h3, h4, h5⟩ := dok_all h
  exact ⟨by rw [PyData.showable]; exact h1, by rw [PyData.hasDict]; exact h2, by rw [PyData.depth]; omega, by rw [PyData.leavesShort]; exact h4, by rw [PyData.weight]; exact Nat.le_trans h5 (Nat.mul_le_mul_right _ hl)⟩
theorem DOK.tup {dep w n : Nat} {ds : List PyData} (h : ∀ d ∈ ds, DOK d dep w) (hl : ds.length ≤ n) : DOK (.tuple ds) (dep + 1) (n * (w + 1)) := by
  obtain ⟨h1, h2, h3, h4, h5⟩ := dok_all h
  exact ⟨by rw [PyData.showable]; exact h1, by rw [PyData.hasDict]; exact h2, by rw [PyData.depth]; omega, by rw [PyData.leavesShort]; exact h4, by rw [PyData.weight]; exact Nat.le_trans h5 (Nat.mul_le_mul_right _ hl)⟩
theorem DOK.ints {ns : List Int} {n : Nat} (h : ∀ x ∈ ns, x.natAbs < 2 ^ 200) (hl : ns.length ≤ n) : DOK (RpD.d ns) 1 (n * 201) :=
  DOK.list (fun d hd => by obtain ⟨x, hx, rfl⟩ := List.mem_map.mp hd; exact DOK.int (h x hx)) (by rw [List.length_map]; exact hl)
theorem DOK.pair {α β : Type} [Rp α] [Rp β] [RpD α] [RpD β] {x : α} {y : β} {dep w : Nat} (h : DOK (RpD.d x) dep w) (h' : DOK (RpD.d y) dep w) : DOK (RpD.d (x, y)) (dep + 1) (2 * (w + 1)) :=
  DOK.tup (ds := [RpD.d x, RpD.d y]) (fun d hd => by simp at hd; rcases hd with rfl | rfl; exact h; exact h') (Nat.le_refl _)
theorem DOK.tri {α β γ : Type} [Rp α] [Rp β] [Rp γ] [RpD α] [RpD β] [RpD γ] {x : T3 α β γ} {dep w : Nat} (h : DOK (RpD.d x.a) dep w) (h' : DOK (RpD.d x.b) dep w) (h'' : DOK (RpD.d x.c) dep w) : DOK (RpD.d x) (dep + 1) (3 * (w + 1)) :=
  DOK.tup (ds := [RpD.d x.a, RpD.d x.b, RpD.d x.c]) (fun d hd => by simp at hd; rcases hd with rfl | rfl | rfl; exact h; exact h'; exact h'') (Nat.le_refl _)
theorem reprO_d {α : Type} [Rp α] [RpD α] {x : α} {dep w : Nat} (h : DOK (RpD.d x) dep w) (h1 : dep ≤ 60) (h2 : w ≤ 80000) : reprO x = some (RpD.d x).shown := by
  have h3 := PyData.shown_le 201 (by decide) (RpD.d x) h.le
  have := h.wt
  refine if_pos ⟨h.sh, h.nd, Nat.le_trans h.de h1, ?_⟩
  have h4 : (201 + 2) * (RpD.d x).weight ≤ 203 * 80000 := Nat.mul_le_mul_left _ (Nat.le_trans this h2)
  rw [sizeLine_eq]
  omega
/-! ### likeness -/
class RpE (α : Type) [Rp α] [RpD α] [DecidableEq α] where
  k : Nat
  hk : k ≤ 20
  eqv : ∀ x y : α, PyData.eqv (RpD.d x) (RpD.d y) = decide (x = y)
  lay : ∀ x : α, (RpD.d x).canLay0 = true
  dep : ∀ x : α, (RpD.d x).depth ≤ k
class RpNN (α : Type) [Rp α] [RpD α] : Prop where
  l : ∀ x : α, PyData.eqv .none (RpD.d x) = false
  r : ∀ x : α, PyData.eqv (RpD.d x) .none = false
instance : RpNN Int := ⟨fun x => by simp [RpD.d, PyData.eqv], fun x => by simp [RpD.d, PyData.eqv]⟩
instance : RpNN Bool := ⟨fun x => by simp [RpD.d, PyData.eqv], fun x => by simp [RpD.d, PyData.eqv]⟩
section
variable {α β γ : Type} [Rp α] [Rp β] [Rp γ] [RpD α] [RpD β] [RpD γ] [DecidableEq α] [DecidableEq β] [DecidableEq γ]
instance : RpNN (List α) := ⟨fun x => by simp [RpD.d, PyData.eqv], fun x => by simp [RpD.d, PyData.eqv]⟩
instance : RpNN (α × β) := ⟨fun x => by simp [RpD.d, PyData.eqv], fun x => by simp [RpD.d, PyData.eqv]⟩
instance : RpNN (T3 α β γ) := ⟨fun x => by simp [RpD.d, PyData.eqv], fun x => by simp [RpD.d, PyData.eqv]⟩
instance : RpE Int := ⟨0, by decide, fun x y => by simp [RpD.d, PyData.eqv]; rfl, fun x => by simp [RpD.d, PyData.canLay0], fun x => by simp [RpD.d, PyData.depth]⟩
instance : RpE Bool := ⟨0, by decide, fun x y => by cases x <;> cases y <;> simp [RpD.d, PyData.eqv], fun x => by simp [RpD.d, PyData.canLay0], fun x => by simp [RpD.d, PyData.depth]⟩
instance : RpE Unit := ⟨0, by decide, fun x y => by simp [RpD.d, PyData.eqv], fun x => by simp [RpD.d, PyData.canLay0], fun x => by simp [RpD.d, PyData.depth]⟩
instance [RpE α] [RpNN α] : RpE (Option α) := ⟨RpE.k α, RpE.hk, fun x y => by
    cases x with
    | none => cases y with
      | none => simp [RpD.d, PyData.eqv]
      | some y => exact (RpNN.l y).trans (by simp)
    | some x => cases y with
      | none => exact (RpNN.r x).trans (by simp)
      | some y => exact (RpE.eqv x y).trans (by simp), fun x => by
    cases x with
    | none => simp [RpD.d, PyData.canLay0]
    | some x => exact RpE.lay x, fun x => by
    cases x with
    | none => simp [RpD.d, PyData.depth]
    | some x => exact RpE.dep x⟩
theorem eqvAll_E [RpE α] : ∀ xs ys : List α, PyData.eqvAll (xs.map RpD.d) (ys.map RpD.d) = decide (xs = ys)
  | [], [] => by simp [PyData.eqvAll]
  | [], _ :: _ => by simp [PyData.eqvAll]
  | _ :: _, [] => by simp [PyData.eqvAll]
  | x :: xs, y :: ys => by
    rw [List.map_cons, List.map_cons, PyData.eqvAll, RpE.eqv, eqvAll_E xs ys]
    by_cases h : x = y <;> by_cases h2 : xs = ys <;> simp [h, h2]
theorem layAll_E [RpE α] : ∀ xs : List α, PyData.canLayAll0 (xs.map RpD.d) = true
  | [] => by simp [PyData.canLayAll0]
  | x :: xs => by rw [List.map_cons, PyData.canLayAll0, RpE.lay, layAll_E xs]; rfl
theorem depAll_E [RpE α] : ∀ xs : List α, PyData.depthAll (xs.map RpD.d) ≤ RpE.k α
  | [] => by simp [PyData.depthAll]
  | x :: xs => by
    rw [List.map_cons, PyData.depthAll]
    have := RpE.dep x
    have := depAll_E xs
    omega
class Low (α : Type) [Rp α] [RpD α] [DecidableEq α] [RpE α] : Prop where
  h : RpE.k α < 20
instance [RpE α] [Low α] : RpE (List α) := ⟨RpE.k α + 1, Low.h, fun xs ys => by
    show PyData.eqv (.list _) (.list _) = _
    rw [PyData.eqv, eqvAll_E], fun xs => by
    show PyData.canLay0 (.list _) = _
    rw [PyData.canLay0, layAll_E], fun xs => by
    show PyData.depth (.list _) ≤ _
    rw [PyData.depth]
    have := depAll_E xs
    omega⟩
instance [RpE α] [RpE β] [Low α] [Low β] : RpE (α × β) := ⟨max (RpE.k α) (RpE.k β) + 1, by have := Low.h (α := α); have := Low.h (α := β); omega, fun x y => by
    show PyData.eqv (.tuple _) (.tuple _) = _
    rw [PyData.eqv]
    simp only [PyData.eqvAll, RpE.eqv]
    cases x; cases y
    simp [Prod.ext_iff, Bool.decide_and], fun x => by
    show PyData.canLay0 (.tuple _) = _
    rw [PyData.canLay0]
    simp only [PyData.canLayAll0, RpE.lay, Bool.and_self], fun x => by
    show PyData.depth (.tuple _) ≤ _
    rw [PyData.depth]
    simp only [PyData.depthAll]
    have := RpE.dep x.1
    have := RpE.dep x.2
    omega⟩
end
instance : Low Int := ⟨by decide⟩
instance : Low Bool := ⟨by decide⟩
instance : Low (Option Int) := ⟨by decide⟩
instance : Low (List Int) := ⟨by decide⟩
instance : Low (List (List Int)) := ⟨by decide⟩
instance : Low (List (Option Int)) := ⟨by decide⟩
instance : Low (Option (List Int)) := ⟨by decide⟩
theorem eqO_E {α : Type} [Rp α] [RpD α] [DecidableEq α] [RpE α] (x y : α) : eqO x y = some (decide (x = y)) := by
  have hs : ∀ z : α, SeqAt.shaped (RpD.d z) = true := fun z => by
    unfold SeqAt.shaped
    rw [RpE.lay, Bool.true_and, decide_eq_true_eq]
    have := RpE.dep z
    have := RpE.hk (α := α)
    omega
  rw [eqO, if_pos ⟨hs x, hs y⟩, RpE.eqv]
/-- a value beside one that may be none -/
theorem eqO_so {α β : Type} [Rp α] [RpD α] [Rp β] [RpD β] (x : α) (y : β) : eqO (some x) y = eqO x y := rfl
theorem eqO_os {α β : Type} [Rp α] [RpD α] [Rp β] [RpD β] (x : α) (y : β) : eqO x (some y) = eqO x y := rfl
end PB
namespace PB
open PySem PySem.Spec PyProof.Rows L2
def m__law_deck (x_cell : Int) (x_k : Int) : Option (List Int) :=
if decide (x_cell ≥ 1000000000000000000) then (some ([(x_cell - 1000000000000000000), 0, x_k] : List Int)) else
some ([x_cell, 1, x_k] : List Int)

def m__law_take (x_deck : (List Int)) (x_many : Int) : Option (Int × (List Int)) :=
Option.bind (atI x_deck 1) fun x1 =>
if (decide (x1 = 0)) then (Option.bind (atI x_deck 0) fun x4 =>
Option.bind (modO x4 x_many) fun x6 =>
Option.bind (atI x_deck 0) fun x8 =>
Option.bind (fdivO x8 x_many) fun x10 =>
Option.bind (setO x_deck 0 x10) fun x12 =>
some (x6, x12)) else
Option.bind (atI x_deck 2) fun x16 =>
Option.bind (setO x_deck 2 (x16 + 1)) fun x18 =>
Option.bind (atI x18 0) fun x22 =>
Option.bind (atI x18 2) fun x24 =>
Option.bind (atI x18 2) fun x26 =>
Option.bind (mulO x24 x26) fun x28 =>
Option.bind (mulO (x22 % 2147483647) (x28 + 48271)) fun x30 =>
Option.bind (atI x18 2) fun x32 =>
Option.bind (mulO (((x30 + x32) + 7) % 2147483629) (((x30 + x32) + 7) % 2147483629)) fun x34 =>
Option.bind (mulO (x34 % 2147483587) 69621) fun x36 =>
Option.bind (modO ((x36 % 2147483563) / 8) x_many) fun x38 =>
some (x38, x18)

def m__law_number (x_deck : (List Int)) : Option (Int × (List Int)) :=
Option.bind (m__law_take x_deck 6) fun r1 =>
if decide (r1.1 < 4) then (Option.bind (atI ([3, 10, 60, 1000000] : List Int) r1.1) fun x15 =>
Option.bind (m__law_take r1.2 x15) fun r17 =>
some (r17.1, r17.2)) else
if (decide (r1.1 = 4)) then (Option.bind (m__law_take r1.2 1000000000000) fun r27 =>
some (r27.1, r27.2)) else
Option.bind (m__law_take r1.2 4) fun r40 =>
Option.bind (atI ([0, 1000000000000, (1000000000000 - 1), (100000000000 + 3)] : List Int) r40.1) fun x49 =>
some (x49, r40.2)

def m__law_row (x_deck : (List Int)) (x_most : Int) : Option ((List Int) × (List Int)) :=
Option.bind (m__law_take x_deck 5) fun r8 =>
Option.bind (atI ([3, 10, 60, 1000000, 1000000000000] : List Int) r8.1) fun x17 =>
Option.bind (m__law_take r8.2 x_most) fun r19 =>
Option.bind (range1 (1 + r19.1)) fun x29 =>
Option.bind (foldO (fun (x34 : Int) (b32 : (List Int) × (List Int)) => Option.bind (m__law_take b32.1 6) fun r45 =>
Option.bind (if (decide (r45.1 = 0)) then Option.bind (m__law_number r45.2) fun r57 => some (r57.1, r57.2) else Option.bind (m__law_take r45.2 x17) fun r66 => some (r66.1, r66.2)) fun x75 =>
Option.bind (appO b32.2 x75.1) fun x80 =>
some (x75.2, x80)) x29 (r19.2, ([] : List Int))) fun o37 =>
some (o37.2, o37.1)

def m_X_read_number (x_word : PySem.Str) : Option (Except Er Int) :=
Option.bind (lenSO x_word) fun x1 =>
Option.bind (if (!((decide (1 ≤ x1)) && (decide (x1 ≤ 13)))) then some true else Option.bind (atS x_word 0) fun x11 => some (((decide (x11 = ("0" : PySem.Str))) && (!decide (x_word = ("0" : PySem.Str)))))) fun x18 =>
if x18 then (some (.error .text)) else
Option.bind (forO (ρ := (Except Er Int)) (fun (x27 : PySem.Str) (b25 : Unit) => Option.bind (inSO x27 ("0123456789" : PySem.Str)) fun x38 =>
if (!x38) then (some (.ret (.error .text))) else
some (.go ())) (charsT x_word) ()) fun o30 =>
match o30 with
| .ret r => some r
| .brk _ => none
| .go s42 => Option.bind (intSO x_word) fun x47 =>
some (.ok x47)

def m_X_read_row (x_text : PySem.Str) : Option (Except Er (List Int)) :=
Option.bind (splitO x_text (" " : PySem.Str)) fun x1 =>
Option.bind (mapXO (fun (x7 : PySem.Str) => (Option.bind (m_X_read_number x7) fun r20 =>
match r20 with
| .error c28 => (some (.error c28))
| .ok y26 =>
some (.ok y26) : Option (Except Er Int))) x1) fun x17 =>
match x17 with
| .error c41 => some (.error c41)
| .ok y39 =>
some (.ok y39)

def m__law_number_in (x_word : PySem.Str) : Option (Option Int) :=
Option.bind (lenSO x_word) fun x1 =>
Option.bind (if (!((decide (1 ≤ x1)) && (decide (x1 ≤ 13)))) then some true else Option.bind (atS x_word 0) fun x11 => some (((decide (x11 = ("0" : PySem.Str))) && (!decide (x_word = ("0" : PySem.Str)))))) fun x18 =>
if x18 then (some (none : (Option Int))) else
Option.bind (mapO (fun (x24 : PySem.Str) => Option.bind (inSO x24 ("0123456789" : PySem.Str)) fun x33 => some x33) (charsT x_word)) fun x40 =>
Option.bind (if (List.all x40 id) then Option.bind (intSO x_word) fun x46 => some (some x46) else some (none : (Option Int))) fun x52 =>
some x52

def m__law_right (x_text : PySem.Str) : Option Bool :=
Option.bind (m_X_read_row x_text) fun r4 =>
match r4 with
| .error c12 => (Option.bind (appO ([(Er.sub c12 .text), (Er.sub c12 .cut)] : List Bool) (List.any [Er.command, Er.many, Er.number, Er.place] (Er.sub c12))) fun x27 =>
Option.bind (splitO x_text (" " : PySem.Str)) fun x31 =>
Option.bind (mapO (fun (x37 : PySem.Str) => Option.bind (m__law_number_in x37) fun r46 => some r46) x31) fun x57 =>
if (List.any x57 Option.isNone) then (Option.bind (eqO (x27 : (List Bool)) (([true, true, false] : List Bool) : (List Bool))) fun x65 =>
some x65) else
Option.bind (eqO (x27 : (List Bool)) (([] : List Int) : (List Int))) fun x71 =>
Option.bind (if x71 then Option.bind (reprO (() : Unit)) fun x76 => Option.bind (reprO (x57 : (List (Option Int)))) fun x78 => some ((decide (x76 = x78))) else some false) fun x80 =>
some x80)
| .ok y10 =>
Option.bind (splitO x_text (" " : PySem.Str)) fun x86 =>
Option.bind (mapO (fun (x92 : PySem.Str) => Option.bind (m__law_number_in x92) fun r101 => some r101) x86) fun x112 =>
if (List.any x112 Option.isNone) then (Option.bind (eqO (([] : List Int) : (List Int)) (([true, true, false] : List Bool) : (List Bool))) fun x120 =>
some x120) else
Option.bind (eqO (([] : List Int) : (List Int)) (([] : List Int) : (List Int))) fun x126 =>
Option.bind (if x126 then Option.bind (reprO (y10 : (List Int))) fun x131 => Option.bind (reprO (x112 : (List (Option Int)))) fun x133 => some ((decide (x131 = x133))) else some false) fun x135 =>
some x135

def m__law_bad (x_deck : (List Int)) : Option (PySem.Str × (List Int)) :=
Option.bind (repS ("9" : PySem.Str) 14) fun x1 =>
Option.bind (repS ("1" : PySem.Str) 13) fun x6 =>
Option.bind (repS ("0" : PySem.Str) 12) fun x8 =>
Option.bind (catS ("1" : PySem.Str) x8) fun x10 =>
Option.bind (repS ("0" : PySem.Str) 13) fun x12 =>
Option.bind (repS ("7" : PySem.Str) 900) fun x14 =>
Option.bind (catO ([("" : PySem.Str), ("-" : PySem.Str), ("00" : PySem.Str), ("01" : PySem.Str), ("-0" : PySem.Str), ("-1" : PySem.Str), ("+1" : PySem.Str), ("1.0" : PySem.Str), ("1_0" : PySem.Str), ("x" : PySem.Str), ("0x1" : PySem.Str), ("1-" : PySem.Str), ("1e3" : PySem.Str), x1] : List PySem.Str) ([x6, x10, x12, x14, ("1,2" : PySem.Str), ("1\n" : PySem.Str)] : List PySem.Str)) fun x20 =>
Option.bind (lenSO ("!#$'()*./:;<=>?@BMXY[]^`{|}~abz" : PySem.Str)) fun x25 =>
Option.bind (m__law_take x_deck x25) fun r27 =>
Option.bind (atS ("!#$'()*./:;<=>?@BMXY[]^`{|}~abz" : PySem.Str) r27.1) fun x36 =>
Option.bind (appO x20 x36) fun x38 =>
Option.bind (lenSO ("!#$'()*./:;<=>?@BMXY[]^`{|}~abz" : PySem.Str)) fun x42 =>
Option.bind (m__law_take r27.2 x42) fun r44 =>
Option.bind (atS ("!#$'()*./:;<=>?@BMXY[]^`{|}~abz" : PySem.Str) r44.1) fun x53 =>
Option.bind (catS ("1" : PySem.Str) x53) fun x55 =>
Option.bind (appO x38 x55) fun x57 =>
Option.bind (m__law_take r44.2 (lenI x57)) fun r61 =>
Option.bind (atI x57 r61.1) fun x70 =>
some (x70, r61.2)

def m__law_spoilt (x_deck : (List Int)) (x_text : PySem.Str) : Option (PySem.Str × (List Int)) :=
Option.bind (m__law_take x_deck 5) fun r1 =>
Option.bind (lenSO x_text) fun x10 =>
Option.bind (m__law_take r1.2 (x10 + 1)) fun r12 =>
Option.bind (m__law_take r12.2 9) fun r21 =>
Option.bind (atS (" 0129-_a\n" : PySem.Str) r21.1) fun x30 =>
if (decide (r1.1 = 0)) then (Option.bind (sliceS x_text none (some r12.1)) fun x33 =>
Option.bind (sliceS x_text (some (r12.1 + 1)) none) fun x35 =>
Option.bind (catS x33 x35) fun x37 =>
some (x37, r21.2)) else
if decide (r1.1 < 3) then (Option.bind (sliceS x_text none (some r12.1)) fun x40 =>
Option.bind (catS x40 x30) fun x42 =>
Option.bind (sliceS x_text (some ((r12.1 + r1.1) - 1)) none) fun x44 =>
Option.bind (catS x42 x44) fun x46 =>
some (x46, r21.2)) else
Option.bind (splitO x_text (" " : PySem.Str)) fun x48 =>
Option.bind (m__law_take r21.2 ((lenI x48) + 1)) fun r54 =>
Option.bind (m__law_bad r54.2) fun r67 =>
Option.bind (catO (sliceI x48 none (some r54.1)) ([r67.1] : List PySem.Str)) fun x80 =>
Option.bind (catO x80 (sliceI x48 (some ((r54.1 + r1.1) - 3)) none)) fun x90 =>
Option.bind (joinO (" " : PySem.Str) x90) fun x96 =>
some (x96, r67.2)

def m_law (x_script : Scr) : Option Bool :=
Option.bind (catO (sliceI x_script.l none (some 40)) ([0, 1] : List Int)) fun x11 =>
Option.bind (forO (ρ := Bool) (fun (x20 : Int) (b18 : Unit) => Option.bind (m__law_deck x20 5) fun r31 =>
Option.bind (m__law_take r31 6) fun r42 =>
Option.bind (atI ([20, 120] : List Int) (if (decide (r42.1 = 0)) then 1 else 0)) fun x51 =>
Option.bind (m__law_row r42.2 x51) fun r53 =>
Option.bind (mapO (fun (x63 : Int) => Option.bind (strO x63) fun x72 => some x72) r53.1) fun x79 =>
Option.bind (joinO (" " : PySem.Str) x79) fun x82 =>
Option.bind (m__law_right x82) fun r84 =>
Option.bind (if (!r84) then some (true, r53.2) else Option.bind (m__law_spoilt r53.2 x82) fun r93 => Option.bind (m__law_right r93.1) fun r102 => some ((!r102), r93.2)) fun x108 =>
if x108.1 then (some (.ret false)) else
some (.go ())) x11 ()) fun o23 =>
match o23 with
| .ret r => some r
| .brk _ => none
| .go s116 => Option.bind (repO ([("0" : PySem.Str)] : List PySem.Str) 1500) fun x125 =>
Option.bind (joinO (" " : PySem.Str) x125) fun x131 =>
Option.bind (m__law_right x131) fun r133 =>
Option.bind (if r133 then Option.bind (repO ([("7" : PySem.Str)] : List PySem.Str) 1499) fun x146 => Option.bind (catO x146 ([("07" : PySem.Str)] : List PySem.Str)) fun x156 => Option.bind (joinO (" " : PySem.Str) x156) fun x162 => Option.bind (m__law_right x162) fun r164 => some (r164) else some false) fun x171 =>
some x171
/-! ### rowdef -/
/-- a row as the laws draw it -/
def Row (ns : List Int) : Prop := 1 ≤ ns.length ∧ ns.length ≤ 120 ∧ ∀ n ∈ ns, 0 ≤ n ∧ n ≤ 1000000000000
/-! ### decks -/
/-! the drawing of the texts' laws -/
def Dk (b : Nat) (d : List Int) : Prop := ∃ x m c : Int, d = [x, m, c] ∧ 0 ≤ c ∧ c ≤ b
theorem Dk.mono {b c : Nat} {d : List Int} (h : Dk b d) (hb : b ≤ c) : Dk c d := by
  obtain ⟨x, m, e, h1, h2, h3⟩ := h
  exact ⟨x, m, e, h1, h2, by omega⟩
theorem deck_ok {cell k : Int} (h0 : 0 ≤ k) (h1 : k ≤ 10) : OkP (m__law_deck cell k) (Dk 10) := by
  unfold m__law_deck
  exact Ok.ite (fun _ => Ok.some ⟨_, _, _, rfl, h0, h1⟩) fun _ => Ok.some ⟨_, _, _, rfl, h0, h1⟩
theorem take_ok {b : Nat} {d : List Int} {m : Int} (h : Dk b d) (hb : b ≤ 1000000000) (h0 : 0 < m) (h1 : m.natAbs < 2 ^ 250) : OkP (m__law_take d m) fun r => 0 ≤ r.1 ∧ r.1 < m ∧ Dk (b + 1) r.2 := by
  obtain ⟨x, md, c, rfl, c0, c1⟩ := h
  unfold m__law_take
  refine Ok.bindE (x := md) rfl (Ok.ite (fun _ => ?_) fun _ => ?_)
  · exact Ok.bindE (x := x) rfl (Ok.bindE (modO_s h0) (Ok.bindE (x := x) rfl (Ok.bindE (fdivO_s h0 h1) (Ok.bindE (x := [x / m, md, c]) rfl (Ok.some ⟨Int.emod_nonneg _ (by omega), Int.emod_lt_of_pos _ h0, _, _, _, rfl, c0, by omega⟩)))))
  · have hcc : 0 ≤ (c + 1) * (c + 1) ∧ (c + 1) * (c + 1) ≤ 1000000001 * 1000000001 := ⟨Int.mul_nonneg (by omega) (by omega), Int.mul_le_mul (by omega) (by omega) (by omega) (by decide)⟩
    have hx1 := Int.emod_nonneg x (show (2147483647 : Int) ≠ 0 by decide)
    have hx2 := Int.emod_lt_of_pos x (show (0 : Int) < 2147483647 by decide)
    refine Ok.bindE (x := c) rfl (Ok.bindE (x := [x, md, c + 1]) rfl (Ok.bindE (x := x) rfl (Ok.bindE (x := c + 1) rfl (Ok.bindE (x := c + 1) rfl (Ok.bindE (mulO_s (by omega) (by omega)) (Ok.bindE (mulO_s (by omega) (by omega)) (Ok.bindE (x := c + 1) rfl ?_)))))))
    generalize x % 2147483647 * ((c + 1) * (c + 1) + 48271) + (c + 1) + 7 = z
    have hz1 := Int.emod_nonneg z (show (2147483629 : Int) ≠ 0 by decide)
    have hz2 := Int.emod_lt_of_pos z (show (0 : Int) < 2147483629 by decide)
    refine Ok.bindE (mulO_s (by omega) (by omega)) ?_
    generalize z % 2147483629 * (z % 2147483629) = y
    have hy1 := Int.emod_nonneg y (show (2147483587 : Int) ≠ 0 by decide)
    have hy2 := Int.emod_lt_of_pos y (show (0 : Int) < 2147483587 by decide)
    exact Ok.bindE (mulO_s (by omega) (by decide)) (Ok.bindE (modO_s h0) (Ok.some ⟨Int.emod_nonneg _ (by omega), Int.emod_lt_of_pos _ h0, _, _, _, rfl, by omega, by omega⟩))
theorem number_ok {b : Nat} {d : List Int} (h : Dk b d) (hb : b ≤ 100000000) : OkP (m__law_number d) fun r => 0 ≤ r.1 ∧ r.1 ≤ 1000000000000 ∧ Dk (b + 2) r.2 := by
  unfold m__law_number
  refine Ok.bind (take_ok h (by omega) (by decide) (by decide)) fun r hr => Ok.ite (fun hc => ?_) fun hc => Ok.ite (fun _ => ?_) fun _ => ?_
  · have hc := of_decide_eq_true hc
    refine Ok.bind (atI_bnd (lo := 3) (hi := 1000000) (fun n hn => by simp at hn; omega) hr.1 (by simp; omega)) fun x hx => Ok.bind (take_ok hr.2.2 (by omega) (by omega) (by omega)) fun q hq => Ok.some ⟨hq.1, by have := hq.2.1; dsimp only; omega, hq.2.2⟩
  · exact Ok.bind (take_ok hr.2.2 (by omega) (by decide) (by decide)) fun q hq => Ok.some ⟨hq.1, by have := hq.2.1; dsimp only; omega, hq.2.2⟩
  · exact Ok.bind (take_ok hr.2.2 (by omega) (by decide) (by decide)) fun q hq => Ok.bind (atI_bnd (lo := 0) (hi := 1000000000000) (fun n hn => by simp at hn; omega) hq.1 (by simp; exact hq.2.1)) fun x hx => Ok.some ⟨hx.1, hx.2, hq.2.2⟩
theorem row_ok {b : Nat} {d : List Int} {most : Int} (h : Dk b d) (hb : b ≤ 10000000) (h1 : 1 ≤ most) (h2 : most ≤ 120) : OkP (m__law_row d most) fun r => Row r.1 ∧ Dk (b + 400) r.2 := by
  unfold m__law_row
  refine Ok.bind (take_ok h (by omega) (by decide) (by decide)) fun r1 q1 => Ok.bind (atI_bnd (lo := 3) (hi := 1000000000000) (fun n hn => by simp at hn; omega) q1.1 (by simp; exact q1.2.1)) fun size hs => Ok.bind (take_ok q1.2.2 (by omega) (by omega) (by omega)) fun r2 q2 => ?_
  have e2 := q2.1
  have e3 := q2.2.1
  refine Ok.bindE (range1_s (by omega) (by omega)) (Ok.bind (Ok.foldI (fun i (s : List Int × List Int) => Dk (b + 2 + 3 * i) s.1 ∧ s.2.length = i ∧ ∀ n ∈ s.2, 0 ≤ n ∧ n ≤ 1000000000000) ⟨q2.2.2, rfl, fun n hn => nomatch hn⟩ fun i x s hx hsI => ?_) fun o ho => Ok.some ?_)
  · have hi := (List.getElem?_eq_some_iff.mp hx).1
    rw [rangeF_len] at hi
    obtain ⟨s1, s2, s3⟩ := hsI
    refine Ok.bind (take_ok s1 (by omega) (by decide) (by decide)) fun r3 q3 => Ok.bind (P := fun z => 0 ≤ z.1 ∧ z.1 ≤ 1000000000000 ∧ Dk (b + 2 + 3 * (i + 1)) z.2) (Ok.ite (fun _ => ?_) fun _ => ?_) fun z hz => Ok.bindE (appO_s (by omega)) (Ok.some ⟨hz.2.2, by simp [s2], fun n hn => ?_⟩)
    · exact Ok.bind (number_ok q3.2.2 (by omega)) fun r4 q4 => Ok.some ⟨q4.1, q4.2.1, q4.2.2.mono (by omega)⟩
    · exact Ok.bind (take_ok q3.2.2 (by omega) (by omega) (by omega)) fun r4 q4 => Ok.some ⟨q4.1, by have := q4.2.1; dsimp only; omega, q4.2.2.mono (by omega)⟩
    · rcases List.mem_append.mp hn with hn | hn
      · exact s3 n hn
      · rw [List.mem_singleton.mp hn]
        exact ⟨hz.1, hz.2.1⟩
  · rw [rangeF_len] at ho
    obtain ⟨o1, o2, o3⟩ := ho
    exact ⟨⟨by dsimp only; omega, by dsimp only; omega, o3⟩, o1.mono (by omega)⟩
/-! ### numtext -/
/-! numbers as texts -/
open TL in
theorem dummy_tl : True := trivial
def sI (n : Int) : PySem.Str := PySem.Str.ofString (toString n)
def Small (n : Int) : Prop := 0 ≤ n ∧ n < 10000000000000
theorem sI_tl {n : Int} (h : 0 ≤ n) : TL.tl (sI n) = TL.numL n.toNat := by
  obtain ⟨m, rfl⟩ := Int.eq_ofNat_of_zero_le h
  exact TL.tl_num m
theorem sI_len {n : Int} (h : Small n) : (sI n).length ≤ 13 ∧ 1 ≤ (sI n).length := by
  rw [TL.len_tl, sI_tl h.1]
  refine ⟨TL.numL_len (by decide) (by have := h.2; have := h.1; omega), ?_⟩
  have := TL.numL_ne n.toNat
  exact List.length_pos_iff.mpr this
theorem str_ok {n : Int} (h : Small n) : strO n = some (sI n) := by
  unfold strO
  rw [if_pos]
  · rfl
  · have := h.2
    have := h.1
    by_cases h0 : n.natAbs = 0
    · rw [h0]; decide
    · exact (Nat.log2_lt h0).mpr (Nat.lt_of_lt_of_le (show n.natAbs < 2 ^ 64 by omega) (Nat.pow_le_pow_right (by decide) (by decide)))
theorem numL_head : ∀ (m n : Nat), n ≤ m → ∀ {c : Nat} {r : List Nat}, TL.numL n = c :: r → c = 48 → n = 0
  | 0, n, hn, c, r, h, hc => by omega
  | m + 1, n, hn, c, r, h, hc => by
    by_cases h10 : n < 10
    · rw [TL.numL_lt h10] at h
      injection h with h1 h2
      omega
    · rw [TL.numL_step (by omega)] at h
      cases q : TL.numL (n / 10) with
      | nil => exact absurd q (TL.numL_ne _)
      | cons d s =>
        rw [q] at h
        injection h with h1 h2
        have := numL_head m (n / 10) (by omega) q (by omega)
        omega
theorem figs {c : Nat} (h1 : 48 ≤ c) (h2 : c ≤ 57) : c ∈ ("0123456789" : PySem.Str).cps.toList := by
  have : ∀ c, c < 58 → 48 ≤ c → c ∈ ("0123456789" : PySem.Str).cps.toList := by decide +kernel
  exact this c (by omega) h1
theorem sI_digit {n : Int} (h : 0 ≤ n) : ∀ c ∈ (sI n).cps.toList, 48 ≤ c ∧ c ≤ 57 := fun c hc => by
  have e : (sI n).cps.toList = TL.numL n.toNat := sI_tl h
  rw [e] at hc
  exact TL.numL_digits _ c hc
theorem sI_int {n : Int} (h : Small n) : intSO (sI n) = some n := by
  have hl := sI_len h
  unfold intSO
  rw [if_pos (by omega)]
  obtain ⟨m, rfl⟩ := Int.eq_ofNat_of_zero_le h.1
  refine TL.int_num ?_
  have := hl.1
  rw [TL.len_tl, sI_tl h.1, Int.toNat_natCast] at this
  omega
theorem sI_at {n : Int} (h : Small n) : ∃ c r, (sI n).cps.toList = c :: r ∧ atS (sI n) 0 = some ⟨#[c]⟩ ∧ (c = 48 → n = 0) := by
  have hl := sI_len h
  have e : (sI n).cps.toList = TL.numL n.toNat := sI_tl h.1
  cases q : TL.numL n.toNat with
  | nil => exact absurd q (TL.numL_ne _)
  | cons c r =>
    refine ⟨c, r, by rw [e, q], ?_, fun hc => ?_⟩
    · unfold atS
      rw [if_pos (show (sI n).length ≤ sizeLine from Nat.le_trans hl.1 (by decide)), e, q, show atI (c :: r) (0 : Int) = some c from atI_get (n := 0) rfl rfl]
      rfl
    · have := numL_head _ _ (Nat.le_refl _) q hc
      have := h.1
      omega
theorem spc : TL.tl (" " : PySem.Str) = 32 :: [] := by rfl
theorem join_len : ∀ (ns : List Int), (∀ n ∈ ns, Small n) → ((ns.map sI).map (·.length)).sum ≤ 13 * ns.length
  | [], _ => Nat.le_refl _
  | n :: ns, h => by
    have := join_len ns fun x hx => h x (List.mem_cons_of_mem _ hx)
    have := (sI_len (h n List.mem_cons_self)).1
    simp only [List.map_cons, List.sum_cons, List.length_cons]
    omega
def shown (ns : List Int) : PySem.Str := Txt.join (" " : PySem.Str) (ns.map sI)
theorem join_ok {ns : List Int} (h : ∀ n ∈ ns, Small n) (hl : ns.length ≤ 3000) : joinO (" " : PySem.Str) (ns.map sI) = some (shown ns) := by
  have := join_len ns h
  refine if_pos ?_
  rw [List.length_map, show (" " : PySem.Str).length = 1 from rfl]
  omega
theorem shown_len {ns : List Int} (h : ∀ n ∈ ns, Small n) : (shown ns).length ≤ 14 * ns.length := by
  unfold shown
  rw [TL.join_eq, TL.len_tl, TL.tl_join, spc]
  induction ns with
  | nil => exact Nat.le_refl _
  | cons n ns ih =>
    have ih := ih fun x hx => h x (List.mem_cons_of_mem _ hx)
    have hn := (sI_len (h n List.mem_cons_self)).1
    rw [TL.len_tl] at hn
    cases ns with
    | nil =>
      show (TL.tl (sI n)).length ≤ 14 * 1
      omega
    | cons y ys =>
      simp only [List.map_cons] at ih ⊢
      rw [TL.joinL, List.length_append, List.length_append, List.length_cons (as := ([] : List Nat))]
      simp only [List.length_cons, List.length_nil] at ih ⊢
      omega
theorem split_ok {ns : List Int} (h : ∀ n ∈ ns, Small n) (hne : ns ≠ []) (hl : ns.length ≤ 3000) : splitO (shown ns) (" " : PySem.Str) = some (ns.map sI) := by
  have := shown_len h
  unfold splitO
  rw [if_pos ⟨by rfl, by show _ ≤ 16777216; omega⟩]
  refine congrArg some (TL.split_join spc (by decide +kernel) (fun e => hne (List.map_eq_nil_iff.mp e)) fun p hp => ?_)
  obtain ⟨n, hn, rfl⟩ := List.mem_map.mp hp
  rw [sI_tl (h n hn).1]
  exact TL.numL_free (.inl (by decide))
theorem joinL_mem (S : List Nat) : ∀ (ps : List (List Nat)) (c : Nat), c ∈ TL.joinL S ps → c ∈ S ∨ ∃ p ∈ ps, c ∈ p
  | [], c, h => by cases h
  | [p], c, h => .inr ⟨p, List.mem_cons_self, h⟩
  | p :: q :: r, c, h => by
    rw [TL.joinL] at h
    rcases List.mem_append.mp h with h | h
    · exact .inr ⟨p, List.mem_cons_self, h⟩
    · rcases List.mem_append.mp h with h | h
      · exact .inl h
      · rcases joinL_mem S (q :: r) c h with h | ⟨z, h1, h2⟩
        · exact .inl h
        · exact .inr ⟨z, List.mem_cons_of_mem _ h1, h2⟩
theorem shown_asc {ns : List Int} (h : ∀ n ∈ ns, Small n) : PyData.strOk (shown ns) = true := by
  show (shown ns).cps.all (· < 0x110000) = true
  rw [← Array.all_toList, List.all_eq_true]
  intro c hc
  have e : (shown ns).cps.toList = TL.joinL [32] ((ns.map sI).map TL.tl) := by
    show TL.tl (shown ns) = _
    unfold shown
    rw [TL.join_eq, TL.tl_join, spc]
  rw [e] at hc
  refine decide_eq_true ?_
  rcases joinL_mem _ _ _ hc with hc | ⟨p, hp, hc⟩
  · rw [List.mem_singleton.mp hc]; decide
  · obtain ⟨x, hx, rfl⟩ := List.mem_map.mp hp
    obtain ⟨n, hn, rfl⟩ := List.mem_map.mp hx
    have := sI_digit (h n hn).1 c hc
    omega
theorem eqO_s2 {a b : PySem.Str} (ha : PyData.strOk a = true) (hb : PyData.strOk b = true) : eqO [a, b] [a, b] = some true := by
  have hs : SeqAt.shaped (RpD.d [a, b]) = true := by
    show SeqAt.shaped (.list [.str a, .str b]) = true
    unfold SeqAt.shaped
    simp [PyData.canLay0, PyData.canLayAll0, PyData.depth, PyData.depthAll, ha, hb]
  unfold eqO
  rw [if_pos ⟨hs, hs⟩]
  show some (PyData.eqv (.list [.str a, .str b]) (.list [.str a, .str b])) = _
  simp [PyData.eqv, PyData.eqvAll]
theorem row_small {ns : List Int} (h : Row ns) : ∀ n ∈ ns, Small n := fun n hn => by
  have := h.2.2 n hn
  exact ⟨this.1, by omega⟩
/-! ### cmpinv -/
/-- a comprehension with a test and a state -/
theorem cmpG_inv {α β γ : Type} {f : α → β → Option (Option γ × β)} (I : Nat → β → Prop) (P : γ → Prop) : ∀ {xs : List α} {b : β} {i : Nat}, I i b → (∀ x ∈ xs, ∀ j b, j < i + xs.length → I j b → OkP (f x b) fun r => (∀ y, r.1 = some y → P y) ∧ I (j + 1) r.2) →
    OkP (cmpSG f xs b) fun r => r.1.length ≤ xs.length ∧ (∀ y ∈ r.1, P y) ∧ I (i + xs.length) r.2
  | [], b, i, h0, _ => ⟨_, rfl, Nat.le_refl _, (fun _ h => nomatch h), h0⟩
  | x :: xs, b, i, h0, h => by
    obtain ⟨⟨o, b1⟩, e, h1, h2⟩ := h x List.mem_cons_self i b (by simp) h0
    dsimp only at h1 h2
    obtain ⟨q, e2, h3, h4, h5⟩ := cmpG_inv I P (xs := xs) (b := b1) (i := i + 1) h2 fun y hy j b hj => h y (List.mem_cons_of_mem _ hy) j b (by simp; omega)
    refine ⟨(o.toList ++ q.1, q.2), ?_, ?_, fun y hy => ?_, ?_⟩
    · rw [cmpSG, e]
      show (cmpSG f xs b1).bind _ = _
      rw [e2]
      cases o <;> rfl
    · cases o <;> simp <;> omega
    · rcases List.mem_append.mp hy with hy | hy
      · cases o with
        | none => cases hy
        | some z =>
          have : y = z := by simpa using hy
          exact h1 y (by rw [this])
      · exact h4 y hy
    · dsimp only
      rw [List.length_cons, show i + (xs.length + 1) = i + 1 + xs.length by omega]
      exact h5
theorem cmpS_inv {α β γ : Type} {f : α → β → Option (Option γ × β)} (I : Nat → β → Prop) (P : γ → Prop) {xs : List α} {b : β} {i : Nat} (hz : xs.length ≤ 16777216) (h0 : I i b) (h : ∀ x ∈ xs, ∀ j b, j < i + xs.length → I j b → OkP (f x b) fun r => (∀ y, r.1 = some y → P y) ∧ I (j + 1) r.2) :
    OkP (cmpSO f xs b) fun r => r.1.length ≤ xs.length ∧ (∀ y ∈ r.1, P y) ∧ I (i + xs.length) r.2 := by
  rw [cmpSO, if_pos (show xs.length ≤ sizeLine from hz)]
  exact cmpG_inv I P h0 h
/-- a comprehension with a state -/
theorem mapS_inv {α β γ : Type} {f : α → β → Option (γ × β)} (I : Nat → β → Prop) (P : γ → Prop) {xs : List α} {b : β} {i : Nat} (hz : xs.length ≤ 16777216) (h0 : I i b) (h : ∀ x ∈ xs, ∀ j b, j < i + xs.length → I j b → OkP (f x b) fun r => P r.1 ∧ I (j + 1) r.2) :
    OkP (mapSO f xs b) fun r => r.1.length = xs.length ∧ (∀ y ∈ r.1, P y) ∧ I (i + xs.length) r.2 := by
  rw [mapSO, if_pos (show xs.length ≤ sizeLine from hz)]
  clear hz
  induction xs generalizing b i with
  | nil => exact ⟨_, rfl, rfl, (fun _ h => nomatch h), h0⟩
  | cons x xs ih =>
    obtain ⟨⟨y, b1⟩, e, h1, h2⟩ := h x List.mem_cons_self i b (by simp) h0
    dsimp only at h1 h2
    obtain ⟨q, e2, h3, h4, h5⟩ := ih (b := b1) (i := i + 1) h2 fun y hy j b hj => h y (List.mem_cons_of_mem _ hy) j b (by simp; omega)
    refine ⟨(y :: q.1, q.2), ?_, ?_, fun z hz => ?_, ?_⟩
    · rw [mapSG, e]
      show (mapSG f xs b1).bind _ = _
      rw [e2]
      rfl
    · simp [h3]
    · rcases List.mem_cons.mp hz with rfl | hz
      · exact h1
      · exact h4 z hz
    · dsimp only
      rw [List.length_cons, show i + (xs.length + 1) = i + 1 + xs.length by omega]
      exact h5
/-! ### words -/
/-! words that are numbers; texts cut at blanks -/
def FIG : List Nat := ("0123456789" : PySem.Str).cps.toList
theorem fig_in {c : Nat} (h : c ∈ FIG) : 48 ≤ c ∧ c ≤ 57 := by
  have e : FIG = [48, 49, 50, 51, 52, 53, 54, 55, 56, 57] := by decide +kernel
  rw [e] at h
  simp at h
  omega
def badW (w : PySem.Str) : Bool := !(decide (1 ≤ (w.length : Int)) && decide ((w.length : Int) ≤ 13)) || (decide (w.cps.toList.head? = some 48) && !decide (w = ("0" : PySem.Str)))
def isN (w : PySem.Str) : Bool := !badW w && w.cps.toList.all fun c => decide (c ∈ FIG)
def dV (w : PySem.Str) : Int := ((NumText.digitsVal w.cps.toList : Nat) : Int)
theorem len_cps (w : PySem.Str) : w.length = w.cps.toList.length := TL.len_tl w
theorem badW_ok (w : PySem.Str) (hl : w.length ≤ 16777216) : Option.bind (lenSO w) (fun x1 => if (!((decide (1 ≤ x1)) && (decide (x1 ≤ 13)))) then some true else Option.bind (atS w 0) fun x11 => some (((decide (x11 = ("0" : PySem.Str))) && (!decide (w = ("0" : PySem.Str)))))) = some (badW w) := by
  refine Ok.eq (Ok.bindE (x := (w.length : Int)) (if_pos hl) ?_)
  unfold badW
  cases hb : (decide (1 ≤ (w.length : Int)) && decide ((w.length : Int) ≤ 13)) with
  | false => exact Ok.some rfl
  | true =>
    refine Ok.iteF rfl ?_
    rw [Bool.and_eq_true, decide_eq_true_eq, decide_eq_true_eq] at hb
    have hlen := len_cps w
    cases q : w.cps.toList with
    | nil => rw [q] at hlen; simp at hlen; omega
    | cons c r =>
      have ha : atS w 0 = some ⟨#[c]⟩ := by
        unfold atS
        rw [if_pos (show w.length ≤ sizeLine from hl), q, show atI (c :: r) (0 : Int) = some c from atI_get (n := 0) rfl rfl]
        rfl
      refine Ok.bindE ha (Ok.some ?_)
      have e : decide ((⟨#[c]⟩ : PySem.Str) = ("0" : PySem.Str)) = decide ((c :: r).head? = some 48) := by
        refine decide_eq_decide.mpr ⟨fun e => ?_, fun e => ?_⟩
        · have e4 : (⟨#[c]⟩ : PySem.Str).cps.toList = ("0" : PySem.Str).cps.toList := by rw [e]
          have e5 : [c] = [48] := e4
          injection e5 with e6
          rw [e6]
          rfl
        · have e : some c = some 48 := e
          cases e
          rfl
      rw [e]
      rfl
theorem dgs_int {w : PySem.Str} (h1 : 1 ≤ w.length) (h2 : w.length ≤ 13) (h : (w.cps.toList.all fun c => decide (c ∈ FIG)) = true) : intSO w = some (dV w) := by
  unfold intSO
  rw [if_pos (by omega)]
  refine PySem.intText_digits (fun c hc => ?_) (fun e => ?_) (by omega)
  · exact fig_in (of_decide_eq_true (List.all_eq_true.mp h c hc))
  · rw [len_cps, e] at h1
    cases h1
theorem isN_len {w : PySem.Str} (h : badW w = false) : 1 ≤ w.length ∧ w.length ≤ 13 := by
  unfold badW at h
  rw [Bool.or_eq_false_iff] at h
  have h1 := h.1
  rw [Bool.not_eq_false', Bool.and_eq_true, decide_eq_true_eq, decide_eq_true_eq] at h1
  omega
theorem dval_lt : ∀ (l : List Nat) (a : Nat), (∀ c ∈ l, 48 ≤ c ∧ c ≤ 57) → l.foldl (fun acc c => acc * 10 + (c - 48)) a < (a + 1) * 10 ^ l.length
  | [], a, _ => by simp
  | c :: l, a, h => by
    have hc := h c List.mem_cons_self
    have ih := dval_lt l (a * 10 + (c - 48)) fun d hd => h d (List.mem_cons_of_mem _ hd)
    rw [List.foldl_cons]
    refine Nat.lt_of_lt_of_le ih ?_
    rw [List.length_cons, Nat.pow_succ, Nat.mul_comm (10 ^ l.length) 10, ← Nat.mul_assoc]
    exact Nat.mul_le_mul_right _ (by omega)
theorem isN_small {w : PySem.Str} (h : isN w = true) : 0 ≤ dV w ∧ dV w < 10000000000000 := by
  unfold isN at h
  rw [Bool.and_eq_true, Bool.not_eq_true'] at h
  obtain ⟨h1, h2⟩ := isN_len h.1
  have := dval_lt w.cps.toList 0 fun c hc => fig_in (of_decide_eq_true (List.all_eq_true.mp h.2 c hc))
  have h3 : 10 ^ w.cps.toList.length ≤ 10 ^ 13 := Nat.pow_le_pow_right (by decide) (by rw [← len_cps]; exact h2)
  unfold dV NumText.digitsVal
  omega
theorem isN_int {w : PySem.Str} (h : isN w = true) : intSO w = some (dV w) := by
  unfold isN at h
  rw [Bool.and_eq_true, Bool.not_eq_true'] at h
  obtain ⟨h1, h2⟩ := isN_len h.1
  exact dgs_int h1 h2 h.2
/-- what is cut at blanks -/
theorem spl_sizes (S : List Nat) : ∀ (l : List Nat) (k : Nat) (acc : List Nat), (TL.spl S k acc l).length ≤ l.length + 1 ∧ ∀ p ∈ TL.spl S k acc l, p.length ≤ acc.length + l.length
  | [], k, acc => by
    rw [TL.spl_nil]
    exact ⟨Nat.le_refl _, fun p hp => by rw [List.mem_singleton.mp hp]; exact Nat.le_refl _⟩
  | c :: r, 0, acc => by
    rw [TL.spl]
    split
    · obtain ⟨h1, h2⟩ := spl_sizes S r (S.length - 1) []
      refine ⟨Nat.succ_le_succ h1, fun p hp => ?_⟩
      rcases List.mem_cons.mp hp with rfl | hp
      · omega
      · have := h2 p hp
        simp at this ⊢
        omega
    · obtain ⟨h1, h2⟩ := spl_sizes S r 0 (acc ++ [c])
      refine ⟨by simp; omega, fun p hp => ?_⟩
      have := h2 p hp
      simp at this ⊢
      omega
  | c :: r, k + 1, acc => by
    rw [TL.spl]
    obtain ⟨h1, h2⟩ := spl_sizes S r k acc
    refine ⟨by simp; omega, fun p hp => ?_⟩
    have := h2 p hp
    simp at this ⊢
    omega
theorem spl_ne (S : List Nat) : ∀ (l : List Nat) (k : Nat) (acc : List Nat), TL.spl S k acc l ≠ []
  | [], k, acc => by rw [TL.spl_nil]; exact List.cons_ne_nil _ _
  | c :: r, 0, acc => by
    rw [TL.spl]
    split
    · exact List.cons_ne_nil _ _
    · exact spl_ne S r 0 _
  | c :: r, k + 1, acc => by
    rw [TL.spl]
    exact spl_ne S r k acc
theorem split_any {t : PySem.Str} (hl : t.length ≤ 1000000) : ∃ ws, splitO t (" " : PySem.Str) = some ws ∧ ws.length ≤ t.length + 1 ∧ ws ≠ [] ∧ (∀ w ∈ ws, w.length ≤ t.length) ∧ ws.map TL.tl = TL.spl [32] 0 [] (TL.tl t) := by
  have e : (Txt.split t (" " : PySem.Str)).map TL.tl = TL.spl [32] 0 [] (TL.tl t) := TL.split_spl t " " (by decide +kernel) (TL.kind_ok (by decide +kernel))
  obtain ⟨h1, h2⟩ := spl_sizes [32] (TL.tl t) 0 []
  refine ⟨Txt.split t (" " : PySem.Str), if_pos ⟨by rfl, by show _ ≤ 16777216; omega⟩, ?_, fun z => ?_, fun w hw => ?_, e⟩
  · have : ((Txt.split t (" " : PySem.Str)).map TL.tl).length ≤ (TL.tl t).length + 1 := by rw [e]; exact h1
    rw [List.length_map, ← TL.len_tl] at this
    exact this
  · have := spl_ne [32] (TL.tl t) 0 []
    rw [← e, z] at this
    exact this rfl
  · have := h2 (TL.tl w) (by rw [← e]; exact List.mem_map_of_mem hw)
    rw [← TL.len_tl, ← TL.len_tl] at this
    simp at this
    exact this
theorem forW_fig {ρ : Type} (r : ρ) : ∀ l : List Nat, forO (ρ := ρ) (fun (x27 : PySem.Str) (b25 : Unit) => Option.bind (inSO x27 ("0123456789" : PySem.Str)) fun x38 =>
if (!x38) then (some (.ret r)) else
some (.go ())) (l.map fun c => (⟨#[c]⟩ : PySem.Str)) () = some (if (l.all fun c => decide (c ∈ FIG)) = true then .go () else .ret r)
  | [] => rfl
  | c :: l => by
    have e : inSO (⟨#[c]⟩ : PySem.Str) ("0123456789" : PySem.Str) = some (decide (c ∈ FIG)) := rfl
    rw [List.map_cons, forO, e]
    cases h : decide (c ∈ FIG) with
    | true =>
      show forO _ (l.map _) () = _
      rw [forW_fig r l]
      simp [h]
    | false => simp [h]
theorem mapX_all {α β : Type} {f : α → Option (Except Er β)} {p : α → Bool} {g : α → β} {c : Er} : ∀ {xs : List α}, (∀ x ∈ xs, f x = some (if p x = true then .ok (g x) else .error c)) → mapXG f xs = some (if xs.all p = true then .ok (xs.map g) else .error c)
  | [], _ => rfl
  | x :: xs, h => by
    rw [mapXG, h x List.mem_cons_self, mapX_all fun y hy => h y (List.mem_cons_of_mem _ hy)]
    cases hp : p x with
    | false => simp [hp]
    | true =>
      cases hq : xs.all p with
      | false => simp [hp, hq]
      | true => simp [hp, hq]
theorem sliceG_from {α : Type} (xs : List α) {i : Int} (h0 : 0 ≤ i) : sliceI xs (some i) none = xs.drop i.toNat := by
  unfold sliceI
  rw [sIx_of h0, HT.sIx_none]
  by_cases h : i.toNat ≤ xs.length
  · rw [Nat.min_eq_left h, List.take_of_length_le (by rw [List.length_drop]; omega)]
  · rw [Nat.min_eq_right (by omega), List.drop_eq_nil_of_le (Nat.le_refl _), List.drop_eq_nil_of_le (by omega), List.take_nil]
theorem sliceG_to {α : Type} (xs : List α) {i : Int} (h0 : 0 ≤ i) : sliceI xs none (some i) = xs.take i.toNat := by
  unfold sliceI
  rw [sIx_of h0, HT.sIx_none]
  show xs.take (min i.toNat xs.length - 0) = _
  rw [Nat.sub_zero]
  by_cases h : i.toNat ≤ xs.length
  · rw [Nat.min_eq_left h]
  · rw [Nat.min_eq_right (by omega), List.take_of_length_le (Nat.le_refl _), List.take_of_length_le (by omega)]
/-! ### numin -/
theorem figmap (w : PySem.Str) (hl : w.length ≤ 16777216) : mapO (fun (x24 : PySem.Str) => Option.bind (inSO x24 ("0123456789" : PySem.Str)) fun x33 => some x33) (charsT w) = some (w.cps.toList.map fun c => decide (c ∈ FIG)) := by
  have hl2 : (charsT w).length ≤ sizeLine := by
    unfold charsT
    rw [List.length_map, ← len_cps]
    exact hl
  rw [mapO, if_pos hl2]
  unfold charsT
  generalize w.cps.toList = l
  induction l with
  | nil => rfl
  | cons c l ih =>
    rw [List.map_cons, mapG, List.map_cons]
    show (some (decide (c ∈ FIG))).bind _ = _
    show Option.bind (mapG _ (l.map _)) _ = _
    rw [ih]
    rfl
theorem numin_ok {w : PySem.Str} (hl : w.length ≤ 16777216) : m__law_number_in w = some (if isN w = true then some (dV w) else none) := by
  unfold m__law_number_in
  rw [show ∀ (A : Bool → Option (Option Int)), Option.bind (lenSO w) (fun x1 => Option.bind (if (!((decide (1 ≤ x1)) && (decide (x1 ≤ 13)))) then some true else Option.bind (atS w 0) fun x11 => some (((decide (x11 = ("0" : PySem.Str))) && (!decide (w = ("0" : PySem.Str)))))) A) = Option.bind (some (badW w)) A from fun A => by
    rw [← badW_ok w hl]
    cases lenSO w <;> rfl]
  refine Ok.eq ?_
  show OkP (if badW w = true then _ else _) _
  cases hb : badW w with
  | true => exact Ok.some (by unfold isN; rw [hb]; rfl)
  | false =>
    refine Ok.iteF rfl (Ok.bindE (figmap w hl) ?_)
    have e : ((w.cps.toList.map fun c => decide (c ∈ FIG)).all id) = w.cps.toList.all fun c => decide (c ∈ FIG) := by rw [List.all_map]; rfl
    rw [e]
    have hi : isN w = w.cps.toList.all fun c => decide (c ∈ FIG) := by unfold isN; rw [hb]; rfl
    cases ha : w.cps.toList.all fun c => decide (c ∈ FIG) with
    | true =>
      rw [ha] at hi
      rw [hi]
      exact Ok.bindE (x := some (dV w)) (Ok.eq (Ok.iteT rfl (Ok.bindE (isN_int hi) (Ok.some rfl)))) (Ok.some rfl)
    | false =>
      rw [ha] at hi
      rw [hi]
      exact Ok.bindE (x := none) rfl (Ok.some rfl)
/-! ### xreads -/
theorem xnum_ok {w : PySem.Str} (hl : w.length ≤ 16777216) : m_X_read_number w = some (if isN w = true then .ok (dV w) else .error .text) := by
  unfold m_X_read_number
  rw [show ∀ (A : Bool → Option (Except Er Int)), Option.bind (lenSO w) (fun x1 => Option.bind (if (!((decide (1 ≤ x1)) && (decide (x1 ≤ 13)))) then some true else Option.bind (atS w 0) fun x11 => some (((decide (x11 = ("0" : PySem.Str))) && (!decide (w = ("0" : PySem.Str)))))) A) = Option.bind (some (badW w)) A from fun A => by
    rw [← badW_ok w hl]
    cases lenSO w <;> rfl]
  refine Ok.eq ?_
  show OkP (if badW w = true then _ else _) _
  cases hb : badW w with
  | true => exact Ok.some (by unfold isN; rw [hb]; rfl)
  | false =>
    have hi : isN w = w.cps.toList.all fun c => decide (c ∈ FIG) := by unfold isN; rw [hb]; rfl
    refine Ok.iteF rfl (Ok.bindE (forW_fig _ w.cps.toList) ?_)
    cases ha : w.cps.toList.all fun c => decide (c ∈ FIG) with
    | true =>
      rw [ha] at hi
      rw [hi]
      exact Ok.bindE (isN_int hi) (Ok.some rfl)
    | false =>
      rw [ha] at hi
      rw [hi]
      exact Ok.some rfl
theorem xrow_ok {t : PySem.Str} {ws : List PySem.Str} (hl : t.length ≤ 1000000) (e : splitO t (" " : PySem.Str) = some ws) (h1 : ws.length ≤ t.length + 1) (h2 : ∀ w ∈ ws, w.length ≤ t.length) :
    m_X_read_row t = some (if ws.all isN = true then .ok (ws.map dV) else .error .text) := by
  unfold m_X_read_row
  refine Ok.eq (Ok.bindE e (Ok.bindE (x := if ws.all isN = true then .ok (ws.map dV) else .error .text) ?_ ?_))
  · rw [mapXO, if_pos (show ws.length ≤ sizeLine by show _ ≤ 16777216; omega)]
    refine mapX_all fun w hw => ?_
    have := h2 w hw
    rw [xnum_ok (by omega)]
    cases isN w <;> rfl
  · cases ws.all isN with
    | true => exact Ok.some rfl
    | false => exact Ok.some rfl
/-! ### k54 -/
theorem reprO_ints2 {ns : List Int} (h : ∀ n ∈ ns, n.natAbs < 2 ^ 64) (hl : ns.length ≤ 3700) : reprO ns = some (txt ns) := by
  refine if_pos ⟨dI_showable h, dI_nodict ns, by show (dI ns).depth ≤ 60; rw [dI_depth]; decide, ?_⟩
  have h1 : (dI ns).leavesShort 65 = true := by
    unfold dI
    rw [PyData.leavesShort, short_ints ns h]
  have h2 := PyData.shown_le 65 (by decide) (dI ns) h1
  have h3 : (dI ns).weight ≤ 66 * ns.length := by
    unfold dI
    rw [PyData.weight]
    exact weight_ints ns h
  rw [sizeLine_eq]
  have h4 : (65 + 2) * (dI ns).weight ≤ 67 * (66 * ns.length) := Nat.mul_le_mul_left _ h3
  show (dI ns).shown.length ≤ _
  omega
theorem repr_some (ns : List Int) : reprO (ns.map some) = reprO ns := by
  have e : RpD.d (ns.map some : List (Option Int)) = RpD.d ns := by
    show PyData.list ((ns.map some).map RpD.d) = PyData.list (ns.map RpD.d)
    rw [List.map_map]
    rfl
  unfold reprO
  rw [e]
theorem right_ok {t : PySem.Str} (hl : t.length ≤ 3690) : m__law_right t = some true := by
  obtain ⟨ws, e, h1, h2, h3, _⟩ := split_any (t := t) (by omega)
  have hx := xrow_ok (by omega) e h1 h3
  have hm : mapO (fun (x37 : PySem.Str) => Option.bind (m__law_number_in x37) fun r46 => some r46) ws = some (ws.map fun w => if isN w = true then some (dV w) else none) := mapO_eq (by show _ ≤ 16777216; omega) fun w hw => by
    have := h3 w hw
    rw [numin_ok (by omega)]
    rfl
  unfold m__law_right
  refine Ok.eq (Ok.bindE hx ?_)
  cases ha : ws.all isN with
  | true =>
    have hd : (ws.map fun w => if isN w = true then some (dV w) else none) = (ws.map dV).map some := by
      rw [List.map_map]
      refine List.map_congr_left fun w hw => ?_
      rw [if_pos (List.all_eq_true.mp ha w hw)]
      rfl
    rw [hd] at hm
    have hn : (((ws.map dV).map some).any Option.isNone) = false := by
      rw [List.any_map]
      simp
    have hrp : reprO (ws.map dV) = some (txt (ws.map dV)) := reprO_ints2 (fun n hn => by
      obtain ⟨w, hw, rfl⟩ := List.mem_map.mp hn
      have := isN_small (List.all_eq_true.mp ha w hw)
      omega) (by rw [List.length_map]; omega)
    show OkP (Option.bind (splitO t _) _) _
    refine Ok.bindE e (Ok.bindE hm (Ok.iteF hn (Ok.bindE (eqO_E _ _) (Ok.bindE (x := true) (Ok.eq (Ok.iteT (decide_eq_true rfl) (Ok.bindE hrp (Ok.bindE (x := txt (ws.map dV)) ?_ (Ok.some (decide_eq_true rfl)))))) (Ok.some rfl)))))
    rw [repr_some]
    exact hrp
  | false =>
    have hn : ((ws.map fun w => if isN w = true then some (dV w) else none).any Option.isNone) = true := by
      obtain ⟨w, hw, hq⟩ := List.all_eq_false.mp ha
      refine List.any_eq_true.mpr ⟨_, List.mem_map_of_mem hw, ?_⟩
      rw [if_neg hq]
      rfl
    show OkP (Option.bind (appO _ _) _) _
    refine Ok.bindE (appO_s (by decide)) (Ok.bindE e (Ok.bindE hm (Ok.iteT hn ?_)))
    exact Ok.bindE (eqO_E _ _) (Ok.some (by decide +kernel))
theorem cutS_le {z c : PySem.Str} {lo hi : Option Int} (h : sliceS z lo hi = some c) : c.length ≤ z.length := by
  obtain ⟨_, rfl⟩ := guardE h
  exact cutS_length z lo hi
theorem slS_ok {z : PySem.Str} {lo hi : Option Int} (hz : z.length ≤ 16777216) : OkP (sliceS z lo hi) fun c => c.length ≤ z.length := ⟨_, if_pos hz, cutS_length z lo hi⟩
theorem catS_ok {a b : PySem.Str} (h : a.length + b.length ≤ 16777216) : OkP (catS a b) fun c => c.length = a.length + b.length := ⟨_, if_pos h, by
  show (a ++ b).length = _
  rw [TL.len_tl, TL.tl_append, List.length_append, ← TL.len_tl, ← TL.len_tl]⟩
theorem atS_ok {z : PySem.Str} {i : Int} (hz : z.length ≤ 16777216) (h0 : 0 ≤ i) (h1 : i < z.length) : OkP (atS z i) fun c => c.length = 1 := by
  unfold atS
  rw [if_pos (show z.length ≤ sizeLine from hz)]
  obtain ⟨x, e, _⟩ := atI_of (xs := z.cps.toList) h0 (by rw [← len_cps]; exact h1)
  rw [e]
  exact ⟨_, rfl, rfl⟩
theorem repS_ok {a : PySem.Str} {i : Int} (h0 : 0 ≤ i) (h1 : i ≤ 1000) (h2 : a.length = 1) : OkP (repS a i) fun c => c.length ≤ 1000 := by
  refine ⟨_, if_pos ⟨h0, by omega, by rw [h2]; omega⟩, ?_⟩
  unfold Txt.mul
  split
  · exact Nat.zero_le _
  · split
    · omega
    · have key : ∀ (n : Nat) (acc : Array Nat), ((List.replicate n a.cps).foldl (· ++ ·) acc).size = acc.size + n * a.cps.size := by
        intro n
        induction n with
        | zero => intro acc; simp
        | succ n ih => intro acc; rw [List.replicate_succ, List.foldl_cons, ih, Array.size_append, Nat.succ_mul]; omega
      show ((List.replicate i.toNat a.cps).foldl (· ++ ·) #[]).size ≤ 1000
      have h2 : a.cps.size = 1 := h2
      rw [key, h2]
      simp
      omega
theorem joinB {ws : List PySem.Str} {m : Nat} (h : (ws.map (·.length)).sum + ws.length ≤ m) (hm : m ≤ 1000000) : OkP (joinO (" " : PySem.Str) ws) fun c => c.length ≤ m := by
  refine ⟨_, if_pos (by rw [show (" " : PySem.Str).length = 1 from rfl]; omega), ?_⟩
  have := PySem.StrLaws.join_length_le (" " : PySem.Str) ws
  rw [TL.join_eq]
  rw [show (" " : PySem.Str).length = 1 from rfl] at this
  omega
theorem bad_ok {b : Nat} {d : List Int} (h : Dk b d) (hb : b ≤ 100000) : OkP (m__law_bad d) fun r => r.1.length ≤ 1100 ∧ Dk (b + 3) r.2 := by
  have hodd : ("!#$'()*./:;<=>?@BMXY[]^`{|}~abz" : PySem.Str).length = 31 := by decide +kernel
  have hlo : lenSO ("!#$'()*./:;<=>?@BMXY[]^`{|}~abz" : PySem.Str) = some 31 := by
    unfold lenSO
    rw [hodd]
    rfl
  have one : ("1" : PySem.Str).length = 1 := rfl
  unfold m__law_bad
  refine Ok.bind (repS_ok (by decide) (by decide) rfl) fun x1 p1 => Ok.bind (repS_ok (by decide) (by decide) rfl) fun x6 p6 => Ok.bind (repS_ok (by decide) (by decide) rfl) fun x8 p8 => Ok.bind (catS_ok (by rw [one]; omega)) fun x10 p10 => ?_
  rw [one] at p10
  refine Ok.bind (repS_ok (by decide) (by decide) rfl) fun x12 p12 => Ok.bind (repS_ok (by decide) (by decide) rfl) fun x14 p14 => Ok.bindE (catO_s (by simp)) (Ok.bindE hlo (Ok.bind (take_ok h (by omega) (by decide) (by decide)) fun r1 q1 => Ok.bind (atS_ok (by rw [hodd]; decide) q1.1 (by rw [hodd]; exact q1.2.1)) fun x36 p36 => Ok.bindE (appO_s (by simp)) (Ok.bindE hlo (Ok.bind (take_ok q1.2.2 (by omega) (by decide) (by decide)) fun r2 q2 => Ok.bind (atS_ok (by rw [hodd]; decide) q2.1 (by rw [hodd]; exact q2.2.1)) fun x53 p53 => Ok.bind (catS_ok (by rw [one, p53]; decide)) fun x55 p55 => Ok.bindE (appO_s (by simp)) (Ok.bind (take_ok q2.2.2 (by omega) (by simp [lenI]) (by simp [lenI])) fun r3 q3 => Ok.bind (atI_mem q3.1 (by have := q3.2.1; simpa [lenI] using this)) fun x hx => Ok.some ⟨?_, q3.2.2⟩)))))
  rw [one, p53] at p55
  simp only [List.mem_append, List.mem_cons, List.not_mem_nil, or_false] at hx
  dsimp only
  have lit : ∀ s : PySem.Str, s ∈ ([("" : PySem.Str), ("-" : PySem.Str), ("00" : PySem.Str), ("01" : PySem.Str), ("-0" : PySem.Str), ("-1" : PySem.Str), ("+1" : PySem.Str), ("1.0" : PySem.Str), ("1_0" : PySem.Str), ("x" : PySem.Str), ("0x1" : PySem.Str), ("1-" : PySem.Str), ("1e3" : PySem.Str), ("1,2" : PySem.Str), ("1\n" : PySem.Str)] : List PySem.Str) → s.length ≤ 1100 := by
    have : ([("" : PySem.Str), ("-" : PySem.Str), ("00" : PySem.Str), ("01" : PySem.Str), ("-0" : PySem.Str), ("-1" : PySem.Str), ("+1" : PySem.Str), ("1.0" : PySem.Str), ("1_0" : PySem.Str), ("x" : PySem.Str), ("0x1" : PySem.Str), ("1-" : PySem.Str), ("1e3" : PySem.Str), ("1,2" : PySem.Str), ("1\n" : PySem.Str)] : List PySem.Str).all (fun s => decide (s.length ≤ 1100)) = true := by decide +kernel
    exact fun s hs => of_decide_eq_true (List.all_eq_true.mp this s hs)
  by_cases h1 : x = x1
  · rw [h1]; omega
  by_cases h6 : x = x6
  · rw [h6]; omega
  by_cases h10 : x = x10
  · rw [h10]; omega
  by_cases h12 : x = x12
  · rw [h12]; omega
  by_cases h14 : x = x14
  · rw [h14]; omega
  by_cases h36 : x = x36
  · rw [h36]; omega
  by_cases h55 : x = x55
  · rw [h55]; omega
  refine lit x ?_
  simp only [List.mem_cons, List.not_mem_nil, or_false]
  simp only [h1, h6, h10, h12, h14, h36, h55, or_false, false_or] at hx
  rcases hx with hx | hx
  · rcases hx with hx | hx | hx | hx | hx | hx | hx | hx | hx | hx | hx | hx | hx <;> simp [hx]
  · rcases hx with hx | hx <;> simp [hx]
def sz (ws : List PySem.Str) : Nat := (ws.map (·.length)).sum + ws.length
theorem sz_app (a b : List PySem.Str) : sz (a ++ b) = sz a + sz b := by
  unfold sz
  simp only [List.map_append, List.sum_append, List.length_append]
  omega
theorem spl_sum (S : List Nat) (hS : 1 ≤ S.length) : ∀ (l : List Nat) (k : Nat) (acc : List Nat), ((TL.spl S k acc l).map (·.length)).sum + (TL.spl S k acc l).length ≤ acc.length + l.length + 1
  | [], k, acc => by
    rw [TL.spl_nil]
    simp
  | c :: r, 0, acc => by
    rw [TL.spl]
    split
    · have := spl_sum S hS r (S.length - 1) []
      simp at this ⊢
      omega
    · have := spl_sum S hS r 0 (acc ++ [c])
      simp at this ⊢
      omega
  | c :: r, k + 1, acc => by
    rw [TL.spl]
    have := spl_sum S hS r k acc
    simp
    omega
theorem sz_split {t : PySem.Str} {ws : List PySem.Str} (e : ws.map TL.tl = TL.spl [32] 0 [] (TL.tl t)) : sz ws ≤ t.length + 1 := by
  have := spl_sum [32] (by decide) (TL.tl t) 0 []
  rw [← e, List.map_map, List.length_map] at this
  unfold sz
  rw [TL.len_tl]
  have e2 : ws.map (·.length) = ws.map ((·.length) ∘ TL.tl) := List.map_congr_left fun w _ => TL.len_tl w
  rw [e2]
  simpa using this
theorem sz_cut (ws : List PySem.Str) (a a' : Nat) (h : a ≤ a') : sz (ws.take a) + sz (ws.drop a') ≤ sz ws := by
  have e : sz ws = sz (ws.take a) + sz (ws.drop a) := by rw [← sz_app, List.take_append_drop]
  have e2 : sz (ws.drop a) = sz ((ws.drop a).take (a' - a)) + sz (ws.drop a') := by
    rw [show ws.drop a' = (ws.drop a).drop (a' - a) by rw [List.drop_drop]; congr 1; omega, ← sz_app, List.take_append_drop]
  omega
theorem spoilt_ok {b : Nat} {d : List Int} {t : PySem.Str} (h : Dk b d) (hb : b ≤ 10000) (ht : t.length ≤ 1680) : OkP (m__law_spoilt d t) fun r => r.1.length ≤ 3690 := by
  have hsig : (" 0129-_a\n" : PySem.Str).length = 9 := by decide +kernel
  unfold m__law_spoilt
  refine Ok.bind (take_ok h (by omega) (by decide) (by decide)) fun r1 q1 => Ok.bindE (x := (t.length : Int)) (if_pos (show t.length ≤ sizeLine by show _ ≤ 16777216; omega)) (Ok.bind (take_ok q1.2.2 (by omega) (by omega) (by omega)) fun r2 q2 => Ok.bind (take_ok q2.2.2 (by omega) (by decide) (by decide)) fun r3 q3 => Ok.bind (atS_ok (by rw [hsig]; decide) q3.1 (by rw [hsig]; exact q3.2.1)) fun sg hsg => Ok.ite (fun _ => ?_) fun hn => Ok.ite (fun _ => ?_) fun hc => ?_)
  · exact Ok.bind (slS_ok (by omega)) fun x px => Ok.bind (slS_ok (by omega)) fun y py => Ok.bind (catS_ok (by omega)) fun z pz => Ok.some (by dsimp only; omega)
  · exact Ok.bind (slS_ok (by omega)) fun x px => Ok.bind (catS_ok (by omega)) fun z pz => Ok.bind (slS_ok (by omega)) fun y py => Ok.bind (catS_ok (by omega)) fun u pu => Ok.some (by dsimp only; omega)
  · have hc := of_decide_eq_false hc
    obtain ⟨ws, e, h1, h2, h3, h4⟩ := split_any (t := t) (by omega)
    have hs := sz_split h4
    have hL : lenI ws = (ws.length : Int) := rfl
    have a1 := q1.1
    have a2 := q1.2.1
    refine Ok.bindE e (Ok.bind (take_ok q3.2.2 (by omega) (by omega) (by omega)) fun r4 q4 => Ok.bind (bad_ok q4.2.2 (by omega)) fun r5 q5 => ?_)
    have b1 := q4.1
    rw [show sliceI ws none (some r4.1) = ws.take r4.1.toNat from sliceG_to ws b1, show sliceI ws (some (r4.1 + r1.1 - 3)) none = ws.drop (r4.1 + r1.1 - 3).toNat from sliceG_from ws (by omega)]
    have hcut := sz_cut ws r4.1.toNat (r4.1 + r1.1 - 3).toNat (by omega)
    have l1 : (ws.take r4.1.toNat).length ≤ ws.length := by rw [List.length_take]; omega
    have l2 : (ws.drop (r4.1 + r1.1 - 3).toNat).length ≤ ws.length := by rw [List.length_drop]; omega
    refine Ok.bindE (catO_s (by simp; omega)) (Ok.bindE (catO_s (by simp; omega)) (Ok.bind (joinB (m := 3690) ?_ (by decide)) fun c hc => Ok.some hc))
    show sz _ ≤ _
    rw [sz_app, sz_app]
    have : sz [r5.1] = r5.1.length + 1 := by unfold sz; simp
    have := q5.1
    omega
theorem law_true (ns : List Int) (hl : ns.length ≤ 63) : m_law ⟨ns⟩ = some true := by
  have h2 := (sliceI_sub (xs := ns) (lo := none) (hi := some 40)).length_le
  unfold m_law
  refine Ok.eq (Ok.bindE (catO_s (by simp; omega)) (Ok.bind (Ok.forU fun x hx => ?_) fun o ho => ?_))
  · refine Ok.bind (deck_ok (by decide) (by decide)) fun d hd => Ok.bind (take_ok hd (by decide) (by decide) (by decide)) fun r1 q1 => Ok.bind (atI_bnd (lo := 20) (hi := 120) (fun n hn => by simp at hn; omega) (by split <;> decide) (by split <;> decide)) fun most hm => Ok.bind (row_ok q1.2.2 (by decide) (by omega) hm.2) fun r hr => ?_
    have hS := row_small hr.1
    have l2 := hr.1.2.1
    have hsl := shown_len hS
    refine Ok.bindE (mapO_eq (g := sI) (by show _ ≤ 16777216; omega) fun y hy => by rw [str_ok (hS y hy)]; rfl) (Ok.bindE (join_ok hS (by omega)) (Ok.bindE (right_ok (by omega)) ?_))
    refine Ok.bind (P := fun s => s.1 = false) (Ok.iteF rfl (Ok.bind (spoilt_ok hr.2 (by decide) (by omega)) fun s hs => Ok.bindE (right_ok hs) (Ok.some rfl))) fun s hs => Ok.iteF hs (Ok.some rfl)
  · subst ho
    have rep1 : ∀ (s : PySem.Str) (i : Int), 0 ≤ i → i ≤ 2000 → s.length = 1 → ∃ ws : List PySem.Str, repO [s] i = some ws ∧ ws.length ≤ 2000 ∧ sz ws ≤ 2 * i.toNat := fun s i h0 h1 hs => by
      refine ⟨_, repO_1 h0 (by omega), by rw [List.length_replicate]; omega, ?_⟩
      unfold sz
      rw [List.map_replicate, List.length_replicate, hs]
      have : ∀ n : Nat, (List.replicate n 1).sum = n := fun n => by
        induction n with
        | zero => rfl
        | succ n ih => rw [List.replicate_succ, List.sum_cons, ih]; omega
      rw [this]
      omega
    obtain ⟨w1, e1, s1, z1⟩ := rep1 "0" 1500 (by decide) (by decide) rfl
    obtain ⟨w2, e2, s2, z2⟩ := rep1 "7" 1499 (by decide) (by decide) rfl
    have z1 : sz w1 ≤ 3000 := z1
    have z2 : sz w2 ≤ 2998 := z2
    refine Ok.bindE e1 (Ok.bind (joinB (m := 3000) z1 (by decide)) fun c hc => Ok.bindE (right_ok (by omega)) (Ok.bindE (x := true) (Ok.eq (Ok.iteT rfl (Ok.bindE e2 (Ok.bindE (catO_s (by simp; omega)) (Ok.bind (joinB (m := 3100) ?_ (by decide)) fun c2 hc2 => Ok.bindE (right_ok (by omega)) (Ok.some rfl)))))) (Ok.some rfl)))
    show sz _ ≤ _
    rw [sz_app]
    have : sz [("07" : PySem.Str)] = 3 := by decide +kernel
    omega
def top_ (i : Nat) : Stmt := PySem.Challenge.pw_piecebounds_k54_texts_of_no_row.main.body.getD i (.Pass ⟨0, 0, 0, 0⟩)
abbrev s_read_number : Stmt := top_ 10
abbrev s_read_row : Stmt := top_ 11
abbrev s__law_cell_at : Stmt := top_ 13
abbrev s__law_take : Stmt := top_ 14
abbrev s__law_deck : Stmt := top_ 15
abbrev s__law_number : Stmt := top_ 16
abbrev s__law_row : Stmt := top_ 17
abbrev s__law_bad : Stmt := top_ 18
abbrev s__law_spoilt : Stmt := top_ 19
abbrev s__law_number_in : Stmt := top_ 20
abbrev s__law_right : Stmt := top_ 21
abbrev s_law : Stmt := top_ 22
/-! ### _law_deck -/
abbrev sp__law_deck (K : PySem.W.Frag) : Sp := fun vs H Q _ => ∃ (x_cell : Int) (x_k : Int),  vs = [.int x_cell, .int x_k] ∧ ∃ r : (List Int), m__law_deck x_cell x_k = some r ∧ ∀ v' H', Res K H r v' H' → Q v' H'
section
variable {P : Program} {w : World} {K : PySem.W.Frag} {mg : Str → Option Value} {base : Heap}
abbrev N__law_deck : List Str := ["cell", "k"]
theorem scope__law_deck : FnScope N__law_deck ["cell", "k"] (defScope s__law_deck) := ⟨rfl, rfl, rfl, by decide +kernel, rfl, by decide +kernel, by decide +kernel⟩
theorem ok__law_deck {f : Addr} {fd : FuncData} (F : FunD K "_law_deck" "_law_deck" (defArgs s__law_deck) (defBody s__law_deck) (defScope s__law_deck) [] [] f fd) (hm : mg "_law_deck" = some (.ref f)) (Z : Blt mg) (SM : SMd base) (XX : Exs K mg es6) :
    Fn P w K mg base 1 "_law_deck" ["cell", "k"] (sp__law_deck K) := by
  refine mkFn F hm (fun _ _ _ _ _ _ us hl => match us, hl with | [_, _], _ => rfl) (okG (k := 0) F scope__law_deck (fun vs H0 Q E h => ?_) (fun cdv A outer s H0 vs Q E hr hgd h => ?_))
  · obtain ⟨_, _, rfl, _⟩ := h; rfl
  · have nd := scope__law_deck.nd
    have hu := hr.units
    unfold sp__law_deck at h
    refine ⟨_, PSs.nox (pss_cons (ps_if (pt_cmpR (op_geA hu) (pv 0) (pe_op op_pow pe_int pe_int) (nomark _)) (pss_one (ps_ret (pe_lst (pa_cons (pe_op op_sub (pv 0) (pe_op op_pow pe_int pe_int)) (pa_cons pe_int (pa_cons (pv 1) pa_nil)))))) pss_nil)
    (pss_one (ps_ret (pe_lst (pa_cons (pv 0) (pa_cons pe_int (pa_cons (pv 1) pa_nil))))))), ?_⟩
    (try dsimp only [cxOf])
    obtain ⟨x_cell, x_k, rfl, r0, hm, q⟩ := h
    let G_ : (List Int) → Prop := fun r => ∀ v' H', Res K H0 r v' H' → Q v' H'
    have hq : ∀ r, r = r0 → G_ r := fun r e => by subst e; exact q
    clear q
    unfold m__law_deck at hm
    have W0 := Wd.start (K := K) H0
    refine i_seq ?_
    refine i_ifS ?_
    refine i_test ?_
    refine i_op ?_
    refine i_var rfl ?_
    refine i_op ?_
    refine i_c ?_
    refine i_c ?_
    refine i_pow (n := 1000000000000000000) (by decide) (by decide) ?_
    refine i_geA ?_
    refine i_bl ?_
    rcases iteE hm with ⟨hb1, hm⟩ | ⟨hb1, hm⟩
    · refine i_bT hb1 ?_
      refine i_ret ?_
      refine i_tlst ?_
      refine i_tcons ?_
      refine i_op ?_
      refine i_var rfl ?_
      refine i_op ?_
      refine i_c ?_
      refine i_c ?_
      refine i_pow (n := 1000000000000000000) (by decide) (by decide) ?_
      refine i_I0 ?_
      refine i_tcons ?_
      refine i_c ?_
      refine i_tcons ?_
      refine i_var rfl ?_
      refine i_tnil ?_
      refine w_lst (α := Int) (t := true) W0 (KnL.cons Kn.int (KnL.cons Kn.int (KnL.cons Kn.int KnL.nil))) (by show (3 : Nat) ≤ sizeLine; decide) (fun p2 H3 W4 => ?_)
      have W5 := Wd.frz W4
      exact hq _ (some_inj hm) _ _ (Wd.res (x := (([(x_cell - 1000000000000000000), 0, x_k] : List Int) : (List Int))) W5 (Kn.at 0 rfl))
    · refine i_bF hb1 ?_
      refine i_next ?_
      refine i_ret ?_
      refine i_tlst ?_
      refine i_tcons ?_
      refine i_var rfl ?_
      refine i_tcons ?_
      refine i_c ?_
      refine i_tcons ?_
      refine i_var rfl ?_
      refine i_tnil ?_
      refine w_lst (α := Int) (t := true) W0 (KnL.cons Kn.int (KnL.cons Kn.int (KnL.cons Kn.int KnL.nil))) (by show (3 : Nat) ≤ sizeLine; decide) (fun p6 H7 W8 => ?_)
      have W9 := Wd.frz W8
      exact hq _ (some_inj hm) _ _ (Wd.res (x := (([x_cell, 1, x_k] : List Int) : (List Int))) W9 (Kn.at 0 rfl))
end
/-! ### _law_take -/
abbrev sp__law_take (K : PySem.W.Frag) : Sp := fun vs H Q _ => ∃ (a_deck : Addr) (x_deck : (List Int)) (us_deck : List V) (x_many : Int),  vs = [.ref a_deck, .int x_many] ∧ H a_deck = some (.lst us_deck) ∧ All2 (Rp.rep (lkN fun _ => none)) x_deck us_deck ∧ ∃ r : (Int × (List Int)), m__law_take x_deck x_many = some r ∧ ∀ v' H', Res1 K H a_deck r v' H' → Q v' H'
section
variable {P : Program} {w : World} {K : PySem.W.Frag} {mg : Str → Option Value} {base : Heap}
abbrev N__law_take : List Str := ["deck", "many", "come", "number"]
theorem scope__law_take : FnScope N__law_take ["deck", "many"] (defScope s__law_take) := ⟨rfl, rfl, rfl, by decide +kernel, rfl, by decide +kernel, by decide +kernel⟩
theorem ok__law_take {f : Addr} {fd : FuncData} (F : FunD K "_law_take" "_law_take" (defArgs s__law_take) (defBody s__law_take) (defScope s__law_take) [] [] f fd) (hm : mg "_law_take" = some (.ref f)) (Z : Blt mg) (SM : SMd base) (XX : Exs K mg es6) :
    Fn P w K mg base 1 "_law_take" ["deck", "many"] (sp__law_take K) := by
  refine mkFn F hm (fun _ _ _ _ _ _ us hl => match us, hl with | [_, _], _ => rfl) (okG (k := 0) F scope__law_take (fun vs H0 Q E h => ?_) (fun cdv A outer s H0 vs Q E hr hgd h => ?_))
  · obtain ⟨_, _, _, _, rfl, _⟩ := h; rfl
  · have nd := scope__law_take.nd
    have hu := hr.units
    unfold sp__law_take at h
    refine ⟨_, PSs.nox (pss_cons (ps_if (pt_cmpR (op_eqA hu) (pe_ix ix_seq (pv 0) pe_int (fun _ _ => rfl)) pe_int (nomark _)) (pss_cons (ps_set (i := 2) nd rfl (.inl rfl) (pe_op op_mod (pe_ix ix_seq (pv 0) pe_int (fun _ _ => rfl)) (pv 1)))
    (pss_cons (ps_asg (pe_op op_fdivW (pe_ix ix_seq (pv 0) pe_int (fun _ _ => rfl)) (pv 1)) (pg_sub (pv 0) pe_int set_list))
    (pss_one (ps_ret (pv 2))))) pss_nil)
    (pss_cons (ps_asg (pe_op op_addA (pe_ix ix_seq (pv 0) pe_int (fun _ _ => rfl)) pe_int) (pg_sub (pv 0) pe_int set_list))
    (pss_cons (ps_set (i := 3) nd rfl (.inl rfl) (pe_op op_mulA (pe_op op_mod (pe_ix ix_seq (pv 0) pe_int (fun _ _ => rfl)) pe_int) (pe_op op_addA (pe_op op_mulA (pe_ix ix_seq (pv 0) pe_int (fun _ _ => rfl)) (pe_ix ix_seq (pv 0) pe_int (fun _ _ => rfl))) pe_int)))
    (pss_cons (ps_set (i := 3) nd rfl (.inl rfl) (pe_op op_mod (pe_op op_addA (pe_op op_addA (pv 3) (pe_ix ix_seq (pv 0) pe_int (fun _ _ => rfl))) pe_int) pe_int))
    (pss_cons (ps_set (i := 3) nd rfl (.inl rfl) (pe_op op_mod (pe_op op_mulA (pv 3) (pv 3)) pe_int))
    (pss_one (ps_ret (pe_op op_mod (pe_op op_fdivW (pe_op op_mod (pe_op op_mulA (pv 3) pe_int) pe_int) pe_int) (pv 1))))))))), ?_⟩
    (try dsimp only [cxOf])
    obtain ⟨a_deck, x_deck, us_deck, x_many, rfl, ha_deck, hr_deck, r0, hm, q⟩ := h
    let G_ : (Int × (List Int)) → Prop := fun r => ∀ v' H', Res1 K H0 a_deck r v' H' → Q v' H'
    have hq : ∀ r, r = r0 → G_ r := fun r e => by subst e; exact q
    clear q
    unfold m__law_take at hm
    have hB : H0 a_deck ≠ none := fun e => by rw [ha_deck] at e; cases e
    have W0 : Wd K (del H0 a_deck) [] [oL true a_deck x_deck] H0 := Wd.mut ha_deck hr_deck
    refine i_seq ?_
    refine i_ifS ?_
    refine i_test ?_
    refine i_op ?_
    refine i_op ?_
    refine i_var rfl ?_
    refine i_c ?_
    replace hm := bndE hm
    obtain ⟨x1, h2, hm⟩ := hm
    refine w_ixI W0 (Lx.ls (Lx.own 0 rfl)) h2 ?_
    refine i_c ?_
    refine i_eqI ?_
    refine i_bl ?_
    rcases iteE hm with ⟨hb3, hm⟩ | ⟨hb3, hm⟩
    · refine i_bT hb3 ?_
      refine i_seq ?_
      refine i_asg ?_
      refine i_op ?_
      refine i_op ?_
      refine i_var rfl ?_
      refine i_c ?_
      replace hm := bndE hm
      obtain ⟨x4, h5, hm⟩ := hm
      refine w_ixI W0 (Lx.ls (Lx.own 0 rfl)) h5 ?_
      refine i_var rfl ?_
      replace hm := bndE hm
      obtain ⟨x6, h7, hm⟩ := hm
      refine w_mod h7 ?_
      refine i_gName ?_
      refine i_seq ?_
      refine i_asg ?_
      refine i_op ?_
      refine i_op ?_
      refine i_var rfl ?_
      refine i_c ?_
      replace hm := bndE hm
      obtain ⟨x8, h9, hm⟩ := hm
      refine w_ixI W0 (Lx.ls (Lx.own 0 rfl)) h9 ?_
      refine i_var rfl ?_
      replace hm := bndE hm
      obtain ⟨x10, h11, hm⟩ := hm
      refine w_fdiv h11 ?_
      refine i_gSub ?_
      refine i_var rfl ?_
      refine i_c ?_
      replace hm := bndE hm
      obtain ⟨x12, h13, hm⟩ := hm
      refine w_set W0 0 rfl Kn.int h13 (fun H14 W15 => ?_)
      dsimp only [List.set] at W15
      clear W0
      refine i_ret ?_
      refine i_var rfl ?_
      exact hq _ (some_inj hm) _ _ (Wd.res1 (x := (x6 : Int)) W15 hB 0 rfl Kn.int)
    · refine i_bF hb3 ?_
      refine i_next ?_
      refine i_seq ?_
      refine i_asg ?_
      refine i_op ?_
      refine i_op ?_
      refine i_var rfl ?_
      refine i_c ?_
      replace hm := bndE hm
      obtain ⟨x16, h17, hm⟩ := hm
      refine w_ixI W0 (Lx.ls (Lx.own 0 rfl)) h17 ?_
      refine i_c ?_
      refine i_addI ?_
      refine i_gSub ?_
      refine i_var rfl ?_
      refine i_c ?_
      replace hm := bndE hm
      obtain ⟨x18, h19, hm⟩ := hm
      refine w_set W0 0 rfl Kn.int h19 (fun H20 W21 => ?_)
      dsimp only [List.set] at W21
      clear W0
      refine i_seq ?_
      refine i_asg ?_
      refine i_op ?_
      refine i_op ?_
      refine i_op ?_
      refine i_var rfl ?_
      refine i_c ?_
      replace hm := bndE hm
      obtain ⟨x22, h23, hm⟩ := hm
      refine w_ixI W21 (Lx.ls (Lx.own 0 rfl)) h23 ?_
      refine i_c ?_
      refine i_mod (by decide) ?_
      refine i_op ?_
      refine i_op ?_
      refine i_op ?_
      refine i_var rfl ?_
      refine i_c ?_
      replace hm := bndE hm
      obtain ⟨x24, h25, hm⟩ := hm
      refine w_ixI W21 (Lx.ls (Lx.own 0 rfl)) h25 ?_
      refine i_op ?_
      refine i_var rfl ?_
      refine i_c ?_
      replace hm := bndE hm
      obtain ⟨x26, h27, hm⟩ := hm
      refine w_ixI W21 (Lx.ls (Lx.own 0 rfl)) h27 ?_
      replace hm := bndE hm
      obtain ⟨x28, h29, hm⟩ := hm
      refine w_mul h29 ?_
      refine i_c ?_
      refine i_addI ?_
      replace hm := bndE hm
      obtain ⟨x30, h31, hm⟩ := hm
      refine w_mul h31 ?_
      refine i_gName ?_
      refine i_seq ?_
      refine i_asg ?_
      refine i_op ?_
      refine i_op ?_
      refine i_op ?_
      refine i_var rfl ?_
      refine i_op ?_
      refine i_var rfl ?_
      refine i_c ?_
      replace hm := bndE hm
      obtain ⟨x32, h33, hm⟩ := hm
      refine w_ixI W21 (Lx.ls (Lx.own 0 rfl)) h33 ?_
      refine i_addI ?_
      refine i_c ?_
      refine i_addI ?_
      refine i_c ?_
      refine i_mod (by decide) ?_
      refine i_gName ?_
      refine i_seq ?_
      refine i_asg ?_
      refine i_op ?_
      refine i_op ?_
      refine i_var rfl ?_
      refine i_var rfl ?_
      replace hm := bndE hm
      obtain ⟨x34, h35, hm⟩ := hm
      refine w_mul h35 ?_
      refine i_c ?_
      refine i_mod (by decide) ?_
      refine i_gName ?_
      refine i_ret ?_
      refine i_op ?_
      refine i_op ?_
      refine i_op ?_
      refine i_op ?_
      refine i_var rfl ?_
      refine i_c ?_
      replace hm := bndE hm
      obtain ⟨x36, h37, hm⟩ := hm
      refine w_mul h37 ?_
      refine i_c ?_
      refine i_mod (by decide) ?_
      refine i_c ?_
      refine i_fdiv (by decide) (by decide) ?_
      refine i_var rfl ?_
      replace hm := bndE hm
      obtain ⟨x38, h39, hm⟩ := hm
      refine w_mod h39 ?_
      exact hq _ (some_inj hm) _ _ (Wd.res1 (x := (x38 : Int)) W21 hB 0 rfl Kn.int)
end
/-! ### _law_number -/
abbrev sp__law_number (K : PySem.W.Frag) : Sp := fun vs H Q _ => ∃ (a_deck : Addr) (x_deck : (List Int)) (us_deck : List V),  vs = [.ref a_deck] ∧ H a_deck = some (.lst us_deck) ∧ All2 (Rp.rep (lkN fun _ => none)) x_deck us_deck ∧ ∃ r : (Int × (List Int)), m__law_number x_deck = some r ∧ ∀ v' H', Res1 K H a_deck r v' H' → Q v' H'
section
variable {P : Program} {w : World} {K : PySem.W.Frag} {mg : Str → Option Value} {base : Heap}
abbrev N__law_number : List Str := ["deck", "way"]
theorem scope__law_number : FnScope N__law_number ["deck"] (defScope s__law_number) := ⟨rfl, rfl, rfl, by decide +kernel, rfl, by decide +kernel, by decide +kernel⟩
theorem ok__law_number {f : Addr} {fd : FuncData} (F : FunD K "_law_number" "_law_number" (defArgs s__law_number) (defBody s__law_number) (defScope s__law_number) [] [] f fd) (hm : mg "_law_number" = some (.ref f)) (Z : Blt mg) (SM : SMd base) (XX : Exs K mg es6)
    (C__law_take : Fn P w K mg base 1 "_law_take" ["deck", "many"] (sp__law_take K)) :
    Fn P w K mg base 2 "_law_number" ["deck"] (sp__law_number K) := by
  refine mkFn F hm (fun _ _ _ _ _ _ us hl => match us, hl with | [_], _ => rfl) (okG (k := 1) F scope__law_number (fun vs H0 Q E h => ?_) (fun cdv A outer s H0 vs Q E hr hgd h => ?_))
  · obtain ⟨_, _, _, rfl, _⟩ := h; rfl
  · have nd := scope__law_number.nd
    have hu := hr.units
    have hr__law_take : Room 1 _ := hr.mono (by decide : 1 ≤ 1)
    unfold sp__law_number at h
    refine ⟨_, PSs.nox (pss_cons (ps_set (i := 1) nd rfl (.inl rfl) (pe_fn C__law_take hr__law_take hgd (by rfl) passL (pa_cons (pv 0) (pa_cons pe_int pa_nil))))
    (pss_cons (ps_if (pt_cmpR (op_ltA hu) (pv 1) pe_int (nomark _)) (pss_one (ps_ret (pe_fn C__law_take hr__law_take hgd (by rfl) passL (pa_cons (pv 0) (pa_cons (pe_ix ix_seq (pe_lst (pa_cons pe_int (pa_cons pe_int (pa_cons pe_int (pa_cons (pe_op op_pow pe_int pe_int) pa_nil))))) (pv 1) (fun _ _ => rfl)) pa_nil))))) pss_nil)
    (pss_cons (ps_if (pt_cmpR (op_eqA hu) (pv 1) pe_int (nomark _)) (pss_one (ps_ret (pe_fn C__law_take hr__law_take hgd (by rfl) passL (pa_cons (pv 0) (pa_cons (pe_op op_pow pe_int pe_int) pa_nil))))) pss_nil)
    (pss_one (ps_ret (pe_ix ix_seq (pe_lst (pa_cons pe_int (pa_cons (pe_op op_pow pe_int pe_int) (pa_cons (pe_op op_sub (pe_op op_pow pe_int pe_int) pe_int) (pa_cons (pe_op op_addA (pe_op op_pow pe_int pe_int) pe_int) pa_nil))))) (pe_fn C__law_take hr__law_take hgd (by rfl) passL (pa_cons (pv 0) (pa_cons pe_int pa_nil))) (fun _ _ => rfl))))))), ?_⟩
    (try dsimp only [cxOf])
    obtain ⟨a_deck, x_deck, us_deck, rfl, ha_deck, hr_deck, r0, hm, q⟩ := h
    let G_ : (Int × (List Int)) → Prop := fun r => ∀ v' H', Res1 K H0 a_deck r v' H' → Q v' H'
    have hq : ∀ r, r = r0 → G_ r := fun r e => by subst e; exact q
    clear q
    unfold m__law_number at hm
    have hB : H0 a_deck ≠ none := fun e => by rw [ha_deck] at e; cases e
    have W0 : Wd K (del H0 a_deck) [] [oL true a_deck x_deck] H0 := Wd.mut ha_deck hr_deck
    refine i_seq ?_
    refine i_asg ?_
    refine i_call ?_
    refine i_tcons ?_
    refine i_var rfl ?_
    refine i_tcons ?_
    refine i_c ?_
    refine i_tnil ?_
    replace hm := bndE hm
    obtain ⟨r1, h2, hm⟩ := hm
    obtain ⟨us9, h7, h8⟩ := Wd.ioa W0 0 rfl
    refine ⟨a_deck, (x_deck : List Int), us9, 6, rfl, h7, h8, r1, h2, fun v3 H4 R5 => ?_⟩
    obtain ⟨rfl, W6⟩ := Wd.call1I (i := r1.1) (ys' := r1.2) W0 0 rfl R5
    refine i_gName ?_
    clear W0
    refine i_seq ?_
    refine i_ifS ?_
    refine i_test ?_
    refine i_op ?_
    refine i_var rfl ?_
    refine i_c ?_
    refine i_ltA ?_
    refine i_bl ?_
    rcases iteE hm with ⟨hb10, hm⟩ | ⟨hb10, hm⟩
    · refine i_bT hb10 ?_
      refine i_ret ?_
      refine i_call ?_
      refine i_tcons ?_
      refine i_var rfl ?_
      refine i_tcons ?_
      refine i_op ?_
      refine i_tlst ?_
      refine i_tcons ?_
      refine i_c ?_
      refine i_tcons ?_
      refine i_c ?_
      refine i_tcons ?_
      refine i_c ?_
      refine i_tcons ?_
      refine i_op ?_
      refine i_c ?_
      refine i_c ?_
      refine i_pow (n := 1000000) (by decide) (by decide) ?_
      refine i_tnil ?_
      refine w_lst (α := Int) (t := true) W6 (KnL.cons Kn.int (KnL.cons Kn.int (KnL.cons Kn.int (KnL.cons Kn.int KnL.nil)))) (by show (4 : Nat) ≤ sizeLine; decide) (fun p11 H12 W13 => ?_)
      have W14 := Wd.frz W13
      refine i_var rfl ?_
      replace hm := bndE hm
      obtain ⟨x15, h16, hm⟩ := hm
      refine w_ixI W14 (Lx.ls (Lx.kn (Kn.at 0 rfl))) h16 ?_
      refine i_tnil ?_
      replace hm := bndE hm
      obtain ⟨r17, h18, hm⟩ := hm
      obtain ⟨us25, h23, h24⟩ := Wd.ioa W14 0 rfl
      refine ⟨a_deck, (r1.2 : List Int), us25, x15, rfl, h23, h24, r17, h18, fun v19 H20 R21 => ?_⟩
      obtain ⟨rfl, W22⟩ := Wd.call1I (i := r17.1) (ys' := r17.2) W14 0 rfl R21
      exact hq _ (some_inj hm) _ _ (Wd.res1 (x := (r17.1 : Int)) W22 hB 0 rfl Kn.int)
    · refine i_bF hb10 ?_
      refine i_next ?_
      refine i_seq ?_
      refine i_ifS ?_
      refine i_test ?_
      refine i_op ?_
      refine i_var rfl ?_
      refine i_c ?_
      refine i_eqI ?_
      refine i_bl ?_
      rcases iteE hm with ⟨hb26, hm⟩ | ⟨hb26, hm⟩
      · refine i_bT hb26 ?_
        refine i_ret ?_
        refine i_call ?_
        refine i_tcons ?_
        refine i_var rfl ?_
        refine i_tcons ?_
        refine i_op ?_
        refine i_c ?_
        refine i_c ?_
        refine i_pow (n := 1000000000000) (by decide) (by decide) ?_
        refine i_tnil ?_
        replace hm := bndE hm
        obtain ⟨r27, h28, hm⟩ := hm
        obtain ⟨us35, h33, h34⟩ := Wd.ioa W6 0 rfl
        refine ⟨a_deck, (r1.2 : List Int), us35, 1000000000000, rfl, h33, h34, r27, h28, fun v29 H30 R31 => ?_⟩
        obtain ⟨rfl, W32⟩ := Wd.call1I (i := r27.1) (ys' := r27.2) W6 0 rfl R31
        exact hq _ (some_inj hm) _ _ (Wd.res1 (x := (r27.1 : Int)) W32 hB 0 rfl Kn.int)
      · refine i_bF hb26 ?_
        refine i_next ?_
        refine i_ret ?_
        refine i_op ?_
        refine i_tlst ?_
        refine i_tcons ?_
        refine i_c ?_
        refine i_tcons ?_
        refine i_op ?_
        refine i_c ?_
        refine i_c ?_
        refine i_pow (n := 1000000000000) (by decide) (by decide) ?_
        refine i_tcons ?_
        refine i_op ?_
        refine i_op ?_
        refine i_c ?_
        refine i_c ?_
        refine i_pow (n := 1000000000000) (by decide) (by decide) ?_
        refine i_c ?_
        refine i_I0 ?_
        refine i_tcons ?_
        refine i_op ?_
        refine i_op ?_
        refine i_c ?_
        refine i_c ?_
        refine i_pow (n := 100000000000) (by decide) (by decide) ?_
        refine i_c ?_
        refine i_addI ?_
        refine i_tnil ?_
        refine w_lst (α := Int) (t := true) W6 (KnL.cons Kn.int (KnL.cons Kn.int (KnL.cons Kn.int (KnL.cons Kn.int KnL.nil)))) (by show (4 : Nat) ≤ sizeLine; decide) (fun p36 H37 W38 => ?_)
        have W39 := Wd.frz W38
        refine i_call ?_
        refine i_tcons ?_
        refine i_var rfl ?_
        refine i_tcons ?_
        refine i_c ?_
        refine i_tnil ?_
        replace hm := bndE hm
        obtain ⟨r40, h41, hm⟩ := hm
        obtain ⟨us48, h46, h47⟩ := Wd.ioa W39 0 rfl
        refine ⟨a_deck, (r1.2 : List Int), us48, 4, rfl, h46, h47, r40, h41, fun v42 H43 R44 => ?_⟩
        obtain ⟨rfl, W45⟩ := Wd.call1I (i := r40.1) (ys' := r40.2) W39 0 rfl R44
        replace hm := bndE hm
        obtain ⟨x49, h50, hm⟩ := hm
        refine w_ixI W45 (Lx.ls (Lx.kn (Kn.at 0 rfl))) h50 ?_
        exact hq _ (some_inj hm) _ _ (Wd.res1 (x := (x49 : Int)) W45 hB 0 rfl Kn.int)
end
/-! ### _law_row -/
abbrev sp__law_row (K : PySem.W.Frag) : Sp := fun vs H Q _ => ∃ (a_deck : Addr) (x_deck : (List Int)) (us_deck : List V) (x_most : Int),  vs = [.ref a_deck, .int x_most] ∧ H a_deck = some (.lst us_deck) ∧ All2 (Rp.rep (lkN fun _ => none)) x_deck us_deck ∧ ∃ r : ((List Int) × (List Int)), m__law_row x_deck x_most = some r ∧ ∀ v' H', Res1 K H a_deck r v' H' → Q v' H'
section
variable {P : Program} {w : World} {K : PySem.W.Frag} {mg : Str → Option Value} {base : Heap}
abbrev N__law_row : List Str := ["deck", "most", "row", "size", "k"]
theorem scope__law_row : FnScope N__law_row ["deck", "most"] (defScope s__law_row) := ⟨rfl, rfl, rfl, by decide +kernel, rfl, by decide +kernel, by decide +kernel⟩
theorem ok__law_row {f : Addr} {fd : FuncData} (F : FunD K "_law_row" "_law_row" (defArgs s__law_row) (defBody s__law_row) (defScope s__law_row) [] [] f fd) (hm : mg "_law_row" = some (.ref f)) (Z : Blt mg) (SM : SMd base) (XX : Exs K mg es6)
    (C__law_take : Fn P w K mg base 1 "_law_take" ["deck", "many"] (sp__law_take K))
    (C__law_number : Fn P w K mg base 2 "_law_number" ["deck"] (sp__law_number K)) :
    Fn P w K mg base 3 "_law_row" ["deck", "most"] (sp__law_row K) := by
  refine mkFn F hm (fun _ _ _ _ _ _ us hl => match us, hl with | [_, _], _ => rfl) (okG (k := 2) F scope__law_row (fun vs H0 Q E h => ?_) (fun cdv A outer s H0 vs Q E hr hgd h => ?_))
  · obtain ⟨_, _, _, _, rfl, _⟩ := h; rfl
  · have nd := scope__law_row.nd
    have hu := hr.units
    have hr__law_take : Room 1 _ := hr.mono (by decide : 1 ≤ 2)
    have hr__law_number : Room 2 _ := hr.mono (by decide : 2 ≤ 2)
    unfold sp__law_row at h
    refine ⟨_, PSs.nox (pss_cons (ps_set (i := 2) nd rfl (.inl rfl) (pe_lst pa_nil))
    (pss_cons (ps_set (i := 3) nd rfl (.inl rfl) (pe_ix ix_seq (pe_lst (pa_cons pe_int (pa_cons pe_int (pa_cons pe_int (pa_cons (pe_op op_pow pe_int pe_int) (pa_cons (pe_op op_pow pe_int pe_int) pa_nil)))))) (pe_fn C__law_take hr__law_take hgd (by rfl) passL (pa_cons (pv 0) (pa_cons pe_int pa_nil))) (fun _ _ => rfl)))
    (pss_cons (ps_for PassesOwn.never rfl (pi_range1 (by rfl) Z.range_ (pa_cons (pe_op op_addA pe_int (pe_fn C__law_take hr__law_take hgd (by rfl) passL (pa_cons (pv 0) (pa_cons (pv 1) pa_nil)))) pa_nil)) (pg_name (i := 4) nd rfl (.inl rfl)) (pss_one (ps_expr (pe_bmK (K := K) PySem.F.plainAttrs_list PySem.F.slot_list_append PySem.F.type_list_append mt_append (pv 2) (pa_cons (pe_ifExp (pt_cmpR (op_eqA hu) (pe_fn C__law_take hr__law_take hgd (by rfl) passL (pa_cons (pv 0) (pa_cons pe_int pa_nil))) pe_int (nomark _)) (pe_fn C__law_number hr__law_number hgd (by rfl) passL (pa_cons (pv 0) pa_nil)) (pe_fn C__law_take hr__law_take hgd (by rfl) passL (pa_cons (pv 0) (pa_cons (pv 3) pa_nil)))) pa_nil)))))
    (pss_one (ps_ret (pv 2)))))), ?_⟩
    (try dsimp only [cxOf])
    obtain ⟨a_deck, x_deck, us_deck, x_most, rfl, ha_deck, hr_deck, r0, hm, q⟩ := h
    let G_ : ((List Int) × (List Int)) → Prop := fun r => ∀ v' H', Res1 K H0 a_deck r v' H' → Q v' H'
    have hq : ∀ r, r = r0 → G_ r := fun r e => by subst e; exact q
    clear q
    unfold m__law_row at hm
    have hB : H0 a_deck ≠ none := fun e => by rw [ha_deck] at e; cases e
    have W0 : Wd K (del H0 a_deck) [] [oL true a_deck x_deck] H0 := Wd.mut ha_deck hr_deck
    refine i_seq ?_
    refine i_asg ?_
    refine i_tlst ?_
    refine i_tnil ?_
    refine w_lst (α := Int) (t := true) W0 KnL.nil (by show (0 : Nat) ≤ sizeLine; decide) (fun p1 H2 W3 => ?_)
    refine i_gName ?_
    clear W0
    refine i_seq ?_
    refine i_asg ?_
    refine i_op ?_
    refine i_tlst ?_
    refine i_tcons ?_
    refine i_c ?_
    refine i_tcons ?_
    refine i_c ?_
    refine i_tcons ?_
    refine i_c ?_
    refine i_tcons ?_
    refine i_op ?_
    refine i_c ?_
    refine i_c ?_
    refine i_pow (n := 1000000) (by decide) (by decide) ?_
    refine i_tcons ?_
    refine i_op ?_
    refine i_c ?_
    refine i_c ?_
    refine i_pow (n := 1000000000000) (by decide) (by decide) ?_
    refine i_tnil ?_
    refine w_lst (α := Int) (t := true) W3 (KnL.cons Kn.int (KnL.cons Kn.int (KnL.cons Kn.int (KnL.cons Kn.int (KnL.cons Kn.int KnL.nil))))) (by show (5 : Nat) ≤ sizeLine; decide) (fun p4 H5 W6 => ?_)
    have W7 := Wd.frz W6
    refine i_call ?_
    refine i_tcons ?_
    refine i_var rfl ?_
    refine i_tcons ?_
    refine i_c ?_
    refine i_tnil ?_
    replace hm := bndE hm
    obtain ⟨r8, h9, hm⟩ := hm
    obtain ⟨us16, h14, h15⟩ := Wd.ioa W7 1 rfl
    refine ⟨a_deck, (x_deck : List Int), us16, 5, rfl, h14, h15, r8, h9, fun v10 H11 R12 => ?_⟩
    obtain ⟨rfl, W13⟩ := Wd.call1I (i := r8.1) (ys' := r8.2) W7 1 rfl R12
    replace hm := bndE hm
    obtain ⟨x17, h18, hm⟩ := hm
    refine w_ixI W13 (Lx.ls (Lx.kn (Kn.at 0 rfl))) h18 ?_
    refine i_gName ?_
    clear W3 W6 W7
    refine i_seq ?_
    refine i_for ?_
    refine i_iRng1 ?_
    refine i_tcons ?_
    refine i_op ?_
    refine i_c ?_
    refine i_call ?_
    refine i_tcons ?_
    refine i_var rfl ?_
    refine i_tcons ?_
    refine i_var rfl ?_
    refine i_tnil ?_
    replace hm := bndE hm
    obtain ⟨r19, h20, hm⟩ := hm
    obtain ⟨us27, h25, h26⟩ := Wd.ioa W13 1 rfl
    refine ⟨a_deck, (r8.2 : List Int), us27, x_most, rfl, h25, h26, r19, h20, fun v21 H22 R23 => ?_⟩
    obtain ⟨rfl, W24⟩ := Wd.call1I (i := r19.1) (ys' := r19.2) W13 1 rfl R23
    refine i_addI ?_
    refine i_tnil ?_
    replace hm := bndE hm
    obtain ⟨x29, h30, hm⟩ := hm
    refine w_rg1 h30 (fun e28 => ?_)
    subst e28
    clear W13
    have W31 := Wd.sel W24 [] rfl
    replace hm := bndE hm
    obtain ⟨o37, h38, hm⟩ := hm
    refine w_fold (⟨fun b e => [some (.ref a_deck), some (.int x_most), some (.ref p1), some (.int x17), e], fun b e => [], fun b e => [oL true p1 (b.2 : List Int), oL true a_deck (b.1 : List Int)]⟩ : Shp ((List Int) × (List Int)) (Option V)) none h38 rfl W31 gv_rng ?_ ?_
    · intro x34 v35 b32 e33_0 H39 o40 W36 hm
      dsimp only at W36 ⊢
      obtain rfl := Wd.eqI W36 (Kn.at 0 rfl)
      refine i_gName ?_
      refine i_drop ?_
      refine i_bm ?_
      refine i_var rfl ?_
      refine w_mt W36 (Lx.ls (Lx.own 0 rfl)) ?_
      refine i_tcons ?_
      refine i_ifE ?_
      refine i_test ?_
      refine i_op ?_
      refine i_call ?_
      refine i_tcons ?_
      refine i_var rfl ?_
      refine i_tcons ?_
      refine i_c ?_
      refine i_tnil ?_
      replace hm := bndE hm
      obtain ⟨r45, h46, hm⟩ := hm
      obtain ⟨us53, h51, h52⟩ := Wd.ioa W36 1 rfl
      refine ⟨a_deck, (b32.1 : List Int), us53, 6, rfl, h51, h52, r45, h46, fun v47 H48 R49 => ?_⟩
      obtain ⟨rfl, W50⟩ := Wd.call1I (i := r45.1) (ys' := r45.2) W36 1 rfl R49
      refine i_c ?_
      refine i_eqI ?_
      refine i_bl ?_
      replace hm := bndE hm
      obtain ⟨x75, h76, hm⟩ := hm
      refine w_iteI (L' := [oL true p1 (b32.2 : List Int), oL true a_deck (x75.2 : List Int)]) x75.1 W50 (fun hb54 P55 hP56 => ?_) (fun hb54 P55 hP56 => ?_) (fun H77 W78 => ?_)
      · have hm : _ = some x75 := (if_pos hb54).symm.trans h76
        refine i_call ?_
        refine i_tcons ?_
        refine i_var rfl ?_
        refine i_tnil ?_
        replace hm := bndE hm
        obtain ⟨r57, h58, hm⟩ := hm
        obtain ⟨us65, h63, h64⟩ := Wd.ioa W50 1 rfl
        refine ⟨a_deck, (r45.2 : List Int), us65, rfl, h63, h64, r57, h58, fun v59 H60 R61 => ?_⟩
        obtain ⟨rfl, W62⟩ := Wd.call1I (i := r57.1) (ys' := r57.2) W50 1 rfl R61
        obtain rfl := some_inj hm
        exact hP56 _ _ rfl W62
      · have hm : _ = some x75 := (if_neg (by rw [hb54]; exact Bool.false_ne_true)).symm.trans h76
        refine i_call ?_
        refine i_tcons ?_
        refine i_var rfl ?_
        refine i_tcons ?_
        refine i_var rfl ?_
        refine i_tnil ?_
        replace hm := bndE hm
        obtain ⟨r66, h67, hm⟩ := hm
        obtain ⟨us74, h72, h73⟩ := Wd.ioa W50 1 rfl
        refine ⟨a_deck, (r45.2 : List Int), us74, x17, rfl, h72, h73, r66, h67, fun v68 H69 R70 => ?_⟩
        obtain ⟨rfl, W71⟩ := Wd.call1I (i := r66.1) (ys' := r66.2) W50 1 rfl R70
        obtain rfl := some_inj hm
        exact hP56 _ _ rfl W71
      refine i_tnil ?_
      replace hm := bndE hm
      obtain ⟨x80, h81, hm⟩ := hm
      refine w_app W78 0 rfl Kn.int h81 (fun H82 W83 => ?_)
      dsimp only [List.set] at W83
      clear W36 W50 W78
      have W84 := Wd.sel W83 [] rfl
      obtain rfl := some_inj hm
      exact ⟨some (.int x34), rfl, W84⟩
    · intro e86_0 H87 W88
      dsimp only at W88 ⊢
      refine i_ret ?_
      refine i_var rfl ?_
      have W90 := Wd.frz W88
      exact hq _ (some_inj hm) _ _ (Wd.res1 (x := (o37.2 : (List Int))) W90 hB 0 rfl (Kn.at 0 rfl))
end
/-! ### X_read_number -/
abbrev sp_X_read_number (K : PySem.W.Frag) : Sp := fun vs H Q E => ∃ (x_word : PySem.Str),  vs = [.str x_word] ∧ ∃ r : (Except Er Int), m_X_read_number x_word = some r ∧ (∀ y, r = .ok y → ∀ v' H', Res K H y v' H' → Q v' H') ∧ ∀ c, r = .error c → ∀ H', Res K H (() : Unit) .non H' → E (.ref (He.ga K c.nm)) none H'
section
variable {P : Program} {w : World} {K : PySem.W.Frag} {mg : Str → Option Value} {base : Heap}
abbrev N_X_read_number : List Str := ["word", "figure"]
theorem scope_X_read_number : FnScope N_X_read_number ["word"] (defScope s_read_number) := ⟨rfl, rfl, rfl, by decide +kernel, rfl, by decide +kernel, by decide +kernel⟩
theorem ok_X_read_number {f : Addr} {fd : FuncData} (F : FunD K "read_number" "read_number" (defArgs s_read_number) (defBody s_read_number) (defScope s_read_number) [] [] f fd) (hm : mg "read_number" = some (.ref f)) (Z : Blt mg) (SM : SMd base) (XX : Exs K mg es6)
    {u_FIGURES : Value} (c_FIGURES : mg "FIGURES" = some u_FIGURES ∧ RelV (.str "0123456789") u_FIGURES)
    {u_MOST_FIGURES : Value} (c_MOST_FIGURES : mg "MOST_FIGURES" = some u_MOST_FIGURES ∧ RelV (.int 13) u_MOST_FIGURES) :
    Fn P w K mg base 1 "read_number" ["word"] (sp_X_read_number K) := by
  refine mkFn F hm (fun _ _ _ _ _ _ us hl => match us, hl with | [_], _ => rfl) (okG (k := 0) F scope_X_read_number (fun vs H0 Q E h => ?_) (fun cdv A outer s H0 vs Q E hr hgd h => ?_))
  · obtain ⟨_, rfl, _⟩ := h; rfl
  · have nd := scope_X_read_number.nd
    have hu := hr.units
    unfold sp_X_read_number at h
    have g_NoText : mg ("NoText" : PySem.Str) = some (.ref (He.ga K ("NoText" : PySem.Str))) := XX.glo .text (Er.mem6 _)
    obtain ⟨e1_NoText, e2_NoText, e3_NoText, e4_NoText⟩ := He.exc_ok (x := ("NoText" : PySem.Str)) (XX.exc .text (Er.mem6 _))
    refine ⟨_, (pss_cons (ps_if (PW.pt (pw_or (pt_not (pt_chain op_le op_le pe_int (pe_callB cl_lenS (by rfl) Z.len_ (by decide +kernel) (pa_cons (pv 0) pa_nil)) (pe_glob rfl c_MOST_FIGURES.1 c_MOST_FIGURES.2))) (pw_or1 (PW.pt (pw_and (pt_cmpR (op_eqA hu) (pe_ix ix_seq (pv 0) pe_int (fun _ _ => rfl)) pe_str (nomark _)) (pw_and1 (pt_cmpR (op_neA hu) (pv 0) pe_str (nomark _)))))))) (pss_one (ps_raise rfl (takes_of rfl rfl rfl rfl) (pmk_own PySem.F.excBase_ValueError e1_NoText g_NoText e2_NoText (raises_own e3_NoText e4_NoText) rfl))) pss_nil)
    (pss_cons (ps_for (passes_of rfl) rfl (pi_str (pv 0)) (pg_name (i := 1) nd rfl (.inl rfl)) (pss_one (ps_if (pt_cmpR op_notInS (pv 1) (pe_glob rfl c_FIGURES.1 c_FIGURES.2) (by rfl)) (pss_one (ps_raise rfl (takes_of rfl rfl rfl rfl) (pmk_own PySem.F.excBase_ValueError e1_NoText g_NoText e2_NoText (raises_own e3_NoText e4_NoText) rfl))) pss_nil)))
    (pss_one (ps_ret (pe_callTy call_intS (by rfl) Z.int_ (by decide +kernel) (pa_cons (pv 0) pa_nil)))))), ?_⟩
    (try dsimp only [cxOf])
    obtain ⟨x_word, rfl, r0, hm, q⟩ := h
    let G_ : (Except Er Int) → Prop := fun r => (∀ y, r = .ok y → ∀ v' H', Res K H0 y v' H' → Q v' H') ∧ ∀ c, r = .error c → ∀ H', Res K H0 (() : Unit) .non H' → E (.ref (He.ga K c.nm)) none H'
    have hq : ∀ r, r = r0 → G_ r := fun r e => by subst e; exact q
    clear q
    unfold m_X_read_number at hm
    have W0 := Wd.start (K := K) H0
    refine i_seq ?_
    refine i_ifS ?_
    refine i_or ?_
    refine i_not ?_
    refine i_test ?_
    refine i_chain ?_
    refine i_c ?_
    refine i_cb ?_
    refine i_tcons ?_
    refine i_var rfl ?_
    refine i_tnil ?_
    replace hm := bndE hm
    obtain ⟨x1, h2, hm⟩ := hm
    refine w_lenS h2 ?_
    refine i_I0 ?_
    refine i_bl ?_
    refine w_chainW (L' := _) ((decide (1 ≤ x1)) && (decide (x1 ≤ 13))) W0 (fun hb3 P4 hP5 => ?_) (fun hb3 => ⟨and_f hb3, W0⟩) (fun H6 W7 => ?_)
    · refine i_c ?_
      refine i_I0 ?_
      exact hP5 _ _ (and_t hb3) W0
    refine i_bl ?_
    replace hm := bndE hm
    obtain ⟨x18, h19, hm⟩ := hm
    refine w_orW (L' := []) x18 W7 (fun hb8 P9 hP10 => ?_) (fun hb8 => ?_) (fun H20 W21 => ?_)
    · have hm : _ = some x18 := (if_neg (by rw [hb8]; exact Bool.false_ne_true)).symm.trans h19
      refine i_and ?_
      refine i_test ?_
      refine i_op ?_
      refine i_op ?_
      refine i_var rfl ?_
      refine i_c ?_
      replace hm := bndE hm
      obtain ⟨x11, h12, hm⟩ := hm
      refine w_ixS h12 ?_
      refine i_c ?_
      refine i_eqS ?_
      refine i_bl ?_
      refine w_andW (L' := _) ((decide (x11 = ("0" : PySem.Str))) && (!decide (x_word = ("0" : PySem.Str)))) W7 (fun hb13 P14 hP15 => ?_) (fun hb13 => ⟨and_f hb13, W7⟩) (fun H16 W17 => ?_)
      · refine i_test ?_
        refine i_op ?_
        refine i_var rfl ?_
        refine i_c ?_
        refine i_neS ?_
        refine i_bl ?_
        exact hP15 _ _ (and_t hb13) W7
      have hm := some_inj hm
      exact hP10 _ _ hm W17
    · have hm := some_inj ((if_pos hb8).symm.trans h19)
      exact ⟨hm, W7⟩
    clear W0 W7
    rcases iteE hm with ⟨hb23, hm⟩ | ⟨hb23, hm⟩
    · refine i_bT hb23 ?_
      exact (hq _ (some_inj hm)).2 _ rfl _ (Wd.res (x := (() : Unit)) W21 Kn.unit)
    · refine i_bF hb23 ?_
      refine i_next ?_
      refine i_seq ?_
      refine i_for ?_
      refine i_iStr ?_
      refine i_var rfl ?_
      refine w_itS ?_
      have W24 := Wd.sel W21 [] rfl
      replace hm := bndE hm
      obtain ⟨o30, h31, hm⟩ := hm
      have hqi : ∀ r, o30 = .ret r → G_ r := fun r er => by subst er; exact hq _ (some_inj hm)
      refine w_for (⟨fun b e => [some (.str x_word), e], fun b e => [], fun b e => []⟩ : Shp (Unit) (Option V)) none h31 rfl W24 (gv_str true) ?_ ?_
      · intro x27 v28 b25 e26_0 H32 o33 W29 hm hr34
        have hqii : ∀ r, o33 = .ret r → G_ r := fun r er => hqi r (hr34 r er)
        dsimp only at W29 ⊢
        obtain rfl := Wd.eqS W29 (Kn.at 0 rfl)
        refine i_gName ?_
        refine i_ifS ?_
        refine i_test ?_
        refine i_op ?_
        refine i_var rfl ?_
        refine i_c ?_
        replace hm := bndE hm
        obtain ⟨x38, h39, hm⟩ := hm
        refine w_notInS h39 ?_
        refine i_bl ?_
        rcases iteE hm with ⟨hb40, hm⟩ | ⟨hb40, hm⟩
        · refine i_bT hb40 ?_
          exact (hqii _ (some_inj hm).symm).2 _ rfl _ (Wd.res (x := (() : Unit)) W29 Kn.unit)
        · refine i_bF hb40 ?_
          refine i_next ?_
          have W41 := Wd.sel W29 [] rfl
          exact ⟨(), some (.str x27), (some_inj hm).symm, rfl, W41⟩
      · intro s42 e43_0 H44 eb46 W45
        subst eb46
        dsimp only at W45 ⊢
        refine i_ret ?_
        refine i_cb ?_
        refine i_tcons ?_
        refine i_var rfl ?_
        refine i_tnil ?_
        replace hm := bndE hm
        obtain ⟨x47, h48, hm⟩ := hm
        refine w_intR h48 ?_
        exact (hq _ (some_inj hm)).1 _ rfl _ _ (Wd.res (x := (x47 : Int)) W45 Kn.int)
end
/-! ### X_read_row -/
abbrev sp_X_read_row (K : PySem.W.Frag) : Sp := fun vs H Q E => ∃ (x_text : PySem.Str),  vs = [.str x_text] ∧ ∃ r : (Except Er (List Int)), m_X_read_row x_text = some r ∧ (∀ y, r = .ok y → ∀ v' H', Res K H y v' H' → Q v' H') ∧ ∀ c, r = .error c → ∀ H', Res K H (() : Unit) .non H' → E (.ref (He.ga K c.nm)) none H'
section
variable {P : Program} {w : World} {K : PySem.W.Frag} {mg : Str → Option Value} {base : Heap}
abbrev N_X_read_row : List Str := ["text", "word"]
theorem scope_X_read_row : FnScope N_X_read_row ["text"] (defScope s_read_row) := ⟨rfl, rfl, rfl, by decide +kernel, rfl, by decide +kernel, by decide +kernel⟩
-- comprehension scope 0
theorem ok_X_read_row {f : Addr} {fd : FuncData} (F : FunD K "read_row" "read_row" (defArgs s_read_row) (defBody s_read_row) (defScope s_read_row) [] [] f fd) (hm : mg "read_row" = some (.ref f)) (Z : Blt mg) (SM : SMd base) (XX : Exs K mg es6)
    (C_X_read_number : Fn P w K mg base 1 "read_number" ["word"] (sp_X_read_number K)) :
    Fn P w K mg base 2 "read_row" ["text"] (sp_X_read_row K) := by
  refine mkFn F hm (fun _ _ _ _ _ _ us hl => match us, hl with | [_], _ => rfl) (okG (k := 1) F scope_X_read_row (fun vs H0 Q E h => ?_) (fun cdv A outer s H0 vs Q E hr hgd h => ?_))
  · obtain ⟨_, rfl, _⟩ := h; rfl
  · have nd := scope_X_read_row.nd
    have hu := hr.units
    have hr_X_read_number : Room 1 _ := hr.mono (by decide : 1 ≤ 1)
    unfold sp_X_read_row at h
    refine ⟨_, (pss_one (ps_ret (pe_lcX (own := [("word", 1)]) (g := gName 1) (tt := tYes) (by rfl) nd (takes_of rfl rfl rfl rfl) rfl rfl (pi_list (pe_splitR (pv 0) pe_str)) (blkOk_by (own := [("word", 1)]) (N := N_X_read_row) (sc := (defScope s_read_row)) (by decide +kernel)) (fun _ _ _ _ _ _ => (pg_name (i := 1) nd rfl (.inl rfl))) (fun _ _ _ _ _ _ => pts_nil) (fun _ _ _ _ _ _ hx_ => (pe_fnX C_X_read_number hr_X_read_number hgd (by rfl) hx_ (pa_cons (pv 1) pa_nil)))))), ?_⟩
    (try dsimp only [cxOf])
    obtain ⟨x_text, rfl, r0, hm, q⟩ := h
    let G_ : (Except Er (List Int)) → Prop := fun r => (∀ y, r = .ok y → ∀ v' H', Res K H0 y v' H' → Q v' H') ∧ ∀ c, r = .error c → ∀ H', Res K H0 (() : Unit) .non H' → E (.ref (He.ga K c.nm)) none H'
    have hq : ∀ r, r = r0 → G_ r := fun r e => by subst e; exact q
    clear q
    unfold m_X_read_row at hm
    have W0 := Wd.start (K := K) H0
    refine i_ret ?_
    refine i_lc ?_
    refine i_iList ?_
    refine i_m1 ?_
    refine i_var rfl ?_
    refine w_txt ?_
    refine i_c ?_
    replace hm := bndE hm
    obtain ⟨x1, h2, hm⟩ := hm
    refine w_splitR W0 h2 (fun p3 H4 W5 => ?_)
    have W6 := Wd.frz W5
    refine w_itL W6 (Lx.ls (Lx.kn (Kn.at 0 rfl))) ?_
    replace hm := bndE hm
    obtain ⟨x17, h18, hm⟩ := hm
    have hmO19 := hm
    refine w_mapX (γ := Int) true h18 W6 (fun _ => (gv_list (fun _ _ => (Lx.ls (Lx.kn (Kn.at 0 rfl)))))) (fun D9 x7 v8 acc10 H11 o12 ha13 W14 hm he16 => ?_) (fun p36 y39 H37 e40 W38 => ?_)
    · obtain rfl := Wd.eqS W14 (Kn.at 0 rfl)
      refine i_gName ?_
      refine i_wipe rfl ?_
      refine i_yes ?_
      refine i_T ?_
      refine i_callX ?_
      refine i_tcons ?_
      refine i_var rfl ?_
      refine i_tnil ?_
      replace hm := bndE hm
      obtain ⟨r20, h21, hm⟩ := hm
      refine ⟨x7, rfl, r20, h21, fun y26 e27 v22 H23 R24 => ?_, fun c28 e29 H30 R31 => ?_⟩
      rotate_left
      · subst e29
        dsimp only at hm
        obtain ⟨_, W32⟩ := Wd.callU W14 R31
        have er33 := he16 c28 (some_inj hm).symm
        subst er33
        dsimp only at hmO19
        exact (hq _ (some_inj hmO19)).2 _ rfl _ (Wd.res (x := (() : Unit)) W32 Kn.unit)
      subst e27
      dsimp only at hm
      obtain ⟨rfl, W25⟩ := Wd.callI W14 R24
      obtain rfl := some_inj hm
      refine w_elt W25 Kn.int ha13 (fun H34 W35 => ?_)
      exact ⟨_, rfl, Wd.drop W35 1 rfl⟩
    subst e40
    dsimp only at hm
    have W42 := Wd.frz W38
    exact (hq _ (some_inj hm)).1 _ rfl _ _ (Wd.res (x := (y39 : (List Int))) W42 (Kn.at 0 rfl))
end
/-! ### _law_number_in -/
abbrev sp__law_number_in (K : PySem.W.Frag) : Sp := fun vs H Q _ => ∃ (x_word : PySem.Str),  vs = [.str x_word] ∧ ∃ r : (Option Int), m__law_number_in x_word = some r ∧ ∀ v' H', Res K H r v' H' → Q v' H'
section
variable {P : Program} {w : World} {K : PySem.W.Frag} {mg : Str → Option Value} {base : Heap}
abbrev N__law_number_in : List Str := ["word", "figure"]
theorem scope__law_number_in : FnScope N__law_number_in ["word"] (defScope s__law_number_in) := ⟨rfl, rfl, rfl, by decide +kernel, rfl, by decide +kernel, by decide +kernel⟩
-- comprehension scope 0
theorem ok__law_number_in {f : Addr} {fd : FuncData} (F : FunD K "_law_number_in" "_law_number_in" (defArgs s__law_number_in) (defBody s__law_number_in) (defScope s__law_number_in) [] [] f fd) (hm : mg "_law_number_in" = some (.ref f)) (Z : Blt mg) (SM : SMd base) (XX : Exs K mg es6) :
    Fn P w K mg base 1 "_law_number_in" ["word"] (sp__law_number_in K) := by
  refine mkFn F hm (fun _ _ _ _ _ _ us hl => match us, hl with | [_], _ => rfl) (okG (k := 0) F scope__law_number_in (fun vs H0 Q E h => ?_) (fun cdv A outer s H0 vs Q E hr hgd h => ?_))
  · obtain ⟨_, rfl, _⟩ := h; rfl
  · have nd := scope__law_number_in.nd
    have hu := hr.units
    unfold sp__law_number_in at h
    refine ⟨_, PSs.nox (pss_cons (ps_if (PW.pt (pw_or (pt_not (pt_chain op_le op_le pe_int (pe_callB cl_lenS (by rfl) Z.len_ (by decide +kernel) (pa_cons (pv 0) pa_nil)) pe_int)) (pw_or1 (PW.pt (pw_and (pt_cmpR (op_eqA hu) (pe_ix ix_seq (pv 0) pe_int (fun _ _ => rfl)) pe_str (nomark _)) (pw_and1 (pt_cmpR (op_neA hu) (pv 0) pe_str (nomark _)))))))) (pss_one (ps_ret pe_non)) pss_nil)
    (pss_one (ps_ret (pe_ifExp (pt_val (pe_callB (cr_all rfl) (by rfl) Z.all_ (by decide +kernel) (pa_cons (pe_lc (own := [("figure", 1)]) (g := gName 1) (tt := tYes) (by rfl) nd (pi_str (pv 0)) (blkOk_by (own := [("figure", 1)]) (N := N__law_number_in) (sc := (defScope s__law_number_in)) (by decide +kernel)) (fun _ _ _ _ _ => (pg_name (i := 1) nd rfl (.inl rfl))) (fun _ _ _ _ _ => pts_nil) (fun _ _ _ _ _ => (pe_cmpR op_inS (pv 1) pe_str (by rfl)))) pa_nil))) (pe_callTy call_intS (by rfl) Z.int_ (by decide +kernel) (pa_cons (pv 0) pa_nil)) pe_non)))), ?_⟩
    (try dsimp only [cxOf])
    obtain ⟨x_word, rfl, r0, hm, q⟩ := h
    let G_ : (Option Int) → Prop := fun r => ∀ v' H', Res K H0 r v' H' → Q v' H'
    have hq : ∀ r, r = r0 → G_ r := fun r e => by subst e; exact q
    clear q
    unfold m__law_number_in at hm
    have W0 := Wd.start (K := K) H0
    refine i_seq ?_
    refine i_ifS ?_
    refine i_or ?_
    refine i_not ?_
    refine i_test ?_
    refine i_chain ?_
    refine i_c ?_
    refine i_cb ?_
    refine i_tcons ?_
    refine i_var rfl ?_
    refine i_tnil ?_
    replace hm := bndE hm
    obtain ⟨x1, h2, hm⟩ := hm
    refine w_lenS h2 ?_
    refine i_I0 ?_
    refine i_bl ?_
    refine w_chainW (L' := _) ((decide (1 ≤ x1)) && (decide (x1 ≤ 13))) W0 (fun hb3 P4 hP5 => ?_) (fun hb3 => ⟨and_f hb3, W0⟩) (fun H6 W7 => ?_)
    · refine i_c ?_
      refine i_I0 ?_
      exact hP5 _ _ (and_t hb3) W0
    refine i_bl ?_
    replace hm := bndE hm
    obtain ⟨x18, h19, hm⟩ := hm
    refine w_orW (L' := []) x18 W7 (fun hb8 P9 hP10 => ?_) (fun hb8 => ?_) (fun H20 W21 => ?_)
    · have hm : _ = some x18 := (if_neg (by rw [hb8]; exact Bool.false_ne_true)).symm.trans h19
      refine i_and ?_
      refine i_test ?_
      refine i_op ?_
      refine i_op ?_
      refine i_var rfl ?_
      refine i_c ?_
      replace hm := bndE hm
      obtain ⟨x11, h12, hm⟩ := hm
      refine w_ixS h12 ?_
      refine i_c ?_
      refine i_eqS ?_
      refine i_bl ?_
      refine w_andW (L' := _) ((decide (x11 = ("0" : PySem.Str))) && (!decide (x_word = ("0" : PySem.Str)))) W7 (fun hb13 P14 hP15 => ?_) (fun hb13 => ⟨and_f hb13, W7⟩) (fun H16 W17 => ?_)
      · refine i_test ?_
        refine i_op ?_
        refine i_var rfl ?_
        refine i_c ?_
        refine i_neS ?_
        refine i_bl ?_
        exact hP15 _ _ (and_t hb13) W7
      have hm := some_inj hm
      exact hP10 _ _ hm W17
    · have hm := some_inj ((if_pos hb8).symm.trans h19)
      exact ⟨hm, W7⟩
    clear W0 W7
    rcases iteE hm with ⟨hb23, hm⟩ | ⟨hb23, hm⟩
    · refine i_bT hb23 ?_
      refine i_ret ?_
      refine i_c ?_
      exact hq _ (some_inj hm) _ _ (Wd.res (x := ((none : (Option Int)) : (Option Int))) W21 Kn.none)
    · refine i_bF hb23 ?_
      refine i_next ?_
      refine i_ret ?_
      refine i_ifE ?_
      refine i_tB ?_
      refine i_cb ?_
      refine i_tcons ?_
      refine i_lc ?_
      refine i_iStr ?_
      refine i_var rfl ?_
      refine w_itS ?_
      replace hm := bndE hm
      obtain ⟨x40, h41, hm⟩ := hm
      refine w_map (γ := Bool) true h41 W21 (fun _ => (gv_str true)) (fun D26 x24 v25 acc27 H28 y29 ha30 W31 hm => ?_) (fun p37 H38 W39 => ?_)
      · obtain rfl := Wd.eqS W31 (Kn.at 0 rfl)
        refine i_gName ?_
        refine i_wipe rfl ?_
        refine i_yes ?_
        refine i_T ?_
        refine i_op ?_
        refine i_var rfl ?_
        refine i_c ?_
        replace hm := bndE hm
        obtain ⟨x33, h34, hm⟩ := hm
        refine w_inS h34 ?_
        obtain rfl := some_inj hm
        refine w_elt W31 Kn.bl ha30 (fun H35 W36 => ?_)
        exact ⟨(), Wd.drop W36 1 rfl⟩
      have W42 := Wd.frz W39
      refine i_tnil ?_
      refine w_all W42 (Lx.ls (Lx.kn (Kn.at 0 rfl))) ?_
      refine i_bl ?_
      replace hm := bndE hm
      obtain ⟨x52, h53, hm⟩ := hm
      refine w_iteW (L' := []) (x52 : (Option Int)) true W42 (fun hb43 P44 hP45 => ?_) (fun hb43 P44 hP45 => ?_) (fun v56 H54 W55 => ?_)
      · have hm : _ = some x52 := (if_pos hb43).symm.trans h53
        refine i_cb ?_
        refine i_tcons ?_
        refine i_var rfl ?_
        refine i_tnil ?_
        replace hm := bndE hm
        obtain ⟨x46, h47, hm⟩ := hm
        refine w_intR h47 ?_
        obtain rfl := some_inj hm
        have W48 := Wd.know (t := true) (x := ((some x46) : (Option Int))) W42 (Kn.some Kn.int)
        have W49 := Wd.sel W48 [0, 1] rfl
        exact hP45 _ _ W49
      · have hm : _ = some x52 := (if_neg (by rw [hb43]; exact Bool.false_ne_true)).symm.trans h53
        refine i_c ?_
        obtain rfl := some_inj hm
        have W50 := Wd.know (t := true) (x := ((none : (Option Int)) : (Option Int))) W42 Kn.none
        have W51 := Wd.sel W50 [0, 1] rfl
        exact hP45 _ _ W51
      exact hq _ (some_inj hm) _ _ (Wd.res (x := (x52 : (Option Int))) W55 (Kn.at 0 rfl))
end
/-! ### _law_right -/
abbrev sp__law_right (K : PySem.W.Frag) : Sp := fun vs H Q _ => ∃ (x_text : PySem.Str),  vs = [.str x_text] ∧ ∃ r : Bool, m__law_right x_text = some r ∧ ∀ v' H', Res K H r v' H' → Q v' H'
section
variable {P : Program} {w : World} {K : PySem.W.Frag} {mg : Str → Option Value} {base : Heap}
abbrev N__law_right : List Str := ["text", "found", "kinds", "e", "due", "word"]
theorem scope__law_right : FnScope N__law_right ["text"] (defScope s__law_right) := ⟨rfl, rfl, rfl, by decide +kernel, rfl, by decide +kernel, by decide +kernel⟩
-- comprehension scope 0
theorem ok__law_right {f : Addr} {fd : FuncData} (F : FunD K "_law_right" "_law_right" (defArgs s__law_right) (defBody s__law_right) (defScope s__law_right) [] [] f fd) (hm : mg "_law_right" = some (.ref f)) (Z : Blt mg) (SM : SMd base) (XX : Exs K mg es6)
    (C__law_number_in : Fn P w K mg base 1 "_law_number_in" ["word"] (sp__law_number_in K))
    (C_X_read_row : Fn P w K mg base 2 "read_row" ["text"] (sp_X_read_row K)) :
    Fn P w K mg base 3 "_law_right" ["text"] (sp__law_right K) := by
  refine mkFn F hm (fun _ _ _ _ _ _ us hl => match us, hl with | [_], _ => rfl) (okG (k := 2) F scope__law_right (fun vs H0 Q E h => ?_) (fun cdv A outer s H0 vs Q E hr hgd h => ?_))
  · obtain ⟨_, rfl, _⟩ := h; rfl
  · have nd := scope__law_right.nd
    have hu := hr.units
    have hr__law_number_in : Room 1 _ := hr.mono (by decide : 1 ≤ 2)
    have hr_X_read_row : Room 2 _ := hr.mono (by decide : 2 ≤ 2)
    unfold sp__law_right at h
    have g_CutError : mg ("CutError" : PySem.Str) = some (.ref (He.ga K ("CutError" : PySem.Str))) := XX.glo .cut (Er.mem6 _)
    obtain ⟨e1_CutError, e2_CutError, e3_CutError, e4_CutError⟩ := He.exc_ok (x := ("CutError" : PySem.Str)) (XX.exc .cut (Er.mem6 _))
    have g_NoCommand : mg ("NoCommand" : PySem.Str) = some (.ref (He.ga K ("NoCommand" : PySem.Str))) := XX.glo .command (Er.mem6 _)
    obtain ⟨e1_NoCommand, e2_NoCommand, e3_NoCommand, e4_NoCommand⟩ := He.exc_ok (x := ("NoCommand" : PySem.Str)) (XX.exc .command (Er.mem6 _))
    have g_NoMany : mg ("NoMany" : PySem.Str) = some (.ref (He.ga K ("NoMany" : PySem.Str))) := XX.glo .many (Er.mem6 _)
    obtain ⟨e1_NoMany, e2_NoMany, e3_NoMany, e4_NoMany⟩ := He.exc_ok (x := ("NoMany" : PySem.Str)) (XX.exc .many (Er.mem6 _))
    have g_NoNumber : mg ("NoNumber" : PySem.Str) = some (.ref (He.ga K ("NoNumber" : PySem.Str))) := XX.glo .number (Er.mem6 _)
    obtain ⟨e1_NoNumber, e2_NoNumber, e3_NoNumber, e4_NoNumber⟩ := He.exc_ok (x := ("NoNumber" : PySem.Str)) (XX.exc .number (Er.mem6 _))
    have g_NoPlace : mg ("NoPlace" : PySem.Str) = some (.ref (He.ga K ("NoPlace" : PySem.Str))) := XX.glo .place (Er.mem6 _)
    obtain ⟨e1_NoPlace, e2_NoPlace, e3_NoPlace, e4_NoPlace⟩ := He.exc_ok (x := ("NoPlace" : PySem.Str)) (XX.exc .place (Er.mem6 _))
    have g_NoText : mg ("NoText" : PySem.Str) = some (.ref (He.ga K ("NoText" : PySem.Str))) := XX.glo .text (Er.mem6 _)
    obtain ⟨e1_NoText, e2_NoText, e3_NoText, e4_NoText⟩ := He.exc_ok (x := ("NoText" : PySem.Str)) (XX.exc .text (Er.mem6 _))
    refine ⟨_, PSs.nox (pss_cons (ps_set (i := 1) nd rfl (.inl rfl) pe_non)
    (pss_cons (ps_set (i := 2) nd rfl (.inl rfl) (pe_lst pa_nil))
    (pss_cons (ps_try_k (i := 3) rfl rfl rfl nd rfl rfl ⟨by rfl, by decide, .inl g_CutError⟩ (fun W pn xe tk pw => (pss_one (ps_set (i := 1) nd rfl (.inl rfl) (pe_fnX C_X_read_row hr_X_read_row hgd (by rfl) (fun σ => passAt tk σ) (pa_cons (pv 0) pa_nil))))) (fun a pn => (pss_cons (ps_set (i := 2) nd rfl (.inl rfl) (pe_lst (pa_cons (pe_callB (r := rIsY K) call_isY (by rfl) Z.isinstance_ (by decide +kernel) (pa_cons (pv 3) (pa_cons (pe_glob (v := .ref (He.ga K ("NoText" : PySem.Str))) rfl g_NoText rfl) pa_nil))) (pa_cons (pe_callB (r := rIsY K) call_isY (by rfl) Z.isinstance_ (by decide +kernel) (pa_cons (pv 3) (pa_cons (pe_bltn (v := .ty "ValueError") (by rfl) Z.ValueError_ (by decide +kernel) rfl) pa_nil))) pa_nil))))
    (pss_one (ps_expr (pe_bmK (K := K) PySem.F.plainAttrs_list PySem.F.slot_list_append PySem.F.type_list_append mt_append (pv 2) (pa_cons (pe_callB (r := rIsY K) call_isY (by rfl) Z.isinstance_ (by decide +kernel) (pa_cons (pv 3) (pa_cons (pe_tup (pa_cons (pe_glob (v := .ref (He.ga K ("NoCommand" : PySem.Str))) rfl g_NoCommand rfl) (pa_cons (pe_glob (v := .ref (He.ga K ("NoMany" : PySem.Str))) rfl g_NoMany rfl) (pa_cons (pe_glob (v := .ref (He.ga K ("NoNumber" : PySem.Str))) rfl g_NoNumber rfl) (pa_cons (pe_glob (v := .ref (He.ga K ("NoPlace" : PySem.Str))) rfl g_NoPlace rfl) pa_nil))))) pa_nil))) pa_nil)))))))
    (pss_cons (ps_setLc (i := 4) (own := [("word", 5)]) (g := gName 5) (tt := tYes) (by rfl) nd rfl rfl (sw_true rfl rfl rfl (by decide +kernel)) (pi_list (pe_splitR (pv 0) pe_str)) (blkOk_by (own := [("word", 5)]) (N := N__law_right) (sc := (defScope s__law_right)) (by decide +kernel)) (fun _ _ _ _ _ => (pg_name (i := 5) nd rfl (.inl rfl))) (fun _ _ _ _ _ => pts_nil) (fun _ _ _ _ _ => (pe_fn C__law_number_in hr__law_number_in hgd (by rfl) passL (pa_cons (pv 5) pa_nil))))
    (pss_cons (ps_if (pt_cmpR op_in_seq pe_non (pv 4) (by rfl)) (pss_one (ps_ret (pe_cmpR (op_eqA hu) (pv 2) (pe_lst (pa_cons pe_bl (pa_cons pe_bl (pa_cons pe_bl pa_nil)))) (nomark _)))) pss_nil)
    (pss_one (ps_ret (pe_and (pe_cmpR (op_eqA hu) (pv 2) (pe_lst pa_nil) (nomark _)) (pe_one (pe_cmpR (op_eqA hu) (pe_callB (call_reprD hgd hu) (by rfl) Z.repr_ (by decide +kernel) (pa_cons (pv 1) pa_nil)) (pe_callB (call_reprD hgd hu) (by rfl) Z.repr_ (by decide +kernel) (pa_cons (pv 4) pa_nil)) (nomark _))))))))))), ?_⟩
    (try dsimp only [cxOf])
    obtain ⟨x_text, rfl, r0, hm, q⟩ := h
    let G_ : Bool → Prop := fun r => ∀ v' H', Res K H0 r v' H' → Q v' H'
    have hq : ∀ r, r = r0 → G_ r := fun r e => by subst e; exact q
    clear q
    unfold m__law_right at hm
    have W0 := Wd.start (K := K) H0
    refine i_seq ?_
    refine i_asg ?_
    refine i_c ?_
    refine i_gName ?_
    refine i_seq ?_
    refine i_asg ?_
    refine i_tlst ?_
    refine i_tnil ?_
    refine w_lst (α := Int) (t := true) W0 KnL.nil (by show (0 : Nat) ≤ sizeLine; decide) (fun p1 H2 W3 => ?_)
    refine i_gName ?_
    clear W0
    refine i_seq ?_
    refine i_asg ?_
    refine i_callX ?_
    refine i_tcons ?_
    refine i_var rfl ?_
    refine i_tnil ?_
    replace hm := bndE hm
    obtain ⟨r4, h5, hm⟩ := hm
    refine ⟨x_text, rfl, r4, h5, fun y10 e11 v6 H7 R8 => ?_, fun c12 e13 H14 R15 => ?_⟩
    rotate_left
    · subst e13
      dsimp only at hm
      obtain ⟨_, W16⟩ := Wd.callU W3 R15
      refine ⟨rfl, Exs.cut XX c12, fun a17 ha18 => ?_⟩
      (try dsimp only [List.set])
      have W19 := Wd.keepE (c := c12) W16 ha18
      refine i_seq ?_
      refine i_asg ?_
      refine i_tlst ?_
      refine i_tcons ?_
      refine i_cb ?_
      refine i_tcons ?_
      refine i_var rfl ?_
      refine i_tcons ?_
      refine i_c ?_
      refine i_tnil ?_
      refine w_isC .text XX W19 (Kn.at 0 rfl) ?_
      refine i_tcons ?_
      refine i_cb ?_
      refine i_tcons ?_
      refine i_var rfl ?_
      refine i_tcons ?_
      refine i_c ?_
      refine i_tnil ?_
      refine w_isVE XX W19 (Kn.at 0 rfl) ?_
      refine i_tnil ?_
      refine w_lst (α := Bool) (t := true) W19 (KnL.cons Kn.bl (KnL.cons Kn.bl KnL.nil)) (by show (2 : Nat) ≤ sizeLine; decide) (fun p20 H21 W22 => ?_)
      refine i_gName ?_
      clear W3 W16 W19
      refine i_drop ?_
      refine i_bm ?_
      refine i_var rfl ?_
      refine w_mt W22 (Lx.ls (Lx.own 0 rfl)) ?_
      refine i_tcons ?_
      refine i_cb ?_
      refine i_tcons ?_
      refine i_var rfl ?_
      refine i_tcons ?_
      refine i_ttup ?_
      refine i_tcons ?_
      refine i_c ?_
      refine i_tcons ?_
      refine i_c ?_
      refine i_tcons ?_
      refine i_c ?_
      refine i_tcons ?_
      refine i_c ?_
      refine i_tnil ?_
      refine w_tupC [Er.command, Er.many, Er.number, Er.place] (by decide) W22 (fun p23 H24 W25 hp26 => ?_)
      refine i_tnil ?_
      refine w_isT [Er.command, Er.many, Er.number, Er.place] XX W25 (Kn.at 0 rfl) hp26 ?_
      refine i_tnil ?_
      replace hm := bndE hm
      obtain ⟨x27, h28, hm⟩ := hm
      refine w_app W25 0 rfl Kn.bl h28 (fun H29 W30 => ?_)
      dsimp only [List.set] at W30
      clear W22 W25
      (try dsimp only [List.set])
      refine i_seq ?_
      refine i_asg ?_
      refine i_lc ?_
      refine i_iList ?_
      refine i_m1 ?_
      refine i_var rfl ?_
      refine w_txt ?_
      refine i_c ?_
      replace hm := bndE hm
      obtain ⟨x31, h32, hm⟩ := hm
      refine w_splitR W30 h32 (fun p33 H34 W35 => ?_)
      have W36 := Wd.frz W35
      refine w_itL W36 (Lx.ls (Lx.kn (Kn.at 0 rfl))) ?_
      replace hm := bndE hm
      obtain ⟨x57, h58, hm⟩ := hm
      refine w_map (γ := (Option Int)) true h58 W36 (fun _ => (gv_list (fun _ _ => (Lx.ls (Lx.kn (Kn.at 0 rfl)))))) (fun D39 x37 v38 acc40 H41 y42 ha43 W44 hm => ?_) (fun p54 H55 W56 => ?_)
      · obtain rfl := Wd.eqS W44 (Kn.at 0 rfl)
        refine i_gName ?_
        refine i_wipe rfl ?_
        refine i_yes ?_
        refine i_T ?_
        refine i_call ?_
        refine i_tcons ?_
        refine i_var rfl ?_
        refine i_tnil ?_
        replace hm := bndE hm
        obtain ⟨r46, h47, hm⟩ := hm
        refine ⟨x37, rfl, r46, h47, fun v48 H49 R50 => ?_⟩
        have W51 := Wd.call W44 R50
        obtain rfl := some_inj hm
        refine w_elt W51 (Kn.at 0 rfl) ha43 (fun H52 W53 => ?_)
        exact ⟨(), Wd.drop W53 2 rfl⟩
      have W59 := Wd.frz W56
      refine i_gName ?_
      clear W30 W35 W36 W56
      refine i_seq ?_
      refine i_ifS ?_
      refine i_test ?_
      refine i_op ?_
      refine i_c ?_
      refine i_var rfl ?_
      refine w_inNone W59 (Lx.ls (Lx.kn (Kn.at 0 rfl))) ?_
      refine i_bl ?_
      rcases iteE hm with ⟨hb60, hm⟩ | ⟨hb60, hm⟩
      · refine i_bT hb60 ?_
        refine i_ret ?_
        refine i_op ?_
        refine i_var rfl ?_
        refine i_tlst ?_
        refine i_tcons ?_
        refine i_c ?_
        refine i_tcons ?_
        refine i_c ?_
        refine i_tcons ?_
        refine i_c ?_
        refine i_tnil ?_
        refine w_lst (α := Bool) (t := true) W59 (KnL.cons Kn.bl (KnL.cons Kn.bl (KnL.cons Kn.bl KnL.nil))) (by show (3 : Nat) ≤ sizeLine; decide) (fun p61 H62 W63 => ?_)
        have W64 := Wd.frz W63
        replace hm := bndE hm
        obtain ⟨x65, h66, hm⟩ := hm
        refine w_eq W64 (Ar.lx (Lx.own 0 rfl)) (Ar.kn (t := true) (Kn.at 0 rfl)) h66 ?_
        exact hq _ (some_inj hm) _ _ (Wd.res (x := (x65 : Bool)) W64 Kn.bl)
      · refine i_bF hb60 ?_
        refine i_next ?_
        refine i_ret ?_
        refine i_andV ?_
        refine i_op ?_
        refine i_var rfl ?_
        refine i_tlst ?_
        refine i_tnil ?_
        refine w_lst (α := Int) (t := true) W59 KnL.nil (by show (0 : Nat) ≤ sizeLine; decide) (fun p67 H68 W69 => ?_)
        have W70 := Wd.frz W69
        replace hm := bndE hm
        obtain ⟨x71, h72, hm⟩ := hm
        refine w_eq W70 (Ar.lx (Lx.own 0 rfl)) (Ar.kn (t := true) (Kn.at 0 rfl)) h72 ?_
        refine i_bl ?_
        replace hm := bndE hm
        obtain ⟨x80, h81, hm⟩ := hm
        refine w_andVW (L' := [oL true p20 (x27 : List Bool), oL true p1 (([] : List Int) : List Int)]) x80 W70 (fun hb73 P74 hP75 => ?_) (fun hb73 => ?_) (fun H82 W83 => ?_)
        · have hm : _ = some x80 := (if_pos hb73).symm.trans h81
          refine i_op ?_
          refine i_cb ?_
          refine i_tcons ?_
          refine i_var rfl ?_
          refine i_tnil ?_
          replace hm := bndE hm
          obtain ⟨x76, h77, hm⟩ := hm
          refine w_repr W70 (Ar.kn (t := true) Kn.unit) h77 ?_
          refine i_cb ?_
          refine i_tcons ?_
          refine i_var rfl ?_
          refine i_tnil ?_
          replace hm := bndE hm
          obtain ⟨x78, h79, hm⟩ := hm
          refine w_repr W70 (Ar.kn (t := true) (Kn.at 1 rfl)) h79 ?_
          refine i_eqS ?_
          have hm := some_inj hm
          exact hP75 _ _ hm W70
        · have hm := some_inj ((if_neg (by rw [hb73]; exact Bool.false_ne_true)).symm.trans h81)
          exact ⟨hm, W70⟩
        exact hq _ (some_inj hm) _ _ (Wd.res (x := (x80 : Bool)) W83 Kn.bl)
    subst e11
    dsimp only at hm
    have W9 := Wd.call W3 R8
    obtain ⟨a85, rfl⟩ := Wd.eqL W9 (Kn.at 0 rfl)
    refine i_gName ?_
    clear W3
    refine i_seq ?_
    refine i_asg ?_
    refine i_lc ?_
    refine i_iList ?_
    refine i_m1 ?_
    refine i_var rfl ?_
    refine w_txt ?_
    refine i_c ?_
    replace hm := bndE hm
    obtain ⟨x86, h87, hm⟩ := hm
    refine w_splitR W9 h87 (fun p88 H89 W90 => ?_)
    have W91 := Wd.frz W90
    refine w_itL W91 (Lx.ls (Lx.kn (Kn.at 0 rfl))) ?_
    replace hm := bndE hm
    obtain ⟨x112, h113, hm⟩ := hm
    refine w_map (γ := (Option Int)) true h113 W91 (fun _ => (gv_list (fun _ _ => (Lx.ls (Lx.kn (Kn.at 0 rfl)))))) (fun D94 x92 v93 acc95 H96 y97 ha98 W99 hm => ?_) (fun p109 H110 W111 => ?_)
    · obtain rfl := Wd.eqS W99 (Kn.at 0 rfl)
      refine i_gName ?_
      refine i_wipe rfl ?_
      refine i_yes ?_
      refine i_T ?_
      refine i_call ?_
      refine i_tcons ?_
      refine i_var rfl ?_
      refine i_tnil ?_
      replace hm := bndE hm
      obtain ⟨r101, h102, hm⟩ := hm
      refine ⟨x92, rfl, r101, h102, fun v103 H104 R105 => ?_⟩
      have W106 := Wd.call W99 R105
      obtain rfl := some_inj hm
      refine w_elt W106 (Kn.at 0 rfl) ha98 (fun H107 W108 => ?_)
      exact ⟨(), Wd.drop W108 2 rfl⟩
    have W114 := Wd.frz W111
    refine i_gName ?_
    clear W9 W90 W91 W111
    refine i_seq ?_
    refine i_ifS ?_
    refine i_test ?_
    refine i_op ?_
    refine i_c ?_
    refine i_var rfl ?_
    refine w_inNone W114 (Lx.ls (Lx.kn (Kn.at 0 rfl))) ?_
    refine i_bl ?_
    rcases iteE hm with ⟨hb115, hm⟩ | ⟨hb115, hm⟩
    · refine i_bT hb115 ?_
      refine i_ret ?_
      refine i_op ?_
      refine i_var rfl ?_
      refine i_tlst ?_
      refine i_tcons ?_
      refine i_c ?_
      refine i_tcons ?_
      refine i_c ?_
      refine i_tcons ?_
      refine i_c ?_
      refine i_tnil ?_
      refine w_lst (α := Bool) (t := true) W114 (KnL.cons Kn.bl (KnL.cons Kn.bl (KnL.cons Kn.bl KnL.nil))) (by show (3 : Nat) ≤ sizeLine; decide) (fun p116 H117 W118 => ?_)
      have W119 := Wd.frz W118
      replace hm := bndE hm
      obtain ⟨x120, h121, hm⟩ := hm
      refine w_eq W119 (Ar.lx (Lx.own 0 rfl)) (Ar.kn (t := true) (Kn.at 0 rfl)) h121 ?_
      exact hq _ (some_inj hm) _ _ (Wd.res (x := (x120 : Bool)) W119 Kn.bl)
    · refine i_bF hb115 ?_
      refine i_next ?_
      refine i_ret ?_
      refine i_andV ?_
      refine i_op ?_
      refine i_var rfl ?_
      refine i_tlst ?_
      refine i_tnil ?_
      refine w_lst (α := Int) (t := true) W114 KnL.nil (by show (0 : Nat) ≤ sizeLine; decide) (fun p122 H123 W124 => ?_)
      have W125 := Wd.frz W124
      replace hm := bndE hm
      obtain ⟨x126, h127, hm⟩ := hm
      refine w_eq W125 (Ar.lx (Lx.own 0 rfl)) (Ar.kn (t := true) (Kn.at 0 rfl)) h127 ?_
      refine i_bl ?_
      replace hm := bndE hm
      obtain ⟨x135, h136, hm⟩ := hm
      refine w_andVW (L' := [oL true p1 (([] : List Int) : List Int)]) x135 W125 (fun hb128 P129 hP130 => ?_) (fun hb128 => ?_) (fun H137 W138 => ?_)
      · have hm : _ = some x135 := (if_pos hb128).symm.trans h136
        refine i_op ?_
        refine i_cb ?_
        refine i_tcons ?_
        refine i_var rfl ?_
        refine i_tnil ?_
        replace hm := bndE hm
        obtain ⟨x131, h132, hm⟩ := hm
        refine w_repr W125 (Ar.kn (t := true) (Kn.at 3 rfl)) h132 ?_
        refine i_cb ?_
        refine i_tcons ?_
        refine i_var rfl ?_
        refine i_tnil ?_
        replace hm := bndE hm
        obtain ⟨x133, h134, hm⟩ := hm
        refine w_repr W125 (Ar.kn (t := true) (Kn.at 1 rfl)) h134 ?_
        refine i_eqS ?_
        have hm := some_inj hm
        exact hP130 _ _ hm W125
      · have hm := some_inj ((if_neg (by rw [hb128]; exact Bool.false_ne_true)).symm.trans h136)
        exact ⟨hm, W125⟩
      exact hq _ (some_inj hm) _ _ (Wd.res (x := (x135 : Bool)) W138 Kn.bl)
end
/-! ### _law_bad -/
abbrev sp__law_bad (K : PySem.W.Frag) : Sp := fun vs H Q _ => ∃ (a_deck : Addr) (x_deck : (List Int)) (us_deck : List V),  vs = [.ref a_deck] ∧ H a_deck = some (.lst us_deck) ∧ All2 (Rp.rep (lkN fun _ => none)) x_deck us_deck ∧ ∃ r : (PySem.Str × (List Int)), m__law_bad x_deck = some r ∧ ∀ v' H', Res1 K H a_deck r v' H' → Q v' H'
section
variable {P : Program} {w : World} {K : PySem.W.Frag} {mg : Str → Option Value} {base : Heap}
abbrev N__law_bad : List Str := ["deck", "some", "odd"]
theorem scope__law_bad : FnScope N__law_bad ["deck"] (defScope s__law_bad) := ⟨rfl, rfl, rfl, by decide +kernel, rfl, by decide +kernel, by decide +kernel⟩
theorem ok__law_bad {f : Addr} {fd : FuncData} (F : FunD K "_law_bad" "_law_bad" (defArgs s__law_bad) (defBody s__law_bad) (defScope s__law_bad) [] [] f fd) (hm : mg "_law_bad" = some (.ref f)) (Z : Blt mg) (SM : SMd base) (XX : Exs K mg es6)
    (C__law_take : Fn P w K mg base 1 "_law_take" ["deck", "many"] (sp__law_take K)) :
    Fn P w K mg base 2 "_law_bad" ["deck"] (sp__law_bad K) := by
  refine mkFn F hm (fun _ _ _ _ _ _ us hl => match us, hl with | [_], _ => rfl) (okG (k := 1) F scope__law_bad (fun vs H0 Q E h => ?_) (fun cdv A outer s H0 vs Q E hr hgd h => ?_))
  · obtain ⟨_, _, _, rfl, _⟩ := h; rfl
  · have nd := scope__law_bad.nd
    have hu := hr.units
    have hr__law_take : Room 1 _ := hr.mono (by decide : 1 ≤ 1)
    unfold sp__law_bad at h
    refine ⟨_, PSs.nox (pss_cons (ps_set (i := 1) nd rfl (.inl rfl) (pe_lst (pa_cons pe_str (pa_cons pe_str (pa_cons pe_str (pa_cons pe_str (pa_cons pe_str (pa_cons pe_str (pa_cons pe_str (pa_cons pe_str (pa_cons pe_str (pa_cons pe_str (pa_cons pe_str (pa_cons pe_str (pa_cons pe_str (pa_cons (pe_op op_mulS pe_str pe_int) pa_nil))))))))))))))))
    (pss_cons (ps_set (i := 1) nd rfl (.inl rfl) (pe_op op_addA (pv 1) (pe_lst (pa_cons (pe_op op_mulS pe_str pe_int) (pa_cons (pe_op op_catS pe_str (pe_op op_mulS pe_str pe_int)) (pa_cons (pe_op op_mulS pe_str pe_int) (pa_cons (pe_op op_mulS pe_str pe_int) (pa_cons pe_str (pa_cons pe_str pa_nil)))))))))
    (pss_cons (ps_set (i := 2) nd rfl (.inl rfl) pe_str)
    (pss_cons (ps_expr (pe_bmK (K := K) PySem.F.plainAttrs_list PySem.F.slot_list_append PySem.F.type_list_append mt_append (pv 1) (pa_cons (pe_ix ix_seq (pv 2) (pe_fn C__law_take hr__law_take hgd (by rfl) passL (pa_cons (pv 0) (pa_cons (pe_callB cl_lenS (by rfl) Z.len_ (by decide +kernel) (pa_cons (pv 2) pa_nil)) pa_nil))) (fun _ _ => rfl)) pa_nil)))
    (pss_cons (ps_expr (pe_bmK (K := K) PySem.F.plainAttrs_list PySem.F.slot_list_append PySem.F.type_list_append mt_append (pv 1) (pa_cons (pe_op op_catS pe_str (pe_ix ix_seq (pv 2) (pe_fn C__law_take hr__law_take hgd (by rfl) passL (pa_cons (pv 0) (pa_cons (pe_callB cl_lenS (by rfl) Z.len_ (by decide +kernel) (pa_cons (pv 2) pa_nil)) pa_nil))) (fun _ _ => rfl))) pa_nil)))
    (pss_one (ps_ret (pe_ix ix_seq (pv 1) (pe_fn C__law_take hr__law_take hgd (by rfl) passL (pa_cons (pv 0) (pa_cons (pe_callB cl_len (by rfl) Z.len_ (by decide +kernel) (pa_cons (pv 1) pa_nil)) pa_nil))) (fun _ _ => rfl))))))))), ?_⟩
    (try dsimp only [cxOf])
    obtain ⟨a_deck, x_deck, us_deck, rfl, ha_deck, hr_deck, r0, hm, q⟩ := h
    let G_ : (PySem.Str × (List Int)) → Prop := fun r => ∀ v' H', Res1 K H0 a_deck r v' H' → Q v' H'
    have hq : ∀ r, r = r0 → G_ r := fun r e => by subst e; exact q
    clear q
    unfold m__law_bad at hm
    have hB : H0 a_deck ≠ none := fun e => by rw [ha_deck] at e; cases e
    have W0 : Wd K (del H0 a_deck) [] [oL true a_deck x_deck] H0 := Wd.mut ha_deck hr_deck
    refine i_seq ?_
    refine i_asg ?_
    refine i_tlst ?_
    refine i_tcons ?_
    refine i_c ?_
    refine i_tcons ?_
    refine i_c ?_
    refine i_tcons ?_
    refine i_c ?_
    refine i_tcons ?_
    refine i_c ?_
    refine i_tcons ?_
    refine i_c ?_
    refine i_tcons ?_
    refine i_c ?_
    refine i_tcons ?_
    refine i_c ?_
    refine i_tcons ?_
    refine i_c ?_
    refine i_tcons ?_
    refine i_c ?_
    refine i_tcons ?_
    refine i_c ?_
    refine i_tcons ?_
    refine i_c ?_
    refine i_tcons ?_
    refine i_c ?_
    refine i_tcons ?_
    refine i_c ?_
    refine i_tcons ?_
    refine i_op ?_
    refine i_c ?_
    refine i_c ?_
    replace hm := bndE hm
    obtain ⟨x1, h2, hm⟩ := hm
    refine w_repS h2 ?_
    refine i_tnil ?_
    refine w_lst (α := PySem.Str) (t := true) W0 (KnL.cons Kn.str (KnL.cons Kn.str (KnL.cons Kn.str (KnL.cons Kn.str (KnL.cons Kn.str (KnL.cons Kn.str (KnL.cons Kn.str (KnL.cons Kn.str (KnL.cons Kn.str (KnL.cons Kn.str (KnL.cons Kn.str (KnL.cons Kn.str (KnL.cons Kn.str (KnL.cons Kn.str KnL.nil)))))))))))))) (by show (14 : Nat) ≤ sizeLine; decide) (fun p3 H4 W5 => ?_)
    refine i_gName ?_
    clear W0
    refine i_seq ?_
    refine i_asg ?_
    refine i_op ?_
    refine i_var rfl ?_
    refine i_tlst ?_
    refine i_tcons ?_
    refine i_op ?_
    refine i_c ?_
    refine i_c ?_
    replace hm := bndE hm
    obtain ⟨x6, h7, hm⟩ := hm
    refine w_repS h7 ?_
    refine i_tcons ?_
    refine i_op ?_
    refine i_c ?_
    refine i_op ?_
    refine i_c ?_
    refine i_c ?_
    replace hm := bndE hm
    obtain ⟨x8, h9, hm⟩ := hm
    refine w_repS h9 ?_
    replace hm := bndE hm
    obtain ⟨x10, h11, hm⟩ := hm
    refine w_catR h11 ?_
    refine i_tcons ?_
    refine i_op ?_
    refine i_c ?_
    refine i_c ?_
    replace hm := bndE hm
    obtain ⟨x12, h13, hm⟩ := hm
    refine w_repS h13 ?_
    refine i_tcons ?_
    refine i_op ?_
    refine i_c ?_
    refine i_c ?_
    replace hm := bndE hm
    obtain ⟨x14, h15, hm⟩ := hm
    refine w_repS h15 ?_
    refine i_tcons ?_
    refine i_c ?_
    refine i_tcons ?_
    refine i_c ?_
    refine i_tnil ?_
    refine w_lst (α := PySem.Str) (t := true) W5 (KnL.cons Kn.str (KnL.cons Kn.str (KnL.cons Kn.str (KnL.cons Kn.str (KnL.cons Kn.str (KnL.cons Kn.str KnL.nil)))))) (by show (6 : Nat) ≤ sizeLine; decide) (fun p16 H17 W18 => ?_)
    have W19 := Wd.frz W18
    replace hm := bndE hm
    obtain ⟨x20, h21, hm⟩ := hm
    refine w_cat W19 (Lx.own 0 rfl) (Lx.kn (Kn.at 0 rfl)) h21 (fun p22 H23 W24 => ?_)
    refine i_gName ?_
    clear W5 W18 W19
    refine i_seq ?_
    refine i_asg ?_
    refine i_c ?_
    refine i_gName ?_
    refine i_seq ?_
    refine i_drop ?_
    refine i_bm ?_
    refine i_var rfl ?_
    refine w_mt W24 (Lx.ls (Lx.own 0 rfl)) ?_
    refine i_tcons ?_
    refine i_op ?_
    refine i_var rfl ?_
    refine i_call ?_
    refine i_tcons ?_
    refine i_var rfl ?_
    refine i_tcons ?_
    refine i_cb ?_
    refine i_tcons ?_
    refine i_var rfl ?_
    refine i_tnil ?_
    replace hm := bndE hm
    obtain ⟨x25, h26, hm⟩ := hm
    refine w_lenS h26 ?_
    refine i_tnil ?_
    replace hm := bndE hm
    obtain ⟨r27, h28, hm⟩ := hm
    obtain ⟨us35, h33, h34⟩ := Wd.ioa W24 2 rfl
    refine ⟨a_deck, (x_deck : List Int), us35, x25, rfl, h33, h34, r27, h28, fun v29 H30 R31 => ?_⟩
    obtain ⟨rfl, W32⟩ := Wd.call1I (i := r27.1) (ys' := r27.2) W24 2 rfl R31
    replace hm := bndE hm
    obtain ⟨x36, h37, hm⟩ := hm
    refine w_ixS h37 ?_
    refine i_tnil ?_
    replace hm := bndE hm
    obtain ⟨x38, h39, hm⟩ := hm
    refine w_app W32 0 rfl Kn.str h39 (fun H40 W41 => ?_)
    dsimp only [List.set] at W41
    clear W24 W32
    refine i_seq ?_
    refine i_drop ?_
    refine i_bm ?_
    refine i_var rfl ?_
    refine w_mt W41 (Lx.ls (Lx.own 0 rfl)) ?_
    refine i_tcons ?_
    refine i_op ?_
    refine i_c ?_
    refine i_op ?_
    refine i_var rfl ?_
    refine i_call ?_
    refine i_tcons ?_
    refine i_var rfl ?_
    refine i_tcons ?_
    refine i_cb ?_
    refine i_tcons ?_
    refine i_var rfl ?_
    refine i_tnil ?_
    replace hm := bndE hm
    obtain ⟨x42, h43, hm⟩ := hm
    refine w_lenS h43 ?_
    refine i_tnil ?_
    replace hm := bndE hm
    obtain ⟨r44, h45, hm⟩ := hm
    obtain ⟨us52, h50, h51⟩ := Wd.ioa W41 2 rfl
    refine ⟨a_deck, (r27.2 : List Int), us52, x42, rfl, h50, h51, r44, h45, fun v46 H47 R48 => ?_⟩
    obtain ⟨rfl, W49⟩ := Wd.call1I (i := r44.1) (ys' := r44.2) W41 2 rfl R48
    replace hm := bndE hm
    obtain ⟨x53, h54, hm⟩ := hm
    refine w_ixS h54 ?_
    replace hm := bndE hm
    obtain ⟨x55, h56, hm⟩ := hm
    refine w_catR h56 ?_
    refine i_tnil ?_
    replace hm := bndE hm
    obtain ⟨x57, h58, hm⟩ := hm
    refine w_app W49 0 rfl Kn.str h58 (fun H59 W60 => ?_)
    dsimp only [List.set] at W60
    clear W41 W49
    refine i_ret ?_
    refine i_op ?_
    refine i_var rfl ?_
    refine i_call ?_
    refine i_tcons ?_
    refine i_var rfl ?_
    refine i_tcons ?_
    refine i_cb ?_
    refine i_tcons ?_
    refine i_var rfl ?_
    refine i_tnil ?_
    refine w_len W60 (Lx.ls (Lx.own 0 rfl)) ?_
    refine i_tnil ?_
    replace hm := bndE hm
    obtain ⟨r61, h62, hm⟩ := hm
    obtain ⟨us69, h67, h68⟩ := Wd.ioa W60 2 rfl
    refine ⟨a_deck, (r44.2 : List Int), us69, (lenI x57), rfl, h67, h68, r61, h62, fun v63 H64 R65 => ?_⟩
    obtain ⟨rfl, W66⟩ := Wd.call1I (i := r61.1) (ys' := r61.2) W60 2 rfl R65
    replace hm := bndE hm
    obtain ⟨x70, h71, hm⟩ := hm
    refine w_ix W66 (Lx.ls (Lx.own 0 rfl)) h71 (fun u72 W73 => ?_)
    obtain rfl := Wd.eqS W73 (Kn.at 0 rfl)
    exact hq _ (some_inj hm) _ _ (Wd.res1 (x := (x70 : PySem.Str)) W73 hB 2 rfl Kn.str)
end
/-! ### _law_spoilt -/
abbrev sp__law_spoilt (K : PySem.W.Frag) : Sp := fun vs H Q _ => ∃ (a_deck : Addr) (x_deck : (List Int)) (us_deck : List V) (x_text : PySem.Str),  vs = [.ref a_deck, .str x_text] ∧ H a_deck = some (.lst us_deck) ∧ All2 (Rp.rep (lkN fun _ => none)) x_deck us_deck ∧ ∃ r : (PySem.Str × (List Int)), m__law_spoilt x_deck x_text = some r ∧ ∀ v' H', Res1 K H a_deck r v' H' → Q v' H'
section
variable {P : Program} {w : World} {K : PySem.W.Frag} {mg : Str → Option Value} {base : Heap}
abbrev N__law_spoilt : List Str := ["deck", "text", "way", "at", "sign", "words"]
theorem scope__law_spoilt : FnScope N__law_spoilt ["deck", "text"] (defScope s__law_spoilt) := ⟨rfl, rfl, rfl, by decide +kernel, rfl, by decide +kernel, by decide +kernel⟩
theorem ok__law_spoilt {f : Addr} {fd : FuncData} (F : FunD K "_law_spoilt" "_law_spoilt" (defArgs s__law_spoilt) (defBody s__law_spoilt) (defScope s__law_spoilt) [] [] f fd) (hm : mg "_law_spoilt" = some (.ref f)) (Z : Blt mg) (SM : SMd base) (XX : Exs K mg es6)
    (C__law_bad : Fn P w K mg base 2 "_law_bad" ["deck"] (sp__law_bad K))
    (C__law_take : Fn P w K mg base 1 "_law_take" ["deck", "many"] (sp__law_take K)) :
    Fn P w K mg base 3 "_law_spoilt" ["deck", "text"] (sp__law_spoilt K) := by
  refine mkFn F hm (fun _ _ _ _ _ _ us hl => match us, hl with | [_, _], _ => rfl) (okG (k := 2) F scope__law_spoilt (fun vs H0 Q E h => ?_) (fun cdv A outer s H0 vs Q E hr hgd h => ?_))
  · obtain ⟨_, _, _, _, rfl, _⟩ := h; rfl
  · have nd := scope__law_spoilt.nd
    have hu := hr.units
    have hr__law_bad : Room 2 _ := hr.mono (by decide : 2 ≤ 2)
    have hr__law_take : Room 1 _ := hr.mono (by decide : 1 ≤ 2)
    unfold sp__law_spoilt at h
    refine ⟨_, PSs.nox (pss_cons (ps_set (i := 2) nd rfl (.inl rfl) (pe_fn C__law_take hr__law_take hgd (by rfl) passL (pa_cons (pv 0) (pa_cons pe_int pa_nil))))
    (pss_cons (ps_set (i := 3) nd rfl (.inl rfl) (pe_fn C__law_take hr__law_take hgd (by rfl) passL (pa_cons (pv 0) (pa_cons (pe_op op_addA (pe_callB cl_lenS (by rfl) Z.len_ (by decide +kernel) (pa_cons (pv 1) pa_nil)) pe_int) pa_nil))))
    (pss_cons (ps_set (i := 4) nd rfl (.inl rfl) (pe_ix ix_seq pe_str (pe_fn C__law_take hr__law_take hgd (by rfl) passL (pa_cons (pv 0) (pa_cons pe_int pa_nil))) (fun _ _ => rfl)))
    (pss_cons (ps_if (pt_cmpR (op_eqA hu) (pv 2) pe_int (nomark _)) (pss_one (ps_ret (pe_op op_catS (pe_slice sl_str (pv 1) po_none (po_some (pv 3))) (pe_slice sl_str (pv 1) (po_some (pe_op op_addA (pv 3) pe_int)) po_none)))) pss_nil)
    (pss_cons (ps_if (pt_cmpR (op_ltA hu) (pv 2) pe_int (nomark _)) (pss_one (ps_ret (pe_op op_catS (pe_op op_catS (pe_slice sl_str (pv 1) po_none (po_some (pv 3))) (pv 4)) (pe_slice sl_str (pv 1) (po_some (pe_op op_sub (pe_op op_addA (pv 3) (pv 2)) pe_int)) po_none)))) pss_nil)
    (pss_cons (ps_set (i := 5) nd rfl (.inl rfl) (pe_splitR (pv 1) pe_str))
    (pss_cons (ps_set (i := 3) nd rfl (.inl rfl) (pe_fn C__law_take hr__law_take hgd (by rfl) passL (pa_cons (pv 0) (pa_cons (pe_op op_addA (pe_callB cl_len (by rfl) Z.len_ (by decide +kernel) (pa_cons (pv 5) pa_nil)) pe_int) pa_nil))))
    (pss_one (ps_ret (pe_joinR (K := K) rfl pe_str (pe_op op_addA (pe_op op_addA (pe_slice sl_list (pv 5) po_none (po_some (pv 3))) (pe_lst (pa_cons (pe_fn C__law_bad hr__law_bad hgd (by rfl) passL (pa_cons (pv 0) pa_nil)) pa_nil))) (pe_slice sl_list (pv 5) (po_some (pe_op op_sub (pe_op op_addA (pv 3) (pv 2)) pe_int)) po_none)))))))))))), ?_⟩
    (try dsimp only [cxOf])
    obtain ⟨a_deck, x_deck, us_deck, x_text, rfl, ha_deck, hr_deck, r0, hm, q⟩ := h
    let G_ : (PySem.Str × (List Int)) → Prop := fun r => ∀ v' H', Res1 K H0 a_deck r v' H' → Q v' H'
    have hq : ∀ r, r = r0 → G_ r := fun r e => by subst e; exact q
    clear q
    unfold m__law_spoilt at hm
    have hB : H0 a_deck ≠ none := fun e => by rw [ha_deck] at e; cases e
    have W0 : Wd K (del H0 a_deck) [] [oL true a_deck x_deck] H0 := Wd.mut ha_deck hr_deck
    refine i_seq ?_
    refine i_asg ?_
    refine i_call ?_
    refine i_tcons ?_
    refine i_var rfl ?_
    refine i_tcons ?_
    refine i_c ?_
    refine i_tnil ?_
    replace hm := bndE hm
    obtain ⟨r1, h2, hm⟩ := hm
    obtain ⟨us9, h7, h8⟩ := Wd.ioa W0 0 rfl
    refine ⟨a_deck, (x_deck : List Int), us9, 5, rfl, h7, h8, r1, h2, fun v3 H4 R5 => ?_⟩
    obtain ⟨rfl, W6⟩ := Wd.call1I (i := r1.1) (ys' := r1.2) W0 0 rfl R5
    refine i_gName ?_
    clear W0
    refine i_seq ?_
    refine i_asg ?_
    refine i_call ?_
    refine i_tcons ?_
    refine i_var rfl ?_
    refine i_tcons ?_
    refine i_op ?_
    refine i_cb ?_
    refine i_tcons ?_
    refine i_var rfl ?_
    refine i_tnil ?_
    replace hm := bndE hm
    obtain ⟨x10, h11, hm⟩ := hm
    refine w_lenS h11 ?_
    refine i_c ?_
    refine i_addI ?_
    refine i_tnil ?_
    replace hm := bndE hm
    obtain ⟨r12, h13, hm⟩ := hm
    obtain ⟨us20, h18, h19⟩ := Wd.ioa W6 0 rfl
    refine ⟨a_deck, (r1.2 : List Int), us20, (x10 + 1), rfl, h18, h19, r12, h13, fun v14 H15 R16 => ?_⟩
    obtain ⟨rfl, W17⟩ := Wd.call1I (i := r12.1) (ys' := r12.2) W6 0 rfl R16
    refine i_gName ?_
    clear W6
    refine i_seq ?_
    refine i_asg ?_
    refine i_op ?_
    refine i_c ?_
    refine i_call ?_
    refine i_tcons ?_
    refine i_var rfl ?_
    refine i_tcons ?_
    refine i_c ?_
    refine i_tnil ?_
    replace hm := bndE hm
    obtain ⟨r21, h22, hm⟩ := hm
    obtain ⟨us29, h27, h28⟩ := Wd.ioa W17 0 rfl
    refine ⟨a_deck, (r12.2 : List Int), us29, 9, rfl, h27, h28, r21, h22, fun v23 H24 R25 => ?_⟩
    obtain ⟨rfl, W26⟩ := Wd.call1I (i := r21.1) (ys' := r21.2) W17 0 rfl R25
    replace hm := bndE hm
    obtain ⟨x30, h31, hm⟩ := hm
    refine w_ixS h31 ?_
    refine i_gName ?_
    clear W17
    refine i_seq ?_
    refine i_ifS ?_
    refine i_test ?_
    refine i_op ?_
    refine i_var rfl ?_
    refine i_c ?_
    refine i_eqI ?_
    refine i_bl ?_
    rcases iteE hm with ⟨hb32, hm⟩ | ⟨hb32, hm⟩
    · refine i_bT hb32 ?_
      refine i_ret ?_
      refine i_op ?_
      refine i_sl ?_
      refine i_var rfl ?_
      refine i_nopart ?_
      refine i_part ?_
      refine i_var rfl ?_
      refine i_partI ?_
      replace hm := bndE hm
      obtain ⟨x33, h34, hm⟩ := hm
      refine w_slS h34 ?_
      refine i_sl ?_
      refine i_var rfl ?_
      refine i_part ?_
      refine i_op ?_
      refine i_var rfl ?_
      refine i_c ?_
      refine i_addI ?_
      refine i_partI ?_
      refine i_nopart ?_
      replace hm := bndE hm
      obtain ⟨x35, h36, hm⟩ := hm
      refine w_slS h36 ?_
      replace hm := bndE hm
      obtain ⟨x37, h38, hm⟩ := hm
      refine w_catR h38 ?_
      exact hq _ (some_inj hm) _ _ (Wd.res1 (x := (x37 : PySem.Str)) W26 hB 0 rfl Kn.str)
    · refine i_bF hb32 ?_
      refine i_next ?_
      refine i_seq ?_
      refine i_ifS ?_
      refine i_test ?_
      refine i_op ?_
      refine i_var rfl ?_
      refine i_c ?_
      refine i_ltA ?_
      refine i_bl ?_
      rcases iteE hm with ⟨hb39, hm⟩ | ⟨hb39, hm⟩
      · refine i_bT hb39 ?_
        refine i_ret ?_
        refine i_op ?_
        refine i_op ?_
        refine i_sl ?_
        refine i_var rfl ?_
        refine i_nopart ?_
        refine i_part ?_
        refine i_var rfl ?_
        refine i_partI ?_
        replace hm := bndE hm
        obtain ⟨x40, h41, hm⟩ := hm
        refine w_slS h41 ?_
        refine i_var rfl ?_
        replace hm := bndE hm
        obtain ⟨x42, h43, hm⟩ := hm
        refine w_catR h43 ?_
        refine i_sl ?_
        refine i_var rfl ?_
        refine i_part ?_
        refine i_op ?_
        refine i_op ?_
        refine i_var rfl ?_
        refine i_var rfl ?_
        refine i_addI ?_
        refine i_c ?_
        refine i_I0 ?_
        refine i_partI ?_
        refine i_nopart ?_
        replace hm := bndE hm
        obtain ⟨x44, h45, hm⟩ := hm
        refine w_slS h45 ?_
        replace hm := bndE hm
        obtain ⟨x46, h47, hm⟩ := hm
        refine w_catR h47 ?_
        exact hq _ (some_inj hm) _ _ (Wd.res1 (x := (x46 : PySem.Str)) W26 hB 0 rfl Kn.str)
      · refine i_bF hb39 ?_
        refine i_next ?_
        refine i_seq ?_
        refine i_asg ?_
        refine i_m1 ?_
        refine i_var rfl ?_
        refine w_txt ?_
        refine i_c ?_
        replace hm := bndE hm
        obtain ⟨x48, h49, hm⟩ := hm
        refine w_splitR W26 h49 (fun p50 H51 W52 => ?_)
        have W53 := Wd.frz W52
        refine i_gName ?_
        clear W26 W52
        refine i_seq ?_
        refine i_asg ?_
        refine i_call ?_
        refine i_tcons ?_
        refine i_var rfl ?_
        refine i_tcons ?_
        refine i_op ?_
        refine i_cb ?_
        refine i_tcons ?_
        refine i_var rfl ?_
        refine i_tnil ?_
        refine w_len W53 (Lx.ls (Lx.kn (Kn.at 0 rfl))) ?_
        refine i_c ?_
        refine i_addI ?_
        refine i_tnil ?_
        replace hm := bndE hm
        obtain ⟨r54, h55, hm⟩ := hm
        obtain ⟨us62, h60, h61⟩ := Wd.ioa W53 0 rfl
        refine ⟨a_deck, (r21.2 : List Int), us62, ((lenI x48) + 1), rfl, h60, h61, r54, h55, fun v56 H57 R58 => ?_⟩
        obtain ⟨rfl, W59⟩ := Wd.call1I (i := r54.1) (ys' := r54.2) W53 0 rfl R58
        refine i_gName ?_
        clear W53
        refine i_ret ?_
        refine i_m1 ?_
        refine i_c ?_
        refine w_txt ?_
        refine i_op ?_
        refine i_op ?_
        refine i_sl ?_
        refine i_var rfl ?_
        refine i_nopart ?_
        refine i_part ?_
        refine i_var rfl ?_
        refine i_partI ?_
        refine w_slice W59 (Lx.ls (Lx.kn (Kn.at 0 rfl))) (fun p63 H64 W65 => ?_)
        have W66 := Wd.frz W65
        refine i_tlst ?_
        refine i_tcons ?_
        refine i_call ?_
        refine i_tcons ?_
        refine i_var rfl ?_
        refine i_tnil ?_
        replace hm := bndE hm
        obtain ⟨r67, h68, hm⟩ := hm
        obtain ⟨us75, h73, h74⟩ := Wd.ioa W66 0 rfl
        refine ⟨a_deck, (r54.2 : List Int), us75, rfl, h73, h74, r67, h68, fun v69 H70 R71 => ?_⟩
        obtain ⟨rfl, W72⟩ := Wd.call1S (i := r67.1) (ys' := r67.2) W66 0 rfl R71
        refine i_tnil ?_
        refine w_lst (α := PySem.Str) (t := true) W72 (KnL.cons Kn.str KnL.nil) (by show (1 : Nat) ≤ sizeLine; decide) (fun p76 H77 W78 => ?_)
        have W79 := Wd.frz W78
        replace hm := bndE hm
        obtain ⟨x80, h81, hm⟩ := hm
        refine w_cat W79 (Lx.kn (Kn.at 1 rfl)) (Lx.kn (Kn.at 0 rfl)) h81 (fun p82 H83 W84 => ?_)
        have W85 := Wd.frz W84
        refine i_sl ?_
        refine i_var rfl ?_
        refine i_part ?_
        refine i_op ?_
        refine i_op ?_
        refine i_var rfl ?_
        refine i_var rfl ?_
        refine i_addI ?_
        refine i_c ?_
        refine i_I0 ?_
        refine i_partI ?_
        refine i_nopart ?_
        refine w_slice W85 (Lx.ls (Lx.kn (Kn.at 3 rfl))) (fun p86 H87 W88 => ?_)
        have W89 := Wd.frz W88
        replace hm := bndE hm
        obtain ⟨x90, h91, hm⟩ := hm
        refine w_cat W89 (Lx.kn (Kn.at 1 rfl)) (Lx.kn (Kn.at 0 rfl)) h91 (fun p92 H93 W94 => ?_)
        have W95 := Wd.frz W94
        replace hm := bndE hm
        obtain ⟨x96, h97, hm⟩ := hm
        refine w_joinR W95 (Lx.ls (Lx.kn (Kn.at 0 rfl))) h97 ?_
        exact hq _ (some_inj hm) _ _ (Wd.res1 (x := (x96 : PySem.Str)) W95 hB 0 rfl Kn.str)
end
/-! ### law -/
abbrev sp_law (K : PySem.W.Frag) : Sp := fun vs H Q _ => ∃ (x_script : Scr) (v_script : V),  vs = [v_script] ∧ Rp.rep (lkA K H) x_script v_script ∧ ∃ r : Bool, m_law x_script = some r ∧ ∀ v' H', Res K H r v' H' → Q v' H'
section
variable {P : Program} {w : World} {K : PySem.W.Frag} {mg : Str → Option Value} {base : Heap}
abbrev N_law : List Str := ["script", "cell", "deck", "most", "text", "number"]
theorem scope_law : FnScope N_law ["script"] (defScope s_law) := ⟨rfl, rfl, rfl, by decide +kernel, rfl, by decide +kernel, by decide +kernel⟩
-- comprehension scope 0
theorem ok_law {f : Addr} {fd : FuncData} (F : FunD K "law" "law" (defArgs s_law) (defBody s_law) (defScope s_law) [] [] f fd) (hm : mg "law" = some (.ref f)) (Z : Blt mg) (SM : SMd base) (XX : Exs K mg es6)
    (C__law_right : Fn P w K mg base 3 "_law_right" ["text"] (sp__law_right K))
    (C__law_spoilt : Fn P w K mg base 3 "_law_spoilt" ["deck", "text"] (sp__law_spoilt K))
    (C__law_row : Fn P w K mg base 3 "_law_row" ["deck", "most"] (sp__law_row K))
    (C__law_take : Fn P w K mg base 1 "_law_take" ["deck", "many"] (sp__law_take K))
    (C__law_deck : Fn P w K mg base 1 "_law_deck" ["cell", "k"] (sp__law_deck K)) :
    FnG P w K mg base 4 f fd ["script"] (sp_law K) := by
  refine okG (k := 3) F scope_law (fun vs H0 Q E h => ?_) (fun cdv A outer s H0 vs Q E hr hgd h => ?_)
  · obtain ⟨_, _, rfl, _⟩ := h; rfl
  · have nd := scope_law.nd
    have hu := hr.units
    have hr__law_right : Room 3 _ := hr.mono (by decide : 3 ≤ 3)
    have hr__law_spoilt : Room 3 _ := hr.mono (by decide : 3 ≤ 3)
    have hr__law_row : Room 3 _ := hr.mono (by decide : 3 ≤ 3)
    have hr__law_take : Room 1 _ := hr.mono (by decide : 1 ≤ 3)
    have hr__law_deck : Room 1 _ := hr.mono (by decide : 1 ≤ 3)
    unfold sp_law at h
    refine ⟨_, PSs.nox (pss_cons (ps_for PassesOwn.never rfl (pi_list (pe_op op_addA (pe_slice sl_list (pv 0) po_none (po_some pe_int)) (pe_lst (pa_cons pe_int (pa_cons pe_int pa_nil))))) (pg_name (i := 1) nd rfl (.inl rfl)) (pss_cons (ps_set (i := 2) nd rfl (.inl rfl) (pe_fn C__law_deck hr__law_deck hgd (by rfl) passL (pa_cons (pv 1) (pa_cons pe_int pa_nil))))
    (pss_cons (ps_set (i := 3) nd rfl (.inl rfl) (pe_ix ix_seq (pe_lst (pa_cons pe_int (pa_cons pe_int pa_nil))) (pe_callTy cl_int (by rfl) Z.int_ (by decide +kernel) (pa_cons (pe_cmpR (op_eqA hu) (pe_fn C__law_take hr__law_take hgd (by rfl) passL (pa_cons (pv 2) (pa_cons pe_int pa_nil))) pe_int (nomark _)) pa_nil)) (fun _ _ => rfl)))
    (pss_cons (ps_set (i := 4) nd rfl (.inl rfl) (pe_joinR (K := K) rfl pe_str (pe_lc (own := [("number", 5)]) (g := gName 5) (tt := tYes) (by rfl) nd (pi_list (pe_fn C__law_row hr__law_row hgd (by rfl) passL (pa_cons (pv 2) (pa_cons (pv 3) pa_nil)))) (blkOk_by (own := [("number", 5)]) (N := N_law) (sc := (defScope s_law)) (by decide +kernel)) (fun _ _ _ _ _ => (pg_name (i := 5) nd rfl (.inl rfl))) (fun _ _ _ _ _ => pts_nil) (fun _ _ _ _ _ => (pe_callTy (r := rStrI) call_strI (by rfl) Z.str_ (by decide +kernel) (pa_cons (pv 5) pa_nil))))))
    (pss_one (ps_if (PW.pt (pw_or (pt_not (pt_val (pe_fn C__law_right hr__law_right hgd (by rfl) passL (pa_cons (pv 4) pa_nil)))) (pw_or1 (pt_not (pt_val (pe_fn C__law_right hr__law_right hgd (by rfl) passL (pa_cons (pe_fn C__law_spoilt hr__law_spoilt hgd (by rfl) passL (pa_cons (pv 2) (pa_cons (pv 4) pa_nil))) pa_nil))))))) (pss_one (ps_ret pe_bl)) pss_nil))))))
    (pss_one (ps_ret (pe_and (pe_fn C__law_right hr__law_right hgd (by rfl) passL (pa_cons (pe_joinR (K := K) rfl pe_str (pe_op op_mulA (pe_lst (pa_cons pe_str pa_nil)) pe_int)) pa_nil)) (pe_one (pe_fn C__law_right hr__law_right hgd (by rfl) passL (pa_cons (pe_joinR (K := K) rfl pe_str (pe_op op_addA (pe_op op_mulA (pe_lst (pa_cons pe_str pa_nil)) pe_int) (pe_lst (pa_cons pe_str pa_nil)))) pa_nil))))))), ?_⟩
    (try dsimp only [cxOf])
    obtain ⟨x_script, v_script, rfl, h_script, r0, hm, q⟩ := h
    let G_ : Bool → Prop := fun r => ∀ v' H', Res K H0 r v' H' → Q v' H'
    have hq : ∀ r, r = r0 → G_ r := fun r e => by subst e; exact q
    clear q
    unfold m_law at hm
    have W0 := Wd.start (K := K) H0
    have W1 := Wd.arg W0 h_script
    obtain ⟨a2, rfl⟩ := Wd.eqScr W1 (Kn.at 0 rfl)
    refine i_seq ?_
    refine i_for ?_
    refine i_iList ?_
    refine i_op ?_
    refine i_sl ?_
    refine i_var rfl ?_
    refine i_nopart ?_
    refine i_part ?_
    refine i_c ?_
    refine i_partI ?_
    refine w_slice W1 (Ls.scr (t := true) (Kn.at 0 rfl)) (fun p3 H4 W5 => ?_)
    have W6 := Wd.frz W5
    refine i_tlst ?_
    refine i_tcons ?_
    refine i_c ?_
    refine i_tcons ?_
    refine i_c ?_
    refine i_tnil ?_
    refine w_lst (α := Int) (t := true) W6 (KnL.cons Kn.int (KnL.cons Kn.int KnL.nil)) (by show (2 : Nat) ≤ sizeLine; decide) (fun p7 H8 W9 => ?_)
    have W10 := Wd.frz W9
    replace hm := bndE hm
    obtain ⟨x11, h12, hm⟩ := hm
    refine w_cat W10 (Lx.kn (Kn.at 1 rfl)) (Lx.kn (Kn.at 0 rfl)) h12 (fun p13 H14 W15 => ?_)
    have W16 := Wd.frz W15
    refine w_itL W16 (Lx.ls (Lx.kn (Kn.at 0 rfl))) ?_
    clear W0 W1 W5 W6 W9 W10 W15
    have W17 := Wd.sel W16 [0] rfl
    replace hm := bndE hm
    obtain ⟨o23, h24, hm⟩ := hm
    have hqi : ∀ r, o23 = .ret r → G_ r := fun r er => by subst er; exact hq _ (some_inj hm)
    refine w_for (⟨fun b e => [some (.ref a2), e.1, e.2.1, e.2.2.1, e.2.2.2, none], fun b e => [fc true (x11 : (List Int)) (.ref p13)], fun b e => []⟩ : Shp (Unit) (Option V × Option V × Option V × Option V)) (none, none, none, none) h24 rfl W17 (gv_list (fun _ _ => (Lx.ls (Lx.kn (Kn.at 0 rfl))))) ?_ ?_
    · intro x20 v21 b18 e19 H25 o26 W22 hm hr27
      have hqii : ∀ r, o26 = .ret r → G_ r := fun r er => hqi r (hr27 r er)
      obtain ⟨e19_0, e19_1, e19_2, e19_3⟩ := e19
      dsimp only at W22 ⊢
      obtain rfl := Wd.eqI W22 (Kn.at 0 rfl)
      refine i_gName ?_
      refine i_seq ?_
      refine i_asg ?_
      refine i_call ?_
      refine i_tcons ?_
      refine i_var rfl ?_
      refine i_tcons ?_
      refine i_c ?_
      refine i_tnil ?_
      replace hm := bndE hm
      obtain ⟨r31, h32, hm⟩ := hm
      refine ⟨x20, 5, rfl, r31, h32, fun v33 H34 R35 => ?_⟩
      obtain ⟨p37, rfl, W36⟩ := Wd.callO W22 R35
      refine i_gName ?_
      clear W22
      refine i_seq ?_
      refine i_asg ?_
      refine i_op ?_
      refine i_tlst ?_
      refine i_tcons ?_
      refine i_c ?_
      refine i_tcons ?_
      refine i_c ?_
      refine i_tnil ?_
      refine w_lst (α := Int) (t := true) W36 (KnL.cons Kn.int (KnL.cons Kn.int KnL.nil)) (by show (2 : Nat) ≤ sizeLine; decide) (fun p38 H39 W40 => ?_)
      have W41 := Wd.frz W40
      refine i_cb ?_
      refine i_tcons ?_
      refine i_op ?_
      refine i_call ?_
      refine i_tcons ?_
      refine i_var rfl ?_
      refine i_tcons ?_
      refine i_c ?_
      refine i_tnil ?_
      replace hm := bndE hm
      obtain ⟨r42, h43, hm⟩ := hm
      obtain ⟨us50, h48, h49⟩ := Wd.ioa W41 0 rfl
      refine ⟨p37, (r31 : List Int), us50, 6, rfl, h48, h49, r42, h43, fun v44 H45 R46 => ?_⟩
      obtain ⟨rfl, W47⟩ := Wd.call1I (i := r42.1) (ys' := r42.2) W41 0 rfl R46
      refine i_c ?_
      refine i_eqI ?_
      refine i_tnil ?_
      refine i_intB ?_
      replace hm := bndE hm
      obtain ⟨x51, h52, hm⟩ := hm
      refine w_ixI W47 (Lx.ls (Lx.kn (Kn.at 0 rfl))) h52 ?_
      refine i_gName ?_
      clear W36 W40 W41
      refine i_seq ?_
      refine i_asg ?_
      refine i_m1 ?_
      refine i_c ?_
      refine w_txt ?_
      refine i_lc ?_
      refine i_iList ?_
      refine i_call ?_
      refine i_tcons ?_
      refine i_var rfl ?_
      refine i_tcons ?_
      refine i_var rfl ?_
      refine i_tnil ?_
      replace hm := bndE hm
      obtain ⟨r53, h54, hm⟩ := hm
      obtain ⟨us61, h59, h60⟩ := Wd.ioa W47 0 rfl
      refine ⟨p37, (r42.2 : List Int), us61, x51, rfl, h59, h60, r53, h54, fun v55 H56 R57 => ?_⟩
      have W58 := Wd.call1 (x := r53.1) (ys' := r53.2) W47 0 rfl R57
      obtain ⟨a62, rfl⟩ := Wd.eqL W58 (Kn.at 0 rfl)
      refine w_itL W58 (Lx.ls (Lx.kn (Kn.at 0 rfl))) ?_
      replace hm := bndE hm
      obtain ⟨x79, h80, hm⟩ := hm
      refine w_map (γ := PySem.Str) true h80 W58 (fun _ => (gv_list (fun _ _ => (Lx.ls (Lx.kn (Kn.at 0 rfl)))))) (fun D65 x63 v64 acc66 H67 y68 ha69 W70 hm => ?_) (fun p76 H77 W78 => ?_)
      · obtain rfl := Wd.eqI W70 (Kn.at 0 rfl)
        refine i_gName ?_
        refine i_wipe rfl ?_
        refine i_yes ?_
        refine i_T ?_
        refine i_cb ?_
        refine i_tcons ?_
        refine i_var rfl ?_
        refine i_tnil ?_
        replace hm := bndE hm
        obtain ⟨x72, h73, hm⟩ := hm
        refine w_strI h73 ?_
        obtain rfl := some_inj hm
        refine w_elt W70 Kn.str ha69 (fun H74 W75 => ?_)
        exact ⟨(), Wd.drop W75 1 rfl⟩
      have W81 := Wd.frz W78
      replace hm := bndE hm
      obtain ⟨x82, h83, hm⟩ := hm
      refine w_joinR W81 (Lx.ls (Lx.kn (Kn.at 0 rfl))) h83 ?_
      refine i_gName ?_
      clear W47 W58 W78
      refine i_ifS ?_
      refine i_or ?_
      refine i_not ?_
      refine i_tB ?_
      refine i_call ?_
      refine i_tcons ?_
      refine i_var rfl ?_
      refine i_tnil ?_
      replace hm := bndE hm
      obtain ⟨r84, h85, hm⟩ := hm
      refine ⟨x82, rfl, r84, h85, fun v86 H87 R88 => ?_⟩
      obtain ⟨rfl, W89⟩ := Wd.callB W81 R88
      refine i_bl ?_
      replace hm := bndE hm
      obtain ⟨x108, h109, hm⟩ := hm
      refine w_orW (L' := [oL true p37 (x108.2 : List Int)]) x108.1 W89 (fun hb90 P91 hP92 => ?_) (fun hb90 => ?_) (fun H110 W111 => ?_)
      · have hm : _ = some x108 := (if_neg (by rw [hb90]; exact Bool.false_ne_true)).symm.trans h109
        refine i_not ?_
        refine i_tB ?_
        refine i_call ?_
        refine i_tcons ?_
        refine i_call ?_
        refine i_tcons ?_
        refine i_var rfl ?_
        refine i_tcons ?_
        refine i_var rfl ?_
        refine i_tnil ?_
        replace hm := bndE hm
        obtain ⟨r93, h94, hm⟩ := hm
        obtain ⟨us101, h99, h100⟩ := Wd.ioa W89 0 rfl
        refine ⟨p37, (r53.2 : List Int), us101, x82, rfl, h99, h100, r93, h94, fun v95 H96 R97 => ?_⟩
        obtain ⟨rfl, W98⟩ := Wd.call1S (i := r93.1) (ys' := r93.2) W89 0 rfl R97
        refine i_tnil ?_
        replace hm := bndE hm
        obtain ⟨r102, h103, hm⟩ := hm
        refine ⟨r93.1, rfl, r102, h103, fun v104 H105 R106 => ?_⟩
        obtain ⟨rfl, W107⟩ := Wd.callB W98 R106
        refine i_bl ?_
        have hm := some_inj hm
        subst hm
        exact hP92 _ _ rfl W107
      · have hm := some_inj ((if_pos hb90).symm.trans h109)
        subst hm
        exact ⟨rfl, W89⟩
      clear W81 W89
      rcases iteE hm with ⟨hb113, hm⟩ | ⟨hb113, hm⟩
      · refine i_bT hb113 ?_
        refine i_ret ?_
        refine i_c ?_
        exact hqii _ (some_inj hm).symm _ _ (Wd.res (x := (false : Bool)) W111 Kn.bl)
      · refine i_bF hb113 ?_
        refine i_next ?_
        have W114 := Wd.sel W111 [4] rfl
        have W115 := Wd.selO W114 [] rfl
        exact ⟨(), (some (.int x20), some (.ref p37), some (.int x51), some (.str x82)), (some_inj hm).symm, rfl, W115⟩
    · intro s116 e117 H118 eb120 W119
      subst eb120
      obtain ⟨e117_0, e117_1, e117_2, e117_3⟩ := e117
      dsimp only at W119 ⊢
      refine i_ret ?_
      refine i_andV ?_
      refine i_call ?_
      refine i_tcons ?_
      refine i_m1 ?_
      refine i_c ?_
      refine w_txt ?_
      refine i_op ?_
      refine i_tlst ?_
      refine i_tcons ?_
      refine i_c ?_
      refine i_tnil ?_
      refine w_lst (α := PySem.Str) (t := true) W119 (KnL.cons Kn.str KnL.nil) (by show (1 : Nat) ≤ sizeLine; decide) (fun p121 H122 W123 => ?_)
      have W124 := Wd.frz W123
      refine i_c ?_
      replace hm := bndE hm
      obtain ⟨x125, h126, hm⟩ := hm
      refine w_rep W124 (Lx.kn (Kn.at 0 rfl)) h126 (fun p127 H128 W129 => ?_)
      have W130 := Wd.frz W129
      replace hm := bndE hm
      obtain ⟨x131, h132, hm⟩ := hm
      refine w_joinR W130 (Lx.ls (Lx.kn (Kn.at 0 rfl))) h132 ?_
      refine i_tnil ?_
      replace hm := bndE hm
      obtain ⟨r133, h134, hm⟩ := hm
      refine ⟨x131, rfl, r133, h134, fun v135 H136 R137 => ?_⟩
      obtain ⟨rfl, W138⟩ := Wd.callB W130 R137
      refine i_bl ?_
      replace hm := bndE hm
      obtain ⟨x171, h172, hm⟩ := hm
      refine w_andVW (L' := []) x171 W138 (fun hb139 P140 hP141 => ?_) (fun hb139 => ?_) (fun H173 W174 => ?_)
      · have hm : _ = some x171 := (if_pos hb139).symm.trans h172
        refine i_call ?_
        refine i_tcons ?_
        refine i_m1 ?_
        refine i_c ?_
        refine w_txt ?_
        refine i_op ?_
        refine i_op ?_
        refine i_tlst ?_
        refine i_tcons ?_
        refine i_c ?_
        refine i_tnil ?_
        refine w_lst (α := PySem.Str) (t := true) W138 (KnL.cons Kn.str KnL.nil) (by show (1 : Nat) ≤ sizeLine; decide) (fun p142 H143 W144 => ?_)
        have W145 := Wd.frz W144
        refine i_c ?_
        replace hm := bndE hm
        obtain ⟨x146, h147, hm⟩ := hm
        refine w_rep W145 (Lx.kn (Kn.at 0 rfl)) h147 (fun p148 H149 W150 => ?_)
        have W151 := Wd.frz W150
        refine i_tlst ?_
        refine i_tcons ?_
        refine i_c ?_
        refine i_tnil ?_
        refine w_lst (α := PySem.Str) (t := true) W151 (KnL.cons Kn.str KnL.nil) (by show (1 : Nat) ≤ sizeLine; decide) (fun p152 H153 W154 => ?_)
        have W155 := Wd.frz W154
        replace hm := bndE hm
        obtain ⟨x156, h157, hm⟩ := hm
        refine w_cat W155 (Lx.kn (Kn.at 1 rfl)) (Lx.kn (Kn.at 0 rfl)) h157 (fun p158 H159 W160 => ?_)
        have W161 := Wd.frz W160
        replace hm := bndE hm
        obtain ⟨x162, h163, hm⟩ := hm
        refine w_joinR W161 (Lx.ls (Lx.kn (Kn.at 0 rfl))) h163 ?_
        refine i_tnil ?_
        replace hm := bndE hm
        obtain ⟨r164, h165, hm⟩ := hm
        refine ⟨x162, rfl, r164, h165, fun v166 H167 R168 => ?_⟩
        obtain ⟨rfl, W169⟩ := Wd.callB W161 R168
        have W170 := Wd.drop W169 4 rfl
        have hm := some_inj hm
        exact hP141 _ _ hm W170
      · have hm := some_inj ((if_neg (by rw [hb139]; exact Bool.false_ne_true)).symm.trans h172)
        exact ⟨hm, W138⟩
      exact hq _ (some_inj hm) _ _ (Wd.res (x := (x171 : Bool)) W174 Kn.bl)
end
def d__law_deck : He.DefD := ⟨("_law_deck", none), "_law_deck", "_law_deck", defArgs s__law_deck, defBody s__law_deck, defScope s__law_deck, [], []⟩
def d__law_take : He.DefD := ⟨("_law_take", none), "_law_take", "_law_take", defArgs s__law_take, defBody s__law_take, defScope s__law_take, [], []⟩
def d__law_number : He.DefD := ⟨("_law_number", none), "_law_number", "_law_number", defArgs s__law_number, defBody s__law_number, defScope s__law_number, [], []⟩
def d__law_row : He.DefD := ⟨("_law_row", none), "_law_row", "_law_row", defArgs s__law_row, defBody s__law_row, defScope s__law_row, [], []⟩
def d_read_number : He.DefD := ⟨("read_number", none), "read_number", "read_number", defArgs s_read_number, defBody s_read_number, defScope s_read_number, [], []⟩
def d_read_row : He.DefD := ⟨("read_row", none), "read_row", "read_row", defArgs s_read_row, defBody s_read_row, defScope s_read_row, [], []⟩
def d__law_number_in : He.DefD := ⟨("_law_number_in", none), "_law_number_in", "_law_number_in", defArgs s__law_number_in, defBody s__law_number_in, defScope s__law_number_in, [], []⟩
def d__law_right : He.DefD := ⟨("_law_right", none), "_law_right", "_law_right", defArgs s__law_right, defBody s__law_right, defScope s__law_right, [], []⟩
def d__law_bad : He.DefD := ⟨("_law_bad", none), "_law_bad", "_law_bad", defArgs s__law_bad, defBody s__law_bad, defScope s__law_bad, [], []⟩
def d__law_spoilt : He.DefD := ⟨("_law_spoilt", none), "_law_spoilt", "_law_spoilt", defArgs s__law_spoilt, defBody s__law_spoilt, defScope s__law_spoilt, [], []⟩
def d_law : He.DefD := ⟨("law", none), "law", "law", defArgs s_law, defBody s_law, defScope s_law, [], []⟩
def fn_ : List He.DefD := [d__law_deck, d__law_take, d__law_number, d__law_row, d_read_number, d_read_row, d__law_number_in, d__law_right, d__law_bad, d__law_spoilt, d_law]
def fa_ : List He.Fa := [.glo "_law_deck", .glo "_law_take", .glo "_law_number", .glo "_law_row", .glo "read_number", .glo "read_row", .glo "_law_number_in", .glo "_law_right", .glo "_law_bad", .glo "_law_spoilt", .glo "law", .free "abs", .free "all", .free "bool", .free "dict", .free "enumerate", .free "int", .free "isinstance", .free "len", .free "list", .free "max", .free "min", .free "range", .free "repr", .free "set", .free "sorted", .free "str", .free "sum", .free "tuple", .free "zip", .free "ValueError", .str "FIGURES" "0123456789", .int "MOST_FIGURES" 13]
def names_ : List PySem.Str := (["CutError", "NoMany", "NoPlace", "NoNumber", "NoText", "NoCommand", "FIGURES", "MOST_FIGURES", "read_number", "read_row", "_law_cell_at", "_law_take", "_law_deck", "_law_number", "_law_row", "_law_bad", "_law_spoilt", "_law_number_in", "_law_right"] : List PySem.Str)
abbrev R_ : PySem.W.OpenRow := PySem.W.OpenLaw.row PySem.Challenge.rw_piecebounds_k54_texts_of_no_row
abbrev hk_ : PySem.W.Hook := hookX 4 fa_ fn_ es6
def ob_ (s : PySem.W.SharedT) : Bool × Bool × He.AlD := obsX 4 fa_ fn_ es6 (HandSHeadRun.getT s)
theorem ob_eq_ (s : PySem.W.SharedT) : ob_ s = hk_.obs s.abs := obsX_eq (HandSHeadRun.getT_eq s)
theorem run_ (w : World) : HandSHeadRun.RunEq R_ (PySem.W.view R_.prog [22]) hk_ ob_ 4000 names_ w := by
  intro os
  kernel_rfl
theorem facts_ {P : Program} {w : World} {K : PySem.W.Frag} {h : Heap} {mg : Str → Option Value} {f : Addr} (X : K.In h) (G : h.Ns mainGlobals mg) (hfa : mg ("law" : Str) = some (.ref f)) (c : He.SaysD fa_ fn_ K) (ce : (es6.all fun c => erB K es6 c) = true) :
    ∃ fd : FuncData, (∀ (s : Shared) (v : Value), BindsTo s fd ⟨[v], []⟩ [("script", v)]) ∧ ∀ base : Heap, K.In base → base.Ns mainGlobals mg → SMd base → FnG P w K mg base 4 f fd ["script"] (sp_law K) := by
  obtain ⟨fd__law_deck, F__law_deck⟩ := c.def_ 0 (d := d__law_deck) rfl
  have hm__law_deck := He.glo_ok X G (c.fact 0 (f := .glo "_law_deck") rfl)
  obtain ⟨fd__law_take, F__law_take⟩ := c.def_ 1 (d := d__law_take) rfl
  have hm__law_take := He.glo_ok X G (c.fact 1 (f := .glo "_law_take") rfl)
  obtain ⟨fd__law_number, F__law_number⟩ := c.def_ 2 (d := d__law_number) rfl
  have hm__law_number := He.glo_ok X G (c.fact 2 (f := .glo "_law_number") rfl)
  obtain ⟨fd__law_row, F__law_row⟩ := c.def_ 3 (d := d__law_row) rfl
  have hm__law_row := He.glo_ok X G (c.fact 3 (f := .glo "_law_row") rfl)
  obtain ⟨fd_read_number, F_read_number⟩ := c.def_ 4 (d := d_read_number) rfl
  have hm_read_number := He.glo_ok X G (c.fact 4 (f := .glo "read_number") rfl)
  obtain ⟨fd_read_row, F_read_row⟩ := c.def_ 5 (d := d_read_row) rfl
  have hm_read_row := He.glo_ok X G (c.fact 5 (f := .glo "read_row") rfl)
  obtain ⟨fd__law_number_in, F__law_number_in⟩ := c.def_ 6 (d := d__law_number_in) rfl
  have hm__law_number_in := He.glo_ok X G (c.fact 6 (f := .glo "_law_number_in") rfl)
  obtain ⟨fd__law_right, F__law_right⟩ := c.def_ 7 (d := d__law_right) rfl
  have hm__law_right := He.glo_ok X G (c.fact 7 (f := .glo "_law_right") rfl)
  obtain ⟨fd__law_bad, F__law_bad⟩ := c.def_ 8 (d := d__law_bad) rfl
  have hm__law_bad := He.glo_ok X G (c.fact 8 (f := .glo "_law_bad") rfl)
  obtain ⟨fd__law_spoilt, F__law_spoilt⟩ := c.def_ 9 (d := d__law_spoilt) rfl
  have hm__law_spoilt := He.glo_ok X G (c.fact 9 (f := .glo "_law_spoilt") rfl)
  obtain ⟨fd_law, F_law⟩ := c.def_ 10 (d := d_law) rfl
  have hm_law := He.glo_ok X G (c.fact 10 (f := .glo "law") rfl)
  have Z : Blt mg := ⟨He.free_ok X G (c.fact 11 (f := .free "abs") rfl), He.free_ok X G (c.fact 12 (f := .free "all") rfl), He.free_ok X G (c.fact 13 (f := .free "bool") rfl), He.free_ok X G (c.fact 14 (f := .free "dict") rfl), He.free_ok X G (c.fact 15 (f := .free "enumerate") rfl), He.free_ok X G (c.fact 16 (f := .free "int") rfl), He.free_ok X G (c.fact 17 (f := .free "isinstance") rfl), He.free_ok X G (c.fact 18 (f := .free "len") rfl), He.free_ok X G (c.fact 19 (f := .free "list") rfl), He.free_ok X G (c.fact 20 (f := .free "max") rfl), He.free_ok X G (c.fact 21 (f := .free "min") rfl), He.free_ok X G (c.fact 22 (f := .free "range") rfl), He.free_ok X G (c.fact 23 (f := .free "repr") rfl), He.free_ok X G (c.fact 24 (f := .free "set") rfl), He.free_ok X G (c.fact 25 (f := .free "sorted") rfl), He.free_ok X G (c.fact 26 (f := .free "str") rfl), He.free_ok X G (c.fact 27 (f := .free "sum") rfl), He.free_ok X G (c.fact 28 (f := .free "tuple") rfl), He.free_ok X G (c.fact 29 (f := .free "zip") rfl), He.free_ok X G (c.fact 30 (f := .free "ValueError") rfl)⟩
  obtain ⟨t_FIGURES, g_FIGURES⟩ := He.str_ok X G (c.fact 31 (f := .str "FIGURES" "0123456789") rfl)
  obtain ⟨t_MOST_FIGURES, g_MOST_FIGURES⟩ := He.int_ok X G (c.fact 32 (f := .int "MOST_FIGURES" 13) rfl)
  have XX : Exs K mg es6 := exs_ok X G ce
  have e := hfa.symm.trans hm_law
  cases e
  have b := FunD.bindsA (ps := ["script"]) F_law fun _ _ _ _ _ _ us hl => match us, hl with | [_], _ => rfl
  refine ⟨fd_law, fun s v => b s [v] rfl, fun base _ _ SM => ?_⟩
  have C__law_deck : Fn P w K mg base 1 "_law_deck" ["cell", "k"] (sp__law_deck K) := ok__law_deck F__law_deck hm__law_deck Z SM XX
  have C__law_take : Fn P w K mg base 1 "_law_take" ["deck", "many"] (sp__law_take K) := ok__law_take F__law_take hm__law_take Z SM XX
  have C__law_number : Fn P w K mg base 2 "_law_number" ["deck"] (sp__law_number K) := ok__law_number F__law_number hm__law_number Z SM XX C__law_take
  have C__law_row : Fn P w K mg base 3 "_law_row" ["deck", "most"] (sp__law_row K) := ok__law_row F__law_row hm__law_row Z SM XX C__law_take C__law_number
  have C_X_read_number : Fn P w K mg base 1 "read_number" ["word"] (sp_X_read_number K) := ok_X_read_number F_read_number hm_read_number Z SM XX ⟨g_FIGURES, ⟨t_FIGURES, rfl⟩⟩ ⟨g_MOST_FIGURES, ⟨t_MOST_FIGURES, rfl⟩⟩
  have C_X_read_row : Fn P w K mg base 2 "read_row" ["text"] (sp_X_read_row K) := ok_X_read_row F_read_row hm_read_row Z SM XX C_X_read_number
  have C__law_number_in : Fn P w K mg base 1 "_law_number_in" ["word"] (sp__law_number_in K) := ok__law_number_in F__law_number_in hm__law_number_in Z SM XX
  have C__law_right : Fn P w K mg base 3 "_law_right" ["text"] (sp__law_right K) := ok__law_right F__law_right hm__law_right Z SM XX C__law_number_in C_X_read_row
  have C__law_bad : Fn P w K mg base 2 "_law_bad" ["deck"] (sp__law_bad K) := ok__law_bad F__law_bad hm__law_bad Z SM XX C__law_take
  have C__law_spoilt : Fn P w K mg base 3 "_law_spoilt" ["deck", "text"] (sp__law_spoilt K) := ok__law_spoilt F__law_spoilt hm__law_spoilt Z SM XX C__law_bad C__law_take
  exact ok_law F_law hm_law Z SM XX C__law_right C__law_spoilt C__law_row C__law_take C__law_deck
end PB
open PySem PySem.W PySem.Calls PyProof.Rows
theorem PySem.Challenge.cw_piecebounds_k54_texts_of_no_row_holds : PySem.Challenge.rw_piecebounds_k54_texts_of_no_row.Holds := by
  w_on; o_law
  refine HandSHeadRun.head_any (r := OpenLaw.row PySem.Challenge.rw_piecebounds_k54_texts_of_no_row) (q := view (OpenLaw.row PySem.Challenge.rw_piecebounds_k54_texts_of_no_row).prog [22]) (H := PB.hk_) (ob := PB.ob_) (M := 4000) (loose := PB.names_) (d := HandSHeadRun.topDef (OpenLaw.row PySem.Challenge.rw_piecebounds_k54_texts_of_no_row).prog 22) (kwd := []) PB.ob_eq_
    (by kernel_rfl) (fun s => by kernel_rfl) PB.run_ (by kernel_rfl) (by kernel_rfl) (by kernel_rfl) (by rfl) (by first | assumption | decide +kernel) (by decide +kernel) ⟨rfl, rfl, rfl, rfl, rfl, by decide +kernel⟩ ?hw ?hc
  case hw => w_witness2
  case hc =>
    refine PB.walk_ofS (l := PySem.Challenge.rw_piecebounds_k54_texts_of_no_row) (n := 63) (k := 4) (x := "script") rfl (by decide) (by kernel_rfl) ⟨rfl, by decide, by decide⟩ ?F
    intro w mg fa h SMh Y G hmg0
    obtain ⟨K, KX, c, ce⟩ := Y
    have hmg : mg ("law" : PySem.Str) = some (.ref fa) := by
      have e : (HandSHeadRun.topDef (OpenLaw.row PySem.Challenge.rw_piecebounds_k54_texts_of_no_row).prog 22).name = ("law" : PySem.Str) := by kernel_rfl
      rw [← e]
      exact hmg0
    obtain ⟨fd, hb, hF⟩ := PB.facts_ (P := (PySem.Challenge.rw_piecebounds_k54_texts_of_no_row).prog) (w := w) KX G hmg c ce
    exact ⟨K, fd, PB.sp_law K, KX, hb, fun H a ns hl hS => ⟨⟨ns⟩, .ref a, rfl, ⟨a, rfl, hS⟩, true, PB.law_true ns hl, fun v' H' r => (let ⟨_, _, _, _, h⟩ := r; h)⟩, hF⟩
#print axioms PySem.Challenge.cw_piecebounds_k54_texts_of_no_row_holds
