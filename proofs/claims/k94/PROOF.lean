import PyProof.Rows.All
import Wide.All
import OpenK.AllK
import Wide.FinOn
import PySem.Challenge.RW_boastrow_k94_texts_of_tables_and_lots
import HandS.ForMost
import HandS.ForExc
import HandS.Wide
import HandS.ExcCtx
import HandS.ExcIs
import HandS.TupAny
import HandS.IsInst
import HandS.Style
import HandS.Zip
import HandS.SortInts
import HandS.SetFor
import PyProof.ZipIter
import HandS.More
import HandS.Defaults
import HandS.Conv
import HandS.SetBool
import HandS.ListItems
import KE.KDictZip
import KE.KItemsList
import KE.GoesMore
import KE.GoesEnum
import HandS.DictComp
import PyProof.LongRange
import HandS.ExcOwn
import HandS.Deep
import KE.KTupSum
import HandS.Flow
import HandS.Flt
import HandS.Hot
import PyProof.ListRange
import HandS.ExcInit
import HandS.ExcField
import HandS.ExcValue
import HandS.SortRule
import HandS.Rev
import HandS.SortKw
import KE.DataMinMax
import PyProof.SumAnyB
import HandS.Text
import HandS.FStr
import KE.OsRunLaw
set_option Elab.async false
set_option linter.all false
set_option maxRecDepth 100000
/-! K0: defs called where no text of a thing is being written (so that repr may be asked within) -/
namespace BR
open PySem PySem.Spec PyProof.Rows L2

/-- room for k calls, and no text of a thing being written -/
structure RoomG (k : Nat) (A : Around) : Prop where
  r : Room k A
  g : A.guards = some []
theorem RoomG.mono {j k : Nat} {A : Around} (h : RoomG k A) (l : j ≤ k) : RoomG j A := ⟨h.r.mono l, h.g⟩
/-- a def keeps its promise there -/
structure FnG (P : Program) (w : World) (K : PySem.W.Frag) (mg : Str → Option Value) (base : Heap) (k : Nat) (f : Addr) (fd : FuncData) (ps : List Str) (sp : Sp) : Prop where
  len : ∀ vs H Q E, sp vs H Q E → vs.length = ps.length
  run : ∀ (A : Around) (outer : List Env) (s : Shared) (H : Hp) (args : Args) (us : List Value) (vs : List V) (Q : VK) (E : XK),
    RoomG k A → Env0 P w K mg base A outer s H → BindsTo s fd args (ps.zip us) → Vals vs us → sp vs H Q E →
    codeAny (model P w) A (.call (.ref f) args) (CR (L2N.CX P w) outer P w H s Q E) s
section
variable {P : Program} {w : World} {K : PySem.W.Frag} {mg : Str → Option Value} {base : Heap}
/-- a def by its body -/
theorem fn_G {x qual : Str} {st : Stmt} {f : Addr} {fd : FuncData} {N ps : List Str} {k : Nat} {sp : Sp} (F : L2.Fun K x qual st f fd) (S : FnScope N ps (defScope st))
    (len : ∀ vs H Q E, sp vs H Q E → vs.length = ps.length)
    (hbody : ∀ (cdv : Value) (A : Around) (outer : List Env) (s : Shared) (H : Hp) (vs : List V) (Q : VK) (E : XK), RoomG k (A.deeper (envOfC qual (defScope st) s.heap.objs.size f cdv)) → sp vs H Q E →
      ∃ t, PSs (cxOf (L2N.CX P w) P w K mg base N qual (defScope st) f cdv A outer s H E) (defBody st) t ∧ t { nx := fun _ H' => Q .non H', rt := Q } (start N vs) H) :
    FnG P w K mg base (k + 1) f fd ps sp := by
  obtain ⟨oc, od, kV, doc, pm, an, cdv, ct, osl, efd, lk, hcd⟩ := F.ex
  subst efd
  constructor
  · exact len
  intro A outer s H args us vs Q E hr e0 hb rv hsp
  have nargs := len vs H Q E hsp
  have kin : K.In s.heap := e0.mod.kin.keeps fun b o e => (e0.bs b o e).1
  have nolim : s.heap.NoLimit := e0.mod.nolimit.keeps fun b o e => (e0.bs b o e).1
  have kinds : ∀ y ∈ ps.zip us, (defScope st).names.lookup y.1 = some .local ∨ ((defScope st).names.lookup y.1 = some .cell ∧ ((cellsFrom (s.heap.objs.size + 1) (defScope st).names []).lookup y.1).isSome = true) := by
    intro ⟨n, v⟩ hy
    have hp := S.par n (List.of_mem_zip hy).1
    cases hp with
    | inl q => exact Or.inl q
    | inr q => exact Or.inr ⟨q, PySem.W.cellsFrom_some _ _ _ (Or.inl q)⟩
  refine codeAny_call_function hr.r.depth (kin _ _ lk) rfl S.co S.gen rfl (PySem.W.codeRec_of kin hcd) (hb _ _ _ _ (wpAny_newFunctionEnv_cells S.kind kinds fun env he s1 x => ?_))
  subst he
  refine And.intro (nolim.keeps x.toInCall.keep) (codeAny_func ?_)
  have room : RoomG k (A.deeper (envOfC qual (defScope st) s.heap.objs.size f cdv)) := ⟨hr.r.deeper _, hr.g⟩
  obtain ⟨t, body, reads⟩ := hbody cdv A outer s H vs Q E room hsp
  have inv := inv_start (CX := L2N.CX P w) (E := E) (N := N) S hr.r.hd e0 nargs rv x
  have done : ∀ {σ' : L2.St} {H' : Hp} {v : V} {u : Value} {s' : Shared}, Inv (cxOf (L2N.CX P w) P w K mg base N qual (defScope st) f cdv A outer s H E) [] σ' H' s' → RelV v u → Q v H' → CE outer P w H s Q u s' := by
    intro σ' H' v u s' J r q
    exact ⟨v, H', J.os, J.bare, J.base, J.hok, r, q⟩
  refine wpAny_mono (body.run [] s1 (start N vs) H _ inv reads) (fun fl s' hs => ?_) (fun e s' hs => hs)
  match fl, hs with
  | .ret u, hs =>
    obtain ⟨v, σ', H', J, r, q⟩ := hs
    exact done J r q
  | .next, hs =>
    obtain ⟨σ', H', J, q⟩ := hs
    exact done (v := V.non) (u := Value.none) J rfl q
  | .brk, hs => exact hs.choose_spec.choose_spec.2.elim
  | .cont, hs => exact hs.choose_spec.choose_spec.2.elim
end
section
variable {X : Cx} {k : Nat} {f : Addr} {fd : FuncData} {ps : List Str} {sp : Sp} {E : XK} {x : Str} {p pos : Pos} {e : Expr} {es : List Expr} {t : TA}
theorem run_G {pins : List (Addr × Obj)} {σ : L2.St} {H : Hp} {s : Shared} {Q : VK} {us ds : List Value} {vs dvs : List V} (F : FnG X.prog X.w X.K X.mg X.base k f fd ps sp) (hr : RoomG k X.A) (hb : Binds X.K fd ps ds) (hd : Vals dvs ds) (hx : Passes (L2N.CX X.prog X.w) X E)
    (I : Inv X pins σ H s) (r : Vals vs us) (h : sp (vs ++ dvs) H Q E) : wpAny (model X.prog X.w) X.A (call (.ref f) us) (EP X pins σ Q) X.xe s := by
  have rr : Vals (vs ++ dvs) (us ++ ds) := r.append hd
  have hl : (us ++ ds).length = ps.length := rr.length.symm.trans (F.len _ _ _ _ h)
  refine wpAny_call (codeAny_mono (F.run X.A X.stack s H ⟨us, []⟩ (us ++ ds) (vs ++ dvs) Q E hr I.env0 (hb s us I.kIn hl) rr h) fun res s' hq => ?_)
  match res, hq with
  | .error e, hq => exact hx pins σ H s e s' I hq
  | .ok (.ret u), hq => exact I.after hq
  | .ok .next, hq => exact False.elim hq
  | .ok .brk, hq => exact False.elim hq
  | .ok .cont, hq => exact False.elim hq
theorem pe_callG {ds : List Value} {dvs : List V} (F : FnG X.prog X.w X.K X.mg X.base k f fd ps sp) (hr : RoomG k X.A) (hg : Gl X x) (hm : X.mg x = some (.ref f)) (hk : PySem.W.keepIn X.K (.ref f) = true) (hb : Binds X.K fd ps ds) (hd : Vals dvs ds) (hx : Passes (L2N.CX X.prog X.w) X E)
    (ha : PA X (e :: es) t) (hdb : (x == ("__debug__" : Str)) = false) (he : starEach (e :: es) X.env = (false, eval e X.env) :: starEach es X.env) (hpl : (backTo pos (starEach es X.env)).any (·.1) = false) :
    PE X (.Call (.Name x p) (e :: es) [] pos) (tCall sp dvs E t) := by
  constructor
  intro pins s σ H Q I h
  refine wpAny_Call_Name_kw (ld_glob I hg hm (PySem.W.callWith_K (h₀ := X.base) I.ok.mod.kin hk (thn (ha.run pos pins s σ H _ I h) fun us s1 ⟨vs, H1, I1, rr, q⟩ => And.intro I1.kIn ?_) he hpl) hdb)
  exact run_G F hr hb hd hx I1 rr q
end

/-! ### the end of a law -/
/-- the law's def, called with the script, where its promise holds -/
theorem law_G {P : Program} {w : World} {K : PySem.W.Frag} {mg mb : Str → Option Value} {k : Nat} {fa a : Addr} {fd : FuncData} {x : Str} {sp : Sp} {s₁ : Shared} {vs : List Value} {ns : List Int}
    (KX : K.In s₁.heap) (hns : s₁.heap.Ns mainGlobals mg) (hb : s₁.heap.Ns builtinsNs mb) (hbb : ∀ x : Str, x ≠ "__name__" → mb x = bootBuiltins x) (hlim : s₁.heap.NoLimit) (hg : s₁.gens = #[])
    (ha : s₁.heap.get? a = some { cls := .type "list", data := .seq vs.toArray }) (hi : IntsAre vs ns) (hl : ns.length ≤ sizeLine) (hr : RoomG k callerA)
    (F : ∀ base : Heap, K.In base → base.Ns mainGlobals mg → FnG P w K mg base k fa fd [x] sp) (hbind : ∀ (s : Shared) (u : Value), BindsTo s fd ⟨[u], []⟩ [(x, u)])
    (hsp : ∀ H : Hp, Only H → SqL K H a (ns.map V.int) → sp [.ref a] H (fun v _ => v = .bl true) fun _ _ _ => False) :
    codeAny (model P w) callerA (.call (.ref fa) ⟨[.ref a], []⟩) (fun r s' => r = .ok (.ret (.bool true)) ∧ OldK s₁.heap s'.heap ∧ s'.os = s₁.os ∧ AllBare s'.gens) s₁ := by
  have vals := vals_ints hi
  have lens := hi.length
  have go : ∀ H : Hp, Only H → SqL K H a (ns.map V.int) → HOk P w H s₁.heap → (∀ b, H b ≠ none → b = a) → (H a ≠ none → K.lookup a = none) →
      codeAny (model P w) callerA (.call (.ref fa) ⟨[.ref a], []⟩) (fun r s' => r = .ok (.ret (.bool true)) ∧ OldK s₁.heap s'.heap ∧ s'.os = s₁.os ∧ AllBare s'.gens) s₁ := by
    intro H only sq hok at_a not_K
    have notDict : ∀ {b : Addr} {o : Obj} {es : Array DictEntry} {ep : Nat}, s₁.heap.get? b = some o → o.data = .dict es ep → H b = none := by
      intro b o es ep e d
      match q : H b with
      | none => rfl
      | some u =>
        have eb : b = a := at_a b (by simp [q])
        rw [eb, ha] at e
        cases e
        cases (show Data.seq vs.toArray _ = Data.dict es ep from d)
    have nsH : ∀ {b : Addr} {m : Str → Option Value}, s₁.heap.Ns b m → (hidT s₁.heap H).Ns b m := by
      intro b m h
      obtain ⟨o, es, ep, e, d, r⟩ := h
      exact ⟨o, es, ep, hidT_get e (notDict e d), d, r⟩
    have kH : K.In (hidT s₁.heap H) := by
      intro b o e
      refine hidT_get (KX b o e) ?_
      match q : H b with
      | none => rfl
      | some u =>
        have eb : b = a := at_a b (by simp [q])
        subst eb
        rw [not_K (by simp [q])] at e
        cases e
    obtain ⟨mc, lim1, lim2⟩ := hlim
    have md : Mod K mg (hidT s₁.heap H) := { kin := kH, glob := nsH hns, blt := ⟨mb, nsH hb, hbb⟩, nolimit := ⟨mc, nsH lim1, lim2⟩ }
    have env : Env0 P w K mg (hidT s₁.heap H) callerA [] s₁ H :=
      { frames := rfl, mod := md, bs := fun b o e => of_hidT e, bsz := Nat.le_of_eq (hidT_size _ _), funs := trivial, frf := fun b hb => (by cases hb), hok := hok, bare := .of_eq hg }
    refine codeAny_mono ((F _ kH (nsH hns)).run callerA [] s₁ H ⟨[.ref a], []⟩ [.ref a] [.ref a] _ _ hr env (hbind s₁ (.ref a)) (.cons rfl .nil) (hsp H only sq)) fun r s' h => ?_
    match r, h with
    | .error e, h =>
      obtain ⟨_, _, _, _, _, _, _, _, _, _, _, _, z⟩ := h
      exact z.elim
    | .ok .next, h => exact False.elim h
    | .ok .brk, h => exact False.elim h
    | .ok .cont, h => exact False.elim h
    | .ok (.ret u), h =>
      obtain ⟨v, H', os, bare, un, hok', r', q⟩ := h
      have qv : v = .bl true := q
      rw [qv] at r'
      have eu : u = Value.bool true := r'
      refine ⟨by rw [eu], OldK.of_keep fun b o e => ?_, os, bare⟩
      match qb : H b with
      | none => exact un.keep b o e qb (fun z => by cases z) (fun z => by cases z)
      | some y =>
        rcases only b with z | ⟨ob, xs, z⟩
        · rw [qb] at z; cases z
        · have e1 := (hok b _ z).1
          have e2 := (hok' b _ (un.frzs b ob _ z)).1
          rw [e] at e1
          cases e1
          exact e2
  match hk : K.lookup a with
  | some o =>
    have e := KX a o hk
    rw [ha] at e
    have eo := Option.some.inj e
    subst eo
    refine go (fun _ => none) (fun _ => Or.inl rfl) (Or.inr ⟨_, vs.toArray, _, hk, rfl, rfl, rfl, by rw [List.size_toArray, lens]; exact hl, by simpa using vals⟩) (fun b u z => by cases (show (none : Option HO) = some u from z)) (fun b z => absurd rfl z) (fun z => absurd rfl z)
  | none =>
    let fr : HO := .frz { cls := .type "list", data := .seq vs.toArray } (.lst (ns.map V.int))
    have at1 : (fun b : Addr => if b = a then some fr else none) a = some fr := if_pos rfl
    have at2 : ∀ b, (fun b : Addr => if b = a then some fr else none) b ≠ none → b = a := fun b z => by
      by_cases hb : b = a
      · exact hb
      · exact absurd (if_neg hb) z
    refine go (fun b => if b = a then some fr else none) (fun b => ?_) (Or.inl (Or.inr ⟨_, at1⟩)) (fun b u z => ?_) at2 (fun _ => hk)
    · by_cases hb : b = a
      · exact Or.inr ⟨_, _, if_pos hb⟩
      · exact Or.inl (if_neg hb)
    · have eb := at2 b (by rw [show (fun b : Addr => if b = a then some fr else none) b = some u from z]; simp)
      subst eb
      cases (at1.symm.trans z)
      exact ⟨ha, by rw [List.length_map]; exact hl, vs, _, vals, ha⟩

/-- what is left to be shown behind the head -/
theorem walk_G {l : PySem.W.OpenLaw} {n k : Nat} {q : Program} {loose : List Str} {XP : (Str → Option Value) → Heap → Prop} {YP : World → Heap → Prop} {d : DefRec} {K : Params → PySem.W.Frag} {sp : World → Sp} {x : Str}
    (hn : l.most = some n) (hn2 : n ≤ sizeLine) (hdf : d.params.defaults = []) (hr : RoomG k callerA)
    (hY : ∀ (w : World) (h : Heap), YP w h → (K w.params).In h)
    (F : ∀ (w : World) (mg : Str → Option Value) (fa : Addr) (h : Heap), (K w.params).In h → h.Ns mainGlobals mg → mg d.name = some (.ref fa) →
      ∃ fd : FuncData, (∀ (s : Shared) (u : Value), BindsTo s fd ⟨[u], []⟩ [(x, u)]) ∧
        ∀ base : Heap, (K w.params).In base → base.Ns mainGlobals mg → FnG l.prog w (K w.params) mg base k fa fd [x] (sp w))
    (hsp : ∀ (w : World) (H : Hp) (a : Addr) (ns : List Int), ns.length ≤ n → Only H → SqL (K w.params) H a (ns.map V.int) → sp w [.ref a] H (fun v _ => v = .bl true) fun _ _ _ => False) :
    PySem.W.WalkO q loose XP YP l.row.toRowW d [] (fun f vs => PySem.call f vs) := by
  refine Att.attach_call hn hdf ?_
  intro w s₀ s₁ mg mb fa o pm cd doc a vs ns G Y ho hd hcd hmg hobj hints hlen hg
  have kx := hY w _ Y
  obtain ⟨fd, bnd, fn⟩ := F w mg fa _ kx G.T.g hmg
  exact law_G kx G.T.g G.T.b G.T.builtins G.T.nolimit hg hobj hints (Nat.le_trans hlen hn2) hr fn bnd (fun H only sq => hsp w H a ns hlen only sq)
end BR

/-! K1: data as trees, what of the heap stands for them, and a judgement that runs a def's text against a plain function over such data -/
namespace BR
open PySem PySem.Spec PyProof.Rows L2

/-- a thing as a tree -/
inductive D where
  | non | bl (b : Bool) | int (i : Int) | str (x : Str) | lst (xs : List D) | tup (xs : List D) | dic (kvs : List (Key × D))
  /-- the law's own list -/
  | scr (ns : List Int)
  /-- a caught error of the class of this name, its fields -/
  | exc (c : Str) (xf : List (Str × Option Int))
  /-- an instance of an own class: its fields (true: one of its own lists, while it is in the making) -/
  | obj (c : Str) (fs : List (Str × Bool × D))

/-- an error: its class's name, its fields -/
structure Exc where
  cls : Str
  fs : List (Str × Option Int)

inductive Res (α : Type) where
  | ok (a : α) | raise (x : Exc) | bad
namespace Res
def bind {α β : Type} (m : Res α) (f : α → Res β) : Res β := match m with
  | .ok a => f a
  | .raise x => .raise x
  | .bad => .bad
def exc {α : Type} : Res α → Option Exc
  | .raise x => some x
  | _ => none
end Res

/-- whether an error of the class c is one of the class t -/
def subE (c t : Str) : Bool := c == t || t == ("BoastError" : Str) || t == ("ValueError" : Str)
/-- what is known of the class at C, whose name is c -/
structure ExcF (K : PySem.W.Frag) (c : Str) (C : Addr) : Prop where
  at_ : PySem.W.nsIn K mainGlobals c = some (some (.ref C))
  cl : L2.ExcC K C
  ty : ∀ T : String, T ∈ ["int", "bool", "str", "tuple", "list", "dict"] → PySem.W.kitOne K (.ref C) (.type T) = some false
/-- what is known of the own class at C, whose name is c -/
structure ObF (K : PySem.W.Frag) (c : Str) (C : Addr) : Prop where
  at_ : PySem.W.nsIn K mainGlobals c = some (some (.ref C))
  cl : L2.Cls K C
  ha : PySem.W.findIn K (.ref C) "__class__" = some (some (.builtin "object.__class__"))
  hn : PySem.W.specialIn K (.builtin "object.__class__") "__get__" = some (some (.builtin "getset_descriptor.__get__"))
  htk : PySem.W.takesIn K (.builtin "object.__class__") = some true
  hm : PySem.W.mroIn K C (.type "object") = some true
  ty : ∀ T : String, T ∈ ["int", "bool", "str", "tuple", "list", "dict"] → PySem.W.kitOne K (.ref C) (.type T) = some false
/-- an error's object -/
def ExO1 (oe : Obj) : HO := .frz oe (.ext fun _ => True)
def xfV (xf : List (Str × Option Int)) : List (Str × V) := xf.map fun q => (q.1, match q.2 with | none => V.non | some n => V.int n)
/-- at a: an error, its fields in its dict -/
def ExAt (G H : Hp) (C a : Addr) (xf : List (Str × Option Int)) : Prop := ∃ (oe : Obj) (vs : Array Value), H a = some (ExO1 oe) ∧ oe.data = .fields vs ∧ ((xf = [] ∧ L2N.Zn (.ref C) none oe) ∨ ∃ dd, xf ≠ [] ∧ L2N.Zn (.ref C) (some dd) oe ∧ G dd = some (.xd (xfV xf)))
theorem ExAt.sub {G G' H H' : Hp} (g : ∀ a o, G a = some o → G' a = some o) (s : ∀ a o, H a = some o → H' a = some o) {C a : Addr} {xf : List (Str × Option Int)} (h : ExAt G H C a xf) : ExAt G' H' C a xf := by
  obtain ⟨oe, vs, h1, h2, h3⟩ := h
  refine ⟨oe, vs, s _ _ h1, h2, ?_⟩
  rcases h3 with h3 | ⟨dd, h4, h5, h6⟩
  · exact .inl h3
  · exact .inr ⟨dd, h4, h5, g _ _ h6⟩
mutual
def Rep (K : PySem.W.Frag) (G : Hp) : D → V → Prop
  | .non, v => v = .non
  | .bl b, v => v = .bl b
  | .int i, v => v = .int i
  | .str x, v => v = .str x
  | .lst ds, v => ∃ a vs, v = .ref a ∧ G a = some (.lst vs) ∧ Reps K G ds vs
  | .tup ds, v => ∃ a vs, v = .ref a ∧ SqT K G a vs ∧ Reps K G ds vs
  | .dic kvs, v => ∃ a kv, v = .ref a ∧ G a = some (.dK kv) ∧ RepKs K G kvs kv
  | .scr ns, v => ∃ a, v = .ref a ∧ SqL K G a (ns.map V.int)
  | .exc c xf, v => ∃ a C, v = .ref a ∧ ExcF K c C ∧ ExAt G G C a xf
  | .obj c fs, v => ∃ a C dx vs, v = .ref a ∧ ObF K c C ∧ G a = some (.ins C dx vs) ∧ G dx = some (.own a) ∧ RepFs K G fs vs
def Reps (K : PySem.W.Frag) (G : Hp) : List D → List V → Prop
  | [], vs => vs = []
  | d :: ds, vs => ∃ v r, vs = v :: r ∧ Rep K G d v ∧ Reps K G ds r
def RepKs (K : PySem.W.Frag) (G : Hp) : List (Key × D) → List (Key × V) → Prop
  | [], vs => vs = []
  | (k, d) :: ds, vs => ∃ v r, vs = (k, v) :: r ∧ Rep K G d v ∧ RepKs K G ds r
def RepFs (K : PySem.W.Frag) (G : Hp) : List (Str × Bool × D) → List (Str × V) → Prop
  | [], vs => vs = []
  | (k, _, d) :: ds, vs => ∃ v r, vs = (k, v) :: r ∧ Rep K G d v ∧ RepFs K G ds r
end

/-- all that the one tracks the other does -/
def Sub (G H : Hp) : Prop := ∀ a o, G a = some o → H a = some o
theorem Sub.refl (H : Hp) : Sub H H := fun _ _ e => e
theorem Sub.trans {A B C : Hp} (x : Sub A B) (y : Sub B C) : Sub A C := fun a o e => y a o (x a o e)
theorem Sub.upd {H : Hp} {p : Addr} {o : HO} (h : H p = none) : Sub H (upd H p o) := fun b x e => by
  rw [upd_ne (ne_of_none e h)]; exact e
theorem Rd.sub {G H : Hp} (s : Sub G H) {a : Addr} {u : HO} : Rd G a u → Rd H a u
  | .inl h => .inl (s _ _ h)
  | .inr ⟨o, h⟩ => .inr ⟨o, s _ _ h⟩
theorem SqL.sub {K : PySem.W.Frag} {G H : Hp} (s : Sub G H) {a : Addr} {xs : List V} : SqL K G a xs → SqL K H a xs
  | .inl h => .inl (Rd.sub s h)
  | .inr h => .inr h
theorem SqT.sub {K : PySem.W.Frag} {G H : Hp} (s : Sub G H) {a : Addr} {xs : List V} : SqT K G a xs → SqT K H a xs
  | .inl h => .inl (Rd.sub s h)
  | .inr h => .inr h

mutual
theorem Rep.sub {K : PySem.W.Frag} {G H : Hp} (s : Sub G H) : ∀ (d : D) (v : V), Rep K G d v → Rep K H d v
  | .non, _, h => h
  | .bl _, _, h => h
  | .int _, _, h => h
  | .str _, _, h => h
  | .scr ns, _, h => by
    obtain ⟨a, e, q⟩ := h
    exact ⟨a, e, SqL.sub s q⟩
  | .exc c xf, _, h => by
    obtain ⟨a, C, e, f, g'⟩ := h
    exact ⟨a, C, e, f, g'.sub s s⟩
  | .obj c fs, _, h => by
    obtain ⟨a, C, dx, vs, e, f, q, q2, r⟩ := h
    exact ⟨a, C, dx, vs, e, f, s _ _ q, s _ _ q2, RepFs.sub s fs vs r⟩
  | .lst ds, _, h => by
    obtain ⟨a, vs, e, q, r⟩ := h
    exact ⟨a, vs, e, s _ _ q, Reps.sub s ds vs r⟩
  | .tup ds, _, h => by
    obtain ⟨a, vs, e, q, r⟩ := h
    exact ⟨a, vs, e, SqT.sub s q, Reps.sub s ds vs r⟩
  | .dic ds, _, h => by
    obtain ⟨a, vs, e, q, r⟩ := h
    exact ⟨a, vs, e, s _ _ q, RepKs.sub s ds vs r⟩
theorem Reps.sub {K : PySem.W.Frag} {G H : Hp} (s : Sub G H) : ∀ (ds : List D) (vs : List V), Reps K G ds vs → Reps K H ds vs
  | [], _, h => h
  | d :: ds, _, h => by
    obtain ⟨v, r, e, h1, h2⟩ := h
    exact ⟨v, r, e, Rep.sub s d v h1, Reps.sub s ds r h2⟩
theorem RepKs.sub {K : PySem.W.Frag} {G H : Hp} (s : Sub G H) : ∀ (ds : List (Key × D)) (vs : List (Key × V)), RepKs K G ds vs → RepKs K H ds vs
  | [], _, h => h
  | (k, d) :: ds, _, h => by
    obtain ⟨v, r, e, h1, h2⟩ := h
    exact ⟨v, r, e, Rep.sub s d v h1, RepKs.sub s ds r h2⟩
theorem RepFs.sub {K : PySem.W.Frag} {G H : Hp} (s : Sub G H) : ∀ (ds : List (Str × Bool × D)) (vs : List (Str × V)), RepFs K G ds vs → RepFs K H ds vs
  | [], _, h => h
  | (k, b, d) :: ds, _, h => by
    obtain ⟨v, r, e, h1, h2⟩ := h
    exact ⟨v, r, e, Rep.sub s d v h1, RepFs.sub s ds r h2⟩
end

section
variable {K : PySem.W.Frag} {G H : Hp}
theorem Reps.length : ∀ {ds : List D} {vs : List V}, Reps K G ds vs → ds.length = vs.length
  | [], _, h => by rw [show _ = [] from h]; rfl
  | d :: ds, _, h => by
    obtain ⟨v, r, e, _, h2⟩ := h
    rw [e, List.length_cons, List.length_cons, Reps.length h2]
theorem Reps.append : ∀ {ds es : List D} {vs us : List V}, Reps K G ds vs → Reps K G es us → Reps K G (ds ++ es) (vs ++ us)
  | [], _, _, _, h, h' => by rw [show _ = [] from h]; exact h'
  | d :: ds, _, _, _, h, h' => by
    obtain ⟨v, r, e, h1, h2⟩ := h
    subst e
    exact ⟨v, _, rfl, h1, Reps.append h2 h'⟩
theorem Reps.get : ∀ {ds : List D} {vs : List V} {i : Nat} {d : D}, Reps K G ds vs → ds[i]? = some d → ∃ v, vs[i]? = some v ∧ Rep K G d v
  | [], _, _, _, _, e => by simp at e
  | d :: ds, _, 0, _, h, e => by
    obtain ⟨v, r, e', h1, _⟩ := h
    subst e'
    simp at e; subst e
    exact ⟨v, rfl, h1⟩
  | d :: ds, _, i + 1, _, h, e => by
    obtain ⟨v, r, e', _, h2⟩ := h
    subst e'
    obtain ⟨u, h3, h4⟩ := Reps.get (i := i) h2 (by simpa using e)
    exact ⟨u, by simpa using h3, h4⟩
theorem Reps.take : ∀ {ds : List D} {vs : List V} (n : Nat), Reps K G ds vs → Reps K G (ds.take n) (vs.take n)
  | _, _, 0, _ => rfl
  | [], _, n + 1, h => by rw [show _ = [] from h]; rfl
  | d :: ds, _, n + 1, h => by
    obtain ⟨v, r, e, h1, h2⟩ := h
    subst e
    exact ⟨v, _, rfl, h1, Reps.take n h2⟩
theorem Reps.drop : ∀ {ds : List D} {vs : List V} (n : Nat), Reps K G ds vs → Reps K G (ds.drop n) (vs.drop n)
  | _, _, 0, h => h
  | [], _, n + 1, h => by rw [show _ = [] from h]; rfl
  | d :: ds, _, n + 1, h => by
    obtain ⟨v, r, e, h1, h2⟩ := h
    subst e
    exact Reps.drop n h2
theorem Reps.set {d : D} {v : V} (q : Rep K G d v) : ∀ {ds : List D} {vs : List V} (i : Nat), Reps K G ds vs → Reps K G (ds.set i d) (vs.set i v)
  | [], _, _, h => by rw [show _ = [] from h]; rfl
  | _ :: ds, _, 0, h => by
    obtain ⟨u, r, e, h1, h2⟩ := h
    subst e
    exact ⟨v, r, rfl, q, h2⟩
  | _ :: ds, _, i + 1, h => by
    obtain ⟨u, r, e, h1, h2⟩ := h
    subst e
    exact ⟨u, _, rfl, h1, Reps.set q i h2⟩
theorem Reps.reverse : ∀ {ds : List D} {vs : List V}, Reps K G ds vs → Reps K G ds.reverse vs.reverse
  | [], _, h => by rw [show _ = [] from h]; rfl
  | d :: ds, _, h => by
    obtain ⟨v, r, e, h1, h2⟩ := h
    subst e
    rw [List.reverse_cons, List.reverse_cons]
    exact Reps.append (Reps.reverse h2) ⟨v, [], rfl, h1, rfl⟩
theorem Reps.one {d : D} {v : V} (q : Rep K G d v) : Reps K G [d] [v] := ⟨v, [], rfl, q, rfl⟩
theorem Reps.eraseIdx : ∀ {ds : List D} {vs : List V} (i : Nat), Reps K G ds vs → Reps K G (ds.eraseIdx i) (vs.eraseIdx i)
  | [], _, _, h => by rw [show _ = [] from h]; rfl
  | d :: ds, _, 0, h => by
    obtain ⟨u, r, e, h1, h2⟩ := h
    subst e
    exact h2
  | d :: ds, _, i + 1, h => by
    obtain ⟨u, r, e, h1, h2⟩ := h
    subst e
    exact ⟨u, _, rfl, h1, Reps.eraseIdx i h2⟩
theorem Reps.dropLast : ∀ {ds : List D} {vs : List V}, Reps K G ds vs → Reps K G ds.dropLast vs.dropLast
  | ds, vs, h => by
    rw [List.dropLast_eq_take, List.dropLast_eq_take, ← Reps.length h]
    exact Reps.take _ h
end

/-- a field: an own list's (or dict's) top stands in H -/
def VF (K : PySem.W.Frag) (G H : Hp) : Bool → D → V → Prop
  | true, .lst ds, v => ∃ a vs, v = .ref a ∧ H a = some (.lst vs) ∧ Reps K G ds vs
  | true, .dic ds, v => ∃ a kv, v = .ref a ∧ H a = some (.dK kv) ∧ RepKs K G ds kv
  | _, d, v => Rep K G d v
def VFs (K : PySem.W.Frag) (G H : Hp) : List (Str × Bool × D) → List (Str × V) → Prop
  | [], vs => vs = []
  | (k, b, d) :: ds, vs => ∃ v r, vs = (k, v) :: r ∧ VF K G H b d v ∧ VFs K G H ds r
theorem VF.of {K : PySem.W.Frag} {G H : Hp} (s : Sub G H) : ∀ {b : Bool} {d : D} {v : V}, Rep K G d v → VF K G H b d v
  | true, .lst ds, v, h => by obtain ⟨a, vs, e, q, r⟩ := h; exact ⟨a, vs, e, s _ _ q, r⟩
  | true, .dic ds, v, h => by obtain ⟨a, vs, e, q, r⟩ := h; exact ⟨a, vs, e, s _ _ q, r⟩
  | false, d, v, h => by cases d <;> exact h
  | true, .non, _, h => h
  | true, .bl _, _, h => h
  | true, .int _, _, h => h
  | true, .str _, _, h => h
  | true, .tup _, _, h => h
  | true, .scr _, _, h => h
  | true, .exc _ _, _, h => h
  | true, .obj _ _, _, h => h
theorem VFs.of {K : PySem.W.Frag} {G H : Hp} (s : Sub G H) : ∀ {fs : List (Str × Bool × D)} {vs : List (Str × V)}, RepFs K G fs vs → VFs K G H fs vs
  | [], _, h => h
  | (k, b, d) :: r, _, h => by
    obtain ⟨v, q, e, h1, h2⟩ := h
    exact ⟨v, q, e, VF.of s h1, VFs.of s h2⟩
theorem VF.sub {K : PySem.W.Frag} {G G' H H' : Hp} (g : Sub G G') (s : Sub H H') : ∀ {b : Bool} {d : D} {v : V}, VF K G H b d v → VF K G' H' b d v
  | true, .lst ds, v, h => by obtain ⟨a, vs, e, q, r⟩ := h; exact ⟨a, vs, e, s _ _ q, Reps.sub g _ _ r⟩
  | true, .dic ds, v, h => by obtain ⟨a, vs, e, q, r⟩ := h; exact ⟨a, vs, e, s _ _ q, RepKs.sub g _ _ r⟩
  | false, d, v, h => by cases d <;> exact Rep.sub g _ _ h
  | true, .non, _, h => h
  | true, .bl _, _, h => h
  | true, .int _, _, h => h
  | true, .str _, _, h => h
  | true, .tup _, _, h => Rep.sub g _ _ h
  | true, .scr _, _, h => Rep.sub g _ _ h
  | true, .exc _ _, _, h => Rep.sub g _ _ h
  | true, .obj _ _, _, h => Rep.sub g _ _ h
theorem VFs.sub {K : PySem.W.Frag} {G G' H H' : Hp} (g : Sub G G') (s : Sub H H') : ∀ {fs : List (Str × Bool × D)} {vs : List (Str × V)}, VFs K G H fs vs → VFs K G' H' fs vs
  | [], _, h => h
  | (k, b, d) :: r, _, h => by
    obtain ⟨v, q, e, h1, h2⟩ := h
    exact ⟨v, q, e, VF.sub g s h1, VFs.sub g s h2⟩
/-- the value of a thing whose top may be changed by others of this def: its own items stand fast in G, its top in H -/
def VRep (K : PySem.W.Frag) (G H : Hp) : D → V → Prop
  | .lst ds, v => ∃ a vs, v = .ref a ∧ H a = some (.lst vs) ∧ Reps K G ds vs
  | .scr ns, v => ∃ a, v = .ref a ∧ SqL K H a (ns.map V.int)
  | .exc c xf, v => ∃ a C, v = .ref a ∧ ExcF K c C ∧ ExAt G H C a xf
  | .obj c fs, v => ∃ a C dx vs, v = .ref a ∧ ObF K c C ∧ H a = some (.ins C dx vs) ∧ H dx = some (.own a) ∧ VFs K G H fs vs
  | .tup ds, v => ∃ a vs, v = .ref a ∧ SqT K H a vs ∧ Reps K G ds vs
  | .dic ds, v => ∃ a kv, v = .ref a ∧ H a = some (.dK kv) ∧ RepKs K G ds kv
  | d, v => Rep K G d v
theorem VRep.of {K : PySem.W.Frag} {G H : Hp} (s : Sub G H) : ∀ {d : D} {v : V}, Rep K G d v → VRep K G H d v
  | .non, _, h => h
  | .bl _, _, h => h
  | .int _, _, h => h
  | .str _, _, h => h
  | .scr ns, _, h => by
    obtain ⟨a, e, q⟩ := h
    exact ⟨a, e, SqL.sub s q⟩
  | .exc c xf, _, h => by
    obtain ⟨a, C, e, f, g'⟩ := h
    exact ⟨a, C, e, f, g'.sub (Sub.refl _) s⟩
  | .obj c fs, _, h => by
    obtain ⟨a, C, dx, vs, e, f, q, q2, r⟩ := h
    exact ⟨a, C, dx, vs, e, f, s _ _ q, s _ _ q2, VFs.of s r⟩
  | .lst ds, _, h => by
    obtain ⟨a, vs, e, q, r⟩ := h
    exact ⟨a, vs, e, s _ _ q, r⟩
  | .tup ds, _, h => by
    obtain ⟨a, vs, e, q, r⟩ := h
    exact ⟨a, vs, e, SqT.sub s q, r⟩
  | .dic ds, _, h => by
    obtain ⟨a, vs, e, q, r⟩ := h
    exact ⟨a, vs, e, s _ _ q, r⟩
theorem VRep.sub {K : PySem.W.Frag} {G G' H H' : Hp} (g : Sub G G') (s : Sub H H') : ∀ {d : D} {v : V}, VRep K G H d v → VRep K G' H' d v
  | .non, _, h => h
  | .bl _, _, h => h
  | .int _, _, h => h
  | .str _, _, h => h
  | .scr ns, _, h => by
    obtain ⟨a, e, q⟩ := h
    exact ⟨a, e, SqL.sub s q⟩
  | .exc c xf, _, h => by
    obtain ⟨a, C, e, f, g'⟩ := h
    exact ⟨a, C, e, f, g'.sub g s⟩
  | .obj c fs, _, h => by
    obtain ⟨a, C, dx, vs, e, f, q, q2, r⟩ := h
    exact ⟨a, C, dx, vs, e, f, s _ _ q, s _ _ q2, VFs.sub g s r⟩
  | .lst ds, _, h => by
    obtain ⟨a, vs, e, q, r⟩ := h
    exact ⟨a, vs, e, s _ _ q, Reps.sub g _ _ r⟩
  | .tup ds, _, h => by
    obtain ⟨a, vs, e, q, r⟩ := h
    exact ⟨a, vs, e, SqT.sub s q, Reps.sub g _ _ r⟩
  | .dic ds, _, h => by
    obtain ⟨a, vs, e, q, r⟩ := h
    exact ⟨a, vs, e, s _ _ q, RepKs.sub g _ _ r⟩

/-- a list (or dict) of this def's own at p -/
def MRep (K : PySem.W.Frag) (G H : Hp) : D → Addr → Prop
  | .lst ds, p => ∃ vs, H p = some (.lst vs) ∧ Reps K G ds vs
  | .dic ds, p => ∃ kv, H p = some (.dK kv) ∧ RepKs K G ds kv
  | _, _ => False
theorem MRep.v {K : PySem.W.Frag} {G H : Hp} : ∀ {d : D} {p : Addr}, MRep K G H d p → VRep K G H d (.ref p)
  | .lst ds, p, h => by obtain ⟨vs, e, r⟩ := h; exact ⟨p, vs, rfl, e, r⟩
  | .dic ds, p, h => by obtain ⟨vs, e, r⟩ := h; exact ⟨p, vs, rfl, e, r⟩
  | .non, _, h => h.elim
  | .bl _, _, h => h.elim
  | .int _, _, h => h.elim
  | .str _, _, h => h.elim
  | .tup _, _, h => h.elim
  | .scr _, _, h => h.elim
  | .exc _ _, _, h => h.elim
  | .obj _ _, _, h => h.elim
theorem MRep.keep {K : PySem.W.Frag} {G G' H H' : Hp} (g : Sub G G') : ∀ {d : D} {p : Addr}, MRep K G H d p → (∀ o, H p = some o → H' p = some o) → MRep K G' H' d p
  | .lst ds, p, h, k => by obtain ⟨vs, e, r⟩ := h; exact ⟨vs, k _ e, Reps.sub g _ _ r⟩
  | .dic ds, p, h, k => by obtain ⟨vs, e, r⟩ := h; exact ⟨vs, k _ e, RepKs.sub g _ _ r⟩
  | .non, _, h, _ => h.elim
  | .bl _, _, h, _ => h.elim
  | .int _, _, h, _ => h.elim
  | .str _, _, h, _ => h.elim
  | .tup _, _, h, _ => h.elim
  | .scr _, _, h, _ => h.elim
  | .exc _ _, _, h, _ => h.elim
  | .obj _ _, _, h, _ => h.elim
theorem MRep.ex {K : PySem.W.Frag} {G H : Hp} : ∀ {d : D} {p : Addr}, MRep K G H d p → ∃ o, H p = some o
  | .lst ds, p, h => by obtain ⟨vs, e, r⟩ := h; exact ⟨_, e⟩
  | .dic ds, p, h => by obtain ⟨vs, e, r⟩ := h; exact ⟨_, e⟩
  | .non, _, h => h.elim
  | .bl _, _, h => h.elim
  | .int _, _, h => h.elim
  | .str _, _, h => h.elim
  | .tup _, _, h => h.elim
  | .scr _, _, h => h.elim
  | .exc _ _, _, h => h.elim
  | .obj _ _, _, h => h.elim
/-- put among what stands fast -/
theorem MRep.freeze {K : PySem.W.Frag} {G H : Hp} : ∀ {d : D} {p : Addr} {o : HO}, MRep K G H d p → H p = some o → G p = none → Rep K (upd G p o) d (.ref p)
  | .lst ds, p, o, h, e, n => by
    obtain ⟨vs, e', r⟩ := h
    rw [e] at e'; cases e'
    exact ⟨p, vs, rfl, upd_same, Reps.sub (Sub.upd n) _ _ r⟩
  | .dic ds, p, o, h, e, n => by
    obtain ⟨vs, e', r⟩ := h
    rw [e] at e'; cases e'
    exact ⟨p, vs, rfl, upd_same, RepKs.sub (Sub.upd n) _ _ r⟩
  | .non, _, _, h, _, _ => h.elim
  | .bl _, _, _, h, _, _ => h.elim
  | .int _, _, _, h, _, _ => h.elim
  | .str _, _, _, h, _, _ => h.elim
  | .tup _, _, _, h, _, _ => h.elim
  | .scr _, _, _, h, _, _ => h.elim
  | .exc _ _, _, _, h, _, _ => h.elim
  | .obj _ _, _, _, h, _, _ => h.elim

def tupD : D → Bool
  | .tup _ => true
  | _ => false
/-- what a caller lets be read: a tuple stands fast -/
def Fits (M F G : Hp) : Prop := ∀ a o, M a = some o → F a = some o ∨ G a = some o
theorem Fits.sub {M F G H : Hp} (h : Fits M F G) (f : Sub F H) (g : Sub G H) : Sub M H := fun a o e => (h a o e).elim (f a o) (g a o)
def BRep (K : PySem.W.Frag) (G F : Hp) (d : D) (v : V) : Prop := (∃ M, Fits M F G ∧ VRep K G M d v) ∧ (tupD d = true → Rep K G d v)
theorem BRep.of {K : PySem.W.Frag} {G F : Hp} (s : Sub G F) {d : D} {v : V} (h : Rep K G d v) : BRep K G F d v := ⟨⟨G, fun _ _ e => .inr e, VRep.of (Sub.refl G) h⟩, fun _ => h⟩
theorem BRep.vv {K : PySem.W.Frag} {G F H : Hp} (g : Sub G H) (s : Sub F H) {d : D} {v : V} (h : BRep K G F d v) : VRep K G H d v := by
  obtain ⟨⟨M, hM, r⟩, _⟩ := h
  exact VRep.sub (Sub.refl _) (hM.sub s g) r
theorem BRep.mk {K : PySem.W.Frag} {G F : Hp} {d : D} {v : V} (h : VRep K G F d v) (t : tupD d = true → Rep K G d v) : BRep K G F d v := ⟨⟨F, fun _ _ e => .inl e, h⟩, t⟩
theorem BRep.sub {K : PySem.W.Frag} {G G' F F' : Hp} (g : Sub G G') (s : Sub F F') {d : D} {v : V} (h : BRep K G F d v) : BRep K G' F' d v := by
  obtain ⟨⟨M, hM, r⟩, t⟩ := h
  exact ⟨⟨M, fun a o e => (hM a o e).imp (s a o) (g a o), VRep.sub g (Sub.refl M) r⟩, fun z => Rep.sub g _ _ (t z)⟩
theorem MRep.notup {K : PySem.W.Frag} {G H : Hp} {d : D} {p : Addr} (h : MRep K G H d p) : tupD d = true → Rep K G d (.ref p) := fun t => by
  cases d <;> first | exact h.elim | cases t
/-- what is known of a name or a thing at hand: nothing; a thing that stands fast; a list of this def's own; one of the caller's that may be changed (the j-th of these); one that is the caller's and isn't changed meanwhile; the list of the name at a place -/
inductive Slot where
  | un | fr (d : D) | mu (d : D) | mp (j : Nat) (d : D) | bw (d : D) | bo (i : Nat)

/-- what a def's run starts from: what stands fast, all that it must leave as it was, the lists that it may change; and what of its end may be -/
structure Kn where
  n : Nat
  G0 : Hp
  F0 : Hp
  ps : List Addr
  HX : Option Exc → Prop
  h0 : HX none

def SlotOk (K : PySem.W.Frag) (en : Kn) (S : L2.St) (G H : Hp) : Slot → Option V → Prop
  | .un, _ => True
  | .fr d, o => ∃ v, o = some v ∧ Rep K G d v
  | .mu d, o => ∃ p, o = some (.ref p) ∧ G p = none ∧ en.F0 p = none ∧ p ∉ en.ps ∧ MRep K G H d p
  | .mp j d, o => ∃ p, o = some (.ref p) ∧ en.ps[j]? = some p ∧ G p = none ∧ en.F0 p = none ∧ MRep K G H d p
  | .bw d, o => ∃ v, o = some v ∧ BRep K G en.F0 d v
  | .bo i, o => i < en.n ∧ S[i]? = some o ∧ ∃ p, o = some (.ref p)

/-- a list of this def's own, or of the caller's that may be changed -/
def Slot.own : Slot → Bool
  | .mu _ => true
  | .mp _ _ => true
  | _ => false
def Own (Δ : List Slot) (S : L2.St) (i : Nat) (p : Addr) : Prop := ∃ sl, Δ[i]? = some sl ∧ sl.own = true ∧ S[i]? = some (some (V.ref p))
structure Wd (K : PySem.W.Frag) (en : Kn) (Δ : List Slot) (S : L2.St) (G H : Hp) : Prop where
  len : Δ.length = S.length
  sub : Sub G H
  ext : Sub en.G0 G
  new : ∀ a o, G a = some o → en.G0 a = some o ∨ (en.F0 a = none ∧ a ∉ en.ps)
  frm : Sub en.F0 H
  stay : ∀ a, a ∈ en.ps → H a ≠ none
  nd : en.ps.Nodup
  slot : ∀ (i : Nat) sl o, Δ[i]? = some sl → S[i]? = some o → SlotOk K en S G H sl o
  apart : ∀ (i j : Nat) p, Own Δ S i p → Own Δ S j p → i = j

/-- grown: what was tracked is as it was, what stands fast too; what newly stands fast is new -/
structure Grow (G H G' H' : Hp) : Prop where
  g : Sub G G'
  h : Sub H H'
  gh : Sub G' H'
  new : ∀ a o, G' a = some o → G a = some o ∨ H a = none
theorem Grow.refl {G H : Hp} (s : Sub G H) : Grow G H G H := ⟨Sub.refl _, Sub.refl _, s, fun _ _ e => .inl e⟩
theorem Grow.laid {G H : Hp} {p : Addr} {o : HO} (s : Sub G H) (h : H p = none) : Grow G H G (upd H p o) :=
  ⟨Sub.refl _, Sub.upd h, s.trans (Sub.upd h), fun _ _ e => .inl e⟩
theorem Grow.trans {G H G1 H1 G2 H2 : Hp} (a : Grow G H G1 H1) (b : Grow G1 H1 G2 H2) : Grow G H G2 H2 :=
  ⟨a.g.trans b.g, a.h.trans b.h, b.gh, fun x o e => by
    rcases b.new x o e with q | q
    · exact a.new x o q
    · refine .inr ?_
      cases z : H x with
      | none => rfl
      | some u => rw [a.h x u z] at q; cases q⟩

/-- a result: it stands fast; a new list; -/
def Out (K : PySem.W.Frag) (G H G' H' : Hp) : Slot → V → Prop
  | .fr d, v => Rep K G' d v
  | .mu d, v => ∃ p, v = .ref p ∧ H p = none ∧ G' p = none ∧ MRep K G' H' d p
  | _, _ => False

section
variable {K : PySem.W.Frag} {en : Kn} {Δ : List Slot} {S : L2.St} {G H G' H' : Hp}
theorem Wd.fresh (W : Wd K en Δ S G H) {p : Addr} (h : H p = none) : G p = none ∧ en.F0 p = none ∧ p ∉ en.ps := by
  refine ⟨?_, ?_, fun q => W.stay p q h⟩
  · cases z : G p with
    | none => rfl
    | some o => rw [W.sub p o z] at h; cases h
  · cases z : en.F0 p with
    | none => rfl
    | some o => rw [W.frm p o z] at h; cases h
theorem Grow.gnone (g : Grow G H G' H') {p : Addr} {d : D} (n : G p = none) (r : MRep K G H d p) : G' p = none := by
  cases z : G' p with
  | none => rfl
  | some u =>
    obtain ⟨o2, e2⟩ := r.ex
    rcases g.new p u z with q | q
    · rw [n] at q; cases q
    · rw [e2] at q; cases q
/-- grown -/
theorem Wd.grow (W : Wd K en Δ S G H) (g : Grow G H G' H') : Wd K en Δ S G' H' where
  len := W.len
  sub := g.gh
  ext := W.ext.trans g.g
  new := fun a o e => by
    rcases g.new a o e with q | q
    · exact W.new a o q
    · exact .inr ⟨(W.fresh q).2.1, (W.fresh q).2.2⟩
  frm := W.frm.trans g.h
  stay := fun a h e => by
    cases z : H a with
    | none => exact W.stay a h z
    | some o => rw [g.h a o z] at e; cases e
  nd := W.nd
  slot := fun i sl o h1 h2 => by
    have q := W.slot i sl o h1 h2
    cases sl with
    | un => trivial
    | fr d => obtain ⟨v, e, r⟩ := q; exact ⟨v, e, Rep.sub g.g _ _ r⟩
    | mu d =>
      obtain ⟨p, e, n, f, f2, r⟩ := q
      exact ⟨p, e, g.gnone n r, f, f2, r.keep g.g fun o e => g.h _ _ e⟩
    | mp j d =>
      obtain ⟨p, e, f2, n, f, r⟩ := q
      exact ⟨p, e, f2, g.gnone n r, f, r.keep g.g fun o e => g.h _ _ e⟩
    | bw d => obtain ⟨v, e, r⟩ := q; exact ⟨v, e, BRep.sub g.g (Sub.refl _) r⟩
    | bo j => exact q
  apart := W.apart
/-- a thing more at hand -/
theorem SlotOk.more {o u : Option V} {sl : Slot} (q : SlotOk K en S G H sl o) : SlotOk K en (S ++ [u]) G H sl o := by
  cases sl with
  | un => trivial
  | fr d => exact q
  | mu d => exact q
  | mp j d => exact q
  | bw d => exact q
  | bo j =>
    obtain ⟨h0, h1, h2⟩ := q
    refine ⟨h0, ?_, h2⟩
    rw [List.getElem?_append_left (List.getElem?_eq_some_iff.mp h1).1]
    exact h1
theorem Own.split {sl : Slot} {u : Option V} {i : Nat} {p : Addr} (hl : Δ.length = S.length) (h : Own (Δ ++ [sl]) (S ++ [u]) i p) : (i < Δ.length ∧ Own Δ S i p) ∨ (i = Δ.length ∧ sl.own = true ∧ u = some (.ref p)) := by
  obtain ⟨s, h1, h2, h3⟩ := h
  by_cases hi : i < Δ.length
  · rw [List.getElem?_append_left hi] at h1
    rw [List.getElem?_append_left (by rw [← hl]; exact hi)] at h3
    exact .inl ⟨hi, s, h1, h2, h3⟩
  · have hl' : i = Δ.length := by
      have := (List.getElem?_eq_some_iff.mp h1).1
      rw [List.length_append] at this
      have e1 : [sl].length = 1 := rfl
      omega
    subst hl'
    rw [List.getElem?_append_right (Nat.le_refl _), Nat.sub_self] at h1
    rw [hl, List.getElem?_append_right (Nat.le_refl _), Nat.sub_self] at h3
    have e1 : sl = s := Option.some.inj h1
    subst e1
    exact .inr ⟨rfl, h2, Option.some.inj h3⟩
theorem Wd.more {sl : Slot} {u : Option V} (W : Wd K en Δ S G H) (q : SlotOk K en (S ++ [u]) G H sl u) (ap : ∀ p (j : Nat), sl.own = true → u = some (.ref p) → Own Δ S j p → False) : Wd K en (Δ ++ [sl]) (S ++ [u]) G H where
  len := by rw [List.length_append, List.length_append, W.len]; rfl
  sub := W.sub
  ext := W.ext
  new := W.new
  frm := W.frm
  stay := W.stay
  nd := W.nd
  slot := fun i s o h1 h2 => by
    by_cases hi : i < Δ.length
    · rw [List.getElem?_append_left hi] at h1
      rw [List.getElem?_append_left (by rw [← W.len]; exact hi)] at h2
      exact (W.slot i s o h1 h2).more
    · have hl : i = Δ.length := by
        have := (List.getElem?_eq_some_iff.mp h1).1
        rw [List.length_append] at this
        have e1 : [sl].length = 1 := rfl
        omega
      subst hl
      rw [List.getElem?_append_right (Nat.le_refl _), Nat.sub_self] at h1
      have e1 : sl = s := Option.some.inj h1
      rw [W.len, List.getElem?_append_right (Nat.le_refl _), Nat.sub_self] at h2
      have e2 : u = o := Option.some.inj h2
      subst e1 e2
      exact q
  apart := fun i j p h1 h2 => by
    rcases h1.split W.len with ⟨i1, i2⟩ | ⟨i1, i2, i3⟩ <;> rcases h2.split W.len with ⟨j1, j2⟩ | ⟨j1, j2, j3⟩
    · exact W.apart i j p i2 j2
    · exact (ap _ _ j2 j3 i2).elim
    · exact (ap _ _ i2 i3 j2).elim
    · rw [i1, j1]
theorem Wd.ownThere {j : Nat} {p : Addr} (W : Wd K en Δ S G H) (h : Own Δ S j p) : ∃ o, H p = some o := by
  obtain ⟨sl, h1, h2, h3⟩ := h
  have q := W.slot j sl _ h1 h3
  cases sl with
  | mu d => obtain ⟨p2, e3, _, _, _, r⟩ := q; cases e3; exact r.ex
  | mp _ d => obtain ⟨p2, e3, _, _, _, r⟩ := q; cases e3; exact r.ex
  | un => cases h2
  | fr _ => cases h2
  | bw _ => cases h2
  | bo _ => cases h2
theorem Wd.out {sl : Slot} {v : V} (W : Wd K en Δ S G H) (g : Grow G H G' H') (q : Out K G H G' H' sl v) : Wd K en (Δ ++ [sl]) (S ++ [some v]) G' H' := by
  refine (W.grow g).more ?_ ?_
  · cases sl with
    | un => exact q.elim
    | fr d => exact ⟨v, rfl, q⟩
    | mu d =>
      obtain ⟨p, e, h1, h2, h3⟩ := q
      subst e
      exact ⟨p, rfl, h2, (W.fresh h1).2.1, (W.fresh h1).2.2, h3⟩
    | mp j d => exact q.elim
    | bw d => exact q.elim
    | bo i => exact q.elim
  · intro p j e1 e2 h1
    cases sl with
    | mu d =>
      obtain ⟨p', e, n1, n2, n3⟩ := q
      cases e2
      cases e
      obtain ⟨o, z⟩ := W.ownThere h1
      rw [n1] at z; cases z
    | un => cases e1
    | fr _ => cases e1
    | mp _ _ => exact q.elim
    | bw _ => cases e1
    | bo _ => cases e1
end
end BR

/-! K2: the judgements: a text against the rest of a plain run -/
namespace BR
open PySem PySem.Spec PyProof.Rows L2

def plainE : Expr → Bool
  | .Starred _ _ => false
  | _ => true
theorem star_plain {e : Expr} {rest : List Expr} {env : Env} (h : plainE e = true) : starEach (e :: rest) env = (false, eval e env) :: starEach rest env := by
  cases e <;> first | rfl | cases h
/-- a step that may have no answer -/
def op {α R : Type} (o : Option α) (k : α → Res R) : Res R := match o with
  | some a => k a
  | none => .bad
/-- the end of a part of a run: on with s, or the whole ends with r -/
inductive Flow (S R : Type) where
  | nx (s : S) | ex (r : R)
def fbind {S R : Type} (m : Res (Flow S R)) (k : S → Res R) : Res R := match m with
  | .ok (.nx s) => k s
  | .ok (.ex r) => .ok r
  | .raise x => .raise x
  | .bad => .bad

abbrev WE (X : Cx) (e : Expr) : TE := fun σ H Q => ∀ (pins : List (Addr × Obj)) (s : Shared), Inv X pins σ H s → wpAny (model X.prog X.w) X.A (eval e X.env) (EP X pins σ Q) X.xe s
theorem pe_we {X : Cx} {e : Expr} : PE X e (WE X e) := ⟨fun pins s _ _ _ I h => h pins s I⟩
theorem we_of {X : Cx} {e : Expr} {t : TE} (h : PE X e t) {σ : L2.St} {H : Hp} {Q : VK} (q : t σ H Q) : WE X e σ H Q := fun pins s I => h.run pins s σ H Q I q
abbrev WT (X : Cx) (e : Expr) : TT := fun σ H Q => ∀ (pins : List (Addr × Obj)) (s : Shared), Inv X pins σ H s → wpAny (model X.prog X.w) X.A (isTrue e X.env (eval e X.env)) (TP X pins σ Q) X.xe s
theorem pt_wt {X : Cx} {e : Expr} : PT X e (WT X e) := ⟨fun pins s _ _ _ I h => h pins s I⟩
theorem wt_of {X : Cx} {e : Expr} {t : TT} (h : PT X e t) {σ : L2.St} {H : Hp} {Q : Bool → Hp → Prop} (q : t σ H Q) : WT X e σ H Q := fun pins s I => h.run pins s σ H Q I q
abbrev WA (X : Cx) (es : List Expr) : TA := fun σ H Q => ∀ (pos : Pos) (pins : List (Addr × Obj)) (s : Shared), Inv X pins σ H s → wpAny (model X.prog X.w) X.A (spliced (backTo pos (starEach es X.env))) (AP X pins σ Q) X.xe s
theorem pa_wa {X : Cx} {es : List Expr} : PA X es (WA X es) := ⟨fun pos pins s _ _ _ I h => h pos pins s I⟩
theorem wa_of {X : Cx} {es : List Expr} {t : TA} (h : PA X es t) {σ : L2.St} {H : Hp} {Q : List V → Hp → Prop} (q : t σ H Q) : WA X es σ H Q := fun pos pins s I => h.run pos pins s σ H Q I q
abbrev WS (X : Cx) (st : Stmt) : TS := fun D σ H => ∀ (pins : List (Addr × Obj)) (s : Shared), Inv X pins σ H s → wpAny (model X.prog X.w) X.A (exec st X.env) (SP X pins D) X.xe s
theorem ps_ws {X : Cx} {st : Stmt} : PS X st (WS X st) := ⟨fun pins s _ _ _ I h => h pins s I⟩
theorem ws_of {X : Cx} {st : Stmt} {t : TS} (h : PS X st t) {σ : L2.St} {H : Hp} {D : Ends} (q : t D σ H) : WS X st D σ H := fun pins s I => h.run pins s σ H D I q
abbrev WSs (X : Cx) (st : List Stmt) : TS := fun D σ H => ∀ (pins : List (Addr × Obj)) (s : Shared), Inv X pins σ H s → wpAny (model X.prog X.w) X.A (execs st X.env) (SP X pins D) X.xe s
theorem pss_wss {X : Cx} {st : List Stmt} : PSs X st (WSs X st) := ⟨fun pins s _ _ _ I h => h pins s I⟩
theorem wss_of {X : Cx} {st : List Stmt} {t : TS} (h : PSs X st t) {σ : L2.St} {H : Hp} {D : Ends} (q : t D σ H) : WSs X st D σ H := fun pins s I => h.run pins s σ H D I q
abbrev WG (X : Cx) (tg : Expr) : TG := fun v σ H Q => ∀ (pins : List (Addr × Obj)) (s : Shared) (u : Value), Inv X pins σ H s → RelV v u → wpAny (model X.prog X.w) X.A (assign tg X.env u) (fun _ s' => ∃ σ' H', Inv X pins σ' H' s' ∧ Q σ' H') X.xe s
theorem pg_wg {X : Cx} {tg : Expr} : PG X tg (WG X tg) := ⟨fun pins s _ _ _ u _ I r h => h pins s u I r⟩
abbrev WI (X : Cx) (tg iter : Expr) : TI := fun σ H R => ∀ (pins : List (Addr × Obj)) (s : Shared), Inv X pins σ H s →
  wpAny (model X.prog X.w) X.A (eval iter X.env) (fun v s1 => wpAny (model X.prog X.w) X.A (pyIter v) (PIE X pins σ tg R) X.xe s1) X.xe s
theorem pi_wi {X : Cx} {tg iter : Expr} : PI X tg iter (WI X tg iter) := ⟨fun pins s _ _ _ I h => h pins s I⟩
theorem wi_of {X : Cx} {tg iter : Expr} {t : TI} (h : PI X tg iter t) {σ : L2.St} {H : Hp} {R : It → Hp → Prop} (q : t σ H R) : WI X tg iter σ H R := fun pins s I => h.run pins s σ H R I q

/-- the data that a thing at hand may be read as -/
def Slot.rd (δ : List Slot) : Slot → Option D
  | .fr d => some d
  | .mu d => some d
  | .mp _ d => some d
  | .bw d => some d
  | .bo i => match δ[i]? with
    | some (.mu d) => some d
    | some (.mp _ d) => some d
    | _ => none
  | .un => none

section
variable (X : Cx) (en : Kn)
/-- an expression: δ the names, τ what is at hand; C tells of its slot, the names behind it and the rest of the plain run -/
structure JE (δ τ : List Slot) (e : Expr) {R : Type} (C : Slot → List Slot → Res R → Prop) (m : Res R) : Prop where
  run : m ≠ .bad → en.HX m.exc → ∀ (σ ts : L2.St) (G H : Hp) (T : VK), δ.length = en.n → σ.length = en.n → Wd X.K en (δ ++ τ) (σ ++ ts) G H →
    (∀ sl δ' v G' H', C sl δ' m → δ'.length = en.n → Wd X.K en (δ' ++ τ ++ [sl]) (σ ++ ts ++ [some v]) G' H' → T v H') → WE X e σ H T
/-- a test -/
structure JT (δ τ : List Slot) (e : Expr) {R : Type} (C : Bool → List Slot → Res R → Prop) (m : Res R) : Prop where
  run : m ≠ .bad → en.HX m.exc → ∀ (σ ts : L2.St) (G H : Hp) (T : Bool → Hp → Prop), δ.length = en.n → σ.length = en.n → Wd X.K en (δ ++ τ) (σ ++ ts) G H →
    (∀ b δ' G' H', C b δ' m → δ'.length = en.n → Wd X.K en (δ' ++ τ) (σ ++ ts) G' H' → T b H') → WT X e σ H T
/-- arguments, from the left -/
structure JA (δ τ : List Slot) (es : List Expr) {R : Type} (C : List Slot → List Slot → Res R → Prop) (m : Res R) : Prop where
  run : m ≠ .bad → en.HX m.exc → ∀ (σ ts : L2.St) (G H : Hp) (T : List V → Hp → Prop), δ.length = en.n → σ.length = en.n → Wd X.K en (δ ++ τ) (σ ++ ts) G H →
    (∀ sls δ' vs G' H', C sls δ' m → δ'.length = en.n → Wd X.K en (δ' ++ τ ++ sls) (σ ++ ts ++ vs.map some) G' H' → T vs H') → WA X es σ H T
/-- a statement: N the way on, RT a return, BK a break, CT a continue -/
structure JS (δ : List Slot) (st : Stmt) {R : Type} (N : List Slot → Res R → Prop) (RT : Slot → List Slot → Res R → Prop) (BK CT : List Slot → Res R → Prop) (m : Res R) : Prop where
  run : m ≠ .bad → en.HX m.exc → ∀ (σ : L2.St) (G H : Hp) (E : Ends), δ.length = en.n → Wd X.K en δ σ G H →
    (∀ δ' σ' G' H', N δ' m → δ'.length = en.n → Wd X.K en δ' σ' G' H' → E.nx σ' H') →
    (∀ sl δ' v σ' G' H', RT sl δ' m → δ'.length = en.n → Wd X.K en (δ' ++ [sl]) (σ' ++ [some v]) G' H' → E.rt v H') →
    (∀ δ' σ' G' H', BK δ' m → δ'.length = en.n → Wd X.K en δ' σ' G' H' → E.bk σ' H') →
    (∀ δ' σ' G' H', CT δ' m → δ'.length = en.n → Wd X.K en δ' σ' G' H' → E.ct σ' H') → WS X st E σ H
structure JSs (δ : List Slot) (st : List Stmt) {R : Type} (N : List Slot → Res R → Prop) (RT : Slot → List Slot → Res R → Prop) (BK CT : List Slot → Res R → Prop) (m : Res R) : Prop where
  run : m ≠ .bad → en.HX m.exc → ∀ (σ : L2.St) (G H : Hp) (E : Ends), δ.length = en.n → Wd X.K en δ σ G H →
    (∀ δ' σ' G' H', N δ' m → δ'.length = en.n → Wd X.K en δ' σ' G' H' → E.nx σ' H') →
    (∀ sl δ' v σ' G' H', RT sl δ' m → δ'.length = en.n → Wd X.K en (δ' ++ [sl]) (σ' ++ [some v]) G' H' → E.rt v H') →
    (∀ δ' σ' G' H', BK δ' m → δ'.length = en.n → Wd X.K en δ' σ' G' H' → E.bk σ' H') →
    (∀ δ' σ' G' H', CT δ' m → δ'.length = en.n → Wd X.K en δ' σ' G' H' → E.ct σ' H') → WSs X st E σ H
end

section
variable {X : Cx} {en : Kn} {δ τ : List Slot} {R : Type} {C : Slot → List Slot → Res R → Prop} {m : Res R}

theorem Wd.splitLen {K : PySem.W.Frag} {σ ts : L2.St} {G H : Hp} (W : Wd K en (δ ++ τ) (σ ++ ts) G H) (h : δ.length = σ.length) : τ.length = ts.length := by
  have := W.len
  rw [List.length_append, List.length_append] at this
  omega
/-- the slot and the value of a thing at hand -/
theorem Wd.at {K : PySem.W.Frag} {Δ : List Slot} {S : L2.St} {G H : Hp} (W : Wd K en Δ S G H) {i : Nat} {sl : Slot} (h : Δ[i]? = some sl) : ∃ o, S[i]? = some o ∧ SlotOk K en S G H sl o := by
  have hi : i < S.length := by rw [← W.len]; exact (List.getElem?_eq_some_iff.mp h).1
  exact ⟨S[i], List.getElem?_eq_getElem hi, W.slot i sl _ h (List.getElem?_eq_getElem hi)⟩
/-- the names that are known at the front -/
theorem Wd.name {K : PySem.W.Frag} {σ ts : L2.St} {G H : Hp} (W : Wd K en (δ ++ τ) (σ ++ ts) G H) (hl : δ.length = σ.length) {i : Nat} {sl : Slot} (h : δ[i]? = some sl) : ∃ o, σ[i]? = some o ∧ SlotOk K en (σ ++ ts) G H sl o := by
  have hi := (List.getElem?_eq_some_iff.mp h).1
  obtain ⟨o, h1, h2⟩ := W.at (i := i) (by rw [List.getElem?_append_left hi]; exact h)
  rw [List.getElem?_append_left (by omega)] at h1
  exact ⟨o, h1, h2⟩
/-- a thing read -/
theorem Wd.read {K : PySem.W.Frag} {σ us : L2.St} {G H : Hp} {Δ2 : List Slot} {sl : Slot} {d : D} (W : Wd K en (δ ++ Δ2) (σ ++ us) G H) (hl : δ.length = σ.length) {v : V} (h : SlotOk K en (σ ++ us) G H sl (some v)) (r : sl.rd δ = some d) : VRep K G H d v := by
  cases sl with
  | un => cases r
  | fr e =>
    cases r
    obtain ⟨u, e, q⟩ := h
    cases e
    exact VRep.of W.sub q
  | mu e =>
    cases r
    obtain ⟨p, e, _, _, _, q⟩ := h
    cases e
    exact q.v
  | mp j e =>
    cases r
    obtain ⟨p, e, _, _, _, q⟩ := h
    cases e
    exact q.v
  | bw e =>
    cases r
    obtain ⟨u, e, q⟩ := h
    cases e
    exact BRep.vv W.sub W.frm q
  | bo i =>
    obtain ⟨_, h1, p, e⟩ := h
    cases e
    have r' : (match δ[i]? with | some (Slot.mu d) => some d | some (Slot.mp _ d) => some d | _ => none) = some d := r
    split at r'
    · rename_i e2
      cases r'
      obtain ⟨o, h2, h3⟩ := W.at (i := i) (by rw [List.getElem?_append_left (List.getElem?_eq_some_iff.mp e2).1]; exact e2)
      rw [h1] at h2
      cases h2
      obtain ⟨p', e3, _, _, _, q⟩ := h3
      cases e3
      exact q.v
    · rename_i e2
      cases r'
      obtain ⟨o, h2, h3⟩ := W.at (i := i) (by rw [List.getElem?_append_left (List.getElem?_eq_some_iff.mp e2).1]; exact e2)
      rw [h1] at h2
      cases h2
      obtain ⟨p', e3, _, _, _, q⟩ := h3
      cases e3
      exact q.v
    · cases r'

/-- a name -/
theorem je_fr (i : Nat) {x : Str} {pos : Pos} {d : D} (hs : δ[i]? = some (.fr d)) (h : C (.fr d) δ m) (hN : X.N[i]? = some x := by rfl) (hv : Vis X.env.scope x := by first | exact Or.inl rfl | exact Or.inr (Or.inl rfl) | exact Or.inr (Or.inr rfl))
    (hd : (x == ("__debug__" : Str)) = false := by decide) (hcd : (x == ("__classdict__" : Str)) = false := by decide) : JE X en δ τ (.Name x pos) C m := .mk fun hb hx σ ts G H T hl hσ W k => by
  obtain ⟨o, h1, v, e, q⟩ := W.name (hl.trans hσ.symm) hs
  subst e
  exact we_of (pe_var hN hv hd hcd) ⟨v, h1, k _ _ v G H h hl (W.out (Grow.refl W.sub) q)⟩
theorem je_bw (i : Nat) {x : Str} {pos : Pos} {d : D} (hs : δ[i]? = some (.bw d)) (h : C (.bw d) δ m) (hN : X.N[i]? = some x := by rfl) (hv : Vis X.env.scope x := by first | exact Or.inl rfl | exact Or.inr (Or.inl rfl) | exact Or.inr (Or.inr rfl))
    (hd : (x == ("__debug__" : Str)) = false := by decide) (hcd : (x == ("__classdict__" : Str)) = false := by decide) : JE X en δ τ (.Name x pos) C m := .mk fun hb hx σ ts G H T hl hσ W k => by
  obtain ⟨o, h1, v, e, q⟩ := W.name (hl.trans hσ.symm) hs
  subst e
  exact we_of (pe_var hN hv hd hcd) ⟨v, h1, k _ _ v G H h hl (W.more ⟨v, rfl, q⟩ (fun _ _ z => nomatch z))⟩
theorem je_bo (i : Nat) {x : Str} {pos : Pos} {sl : Slot} (hs : δ[i]? = some sl) (hm : (∃ d, sl = .mu d) ∨ ∃ j d, sl = .mp j d) (h : C (.bo i) δ m) (hN : X.N[i]? = some x := by rfl) (hv : Vis X.env.scope x := by first | exact Or.inl rfl | exact Or.inr (Or.inl rfl) | exact Or.inr (Or.inr rfl))
    (hd : (x == ("__debug__" : Str)) = false := by decide) (hcd : (x == ("__classdict__" : Str)) = false := by decide) : JE X en δ τ (.Name x pos) C m := .mk fun hb hx σ ts G H T hl hσ W k => by
  obtain ⟨o, h1, q⟩ := W.name (hl.trans hσ.symm) hs
  obtain ⟨p, e⟩ : ∃ p, o = some (V.ref p) := by
    rcases hm with ⟨d, e⟩ | ⟨j, d, e⟩
    · subst e; obtain ⟨p, e, _⟩ := q; exact ⟨p, e⟩
    · subst e; obtain ⟨p, e, _⟩ := q; exact ⟨p, e⟩
  subst e
  refine we_of (pe_var hN hv hd hcd) ⟨_, h1, k _ _ _ G H h hl (W.more ⟨?_, ?_, p, rfl⟩ (fun _ _ z => nomatch z))⟩
  · have hi := (List.getElem?_eq_some_iff.mp hs).1
    omega
  · have hi := (List.getElem?_eq_some_iff.mp h1).1
    rw [List.append_assoc, List.getElem?_append_left hi]
    exact h1
/-- constants -/
theorem je_int {i : Int} {j pos} (h : C (.fr (.int i)) δ m) : JE X en δ τ (.Constant (.int i) j pos) C m := .mk fun hb hx σ ts G H T hl hσ W k =>
  we_of pe_int (k _ _ _ G H h hl (W.out (Grow.refl W.sub) (show Rep _ _ _ _ from rfl)))
theorem je_bl {i : Bool} {j pos} (h : C (.fr (.bl i)) δ m) : JE X en δ τ (.Constant (.bool i) j pos) C m := .mk fun hb hx σ ts G H T hl hσ W k =>
  we_of pe_bl (k _ _ _ G H h hl (W.out (Grow.refl W.sub) (show Rep _ _ _ _ from rfl)))
theorem je_non {j pos} (h : C (.fr .non) δ m) : JE X en δ τ (.Constant .none j pos) C m := .mk fun hb hx σ ts G H T hl hσ W k =>
  we_of pe_non (k _ _ _ G H h hl (W.out (Grow.refl W.sub) (show Rep _ _ _ _ from rfl)))
theorem je_str {i : Str} {j pos} (h : C (.fr (.str i)) δ m) : JE X en δ τ (.Constant (.str i) j pos) C m := .mk fun hb hx σ ts G H T hl hσ W k =>
  we_of pe_str (k _ _ _ G H h hl (W.out (Grow.refl W.sub) (show Rep _ _ _ _ from rfl)))

/-! ### the last things at hand -/
theorem getElem?_last {α : Type} {l : List α} {a : α} : (l ++ [a])[l.length]? = some a := by
  rw [List.getElem?_append_right (Nat.le_refl _), Nat.sub_self]; rfl
/-- the last thing at hand -/
theorem Wd.last {K : PySem.W.Frag} {Δ : List Slot} {S : L2.St} {G H : Hp} {sl : Slot} {u : Option V} (W : Wd K en (Δ ++ [sl]) (S ++ [u]) G H) : SlotOk K en (S ++ [u]) G H sl u := by
  have hl : Δ.length = S.length := by
    have := W.len
    rw [List.length_append, List.length_append] at this
    exact Nat.add_right_cancel this
  exact W.slot Δ.length sl u getElem?_last (by rw [hl]; exact getElem?_last)
/-- a list of things forgotten; what stays may not lean on them -/
theorem Wd.cut {K : PySem.W.Frag} {Δ Ξ : List Slot} {S us : L2.St} {G H : Hp} (W : Wd K en (Δ ++ Ξ) (S ++ us) G H) (hl : Δ.length = S.length) (nb : en.n ≤ S.length) : Wd K en Δ S G H where
  len := hl
  sub := W.sub
  ext := W.ext
  new := W.new
  frm := W.frm
  stay := W.stay
  nd := W.nd
  slot := fun i s o h1 h2 => by
    have hi := (List.getElem?_eq_some_iff.mp h1).1
    have q := W.slot i s o (by rw [List.getElem?_append_left hi]; exact h1) (by rw [List.getElem?_append_left (by omega)]; exact h2)
    cases s with
    | un => trivial
    | fr d => exact q
    | mu d => exact q
    | mp j d => exact q
    | bw d => exact q
    | bo j =>
      obtain ⟨h0, h3, h4⟩ := q
      refine ⟨h0, ?_, h4⟩
      rw [List.getElem?_append_left (by omega)] at h3
      exact h3
  apart := fun i j p h1 h2 => by
    have key : ∀ (i : Nat), Own Δ S i p → Own (Δ ++ Ξ) (S ++ us) i p := fun i ⟨sl, e1, e2, e3⟩ =>
      ⟨sl, by rw [List.getElem?_append_left (List.getElem?_eq_some_iff.mp e1).1]; exact e1, e2, by rw [List.getElem?_append_left (List.getElem?_eq_some_iff.mp e3).1]; exact e3⟩
    exact W.apart i j p (key i h1) (key j h2)
end
end BR

/-! K3: operations by values, displays, tests, small statements -/
namespace BR
open PySem PySem.Spec PyProof.Rows L2

def VReps (K : PySem.W.Frag) (G H : Hp) : List D → List V → Prop
  | [], vs => vs = []
  | d :: ds, vs => ∃ v r, vs = v :: r ∧ VRep K G H d v ∧ VReps K G H ds r
/-- the data of several things at hand -/
def rds (δ : List Slot) : List Slot → Option (List D)
  | [] => some []
  | s :: r => match s.rd δ, rds δ r with
    | some d, some ds => some (d :: ds)
    | _, _ => none
theorem VReps.sub {K : PySem.W.Frag} {G G' H H' : Hp} (g : Sub G G') (s : Sub H H') : ∀ {ds : List D} {vs : List V}, VReps K G H ds vs → VReps K G' H' ds vs
  | [], _, h => h
  | d :: ds, _, h => by
    obtain ⟨v, r, e, h1, h2⟩ := h
    exact ⟨v, r, e, VRep.sub g s h1, VReps.sub g s h2⟩

section
variable {X : Cx} {en : Kn} {δ τ : List Slot} {R : Type} {C : Slot → List Slot → Res R → Prop} {m : Res R} {K : PySem.W.Frag}

/-- all of the last things at hand read -/
theorem Wd.reads {σ us : L2.St} {G H : Hp} {Δ2 : List Slot} (W : Wd K en (δ ++ Δ2) (σ ++ us) G H) (hl : δ.length = σ.length) : ∀ {sls : List Slot} {vs : List V} {ds : List D},
    (∀ (i : Nat) sl v, sls[i]? = some sl → vs[i]? = some v → SlotOk K en (σ ++ us) G H sl (some v)) → sls.length = vs.length → rds δ sls = some ds → VReps K G H ds vs
  | [], [], ds, _, _, h => by cases h; rfl
  | [], _ :: _, _, _, h, _ => nomatch h
  | _ :: _, [], _, _, h, _ => nomatch h
  | s :: sls, v :: vs, ds, q, hn, h => by
    unfold rds at h
    split at h
    · rename_i d ds' e1 e2
      cases h
      exact ⟨v, vs, rfl, W.read hl (q 0 s v rfl rfl) e1, Wd.reads W hl (fun i sl v h1 h2 => q (i + 1) sl v (by simpa using h1) (by simpa using h2)) (by simpa using hn) e2⟩
    · cases h
/-- the things at the end -/
theorem Wd.ends {σ ts : L2.St} {vs : List V} {G H : Hp} {sls : List Slot} {ds : List D} (W : Wd K en (δ ++ τ ++ sls) (σ ++ ts ++ vs.map some) G H) (hl : δ.length = σ.length) (ht : τ.length = ts.length) (r : rds δ sls = some ds) :
    VReps K G H ds vs ∧ (∀ hn : en.n ≤ σ.length, Wd K en (δ ++ τ) (σ ++ ts) G H) := by
  refine ⟨?_, fun hn => W.cut (by rw [List.length_append, List.length_append]; omega) (by rw [List.length_append]; omega)⟩
  have W' : Wd K en (δ ++ (τ ++ sls)) (σ ++ (ts ++ vs.map some)) G H := by rw [← List.append_assoc, ← List.append_assoc]; exact W
  refine W'.reads hl (fun i sl v h1 h2 => ?_) ?_ r
  · have hi := (List.getElem?_eq_some_iff.mp h1).1
    have hj := (List.getElem?_eq_some_iff.mp h2).1
    have e1 : (δ ++ τ ++ sls)[(δ ++ τ).length + i]? = some sl := by
      rw [List.getElem?_append_right (Nat.le_add_right _ _), Nat.add_sub_cancel_left]; exact h1
    have e2 : (σ ++ ts ++ vs.map some)[(δ ++ τ).length + i]? = some (some v) := by
      have z : (δ ++ τ).length = (σ ++ ts).length := by rw [List.length_append, List.length_append]; omega
      rw [z, List.getElem?_append_right (Nat.le_add_right _ _), Nat.add_sub_cancel_left, List.getElem?_map, h2]; rfl
    have := W.slot _ _ _ e1 e2
    rw [← List.append_assoc]
    exact this
  · have := W.len
    simp only [List.length_append, List.length_map] at this
    omega

/-! ### operations by values -/
def OpD (X : Cx) (f : Value → Value → Sem Value) (g : D → D → Option D) (rs : D → Slot) : Prop :=
  ∀ d1 d2 d, g d1 d2 = some d → ∀ (pins : List (Addr × Obj)) (s : Shared) (σ : L2.St) (G H : Hp) (v1 v2 : V) (u1 u2 : Value) (Q : VK), Inv X pins σ H s → Sub G H → VRep X.K G H d1 v1 → VRep X.K G H d2 v2 → RelV v1 u1 → RelV v2 u2 →
    (∀ v G' H', Grow G H G' H' → Out X.K G H G' H' (rs d) v → Q v H') → wpAny (model X.prog X.w) X.A (f u1 u2) (EP X pins σ Q) X.xe s
def UnD (X : Cx) (f : Value → Sem Value) (g : D → Option D) (rs : D → Slot) : Prop :=
  ∀ d1 d, g d1 = some d → ∀ (pins : List (Addr × Obj)) (s : Shared) (σ : L2.St) (G H : Hp) (v1 : V) (u1 : Value) (Q : VK), Inv X pins σ H s → Sub G H → VRep X.K G H d1 v1 → RelV v1 u1 →
    (∀ v G' H', Grow G H G' H' → Out X.K G H G' H' (rs d) v → Q v H') → wpAny (model X.prog X.w) X.A (f u1) (EP X pins σ Q) X.xe s
def IxD (X : Cx) (g : D → D → Option D) (rs : D → Slot) : Prop :=
  ∀ d1 d2 d, g d1 d2 = some d → ∀ (value slice : Expr) (pins : List (Addr × Obj)) (s : Shared) (σ : L2.St) (G H : Hp) (v1 v2 : V) (u1 u2 : Value) (Q : VK), Inv X pins σ H s → Sub G H → VRep X.K G H d1 v1 → VRep X.K G H d2 v2 → RelV v1 u1 → RelV v2 u2 →
    (∀ v G' H', Grow G H G' H' → Out X.K G H G' H' (rs d) v → Q v H') → subscripted slice false u1 u2 = operate [u1, u2] (getItem u1 u2) → wpAny (model X.prog X.w) X.A (subscriptTail value slice u1 u2) (EP X pins σ Q) X.xe s
def CallD (X : Cx) (f : Value) (g : List D → Option D) (rs : D → Slot) : Prop :=
  ∀ ds d, g ds = some d → ∀ (pins : List (Addr × Obj)) (s : Shared) (σ : L2.St) (G H : Hp) (vs : List V) (us : List Value) (Q : VK), Inv X pins σ H s → Sub G H → VReps X.K G H ds vs → Vals vs us →
    (∀ v G' H', Grow G H G' H' → Out X.K G H G' H' (rs d) v → Q v H') → wpAny (model X.prog X.w) X.A (call f us) (EP X pins σ Q) X.xe s
theorem opD_of {f : Value → Value → Sem Value} {r : R2} {g : D → D → Option D} {rs : D → Slot} (h : OpR X f r)
    (k : ∀ d1 d2 d, g d1 d2 = some d → ∀ (G H : Hp) (v1 v2 : V) (Q : VK), Sub G H → VRep X.K G H d1 v1 → VRep X.K G H d2 v2 → (∀ v G' H', Grow G H G' H' → Out X.K G H G' H' (rs d) v → Q v H') → r v1 v2 H Q) : OpD X f g rs :=
  fun d1 d2 d e pins s σ G H v1 v2 u1 u2 Q I sb r1 r2 q1 q2 hq => h pins s σ H v1 v2 u1 u2 Q I q1 q2 (k d1 d2 d e G H v1 v2 Q sb r1 r2 hq)
theorem unD_of {f : Value → Sem Value} {r : V → Hp → VK → Prop} {g : D → Option D} {rs : D → Slot} (h : UnR X f r)
    (k : ∀ d1 d, g d1 = some d → ∀ (G H : Hp) (v1 : V) (Q : VK), Sub G H → VRep X.K G H d1 v1 → (∀ v G' H', Grow G H G' H' → Out X.K G H G' H' (rs d) v → Q v H') → r v1 H Q) : UnD X f g rs :=
  fun d1 d e pins s σ G H v1 u1 Q I sb r1 q1 hq => h pins s σ H v1 u1 Q I q1 (k d1 d e G H v1 Q sb r1 hq)
theorem ixD_of {r : R2} {g : D → D → Option D} {rs : D → Slot} (h : IxR X r)
    (k : ∀ d1 d2 d, g d1 d2 = some d → ∀ (G H : Hp) (v1 v2 : V) (Q : VK), Sub G H → VRep X.K G H d1 v1 → VRep X.K G H d2 v2 → (∀ v G' H', Grow G H G' H' → Out X.K G H G' H' (rs d) v → Q v H') → r v1 v2 H Q) : IxD X g rs :=
  fun d1 d2 d e value slice pins s σ G H v1 v2 u1 u2 Q I sb r1 r2 q1 q2 hq hs => h value slice pins s σ H v1 v2 u1 u2 Q I q1 q2 (k d1 d2 d e G H v1 v2 Q sb r1 r2 hq) hs
theorem callD_of {f : Value} {r : List V → Hp → VK → Prop} {g : List D → Option D} {rs : D → Slot} (h : CallR X f r)
    (k : ∀ ds d, g ds = some d → ∀ (G H : Hp) (vs : List V) (Q : VK), Sub G H → VReps X.K G H ds vs → (∀ v G' H', Grow G H G' H' → Out X.K G H G' H' (rs d) v → Q v H') → r vs H Q) : CallD X f g rs :=
  fun ds d e pins s σ G H vs us Q I sb r1 q1 hq => h pins s σ H vs us Q I q1 (k ds d e G H vs Q sb r1 hq)

theorem op_some {α : Type} {o : Option α} {k : α → Res R} (h : op o k ≠ .bad) : ∃ a, o = some a := by
  cases o with
  | none => exact (h rfl).elim
  | some a => exact ⟨a, rfl⟩

/-- a op b -/
theorem bin_core {a b : Expr} {f : Value → Value → Sem Value} {g : D → D → Option D} {rs : D → Slot} {e : Expr} (ho : OpD X f g rs)
    (rule : ∀ {r : R2} {ta tb : TE}, OpR X f r → PE X a ta → PE X b tb → PE X e (tOp r ta tb))
    (ha : JE X en δ τ a (fun s1 δ1 m1 => JE X en δ1 (τ ++ [s1]) b (fun s2 δ2 m2 => ∃ d1 d2 k, s1.rd δ2 = some d1 ∧ s2.rd δ2 = some d2 ∧ m2 = op (g d1 d2) k ∧ ∀ d, g d1 d2 = some d → C (rs d) δ2 (k d)) m1) m) : JE X en δ τ e C m := .mk fun hb hx σ ts G H T hl hσ W k => by
  refine we_of (rule (r := fun x y H Q => ∀ (pins : List (Addr × Obj)) (s : Shared) (σ : L2.St) (u1 u2 : Value), Inv X pins σ H s → RelV x u1 → RelV y u2 → wpAny (model X.prog X.w) X.A (f u1 u2) (EP X pins σ Q) X.xe s)
    (fun pins s σ H x y v u Q I r1 r2 h => h pins s σ v u I r1 r2) pe_we pe_we) ?_
  have ht : τ.length = ts.length := W.splitLen (hl.trans hσ.symm)
  refine ha.run hb hx σ ts G H _ hl hσ W fun s1 δ1 v1 G1 H1 c1 hl1 W1 => ?_
  rw [List.append_assoc, List.append_assoc] at W1
  refine c1.run hb hx σ (ts ++ [some v1]) G1 H1 _ hl1 hσ W1 fun s2 δ2 v2 G2 H2 c2 hl2 W2 => ?_
  obtain ⟨d1, d2, k', e1, e2, em, hk⟩ := c2
  have hb' := hb
  rw [em] at hb'
  obtain ⟨d, ed⟩ := op_some hb'
  have em' : m = k' d := by rw [em, ed]; rfl
  have W3 : Wd X.K en (δ2 ++ τ ++ [s1, s2]) (σ ++ ts ++ [v1, v2].map some) G2 H2 := by
    have := W2
    simp only [List.append_assoc, List.map_cons, List.map_nil, List.cons_append, List.nil_append] at this ⊢
    exact this
  obtain ⟨⟨_, _, ez, r1, _, _, ez2, r2, ez3⟩, Wn⟩ := W3.ends (hl2.trans hσ.symm) ht (ds := [d1, d2]) (by simp only [rds, e1, e2])
  cases ez
  cases ez2
  intro pins s σ' u1 u2 I q1 q2
  refine ho d1 d2 d ed pins s σ' G2 H2 v1 v2 u1 u2 T I W2.sub r1 r2 q1 q2 fun v G' H' gr out => ?_
  refine k (rs d) δ2 v G' H' ?_ hl2 ((Wn (by omega)).out gr out)
  have := hk d ed
  rw [← em'] at this
  exact this
theorem je_bin {op' : Operator} {g : D → D → Option D} {rs : D → Slot} {a b : Expr} {pos : Pos} (ho : OpD X (binaryOp op') g rs)
    (ha : JE X en δ τ a (fun s1 δ1 m1 => JE X en δ1 (τ ++ [s1]) b (fun s2 δ2 m2 => ∃ d1 d2 k, s1.rd δ2 = some d1 ∧ s2.rd δ2 = some d2 ∧ m2 = op (g d1 d2) k ∧ ∀ d, g d1 d2 = some d → C (rs d) δ2 (k d)) m1) m) : JE X en δ τ (.BinOp a op' b pos) C m :=
  bin_core ho (fun h1 h2 h3 => pe_op h1 h2 h3) ha
/-- a comparison as a value -/
theorem je_cmp {op' : CmpOp} {g : D → D → Option D} {rs : D → Slot} {a b : Expr} {pos : Pos} (ho : OpD X (compareOp op') g rs) (hm : behindInMarks op' b = false)
    (ha : JE X en δ τ a (fun s1 δ1 m1 => JE X en δ1 (τ ++ [s1]) b (fun s2 δ2 m2 => ∃ d1 d2 k, s1.rd δ2 = some d1 ∧ s2.rd δ2 = some d2 ∧ m2 = op (g d1 d2) k ∧ ∀ d, g d1 d2 = some d → C (rs d) δ2 (k d)) m1) m) : JE X en δ τ (.Compare a [op'] [b] pos) C m :=
  bin_core ho (fun h1 h2 h3 => pe_cmpR h1 h2 h3 hm) ha
/-- a[b] -/
theorem je_ix {g : D → D → Option D} {rs : D → Slot} {a b : Expr} {pos : Pos} (ho : IxD X g rs) (hs : PlainIx b)
    (ha : JE X en δ τ a (fun s1 δ1 m1 => JE X en δ1 (τ ++ [s1]) b (fun s2 δ2 m2 => ∃ d1 d2 k, s1.rd δ2 = some d1 ∧ s2.rd δ2 = some d2 ∧ m2 = op (g d1 d2) k ∧ ∀ d, g d1 d2 = some d → C (rs d) δ2 (k d)) m1) m) : JE X en δ τ (.Subscript a b pos) C m := .mk fun hb hx σ ts G H T hl hσ W k => by
  refine we_of (pe_ix (r := fun x y H Q => ∀ (value slice : Expr) (pins : List (Addr × Obj)) (s : Shared) (σ : L2.St) (u1 u2 : Value), Inv X pins σ H s → RelV x u1 → RelV y u2 → subscripted slice false u1 u2 = operate [u1, u2] (getItem u1 u2) → wpAny (model X.prog X.w) X.A (subscriptTail value slice u1 u2) (EP X pins σ Q) X.xe s)
    (fun value slice pins s σ H x y v u Q I r1 r2 h hs => h value slice pins s σ v u I r1 r2 hs) pe_we pe_we hs) ?_
  have ht : τ.length = ts.length := W.splitLen (hl.trans hσ.symm)
  refine ha.run hb hx σ ts G H _ hl hσ W fun s1 δ1 v1 G1 H1 c1 hl1 W1 => ?_
  rw [List.append_assoc, List.append_assoc] at W1
  refine c1.run hb hx σ (ts ++ [some v1]) G1 H1 _ hl1 hσ W1 fun s2 δ2 v2 G2 H2 c2 hl2 W2 => ?_
  obtain ⟨d1, d2, k', e1, e2, em, hk⟩ := c2
  have hb' := hb
  rw [em] at hb'
  obtain ⟨d, ed⟩ := op_some hb'
  have em' : m = k' d := by rw [em, ed]; rfl
  have W3 : Wd X.K en (δ2 ++ τ ++ [s1, s2]) (σ ++ ts ++ [v1, v2].map some) G2 H2 := by
    have := W2
    simp only [List.append_assoc, List.map_cons, List.map_nil, List.cons_append, List.nil_append] at this ⊢
    exact this
  obtain ⟨⟨_, _, ez, r1, _, _, ez2, r2, ez3⟩, Wn⟩ := W3.ends (hl2.trans hσ.symm) ht (ds := [d1, d2]) (by simp only [rds, e1, e2])
  cases ez
  cases ez2
  intro value slice pins s σ' u1 u2 I q1 q2 hs
  refine ho d1 d2 d ed value slice pins s σ' G2 H2 v1 v2 u1 u2 T I W2.sub r1 r2 q1 q2 (fun v G' H' gr out => ?_) hs
  refine k (rs d) δ2 v G' H' ?_ hl2 ((Wn (by omega)).out gr out)
  have := hk d ed
  rw [← em'] at this
  exact this
theorem je_un {op' : UnaryOp} {g : D → Option D} {rs : D → Slot} {a : Expr} {pos : Pos} (ho : UnD X (unaryOp op') g rs)
    (ha : JE X en δ τ a (fun s1 δ1 m1 => ∃ d1 k, s1.rd δ1 = some d1 ∧ m1 = op (g d1) k ∧ ∀ d, g d1 = some d → C (rs d) δ1 (k d)) m) : JE X en δ τ (.UnaryOp op' a pos) C m := .mk fun hb hx σ ts G H T hl hσ W k => by
  refine we_of (pe_un (r := fun x H Q => ∀ (pins : List (Addr × Obj)) (s : Shared) (σ : L2.St) (u1 : Value), Inv X pins σ H s → RelV x u1 → wpAny (model X.prog X.w) X.A (unaryOp op' u1) (EP X pins σ Q) X.xe s)
    (fun pins s σ H x v Q I r1 h => h pins s σ v I r1) pe_we) ?_
  have ht : τ.length = ts.length := W.splitLen (hl.trans hσ.symm)
  refine ha.run hb hx σ ts G H _ hl hσ W fun s1 δ1 v1 G1 H1 c1 hl1 W1 => ?_
  obtain ⟨d1, k', e1, em, hk⟩ := c1
  have hb' := hb
  rw [em] at hb'
  obtain ⟨d, ed⟩ := op_some hb'
  have em' : m = k' d := by rw [em, ed]; rfl
  have W3 : Wd X.K en (δ1 ++ τ ++ [s1]) (σ ++ ts ++ [v1].map some) G1 H1 := W1
  obtain ⟨⟨_, _, ez, r1, _⟩, Wn⟩ := W3.ends (hl1.trans hσ.symm) ht (ds := [d1]) (by simp only [rds, e1])
  cases ez
  intro pins s σ' u1 I q1
  refine ho d1 d ed pins s σ' G1 H1 v1 u1 T I W1.sub r1 q1 fun v G' H' gr out => ?_
  refine k (rs d) δ1 v G' H' ?_ hl1 ((Wn (by omega)).out gr out)
  have := hk d ed
  rw [← em'] at this
  exact this

/-! ### arguments -/
theorem ja_nil {C : List Slot → List Slot → Res R → Prop} (h : C [] δ m) : JA X en δ τ [] C m := .mk fun hb hx σ ts G H T hl hσ W k =>
  wa_of pa_nil (k [] δ [] G H h hl (by rw [List.map_nil, List.append_nil, List.append_nil]; exact W))
theorem ja_cons {e : Expr} {es : List Expr} {C : List Slot → List Slot → Res R → Prop}
    (h : JE X en δ τ e (fun s1 δ1 m1 => JA X en δ1 (τ ++ [s1]) es (fun sls δ2 m2 => C (s1 :: sls) δ2 m2) m1) m) (hs : starEach (e :: es) X.env = (false, eval e X.env) :: starEach es X.env := by exact star_plain rfl) : JA X en δ τ (e :: es) C m := .mk fun hb hx σ ts G H T hl hσ W k => by
  refine wa_of (pa_cons pe_we pa_wa hs) ?_
  refine h.run hb hx σ ts G H _ hl hσ W fun s1 δ1 v1 G1 H1 c1 hl1 W1 => ?_
  rw [List.append_assoc, List.append_assoc] at W1
  refine c1.run hb hx σ (ts ++ [some v1]) G1 H1 _ hl1 hσ W1 fun sls δ2 vs G2 H2 c2 hl2 W2 => ?_
  refine k (s1 :: sls) δ2 (v1 :: vs) G2 H2 c2 hl2 ?_
  have := W2
  simp only [List.append_assoc, List.map_cons, List.cons_append, List.nil_append] at this ⊢
  exact this

/-! ### what is put among what stands fast -/
/-- a list of one's own is from now on one that stands fast -/
theorem Wd.fast {Δ : List Slot} {S : L2.St} {G H : Hp} (W : Wd K en Δ S G H) {i : Nat} {d : D} (h : Δ[i]? = some (.mu d)) : ∃ G', Wd K en (Δ.set i (.fr d)) S G' H ∧ Sub G G' := by
  obtain ⟨o, h1, p, e, n, f, f2, r⟩ := W.at h
  subst e
  obtain ⟨ob, ho⟩ := r.ex
  have hi := (List.getElem?_eq_some_iff.mp h).1
  have other : ∀ (j : Nat) sl, (Δ.set i (.fr d))[j]? = some sl → j ≠ i → Δ[j]? = some sl := fun j sl h3 hj => by
    rw [List.getElem?_set_ne (Ne.symm hj)] at h3; exact h3
  have nm : ∀ (j : Nat) d2 q, (Δ.set i (.fr d))[j]? = some (.mu d2) → S[j]? = some (some (V.ref q)) → j ≠ i ∧ Δ[j]? = some (.mu d2) ∧ q ≠ p := fun j d2 q h3 h4 => by
    have hj : j ≠ i := fun z => by
      subst z
      rw [List.getElem?_set_self hi] at h3; cases h3
    exact ⟨hj, other j _ h3 hj, fun z => by subst z; exact hj (W.apart j i q ⟨_, other j _ h3 hj, rfl, h4⟩ ⟨_, h, rfl, h1⟩)⟩
  refine ⟨upd G p ob, ⟨by rw [List.length_set]; exact W.len, fun a u e => ?_, W.ext.trans (Sub.upd n), fun a u e => ?_, W.frm, W.stay, W.nd, fun j sl u h3 h4 => ?_, fun j j' q h3 h4 => ?_⟩, Sub.upd n⟩
  · by_cases ha : a = p
    · subst ha; rw [upd_same] at e; cases e; exact ho
    · rw [upd_ne ha] at e; exact W.sub a u e
  · by_cases ha : a = p
    · subst ha; exact .inr ⟨f, f2⟩
    · rw [upd_ne ha] at e; exact W.new a u e
  · by_cases hj : j = i
    · subst hj
      rw [List.getElem?_set_self hi] at h3
      cases h3
      rw [h1] at h4
      cases h4
      exact ⟨_, rfl, r.freeze ho n⟩
    · have q := W.slot j sl u (other j sl h3 hj) h4
      cases sl with
      | un => trivial
      | fr d2 => obtain ⟨v, e, q⟩ := q; exact ⟨v, e, Rep.sub (Sub.upd n) _ _ q⟩
      | mu d2 =>
        obtain ⟨q1, e, n1, x1, x2, r1⟩ := q
        subst e
        obtain ⟨_, _, ne⟩ := nm j d2 q1 h3 h4
        exact ⟨q1, rfl, by rw [upd_ne ne]; exact n1, x1, x2, r1.keep (Sub.upd n) fun _ z => z⟩
      | mp l d2 =>
        obtain ⟨q1, e, x0, n1, x1, r1⟩ := q
        have ne : q1 ≠ p := fun z => by subst z; exact f2 (List.mem_of_getElem? x0)
        exact ⟨q1, e, x0, by rw [upd_ne ne]; exact n1, x1, r1.keep (Sub.upd n) fun _ z => z⟩
      | bw d2 => obtain ⟨v, e, q⟩ := q; exact ⟨v, e, BRep.sub (Sub.upd n) (Sub.refl _) q⟩
      | bo l => exact q
  · have key : ∀ (j : Nat), Own (Δ.set i (.fr d)) S j q → Own Δ S j q := fun j ⟨sl, e1, e2, e3⟩ => by
      refine ⟨sl, other j sl e1 fun z => ?_, e2, e3⟩
      subst z
      rw [List.getElem?_set_self hi] at e1
      cases e1; cases e2
    exact W.apart j j' q (key j h3) (key j' h4)
/-- a slot told less of -/
theorem Wd.forget {Δ : List Slot} {S : L2.St} {G H : Hp} (W : Wd K en Δ S G H) (i : Nat) : Wd K en (Δ.set i .un) S G H where
  len := by rw [List.length_set]; exact W.len
  sub := W.sub
  ext := W.ext
  new := W.new
  frm := W.frm
  stay := W.stay
  nd := W.nd
  slot := fun j sl u h3 h4 => by
    by_cases hj : j = i
    · subst hj
      have hi : j < Δ.length := by
        have := (List.getElem?_eq_some_iff.mp h3).1
        rw [List.length_set] at this; exact this
      rw [List.getElem?_set_self hi] at h3
      cases h3
      trivial
    · rw [List.getElem?_set_ne (Ne.symm hj)] at h3
      exact W.slot j sl u h3 h4
  apart := fun j j' q h3 h4 => by
    have key : ∀ (j : Nat), Own (Δ.set i .un) S j q → Own Δ S j q := fun j ⟨sl, e1, e2, e3⟩ => by
      refine ⟨sl, ?_, e2, e3⟩
      by_cases hj : j = i
      · subst hj
        have hi : j < Δ.length := by
          have := (List.getElem?_eq_some_iff.mp e1).1
          rw [List.length_set] at this; exact this
        rw [List.getElem?_set_self hi] at e1; cases e1; cases e2
      · rw [List.getElem?_set_ne (Ne.symm hj)] at e1; exact e1
    exact W.apart j j' q (key j h3) (key j' h4)
/-- what stands at hand last, put fast: e is followed by C of what stands fast -/
def Slot.fz : Slot → Slot
  | .mu d => .fr d
  | s => s
theorem je_fz {e : Expr} (h : JE X en δ τ e (fun s1 δ1 m1 => C s1.fz δ1 m1) m) : JE X en δ τ e C m := .mk fun hb hx σ ts G H T hl hσ W k => by
  refine h.run hb hx σ ts G H T hl hσ W fun sl δ' v G' H' c hl' W' => ?_
  cases sl with
  | mu d =>
    obtain ⟨G2, W2, _⟩ := W'.fast (i := (δ' ++ τ).length) (d := d) getElem?_last
    refine k (.fr d) δ' v G2 H' c hl' ?_
    rw [List.set_append_right _ _ (Nat.le_refl _), Nat.sub_self] at W2
    exact W2
  | un => exact k _ δ' v G' H' c hl' W'
  | fr d => exact k _ δ' v G' H' c hl' W'
  | mp j d => exact k _ δ' v G' H' c hl' W'
  | bw d => exact k _ δ' v G' H' c hl' W'
  | bo i => exact k _ δ' v G' H' c hl' W'
/-- a name's own list put fast, and told -/
theorem je_fzv (i : Nat) {x : Str} {pos : Pos} {d : D} (hs : δ[i]? = some (.mu d)) (h : C (.fr d) (δ.set i (.fr d)) m) (hN : X.N[i]? = some x := by rfl) (hv : Vis X.env.scope x := by first | exact Or.inl rfl | exact Or.inr (Or.inl rfl) | exact Or.inr (Or.inr rfl))
    (hd : (x == ("__debug__" : Str)) = false := by decide) (hcd : (x == ("__classdict__" : Str)) = false := by decide) : JE X en δ τ (.Name x pos) C m := .mk fun hb hx σ ts G H T hl hσ W k => by
  have hi := (List.getElem?_eq_some_iff.mp hs).1
  obtain ⟨G2, W2, _⟩ := W.fast (i := i) (d := d) (by rw [List.getElem?_append_left hi]; exact hs)
  rw [List.set_append_left _ _ hi] at W2
  have hl2 : (δ.set i (.fr d)).length = en.n := by rw [List.length_set]; exact hl
  obtain ⟨o, h1, v, e, q⟩ := W2.name (hl2.trans hσ.symm) (i := i) (sl := .fr d) (by rw [List.getElem?_set_self hi])
  subst e
  exact we_of (pe_var hN hv hd hcd) ⟨v, h1, k _ _ v G2 H h hl2 (W2.out (Grow.refl W2.sub) q)⟩
/-- a name's own list, told as a new one; the name is not known any more -/
theorem je_mv (i : Nat) {x : Str} {pos : Pos} {d : D} (hs : δ[i]? = some (.mu d)) (h : C (.mu d) (δ.set i .un) m) (hN : X.N[i]? = some x := by rfl) (hv : Vis X.env.scope x := by first | exact Or.inl rfl | exact Or.inr (Or.inl rfl) | exact Or.inr (Or.inr rfl))
    (hd : (x == ("__debug__" : Str)) = false := by decide) (hcd : (x == ("__classdict__" : Str)) = false := by decide) : JE X en δ τ (.Name x pos) C m := .mk fun hb hx σ ts G H T hl hσ W k => by
  have hi := (List.getElem?_eq_some_iff.mp hs).1
  have hs' : (δ ++ τ)[i]? = some (.mu d) := by rw [List.getElem?_append_left hi]; exact hs
  obtain ⟨o, h1, p, e, q⟩ := W.name (hl.trans hσ.symm) hs
  subst e
  have W2 := W.forget i
  rw [List.set_append_left _ _ hi] at W2
  have hl2 : (δ.set i .un).length = en.n := by rw [List.length_set]; exact hl
  refine we_of (pe_var hN hv hd hcd) ⟨_, h1, k _ _ _ G H h hl2 (W2.more ⟨p, rfl, q⟩ fun p2 j e1 e2 h3 => ?_)⟩
  cases e2
  have hσi : (σ ++ ts)[i]? = some (some (V.ref p)) := by rw [List.getElem?_append_left (List.getElem?_eq_some_iff.mp h1).1]; exact h1
  obtain ⟨sl, e4, e5, e6⟩ := h3
  by_cases hj : j = i
  · subst hj
    rw [List.getElem?_append_left (by rw [List.length_set]; exact hi), List.getElem?_set_self hi] at e4
    cases e4; cases e5
  · have h3' : (δ ++ τ)[j]? = some sl := by
      rw [← List.set_append_left _ _ hi, List.getElem?_set_ne (Ne.symm hj)] at e4
      exact e4
    exact hj (W.apart j i p ⟨sl, h3', e5, e6⟩ ⟨_, hs', rfl, hσi⟩)
end
end BR

/-! K4: displays, calls of what is built in, tests, and, or, not, joins -/
namespace BR
open PySem PySem.Spec PyProof.Rows L2

/-- the data of things that stand fast -/
def frs : List Slot → Option (List D)
  | [] => some []
  | .fr d :: r => (frs r).map (d :: ·)
  | _ :: _ => none

section
variable {X : Cx} {en : Kn} {δ τ : List Slot} {R : Type} {C : Slot → List Slot → Res R → Prop} {m : Res R} {K : PySem.W.Frag}

theorem Wd.frs {Δ : List Slot} {S : L2.St} {G H : Hp} : ∀ {sls : List Slot} {vs : List V} {ds : List D}, (∀ (i : Nat) sl v, sls[i]? = some sl → vs[i]? = some v → SlotOk K en S G H sl (some v)) → sls.length = vs.length → BR.frs sls = some ds → Reps K G ds vs
  | [], [], ds, _, _, h => by cases h; rfl
  | [], _ :: _, _, _, h, _ => nomatch h
  | _ :: _, [], _, _, h, _ => nomatch h
  | .fr d :: sls, v :: vs, ds, q, hn, h => by
    unfold BR.frs at h
    obtain ⟨ds', h1, h2⟩ := Option.map_eq_some_iff.mp h
    subst h2
    obtain ⟨v', e, r⟩ := q 0 _ v rfl rfl
    cases e
    exact ⟨v, vs, rfl, r, Wd.frs (Δ := Δ) (S := S) (H := H) (fun i sl v h3 h4 => q (i + 1) sl v (by simpa using h3) (by simpa using h4)) (by simpa using hn) h1⟩
  | .un :: _, _ :: _, _, _, _, h => by cases h
  | .mu _ :: _, _ :: _, _, _, _, h => by cases h
  | .mp _ _ :: _, _ :: _, _, _, _, h => by cases h
  | .bw _ :: _, _ :: _, _, _, _, h => by cases h
  | .bo _ :: _, _ :: _, _, _, _, h => by cases h
/-- the slots of the things at the end -/
theorem Wd.endSlots {σ ts : L2.St} {vs : List V} {G H : Hp} {sls : List Slot} (W : Wd K en (δ ++ τ ++ sls) (σ ++ ts ++ vs.map some) G H) (hl : δ.length = σ.length) (ht : τ.length = ts.length) :
    sls.length = vs.length ∧ ∀ (i : Nat) sl v, sls[i]? = some sl → vs[i]? = some v → SlotOk K en (σ ++ ts ++ vs.map some) G H sl (some v) := by
  refine ⟨?_, fun i sl v h1 h2 => ?_⟩
  · have := W.len
    simp only [List.length_append, List.length_map] at this
    omega
  · have e1 : (δ ++ τ ++ sls)[(δ ++ τ).length + i]? = some sl := by
      rw [List.getElem?_append_right (Nat.le_add_right _ _), Nat.add_sub_cancel_left]; exact h1
    have e2 : (σ ++ ts ++ vs.map some)[(δ ++ τ).length + i]? = some (some v) := by
      have z : (δ ++ τ).length = (σ ++ ts).length := by rw [List.length_append, List.length_append]; omega
      rw [z, List.getElem?_append_right (Nat.le_add_right _ _), Nat.add_sub_cancel_left, List.getElem?_map, h2]; rfl
    exact W.slot _ _ _ e1 e2

/-- a new thing laid that stands fast -/
theorem Wd.laidF {Δ : List Slot} {S : L2.St} {G H : Hp} (W : Wd K en Δ S G H) {p : Addr} {o : HO} (hp : H p = none) {d : D} (r : ∀ G', Sub G G' → G' p = some o → Rep K G' d (.ref p)) :
    Wd K en (Δ ++ [.fr d]) (S ++ [some (.ref p)]) (upd G p o) (upd H p o) := by
  have hg := (W.fresh hp).1
  refine W.out ⟨Sub.upd hg, Sub.upd hp, fun a u e => ?_, fun a u e => ?_⟩ (r _ (Sub.upd hg) upd_same)
  · by_cases ha : a = p
    · subst ha; rw [upd_same] at e ⊢; exact e
    · rw [upd_ne ha] at e ⊢; exact W.sub a u e
  · by_cases ha : a = p
    · subst ha; exact .inr hp
    · rw [upd_ne ha] at e; exact .inl e
/-- a tuple written -/
theorem je_tup {es : List Expr} {x1} {pos : Pos} (h : JA X en δ τ es (fun sls δ1 m1 => ∃ ds, frs sls = some ds ∧ sls.length.ble 1000 = true ∧ C (.fr (.tup ds)) δ1 m1) m) : JE X en δ τ (.Tuple es x1 pos) C m := .mk fun hb hx σ ts G H T hl hσ W k => by
  refine we_of (pe_tup pa_wa) ?_
  have ht : τ.length = ts.length := W.splitLen (hl.trans hσ.symm)
  refine h.run hb hx σ ts G H _ hl hσ W fun sls δ1 vs G1 H1 c1 hl1 W1 => ?_
  obtain ⟨ds, e, hz, c⟩ := c1
  obtain ⟨hn, q⟩ := W1.endSlots (hl1.trans hσ.symm) ht
  have hr : Reps X.K G1 ds vs := Wd.frs (Δ := δ) (H := H1) q hn e
  refine ⟨Nat.le_of_lt (small1000 (hn ▸ Nat.le_of_ble_eq_true hz)), fun p hp => ?_⟩
  have W2 := W1.cut (Δ := δ1 ++ τ) (S := σ ++ ts) (by rw [List.length_append, List.length_append]; omega) (by rw [List.length_append]; omega)
  exact k _ δ1 (.ref p) _ _ c hl1 (W2.laidF hp fun G' s e => ⟨p, vs, rfl, .inl (.inl e), Reps.sub s _ _ hr⟩)
/-- a list written: a new one -/
theorem je_lst {es : List Expr} {pos : Pos} (h : JA X en δ τ es (fun sls δ1 m1 => ∃ ds, frs sls = some ds ∧ sls.length.ble 1000 = true ∧ C (.mu (.lst ds)) δ1 m1) m) : JE X en δ τ (.List es pos) C m := .mk fun hb hx σ ts G H T hl hσ W k => by
  refine we_of (pe_lst pa_wa) ?_
  have ht : τ.length = ts.length := W.splitLen (hl.trans hσ.symm)
  refine h.run hb hx σ ts G H _ hl hσ W fun sls δ1 vs G1 H1 c1 hl1 W1 => ?_
  obtain ⟨ds, e, hz, c⟩ := c1
  obtain ⟨hn, q⟩ := W1.endSlots (hl1.trans hσ.symm) ht
  have hr : Reps X.K G1 ds vs := Wd.frs (Δ := δ) (H := H1) q hn e
  refine ⟨Nat.le_of_lt (small1000 (hn ▸ Nat.le_of_ble_eq_true hz)), fun p hp => ?_⟩
  have W2 := W1.cut (Δ := δ1 ++ τ) (S := σ ++ ts) (by rw [List.length_append, List.length_append]; omega) (by rw [List.length_append]; omega)
  have hg := (W2.fresh hp).1
  exact k _ δ1 (.ref p) G1 _ c hl1 (W2.out (Grow.laid W2.sub hp) ⟨p, rfl, hp, hg, vs, upd_same, hr⟩)

/-! ### what is built in -/
theorem call_core {e : Expr} {es : List Expr} {f : Value} {g : List D → Option D} {rs : D → Slot} (hc : CallD X f g rs) (rule : ∀ {r : List V → Hp → VK → Prop} {t : TA}, CallR X f r → PA X es t → PE X e (tCB r t))
    (h : JA X en δ τ es (fun sls δ1 m1 => ∃ ds k, rds δ1 sls = some ds ∧ m1 = op (g ds) k ∧ ∀ d, g ds = some d → C (rs d) δ1 (k d)) m) : JE X en δ τ e C m := .mk fun hb hx σ ts G H T hl hσ W k => by
  refine we_of (rule (r := fun vs H Q => ∀ (pins : List (Addr × Obj)) (s : Shared) (σ : L2.St) (us : List Value), Inv X pins σ H s → Vals vs us → wpAny (model X.prog X.w) X.A (call f us) (EP X pins σ Q) X.xe s)
    (fun pins s σ H xs us Q I r1 h => h pins s σ us I r1) pa_wa) ?_
  have ht : τ.length = ts.length := W.splitLen (hl.trans hσ.symm)
  refine h.run hb hx σ ts G H _ hl hσ W fun sls δ1 vs G1 H1 c1 hl1 W1 => ?_
  obtain ⟨ds, k', e1, em, hk⟩ := c1
  have hb' := hb
  rw [em] at hb'
  obtain ⟨d, ed⟩ := op_some hb'
  have em' : m = k' d := by rw [em, ed]; rfl
  obtain ⟨r1, Wn⟩ := W1.ends (hl1.trans hσ.symm) ht e1
  intro pins s σ' us I q1
  refine hc ds d ed pins s σ' G1 H1 vs us T I W1.sub r1 q1 fun v G' H' gr out => ?_
  refine k (rs d) δ1 v G' H' ?_ hl1 ((Wn (by omega)).out gr out)
  have := hk d ed
  rw [← em'] at this
  exact this
/-- f(..), a built-in function -/
theorem je_callB {x : Str} {p pos : Pos} {e : Expr} {es : List Expr} {id : String} {g : List D → Option D} {rs : D → Slot} (hc : CallD X (.builtin id) g rs) (hm : X.mg x = none)
    (h : JA X en δ τ (e :: es) (fun sls δ1 m1 => ∃ ds k, rds δ1 sls = some ds ∧ m1 = op (g ds) k ∧ ∀ d, g ds = some d → C (rs d) δ1 (k d)) m) (hv : bootBuiltins x = some (.builtin id) := by decide +kernel) (hg : Gl X x := by rfl)
    (hn : x ≠ "__name__" := by decide) (hdb : (x == ("__debug__" : Str)) = false := by decide)
    (he : starEach (e :: es) X.env = (false, eval e X.env) :: starEach es X.env := by exact star_plain rfl) (hpl : (backTo pos (starEach es X.env)).any (·.1) = false := by rfl) : JE X en δ τ (.Call (.Name x p) (e :: es) [] pos) C m :=
  call_core hc (fun h1 h2 => pe_callB h1 hg hm hv h2 hn hdb he hpl) h
theorem je_callTy {x : Str} {p pos : Pos} {e : Expr} {es : List Expr} {id : String} {g : List D → Option D} {rs : D → Slot} (hc : CallD X (.type id) g rs) (hm : X.mg x = none)
    (h : JA X en δ τ (e :: es) (fun sls δ1 m1 => ∃ ds k, rds δ1 sls = some ds ∧ m1 = op (g ds) k ∧ ∀ d, g ds = some d → C (rs d) δ1 (k d)) m) (hv : bootBuiltins x = some (.type id) := by decide +kernel) (hg : Gl X x := by rfl)
    (hn : x ≠ "__name__" := by decide) (hdb : (x == ("__debug__" : Str)) = false := by decide)
    (he : starEach (e :: es) X.env = (false, eval e X.env) :: starEach es X.env := by exact star_plain rfl) (hpl : (backTo pos (starEach es X.env)).any (·.1) = false := by rfl) : JE X en δ τ (.Call (.Name x p) (e :: es) [] pos) C m :=
  call_core hc (fun h1 h2 => pe_callTy h1 hg hm hv h2 hn hdb he hpl) h

/-! ### comparisons and tests -/
def CmpD (X : Cx) (f : Value → Value → Sem Value) (g : D → D → Option Bool) : Prop := OpD X f (fun a b => (g a b).map D.bl) Slot.fr
def kB {R : Type} (k : Bool → Res R) : D → Res R
  | .bl b => k b
  | _ => .bad
theorem op_kB {o : Option Bool} {k : Bool → Res R} : op o k = op (o.map D.bl) (kB k) := by cases o <;> rfl
/-- a comparison as a value -/
theorem je_cmpB {op' : CmpOp} {g : D → D → Option Bool} {a b : Expr} {pos : Pos} (ho : CmpD X (compareOp op') g) (hm : behindInMarks op' b = false)
    (ha : JE X en δ τ a (fun s1 δ1 m1 => JE X en δ1 (τ ++ [s1]) b (fun s2 δ2 m2 => ∃ d1 d2 k, s1.rd δ2 = some d1 ∧ s2.rd δ2 = some d2 ∧ m2 = op (g d1 d2) k ∧ ∀ d, C (.fr (.bl d)) δ2 (k d)) m1) m) : JE X en δ τ (.Compare a [op'] [b] pos) C m := by
  refine je_cmp ho hm (.mk fun hb hx σ ts G H T hl hσ W k => ha.run hb hx σ ts G H T hl hσ W fun s1 δ1 v1 G1 H1 c1 hl1 W1 => k s1 δ1 v1 G1 H1 ?_ hl1 W1)
  refine .mk fun hb hx σ ts G H T hl hσ W k => c1.run hb hx σ ts G H T hl hσ W fun s2 δ2 v2 G2 H2 c2 hl2 W2 => k s2 δ2 v2 G2 H2 ?_ hl2 W2
  obtain ⟨d1, d2, k', e1, e2, em, hk⟩ := c2
  refine ⟨d1, d2, kB k', e1, e2, em.trans op_kB, fun d ed => ?_⟩
  obtain ⟨b, _, eb⟩ := Option.map_eq_some_iff.mp ed
  subst eb
  exact hk b
/-- an expression whose value is True or False, as a test -/
theorem jt_of {C : Bool → List Slot → Res R → Prop} {e : Expr} (rule : PT X e (fun σ H Q => WE X e σ H fun x H' => ∃ k, TruV X.K x H' k ∧ Q k H'))
    (h : JE X en δ τ e (fun s1 δ1 m1 => ∃ b, s1 = .fr (.bl b) ∧ C b δ1 m1) m) : JT X en δ τ e C m := .mk fun hb hx σ ts G H T hl hσ W k => by
  refine wt_of rule ?_
  have ht : τ.length = ts.length := W.splitLen (hl.trans hσ.symm)
  refine h.run hb hx σ ts G H _ hl hσ W fun s1 δ1 v1 G1 H1 c1 hl1 W1 => ?_
  obtain ⟨b, e1, c⟩ := c1
  subst e1
  obtain ⟨v, e, r⟩ := W1.last
  cases e
  have r' : v1 = .bl b := r
  subst r'
  exact ⟨b, rfl, k b δ1 G1 H1 c hl1 (W1.cut (Δ := δ1 ++ τ) (S := σ ++ ts) (by rw [List.length_append, List.length_append]; omega) (by rw [List.length_append]; omega))⟩
/-- a comparison as a test -/
theorem jt_cmp {op' : CmpOp} {g : D → D → Option Bool} {a b : Expr} {pos : Pos} {C : Bool → List Slot → Res R → Prop} (ho : CmpD X (compareOp op') g) (hm : behindInMarks op' b = false)
    (ha : JE X en δ τ a (fun s1 δ1 m1 => JE X en δ1 (τ ++ [s1]) b (fun s2 δ2 m2 => ∃ d1 d2 k, s1.rd δ2 = some d1 ∧ s2.rd δ2 = some d2 ∧ m2 = op (g d1 d2) k ∧ ∀ d, C d δ2 (k d)) m1) m) : JT X en δ τ (.Compare a [op'] [b] pos) C m := by
  have h : JE X en δ τ (.Compare a [op'] [b] pos) (fun s1 δ1 m1 => ∃ b, s1 = .fr (.bl b) ∧ C b δ1 m1) m := by
    refine je_cmpB ho hm (.mk fun hb hx σ ts G H T hl hσ W k => ha.run hb hx σ ts G H T hl hσ W fun s1 δ1 v1 G1 H1 c1 hl1 W1 => k s1 δ1 v1 G1 H1 ?_ hl1 W1)
    refine .mk fun hb hx σ ts G H T hl hσ W k => c1.run hb hx σ ts G H T hl hσ W fun s2 δ2 v2 G2 H2 c2 hl2 W2 => k s2 δ2 v2 G2 H2 ?_ hl2 W2
    obtain ⟨d1, d2, k', e1, e2, em, hk⟩ := c2
    exact ⟨d1, d2, k', e1, e2, em, fun b => ⟨b, rfl, hk b⟩⟩
  refine .mk fun hb hx σ ts G H T hl hσ W k => ?_
  have ht : τ.length = ts.length := W.splitLen (hl.trans hσ.symm)
  refine wt_of (pt_cmpR (r := fun x y H Q => ∀ (pins : List (Addr × Obj)) (s : Shared) (σ : L2.St) (u1 u2 : Value), Inv X pins σ H s → RelV x u1 → RelV y u2 → wpAny (model X.prog X.w) X.A (compareOp op' u1 u2) (EP X pins σ Q) X.xe s)
    (fun pins s σ H x y v u Q I r1 r2 h => h pins s σ v u I r1 r2) pe_we pe_we hm) ?_
  refine ha.run hb hx σ ts G H _ hl hσ W fun s1 δ1 v1 G1 H1 c1 hl1 W1 => ?_
  rw [List.append_assoc, List.append_assoc] at W1
  refine c1.run hb hx σ (ts ++ [some v1]) G1 H1 _ hl1 hσ W1 fun s2 δ2 v2 G2 H2 c2 hl2 W2 => ?_
  obtain ⟨d1, d2, k', e1, e2, em, hk⟩ := c2
  have hb' := hb
  rw [em] at hb'
  obtain ⟨d, ed⟩ := op_some hb'
  have em' : m = k' d := by rw [em, ed]; rfl
  have W3 : Wd X.K en (δ2 ++ τ ++ [s1, s2]) (σ ++ ts ++ [v1, v2].map some) G2 H2 := by
    have := W2
    simp only [List.append_assoc, List.map_cons, List.map_nil, List.cons_append, List.nil_append] at this ⊢
    exact this
  obtain ⟨⟨_, _, ez, r1, _, _, ez2, r2, ez3⟩, Wn⟩ := W3.ends (hl2.trans hσ.symm) ht (ds := [d1, d2]) (by simp only [rds, e1, e2])
  cases ez
  cases ez2
  intro pins s σ' u1 u2 I q1 q2
  refine ho d1 d2 (.bl d) (by show (g d1 d2).map D.bl = _; rw [ed]; rfl) pins s σ' G2 H2 v1 v2 u1 u2 _ I W2.sub r1 r2 q1 q2 fun v G' H' gr out => ?_
  have out' : v = .bl d := out
  subst out'
  refine ⟨d, rfl, k d δ2 G' H' ?_ hl2 ((Wn (by omega)).grow gr)⟩
  have := hk d
  rw [← em'] at this
  exact this
/-- truth of data -/
def truD : D → Option Bool
  | .non => some false
  | .bl b => some b
  | .int i => some (i != 0)
  | .str x => if x.length ≤ sizeLine then some ((x.length : Int) != 0) else none
  | .lst xs => some (!xs.isEmpty)
  | .tup xs => some (!xs.isEmpty)
  | .dic xs => some (!xs.isEmpty)
  | .scr xs => some (!xs.isEmpty)
  | .exc _ _ => none
  | .obj _ _ => none
theorem Reps.emp {G : Hp} : ∀ {ds : List D} {vs : List V}, Reps K G ds vs → ds.isEmpty = vs.isEmpty
  | [], _, h => by rw [show _ = [] from h]; rfl
  | _ :: _, _, h => by obtain ⟨_, _, e, _⟩ := h; rw [e]; rfl
theorem RepKs.emp {G : Hp} : ∀ {ds : List (Key × D)} {vs : List (Key × V)}, RepKs K G ds vs → ds.isEmpty = vs.isEmpty
  | [], _, h => by rw [show _ = [] from h]; rfl
  | (_, _) :: _, _, h => by obtain ⟨_, _, e, _⟩ := h; rw [e]; rfl
theorem tru_v {G H : Hp} : ∀ {d : D} {v : V} {b : Bool}, truD d = some b → VRep K G H d v → TruV K v H b
  | .non, v, b, h, r => by
    have r' : v = .non := r
    subst r'; cases h; rfl
  | .bl c, v, b, h, r => by
    have r' : v = .bl c := r
    subst r'; cases h; rfl
  | .int c, v, b, h, r => by
    have r' : v = .int c := r
    subst r'; cases h; rfl
  | .str c, v, b, h, r => by
    have r' : v = .str c := r
    subst r'
    have h' : (if c.length ≤ sizeLine then some ((c.length : Int) != 0) else none) = some b := h
    by_cases hz : c.length ≤ sizeLine
    · rw [if_pos hz] at h'
      cases h'; exact ⟨hz, rfl⟩
    · rw [if_neg hz] at h'
      cases h'
  | .lst xs, v, b, h, r => by
    obtain ⟨a, vs, e, q, r'⟩ := r
    subst e
    cases h
    exact .inl ⟨vs, SqL.of q, by rw [r'.emp]⟩
  | .exc _ _, _, _, h, _ => by cases h
  | .obj _ _, _, _, h, _ => by cases h
  | .scr xs, v, b, h, r => by
    obtain ⟨a, e, q⟩ := r
    subst e
    cases h
    exact .inl ⟨_, q, by cases xs <;> rfl⟩
  | .tup xs, v, b, h, r => by
    obtain ⟨a, vs, e, q, r'⟩ := r
    subst e
    cases h
    exact .inr (.inl ⟨vs, q, by rw [r'.emp]⟩)
  | .dic xs, v, b, h, r => by
    obtain ⟨a, vs, e, q, r'⟩ := r
    subst e
    cases h
    exact .inr (.inr ⟨vs, q, by rw [r'.emp]⟩)
theorem jt_tru {C : Bool → List Slot → Res R → Prop} {e : Expr}
    (h : JE X en δ τ e (fun s1 δ1 m1 => ∃ d k, s1.rd δ1 = some d ∧ m1 = op (truD d) k ∧ ∀ b, C b δ1 (k b)) m) (he : ∀ whole, isTrue e X.env whole = (do let v ← whole; standAt e.pos; holding [v] (truthy v)) := by intro _; rfl) : JT X en δ τ e C m := .mk fun hb hx σ ts G H T hl hσ W k => by
  refine wt_of (pt_truth pe_we he) ?_
  have ht : τ.length = ts.length := W.splitLen (hl.trans hσ.symm)
  refine h.run hb hx σ ts G H _ hl hσ W fun s1 δ1 v1 G1 H1 c1 hl1 W1 => ?_
  obtain ⟨d, k', e1, em, hk⟩ := c1
  have hb' := hb
  rw [em] at hb'
  obtain ⟨b, eb⟩ := op_some hb'
  have em' : m = k' b := by rw [em, eb]; rfl
  obtain ⟨⟨_, _, ez, r1, _⟩, Wn⟩ := Wd.ends (sls := [s1]) (vs := [v1]) W1 (hl1.trans hσ.symm) ht (ds := [d]) (by simp only [rds, e1])
  cases ez
  refine ⟨b, tru_v eb r1, k b δ1 G1 H1 ?_ hl1 (Wn (by omega))⟩
  have := hk b
  rw [← em'] at this
  exact this
/-- one whose slot tells that it is True or False -/
theorem jt_bl {C : Bool → List Slot → Res R → Prop} {e : Expr}
    (h : JE X en δ τ e (fun s1 δ1 m1 => ∃ b, s1 = .fr (.bl b) ∧ C b δ1 m1) m) (he : ∀ whole, isTrue e X.env whole = (do let v ← whole; standAt e.pos; holding [v] (truthy v)) := by intro _; rfl) : JT X en δ τ e C m := jt_of (pt_truth pe_we he) h

/-! ### and, or, not as tests -/
abbrev WW (X : Cx) (e : Expr) : TT := fun σ H Q => ∀ (whole : Sem Value) (pins : List (Addr × Obj)) (s : Shared), Inv X pins σ H s → wpAny (model X.prog X.w) X.A (isTrue e X.env whole) (TP X pins σ Q) X.xe s
theorem pw_ww {e : Expr} : PW X e (WW X e) := ⟨fun wh pins s _ _ _ I h => h wh pins s I⟩
structure JW (X : Cx) (en : Kn) (δ τ : List Slot) (e : Expr) {R : Type} (C : Bool → List Slot → Res R → Prop) (m : Res R) : Prop where
  run : m ≠ .bad → en.HX m.exc → ∀ (σ ts : L2.St) (G H : Hp) (T : Bool → Hp → Prop), δ.length = en.n → σ.length = en.n → Wd X.K en (δ ++ τ) (σ ++ ts) G H →
    (∀ b δ' G' H', C b δ' m → δ'.length = en.n → Wd X.K en (δ' ++ τ) (σ ++ ts) G' H' → T b H') → WW X e σ H T
section
variable {C : Bool → List Slot → Res R → Prop} {a b : Expr} {rest : List Expr} {pos : Pos}
theorem jt_w {e : Expr} (h : JW X en δ τ e C m) : JT X en δ τ e C m := .mk fun hb hx σ ts G H T hl hσ W k pins s I => h.run hb hx σ ts G H T hl hσ W k _ pins s I
theorem ww_of {e : Expr} {t : TT} (h : PW X e t) {σ : L2.St} {H : Hp} {Q : Bool → Hp → Prop} (q : t σ H Q) : WW X e σ H Q := fun wh pins s I => h.run wh pins s σ H Q I q
theorem jw_and1 (h : JT X en δ τ a C m) : JW X en δ τ (.BoolOp .And [a] pos) C m := .mk fun hb hx σ ts G H T hl hσ W k => ww_of (pw_and1 pt_wt) (h.run hb hx σ ts G H T hl hσ W k)
theorem jw_or1 (h : JT X en δ τ a C m) : JW X en δ τ (.BoolOp .Or [a] pos) C m := .mk fun hb hx σ ts G H T hl hσ W k => ww_of (pw_or1 pt_wt) (h.run hb hx σ ts G H T hl hσ W k)
theorem jw_and (h : JT X en δ τ a (fun c δ1 m1 => ∃ mB mF, m1 = (if c = true then mB else mF) ∧ JW X en δ1 τ (.BoolOp .And (b :: rest) pos) C mB ∧ C false δ1 mF) m) : JW X en δ τ (.BoolOp .And (a :: b :: rest) pos) C m := .mk fun hb hx σ ts G H T hl hσ W k => by
  refine ww_of (pw_and pt_wt pw_ww) ?_
  refine h.run hb hx σ ts G H _ hl hσ W fun c δ1 G1 H1 c1 hl1 W1 => ?_
  obtain ⟨mB, mF, em, h1, h2⟩ := c1
  cases c with
  | true =>
    have e : m = mB := em
    subst e
    exact h1.run hb hx σ ts G1 H1 T hl1 hσ W1 k
  | false =>
    have e : m = mF := em
    subst e
    exact k false δ1 G1 H1 h2 hl1 W1
theorem jw_or (h : JT X en δ τ a (fun c δ1 m1 => ∃ mT mB, m1 = (if c = true then mT else mB) ∧ C true δ1 mT ∧ JW X en δ1 τ (.BoolOp .Or (b :: rest) pos) C mB) m) : JW X en δ τ (.BoolOp .Or (a :: b :: rest) pos) C m := .mk fun hb hx σ ts G H T hl hσ W k => by
  refine ww_of (pw_or pt_wt pw_ww) ?_
  refine h.run hb hx σ ts G H _ hl hσ W fun c δ1 G1 H1 c1 hl1 W1 => ?_
  obtain ⟨mT, mB, em, h1, h2⟩ := c1
  cases c with
  | true =>
    have e : m = mT := em
    subst e
    exact k true δ1 G1 H1 h1 hl1 W1
  | false =>
    have e : m = mB := em
    subst e
    exact h2.run hb hx σ ts G1 H1 T hl1 hσ W1 k
theorem jt_not (h : JT X en δ τ a (fun c δ1 m1 => C (!c) δ1 m1) m) : JT X en δ τ (.UnaryOp .Not a pos) C m := .mk fun hb hx σ ts G H T hl hσ W k =>
  wt_of (pt_not pt_wt) (h.run hb hx σ ts G H (fun c H1 => T (!c) H1) hl hσ W fun c δ1 G1 H1 c1 hl1 W1 => k (!c) δ1 G1 H1 c1 hl1 W1)
end

/-! ### .. as values -/
/-- a slot's truth value, where it is one -/
def asB : D → Option Bool
  | .bl b => some b
  | _ => none
theorem VRep.asB {G H : Hp} {d : D} {v : V} {b : Bool} (h : asB d = some b) (r : VRep K G H d v) : v = .bl b := by
  cases d <;> first | cases h | skip
  exact r
section
variable {a b : Expr} {rest : List Expr} {pos : Pos}
theorem je_one {o} (h : JE X en δ τ a C m) : JE X en δ τ (.BoolOp o [a] pos) C m := .mk fun hb hx σ ts G H T hl hσ W k => we_of (pe_one pe_we) (h.run hb hx σ ts G H T hl hσ W k)
theorem je_and (h : JE X en δ τ a (fun s1 δ1 m1 => ∃ d k, s1.rd δ1 = some d ∧ m1 = op (asB d) k ∧ ∀ c, ∃ mB mF, k c = (if c = true then mB else mF) ∧ JE X en δ1 τ (.BoolOp .And (b :: rest) pos) C mB ∧ C (.fr (.bl false)) δ1 mF) m) : JE X en δ τ (.BoolOp .And (a :: b :: rest) pos) C m := .mk fun hb hx σ ts G H T hl hσ W k => by
  refine we_of (pe_and pe_we pe_we) ?_
  have ht : τ.length = ts.length := W.splitLen (hl.trans hσ.symm)
  refine h.run hb hx σ ts G H _ hl hσ W fun s1 δ1 v1 G1 H1 c1 hl1 W1 => ?_
  obtain ⟨d, k', e1, em, hk⟩ := c1
  have hb' := hb
  rw [em] at hb'
  obtain ⟨c, ec⟩ := op_some hb'
  have em' : m = k' c := by rw [em, ec]; rfl
  obtain ⟨⟨_, _, ez, r1, _⟩, Wn⟩ := Wd.ends (sls := [s1]) (vs := [v1]) W1 (hl1.trans hσ.symm) ht (ds := [d]) (by simp only [rds, e1])
  cases ez
  have ev := VRep.asB ec r1
  subst ev
  refine ⟨c, rfl, ?_⟩
  obtain ⟨mB, mF, ek, h1, h2⟩ := hk c
  have em2 := em'.trans ek
  cases c with
  | true =>
    have e : m = mB := em2
    subst e
    exact h1.run hb hx σ ts G1 H1 T hl1 hσ (Wn (by omega)) k
  | false =>
    have e : m = mF := em2
    subst e
    exact k _ δ1 _ G1 H1 h2 hl1 ((Wn (by omega)).out (Grow.refl W1.sub) (show Rep _ _ _ _ from rfl))
theorem je_or (h : JE X en δ τ a (fun s1 δ1 m1 => ∃ d k, s1.rd δ1 = some d ∧ m1 = op (asB d) k ∧ ∀ c, ∃ mT mB, k c = (if c = true then mT else mB) ∧ C (.fr (.bl true)) δ1 mT ∧ JE X en δ1 τ (.BoolOp .Or (b :: rest) pos) C mB) m) : JE X en δ τ (.BoolOp .Or (a :: b :: rest) pos) C m := .mk fun hb hx σ ts G H T hl hσ W k => by
  refine we_of (pe_or pe_we pe_we) ?_
  have ht : τ.length = ts.length := W.splitLen (hl.trans hσ.symm)
  refine h.run hb hx σ ts G H _ hl hσ W fun s1 δ1 v1 G1 H1 c1 hl1 W1 => ?_
  obtain ⟨d, k', e1, em, hk⟩ := c1
  have hb' := hb
  rw [em] at hb'
  obtain ⟨c, ec⟩ := op_some hb'
  have em' : m = k' c := by rw [em, ec]; rfl
  obtain ⟨⟨_, _, ez, r1, _⟩, Wn⟩ := Wd.ends (sls := [s1]) (vs := [v1]) W1 (hl1.trans hσ.symm) ht (ds := [d]) (by simp only [rds, e1])
  cases ez
  have ev := VRep.asB ec r1
  subst ev
  refine ⟨c, rfl, ?_⟩
  obtain ⟨mT, mB, ek, h1, h2⟩ := hk c
  have em2 := em'.trans ek
  cases c with
  | true =>
    have e : m = mT := em2
    subst e
    exact k _ δ1 _ G1 H1 h1 hl1 ((Wn (by omega)).out (Grow.refl W1.sub) (show Rep _ _ _ _ from rfl))
  | false =>
    have e : m = mB := em2
    subst e
    exact h2.run hb hx σ ts G1 H1 T hl1 hσ (Wn (by omega)) k
theorem je_not (h : JE X en δ τ a (fun s1 δ1 m1 => ∃ d k, s1.rd δ1 = some d ∧ m1 = op (asB d) k ∧ ∀ c, C (.fr (.bl (!c))) δ1 (k c)) m) : JE X en δ τ (.UnaryOp .Not a pos) C m := .mk fun hb hx σ ts G H T hl hσ W k => by
  refine we_of (pe_not pe_we) ?_
  have ht : τ.length = ts.length := W.splitLen (hl.trans hσ.symm)
  refine h.run hb hx σ ts G H _ hl hσ W fun s1 δ1 v1 G1 H1 c1 hl1 W1 => ?_
  obtain ⟨d, k', e1, em, hk⟩ := c1
  have hb' := hb
  rw [em] at hb'
  obtain ⟨c, ec⟩ := op_some hb'
  have em' : m = k' c := by rw [em, ec]; rfl
  obtain ⟨⟨_, _, ez, r1, _⟩, Wn⟩ := Wd.ends (sls := [s1]) (vs := [v1]) W1 (hl1.trans hσ.symm) ht (ds := [d]) (by simp only [rds, e1])
  cases ez
  have ev := VRep.asB ec r1
  subst ev
  refine ⟨c, rfl, k (.fr (.bl (!c))) δ1 (.bl (!c)) G1 H1 ?_ hl1 ((Wn (by omega)).out (Grow.refl W1.sub) (show Out X.K G1 H1 G1 H1 (.fr (.bl (!c))) (.bl (!c)) from rfl))⟩
  have := hk c
  rw [← em'] at this
  exact this
theorem je_if {c : Expr} (h : JT X en δ τ c (fun t δ1 m1 => ∃ mA mB, m1 = (if t = true then mA else mB) ∧ JE X en δ1 τ a C mA ∧ JE X en δ1 τ b C mB) m) : JE X en δ τ (.IfExp c a b pos) C m := .mk fun hb hx σ ts G H T hl hσ W k => by
  refine we_of (pe_ifExp pt_wt pe_we pe_we) ?_
  refine h.run hb hx σ ts G H _ hl hσ W fun t δ1 G1 H1 c1 hl1 W1 => ?_
  obtain ⟨mA, mB, em, h1, h2⟩ := c1
  cases t with
  | true =>
    have e : m = mA := em
    subst e
    exact iteT (h1.run hb hx σ ts G1 H1 T hl1 hσ W1 k)
  | false =>
    have e : m = mB := em
    subst e
    exact iteF (h2.run hb hx σ ts G1 H1 T hl1 hσ W1 k)
end

/-! ### joins -/
theorem bind_exc {α : Type} {m1 : Res α} {k : α → Res R} (hb : m1.bind k ≠ .bad) (hx : en.HX (m1.bind k).exc) : m1 ≠ .bad ∧ en.HX m1.exc := by
  match m1, hb, hx with
  | .ok a, _, _ => exact ⟨(fun h => nomatch h), en.h0⟩
  | .raise x, _, hx => exact ⟨(fun h => nomatch h), hx⟩
  | .bad, hb, _ => exact (hb rfl).elim
theorem je_join {α : Type} {e : Expr} (ps : α → Slot) (pe : α → List Slot) {m1 : Res α} {k : α → Res R} (h : JE X en δ τ e (fun sl δ' m' => ∃ a, m' = .ok a ∧ sl = ps a ∧ δ' = pe a) m1) (hk : ∀ a, C (ps a) (pe a) (k a)) : JE X en δ τ e C (m1.bind k) := .mk fun hb hx σ ts G H T hl hσ W q => by
  obtain ⟨hb1, hx1⟩ := bind_exc hb hx
  refine h.run hb1 hx1 σ ts G H T hl hσ W fun sl δ' v G' H' c hl' W' => ?_
  obtain ⟨a, e1, e2, e3⟩ := c
  subst e1 e2 e3
  exact q _ _ v G' H' (hk a) hl' W'
theorem jt_join {α : Type} {C : Bool → List Slot → Res R → Prop} {e : Expr} (ps : α → Bool) (pe : α → List Slot) {m1 : Res α} {k : α → Res R} (h : JT X en δ τ e (fun sl δ' m' => ∃ a, m' = .ok a ∧ sl = ps a ∧ δ' = pe a) m1) (hk : ∀ a, C (ps a) (pe a) (k a)) : JT X en δ τ e C (m1.bind k) := .mk fun hb hx σ ts G H T hl hσ W q => by
  obtain ⟨hb1, hx1⟩ := bind_exc hb hx
  refine h.run hb1 hx1 σ ts G H T hl hσ W fun sl δ' G' H' c hl' W' => ?_
  obtain ⟨a, e1, e2, e3⟩ := c
  subst e1 e2 e3
  exact q _ _ G' H' (hk a) hl' W'
end
end BR

/-! K5: targets, statements, loops -/
namespace BR
open PySem PySem.Spec PyProof.Rows L2

/-- the second tells no more than the first -/
def Le : List Slot → List Slot → Prop
  | [], [] => True
  | a :: r, b :: q => (b = .un ∨ a = b) ∧ Le r q
  | _, _ => False
theorem Le.len : ∀ {a b : List Slot}, Le a b → a.length = b.length
  | [], [], _ => rfl
  | _ :: _, _ :: _, h => by rw [List.length_cons, List.length_cons, Le.len h.2]
  | [], _ :: _, h => h.elim
  | _ :: _, [], h => h.elim
theorem Le.get : ∀ {a b : List Slot} {i : Nat} {s : Slot}, Le a b → b[i]? = some s → s = .un ∨ a[i]? = some s
  | [], [], i, s, _, h => by simp at h
  | x :: _, y :: _, 0, s, h, e => by
    have e' : y = s := by simpa using e
    subst e'
    rcases h.1 with z | z
    · exact .inl z
    · subst z; exact .inr rfl
  | _ :: _, _ :: _, i + 1, s, h, e => by
    have := Le.get (i := i) (s := s) h.2 (by simpa using e)
    simpa using this
  | [], _ :: _, _, _, h, _ => h.elim
  | _ :: _, [], _, _, h, _ => h.elim
theorem Le.refl : ∀ a : List Slot, Le a a
  | [] => trivial
  | _ :: r => ⟨.inr rfl, Le.refl r⟩
theorem Wd.le {K : PySem.W.Frag} {en : Kn} {δ δ' : List Slot} {S : L2.St} {G H : Hp} (W : Wd K en δ S G H) (h : Le δ δ') : Wd K en δ' S G H where
  len := h.len.symm.trans W.len
  sub := W.sub
  ext := W.ext
  new := W.new
  frm := W.frm
  stay := W.stay
  nd := W.nd
  slot := fun i sl o h1 h2 => by
    rcases h.get h1 with z | z
    · subst z; trivial
    · exact W.slot i sl o z h2
  apart := fun i j p h1 h2 => by
    have key : ∀ (i : Nat), Own δ' S i p → Own δ S i p := fun i ⟨sl, e1, e2, e3⟩ => by
      rcases h.get e1 with z | z
      · subst z; cases e2
      · exact ⟨sl, z, e2, e3⟩
    exact W.apart i j p (key i h1) (key j h2)

def noBo : List Slot → Bool
  | [] => true
  | .bo _ :: _ => false
  | _ :: r => noBo r
theorem noBo_get : ∀ {δ : List Slot} {i j : Nat}, noBo δ = true → δ[i]? ≠ some (.bo j)
  | [], i, j, _ => by simp
  | .bo _ :: _, _, _, h => nomatch h
  | .un :: r, 0, j, h => by simp
  | .fr _ :: r, 0, j, h => by simp
  | .mu _ :: r, 0, j, h => by simp
  | .mp _ _ :: r, 0, j, h => by simp
  | .bw _ :: r, 0, j, h => by simp
  | .un :: r, i + 1, j, h => by simpa using noBo_get (δ := r) (i := i) (j := j) h
  | .fr _ :: r, i + 1, j, h => by simpa using noBo_get (δ := r) (i := i) (j := j) h
  | .mu _ :: r, i + 1, j, h => by simpa using noBo_get (δ := r) (i := i) (j := j) h
  | .mp _ _ :: r, i + 1, j, h => by simpa using noBo_get (δ := r) (i := i) (j := j) h
  | .bw _ :: r, i + 1, j, h => by simpa using noBo_get (δ := r) (i := i) (j := j) h
/-- what a name may be given -/
def Slot.may : Slot → Bool
  | .fr _ => true
  | .mu _ => true
  | .bw _ => true
  | _ => false
section
variable {X : Cx} {en : Kn} {δ : List Slot} {R : Type} {m : Res R} {K : PySem.W.Frag}
/-- a name is given the last thing at hand -/
theorem Wd.give {s : Slot} {v : V} {σ : L2.St} {G H : Hp} (W : Wd K en (δ ++ [s]) (σ ++ [some v]) G H) (hl : δ.length = σ.length) (hb : noBo δ = true) (hs : s.may = true) (i : Nat) : Wd K en (δ.set i s) (σ.set i (some v)) G H := by
  have last := W.last
  have get1 : ∀ (j : Nat) sl o, (δ.set i s)[j]? = some sl → (σ.set i (some v))[j]? = some o → (j = i ∧ sl = s ∧ o = some v) ∨ (j ≠ i ∧ δ[j]? = some sl ∧ σ[j]? = some o) := fun j sl o h1 h2 => by
    by_cases hj : j = i
    · subst hj
      have hi : j < δ.length := by
        have := (List.getElem?_eq_some_iff.mp h1).1
        rw [List.length_set] at this; exact this
      rw [List.getElem?_set_self hi] at h1
      rw [List.getElem?_set_self (by omega)] at h2
      exact .inl ⟨rfl, (Option.some.inj h1).symm, (Option.some.inj h2).symm⟩
    · rw [List.getElem?_set_ne (Ne.symm hj)] at h1 h2
      exact .inr ⟨hj, h1, h2⟩
  have up : ∀ (j : Nat) sl o, δ[j]? = some sl → σ[j]? = some o → (δ ++ [s])[j]? = some sl ∧ (σ ++ [some v])[j]? = some o := fun j sl o h1 h2 =>
    ⟨by rw [List.getElem?_append_left (List.getElem?_eq_some_iff.mp h1).1]; exact h1, by rw [List.getElem?_append_left (List.getElem?_eq_some_iff.mp h2).1]; exact h2⟩
  refine ⟨by rw [List.length_set, List.length_set]; exact hl, W.sub, W.ext, W.new, W.frm, W.stay, W.nd, fun j sl o h1 h2 => ?_, fun j j' p h1 h2 => ?_⟩
  · rcases get1 j sl o h1 h2 with ⟨e1, e2, e3⟩ | ⟨hj, h3, h4⟩
    · subst e2 e3
      cases sl with
      | un => trivial
      | fr d => exact last
      | mu d => exact last
      | mp _ d => cases hs
      | bw d => exact last
      | bo _ => cases hs
    · obtain ⟨h5, h6⟩ := up j sl o h3 h4
      have q := W.slot j sl o h5 h6
      cases sl with
      | un => trivial
      | fr d => exact q
      | mu d => exact q
      | mp _ d => exact q
      | bw d => exact q
      | bo l => exact (noBo_get hb h3).elim
  · have key : ∀ (j : Nat), Own (δ.set i s) (σ.set i (some v)) j p → (j = i ∧ Own (δ ++ [s]) (σ ++ [some v]) δ.length p) ∨ (j ≠ i ∧ j < δ.length ∧ Own (δ ++ [s]) (σ ++ [some v]) j p) := fun j ⟨sl, e1, e2, e3⟩ => by
      rcases get1 j _ _ e1 e3 with ⟨f1, f2, f3⟩ | ⟨hj, f2, f3⟩
      · subst f2
        exact .inl ⟨f1, sl, getElem?_last, e2, by rw [hl, ← f3]; exact getElem?_last⟩
      · obtain ⟨u1, u2⟩ := up j _ _ f2 f3
        exact .inr ⟨hj, (List.getElem?_eq_some_iff.mp f2).1, sl, u1, e2, u2⟩
    rcases key j h1 with ⟨e1, q1⟩ | ⟨e1, l1, q1⟩ <;> rcases key j' h2 with ⟨e2, q2⟩ | ⟨e2, l2, q2⟩
    · rw [e1, e2]
    · have := W.apart _ _ p q1 q2
      omega
    · have := W.apart _ _ p q1 q2
      omega
    · exact W.apart _ _ p q1 q2

/-! ### targets -/
/-- changed at these places alone -/
def Only (is : List Nat) (σ σ' : L2.St) : Prop := ∀ j : Nat, j ∉ is → σ'[j]? = σ[j]?
/-- a target given a thing that stands fast; is: the places of the names -/
structure JG (X : Cx) (en : Kn) (δ τ : List Slot) (tg : Expr) (d : D) (is : List Nat) {R : Type} (N : List Slot → Res R → Prop) (m : Res R) : Prop where
  run : m ≠ .bad → en.HX m.exc → ∀ (σ ts : L2.St) (G H : Hp) (v : V) (T : L2.St → Hp → Prop), δ.length = en.n → σ.length = en.n → Wd X.K en (δ ++ τ) (σ ++ ts) G H → Rep X.K G d v →
    (∀ δ' σ' G' H', N δ' m → δ'.length = en.n → σ'.length = en.n → Wd X.K en (δ' ++ τ) (σ' ++ ts) G' H' → Sub G G' → Only is σ σ' → T σ' H') → WG X tg v σ H T
structure JGs (X : Cx) (en : Kn) (δ τ : List Slot) (tgs : List Expr) (ds : List D) (is : List Nat) {R : Type} (N : List Slot → Res R → Prop) (m : Res R) : Prop where
  run : m ≠ .bad → en.HX m.exc → ∀ (σ ts : L2.St) (G H : Hp) (vs : List V) (T : L2.St → Hp → Prop), δ.length = en.n → σ.length = en.n → Wd X.K en (δ ++ τ) (σ ++ ts) G H → Reps X.K G ds vs →
    (∀ δ' σ' G' H', N δ' m → δ'.length = en.n → σ'.length = en.n → Wd X.K en (δ' ++ τ) (σ' ++ ts) G' H' → Sub G G' → Only is σ σ' → T σ' H') →
    ∀ (pins : List (Addr × Obj)) (s : Shared) (us : List Value), Inv X pins σ H s → Vals vs us → wpAny (model X.prog X.w) X.A (assignInOrder ((assignEach tgs X.env).map (·.2)) us) (fun _ s' => ∃ σ' H', Inv X pins σ' H' s' ∧ T σ' H') X.xe s
theorem wg_of {tg : Expr} {t : TG} (h : PG X tg t) {v : V} {σ : L2.St} {H : Hp} {Q : L2.St → Hp → Prop} (q : t v σ H Q) : WG X tg v σ H Q := fun pins s u I r => h.run pins s σ H v u Q I r q
section
variable {N : List Slot → Res R → Prop} {τ : List Slot}
theorem jg_name (i : Nat) {x : Str} {pos : Pos} {d : D} (δ' : List Slot) (hN : X.N.Nodup) (h : N δ' m) (he : δ.set i (.fr d) = δ' := by rfl) (hb : noBo (δ ++ τ) = true := by rfl) (hi : X.N[i]? = some x := by rfl) (hil : (i + 1).ble δ.length = true := by rfl) (hx : Loc X.env.scope x := by first | exact Or.inl rfl | exact Or.inr rfl)
    (hf : X.fn x = true ∨ X.env.scope.names.lookup x = some .local := by first | exact .inl rfl | exact .inr rfl) : JG X en δ τ (.Name x pos) d [i] N m := .mk fun hb' hx' σ ts G H v T hl hσ W r k => by
  subst he
  have hi' : i < δ.length := Nat.le_of_ble_eq_true hil
  have W2 := (W.out (sl := .fr d) (v := v) (Grow.refl W.sub) r).give W.len hb rfl i
  rw [List.set_append_left _ _ hi', List.set_append_left _ _ (by omega)] at W2
  exact wg_of (pg_name hN hi hx hf) (k _ _ G H h (by rw [List.length_set]; exact hl) (by rw [List.length_set]; exact hσ) W2 (Sub.refl _) fun j hj => List.getElem?_set_ne fun e => hj (by rw [e]; exact List.mem_cons_self))
theorem jgs_nil (h : N δ m) : JGs X en δ τ [] [] [] N m := .mk fun hb hx σ ts G H vs T hl hσ W r k pins s us I rv => by
  rw [show vs = [] from r] at rv
  cases rv
  exact assignInOrder_nil ⟨σ, H, I, k δ σ G H h hl hσ W (Sub.refl _) fun _ _ => rfl⟩
theorem jgs_cons {e : Expr} {es : List Expr} {d : D} {ds : List D} {is js : List Nat} (h : JG X en δ τ e d is (fun δ1 m1 => JGs X en δ1 τ es ds js N m1) m)
    (hs : (assignEach (e :: es) X.env).map (·.2) = assign e X.env :: (assignEach es X.env).map (·.2) := by rfl) : JGs X en δ τ (e :: es) (d :: ds) (is ++ js) N m := .mk fun hb hx σ ts G H vs T hl hσ W r k pins s us I rv => by
  obtain ⟨v, vr, e1, r1, r2⟩ := r
  subst e1
  cases rv with
  | cons q qq =>
    rw [hs]
    refine assignInOrder_cons (thn ((h.run hb hx σ ts G H v (fun σ1 H1 => ∃ δ1 G1, JGs X en δ1 τ es ds js N m ∧ δ1.length = en.n ∧ σ1.length = en.n ∧ Wd X.K en (δ1 ++ τ) (σ1 ++ ts) G1 H1 ∧ Sub G G1 ∧ Only is σ σ1) hl hσ W r1 fun δ1 σ1 G1 H1 c hl1 hσ1 W1 sb on => ⟨δ1, G1, c, hl1, hσ1, W1, sb, on⟩) pins s _ I q) fun _ s1 ⟨σ1, H1, I1, δ1, G1, c, hl1, hσ1, W1, sb, on⟩ => ?_)
    exact c.run hb hx σ1 ts G1 H1 vr T hl1 hσ1 W1 (Reps.sub sb _ _ r2) (fun δ' σ' G' H' c' hl' hσ' W' sb' on' => k δ' σ' G' H' c' hl' hσ' W' (sb.trans sb') fun j hj => (on' j fun z => hj (List.mem_append_right _ z)).trans (on j fun z => hj (List.mem_append_left _ z))) pins s1 _ I1 qq
/-- (a, b, ..) -/
def unp (n : Nat) : D → Option (List D)
  | .tup ds => if ds.length = n then some ds else none
  | _ => none
theorem unp_some {n : Nat} : ∀ {d : D} {ds : List D}, unp n d = some ds → ∃ ds', d = .tup ds' ∧ ds'.length = n ∧ ds' = ds
  | .tup ds', ds, h => by
    have h' : (if ds'.length = n then some ds' else none) = some ds := h
    by_cases hn : ds'.length = n
    · rw [if_pos hn] at h'
      exact ⟨ds', rfl, hn, Option.some.inj h'⟩
    · rw [if_neg hn] at h'; cases h'
  | .non, _, h => nomatch h
  | .bl _, _, h => nomatch h
  | .int _, _, h => nomatch h
  | .str _, _, h => nomatch h
  | .lst _, _, h => nomatch h
  | .dic _, _, h => nomatch h
  | .scr _, _, h => nomatch h
  | .exc _ _, _, h => nomatch h
  | .obj _ _, _, h => nomatch h
theorem jg_tup {es : List Expr} {k : Nat} {pos : Pos} {d : D} {n : Nat} {is : List Nat} (hc : X.calm = true) (h : ∃ k', m = op (unp n d) k' ∧ ∀ ds, ds.length = n → JGs X en δ τ es ds is N (k' ds))
    (hn : (assignEach es X.env).length = n := by rfl) (hst : (assignEach es X.env).findIdx? (·.1) = none := by rfl) : JG X en δ τ (.Tuple es k pos) d is N m := .mk fun hb hx σ ts G H v T hl hσ W r q => by
  obtain ⟨k', em, hk⟩ := h
  have hb' := hb
  rw [em] at hb'
  obtain ⟨ds, ed⟩ := op_some hb'
  have em' : m = k' ds := by rw [em, ed]; rfl
  obtain ⟨ds', e0, hlen, e1⟩ := unp_some ed
  subst e0 e1
  have hk2 := hk _ hlen
  rw [← em'] at hk2
  refine wg_of (pg_tup (t := fun vs σ H Q => ∀ (pins : List (Addr × Obj)) (s : Shared) (us : List Value), Inv X pins σ H s → Vals vs us → wpAny (model X.prog X.w) X.A (assignInOrder ((assignEach es X.env).map (·.2)) us) (fun _ s' => ∃ σ' H', Inv X pins σ' H' s' ∧ Q σ' H') X.xe s)
    hc ⟨fun pins s σ H vs us Q I r h => h pins s us I r⟩ hn hst) ?_
  obtain ⟨a, vs, e1, q1, r1⟩ := r
  subst e1
  exact ⟨a, vs, rfl, SqT.sub W.sub q1, by rw [← r1.length]; exact hlen, hk2.run hb hx σ ts G H vs T hl hσ W r1 q⟩
end

/-! ### statements -/
section
variable {N : List Slot → Res R → Prop} {RT : Slot → List Slot → Res R → Prop} {BK CT : List Slot → Res R → Prop} {pos : Pos}
theorem Wd.one {s : Slot} {v : V} {σ : L2.St} {G H : Hp} (W : Wd K en (δ ++ [s]) (σ ++ [some v]) G H) (hl : δ.length = en.n) (hσ : σ.length = en.n) : Wd K en δ σ G H := W.cut (hl.trans hσ.symm) (by omega)
theorem Wd.sl (W : Wd K en δ σ G H) (hl : δ.length = en.n) : List.length σ = en.n := W.len.symm.trans hl
/-- JE at a statement: nothing at hand -/
theorem JE.at {e : Expr} {C : Slot → List Slot → Res R → Prop} (h : JE X en δ [] e C m) (hb : m ≠ .bad) (hx : en.HX m.exc) {σ : L2.St} {G H : Hp} {T : VK} (hl : δ.length = en.n) (W : Wd X.K en δ σ G H)
    (k : ∀ sl δ' v G' H', C sl δ' m → δ'.length = en.n → Wd X.K en (δ' ++ [sl]) (σ ++ [some v]) G' H' → T v H') : WE X e σ H T :=
  h.run hb hx σ [] G H T hl (W.sl hl) (by rw [List.append_nil, List.append_nil]; exact W) fun sl δ' v G' H' c hl' W' => k sl δ' v G' H' c hl' (by rw [List.append_nil, List.append_nil] at W'; exact W')
theorem JT.at {e : Expr} {C : Bool → List Slot → Res R → Prop} (h : JT X en δ [] e C m) (hb : m ≠ .bad) (hx : en.HX m.exc) {σ : L2.St} {G H : Hp} {T : Bool → Hp → Prop} (hl : δ.length = en.n) (W : Wd X.K en δ σ G H)
    (k : ∀ b δ' G' H', C b δ' m → δ'.length = en.n → Wd X.K en δ' σ G' H' → T b H') : WT X e σ H T :=
  h.run hb hx σ [] G H T hl (W.sl hl) (by rw [List.append_nil, List.append_nil]; exact W) fun sl δ' G' H' c hl' W' => k sl δ' G' H' c hl' (by rw [List.append_nil, List.append_nil] at W'; exact W')
theorem jss_never {st : List Stmt} : JSs X en δ st N RT BK CT (.bad : Res R) := .mk fun hb => (hb rfl).elim
theorem jss_nil (h : N δ m) : JSs X en δ [] N RT BK CT m := .mk fun hb hx σ G H E hl W k1 k2 k3 k4 => wss_of pss_nil (k1 δ σ G H h hl W)
theorem jss_cons {st : Stmt} {rest : List Stmt} (h : JS X en δ st (fun δ1 m1 => JSs X en δ1 rest N RT BK CT m1) RT BK CT m) : JSs X en δ (st :: rest) N RT BK CT m := .mk fun hb hx σ G H E hl W k1 k2 k3 k4 =>
  wss_of (pss_cons ps_ws pss_wss) (h.run hb hx σ G H _ hl W (fun δ' σ' G' H' c hl' W' => c.run hb hx σ' G' H' E hl' W' k1 k2 k3 k4) k2 k3 k4)
theorem jss_one {st : Stmt} (h : JS X en δ st N RT BK CT m) : JSs X en δ [st] N RT BK CT m := .mk fun hb hx σ G H E hl W k1 k2 k3 k4 =>
  wss_of (pss_one ps_ws) (h.run hb hx σ G H E hl W k1 k2 k3 k4)
theorem js_expr {e : Expr} (h : JE X en δ [] e (fun s δ1 m1 => N δ1 m1) m) (hs : swapsWith e none pos.line X.env = pure false := by rfl) : JS X en δ (.Expr e pos) N RT BK CT m := .mk fun hb hx σ G H E hl W k1 k2 k3 k4 =>
  ws_of (ps_expr pe_we hs) (h.at hb hx hl W fun sl δ' v G' H' c hl' W' => k1 δ' σ G' H' c hl' (W'.one hl' (W.sl hl)))
/-- name = e -/
theorem js_set (i : Nat) {x : Str} {e : Expr} {pos' : Pos} (hN : X.N.Nodup) (h : JE X en δ [] e (fun s δ1 m1 => ∃ δ', δ1.set i s = δ' ∧ s.may = true ∧ noBo δ1 = true ∧ N δ' m1) m) (hi : X.N[i]? = some x := by rfl) (hx : Loc X.env.scope x := by first | exact Or.inl rfl | exact Or.inr rfl)
    (hs : swapsWith e (some (.Name x pos')) pos.line X.env = pure false := by rfl) (hf : X.fn x = true ∨ X.env.scope.names.lookup x = some .local := by first | exact .inl rfl | exact .inr rfl) : JS X en δ (.Assign [.Name x pos'] e pos) N RT BK CT m := .mk fun hb hx' σ G H E hl W k1 k2 k3 k4 =>
  ws_of (ps_set hN hi hx pe_we hs hf) (h.at hb hx' hl W fun sl δ1 v G' H' ⟨δ', e1, e2, e3, c⟩ hl' W' => by
    subst e1
    exact k1 _ _ G' H' c (by rw [List.length_set]; exact hl') (W'.give (hl'.trans (W.sl hl).symm) e3 e2 i))
/-- target = e, e standing fast -/
theorem js_asg {tg e : Expr} (h : JE X en δ [] e (fun s δ1 m1 => ∃ d is, s = .fr d ∧ JG X en δ1 [] tg d is N m1) m) (hs : swapsWithSole [tg] e pos.line X.env = pure false := by rfl) (hw : swappedStores [tg] e X.env = pure none := by rfl)
    (h1 : (assignEach [tg] X.env).map (·.2) = [assign tg X.env] := by rfl) : JS X en δ (.Assign [tg] e pos) N RT BK CT m := .mk fun hb hx' σ G H E hl W k1 k2 k3 k4 =>
  ws_of (ps_asg pe_we pg_wg hs hw h1) (h.at hb hx' hl W fun sl δ1 v G' H' ⟨d, is, e1, c⟩ hl' W' => by
    subst e1
    obtain ⟨v', e, r⟩ := W'.last
    cases e
    exact c.run hb hx' σ [] G' H' v _ hl' (W.sl hl) (by rw [List.append_nil, List.append_nil]; exact W'.one hl' (W.sl hl)) r fun δ2 σ2 G2 H2 c2 hl2 _ W2 _ _ => k1 δ2 σ2 G2 H2 c2 hl2 (by rw [List.append_nil, List.append_nil] at W2; exact W2))
theorem js_ret {e : Expr} (h : JE X en δ [] e (fun s δ1 m1 => RT s δ1 m1) m) : JS X en δ (.Return (some e) pos) N RT BK CT m := .mk fun hb hx' σ G H E hl W k1 k2 k3 k4 =>
  ws_of (ps_ret pe_we) (h.at hb hx' hl W fun sl δ1 v G' H' c hl' W' => k2 sl δ1 v σ G' H' c hl' W')
theorem js_if {c : Expr} {A B : List Stmt} (h : JT X en δ [] c (fun t δ1 m1 => ∃ mA mB, m1 = (if t = true then mA else mB) ∧ JSs X en δ1 A N RT BK CT mA ∧ JSs X en δ1 B N RT BK CT mB) m) : JS X en δ (.If c A B pos) N RT BK CT m := .mk fun hb hx' σ G H E hl W k1 k2 k3 k4 =>
  ws_of (ps_if pt_wt pss_wss pss_wss) (h.at hb hx' hl W fun t δ1 G1 H1 ⟨mA, mB, em, h1, h2⟩ hl1 W1 => by
    cases t with
    | true =>
      have e : m = mA := em
      subst e
      exact iteT (h1.run hb hx' σ G1 H1 E hl1 W1 k1 k2 k3 k4)
    | false =>
      have e : m = mB := em
      subst e
      exact iteF (h2.run hb hx' σ G1 H1 E hl1 W1 k1 k2 k3 k4))
/-- .. where nothing leaves within -/
theorem js_joinS {S : Type} {st : Stmt} (pe : S → List Slot) {m1 : Res S} {k : S → Res R}
    (h : JS X en δ st (fun δ' m' => ∃ a, m' = .ok a ∧ Le δ' (pe a)) (fun _ _ _ => False) (fun _ _ => False) (fun _ _ => False) m1)
    (hk : ∀ a, N (pe a) (k a)) : JS X en δ st N RT BK CT (m1.bind k) := .mk fun hb hx σ G H E hl W k1 k2 k3 k4 => by
  obtain ⟨hb1, hx1⟩ := bind_exc hb hx
  refine h.run hb1 hx1 σ G H E hl W (fun δ' σ' G' H' ⟨a, e1, le⟩ hl' W' => ?_) (fun s δ' v σ' G' H' c hl' W' => c.elim) (fun δ' σ' G' H' c hl' W' => c.elim) (fun δ' σ' G' H' c hl' W' => c.elim)
  subst e1
  exact k1 _ σ' G' H' (hk a) (le.len.symm.trans hl') (W'.le le)
end

/-! ### what is walked -/
def ItD (K : PySem.W.Frag) (J : It) (Gb Fb : Hp) (ds : List D) : Prop := ∀ (G H : Hp), Sub Gb G → Sub Fb H → Sub G H → ∀ i : Nat,
  (∀ d, ds[i]? = some d → J.go i H ∧ ∀ x H', J.yld i H x H' → ∃ G', Grow G H G' H' ∧ Rep K G' d x) ∧ (ds.length ≤ i → J.stop i H)
structure JI (X : Cx) (en : Kn) (δ τ : List Slot) (tg iter : Expr) {R : Type} (C : List D → List Slot → Res R → Prop) (m : Res R) : Prop where
  run : m ≠ .bad → en.HX m.exc → ∀ (σ ts : L2.St) (G H : Hp) (T : It → Hp → Prop), δ.length = en.n → σ.length = en.n → Wd X.K en (δ ++ τ) (σ ++ ts) G H →
    (∀ ds δ' J G' H', C ds δ' m → δ'.length = en.n → Wd X.K en (δ' ++ τ) (σ ++ ts) G' H' → ItD X.K J G' en.F0 ds → T J H') → WI X tg iter σ H T
/-- a list's or a tuple's items -/
def asL : D → Option (List D)
  | .lst ds => some ds
  | .tup ds => some ds
  | .scr ns => some (ns.map D.int)
  | _ => none
def Slot.stb : Slot → Option D
  | .fr d => some d
  | .bw d => some d
  | _ => none
def iAny (K : PySem.W.Frag) (tl : TE) : TI := fun σ H R => tl σ H fun x H1 => (∃ a, x = .ref a ∧ (∃ xs, SqL K H1 a xs) ∧ R (Itl K a) H1) ∨ ∃ a, x = .ref a ∧ (∃ xs, SqT K H1 a xs) ∧ R (Itt K a) H1
theorem pi_any {tg l : Expr} {tl : TE} (hl : PE X l tl) : PI X tg l (iAny X.K tl) := by
  refine ⟨fun pins s σ H R I h => ?_⟩
  refine thn (hl.run pins s σ H _ I h) fun v s1 ⟨x, H1, I1, r1, q1⟩ => ?_
  rcases q1 with ⟨a, e, ⟨xs, hq⟩, q⟩ | ⟨a, e, ⟨xs, hq⟩, q⟩
  · subst e
    cases r1
    obtain ⟨its, rv, p, hz⟩ := I1.list hq
    refine wpAny_pyIter_list p.isList ?_
    refine ⟨s1.heap.objs.size, [s1.heap.objs.size], _, _, H1, rfl, I1.kept (t' := s1.toks) fun b o e => Heap.get?_push_of_some _ e, turn_list a _, ⟨_, Heap.get?_push_size _ rfl, rfl, rfl⟩, fun b hb => ?_, q⟩
    have e : b = s1.heap.objs.size := by simpa using hb
    subst e
    exact I1.fpOk (Nat.le_refl _) (I1.hok.fresh (Nat.le_refl _))
  · subst e
    cases r1
    obtain ⟨its, rv, p, hz⟩ := I1.tuple hq
    refine wpAny_pyIter_tuple (show s1.heap.IsTuple a its.toArray from p) ?_
    refine ⟨s1.heap.objs.size, [s1.heap.objs.size], _, _, H1, rfl, I1.kept (t' := s1.toks) fun b o e => Heap.get?_push_of_some _ e, turn_tuple a _, ⟨_, Heap.get?_push_size _ rfl, rfl, rfl⟩, fun b hb => ?_, q⟩
    have e : b = s1.heap.objs.size := by simpa using hb
    subst e
    exact I1.fpOk (Nat.le_refl _) (I1.hok.fresh (Nat.le_refl _))
theorem itl_D {a : Addr} {vs : List V} {ds : List D} {Gb Fb : Hp} (h : ∀ H, Sub Fb H → Sub Gb H → SqL K H a vs) (r : Reps K Gb ds vs) : ItD K (Itl K a) Gb Fb ds := fun G H sg sf gh i => by
  have hq := h H sf (sg.trans gh)
  refine ⟨fun d e => ?_, fun hi => ⟨vs, hq, by rw [← r.length]; exact hi⟩⟩
  obtain ⟨x, h1, h2⟩ := r.get e
  refine ⟨⟨vs, x, hq, h1⟩, fun y H' hy => ?_⟩
  obtain ⟨e1, e2⟩ := hy
  subst e1
  have := e2 vs hq
  rw [h1] at this
  cases this
  exact ⟨G, Grow.refl gh, Rep.sub sg _ _ h2⟩
theorem itt_D {a : Addr} {vs : List V} {ds : List D} {Gb Fb : Hp} (h : ∀ H, Sub Fb H → Sub Gb H → SqT K H a vs) (r : Reps K Gb ds vs) : ItD K (Itt K a) Gb Fb ds := fun G H sg sf gh i => by
  have hq := h H sf (sg.trans gh)
  refine ⟨fun d e => ?_, fun hi => ⟨vs, hq, by rw [← r.length]; exact hi⟩⟩
  obtain ⟨x, h1, h2⟩ := r.get e
  refine ⟨⟨vs, x, hq, h1⟩, fun y H' hy => ?_⟩
  obtain ⟨e1, e2⟩ := hy
  subst e1
  have := e2 vs hq
  rw [h1] at this
  cases this
  exact ⟨G, Grow.refl gh, Rep.sub sg _ _ h2⟩
theorem ints_reps {G : Hp} : ∀ ns : List Int, Reps K G (ns.map D.int) (ns.map V.int)
  | [] => rfl
  | n :: ns => ⟨_, _, rfl, rfl, ints_reps ns⟩
/-- over a list or a tuple that isn't changed meanwhile -/
theorem ji_any {τ : List Slot} {tg e : Expr} {C : List D → List Slot → Res R → Prop} (h : JE X en δ τ e (fun s δ1 m1 => ∃ d k, s.stb = some d ∧ m1 = op (asL d) k ∧ ∀ ds, C ds δ1 (k ds)) m) : JI X en δ τ tg e C m := .mk fun hb hx σ ts G H T hl hσ W k => by
  refine wi_of (pi_any pe_we) ?_
  have ht : τ.length = ts.length := W.splitLen (hl.trans hσ.symm)
  refine h.run hb hx σ ts G H _ hl hσ W fun s δ1 v G1 H1 c1 hl1 W1 => ?_
  obtain ⟨d, k', e1, em, hk⟩ := c1
  have hb' := hb
  rw [em] at hb'
  obtain ⟨ds, ed⟩ := op_some hb'
  have em' : m = k' ds := by rw [em, ed]; rfl
  have hk2 := hk ds
  rw [← em'] at hk2
  have W2 := W1.cut (Δ := δ1 ++ τ) (S := σ ++ ts) (by rw [List.length_append, List.length_append]; omega) (by rw [List.length_append]; omega)
  have q := W1.last
  have key : ∀ d', VRep X.K G1 H1 d' v → d' = d → (∀ a vs, v = .ref a → SqL X.K H1 a vs → (∀ H, Sub en.F0 H → Sub G1 H → SqL X.K H a vs) ∨ True) → True := fun _ _ _ _ => trivial
  cases s with
  | un => cases e1
  | mu _ => cases e1
  | mp _ _ => cases e1
  | bo _ => cases e1
  | fr d' =>
    cases e1
    obtain ⟨u, eu, r⟩ := q
    cases eu
    cases d <;> first | cases ed | skip
    · obtain ⟨a, vs, e, q, r'⟩ := r
      subst e
      exact .inl ⟨a, rfl, ⟨vs, SqL.sub W2.sub (SqL.of q)⟩, k _ δ1 _ G1 H1 hk2 hl1 W2 (itl_D (fun H _ s => SqL.sub s (SqL.of q)) r')⟩
    · obtain ⟨a, vs, e, q, r'⟩ := r
      subst e
      exact .inr ⟨a, rfl, ⟨vs, SqT.sub W2.sub q⟩, k _ δ1 _ G1 H1 hk2 hl1 W2 (itt_D (fun H _ s => SqT.sub s q) r')⟩
    · obtain ⟨a, e, q⟩ := r
      subst e
      exact .inl ⟨a, rfl, ⟨_, SqL.sub W2.sub q⟩, k _ δ1 _ G1 H1 hk2 hl1 W2 (itl_D (fun H _ s => SqL.sub s q) (ints_reps _))⟩
  | bw d' =>
    cases e1
    obtain ⟨u, eu, ⟨M, hM, r⟩, _⟩ := q
    cases eu
    cases d <;> first | cases ed | skip
    · obtain ⟨a, vs, e, q, r'⟩ := r
      subst e
      exact .inl ⟨a, rfl, ⟨vs, SqL.sub (hM.sub W2.frm W2.sub) (SqL.of q)⟩, k _ δ1 _ G1 H1 hk2 hl1 W2 (itl_D (fun H s s2 => SqL.sub (hM.sub s s2) (SqL.of q)) r')⟩
    · obtain ⟨a, vs, e, q, r'⟩ := r
      subst e
      exact .inr ⟨a, rfl, ⟨vs, SqT.sub (hM.sub W2.frm W2.sub) q⟩, k _ δ1 _ G1 H1 hk2 hl1 W2 (itt_D (fun H s s2 => SqT.sub (hM.sub s s2) q) r')⟩
    · obtain ⟨a, e, q⟩ := r
      subst e
      exact .inl ⟨a, rfl, ⟨_, SqL.sub (hM.sub W2.frm W2.sub) q⟩, k _ δ1 _ G1 H1 hk2 hl1 W2 (itl_D (fun H s s2 => SqL.sub (hM.sub s s2) q) (ints_reps _))⟩
end
end BR

/-! K6: loops -/
namespace BR
open PySem PySem.Spec PyProof.Rows L2

/-- how a turn ends: on, out of the loop, or the whole with r -/
inductive LFlow (S R : Type) where
  | nx (s : S) | bk (s : S) | rt (r : R)
def forF {S R : Type} : List D → S → (D → S → Res (LFlow S R)) → Res (Flow S R)
  | [], s, _ => .ok (.nx s)
  | d :: ds, s, f => match f d s with
    | .ok (.nx s') => forF ds s' f
    | .ok (.bk s') => .ok (.nx s')
    | .ok (.rt r) => .ok (.ex r)
    | .raise x => .raise x
    | .bad => .bad
def forS {S : Type} : List D → S → (D → S → Res S) → Res S
  | [], s, _ => .ok s
  | d :: ds, s, f => (f d s).bind fun s' => forS ds s' f
def whileF {S R : Type} : Nat → S → (S → Res Bool) → (S → Res (LFlow S R)) → Res (Flow S R)
  | 0, _, _, _ => .bad
  | n + 1, s, t, f => (t s).bind fun b => if b = true then (match f s with
    | .ok (.nx s') => whileF n s' t f
    | .ok (.bk s') => .ok (.nx s')
    | .ok (.rt r) => .ok (.ex r)
    | .raise x => .raise x
    | .bad => .bad) else .ok (.nx s)
def whileS {S : Type} : Nat → S → (S → Res Bool) → (S → Res S) → Res S
  | 0, _, _, _ => .bad
  | n + 1, s, t, f => (t s).bind fun b => if b = true then (f s).bind fun s' => whileS n s' t f else .ok s
def toL {S R : Type} (m : Res S) : Res (LFlow S R) := m.bind fun s => .ok (.nx s)
theorem forS_F {S R : Type} (f : D → S → Res S) (k : S → Res R) : ∀ (ds : List D) (s : S), (forS ds s f).bind k = fbind (forF ds s fun d a => (toL (f d a) : Res (LFlow S R))) k
  | [], s => rfl
  | d :: ds, s => by
    unfold forS forF
    cases e : f d s with
    | ok a =>
      simp only [toL, Res.bind, fbind, e]
      exact forS_F f k ds a
    | raise x => simp only [toL, Res.bind, fbind, e]
    | bad => simp only [toL, Res.bind, fbind, e]
/-- the same, begun later -/
structure KnLe (en en' : Kn) : Prop where
  n : en'.n = en.n
  F0 : en'.F0 = en.F0
  ps : en'.ps = en.ps
  HX : en'.HX = en.HX
abbrev Kn.at (en : Kn) (G : Hp) : Kn := { en with G0 := G }
theorem Kn.le (en : Kn) (G : Hp) : KnLe en (en.at G) := ⟨rfl, rfl, rfl, rfl⟩
section
variable {K : PySem.W.Frag} {en : Kn} {δ δ' : List Slot} {σ σ' : L2.St} {G H G' H' : Hp}
theorem Wd.from (W : Wd K en δ σ G H) : Wd K (en.at G) δ σ G H :=
  ⟨W.len, W.sub, Sub.refl _, fun a o e => .inl e, W.frm, W.stay, W.nd, fun i sl o h1 h2 => by
    have q := W.slot i sl o h1 h2
    cases sl <;> exact q, W.apart⟩
theorem Wd.back (W : Wd K en δ σ G H) (W' : Wd K (en.at G) δ' σ' G' H') : Wd K en δ' σ' G' H' :=
  ⟨W'.len, W'.sub, W.ext.trans W'.ext, fun a o e => by
    rcases W'.new a o e with q | q
    · exact W.new a o q
    · exact .inr q, W'.frm, W'.stay, W'.nd, fun i sl o h1 h2 => by
    have q := W'.slot i sl o h1 h2
    cases sl <;> exact q, W'.apart⟩
end
section
variable {X : Cx} {en : Kn} {δ : List Slot} {R : Type} {m : Res R} {K : PySem.W.Frag}
variable {N : List Slot → Res R → Prop} {RT : Slot → List Slot → Res R → Prop} {BK CT : List Slot → Res R → Prop} {pos : Pos}

theorem js_for {S : Type} {tg iter : Expr} {body : List Stmt} (hp : PassesOwn (model X.prog X.w) X.A X.env X.xe) (hc : X.calm = true)
    (h : JI X en δ [] tg iter (fun ds δ1 m1 => ∃ (a0 : S) (f : D → S → Res (LFlow S R)) (k : S → Res R) (pe : S → List Slot), m1 = fbind (forF ds a0 f) k ∧ Le δ1 (pe a0) ∧
      (∀ en', KnLe en en' → ∀ d a, ∃ is, JG X en' (pe a) [] tg d is (fun δ2 m2 => JSs X en' δ2 body (fun δ' m' => ∃ a', m' = .ok (.nx a') ∧ Le δ' (pe a')) (fun s δ' m' => ∃ r, m' = .ok (.rt r) ∧ RT s δ' (.ok r)) (fun δ' m' => ∃ a', m' = .ok (.bk a') ∧ Le δ' (pe a')) (fun δ' m' => ∃ a', m' = .ok (.nx a') ∧ Le δ' (pe a')) m2) (f d a)) ∧ ∀ a, N (pe a) (k a)) m)
    (hs : ∀ x, foldedSetIterable iter X.env x = pure x := by intro _; rfl) : JS X en δ (.For tg iter body [] pos) N RT BK CT m := .mk fun hb hx σ G H E hl W k1 k2 k3 k4 => by
  refine ws_of (ps_for hp hc pi_wi pg_wg pss_wss hs) ?_
  refine h.run hb hx σ [] G H _ hl (W.sl hl) (by rw [List.append_nil, List.append_nil]; exact W) fun ds δ1 J G1 H1 c hl1 W1 it => ?_
  rw [List.append_nil, List.append_nil] at W1
  obtain ⟨a0, f, k, pe, em, le0, turn, hN⟩ := c
  have turn := turn (en.at G1)
  refine ⟨fun i n σ H => n = ds.length - i ∧ i ≤ ds.length ∧ ∃ a G2, (pe a).length = en.n ∧ Wd X.K (en.at G1) (pe a) σ G2 H ∧ m = fbind (forF (ds.drop i) a f) k, ⟨ds.length, by simp, Nat.zero_le _, a0, G1, le0.len.symm.trans hl1, (W1.le le0).from, em⟩, ?_⟩
  rintro i n σ2 H2 ⟨rfl, hi, a, G2, hla, W2, em2⟩
  obtain ⟨go, stop⟩ := it G2 H2 W2.ext W2.frm W2.sub i
  by_cases hlt : i < ds.length
  · obtain ⟨g1, g2⟩ := go ds[i] (List.getElem?_eq_getElem hlt)
    refine .inr ⟨g1, fun σ' H' => ∃ a' G', (pe a').length = en.n ∧ Wd X.K (en.at G1) (pe a') σ' G' H' ∧ m = fbind (forF (ds.drop (i + 1)) a' f) k, fun σ' H' hn => ⟨ds.length - (i + 1), by omega, rfl, hlt, hn⟩, fun x H' hy => ?_⟩
    obtain ⟨G3, gr, rx⟩ := g2 x H' hy
    have ed : ds.drop i = ds[i] :: ds.drop (i + 1) := by rw [List.drop_eq_getElem_cons hlt]
    rw [ed] at em2
    unfold forF at em2
    have hfb : f ds[i] a ≠ .bad := fun z => by rw [z] at em2; exact hb em2
    have hfx : en.HX (f ds[i] a).exc := by
      cases ef : f ds[i] a with
      | ok _ => exact en.h0
      | raise x => rw [ef] at em2; rw [em2] at hx; exact hx
      | bad => exact en.h0
    obtain ⟨is, turn⟩ := turn ⟨rfl, rfl, rfl, rfl⟩ ds[i] a
    refine turn.run hfb hfx σ2 [] G3 H' x _ hla (W2.sl hla) (by rw [List.append_nil, List.append_nil]; exact W2.grow gr) rx fun δ3 σ3 G4 H3 c3 hl3 _ W3 sb3 _ => ?_
    rw [List.append_nil, List.append_nil] at W3
    refine c3.run hfb hfx σ3 G4 H3 _ hl3 W3 (fun δ' σ' G' H' ⟨a', e1, le⟩ hl' W' => ?_) (fun s δ' v σ' G' H' ⟨r, e1, c⟩ hl' W' => ?_) (fun δ' σ' G' H' ⟨a', e1, le⟩ hl' W' => ?_) (fun δ' σ' G' H' ⟨a', e1, le⟩ hl' W' => ?_)
    · rw [e1] at em2
      exact ⟨a', G', le.len.symm.trans hl', W'.le le, em2⟩
    · rw [e1] at em2
      have em3 : m = .ok r := em2
      exact k2 s δ' v σ' G' H' (by rw [em3]; exact c) hl' (Wd.back (en := en) W1 W')
    · rw [e1] at em2
      have em3 : m = k a' := em2
      have := hN a'
      rw [← em3] at this
      exact k1 _ σ' G' H' this (le.len.symm.trans hl') (W1.back (W'.le le))
    · rw [e1] at em2
      exact ⟨a', G', le.len.symm.trans hl', W'.le le, em2⟩
  · have e : i = ds.length := by omega
    subst e
    refine .inl ⟨stop (Nat.le_refl _), ?_⟩
    rw [List.drop_length] at em2
    have em3 : m = k a := em2
    have := hN a
    rw [← em3] at this
    exact k1 _ σ2 G2 H2 this hla (W1.back W2)
theorem JI.conv {τ : List Slot} {tg iter : Expr} {C C' : List D → List Slot → Res R → Prop} (h : JI X en δ τ tg iter C m) (k : ∀ ds δ', C ds δ' m → C' ds δ' m) : JI X en δ τ tg iter C' m := .mk fun hb hx σ ts G H T hl hσ W q =>
  h.run hb hx σ ts G H T hl hσ W fun ds δ' J G' H' c hl' W' it => q ds δ' J G' H' (k _ _ c) hl' W' it
theorem JG.conv {τ : List Slot} {is : List Nat} {R' : Type} {tg : Expr} {d : D} {N : List Slot → Res R → Prop} {N' : List Slot → Res R' → Prop} {m' : Res R'} (h : JG X en δ τ tg d is N m) (hb : m' ≠ .bad → m ≠ .bad) (hx : m'.exc = m.exc) (k : ∀ δ', N δ' m → N' δ' m') : JG X en δ τ tg d is N' m' := .mk fun hb' hx' σ ts G H v T hl hσ W r q =>
  h.run (hb hb') (hx ▸ hx') σ ts G H v T hl hσ W r fun δ' σ' G' H' c hl' hσ' W' sb on => q δ' σ' G' H' (k _ c) hl' hσ' W' sb on
theorem JSs.conv {R' : Type} {st : List Stmt} {N' : List Slot → Res R' → Prop} {RT' : Slot → List Slot → Res R' → Prop} {BK' CT' : List Slot → Res R' → Prop} {m' : Res R'} (h : JSs X en δ st N RT BK CT m) (hb : m' ≠ .bad → m ≠ .bad) (hx : m'.exc = m.exc)
    (k1 : ∀ δ', N δ' m → N' δ' m') (k2 : ∀ s δ', RT s δ' m → RT' s δ' m') (k3 : ∀ δ', BK δ' m → BK' δ' m') (k4 : ∀ δ', CT δ' m → CT' δ' m') : JSs X en δ st N' RT' BK' CT' m' := .mk fun hb' hx' σ G H E hl W q1 q2 q3 q4 =>
  h.run (hb hb') (hx ▸ hx') σ G H E hl W (fun δ' σ' G' H' c hl' W' => q1 δ' σ' G' H' (k1 _ c) hl' W') (fun s δ' v σ' G' H' c hl' W' => q2 s δ' v σ' G' H' (k2 _ _ c) hl' W') (fun δ' σ' G' H' c hl' W' => q3 δ' σ' G' H' (k3 _ c) hl' W') (fun δ' σ' G' H' c hl' W' => q4 δ' σ' G' H' (k4 _ c) hl' W')
theorem toL_bad {S : Type} {m1 : Res S} (h : (toL m1 : Res (LFlow S R)) ≠ .bad) : m1 ≠ .bad := fun z => by subst z; exact h rfl
theorem toL_exc {S : Type} (m1 : Res S) : (toL m1 : Res (LFlow S R)).exc = m1.exc := by cases m1 <;> rfl
/-- a for loop out of which nothing leads -/
theorem js_forS {S : Type} {tg iter : Expr} {body : List Stmt} (hp : PassesOwn (model X.prog X.w) X.A X.env X.xe) (hc : X.calm = true)
    (h : JI X en δ [] tg iter (fun ds δ1 m1 => ∃ (a0 : S) (f : D → S → Res S) (k : S → Res R) (pe : S → List Slot), m1 = (forS ds a0 f).bind k ∧ Le δ1 (pe a0) ∧
      (∀ en', KnLe en en' → ∀ d a, ∃ is, JG X en' (pe a) [] tg d is (fun δ2 m2 => JSs X en' δ2 body (fun δ' m' => ∃ a', m' = .ok a' ∧ Le δ' (pe a')) (fun _ _ _ => False) (fun _ _ => False) (fun δ' m' => ∃ a', m' = .ok a' ∧ Le δ' (pe a')) m2) (f d a)) ∧ ∀ a, N (pe a) (k a)) m)
    (hs : ∀ x, foldedSetIterable iter X.env x = pure x := by intro _; rfl) : JS X en δ (.For tg iter body [] pos) N RT BK CT m := by
  refine js_for (S := S) hp hc (h.conv fun ds δ1 c => ?_) hs
  obtain ⟨a0, f, k, pe, em, le, turn, hN⟩ := c
  refine ⟨a0, fun d a => toL (f d a), k, pe, em.trans (forS_F f k ds a0), le, fun en' he d a => ?_, hN⟩
  obtain ⟨is, tr⟩ := turn en' he d a
  refine ⟨is, tr.conv toL_bad (toL_exc _) fun δ' c => ?_⟩
  refine c.conv toL_bad (toL_exc _) (fun δ2 ⟨a', e1, le⟩ => ⟨a', ?_, le⟩) (fun _ _ z => z.elim) (fun _ z => z.elim) (fun δ2 ⟨a', e1, le⟩ => ⟨a', ?_, le⟩)
  · show toL (f d a) = _
    rw [e1]; rfl
  · show toL (f d a) = _
    rw [e1]; rfl
/-! ### ranges -/
def upto (lo : Int) (n : Nat) : List D := (List.range n).map fun (i : Nat) => D.int (lo + (i : Int))
/-- the numbers of range(..) -/
def rngD : List D → Option (List D)
  | [.int j] => if -(2 ^ 62) ≤ j ∧ j < 2 ^ 62 then some (upto 0 j.toNat) else none
  | [.int i, .int j] => if (-(2 ^ 62) ≤ i ∧ i < 2 ^ 62) ∧ -(2 ^ 62) ≤ j ∧ j < 2 ^ 62 then some (upto i (j - i).toNat) else none
  | _ => none
theorem itr_D {lo : Int} {n : Nat} {Gb Fb : Hp} : ItD K (Itr lo n) Gb Fb (upto lo n) := fun G H sg sf gh i => by
  refine ⟨fun d e => ?_, fun hi => (by simpa [upto] using hi : n ≤ i)⟩
  have hi : i < n := by
    have := (List.getElem?_eq_some_iff.mp e).1
    simpa [upto] using this
  refine ⟨hi, fun x H' hy => ?_⟩
  obtain ⟨e1, e2⟩ := hy
  subst e1
  have e3 : d = .int (lo + i) := by
    unfold upto at e
    rw [List.getElem?_map, List.getElem?_range hi] at e
    exact (Option.some.inj e).symm
  subst e3
  exact ⟨G, Grow.refl gh, e2⟩
theorem ji_range1 {τ : List Slot} {tg a : Expr} {p pos : Pos} {C : List D → List Slot → Res R → Prop} (hm : X.mg "range" = none)
    (h : JE X en δ τ a (fun s δ1 m1 => ∃ d k, s.rd δ1 = some d ∧ m1 = op (rngD [d]) k ∧ ∀ ds, C ds δ1 (k ds)) m) (hg : Gl X "range" := by rfl) (hs : starEach [a] X.env = [(false, eval a X.env)] := by rfl) : JI X en δ τ tg (.Call (.Name "range" p) [a] [] pos) C m := .mk fun hb hx σ ts G H T hl hσ W k => by
  refine wi_of (pi_range1 hg hm (pa_cons pe_we pa_nil (by rw [hs]; rfl)) hs) ?_
  have ht : τ.length = ts.length := W.splitLen (hl.trans hσ.symm)
  refine h.run hb hx σ ts G H _ hl hσ W fun s δ1 v G1 H1 c1 hl1 W1 => ?_
  obtain ⟨d, k', e1, em, hk⟩ := c1
  have hb' := hb
  rw [em] at hb'
  obtain ⟨ds, ed⟩ := op_some hb'
  have em' : m = k' ds := by rw [em, ed]; rfl
  have hk2 := hk ds
  rw [← em'] at hk2
  obtain ⟨⟨_, _, ez, r1, _⟩, Wn⟩ := Wd.ends (sls := [s]) (vs := [v]) W1 (hl1.trans hσ.symm) ht (ds := [d]) (by simp only [rds, e1])
  cases ez
  match d, ed, r1 with
  | .int j, ed, r1 =>
    have r1' : v = .int j := r1
    subst r1'
    have ed' : (if -(2 ^ 62) ≤ j ∧ j < 2 ^ 62 then some (upto 0 j.toNat) else none) = some ds := ed
    by_cases hj : -(2 ^ 62) ≤ j ∧ j < 2 ^ 62
    · rw [if_pos hj] at ed'
      cases ed'
      exact ⟨j, rfl, hj.1, hj.2, k _ δ1 _ G1 H1 hk2 hl1 (Wn (by omega)) itr_D⟩
    · rw [if_neg hj] at ed'; cases ed'
  | .non, ed, _ => cases ed
  | .bl _, ed, _ => cases ed
  | .str _, ed, _ => cases ed
  | .lst _, ed, _ => cases ed
  | .tup _, ed, _ => cases ed
  | .dic _, ed, _ => cases ed
  | .scr _, ed, _ => cases ed
  | .exc _ _, ed, _ => cases ed
  | .obj _ _, ed, _ => cases ed
end
end BR

/-! K7: what a def promises, its body, its call -/
namespace BR
open PySem PySem.Spec PyProof.Rows L2

/-- how a parameter is handed: standing fast; read alone; to be changed -/
inductive Kd where
  | f | b | m
def nms : List Kd → Nat
  | [] => 0
  | .f :: r => nms r
  | .b :: r => nms r
  | .m :: r => nms r + 1
def hide (H : Hp) (ps : List Addr) : Hp := fun a => if a ∈ ps then none else H a
theorem hide_sub {H : Hp} {ps : List Addr} : Sub (hide H ps) H := fun a o e => by
  unfold hide at e
  split at e
  · cases e
  · exact e
theorem hide_none {H : Hp} {ps : List Addr} {p : Addr} (h : p ∈ ps) : hide H ps p = none := if_pos h
theorem hide_some {H : Hp} {ps : List Addr} {p : Addr} (h : p ∉ ps) : hide H ps p = H p := if_neg h
def ArgsOk (K : PySem.W.Frag) (G H F0 : Hp) : List Kd → List D → List V → List Addr → Prop
  | [], [], [], [] => True
  | .f :: ks, d :: ds, v :: vs, ps => Rep K G d v ∧ ArgsOk K G H F0 ks ds vs ps
  | .b :: ks, d :: ds, v :: vs, ps => BRep K G F0 d v ∧ ArgsOk K G H F0 ks ds vs ps
  | .m :: ks, d :: ds, v :: vs, p :: ps => (v = .ref p ∧ G p = none ∧ MRep K G H d p) ∧ ArgsOk K G H F0 ks ds vs ps
  | _, _, _, _ => False
/-- what stands for an error that leaves a def -/
def ExcOk (mg : Str → Option Value) (F0 : Hp) (ps : List Addr) (x : Exc) (cls : Value) (d : Option Addr) (H : Hp) : Prop :=
  ∃ C, mg x.cls = some (.ref C) ∧ cls = .ref C ∧ ((x.fs = [] ∧ d = none) ∨ (x.fs ≠ [] ∧ ∃ a, d = some a ∧ H a = some (.xd (xfV x.fs)) ∧ F0 a = none ∧ a ∉ ps))
theorem ExcOk.to {mg : Str → Option Value} {F F' : Hp} {ps ps' : List Addr} {x : Exc} {cls : Value} {d : Option Addr} {H : Hp} (h : ExcOk mg F ps x cls d H) (k : ∀ a, F a = none → a ∉ ps → F' a = none ∧ a ∉ ps') : ExcOk mg F' ps' x cls d H := by
  obtain ⟨C, h1, h2, h3⟩ := h
  refine ⟨C, h1, h2, ?_⟩
  rcases h3 with h3 | ⟨h3, a, h4, h5, h6, h7⟩
  · exact .inl h3
  · obtain ⟨k1, k2⟩ := k a h6 h7
    exact .inr ⟨h3, a, h4, h5, k1, k2⟩
theorem Wd.exc {K : PySem.W.Frag} {mg : Str → Option Value} {en : Kn} {δ : List Slot} {σ : L2.St} {G H H' : Hp} {ps : List Addr} {x : Exc} {cls : Value} {d : Option Addr} (W : Wd K en δ σ G H) (h : ExcOk mg (hide H ps) ps x cls d H') : ExcOk mg en.F0 en.ps x cls d H' :=
  h.to fun a h1 h2 => by
    rw [hide_some h2] at h1
    refine ⟨?_, fun z => W.stay a z h1⟩
    cases z : en.F0 a with
    | none => rfl
    | some o => rw [W.frm a o z] at h1; cases h1
/-- behind a run: what stands fast has grown, what was tracked is as it was but for the lists ps -/
structure Post (G H G' H' : Hp) (ps : List Addr) : Prop where
  g : Sub G G'
  gh : Sub G' H'
  new : ∀ a o, G' a = some o → G a = some o ∨ H a = none
  frm : ∀ a o, H a = some o → a ∉ ps → H' a = some o
def OutsOk (K : PySem.W.Frag) (G' H' : Hp) : List D → List Addr → Prop
  | [], [] => True
  | d :: ds, p :: ps => (G' p = none ∧ MRep K G' H' d p) ∧ OutsOk K G' H' ds ps
  | _, _ => False
def RetOk (K : PySem.W.Frag) (G' H H' : Hp) (mu : Bool) (d : D) (v : V) : Prop :=
  if mu = true then ∃ p, v = .ref p ∧ H p = none ∧ G' p = none ∧ MRep K G' H' d p else Rep K G' d v
def SpD (K : PySem.W.Frag) (mg : Str → Option Value) (ks : List Kd) {α : Type} (f : List D → Res α) (val : α → D) (outs : α → List D) (mu : Bool) : Sp := fun vs H Q E =>
  vs.length = ks.length ∧ ∃ (G : Hp) (ps : List Addr) (ds : List D) (r : Res α), Sub G H ∧ ps.Nodup ∧ ArgsOk K G H (hide H ps) ks ds vs ps ∧ f ds = r ∧ r ≠ .bad ∧
    (∀ a, r = .ok a → ∀ v G' H', Post G H G' H' ps → OutsOk K G' H' (outs a) ps → RetOk K G' H H' mu (val a) v → Q v H') ∧
    (∀ x, r = .raise x → ∀ cls d H', ExcOk mg (hide H ps) ps x cls d H' → Sub (hide H ps) H' → E cls d H')

/-- the names' slots at a def's entry -/
def slots0 : Nat → List Kd → List D → List Slot
  | j, .f :: ks, d :: ds => .fr d :: slots0 j ks ds
  | j, .b :: ks, d :: ds => .bw d :: slots0 j ks ds
  | j, .m :: ks, d :: ds => .mp j d :: slots0 (j + 1) ks ds
  | _, _, _ => []
section
variable {K : PySem.W.Frag} {en : Kn} {G H : Hp}
theorem args_len : ∀ {ks : List Kd} {ds : List D} {vs : List V} {ps : List Addr} {F0 : Hp}, ArgsOk K G H F0 ks ds vs ps → ds.length = ks.length ∧ vs.length = ks.length
  | [], [], [], [], _, _ => ⟨rfl, rfl⟩
  | .f :: ks, d :: ds, v :: vs, ps, _, h => by have := args_len h.2; simp [this.1, this.2]
  | .b :: ks, d :: ds, v :: vs, ps, _, h => by have := args_len h.2; simp [this.1, this.2]
  | .m :: ks, d :: ds, v :: vs, p :: ps, _, h => by have := args_len h.2; simp [this.1, this.2]
  | [], _ :: _, _, _, _, h => h.elim
  | [], [], _ :: _, _, _, h => h.elim
  | [], [], [], _ :: _, _, h => h.elim
  | .f :: _, [], _, _, _, h => h.elim
  | .f :: _, _ :: _, [], _, _, h => h.elim
  | .b :: _, [], _, _, _, h => h.elim
  | .b :: _, _ :: _, [], _, _, h => h.elim
  | .m :: _, [], _, _, _, h => h.elim
  | .m :: _, _ :: _, [], _, _, h => h.elim
  | .m :: _, _ :: _, _ :: _, [], _, h => h.elim
theorem slots0_len : ∀ {ks : List Kd} {ds : List D} {j : Nat}, ds.length = ks.length → (slots0 j ks ds).length = ks.length
  | [], [], _, _ => rfl
  | [], _ :: _, _, h => nomatch h
  | _ :: _, [], _, h => nomatch h
  | .f :: ks, d :: ds, j, h => by simp [slots0, slots0_len (ks := ks) (ds := ds) (j := j) (by simpa using h)]
  | .b :: ks, d :: ds, j, h => by simp [slots0, slots0_len (ks := ks) (ds := ds) (j := j) (by simpa using h)]
  | .m :: ks, d :: ds, j, h => by simp [slots0, slots0_len (ks := ks) (ds := ds) (j := j + 1) (by simpa using h)]
theorem args_slot : ∀ {ks : List Kd} {ds : List D} {vs : List V} {ps' : List Addr} {F0 : Hp} {j : Nat} {i : Nat} {sl : Slot} {S : L2.St}, ArgsOk K G H F0 ks ds vs ps' → F0 = en.F0 → (∀ (l : Nat) p, ps'[l]? = some p → en.ps[j + l]? = some p) → (∀ p, p ∈ en.ps → en.F0 p = none) →
    (slots0 j ks ds)[i]? = some sl → ∃ v, vs[i]? = some v ∧ SlotOk K en S G H sl (some v) ∧ ∀ d, sl ≠ .mu d
  | [], [], [], [], _, _, _, _, _, _, _, _, _, e => by simp [slots0] at e
  | .f :: ks, d :: ds, v :: vs, ps, _, j, 0, sl, S, h, _, _, _, e => by
    have e' : Slot.fr d = sl := by simpa [slots0] using e
    subst e'
    exact ⟨v, rfl, ⟨v, rfl, h.1⟩, fun d z => by cases z⟩
  | .f :: ks, d :: ds, v :: vs, ps, _, j, i + 1, sl, S, h, hf, hj, hp, e => by
    simpa using args_slot (i := i) h.2 hf hj hp (by simpa [slots0] using e)
  | .b :: ks, d :: ds, v :: vs, ps, _, j, 0, sl, S, h, hf, _, _, e => by
    have e' : Slot.bw d = sl := by simpa [slots0] using e
    subst e'
    exact ⟨v, rfl, ⟨v, rfl, by rw [← hf]; exact h.1⟩, fun d z => by cases z⟩
  | .b :: ks, d :: ds, v :: vs, ps, _, j, i + 1, sl, S, h, hf, hj, hp, e => by
    simpa using args_slot (i := i) h.2 hf hj hp (by simpa [slots0] using e)
  | .m :: ks, d :: ds, v :: vs, p :: ps, _, j, 0, sl, S, h, hf, hj, hp, e => by
    have e' : Slot.mp j d = sl := by simpa [slots0] using e
    subst e'
    obtain ⟨⟨e1, e2, e3⟩, _⟩ := h
    have hpp : en.ps[j]? = some p := hj 0 p rfl
    exact ⟨v, rfl, ⟨p, by rw [e1], hpp, e2, hp p (List.mem_of_getElem? hpp), e3⟩, fun d z => by cases z⟩
  | .m :: ks, d :: ds, v :: vs, p :: ps, _, j, i + 1, sl, S, h, hf, hj, hp, e => by
    simpa using args_slot (i := i) (j := j + 1) h.2 hf (fun l q hq => by have := hj (l + 1) q (by simpa using hq); rw [Nat.add_assoc, Nat.add_comm 1 l]; exact this) hp (by simpa [slots0] using e)
  | [], _ :: _, _, _, _, _, _, _, _, h, _, _, _, _ => h.elim
  | [], [], _ :: _, _, _, _, _, _, _, h, _, _, _, _ => h.elim
  | [], [], [], _ :: _, _, _, _, _, _, h, _, _, _, _ => h.elim
  | .f :: _, [], _, _, _, _, _, _, _, h, _, _, _, _ => h.elim
  | .f :: _, _ :: _, [], _, _, _, _, _, _, h, _, _, _, _ => h.elim
  | .b :: _, [], _, _, _, _, _, _, _, h, _, _, _, _ => h.elim
  | .b :: _, _ :: _, [], _, _, _, _, _, _, h, _, _, _, _ => h.elim
  | .m :: _, [], _, _, _, _, _, _, _, h, _, _, _, _ => h.elim
  | .m :: _, _ :: _, [], _, _, _, _, _, _, h, _, _, _, _ => h.elim
  | .m :: _, _ :: _, _ :: _, [], _, _, _, _, _, h, _, _, _, _ => h.elim
theorem args_there : ∀ {ks : List Kd} {ds : List D} {vs : List V} {ps : List Addr} {F0 : Hp}, ArgsOk K G H F0 ks ds vs ps → ∀ p, p ∈ ps → H p ≠ none ∧ G p = none
  | [], [], [], [], _, _, p, hp => absurd hp (by simp)
  | .f :: ks, d :: ds, v :: vs, ps, _, h, p, hp => args_there h.2 p hp
  | .b :: ks, d :: ds, v :: vs, ps, _, h, p, hp => args_there h.2 p hp
  | .m :: ks, d :: ds, v :: vs, q :: ps, _, h, p, hp => by
    rcases List.mem_cons.mp hp with e | hp
    · subst e
      obtain ⟨o, e⟩ := h.1.2.2.ex
      exact ⟨by rw [e]; simp, h.1.2.1⟩
    · exact args_there h.2 p hp
  | [], _ :: _, _, _, _, h, _, _ => h.elim
  | [], [], _ :: _, _, _, h, _, _ => h.elim
  | [], [], [], _ :: _, _, h, _, _ => h.elim
  | .f :: _, [], _, _, _, h, _, _ => h.elim
  | .f :: _, _ :: _, [], _, _, h, _, _ => h.elim
  | .b :: _, [], _, _, _, h, _, _ => h.elim
  | .b :: _, _ :: _, [], _, _, h, _, _ => h.elim
  | .m :: _, [], _, _, _, h, _, _ => h.elim
  | .m :: _, _ :: _, [], _, _, h, _, _ => h.elim
  | .m :: _, _ :: _, _ :: _, [], _, h, _, _ => h.elim
theorem mp_ge : ∀ {ks : List Kd} {ds : List D} {j i x : Nat} {d : D}, (slots0 j ks ds)[i]? = some (.mp x d) → j ≤ x
  | [], _, _, _, _, _, h => by simp [slots0] at h
  | _ :: _, [], _, _, _, _, h => by simp [slots0] at h
  | .f :: ks, e :: ds, j, 0, x, d, h => by simp [slots0] at h
  | .b :: ks, e :: ds, j, 0, x, d, h => by simp [slots0] at h
  | .m :: ks, e :: ds, j, 0, x, d, h => by simp [slots0] at h; omega
  | .f :: ks, e :: ds, j, i + 1, x, d, h => mp_ge (ks := ks) (ds := ds) (i := i) (d := d) (by simpa [slots0] using h)
  | .b :: ks, e :: ds, j, i + 1, x, d, h => mp_ge (ks := ks) (ds := ds) (i := i) (d := d) (by simpa [slots0] using h)
  | .m :: ks, e :: ds, j, i + 1, x, d, h => Nat.le_of_succ_le (mp_ge (ks := ks) (ds := ds) (j := j + 1) (i := i) (d := d) (by simpa [slots0] using h))
theorem mp_inj : ∀ {ks : List Kd} {ds : List D} {j i l x : Nat} {d d' : D}, (slots0 j ks ds)[i]? = some (.mp x d) → (slots0 j ks ds)[l]? = some (.mp x d') → i = l
  | [], _, _, _, _, _, _, _, h, _ => by simp [slots0] at h
  | _ :: _, [], _, _, _, _, _, _, h, _ => by simp [slots0] at h
  | .f :: ks, e :: ds, j, 0, _, x, d, d', h, _ => by simp [slots0] at h
  | .b :: ks, e :: ds, j, 0, _, x, d, d', h, _ => by simp [slots0] at h
  | .f :: ks, e :: ds, j, _ + 1, 0, x, d, d', _, h => by simp [slots0] at h
  | .b :: ks, e :: ds, j, _ + 1, 0, x, d, d', _, h => by simp [slots0] at h
  | .f :: ks, e :: ds, j, i + 1, l + 1, x, d, d', h, h2 => congrArg (· + 1) (mp_inj (ks := ks) (ds := ds) (j := j) (by simpa [slots0] using h) (by simpa [slots0] using h2))
  | .b :: ks, e :: ds, j, i + 1, l + 1, x, d, d', h, h2 => congrArg (· + 1) (mp_inj (ks := ks) (ds := ds) (j := j) (by simpa [slots0] using h) (by simpa [slots0] using h2))
  | .m :: ks, e :: ds, j, i + 1, l + 1, x, d, d', h, h2 => congrArg (· + 1) (mp_inj (ks := ks) (ds := ds) (j := j + 1) (by simpa [slots0] using h) (by simpa [slots0] using h2))
  | .m :: ks, e :: ds, j, 0, 0, x, d, d', _, _ => rfl
  | .m :: ks, e :: ds, j, 0, l + 1, x, d, d', h, h2 => by
    have h3 : j = x := by simp [slots0] at h; exact h.1
    have := mp_ge (ks := ks) (ds := ds) (j := j + 1) (i := l) (x := x) (d := d') (by simpa [slots0] using h2)
    omega
  | .m :: ks, e :: ds, j, i + 1, 0, x, d, d', h, h2 => by
    have h3 : j = x := by simp [slots0] at h2; exact h2.1
    have := mp_ge (ks := ks) (ds := ds) (j := j + 1) (i := i) (x := x) (d := d) (by simpa [slots0] using h)
    omega
theorem args_ps : ∀ {ks : List Kd} {ds : List D} {vs : List V} {ps : List Addr} {F0 : Hp}, ArgsOk K G H F0 ks ds vs ps → ps.length = nms ks
  | [], [], [], [], _, _ => rfl
  | .f :: ks, d :: ds, v :: vs, ps, _, h => (args_ps (ks := ks) h.2 : _)
  | .b :: ks, d :: ds, v :: vs, ps, _, h => (args_ps (ks := ks) h.2 : _)
  | .m :: ks, d :: ds, v :: vs, q :: ps, _, h => congrArg (· + 1) (args_ps h.2)
  | [], _ :: _, _, _, _, h => h.elim
  | [], [], _ :: _, _, _, h => h.elim
  | [], [], [], _ :: _, _, h => h.elim
  | .f :: _, [], _, _, _, h => h.elim
  | .f :: _, _ :: _, [], _, _, h => h.elim
  | .b :: _, [], _, _, _, h => h.elim
  | .b :: _, _ :: _, [], _, _, h => h.elim
  | .m :: _, [], _, _, _, h => h.elim
  | .m :: _, _ :: _, [], _, _, h => h.elim
  | .m :: _, _ :: _, _ :: _, [], _, h => h.elim
theorem Wd.start {N : List Str} {ks : List Kd} {ds : List D} {vs : List V} (hG : Sub G H) (h0 : en.G0 = G) (hF : en.F0 = hide H en.ps) (hn : en.ps.Nodup) (ha : ArgsOk K G H (hide H en.ps) ks ds vs en.ps) (hl : ks.length ≤ N.length) :
    Wd K en (slots0 0 ks ds ++ List.replicate (N.length - ks.length) .un) (L2.start N vs) G H := by
  obtain ⟨l1, l2⟩ := args_len ha
  have l3 : (slots0 0 ks ds).length = ks.length := slots0_len l1
  have mem : ∀ (i : Nat) p, Own (slots0 0 ks ds ++ List.replicate (N.length - ks.length) Slot.un) (L2.start N vs) i p → ∃ x d, (slots0 0 ks ds)[i]? = some (.mp x d) ∧ en.ps[x]? = some p := fun i p ⟨sl, e1, e2, e3⟩ => by
    by_cases hi : i < (slots0 0 ks ds).length
    · rw [List.getElem?_append_left hi] at e1
      obtain ⟨v, h3, h4, z⟩ := args_slot (en := en) (S := []) (j := 0) ha hF.symm (fun l p h => by rw [Nat.zero_add]; exact h) (fun p hp => by rw [hF]; exact hide_none hp) e1
      have : (L2.start N vs)[i]? = some (some v) := by
        unfold L2.start
        rw [List.getElem?_append_left (by rw [List.length_map]; omega), List.getElem?_map, h3]; rfl
      rw [this] at e3
      cases e3
      cases sl with
      | mu d => exact (z d rfl).elim
      | mp x d =>
        obtain ⟨q, e4, e5, _⟩ := h4
        cases e4
        exact ⟨x, d, e1, e5⟩
      | un => cases e2
      | fr _ => cases e2
      | bw _ => cases e2
      | bo _ => cases e2
    · rw [List.getElem?_append_right (Nat.le_of_not_lt hi), List.getElem?_replicate] at e1
      split at e1
      · cases e1; cases e2
      · cases e1
  refine ⟨?_, hG, by rw [h0]; exact Sub.refl _, fun a o e => .inl (by rw [h0]; exact e), by rw [hF]; exact hide_sub, fun a h => (args_there ha a h).1, hn, fun i sl o h1 h2 => ?_, fun i j p h1 h2 => by
    obtain ⟨x, d, e1, e2⟩ := mem i p h1
    obtain ⟨y, d', e3, e4⟩ := mem j p h2
    have hx := List.getElem?_eq_some_iff.mp e2
    have hy := List.getElem?_eq_some_iff.mp e4
    have exy : x = y := (List.getElem_inj hn).mp (hx.2.trans hy.2.symm)
    subst exy
    exact mp_inj e1 e3⟩
  · unfold L2.start
    rw [List.length_append, List.length_append, l3, List.length_map, List.length_replicate, List.length_replicate, l2]
  · by_cases hi : i < (slots0 0 ks ds).length
    · rw [List.getElem?_append_left hi] at h1
      obtain ⟨v, h3, h4, _⟩ := args_slot (en := en) (S := L2.start N vs) (j := 0) ha hF.symm (fun l p h => by rw [Nat.zero_add]; exact h) (fun p hp => by rw [hF]; exact hide_none hp) h1
      have : (L2.start N vs)[i]? = some (some v) := by
        unfold L2.start
        rw [List.getElem?_append_left (by rw [List.length_map]; omega), List.getElem?_map, h3]; rfl
      rw [this] at h2
      cases h2
      exact h4
    · rw [List.getElem?_append_right (Nat.le_of_not_lt hi), List.getElem?_replicate] at h1
      split at h1
      · cases h1; trivial
      · cases h1
end

theorem takes0N {X : Cx} : L2N.Takes X (fun _ _ _ _ => False) := fun _ _ x => by
  obtain ⟨_, _, _, _, _, _, _, _, _, _, _, _, _, _, _, _, z⟩ := x
  exact z.elim
/-- the errors of a body: they are what is wished for -/
def Lk (X : Cx) (en : Kn) : Prop := ∃ W : WX, L2N.Takes X W ∧ ∀ x, en.HX (some x) → ∀ cls d σ H', ExcOk X.mg en.F0 en.ps x cls d H' → Sub en.F0 H' → W cls d σ H'
theorem KnLe.lk {X : Cx} {en en' : Kn} (h : KnLe en en') (l : Lk X en) : Lk X en' := by
  obtain ⟨W, t, k⟩ := l
  exact ⟨W, t, fun x hx cls d σ H' e s => k x (h.HX ▸ hx) cls d σ H' (e.to fun a h1 h2 => ⟨h.F0 ▸ h1, h.ps ▸ h2⟩) (h.F0 ▸ s)⟩
/-- the lists of the caller's, as told -/
def OutsAt (δ : List Slot) : Nat → List D → Prop
  | _, [] => True
  | j, d :: ds => (∃ i : Nat, δ[i]? = some (.mp j d)) ∧ OutsAt δ (j + 1) ds
def Slot.rets (mu : Bool) (d : D) (s : Slot) : Prop := s = if mu = true then .mu d else .fr d
section
variable {K : PySem.W.Frag} {en : Kn} {G H : Hp}
theorem Wd.outs {δ : List Slot} {σ : L2.St} (W : Wd K en δ σ G H) : ∀ {ds : List D} {j : Nat} {ps : List Addr}, (∀ l : Nat, ps[l]? = en.ps[j + l]?) → ds.length = ps.length → OutsAt δ j ds → OutsOk K G H ds ps
  | [], _, [], _, _, _ => trivial
  | [], _, _ :: _, _, h, _ => nomatch h
  | _ :: _, _, [], _, h, _ => nomatch h
  | d :: ds, j, p :: ps, hj, hl, h => by
    obtain ⟨⟨i, hi⟩, h2⟩ := h
    obtain ⟨o, h3, q, e, e2, n, _, r⟩ := W.at hi
    have e3 : en.ps[j]? = some p := (hj 0).symm
    rw [e3] at e2
    cases e2
    exact ⟨⟨n, r⟩, Wd.outs W (fun l => by have := hj (l + 1); rw [Nat.add_assoc, Nat.add_comm 1 l]; simpa using this) (by simpa using hl) h2⟩
end
variable {P : Program} {w : World} {K : PySem.W.Frag} {mg : Str → Option Value} {base : Heap}
/-- THE RULE for a def -/
theorem fn_D {x qual : Str} {st : Stmt} {fa : Addr} {fd : FuncData} {N psn : List Str} {k : Nat} {ks : List Kd} {α : Type} {f : List D → Res α} {val : α → D} {outs : α → List D} {mu : Bool}
    (F : L2.Fun K x qual st fa fd) (S : FnScope N psn (defScope st)) (hk : ks.length = psn.length) (nm : Nat) (hnm : ∀ a, (outs a).length = nm) (hms : nms ks = nm)
    (body : ∀ (X : Cx) (en : Kn) (cdv : Value) (A : Around) (outer : List Env) (s : Shared) (H : Hp) (E : XK) (ds : List D), X = cxOf (L2N.CX P w) P w K mg base N qual (defScope st) fa cdv A outer s H E → RoomG k X.A → en.n = N.length → Lk X en → PassesOwn (model X.prog X.w) X.A X.env X.xe → ds.length = ks.length →
      JSs X en (slots0 0 ks ds ++ List.replicate (N.length - ks.length) .un) (defBody st) (fun δ' m' => mu = false ∧ ∃ a, m' = .ok a ∧ val a = .non ∧ OutsAt δ' 0 (outs a)) (fun s δ' m' => ∃ a, m' = .ok a ∧ s.rets mu (val a) ∧ OutsAt δ' 0 (outs a)) (fun _ _ => False) (fun _ _ => False) (f ds)) :
    FnG P w K mg base (k + 1) fa fd psn (SpD K mg ks f val outs mu) := by
  refine fn_G F S (fun vs H Q E h => h.1.trans hk) fun cdv A outer s H vs Q E hr h => ?_
  obtain ⟨hlv, G, ps, ds, r, hG, nd, ha, er, nb, hok, hrs⟩ := h
  subst er
  let en : Kn := ⟨N.length, G, hide H ps, ps, fun o => o = none ∨ o = (f ds).exc, .inl rfl⟩
  obtain ⟨l1, l2⟩ := args_len ha
  have hkN : ks.length ≤ N.length := by
    have := congrArg List.length S.pre
    rw [List.length_take] at this
    omega
  have W := Wd.start (en := en) (N := N) hG rfl rfl nd ha hkN
  have lps : ps.length = nm := (args_ps ha).trans hms
  let X : Cx := cxOf (L2N.CX P w) P w K mg base N qual (defScope st) fa cdv A outer s H E
  have tk : L2N.Takes X (fun cls d _ H => E cls d H) := L2N.takes_of rfl rfl rfl rfl
  have lk : Lk X en := ⟨_, tk, fun x hx cls d σ H' he hs => by
    refine hrs x ?_ cls d H' he hs
    rcases hx with z | z
    · cases z
    · cases e : f ds with
      | raise y => rw [e] at z; cases z; rfl
      | ok _ => rw [e] at z; cases z
      | bad => rw [e] at z; cases z⟩
  have B := body X en cdv A outer s H E ds rfl hr rfl lk (passes_of rfl) l1
  refine ⟨WSs X (defBody st), pss_wss, ?_⟩
  have hlen : (slots0 0 ks ds ++ List.replicate (N.length - ks.length) Slot.un).length = en.n := by
    rw [List.length_append, slots0_len l1, List.length_replicate]
    show _ = N.length
    omega
  have post : ∀ {δ' : List Slot} {σ' : L2.St} {G' H' : Hp}, Wd K en δ' σ' G' H' → Post G H G' H' ps := fun {δ' σ' G' H'} W' => ⟨W'.ext, W'.sub, fun a o e => by
    rcases W'.new a o e with q | ⟨q1, q2⟩
    · exact .inl q
    · refine .inr ?_
      have q1' : hide H ps a = none := q1
      rw [hide_some q2] at q1'
      exact q1', fun a o e n => W'.frm a o (by show hide H ps a = some o; rw [hide_some n]; exact e)⟩
  have ou : ∀ {δ' : List Slot} {σ' : L2.St} {G' H' : Hp} {a : α}, Wd K en δ' σ' G' H' → OutsAt δ' 0 (outs a) → OutsOk K G' H' (outs a) ps := fun {δ' σ' G' H' a} W' h => W'.outs (fun l => by rw [Nat.zero_add]) (by rw [hnm, lps]) h
  refine B.run nb (.inr rfl) (L2.start N vs) G H _ hlen W (fun δ' σ' G' H' ⟨em, a, ea, ev, eo⟩ hl' W' => ?_) (fun sl δ' v σ' G' H' ⟨a, ea, es, eo⟩ hl' W' => ?_) (fun _ _ _ _ z => z.elim) (fun _ _ _ _ z => z.elim)
  · refine hok a ea .non G' H' (post W') (ou W' eo) ?_
    unfold RetOk
    rw [em, if_neg (by decide), ev]
    rfl
  · have W2 := W'.one hl' (by
      have := W'.len
      rw [List.length_append, List.length_append] at this
      have e1 : [sl].length = 1 := rfl
      have e2 : [some v].length = 1 := rfl
      omega)
    refine hok a ea v G' H' (post W2) (ou W2 eo) ?_
    have q := W'.last
    unfold RetOk
    cases mu with
    | true =>
      have es' : sl = .mu (val a) := es
      subst es'
      obtain ⟨p, e, n, f0, np, r⟩ := q
      cases e
      refine ⟨p, rfl, ?_, n, r⟩
      have f0' : hide H ps p = none := f0
      rw [hide_some np] at f0'
      exact f0'
    | false =>
      have es' : sl = .fr (val a) := es
      subst es'
      obtain ⟨u, e, r⟩ := q
      cases e
      exact r
end BR

/-! K8: a def called -/
namespace BR
open PySem PySem.Spec PyProof.Rows L2

def CA (δ : List Slot) : List Kd → List Slot → Option (List D × List Nat)
  | [], [] => some ([], [])
  | .f :: ks, .fr d :: r => match CA δ ks r with
    | some (ds, is) => some (d :: ds, is)
    | none => none
  | .b :: ks, s :: r => match s.rd δ, CA δ ks r with
    | some d, some (ds, is) => some (d :: ds, is)
    | _, _ => none
  | .m :: ks, .bo i :: r => match (Slot.bo i).rd δ, CA δ ks r with
    | some d, some (ds, is) => some (d :: ds, i :: is)
    | _, _ => none
  | _, _ => none
/-- what is read alone is none of the lists that may be changed -/
def sep : List Kd → List Slot → List Nat → Bool
  | .b :: ks, .bo j :: r, is => !is.contains j && sep ks r is
  | _ :: ks, _ :: r, is => sep ks r is
  | _, _, _ => true
def Slot.put : Slot → D → Slot
  | .mu _, d => .mu d
  | .mp j _, d => .mp j d
  | s, _ => s
def putAll : List Slot → List Nat → List D → List Slot
  | Δ, i :: is, d :: ds => putAll (Δ.set i ((Δ.getD i .un).put d)) is ds
  | Δ, _, _ => Δ
section
variable {K : PySem.W.Frag} {en : Kn} {G H : Hp}
theorem sep_get : ∀ {ks : List Kd} {sls : List Slot} {is : List Nat} {l j : Nat}, sep ks sls is = true → ks[l]? = some .b → sls[l]? = some (.bo j) → j ∉ is
  | .b :: ks, .bo j :: r, is, 0, l, h, _, e => by
    have e' : j = l := by simpa using e
    subst e'
    unfold sep at h
    rw [Bool.and_eq_true] at h
    intro hm
    have := h.1
    rw [List.contains_iff_mem.mpr hm] at this
    cases this
  | .b :: ks, .bo j :: r, is, i + 1, l, h, e1, e => by
    unfold sep at h
    rw [Bool.and_eq_true] at h
    exact sep_get (l := i) h.2 (by simpa using e1) (by simpa using e)
  | [], _, _, _, _, _, e, _ => by simp at e
  | _ :: _, [], _, _, _, _, _, e => by simp at e
  | .f :: ks, s :: r, is, 0, l, h, e1, e => by simp at e1
  | .m :: ks, s :: r, is, 0, l, h, e1, e => by simp at e1
  | .f :: ks, s :: r, is, i + 1, l, h, e1, e => sep_get (ks := ks) (sls := r) (l := i) (by simpa [sep] using h) (by simpa using e1) (by simpa using e)
  | .m :: ks, s :: r, is, i + 1, l, h, e1, e => sep_get (ks := ks) (sls := r) (l := i) (by simpa [sep] using h) (by simpa using e1) (by simpa using e)
  | .b :: ks, .un :: r, is, 0, l, h, e1, e => by simp at e
  | .b :: ks, .fr _ :: r, is, 0, l, h, e1, e => by simp at e
  | .b :: ks, .mu _ :: r, is, 0, l, h, e1, e => by simp at e
  | .b :: ks, .mp _ _ :: r, is, 0, l, h, e1, e => by simp at e
  | .b :: ks, .bw _ :: r, is, 0, l, h, e1, e => by simp at e
  | .b :: ks, .un :: r, is, i + 1, l, h, e1, e => sep_get (ks := ks) (sls := r) (l := i) (by simpa [sep] using h) (by simpa using e1) (by simpa using e)
  | .b :: ks, .fr _ :: r, is, i + 1, l, h, e1, e => sep_get (ks := ks) (sls := r) (l := i) (by simpa [sep] using h) (by simpa using e1) (by simpa using e)
  | .b :: ks, .mu _ :: r, is, i + 1, l, h, e1, e => sep_get (ks := ks) (sls := r) (l := i) (by simpa [sep] using h) (by simpa using e1) (by simpa using e)
  | .b :: ks, .mp _ _ :: r, is, i + 1, l, h, e1, e => sep_get (ks := ks) (sls := r) (l := i) (by simpa [sep] using h) (by simpa using e1) (by simpa using e)
  | .b :: ks, .bw _ :: r, is, i + 1, l, h, e1, e => sep_get (ks := ks) (sls := r) (l := i) (by simpa [sep] using h) (by simpa using e1) (by simpa using e)

/-- a thing at hand that is the list of a name -/
theorem bo_own {Δ : List Slot} {S : L2.St} {δ : List Slot} {i : Nat} {d : D} {v : V} (W : Wd K en Δ S G H) (hpre : ∀ (j : Nat) sl, δ[j]? = some sl → Δ[j]? = some sl) (h : SlotOk K en S G H (.bo i) (some v)) (r : (Slot.bo i).rd δ = some d) :
    ∃ p, v = .ref p ∧ Own Δ S i p ∧ i < δ.length ∧ G p = none ∧ MRep K G H d p := by
  obtain ⟨_, h1, p, e⟩ := h
  cases e
  have r' : (match δ[i]? with | some (Slot.mu d) => some d | some (Slot.mp _ d) => some d | _ => none) = some d := r
  split at r'
  · rename_i e2
    cases r'
    have e3 := hpre _ _ e2
    have q := W.slot i _ _ e3 h1
    obtain ⟨p', e4, n, _, _, q⟩ := q
    cases e4
    exact ⟨p, rfl, ⟨_, e3, rfl, h1⟩, (List.getElem?_eq_some_iff.mp e2).1, n, q⟩
  · rename_i e2
    cases r'
    have e3 := hpre _ _ e2
    have q := W.slot i _ _ e3 h1
    obtain ⟨p', e4, _, n, _, q⟩ := q
    cases e4
    exact ⟨p, rfl, ⟨_, e3, rfl, h1⟩, (List.getElem?_eq_some_iff.mp e2).1, n, q⟩
  · cases r'
theorem MRep.vF {F0 : Hp} : ∀ {d : D} {p : Addr}, MRep K G H d p → F0 p = H p → VRep K G F0 d (.ref p)
  | .lst ds, p, h, e => by obtain ⟨vs, e', r⟩ := h; exact ⟨p, vs, rfl, e.trans e', r⟩
  | .dic ds, p, h, e => by obtain ⟨vs, e', r⟩ := h; exact ⟨p, vs, rfl, e.trans e', r⟩
  | .non, _, h, _ => h.elim
  | .bl _, _, h, _ => h.elim
  | .int _, _, h, _ => h.elim
  | .str _, _, h, _ => h.elim
  | .tup _, _, h, _ => h.elim
  | .scr _, _, h, _ => h.elim
  | .exc _ _, _, h, _ => h.elim
  | .obj _ _, _, h, _ => h.elim
theorem ca_ok {Δ : List Slot} {S : L2.St} {δ : List Slot} (W : Wd K en Δ S G H) (hpre : ∀ (j : Nat) sl, δ[j]? = some sl → Δ[j]? = some sl) : ∀ {ks : List Kd} {sls : List Slot} {vs : List V} {ds : List D} {is : List Nat}, CA δ ks sls = some (ds, is) → sls.length = vs.length →
    (∀ (i : Nat) sl v, sls[i]? = some sl → vs[i]? = some v → SlotOk K en S G H sl (some v)) →
    ∃ ps, is.length = ps.length ∧ (∀ (l i : Nat), is[l]? = some i → ∃ p, ps[l]? = some p ∧ Own Δ S i p ∧ i < δ.length) ∧
      ∀ F0, Sub G F0 → Sub en.F0 F0 → (∀ (l : Nat) sl p, ks[l]? = some .b → sls[l]? = some sl → vs[l]? = some (.ref p) → (sl.own = true ∨ ∃ j, sl = .bo j) → F0 p = H p) → ArgsOk K G H F0 ks ds vs ps
  | [], [], [], ds, is, h, _, _ => by
    cases h
    exact ⟨[], rfl, fun l i e => by simp at e, fun _ _ _ _ => trivial⟩
  | .f :: ks, .fr d :: r, v :: vs, ds, is, h, hl, hq => by
    unfold CA at h
    split at h
    · rename_i ds' is' e
      cases h
      obtain ⟨ps, h1, h2, h3⟩ := ca_ok W hpre (vs := vs) e (by simpa using hl) (fun i sl v a b => hq (i + 1) sl v (by simpa using a) (by simpa using b))
      obtain ⟨u, eu, ru⟩ := hq 0 _ v rfl rfl
      cases eu
      exact ⟨ps, h1, h2, fun F0 s1 s2 s3 => ⟨ru, h3 F0 s1 s2 fun l sl p a b c d => s3 (l + 1) sl p (by simpa using a) (by simpa using b) (by simpa using c) d⟩⟩
    · cases h
  | .b :: ks, s :: r, v :: vs, ds, is, h, hl, hq => by
    unfold CA at h
    split at h
    · rename_i d ds' is' e0 e
      cases h
      obtain ⟨ps, h1, h2, h3⟩ := ca_ok W hpre (vs := vs) e (by simpa using hl) (fun i sl v a b => hq (i + 1) sl v (by simpa using a) (by simpa using b))
      have q := hq 0 _ v rfl rfl
      refine ⟨ps, h1, h2, fun F0 s1 s2 s3 => ⟨?_, h3 F0 s1 s2 fun l sl p a b c d => s3 (l + 1) sl p (by simpa using a) (by simpa using b) (by simpa using c) d⟩⟩
      cases s with
      | un => cases e0
      | fr d' => cases e0; obtain ⟨u, eu, ru⟩ := q; cases eu; exact BRep.of s1 ru
      | bw d' => cases e0; obtain ⟨u, eu, ru⟩ := q; cases eu; exact BRep.sub (Sub.refl _) s2 ru
      | mu d' =>
        cases e0
        obtain ⟨p, eu, _, _, _, ru⟩ := q
        cases eu
        exact BRep.mk (ru.vF (s3 0 _ p rfl rfl rfl (.inl rfl))) ru.notup
      | mp j d' =>
        cases e0
        obtain ⟨p, eu, _, _, _, ru⟩ := q
        cases eu
        exact BRep.mk (ru.vF (s3 0 _ p rfl rfl rfl (.inl rfl))) ru.notup
      | bo j =>
        obtain ⟨p, ev, _, _, _, ru⟩ := bo_own W hpre q e0
        subst ev
        exact BRep.mk (ru.vF (s3 0 _ p rfl rfl rfl (.inr ⟨_, rfl⟩))) ru.notup
    · cases h
  | .m :: ks, .bo j :: r, v :: vs, ds, is, h, hl, hq => by
    unfold CA at h
    split at h
    · rename_i d ds' is' e0 e
      cases h
      obtain ⟨ps, h1, h2, h3⟩ := ca_ok W hpre (vs := vs) e (by simpa using hl) (fun i sl v a b => hq (i + 1) sl v (by simpa using a) (by simpa using b))
      obtain ⟨p, ev, ow, hj, n, ru⟩ := bo_own W hpre (hq 0 _ v rfl rfl) e0
      subst ev
      refine ⟨p :: ps, by simp [h1], fun l i e => ?_, fun F0 s1 s2 s3 => ⟨⟨rfl, n, ru⟩, h3 F0 s1 s2 fun l sl p a b c d => s3 (l + 1) sl p (by simpa using a) (by simpa using b) (by simpa using c) d⟩⟩
      cases l with
      | zero =>
        have e' : j = i := by simpa using e
        subst e'
        exact ⟨p, rfl, ow, hj⟩
      | succ l =>
        obtain ⟨p', a, b⟩ := h2 l i (by simpa using e)
        exact ⟨p', by simpa using a, b⟩
    · cases h
  | [], _ :: _, _, _, _, h, _, _ => by cases h
  | [], [], _ :: _, _, _, _, h, _ => nomatch h
  | .f :: _, [], _, _, _, h, _, _ => by cases h
  | .b :: _, [], _, _, _, h, _, _ => by cases h
  | .m :: _, [], _, _, _, h, _, _ => by cases h
  | _ :: _, _ :: _, [], _, _, _, h, _ => nomatch h
  | .f :: _, .un :: _, _ :: _, _, _, h, _, _ => by cases h
  | .f :: _, .mu _ :: _, _ :: _, _, _, h, _, _ => by cases h
  | .f :: _, .mp _ _ :: _, _ :: _, _, _, h, _, _ => by cases h
  | .f :: _, .bw _ :: _, _ :: _, _, _, h, _, _ => by cases h
  | .f :: _, .bo _ :: _, _ :: _, _, _, h, _, _ => by cases h
  | .m :: _, .un :: _, _ :: _, _, _, h, _, _ => by cases h
  | .m :: _, .fr _ :: _, _ :: _, _, _, h, _, _ => by cases h
  | .m :: _, .mu _ :: _, _ :: _, _, _, h, _, _ => by cases h
  | .m :: _, .mp _ _ :: _, _ :: _, _, _, h, _, _ => by cases h
  | .m :: _, .bw _ :: _, _ :: _, _, _, h, _, _ => by cases h

theorem ca_bo : ∀ {δ : List Slot} {ks : List Kd} {sls : List Slot} {ds : List D} {is : List Nat} {l j : Nat}, CA δ ks sls = some (ds, is) → ks[l]? = some .b → sls[l]? = some (.bo j) → ∃ d, (Slot.bo j).rd δ = some d
  | δ, .b :: ks, s :: r, ds, is, 0, j, h, _, e => by
    have e' : s = .bo j := by simpa using e
    subst e'
    unfold CA at h
    split at h
    · rename_i d _ _ e0 _
      exact ⟨d, e0⟩
    · cases h
  | δ, .b :: ks, s :: r, ds, is, l + 1, j, h, e1, e => by
    unfold CA at h
    split at h
    · rename_i d _ _ e0 e2
      exact ca_bo (l := l) e2 (by simpa using e1) (by simpa using e)
    · cases h
  | δ, .f :: ks, .fr _ :: r, ds, is, l + 1, j, h, e1, e => by
    unfold CA at h
    split at h
    · rename_i _ _ e2
      exact ca_bo (l := l) e2 (by simpa using e1) (by simpa using e)
    · cases h
  | δ, .m :: ks, .bo _ :: r, ds, is, l + 1, j, h, e1, e => by
    unfold CA at h
    split at h
    · rename_i d _ _ e0 e2
      exact ca_bo (l := l) e2 (by simpa using e1) (by simpa using e)
    · cases h
  | δ, .f :: ks, _, ds, is, 0, j, h, e1, e => by simp at e1
  | δ, .m :: ks, _, ds, is, 0, j, h, e1, e => by simp at e1
  | δ, [], _, ds, is, _, j, h, e1, e => by simp at e1
  | δ, .b :: ks, [], ds, is, _, j, h, e1, e => by simp at e
  | δ, .f :: ks, [], ds, is, _, j, h, e1, e => by simp at e
  | δ, .m :: ks, [], ds, is, _, j, h, e1, e => by simp at e
  | δ, .f :: _, .un :: _, _, _, _ + 1, _, h, _, _ => by cases h
  | δ, .f :: _, .mu _ :: _, _, _, _ + 1, _, h, _, _ => by cases h
  | δ, .f :: _, .mp _ _ :: _, _, _, _ + 1, _, h, _, _ => by cases h
  | δ, .f :: _, .bw _ :: _, _, _, _ + 1, _, h, _, _ => by cases h
  | δ, .f :: _, .bo _ :: _, _, _, _ + 1, _, h, _, _ => by cases h
  | δ, .m :: _, .un :: _, _, _, _ + 1, _, h, _, _ => by cases h
  | δ, .m :: _, .fr _ :: _, _, _, _ + 1, _, h, _, _ => by cases h
  | δ, .m :: _, .mu _ :: _, _, _, _ + 1, _, h, _, _ => by cases h
  | δ, .m :: _, .mp _ _ :: _, _, _, _ + 1, _, h, _, _ => by cases h
  | δ, .m :: _, .bw _ :: _, _, _, _ + 1, _, h, _, _ => by cases h

theorem putAll_len : ∀ {is : List Nat} {Δ : List Slot} {ds : List D}, (putAll Δ is ds).length = Δ.length
  | [], _, _ => rfl
  | _ :: _, _, [] => rfl
  | i :: is, Δ, d :: ds => by
    unfold putAll
    rw [putAll_len, List.length_set]
theorem putAll_app {τ : List Slot} : ∀ {is : List Nat} {Δ : List Slot} {ds : List D}, (∀ i, i ∈ is → i < Δ.length) → putAll (Δ ++ τ) is ds = putAll Δ is ds ++ τ
  | [], _, _, _ => rfl
  | _ :: _, _, [], _ => rfl
  | i :: is, Δ, d :: ds, h => by
    have hi := h i List.mem_cons_self
    unfold putAll
    rw [List.set_append_left _ _ hi, putAll_app fun j hj => by rw [List.length_set]; exact h j (List.mem_cons_of_mem _ hj)]
    congr 3
    rw [List.getD_eq_getElem?_getD, List.getD_eq_getElem?_getD, List.getElem?_append_left hi]
/-- one list changed, or as it was -/
theorem putAll_get : ∀ {is : List Nat} {Δ : List Slot} {ds : List D} {j : Nat}, is.Nodup → is.length = ds.length →
    (j ∉ is ∧ (putAll Δ is ds)[j]? = Δ[j]?) ∨ ∃ (l : Nat) (d : D), is[l]? = some j ∧ ds[l]? = some d ∧ (putAll Δ is ds)[j]? = (Δ[j]?).map (·.put d)
  | [], _, _, j, _, _ => .inl ⟨by simp, rfl⟩
  | _ :: _, _, [], _, _, h => nomatch h
  | i :: is, Δ, d :: ds, j, nd, hl => by
    unfold putAll
    have nd' := List.nodup_cons.mp nd
    rcases putAll_get (Δ := Δ.set i ((Δ.getD i .un).put d)) (ds := ds) (j := j) nd'.2 (by simpa using hl) with ⟨h1, h2⟩ | ⟨l, d', h1, h2, h3⟩
    · by_cases hj : j = i
      · subst hj
        refine .inr ⟨0, d, rfl, rfl, ?_⟩
        rw [h2]
        by_cases hj : j < Δ.length
        · rw [List.getElem?_set_self hj, List.getD_eq_getElem?_getD, List.getElem?_eq_getElem hj]; rfl
        · rw [List.getElem?_eq_none (by rw [List.length_set]; omega), List.getElem?_eq_none (by omega)]; rfl
      · refine .inl ⟨fun z => ?_, ?_⟩
        · rcases List.mem_cons.mp z with z | z
          · exact hj z
          · exact h1 z
        · rw [h2, List.getElem?_set_ne (Ne.symm hj)]
    · have hj : j ≠ i := fun z => by subst z; exact nd'.1 (List.mem_of_getElem? h1)
      refine .inr ⟨l + 1, d', by simpa using h1, by simpa using h2, ?_⟩
      rw [h3, List.getElem?_set_ne (Ne.symm hj)]
theorem OutsOk.get {G' H' : Hp} : ∀ {ds : List D} {ps : List Addr}, OutsOk K G' H' ds ps → ds.length = ps.length ∧ ∀ (l : Nat) d p, ds[l]? = some d → ps[l]? = some p → G' p = none ∧ MRep K G' H' d p
  | [], [], _ => ⟨rfl, fun l d p h _ => by simp at h⟩
  | d :: ds, p :: ps, h => by
    obtain ⟨h1, h2⟩ := OutsOk.get h.2
    refine ⟨by simp [h1], fun l d' p' a b => ?_⟩
    cases l with
    | zero =>
      have e1 : d = d' := by simpa using a
      have e2 : p = p' := by simpa using b
      subst e1 e2
      exact h.1
    | succ l => exact h2 l d' p' (by simpa using a) (by simpa using b)
  | [], _ :: _, h => h.elim
  | _ :: _, [], h => h.elim
theorem Wd.called {Δ : List Slot} {S : L2.St} {G' H' : Hp} {is : List Nat} {ps : List Addr} {ods : List D} (W : Wd K en Δ S G H) (po : Post G H G' H' ps) (hl : is.length = ps.length) (hi : ∀ (l i : Nat), is[l]? = some i → ∃ p, ps[l]? = some p ∧ Own Δ S i p) (nd : is.Nodup)
    (ou : OutsOk K G' H' ods ps) : Wd K en (putAll Δ is ods) S G' H' := by
  obtain ⟨ol, og⟩ := ou.get
  have psOwn : ∀ p, p ∈ ps → ∃ i, i ∈ is ∧ Own Δ S i p := fun p hp => by
    obtain ⟨l, hl2⟩ := List.getElem?_of_mem hp
    have hll : l < is.length := by rw [hl]; exact (List.getElem?_eq_some_iff.mp hl2).1
    obtain ⟨q, e, o⟩ := hi l is[l] (List.getElem?_eq_getElem hll)
    rw [hl2] at e
    cases e
    exact ⟨_, List.getElem_mem hll, o⟩
  have ownF : ∀ {i p}, Own Δ S i p → en.F0 p = none ∧ G p = none := fun {i p} ⟨sl, e1, e2, e3⟩ => by
    have q := W.slot i sl _ e1 e3
    cases sl with
    | mu d => obtain ⟨p2, e, n, f, _, r⟩ := q; cases e; exact ⟨f, n⟩
    | mp _ d => obtain ⟨p2, e, _, n, f, r⟩ := q; cases e; exact ⟨f, n⟩
    | un => cases e2
    | fr _ => cases e2
    | bw _ => cases e2
    | bo _ => cases e2
  have stillNone : ∀ {p : Addr}, G p = none → H p ≠ none → G' p = none := fun {p} a b => by
    cases z : G' p with
    | none => rfl
    | some o =>
      rcases po.new p o z with q | q
      · rw [a] at q; cases q
      · exact (b q).elim
  have old : ∀ {j : Nat} {sl : Slot} {o : Option V}, Δ[j]? = some sl → S[j]? = some o → (j ∉ is ∨ sl.own = false) → SlotOk K en S G' H' sl o := fun {j sl o} h1 h2 h3 => by
    have q := W.slot j sl o h1 h2
    have np : ∀ p, sl.own = true → o = some (.ref p) → p ∉ ps := fun p a b hp => by
      obtain ⟨i, m, ow⟩ := psOwn p hp
      subst b
      have := W.apart i j p ow ⟨sl, h1, a, h2⟩
      subst this
      rcases h3 with z | z
      · exact z m
      · rw [a] at z; cases z
    cases sl with
    | un => trivial
    | fr d => obtain ⟨v, e, r⟩ := q; exact ⟨v, e, Rep.sub po.g _ _ r⟩
    | mu d =>
      obtain ⟨p, e, n, f, f2, r⟩ := q
      obtain ⟨ob, eo⟩ := r.ex
      exact ⟨p, e, stillNone n (by rw [eo]; simp), f, f2, r.keep po.g fun o' z => po.frm p o' z (np p rfl e)⟩
    | mp l d =>
      obtain ⟨p, e, f2, n, f, r⟩ := q
      obtain ⟨ob, eo⟩ := r.ex
      exact ⟨p, e, f2, stillNone n (by rw [eo]; simp), f, r.keep po.g fun o' z => po.frm p o' z (np p rfl e)⟩
    | bw d => obtain ⟨v, e, r⟩ := q; exact ⟨v, e, BRep.sub po.g (Sub.refl _) r⟩
    | bo l => exact q
  refine ⟨putAll_len.trans W.len, po.gh, W.ext.trans po.g, fun a o e => ?_, fun a o e => ?_, fun a h => ?_, W.nd, fun j sl o h1 h2 => ?_, fun i j p h1 h2 => ?_⟩
  · rcases po.new a o e with q | q
    · exact W.new a o q
    · exact .inr (W.fresh q).2
  · refine po.frm a o (W.frm a o e) fun hp => ?_
    obtain ⟨i, _, ow⟩ := psOwn a hp
    rw [(ownF ow).1] at e; cases e
  · cases z : H a with
    | none => exact fun _ => W.stay a h z
    | some o =>
      by_cases hp : a ∈ ps
      · obtain ⟨l, hl2⟩ := List.getElem?_of_mem hp
        have hll : l < ods.length := by rw [ol]; exact (List.getElem?_eq_some_iff.mp hl2).1
        obtain ⟨_, r⟩ := og l _ a (List.getElem?_eq_getElem hll) hl2
        obtain ⟨o', e⟩ := r.ex
        rw [e]; simp
      · rw [po.frm a o z hp]; simp
  · rcases putAll_get (Δ := Δ) (ds := ods) (j := j) nd (hl.trans ol.symm) with ⟨n, e⟩ | ⟨l, d, e1, e2, e3⟩
    · rw [e] at h1
      exact old h1 h2 (.inl n)
    · obtain ⟨p, hp, sl0, e4, e5, e6⟩ := hi l j e1
      rw [e3, e4] at h1
      cases h1
      rw [e6] at h2
      cases h2
      obtain ⟨g1, r1⟩ := og l d p e2 hp
      have q := W.slot j sl0 _ e4 e6
      cases sl0 with
      | mu d0 => obtain ⟨p2, e, n, f, f2, r⟩ := q; cases e; exact ⟨p, rfl, g1, f, f2, r1⟩
      | mp x d0 => obtain ⟨p2, e, f2, n, f, r⟩ := q; cases e; exact ⟨p, rfl, f2, g1, f, r1⟩
      | un => cases e5
      | fr _ => cases e5
      | bw _ => cases e5
      | bo _ => cases e5
  · have key : ∀ (i : Nat), Own (putAll Δ is ods) S i p → Own Δ S i p := fun i ⟨sl, e1, e2, e3⟩ => by
      rcases putAll_get (Δ := Δ) (ds := ods) (j := i) nd (hl.trans ol.symm) with ⟨n, e⟩ | ⟨l, d, f1, f2, f3⟩
      · rw [e] at e1
        exact ⟨sl, e1, e2, e3⟩
      · obtain ⟨_, _, sl0, e4, e5, e6⟩ := hi l i f1
        exact ⟨sl0, e4, e5, e3⟩
    exact W.apart i j p (key i h1) (key j h2)
end

section
variable {X : Cx} {en : Kn} {δ τ : List Slot} {R : Type} {C : Slot → List Slot → Res R → Prop} {m : Res R}
abbrev Slot.ret (mu : Bool) (d : D) : Slot := match mu with
  | true => .mu d
  | false => .fr d
/-- as JA, for any reading -/
structure JAr (X : Cx) (en : Kn) (δ τ : List Slot) (t : TA) {R : Type} (C : List Slot → List Slot → Res R → Prop) (m : Res R) : Prop where
  run : m ≠ .bad → en.HX m.exc → ∀ (σ ts : L2.St) (G H : Hp) (T : List V → Hp → Prop), δ.length = en.n → σ.length = en.n → Wd X.K en (δ ++ τ) (σ ++ ts) G H →
    (∀ sls δ' vs G' H', C sls δ' m → δ'.length = en.n → Wd X.K en (δ' ++ τ ++ sls) (σ ++ ts ++ vs.map some) G' H' → T vs H') → t σ H T
/-- the errors that a call may let out -/
def OutE (X : Cx) (en : Kn) : XK := fun cls d H' => ∃ x, en.HX (some x) ∧ ExcOk X.mg en.F0 en.ps x cls d H' ∧ Sub en.F0 H'
theorem Lk.passes {X : Cx} {en : Kn} (l : Lk X en) : Passes (L2N.CX X.prog X.w) X (OutE X en) := by
  obtain ⟨WW, tk, hW⟩ := l
  exact L2N.passes_call tk fun cls d σ H ⟨x, h1, h2, h3⟩ => hW x h1 cls d σ H h2 h3
/-- a call's reading -/
theorem call_run {t : TA} {ks : List Kd} {α : Type} {den : List D → Res α} {val : α → D} {outs : α → List D} {mu : Bool}
    (h : JAr X en δ τ t (fun sls δ1 m1 => ∃ ds is k, ∃ pe : α → List Slot, CA δ1 ks sls = some (ds, is) ∧ sep ks sls is = true ∧ is.Nodup ∧ m1 = (den ds).bind k ∧ (∀ a, putAll δ1 is (outs a) = pe a) ∧ ∀ a, den ds = .ok a → C (.ret mu (val a)) (pe a) (k a)) m)
    (hb : m ≠ .bad) (hx : en.HX m.exc) {σ ts : L2.St} {G H : Hp} {T : VK} (hl : δ.length = en.n) (hσ : σ.length = en.n) (W : Wd X.K en (δ ++ τ) (σ ++ ts) G H)
    (q : ∀ sl δ' v G' H', C sl δ' m → δ'.length = en.n → Wd X.K en (δ' ++ τ ++ [sl]) (σ ++ ts ++ [some v]) G' H' → T v H') : tCall (SpD X.K X.mg ks den val outs mu) [] (OutE X en) t σ H T := by
  have ht : τ.length = ts.length := W.splitLen (hl.trans hσ.symm)
  refine h.run hb hx σ ts G H _ hl hσ W fun sls δ1 vs G1 H1 c1 hl1 W1 => ?_
  obtain ⟨ds, is, k, pe, hca, hsep, nd, em, hpe, hk⟩ := c1
  obtain ⟨hn, hq⟩ := W1.endSlots (hl1.trans hσ.symm) ht
  have pre : ∀ (j : Nat) sl, δ1[j]? = some sl → (δ1 ++ τ ++ sls)[j]? = some sl := fun j sl e => by
    rw [List.append_assoc, List.getElem?_append_left (List.getElem?_eq_some_iff.mp e).1]; exact e
  obtain ⟨ps, hlen, hown, hargs⟩ := ca_ok W1 pre hca hn hq
  have W2 := W1.cut (Δ := δ1 ++ τ) (S := σ ++ ts) (by rw [List.length_append, List.length_append]; omega) (by rw [List.length_append]; omega)
  have hown2 : ∀ (l i : Nat), is[l]? = some i → ∃ p, ps[l]? = some p ∧ Own (δ1 ++ τ) (σ ++ ts) i p := fun l i e => by
    obtain ⟨p, e1, ⟨sl, e2, e3, e4⟩, hi⟩ := hown l i e
    refine ⟨p, e1, sl, ?_, e3, ?_⟩
    · rw [List.getElem?_append_left (by rw [List.length_append]; omega)] at e2; exact e2
    · rw [List.getElem?_append_left (by rw [List.length_append]; omega)] at e4; exact e4
  have psOwn : ∀ p, p ∈ ps → ∃ i, i ∈ is ∧ i < δ1.length ∧ Own (δ1 ++ τ ++ sls) (σ ++ ts ++ vs.map some) i p := fun p hp => by
    obtain ⟨l, hl2⟩ := List.getElem?_of_mem hp
    have hll : l < is.length := by rw [hlen]; exact (List.getElem?_eq_some_iff.mp hl2).1
    obtain ⟨p', e, o, hi⟩ := hown l is[l] (List.getElem?_eq_getElem hll)
    rw [hl2] at e
    cases e
    exact ⟨_, List.getElem_mem hll, hi, o⟩
  have ownF : ∀ {i p}, Own (δ1 ++ τ ++ sls) (σ ++ ts ++ vs.map some) i p → en.F0 p = none ∧ G1 p = none := fun {i p} ⟨sl, e1, e2, e3⟩ => by
    have z := W1.slot i sl _ e1 e3
    cases sl with
    | mu d => obtain ⟨p2, e, n, f, _, r⟩ := z; cases e; exact ⟨f, n⟩
    | mp _ d => obtain ⟨p2, e, _, n, f, r⟩ := z; cases e; exact ⟨f, n⟩
    | un => cases e2
    | fr _ => cases e2
    | bw _ => cases e2
    | bo _ => cases e2
  have ndp : ps.Nodup := by
    refine List.pairwise_iff_getElem.mpr fun a b ha2 hb2 hab he => ?_
    have hbi : b < is.length := by rw [hlen]; exact hb2
    obtain ⟨p1, x1, o1, _⟩ := hown a is[a] (List.getElem?_eq_getElem (by omega))
    obtain ⟨p2, x2, o2, _⟩ := hown b is[b] (List.getElem?_eq_getElem hbi)
    rw [List.getElem?_eq_getElem ha2] at x1
    rw [List.getElem?_eq_getElem hb2] at x2
    cases x1
    cases x2
    rw [he] at o1
    have := W1.apart _ _ _ o1 o2
    have := (List.getElem_inj nd).mp this
    omega
  have hsubG : Sub G1 (hide H1 ps) := fun a o e => by
    by_cases hp : a ∈ ps
    · obtain ⟨i, _, _, ow⟩ := psOwn a hp
      rw [(ownF ow).2] at e; cases e
    · rw [hide_some hp]; exact W1.sub a o e
  have hsubF : Sub en.F0 (hide H1 ps) := fun a o e => by
    by_cases hp : a ∈ ps
    · obtain ⟨i, _, _, ow⟩ := psOwn a hp
      rw [(ownF ow).1] at e; cases e
    · rw [hide_some hp]; exact W1.frm a o e
  have ha := hargs (hide H1 ps) hsubG hsubF fun l sl p a b c d => by
    refine hide_some fun hp => ?_
    obtain ⟨i, him, hi, ow⟩ := psOwn p hp
    rcases d with d | ⟨j, d⟩
    · have e2 : (δ1 ++ τ ++ sls)[(δ1 ++ τ).length + l]? = some sl := by
        rw [List.getElem?_append_right (Nat.le_add_right _ _), Nat.add_sub_cancel_left]; exact b
      have e3 : (σ ++ ts ++ vs.map some)[(δ1 ++ τ).length + l]? = some (some (V.ref p)) := by
        have z : (δ1 ++ τ).length = (σ ++ ts).length := by rw [List.length_append, List.length_append]; omega
        rw [z, List.getElem?_append_right (Nat.le_add_right _ _), Nat.add_sub_cancel_left, List.getElem?_map, c]; rfl
      have := W1.apart i _ p ow ⟨sl, e2, d, e3⟩
      rw [List.length_append] at this
      omega
    · subst d
      have hj := sep_get hsep a b
      have z := hq l _ _ b c
      obtain ⟨_, z1, p', z2⟩ := z
      cases z2
      -- the name's own slot
      have hrd : ∃ d, (Slot.bo j).rd δ1 = some d := ca_bo hca a b
      obtain ⟨d, hd⟩ := hrd
      obtain ⟨p3, e3, ow3, _⟩ := bo_own W1 pre (hq l _ _ b c) hd
      cases e3
      have := W1.apart i j p ow ow3
      subst this
      exact hj him
  rw [List.append_nil]
  have hb' := hb
  rw [em] at hb'
  have hx' := hx
  rw [em] at hx'
  obtain ⟨hbd, hxd⟩ := bind_exc hb' hx'
  obtain ⟨l1, l2⟩ := args_len ha
  refine ⟨l2, G1, ps, ds, den ds, W1.sub, ndp, ha, rfl, hbd, fun a ea v G' H' po ou re => ?_, fun x ex cls d H' he hs => ?_⟩
  · have em' : m = k a := by rw [em, ea]; rfl
    have W3 := W2.called po hlen hown2 nd ou
    rw [putAll_app fun i hi => by
      obtain ⟨l, e⟩ := List.getElem?_of_mem hi
      exact (hown l i e).choose_spec.2.2, hpe a] at W3
    have hl3 : (pe a).length = en.n := by rw [← hpe a, putAll_len]; exact hl1
    refine q (.ret mu (val a)) (pe a) v G' H' (by rw [em']; exact hk a ea) hl3 ?_
    refine W3.more ?_ ?_
    · unfold RetOk at re
      cases mu with
      | true =>
        obtain ⟨p, e, n1, n2, r⟩ := re
        exact ⟨p, by rw [e], n2, (W2.fresh n1).2.1, (W2.fresh n1).2.2, r⟩
      | false => exact ⟨v, rfl, re⟩
    · intro p j e1 e2 ow
      unfold RetOk at re
      cases mu with
      | true =>
        obtain ⟨p', e, n1, n2, r⟩ := re
        cases e2
        cases e
        have : ∃ j', Own (δ1 ++ τ) (σ ++ ts) j' p := by
          obtain ⟨sl, f1, f2, f3⟩ := ow
          rw [← hpe a, ← putAll_app fun i hi => by
            obtain ⟨l, e⟩ := List.getElem?_of_mem hi
            exact (hown l i e).choose_spec.2.2] at f1
          rcases putAll_get (Δ := δ1 ++ τ) (ds := outs a) (j := j) nd (hlen.trans ou.get.1.symm) with ⟨n, e⟩ | ⟨l, d, g1, g2, g3⟩
          · rw [e] at f1
            exact ⟨j, sl, f1, f2, f3⟩
          · obtain ⟨_, _, sl0, e4, e5, e6⟩ := hown2 l j g1
            exact ⟨j, sl0, e4, e5, f3⟩
        obtain ⟨j', ow'⟩ := this
        obtain ⟨o, z⟩ := W2.ownThere ow'
        rw [n1] at z; cases z
      | false => cases e1
  · have em' : m = .raise x := by rw [em, ex]; rfl
    rw [em'] at hx
    exact ⟨x, hx, W1.exc he, hsubF.trans hs⟩
/-- a call of a def -/
theorem call_D {e : Expr} {t : TA} {ks : List Kd} {α : Type} {den : List D → Res α} {val : α → D} {outs : α → List D} {mu : Bool} (hL : Lk X en)
    (rule : ∀ {E : XK}, Passes (L2N.CX X.prog X.w) X E → PE X e (tCall (SpD X.K X.mg ks den val outs mu) [] E t))
    (h : JAr X en δ τ t (fun sls δ1 m1 => ∃ ds is k, ∃ pe : α → List Slot, CA δ1 ks sls = some (ds, is) ∧ sep ks sls is = true ∧ is.Nodup ∧ m1 = (den ds).bind k ∧ (∀ a, putAll δ1 is (outs a) = pe a) ∧ ∀ a, den ds = .ok a → C (.ret mu (val a)) (pe a) (k a)) m) :
    JE X en δ τ e C m := .mk fun hb hx σ ts G H T hl hσ W q => we_of (rule hL.passes) (call_run h hb hx hl hσ W q)
end
end BR

/-! K9: a def's facts in one, comprehensions -/
namespace BR
open PySem PySem.Spec PyProof.Rows L2

/-- a def of the module that keeps its promise -/
def Df (P : Program) (w : World) (K : PySem.W.Frag) (mg : Str → Option Value) (base : Heap) (k : Nat) (x : Str) (ks : List Kd) {α : Type} (den : List D → Res α) (val : α → D) (outs : α → List D) (mu : Bool) : Prop :=
  ∃ (f : Addr) (fd : FuncData) (psn : List Str), FnG P w K mg base k f fd psn (SpD K mg ks den val outs mu) ∧ mg x = some (.ref f) ∧ PySem.W.keepIn K (.ref f) = true ∧ Binds K fd psn []
section
variable {X : Cx} {en : Kn} {δ τ : List Slot} {R : Type} {C : Slot → List Slot → Res R → Prop} {m : Res R} {K : PySem.W.Frag}
theorem je_call {k : Nat} {x : Str} {p pos : Pos} {e : Expr} {es : List Expr} {ks : List Kd} {α : Type} {den : List D → Res α} {val : α → D} {outs : α → List D} {mu : Bool}
    (F : Df X.prog X.w X.K X.mg X.base k x ks den val outs mu) (hr : RoomG k X.A) (hL : Lk X en)
    (h : JA X en δ τ (e :: es) (fun sls δ1 m1 => ∃ ds is k, ∃ pe : α → List Slot, CA δ1 ks sls = some (ds, is) ∧ sep ks sls is = true ∧ is.Nodup ∧ m1 = (den ds).bind k ∧ (∀ a, putAll δ1 is (outs a) = pe a) ∧ ∀ a, den ds = .ok a → C (.ret mu (val a)) (pe a) (k a)) m)
    (hg : Gl X x := by rfl) (hdb : (x == ("__debug__" : Str)) = false := by decide) (he : starEach (e :: es) X.env = (false, eval e X.env) :: starEach es X.env := by exact star_plain rfl) (hpl : (backTo pos (starEach es X.env)).any (·.1) = false := by rfl) :
    JE X en δ τ (.Call (.Name x p) (e :: es) [] pos) C m := by
  obtain ⟨f, fd, psn, hf, hm, hk, hb⟩ := F
  exact call_D (t := WA X (e :: es)) hL (fun hx => pe_callG hf hr hg hm hk hb .nil hx pa_wa hdb he hpl) ⟨h.run⟩
end

/-! ### comprehensions -/
/-- a walk that keeps what f gives, with a state -/
def lcF {S : Type} : List D → S → List D → (D → S → Res (Option D × S)) → Res (List D × S)
  | [], s, acc, _ => .ok (acc, s)
  | d :: ds, s, acc, f => match f d s with
    | .ok (some y, s') => if acc.length < sizeLine then lcF ds s' (acc ++ [y]) f else .bad
    | .ok (none, s') => lcF ds s' acc f
    | _ => .bad
def lcM (ds : List D) (f : D → Res D) : Res (List D) := (lcF ds () [] fun d _ => (f d).bind fun y => .ok (some y, ())).bind fun p => .ok p.1
def lcO (ds : List D) (f : D → Res (Option D)) : Res (List D) := (lcF ds () [] fun d _ => (f d).bind fun y => .ok (y, ())).bind fun p => .ok p.1
def lcS {S : Type} (ds : List D) (s : S) (f : D → S → Res (D × S)) : Res (List D × S) := lcF ds s [] fun d s => (f d s).bind fun y => .ok (some y.1, y.2)
/-- the block's own names aren't known in it -/
def wipeS (δ : List Slot) : List Nat → List Slot
  | [] => δ
  | v :: vs => (wipeS δ vs).set v .un
/-- .. and are as they were behind it -/
def rst (δ1 : List Slot) : List Nat → List Slot → List Slot
  | [], δ => δ
  | v :: vs, δ => (rst δ1 vs δ).set v (match δ1[v]? with
    | some (.fr d) => .fr d
    | some (.bw d) => .bw d
    | _ => .un)
structure KnB (en en' : Kn) : Prop where
  n : en'.n = en.n
  F0 : en'.F0 = en.F0
  ps : en'.ps = en.ps
  HX : en'.HX = fun o => o = none
abbrev Kn.blk (en : Kn) (G : Hp) : Kn := { n := en.n, G0 := G, F0 := en.F0, ps := en.ps, HX := fun o => o = none, h0 := rfl }
theorem KnB.lk {X : Cx} {en en' : Kn} (h : KnB en en') {s : Shared} {H : Hp} {scope : Scope} {cenv : Env} {fp : List Addr} : Lk (X.blk s H scope cenv fp) en' :=
  ⟨fun _ _ _ _ => False, takes0N, fun x hx => by rw [h.HX] at hx; cases hx⟩
section
variable {K : PySem.W.Frag} {en : Kn} {δ δ' τ Ξ : List Slot} {σ σ' ts us : L2.St} {G H G' H' : Hp}
theorem wipeS_len : ∀ (vs : List Nat), (wipeS δ vs).length = δ.length
  | [] => rfl
  | v :: vs => by unfold wipeS; rw [List.length_set, wipeS_len vs]
theorem rst_len {δ1 : List Slot} : ∀ (vs : List Nat), (rst δ1 vs δ).length = δ.length
  | [] => rfl
  | v :: vs => by unfold rst; rw [List.length_set, rst_len vs]
theorem wipe_get {i : Nat} : ∀ {vs : List Nat}, i ∉ vs → (wipe σ vs)[i]? = σ[i]?
  | [], _ => rfl
  | v :: vs, h => by
    unfold wipe
    rw [List.getElem?_set_ne (fun e => h (by rw [e]; exact List.mem_cons_self)), wipe_get fun z => h (List.mem_cons_of_mem _ z)]
theorem wipeS_get {i : Nat} {sl : Slot} : ∀ {vs : List Nat}, (wipeS δ vs)[i]? = some sl → sl = .un ∨ (i ∉ vs ∧ δ[i]? = some sl)
  | [], h => .inr ⟨by simp, h⟩
  | v :: vs, h => by
    unfold wipeS at h
    by_cases hi : v = i
    · subst hi
      by_cases hv : v < (wipeS δ vs).length
      · rw [List.getElem?_set_self hv] at h; cases h; exact .inl rfl
      · rw [List.getElem?_eq_none (by rw [List.length_set]; omega)] at h; cases h
    · rw [List.getElem?_set_ne hi] at h
      rcases wipeS_get h with z | ⟨z1, z2⟩
      · exact .inl z
      · refine .inr ⟨fun z => ?_, z2⟩
        rcases List.mem_cons.mp z with z | z
        · exact hi z.symm
        · exact z1 z
theorem rst_get {δ1 : List Slot} {i : Nat} {sl : Slot} : ∀ {vs : List Nat}, (rst δ1 vs δ)[i]? = some sl → (i ∉ vs ∧ δ[i]? = some sl) ∨ (i ∈ vs ∧ (sl = .un ∨ (δ1[i]? = some sl ∧ ((∃ d, sl = .fr d) ∨ ∃ d, sl = .bw d))))
  | [], h => .inl ⟨by simp, h⟩
  | v :: vs, h => by
    unfold rst at h
    by_cases hi : v = i
    · subst hi
      by_cases hv : v < (rst δ1 vs δ).length
      · rw [List.getElem?_set_self hv] at h
        refine .inr ⟨List.mem_cons_self, ?_⟩
        split at h
        · rename_i d e; cases h; exact .inr ⟨e, .inl ⟨d, rfl⟩⟩
        · rename_i d e; cases h; exact .inr ⟨e, .inr ⟨d, rfl⟩⟩
        · cases h; exact .inl rfl
      · rw [List.getElem?_eq_none (by rw [List.length_set]; omega)] at h; cases h
    · rw [List.getElem?_set_ne hi] at h
      rcases rst_get h with ⟨z1, z2⟩ | ⟨z1, z2⟩
      · refine .inl ⟨fun z => ?_, z2⟩
        rcases List.mem_cons.mp z with z | z
        · exact hi z.symm
        · exact z1 z
      · exact .inr ⟨List.mem_cons_of_mem _ z1, z2⟩
theorem wipe_eq {vs : List Nat} (h : ∀ j : Nat, j ∉ vs → σ'[j]? = σ[j]?) (hl : σ'.length = σ.length) : wipe σ' vs = wipe σ vs := by
  refine List.ext_getElem? fun j => ?_
  by_cases hj : j ∈ vs
  · have z : ∀ {σ : L2.St}, ∀ {vs : List Nat}, j ∈ vs → (wipe σ vs)[j]? = if j < σ.length then some none else none := fun {σ} => by
      intro vs
      induction vs with
      | nil => intro h; simp at h
      | cons v vs ih =>
        intro h
        unfold wipe
        by_cases e : v = j
        · subst e
          by_cases hv : v < σ.length
          · rw [List.getElem?_set_self (by rw [wipe_length]; exact hv), if_pos hv]
          · rw [List.getElem?_eq_none (by rw [List.length_set, wipe_length]; omega), if_neg hv]
        · rw [List.getElem?_set_ne e]
          rcases List.mem_cons.mp h with z | z
          · exact (e z.symm).elim
          · exact ih z
    rw [z hj, z hj, hl]
  · rw [wipe_get hj, wipe_get hj]
    exact h j hj
/-- the block's names forgotten -/
theorem Wd.wiped {vs : List Nat} (W : Wd K en (δ ++ τ) (σ ++ ts) G H) (hl : δ.length = en.n) (hσ : σ.length = en.n) (hb : noBo (δ ++ τ) = true) : Wd K en (wipeS δ vs ++ τ) (L2.wipe σ vs ++ ts) G H := by
  have hw : (L2.wipe σ vs).length = en.n := by rw [wipe_length]; exact hσ
  have hw2 : (wipeS δ vs).length = en.n := by rw [wipeS_len]; exact hl
  have get : ∀ (i : Nat) sl, (wipeS δ vs ++ τ)[i]? = some sl → sl = .un ∨ ((δ ++ τ)[i]? = some sl ∧ (L2.wipe σ vs ++ ts)[i]? = (σ ++ ts)[i]?) := fun i sl h => by
    by_cases hi : i < en.n
    · rw [List.getElem?_append_left (by omega)] at h
      rcases wipeS_get h with z | ⟨z1, z2⟩
      · exact .inl z
      · refine .inr ⟨by rw [List.getElem?_append_left (by omega)]; exact z2, ?_⟩
        rw [List.getElem?_append_left (by omega), List.getElem?_append_left (by omega), wipe_get z1]
    · rw [List.getElem?_append_right (by omega), hw2, ← hl, ← List.getElem?_append_right (by omega)] at h
      refine .inr ⟨h, ?_⟩
      rw [List.getElem?_append_right (by omega), List.getElem?_append_right (by omega), hw, hσ]
  refine ⟨?_, W.sub, W.ext, W.new, W.frm, W.stay, W.nd, fun i sl o h1 h2 => ?_, fun i j p h1 h2 => ?_⟩
  · have := W.len
    rw [List.length_append, List.length_append] at this ⊢
    omega
  · rcases get i sl h1 with z | ⟨z1, z2⟩
    · subst z; trivial
    · rw [z2] at h2
      have q := W.slot i sl o z1 h2
      cases sl with
      | bo j => exact (noBo_get hb z1).elim
      | un => trivial
      | fr d => exact q
      | mu d => exact q
      | mp _ d => exact q
      | bw d => exact q
  · have key : ∀ (i : Nat), Own (wipeS δ vs ++ τ) (L2.wipe σ vs ++ ts) i p → Own (δ ++ τ) (σ ++ ts) i p := fun i ⟨sl, e1, e2, e3⟩ => by
      rcases get i sl e1 with z | ⟨z1, z2⟩
      · subst z; cases e2
      · exact ⟨sl, z1, e2, by rw [← z2]; exact e3⟩
    exact W.apart i j p (key i h1) (key j h2)
theorem Wd.toBlk {Δ : List Slot} {S : L2.St} (W : Wd K en Δ S G H) : Wd K (en.blk G) Δ S G H :=
  ⟨W.len, W.sub, Sub.refl _, fun a o e => .inl e, W.frm, W.stay, W.nd, fun i sl o h1 h2 => by
    have q := W.slot i sl o h1 h2
    cases sl <;> exact q, W.apart⟩
/-- a list of one's own changed -/
theorem Wd.mut {Δ : List Slot} {S : L2.St} {i : Nat} {p : Addr} {o' : HO} {d' : D} (W : Wd K en Δ S G H) (ow : Own Δ S i p) (r : MRep K G (upd H p o') d' p) : Wd K en (Δ.set i ((Δ.getD i .un).put d')) S G (upd H p o') := by
  obtain ⟨sl0, e1, e2, e3⟩ := ow
  have hi := (List.getElem?_eq_some_iff.mp e1).1
  have own0 : Own Δ S i p := ⟨sl0, e1, e2, e3⟩
  have q0 := W.slot i sl0 _ e1 e3
  have fG : en.F0 p = none ∧ G p = none := by
    cases sl0 with
    | mu d => obtain ⟨p2, e, n, f, _, r⟩ := q0; cases e; exact ⟨f, n⟩
    | mp _ d => obtain ⟨p2, e, _, n, f, r⟩ := q0; cases e; exact ⟨f, n⟩
    | un => cases e2
    | fr _ => cases e2
    | bw _ => cases e2
    | bo _ => cases e2
  have hd : Δ.getD i .un = sl0 := by rw [List.getD_eq_getElem?_getD, e1]; rfl
  refine ⟨by rw [List.length_set]; exact W.len, fun a o e => ?_, W.ext, W.new, fun a o e => ?_, fun a h => ?_, W.nd, fun j sl o h1 h2 => ?_, fun j l q h1 h2 => ?_⟩
  · rw [upd_ne (fun z => by subst z; rw [fG.2] at e; cases e)]; exact W.sub a o e
  · rw [upd_ne (fun z => by subst z; rw [fG.1] at e; cases e)]; exact W.frm a o e
  · by_cases z : a = p
    · subst z; rw [upd_same]; simp
    · rw [upd_ne z]; exact W.stay a h
  · by_cases hj : j = i
    · subst hj
      rw [List.getElem?_set_self hi] at h1
      cases h1
      rw [e3] at h2
      cases h2
      rw [hd]
      cases sl0 with
      | mu d => obtain ⟨p2, e, n, f, f2, _⟩ := q0; cases e; exact ⟨p, rfl, n, f, f2, r⟩
      | mp x d => obtain ⟨p2, e, f2, n, f, _⟩ := q0; cases e; exact ⟨p, rfl, f2, n, f, r⟩
      | un => cases e2
      | fr _ => cases e2
      | bw _ => cases e2
      | bo _ => cases e2
    · rw [List.getElem?_set_ne (Ne.symm hj)] at h1
      have q := W.slot j sl o h1 h2
      have np : ∀ q, sl.own = true → o = some (.ref q) → q ≠ p := fun x a b z => by
        subst z b
        exact hj (W.apart j i x ⟨sl, h1, a, h2⟩ own0)
      cases sl with
      | un => trivial
      | fr d => exact q
      | mu d => obtain ⟨x, e, n, f, f2, r⟩ := q; exact ⟨x, e, n, f, f2, r.keep (Sub.refl _) fun o z => by rw [upd_ne (np x rfl e)]; exact z⟩
      | mp _ d => obtain ⟨x, e, f2, n, f, r⟩ := q; exact ⟨x, e, f2, n, f, r.keep (Sub.refl _) fun o z => by rw [upd_ne (np x rfl e)]; exact z⟩
      | bw d => exact q
      | bo _ => exact q
  · have key : ∀ (j : Nat), Own (Δ.set i ((Δ.getD i .un).put d')) S j q → Own Δ S j q := fun j ⟨sl, f1, f2, f3⟩ => by
      by_cases hj : j = i
      · subst hj
        rw [List.getElem?_set_self hi] at f1
        exact ⟨sl0, e1, e2, f3⟩
      · rw [List.getElem?_set_ne (Ne.symm hj)] at f1
        exact ⟨sl, f1, f2, f3⟩
    exact W.apart j l q (key j h1) (key l h2)
/-- out of the block -/
theorem Wd.outof {vs : List Nat} {δ1 : List Slot} (W : Wd K en (δ1 ++ τ) (σ ++ ts) G H) (W' : Wd K (en.blk G) (δ ++ Ξ) (wipe σ vs ++ us) G' H') (h1 : δ1.length = en.n) (hl : δ.length = en.n) (hσ : σ.length = en.n) (hb : noBo (δ ++ Ξ) = true) : Wd K en (rst δ1 vs δ ++ Ξ) (σ ++ us) G' H' := by
  have hw : (wipe σ vs).length = en.n := by rw [wipe_length]; exact hσ
  have hw2 : (rst δ1 vs δ).length = en.n := by rw [rst_len]; exact hl
  have sG : Sub G G' := W'.ext
  have get : ∀ (i : Nat) sl, (rst δ1 vs δ ++ Ξ)[i]? = some sl → ((δ ++ Ξ)[i]? = some sl ∧ (wipe σ vs ++ us)[i]? = (σ ++ us)[i]?) ∨ (i < en.n ∧ (sl = .un ∨ (δ1[i]? = some sl ∧ ((∃ d, sl = .fr d) ∨ ∃ d, sl = .bw d)))) := fun i sl h => by
    by_cases hi : i < en.n
    · rw [List.getElem?_append_left (by omega)] at h
      rcases rst_get h with ⟨z1, z2⟩ | ⟨z1, z2⟩
      · refine .inl ⟨by rw [List.getElem?_append_left (by omega)]; exact z2, ?_⟩
        rw [List.getElem?_append_left (by omega), List.getElem?_append_left (by omega), wipe_get z1]
      · exact .inr ⟨hi, z2⟩
    · rw [List.getElem?_append_right (by omega), hw2, ← hl, ← List.getElem?_append_right (by omega)] at h
      refine .inl ⟨h, ?_⟩
      rw [List.getElem?_append_right (by omega), List.getElem?_append_right (by omega), hw, hσ]
  refine ⟨?_, W'.sub, W.ext.trans sG, fun a o e => ?_, W'.frm, W'.stay, W'.nd, fun i sl o e1 e2 => ?_, fun i j p e1 e2 => ?_⟩
  · have := W'.len
    rw [List.length_append, List.length_append] at this ⊢
    omega
  · rcases W'.new a o e with q | q
    · exact W.new a o q
    · exact .inr q
  · rcases get i sl e1 with ⟨z1, z2⟩ | ⟨hi, z⟩
    · rw [← z2] at e2
      have q := W'.slot i sl o z1 e2
      cases sl with
      | bo j => exact (noBo_get hb z1).elim
      | un => trivial
      | fr d => exact q
      | mu d => exact q
      | mp _ d => exact q
      | bw d => exact q
    · rcases z with z | ⟨z, z'⟩
      · subst z; trivial
      · have q := W.slot i sl o (by rw [List.getElem?_append_left (by omega)]; exact z) (by
          rw [List.getElem?_append_left (by omega)] at e2 ⊢; exact e2)
        rcases z' with ⟨d, z'⟩ | ⟨d, z'⟩
        · subst z'
          obtain ⟨v, ev, r⟩ := q
          exact ⟨v, ev, Rep.sub sG _ _ r⟩
        · subst z'
          obtain ⟨v, ev, r⟩ := q
          exact ⟨v, ev, BRep.sub sG (Sub.refl _) r⟩
  · have key : ∀ (i : Nat), Own (rst δ1 vs δ ++ Ξ) (σ ++ us) i p → Own (δ ++ Ξ) (wipe σ vs ++ us) i p := fun i ⟨sl, f1, f2, f3⟩ => by
      rcases get i sl f1 with ⟨z1, z2⟩ | ⟨hi, z⟩
      · exact ⟨sl, z1, f2, by rw [z2]; exact f3⟩
      · rcases z with z | ⟨z, ⟨d, z'⟩ | ⟨d, z'⟩⟩
        · subst z; cases f2
        · subst z'; cases f2
        · subst z'; cases f2
    exact W'.apart i j p (key i e1) (key j e2)
end
section
variable {X : Cx} {en : Kn} {δ τ : List Slot} {R : Type} {C : Slot → List Slot → Res R → Prop} {m : Res R} {K : PySem.W.Frag}
theorem lcF_step {S : Type} {d : D} {ds : List D} {s : S} {acc : List D} {f : D → S → Res (Option D × S)} {k : List D × S → Res R} (h : (lcF (d :: ds) s acc f).bind k ≠ .bad) :
    (∃ y s', f d s = .ok (some y, s') ∧ acc.length < sizeLine ∧ lcF (d :: ds) s acc f = lcF ds s' (acc ++ [y]) f) ∨ ∃ s', f d s = .ok (none, s') ∧ lcF (d :: ds) s acc f = lcF ds s' acc f := by
  have e : lcF (d :: ds) s acc f = (match f d s with
    | .ok (some y, s') => if acc.length < sizeLine then lcF ds s' (acc ++ [y]) f else .bad
    | .ok (none, s') => lcF ds s' acc f
    | _ => .bad) := rfl
  rw [e] at h ⊢
  match hf : f d s with
  | .ok (some y, s') =>
    rw [hf] at h
    simp only at h ⊢
    by_cases hz : acc.length < sizeLine
    · exact .inl ⟨y, s', rfl, hz, if_pos hz⟩
    · rw [if_neg hz] at h; exact (h rfl).elim
  | .ok (none, s') => exact .inr ⟨s', rfl, rfl⟩
  | .raise x => rw [hf] at h; exact (h rfl).elim
  | .bad => rw [hf] at h; exact (h rfl).elim
/-- in every block of this scope -/
def AllB (X : Cx) (scope : Scope) (P : Cx → Prop) : Prop := ∀ (s0 : Shared) (H0 : Hp) (C : Addr) (cl : List (Str × Addr)) (fp : List Addr), P (X.blk s0 H0 scope (compEnvC scope cl C X.env) fp)
/-- a comprehension's block, for one item: the target, the test (or none), the element -/
def TurnE (X : Cx) (scope : Scope) (en : Kn) (δ τ : List Slot) (elt : Expr) {S : Type} (pe : S → List Slot) (vs : List Nat) (m : Res (Option D × S)) : Prop :=
  AllB X scope fun Y => JE Y en δ τ elt (fun s δ3 m3 => ∃ y a', s = .fr y ∧ m3 = .ok (some y, a') ∧ Le (wipeS δ3 vs) (pe a') ∧ noBo δ3 = true) m
def TurnT (X : Cx) (scope : Scope) (en : Kn) (δ τ : List Slot) (ifs : List Expr) (elt : Expr) {S : Type} (pe : S → List Slot) (vs : List Nat) (m : Res (Option D × S)) : Prop :=
  match ifs with
  | [] => TurnE X scope en δ τ elt pe vs m
  | [c] => AllB X scope fun Y => JT Y en δ τ c (fun b δ3 m3 => ∃ mA mF, m3 = (if b = true then mA else mF) ∧ TurnE X scope en δ3 τ elt pe vs mA ∧ ∃ a', mF = .ok (none, a') ∧ Le (wipeS δ3 vs) (pe a') ∧ noBo δ3 = true) m
  | _ => False
def Turn1 (X : Cx) (scope : Scope) (en : Kn) (δ τ : List Slot) (tg : Expr) (ifs : List Expr) (elt : Expr) (d : D) {S : Type} (pe : S → List Slot) (vs : List Nat) (m : Res (Option D × S)) : Prop :=
  AllB X scope fun Y => ∃ is, (∀ i, i ∈ is → i ∈ vs) ∧ JG Y en δ τ tg d is (fun δ2 m2 => TurnT X scope en δ2 τ ifs elt pe vs m2) m
theorem le_app : ∀ {a b c d : List Slot}, Le a b → Le c d → Le (a ++ c) (b ++ d)
  | [], [], _, _, _, h => h
  | _ :: _, _ :: _, _, _, h1, h => ⟨h1.1, le_app h1.2 h⟩
  | [], _ :: _, _, _, h, _ => h.elim
  | _ :: _, [], _, _, h, _ => h.elim
theorem noBo_app : ∀ {a b : List Slot}, noBo (a ++ b) = true ↔ noBo a = true ∧ noBo b = true
  | [], b => by simp [noBo]
  | .bo _ :: _, _ => by simp [noBo]
  | .un :: a, b => by simpa [noBo] using noBo_app (a := a) (b := b)
  | .fr _ :: a, b => by simpa [noBo] using noBo_app (a := a) (b := b)
  | .mu _ :: a, b => by simpa [noBo] using noBo_app (a := a) (b := b)
  | .mp _ _ :: a, b => by simpa [noBo] using noBo_app (a := a) (b := b)
  | .bw _ :: a, b => by simpa [noBo] using noBo_app (a := a) (b := b)
theorem noBo_of {a : List Slot} (h : ∀ (i j : Nat), a[i]? ≠ some (.bo j)) : noBo a = true := by
  induction a with
  | nil => rfl
  | cons s r ih =>
    have ih := ih fun i j e => h (i + 1) j (by simpa using e)
    cases s with
    | bo j => exact (h 0 j rfl).elim
    | un => exact ih
    | fr _ => exact ih
    | mu _ => exact ih
    | mp _ _ => exact ih
    | bw _ => exact ih
theorem noBo_le {a b : List Slot} (h : Le a b) (ha : noBo a = true) : noBo b = true := noBo_of fun i j e => by
  rcases h.get e with z | z
  · cases z
  · exact noBo_get ha z
theorem noBo_wipeS {a : List Slot} {vs : List Nat} (ha : noBo a = true) : noBo (wipeS a vs) = true := noBo_of fun i j e => by
  rcases wipeS_get e with z | ⟨_, z⟩
  · cases z
  · exact noBo_get ha z
abbrev gB (X : Cx) (scope : Scope) (tg : Expr) : TG := fun v σ H Q => AllB X scope fun Y => WG Y tg v σ H Q
abbrev tB (X : Cx) (scope : Scope) (ifs : List Expr) : TT := fun σ H Q => AllB X scope fun Y => ∀ (pins : List (Addr × Obj)) (s : Shared), Inv Y pins σ H s →
  wpAny (model Y.prog Y.w) Y.A (forIn ifs true fun c r => if r = true then do let ok ← isTrue c Y.env (eval c Y.env); pure (ForInStep.yield ok) else pure (ForInStep.yield r)) (TP Y pins σ Q) Y.xe s
abbrev eB (X : Cx) (scope : Scope) (elt : Expr) : TE := fun σ H Q => AllB X scope fun Y => WE Y elt σ H Q
theorem Wd.endMut {Δ : List Slot} {S : L2.St} {G H : Hp} {Dn : Addr} {acc : List D} {y : D} {v : V} (W : Wd K en (Δ ++ [.mu (.lst acc)] ++ [.fr y]) (S ++ [some (.ref Dn)] ++ [some v]) G H) (hl : Δ.length = S.length) (hn : en.n ≤ S.length) :
    ∃ vs, H Dn = some (.lst vs) ∧ vs.length = acc.length ∧ Wd K en (Δ ++ [.mu (.lst (acc ++ [y]))]) (S ++ [some (.ref Dn)]) G (upd H Dn (.lst (vs ++ [v]))) := by
  obtain ⟨v', e, ry⟩ := W.last
  cases e
  have W1 : Wd K en (Δ ++ [.mu (.lst acc)]) (S ++ [some (.ref Dn)]) G H := W.cut (by rw [List.length_append, List.length_append, hl]; rfl) (by rw [List.length_append]; omega)
  obtain ⟨p, e, n, f, f2, vs, ev, r⟩ := W1.last
  cases e
  refine ⟨vs, ev, r.length.symm, ?_⟩
  have := W1.mut (i := Δ.length) (p := Dn) (o' := .lst (vs ++ [v])) (d' := .lst (acc ++ [y])) ⟨_, getElem?_last, rfl, by rw [hl]; exact getElem?_last⟩ ⟨_, upd_same, r.append (Reps.one ry)⟩
  rw [List.set_append_right _ _ (Nat.le_refl _), Nat.sub_self, List.getD_eq_getElem?_getD, getElem?_last] at this
  exact this
/-- the reading of a comprehension -/
theorem tlc_core {S : Type} {elt tg iter : Expr} {ifs : List Expr} {scope : Scope} {vs : List Nat} (hnb : noBo τ = true)
    (h : JI X en δ τ tg iter (fun ds δ1 m1 => ∃ (a0 : S) (f : D → S → Res (Option D × S)) (k : List D × S → Res R) (pe pe' : S → List Slot), m1 = (lcF ds a0 [] f).bind k ∧ Le (wipeS δ1 vs) (pe a0) ∧ noBo δ1 = true ∧
      (∀ en', KnB en en' → ∀ d a acc, Turn1 X scope en' (pe a) (τ ++ [.mu (.lst acc)]) tg ifs elt d pe vs (f d a)) ∧ (∀ a, rst δ1 vs (pe a) = pe' a) ∧ ∀ p : List D × S, C (.mu (.lst p.1)) (pe' p.2) (k p)) m)
    (hb : m ≠ .bad) (hx : en.HX m.exc) (σ ts : L2.St) (G H : Hp) (T : VK) (hl : δ.length = en.n) (hσ : σ.length = en.n) (W : Wd X.K en (δ ++ τ) (σ ++ ts) G H)
    (q : ∀ sl δ' v G' H', C sl δ' m → δ'.length = en.n → Wd X.K en (δ' ++ τ ++ [sl]) (σ ++ ts ++ [some v]) G' H' → T v H') :
    tLc (WI X tg iter) (gB X scope tg) (tB X scope ifs) (eB X scope elt) vs σ H T := by
  refine h.run hb hx σ ts G H _ hl hσ W fun ds δ1 J G1 H1 c hl1 W1 it => ?_
  obtain ⟨a0, f, k, pe, pe', em, le0, nb1, turn, hpe, hk⟩ := c
  have ht : τ.length = ts.length := W.splitLen (hl.trans hσ.symm)
  intro Dn hD
  have nbT : ∀ acc, noBo (τ ++ [Slot.mu (.lst acc)]) = true := fun acc => noBo_app.mpr ⟨hnb, rfl⟩
  have W2 : Wd X.K (en.blk G1) (wipeS δ1 vs ++ (τ ++ [.mu (.lst [])])) (L2.wipe σ vs ++ (ts ++ [some (.ref Dn)])) G1 (upd H1 Dn (.lst [])) := by
    have w := W1.out (sl := .mu (.lst [])) (v := .ref Dn) (Grow.laid W1.sub hD) ⟨Dn, rfl, hD, (W1.fresh hD).1, [], upd_same, rfl⟩
    rw [List.append_assoc, List.append_assoc] at w
    exact (w.toBlk).wiped hl1 hσ (noBo_app.mpr ⟨nb1, nbT _⟩)
  have turn := turn (en.blk G1) ⟨rfl, rfl, rfl, rfl⟩
  refine ⟨fun i n H => n = ds.length - i ∧ i ≤ ds.length ∧ ∃ a acc G2, (pe a).length = en.n ∧ noBo (pe a) = true ∧ Wd X.K (en.blk G1) (pe a ++ (τ ++ [.mu (.lst acc)])) (L2.wipe σ vs ++ (ts ++ [some (.ref Dn)])) G2 H ∧ m = (lcF (ds.drop i) a acc f).bind k,
    ⟨ds.length, by simp, Nat.zero_le _, a0, [], G1, le0.len.symm.trans (by rw [wipeS_len]; exact hl1), noBo_le le0 (noBo_wipeS nb1), ?_, em⟩, ?_⟩
  · have le1 : Le (wipeS δ1 vs ++ (τ ++ [.mu (.lst [])])) (pe a0 ++ (τ ++ [.mu (.lst [])])) := le_app le0 (Le.refl _)
    exact W2.le le1
  rintro i n H2 ⟨rfl, hi, a, acc, G2, hla, hnba, W3, em2⟩
  obtain ⟨go, stop⟩ := it G2 H2 W3.ext W3.frm W3.sub i
  by_cases hlt : i < ds.length
  · obtain ⟨g1, g2⟩ := go ds[i] (List.getElem?_eq_getElem hlt)
    have ed : ds.drop i = ds[i] :: ds.drop (i + 1) := by rw [List.drop_eq_getElem_cons hlt]
    refine .inr ⟨g1, fun H' => ∃ a acc G2, (pe a).length = en.n ∧ noBo (pe a) = true ∧ Wd X.K (en.blk G1) (pe a ++ (τ ++ [.mu (.lst acc)])) (L2.wipe σ vs ++ (ts ++ [some (.ref Dn)])) G2 H' ∧ m = (lcF (ds.drop (i + 1)) a acc f).bind k, fun H' hn => ⟨ds.length - (i + 1), by omega, rfl, hlt, hn⟩, fun x H' hy => ?_⟩
    obtain ⟨G3, gr, rx⟩ := g2 x H' hy
    rw [ed] at em2
    have hb2 := hb
    rw [em2] at hb2
    have st := lcF_step hb2
    have hfb : f ds[i] a ≠ .bad := by
      rcases st with ⟨y, s', e, _⟩ | ⟨s', e, _⟩ <;> (rw [e]; exact fun z => nomatch z)
    have hfx : (en.blk G1).HX (f ds[i] a).exc := by
      rcases st with ⟨y, s', e, _⟩ | ⟨s', e, _⟩ <;> (rw [e]; exact rfl)
    intro s0 H0 C0 cl fp
    obtain ⟨is, his, tr⟩ := turn ds[i] a acc s0 H0 C0 cl fp
    refine tr.run hfb hfx (L2.wipe σ vs) (ts ++ [some (.ref Dn)]) G3 H' x _ hla (by rw [wipe_length]; exact hσ) (W3.grow gr) rx fun δ4 σ4 G4 H4 c4 hl4 hσ4 W4 _ on => ?_
    have hwp : L2.wipe σ4 vs = L2.wipe σ vs := by
      rw [wipe_eq (σ := L2.wipe σ vs) (σ' := σ4) (fun j hj => on j fun z => hj (his j z)) (by rw [wipe_length, hσ4, hσ])]
      refine wipe_eq (fun j hj => wipe_get hj) (wipe_length _ _)
    refine ⟨hwp, ?_⟩
    -- the element, kept
    have elem : ∀ {δ5 : List Slot} {G5 H5 : Hp} {mm : Res (Option D × S)}, mm = f ds[i] a → TurnE X scope (en.blk G1) δ5 (τ ++ [.mu (.lst acc)]) elt pe vs mm → δ5.length = en.n → Wd X.K (en.blk G1) (δ5 ++ (τ ++ [.mu (.lst acc)])) (σ4 ++ (ts ++ [some (.ref Dn)])) G5 H5 →
        eB X scope elt σ4 H5 fun y H6 => ∃ accV, H6 Dn = some (.lst accV) ∧ accV.length < sizeLine ∧ ∃ a acc G2, (pe a).length = en.n ∧ noBo (pe a) = true ∧ Wd X.K (en.blk G1) (pe a ++ (τ ++ [.mu (.lst acc)])) (L2.wipe σ vs ++ (ts ++ [some (.ref Dn)])) G2 (upd H6 Dn (.lst (accV ++ [y]))) ∧ m = (lcF (ds.drop (i + 1)) a acc f).bind k := by
      intro δ5 G5 H5 mm hm c5 hl5 W5 s0 H0 C0 cl fp
      subst hm
      refine (c5 s0 H0 C0 cl fp).run hfb hfx σ4 (ts ++ [some (.ref Dn)]) G5 H5 _ hl5 hσ4 W5 fun s δ6 y G6 H6 ⟨yd, a', es, e6, le6, nb6⟩ hl6 W6 => ?_
      subst es
      have W7 : Wd X.K (en.blk G1) ((δ6 ++ τ) ++ [.mu (.lst acc)] ++ [.fr yd]) ((σ4 ++ ts) ++ [some (.ref Dn)] ++ [some y]) G6 H6 := by
        simp only [List.append_assoc] at W6 ⊢
        exact W6
      have hl6' : δ6.length = en.n := hl6
      have hσ4' : σ4.length = en.n := hσ4
      obtain ⟨accV, h1, h2, W8⟩ := W7.endMut (by rw [List.length_append, List.length_append]; omega) (by rw [List.length_append]; show en.n ≤ _; omega)
      rcases st with ⟨y', s', e, hz, e2⟩ | ⟨s', e, e2⟩
      · rw [e] at e6
        cases e6
        refine ⟨accV, h1, by rw [h2]; exact hz, a', acc ++ [yd], G6, le6.len.symm.trans (by rw [wipeS_len]; exact hl6), noBo_le le6 (noBo_wipeS nb6), ?_, by rw [em2, e2]⟩
        rw [List.append_assoc, List.append_assoc] at W8
        have W9 := W8.wiped (vs := vs) hl6 hσ4 (noBo_app.mpr ⟨nb6, nbT _⟩)
        rw [hwp] at W9
        exact W9.le (le_app le6 (Le.refl _))
      · rw [e] at e6
        cases e6
    match hifs : ifs, c4 with
    | [], c4 =>
      intro s0 H0 C0 cl fp pins s I
      exact wpAny_tests_nil ⟨H4, I, iteT (elem rfl c4 hl4 W4)⟩
    | [cnd], c4 =>
      intro s0 H0 C0 cl fp pins s I
      refine wpAny_tests_one (((c4 s0 H0 C0 cl fp).run hfb hfx σ4 (ts ++ [some (.ref Dn)]) G4 H4 _ hl4 hσ4 W4 fun b δ5 G5 H5 ⟨mA, mF, e5, cA, a', eF, leF, nbF⟩ hl5 W5 => ?_) pins s I)
      cases b with
      | true =>
        have e : f ds[i] a = mA := e5
        exact iteT (elem e.symm cA hl5 W5)
      | false =>
        have e : f ds[i] a = mF := e5
        rw [eF] at e
        refine iteF ?_
        rcases st with ⟨y', s', e3, hz, e2⟩ | ⟨s', e3, e2⟩
        · rw [e] at e3; cases e3
        · rw [e] at e3
          cases e3
          refine ⟨a', acc, G5, leF.len.symm.trans (by rw [wipeS_len]; exact hl5), noBo_le leF (noBo_wipeS nbF), ?_, by rw [em2, e2]⟩
          have W9 := W5.wiped (vs := vs) hl5 hσ4 (noBo_app.mpr ⟨nbF, nbT _⟩)
          rw [hwp] at W9
          exact W9.le (le_app leF (Le.refl _))
    | _ :: _ :: _, c4 => exact c4.elim
  · have e : i = ds.length := by omega
    subst e
    refine .inl ⟨stop (Nat.le_refl _), ?_⟩
    rw [List.drop_length] at em2
    have em3 : m = k (acc, a) := em2
    have hc := hk (acc, a)
    rw [← em3] at hc
    have W5 := W1.outof (vs := vs) (δ := pe a) (Ξ := τ ++ [.mu (.lst acc)]) (us := ts ++ [some (.ref Dn)]) W3 hl1 hla hσ (noBo_app.mpr ⟨hnba, nbT _⟩)
    rw [hpe a, ← List.append_assoc, ← List.append_assoc] at W5
    exact q _ (pe' a) (.ref Dn) G2 H2 hc (by rw [← hpe a, rst_len]; exact hla) W5
/-- [.. for .. in ..] as a value: a new list -/
theorem je_lc {S : Type} {elt tg iter : Expr} {ifs : List Expr} {scope : Scope} {pos : Pos} (own : List (Str × Nat)) (hc : X.calm = true) (hN : X.N.Nodup)
    (h : JI X en δ τ tg iter (fun ds δ1 m1 => ∃ (a0 : S) (f : D → S → Res (Option D × S)) (k : List D × S → Res R) (pe pe' : S → List Slot), m1 = (lcF ds a0 [] f).bind k ∧ Le (wipeS δ1 (own.map (·.2))) (pe a0) ∧ noBo δ1 = true ∧
      (∀ en', KnB en en' → ∀ d a acc, Turn1 X scope en' (pe a) (τ ++ [.mu (.lst acc)]) tg ifs elt d pe (own.map (·.2)) (f d a)) ∧ (∀ a, rst δ1 (own.map (·.2)) (pe a) = pe' a) ∧ ∀ p : List D × S, C (.mu (.lst p.1)) (pe' p.2) (k p)) m)
    (hnb : noBo τ = true := by rfl) (ok : BlkOk X.N X.env.scope scope own := by exact blkOk_by (by decide +kernel)) (hs : ∀ x, foldedSetIterable iter X.env x = pure x := by intro _; rfl) :
    JE X en δ τ (.ListComp elt [⟨tg, iter, ifs, 0⟩] scope pos) C m := .mk fun hb hx σ ts G H T hl hσ W q =>
  we_of (pe_lc hc hN pi_wi ok (g := gB X scope tg) (tt := tB X scope ifs) (te := eB X scope elt) (fun s0 H0 C0 cl fp => ⟨fun pins s σ H v u Q I r hw => hw s0 H0 C0 cl fp pins s u I r⟩)
    (fun s0 H0 C0 cl fp => ⟨fun pins s σ H Q I hw => hw s0 H0 C0 cl fp pins s I⟩) (fun s0 H0 C0 cl fp => ⟨fun pins s σ H Q I hw => hw s0 H0 C0 cl fp pins s I⟩) hs) (tlc_core hnb h hb hx σ ts G H T hl hσ W q)
/-- name = [.. for .. in ..] -/
theorem js_setLc {S : Type} {N : List Slot → Res R → Prop} {RT : Slot → List Slot → Res R → Prop} {BK CT : List Slot → Res R → Prop} (i : Nat) {y : Str} {py : Pos} {elt tg iter : Expr} {ifs : List Expr} {scope : Scope} {pos spos : Pos} (own : List (Str × Nat)) (hc : X.calm = true) (hN : X.N.Nodup)
    (h : JI X en δ [] tg iter (fun ds δ1 m1 => ∃ (a0 : S) (f : D → S → Res (Option D × S)) (k : List D × S → Res R) (pe pe' : S → List Slot), m1 = (lcF ds a0 [] f).bind k ∧ Le (wipeS δ1 (own.map (·.2))) (pe a0) ∧ noBo δ1 = true ∧
      (∀ en', KnB en en' → ∀ d a acc, Turn1 X scope en' (pe a) ([] ++ [.mu (.lst acc)]) tg ifs elt d pe (own.map (·.2)) (f d a)) ∧ (∀ a, rst δ1 (own.map (·.2)) (pe a) = pe' a) ∧ ∀ p : List D × S, ∃ δ', (pe' p.2).set i (.mu (.lst p.1)) = δ' ∧ noBo (pe' p.2) = true ∧ N δ' (k p)) m)
    (hy : X.N[i]? = some y := by rfl) (hyl : X.env.scope.names.lookup y = some .local := by rfl)
    (ok : BlkOk X.N X.env.scope scope own := by exact blkOk_by (by decide +kernel)) (hs : ∀ x, foldedSetIterable iter X.env x = pure x := by intro _; rfl)
    (hsw : swapsWith (.ListComp elt [⟨tg, iter, ifs, 0⟩] scope pos) (some (.Name y py)) spos.line X.env = pure true := by exact sw_true rfl rfl rfl (by decide +kernel)) :
    JS X en δ (.Assign [.Name y py] (.ListComp elt [⟨tg, iter, ifs, 0⟩] scope pos) spos) N RT BK CT m := .mk fun hb hx σ G H E hl W k1 k2 k3 k4 => by
  refine ws_of (ps_setLc hc hN hy hyl hsw pi_wi ok (g := gB X scope tg) (tt := tB X scope ifs) (te := eB X scope elt) (fun s0 H0 C0 cl fp => ⟨fun pins s σ H v u Q I r hw => hw s0 H0 C0 cl fp pins s u I r⟩)
    (fun s0 H0 C0 cl fp => ⟨fun pins s σ H Q I hw => hw s0 H0 C0 cl fp pins s I⟩) (fun s0 H0 C0 cl fp => ⟨fun pins s σ H Q I hw => hw s0 H0 C0 cl fp pins s I⟩) hs) ?_
  refine tlc_core (S := S) (τ := []) (C := fun s δ1 m1 => ∃ δ', δ1.set i s = δ' ∧ s.may = true ∧ noBo δ1 = true ∧ N δ' m1) rfl (h.conv fun ds δ1 c => ?_) hb hx σ [] G H _ hl (W.sl hl) (by rw [List.append_nil, List.append_nil]; exact W) fun sl δ1 v G' H' ⟨δ', e1, e2, e3, c⟩ hl' W' => ?_
  · obtain ⟨a0, f, k, pe, pe', e, le, nb, t, r, c⟩ := c
    exact ⟨a0, f, k, pe, pe', e, le, nb, t, r, fun p => by obtain ⟨δ', f1, f2, f3⟩ := c p; exact ⟨δ', f1, rfl, f2, f3⟩⟩
  · subst e1
    rw [List.append_nil, List.append_nil] at W'
    exact k1 _ _ G' H' c (by rw [List.length_set]; exact hl') (W'.give (hl'.trans (W.sl hl).symm) e3 e2 i)
end
end BR

/-! K10: operations over data -/
namespace BR
open PySem PySem.Spec PyProof.Rows L2

/-! ### as the library's data -/
mutual
def toP : D → PyData
  | .non => .none
  | .bl b => .bool b
  | .int i => .int i
  | .str x => .str x
  | .lst ds => .list (toPs ds)
  | .tup ds => .tuple (toPs ds)
  | .dic ks => .dict (toPk ks)
  | .scr ns => .list (ns.map PyData.int)
  | .exc _ _ => .dict []
  | .obj _ _ => .dict []
def toPs : List D → List PyData
  | [] => []
  | d :: ds => toP d :: toPs ds
def toPk : List (Key × D) → List (PyData × PyData)
  | [] => []
  | (.inl i, d) :: r => (.int i, toP d) :: toPk r
  | (.inr x, d) :: r => (.str x, toP d) :: toPk r
end
section
variable {K : PySem.W.Frag} {G H : Hp}
theorem dp_ints : ∀ ns : List Int, DpAll K H (ns.map V.int) (ns.map PyData.int)
  | [] => .nil
  | n :: ns => .cons (.int n) (dp_ints ns)
mutual
theorem Rep.dp : ∀ (d : D) (v : V), Rep K H d v → (toP d).canLay0 = true → Dp K H v (toP d)
  | .non, v, h, _ => by
    have e : v = .non := h
    subst e; exact .non
  | .bl b, v, h, _ => by
    have e : v = .bl b := h
    subst e; exact .bl b
  | .int b, v, h, _ => by
    have e : v = .int b := h
    subst e; exact .int b
  | .str b, v, h, _ => by
    have e : v = .str b := h
    subst e; exact .str b
  | .lst ds, v, h, c => by
    obtain ⟨a, vs, e, q, r⟩ := h
    subst e
    exact .lst (SqL.of q) (Reps.dp ds vs r (by simpa [toP, PyData.canLay0] using c))
  | .tup ds, v, h, c => by
    obtain ⟨a, vs, e, q, r⟩ := h
    subst e
    exact .tup q (Reps.dp ds vs r (by simpa [toP, PyData.canLay0] using c))
  | .scr ns, v, h, c => by
    obtain ⟨a, e, q⟩ := h
    subst e
    exact .lst q (dp_ints ns)
  | .dic ks, v, h, c => by simp [toP, PyData.canLay0] at c
  | .exc _ _, v, h, c => by simp [toP, PyData.canLay0] at c
  | .obj _ _, v, h, c => by simp [toP, PyData.canLay0] at c
theorem Reps.dp : ∀ (ds : List D) (vs : List V), Reps K H ds vs → PyData.canLayAll0 (toPs ds) = true → DpAll K H vs (toPs ds)
  | [], vs, h, _ => by
    have e : vs = [] := h
    subst e; exact .nil
  | d :: ds, vs, h, c => by
    obtain ⟨v, r, e, h1, h2⟩ := h
    subst e
    have c' : (toP d).canLay0 = true ∧ PyData.canLayAll0 (toPs ds) = true := by simpa [toPs, PyData.canLayAll0] using c
    exact .cons (Rep.dp d v h1 c'.1) (Reps.dp ds r h2 c'.2)
end
theorem VRep.dp {d : D} {v : V} (s : Sub G H) (h : VRep K G H d v) (c : (toP d).canLay0 = true) : Dp K H v (toP d) := by
  refine Rep.dp d v ?_ c
  cases d with
  | lst ds => obtain ⟨a, vs, e, q, r⟩ := h; exact ⟨a, vs, e, q, Reps.sub s _ _ r⟩
  | tup ds => obtain ⟨a, vs, e, q, r⟩ := h; exact ⟨a, vs, e, q, Reps.sub s _ _ r⟩
  | dic ds => obtain ⟨a, vs, e, q, r⟩ := h; exact ⟨a, vs, e, q, RepKs.sub s _ _ r⟩
  | scr ns => exact h
  | exc _ _ => obtain ⟨a, C, e, f, q⟩ := h; exact ⟨a, C, e, f, q.sub s (Sub.refl _)⟩
  | obj _ _ => simp [toP, PyData.canLay0] at c
  | non => exact h
  | bl _ => exact h
  | int _ => exact h
  | str _ => exact h
end

/-! ### arithmetic -/
def addD : D → D → Option D
  | .int a, .int b => some (.int (a + b))
  | .str a, .str b => if a.length + b.length ≤ sizeLine then some (.str (a ++ b)) else none
  | .lst a, .lst b => if a.length + b.length ≤ sizeLine then some (.lst (a ++ b)) else none
  | .tup (a :: as), .tup (b :: bs) => if (a :: as).length + (b :: bs).length ≤ sizeLine then some (.tup ((a :: as) ++ (b :: bs))) else none
  | _, _ => none
def catL : D → D → Option D
  | .lst a, .lst b => if a.length + b.length ≤ sizeLine then some (.lst (a ++ b)) else none
  | _, _ => none
def subD : D → D → Option D
  | .int a, .int b => some (.int (a - b))
  | _, _ => none
def mulD : D → D → Option D
  | .int a, .int b => if a.natAbs.log2 + b.natAbs.log2 < 1000000 then some (.int (a * b)) else none
  | _, _ => none
def fdivD : D → D → Option D
  | .int a, .int b => if 0 < b ∧ b.natAbs.log2 < 9000 then some (.int (a / b)) else none
  | _, _ => none
def modD : D → D → Option D
  | .int a, .int b => if 0 < b then some (.int (a % b)) else none
  | _, _ => none
def powD : D → D → Option D
  | .int a, .int b => if 0 ≤ b ∧ (Builtin.Int.intBits a : Int) * b ≤ 2 ^ 27 then some (.int (a ^ b.toNat)) else none
  | _, _ => none
def negD : D → Option D
  | .int a => some (.int (-a))
  | _ => none
section
variable {X : Cx}
theorem VRep.sc {K : PySem.W.Frag} {G H : Hp} {d : D} {v u : V} (h : VRep K G H d v) (e : (match d with | .non => some V.non | .bl b => some (V.bl b) | .int i => some (V.int i) | .str x => some (V.str x) | _ => none) = some u) : v = u := by
  cases d <;> first | (cases e; exact h) | cases e
/-- a fresh list that stands fast at once -/
theorem fz_out {G H : Hp} {ds : List D} {vs : List V} {Q : VK} (sb : Sub G H) (r : Reps X.K G ds vs) (k : ∀ v G' H', Grow G H G' H' → Out X.K G H G' H' (.fr (.lst ds)) v → Q v H') : ∀ p, H p = none → Q (.ref p) (upd H p (.lst vs)) := fun p hp => by
  have hg : G p = none := by
    cases z : G p with
    | none => rfl
    | some o => rw [sb p o z] at hp; cases hp
  refine k (.ref p) (upd G p (.lst vs)) _ ⟨Sub.upd hg, Sub.upd hp, fun a u e => ?_, fun a u e => ?_⟩ ⟨p, vs, rfl, upd_same, Reps.sub (Sub.upd hg) _ _ r⟩
  · by_cases ha : a = p
    · subst ha; rw [upd_same] at e ⊢; exact e
    · rw [upd_ne ha] at e ⊢; exact sb a u e
  · by_cases ha : a = p
    · subst ha; exact .inr hp
    · rw [upd_ne ha] at e; exact .inl e
theorem fzT_out {G H : Hp} {ds : List D} {vs : List V} {Q : VK} (sb : Sub G H) (r : Reps X.K G ds vs) (k : ∀ v G' H', Grow G H G' H' → Out X.K G H G' H' (.fr (.tup ds)) v → Q v H') : ∀ p, H p = none → Q (.ref p) (upd H p (.tup vs)) := fun p hp => by
  have hg : G p = none := by
    cases z : G p with
    | none => rfl
    | some o => rw [sb p o z] at hp; cases hp
  refine k (.ref p) (upd G p (.tup vs)) _ ⟨Sub.upd hg, Sub.upd hp, fun a u e => ?_, fun a u e => ?_⟩ ⟨p, vs, rfl, SqT.of upd_same, Reps.sub (Sub.upd hg) _ _ r⟩
  · by_cases ha : a = p
    · subst ha; rw [upd_same] at e ⊢; exact e
    · rw [upd_ne ha] at e ⊢; exact sb a u e
  · by_cases ha : a = p
    · subst ha; exact .inr hp
    · rw [upd_ne ha] at e; exact .inl e
theorem mu_out {G H : Hp} {ds : List D} {vs : List V} {Q : VK} (sb : Sub G H) (r : Reps X.K G ds vs) (k : ∀ v G' H', Grow G H G' H' → Out X.K G H G' H' (.mu (.lst ds)) v → Q v H') : ∀ p, H p = none → Q (.ref p) (upd H p (.lst vs)) := fun p hp => by
  have hg : G p = none := by
    cases z : G p with
    | none => rfl
    | some o => rw [sb p o z] at hp; cases hp
  exact k (.ref p) G _ (Grow.laid sb hp) ⟨p, rfl, hp, hg, vs, upd_same, r⟩
theorem sc_out {G H : Hp} {Q : VK} {d : D} {u : V} (sb : Sub G H) (e : (match d with | .non => some V.non | .bl b => some (V.bl b) | .int i => some (V.int i) | .str x => some (V.str x) | _ => none) = some u) (k : ∀ v G' H', Grow G H G' H' → Out X.K G H G' H' (.fr d) v → Q v H') : Q u H := by
  refine k u G H (Grow.refl sb) ?_
  show Rep X.K G d u
  cases d <;> first | (cases e; exact rfl) | cases e
theorem op_addD : OpD X (binaryOp .Add) addD .fr := opD_of (op_add.or (op_add_str.or (op_cat.or op_catA))) fun d1 d2 d e G H v1 v2 Q sb r1 r2 k => by
  match d1, d2, e, r1, r2 with
  | .int a, .int b, e, r1, r2 =>
    cases e
    exact .inl ⟨a, b, r1, r2, sc_out sb rfl k⟩
  | .str a, .str b, e, r1, r2 =>
    have e' : (if a.length + b.length ≤ sizeLine then some (D.str (a ++ b)) else none) = some d := e
    by_cases hz : a.length + b.length ≤ sizeLine
    · rw [if_pos hz] at e'
      cases e'
      exact .inr (.inl ⟨a, b, r1, r2, hz, sc_out sb rfl k⟩)
    · rw [if_neg hz] at e'; cases e'
  | .lst a, .lst b, e, r1, r2 =>
    have e' : (if a.length + b.length ≤ sizeLine then some (D.lst (a ++ b)) else none) = some d := e
    by_cases hz : a.length + b.length ≤ sizeLine
    · rw [if_pos hz] at e'
      cases e'
      obtain ⟨p, vs, e1, q1, s1⟩ := r1
      obtain ⟨p2, vs2, e2, q2, s2⟩ := r2
      exact .inr (.inr (.inl ⟨p, p2, vs, vs2, e1, e2, q1, q2, by rw [← s1.length, ← s2.length]; exact hz, fz_out sb (s1.append s2) k⟩))
    · rw [if_neg hz] at e'; cases e'
  | .tup (a :: as), .tup (b :: bs), e, r1, r2 =>
    have e' : (if (a :: as).length + (b :: bs).length ≤ sizeLine then some (D.tup ((a :: as) ++ (b :: bs))) else none) = some d := e
    by_cases hz : (a :: as).length + (b :: bs).length ≤ sizeLine
    · rw [if_pos hz] at e'
      cases e'
      obtain ⟨p, vs, e1, q1, s1⟩ := r1
      obtain ⟨p2, vs2, e2, q2, s2⟩ := r2
      have n1 : vs ≠ [] := fun z => by have := s1.length; rw [z] at this; simp at this
      have n2 : vs2 ≠ [] := fun z => by have := s2.length; rw [z] at this; simp at this
      exact .inr (.inr (.inr ⟨p, p2, vs, vs2, e1, e2, q1, q2, by rw [← s1.length, ← s2.length]; exact hz, fun z => absurd z n1, fun _ z => absurd z n2, fun _ _ => fzT_out sb (s1.append s2) k⟩))
    · rw [if_neg hz] at e'; cases e'
theorem op_subD : OpD X (binaryOp .Sub) subD .fr := opD_of op_sub fun d1 d2 d e G H v1 v2 Q sb r1 r2 k => by
  match d1, d2, e, r1, r2 with
  | .int a, .int b, e, r1, r2 =>
    cases e
    exact ⟨a, b, r1, r2, sc_out sb rfl k⟩
theorem op_mulD : OpD X (binaryOp .Mult) mulD .fr := opD_of op_mulW fun d1 d2 d e G H v1 v2 Q sb r1 r2 k => by
  match d1, d2, e, r1, r2 with
  | .int a, .int b, e, r1, r2 =>
    have e' : (if a.natAbs.log2 + b.natAbs.log2 < 1000000 then some (D.int (a * b)) else none) = some d := e
    by_cases hz : a.natAbs.log2 + b.natAbs.log2 < 1000000
    · rw [if_pos hz] at e'
      cases e'
      exact ⟨a, b, r1, r2, hz, sc_out sb rfl k⟩
    · rw [if_neg hz] at e'; cases e'
theorem op_fdivD : OpD X (binaryOp .FloorDiv) fdivD .fr := opD_of op_fdivW fun d1 d2 d e G H v1 v2 Q sb r1 r2 k => by
  match d1, d2, e, r1, r2 with
  | .int a, .int b, e, r1, r2 =>
    have e' : (if 0 < b ∧ b.natAbs.log2 < 9000 then some (D.int (a / b)) else none) = some d := e
    by_cases hz : 0 < b ∧ b.natAbs.log2 < 9000
    · rw [if_pos hz] at e'
      cases e'
      exact ⟨a, b, r1, r2, hz, sc_out sb rfl k⟩
    · rw [if_neg hz] at e'; cases e'
theorem op_modD : OpD X (binaryOp .Mod) modD .fr := opD_of op_mod fun d1 d2 d e G H v1 v2 Q sb r1 r2 k => by
  match d1, d2, e, r1, r2 with
  | .int a, .int b, e, r1, r2 =>
    have e' : (if 0 < b then some (D.int (a % b)) else none) = some d := e
    by_cases hz : 0 < b
    · rw [if_pos hz] at e'
      cases e'
      exact ⟨a, b, r1, r2, hz, sc_out sb rfl k⟩
    · rw [if_neg hz] at e'; cases e'
theorem op_powW : OpR X (binaryOp .Pow) (rI (fun i j => 0 ≤ j ∧ (Builtin.Int.intBits i : Int) * j ≤ 2 ^ 27) fun i j => .int (i ^ j.toNat)) := opI fun _ _ _ _ _ _ _ hc q => pow_int hc.1 hc.2 q
theorem op_powD : OpD X (binaryOp .Pow) powD .fr := opD_of op_powW fun d1 d2 d e G H v1 v2 Q sb r1 r2 k => by
  match d1, d2, e, r1, r2 with
  | .int a, .int b, e, r1, r2 =>
    have e' : (if 0 ≤ b ∧ (Builtin.Int.intBits a : Int) * b ≤ 2 ^ 27 then some (D.int (a ^ b.toNat)) else none) = some d := e
    by_cases hz : 0 ≤ b ∧ (Builtin.Int.intBits a : Int) * b ≤ 2 ^ 27
    · rw [if_pos hz] at e'
      cases e'
      exact ⟨a, b, r1, r2, hz, sc_out sb rfl k⟩
    · rw [if_neg hz] at e'; cases e'
theorem un_negD : UnD X (unaryOp .USub) negD .fr := unD_of un_neg fun d1 d e G H v1 Q sb r1 k => by
  match d1, e, r1 with
  | .int a, e, r1 =>
    cases e
    exact ⟨a, r1, sc_out sb rfl k⟩
end

/-! ### comparisons -/
def cmpI (p : Int → Int → Bool) : D → D → Option Bool
  | .int a, .int b => some (p a b)
  | _, _ => none
def ltD : D → D → Option Bool := cmpI fun a b => decide (a < b)
def leD : D → D → Option Bool := cmpI fun a b => decide (a ≤ b)
def gtD : D → D → Option Bool := cmpI fun a b => decide (b < a)
def geD : D → D → Option Bool := cmpI fun a b => decide (b ≤ a)
/-- is None, by its right side -/
def isND : D → D → Option Bool
  | .non, .non => some true
  | _, .non => some false
  | _, _ => none
def notND : D → D → Option Bool
  | .non, .non => some false
  | _, .non => some true
  | _, _ => none
def isBD : D → D → Option Bool
  | .bl a, .bl b => some (decide (a = b))
  | _, _ => none
def notBD : D → D → Option Bool
  | .bl a, .bl b => some (!decide (a = b))
  | _, _ => none
def eqD : D → D → Option Bool
  | .int a, .int b => some (decide (a = b))
  | .str a, .str b => some (decide (a = b))
  | .bl a, .bl b => some (decide (a = b))
  | d, e => if SeqAt.shaped (toP d) = true ∧ SeqAt.shaped (toP e) = true then some (PyData.eqv (toP d) (toP e)) else none
def neD (d e : D) : Option Bool := (eqD d e).map (!·)
section
variable {X : Cx}
theorem cmpI_of {f : Value → Value → Sem Value} {p : Int → Int → Bool} (h : OpR X f (rI0 fun i j => .bl (p i j))) : CmpD X f (cmpI p) := opD_of h fun d1 d2 d e G H v1 v2 Q sb r1 r2 k => by
  match d1, d2, e, r1, r2 with
  | .int a, .int b, e, r1, r2 =>
    cases e
    exact ⟨a, b, r1, r2, sc_out (d := .bl (p a b)) sb rfl k⟩
theorem cmp_ltD : CmpD X (compareOp .Lt) ltD := cmpI_of op_lt
theorem cmp_leD : CmpD X (compareOp .LtE) leD := cmpI_of op_le
theorem cmp_gtD : CmpD X (compareOp .Gt) gtD := cmpI_of op_gt
theorem cmp_geD : CmpD X (compareOp .GtE) geD := cmpI_of op_ge
theorem VRep.isN {K : PySem.W.Frag} {G H : Hp} {d : D} {v : V} (h : VRep K G H d v) : decide (v = .non) = (match d with | .non => true | _ => false) := by
  cases d with
  | non => have e : v = .non := h; subst e; rfl
  | bl _ => have e : v = _ := h; subst e; rfl
  | int _ => have e : v = _ := h; subst e; rfl
  | str _ => have e : v = _ := h; subst e; rfl
  | lst _ => obtain ⟨a, _, e, _⟩ := h; subst e; rfl
  | tup _ => obtain ⟨a, _, e, _⟩ := h; subst e; rfl
  | dic _ => obtain ⟨a, _, e, _⟩ := h; subst e; rfl
  | scr _ => obtain ⟨a, e, _⟩ := h; subst e; rfl
  | exc _ _ => obtain ⟨a, _, e, _⟩ := h; subst e; rfl
  | obj _ _ => obtain ⟨a, _, _, _, e, _⟩ := h; subst e; rfl
theorem cmp_isN : CmpD X (compareOp .Is) isND := opD_of op_isN fun d1 d2 d e G H v1 v2 Q sb r1 r2 k => by
  obtain ⟨b, eb, ed⟩ := Option.map_eq_some_iff.mp e
  subst ed
  match d2, r2 with
  | .non, r2 =>
    refine ⟨r2, ?_⟩
    have hb : decide (v1 = .non) = b := by rw [r1.isN]; cases d1 <;> (cases eb; rfl)
    rw [hb]
    exact sc_out (d := .bl b) sb rfl k
  | .bl _, _ => cases d1 <;> cases eb
  | .int _, _ => cases d1 <;> cases eb
  | .str _, _ => cases d1 <;> cases eb
  | .lst _, _ => cases d1 <;> cases eb
  | .tup _, _ => cases d1 <;> cases eb
  | .dic _, _ => cases d1 <;> cases eb
  | .scr _, _ => cases d1 <;> cases eb
  | .exc _ _, _ => cases d1 <;> cases eb
  | .obj _ _, _ => cases d1 <;> cases eb
theorem cmp_notN : CmpD X (compareOp .IsNot) notND := opD_of op_notN fun d1 d2 d e G H v1 v2 Q sb r1 r2 k => by
  obtain ⟨b, eb, ed⟩ := Option.map_eq_some_iff.mp e
  subst ed
  match d2, r2 with
  | .non, r2 =>
    refine ⟨r2, ?_⟩
    have hb : (!decide (v1 = .non)) = b := by rw [r1.isN]; cases d1 <;> (cases eb; rfl)
    rw [hb]
    exact sc_out (d := .bl b) sb rfl k
  | .bl _, _ => cases d1 <;> cases eb
  | .int _, _ => cases d1 <;> cases eb
  | .str _, _ => cases d1 <;> cases eb
  | .lst _, _ => cases d1 <;> cases eb
  | .tup _, _ => cases d1 <;> cases eb
  | .dic _, _ => cases d1 <;> cases eb
  | .scr _, _ => cases d1 <;> cases eb
  | .exc _ _, _ => cases d1 <;> cases eb
  | .obj _ _, _ => cases d1 <;> cases eb
theorem eq_core {f : Value → Value → Sem Value} {ng : Bool → Bool} (h : OpR X f (fun x y H Q => (scal x y = true ∧ Q (.bl (ng (decide (x = y)))) H) ∨ ∃ d e, Dp X.K H x d ∧ Dp X.K H y e ∧ SeqAt.shaped d = true ∧ SeqAt.shaped e = true ∧ Q (.bl (ng (PyData.eqv d e))) H)) : CmpD X f (fun d e => (eqD d e).map ng) := opD_of h fun d1 d2 d e G H v1 v2 Q sb r1 r2 k => by
  obtain ⟨b, eb, ed⟩ := Option.map_eq_some_iff.mp e
  subst ed
  obtain ⟨b', eb', en⟩ := Option.map_eq_some_iff.mp eb
  subst en
  have gen : ∀ {d1 d2 : D}, VRep X.K G H d1 v1 → VRep X.K G H d2 v2 → (if SeqAt.shaped (toP d1) = true ∧ SeqAt.shaped (toP d2) = true then some (PyData.eqv (toP d1) (toP d2)) else none) = some b' →
      ∃ d e, Dp X.K H v1 d ∧ Dp X.K H v2 e ∧ SeqAt.shaped d = true ∧ SeqAt.shaped e = true ∧ Q (.bl (ng (PyData.eqv d e))) H := fun {d1 d2} r1 r2 h => by
    by_cases hz : SeqAt.shaped (toP d1) = true ∧ SeqAt.shaped (toP d2) = true
    · rw [if_pos hz] at h
      cases h
      exact ⟨_, _, r1.dp sb (SeqAt.canLay_of_shaped hz.1), r2.dp sb (SeqAt.canLay_of_shaped hz.2), hz.1, hz.2, sc_out (d := .bl (ng (PyData.eqv (toP d1) (toP d2)))) sb rfl k⟩
    · rw [if_neg hz] at h; cases h
  cases d1 <;> cases d2 <;> first
    | exact .inr (gen r1 r2 eb')
    | (have e1 : v1 = _ := r1
       have e2 : v2 = _ := r2
       subst e1 e2
       cases eb'
       refine .inl ⟨rfl, ?_⟩
       have := sc_out (X := X) (Q := Q) (d := .bl (ng _)) sb rfl k
       first
         | (rw [show ∀ i j : Int, decide (V.int i = V.int j) = decide (i = j) from fun i j => decide_eq_decide.mpr ⟨V.int.inj, congrArg _⟩]; exact this)
         | (rw [show ∀ i j : Str, decide (V.str i = V.str j) = decide (i = j) from fun i j => decide_eq_decide.mpr ⟨V.str.inj, congrArg _⟩]; exact this)
         | (rw [show ∀ i j : Bool, decide (V.bl i = V.bl j) = decide (i = j) from fun i j => decide_eq_decide.mpr ⟨V.bl.inj, congrArg _⟩]; exact this))
theorem cmp_eqD (hu : X.A.units + 64 < cLine) : CmpD X (compareOp .Eq) eqD := by
  have := eq_core (ng := id) (op_eq.or (op_eqD (X := X) hu))
  have e : (fun d e => (eqD d e).map id) = eqD := by
    funext d e
    cases eqD d e <;> rfl
  rw [e] at this
  exact this
theorem cmp_neD (hu : X.A.units + 64 < cLine) : CmpD X (compareOp .NotEq) neD := eq_core (ng := (!·)) (op_ne.or (op_neD (X := X) hu))
end
end BR

/-! K11: isinstance, what is built in, places, cuts, lists changed -/
namespace BR
open PySem PySem.Spec PyProof.Rows L2

/-! ### isinstance -/
def tyOf : D → String
  | .non => "NoneType"
  | .bl _ => "bool"
  | .int _ => "int"
  | .str _ => "str"
  | .lst _ => "list"
  | .tup _ => "tuple"
  | .dic _ => "dict"
  | .scr _ => "list"
  | .exc _ _ => "Exception"
  | .obj _ _ => "Exception"
def isInt : D → Bool
  | .int _ => true
  | .bl _ => true
  | _ => false
def isBool : D → Bool
  | .bl _ => true
  | _ => false
def isStr : D → Bool
  | .str _ => true
  | _ => false
def isTup : D → Bool
  | .tup _ => true
  | _ => false
def isLst : D → Bool
  | .lst _ => true
  | .scr _ => true
  | _ => false
def isSeq : D → Bool
  | .lst _ => true
  | .scr _ => true
  | .tup _ => true
  | _ => false
def isExc : D → Bool
  | .exc _ _ => true
  | .obj _ _ => true
  | _ => false
theorem VRep.ty {K : PySem.W.Frag} {G H : Hp} : ∀ {d : D} {v : V}, isExc d = false → VRep K G H d v → TyX K H v (.type (tyOf d))
  | .non, v, _, h => by have e : v = .non := h; subst e; exact .base .non
  | .bl b, v, _, h => by have e : v = .bl b := h; subst e; exact .base (.bl b)
  | .int b, v, _, h => by have e : v = .int b := h; subst e; exact .base (.int b)
  | .str b, v, _, h => by have e : v = .str b := h; subst e; exact .base (.str b)
  | .lst _, v, _, h => by obtain ⟨a, vs, e, q, _⟩ := h; subst e; exact .base (.lst q)
  | .dic _, v, _, h => by obtain ⟨a, vs, e, q, _⟩ := h; subst e; exact .base (.dK q)
  | .tup _, v, _, h => by
    obtain ⟨a, vs, e, q, _⟩ := h
    subst e
    rcases q with (q | ⟨o, q⟩) | ⟨o, its, n, q, c, _⟩
    · exact .base (.tup q)
    · exact .fTuple q
    · exact .kTuple q c
  | .scr _, v, _, h => by
    obtain ⟨a, e, q⟩ := h
    subst e
    rcases q with (q | ⟨o, q⟩) | ⟨o, its, n, q, c, _⟩
    · exact .base (.lst q)
    · exact .base (.frz q)
    · exact .kList q c
  | .exc _ _, _, z, _ => by cases z
  | .obj _ _, _, z, _ => by cases z
section
open PySem.W PySem.Calls
variable {prog : Program} {w : World} {A : Around} {E : Value → Shared → Prop} {K : PySem.W.Frag} {z T : Addr} {oz : Obj} {dz : Option Obj}
/-- x.__class__, x an error of an own class, its dict made or not -/
theorem errcls_get {h0 : Heap} {g0 : Array GenState} {d0 : Drawn} {t0 : Nat} {os0 : OsState} {Q : Option Value → Shared → Prop} (F : L2.ExcC K T) (kin : K.In h0) (J : InstAt h0 z oz T dz) (q : Q (some (.ref T)) ⟨h0, g0, d0, t0 + 1, os0⟩) :
    wpAny (model prog w) A (getAttr? (.ref z) "__class__") Q E ⟨h0, g0, d0, t0, os0⟩ := by
  have fo : findObj K T dz "__class__" = some (.bind (.builtin "getset_descriptor.__get__") (.builtin "object.__class__")) := by
    obtain ⟨c, ec, _⟩ := any_some F.hd
    simp [findObj, ec, F.ha, F.hn, F.ht]
  have a0 := J.type (M := model prog w)
  have a1 := looks_findIn (M := model prog w) kin F.hg
  have a3 := looks_find (M := model prog w) kin J fo
  have isb : Looks (model prog w) h0 (isInstance (.ref z) (.type "BaseException")) true := a0.andThen (looks_subIn kin F.hs)
  have n2 : (Value.builtin "BaseException.__getattribute__" == Value.builtin "object.__getattribute__") = false := by decide +kernel
  unfold getAttr? getAttrBy? getAttrBy
  refine wpAny_bind (wpAny_mkText (wpAny_bind (wpAny_attempt (wpAny_holding (wpAny_bind (a0.at (wpAny_bind (a1.at ?_))))))))
  show wpAny _ _ (if (onTheHeap (Value.ref T) && Value.builtin "BaseException.__getattribute__" == Value.builtin "object.__getattribute__") = true then _ else _) _ _ _
  rw [show (onTheHeap (Value.ref T) && Value.builtin "BaseException.__getattribute__" == Value.builtin "object.__getattribute__") = false by rw [n2]; rfl, if_neg Bool.false_ne_true]
  unfold getAttrByItsOwn hookBefore; refine wpAny_bind ?_; rw [if_pos (show onTheHeap (Value.ref T) = true from rfl)]
  refine (looks_findIn (M := model prog w) kin F.hk).at ?_; refine wpAny_bind (wpAny_attempt (wpAny_holding ?_)); unfold callGetattribute
  rw [show (false && onTheHeap (Value.builtin "BaseException.__getattribute__")) = false from rfl, if_neg Bool.false_ne_true]; unfold boundAndCalled
  rw [PySem.F.excAttr_ValueError.ga.bind (.ref z)]; refine wpAny_bind (wpAny_pure ?_)
  show wpAny _ _ (call (.builtin "BaseException.__getattribute__") [.ref z, .str "__class__" t0]) _ _ _
  refine wpAny_call (codeAny_call_builtin PySem.F.excAttr_ValueError.ga.plain PySem.F.entry_bexc_ga (@check_slot (model prog w) _ _ ⟨h0, g0, d0, t0 + 1, os0⟩ "BaseException.__getattribute__" "BaseException" "__getattribute__" (.ref z) [.str "__class__" t0] [] _ (by decide +kernel) (by decide +kernel) isb (PySem.F.args_bexc_ga (.ref z) (.str "__class__" t0)) ?_))
  unfold Builtin.«object.__getattribute__»
  refine wpAny_bind (wpAny_of_eq (a := ((Value.ref z : Value), [Value.str "__class__" t0])) (by first | rfl | (simp only [slotArgs]; rfl)) (wpAny_bind (wpAny_pure (wpAny_bind (a0.at (wpAny_bind (a3.at ?_)))))))
  show wpAny _ _ (holding [Value.builtin "object.__class__"] (call (.builtin "getset_descriptor.__get__") [.builtin "object.__class__", .ref z, .ref T]) >>= ret) _ _ _
  refine wpAny_bind (wpAny_holding (wpAny_call (class_get (s := ⟨h0, g0, d0, t0 + 1, os0⟩) (ox := oz) (od := dz) kin J F.hm (wpAny_pure ?_))))
  show wpAny _ _ (handedOut (.ref T)) _ _ _
  rw [handedOut_of (v := .ref T) rfl]
  first
    | exact wpAny_pure (wpAny_pure q)
    | exact wpAny_pure q
    | exact wpAny_pure (wpAny_bind (wpAny_pure (wpAny_pure q)))
theorem errcls_ob {h0 : Heap} (F : L2.ExcC K T) (kin : K.In h0) : ∃ o c, h0.get? T = some o ∧ o.data = .cls c := by
  obtain ⟨c, ec, _⟩ := any_some F.hd
  unfold clsIn at ec
  split at ec
  · rename_i c' d' cd' sl' ho
    exact ⟨_, cd', kin _ _ ho, rfl⟩
  · cases ec
theorem errcls_kit (F : L2.ExcC K T) : KitX K (.ref z) (.ref T) (fun h => InstAt h z oz T dz) where
  ty := fun _ _ _ J => J.type
  it := fun _ h kin _ A' Q' E' s' k q => by
    obtain ⟨o, c, e, ed⟩ := errcls_ob F kin
    obtain ⟨oc, od, dt, sl⟩ := o
    dsimp only at ed
    subst ed
    unfold isType loadHead
    exact wpAny_bind (wpAny_loadPart (k _ _ e) (wpAny_pure q))
  ne := fun h tp dd its n sl kin htp => by
    obtain ⟨o, c, e, ed⟩ := errcls_ob F kin
    refine Bool.eq_false_iff.mpr fun q => ?_
    have et : T = tp := Value.ref.inj (beq_iff_eq.mp q)
    rw [et, htp] at e
    cases e
    cases ed
  ca := fun kin J k => errcls_get F kin J k
end
/-- isinstance(x, c), x an error that was caught -/
def rIsX (K : PySem.W.Frag) : List V → Hp → VK → Prop := fun xs H Q => ∃ (a C : Addr) (xf : List (Str × Option Int)) (c : V) (u : Value) (b : Bool), xs = [.ref a, c] ∧ ClsV c u ∧ L2.ExcC K C ∧ ExAt H H C a xf ∧ PySem.W.kitOne K (.ref C) u = some b ∧ Q (.bl b) H
def rIsXT (K : PySem.W.Frag) : List V → Hp → VK → Prop := fun xs H Q => ∃ (a C : Addr) (xf : List (Str × Option Int)) (tp : Addr) (cs : List V) (us : List Value) (b : Bool), xs = [.ref a, .ref tp] ∧ H tp = some (.tup cs) ∧ Paired ClsV cs us ∧ L2.ExcC K C ∧ ExAt H H C a xf ∧ PySem.W.kitAny K (.ref C) us = some b ∧ Q (.bl b) H
theorem exh_at {X : Cx} {pins : List (Addr × Obj)} {σ : L2.St} {H : Hp} {s : Shared} {a C : Addr} {xf : List (Str × Option Int)} (I : Inv X pins σ H s) (e : ExAt H H C a xf) : ∃ oe od, PySem.W.InstAt s.heap a oe C od := by
  obtain ⟨oe, vs, h0, h3, h2⟩ := e
  obtain ⟨h1, _⟩ := (show ObjOk X.prog X.w H s.heap a (ExO1 oe) from I.hok a _ h0)
  obtain ⟨oc, od, oda, osl⟩ := oe
  rcases h2 with ⟨_, z1, z2, _⟩ | ⟨dd, _, ⟨z1, z2, _⟩, hd⟩
  · dsimp only at z1 z2 h3
    subst z1 z2 h3
    exact ⟨_, none, h1, rfl, rfl, trivial⟩
  · dsimp only at z1 z2 h3
    subst z1 z2 h3
    have hx : ObjOk X.prog X.w H s.heap dd (.xd (xfV xf)) := I.hok dd _ hd
    obtain ⟨mA, hns, hr⟩ := hx
    obtain ⟨o, ho, _⟩ := lookIn_ns hns
    exact ⟨_, some o, h1, rfl, rfl, ho⟩
theorem call_isX {X : Cx} : CallR X (.builtin "isinstance") (rIsX X.K) := by
  intro pins s σ H xs us Q I r h
  obtain ⟨a, C, xf, c, u, b, rfl, k, F, e, kk, q⟩ := h
  obtain ⟨u1, u2, rfl, r1, r2⟩ := vals2 r
  have e2 := k.eq r2
  subst e2
  cases (show u1 = Value.ref a from r1)
  obtain ⟨oe, od, J⟩ := exh_at I e
  exact PySem.W.kia_one (errcls_kit F) I.kIn J kk (fun z => nomatch z) fun tk => ⟨.bl b, H, I.tok tk, rfl, q⟩
theorem call_isXT {X : Cx} : CallR X (.builtin "isinstance") (rIsXT X.K) := by
  intro pins s σ H xs us Q I r h
  obtain ⟨a, C, xf, tp, cs, ws, b, rfl, hT, k, F, e, kk, q⟩ := h
  obtain ⟨u1, u2, rfl, r1, r2⟩ := vals2 r
  cases (show u2 = Value.ref tp from r2)
  cases (show u1 = Value.ref a from r1)
  obtain ⟨oe, od, J⟩ := exh_at I e
  obtain ⟨_, its, rv, o, h1, h2, n, h3⟩ := (show ObjOk X.prog X.w H s.heap tp (.tup cs) from I.hok tp _ hT)
  have e3 := ClsV.all k rv
  subst e3
  obtain ⟨oc, od, dt, sl⟩ := o
  simp only at h2 h3
  subst h2 h3
  exact PySem.W.kia_tup (errcls_kit F) I.kIn J h1 kk (fun z => nomatch z) fun tk => ⟨.bl b, H, I.tok tk, rfl, q⟩
theorem kit_int : ∀ d, kitB (tyOf d) "int" = some (isInt d) := fun d => by cases d <;> (simp only [tyOf, isInt]; decide +kernel)
theorem kit_bool : ∀ d, kitB (tyOf d) "bool" = some (isBool d) := fun d => by cases d <;> (simp only [tyOf, isBool]; decide +kernel)
theorem kit_str : ∀ d, kitB (tyOf d) "str" = some (isStr d) := fun d => by cases d <;> (simp only [tyOf, isStr]; decide +kernel)
theorem kit_tup : ∀ d, kitB (tyOf d) "tuple" = some (isTup d) := fun d => by cases d <;> (simp only [tyOf, isTup]; decide +kernel)
theorem kit_lst : ∀ d, kitB (tyOf d) "list" = some (isLst d) := fun d => by cases d <;> (simp only [tyOf, isLst]; decide +kernel)
section
variable {X : Cx} {en : Kn} {δ τ : List Slot} {R : Type} {C : Slot → List Slot → Res R → Prop} {m : Res R} {K : PySem.W.Frag}
/-- isinstance(e, T) -/
theorem je_isi {T : String} {g : D → Bool} {e : Expr} {x : Str} {p p2 pos : Pos} (hk : ∀ d, kitB (tyOf d) T = some (g d)) (hm : X.mg "isinstance" = none) (hmT : X.mg x = none)
    (h : JE X en δ τ e (fun s1 δ1 m1 => ∃ d, s1.rd δ1 = some d ∧ C (.fr (.bl (g d))) δ1 m1) m) (hvT : bootBuiltins x = some (.type T) := by decide +kernel) (hg : Gl X "isinstance" := by rfl) (hgT : Gl X x := by rfl)
    (hn : x ≠ "__name__" := by decide) (hdb : (x == ("__debug__" : Str)) = false := by decide) (hgx : ∀ c xf, g (.exc c xf) = false := by exact fun _ _ => rfl) (hgo : ∀ c fs, g (.obj c fs) = false := by exact fun _ _ => rfl) (hT : T ∈ ["int", "bool", "str", "tuple", "list", "dict"] := by decide)
    (he : starEach [e, .Name x p2] X.env = (false, eval e X.env) :: starEach [.Name x p2] X.env := by rfl) (hpl : (backTo pos (starEach [.Name x p2] X.env)).any (·.1) = false := by rfl) :
    JE X en δ τ (.Call (.Name "isinstance" p) [e, .Name x p2] [] pos) C m := .mk fun hb hx σ ts G H T' hl hσ W k => by
  refine we_of (pe_callB (call_isi.or call_isX) hg hm (by decide +kernel) (pa_cons pe_we (pa_cons (pe_bltn (v := .ty T) hgT hmT hvT rfl hn hdb) pa_nil) he) (by decide) (by decide) he hpl) ?_
  have ht : τ.length = ts.length := W.splitLen (hl.trans hσ.symm)
  refine h.run hb hx σ ts G H _ hl hσ W fun s1 δ1 v1 G1 H1 c1 hl1 W1 => ?_
  obtain ⟨d, e1, c⟩ := c1
  obtain ⟨⟨_, _, ez, r1, _⟩, Wn⟩ := Wd.ends (sls := [s1]) (vs := [v1]) W1 (hl1.trans hσ.symm) ht (ds := [d]) (by simp only [rds, e1])
  cases ez
  have fin : T' (.bl (g d)) H1 := k _ δ1 _ G1 H1 c hl1 ((Wn (by omega)).out (Grow.refl W1.sub) (show Rep _ _ _ _ from rfl))
  cases hx : isExc d with
  | false => exact .inl ⟨v1, .ty T, _, _, g d, rfl, .ty T, r1.ty hx, kit_ty (hk d), fin⟩
  | true =>
    cases d <;> first | cases hx | skip
    · obtain ⟨a, C, rfl, F, ea⟩ := r1
      exact .inr ⟨a, C, _, .ty T, _, g (.exc _ _), rfl, .ty T, F.cl, ea.sub W1.sub (Sub.refl _), by rw [hgx]; exact F.ty T hT, fin⟩
    · obtain ⟨a, C, dx, vs, rfl, F, ea, _⟩ := r1
      exact .inl ⟨_, .ty T, _, _, g (.obj _ _), rfl, .ty T, .base (.ins ea F.cl F.ha F.hn F.htk F.hm), by rw [hgo]; exact F.ty T hT, fin⟩
/-- isinstance(e, (T1, T2)) -/
theorem je_isi2 {T1 T2 : String} {g1 g2 : D → Bool} {e : Expr} {x y : Str} {p p2 p3 p4 pos : Pos} {kk} (hk1 : ∀ d, kitB (tyOf d) T1 = some (g1 d)) (hk2 : ∀ d, kitB (tyOf d) T2 = some (g2 d)) (hm : X.mg "isinstance" = none) (hmT : X.mg x = none) (hmU : X.mg y = none)
    (h : JE X en δ τ e (fun s1 δ1 m1 => ∃ d, s1.rd δ1 = some d ∧ C (.fr (.bl (g1 d || g2 d))) δ1 m1) m) (hvT : bootBuiltins x = some (.type T1) := by decide +kernel) (hvU : bootBuiltins y = some (.type T2) := by decide +kernel) (hg : Gl X "isinstance" := by rfl) (hgT : Gl X x := by rfl) (hgU : Gl X y := by rfl)
    (hn : x ≠ "__name__" := by decide) (hdb : (x == ("__debug__" : Str)) = false := by decide) (hn2 : y ≠ "__name__" := by decide) (hdb2 : (y == ("__debug__" : Str)) = false := by decide) (hgx1 : ∀ c xf, g1 (.exc c xf) = false := by exact fun _ _ => rfl) (hgx2 : ∀ c xf, g2 (.exc c xf) = false := by exact fun _ _ => rfl) (hgo1 : ∀ c fs, g1 (.obj c fs) = false := by exact fun _ _ => rfl) (hgo2 : ∀ c fs, g2 (.obj c fs) = false := by exact fun _ _ => rfl) (hT1 : T1 ∈ ["int", "bool", "str", "tuple", "list", "dict"] := by decide) (hT2 : T2 ∈ ["int", "bool", "str", "tuple", "list", "dict"] := by decide)
    (hs1 : starEach [.Name x p2, .Name y p3] X.env = (false, eval (.Name x p2) X.env) :: starEach [.Name y p3] X.env := by rfl)
    (he : starEach [e, .Tuple [.Name x p2, .Name y p3] kk p4] X.env = (false, eval e X.env) :: starEach [.Tuple [.Name x p2, .Name y p3] kk p4] X.env := by rfl) (hpl : (backTo pos (starEach [.Tuple [.Name x p2, .Name y p3] kk p4] X.env)).any (·.1) = false := by rfl) :
    JE X en δ τ (.Call (.Name "isinstance" p) [e, .Tuple [.Name x p2, .Name y p3] kk p4] [] pos) C m := .mk fun hb hx σ ts G H T' hl hσ W k => by
  refine we_of (pe_callB (call_isiT.or call_isXT) hg hm (by decide +kernel) (pa_cons pe_we (pa_cons (pe_tup (pa_cons (pe_bltn (v := .ty T1) hgT hmT hvT rfl hn hdb) (pa_cons (pe_bltn (v := .ty T2) hgU hmU hvU rfl hn2 hdb2) pa_nil) hs1)) pa_nil) he) (by decide) (by decide) he hpl) ?_
  have ht : τ.length = ts.length := W.splitLen (hl.trans hσ.symm)
  refine h.run hb hx σ ts G H _ hl hσ W fun s1 δ1 v1 G1 H1 c1 hl1 W1 => ?_
  obtain ⟨d, e1, c⟩ := c1
  obtain ⟨⟨_, _, ez, r1, _⟩, Wn⟩ := Wd.ends (sls := [s1]) (vs := [v1]) W1 (hl1.trans hσ.symm) ht (ds := [d]) (by simp only [rds, e1])
  cases ez
  refine ⟨by show 2 ≤ sizeLine; decide, fun tp hp => ?_⟩
  have sub := Sub.upd (o := .tup [.ty T1, .ty T2]) hp
  have r2 : VRep X.K G1 (upd H1 tp (.tup [.ty T1, .ty T2])) d v1 := VRep.sub (Sub.refl _) sub r1
  have fin : T' (.bl (g1 d || g2 d)) (upd H1 tp (.tup [.ty T1, .ty T2])) := k _ δ1 _ G1 _ c hl1 ((Wn (by omega)).out (Grow.laid W1.sub hp) (show Rep _ _ _ _ from rfl))
  cases hx : isExc d with
  | true =>
    cases d <;> first | cases hx | skip
    · obtain ⟨a, C, rfl, F, ea⟩ := r2
      exact .inr ⟨a, C, _, tp, _, [.type T1, .type T2], g1 (.exc _ _) || g2 (.exc _ _), rfl, upd_same, .cons (.ty T1) (.cons (.ty T2) .nil), F.cl, ea.sub (W1.sub.trans sub) (Sub.refl _), by
        rw [hgx1, hgx2]
        exact kitAny_cons (F.ty T1 hT1) (fun _ => kitAny_cons (F.ty T2 hT2) (fun _ => kitAny_nil) (fun z => by cases z)) (fun z => by cases z), fin⟩
    · obtain ⟨a, C, dx, vs, rfl, F, ea, _⟩ := r2
      exact .inl ⟨_, tp, _, _, [.type T1, .type T2], g1 (.obj _ _) || g2 (.obj _ _), rfl, upd_same, .cons (.ty T1) (.cons (.ty T2) .nil), .base (.ins ea F.cl F.ha F.hn F.htk F.hm), by
        rw [hgo1, hgo2]
        exact kitAny_cons (F.ty T1 hT1) (fun _ => kitAny_cons (F.ty T2 hT2) (fun _ => kitAny_nil) (fun z => by cases z)) (fun z => by cases z), fin⟩
  | false =>
  refine .inl ⟨v1, tp, _, _, [.type T1, .type T2], g1 d || g2 d, rfl, upd_same, .cons (.ty T1) (.cons (.ty T2) .nil), r2.ty hx, ?_, fin⟩
  cases h1 : g1 d with
  | true => exact kitAny_cons (kit_ty ((hk1 d).trans (by rw [h1]))) (fun z => by cases z) (fun _ => rfl)
  | false =>
    cases h2 : g2 d with
    | true => exact kitAny_cons (kit_ty ((hk1 d).trans (by rw [h1]))) (fun _ => kitAny_cons (kit_ty ((hk2 d).trans (by rw [h2]))) (fun z => by cases z) (fun _ => rfl)) (fun z => by cases z)
    | false => exact kitAny_cons (kit_ty ((hk1 d).trans (by rw [h1]))) (fun _ => kitAny_cons (kit_ty ((hk2 d).trans (by rw [h2]))) (fun _ => kitAny_nil) (fun z => by cases z)) (fun z => by cases z)
end

/-! ### calls of what is built in -/
def absD : List D → Option D
  | [.int a] => some (.int (if a < 0 then -a else a))
  | _ => none
def max2D : List D → Option D
  | [.int a, .int b] => some (.int (if b > a then b else a))
  | _ => none
def min2D : List D → Option D
  | [.int a, .int b] => some (.int (if b < a then b else a))
  | _ => none
def intD : List D → Option D
  | [.int a] => some (.int a)
  | [.bl b] => some (.int (if b then 1 else 0))
  | _ => none
def lenD : List D → Option D
  | [.lst ds] => some (.int ds.length)
  | [.tup ds] => some (.int ds.length)
  | [.scr ns] => some (.int ns.length)
  | [.str x] => if x.length ≤ sizeLine then some (.int x.length) else none
  | _ => none
def bls : List D → Option (List Bool)
  | [] => some []
  | .bl b :: r => (bls r).map (b :: ·)
  | _ :: _ => none
def intsD : List D → Option (List Int)
  | [] => some []
  | .int b :: r => (intsD r).map (b :: ·)
  | _ :: _ => none
def allD : List D → Option D
  | [.lst ds] => (bls ds).map fun bs => .bl (bs.all id)
  | _ => none
def anyD : List D → Option D
  | [.lst ds] => (bls ds).map fun bs => .bl (bs.any id)
  | _ => none
def sumD : List D → Option D
  | [.lst ds] => (intsD ds).map fun ns => .int ns.sum
  | _ => none
/-- list(..), a new one -/
def listD : List D → Option D
  | [.lst ds] => some (.lst ds)
  | [.tup ds] => some (.lst ds)
  | _ => none
def tupleD : List D → Option D
  | [.lst ds] => some (.tup ds)
  | _ => none
section
variable {X : Cx}
theorem VReps.one {K : PySem.W.Frag} {G H : Hp} {d : D} {vs : List V} (h : VReps K G H [d] vs) : ∃ v, vs = [v] ∧ VRep K G H d v := by
  obtain ⟨v, r, e, q, e2⟩ := h
  exact ⟨v, by rw [e, show r = [] from e2], q⟩
theorem VReps.two {K : PySem.W.Frag} {G H : Hp} {d e : D} {vs : List V} (h : VReps K G H [d, e] vs) : ∃ v u, vs = [v, u] ∧ VRep K G H d v ∧ VRep K G H e u := by
  obtain ⟨v, r, e, q, h2⟩ := h
  obtain ⟨u, e2, q2⟩ := VReps.one h2
  exact ⟨v, u, by rw [e, e2], q, q2⟩
theorem bls_v {K : PySem.W.Frag} {G : Hp} : ∀ {ds : List D} {bs : List Bool} {vs : List V}, bls ds = some bs → Reps K G ds vs → vs = bs.map V.bl
  | [], bs, vs, h, r => by cases h; exact r
  | .bl b :: ds, bs, vs, h, r => by
    unfold bls at h
    obtain ⟨bs', h1, h2⟩ := Option.map_eq_some_iff.mp h
    subst h2
    obtain ⟨v, q, e, r1, r2⟩ := r
    have e1 : v = .bl b := r1
    subst e e1
    rw [bls_v h1 r2]; rfl
  | .non :: _, _, _, h, _ => by cases h
  | .int _ :: _, _, _, h, _ => by cases h
  | .str _ :: _, _, _, h, _ => by cases h
  | .lst _ :: _, _, _, h, _ => by cases h
  | .tup _ :: _, _, _, h, _ => by cases h
  | .dic _ :: _, _, _, h, _ => by cases h
  | .scr _ :: _, _, _, h, _ => by cases h
  | .exc _ _ :: _, _, _, h, _ => by cases h
  | .obj _ _ :: _, _, _, h, _ => by cases h
theorem c_abs : CallD X (.builtin "abs") absD .fr := callD_of call_abs fun ds d e G H vs Q sb r k => by
  match ds, e, r with
  | [.int a], e, r =>
    cases e
    obtain ⟨v, ev, q⟩ := VReps.one r
    have q' : v = .int a := q
    subst ev q'
    exact ⟨a, rfl, sc_out (d := .int (if a < 0 then -a else a)) sb rfl k⟩
theorem c_max2 (hc : X.calm = true) : CallD X (.builtin "max") max2D .fr := callD_of (call_max2 hc) fun ds d e G H vs Q sb r k => by
  match ds, e, r with
  | [.int a, .int b], e, r =>
    cases e
    obtain ⟨v, u, ev, q, q2⟩ := VReps.two r
    have q' : v = .int a := q
    have q2' : u = .int b := q2
    subst ev q' q2'
    exact ⟨a, b, rfl, sc_out (d := .int (if b > a then b else a)) sb rfl k⟩
theorem c_min2 (hc : X.calm = true) : CallD X (.builtin "min") min2D .fr := callD_of (call_min2 hc) fun ds d e G H vs Q sb r k => by
  match ds, e, r with
  | [.int a, .int b], e, r =>
    cases e
    obtain ⟨v, u, ev, q, q2⟩ := VReps.two r
    have q' : v = .int a := q
    have q2' : u = .int b := q2
    subst ev q' q2'
    exact ⟨a, b, rfl, sc_out (d := .int (if b < a then b else a)) sb rfl k⟩
theorem c_int : CallD X (.type "int") intD .fr := callD_of call_int1 fun ds d e G H vs Q sb r k => by
  match ds, e, r with
  | [.int a], e, r =>
    cases e
    obtain ⟨v, ev, q⟩ := VReps.one r
    have q' : v = .int a := q
    subst ev q'
    exact .inl ⟨a, rfl, sc_out (d := .int a) sb rfl k⟩
  | [.bl a], e, r =>
    cases e
    obtain ⟨v, ev, q⟩ := VReps.one r
    have q' : v = .bl a := q
    subst ev q'
    exact .inr ⟨a, rfl, sc_out (d := .int (if a then 1 else 0)) sb rfl k⟩
theorem c_len : CallD X (.builtin "len") lenD .fr := callD_of (call_len_seq.or call_len_str) fun ds d e G H vs Q sb r k => by
  match ds, e, r with
  | [.lst ds], e, r =>
    cases e
    obtain ⟨v, ev, p, us, q, h, r2⟩ := VReps.one r
    subst ev q
    exact .inl ⟨p, us, rfl, .inl (SqL.of h), by rw [← r2.length]; exact sc_out (d := .int ds.length) sb rfl k⟩
  | [.tup ds], e, r =>
    cases e
    obtain ⟨v, ev, p, us, q, h, r2⟩ := VReps.one r
    subst ev q
    exact .inl ⟨p, us, rfl, .inr h, by rw [← r2.length]; exact sc_out (d := .int ds.length) sb rfl k⟩
  | [.scr ds], e, r =>
    cases e
    obtain ⟨v, ev, p, q, h⟩ := VReps.one r
    subst ev q
    exact .inl ⟨p, _, rfl, .inl h, by rw [List.length_map]; exact sc_out (d := .int ds.length) sb rfl k⟩
  | [.str x], e, r =>
    obtain ⟨v, ev, q⟩ := VReps.one r
    have q' : v = .str x := q
    subst ev q'
    have e' : (if x.length ≤ sizeLine then some (D.int x.length) else none) = some d := e
    by_cases hz : x.length ≤ sizeLine
    · rw [if_pos hz] at e'
      cases e'
      exact .inr ⟨x, rfl, hz, sc_out (d := .int x.length) sb rfl k⟩
    · rw [if_neg hz] at e'; cases e'
theorem c_all (hc : X.calm = true) : CallD X (.builtin "all") allD .fr := callD_of (cr_all hc) fun ds d e G H vs Q sb r k => by
  match ds, e, r with
  | [.lst ds], e, r =>
    obtain ⟨bs, h1, h2⟩ := Option.map_eq_some_iff.mp (show (bls ds).map (fun bs => D.bl (bs.all id)) = some d from e)
    subst h2
    obtain ⟨v, ev, p, us, q, h, r2⟩ := VReps.one r
    subst ev q
    exact ⟨p, bs, rfl, by rw [← bls_v h1 r2]; exact SqL.of h, sc_out (d := .bl (bs.all id)) sb rfl k⟩
theorem c_tuple : CallD X (.type "tuple") tupleD .fr := callD_of call_tuple_of fun ds d e G H vs Q sb r k => by
  match ds, e, r with
  | [.lst ds], e, r =>
    cases e
    obtain ⟨v, ev, p, us, q, h, r2⟩ := VReps.one r
    subst ev q
    exact ⟨p, us, rfl, .inl ⟨SqL.of h, fzT_out sb r2 k⟩⟩
end

/-! ### places -/
def ixD : D → D → Option D
  | .lst ds, .int i => atI ds i
  | .tup ds, .int i => atI ds i
  | .scr ns, .int i => (atI ns i).map D.int
  | _, _ => none
theorem Reps.at {K : PySem.W.Frag} {G : Hp} {ds : List D} {vs : List V} {i : Int} {d : D} (r : Reps K G ds vs) (h : atI ds i = some d) : ∃ v, atI vs i = some v ∧ Rep K G d v := by
  unfold atI at h ⊢
  obtain ⟨j, h1, h2⟩ := Option.bind_eq_some_iff.mp h
  obtain ⟨v, h3, h4⟩ := r.get h2
  exact ⟨v, by rw [← r.length, h1]; exact h3, h4⟩
theorem atI_map {α β : Type} (f : α → β) (xs : List α) (i : Int) : atI (xs.map f) i = (atI xs i).map f := by
  unfold atI
  rw [List.length_map]
  cases ixN xs.length i with
  | none => rfl
  | some j => show (xs.map f)[j]? = _; rw [List.getElem?_map]; rfl
section
variable {X : Cx} {en : Kn} {δ τ : List Slot} {R : Type} {C : Slot → List Slot → Res R → Prop} {m : Res R} {K : PySem.W.Frag}
theorem ix_D : IxD X ixD .fr := ixD_of (ix_list.or ix_tup) fun d1 d2 d e G H v1 v2 Q sb r1 r2 k => by
  match d1, d2, e, r1, r2 with
  | .lst ds, .int i, e, r1, r2 =>
    obtain ⟨p, vs, e1, q1, s1⟩ := r1
    obtain ⟨v, h1, h2⟩ := s1.at e
    exact .inl ⟨p, vs, i, v, e1, r2, SqL.of q1, h1, k v G H (Grow.refl sb) h2⟩
  | .tup ds, .int i, e, r1, r2 =>
    obtain ⟨p, vs, e1, q1, s1⟩ := r1
    obtain ⟨v, h1, h2⟩ := s1.at e
    exact .inr ⟨p, vs, i, v, e1, r2, q1, h1, k v G H (Grow.refl sb) h2⟩
  | .scr ns, .int i, e, r1, r2 =>
    obtain ⟨p, e1, q1⟩ := r1
    obtain ⟨n, h1, h2⟩ := Option.map_eq_some_iff.mp (show (atI ns i).map D.int = some d from e)
    subst h2
    exact .inl ⟨p, _, i, .int n, e1, r2, q1, by rw [atI_map, h1]; rfl, sc_out (d := .int n) sb rfl k⟩

/-! ### cuts of lists -/
def cutD (xs : List D) (lo hi : Option Int) : List D := (xs.drop (HT.sIx xs.length 0 lo)).take (HT.sIx xs.length xs.length hi - HT.sIx xs.length 0 lo)
/-- an optional part of a cut -/
abbrev WO (X : Cx) (e : Option Expr) : TO := fun σ H Q => ∀ (pins : List (Addr × Obj)) (s : Shared), Inv X pins σ H s → wpAny (model X.prog X.w) X.A (evalPart e X.env) (fun u s' => ∃ o H', Inv X pins σ H' s' ∧ IsPart u o ∧ Q o H') X.xe s
theorem po_wo {e : Option Expr} : PO X e (WO X e) := ⟨fun pins s _ _ _ I h => h pins s I⟩
theorem wo_of {e : Option Expr} {t : TO} (h : PO X e t) {σ : L2.St} {H : Hp} {Q : Option Int → Hp → Prop} (q : t σ H Q) : WO X e σ H Q := fun pins s I => h.run pins s σ H Q I q
structure JO (X : Cx) (en : Kn) (δ τ : List Slot) (e : Option Expr) {R : Type} (C : Option Int → List Slot → Res R → Prop) (m : Res R) : Prop where
  run : m ≠ .bad → en.HX m.exc → ∀ (σ ts : L2.St) (G H : Hp) (T : Option Int → Hp → Prop), δ.length = en.n → σ.length = en.n → Wd X.K en (δ ++ τ) (σ ++ ts) G H →
    (∀ o δ' G' H', C o δ' m → δ'.length = en.n → Wd X.K en (δ' ++ τ) (σ ++ ts) G' H' → T o H') → WO X e σ H T
def asI : D → Option Int
  | .int i => some i
  | _ => none
theorem jo_none {C : Option Int → List Slot → Res R → Prop} (h : C none δ m) : JO X en δ τ none C m := .mk fun hb hx σ ts G H T hl hσ W k => wo_of po_none (k none δ G H h hl W)
theorem jo_some {e : Expr} {C : Option Int → List Slot → Res R → Prop} (h : JE X en δ τ e (fun s δ1 m1 => ∃ d k, s.rd δ1 = some d ∧ m1 = op (asI d) k ∧ ∀ i, C (some i) δ1 (k i)) m) : JO X en δ τ (some e) C m := .mk fun hb hx σ ts G H T hl hσ W k => by
  refine wo_of (po_some pe_we) ?_
  have ht : τ.length = ts.length := W.splitLen (hl.trans hσ.symm)
  refine h.run hb hx σ ts G H _ hl hσ W fun s1 δ1 v1 G1 H1 c1 hl1 W1 => ?_
  obtain ⟨d, k', e1, em, hk⟩ := c1
  have hb' := hb
  rw [em] at hb'
  obtain ⟨i, ei⟩ := op_some hb'
  have em' : m = k' i := by rw [em, ei]; rfl
  obtain ⟨⟨_, _, ez, r1, _⟩, Wn⟩ := Wd.ends (sls := [s1]) (vs := [v1]) W1 (hl1.trans hσ.symm) ht (ds := [d]) (by simp only [rds, e1])
  cases ez
  have hk2 := hk i
  rw [← em'] at hk2
  cases d <;> first | cases ei | skip
  exact ⟨_, r1, k _ δ1 G1 H1 hk2 hl1 (Wn (by omega))⟩
/-- a constant part -/
theorem jo_int {i : Int} {j pos} {C : Option Int → List Slot → Res R → Prop} (h : C (some i) δ m) : JO X en δ τ (some (.Constant (.int i) j pos)) C m := .mk fun hb hx σ ts G H T hl hσ W k => wo_of (po_some pe_int) ⟨i, rfl, k _ δ G H h hl W⟩
theorem cutV_reps {G : Hp} {ds : List D} {vs : List V} (r : Reps K G ds vs) (lo hi : Option Int) : Reps K G (cutD ds lo hi) (cutV vs lo hi) := by
  unfold cutD cutV
  rw [← r.length]
  exact Reps.take _ (Reps.drop _ r)
def asLst : D → Option (List D)
  | .lst ds => some ds
  | _ => none
end

/-! ### lists changed -/
/-- a method that changes its list: the data of the list, the arguments; what is told and the list behind it -/
def MutD (X : Cx) (id : String) (g : D → List D → Option (D × D)) : Prop :=
  ∀ dl args ret dl', g dl args = some (ret, dl') → ∀ (pins : List (Addr × Obj)) (s : Shared) (σ : L2.St) (G H : Hp) (p : Addr) (vs : List V) (us : List Value) (Q : VK), Inv X pins σ H s → Sub G H → G p = none → MRep X.K G H dl p → Reps X.K G args vs → Vals vs us →
    (∀ v o', Rep X.K G ret v → MRep X.K G (upd H p o') dl' p → Q v (upd H p o')) → wpAny (model X.prog X.w) X.A (call (.builtin id) (.ref p :: us)) (EP X pins σ Q) X.xe s
theorem mutD_of {X : Cx} {id : String} {r : V → List V → Hp → VK → Prop} {g : D → List D → Option (D × D)} (h : MtM X id r)
    (k : ∀ dl args ret dl', g dl args = some (ret, dl') → ∀ (G H : Hp) (p : Addr) (vs : List V) (Q : VK), Sub G H → MRep X.K G H dl p → Reps X.K G args vs → (∀ v o', Rep X.K G ret v → MRep X.K G (upd H p o') dl' p → Q v (upd H p o')) → r (.ref p) vs H Q) : MutD X id g :=
  fun dl args ret dl' e pins s σ G H p vs us Q I sb _ r1 r2 q hq => h pins s σ H (.ref p) vs (.ref p) us Q I rfl q (k dl args ret dl' e G H p vs Q sb r1 r2 hq)
def appendD : D → List D → Option (D × D)
  | .lst ds, [d] => if ds.length < sizeLine then some (.non, .lst (ds ++ [d])) else none
  | _, _ => none
def popD : D → List D → Option (D × D)
  | .lst ds, [] => (ds[ds.length - 1]?).map fun d => (d, .lst ds.dropLast)
  | _, _ => none
def clearD : D → List D → Option (D × D)
  | .lst _, [] => some (.non, .lst [])
  | _, _ => none
def reverseD : D → List D → Option (D × D)
  | .lst ds, [] => some (.non, .lst ds.reverse)
  | _, _ => none
def extendD : D → List D → Option (D × D)
  | .lst ds, [.lst es] => if ds.length + es.length ≤ sizeLine then some (.non, .lst (ds ++ es)) else none
  | _, _ => none
section
variable {X : Cx} {en : Kn} {δ τ : List Slot} {R : Type} {C : Slot → List Slot → Res R → Prop} {m : Res R} {K : PySem.W.Frag}
theorem m_append : MutD X "list.append" appendD := mutD_of mt_append fun dl args ret dl' e G H p vs Q sb r1 r2 k => by
  match dl, args, e, r1, r2 with
  | .lst ds, [d], e, r1, r2 =>
    have e' : (if ds.length < sizeLine then some (D.non, D.lst (ds ++ [d])) else none) = some (ret, dl') := e
    by_cases hz : ds.length < sizeLine
    · rw [if_pos hz] at e'
      cases e'
      obtain ⟨us, h1, h2⟩ := r1
      obtain ⟨v, r, ev, q, e2⟩ := r2
      have e2' : r = [] := e2
      subst ev e2'
      exact ⟨p, us, v, rfl, rfl, h1, by rw [← h2.length]; exact hz, k .non _ rfl ⟨_, upd_same, h2.append (Reps.one q)⟩⟩
    · rw [if_neg hz] at e'; cases e'
/-- the list of a name -/
theorem own_of {δ : List Slot} {i : Nat} {sl : Slot} {σ ts : L2.St} {G H : Hp} (W : Wd K en (δ ++ τ) (σ ++ ts) G H) (hl : δ.length = en.n) (hσ : σ.length = en.n) {d : D} (h : δ[i]? = some sl) (ho : sl.own = true) (hd : sl.rd δ = some d) :
    ∃ p, σ[i]? = some (some (.ref p)) ∧ Own (δ ++ τ) (σ ++ ts) i p ∧ G p = none ∧ MRep K G H d p := by
  obtain ⟨o, h1, q⟩ := W.name (hl.trans hσ.symm) h
  have hi := (List.getElem?_eq_some_iff.mp h).1
  have up : ∀ p, o = some (V.ref p) → Own (δ ++ τ) (σ ++ ts) i p := fun p e => ⟨sl, by rw [List.getElem?_append_left hi]; exact h, ho, by rw [List.getElem?_append_left (by omega), h1, e]⟩
  cases sl with
  | mu d' => cases hd; obtain ⟨p, e, n, _, _, r⟩ := q; exact ⟨p, by rw [h1, e], up p e, n, r⟩
  | mp j d' => cases hd; obtain ⟨p, e, _, n, _, r⟩ := q; exact ⟨p, by rw [h1, e], up p e, n, r⟩
  | un => cases ho
  | fr _ => cases ho
  | bw _ => cases ho
  | bo _ => cases ho
/-- name.method(args), the name's own list changed -/
theorem mut_core {id : String} {g : D → List D → Option (D × D)} {x : Str} {p : Pos} {es : List Expr} {whole : Expr} (i : Nat) {sl0 : Slot} {ds0 : List D} (hm : MutD X id g)
    (rule : ∀ {r : V → List V → Hp → VK → Prop} {to : TE} {t : TA}, MtR X id r → PE X (.Name x p) to → PA X es t → PE X whole (tBM X.K "list" r to t))
    (hs : δ[i]? = some sl0) (ho : sl0.own = true) (hd : sl0.rd δ = some (.lst ds0))
    (h : JA X en δ τ es (fun sls δ1 m1 => ∃ ds sl dl k, ∃ pe : D × D → List Slot, frs sls = some ds ∧ δ1[i]? = some sl ∧ sl.own = true ∧ sl.rd δ1 = some dl ∧ m1 = op (g dl ds) k ∧ (∀ r, δ1.set i (sl.put r.2) = pe r) ∧ ∀ r, g dl ds = some r → C (.fr r.1) (pe r) (k r)) m)
    (hN : X.N[i]? = some x) (hv : Vis X.env.scope x) (hdd : (x == ("__debug__" : Str)) = false) (hcd : (x == ("__classdict__" : Str)) = false) : JE X en δ τ whole C m := .mk fun hb hx σ ts G H T hl hσ W k => by
  refine we_of (rule (r := fun x vs H Q => ∃ p, x = .ref p ∧ ∀ (pins : List (Addr × Obj)) (s : Shared) (σ : L2.St) (us : List Value), Inv X pins σ H s → Vals vs us → wpAny (model X.prog X.w) X.A (call (.builtin id) (.ref p :: us)) (EP X pins σ Q) X.xe s)
    (fun pins s σ H x xs v us Q I r1 r2 h => by
      obtain ⟨p, e, h⟩ := h
      subst e
      cases r1
      exact h pins s σ us I r2) (pe_var hN hv hdd hcd) pa_wa) ?_
  have ht : τ.length = ts.length := W.splitLen (hl.trans hσ.symm)
  obtain ⟨p0, h1, _, _, us0, h2, h3⟩ := own_of W hl hσ hs ho hd
  refine ⟨.ref p0, h1, .inl ⟨rfl, us0, SqL.of h2⟩, ?_⟩
  refine h.run hb hx σ ts G H _ hl hσ W fun sls δ1 vs G1 H1 c1 hl1 W1 => ?_
  obtain ⟨ds, sl, dl, k', pe, e1, e2, e3, e4, em, hpe, hk⟩ := c1
  have hb' := hb
  rw [em] at hb'
  obtain ⟨r, er⟩ := op_some hb'
  have em' : m = k' r := by rw [em, er]; rfl
  have hk2 := hk r er
  rw [← em'] at hk2
  obtain ⟨hn, hq⟩ := W1.endSlots (hl1.trans hσ.symm) ht
  have hr : Reps X.K G1 ds vs := Wd.frs (Δ := δ) (H := H1) hq hn e1
  have W2 := W1.cut (Δ := δ1 ++ τ) (S := σ ++ ts) (by rw [List.length_append, List.length_append]; omega) (by rw [List.length_append]; omega)
  obtain ⟨p1, h5, ow, n1, r1⟩ := own_of W2 hl1 hσ e2 e3 e4
  rw [h1] at h5
  cases h5
  have hi := (List.getElem?_eq_some_iff.mp e2).1
  refine ⟨p0, rfl, fun pins s σ' us I rv => hm dl ds r.1 r.2 er pins s σ' G1 H1 p0 vs us T I W2.sub n1 r1 hr rv fun v o' rr rm => ?_⟩
  have W3 := W2.mut ow rm
  rw [List.getD_eq_getElem?_getD, List.getElem?_append_left hi, e2, List.set_append_left _ _ hi] at W3
  have W4 : Wd X.K en (pe r ++ τ) (σ ++ ts) G1 (upd H1 p0 o') := by rw [← hpe r]; exact W3
  refine k _ (pe r) v G1 _ hk2 (by rw [← hpe r, List.length_set]; exact hl1) (W4.out (Grow.refl W4.sub) rr)
theorem je_mut {id : String} {g : D → List D → Option (D × D)} {name : Str} {x : Str} {p apos cpos : Pos} {e : Expr} {es : List Expr} (i : Nat) {sl0 : Slot} {ds0 : List D} (slot : PySem.Slot "list" name id) (hty : typeOf (.builtin id) = pure (.type "method_descriptor")) (hm : MutD X id g)
    (hs : δ[i]? = some sl0) (ho : sl0.own = true) (hd : sl0.rd δ = some (.lst ds0))
    (h : JA X en δ τ (e :: es) (fun sls δ1 m1 => ∃ ds sl dl k, ∃ pe : D × D → List Slot, frs sls = some ds ∧ δ1[i]? = some sl ∧ sl.own = true ∧ sl.rd δ1 = some dl ∧ m1 = op (g dl ds) k ∧ (∀ r, δ1.set i (sl.put r.2) = pe r) ∧ ∀ r, g dl ds = some r → C (.fr r.1) (pe r) (k r)) m)
    (hN : X.N[i]? = some x := by rfl) (hv : Vis X.env.scope x := by first | exact Or.inl rfl | exact Or.inr (Or.inl rfl) | exact Or.inr (Or.inr rfl)) (hdd : (x == ("__debug__" : Str)) = false := by decide) (hcd : (x == ("__classdict__" : Str)) = false := by decide)
    (hfew : ((backTo cpos (starEach (e :: es) X.env)).all (fun x => !x.1) && (backToKw cpos (keywordEach [] X.env)).all (fun x => x.1.isSome)
      && decide ((e :: es).length + ([] : List Keyword).length + (if ([] : List Keyword).isEmpty then 0 else 1) < 30)) = true := by rfl)
    (hline : (apos.endLine == cpos.line) = true := by rfl) (hst : starEach (e :: es) X.env = (false, eval e X.env) :: starEach es X.env := by exact star_plain rfl) (hplain : (backTo cpos (starEach es X.env)).any (·.1) = false := by rfl) :
    JE X en δ τ (.Call (.Attribute (.Name x p) name apos) (e :: es) [] cpos) C m :=
  mut_core i hm (fun h1 h2 h3 => pe_bm PySem.F.plainAttrs_list slot hty h1 h2 h3 rfl hfew hline hst hplain) hs ho hd h hN hv hdd hcd
end
end BR

/-! K12: more of lists changed, x op= e, repr -/
namespace BR
open PySem PySem.Spec PyProof.Rows L2
section
variable {X : Cx} {en : Kn} {δ τ : List Slot} {R : Type} {C : Slot → List Slot → Res R → Prop} {m : Res R} {K : PySem.W.Frag}
variable {N : List Slot → Res R → Prop} {RT : Slot → List Slot → Res R → Prop} {BK CT : List Slot → Res R → Prop}
/-! ### name[i] = e -/
def setD : D → D → D → Option D
  | .lst ds, .int i, d => (ixN ds.length i).map fun j => .lst (ds.set j d)
  | _, _, _ => none
theorem js_setIx {x : Str} {p p2 pos : Pos} {idx e : Expr} (i : Nat)
    (h : JE X en δ [] e (fun s1 δ1 m1 => ∃ d sl0, s1 = .fr d ∧ δ1[i]? = some sl0 ∧ sl0.own = true ∧ JE X en δ1 [s1] idx (fun s2 δ2 m2 => ∃ di sl dl k, ∃ pe : D → List Slot, s2.rd δ2 = some di ∧ δ2[i]? = some sl ∧ sl.own = true ∧ sl.rd δ2 = some dl ∧ m2 = op (setD dl di d) k ∧ (∀ r, δ2.set i (sl.put r) = pe r) ∧ ∀ r, setD dl di d = some r → N (pe r) (k r)) m1) m)
    (hN : X.N[i]? = some x := by rfl) (hv : Vis X.env.scope x := by first | exact Or.inl rfl | exact Or.inr (Or.inl rfl) | exact Or.inr (Or.inr rfl)) (hdd : (x == ("__debug__" : Str)) = false := by decide) (hcd : (x == ("__classdict__" : Str)) = false := by decide)
    (hs : swapsWithSole [.Subscript (.Name x p) idx p2] e pos.line X.env = pure false := by rfl) (hw : swappedStores [.Subscript (.Name x p) idx p2] e X.env = pure none := by rfl)
    (h1 : (assignEach [.Subscript (.Name x p) idx p2] X.env).map (·.2) = [assign (.Subscript (.Name x p) idx p2) X.env] := by rfl)
    (ha : ∀ v, assign (.Subscript (.Name x p) idx p2) X.env v = (do
      let ov ← holding [v] (eval (.Name x p) X.env)
      let iv ← holding [v, ov] (eval idx X.env)
      standAt p2
      holding [v, ov, iv] (setItem ov iv v)
      release [v, ov, iv] []) := by intro _; rfl) :
    JS X en δ (.Assign [.Subscript (.Name x p) idx p2] e pos) N RT BK CT m := .mk fun hb hx σ G H E hl W k1 k2 k3 k4 => by
  refine ws_of (ps_asg pe_we (pg_sub (pe_var hN hv hdd hcd) pe_we set_list ha) hs hw h1) ?_
  have hσ := W.sl hl
  refine h.at hb hx hl W fun s1 δ1 v1 G1 H1 ⟨d, sl0, es, f1, f2, c1⟩ hl1 W1 => ?_
  subst es
  have own1 : ∃ p0, σ[i]? = some (some (V.ref p0)) := by
    obtain ⟨o, g1, g2⟩ := W1.name (τ := [.fr d]) (hl1.trans hσ.symm) f1
    cases sl0 with
    | mu _ => obtain ⟨p, e, _⟩ := g2; exact ⟨p, by rw [g1, e]⟩
    | mp _ _ => obtain ⟨p, e, _⟩ := g2; exact ⟨p, by rw [g1, e]⟩
    | un => cases f2
    | fr _ => cases f2
    | bw _ => cases f2
    | bo _ => cases f2
  obtain ⟨p0, h0⟩ := own1
  refine ⟨.ref p0, h0, ?_⟩
  refine c1.run hb hx σ [some v1] G1 H1 _ hl1 hσ W1 fun s2 δ2 v2 G2 H2 c2 hl2 W2 => ?_
  obtain ⟨di, sl, dl, k', pe, e1, e2, e3, e4, em, hpe, hk⟩ := c2
  have hb' := hb
  rw [em] at hb'
  obtain ⟨r, er⟩ := op_some hb'
  have em' : m = k' r := by rw [em, er]; rfl
  have hk2 := hk r er
  rw [← em'] at hk2
  have W3 : Wd X.K en (δ2 ++ [] ++ [.fr d, s2]) (σ ++ [] ++ [v1, v2].map some) G2 H2 := by
    have := W2
    simp only [List.append_assoc, List.map_cons, List.map_nil, List.cons_append, List.nil_append] at this ⊢
    exact this
  obtain ⟨⟨_, _, ez, _, _, _, ez2, r2, ez3⟩, Wn⟩ := W3.ends (τ := []) (ts := []) (hl2.trans hσ.symm) rfl (ds := [d, di]) (by simp only [rds, e1]; rfl)
  cases ez
  cases ez2
  obtain ⟨v', ev', rd⟩ := (W2.cut (Δ := δ2 ++ [.fr d]) (S := σ ++ [some v1]) (by rw [List.length_append, List.length_append]; simp; omega) (by rw [List.length_append]; omega)).last
  cases ev'
  have W4 := Wn (by omega)
  obtain ⟨p1, h5, ow, n1, r1⟩ := own_of W4 hl2 hσ e2 e3 e4
  rw [h0] at h5
  cases h5
  have hi := (List.getElem?_eq_some_iff.mp e2).1
  match dl, di, er, r1, r2 with
  | .lst ds, .int j, er, r1, r2 =>
    obtain ⟨l, h6, h7⟩ := Option.map_eq_some_iff.mp (show (ixN ds.length j).map (fun l => D.lst (ds.set l d)) = some r from er)
    subst h7
    obtain ⟨us, h8, h9⟩ := r1
    have r2' : v2 = .int j := r2
    subst r2'
    refine ⟨p0, us, j, l, rfl, rfl, h8, by rw [← h9.length]; exact h6, ?_⟩
    have W5 := W4.mut (o' := .lst (us.set l v1)) (d' := .lst (ds.set l d)) ow ⟨_, upd_same, Reps.set rd l h9⟩
    rw [List.getD_eq_getElem?_getD, List.getElem?_append_left hi, e2, List.set_append_left _ _ hi, List.append_nil, List.append_nil] at W5
    have W6 : Wd X.K en (pe (.lst (ds.set l d))) σ G2 (upd H2 p0 (.lst (us.set l v1))) := by rw [← hpe]; exact W5
    exact k1 _ σ G2 _ hk2 (by rw [← hpe, List.length_set]; exact hl2) W6

/-! ### name op= e -/
def iaddD : D → D → Option D
  | .int a, .int b => some (.int (a + b))
  | .str a, .str b => if a.length + b.length ≤ sizeLine then some (.str (a ++ b)) else none
  | _, _ => none
/-! ### repr -/
/-- what repr tells: of what holds no dict -/
def reprD : List D → Option D
  | [d] => if (toP d).canLay0 = true ∧ (toP d).showable = true ∧ (toP d).depth ≤ 60 ∧ (toP d).shown.length ≤ sizeLine then some (.str (toP d).shown) else none
  | _ => none
end
end BR

/-! K13: pairs as targets, cuts of lists and tuples, dicts written, small words for printed proofs -/
namespace BR
open PySem PySem.Spec PyProof.Rows L2

theorem len1 {α : Type} : ∀ {l : List α}, l.length = 1 → ∃ a, l = [a]
  | [a], _ => ⟨a, rfl⟩
theorem len2 {α : Type} : ∀ {l : List α}, l.length = 2 → ∃ a b, l = [a, b]
  | [a, b], _ => ⟨a, b, rfl⟩
theorem len3 {α : Type} : ∀ {l : List α}, l.length = 3 → ∃ a b c, l = [a, b, c]
  | [a, b, c], _ => ⟨a, b, c, rfl⟩
theorem unp_ne {n : Nat} {ds : List D} (h : ds.length ≠ n) : unp n (.tup ds) = none := by
  unfold unp
  exact if_neg h
def un2 : D → Option (D × D)
  | .tup [a, b] => some (a, b)
  | _ => none
def un3 : D → Option (D × D × D)
  | .tup [a, b, c] => some (a, b, c)
  | _ => none
def k2 {R : Type} (k : D × D → Res R) : List D → Res R
  | [a, b] => k (a, b)
  | _ => .bad
def k3 {R : Type} (k : D × D × D → Res R) : List D → Res R
  | [a, b, c] => k (a, b, c)
  | _ => .bad
theorem un2_unp {R : Type} {d : D} {k : D × D → Res R} : op (un2 d) k = op (unp 2 d) (k2 k) := by
  cases d with
  | tup ds =>
    match ds with
    | [] => rfl
    | [_] => rfl
    | [_, _] => rfl
    | a :: b :: c :: r =>
      have e : unp 2 (.tup (a :: b :: c :: r)) = none := by
        exact unp_ne (by simp)
      rw [e]; rfl
  | _ => rfl
theorem un3_unp {R : Type} {d : D} {k : D × D × D → Res R} : op (un3 d) k = op (unp 3 d) (k3 k) := by
  cases d with
  | tup ds =>
    match ds with
    | [] => rfl
    | [_] => rfl
    | [_, _] => rfl
    | [_, _, _] => rfl
    | a :: b :: c :: x :: r =>
      have e : unp 3 (.tup (a :: b :: c :: x :: r)) = none := by
        exact unp_ne (by simp)
      rw [e]; rfl
  | _ => rfl
section
variable {X : Cx} {en : Kn} {δ τ : List Slot} {R : Type} {m : Res R} {K : PySem.W.Frag} {N : List Slot → Res R → Prop}
theorem jg_tup2 {e1 e2 : Expr} {k : Nat} {pos : Pos} {d : D} {is : List Nat} (hc : X.calm = true) (h : ∃ k', m = op (un2 d) k' ∧ ∀ p : D × D, JGs X en δ τ [e1, e2] [p.1, p.2] is N (k' p))
    (hn : (assignEach [e1, e2] X.env).length = 2 := by rfl) (hst : (assignEach [e1, e2] X.env).findIdx? (·.1) = none := by rfl) : JG X en δ τ (.Tuple [e1, e2] k pos) d is N m := by
  obtain ⟨k', em, hk⟩ := h
  refine jg_tup hc ⟨_, em.trans un2_unp, fun ds hl => ?_⟩ hn hst
  obtain ⟨a, b, rfl⟩ := len2 hl
  exact hk (a, b)
theorem jg_tup3 {e1 e2 e3 : Expr} {k : Nat} {pos : Pos} {d : D} {is : List Nat} (hc : X.calm = true) (h : ∃ k', m = op (un3 d) k' ∧ ∀ p : D × D × D, JGs X en δ τ [e1, e2, e3] [p.1, p.2.1, p.2.2] is N (k' p))
    (hn : (assignEach [e1, e2, e3] X.env).length = 3 := by rfl) (hst : (assignEach [e1, e2, e3] X.env).findIdx? (·.1) = none := by rfl) : JG X en δ τ (.Tuple [e1, e2, e3] k pos) d is N m := by
  obtain ⟨k', em, hk⟩ := h
  refine jg_tup hc ⟨_, em.trans un3_unp, fun ds hl => ?_⟩ hn hst
  obtain ⟨a, b, c, rfl⟩ := len3 hl
  exact hk (a, b, c)

/-! ### cuts -/
end
end BR

/-! K14: what printed proofs use: rules over lists of data, steps of Le -/
namespace BR
open PySem PySem.Spec PyProof.Rows L2

theorem le_n : Le [] [] := trivial
theorem le_s {a : Slot} {r q : List Slot} (h : Le r q) : Le (a :: r) (a :: q) := ⟨.inr rfl, h⟩
theorem le_u {a : Slot} {r q : List Slot} (h : Le r q) : Le (a :: r) (.un :: q) := ⟨.inl rfl, h⟩
theorem oa_n {δ : List Slot} {j : Nat} : OutsAt δ j [] := trivial
theorem oa_c {δ : List Slot} {j : Nat} {d : D} {ds : List D} (i : Nat) (h : δ[i]? = some (.mp j d)) (r : OutsAt δ (j + 1) ds) : OutsAt δ j (d :: ds) := ⟨⟨i, h⟩, r⟩

section
variable {X : Cx} {en : Kn} {δ τ : List Slot} {R : Type} {C : Slot → List Slot → Res R → Prop} {m : Res R} {K : PySem.W.Frag}
theorem JE.conv {C' : Slot → List Slot → Res R → Prop} {e : Expr} (h : JE X en δ τ e C m) (k : ∀ s δ', C s δ' m → C' s δ' m) : JE X en δ τ e C' m := .mk fun hb hx σ ts G H T hl hσ W q =>
  h.run hb hx σ ts G H T hl hσ W fun sl δ' v G' H' c hl' W' => q sl δ' v G' H' (k _ _ c) hl' W'
theorem JA.conv {C C' : List Slot → List Slot → Res R → Prop} {es : List Expr} (h : JA X en δ τ es C m) (k : ∀ s δ', C s δ' m → C' s δ' m) : JA X en δ τ es C' m := .mk fun hb hx σ ts G H T hl hσ W q =>
  h.run hb hx σ ts G H T hl hσ W fun sl δ' v G' H' c hl' W' => q sl δ' v G' H' (k _ _ c) hl' W'
def kL {R : Type} (k : List D → Res R) : D → Res R
  | .lst ds => k ds
  | _ => .bad
theorem op_kL {o : Option (List D)} {k : List D → Res R} : op o k = op (o.map D.lst) (kL k) := by cases o <;> rfl
def kP {R : Type} (k : D × List D → Res R) : D × D → Res R
  | (d, .lst ds) => k (d, ds)
  | _ => .bad
theorem op_kP {o : Option (D × List D)} {k : D × List D → Res R} : op o k = op (o.map fun r => (r.1, D.lst r.2)) (kP k) := by cases o <;> rfl

/-! ### items of a list set -/
def setL (ds : List D) (di d : D) : Option (List D) := match di with
  | .int i => (ixN ds.length i).map fun j => ds.set j d
  | _ => none
theorem setD_L {ds : List D} {di d : D} : setD (.lst ds) di d = (setL ds di d).map D.lst := by
  cases di <;> first | rfl | skip
  show ((ixN _ _).map _) = ((ixN _ _).map _).map _
  rw [Option.map_map]; rfl
section
variable {N : List Slot → Res R → Prop} {RT : Slot → List Slot → Res R → Prop} {BK CT : List Slot → Res R → Prop}
theorem js_setL {x : Str} {p p2 pos : Pos} {idx e : Expr} (i : Nat)
    (h : JE X en δ [] e (fun s1 δ1 m1 => ∃ d sl0, s1 = .fr d ∧ δ1[i]? = some sl0 ∧ sl0.own = true ∧ JE X en δ1 [s1] idx (fun s2 δ2 m2 => ∃ di sl ds k, ∃ pe : List D → List Slot, s2.rd δ2 = some di ∧ δ2[i]? = some sl ∧ sl.own = true ∧ sl.rd δ2 = some (.lst ds) ∧ m2 = op (setL ds di d) k ∧ (∀ r, δ2.set i (sl.put (.lst r)) = pe r) ∧ ∀ r, N (pe r) (k r)) m1) m)
    (hN : X.N[i]? = some x := by rfl) (hv : Vis X.env.scope x := by first | exact Or.inl rfl | exact Or.inr (Or.inl rfl) | exact Or.inr (Or.inr rfl)) (hdd : (x == ("__debug__" : Str)) = false := by decide) (hcd : (x == ("__classdict__" : Str)) = false := by decide)
    (hs : swapsWithSole [.Subscript (.Name x p) idx p2] e pos.line X.env = pure false := by rfl) (hw : swappedStores [.Subscript (.Name x p) idx p2] e X.env = pure none := by rfl)
    (h1 : (assignEach [.Subscript (.Name x p) idx p2] X.env).map (·.2) = [assign (.Subscript (.Name x p) idx p2) X.env] := by rfl)
    (ha : ∀ v, assign (.Subscript (.Name x p) idx p2) X.env v = (do
      let ov ← holding [v] (eval (.Name x p) X.env)
      let iv ← holding [v, ov] (eval idx X.env)
      standAt p2
      holding [v, ov, iv] (setItem ov iv v)
      release [v, ov, iv] []) := by intro _; rfl) : JS X en δ (.Assign [.Subscript (.Name x p) idx p2] e pos) N RT BK CT m :=
  js_setIx i (h.conv fun s1 δ1 ⟨d, sl0, e1, e2, e3, q⟩ => ⟨d, sl0, e1, e2, e3, q.conv fun s2 δ2 ⟨di, sl, ds, k, pe, f1, f2, f3, f4, f5, f6, f7⟩ =>
    ⟨di, sl, .lst ds, kL k, fun r => δ2.set i (sl.put r), f1, f2, f3, f4, by rw [f5, op_kL, setD_L], fun _ => rfl, fun r er => by
      rw [setD_L] at er
      obtain ⟨r', _, e'⟩ := Option.map_eq_some_iff.mp er
      subst e'
      show N (δ2.set i (sl.put (.lst r'))) _
      rw [f6 r']
      exact f7 r'⟩⟩) hN hv hdd hcd hs hw h1 ha
end

/-! ### methods of lists -/
/-- g told over lists of data -/
def LstG (g : D → List D → Option (D × D)) (gl : List D → List D → Option (D × List D)) : Prop := ∀ ds as, g (.lst ds) as = (gl ds as).map fun r => (r.1, D.lst r.2)
theorem je_mutL {id : String} {g : D → List D → Option (D × D)} {gl : List D → List D → Option (D × List D)} {name : Str} {x : Str} {p apos cpos : Pos} {e : Expr} {es : List Expr} (i : Nat) {sl0 : Slot} {ds0 : List D} (hg : LstG g gl) (slot : PySem.Slot "list" name id) (hty : typeOf (.builtin id) = pure (.type "method_descriptor")) (hm : MutD X id g)
    (hs : δ[i]? = some sl0) (ho : sl0.own = true) (hd : sl0.rd δ = some (.lst ds0))
    (h : JA X en δ τ (e :: es) (fun sls δ1 m1 => ∃ as sl ds k, ∃ pe : D × List D → List Slot, frs sls = some as ∧ δ1[i]? = some sl ∧ sl.own = true ∧ sl.rd δ1 = some (.lst ds) ∧ m1 = op (gl ds as) k ∧ (∀ r, δ1.set i (sl.put (.lst r.2)) = pe r) ∧ ∀ r, C (.fr r.1) (pe r) (k r)) m)
    (hN : X.N[i]? = some x := by rfl) (hv : Vis X.env.scope x := by first | exact Or.inl rfl | exact Or.inr (Or.inl rfl) | exact Or.inr (Or.inr rfl)) (hdd : (x == ("__debug__" : Str)) = false := by decide) (hcd : (x == ("__classdict__" : Str)) = false := by decide)
    (hfew : ((backTo cpos (starEach (e :: es) X.env)).all (fun x => !x.1) && (backToKw cpos (keywordEach [] X.env)).all (fun x => x.1.isSome)
      && decide ((e :: es).length + ([] : List Keyword).length + (if ([] : List Keyword).isEmpty then 0 else 1) < 30)) = true := by rfl)
    (hline : (apos.endLine == cpos.line) = true := by rfl) (hst : starEach (e :: es) X.env = (false, eval e X.env) :: starEach es X.env := by exact star_plain rfl) (hplain : (backTo cpos (starEach es X.env)).any (·.1) = false := by rfl) :
    JE X en δ τ (.Call (.Attribute (.Name x p) name apos) (e :: es) [] cpos) C m :=
  je_mut i slot hty hm hs ho hd (h.conv fun sls δ1 ⟨as, sl, ds, k, pe, f1, f2, f3, f4, f5, f6, f7⟩ => ⟨as, sl, .lst ds, kP k, fun r => δ1.set i (sl.put r.2), f1, f2, f3, f4, by rw [f5, op_kP, hg], fun _ => rfl, fun r er => by
    rw [hg] at er
    obtain ⟨r', _, e'⟩ := Option.map_eq_some_iff.mp er
    subst e'
    have := f6 r'
    show C _ (δ1.set i (sl.put (.lst r'.2))) _
    rw [f6 r']
    exact f7 r'⟩) hN hv hdd hcd hfew hline hst hplain
def appL (ds as : List D) : Option (D × List D) := match as with
  | [d] => if ds.length < sizeLine then some (.non, ds ++ [d]) else none
  | _ => none
def popL (ds as : List D) : Option (D × List D) := match as with
  | [] => (ds[ds.length - 1]?).map fun d => (d, ds.dropLast)
  | _ => none
def clrL (ds as : List D) : Option (D × List D) := match as with
  | [] => some (.non, [])
  | _ => none
def revL (ds as : List D) : Option (D × List D) := match as with
  | [] => some (.non, ds.reverse)
  | _ => none
def extL (ds as : List D) : Option (D × List D) := match as with
  | [.lst es] => if ds.length + es.length ≤ sizeLine then some (.non, ds ++ es) else none
  | _ => none
theorem g_app : LstG appendD appL := fun ds as => by
  match as with
  | [d] =>
    show (if _ then _ else _) = Option.map _ (if _ then _ else _)
    split <;> rfl
  | [] => rfl
  | _ :: _ :: _ => rfl
end
end BR

/-! K15: new lists told as lists of data -/
namespace BR
open PySem PySem.Spec PyProof.Rows L2

section
variable {X : Cx} {en : Kn} {δ τ : List Slot} {R : Type} {C : Slot → List Slot → Res R → Prop} {m : Res R} {K : PySem.W.Frag}
theorem RoomG.hu {k : Nat} {A : Around} (h : RoomG k A) : A.units + 64 < cLine := by
  have := h.r.un
  omega
def catT (a b : D) : Option (List D) := match a, b with
  | .lst a, .lst b => if a.length + b.length ≤ sizeLine then some (a ++ b) else none
  | _, _ => none
def CallL (X : Cx) (f : Value) (gl : List D → Option (List D)) : Prop := CallD X f (fun ds => (gl ds).map D.lst) .mu
theorem callL {gl : List D → Option (List D)} {ds : List D} {k : List D → Res R} (hk : ∀ d, C (.mu (.lst d)) δ (k d)) : ∀ d, (gl ds).map D.lst = some d → C (.mu d) δ (kL k d) := fun d hd => by
  obtain ⟨r, _, e⟩ := Option.map_eq_some_iff.mp hd
  subst e
  exact hk r
def listT : List D → Option (List D)
  | [.lst ds] => some ds
  | [.tup ds] => some ds
  | _ => none
theorem nd1 {α : Type} {a : α} : [a].Nodup := List.nodup_cons.mpr ⟨(by simp), List.nodup_nil⟩
theorem je_fzv' (i : Nat) (δ' : List Slot) {x : Str} {pos : Pos} {d : D} (hs : δ[i]? = some (.mu d)) (he : δ.set i (.fr d) = δ') (h : C (.fr d) δ' m) (hN : X.N[i]? = some x := by rfl) (hv : Vis X.env.scope x := by first | exact Or.inl rfl | exact Or.inr (Or.inl rfl) | exact Or.inr (Or.inr rfl))
    (hd : (x == ("__debug__" : Str)) = false := by decide) (hcd : (x == ("__classdict__" : Str)) = false := by decide) : JE X en δ τ (.Name x pos) C m := je_fzv i hs (he ▸ h) hN hv hd hcd
theorem je_mv' (i : Nat) (δ' : List Slot) {x : Str} {pos : Pos} {d : D} (hs : δ[i]? = some (.mu d)) (he : δ.set i .un = δ') (h : C (.mu d) δ' m) (hN : X.N[i]? = some x := by rfl) (hv : Vis X.env.scope x := by first | exact Or.inl rfl | exact Or.inr (Or.inl rfl) | exact Or.inr (Or.inr rfl))
    (hd : (x == ("__debug__" : Str)) = false := by decide) (hcd : (x == ("__classdict__" : Str)) = false := by decide) : JE X en δ τ (.Name x pos) C m := je_mv i hs (he ▸ h) hN hv hd hcd
end
end BR

/-! K16: dicts written -/
namespace BR
open PySem PySem.Spec PyProof.Rows L2

def putD (kvs : List (Key × D)) (k : Key) (d : D) : List (Key × D) :=
  if (kvs.any fun kv => decide (kv.1 = k)) = true then kvs.map (fun kv => if kv.1 = k then (kv.1, d) else kv) else kvs ++ [(k, d)]
def mergeD (kvs more : List (Key × D)) : List (Key × D) := more.foldl (fun acc kv => putD acc kv.1 kv.2) kvs
section
variable {K : PySem.W.Frag} {G H : Hp}
theorem RepKs.any : ∀ {ks : List (Key × D)} {vs : List (Key × V)} (p : Key → Bool), RepKs K G ks vs → (ks.any fun kv => p kv.1) = vs.any fun kv => p kv.1
  | [], _, p, h => by rw [show _ = [] from h]; rfl
  | (k, d) :: ks, _, p, h => by
    obtain ⟨v, r, e, _, h2⟩ := h
    subst e
    rw [List.any_cons, List.any_cons, RepKs.any p h2]
theorem RepKs.snoc {k : Key} {d : D} {v : V} (q : Rep K G d v) : ∀ {ks : List (Key × D)} {vs : List (Key × V)}, RepKs K G ks vs → RepKs K G (ks ++ [(k, d)]) (vs ++ [(k, v)])
  | [], _, h => by rw [show _ = [] from h]; exact ⟨v, [], rfl, q, rfl⟩
  | (k', d') :: ks, _, h => by
    obtain ⟨u, r, e, h1, h2⟩ := h
    subst e
    exact ⟨u, _, rfl, h1, RepKs.snoc q h2⟩
theorem RepKs.over {k : Key} {d : D} {v : V} (q : Rep K G d v) : ∀ {ks : List (Key × D)} {vs : List (Key × V)}, RepKs K G ks vs → RepKs K G (ks.map fun kv => if kv.1 = k then (kv.1, d) else kv) (vs.map fun kv => if kv.1 = k then (kv.1, v) else kv)
  | [], _, h => by rw [show _ = [] from h]; rfl
  | (k', d') :: ks, _, h => by
    obtain ⟨u, r, e, h1, h2⟩ := h
    subst e
    rw [List.map_cons, List.map_cons]
    by_cases hk : k' = k
    · subst hk
      rw [if_pos rfl, if_pos rfl]
      exact ⟨v, _, rfl, q, RepKs.over q h2⟩
    · rw [if_neg hk, if_neg hk]
      exact ⟨u, _, rfl, h1, RepKs.over q h2⟩
theorem RepKs.put {k : Key} {d : D} {v : V} (q : Rep K G d v) {ks : List (Key × D)} {vs : List (Key × V)} (h : RepKs K G ks vs) : RepKs K G (putD ks k d) (putK vs k v) := by
  have e := RepKs.any (fun x => decide (x = k)) h
  unfold putD putK
  rw [e]
  split
  · exact RepKs.over q h
  · exact RepKs.snoc q h
theorem RepKs.length : ∀ {ks : List (Key × D)} {vs : List (Key × V)}, RepKs K G ks vs → ks.length = vs.length
  | [], _, h => by rw [show _ = [] from h]; rfl
  | (k, d) :: ks, _, h => by
    obtain ⟨v, r, e, _, h2⟩ := h
    rw [e, List.length_cons, List.length_cons, RepKs.length h2]
end
/-- data as keys -/
def keyD : D → Option Key
  | .int i => some (.inl i)
  | .str x => some (.inr x)
  | _ => none
def keysD : List (D × D) → Option (List (Key × D))
  | [] => some []
  | (k, d) :: r => match keyD k, keysD r with
    | some k, some r => some ((k, d) :: r)
    | _, _ => none
def pairD (r : List (D × D)) : Option (List (Key × D)) := if r.length ≤ 15 then keysD r else none
section
variable {X : Cx} {en : Kn} {δ τ : List Slot} {R : Type} {C : Slot → List Slot → Res R → Prop} {m : Res R} {K : PySem.W.Frag}
def trsOf (X : Cx) : List (Option Expr) → List Expr → List (TE × TE)
  | some k :: ks, v :: vs => (WE X k, WE X v) :: trsOf X ks vs
  | _, _ => []
def frs2 : List (D × D) → List Slot
  | [] => []
  | (a, b) :: r => .fr a :: .fr b :: frs2 r
def vals2 : List (V × V) → L2.St
  | [] => []
  | (a, b) :: r => some a :: some b :: vals2 r
structure JP (X : Cx) (en : Kn) (δ τ : List Slot) (ks : List (Option Expr)) (vs : List Expr) {R : Type} (C : List (D × D) → List Slot → Res R → Prop) (m : Res R) : Prop where
  run : m ≠ .bad → en.HX m.exc → ∀ (σ ts : L2.St) (G H : Hp) (T : List (V × V) → Hp → Prop), δ.length = en.n → σ.length = en.n → Wd X.K en (δ ++ τ) (σ ++ ts) G H →
    (∀ kvs δ' ps G' H', C kvs δ' m → δ'.length = en.n → kvs.length = ps.length → Wd X.K en (δ' ++ τ ++ frs2 kvs) (σ ++ ts ++ vals2 ps) G' H' → T ps H') → tPairs (trsOf X ks vs) σ H T
end
end BR

/-! K17: a law's end -/
namespace BR
open PySem PySem.Spec PyProof.Rows L2

def spLaw (n : Nat) (K : PySem.W.Frag) : Sp := fun vs H Q _ => ∃ (a : Addr) (ns : List Int), vs = [.ref a] ∧ SqL K H a (ns.map V.int) ∧ ns.length ≤ n ∧ ∀ H', Q (.bl true) H'
section
variable {P : Program} {w : World} {K : PySem.W.Frag} {mg : Str → Option Value} {base : Heap}
theorem law_spec {k n : Nat} {fa : Addr} {fd : FuncData} {x : Str} {f : List D → Res D} (F : FnG P w K mg base k fa fd [x] (SpD K mg [.b] f (fun a => a) (fun a => []) false)) (hf : ∀ ns : List Int, ns.length ≤ n → f [.scr ns] = .ok (.bl true)) : FnG P w K mg base k fa fd [x] (spLaw n K) where
  len := fun vs H Q E h => by
    obtain ⟨a, ns, rfl, _⟩ := h
    rfl
  run := fun A outer s H args us vs Q E hr e0 hb rv hsp => F.run A outer s H args us vs Q E hr e0 hb rv (by
    obtain ⟨a, ns, rfl, hq, hl, q⟩ := hsp
    have hh : hide H [] = H := funext fun a => if_neg (by simp)
    refine ⟨rfl, fun _ => none, [], [.scr ns], _, (fun _ _ e => nomatch e), List.nodup_nil, ⟨BRep.mk ⟨a, rfl, ?_⟩ (fun z => nomatch z), trivial⟩, rfl, ?_, ?_, ?_⟩
    · rw [hh]; exact hq
    · rw [hf ns hl]; exact fun z => nomatch z
    · intro r er v G' H' _ _ ro
      rw [hf ns hl] at er
      cases er
      have e : v = .bl true := ro
      subst e
      exact q H'
    · intro x ex
      rw [hf ns hl] at ex
      cases ex)
theorem fn_fact {h : Heap} {x : Str} {st : Stmt} {ps : List Str} {f : Addr} {oc : Value} {od an : Option Addr} {osl : Array (Option Value)} {kV doc pm cdv ct : Value} (X : K.In h) (G : h.Ns mainGlobals mg)
    (a : PySem.W.nsIn K mainGlobals x = some (some (.ref f))) (l : K.lookup f = some ⟨oc, od, .func (PySem.W.fnOf x x (defArgs st) (defBody st) (defScope st) .none kV doc pm an cdv ct), osl⟩)
    (c : PySem.W.codeIn K cdv x = true) (k : PySem.W.keepIn K (.ref f) = true)
    (hb : ∀ (kV doc pm : Value) (an : Option Addr) (cdv ct : Value) (us : List Value), us.length = ps.length → bindArgs (PySem.W.fnOf x x (defArgs st) (defBody st) (defScope st) .none kV doc pm an cdv ct) ⟨us, []⟩ = pure (ps.zip us)) :
    ∃ fa fd, L2.Fun K x x st fa fd ∧ Binds K fd ps [] ∧ mg x = some (.ref fa) :=
  ⟨f, _, fun_mk l c k, (fun_mk l c k).binds hb, PySem.W.mg_of X G a⟩
end
end BR

/-! K18: the text of data, dicts within -/
namespace BR
open PySem PySem.Spec PyProof.Rows L2

mutual
/-- no script within -/
def noS : D → Bool
  | .lst ds => noSs ds
  | .tup ds => noSs ds
  | .dic ks => noSk ks
  | .scr _ => false
  | .exc _ _ => false
  | .obj _ _ => false
  | _ => true
def noSs : List D → Bool
  | [] => true
  | d :: ds => noS d && noSs ds
def noSk : List (Key × D) → Bool
  | [] => true
  | (_, d) :: ds => noS d && noSk ds
end
/-- a run of texts, shown in a heap h with what is read on the way -/
def ShA (P : Program) (w : World) (h : Heap) (us : List Value) (ps : List PyData) : Prop :=
  ∃ as bs, ReadsAll h us ps as ∧ ReadAtMost h (PyData.depthAll ps) bs ∧ ReprAllK P w bs h (PyData.depthAll ps) us (PyData.shownAll ps)
def Sh (P : Program) (w : World) (h : Heap) (u : Value) (p : PyData) : Prop :=
  ∃ as bs, Reads h u p as ∧ ReadAtMost h p.depth bs ∧ ReprK P w bs h p.depth u p.shown
section
variable {P : Program} {w : World} {h : Heap}
end
section
variable {X : Cx} {pins : List (Addr × Obj)} {σ : L2.St} {H : Hp} {s : Shared}
end
theorem VF.rep {K : PySem.W.Frag} {G H : Hp} (s : Sub G H) : ∀ {b : Bool} {d : D} {v : V}, VF K G H b d v → Rep K H d v
  | true, .lst ds, v, h => by obtain ⟨a, vs, e, q, r⟩ := h; exact ⟨a, vs, e, q, Reps.sub s _ _ r⟩
  | true, .dic ds, v, h => by obtain ⟨a, vs, e, q, r⟩ := h; exact ⟨a, vs, e, q, RepKs.sub s _ _ r⟩
  | false, d, v, h => by cases d <;> exact Rep.sub s _ _ h
  | true, .non, _, h => h
  | true, .bl _, _, h => h
  | true, .int _, _, h => h
  | true, .str _, _, h => h
  | true, .tup _, _, h => Rep.sub s _ _ h
  | true, .scr _, _, h => Rep.sub s _ _ h
  | true, .exc _ _, _, h => Rep.sub s _ _ h
  | true, .obj _ _, _, h => Rep.sub s _ _ h
theorem VFs.rep {K : PySem.W.Frag} {G H : Hp} (s : Sub G H) : ∀ {fs : List (Str × Bool × D)} {vs : List (Str × V)}, VFs K G H fs vs → RepFs K H fs vs
  | [], _, h => h
  | (k, b, d) :: r, _, h => by
    obtain ⟨v, q, e, h1, h2⟩ := h
    exact ⟨v, q, e, VF.rep s h1, VFs.rep s h2⟩
theorem VRep.rep {K : PySem.W.Frag} {G H : Hp} {d : D} {v : V} (s : Sub G H) (h : VRep K G H d v) : Rep K H d v := by
  cases d with
  | lst ds => obtain ⟨a, vs, e, q, r⟩ := h; exact ⟨a, vs, e, q, Reps.sub s _ _ r⟩
  | tup ds => obtain ⟨a, vs, e, q, r⟩ := h; exact ⟨a, vs, e, q, Reps.sub s _ _ r⟩
  | dic ds => obtain ⟨a, vs, e, q, r⟩ := h; exact ⟨a, vs, e, q, RepKs.sub s _ _ r⟩
  | scr ns => exact h
  | exc _ _ => obtain ⟨a, C, e, f, q⟩ := h; exact ⟨a, C, e, f, q.sub s (Sub.refl _)⟩
  | obj _ _ => obtain ⟨a, C, dx, vs, e, f, q, q2, r⟩ := h; exact ⟨a, C, dx, vs, e, f, q, q2, VFs.rep s r⟩
  | non => exact h
  | bl _ => exact h
  | int _ => exact h
  | str _ => exact h
/-- repr(e) -/
def rprD : List D → Option D
  | [d] => if noS d = true ∧ (toP d).showable = true ∧ (toP d).depth ≤ 60 ∧ (toP d).shown.length ≤ sizeLine then some (.str (toP d).shown) else none
  | _ => none
section
variable {X : Cx}
end
end BR

/-! K19: ways not taken, back to front, zip, enumerate, the greatest and the least, sorted -/
namespace BR
open PySem PySem.Spec PyProof.Rows L2

section
variable {X : Cx} {en : Kn} {δ τ : List Slot} {R : Type} {C : Slot → List Slot → Res R → Prop} {m : Res R} {K : PySem.W.Frag}
variable {N : List Slot → Res R → Prop} {RT : Slot → List Slot → Res R → Prop} {BK CT : List Slot → Res R → Prop}
/-- what is not covered asks nothing -/
theorem js_bad {st : Stmt} : JS X en δ st N RT BK CT (.bad : Res R) := .mk fun hb => absurd rfl hb
/-! ### back to front -/
def revD : D → Option D
  | .lst ds => some (.lst ds.reverse)
  | .tup ds => some (.tup ds.reverse)
  | _ => none
theorem pick_back (xs : Array Value) : ((List.range xs.size).filterMap fun (m : Nat) => xs[((xs.size : Int) - 1 + (m : Int) * -1).toNat]?).toArray = xs.toList.reverse.toArray := by
  have key : ∀ (l : List Nat), (∀ k, k ∈ l → k < xs.size) → (l.filterMap fun (m : Nat) => xs[((xs.size : Int) - 1 + (m : Int) * -1).toNat]?) = l.filterMap fun m => xs[xs.size - 1 - m]? := by
    intro l h
    induction l with
    | nil => rfl
    | cons k r ih =>
      have hk := h k List.mem_cons_self
      have e : ((xs.size : Int) - 1 + (k : Int) * -1).toNat = xs.size - 1 - k := by omega
      rw [List.filterMap_cons, List.filterMap_cons, e, ih fun k hk => h k (List.mem_cons_of_mem _ hk)]
  rw [key _ fun k hk => List.mem_range.mp hk]
  have e2 : (fun m => xs[xs.size - 1 - m]?) = (xs[·]?) ∘ fun k => xs.size - 1 - k := rfl
  rw [e2, ← List.filterMap_map, PySem.W.krv_range, List.filterMap_reverse, PySem.W.krv_all]
theorem back_places (n : Nat) : Builtin.Slice.slicePlaces ((n : Int) - 1) (-1) (-1) = n := by
  unfold Builtin.Slice.slicePlaces
  rw [if_neg (by decide)]
  split
  · rw [show (- -1 : Int) = 1 by decide, Int.ediv_one]; omega
  · omega
theorem back_applied {w : World} {P : Program} {A : Around} {E : Value → Shared → Prop} {s : Shared} {sl : Addr} {vk : Value} {n : Nat} {Q : Int × Int × Nat → Shared → Prop} (hs : s.heap.IsSliceOf sl .none .none vk) (pk : IsPart vk (some (-1)))
    (h : Q ((n : Int) - 1, -1, n) s) : wpAny (model P w) A (Builtin.Slice.sliceApplied (.ref sl) (pure (n : Int))) Q E s := by
  obtain ⟨ob, g1, g2, g3⟩ := id hs
  unfold Builtin.Slice.sliceApplied Builtin.Slice.sliceFields
  refine wpAny_bind (wpAny_bind (wpAny_field g1 g3 (x := .none) rfl (wpAny_bind (wpAny_field g1 g3 (x := .none) rfl (wpAny_bind (wpAny_field g1 g3 (x := vk) rfl (wpAny_pure ?_)))))))
  refine wpAny_bind (HT.slicePart_ pk ?_)
  show wpAny _ _ (if ((-1 : Int) == 0) = true then _ else _) _ _ s
  rw [if_neg (by decide)]
  refine wpAny_bind (slicePart_none (wpAny_bind (slicePart_none (wpAny_bind (wpAny_pure ?_)))))
  show wpAny _ _ (pure ((n : Int) - 1, (-1 : Int), Builtin.Slice.slicePlaces ((n : Int) - 1) (-1) (-1))) _ _ s
  rw [back_places]
  exact wpAny_pure h
theorem tuple_back {w : World} {P : Program} {A : Around} {E : Value → Shared → Prop} {s : Shared} {t sl : Addr} {items : Array Value} {vk : Value} {Q : Value → Shared → Prop} (ht : IsTup s.heap t items) (hs : s.heap.IsSliceOf sl .none .none vk) (pk : IsPart vk (some (-1)))
    (h : Q (.ref s.heap.objs.size) { s with heap := s.heap.push { cls := .type "tuple", data := .seq items.toList.reverse.toArray } })
    (hz : items.size ≤ sizeLine) : wpAny (model P w) A (getItem (.ref t) (.ref sl)) Q E s := by
  have fits : sizeOk (.seq items.toList.reverse.toArray) := by
    show items.toList.reverse.toArray.size ≤ sizeLine
    simpa using hz
  obtain ⟨ob, g1, g2, g3⟩ := id hs
  have isS : s.TypeIs (.ref sl) "slice" := ⟨ob, g1, g2⟩
  unfold getItem
  try with_reducible refine wpAny_holding ?_
  first | refine wpAny_bind (wpAny_pure ?_) | skip
  refine wpAny_bind (wpAny_sequenceKey ht.typeIs (by decide) ?_)
  refine wpAny_bind (wpAny_callSpecial?_slot (name := Str.ofString "__getitem__") ht.typeIs PyProof.Rows.slot_tuple_getitem (wpAny_call_entry PyProof.Rows.slot_tuple_getitem ht.typeIs entry_tuple_getitem ?_ (args_tuple_getitem _ _)))
  show wpAny _ _ (Builtin.Tuple.tupleItemsOf (.ref t) >>= _) _ _ s
  refine wpAny_bind (tupleItemsOf_ ht (wpAny_bind (wpAny_typeOf isS ?_)))
  rw [if_pos (by decide)]
  refine wpAny_bind (back_applied hs pk ?_)
  have no : ¬ ((((items.size : Nat) : Int) - 1 == 0 && (-1 : Int) == 1 && items.size == items.size) = true) := by simp
  show wpAny _ _ (if (((items.size : Nat) : Int) - 1 == 0 && (-1 : Int) == 1 && items.size == items.size) = true then _ else _) _ _ s
  rw [if_neg no, pick_back]
  first
    | exact wpAny_bind (m := Builtin.Tuple.tupleExact _) (wpAny_newObj_type (wpAny_pure ⟨_, rfl, wpAny_pure h⟩) fits)
    | exact wpAny_bind (m := Builtin.Tuple.tupleExact _) (wpAny_newObj_type (wpAny_bind (wpAny_pure (wpAny_pure ⟨_, rfl, wpAny_pure h⟩))) fits)
    | exact wpAny_bind (wpAny_bind (m := Builtin.Tuple.tupleExact _) (wpAny_newObj_type (wpAny_pure (wpAny_pure ⟨_, rfl, wpAny_pure h⟩)) fits))
    | exact wpAny_bind (wpAny_bind (m := Builtin.Tuple.tupleExact _) (wpAny_newObj_type (wpAny_pure ⟨_, rfl, wpAny_pure h⟩) fits))
/-- xs[::-1] of a list or a tuple -/
theorem pe_revA {e : Expr} {te : TE} {j : Nat} {p2 p3 p4 pos : Pos} (he : PE X e te) : PE X (.Subscript e (.Slice none none (some (.UnaryOp .USub (.Constant (.int 1) j p4) p3)) p2) pos)
    (fun σ H Q => te σ H fun x H1 => ∃ a xs, x = .ref a ∧ ((SqL X.K H1 a xs ∧ ∀ p, H1 p = none → Q (.ref p) (upd H1 p (.lst xs.reverse))) ∨ (SqT X.K H1 a xs ∧ ∀ p, H1 p = none → Q (.ref p) (upd H1 p (.tup xs.reverse))))) := by
  refine ⟨fun pins s σ H Q I h => ?_⟩
  refine Subscript_ (thn (he.run pins s σ H _ I h) fun v s1 ⟨x, H1, I1, r1, q1⟩ => ?_)
  obtain ⟨a, xs, rfl, q⟩ := q1
  cases r1
  refine wpAny_Slice ?_
  rw [evalPart_none]
  refine wpAny_pure (wpAny_pure ?_)
  refine thn ((po_some (pe_un un_neg (pe_int (j := j) (pos := p4)))).run pins s1 σ H1 (fun o H2 => o = some (-1) ∧ H2 = H1) I1 ⟨1, rfl, -1, rfl, rfl, rfl⟩) fun vk s3 ⟨o, H3, I3, pk, eo, eH⟩ => ?_
  subst eo eH
  have I4 : Inv X pins σ H3 { s3 with heap := s3.heap.push { cls := .type "slice", data := .fields #[.none, .none, vk] } } := I3.kept (t' := s3.toks) fun b ob q => Heap.get?_push_of_some _ q
  rcases q with ⟨hx, q⟩ | ⟨hx, q⟩
  · obtain ⟨its, r, ht, hz⟩ := I4.list hx
    have hlen := r.length
    refine tail_any (ops := [.ref a, .ref s3.heap.objs.size]) ht.isList.typeIs slot_list_getitem.lookup ?_ (by with_unfolding_all rfl)
    refine wpAny_getItem_list_slice ht.isList (Heap.IsSliceOf.new ..) .none .none pk (by decide) ?_ (by rw [List.size_toArray] <;> omega)
    rw [PySem.W.krv_pick]
    refine ⟨.ref _, _, I4.laid (t' := s3.toks) (o := .lst xs.reverse) (fun b ob q => Heap.get?_push_of_some _ q) (Nat.le_refl _) ?_, rfl, q _ (I4.hok.fresh (Nat.le_refl _))⟩
    refine ⟨by rw [List.length_reverse]; exact hz, _, 0, ?_, Heap.get?_push_size _ rfl⟩
    simpa using Vals.reverse r
  · obtain ⟨its, r, ht, hz⟩ := I4.tuple hx
    have hlen := r.length
    refine tail_any (ops := [.ref a, .ref s3.heap.objs.size]) ht.typeIs PyProof.Rows.slot_tuple_getitem.lookup ?_ (by with_unfolding_all rfl)
    refine tuple_back ht (Heap.IsSliceOf.new ..) pk ?_ (by rw [List.size_toArray] <;> omega)
    refine ⟨.ref _, _, I4.laid (t' := s3.toks) (o := .tup xs.reverse) (fun b ob q => Heap.get?_push_of_some _ q) (Nat.le_refl _) ?_, rfl, q _ (I4.hok.fresh (Nat.le_refl _))⟩
    refine ⟨by rw [List.length_reverse]; exact hz, its.reverse, Vals.reverse r, ?_⟩
    have := IsTup.new { s3 with heap := s3.heap.push { cls := .type "slice", data := .fields #[.none, .none, vk] } }.heap its.reverse.toArray
    simpa using this
/-- a list or a tuple back to front: a new one -/
theorem je_rev {e : Expr} {j : Nat} {p2 p3 p4 pos : Pos}
    (h : JE X en δ τ e (fun s1 δ1 m1 => ∃ d k, s1.rd δ1 = some d ∧ m1 = op (revD d) k ∧ ∀ d', C (.fr d') δ1 (k d')) m) :
    JE X en δ τ (.Subscript e (.Slice none none (some (.UnaryOp .USub (.Constant (.int 1) j p4) p3)) p2) pos) C m := .mk fun hb hx σ ts G H T hl hσ W k => by
  refine we_of (pe_revA pe_we) ?_
  have ht : τ.length = ts.length := W.splitLen (hl.trans hσ.symm)
  refine h.run hb hx σ ts G H _ hl hσ W fun s1 δ1 v1 G1 H1 c1 hl1 W1 => ?_
  obtain ⟨d, k', e1, em, hk⟩ := c1
  have hb' := hb
  rw [em] at hb'
  obtain ⟨d', ed⟩ := op_some hb'
  have em' : m = k' d' := by rw [em, ed]; rfl
  have hk2 := hk d'
  rw [← em'] at hk2
  obtain ⟨⟨_, _, ez, r1, _⟩, Wn⟩ := Wd.ends (sls := [s1]) (vs := [v1]) W1 (hl1.trans hσ.symm) ht (ds := [d]) (by simp only [rds, e1])
  cases ez
  cases d <;> first | cases ed | skip
  · obtain ⟨p, vs, ev, q1, s1'⟩ := r1
    exact ⟨p, vs, ev, .inl ⟨SqL.of q1, fz_out W1.sub (Reps.reverse s1') fun v G' H' gr out => k _ δ1 v G' H' hk2 hl1 ((Wn (by omega)).out gr out)⟩⟩
  · obtain ⟨p, vs, ev, q1, s1'⟩ := r1
    exact ⟨p, vs, ev, .inr ⟨q1, fzT_out W1.sub (Reps.reverse s1') fun v G' H' gr out => k _ δ1 v G' H' hk2 hl1 ((Wn (by omega)).out gr out)⟩⟩

/-! ### zip, enumerate -/
/-- what is walked beside another -/
theorem stb_at {sl : Slot} {S : L2.St} {G H : Hp} {v : V} {d : D} {ds : List D} (hs : sl.stb = some d) (q : SlotOk K en S G H sl (some v)) (e : asL d = some ds) (sf : Sub en.F0 H) (sg : Sub G H) :
    ∃ a vs, v = .ref a ∧ Reps K G ds vs ∧ (((∀ H', Sub en.F0 H' → Sub G H' → SqL K H' a vs) ∧ isTup d = false) ∨ ((∀ H', Sub en.F0 H' → Sub G H' → SqT K H' a vs) ∧ isTup d = true)) := by
  cases sl with
  | un => cases hs
  | mu _ => cases hs
  | mp _ _ => cases hs
  | bo _ => cases hs
  | fr d' =>
    cases hs
    obtain ⟨u, eu, r⟩ := q
    cases eu
    cases d <;> first | cases e | skip
    · obtain ⟨a, vs, e, q, r'⟩ := r
      exact ⟨a, vs, e, r', .inl ⟨fun H' _ s => SqL.sub s (SqL.of q), rfl⟩⟩
    · obtain ⟨a, vs, e, q, r'⟩ := r
      exact ⟨a, vs, e, r', .inr ⟨fun H' _ s => SqT.sub s q, rfl⟩⟩
    · obtain ⟨a, e, q⟩ := r
      exact ⟨a, _, e, ints_reps _, .inl ⟨fun H' _ s => SqL.sub s q, rfl⟩⟩
  | bw d' =>
    cases hs
    obtain ⟨u, eu, ⟨M, hM, r⟩, _⟩ := q
    cases eu
    cases d <;> first | cases e | skip
    · obtain ⟨a, vs, e, q, r'⟩ := r
      exact ⟨a, vs, e, r', .inl ⟨fun H' s s2 => SqL.sub (hM.sub s s2) (SqL.of q), rfl⟩⟩
    · obtain ⟨a, vs, e, q, r'⟩ := r
      exact ⟨a, vs, e, r', .inr ⟨fun H' s s2 => SqT.sub (hM.sub s s2) q, rfl⟩⟩
    · obtain ⟨a, e, q⟩ := r
      exact ⟨a, _, e, ints_reps _, .inl ⟨fun H' s s2 => SqL.sub (hM.sub s s2) q, rfl⟩⟩
def pairs : List D → List D → List D
  | x :: xs, y :: ys => .tup [x, y] :: pairs xs ys
  | _, _ => []
theorem pairs_get : ∀ {xs ys : List D} {i : Nat} {d : D}, (pairs xs ys)[i]? = some d → ∃ x y, xs[i]? = some x ∧ ys[i]? = some y ∧ d = .tup [x, y]
  | [], _, _, _, e => by simp [pairs] at e
  | _ :: _, [], _, _, e => by simp [pairs] at e
  | x :: xs, y :: ys, 0, d, e => ⟨x, y, rfl, rfl, by simpa [pairs] using e.symm⟩
  | x :: xs, y :: ys, i + 1, d, e => by
    obtain ⟨a, b, h1, h2, h3⟩ := pairs_get (xs := xs) (ys := ys) (i := i) (by simpa [pairs] using e)
    exact ⟨a, b, by simpa using h1, by simpa using h2, h3⟩
theorem pairs_len : ∀ {xs ys : List D}, (pairs xs ys).length = min xs.length ys.length
  | [], ys => by simp [pairs]
  | _ :: _, [] => by simp [pairs]
  | x :: xs, y :: ys => by simp [pairs, pairs_len (xs := xs) (ys := ys)]
/-- the items of zip(..) -/
def zipD (a b : D) : Option (List D) := match asL a, asL b with
  | some xs, some ys => if isTup a = isTup b then some (pairs xs ys) else none
  | _, _ => none
theorem grow_tup {G H : Hp} {T : Addr} {xs : List D} {vs : List V} (gh : Sub G H) (hT : H T = none) (r : Reps K G xs vs) : ∃ G', Grow G H G' (upd H T (.tup vs)) ∧ Rep K G' (.tup xs) (.ref T) := by
  have gT : G T = none := by
    cases z : G T with
    | none => rfl
    | some o => rw [gh T o z] at hT; cases hT
  refine ⟨upd G T (.tup vs), ⟨Sub.upd gT, Sub.upd hT, ?_, ?_⟩, T, vs, rfl, .inl (.inl upd_same), Reps.sub (Sub.upd gT) _ _ r⟩
  · intro b o e
    by_cases hb : b = T
    · subst hb; rw [upd_same] at e ⊢; exact e
    · rw [upd_ne hb] at e ⊢; exact gh b o e
  · intro b o e
    by_cases hb : b = T
    · subst hb; exact .inr hT
    · rw [upd_ne hb] at e; exact .inl e
/-- the items of enumerate(..) of a list -/
def enumF : Nat → List D → List D
  | _, [] => []
  | n, d :: ds => .tup [.int n, d] :: enumF (n + 1) ds
theorem enumF_get : ∀ {xs : List D} {n i : Nat} {d : D}, (enumF n xs)[i]? = some d → ∃ x, xs[i]? = some x ∧ d = .tup [.int (n + i : Nat), x]
  | [], _, _, _, e => by simp [enumF] at e
  | x :: xs, n, 0, d, e => ⟨x, rfl, by simpa [enumF] using e.symm⟩
  | x :: xs, n, i + 1, d, e => by
    obtain ⟨a, h1, h3⟩ := enumF_get (xs := xs) (n := n + 1) (i := i) (by simpa [enumF] using e)
    exact ⟨a, by simpa using h1, by rw [h3, show n + 1 + i = n + (i + 1) by omega]⟩
theorem enumF_len : ∀ {xs : List D} {n : Nat}, (enumF n xs).length = xs.length
  | [], _ => rfl
  | x :: xs, n => by simp [enumF, enumF_len (xs := xs)]
def enumD (a : D) : Option (List D) := match a with
  | .tup _ => none
  | d => (asL d).map (enumF 0)
theorem ite_D {a : Addr} {us : List V} {xs : List D} {Gb Fb : Hp} (ha : ∀ H, Sub Fb H → Sub Gb H → SqL K H a us) (ra : Reps K Gb xs us) : ItD K (Ite K a) Gb Fb (enumF 0 xs) := fun G H sg sf gh i => by
  have qa := ha H sf (sg.trans gh)
  refine ⟨fun d e => ?_, fun hi => ⟨us, qa, ?_⟩⟩
  · obtain ⟨x, h1, rfl⟩ := enumF_get e
    obtain ⟨u, h3, h4⟩ := ra.get h1
    refine ⟨⟨us, u, qa, h3⟩, fun z H' hz => ?_⟩
    obtain ⟨T, p, rfl, hT, rfl, f1⟩ := hz
    have e1 := f1 us qa
    rw [h3] at e1; cases e1
    exact grow_tup gh hT ⟨_, _, rfl, by rw [Nat.zero_add]; rfl, _, _, rfl, Rep.sub sg _ _ h4, rfl⟩
  · rw [enumF_len] at hi
    rw [← ra.length]; omega
theorem ji_enum {elts : List Expr} {kk : Nat} {e : Expr} {p pos tpos : Pos} {C : List D → List Slot → Res R → Prop} (hm : X.mg "enumerate" = none)
    (h : JE X en δ τ e (fun s1 δ1 m1 => ∃ d1 k, s1.stb = some d1 ∧ m1 = op (enumD d1) k ∧ ∀ ds, C ds δ1 (k ds)) m) (hg : Gl X "enumerate" := by rfl)
    (hs : starEach [e] X.env = [(false, eval e X.env)] := by exact star_plain rfl) : JI X en δ τ (.Tuple elts kk tpos) (.Call (.Name "enumerate" p) [e] [] pos) C m := .mk fun hb hx σ ts G H T hl hσ W k => by
  refine wi_of (pi_enum hg hm (pa_cons pe_we pa_nil (by rw [hs]; rfl)) hs) ?_
  have ht : τ.length = ts.length := W.splitLen (hl.trans hσ.symm)
  refine h.run hb hx σ ts G H _ hl hσ W fun s1 δ1 v1 G1 H1 c1 hl1 W1 => ?_
  obtain ⟨d1, k', e1, em, hk⟩ := c1
  have hb' := hb
  rw [em] at hb'
  obtain ⟨ds, ed⟩ := op_some hb'
  have em' : m = k' ds := by rw [em, ed]; rfl
  have hk2 := hk ds
  rw [← em'] at hk2
  have q1 := W1.last
  have W2 := W1.cut (Δ := δ1 ++ τ) (S := σ ++ ts) (by rw [List.length_append, List.length_append]; omega) (by rw [List.length_append]; omega)
  have ed2 : isTup d1 = false ∧ (asL d1).map (enumF 0) = some ds := by
    cases d1 <;> first | exact ⟨rfl, ed⟩ | cases ed
  obtain ⟨xs, a1, rfl⟩ := Option.map_eq_some_iff.mp ed2.2
  obtain ⟨a, us, rfl, ra, ha⟩ := stb_at e1 q1 a1 W2.frm W2.sub
  rcases ha with ⟨ha, t1⟩ | ⟨ha, t1⟩
  · exact ⟨a, us, rfl, ha _ W2.frm W2.sub, k _ δ1 _ G1 H1 hk2 hl1 W2 (ite_D ha ra)⟩
  · rw [ed2.1] at t1; cases t1

/-! ### the greatest and the least of a list, a list sorted -/
def max1D : List D → Option D
  | [.lst ds] => (intsD ds).bind fun ns => match ns with
    | [] => none
    | n :: r => some (.int (r.foldl max n))
  | _ => none
def min1D : List D → Option D
  | [.lst ds] => (intsD ds).bind fun ns => match ns with
    | [] => none
    | n :: r => some (.int (r.foldl min n))
  | _ => none
/-- sorted -/
def srtI (ns : List Int) : List Int := ns.mergeSort fun a b => decide (a ≤ b)
def sortT : List D → Option (List D)
  | [.lst ds] => (intsD ds).map fun ns => (srtI ns).map D.int
  | _ => none
/-! ### targets, names given side by side -/
theorem jgs_name (i : Nat) {x : Str} {pos : Pos} {d : D} (δ' : List Slot) {es : List Expr} {ds : List D} {js : List Nat} (hN : X.N.Nodup) (h : JGs X en δ' τ es ds js N m) (he : δ.set i (.fr d) = δ' := by rfl) (hb : noBo (δ ++ τ) = true := by rfl) (hi : X.N[i]? = some x := by rfl) (hil : (i + 1).ble δ.length = true := by rfl) (hx : Loc X.env.scope x := by first | exact Or.inl rfl | exact Or.inr rfl)
    (hf : X.fn x = true ∨ X.env.scope.names.lookup x = some .local := by first | exact .inl rfl | exact .inr rfl)
    (hs : (assignEach (.Name x pos :: es) X.env).map (·.2) = assign (.Name x pos) X.env :: (assignEach es X.env).map (·.2) := by rfl) : JGs X en δ τ (.Name x pos :: es) (d :: ds) (i :: js) N m :=
  jgs_cons (is := [i]) (jg_name i δ' hN h he hb hi hil hx hf) hs
/-! ### cuts of lists and tuples -/
def cutA (d : D) (lo hi : Option Int) : Option D := match d with
  | .lst ds => some (.lst (cutD ds lo hi))
  | .tup ds => some (.tup (cutD ds lo hi))
  | .scr ns => some (.lst (cutD (ns.map D.int) lo hi))
  | _ => none
theorem reps_scr {K : PySem.W.Frag} {G : Hp} : ∀ {ns : List Int}, Reps K G (ns.map D.int) (ns.map V.int)
  | [] => rfl
  | n :: r => ⟨.int n, _, rfl, rfl, reps_scr⟩
theorem cut_whole {ds : List D} {lo hi : Option Int} (h : HT.sIx ds.length 0 lo = 0 ∧ HT.sIx ds.length ds.length hi = ds.length) : cutD ds lo hi = ds := by
  unfold cutD
  rw [h.1, h.2]
  simp
/-- xs[lo:hi] of a list or a tuple that isn't this def's own -/
theorem je_cutA {e : Expr} {lo hi : Option Expr} {p2 pos : Pos}
    (h : JE X en δ τ e (fun s1 δ1 m1 => JO X en δ1 (τ ++ [s1]) lo (fun l δ2 m2 => JO X en δ2 (τ ++ [s1]) hi (fun u δ3 m3 => ∃ d k, s1.stb = some d ∧ m3 = op (cutA d l u) k ∧ ∀ d', C (.fr d') δ3 (k d')) m2) m1) m) :
    JE X en δ τ (.Subscript e (.Slice lo hi none p2) pos) C m := .mk fun hb hx σ ts G H T hl hσ W k => by
  refine we_of (pe_slice (sl_list.or sl_tupA) pe_we po_wo po_wo) ?_
  have ht : τ.length = ts.length := W.splitLen (hl.trans hσ.symm)
  refine h.run hb hx σ ts G H _ hl hσ W fun s1 δ1 v1 G1 H1 c1 hl1 W1 => ?_
  rw [List.append_assoc, List.append_assoc] at W1
  refine c1.run hb hx σ (ts ++ [some v1]) G1 H1 _ hl1 hσ W1 fun l δ2 G2 H2 c2 hl2 W2 => ?_
  refine c2.run hb hx σ (ts ++ [some v1]) G2 H2 _ hl2 hσ W2 fun u δ3 G3 H3 c3 hl3 W3 => ?_
  obtain ⟨d, k', es, em, hk⟩ := c3
  have hb' := hb
  rw [em] at hb'
  obtain ⟨d', ed⟩ := op_some hb'
  have em' : m = k' d' := by rw [em, ed]; rfl
  have hk2 := hk d'
  rw [← em'] at hk2
  have W4 : Wd X.K en (δ3 ++ τ ++ [s1]) (σ ++ ts ++ [some v1]) G3 H3 := by
    rw [List.append_assoc, List.append_assoc]; exact W3
  have key : VRep X.K G3 H3 d v1 ∧ (tupD d = true → Rep X.K G3 d v1) := by
    have q := W4.last
    cases s1 with
    | un => cases es
    | mu _ => cases es
    | mp _ _ => cases es
    | bo _ => cases es
    | fr d' =>
      cases es
      obtain ⟨u, eu, r⟩ := q
      cases eu
      exact ⟨VRep.of W3.sub r, fun _ => r⟩
    | bw d' =>
      cases es
      obtain ⟨u, eu, r⟩ := q
      cases eu
      exact ⟨BRep.vv W3.sub W3.frm r, r.2⟩
  have W5 := W4.cut (Δ := δ3 ++ τ) (S := σ ++ ts) (by rw [List.length_append, List.length_append]; omega) (by rw [List.length_append]; omega)
  obtain ⟨r1, r2⟩ := key
  cases d <;> first | cases ed | skip
  · obtain ⟨p, vs, ev, q1, s1'⟩ := r1
    exact .inl ⟨p, vs, ev, SqL.of q1, fz_out W3.sub (cutV_reps s1' l u) fun v G' H' gr out => k _ δ3 v G' H' hk2 hl3 (W5.out gr out)⟩
  · rename_i ds
    obtain ⟨p, vs, ev, q1, s1'⟩ := r2 rfl
    refine .inr ⟨p, vs, ev, SqT.sub W3.sub q1, fun hw => ?_, fun _ => fzT_out W3.sub (cutV_reps s1' l u) fun v G' H' gr out => k _ δ3 v G' H' hk2 hl3 (W5.out gr out)⟩
    have e2 := cut_whole (ds := ds) (lo := l) (hi := u) (by rw [s1'.length]; exact hw)
    rw [e2] at hk2
    subst ev
    exact k _ δ3 _ G3 H3 hk2 hl3 (W5.out (Grow.refl W3.sub) ⟨p, vs, rfl, q1, s1'⟩)
  · rename_i ns
    obtain ⟨p, ev, q1⟩ := r1
    exact .inl ⟨p, _, ev, q1, fz_out W3.sub (cutV_reps (reps_scr (ns := ns)) l u) fun v G' H' gr out => k _ δ3 v G' H' hk2 hl3 (W5.out gr out)⟩
end
end BR

/-! K20: methods that only read -/
namespace BR
open PySem PySem.Spec PyProof.Rows L2

section
variable {X : Cx} {en : Kn} {δ τ : List Slot} {R : Type} {C : Slot → List Slot → Res R → Prop} {m : Res R} {K : PySem.W.Frag}
theorem callD_met {id : String} {r : V → List V → Hp → VK → Prop} {g : List D → Option D} {rs : D → Slot} (h : MtR X id r)
    (k : ∀ ds d, g ds = some d → ∀ (G H : Hp) (vs : List V) (Q : VK), Sub G H → VReps X.K G H ds vs → (∀ v G' H', Grow G H G' H' → Out X.K G H G' H' (rs d) v → Q v H') → ∃ v us, vs = v :: us ∧ r v us H Q) : CallD X (.builtin id) g rs :=
  fun ds d e pins s σ G H vs us Q I sb r1 q1 hq => by
    obtain ⟨v, ws, rfl, q⟩ := k ds d e G H vs Q sb r1 hq
    cases q1 with
    | cons a b => exact h pins s σ H v ws _ _ Q I a b q
/-- the kinds of things whose methods are asked -/
def tyM : D → String → Bool
  | .lst _, T => T == "list"
  | .str _, T => T == "str"
  | .dic _, T => T == "dict"
  | _, _ => false
theorem tyM_v {G H : Hp} {d : D} {v : V} {T : String} (h : tyM d T = true) (r : VRep K G H d v) : tyV K T v H := by
  cases d with
  | lst ds =>
    have e : T = "list" := by simpa [tyM] using h
    obtain ⟨a, vs, rfl, q, _⟩ := r
    exact .inl ⟨e, vs, SqL.of q⟩
  | str x =>
    have e : T = "str" := by simpa [tyM] using h
    have r' : v = .str x := r
    subst r'
    exact e
  | dic kvs =>
    have e : T = "dict" := by simpa [tyM] using h
    obtain ⟨a, kv, rfl, q, _⟩ := r
    exact .inr (.inr (.inl ⟨e, .inl ⟨kv, q⟩⟩))
  | _ => cases h
def tyG (T : String) (d : D) : Option Unit := if tyM d T = true then some () else none
theorem tyG_of {T : String} {d : D} {u : Unit} (h : tyG T d = some u) : tyM d T = true := by
  unfold tyG at h
  by_cases z : tyM d T = true
  · exact z
  · rw [if_neg z] at h; cases h
/-- o.method(args), nothing changed -/
theorem je_met {T id : String} {g : List D → Option D} {rs : D → Slot} {name : Str} {o e : Expr} {es : List Expr} {apos cpos : Pos} (pa : PySem.PlainAttrs T) (slot : PySem.Slot T name id) (hty : typeOf (.builtin id) = pure (.type "method_descriptor")) (hc : CallD X (.builtin id) g rs)
    (h : JE X en δ τ o (fun s1 δ1 m1 => ∃ d0 k0, s1.rd δ1 = some d0 ∧ m1 = op (tyG T d0) k0 ∧ JA X en δ1 (τ ++ [s1]) (e :: es) (fun sls δ2 m2 => ∃ d ds k, s1.rd δ2 = some d ∧ rds δ2 sls = some ds ∧ m2 = op (g (d :: ds)) k ∧ ∀ r, g (d :: ds) = some r → C (rs r) δ2 (k r)) (k0 ())) m)
    (hbase : attributeBase o name X.env (eval o X.env) = eval o X.env := by rfl)
    (hfew : ((backTo cpos (starEach (e :: es) X.env)).all (fun x => !x.1) && (backToKw cpos (keywordEach [] X.env)).all (fun x => x.1.isSome)
      && decide ((e :: es).length + ([] : List Keyword).length + (if ([] : List Keyword).isEmpty then 0 else 1) < 30)) = true := by rfl)
    (hline : (apos.endLine == cpos.line) = true := by rfl) (hs : starEach (e :: es) X.env = (false, eval e X.env) :: starEach es X.env := by exact star_plain rfl) (hplain : (backTo cpos (starEach es X.env)).any (·.1) = false := by rfl) :
    JE X en δ τ (.Call (.Attribute o name apos) (e :: es) [] cpos) C m := .mk fun hb hx σ ts G H Q hl hσ W k => by
  refine we_of (pe_bm (r := fun x xs H Q => ∀ (pins : List (Addr × Obj)) (s : Shared) (σ : L2.St) (v : Value) (us : List Value), Inv X pins σ H s → RelV x v → Vals xs us → wpAny (model X.prog X.w) X.A (call (.builtin id) (v :: us)) (EP X pins σ Q) X.xe s)
    pa slot hty (fun pins s σ H x xs v us Q I r1 r2 q => q pins s σ v us I r1 r2) pe_we pa_wa hbase hfew hline hs hplain) ?_
  have ht : τ.length = ts.length := W.splitLen (hl.trans hσ.symm)
  refine h.run hb hx σ ts G H _ hl hσ W fun s1 δ1 v1 G1 H1 c1 hl1 W1 => ?_
  obtain ⟨d0, k0, e0, em0, c1⟩ := c1
  have hb0 := hb
  rw [em0] at hb0
  obtain ⟨u0, eu0⟩ := op_some hb0
  have t0 : tyM d0 T = true := tyG_of eu0
  have em1 : m = k0 () := by rw [em0, eu0]; rfl
  rw [← em1] at c1
  obtain ⟨⟨_, _, ez, r0, _⟩, _⟩ := Wd.ends (sls := [s1]) (vs := [v1]) W1 (hl1.trans hσ.symm) ht (ds := [d0]) (by simp only [rds, e0])
  cases ez
  refine ⟨tyM_v t0 r0, ?_⟩
  rw [List.append_assoc, List.append_assoc] at W1
  refine c1.run hb hx σ (ts ++ [some v1]) G1 H1 _ hl1 hσ W1 fun sls δ2 vs G2 H2 c2 hl2 W2 => ?_
  obtain ⟨d, ds, k', e1, e2, em, hk⟩ := c2
  have hb' := hb
  rw [em] at hb'
  obtain ⟨r, er⟩ := op_some hb'
  have em' : m = k' r := by rw [em, er]; rfl
  have hk2 := hk r er
  rw [← em'] at hk2
  have W3 : Wd X.K en (δ2 ++ τ ++ (s1 :: sls)) (σ ++ ts ++ (v1 :: vs).map some) G2 H2 := by
    have := W2
    simp only [List.append_assoc, List.map_cons, List.cons_append, List.nil_append] at this ⊢
    exact this
  obtain ⟨r1, Wn⟩ := W3.ends (hl2.trans hσ.symm) ht (ds := d :: ds) (by simp only [rds, e1, e2])
  intro pins s σ' v us I q1 q2
  exact hc (d :: ds) r er pins s σ' G2 H2 (v1 :: vs) (v :: us) Q I W2.sub r1 (.cons q1 q2) fun v G' H' gr out => k (rs r) δ2 v G' H' hk2 hl2 ((Wn (by omega)).out gr out)
/-! ### how often -/
def eqb (k : Bool) (v : Value) : Bool := match v with
  | .bool n => n == k
  | _ => false
def countD : List D → Option D
  | [.lst ds, .bl k] => (bls ds).map fun bs => .int (bs.count k : Nat)
  | [.lst ds, .int k] => (intsD ds).map fun ns => .int (ns.count k : Nat)
  | _ => none
theorem MtR.or {id : String} {r r' : V → List V → Hp → VK → Prop} (h : MtR X id r) (h' : MtR X id r') : MtR X id (fun x xs H Q => r x xs H Q ∨ r' x xs H Q) := fun pins s σ H x xs v us Q I r1 r2 q => by
  rcases q with q | q
  · exact h pins s σ H x xs v us Q I r1 r2 q
  · exact h' pins s σ H x xs v us Q I r1 r2 q
end
end BR

set_option maxHeartbeats 1000000
/-! K21: zip of a tuple and a list, either way -/
namespace BR
open PySem PySem.Spec PyProof.Rows L2

/-- an iterator of a tuple (true) or a list -/
def Cur (t : Bool) (h : Heap) (it l : Addr) (i : Nat) : Prop := match t with
  | true => h.IsTupleIter it l i
  | false => h.IsListIter it l i
def Src (t : Bool) (h : Heap) (l : Addr) (xs : Array Value) : Prop := match t with
  | true => h.IsTuple l xs
  | false => h.IsList l xs
section
variable {t t2 : Bool} {h h' : Heap} {a b l : Addr} {i : Nat} {xs : Array Value}
theorem Cur.but (x : Cur t h a l i) (hs : Heap.ExtBut b h h') (n : a ≠ b) : Cur t h' a l i := by
  cases t
  · exact Heap.IsListIter.extBut x hs n
  · exact Heap.IsTupleIter.extBut x hs n
theorem Cur.on (x : Cur t h a l i) (e : ∀ o, h.get? a = some o → h'.get? a = some o) : Cur t h' a l i := by
  cases t
  · exact Heap.IsListIter.at x e
  · exact Heap.IsTupleIter.at x e
theorem Cur.ob (x : Cur t h a l i) : ∃ o, h.get? a = some o ∧ ∀ v, o.data ≠ .cell v := by
  cases t
  · obtain ⟨o, e, _, d⟩ := x; exact ⟨o, e, fun v q => by rw [d] at q; cases q⟩
  · obtain ⟨o, e, _, d⟩ := x; exact ⟨o, e, fun v q => by rw [d] at q; cases q⟩
theorem Cur.lt (x : Cur t h a l i) : a < h.objs.size := by
  obtain ⟨o, e, _⟩ := x.ob; exact Heap.lt_size e
theorem Src.but (x : Src t h a xs) (hs : Heap.ExtBut b h h') (n : a ≠ b) : Src t h' a xs := by
  cases t
  · exact Heap.IsList.extBut x hs n
  · exact Heap.IsTuple.extBut x hs n
theorem Src.lt (x : Src t h a xs) : a < h.objs.size := by
  cases t
  · obtain ⟨o, e, _⟩ := x; exact Heap.lt_size e
  · obtain ⟨o, e, _⟩ := x; exact Heap.lt_size e
end
section
variable {prog : Program} {w : World} {A : Around} {E : Value → Shared → Prop} {s : Shared} {t t2 : Bool}
theorem cur_next {it l : Addr} {i : Nat} {xs : Array Value} {x : Value} {Q : Value → Shared → Prop} (hit : Cur t s.heap it l i) (hl : Src t s.heap l xs) (hx : xs[i]? = some x)
    (hQ : ∀ h', Cur t h' it l (i + 1) → Heap.SameBut it s.heap h' → Q x { s with heap := h' }) : wpAny (model prog w) A (Builtin.SmallTypes.nextOf (.ref it)) Q E s := by
  cases t
  · exact wpAny_nextOf_list_item hit hl hx hQ
  · exact RZ.nextOf_tuple_item hit hl hx hQ
theorem cur_stop {it l : Addr} {i : Nat} {xs : Array Value} {Q : Value → Shared → Prop} (hh : A.handled = none) (hit : Cur t s.heap it l i) (hl : Src t s.heap l xs) (hx : xs[i]? = none)
    (hE : ∀ h' e, Heap.ExtBut it s.heap h' → (∃ o, h'.get? e = some o ∧ o.cls = .type "StopIteration") → E (.ref e) { s with heap := h' }) : wpAny (model prog w) A (Builtin.SmallTypes.nextOf (.ref it)) Q E s := by
  cases t
  · exact wpAny_nextOf_list_end hh hit hl hx hE
  · exact RZ.nextOf_tuple_end hh hit hl hx hE
/-- all but four addresses as they were -/
abbrev But4 (z b c d : Addr) (h h' : Heap) : Prop := ∀ e o, e ≠ z → e ≠ b → e ≠ c → e ≠ d → h.get? e = some o → h'.get? e = some o
theorem zip_turn {z TI TO i1 i2 l1 l2 : Addr} {k : Nat} {xs ys : Array Value} {x y a b : Value} {Q : Value → Shared → Prop} (D : ZipApart z TI TO i1 i2 l1 l2)
    (hz : IsZip s.heap z TI TO .none) (hTI : IsPair s.heap TI (.ref i1) (.ref i2)) (hTO : IsPair s.heap TO a b)
    (c1 : Cur t s.heap i1 l1 k) (c2 : Cur t2 s.heap i2 l2 k) (r1 : Src t s.heap l1 xs) (r2 : Src t2 s.heap l2 ys) (hx : xs[k]? = some x) (hy : ys[k]? = some y)
    (hQ : ∀ h', IsZip h' z TI TO (rawInt s.heap.objs.size) → IsPair h' TO x y → Cur t h' i1 l1 (k + 1) → Cur t2 h' i2 l2 (k + 1) → IsPair h' s.heap.objs.size x y → h'.objs.size = s.heap.objs.size + 1 → But4 z TO i1 i2 s.heap h' → Q (.ref s.heap.objs.size) { s with heap := h' }) :
    wpAny (model prog w) A (Builtin.«zip.__next__» ⟨[.ref z], []⟩) (fun fin s' => ∃ v, fin = .done (.ret v) ∧ Q v s') E s := by
  show wpAny _ _ (field (.ref z) 2 >>= _) _ _ _
  refine wpAny_bind (wpAny_field hz rfl (x := .bool false) rfl ?_)
  show wpAny _ _ (field (.ref z) 3 >>= _) _ _ _
  refine wpAny_bind (wpAny_field hz rfl (x := .ref TI) rfl (wpAny_bind (wpAny_seqItems hTI rfl ?_)))
  show wpAny _ _ (Builtin.SmallTypes.ownedTupleIsFree (.ref z) >>= _) _ _ _
  refine wpAny_bind ?_
  unfold Builtin.SmallTypes.ownedTupleIsFree
  refine wpAny_bind (wpAny_field hz rfl (x := .none) rfl (wpAny_pure ?_))
  simp only [if_true]
  refine wpAny_bind (wpAny_rule (wpAny_bind (wpAny_field hz rfl (x := .ref TO) rfl (wpAny_bind (wpAny_setField_rec hz (by simp) fun ha za sa => ?_)))))
  replace za : IsZip ha z TI TO .ellipsis := za
  refine wpAny_bind ?_
  simp only [List.zipIdx_cons, List.zipIdx_nil, List.forIn_cons, List.forIn_nil]
  refine wpAny_bind (wpAny_bind (wpAny_onRaise ?_))
  show wpAny _ _ (Builtin.SmallTypes.nextOf (.ref i1) >>= _) _ _ _
  refine wpAny_bind (cur_next (c1.but sa.extBut D.i1z) (r1.but sa.extBut D.l1z) hx fun hb cb sb => wpAny_pure ?_)
  have ob : IsPair hb TO a b := sb.extBut _ _ D.TOi1 (sa.extBut _ _ D.TOz hTO)
  refine wpAny_bind (wpAny_seqItems ob rfl (wpAny_bind (wpAny_updateSeq_pair ob fun hc oc sc => ?_)))
  replace oc : IsPair hc TO x b := oc
  refine wpAny_bind (wpAny_letGo (wpAny_pure (wpAny_bind (wpAny_bind (wpAny_onRaise ?_)))))
  show wpAny _ _ (Builtin.SmallTypes.nextOf (.ref i2) >>= _) _ _ _
  refine wpAny_bind (cur_next (((c2.but sa.extBut D.i2z).but sb.extBut D.i12.symm).but sc.extBut D.TOi2.symm) (((r2.but sa.extBut D.l2z).but sb.extBut D.l2i1).but sc.extBut D.l2TO) hy fun hd cd sd => wpAny_pure ?_)
  have od : IsPair hd TO x b := sd.extBut _ _ D.TOi2 oc
  refine wpAny_bind (wpAny_seqItems od rfl (wpAny_bind (wpAny_updateSeq_pair od fun he oe se => ?_)))
  replace oe : IsPair he TO x y := oe
  refine wpAny_bind (wpAny_letGo (wpAny_pure (wpAny_pure (wpAny_bind (wpAny_seqItems oe rfl (wpAny_bind (wpAny_newTuple ?_)))))))
  have sz : he.objs.size = s.heap.objs.size := by rw [se.1, sd.1, sc.1, sb.1, sa.1]
  have ze : IsZip he z TI TO .ellipsis := se.extBut _ _ D.TOz.symm (sd.extBut _ _ D.i2z.symm (sc.extBut _ _ D.TOz.symm (sb.extBut _ _ D.i1z.symm za)))
  have ke : But4 z TO i1 i2 s.heap he := fun c o q1 q2 q3 q4 e => se.extBut _ _ q2 (sd.extBut _ _ q4 (sc.extBut _ _ q2 (sb.extBut _ _ q3 (sa.extBut _ _ q1 e))))
  have e1 : Cur t he i1 l1 (k + 1) := ((cb.but sc.extBut D.TOi1.symm).but sd.extBut D.i12).but se.extBut D.TOi1.symm
  have e2 : Cur t2 he i2 l2 (k + 1) := cd.but se.extBut D.TOi2.symm
  have zl : z < he.objs.size := Heap.lt_size ze
  show wpAny _ _ (Builtin.SmallTypes.ownedTupleHandOut (.ref z) (.ref he.objs.size) >>= _) _ _ _
  refine wpAny_bind ?_
  unfold Builtin.SmallTypes.ownedTupleHandOut
  have zf : IsZip (he.push { cls := .type "tuple", data := .seq #[x, y] }) z TI TO .ellipsis := Heap.get?_push_of_some _ ze
  refine wpAny_bind (wpAny_setField_rec zf (by simp) fun hg zg sg => ?_)
  replace zg : IsZip hg z TI TO (rawInt he.objs.size) := zg
  refine wpAny_setField_rec zg (by simp) fun hk zk sk => ?_
  replace zk : IsZip hk z TI TO (rawInt he.objs.size) := zk
  have up : ∀ c o, c ≠ z → he.get? c = some o → hk.get? c = some o := fun c o q e => sk.extBut _ _ q (sg.extBut _ _ q (Heap.get?_push_of_some _ e))
  have tk : IsPair hk he.objs.size x y := sk.extBut _ _ (Nat.ne_of_gt zl) (sg.extBut _ _ (Nat.ne_of_gt zl) (Heap.get?_push_size _ rfl))
  have nk : hk.objs.size = he.objs.size + 1 := by rw [sk.1, sg.1, Heap.size_push]
  rw [sz] at zk tk nk
  refine wpAny_pure ⟨_, rfl, ?_⟩
  show Q (.ref he.objs.size) _
  rw [sz]
  exact hQ hk zk (up _ _ D.TOz oe) (e1.on fun o e => up _ o D.i1z e) (e2.on fun o e => up _ o D.i2z e) tk nk fun c o q1 q2 q3 q4 e => up c o q1 (ke c o q1 q2 q3 q4 e)
theorem zip_over {z TI TO i1 i2 l1 l2 : Addr} {k : Nat} {xs ys : Array Value} {a b : Value} {Q : Fin → Shared → Prop} (hh : A.handled = none) (D : ZipApart z TI TO i1 i2 l1 l2)
    (hz : IsZip s.heap z TI TO .none) (hTI : IsPair s.heap TI (.ref i1) (.ref i2)) (hTO : IsPair s.heap TO a b)
    (c1 : Cur t s.heap i1 l1 k) (c2 : Cur t2 s.heap i2 l2 k) (r1 : Src t s.heap l1 xs) (r2 : Src t2 s.heap l2 ys) (hend : xs[k]? = none ∨ ys[k]? = none)
    (hE : ∀ h' e, But4 z TO i1 i2 s.heap h' → (∃ o, h'.get? e = some o ∧ o.cls = .type "StopIteration") → E (.ref e) { s with heap := h' }) :
    wpAny (model prog w) A (Builtin.«zip.__next__» ⟨[.ref z], []⟩) Q E s := by
  show wpAny _ _ (field (.ref z) 2 >>= _) _ _ _
  refine wpAny_bind (wpAny_field hz rfl (x := .bool false) rfl ?_)
  show wpAny _ _ (field (.ref z) 3 >>= _) _ _ _
  refine wpAny_bind (wpAny_field hz rfl (x := .ref TI) rfl (wpAny_bind (wpAny_seqItems hTI rfl ?_)))
  show wpAny _ _ (Builtin.SmallTypes.ownedTupleIsFree (.ref z) >>= _) _ _ _
  refine wpAny_bind ?_
  unfold Builtin.SmallTypes.ownedTupleIsFree
  refine wpAny_bind (wpAny_field hz rfl (x := .none) rfl (wpAny_pure ?_))
  simp only [if_true]
  refine wpAny_bind (wpAny_rule (wpAny_bind (wpAny_field hz rfl (x := .ref TO) rfl (wpAny_bind (wpAny_setField_rec hz (by simp) fun ha za sa => ?_)))))
  replace za : IsZip ha z TI TO .ellipsis := za
  refine wpAny_bind ?_
  simp only [List.zipIdx_cons, List.zipIdx_nil, List.forIn_cons, List.forIn_nil]
  refine wpAny_bind (wpAny_bind (wpAny_onRaise ?_))
  show wpAny _ _ (Builtin.SmallTypes.nextOf (.ref i1) >>= _) _ _ _
  cases hx : xs[k]? with
  | none =>
    refine wpAny_bind (cur_stop hh (c1.but sa.extBut D.i1z) (r1.but sa.extBut D.l1z) hx fun hb e kb he => ?_)
    obtain ⟨oe, g1, g2⟩ := he
    have zb : IsZip hb z TI TO .ellipsis := kb _ _ D.i1z.symm za
    have ne : e ≠ z := fun q => by subst q; rw [zb] at g1; cases g1; simp at g2
    refine wpAny_setField_rec zb (by simp) fun hc _ sc => hE hc e (fun c o q1 q2 q3 _ q => sc.extBut _ _ q1 (kb _ _ q3 (sa.extBut _ _ q1 q))) ⟨oe, sc.extBut _ _ ne g1, g2⟩
  | some x =>
    have hy : ys[k]? = none := by
      rcases hend with q | q
      · rw [hx] at q; cases q
      · exact q
    refine wpAny_bind (cur_next (c1.but sa.extBut D.i1z) (r1.but sa.extBut D.l1z) hx fun hb cb sb => wpAny_pure ?_)
    have ob : IsPair hb TO a b := sb.extBut _ _ D.TOi1 (sa.extBut _ _ D.TOz hTO)
    refine wpAny_bind (wpAny_seqItems ob rfl (wpAny_bind (wpAny_updateSeq_pair ob fun hc oc sc => ?_)))
    refine wpAny_bind (wpAny_letGo (wpAny_pure (wpAny_bind (wpAny_bind (wpAny_onRaise ?_)))))
    show wpAny _ _ (Builtin.SmallTypes.nextOf (.ref i2) >>= _) _ _ _
    refine wpAny_bind (cur_stop hh (((c2.but sa.extBut D.i2z).but sb.extBut D.i12.symm).but sc.extBut D.TOi2.symm) (((r2.but sa.extBut D.l2z).but sb.extBut D.l2i1).but sc.extBut D.l2TO) hy fun hd e kd he => ?_)
    obtain ⟨oe, g1, g2⟩ := he
    have zd : IsZip hd z TI TO .ellipsis := kd _ _ D.i2z.symm (sc.extBut _ _ D.TOz.symm (sb.extBut _ _ D.i1z.symm za))
    have ne : e ≠ z := fun q => by subst q; rw [zd] at g1; cases g1; simp at g2
    refine wpAny_setField_rec zd (by simp) fun he' _ se => hE he' e (fun c o q1 q2 q3 q4 q => se.extBut _ _ q1 (kd _ _ q4 (sc.extBut _ _ q2 (sb.extBut _ _ q3 (sa.extBut _ _ q1 q))))) ⟨oe, se.extBut _ _ ne g1, g2⟩
theorem zip_nx {z TI TO i1 i2 l1 l2 : Addr} {k : Nat} {xs ys : Array Value} {x y a b : Value} {Q : Option Value → Shared → Prop} (D : ZipApart z TI TO i1 i2 l1 l2)
    (hz : IsZip s.heap z TI TO .none) (hTI : IsPair s.heap TI (.ref i1) (.ref i2)) (hTO : IsPair s.heap TO a b)
    (c1 : Cur t s.heap i1 l1 k) (c2 : Cur t2 s.heap i2 l2 k) (r1 : Src t s.heap l1 xs) (r2 : Src t2 s.heap l2 ys) (hx : xs[k]? = some x) (hy : ys[k]? = some y)
    (hQ : ∀ h', IsZip h' z TI TO (rawInt s.heap.objs.size) → IsPair h' TO x y → Cur t h' i1 l1 (k + 1) → Cur t2 h' i2 l2 (k + 1) → IsPair h' s.heap.objs.size x y → h'.objs.size = s.heap.objs.size + 1 → But4 z TO i1 i2 s.heap h' → Q (some (.ref s.heap.objs.size)) { s with heap := h' }) :
    wpAny (model prog w) A (pyNext (.ref z)) Q E s := by
  have hT : s.TypeIs (.ref z) "zip" := ⟨_, hz, rfl⟩
  unfold pyNext
  exact wpAny_bind (wpAny_attempt (wpAny_callSpecial?_slot (name := Str.ofString "__next__") hT PySem.F.slot_zip_next (wpAny_call_entry PySem.F.slot_zip_next hT PySem.F.entry_zip_next (zip_turn D hz hTI hTO c1 c2 r1 r2 hx hy fun h' a1 a2 a3 a4 a5 a6 a7 => wpAny_pure (hQ h' a1 a2 a3 a4 a5 a6 a7)) (PySem.F.args_zip_next_1 _))))
theorem zip_nxe {z TI TO i1 i2 l1 l2 : Addr} {k : Nat} {xs ys : Array Value} {a b : Value} {Q : Option Value → Shared → Prop} (hh : A.handled = none) (D : ZipApart z TI TO i1 i2 l1 l2)
    (hz : IsZip s.heap z TI TO .none) (hTI : IsPair s.heap TI (.ref i1) (.ref i2)) (hTO : IsPair s.heap TO a b)
    (c1 : Cur t s.heap i1 l1 k) (c2 : Cur t2 s.heap i2 l2 k) (r1 : Src t s.heap l1 xs) (r2 : Src t2 s.heap l2 ys) (hend : xs[k]? = none ∨ ys[k]? = none)
    (hQ : ∀ h', But4 z TO i1 i2 s.heap h' → Q none { s with heap := h' }) : wpAny (model prog w) A (pyNext (.ref z)) Q E s := by
  have hT : s.TypeIs (.ref z) "zip" := ⟨_, hz, rfl⟩
  unfold pyNext
  refine wpAny_bind (wpAny_attempt (wpAny_callSpecial?_slot (name := Str.ofString "__next__") hT PySem.F.slot_zip_next (wpAny_call_entry PySem.F.slot_zip_next hT PySem.F.entry_zip_next (zip_over hh D hz hTI hTO c1 c2 r1 r2 hend fun h' e hk he => ?_) (PySem.F.args_zip_next_1 _))))
  obtain ⟨o, ho, hc⟩ := he
  exact wpAny_bind (wpAny_isInstance (T := "StopIteration") (b := true) ⟨o, ho, hc⟩ isSubtype_stop (wpAny_pure (hQ _ hk)))
end
/-- the iterator that a list or a tuple gives -/
abbrev curO (t : Bool) (l : Addr) : Obj := { cls := .type (if t = true then "tuple_iterator" else "list_iterator"), data := .fields #[.ref l, .int 0 0] }
abbrev zh1 (t : Bool) (h : Heap) (l1 : Addr) : Heap := h.push (curO t l1)
abbrev zh2 (t t2 : Bool) (h : Heap) (l1 l2 : Addr) : Heap := (zh1 t h l1).push (curO t2 l2)
abbrev zh3 (t t2 : Bool) (h : Heap) (l1 l2 : Addr) : Heap := (zh2 t t2 h l1 l2).push { cls := .type "tuple", data := .seq #[.ref h.objs.size, .ref (zh1 t h l1).objs.size] }
abbrev zh4 (t t2 : Bool) (h : Heap) (l1 l2 : Addr) : Heap := (zh3 t t2 h l1 l2).push { cls := .type "tuple", data := .seq #[.none, .none] }
abbrev zh5 (t t2 : Bool) (h : Heap) (l1 l2 : Addr) : Heap := (zh4 t t2 h l1 l2).push { cls := .type "zip", data := .fields #[.none, .bool false, .bool false, .ref (zh2 t t2 h l1 l2).objs.size, .ref (zh3 t t2 h l1 l2).objs.size] }
theorem zip_makeTL (l1 l2 : Addr) (xs ys : Array Value) :
    Meets (Builtin.«zip.__new__» ⟨[.type "zip", .ref l1, .ref l2], []⟩) (fun _ R s => s.heap.IsTuple l1 xs ∧ s.heap.IsList l2 ys ∧ R (.ok (.ret (.ref (zh4 true false s.heap l1 l2).objs.size))) { s with heap := zh5 true false s.heap l1 l2 }) :=
  .of_wp fun prog w A R s q => by
    obtain ⟨hp, g, d, tk, os⟩ := s; obtain ⟨q1, q2, q⟩ := q
    have hsub := sub_zip
    have r1 : Heap.IsTuple (Shared.heap ⟨hp, g, d, tk, os⟩) l1 xs := q1
    have r2 : Heap.IsList (Shared.heap ⟨hp.push { cls := .type "tuple_iterator", data := .fields #[.ref l1, .int 0 0] }, g, d, tk, os⟩) l2 ys := Heap.IsList.push q2 _
    wp_walk using wpAny_pyIter_tuple r1, wpAny_pyIter_list r2
    exact ⟨_, rfl, q⟩
theorem zip_makeLT (l1 l2 : Addr) (xs ys : Array Value) :
    Meets (Builtin.«zip.__new__» ⟨[.type "zip", .ref l1, .ref l2], []⟩) (fun _ R s => s.heap.IsList l1 xs ∧ s.heap.IsTuple l2 ys ∧ R (.ok (.ret (.ref (zh4 false true s.heap l1 l2).objs.size))) { s with heap := zh5 false true s.heap l1 l2 }) :=
  .of_wp fun prog w A R s q => by
    obtain ⟨hp, g, d, tk, os⟩ := s; obtain ⟨q1, q2, q⟩ := q
    have hsub := sub_zip
    have r1 : Heap.IsList (Shared.heap ⟨hp, g, d, tk, os⟩) l1 xs := q1
    have r2 : Heap.IsTuple (Shared.heap ⟨hp.push { cls := .type "list_iterator", data := .fields #[.ref l1, .int 0 0] }, g, d, tk, os⟩) l2 ys := Heap.IsTuple.push q2 _
    wp_walk using wpAny_pyIter_list r1, wpAny_pyIter_tuple r2
    exact ⟨_, rfl, q⟩
section
variable {prog : Program} {w : World} {A : Around} {E : Value → Shared → Prop} {s : Shared}
theorem zip_call (t : Bool) {l1 l2 : Addr} {xs ys : Array Value} {Q : Value → Shared → Prop} (r1 : Src t s.heap l1 xs) (r2 : Src (!t) s.heap l2 ys)
    (h : ∀ h', IsZip h' (s.heap.objs.size + 4) (s.heap.objs.size + 2) (s.heap.objs.size + 3) .none → IsPair h' (s.heap.objs.size + 2) (.ref s.heap.objs.size) (.ref (s.heap.objs.size + 1)) → IsPair h' (s.heap.objs.size + 3) .none .none →
      Cur t h' s.heap.objs.size l1 0 → Cur (!t) h' (s.heap.objs.size + 1) l2 0 → (∀ c o, s.heap.get? c = some o → h'.get? c = some o) → Q (.ref (s.heap.objs.size + 4)) { s with heap := h' }) :
    wpAny (model prog w) A (call (.type "zip") [.ref l1, .ref l2]) Q E s := by
  have fin : ∃ obj : Obj, obj.cls = .type "zip" ∧ True := ⟨{ cls := .type "zip", data := .fields #[] }, rfl, trivial⟩
  have z1 : (zh1 t s.heap l1).objs.size = s.heap.objs.size + 1 := Heap.size_push ..
  have z2 : (zh2 t (!t) s.heap l1 l2).objs.size = s.heap.objs.size + 2 := by rw [Heap.size_push, z1]
  have z3 : (zh3 t (!t) s.heap l1 l2).objs.size = s.heap.objs.size + 3 := by rw [Heap.size_push, z2]
  have z4 : (zh4 t (!t) s.heap l1 l2).objs.size = s.heap.objs.size + 4 := by rw [Heap.size_push, z3]
  have g5 : (zh5 t (!t) s.heap l1 l2).get? (zh4 t (!t) s.heap l1 l2).objs.size = some _ := Heap.get?_push_size _ rfl
  have g4 : (zh5 t (!t) s.heap l1 l2).get? (zh3 t (!t) s.heap l1 l2).objs.size = some _ := Heap.get?_push_of_some _ (Heap.get?_push_size _ rfl)
  have g3 : (zh5 t (!t) s.heap l1 l2).get? (zh2 t (!t) s.heap l1 l2).objs.size = some _ := Heap.get?_push_of_some _ (Heap.get?_push_of_some _ (Heap.get?_push_size _ rfl))
  have g2 : (zh5 t (!t) s.heap l1 l2).get? (zh1 t s.heap l1).objs.size = some _ := Heap.get?_push_of_some _ (Heap.get?_push_of_some _ (Heap.get?_push_of_some _ (Heap.get?_push_size _ rfl)))
  have g1 : (zh5 t (!t) s.heap l1 l2).get? s.heap.objs.size = some _ := Heap.get?_push_of_some _ (Heap.get?_push_of_some _ (Heap.get?_push_of_some _ (Heap.get?_push_of_some _ (Heap.get?_push_size _ rfl))))
  have last : (∃ o, (zh5 t (!t) s.heap l1 l2).get? (zh4 t (!t) s.heap l1 l2).objs.size = some o ∧ o.cls = .type "zip") ∧ Q (.ref (zh4 t (!t) s.heap l1 l2).objs.size) { s with heap := zh5 t (!t) s.heap l1 l2 } := by
    refine ⟨⟨_, g5, rfl⟩, ?_⟩
    rw [z2, z3, z4] at g5
    rw [z1, z2] at g3
    rw [z3] at g4
    rw [z1] at g2
    rw [z4]
    refine h _ g5 g3 g4 ?_ ?_ fun c o x => Heap.get?_push_of_some _ (Heap.get?_push_of_some _ (Heap.get?_push_of_some _ (Heap.get?_push_of_some _ (Heap.get?_push_of_some _ x))))
    · cases t <;> exact ⟨_, g1, rfl, rfl⟩
    · cases t <;> exact ⟨_, g2, rfl, rfl⟩
  cases t
  · exact callType_new PySem.F.called_zip (by decide) (PySem.F.typeCall_zip_2 _ _) (PySem.F.newCall_zip_2 _ _) (fun obj => PySem.F.args_object_init_3 obj _ _) PySem.F.entry_zip_new (zip_makeLT l1 l2 xs ys) ⟨r1, r2, last⟩
  · exact callType_new PySem.F.called_zip (by decide) (PySem.F.typeCall_zip_2 _ _) (PySem.F.newCall_zip_2 _ _) (fun obj => PySem.F.args_object_init_3 obj _ _) PySem.F.entry_zip_new (zip_makeTL l1 l2 xs ys) ⟨r1, r2, last⟩
end
/-- what stands at a, a tuple (true) or a list -/
def SqX (t : Bool) (K : PySem.W.Frag) (H : Hp) (a : Addr) (xs : List V) : Prop := match t with
  | true => SqT K H a xs
  | false => SqL K H a xs
def ItzX (t t2 : Bool) (K : PySem.W.Frag) (a b : Addr) : It :=
  ⟨fun i H => ∃ (xs ys : List V) (x y : V), SqX t K H a xs ∧ SqX t2 K H b ys ∧ xs[i]? = some x ∧ ys[i]? = some y,
    fun i H v H' => ∃ T x y, v = .ref T ∧ H T = none ∧ H' = upd H T (.tup [x, y]) ∧ (∀ xs, SqX t K H a xs → xs[i]? = some x) ∧ ∀ ys, SqX t2 K H b ys → ys[i]? = some y,
    fun i H => ∃ xs ys : List V, SqX t K H a xs ∧ SqX t2 K H b ys ∧ (xs.length ≤ i ∨ ys.length ≤ i)⟩
theorem sqx_src {t : Bool} {X : Cx} {pins : List (Addr × Obj)} {σ : L2.St} {H : Hp} {s : Shared} (I : Inv X pins σ H s) {a : Addr} {xs : List V} (h : SqX t X.K H a xs) : ∃ its, Vals xs its ∧ Src t s.heap a its.toArray := by
  cases t
  · obtain ⟨its, rv, p, _⟩ := I.list h
    exact ⟨its, rv, p.isList⟩
  · obtain ⟨its, rv, p, _⟩ := I.tuple h
    exact ⟨its, rv, p⟩
theorem sqx_inj {t : Bool} {X : Cx} {pins : List (Addr × Obj)} {σ : L2.St} {H : Hp} {s : Shared} (I : Inv X pins σ H s) {a : Addr} {xs ys : List V} (h : SqX t X.K H a xs) (g : SqX t X.K H a ys) : xs = ys := by
  cases t
  · exact I.list_inj h g
  · exact I.tuple_inj h g
theorem five {c z TI TO i1 i2 : Addr} (h : c ∈ [z, TI, TO, i1, i2]) : c = z ∨ c = TI ∨ c = TO ∨ c = i1 ∨ c = i2 := by simpa using h
theorem turn_zipX {t t2 : Bool} {P : Program} {w : World} {K : PySem.W.Frag} {elts : List Expr} {kk : Nat} {tpos : Pos} {a b z TI TO i1 i2 : Addr} (D : ZipApart z TI TO i1 i2 a b) :
    Turn P w K (.Tuple elts kk tpos) (ItzX t t2 K a b) [z, TI, TO, i1, i2] z (fun i h => IsZip h z TI TO .none ∧ IsPair h TI (.ref i1) (.ref i2) ∧ (∃ x y, IsPair h TO x y) ∧ Cur t h i1 a i ∧ Cur t2 h i2 b i) where
  mem := List.mem_cons_self
  obj := fun i h st c hc => by
    obtain ⟨hz, hTI, ⟨x, y, hTO⟩, c1, c2⟩ := st
    rcases five hc with rfl | rfl | rfl | rfl | rfl
    · exact ⟨_, hz, fun v q => nomatch q⟩
    · exact ⟨_, hTI, fun v q => nomatch q⟩
    · exact ⟨_, hTO, fun v q => nomatch q⟩
    · exact c1.ob
    · exact c2.ob
  keep := fun i h h' st k => by
    obtain ⟨hz, hTI, ⟨x, y, hTO⟩, c1, c2⟩ := st
    exact ⟨k z (by simp) _ hz, k TI (by simp) _ hTI, ⟨x, y, k TO (by simp) _ hTO⟩, c1.on fun o q => k i1 (by simp) o q, c2.on fun o q => k i2 (by simp) o q⟩
  item := by
    intro X hP hw hK hc i pins s σ H E I hf st hg
    subst hP hw hK
    obtain ⟨hz, hTI, ⟨x0, y0, hTO⟩, c1, c2⟩ := st
    obtain ⟨xs, ys, x, y, qx, qy, hx, hy⟩ := hg
    obtain ⟨its, rv, r1⟩ := sqx_src I qx
    obtain ⟨jts, rw', r2⟩ := sqx_src I qy
    obtain ⟨u, hu, ru⟩ := rv.get hx
    obtain ⟨u2, hu2, ru2⟩ := rw'.get hy
    have zl : z < s.heap.objs.size := Heap.lt_size hz
    refine zip_nx D hz hTI hTO c1 c2 r1 r2 (x := u) (y := u2) (by simpa using hu) (by simpa using hu2) fun ha za oa ca cb ta na ka => ?_
    refine ⟨_, rfl, wpAny_letOwnedTupleGo_zip (s := { s with heap := ha }) za fun hb zb sb => ?_⟩
    have tb : hb.get? s.heap.objs.size = some { cls := .type "tuple", data := .seq #[u, u2] } := (sb.2 _ (Nat.ne_of_gt zl)).trans ta
    have new : ObjOk X.prog X.w (upd H s.heap.objs.size (.tup [x, y])) hb s.heap.objs.size (.tup [x, y]) := ⟨by show 2 ≤ sizeLine; decide, [u, u2], .cons ru (.cons ru2 .nil), ⟨_, tb, rfl, _, rfl⟩⟩
    have kk : ∀ c o, c ∉ [z, TI, TO, i1, i2] → s.heap.get? c = some o → hb.get? c = some o := fun c o hb' q =>
      (sb.2 c (fun e => hb' (by simp [e]))).trans (ka c o (fun e => hb' (by simp [e])) (fun e => hb' (by simp [e])) (fun e => hb' (by simp [e])) (fun e => hb' (by simp [e])) q)
    have I1 : Inv X pins σ (upd H s.heap.objs.size (.tup [x, y])) { s with heap := hb } := I.turnedNew (t' := s.toks) (ch := [z, TI, TO, i1, i2]) kk hf (Nat.le_refl _) new
    refine ⟨.ref s.heap.objs.size, _, I1, rfl, ⟨_, x, y, rfl, I.hok.fresh (Nat.le_refl _), rfl, fun l hl => by rw [sqx_inj I hl qx]; exact hx, fun l hl => by rw [sqx_inj I hl qy]; exact hy⟩, ⟨zb, ?_, ⟨u, u2, ?_⟩, ?_, ?_⟩, fun c hcm => ?_⟩
    · exact (sb.2 _ D.TIz).trans (ka _ _ D.TIz D.TITO D.TIi1 D.TIi2 hTI)
    · exact (sb.2 _ D.TOz).trans oa
    · exact ca.on fun o q => (sb.2 _ D.i1z).trans q
    · exact cb.on fun o q => (sb.2 _ D.i2z).trans q
    · have hlt : c < s.heap.objs.size := by
        rcases five hcm with q | q | q | q | q <;> rw [q]
        · exact zl
        · exact Heap.lt_size hTI
        · exact Heap.lt_size hTO
        · exact c1.lt
        · exact c2.lt
      rw [upd_ne (Nat.ne_of_lt hlt)]
      exact (hf c hcm).1
  done := by
    intro X hP hw hK hc i pins s σ H E I hf st hg
    subst hP hw hK
    obtain ⟨hz, hTI, ⟨x0, y0, hTO⟩, c1, c2⟩ := st
    obtain ⟨xs, ys, qx, qy, hend⟩ := hg
    obtain ⟨its, rv, r1⟩ := sqx_src I qx
    obtain ⟨jts, rw', r2⟩ := sqx_src I qy
    have n1 := rv.length
    have n2 := rw'.length
    have he : its.toArray[i]? = none ∨ jts.toArray[i]? = none := by
      rcases hend with q | q
      · exact .inl (by simp; omega)
      · exact .inr (by simp; omega)
    exact zip_nxe (I.ok.hd hc) D hz hTI hTO c1 c2 r1 r2 he fun ha ka => ⟨rfl, I.turnedL (t' := s.toks) (ch := [z, TI, TO, i1, i2]) (fun c o hb q =>
      ka c o (fun e => hb (by simp [e])) (fun e => hb (by simp [e])) (fun e => hb (by simp [e])) (fun e => hb (by simp [e])) q) hf⟩
  self := fun A i s Q E st h => wpAny_pyIter_zip st.1 h
def iZipX (K : PySem.W.Frag) (ta : TA) : TI := fun σ H R => ta σ H fun vs H1 => ∃ a b xs ys t t2, vs = [.ref a, .ref b] ∧ SqX t K H1 a xs ∧ SqX t2 K H1 b ys ∧ R (ItzX t t2 K a b) H1
theorem pi_zipX {X : Cx} {e e2 : Expr} {ta : TA} {p pos tpos : Pos} {elts : List Expr} {kk : Nat} (hg : Gl X "zip") (hm : X.mg "zip" = none) (ha : PA X [e, e2] ta)
    (hs : starEach [e, e2] X.env = (false, eval e X.env) :: starEach [e2] X.env := by rfl) (hpl : (backTo pos (starEach [e2] X.env)).any (·.1) = false := by rfl) :
    PI X (.Tuple elts kk tpos) (.Call (.Name "zip" p) [e, e2] [] pos) (iZipX X.K ta) := by
  refine ⟨fun pins s σ H R I h => ?_⟩
  refine Call_ (ld_blt I hg hm PyProof.Rows.boot_zip (PyProof.Rows.callWith_type1 (thn (ha.run pos pins s σ H _ I h) fun us s1 ⟨vs, H1, I1, r1, q1⟩ => ?_) hs hpl))
  obtain ⟨a, b, xs, ys, t, t2, rfl, qx, qy, q⟩ := q1
  obtain ⟨rfl⟩ : us = [.ref a, .ref b] := by
    cases r1 with
    | cons r rr =>
      cases rr with
      | cons r' rr =>
        cases rr
        cases r
        cases r'
        rfl
  · have fresh : ∀ c, c ∈ [s1.heap.objs.size + 4, s1.heap.objs.size + 2, s1.heap.objs.size + 3, s1.heap.objs.size, s1.heap.objs.size + 1] → FpOk X pins H1 c := fun c hcm => by
      have hle : s1.heap.objs.size ≤ c := by
        rcases five hcm with z | z | z | z | z <;> rw [z] <;> first | exact Nat.le_refl _ | exact Nat.le_add_right _ _
      exact I1.fpOk hle (I1.hok.fresh hle)
    obtain ⟨its, _, p1⟩ := sqx_src I1 qx
    obtain ⟨jts, _, p2⟩ := sqx_src I1 qy
    have D : ZipApart (s1.heap.objs.size + 4) (s1.heap.objs.size + 2) (s1.heap.objs.size + 3) s1.heap.objs.size (s1.heap.objs.size + 1) a b := PySem.W.ktu_apart s1.heap.objs.size a b p1.lt p2.lt
    have fin : ∀ h', IsZip h' (s1.heap.objs.size + 4) (s1.heap.objs.size + 2) (s1.heap.objs.size + 3) .none → IsPair h' (s1.heap.objs.size + 2) (.ref s1.heap.objs.size) (.ref (s1.heap.objs.size + 1)) → IsPair h' (s1.heap.objs.size + 3) .none .none →
        Cur t h' s1.heap.objs.size a 0 → Cur t2 h' (s1.heap.objs.size + 1) b 0 → (∀ c o, s1.heap.get? c = some o → h'.get? c = some o) → wpAny (model X.prog X.w) X.A (pyIter (.ref (s1.heap.objs.size + 4))) (PIE X pins σ (.Tuple elts kk tpos) R) X.xe { s1 with heap := h' } := fun h' hz hTI hTO c1 c2 hk =>
      wpAny_pyIter_zip hz ⟨s1.heap.objs.size + 4, [s1.heap.objs.size + 4, s1.heap.objs.size + 2, s1.heap.objs.size + 3, s1.heap.objs.size, s1.heap.objs.size + 1], _, _, H1, rfl, I1.kept (t' := s1.toks) hk, turn_zipX D, ⟨hz, hTI, ⟨_, _, hTO⟩, c1, c2⟩, fresh, q⟩
    cases t <;> cases t2
    · exact call_zip_2 p1 p2 fun h' hz hTI hTO h1 h2 _ hk => fin h' hz hTI hTO h1 h2 hk
    · exact zip_call false p1 p2 fun h' hz hTI hTO h1 h2 hk => fin h' hz hTI hTO h1 h2 hk
    · exact zip_call true p1 p2 fun h' hz hTI hTO h1 h2 hk => fin h' hz hTI hTO h1 h2 hk
    · exact RZ.call_zipT p1 p2 fun h' hz hTI hTO h1 h2 _ hk => fin h' hz hTI hTO h1 h2 hk
section
variable {K : PySem.W.Frag}
theorem itzX_D {t t2 : Bool} {a b : Addr} {us vs : List V} {xs ys : List D} {Gb Fb : Hp} (ha : ∀ H, Sub Fb H → Sub Gb H → SqX t K H a us) (hb : ∀ H, Sub Fb H → Sub Gb H → SqX t2 K H b vs) (ra : Reps K Gb xs us) (rb : Reps K Gb ys vs) : ItD K (ItzX t t2 K a b) Gb Fb (pairs xs ys) := fun G H sg sf gh i => by
  have qa := ha H sf (sg.trans gh)
  have qb := hb H sf (sg.trans gh)
  refine ⟨fun d e => ?_, fun hi => ⟨us, vs, qa, qb, ?_⟩⟩
  · obtain ⟨x, y, h1, h2, rfl⟩ := pairs_get e
    obtain ⟨u, h3, h4⟩ := ra.get h1
    obtain ⟨v, h5, h6⟩ := rb.get h2
    refine ⟨⟨us, vs, u, v, qa, qb, h3, h5⟩, fun z H' hz => ?_⟩
    obtain ⟨T, p, q, rfl, hT, rfl, f1, f2⟩ := hz
    have e1 := f1 us qa
    have e2 := f2 vs qb
    rw [h3] at e1; cases e1
    rw [h5] at e2; cases e2
    exact grow_tup gh hT ⟨_, _, rfl, Rep.sub sg _ _ h4, _, _, rfl, Rep.sub sg _ _ h6, rfl⟩
  · rw [pairs_len] at hi
    rw [← ra.length, ← rb.length]; omega
/-- the items of zip(..) of lists and tuples -/
def zipX (a b : D) : Option (List D) := match asL a, asL b with
  | some xs, some ys => some (pairs xs ys)
  | _, _ => none
variable {X : Cx} {en : Kn} {δ τ : List Slot} {R : Type} {m : Res R}
theorem ji_zipX {elts : List Expr} {kk : Nat} {e e2 : Expr} {p pos tpos : Pos} {C : List D → List Slot → Res R → Prop} (hm : X.mg "zip" = none)
    (h : JA X en δ τ [e, e2] (fun sls δ1 m1 => ∃ s1 s2 d1 d2 k, sls = [s1, s2] ∧ s1.stb = some d1 ∧ s2.stb = some d2 ∧ m1 = op (zipX d1 d2) k ∧ ∀ ds, C ds δ1 (k ds)) m) (hg : Gl X "zip" := by rfl)
    (hs : starEach [e, e2] X.env = (false, eval e X.env) :: starEach [e2] X.env := by exact star_plain rfl) (hpl : (backTo pos (starEach [e2] X.env)).any (·.1) = false := by rfl) : JI X en δ τ (.Tuple elts kk tpos) (.Call (.Name "zip" p) [e, e2] [] pos) C m := .mk fun hb hx σ ts G H T hl hσ W k => by
  refine wi_of (pi_zipX hg hm pa_wa hs hpl) ?_
  have ht : τ.length = ts.length := W.splitLen (hl.trans hσ.symm)
  refine h.run hb hx σ ts G H _ hl hσ W fun sls δ1 vs G1 H1 c1 hl1 W1 => ?_
  obtain ⟨s1, s2, d1, d2, k', rfl, e1, e2, em, hk⟩ := c1
  have hb' := hb
  rw [em] at hb'
  obtain ⟨ds, ed⟩ := op_some hb'
  have em' : m = k' ds := by rw [em, ed]; rfl
  have hk2 := hk ds
  rw [← em'] at hk2
  obtain ⟨hn, hq⟩ := W1.endSlots (hl1.trans hσ.symm) ht
  match vs, hn with
  | [v1, v2], _ =>
    have q1 := hq 0 s1 v1 rfl rfl
    have q2 := hq 1 s2 v2 rfl rfl
    have W2 := W1.cut (Δ := δ1 ++ τ) (S := σ ++ ts) (by rw [List.length_append, List.length_append]; omega) (by rw [List.length_append]; omega)
    unfold zipX at ed
    cases a1 : asL d1 with
    | none => rw [a1] at ed; cases ed
    | some xs =>
      cases a2 : asL d2 with
      | none => rw [a1, a2] at ed; cases ed
      | some ys =>
        rw [a1, a2] at ed
        cases ed
        obtain ⟨a, us, rfl, ra, ha⟩ := stb_at e1 q1 a1 W2.frm W2.sub
        obtain ⟨b, vs, rfl, rb, hb2⟩ := stb_at e2 q2 a2 W2.frm W2.sub
        have ka : ∃ t, ∀ H, Sub en.F0 H → Sub G1 H → SqX t X.K H a us := by
          rcases ha with ⟨ha, _⟩ | ⟨ha, _⟩
          · exact ⟨false, ha⟩
          · exact ⟨true, ha⟩
        have kb : ∃ t, ∀ H, Sub en.F0 H → Sub G1 H → SqX t X.K H b vs := by
          rcases hb2 with ⟨hb2, _⟩ | ⟨hb2, _⟩
          · exact ⟨false, hb2⟩
          · exact ⟨true, hb2⟩
        obtain ⟨t, ka⟩ := ka
        obtain ⟨t2, kb⟩ := kb
        exact ⟨a, b, us, vs, t, t2, rfl, ka _ W2.frm W2.sub, kb _ W2.frm W2.sub, k _ δ1 _ G1 H1 hk2 hl1 W2 (itzX_D ka kb ra rb)⟩
end
end BR

/-! K22: put into a list, taken out of it; ranges that fall -/
namespace BR
open PySem PySem.Spec PyProof.Rows L2

section
variable {X : Cx} {en : Kn} {δ τ : List Slot} {R : Type} {C : Slot → List Slot → Res R → Prop} {m : Res R} {K : PySem.W.Frag}
def insL (ds as : List D) : Option (D × List D) := match as with
  | [.int i, d] => if ds.length < sizeLine ∧ 0 ≤ i ∧ i < 2 ^ 62 then some (.non, ds.take i.toNat ++ [d] ++ ds.drop i.toNat) else none
  | _ => none
def insertD : D → List D → Option (D × D)
  | .lst ds, as => (insL ds as).map fun r => (r.1, D.lst r.2)
  | _, _ => none
def popAtL (ds as : List D) : Option (D × List D) := match as with
  | [.int i] => if -(2 ^ 62) ≤ i ∧ i < 2 ^ 62 then (ixN ds.length i).bind fun j => (ds[j]?).map fun d => (d, ds.eraseIdx j) else none
  | _ => none
def popAtD : D → List D → Option (D × D)
  | .lst ds, as => (popAtL ds as).map fun r => (r.1, D.lst r.2)
  | _, _ => none
/-! ### ranges that fall by one -/
def downto (hi : Int) (n : Nat) : List D := (List.range n).map fun (i : Nat) => D.int (hi - (i : Int))
def rngdD : List D → Option (List D)
  | [.int i, .int j, .int c] => if c = -1 ∧ (-(2 ^ 62) ≤ i ∧ i < 2 ^ 62) ∧ -(2 ^ 62) ≤ j ∧ j < 2 ^ 62 then some (downto i (i - j).toNat) else none
  | _ => none
end
end BR

/-! K23: dicts asked and changed -/
namespace BR
open PySem PySem.Spec PyProof.Rows L2

/-- what a dict has of a key -/
def getK (kvs : List (Key × D)) (k : Key) : Option D := (kvs.find? fun kv => decide (kv.1 = k)).map (·.2)
def delK (kvs : List (Key × D)) (k : Key) : List (Key × D) := kvs.filter fun kv => decide (kv.1 ≠ k)
section
variable {K : PySem.W.Frag} {G H : Hp}
theorem RepKs.get {k : Key} : ∀ {ds : List (Key × D)} {vs : List (Key × V)}, RepKs K G ds vs → (∀ d, getK ds k = some d → ∃ v, valV vs k = some v ∧ Rep K G d v) ∧ (getK ds k = none → valV vs k = none)
  | [], _, h => by
    rw [show _ = [] from h]
    exact ⟨fun d e => (nomatch e), fun _ => rfl⟩
  | (k', d') :: ds, _, h => by
    obtain ⟨v, r, e, h1, h2⟩ := h
    subst e
    by_cases hk : k' = k
    · subst hk
      refine ⟨fun d e => ?_, fun e => ?_⟩
      · have e' : d' = d := by simpa [getK, List.find?_cons] using e
        subst e'
        exact ⟨v, valV_pos rfl, h1⟩
      · simp [getK, List.find?_cons] at e
    · have ih := RepKs.get (k := k) h2
      have e1 : getK ((k', d') :: ds) k = getK ds k := by simp [getK, List.find?_cons, hk]
      have e2 : valV ((k', v) :: r) k = valV r k := valV_neg hk
      rw [e1, e2]
      exact ih
theorem RepKs.del {k : Key} : ∀ {ds : List (Key × D)} {vs : List (Key × V)}, RepKs K G ds vs → RepKs K G (delK ds k) (dropK vs k)
  | [], _, h => by rw [show _ = [] from h]; rfl
  | (k', d') :: ds, _, h => by
    obtain ⟨v, r, e, h1, h2⟩ := h
    subst e
    unfold delK dropK
    rw [List.filter_cons, List.filter_cons]
    by_cases hk : k' = k
    · simpa [hk, delK, dropK] using RepKs.del (k := k) h2
    · simp only [hk, decide_true, ne_eq, not_false_iff, if_true]
      exact ⟨v, _, rfl, h1, RepKs.del h2⟩
theorem RepKs.keys : ∀ {ds : List (Key × D)} {vs : List (Key × V)}, RepKs K G ds vs → vs.map (·.1) = ds.map (·.1)
  | [], _, h => by rw [show _ = [] from h]; rfl
  | (k', d') :: ds, _, h => by
    obtain ⟨v, r, e, h1, h2⟩ := h
    subst e
    rw [List.map_cons, List.map_cons, RepKs.keys h2]
end
section
variable {X : Cx} {en : Kn} {δ τ : List Slot} {R : Type} {C : Slot → List Slot → Res R → Prop} {m : Res R} {K : PySem.W.Frag}
variable {N : List Slot → Res R → Prop} {RT : Slot → List Slot → Res R → Prop} {BK CT : List Slot → Res R → Prop}
/-- a dict's own pairs -/
def asK : D → Option (List (Key × D))
  | .dic kvs => some kvs
  | _ => none
/-- d[k] -/
def dixD (d i : D) : Option D := match d, keyD i with
  | .dic kvs, some k => getK kvs k
  | _, _ => none
/-- d.get(k, e) -/
def dgetD (d i e : D) : Option D := match d, keyD i with
  | .dic kvs, some k => some ((getK kvs k).getD e)
  | _, _ => none
/-- d[k] = e, a name's own dict -/
def dputK (kvs : List (Key × D)) (i d : D) : Option (List (Key × D)) := match keyD i with
  | some k => if kvs.length < sizeLine then some (putD kvs k d) else none
  | none => none
theorem own1 {K : PySem.W.Frag} {δ τ : List Slot} {σ ts : L2.St} {G H : Hp} (W : Wd K en (δ ++ τ) (σ ++ ts) G H) (hl : δ.length = σ.length) {i : Nat} {sl : Slot} (h : δ[i]? = some sl) (ho : sl.own = true) : ∃ p, σ[i]? = some (some (V.ref p)) := by
  obtain ⟨o, g1, g2⟩ := W.name hl h
  cases sl with
  | mu _ => obtain ⟨p, e, _⟩ := g2; exact ⟨p, by rw [g1, e]⟩
  | mp _ _ => obtain ⟨p, e, _⟩ := g2; exact ⟨p, by rw [g1, e]⟩
  | un => cases ho
  | fr _ => cases ho
  | bw _ => cases ho
  | bo _ => cases ho
/-- del d[k], a name's own dict -/
def ddelK (kvs : List (Key × D)) (i : D) : Option (List (Key × D)) := match keyD i with
  | some k => if (getK kvs k).isSome = true then some (delK kvs k) else none
  | none => none
/-! ### sorted(d), ints, any number of them -/
def intK : List (Key × D) → Option (List Int)
  | [] => some []
  | (.inl i, _) :: r => (intK r).map (i :: ·)
  | _ :: _ => none
/-- sorted(x), x a list of ints or a dict with such keys -/
def srtT : List D → Option (List D)
  | [.lst ds] => (intsD ds).map fun ns => (srtI ns).map D.int
  | [.dic kvs] => if kvs.length ≤ sizeLine then (intK kvs).map fun ns => (srtI ns).map D.int else none
  | _ => none
end
end BR

/-! K24: a parameter that is given by its name alone, None where it is left out -/
namespace BR
open PySem PySem.Spec PyProof.Rows L2

/-- y is the last parameter; it is given by name, or None -/
def KwB (K : PySem.W.Frag) (fd : FuncData) (ps : List Str) (y : Str) : Prop := Binds K fd ps [Value.none] ∧
  ∀ (s : Shared) (us : List Value) (u : Value), (us ++ [u]).length = ps.length → BindsTo s fd ⟨us, [(y, u)]⟩ (ps.zip (us ++ [u]))
def DfK (P : Program) (w : World) (K : PySem.W.Frag) (mg : Str → Option Value) (base : Heap) (k : Nat) (x y : Str) (ks : List Kd) {α : Type} (den : List D → Res α) (val : α → D) (outs : α → List D) (mu : Bool) : Prop :=
  ∃ (f : Addr) (fd : FuncData) (psn : List Str), FnG P w K mg base k f fd psn (SpD K mg ks den val outs mu) ∧ mg x = some (.ref f) ∧ PySem.W.keepIn K (.ref f) = true ∧ KwB K fd psn y
section
variable {X : Cx} {en : Kn} {δ τ : List Slot} {R : Type} {C : Slot → List Slot → Res R → Prop} {m : Res R} {k : Nat} {f : Addr} {fd : FuncData} {ps : List Str} {sp : Sp} {E : XK} {x y : Str} {p pos kpos : Pos} {e e' : Expr} {es : List Expr}
abbrev WAn (X : Cx) (es : List Expr) : TA := fun σ H Q => WA X es σ H fun vs H1 => Q (vs ++ [V.non]) H1
abbrev WAk (X : Cx) (es : List Expr) (e : Expr) : TA := fun σ H Q => WA X es σ H fun vs H1 => WE X e σ H1 fun v H2 => Q (vs ++ [v]) H2
end
/-! ### list(range(n)) -/
/-- the numbers of list(range(..)) -/
def lrgD : D → Option (List D)
  | .int j => if -(2 ^ 62) ≤ j ∧ j < 2 ^ 62 ∧ j.toNat ≤ 2 ^ 24 then some (upto 0 j.toNat) else none
  | _ => none
section
variable {X : Cx} {en : Kn} {δ τ : List Slot} {R : Type} {C : Slot → List Slot → Res R → Prop} {m : Res R}
end
end BR

/-! K25: sorted(set(x)) of a list of ints, any number of them below 4000 -/
namespace BR
open PySem PySem.Spec PyProof.Rows L2

/-- a set as it is made -/
abbrev nos (w : World) : Obj := { cls := .type "set", dict := none, data := .set #[] 0 (.fresh 0 0 (!w.params.followText "set-order")) }
section
variable {P : Program} {w : World} {A : Around} {E : Value → Shared → Prop} {s : Shared}
end
def tSortSet (K : PySem.W.Frag) (ta : TE) : TE := fun σ H Q => ta σ H fun x H1 => ∃ (l : Addr) (ns : List Int), x = .ref l ∧ SqL K H1 l (ns.map V.int) ∧ ns.length ≤ 4000 ∧
  ∀ (ys : List Int) (p : Addr), ys.Pairwise (· < ·) → (∀ k, k ∈ ys ↔ k ∈ ns) → H1 p = none → Q (.ref p) (upd H1 p (.lst (ys.map V.int)))
/-- put among rising numbers -/
def insU (k : Int) : List Int → List Int
  | [] => [k]
  | y :: r => if k < y then k :: y :: r else if k = y then y :: r else y :: insU k r
/-- sorted, each once -/
def srtU (ns : List Int) : List Int := ns.foldr insU []
/-- sorted(set(x)) -/
def setT : D → Option (List D)
  | .lst ds => if ds.length ≤ 4000 then (intsD ds).map fun ns => (srtU ns).map D.int else none
  | _ => none
section
variable {X : Cx} {en : Kn} {δ τ : List Slot} {R : Type} {C : Slot → List Slot → Res R → Prop} {m : Res R}
end
end BR

/-! K30: sorted({x for .. in ..}) of ints -/
namespace BR
open PySem PySem.Spec PyProof.Rows L2

/-- a set of ints in the making -/
def SetRO (w : World) (a : Addr) (S : Int → Bool) (n : Nat) : HO := .ext fun h => SetR w h a S n
def addS (S : Int → Bool) (c : Int) : Int → Bool := fun j => S j || decide (j = c)
section
variable {X : Cx}
/-- {elt for target in iter if ..} of ints: D the new set -/
def tScI (w : World) (wi : TI) (g : TG) (tt : TT) (te : TE) (vs : List Nat) : TE := fun σ H Q => wi σ H fun J H1 => ∀ D, H1 D = none → ∃ W : Nat → Nat → Hp → Prop, (∃ m, W 0 m (upd H1 D (SetRO w D (fun _ => false) 0))) ∧ ∀ i m H, W i m H →
  (J.stop i H ∧ Q (.ref D) H) ∨ (J.go i H ∧ ∃ Nx : Hp → Prop, (∀ H', Nx H' → ∃ m', m' < m ∧ W (i + 1) m' H') ∧ ∀ x H', J.yld i H x H' → g x (wipe σ vs) H' fun σ2 H2 => wipe σ2 vs = wipe σ vs ∧ tt σ2 H2 fun b H3 =>
    if b = true then te σ2 H3 fun y H4 => ∃ (c : Int) (S : Int → Bool) (n : Nat), y = .int c ∧ H4 D = some (SetRO w D S n) ∧ n + 1 < scanBound ∧ Nx (upd H4 D (SetRO w D (addS S c) (if S c = true then n else n + 1))) else Nx H3)
/-- sorted(a set) -/
def tSortSc (w : World) (ta : TE) : TE := fun σ H Q => ta σ H fun x H1 => ∃ (D : Addr) (S : Int → Bool) (n : Nat), x = .ref D ∧ H1 D = some (SetRO w D S n) ∧ n ≤ 4000 ∧
  ∀ (ys : List Int) (p : Addr), ys.Pairwise (· < ·) → (∀ k, k ∈ ys ↔ S k = true) → H1 p = none → Q (.ref p) (upd H1 p (.lst (ys.map V.int)))
end
/-! ### its reading -/
structure KnS (en en' : Kn) : Prop where
  n : en'.n = en.n
  ps : en'.ps = en.ps
  HX : en'.HX = fun o => o = none
theorem KnS.lk {X : Cx} {en en' : Kn} (h : KnS en en') {s : Shared} {H : Hp} {scope : Scope} {cenv : Env} {fp : List Addr} : Lk (X.blk s H scope cenv fp) en' :=
  ⟨fun _ _ _ _ => False, takes0N, fun x hx => by rw [h.HX] at hx; cases hx⟩
/-- no list, no tuple, no dict there -/
def noLtd (o : Option HO) : Prop := o = none ∨ ∃ f, o = some (.ext f)
section
variable {K : PySem.W.Frag} {en : Kn} {Δ : List Slot} {S : L2.St} {G H H2 F2 : Hp} {q : Addr}
theorem noLtd.ne {o : Option HO} (h : noLtd o) {u : HO} (e : o = some u) (hu : ∀ f, u ≠ .ext f) : False := by
  rcases h with z | ⟨f, z⟩
  · rw [z] at e; cases e
  · rw [z] at e; cases e; exact hu f rfl
abbrev Kn.setF (en : Kn) (F2 : Hp) : Kn := { en with F0 := F2 }
end
section
variable {X : Cx} {en : Kn} {δ τ : List Slot} {R : Type} {C : Slot → List Slot → Res R → Prop} {m : Res R}
end
end BR

/-! K31: list(zip(a, b, c)) of three lists of one length -/
namespace BR
open PySem PySem.Spec PyProof.Rows L2
/-- a zip of three at N + 5, over iterators at N, N + 1, N + 2; what was told of it last is out, above the list at N + 6 -/
def Z3 (h : Heap) (N l1 l2 l3 : Nat) (xs ys zs : Array Value) (k : Nat) : Prop :=
  ((IsZip h (N + 5 : Nat) (N + 3 : Nat) (N + 4 : Nat) .none ∧ IsTupOf3 h (N + 4 : Nat) .none .none .none) ∨ ∃ (T : Nat) (f : Bool) (oT : Obj), IsZipHeld h (N + 5 : Nat) (N + 3 : Nat) (N + 4 : Nat) T f ∧ h.get? T = some oT ∧ N + 7 ≤ T) ∧
    IsTupOf3 h (N + 3 : Nat) (.ref (N : Nat)) (.ref (N + 1 : Nat)) (.ref (N + 2 : Nat)) ∧ h.IsListIter (N : Nat) l1 k ∧ h.IsListIter (N + 1 : Nat) l2 k ∧ h.IsListIter (N + 2 : Nat) l3 k ∧ h.IsList l1 xs ∧ h.IsList l2 ys ∧ h.IsList l3 zs
theorem Z3.keep {h h' : Heap} {N l1 l2 l3 k : Nat} {xs ys zs : Array Value} (x : Z3 h N l1 l2 l3 xs ys zs k) (b1 : l1 < N) (b2 : l2 < N) (b3 : l3 < N) (hk : ∀ (b : Nat) o, b ≠ N + 6 → h.get? b = some o → h'.get? b = some o) : Z3 h' N l1 l2 l3 xs ys zs k := by
  obtain ⟨st, hT, i1, i2, i3, j1, j2, j3⟩ := x
  refine ⟨?_, hk (N + 3) _ (by omega) hT, i1.at fun o e => hk N _ (by omega) e, i2.at fun o e => hk (N + 1) _ (by omega) e, i3.at fun o e => hk (N + 2) _ (by omega) e, j1.at fun o e => hk l1 _ (by omega) e, j2.at fun o e => hk l2 _ (by omega) e, j3.at fun o e => hk l3 _ (by omega) e⟩
  rcases st with ⟨a, b⟩ | ⟨T, f, oT, a, b, c⟩
  · exact .inl ⟨hk (N + 5) _ (by omega) a, hk (N + 4) _ (by omega) b⟩
  · exact .inr ⟨T, f, oT, hk (N + 5) _ (by omega) a, hk T _ (by omega) b, c⟩
def sep3 (N : Nat) {l1 l2 l3 : Nat} (b1 : l1 < N) (b2 : l2 < N) (b3 : l3 < N) : ZipSep3 (N + 5 : Nat) (N + 3 : Nat) (N + 4 : Nat) (N : Nat) (N + 1 : Nat) (N + 2 : Nat) [(N : Nat), l1] [(N + 1 : Nat), l2] [(N + 2 : Nat), l3] :=
  zip_sep3 (fp1 := [l1]) (fp2 := [l2]) (fp3 := [l3]) (fun b hb => by rw [List.mem_singleton.mp hb]; exact b1) (fun b hb => by rw [List.mem_singleton.mp hb]; exact b2) (fun b hb => by rw [List.mem_singleton.mp hb]; exact b3)
section
variable {prog : Program} {w : World} {A : Around} {E : Value → Shared → Prop} {s : Shared} {N l1 l2 l3 k : Nat} {xs ys zs : Array Value}
structure G3 (xs ys zs : Array Value) (lo : Nat) (h : Heap) (as : List Addr) : Prop where
  rise : as.Pairwise (· < ·)
  above : ∀ (a : Nat), a ∈ as → lo < a
  tri : ∀ (j : Nat) (a : Addr), as[j]? = some a → ∃ x y u, xs[j]? = some x ∧ ys[j]? = some y ∧ zs[j]? = some u ∧ IsTupOf3 h a x y u
theorem G3.there {lo : Nat} {h : Heap} {as : List Addr} (g : G3 xs ys zs lo h as) {a : Nat} (ha : a ∈ as) : a < h.objs.size := by
  obtain ⟨j, hj⟩ := List.mem_iff_getElem?.mp ha
  obtain ⟨_, _, _, _, _, _, e⟩ := g.tri j a hj
  exact Heap.lt_size e
variable {R : Result → Shared → Prop}
end
/-! ### its reading -/
def putV : Hp → List Addr → List (List V) → Hp
  | H, a :: as, p :: ps => putV (upd H a (.tup p)) as ps
  | H, _, _ => H
def z3V : List V → List V → List V → List (List V)
  | x :: xs, y :: ys, z :: zs => [x, y, z] :: z3V xs ys zs
  | _, _, _ => []
def tLZ (K : PySem.W.Frag) (ta : TA) : TE := fun σ H Q => ta σ H fun vs H1 => ∃ (a b c : Addr) (xs ys zs : List V), vs = [.ref a, .ref b, .ref c] ∧ SqL K H1 a xs ∧ SqL K H1 b ys ∧ SqL K H1 c zs ∧ ys.length = xs.length ∧ zs.length = xs.length ∧
  ∀ (H' : Hp) (p : Addr) (ts : List Addr), (∀ b o, H1 b = some o → H' b = some o) → H1 p = none → (∀ t ∈ ts, H1 t = none) → p ∉ ts → H' p = some (.lst (ts.map V.ref)) → ts.length = xs.length → (∀ (j : Nat) t, ts[j]? = some t → ∃ x y u, xs[j]? = some x ∧ ys[j]? = some y ∧ zs[j]? = some u ∧ H' t = some (.tup [x, y, u])) → Q (.ref p) H'
section
variable {X : Cx}
end
/-- triples of three lists -/
def z3L : List D → List D → List D → List D
  | a :: as, b :: bs, c :: cs => .tup [a, b, c] :: z3L as bs cs
  | _, _, _ => []
def zip3 : D → D → D → Option (List D)
  | .lst a, .lst b, .lst c => if b.length = a.length ∧ c.length = a.length then some (z3L a b c) else none
  | _, _, _ => none
section
variable {X : Cx} {en : Kn} {δ τ : List Slot} {R : Type} {C : Slot → List Slot → Res R → Prop} {m : Res R}
end
end BR

/-! K26: {k: v for .. in ..}; x in a list of ints -/
namespace BR
open PySem PySem.Spec PyProof.Rows L2

/-- a dict built turn by turn -/
def dcF {S : Type} : List D → S → List (Key × D) → (D → S → Res (Option (D × D) × S)) → Res (List (Key × D) × S)
  | [], s, acc, _ => .ok (acc, s)
  | d :: ds, s, acc, f => match f d s with
    | .ok (some (x, y), s') => (match keyD x with
      | some k => if acc.length < sizeLine then dcF ds s' (putD acc k y) f else .bad
      | none => .bad)
    | .ok (none, s') => dcF ds s' acc f
    | _ => .bad
section
variable {X : Cx} {en : Kn} {δ τ : List Slot} {R : Type} {C : Slot → List Slot → Res R → Prop} {m : Res R} {K : PySem.W.Frag}
def DTurnE (X : Cx) (scope : Scope) (en : Kn) (δ τ : List Slot) (kx vx : Expr) {S : Type} (pe : S → List Slot) (vs : List Nat) (m : Res (Option (D × D) × S)) : Prop :=
  AllB X scope fun Y => JE Y en δ τ kx (fun s1 δ1 m1 => ∃ x, s1 = .fr x ∧ AllB X scope fun Z => JE Z en δ1 (τ ++ [.fr x]) vx (fun s2 δ2 m2 => ∃ y a', s2 = .fr y ∧ m2 = .ok (some (x, y), a') ∧ Le (wipeS δ2 vs) (pe a') ∧ noBo δ2 = true) m1) m
def DTurnT (X : Cx) (scope : Scope) (en : Kn) (δ τ : List Slot) (ifs : List Expr) (kx vx : Expr) {S : Type} (pe : S → List Slot) (vs : List Nat) (m : Res (Option (D × D) × S)) : Prop :=
  match ifs with
  | [] => DTurnE X scope en δ τ kx vx pe vs m
  | [c] => AllB X scope fun Y => JT Y en δ τ c (fun b δ3 m3 => ∃ mA mF, m3 = (if b = true then mA else mF) ∧ DTurnE X scope en δ3 τ kx vx pe vs mA ∧ ∃ a', mF = .ok (none, a') ∧ Le (wipeS δ3 vs) (pe a') ∧ noBo δ3 = true) m
  | _ => False
def DTurn1 (X : Cx) (scope : Scope) (en : Kn) (δ τ : List Slot) (tg : Expr) (ifs : List Expr) (kx vx : Expr) (d : D) {S : Type} (pe : S → List Slot) (vs : List Nat) (m : Res (Option (D × D) × S)) : Prop :=
  AllB X scope fun Y => ∃ is, (∀ i, i ∈ is → i ∈ vs) ∧ JG Y en δ τ tg d is (fun δ2 m2 => DTurnT X scope en δ2 τ ifs kx vx pe vs m2) m
end
/-! ### x in a list of ints -/
def inD (a b : D) : Option Bool := match a with
  | .int i => ((asL b).bind intsD).map fun ns => decide (i ∈ ns)
  | _ => none
def notInD (a b : D) : Option Bool := (inD a b).map (!·)
section
variable {X : Cx}
end
end BR

/-! K27: a list said over -/
namespace BR
open PySem PySem.Spec PyProof.Rows L2
def repD (xs : List D) (k : Int) : List D := (List.replicate k.toNat xs).flatten
def mulX : D → D → Option D
  | .lst xs, .int k => if -(2 ^ 63) ≤ k ∧ k < 2 ^ 63 ∧ xs.length * k.toNat ≤ sizeLine then some (.lst (repD xs k)) else none
  | a, b => mulD a b
section
variable {X : Cx} {K : PySem.W.Frag} {G : Hp}
theorem Reps.rep {ds : List D} {vs : List V} (h : Reps K G ds vs) : ∀ n : Nat, Reps K G (List.replicate n ds).flatten (List.replicate n vs).flatten
  | 0 => rfl
  | n + 1 => by
    rw [List.replicate_succ, List.replicate_succ, List.flatten_cons, List.flatten_cons]
    exact h.append (Reps.rep h n)
/-- a, b = a list of two -/
def uL2 : D → Option (D × D)
  | .lst [a, b] => some (a, b)
  | _ => none
end
end BR

/-! K32: a module's number; a, b, c, d = a list of four -/
namespace BR
open PySem PySem.Spec PyProof.Rows L2
section
variable {X : Cx} {en : Kn} {δ τ : List Slot} {R : Type} {C : Slot → List Slot → Res R → Prop} {m : Res R}
def uL4 : D → Option (D × D × D × D)
  | .lst [a, b, c, d] => some (a, b, c, d)
  | _ => none
end
end BR

/-! K33: a loop over range(a, b) of numbers of any size -/
namespace BR
open PySem PySem.Spec PyProof.Rows L2
def iRng2B (ta : TA) : TI := fun σ H R => ta σ H fun vs H1 => ∃ i j : Int, vs = [.int i, .int j] ∧ R (Itr i (j - i).toNat) H1
/-- the numbers of range(a, b), whatever their size -/
def rngB : List D → Option (List D)
  | [.int i, .int j] => some (upto i (j - i).toNat)
  | _ => none
section
variable {X : Cx} {en : Kn} {δ : List Slot} {R : Type} {m : Res R}
end
end BR

/-! K28: told lists that are changed behind -/
namespace BR
open PySem PySem.Spec PyProof.Rows L2

mutual
/-- no list, no dict, nowhere within -/
def flD : D → Bool
  | .lst _ => false
  | .dic _ => false
  | .scr _ => false
  | .exc _ _ => false
  | .obj _ _ => false
  | .tup ds => flDs ds
  | _ => true
def flDs : List D → Bool
  | [] => true
  | d :: ds => flD d && flDs ds
end
/-- .. but at its top -/
def flT : D → Bool
  | .lst ds => flDs ds
  | .tup ds => flDs ds
  | .dic _ => false
  | .scr _ => false
  | .exc _ _ => false
  | .obj _ _ => false
  | _ => true
/-- neither heap nor text: numbers, truths, None, texts -/
def scD : D → Bool
  | .int _ => true
  | .bl _ => true
  | .non => true
  | .str _ => true
  | _ => false
def flZ (z : Bool × D) : Bool := if z.1 = true then flD z.2 else flT z.2
def chk (ds : List (Bool × D)) : Option Unit := if ds.all flZ = true then some () else none
/-- what stands fast, but lists and dicts -/
def noL (G : Hp) : Hp := fun a => match G a with
  | some (.lst _) => none
  | some (.dK _) => none
  | o => o
def uni (A B : Hp) : Hp := fun a => match A a with
  | some o => some o
  | none => B a
section
variable {K : PySem.W.Frag} {G H : Hp}
theorem noL_some {a : Addr} {o : HO} (h : G a = some o) (n : ∀ xs, o ≠ .lst xs) (n2 : ∀ xs, o ≠ .dK xs) : noL G a = some o := by
  unfold noL
  rw [h]
  cases o <;> first | rfl | exact absurd rfl (n _) | exact absurd rfl (n2 _)
theorem sqt_noL {a : Addr} {vs : List V} (h : SqT K G a vs) : SqT K (noL G) a vs := by
  rcases h with (h | ⟨o, h⟩) | h
  · exact .inl (.inl (noL_some h (fun _ z => nomatch z) (fun _ z => nomatch z)))
  · exact .inl (.inr ⟨o, noL_some h (fun _ z => nomatch z) (fun _ z => nomatch z)⟩)
  · exact .inr h
mutual
theorem Rep.noL : ∀ {d : D} {v : V}, flD d = true → Rep K G d v → Rep K (noL G) d v
  | .non, _, _, h => h
  | .bl _, _, _, h => h
  | .int _, _, _, h => h
  | .str _, _, _, h => h
  | .lst _, _, f, _ => (Bool.false_ne_true f).elim
  | .dic _, _, f, _ => (Bool.false_ne_true f).elim
  | .scr _, _, f, _ => (Bool.false_ne_true f).elim
  | .exc _ _, _, f, _ => (Bool.false_ne_true f).elim
  | .obj _ _, _, f, _ => (Bool.false_ne_true f).elim
  | .tup ds, _, f, h => by
    obtain ⟨a, vs, e, q, r⟩ := h
    exact ⟨a, vs, e, sqt_noL q, Reps.noL (ds := ds) f r⟩
theorem Reps.noL : ∀ {ds : List D} {vs : List V}, flDs ds = true → Reps K G ds vs → Reps K (noL G) ds vs
  | [], _, _, h => h
  | d :: ds, _, f, h => by
    obtain ⟨v, r, e, h1, h2⟩ := h
    have f' : (flD d && flDs ds) = true := f
    rw [Bool.and_eq_true] at f'
    exact ⟨v, r, e, Rep.noL f'.1 h1, Reps.noL f'.2 h2⟩
end
theorem uni_l {A B : Hp} : Sub A (uni A B) := fun a o h => by unfold uni; rw [h]
theorem uni_r {A B : Hp} (ha : Sub A H) (hb : Sub B H) : Sub B (uni A B) := fun a o h => by
  unfold uni
  cases e : A a with
  | none => exact h
  | some u =>
    have h1 := ha a u e
    have h2 := hb a o h
    rw [h1] at h2
    exact h2
theorem uni_sub {A B : Hp} (ha : Sub A H) (hb : Sub B H) : Sub (uni A B) H := fun a o h => by
  unfold uni at h
  cases e : A a with
  | none => rw [e] at h; exact hb a o h
  | some u => rw [e] at h; cases h; exact ha a _ e
end
/-- what may be read of a name's slot -/
def Slot.rdp : Slot → Option D
  | .fr d => some d
  | .mu d => some d
  | .mp _ d => some d
  | .bw d => some d
  | _ => none
/-- the names, read alone: ds what is read (true: it may be kept) -/
def PV : List Slot → List Slot → List (Bool × D) → Prop
  | [], [], [] => True
  | _ :: δ, .un :: δ', ds => PV δ δ' ds
  | s :: δ, .bw d :: δ', e :: ds => s.rdp = some d ∧ e = (false, d) ∧ PV δ δ' ds
  | s :: δ, .fr d :: δ', e :: ds => s.rdp = some d ∧ e = (true, d) ∧ PV δ δ' ds
  | _, _, _ => False
theorem PV.len : ∀ {δ δ' : List Slot} {ds : List (Bool × D)}, PV δ δ' ds → δ'.length = δ.length
  | [], [], [], _ => rfl
  | _ :: δ, .un :: δ', ds, h => by rw [List.length_cons, List.length_cons, PV.len (δ := δ) (δ' := δ') h]
  | _ :: δ, .bw _ :: δ', _ :: ds, h => by rw [List.length_cons, List.length_cons, PV.len h.2.2]
  | _ :: δ, .fr _ :: δ', _ :: ds, h => by rw [List.length_cons, List.length_cons, PV.len h.2.2]
  | [], [], _ :: _, h => h.elim
  | [], _ :: _, _, h => h.elim
  | _ :: _, [], _, h => h.elim
  | _ :: _, .bw _ :: _, [], h => h.elim
  | _ :: _, .fr _ :: _, [], h => h.elim
  | _ :: _, .mu _ :: _, _, h => h.elim
  | _ :: _, .mp _ _ :: _, _, h => h.elim
  | _ :: _, .bo _ :: _, _, h => h.elim
theorem PV.get : ∀ {δ δ' : List Slot} {ds : List (Bool × D)} {i : Nat} {sl : Slot}, PV δ δ' ds → δ'[i]? = some sl → sl = .un ∨ ∃ d s b, ((b = false ∧ sl = .bw d) ∨ (b = true ∧ sl = .fr d)) ∧ (b, d) ∈ ds ∧ δ[i]? = some s ∧ s.rdp = some d
  | [], [], [], _, _, _, e => by simp at e
  | s :: δ, .un :: δ', ds, 0, sl, h, e => .inl (by simpa using e.symm)
  | s :: δ, .un :: δ', ds, i + 1, sl, h, e => by
    rcases PV.get (δ := δ) (δ' := δ') (i := i) h (by simpa using e) with z | ⟨d, s, x, a, b, c, f⟩
    · exact .inl z
    · exact .inr ⟨d, s, x, a, b, by simpa using c, f⟩
  | s :: δ, .bw d :: δ', x :: ds, 0, sl, h, e => by
    have e' : Slot.bw d = sl := by simpa using e
    subst e'
    exact .inr ⟨d, s, false, .inl ⟨rfl, rfl⟩, by rw [h.2.1]; exact List.mem_cons_self, rfl, h.1⟩
  | s :: δ, .bw d :: δ', x :: ds, i + 1, sl, h, e => by
    rcases PV.get (i := i) h.2.2 (by simpa using e) with z | ⟨d, s, x, a, b, c, f⟩
    · exact .inl z
    · exact .inr ⟨d, s, x, a, List.mem_cons_of_mem _ b, by simpa using c, f⟩
  | s :: δ, .fr d :: δ', x :: ds, 0, sl, h, e => by
    have e' : Slot.fr d = sl := by simpa using e
    subst e'
    exact .inr ⟨d, s, true, .inr ⟨rfl, rfl⟩, by rw [h.2.1]; exact List.mem_cons_self, rfl, h.1⟩
  | s :: δ, .fr d :: δ', x :: ds, i + 1, sl, h, e => by
    rcases PV.get (i := i) h.2.2 (by simpa using e) with z | ⟨d, s, x, a, b, c, f⟩
    · exact .inl z
    · exact .inr ⟨d, s, x, a, List.mem_cons_of_mem _ b, by simpa using c, f⟩
  | [], [], _ :: _, _, _, h, _ => h.elim
  | [], _ :: _, _, _, _, h, _ => h.elim
  | _ :: _, [], _, _, _, h, _ => h.elim
  | _ :: _, .bw _ :: _, [], _, _, h, _ => h.elim
  | _ :: _, .fr _ :: _, [], _, _, h, _ => h.elim
  | _ :: _, .mu _ :: _, _, _, _, h, _ => h.elim
  | _ :: _, .mp _ _ :: _, _, _, _, h, _ => h.elim
  | _ :: _, .bo _ :: _, _, _, _, h, _ => h.elim
/-- where all is read alone -/
structure KnP (en en' : Kn) : Prop where
  n : en'.n = en.n
  HX : en'.HX = en.HX
  F0 : Sub en.F0 en'.F0
  st : ∀ a, en'.F0 a = none → a ∉ en'.ps → a ∉ en.ps
theorem Sub.none {A B : Hp} (s : Sub A B) {a : Addr} (h : B a = none) : A a = none := by
  cases z : A a with
  | none => rfl
  | some o => rw [s a o z] at h; cases h
theorem KnP.lk {X : Cx} {en en' : Kn} (h : KnP en en') (l : Lk X en) : Lk X en' := by
  obtain ⟨W, t, k⟩ := l
  exact ⟨W, t, fun x hx cls d σ H' e s => k x (h.HX ▸ hx) cls d σ H' (e.to fun a h1 h2 => ⟨h.F0.none h1, h.st a h1 h2⟩) (h.F0.trans s)⟩
abbrev Kn.pure (en : Kn) (G F : Hp) : Kn := { n := en.n, G0 := G, F0 := F, ps := [], HX := en.HX, h0 := en.h0 }
theorem Wd.knP {K : PySem.W.Frag} {en : Kn} {δ : List Slot} {σ : L2.St} {G H0 H G' : Hp} (W : Wd K en δ σ G H0) (s : Sub H0 H) : KnP en (en.pure G' H) := ⟨rfl, rfl, W.frm.trans s, fun a h _ z => W.stay a z (s.none h)⟩
section
variable {K : PySem.W.Frag} {en : Kn} {δ δ' : List Slot} {σ : L2.St} {G H : Hp}
theorem SlotOk.bread {S : L2.St} {sl : Slot} {d : D} {o : Option V} (s1 : Sub G H) (s2 : Sub en.F0 H) (q : SlotOk K en S G H sl o) (e : sl.rdp = some d) : ∃ v, o = some v ∧ BRep K G H d v := by
  cases sl with
  | un => cases e
  | bo _ => cases e
  | fr d' => cases e; obtain ⟨v, e, r⟩ := q; exact ⟨v, e, BRep.of s1 r⟩
  | mu d' => cases e; obtain ⟨p, e, _, _, _, r⟩ := q; exact ⟨_, e, BRep.mk r.v r.notup⟩
  | mp j d' => cases e; obtain ⟨p, e, _, _, _, r⟩ := q; exact ⟨_, e, BRep.mk r.v r.notup⟩
  | bw d' => cases e; obtain ⟨v, e, r⟩ := q; exact ⟨v, e, BRep.sub (Sub.refl _) s2 r⟩
theorem BRep.fast {d : D} {v : V} (f : flD d = true) (h : BRep K G H d v) : Rep K G d v := by
  obtain ⟨⟨M, hM, r⟩, t⟩ := h
  cases d with
  | lst _ => exact (Bool.false_ne_true f).elim
  | dic _ => exact (Bool.false_ne_true f).elim
  | scr _ => exact (Bool.false_ne_true f).elim
  | exc _ _ => exact (Bool.false_ne_true f).elim
  | obj _ _ => exact (Bool.false_ne_true f).elim
  | tup _ => exact t rfl
  | non => exact r
  | bl _ => exact r
  | int _ => exact r
  | str _ => exact r
theorem Grow.more {H' : Hp} (s : Sub G H) (h : Sub H H') : Grow G H G H' := ⟨Sub.refl _, h, s.trans h, fun _ _ e => .inl e⟩
end
section
variable {X : Cx} {en : Kn} {R : Type}
/-- the name i has something told, whose lists are new and nobody else's: d -/
structure JX (X : Cx) (en : Kn) (δ : List Slot) (i : Nat) (d : D) (sts : List Stmt) {R : Type} (N : List Slot → Res R → Prop) (RT : Slot → List Slot → Res R → Prop) (BK CT : List Slot → Res R → Prop) (m : Res R) : Prop where
  run : m ≠ .bad → en.HX m.exc → ∀ (σ : L2.St) (G H0 H G1 : Hp) (E : Ends) (v : V), δ.length = en.n → σ[i]? = some (some v) → Wd X.K en δ σ G H0 → Sub H0 H → Sub G1 H → (∀ a o, G1 a = some o → noL G a = some o ∨ H0 a = none) → Rep X.K G1 d v →
    (∀ δ' σ' G' H', N δ' m → δ'.length = en.n → Wd X.K en δ' σ' G' H' → E.nx σ' H') →
    (∀ sl δ' v σ' G' H', RT sl δ' m → δ'.length = en.n → Wd X.K en (δ' ++ [sl]) (σ' ++ [some v]) G' H' → E.rt v H') →
    (∀ δ' σ' G' H', BK δ' m → δ'.length = en.n → Wd X.K en δ' σ' G' H' → E.bk σ' H') →
    (∀ δ' σ' G' H', CT δ' m → δ'.length = en.n → Wd X.K en δ' σ' G' H' → E.ct σ' H') → WSs X sts E σ H
variable {δ : List Slot} {N : List Slot → Res R → Prop} {RT : Slot → List Slot → Res R → Prop} {BK CT : List Slot → Res R → Prop} {m : Res R} {pos : Pos}
/-- the names read in a test: what stands fast stays so -/
def Slot.tv : Slot → Slot
  | .fr d => .fr d
  | .bw d => .bw d
  | .mu d => .bw d
  | .mp _ d => .bw d
  | _ => .un
theorem tv_set {δ : List Slot} {i j : Nat} {d : D} {sl : Slot} (h : ((δ.map Slot.tv).set i (.fr d))[j]? = some sl) : (j = i ∧ sl = .fr d) ∨ (j ≠ i ∧ ∃ s, δ[j]? = some s ∧ s.tv = sl) := by
  by_cases hj : i = j
  · subst hj
    by_cases hi : i < δ.length
    · rw [List.getElem?_set_self (by rw [List.length_map]; exact hi)] at h
      exact .inl ⟨rfl, (Option.some.inj h).symm⟩
    · rw [List.getElem?_eq_none (by rw [List.length_set, List.length_map]; omega)] at h; cases h
  · rw [List.getElem?_set_ne hj, List.getElem?_map] at h
    obtain ⟨s, h1, h2⟩ := Option.map_eq_some_iff.mp h
    exact .inr ⟨fun e => hj e.symm, s, h1, h2⟩
theorem Wd.test {K : PySem.W.Frag} {δ : List Slot} {σ : L2.St} {G H0 H G1 : Hp} {i : Nat} {d : D} {v : V} (W : Wd K en δ σ G H0) (hv : σ[i]? = some (some v)) (s0 : Sub H0 H) (s1 : Sub G1 H) (r : Rep K G1 d v) :
    Wd K (en.pure (uni G G1) H) ((δ.map Slot.tv).set i (.fr d)) σ (uni G G1) H where
  len := by rw [List.length_set, List.length_map]; exact W.len
  sub := uni_sub (W.sub.trans s0) s1
  ext := Sub.refl _
  new := fun a o e => .inl e
  frm := Sub.refl _
  stay := fun a h => by cases h
  nd := List.nodup_nil
  slot := fun j sl o h1 h2 => by
    rcases tv_set h1 with ⟨e, e2⟩ | ⟨_, s, hs, e⟩
    · subst e e2
      rw [hv] at h2
      cases h2
      exact ⟨v, rfl, Rep.sub (uni_r (W.sub.trans s0) s1) _ _ r⟩
    · subst e
      have q := W.slot j s o hs h2
      cases s with
      | un => trivial
      | bo _ => trivial
      | fr d => obtain ⟨v, e, r⟩ := q; exact ⟨v, e, Rep.sub uni_l _ _ r⟩
      | mu d => obtain ⟨p, e, _, _, _, r⟩ := q; exact ⟨_, e, BRep.sub uni_l s0 (BRep.mk r.v r.notup)⟩
      | mp j d => obtain ⟨p, e, _, _, _, r⟩ := q; exact ⟨_, e, BRep.sub uni_l s0 (BRep.mk r.v r.notup)⟩
      | bw d => obtain ⟨v, e, r⟩ := q; exact ⟨v, e, BRep.sub uni_l (W.frm.trans s0) r⟩
  apart := fun a b p h1 _ => by
    obtain ⟨sl, e1, e2, _⟩ := h1
    rcases tv_set e1 with ⟨_, e⟩ | ⟨_, s, _, e⟩
    · subst e; cases e2
    · subst e
      cases s <;> cases e2
def scs (ds : List D) : Option Unit := if ds.all scD = true then some () else none
end
end BR

/-! K29: a told thing's lists changed -/
namespace BR
open PySem PySem.Spec PyProof.Rows L2
/-- but one name nothing is known: it has the list of the caller's that may be changed -/
def dm (n ix : Nat) (l : List D) : List Slot := (List.replicate n Slot.un).set ix (.mp 0 (.lst l))
theorem dm_get {n ix i : Nat} {l : List D} {sl : Slot} (h : (dm n ix l)[i]? = some sl) : sl = .un ∨ (i = ix ∧ sl = .mp 0 (.lst l)) := by
  unfold dm at h
  by_cases hi : ix = i
  · subst hi
    by_cases hn : ix < n
    · rw [List.getElem?_set_self (by rw [List.length_replicate]; exact hn)] at h
      exact .inr ⟨rfl, (Option.some.inj h).symm⟩
    · rw [List.getElem?_eq_none (by rw [List.length_set, List.length_replicate]; omega)] at h; cases h
  · rw [List.getElem?_set_ne hi, List.getElem?_replicate] at h
    split at h
    · exact .inl (Option.some.inj h).symm
    · cases h
theorem dm_len {n ix : Nat} {l : List D} : (dm n ix l).length = n := by unfold dm; rw [List.length_set, List.length_replicate]
section
variable {X : Cx} {en : Kn} {R : Type}
/-- statements that change the name's list alone -/
def Spl (X : Cx) (en : Kn) (n ix : Nat) : List (Expr × Pos) → List D → Res (List D) → Prop
  | [], l, m => m = .ok l
  | e :: sts, l, m => swapsWith e.1 none e.2.line X.env = pure false ∧ ∀ en', KnP en en' → JE X en' (dm n ix l) [] e.1 (fun _ δ' m1 => ∃ l', δ' = dm n ix l' ∧ Spl X en n ix sts l' m1) m
def exs' (es : List (Expr × Pos)) : List Stmt := es.map fun e => .Expr e.1 e.2
abbrev Kn.alone (en : Kn) (G H : Hp) (a : Addr) : Kn := { n := en.n, G0 := G, F0 := hide H [a], ps := [a], HX := en.HX, h0 := en.h0 }
theorem Wd.alone {K : PySem.W.Frag} {n ix : Nat} {l : List D} {σ : L2.St} {G H : Hp} {a : Addr} (hn : en.n = n) (hσ : σ.length = n) (ha : σ[ix]? = some (some (.ref a))) (sg : Sub G H) (ga : G a = none) (r : MRep K G H (.lst l) a) :
    Wd K (en.alone G H a) (dm n ix l) σ G H where
  len := dm_len.trans hσ.symm
  sub := sg
  ext := Sub.refl _
  new := fun a o e => .inl e
  frm := hide_sub
  stay := fun b hb => by
    rw [List.mem_singleton.mp hb]
    obtain ⟨o, e⟩ := r.ex
    rw [e]; simp
  nd := by simp
  slot := fun i sl o h1 h2 => by
    rcases dm_get h1 with e | ⟨e, e2⟩
    · subst e; trivial
    · subst e e2
      rw [ha] at h2
      cases h2
      exact ⟨a, rfl, rfl, ga, hide_none List.mem_cons_self, r⟩
  apart := fun i j p h1 h2 => by
    obtain ⟨s1, e1, f1, _⟩ := h1
    obtain ⟨s2, e2, f2, _⟩ := h2
    rcases dm_get e1 with e | ⟨e, _⟩
    · subst e; cases f1
    · rcases dm_get e2 with e' | ⟨e', _⟩
      · subst e'; cases f2
      · rw [e, e']
/-- a told list of lists: all of them flat and short -/
def okL : D → Bool
  | .lst l => flDs l && decide (l.length < 1000)
  | _ => false
def chkL (d : D) : Option Unit := match d with
  | .lst ds => if ds.all okL = true ∧ ds.length < 9000 then some () else none
  | _ => none
variable {δ : List Slot} {N : List Slot → Res R → Prop} {RT : Slot → List Slot → Res R → Prop} {BK CT : List Slot → Res R → Prop} {m : Res R} {pos : Pos}
def lstF : D → Option (List D)
  | .lst l => if flDs l = true then some l else none
  | _ => none
def gF (g : D → List D → Option (D × D)) (l as : List D) : Option Unit := if flDs as = true ∧ (g (.lst l) as).isSome = true then some () else none
def ones' (n i : Nat) (d : D) : List Slot := (List.replicate n Slot.un).set i (.fr d)
end
end BR

/-! K34: pop of a told list behind a change of what is in it -/
namespace BR
open PySem PySem.Spec PyProof.Rows L2
section
variable {X : Cx} {en : Kn} {R : Type}
/-- of the told thing it is known that it is a list that has something -/
structure JPq (X : Cx) (en : Kn) (δ : List Slot) (i : Nat) (sts : List Stmt) {R : Type} (N : List Slot → Res R → Prop) (RT : Slot → List Slot → Res R → Prop) (BK CT : List Slot → Res R → Prop) (m : Res R) : Prop where
  run : m ≠ .bad → en.HX m.exc → ∀ (σ : L2.St) (G H0 H : Hp) (p : Addr) (ws : List V) (E : Ends), δ.length = en.n → σ[i]? = some (some (.ref p)) → H0 p = none → H p = some (.lst ws) → ws ≠ [] → Wd X.K en δ σ G H0 → Sub H0 H →
    (∀ δ' σ' G' H', N δ' m → δ'.length = en.n → Wd X.K en δ' σ' G' H' → E.nx σ' H') →
    (∀ sl δ' v σ' G' H', RT sl δ' m → δ'.length = en.n → Wd X.K en (δ' ++ [sl]) (σ' ++ [some v]) G' H' → E.rt v H') →
    (∀ δ' σ' G' H', BK δ' m → δ'.length = en.n → Wd X.K en δ' σ' G' H' → E.bk σ' H') →
    (∀ δ' σ' G' H', CT δ' m → δ'.length = en.n → Wd X.K en δ' σ' G' H' → E.ct σ' H') → WSs X sts E σ H
def neL : D → Option Unit
  | .lst (_ :: _) => some ()
  | _ => none
variable {δ : List Slot} {N : List Slot → Res R → Prop} {RT : Slot → List Slot → Res R → Prop} {BK CT : List Slot → Res R → Prop} {m : Res R} {pos : Pos}
end
end BR

/-! K35: try .. except X as e, what is caught tracked from there on -/
namespace BR
open PySem PySem.Spec PyProof.Rows L2
section
variable {X : Cx} {pins : List (Addr × Obj)} {σ : L2.St} {H : Hp} {sI s s' : Shared} {B : Heap}
end
section
variable {K : PySem.W.Frag} {en : Kn} {δ : List Slot} {σ : L2.St} {G H : Hp}
/-- an error's dict stands fast too -/
theorem Wd.addx {dd : Addr} {fs : List (Str × V)} (W : Wd K en δ σ G H) (e : H dd = some (.xd fs)) (f : en.F0 dd = none) (n : dd ∉ en.ps) : Wd K en δ σ (upd G dd (.xd fs)) H := by
  have gg : Sub G (upd G dd (.xd fs)) := fun a o q => by
    by_cases ha : a = dd
    · subst ha
      rw [W.sub a o q] at e
      rw [upd_same, e]
    · rw [upd_ne ha]; exact q
  have mn : ∀ {d : D} {p : Addr}, G p = none → MRep K G H d p → upd G dd (.xd fs) p = none := fun {d p} g r => by
    by_cases hp : p = dd
    · subst hp
      cases d <;> first | exact r.elim | skip
      · obtain ⟨_, z, _⟩ := r
        rw [e] at z; cases z
      · obtain ⟨_, z, _⟩ := r
        rw [e] at z; cases z
    · rw [upd_ne hp]; exact g
  exact {
    len := W.len
    sub := fun a o q => by
      by_cases ha : a = dd
      · subst ha
        rw [upd_same] at q
        rw [e]; exact q
      · rw [upd_ne ha] at q; exact W.sub a o q
    ext := W.ext.trans gg
    new := fun a o q => by
      by_cases ha : a = dd
      · subst ha; exact .inr ⟨f, n⟩
      · rw [upd_ne ha] at q; exact W.new a o q
    frm := W.frm
    stay := W.stay
    nd := W.nd
    slot := fun i sl o h1 h2 => by
      have q := W.slot i sl o h1 h2
      cases sl with
      | un => trivial
      | fr d => obtain ⟨v, e, r⟩ := q; exact ⟨v, e, Rep.sub gg _ _ r⟩
      | mu d =>
        obtain ⟨p, e, n, f, f2, r⟩ := q
        exact ⟨p, e, mn n r, f, f2, r.keep gg fun o e => e⟩
      | mp j d =>
        obtain ⟨p, e, f2, n, f, r⟩ := q
        exact ⟨p, e, f2, mn n r, f, r.keep gg fun o e => e⟩
      | bw d => obtain ⟨v, e, r⟩ := q; exact ⟨v, e, BRep.sub gg (Sub.refl _) r⟩
      | bo j => exact q
    apart := W.apart }
theorem Wd.caught {mg : Str → Option Value} {x : Exc} {cls : Value} {d : Option Addr} {C a : Addr} {oe : Obj} {vs : Array Value} (W : Wd K en δ σ G H) (eo : ExcOk mg en.F0 en.ps x cls d H) (gC : mg x.cls = some (.ref C)) (FC : ExcF K x.cls C)
    (na : H a = none) (hz : L2N.Zn cls d oe) (hv : oe.data = .fields vs) : cls = .ref C ∧ ∃ G2, Sub G G2 ∧ G2 a = some (ExO1 oe) ∧ Wd K en (δ ++ [.fr (.exc x.cls x.fs)]) (σ ++ [some (.ref a)]) G2 (upd H a (ExO1 oe)) := by
  obtain ⟨C', gC', rfl, hd⟩ := eo
  rw [gC] at gC'
  have eC : C = C' := Value.ref.inj (Option.some.inj gC')
  subst eC
  refine ⟨rfl, ?_⟩
  have key : ∀ {G1 : Hp}, Sub G G1 → Wd K en δ σ G1 H → ((x.fs = [] ∧ L2N.Zn (.ref C) none oe) ∨ ∃ dd, x.fs ≠ [] ∧ L2N.Zn (.ref C) (some dd) oe ∧ G1 dd = some (.xd (xfV x.fs))) → ∃ G2, Sub G G2 ∧ G2 a = some (ExO1 oe) ∧ Wd K en (δ ++ [.fr (.exc x.cls x.fs)]) (σ ++ [some (.ref a)]) G2 (upd H a (ExO1 oe)) := fun {G1} sg W1 hx => by
    have nG : G1 a = none := by
      cases q : G1 a with
      | none => rfl
      | some o => rw [W1.sub a o q] at na; cases na
    have gr : Grow G1 H (upd G1 a (ExO1 oe)) (upd H a (ExO1 oe)) := ⟨Sub.upd nG, Sub.upd na, fun b o q => by
      by_cases hba : b = a
      · subst hba; rw [upd_same] at q ⊢; exact q
      · rw [upd_ne hba] at q ⊢; exact W1.sub b o q, fun b o q => by
      by_cases hba : b = a
      · subst hba; exact .inr na
      · rw [upd_ne hba] at q; exact .inl q⟩
    have ex : ExAt G1 (upd G1 a (ExO1 oe)) C a x.fs := ⟨oe, vs, upd_same, hv, hx⟩
    exact ⟨upd G1 a (ExO1 oe), sg.trans gr.g, upd_same, W1.out (sl := .fr (.exc x.cls x.fs)) (v := .ref a) gr ⟨a, C, rfl, FC, ex.sub gr.g (Sub.refl _)⟩⟩
  rcases hd with ⟨h1, h2⟩ | ⟨h1, dd, h2, h3, h4, h5⟩
  · subst h2
    exact key (Sub.refl _) W (.inl ⟨h1, hz⟩)
  · subst h2
    have W1 := W.addx h3 h4 h5
    exact key (fun b o q => by
      by_cases hb : b = dd
      · subst hb
        rw [W.sub b o q] at h3
        rw [upd_same, h3]
      · rw [upd_ne hb]; exact q) W1 (.inr ⟨dd, h1, hz, upd_same⟩)
end
/-- what the clause wishes of an error of the body: it is of the clause's class, the suite runs with it tracked -/
def wKept (K : PySem.W.Frag) (c : Value) (i : Nat) (ts : Addr → TS) (D : Ends) : WX := fun cls d σ H =>
  PySem.W.exmOne K cls c = some true ∧ ∀ a oe vs, H a = none → L2N.Zn cls d oe → oe.data = .fields vs → ts a { nx := fun σ' H' => D.nx (σ'.set i none) H', rt := D.rt, bk := fun σ' H' => D.bk (σ'.set i none) H', ct := fun σ' H' => D.ct (σ'.set i none) H' } (σ.set i (some (.ref a))) (upd H a (ExO1 oe))
section
variable {X : Cx} {x n : Str} {c : Value} {i : Nat} {body suite : List Stmt} {b₀ : Stmt} {np pos pos' : Pos} {tb : WX → TS} {ts : Addr → TS}
end
end BR

/-! K36: raise, try around one call, isinstance of what is caught -/
namespace BR
open PySem PySem.Spec PyProof.Rows L2
/-! ### a call at known slots -/
section
variable {X : Cx} {k : Nat} {f : Addr} {fd : FuncData} {ps : List Str} {sp : Sp} {x : Str} {p pos : Pos} {e : Expr} {es : List Expr} {t : TA} {E : L2.St → XK}
end
/-- names as arguments -/
def tIs : List Nat → TA
  | [] => tNil
  | i :: is => tCons (tVar i) (tIs is)
def AN (δ : List Slot) : List Nat → List D → Prop
  | [], [] => True
  | i :: is, d :: ds => (∃ s, δ[i]? = some s ∧ s.rdp = some d) ∧ AN δ is ds
  | _, _ => False
/-! ### what is tried -/
def tryR {α S : Type} (cs : List Str) (m : Res α) (okf : α → S) (h : Str → List (Str × Option Int) → Res S) : Res S := match m with
  | .ok a => .ok (okf a)
  | .raise x => if x.cls ∈ cs then h x.cls x.fs else .bad
  | .bad => .bad
/-- what is known of the classes that may be caught by the class cv -/
def Catch (K : PySem.W.Frag) (mg : Str → Option Value) (cv : Value) (cs : List Str) : Prop := ∀ c, c ∈ cs → ∃ C, mg c = some (.ref C) ∧ ExcF K c C ∧ PySem.W.exmOne K (.ref C) cv = some true
section
variable {X : Cx} {en : Kn} {δ : List Slot} {R : Type} {m : Res R} {N : List Slot → Res R → Prop} {RT : Slot → List Slot → Res R → Prop} {BK CT : List Slot → Res R → Prop} {rest : List Stmt}
/-! ### raise -/
/-- what is known of a class of error that is raised -/
def Raise (K : PySem.W.Frag) (mg : Str → Option Value) (c : Str) : Prop := ∃ C, mg c = some (.ref C) ∧ PySem.W.excIn K C [.type "ValueError", .type "Exception", .type "BaseException", .type "object"] "ValueError.__new__" = true ∧ PySem.W.keepIn K (.ref C) = true ∧
  PySem.W.subIn K (.ref C) (.type "BaseException") = some true ∧ PySem.W.typeIn K (.ref C) = some (.type "type")
end
/-! ### isinstance -/
/-- of what is caught -/
def isE (cs ts : List Str) : D → Option Bool
  | .exc c xf => if c ∈ cs then some (ts.any (subE c)) else none
  | _ => none
def KitF (K : PySem.W.Frag) (mg : Str → Option Value) (cs : List Str) (t : Str) : Prop := ∃ E, mg t = some (.ref E) ∧ ∀ c, c ∈ cs → ∀ C, PySem.W.nsIn K mainGlobals c = some (some (.ref C)) → PySem.W.kitOne K (.ref C) (.ref E) = some (subE c t)
def KitV (K : PySem.W.Frag) (cs : List Str) : Prop := ∀ c, c ∈ cs → ∀ C, PySem.W.nsIn K mainGlobals c = some (some (.ref C)) → PySem.W.kitOne K (.ref C) (.type "ValueError") = some true
/-- class names in a tuple -/
def NmE (X : Cx) : List Str → List Expr → Prop
  | [], [] => True
  | t :: ts, .Name x _ :: es => x = t ∧ Gl X t ∧ (t == ("__debug__" : Str)) = false ∧ NmE X ts es
  | _, _ => False
def tCs : List V → TA
  | [] => tNil
  | v :: vs => tCons (tC v) (tCs vs)
section
variable {X : Cx} {en : Kn} {δ τ : List Slot} {R : Type} {C : Slot → List Slot → Res R → Prop} {m : Res R}
end
/-! ### the first place of a truth -/
def indexD : List D → Option D
  | [.lst ds, .bl k] => (bls ds).bind fun bs => (bs.findIdx? fun b => b == k).map fun j => .int (j : Nat)
  | _ => none
end BR

/-! K37: try around a body of choices between calls -/
namespace BR
open PySem PySem.Spec PyProof.Rows L2
/-- never an error -/
def NR {α : Type} (m : Res α) : Prop := ∀ x, m ≠ .raise x
/-- names as arguments, read or standing fast -/
def AK (δ : List Slot) : List Kd → List Nat → List D → Prop
  | [], [], [] => True
  | .b :: ks, i :: is, d :: ds => (∃ s, δ[i]? = some s ∧ s.rdp = some d) ∧ AK δ ks is ds
  | .f :: ks, i :: is, d :: ds => δ[i]? = some (.fr d) ∧ AK δ ks is ds
  | _, _, _ => False
/-- a body that is tried -/
structure JB (X : Cx) (en : Kn) (δ : List Slot) (body : List Stmt) {S : Type} (pB : S → List Slot) (m : Res S) : Prop where
  run : m ≠ .bad → ∀ (WW : WX) (pn : List (Addr × Obj)) (xe : Value → Shared → Prop), L2N.Takes (X.tr pn xe) WW → ∀ (σ : L2.St) (G H : Hp) (E : Ends), δ.length = en.n → Wd X.K en δ σ G H →
    (∀ a, m = .ok a → ∀ σ' G' H', (pB a).length = en.n → Wd X.K en (pB a) σ' G' H' → E.nx σ' H') →
    (∀ x, m = .raise x → ∀ cls d G' H', ExcOk X.mg en.F0 en.ps x cls d H' → Wd X.K en δ σ G' H' → WW cls d σ H') → WSs (X.tr pn xe) body E σ H
section
variable {X : Cx} {en : Kn} {δ : List Slot} {R : Type} {m : Res R} {N : List Slot → Res R → Prop} {RT : Slot → List Slot → Res R → Prop} {BK CT : List Slot → Res R → Prop} {rest : List Stmt}
end
end BR

/-! K38: a list said over, as an own new one -/
namespace BR
open PySem PySem.Spec PyProof.Rows L2
def mulT (a b : D) : Option (List D) := match a, b with
  | .lst xs, .int k => if -(2 ^ 63) ≤ k ∧ k < 2 ^ 63 ∧ xs.length * k.toNat ≤ sizeLine then some (repD xs k) else none
  | _, _ => none
section
variable {X : Cx} {en : Kn} {δ τ : List Slot} {R : Type} {C : Slot → List Slot → Res R → Prop} {m : Res R}
end
end BR

/-! K39: an expression that only reads: what is this def's own is read like the caller's, and is as it was behind it -/
namespace BR
open PySem PySem.Spec PyProof.Rows L2
def Slot.shd : Slot → Slot
  | .fr d => .fr d
  | .bw d => .bw d
  | .mu d => .bw d
  | .mp _ d => .bw d
  | _ => .un
def Kn.shl (en : Kn) (G H : Hp) : Kn := { en with G0 := G, F0 := H, ps := [] }
structure KnSh (X : Cx) (en en' : Kn) : Prop where
  n : en'.n = en.n
  lk : Lk X en → Lk X en'
section
variable {X : Cx} {en : Kn} {δ τ : List Slot} {R : Type} {C : Slot → List Slot → Res R → Prop} {m : Res R}
end
end BR

/-! K40: [.. for a, b in d.items() ..] over a dict that is read alone, its things and what else is read being plain ones -/
namespace BR
open PySem PySem.Spec PyProof.Rows L2
/-- a thing that lies in no heap -/
def sclD : D → Bool
  | .non => true
  | .bl _ => true
  | .int _ => true
  | .str _ => true
  | _ => false
theorem sclD.rep {K : PySem.W.Frag} {G G' : Hp} {d : D} {v : V} (h : sclD d = true) (r : Rep K G d v) : Rep K G' d v := by
  cases d <;> first | exact r | cases h
theorem sclD.brep {K : PySem.W.Frag} {G F G' : Hp} {d : D} {v : V} (h : sclD d = true) (r : BRep K G F d v) : Rep K G' d v := by
  obtain ⟨⟨M, _, r⟩, _⟩ := r
  cases d <;> first | exact r | cases h
def kD : Key → D
  | .inl i => .int i
  | .inr s => .str s
def itmD (d : D) (ns : List D) : Option (List D) := match d with
  | .dic kvs => if (kvs.all fun p => sclD p.2) = true ∧ ns.all sclD = true then some (kvs.map fun p => .tup [kD p.1, p.2]) else none
  | _ => none
/-- the names that are read within -/
def PS : List Slot → List Slot → List D → Prop
  | [], [], _ => True
  | s :: r, t :: q, ns => (t = .un ∨ ∃ d, t = .fr d ∧ s.rdp = some d ∧ d ∈ ns) ∧ PS r q ns
  | _, _, _ => False
theorem PS.len : ∀ {δ δ2 : List Slot} {ns : List D}, PS δ δ2 ns → δ2.length = δ.length
  | [], [], _, _ => rfl
  | _ :: _, _ :: _, _, h => by rw [List.length_cons, List.length_cons, PS.len h.2]
  | [], _ :: _, _, h => h.elim
  | _ :: _, [], _, h => h.elim
theorem PS.at : ∀ {δ δ2 : List Slot} {ns : List D} {i : Nat} {t : Slot}, PS δ δ2 ns → δ2[i]? = some t → t = .un ∨ ∃ d s, t = .fr d ∧ δ[i]? = some s ∧ s.rdp = some d ∧ d ∈ ns
  | [], [], _, _, _, _, e => by simp at e
  | s :: r, t :: q, ns, 0, t', h, e => by
    have : t = t' := by simpa using e
    subst this
    rcases h.1 with z | ⟨d, z1, z2, z3⟩
    · exact .inl z
    · exact .inr ⟨d, s, z1, rfl, z2, z3⟩
  | s :: r, t :: q, ns, i + 1, t', h, e => by
    rcases PS.at (i := i) h.2 (by simpa using e) with z | ⟨d, s', z1, z2, z3, z4⟩
    · exact .inl z
    · exact .inr ⟨d, s', z1, by simpa using z2, z3, z4⟩
  | [], _ :: _, _, _, _, h, _ => h.elim
  | _ :: _, [], _, _, _, h, _ => h.elim
def Kn.sole (en : Kn) (H : Hp) : Kn := { en with G0 := fun _ => none, F0 := H, ps := [] }
theorem Wd.sole {K : PySem.W.Frag} {en : Kn} {δ δ2 : List Slot} {σ : L2.St} {G H H1 : Hp} {ns : List D} (W : Wd K en δ σ G H) (hp : PS δ δ2 ns) (hs : ns.all sclD = true) : Wd K (en.sole H1) δ2 σ (fun _ => none) H1 where
  len := hp.len.trans W.len
  sub := fun a o e => by cases e
  ext := Sub.refl _
  new := fun a o e => by cases e
  frm := Sub.refl _
  stay := fun a h => by cases h
  nd := List.nodup_nil
  slot := fun i sl o h1 h2 => by
    rcases hp.at h1 with rfl | ⟨d, s, rfl, h3, h4, h5⟩
    · trivial
    · obtain ⟨o', h6, h7⟩ := W.at h3
      rw [h2] at h6; cases h6
      obtain ⟨v, e, r⟩ := SlotOk.bread W.sub W.frm h7 h4
      exact ⟨v, e, sclD.brep (List.all_eq_true.mp hs d h5) r⟩
  apart := fun i j p h1 h2 => by
    obtain ⟨sl, e1, e2, e3⟩ := h1
    rcases hp.at e1 with rfl | ⟨d, s, rfl, _, _, _⟩ <;> cases e2
section
variable {X : Cx} {en : Kn} {δ τ : List Slot} {R : Type} {C : Slot → List Slot → Res R → Prop} {m : Res R}
end
end BR

/-! K41: dict(a list of pairs) -/
namespace BR
open PySem PySem.Spec PyProof.Rows L2
def prsD : List D → Option (List (Key × D))
  | [] => some []
  | .tup [a, b] :: r => match keyD a, prsD r with
    | some k, some q => some ((k, b) :: q)
    | _, _ => none
  | _ => none
def dctT : List D → Option (List (Key × D))
  | [.lst ds] => (prsD ds).map fun q => mergeD [] q
  | _ => none
def kM {R : Type} (k : List (Key × D) → Res R) : D → Res R
  | .dic q => k q
  | _ => .bad
section
variable {X : Cx} {en : Kn} {δ τ : List Slot} {R : Type} {C : Slot → List Slot → Res R → Prop} {m : Res R}
end
end BR

/-! K42: beside a told thing that is to be changed: other things told, and a choice that goes on -/
namespace BR
open PySem PySem.Spec PyProof.Rows L2
section
variable {X : Cx} {en : Kn} {R : Type} {δ : List Slot} {N : List Slot → Res R → Prop} {RT : Slot → List Slot → Res R → Prop} {BK CT : List Slot → Res R → Prop} {m : Res R} {pos : Pos}
/-- what is tracked but for what was told -/
def beside (H H0 H2 : Hp) : Hp := fun a => match H a with
  | none => H2 a
  | some _ => H0 a
end
end BR

/-! K43: a op b op c as a test -/
namespace BR
open PySem PySem.Spec PyProof.Rows L2
section
variable {X : Cx} {en : Kn} {R : Type} {δ τ : List Slot} {m : Res R} {pos : Pos}
end
end BR

/-! K44: x in a list of lists; the sum of a tuple of ints -/
namespace BR
open PySem PySem.Spec PyProof.Rows L2
theorem RoomG.hu5 {k : Nat} {A : Around} (h : RoomG k A) : A.units + 65 < cLine := by
  have := h.r.un
  omega
def inLD (a b : D) : Option Bool := match b with
  | .lst ds => if SeqAt.shaped (toP a) = true ∧ SeqAt.shaped (toP (.lst ds)) = true then some ((toPs ds).any fun z => PyData.eqv z (toP a)) else none
  | _ => none
section
variable {X : Cx}
theorem cmp_inLD (hu : X.A.units + 65 < cLine) : CmpD X (compareOp .In) inLD := opD_of (op_inD (X := X) hu) fun d1 d2 d e G H v1 v2 Q sb r1 r2 k => by
  obtain ⟨b, eb, ed⟩ := Option.map_eq_some_iff.mp e
  subst ed
  match d2, eb, r2 with
  | .lst ds, eb, r2 =>
    by_cases hz : SeqAt.shaped (toP d1) = true ∧ SeqAt.shaped (toP (.lst ds)) = true
    · have eb' : (if SeqAt.shaped (toP d1) = true ∧ SeqAt.shaped (toP (.lst ds)) = true then some ((toPs ds).any fun z => PyData.eqv z (toP d1)) else none) = some b := eb
      rw [if_pos hz] at eb'
      cases eb'
      exact ⟨_, _, r1.dp sb (SeqAt.canLay_of_shaped hz.1), r2.dp sb (SeqAt.canLay_of_shaped hz.2), hz.1, hz.2, sc_out (d := .bl ((toPs ds).any fun z => PyData.eqv z (toP d1))) sb rfl k⟩
    · have eb' : (if SeqAt.shaped (toP d1) = true ∧ SeqAt.shaped (toP (.lst ds)) = true then some ((toPs ds).any fun z => PyData.eqv z (toP d1)) else none) = some b := eb
      rw [if_neg hz] at eb'; cases eb'
def sumX : List D → Option D
  | [.lst ds] => (intsD ds).map fun ns => .int ns.sum
  | [.tup ds] => (intsD ds).map fun ns => .int ns.sum
  | _ => none
end
end BR

/-! K45: max of three; or by truth; a fresh list given to be changed; own lists read as if they stood fast; walks over a display of own lists -/
namespace BR
open PySem PySem.Spec PyProof.Rows L2
section
variable {X : Cx} {en : Kn} {δ τ : List Slot} {R : Type} {C : Slot → List Slot → Res R → Prop} {m : Res R}
/-! ### max of three -/
def max3D : List D → Option D
  | [.int a, .int b, .int c] => some (.int (if c > (if b > a then b else a) then c else (if b > a then b else a)))
  | _ => none
/-! ### or by truth -/
/-! ### a fresh list given to be changed -/
end
/-! ### own lists read as if they stood fast; the answer is a plain one -/
def scT : D → Option Unit
  | .non => some ()
  | .bl _ => some ()
  | .int _ => some ()
  | .str _ => some ()
  | _ => none
def Slot.thw : Slot → Slot
  | .fr d => .fr d
  | .bw d => .fr d
  | .mu d => .fr d
  | .mp _ d => .fr d
  | _ => .un
def Slot.top : Slot → Bool
  | .bw _ => true
  | .mu _ => true
  | .mp _ _ => true
  | _ => false
/-- a thing's top, an instance's dict and its own lists -/
def Rch (H : Hp) (b a : Addr) : Prop := a = b ∨ ∃ C dx vs, H b = some (.ins C dx vs) ∧ (a = dx ∨ ∃ f, (f, V.ref a) ∈ vs)
open Classical in
/-- what stands fast, and the tops of all names' things -/
noncomputable def thwG (δ : List Slot) (σ : L2.St) (G H : Hp) : Hp := fun a => if ∃ (i : Nat) (sl : Slot) (b : Addr), δ[i]? = some sl ∧ sl.top = true ∧ σ[i]? = some (some (V.ref b)) ∧ Rch H b a then H a else G a
noncomputable def Kn.thw (en : Kn) (δ : List Slot) (σ : L2.St) (G H : Hp) : Kn := { en with G0 := thwG δ σ G H, F0 := H, ps := [] }
section
variable {K : PySem.W.Frag} {en : Kn} {δ : List Slot} {σ : L2.St} {G H : Hp}
theorem MRep.thw {G2 : Hp} (sg : Sub G G2) : ∀ {d : D} {p : Addr}, MRep K G H d p → G2 p = H p → Rep K G2 d (.ref p)
  | .lst ds, p, h, k => by obtain ⟨vs, e, r⟩ := h; exact ⟨p, vs, rfl, by rw [k]; exact e, Reps.sub sg _ _ r⟩
  | .dic ds, p, h, k => by obtain ⟨vs, e, r⟩ := h; exact ⟨p, vs, rfl, by rw [k]; exact e, RepKs.sub sg _ _ r⟩
  | .non, _, h, _ => h.elim
  | .bl _, _, h, _ => h.elim
  | .int _, _, h, _ => h.elim
  | .str _, _, h, _ => h.elim
  | .tup _, _, h, _ => h.elim
  | .scr _, _, h, _ => h.elim
  | .exc _ _, _, h, _ => h.elim
  | .obj _ _, _, h, _ => h.elim
end
section
variable {X : Cx} {en : Kn} {δ τ : List Slot} {R : Type} {C : Slot → List Slot → Res R → Prop} {m : Res R}
end
/-! ### a display of lists that are read alone, walked -/
def bws : List Slot → Option (List D)
  | [] => some []
  | .bw d :: r => (bws r).map (d :: ·)
  | _ :: _ => none
def BReps (K : PySem.W.Frag) (G F : Hp) : List D → List V → Prop
  | [], vs => vs = []
  | d :: ds, vs => ∃ v r, vs = v :: r ∧ BRep K G F d v ∧ BReps K G F ds r
section
variable {K : PySem.W.Frag} {en : Kn} {G G' H F : Hp}
theorem BReps.len : ∀ {ds : List D} {vs : List V}, BReps K G F ds vs → ds.length = vs.length
  | [], _, h => by rw [show _ = [] from h]; rfl
  | d :: ds, _, h => by
    obtain ⟨v, r, e, _, h2⟩ := h
    rw [e, List.length_cons, List.length_cons, BReps.len h2]
theorem BReps.get : ∀ {ds : List D} {vs : List V} {i : Nat} {d : D}, BReps K G F ds vs → ds[i]? = some d → ∃ v, vs[i]? = some v ∧ BRep K G F d v
  | [], _, _, _, _, e => by simp at e
  | d :: ds, _, 0, _, h, e => by
    obtain ⟨v, r, e', h1, _⟩ := h
    subst e'
    simp at e; subst e
    exact ⟨v, rfl, h1⟩
  | d :: ds, _, i + 1, _, h, e => by
    obtain ⟨v, r, e', _, h2⟩ := h
    subst e'
    obtain ⟨u, h3, h4⟩ := BReps.get (i := i) h2 (by simpa using e)
    exact ⟨u, by simpa using h3, h4⟩
end
section
variable {X : Cx} {en : Kn} {δ τ : List Slot} {R : Type} {C : Slot → List Slot → Res R → Prop} {m : Res R}
def ItB (K : PySem.W.Frag) (J : It) (Gb Fb : Hp) (ds : List D) : Prop := ∀ (G H : Hp), Sub Gb G → Sub Fb H → Sub G H → ∀ i : Nat,
  (∀ d, ds[i]? = some d → J.go i H ∧ ∀ x H', J.yld i H x H' → ∃ G', Grow G H G' H' ∧ BRep K G' Fb d x) ∧ (ds.length ≤ i → J.stop i H)
structure JIb (X : Cx) (en : Kn) (δ τ : List Slot) (tg iter : Expr) {R : Type} (C : List D → List Slot → Res R → Prop) (m : Res R) : Prop where
  run : m ≠ .bad → en.HX m.exc → ∀ (σ ts : L2.St) (G H : Hp) (T : It → Hp → Prop), δ.length = en.n → σ.length = en.n → Wd X.K en (δ ++ τ) (σ ++ ts) G H →
    (∀ ds δ' J G' H', C ds δ' m → δ'.length = en.n → Wd X.K en (δ' ++ τ) (σ ++ ts) G' H' → ItB X.K J G' en.F0 ds → T J H') → WI X tg iter σ H T
theorem BReps.sub {K : PySem.W.Frag} {G G' F F' : Hp} (g : Sub G G') (f : Sub F F') : ∀ {ds : List D} {vs : List V}, BReps K G F ds vs → BReps K G' F' ds vs
  | [], _, h => h
  | _ :: _, _, h => by
    obtain ⟨v, r, e, h1, h2⟩ := h
    exact ⟨v, r, e, BRep.sub g f h1, BReps.sub g f h2⟩
/-- a target that is a name -/
theorem tg_name (i : Nat) {x : Str} {pos : Pos} (hN : X.N.Nodup) (hi : X.N[i]? = some x := by rfl) (hx : Loc X.env.scope x := by first | exact Or.inl rfl | exact Or.inr rfl)
    (hf : X.fn x = true ∨ X.env.scope.names.lookup x = some .local := by first | exact .inl rfl | exact .inr rfl) : ∀ (v : V) (σ : L2.St) (H : Hp) (Q : L2.St → Hp → Prop), Q (σ.set i (some v)) H → WG X (.Name x pos) v σ H Q := fun v σ H Q q => wg_of (pg_name hN hi hx hf) q
/-- one item's block: the name is the item's, read alone -/
def TurnB (X : Cx) (scope : Scope) (en : Kn) (δw τ : List Slot) (tg elt : Expr) (ix : Nat) (d : D) (m : Res D) : Prop :=
  AllB X scope fun Y => (∀ (v : V) (σ : L2.St) (H : Hp) (Q : L2.St → Hp → Prop), Q (σ.set ix (some v)) H → WG Y tg v σ H Q) ∧ JE Y en (δw.set ix (.bw d)) τ elt (fun s δ3 m3 => ∃ y, s = .fr y ∧ m3 = .ok y ∧ Le (wipeS δ3 [ix]) δw ∧ noBo δ3 = true) m
theorem JIb.conv {tg iter : Expr} {C C' : List D → List Slot → Res R → Prop} (h : JIb X en δ τ tg iter C m) (k : ∀ ds δ', C ds δ' m → C' ds δ' m) : JIb X en δ τ tg iter C' m := .mk fun hb hx σ ts G H T hl hσ W q =>
  h.run hb hx σ ts G H T hl hσ W fun ds δ' J G' H' c hl' W' it => q ds δ' J G' H' (k _ _ c) hl' W' it
/-! ### a loop over a display of own lists, changed each -/
def ForN (X : Cx) (en : Kn) (ix : Nat) (e : Expr) {R : Type} (N : List Slot → Res R → Prop) (m : Res R) : List Nat → List Slot → Prop
  | [], δ => N δ m
  | i :: is, δ => ∃ δ', δ.set ix (.bo i) = δ' ∧ JE X en δ' [] e (fun _ δ1 m1 => ∃ δ2, Le δ1 δ2 ∧ noBo δ2 = true ∧ ForN X en ix e N m1 is δ2) m
end
end BR

/-! K46: defs called while an error is handled -/
namespace BR
open PySem PySem.Spec PyProof.Rows L2

/-! ### the end of a walk there -/
section
variable {prog : Program} {w : World} {A : Around} {E : Value → Shared → Prop} {s : Shared}
end
/-- the error that is handled is tracked, its context None -/
def HotH (X : Cx) (H : Hp) : Prop := ∃ (a : Addr) (oe : Obj) (vs : Array Value), X.A.handled = some (.ref a) ∧ H a = some (ExO1 oe) ∧ oe.data = .fields vs ∧ vs[2]? = some .none
theorem HotH.at {X : Cx} {pins : List (Addr × Obj)} {σ : L2.St} {H : Hp} {s : Shared} (h : HotH X H) (I : Inv X pins σ H s) : ∃ x1, HotX.HotAt X.A x1 s.heap := by
  obtain ⟨a, oe, vs, h1, h2, h3, h4⟩ := h
  have := (show ObjOk X.prog X.w H s.heap a (ExO1 oe) from I.hok a _ h2).1
  exact ⟨a, h1, oe, vs, this, h3, h4⟩
theorem HotH.sub {X : Cx} {H H' : Hp} (h : HotH X H) (s : Sub H H') : HotH X H' := by
  obtain ⟨a, oe, vs, h1, h2, h3, h4⟩ := h
  exact ⟨a, oe, vs, h1, s _ _ h2, h3, h4⟩
/-! ### a tuple taken apart there -/
section
variable {X : Cx} {pos : Pos}
end
section
variable {X : Cx} {en : Kn} {δ τ : List Slot} {R : Type} {m : Res R} {N : List Slot → Res R → Prop}
/-- .. from a def's entry on -/
def HotK (X : Cx) (en : Kn) : Prop := HotH X en.G0
theorem HotK.of (h : HotK X en) {Δ : List Slot} {S : L2.St} {G H : Hp} (W : Wd X.K en Δ S G H) : HotH X H := HotH.sub (HotH.sub h W.ext) W.sub
end
end BR

/-! K47: comprehensions and defs while an error is handled -/
namespace BR
open PySem PySem.Spec PyProof.Rows L2
def HotV (hd : Option Value) (H : Hp) : Prop := ∃ (a : Addr) (oe : Obj) (vs : Array Value), hd = some (.ref a) ∧ H a = some (ExO1 oe) ∧ oe.data = .fields vs ∧ vs[2]? = some .none
theorem HotV.sub {hd : Option Value} {H H' : Hp} (h : HotV hd H) (s : Sub H H') : HotV hd H' := by
  obtain ⟨a, oe, vs, h1, h2, h3, h4⟩ := h
  exact ⟨a, oe, vs, h1, s _ _ h2, h3, h4⟩
theorem HotV.at {X : Cx} {pins : List (Addr × Obj)} {σ : L2.St} {H : Hp} {s : Shared} (h : HotV X.A.handled H) (I : Inv X pins σ H s) : ∃ x1, HotX.HotAt X.A x1 s.heap := HotH.at (X := X) h I

structure TurnK (P : Program) (w : World) (K : PySem.W.Frag) (tg : Expr) (J : It) (fp : List Addr) (it : Addr) (tn : Nat → Heap → Prop) : Prop where
  mem : it ∈ fp
  obj : ∀ i h, tn i h → ∀ b ∈ fp, ∃ o, h.get? b = some o ∧ ∀ v, o.data ≠ .cell v
  keep : ∀ i h h', tn i h → (∀ b ∈ fp, ∀ o, h.get? b = some o → h'.get? b = some o) → tn i h'
  item : ∀ (X : Cx), X.prog = P → X.w = w → X.K = K → ∀ (i : Nat) (pins : List (Addr × Obj)) (s : Shared) (σ : L2.St) (H : Hp) (E : Value → Shared → Prop), Inv X pins σ H s → (∀ b ∈ fp, FpOk X pins H b) → tn i s.heap → J.go i H →
    wpAny (model P w) X.A (pyNext (.ref it)) (fun r s1 => ∃ u, r = some u ∧
      wpAny (model P w) X.A (letOwnedTupleGo tg (.ref it) u) (fun _ s2 => ∃ x H', Inv X pins σ H' s2 ∧ RelV x u ∧ J.yld i H x H' ∧ tn (i + 1) s2.heap ∧ ∀ b ∈ fp, H' b = none) E s1) E s
  done : ∀ (X : Cx), X.prog = P → X.w = w → X.K = K → ∀ (i : Nat) (pins : List (Addr × Obj)) (s : Shared) (σ : L2.St) (H : Hp) (E : Value → Shared → Prop), Inv X pins σ H s → (∀ b ∈ fp, FpOk X pins H b) → tn i s.heap → J.stop i H → HotV X.A.handled H →
    wpAny (model P w) X.A (pyNext (.ref it)) (fun r s1 => r = none ∧ Inv X pins σ H s1) E s
  self : ∀ (A : Around) (i : Nat) (s : Shared) (Q : Value → Shared → Prop) (E : Value → Shared → Prop), tn i s.heap → Q (.ref it) s → wpAny (model P w) A (pyIter (.ref it)) Q E s

def PIEK (X : Cx) (pins : List (Addr × Obj)) (σ : L2.St) (tg : Expr) (R : It → Hp → Prop) (itv : Value) (s2 : Shared) : Prop :=
  ∃ (it : Addr) (fp : List Addr) (tn : Nat → Heap → Prop) (J : It) (H' : Hp), itv = .ref it ∧ Inv X pins σ H' s2 ∧ TurnK X.prog X.w X.K tg J fp it tn ∧ tn 0 s2.heap ∧ (∀ b ∈ fp, FpOk X pins H' b) ∧ R J H'
structure PIK (X : Cx) (tg iter : Expr) (wi : TI) : Prop where
  run : ∀ (pins : List (Addr × Obj)) (s : Shared) (σ : L2.St) (H : Hp) (R : It → Hp → Prop), Inv X pins σ H s → wi σ H R →
    wpAny (model X.prog X.w) X.A (eval iter X.env) (fun v s1 => wpAny (model X.prog X.w) X.A (pyIter v) (PIEK X pins σ tg R) X.xe s1) X.xe s
abbrev WIK (X : Cx) (tg iter : Expr) : TI := fun σ H R => ∀ (pins : List (Addr × Obj)) (s : Shared), Inv X pins σ H s →
  wpAny (model X.prog X.w) X.A (eval iter X.env) (fun v s1 => wpAny (model X.prog X.w) X.A (pyIter v) (PIEK X pins σ tg R) X.xe s1) X.xe s
structure JIK (X : Cx) (en : Kn) (δ τ : List Slot) (tg iter : Expr) {R : Type} (C : List D → List Slot → Res R → Prop) (m : Res R) : Prop where
  run : m ≠ .bad → en.HX m.exc → ∀ (σ ts : L2.St) (G H : Hp) (T : It → Hp → Prop), δ.length = en.n → σ.length = en.n → Wd X.K en (δ ++ τ) (σ ++ ts) G H →
    (∀ ds δ' J G' H', C ds δ' m → δ'.length = en.n → Wd X.K en (δ' ++ τ) (σ ++ ts) G' H' → ItD X.K J G' en.F0 ds → T J H') → WIK X tg iter σ H T

theorem JIK.conv {X : Cx} {en : Kn} {δ τ : List Slot} {tg iter : Expr} {R : Type} {C C' : List D → List Slot → Res R → Prop} {m : Res R} (h : JIK X en δ τ tg iter C m) (k : ∀ ds δ1, C ds δ1 m → C' ds δ1 m) : JIK X en δ τ tg iter C' m := .mk fun hb hx σ ts G H T hl hσ W q =>
  h.run hb hx σ ts G H T hl hσ W fun ds δ1 J G1 H1 c => q ds δ1 J G1 H1 (k ds δ1 c)
def tLcK (hd : Option Value) (wi : TI) (g : TG) (tt : TT) (te : TE) (vs : List Nat) : TE := fun σ H Q => wi σ H fun J H1 => ∀ D, H1 D = none → ∃ W : Nat → Nat → Hp → Prop, (∃ m, W 0 m (upd H1 D (.lst []))) ∧ ∀ i m H, W i m H →
  (J.stop i H ∧ HotV hd H ∧ Q (.ref D) H) ∨ (J.go i H ∧ ∃ Nx : Hp → Prop, (∀ H', Nx H' → ∃ m', m' < m ∧ W (i + 1) m' H') ∧ ∀ x H', J.yld i H x H' → g x (wipe σ vs) H' fun σ2 H2 => wipe σ2 vs = wipe σ vs ∧ tt σ2 H2 fun b H3 =>
    if b = true then te σ2 H3 fun y H4 => ∃ acc, H4 D = some (.lst acc) ∧ acc.length < sizeLine ∧ Nx (upd H4 D (.lst (acc ++ [y]))) else Nx H3)
section
variable {X : Cx} {en : Kn} {δ τ : List Slot} {R : Type} {C : Slot → List Slot → Res R → Prop} {m : Res R} {K : PySem.W.Frag}

end


/-! ### defs called there -/
structure RoomK (k : Nat) (A : Around) : Prop where
  dp : A.depth + 3 * k + 5 < recursionLimit
  un : A.units + 16 * k + 200 < cLine
  g : A.guards = some []
theorem RoomK.mono {j k : Nat} {A : Around} (r : RoomK k A) (h : j ≤ k) : RoomK j A := ⟨by have := r.dp; omega, by have := r.un; omega, r.g⟩
theorem RoomK.hu {k : Nat} {A : Around} (h : RoomK k A) : A.units + 64 < cLine := by
  have := h.un
  omega
theorem RoomK.hu5 {k : Nat} {A : Around} (h : RoomK k A) : A.units + 65 < cLine := by
  have := h.un
  omega
theorem RoomK.depth {k : Nat} {A : Around} (r : RoomK k A) : A.depth < recursionLimit := by have := r.dp; omega
theorem RoomK.deeper {k : Nat} {A : Around} (r : RoomK (k + 1) A) (env : Env) : RoomK k (A.deeper env) :=
  ⟨by have := r.dp; show A.depth + 1 + 3 * k + 5 < _; omega, by have := r.un; show A.units + 3 + 16 * k + 200 < _; omega, r.g⟩
/-- the context of such a def's body -/
abbrev cxK (CX : CXT) (P : Program) (w : World) (K : PySem.W.Frag) (mg : Str → Option Value) (base : Heap) (N : List Str) (qual : Str) (scope : Scope) (f : Addr) (cd : Value) (A : Around) (outer : List Env) (s : Shared) (H : Hp) (E : XK) : Cx :=
  { cxOf CX P w K mg base N qual scope f cd A outer s H E with calm := false }

/-- a def keeps its promise there -/
structure FnGH (P : Program) (w : World) (K : PySem.W.Frag) (mg : Str → Option Value) (base : Heap) (k : Nat) (f : Addr) (fd : FuncData) (ps : List Str) (sp : Option Value → Sp) : Prop where
  len : ∀ hd vs H Q E, sp hd vs H Q E → vs.length = ps.length
  run : ∀ (A : Around) (outer : List Env) (s : Shared) (H : Hp) (args : Args) (us : List Value) (vs : List V) (Q : VK) (E : XK),
    RoomK k A → Env0 P w K mg base A outer s H → BindsTo s fd args (ps.zip us) → Vals vs us → sp A.handled vs H Q E →
    codeAny (model P w) A (.call (.ref f) args) (CR (L2N.CX P w) outer P w H s Q E) s
section
variable {P : Program} {w : World} {K : PySem.W.Frag} {mg : Str → Option Value} {base : Heap}

def SpDH (K : PySem.W.Frag) (mg : Str → Option Value) (ks : List Kd) {α : Type} (f : List D → Res α) (val : α → D) (outs : α → List D) (mu : Bool) (hd : Option Value) : Sp := fun vs H Q E =>
  vs.length = ks.length ∧ ∃ (G : Hp) (ps : List Addr) (ds : List D) (r : Res α), Sub G H ∧ ps.Nodup ∧ ArgsOk K G H (hide H ps) ks ds vs ps ∧ f ds = r ∧ r ≠ .bad ∧ HotV hd G ∧
    (∀ a, r = .ok a → ∀ v G' H', Post G H G' H' ps → OutsOk K G' H' (outs a) ps → RetOk K G' H H' mu (val a) v → Q v H') ∧
    (∀ x, r = .raise x → ∀ cls d H', ExcOk mg (hide H ps) ps x cls d H' → Sub (hide H ps) H' → E cls d H')

end
/-- a def of the module that keeps its promise there -/
def DfH (P : Program) (w : World) (K : PySem.W.Frag) (mg : Str → Option Value) (base : Heap) (k : Nat) (x : Str) (ks : List Kd) {α : Type} (den : List D → Res α) (val : α → D) (outs : α → List D) (mu : Bool) : Prop :=
  ∃ (f : Addr) (fd : FuncData) (psn : List Str), FnGH P w K mg base k f fd psn (SpDH K mg ks den val outs mu) ∧ mg x = some (.ref f) ∧ PySem.W.keepIn K (.ref f) = true ∧ Binds K fd psn []
/-- an error is none of the answers -/
def noX {α : Type} (m : Res α) : Res α := match m with
  | .ok a => .ok a
  | _ => .bad
section
variable {X : Cx} {k : Nat} {f : Addr} {fd : FuncData} {ps : List Str} {sp : Option Value → Sp} {E : XK} {x : Str} {p pos : Pos} {e : Expr} {es : List Expr} {t : TA}
end
section
variable {X : Cx} {en : Kn} {δ τ : List Slot} {R : Type} {C : Slot → List Slot → Res R → Prop} {m : Res R} {K : PySem.W.Frag}

end
section
variable {X : Cx} {en : Kn} {δ : List Slot} {R : Type} {m : Res R} {N : List Slot → Res R → Prop} {RT : Slot → List Slot → Res R → Prop} {BK CT : List Slot → Res R → Prop} {rest : List Stmt}
end
end BR

/-! K48: list(range(a, b)) of numbers of any size -/
namespace BR
open PySem PySem.Spec PyProof.Rows L2
section
open PySem.AutoSeq1
variable {prog : Program} {w : World} {A : Around} {E : Value → Shared → Prop} {s : Shared}
end
def tLstRB (te : L2.St → Hp → (Int → Int → Hp → Prop) → Prop) : TE := fun σ H Q => te σ H fun a b H1 => (b - a).toNat ≤ 2 ^ 24 ∧ ∀ q, H1 q = none → Q (.ref q) (upd H1 q (.lst (rgV a b)))
/-- the numbers of list(range(a, b)) -/
def lrgB : D → D → Option (List D)
  | .int i, .int j => if (j - i).toNat ≤ 2 ^ 24 then some (upto i (j - i).toNat) else none
  | _, _ => none
section
variable {X : Cx} {en : Kn} {δ τ : List Slot} {R : Type} {C : Slot → List Slot → Res R → Prop} {m : Res R}
end
end BR

/-! W1: plain runs -/
namespace BR
open PySem PySem.Spec PyProof.Rows L2
theorem op_s {α R : Type} {a : α} {k : α → Res R} : op (some a) k = k a := rfl
theorem bind_s {α R : Type} {a : α} {k : α → Res R} : (Res.ok a).bind k = k a := rfl
theorem nat_lt_of {a : Int} {n : Nat} (h0 : 0 ≤ a) (h : a < (2 : Int) ^ n) : a.natAbs < 2 ^ n := by
  have : ((a.natAbs : Nat) : Int) < ((2 ^ n : Nat) : Int) := by
    rw [Int.natAbs_of_nonneg h0]
    simpa using h
  exact Int.ofNat_lt.mp this
theorem log_le {a : Int} {n : Nat} (h0 : 0 ≤ a) (h : a < (2 : Int) ^ n) : a.natAbs.log2 ≤ n := by
  by_cases z : a.natAbs = 0
  · have e : Nat.log2 0 = 0 := by decide
    rw [z, e]; exact Nat.zero_le _
  · exact Nat.le_of_lt ((Nat.log2_lt z).mpr (nat_lt_of h0 h))
theorem bits_le {a : Int} {n : Nat} (h0 : 0 ≤ a) (h : a < (2 : Int) ^ n) : Builtin.Int.intBits a ≤ n := by
  unfold Builtin.Int.intBits
  split
  · exact Nat.zero_le _
  · rename_i z
    have z' : a.natAbs ≠ 0 := fun e => z (by simpa using Int.natAbs_eq_zero.mp e)
    exact (Nat.log2_lt z').mpr (nat_lt_of h0 h)
theorem addI {a b : Int} : addD (.int a) (.int b) = some (.int (a + b)) := rfl
theorem subI {a b : Int} : subD (.int a) (.int b) = some (.int (a - b)) := rfl
theorem negI {a : Int} : negD (.int a) = some (.int (-a)) := rfl
theorem gtI {a b : Int} : gtD (.int a) (.int b) = some (decide (b < a)) := rfl
theorem geI {a b : Int} : geD (.int a) (.int b) = some (decide (b ≤ a)) := rfl
theorem ltI {a b : Int} : ltD (.int a) (.int b) = some (decide (a < b)) := rfl
theorem leI {a b : Int} : leD (.int a) (.int b) = some (decide (a ≤ b)) := rfl
theorem eqI {a b : Int} : eqD (.int a) (.int b) = some (decide (a = b)) := rfl
theorem modI {a b : Int} (h : 0 < b) : modD (.int a) (.int b) = some (.int (a % b)) := if_pos h
theorem divI {a b : Int} (h : 0 < b) (hz : b < 2 ^ 250) : fdivD (.int a) (.int b) = some (.int (a / b)) := if_pos ⟨h, Nat.lt_of_le_of_lt (log_le (Int.le_of_lt h) hz) (by decide)⟩
theorem mulI {a b : Int} (h0 : 0 ≤ a) (h : a < 2 ^ 250) (g0 : 0 ≤ b) (g : b < 2 ^ 250) : mulD (.int a) (.int b) = some (.int (a * b)) := if_pos (by
  have := log_le h0 h
  have := log_le g0 g
  omega)
theorem powI {a b : Int} (h : 0 ≤ b ∧ (Builtin.Int.intBits a : Int) * b ≤ 2 ^ 27) : powD (.int a) (.int b) = some (.int (a ^ b.toNat)) := if_pos h
theorem pow3 {a : Int} (h0 : 0 ≤ a) (h : a < 2 ^ 250) : powD (.int a) (.int 3) = some (.int (a ^ 3)) := powI ⟨by decide, by
  have := bits_le h0 h
  have : (Builtin.Int.intBits a : Int) ≤ 250 := by exact_mod_cast this
  omega⟩
theorem pow5 {a : Int} (h0 : 0 ≤ a) (h : a < 2 ^ 250) : powD (.int a) (.int 5) = some (.int (a ^ 5)) := powI ⟨by decide, by
  have := bits_le h0 h
  have : (Builtin.Int.intBits a : Int) ≤ 250 := by exact_mod_cast this
  omega⟩
theorem p10_18 : powD (.int 10) (.int 18) = some (.int (10 ^ 18)) := powI (by decide)
theorem p10_37 : powD (.int 10) (.int 37) = some (.int (10 ^ 37)) := powI (by decide)
theorem p10_38 : powD (.int 10) (.int 38) = some (.int (10 ^ 38)) := powI (by decide)
theorem p10_40 : powD (.int 10) (.int 40) = some (.int (10 ^ 40)) := powI (by decide)
/-- a loop that keeps P, i the turns done -/
theorem forS_ok {S : Type} {f : D → S → Res S} (P : Nat → S → Prop) (I : Nat) : ∀ {ds : List D} {s : S} {i : Nat}, P i s → i + ds.length ≤ I → (∀ d, d ∈ ds → ∀ s i, i < I → P i s → ∃ s', f d s = .ok s' ∧ P (i + 1) s') → ∃ r, forS ds s f = .ok r ∧ P (i + ds.length) r
  | [], s, i, h, _, _ => ⟨s, rfl, h⟩
  | d :: ds, s, i, h, hI, hf => by
    rw [List.length_cons] at hI
    obtain ⟨s', e, h'⟩ := hf d List.mem_cons_self s i (by omega) h
    unfold forS
    rw [e, bind_s]
    obtain ⟨r, e2, h2⟩ := forS_ok P I h' (by omega) fun d hd => hf d (List.mem_cons_of_mem _ hd)
    exact ⟨r, e2, by rw [List.length_cons]; rw [show i + (ds.length + 1) = i + 1 + ds.length by omega]; exact h2⟩
theorem forF_ok {S R : Type} {f : D → S → Res (LFlow S R)} (P : Nat → S → Prop) (I : Nat) : ∀ {ds : List D} {s : S} {i : Nat}, P i s → i + ds.length ≤ I → (∀ d, d ∈ ds → ∀ s i, i < I → P i s → ∃ s', f d s = .ok (.nx s') ∧ P (i + 1) s') → ∃ r, forF ds s f = .ok (.nx r) ∧ P (i + ds.length) r
  | [], s, i, h, _, _ => ⟨s, rfl, h⟩
  | d :: ds, s, i, h, hI, hf => by
    rw [List.length_cons] at hI
    obtain ⟨s', e, h'⟩ := hf d List.mem_cons_self s i (by omega) h
    unfold forF
    rw [e]
    obtain ⟨r, e2, h2⟩ := forF_ok P I h' (by omega) fun d hd => hf d (List.mem_cons_of_mem _ hd)
    exact ⟨r, e2, by rw [List.length_cons]; rw [show i + (ds.length + 1) = i + 1 + ds.length by omega]; exact h2⟩
theorem rng1 {n : Int} (h0 : 0 ≤ n) (h : n < 2 ^ 62) : rngD [.int n] = some (upto 0 n.toNat) := if_pos ⟨by omega, h⟩
theorem upto_mem {n : Nat} {d : D} (h : d ∈ upto 0 n) : ∃ i : Nat, i < n ∧ d = .int i := by
  obtain ⟨i, hi, e⟩ := List.mem_map.mp h
  exact ⟨i, List.mem_range.mp hi, by rw [← e, Int.zero_add]⟩
theorem upto_len {n : Nat} {l : Int} : (upto l n).length = n := by simp [upto]
theorem lcF_okI {S : Type} {f : D → S → Res (Option D × S)} (P : Nat → S → List D → Prop) (I : Nat) : ∀ {ds : List D} {s : S} {acc : List D} {i : Nat}, P i s acc → acc.length + ds.length < 1000000 → i + ds.length ≤ I →
    (∀ d, d ∈ ds → ∀ i s acc, i < I → P i s acc → ∃ y s', f d s = .ok (y, s') ∧ P (i + 1) s' (match y with | some y => acc ++ [y] | none => acc)) →
    ∃ r, lcF ds s acc f = .ok r ∧ P (i + ds.length) r.2 r.1
  | [], s, acc, i, h, _, _, _ => ⟨(acc, s), rfl, h⟩
  | d :: ds, s, acc, i, h, hl, hI, hf => by
    rw [List.length_cons] at hl hI
    obtain ⟨y, s', e, h'⟩ := hf d List.mem_cons_self i s acc (by omega) h
    unfold lcF
    rw [e]
    have ei : i + (d :: ds).length = i + 1 + ds.length := by rw [List.length_cons]; omega
    rw [ei]
    cases y with
    | some y =>
      have hz : acc.length < sizeLine := Nat.lt_of_lt_of_le (show acc.length < 1000000 by omega) (by decide)
      simp only [hz, if_true]
      exact lcF_okI P I h' (by rw [List.length_append, List.length_singleton]; omega) (by omega) fun d hd => hf d (List.mem_cons_of_mem _ hd)
    | none => exact lcF_okI P I h' (by omega) (by omega) fun d hd => hf d (List.mem_cons_of_mem _ hd)
theorem small_lt {n : Nat} (h : n < 1000000) : n < sizeLine := Nat.lt_of_lt_of_le h (by decide)
theorem small_le {n : Nat} (h : n < 1000000) : n ≤ sizeLine := Nat.le_of_lt (small_lt h)
theorem min2I {a b : Int} : min2D [.int a, .int b] = some (.int (if b < a then b else a)) := rfl
theorem max2I {a b : Int} : max2D [.int a, .int b] = some (.int (if b > a then b else a)) := rfl
theorem app1 {ds : List D} {d : D} (h : ds.length < 1000000) : appL ds [d] = some (.non, ds ++ [d]) := if_pos (small_lt h)
theorem abs_ok {a : Int} : absD [.int a] = some (.int (if a < 0 then -a else a)) := rfl
theorem asB_ok (b : Bool) : asB (.bl b) = some b := rfl
theorem tru_ok (b : Bool) : truD (.bl b) = some b := rfl
def Sz (n w : Nat) (d : D) : Prop := noS d = true ∧ (toP d).showable = true ∧ (toP d).leavesShort 600 = true ∧ (toP d).depth ≤ n ∧ (toP d).weight ≤ w
theorem Sz.mono {n w n' w' : Nat} {d : D} (h : Sz n w d) (h1 : n ≤ n') (h2 : w ≤ w') : Sz n' w' d := ⟨h.1, h.2.1, h.2.2.1, Nat.le_trans h.2.2.2.1 h1, Nat.le_trans h.2.2.2.2 h2⟩
theorem bls_map {p : D → Bool} : ∀ ds : List D, bls (ds.map fun d => .bl (p d)) = some (ds.map p)
  | [] => rfl
  | d :: ds => by
    show (bls (ds.map fun d => .bl (p d))).map (p d :: ·) = _
    rw [bls_map ds]; rfl
theorem addL {a b : List D} (h : a.length + b.length < 1000000) : addD (.lst a) (.lst b) = some (.lst (a ++ b)) := if_pos (small_le h)
def Ok {α : Type} (m : Res α) (Q : α → Prop) : Prop := ∃ a, m = .ok a ∧ Q a
theorem Ok.ret {α : Type} {a : α} {Q : α → Prop} (h : Q a) : Ok (.ok a) Q := ⟨a, rfl, h⟩
theorem Ok.bnd {α β : Type} {m : Res α} {k : α → Res β} {P : α → Prop} {Q : β → Prop} (h : Ok m P) (g : ∀ a, P a → Ok (k a) Q) : Ok (m.bind k) Q := by
  obtain ⟨a, e, p⟩ := h
  obtain ⟨b, e2, q⟩ := g a p
  exact ⟨b, by rw [e, bind_s, e2], q⟩
theorem Ok.mono {α : Type} {m : Res α} {P Q : α → Prop} (h : Ok m P) (g : ∀ a, P a → Q a) : Ok m Q := by
  obtain ⟨a, e, p⟩ := h
  exact ⟨a, e, g a p⟩
theorem Ok.op {α β : Type} {o : Option α} {a : α} {k : α → Res β} {Q : β → Prop} (e : o = some a) (h : Ok (k a) Q) : Ok (op o k) Q := by
  subst e; exact h
theorem Ok.ite {α : Type} {b : Prop} [Decidable b] {m n : Res α} {Q : α → Prop} (h : b → Ok m Q) (g : ¬b → Ok n Q) : Ok (if b then m else n) Q := by
  by_cases hb : b
  · rw [if_pos hb]; exact h hb
  · rw [if_neg hb]; exact g hb
theorem Ok.fbn {S R : Type} {m : Res (Flow S R)} {k : S → Res R} {P : S → Prop} {Q : R → Prop} (h : Ok m fun f => ∃ s, f = .nx s ∧ P s) (g : ∀ s, P s → Ok (k s) Q) : Ok (fbind m k) Q := by
  obtain ⟨a, e, s, rfl, p⟩ := h
  obtain ⟨b, e2, q⟩ := g s p
  exact ⟨b, by rw [e]; exact e2, q⟩
theorem Ok.eq {α : Type} {m : Res α} {a : α} (h : Ok m fun x => x = a) : m = .ok a := by
  obtain ⟨b, e, rfl⟩ := h; exact e
theorem Ok.of {α : Type} {m : Res α} {a : α} (h : m = .ok a) : Ok m fun x => x = a := ⟨a, h, rfl⟩
theorem Ok.forN {S R : Type} {f : D → S → Res (LFlow S R)} (P : Nat → S → Prop) (I : Nat) {ds : List D} {s : S} (h0 : P 0 s) (hI : ds.length ≤ I) (hf : ∀ d, d ∈ ds → ∀ s i, i < I → P i s → Ok (f d s) fun r => ∃ s', r = .nx s' ∧ P (i + 1) s') : Ok (forF ds s f) fun r => ∃ s', r = .nx s' ∧ P ds.length s' := by
  obtain ⟨r, e, h⟩ := forF_ok (f := f) P I (ds := ds) (s := s) (i := 0) h0 (by omega) (fun d hd s i hi h => by
    obtain ⟨_, e, s', rfl, h'⟩ := hf d hd s i hi h
    exact ⟨s', e, h'⟩)
  exact ⟨_, e, r, rfl, by rw [Nat.zero_add] at h; exact h⟩
theorem Ok.call {α β : Type} {m : Res α} {a : α} {k : α → Res β} {Q : β → Prop} (e : m = .ok a) (h : Ok (k a) Q) : Ok (m.bind k) Q := by
  subst e; exact h
end BR

/-! W2: plain runs over typed data -/
namespace BR
open PySem PySem.Spec PyProof.Rows L2

/-! ### walks of typed lists -/
theorem lc_map {X S : Type} {f : D → S → Res (Option D × S)} {e g : X → D} {s : S} {xs : List X} (hl : xs.length < 1000000) (h : ∀ x, x ∈ xs → f (e x) s = .ok (some (g x), s)) : lcF (xs.map e) s [] f = .ok (xs.map g, s) := by
  have key : ∀ {xs : List X} {acc : List D}, acc.length + xs.length < 1000000 → (∀ x, x ∈ xs → f (e x) s = .ok (some (g x), s)) → lcF (xs.map e) s acc f = .ok (acc ++ xs.map g, s) := by
    intro xs
    induction xs with
    | nil => intro acc _ _; simp [lcF]
    | cons x xs ih =>
      intro acc hl h
      rw [List.length_cons] at hl
      rw [List.map_cons]
      unfold lcF
      rw [h x List.mem_cons_self]
      have hz : acc.length < sizeLine := small_lt (by omega)
      simp only [hz, if_true]
      rw [ih (by rw [List.length_append, List.length_singleton]; omega) fun y hy => h y (List.mem_cons_of_mem _ hy)]
      simp
  have := key (acc := []) (by simpa using hl) h
  simpa using this
theorem Ok.lc {S : Type} {f : D → S → Res (Option D × S)} (P : Nat → S → List D → Prop) (I : Nat) {ds : List D} {s : S} (h0 : P 0 s []) (hI : ds.length ≤ I) (hz : ds.length < 1000000)
    (hf : ∀ d, d ∈ ds → ∀ i s acc, i < I → P i s acc → Ok (f d s) fun r => P (i + 1) r.2 (match r.1 with | some y => acc ++ [y] | none => acc)) : Ok (lcF ds s [] f) fun r => P ds.length r.2 r.1 := by
  obtain ⟨r, e, h⟩ := lcF_okI (f := f) P I (ds := ds) (s := s) (acc := []) (i := 0) h0 (by simpa using hz) (by omega) (fun d hd i s acc hi h => by
    obtain ⟨⟨y, s'⟩, e, h'⟩ := hf d hd i s acc hi h
    exact ⟨y, s', e, h'⟩)
  exact ⟨r, e, by rw [Nat.zero_add] at h; exact h⟩
theorem Ok.for {S : Type} {f : D → S → Res S} (P : Nat → S → Prop) (I : Nat) {ds : List D} {s : S} (h0 : P 0 s) (hI : ds.length ≤ I) (hf : ∀ d, d ∈ ds → ∀ s i, i < I → P i s → Ok (f d s) (P (i + 1))) : Ok (forS ds s f) (P ds.length) := by
  obtain ⟨r, e, h⟩ := forS_ok (f := f) P I (ds := ds) (s := s) (i := 0) h0 (by omega) (fun d hd s i hi h => by
    obtain ⟨s', e, h'⟩ := hf d hd s i hi h
    exact ⟨s', e, h'⟩)
  exact ⟨r, e, by rw [Nat.zero_add] at h; exact h⟩
theorem Ok.both {α : Type} {m : Res α} {P Q : α → Prop} (h : Ok m P) (g : Ok m Q) : Ok m fun a => P a ∧ Q a := by
  obtain ⟨a, e, p⟩ := h
  obtain ⟨b, e2, q⟩ := g
  rw [e] at e2
  cases e2
  exact ⟨a, e, p, q⟩
/-- the loop of a law's first cells: at most n of them -/
theorem cells {ns : List Int} {n : Int} (hn : 1 ≤ n) (h : n < 1000) : ∃ k : Int, (if (if (ns.length : Int) < n then (ns.length : Int) else n) > 1 then (if (ns.length : Int) < n then (ns.length : Int) else n) else 1) = k ∧ 0 ≤ k ∧ k ≤ n := ⟨_, rfl, by split <;> split <;> omega, by split <;> split <;> omega⟩

/-! ### places -/
theorem ix_at {ds : List D} {i : Nat} {d : D} (h : ds[i]? = some d) : ixD (.lst ds) (.int i) = some d := by
  have hi := (List.getElem?_eq_some_iff.mp h).1
  show atI ds i = _
  unfold atI ixN
  rw [if_pos (by omega), if_pos (by omega)]
  simpa using h
theorem ix_last {ds : List D} {d : D} : ixD (.lst (ds ++ [d])) (.int (-1)) = some d := by
  show atI _ _ = _
  unfold atI ixN
  rw [if_neg (by omega), if_pos (by simp; omega)]
  have e : (-1 + (((ds ++ [d]).length : Nat) : Int)).toNat = ds.length := by simp; omega
  rw [e]
  simp
theorem ix_0 {ds : List D} {d : D} : ixD (.lst (d :: ds)) (.int 0) = some d := ix_at (i := 0) rfl
theorem asI_ok {i : Int} : asI (.int i) = some i := rfl
theorem lenE {X : Type} {e : X → D} {xs : List X} : lenD [.lst (xs.map e)] = some (.int xs.length) := by
  show some (D.int (xs.map e).length) = _
  rw [List.length_map]
theorem lenET {X : Type} {e : X → D} {xs : List X} : lenD [.tup (xs.map e)] = some (.int xs.length) := by
  show some (D.int (xs.map e).length) = _
  rw [List.length_map]
theorem cutA_lst {ds : List D} {l u : Option Int} : cutA (.lst ds) l u = some (.lst (cutD ds l u)) := rfl
theorem cut_back {ds : List D} {i : Nat} (h : i ≤ ds.length) : cutD ds (some i) none = ds.drop i := by
  unfold cutD HT.sIx
  simp only []
  rw [if_neg (by omega)]
  have : min (i : Int).toNat ds.length = i := by omega
  rw [this]
  rw [List.take_of_length_le (by simp)]
/-! ### one and the same -/
def Shp (n : Nat) (d : D) : Prop := (toP d).canLay0 = true ∧ (toP d).depth ≤ n
theorem Shp.mono {n k : Nat} {d : D} (h : Shp n d) (l : n ≤ k) : Shp k d := ⟨h.1, Nat.le_trans h.2 l⟩
theorem shp_int {i : Int} : Shp 0 (.int i) := ⟨rfl, by simp [toP, PyData.depth]⟩
theorem shp_non : Shp 0 .non := ⟨rfl, by simp [toP, PyData.depth]⟩
theorem shp_all {n : Nat} : ∀ {ds : List D}, (∀ x, x ∈ ds → Shp n x) → PyData.canLayAll0 (toPs ds) = true ∧ PyData.depthAll (toPs ds) ≤ n
  | [], _ => ⟨rfl, Nat.zero_le _⟩
  | d :: ds, h => by
    obtain ⟨a1, a2⟩ := h d List.mem_cons_self
    obtain ⟨b1, b2⟩ := shp_all (ds := ds) fun x hx => h x (List.mem_cons_of_mem _ hx)
    refine ⟨by simp [toPs, PyData.canLayAll0, a1, b1], ?_⟩
    simp only [toPs, PyData.depthAll]; omega
theorem shp_lst {n : Nat} {ds : List D} (h : ∀ x, x ∈ ds → Shp n x) : Shp (n + 1) (.lst ds) := by
  obtain ⟨b1, b2⟩ := shp_all h
  refine ⟨by simpa [toP, PyData.canLay0] using b1, ?_⟩
  simp only [toP, PyData.depth]; omega
theorem shp_tup {n : Nat} {ds : List D} (h : ∀ x, x ∈ ds → Shp n x) : Shp (n + 1) (.tup ds) := by
  obtain ⟨b1, b2⟩ := shp_all h
  refine ⟨by simpa [toP, PyData.canLay0] using b1, ?_⟩
  simp only [toP, PyData.depth]; omega
theorem Shp.shaped {d : D} (h : Shp 60 d) : SeqAt.shaped (toP d) = true := by
  unfold SeqAt.shaped
  rw [h.1, Bool.true_and]
  exact decide_eq_true (Nat.le_trans h.2 (by decide))
theorem eqD_shp {d e : D} (h : Shp 60 d) (g : Shp 60 e) (hd : ∀ a b, d = .int a → e = .int b → False) (hs : ∀ a b, d = .str a → e = .str b → False) (hb : ∀ a b, d = .bl a → e = .bl b → False) : eqD d e = some (PyData.eqv (toP d) (toP e)) := by
  have key : eqD d e = if SeqAt.shaped (toP d) = true ∧ SeqAt.shaped (toP e) = true then some (PyData.eqv (toP d) (toP e)) else none := by
    unfold eqD
    split
    · exact (hd _ _ rfl rfl).elim
    · exact (hs _ _ rfl rfl).elim
    · exact (hb _ _ rfl rfl).elim
    · rfl
  rw [key, if_pos ⟨h.shaped, g.shaped⟩]
theorem eq_same {d : D} (h : Shp 60 d) : eqD d d = some true := by
  have key : (eqD d d = if SeqAt.shaped (toP d) = true ∧ SeqAt.shaped (toP d) = true then some (PyData.eqv (toP d) (toP d)) else none) ∨ eqD d d = some true := by
    cases d <;> first | exact .inl rfl | exact .inr (by simp [eqD])
  rcases key with e | e
  · rw [e, if_pos ⟨h.shaped, h.shaped⟩, SeqAt.eqv_refl _ h.1]
  · exact e
theorem ne_same {d : D} (h : Shp 60 d) : neD d d = some false := by
  unfold neD
  rw [eq_same h]; rfl
theorem neI {a b : Int} : neD (.int a) (.int b) = some (!decide (a = b)) := rfl
theorem neS {a : Str} : neD (.str a) (.str a) = some false := by simp [neD, eqD]
theorem eqS {a : Str} : eqD (.str a) (.str a) = some true := by simp [eqD]
theorem bls_ok : ∀ {ns : List Bool}, bls (ns.map D.bl) = some ns
  | [] => rfl
  | n :: ns => by
    show (bls (ns.map D.bl)).map _ = _
    rw [bls_ok]; rfl
theorem all_ok {ns : List Bool} : allD [.lst (ns.map D.bl)] = some (.bl (ns.all id)) := by
  show (bls (ns.map D.bl)).map _ = _
  rw [bls_ok]; rfl
theorem eq_nil {ds : List D} (h : Shp 60 (.lst ds)) : eqD (.lst ds) (.lst []) = some ds.isEmpty := by
  rw [eqD_shp h ((shp_lst (n := 0) (by simp)).mono (by omega)) (fun _ _ h => nomatch h) (fun _ _ h => nomatch h) (fun _ _ h => nomatch h)]
  cases ds <;> rfl
theorem ne_nil {ds : List D} (h : Shp 60 (.lst ds)) : neD (.lst ds) (.lst []) = some (!ds.isEmpty) := by
  unfold neD
  rw [eq_nil h]; rfl
/-- side by side -/
def adj {X : Type} (p : X → X → Bool) : List X → Bool
  | x :: y :: r => p x y && adj p (y :: r)
  | _ => true
theorem all_zip {X : Type} {p : X → X → Bool} : ∀ {xs : List X}, ((xs.zip (xs.drop 1)).map fun z => p z.1 z.2).all id = adj p xs
  | [] => rfl
  | [x] => rfl
  | x :: y :: r => by
    have ih := all_zip (p := p) (xs := y :: r)
    simp only [List.drop_succ_cons, List.drop_zero, List.zip_cons_cons, List.map_cons, List.all_cons, id] at ih ⊢
    rw [ih]; rfl
theorem pairs_map {X Y : Type} {e : X → D} {e2 : Y → D} : ∀ {xs : List X} {ys : List Y}, pairs (xs.map e) (ys.map e2) = (xs.zip ys).map fun z => .tup [e z.1, e2 z.2]
  | [], _ => by simp [pairs]
  | _ :: _, [] => rfl
  | x :: xs, y :: ys => by
    show _ :: pairs (xs.map e) (ys.map e2) = _
    rw [pairs_map]; rfl
theorem zip_lst {X Y : Type} {e : X → D} {e2 : Y → D} {xs : List X} {ys : List Y} : zipX (.lst (xs.map e)) (.lst (ys.map e2)) = some ((xs.zip ys).map fun z => .tup [e z.1, e2 z.2]) := by
  show some (pairs _ _) = _
  rw [pairs_map]
/-- whether p fails at a place and the next one -/
def gap {X : Type} (p : X → X → Bool) (xs : List X) (k : Nat) : Bool := match xs[k]?, xs[k + 1]? with
  | some a, some c => !p a c
  | _, _ => false
/-! ### sayings -/
abbrev Say := Int × Option Int
def eO : Option Int → D
  | none => .non
  | some b => .int b
def eS (s : Say) : D := .tup [.int s.1, eO s.2]
def okS (B : Int) (s : Say) : Prop := 0 ≤ s.1 ∧ s.1 < B ∧ ∀ b, s.2 = some b → s.1 ≤ b ∧ b < B
theorem shp_eS {s : Say} : Shp 1 (eS s) := shp_tup fun x hx => by
  obtain ⟨a, b⟩ := s
  simp only [List.mem_cons, List.not_mem_nil, or_false] at hx
  rcases hx with rfl | rfl
  · exact shp_int
  · cases b
    · exact shp_non
    · exact shp_int
theorem shp_row {xs : List Say} : Shp 2 (.lst (xs.map eS)) := shp_lst fun x hx => by
  obtain ⟨i, _, rfl⟩ := List.mem_map.mp hx; exact shp_eS
theorem typed {X : Type} {e : X → D} {p : X → Prop} : ∀ {ds : List D}, (∀ d, d ∈ ds → ∃ x, d = e x ∧ p x) → ∃ xs : List X, ds = xs.map e ∧ ∀ x, x ∈ xs → p x
  | [], _ => ⟨[], rfl, by simp⟩
  | d :: ds, h => by
    obtain ⟨x, rfl, hp⟩ := h d List.mem_cons_self
    obtain ⟨xs, rfl, hps⟩ := typed (ds := ds) fun d hd => h d (List.mem_cons_of_mem _ hd)
    refine ⟨x :: xs, rfl, fun y hy => ?_⟩
    rcases List.mem_cons.mp hy with rfl | hy
    · exact hp
    · exact hps y hy
/-- whether a saying is true of so many -/
def so (s : Say) (c : Int) : Bool := decide (s.1 ≤ c) && (match s.2 with | none => true | some b => decide (c ≤ b))
def b2 (b : Bool) : Int := if b then 1 else 0
def tot : List Say → Int → Int
  | [], c => c
  | s :: r, c => tot r c + b2 (so s (tot r c))
def tots : List Say → Int → List Int
  | [], c => [c]
  | s :: r, c => tot (s :: r) c :: tots r c
theorem okS.mono {B C : Int} {s : Say} (h : okS B s) (l : B ≤ C) : okS C s := ⟨h.1, by have := h.2.1; omega, fun b e => by have := h.2.2 b e; omega⟩
def words (xs : List Say) (c : Int) : List Bool := match xs with
  | [] => []
  | s :: r => so s (tot r c) :: words r c
def rowAs (r : D) (xs : List Say) : Prop := r = .lst (xs.map eS) ∨ r = .tup (xs.map eS)
theorem rowAs.len {r : D} {xs : List Say} (h : rowAs r xs) : lenD [r] = some (.int xs.length) := by
  rcases h with rfl | rfl
  · exact lenE
  · exact lenET
/-- data of scalars, lists and tuples, so deep at most -/
def Pl : Nat → D → Prop
  | _, .int _ => True
  | _, .bl _ => True
  | _, .non => True
  | n + 1, .lst ds => ds.length < 900000 ∧ ∀ x, x ∈ ds → Pl n x
  | n + 1, .tup ds => ds.length < 900000 ∧ ∀ x, x ∈ ds → Pl n x
  | _, _ => False
theorem mem2 {X : Type} {P : X → Prop} {a b : X} (ha : P a) (hb : P b) : ∀ x, x ∈ [a, b] → P x := by simpa using ⟨ha, hb⟩
/-! ### wishes -/
def nx (s : Say) (m : Int) : Int := m - b2 (so s (m - 1))
def hand : List Say → Int → Int
  | [], m => m
  | s :: r, m => hand r (nx s m)
def hands : List Say → Int → List Int
  | [], m => [m]
  | s :: r, m => m :: hands r (nx s m)
theorem rowAs.as {r : D} {xs : List Say} (h : rowAs r xs) : asL r = some (xs.map eS) := by
  rcases h with rfl | rfl <;> rfl
theorem rowAs.cut {r : D} {xs : List Say} (h : rowAs r xs) {i : Nat} (hi : i ≤ xs.length) : ∃ r', cutA r (some i) none = some r' ∧ rowAs r' (xs.drop i) := by
  rcases h with rfl | rfl
  · exact ⟨_, rfl, .inl (by rw [cut_back (by simpa using hi), List.map_drop])⟩
  · exact ⟨_, rfl, .inr (by rw [cut_back (by simpa using hi), List.map_drop])⟩
end BR

/-! K50: instances of own classes: read where they stand fast, changed within their own methods -/
namespace BR
open PySem PySem.Spec PyProof.Rows L2

/-! ### calls -/
section
variable {X : Cx} {k : Nat} {f C : Addr} {fd : FuncData} {ps : List Str} {sp : Sp} {E : XK} {x m : Str} {p pos apos : Pos} {e o : Expr} {es : List Expr} {ta : TE} {t : TA} {dvs : List V} {ds : List Value}
end

/-! ### fields of what stands fast -/
abbrev Fd := List (Str × Bool × D)
/-- a field of an instance of one of these classes, that stands fast -/
def fldD (cs : List Str) (f : Str) : D → Option D
  | .obj c fs => if c ∈ cs then (match fs.lookup f with
    | some (false, d) => some d
    | _ => none) else none
  | _ => none
theorem VFs.get {K : PySem.W.Frag} {G H : Hp} : ∀ {fs : Fd} {vs : List (Str × V)} {f : Str} {b : Bool} {d : D}, VFs K G H fs vs → fs.lookup f = some (b, d) → ∃ v, vs.lookup f = some v ∧ VF K G H b d v
  | [], _, _, _, _, _, e => by cases e
  | (k, b', d') :: r, _, f, b, d, h, e => by
    obtain ⟨v, q, e1, h1, h2⟩ := h
    subst e1
    by_cases hk : (f == k) = true
    · rw [List.lookup_cons, hk] at e
      cases e
      exact ⟨v, by rw [List.lookup_cons, hk], h1⟩
    · have hk : (f == k) = false := by simpa using hk
      rw [List.lookup_cons, hk] at e
      obtain ⟨u, e2, e3⟩ := VFs.get h2 e
      exact ⟨u, by rw [List.lookup_cons, hk]; exact e2, e3⟩
theorem RepFs.get {K : PySem.W.Frag} {G : Hp} : ∀ {fs : Fd} {vs : List (Str × V)} {f : Str} {b : Bool} {d : D}, RepFs K G fs vs → fs.lookup f = some (b, d) → ∃ v, vs.lookup f = some v ∧ Rep K G d v
  | [], _, _, _, _, _, e => by cases e
  | (k, b', d') :: r, _, f, b, d, h, e => by
    obtain ⟨v, q, e1, h1, h2⟩ := h
    subst e1
    by_cases hk : (f == k) = true
    · rw [List.lookup_cons, hk] at e
      cases e
      exact ⟨v, by rw [List.lookup_cons, hk], h1⟩
    · have hk : (f == k) = false := by simpa using hk
      rw [List.lookup_cons, hk] at e
      obtain ⟨u, e2, e3⟩ := RepFs.get h2 e
      exact ⟨u, by rw [List.lookup_cons, hk]; exact e2, e3⟩
theorem VFs.none {K : PySem.W.Frag} {G H : Hp} : ∀ {fs : Fd} {vs : List (Str × V)} {f : Str}, VFs K G H fs vs → fs.lookup f = none → vs.lookup f = none
  | [], _, _, h, _ => by rw [show _ = [] from h]; rfl
  | (k, b', d') :: r, _, f, h, e => by
    obtain ⟨v, q, e1, h1, h2⟩ := h
    subst e1
    by_cases hk : (f == k) = true
    · rw [List.lookup_cons, hk] at e; cases e
    · have hk : (f == k) = false := by simpa using hk
      rw [List.lookup_cons, hk] at e ⊢
      exact VFs.none h2 e
theorem VFs.len {K : PySem.W.Frag} {G H : Hp} : ∀ {fs : Fd} {vs : List (Str × V)}, VFs K G H fs vs → vs.length = fs.length
  | [], _, h => by rw [show _ = [] from h]; rfl
  | (k, b', d') :: r, _, h => by
    obtain ⟨v, q, e1, h1, h2⟩ := h
    subst e1
    rw [List.length_cons, List.length_cons, VFs.len h2]
/-- no class of these has the name -/
def NoF (K : PySem.W.Frag) (cs : List Str) (f : Str) : Prop := ∀ c, c ∈ cs → ∀ C, PySem.W.nsIn K mainGlobals c = some (some (.ref C)) → L2.NoAttr K C f
section
variable {X : Cx} {en : Kn} {δ τ : List Slot} {R : Type} {C : Slot → List Slot → Res R → Prop} {m : Res R}
end

/-! ### the instance in hand -/
def putO (f : Str) (b : Bool) (d : D) : Fd → Fd
  | [] => [(f, b, d)]
  | (g, x) :: r => if g = f then (g, b, d) :: r else (g, x) :: putO f b d r
/-- the fields' values; as: the own lists' places -/
def OwF (K : PySem.W.Frag) (G M : Hp) : Fd → List Addr → List (Str × V) → Prop
  | [], as, vs => as = [] ∧ vs = []
  | (k, b, d) :: fs, as, vs => ∃ v r, vs = (k, v) :: r ∧ ((b = false ∧ Rep K G d v ∧ OwF K G M fs as r) ∨ (b = true ∧ ∃ a q, as = a :: q ∧ v = .ref a ∧ MRep K G M d a ∧ OwF K G M fs q r))
section
variable {K : PySem.W.Frag} {G M H : Hp}
theorem MRep.vf : ∀ {d : D} {p : Addr}, MRep K G H d p → VF K G H true d (.ref p)
  | .lst ds, p, h => by obtain ⟨vs, e, r⟩ := h; exact ⟨p, vs, rfl, e, r⟩
  | .dic ds, p, h => by obtain ⟨vs, e, r⟩ := h; exact ⟨p, vs, rfl, e, r⟩
  | .non, _, h => h.elim
  | .bl _, _, h => h.elim
  | .int _, _, h => h.elim
  | .str _, _, h => h.elim
  | .tup _, _, h => h.elim
  | .scr _, _, h => h.elim
  | .exc _ _, _, h => h.elim
  | .obj _ _, _, h => h.elim
theorem OwF.vfs : ∀ {fs : Fd} {as : List Addr} {vs : List (Str × V)}, OwF K G M fs as vs → VFs K G M fs vs
  | [], _, _, h => h.2
  | (k, b, d) :: r, _, _, h => by
    obtain ⟨v, q, e, h1⟩ := h
    rcases h1 with ⟨eb, h1, h2⟩ | ⟨eb, a, q', ea, ev, h1, h2⟩
    · subst eb
      exact ⟨v, q, e, by cases d <;> exact h1, h2.vfs⟩
    · subst eb ev
      exact ⟨_, q, e, h1.vf, h2.vfs⟩
theorem OwF.mono {G' M' : Hp} (sg : Sub G G') : ∀ {fs : Fd} {as : List Addr} {vs : List (Str × V)}, OwF K G M fs as vs → (∀ a, a ∈ as → ∀ o, M a = some o → M' a = some o) → OwF K G' M' fs as vs
  | [], _, _, h, _ => h
  | (k, b, d) :: r, _, _, h, km => by
    obtain ⟨v, q, e, h1⟩ := h
    rcases h1 with ⟨eb, h1, h2⟩ | ⟨eb, a, q', ea, ev, h1, h2⟩
    · exact ⟨v, q, e, .inl ⟨eb, Rep.sub sg _ _ h1, h2.mono sg km⟩⟩
    · subst ea
      exact ⟨v, q, e, .inr ⟨eb, a, q', rfl, ev, h1.keep sg (km a List.mem_cons_self), h2.mono sg fun x hx => km x (List.mem_cons_of_mem _ hx)⟩⟩
theorem OwF.get : ∀ {fs : Fd} {as : List Addr} {vs : List (Str × V)} {f : Str} {b : Bool} {d : D}, OwF K G M fs as vs → fs.lookup f = some (b, d) → ∃ v, vs.lookup f = some v ∧ ((b = false ∧ Rep K G d v) ∨ (b = true ∧ ∃ a, a ∈ as ∧ v = .ref a ∧ MRep K G M d a))
  | [], _, _, _, _, _, _, e => by cases e
  | (k, b', d') :: r, _, _, f, b, d, h, e => by
    obtain ⟨v, q, e1, h1⟩ := h
    subst e1
    by_cases hk : (f == k) = true
    · rw [List.lookup_cons, hk] at e
      cases e
      refine ⟨v, by rw [List.lookup_cons, hk], ?_⟩
      rcases h1 with ⟨eb, h1, h2⟩ | ⟨eb, a, q', ea, ev, h1, h2⟩
      · exact .inl ⟨eb, h1⟩
      · subst ea
        exact .inr ⟨eb, a, List.mem_cons_self, ev, h1⟩
    · have hk : (f == k) = false := by simpa using hk
      rw [List.lookup_cons, hk] at e
      rcases h1 with ⟨eb, h1, h2⟩ | ⟨eb, a, q', ea, ev, h1, h2⟩
      · obtain ⟨u, e2, e3⟩ := h2.get e
        exact ⟨u, by rw [List.lookup_cons, hk]; exact e2, e3⟩
      · subst ea
        obtain ⟨u, e2, e3⟩ := h2.get e
        refine ⟨u, by rw [List.lookup_cons, hk]; exact e2, ?_⟩
        rcases e3 with e3 | ⟨e3, a', m', e4⟩
        · exact .inl e3
        · exact .inr ⟨e3, a', List.mem_cons_of_mem _ m', e4⟩
/-- an own list changed -/
theorem OwF.mut {q : Addr} {o : HO} {d' : D} {f : Str} : ∀ {fs : Fd} {as : List Addr} {vs : List (Str × V)} {d : D}, as.Nodup → OwF K G M fs as vs → fs.lookup f = some (true, d) → vs.lookup f = some (.ref q) → MRep K G (upd M q o) d' q → OwF K G (upd M q o) (putO f true d' fs) as vs
  | [], _, _, _, _, _, e, _, _ => by cases e
  | (k, b', d0) :: r, as, _, d, nd, h, e, ev, hm => by
    obtain ⟨v, vr, e1, h1⟩ := h
    subst e1
    by_cases hk : f = k
    · have hkb : (f == k) = true := by simpa using hk
      rw [List.lookup_cons, hkb] at e ev
      cases e
      cases ev
      rcases h1 with ⟨eb, h1, h2⟩ | ⟨eb, a, q', ea, ev, h1, h2⟩
      · cases eb
      · subst ea
        cases ev
        unfold putO
        rw [if_pos hk.symm]
        refine ⟨_, vr, rfl, .inr ⟨rfl, q, q', rfl, rfl, hm, h2.mono (Sub.refl _) fun x hx o e => ?_⟩⟩
        rw [upd_ne fun z => by subst z; exact (List.nodup_cons.mp nd).1 hx]; exact e
    · have hkb : (f == k) = false := by simpa using hk
      rw [List.lookup_cons, hkb] at e ev
      have e : r.lookup f = some (true, d) := e
      have ev : vr.lookup f = some (.ref q) := ev
      unfold putO
      rw [if_neg (fun z => hk z.symm)]
      rcases h1 with ⟨eb, h1, h2⟩ | ⟨eb, a, q', ea, ev', h1, h2⟩
      · exact ⟨v, vr, rfl, .inl ⟨eb, h1, h2.mut nd e ev hm⟩⟩
      · subst ea
        obtain ⟨n1, n2⟩ := List.nodup_cons.mp nd
        have hq : q ∈ q' := by
          obtain ⟨u, e2, e3⟩ := h2.get e
          rw [ev] at e2
          cases e2
          rcases e3 with ⟨z, _⟩ | ⟨_, a', m', e4, _⟩
          · cases z
          · cases e4; exact m'
        exact ⟨v, vr, rfl, .inr ⟨eb, a, q', rfl, ev', h1.keep (Sub.refl _) fun o e => by rw [upd_ne fun z => by subst z; exact n1 hq]; exact e, h2.mut n2 e ev hm⟩⟩
end
/-- the instance at p, with all that is its own in M -/
def ObM (K : PySem.W.Frag) (G M : Hp) (c : Str) (p : Addr) (fs : Fd) : Prop :=
  ∃ C dx vs as, ObF K c C ∧ M p = some (.ins C dx vs) ∧ M dx = some (.own p) ∧ OwF K G M fs as vs ∧ as.Nodup
theorem OwF.own {K : PySem.W.Frag} {G M : Hp} : ∀ {fs : Fd} {as : List Addr} {vs : List (Str × V)}, OwF K G M fs as vs → ∀ a, a ∈ as → ∃ d, MRep K G M d a
  | [], _, _, h, a, ha => by rw [h.1] at ha; cases ha
  | (k, b, d) :: r, _, _, h, a, ha => by
    obtain ⟨v, q, e, h1⟩ := h
    rcases h1 with ⟨eb, h1, h2⟩ | ⟨eb, a', q', ea, ev, h1, h2⟩
    · exact h2.own a ha
    · subst ea
      rcases List.mem_cons.mp ha with z | z
      · subst z; exact ⟨d, h1⟩
      · exact h2.own a z
abbrev Kn.ext (en : Kn) (M : Hp) : Kn := { en with F0 := uni M en.F0 }
structure KnX (en en' : Kn) : Prop where
  n : en'.n = en.n
  ps : en'.ps = en.ps
  HX : en'.HX = en.HX
  F0 : Sub en.F0 en'.F0
theorem KnX.lk {X : Cx} {en en' : Kn} (h : KnX en en') (l : Lk X en) : Lk X en' := by
  obtain ⟨W, t, k⟩ := l
  exact ⟨W, t, fun x hx cls d σ H' e s => k x (h.HX ▸ hx) cls d σ H' (e.to fun a h1 h2 => ⟨h.F0.none h1, h.ps ▸ h2⟩) (h.F0.trans s)⟩
/-- what is borrowed, by place -/
def bwk : List Slot → List (Option D)
  | [] => []
  | .bw d :: r => some d :: bwk r
  | _ :: r => none :: bwk r
theorem bwk_get : ∀ {δ : List Slot} {j : Nat} {d : D}, δ[j]? = some (.bw d) ↔ (bwk δ)[j]? = some (some d)
  | [], j, d => by simp [bwk]
  | .bw e :: r, 0, d => by simp [bwk]
  | .un :: r, 0, d => by simp [bwk]
  | .fr _ :: r, 0, d => by simp [bwk]
  | .mu _ :: r, 0, d => by simp [bwk]
  | .mp _ _ :: r, 0, d => by simp [bwk]
  | .bo _ :: r, 0, d => by simp [bwk]
  | .bw e :: r, j + 1, d => by simpa [bwk] using bwk_get (δ := r) (j := j)
  | .un :: r, j + 1, d => by simpa [bwk] using bwk_get (δ := r) (j := j)
  | .fr _ :: r, j + 1, d => by simpa [bwk] using bwk_get (δ := r) (j := j)
  | .mu _ :: r, j + 1, d => by simpa [bwk] using bwk_get (δ := r) (j := j)
  | .mp _ _ :: r, j + 1, d => by simpa [bwk] using bwk_get (δ := r) (j := j)
  | .bo _ :: r, j + 1, d => by simpa [bwk] using bwk_get (δ := r) (j := j)
/-- the state within a def that has an instance of its own in hand: the name at i, the object at p, its parts in M -/
structure OSt (K : PySem.W.Frag) (en : Kn) (i : Nat) (c : Str) (p : Addr) (δ : List Slot) (σ : L2.St) (M G H : Hp) : Prop where
  wd : Wd K (en.ext M) δ σ G H
  mo : ∀ a o, M a = some o → en.F0 a = none ∧ en.G0 a = none ∧ a ∉ en.ps
  at_ : σ[i]? = some (some (.ref p))
  ob : ∃ fs, δ[i]? = some (.bw (.obj c fs)) ∧ ObM K G M c p fs
  bw : ∀ (j : Nat) d v, j ≠ i → δ[j]? = some (.bw d) → σ[j]? = some (some v) → BRep K G en.F0 d v
section
variable {K : PySem.W.Frag} {en : Kn} {i : Nat} {c : Str} {p : Addr} {δ δ' : List Slot} {σ σ' : L2.St} {M G H G' H' : Hp}
theorem OSt.fsub (O : OSt K en i c p δ σ M G H) : Sub en.F0 (en.ext M).F0 := fun a o e => by
  show uni M en.F0 a = some o
  unfold uni
  cases z : M a with
  | none => exact e
  | some u => rw [(O.mo a u z).1] at e; cases e
theorem OSt.msub (O : OSt K en i c p δ σ M G H) : Sub M H := fun a o e => O.wd.frm a o (uni_l a o e)
theorem OSt.gnone (O : OSt K en i c p δ σ M G H) {a : Addr} {o : HO} (h : M a = some o) : G a = none := by
  cases z : G a with
  | none => rfl
  | some u =>
    rcases O.wd.new a u z with q | ⟨q, _⟩
    · have := (O.mo a o h).2.1
      have q : en.G0 a = some u := q
      rw [this] at q; cases q
    · have q : uni M en.F0 a = none := q
      unfold uni at q
      rw [h] at q; cases q
theorem OSt.nown (O : OSt K en i c p δ σ M G H) {a : Addr} {o : HO} (h : M a = some o) {j : Nat} : ¬ Own δ σ j a := fun ⟨sl, e1, e2, e3⟩ => by
  have q := O.wd.slot j sl _ e1 e3
  have f0 : uni M en.F0 a = some o := uni_l a o h
  cases sl with
  | mu d => obtain ⟨p2, e, _, f, _, r⟩ := q; cases e; have f : uni M en.F0 a = none := f; rw [f0] at f; cases f
  | mp _ d => obtain ⟨p2, e, _, _, f, r⟩ := q; cases e; have f : uni M en.F0 a = none := f; rw [f0] at f; cases f
  | un => cases e2
  | fr _ => cases e2
  | bw _ => cases e2
  | bo _ => cases e2
theorem ObM.g (s : Sub G G') {fs : Fd} (h : ObM K G M c p fs) : ObM K G' M c p fs := by
  obtain ⟨C, dx, vs, as, h1, h2, h3, h4, h5⟩ := h
  exact ⟨C, dx, vs, as, h1, h2, h3, h4.mono s fun _ _ _ e => e, h5⟩
/-- on, the instance as it was -/
theorem OSt.keep (O : OSt K en i c p δ σ M G H) (W : Wd K (en.ext M) δ' σ' G' H') (sg : Sub G G') (hb : bwk δ' = bwk δ) (hs : ∀ (j : Nat) d, δ[j]? = some (.bw d) → σ'[j]? = σ[j]?) : OSt K en i c p δ' σ' M G' H' where
  wd := W
  mo := O.mo
  at_ := by
    obtain ⟨fs, h1, _⟩ := O.ob
    rw [hs i _ h1]; exact O.at_
  ob := by
    obtain ⟨fs, h1, h2⟩ := O.ob
    exact ⟨fs, bwk_get.mpr (by rw [hb]; exact bwk_get.mp h1), h2.g sg⟩
  bw := fun j d v hj h1 h2 => by
    have h3 : δ[j]? = some (.bw d) := bwk_get.mpr (by rw [← hb]; exact bwk_get.mp h1)
    rw [hs j d h3] at h2
    exact BRep.sub sg (Sub.refl _) (O.bw j d v hj h3 h2)
theorem VRep.ob {fs : Fd} (h : ObM K G M c p fs) (s : Sub M H) : VRep K G H (.obj c fs) (.ref p) := by
  obtain ⟨C, dx, vs, as, h1, h2, h3, h4, h5⟩ := h
  exact ⟨p, C, dx, vs, rfl, h1, s _ _ h2, s _ _ h3, VFs.sub (Sub.refl _) s h4.vfs⟩
/-- the instance is changed -/
theorem OSt.chg {M' : Hp} {fs' : Fd} (O : OSt K en i c p δ σ M G H) (hnb : noBo δ = true) (dom : ∀ a, M' a = none → M a = none) (sM : Sub M' H') (oth : ∀ a, M' a = none → H' a = H a)
    (new : ∀ a o, M' a = some o → M a = none → en.F0 a = none ∧ en.G0 a = none ∧ a ∉ en.ps ∧ G a = none ∧ ∀ j, ¬ Own δ σ j a) (ob : ObM K G M' c p fs') : OSt K en i c p (δ.set i (.bw (.obj c fs'))) σ M' G H' := by
  have mo' : ∀ a o, M' a = some o → en.F0 a = none ∧ en.G0 a = none ∧ a ∉ en.ps ∧ G a = none ∧ ∀ j, ¬ Own δ σ j a := fun a o e => by
    cases z : M a with
    | none => exact new a o e z
    | some u =>
      obtain ⟨h1, h2, h3⟩ := O.mo a u z
      exact ⟨h1, h2, h3, O.gnone z, fun j => O.nown z⟩
  have nm : ∀ {a : Addr} {P : Prop}, (∀ o, M' a = some o → False) → M' a = none := fun {a P} h => by
    cases z : M' a with
    | none => rfl
    | some o => exact (h o z).elim
  obtain ⟨fs, hi, hob⟩ := O.ob
  have hil := (List.getElem?_eq_some_iff.mp hi).1
  have f0 : ∀ {a : Addr}, uni M en.F0 a = none → en.F0 a = none := fun {a} h => by
    unfold uni at h
    split at h
    · cases h
    · exact h
  have nu : ∀ {a : Addr}, en.F0 a = none → M' a = none → uni M' en.F0 a = none := fun {a} h1 h2 => by
    unfold uni; rw [h2]; exact h1
  have fsub : Sub en.F0 (uni M' en.F0) := fun a o e => by
    unfold uni
    cases z : M' a with
    | none => exact e
    | some u => rw [(mo' a u z).1] at e; cases e
  have get : ∀ (j : Nat) sl, (δ.set i (.bw (.obj c fs')))[j]? = some sl → (j = i ∧ sl = .bw (.obj c fs')) ∨ (j ≠ i ∧ δ[j]? = some sl) := fun j sl h => by
    by_cases hj : j = i
    · subst hj
      rw [List.getElem?_set_self hil] at h
      exact .inl ⟨rfl, (Option.some.inj h).symm⟩
    · rw [List.getElem?_set_ne (Ne.symm hj)] at h
      exact .inr ⟨hj, h⟩
  have own : ∀ {j : Nat} {a : Addr}, Own (δ.set i (.bw (.obj c fs'))) σ j a → Own δ σ j a := fun {j a} ⟨sl, e1, e2, e3⟩ => by
    rcases get j sl e1 with ⟨_, z⟩ | ⟨_, z⟩
    · subst z; cases e2
    · exact ⟨sl, z, e2, e3⟩
  have Wn : Wd K (en.ext M') (δ.set i (.bw (.obj c fs'))) σ G H' := {
    len := by rw [List.length_set]; exact O.wd.len
    sub := fun a o e => by
      rw [oth a (nm (P := True) fun u z => by rw [(mo' a u z).2.2.2.1] at e; cases e)]; exact O.wd.sub a o e
    ext := O.wd.ext
    new := fun a o e => by
      rcases O.wd.new a o e with q | ⟨q1, q2⟩
      · exact .inl q
      · exact .inr ⟨nu (f0 q1) (nm (P := True) fun u z => by rw [(mo' a u z).2.2.2.1] at e; cases e), q2⟩
    frm := fun a o e => by
      have e : uni M' en.F0 a = some o := e
      unfold uni at e
      cases z : M' a with
      | some u => rw [z] at e; cases e; exact sM a _ z
      | none =>
        rw [z] at e
        rw [oth a z]
        exact O.wd.frm a o (O.fsub a o e)
    stay := fun a h => by
      rw [oth a (nm (P := True) fun u z => (mo' a u z).2.2.1 h)]; exact O.wd.stay a h
    nd := O.wd.nd
    slot := fun j sl o h1 h2 => by
      rcases get j sl h1 with ⟨z, e⟩ | ⟨hj, h3⟩
      · subst z e
        rw [O.at_] at h2
        cases h2
        exact ⟨_, rfl, BRep.mk (VRep.ob ob uni_l) fun z => by cases z⟩
      · have q := O.wd.slot j sl o h3 h2
        cases sl with
        | un => trivial
        | fr d => exact q
        | mu d =>
          obtain ⟨a, e, n1, n2, n3, r⟩ := q
          subst e
          have z : M' a = none := nm (P := True) fun u z => (mo' a u z).2.2.2.2 j ⟨_, h3, rfl, h2⟩
          exact ⟨a, rfl, n1, nu (f0 n2) z, n3, r.keep (Sub.refl _) fun o e => by rw [oth a z]; exact e⟩
        | mp l d =>
          obtain ⟨a, e, n0, n1, n2, r⟩ := q
          subst e
          have z : M' a = none := nm (P := True) fun u z => (mo' a u z).2.2.2.2 j ⟨_, h3, rfl, h2⟩
          exact ⟨a, rfl, n0, n1, nu (f0 n2) z, r.keep (Sub.refl _) fun o e => by rw [oth a z]; exact e⟩
        | bw d =>
          obtain ⟨v, e, _⟩ := q
          subst e
          exact ⟨v, rfl, BRep.sub (Sub.refl _) fsub (O.bw j d v hj h3 h2)⟩
        | bo l => exact (noBo_get hnb h3).elim
    apart := fun j l a h1 h2 => O.wd.apart j l a (own h1) (own h2) }
  refine ⟨Wn, fun a o e => ⟨(mo' a o e).1, (mo' a o e).2.1, (mo' a o e).2.2.1⟩, O.at_, ⟨fs', by rw [List.getElem?_set_self hil], ob⟩, fun j d v hj h1 h2 => ?_⟩
  rcases get j _ h1 with ⟨z, _⟩ | ⟨_, h3⟩
  · exact (hj z).elim
  · exact O.bw j d v hj h3 h2
end
end BR

/-! K51: the statements of a def that has an instance of its own in hand -/
namespace BR
open PySem PySem.Spec PyProof.Rows L2
section
variable (X : Cx) (en : Kn) (i : Nat) (c : Str)
structure JY (δ : List Slot) (st : Stmt) {R : Type} (N : List Slot → Res R → Prop) (RT : Slot → List Slot → Res R → Prop) (BK CT : List Slot → Res R → Prop) (m : Res R) : Prop where
  run : m ≠ .bad → en.HX m.exc → ∀ (σ : L2.St) (G H M : Hp) (p : Addr) (E : Ends), δ.length = en.n → OSt X.K en i c p δ σ M G H →
    (∀ δ' σ' G' H' M', N δ' m → δ'.length = en.n → OSt X.K en i c p δ' σ' M' G' H' → E.nx σ' H') →
    (∀ sl δ' v σ' G' H' M', RT sl δ' m → δ'.length = en.n → OSt X.K en i c p (δ' ++ [sl]) (σ' ++ [some v]) M' G' H' → E.rt v H') →
    (∀ δ' σ' G' H' M', BK δ' m → δ'.length = en.n → OSt X.K en i c p δ' σ' M' G' H' → E.bk σ' H') →
    (∀ δ' σ' G' H' M', CT δ' m → δ'.length = en.n → OSt X.K en i c p δ' σ' M' G' H' → E.ct σ' H') → WS X st E σ H
structure JYs (δ : List Slot) (st : List Stmt) {R : Type} (N : List Slot → Res R → Prop) (RT : Slot → List Slot → Res R → Prop) (BK CT : List Slot → Res R → Prop) (m : Res R) : Prop where
  run : m ≠ .bad → en.HX m.exc → ∀ (σ : L2.St) (G H M : Hp) (p : Addr) (E : Ends), δ.length = en.n → OSt X.K en i c p δ σ M G H →
    (∀ δ' σ' G' H' M', N δ' m → δ'.length = en.n → OSt X.K en i c p δ' σ' M' G' H' → E.nx σ' H') →
    (∀ sl δ' v σ' G' H' M', RT sl δ' m → δ'.length = en.n → OSt X.K en i c p (δ' ++ [sl]) (σ' ++ [some v]) M' G' H' → E.rt v H') →
    (∀ δ' σ' G' H' M', BK δ' m → δ'.length = en.n → OSt X.K en i c p δ' σ' M' G' H' → E.bk σ' H') →
    (∀ δ' σ' G' H' M', CT δ' m → δ'.length = en.n → OSt X.K en i c p δ' σ' M' G' H' → E.ct σ' H') → WSs X st E σ H
end
section
variable {X : Cx} {en : Kn} {i : Nat} {c : Str} {p : Addr} {δ δ' : List Slot} {σ σ' : L2.St} {M G H G' H' : Hp} {R : Type} {m : Res R}
theorem OSt.sl (O : OSt X.K en i c p δ σ M G H) (hl : δ.length = en.n) : List.length σ = en.n := O.wd.sl (en := en.ext M) hl
theorem OSt.le (O : OSt X.K en i c p δ σ M G H) (h : Le δ δ') (hi : ∃ fs, δ'[i]? = some (.bw (.obj c fs))) : OSt X.K en i c p δ' σ M G H where
  wd := O.wd.le h
  mo := O.mo
  at_ := O.at_
  ob := by
    obtain ⟨fs, e⟩ := hi
    rcases h.get e with z | z
    · cases z
    · obtain ⟨fs', e2, o⟩ := O.ob
      rw [e2] at z
      cases z
      exact ⟨fs, e, o⟩
  bw := fun j d v hj h1 h2 => by
    rcases h.get h1 with z | z
    · cases z
    · exact O.bw j d v hj z h2
/-- the state with a thing at hand, from the state without -/
theorem OSt.snoc {sl : Slot} {v : V} (O : OSt X.K en i c p δ σ M G H) (W : Wd X.K (en.ext M) (δ' ++ [sl]) (σ ++ [some v]) G' H') (sg : Sub G G') (hl : δ'.length = en.n) (hl0 : δ.length = en.n) (hb : bwk δ' = bwk δ) (hs : ∀ d, sl ≠ .bw d) : OSt X.K en i c p (δ' ++ [sl]) (σ ++ [some v]) M G' H' := by
  have hσ := O.sl hl0
  have O' : OSt X.K en i c p δ' σ M G' H' := O.keep (W.one (en := en.ext M) hl hσ) sg hb fun _ _ _ => rfl
  obtain ⟨fs, h1, h2⟩ := O'.ob
  refine ⟨W, O'.mo, ?_, ⟨fs, ?_, h2⟩, fun j d v hj e1 e2 => ?_⟩
  · rw [List.getElem?_append_left (List.getElem?_eq_some_iff.mp O'.at_).1]; exact O'.at_
  · rw [List.getElem?_append_left (List.getElem?_eq_some_iff.mp h1).1]; exact h1
  · by_cases hjl : j < δ'.length
    · rw [List.getElem?_append_left hjl] at e1
      rw [List.getElem?_append_left (by omega)] at e2
      exact O'.bw j d v hj e1 e2
    · have hj2 : j = δ'.length := by
        have := (List.getElem?_eq_some_iff.mp e1).1
        rw [List.length_append] at this
        have e1 : [sl].length = 1 := rfl
        omega
      subst hj2
      rw [getElem?_last] at e1
      exact (hs d (Option.some.inj e1)).elim
theorem OSt.drop {sl : Slot} {v : V} (O : OSt X.K en i c p (δ ++ [sl]) (σ ++ [some v]) M G H) (hl : δ.length = en.n) (hi : i < δ.length) : OSt X.K en i c p δ σ M G H := by
  have hσ : σ.length = en.n := by
    have := O.wd.len
    rw [List.length_append, List.length_append] at this
    have e1 : [sl].length = 1 := rfl
    have e2 : [some v].length = 1 := rfl
    omega
  obtain ⟨fs, h1, h2⟩ := O.ob
  refine ⟨O.wd.one (en := en.ext M) hl hσ, O.mo, ?_, ⟨fs, ?_, h2⟩, fun j d u hj e1 e2 => O.bw j d u hj ?_ ?_⟩
  · have := O.at_
    rwa [List.getElem?_append_left (by omega)] at this
  · rwa [List.getElem?_append_left hi] at h1
  · rw [List.getElem?_append_left (List.getElem?_eq_some_iff.mp e1).1]; exact e1
  · rw [List.getElem?_append_left (List.getElem?_eq_some_iff.mp e2).1]; exact e2
end
section
variable {X : Cx} {en : Kn} {i : Nat} {c : Str} {δ : List Slot} {R : Type} {m : Res R} {pos : Pos}
variable {N : List Slot → Res R → Prop} {RT : Slot → List Slot → Res R → Prop} {BK CT : List Slot → Res R → Prop}
/-- not borrowed -/
def nbw (s : Slot) : Bool := match s with
  | .fr _ => true
  | .mu _ => true
  | _ => false
end

/-! ### fields set, own lists changed -/
def sFs (f : Str) (fs : Fd) : Slot → Option Fd
  | .fr d => some (putO f false d fs)
  | .mu d => some (putO f true d fs)
  | _ => none
section
variable {X : Cx} {en : Kn} {i : Nat} {c : Str} {p : Addr} {δ δ' : List Slot} {σ σ' : L2.St} {M G H G' H' : Hp} {R : Type} {m : Res R} {pos : Pos}
variable {N : List Slot → Res R → Prop} {RT : Slot → List Slot → Res R → Prop} {BK CT : List Slot → Res R → Prop}
/-- the instance's fields at hand -/
theorem OSt.fld (O : OSt X.K en i c p δ σ M G H) : ∃ fs C dx vs as, δ[i]? = some (.bw (.obj c fs)) ∧ ObF X.K c C ∧ M p = some (.ins C dx vs) ∧ H p = some (.ins C dx vs) ∧ M dx = some (.own p) ∧ OwF X.K G M fs as vs ∧ as.Nodup := by
  obtain ⟨fs, h1, C, dx, vs, as, h2, h3, h4, h5, h6⟩ := O.ob
  exact ⟨fs, C, dx, vs, as, h1, h2, h3, O.msub _ _ h3, h4, h5, h6⟩
theorem OwF.len {K : PySem.W.Frag} {fs : Fd} {as : List Addr} {vs : List (Str × V)} (h : OwF K G M fs as vs) : vs.length = fs.length := h.vfs.len
theorem OwF.nin {K : PySem.W.Frag} {fs : Fd} {as : List Addr} {vs : List (Str × V)} (h : OwF K G M fs as vs) {a : Addr} {C dx : Addr} {us : List (Str × V)} (e : M a = some (.ins C dx us)) : a ∉ as := fun ha => by
  obtain ⟨d, r⟩ := h.own a ha
  cases d <;> first | exact r.elim | (obtain ⟨_, e2, _⟩ := r; rw [e] at e2; cases e2)
theorem OwF.nown {K : PySem.W.Frag} {fs : Fd} {as : List Addr} {vs : List (Str × V)} (h : OwF K G M fs as vs) {a y : Addr} (e : M a = some (.own y)) : a ∉ as := fun ha => by
  obtain ⟨d, r⟩ := h.own a ha
  cases d <;> first | exact r.elim | (obtain ⟨_, e2, _⟩ := r; rw [e] at e2; cases e2)
/-- an own list of the instance changed -/
theorem OSt.mut {f : Str} {d d' : D} {q : Addr} {fs : Fd} {C dx : Addr} {vs : List (Str × V)} {u : HO} (O : OSt X.K en i c p δ σ M G H) (hnb : noBo δ = true) (hi : δ[i]? = some (.bw (.obj c fs))) (hf : fs.lookup f = some (true, d)) (hp : M p = some (.ins C dx vs)) (hq : vs.lookup f = some (.ref q))
    (hr : MRep X.K G (upd H q u) d' q) : OSt X.K en i c p (δ.set i (.bw (.obj c (putO f true d' fs)))) σ (upd M q u) G (upd H q u) := by
  obtain ⟨fs', h1, C', dx', vs', as, h2, h3, h4, h5, h6⟩ := O.ob
  rw [hi] at h1; cases h1
  rw [hp] at h3; cases h3
  obtain ⟨v0, e0, r0⟩ := h5.get hf
  rw [hq] at e0; cases e0
  obtain ⟨hqa, hqr⟩ : q ∈ as ∧ MRep X.K G M d q := by
    rcases r0 with ⟨z, _⟩ | ⟨_, a, ha, ea, r⟩
    · cases z
    · cases ea; exact ⟨ha, r⟩
  obtain ⟨u0, eu0⟩ := hqr.ex
  have hqp : p ≠ q := fun z => by subst z; exact h5.nin hp hqa
  have hqd : dx ≠ q := fun z => by subst z; exact h5.nown h4 hqa
  refine O.chg hnb (fun a h => ?_) (fun a o e => ?_) (fun a h => ?_) (fun a o e h => ?_) ?_
  · by_cases ha : a = q
    · subst ha; rw [upd_same] at h; cases h
    · rw [upd_ne ha] at h; exact h
  · by_cases ha : a = q
    · subst ha; rw [upd_same] at e ⊢; exact e
    · rw [upd_ne ha] at e ⊢; exact O.msub _ _ e
  · by_cases ha : a = q
    · subst ha; rw [upd_same] at h; cases h
    · exact upd_ne ha
  · by_cases ha : a = q
    · subst ha; rw [eu0] at h; cases h
    · rw [upd_ne ha, h] at e; cases e
  · refine ⟨C, dx, vs, as, h2, by rw [upd_ne hqp]; exact hp, by rw [upd_ne hqd]; exact h4, h5.mut h6 hf hq ?_, h6⟩
    exact hr.keep (Sub.refl _) fun o e => by rw [upd_same] at e ⊢; exact e
end
end BR

/-! K52: methods that change their instance, instances made, methods that read -/
namespace BR
open PySem PySem.Spec PyProof.Rows L2

/-- without what is in M -/
def rem (H M : Hp) : Hp := fun a => match M a with
  | some _ => none
  | none => H a
/-- behind a run of a method -/
structure PostY (G H M G' H' M' : Hp) : Prop where
  g : Sub G G'
  gh : Sub G' H'
  mh : Sub M' H'
  new : ∀ a o, G' a = some o → G a = some o ∨ H a = none ∨ M a ≠ none
  frm : ∀ a o, H a = some o → M a = none → H' a = some o
  apart : ∀ a o, M' a = some o → G' a = none
  mnew : ∀ a o, M' a = some o → M a = none → H a = none
/-- a method's promise: s the fields at its begin, what it gives and the fields behind -/
def SpY (K : PySem.W.Frag) (mg : Str → Option Value) (c : Str) {γ α : Type} (mk : γ → Fd) (ks : List Kd) (f : γ → List D → Res α) (val : α → D) (fld : α → Fd) : Sp := fun vs H Q E =>
  ∃ p us, vs = .ref p :: us ∧ us.length = ks.length ∧ ∃ (G M : Hp) (ds : List D) (s : γ) (r : Res α), Sub G H ∧ Sub M H ∧ (∀ a o, M a = some o → G a = none) ∧ ObM K G M c p (mk s) ∧ ArgsOk K G H (rem H M) ks ds us [] ∧ f s ds = r ∧ r ≠ .bad ∧
    (∀ a, r = .ok a → ∀ v G' H' M', PostY G H M G' H' M' → ObM K G' M' c p (fld a) → Rep K G' (val a) v → Q v H') ∧
    (∀ x, r = .raise x → ∀ cls d H', ExcOk mg (rem H M) [] x cls d H' → Sub (rem H M) H' → E cls d H')
section
variable {P : Program} {w : World} {K : PySem.W.Frag} {mg : Str → Option Value} {base : Heap}
/-- a method of the class c that keeps its promise -/
def DfY (P : Program) (w : World) (K : PySem.W.Frag) (mg : Str → Option Value) (base : Heap) (k : Nat) (c m : Str) {γ α : Type} (mk : γ → Fd) (ks : List Kd) (f : γ → List D → Res α) (val : α → D) (fld : α → Fd) : Prop :=
  ∃ (fa : Addr) (fd : FuncData) (psn : List Str), FnG P w K mg base k fa fd psn (SpY K mg c mk ks f val fld) ∧ (∀ C, PySem.W.nsIn K mainGlobals c = some (some (.ref C)) → L2.Meth K C m fa) ∧ Binds K fd psn [] ∧ nms ks = 0
/-- the class c, whose instances are made so -/
def DfI (P : Program) (w : World) (K : PySem.W.Frag) (mg : Str → Option Value) (base : Heap) (k : Nat) (c : Str) {α : Type} (ks : List Kd) (f : List D → Res α) (fld : α → Fd) : Prop :=
  ∃ (C fa : Addr) (fd : FuncData) (psn : List Str), FnG P w K mg base k fa fd psn (SpY K mg c (fun _ : Unit => []) ks (fun _ => f) (fun _ => .non) fld) ∧ mg c = some (.ref C) ∧ ObF K c C ∧ L2.Mk K C fa ∧ Binds K fd psn [] ∧ nms ks = 0
/-- a method of the class c that reads alone -/
def DfM (P : Program) (w : World) (K : PySem.W.Frag) (mg : Str → Option Value) (base : Heap) (k : Nat) (c m : Str) (ks : List Kd) {α : Type} (den : List D → Res α) (val : α → D) (mu : Bool) : Prop :=
  ∃ (C fa : Addr) (fd : FuncData) (psn : List Str), FnG P w K mg base k fa fd psn (SpD K mg ks den val (fun _ => []) mu) ∧ ObF K c C ∧ L2.Meth K C m fa ∧ Binds K fd psn []
def unfl (fs : Fd) : Fd := fs.map fun z => (z.1, false, z.2.2)
theorem OwF.fast {K : PySem.W.Frag} {G M : Hp} (sm : Sub M (uni M G)) (sg : Sub G (uni M G)) : ∀ {fs : Fd} {as : List Addr} {vs : List (Str × V)}, OwF K G M fs as vs → RepFs K (uni M G) (unfl fs) vs
  | [], _, _, h => h.2
  | (k, b, d) :: r, _, _, h => by
    obtain ⟨v, q, e, h1⟩ := h
    rcases h1 with ⟨eb, h1, h2⟩ | ⟨eb, a, q', ea, ev, h1, h2⟩
    · exact ⟨v, q, e, Rep.sub sg _ _ h1, h2.fast sm sg⟩
    · subst ev
      refine ⟨_, q, e, ?_, h2.fast sm sg⟩
      cases d <;> first | exact h1.elim | skip
      · obtain ⟨us, e1, r1⟩ := h1; exact ⟨a, us, rfl, sm _ _ e1, Reps.sub sg _ _ r1⟩
      · obtain ⟨us, e1, r1⟩ := h1; exact ⟨a, us, rfl, sm _ _ e1, RepKs.sub sg _ _ r1⟩
end
section
variable {X : Cx} {en : Kn} {i : Nat} {c : Str} {p : Addr} {δ δ' : List Slot} {σ σ' : L2.St} {M M' G H G' H' : Hp} {R : Type} {m : Res R} {pos : Pos}
variable {N : List Slot → Res R → Prop} {RT : Slot → List Slot → Res R → Prop} {BK CT : List Slot → Res R → Prop}
/-- behind a call that changed the instance -/
theorem OSt.called {K : PySem.W.Frag} {fs' : Fd} (O : OSt K en i c p δ σ M G H) (hnb : noBo δ = true) (po : PostY G H M G' H' M') (ob : ObM K G' M' c p fs') : OSt K en i c p (δ.set i (.bw (.obj c fs'))) σ M' G' H' := by
  have fresh : ∀ {a : Addr}, H a = none → en.F0 a = none ∧ en.G0 a = none ∧ a ∉ en.ps ∧ G a = none := fun {a} h => by
    obtain ⟨h1, h2, h3⟩ := O.wd.fresh h
    have h2 : uni M en.F0 a = none := h2
    refine ⟨?_, ?_, h3, h1⟩
    · unfold uni at h2
      split at h2
      · cases h2
      · exact h2
    · cases z : en.G0 a with
      | none => rfl
      | some o => have := O.wd.ext a o z; rw [h1] at this; cases this
  have mo' : ∀ a o, M' a = some o → en.F0 a = none ∧ en.G0 a = none ∧ a ∉ en.ps := fun a o e => by
    cases z : M a with
    | some u => exact O.mo a u z
    | none =>
      obtain ⟨h1, h2, h3, _⟩ := fresh (po.mnew a o e z)
      exact ⟨h1, h2, h3⟩
  have mnone : ∀ {a : Addr} {o : HO}, H a = some o → M a = none → M' a = none := fun {a o} h1 h2 => by
    cases z : M' a with
    | none => rfl
    | some u => have := po.mnew a u z h2; rw [h1] at this; cases this
  obtain ⟨fs, hi, hob⟩ := O.ob
  have hil := (List.getElem?_eq_some_iff.mp hi).1
  have f0 : ∀ {a : Addr}, uni M en.F0 a = none → en.F0 a = none ∧ M a = none := fun {a} h => by
    unfold uni at h
    split at h
    · cases h
    · rename_i z; exact ⟨h, z⟩
  have nu : ∀ {a : Addr}, en.F0 a = none → M' a = none → uni M' en.F0 a = none := fun {a} h1 h2 => by
    unfold uni; rw [h2]; exact h1
  have fsub : Sub en.F0 (uni M' en.F0) := fun a o e => by
    unfold uni
    cases z : M' a with
    | none => exact e
    | some u => rw [(mo' a u z).1] at e; cases e
  have get : ∀ (j : Nat) sl, (δ.set i (.bw (.obj c fs')))[j]? = some sl → (j = i ∧ sl = .bw (.obj c fs')) ∨ (j ≠ i ∧ δ[j]? = some sl) := fun j sl h => by
    by_cases hj : j = i
    · subst hj
      rw [List.getElem?_set_self hil] at h
      exact .inl ⟨rfl, (Option.some.inj h).symm⟩
    · rw [List.getElem?_set_ne (Ne.symm hj)] at h
      exact .inr ⟨hj, h⟩
  have own : ∀ {j : Nat} {a : Addr}, Own (δ.set i (.bw (.obj c fs'))) σ j a → Own δ σ j a := fun {j a} ⟨sl, e1, e2, e3⟩ => by
    rcases get j sl e1 with ⟨_, z⟩ | ⟨_, z⟩
    · subst z; cases e2
    · exact ⟨sl, z, e2, e3⟩
  have gnone' : ∀ {a : Addr} {o : HO}, H a = some o → G a = none → M a = none → G' a = none := fun {a o} h1 h2 h3 => by
    cases z : G' a with
    | none => rfl
    | some u =>
      rcases po.new a u z with q | q | q
      · rw [h2] at q; cases q
      · rw [h1] at q; cases q
      · exact (q h3).elim
  have ownM : ∀ {j : Nat} {a : Addr}, Own δ σ j a → M a = none := fun {j a} ow => by
    cases z : M a with
    | none => rfl
    | some o => exact (O.nown z ow).elim
  have Wn : Wd K (en.ext M') (δ.set i (.bw (.obj c fs'))) σ G' H' := {
    len := by rw [List.length_set]; exact O.wd.len
    sub := po.gh
    ext := O.wd.ext.trans po.g
    new := fun a o e => by
      have nm : M' a = none := by
        cases z : M' a with
        | none => rfl
        | some u => have := po.apart a u z; rw [this] at e; cases e
      rcases po.new a o e with q | q | q
      · rcases O.wd.new a o q with q | ⟨q1, q2⟩
        · exact .inl q
        · exact .inr ⟨nu (f0 q1).1 nm, q2⟩
      · obtain ⟨h1, h2, h3, _⟩ := fresh q
        exact .inr ⟨nu h1 nm, h3⟩
      · cases z : M a with
        | none => exact (q z).elim
        | some u => exact .inr ⟨nu (O.mo a u z).1 nm, (O.mo a u z).2.2⟩
    frm := fun a o e => by
      have e : uni M' en.F0 a = some o := e
      unfold uni at e
      cases z : M' a with
      | some u => rw [z] at e; cases e; exact po.mh a _ z
      | none =>
        rw [z] at e
        refine po.frm a o (O.wd.frm a o (O.fsub a o e)) ?_
        cases zm : M a with
        | none => rfl
        | some u => have e : en.F0 a = some o := e; rw [(O.mo a u zm).1] at e; cases e
    stay := fun a h => by
      have h1 := O.wd.stay a h
      cases z : H a with
      | none => exact (h1 z).elim
      | some o =>
        rw [po.frm a o z (by
          cases zm : M a with
          | none => rfl
          | some u => exact ((O.mo a u zm).2.2 h).elim)]
        simp
    nd := O.wd.nd
    slot := fun j sl o h1 h2 => by
      rcases get j sl h1 with ⟨z, e⟩ | ⟨hj, h3⟩
      · subst z e
        rw [O.at_] at h2
        cases h2
        exact ⟨_, rfl, BRep.mk (VRep.ob ob uni_l) fun z => by cases z⟩
      · have q := O.wd.slot j sl o h3 h2
        cases sl with
        | un => trivial
        | fr d => obtain ⟨v, e, r⟩ := q; exact ⟨v, e, Rep.sub po.g _ _ r⟩
        | mu d =>
          obtain ⟨a, e, n1, n2, n3, r⟩ := q
          subst e
          have zm := ownM ⟨_, h3, rfl, h2⟩
          obtain ⟨u, eu⟩ := r.ex
          exact ⟨a, rfl, gnone' eu n1 zm, nu (f0 n2).1 (mnone eu zm), n3, r.keep po.g fun o e => po.frm a o e zm⟩
        | mp l d =>
          obtain ⟨a, e, n0, n1, n2, r⟩ := q
          subst e
          have zm := ownM ⟨_, h3, rfl, h2⟩
          obtain ⟨u, eu⟩ := r.ex
          exact ⟨a, rfl, n0, gnone' eu n1 zm, nu (f0 n2).1 (mnone eu zm), r.keep po.g fun o e => po.frm a o e zm⟩
        | bw d =>
          obtain ⟨v, e, _⟩ := q
          subst e
          exact ⟨v, rfl, BRep.sub po.g fsub (O.bw j d v hj h3 h2)⟩
        | bo l => exact (noBo_get hnb h3).elim
    apart := fun j l a h1 h2 => O.wd.apart j l a (own h1) (own h2) }
  refine ⟨Wn, mo', O.at_, ⟨fs', by rw [List.getElem?_set_self hil], ob⟩, fun j d v hj h1 h2 => ?_⟩
  rcases get j _ h1 with ⟨z, _⟩ | ⟨_, h3⟩
  · exact (hj z).elim
  · exact BRep.sub po.g (Sub.refl _) (O.bw j d v hj h3 h2)
end
/-- an instance that has no field of a method's name -/
def objD (c m : Str) : D → Option Unit
  | .obj c' fs => if c' = c ∧ fs.lookup m = none then some () else none
  | _ => none
section
variable {X : Cx} {en : Kn} {δ τ : List Slot} {R : Type} {C : Slot → List Slot → Res R → Prop} {m : Res R} {K : PySem.W.Frag}
end
end BR

/-! K53: comprehensions of two clauses without tests, nothing changed within -/
namespace BR
open PySem PySem.Spec PyProof.Rows L2

def lcI : List D → List D → (D → Res D) → Res (List D)
  | [], acc, _ => .ok acc
  | e :: es, acc, f => match f e with
    | .ok y => if acc.length < sizeLine then lcI es (acc ++ [y]) f else .bad
    | _ => .bad
def lc2F : List D → List D → (D → Res (List D)) → (D → D → Res D) → Res (List D)
  | [], acc, _, _ => .ok acc
  | d :: ds, acc, g, f => match g d with
    | .ok es => (match lcI es acc (f d) with
      | .ok acc' => lc2F ds acc' g f
      | _ => .bad)
    | _ => .bad
section
variable {X : Cx} {en : Kn} {δ τ : List Slot} {R : Type} {C : Slot → List Slot → Res R → Prop} {m : Res R} {K : PySem.W.Frag}
end
end BR

/-! K54: an own list grows in place: x += list -/
namespace BR
open PySem PySem.Spec PyProof.Rows L2
section
variable {X : Cx} {en : Kn} {δ : List Slot} {R : Type} {N RT BK CT : List Slot → Res R → Prop} {m : Res R}
variable {RT' : Slot → List Slot → Res R → Prop}
end
end BR

/-! K55: a op b op c as a value; str of a number -/
namespace BR
open PySem PySem.Spec PyProof.Rows L2
section
variable {X : Cx} {en : Kn} {R : Type} {δ τ : List Slot} {m : Res R} {pos : Pos}
end
/-- str(n) -/
def strI : List D → Option D
  | [.int i] => if i.natAbs.log2 < 1920 then some (.str (toString i)) else none
  | _ => none
section
variable {X : Cx}
theorem c_strI : CallD X (.type "str") strI .fr := callD_of call_str_int fun ds d e G H vs Q sb r k => by
  match ds, e, r with
  | [.int a], e, r =>
    have e' : (if a.natAbs.log2 < 1920 then some (D.str (toString a)) else none) = some d := e
    by_cases hz : a.natAbs.log2 < 1920
    · rw [if_pos hz] at e'
      cases e'
      obtain ⟨v, ev, q⟩ := VReps.one r
      have q' : v = .int a := q
      subst ev q'
      exact ⟨a, rfl, hz, sc_out (d := .str (toString a)) sb rfl k⟩
    · rw [if_neg hz] at e'; cases e'
end
end BR

/-! K56: statements of any kind between what was told and its change -/
namespace BR
open PySem PySem.Spec PyProof.Rows L2
/-- lists and dicts alone -/
def ldO (G : Hp) : Hp := fun a => match G a with
  | some (.lst xs) => some (.lst xs)
  | some (.dK kv) => some (.dK kv)
  | _ => none
theorem ld_at {G : Hp} {a : Addr} {o : HO} (h : ldO G a = some o) : G a = some o ∧ noL G a = none := by
  unfold ldO at h
  split at h
  · rename_i xs e
    cases h
    exact ⟨e, by unfold noL; rw [e]⟩
  · rename_i kv e
    cases h
    exact ⟨e, by unfold noL; rw [e]⟩
  · cases h
/-- H without the lists and dicts of G -/
def wo (H G : Hp) : Hp := fun a => match ldO G a with
  | some _ => none
  | none => H a
abbrev Kn.wide (en : Kn) (G : Hp) : Kn := { n := en.n, G0 := noL G, F0 := uni en.F0 (ldO G), ps := en.ps, HX := en.HX, h0 := en.h0 }
/-- what is known of what stood fast before it was told -/
structure Pre (en : Kn) (G : Hp) : Prop where
  ext : Sub en.G0 G
  new : ∀ a o, G a = some o → en.G0 a = some o ∨ (en.F0 a = none ∧ a ∉ en.ps)
  fit : ∀ a o u, en.F0 a = some u → G a = some o → u = o
section
variable {K : PySem.W.Frag} {en : Kn} {Δ : List Slot} {S : L2.St} {G G' H : Hp}
theorem Pre.F (P : Pre en G) : Sub (ldO G) (en.wide G).F0 := fun a o h => by
  show uni en.F0 (ldO G) a = some o
  unfold uni
  cases e : en.F0 a with
  | none => exact h
  | some u => rw [P.fit a o u e (ld_at h).1]
end
/-- the names as they are taken along: ds what is looked at (true: it stands fast) -/
inductive BV : List Slot → List Slot → List (Bool × D) → Prop where
  | n : BV [] [] []
  | u {s : Slot} {δ δ' : List Slot} {ds : List (Bool × D)} : BV δ δ' ds → BV (s :: δ) (.un :: δ') ds
  | f {d : D} {δ δ' : List Slot} {ds : List (Bool × D)} : BV δ δ' ds → BV (.fr d :: δ) (.fr d :: δ') ((true, d) :: ds)
  | c {d : D} {δ δ' : List Slot} {ds : List (Bool × D)} : BV δ δ' ds → BV (.fr d :: δ) (.bw d :: δ') ((false, d) :: ds)
  | m {d : D} {δ δ' : List Slot} {ds : List (Bool × D)} : BV δ δ' ds → BV (.mu d :: δ) (.mu d :: δ') ((false, d) :: ds)
  | p {j : Nat} {d : D} {δ δ' : List Slot} {ds : List (Bool × D)} : BV δ δ' ds → BV (.mp j d :: δ) (.mp j d :: δ') ((false, d) :: ds)
/-- .. and left -/
inductive EV : List Slot → List Slot → List (Bool × D) → Prop where
  | n : EV [] [] []
  | u {s : Slot} {δ δ' : List Slot} {ds : List (Bool × D)} : EV δ δ' ds → EV (s :: δ) (.un :: δ') ds
  | f {d : D} {δ δ' : List Slot} {ds : List (Bool × D)} : EV δ δ' ds → EV (.fr d :: δ) (.fr d :: δ') ((true, d) :: ds)
  | m {d : D} {δ δ' : List Slot} {ds : List (Bool × D)} : EV δ δ' ds → EV (.mu d :: δ) (.mu d :: δ') ((false, d) :: ds)
  | p {j : Nat} {d : D} {δ δ' : List Slot} {ds : List (Bool × D)} : EV δ δ' ds → EV (.mp j d :: δ) (.mp j d :: δ') ((false, d) :: ds)
theorem BV.len {δ δ' : List Slot} {ds : List (Bool × D)} (h : BV δ δ' ds) : δ'.length = δ.length := by
  induction h with
  | n => rfl
  | u _ ih => rw [List.length_cons, List.length_cons, ih]
  | f _ ih => rw [List.length_cons, List.length_cons, ih]
  | c _ ih => rw [List.length_cons, List.length_cons, ih]
  | m _ ih => rw [List.length_cons, List.length_cons, ih]
  | p _ ih => rw [List.length_cons, List.length_cons, ih]
theorem BV.get {δ δ' : List Slot} {ds : List (Bool × D)} (h : BV δ δ' ds) : ∀ {i : Nat} {sl : Slot}, δ'[i]? = some sl → sl = .un ∨ (∃ d, sl = .fr d ∧ δ[i]? = some (.fr d) ∧ (true, d) ∈ ds) ∨ (∃ d, sl = .bw d ∧ δ[i]? = some (.fr d) ∧ (false, d) ∈ ds) ∨ (∃ d, sl = .mu d ∧ δ[i]? = some (.mu d) ∧ (false, d) ∈ ds) ∨ ∃ j d, sl = .mp j d ∧ δ[i]? = some (.mp j d) ∧ (false, d) ∈ ds := by
  induction h with
  | n => intro i sl e; simp at e
  | @u s δ δ' ds _ ih =>
    intro i sl e
    cases i with
    | zero => exact .inl (by simpa using e.symm)
    | succ i =>
      rcases ih (i := i) (by simpa using e) with z | ⟨d, a, b, c⟩ | ⟨d, a, b, c⟩ | ⟨d, a, b, c⟩ | ⟨j, d, a, b, c⟩
      · exact .inl z
      · exact .inr (.inl ⟨d, a, by simpa using b, c⟩)
      · exact .inr (.inr (.inl ⟨d, a, by simpa using b, c⟩))
      · exact .inr (.inr (.inr (.inl ⟨d, a, by simpa using b, c⟩)))
      · exact .inr (.inr (.inr (.inr ⟨j, d, a, by simpa using b, c⟩)))
  | @f d0 δ δ' ds _ ih =>
    intro i sl e
    cases i with
    | zero => exact .inr (.inl ⟨d0, by simpa using e.symm, rfl, List.mem_cons_self⟩)
    | succ i =>
      rcases ih (i := i) (by simpa using e) with z | ⟨d, a, b, c⟩ | ⟨d, a, b, c⟩ | ⟨d, a, b, c⟩ | ⟨j, d, a, b, c⟩
      · exact .inl z
      · exact .inr (.inl ⟨d, a, by simpa using b, List.mem_cons_of_mem _ c⟩)
      · exact .inr (.inr (.inl ⟨d, a, by simpa using b, List.mem_cons_of_mem _ c⟩))
      · exact .inr (.inr (.inr (.inl ⟨d, a, by simpa using b, List.mem_cons_of_mem _ c⟩)))
      · exact .inr (.inr (.inr (.inr ⟨j, d, a, by simpa using b, List.mem_cons_of_mem _ c⟩)))
  | @c d0 δ δ' ds _ ih =>
    intro i sl e
    cases i with
    | zero => exact .inr (.inr (.inl ⟨d0, by simpa using e.symm, rfl, List.mem_cons_self⟩))
    | succ i =>
      rcases ih (i := i) (by simpa using e) with z | ⟨d, a, b, c⟩ | ⟨d, a, b, c⟩ | ⟨d, a, b, c⟩ | ⟨j, d, a, b, c⟩
      · exact .inl z
      · exact .inr (.inl ⟨d, a, by simpa using b, List.mem_cons_of_mem _ c⟩)
      · exact .inr (.inr (.inl ⟨d, a, by simpa using b, List.mem_cons_of_mem _ c⟩))
      · exact .inr (.inr (.inr (.inl ⟨d, a, by simpa using b, List.mem_cons_of_mem _ c⟩)))
      · exact .inr (.inr (.inr (.inr ⟨j, d, a, by simpa using b, List.mem_cons_of_mem _ c⟩)))
  | @m d0 δ δ' ds _ ih =>
    intro i sl e
    cases i with
    | zero => exact .inr (.inr (.inr (.inl ⟨d0, by simpa using e.symm, rfl, List.mem_cons_self⟩)))
    | succ i =>
      rcases ih (i := i) (by simpa using e) with z | ⟨d, a, b, c⟩ | ⟨d, a, b, c⟩ | ⟨d, a, b, c⟩ | ⟨j, d, a, b, c⟩
      · exact .inl z
      · exact .inr (.inl ⟨d, a, by simpa using b, List.mem_cons_of_mem _ c⟩)
      · exact .inr (.inr (.inl ⟨d, a, by simpa using b, List.mem_cons_of_mem _ c⟩))
      · exact .inr (.inr (.inr (.inl ⟨d, a, by simpa using b, List.mem_cons_of_mem _ c⟩)))
      · exact .inr (.inr (.inr (.inr ⟨j, d, a, by simpa using b, List.mem_cons_of_mem _ c⟩)))
  | @p j0 d0 δ δ' ds _ ih =>
    intro i sl e
    cases i with
    | zero => exact .inr (.inr (.inr (.inr ⟨j0, d0, by simpa using e.symm, rfl, List.mem_cons_self⟩)))
    | succ i =>
      rcases ih (i := i) (by simpa using e) with z | ⟨d, a, b, c⟩ | ⟨d, a, b, c⟩ | ⟨d, a, b, c⟩ | ⟨j, d, a, b, c⟩
      · exact .inl z
      · exact .inr (.inl ⟨d, a, by simpa using b, List.mem_cons_of_mem _ c⟩)
      · exact .inr (.inr (.inl ⟨d, a, by simpa using b, List.mem_cons_of_mem _ c⟩))
      · exact .inr (.inr (.inr (.inl ⟨d, a, by simpa using b, List.mem_cons_of_mem _ c⟩)))
      · exact .inr (.inr (.inr (.inr ⟨j, d, a, by simpa using b, List.mem_cons_of_mem _ c⟩)))
section
variable {K : PySem.W.Frag} {en : Kn} {δ δ' : List Slot} {σ : L2.St} {G G' G1 H0 H : Hp} {ds : List (Bool × D)}
theorem MRep.same {d : D} {p : Addr} {A A' B : Hp} (s : Sub A A') (h : MRep K A B d p) : MRep K A' B d p := h.keep s fun o e => e
theorem Wd.pre (W : Wd K en δ σ G H0) : Pre en G where
  ext := W.ext
  new := W.new
  fit := fun a o u h1 h2 => by
    have e1 := W.frm a u h1
    have e2 := W.sub a o h2
    rw [e1] at e2
    exact Option.some.inj e2
end
section
variable {X : Cx} {en : Kn} {R : Type} {δ : List Slot} {N : List Slot → Res R → Prop} {RT : Slot → List Slot → Res R → Prop} {BK CT : List Slot → Res R → Prop} {m : Res R} {pos : Pos}
/-- the name i has what was told (d), which is let stand for a while: any statement may be run -/
structure JV (X : Cx) (en : Kn) (δ : List Slot) (i : Nat) (d : D) (sts : List Stmt) {R : Type} (N : List Slot → Res R → Prop) (RT : Slot → List Slot → Res R → Prop) (BK CT : List Slot → Res R → Prop) (m : Res R) : Prop where
  run : m ≠ .bad → en.HX m.exc → ∀ (σ : L2.St) (G G' H : Hp) (E : Ends), δ.length = en.n → Pre en G → δ[i]? = some (.fr d) → Wd X.K (en.wide G) δ σ G' H →
    (∀ δ' σ' G' H', N δ' m → δ'.length = en.n → Wd X.K en δ' σ' G' H' → E.nx σ' H') →
    (∀ sl δ' v σ' G' H', RT sl δ' m → δ'.length = en.n → Wd X.K en (δ' ++ [sl]) (σ' ++ [some v]) G' H' → E.rt v H') →
    (∀ δ' σ' G' H', BK δ' m → δ'.length = en.n → Wd X.K en δ' σ' G' H' → E.bk σ' H') →
    (∀ δ' σ' G' H', CT δ' m → δ'.length = en.n → Wd X.K en δ' σ' G' H' → E.ct σ' H') → WSs X sts E σ H
end
end BR

/-! K57: errors of own classes with an own begin: made, raised, their fields read -/
namespace BR
open PySem PySem.Spec PyProof.Rows L2
section
variable {X : Cx} {e : Expr} {es : List Expr} {ta te : TA} {p pos : Pos}
end
/-- a caught error's field -/
def xfD (cs : List Str) (n : Str) : D → Option D
  | .exc c xf => if c ∈ cs then (xf.lookup n).map fun o => match o with | none => .non | some i => .int i else none
  | _ => none
def XfF (K : PySem.W.Frag) (cs : List Str) (n : Str) : Prop := ∀ c, c ∈ cs → ∀ C, PySem.W.nsIn K mainGlobals c = some (some (.ref C)) → XfC K C ∧ PySem.W.findIn K (.ref C) n = some none
/-- what is known of an error class with an own begin of one field -/
structure MkE (P : Program) (w : World) (K : PySem.W.Frag) (mg : Str → Option Value) (base : Heap) (k : Nat) (c n : Str) : Prop where
  ex : ∃ C fI fd ps, mg c = some (.ref C) ∧ OexC K C ∧ PySem.W.findIn K (.ref C) n = some none ∧ PySem.W.findIn K (.ref C) "__init__" = some (some (.ref fI)) ∧ PySem.W.typeIn K (.ref fI) = some (.type "function") ∧ L2.Binds K fd ps [] ∧
    FnG P w K mg base k fI fd ps (fun vs H Q E => ∃ (a C : Addr) (v : V), vs = [.ref a, v] ∧ OexC K C ∧ PySem.W.findIn K (.ref C) n = some none ∧ H a = some (exo a C none) ∧ ∀ dx, H dx = none → dx ≠ a → Q .non (upd (upd H dx (exd dx [(n, v)])) a (exo a C (some dx))))
section
variable {X : Cx} {en : Kn} {δ τ : List Slot} {R : Type} {C : Slot → List Slot → Res R → Prop} {m : Res R} {N : List Slot → Res R → Prop} {RT : Slot → List Slot → Res R → Prop} {BK CT : List Slot → Res R → Prop}
end
end BR

/-! K58: several clauses of one name -/
namespace BR
open PySem PySem.Spec PyProof.Rows L2
/-- what one clause wishes, the suite with the error tracked -/
def wSuite (i : Nat) (ts : Addr → TS) (D : Ends) : WX := fun cls d σ H => ∀ a oe vs, H a = none → L2N.Zn cls d oe → oe.data = .fields vs → ts a { nx := fun σ' H' => D.nx (σ'.set i none) H', rt := D.rt, bk := fun σ' H' => D.bk (σ'.set i none) H', ct := fun σ' H' => D.ct (σ'.set i none) H' } (σ.set i (some (.ref a))) (upd H a (ExO1 oe))
/-- the clauses one behind the other -/
def wKeptL (K : PySem.W.Frag) (i : Nat) (D : Ends) : List (Value × (Addr → TS)) → WX
  | [] => fun _ _ _ _ => False
  | (c, ts) :: r => fun cls d σ H => ∃ b, PySem.W.exmOne K cls c = some b ∧ (b = true → wSuite i ts D cls d σ H) ∧ (b = false → wKeptL K i D r cls d σ H)
inductive HdsK (X : Cx) (n : Str) : List ExceptHandler → List (Value × (Addr → TS)) → Prop
  | nil : HdsK X n [] []
  | cons {x : Str} {c : Value} {ts : Addr → TS} {b₀ : Stmt} {suite : List Stmt} {np pos' : Pos} {hds : List ExceptHandler} {l : List (Value × (Addr → TS))} (hc : Names X x c)
      (hsu : ∀ (a : Addr) (pn : List (Addr × Obj)), PSs (X.suite a pn) (b₀ :: suite) (ts a)) (r : HdsK X n hds l) : HdsK X n (.ExceptHandler (some (.Name x np)) (some n) (b₀ :: suite) pos' :: hds) ((c, ts) :: l)
section
variable {X : Cx} {n : Str} {i : Nat} {body : List Stmt} {h₀ : ExceptHandler} {hds : List ExceptHandler} {l : List (Value × (Addr → TS))} {pos : Pos} {tb : WX → TS}
end

/-- two clauses -/
def tryR2 {S : Type} (cs1 cs2 : List Str) (m : Res S) (h1 h2 : Str → List (Str × Option Int) → Res S) : Res S := match m with
  | .ok a => .ok a
  | .raise x => if x.cls ∈ cs1 then h1 x.cls x.fs else if x.cls ∈ cs2 then h2 x.cls x.fs else .bad
  | .bad => .bad
/-- errors that a clause lets by -/
def CatchN (K : PySem.W.Frag) (mg : Str → Option Value) (cv : Value) (cs : List Str) : Prop := ∀ c, c ∈ cs → ∃ C, mg c = some (.ref C) ∧ PySem.W.exmOne K (.ref C) cv = some false
section
variable {X : Cx} {en : Kn} {δ : List Slot} {R : Type} {m : Res R} {N : List Slot → Res R → Prop} {RT : Slot → List Slot → Res R → Prop} {BK CT : List Slot → Res R → Prop} {rest : List Stmt}
/-- how a suite is judged, the error in slot i -/
def SuiteOk (X : Cx) (en : Kn) (δ : List Slot) (i : Nat) (sts : List Stmt) {S : Type} (pJ : S → List Slot) (cs : List Str) (h : Str → List (Str × Option Int) → Res S) : Prop :=
  ∀ c, c ∈ cs → ∀ (xf : List (Str × Option Int)) (a : Addr) (pn : List (Addr × Obj)) (en' : Kn), KnLe en en' → HotV (X.suite a pn).A.handled en'.G0 → JSs (X.suite a pn) en' (δ.set i (.fr (.exc c xf))) sts (fun δ' m' => ∃ s, m' = .ok s ∧ Le (δ'.set i .un) (pJ s) ∧ noBo δ' = true) (fun _ _ _ => False) (fun _ _ => False) (fun _ _ => False) (h c xf)
end
end BR

/-! K59: a tried call with None among its arguments -/
namespace BR
open PySem PySem.Spec PyProof.Rows L2
/-- names, or None -/
def tAs : List (Option Nat) → TA
  | [] => tNil
  | some i :: is => tCons (tVar i) (tAs is)
  | none :: is => tCons (tC .non) (tAs is)
def AO (δ : List Slot) : List Kd → List (Option Nat) → List D → Prop
  | [], [], [] => True
  | .b :: ks, some i :: is, d :: ds => (∃ s, δ[i]? = some s ∧ s.rdp = some d) ∧ AO δ ks is ds
  | .f :: ks, some i :: is, d :: ds => δ[i]? = some (.fr d) ∧ AO δ ks is ds
  | .b :: ks, none :: is, d :: ds => d = .non ∧ AO δ ks is ds
  | .f :: ks, none :: is, d :: ds => d = .non ∧ AO δ ks is ds
  | _, _, _ => False
section
variable {X : Cx} {en : Kn} {δ : List Slot} {R : Type} {m : Res R} {N : List Slot → Res R → Prop} {RT : Slot → List Slot → Res R → Prop} {BK CT : List Slot → Res R → Prop} {rest : List Stmt}
end
end BR

/-! K60: a, b, c = a list of three -/
namespace BR
open PySem PySem.Spec PyProof.Rows L2
section
variable {X : Cx} {en : Kn} {δ τ : List Slot} {R : Type} {C : Slot → List Slot → Res R → Prop} {m : Res R}
def uL3 : D → Option (D × D × D)
  | .lst [a, b, c] => some (a, b, c)
  | _ => none
end
end BR

/-! K61: a call of a def out of a written list of defs -/
namespace BR
open PySem PySem.Spec PyProof.Rows L2
/-- defs by name, kinds, what they give -/
abbrev Alt := Str × List Kd × (List D → Res D)
def pickF : List Alt → Int → List D → Res D
  | [], _, _ => .bad
  | a :: r, i, ds => if i = 0 then a.2.2 ds else pickF r (i - 1) ds
/-- the list's names are these defs -/
def NmA (X : Cx) : List Alt → List Expr → Prop
  | [], [] => True
  | (x, ks, g) :: as, .Name y _ :: es => x = y ∧ Gl X x ∧ (x == ("__debug__" : Str)) = false ∧ (∃ k, Df X.prog X.w X.K X.mg X.base k x ks g (fun a => a) (fun _ => []) false ∧ RoomG k X.A) ∧ NmA X as es
  | _, _ => False
section
variable {X : Cx}
end
section
variable {X : Cx} {en : Kn} {δ τ : List Slot} {R : Type} {C : Slot → List Slot → Res R → Prop} {m : Res R}
end
end BR

/-! K62: a tried call with built arguments -/
namespace BR
open PySem PySem.Spec PyProof.Rows L2
/-- whatever may be raised -/
def Kn.any (en : Kn) : Kn := { n := en.n, G0 := en.G0, F0 := en.F0, ps := en.ps, HX := fun _ => True, h0 := trivial }
theorem Wd.any {K : PySem.W.Frag} {en : Kn} {δ : List Slot} {σ : L2.St} {G H : Hp} (W : Wd K en δ σ G H) : Wd K en.any δ σ G H := ⟨W.len, W.sub, W.ext, W.new, W.frm, W.stay, W.nd, fun i sl o h1 h2 => by
  have q := W.slot i sl o h1 h2
  cases sl <;> exact q, W.apart⟩
section
variable {X : Cx} {en : Kn} {δ : List Slot} {m : Res Unit}
end
end BR

/-! K63: errors made and kept as values; a tried call whose last parameter is left out -/
namespace BR
open PySem PySem.Spec PyProof.Rows L2
section
variable {X : Cx}
end
/-- an error class without an own begin -/
def Mk0 (K : PySem.W.Frag) (mg : Str → Option Value) (c : Str) : Prop := Raise K mg c ∧ ∃ C, mg c = some (.ref C) ∧ ExcF K c C
def MkF (K : PySem.W.Frag) (mg : Str → Option Value) (c : Str) : Prop := ∃ C, mg c = some (.ref C) ∧ ExcF K c C
/-- an error of one field -/
def mkX (c n : Str) : D → Option D
  | .int i => some (.exc c [(n, some i)])
  | .non => some (.exc c [(n, none)])
  | _ => none
section
variable {X : Cx} {en : Kn} {δ τ : List Slot} {R : Type} {C : Slot → List Slot → Res R → Prop} {m : Res R}
end
/-! ### a tried call, the last parameter left out -/
section
variable {X : Cx} {k : Nat} {f : Addr} {fd : FuncData} {ps : List Str} {sp : Sp} {x : Str} {p pos : Pos} {e : Expr} {es : List Expr} {t : TA} {E : L2.St → XK}
def tNonE (t : TA) : TA := fun σ H Q => t σ H fun vs H1 => Q (vs ++ [V.non]) H1
end
section
variable {X : Cx} {en : Kn} {δ : List Slot} {R : Type} {m : Res R} {N : List Slot → Res R → Prop} {RT : Slot → List Slot → Res R → Prop} {BK CT : List Slot → Res R → Prop} {rest : List Stmt}
end
end BR

/-! K64: a dict comprehension of two clauses without tests -/
namespace BR
open PySem PySem.Spec PyProof.Rows L2
section
variable {P : Program} {w : World} {A : Around} {R : Result → Shared → Prop} {s : Shared} {kx vx tg iter tg1 iter1 : Expr} {sc : Scope} {ps : Pos} {it ac : Value} {D : Addr} {en : Env}
abbrev NB (P : Program) (w : World) (A : Around) (R : Result → Shared → Prop) (en : Env) : Value → Shared → Prop := notedBy (model P w) A en fun e s' => R (.error e) s'
end
def tDc2 (wi : TI) (g : TG) (wi1 : TI) (g1 : TG) (tk tv : TE) (vs vs1 : List Nat) : TE := fun σ H Q => wi σ H fun J H1 => ∀ D, H1 D = none → ∃ W : Nat → Nat → Hp → Prop, (∃ m, W 0 m (upd H1 D (.dK []))) ∧ ∀ i m H, W i m H →
  (J.stop i H ∧ Q (.ref D) H) ∨ (J.go i H ∧ ∃ Nz : Hp → Prop, (∀ H', Nz H' → ∃ m', m' < m ∧ W (i + 1) m' H') ∧ ∀ x H', J.yld i H x H' → g x (L2.wipe σ vs) H' fun σ2 H2 => L2.wipe σ2 vs = L2.wipe σ vs ∧ wi1 σ2 H2 fun J1 H4 => ∃ W1 : Nat → Nat → Hp → Prop, (∃ m, W1 0 m H4) ∧ ∀ j k H, W1 j k H →
    (J1.stop j H ∧ Nz H) ∨ (J1.go j H ∧ ∃ Ny : Hp → Prop, (∀ H', Ny H' → ∃ k', k' < k ∧ W1 (j + 1) k' H') ∧ ∀ x H', J1.yld j H x H' → g1 x (L2.wipe σ2 vs1) H' fun σ3 H5 => L2.wipe σ3 vs1 = L2.wipe σ2 vs1 ∧ tk σ3 H5 fun y H6 => tv σ3 H6 fun z H7 =>
      ∃ kvs k, y = kV k ∧ H7 D = some (.dK kvs) ∧ kvs.length < sizeLine ∧ Ny (upd H7 D (.dK (putK kvs k z)))))
section
variable {X : Cx}
abbrev AllP (X : Cx) (sc : Scope) (p : Cx → Prop) : Prop := ∀ (s : Shared) (H : Hp) (C : Addr) (cl : List (Str × Addr)) (fp : List Addr), p (X.blk s H sc (compEnvC sc cl C X.env) fp)
end
def dcI : List D → List (Key × D) → (D → Res (D × D)) → Res (List (Key × D))
  | [], acc, _ => .ok acc
  | e :: es, acc, f => match f e with
    | .ok (x, y) => (match keyD x with
      | some k => if acc.length < sizeLine then dcI es (putD acc k y) f else .bad
      | none => .bad)
    | _ => .bad
def dc2F : List D → List (Key × D) → (D → Res (List D)) → (D → D → Res (D × D)) → Res (List (Key × D))
  | [], acc, _, _ => .ok acc
  | d :: ds, acc, g, f => match g d with
    | .ok es => (match dcI es acc (f d) with
      | .ok acc' => dc2F ds acc' g f
      | _ => .bad)
    | _ => .bad
section
variable {X : Cx} {en : Kn} {δ τ : List Slot} {R : Type} {C : Slot → List Slot → Res R → Prop} {m : Res R} {K : PySem.W.Frag}
end
end BR

/-! K65: sorted(a list of pairs of ints) -/
namespace BR
open PySem PySem.Spec PyProof.Rows L2
/-- the first of two that is told ahead -/
def pLe (p q : Int × Int) : Bool := decide (p.1 < q.1) || (decide (p.1 = q.1) && decide (p.2 ≤ q.2))
def insP (p : Int × Int) : List (Int × Int) → List (Int × Int)
  | [] => [p]
  | q :: r => if pLe p q = true then p :: q :: r else q :: insP p r
def srtP : List (Int × Int) → List (Int × Int)
  | [] => []
  | p :: r => insP p (srtP r)
/-- a value that is a pair of ints -/
def TP (K : PySem.W.Frag) (H : Hp) (x : V) (q : Int × Int) : Prop := ∃ t, x = .ref t ∧ SqT K H t [.int q.1, .int q.2]
def All2P (P : V → Int × Int → Prop) : List V → List (Int × Int) → Prop
  | [], [] => True
  | x :: xs, q :: qs => P x q ∧ All2P P xs qs
  | _, _ => False
theorem All2P.map {P : V → Int × Int → Prop} {k : V → Int × Int} (hk : ∀ x q, P x q → k x = q) : ∀ {xs : List V} {ps : List (Int × Int)}, All2P P xs ps → ps = xs.map k ∧ ∀ x, x ∈ xs → P x (k x)
  | [], [], _ => ⟨rfl, fun x hx => by cases hx⟩
  | x :: xs, q :: qs, ⟨h, t⟩ => by
    obtain ⟨e, f⟩ := All2P.map hk t
    have := hk x q h
    refine ⟨by rw [List.map_cons, this, ← e], fun y hy => ?_⟩
    rcases List.mem_cons.mp hy with rfl | hy
    · rw [this]; exact h
    · exact f y hy
  | [], _ :: _, h => h.elim
  | _ :: _, [], h => h.elim
theorem All2P.of {P : V → Int × Int → Prop} {k : V → Int × Int} : ∀ {xs : List V}, (∀ x, x ∈ xs → P x (k x)) → All2P P xs (xs.map k)
  | [], _ => trivial
  | x :: xs, h => ⟨h x List.mem_cons_self, All2P.of fun y hy => h y (List.mem_cons_of_mem _ hy)⟩
section
variable {X : Cx}
def tPD (q : Int × Int) : D := .tup [.int q.1, .int q.2]
def pairsI : List D → Option (List (Int × Int))
  | [] => some []
  | .tup [.int i, .int j] :: r => (pairsI r).map fun ps => (i, j) :: ps
  | _ => none
/-- sorted(x), x a list of pairs of ints -/
def srtPT : List D → Option (List D)
  | [.lst ds] => (pairsI ds).map fun ps => (srtP ps).map tPD
  | _ => none
end
end BR

/-! K66: list(a dict) -/
namespace BR
open PySem PySem.Spec PyProof.Rows L2
def keyT : Key → D
  | .inl i => .int i
  | .inr s => .str s
/-- list(x), x a dict: its keys -/
def listKT : List D → Option (List D)
  | [.dic kvs] => if kvs.length ≤ sizeLine then some (kvs.map fun kv => keyT kv.1) else none
  | _ => none
section
variable {X : Cx}
end
end BR

/-! K67: True in a list of truths -/
namespace BR
open PySem PySem.Spec PyProof.Rows L2
def inBD (a b : D) : Option Bool := match a with
  | .bl i => ((asL b).bind bls).map fun ns => decide (i ∈ ns)
  | _ => none
section
variable {X : Cx}
end
end BR

/-! K68: a module's text, a list of five taken apart, a tried call whose arguments change what is known -/
namespace BR
open PySem PySem.Spec PyProof.Rows L2
section
variable {X : Cx} {en : Kn} {δ τ : List Slot} {R : Type} {C : Slot → List Slot → Res R → Prop} {m : Res R}
theorem je_gs {x : Str} {i : Str} {pos : Pos} (hm : ∃ t, X.mg x = some (.str i t)) (h : C (.fr (.str i)) δ m) (hg : Gl X x := by rfl) (hd : (x == ("__debug__" : Str)) = false := by decide) : JE X en δ τ (.Name x pos) C m := .mk fun hb hx σ ts G H T hl hσ W k => by
  obtain ⟨t, hm⟩ := hm
  exact we_of (pe_glob (v := .str i) hg hm ⟨t, rfl⟩ hd) (k _ _ _ G H h hl (W.out (Grow.refl W.sub) (show Rep _ _ _ _ from rfl)))
theorem gs_mk {K : PySem.W.Frag} {mg : Str → Option Value} {h : Heap} {x i : Str} {t : Tok} (X : K.In h) (G : h.Ns mainGlobals mg) (g : PySem.W.nsIn K mainGlobals x = some (some (.str i t))) : ∃ t, mg x = some (.str i t) := ⟨t, PySem.W.mg_of X G g⟩
def uL5 : D → Option (D × D × D × D × D)
  | .lst [a, b, c, d, e] => some (a, b, c, d, e)
  | _ => none
end
/-- nothing may be raised -/
def Kn.calm (en : Kn) : Kn := { n := en.n, G0 := en.G0, F0 := en.F0, ps := en.ps, HX := fun x => x = none, h0 := rfl }
theorem Wd.calm {K : PySem.W.Frag} {en : Kn} {δ : List Slot} {σ : L2.St} {G H : Hp} (W : Wd K en δ σ G H) : Wd K en.calm δ σ G H := ⟨W.len, W.sub, W.ext, W.new, W.frm, W.stay, W.nd, fun i sl o h1 h2 => by
  have q := W.slot i sl o h1 h2
  cases sl <;> exact q, W.apart⟩
/-- what ends well -/
def nrB {α : Type} : Res α → Res α
  | .ok a => .ok a
  | _ => .bad
section
variable {X : Cx} {en : Kn} {δ : List Slot} {R : Type} {m : Res R} {N : List Slot → Res R → Prop} {RT : Slot → List Slot → Res R → Prop} {BK CT : List Slot → Res R → Prop} {rest : List Stmt}
end
end BR

/-! K69: T.append([..]) and, at once, T[k].append(..) of that last list -/
namespace BR
open PySem PySem.Spec PyProof.Rows L2
section
variable {K : PySem.W.Frag} {en : Kn} {Δ : List Slot} {S : L2.St} {G H : Hp}
end
def app2 (ds : List D) (k : Int) : Option Unit := if ds.length < sizeLine ∧ k = (ds.length : Int) then some () else none
section
variable {X : Cx} {en : Kn} {δ : List Slot} {R : Type} {m : Res R} {N : List Slot → Res R → Prop} {RT : Slot → List Slot → Res R → Prop} {BK CT : List Slot → Res R → Prop} {rest : List Stmt}
end
end BR

/-! K70: list(reversed(a list)) -/
namespace BR
open PySem PySem.Spec PyProof.Rows L2
open Sem (wp)
section
variable {prog : Program} {w : World} {A : Around} {E : Value → Shared → Prop} {s : Shared}
end
/-- list(reversed(x)), x a list: a new list -/
def tListRev (K : PySem.W.Frag) (te : TE) : TE := fun σ H Q => te σ H fun v H1 => ∃ (a : Addr) (xs : List V), v = .ref a ∧ SqL K H1 a xs ∧ ∀ q, H1 q = none → Q (.ref q) (upd H1 q (.lst xs.reverse))
section
variable {X : Cx}
end
/-- a list the other way about -/
def revT : D → Option (List D)
  | .lst ds => some ds.reverse
  | _ => none
section
variable {X : Cx} {en : Kn} {δ τ : List Slot} {R : Type} {C : Slot → List Slot → Res R → Prop} {m : Res R}
end
end BR

/-! K71: for x in T[j]: x.append(..), T told -/
namespace BR
open PySem PySem.Spec PyProof.Rows L2
section
variable {X : Cx} {en : Kn} {δ : List Slot} {R : Type} {m : Res R} {N : List Slot → Res R → Prop} {RT : Slot → List Slot → Res R → Prop} {BK CT : List Slot → Res R → Prop}
end
section
variable {X : Cx} {en : Kn} {δ : List Slot} {R : Type} {m : Res R} {N : List Slot → Res R → Prop} {RT : Slot → List Slot → Res R → Prop} {BK CT : List Slot → Res R → Prop}
def tupIx (d : D) (j : Int) : Option D := match d with
  | .tup ds => atI ds j
  | _ => none
end
end BR

/-! K72: a, b = f(..), g(..), both told, and both changed behind -/
namespace BR
open PySem PySem.Spec PyProof.Rows L2
section
variable {X : Cx} {en : Kn} {δ : List Slot} {R : Type} {m : Res R} {N : List Slot → Res R → Prop} {RT : Slot → List Slot → Res R → Prop} {BK CT : List Slot → Res R → Prop} {pos : Pos}
def chkN (d : D) : Option Unit := match d with
  | .lst l => if l.length < 9000 then some () else none
  | _ => none
/-- as JX, with two told things -/
structure JX2 (X : Cx) (en : Kn) (δ : List Slot) (i : Nat) (d : D) (j : Nat) (e : D) (sts : List Stmt) {R : Type} (N : List Slot → Res R → Prop) (RT : Slot → List Slot → Res R → Prop) (BK CT : List Slot → Res R → Prop) (m : Res R) : Prop where
  run : m ≠ .bad → en.HX m.exc → ∀ (σ : L2.St) (G H0 H G1 : Hp) (E : Ends) (v w : V), δ.length = en.n → σ[i]? = some (some v) → σ[j]? = some (some w) → Wd X.K en δ σ G H0 → Sub H0 H → Sub G1 H → (∀ a o, G1 a = some o → noL G a = some o ∨ H0 a = none) → Rep X.K G1 d v → Rep X.K G1 e w →
    (∀ δ' σ' G' H', N δ' m → δ'.length = en.n → Wd X.K en δ' σ' G' H' → E.nx σ' H') →
    (∀ sl δ' v σ' G' H', RT sl δ' m → δ'.length = en.n → Wd X.K en (δ' ++ [sl]) (σ' ++ [some v]) G' H' → E.rt v H') →
    (∀ δ' σ' G' H', BK δ' m → δ'.length = en.n → Wd X.K en δ' σ' G' H' → E.bk σ' H') →
    (∀ δ' σ' G' H', CT δ' m → δ'.length = en.n → Wd X.K en δ' σ' G' H' → E.ct σ' H') → WSs X sts E σ H
theorem Wd.fr2 {K : PySem.W.Frag} {Δ : List Slot} {S : L2.St} {G H : Hp} {j : Nat} {e : D} {w : V} (W : Wd K en Δ S G H) (hv : S[j]? = some (some w)) (r : Rep K G e w) : Wd K en (Δ.set j (.fr e)) S G H where
  len := by rw [List.length_set]; exact W.len
  sub := W.sub
  ext := W.ext
  new := W.new
  frm := W.frm
  stay := W.stay
  nd := W.nd
  slot := fun k sl o h1 h2 => by
    by_cases hk : j = k
    · subst hk
      by_cases hl : j < Δ.length
      · rw [List.getElem?_set_self hl] at h1
        cases h1
        rw [hv] at h2
        cases h2
        exact ⟨w, rfl, r⟩
      · rw [List.getElem?_eq_none (by rw [List.length_set]; omega)] at h1; cases h1
    · rw [List.getElem?_set_ne hk] at h1
      exact W.slot k sl o h1 h2
  apart := fun a b p ha hb => by
    have key : ∀ k, Own (Δ.set j (.fr e)) S k p → Own Δ S k p := fun k ⟨sl, h1, h2, h3⟩ => by
      by_cases hk : j = k
      · subst hk
        by_cases hl : j < Δ.length
        · rw [List.getElem?_set_self hl] at h1
          cases h1
          cases h2
        · rw [List.getElem?_eq_none (by rw [List.length_set]; omega)] at h1; cases h1
      · rw [List.getElem?_set_ne hk] at h1
        exact ⟨sl, h1, h2, h3⟩
    exact W.apart a b p (key a ha) (key b hb)
end
end BR

/-! K73: an own list copied out of what is told, beside it -/
namespace BR
open PySem PySem.Spec PyProof.Rows L2
section
variable {X : Cx} {en : Kn} {δ : List Slot} {R : Type} {m : Res R} {N : List Slot → Res R → Prop} {RT : Slot → List Slot → Res R → Prop} {BK CT : List Slot → Res R → Prop} {pos : Pos}
def flM (ds : List D) : Option Unit := if flDs ds = true then some () else none
end
end BR

/-! K74: a def that tells two things, of which the first one's lists are new and apart from all of the second; such a call's first thing changed behind -/
namespace BR
open PySem PySem.Spec PyProof.Rows L2
/-- a tuple of two: the second stands fast in G2; the first one's lists are new and none of the second's -/
structure PairE (K : PySem.W.Frag) (en : Kn) (d1 d2 : D) (v : V) (H' : Hp) : Prop where
  at_ : ∃ (a : Addr) (v1 v2 : V) (G2 H0 G1 : Hp), v = .ref a ∧ SqT K H' a [v1, v2] ∧ Sub en.G0 G2 ∧ Sub G2 H0 ∧ Sub en.F0 H0 ∧ Sub H0 H' ∧ (∀ b o, G2 b = some o → en.G0 b = some o ∨ (en.F0 b = none ∧ b ∉ en.ps)) ∧ Rep K G2 d2 v2 ∧ Sub G1 H' ∧ (∀ b o, G1 b = some o → noL G2 b = some o ∨ H0 b = none) ∧ Rep K G1 d1 v1
/-- a told thing at i, its lists new and nobody else's -/
structure TW (X : Cx) (en : Kn) (δ : List Slot) (i : Nat) (d : D) (σ : L2.St) (H : Hp) : Prop where
  at_ : ∃ (G H0 G1 : Hp) (v : V), δ.length = en.n ∧ σ[i]? = some (some v) ∧ Wd X.K en δ σ G H0 ∧ Sub H0 H ∧ Sub G1 H ∧ (∀ a o, G1 a = some o → noL G a = some o ∨ H0 a = none) ∧ Rep X.K G1 d v
section
variable {X : Cx} {en : Kn} {R : Type}
/-- statements beside a told thing, whose end tells two -/
structure JXE (X : Cx) (en : Kn) (δ : List Slot) (i : Nat) (d : D) (sts : List Stmt) {R : Type} (C : List Slot → D → Res R → Prop) (RP : D → D → Res R → Prop) (m : Res R) : Prop where
  run : m ≠ .bad → en.HX m.exc → ∀ (σ : L2.St) (H : Hp) (E : Ends), TW X en δ i d σ H →
    (∀ δ' d' σ' H', C δ' d' m → TW X en δ' i d' σ' H' → E.nx σ' H') →
    (∀ d1 d2 v H', RP d1 d2 m → PairE X.K en d1 d2 v H' → E.rt v H') → WSs X sts E σ H
structure JPs (X : Cx) (en : Kn) (δ : List Slot) (sts : List Stmt) {R : Type} (RP : D → D → Res R → Prop) (m : Res R) : Prop where
  run : m ≠ .bad → en.HX m.exc → ∀ (σ : L2.St) (G H : Hp) (E : Ends), δ.length = en.n → Wd X.K en δ σ G H →
    (∀ d1 d2 v H', RP d1 d2 m → PairE X.K en d1 d2 v H' → E.rt v H') → WSs X sts E σ H
variable {δ : List Slot} {C : List Slot → D → Res R → Prop} {RP : D → D → Res R → Prop} {m : Res R} {pos : Pos}
end
section
variable {P : Program} {w : World} {K : PySem.W.Frag} {mg : Str → Option Value} {base : Heap}
def SpP (K : PySem.W.Frag) (mg : Str → Option Value) (ks : List Kd) (ck : List D → Option Unit) (f : List D → Res D) : Sp := fun vs H Q E =>
  vs.length = ks.length ∧ ∃ (G : Hp) (ds : List D) (r : Res D), Sub G H ∧ ArgsOk K G H (hide H []) ks ds vs [] ∧ ck ds = some () ∧ f ds = r ∧ r ≠ .bad ∧
    (∀ d1 d2, r = .ok (.tup [d1, d2]) → ∀ v H', PairE K ⟨0, G, hide H [], [], fun o => o = none, rfl⟩ d1 d2 v H' → Q v H') ∧
    (∀ x, r = .raise x → ∀ cls d H', ExcOk mg (hide H []) [] x cls d H' → Sub (hide H []) H' → E cls d H')
def DfP (P : Program) (w : World) (K : PySem.W.Frag) (mg : Str → Option Value) (base : Heap) (k : Nat) (x : Str) (ks : List Kd) (ck : List D → Option Unit) (den : List D → Res D) : Prop :=
  ∃ (f : Addr) (fd : FuncData) (psn : List Str), FnG P w K mg base k f fd psn (SpP K mg ks ck den) ∧ mg x = some (.ref f) ∧ PySem.W.keepIn K (.ref f) = true ∧ Binds K fd psn []
end
section
variable {X : Cx} {en : Kn} {R : Type} {δ : List Slot} {N : List Slot → Res R → Prop} {RT : Slot → List Slot → Res R → Prop} {BK CT : List Slot → Res R → Prop} {m : Res R} {pos : Pos}
end
end BR

/-! K75: a parameter that is always given by its name alone; min of lists of truths, by default -/
namespace BR
open PySem PySem.Spec PyProof.Rows L2
/-- y is the last parameter; it is given by name -/
def KwJ (K : PySem.W.Frag) (fd : FuncData) (ps : List Str) (y : Str) : Prop := ∀ (s : Shared) (us : List Value) (u : Value), (us ++ [u]).length = ps.length → BindsTo s fd ⟨us, [(y, u)]⟩ (ps.zip (us ++ [u]))
def DfJ (P : Program) (w : World) (K : PySem.W.Frag) (mg : Str → Option Value) (base : Heap) (k : Nat) (x y : Str) (ks : List Kd) {α : Type} (den : List D → Res α) (val : α → D) (outs : α → List D) (mu : Bool) : Prop :=
  ∃ (f : Addr) (fd : FuncData) (psn : List Str), FnG P w K mg base k f fd psn (SpD K mg ks den val outs mu) ∧ mg x = some (.ref f) ∧ PySem.W.keepIn K (.ref f) = true ∧ KwJ K fd psn y
section
variable {X : Cx} {en : Kn} {δ τ : List Slot} {R : Type} {C : Slot → List Slot → Res R → Prop} {m : Res R} {k : Nat} {f : Addr} {fd : FuncData} {ps : List Str} {sp : Sp} {E : XK} {x y : Str} {p pos kpos : Pos} {e e' : Expr} {es : List Expr}
end
/-! ### min of lists of truths -/
def blss : List D → Option (List (List Bool))
  | [] => some []
  | .lst l :: r => match bls l, blss r with
    | some b, some bs => some (b :: bs)
    | _, _ => none
  | _ :: _ => none
def pdB (b : List Bool) : PyData := .list (b.map .bool)
def minB (b : List Bool) (bs : List (List Bool)) : List Bool := bs.foldl (fun a y => if PySem.W.dataLt (pdB y) (pdB a) = true then y else a) b
def minDf : D → Option D
  | .lst ds => match blss ds with
    | some [] => some .non
    | some (b :: bs) => some (.lst ((minB b bs).map .bl))
    | none => none
  | _ => none
theorem readsB_mk {h : Heap} : ∀ (bs : List Bool), ReadsAll h (bs.map Value.bool) (bs.map PyData.bool) []
  | [] => .nil
  | b :: bs => .cons (as := []) (.bool b) (readsB_mk bs)
theorem vals_bools : ∀ {bs : List Bool} {us : List Value}, Vals (bs.map V.bl) us → us = bs.map Value.bool
  | [], us, r => by cases r; rfl
  | b :: bs, us, r => by
    cases r with
    | cons r1 r2 => rw [vals_bools r2, show _ = Value.bool b from r1]; rfl
section
variable {X : Cx} {en : Kn} {δ τ : List Slot} {R : Type} {C : Slot → List Slot → Res R → Prop} {m : Res R}
/-- the items of a list, each a list of truths -/
def BLs (H : Hp) : List (List Bool) → List V → Prop
  | [], us => us = []
  | b :: bs, us => ∃ a r, us = V.ref a :: r ∧ H a = some (.lst (b.map V.bl)) ∧ BLs H bs r
theorem BLs.reads {pins : List (Addr × Obj)} {s : Shared} {σ : L2.St} {H : Hp} (I : Inv X pins σ H s) : ∀ {bss : List (List Bool)} {us : List V} {its : List Value}, BLs H bss us → Vals us its → ∃ as, ReadsAll s.heap its (bss.map pdB) as
  | [], us, its, h, r => by
    have e : us = [] := h
    subst e; cases r
    exact ⟨[], .nil⟩
  | b :: bs, us, its, h, r => by
    obtain ⟨a, q, rfl, ha, h2⟩ := h
    cases r with
    | cons r1 r2 =>
      cases r1
      obtain ⟨xs, rv, ⟨o, n, ho, hc, _, hd⟩, _⟩ := I.list (SqL.of ha)
      obtain ⟨as, ra⟩ := BLs.reads I h2 r2
      have e := vals_bools rv
      subst e
      have rd : Reads s.heap (.ref a) (pdB b) (a :: []) := .list ho hc hd (by simpa using readsB_mk b)
      exact ⟨_, .cons rd ra⟩
theorem BLs.at {H : Hp} : ∀ {bss : List (List Bool)} {us : List V} {i : Nat} {v : V}, BLs H bss us → us[i]? = some v → ∃ b a, bss[i]? = some b ∧ v = .ref a ∧ H a = some (.lst (b.map V.bl))
  | [], us, i, v, h, e => by
    have z : us = [] := h
    subst z; simp at e
  | b :: bs, us, 0, v, h, e => by
    obtain ⟨a, q, rfl, ha, h2⟩ := h
    have e' : V.ref a = v := by simpa using e
    exact ⟨b, a, rfl, e'.symm, ha⟩
  | b :: bs, us, i + 1, v, h, e => by
    obtain ⟨a, q, rfl, ha, h2⟩ := h
    obtain ⟨b', a', e1, e2, e3⟩ := BLs.at (i := i) h2 (by simpa using e)
    exact ⟨b', a', by simpa using e1, e2, e3⟩
def rMinDf (K : PySem.W.Frag) : List V → List V → Hp → VK → Prop := fun vs zs H Q => ∃ (a : Addr) (us : List V) (bss : List (List Bool)) (z : V), vs = [V.ref a] ∧ zs = [z] ∧ H a = some (.lst us) ∧ BLs H bss us ∧ (bss = [] → Q z H) ∧
  ∀ b bs, bss = b :: bs → ∀ (i : Nat) (v : V), us[i]? = some v → bss[i]? = some (minB b bs) → Q v H
end
/-! ### d.update({..}) -/
def updD : D → List D → Option (D × D)
  | .dic es, [.dic fs] => if es.length + fs.length ≤ sizeLine then some (.non, .dic (mergeD es fs)) else none
  | _, _ => none
def updT (es : List (Key × D)) : D → Option (List (Key × D))
  | .dic fs => if es.length + fs.length ≤ sizeLine then some (mergeD es fs) else none
  | _ => none
section
variable {X : Cx} {en : Kn} {δ τ : List Slot} {R : Type} {C : Slot → List Slot → Res R → Prop} {m : Res R}
end
/-! ### sum of a list of truths -/
def sumBD : List D → Option D
  | [.lst ds] => (bls ds).map fun bs => .int (bs.count true : Nat)
  | _ => none
section
variable {X : Cx}
end
end BR

/-! K76: sorted({n for y in (a, b) for n in y}) of two dicts' keys; walking a dict's keys -/
namespace BR
open PySem PySem.Spec PyProof.Rows L2
section
variable {P : Program} {w : World} {A : Around} {R : Result → Shared → Prop} {s : Shared} {kx tg iter tg1 iter1 : Expr} {sc : Scope} {ps : Pos} {it ac : Value} {D : Addr} {en : Env}
abbrev NB2 (P : Program) (w : World) (A : Around) (R : Result → Shared → Prop) (en : Env) : Value → Shared → Prop := notedBy (model P w) A en fun e s' => R (.error e) s'
end
def tSc2 (w : World) (wi : TI) (g : TG) (wi1 : TI) (g1 : TG) (tk : TE) (vs vs1 : List Nat) : TE := fun σ H Q => wi σ H fun J H1 => ∀ D, H1 D = none → ∃ W : Nat → Nat → Hp → Prop, (∃ m, W 0 m (upd H1 D (SetRO w D (fun _ => false) 0))) ∧ ∀ i m H, W i m H →
  (J.stop i H ∧ Q (.ref D) H) ∨ (J.go i H ∧ ∃ Nz : Hp → Prop, (∀ H', Nz H' → ∃ m', m' < m ∧ W (i + 1) m' H') ∧ ∀ x H', J.yld i H x H' → g x (L2.wipe σ vs) H' fun σ2 H2 => L2.wipe σ2 vs = L2.wipe σ vs ∧ wi1 σ2 H2 fun J1 H4 => ∃ W1 : Nat → Nat → Hp → Prop, (∃ m, W1 0 m H4) ∧ ∀ j k H, W1 j k H →
    (J1.stop j H ∧ Nz H) ∨ (J1.go j H ∧ ∃ Ny : Hp → Prop, (∀ H', Ny H' → ∃ k', k' < k ∧ W1 (j + 1) k' H') ∧ ∀ x H', J1.yld j H x H' → g1 x (L2.wipe σ2 vs1) H' fun σ3 H5 => L2.wipe σ3 vs1 = L2.wipe σ2 vs1 ∧ tk σ3 H5 fun y H6 =>
      ∃ (c : Int) (S : Int → Bool) (n : Nat), y = .int c ∧ H6 D = some (SetRO w D S n) ∧ n + 1 < scanBound ∧ Ny (upd H6 D (SetRO w D (addS S c) (if S c = true then n else n + 1)))))
section
variable {X : Cx}
abbrev AllP2 (X : Cx) (sc : Scope) (p : Cx → Prop) : Prop := ∀ (s : Shared) (H : Hp) (C : Addr) (cl : List (Str × Addr)) (fp : List Addr), p (X.blk s H sc (compEnvC sc cl C X.env) fp)
end
section
variable {X : Cx} {en : Kn} {δ τ : List Slot} {R : Type} {C : Slot → List Slot → Res R → Prop} {m : Res R} {K : PySem.W.Frag}
/-! ### [(s, c[s]) for s in c if c[s] != int(s > 0)], c a dict of ints -/
def prsI : List (Key × D) → Option (List (Int × Int))
  | [] => some []
  | (.inl k, .int v) :: r => (prsI r).map ((k, v) :: ·)
  | _ :: _ => none
def pickP (p : Int × Int) : Bool := !decide (p.2 = if decide (0 < p.1) = true then 1 else 0)
def pickD : D → Option (List D)
  | .dic kvs => if kvs.length ≤ 4000 ∧ (kvs.map (·.1)).Nodup then (prsI kvs).map fun ps => (ps.filter pickP).map fun p => .tup [.int p.1, .int p.2] else none
  | _ => none
theorem set_ne {σ : L2.St} {i j : Nat} {v : V} (h : i ≠ j) : (σ.set i (some v))[j]? = σ[j]? := by rw [List.getElem?_set_ne h]
structure PickI (K : PySem.W.Frag) (G Hl : Hp) (Dn : Addr) (ds : List D) (H : Hp) : Prop where
  old : ∀ c o, Hl c = some o → H c = some o
  ex : ∃ (Gn : Hp) (acc : List V), H Dn = some (.lst acc) ∧ Reps K Gn ds acc ∧ Sub Gn H ∧ ∀ c o, Gn c = some o → Hl c = none ∧ c ≠ Dn
/-! ### sorted({n for y in (a, b) for n in y}): the keys of two dicts -/
def keys2 : D → D → Option (List D)
  | .dic k1, .dic k2 => (intK k1).bind fun n1 => (intK k2).bind fun n2 => if n1.length + n2.length ≤ 4000 then some ((srtU (n1 ++ n2)).map D.int) else none
  | _, _ => none
theorem wipe_setm {σ : L2.St} {vs : List Nat} {i : Nat} {v : V} (h : i ∈ vs) : L2.wipe ((L2.wipe σ vs).set i (some v)) vs = L2.wipe σ vs := by
  rw [wipe_eq (σ := σ) (σ' := (L2.wipe σ vs).set i (some v)) (fun j hj => ?_) (by rw [List.length_set, wipe_length])]
  have hj' : i ≠ j := fun z => hj (by rw [← z]; exact h)
  rw [set_ne hj', wipe_get hj]
structure SetI (w : World) (Hb : Hp) (D : Addr) (P : Int → Prop) [DecidablePred P] (c : Nat) (H : Hp) : Prop where
  old : ∀ x o, Hb x = some o → H x = some o
  ex : ∃ (S : Int → Bool) (n : Nat), H D = some (SetRO w D S n) ∧ n ≤ c ∧ ∀ k, S k = decide (P k)
end
end BR

/-! K77: texts: split, partition, join, endswith, int(..), signs, slices, walks, f'..' -/
namespace BR
open PySem PySem.Spec PyProof.Rows L2
theorem strs_reps {K : PySem.W.Frag} {G : Hp} : ∀ {ys : List Str}, Reps K G (ys.map D.str) (ys.map V.str)
  | [] => rfl
  | y :: r => ⟨.str y, _, rfl, rfl, strs_reps⟩
def strsD : List D → Option (List Str)
  | [] => some []
  | .str y :: r => (strsD r).map (y :: ·)
  | _ :: _ => none
theorem strs_ok : ∀ {ys : List Str}, strsD (ys.map D.str) = some ys
  | [] => rfl
  | y :: r => by
    show (strsD (r.map D.str)).map (y :: ·) = _
    rw [strs_ok]; rfl
theorem strsD_v {K : PySem.W.Frag} {G : Hp} : ∀ {ds : List D} {ys : List Str} {vs : List V}, strsD ds = some ys → Reps K G ds vs → vs = ys.map V.str
  | [], ys, vs, h, r => by cases h; exact r
  | d :: ds, ys, vs, h, r => by
    cases d <;> first | cases h | skip
    rename_i y
    obtain ⟨zs, h1, rfl⟩ := Option.map_eq_some_iff.mp (show (strsD ds).map (y :: ·) = some ys from h)
    obtain ⟨v, q, rfl, r1, r2⟩ := r
    have e1 : v = .str y := r1
    subst e1
    rw [strsD_v h1 r2]; rfl
section
variable {X : Cx}
/-- x.split(y) -/
def splD : List D → Option (List D)
  | [.str a, .str b] => if (b.length == 0) = false ∧ a.length + 2 ≤ sizeLine then some ((Txt.split a b).map D.str) else none
  | _ => none
theorem c_spl : CallL X (.builtin "str.split") splD := callD_met mt_split fun ds d e G H vs Q sb r k => by
  match ds, e, r with
  | [.str a, .str b], e, r =>
    obtain ⟨l, h0, rfl⟩ := Option.map_eq_some_iff.mp e
    by_cases z : (b.length == 0) = false ∧ a.length + 2 ≤ sizeLine
    · have h0' : (if (b.length == 0) = false ∧ a.length + 2 ≤ sizeLine then some ((Txt.split a b).map D.str) else none) = some l := h0
      rw [if_pos z] at h0'
      cases h0'
      obtain ⟨v, u, ev, q1, q2⟩ := VReps.two r
      have q1 : v = .str a := q1
      have q2 : u = .str b := q2
      subst ev q1 q2
      exact ⟨.str a, [.str b], rfl, a, b, rfl, rfl, z.1, z.2, mu_out sb strs_reps k⟩
    · have h0' : (if (b.length == 0) = false ∧ a.length + 2 ≤ sizeLine then some ((Txt.split a b).map D.str) else none) = some l := h0
      rw [if_neg z] at h0'
      cases h0'
/-- x.partition(y) -/
def parD : List D → Option D
  | [.str a, .str b] => if (b.length == 0) = false ∧ a.length ≤ sizeLine then some (.tup [.str (Txt.partition a b).1, .str (Txt.partition a b).2.1, .str (Txt.partition a b).2.2]) else none
  | _ => none
theorem c_par : CallD X (.builtin "str.partition") parD .fr := callD_met mt_partition fun ds d e G H vs Q sb r k => by
  match ds, e, r with
  | [.str a, .str b], e, r =>
    have e' : (if (b.length == 0) = false ∧ a.length ≤ sizeLine then some (D.tup [.str (Txt.partition a b).1, .str (Txt.partition a b).2.1, .str (Txt.partition a b).2.2]) else none) = some d := e
    by_cases z : (b.length == 0) = false ∧ a.length ≤ sizeLine
    · rw [if_pos z] at e'
      cases e'
      obtain ⟨v, u, ev, q1, q2⟩ := VReps.two r
      have q1 : v = .str a := q1
      have q2 : u = .str b := q2
      subst ev q1 q2
      exact ⟨.str a, [.str b], rfl, a, b, rfl, rfl, z.1, z.2, fzT_out sb (strs_reps (ys := [(Txt.partition a b).1, (Txt.partition a b).2.1, (Txt.partition a b).2.2])) k⟩
    · rw [if_neg z] at e'
      cases e'
/-- x.endswith(y) -/
def endD : List D → Option D
  | [.str a, .str b] => some (.bl (Txt.endswith a b))
  | _ => none
theorem c_end : CallD X (.builtin "str.endswith") endD .fr := callD_met mt_endswith fun ds d e G H vs Q sb r k => by
  match ds, e, r with
  | [.str a, .str b], e, r =>
    cases e
    obtain ⟨v, u, ev, q1, q2⟩ := VReps.two r
    have q1 : v = .str a := q1
    have q2 : u = .str b := q2
    subst ev q1 q2
    exact ⟨.str a, [.str b], rfl, a, b, rfl, rfl, sc_out (d := .bl (Txt.endswith a b)) sb rfl k⟩
/-- x.join(list or tuple) -/
def joiS (a : Str) (ys : List Str) : Option D := if (ys.map (·.length)).sum + ys.length * a.length ≤ 16777216 then some (.str (Txt.join a ys)) else none
def joiD : List D → Option D
  | [.str a, .lst ds] => (strsD ds).bind (joiS a)
  | [.str a, .tup ds] => (strsD ds).bind (joiS a)
  | _ => none
theorem joiS_some {a : Str} {ys : List Str} {d : D} (h : joiS a ys = some d) : (ys.map (·.length)).sum + ys.length * a.length ≤ 16777216 ∧ d = .str (Txt.join a ys) := by
  unfold joiS at h
  split at h
  · rename_i z
    cases h
    exact ⟨z, rfl⟩
  · cases h
theorem c_joi : CallD X (.builtin "str.join") joiD .fr := callD_met mt_join fun ds d e G H vs Q sb r k => by
  match ds, e, r with
  | [.str a, .lst l], e, r =>
    obtain ⟨ys, e1, e2⟩ := Option.bind_eq_some_iff.mp (show (strsD l).bind (joiS a) = some d from e)
    obtain ⟨z, rfl⟩ := joiS_some e2
    obtain ⟨v, u, ev, q1, q2⟩ := VReps.two r
    have q1 : v = .str a := q1
    obtain ⟨p, us, rfl, h1, h2⟩ := q2
    subst ev q1
    exact ⟨.str a, [.ref p], rfl, a, p, ys, rfl, rfl, .inl (by rw [← strsD_v e1 h2]; exact SqL.of h1), z, sc_out (d := .str (Txt.join a ys)) sb rfl k⟩
  | [.str a, .tup l], e, r =>
    obtain ⟨ys, e1, e2⟩ := Option.bind_eq_some_iff.mp (show (strsD l).bind (joiS a) = some d from e)
    obtain ⟨z, rfl⟩ := joiS_some e2
    obtain ⟨v, u, ev, q1, q2⟩ := VReps.two r
    have q1 : v = .str a := q1
    obtain ⟨p, us, rfl, h1, h2⟩ := q2
    subst ev q1
    exact ⟨.str a, [.ref p], rfl, a, p, ys, rfl, rfl, .inr (by rw [← strsD_v e1 h2]; exact h1), z, sc_out (d := .str (Txt.join a ys)) sb rfl k⟩
/-- int(text) -/
def itxD : List D → Option D
  | [.str a] => if a.length ≤ 640 then (PySem.intText? a).map D.int else none
  | _ => none
theorem c_itx : CallD X (.type "int") itxD .fr := callD_of call_int_str fun ds d e G H vs Q sb r k => by
  match ds, e, r with
  | [.str a], e, r =>
    have e' : (if a.length ≤ 640 then (PySem.intText? a).map D.int else none) = some d := e
    by_cases z : a.length ≤ 640
    · rw [if_pos z] at e'
      obtain ⟨n, en, rfl⟩ := Option.map_eq_some_iff.mp e'
      obtain ⟨v, ev, q⟩ := VReps.one r
      have q : v = .str a := q
      subst ev q
      exact ⟨a, n, rfl, en, z, sc_out (d := .int n) sb rfl k⟩
    · rw [if_neg z] at e'
      cases e'
/-- a sign in a text -/
def inSg (a b : D) : Option Bool := match a, b with
  | .str x, .str z => match x.cps.toList with
    | [c] => some (decide (c ∈ z.cps.toList))
    | _ => none
  | _, _ => none
theorem sign_eta {x : Str} {c : Nat} (h : x.cps.toList = [c]) : x = ⟨#[c]⟩ := TL.ext_tl h
theorem cmp_inSg : CmpD X (compareOp .In) inSg := opD_of op_in_sign fun d1 d2 d e G H v1 v2 Q sb r1 r2 k => by
  obtain ⟨b, eb, rfl⟩ := Option.map_eq_some_iff.mp e
  match d1, d2, eb, r1, r2 with
  | .str x, .str z, eb, r1, r2 =>
    have r1 : v1 = .str x := r1
    have r2 : v2 = .str z := r2
    subst r1 r2
    have eb' : (match x.cps.toList with | [c] => some (decide (c ∈ z.cps.toList)) | _ => none) = some b := eb
    cases hx : x.cps.toList with
    | nil => rw [hx] at eb'; cases eb'
    | cons c r =>
      cases r with
      | nil =>
        rw [hx] at eb'
        cases eb'
        rw [sign_eta hx]
        exact ⟨c, z, rfl, rfl, sc_out (d := .bl (decide (c ∈ z.cps.toList))) sb rfl k⟩
      | cons c2 r => rw [hx] at eb'; cases eb'
/-- None in a tuple of ints and None -/
def optsD : List D → Option (List (Option Int))
  | [] => some []
  | .int i :: r => (optsD r).map (some i :: ·)
  | .non :: r => (optsD r).map (none :: ·)
  | _ :: _ => none
def oV : Option Int → V
  | none => .non
  | some i => .int i
theorem optsD_v {K : PySem.W.Frag} {G : Hp} : ∀ {ds : List D} {os : List (Option Int)} {vs : List V}, optsD ds = some os → Reps K G ds vs → vs = os.map oV
  | [], os, vs, h, r => by cases h; exact r
  | d :: ds, os, vs, h, r => by
    cases d <;> first | cases h | skip
    · obtain ⟨zs, h1, rfl⟩ := Option.map_eq_some_iff.mp (show (optsD ds).map (none :: ·) = some os from h)
      obtain ⟨v, q, rfl, r1, r2⟩ := r
      have e1 : v = .non := r1
      subst e1
      rw [optsD_v h1 r2]; rfl
    · rename_i i
      obtain ⟨zs, h1, rfl⟩ := Option.map_eq_some_iff.mp (show (optsD ds).map (some i :: ·) = some os from h)
      obtain ⟨v, q, rfl, r1, r2⟩ := r
      have e1 : v = .int i := r1
      subst e1
      rw [optsD_v h1 r2]; rfl
theorem inV_opts : ∀ {os : List (Option Int)}, inV .non (os.map oV) = os.any Option.isNone
  | [] => rfl
  | o :: r => by
    have ih := inV_opts (os := r)
    show (eqV (oV o) .non || inV .non (r.map oV)) = _
    rw [ih, List.any_cons]
    cases o <;> rfl
theorem flat_opts : ∀ {os : List (Option Int)}, (os.map oV).all flatV = true
  | [] => rfl
  | o :: r => by
    rw [List.map_cons, List.all_cons, flat_opts (os := r)]
    cases o <;> rfl
def inNT (a b : D) : Option Bool := match a, b with
  | .non, .tup ds => (optsD ds).map fun os => os.any Option.isNone
  | _, _ => none
theorem cmp_inNT : CmpD X (compareOp .In) inNT := opD_of (op_in_seq (X := X)) fun d1 d2 d e G H v1 v2 Q sb r1 r2 k => by
  obtain ⟨b, eb, rfl⟩ := Option.map_eq_some_iff.mp e
  match d1, d2, eb, r1, r2 with
  | .non, .tup ds, eb, r1, r2 =>
    obtain ⟨os, e1, rfl⟩ := Option.map_eq_some_iff.mp (show (optsD ds).map (fun os => os.any Option.isNone) = some b from eb)
    have r1 : v1 = .non := r1
    obtain ⟨p, vs, rfl, h1, h2⟩ := r2
    subst r1
    have ev := optsD_v e1 h2
    subst ev
    refine ⟨p, _, rfl, .inr h1, rfl, flat_opts, ?_⟩
    rw [inV_opts]
    exact sc_out (d := .bl (os.any Option.isNone)) sb rfl k
/-- text[i] -/
def ixS : D → D → Option D
  | .str z, .int i => if z.length ≤ sizeLine then (atI z.cps.toList i).map fun c => D.str ⟨#[c]⟩ else none
  | _, _ => none
theorem ix_S : IxD X ixS .fr := ixD_of ix_str fun d1 d2 d e G H v1 v2 Q sb r1 r2 k => by
  match d1, d2, e, r1, r2 with
  | .str z, .int i, e, r1, r2 =>
    have e' : (if z.length ≤ sizeLine then (atI z.cps.toList i).map fun c => D.str ⟨#[c]⟩ else none) = some d := e
    by_cases hz : z.length ≤ sizeLine
    · rw [if_pos hz] at e'
      obtain ⟨c, ec, rfl⟩ := Option.map_eq_some_iff.mp e'
      have r1 : v1 = .str z := r1
      have r2 : v2 = .int i := r2
      subst r1 r2
      exact ⟨z, i, c, rfl, rfl, hz, ec, sc_out (d := .str ⟨#[c]⟩) sb rfl k⟩
    · rw [if_neg hz] at e'
      cases e'
end
section
variable {X : Cx} {en : Kn} {δ τ : List Slot} {R : Type} {C : Slot → List Slot → Res R → Prop} {m : Res R} {K : PySem.W.Frag}
/-- o.method(args), a new list -/
theorem je_metL {T id : String} {g : List D → Option (List D)} {name : Str} {o e : Expr} {es : List Expr} {apos cpos : Pos} (pa : PySem.PlainAttrs T) (slot : PySem.Slot T name id) (hty : typeOf (.builtin id) = pure (.type "method_descriptor")) (hc : CallL X (.builtin id) g)
    (h : JE X en δ τ o (fun s1 δ1 m1 => ∃ d0 k0, s1.rd δ1 = some d0 ∧ m1 = op (tyG T d0) k0 ∧ JA X en δ1 (τ ++ [s1]) (e :: es) (fun sls δ2 m2 => ∃ d ds k, s1.rd δ2 = some d ∧ rds δ2 sls = some ds ∧ m2 = op (g (d :: ds)) k ∧ ∀ r, C (.mu (.lst r)) δ2 (k r)) (k0 ())) m)
    (hbase : attributeBase o name X.env (eval o X.env) = eval o X.env := by rfl)
    (hfew : ((backTo cpos (starEach (e :: es) X.env)).all (fun x => !x.1) && (backToKw cpos (keywordEach [] X.env)).all (fun x => x.1.isSome)
      && decide ((e :: es).length + ([] : List Keyword).length + (if ([] : List Keyword).isEmpty then 0 else 1) < 30)) = true := by rfl)
    (hline : (apos.endLine == cpos.line) = true := by rfl) (hs : starEach (e :: es) X.env = (false, eval e X.env) :: starEach es X.env := by exact star_plain rfl) (hplain : (backTo cpos (starEach es X.env)).any (·.1) = false := by rfl) :
    JE X en δ τ (.Call (.Attribute o name apos) (e :: es) [] cpos) C m :=
  je_met pa slot hty hc (h.conv fun s1 δ1 ⟨d0, k0, e0, em0, q⟩ => ⟨d0, k0, e0, em0, q.conv fun sls δ2 ⟨d, ds, k, e1, e2, em, hk⟩ => ⟨d, ds, kL k, e1, e2, by rw [em, op_kL], callL hk⟩⟩) hbase hfew hline hs hplain
/-- text[lo:hi] -/
def cutT (d : D) (lo hi : Option Int) : Option D := match d with
  | .str z => if z.length ≤ sizeLine then some (.str (cutS z lo hi)) else none
  | _ => none
theorem je_cutT {e : Expr} {lo hi : Option Expr} {p2 pos : Pos}
    (h : JE X en δ τ e (fun s1 δ1 m1 => JO X en δ1 (τ ++ [s1]) lo (fun l δ2 m2 => JO X en δ2 (τ ++ [s1]) hi (fun u δ3 m3 => ∃ d k, s1.rd δ3 = some d ∧ m3 = op (cutT d l u) k ∧ ∀ d', C (.fr d') δ3 (k d')) m2) m1) m) :
    JE X en δ τ (.Subscript e (.Slice lo hi none p2) pos) C m := .mk fun hb hx σ ts G H T hl hσ W k => by
  refine we_of (pe_slice sl_str pe_we po_wo po_wo) ?_
  have ht : τ.length = ts.length := W.splitLen (hl.trans hσ.symm)
  refine h.run hb hx σ ts G H _ hl hσ W fun s1 δ1 v1 G1 H1 c1 hl1 W1 => ?_
  rw [List.append_assoc, List.append_assoc] at W1
  refine c1.run hb hx σ (ts ++ [some v1]) G1 H1 _ hl1 hσ W1 fun l δ2 G2 H2 c2 hl2 W2 => ?_
  refine c2.run hb hx σ (ts ++ [some v1]) G2 H2 _ hl2 hσ W2 fun u δ3 G3 H3 c3 hl3 W3 => ?_
  obtain ⟨d, k', es, em, hk⟩ := c3
  have hb' := hb
  rw [em] at hb'
  obtain ⟨d', ed⟩ := op_some hb'
  have em' : m = k' d' := by rw [em, ed]; rfl
  have hk2 := hk d'
  rw [← em'] at hk2
  have W4 : Wd X.K en (δ3 ++ τ ++ [s1]) (σ ++ ts ++ [v1].map some) G3 H3 := by
    rw [List.append_assoc, List.append_assoc]; exact W3
  obtain ⟨⟨_, _, ez, r1, _⟩, Wn⟩ := W4.ends (hl3.trans hσ.symm) ht (ds := [d]) (by simp only [rds, es])
  cases ez
  cases d <;> first | cases ed | skip
  rename_i z
  have ed' : (if z.length ≤ sizeLine then some (D.str (cutS z l u)) else none) = some d' := ed
  by_cases hz : z.length ≤ sizeLine
  · rw [if_pos hz] at ed'
    cases ed'
    have r1 : v1 = .str z := r1
    exact ⟨z, r1, hz, k _ δ3 _ G3 H3 hk2 hl3 ((Wn (by omega)).out (Grow.refl W3.sub) (show Rep _ _ _ _ from rfl))⟩
  · rw [if_neg hz] at ed'
    cases ed'
/-- a text's signs -/
def asS : D → Option (List D)
  | .str z => some (z.cps.toList.map fun c => D.str ⟨#[c]⟩)
  | _ => none
theorem its_D {x : Str} {Gb Fb : Hp} : ItD K (Its x) Gb Fb (x.cps.toList.map fun c => D.str ⟨#[c]⟩) := fun G H sg sf gh i => by
  refine ⟨fun d e => ?_, fun hi => by
    have hi : x.cps.size ≤ i := by rw [List.length_map, Array.length_toList] at hi; exact hi
    exact hi⟩
  rw [List.getElem?_map] at e
  obtain ⟨c, e1, rfl⟩ := Option.map_eq_some_iff.mp e
  have e1' : x.cps[i]? = some c := by rw [← Array.getElem?_toList]; exact e1
  refine ⟨?_, fun y H' hy => ?_⟩
  · obtain ⟨h, _⟩ := Array.getElem?_eq_some_iff.mp e1'
    exact h
  · obtain ⟨rfl, c', h1, rfl⟩ := hy
    rw [e1'] at h1
    cases h1
    exact ⟨G, Grow.refl gh, rfl⟩
theorem ji_str {τ : List Slot} {tg e : Expr} {C : List D → List Slot → Res R → Prop} (h : JE X en δ τ e (fun s δ1 m1 => ∃ d k, s.rd δ1 = some d ∧ m1 = op (asS d) k ∧ ∀ ds, C ds δ1 (k ds)) m) : JI X en δ τ tg e C m := .mk fun hb hx σ ts G H T hl hσ W k => by
  refine wi_of (pi_str pe_we) ?_
  have ht : τ.length = ts.length := W.splitLen (hl.trans hσ.symm)
  refine h.run hb hx σ ts G H _ hl hσ W fun s δ1 v G1 H1 c1 hl1 W1 => ?_
  obtain ⟨d, k', e1, em, hk⟩ := c1
  have hb' := hb
  rw [em] at hb'
  obtain ⟨ds, ed⟩ := op_some hb'
  have em' : m = k' ds := by rw [em, ed]; rfl
  have hk2 := hk ds
  rw [← em'] at hk2
  obtain ⟨⟨_, _, ez, r1, _⟩, Wn⟩ := Wd.ends (sls := [s]) (vs := [v]) W1 (hl1.trans hσ.symm) ht (ds := [d]) (by simp only [rds, e1])
  cases ez
  cases d <;> first | cases ed | skip
  rename_i z
  have r1 : v = .str z := r1
  exact ⟨z, r1, k _ δ1 _ G1 H1 hk2 hl1 (Wn (by omega)) its_D⟩
/-! ### f'..' -/
def stS (acc : Str) : D → Option Str
  | .str y => if y.length ≤ sizeLine ∧ (acc ++ y).length ≤ sizeLine then some (acc ++ y) else none
  | .int i => if i.natAbs.log2 < 1920 ∧ (acc ++ (toString i : Str)).length ≤ sizeLine then some (acc ++ (toString i : Str)) else none
  | _ => none
/-- the parts' judgement, acc told already -/
structure JF (X : Cx) (en : Kn) (δ τ : List Slot) (tls : List TE) (acc : Str) {R : Type} (C : Slot → List Slot → Res R → Prop) (m : Res R) : Prop where
  run : m ≠ .bad → en.HX m.exc → ∀ (σ ts : L2.St) (G H : Hp) (T : Str → Hp → Prop), δ.length = en.n → σ.length = en.n → Wd X.K en (δ ++ τ) (σ ++ ts) G H →
    (∀ out δ' G' H', C (.fr (.str out)) δ' m → δ'.length = en.n → Wd X.K en (δ' ++ τ) (σ ++ ts) G' H' → T out H') → tJs tls acc σ H T
theorem jf_nil {acc : Str} (h : C (.fr (.str acc)) δ m) : JF X en δ τ [] acc C m := .mk fun hb hx σ ts G H T hl hσ W k => k acc δ G H h hl W
theorem jf_fmt {acc : Str} {e : Expr} {tls : List TE} (h : JE X en δ τ e (fun s δ1 m1 => ∃ d k, s.rd δ1 = some d ∧ m1 = op (stS acc d) k ∧ ∀ a, JF X en δ1 τ tls a C (k a)) m) : JF X en δ τ (tFmt (WE X e) :: tls) acc C m := .mk fun hb hx σ ts G H T hl hσ W k => by
  have ht : τ.length = ts.length := W.splitLen (hl.trans hσ.symm)
  refine h.run hb hx σ ts G H _ hl hσ W fun s δ1 v G1 H1 c1 hl1 W1 => ?_
  obtain ⟨d, k', e1, em, hk⟩ := c1
  have hb' := hb
  rw [em] at hb'
  obtain ⟨a, ea⟩ := op_some hb'
  have em' : m = k' a := by rw [em, ea]; rfl
  have hk2 := hk a
  rw [← em'] at hk2
  obtain ⟨⟨_, _, ez, r1, _⟩, Wn⟩ := Wd.ends (sls := [s]) (vs := [v]) W1 (hl1.trans hσ.symm) ht (ds := [d]) (by simp only [rds, e1])
  cases ez
  have fin := hk2.run hb hx σ ts G1 H1 T hl1 hσ (Wn (by omega)) k
  cases d <;> first | cases ea | skip
  · rename_i i
    have ea' : (if i.natAbs.log2 < 1920 ∧ (acc ++ (toString i : Str)).length ≤ sizeLine then some (acc ++ (toString i : Str)) else none) = some a := ea
    by_cases z : i.natAbs.log2 < 1920 ∧ (acc ++ (toString i : Str)).length ≤ sizeLine
    · rw [if_pos z] at ea'
      cases ea'
      have r1 : v = .int i := r1
      exact .inr ⟨i, r1, z.1, _, rfl, z.2, fin⟩
    · rw [if_neg z] at ea'; cases ea'
  · rename_i y
    have ea' : (if y.length ≤ sizeLine ∧ (acc ++ y).length ≤ sizeLine then some (acc ++ y) else none) = some a := ea
    by_cases z : y.length ≤ sizeLine ∧ (acc ++ y).length ≤ sizeLine
    · rw [if_pos z] at ea'
      cases ea'
      have r1 : v = .str y := r1
      exact .inl ⟨y, r1, z.1, _, rfl, z.2, fin⟩
    · rw [if_neg z] at ea'; cases ea'
theorem jf_text {acc x : Str} {j : Nat} {pos : Pos} {tls : List TE} (h : ∃ k, m = op (stS acc (.str x)) k ∧ ∀ a, JF X en δ τ tls a C (k a)) : JF X en δ τ (WE X (.Constant (.str x) j pos) :: tls) acc C m := .mk fun hb hx σ ts G H T hl hσ W k => by
  obtain ⟨k', em, hk⟩ := h
  have hb' := hb
  rw [em] at hb'
  obtain ⟨a, ea⟩ := op_some hb'
  have em' : m = k' a := by rw [em, ea]; rfl
  have hk2 := hk a
  rw [← em'] at hk2
  have fin := hk2.run hb hx σ ts G H T hl hσ W k
  have ea' : (if x.length ≤ sizeLine ∧ (acc ++ x).length ≤ sizeLine then some (acc ++ x) else none) = some a := ea
  by_cases z : x.length ≤ sizeLine ∧ (acc ++ x).length ≤ sizeLine
  · rw [if_pos z] at ea'
    cases ea'
    exact we_of pe_str ⟨x, rfl, z.2, fin⟩
  · rw [if_neg z] at ea'; cases ea'
/-- f'..' -/
theorem je_fstr {v1 v2 : Expr} {rest : List Expr} {tls : List TE} {pos : Pos} (hp : PJ X (v1 :: v2 :: rest) tls) (h : JF X en δ τ tls Str.empty C m) : JE X en δ τ (.JoinedStr (v1 :: v2 :: rest) pos) C m := .mk fun hb hx σ ts G H T hl hσ W k =>
  we_of (pe_joined hp) (h.run hb hx σ ts G H (fun out H1 => T (.str out) H1) hl hσ W fun out δ' G' H' c hl' W' => k _ δ' (.str out) G' H' c hl' (W'.out (Grow.refl W'.sub) (show Rep _ _ _ _ from rfl)))
end
end BR

/-! K78: a def that is given a list of two new lists, apart, and changes the first; the list made by a comprehension of two turns -/
namespace BR
open PySem PySem.Spec PyProof.Rows L2
def SpT (K : PySem.W.Frag) (den : List D → List D → D → D → Option Bool) : Sp := fun vs H Q E =>
  vs.length = 3 ∧ ∃ (G : Hp) (p a b : Addr) (xs ys : List V) (A B : List D) (d t : D) (v w : V) (r : Bool),
    vs = [.ref p, v, w] ∧ Sub G H ∧ H p = some (.lst [.ref a, .ref b]) ∧ H a = some (.lst xs) ∧ H b = some (.lst ys) ∧ a ≠ b ∧ p ≠ a ∧ p ≠ b ∧ G p = none ∧ G a = none ∧ G b = none ∧ Reps K G A xs ∧ Reps K G B ys ∧ Rep K G d v ∧ Rep K G t w ∧ den A B d t = some r ∧
    ∀ H', (∀ c o, c ≠ a → H c = some o → H' c = some o) → Q (.bl r) H'
/-- the test, and what is told behind the change -/
def denT (g1 : List D → List D → D → D → Res Bool) (g2 : List D → List D → D → D → Res Bool) (cc : D) (A B : List D) (d t : D) : Option Bool :=
  if A.length < sizeLine then (match g1 A B d t with
    | .ok b => if b = true then some false else (match g2 (A ++ [cc]) B d t with
      | .ok r => some r
      | _ => none)
    | _ => none) else none
theorem denT_some {g1 : List D → List D → D → D → Res Bool} {g2 : List D → List D → D → D → Res Bool} {cc : D} {A B : List D} {d t : D} {r : Bool} (h : denT g1 g2 cc A B d t = some r) :
    A.length < sizeLine ∧ ∃ b1, g1 A B d t = .ok b1 ∧ (b1 = true → r = false) ∧ (b1 = false → g2 (A ++ [cc]) B d t = .ok r) := by
  unfold denT at h
  by_cases hz : A.length < sizeLine
  · rw [if_pos hz] at h
    refine ⟨hz, ?_⟩
    cases e : g1 A B d t with
    | ok b =>
      rw [e] at h
      refine ⟨b, rfl, fun hb => ?_, fun hb => ?_⟩
      · subst hb
        have h : some false = some r := h
        cases h; rfl
      · subst hb
        have h : (match g2 (A ++ [cc]) B d t with | .ok r => some r | _ => none) = some r := h
        cases e2 : g2 (A ++ [cc]) B d t with
        | ok r' => rw [e2] at h; cases h; rfl
        | raise _ => rw [e2] at h; cases h
        | bad => rw [e2] at h; cases h
    | raise _ => rw [e] at h; cases h
    | bad => rw [e] at h; cases h
  · rw [if_neg hz] at h; cases h
/-- the names as they may be read, some of them not known -/
theorem Wd.tvW {K : PySem.W.Frag} {en : Kn} {δ : List Slot} {σ σ' : L2.St} {G H0 H Gc : Hp} {vs : List Nat} (W : Wd K en δ σ G H0) (s0 : Sub H0 H) (sg : Sub G Gc) (sh : Sub Gc H) (hl : σ'.length = σ.length) (hw : ∀ j, j ∉ vs → σ'[j]? = σ[j]?) {HX : Option Exc → Prop} {h0 : HX none} : Wd K ⟨en.n, Gc, H, [], HX, h0⟩ (wipeS (δ.map Slot.tv) vs) σ' Gc H where
  len := by rw [wipeS_len, List.length_map, hl]; exact W.len
  sub := sh
  ext := Sub.refl _
  new := fun a o e => .inl e
  frm := Sub.refl _
  stay := fun a h => by cases h
  nd := List.nodup_nil
  slot := fun j sl o h1 h2 => by
    rcases wipeS_get h1 with rfl | ⟨hj, h1⟩
    · trivial
    rw [hw j hj] at h2
    rw [List.getElem?_map] at h1
    obtain ⟨s, hs, e⟩ := Option.map_eq_some_iff.mp h1
    subst e
    have q := W.slot j s o hs h2
    cases s with
    | un => trivial
    | bo _ => trivial
    | fr d => obtain ⟨v, e, r⟩ := q; exact ⟨v, e, Rep.sub sg _ _ r⟩
    | mu d => obtain ⟨p, e, _, _, _, r⟩ := q; exact ⟨_, e, BRep.sub sg s0 (BRep.mk r.v r.notup)⟩
    | mp j d => obtain ⟨p, e, _, _, _, r⟩ := q; exact ⟨_, e, BRep.sub sg s0 (BRep.mk r.v r.notup)⟩
    | bw d => obtain ⟨v, e, r⟩ := q; exact ⟨v, e, BRep.sub sg (W.frm.trans s0) r⟩
  apart := fun a b p h1 _ => by
    obtain ⟨sl, e1, e2, _⟩ := h1
    rcases wipeS_get e1 with rfl | ⟨_, e1⟩
    · cases e2
    rw [List.getElem?_map] at e1
    obtain ⟨s, _, e⟩ := Option.map_eq_some_iff.mp e1
    subst e
    cases s <;> cases e2
/-- three names that stand fast -/
theorem Wd.fast3 {K : PySem.W.Frag} {en : Kn} {G H : Hp} {x y z : D} {u v w : V} (s : Sub G H) (r1 : Rep K G x u) (r2 : Rep K G y v) (r3 : Rep K G z w) : Wd K (en.pure G H) [.fr x, .fr y, .fr z] [some u, some v, some w] G H where
  len := rfl
  sub := s
  ext := Sub.refl _
  new := fun a o e => .inl e
  frm := Sub.refl _
  stay := fun a h => by cases h
  nd := List.nodup_nil
  slot := fun j sl o h1 h2 => by
    match j, h1, h2 with
    | 0, h1, h2 => cases h1; cases h2; exact ⟨u, rfl, r1⟩
    | 1, h1, h2 => cases h1; cases h2; exact ⟨v, rfl, r2⟩
    | 2, h1, h2 => cases h1; cases h2; exact ⟨w, rfl, r3⟩
    | j + 3, h1, h2 => simp at h1
  apart := fun a b p h1 _ => by
    obtain ⟨sl, e1, e2, _⟩ := h1
    match a, e1 with
    | 0, e1 => cases e1; cases e2
    | 1, e1 => cases e1; cases e2
    | 2, e1 => cases e1; cases e2
    | j + 3, e1 => simp at e1
theorem Wd.un3 {K : PySem.W.Frag} {en : Kn} {G H : Hp} {u v w : V} (s : Sub G H) : Wd K (en.pure G H) [.un, .un, .un] [some u, some v, some w] G H where
  len := rfl
  sub := s
  ext := Sub.refl _
  new := fun a o e => .inl e
  frm := Sub.refl _
  stay := fun a h => by cases h
  nd := List.nodup_nil
  slot := fun j sl o h1 h2 => by
    match j, h1, h2 with
    | 0, h1, h2 => cases h1; trivial
    | 1, h1, h2 => cases h1; trivial
    | 2, h1, h2 => cases h1; trivial
    | j + 3, h1, h2 => simp at h1
  apart := fun a b p h1 _ => by
    obtain ⟨sl, e1, e2, _⟩ := h1
    match a, e1 with
    | 0, e1 => cases e1; cases e2
    | 1, e1 => cases e1; cases e2
    | 2, e1 => cases e1; cases e2
    | j + 3, e1 => simp at e1
/-- a region with three places more -/
def with3 (G H : Hp) (p a b : Addr) : Hp := fun c => if c = p ∨ c = a ∨ c = b then H c else G c
theorem with3_sub {G H : Hp} {p a b : Addr} (s : Sub G H) : Sub (with3 G H p a b) H := fun c o e => by
  unfold with3 at e
  split at e
  · exact e
  · exact s c o e
theorem with3_g {G H : Hp} {p a b : Addr} (s : Sub G H) : Sub G (with3 G H p a b) := fun c o e => by
  unfold with3
  split
  · exact s c o e
  · exact e
theorem with3_at {G H : Hp} {p a b c : Addr} (h : c = p ∨ c = a ∨ c = b) : with3 G H p a b c = H c := if_pos h
section
variable {P : Program} {w : World} {K : PySem.W.Frag} {mg : Str → Option Value} {base : Heap}
theorem fn_T {x qual : Str} {st : Stmt} {fa : Addr} {fd : FuncData} {N psn : List Str} {k : Nat}
    (F : L2.Fun K x qual st fa fd) (S : FnScope N psn (defScope st)) (hN : N.length = 3) (hps : psn.length = 3)
    {y : Str} {c e1 e2 : Expr} {j0 j1 : Nat} {p0 p1 p2 p3 p4 p5 p6 p7 p8 p9 : Pos}
    (hbody : defBody st = [.If c [.Return (some (.Constant (.bool false) j1 p0)) p1] [] p2, .Expr (.Call (.Attribute (.Subscript (.Name y p3) (.Constant (.int 0) j0 p4) p5) "append" p6) [e1] [] p7) p8, .Return (some e2) p9])
    (hy : N[0]? = some y) (hdb : (y == ("__debug__" : Str)) = false) (hcd : (y == ("__classdict__" : Str)) = false)
    (g1 : List D → List D → D → D → Res Bool) (g2 : List D → List D → D → D → Res Bool) (cc : D)
    (facts : ∀ (X : Cx) (cdv : Value) (A : Around) (outer : List Env) (s : Shared) (H : Hp) (E : XK), X = cxOf (L2N.CX P w) P w K mg base N qual (defScope st) fa cdv A outer s H E → RoomG k X.A →
      Vis X.env.scope y ∧ (swapsWith (.Call (.Attribute (.Subscript (.Name y p3) (.Constant (.int 0) j0 p4) p5) "append" p6) [e1] [] p7) none p8.line X.env = pure false) ∧
      (attributeBase (.Subscript (.Name y p3) (.Constant (.int 0) j0 p4) p5) "append" X.env (eval (.Subscript (.Name y p3) (.Constant (.int 0) j0 p4) p5) X.env) = eval (.Subscript (.Name y p3) (.Constant (.int 0) j0 p4) p5) X.env) ∧
      (((backTo p7 (starEach [e1] X.env)).all (fun x => !x.1) && (backToKw p7 (keywordEach [] X.env)).all (fun x => x.1.isSome)
        && decide ([e1].length + ([] : List Keyword).length + (if ([] : List Keyword).isEmpty then 0 else 1) < 30)) = true) ∧ ((p6.endLine == p7.line) = true) ∧ (starEach [e1] X.env = (false, eval e1 X.env) :: starEach [] X.env) ∧ ((backTo p7 (starEach [] X.env)).any (·.1) = false) ∧ PlainIx (.Constant (.int 0) j0 p4) ∧
      (∀ (en : Kn) (A B : List D) (d t : D), JT X en [.fr (.lst [.lst A, .lst B]), .fr d, .fr t] [] c (fun tb _ m1 => m1 = .ok tb) (g1 A B d t)) ∧
      (∀ (en : Kn), JE X en [.un, .un, .un] [] e1 (fun s _ m1 => s = .fr cc) (.ok () : Res Unit)) ∧
      (∀ (en : Kn) (A B : List D) (d t : D), JE X en [.fr (.lst [.lst A, .lst B]), .fr d, .fr t] [] e2 (fun s _ m1 => ∃ b, s = .fr (.bl b) ∧ m1 = .ok b) (g2 A B d t))) :
    FnG P w K mg base (k + 1) fa fd psn (SpT K (denT g1 g2 cc)) := by
  refine fn_G F S (fun vs H Q E h => h.1.trans hps.symm) fun cdv A0 outer s H vs Q E hr h => ?_
  obtain ⟨hl3, G, p, a, b, xs, ys, A, B, d, t, v, w', r, evs, sG, hp, ha, hb, hab, hpa, hpb, gp, ga, gb, rA, rB, rd, rt, eden, post⟩ := h
  subst evs
  obtain ⟨hz, b1, eg1, hT, hF⟩ := denT_some eden
  let X : Cx := cxOf (L2N.CX P w) P w K mg base N qual (defScope st) fa cdv A0 outer s H E
  obtain ⟨vis, f1, f2, f3, f4, f5, f6, f7, fc, fe1, fe2⟩ := facts X cdv A0 outer s H E rfl hr
  let en : Kn := ⟨3, G, H, [], fun o => o = none, rfl⟩
  have eσ : L2.start N [.ref p, v, w'] = [some (.ref p), some v, some w'] := by
    unfold L2.start
    rw [hN]; rfl
  rw [eσ, hbody]
  refine ⟨WSs X _, pss_wss, ?_⟩
  have s1 := with3_sub (p := p) (a := a) (b := b) sG
  have g1s := with3_g (p := p) (a := a) (b := b) sG
  have rT : Rep X.K (with3 G H p a b) (.lst [.lst A, .lst B]) (.ref p) := ⟨p, [.ref a, .ref b], rfl, (with3_at (.inl rfl)).trans hp, .ref a, _, rfl, ⟨a, xs, rfl, (with3_at (.inr (.inl rfl))).trans ha, Reps.sub g1s _ _ rA⟩, .ref b, _, rfl, ⟨b, ys, rfl, (with3_at (.inr (.inr rfl))).trans hb, Reps.sub g1s _ _ rB⟩, rfl⟩
  have W1 : Wd X.K (en.pure (with3 G H p a b) H) [.fr (.lst [.lst A, .lst B]), .fr d, .fr t] [some (.ref p), some v, some w'] (with3 G H p a b) H := Wd.fast3 s1 rT (Rep.sub g1s _ _ rd) (Rep.sub g1s _ _ rt)
  refine wss_of (pss_cons ps_ws pss_wss) (ws_of (ps_if pt_wt pss_wss pss_wss) (JT.at (fc (en.pure (with3 G H p a b) H) A B d t) (by rw [eg1]; exact fun z => nomatch z) (by rw [eg1]; rfl) rfl W1 fun tb δ1 G1 H1 em hl1 W2 => ?_))
  have em : g1 A B d t = .ok tb := em
  rw [eg1] at em
  have etb : b1 = tb := by
    have : (Res.ok b1 : Res Bool) = .ok tb := em
    cases this; rfl
  subst etb
  have fr1 : Sub H H1 := W2.frm
  cases b1 with
  | true =>
    have er := hT rfl
    subst er
    exact iteT (wss_of (pss_one ps_ws) (ws_of (ps_ret pe_bl) (post H1 fun c o _ e => fr1 c o e)))
  | false =>
    refine iteF (wss_of pss_nil ?_)
    have eg2 := hF rfl
    -- the append
    have sG1 : Sub G H1 := sG.trans fr1
    refine wss_of (pss_cons ps_ws pss_wss) (ws_of (ps_expr (pe_bm (r := fun x vs H Q => ∃ p, x = .ref p ∧ ∀ (pins : List (Addr × Obj)) (s : Shared) (σ : L2.St) (us : List Value), Inv X pins σ H s → Vals vs us → wpAny (model X.prog X.w) X.A (call (.builtin "list.append") (.ref p :: us)) (EP X pins σ Q) X.xe s)
      PySem.F.plainAttrs_list PySem.F.slot_list_append PySem.F.type_list_append (fun pins s σ H x xs v us Q I r1 r2 h => by
        obtain ⟨p, e, h⟩ := h
        subst e
        cases r1
        exact h pins s σ us I r2) (pe_ix ix_list (pe_var (i := 0) hy vis hdb hcd) pe_int f7) pa_wa f2 f3 f4 f5 f6) f1) ?_)
    refine ⟨.ref p, rfl, p, [.ref a, .ref b], 0, .ref a, rfl, rfl, SqL.of (fr1 _ _ hp), rfl, .inl ⟨rfl, xs, SqL.of (fr1 _ _ ha)⟩, ?_⟩
    have W3 : Wd X.K (en.pure G H1) [.un, .un, .un] [some (.ref p), some v, some w'] G H1 := Wd.un3 sG1
    refine wa_of (pa_cons pe_we pa_nil f5) ?_
    refine JE.at (fe1 (en.pure G H1)) (fun z => nomatch z) rfl rfl W3 fun sl δ2 u G2 H2 es hl2 W4 => ?_
    have es : sl = .fr cc := es
    subst es
    obtain ⟨u', eu, ru⟩ := W4.last
    cases eu
    have fr2 : Sub H1 H2 := W4.frm
    have newN : ∀ q o, G q = none → H1 q = some o → G2 q = none := fun q o g e => by
      cases z : G2 q with
      | none => rfl
      | some o' =>
        rcases W4.new q o' z with y | y
        · have y : G q = some o' := y
          rw [g] at y; cases y
        · have y : H1 q = none := y.1
          rw [e] at y; cases y
    have ga2 := newN a _ ga (fr1 _ _ ha)
    have gb2 := newN b _ gb (fr1 _ _ hb)
    have gp2 := newN p _ gp (fr1 _ _ hp)
    have sg2 : Sub G G2 := W4.ext
    refine ⟨a, rfl, fun pins s5 σ5 us I5 rv => ?_⟩
    refine m_append (.lst A) [cc] .non (.lst (A ++ [cc])) (if_pos hz) pins s5 σ5 G2 H2 a [u] us _ I5 W4.sub ga2 ⟨xs, fr2 _ _ (fr1 _ _ ha), Reps.sub sg2 _ _ rA⟩ ⟨u, [], rfl, ru, rfl⟩ rv fun v3 o3 _ rm => ?_
    obtain ⟨zs, hz3, rz⟩ := rm
    rw [upd_same] at hz3
    cases hz3
    -- the end
    generalize hH4 : upd H2 a (.lst zs) = H4
    have keep : ∀ q o, q ≠ a → H q = some o → H4 q = some o := fun q o hq e => by rw [← hH4, upd_ne hq]; exact fr2 _ _ (fr1 _ _ e)
    have s4 : Sub G2 H4 := fun q o e => by
      rw [← hH4, upd_ne fun z => by rw [z, ga2] at e; cases e]; exact W4.sub _ _ e
    have s5' := with3_sub (p := p) (a := a) (b := b) s4
    have g5s := with3_g (p := p) (a := a) (b := b) s4
    have rT5 : Rep X.K (with3 G2 H4 p a b) (.lst [.lst (A ++ [cc]), .lst B]) (.ref p) := ⟨p, [.ref a, .ref b], rfl, (with3_at (.inl rfl)).trans (keep p _ hpa hp), .ref a, _, rfl, ⟨a, zs, rfl, (with3_at (.inr (.inl rfl))).trans (by rw [← hH4, upd_same]), Reps.sub g5s _ _ rz⟩, .ref b, _, rfl, ⟨b, ys, rfl, (with3_at (.inr (.inr rfl))).trans (keep b _ hab.symm hb), Reps.sub g5s _ _ (Reps.sub sg2 _ _ rB)⟩, rfl⟩
    have W5 : Wd X.K (en.pure (with3 G2 H4 p a b) H4) [.fr (.lst [.lst (A ++ [cc]), .lst B]), .fr d, .fr t] [some (.ref p), some v, some w'] (with3 G2 H4 p a b) H4 := Wd.fast3 s5' rT5 (Rep.sub g5s _ _ (Rep.sub sg2 _ _ rd)) (Rep.sub g5s _ _ (Rep.sub sg2 _ _ rt))
    refine wss_of (pss_one ps_ws) (ws_of (ps_ret pe_we) (JE.at (fe2 (en.pure (with3 G2 H4 p a b) H4) (A ++ [cc]) B d t) (by rw [eg2]; exact fun z => nomatch z) (by rw [eg2]; rfl) rfl W5 fun sl δ3 u3 G6 H6 ⟨bb, es, em⟩ hl3 W6 => ?_))
    subst es
    rw [eg2] at em
    have em : (Res.ok r : Res Bool) = .ok bb := em
    cases em
    obtain ⟨u', eu, ru'⟩ := W6.last
    cases eu
    have ru' : u3 = .bl r := ru'
    subst ru'
    exact post H6 fun q o hq e => W6.frm q o (keep q o hq e)
end
/-- what a block's element runs in: all that is there is kept -/
structure KnU (en en' : Kn) : Prop where
  n : en'.n = en.n
  HX : en'.HX = fun o => o = none
theorem KnU.lk {X : Cx} {en en' : Kn} (h : KnU en en') {s : Shared} {H : Hp} {scope : Scope} {cenv : Env} {fp : List Addr} : Lk (X.blk s H scope cenv fp) en' :=
  ⟨fun _ _ _ _ => False, takes0N, fun x hx => by rw [h.HX] at hx; cases hx⟩
def two (ds : List D) : Option Unit := if ds.length = 2 then some () else none
/-- in a comprehension nothing is raised -/
def okR {α : Type} : Res α → Res α
  | .ok a => .ok a
  | _ => .bad
section
variable {X : Cx} {en : Kn} {δ : List Slot} {R : Type} {C : Slot → List Slot → Res R → Prop} {m : Res R}
theorem je_T2 {k : Nat} {x : Str} {px pos lpos : Pos} {elt tg iter e2 e3 : Expr} {scope : Scope} {den : List D → List D → D → D → Option Bool} {mE : Res (List D)} (own : List (Str × Nat)) (it : Nat)
    (F : ∃ (f : Addr) (fd : FuncData) (psn : List Str), FnG X.prog X.w X.K X.mg X.base k f fd psn (SpT X.K den) ∧ X.mg x = some (.ref f) ∧ PySem.W.keepIn X.K (.ref f) = true ∧ Binds X.K fd psn [])
    (hr : RoomG k X.A) (hL : Lk X en) (hc : X.calm = true) (hN : X.N.Nodup) (hit : it ∈ own.map (·.2))
    (hgt : AllB X scope fun Y => ∀ (v : V) (σ : L2.St) (H : Hp) (Q : L2.St → Hp → Prop), Q (σ.set it (some v)) H → WG Y tg v σ H Q)
    (hE : AllB X scope fun Y => ∀ en', KnU en en' → Lk Y en' → JE Y en' (wipeS (δ.map Slot.tv) (own.map (·.2))) [] elt (fun s _ m1 => ∃ l, s = .mu (.lst l) ∧ m1 = .ok l) mE)
    (h : JI X en δ [] tg iter (fun ds δ1 m1 => δ1 = δ ∧ ∃ k0 k1, m1 = op (two ds) k0 ∧ k0 () = (okR mE).bind k1 ∧ ∀ A, mE = .ok A → ∀ en', KnP en en' → JA X en' (δ.map Slot.tv) [] [e2, e3] (fun sls _ m2 => ∃ d t k2, frs sls = some [d, t] ∧ m2 = op (den A A d t) k2 ∧ ∀ b, C (.fr (.bl b)) δ (k2 b)) (k1 A)) m)
    (ok : BlkOk X.N X.env.scope scope own := by exact blkOk_by (by decide +kernel)) (hs : ∀ x, foldedSetIterable iter X.env x = pure x := by intro _; rfl)
    (hg : Gl X x := by rfl) (hdb : (x == ("__debug__" : Str)) = false := by decide)
    (he : starEach [.ListComp elt [⟨tg, iter, [], 0⟩] scope lpos, e2, e3] X.env = (false, eval (.ListComp elt [⟨tg, iter, [], 0⟩] scope lpos) X.env) :: starEach [e2, e3] X.env := by exact star_plain rfl) (hpl : (backTo pos (starEach [e2, e3] X.env)).any (·.1) = false := by rfl) :
    JE X en δ [] (.Call (.Name x px) [.ListComp elt [⟨tg, iter, [], 0⟩] scope lpos, e2, e3] [] pos) C m := .mk fun hb hx σ ts G H T hl hσ W0 q => by
  obtain ⟨f, fd, psn, hf, hm, hk, hbd⟩ := F
  have ets : ts = [] := by
    have := W0.splitLen (hl.trans hσ.symm)
    exact List.eq_nil_of_length_eq_zero this.symm
  subst ets
  refine we_of (pe_callG hf hr hg hm hk hbd .nil hL.passes (pa_cons (pe_lc hc hN pi_wi ok (g := gB X scope tg) (tt := tB X scope []) (te := eB X scope elt) (fun s0 H0 C0 cl fp => ⟨fun pins s σ H v u Q I r hw => hw s0 H0 C0 cl fp pins s u I r⟩)
    (fun s0 H0 C0 cl fp => ⟨fun pins s σ H Q I hw => hw s0 H0 C0 cl fp pins s I⟩) (fun s0 H0 C0 cl fp => ⟨fun pins s σ H Q I hw => hw s0 H0 C0 cl fp pins s I⟩) hs) pa_wa he) hdb he hpl) ?_
  refine h.run hb hx σ [] G H _ hl hσ W0 fun ds δ1 J G1 H1 c hl1 W1 itd => ?_
  obtain ⟨rfl, k0, k1, em, ek, hrest⟩ := c
  rw [List.append_nil, List.append_nil] at W1
  have hb1 := hb
  rw [em] at hb1
  obtain ⟨u0, eu0⟩ := op_some hb1
  have lds : ds.length = 2 := by
    have eu0 : (if ds.length = 2 then some () else none) = some u0 := eu0
    split at eu0
    · assumption
    · cases eu0
  have em1 : m = (okR mE).bind k1 := by rw [em, eu0]; exact ek
  have hb2 := hb
  rw [em1] at hb2
  obtain ⟨A, eA⟩ : ∃ A, mE = .ok A := by
    cases e : mE with
    | ok A => exact ⟨A, rfl⟩
    | raise _ => rw [e] at hb2; exact absurd rfl hb2
    | bad => rw [e] at hb2; exact absurd rfl hb2
  have em2 : m = k1 A := by rw [em1, eA]; rfl
  have hrest := hrest A eA
  intro Dn hD
  refine ⟨fun i n H2 => n = 2 - i ∧ i ≤ 2 ∧ ∃ (as : List Addr) (Gc : Hp), as.length = i ∧ as.Nodup ∧ Dn ∉ as ∧ Sub H1 H2 ∧ H2 Dn = some (.lst (as.map V.ref)) ∧ Sub G1 Gc ∧ Sub Gc H2 ∧ Gc Dn = none ∧ ∀ a, a ∈ as → H1 a = none ∧ Gc a = none ∧ ∃ xs, H2 a = some (.lst xs) ∧ Reps X.K Gc A xs,
    ⟨2, rfl, by omega, [], G1, rfl, List.nodup_nil, by simp, Sub.upd hD, upd_same, Sub.refl _, W1.sub.trans (Sub.upd hD), (W1.fresh hD).1, fun a ha => by cases ha⟩, ?_⟩
  rintro i n H2 ⟨rfl, hi, as, Gc, las, nd, dn, s2, hd, sg, sc, gd, hA⟩
  obtain ⟨go, stop⟩ := itd Gc H2 sg (W1.frm.trans s2) sc i
  by_cases hlt : i < 2
  · obtain ⟨g1, g2⟩ := go ds[i] (List.getElem?_eq_getElem (by omega))
    refine .inr ⟨g1, fun H' => ∃ (as : List Addr) (Gc : Hp), as.length = i + 1 ∧ as.Nodup ∧ Dn ∉ as ∧ Sub H1 H' ∧ H' Dn = some (.lst (as.map V.ref)) ∧ Sub G1 Gc ∧ Sub Gc H' ∧ Gc Dn = none ∧ ∀ a, a ∈ as → H1 a = none ∧ Gc a = none ∧ ∃ xs, H' a = some (.lst xs) ∧ Reps X.K Gc A xs, fun H' hn => ⟨2 - (i + 1), by omega, rfl, by omega, hn⟩, fun v H' hy => ?_⟩
    obtain ⟨G3, gr, _⟩ := g2 v H' hy
    have s3 : Sub H2 H' := gr.h
    intro s0 H0 C0 cl fp
    refine hgt s0 H0 C0 cl fp v _ _ _ ⟨wipe_setm hit, fun s0 H0 C0 cl fp pins s I => wpAny_tests_nil ⟨H', I, iteT fun s0 H0 C0 cl fp => ?_⟩⟩
    have hw : ∀ j, j ∉ own.map (·.2) → ((L2.wipe σ (own.map (·.2))).set it (some v))[j]? = σ[j]? := fun j hj => by
      rw [List.getElem?_set_ne fun z => hj (by rw [← z]; exact hit), wipe_get hj]
    have hls : ((L2.wipe σ (own.map (·.2))).set it (some v)).length = σ.length := by rw [List.length_set, wipe_length]
    have WE1 : Wd X.K ⟨en.n, Gc, H', [], fun o => o = none, rfl⟩ (wipeS (δ1.map Slot.tv) (own.map (·.2))) ((L2.wipe σ (own.map (·.2))).set it (some v)) Gc H' := W1.tvW (s2.trans s3) sg (sc.trans s3) hls hw
    have hlw : (wipeS (δ1.map Slot.tv) (own.map (·.2))).length = en.n := by rw [wipeS_len, List.length_map]; exact hl1
    refine JE.at (hE s0 H0 C0 cl fp ⟨en.n, Gc, H', [], fun o => o = none, rfl⟩ ⟨rfl, rfl⟩ (KnU.lk (en := en) (en' := ⟨en.n, Gc, H', [], fun o => o = none, rfl⟩) ⟨rfl, rfl⟩)) (by rw [eA]; exact fun z => nomatch z) (by rw [eA]; rfl) hlw WE1 fun sl δ2 y G6 H6 ⟨l, es, el⟩ hl2 W6 => ?_
    subst es
    rw [eA] at el
    cases el
    obtain ⟨p, ey, gp6, fp6, _, xs, hp6, rx⟩ := W6.last
    cases ey
    have fp6 : H' p = none := fp6
    have f6 : Sub H' H6 := W6.frm
    have newN : ∀ q o, Gc q = none → H' q = some o → G6 q = none := fun q o g e => by
      cases z : G6 q with
      | none => rfl
      | some o' =>
        rcases W6.new q o' z with y | y
        · have y : Gc q = some o' := y
          rw [g] at y; cases y
        · have y : H' q = none := y.1
          rw [e] at y; cases y
    have pD : p ≠ Dn := fun z => by rw [z, s3 _ _ hd] at fp6; cases fp6
    have pas : p ∉ as := fun z => by
      obtain ⟨_, _, xs', e, _⟩ := hA p z
      rw [s3 _ _ e] at fp6; cases fp6
    have g6d := newN Dn _ gd (s3 _ _ hd)
    have W6s : Sub G6 H6 := W6.sub
    refine ⟨as.map V.ref, f6 _ _ (s3 _ _ hd), ?_, as ++ [p], G6, by rw [List.length_append, List.length_singleton, las], ?_, ?_, ?_, ?_, sg.trans W6.ext, ?_, g6d, ?_⟩
    · rw [List.length_map, las]
      exact Nat.lt_of_lt_of_le hlt (by decide)
    · refine List.nodup_append.mpr ⟨nd, List.nodup_cons.mpr ⟨by simp, List.nodup_nil⟩, fun a ha b hb => ?_⟩
      rw [List.mem_singleton.mp hb]
      exact fun z => pas (by rw [← z]; exact ha)
    · rw [List.mem_append, List.mem_singleton]
      rintro (z | z)
      · exact dn z
      · exact pD z.symm
    · exact fun c o e => by
        have : c ≠ Dn := fun z => by rw [z, hD] at e; cases e
        rw [upd_ne this]
        exact f6 _ _ (s3 _ _ (s2 _ _ e))
    · rw [upd_same, List.map_append]; rfl
    · exact fun c o e => by
        rw [upd_ne fun z => by rw [z, g6d] at e; cases e]
        exact W6s c o e
    · intro a ha
      rcases List.mem_append.mp ha with ha | ha
      · obtain ⟨h1, h2, xs', h3, h4⟩ := hA a ha
        refine ⟨h1, newN a _ h2 (s3 _ _ h3), xs', ?_, Reps.sub W6.ext _ _ h4⟩
        rw [upd_ne fun z => dn (by rw [← z]; exact ha)]
        exact f6 _ _ (s3 _ _ h3)
      · rw [List.mem_singleton.mp ha]
        refine ⟨?_, gp6, xs, by rw [upd_ne pD]; exact hp6, rx⟩
        cases z : H1 p with
        | none => rfl
        | some o => rw [s3 _ _ (s2 _ _ z)] at fp6; cases fp6
  · have i2 : i = 2 := by omega
    subst i2
    refine .inl ⟨stop (by omega), ?_⟩
    obtain ⟨a, b, rfl⟩ : ∃ a b, as = [a, b] := by
      match as, las with
      | [a, b], _ => exact ⟨a, b, rfl⟩
    obtain ⟨h1a, ga, xs, ha, rA⟩ := hA a (by simp)
    obtain ⟨h1b, gb, ys, hb', rB⟩ := hA b (by simp)
    have hab : a ≠ b := fun z => by
      rw [z] at nd
      exact (List.nodup_cons.mp nd).1 (by simp)
    have WP : Wd X.K (en.pure Gc H2) (δ1.map Slot.tv) σ Gc H2 := W1.tvW (vs := []) s2 sg sc rfl (fun _ _ => rfl)
    have knp : KnP en (en.pure Gc H2) := W1.knP s2
    rw [em2] at hb hx
    refine (hrest (en.pure Gc H2) knp).run hb hx σ [] Gc H2 _ (by rw [List.length_map]; exact hl1) hσ (by rw [List.append_nil, List.append_nil]; exact WP) fun sls δ2 vs G3 H3 ⟨d, t, k2, ef, em3, hC⟩ hl2 W3 => ?_
    rw [em3] at hb
    obtain ⟨r, er⟩ := op_some hb
    obtain ⟨hnn, hq⟩ := W3.endSlots (hl2.trans hσ.symm) rfl
    have hrs : Reps X.K G3 [d, t] vs := Wd.frs (Δ := δ2) (H := H3) hq hnn ef
    obtain ⟨v, _, rfl, rd, w, _, rfl, rt, rfl⟩ := hrs
    have f3 : Sub H2 H3 := W3.frm
    have newN : ∀ q o, Gc q = none → H2 q = some o → G3 q = none := fun q o g e => by
      cases z : G3 q with
      | none => rfl
      | some o' =>
        rcases W3.new q o' z with y | y
        · have y : Gc q = some o' := y
          rw [g] at y; cases y
        · have y : H2 q = none := y.1
          rw [e] at y; cases y
    have W3s : Sub G3 H3 := W3.sub
    have e3 : Sub Gc G3 := W3.ext
    have dna : Dn ≠ a := fun z => dn (by rw [z]; simp)
    have dnb : Dn ≠ b := fun z => dn (by rw [z]; simp)
    refine ⟨rfl, G3, Dn, a, b, xs, ys, A, A, d, t, v, w, r, rfl, W3s, f3 _ _ hd, f3 _ _ ha, f3 _ _ hb', hab, dna, dnb, newN _ _ gd hd, newN _ _ ga ha, newN _ _ gb hb', Reps.sub e3 _ _ rA, Reps.sub e3 _ _ rB, rd, rt, er, fun H' keep => ?_⟩
    have s' : Sub H1 H' := fun c o e => keep c o (fun z => by rw [z, h1a] at e; cases e) (f3 _ _ (s2 _ _ e))
    have hC := hC r
    have ek2 : k2 r = m := by rw [em2, em3, er]; rfl
    rw [ek2] at hC
    refine q _ δ1 (.bl r) G1 H' hC hl1 ?_
    rw [List.append_nil, List.append_nil]
    exact W1.out (Grow.more W1.sub s') (show Rep _ _ _ _ from rfl)
end
section
variable {X : Cx} {en : Kn} {δ : List Slot} {R : Type} {m : Res R} {N : List Slot → Res R → Prop} {RT : Slot → List Slot → Res R → Prop} {BK CT : List Slot → Res R → Prop}
/-- x, y, z = a, b, c by names that are the def's own alone -/
theorem js_par3 (i j l : Nat) {x y z : Str} {a b c : Expr} {px py pz pt pos : Pos} {kt k2 : Nat} {pt2 : Pos} (hN : X.N.Nodup) (hc : X.calm = true) (hij : i ≠ j) (hil : i ≠ l) (hjl : j ≠ l)
    (h : JA X en δ [] [a, b, c] (fun sls δ1 m1 => ∃ s1 s2 s3 δ', sls = [s1, s2, s3] ∧ s1.may = true ∧ s2.may = true ∧ s3.may = true ∧ (j + 1).ble δ1.length = true ∧ (l + 1).ble δ1.length = true ∧ noBo (δ1 ++ [s1] ++ [s2]) = true ∧ noBo (δ1.set l s3 ++ [s1]) = true ∧ noBo ((δ1.set l s3).set j s2) = true ∧ ((δ1.set l s3).set j s2).set i s1 = δ' ∧ N δ' m1) m)
    (hi : X.N[i]? = some x := by rfl) (hj : X.N[j]? = some y := by rfl) (hl' : X.N[l]? = some z := by rfl) (hx : X.env.scope.names.lookup x = some .local := by rfl) (hy : X.env.scope.names.lookup y = some .local := by rfl) (hz : X.env.scope.names.lookup z = some .local := by rfl)
    (hw : swappedStores [.Tuple [.Name x px, .Name y py, .Name z pz] kt pt] (.Tuple [a, b, c] k2 pt2) X.env = pure (some [x, y, z]) := by rfl)
    (hs : swapsWithSole [.Tuple [.Name x px, .Name y py, .Name z pz] kt pt] (.Tuple [a, b, c] k2 pt2) pos.line X.env = pure false := by rfl) : JS X en δ (.Assign [.Tuple [.Name x px, .Name y py, .Name z pz] kt pt] (.Tuple [a, b, c] k2 pt2) pos) N RT BK CT m := .mk fun hb hx' σ G H E hl W k1 k2 k3 k4 => by
  refine ws_of (ps_par3 hc hN hi hj hl' hij hil hjl hx hy hz pa_wa hw hs) ?_
  refine h.run hb hx' σ [] G H _ hl (W.sl hl) (by rw [List.append_nil, List.append_nil]; exact W) fun sls δ1 vs G1 H1 c1 hl1 W1 => ?_
  obtain ⟨s1, s2, s3, δ', rfl, m1, m2, m3, lj, ll, n1, n2, n3, ed, hN'⟩ := c1
  obtain ⟨hn, _⟩ := W1.endSlots (hl1.trans (W.sl hl).symm) rfl
  match vs, hn with
  | [v1, v2, v3], _ =>
    refine ⟨v1, v2, v3, rfl, ?_⟩
    have lσ : σ.length = δ1.length := (W.sl hl).trans hl1.symm
    have hj' : j < δ1.length := Nat.le_of_ble_eq_true lj
    have hl2 : l < δ1.length := Nat.le_of_ble_eq_true ll
    have W2 : Wd X.K en ((δ1 ++ [s1] ++ [s2]) ++ [s3]) ((σ ++ [some v1] ++ [some v2]) ++ [some v3]) G1 H1 := by
      have := W1
      simp only [List.append_nil, List.map_cons, List.map_nil, List.append_assoc, List.cons_append, List.nil_append] at this ⊢
      exact this
    have W3 := W2.give (by simp [lσ]) n1 m3 l
    rw [List.append_assoc, List.append_assoc, List.set_append_left _ _ hl2, List.set_append_left _ _ (by rw [lσ]; exact hl2), ← List.append_assoc, ← List.append_assoc] at W3
    have W4 := W3.give (by simp [lσ]) n2 m2 j
    rw [List.set_append_left _ _ (by rw [List.length_set]; exact hj'), List.set_append_left _ _ (by rw [List.length_set, lσ]; exact hj')] at W4
    have W5 := W4.give (by simp [lσ]) n3 m1 i
    subst ed
    have e : ((σ.set i (some v1)).set j (some v2)).set l (some v3) = ((σ.set l (some v3)).set j (some v2)).set i (some v1) := by
      rw [List.set_comm _ _ hij, List.set_comm _ _ hil, List.set_comm _ _ hjl]
    rw [e]
    exact k1 _ _ G1 H1 hN' (by simp; exact hl1) W5
end
end BR

/-! the defs of the law, each run once -/
namespace BR
open PySem PySem.Spec PyProof.Rows L2
def topS (i : Nat) : Stmt := PySem.Challenge.pw_boastrow_k94_texts_of_tables_and_lots.main.body.getD i (.Pass ⟨0, 0, 0, 0⟩)
/-- what the top of the text has written -/
structure Txt (K : PySem.W.Frag) (mg : Str → Option Value) : Prop where
  n_abs : mg "abs" = none
  n_all : mg "all" = none
  n_bool : mg "bool" = none
  n_enumerate : mg "enumerate" = none
  n_int : mg "int" = none
  n_isinstance : mg "isinstance" = none
  n_len : mg "len" = none
  n_list : mg "list" = none
  n_max : mg "max" = none
  n_min : mg "min" = none
  n_range : mg "range" = none
  n_str : mg "str" = none
  n_tuple : mg "tuple" = none
  n_zip : mg "zip" = none
  g_FIGURES : ∃ t, mg "FIGURES" = some (.str "0123456789" t)
  f_t_is_number : ∃ fa fd, L2.Fun K "is_number" "is_number" (topS 7) fa fd ∧ Binds K fd ["thing"] [] ∧ mg "is_number" = some (.ref fa)
  f_t_is_step : ∃ fa fd, L2.Fun K "is_step" "is_step" (topS 9) fa fd ∧ Binds K fd ["thing"] [] ∧ mg "is_step" = some (.ref fa)
  f_t_is_table : ∃ fa fd, L2.Fun K "is_table" "is_table" (topS 10) fa fd ∧ Binds K fd ["thing"] [] ∧ mg "is_table" = some (.ref fa)
  f_t_show_table : ∃ fa fd, L2.Fun K "show_table" "show_table" (topS 19) fa fd ∧ Binds K fd ["table"] [] ∧ mg "show_table" = some (.ref fa)
  f_t_is_stretch : ∃ fa fd, L2.Fun K "is_stretch" "is_stretch" (topS 11) fa fd ∧ Binds K fd ["thing"] [] ∧ mg "is_stretch" = some (.ref fa)
  f_t_end_text : ∃ fa fd, L2.Fun K "end_text" "end_text" (topS 18) fa fd ∧ Binds K fd ["number"] [] ∧ mg "end_text" = some (.ref fa)
  f_t_show_stretches : ∃ fa fd, L2.Fun K "show_stretches" "show_stretches" (topS 20) fa fd ∧ Binds K fd ["stretches"] [] ∧ mg "show_stretches" = some (.ref fa)
  f_t_plain : ∃ fa fd, L2.Fun K "plain" "plain" (topS 13) fa fd ∧ Binds K fd ["number"] [] ∧ mg "plain" = some (.ref fa)
  f_t_is_entry : ∃ fa fd, L2.Fun K "is_entry" "is_entry" (topS 14) fa fd ∧ Binds K fd ["thing"] [] ∧ mg "is_entry" = some (.ref fa)
  f_t_is_shelf : ∃ fa fd, L2.Fun K "is_shelf" "is_shelf" (topS 15) fa fd ∧ Binds K fd ["thing"] [] ∧ mg "is_shelf" = some (.ref fa)
  f_t_show_shelf : ∃ fa fd, L2.Fun K "show_shelf" "show_shelf" (topS 21) fa fd ∧ Binds K fd ["shelf"] [] ∧ mg "show_shelf" = some (.ref fa)
  f_t_words_in : ∃ fa fd, L2.Fun K "words_in" "words_in" (topS 22) fa fd ∧ Binds K fd ["text"] [] ∧ mg "words_in" = some (.ref fa)
  f_t_number_in : ∃ fa fd, L2.Fun K "number_in" "number_in" (topS 23) fa fd ∧ Binds K fd ["word"] [] ∧ mg "number_in" = some (.ref fa)
  f_t_pair_in : ∃ fa fd, L2.Fun K "pair_in" "pair_in" (topS 24) fa fd ∧ Binds K fd ["word", "mark"] [] ∧ mg "pair_in" = some (.ref fa)
  f_t_read_table : ∃ fa fd, L2.Fun K "read_table" "read_table" (topS 26) fa fd ∧ Binds K fd ["text"] [] ∧ mg "read_table" = some (.ref fa)
  f_t_stretch_in : ∃ fa fd, L2.Fun K "stretch_in" "stretch_in" (topS 25) fa fd ∧ Binds K fd ["word"] [] ∧ mg "stretch_in" = some (.ref fa)
  f_t_read_lot : ∃ fa fd, L2.Fun K "read_lot" "read_lot" (topS 27) fa fd ∧ Binds K fd ["text"] [] ∧ mg "read_lot" = some (.ref fa)
  f_t_read_stretches : ∃ fa fd, L2.Fun K "read_stretches" "read_stretches" (topS 28) fa fd ∧ Binds K fd ["text"] [] ∧ mg "read_stretches" = some (.ref fa)
  f_t_read_shelf : ∃ fa fd, L2.Fun K "read_shelf" "read_shelf" (topS 29) fa fd ∧ Binds K fd ["text"] [] ∧ mg "read_shelf" = some (.ref fa)
  f_l_tin : ∃ fa fd, L2.Fun K "_law_tin" "_law_tin" (topS 31) fa fd ∧ Binds K fd ["_law_script", "_law_k"] [] ∧ mg "_law_tin" = some (.ref fa)
  f_l_deal : ∃ fa fd, L2.Fun K "_law_deal" "_law_deal" (topS 32) fa fd ∧ Binds K fd ["_law_tin_here", "_law_wide"] [] ∧ mg "_law_deal" = some (.ref fa)
  f_l_steps : ∃ fa fd, L2.Fun K "_law_steps" "_law_steps" (topS 33) fa fd ∧ Binds K fd ["_law_tin_here", "_law_most"] [] ∧ mg "_law_steps" = some (.ref fa)
  f_l_spans : ∃ fa fd, L2.Fun K "_law_spans" "_law_spans" (topS 34) fa fd ∧ Binds K fd ["_law_tin_here"] [] ∧ mg "_law_spans" = some (.ref fa)
  f_l_books : ∃ fa fd, L2.Fun K "_law_books" "_law_books" (topS 35) fa fd ∧ Binds K fd ["_law_tin_here"] [] ∧ mg "_law_books" = some (.ref fa)
  f_l_pairs : ∃ fa fd, L2.Fun K "_law_pairs" "_law_pairs" (topS 36) fa fd ∧ Binds K fd ["_law_rows", "_law_mark"] [] ∧ mg "_law_pairs" = some (.ref fa)
  f_l_right : ∃ fa fd, L2.Fun K "_law_right" "_law_right" (topS 37) fa fd ∧ Binds K fd ["_law_told", "_law_due", "_law_texts_told"] [] ∧ mg "_law_right" = some (.ref fa)
  f_law : ∃ fa fd, L2.Fun K "law" "law" (topS 38) fa fd ∧ Binds K fd ["_law_script"] [] ∧ mg "law" = some (.ref fa)
set_option maxHeartbeats 0
section
variable {P : Program} {w : World} {K : PySem.W.Frag} {mg : Str → Option Value} {base : Heap}
def d_t_is_number : List D → Res (D)
  | [v_0] =>
      ((op (asB (D.bl (isInt v_0))) fun b2 => if b2 = true then (op (asB (D.bl (isBool v_0))) fun b3 =>
      op (asB (D.bl (!b3))) fun b4 => if b4 = true then (op (geD v_0 (D.int 0)) fun b5 =>
      .ok (D.bl b5)) else (.ok (D.bl false))) else (.ok (D.bl false)) : Res (D))).bind fun a1 =>
      .ok a1  | _ => .bad
abbrev n_t_is_number : List Str := ["thing"]
theorem sc_t_is_number : FnScope n_t_is_number ["thing"] (defScope (topS 7)) := ⟨rfl, rfl, rfl, by decide +kernel, rfl, by decide +kernel, by decide +kernel⟩
theorem ok_t_is_number (h : Txt K mg) : Df P w K mg base 1 "is_number" [.b] d_t_is_number (fun a => a) (fun a => []) false := by
  obtain ⟨fa, fd, F, B, M⟩ := h.f_t_is_number
  refine ⟨fa, fd, _, fn_D (k := 0) F sc_t_is_number rfl 0 (fun _ => rfl) rfl (fun X en cdv A outer s H E ds hX hr hn hL hp hl => ?_), M, F.kp, B⟩
  have hnd := (sc_t_is_number).nd
  subst hX
  obtain ⟨v_0, rfl⟩ := len1 hl
  unfold d_t_is_number
  exact (jss_one (js_ret (je_join (fun (a1 : D) => .fr a1) (fun a1 => [.bw v_0]) (je_and (je_isi kit_int h.n_isinstance h.n_int (je_bw 0 rfl (⟨_, rfl, ⟨_, _, rfl, rfl, fun b2 => ⟨_, _, rfl, je_and (je_not (je_isi kit_bool h.n_isinstance h.n_bool (je_bw 0 rfl (⟨_, rfl, ⟨_, _, rfl, rfl, fun b3 =>
      ⟨_, _, rfl, rfl, fun b4 => ⟨_, _, rfl, je_one (je_cmpB cmp_geD rfl (je_bw 0 rfl (je_int (⟨_, _, _, rfl, rfl, rfl, fun b5 =>
      ⟨_, rfl, rfl, rfl⟩⟩)))), ⟨_, rfl, rfl, rfl⟩⟩⟩⟩⟩)))), ⟨_, rfl, rfl, rfl⟩⟩⟩⟩)))) (fun a1 =>
      ⟨_, rfl, rfl, oa_n⟩))))

def d_t_is_step : List D → Res (D)
  | [v_0] =>
      ((op (asB (D.bl (isTup v_0))) fun b2 => if b2 = true then (op (lenD [v_0]) fun t3 =>
      op (eqD t3 (D.int 2)) fun b4 =>
      op (asB (D.bl b4)) fun b5 => if b5 = true then (op (ixD v_0 (D.int 0)) fun t6 =>
      (d_t_is_number [t6]).bind fun a7 =>
      op (asB a7) fun b8 => if b8 = true then (op (ixD v_0 (D.int 1)) fun t9 =>
      (d_t_is_number [t9]).bind fun a10 =>
      .ok a10) else (.ok (D.bl false))) else (.ok (D.bl false))) else (.ok (D.bl false)) : Res (D))).bind fun a1 =>
      .ok a1  | _ => .bad
abbrev n_t_is_step : List Str := ["thing"]
theorem sc_t_is_step : FnScope n_t_is_step ["thing"] (defScope (topS 9)) := ⟨rfl, rfl, rfl, by decide +kernel, rfl, by decide +kernel, by decide +kernel⟩
theorem ok_t_is_step (h : Txt K mg) : Df P w K mg base 2 "is_step" [.b] d_t_is_step (fun a => a) (fun a => []) false := by
  obtain ⟨fa, fd, F, B, M⟩ := h.f_t_is_step
  refine ⟨fa, fd, _, fn_D (k := 1) F sc_t_is_step rfl 0 (fun _ => rfl) rfl (fun X en cdv A outer s H E ds hX hr hn hL hp hl => ?_), M, F.kp, B⟩
  have hnd := (sc_t_is_step).nd
  subst hX
  obtain ⟨v_0, rfl⟩ := len1 hl
  unfold d_t_is_step
  exact (jss_one (js_ret (je_join (fun (a1 : D) => .fr a1) (fun a1 => [.bw v_0]) (je_and (je_isi kit_tup h.n_isinstance h.n_tuple (je_bw 0 rfl (⟨_, rfl, ⟨_, _, rfl, rfl, fun b2 => ⟨_, _, rfl, je_and (je_cmpB (cmp_eqD hr.hu) rfl (je_callB c_len h.n_len (ja_cons (je_bw 0 rfl (ja_nil (⟨_, _, rfl, rfl, fun t3 _ =>
      je_int (⟨_, _, _, rfl, rfl, rfl, fun b4 =>
      ⟨_, _, rfl, rfl, fun b5 => ⟨_, _, rfl, je_and (je_call (ok_t_is_number h) (hr.mono (by decide)) hL (ja_cons (je_ix ix_D (fun _ _ => rfl) (je_bw 0 rfl (je_int (⟨_, _, _, rfl, rfl, rfl, fun t6 _ =>
      ja_nil (⟨_, [], _, fun a7 => [.bw v_0], rfl, rfl, List.nodup_nil, rfl, fun _ => rfl, fun a7 _ =>
      ⟨_, _, rfl, rfl, fun b8 => ⟨_, _, rfl, je_one (je_call (ok_t_is_number h) (hr.mono (by decide)) hL (ja_cons (je_ix ix_D (fun _ _ => rfl) (je_bw 0 rfl (je_int (⟨_, _, _, rfl, rfl, rfl, fun t9 _ =>
      ja_nil (⟨_, [], _, fun a10 => [.bw v_0], rfl, rfl, List.nodup_nil, rfl, fun _ => rfl, fun a10 _ =>
      ⟨_, rfl, rfl, rfl⟩⟩)⟩)))))), ⟨_, rfl, rfl, rfl⟩⟩⟩⟩)⟩)))))), ⟨_, rfl, rfl, rfl⟩⟩⟩⟩)⟩)))))), ⟨_, rfl, rfl, rfl⟩⟩⟩⟩)))) (fun a1 =>
      ⟨_, rfl, rfl, oa_n⟩))))

def d_t_is_table : List D → Res (D)
  | [v_0] =>
      ((if (!(isLst v_0)) = true then (.ok true) else (op (eqD v_0 (D.lst ([] : List D))) fun b2 =>
      if b2 = true then (.ok true) else (op (asL v_0) fun ds3 =>
      (lcF ds3 (() : Unit) [] fun d5 s4 =>
      (d_t_is_step [d5]).bind fun a6 =>
      .ok (some a6, ())).bind fun q7 =>
      op (allD [(D.lst q7.1)]) fun t8 =>
      op (truD t8) fun b9 =>
      if (!b9) = true then (.ok true) else (op (ixD v_0 (D.int 0)) fun t10 =>
      op (ixD t10 (D.int 0)) fun t11 =>
      op (neD t11 (D.int 0)) fun b12 =>
      .ok b12))) : Res (Bool))).bind fun a1 =>
      if a1 = true then (.ok (D.bl false)) else (op (cutA v_0 (some 1) none) fun t14 =>
      op (zipX v_0 t14) fun ds13 =>
      (lcF ds13 (() : Unit) [] fun d16 s15 =>
      op (un2 d16) fun p17 =>
      ((op (ixD p17.1 (D.int 0)) fun t19 =>
      op (ixD p17.2 (D.int 0)) fun t20 =>
      op (ltD t19 t20) fun b21 =>
      op (asB (D.bl b21)) fun b22 => if b22 = true then (op (ixD p17.1 (D.int 1)) fun t23 =>
      op (ixD p17.2 (D.int 1)) fun t24 =>
      op (neD t23 t24) fun b25 =>
      .ok (D.bl b25)) else (.ok (D.bl false)) : Res (D))).bind fun a18 =>
      .ok (some a18, ())).bind fun q26 =>
      op (allD [(D.lst q26.1)]) fun t27 =>
      .ok t27)  | _ => .bad
abbrev n_t_is_table : List Str := ["thing", "one", "other", "step"]
theorem sc_t_is_table : FnScope n_t_is_table ["thing"] (defScope (topS 10)) := ⟨rfl, rfl, rfl, by decide +kernel, rfl, by decide +kernel, by decide +kernel⟩
theorem ok_t_is_table (h : Txt K mg) : Df P w K mg base 3 "is_table" [.b] d_t_is_table (fun a => a) (fun a => []) false := by
  obtain ⟨fa, fd, F, B, M⟩ := h.f_t_is_table
  refine ⟨fa, fd, _, fn_D (k := 2) F sc_t_is_table rfl 0 (fun _ => rfl) rfl (fun X en cdv A outer s H E ds hX hr hn hL hp hl => ?_), M, F.kp, B⟩
  have hnd := (sc_t_is_table).nd
  subst hX
  obtain ⟨v_0, rfl⟩ := len1 hl
  unfold d_t_is_table
  exact (jss_cons (js_if (jt_join (fun (a1 : Bool) => a1) (fun a1 => [.bw v_0, .un, .un, .un]) (jt_w (jw_or (jt_not (jt_bl (je_isi kit_lst h.n_isinstance h.n_list (je_bw 0 rfl (⟨_, rfl, ⟨_, rfl, ⟨_, _, rfl, ⟨_, rfl, rfl, rfl⟩, jw_or (jt_cmp (cmp_eqD hr.hu) rfl (je_bw 0 rfl (je_lst (ja_nil (⟨_, rfl, rfl, ⟨_, _, _, rfl, rfl, rfl, fun b2 =>
      ⟨_, _, rfl, ⟨_, rfl, rfl, rfl⟩, jw_or (jt_not (jt_tru (je_callB (c_all rfl) h.n_all (ja_cons (je_lc [("step", 3)] rfl hnd (ji_any (je_bw 0 rfl (⟨_, _, rfl, rfl, fun ds3 =>
      ⟨_, _, _, (fun s4 => [.bw v_0, .un, .un, .un]), (fun s4 => [.bw v_0, .un, .un, .un]), rfl, (le_s (le_s (le_s (le_s (le_n))))), rfl, fun _ he d5 s4 _ _ _ _ _ _ => ⟨[3], (fun _ h => h), jg_name 3 [.bw v_0, .un, .un, .fr d5] hnd (fun _ _ _ _ _ => je_call (ok_t_is_step h) (hr.mono (by decide)) he.lk (ja_cons (je_fr 3 rfl (ja_nil (⟨_, [], _, fun a6 => [.bw v_0, .un, .un, .fr d5], rfl, rfl, List.nodup_nil, rfl, fun _ => rfl, fun a6 _ =>
      ⟨_, _, rfl, rfl, (le_s (le_s (le_s (le_s (le_n))))), rfl⟩⟩)))))⟩, fun _ => rfl, fun q7 =>
      ja_nil (⟨_, _, rfl, rfl, fun t8 _ =>
      ⟨_, _, rfl, rfl, fun b9 =>
      ⟨_, _, rfl, ⟨_, rfl, rfl, rfl⟩, jw_or1 (jt_cmp (cmp_neD hr.hu) rfl (je_ix ix_D (fun _ _ => rfl) (je_ix ix_D (fun _ _ => rfl) (je_bw 0 rfl (je_int (⟨_, _, _, rfl, rfl, rfl, fun t10 _ =>
      je_int (⟨_, _, _, rfl, rfl, rfl, fun t11 _ =>
      je_int (⟨_, _, _, rfl, rfl, rfl, fun b12 =>
      ⟨_, rfl, rfl, rfl⟩⟩)⟩)⟩))))))⟩⟩⟩)⟩⟩))) (ok := by (refine blkOk_by ?_; first | (dsimp only [cxOf, envOfC, Cx.blk]; decide +kernel) | exact Eq.refl true)))))))⟩⟩⟩)))))⟩⟩⟩))))))) (fun a1 =>
      ⟨_, _, rfl, jss_one (js_ret (je_bl (⟨_, rfl, rfl, oa_n⟩))), jss_nil (jss_one (js_ret (je_callB (c_all rfl) h.n_all (ja_cons (je_lc [("one", 1), ("other", 2)] rfl hnd (ji_zipX h.n_zip (ja_cons (je_bw 0 rfl (ja_cons (je_cutA (je_bw 0 rfl (jo_int (jo_none (⟨_, _, rfl, rfl, fun t14 =>
      ja_nil (⟨_, _, _, _, _, rfl, rfl, rfl, rfl, fun ds13 =>
      ⟨_, _, _, (fun s15 => [.bw v_0, .un, .un, .un]), (fun s15 => [.bw v_0, .un, .un, .un]), rfl, (le_s (le_s (le_s (le_s (le_n))))), rfl, fun _ he d16 s15 _ _ _ _ _ _ => ⟨[1, 2], (fun _ h => h), jg_tup2 rfl ⟨_, rfl, fun p17 =>
      jgs_name 1 [.bw v_0, .fr p17.1, .un, .un] hnd (jgs_name 2 [.bw v_0, .fr p17.1, .fr p17.2, .un] hnd (jgs_nil (by exact fun _ _ _ _ _ => je_join (fun (a18 : D) => .fr a18) (fun a18 => [.bw v_0, .fr p17.1, .fr p17.2, .un]) (je_and (je_cmpB cmp_ltD rfl (je_ix ix_D (fun _ _ => rfl) (je_fr 1 rfl (je_int (⟨_, _, _, rfl, rfl, rfl, fun t19 _ => je_ix ix_D (fun _ _ => rfl) (je_fr 2 rfl (je_int (⟨_, _, _, rfl, rfl, rfl, fun t20 _ => ⟨_, _, _, rfl, rfl, rfl, fun b21 => ⟨_, _, rfl, rfl, fun b22 => ⟨_, _, rfl, je_one (je_cmpB (cmp_neD hr.hu) rfl (je_ix ix_D (fun _ _ => rfl) (je_fr 1 rfl (je_int (⟨_, _, _, rfl, rfl, rfl, fun t23 _ => je_ix ix_D (fun _ _ => rfl) (je_fr 2 rfl (je_int (⟨_, _, _, rfl, rfl, rfl, fun t24 _ => ⟨_, _, _, rfl, rfl, rfl, fun b25 => ⟨_, rfl, rfl, rfl⟩⟩⟩)))⟩))))), ⟨_, rfl, rfl, rfl⟩⟩⟩⟩⟩)))⟩)))))) (fun a18 => ⟨_, _, rfl, rfl, (le_s (le_s (le_s (le_s (le_n))))), rfl⟩))))⟩⟩, fun _ => rfl, fun q26 =>
      ja_nil (⟨_, _, rfl, rfl, fun t27 _ =>
      ⟨_, rfl, rfl, oa_n⟩⟩)⟩⟩)⟩))))))))) (ok := by (refine blkOk_by ?_; first | (dsimp only [cxOf, envOfC, Cx.blk]; decide +kernel) | exact Eq.refl true)))))))⟩))))

def d_t_show_table : List D → Res (D)
  | [v_0] =>
      (d_t_is_table [v_0]).bind fun a1 =>
      op (truD a1) fun b2 =>
      if (!b2) = true then (.bad) else (op (tyG "str" (D.str " ")) fun _ =>
      op (asL v_0) fun ds3 =>
      (lcF ds3 (() : Unit) [] fun d5 s4 =>
      op (un2 d5) fun p6 =>
      op (stS Str.empty p6.1) fun s7 =>
      op (stS s7 (D.str ":")) fun s8 =>
      op (stS s8 p6.2) fun s9 =>
      .ok (some (D.str s9), ())).bind fun q10 =>
      op (joiD [(D.str " "), (D.lst q10.1)]) fun t11 =>
      .ok t11)  | _ => .bad
abbrev n_t_show_table : List Str := ["table", "company", "many"]
theorem sc_t_show_table : FnScope n_t_show_table ["table"] (defScope (topS 19)) := ⟨rfl, rfl, rfl, by decide +kernel, rfl, by decide +kernel, by decide +kernel⟩
theorem ok_t_show_table (h : Txt K mg) : Df P w K mg base 4 "show_table" [.b] d_t_show_table (fun a => a) (fun a => []) false := by
  obtain ⟨fa, fd, F, B, M⟩ := h.f_t_show_table
  refine ⟨fa, fd, _, fn_D (k := 3) F sc_t_show_table rfl 0 (fun _ => rfl) rfl (fun X en cdv A outer s H E ds hX hr hn hL hp hl => ?_), M, F.kp, B⟩
  have hnd := (sc_t_show_table).nd
  subst hX
  obtain ⟨v_0, rfl⟩ := len1 hl
  unfold d_t_show_table
  exact (jss_cons (js_if (jt_not (jt_tru (je_call (ok_t_is_table h) (hr.mono (by decide)) hL (ja_cons (je_bw 0 rfl (ja_nil (⟨_, [], _, fun a1 => [.bw v_0, .un, .un], rfl, rfl, List.nodup_nil, rfl, fun _ => rfl, fun a1 _ =>
      ⟨_, _, rfl, rfl, fun b2 =>
      ⟨_, _, rfl, jss_one (js_bad), jss_nil (jss_one (js_ret (je_met PySem.F.plainAttrs_str PySem.F.slot_str_join PySem.F.type_str_join c_joi (je_str (⟨_, _, rfl, rfl, ja_cons (je_lc [("company", 1), ("many", 2)] rfl hnd (ji_any (je_bw 0 rfl (⟨_, _, rfl, rfl, fun ds3 =>
      ⟨_, _, _, (fun s4 => [.bw v_0, .un, .un]), (fun s4 => [.bw v_0, .un, .un]), rfl, (le_s (le_s (le_s (le_n)))), rfl, fun _ he d5 s4 _ _ _ _ _ _ => ⟨[1, 2], (fun _ h => h), jg_tup2 rfl ⟨_, rfl, fun p6 =>
      jgs_name 1 [.bw v_0, .fr p6.1, .un] hnd (jgs_name 2 [.bw v_0, .fr p6.1, .fr p6.2] hnd (jgs_nil (fun _ _ _ _ _ => je_fstr (.cons (pe_fmt pe_we) (.cons pe_we (.cons (pe_fmt pe_we) .nil))) (jf_fmt (je_fr 1 rfl (⟨_, _, rfl, rfl, fun s7 =>
      jf_text ⟨_, rfl, fun s8 =>
      jf_fmt (je_fr 2 rfl (⟨_, _, rfl, rfl, fun s9 =>
      jf_nil (⟨_, _, rfl, rfl, (le_s (le_s (le_s (le_n)))), rfl⟩)⟩))⟩⟩))))))⟩⟩, fun _ => rfl, fun q10 =>
      ja_nil (⟨_, _, _, rfl, rfl, rfl, fun t11 _ =>
      ⟨_, rfl, rfl, oa_n⟩⟩)⟩⟩))) (ok := by (refine blkOk_by ?_; first | (dsimp only [cxOf, envOfC, Cx.blk]; decide +kernel) | exact Eq.refl true)))⟩)))))⟩⟩⟩)))))))))

def d_t_is_stretch : List D → Res (D)
  | [v_0] =>
      ((if (!(isTup v_0)) = true then (.ok true) else (op (lenD [v_0]) fun t2 =>
      op (neD t2 (D.int 2)) fun b3 =>
      if b3 = true then (.ok true) else (op (ixD v_0 (D.int 0)) fun t4 =>
      (d_t_is_number [t4]).bind fun a5 =>
      op (truD a5) fun b6 =>
      .ok (!b6))) : Res (Bool))).bind fun a1 =>
      if a1 = true then (.ok (D.bl false)) else (((op (ixD v_0 (D.int 1)) fun t8 =>
      op (isND t8 D.non) fun b9 =>
      op (asB (D.bl b9)) fun b10 => if b10 = true then (.ok (D.bl true)) else (((op (ixD v_0 (D.int 1)) fun t12 =>
      (d_t_is_number [t12]).bind fun a13 =>
      op (asB a13) fun b14 => if b14 = true then (op (ixD v_0 (D.int 1)) fun t15 =>
      op (ixD v_0 (D.int 0)) fun t16 =>
      op (geD t15 t16) fun b17 =>
      .ok (D.bl b17)) else (.ok (D.bl false)) : Res (D))).bind fun a11 =>
      .ok a11) : Res (D))).bind fun a7 =>
      .ok a7)  | _ => .bad
abbrev n_t_is_stretch : List Str := ["thing"]
theorem sc_t_is_stretch : FnScope n_t_is_stretch ["thing"] (defScope (topS 11)) := ⟨rfl, rfl, rfl, by decide +kernel, rfl, by decide +kernel, by decide +kernel⟩
theorem ok_t_is_stretch (h : Txt K mg) : Df P w K mg base 2 "is_stretch" [.b] d_t_is_stretch (fun a => a) (fun a => []) false := by
  obtain ⟨fa, fd, F, B, M⟩ := h.f_t_is_stretch
  refine ⟨fa, fd, _, fn_D (k := 1) F sc_t_is_stretch rfl 0 (fun _ => rfl) rfl (fun X en cdv A outer s H E ds hX hr hn hL hp hl => ?_), M, F.kp, B⟩
  have hnd := (sc_t_is_stretch).nd
  subst hX
  obtain ⟨v_0, rfl⟩ := len1 hl
  unfold d_t_is_stretch
  exact (jss_cons (js_if (jt_join (fun (a1 : Bool) => a1) (fun a1 => [.bw v_0]) (jt_w (jw_or (jt_not (jt_bl (je_isi kit_tup h.n_isinstance h.n_tuple (je_bw 0 rfl (⟨_, rfl, ⟨_, rfl, ⟨_, _, rfl, ⟨_, rfl, rfl, rfl⟩, jw_or (jt_cmp (cmp_neD hr.hu) rfl (je_callB c_len h.n_len (ja_cons (je_bw 0 rfl (ja_nil (⟨_, _, rfl, rfl, fun t2 _ =>
      je_int (⟨_, _, _, rfl, rfl, rfl, fun b3 =>
      ⟨_, _, rfl, ⟨_, rfl, rfl, rfl⟩, jw_or1 (jt_not (jt_tru (je_call (ok_t_is_number h) (hr.mono (by decide)) hL (ja_cons (je_ix ix_D (fun _ _ => rfl) (je_bw 0 rfl (je_int (⟨_, _, _, rfl, rfl, rfl, fun t4 _ =>
      ja_nil (⟨_, [], _, fun a5 => [.bw v_0], rfl, rfl, List.nodup_nil, rfl, fun _ => rfl, fun a5 _ =>
      ⟨_, _, rfl, rfl, fun b6 =>
      ⟨_, rfl, rfl, rfl⟩⟩⟩)⟩))))))))⟩⟩)⟩))))))⟩⟩⟩))))))) (fun a1 =>
      ⟨_, _, rfl, jss_one (js_ret (je_bl (⟨_, rfl, rfl, oa_n⟩))), jss_nil (jss_one (js_ret (je_join (fun (a7 : D) => .fr a7) (fun a7 => [.bw v_0]) (je_or (je_cmpB cmp_isN rfl (je_ix ix_D (fun _ _ => rfl) (je_bw 0 rfl (je_int (⟨_, _, _, rfl, rfl, rfl, fun t8 _ =>
      je_non (⟨_, _, _, rfl, rfl, rfl, fun b9 =>
      ⟨_, _, rfl, rfl, fun b10 => ⟨_, _, rfl, ⟨_, rfl, rfl, rfl⟩, je_one (je_join (fun (a11 : D) => .fr a11) (fun a11 => [.bw v_0]) (je_and (je_call (ok_t_is_number h) (hr.mono (by decide)) hL (ja_cons (je_ix ix_D (fun _ _ => rfl) (je_bw 0 rfl (je_int (⟨_, _, _, rfl, rfl, rfl, fun t12 _ =>
      ja_nil (⟨_, [], _, fun a13 => [.bw v_0], rfl, rfl, List.nodup_nil, rfl, fun _ => rfl, fun a13 _ =>
      ⟨_, _, rfl, rfl, fun b14 => ⟨_, _, rfl, je_one (je_cmpB cmp_geD rfl (je_ix ix_D (fun _ _ => rfl) (je_bw 0 rfl (je_int (⟨_, _, _, rfl, rfl, rfl, fun t15 _ =>
      je_ix ix_D (fun _ _ => rfl) (je_bw 0 rfl (je_int (⟨_, _, _, rfl, rfl, rfl, fun t16 _ =>
      ⟨_, _, _, rfl, rfl, rfl, fun b17 =>
      ⟨_, rfl, rfl, rfl⟩⟩⟩)))⟩))))), ⟨_, rfl, rfl, rfl⟩⟩⟩⟩)⟩))))))) (fun a11 =>
      ⟨_, rfl, rfl, rfl⟩))⟩⟩⟩)⟩)))))) (fun a7 =>
      ⟨_, rfl, rfl, oa_n⟩))))⟩))))

def d_t_end_text : List D → Res (D)
  | [v_0] =>
      ((op (isND v_0 D.non) fun b2 =>
      if b2 = true then (.ok (D.str "")) else (op (strI [v_0]) fun t3 =>
      .ok t3) : Res (D))).bind fun a1 =>
      .ok a1  | _ => .bad
abbrev n_t_end_text : List Str := ["number"]
theorem sc_t_end_text : FnScope n_t_end_text ["number"] (defScope (topS 18)) := ⟨rfl, rfl, rfl, by decide +kernel, rfl, by decide +kernel, by decide +kernel⟩
theorem ok_t_end_text (h : Txt K mg) : Df P w K mg base 1 "end_text" [.b] d_t_end_text (fun a => a) (fun a => []) false := by
  obtain ⟨fa, fd, F, B, M⟩ := h.f_t_end_text
  refine ⟨fa, fd, _, fn_D (k := 0) F sc_t_end_text rfl 0 (fun _ => rfl) rfl (fun X en cdv A outer s H E ds hX hr hn hL hp hl => ?_), M, F.kp, B⟩
  have hnd := (sc_t_end_text).nd
  subst hX
  obtain ⟨v_0, rfl⟩ := len1 hl
  unfold d_t_end_text
  exact (jss_one (js_ret (je_join (fun (a1 : D) => .fr a1) (fun a1 => [.bw v_0]) (je_if (jt_cmp cmp_isN rfl (je_bw 0 rfl (je_non (⟨_, _, _, rfl, rfl, rfl, fun b2 =>
      ⟨_, _, rfl, je_str (⟨_, rfl, rfl, rfl⟩), je_callTy c_strI h.n_str (ja_cons (je_bw 0 rfl (ja_nil (⟨_, _, rfl, rfl, fun t3 _ =>
      ⟨_, rfl, rfl, rfl⟩⟩))))⟩⟩))))) (fun a1 =>
      ⟨_, rfl, rfl, oa_n⟩))))

def d_t_show_stretches : List D → Res (D)
  | [v_0] =>
      ((if (!(isLst v_0 || isTup v_0)) = true then (.ok true) else (op (asL v_0) fun ds2 =>
      (lcF ds2 (() : Unit) [] fun d4 s3 =>
      (d_t_is_stretch [d4]).bind fun a5 =>
      .ok (some a5, ())).bind fun q6 =>
      op (allD [(D.lst q6.1)]) fun t7 =>
      op (truD t7) fun b8 =>
      .ok (!b8)) : Res (Bool))).bind fun a1 =>
      if a1 = true then (.bad) else (op (tyG "str" (D.str " ")) fun _ =>
      op (asL v_0) fun ds9 =>
      (lcF ds9 (() : Unit) [] fun d11 s10 =>
      op (un2 d11) fun p12 =>
      op (stS Str.empty p12.1) fun s13 =>
      op (stS s13 (D.str "-")) fun s14 =>
      (d_t_end_text [p12.2]).bind fun a16 =>
      op (stS s14 a16) fun s15 =>
      .ok (some (D.str s15), ())).bind fun q17 =>
      op (joiD [(D.str " "), (D.lst q17.1)]) fun t18 =>
      .ok t18)  | _ => .bad
abbrev n_t_show_stretches : List Str := ["stretches", "first", "last", "one"]
theorem sc_t_show_stretches : FnScope n_t_show_stretches ["stretches"] (defScope (topS 20)) := ⟨rfl, rfl, rfl, by decide +kernel, rfl, by decide +kernel, by decide +kernel⟩
theorem ok_t_show_stretches (h : Txt K mg) : Df P w K mg base 3 "show_stretches" [.b] d_t_show_stretches (fun a => a) (fun a => []) false := by
  obtain ⟨fa, fd, F, B, M⟩ := h.f_t_show_stretches
  refine ⟨fa, fd, _, fn_D (k := 2) F sc_t_show_stretches rfl 0 (fun _ => rfl) rfl (fun X en cdv A outer s H E ds hX hr hn hL hp hl => ?_), M, F.kp, B⟩
  have hnd := (sc_t_show_stretches).nd
  subst hX
  obtain ⟨v_0, rfl⟩ := len1 hl
  unfold d_t_show_stretches
  exact (jss_cons (js_if (jt_join (fun (a1 : Bool) => a1) (fun a1 => [.bw v_0, .un, .un, .un]) (jt_w (jw_or (jt_not (jt_bl (je_isi2 kit_lst kit_tup h.n_isinstance h.n_list h.n_tuple (je_bw 0 rfl (⟨_, rfl, ⟨_, rfl, ⟨_, _, rfl, ⟨_, rfl, rfl, rfl⟩, jw_or1 (jt_not (jt_tru (je_callB (c_all rfl) h.n_all (ja_cons (je_lc [("one", 3)] rfl hnd (ji_any (je_bw 0 rfl (⟨_, _, rfl, rfl, fun ds2 =>
      ⟨_, _, _, (fun s3 => [.bw v_0, .un, .un, .un]), (fun s3 => [.bw v_0, .un, .un, .un]), rfl, (le_s (le_s (le_s (le_s (le_n))))), rfl, fun _ he d4 s3 _ _ _ _ _ _ => ⟨[3], (fun _ h => h), jg_name 3 [.bw v_0, .un, .un, .fr d4] hnd (fun _ _ _ _ _ => je_call (ok_t_is_stretch h) (hr.mono (by decide)) he.lk (ja_cons (je_fr 3 rfl (ja_nil (⟨_, [], _, fun a5 => [.bw v_0, .un, .un, .fr d4], rfl, rfl, List.nodup_nil, rfl, fun _ => rfl, fun a5 _ =>
      ⟨_, _, rfl, rfl, (le_s (le_s (le_s (le_s (le_n))))), rfl⟩⟩)))))⟩, fun _ => rfl, fun q6 =>
      ja_nil (⟨_, _, rfl, rfl, fun t7 _ =>
      ⟨_, _, rfl, rfl, fun b8 =>
      ⟨_, rfl, rfl, rfl⟩⟩⟩)⟩⟩))) (ok := by (refine blkOk_by ?_; first | (dsimp only [cxOf, envOfC, Cx.blk]; decide +kernel) | exact Eq.refl true)))))))⟩⟩⟩))))))) (fun a1 =>
      ⟨_, _, rfl, jss_one (js_bad), jss_nil (jss_one (js_ret (je_met PySem.F.plainAttrs_str PySem.F.slot_str_join PySem.F.type_str_join c_joi (je_str (⟨_, _, rfl, rfl, ja_cons (je_lc [("first", 1), ("last", 2)] rfl hnd (ji_any (je_bw 0 rfl (⟨_, _, rfl, rfl, fun ds9 =>
      ⟨_, _, _, (fun s10 => [.bw v_0, .un, .un, .un]), (fun s10 => [.bw v_0, .un, .un, .un]), rfl, (le_s (le_s (le_s (le_s (le_n))))), rfl, fun _ he d11 s10 _ _ _ _ _ _ => ⟨[1, 2], (fun _ h => h), jg_tup2 rfl ⟨_, rfl, fun p12 =>
      jgs_name 1 [.bw v_0, .fr p12.1, .un, .un] hnd (jgs_name 2 [.bw v_0, .fr p12.1, .fr p12.2, .un] hnd (jgs_nil (fun _ _ _ _ _ => je_fstr (.cons (pe_fmt pe_we) (.cons pe_we (.cons (pe_fmt pe_we) .nil))) (jf_fmt (je_fr 1 rfl (⟨_, _, rfl, rfl, fun s13 =>
      jf_text ⟨_, rfl, fun s14 =>
      jf_fmt (je_call (ok_t_end_text h) (hr.mono (by decide)) he.lk (ja_cons (je_fr 2 rfl (ja_nil (⟨_, [], _, fun a16 => [.bw v_0, .fr p12.1, .fr p12.2, .un], rfl, rfl, List.nodup_nil, rfl, fun _ => rfl, fun a16 _ =>
      ⟨_, _, rfl, rfl, fun s15 =>
      jf_nil (⟨_, _, rfl, rfl, (le_s (le_s (le_s (le_s (le_n))))), rfl⟩)⟩⟩)))))⟩⟩))))))⟩⟩, fun _ => rfl, fun q17 =>
      ja_nil (⟨_, _, _, rfl, rfl, rfl, fun t18 _ =>
      ⟨_, rfl, rfl, oa_n⟩⟩)⟩⟩))) (ok := by (refine blkOk_by ?_; first | (dsimp only [cxOf, envOfC, Cx.blk]; decide +kernel) | exact Eq.refl true)))⟩)))))⟩))))

def d_t_plain : List D → Res (D)
  | [v_0] =>
      op (gtD v_0 (D.int 0)) fun b1 =>
      op (intD [(D.bl b1)]) fun t2 =>
      .ok t2  | _ => .bad
abbrev n_t_plain : List Str := ["number"]
theorem sc_t_plain : FnScope n_t_plain ["number"] (defScope (topS 13)) := ⟨rfl, rfl, rfl, by decide +kernel, rfl, by decide +kernel, by decide +kernel⟩
theorem ok_t_plain (h : Txt K mg) : Df P w K mg base 1 "plain" [.b] d_t_plain (fun a => a) (fun a => []) false := by
  obtain ⟨fa, fd, F, B, M⟩ := h.f_t_plain
  refine ⟨fa, fd, _, fn_D (k := 0) F sc_t_plain rfl 0 (fun _ => rfl) rfl (fun X en cdv A outer s H E ds hX hr hn hL hp hl => ?_), M, F.kp, B⟩
  have hnd := (sc_t_plain).nd
  subst hX
  obtain ⟨v_0, rfl⟩ := len1 hl
  unfold d_t_plain
  exact (jss_one (js_ret (je_callTy c_int h.n_int (ja_cons (je_cmpB cmp_gtD rfl (je_bw 0 rfl (je_int (⟨_, _, _, rfl, rfl, rfl, fun b1 =>
      ja_nil (⟨_, _, rfl, rfl, fun t2 _ =>
      ⟨_, rfl, rfl, oa_n⟩⟩)⟩))))))))

def d_t_is_entry : List D → Res (D)
  | [v_0] =>
      ((if (!(isTup v_0)) = true then (.ok true) else (op (lenD [v_0]) fun t2 =>
      op (neD t2 (D.int 2)) fun b3 =>
      if b3 = true then (.ok true) else (op (ixD v_0 (D.int 0)) fun t4 =>
      (d_t_is_number [t4]).bind fun a5 =>
      op (truD a5) fun b6 =>
      if (!b6) = true then (.ok true) else (op (ixD v_0 (D.int 1)) fun t7 =>
      (d_t_is_number [t7]).bind fun a8 =>
      op (truD a8) fun b9 =>
      .ok (!b9)))) : Res (Bool))).bind fun a1 =>
      if a1 = true then (.ok (D.bl false)) else (op (ixD v_0 (D.int 1)) fun t10 =>
      op (ixD v_0 (D.int 0)) fun t11 =>
      (d_t_plain [t11]).bind fun a12 =>
      op (neD t10 a12) fun b13 =>
      .ok (D.bl b13))  | _ => .bad
abbrev n_t_is_entry : List Str := ["thing"]
theorem sc_t_is_entry : FnScope n_t_is_entry ["thing"] (defScope (topS 14)) := ⟨rfl, rfl, rfl, by decide +kernel, rfl, by decide +kernel, by decide +kernel⟩
theorem ok_t_is_entry (h : Txt K mg) : Df P w K mg base 2 "is_entry" [.b] d_t_is_entry (fun a => a) (fun a => []) false := by
  obtain ⟨fa, fd, F, B, M⟩ := h.f_t_is_entry
  refine ⟨fa, fd, _, fn_D (k := 1) F sc_t_is_entry rfl 0 (fun _ => rfl) rfl (fun X en cdv A outer s H E ds hX hr hn hL hp hl => ?_), M, F.kp, B⟩
  have hnd := (sc_t_is_entry).nd
  subst hX
  obtain ⟨v_0, rfl⟩ := len1 hl
  unfold d_t_is_entry
  exact (jss_cons (js_if (jt_join (fun (a1 : Bool) => a1) (fun a1 => [.bw v_0]) (jt_w (jw_or (jt_not (jt_bl (je_isi kit_tup h.n_isinstance h.n_tuple (je_bw 0 rfl (⟨_, rfl, ⟨_, rfl, ⟨_, _, rfl, ⟨_, rfl, rfl, rfl⟩, jw_or (jt_cmp (cmp_neD hr.hu) rfl (je_callB c_len h.n_len (ja_cons (je_bw 0 rfl (ja_nil (⟨_, _, rfl, rfl, fun t2 _ =>
      je_int (⟨_, _, _, rfl, rfl, rfl, fun b3 =>
      ⟨_, _, rfl, ⟨_, rfl, rfl, rfl⟩, jw_or (jt_not (jt_tru (je_call (ok_t_is_number h) (hr.mono (by decide)) hL (ja_cons (je_ix ix_D (fun _ _ => rfl) (je_bw 0 rfl (je_int (⟨_, _, _, rfl, rfl, rfl, fun t4 _ =>
      ja_nil (⟨_, [], _, fun a5 => [.bw v_0], rfl, rfl, List.nodup_nil, rfl, fun _ => rfl, fun a5 _ =>
      ⟨_, _, rfl, rfl, fun b6 =>
      ⟨_, _, rfl, ⟨_, rfl, rfl, rfl⟩, jw_or1 (jt_not (jt_tru (je_call (ok_t_is_number h) (hr.mono (by decide)) hL (ja_cons (je_ix ix_D (fun _ _ => rfl) (je_bw 0 rfl (je_int (⟨_, _, _, rfl, rfl, rfl, fun t7 _ =>
      ja_nil (⟨_, [], _, fun a8 => [.bw v_0], rfl, rfl, List.nodup_nil, rfl, fun _ => rfl, fun a8 _ =>
      ⟨_, _, rfl, rfl, fun b9 =>
      ⟨_, rfl, rfl, rfl⟩⟩⟩)⟩))))))))⟩⟩⟩)⟩))))))))⟩⟩)⟩))))))⟩⟩⟩))))))) (fun a1 =>
      ⟨_, _, rfl, jss_one (js_ret (je_bl (⟨_, rfl, rfl, oa_n⟩))), jss_nil (jss_one (js_ret (je_cmpB (cmp_neD hr.hu) rfl (je_ix ix_D (fun _ _ => rfl) (je_bw 0 rfl (je_int (⟨_, _, _, rfl, rfl, rfl, fun t10 _ =>
      je_call (ok_t_plain h) (hr.mono (by decide)) hL (ja_cons (je_ix ix_D (fun _ _ => rfl) (je_bw 0 rfl (je_int (⟨_, _, _, rfl, rfl, rfl, fun t11 _ =>
      ja_nil (⟨_, [], _, fun a12 => [.bw v_0], rfl, rfl, List.nodup_nil, rfl, fun _ => rfl, fun a12 _ =>
      ⟨_, _, _, rfl, rfl, rfl, fun b13 =>
      ⟨_, rfl, rfl, oa_n⟩⟩⟩)⟩)))))⟩)))))))⟩))))

def d_t_is_shelf : List D → Res (D)
  | [v_0] =>
      ((if (!(isLst v_0)) = true then (.ok true) else (op (asL v_0) fun ds2 =>
      (lcF ds2 (() : Unit) [] fun d4 s3 =>
      (d_t_is_entry [d4]).bind fun a5 =>
      .ok (some a5, ())).bind fun q6 =>
      op (allD [(D.lst q6.1)]) fun t7 =>
      op (truD t7) fun b8 =>
      .ok (!b8)) : Res (Bool))).bind fun a1 =>
      if a1 = true then (.ok (D.bl false)) else (op (cutA v_0 (some 1) none) fun t10 =>
      op (zipX v_0 t10) fun ds9 =>
      (lcF ds9 (() : Unit) [] fun d12 s11 =>
      op (un2 d12) fun p13 =>
      op (ixD p13.1 (D.int 0)) fun t14 =>
      op (ixD p13.2 (D.int 0)) fun t15 =>
      op (ltD t14 t15) fun b16 =>
      .ok (some (D.bl b16), ())).bind fun q17 =>
      op (allD [(D.lst q17.1)]) fun t18 =>
      .ok t18)  | _ => .bad
abbrev n_t_is_shelf : List Str := ["thing", "one", "other", "entry"]
theorem sc_t_is_shelf : FnScope n_t_is_shelf ["thing"] (defScope (topS 15)) := ⟨rfl, rfl, rfl, by decide +kernel, rfl, by decide +kernel, by decide +kernel⟩
theorem ok_t_is_shelf (h : Txt K mg) : Df P w K mg base 3 "is_shelf" [.b] d_t_is_shelf (fun a => a) (fun a => []) false := by
  obtain ⟨fa, fd, F, B, M⟩ := h.f_t_is_shelf
  refine ⟨fa, fd, _, fn_D (k := 2) F sc_t_is_shelf rfl 0 (fun _ => rfl) rfl (fun X en cdv A outer s H E ds hX hr hn hL hp hl => ?_), M, F.kp, B⟩
  have hnd := (sc_t_is_shelf).nd
  subst hX
  obtain ⟨v_0, rfl⟩ := len1 hl
  unfold d_t_is_shelf
  exact (jss_cons (js_if (jt_join (fun (a1 : Bool) => a1) (fun a1 => [.bw v_0, .un, .un, .un]) (jt_w (jw_or (jt_not (jt_bl (je_isi kit_lst h.n_isinstance h.n_list (je_bw 0 rfl (⟨_, rfl, ⟨_, rfl, ⟨_, _, rfl, ⟨_, rfl, rfl, rfl⟩, jw_or1 (jt_not (jt_tru (je_callB (c_all rfl) h.n_all (ja_cons (je_lc [("entry", 3)] rfl hnd (ji_any (je_bw 0 rfl (⟨_, _, rfl, rfl, fun ds2 =>
      ⟨_, _, _, (fun s3 => [.bw v_0, .un, .un, .un]), (fun s3 => [.bw v_0, .un, .un, .un]), rfl, (le_s (le_s (le_s (le_s (le_n))))), rfl, fun _ he d4 s3 _ _ _ _ _ _ => ⟨[3], (fun _ h => h), jg_name 3 [.bw v_0, .un, .un, .fr d4] hnd (fun _ _ _ _ _ => je_call (ok_t_is_entry h) (hr.mono (by decide)) he.lk (ja_cons (je_fr 3 rfl (ja_nil (⟨_, [], _, fun a5 => [.bw v_0, .un, .un, .fr d4], rfl, rfl, List.nodup_nil, rfl, fun _ => rfl, fun a5 _ =>
      ⟨_, _, rfl, rfl, (le_s (le_s (le_s (le_s (le_n))))), rfl⟩⟩)))))⟩, fun _ => rfl, fun q6 =>
      ja_nil (⟨_, _, rfl, rfl, fun t7 _ =>
      ⟨_, _, rfl, rfl, fun b8 =>
      ⟨_, rfl, rfl, rfl⟩⟩⟩)⟩⟩))) (ok := by (refine blkOk_by ?_; first | (dsimp only [cxOf, envOfC, Cx.blk]; decide +kernel) | exact Eq.refl true)))))))⟩⟩⟩))))))) (fun a1 =>
      ⟨_, _, rfl, jss_one (js_ret (je_bl (⟨_, rfl, rfl, oa_n⟩))), jss_nil (jss_one (js_ret (je_callB (c_all rfl) h.n_all (ja_cons (je_lc [("one", 1), ("other", 2)] rfl hnd (ji_zipX h.n_zip (ja_cons (je_bw 0 rfl (ja_cons (je_cutA (je_bw 0 rfl (jo_int (jo_none (⟨_, _, rfl, rfl, fun t10 =>
      ja_nil (⟨_, _, _, _, _, rfl, rfl, rfl, rfl, fun ds9 =>
      ⟨_, _, _, (fun s11 => [.bw v_0, .un, .un, .un]), (fun s11 => [.bw v_0, .un, .un, .un]), rfl, (le_s (le_s (le_s (le_s (le_n))))), rfl, fun _ he d12 s11 _ _ _ _ _ _ => ⟨[1, 2], (fun _ h => h), jg_tup2 rfl ⟨_, rfl, fun p13 =>
      jgs_name 1 [.bw v_0, .fr p13.1, .un, .un] hnd (jgs_name 2 [.bw v_0, .fr p13.1, .fr p13.2, .un] hnd (jgs_nil (fun _ _ _ _ _ => je_cmpB cmp_ltD rfl (je_ix ix_D (fun _ _ => rfl) (je_fr 1 rfl (je_int (⟨_, _, _, rfl, rfl, rfl, fun t14 _ =>
      je_ix ix_D (fun _ _ => rfl) (je_fr 2 rfl (je_int (⟨_, _, _, rfl, rfl, rfl, fun t15 _ =>
      ⟨_, _, _, rfl, rfl, rfl, fun b16 =>
      ⟨_, _, rfl, rfl, (le_s (le_s (le_s (le_s (le_n))))), rfl⟩⟩⟩)))⟩)))))))⟩⟩, fun _ => rfl, fun q17 =>
      ja_nil (⟨_, _, rfl, rfl, fun t18 _ =>
      ⟨_, rfl, rfl, oa_n⟩⟩)⟩⟩)⟩))))))))) (ok := by (refine blkOk_by ?_; first | (dsimp only [cxOf, envOfC, Cx.blk]; decide +kernel) | exact Eq.refl true)))))))⟩))))

def d_t_show_shelf : List D → Res (D)
  | [v_0] =>
      (d_t_is_shelf [v_0]).bind fun a1 =>
      op (truD a1) fun b2 =>
      if (!b2) = true then (.bad) else (op (tyG "str" (D.str " ")) fun _ =>
      op (asL v_0) fun ds3 =>
      (lcF ds3 (() : Unit) [] fun d5 s4 =>
      op (un2 d5) fun p6 =>
      op (stS Str.empty p6.1) fun s7 =>
      op (stS s7 (D.str ":")) fun s8 =>
      op (stS s8 p6.2) fun s9 =>
      .ok (some (D.str s9), ())).bind fun q10 =>
      op (joiD [(D.str " "), (D.lst q10.1)]) fun t11 =>
      .ok t11)  | _ => .bad
abbrev n_t_show_shelf : List Str := ["shelf", "number", "copies"]
theorem sc_t_show_shelf : FnScope n_t_show_shelf ["shelf"] (defScope (topS 21)) := ⟨rfl, rfl, rfl, by decide +kernel, rfl, by decide +kernel, by decide +kernel⟩
theorem ok_t_show_shelf (h : Txt K mg) : Df P w K mg base 4 "show_shelf" [.b] d_t_show_shelf (fun a => a) (fun a => []) false := by
  obtain ⟨fa, fd, F, B, M⟩ := h.f_t_show_shelf
  refine ⟨fa, fd, _, fn_D (k := 3) F sc_t_show_shelf rfl 0 (fun _ => rfl) rfl (fun X en cdv A outer s H E ds hX hr hn hL hp hl => ?_), M, F.kp, B⟩
  have hnd := (sc_t_show_shelf).nd
  subst hX
  obtain ⟨v_0, rfl⟩ := len1 hl
  unfold d_t_show_shelf
  exact (jss_cons (js_if (jt_not (jt_tru (je_call (ok_t_is_shelf h) (hr.mono (by decide)) hL (ja_cons (je_bw 0 rfl (ja_nil (⟨_, [], _, fun a1 => [.bw v_0, .un, .un], rfl, rfl, List.nodup_nil, rfl, fun _ => rfl, fun a1 _ =>
      ⟨_, _, rfl, rfl, fun b2 =>
      ⟨_, _, rfl, jss_one (js_bad), jss_nil (jss_one (js_ret (je_met PySem.F.plainAttrs_str PySem.F.slot_str_join PySem.F.type_str_join c_joi (je_str (⟨_, _, rfl, rfl, ja_cons (je_lc [("number", 1), ("copies", 2)] rfl hnd (ji_any (je_bw 0 rfl (⟨_, _, rfl, rfl, fun ds3 =>
      ⟨_, _, _, (fun s4 => [.bw v_0, .un, .un]), (fun s4 => [.bw v_0, .un, .un]), rfl, (le_s (le_s (le_s (le_n)))), rfl, fun _ he d5 s4 _ _ _ _ _ _ => ⟨[1, 2], (fun _ h => h), jg_tup2 rfl ⟨_, rfl, fun p6 =>
      jgs_name 1 [.bw v_0, .fr p6.1, .un] hnd (jgs_name 2 [.bw v_0, .fr p6.1, .fr p6.2] hnd (jgs_nil (fun _ _ _ _ _ => je_fstr (.cons (pe_fmt pe_we) (.cons pe_we (.cons (pe_fmt pe_we) .nil))) (jf_fmt (je_fr 1 rfl (⟨_, _, rfl, rfl, fun s7 =>
      jf_text ⟨_, rfl, fun s8 =>
      jf_fmt (je_fr 2 rfl (⟨_, _, rfl, rfl, fun s9 =>
      jf_nil (⟨_, _, rfl, rfl, (le_s (le_s (le_s (le_n)))), rfl⟩)⟩))⟩⟩))))))⟩⟩, fun _ => rfl, fun q10 =>
      ja_nil (⟨_, _, _, rfl, rfl, rfl, fun t11 _ =>
      ⟨_, rfl, rfl, oa_n⟩⟩)⟩⟩))) (ok := by (refine blkOk_by ?_; first | (dsimp only [cxOf, envOfC, Cx.blk]; decide +kernel) | exact Eq.refl true)))⟩)))))⟩⟩⟩)))))))))

def d_t_words_in : List D → Res (D)
  | [v_0] =>
      if (!(isStr v_0)) = true then (.bad) else (((op (neD v_0 (D.str "")) fun b2 =>
      if b2 = true then (op (tyG "str" v_0) fun _ =>
      op (splD [v_0, (D.str " ")]) fun t3 =>
      .ok (D.lst t3)) else (.ok (D.lst ([] : List D))) : Res (D))).bind fun a1 =>
      .ok a1)  | _ => .bad
abbrev n_t_words_in : List Str := ["text"]
theorem sc_t_words_in : FnScope n_t_words_in ["text"] (defScope (topS 22)) := ⟨rfl, rfl, rfl, by decide +kernel, rfl, by decide +kernel, by decide +kernel⟩
theorem ok_t_words_in (h : Txt K mg) : Df P w K mg base 1 "words_in" [.b] d_t_words_in (fun a => a) (fun a => []) false := by
  obtain ⟨fa, fd, F, B, M⟩ := h.f_t_words_in
  refine ⟨fa, fd, _, fn_D (k := 0) F sc_t_words_in rfl 0 (fun _ => rfl) rfl (fun X en cdv A outer s H E ds hX hr hn hL hp hl => ?_), M, F.kp, B⟩
  have hnd := (sc_t_words_in).nd
  subst hX
  obtain ⟨v_0, rfl⟩ := len1 hl
  unfold d_t_words_in
  exact (jss_cons (js_if (jt_not (jt_bl (je_isi kit_str h.n_isinstance h.n_str (je_bw 0 rfl (⟨_, rfl, ⟨_, rfl, ⟨_, _, rfl, jss_one (js_bad), jss_nil (jss_one (js_ret (je_join (fun (a1 : D) => .fr a1) (fun a1 => [.bw v_0]) (je_if (jt_cmp (cmp_neD hr.hu) rfl (je_bw 0 rfl (je_str (⟨_, _, _, rfl, rfl, rfl, fun b2 =>
      ⟨_, _, rfl, je_fz (je_metL PySem.F.plainAttrs_str PySem.F.slot_str_split PySem.F.type_str_split c_spl (je_bw 0 rfl (⟨_, _, rfl, rfl, ja_cons (je_str (ja_nil (⟨_, _, _, rfl, rfl, rfl, fun t3 =>
      ⟨_, rfl, rfl, rfl⟩⟩)))⟩))), je_fz (je_lst (ja_nil (⟨_, rfl, rfl, ⟨_, rfl, rfl, rfl⟩⟩)))⟩⟩))))) (fun a1 =>
      ⟨_, rfl, rfl, oa_n⟩))))⟩⟩⟩)))))))

def d_t_number_in : List D → Res (D)
  | [v_0] =>
      ((op (eqD v_0 (D.str "")) fun b2 =>
      if b2 = true then (.ok true) else (op (asS v_0) fun ds3 =>
      (lcF ds3 (() : Unit) [] fun d5 s4 =>
      op (inSg d5 (D.str "0123456789")) fun b6 =>
      .ok (some (D.bl b6), ())).bind fun q7 =>
      op (allD [(D.lst q7.1)]) fun t8 =>
      op (truD t8) fun b9 =>
      if (!b9) = true then (.ok true) else (((op (ixS v_0 (D.int 0)) fun t11 =>
      op (eqD t11 (D.str "0")) fun b12 =>
      if b12 = true then (op (neD v_0 (D.str "0")) fun b13 =>
      .ok b13) else (.ok false) : Res (Bool))).bind fun a10 =>
      .ok a10)) : Res (Bool))).bind fun a1 =>
      if a1 = true then (.ok D.non) else (op (itxD [v_0]) fun t14 =>
      .ok t14)  | _ => .bad
abbrev n_t_number_in : List Str := ["word", "sign"]
theorem sc_t_number_in : FnScope n_t_number_in ["word"] (defScope (topS 23)) := ⟨rfl, rfl, rfl, by decide +kernel, rfl, by decide +kernel, by decide +kernel⟩
theorem ok_t_number_in (h : Txt K mg) : Df P w K mg base 1 "number_in" [.b] d_t_number_in (fun a => a) (fun a => []) false := by
  obtain ⟨fa, fd, F, B, M⟩ := h.f_t_number_in
  refine ⟨fa, fd, _, fn_D (k := 0) F sc_t_number_in rfl 0 (fun _ => rfl) rfl (fun X en cdv A outer s H E ds hX hr hn hL hp hl => ?_), M, F.kp, B⟩
  have hnd := (sc_t_number_in).nd
  subst hX
  obtain ⟨v_0, rfl⟩ := len1 hl
  unfold d_t_number_in
  exact (jss_cons (js_if (jt_join (fun (a1 : Bool) => a1) (fun a1 => [.bw v_0, .un]) (jt_w (jw_or (jt_cmp (cmp_eqD hr.hu) rfl (je_bw 0 rfl (je_str (⟨_, _, _, rfl, rfl, rfl, fun b2 =>
      ⟨_, _, rfl, ⟨_, rfl, rfl, rfl⟩, jw_or (jt_not (jt_tru (je_callB (c_all rfl) h.n_all (ja_cons (je_lc [("sign", 1)] rfl hnd (ji_str (je_bw 0 rfl (⟨_, _, rfl, rfl, fun ds3 =>
      ⟨_, _, _, (fun s4 => [.bw v_0, .un]), (fun s4 => [.bw v_0, .un]), rfl, (le_s (le_s (le_n))), rfl, fun _ he d5 s4 _ _ _ _ _ _ => ⟨[1], (fun _ h => h), jg_name 1 [.bw v_0, .fr d5] hnd (fun _ _ _ _ _ => je_cmpB cmp_inSg rfl (je_fr 1 rfl (je_gs h.g_FIGURES (⟨_, _, _, rfl, rfl, rfl, fun b6 =>
      ⟨_, _, rfl, rfl, (le_s (le_s (le_n))), rfl⟩⟩))))⟩, fun _ => rfl, fun q7 =>
      ja_nil (⟨_, _, rfl, rfl, fun t8 _ =>
      ⟨_, _, rfl, rfl, fun b9 =>
      ⟨_, _, rfl, ⟨_, rfl, rfl, rfl⟩, jw_or1 (jt_join (fun (a10 : Bool) => a10) (fun a10 => [.bw v_0, .un]) (jt_w (jw_and (jt_cmp (cmp_eqD hr.hu) rfl (je_ix ix_S (fun _ _ => rfl) (je_bw 0 rfl (je_int (⟨_, _, _, rfl, rfl, rfl, fun t11 _ =>
      je_str (⟨_, _, _, rfl, rfl, rfl, fun b12 =>
      ⟨_, _, rfl, jw_and1 (jt_cmp (cmp_neD hr.hu) rfl (je_bw 0 rfl (je_str (⟨_, _, _, rfl, rfl, rfl, fun b13 =>
      ⟨_, rfl, rfl, rfl⟩⟩)))), ⟨_, rfl, rfl, rfl⟩⟩⟩)⟩))))))) (fun a10 =>
      ⟨_, rfl, rfl, rfl⟩))⟩⟩⟩)⟩⟩))) (ok := by (refine blkOk_by ?_; first | (dsimp only [cxOf, envOfC, Cx.blk]; decide +kernel) | exact Eq.refl true)))))))⟩⟩)))))) (fun a1 =>
      ⟨_, _, rfl, jss_one (js_ret (je_non (⟨_, rfl, rfl, oa_n⟩))), jss_nil (jss_one (js_ret (je_callTy c_itx h.n_int (ja_cons (je_bw 0 rfl (ja_nil (⟨_, _, rfl, rfl, fun t14 _ =>
      ⟨_, rfl, rfl, oa_n⟩⟩)))))))⟩))))

def d_t_pair_in : List D → Res (D)
  | [v_0, v_1] =>
      op (tyG "str" v_0) fun _ =>
      op (parD [v_0, v_1]) fun t1 =>
      op (un3 t1) fun p2 =>
      (d_t_number_in [p2.1]).bind fun a3 =>
      (d_t_number_in [p2.2.2]).bind fun a4 =>
      ((((op (eqD p2.2.1 (D.str "")) fun b7 =>
      if b7 = true then (.ok true) else (op (inNT D.non (D.tup [a3, a4])) fun b8 =>
      .ok b8) : Res (Bool))).bind fun a6 =>
      if a6 = true then (.ok D.non) else (.ok (D.tup [a3, a4])) : Res (D))).bind fun a5 =>
      .ok a5  | _ => .bad
abbrev n_t_pair_in : List Str := ["word", "mark", "one", "between", "other", "pair"]
theorem sc_t_pair_in : FnScope n_t_pair_in ["word", "mark"] (defScope (topS 24)) := ⟨rfl, rfl, rfl, by decide +kernel, rfl, by decide +kernel, by decide +kernel⟩
theorem ok_t_pair_in (h : Txt K mg) : Df P w K mg base 2 "pair_in" [.b, .b] d_t_pair_in (fun a => a) (fun a => []) false := by
  obtain ⟨fa, fd, F, B, M⟩ := h.f_t_pair_in
  refine ⟨fa, fd, _, fn_D (k := 1) F sc_t_pair_in rfl 0 (fun _ => rfl) rfl (fun X en cdv A outer s H E ds hX hr hn hL hp hl => ?_), M, F.kp, B⟩
  have hnd := (sc_t_pair_in).nd
  subst hX
  obtain ⟨v_0, v_1, rfl⟩ := len2 hl
  unfold d_t_pair_in
  exact (jss_cons (js_asg (je_met PySem.F.plainAttrs_str PySem.F.slot_str_partition PySem.F.type_str_partition c_par (je_bw 0 rfl (⟨_, _, rfl, rfl, ja_cons (je_bw 1 rfl (ja_nil (⟨_, _, _, rfl, rfl, rfl, fun t1 _ =>
      ⟨_, [2, 3, 4], rfl, jg_tup3 rfl ⟨_, rfl, fun p2 =>
      jgs_name 2 [.bw v_0, .bw v_1, .fr p2.1, .un, .un, .un] hnd (jgs_name 3 [.bw v_0, .bw v_1, .fr p2.1, .fr p2.2.1, .un, .un] hnd (jgs_name 4 [.bw v_0, .bw v_1, .fr p2.1, .fr p2.2.1, .fr p2.2.2, .un] hnd (jgs_nil (jss_cons (js_set 5 hnd (je_tup (ja_cons (je_call (ok_t_number_in h) (hr.mono (by decide)) hL (ja_cons (je_fr 2 rfl (ja_nil (⟨_, [], _, fun a3 => [.bw v_0, .bw v_1, .fr p2.1, .fr p2.2.1, .fr p2.2.2, .un], rfl, rfl, List.nodup_nil, rfl, fun _ => rfl, fun a3 _ =>
      ja_cons (je_call (ok_t_number_in h) (hr.mono (by decide)) hL (ja_cons (je_fr 4 rfl (ja_nil (⟨_, [], _, fun a4 => [.bw v_0, .bw v_1, .fr p2.1, .fr p2.2.1, .fr p2.2.2, .un], rfl, rfl, List.nodup_nil, rfl, fun _ => rfl, fun a4 _ =>
      ja_nil (⟨_, rfl, rfl, ⟨[.bw v_0, .bw v_1, .fr p2.1, .fr p2.2.1, .fr p2.2.2, .fr (D.tup [a3, a4])], rfl, rfl, rfl,
      jss_one (js_ret (je_join (fun (a5 : D) => .fr a5) (fun a5 => [.bw v_0, .bw v_1, .fr p2.1, .fr p2.2.1, .fr p2.2.2, .fr (D.tup [a3, a4])]) (je_if (jt_join (fun (a6 : Bool) => a6) (fun a6 => [.bw v_0, .bw v_1, .fr p2.1, .fr p2.2.1, .fr p2.2.2, .fr (D.tup [a3, a4])]) (jt_w (jw_or (jt_cmp (cmp_eqD hr.hu) rfl (je_fr 3 rfl (je_str (⟨_, _, _, rfl, rfl, rfl, fun b7 =>
      ⟨_, _, rfl, ⟨_, rfl, rfl, rfl⟩, jw_or1 (jt_cmp cmp_inNT rfl (je_non (je_fr 5 rfl (⟨_, _, _, rfl, rfl, rfl, fun b8 =>
      ⟨_, rfl, rfl, rfl⟩⟩))))⟩⟩)))))) (fun a6 =>
      ⟨_, _, rfl, je_non (⟨_, rfl, rfl, rfl⟩), je_fr 5 rfl (⟨_, rfl, rfl, rfl⟩)⟩))) (fun a5 =>
      ⟨_, rfl, rfl, oa_n⟩)))⟩⟩)⟩)))))⟩))))))))))))⟩⟩⟩)))⟩)))))

def d_t_read_table : List D → Res (List D)
  | [v_0] =>
      (d_t_words_in [v_0]).bind fun a1 =>
      op (enumD a1) fun ds2 =>
      (forS ds2 (([] : List D) : List D) fun d5 s4 =>
      op (un2 d5) fun p6 =>
      (d_t_pair_in [p6.2, (D.str ":")]).bind fun a7 =>
      ((op (isND a7 D.non) fun b9 =>
      if b9 = true then (.ok true) else (op (addD (D.lst s4) (D.lst [a7])) fun t10 =>
      (d_t_is_table [t10]).bind fun a11 =>
      op (truD a11) fun b12 =>
      .ok (!b12)) : Res (Bool))).bind fun a8 =>
      if a8 = true then (.bad) else (op (appL s4 [a7]) fun a13 =>
      .ok a13.2)).bind fun s14 =>
      op (eqD (D.lst s14) (D.lst ([] : List D))) fun b15 =>
      if b15 = true then (.bad) else (.ok s14)  | _ => .bad
abbrev n_t_read_table : List Str := ["text", "words", "found", "at", "word", "step"]
theorem sc_t_read_table : FnScope n_t_read_table ["text"] (defScope (topS 26)) := ⟨rfl, rfl, rfl, by decide +kernel, rfl, by decide +kernel, by decide +kernel⟩
theorem ok_t_read_table (h : Txt K mg) : Df P w K mg base 4 "read_table" [.b] d_t_read_table (fun a => .lst a) (fun a => []) true := by
  obtain ⟨fa, fd, F, B, M⟩ := h.f_t_read_table
  refine ⟨fa, fd, _, fn_D (k := 3) F sc_t_read_table rfl 0 (fun _ => rfl) rfl (fun X en cdv A outer s H E ds hX hr hn hL hp hl => ?_), M, F.kp, B⟩
  have hnd := (sc_t_read_table).nd
  subst hX
  obtain ⟨v_0, rfl⟩ := len1 hl
  unfold d_t_read_table
  exact (jss_cons (js_set 1 hnd (je_call (ok_t_words_in h) (hr.mono (by decide)) hL (ja_cons (je_bw 0 rfl (ja_nil (⟨_, [], _, fun a1 => [.bw v_0, .un, .un, .un, .un, .un], rfl, rfl, List.nodup_nil, rfl, fun _ => rfl, fun a1 _ =>
      ⟨[.bw v_0, .fr a1, .un, .un, .un, .un], rfl, rfl, rfl,
      jss_cons (js_set 2 hnd (je_lst (ja_nil (⟨_, rfl, rfl, ⟨[.bw v_0, .fr a1, .mu (.lst ([] : List D)), .un, .un, .un], rfl, rfl, rfl,
      jss_cons (js_forS hp rfl (ji_enum h.n_enumerate (je_fr 1 rfl (⟨_, _, rfl, rfl, fun ds2 =>
      ⟨_, _, _, (fun (s4 : List D) => [.bw v_0, .fr a1, .mu (.lst s4), .un, .un, .un]), rfl, (le_s (le_s (le_s (le_s (le_s (le_s (le_n))))))), fun _ he3 d5 s4 => ⟨[3, 4], jg_tup2 rfl ⟨_, rfl, fun p6 =>
      jgs_name 3 [.bw v_0, .fr a1, .mu (.lst s4), .fr p6.1, .un, .un] hnd (jgs_name 4 [.bw v_0, .fr a1, .mu (.lst s4), .fr p6.1, .fr p6.2, .un] hnd (jgs_nil (jss_cons (js_set 5 hnd (je_call (ok_t_pair_in h) (hr.mono (by decide)) (he3.lk hL) (ja_cons (je_fr 4 rfl (ja_cons (je_str (ja_nil (⟨_, [], _, fun a7 => [.bw v_0, .fr a1, .mu (.lst s4), .fr p6.1, .fr p6.2, .un], rfl, rfl, List.nodup_nil, rfl, fun _ => rfl, fun a7 _ =>
      ⟨[.bw v_0, .fr a1, .mu (.lst s4), .fr p6.1, .fr p6.2, .fr a7], rfl, rfl, rfl,
      jss_cons (js_if (jt_join (fun (a8 : Bool) => a8) (fun a8 => [.bw v_0, .fr a1, .mu (.lst s4), .fr p6.1, .fr p6.2, .fr a7]) (jt_w (jw_or (jt_cmp cmp_isN rfl (je_fr 5 rfl (je_non (⟨_, _, _, rfl, rfl, rfl, fun b9 =>
      ⟨_, _, rfl, ⟨_, rfl, rfl, rfl⟩, jw_or1 (jt_not (jt_tru (je_call (ok_t_is_table h) (hr.mono (by decide)) (he3.lk hL) (ja_cons (je_bin op_addD (je_bo 2 rfl (.inl ⟨_, rfl⟩) (je_lst (ja_cons (je_fr 5 rfl (ja_nil (⟨_, rfl, rfl, ⟨_, _, _, rfl, rfl, rfl, fun t10 _ =>
      ja_nil (⟨_, [], _, fun a11 => [.bw v_0, .fr a1, .mu (.lst s4), .fr p6.1, .fr p6.2, .fr a7], rfl, rfl, List.nodup_nil, rfl, fun _ => rfl, fun a11 _ =>
      ⟨_, _, rfl, rfl, fun b12 =>
      ⟨_, rfl, rfl, rfl⟩⟩⟩)⟩⟩)))))))))))⟩⟩)))))) (fun a8 =>
      ⟨_, _, rfl, jss_one (js_bad), jss_nil (jss_one (js_expr (je_mutL 2 g_app PySem.F.slot_list_append PySem.F.type_list_append m_append rfl rfl rfl (ja_cons (je_fr 5 rfl (ja_nil (⟨_, _, _, _, fun a13 => [.bw v_0, .fr a1, .mu (.lst a13.2), .fr p6.1, .fr p6.2, .fr a7], rfl, rfl, rfl, rfl, rfl, fun _ => rfl, fun a13 =>
      ⟨_, rfl, (le_s (le_s (le_s (le_u (le_u (le_u (le_n)))))))⟩⟩)))))))⟩)))⟩⟩)))))))))))⟩⟩, fun s14 =>
      jss_cons (js_if (jt_cmp (cmp_eqD hr.hu) rfl (je_bo 2 rfl (.inl ⟨_, rfl⟩) (je_lst (ja_nil (⟨_, rfl, rfl, ⟨_, _, _, rfl, rfl, rfl, fun b15 =>
      ⟨_, _, rfl, jss_one (js_bad), jss_nil (jss_one (js_ret (je_mv' 2 [.bw v_0, .fr a1, .un, .un, .un, .un] rfl rfl (⟨_, rfl, rfl, oa_n⟩))))⟩⟩⟩))))))⟩⟩))))⟩⟩))))⟩⟩)))))))

def d_t_stretch_in : List D → Res (D)
  | [v_0] =>
      ((op (tyG "str" v_0) fun _ =>
      op (endD [v_0, (D.str "-")]) fun t2 =>
      op (truD t2) fun b3 =>
      if b3 = true then (op (negD (D.int 1)) fun t4 =>
      op (asI t4) fun i5 =>
      op (cutT v_0 none (some i5)) fun t6 =>
      (d_t_number_in [t6]).bind fun a7 =>
      op (notND a7 D.non) fun b8 =>
      .ok b8) else (.ok false) : Res (Bool))).bind fun a1 =>
      if a1 = true then (op (negD (D.int 1)) fun t9 =>
      op (asI t9) fun i10 =>
      op (cutT v_0 none (some i10)) fun t11 =>
      (d_t_number_in [t11]).bind fun a12 =>
      .ok (D.tup [a12, D.non])) else ((d_t_pair_in [v_0, (D.str "-")]).bind fun a13 =>
      ((((op (isND a13 D.non) fun b16 =>
      if b16 = true then (.ok true) else (op (ixD a13 (D.int 1)) fun t17 =>
      op (ixD a13 (D.int 0)) fun t18 =>
      op (ltD t17 t18) fun b19 =>
      .ok b19) : Res (Bool))).bind fun a15 =>
      if a15 = true then (.ok D.non) else (.ok a13) : Res (D))).bind fun a14 =>
      .ok a14)  | _ => .bad
abbrev n_t_stretch_in : List Str := ["word", "pair"]
theorem sc_t_stretch_in : FnScope n_t_stretch_in ["word"] (defScope (topS 25)) := ⟨rfl, rfl, rfl, by decide +kernel, rfl, by decide +kernel, by decide +kernel⟩
theorem ok_t_stretch_in (h : Txt K mg) : Df P w K mg base 3 "stretch_in" [.b] d_t_stretch_in (fun a => a) (fun a => []) false := by
  obtain ⟨fa, fd, F, B, M⟩ := h.f_t_stretch_in
  refine ⟨fa, fd, _, fn_D (k := 2) F sc_t_stretch_in rfl 0 (fun _ => rfl) rfl (fun X en cdv A outer s H E ds hX hr hn hL hp hl => ?_), M, F.kp, B⟩
  have hnd := (sc_t_stretch_in).nd
  subst hX
  obtain ⟨v_0, rfl⟩ := len1 hl
  unfold d_t_stretch_in
  exact (jss_cons (js_if (jt_join (fun (a1 : Bool) => a1) (fun a1 => [.bw v_0, .un]) (jt_w (jw_and (jt_tru (je_met PySem.F.plainAttrs_str PySem.F.slot_str_endswith PySem.F.type_str_endswith c_end (je_bw 0 rfl (⟨_, _, rfl, rfl, ja_cons (je_str (ja_nil (⟨_, _, _, rfl, rfl, rfl, fun t2 _ =>
      ⟨_, _, rfl, rfl, fun b3 =>
      ⟨_, _, rfl, jw_and1 (jt_cmp cmp_notN rfl (je_call (ok_t_number_in h) (hr.mono (by decide)) hL (ja_cons (je_cutT (je_bw 0 rfl (jo_none (jo_some (je_un un_negD (je_int (⟨_, _, rfl, rfl, fun t4 _ =>
      ⟨_, _, rfl, rfl, fun i5 =>
      ⟨_, _, rfl, rfl, fun t6 =>
      ja_nil (⟨_, [], _, fun a7 => [.bw v_0, .un], rfl, rfl, List.nodup_nil, rfl, fun _ => rfl, fun a7 _ =>
      je_non (⟨_, _, _, rfl, rfl, rfl, fun b8 =>
      ⟨_, rfl, rfl, rfl⟩⟩)⟩)⟩⟩⟩)))))))))), ⟨_, rfl, rfl, rfl⟩⟩⟩⟩)))⟩)))))) (fun a1 =>
      ⟨_, _, rfl, jss_one (js_ret (je_tup (ja_cons (je_call (ok_t_number_in h) (hr.mono (by decide)) hL (ja_cons (je_cutT (je_bw 0 rfl (jo_none (jo_some (je_un un_negD (je_int (⟨_, _, rfl, rfl, fun t9 _ =>
      ⟨_, _, rfl, rfl, fun i10 =>
      ⟨_, _, rfl, rfl, fun t11 =>
      ja_nil (⟨_, [], _, fun a12 => [.bw v_0, .un], rfl, rfl, List.nodup_nil, rfl, fun _ => rfl, fun a12 _ =>
      ja_cons (je_non (ja_nil (⟨_, rfl, rfl, ⟨_, rfl, rfl, oa_n⟩⟩)))⟩)⟩⟩⟩)))))))))))), jss_nil (jss_cons (js_set 1 hnd (je_call (ok_t_pair_in h) (hr.mono (by decide)) hL (ja_cons (je_bw 0 rfl (ja_cons (je_str (ja_nil (⟨_, [], _, fun a13 => [.bw v_0, .un], rfl, rfl, List.nodup_nil, rfl, fun _ => rfl, fun a13 _ =>
      ⟨[.bw v_0, .fr a13], rfl, rfl, rfl,
      jss_one (js_ret (je_join (fun (a14 : D) => .fr a14) (fun a14 => [.bw v_0, .fr a13]) (je_if (jt_join (fun (a15 : Bool) => a15) (fun a15 => [.bw v_0, .fr a13]) (jt_w (jw_or (jt_cmp cmp_isN rfl (je_fr 1 rfl (je_non (⟨_, _, _, rfl, rfl, rfl, fun b16 =>
      ⟨_, _, rfl, ⟨_, rfl, rfl, rfl⟩, jw_or1 (jt_cmp cmp_ltD rfl (je_ix ix_D (fun _ _ => rfl) (je_fr 1 rfl (je_int (⟨_, _, _, rfl, rfl, rfl, fun t17 _ =>
      je_ix ix_D (fun _ _ => rfl) (je_fr 1 rfl (je_int (⟨_, _, _, rfl, rfl, rfl, fun t18 _ =>
      ⟨_, _, _, rfl, rfl, rfl, fun b19 =>
      ⟨_, rfl, rfl, rfl⟩⟩⟩)))⟩)))))⟩⟩)))))) (fun a15 =>
      ⟨_, _, rfl, je_non (⟨_, rfl, rfl, rfl⟩), je_fr 1 rfl (⟨_, rfl, rfl, rfl⟩)⟩))) (fun a14 =>
      ⟨_, rfl, rfl, oa_n⟩)))⟩⟩)))))))))⟩))))

def d_t_read_lot : List D → Res (List D)
  | [v_0] =>
      (d_t_words_in [v_0]).bind fun a2 =>
      op (asL a2) fun ds1 =>
      (lcF ds1 (() : Unit) [] fun d4 s3 =>
      (d_t_stretch_in [d4]).bind fun a5 =>
      .ok (some a5, ())).bind fun q6 =>
      op (inLD D.non (D.lst q6.1)) fun b7 =>
      if b7 = true then (.bad) else (.ok q6.1)  | _ => .bad
abbrev n_t_read_lot : List Str := ["text", "found", "word"]
theorem sc_t_read_lot : FnScope n_t_read_lot ["text"] (defScope (topS 27)) := ⟨rfl, rfl, rfl, by decide +kernel, rfl, by decide +kernel, by decide +kernel⟩
theorem ok_t_read_lot (h : Txt K mg) : Df P w K mg base 4 "read_lot" [.b] d_t_read_lot (fun a => .lst a) (fun a => []) true := by
  obtain ⟨fa, fd, F, B, M⟩ := h.f_t_read_lot
  refine ⟨fa, fd, _, fn_D (k := 3) F sc_t_read_lot rfl 0 (fun _ => rfl) rfl (fun X en cdv A outer s H E ds hX hr hn hL hp hl => ?_), M, F.kp, B⟩
  have hnd := (sc_t_read_lot).nd
  subst hX
  obtain ⟨v_0, rfl⟩ := len1 hl
  unfold d_t_read_lot
  exact (jss_cons (js_setLc 1 [("word", 2)] rfl hnd (ji_any (je_call (ok_t_words_in h) (hr.mono (by decide)) hL (ja_cons (je_bw 0 rfl (ja_nil (⟨_, [], _, fun a2 => [.bw v_0, .un, .un], rfl, rfl, List.nodup_nil, rfl, fun _ => rfl, fun a2 _ =>
      ⟨_, _, rfl, rfl, fun ds1 =>
      ⟨_, _, _, (fun s3 => [.bw v_0, .un, .un]), (fun s3 => [.bw v_0, .un, .un]), rfl, (le_s (le_s (le_s (le_n)))), rfl, fun _ he d4 s3 _ _ _ _ _ _ => ⟨[2], (fun _ h => h), jg_name 2 [.bw v_0, .un, .fr d4] hnd (fun _ _ _ _ _ => je_call (ok_t_stretch_in h) (hr.mono (by decide)) he.lk (ja_cons (je_fr 2 rfl (ja_nil (⟨_, [], _, fun a5 => [.bw v_0, .un, .fr d4], rfl, rfl, List.nodup_nil, rfl, fun _ => rfl, fun a5 _ =>
      ⟨_, _, rfl, rfl, (le_s (le_s (le_s (le_n)))), rfl⟩⟩)))))⟩, fun _ => rfl, fun q6 => ⟨[.bw v_0, .mu (.lst q6.1), .un], rfl, rfl,
      jss_cons (js_if (jt_cmp (cmp_inLD hr.hu5) rfl (je_non (je_bo 1 rfl (.inl ⟨_, rfl⟩) (⟨_, _, _, rfl, rfl, rfl, fun b7 =>
      ⟨_, _, rfl, jss_one (js_bad), jss_nil (jss_one (js_ret (je_mv' 1 [.bw v_0, .un, .un] rfl rfl (⟨_, rfl, rfl, oa_n⟩))))⟩⟩)))))⟩⟩⟩⟩)))))) (ok := by (refine blkOk_by ?_; first | (dsimp only [cxOf, envOfC, Cx.blk]; decide +kernel) | exact Eq.refl true))))

def d_t_read_stretches : List D → Res (List D)
  | [v_0] =>
      (d_t_words_in [v_0]).bind fun a1 =>
      op (enumD a1) fun ds2 =>
      (forS ds2 (([] : List D) : List D) fun d5 s4 =>
      op (un2 d5) fun p6 =>
      (d_t_stretch_in [p6.2]).bind fun a7 =>
      ((op (isND a7 D.non) fun b9 =>
      if b9 = true then (.ok true) else (((op (neD (D.lst s4) (D.lst ([] : List D))) fun b11 =>
      if b11 = true then (((op (negD (D.int 1)) fun t13 =>
      op (ixD (D.lst s4) t13) fun t14 =>
      op (ixD t14 (D.int 1)) fun t15 =>
      op (isND t15 D.non) fun b16 =>
      if b16 = true then (.ok true) else (op (ixD a7 (D.int 0)) fun t17 =>
      op (negD (D.int 1)) fun t18 =>
      op (ixD (D.lst s4) t18) fun t19 =>
      op (ixD t19 (D.int 1)) fun t20 =>
      op (addD t20 (D.int 1)) fun t21 =>
      op (leD t17 t21) fun b22 =>
      .ok b22) : Res (Bool))).bind fun a12 =>
      .ok a12) else (.ok false) : Res (Bool))).bind fun a10 =>
      .ok a10) : Res (Bool))).bind fun a8 =>
      if a8 = true then (.bad) else (op (appL s4 [a7]) fun a23 =>
      .ok a23.2)).bind fun s24 =>
      .ok s24  | _ => .bad
abbrev n_t_read_stretches : List Str := ["text", "words", "found", "at", "word", "one"]
theorem sc_t_read_stretches : FnScope n_t_read_stretches ["text"] (defScope (topS 28)) := ⟨rfl, rfl, rfl, by decide +kernel, rfl, by decide +kernel, by decide +kernel⟩
theorem ok_t_read_stretches (h : Txt K mg) : Df P w K mg base 4 "read_stretches" [.b] d_t_read_stretches (fun a => .lst a) (fun a => []) true := by
  obtain ⟨fa, fd, F, B, M⟩ := h.f_t_read_stretches
  refine ⟨fa, fd, _, fn_D (k := 3) F sc_t_read_stretches rfl 0 (fun _ => rfl) rfl (fun X en cdv A outer s H E ds hX hr hn hL hp hl => ?_), M, F.kp, B⟩
  have hnd := (sc_t_read_stretches).nd
  subst hX
  obtain ⟨v_0, rfl⟩ := len1 hl
  unfold d_t_read_stretches
  exact (jss_cons (js_set 1 hnd (je_call (ok_t_words_in h) (hr.mono (by decide)) hL (ja_cons (je_bw 0 rfl (ja_nil (⟨_, [], _, fun a1 => [.bw v_0, .un, .un, .un, .un, .un], rfl, rfl, List.nodup_nil, rfl, fun _ => rfl, fun a1 _ =>
      ⟨[.bw v_0, .fr a1, .un, .un, .un, .un], rfl, rfl, rfl,
      jss_cons (js_set 2 hnd (je_lst (ja_nil (⟨_, rfl, rfl, ⟨[.bw v_0, .fr a1, .mu (.lst ([] : List D)), .un, .un, .un], rfl, rfl, rfl,
      jss_cons (js_forS hp rfl (ji_enum h.n_enumerate (je_fr 1 rfl (⟨_, _, rfl, rfl, fun ds2 =>
      ⟨_, _, _, (fun (s4 : List D) => [.bw v_0, .fr a1, .mu (.lst s4), .un, .un, .un]), rfl, (le_s (le_s (le_s (le_s (le_s (le_s (le_n))))))), fun _ he3 d5 s4 => ⟨[3, 4], jg_tup2 rfl ⟨_, rfl, fun p6 =>
      jgs_name 3 [.bw v_0, .fr a1, .mu (.lst s4), .fr p6.1, .un, .un] hnd (jgs_name 4 [.bw v_0, .fr a1, .mu (.lst s4), .fr p6.1, .fr p6.2, .un] hnd (jgs_nil (jss_cons (js_set 5 hnd (je_call (ok_t_stretch_in h) (hr.mono (by decide)) (he3.lk hL) (ja_cons (je_fr 4 rfl (ja_nil (⟨_, [], _, fun a7 => [.bw v_0, .fr a1, .mu (.lst s4), .fr p6.1, .fr p6.2, .un], rfl, rfl, List.nodup_nil, rfl, fun _ => rfl, fun a7 _ =>
      ⟨[.bw v_0, .fr a1, .mu (.lst s4), .fr p6.1, .fr p6.2, .fr a7], rfl, rfl, rfl,
      jss_cons (js_if (jt_join (fun (a8 : Bool) => a8) (fun a8 => [.bw v_0, .fr a1, .mu (.lst s4), .fr p6.1, .fr p6.2, .fr a7]) (jt_w (jw_or (jt_cmp cmp_isN rfl (je_fr 5 rfl (je_non (⟨_, _, _, rfl, rfl, rfl, fun b9 =>
      ⟨_, _, rfl, ⟨_, rfl, rfl, rfl⟩, jw_or1 (jt_join (fun (a10 : Bool) => a10) (fun a10 => [.bw v_0, .fr a1, .mu (.lst s4), .fr p6.1, .fr p6.2, .fr a7]) (jt_w (jw_and (jt_cmp (cmp_neD hr.hu) rfl (je_bo 2 rfl (.inl ⟨_, rfl⟩) (je_lst (ja_nil (⟨_, rfl, rfl, ⟨_, _, _, rfl, rfl, rfl, fun b11 =>
      ⟨_, _, rfl, jw_and1 (jt_join (fun (a12 : Bool) => a12) (fun a12 => [.bw v_0, .fr a1, .mu (.lst s4), .fr p6.1, .fr p6.2, .fr a7]) (jt_w (jw_or (jt_cmp cmp_isN rfl (je_ix ix_D (fun _ _ => rfl) (je_ix ix_D (fun _ _ => rfl) (je_bo 2 rfl (.inl ⟨_, rfl⟩) (je_un un_negD (je_int (⟨_, _, rfl, rfl, fun t13 _ =>
      ⟨_, _, _, rfl, rfl, rfl, fun t14 _ =>
      je_int (⟨_, _, _, rfl, rfl, rfl, fun t15 _ =>
      je_non (⟨_, _, _, rfl, rfl, rfl, fun b16 =>
      ⟨_, _, rfl, ⟨_, rfl, rfl, rfl⟩, jw_or1 (jt_cmp cmp_leD rfl (je_ix ix_D (fun _ _ => rfl) (je_fr 5 rfl (je_int (⟨_, _, _, rfl, rfl, rfl, fun t17 _ =>
      je_bin op_addD (je_ix ix_D (fun _ _ => rfl) (je_ix ix_D (fun _ _ => rfl) (je_bo 2 rfl (.inl ⟨_, rfl⟩) (je_un un_negD (je_int (⟨_, _, rfl, rfl, fun t18 _ =>
      ⟨_, _, _, rfl, rfl, rfl, fun t19 _ =>
      je_int (⟨_, _, _, rfl, rfl, rfl, fun t20 _ =>
      je_int (⟨_, _, _, rfl, rfl, rfl, fun t21 _ =>
      ⟨_, _, _, rfl, rfl, rfl, fun b22 =>
      ⟨_, rfl, rfl, rfl⟩⟩⟩)⟩)⟩⟩))))))⟩)))))⟩⟩)⟩)⟩⟩))))))))) (fun a12 =>
      ⟨_, rfl, rfl, rfl⟩)), ⟨_, rfl, rfl, rfl⟩⟩⟩⟩))))))) (fun a10 =>
      ⟨_, rfl, rfl, rfl⟩))⟩⟩)))))) (fun a8 =>
      ⟨_, _, rfl, jss_one (js_bad), jss_nil (jss_one (js_expr (je_mutL 2 g_app PySem.F.slot_list_append PySem.F.type_list_append m_append rfl rfl rfl (ja_cons (je_fr 5 rfl (ja_nil (⟨_, _, _, _, fun a23 => [.bw v_0, .fr a1, .mu (.lst a23.2), .fr p6.1, .fr p6.2, .fr a7], rfl, rfl, rfl, rfl, rfl, fun _ => rfl, fun a23 =>
      ⟨_, rfl, (le_s (le_s (le_s (le_u (le_u (le_u (le_n)))))))⟩⟩)))))))⟩)))⟩⟩)))))))))⟩⟩, fun s24 =>
      jss_one (js_ret (je_mv' 2 [.bw v_0, .fr a1, .un, .un, .un, .un] rfl rfl (⟨_, rfl, rfl, oa_n⟩)))⟩⟩))))⟩⟩))))⟩⟩)))))))

def d_t_read_shelf : List D → Res (List D)
  | [v_0] =>
      (d_t_words_in [v_0]).bind fun a1 =>
      op (enumD a1) fun ds2 =>
      (forS ds2 (([] : List D) : List D) fun d5 s4 =>
      op (un2 d5) fun p6 =>
      (d_t_pair_in [p6.2, (D.str ":")]).bind fun a7 =>
      ((op (isND a7 D.non) fun b9 =>
      if b9 = true then (.ok true) else (op (addD (D.lst s4) (D.lst [a7])) fun t10 =>
      (d_t_is_shelf [t10]).bind fun a11 =>
      op (truD a11) fun b12 =>
      .ok (!b12)) : Res (Bool))).bind fun a8 =>
      if a8 = true then (.bad) else (op (appL s4 [a7]) fun a13 =>
      .ok a13.2)).bind fun s14 =>
      .ok s14  | _ => .bad
abbrev n_t_read_shelf : List Str := ["text", "words", "found", "at", "word", "pair"]
theorem sc_t_read_shelf : FnScope n_t_read_shelf ["text"] (defScope (topS 29)) := ⟨rfl, rfl, rfl, by decide +kernel, rfl, by decide +kernel, by decide +kernel⟩
theorem ok_t_read_shelf (h : Txt K mg) : Df P w K mg base 4 "read_shelf" [.b] d_t_read_shelf (fun a => .lst a) (fun a => []) true := by
  obtain ⟨fa, fd, F, B, M⟩ := h.f_t_read_shelf
  refine ⟨fa, fd, _, fn_D (k := 3) F sc_t_read_shelf rfl 0 (fun _ => rfl) rfl (fun X en cdv A outer s H E ds hX hr hn hL hp hl => ?_), M, F.kp, B⟩
  have hnd := (sc_t_read_shelf).nd
  subst hX
  obtain ⟨v_0, rfl⟩ := len1 hl
  unfold d_t_read_shelf
  exact (jss_cons (js_set 1 hnd (je_call (ok_t_words_in h) (hr.mono (by decide)) hL (ja_cons (je_bw 0 rfl (ja_nil (⟨_, [], _, fun a1 => [.bw v_0, .un, .un, .un, .un, .un], rfl, rfl, List.nodup_nil, rfl, fun _ => rfl, fun a1 _ =>
      ⟨[.bw v_0, .fr a1, .un, .un, .un, .un], rfl, rfl, rfl,
      jss_cons (js_set 2 hnd (je_lst (ja_nil (⟨_, rfl, rfl, ⟨[.bw v_0, .fr a1, .mu (.lst ([] : List D)), .un, .un, .un], rfl, rfl, rfl,
      jss_cons (js_forS hp rfl (ji_enum h.n_enumerate (je_fr 1 rfl (⟨_, _, rfl, rfl, fun ds2 =>
      ⟨_, _, _, (fun (s4 : List D) => [.bw v_0, .fr a1, .mu (.lst s4), .un, .un, .un]), rfl, (le_s (le_s (le_s (le_s (le_s (le_s (le_n))))))), fun _ he3 d5 s4 => ⟨[3, 4], jg_tup2 rfl ⟨_, rfl, fun p6 =>
      jgs_name 3 [.bw v_0, .fr a1, .mu (.lst s4), .fr p6.1, .un, .un] hnd (jgs_name 4 [.bw v_0, .fr a1, .mu (.lst s4), .fr p6.1, .fr p6.2, .un] hnd (jgs_nil (jss_cons (js_set 5 hnd (je_call (ok_t_pair_in h) (hr.mono (by decide)) (he3.lk hL) (ja_cons (je_fr 4 rfl (ja_cons (je_str (ja_nil (⟨_, [], _, fun a7 => [.bw v_0, .fr a1, .mu (.lst s4), .fr p6.1, .fr p6.2, .un], rfl, rfl, List.nodup_nil, rfl, fun _ => rfl, fun a7 _ =>
      ⟨[.bw v_0, .fr a1, .mu (.lst s4), .fr p6.1, .fr p6.2, .fr a7], rfl, rfl, rfl,
      jss_cons (js_if (jt_join (fun (a8 : Bool) => a8) (fun a8 => [.bw v_0, .fr a1, .mu (.lst s4), .fr p6.1, .fr p6.2, .fr a7]) (jt_w (jw_or (jt_cmp cmp_isN rfl (je_fr 5 rfl (je_non (⟨_, _, _, rfl, rfl, rfl, fun b9 =>
      ⟨_, _, rfl, ⟨_, rfl, rfl, rfl⟩, jw_or1 (jt_not (jt_tru (je_call (ok_t_is_shelf h) (hr.mono (by decide)) (he3.lk hL) (ja_cons (je_bin op_addD (je_bo 2 rfl (.inl ⟨_, rfl⟩) (je_lst (ja_cons (je_fr 5 rfl (ja_nil (⟨_, rfl, rfl, ⟨_, _, _, rfl, rfl, rfl, fun t10 _ =>
      ja_nil (⟨_, [], _, fun a11 => [.bw v_0, .fr a1, .mu (.lst s4), .fr p6.1, .fr p6.2, .fr a7], rfl, rfl, List.nodup_nil, rfl, fun _ => rfl, fun a11 _ =>
      ⟨_, _, rfl, rfl, fun b12 =>
      ⟨_, rfl, rfl, rfl⟩⟩⟩)⟩⟩)))))))))))⟩⟩)))))) (fun a8 =>
      ⟨_, _, rfl, jss_one (js_bad), jss_nil (jss_one (js_expr (je_mutL 2 g_app PySem.F.slot_list_append PySem.F.type_list_append m_append rfl rfl rfl (ja_cons (je_fr 5 rfl (ja_nil (⟨_, _, _, _, fun a13 => [.bw v_0, .fr a1, .mu (.lst a13.2), .fr p6.1, .fr p6.2, .fr a7], rfl, rfl, rfl, rfl, rfl, fun _ => rfl, fun a13 =>
      ⟨_, rfl, (le_s (le_s (le_s (le_u (le_u (le_u (le_n)))))))⟩⟩)))))))⟩)))⟩⟩)))))))))))⟩⟩, fun s14 =>
      jss_one (js_ret (je_mv' 2 [.bw v_0, .fr a1, .un, .un, .un, .un] rfl rfl (⟨_, rfl, rfl, oa_n⟩)))⟩⟩))))⟩⟩))))⟩⟩)))))))

def d_l_tin : List D → Res (List D)
  | [v_0, v_1] =>
      ((op (lenD [v_0]) fun t11 =>
      op (ltD v_1 t11) fun b12 =>
      if b12 = true then (op (ixD v_0 v_1) fun t13 =>
      .ok t13) else (.ok (D.int 0)) : Res (D))).bind fun s1 =>
      op (absD [s1]) fun t2 =>
      op (powD (D.int 10) (D.int 18)) fun t3 =>
      op (subD t2 t3) fun t4 =>
      op (max2D [(D.int 0), t4]) fun t5 =>
      op (powD (D.int 10) (D.int 37)) fun t6 =>
      op (addD t6 (D.int 43)) fun t7 =>
      op (modD s1 t7) fun t8 =>
      op (mulD t8 (D.int 64)) fun t9 =>
      op (addD t9 v_1) fun t10 =>
      .ok [t5, t10, (D.int 0)]  | _ => .bad
abbrev n_l_tin : List Str := ["_law_script", "_law_k", "_law_cell"]
theorem sc_l_tin : FnScope n_l_tin ["_law_script", "_law_k"] (defScope (topS 31)) := ⟨rfl, rfl, rfl, by decide +kernel, rfl, by decide +kernel, by decide +kernel⟩
theorem ok_l_tin (h : Txt K mg) : Df P w K mg base 1 "_law_tin" [.b, .b] d_l_tin (fun a => .lst a) (fun a => []) true := by
  obtain ⟨fa, fd, F, B, M⟩ := h.f_l_tin
  refine ⟨fa, fd, _, fn_D (k := 0) F sc_l_tin rfl 0 (fun _ => rfl) rfl (fun X en cdv A outer s H E ds hX hr hn hL hp hl => ?_), M, F.kp, B⟩
  have hnd := (sc_l_tin).nd
  subst hX
  obtain ⟨v_0, v_1, rfl⟩ := len2 hl
  unfold d_l_tin
  exact (jss_cons (js_set 2 hnd (je_int (⟨[.bw v_0, .bw v_1, .fr (D.int 0)], rfl, rfl, rfl,
      jss_cons (js_joinS (fun (s1 : D) => [.bw v_0, .bw v_1, .fr s1]) (js_if (jt_cmp cmp_ltD rfl (je_bw 1 rfl (je_callB c_len h.n_len (ja_cons (je_bw 0 rfl (ja_nil (⟨_, _, rfl, rfl, fun t11 _ =>
      ⟨_, _, _, rfl, rfl, rfl, fun b12 =>
      ⟨_, _, rfl, jss_one (js_set 2 hnd (je_ix ix_D (fun _ _ => rfl) (je_bw 0 rfl (je_bw 1 rfl (⟨_, _, _, rfl, rfl, rfl, fun t13 _ =>
      ⟨[.bw v_0, .bw v_1, .fr t13], rfl, rfl, rfl,
      ⟨_, rfl, (le_s (le_s (le_s (le_n))))⟩⟩⟩))))), jss_nil (⟨_, rfl, (le_s (le_s (le_s (le_n))))⟩)⟩⟩⟩)))))))) (fun s1 =>
      jss_one (js_ret (je_lst (ja_cons (je_callB (c_max2 rfl) h.n_max (ja_cons (je_int (ja_cons (je_bin op_subD (je_callB c_abs h.n_abs (ja_cons (je_fr 2 rfl (ja_nil (⟨_, _, rfl, rfl, fun t2 _ =>
      je_bin op_powD (je_int (je_int (⟨_, _, _, rfl, rfl, rfl, fun t3 _ =>
      ⟨_, _, _, rfl, rfl, rfl, fun t4 _ =>
      ja_nil (⟨_, _, rfl, rfl, fun t5 _ =>
      ja_cons (je_bin op_addD (je_bin op_mulD (je_bin op_modD (je_fr 2 rfl (je_bin op_addD (je_bin op_powD (je_int (je_int (⟨_, _, _, rfl, rfl, rfl, fun t6 _ =>
      je_int (⟨_, _, _, rfl, rfl, rfl, fun t7 _ =>
      ⟨_, _, _, rfl, rfl, rfl, fun t8 _ =>
      je_int (⟨_, _, _, rfl, rfl, rfl, fun t9 _ =>
      je_bw 1 rfl (⟨_, _, _, rfl, rfl, rfl, fun t10 _ =>
      ja_cons (je_int (ja_nil (⟨_, rfl, rfl, ⟨_, rfl, rfl, oa_n⟩⟩)))⟩)⟩)⟩⟩)⟩)))))))))⟩)⟩⟩)))⟩)))))))))))))))⟩))))

def d_l_deal : List D → Res (D × List D)
  | [.lst v_0, v_1] =>
      op (ixD (D.lst v_0) (D.int 0)) fun t1 =>
      op (gtD t1 (D.int 0)) fun b2 =>
      if b2 = true then (op (ixD (D.lst v_0) (D.int 0)) fun t3 =>
      op (modD t3 v_1) fun t4 =>
      op (ixD (D.lst v_0) (D.int 0)) fun t5 =>
      op (fdivD t5 v_1) fun t6 =>
      op (setL v_0 (D.int 0) t6) fun r7 =>
      .ok (t4, r7)) else (op (ixD (D.lst v_0) (D.int 2)) fun t8 =>
      op (addD t8 (D.int 1)) fun t9 =>
      op (setL v_0 (D.int 2) t9) fun r10 =>
      op (ixD (D.lst r10) (D.int 1)) fun t11 =>
      op (ixD (D.lst r10) (D.int 2)) fun t12 =>
      op (mulD (D.int 9576890767) t12) fun t13 =>
      op (addD t11 t13) fun t14 =>
      op (powD t14 (D.int 3)) fun t15 =>
      op (powD (D.int 10) (D.int 38)) fun t16 =>
      op (addD t16 (D.int 133)) fun t17 =>
      op (modD t15 t17) fun t18 =>
      op (ixD (D.lst r10) (D.int 2)) fun t19 =>
      op (mulD (D.int 32452843) t19) fun t20 =>
      op (addD t18 t20) fun t21 =>
      op (powD t21 (D.int 5)) fun t22 =>
      op (powD (D.int 10) (D.int 40)) fun t23 =>
      op (addD t23 (D.int 121)) fun t24 =>
      op (modD t22 t24) fun t25 =>
      op (fdivD t25 (D.int 65536)) fun t26 =>
      op (modD t26 v_1) fun t27 =>
      .ok (t27, r10))  | _ => .bad
abbrev n_l_deal : List Str := ["_law_tin_here", "_law_wide", "_law_mixed", "_law_found"]
theorem sc_l_deal : FnScope n_l_deal ["_law_tin_here", "_law_wide"] (defScope (topS 32)) := ⟨rfl, rfl, rfl, by decide +kernel, rfl, by decide +kernel, by decide +kernel⟩
theorem ok_l_deal (h : Txt K mg) : Df P w K mg base 1 "_law_deal" [.m, .b] d_l_deal (fun a => a.1) (fun a => [.lst a.2]) false := by
  obtain ⟨fa, fd, F, B, M⟩ := h.f_l_deal
  refine ⟨fa, fd, _, fn_D (k := 0) F sc_l_deal rfl 1 (fun _ => rfl) rfl (fun X en cdv A outer s H E ds hX hr hn hL hp hl => ?_), M, F.kp, B⟩
  have hnd := (sc_l_deal).nd
  subst hX
  obtain ⟨v_0, v_1, rfl⟩ := len2 hl
  cases v_0 <;> try exact jss_never
  rename_i v_0
  unfold d_l_deal
  exact (jss_cons (js_if (jt_cmp cmp_gtD rfl (je_ix ix_D (fun _ _ => rfl) (je_bo 0 rfl (.inr ⟨_, _, rfl⟩) (je_int (⟨_, _, _, rfl, rfl, rfl, fun t1 _ =>
      je_int (⟨_, _, _, rfl, rfl, rfl, fun b2 =>
      ⟨_, _, rfl, jss_cons (js_set 3 hnd (je_bin op_modD (je_ix ix_D (fun _ _ => rfl) (je_bo 0 rfl (.inr ⟨_, _, rfl⟩) (je_int (⟨_, _, _, rfl, rfl, rfl, fun t3 _ =>
      je_bw 1 rfl (⟨_, _, _, rfl, rfl, rfl, fun t4 _ =>
      ⟨[.mp 0 (.lst v_0), .bw v_1, .un, .fr t4], rfl, rfl, rfl,
      jss_cons (js_setL 0 (je_bin op_fdivD (je_ix ix_D (fun _ _ => rfl) (je_bo 0 rfl (.inr ⟨_, _, rfl⟩) (je_int (⟨_, _, _, rfl, rfl, rfl, fun t5 _ =>
      je_bw 1 rfl (⟨_, _, _, rfl, rfl, rfl, fun t6 _ =>
      ⟨_, _, rfl, rfl, rfl, je_int (⟨_, _, _, _, fun r7 => [.mp 0 (.lst r7), .bw v_1, .un, .fr t4], rfl, rfl, rfl, rfl, rfl, fun _ => rfl, fun r7 =>
      jss_one (js_ret (je_fr 3 rfl (⟨_, rfl, rfl, (oa_c 0 rfl oa_n)⟩)))⟩)⟩⟩)⟩))))))⟩⟩)⟩)))))), jss_nil (jss_cons (js_setL 0 (je_bin op_addD (je_ix ix_D (fun _ _ => rfl) (je_bo 0 rfl (.inr ⟨_, _, rfl⟩) (je_int (⟨_, _, _, rfl, rfl, rfl, fun t8 _ =>
      je_int (⟨_, _, _, rfl, rfl, rfl, fun t9 _ =>
      ⟨_, _, rfl, rfl, rfl, je_int (⟨_, _, _, _, fun r10 => [.mp 0 (.lst r10), .bw v_1, .un, .un], rfl, rfl, rfl, rfl, rfl, fun _ => rfl, fun r10 =>
      jss_cons (js_set 2 hnd (je_bin op_modD (je_bin op_powD (je_bin op_addD (je_ix ix_D (fun _ _ => rfl) (je_bo 0 rfl (.inr ⟨_, _, rfl⟩) (je_int (⟨_, _, _, rfl, rfl, rfl, fun t11 _ =>
      je_bin op_mulD (je_int (je_ix ix_D (fun _ _ => rfl) (je_bo 0 rfl (.inr ⟨_, _, rfl⟩) (je_int (⟨_, _, _, rfl, rfl, rfl, fun t12 _ =>
      ⟨_, _, _, rfl, rfl, rfl, fun t13 _ =>
      ⟨_, _, _, rfl, rfl, rfl, fun t14 _ =>
      je_int (⟨_, _, _, rfl, rfl, rfl, fun t15 _ =>
      je_bin op_addD (je_bin op_powD (je_int (je_int (⟨_, _, _, rfl, rfl, rfl, fun t16 _ =>
      je_int (⟨_, _, _, rfl, rfl, rfl, fun t17 _ =>
      ⟨_, _, _, rfl, rfl, rfl, fun t18 _ =>
      ⟨[.mp 0 (.lst r10), .bw v_1, .fr t18, .un], rfl, rfl, rfl,
      jss_cons (js_set 2 hnd (je_bin op_modD (je_bin op_powD (je_bin op_addD (je_fr 2 rfl (je_bin op_mulD (je_int (je_ix ix_D (fun _ _ => rfl) (je_bo 0 rfl (.inr ⟨_, _, rfl⟩) (je_int (⟨_, _, _, rfl, rfl, rfl, fun t19 _ =>
      ⟨_, _, _, rfl, rfl, rfl, fun t20 _ =>
      ⟨_, _, _, rfl, rfl, rfl, fun t21 _ =>
      je_int (⟨_, _, _, rfl, rfl, rfl, fun t22 _ =>
      je_bin op_addD (je_bin op_powD (je_int (je_int (⟨_, _, _, rfl, rfl, rfl, fun t23 _ =>
      je_int (⟨_, _, _, rfl, rfl, rfl, fun t24 _ =>
      ⟨_, _, _, rfl, rfl, rfl, fun t25 _ =>
      ⟨[.mp 0 (.lst r10), .bw v_1, .fr t25, .un], rfl, rfl, rfl,
      jss_one (js_ret (je_bin op_modD (je_bin op_fdivD (je_fr 2 rfl (je_int (⟨_, _, _, rfl, rfl, rfl, fun t26 _ =>
      je_bw 1 rfl (⟨_, _, _, rfl, rfl, rfl, fun t27 _ =>
      ⟨_, rfl, rfl, (oa_c 0 rfl oa_n)⟩⟩)⟩))))))⟩⟩⟩)⟩))))⟩)⟩⟩⟩)))))))))))⟩⟩⟩)⟩))))⟩)⟩⟩⟩)))))⟩))))))))⟩)⟩⟩)⟩)))))))⟩⟩)⟩)))))))

def d_l_steps : List D → Res (D × List D)
  | [.lst v_0, v_1] =>
      (d_l_deal [(D.lst v_0), (D.int 3)]).bind fun a1 =>
      op (powD (D.int 10) (D.int 6)) fun t2 =>
      (d_l_deal [(D.lst a1.2), t2]).bind fun a3 =>
      (d_l_deal [(D.lst a3.2), (D.int 3)]).bind fun a4 =>
      op (ixD (D.lst [(D.int 0), a1.1, a3.1]) a4.1) fun t5 =>
      (d_l_deal [(D.lst a4.2), (D.int 3)]).bind fun a6 =>
      op (addD v_1 (D.int 1)) fun t8 =>
      (d_l_deal [(D.lst a6.2), t8]).bind fun a9 =>
      op (rngD [a9.1]) fun ds7 =>
      (forS ds7 ((a9.2, [(D.tup [(D.int 0), t5])]) : List D × List D) fun d12 s11 =>
      (d_l_deal [(D.lst s11.1), (D.int 4)]).bind fun a13 =>
      op (addD (D.int 1) a13.1) fun t14 =>
      op (powD (D.int 10) (D.int 27)) fun t15 =>
      (d_l_deal [(D.lst a13.2), t15]).bind fun a16 =>
      op (addD (D.int 1) a16.1) fun t17 =>
      (d_l_deal [(D.lst a16.2), (D.int 3)]).bind fun a18 =>
      op (ixD (D.lst [(D.int 1), t14, t17]) a18.1) fun t19 =>
      op (negD (D.int 1)) fun t20 =>
      op (ixD (D.lst s11.2) t20) fun t21 =>
      op (ixD t21 (D.int 1)) fun t22 =>
      op (addD t22 (D.int 1)) fun t23 =>
      (d_l_deal [(D.lst a18.2), (D.int 3)]).bind fun a24 =>
      op (addD t23 a24.1) fun t25 =>
      ((((op (gtD t22 (D.int 0)) fun b33 =>
      if b33 = true then ((d_l_deal [(D.lst a24.2), (D.int 2)]).bind fun a34 =>
      op (eqD a34.1 (D.int 0)) fun b35 =>
      .ok (b35, a34.2)) else (.ok (false, a24.2)) : Res (Bool × List D))).bind fun a32 =>
      if a32.1 = true then (((op (ltD a6.1 (D.int 2)) fun b37 =>
      if b37 = true then (op (subD t22 (D.int 1)) fun t38 =>
      .ok (t38, a32.2)) else ((d_l_deal [(D.lst a32.2), t22]).bind fun a39 =>
      .ok (a39.1, a39.2)) : Res (D × List D))).bind fun a36 =>
      .ok (a36.2, a36.1)) else (.ok (a32.2, t25)) : Res (List D × D))).bind fun s26 =>
      op (negD (D.int 1)) fun t27 =>
      op (ixD (D.lst s11.2) t27) fun t28 =>
      op (ixD t28 (D.int 0)) fun t29 =>
      op (addD t29 t19) fun t30 =>
      op (appL s11.2 [(D.tup [t30, s26.2])]) fun a31 =>
      .ok (s26.1, a31.2)).bind fun s40 =>
      .ok ((D.lst s40.2), s40.1)  | _ => .bad
abbrev n_l_steps : List Str := ["_law_tin_here", "_law_most", "_law_found", "_law_lean", "_law_k", "_law_far", "_law_ahead", "_law_many"]
theorem sc_l_steps : FnScope n_l_steps ["_law_tin_here", "_law_most"] (defScope (topS 33)) := ⟨rfl, rfl, rfl, by decide +kernel, rfl, by decide +kernel, by decide +kernel⟩
theorem ok_l_steps (h : Txt K mg) : Df P w K mg base 2 "_law_steps" [.m, .b] d_l_steps (fun a => a.1) (fun a => [.lst a.2]) false := by
  obtain ⟨fa, fd, F, B, M⟩ := h.f_l_steps
  refine ⟨fa, fd, _, fn_D (k := 1) F sc_l_steps rfl 1 (fun _ => rfl) rfl (fun X en cdv A outer s H E ds hX hr hn hL hp hl => ?_), M, F.kp, B⟩
  have hnd := (sc_l_steps).nd
  subst hX
  obtain ⟨v_0, v_1, rfl⟩ := len2 hl
  cases v_0 <;> try exact jss_never
  rename_i v_0
  unfold d_l_steps
  exact (jss_cons (js_set 2 hnd (je_lst (ja_cons (je_tup (ja_cons (je_int (ja_cons (je_ix ix_D (fun _ _ => rfl) (je_lst (ja_cons (je_int (ja_cons (je_call (ok_l_deal h) (hr.mono (by decide)) hL (ja_cons (je_bo 0 rfl (.inr ⟨_, _, rfl⟩) (ja_cons (je_int (ja_nil (⟨_, [0], _, fun a1 => [.mp 0 (.lst a1.2), .bw v_1, .un, .un, .un, .un, .un, .un], rfl, rfl, nd1, rfl, fun _ => rfl, fun a1 _ =>
      ja_cons (je_call (ok_l_deal h) (hr.mono (by decide)) hL (ja_cons (je_bo 0 rfl (.inr ⟨_, _, rfl⟩) (ja_cons (je_bin op_powD (je_int (je_int (⟨_, _, _, rfl, rfl, rfl, fun t2 _ =>
      ja_nil (⟨_, [0], _, fun a3 => [.mp 0 (.lst a3.2), .bw v_1, .un, .un, .un, .un, .un, .un], rfl, rfl, nd1, rfl, fun _ => rfl, fun a3 _ =>
      ja_nil (⟨_, rfl, rfl, je_call (ok_l_deal h) (hr.mono (by decide)) hL (ja_cons (je_bo 0 rfl (.inr ⟨_, _, rfl⟩) (ja_cons (je_int (ja_nil (⟨_, [0], _, fun a4 => [.mp 0 (.lst a4.2), .bw v_1, .un, .un, .un, .un, .un, .un], rfl, rfl, nd1, rfl, fun _ => rfl, fun a4 _ =>
      ⟨_, _, _, rfl, rfl, rfl, fun t5 _ =>
      ja_nil (⟨_, rfl, rfl, ja_nil (⟨_, rfl, rfl, ⟨[.mp 0 (.lst a4.2), .bw v_1, .mu (.lst [(D.tup [(D.int 0), t5])]), .un, .un, .un, .un, .un], rfl, rfl, rfl,
      jss_cons (js_set 3 hnd (je_call (ok_l_deal h) (hr.mono (by decide)) hL (ja_cons (je_bo 0 rfl (.inr ⟨_, _, rfl⟩) (ja_cons (je_int (ja_nil (⟨_, [0], _, fun a6 => [.mp 0 (.lst a6.2), .bw v_1, .mu (.lst [(D.tup [(D.int 0), t5])]), .un, .un, .un, .un, .un], rfl, rfl, nd1, rfl, fun _ => rfl, fun a6 _ =>
      ⟨[.mp 0 (.lst a6.2), .bw v_1, .mu (.lst [(D.tup [(D.int 0), t5])]), .fr a6.1, .un, .un, .un, .un], rfl, rfl, rfl,
      jss_cons (js_forS hp rfl (ji_range1 h.n_range (je_call (ok_l_deal h) (hr.mono (by decide)) hL (ja_cons (je_bo 0 rfl (.inr ⟨_, _, rfl⟩) (ja_cons (je_bin op_addD (je_bw 1 rfl (je_int (⟨_, _, _, rfl, rfl, rfl, fun t8 _ =>
      ja_nil (⟨_, [0], _, fun a9 => [.mp 0 (.lst a9.2), .bw v_1, .mu (.lst [(D.tup [(D.int 0), t5])]), .fr a6.1, .un, .un, .un, .un], rfl, rfl, nd1, rfl, fun _ => rfl, fun a9 _ =>
      ⟨_, _, rfl, rfl, fun ds7 =>
      ⟨_, _, _, (fun (s11 : List D × List D) => [.mp 0 (.lst s11.1), .bw v_1, .mu (.lst s11.2), .fr a6.1, .un, .un, .un, .un]), rfl, (le_s (le_s (le_s (le_s (le_s (le_s (le_s (le_s (le_n))))))))), fun _ he10 d12 s11 => ⟨[4], jg_name 4 [.mp 0 (.lst s11.1), .bw v_1, .mu (.lst s11.2), .fr a6.1, .fr d12, .un, .un, .un] hnd (jss_cons (js_set 5 hnd (je_ix ix_D (fun _ _ => rfl) (je_lst (ja_cons (je_int (ja_cons (je_bin op_addD (je_int (je_call (ok_l_deal h) (hr.mono (by decide)) (he10.lk hL) (ja_cons (je_bo 0 rfl (.inr ⟨_, _, rfl⟩) (ja_cons (je_int (ja_nil (⟨_, [0], _, fun a13 => [.mp 0 (.lst a13.2), .bw v_1, .mu (.lst s11.2), .fr a6.1, .fr d12, .un, .un, .un], rfl, rfl, nd1, rfl, fun _ => rfl, fun a13 _ =>
      ⟨_, _, _, rfl, rfl, rfl, fun t14 _ =>
      ja_cons (je_bin op_addD (je_int (je_call (ok_l_deal h) (hr.mono (by decide)) (he10.lk hL) (ja_cons (je_bo 0 rfl (.inr ⟨_, _, rfl⟩) (ja_cons (je_bin op_powD (je_int (je_int (⟨_, _, _, rfl, rfl, rfl, fun t15 _ =>
      ja_nil (⟨_, [0], _, fun a16 => [.mp 0 (.lst a16.2), .bw v_1, .mu (.lst s11.2), .fr a6.1, .fr d12, .un, .un, .un], rfl, rfl, nd1, rfl, fun _ => rfl, fun a16 _ =>
      ⟨_, _, _, rfl, rfl, rfl, fun t17 _ =>
      ja_nil (⟨_, rfl, rfl, je_call (ok_l_deal h) (hr.mono (by decide)) (he10.lk hL) (ja_cons (je_bo 0 rfl (.inr ⟨_, _, rfl⟩) (ja_cons (je_int (ja_nil (⟨_, [0], _, fun a18 => [.mp 0 (.lst a18.2), .bw v_1, .mu (.lst s11.2), .fr a6.1, .fr d12, .un, .un, .un], rfl, rfl, nd1, rfl, fun _ => rfl, fun a18 _ =>
      ⟨_, _, _, rfl, rfl, rfl, fun t19 _ =>
      ⟨[.mp 0 (.lst a18.2), .bw v_1, .mu (.lst s11.2), .fr a6.1, .fr d12, .fr t19, .un, .un], rfl, rfl, rfl,
      jss_cons (js_set 6 hnd (je_ix ix_D (fun _ _ => rfl) (je_ix ix_D (fun _ _ => rfl) (je_bo 2 rfl (.inl ⟨_, rfl⟩) (je_un un_negD (je_int (⟨_, _, rfl, rfl, fun t20 _ =>
      ⟨_, _, _, rfl, rfl, rfl, fun t21 _ =>
      je_int (⟨_, _, _, rfl, rfl, rfl, fun t22 _ =>
      ⟨[.mp 0 (.lst a18.2), .bw v_1, .mu (.lst s11.2), .fr a6.1, .fr d12, .fr t19, .fr t22, .un], rfl, rfl, rfl,
      jss_cons (js_set 7 hnd (je_bin op_addD (je_bin op_addD (je_fr 6 rfl (je_int (⟨_, _, _, rfl, rfl, rfl, fun t23 _ =>
      je_call (ok_l_deal h) (hr.mono (by decide)) (he10.lk hL) (ja_cons (je_bo 0 rfl (.inr ⟨_, _, rfl⟩) (ja_cons (je_int (ja_nil (⟨_, [0], _, fun a24 => [.mp 0 (.lst a24.2), .bw v_1, .mu (.lst s11.2), .fr a6.1, .fr d12, .fr t19, .fr t22, .un], rfl, rfl, nd1, rfl, fun _ => rfl, fun a24 _ =>
      ⟨_, _, _, rfl, rfl, rfl, fun t25 _ =>
      ⟨[.mp 0 (.lst a24.2), .bw v_1, .mu (.lst s11.2), .fr a6.1, .fr d12, .fr t19, .fr t22, .fr t25], rfl, rfl, rfl,
      jss_cons (js_joinS (fun (s26 : List D × D) => [.mp 0 (.lst s26.1), .bw v_1, .mu (.lst s11.2), .fr a6.1, .fr d12, .fr t19, .fr t22, .fr s26.2]) (js_if (jt_join (fun (a32 : Bool × List D) => a32.1) (fun a32 => [.mp 0 (.lst a32.2), .bw v_1, .mu (.lst s11.2), .fr a6.1, .fr d12, .fr t19, .fr t22, .fr t25]) (jt_w (jw_and (jt_cmp cmp_gtD rfl (je_fr 6 rfl (je_int (⟨_, _, _, rfl, rfl, rfl, fun b33 =>
      ⟨_, _, rfl, jw_and1 (jt_cmp (cmp_eqD hr.hu) rfl (je_call (ok_l_deal h) (hr.mono (by decide)) (he10.lk hL) (ja_cons (je_bo 0 rfl (.inr ⟨_, _, rfl⟩) (ja_cons (je_int (ja_nil (⟨_, [0], _, fun a34 => [.mp 0 (.lst a34.2), .bw v_1, .mu (.lst s11.2), .fr a6.1, .fr d12, .fr t19, .fr t22, .fr t25], rfl, rfl, nd1, rfl, fun _ => rfl, fun a34 _ =>
      je_int (⟨_, _, _, rfl, rfl, rfl, fun b35 =>
      ⟨_, rfl, rfl, rfl⟩⟩)⟩)))))))), ⟨_, rfl, rfl, rfl⟩⟩⟩)))))) (fun a32 =>
      ⟨_, _, rfl, jss_one (js_set 7 hnd (je_join (fun (a36 : D × List D) => .fr a36.1) (fun a36 => [.mp 0 (.lst a36.2), .bw v_1, .mu (.lst s11.2), .fr a6.1, .fr d12, .fr t19, .fr t22, .fr t25]) (je_if (jt_cmp cmp_ltD rfl (je_fr 3 rfl (je_int (⟨_, _, _, rfl, rfl, rfl, fun b37 =>
      ⟨_, _, rfl, je_bin op_subD (je_fr 6 rfl (je_int (⟨_, _, _, rfl, rfl, rfl, fun t38 _ =>
      ⟨_, rfl, rfl, rfl⟩⟩))), je_call (ok_l_deal h) (hr.mono (by decide)) (he10.lk hL) (ja_cons (je_bo 0 rfl (.inr ⟨_, _, rfl⟩) (ja_cons (je_fr 6 rfl (ja_nil (⟨_, [0], _, fun a39 => [.mp 0 (.lst a39.2), .bw v_1, .mu (.lst s11.2), .fr a6.1, .fr d12, .fr t19, .fr t22, .fr t25], rfl, rfl, nd1, rfl, fun _ => rfl, fun a39 _ =>
      ⟨_, rfl, rfl, rfl⟩⟩))))))⟩⟩))))) (fun a36 =>
      ⟨[.mp 0 (.lst a36.2), .bw v_1, .mu (.lst s11.2), .fr a6.1, .fr d12, .fr t19, .fr t22, .fr a36.1], rfl, rfl, rfl,
      ⟨_, rfl, (le_s (le_s (le_s (le_s (le_s (le_s (le_s (le_s (le_n)))))))))⟩⟩))), jss_nil (⟨_, rfl, (le_s (le_s (le_s (le_s (le_s (le_s (le_s (le_s (le_n)))))))))⟩)⟩))) (fun s26 =>
      jss_one (js_expr (je_mutL 2 g_app PySem.F.slot_list_append PySem.F.type_list_append m_append rfl rfl rfl (ja_cons (je_tup (ja_cons (je_bin op_addD (je_ix ix_D (fun _ _ => rfl) (je_ix ix_D (fun _ _ => rfl) (je_bo 2 rfl (.inl ⟨_, rfl⟩) (je_un un_negD (je_int (⟨_, _, rfl, rfl, fun t27 _ =>
      ⟨_, _, _, rfl, rfl, rfl, fun t28 _ =>
      je_int (⟨_, _, _, rfl, rfl, rfl, fun t29 _ =>
      je_fr 5 rfl (⟨_, _, _, rfl, rfl, rfl, fun t30 _ =>
      ja_cons (je_fr 7 rfl (ja_nil (⟨_, rfl, rfl, ja_nil (⟨_, _, _, _, fun a31 => [.mp 0 (.lst s26.1), .bw v_1, .mu (.lst a31.2), .fr a6.1, .fr d12, .fr t19, .fr t22, .fr s26.2], rfl, rfl, rfl, rfl, rfl, fun _ => rfl, fun a31 =>
      ⟨_, rfl, (le_s (le_s (le_s (le_s (le_u (le_u (le_u (le_u (le_n)))))))))⟩⟩)⟩)))⟩)⟩)⟩⟩))))))))))))))⟩⟩⟩))))))⟩))))))⟩⟩)⟩⟩)))))))⟩⟩⟩))))))⟩)⟩⟩)⟩))))))))))⟩⟩))))))))))))))))⟩, fun s40 =>
      jss_one (js_ret (je_fzv' 2 [.mp 0 (.lst s40.1), .bw v_1, .fr (D.lst s40.2), .fr a6.1, .un, .un, .un, .un] rfl rfl (⟨_, rfl, rfl, (oa_c 0 rfl oa_n)⟩)))⟩⟩⟩)⟩))))))))))⟩⟩))))))))⟩⟩)⟩)⟩⟩))))))⟩)⟩)⟩))))))))⟩))))))))))))))))))))

def d_l_spans : List D → Res (D × List D)
  | [.lst v_0] =>
      (d_l_deal [(D.lst v_0), (D.int 3)]).bind fun a1 =>
      (d_l_deal [(D.lst a1.2), (D.int 7)]).bind fun a3 =>
      op (rngD [a3.1]) fun ds2 =>
      (forS ds2 ((a3.2, ([] : List D), a1.1) : List D × List D × D) fun d6 s5 =>
      (d_l_deal [(D.lst s5.1), (D.int 5)]).bind fun a7 =>
      op (powD (D.int 10) (D.int 28)) fun t8 =>
      (d_l_deal [(D.lst a7.2), t8]).bind fun a9 =>
      (d_l_deal [(D.lst a9.2), (D.int 3)]).bind fun a10 =>
      op (ixD (D.lst [(D.int 0), a7.1, a9.1]) a10.1) fun t11 =>
      op (addD s5.2.2 t11) fun t12 =>
      op (appL s5.2.1 [(D.tup [s5.2.2, t12])]) fun a13 =>
      op (addD s5.2.2 t11) fun t14 =>
      op (addD t14 (D.int 2)) fun t15 =>
      (d_l_deal [(D.lst a10.2), (D.int 4)]).bind fun a16 =>
      op (addD t15 a16.1) fun t17 =>
      .ok (a16.2, a13.2, t17)).bind fun s18 =>
      ((((op (neD (D.lst s18.2.1) (D.lst ([] : List D))) fun b21 =>
      if b21 = true then ((d_l_deal [(D.lst s18.1), (D.int 3)]).bind fun a22 =>
      op (eqD a22.1 (D.int 0)) fun b23 =>
      .ok (b23, a22.2)) else (.ok (false, s18.1)) : Res (Bool × List D))).bind fun a20 =>
      if a20.1 = true then (op (negD (D.int 1)) fun t24 =>
      op (ixD (D.lst s18.2.1) t24) fun t25 =>
      op (ixD t25 (D.int 0)) fun t26 =>
      op (negD (D.int 1)) fun t27 =>
      op (setL s18.2.1 t27 (D.tup [t26, D.non])) fun r28 =>
      .ok (a20.2, r28)) else (.ok (a20.2, s18.2.1)) : Res (List D × List D))).bind fun s19 =>
      .ok ((D.lst s19.2), s19.1)  | _ => .bad
abbrev n_l_spans : List Str := ["_law_tin_here", "_law_found", "_law_here", "_law_k", "_law_long"]
theorem sc_l_spans : FnScope n_l_spans ["_law_tin_here"] (defScope (topS 34)) := ⟨rfl, rfl, rfl, by decide +kernel, rfl, by decide +kernel, by decide +kernel⟩
theorem ok_l_spans (h : Txt K mg) : Df P w K mg base 2 "_law_spans" [.m] d_l_spans (fun a => a.1) (fun a => [.lst a.2]) false := by
  obtain ⟨fa, fd, F, B, M⟩ := h.f_l_spans
  refine ⟨fa, fd, _, fn_D (k := 1) F sc_l_spans rfl 1 (fun _ => rfl) rfl (fun X en cdv A outer s H E ds hX hr hn hL hp hl => ?_), M, F.kp, B⟩
  have hnd := (sc_l_spans).nd
  subst hX
  obtain ⟨v_0, rfl⟩ := len1 hl
  cases v_0 <;> try exact jss_never
  rename_i v_0
  unfold d_l_spans
  exact (jss_cons (js_set 1 hnd (je_lst (ja_nil (⟨_, rfl, rfl, ⟨[.mp 0 (.lst v_0), .mu (.lst ([] : List D)), .un, .un, .un], rfl, rfl, rfl,
      jss_cons (js_set 2 hnd (je_call (ok_l_deal h) (hr.mono (by decide)) hL (ja_cons (je_bo 0 rfl (.inr ⟨_, _, rfl⟩) (ja_cons (je_int (ja_nil (⟨_, [0], _, fun a1 => [.mp 0 (.lst a1.2), .mu (.lst ([] : List D)), .un, .un, .un], rfl, rfl, nd1, rfl, fun _ => rfl, fun a1 _ =>
      ⟨[.mp 0 (.lst a1.2), .mu (.lst ([] : List D)), .fr a1.1, .un, .un], rfl, rfl, rfl,
      jss_cons (js_forS hp rfl (ji_range1 h.n_range (je_call (ok_l_deal h) (hr.mono (by decide)) hL (ja_cons (je_bo 0 rfl (.inr ⟨_, _, rfl⟩) (ja_cons (je_int (ja_nil (⟨_, [0], _, fun a3 => [.mp 0 (.lst a3.2), .mu (.lst ([] : List D)), .fr a1.1, .un, .un], rfl, rfl, nd1, rfl, fun _ => rfl, fun a3 _ =>
      ⟨_, _, rfl, rfl, fun ds2 =>
      ⟨_, _, _, (fun (s5 : List D × List D × D) => [.mp 0 (.lst s5.1), .mu (.lst s5.2.1), .fr s5.2.2, .un, .un]), rfl, (le_s (le_s (le_s (le_s (le_s (le_n)))))), fun _ he4 d6 s5 => ⟨[3], jg_name 3 [.mp 0 (.lst s5.1), .mu (.lst s5.2.1), .fr s5.2.2, .fr d6, .un] hnd (jss_cons (js_set 4 hnd (je_ix ix_D (fun _ _ => rfl) (je_lst (ja_cons (je_int (ja_cons (je_call (ok_l_deal h) (hr.mono (by decide)) (he4.lk hL) (ja_cons (je_bo 0 rfl (.inr ⟨_, _, rfl⟩) (ja_cons (je_int (ja_nil (⟨_, [0], _, fun a7 => [.mp 0 (.lst a7.2), .mu (.lst s5.2.1), .fr s5.2.2, .fr d6, .un], rfl, rfl, nd1, rfl, fun _ => rfl, fun a7 _ =>
      ja_cons (je_call (ok_l_deal h) (hr.mono (by decide)) (he4.lk hL) (ja_cons (je_bo 0 rfl (.inr ⟨_, _, rfl⟩) (ja_cons (je_bin op_powD (je_int (je_int (⟨_, _, _, rfl, rfl, rfl, fun t8 _ =>
      ja_nil (⟨_, [0], _, fun a9 => [.mp 0 (.lst a9.2), .mu (.lst s5.2.1), .fr s5.2.2, .fr d6, .un], rfl, rfl, nd1, rfl, fun _ => rfl, fun a9 _ =>
      ja_nil (⟨_, rfl, rfl, je_call (ok_l_deal h) (hr.mono (by decide)) (he4.lk hL) (ja_cons (je_bo 0 rfl (.inr ⟨_, _, rfl⟩) (ja_cons (je_int (ja_nil (⟨_, [0], _, fun a10 => [.mp 0 (.lst a10.2), .mu (.lst s5.2.1), .fr s5.2.2, .fr d6, .un], rfl, rfl, nd1, rfl, fun _ => rfl, fun a10 _ =>
      ⟨_, _, _, rfl, rfl, rfl, fun t11 _ =>
      ⟨[.mp 0 (.lst a10.2), .mu (.lst s5.2.1), .fr s5.2.2, .fr d6, .fr t11], rfl, rfl, rfl,
      jss_cons (js_expr (je_mutL 1 g_app PySem.F.slot_list_append PySem.F.type_list_append m_append rfl rfl rfl (ja_cons (je_tup (ja_cons (je_fr 2 rfl (ja_cons (je_bin op_addD (je_fr 2 rfl (je_fr 4 rfl (⟨_, _, _, rfl, rfl, rfl, fun t12 _ =>
      ja_nil (⟨_, rfl, rfl, ja_nil (⟨_, _, _, _, fun a13 => [.mp 0 (.lst a10.2), .mu (.lst a13.2), .fr s5.2.2, .fr d6, .fr t11], rfl, rfl, rfl, rfl, rfl, fun _ => rfl, fun a13 =>
      jss_one (js_set 2 hnd (je_bin op_addD (je_bin op_addD (je_bin op_addD (je_fr 2 rfl (je_fr 4 rfl (⟨_, _, _, rfl, rfl, rfl, fun t14 _ =>
      je_int (⟨_, _, _, rfl, rfl, rfl, fun t15 _ =>
      je_call (ok_l_deal h) (hr.mono (by decide)) (he4.lk hL) (ja_cons (je_bo 0 rfl (.inr ⟨_, _, rfl⟩) (ja_cons (je_int (ja_nil (⟨_, [0], _, fun a16 => [.mp 0 (.lst a16.2), .mu (.lst a13.2), .fr s5.2.2, .fr d6, .fr t11], rfl, rfl, nd1, rfl, fun _ => rfl, fun a16 _ =>
      ⟨_, _, _, rfl, rfl, rfl, fun t17 _ =>
      ⟨[.mp 0 (.lst a16.2), .mu (.lst a13.2), .fr t17, .fr d6, .fr t11], rfl, rfl, rfl,
      ⟨_, rfl, (le_s (le_s (le_s (le_u (le_u (le_n))))))⟩⟩⟩⟩))))))⟩)⟩)))))))⟩)⟩)⟩)))))))))))⟩⟩⟩))))))⟩)⟩)⟩))))))))⟩))))))))))))))⟩, fun s18 =>
      jss_cons (js_joinS (fun (s19 : List D × List D) => [.mp 0 (.lst s19.1), .mu (.lst s19.2), .fr s18.2.2, .un, .un]) (js_if (jt_join (fun (a20 : Bool × List D) => a20.1) (fun a20 => [.mp 0 (.lst a20.2), .mu (.lst s18.2.1), .fr s18.2.2, .un, .un]) (jt_w (jw_and (jt_cmp (cmp_neD hr.hu) rfl (je_bo 1 rfl (.inl ⟨_, rfl⟩) (je_lst (ja_nil (⟨_, rfl, rfl, ⟨_, _, _, rfl, rfl, rfl, fun b21 =>
      ⟨_, _, rfl, jw_and1 (jt_cmp (cmp_eqD hr.hu) rfl (je_call (ok_l_deal h) (hr.mono (by decide)) hL (ja_cons (je_bo 0 rfl (.inr ⟨_, _, rfl⟩) (ja_cons (je_int (ja_nil (⟨_, [0], _, fun a22 => [.mp 0 (.lst a22.2), .mu (.lst s18.2.1), .fr s18.2.2, .un, .un], rfl, rfl, nd1, rfl, fun _ => rfl, fun a22 _ =>
      je_int (⟨_, _, _, rfl, rfl, rfl, fun b23 =>
      ⟨_, rfl, rfl, rfl⟩⟩)⟩)))))))), ⟨_, rfl, rfl, rfl⟩⟩⟩⟩))))))) (fun a20 =>
      ⟨_, _, rfl, jss_one (js_setL 1 (je_tup (ja_cons (je_ix ix_D (fun _ _ => rfl) (je_ix ix_D (fun _ _ => rfl) (je_bo 1 rfl (.inl ⟨_, rfl⟩) (je_un un_negD (je_int (⟨_, _, rfl, rfl, fun t24 _ =>
      ⟨_, _, _, rfl, rfl, rfl, fun t25 _ =>
      je_int (⟨_, _, _, rfl, rfl, rfl, fun t26 _ =>
      ja_cons (je_non (ja_nil (⟨_, rfl, rfl, ⟨_, _, rfl, rfl, rfl, je_un un_negD (je_int (⟨_, _, rfl, rfl, fun t27 _ =>
      ⟨_, _, _, _, fun r28 => [.mp 0 (.lst a20.2), .mu (.lst r28), .fr s18.2.2, .un, .un], rfl, rfl, rfl, rfl, rfl, fun _ => rfl, fun r28 =>
      ⟨_, rfl, (le_s (le_s (le_s (le_s (le_s (le_n))))))⟩⟩⟩))⟩⟩)))⟩)⟩⟩))))))))), jss_nil (⟨_, rfl, (le_s (le_s (le_s (le_s (le_s (le_n))))))⟩)⟩))) (fun s19 =>
      jss_one (js_ret (je_fzv' 1 [.mp 0 (.lst s19.1), .fr (D.lst s19.2), .fr s18.2.2, .un, .un] rfl rfl (⟨_, rfl, rfl, (oa_c 0 rfl oa_n)⟩)))))⟩⟩⟩)))))))))⟩⟩))))))))⟩⟩)))))

def d_l_books : List D → Res (D × List D)
  | [.lst v_0] =>
      (d_l_deal [(D.lst v_0), (D.int 2)]).bind fun a1 =>
      (d_l_deal [(D.lst a1.2), (D.int 9)]).bind fun a3 =>
      op (rngD [a3.1]) fun ds2 =>
      (forS ds2 ((a3.2, ([] : List D), a1.1) : List D × List D × D) fun d6 s5 =>
      (d_l_deal [(D.lst s5.1), (D.int 4)]).bind fun a7 =>
      op (gtD s5.2.2 (D.int 0)) fun b8 =>
      op (intD [(D.bl b8)]) fun t9 =>
      op (geD a7.1 t9) fun b10 =>
      op (intD [(D.bl b10)]) fun t11 =>
      op (addD a7.1 t11) fun t12 =>
      op (appL s5.2.1 [(D.tup [s5.2.2, t12])]) fun a13 =>
      op (addD s5.2.2 (D.int 1)) fun t14 =>
      op (powD (D.int 10) (D.int 28)) fun t15 =>
      (d_l_deal [(D.lst a7.2), (D.int 2)]).bind fun a16 =>
      op (ixD (D.lst [(D.int 2), t15]) a16.1) fun t17 =>
      (d_l_deal [(D.lst a16.2), t17]).bind fun a18 =>
      op (addD t14 a18.1) fun t19 =>
      .ok (a18.2, a13.2, t19)).bind fun s20 =>
      .ok ((D.lst s20.2.1), s20.1)  | _ => .bad
abbrev n_l_books : List Str := ["_law_tin_here", "_law_found", "_law_here", "_law_k", "_law_copies"]
theorem sc_l_books : FnScope n_l_books ["_law_tin_here"] (defScope (topS 35)) := ⟨rfl, rfl, rfl, by decide +kernel, rfl, by decide +kernel, by decide +kernel⟩
theorem ok_l_books (h : Txt K mg) : Df P w K mg base 2 "_law_books" [.m] d_l_books (fun a => a.1) (fun a => [.lst a.2]) false := by
  obtain ⟨fa, fd, F, B, M⟩ := h.f_l_books
  refine ⟨fa, fd, _, fn_D (k := 1) F sc_l_books rfl 1 (fun _ => rfl) rfl (fun X en cdv A outer s H E ds hX hr hn hL hp hl => ?_), M, F.kp, B⟩
  have hnd := (sc_l_books).nd
  subst hX
  obtain ⟨v_0, rfl⟩ := len1 hl
  cases v_0 <;> try exact jss_never
  rename_i v_0
  unfold d_l_books
  exact (jss_cons (js_set 1 hnd (je_lst (ja_nil (⟨_, rfl, rfl, ⟨[.mp 0 (.lst v_0), .mu (.lst ([] : List D)), .un, .un, .un], rfl, rfl, rfl,
      jss_cons (js_set 2 hnd (je_call (ok_l_deal h) (hr.mono (by decide)) hL (ja_cons (je_bo 0 rfl (.inr ⟨_, _, rfl⟩) (ja_cons (je_int (ja_nil (⟨_, [0], _, fun a1 => [.mp 0 (.lst a1.2), .mu (.lst ([] : List D)), .un, .un, .un], rfl, rfl, nd1, rfl, fun _ => rfl, fun a1 _ =>
      ⟨[.mp 0 (.lst a1.2), .mu (.lst ([] : List D)), .fr a1.1, .un, .un], rfl, rfl, rfl,
      jss_cons (js_forS hp rfl (ji_range1 h.n_range (je_call (ok_l_deal h) (hr.mono (by decide)) hL (ja_cons (je_bo 0 rfl (.inr ⟨_, _, rfl⟩) (ja_cons (je_int (ja_nil (⟨_, [0], _, fun a3 => [.mp 0 (.lst a3.2), .mu (.lst ([] : List D)), .fr a1.1, .un, .un], rfl, rfl, nd1, rfl, fun _ => rfl, fun a3 _ =>
      ⟨_, _, rfl, rfl, fun ds2 =>
      ⟨_, _, _, (fun (s5 : List D × List D × D) => [.mp 0 (.lst s5.1), .mu (.lst s5.2.1), .fr s5.2.2, .un, .un]), rfl, (le_s (le_s (le_s (le_s (le_s (le_n)))))), fun _ he4 d6 s5 => ⟨[3], jg_name 3 [.mp 0 (.lst s5.1), .mu (.lst s5.2.1), .fr s5.2.2, .fr d6, .un] hnd (jss_cons (js_set 4 hnd (je_call (ok_l_deal h) (hr.mono (by decide)) (he4.lk hL) (ja_cons (je_bo 0 rfl (.inr ⟨_, _, rfl⟩) (ja_cons (je_int (ja_nil (⟨_, [0], _, fun a7 => [.mp 0 (.lst a7.2), .mu (.lst s5.2.1), .fr s5.2.2, .fr d6, .un], rfl, rfl, nd1, rfl, fun _ => rfl, fun a7 _ =>
      ⟨[.mp 0 (.lst a7.2), .mu (.lst s5.2.1), .fr s5.2.2, .fr d6, .fr a7.1], rfl, rfl, rfl,
      jss_cons (js_expr (je_mutL 1 g_app PySem.F.slot_list_append PySem.F.type_list_append m_append rfl rfl rfl (ja_cons (je_tup (ja_cons (je_fr 2 rfl (ja_cons (je_bin op_addD (je_fr 4 rfl (je_callTy c_int h.n_int (ja_cons (je_cmpB cmp_geD rfl (je_fr 4 rfl (je_callTy c_int h.n_int (ja_cons (je_cmpB cmp_gtD rfl (je_fr 2 rfl (je_int (⟨_, _, _, rfl, rfl, rfl, fun b8 =>
      ja_nil (⟨_, _, rfl, rfl, fun t9 _ =>
      ⟨_, _, _, rfl, rfl, rfl, fun b10 =>
      ja_nil (⟨_, _, rfl, rfl, fun t11 _ =>
      ⟨_, _, _, rfl, rfl, rfl, fun t12 _ =>
      ja_nil (⟨_, rfl, rfl, ja_nil (⟨_, _, _, _, fun a13 => [.mp 0 (.lst a7.2), .mu (.lst a13.2), .fr s5.2.2, .fr d6, .fr a7.1], rfl, rfl, rfl, rfl, rfl, fun _ => rfl, fun a13 =>
      jss_one (js_set 2 hnd (je_bin op_addD (je_bin op_addD (je_fr 2 rfl (je_int (⟨_, _, _, rfl, rfl, rfl, fun t14 _ =>
      je_call (ok_l_deal h) (hr.mono (by decide)) (he4.lk hL) (ja_cons (je_bo 0 rfl (.inr ⟨_, _, rfl⟩) (ja_cons (je_ix ix_D (fun _ _ => rfl) (je_lst (ja_cons (je_int (ja_cons (je_bin op_powD (je_int (je_int (⟨_, _, _, rfl, rfl, rfl, fun t15 _ =>
      ja_nil (⟨_, rfl, rfl, je_call (ok_l_deal h) (hr.mono (by decide)) (he4.lk hL) (ja_cons (je_bo 0 rfl (.inr ⟨_, _, rfl⟩) (ja_cons (je_int (ja_nil (⟨_, [0], _, fun a16 => [.mp 0 (.lst a16.2), .mu (.lst a13.2), .fr s5.2.2, .fr d6, .fr a7.1], rfl, rfl, nd1, rfl, fun _ => rfl, fun a16 _ =>
      ⟨_, _, _, rfl, rfl, rfl, fun t17 _ =>
      ja_nil (⟨_, [0], _, fun a18 => [.mp 0 (.lst a18.2), .mu (.lst a13.2), .fr s5.2.2, .fr d6, .fr a7.1], rfl, rfl, nd1, rfl, fun _ => rfl, fun a18 _ =>
      ⟨_, _, _, rfl, rfl, rfl, fun t19 _ =>
      ⟨[.mp 0 (.lst a18.2), .mu (.lst a13.2), .fr t19, .fr d6, .fr a7.1], rfl, rfl, rfl,
      ⟨_, rfl, (le_s (le_s (le_s (le_u (le_u (le_n))))))⟩⟩⟩⟩)⟩⟩))))))⟩)⟩))))))))))))⟩))))))⟩)⟩)⟩⟩)⟩⟩)⟩)))))))))))))))))))⟩⟩)))))))))⟩, fun s20 =>
      jss_one (js_ret (je_fzv' 1 [.mp 0 (.lst s20.1), .fr (D.lst s20.2.1), .fr s20.2.2, .un, .un] rfl rfl (⟨_, rfl, rfl, (oa_c 0 rfl oa_n)⟩)))⟩⟩⟩)))))))))⟩⟩))))))))⟩⟩)))))

def d_l_pairs : List D → Res (D)
  | [v_0, v_1] =>
      op (asL v_0) fun ds1 =>
      (forS ds1 (([] : List D) : List D) fun d4 s3 =>
      op (un2 d4) fun p5 =>
      op (strI [p5.1]) fun t6 =>
      op (addD t6 v_1) fun t7 =>
      ((op (isND p5.2 D.non) fun b9 =>
      if b9 = true then (.ok (D.str "")) else (op (strI [p5.2]) fun t10 =>
      .ok t10) : Res (D))).bind fun a8 =>
      op (addD t7 a8) fun t11 =>
      op (appL s3 [t11]) fun a12 =>
      .ok a12.2).bind fun s13 =>
      op (tyG "str" (D.str " ")) fun _ =>
      op (joiD [(D.str " "), (D.lst s13)]) fun t14 =>
      .ok t14  | _ => .bad
abbrev n_l_pairs : List Str := ["_law_rows", "_law_mark", "_law_found", "_law_one", "_law_other"]
theorem sc_l_pairs : FnScope n_l_pairs ["_law_rows", "_law_mark"] (defScope (topS 36)) := ⟨rfl, rfl, rfl, by decide +kernel, rfl, by decide +kernel, by decide +kernel⟩
theorem ok_l_pairs (h : Txt K mg) : Df P w K mg base 1 "_law_pairs" [.b, .b] d_l_pairs (fun a => a) (fun a => []) false := by
  obtain ⟨fa, fd, F, B, M⟩ := h.f_l_pairs
  refine ⟨fa, fd, _, fn_D (k := 0) F sc_l_pairs rfl 0 (fun _ => rfl) rfl (fun X en cdv A outer s H E ds hX hr hn hL hp hl => ?_), M, F.kp, B⟩
  have hnd := (sc_l_pairs).nd
  subst hX
  obtain ⟨v_0, v_1, rfl⟩ := len2 hl
  unfold d_l_pairs
  exact (jss_cons (js_set 2 hnd (je_lst (ja_nil (⟨_, rfl, rfl, ⟨[.bw v_0, .bw v_1, .mu (.lst ([] : List D)), .un, .un], rfl, rfl, rfl,
      jss_cons (js_forS hp rfl (ji_any (je_bw 0 rfl (⟨_, _, rfl, rfl, fun ds1 =>
      ⟨_, _, _, (fun (s3 : List D) => [.bw v_0, .bw v_1, .mu (.lst s3), .un, .un]), rfl, (le_s (le_s (le_s (le_s (le_s (le_n)))))), fun _ he2 d4 s3 => ⟨[3, 4], jg_tup2 rfl ⟨_, rfl, fun p5 =>
      jgs_name 3 [.bw v_0, .bw v_1, .mu (.lst s3), .fr p5.1, .un] hnd (jgs_name 4 [.bw v_0, .bw v_1, .mu (.lst s3), .fr p5.1, .fr p5.2] hnd (jgs_nil (jss_one (js_expr (je_mutL 2 g_app PySem.F.slot_list_append PySem.F.type_list_append m_append rfl rfl rfl (ja_cons (je_bin op_addD (je_bin op_addD (je_callTy c_strI h.n_str (ja_cons (je_fr 3 rfl (ja_nil (⟨_, _, rfl, rfl, fun t6 _ =>
      je_bw 1 rfl (⟨_, _, _, rfl, rfl, rfl, fun t7 _ =>
      je_join (fun (a8 : D) => .fr a8) (fun a8 => [.bw v_0, .bw v_1, .mu (.lst s3), .fr p5.1, .fr p5.2]) (je_if (jt_cmp cmp_isN rfl (je_fr 4 rfl (je_non (⟨_, _, _, rfl, rfl, rfl, fun b9 =>
      ⟨_, _, rfl, je_str (⟨_, rfl, rfl, rfl⟩), je_callTy c_strI h.n_str (ja_cons (je_fr 4 rfl (ja_nil (⟨_, _, rfl, rfl, fun t10 _ =>
      ⟨_, rfl, rfl, rfl⟩⟩))))⟩⟩))))) (fun a8 =>
      ⟨_, _, _, rfl, rfl, rfl, fun t11 _ =>
      ja_nil (⟨_, _, _, _, fun a12 => [.bw v_0, .bw v_1, .mu (.lst a12.2), .fr p5.1, .fr p5.2], rfl, rfl, rfl, rfl, rfl, fun _ => rfl, fun a12 =>
      ⟨_, rfl, (le_s (le_s (le_s (le_u (le_u (le_n))))))⟩⟩)⟩)⟩)⟩)))))))))))))⟩⟩, fun s13 =>
      jss_one (js_ret (je_met PySem.F.plainAttrs_str PySem.F.slot_str_join PySem.F.type_str_join c_joi (je_str (⟨_, _, rfl, rfl, ja_cons (je_bo 2 rfl (.inl ⟨_, rfl⟩) (ja_nil (⟨_, _, _, rfl, rfl, rfl, fun t14 _ =>
      ⟨_, rfl, rfl, oa_n⟩⟩)))⟩))))⟩⟩))))⟩⟩)))))

def g1_l_right (v_a v_b : List D) (v_1 v_2 : D) : Res Bool :=
      ((op (ixD (D.lst [D.lst v_a, D.lst v_b]) (D.int 0)) fun t2 =>
      if (!(isLst t2)) = true then (.ok true) else (op (ixD (D.lst [D.lst v_a, D.lst v_b]) (D.int 0)) fun t3 =>
      op (neD t3 v_1) fun b4 =>
      if b4 = true then (.ok true) else (op (ixD v_2 (D.int 0)) fun t5 =>
      op (ixD v_2 (D.int 1)) fun t6 =>
      op (neD t5 t6) fun b7 =>
      .ok b7)) : Res (Bool))).bind fun a1 =>
      .ok a1
def g2_l_right (v_a v_b : List D) (v_1 v_2 : D) : Res Bool :=
      op (ixD (D.lst [D.lst v_a, D.lst v_b]) (D.int 1)) fun t8 =>
      op (eqD t8 v_1) fun b9 =>
      .ok b9
abbrev n_l_right : List Str := ["_law_told", "_law_due", "_law_texts_told"]
theorem sc_l_right : FnScope n_l_right ["_law_told", "_law_due", "_law_texts_told"] (defScope (topS 37)) := ⟨rfl, rfl, rfl, by decide +kernel, rfl, by decide +kernel, by decide +kernel⟩
theorem ok_l_right (h : Txt K mg) : ∃ (f : Addr) (fd : FuncData) (psn : List Str), FnG P w K mg base 1 f fd psn (SpT K (denT g1_l_right g2_l_right (D.tup [(D.int 7), (D.int 7)]))) ∧ mg "_law_right" = some (.ref f) ∧ PySem.W.keepIn K (.ref f) = true ∧ Binds K fd psn [] := by
  obtain ⟨fa, fd, F, B, M⟩ := h.f_l_right
  refine ⟨fa, fd, _, fn_T (k := 0) F sc_l_right rfl rfl rfl rfl (by decide) (by decide) g1_l_right g2_l_right (D.tup [(D.int 7), (D.int 7)]) (fun X cdv A outer s H E hX hr => ?_), M, F.kp, B⟩
  subst hX
  refine ⟨by first | exact Or.inl rfl | exact Or.inr (Or.inl rfl) | exact Or.inr (Or.inr rfl), rfl, rfl, rfl, rfl, by exact star_plain rfl, rfl, fun _ _ => rfl, fun en v_a v_b v_1 v_2 => ?_, fun en => ?_, fun en v_a v_b v_1 v_2 => ?_⟩
  · unfold g1_l_right
    exact (jt_join (fun (a1 : Bool) => a1) (fun a1 => [.fr (D.lst [D.lst v_a, D.lst v_b]), .fr v_1, .fr v_2]) (jt_w (jw_or (jt_not (jt_bl (je_isi kit_lst h.n_isinstance h.n_list (je_ix ix_D (fun _ _ => rfl) (je_fr 0 rfl (je_int (⟨_, _, _, rfl, rfl, rfl, fun t2 _ =>
      ⟨_, rfl, ⟨_, rfl, ⟨_, _, rfl, ⟨_, rfl, rfl, rfl⟩, jw_or (jt_cmp (cmp_neD hr.hu) rfl (je_ix ix_D (fun _ _ => rfl) (je_fr 0 rfl (je_int (⟨_, _, _, rfl, rfl, rfl, fun t3 _ =>
      je_fr 1 rfl (⟨_, _, _, rfl, rfl, rfl, fun b4 =>
      ⟨_, _, rfl, ⟨_, rfl, rfl, rfl⟩, jw_or1 (jt_cmp (cmp_neD hr.hu) rfl (je_ix ix_D (fun _ _ => rfl) (je_fr 2 rfl (je_int (⟨_, _, _, rfl, rfl, rfl, fun t5 _ =>
      je_ix ix_D (fun _ _ => rfl) (je_fr 2 rfl (je_int (⟨_, _, _, rfl, rfl, rfl, fun t6 _ =>
      ⟨_, _, _, rfl, rfl, rfl, fun b7 =>
      ⟨_, rfl, rfl, rfl⟩⟩⟩)))⟩)))))⟩⟩)⟩)))))⟩⟩⟩⟩))))))))) (fun a1 =>
      rfl))
  · exact (je_tup (ja_cons (je_int (ja_cons (je_int (ja_nil (⟨_, rfl, rfl, rfl⟩)))))))
  · unfold g2_l_right
    exact (je_cmpB (cmp_eqD hr.hu) rfl (je_ix ix_D (fun _ _ => rfl) (je_fr 0 rfl (je_int (⟨_, _, _, rfl, rfl, rfl, fun t8 _ =>
      je_fr 1 rfl (⟨_, _, _, rfl, rfl, rfl, fun b9 =>
      ⟨_, rfl, rfl⟩⟩)⟩)))))

def d_law : List D → Res (D)
  | [v_0] =>
      op (lenD [v_0]) fun t2 =>
      op (min2D [(D.int 12), t2]) fun t3 =>
      op (max2D [(D.int 1), t3]) fun t4 =>
      op (rngD [t4]) fun ds1 =>
      fbind (forF ds1 (() : Unit) fun d7 s6 =>
      (d_l_tin [v_0, d7]).bind fun a8 =>
      (d_l_steps [(D.lst a8), (D.int 9)]).bind fun a9 =>
      (d_l_spans [(D.lst a9.2)]).bind fun a10 =>
      (d_l_books [(D.lst a10.2)]).bind fun a11 =>
      op (revD a10.1) fun t12 =>
      (d_l_deal [(D.lst a11.2), (D.int 3)]).bind fun a13 =>
      op (asI a13.1) fun i14 =>
      op (cutA a10.1 none (some i14)) fun t15 =>
      op (addD t12 t15) fun t16 =>
      (d_l_pairs [a9.1, (D.str ":")]).bind fun a17 =>
      (d_l_pairs [a10.1, (D.str "-")]).bind fun a18 =>
      (d_l_pairs [t16, (D.str "-")]).bind fun a19 =>
      (d_l_pairs [a11.1, (D.str ":")]).bind fun a20 =>
      op (rngD [(D.int 2)]) fun ds26 =>
      op (two ds26) fun _ =>
      (okR (op (ixD (D.lst [a17, a18, a19, a20]) (D.int 0)) fun t22 =>
      (d_t_read_table [t22]).bind fun a23 =>
      .ok a23 : Res (List D))).bind fun a24 =>
      (d_t_show_table [a9.1]).bind fun a28 =>
      op (ixD (D.lst [a17, a18, a19, a20]) (D.int 0)) fun t29 =>
      op (denT g1_l_right g2_l_right ((D.tup [(D.int 7), (D.int 7)])) a24 a24 a9.1 (D.lst [a28, t29])) fun b27 =>
      op (truD (D.bl b27)) fun b30 =>
      if (!b30) = true then (.ok (.rt ((D.bl false)))) else (op (rngD [(D.int 2)]) fun ds36 =>
      op (two ds36) fun _ =>
      (okR (op (ixD (D.lst [a17, a18, a19, a20]) (D.int 1)) fun t32 =>
      (d_t_read_stretches [t32]).bind fun a33 =>
      .ok a33 : Res (List D))).bind fun a34 =>
      (d_t_show_stretches [a10.1]).bind fun a38 =>
      op (ixD (D.lst [a17, a18, a19, a20]) (D.int 1)) fun t39 =>
      op (denT g1_l_right g2_l_right ((D.tup [(D.int 7), (D.int 7)])) a34 a34 a10.1 (D.lst [a38, t39])) fun b37 =>
      op (truD (D.bl b37)) fun b40 =>
      if (!b40) = true then (.ok (.rt ((D.bl false)))) else (op (rngD [(D.int 2)]) fun ds46 =>
      op (two ds46) fun _ =>
      (okR (op (ixD (D.lst [a17, a18, a19, a20]) (D.int 2)) fun t42 =>
      (d_t_read_lot [t42]).bind fun a43 =>
      .ok a43 : Res (List D))).bind fun a44 =>
      op (tupleD [t16]) fun t48 =>
      (d_t_show_stretches [t48]).bind fun a49 =>
      op (ixD (D.lst [a17, a18, a19, a20]) (D.int 2)) fun t50 =>
      op (denT g1_l_right g2_l_right ((D.tup [(D.int 7), (D.int 7)])) a44 a44 t16 (D.lst [a49, t50])) fun b47 =>
      op (truD (D.bl b47)) fun b51 =>
      if (!b51) = true then (.ok (.rt ((D.bl false)))) else (op (rngD [(D.int 2)]) fun ds57 =>
      op (two ds57) fun _ =>
      (okR (op (ixD (D.lst [a17, a18, a19, a20]) (D.int 3)) fun t53 =>
      (d_t_read_shelf [t53]).bind fun a54 =>
      .ok a54 : Res (List D))).bind fun a55 =>
      (d_t_show_shelf [a11.1]).bind fun a59 =>
      op (ixD (D.lst [a17, a18, a19, a20]) (D.int 3)) fun t60 =>
      op (denT g1_l_right g2_l_right ((D.tup [(D.int 7), (D.int 7)])) a55 a55 a11.1 (D.lst [a59, t60])) fun b58 =>
      op (truD (D.bl b58)) fun b61 =>
      if (!b61) = true then (.ok (.rt ((D.bl false)))) else (.ok (.nx ())))))) fun s62 =>
      (((d_t_show_stretches [(D.lst ([] : List D))]).bind fun a64 =>
      op (eqD a64 (D.str "")) fun b65 =>
      op (asB (D.bl b65)) fun b66 => if b66 = true then ((d_t_read_lot [(D.str "")]).bind fun a67 =>
      op (eqD (D.lst a67) (D.lst ([] : List D))) fun b68 =>
      op (asB (D.bl b68)) fun b69 => if b69 = true then ((d_t_read_shelf [(D.str "")]).bind fun a70 =>
      op (eqD (D.lst a70) (D.lst ([] : List D))) fun b71 =>
      .ok (D.bl b71)) else (.ok (D.bl false))) else (.ok (D.bl false)) : Res (D))).bind fun a63 =>
      .ok a63  | _ => .bad
abbrev n_law : List Str := ["_law_script", "_law_k", "_law_tin_here", "_law_steps_due", "_law_spans_here", "_law_books_here", "_law_lot", "_law_due", "_law_turn"]
theorem sc_law : FnScope n_law ["_law_script"] (defScope (topS 38)) := ⟨rfl, rfl, rfl, by decide +kernel, rfl, by decide +kernel, by decide +kernel⟩
theorem fn_law (h : Txt K mg) {fa : Addr} {fd : FuncData} (F : L2.Fun K "law" "law" (topS 38) fa fd) : FnG P w K mg base 5 fa fd ["_law_script"] (SpD K mg [.b] d_law (fun a => a) (fun a => []) false) := by
  refine fn_D (k := 4) F sc_law rfl 0 (fun _ => rfl) rfl (fun X en cdv A outer s H E ds hX hr hn hL hp hl => ?_)
  have hnd := (sc_law).nd
  subst hX
  obtain ⟨v_0, rfl⟩ := len1 hl
  unfold d_law
  exact (jss_cons (js_for hp rfl (ji_range1 h.n_range (je_callB (c_max2 rfl) h.n_max (ja_cons (je_int (ja_cons (je_callB (c_min2 rfl) h.n_min (ja_cons (je_int (ja_cons (je_callB c_len h.n_len (ja_cons (je_bw 0 rfl (ja_nil (⟨_, _, rfl, rfl, fun t2 _ =>
      ja_nil (⟨_, _, rfl, rfl, fun t3 _ =>
      ja_nil (⟨_, _, rfl, rfl, fun t4 _ =>
      ⟨_, _, rfl, rfl, fun ds1 =>
      ⟨_, _, _, (fun (s6 : Unit) => [.bw v_0, .un, .un, .un, .un, .un, .un, .un, .un]), rfl, (le_s (le_s (le_s (le_s (le_s (le_s (le_s (le_s (le_s (le_n)))))))))), fun _ he5 d7 s6 => ⟨[1], jg_name 1 [.bw v_0, .fr d7, .un, .un, .un, .un, .un, .un, .un] hnd (jss_cons (js_set 2 hnd (je_call (ok_l_tin h) (hr.mono (by decide)) (he5.lk hL) (ja_cons (je_bw 0 rfl (ja_cons (je_fr 1 rfl (ja_nil (⟨_, [], _, fun a8 => [.bw v_0, .fr d7, .un, .un, .un, .un, .un, .un, .un], rfl, rfl, List.nodup_nil, rfl, fun _ => rfl, fun a8 _ =>
      ⟨[.bw v_0, .fr d7, .mu (.lst a8), .un, .un, .un, .un, .un, .un], rfl, rfl, rfl,
      jss_cons (js_par3 3 4 5 hnd rfl (by decide) (by decide) (by decide) (ja_cons (je_call (ok_l_steps h) (hr.mono (by decide)) (he5.lk hL) (ja_cons (je_bo 2 rfl (.inl ⟨_, rfl⟩) (ja_cons (je_int (ja_nil (⟨_, [2], _, fun a9 => [.bw v_0, .fr d7, .mu (.lst a9.2), .un, .un, .un, .un, .un, .un], rfl, rfl, nd1, rfl, fun _ => rfl, fun a9 _ =>
      ja_cons (je_call (ok_l_spans h) (hr.mono (by decide)) (he5.lk hL) (ja_cons (je_bo 2 rfl (.inl ⟨_, rfl⟩) (ja_nil (⟨_, [2], _, fun a10 => [.bw v_0, .fr d7, .mu (.lst a10.2), .un, .un, .un, .un, .un, .un], rfl, rfl, nd1, rfl, fun _ => rfl, fun a10 _ =>
      ja_cons (je_call (ok_l_books h) (hr.mono (by decide)) (he5.lk hL) (ja_cons (je_bo 2 rfl (.inl ⟨_, rfl⟩) (ja_nil (⟨_, [2], _, fun a11 => [.bw v_0, .fr d7, .mu (.lst a11.2), .un, .un, .un, .un, .un, .un], rfl, rfl, nd1, rfl, fun _ => rfl, fun a11 _ =>
      ja_nil (⟨_, _, _, [.bw v_0, .fr d7, .mu (.lst a11.2), .fr a9.1, .fr a10.1, .fr a11.1, .un, .un, .un], rfl, rfl, rfl, rfl, rfl, rfl, rfl, rfl, rfl, rfl,
      jss_cons (js_set 6 hnd (je_bin op_addD (je_rev (je_fr 4 rfl (⟨_, _, rfl, rfl, fun t12 =>
      je_cutA (je_fr 4 rfl (jo_none (jo_some (je_call (ok_l_deal h) (hr.mono (by decide)) (he5.lk hL) (ja_cons (je_bo 2 rfl (.inl ⟨_, rfl⟩) (ja_cons (je_int (ja_nil (⟨_, [2], _, fun a13 => [.bw v_0, .fr d7, .mu (.lst a13.2), .fr a9.1, .fr a10.1, .fr a11.1, .un, .un, .un], rfl, rfl, nd1, rfl, fun _ => rfl, fun a13 _ =>
      ⟨_, _, rfl, rfl, fun i14 =>
      ⟨_, _, rfl, rfl, fun t15 =>
      ⟨_, _, _, rfl, rfl, rfl, fun t16 _ =>
      ⟨[.bw v_0, .fr d7, .mu (.lst a13.2), .fr a9.1, .fr a10.1, .fr a11.1, .fr t16, .un, .un], rfl, rfl, rfl,
      jss_cons (js_set 7 hnd (je_fz (je_lst (ja_cons (je_call (ok_l_pairs h) (hr.mono (by decide)) (he5.lk hL) (ja_cons (je_fr 3 rfl (ja_cons (je_str (ja_nil (⟨_, [], _, fun a17 => [.bw v_0, .fr d7, .mu (.lst a13.2), .fr a9.1, .fr a10.1, .fr a11.1, .fr t16, .un, .un], rfl, rfl, List.nodup_nil, rfl, fun _ => rfl, fun a17 _ =>
      ja_cons (je_call (ok_l_pairs h) (hr.mono (by decide)) (he5.lk hL) (ja_cons (je_fr 4 rfl (ja_cons (je_str (ja_nil (⟨_, [], _, fun a18 => [.bw v_0, .fr d7, .mu (.lst a13.2), .fr a9.1, .fr a10.1, .fr a11.1, .fr t16, .un, .un], rfl, rfl, List.nodup_nil, rfl, fun _ => rfl, fun a18 _ =>
      ja_cons (je_call (ok_l_pairs h) (hr.mono (by decide)) (he5.lk hL) (ja_cons (je_fr 6 rfl (ja_cons (je_str (ja_nil (⟨_, [], _, fun a19 => [.bw v_0, .fr d7, .mu (.lst a13.2), .fr a9.1, .fr a10.1, .fr a11.1, .fr t16, .un, .un], rfl, rfl, List.nodup_nil, rfl, fun _ => rfl, fun a19 _ =>
      ja_cons (je_call (ok_l_pairs h) (hr.mono (by decide)) (he5.lk hL) (ja_cons (je_fr 5 rfl (ja_cons (je_str (ja_nil (⟨_, [], _, fun a20 => [.bw v_0, .fr d7, .mu (.lst a13.2), .fr a9.1, .fr a10.1, .fr a11.1, .fr t16, .un, .un], rfl, rfl, List.nodup_nil, rfl, fun _ => rfl, fun a20 _ =>
      ja_nil (⟨_, rfl, rfl, ⟨[.bw v_0, .fr d7, .mu (.lst a13.2), .fr a9.1, .fr a10.1, .fr a11.1, .fr t16, .fr (D.lst [a17, a18, a19, a20]), .un], rfl, rfl, rfl,
      jss_cons (js_if (jt_not (jt_tru (je_T2 [("_law_turn", 8)] 8 (ok_l_right h) (hr.mono (by decide)) (he5.lk hL) rfl hnd (by decide) (fun _ _ _ _ _ => tg_name 8 hnd) (fun _ _ _ _ _ _ ks21 hLU => je_call (ok_t_read_table h) (hr.mono (by decide)) hLU (ja_cons (je_ix ix_D (fun _ _ => rfl) (je_fr 7 rfl (je_int (⟨_, _, _, rfl, rfl, rfl, fun t22 _ =>
      ja_nil (⟨_, [], _, fun a23 => [.bw v_0, .fr d7, .bw (D.lst a13.2), .fr a9.1, .fr a10.1, .fr a11.1, .fr t16, .fr (D.lst [a17, a18, a19, a20]), .un], rfl, rfl, List.nodup_nil, rfl, fun _ => rfl, fun a23 _ =>
      ⟨_, rfl, rfl⟩⟩)⟩)))))) (ji_range1 h.n_range (je_int (⟨_, _, rfl, rfl, fun ds26 => ⟨rfl, _, _, rfl, rfl, fun a24 _ _ ks25 =>
      ja_cons (je_fr 3 rfl (ja_cons (je_fz (je_lst (ja_cons (je_call (ok_t_show_table h) (hr.mono (by decide)) (ks25.lk (he5.lk hL)) (ja_cons (je_fr 3 rfl (ja_nil (⟨_, [], _, fun a28 => [.bw v_0, .fr d7, .bw (D.lst a13.2), .fr a9.1, .fr a10.1, .fr a11.1, .fr t16, .fr (D.lst [a17, a18, a19, a20]), .un], rfl, rfl, List.nodup_nil, rfl, fun _ => rfl, fun a28 _ =>
      ja_cons (je_ix ix_D (fun _ _ => rfl) (je_fr 7 rfl (je_int (⟨_, _, _, rfl, rfl, rfl, fun t29 _ =>
      ja_nil (⟨_, rfl, rfl, ja_nil (⟨_, _, _, rfl, rfl, fun b27 =>
      ⟨_, _, rfl, rfl, fun b30 =>
      ⟨_, _, rfl, jss_one (js_ret (je_bl (⟨_, rfl, ⟨_, rfl, rfl, oa_n⟩⟩))), jss_nil (jss_cons (js_if (jt_not (jt_tru (je_T2 [("_law_turn", 8)] 8 (ok_l_right h) (hr.mono (by decide)) (he5.lk hL) rfl hnd (by decide) (fun _ _ _ _ _ => tg_name 8 hnd) (fun _ _ _ _ _ _ ks31 hLU => je_call (ok_t_read_stretches h) (hr.mono (by decide)) hLU (ja_cons (je_ix ix_D (fun _ _ => rfl) (je_fr 7 rfl (je_int (⟨_, _, _, rfl, rfl, rfl, fun t32 _ =>
      ja_nil (⟨_, [], _, fun a33 => [.bw v_0, .fr d7, .bw (D.lst a13.2), .fr a9.1, .fr a10.1, .fr a11.1, .fr t16, .fr (D.lst [a17, a18, a19, a20]), .un], rfl, rfl, List.nodup_nil, rfl, fun _ => rfl, fun a33 _ =>
      ⟨_, rfl, rfl⟩⟩)⟩)))))) (ji_range1 h.n_range (je_int (⟨_, _, rfl, rfl, fun ds36 => ⟨rfl, _, _, rfl, rfl, fun a34 _ _ ks35 =>
      ja_cons (je_fr 4 rfl (ja_cons (je_fz (je_lst (ja_cons (je_call (ok_t_show_stretches h) (hr.mono (by decide)) (ks35.lk (he5.lk hL)) (ja_cons (je_fr 4 rfl (ja_nil (⟨_, [], _, fun a38 => [.bw v_0, .fr d7, .bw (D.lst a13.2), .fr a9.1, .fr a10.1, .fr a11.1, .fr t16, .fr (D.lst [a17, a18, a19, a20]), .un], rfl, rfl, List.nodup_nil, rfl, fun _ => rfl, fun a38 _ =>
      ja_cons (je_ix ix_D (fun _ _ => rfl) (je_fr 7 rfl (je_int (⟨_, _, _, rfl, rfl, rfl, fun t39 _ =>
      ja_nil (⟨_, rfl, rfl, ja_nil (⟨_, _, _, rfl, rfl, fun b37 =>
      ⟨_, _, rfl, rfl, fun b40 =>
      ⟨_, _, rfl, jss_one (js_ret (je_bl (⟨_, rfl, ⟨_, rfl, rfl, oa_n⟩⟩))), jss_nil (jss_cons (js_if (jt_not (jt_tru (je_T2 [("_law_turn", 8)] 8 (ok_l_right h) (hr.mono (by decide)) (he5.lk hL) rfl hnd (by decide) (fun _ _ _ _ _ => tg_name 8 hnd) (fun _ _ _ _ _ _ ks41 hLU => je_call (ok_t_read_lot h) (hr.mono (by decide)) hLU (ja_cons (je_ix ix_D (fun _ _ => rfl) (je_fr 7 rfl (je_int (⟨_, _, _, rfl, rfl, rfl, fun t42 _ =>
      ja_nil (⟨_, [], _, fun a43 => [.bw v_0, .fr d7, .bw (D.lst a13.2), .fr a9.1, .fr a10.1, .fr a11.1, .fr t16, .fr (D.lst [a17, a18, a19, a20]), .un], rfl, rfl, List.nodup_nil, rfl, fun _ => rfl, fun a43 _ =>
      ⟨_, rfl, rfl⟩⟩)⟩)))))) (ji_range1 h.n_range (je_int (⟨_, _, rfl, rfl, fun ds46 => ⟨rfl, _, _, rfl, rfl, fun a44 _ _ ks45 =>
      ja_cons (je_fr 6 rfl (ja_cons (je_fz (je_lst (ja_cons (je_call (ok_t_show_stretches h) (hr.mono (by decide)) (ks45.lk (he5.lk hL)) (ja_cons (je_callTy c_tuple h.n_tuple (ja_cons (je_fr 6 rfl (ja_nil (⟨_, _, rfl, rfl, fun t48 _ =>
      ja_nil (⟨_, [], _, fun a49 => [.bw v_0, .fr d7, .bw (D.lst a13.2), .fr a9.1, .fr a10.1, .fr a11.1, .fr t16, .fr (D.lst [a17, a18, a19, a20]), .un], rfl, rfl, List.nodup_nil, rfl, fun _ => rfl, fun a49 _ =>
      ja_cons (je_ix ix_D (fun _ _ => rfl) (je_fr 7 rfl (je_int (⟨_, _, _, rfl, rfl, rfl, fun t50 _ =>
      ja_nil (⟨_, rfl, rfl, ja_nil (⟨_, _, _, rfl, rfl, fun b47 =>
      ⟨_, _, rfl, rfl, fun b51 =>
      ⟨_, _, rfl, jss_one (js_ret (je_bl (⟨_, rfl, ⟨_, rfl, rfl, oa_n⟩⟩))), jss_nil (jss_one (js_if (jt_not (jt_tru (je_T2 [("_law_turn", 8)] 8 (ok_l_right h) (hr.mono (by decide)) (he5.lk hL) rfl hnd (by decide) (fun _ _ _ _ _ => tg_name 8 hnd) (fun _ _ _ _ _ _ ks52 hLU => je_call (ok_t_read_shelf h) (hr.mono (by decide)) hLU (ja_cons (je_ix ix_D (fun _ _ => rfl) (je_fr 7 rfl (je_int (⟨_, _, _, rfl, rfl, rfl, fun t53 _ =>
      ja_nil (⟨_, [], _, fun a54 => [.bw v_0, .fr d7, .bw (D.lst a13.2), .fr a9.1, .fr a10.1, .fr a11.1, .fr t16, .fr (D.lst [a17, a18, a19, a20]), .un], rfl, rfl, List.nodup_nil, rfl, fun _ => rfl, fun a54 _ =>
      ⟨_, rfl, rfl⟩⟩)⟩)))))) (ji_range1 h.n_range (je_int (⟨_, _, rfl, rfl, fun ds57 => ⟨rfl, _, _, rfl, rfl, fun a55 _ _ ks56 =>
      ja_cons (je_fr 5 rfl (ja_cons (je_fz (je_lst (ja_cons (je_call (ok_t_show_shelf h) (hr.mono (by decide)) (ks56.lk (he5.lk hL)) (ja_cons (je_fr 5 rfl (ja_nil (⟨_, [], _, fun a59 => [.bw v_0, .fr d7, .bw (D.lst a13.2), .fr a9.1, .fr a10.1, .fr a11.1, .fr t16, .fr (D.lst [a17, a18, a19, a20]), .un], rfl, rfl, List.nodup_nil, rfl, fun _ => rfl, fun a59 _ =>
      ja_cons (je_ix ix_D (fun _ _ => rfl) (je_fr 7 rfl (je_int (⟨_, _, _, rfl, rfl, rfl, fun t60 _ =>
      ja_nil (⟨_, rfl, rfl, ja_nil (⟨_, _, _, rfl, rfl, fun b58 =>
      ⟨_, _, rfl, rfl, fun b61 =>
      ⟨_, _, rfl, jss_one (js_ret (je_bl (⟨_, rfl, ⟨_, rfl, rfl, oa_n⟩⟩))), jss_nil (⟨_, rfl, (le_s (le_u (le_u (le_u (le_u (le_u (le_u (le_u (le_s (le_n))))))))))⟩)⟩⟩⟩)⟩)⟩))))⟩))))))))))⟩⟩))) (ok := by (refine blkOk_by ?_; first | (dsimp only [cxOf, envOfC, Cx.blk]; decide +kernel) | exact Eq.refl true)))))))⟩⟩⟩)⟩)⟩))))⟩)⟩))))))))))))⟩⟩))) (ok := by (refine blkOk_by ?_; first | (dsimp only [cxOf, envOfC, Cx.blk]; decide +kernel) | exact Eq.refl true)))))))⟩⟩⟩)⟩)⟩))))⟩))))))))))⟩⟩))) (ok := by (refine blkOk_by ?_; first | (dsimp only [cxOf, envOfC, Cx.blk]; decide +kernel) | exact Eq.refl true)))))))⟩⟩⟩)⟩)⟩))))⟩))))))))))⟩⟩))) (ok := by (refine blkOk_by ?_; first | (dsimp only [cxOf, envOfC, Cx.blk]; decide +kernel) | exact Eq.refl true))))))⟩⟩)⟩)))))))⟩)))))))⟩)))))))⟩)))))))))))⟩⟩⟩⟩⟩))))))))))⟩)))))⟩)⟩)))))⟩)))))⟩)))))))))⟩⟩)))))))))⟩, fun s62 =>
      jss_one (js_ret (je_join (fun (a63 : D) => .fr a63) (fun a63 => [.bw v_0, .un, .un, .un, .un, .un, .un, .un, .un]) (je_and (je_cmpB (cmp_eqD hr.hu) rfl (je_call (ok_t_show_stretches h) (hr.mono (by decide)) hL (ja_cons (je_lst (ja_nil (⟨_, rfl, rfl, ja_nil (⟨_, [], _, fun a64 => [.bw v_0, .un, .un, .un, .un, .un, .un, .un, .un], rfl, rfl, List.nodup_nil, rfl, fun _ => rfl, fun a64 _ =>
      je_str (⟨_, _, _, rfl, rfl, rfl, fun b65 =>
      ⟨_, _, rfl, rfl, fun b66 => ⟨_, _, rfl, je_and (je_cmpB (cmp_eqD hr.hu) rfl (je_call (ok_t_read_lot h) (hr.mono (by decide)) hL (ja_cons (je_str (ja_nil (⟨_, [], _, fun a67 => [.bw v_0, .un, .un, .un, .un, .un, .un, .un, .un], rfl, rfl, List.nodup_nil, rfl, fun _ => rfl, fun a67 _ =>
      je_lst (ja_nil (⟨_, rfl, rfl, ⟨_, _, _, rfl, rfl, rfl, fun b68 =>
      ⟨_, _, rfl, rfl, fun b69 => ⟨_, _, rfl, je_one (je_cmpB (cmp_eqD hr.hu) rfl (je_call (ok_t_read_shelf h) (hr.mono (by decide)) hL (ja_cons (je_str (ja_nil (⟨_, [], _, fun a70 => [.bw v_0, .un, .un, .un, .un, .un, .un, .un, .un], rfl, rfl, List.nodup_nil, rfl, fun _ => rfl, fun a70 _ =>
      je_lst (ja_nil (⟨_, rfl, rfl, ⟨_, _, _, rfl, rfl, rfl, fun b71 =>
      ⟨_, rfl, rfl, rfl⟩⟩⟩))⟩)))))), ⟨_, rfl, rfl, rfl⟩⟩⟩⟩⟩))⟩)))))), ⟨_, rfl, rfl, rfl⟩⟩⟩⟩)⟩)⟩))))))) (fun a63 =>
      ⟨_, rfl, rfl, oa_n⟩)))⟩⟩⟩)⟩)⟩))))))))))))))))

end
def TinOk (N : Nat) (t : List D) : Prop := ∃ a b c : Int, t = [.int a, .int b, .int c] ∧ 0 ≤ a ∧ 0 ≤ b ∧ b < 2 ^ 200 ∧ 0 ≤ c ∧ c ≤ N
theorem TinOk.mono {N M : Nat} {t : List D} (h : TinOk N t) (l : N ≤ M) : TinOk M t := by
  obtain ⟨a, b, c, e, h1, h2, h3, h4, h5⟩ := h
  exact ⟨a, b, c, e, h1, h2, h3, h4, by omega⟩
theorem deal_ok {N : Nat} {t : List D} {w : Int} (h : TinOk N t) (hN : N < 2 ^ 60) (hw : 0 < w) (hz : w < 2 ^ 200) : ∃ r t', d_l_deal [.lst t, .int w] = .ok (.int r, t') ∧ 0 ≤ r ∧ r < w ∧ TinOk (N + 1) t' := by
  obtain ⟨a, b, c, rfl, h1, h2, h3, h4, h5⟩ := h
  have i0 : ∀ x y z : D, ixD (.lst [x, y, z]) (.int 0) = some x := fun _ _ _ => rfl
  have i1 : ∀ x y z : D, ixD (.lst [x, y, z]) (.int 1) = some y := fun _ _ _ => rfl
  have i2 : ∀ x y z : D, ixD (.lst [x, y, z]) (.int 2) = some z := fun _ _ _ => rfl
  have s0 : ∀ x y z d : D, setL [x, y, z] (.int 0) d = some [d, y, z] := fun _ _ _ _ => rfl
  have s2 : ∀ x y z d : D, setL [x, y, z] (.int 2) d = some [x, y, d] := fun _ _ _ _ => rfl
  have hz2 : w < 2 ^ 250 := Int.lt_trans hz (by decide)
  unfold d_l_deal
  simp only [i0, i1, i2, op_s, gtI]
  by_cases hp : 0 < a
  · rw [if_pos (by simpa using hp)]
    simp only [modI hw, divI hw hz2, op_s, s0]
    exact ⟨a % w, _, rfl, Int.emod_nonneg _ (by omega), Int.emod_lt_of_pos _ hw, a / w, b, c, rfl, Int.ediv_nonneg h1 (by omega), h2, h3, h4, by omega⟩
  · rw [if_neg (by simpa using hp)]
    have c1 : (0 : Int) ≤ c + 1 := by omega
    have c2 : c + 1 < 2 ^ 61 := by omega
    have m1 : mulD (.int 9576890767) (.int (c + 1)) = some (.int (9576890767 * (c + 1))) := mulI (by decide) (by decide) c1 (Int.lt_trans c2 (by decide))
    have m2 : mulD (.int 32452843) (.int (c + 1)) = some (.int (32452843 * (c + 1))) := mulI (by decide) (by decide) c1 (Int.lt_trans c2 (by decide))
    have e1 : (0 : Int) ≤ b + 9576890767 * (c + 1) := by omega
    have e2 : b + 9576890767 * (c + 1) < 2 ^ 250 := Int.lt_trans (show _ < (2 : Int) ^ 201 by omega) (by decide)
    have q1 : (0 : Int) < 10 ^ 38 + 133 := by decide
    have q2 : (0 : Int) < 10 ^ 40 + 121 := by decide
    have f1 : (0 : Int) ≤ (b + 9576890767 * (c + 1)) ^ 3 % (10 ^ 38 + 133) := Int.emod_nonneg _ (by decide)
    have f2 : (b + 9576890767 * (c + 1)) ^ 3 % (10 ^ 38 + 133) < 10 ^ 38 + 133 := Int.emod_lt_of_pos _ q1
    have g1 : (0 : Int) ≤ (b + 9576890767 * (c + 1)) ^ 3 % (10 ^ 38 + 133) + 32452843 * (c + 1) := by omega
    have g2 : (b + 9576890767 * (c + 1)) ^ 3 % (10 ^ 38 + 133) + 32452843 * (c + 1) < 2 ^ 250 := Int.lt_trans (show _ < (2 : Int) ^ 200 by omega) (by decide)
    simp only [addI, op_s, s2, i1, i2, m1, m2, pow3 e1 e2, p10_38, modI q1, pow5 g1 g2, p10_40, modI q2, divI (a := _) (b := 65536) (by decide) (by decide), modI hw]
    exact ⟨_, _, rfl, Int.emod_nonneg _ (by omega), Int.emod_lt_of_pos _ hw, a, b, c + 1, rfl, h1, h2, h3, c1, by omega⟩
theorem tin_ok {ns : List Int} {k : Nat} (hk : k < 100) (hl : ns.length < 1000000) : ∃ t, d_l_tin [.scr ns, .int k] = .ok t ∧ TinOk 0 t := by
  unfold d_l_tin
  dsimp only
  have e1 : lenD [.scr ns] = some (.int ns.length) := rfl
  have cell : ∃ c : Int, ((op (lenD [.scr ns]) fun t11 => op (ltD (.int k) t11) fun b12 => if b12 = true then (op (ixD (.scr ns) (.int k)) fun t13 => .ok t13) else (.ok (D.int 0)) : Res (D))) = .ok (.int c) := by
    rw [e1, op_s, ltI, op_s]
    by_cases h : (k : Int) < ns.length
    · rw [if_pos (by simpa using h)]
      have hk2 : k < ns.length := by omega
      have e : ixD (.scr ns) (.int k) = some (.int ns[k]) := by
        show (atI ns (k : Int)).map D.int = _
        unfold atI ixN
        rw [if_pos (by omega), if_pos h]
        simp [List.getElem?_eq_getElem hk2]
      rw [e, op_s]
      exact ⟨_, rfl⟩
    · rw [if_neg (by simpa using h)]
      exact ⟨0, rfl⟩
  obtain ⟨c, ec⟩ := cell
  rw [ec, bind_s]
  have q : (0 : Int) < 10 ^ 37 + 43 := by decide
  have f1 : 0 ≤ c % (10 ^ 37 + 43) := Int.emod_nonneg _ (by decide)
  have f2 : c % (10 ^ 37 + 43) < 10 ^ 37 + 43 := Int.emod_lt_of_pos _ q
  have m1 : mulD (.int (c % (10 ^ 37 + 43))) (.int 64) = some (.int (c % (10 ^ 37 + 43) * 64)) := mulI f1 (by omega) (by decide) (by decide)
  simp only [abs_ok, op_s, p10_18, subI, max2I, p10_37, addI, modI q, m1]
  refine ⟨_, rfl, _, _, 0, rfl, ?_, ?_, ?_, by omega, by omega⟩
  · split <;> omega
  · omega
  · omega
theorem deal_k {N : Nat} {t : List D} {w : Int} (h : TinOk N t) (hN : N < 2 ^ 60) (hw : 0 < w) (hz : w < 2 ^ 200) : Ok (d_l_deal [.lst t, .int w]) fun a => ∃ r t', a = (.int r, t') ∧ 0 ≤ r ∧ r < w ∧ TinOk (N + 1) t' := by
  obtain ⟨r, t', e, h1, h2, h3⟩ := deal_ok h hN hw hz
  exact ⟨_, e, r, t', rfl, h1, h2, h3⟩


/-! ### numbers -/
def cnt : D → Bool
  | .int i => decide (0 ≤ i)
  | _ => false
theorem number_ok (d : D) : d_t_is_number [d] = .ok (.bl (cnt d)) := by
  unfold d_t_is_number
  cases d <;> first | rfl | skip
theorem cnt_int {d : D} (h : cnt d = true) : ∃ i : Int, d = .int i ∧ 0 ≤ i := by
  cases d <;> simp [cnt] at h
  exact ⟨_, rfl, h⟩

/-! ### what is risen by at numbers -/
def eP (p : Int × Int) : D := .tup [.int p.1, .int p.2]
def eK (p : Int × Int) : Key × D := (.inl p.1, .int p.2)
def val : List (Int × Int) → Int → Int
  | [], _ => 0
  | p :: r, k => if p.1 = k then p.2 else val r k
def sumTo : List (Int × Int) → Int → Int
  | [], _ => 0
  | p :: r, c => (if p.1 ≤ c then p.2 else 0) + sumTo r c
def up (f : Int → Int) : List Int → Int → Int
  | [], _ => 0
  | k :: r, c => (if k ≤ c then f k else 0) + up f r c
theorem val_no {k : Int} : ∀ {es : List (Int × Int)}, k ∉ es.map (·.1) → val es k = 0
  | [], _ => rfl
  | p :: r, h => by
    rw [List.map_cons, List.mem_cons, not_or] at h
    rw [val, if_neg (fun e => h.1 e.symm), val_no h.2]
theorem val_mem {p : Int × Int} : ∀ {es : List (Int × Int)}, (es.map (·.1)).Nodup → p ∈ es → val es p.1 = p.2
  | [], _, h => nomatch h
  | q :: r, nd, h => by
    rw [List.map_cons, List.nodup_cons] at nd
    rcases List.mem_cons.mp h with rfl | h
    · rw [val, if_pos rfl]
    · have hne : q.1 ≠ p.1 := fun e => nd.1 (by rw [e]; exact List.mem_map.mpr ⟨p, h, rfl⟩)
      rw [val, if_neg hne, val_mem nd.2 h]
def rep (es : List (Int × Int)) (k w : Int) : List (Int × Int) := es.map fun p => if p.1 = k then (p.1, w) else p
def del (es : List (Int × Int)) (k : Int) : List (Int × Int) := es.filter fun p => decide (p.1 ≠ k)
/-- numbers from 0 on, each once, none of what is risen by there 0 -/
structure Ext (n : Nat) (es : List (Int × Int)) : Prop where
  nd : (es.map (·.1)).Nodup
  ok : ∀ p, p ∈ es → 0 ≤ p.1 ∧ p.2 ≠ 0
  len : es.length ≤ n
/-! ### the sorted keys, the least company of a total, the steps -/
theorem forS_c {S : Type} {f : D → S → Res S} {d : D} {ds : List D} {s s' : S} (h : f d s = .ok s') : forS (d :: ds) s f = forS ds s' f := by
  conv => lhs; unfold forS
  rw [h]; rfl
theorem forS_no {S : Type} {f : D → S → Res S} {s : S} : forS [] s f = .ok s := by
  unfold forS; rfl
/-- r is the least company of a total m by T -/
def Least (T : Int → Int) (m r : Int) : Prop := 0 ≤ r ∧ ∀ c, 0 ≤ c → (m ≤ T c ↔ r ≤ c)
/-- steps of a many by company -/
def stp (S : Int → Int) (ks : List Int) : List (Int × Int) := ks.map fun k => (k, S k)
/-! ### walks that know their place -/
theorem flat_at {S : Int → Int} {lo : Int} : ∀ {n : Nat}, (∀ c, lo < c → c ≤ lo + n → S c = S (c - 1)) → S (lo + n) = S lo
  | 0, _ => by simp
  | n + 1, h => by
    have h1 := h (lo + (n + 1 : Nat)) (by omega) (Int.le_refl _)
    rw [h1, show lo + ((n + 1 : Nat) : Int) - 1 = lo + n by omega]
    exact flat_at fun c a b => h c a (by omega)
def chg (S : Int → Int) (c : Int) : Bool := decide (S c ≠ S (c - 1))
/-! ### the table of a row: how many speak truly by a company -/
def mny (xs : List Say) (c : Int) : Int := tot xs c - c
/-! where how many speak truly turns -/
/-! ### steps, tables -/
def step : D → Bool
  | .tup [x, y] => cnt x && cnt y
  | _ => false
def unI : D → Int
  | .int i => i
  | _ => 0
def unP : D → Int × Int
  | .tup [x, y] => (unI x, unI y)
  | _ => (0, 0)
theorem step_eP {d : D} (h : step d = true) : eP (unP d) = d := by
  match d, h with
  | .tup [x, y], h =>
    have h' : (cnt x && cnt y) = true := h
    rw [Bool.and_eq_true] at h'
    obtain ⟨i, rfl, _⟩ := cnt_int h'.1
    obtain ⟨j, rfl, _⟩ := cnt_int h'.2
    rfl
theorem steps_eP : ∀ {ds : List D}, ds.all step = true → (ds.map unP).map eP = ds
  | [], _ => rfl
  | d :: ds, h => by
    rw [List.all_cons, Bool.and_eq_true] at h
    rw [List.map_cons, List.map_cons, step_eP h.1, steps_eP h.2]
theorem step_is (d : D) : d_t_is_step [d] = .ok (.bl (step d)) := by
  unfold d_t_is_step
  dsimp only
  by_cases ht : isTup d = true
  · match d, ht with
    | .tup ds, _ =>
      have e1 : lenD [.tup ds] = some (.int ds.length) := rfl
      have ht2 : isTup (.tup ds) = true := rfl
      rw [asB_ok, op_s, if_pos ht2, e1, op_s, eqI, op_s, asB_ok, op_s]
      match ds with
      | [] => rfl
      | [_] => rfl
      | [x, y] =>
        have i0 : ixD (.tup [x, y]) (.int 0) = some x := rfl
        have i1 : ixD (.tup [x, y]) (.int 1) = some y := rfl
        rw [if_pos (by simp), i0, op_s, number_ok, bind_s, asB_ok, op_s, i1, op_s, number_ok, bind_s]
        cases hx : cnt x <;> simp [step, hx, bind_s]
      | a :: b :: c :: r =>
        rw [if_neg (by simp; omega)]
        rfl
  · cases d <;> first | rfl | exact absurd rfl ht
def near (a b : Int × Int) : Bool := decide (a.1 < b.1) && !decide (a.2 = b.2)
def tab : List (Int × Int) → Bool
  | [] => false
  | p :: r => decide (p.1 = 0) && adj near (p :: r)
def tabD : D → Bool
  | .lst ds => ds.all step && tab (ds.map unP)
  | _ => false
def good : D → Prop
  | .lst ds => ds.length < 1000 ∧ Shp 60 (.lst ds)
  | .scr _ => False
  | _ => True
theorem i0P {p : Int × Int} : ixD (eP p) (.int 0) = some (.int p.1) := rfl
theorem i1P {p : Int × Int} : ixD (eP p) (.int 1) = some (.int p.2) := rfl
theorem table_is {d : D} (h : good d) : d_t_is_table [d] = .ok (.bl (tabD d)) := by
  unfold d_t_is_table
  cases d with
  | lst ds =>
    obtain ⟨hl, hs⟩ := h
    have e0 : asL (.lst ds) = some ds := rfl
    have key : (lcF ds (() : Unit) [] fun d5 s4 => (d_t_is_step [d5]).bind fun a6 => .ok (some a6, ())) = .ok (ds.map fun d => .bl (step d), ()) := by
      have := lc_map (f := fun (d5 : D) (s4 : Unit) => (d_t_is_step [d5]).bind fun a6 => .ok (some a6, ())) (e := id) (g := fun d => .bl (step d)) (s := ()) (xs := ds) (by omega) (fun d _ => by rw [id, step_is, bind_s])
      simpa using this
    have al : allD [.lst (ds.map fun d => .bl (step d))] = some (.bl (ds.all step)) := by
      show (bls _).map _ = _
      rw [bls_map]
      simp [List.all_map]
    simp only [isLst, Bool.not_true, eq_nil hs, op_s, e0, key, bind_s, al, tru_ok]
    rw [if_neg (by simp)]
    cases ds with
    | nil => rfl
    | cons d ds =>
      rw [if_neg (by simp)]
      cases hst : (d :: ds).all step with
      | false => simp [bind_s, tabD, hst]
      | true =>
        have ep := steps_eP hst
        rw [if_neg (by simp)]
        simp only [tabD, hst, Bool.true_and]
        generalize (d :: ds).map unP = xs at ep ⊢
        rw [← ep]
        cases xs with
        | nil => cases ep
        | cons p r =>
          have i00 : ixD (.lst ((p :: r).map eP)) (.int 0) = some (eP p) := ix_0
          rw [i00, op_s, i0P, op_s, neI, op_s, bind_s]
          by_cases hp : p.1 = 0
          · rw [if_neg (by simp [hp])]
            have ec : cutA (.lst ((p :: r).map eP)) (some 1) none = some (.lst (((p :: r).drop 1).map eP)) := by
              have := cut_back (ds := (p :: r).map eP) (i := 1) (by simp)
              show some (D.lst _) = _
              rw [show ((1 : Nat) : Int) = 1 from rfl] at this
              rw [this, List.map_drop]
            rw [ec, op_s, zip_lst, op_s]
            have len : ((p :: r).zip ((p :: r).drop 1)).length < 1000000 := by
              have l2 : (p :: r).length = (d :: ds).length := by rw [← ep]; simp
              rw [List.length_zip]
              omega
            rw [lc_map (e := fun z => .tup [eP z.1, eP z.2]) (g := fun z => .bl (near z.1 z.2)) len (fun z _ => by
              have eu : un2 (.tup [eP z.1, eP z.2]) = some (eP z.1, eP z.2) := rfl
              simp only [eu, op_s, i0P, i1P, ltI, asB_ok, neI, near]
              cases decide (z.1.1 < z.2.1) <;> simp [bind_s]), bind_s]
            have ea : allD [.lst (((p :: r).zip ((p :: r).drop 1)).map fun z => D.bl (near z.1 z.2))] = some (.bl (adj near (p :: r))) := by
              have := all_ok (ns := (((p :: r).zip ((p :: r).drop 1)).map fun z => near z.1 z.2))
              rw [List.map_map] at this
              rw [all_zip] at this
              exact this
            rw [ea, op_s]
            simp [tab, hp]
          · rw [if_pos (by simp [hp])]
            simp [tab, hp]
  | scr _ => exact h.elim
  | non => rfl
  | bl _ => rfl
  | int _ => rfl
  | str _ => rfl
  | tup _ => rfl
  | exc _ => rfl
  | obj _ _ => rfl
  | dic _ => rfl

/-! ### what a table tells of a company -/
def upon (ps : List (Int × Int)) (c : Int) : List (Int × Int) := ps.filter fun p => decide (p.1 ≤ c)
/-- a table: steps of numbers, rising from 0 on, each time another many -/
structure Tb (ps : List (Int × Int)) : Prop where
  tab : tab ps = true
  nn : ∀ p, p ∈ ps → 0 ≤ p.1 ∧ 0 ≤ p.2
  len : ps.length < 900
theorem Tb.good {ps : List (Int × Int)} (h : Tb ps) : good (.lst (ps.map eP)) ∧ tabD (.lst (ps.map eP)) = true := by
  have hl := h.len
  refine ⟨⟨by rw [List.length_map]; omega, (shp_lst (n := 1) fun x hx => ?_).mono (by omega)⟩, ?_⟩
  · obtain ⟨p, _, rfl⟩ := List.mem_map.mp hx
    exact shp_tup (mem2 shp_int shp_int)
  · have e1 : (ps.map eP).map unP = ps := by
      rw [List.map_map]
      have : (unP ∘ eP) = id := by funext p; rfl
      rw [this, List.map_id]
    have e2 : (ps.map eP).all step = true := List.all_eq_true.mpr fun x hx => by
      obtain ⟨p, hp, rfl⟩ := List.mem_map.mp hx
      obtain ⟨h1, h2⟩ := h.nn p hp
      simp [eP, step, cnt, h1, h2]
    show ((ps.map eP).all step && _root_.BR.tab ((ps.map eP).map unP)) = true
    rw [e1, e2, h.tab]; rfl
theorem Tb.last {ps : List (Int × Int)} (h : Tb ps) {c : Int} (hc : 0 ≤ c) : ∃ z, (upon ps c).getLast? = some z ∧ z ∈ ps := by
  have ht := h.tab
  cases ps with
  | nil => cases ht
  | cons p r =>
    have hp : p.1 = 0 := by
      have : (decide (p.1 = 0) && adj near (p :: r)) = true := ht
      rw [Bool.and_eq_true, decide_eq_true_iff] at this
      exact this.1
    have e : upon (p :: r) c = p :: r.filter (fun p => decide (p.1 ≤ c)) := by
      unfold upon
      rw [List.filter_cons, if_pos (by simp [hp, hc])]
    rw [e, List.getLast?_cons]
    refine ⟨_, rfl, ?_⟩
    cases q : (r.filter fun p => decide (p.1 ≤ c)).getLast? with
    | none => exact List.mem_cons_self
    | some z => exact List.mem_cons_of_mem _ (List.mem_filter.mp (List.mem_of_getLast? q)).1

/-! ### a row's table is a table, and tells its many -/
theorem flat_in {S : Int → Int} {a b : Int} (h : a ≤ b) (f : ∀ c, a < c → c ≤ b → S c = S (c - 1)) : S b = S a := by
  have := flat_at (S := S) (lo := a) (n := (b - a).toNat) fun c x y => f c x (by omega)
  rwa [show a + ((b - a).toNat : Int) = b by omega] at this
theorem adj_stp {S : Int → Int} : ∀ {ks : List Int} {lo : Int}, ks.Pairwise (· < ·) → (∀ k, k ∈ ks → lo < k) → (∀ c, lo < c → (c ∈ ks ↔ S c ≠ S (c - 1))) → adj near (stp S (lo :: ks)) = true
  | [], _, _, _, _ => rfl
  | k :: r, lo, pw, gt, mem => by
    obtain ⟨p1, p2⟩ := List.pairwise_cons.mp pw
    have gk := gt k List.mem_cons_self
    have e : S (k - 1) = S lo := flat_in (by omega) fun c a b => Decidable.byContradiction fun z => by
      rcases List.mem_cons.mp ((mem c a).mpr z) with rfl | q
      · omega
      · have := p1 c q; omega
    have ne := (mem k gk).mp List.mem_cons_self
    rw [e] at ne
    have ih := adj_stp (S := S) (ks := r) (lo := k) p2 p1 fun c hc => by
      rw [← mem c (by omega), List.mem_cons]
      exact ⟨.inr, fun h => h.elim (fun z => absurd z (by omega)) id⟩
    show (near (lo, S lo) (k, S k) && adj near (stp S (k :: r))) = true
    rw [ih]
    have : ¬ S lo = S k := fun z => ne z.symm
    simp [near, gk, this]
theorem last_stp {S : Int → Int} {c : Int} : ∀ {ks : List Int} {lo : Int}, ks.Pairwise (· < ·) → (∀ k, k ∈ ks → lo < k) → (∀ c, lo < c → (c ∈ ks ↔ S c ≠ S (c - 1))) → lo ≤ c → ∃ t, (upon (stp S (lo :: ks)) c).getLast? = some (t, S c)
  | [], lo, _, _, mem, hc => by
    have e : S c = S lo := flat_in hc fun c a _ => Decidable.byContradiction fun z => nomatch (mem c a).mpr z
    refine ⟨lo, ?_⟩
    show (List.filter _ [(lo, S lo)]).getLast? = _
    rw [List.filter_cons, if_pos (by simpa using hc), e]; rfl
  | k :: r, lo, pw, gt, mem, hc => by
    obtain ⟨p1, p2⟩ := List.pairwise_cons.mp pw
    have gk := gt k List.mem_cons_self
    have e0 : upon (stp S (lo :: k :: r)) c = (lo, S lo) :: upon (stp S (k :: r)) c := by
      show List.filter _ ((lo, S lo) :: stp S (k :: r)) = _
      rw [List.filter_cons, if_pos (by simpa using hc)]; rfl
    rw [e0, List.getLast?_cons]
    by_cases hk : k ≤ c
    · obtain ⟨t, e⟩ := last_stp (S := S) (c := c) (ks := r) (lo := k) p2 p1 (fun c hc => by
        rw [← mem c (by omega), List.mem_cons]
        exact ⟨.inr, fun h => h.elim (fun z => absurd z (by omega)) id⟩) hk
      exact ⟨t, by rw [e]; rfl⟩
    · have en : upon (stp S (k :: r)) c = [] := List.filter_eq_nil_iff.mpr fun p hp => by
        obtain ⟨j, hj, rfl⟩ := List.mem_map.mp hp
        have : k ≤ j := by
          rcases List.mem_cons.mp hj with rfl | q
          · exact Int.le_refl _
          · exact Int.le_of_lt (p1 j q)
        simp; omega
      have e : S c = S lo := flat_in hc fun x a b => Decidable.byContradiction fun z => by
        rcases List.mem_cons.mp ((mem x a).mpr z) with rfl | q
        · omega
        · have := p1 x q; omega
      exact ⟨lo, by rw [en, e]; rfl⟩
/-! ### steps of what turns at just these numbers -/
structure Cn (S : Int → Int) (ks : List Int) (n : Nat) : Prop where
  pw : ks.Pairwise (· < ·)
  mem : ∀ k, k ∈ ks ↔ 0 < k ∧ S k ≠ S (k - 1)
  len : ks.length ≤ n
theorem Cn.gt {S : Int → Int} {ks : List Int} {n : Nat} (h : Cn S ks n) : ∀ k, k ∈ ks → 0 < k := fun k hk => ((h.mem k).mp hk).1
theorem Cn.at {S : Int → Int} {ks : List Int} {n : Nat} (h : Cn S ks n) : ∀ c, 0 < c → (c ∈ ks ↔ S c ≠ S (c - 1)) := fun c hc => by
  rw [h.mem c]; exact ⟨fun z => z.2, fun z => ⟨hc, z⟩⟩
theorem Cn.last {S : Int → Int} {ks : List Int} {n : Nat} (h : Cn S ks n) {c : Int} (hc : 0 ≤ c) : ∃ t, (upon (stp S (0 :: ks)) c).getLast? = some (t, S c) := last_stp h.pw h.gt h.at hc
theorem Cn.congr {S T : Int → Int} {ks : List Int} {n : Nat} (h : Cn S ks n) (e : ∀ c, 0 ≤ c → S c = T c) : Cn T ks n := ⟨h.pw, fun k => by
  rw [h.mem k]
  constructor
  · rintro ⟨a, b⟩; rw [e k (by omega), e (k - 1) (by omega)] at b; exact ⟨a, b⟩
  · rintro ⟨a, b⟩; rw [← e k (by omega), ← e (k - 1) (by omega)] at b; exact ⟨a, b⟩, h.len⟩
theorem stp_len {S : Int → Int} {ks : List Int} : (stp S ks).length = ks.length := List.length_map _
theorem Cn.pos {S : Int → Int} {ks : List Int} {n : Nat} (h : Cn S ks n) : ∀ k, k ∈ 0 :: ks → 0 ≤ k := fun k hk => by
  rcases List.mem_cons.mp hk with rfl | q
  · exact Int.le_refl _
  · exact Int.le_of_lt (h.gt k q)
theorem Cn.tb {S : Int → Int} {ks : List Int} {n : Nat} (h : Cn S ks n) (hn : n < 800) (nn : ∀ c, 0 ≤ c → 0 ≤ S c) : Tb (stp S (0 :: ks)) where
  tab := by
    have a := adj_stp (S := S) (ks := ks) (lo := 0) h.pw h.gt h.at
    show (decide ((0 : Int) = 0) && adj near (stp S (0 :: ks))) = true
    rw [a]; rfl
  nn := fun p hp => by
    obtain ⟨k, hk, rfl⟩ := List.mem_map.mp hp
    exact ⟨h.pos k hk, nn k (h.pos k hk)⟩
  len := by
    have := h.len
    rw [stp_len, List.length_cons]; omega
/-! ### greater things shown -/
def Sz2 (n w : Nat) (d : D) : Prop := noS d = true ∧ (toP d).showable = true ∧ (toP d).leavesShort 62 = true ∧ (toP d).depth ≤ n ∧ (toP d).weight ≤ w
theorem Sz2.mono {n w n' w' : Nat} {d : D} (h : Sz2 n w d) (h1 : n ≤ n') (h2 : w ≤ w') : Sz2 n' w' d := ⟨h.1, h.2.1, h.2.2.1, Nat.le_trans h.2.2.2.1 h1, Nat.le_trans h.2.2.2.2 h2⟩
/-! ### shelves: at each number how many books more than in the plain one -/
def jm (S : Int → Int) (c : Int) : Int := if c = 0 then S 0 else S c - S (c - 1)
def pln (k : Int) : Int := if 0 < k then 1 else 0
def shf (S : Int → Int) (ks : List Int) : List (Int × Int) := ks.map fun k => (k, jm S k + pln k)
def exs (S : Int → Int) (ks : List Int) : List (Int × Int) := ks.map fun k => (k, jm S k)
structure Shl (S : Int → Int) (ks : List Int) (n : Nat) : Prop where
  pw : ks.Pairwise (· < ·)
  mem : ∀ k, k ∈ ks ↔ 0 ≤ k ∧ jm S k ≠ 0
  len : ks.length ≤ n
theorem Shl.pos {S : Int → Int} {ks : List Int} {n : Nat} (h : Shl S ks n) : ∀ k, k ∈ ks → 0 ≤ k := fun k hk => ((h.mem k).mp hk).1
theorem Shl.nd {S : Int → Int} {ks : List Int} {n : Nat} (h : Shl S ks n) : ks.Nodup := h.pw.imp fun z => Int.ne_of_lt z
theorem plain_ok {k : Int} : d_t_plain [.int k] = .ok (.int (pln k)) := by
  unfold d_t_plain pln
  dsimp only
  rw [gtI, op_s]
  by_cases h : 0 < k
  · rw [decide_eq_true h, if_pos h]; rfl
  · rw [decide_eq_false h, if_neg h]; rfl
theorem sum_jump {c : Int} : ∀ {es : List (Int × Int)}, (es.map (·.1)).Nodup → sumTo es c - sumTo es (c - 1) = val es c
  | [], _ => by simp [sumTo, val]
  | p :: r, nd => by
    rw [List.map_cons, List.nodup_cons] at nd
    have ih := sum_jump (c := c) nd.2
    rw [sumTo, sumTo, val]
    by_cases h : p.1 = c
    · rw [if_pos h, if_pos (by omega), if_neg (by omega)]
      rw [val_no (by rw [← h]; exact nd.1)] at ih
      omega
    · rw [if_neg h]
      by_cases g : p.1 ≤ c
      · rw [if_pos g, if_pos (by omega)]; omega
      · rw [if_neg g, if_neg (by omega)]; omega
theorem sum_neg {es : List (Int × Int)} {c : Int} (h : ∀ p, p ∈ es → 0 ≤ p.1) (hc : c < 0) : sumTo es c = 0 := by
  induction es with
  | nil => rfl
  | cons p r ih =>
    have h1 := h p List.mem_cons_self
    rw [sumTo, if_neg (by omega), ih fun q hq => h q (List.mem_cons_of_mem _ hq)]; rfl
theorem val_jm {n : Nat} {es : List (Int × Int)} {S : Int → Int} (X : Ext n es) (hS : ∀ c, 0 ≤ c → sumTo es c = S c) {c : Int} (hc : 0 ≤ c) : val es c = jm S c := by
  have h := sum_jump (c := c) X.nd
  unfold jm
  by_cases z : c = 0
  · subst z
    rw [if_pos rfl, ← hS 0 (Int.le_refl _), ← h, sum_neg (c := 0 - 1) (fun p hp => (X.ok p hp).1) (by omega)]; omega
  · rw [if_neg z, ← h, hS c hc, hS (c - 1) (by omega)]
theorem key_jm {n : Nat} {es : List (Int × Int)} {S : Int → Int} (X : Ext n es) (hS : ∀ c, 0 ≤ c → sumTo es c = S c) {k : Int} : k ∈ es.map (·.1) ↔ 0 ≤ k ∧ jm S k ≠ 0 := by
  constructor
  · intro h
    obtain ⟨p, hp, rfl⟩ := List.mem_map.mp h
    have := X.ok p hp
    refine ⟨this.1, ?_⟩
    rw [← val_jm X hS this.1, val_mem X.nd hp]
    exact this.2
  · rintro ⟨h0, h⟩
    rw [← val_jm X hS h0] at h
    exact Decidable.byContradiction fun z => h (val_no z)
theorem entry_ok {k v : Int} (h0 : 0 ≤ k) (h1 : 0 ≤ v) (h2 : v ≠ pln k) : d_t_is_entry [eP (k, v)] = .ok (.bl true) := by
  have e1 : lenD [eP (k, v)] = some (.int 2) := rfl
  have e2 : isTup (eP (k, v)) = true := rfl
  unfold d_t_is_entry
  dsimp only
  rw [e2, if_neg (by simp), e1, op_s, neI, op_s, if_neg (by simp), i0P, op_s, number_ok, show cnt (.int k) = true from decide_eq_true h0, bind_s, tru_ok, op_s, if_neg (by simp), i1P, op_s, number_ok, show cnt (.int v) = true from decide_eq_true h1, bind_s, tru_ok, op_s, bind_s, if_neg (by simp), op_s, op_s, plain_ok, bind_s, neI, op_s]
  simp [h2]
theorem adj_lt {f : Int → Int} : ∀ {ks : List Int}, ks.Pairwise (· < ·) → adj (fun a b : Int × Int => decide (a.1 < b.1)) (ks.map fun k => (k, f k)) = true
  | [], _ => rfl
  | [_], _ => rfl
  | a :: b :: r, h => by
    obtain ⟨p1, p2⟩ := List.pairwise_cons.mp h
    have := adj_lt (f := f) p2
    have l := p1 b List.mem_cons_self
    show (decide (a < b) && adj _ _) = true
    rw [decide_eq_true l, Bool.true_and]
    exact this
theorem isshelf_ok {S : Int → Int} {ks : List Int} {n : Nat} (h : Shl S ks n) (hn : n < 100000) (nn : ∀ k, 0 ≤ k → 0 ≤ jm S k + pln k) : d_t_is_shelf [.lst ((shf S ks).map eP)] = .ok (.bl true) := by
  have lk := h.len
  have l2 : (shf S ks).length = ks.length := List.length_map _
  have e0 : asL (.lst ((shf S ks).map eP)) = some ((shf S ks).map eP) := rfl
  have ea := adj_lt (f := fun k => jm S k + pln k) h.pw
  have all1 : ∀ p, p ∈ shf S ks → d_t_is_entry [eP p] = .ok (.bl true) := fun p hp => by
    obtain ⟨k, hk, rfl⟩ := List.mem_map.mp hp
    obtain ⟨k0, kj⟩ := (h.mem k).mp hk
    exact entry_ok k0 (nn k k0) (by omega)
  have ea : adj (fun a b : Int × Int => decide (a.1 < b.1)) (shf S ks) = true := ea
  generalize shf S ks = ps at *
  unfold d_t_is_shelf
  dsimp only
  have il : isLst (.lst (ps.map eP)) = true := rfl
  rw [il, if_neg (by simp), e0, op_s, lc_map (g := fun _ => .bl true) (by omega) (fun p hp => by rw [all1 p hp, bind_s]), bind_s]
  have al : allD [.lst (ps.map fun _ => D.bl true)] = some (.bl true) := by
    have := all_ok (ns := ps.map fun _ => true)
    rw [List.map_map] at this
    rw [show (ps.map fun _ => D.bl true) = ps.map (D.bl ∘ fun _ => true) from rfl, this]
    simp [List.all_map]
  rw [al, op_s, tru_ok, op_s, bind_s, if_neg (by simp)]
  have ec : cutA (.lst (ps.map eP)) (some 1) none = some (.lst ((ps.drop 1).map eP)) := by
    by_cases hz : ps = []
    · subst hz; rfl
    · have := cut_back (ds := ps.map eP) (i := 1) (by rw [List.length_map]; exact List.length_pos_iff.mpr hz)
      show some (D.lst _) = _
      rw [show ((1 : Nat) : Int) = 1 from rfl] at this
      rw [this, List.map_drop]
  have len : (ps.zip (ps.drop 1)).length < 1000000 := by rw [List.length_zip]; omega
  rw [ec, op_s, zip_lst, op_s, lc_map (e := fun z => .tup [eP z.1, eP z.2]) (g := fun z => .bl (decide (z.1.1 < z.2.1))) len (fun z _ => by
    have eu : un2 (.tup [eP z.1, eP z.2]) = some (eP z.1, eP z.2) := rfl
    simp only [eu, op_s, i0P, ltI]), bind_s]
  have eb : allD [.lst ((ps.zip (ps.drop 1)).map fun z => D.bl (decide (z.1.1 < z.2.1)))] = some (.bl (adj (fun a b : Int × Int => decide (a.1 < b.1)) ps)) := by
    have := all_ok (ns := ((ps.zip (ps.drop 1)).map fun z => decide (z.1.1 < z.2.1)))
    rw [List.map_map] at this
    rw [show ((ps.zip (ps.drop 1)).map fun z => decide (z.1.1 < z.2.1)).all id = adj (fun a b : Int × Int => decide (a.1 < b.1)) ps from all_zip (p := fun a b : Int × Int => decide (a.1 < b.1))] at this
    exact this
  rw [eb, op_s, ea]
theorem ext_keys {S : Int → Int} {ks : List Int} : (exs S ks).map (·.1) = ks := by
  unfold exs
  rw [List.map_map]
  exact List.map_id _
theorem Shl.ext {S : Int → Int} {ks : List Int} {n : Nat} (h : Shl S ks n) : Ext n (exs S ks) where
  nd := by rw [ext_keys]; exact h.nd
  ok := fun p hp => by
    obtain ⟨k, hk, rfl⟩ := List.mem_map.mp hp
    exact (h.mem k).mp hk
  len := by unfold exs; rw [List.length_map]; exact h.len
theorem Shl.sum {S : Int → Int} {ks : List Int} {n : Nat} (h : Shl S ks n) : ∀ c, 0 ≤ c → sumTo (exs S ks) c = S c := by
  have nd := h.ext.nd
  have vj : ∀ c, 0 ≤ c → val (exs S ks) c = jm S c := fun c hc => by
    by_cases hk : c ∈ ks
    · have := val_mem (p := (c, jm S c)) nd (List.mem_map.mpr ⟨c, hk, rfl⟩)
      exact this
    · rw [val_no (by rw [ext_keys]; exact hk)]
      have : ¬ (0 ≤ c ∧ jm S c ≠ 0) := fun z => hk ((h.mem c).mpr z)
      exact Decidable.byContradiction fun z => this ⟨hc, fun e => z e.symm⟩
  have key : ∀ n : Nat, sumTo (exs S ks) n = S n := fun n => by
    induction n with
    | zero =>
      have := sum_jump (c := 0) nd
      rw [vj 0 (Int.le_refl _), sum_neg (c := 0 - 1) (fun p hp => (h.ext.ok p hp).1) (by omega)] at this
      unfold jm at this
      rw [if_pos rfl] at this
      show sumTo _ 0 = S 0
      omega
    | succ n ih =>
      have := sum_jump (c := ((n + 1 : Nat) : Int)) nd
      rw [vj _ (by omega)] at this
      unfold jm at this
      rw [if_neg (by omega), show ((n + 1 : Nat) : Int) - 1 = n by omega] at this
      omega
  intro c hc
  obtain ⟨n, rfl⟩ := Int.eq_ofNat_of_zero_le hc
  exact key n
/-! ### whether steps fall by one alone -/
def fallP (a b : Int × Int) : Bool := decide (a.2 - 1 ≤ b.2)
theorem adj_snoc {X : Type} {p : X → X → Bool} {q r : X} : ∀ {l : List X}, adj p (l ++ [q] ++ [r]) = (adj p (l ++ [q]) && p q r)
  | [] => by simp [adj]
  | [a] => by simp [adj]
  | a :: b :: l => by
    have ih := adj_snoc (p := p) (q := q) (r := r) (l := b :: l)
    show (p a b && adj p ((b :: l) ++ [q] ++ [r])) = ((p a b && adj p ((b :: l) ++ [q])) && p q r)
    rw [ih, Bool.and_assoc]
theorem tab_snoc {q r : Int × Int} {l : List (Int × Int)} : tab (l ++ [q] ++ [r]) = (tab (l ++ [q]) && near q r) := by
  cases l with
  | nil =>
    show (decide (q.1 = 0) && adj near [q, r]) = ((decide (q.1 = 0) && adj near [q]) && near q r)
    simp [adj]
  | cons a l =>
    show (decide (a.1 = 0) && adj near (a :: l ++ [q] ++ [r])) = ((decide (a.1 = 0) && adj near (a :: l ++ [q])) && near q r)
    rw [adj_snoc, Bool.and_assoc]
theorem Tb.snoc {q r : Int × Int} {l : List (Int × Int)} (h : Tb (l ++ [q])) (n : near q r = true) (r1 : 0 ≤ r.1) (r2 : 0 ≤ r.2) (hl : l.length < 800) : Tb (l ++ [q] ++ [r]) := ⟨by rw [tab_snoc, h.tab, n]; rfl, (fun p hp => by
  rcases List.mem_append.mp hp with hp | hp
  · exact h.nn p hp
  · rw [List.mem_singleton.mp hp]; exact ⟨r1, r2⟩), by simp; omega⟩
theorem near_of {a b : Int × Int} (h : a.1 < b.1) (g : a.2 ≠ b.2) : near a b = true := by
  unfold near
  rw [decide_eq_true h, decide_eq_false g]; rfl

/-! ### jumps at rising numbers: a table, and a shelf -/
structure Es (es : List (Int × Int)) (n : Nat) : Prop where
  pw : (es.map (·.1)).Pairwise (· < ·)
  ok : ∀ p, p ∈ es → 0 ≤ p.1 ∧ p.2 ≠ 0
  len : es.length ≤ n
theorem Es.ext {es : List (Int × Int)} {n : Nat} (h : Es es n) : Ext n es := ⟨h.pw.imp fun z => Int.ne_of_lt z, h.ok, h.len⟩
theorem Es.shl {es : List (Int × Int)} {n : Nat} (h : Es es n) : Shl (sumTo es) (es.map (·.1)) n := ⟨h.pw, fun k => key_jm h.ext (fun _ _ => rfl), by rw [List.length_map]; exact h.len⟩
def pos1 (es : List (Int × Int)) : List Int := (es.map (·.1)).filter fun k => decide (0 < k)
def shE (es : List (Int × Int)) : List (Int × Int) := es.map fun p => (p.1, p.2 + pln p.1)
def tbE (es : List (Int × Int)) : List (Int × Int) := stp (sumTo es) (0 :: pos1 es)
theorem Es.shf {es : List (Int × Int)} {n : Nat} (h : Es es n) : shf (sumTo es) (es.map (·.1)) = shE es := by
  unfold BR.shf shE
  rw [List.map_map]
  refine List.map_congr_left fun p hp => ?_
  show (p.1, jm (sumTo es) p.1 + pln p.1) = (p.1, p.2 + pln p.1)
  rw [← val_jm h.ext (fun _ _ => rfl) (h.ok p hp).1, val_mem h.ext.nd hp]
/-- the jumps of steps -/
def dfs : Int → List (Int × Int) → List (Int × Int)
  | _, [] => []
  | a, p :: r => if p.2 ≠ a then (p.1, p.2 - a) :: dfs p.2 r else dfs p.2 r
/-! ### both ways -/
structure EsF (es : List (Int × Int)) (n : Nat) : Prop where
  e : Es es n
  cp : ∀ p, p ∈ es → 0 ≤ p.2 + pln p.1
theorem EsF.jm {es : List (Int × Int)} {n : Nat} (h : EsF es n) : ∀ k, 0 ≤ k → 0 ≤ jm (sumTo es) k + pln k := fun k hk => by
  rw [← val_jm h.e.ext (fun _ _ => rfl) hk]
  by_cases z : k ∈ es.map (·.1)
  · obtain ⟨p, hp, rfl⟩ := List.mem_map.mp z
    rw [val_mem h.e.ext.nd hp]
    exact h.cp p hp
  · rw [val_no z]
    unfold pln; split <;> omega
theorem EsF.fl {es : List (Int × Int)} {n : Nat} (h : EsF es n) : ∀ c, 0 < c → sumTo es (c - 1) - 1 ≤ sumTo es c := fun c hc => by
  have := h.jm c (by omega)
  unfold BR.jm pln at this
  rw [if_neg (by omega), if_pos hc] at this
  omega
/-! ### told twice, refused -/
def bdP (p : Int × Int) : Prop := 0 ≤ p.1 ∧ p.1 < 2 ^ 150 ∧ 0 ≤ p.2 ∧ p.2 < 2 ^ 150
def bdR (p : Int × Int) : Prop := 0 ≤ p.1 ∧ p.1 < 2 ^ 150 ∧ 0 ≤ p.2 ∧ p.2 < 2 ^ 151
theorem bdP.r {p : Int × Int} (h : bdP p) : bdR p := ⟨h.1, h.2.1, h.2.2.1, Int.lt_trans h.2.2.2 (by decide)⟩
/-! ### tables -/
def Gt (ps : List (Int × Int)) : Prop := Tb ps ∧ adj fallP ps = true
/-! ### shelves -/
/-! ### numbers as texts -/
def nS (n : Int) : Str := Str.ofString (toString n)
def okn (n : Int) : Prop := 0 ≤ n ∧ n < 10 ^ 60
theorem nS_tl {n : Int} (h : 0 ≤ n) : TL.tl (nS n) = TL.numL n.toNat := by
  obtain ⟨k, rfl⟩ := Int.eq_ofNat_of_zero_le h
  exact TL.tl_num k
theorem okn.len {n : Int} (h : okn n) : (TL.numL n.toNat).length ≤ 60 := TL.numL_len (by decide) (by
  have := h.2
  have e : ((10 ^ 60 : Nat) : Int) = 10 ^ 60 := by decide
  omega)
theorem nS_len {n : Int} (h : okn n) : (nS n).length ≤ 60 := by rw [TL.len_tl, nS_tl h.1]; exact h.len
theorem strI_ok {n : Int} (h : okn n) : strI [.int n] = some (.str (nS n)) := if_pos (Nat.lt_of_le_of_lt (log_le h.1 (Int.lt_trans h.2 (show (10 : Int) ^ 60 < 2 ^ 200 by decide))) (by decide))
theorem log_ok {n : Int} (h : okn n) : n.natAbs.log2 < 1920 := Nat.lt_of_le_of_lt (log_le h.1 (Int.lt_trans h.2 (show (10 : Int) ^ 60 < 2 ^ 200 by decide))) (by decide)
/-- no number begins with 0 but 0 -/
theorem numL_head : ∀ {n : Nat}, 0 < n → ∀ {h : Nat} {r : List Nat}, TL.numL n = h :: r → h ≠ 48 := fun {n} => by
  induction n using Nat.strongRecOn with
  | _ n ih =>
    intro h0 h r e
    by_cases hn : n < 10
    · rw [TL.numL_lt hn] at e
      cases e
      omega
    · rw [TL.numL_step (by omega)] at e
      cases e2 : TL.numL (n / 10) with
      | nil => exact absurd e2 (TL.numL_ne _)
      | cons h' r' =>
        rw [e2] at e
        cases e
        exact ih (n / 10) (by omega) (by omega) e2
theorem eqSt {a b : Str} : eqD (.str a) (.str b) = some (decide (a = b)) := rfl
theorem neSt {a b : Str} : neD (.str a) (.str b) = some (!decide (a = b)) := rfl
theorem str_ne {a b : Str} (h : TL.tl a ≠ TL.tl b) : a ≠ b := fun e => h (by rw [e])
theorem tl_nil : TL.tl (Str.ofString "") = [] := TL.tl_ofString ""
theorem tl_sp : TL.tl (Str.ofString " ") = [32] := TL.tl_ofString " "
theorem figs : TL.tl (Str.ofString "0123456789") = [48, 49, 50, 51, 52, 53, 54, 55, 56, 57] := TL.tl_ofString "0123456789"
theorem zero_tl : TL.tl (Str.ofString "0") = [48] := TL.tl_ofString "0"
theorem at0 {α : Type} {a : α} {r : List α} : atI (a :: r) 0 = some a := by
  unfold atI ixN
  rw [if_pos (by omega), if_pos (by simp)]
  simp
theorem number_in_ok {n : Int} (h : okn n) : d_t_number_in [.str (nS n)] = .ok (.int n) := by
  have et := nS_tl h.1
  have ln := nS_len h
  obtain ⟨hd, r, er⟩ : ∃ hd r, TL.numL n.toNat = hd :: r := by
    cases e : TL.numL n.toNat with
    | nil => exact absurd e (TL.numL_ne _)
    | cons a b => exact ⟨a, b, rfl⟩
  have n0 : nS n ≠ Str.ofString "" := str_ne (by rw [et, er, tl_nil]; simp)
  have eA : asS (.str (nS n)) = some ((TL.numL n.toNat).map fun c => D.str ⟨#[c]⟩) := by
    show some ((TL.tl (nS n)).map _) = _
    rw [et]
  have sg : ∀ c, c ∈ TL.numL n.toNat → inSg (.str ⟨#[c]⟩) (.str "0123456789") = some true := fun c hc => by
    show some (decide (c ∈ TL.tl (Str.ofString "0123456789"))) = _
    have := TL.numL_digits n.toNat c hc
    rw [figs, decide_eq_true]
    simp only [List.mem_cons, List.not_mem_nil, or_false]
    omega
  have lc := lc_map (f := fun d5 (s4 : Unit) =>
      op (inSg d5 (D.str "0123456789")) fun b6 =>
      .ok (some (D.bl b6), ())) (e := fun c : Nat => D.str ⟨#[c]⟩) (g := fun _ => D.bl true) (s := ()) (xs := TL.numL n.toNat) (by have := h.len; omega) (fun c hc => by rw [sg c hc, op_s])
  have al : allD [.lst ((TL.numL n.toNat).map fun _ => D.bl true)] = some (.bl true) := by
    have := all_ok (ns := (TL.numL n.toNat).map fun _ => true)
    rw [List.map_map] at this
    rw [show ((TL.numL n.toNat).map fun _ => D.bl true) = (TL.numL n.toNat).map (D.bl ∘ fun _ => true) from rfl, this]
    simp [List.all_map]
  have ix : ixS (.str (nS n)) (.int 0) = some (.str ⟨#[hd]⟩) := by
    show (if (nS n).length ≤ sizeLine then (atI (TL.tl (nS n)) 0).map fun c => D.str ⟨#[c]⟩ else none) = _
    rw [if_pos (by rw [sizeLine_eq]; omega), et, er, at0]; rfl
  have it : itxD [.str (nS n)] = some (.int n) := by
    show (if (nS n).length ≤ 640 then (PySem.intText? (nS n)).map D.int else none) = _
    rw [if_pos (by omega)]
    have e := TL.int_num (n := n.toNat) (by have := h.len; omega)
    rw [show ((n.toNat : Nat) : Int) = n by have := h.1; omega] at e
    rw [show PySem.intText? (nS n) = some n from e]; rfl
  unfold d_t_number_in
  dsimp only
  rw [eqSt, op_s, decide_eq_false n0, if_neg (by simp), eA, op_s, lc, bind_s]
  dsimp only
  rw [al, op_s, tru_ok, op_s, if_neg (by simp), ix, op_s, eqSt, op_s]
  by_cases z : n = 0
  · subst z
    have e0 : nS 0 = Str.ofString "0" := rfl
    have ne : neD (.str (nS 0)) (.str "0") = some false := by rw [neSt, e0]; rfl
    by_cases y : (⟨#[hd]⟩ : Str) = Str.ofString "0"
    · rw [decide_eq_true y, if_pos rfl, ne, op_s, bind_s, bind_s, if_neg (by simp), it, op_s]
    · rw [decide_eq_false y, if_neg (by simp), bind_s, bind_s, if_neg (by simp), it, op_s]
  · have y : (⟨#[hd]⟩ : Str) ≠ Str.ofString "0" := str_ne (by
      rw [zero_tl]
      show [hd] ≠ [48]
      have := numL_head (n := n.toNat) (by have := h.1; omega) er
      simpa using this)
    rw [decide_eq_false y, if_neg (by simp), bind_s, bind_s, if_neg (by simp), it, op_s]
/-! ### words -/
structure Mk (mk : Str) (c : Nat) : Prop where
  tl : TL.tl mk = [c]
  out : c < 48 ∨ 57 < c
  sp : c ≠ 32
  ch : c < 128
theorem mk_colon : Mk (Str.ofString ":") 58 := ⟨TL.tl_ofString ":", by decide, by decide, by decide⟩
theorem mk_dash : Mk (Str.ofString "-") 45 := ⟨TL.tl_ofString "-", by decide, by decide, by decide⟩
theorem Mk.len {mk : Str} {c : Nat} (h : Mk mk c) : mk.length = 1 := by rw [TL.len_tl, h.tl]; rfl
def eT : Option Int → Str
  | none => Str.ofString ""
  | some b => nS b
def okW (s : Say) : Prop := okn s.1 ∧ ∀ b, s.2 = some b → okn b
def wS (mk : Str) (s : Say) : Str := nS s.1 ++ mk ++ eT s.2
theorem eT_len {s : Say} (h : okW s) : (eT s.2).length ≤ 60 := by
  obtain ⟨a, o⟩ := s
  cases o with
  | none =>
    show (Str.ofString "").length ≤ 60
    rw [TL.len_tl, tl_nil]; decide
  | some b => exact nS_len (h.2 b rfl)
theorem app_len {a b : Str} : (a ++ b).length = a.length + b.length := by rw [TL.len_tl, TL.tl_append, List.length_append, ← TL.len_tl, ← TL.len_tl]
theorem wS_len {mk : Str} {c : Nat} (k : Mk mk c) {s : Say} (h : okW s) : (wS mk s).length ≤ 121 := by
  have h1 := nS_len h.1
  have h2 := eT_len h
  have h3 := k.len
  unfold wS
  rw [app_len, app_len]
  omega
theorem wS_tl {mk : Str} {c : Nat} (k : Mk mk c) {s : Say} (h : okW s) : TL.tl (wS mk s) = TL.numL s.1.toNat ++ c :: TL.tl (eT s.2) := by
  unfold wS
  rw [TL.tl_append, TL.tl_append, nS_tl h.1.1, k.tl, List.append_assoc]; rfl
theorem wS_free {mk : Str} {c : Nat} (k : Mk mk c) {s : Say} (h : okW s) : 32 ∉ TL.tl (wS mk s) := by
  rw [wS_tl k h]
  intro z
  rcases List.mem_append.mp z with z | z
  · exact TL.numL_free (by decide) z
  · rcases List.mem_cons.mp z with z | z
    · exact k.sp z.symm
    · obtain ⟨a, o⟩ := s
      cases o with
      | none =>
        have z : 32 ∈ TL.tl (Str.ofString "") := z
        rw [tl_nil] at z; cases z
      | some b =>
        have z : 32 ∈ TL.tl (nS b) := z
        rw [nS_tl (h.2 b rfl).1] at z
        exact TL.numL_free (by decide) z
def txt (mk : Str) (xs : List Say) : Str := Txt.join (Str.ofString " ") (xs.map (wS mk))
theorem add_str {a b : Str} (h : a.length + b.length < 100000) : addD (.str a) (.str b) = some (.str (a ++ b)) := if_pos (by rw [sizeLine_eq]; omega)
theorem sum_le {l : List Str} {n : Nat} (h : ∀ y, y ∈ l → y.length ≤ n) : (l.map (·.length)).sum ≤ n * l.length := by
  induction l with
  | nil => simp
  | cons y r ih =>
    have h1 := ih fun z hz => h z (List.mem_cons_of_mem _ hz)
    have h2 := h y List.mem_cons_self
    rw [List.map_cons, List.sum_cons, List.length_cons, Nat.mul_add, Nat.mul_one]
    omega
theorem join_ok {mk : Str} {c : Nat} (k : Mk mk c) {xs : List Say} (h : ∀ s, s ∈ xs → okW s) (hl : xs.length ≤ 1000) : joiD [.str " ", .lst ((xs.map (wS mk)).map D.str)] = some (.str (txt mk xs)) := by
  show (strsD ((xs.map (wS mk)).map D.str)).bind (joiS " ") = _
  rw [strs_ok]
  have l1 : (Str.ofString " ").length = 1 := by rw [TL.len_tl, tl_sp]; rfl
  have := sum_le (l := xs.map (wS mk)) (n := 121) fun y hy => by
    obtain ⟨s, hs, rfl⟩ := List.mem_map.mp hy
    exact wS_len k (h s hs)
  rw [List.length_map] at this
  show (if _ then _ else none) = _
  rw [if_pos (by rw [List.length_map, l1]; omega)]; rfl
theorem joinL_len {S : List Nat} : ∀ {ps : List (List Nat)}, (TL.joinL S ps).length ≤ (ps.map (·.length)).sum + ps.length * S.length
  | [] => by simp [TL.joinL]
  | [p] => by simp [TL.joinL]
  | p :: q :: r => by
    have ih := joinL_len (S := S) (ps := q :: r)
    show (p ++ (S ++ TL.joinL S (q :: r))).length ≤ _
    rw [List.length_append, List.length_append, List.map_cons, List.sum_cons, List.length_cons, Nat.succ_mul]
    omega
theorem txt_tl {mk : Str} {xs : List Say} : TL.tl (txt mk xs) = TL.joinL [32] ((xs.map (wS mk)).map TL.tl) := by
  unfold txt
  rw [TL.join_eq, TL.tl_join, tl_sp]
theorem txt_len {mk : Str} {c : Nat} (k : Mk mk c) {xs : List Say} (h : ∀ s, s ∈ xs → okW s) (hl : xs.length ≤ 1000) : (txt mk xs).length ≤ 122000 := by
  rw [TL.len_tl, txt_tl]
  refine Nat.le_trans joinL_len ?_
  have := sum_le (l := xs.map (wS mk)) (n := 121) fun y hy => by
    obtain ⟨s, hs, rfl⟩ := List.mem_map.mp hy
    exact wS_len k (h s hs)
  rw [List.length_map] at this
  have e : ((xs.map (wS mk)).map TL.tl).map (·.length) = (xs.map (wS mk)).map (·.length) := by
    rw [List.map_map]
    exact List.map_congr_left fun y _ => (TL.len_tl y).symm
  rw [e]
  simp only [List.length_map, List.length_singleton]
  omega
theorem words_ok {mk : Str} {c : Nat} (k : Mk mk c) {xs : List Say} (h : ∀ s, s ∈ xs → okW s) (hl : xs.length ≤ 1000) : d_t_words_in [.str (txt mk xs)] = .ok (.lst ((xs.map (wS mk)).map D.str)) := by
  have iS : isStr (.str (txt mk xs)) = true := rfl
  unfold d_t_words_in
  dsimp only
  rw [iS, if_neg (by simp), neSt, op_s]
  cases xs with
  | nil =>
    have e : txt mk [] = Str.ofString "" := rfl
    rw [e, decide_eq_true rfl, if_neg (by simp), bind_s]; rfl
  | cons s r =>
    have ne : txt mk (s :: r) ≠ Str.ofString "" := str_ne (by
      rw [txt_tl, tl_nil]
      have hs := wS_tl k (h s List.mem_cons_self)
      intro z
      have : TL.tl (wS mk s) = [] := by
        cases r with
        | nil => exact z
        | cons q r => exact (List.append_eq_nil_iff.mp z).1
      rw [hs] at this
      simp at this)
    have ty : tyG "str" (.str (txt mk (s :: r))) = some () := rfl
    have l1 : (Str.ofString " ").length = 1 := by rw [TL.len_tl, tl_sp]; rfl
    have sp : splD [.str (txt mk (s :: r)), .str " "] = some (((s :: r).map (wS mk)).map D.str) := by
      show (if ((Str.ofString " ").length == 0) = false ∧ (txt mk (s :: r)).length + 2 ≤ sizeLine then some ((Txt.split (txt mk (s :: r)) (Str.ofString " ")).map D.str) else none) = _
      have tl := txt_len k h hl
      rw [if_pos ⟨by rw [l1]; rfl, by rw [sizeLine_eq]; omega⟩]
      unfold txt
      rw [TL.split_join (y := Str.ofString " ") (s := 32) (S := []) tl_sp (by decide +kernel) (by simp) fun p hp => by
        obtain ⟨q, hq, rfl⟩ := List.mem_map.mp hp
        exact wS_free k (h q hq)]
    rw [decide_eq_false ne, if_pos (by simp), ty, op_s, sp, op_s, bind_s]
/-- texts made one by one -/
theorem word_loop {mk : Str} {f : D → List D → Res (List D)} (hf : ∀ (s : Say) (l : List Str), okW s → l.length < 900000 → f (eS s) (l.map D.str) = .ok ((l ++ [wS mk s]).map D.str)) : ∀ {xs : List Say} {l : List Str}, (∀ s, s ∈ xs → okW s) → l.length + xs.length < 900000 → forS (xs.map eS) (l.map D.str) f = .ok ((l ++ xs.map (wS mk)).map D.str)
  | [], l, _, _ => by rw [List.map_nil, forS_no, List.map_nil, List.append_nil]
  | s :: r, l, h, hl => by
    rw [List.length_cons] at hl
    rw [List.map_cons, forS_c (hf s l (h s List.mem_cons_self) (by omega)), word_loop hf (fun q hq => h q (List.mem_cons_of_mem _ hq)) (by rw [List.length_append, List.length_singleton]; omega), List.append_assoc]; rfl
theorem eS_un {s : Say} : un2 (eS s) = some (.int s.1, eO s.2) := rfl
theorem pairs_ok {mk : Str} {c : Nat} (k : Mk mk c) {xs : List Say} (h : ∀ s, s ∈ xs → okW s) (hl : xs.length ≤ 1000) : d_l_pairs [.lst (xs.map eS), .str mk] = .ok (.str (txt mk xs)) := by
  have e0 : asL (.lst (xs.map eS)) = some (xs.map eS) := rfl
  have ty : tyG "str" (.str " ") = some () := rfl
  unfold d_l_pairs
  dsimp only
  rw [e0, op_s]
  have := word_loop (mk := mk) (f := fun d4 s3 =>
      op (un2 d4) fun p5 =>
      op (strI [p5.1]) fun t6 =>
      op (addD t6 (.str mk)) fun t7 =>
      ((op (isND p5.2 D.non) fun b9 =>
      if b9 = true then (.ok (D.str "")) else (op (strI [p5.2]) fun t10 =>
      .ok t10) : Res (D))).bind fun a8 =>
      op (addD t7 a8) fun t11 =>
      op (appL s3 [t11]) fun a12 =>
      .ok a12.2) (fun s l hs hll => by
    have h1 := nS_len hs.1
    have h2 := eT_len hs
    have h3 := k.len
    have ee : (op (isND (eO s.2) D.non) fun b9 => if b9 = true then (.ok (D.str "")) else (op (strI [eO s.2]) fun t10 => .ok t10) : Res D) = .ok (.str (eT s.2)) := by
      obtain ⟨a, o⟩ := s
      cases o with
      | none => rfl
      | some b =>
        have nn : isND (.int b) .non = some false := rfl
        show (op (isND (.int b) .non) fun b9 => if b9 = true then (.ok (D.str "")) else (op (strI [.int b]) fun t10 => .ok t10) : Res D) = _
        rw [nn, op_s, if_neg (by simp), strI_ok (hs.2 b rfl), op_s]; rfl
    rw [eS_un, op_s]
    dsimp only
    rw [strI_ok hs.1, op_s, add_str (by omega), op_s, ee, bind_s, add_str (by rw [app_len]; omega), op_s, app1 (by rw [List.length_map]; omega), op_s, List.map_append]; rfl) (xs := xs) (l := []) h (by simp; omega)
  have this : forS (xs.map eS) ([] : List D) _ = _ := this
  rw [this, bind_s, ty, op_s, List.nil_append, join_ok k h hl, op_s]

/-! ### pairs and stretches read -/
theorem k_ne {mk : Str} {c : Nat} (k : Mk mk c) : mk ≠ Str.ofString "" := str_ne (by rw [k.tl, tl_nil]; simp)
theorem pair_ok2 {mk : Str} {c : Nat} (k : Mk mk c) {a b : Int} (ha : okn a) (hb : okn b) : d_t_pair_in [.str (wS mk (a, some b)), .str mk] = .ok (.tup [.int a, .int b]) := by
  have ty : tyG "str" (.str (wS mk (a, some b))) = some () := rfl
  have lw := wS_len k (s := (a, some b)) ⟨ha, fun x e => by cases e; exact hb⟩
  have pa : parD [.str (wS mk (a, some b)), .str mk] = some (.tup [.str (nS a), .str mk, .str (nS b)]) := by
    show (if (mk.length == 0) = false ∧ (wS mk (a, some b)).length ≤ sizeLine then some (D.tup [.str (Txt.partition (wS mk (a, some b)) mk).1, .str (Txt.partition (wS mk (a, some b)) mk).2.1, .str (Txt.partition (wS mk (a, some b)) mk).2.2]) else none) = _
    rw [if_pos ⟨by rw [k.len]; rfl, by rw [sizeLine_eq]; omega⟩]
    have e : Txt.partition (wS mk (a, some b)) mk = (nS a, mk, nS b) := TL.partition_app (s := c) (S := []) k.tl (by rw [nS_tl ha.1]; exact TL.numL_free k.out)
    rw [e]
  have u3 : un3 (.tup [.str (nS a), .str mk, .str (nS b)]) = some (.str (nS a), .str mk, .str (nS b)) := rfl
  have nn : inNT .non (.tup [.int a, .int b]) = some false := rfl
  unfold d_t_pair_in
  dsimp only
  rw [ty, op_s, pa, op_s, u3, op_s]
  dsimp only
  rw [number_in_ok ha, bind_s, number_in_ok hb, bind_s, eqSt, op_s, decide_eq_false (k_ne k), if_neg (by simp), nn, op_s, bind_s, if_neg (by simp), bind_s]
theorem dash_eq : Str.ofString "-" = ⟨#[45]⟩ := TL.ext_tl (by rw [mk_dash.tl])
theorem endsw {x : Str} {c : Nat} : Txt.endswith x ⟨#[c]⟩ = decide ((TL.tl x).getLast? = some c) := by
  have h := StrLaws.subAt_one x c (x.length - 1)
  have e : (TL.tl x).getLast? = x.cps.toList[x.length - 1]? := by
    rw [List.getLast?_eq_getElem?, ← TL.len_tl]
  rw [e]
  unfold Txt.endswith
  by_cases z : x.cps.toList[x.length - 1]? = some c
  · obtain ⟨h1, h2⟩ := h.mpr z
    have h1 : x.length - 1 + 1 ≤ x.length := h1
    rw [decide_eq_true z]
    have : (decide (0 + (⟨#[c]⟩ : Str).length ≤ x.length)) = true := decide_eq_true (by show 0 + 1 ≤ x.length; omega)
    rw [this]
    show (true && Builtin.Str.subAt x ⟨#[c]⟩ (x.length - 1)) = true
    rw [h2]; rfl
  · rw [decide_eq_false z]
    by_cases y : 0 + 1 ≤ x.length
    · have : (decide (0 + (⟨#[c]⟩ : Str).length ≤ x.length)) = true := decide_eq_true y
      rw [this]
      show (true && Builtin.Str.subAt x ⟨#[c]⟩ (x.length - 1)) = false
      cases s : Builtin.Str.subAt x ⟨#[c]⟩ (x.length - 1) with
      | false => rfl
      | true => exact absurd (h.mp ⟨by show x.length - 1 + 1 ≤ x.length; omega, s⟩) z
    · have : (decide (0 + (⟨#[c]⟩ : Str).length ≤ x.length)) = false := decide_eq_false y
      rw [this]; rfl
theorem cut_last {a : Int} (h : okn a) : cutT (.str (wS (Str.ofString "-") (a, none))) none (some (-1)) = some (.str (nS a)) := by
  have lw := wS_len mk_dash (s := (a, none)) ⟨h, fun x e => by cases e⟩
  have tw := wS_tl mk_dash (s := (a, none)) ⟨h, fun x e => by cases e⟩
  have tw : TL.tl (wS (Str.ofString "-") (a, none)) = TL.numL a.toNat ++ [45] := by
    rw [tw]
    show TL.numL a.toNat ++ 45 :: TL.tl (Str.ofString "") = _
    rw [tl_nil]
  have l2 : (wS (Str.ofString "-") (a, none)).length = (TL.numL a.toNat).length + 1 := by rw [TL.len_tl, tw, List.length_append]; rfl
  show (if (wS (Str.ofString "-") (a, none)).length ≤ sizeLine then some (D.str (cutS (wS (Str.ofString "-") (a, none)) none (some (-1)))) else none) = _
  rw [if_pos (by rw [sizeLine_eq]; omega)]
  have : cutS (wS (Str.ofString "-") (a, none)) none (some (-1)) = nS a := TL.ext_tl (by
    show ((TL.tl (wS (Str.ofString "-") (a, none))).drop (HT.sIx (wS (Str.ofString "-") (a, none)).length 0 none)).take (HT.sIx (wS (Str.ofString "-") (a, none)).length (wS (Str.ofString "-") (a, none)).length (some (-1)) - HT.sIx (wS (Str.ofString "-") (a, none)).length 0 none) = _
    rw [HT.sIx_none, List.drop_zero, tw, nS_tl h.1]
    have e : HT.sIx (wS (Str.ofString "-") (a, none)).length (wS (Str.ofString "-") (a, none)).length (some (-1)) - 0 = (TL.numL a.toNat).length := by
      show (if (-1 : Int) < 0 then ((-1 : Int) + ((wS (Str.ofString "-") (a, none)).length : Int)).toNat else min (-1 : Int).toNat (wS (Str.ofString "-") (a, none)).length) - 0 = _
      rw [if_pos (by decide), l2]
      omega
    rw [e, List.take_left' rfl])
  rw [this]
theorem stretch_in_ok {s : Say} (h : okW s) (hs : ∀ b, s.2 = some b → s.1 ≤ b) : d_t_stretch_in [.str (wS (Str.ofString "-") s)] = .ok (eS s) := by
  obtain ⟨a, o⟩ := s
  have ha : okn a := h.1
  have tw := wS_tl mk_dash h
  have ty : tyG "str" (.str (wS (Str.ofString "-") (a, o))) = some () := rfl
  have ed : endD [.str (wS (Str.ofString "-") (a, o)), .str "-"] = some (.bl (decide ((TL.tl (wS (Str.ofString "-") (a, o))).getLast? = some 45))) := by
    show some (D.bl (Txt.endswith _ (Str.ofString "-"))) = _
    rw [dash_eq, endsw]
  unfold d_t_stretch_in
  dsimp only
  cases o with
  | none =>
    have e1 : (TL.tl (wS (Str.ofString "-") (a, none))).getLast? = some 45 := by
      rw [tw]
      show (TL.numL a.toNat ++ 45 :: TL.tl (Str.ofString "")).getLast? = _
      rw [tl_nil]; simp
    have nn : notND (.int a) .non = some true := rfl
    rw [ty, op_s, ed, op_s, tru_ok, op_s, decide_eq_true e1, if_pos rfl, negI, op_s, asI_ok, op_s, cut_last ha, op_s, number_in_ok ha, bind_s, nn, op_s, bind_s, if_pos rfl, op_s, asI_ok, op_s, cut_last ha, op_s, number_in_ok ha, bind_s]; rfl
  | some b =>
    have hb := h.2 b rfl
    have hab : a ≤ b := hs b rfl
    have e1 : (TL.tl (wS (Str.ofString "-") (a, some b))).getLast? ≠ some 45 := by
      rw [tw]
      show (TL.numL a.toNat ++ 45 :: TL.tl (nS b)).getLast? ≠ _
      rw [nS_tl hb.1]
      intro z
      cases e : TL.numL b.toNat with
      | nil => exact TL.numL_ne _ e
      | cons q r =>
        rw [e, List.getLast?_append] at z
        have e2 : (45 :: q :: r).getLast? = (q :: r).getLast? := by simp
        rw [e2] at z
        have : 45 ∈ TL.numL b.toNat := by
          rw [e]
          cases g : (q :: r).getLast? with
          | none => simp at g
          | some x =>
            rw [g] at z
            have : x = 45 := by simpa using z
            rw [← this]
            exact List.mem_of_getLast? g
        exact TL.numL_free (by decide) this
    have nn : isND (.tup [.int a, .int b]) .non = some false := rfl
    have i1 : ixD (.tup [.int a, .int b]) (.int 1) = some (.int b) := rfl
    have i0 : ixD (.tup [.int a, .int b]) (.int 0) = some (.int a) := rfl
    rw [ty, op_s, ed, op_s, tru_ok, op_s, decide_eq_false e1, if_neg (by simp), bind_s, if_neg (by simp), pair_ok2 mk_dash ha hb, bind_s, nn, op_s, if_neg (by simp), i1, op_s, i0, op_s, ltI, op_s, decide_eq_false (by omega), bind_s, if_neg (by simp), bind_s]; rfl
/-! ### shown -/
theorem empty_app {x : Str} : Str.empty ++ x = x := TL.ext_tl (by
  rw [TL.tl_append]
  show ([] : List Nat) ++ _ = _
  rfl)
theorem stI {acc : Str} {n : Int} (h : okn n) (ha : acc.length ≤ 1000) : stS acc (.int n) = some (acc ++ nS n) := if_pos ⟨log_ok h, by
  have := nS_len h
  show (acc ++ nS n).length ≤ _
  rw [app_len, sizeLine_eq]; omega⟩
theorem stT {acc y : Str} (hy : y.length ≤ 1000) (ha : acc.length ≤ 1000) : stS acc (.str y) = some (acc ++ y) := if_pos ⟨by rw [sizeLine_eq]; omega, by rw [app_len, sizeLine_eq]; omega⟩
theorem emp_len : Str.empty.length = 0 := rfl
def sayP (p : Int × Int) : Say := (p.1, some p.2)
theorem sayP_map {ps : List (Int × Int)} : ps.map eP = (ps.map sayP).map eS := by rw [List.map_map]; rfl
theorem show_ok {mk : Str} {c : Nat} (k : Mk mk c) {xs : List Say} (h : ∀ s, s ∈ xs → okW s) (hl : xs.length ≤ 1000) {f : D → Unit → Res (Option D × Unit)} (hf : ∀ s, s ∈ xs → f (eS s) () = .ok (some (.str (wS mk s)), ())) : ((op (tyG "str" (D.str " ")) fun _ =>
      op (asL (.lst (xs.map eS))) fun ds3 =>
      (lcF ds3 (() : Unit) [] f).bind fun q10 =>
      op (joiD [(D.str " "), (D.lst q10.1)]) fun t11 =>
      .ok t11 : Res D)) = .ok (.str (txt mk xs)) := by
  have ty : tyG "str" (.str " ") = some () := rfl
  have e0 : asL (.lst (xs.map eS)) = some (xs.map eS) := rfl
  rw [ty, op_s, e0, op_s, lc_map (e := eS) (g := fun s => .str (wS mk s)) (by omega) hf, bind_s]
  dsimp only
  have e : xs.map (fun s => D.str (wS mk s)) = (xs.map (wS mk)).map D.str := by rw [List.map_map]; rfl
  rw [e, join_ok k h hl, op_s]
theorem end_text_ok {o : Option Int} (h : ∀ b, o = some b → okn b) : d_t_end_text [eO o] = .ok (.str (eT o)) := by
  unfold d_t_end_text
  dsimp only
  cases o with
  | none => rfl
  | some b =>
    have nn : isND (eO (some b)) .non = some false := rfl
    have e : eO (some b) = .int b := rfl
    rw [nn, op_s, if_neg (by simp), e, strI_ok (h b rfl), op_s, bind_s]; rfl
theorem show_table_ok {xs : List Say} (h : ∀ s, s ∈ xs → okW s) (hp : ∀ s, s ∈ xs → ∃ b, s.2 = some b) (hl : xs.length ≤ 1000) (ht : d_t_is_table [.lst (xs.map eS)] = .ok (.bl true)) : d_t_show_table [.lst (xs.map eS)] = .ok (.str (txt (Str.ofString ":") xs)) := by
  unfold d_t_show_table
  dsimp only
  rw [ht, bind_s, tru_ok, op_s, if_neg (by simp)]
  refine show_ok mk_colon h hl fun s hs => ?_
  obtain ⟨b, e⟩ := hp s hs
  obtain ⟨a, o⟩ := s
  cases e
  have w := h _ hs
  have l1 := nS_len w.1
  have l3 := mk_colon.len
  have e1 : eO (some b) = .int b := rfl
  rw [eS_un, op_s]
  dsimp only
  rw [stI w.1 (by rw [emp_len]; omega), op_s, stT (by omega) (by rw [app_len, emp_len]; omega), op_s, e1, stI (w.2 b rfl) (by rw [app_len, app_len, emp_len]; omega), op_s, empty_app]; rfl
theorem show_shelf_ok {xs : List Say} (h : ∀ s, s ∈ xs → okW s) (hp : ∀ s, s ∈ xs → ∃ b, s.2 = some b) (hl : xs.length ≤ 1000) (ht : d_t_is_shelf [.lst (xs.map eS)] = .ok (.bl true)) : d_t_show_shelf [.lst (xs.map eS)] = .ok (.str (txt (Str.ofString ":") xs)) := by
  unfold d_t_show_shelf
  dsimp only
  rw [ht, bind_s, tru_ok, op_s, if_neg (by simp)]
  refine show_ok mk_colon h hl fun s hs => ?_
  obtain ⟨b, e⟩ := hp s hs
  obtain ⟨a, o⟩ := s
  cases e
  have w := h _ hs
  have l1 := nS_len w.1
  have l3 := mk_colon.len
  have e1 : eO (some b) = .int b := rfl
  rw [eS_un, op_s]
  dsimp only
  rw [stI w.1 (by rw [emp_len]; omega), op_s, stT (by omega) (by rw [app_len, emp_len]; omega), op_s, e1, stI (w.2 b rfl) (by rw [app_len, app_len, emp_len]; omega), op_s, empty_app]; rfl
theorem stretchS_ok {s : Say} (h0 : 0 ≤ s.1) (h1 : ∀ b, s.2 = some b → s.1 ≤ b) : d_t_is_stretch [eS s] = .ok (.bl true) := by
  obtain ⟨a, o⟩ := s
  have h0 : 0 ≤ a := h0
  have i0 : ixD (eS (a, o)) (.int 0) = some (.int a) := rfl
  have i1 : ixD (eS (a, o)) (.int 1) = some (eO o) := rfl
  have l2 : lenD [eS (a, o)] = some (.int 2) := rfl
  have ca : cnt (.int a) = true := decide_eq_true h0
  unfold d_t_is_stretch
  dsimp only
  rw [if_neg (by simp [eS, isTup]), l2, op_s, neI, op_s, if_neg (by simp), i0, op_s, number_ok, bind_s, ca, tru_ok, op_s, bind_s, if_neg (by simp), i1, op_s]
  cases o with
  | none =>
    have nn : isND (eO none) .non = some true := rfl
    rw [nn, op_s, asB_ok, op_s, if_pos rfl, bind_s]
  | some b =>
    have hb : a ≤ b := h1 b rfl
    have nn : isND (eO (some b)) .non = some false := rfl
    have e0 : eO (some b) = .int b := rfl
    have cb : cnt (.int b) = true := decide_eq_true (by omega)
    rw [nn, op_s, asB_ok, op_s, if_neg (by simp), e0, op_s, number_ok, bind_s, cb, asB_ok, op_s, if_pos rfl, op_s, op_s, geI, op_s, bind_s, bind_s]
    rw [decide_eq_true hb]
theorem show_stretches_ok {xs : List Say} (h : ∀ s, s ∈ xs → okW s) (hs : ∀ s, s ∈ xs → ∀ b, s.2 = some b → s.1 ≤ b) (hl : xs.length ≤ 1000) {r : D} (hr : r = .lst (xs.map eS) ∨ r = .tup (xs.map eS)) : d_t_show_stretches [r] = .ok (.str (txt (Str.ofString "-") xs)) := by
  have e0 : asL r = some (xs.map eS) := by rcases hr with rfl | rfl <;> rfl
  have ei : (isLst r || isTup r) = true := by rcases hr with rfl | rfl <;> rfl
  have lc := lc_map (f := fun d4 (s3 : Unit) =>
      (d_t_is_stretch [d4]).bind fun a5 =>
      .ok (some a5, ())) (e := eS) (g := fun _ => D.bl true) (s := ()) (xs := xs) (by omega) (fun s q => by rw [stretchS_ok (h s q).1.1 (hs s q), bind_s])
  have al : allD [.lst (xs.map fun _ => D.bl true)] = some (.bl true) := by
    have := all_ok (ns := xs.map fun _ => true)
    rw [List.map_map] at this
    rw [show (xs.map fun _ => D.bl true) = xs.map (D.bl ∘ fun _ => true) from rfl, this]
    simp [List.all_map]
  unfold d_t_show_stretches
  dsimp only
  rw [ei, if_neg (by simp), e0, op_s, lc, bind_s]
  dsimp only
  rw [al, op_s, tru_ok, op_s, bind_s, if_neg (by simp)]
  refine show_ok mk_dash h hl fun s q => ?_
  have w := h _ q
  have l1 := nS_len w.1
  have l3 := mk_dash.len
  have l4 := eT_len w
  rw [eS_un, op_s]
  dsimp only
  rw [stI w.1 (by rw [emp_len]; omega), op_s, stT (by omega) (by rw [app_len, emp_len]; omega), op_s, end_text_ok w.2, bind_s, stT (by omega) (by rw [app_len, app_len, emp_len]; omega), op_s, empty_app]; rfl
/-! ### read back -/
theorem read_loop {mk : Str} {xs : List Say} {F : D → List D → Res (List D)} (hf : ∀ (i : Int) (done : List Say) (s : Say) (rest : List Say), xs = done ++ s :: rest → F (.tup [.int i, .str (wS mk s)]) (done.map eS) = .ok ((done ++ [s]).map eS)) :
    ∀ {rest done : List Say} {i : Nat}, xs = done ++ rest → forS (enumF i ((rest.map (wS mk)).map D.str)) (done.map eS) F = .ok (xs.map eS)
  | [], done, i, e => by
    rw [List.append_nil] at e
    subst e
    rfl
  | s :: r, done, i, e => by
    show forS (D.tup [.int i, .str (wS mk s)] :: enumF (i + 1) ((r.map (wS mk)).map D.str)) _ F = _
    rw [forS_c (hf i done s r e)]
    exact read_loop hf (rest := r) (done := done ++ [s]) (by rw [List.append_assoc]; exact e)
theorem enum_w {l : List Str} : enumD (.lst (l.map D.str)) = some (enumF 0 (l.map D.str)) := rfl
theorem read_table_ok {xs : List Say} (h : ∀ s, s ∈ xs → okW s) (hp : ∀ s, s ∈ xs → ∃ b, s.2 = some b) (hl : xs.length ≤ 900) (ne : xs ≠ []) (ht : ∀ done s rest, xs = done ++ s :: rest → d_t_is_table [.lst ((done ++ [s]).map eS)] = .ok (.bl true)) : d_t_read_table [.str (txt (Str.ofString ":") xs)] = .ok (xs.map eS) := by
  unfold d_t_read_table
  dsimp only
  rw [words_ok mk_colon h (by omega), bind_s, enum_w, op_s]
  have lp := read_loop (mk := Str.ofString ":") (xs := xs) (F := fun d5 s4 =>
      op (un2 d5) fun p6 =>
      (d_t_pair_in [p6.2, (D.str ":")]).bind fun a7 =>
      ((op (isND a7 D.non) fun b9 =>
      if b9 = true then (.ok true) else (op (addD (D.lst s4) (D.lst [a7])) fun t10 =>
      (d_t_is_table [t10]).bind fun a11 =>
      op (truD a11) fun b12 =>
      .ok (!b12)) : Res (Bool))).bind fun a8 =>
      if a8 = true then (.bad) else (op (appL s4 [a7]) fun a13 =>
      .ok a13.2)) (fun i done s rest e => by
    have hs : s ∈ xs := by rw [e]; simp
    have ld : done.length < xs.length := by rw [e]; simp
    obtain ⟨b, eb⟩ := hp s hs
    obtain ⟨a, o⟩ := s
    cases eb
    have w := h _ hs
    have u2 : un2 (.tup [.int i, .str (wS (Str.ofString ":") (a, some b))]) = some (.int i, .str (wS (Str.ofString ":") (a, some b))) := rfl
    have nn : isND (.tup [.int a, .int b]) .non = some false := rfl
    have es : D.tup [.int a, .int b] = eS (a, some b) := rfl
    have ad : addD (.lst (done.map eS)) (.lst [eS (a, some b)]) = some (.lst ((done ++ [(a, some b)]).map eS)) := by
      rw [addL (by rw [List.length_map, List.length_singleton]; omega), List.map_append]; rfl
    rw [u2, op_s]
    dsimp only
    rw [pair_ok2 mk_colon w.1 (w.2 b rfl), bind_s, nn, op_s, if_neg (by simp), es, ad, op_s, ht done _ rest e, bind_s, tru_ok, op_s, bind_s, if_neg (by simp), app1 (by rw [List.length_map]; omega), op_s, List.map_append]; rfl) (rest := xs) (done := []) (i := 0) rfl
  have lp : forS (enumF 0 ((xs.map (wS (Str.ofString ":"))).map D.str)) ([] : List D) _ = _ := lp
  rw [lp, bind_s, eq_nil (shp_row.mono (by omega)), op_s]
  cases xs with
  | nil => exact absurd rfl ne
  | cons s r => rfl
theorem read_shelf_ok {xs : List Say} (h : ∀ s, s ∈ xs → okW s) (hp : ∀ s, s ∈ xs → ∃ b, s.2 = some b) (hl : xs.length ≤ 900) (ht : ∀ done s rest, xs = done ++ s :: rest → d_t_is_shelf [.lst ((done ++ [s]).map eS)] = .ok (.bl true)) : d_t_read_shelf [.str (txt (Str.ofString ":") xs)] = .ok (xs.map eS) := by
  unfold d_t_read_shelf
  dsimp only
  rw [words_ok mk_colon h (by omega), bind_s, enum_w, op_s]
  have lp := read_loop (mk := Str.ofString ":") (xs := xs) (F := fun d5 s4 =>
      op (un2 d5) fun p6 =>
      (d_t_pair_in [p6.2, (D.str ":")]).bind fun a7 =>
      ((op (isND a7 D.non) fun b9 =>
      if b9 = true then (.ok true) else (op (addD (D.lst s4) (D.lst [a7])) fun t10 =>
      (d_t_is_shelf [t10]).bind fun a11 =>
      op (truD a11) fun b12 =>
      .ok (!b12)) : Res (Bool))).bind fun a8 =>
      if a8 = true then (.bad) else (op (appL s4 [a7]) fun a13 =>
      .ok a13.2)) (fun i done s rest e => by
    have hs : s ∈ xs := by rw [e]; simp
    have ld : done.length < xs.length := by rw [e]; simp
    obtain ⟨b, eb⟩ := hp s hs
    obtain ⟨a, o⟩ := s
    cases eb
    have w := h _ hs
    have u2 : un2 (.tup [.int i, .str (wS (Str.ofString ":") (a, some b))]) = some (.int i, .str (wS (Str.ofString ":") (a, some b))) := rfl
    have nn : isND (.tup [.int a, .int b]) .non = some false := rfl
    have es : D.tup [.int a, .int b] = eS (a, some b) := rfl
    have ad : addD (.lst (done.map eS)) (.lst [eS (a, some b)]) = some (.lst ((done ++ [(a, some b)]).map eS)) := by
      rw [addL (by rw [List.length_map, List.length_singleton]; omega), List.map_append]; rfl
    rw [u2, op_s]
    dsimp only
    rw [pair_ok2 mk_colon w.1 (w.2 b rfl), bind_s, nn, op_s, if_neg (by simp), es, ad, op_s, ht done _ rest e, bind_s, tru_ok, op_s, bind_s, if_neg (by simp), app1 (by rw [List.length_map]; omega), op_s, List.map_append]; rfl) (rest := xs) (done := []) (i := 0) rfl
  have lp : forS (enumF 0 ((xs.map (wS (Str.ofString ":"))).map D.str)) ([] : List D) _ = _ := lp
  rw [lp, bind_s]
theorem read_stretches_ok {xs : List Say} (h : ∀ s, s ∈ xs → okW s) (hs : ∀ s, s ∈ xs → ∀ b, s.2 = some b → s.1 ≤ b) (hl : xs.length ≤ 900) (gp : ∀ done q s rest, xs = done ++ q :: s :: rest → ∃ b, q.2 = some b ∧ b + 1 < s.1) : d_t_read_stretches [.str (txt (Str.ofString "-") xs)] = .ok (xs.map eS) := by
  unfold d_t_read_stretches
  dsimp only
  rw [words_ok mk_dash h (by omega), bind_s, enum_w, op_s]
  have lp := read_loop (mk := Str.ofString "-") (xs := xs) (F := fun d5 s4 =>
      op (un2 d5) fun p6 =>
      (d_t_stretch_in [p6.2]).bind fun a7 =>
      ((op (isND a7 D.non) fun b9 =>
      if b9 = true then (.ok true) else (((op (neD (D.lst s4) (D.lst ([] : List D))) fun b11 =>
      if b11 = true then (((op (negD (D.int 1)) fun t13 =>
      op (ixD (D.lst s4) t13) fun t14 =>
      op (ixD t14 (D.int 1)) fun t15 =>
      op (isND t15 D.non) fun b16 =>
      if b16 = true then (.ok true) else (op (ixD a7 (D.int 0)) fun t17 =>
      op (negD (D.int 1)) fun t18 =>
      op (ixD (D.lst s4) t18) fun t19 =>
      op (ixD t19 (D.int 1)) fun t20 =>
      op (addD t20 (D.int 1)) fun t21 =>
      op (leD t17 t21) fun b22 =>
      .ok b22) : Res (Bool))).bind fun a12 =>
      .ok a12) else (.ok false) : Res (Bool))).bind fun a10 =>
      .ok a10) : Res (Bool))).bind fun a8 =>
      if a8 = true then (.bad) else (op (appL s4 [a7]) fun a23 =>
      .ok a23.2)) (fun i done s rest e => by
    have hm : s ∈ xs := by rw [e]; simp
    have ld : done.length < xs.length := by rw [e]; simp
    have u2 : un2 (.tup [.int i, .str (wS (Str.ofString "-") s)]) = some (.int i, .str (wS (Str.ofString "-") s)) := rfl
    have nn : isND (eS s) .non = some false := rfl
    have fin : appL (done.map eS) [eS s] = some (.non, (done ++ [s]).map eS) := by
      rw [app1 (by rw [List.length_map]; omega), List.map_append]; rfl
    rw [u2, op_s]
    dsimp only
    rw [stretch_in_ok (h s hm) (hs s hm), bind_s, nn, op_s, if_neg (by simp), ne_nil (shp_row.mono (by omega)), op_s]
    rcases List.eq_nil_or_concat done with rfl | ⟨l, q, rfl⟩
    · rw [if_neg (by simp), bind_s, bind_s, if_neg (by simp), fin, op_s]
    · rw [List.concat_eq_append] at e fin ⊢
      rw [List.append_assoc] at e
      obtain ⟨b, eb, hb⟩ := gp l q s rest e
      have il : ixD (.lst ((l ++ [q]).map eS)) (.int (-1)) = some (eS q) := by
        rw [List.map_append]; exact ix_last
      have i1 : ixD (eS q) (.int 1) = some (.int b) := by
        show some (eO q.2) = _
        rw [eb]; rfl
      have n1 : isND (.int b) .non = some false := rfl
      have i0 : ixD (eS s) (.int 0) = some (.int s.1) := rfl
      rw [if_pos (by simp), negI, op_s, il, op_s, i1, op_s, n1, op_s, if_neg (by simp), i0, op_s, op_s, il, op_s, i1, op_s, addI, op_s, leI, op_s, decide_eq_false (by omega), bind_s, bind_s, bind_s, if_neg (by simp), fin, op_s]) (rest := xs) (done := []) (i := 0) rfl
  have lp : forS (enumF 0 ((xs.map (wS (Str.ofString "-"))).map D.str)) ([] : List D) _ = _ := lp
  rw [lp, bind_s]
theorem none_in : ∀ {xs : List Say}, ((toPs (xs.map eS)).any fun z => PyData.eqv z (toP .non)) = false
  | [] => rfl
  | s :: r => by
    show (PyData.eqv (toP (eS s)) (toP .non) || (toPs (r.map eS)).any fun z => PyData.eqv z (toP .non)) = false
    rw [none_in]
    rfl
theorem read_lot_ok {xs : List Say} (h : ∀ s, s ∈ xs → okW s) (hs : ∀ s, s ∈ xs → ∀ b, s.2 = some b → s.1 ≤ b) (hl : xs.length ≤ 900) : d_t_read_lot [.str (txt (Str.ofString "-") xs)] = .ok (xs.map eS) := by
  have e0 : asL (.lst ((xs.map (wS (Str.ofString "-"))).map D.str)) = some (xs.map fun s => .str (wS (Str.ofString "-") s)) := by
    rw [List.map_map]; rfl
  have inn : inLD .non (.lst (xs.map eS)) = some false := by
    show (if SeqAt.shaped (toP .non) = true ∧ SeqAt.shaped (toP (.lst (xs.map eS))) = true then some ((toPs (xs.map eS)).any fun z => PyData.eqv z (toP .non)) else none) = _
    rw [if_pos ⟨(shp_non.mono (by omega)).shaped, (shp_row.mono (by omega)).shaped⟩, none_in]
  unfold d_t_read_lot
  dsimp only
  rw [words_ok mk_dash h (by omega), bind_s, e0, op_s, lc_map (e := fun s => .str (wS (Str.ofString "-") s)) (g := eS) (by omega) fun s q => by rw [stretch_in_ok (h s q) (hs s q), bind_s], bind_s]
  dsimp only
  rw [inn, op_s, if_neg (by simp)]
theorem den_ok {xs : List Say} {t : Str} (hl : xs.length ≤ 900) : denT g1_l_right g2_l_right ((D.tup [(D.int 7), (D.int 7)])) (xs.map eS) (xs.map eS) (.lst (xs.map eS)) (.lst [.str t, .str t]) = some true := by
  have sh : Shp 60 (.lst (xs.map eS)) := shp_row.mono (by omega)
  have h1 : g1_l_right (xs.map eS) (xs.map eS) (.lst (xs.map eS)) (.lst [.str t, .str t]) = .ok false := by
    have i0 : ixD (.lst [.lst (xs.map eS), .lst (xs.map eS)]) (.int 0) = some (.lst (xs.map eS)) := rfl
    have j0 : ixD (.lst [.str t, .str t]) (.int 0) = some (.str t) := rfl
    have j1 : ixD (.lst [.str t, .str t]) (.int 1) = some (.str t) := rfl
    have il : isLst (.lst (xs.map eS)) = true := rfl
    unfold g1_l_right
    rw [i0, op_s, il, if_neg (by simp), op_s, ne_same sh, op_s, if_neg (by simp), j0, op_s, j1, op_s, neS, op_s, bind_s]
  have h2 : ∀ A : List D, g2_l_right A (xs.map eS) (.lst (xs.map eS)) (.lst [.str t, .str t]) = .ok true := fun A => by
    have i1 : ixD (.lst [.lst A, .lst (xs.map eS)]) (.int 1) = some (.lst (xs.map eS)) := rfl
    unfold g2_l_right
    rw [i1, op_s, eq_same sh, op_s]
  unfold denT
  rw [if_pos (by rw [List.length_map, sizeLine_eq]; omega), h1]
  dsimp only
  rw [if_neg (by simp), h2]

/-! ### draws -/
theorem ix_three {a b c : D} {j : Int} (h : j = 0 ∨ j = 1 ∨ j = 2) : ixD (.lst [a, b, c]) (.int j) = some (if j = 0 then a else if j = 1 then b else c) := by
  rcases h with rfl | rfl | rfl <;> rfl
theorem ix_two {a b : D} {j : Int} (h : j = 0 ∨ j = 1) : ixD (.lst [a, b]) (.int j) = some (if j = 0 then a else b) := by
  rcases h with rfl | rfl <;> rfl
theorem steps_k {N : Nat} {t : List D} (k0 : TinOk N t) (hN : N + 1000 < 2 ^ 60) : Ok (d_l_steps [.lst t, .int 9]) fun a => ∃ (ps : List (Int × Int)) (t' : List D), a = (.lst (ps.map eP), t') ∧ Tb ps ∧ (∀ p, p ∈ ps → okn p.1 ∧ okn p.2) ∧ ps.length ≤ 10 ∧ TinOk (N + 100) t' := by
  have p6 : powD (.int 10) (.int 6) = some (.int (10 ^ 6)) := powI (by decide)
  have p27 : powD (.int 10) (.int 27) = some (.int (10 ^ 27)) := powI (by decide)
  unfold d_l_steps
  dsimp only
  refine Ok.bnd (deal_k k0 (by omega) (by decide) (by decide)) ?_
  rintro _ ⟨x, t1, rfl, x0, x1, k1⟩
  refine Ok.op p6 (Ok.bnd (deal_k k1 (by omega) (by decide) (by decide)) ?_)
  rintro _ ⟨y, t2, rfl, y0, y1, k2⟩
  refine Ok.bnd (deal_k k2 (by omega) (by decide) (by decide)) ?_
  rintro _ ⟨j, t3, rfl, j0, j1, k3⟩
  refine Ok.op (ix_three (by omega)) ?_
  obtain ⟨v, ev, v0, v1⟩ : ∃ v : Int, (if j = 0 then D.int 0 else if j = 1 then .int x else .int y) = .int v ∧ 0 ≤ v ∧ v ≤ 10 ^ 6 := by
    by_cases z : j = 0
    · exact ⟨0, if_pos z, by omega, by decide⟩
    · by_cases z2 : j = 1
      · exact ⟨x, by rw [if_neg z, if_pos z2], x0, by omega⟩
      · exact ⟨y, by rw [if_neg z, if_neg z2], y0, by omega⟩
  rw [ev]
  refine Ok.bnd (deal_k k3 (by omega) (by decide) (by decide)) ?_
  rintro _ ⟨le, t4, rfl, le0, le1, k4⟩
  refine Ok.op addI (Ok.bnd (deal_k k4 (by omega) (by decide) (by decide)) ?_)
  rintro _ ⟨n, t5, rfl, n0, n1, k5⟩
  refine Ok.op (rng1 n0 (by omega)) ?_
  refine Ok.bnd (Ok.for (fun i (s : List D × List D) => ∃ (l : List (Int × Int)) (q : Int × Int), s.2 = (l ++ [q]).map eP ∧ Tb (l ++ [q]) ∧ l.length = i ∧ (∀ p, p ∈ l ++ [q] → p.1 ≤ (10 ^ 27 + 5) * i ∧ p.2 ≤ 10 ^ 6 + 5 * i) ∧ TinOk (N + 6 + 6 * i) s.1) 9 ⟨[], (0, v), rfl, ⟨by show (decide ((0 : Int) = 0) && adj near [((0 : Int), v)]) = true; rfl, (fun p hp => by rw [List.mem_singleton.mp hp]; exact ⟨Int.le_refl _, v0⟩), by simp⟩, rfl, (fun p hp => by rw [List.mem_singleton.mp hp]; exact ⟨by show (0 : Int) ≤ _; omega, by show v ≤ _; omega⟩), k5.mono (by omega)⟩ (by rw [upto_len]; omega) ?_) ?_
  · rintro d hd ⟨t6, sd⟩ i hi ⟨l, q, e1, T, ll, bd, k6⟩
    have e1 : sd = (l ++ [q]).map eP := e1
    subst e1
    have k6 : TinOk (N + 6 + 6 * i) t6 := k6
    have il : ixD (.lst ((l ++ [q]).map eP)) (.int (-1)) = some (eP q) := by rw [List.map_append]; exact ix_last
    have qn := T.nn q (by simp)
    have qb := bd q (by simp)
    dsimp only
    refine Ok.bnd (deal_k k6 (by omega) (by decide) (by decide)) ?_
    rintro _ ⟨x, t7, rfl, x0, x1, k7⟩
    refine Ok.op addI (Ok.op p27 (Ok.bnd (deal_k k7 (by omega) (by decide) (by decide)) ?_))
    rintro _ ⟨y, t8, rfl, y0, y1, k8⟩
    refine Ok.op addI (Ok.bnd (deal_k k8 (by omega) (by decide) (by decide)) ?_)
    rintro _ ⟨j, t9, rfl, j0, j1, k9⟩
    refine Ok.op (ix_three (by omega)) ?_
    obtain ⟨fa, ef, f0, f1⟩ : ∃ v : Int, (if j = 0 then D.int 1 else if j = 1 then .int (1 + x) else .int (1 + y)) = .int v ∧ 1 ≤ v ∧ v ≤ 10 ^ 27 + 5 := by
      by_cases z : j = 0
      · exact ⟨1, if_pos z, by omega, by omega⟩
      · by_cases z2 : j = 1
        · exact ⟨1 + x, by rw [if_neg z, if_pos z2], by omega, by omega⟩
        · exact ⟨1 + y, by rw [if_neg z, if_neg z2], by omega, by omega⟩
    rw [ef]
    refine Ok.op negI (Ok.op il (Ok.op i1P (Ok.op addI (Ok.bnd (deal_k k9 (by omega) (by decide) (by decide)) ?_))))
    rintro _ ⟨z, ta, rfl, z0, z1, ka⟩
    refine Ok.op addI (Ok.bnd (P := fun s : List D × D => ∃ m : Int, s.2 = .int m ∧ 0 ≤ m ∧ m ≠ q.2 ∧ m ≤ q.2 + 5 ∧ TinOk (N + 6 + 6 * (i + 1)) s.1) ?_ ?_)
    · refine Ok.bnd (P := fun s : Bool × List D => (s.1 = true → 0 < q.2) ∧ TinOk (N + 6 + 6 * i + 5) s.2) ?_ ?_
      · refine Ok.op gtI (Ok.ite (fun h => ?_) fun _ => Ok.ret ⟨(fun h => by cases h), ka.mono (by omega)⟩)
        refine Ok.bnd (deal_k ka (by omega) (by decide) (by decide)) ?_
        rintro _ ⟨w, tb, rfl, w0, w1, kb⟩
        exact Ok.op eqI (Ok.ret ⟨fun _ => of_decide_eq_true h, kb⟩)
      · rintro ⟨bb, tb⟩ ⟨hb, kb⟩
        refine Ok.ite (fun h => ?_) fun _ => Ok.ret ⟨q.2 + 1 + z, rfl, by omega, by omega, by omega, TinOk.mono kb (by omega)⟩
        have q0 := hb h
        refine Ok.bnd (P := fun s : D × List D => ∃ m : Int, s.1 = .int m ∧ 0 ≤ m ∧ m < q.2 ∧ TinOk (N + 6 + 6 * (i + 1)) s.2) ?_ ?_
        · refine Ok.op ltI (Ok.ite (fun _ => Ok.op subI (Ok.ret ⟨q.2 - 1, rfl, by omega, by omega, TinOk.mono kb (by omega)⟩)) fun _ => ?_)
          refine Ok.bnd (deal_k kb (by omega) q0 (Int.lt_of_le_of_lt (show q.2 ≤ 10 ^ 6 + 50 by omega) (by decide))) ?_
          rintro _ ⟨w, tc, rfl, w0, w1, kc⟩
          exact Ok.ret ⟨w, rfl, w0, w1, kc⟩
        · rintro ⟨md, tc⟩ ⟨m, e2, m0, m1, kc⟩
          exact Ok.ret ⟨m, e2, m0, by omega, by omega, kc⟩
    · rintro ⟨tb, md⟩ ⟨m, e2, m0, m1, m2, kb⟩
      have e2 : md = .int m := e2
      subst e2
      refine Ok.op negI (Ok.op il (Ok.op i0P (Ok.op addI (Ok.op (app1 (by rw [List.length_map, List.length_append]; simp; omega)) (Ok.ret ⟨l ++ [q], (q.1 + fa, m), ?_, T.snoc (near_of (by show q.1 < q.1 + fa; omega) fun z => m1 z.symm) (by show 0 ≤ q.1 + fa; omega) m0 (by omega), by rw [List.length_append, List.length_singleton, ll], ?_, kb⟩)))))
      · show _ = ((l ++ [q]) ++ [(q.1 + fa, m)]).map eP
        rw [List.map_append (l₁ := l ++ [q])]; rfl
      · intro p hp
        rcases List.mem_append.mp hp with hp | hp
        · have := bd p hp
          omega
        · rw [List.mem_singleton.mp hp]
          exact ⟨by show q.1 + fa ≤ _; omega, by show m ≤ _; omega⟩
  · rintro ⟨t6, sd⟩ ⟨l, q, e1, T, ll, bd, k6⟩
    have e1 : sd = (l ++ [q]).map eP := e1
    subst e1
    rw [upto_len] at ll bd k6
    have k6 : TinOk (N + 6 + 6 * n.toNat) t6 := k6
    have b60 : (10 : Int) ^ 27 * 10 + 100 < 10 ^ 60 := by decide
    refine Ok.ret ⟨l ++ [q], t6, rfl, T, fun p hp => ?_, by rw [List.length_append, List.length_singleton]; omega, k6.mono (by omega)⟩
    have h1 := T.nn p hp
    have h2 := bd p hp
    exact ⟨⟨h1.1, by omega⟩, h1.2, by omega⟩
theorem setL_last {l : List D} {x d : D} : setL (l ++ [x]) (.int (-1)) d = some (l ++ [d]) := by
  show (ixN (l ++ [x]).length (-1)).map _ = _
  unfold ixN
  rw [if_neg (by omega), if_pos (by simp; omega)]
  have e : (-1 + (((l ++ [x]).length : Nat) : Int)).toNat = l.length := by simp; omega
  rw [e]
  simp
def gapR (q s : Say) : Prop := ∃ b, q.2 = some b ∧ b + 1 < s.1
theorem spans_k {N : Nat} {t : List D} (k0 : TinOk N t) (hN : N + 1000 < 2 ^ 60) : Ok (d_l_spans [.lst t]) fun a => ∃ (ss : List Say) (t' : List D), a = (.lst (ss.map eS), t') ∧ (∀ s, s ∈ ss → okW s ∧ ∀ b, s.2 = some b → s.1 ≤ b) ∧ ss.Pairwise gapR ∧ ss.length ≤ 6 ∧ TinOk (N + 30) t' := by
  have p28 : powD (.int 10) (.int 28) = some (.int (10 ^ 28)) := powI (by decide)
  have b60 : (10 : Int) ^ 28 * 10 + 1000 < 10 ^ 60 := by decide
  unfold d_l_spans
  dsimp only
  refine Ok.bnd (deal_k k0 (by omega) (by decide) (by decide)) ?_
  rintro _ ⟨x, t1, rfl, x0, x1, k1⟩
  refine Ok.bnd (deal_k k1 (by omega) (by decide) (by decide)) ?_
  rintro _ ⟨n, t2, rfl, n0, n1, k2⟩
  refine Ok.op (rng1 n0 (by omega)) ?_
  refine Ok.bnd (Ok.for (fun i (s : List D × List D × D) => ∃ (ss : List Say) (he : Int), s.2 = (ss.map eS, .int he) ∧ (∀ q, q ∈ ss → 0 ≤ q.1 ∧ ∃ b, q.2 = some b ∧ q.1 ≤ b ∧ b + 2 ≤ he) ∧ ss.Pairwise gapR ∧ ss.length = i ∧ 0 ≤ he ∧ he ≤ (10 ^ 28 + 10) * i + 3 ∧ TinOk (N + 2 + 4 * i) s.1) 6 ⟨[], x, rfl, (fun q hq => by cases hq), List.Pairwise.nil, rfl, x0, by omega, k2⟩ (by rw [upto_len]; omega) ?_) ?_
  · rintro d hd ⟨t3, sd⟩ i hi ⟨ss, he, e1, ok, pw, ll, h0, h1, k3⟩
    have e1 : sd = (ss.map eS, .int he) := e1
    subst e1
    have k3 : TinOk (N + 2 + 4 * i) t3 := k3
    dsimp only
    refine Ok.bnd (deal_k k3 (by omega) (by decide) (by decide)) ?_
    rintro _ ⟨u, t4, rfl, u0, u1, k4⟩
    refine Ok.op p28 (Ok.bnd (deal_k k4 (by omega) (by decide) (by decide)) ?_)
    rintro _ ⟨w, t5, rfl, w0, w1, k5⟩
    refine Ok.bnd (deal_k k5 (by omega) (by decide) (by decide)) ?_
    rintro _ ⟨j, t6, rfl, j0, j1, k6⟩
    refine Ok.op (ix_three (by omega)) ?_
    obtain ⟨lo, el, l0, l1⟩ : ∃ v : Int, (if j = 0 then D.int 0 else if j = 1 then .int u else .int w) = .int v ∧ 0 ≤ v ∧ v ≤ 10 ^ 28 := by
      by_cases z : j = 0
      · exact ⟨0, if_pos z, by omega, by decide⟩
      · by_cases z2 : j = 1
        · exact ⟨u, by rw [if_neg z, if_pos z2], u0, Int.le_of_lt (Int.lt_trans u1 (by decide))⟩
        · exact ⟨w, by rw [if_neg z, if_neg z2], w0, by omega⟩
    rw [el]
    refine Ok.op addI (Ok.op (app1 (by rw [List.length_map]; omega)) (Ok.op addI (Ok.op addI (Ok.bnd (deal_k k6 (by omega) (by decide) (by decide)) ?_))))
    rintro _ ⟨g, t7, rfl, g0, g1, k7⟩
    refine Ok.op addI (Ok.ret ⟨ss ++ [(he, some (he + lo))], he + lo + 2 + g, by rw [List.map_append]; rfl, fun q hq => ?_, ?_, by rw [List.length_append, List.length_singleton, ll], by omega, by omega, k7⟩)
    · rcases List.mem_append.mp hq with hq | hq
      · obtain ⟨a, b, c, d, e⟩ := ok q hq
        exact ⟨a, b, c, d, by omega⟩
      · rw [List.mem_singleton.mp hq]
        exact ⟨h0, he + lo, rfl, by show he ≤ he + lo; omega, by omega⟩
    · refine List.pairwise_append.mpr ⟨pw, List.pairwise_singleton _ _, fun q hq s hs => ?_⟩
      obtain ⟨a, b, c, d, e⟩ := ok q hq
      rw [List.mem_singleton.mp hs]
      exact ⟨b, c, by show b + 1 < he; omega⟩
  · rintro ⟨t3, sd⟩ ⟨ss, he, e1, ok, pw, ll, h0, h1, k3⟩
    have e1 : sd = (ss.map eS, .int he) := e1
    subst e1
    rw [upto_len] at ll h1 k3
    have k3 : TinOk (N + 2 + 4 * n.toNat) t3 := k3
    have okf : ∀ s, s ∈ ss → okW s ∧ ∀ b, s.2 = some b → s.1 ≤ b := fun s hs => by
      obtain ⟨a, b, c, d, e⟩ := ok s hs
      refine ⟨⟨⟨a, by omega⟩, fun b' e' => ?_⟩, fun b' e' => ?_⟩ <;> rw [c] at e' <;> cases e'
      · exact ⟨by omega, by omega⟩
      · exact d
    dsimp only
    refine Ok.bnd (P := fun s : List D × List D => ∃ ss' : List Say, s.2 = ss'.map eS ∧ (∀ s, s ∈ ss' → okW s ∧ ∀ b, s.2 = some b → s.1 ≤ b) ∧ ss'.Pairwise gapR ∧ ss'.length ≤ 6 ∧ TinOk (N + 30) s.1) ?_ ?_
    · refine Ok.bnd (P := fun z : Bool × List D => (z.1 = true → ss ≠ []) ∧ TinOk (N + 30) z.2) ?_ ?_
      · refine Ok.op (ne_nil (shp_row.mono (by omega))) (Ok.ite (fun h => ?_) fun _ => Ok.ret ⟨(fun h => by cases h), k3.mono (by omega)⟩)
        refine Ok.bnd (deal_k k3 (by omega) (by decide) (by decide)) ?_
        rintro _ ⟨y, t4, rfl, y0, y1, k4⟩
        exact Ok.op eqI (Ok.ret ⟨(fun _ e => by subst e; cases h), k4.mono (by omega)⟩)
      · rintro ⟨bb, t4⟩ ⟨hb, k4⟩
        refine Ok.ite (fun h => ?_) fun _ => Ok.ret ⟨ss, rfl, okf, pw, by omega, k4⟩
        rcases List.eq_nil_or_concat ss with e | ⟨l, q, e⟩
        · exact absurd e (hb h)
        · rw [List.concat_eq_append] at e
          subst e
          have il : ixD (.lst ((l ++ [q]).map eS)) (.int (-1)) = some (eS q) := by rw [List.map_append]; exact ix_last
          have i0 : ixD (eS q) (.int 0) = some (.int q.1) := rfl
          have sl : setL ((l ++ [q]).map eS) (.int (-1)) (.tup [.int q.1, .non]) = some ((l ++ [(q.1, none)]).map eS) := by
            rw [List.map_append, List.map_append]
            exact setL_last
          refine Ok.op negI (Ok.op il (Ok.op i0 (Ok.op negI (Ok.op sl (Ok.ret ⟨l ++ [(q.1, none)], rfl, fun s hs => ?_, ?_, by rw [List.length_append] at ll ⊢; simp at ll ⊢; omega, k4⟩)))))
          · rcases List.mem_append.mp hs with hs | hs
            · exact okf s (List.mem_append_left _ hs)
            · rw [List.mem_singleton.mp hs]
              exact ⟨⟨(okf q (by simp)).1.1, fun b e => by cases e⟩, fun b e => by cases e⟩
          · obtain ⟨p1, p2, p3⟩ := List.pairwise_append.mp pw
            refine List.pairwise_append.mpr ⟨p1, List.pairwise_singleton _ _, fun a ha s hs => ?_⟩
            rw [List.mem_singleton.mp hs]
            exact p3 a ha q (by simp)
    · rintro ⟨t4, sd⟩ ⟨ss', e1, o, p, l, k4⟩
      have e1 : sd = ss'.map eS := e1
      subst e1
      exact Ok.ret ⟨ss', t4, rfl, o, p, l, k4⟩
theorem int_dec {p : Prop} [Decidable p] : intD [.bl (decide p)] = some (.int (if p then 1 else 0)) := by
  by_cases h : p
  · rw [decide_eq_true h, if_pos h]; rfl
  · rw [decide_eq_false h, if_neg h]; rfl
theorem books_k {N : Nat} {t : List D} (k0 : TinOk N t) (hN : N + 1000 < 2 ^ 60) : Ok (d_l_books [.lst t]) fun a => ∃ (es : List (Int × Int)) (t' : List D), a = (.lst ((shE es).map eP), t') ∧ EsF es 8 ∧ (∀ p, p ∈ shE es → okn p.1 ∧ okn p.2) ∧ TinOk (N + 30) t' := by
  have p28 : powD (.int 10) (.int 28) = some (.int (10 ^ 28)) := powI (by decide)
  have b60 : (10 : Int) ^ 28 * 10 + 1000 < 10 ^ 60 := by decide
  unfold d_l_books
  dsimp only
  refine Ok.bnd (deal_k k0 (by omega) (by decide) (by decide)) ?_
  rintro _ ⟨x, t1, rfl, x0, x1, k1⟩
  refine Ok.bnd (deal_k k1 (by omega) (by decide) (by decide)) ?_
  rintro _ ⟨n, t2, rfl, n0, n1, k2⟩
  refine Ok.op (rng1 n0 (by omega)) ?_
  refine Ok.bnd (Ok.for (fun i (s : List D × List D × D) => ∃ (es : List (Int × Int)) (he : Int), s.2 = ((shE es).map eP, .int he) ∧ EsF es i ∧ (∀ p, p ∈ es → p.1 < he ∧ p.2 ≤ 10) ∧ 0 ≤ he ∧ he ≤ (10 ^ 28 + 10) * i + 3 ∧ TinOk (N + 2 + 3 * i) s.1) 8 ⟨[], x, rfl, ⟨⟨List.Pairwise.nil, (fun p hp => by cases hp), Nat.le_refl _⟩, (fun p hp => by cases hp)⟩, (fun p hp => by cases hp), x0, by omega, k2⟩ (by rw [upto_len]; omega) ?_) ?_
  · rintro d hd ⟨t3, sd⟩ i hi ⟨es, he, e1, E, bd, h0, h1, k3⟩
    have e1 : sd = ((shE es).map eP, .int he) := e1
    subst e1
    have k3 : TinOk (N + 2 + 3 * i) t3 := k3
    have le := E.e.len
    have ls : (shE es).length = es.length := by unfold shE; rw [List.length_map]
    have pb : pln he = 0 ∨ pln he = 1 := by unfold pln; split <;> omega
    dsimp only
    refine Ok.bnd (deal_k k3 (by omega) (by decide) (by decide)) ?_
    rintro _ ⟨c, t4, rfl, c0, c1, k4⟩
    have ip : intD [.bl (decide (0 < he))] = some (.int (pln he)) := int_dec
    refine Ok.op gtI (Ok.op ip (Ok.op geI (Ok.op int_dec (Ok.op addI (Ok.op (app1 (by rw [List.length_map]; omega)) (Ok.op addI (Ok.op p28 (Ok.bnd (deal_k k4 (by omega) (by decide) (by decide)) ?_))))))))
    rintro _ ⟨j, t5, rfl, j0, j1, k5⟩
    refine Ok.op (ix_two (by omega)) ?_
    obtain ⟨w, ew, w0, w1⟩ : ∃ w : Int, (if j = 0 then D.int 2 else .int (10 ^ 28)) = .int w ∧ 0 < w ∧ w ≤ 10 ^ 28 := by
      by_cases z : j = 0
      · exact ⟨2, if_pos z, by decide, by decide⟩
      · exact ⟨10 ^ 28, if_neg z, by decide, Int.le_refl _⟩
    rw [ew]
    refine Ok.bnd (deal_k k5 (by omega) w0 (Int.lt_of_le_of_lt w1 (by decide))) ?_
    rintro _ ⟨g, t6, rfl, g0, g1, k6⟩
    obtain ⟨cp, ecp, cp0, cp1, cp2⟩ : ∃ cp : Int, c + (if pln he ≤ c then 1 else 0) = cp ∧ 0 ≤ cp ∧ cp ≤ 5 ∧ cp ≠ pln he := by
      by_cases z : pln he ≤ c
      · exact ⟨c + 1, by rw [if_pos z], by omega, by omega, by omega⟩
      · exact ⟨c, by rw [if_neg z]; omega, by omega, by omega, by omega⟩
    rw [ecp]
    refine Ok.op addI (Ok.ret ⟨es ++ [(he, cp - pln he)], he + 1 + g, ?_, ⟨⟨?_, ?_, by rw [List.length_append, List.length_singleton]; omega⟩, ?_⟩, ?_, by omega, by omega, k6⟩)
    · have : (shE (es ++ [(he, cp - pln he)])).map eP = (shE es).map eP ++ [D.tup [.int he, .int cp]] := by
        unfold shE
        rw [List.map_append, List.map_append]
        show _ ++ [eP (he, cp - pln he + pln he)] = _
        rw [show cp - pln he + pln he = cp by omega]; rfl
      rw [this]
    · rw [List.map_append]
      refine List.pairwise_append.mpr ⟨E.e.pw, List.pairwise_singleton _ _, fun a ha b hb => ?_⟩
      obtain ⟨p, hp, rfl⟩ := List.mem_map.mp ha
      have hb : b = he := List.mem_singleton.mp hb
      rw [hb]
      exact (bd p hp).1
    · intro p hp
      rcases List.mem_append.mp hp with hp | hp
      · exact E.e.ok p hp
      · rw [List.mem_singleton.mp hp]
        exact ⟨h0, by show cp - pln he ≠ 0; omega⟩
    · intro p hp
      rcases List.mem_append.mp hp with hp | hp
      · exact E.cp p hp
      · rw [List.mem_singleton.mp hp]
        show 0 ≤ cp - pln he + pln he
        omega
    · intro p hp
      rcases List.mem_append.mp hp with hp | hp
      · have := bd p hp
        exact ⟨by omega, this.2⟩
      · rw [List.mem_singleton.mp hp]
        exact ⟨by show he < _; omega, by show cp - pln he ≤ 10; omega⟩
  · rintro ⟨t3, sd⟩ ⟨es, he, e1, E, bd, h0, h1, k3⟩
    have e1 : sd = ((shE es).map eP, .int he) := e1
    subst e1
    rw [upto_len] at E h1 k3
    have k3 : TinOk (N + 2 + 3 * n.toNat) t3 := k3
    have le := E.e.len
    refine Ok.ret ⟨es, t3, rfl, ⟨⟨E.e.pw, E.e.ok, by omega⟩, E.cp⟩, fun p hp => ?_, k3.mono (by omega)⟩
    obtain ⟨q, hq, rfl⟩ := List.mem_map.mp (show p ∈ es.map _ from hp)
    have a := E.e.ok q hq
    have b := bd q hq
    have c := E.cp q hq
    have pb : pln q.1 = 0 ∨ pln q.1 = 1 := by unfold pln; split <;> omega
    exact ⟨⟨a.1, by show q.1 < 10 ^ 60; omega⟩, c, by show q.2 + pln q.1 < 10 ^ 60; omega⟩
/-! ### pieces of tables and shelves -/
theorem adj_take {X : Type} {p : X → X → Bool} : ∀ {l : List X} {k : Nat}, adj p l = true → adj p (l.take k) = true
  | [], k, _ => by rw [List.take_nil]; rfl
  | [a], 0, _ => rfl
  | [a], k + 1, h => by
    rw [List.take_succ_cons, List.take_nil]; rfl
  | a :: b :: r, 0, _ => rfl
  | a :: b :: r, 1, _ => rfl
  | a :: b :: r, k + 2, h => by
    have h : (p a b && adj p (b :: r)) = true := h
    rw [Bool.and_eq_true] at h
    have ih := adj_take (l := b :: r) (k := k + 1) h.2
    rw [List.take_succ_cons, List.take_succ_cons] at *
    show (p a b && adj p (b :: r.take k)) = true
    rw [h.1, ih]; rfl
theorem Tb.take {ps : List (Int × Int)} (h : Tb ps) (k : Nat) : Tb (ps.take (k + 1)) := by
  have ht := h.tab
  refine ⟨?_, fun p hp => h.nn p (List.mem_of_mem_take hp), by have := h.len; rw [List.length_take]; omega⟩
  cases ps with
  | nil => cases ht
  | cons p r =>
    have ht : (decide (p.1 = 0) && adj near (p :: r)) = true := ht
    rw [Bool.and_eq_true] at ht
    have := adj_take (k := k + 1) ht.2
    rw [List.take_succ_cons] at this ⊢
    show (decide (p.1 = 0) && adj near (p :: r.take k)) = true
    rw [ht.1, this]; rfl
theorem Tb.is {ps : List (Int × Int)} (h : Tb ps) : d_t_is_table [.lst (ps.map eP)] = .ok (.bl true) := by
  obtain ⟨g, e⟩ := h.good
  rw [table_is g, e]
theorem EsF.take {es : List (Int × Int)} {n : Nat} (h : EsF es n) (k : Nat) : EsF (es.take k) n := ⟨⟨by rw [List.map_take]; exact h.e.pw.sublist (List.take_sublist _ _), fun p hp => h.e.ok p (List.mem_of_mem_take hp), by have := h.e.len; rw [List.length_take]; omega⟩, fun p hp => h.cp p (List.mem_of_mem_take hp)⟩
theorem EsF.is {es : List (Int × Int)} {n : Nat} (h : EsF es n) (hn : n < 1000) : d_t_is_shelf [.lst ((shE es).map eP)] = .ok (.bl true) := by
  have := isshelf_ok (S := sumTo es) h.e.shl (by omega) h.jm
  rw [h.e.shf] at this
  exact this
theorem take_pre {ps : List (Int × Int)} {done rest : List Say} {s : Say} (e : ps.map sayP = done ++ s :: rest) : done ++ [s] = (ps.take (done.length + 1)).map sayP := by
  rw [List.map_take, e]
  have : done ++ s :: rest = (done ++ [s]) ++ rest := by simp
  rw [this, List.take_left' (by simp)]
theorem gap_at9 {xs done rest : List Say} {q s : Say} (pw : xs.Pairwise gapR) (e : xs = done ++ q :: s :: rest) : gapR q s := by
  rw [e] at pw
  obtain ⟨_, h, _⟩ := List.pairwise_append.mp pw
  exact (List.pairwise_cons.mp h).1 s (by simp)
theorem cut_to {ds : List D} {i : Int} (h : 0 ≤ i) : cutD ds none (some i) = ds.take i.toNat := by
  unfold cutD
  have e1 : HT.sIx ds.length 0 none = 0 := rfl
  have e2 : HT.sIx ds.length ds.length (some i) = min i.toNat ds.length := if_neg (by omega)
  rw [e1, e2, List.drop_zero, Nat.sub_zero]
  by_cases z : i.toNat ≤ ds.length
  · rw [Nat.min_eq_left z]
  · rw [Nat.min_eq_right (by omega), List.take_length, List.take_of_length_le (by omega)]
theorem okP {ps : List (Int × Int)} (h : ∀ p, p ∈ ps → okn p.1 ∧ okn p.2) : (∀ s, s ∈ ps.map sayP → okW s) ∧ ∀ s, s ∈ ps.map sayP → ∃ b, s.2 = some b := ⟨fun s hs => by
  obtain ⟨p, hp, rfl⟩ := List.mem_map.mp hs
  exact ⟨(h p hp).1, fun b e => by cases e; exact (h p hp).2⟩, fun s hs => by
  obtain ⟨p, hp, rfl⟩ := List.mem_map.mp hs
  exact ⟨p.2, rfl⟩⟩
theorem pure_law (ns : List Int) (hl : ns.length ≤ 63) : d_law [.scr ns] = .ok (.bl true) := by
  refine Ok.eq ?_
  have r2 : rngD [.int 2] = some (upto 0 2) := rng1 (by decide) (by decide)
  have tw : two (upto 0 2) = some () := if_pos (by rw [upto_len])
  unfold d_law
  dsimp only
  refine Ok.op (a := .int ns.length) rfl (Ok.op min2I (Ok.op max2I ?_))
  obtain ⟨n, en, n0, n1⟩ := cells (ns := ns) (n := 12) (by decide) (by decide)
  rw [en]
  refine Ok.op (rng1 n0 (by omega)) (Ok.fbn (P := fun _ => True) ((Ok.forN (fun _ _ => True) 12 trivial (by rw [upto_len]; omega) ?_).mono fun _ h => h) (fun _ _ => ?_))
  · intro d hd s i hi _
    obtain ⟨j, hj, rfl⟩ := upto_mem hd
    obtain ⟨t, et, kt⟩ := tin_ok (ns := ns) (k := j) (by omega) (by omega)
    refine Ok.call et (Ok.bnd (steps_k kt (by decide)) ?_)
    rintro _ ⟨ps, t1, rfl, T, pb, lp, k1⟩
    refine Ok.bnd (spans_k k1 (by decide)) ?_
    rintro _ ⟨ss, t2, rfl, so, sg, ls, k2⟩
    refine Ok.bnd (books_k k2 (by decide)) ?_
    rintro _ ⟨es, t3, rfl, E, eb, k3⟩
    have rv : revD (.lst (ss.map eS)) = some (.lst (ss.reverse.map eS)) := by
      rw [List.map_reverse]; rfl
    refine Ok.op rv (Ok.bnd (deal_k k3 (by decide) (by decide) (by decide)) ?_)
    rintro _ ⟨c, t4, rfl, c0, c1, k4⟩
    have ct : cutA (.lst (ss.map eS)) none (some c) = some (.lst ((ss.take c.toNat).map eS)) := by
      rw [cutA_lst, cut_to c0, List.map_take]
    have ad : addD (.lst (ss.reverse.map eS)) (.lst ((ss.take c.toNat).map eS)) = some (.lst ((ss.reverse ++ ss.take c.toNat).map eS)) := by
      rw [addL (by rw [List.length_map, List.length_map, List.length_reverse, List.length_take]; omega), List.map_append]
    generalize hlot : ss.reverse ++ ss.take c.toNat = lot at ad
    have lo : ∀ s, s ∈ lot → okW s ∧ ∀ b, s.2 = some b → s.1 ≤ b := fun s hs => by
      rw [← hlot] at hs
      rcases List.mem_append.mp hs with hs | hs
      · exact so s (List.mem_reverse.mp hs)
      · exact so s (List.mem_of_mem_take hs)
    have ll : lot.length ≤ 12 := by
      rw [← hlot, List.length_append, List.length_reverse, List.length_take]
      omega
    obtain ⟨wp, vp⟩ := okP pb
    obtain ⟨we, ve⟩ := okP eb
    have lps : (ps.map sayP).length ≤ 900 := by rw [List.length_map]; omega
    have lse : ((shE es).map sayP).length ≤ 900 := by
      have := E.e.len
      rw [List.length_map]
      unfold shE
      rw [List.length_map]
      omega
    have pne : ps.map sayP ≠ [] := fun z => by
      have := T.tab
      rw [List.map_eq_nil_iff.mp z] at this
      cases this
    have sw : ∀ s, s ∈ ss → okW s := fun s hs => (so s hs).1
    have lw : ∀ s, s ∈ lot → okW s := fun s hs => (lo s hs).1
    have e1 := pairs_ok mk_colon wp (by omega)
    have e2 := pairs_ok mk_dash sw (by omega)
    have e3 := pairs_ok mk_dash lw (by omega)
    have e4 := pairs_ok mk_colon we (by omega)
    have s1 := show_table_ok wp vp (by omega) (by rw [← sayP_map]; exact T.is)
    have s2 := show_stretches_ok sw (fun s hs => (so s hs).2) (by omega) (.inl rfl)
    have s3 := show_stretches_ok lw (fun s hs => (lo s hs).2) (by omega) (.inr rfl)
    have s4 := show_shelf_ok we ve (by omega) (by rw [← sayP_map]; exact E.is (by decide))
    have g1 := read_table_ok wp vp lps pne fun done s rest e => by
      rw [take_pre e, ← sayP_map]
      exact (T.take _).is
    have g2 := read_stretches_ok sw (fun s hs => (so s hs).2) (by omega) fun done q s rest e => gap_at9 sg e
    have g3 := read_lot_ok lw (fun s hs => (lo s hs).2) (by omega)
    have g4 := read_shelf_ok we ve lse fun done s rest e => by
      rw [take_pre e, ← sayP_map]
      have : (shE es).take (done.length + 1) = shE (es.take (done.length + 1)) := by
        unfold shE
        rw [List.map_take]
      rw [this]
      exact (E.take _).is (by decide)
    rw [← sayP_map] at e1 e4 s1 s4
    have x0 : ∀ a b c d : D, ixD (.lst [a, b, c, d]) (.int 0) = some a := fun _ _ _ _ => rfl
    have x1 : ∀ a b c d : D, ixD (.lst [a, b, c, d]) (.int 1) = some b := fun _ _ _ _ => rfl
    have x2 : ∀ a b c d : D, ixD (.lst [a, b, c, d]) (.int 2) = some c := fun _ _ _ _ => rfl
    have x3 : ∀ a b c d : D, ixD (.lst [a, b, c, d]) (.int 3) = some d := fun _ _ _ _ => rfl
    have okr : ∀ A : List D, okR (.ok A) = .ok A := fun _ => rfl
    have tl : tupleD [.lst (lot.map eS)] = some (.tup (lot.map eS)) := rfl
    have d1 := den_ok (xs := ps.map sayP) (t := txt (Str.ofString ":") (ps.map sayP)) lps
    have d2 := den_ok (xs := ss) (t := txt (Str.ofString "-") ss) (by omega)
    have d3 := den_ok (xs := lot) (t := txt (Str.ofString "-") lot) (by omega)
    have d4 := den_ok (xs := (shE es).map sayP) (t := txt (Str.ofString ":") ((shE es).map sayP)) lse
    rw [← sayP_map] at d1 d4 g1 g4
    refine Ok.op asI_ok (Ok.op ct (Ok.op ad ?_))
    dsimp only
    rw [e1, bind_s, e2, bind_s, e3, bind_s, e4, bind_s]
    rw [r2, op_s, tw, op_s, x0, op_s, g1, bind_s, okr, bind_s, s1, bind_s, op_s, d1, op_s, tru_ok, op_s, if_neg (by simp)]
    rw [op_s, tw, op_s, x1, op_s, g2, bind_s, okr, bind_s, s2, bind_s, op_s, d2, op_s, tru_ok, op_s, if_neg (by simp)]
    rw [op_s, tw, op_s, x2, op_s, g3, bind_s, okr, bind_s, tl, op_s, s3, bind_s, op_s, d3, op_s, tru_ok, op_s, if_neg (by simp)]
    rw [op_s, tw, op_s, x3, op_s, g4, bind_s, okr, bind_s, s4, bind_s, op_s, d4, op_s, tru_ok, op_s, if_neg (by simp)]
    exact Ok.ret ⟨(), rfl, trivial⟩
  · have s0 := show_stretches_ok (xs := []) (fun s hs => by cases hs) (fun s hs => by cases hs) (by decide) (r := .lst []) (.inl rfl)
    have l0 := read_lot_ok (xs := []) (fun s hs => by cases hs) (fun s hs => by cases hs) (by decide)
    have h0 := read_shelf_ok (xs := []) (fun s hs => by cases hs) (fun s hs => by cases hs) (by decide) fun done s rest e => by simp at e
    have t0 : ∀ mk, txt mk [] = Str.ofString "" := fun _ => rfl
    rw [t0] at s0 l0 h0
    have q0 : eqD (.lst []) (.lst []) = some true := eq_nil (ds := []) ((shp_lst (n := 0) (by simp)).mono (by omega))
    have l0 : d_t_read_lot [.str ""] = .ok ([] : List D) := l0
    have h0 : d_t_read_shelf [.str ""] = .ok ([] : List D) := h0
    rw [s0, bind_s, eqS, op_s, asB_ok, op_s, if_pos rfl, l0, bind_s, q0, op_s, asB_ok, op_s, if_pos rfl, h0, bind_s, q0, op_s, bind_s]
    exact Ok.ret rfl
theorem all_mk {l : PySem.W.OpenLaw} {w : World} {K : PySem.W.Frag} {h : Heap} {mg : Str → Option Value} {fa f1 f2 f3 f4 f5 f6 f7 f8 f9 f10 f11 f12 f13 f14 f15 f16 f17 f18 f19 f20 f21 f22 f23 f24 f25 f26 f27 : Addr} (X : K.In h) (G : h.Ns mainGlobals mg) (hfa : mg "law" = some (.ref fa))
    {od1 an1 od2 an2 od3 an3 od4 an4 od5 an5 od6 an6 od7 an7 od8 an8 od9 an9 od10 an10 od11 an11 od12 an12 od13 an13 od14 an14 od15 an15 od16 an16 od17 an17 od18 an18 od19 an19 od20 an20 od21 an21 od22 an22 od23 an23 od24 an24 od25 an25 od26 an26 od27 an27 : Option Addr} {sl1 sl2 sl3 sl4 sl5 sl6 sl7 sl8 sl9 sl10 sl11 sl12 sl13 sl14 sl15 sl16 sl17 sl18 sl19 sl20 sl21 sl22 sl23 sl24 sl25 sl26 sl27 : Array (Option Value)} {oc1 dc1 pm1 cd1 ct1 kV1 oc2 dc2 pm2 cd2 ct2 kV2 oc3 dc3 pm3 cd3 ct3 kV3 oc4 dc4 pm4 cd4 ct4 kV4 oc5 dc5 pm5 cd5 ct5 kV5 oc6 dc6 pm6 cd6 ct6 kV6 oc7 dc7 pm7 cd7 ct7 kV7 oc8 dc8 pm8 cd8 ct8 kV8 oc9 dc9 pm9 cd9 ct9 kV9 oc10 dc10 pm10 cd10 ct10 kV10 oc11 dc11 pm11 cd11 ct11 kV11 oc12 dc12 pm12 cd12 ct12 kV12 oc13 dc13 pm13 cd13 ct13 kV13 oc14 dc14 pm14 cd14 ct14 kV14 oc15 dc15 pm15 cd15 ct15 kV15 oc16 dc16 pm16 cd16 ct16 kV16 oc17 dc17 pm17 cd17 ct17 kV17 oc18 dc18 pm18 cd18 ct18 kV18 oc19 dc19 pm19 cd19 ct19 kV19 oc20 dc20 pm20 cd20 ct20 kV20 oc21 dc21 pm21 cd21 ct21 kV21 oc22 dc22 pm22 cd22 ct22 kV22 oc23 dc23 pm23 cd23 ct23 kV23 oc24 dc24 pm24 cd24 ct24 kV24 oc25 dc25 pm25 cd25 ct25 kV25 oc26 dc26 pm26 cd26 ct26 kV26 oc27 dc27 pm27 cd27 ct27 kV27 : Value}
    (a1 : PySem.W.nsIn K mainGlobals "is_number" = some (some (.ref f1))) (l1 : K.lookup f1 = some ⟨oc1, od1, .func (PySem.W.fnOf "is_number" "is_number" (defArgs (topS 7)) (defBody (topS 7)) (defScope (topS 7)) .none kV1 dc1 pm1 an1 cd1 ct1), sl1⟩) (c1 : PySem.W.codeIn K cd1 "is_number" = true) (k1 : PySem.W.keepIn K (.ref f1) = true)
    (a2 : PySem.W.nsIn K mainGlobals "is_step" = some (some (.ref f2))) (l2 : K.lookup f2 = some ⟨oc2, od2, .func (PySem.W.fnOf "is_step" "is_step" (defArgs (topS 9)) (defBody (topS 9)) (defScope (topS 9)) .none kV2 dc2 pm2 an2 cd2 ct2), sl2⟩) (c2 : PySem.W.codeIn K cd2 "is_step" = true) (k2 : PySem.W.keepIn K (.ref f2) = true)
    (a3 : PySem.W.nsIn K mainGlobals "is_table" = some (some (.ref f3))) (l3 : K.lookup f3 = some ⟨oc3, od3, .func (PySem.W.fnOf "is_table" "is_table" (defArgs (topS 10)) (defBody (topS 10)) (defScope (topS 10)) .none kV3 dc3 pm3 an3 cd3 ct3), sl3⟩) (c3 : PySem.W.codeIn K cd3 "is_table" = true) (k3 : PySem.W.keepIn K (.ref f3) = true)
    (a4 : PySem.W.nsIn K mainGlobals "show_table" = some (some (.ref f4))) (l4 : K.lookup f4 = some ⟨oc4, od4, .func (PySem.W.fnOf "show_table" "show_table" (defArgs (topS 19)) (defBody (topS 19)) (defScope (topS 19)) .none kV4 dc4 pm4 an4 cd4 ct4), sl4⟩) (c4 : PySem.W.codeIn K cd4 "show_table" = true) (k4 : PySem.W.keepIn K (.ref f4) = true)
    (a5 : PySem.W.nsIn K mainGlobals "is_stretch" = some (some (.ref f5))) (l5 : K.lookup f5 = some ⟨oc5, od5, .func (PySem.W.fnOf "is_stretch" "is_stretch" (defArgs (topS 11)) (defBody (topS 11)) (defScope (topS 11)) .none kV5 dc5 pm5 an5 cd5 ct5), sl5⟩) (c5 : PySem.W.codeIn K cd5 "is_stretch" = true) (k5 : PySem.W.keepIn K (.ref f5) = true)
    (a6 : PySem.W.nsIn K mainGlobals "end_text" = some (some (.ref f6))) (l6 : K.lookup f6 = some ⟨oc6, od6, .func (PySem.W.fnOf "end_text" "end_text" (defArgs (topS 18)) (defBody (topS 18)) (defScope (topS 18)) .none kV6 dc6 pm6 an6 cd6 ct6), sl6⟩) (c6 : PySem.W.codeIn K cd6 "end_text" = true) (k6 : PySem.W.keepIn K (.ref f6) = true)
    (a7 : PySem.W.nsIn K mainGlobals "show_stretches" = some (some (.ref f7))) (l7 : K.lookup f7 = some ⟨oc7, od7, .func (PySem.W.fnOf "show_stretches" "show_stretches" (defArgs (topS 20)) (defBody (topS 20)) (defScope (topS 20)) .none kV7 dc7 pm7 an7 cd7 ct7), sl7⟩) (c7 : PySem.W.codeIn K cd7 "show_stretches" = true) (k7 : PySem.W.keepIn K (.ref f7) = true)
    (a8 : PySem.W.nsIn K mainGlobals "plain" = some (some (.ref f8))) (l8 : K.lookup f8 = some ⟨oc8, od8, .func (PySem.W.fnOf "plain" "plain" (defArgs (topS 13)) (defBody (topS 13)) (defScope (topS 13)) .none kV8 dc8 pm8 an8 cd8 ct8), sl8⟩) (c8 : PySem.W.codeIn K cd8 "plain" = true) (k8 : PySem.W.keepIn K (.ref f8) = true)
    (a9 : PySem.W.nsIn K mainGlobals "is_entry" = some (some (.ref f9))) (l9 : K.lookup f9 = some ⟨oc9, od9, .func (PySem.W.fnOf "is_entry" "is_entry" (defArgs (topS 14)) (defBody (topS 14)) (defScope (topS 14)) .none kV9 dc9 pm9 an9 cd9 ct9), sl9⟩) (c9 : PySem.W.codeIn K cd9 "is_entry" = true) (k9 : PySem.W.keepIn K (.ref f9) = true)
    (a10 : PySem.W.nsIn K mainGlobals "is_shelf" = some (some (.ref f10))) (l10 : K.lookup f10 = some ⟨oc10, od10, .func (PySem.W.fnOf "is_shelf" "is_shelf" (defArgs (topS 15)) (defBody (topS 15)) (defScope (topS 15)) .none kV10 dc10 pm10 an10 cd10 ct10), sl10⟩) (c10 : PySem.W.codeIn K cd10 "is_shelf" = true) (k10 : PySem.W.keepIn K (.ref f10) = true)
    (a11 : PySem.W.nsIn K mainGlobals "show_shelf" = some (some (.ref f11))) (l11 : K.lookup f11 = some ⟨oc11, od11, .func (PySem.W.fnOf "show_shelf" "show_shelf" (defArgs (topS 21)) (defBody (topS 21)) (defScope (topS 21)) .none kV11 dc11 pm11 an11 cd11 ct11), sl11⟩) (c11 : PySem.W.codeIn K cd11 "show_shelf" = true) (k11 : PySem.W.keepIn K (.ref f11) = true)
    (a12 : PySem.W.nsIn K mainGlobals "words_in" = some (some (.ref f12))) (l12 : K.lookup f12 = some ⟨oc12, od12, .func (PySem.W.fnOf "words_in" "words_in" (defArgs (topS 22)) (defBody (topS 22)) (defScope (topS 22)) .none kV12 dc12 pm12 an12 cd12 ct12), sl12⟩) (c12 : PySem.W.codeIn K cd12 "words_in" = true) (k12 : PySem.W.keepIn K (.ref f12) = true)
    (a13 : PySem.W.nsIn K mainGlobals "number_in" = some (some (.ref f13))) (l13 : K.lookup f13 = some ⟨oc13, od13, .func (PySem.W.fnOf "number_in" "number_in" (defArgs (topS 23)) (defBody (topS 23)) (defScope (topS 23)) .none kV13 dc13 pm13 an13 cd13 ct13), sl13⟩) (c13 : PySem.W.codeIn K cd13 "number_in" = true) (k13 : PySem.W.keepIn K (.ref f13) = true)
    (a14 : PySem.W.nsIn K mainGlobals "pair_in" = some (some (.ref f14))) (l14 : K.lookup f14 = some ⟨oc14, od14, .func (PySem.W.fnOf "pair_in" "pair_in" (defArgs (topS 24)) (defBody (topS 24)) (defScope (topS 24)) .none kV14 dc14 pm14 an14 cd14 ct14), sl14⟩) (c14 : PySem.W.codeIn K cd14 "pair_in" = true) (k14 : PySem.W.keepIn K (.ref f14) = true)
    (a15 : PySem.W.nsIn K mainGlobals "read_table" = some (some (.ref f15))) (l15 : K.lookup f15 = some ⟨oc15, od15, .func (PySem.W.fnOf "read_table" "read_table" (defArgs (topS 26)) (defBody (topS 26)) (defScope (topS 26)) .none kV15 dc15 pm15 an15 cd15 ct15), sl15⟩) (c15 : PySem.W.codeIn K cd15 "read_table" = true) (k15 : PySem.W.keepIn K (.ref f15) = true)
    (a16 : PySem.W.nsIn K mainGlobals "stretch_in" = some (some (.ref f16))) (l16 : K.lookup f16 = some ⟨oc16, od16, .func (PySem.W.fnOf "stretch_in" "stretch_in" (defArgs (topS 25)) (defBody (topS 25)) (defScope (topS 25)) .none kV16 dc16 pm16 an16 cd16 ct16), sl16⟩) (c16 : PySem.W.codeIn K cd16 "stretch_in" = true) (k16 : PySem.W.keepIn K (.ref f16) = true)
    (a17 : PySem.W.nsIn K mainGlobals "read_lot" = some (some (.ref f17))) (l17 : K.lookup f17 = some ⟨oc17, od17, .func (PySem.W.fnOf "read_lot" "read_lot" (defArgs (topS 27)) (defBody (topS 27)) (defScope (topS 27)) .none kV17 dc17 pm17 an17 cd17 ct17), sl17⟩) (c17 : PySem.W.codeIn K cd17 "read_lot" = true) (k17 : PySem.W.keepIn K (.ref f17) = true)
    (a18 : PySem.W.nsIn K mainGlobals "read_stretches" = some (some (.ref f18))) (l18 : K.lookup f18 = some ⟨oc18, od18, .func (PySem.W.fnOf "read_stretches" "read_stretches" (defArgs (topS 28)) (defBody (topS 28)) (defScope (topS 28)) .none kV18 dc18 pm18 an18 cd18 ct18), sl18⟩) (c18 : PySem.W.codeIn K cd18 "read_stretches" = true) (k18 : PySem.W.keepIn K (.ref f18) = true)
    (a19 : PySem.W.nsIn K mainGlobals "read_shelf" = some (some (.ref f19))) (l19 : K.lookup f19 = some ⟨oc19, od19, .func (PySem.W.fnOf "read_shelf" "read_shelf" (defArgs (topS 29)) (defBody (topS 29)) (defScope (topS 29)) .none kV19 dc19 pm19 an19 cd19 ct19), sl19⟩) (c19 : PySem.W.codeIn K cd19 "read_shelf" = true) (k19 : PySem.W.keepIn K (.ref f19) = true)
    (a20 : PySem.W.nsIn K mainGlobals "_law_tin" = some (some (.ref f20))) (l20 : K.lookup f20 = some ⟨oc20, od20, .func (PySem.W.fnOf "_law_tin" "_law_tin" (defArgs (topS 31)) (defBody (topS 31)) (defScope (topS 31)) .none kV20 dc20 pm20 an20 cd20 ct20), sl20⟩) (c20 : PySem.W.codeIn K cd20 "_law_tin" = true) (k20 : PySem.W.keepIn K (.ref f20) = true)
    (a21 : PySem.W.nsIn K mainGlobals "_law_deal" = some (some (.ref f21))) (l21 : K.lookup f21 = some ⟨oc21, od21, .func (PySem.W.fnOf "_law_deal" "_law_deal" (defArgs (topS 32)) (defBody (topS 32)) (defScope (topS 32)) .none kV21 dc21 pm21 an21 cd21 ct21), sl21⟩) (c21 : PySem.W.codeIn K cd21 "_law_deal" = true) (k21 : PySem.W.keepIn K (.ref f21) = true)
    (a22 : PySem.W.nsIn K mainGlobals "_law_steps" = some (some (.ref f22))) (l22 : K.lookup f22 = some ⟨oc22, od22, .func (PySem.W.fnOf "_law_steps" "_law_steps" (defArgs (topS 33)) (defBody (topS 33)) (defScope (topS 33)) .none kV22 dc22 pm22 an22 cd22 ct22), sl22⟩) (c22 : PySem.W.codeIn K cd22 "_law_steps" = true) (k22 : PySem.W.keepIn K (.ref f22) = true)
    (a23 : PySem.W.nsIn K mainGlobals "_law_spans" = some (some (.ref f23))) (l23 : K.lookup f23 = some ⟨oc23, od23, .func (PySem.W.fnOf "_law_spans" "_law_spans" (defArgs (topS 34)) (defBody (topS 34)) (defScope (topS 34)) .none kV23 dc23 pm23 an23 cd23 ct23), sl23⟩) (c23 : PySem.W.codeIn K cd23 "_law_spans" = true) (k23 : PySem.W.keepIn K (.ref f23) = true)
    (a24 : PySem.W.nsIn K mainGlobals "_law_books" = some (some (.ref f24))) (l24 : K.lookup f24 = some ⟨oc24, od24, .func (PySem.W.fnOf "_law_books" "_law_books" (defArgs (topS 35)) (defBody (topS 35)) (defScope (topS 35)) .none kV24 dc24 pm24 an24 cd24 ct24), sl24⟩) (c24 : PySem.W.codeIn K cd24 "_law_books" = true) (k24 : PySem.W.keepIn K (.ref f24) = true)
    (a25 : PySem.W.nsIn K mainGlobals "_law_pairs" = some (some (.ref f25))) (l25 : K.lookup f25 = some ⟨oc25, od25, .func (PySem.W.fnOf "_law_pairs" "_law_pairs" (defArgs (topS 36)) (defBody (topS 36)) (defScope (topS 36)) .none kV25 dc25 pm25 an25 cd25 ct25), sl25⟩) (c25 : PySem.W.codeIn K cd25 "_law_pairs" = true) (k25 : PySem.W.keepIn K (.ref f25) = true)
    (a26 : PySem.W.nsIn K mainGlobals "_law_right" = some (some (.ref f26))) (l26 : K.lookup f26 = some ⟨oc26, od26, .func (PySem.W.fnOf "_law_right" "_law_right" (defArgs (topS 37)) (defBody (topS 37)) (defScope (topS 37)) .none kV26 dc26 pm26 an26 cd26 ct26), sl26⟩) (c26 : PySem.W.codeIn K cd26 "_law_right" = true) (k26 : PySem.W.keepIn K (.ref f26) = true)
    (a27 : PySem.W.nsIn K mainGlobals "law" = some (some (.ref f27))) (l27 : K.lookup f27 = some ⟨oc27, od27, .func (PySem.W.fnOf "law" "law" (defArgs (topS 38)) (defBody (topS 38)) (defScope (topS 38)) .none kV27 dc27 pm27 an27 cd27 ct27), sl27⟩) (c27 : PySem.W.codeIn K cd27 "law" = true) (k27 : PySem.W.keepIn K (.ref f27) = true)
    (z_abs : PySem.W.nsIn K mainGlobals "abs" = some none)
    (z_all : PySem.W.nsIn K mainGlobals "all" = some none)
    (z_bool : PySem.W.nsIn K mainGlobals "bool" = some none)
    (z_enumerate : PySem.W.nsIn K mainGlobals "enumerate" = some none)
    (z_int : PySem.W.nsIn K mainGlobals "int" = some none)
    (z_isinstance : PySem.W.nsIn K mainGlobals "isinstance" = some none)
    (z_len : PySem.W.nsIn K mainGlobals "len" = some none)
    (z_list : PySem.W.nsIn K mainGlobals "list" = some none)
    (z_max : PySem.W.nsIn K mainGlobals "max" = some none)
    (z_min : PySem.W.nsIn K mainGlobals "min" = some none)
    (z_range : PySem.W.nsIn K mainGlobals "range" = some none)
    (z_str : PySem.W.nsIn K mainGlobals "str" = some none)
    (z_tuple : PySem.W.nsIn K mainGlobals "tuple" = some none)
    (z_zip : PySem.W.nsIn K mainGlobals "zip" = some none)
    {t_FIGURES : Tok} (g_FIGURES : PySem.W.nsIn K mainGlobals "FIGURES" = some (some (.str "0123456789" t_FIGURES)))
    (pure : ∀ ns : List Int, ns.length ≤ 63 → d_law [.scr ns] = .ok (.bl true)) :
    ∃ fd : FuncData, (∀ (s : Shared) (v : Value), BindsTo s fd ⟨[v], []⟩ [("_law_script", v)]) ∧ ∀ base : Heap, K.In base → base.Ns mainGlobals mg → FnG l.prog w K mg base 5 fa fd ["_law_script"] (spLaw 63 K) := by
  have e := hfa.symm.trans (PySem.W.mg_of X G a27)
  cases e
  have T : Txt K mg := ⟨PySem.W.mg_none_of X G z_abs, PySem.W.mg_none_of X G z_all, PySem.W.mg_none_of X G z_bool, PySem.W.mg_none_of X G z_enumerate, PySem.W.mg_none_of X G z_int, PySem.W.mg_none_of X G z_isinstance, PySem.W.mg_none_of X G z_len, PySem.W.mg_none_of X G z_list, PySem.W.mg_none_of X G z_max, PySem.W.mg_none_of X G z_min, PySem.W.mg_none_of X G z_range, PySem.W.mg_none_of X G z_str, PySem.W.mg_none_of X G z_tuple, PySem.W.mg_none_of X G z_zip, gs_mk X G g_FIGURES,
    fn_fact X G a1 l1 c1 k1 (fun _ _ _ _ _ _ us hl => match us, hl with | [_], _ => rfl),
    fn_fact X G a2 l2 c2 k2 (fun _ _ _ _ _ _ us hl => match us, hl with | [_], _ => rfl),
    fn_fact X G a3 l3 c3 k3 (fun _ _ _ _ _ _ us hl => match us, hl with | [_], _ => rfl),
    fn_fact X G a4 l4 c4 k4 (fun _ _ _ _ _ _ us hl => match us, hl with | [_], _ => rfl),
    fn_fact X G a5 l5 c5 k5 (fun _ _ _ _ _ _ us hl => match us, hl with | [_], _ => rfl),
    fn_fact X G a6 l6 c6 k6 (fun _ _ _ _ _ _ us hl => match us, hl with | [_], _ => rfl),
    fn_fact X G a7 l7 c7 k7 (fun _ _ _ _ _ _ us hl => match us, hl with | [_], _ => rfl),
    fn_fact X G a8 l8 c8 k8 (fun _ _ _ _ _ _ us hl => match us, hl with | [_], _ => rfl),
    fn_fact X G a9 l9 c9 k9 (fun _ _ _ _ _ _ us hl => match us, hl with | [_], _ => rfl),
    fn_fact X G a10 l10 c10 k10 (fun _ _ _ _ _ _ us hl => match us, hl with | [_], _ => rfl),
    fn_fact X G a11 l11 c11 k11 (fun _ _ _ _ _ _ us hl => match us, hl with | [_], _ => rfl),
    fn_fact X G a12 l12 c12 k12 (fun _ _ _ _ _ _ us hl => match us, hl with | [_], _ => rfl),
    fn_fact X G a13 l13 c13 k13 (fun _ _ _ _ _ _ us hl => match us, hl with | [_], _ => rfl),
    fn_fact X G a14 l14 c14 k14 (fun _ _ _ _ _ _ us hl => match us, hl with | [_, _], _ => rfl),
    fn_fact X G a15 l15 c15 k15 (fun _ _ _ _ _ _ us hl => match us, hl with | [_], _ => rfl),
    fn_fact X G a16 l16 c16 k16 (fun _ _ _ _ _ _ us hl => match us, hl with | [_], _ => rfl),
    fn_fact X G a17 l17 c17 k17 (fun _ _ _ _ _ _ us hl => match us, hl with | [_], _ => rfl),
    fn_fact X G a18 l18 c18 k18 (fun _ _ _ _ _ _ us hl => match us, hl with | [_], _ => rfl),
    fn_fact X G a19 l19 c19 k19 (fun _ _ _ _ _ _ us hl => match us, hl with | [_], _ => rfl),
    fn_fact X G a20 l20 c20 k20 (fun _ _ _ _ _ _ us hl => match us, hl with | [_, _], _ => rfl),
    fn_fact X G a21 l21 c21 k21 (fun _ _ _ _ _ _ us hl => match us, hl with | [_, _], _ => rfl),
    fn_fact X G a22 l22 c22 k22 (fun _ _ _ _ _ _ us hl => match us, hl with | [_, _], _ => rfl),
    fn_fact X G a23 l23 c23 k23 (fun _ _ _ _ _ _ us hl => match us, hl with | [_], _ => rfl),
    fn_fact X G a24 l24 c24 k24 (fun _ _ _ _ _ _ us hl => match us, hl with | [_], _ => rfl),
    fn_fact X G a25 l25 c25 k25 (fun _ _ _ _ _ _ us hl => match us, hl with | [_, _], _ => rfl),
    fn_fact X G a26 l26 c26 k26 (fun _ _ _ _ _ _ us hl => match us, hl with | [_, _, _], _ => rfl),
    fn_fact X G a27 l27 c27 k27 (fun _ _ _ _ _ _ us hl => match us, hl with | [_], _ => rfl)⟩
  exact ⟨PySem.W.fnOf "law" "law" (defArgs (topS 38)) (defBody (topS 38)) (defScope (topS 38)) .none kV27 dc27 pm27 an27 cd27 ct27, fun s v => .of_eq rfl, fun base _ _ => law_spec (fn_law T (fun_mk (st := topS 38) l27 c27 k27)) pure⟩
end BR
open PySem PySem.W PyProof.Rows
set_option maxHeartbeats 0 in
theorem PySem.Challenge.cw_boastrow_k94_texts_of_tables_and_lots_holds : PySem.Challenge.rw_boastrow_k94_texts_of_tables_and_lots.Holds := by
  w_on; o_law; k_headL; (case hw => w_witness2)
  k_fill
  refine BR.walk_G (l := PySem.Challenge.rw_boastrow_k94_texts_of_tables_and_lots) (n := 63) (k := 5) (x := "_law_script") (sp := fun w => BR.spLaw 63 _) rfl (by decide) rfl ⟨⟨rfl, by decide, by decide⟩, rfl⟩ (fun w h Y => PySem.W.kIn_of Y) ?F (fun _ _ a ns hl _ hS => ⟨a, ns, rfl, hS, hl, fun _ => rfl⟩)
  case F =>
    intro w mg fa h KX G hmg
    refine' BR.all_mk KX G hmg ?a1 ?l1 ?c1 ?k1 ?a2 ?l2 ?c2 ?k2 ?a3 ?l3 ?c3 ?k3 ?a4 ?l4 ?c4 ?k4 ?a5 ?l5 ?c5 ?k5 ?a6 ?l6 ?c6 ?k6 ?a7 ?l7 ?c7 ?k7 ?a8 ?l8 ?c8 ?k8 ?a9 ?l9 ?c9 ?k9 ?a10 ?l10 ?c10 ?k10 ?a11 ?l11 ?c11 ?k11 ?a12 ?l12 ?c12 ?k12 ?a13 ?l13 ?c13 ?k13 ?a14 ?l14 ?c14 ?k14 ?a15 ?l15 ?c15 ?k15 ?a16 ?l16 ?c16 ?k16 ?a17 ?l17 ?c17 ?k17 ?a18 ?l18 ?c18 ?k18 ?a19 ?l19 ?c19 ?k19 ?a20 ?l20 ?c20 ?k20 ?a21 ?l21 ?c21 ?k21 ?a22 ?l22 ?c22 ?k22 ?a23 ?l23 ?c23 ?k23 ?a24 ?l24 ?c24 ?k24 ?a25 ?l25 ?c25 ?k25 ?a26 ?l26 ?c26 ?k26 ?a27 ?l27 ?c27 ?k27 ?z_abs ?z_all ?z_bool ?z_enumerate ?z_int ?z_isinstance ?z_len ?z_list ?z_max ?z_min ?z_range ?z_str ?z_tuple ?z_zip ?g_FIGURES BR.pure_law
    (case a1 => k_is); (case l1 => k_is); (case c1 => k_is); (case k1 => k_is); (case a2 => k_is); (case l2 => k_is); (case c2 => k_is); (case k2 => k_is); (case a3 => k_is); (case l3 => k_is); (case c3 => k_is); (case k3 => k_is); (case a4 => k_is); (case l4 => k_is); (case c4 => k_is); (case k4 => k_is); (case a5 => k_is); (case l5 => k_is); (case c5 => k_is); (case k5 => k_is); (case a6 => k_is); (case l6 => k_is); (case c6 => k_is); (case k6 => k_is); (case a7 => k_is); (case l7 => k_is); (case c7 => k_is); (case k7 => k_is); (case a8 => k_is); (case l8 => k_is); (case c8 => k_is); (case k8 => k_is); (case a9 => k_is); (case l9 => k_is); (case c9 => k_is); (case k9 => k_is); (case a10 => k_is); (case l10 => k_is); (case c10 => k_is); (case k10 => k_is); (case a11 => k_is); (case l11 => k_is); (case c11 => k_is); (case k11 => k_is); (case a12 => k_is); (case l12 => k_is); (case c12 => k_is); (case k12 => k_is); (case a13 => k_is); (case l13 => k_is); (case c13 => k_is); (case k13 => k_is); (case a14 => k_is); (case l14 => k_is); (case c14 => k_is); (case k14 => k_is); (case a15 => k_is); (case l15 => k_is); (case c15 => k_is); (case k15 => k_is); (case a16 => k_is); (case l16 => k_is); (case c16 => k_is); (case k16 => k_is); (case a17 => k_is); (case l17 => k_is); (case c17 => k_is); (case k17 => k_is); (case a18 => k_is); (case l18 => k_is); (case c18 => k_is); (case k18 => k_is); (case a19 => k_is); (case l19 => k_is); (case c19 => k_is); (case k19 => k_is); (case a20 => k_is); (case l20 => k_is); (case c20 => k_is); (case k20 => k_is); (case a21 => k_is); (case l21 => k_is); (case c21 => k_is); (case k21 => k_is); (case a22 => k_is); (case l22 => k_is); (case c22 => k_is); (case k22 => k_is); (case a23 => k_is); (case l23 => k_is); (case c23 => k_is); (case k23 => k_is); (case a24 => k_is); (case l24 => k_is); (case c24 => k_is); (case k24 => k_is); (case a25 => k_is); (case l25 => k_is); (case c25 => k_is); (case k25 => k_is); (case a26 => k_is); (case l26 => k_is); (case c26 => k_is); (case k26 => k_is); (case a27 => k_is); (case l27 => k_is); (case c27 => k_is); (case k27 => k_is); (case z_abs => k_is); (case z_all => k_is); (case z_bool => k_is); (case z_enumerate => k_is); (case z_int => k_is); (case z_isinstance => k_is); (case z_len => k_is); (case z_list => k_is); (case z_max => k_is); (case z_min => k_is); (case z_range => k_is); (case z_str => k_is); (case z_tuple => k_is); (case z_zip => k_is); (case g_FIGURES => k_is)

