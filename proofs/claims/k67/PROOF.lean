import PyProof.Rows.All
import Wide.All
import OpenK.AllK
import Wide.FinOn
import PySem.Challenge.RW_boastrow_k67_what_long_rows_are
import HandS.ForMost
import HandS.ForExc
import HandS.Wide
import HandS.ExcCtx
import HandS.ExcIs
import HandS.TupAny
import HandS.IsInst
import HandS.Style
import HandS.Zip
import HandS.SortInts
import HandS.SetFor
import PyProof.ZipIter
import HandS.More
import HandS.Defaults
import HandS.Conv
import HandS.SetBool
import HandS.ListItems
import KE.KDictZip
import KE.KItemsList
import KE.GoesMore
import KE.GoesEnum
import HandS.DictComp
import PyProof.LongRange
import HandS.ExcOwn
import HandS.Deep
import KE.KTupSum
import HandS.Flow
import HandS.Flt
import HandS.Hot
import PyProof.ListRange
import HandS.ExcInit
import HandS.ExcField
import HandS.ExcValue
import HandS.SortRule
import HandS.Rev
import HandS.SortKw
import KE.DataMinMax
import PyProof.SumAnyB
import HandS.Text
import HandS.FStr
import HandS.WideBits
import HandS.Iter
import KE.OsRunLaw
set_option Elab.async false
set_option linter.all false
set_option maxRecDepth 100000
/-! K0: defs called where no text of a thing is being written (so that repr may be asked within) -/
namespace BR
open PySem PySem.Spec PyProof.Rows L2

/-- room for k calls, and no text of a thing being written -/
structure RoomG (k : Nat) (A : Around) : Prop where
  r : Room k A
  g : A.guards = some []
theorem RoomG.mono {j k : Nat} {A : Around} (h : RoomG k A) (l : j ≤ k) : RoomG j A := ⟨h.r.mono l, h.g⟩
/-- a def keeps its promise there -/
structure FnG (P : Program) (w : World) (K : PySem.W.Frag) (mg : Str → Option Value) (base : Heap) (k : Nat) (f : Addr) (fd : FuncData) (ps : List Str) (sp : Sp) : Prop where
  len : ∀ vs H Q E, sp vs H Q E → vs.length = ps.length
  run : ∀ (A : Around) (outer : List Env) (s : Shared) (H : Hp) (args : Args) (us : List Value) (vs : List V) (Q : VK) (E : XK),
    RoomG k A → Env0 P w K mg base A outer s H → BindsTo s fd args (ps.zip us) → Vals vs us → sp vs H Q E →
    codeAny (model P w) A (.call (.ref f) args) (CR (L2N.CX P w) outer P w H s Q E) s
section
variable {P : Program} {w : World} {K : PySem.W.Frag} {mg : Str → Option Value} {base : Heap}
/-- a def by its body -/
theorem fn_G {x qual : Str} {st : Stmt} {f : Addr} {fd : FuncData} {N ps : List Str} {k : Nat} {sp : Sp} (F : L2.Fun K x qual st f fd) (S : FnScope N ps (defScope st))
    (len : ∀ vs H Q E, sp vs H Q E → vs.length = ps.length)
    (hbody : ∀ (cdv : Value) (A : Around) (outer : List Env) (s : Shared) (H : Hp) (vs : List V) (Q : VK) (E : XK), RoomG k (A.deeper (envOfC qual (defScope st) s.heap.objs.size f cdv)) → sp vs H Q E →
      ∃ t, PSs (cxOf (L2N.CX P w) P w K mg base N qual (defScope st) f cdv A outer s H E) (defBody st) t ∧ t { nx := fun _ H' => Q .non H', rt := Q } (start N vs) H) :
    FnG P w K mg base (k + 1) f fd ps sp := by
  obtain ⟨oc, od, kV, doc, pm, an, cdv, ct, osl, efd, lk, hcd⟩ := F.ex
  subst efd
  constructor
  · exact len
  intro A outer s H args us vs Q E hr e0 hb rv hsp
  have nargs := len vs H Q E hsp
  have kin : K.In s.heap := e0.mod.kin.keeps fun b o e => (e0.bs b o e).1
  have nolim : s.heap.NoLimit := e0.mod.nolimit.keeps fun b o e => (e0.bs b o e).1
  have kinds : ∀ y ∈ ps.zip us, (defScope st).names.lookup y.1 = some .local ∨ ((defScope st).names.lookup y.1 = some .cell ∧ ((cellsFrom (s.heap.objs.size + 1) (defScope st).names []).lookup y.1).isSome = true) := by
    intro ⟨n, v⟩ hy
    have hp := S.par n (List.of_mem_zip hy).1
    cases hp with
    | inl q => exact Or.inl q
    | inr q => exact Or.inr ⟨q, PySem.W.cellsFrom_some _ _ _ (Or.inl q)⟩
  refine codeAny_call_function hr.r.depth (kin _ _ lk) rfl S.co S.gen rfl (PySem.W.codeRec_of kin hcd) (hb _ _ _ _ (wpAny_newFunctionEnv_cells S.kind kinds fun env he s1 x => ?_))
  subst he
  refine And.intro (nolim.keeps x.toInCall.keep) (codeAny_func ?_)
  have room : RoomG k (A.deeper (envOfC qual (defScope st) s.heap.objs.size f cdv)) := ⟨hr.r.deeper _, hr.g⟩
  obtain ⟨t, body, reads⟩ := hbody cdv A outer s H vs Q E room hsp
  have inv := inv_start (CX := L2N.CX P w) (E := E) (N := N) S hr.r.hd e0 nargs rv x
  have done : ∀ {σ' : L2.St} {H' : Hp} {v : V} {u : Value} {s' : Shared}, Inv (cxOf (L2N.CX P w) P w K mg base N qual (defScope st) f cdv A outer s H E) [] σ' H' s' → RelV v u → Q v H' → CE outer P w H s Q u s' := by
    intro σ' H' v u s' J r q
    exact ⟨v, H', J.os, J.bare, J.base, J.hok, r, q⟩
  refine wpAny_mono (body.run [] s1 (start N vs) H _ inv reads) (fun fl s' hs => ?_) (fun e s' hs => hs)
  match fl, hs with
  | .ret u, hs =>
    obtain ⟨v, σ', H', J, r, q⟩ := hs
    exact done J r q
  | .next, hs =>
    obtain ⟨σ', H', J, q⟩ := hs
    exact done (v := V.non) (u := Value.none) J rfl q
  | .brk, hs => exact hs.choose_spec.choose_spec.2.elim
  | .cont, hs => exact hs.choose_spec.choose_spec.2.elim
end
section
variable {X : Cx} {k : Nat} {f : Addr} {fd : FuncData} {ps : List Str} {sp : Sp} {E : XK} {x : Str} {p pos : Pos} {e : Expr} {es : List Expr} {t : TA}
theorem run_G {pins : List (Addr × Obj)} {σ : L2.St} {H : Hp} {s : Shared} {Q : VK} {us ds : List Value} {vs dvs : List V} (F : FnG X.prog X.w X.K X.mg X.base k f fd ps sp) (hr : RoomG k X.A) (hb : Binds X.K fd ps ds) (hd : Vals dvs ds) (hx : Passes (L2N.CX X.prog X.w) X E)
    (I : Inv X pins σ H s) (r : Vals vs us) (h : sp (vs ++ dvs) H Q E) : wpAny (model X.prog X.w) X.A (call (.ref f) us) (EP X pins σ Q) X.xe s := by
  have rr : Vals (vs ++ dvs) (us ++ ds) := r.append hd
  have hl : (us ++ ds).length = ps.length := rr.length.symm.trans (F.len _ _ _ _ h)
  refine wpAny_call (codeAny_mono (F.run X.A X.stack s H ⟨us, []⟩ (us ++ ds) (vs ++ dvs) Q E hr I.env0 (hb s us I.kIn hl) rr h) fun res s' hq => ?_)
  match res, hq with
  | .error e, hq => exact hx pins σ H s e s' I hq
  | .ok (.ret u), hq => exact I.after hq
  | .ok .next, hq => exact False.elim hq
  | .ok .brk, hq => exact False.elim hq
  | .ok .cont, hq => exact False.elim hq
theorem pe_callG {ds : List Value} {dvs : List V} (F : FnG X.prog X.w X.K X.mg X.base k f fd ps sp) (hr : RoomG k X.A) (hg : Gl X x) (hm : X.mg x = some (.ref f)) (hk : PySem.W.keepIn X.K (.ref f) = true) (hb : Binds X.K fd ps ds) (hd : Vals dvs ds) (hx : Passes (L2N.CX X.prog X.w) X E)
    (ha : PA X (e :: es) t) (hdb : (x == ("__debug__" : Str)) = false) (he : starEach (e :: es) X.env = (false, eval e X.env) :: starEach es X.env) (hpl : (backTo pos (starEach es X.env)).any (·.1) = false) :
    PE X (.Call (.Name x p) (e :: es) [] pos) (tCall sp dvs E t) := by
  constructor
  intro pins s σ H Q I h
  refine wpAny_Call_Name_kw (ld_glob I hg hm (PySem.W.callWith_K (h₀ := X.base) I.ok.mod.kin hk (thn (ha.run pos pins s σ H _ I h) fun us s1 ⟨vs, H1, I1, rr, q⟩ => And.intro I1.kIn ?_) he hpl) hdb)
  exact run_G F hr hb hd hx I1 rr q
end

/-! ### the end of a law -/
/-- the law's def, called with the script, where its promise holds -/
theorem law_G {P : Program} {w : World} {K : PySem.W.Frag} {mg mb : Str → Option Value} {k : Nat} {fa a : Addr} {fd : FuncData} {x : Str} {sp : Sp} {s₁ : Shared} {vs : List Value} {ns : List Int}
    (KX : K.In s₁.heap) (hns : s₁.heap.Ns mainGlobals mg) (hb : s₁.heap.Ns builtinsNs mb) (hbb : ∀ x : Str, x ≠ "__name__" → mb x = bootBuiltins x) (hlim : s₁.heap.NoLimit) (hg : s₁.gens = #[])
    (ha : s₁.heap.get? a = some { cls := .type "list", data := .seq vs.toArray }) (hi : IntsAre vs ns) (hl : ns.length ≤ sizeLine) (hr : RoomG k callerA)
    (F : ∀ base : Heap, K.In base → base.Ns mainGlobals mg → FnG P w K mg base k fa fd [x] sp) (hbind : ∀ (s : Shared) (u : Value), BindsTo s fd ⟨[u], []⟩ [(x, u)])
    (hsp : ∀ H : Hp, Only H → SqL K H a (ns.map V.int) → sp [.ref a] H (fun v _ => v = .bl true) fun _ _ _ => False) :
    codeAny (model P w) callerA (.call (.ref fa) ⟨[.ref a], []⟩) (fun r s' => r = .ok (.ret (.bool true)) ∧ OldK s₁.heap s'.heap ∧ s'.os = s₁.os ∧ AllBare s'.gens) s₁ := by
  have vals := vals_ints hi
  have lens := hi.length
  have go : ∀ H : Hp, Only H → SqL K H a (ns.map V.int) → HOk P w H s₁.heap → (∀ b, H b ≠ none → b = a) → (H a ≠ none → K.lookup a = none) →
      codeAny (model P w) callerA (.call (.ref fa) ⟨[.ref a], []⟩) (fun r s' => r = .ok (.ret (.bool true)) ∧ OldK s₁.heap s'.heap ∧ s'.os = s₁.os ∧ AllBare s'.gens) s₁ := by
    intro H only sq hok at_a not_K
    have notDict : ∀ {b : Addr} {o : Obj} {es : Array DictEntry} {ep : Nat}, s₁.heap.get? b = some o → o.data = .dict es ep → H b = none := by
      intro b o es ep e d
      match q : H b with
      | none => rfl
      | some u =>
        have eb : b = a := at_a b (by simp [q])
        rw [eb, ha] at e
        cases e
        cases (show Data.seq vs.toArray _ = Data.dict es ep from d)
    have nsH : ∀ {b : Addr} {m : Str → Option Value}, s₁.heap.Ns b m → (hidT s₁.heap H).Ns b m := by
      intro b m h
      obtain ⟨o, es, ep, e, d, r⟩ := h
      exact ⟨o, es, ep, hidT_get e (notDict e d), d, r⟩
    have kH : K.In (hidT s₁.heap H) := by
      intro b o e
      refine hidT_get (KX b o e) ?_
      match q : H b with
      | none => rfl
      | some u =>
        have eb : b = a := at_a b (by simp [q])
        subst eb
        rw [not_K (by simp [q])] at e
        cases e
    obtain ⟨mc, lim1, lim2⟩ := hlim
    have md : Mod K mg (hidT s₁.heap H) := { kin := kH, glob := nsH hns, blt := ⟨mb, nsH hb, hbb⟩, nolimit := ⟨mc, nsH lim1, lim2⟩ }
    have env : Env0 P w K mg (hidT s₁.heap H) callerA [] s₁ H :=
      { frames := rfl, mod := md, bs := fun b o e => of_hidT e, bsz := Nat.le_of_eq (hidT_size _ _), funs := trivial, frf := fun b hb => (by cases hb), hok := hok, bare := .of_eq hg }
    refine codeAny_mono ((F _ kH (nsH hns)).run callerA [] s₁ H ⟨[.ref a], []⟩ [.ref a] [.ref a] _ _ hr env (hbind s₁ (.ref a)) (.cons rfl .nil) (hsp H only sq)) fun r s' h => ?_
    match r, h with
    | .error e, h =>
      obtain ⟨_, _, _, _, _, _, _, _, _, _, _, _, z⟩ := h
      exact z.elim
    | .ok .next, h => exact False.elim h
    | .ok .brk, h => exact False.elim h
    | .ok .cont, h => exact False.elim h
    | .ok (.ret u), h =>
      obtain ⟨v, H', os, bare, un, hok', r', q⟩ := h
      have qv : v = .bl true := q
      rw [qv] at r'
      have eu : u = Value.bool true := r'
      refine ⟨by rw [eu], OldK.of_keep fun b o e => ?_, os, bare⟩
      match qb : H b with
      | none => exact un.keep b o e qb (fun z => by cases z) (fun z => by cases z)
      | some y =>
        rcases only b with z | ⟨ob, xs, z⟩
        · rw [qb] at z; cases z
        · have e1 := (hok b _ z).1
          have e2 := (hok' b _ (un.frzs b ob _ z)).1
          rw [e] at e1
          cases e1
          exact e2
  match hk : K.lookup a with
  | some o =>
    have e := KX a o hk
    rw [ha] at e
    have eo := Option.some.inj e
    subst eo
    refine go (fun _ => none) (fun _ => Or.inl rfl) (Or.inr ⟨_, vs.toArray, _, hk, rfl, rfl, rfl, by rw [List.size_toArray, lens]; exact hl, by simpa using vals⟩) (fun b u z => by cases (show (none : Option HO) = some u from z)) (fun b z => absurd rfl z) (fun z => absurd rfl z)
  | none =>
    let fr : HO := .frz { cls := .type "list", data := .seq vs.toArray } (.lst (ns.map V.int))
    have at1 : (fun b : Addr => if b = a then some fr else none) a = some fr := if_pos rfl
    have at2 : ∀ b, (fun b : Addr => if b = a then some fr else none) b ≠ none → b = a := fun b z => by
      by_cases hb : b = a
      · exact hb
      · exact absurd (if_neg hb) z
    refine go (fun b => if b = a then some fr else none) (fun b => ?_) (Or.inl (Or.inr ⟨_, at1⟩)) (fun b u z => ?_) at2 (fun _ => hk)
    · by_cases hb : b = a
      · exact Or.inr ⟨_, _, if_pos hb⟩
      · exact Or.inl (if_neg hb)
    · have eb := at2 b (by rw [show (fun b : Addr => if b = a then some fr else none) b = some u from z]; simp)
      subst eb
      cases (at1.symm.trans z)
      exact ⟨ha, by rw [List.length_map]; exact hl, vs, _, vals, ha⟩

/-- what is left to be shown behind the head -/
theorem walk_G {l : PySem.W.OpenLaw} {n k : Nat} {q : Program} {loose : List Str} {XP : (Str → Option Value) → Heap → Prop} {YP : World → Heap → Prop} {d : DefRec} {K : Params → PySem.W.Frag} {sp : World → Sp} {x : Str}
    (hn : l.most = some n) (hn2 : n ≤ sizeLine) (hdf : d.params.defaults = []) (hr : RoomG k callerA)
    (hY : ∀ (w : World) (h : Heap), YP w h → (K w.params).In h)
    (F : ∀ (w : World) (mg : Str → Option Value) (fa : Addr) (h : Heap), (K w.params).In h → h.Ns mainGlobals mg → mg d.name = some (.ref fa) →
      ∃ fd : FuncData, (∀ (s : Shared) (u : Value), BindsTo s fd ⟨[u], []⟩ [(x, u)]) ∧
        ∀ base : Heap, (K w.params).In base → base.Ns mainGlobals mg → FnG l.prog w (K w.params) mg base k fa fd [x] (sp w))
    (hsp : ∀ (w : World) (H : Hp) (a : Addr) (ns : List Int), ns.length ≤ n → Only H → SqL (K w.params) H a (ns.map V.int) → sp w [.ref a] H (fun v _ => v = .bl true) fun _ _ _ => False) :
    PySem.W.WalkO q loose XP YP l.row.toRowW d [] (fun f vs => PySem.call f vs) := by
  refine Att.attach_call hn hdf ?_
  intro w s₀ s₁ mg mb fa o pm cd doc a vs ns G Y ho hd hcd hmg hobj hints hlen hg
  have kx := hY w _ Y
  obtain ⟨fd, bnd, fn⟩ := F w mg fa _ kx G.T.g hmg
  exact law_G kx G.T.g G.T.b G.T.builtins G.T.nolimit hg hobj hints (Nat.le_trans hlen hn2) hr fn bnd (fun H only sq => hsp w H a ns hlen only sq)
end BR

/-! K1: data as trees, what of the heap stands for them, and a judgement that runs a def's text against a plain function over such data -/
namespace BR
open PySem PySem.Spec PyProof.Rows L2

/-- a thing as a tree -/
inductive D where
  | non | bl (b : Bool) | int (i : Int) | str (x : Str) | lst (xs : List D) | tup (xs : List D) | dic (kvs : List (Key × D))
  /-- the law's own list -/
  | scr (ns : List Int)
  /-- a caught error of the class of this name, its fields -/
  | exc (c : Str) (xf : List (Str × Option Int))
  /-- an instance of an own class: its fields (true: one of its own lists, while it is in the making) -/
  | obj (c : Str) (fs : List (Str × Bool × D))

/-- an error: its class's name, its fields -/
structure Exc where
  cls : Str
  fs : List (Str × Option Int)

inductive Res (α : Type) where
  | ok (a : α) | raise (x : Exc) | bad
namespace Res
def bind {α β : Type} (m : Res α) (f : α → Res β) : Res β := match m with
  | .ok a => f a
  | .raise x => .raise x
  | .bad => .bad
def exc {α : Type} : Res α → Option Exc
  | .raise x => some x
  | _ => none
end Res

/-- whether an error of the class c is one of the class t -/
def subE (c t : Str) : Bool := c == t || t == ("BoastError" : Str) || t == ("ValueError" : Str)
/-- what is known of the class at C, whose name is c -/
structure ExcF (K : PySem.W.Frag) (c : Str) (C : Addr) : Prop where
  at_ : PySem.W.nsIn K mainGlobals c = some (some (.ref C))
  cl : L2.ExcC K C
  ty : ∀ T : String, T ∈ ["int", "bool", "str", "tuple", "list", "dict"] → PySem.W.kitOne K (.ref C) (.type T) = some false
/-- what is known of the own class at C, whose name is c -/
structure ObF (K : PySem.W.Frag) (c : Str) (C : Addr) : Prop where
  at_ : PySem.W.nsIn K mainGlobals c = some (some (.ref C))
  cl : L2.Cls K C
  ha : PySem.W.findIn K (.ref C) "__class__" = some (some (.builtin "object.__class__"))
  hn : PySem.W.specialIn K (.builtin "object.__class__") "__get__" = some (some (.builtin "getset_descriptor.__get__"))
  htk : PySem.W.takesIn K (.builtin "object.__class__") = some true
  hm : PySem.W.mroIn K C (.type "object") = some true
  ty : ∀ T : String, T ∈ ["int", "bool", "str", "tuple", "list", "dict"] → PySem.W.kitOne K (.ref C) (.type T) = some false
/-- an error's object -/
def ExO1 (oe : Obj) : HO := .frz oe (.ext fun _ => True)
def xfV (xf : List (Str × Option Int)) : List (Str × V) := xf.map fun q => (q.1, match q.2 with | none => V.non | some n => V.int n)
/-- at a: an error, its fields in its dict -/
def ExAt (G H : Hp) (C a : Addr) (xf : List (Str × Option Int)) : Prop := ∃ (oe : Obj) (vs : Array Value), H a = some (ExO1 oe) ∧ oe.data = .fields vs ∧ ((xf = [] ∧ L2N.Zn (.ref C) none oe) ∨ ∃ dd, xf ≠ [] ∧ L2N.Zn (.ref C) (some dd) oe ∧ G dd = some (.xd (xfV xf)))
theorem ExAt.sub {G G' H H' : Hp} (g : ∀ a o, G a = some o → G' a = some o) (s : ∀ a o, H a = some o → H' a = some o) {C a : Addr} {xf : List (Str × Option Int)} (h : ExAt G H C a xf) : ExAt G' H' C a xf := by
  obtain ⟨oe, vs, h1, h2, h3⟩ := h
  refine ⟨oe, vs, s _ _ h1, h2, ?_⟩
  rcases h3 with h3 | ⟨dd, h4, h5, h6⟩
  · exact .inl h3
  · exact .inr ⟨dd, h4, h5, g _ _ h6⟩
mutual
def Rep (K : PySem.W.Frag) (G : Hp) : D → V → Prop
  | .non, v => v = .non
  | .bl b, v => v = .bl b
  | .int i, v => v = .int i
  | .str x, v => v = .str x
  | .lst ds, v => ∃ a vs, v = .ref a ∧ G a = some (.lst vs) ∧ Reps K G ds vs
  | .tup ds, v => ∃ a vs, v = .ref a ∧ SqT K G a vs ∧ Reps K G ds vs
  | .dic kvs, v => ∃ a kv, v = .ref a ∧ G a = some (.dK kv) ∧ RepKs K G kvs kv
  | .scr ns, v => ∃ a, v = .ref a ∧ SqL K G a (ns.map V.int)
  | .exc c xf, v => ∃ a C, v = .ref a ∧ ExcF K c C ∧ ExAt G G C a xf
  | .obj c fs, v => ∃ a C dx vs, v = .ref a ∧ ObF K c C ∧ G a = some (.ins C dx vs) ∧ G dx = some (.own a) ∧ RepFs K G fs vs
def Reps (K : PySem.W.Frag) (G : Hp) : List D → List V → Prop
  | [], vs => vs = []
  | d :: ds, vs => ∃ v r, vs = v :: r ∧ Rep K G d v ∧ Reps K G ds r
def RepKs (K : PySem.W.Frag) (G : Hp) : List (Key × D) → List (Key × V) → Prop
  | [], vs => vs = []
  | (k, d) :: ds, vs => ∃ v r, vs = (k, v) :: r ∧ Rep K G d v ∧ RepKs K G ds r
def RepFs (K : PySem.W.Frag) (G : Hp) : List (Str × Bool × D) → List (Str × V) → Prop
  | [], vs => vs = []
  | (k, _, d) :: ds, vs => ∃ v r, vs = (k, v) :: r ∧ Rep K G d v ∧ RepFs K G ds r
end

/-- all that the one tracks the other does -/
def Sub (G H : Hp) : Prop := ∀ a o, G a = some o → H a = some o
theorem Sub.refl (H : Hp) : Sub H H := fun _ _ e => e
theorem Sub.trans {A B C : Hp} (x : Sub A B) (y : Sub B C) : Sub A C := fun a o e => y a o (x a o e)
theorem Sub.upd {H : Hp} {p : Addr} {o : HO} (h : H p = none) : Sub H (upd H p o) := fun b x e => by
  rw [upd_ne (ne_of_none e h)]; exact e
theorem Rd.sub {G H : Hp} (s : Sub G H) {a : Addr} {u : HO} : Rd G a u → Rd H a u
  | .inl h => .inl (s _ _ h)
  | .inr ⟨o, h⟩ => .inr ⟨o, s _ _ h⟩
theorem SqL.sub {K : PySem.W.Frag} {G H : Hp} (s : Sub G H) {a : Addr} {xs : List V} : SqL K G a xs → SqL K H a xs
  | .inl h => .inl (Rd.sub s h)
  | .inr h => .inr h
theorem SqT.sub {K : PySem.W.Frag} {G H : Hp} (s : Sub G H) {a : Addr} {xs : List V} : SqT K G a xs → SqT K H a xs
  | .inl h => .inl (Rd.sub s h)
  | .inr h => .inr h

mutual
theorem Rep.sub {K : PySem.W.Frag} {G H : Hp} (s : Sub G H) : ∀ (d : D) (v : V), Rep K G d v → Rep K H d v
  | .non, _, h => h
  | .bl _, _, h => h
  | .int _, _, h => h
  | .str _, _, h => h
  | .scr ns, _, h => by
    obtain ⟨a, e, q⟩ := h
    exact ⟨a, e, SqL.sub s q⟩
  | .exc c xf, _, h => by
    obtain ⟨a, C, e, f, g'⟩ := h
    exact ⟨a, C, e, f, g'.sub s s⟩
  | .obj c fs, _, h => by
    obtain ⟨a, C, dx, vs, e, f, q, q2, r⟩ := h
    exact ⟨a, C, dx, vs, e, f, s _ _ q, s _ _ q2, RepFs.sub s fs vs r⟩
  | .lst ds, _, h => by
    obtain ⟨a, vs, e, q, r⟩ := h
    exact ⟨a, vs, e, s _ _ q, Reps.sub s ds vs r⟩
  | .tup ds, _, h => by
    obtain ⟨a, vs, e, q, r⟩ := h
    exact ⟨a, vs, e, SqT.sub s q, Reps.sub s ds vs r⟩
  | .dic ds, _, h => by
    obtain ⟨a, vs, e, q, r⟩ := h
    exact ⟨a, vs, e, s _ _ q, RepKs.sub s ds vs r⟩
theorem Reps.sub {K : PySem.W.Frag} {G H : Hp} (s : Sub G H) : ∀ (ds : List D) (vs : List V), Reps K G ds vs → Reps K H ds vs
  | [], _, h => h
  | d :: ds, _, h => by
    obtain ⟨v, r, e, h1, h2⟩ := h
    exact ⟨v, r, e, Rep.sub s d v h1, Reps.sub s ds r h2⟩
theorem RepKs.sub {K : PySem.W.Frag} {G H : Hp} (s : Sub G H) : ∀ (ds : List (Key × D)) (vs : List (Key × V)), RepKs K G ds vs → RepKs K H ds vs
  | [], _, h => h
  | (k, d) :: ds, _, h => by
    obtain ⟨v, r, e, h1, h2⟩ := h
    exact ⟨v, r, e, Rep.sub s d v h1, RepKs.sub s ds r h2⟩
theorem RepFs.sub {K : PySem.W.Frag} {G H : Hp} (s : Sub G H) : ∀ (ds : List (Str × Bool × D)) (vs : List (Str × V)), RepFs K G ds vs → RepFs K H ds vs
  | [], _, h => h
  | (k, b, d) :: ds, _, h => by
    obtain ⟨v, r, e, h1, h2⟩ := h
    exact ⟨v, r, e, Rep.sub s d v h1, RepFs.sub s ds r h2⟩
end

section
variable {K : PySem.W.Frag} {G H : Hp}
theorem Reps.length : ∀ {ds : List D} {vs : List V}, Reps K G ds vs → ds.length = vs.length
  | [], _, h => by rw [show _ = [] from h]; rfl
  | d :: ds, _, h => by
    obtain ⟨v, r, e, _, h2⟩ := h
    rw [e, List.length_cons, List.length_cons, Reps.length h2]
theorem Reps.append : ∀ {ds es : List D} {vs us : List V}, Reps K G ds vs → Reps K G es us → Reps K G (ds ++ es) (vs ++ us)
  | [], _, _, _, h, h' => by rw [show _ = [] from h]; exact h'
  | d :: ds, _, _, _, h, h' => by
    obtain ⟨v, r, e, h1, h2⟩ := h
    subst e
    exact ⟨v, _, rfl, h1, Reps.append h2 h'⟩
theorem Reps.get : ∀ {ds : List D} {vs : List V} {i : Nat} {d : D}, Reps K G ds vs → ds[i]? = some d → ∃ v, vs[i]? = some v ∧ Rep K G d v
  | [], _, _, _, _, e => by simp at e
  | d :: ds, _, 0, _, h, e => by
    obtain ⟨v, r, e', h1, _⟩ := h
    subst e'
    simp at e; subst e
    exact ⟨v, rfl, h1⟩
  | d :: ds, _, i + 1, _, h, e => by
    obtain ⟨v, r, e', _, h2⟩ := h
    subst e'
    obtain ⟨u, h3, h4⟩ := Reps.get (i := i) h2 (by simpa using e)
    exact ⟨u, by simpa using h3, h4⟩
theorem Reps.get' : ∀ {ds : List D} {vs : List V} {i : Nat} {v : V}, Reps K G ds vs → vs[i]? = some v → ∃ d, ds[i]? = some d ∧ Rep K G d v := fun {ds vs i v} h e => by
  have hl := Reps.length h
  have hi : i < ds.length := by rw [hl]; exact (List.getElem?_eq_some_iff.mp e).1
  obtain ⟨u, h1, h2⟩ := Reps.get h (List.getElem?_eq_getElem hi)
  rw [e] at h1
  cases h1
  exact ⟨_, List.getElem?_eq_getElem hi, h2⟩
theorem Reps.take : ∀ {ds : List D} {vs : List V} (n : Nat), Reps K G ds vs → Reps K G (ds.take n) (vs.take n)
  | _, _, 0, _ => rfl
  | [], _, n + 1, h => by rw [show _ = [] from h]; rfl
  | d :: ds, _, n + 1, h => by
    obtain ⟨v, r, e, h1, h2⟩ := h
    subst e
    exact ⟨v, _, rfl, h1, Reps.take n h2⟩
theorem Reps.drop : ∀ {ds : List D} {vs : List V} (n : Nat), Reps K G ds vs → Reps K G (ds.drop n) (vs.drop n)
  | _, _, 0, h => h
  | [], _, n + 1, h => by rw [show _ = [] from h]; rfl
  | d :: ds, _, n + 1, h => by
    obtain ⟨v, r, e, h1, h2⟩ := h
    subst e
    exact Reps.drop n h2
theorem Reps.set {d : D} {v : V} (q : Rep K G d v) : ∀ {ds : List D} {vs : List V} (i : Nat), Reps K G ds vs → Reps K G (ds.set i d) (vs.set i v)
  | [], _, _, h => by rw [show _ = [] from h]; rfl
  | _ :: ds, _, 0, h => by
    obtain ⟨u, r, e, h1, h2⟩ := h
    subst e
    exact ⟨v, r, rfl, q, h2⟩
  | _ :: ds, _, i + 1, h => by
    obtain ⟨u, r, e, h1, h2⟩ := h
    subst e
    exact ⟨u, _, rfl, h1, Reps.set q i h2⟩
theorem Reps.reverse : ∀ {ds : List D} {vs : List V}, Reps K G ds vs → Reps K G ds.reverse vs.reverse
  | [], _, h => by rw [show _ = [] from h]; rfl
  | d :: ds, _, h => by
    obtain ⟨v, r, e, h1, h2⟩ := h
    subst e
    rw [List.reverse_cons, List.reverse_cons]
    exact Reps.append (Reps.reverse h2) ⟨v, [], rfl, h1, rfl⟩
theorem Reps.one {d : D} {v : V} (q : Rep K G d v) : Reps K G [d] [v] := ⟨v, [], rfl, q, rfl⟩
theorem Reps.eraseIdx : ∀ {ds : List D} {vs : List V} (i : Nat), Reps K G ds vs → Reps K G (ds.eraseIdx i) (vs.eraseIdx i)
  | [], _, _, h => by rw [show _ = [] from h]; rfl
  | d :: ds, _, 0, h => by
    obtain ⟨u, r, e, h1, h2⟩ := h
    subst e
    exact h2
  | d :: ds, _, i + 1, h => by
    obtain ⟨u, r, e, h1, h2⟩ := h
    subst e
    exact ⟨u, _, rfl, h1, Reps.eraseIdx i h2⟩
theorem Reps.dropLast : ∀ {ds : List D} {vs : List V}, Reps K G ds vs → Reps K G ds.dropLast vs.dropLast
  | ds, vs, h => by
    rw [List.dropLast_eq_take, List.dropLast_eq_take, ← Reps.length h]
    exact Reps.take _ h
end

/-- a field: an own list's (or dict's) top stands in H -/
def VF (K : PySem.W.Frag) (G H : Hp) : Bool → D → V → Prop
  | true, .lst ds, v => ∃ a vs, v = .ref a ∧ H a = some (.lst vs) ∧ Reps K G ds vs
  | true, .dic ds, v => ∃ a kv, v = .ref a ∧ H a = some (.dK kv) ∧ RepKs K G ds kv
  | _, d, v => Rep K G d v
def VFs (K : PySem.W.Frag) (G H : Hp) : List (Str × Bool × D) → List (Str × V) → Prop
  | [], vs => vs = []
  | (k, b, d) :: ds, vs => ∃ v r, vs = (k, v) :: r ∧ VF K G H b d v ∧ VFs K G H ds r
theorem VF.of {K : PySem.W.Frag} {G H : Hp} (s : Sub G H) : ∀ {b : Bool} {d : D} {v : V}, Rep K G d v → VF K G H b d v
  | true, .lst ds, v, h => by obtain ⟨a, vs, e, q, r⟩ := h; exact ⟨a, vs, e, s _ _ q, r⟩
  | true, .dic ds, v, h => by obtain ⟨a, vs, e, q, r⟩ := h; exact ⟨a, vs, e, s _ _ q, r⟩
  | false, d, v, h => by cases d <;> exact h
  | true, .non, _, h => h
  | true, .bl _, _, h => h
  | true, .int _, _, h => h
  | true, .str _, _, h => h
  | true, .tup _, _, h => h
  | true, .scr _, _, h => h
  | true, .exc _ _, _, h => h
  | true, .obj _ _, _, h => h
theorem VFs.of {K : PySem.W.Frag} {G H : Hp} (s : Sub G H) : ∀ {fs : List (Str × Bool × D)} {vs : List (Str × V)}, RepFs K G fs vs → VFs K G H fs vs
  | [], _, h => h
  | (k, b, d) :: r, _, h => by
    obtain ⟨v, q, e, h1, h2⟩ := h
    exact ⟨v, q, e, VF.of s h1, VFs.of s h2⟩
theorem VF.sub {K : PySem.W.Frag} {G G' H H' : Hp} (g : Sub G G') (s : Sub H H') : ∀ {b : Bool} {d : D} {v : V}, VF K G H b d v → VF K G' H' b d v
  | true, .lst ds, v, h => by obtain ⟨a, vs, e, q, r⟩ := h; exact ⟨a, vs, e, s _ _ q, Reps.sub g _ _ r⟩
  | true, .dic ds, v, h => by obtain ⟨a, vs, e, q, r⟩ := h; exact ⟨a, vs, e, s _ _ q, RepKs.sub g _ _ r⟩
  | false, d, v, h => by cases d <;> exact Rep.sub g _ _ h
  | true, .non, _, h => h
  | true, .bl _, _, h => h
  | true, .int _, _, h => h
  | true, .str _, _, h => h
  | true, .tup _, _, h => Rep.sub g _ _ h
  | true, .scr _, _, h => Rep.sub g _ _ h
  | true, .exc _ _, _, h => Rep.sub g _ _ h
  | true, .obj _ _, _, h => Rep.sub g _ _ h
theorem VFs.sub {K : PySem.W.Frag} {G G' H H' : Hp} (g : Sub G G') (s : Sub H H') : ∀ {fs : List (Str × Bool × D)} {vs : List (Str × V)}, VFs K G H fs vs → VFs K G' H' fs vs
  | [], _, h => h
  | (k, b, d) :: r, _, h => by
    obtain ⟨v, q, e, h1, h2⟩ := h
    exact ⟨v, q, e, VF.sub g s h1, VFs.sub g s h2⟩
/-- the value of a thing whose top may be changed by others of this def: its own items stand fast in G, its top in H -/
def VRep (K : PySem.W.Frag) (G H : Hp) : D → V → Prop
  | .lst ds, v => ∃ a vs, v = .ref a ∧ H a = some (.lst vs) ∧ Reps K G ds vs
  | .scr ns, v => ∃ a, v = .ref a ∧ SqL K H a (ns.map V.int)
  | .exc c xf, v => ∃ a C, v = .ref a ∧ ExcF K c C ∧ ExAt G H C a xf
  | .obj c fs, v => ∃ a C dx vs, v = .ref a ∧ ObF K c C ∧ H a = some (.ins C dx vs) ∧ H dx = some (.own a) ∧ VFs K G H fs vs
  | .tup ds, v => ∃ a vs, v = .ref a ∧ SqT K H a vs ∧ Reps K G ds vs
  | .dic ds, v => ∃ a kv, v = .ref a ∧ H a = some (.dK kv) ∧ RepKs K G ds kv
  | d, v => Rep K G d v
theorem VRep.of {K : PySem.W.Frag} {G H : Hp} (s : Sub G H) : ∀ {d : D} {v : V}, Rep K G d v → VRep K G H d v
  | .non, _, h => h
  | .bl _, _, h => h
  | .int _, _, h => h
  | .str _, _, h => h
  | .scr ns, _, h => by
    obtain ⟨a, e, q⟩ := h
    exact ⟨a, e, SqL.sub s q⟩
  | .exc c xf, _, h => by
    obtain ⟨a, C, e, f, g'⟩ := h
    exact ⟨a, C, e, f, g'.sub (Sub.refl _) s⟩
  | .obj c fs, _, h => by
    obtain ⟨a, C, dx, vs, e, f, q, q2, r⟩ := h
    exact ⟨a, C, dx, vs, e, f, s _ _ q, s _ _ q2, VFs.of s r⟩
  | .lst ds, _, h => by
    obtain ⟨a, vs, e, q, r⟩ := h
    exact ⟨a, vs, e, s _ _ q, r⟩
  | .tup ds, _, h => by
    obtain ⟨a, vs, e, q, r⟩ := h
    exact ⟨a, vs, e, SqT.sub s q, r⟩
  | .dic ds, _, h => by
    obtain ⟨a, vs, e, q, r⟩ := h
    exact ⟨a, vs, e, s _ _ q, r⟩
theorem VRep.sub {K : PySem.W.Frag} {G G' H H' : Hp} (g : Sub G G') (s : Sub H H') : ∀ {d : D} {v : V}, VRep K G H d v → VRep K G' H' d v
  | .non, _, h => h
  | .bl _, _, h => h
  | .int _, _, h => h
  | .str _, _, h => h
  | .scr ns, _, h => by
    obtain ⟨a, e, q⟩ := h
    exact ⟨a, e, SqL.sub s q⟩
  | .exc c xf, _, h => by
    obtain ⟨a, C, e, f, g'⟩ := h
    exact ⟨a, C, e, f, g'.sub g s⟩
  | .obj c fs, _, h => by
    obtain ⟨a, C, dx, vs, e, f, q, q2, r⟩ := h
    exact ⟨a, C, dx, vs, e, f, s _ _ q, s _ _ q2, VFs.sub g s r⟩
  | .lst ds, _, h => by
    obtain ⟨a, vs, e, q, r⟩ := h
    exact ⟨a, vs, e, s _ _ q, Reps.sub g _ _ r⟩
  | .tup ds, _, h => by
    obtain ⟨a, vs, e, q, r⟩ := h
    exact ⟨a, vs, e, SqT.sub s q, Reps.sub g _ _ r⟩
  | .dic ds, _, h => by
    obtain ⟨a, vs, e, q, r⟩ := h
    exact ⟨a, vs, e, s _ _ q, RepKs.sub g _ _ r⟩

/-- a list (or dict) of this def's own at p -/
def MRep (K : PySem.W.Frag) (G H : Hp) : D → Addr → Prop
  | .lst ds, p => ∃ vs, H p = some (.lst vs) ∧ Reps K G ds vs
  | .dic ds, p => ∃ kv, H p = some (.dK kv) ∧ RepKs K G ds kv
  | _, _ => False
theorem MRep.v {K : PySem.W.Frag} {G H : Hp} : ∀ {d : D} {p : Addr}, MRep K G H d p → VRep K G H d (.ref p)
  | .lst ds, p, h => by obtain ⟨vs, e, r⟩ := h; exact ⟨p, vs, rfl, e, r⟩
  | .dic ds, p, h => by obtain ⟨vs, e, r⟩ := h; exact ⟨p, vs, rfl, e, r⟩
  | .non, _, h => h.elim
  | .bl _, _, h => h.elim
  | .int _, _, h => h.elim
  | .str _, _, h => h.elim
  | .tup _, _, h => h.elim
  | .scr _, _, h => h.elim
  | .exc _ _, _, h => h.elim
  | .obj _ _, _, h => h.elim
theorem MRep.keep {K : PySem.W.Frag} {G G' H H' : Hp} (g : Sub G G') : ∀ {d : D} {p : Addr}, MRep K G H d p → (∀ o, H p = some o → H' p = some o) → MRep K G' H' d p
  | .lst ds, p, h, k => by obtain ⟨vs, e, r⟩ := h; exact ⟨vs, k _ e, Reps.sub g _ _ r⟩
  | .dic ds, p, h, k => by obtain ⟨vs, e, r⟩ := h; exact ⟨vs, k _ e, RepKs.sub g _ _ r⟩
  | .non, _, h, _ => h.elim
  | .bl _, _, h, _ => h.elim
  | .int _, _, h, _ => h.elim
  | .str _, _, h, _ => h.elim
  | .tup _, _, h, _ => h.elim
  | .scr _, _, h, _ => h.elim
  | .exc _ _, _, h, _ => h.elim
  | .obj _ _, _, h, _ => h.elim
theorem MRep.ex {K : PySem.W.Frag} {G H : Hp} : ∀ {d : D} {p : Addr}, MRep K G H d p → ∃ o, H p = some o
  | .lst ds, p, h => by obtain ⟨vs, e, r⟩ := h; exact ⟨_, e⟩
  | .dic ds, p, h => by obtain ⟨vs, e, r⟩ := h; exact ⟨_, e⟩
  | .non, _, h => h.elim
  | .bl _, _, h => h.elim
  | .int _, _, h => h.elim
  | .str _, _, h => h.elim
  | .tup _, _, h => h.elim
  | .scr _, _, h => h.elim
  | .exc _ _, _, h => h.elim
  | .obj _ _, _, h => h.elim
/-- put among what stands fast -/
theorem MRep.freeze {K : PySem.W.Frag} {G H : Hp} : ∀ {d : D} {p : Addr} {o : HO}, MRep K G H d p → H p = some o → G p = none → Rep K (upd G p o) d (.ref p)
  | .lst ds, p, o, h, e, n => by
    obtain ⟨vs, e', r⟩ := h
    rw [e] at e'; cases e'
    exact ⟨p, vs, rfl, upd_same, Reps.sub (Sub.upd n) _ _ r⟩
  | .dic ds, p, o, h, e, n => by
    obtain ⟨vs, e', r⟩ := h
    rw [e] at e'; cases e'
    exact ⟨p, vs, rfl, upd_same, RepKs.sub (Sub.upd n) _ _ r⟩
  | .non, _, _, h, _, _ => h.elim
  | .bl _, _, _, h, _, _ => h.elim
  | .int _, _, _, h, _, _ => h.elim
  | .str _, _, _, h, _, _ => h.elim
  | .tup _, _, _, h, _, _ => h.elim
  | .scr _, _, _, h, _, _ => h.elim
  | .exc _ _, _, _, h, _, _ => h.elim
  | .obj _ _, _, _, h, _, _ => h.elim

def tupD : D → Bool
  | .tup _ => true
  | _ => false
/-- what a caller lets be read: a tuple stands fast -/
def Fits (M F G : Hp) : Prop := ∀ a o, M a = some o → F a = some o ∨ G a = some o
theorem Fits.sub {M F G H : Hp} (h : Fits M F G) (f : Sub F H) (g : Sub G H) : Sub M H := fun a o e => (h a o e).elim (f a o) (g a o)
def BRep (K : PySem.W.Frag) (G F : Hp) (d : D) (v : V) : Prop := (∃ M, Fits M F G ∧ VRep K G M d v) ∧ (tupD d = true → Rep K G d v)
theorem BRep.of {K : PySem.W.Frag} {G F : Hp} (s : Sub G F) {d : D} {v : V} (h : Rep K G d v) : BRep K G F d v := ⟨⟨G, fun _ _ e => .inr e, VRep.of (Sub.refl G) h⟩, fun _ => h⟩
theorem BRep.vv {K : PySem.W.Frag} {G F H : Hp} (g : Sub G H) (s : Sub F H) {d : D} {v : V} (h : BRep K G F d v) : VRep K G H d v := by
  obtain ⟨⟨M, hM, r⟩, _⟩ := h
  exact VRep.sub (Sub.refl _) (hM.sub s g) r
theorem BRep.mk {K : PySem.W.Frag} {G F : Hp} {d : D} {v : V} (h : VRep K G F d v) (t : tupD d = true → Rep K G d v) : BRep K G F d v := ⟨⟨F, fun _ _ e => .inl e, h⟩, t⟩
theorem BRep.sub {K : PySem.W.Frag} {G G' F F' : Hp} (g : Sub G G') (s : Sub F F') {d : D} {v : V} (h : BRep K G F d v) : BRep K G' F' d v := by
  obtain ⟨⟨M, hM, r⟩, t⟩ := h
  exact ⟨⟨M, fun a o e => (hM a o e).imp (s a o) (g a o), VRep.sub g (Sub.refl M) r⟩, fun z => Rep.sub g _ _ (t z)⟩
theorem MRep.notup {K : PySem.W.Frag} {G H : Hp} {d : D} {p : Addr} (h : MRep K G H d p) : tupD d = true → Rep K G d (.ref p) := fun t => by
  cases d <;> first | exact h.elim | cases t
/-- what is known of a name or a thing at hand: nothing; a thing that stands fast; a list of this def's own; one of the caller's that may be changed (the j-th of these); one that is the caller's and isn't changed meanwhile; the list of the name at a place -/
inductive Slot where
  | un | fr (d : D) | mu (d : D) | mp (j : Nat) (d : D) | bw (d : D) | bo (i : Nat)

/-- what a def's run starts from: what stands fast, all that it must leave as it was, the lists that it may change; and what of its end may be -/
structure Kn where
  n : Nat
  G0 : Hp
  F0 : Hp
  ps : List Addr
  HX : Option Exc → Prop
  h0 : HX none

def SlotOk (K : PySem.W.Frag) (en : Kn) (S : L2.St) (G H : Hp) : Slot → Option V → Prop
  | .un, _ => True
  | .fr d, o => ∃ v, o = some v ∧ Rep K G d v
  | .mu d, o => ∃ p, o = some (.ref p) ∧ G p = none ∧ en.F0 p = none ∧ p ∉ en.ps ∧ MRep K G H d p
  | .mp j d, o => ∃ p, o = some (.ref p) ∧ en.ps[j]? = some p ∧ G p = none ∧ en.F0 p = none ∧ MRep K G H d p
  | .bw d, o => ∃ v, o = some v ∧ BRep K G en.F0 d v
  | .bo i, o => i < en.n ∧ S[i]? = some o ∧ ∃ p, o = some (.ref p)

/-- a list of this def's own, or of the caller's that may be changed -/
def Slot.own : Slot → Bool
  | .mu _ => true
  | .mp _ _ => true
  | _ => false
def Own (Δ : List Slot) (S : L2.St) (i : Nat) (p : Addr) : Prop := ∃ sl, Δ[i]? = some sl ∧ sl.own = true ∧ S[i]? = some (some (V.ref p))
structure Wd (K : PySem.W.Frag) (en : Kn) (Δ : List Slot) (S : L2.St) (G H : Hp) : Prop where
  len : Δ.length = S.length
  sub : Sub G H
  ext : Sub en.G0 G
  new : ∀ a o, G a = some o → en.G0 a = some o ∨ (en.F0 a = none ∧ a ∉ en.ps)
  frm : Sub en.F0 H
  stay : ∀ a, a ∈ en.ps → H a ≠ none
  nd : en.ps.Nodup
  slot : ∀ (i : Nat) sl o, Δ[i]? = some sl → S[i]? = some o → SlotOk K en S G H sl o
  apart : ∀ (i j : Nat) p, Own Δ S i p → Own Δ S j p → i = j

/-- grown: what was tracked is as it was, what stands fast too; what newly stands fast is new -/
structure Grow (G H G' H' : Hp) : Prop where
  g : Sub G G'
  h : Sub H H'
  gh : Sub G' H'
  new : ∀ a o, G' a = some o → G a = some o ∨ H a = none
theorem Grow.refl {G H : Hp} (s : Sub G H) : Grow G H G H := ⟨Sub.refl _, Sub.refl _, s, fun _ _ e => .inl e⟩
theorem Grow.laid {G H : Hp} {p : Addr} {o : HO} (s : Sub G H) (h : H p = none) : Grow G H G (upd H p o) :=
  ⟨Sub.refl _, Sub.upd h, s.trans (Sub.upd h), fun _ _ e => .inl e⟩
theorem Grow.trans {G H G1 H1 G2 H2 : Hp} (a : Grow G H G1 H1) (b : Grow G1 H1 G2 H2) : Grow G H G2 H2 :=
  ⟨a.g.trans b.g, a.h.trans b.h, b.gh, fun x o e => by
    rcases b.new x o e with q | q
    · exact a.new x o q
    · refine .inr ?_
      cases z : H x with
      | none => rfl
      | some u => rw [a.h x u z] at q; cases q⟩

/-- a result: it stands fast; a new list; -/
def Out (K : PySem.W.Frag) (G H G' H' : Hp) : Slot → V → Prop
  | .fr d, v => Rep K G' d v
  | .mu d, v => ∃ p, v = .ref p ∧ H p = none ∧ G' p = none ∧ MRep K G' H' d p
  | _, _ => False

section
variable {K : PySem.W.Frag} {en : Kn} {Δ : List Slot} {S : L2.St} {G H G' H' : Hp}
theorem Wd.fresh (W : Wd K en Δ S G H) {p : Addr} (h : H p = none) : G p = none ∧ en.F0 p = none ∧ p ∉ en.ps := by
  refine ⟨?_, ?_, fun q => W.stay p q h⟩
  · cases z : G p with
    | none => rfl
    | some o => rw [W.sub p o z] at h; cases h
  · cases z : en.F0 p with
    | none => rfl
    | some o => rw [W.frm p o z] at h; cases h
theorem Grow.gnone (g : Grow G H G' H') {p : Addr} {d : D} (n : G p = none) (r : MRep K G H d p) : G' p = none := by
  cases z : G' p with
  | none => rfl
  | some u =>
    obtain ⟨o2, e2⟩ := r.ex
    rcases g.new p u z with q | q
    · rw [n] at q; cases q
    · rw [e2] at q; cases q
/-- grown -/
theorem Wd.grow (W : Wd K en Δ S G H) (g : Grow G H G' H') : Wd K en Δ S G' H' where
  len := W.len
  sub := g.gh
  ext := W.ext.trans g.g
  new := fun a o e => by
    rcases g.new a o e with q | q
    · exact W.new a o q
    · exact .inr ⟨(W.fresh q).2.1, (W.fresh q).2.2⟩
  frm := W.frm.trans g.h
  stay := fun a h e => by
    cases z : H a with
    | none => exact W.stay a h z
    | some o => rw [g.h a o z] at e; cases e
  nd := W.nd
  slot := fun i sl o h1 h2 => by
    have q := W.slot i sl o h1 h2
    cases sl with
    | un => trivial
    | fr d => obtain ⟨v, e, r⟩ := q; exact ⟨v, e, Rep.sub g.g _ _ r⟩
    | mu d =>
      obtain ⟨p, e, n, f, f2, r⟩ := q
      exact ⟨p, e, g.gnone n r, f, f2, r.keep g.g fun o e => g.h _ _ e⟩
    | mp j d =>
      obtain ⟨p, e, f2, n, f, r⟩ := q
      exact ⟨p, e, f2, g.gnone n r, f, r.keep g.g fun o e => g.h _ _ e⟩
    | bw d => obtain ⟨v, e, r⟩ := q; exact ⟨v, e, BRep.sub g.g (Sub.refl _) r⟩
    | bo j => exact q
  apart := W.apart
/-- a thing more at hand -/
theorem SlotOk.more {o u : Option V} {sl : Slot} (q : SlotOk K en S G H sl o) : SlotOk K en (S ++ [u]) G H sl o := by
  cases sl with
  | un => trivial
  | fr d => exact q
  | mu d => exact q
  | mp j d => exact q
  | bw d => exact q
  | bo j =>
    obtain ⟨h0, h1, h2⟩ := q
    refine ⟨h0, ?_, h2⟩
    rw [List.getElem?_append_left (List.getElem?_eq_some_iff.mp h1).1]
    exact h1
theorem Own.split {sl : Slot} {u : Option V} {i : Nat} {p : Addr} (hl : Δ.length = S.length) (h : Own (Δ ++ [sl]) (S ++ [u]) i p) : (i < Δ.length ∧ Own Δ S i p) ∨ (i = Δ.length ∧ sl.own = true ∧ u = some (.ref p)) := by
  obtain ⟨s, h1, h2, h3⟩ := h
  by_cases hi : i < Δ.length
  · rw [List.getElem?_append_left hi] at h1
    rw [List.getElem?_append_left (by rw [← hl]; exact hi)] at h3
    exact .inl ⟨hi, s, h1, h2, h3⟩
  · have hl' : i = Δ.length := by
      have := (List.getElem?_eq_some_iff.mp h1).1
      rw [List.length_append] at this
      have e1 : [sl].length = 1 := rfl
      omega
    subst hl'
    rw [List.getElem?_append_right (Nat.le_refl _), Nat.sub_self] at h1
    rw [hl, List.getElem?_append_right (Nat.le_refl _), Nat.sub_self] at h3
    have e1 : sl = s := Option.some.inj h1
    subst e1
    exact .inr ⟨rfl, h2, Option.some.inj h3⟩
theorem Wd.more {sl : Slot} {u : Option V} (W : Wd K en Δ S G H) (q : SlotOk K en (S ++ [u]) G H sl u) (ap : ∀ p (j : Nat), sl.own = true → u = some (.ref p) → Own Δ S j p → False) : Wd K en (Δ ++ [sl]) (S ++ [u]) G H where
  len := by rw [List.length_append, List.length_append, W.len]; rfl
  sub := W.sub
  ext := W.ext
  new := W.new
  frm := W.frm
  stay := W.stay
  nd := W.nd
  slot := fun i s o h1 h2 => by
    by_cases hi : i < Δ.length
    · rw [List.getElem?_append_left hi] at h1
      rw [List.getElem?_append_left (by rw [← W.len]; exact hi)] at h2
      exact (W.slot i s o h1 h2).more
    · have hl : i = Δ.length := by
        have := (List.getElem?_eq_some_iff.mp h1).1
        rw [List.length_append] at this
        have e1 : [sl].length = 1 := rfl
        omega
      subst hl
      rw [List.getElem?_append_right (Nat.le_refl _), Nat.sub_self] at h1
      have e1 : sl = s := Option.some.inj h1
      rw [W.len, List.getElem?_append_right (Nat.le_refl _), Nat.sub_self] at h2
      have e2 : u = o := Option.some.inj h2
      subst e1 e2
      exact q
  apart := fun i j p h1 h2 => by
    rcases h1.split W.len with ⟨i1, i2⟩ | ⟨i1, i2, i3⟩ <;> rcases h2.split W.len with ⟨j1, j2⟩ | ⟨j1, j2, j3⟩
    · exact W.apart i j p i2 j2
    · exact (ap _ _ j2 j3 i2).elim
    · exact (ap _ _ i2 i3 j2).elim
    · rw [i1, j1]
theorem Wd.ownThere {j : Nat} {p : Addr} (W : Wd K en Δ S G H) (h : Own Δ S j p) : ∃ o, H p = some o := by
  obtain ⟨sl, h1, h2, h3⟩ := h
  have q := W.slot j sl _ h1 h3
  cases sl with
  | mu d => obtain ⟨p2, e3, _, _, _, r⟩ := q; cases e3; exact r.ex
  | mp _ d => obtain ⟨p2, e3, _, _, _, r⟩ := q; cases e3; exact r.ex
  | un => cases h2
  | fr _ => cases h2
  | bw _ => cases h2
  | bo _ => cases h2
theorem Wd.out {sl : Slot} {v : V} (W : Wd K en Δ S G H) (g : Grow G H G' H') (q : Out K G H G' H' sl v) : Wd K en (Δ ++ [sl]) (S ++ [some v]) G' H' := by
  refine (W.grow g).more ?_ ?_
  · cases sl with
    | un => exact q.elim
    | fr d => exact ⟨v, rfl, q⟩
    | mu d =>
      obtain ⟨p, e, h1, h2, h3⟩ := q
      subst e
      exact ⟨p, rfl, h2, (W.fresh h1).2.1, (W.fresh h1).2.2, h3⟩
    | mp j d => exact q.elim
    | bw d => exact q.elim
    | bo i => exact q.elim
  · intro p j e1 e2 h1
    cases sl with
    | mu d =>
      obtain ⟨p', e, n1, n2, n3⟩ := q
      cases e2
      cases e
      obtain ⟨o, z⟩ := W.ownThere h1
      rw [n1] at z; cases z
    | un => cases e1
    | fr _ => cases e1
    | mp _ _ => exact q.elim
    | bw _ => cases e1
    | bo _ => cases e1
end
end BR

/-! K2: the judgements: a text against the rest of a plain run -/
namespace BR
open PySem PySem.Spec PyProof.Rows L2

def plainE : Expr → Bool
  | .Starred _ _ => false
  | _ => true
theorem star_plain {e : Expr} {rest : List Expr} {env : Env} (h : plainE e = true) : starEach (e :: rest) env = (false, eval e env) :: starEach rest env := by
  cases e <;> first | rfl | cases h
/-- a step that may have no answer -/
def op {α R : Type} (o : Option α) (k : α → Res R) : Res R := match o with
  | some a => k a
  | none => .bad
/-- the end of a part of a run: on with s, or the whole ends with r -/
inductive Flow (S R : Type) where
  | nx (s : S) | ex (r : R)
def fbind {S R : Type} (m : Res (Flow S R)) (k : S → Res R) : Res R := match m with
  | .ok (.nx s) => k s
  | .ok (.ex r) => .ok r
  | .raise x => .raise x
  | .bad => .bad

abbrev WE (X : Cx) (e : Expr) : TE := fun σ H Q => ∀ (pins : List (Addr × Obj)) (s : Shared), Inv X pins σ H s → wpAny (model X.prog X.w) X.A (eval e X.env) (EP X pins σ Q) X.xe s
theorem pe_we {X : Cx} {e : Expr} : PE X e (WE X e) := ⟨fun pins s _ _ _ I h => h pins s I⟩
theorem we_of {X : Cx} {e : Expr} {t : TE} (h : PE X e t) {σ : L2.St} {H : Hp} {Q : VK} (q : t σ H Q) : WE X e σ H Q := fun pins s I => h.run pins s σ H Q I q
abbrev WT (X : Cx) (e : Expr) : TT := fun σ H Q => ∀ (pins : List (Addr × Obj)) (s : Shared), Inv X pins σ H s → wpAny (model X.prog X.w) X.A (isTrue e X.env (eval e X.env)) (TP X pins σ Q) X.xe s
theorem pt_wt {X : Cx} {e : Expr} : PT X e (WT X e) := ⟨fun pins s _ _ _ I h => h pins s I⟩
theorem wt_of {X : Cx} {e : Expr} {t : TT} (h : PT X e t) {σ : L2.St} {H : Hp} {Q : Bool → Hp → Prop} (q : t σ H Q) : WT X e σ H Q := fun pins s I => h.run pins s σ H Q I q
abbrev WA (X : Cx) (es : List Expr) : TA := fun σ H Q => ∀ (pos : Pos) (pins : List (Addr × Obj)) (s : Shared), Inv X pins σ H s → wpAny (model X.prog X.w) X.A (spliced (backTo pos (starEach es X.env))) (AP X pins σ Q) X.xe s
theorem pa_wa {X : Cx} {es : List Expr} : PA X es (WA X es) := ⟨fun pos pins s _ _ _ I h => h pos pins s I⟩
theorem wa_of {X : Cx} {es : List Expr} {t : TA} (h : PA X es t) {σ : L2.St} {H : Hp} {Q : List V → Hp → Prop} (q : t σ H Q) : WA X es σ H Q := fun pos pins s I => h.run pos pins s σ H Q I q
abbrev WS (X : Cx) (st : Stmt) : TS := fun D σ H => ∀ (pins : List (Addr × Obj)) (s : Shared), Inv X pins σ H s → wpAny (model X.prog X.w) X.A (exec st X.env) (SP X pins D) X.xe s
theorem ps_ws {X : Cx} {st : Stmt} : PS X st (WS X st) := ⟨fun pins s _ _ _ I h => h pins s I⟩
theorem ws_of {X : Cx} {st : Stmt} {t : TS} (h : PS X st t) {σ : L2.St} {H : Hp} {D : Ends} (q : t D σ H) : WS X st D σ H := fun pins s I => h.run pins s σ H D I q
abbrev WSs (X : Cx) (st : List Stmt) : TS := fun D σ H => ∀ (pins : List (Addr × Obj)) (s : Shared), Inv X pins σ H s → wpAny (model X.prog X.w) X.A (execs st X.env) (SP X pins D) X.xe s
theorem pss_wss {X : Cx} {st : List Stmt} : PSs X st (WSs X st) := ⟨fun pins s _ _ _ I h => h pins s I⟩
theorem wss_of {X : Cx} {st : List Stmt} {t : TS} (h : PSs X st t) {σ : L2.St} {H : Hp} {D : Ends} (q : t D σ H) : WSs X st D σ H := fun pins s I => h.run pins s σ H D I q
abbrev WG (X : Cx) (tg : Expr) : TG := fun v σ H Q => ∀ (pins : List (Addr × Obj)) (s : Shared) (u : Value), Inv X pins σ H s → RelV v u → wpAny (model X.prog X.w) X.A (assign tg X.env u) (fun _ s' => ∃ σ' H', Inv X pins σ' H' s' ∧ Q σ' H') X.xe s
theorem pg_wg {X : Cx} {tg : Expr} : PG X tg (WG X tg) := ⟨fun pins s _ _ _ u _ I r h => h pins s u I r⟩
abbrev WI (X : Cx) (tg iter : Expr) : TI := fun σ H R => ∀ (pins : List (Addr × Obj)) (s : Shared), Inv X pins σ H s →
  wpAny (model X.prog X.w) X.A (eval iter X.env) (fun v s1 => wpAny (model X.prog X.w) X.A (pyIter v) (PIE X pins σ tg R) X.xe s1) X.xe s
theorem pi_wi {X : Cx} {tg iter : Expr} : PI X tg iter (WI X tg iter) := ⟨fun pins s _ _ _ I h => h pins s I⟩
theorem wi_of {X : Cx} {tg iter : Expr} {t : TI} (h : PI X tg iter t) {σ : L2.St} {H : Hp} {R : It → Hp → Prop} (q : t σ H R) : WI X tg iter σ H R := fun pins s I => h.run pins s σ H R I q

/-- the data that a thing at hand may be read as -/
def Slot.rd (δ : List Slot) : Slot → Option D
  | .fr d => some d
  | .mu d => some d
  | .mp _ d => some d
  | .bw d => some d
  | .bo i => match δ[i]? with
    | some (.mu d) => some d
    | some (.mp _ d) => some d
    | _ => none
  | .un => none

section
variable (X : Cx) (en : Kn)
/-- an expression: δ the names, τ what is at hand; C tells of its slot, the names behind it and the rest of the plain run -/
structure JE (δ τ : List Slot) (e : Expr) {R : Type} (C : Slot → List Slot → Res R → Prop) (m : Res R) : Prop where
  run : m ≠ .bad → en.HX m.exc → ∀ (σ ts : L2.St) (G H : Hp) (T : VK), δ.length = en.n → σ.length = en.n → Wd X.K en (δ ++ τ) (σ ++ ts) G H →
    (∀ sl δ' v G' H', C sl δ' m → δ'.length = en.n → Wd X.K en (δ' ++ τ ++ [sl]) (σ ++ ts ++ [some v]) G' H' → T v H') → WE X e σ H T
/-- a test -/
structure JT (δ τ : List Slot) (e : Expr) {R : Type} (C : Bool → List Slot → Res R → Prop) (m : Res R) : Prop where
  run : m ≠ .bad → en.HX m.exc → ∀ (σ ts : L2.St) (G H : Hp) (T : Bool → Hp → Prop), δ.length = en.n → σ.length = en.n → Wd X.K en (δ ++ τ) (σ ++ ts) G H →
    (∀ b δ' G' H', C b δ' m → δ'.length = en.n → Wd X.K en (δ' ++ τ) (σ ++ ts) G' H' → T b H') → WT X e σ H T
/-- arguments, from the left -/
structure JA (δ τ : List Slot) (es : List Expr) {R : Type} (C : List Slot → List Slot → Res R → Prop) (m : Res R) : Prop where
  run : m ≠ .bad → en.HX m.exc → ∀ (σ ts : L2.St) (G H : Hp) (T : List V → Hp → Prop), δ.length = en.n → σ.length = en.n → Wd X.K en (δ ++ τ) (σ ++ ts) G H →
    (∀ sls δ' vs G' H', C sls δ' m → δ'.length = en.n → Wd X.K en (δ' ++ τ ++ sls) (σ ++ ts ++ vs.map some) G' H' → T vs H') → WA X es σ H T
/-- a statement: N the way on, RT a return, BK a break, CT a continue -/
structure JS (δ : List Slot) (st : Stmt) {R : Type} (N : List Slot → Res R → Prop) (RT : Slot → List Slot → Res R → Prop) (BK CT : List Slot → Res R → Prop) (m : Res R) : Prop where
  run : m ≠ .bad → en.HX m.exc → ∀ (σ : L2.St) (G H : Hp) (E : Ends), δ.length = en.n → Wd X.K en δ σ G H →
    (∀ δ' σ' G' H', N δ' m → δ'.length = en.n → Wd X.K en δ' σ' G' H' → E.nx σ' H') →
    (∀ sl δ' v σ' G' H', RT sl δ' m → δ'.length = en.n → Wd X.K en (δ' ++ [sl]) (σ' ++ [some v]) G' H' → E.rt v H') →
    (∀ δ' σ' G' H', BK δ' m → δ'.length = en.n → Wd X.K en δ' σ' G' H' → E.bk σ' H') →
    (∀ δ' σ' G' H', CT δ' m → δ'.length = en.n → Wd X.K en δ' σ' G' H' → E.ct σ' H') → WS X st E σ H
structure JSs (δ : List Slot) (st : List Stmt) {R : Type} (N : List Slot → Res R → Prop) (RT : Slot → List Slot → Res R → Prop) (BK CT : List Slot → Res R → Prop) (m : Res R) : Prop where
  run : m ≠ .bad → en.HX m.exc → ∀ (σ : L2.St) (G H : Hp) (E : Ends), δ.length = en.n → Wd X.K en δ σ G H →
    (∀ δ' σ' G' H', N δ' m → δ'.length = en.n → Wd X.K en δ' σ' G' H' → E.nx σ' H') →
    (∀ sl δ' v σ' G' H', RT sl δ' m → δ'.length = en.n → Wd X.K en (δ' ++ [sl]) (σ' ++ [some v]) G' H' → E.rt v H') →
    (∀ δ' σ' G' H', BK δ' m → δ'.length = en.n → Wd X.K en δ' σ' G' H' → E.bk σ' H') →
    (∀ δ' σ' G' H', CT δ' m → δ'.length = en.n → Wd X.K en δ' σ' G' H' → E.ct σ' H') → WSs X st E σ H
end

section
variable {X : Cx} {en : Kn} {δ τ : List Slot} {R : Type} {C : Slot → List Slot → Res R → Prop} {m : Res R}

theorem Wd.splitLen {K : PySem.W.Frag} {σ ts : L2.St} {G H : Hp} (W : Wd K en (δ ++ τ) (σ ++ ts) G H) (h : δ.length = σ.length) : τ.length = ts.length := by
  have := W.len
  rw [List.length_append, List.length_append] at this
  omega
/-- the slot and the value of a thing at hand -/
theorem Wd.at {K : PySem.W.Frag} {Δ : List Slot} {S : L2.St} {G H : Hp} (W : Wd K en Δ S G H) {i : Nat} {sl : Slot} (h : Δ[i]? = some sl) : ∃ o, S[i]? = some o ∧ SlotOk K en S G H sl o := by
  have hi : i < S.length := by rw [← W.len]; exact (List.getElem?_eq_some_iff.mp h).1
  exact ⟨S[i], List.getElem?_eq_getElem hi, W.slot i sl _ h (List.getElem?_eq_getElem hi)⟩
/-- the names that are known at the front -/
theorem Wd.name {K : PySem.W.Frag} {σ ts : L2.St} {G H : Hp} (W : Wd K en (δ ++ τ) (σ ++ ts) G H) (hl : δ.length = σ.length) {i : Nat} {sl : Slot} (h : δ[i]? = some sl) : ∃ o, σ[i]? = some o ∧ SlotOk K en (σ ++ ts) G H sl o := by
  have hi := (List.getElem?_eq_some_iff.mp h).1
  obtain ⟨o, h1, h2⟩ := W.at (i := i) (by rw [List.getElem?_append_left hi]; exact h)
  rw [List.getElem?_append_left (by omega)] at h1
  exact ⟨o, h1, h2⟩
/-- a thing read -/
theorem Wd.read {K : PySem.W.Frag} {σ us : L2.St} {G H : Hp} {Δ2 : List Slot} {sl : Slot} {d : D} (W : Wd K en (δ ++ Δ2) (σ ++ us) G H) (hl : δ.length = σ.length) {v : V} (h : SlotOk K en (σ ++ us) G H sl (some v)) (r : sl.rd δ = some d) : VRep K G H d v := by
  cases sl with
  | un => cases r
  | fr e =>
    cases r
    obtain ⟨u, e, q⟩ := h
    cases e
    exact VRep.of W.sub q
  | mu e =>
    cases r
    obtain ⟨p, e, _, _, _, q⟩ := h
    cases e
    exact q.v
  | mp j e =>
    cases r
    obtain ⟨p, e, _, _, _, q⟩ := h
    cases e
    exact q.v
  | bw e =>
    cases r
    obtain ⟨u, e, q⟩ := h
    cases e
    exact BRep.vv W.sub W.frm q
  | bo i =>
    obtain ⟨_, h1, p, e⟩ := h
    cases e
    have r' : (match δ[i]? with | some (Slot.mu d) => some d | some (Slot.mp _ d) => some d | _ => none) = some d := r
    split at r'
    · rename_i e2
      cases r'
      obtain ⟨o, h2, h3⟩ := W.at (i := i) (by rw [List.getElem?_append_left (List.getElem?_eq_some_iff.mp e2).1]; exact e2)
      rw [h1] at h2
      cases h2
      obtain ⟨p', e3, _, _, _, q⟩ := h3
      cases e3
      exact q.v
    · rename_i e2
      cases r'
      obtain ⟨o, h2, h3⟩ := W.at (i := i) (by rw [List.getElem?_append_left (List.getElem?_eq_some_iff.mp e2).1]; exact e2)
      rw [h1] at h2
      cases h2
      obtain ⟨p', e3, _, _, _, q⟩ := h3
      cases e3
      exact q.v
    · cases r'

/-- a name -/
theorem je_fr (i : Nat) {x : Str} {pos : Pos} {d : D} (hs : δ[i]? = some (.fr d)) (h : C (.fr d) δ m) (hN : X.N[i]? = some x := by rfl) (hv : Vis X.env.scope x := by first | exact Or.inl rfl | exact Or.inr (Or.inl rfl) | exact Or.inr (Or.inr rfl))
    (hd : (x == ("__debug__" : Str)) = false := by decide) (hcd : (x == ("__classdict__" : Str)) = false := by decide) : JE X en δ τ (.Name x pos) C m := .mk fun hb hx σ ts G H T hl hσ W k => by
  obtain ⟨o, h1, v, e, q⟩ := W.name (hl.trans hσ.symm) hs
  subst e
  exact we_of (pe_var hN hv hd hcd) ⟨v, h1, k _ _ v G H h hl (W.out (Grow.refl W.sub) q)⟩
theorem je_bw (i : Nat) {x : Str} {pos : Pos} {d : D} (hs : δ[i]? = some (.bw d)) (h : C (.bw d) δ m) (hN : X.N[i]? = some x := by rfl) (hv : Vis X.env.scope x := by first | exact Or.inl rfl | exact Or.inr (Or.inl rfl) | exact Or.inr (Or.inr rfl))
    (hd : (x == ("__debug__" : Str)) = false := by decide) (hcd : (x == ("__classdict__" : Str)) = false := by decide) : JE X en δ τ (.Name x pos) C m := .mk fun hb hx σ ts G H T hl hσ W k => by
  obtain ⟨o, h1, v, e, q⟩ := W.name (hl.trans hσ.symm) hs
  subst e
  exact we_of (pe_var hN hv hd hcd) ⟨v, h1, k _ _ v G H h hl (W.more ⟨v, rfl, q⟩ (fun _ _ z => nomatch z))⟩
theorem je_bo (i : Nat) {x : Str} {pos : Pos} {sl : Slot} (hs : δ[i]? = some sl) (hm : (∃ d, sl = .mu d) ∨ ∃ j d, sl = .mp j d) (h : C (.bo i) δ m) (hN : X.N[i]? = some x := by rfl) (hv : Vis X.env.scope x := by first | exact Or.inl rfl | exact Or.inr (Or.inl rfl) | exact Or.inr (Or.inr rfl))
    (hd : (x == ("__debug__" : Str)) = false := by decide) (hcd : (x == ("__classdict__" : Str)) = false := by decide) : JE X en δ τ (.Name x pos) C m := .mk fun hb hx σ ts G H T hl hσ W k => by
  obtain ⟨o, h1, q⟩ := W.name (hl.trans hσ.symm) hs
  obtain ⟨p, e⟩ : ∃ p, o = some (V.ref p) := by
    rcases hm with ⟨d, e⟩ | ⟨j, d, e⟩
    · subst e; obtain ⟨p, e, _⟩ := q; exact ⟨p, e⟩
    · subst e; obtain ⟨p, e, _⟩ := q; exact ⟨p, e⟩
  subst e
  refine we_of (pe_var hN hv hd hcd) ⟨_, h1, k _ _ _ G H h hl (W.more ⟨?_, ?_, p, rfl⟩ (fun _ _ z => nomatch z))⟩
  · have hi := (List.getElem?_eq_some_iff.mp hs).1
    omega
  · have hi := (List.getElem?_eq_some_iff.mp h1).1
    rw [List.append_assoc, List.getElem?_append_left hi]
    exact h1
/-- constants -/
theorem je_int {i : Int} {j pos} (h : C (.fr (.int i)) δ m) : JE X en δ τ (.Constant (.int i) j pos) C m := .mk fun hb hx σ ts G H T hl hσ W k =>
  we_of pe_int (k _ _ _ G H h hl (W.out (Grow.refl W.sub) (show Rep _ _ _ _ from rfl)))
theorem je_bl {i : Bool} {j pos} (h : C (.fr (.bl i)) δ m) : JE X en δ τ (.Constant (.bool i) j pos) C m := .mk fun hb hx σ ts G H T hl hσ W k =>
  we_of pe_bl (k _ _ _ G H h hl (W.out (Grow.refl W.sub) (show Rep _ _ _ _ from rfl)))
theorem je_non {j pos} (h : C (.fr .non) δ m) : JE X en δ τ (.Constant .none j pos) C m := .mk fun hb hx σ ts G H T hl hσ W k =>
  we_of pe_non (k _ _ _ G H h hl (W.out (Grow.refl W.sub) (show Rep _ _ _ _ from rfl)))
theorem je_str {i : Str} {j pos} (h : C (.fr (.str i)) δ m) : JE X en δ τ (.Constant (.str i) j pos) C m := .mk fun hb hx σ ts G H T hl hσ W k =>
  we_of pe_str (k _ _ _ G H h hl (W.out (Grow.refl W.sub) (show Rep _ _ _ _ from rfl)))

/-! ### the last things at hand -/
theorem getElem?_last {α : Type} {l : List α} {a : α} : (l ++ [a])[l.length]? = some a := by
  rw [List.getElem?_append_right (Nat.le_refl _), Nat.sub_self]; rfl
/-- the last thing at hand -/
theorem Wd.last {K : PySem.W.Frag} {Δ : List Slot} {S : L2.St} {G H : Hp} {sl : Slot} {u : Option V} (W : Wd K en (Δ ++ [sl]) (S ++ [u]) G H) : SlotOk K en (S ++ [u]) G H sl u := by
  have hl : Δ.length = S.length := by
    have := W.len
    rw [List.length_append, List.length_append] at this
    exact Nat.add_right_cancel this
  exact W.slot Δ.length sl u getElem?_last (by rw [hl]; exact getElem?_last)
/-- a list of things forgotten; what stays may not lean on them -/
theorem Wd.cut {K : PySem.W.Frag} {Δ Ξ : List Slot} {S us : L2.St} {G H : Hp} (W : Wd K en (Δ ++ Ξ) (S ++ us) G H) (hl : Δ.length = S.length) (nb : en.n ≤ S.length) : Wd K en Δ S G H where
  len := hl
  sub := W.sub
  ext := W.ext
  new := W.new
  frm := W.frm
  stay := W.stay
  nd := W.nd
  slot := fun i s o h1 h2 => by
    have hi := (List.getElem?_eq_some_iff.mp h1).1
    have q := W.slot i s o (by rw [List.getElem?_append_left hi]; exact h1) (by rw [List.getElem?_append_left (by omega)]; exact h2)
    cases s with
    | un => trivial
    | fr d => exact q
    | mu d => exact q
    | mp j d => exact q
    | bw d => exact q
    | bo j =>
      obtain ⟨h0, h3, h4⟩ := q
      refine ⟨h0, ?_, h4⟩
      rw [List.getElem?_append_left (by omega)] at h3
      exact h3
  apart := fun i j p h1 h2 => by
    have key : ∀ (i : Nat), Own Δ S i p → Own (Δ ++ Ξ) (S ++ us) i p := fun i ⟨sl, e1, e2, e3⟩ =>
      ⟨sl, by rw [List.getElem?_append_left (List.getElem?_eq_some_iff.mp e1).1]; exact e1, e2, by rw [List.getElem?_append_left (List.getElem?_eq_some_iff.mp e3).1]; exact e3⟩
    exact W.apart i j p (key i h1) (key j h2)
end
end BR

/-! K3: operations by values, displays, tests, small statements -/
namespace BR
open PySem PySem.Spec PyProof.Rows L2

def VReps (K : PySem.W.Frag) (G H : Hp) : List D → List V → Prop
  | [], vs => vs = []
  | d :: ds, vs => ∃ v r, vs = v :: r ∧ VRep K G H d v ∧ VReps K G H ds r
/-- the data of several things at hand -/
def rds (δ : List Slot) : List Slot → Option (List D)
  | [] => some []
  | s :: r => match s.rd δ, rds δ r with
    | some d, some ds => some (d :: ds)
    | _, _ => none
theorem VReps.sub {K : PySem.W.Frag} {G G' H H' : Hp} (g : Sub G G') (s : Sub H H') : ∀ {ds : List D} {vs : List V}, VReps K G H ds vs → VReps K G' H' ds vs
  | [], _, h => h
  | d :: ds, _, h => by
    obtain ⟨v, r, e, h1, h2⟩ := h
    exact ⟨v, r, e, VRep.sub g s h1, VReps.sub g s h2⟩

section
variable {X : Cx} {en : Kn} {δ τ : List Slot} {R : Type} {C : Slot → List Slot → Res R → Prop} {m : Res R} {K : PySem.W.Frag}

/-- all of the last things at hand read -/
theorem Wd.reads {σ us : L2.St} {G H : Hp} {Δ2 : List Slot} (W : Wd K en (δ ++ Δ2) (σ ++ us) G H) (hl : δ.length = σ.length) : ∀ {sls : List Slot} {vs : List V} {ds : List D},
    (∀ (i : Nat) sl v, sls[i]? = some sl → vs[i]? = some v → SlotOk K en (σ ++ us) G H sl (some v)) → sls.length = vs.length → rds δ sls = some ds → VReps K G H ds vs
  | [], [], ds, _, _, h => by cases h; rfl
  | [], _ :: _, _, _, h, _ => nomatch h
  | _ :: _, [], _, _, h, _ => nomatch h
  | s :: sls, v :: vs, ds, q, hn, h => by
    unfold rds at h
    split at h
    · rename_i d ds' e1 e2
      cases h
      exact ⟨v, vs, rfl, W.read hl (q 0 s v rfl rfl) e1, Wd.reads W hl (fun i sl v h1 h2 => q (i + 1) sl v (by simpa using h1) (by simpa using h2)) (by simpa using hn) e2⟩
    · cases h
/-- the things at the end -/
theorem Wd.ends {σ ts : L2.St} {vs : List V} {G H : Hp} {sls : List Slot} {ds : List D} (W : Wd K en (δ ++ τ ++ sls) (σ ++ ts ++ vs.map some) G H) (hl : δ.length = σ.length) (ht : τ.length = ts.length) (r : rds δ sls = some ds) :
    VReps K G H ds vs ∧ (∀ hn : en.n ≤ σ.length, Wd K en (δ ++ τ) (σ ++ ts) G H) := by
  refine ⟨?_, fun hn => W.cut (by rw [List.length_append, List.length_append]; omega) (by rw [List.length_append]; omega)⟩
  have W' : Wd K en (δ ++ (τ ++ sls)) (σ ++ (ts ++ vs.map some)) G H := by rw [← List.append_assoc, ← List.append_assoc]; exact W
  refine W'.reads hl (fun i sl v h1 h2 => ?_) ?_ r
  · have hi := (List.getElem?_eq_some_iff.mp h1).1
    have hj := (List.getElem?_eq_some_iff.mp h2).1
    have e1 : (δ ++ τ ++ sls)[(δ ++ τ).length + i]? = some sl := by
      rw [List.getElem?_append_right (Nat.le_add_right _ _), Nat.add_sub_cancel_left]; exact h1
    have e2 : (σ ++ ts ++ vs.map some)[(δ ++ τ).length + i]? = some (some v) := by
      have z : (δ ++ τ).length = (σ ++ ts).length := by rw [List.length_append, List.length_append]; omega
      rw [z, List.getElem?_append_right (Nat.le_add_right _ _), Nat.add_sub_cancel_left, List.getElem?_map, h2]; rfl
    have := W.slot _ _ _ e1 e2
    rw [← List.append_assoc]
    exact this
  · have := W.len
    simp only [List.length_append, List.length_map] at this
    omega

/-! ### operations by values -/
def OpD (X : Cx) (f : Value → Value → Sem Value) (g : D → D → Option D) (rs : D → Slot) : Prop :=
  ∀ d1 d2 d, g d1 d2 = some d → ∀ (pins : List (Addr × Obj)) (s : Shared) (σ : L2.St) (G H : Hp) (v1 v2 : V) (u1 u2 : Value) (Q : VK), Inv X pins σ H s → Sub G H → VRep X.K G H d1 v1 → VRep X.K G H d2 v2 → RelV v1 u1 → RelV v2 u2 →
    (∀ v G' H', Grow G H G' H' → Out X.K G H G' H' (rs d) v → Q v H') → wpAny (model X.prog X.w) X.A (f u1 u2) (EP X pins σ Q) X.xe s
def UnD (X : Cx) (f : Value → Sem Value) (g : D → Option D) (rs : D → Slot) : Prop :=
  ∀ d1 d, g d1 = some d → ∀ (pins : List (Addr × Obj)) (s : Shared) (σ : L2.St) (G H : Hp) (v1 : V) (u1 : Value) (Q : VK), Inv X pins σ H s → Sub G H → VRep X.K G H d1 v1 → RelV v1 u1 →
    (∀ v G' H', Grow G H G' H' → Out X.K G H G' H' (rs d) v → Q v H') → wpAny (model X.prog X.w) X.A (f u1) (EP X pins σ Q) X.xe s
def IxD (X : Cx) (g : D → D → Option D) (rs : D → Slot) : Prop :=
  ∀ d1 d2 d, g d1 d2 = some d → ∀ (value slice : Expr) (pins : List (Addr × Obj)) (s : Shared) (σ : L2.St) (G H : Hp) (v1 v2 : V) (u1 u2 : Value) (Q : VK), Inv X pins σ H s → Sub G H → VRep X.K G H d1 v1 → VRep X.K G H d2 v2 → RelV v1 u1 → RelV v2 u2 →
    (∀ v G' H', Grow G H G' H' → Out X.K G H G' H' (rs d) v → Q v H') → subscripted slice false u1 u2 = operate [u1, u2] (getItem u1 u2) → wpAny (model X.prog X.w) X.A (subscriptTail value slice u1 u2) (EP X pins σ Q) X.xe s
def CallD (X : Cx) (f : Value) (g : List D → Option D) (rs : D → Slot) : Prop :=
  ∀ ds d, g ds = some d → ∀ (pins : List (Addr × Obj)) (s : Shared) (σ : L2.St) (G H : Hp) (vs : List V) (us : List Value) (Q : VK), Inv X pins σ H s → Sub G H → VReps X.K G H ds vs → Vals vs us →
    (∀ v G' H', Grow G H G' H' → Out X.K G H G' H' (rs d) v → Q v H') → wpAny (model X.prog X.w) X.A (call f us) (EP X pins σ Q) X.xe s
theorem opD_of {f : Value → Value → Sem Value} {r : R2} {g : D → D → Option D} {rs : D → Slot} (h : OpR X f r)
    (k : ∀ d1 d2 d, g d1 d2 = some d → ∀ (G H : Hp) (v1 v2 : V) (Q : VK), Sub G H → VRep X.K G H d1 v1 → VRep X.K G H d2 v2 → (∀ v G' H', Grow G H G' H' → Out X.K G H G' H' (rs d) v → Q v H') → r v1 v2 H Q) : OpD X f g rs :=
  fun d1 d2 d e pins s σ G H v1 v2 u1 u2 Q I sb r1 r2 q1 q2 hq => h pins s σ H v1 v2 u1 u2 Q I q1 q2 (k d1 d2 d e G H v1 v2 Q sb r1 r2 hq)
theorem unD_of {f : Value → Sem Value} {r : V → Hp → VK → Prop} {g : D → Option D} {rs : D → Slot} (h : UnR X f r)
    (k : ∀ d1 d, g d1 = some d → ∀ (G H : Hp) (v1 : V) (Q : VK), Sub G H → VRep X.K G H d1 v1 → (∀ v G' H', Grow G H G' H' → Out X.K G H G' H' (rs d) v → Q v H') → r v1 H Q) : UnD X f g rs :=
  fun d1 d e pins s σ G H v1 u1 Q I sb r1 q1 hq => h pins s σ H v1 u1 Q I q1 (k d1 d e G H v1 Q sb r1 hq)
theorem ixD_of {r : R2} {g : D → D → Option D} {rs : D → Slot} (h : IxR X r)
    (k : ∀ d1 d2 d, g d1 d2 = some d → ∀ (G H : Hp) (v1 v2 : V) (Q : VK), Sub G H → VRep X.K G H d1 v1 → VRep X.K G H d2 v2 → (∀ v G' H', Grow G H G' H' → Out X.K G H G' H' (rs d) v → Q v H') → r v1 v2 H Q) : IxD X g rs :=
  fun d1 d2 d e value slice pins s σ G H v1 v2 u1 u2 Q I sb r1 r2 q1 q2 hq hs => h value slice pins s σ H v1 v2 u1 u2 Q I q1 q2 (k d1 d2 d e G H v1 v2 Q sb r1 r2 hq) hs
theorem callD_of {f : Value} {r : List V → Hp → VK → Prop} {g : List D → Option D} {rs : D → Slot} (h : CallR X f r)
    (k : ∀ ds d, g ds = some d → ∀ (G H : Hp) (vs : List V) (Q : VK), Sub G H → VReps X.K G H ds vs → (∀ v G' H', Grow G H G' H' → Out X.K G H G' H' (rs d) v → Q v H') → r vs H Q) : CallD X f g rs :=
  fun ds d e pins s σ G H vs us Q I sb r1 q1 hq => h pins s σ H vs us Q I q1 (k ds d e G H vs Q sb r1 hq)

theorem op_some {α : Type} {o : Option α} {k : α → Res R} (h : op o k ≠ .bad) : ∃ a, o = some a := by
  cases o with
  | none => exact (h rfl).elim
  | some a => exact ⟨a, rfl⟩

/-- a op b -/
theorem bin_core {a b : Expr} {f : Value → Value → Sem Value} {g : D → D → Option D} {rs : D → Slot} {e : Expr} (ho : OpD X f g rs)
    (rule : ∀ {r : R2} {ta tb : TE}, OpR X f r → PE X a ta → PE X b tb → PE X e (tOp r ta tb))
    (ha : JE X en δ τ a (fun s1 δ1 m1 => JE X en δ1 (τ ++ [s1]) b (fun s2 δ2 m2 => ∃ d1 d2 k, s1.rd δ2 = some d1 ∧ s2.rd δ2 = some d2 ∧ m2 = op (g d1 d2) k ∧ ∀ d, g d1 d2 = some d → C (rs d) δ2 (k d)) m1) m) : JE X en δ τ e C m := .mk fun hb hx σ ts G H T hl hσ W k => by
  refine we_of (rule (r := fun x y H Q => ∀ (pins : List (Addr × Obj)) (s : Shared) (σ : L2.St) (u1 u2 : Value), Inv X pins σ H s → RelV x u1 → RelV y u2 → wpAny (model X.prog X.w) X.A (f u1 u2) (EP X pins σ Q) X.xe s)
    (fun pins s σ H x y v u Q I r1 r2 h => h pins s σ v u I r1 r2) pe_we pe_we) ?_
  have ht : τ.length = ts.length := W.splitLen (hl.trans hσ.symm)
  refine ha.run hb hx σ ts G H _ hl hσ W fun s1 δ1 v1 G1 H1 c1 hl1 W1 => ?_
  rw [List.append_assoc, List.append_assoc] at W1
  refine c1.run hb hx σ (ts ++ [some v1]) G1 H1 _ hl1 hσ W1 fun s2 δ2 v2 G2 H2 c2 hl2 W2 => ?_
  obtain ⟨d1, d2, k', e1, e2, em, hk⟩ := c2
  have hb' := hb
  rw [em] at hb'
  obtain ⟨d, ed⟩ := op_some hb'
  have em' : m = k' d := by rw [em, ed]; rfl
  have W3 : Wd X.K en (δ2 ++ τ ++ [s1, s2]) (σ ++ ts ++ [v1, v2].map some) G2 H2 := by
    have := W2
    simp only [List.append_assoc, List.map_cons, List.map_nil, List.cons_append, List.nil_append] at this ⊢
    exact this
  obtain ⟨⟨_, _, ez, r1, _, _, ez2, r2, ez3⟩, Wn⟩ := W3.ends (hl2.trans hσ.symm) ht (ds := [d1, d2]) (by simp only [rds, e1, e2])
  cases ez
  cases ez2
  intro pins s σ' u1 u2 I q1 q2
  refine ho d1 d2 d ed pins s σ' G2 H2 v1 v2 u1 u2 T I W2.sub r1 r2 q1 q2 fun v G' H' gr out => ?_
  refine k (rs d) δ2 v G' H' ?_ hl2 ((Wn (by omega)).out gr out)
  have := hk d ed
  rw [← em'] at this
  exact this
theorem je_bin {op' : Operator} {g : D → D → Option D} {rs : D → Slot} {a b : Expr} {pos : Pos} (ho : OpD X (binaryOp op') g rs)
    (ha : JE X en δ τ a (fun s1 δ1 m1 => JE X en δ1 (τ ++ [s1]) b (fun s2 δ2 m2 => ∃ d1 d2 k, s1.rd δ2 = some d1 ∧ s2.rd δ2 = some d2 ∧ m2 = op (g d1 d2) k ∧ ∀ d, g d1 d2 = some d → C (rs d) δ2 (k d)) m1) m) : JE X en δ τ (.BinOp a op' b pos) C m :=
  bin_core ho (fun h1 h2 h3 => pe_op h1 h2 h3) ha
/-- a comparison as a value -/
theorem je_cmp {op' : CmpOp} {g : D → D → Option D} {rs : D → Slot} {a b : Expr} {pos : Pos} (ho : OpD X (compareOp op') g rs) (hm : behindInMarks op' b = false)
    (ha : JE X en δ τ a (fun s1 δ1 m1 => JE X en δ1 (τ ++ [s1]) b (fun s2 δ2 m2 => ∃ d1 d2 k, s1.rd δ2 = some d1 ∧ s2.rd δ2 = some d2 ∧ m2 = op (g d1 d2) k ∧ ∀ d, g d1 d2 = some d → C (rs d) δ2 (k d)) m1) m) : JE X en δ τ (.Compare a [op'] [b] pos) C m :=
  bin_core ho (fun h1 h2 h3 => pe_cmpR h1 h2 h3 hm) ha
/-- a[b] -/
theorem je_ix {g : D → D → Option D} {rs : D → Slot} {a b : Expr} {pos : Pos} (ho : IxD X g rs) (hs : PlainIx b)
    (ha : JE X en δ τ a (fun s1 δ1 m1 => JE X en δ1 (τ ++ [s1]) b (fun s2 δ2 m2 => ∃ d1 d2 k, s1.rd δ2 = some d1 ∧ s2.rd δ2 = some d2 ∧ m2 = op (g d1 d2) k ∧ ∀ d, g d1 d2 = some d → C (rs d) δ2 (k d)) m1) m) : JE X en δ τ (.Subscript a b pos) C m := .mk fun hb hx σ ts G H T hl hσ W k => by
  refine we_of (pe_ix (r := fun x y H Q => ∀ (value slice : Expr) (pins : List (Addr × Obj)) (s : Shared) (σ : L2.St) (u1 u2 : Value), Inv X pins σ H s → RelV x u1 → RelV y u2 → subscripted slice false u1 u2 = operate [u1, u2] (getItem u1 u2) → wpAny (model X.prog X.w) X.A (subscriptTail value slice u1 u2) (EP X pins σ Q) X.xe s)
    (fun value slice pins s σ H x y v u Q I r1 r2 h hs => h value slice pins s σ v u I r1 r2 hs) pe_we pe_we hs) ?_
  have ht : τ.length = ts.length := W.splitLen (hl.trans hσ.symm)
  refine ha.run hb hx σ ts G H _ hl hσ W fun s1 δ1 v1 G1 H1 c1 hl1 W1 => ?_
  rw [List.append_assoc, List.append_assoc] at W1
  refine c1.run hb hx σ (ts ++ [some v1]) G1 H1 _ hl1 hσ W1 fun s2 δ2 v2 G2 H2 c2 hl2 W2 => ?_
  obtain ⟨d1, d2, k', e1, e2, em, hk⟩ := c2
  have hb' := hb
  rw [em] at hb'
  obtain ⟨d, ed⟩ := op_some hb'
  have em' : m = k' d := by rw [em, ed]; rfl
  have W3 : Wd X.K en (δ2 ++ τ ++ [s1, s2]) (σ ++ ts ++ [v1, v2].map some) G2 H2 := by
    have := W2
    simp only [List.append_assoc, List.map_cons, List.map_nil, List.cons_append, List.nil_append] at this ⊢
    exact this
  obtain ⟨⟨_, _, ez, r1, _, _, ez2, r2, ez3⟩, Wn⟩ := W3.ends (hl2.trans hσ.symm) ht (ds := [d1, d2]) (by simp only [rds, e1, e2])
  cases ez
  cases ez2
  intro value slice pins s σ' u1 u2 I q1 q2 hs
  refine ho d1 d2 d ed value slice pins s σ' G2 H2 v1 v2 u1 u2 T I W2.sub r1 r2 q1 q2 (fun v G' H' gr out => ?_) hs
  refine k (rs d) δ2 v G' H' ?_ hl2 ((Wn (by omega)).out gr out)
  have := hk d ed
  rw [← em'] at this
  exact this
theorem je_un {op' : UnaryOp} {g : D → Option D} {rs : D → Slot} {a : Expr} {pos : Pos} (ho : UnD X (unaryOp op') g rs)
    (ha : JE X en δ τ a (fun s1 δ1 m1 => ∃ d1 k, s1.rd δ1 = some d1 ∧ m1 = op (g d1) k ∧ ∀ d, g d1 = some d → C (rs d) δ1 (k d)) m) : JE X en δ τ (.UnaryOp op' a pos) C m := .mk fun hb hx σ ts G H T hl hσ W k => by
  refine we_of (pe_un (r := fun x H Q => ∀ (pins : List (Addr × Obj)) (s : Shared) (σ : L2.St) (u1 : Value), Inv X pins σ H s → RelV x u1 → wpAny (model X.prog X.w) X.A (unaryOp op' u1) (EP X pins σ Q) X.xe s)
    (fun pins s σ H x v Q I r1 h => h pins s σ v I r1) pe_we) ?_
  have ht : τ.length = ts.length := W.splitLen (hl.trans hσ.symm)
  refine ha.run hb hx σ ts G H _ hl hσ W fun s1 δ1 v1 G1 H1 c1 hl1 W1 => ?_
  obtain ⟨d1, k', e1, em, hk⟩ := c1
  have hb' := hb
  rw [em] at hb'
  obtain ⟨d, ed⟩ := op_some hb'
  have em' : m = k' d := by rw [em, ed]; rfl
  have W3 : Wd X.K en (δ1 ++ τ ++ [s1]) (σ ++ ts ++ [v1].map some) G1 H1 := W1
  obtain ⟨⟨_, _, ez, r1, _⟩, Wn⟩ := W3.ends (hl1.trans hσ.symm) ht (ds := [d1]) (by simp only [rds, e1])
  cases ez
  intro pins s σ' u1 I q1
  refine ho d1 d ed pins s σ' G1 H1 v1 u1 T I W1.sub r1 q1 fun v G' H' gr out => ?_
  refine k (rs d) δ1 v G' H' ?_ hl1 ((Wn (by omega)).out gr out)
  have := hk d ed
  rw [← em'] at this
  exact this

/-! ### arguments -/
theorem ja_nil {C : List Slot → List Slot → Res R → Prop} (h : C [] δ m) : JA X en δ τ [] C m := .mk fun hb hx σ ts G H T hl hσ W k =>
  wa_of pa_nil (k [] δ [] G H h hl (by rw [List.map_nil, List.append_nil, List.append_nil]; exact W))
theorem ja_cons {e : Expr} {es : List Expr} {C : List Slot → List Slot → Res R → Prop}
    (h : JE X en δ τ e (fun s1 δ1 m1 => JA X en δ1 (τ ++ [s1]) es (fun sls δ2 m2 => C (s1 :: sls) δ2 m2) m1) m) (hs : starEach (e :: es) X.env = (false, eval e X.env) :: starEach es X.env := by exact star_plain rfl) : JA X en δ τ (e :: es) C m := .mk fun hb hx σ ts G H T hl hσ W k => by
  refine wa_of (pa_cons pe_we pa_wa hs) ?_
  refine h.run hb hx σ ts G H _ hl hσ W fun s1 δ1 v1 G1 H1 c1 hl1 W1 => ?_
  rw [List.append_assoc, List.append_assoc] at W1
  refine c1.run hb hx σ (ts ++ [some v1]) G1 H1 _ hl1 hσ W1 fun sls δ2 vs G2 H2 c2 hl2 W2 => ?_
  refine k (s1 :: sls) δ2 (v1 :: vs) G2 H2 c2 hl2 ?_
  have := W2
  simp only [List.append_assoc, List.map_cons, List.cons_append, List.nil_append] at this ⊢
  exact this

/-! ### what is put among what stands fast -/
/-- a list of one's own is from now on one that stands fast -/
theorem Wd.fast {Δ : List Slot} {S : L2.St} {G H : Hp} (W : Wd K en Δ S G H) {i : Nat} {d : D} (h : Δ[i]? = some (.mu d)) : ∃ G', Wd K en (Δ.set i (.fr d)) S G' H ∧ Sub G G' := by
  obtain ⟨o, h1, p, e, n, f, f2, r⟩ := W.at h
  subst e
  obtain ⟨ob, ho⟩ := r.ex
  have hi := (List.getElem?_eq_some_iff.mp h).1
  have other : ∀ (j : Nat) sl, (Δ.set i (.fr d))[j]? = some sl → j ≠ i → Δ[j]? = some sl := fun j sl h3 hj => by
    rw [List.getElem?_set_ne (Ne.symm hj)] at h3; exact h3
  have nm : ∀ (j : Nat) d2 q, (Δ.set i (.fr d))[j]? = some (.mu d2) → S[j]? = some (some (V.ref q)) → j ≠ i ∧ Δ[j]? = some (.mu d2) ∧ q ≠ p := fun j d2 q h3 h4 => by
    have hj : j ≠ i := fun z => by
      subst z
      rw [List.getElem?_set_self hi] at h3; cases h3
    exact ⟨hj, other j _ h3 hj, fun z => by subst z; exact hj (W.apart j i q ⟨_, other j _ h3 hj, rfl, h4⟩ ⟨_, h, rfl, h1⟩)⟩
  refine ⟨upd G p ob, ⟨by rw [List.length_set]; exact W.len, fun a u e => ?_, W.ext.trans (Sub.upd n), fun a u e => ?_, W.frm, W.stay, W.nd, fun j sl u h3 h4 => ?_, fun j j' q h3 h4 => ?_⟩, Sub.upd n⟩
  · by_cases ha : a = p
    · subst ha; rw [upd_same] at e; cases e; exact ho
    · rw [upd_ne ha] at e; exact W.sub a u e
  · by_cases ha : a = p
    · subst ha; exact .inr ⟨f, f2⟩
    · rw [upd_ne ha] at e; exact W.new a u e
  · by_cases hj : j = i
    · subst hj
      rw [List.getElem?_set_self hi] at h3
      cases h3
      rw [h1] at h4
      cases h4
      exact ⟨_, rfl, r.freeze ho n⟩
    · have q := W.slot j sl u (other j sl h3 hj) h4
      cases sl with
      | un => trivial
      | fr d2 => obtain ⟨v, e, q⟩ := q; exact ⟨v, e, Rep.sub (Sub.upd n) _ _ q⟩
      | mu d2 =>
        obtain ⟨q1, e, n1, x1, x2, r1⟩ := q
        subst e
        obtain ⟨_, _, ne⟩ := nm j d2 q1 h3 h4
        exact ⟨q1, rfl, by rw [upd_ne ne]; exact n1, x1, x2, r1.keep (Sub.upd n) fun _ z => z⟩
      | mp l d2 =>
        obtain ⟨q1, e, x0, n1, x1, r1⟩ := q
        have ne : q1 ≠ p := fun z => by subst z; exact f2 (List.mem_of_getElem? x0)
        exact ⟨q1, e, x0, by rw [upd_ne ne]; exact n1, x1, r1.keep (Sub.upd n) fun _ z => z⟩
      | bw d2 => obtain ⟨v, e, q⟩ := q; exact ⟨v, e, BRep.sub (Sub.upd n) (Sub.refl _) q⟩
      | bo l => exact q
  · have key : ∀ (j : Nat), Own (Δ.set i (.fr d)) S j q → Own Δ S j q := fun j ⟨sl, e1, e2, e3⟩ => by
      refine ⟨sl, other j sl e1 fun z => ?_, e2, e3⟩
      subst z
      rw [List.getElem?_set_self hi] at e1
      cases e1; cases e2
    exact W.apart j j' q (key j h3) (key j' h4)
/-- a slot told less of -/
theorem Wd.forget {Δ : List Slot} {S : L2.St} {G H : Hp} (W : Wd K en Δ S G H) (i : Nat) : Wd K en (Δ.set i .un) S G H where
  len := by rw [List.length_set]; exact W.len
  sub := W.sub
  ext := W.ext
  new := W.new
  frm := W.frm
  stay := W.stay
  nd := W.nd
  slot := fun j sl u h3 h4 => by
    by_cases hj : j = i
    · subst hj
      have hi : j < Δ.length := by
        have := (List.getElem?_eq_some_iff.mp h3).1
        rw [List.length_set] at this; exact this
      rw [List.getElem?_set_self hi] at h3
      cases h3
      trivial
    · rw [List.getElem?_set_ne (Ne.symm hj)] at h3
      exact W.slot j sl u h3 h4
  apart := fun j j' q h3 h4 => by
    have key : ∀ (j : Nat), Own (Δ.set i .un) S j q → Own Δ S j q := fun j ⟨sl, e1, e2, e3⟩ => by
      refine ⟨sl, ?_, e2, e3⟩
      by_cases hj : j = i
      · subst hj
        have hi : j < Δ.length := by
          have := (List.getElem?_eq_some_iff.mp e1).1
          rw [List.length_set] at this; exact this
        rw [List.getElem?_set_self hi] at e1; cases e1; cases e2
      · rw [List.getElem?_set_ne (Ne.symm hj)] at e1; exact e1
    exact W.apart j j' q (key j h3) (key j' h4)
/-- what stands at hand last, put fast: e is followed by C of what stands fast -/
def Slot.fz : Slot → Slot
  | .mu d => .fr d
  | s => s
theorem je_fz {e : Expr} (h : JE X en δ τ e (fun s1 δ1 m1 => C s1.fz δ1 m1) m) : JE X en δ τ e C m := .mk fun hb hx σ ts G H T hl hσ W k => by
  refine h.run hb hx σ ts G H T hl hσ W fun sl δ' v G' H' c hl' W' => ?_
  cases sl with
  | mu d =>
    obtain ⟨G2, W2, _⟩ := W'.fast (i := (δ' ++ τ).length) (d := d) getElem?_last
    refine k (.fr d) δ' v G2 H' c hl' ?_
    rw [List.set_append_right _ _ (Nat.le_refl _), Nat.sub_self] at W2
    exact W2
  | un => exact k _ δ' v G' H' c hl' W'
  | fr d => exact k _ δ' v G' H' c hl' W'
  | mp j d => exact k _ δ' v G' H' c hl' W'
  | bw d => exact k _ δ' v G' H' c hl' W'
  | bo i => exact k _ δ' v G' H' c hl' W'
/-- a name's own list put fast, and told -/
theorem je_fzv (i : Nat) {x : Str} {pos : Pos} {d : D} (hs : δ[i]? = some (.mu d)) (h : C (.fr d) (δ.set i (.fr d)) m) (hN : X.N[i]? = some x := by rfl) (hv : Vis X.env.scope x := by first | exact Or.inl rfl | exact Or.inr (Or.inl rfl) | exact Or.inr (Or.inr rfl))
    (hd : (x == ("__debug__" : Str)) = false := by decide) (hcd : (x == ("__classdict__" : Str)) = false := by decide) : JE X en δ τ (.Name x pos) C m := .mk fun hb hx σ ts G H T hl hσ W k => by
  have hi := (List.getElem?_eq_some_iff.mp hs).1
  obtain ⟨G2, W2, _⟩ := W.fast (i := i) (d := d) (by rw [List.getElem?_append_left hi]; exact hs)
  rw [List.set_append_left _ _ hi] at W2
  have hl2 : (δ.set i (.fr d)).length = en.n := by rw [List.length_set]; exact hl
  obtain ⟨o, h1, v, e, q⟩ := W2.name (hl2.trans hσ.symm) (i := i) (sl := .fr d) (by rw [List.getElem?_set_self hi])
  subst e
  exact we_of (pe_var hN hv hd hcd) ⟨v, h1, k _ _ v G2 H h hl2 (W2.out (Grow.refl W2.sub) q)⟩
/-- a name's own list, told as a new one; the name is not known any more -/
theorem je_mv (i : Nat) {x : Str} {pos : Pos} {d : D} (hs : δ[i]? = some (.mu d)) (h : C (.mu d) (δ.set i .un) m) (hN : X.N[i]? = some x := by rfl) (hv : Vis X.env.scope x := by first | exact Or.inl rfl | exact Or.inr (Or.inl rfl) | exact Or.inr (Or.inr rfl))
    (hd : (x == ("__debug__" : Str)) = false := by decide) (hcd : (x == ("__classdict__" : Str)) = false := by decide) : JE X en δ τ (.Name x pos) C m := .mk fun hb hx σ ts G H T hl hσ W k => by
  have hi := (List.getElem?_eq_some_iff.mp hs).1
  have hs' : (δ ++ τ)[i]? = some (.mu d) := by rw [List.getElem?_append_left hi]; exact hs
  obtain ⟨o, h1, p, e, q⟩ := W.name (hl.trans hσ.symm) hs
  subst e
  have W2 := W.forget i
  rw [List.set_append_left _ _ hi] at W2
  have hl2 : (δ.set i .un).length = en.n := by rw [List.length_set]; exact hl
  refine we_of (pe_var hN hv hd hcd) ⟨_, h1, k _ _ _ G H h hl2 (W2.more ⟨p, rfl, q⟩ fun p2 j e1 e2 h3 => ?_)⟩
  cases e2
  have hσi : (σ ++ ts)[i]? = some (some (V.ref p)) := by rw [List.getElem?_append_left (List.getElem?_eq_some_iff.mp h1).1]; exact h1
  obtain ⟨sl, e4, e5, e6⟩ := h3
  by_cases hj : j = i
  · subst hj
    rw [List.getElem?_append_left (by rw [List.length_set]; exact hi), List.getElem?_set_self hi] at e4
    cases e4; cases e5
  · have h3' : (δ ++ τ)[j]? = some sl := by
      rw [← List.set_append_left _ _ hi, List.getElem?_set_ne (Ne.symm hj)] at e4
      exact e4
    exact hj (W.apart j i p ⟨sl, h3', e5, e6⟩ ⟨_, hs', rfl, hσi⟩)
end
end BR

/-! K4: displays, calls of what is built in, tests, and, or, not, joins -/
namespace BR
open PySem PySem.Spec PyProof.Rows L2

/-- the data of things that stand fast -/
def frs : List Slot → Option (List D)
  | [] => some []
  | .fr d :: r => (frs r).map (d :: ·)
  | _ :: _ => none

section
variable {X : Cx} {en : Kn} {δ τ : List Slot} {R : Type} {C : Slot → List Slot → Res R → Prop} {m : Res R} {K : PySem.W.Frag}

theorem Wd.frs {Δ : List Slot} {S : L2.St} {G H : Hp} : ∀ {sls : List Slot} {vs : List V} {ds : List D}, (∀ (i : Nat) sl v, sls[i]? = some sl → vs[i]? = some v → SlotOk K en S G H sl (some v)) → sls.length = vs.length → BR.frs sls = some ds → Reps K G ds vs
  | [], [], ds, _, _, h => by cases h; rfl
  | [], _ :: _, _, _, h, _ => nomatch h
  | _ :: _, [], _, _, h, _ => nomatch h
  | .fr d :: sls, v :: vs, ds, q, hn, h => by
    unfold BR.frs at h
    obtain ⟨ds', h1, h2⟩ := Option.map_eq_some_iff.mp h
    subst h2
    obtain ⟨v', e, r⟩ := q 0 _ v rfl rfl
    cases e
    exact ⟨v, vs, rfl, r, Wd.frs (Δ := Δ) (S := S) (H := H) (fun i sl v h3 h4 => q (i + 1) sl v (by simpa using h3) (by simpa using h4)) (by simpa using hn) h1⟩
  | .un :: _, _ :: _, _, _, _, h => by cases h
  | .mu _ :: _, _ :: _, _, _, _, h => by cases h
  | .mp _ _ :: _, _ :: _, _, _, _, h => by cases h
  | .bw _ :: _, _ :: _, _, _, _, h => by cases h
  | .bo _ :: _, _ :: _, _, _, _, h => by cases h
/-- the slots of the things at the end -/
theorem Wd.endSlots {σ ts : L2.St} {vs : List V} {G H : Hp} {sls : List Slot} (W : Wd K en (δ ++ τ ++ sls) (σ ++ ts ++ vs.map some) G H) (hl : δ.length = σ.length) (ht : τ.length = ts.length) :
    sls.length = vs.length ∧ ∀ (i : Nat) sl v, sls[i]? = some sl → vs[i]? = some v → SlotOk K en (σ ++ ts ++ vs.map some) G H sl (some v) := by
  refine ⟨?_, fun i sl v h1 h2 => ?_⟩
  · have := W.len
    simp only [List.length_append, List.length_map] at this
    omega
  · have e1 : (δ ++ τ ++ sls)[(δ ++ τ).length + i]? = some sl := by
      rw [List.getElem?_append_right (Nat.le_add_right _ _), Nat.add_sub_cancel_left]; exact h1
    have e2 : (σ ++ ts ++ vs.map some)[(δ ++ τ).length + i]? = some (some v) := by
      have z : (δ ++ τ).length = (σ ++ ts).length := by rw [List.length_append, List.length_append]; omega
      rw [z, List.getElem?_append_right (Nat.le_add_right _ _), Nat.add_sub_cancel_left, List.getElem?_map, h2]; rfl
    exact W.slot _ _ _ e1 e2

/-- a new thing laid that stands fast -/
theorem Wd.laidF {Δ : List Slot} {S : L2.St} {G H : Hp} (W : Wd K en Δ S G H) {p : Addr} {o : HO} (hp : H p = none) {d : D} (r : ∀ G', Sub G G' → G' p = some o → Rep K G' d (.ref p)) :
    Wd K en (Δ ++ [.fr d]) (S ++ [some (.ref p)]) (upd G p o) (upd H p o) := by
  have hg := (W.fresh hp).1
  refine W.out ⟨Sub.upd hg, Sub.upd hp, fun a u e => ?_, fun a u e => ?_⟩ (r _ (Sub.upd hg) upd_same)
  · by_cases ha : a = p
    · subst ha; rw [upd_same] at e ⊢; exact e
    · rw [upd_ne ha] at e ⊢; exact W.sub a u e
  · by_cases ha : a = p
    · subst ha; exact .inr hp
    · rw [upd_ne ha] at e; exact .inl e
/-- a tuple written -/
theorem je_tup {es : List Expr} {x1} {pos : Pos} (h : JA X en δ τ es (fun sls δ1 m1 => ∃ ds, frs sls = some ds ∧ sls.length.ble 1000 = true ∧ C (.fr (.tup ds)) δ1 m1) m) : JE X en δ τ (.Tuple es x1 pos) C m := .mk fun hb hx σ ts G H T hl hσ W k => by
  refine we_of (pe_tup pa_wa) ?_
  have ht : τ.length = ts.length := W.splitLen (hl.trans hσ.symm)
  refine h.run hb hx σ ts G H _ hl hσ W fun sls δ1 vs G1 H1 c1 hl1 W1 => ?_
  obtain ⟨ds, e, hz, c⟩ := c1
  obtain ⟨hn, q⟩ := W1.endSlots (hl1.trans hσ.symm) ht
  have hr : Reps X.K G1 ds vs := Wd.frs (Δ := δ) (H := H1) q hn e
  refine ⟨Nat.le_of_lt (small1000 (hn ▸ Nat.le_of_ble_eq_true hz)), fun p hp => ?_⟩
  have W2 := W1.cut (Δ := δ1 ++ τ) (S := σ ++ ts) (by rw [List.length_append, List.length_append]; omega) (by rw [List.length_append]; omega)
  exact k _ δ1 (.ref p) _ _ c hl1 (W2.laidF hp fun G' s e => ⟨p, vs, rfl, .inl (.inl e), Reps.sub s _ _ hr⟩)
/-- a list written: a new one -/
theorem je_lst {es : List Expr} {pos : Pos} (h : JA X en δ τ es (fun sls δ1 m1 => ∃ ds, frs sls = some ds ∧ sls.length.ble 1000 = true ∧ C (.mu (.lst ds)) δ1 m1) m) : JE X en δ τ (.List es pos) C m := .mk fun hb hx σ ts G H T hl hσ W k => by
  refine we_of (pe_lst pa_wa) ?_
  have ht : τ.length = ts.length := W.splitLen (hl.trans hσ.symm)
  refine h.run hb hx σ ts G H _ hl hσ W fun sls δ1 vs G1 H1 c1 hl1 W1 => ?_
  obtain ⟨ds, e, hz, c⟩ := c1
  obtain ⟨hn, q⟩ := W1.endSlots (hl1.trans hσ.symm) ht
  have hr : Reps X.K G1 ds vs := Wd.frs (Δ := δ) (H := H1) q hn e
  refine ⟨Nat.le_of_lt (small1000 (hn ▸ Nat.le_of_ble_eq_true hz)), fun p hp => ?_⟩
  have W2 := W1.cut (Δ := δ1 ++ τ) (S := σ ++ ts) (by rw [List.length_append, List.length_append]; omega) (by rw [List.length_append]; omega)
  have hg := (W2.fresh hp).1
  exact k _ δ1 (.ref p) G1 _ c hl1 (W2.out (Grow.laid W2.sub hp) ⟨p, rfl, hp, hg, vs, upd_same, hr⟩)

/-! ### what is built in -/
theorem call_core {e : Expr} {es : List Expr} {f : Value} {g : List D → Option D} {rs : D → Slot} (hc : CallD X f g rs) (rule : ∀ {r : List V → Hp → VK → Prop} {t : TA}, CallR X f r → PA X es t → PE X e (tCB r t))
    (h : JA X en δ τ es (fun sls δ1 m1 => ∃ ds k, rds δ1 sls = some ds ∧ m1 = op (g ds) k ∧ ∀ d, g ds = some d → C (rs d) δ1 (k d)) m) : JE X en δ τ e C m := .mk fun hb hx σ ts G H T hl hσ W k => by
  refine we_of (rule (r := fun vs H Q => ∀ (pins : List (Addr × Obj)) (s : Shared) (σ : L2.St) (us : List Value), Inv X pins σ H s → Vals vs us → wpAny (model X.prog X.w) X.A (call f us) (EP X pins σ Q) X.xe s)
    (fun pins s σ H xs us Q I r1 h => h pins s σ us I r1) pa_wa) ?_
  have ht : τ.length = ts.length := W.splitLen (hl.trans hσ.symm)
  refine h.run hb hx σ ts G H _ hl hσ W fun sls δ1 vs G1 H1 c1 hl1 W1 => ?_
  obtain ⟨ds, k', e1, em, hk⟩ := c1
  have hb' := hb
  rw [em] at hb'
  obtain ⟨d, ed⟩ := op_some hb'
  have em' : m = k' d := by rw [em, ed]; rfl
  obtain ⟨r1, Wn⟩ := W1.ends (hl1.trans hσ.symm) ht e1
  intro pins s σ' us I q1
  refine hc ds d ed pins s σ' G1 H1 vs us T I W1.sub r1 q1 fun v G' H' gr out => ?_
  refine k (rs d) δ1 v G' H' ?_ hl1 ((Wn (by omega)).out gr out)
  have := hk d ed
  rw [← em'] at this
  exact this
/-- f(..), a built-in function -/
theorem je_callB {x : Str} {p pos : Pos} {e : Expr} {es : List Expr} {id : String} {g : List D → Option D} {rs : D → Slot} (hc : CallD X (.builtin id) g rs) (hm : X.mg x = none)
    (h : JA X en δ τ (e :: es) (fun sls δ1 m1 => ∃ ds k, rds δ1 sls = some ds ∧ m1 = op (g ds) k ∧ ∀ d, g ds = some d → C (rs d) δ1 (k d)) m) (hv : bootBuiltins x = some (.builtin id) := by decide +kernel) (hg : Gl X x := by rfl)
    (hn : x ≠ "__name__" := by decide) (hdb : (x == ("__debug__" : Str)) = false := by decide)
    (he : starEach (e :: es) X.env = (false, eval e X.env) :: starEach es X.env := by exact star_plain rfl) (hpl : (backTo pos (starEach es X.env)).any (·.1) = false := by rfl) : JE X en δ τ (.Call (.Name x p) (e :: es) [] pos) C m :=
  call_core hc (fun h1 h2 => pe_callB h1 hg hm hv h2 hn hdb he hpl) h
theorem je_callTy {x : Str} {p pos : Pos} {e : Expr} {es : List Expr} {id : String} {g : List D → Option D} {rs : D → Slot} (hc : CallD X (.type id) g rs) (hm : X.mg x = none)
    (h : JA X en δ τ (e :: es) (fun sls δ1 m1 => ∃ ds k, rds δ1 sls = some ds ∧ m1 = op (g ds) k ∧ ∀ d, g ds = some d → C (rs d) δ1 (k d)) m) (hv : bootBuiltins x = some (.type id) := by decide +kernel) (hg : Gl X x := by rfl)
    (hn : x ≠ "__name__" := by decide) (hdb : (x == ("__debug__" : Str)) = false := by decide)
    (he : starEach (e :: es) X.env = (false, eval e X.env) :: starEach es X.env := by exact star_plain rfl) (hpl : (backTo pos (starEach es X.env)).any (·.1) = false := by rfl) : JE X en δ τ (.Call (.Name x p) (e :: es) [] pos) C m :=
  call_core hc (fun h1 h2 => pe_callTy h1 hg hm hv h2 hn hdb he hpl) h

/-! ### comparisons and tests -/
def CmpD (X : Cx) (f : Value → Value → Sem Value) (g : D → D → Option Bool) : Prop := OpD X f (fun a b => (g a b).map D.bl) Slot.fr
def kB {R : Type} (k : Bool → Res R) : D → Res R
  | .bl b => k b
  | _ => .bad
theorem op_kB {o : Option Bool} {k : Bool → Res R} : op o k = op (o.map D.bl) (kB k) := by cases o <;> rfl
/-- a comparison as a value -/
theorem je_cmpB {op' : CmpOp} {g : D → D → Option Bool} {a b : Expr} {pos : Pos} (ho : CmpD X (compareOp op') g) (hm : behindInMarks op' b = false)
    (ha : JE X en δ τ a (fun s1 δ1 m1 => JE X en δ1 (τ ++ [s1]) b (fun s2 δ2 m2 => ∃ d1 d2 k, s1.rd δ2 = some d1 ∧ s2.rd δ2 = some d2 ∧ m2 = op (g d1 d2) k ∧ ∀ d, C (.fr (.bl d)) δ2 (k d)) m1) m) : JE X en δ τ (.Compare a [op'] [b] pos) C m := by
  refine je_cmp ho hm (.mk fun hb hx σ ts G H T hl hσ W k => ha.run hb hx σ ts G H T hl hσ W fun s1 δ1 v1 G1 H1 c1 hl1 W1 => k s1 δ1 v1 G1 H1 ?_ hl1 W1)
  refine .mk fun hb hx σ ts G H T hl hσ W k => c1.run hb hx σ ts G H T hl hσ W fun s2 δ2 v2 G2 H2 c2 hl2 W2 => k s2 δ2 v2 G2 H2 ?_ hl2 W2
  obtain ⟨d1, d2, k', e1, e2, em, hk⟩ := c2
  refine ⟨d1, d2, kB k', e1, e2, em.trans op_kB, fun d ed => ?_⟩
  obtain ⟨b, _, eb⟩ := Option.map_eq_some_iff.mp ed
  subst eb
  exact hk b
/-- an expression whose value is True or False, as a test -/
theorem jt_of {C : Bool → List Slot → Res R → Prop} {e : Expr} (rule : PT X e (fun σ H Q => WE X e σ H fun x H' => ∃ k, TruV X.K x H' k ∧ Q k H'))
    (h : JE X en δ τ e (fun s1 δ1 m1 => ∃ b, s1 = .fr (.bl b) ∧ C b δ1 m1) m) : JT X en δ τ e C m := .mk fun hb hx σ ts G H T hl hσ W k => by
  refine wt_of rule ?_
  have ht : τ.length = ts.length := W.splitLen (hl.trans hσ.symm)
  refine h.run hb hx σ ts G H _ hl hσ W fun s1 δ1 v1 G1 H1 c1 hl1 W1 => ?_
  obtain ⟨b, e1, c⟩ := c1
  subst e1
  obtain ⟨v, e, r⟩ := W1.last
  cases e
  have r' : v1 = .bl b := r
  subst r'
  exact ⟨b, rfl, k b δ1 G1 H1 c hl1 (W1.cut (Δ := δ1 ++ τ) (S := σ ++ ts) (by rw [List.length_append, List.length_append]; omega) (by rw [List.length_append]; omega))⟩
/-- a comparison as a test -/
theorem jt_cmp {op' : CmpOp} {g : D → D → Option Bool} {a b : Expr} {pos : Pos} {C : Bool → List Slot → Res R → Prop} (ho : CmpD X (compareOp op') g) (hm : behindInMarks op' b = false)
    (ha : JE X en δ τ a (fun s1 δ1 m1 => JE X en δ1 (τ ++ [s1]) b (fun s2 δ2 m2 => ∃ d1 d2 k, s1.rd δ2 = some d1 ∧ s2.rd δ2 = some d2 ∧ m2 = op (g d1 d2) k ∧ ∀ d, C d δ2 (k d)) m1) m) : JT X en δ τ (.Compare a [op'] [b] pos) C m := by
  have h : JE X en δ τ (.Compare a [op'] [b] pos) (fun s1 δ1 m1 => ∃ b, s1 = .fr (.bl b) ∧ C b δ1 m1) m := by
    refine je_cmpB ho hm (.mk fun hb hx σ ts G H T hl hσ W k => ha.run hb hx σ ts G H T hl hσ W fun s1 δ1 v1 G1 H1 c1 hl1 W1 => k s1 δ1 v1 G1 H1 ?_ hl1 W1)
    refine .mk fun hb hx σ ts G H T hl hσ W k => c1.run hb hx σ ts G H T hl hσ W fun s2 δ2 v2 G2 H2 c2 hl2 W2 => k s2 δ2 v2 G2 H2 ?_ hl2 W2
    obtain ⟨d1, d2, k', e1, e2, em, hk⟩ := c2
    exact ⟨d1, d2, k', e1, e2, em, fun b => ⟨b, rfl, hk b⟩⟩
  refine .mk fun hb hx σ ts G H T hl hσ W k => ?_
  have ht : τ.length = ts.length := W.splitLen (hl.trans hσ.symm)
  refine wt_of (pt_cmpR (r := fun x y H Q => ∀ (pins : List (Addr × Obj)) (s : Shared) (σ : L2.St) (u1 u2 : Value), Inv X pins σ H s → RelV x u1 → RelV y u2 → wpAny (model X.prog X.w) X.A (compareOp op' u1 u2) (EP X pins σ Q) X.xe s)
    (fun pins s σ H x y v u Q I r1 r2 h => h pins s σ v u I r1 r2) pe_we pe_we hm) ?_
  refine ha.run hb hx σ ts G H _ hl hσ W fun s1 δ1 v1 G1 H1 c1 hl1 W1 => ?_
  rw [List.append_assoc, List.append_assoc] at W1
  refine c1.run hb hx σ (ts ++ [some v1]) G1 H1 _ hl1 hσ W1 fun s2 δ2 v2 G2 H2 c2 hl2 W2 => ?_
  obtain ⟨d1, d2, k', e1, e2, em, hk⟩ := c2
  have hb' := hb
  rw [em] at hb'
  obtain ⟨d, ed⟩ := op_some hb'
  have em' : m = k' d := by rw [em, ed]; rfl
  have W3 : Wd X.K en (δ2 ++ τ ++ [s1, s2]) (σ ++ ts ++ [v1, v2].map some) G2 H2 := by
    have := W2
    simp only [List.append_assoc, List.map_cons, List.map_nil, List.cons_append, List.nil_append] at this ⊢
    exact this
  obtain ⟨⟨_, _, ez, r1, _, _, ez2, r2, ez3⟩, Wn⟩ := W3.ends (hl2.trans hσ.symm) ht (ds := [d1, d2]) (by simp only [rds, e1, e2])
  cases ez
  cases ez2
  intro pins s σ' u1 u2 I q1 q2
  refine ho d1 d2 (.bl d) (by show (g d1 d2).map D.bl = _; rw [ed]; rfl) pins s σ' G2 H2 v1 v2 u1 u2 _ I W2.sub r1 r2 q1 q2 fun v G' H' gr out => ?_
  have out' : v = .bl d := out
  subst out'
  refine ⟨d, rfl, k d δ2 G' H' ?_ hl2 ((Wn (by omega)).grow gr)⟩
  have := hk d
  rw [← em'] at this
  exact this
/-- truth of data -/
def truD : D → Option Bool
  | .non => some false
  | .bl b => some b
  | .int i => some (i != 0)
  | .str x => if x.length ≤ sizeLine then some ((x.length : Int) != 0) else none
  | .lst xs => some (!xs.isEmpty)
  | .tup xs => some (!xs.isEmpty)
  | .dic xs => some (!xs.isEmpty)
  | .scr xs => some (!xs.isEmpty)
  | .exc _ _ => none
  | .obj _ _ => none
theorem Reps.emp {G : Hp} : ∀ {ds : List D} {vs : List V}, Reps K G ds vs → ds.isEmpty = vs.isEmpty
  | [], _, h => by rw [show _ = [] from h]; rfl
  | _ :: _, _, h => by obtain ⟨_, _, e, _⟩ := h; rw [e]; rfl
theorem RepKs.emp {G : Hp} : ∀ {ds : List (Key × D)} {vs : List (Key × V)}, RepKs K G ds vs → ds.isEmpty = vs.isEmpty
  | [], _, h => by rw [show _ = [] from h]; rfl
  | (_, _) :: _, _, h => by obtain ⟨_, _, e, _⟩ := h; rw [e]; rfl
theorem tru_v {G H : Hp} : ∀ {d : D} {v : V} {b : Bool}, truD d = some b → VRep K G H d v → TruV K v H b
  | .non, v, b, h, r => by
    have r' : v = .non := r
    subst r'; cases h; rfl
  | .bl c, v, b, h, r => by
    have r' : v = .bl c := r
    subst r'; cases h; rfl
  | .int c, v, b, h, r => by
    have r' : v = .int c := r
    subst r'; cases h; rfl
  | .str c, v, b, h, r => by
    have r' : v = .str c := r
    subst r'
    have h' : (if c.length ≤ sizeLine then some ((c.length : Int) != 0) else none) = some b := h
    by_cases hz : c.length ≤ sizeLine
    · rw [if_pos hz] at h'
      cases h'; exact ⟨hz, rfl⟩
    · rw [if_neg hz] at h'
      cases h'
  | .lst xs, v, b, h, r => by
    obtain ⟨a, vs, e, q, r'⟩ := r
    subst e
    cases h
    exact .inl ⟨vs, SqL.of q, by rw [r'.emp]⟩
  | .exc _ _, _, _, h, _ => by cases h
  | .obj _ _, _, _, h, _ => by cases h
  | .scr xs, v, b, h, r => by
    obtain ⟨a, e, q⟩ := r
    subst e
    cases h
    exact .inl ⟨_, q, by cases xs <;> rfl⟩
  | .tup xs, v, b, h, r => by
    obtain ⟨a, vs, e, q, r'⟩ := r
    subst e
    cases h
    exact .inr (.inl ⟨vs, q, by rw [r'.emp]⟩)
  | .dic xs, v, b, h, r => by
    obtain ⟨a, vs, e, q, r'⟩ := r
    subst e
    cases h
    exact .inr (.inr ⟨vs, q, by rw [r'.emp]⟩)
theorem jt_tru {C : Bool → List Slot → Res R → Prop} {e : Expr}
    (h : JE X en δ τ e (fun s1 δ1 m1 => ∃ d k, s1.rd δ1 = some d ∧ m1 = op (truD d) k ∧ ∀ b, C b δ1 (k b)) m) (he : ∀ whole, isTrue e X.env whole = (do let v ← whole; standAt e.pos; holding [v] (truthy v)) := by intro _; rfl) : JT X en δ τ e C m := .mk fun hb hx σ ts G H T hl hσ W k => by
  refine wt_of (pt_truth pe_we he) ?_
  have ht : τ.length = ts.length := W.splitLen (hl.trans hσ.symm)
  refine h.run hb hx σ ts G H _ hl hσ W fun s1 δ1 v1 G1 H1 c1 hl1 W1 => ?_
  obtain ⟨d, k', e1, em, hk⟩ := c1
  have hb' := hb
  rw [em] at hb'
  obtain ⟨b, eb⟩ := op_some hb'
  have em' : m = k' b := by rw [em, eb]; rfl
  obtain ⟨⟨_, _, ez, r1, _⟩, Wn⟩ := Wd.ends (sls := [s1]) (vs := [v1]) W1 (hl1.trans hσ.symm) ht (ds := [d]) (by simp only [rds, e1])
  cases ez
  refine ⟨b, tru_v eb r1, k b δ1 G1 H1 ?_ hl1 (Wn (by omega))⟩
  have := hk b
  rw [← em'] at this
  exact this
/-- one whose slot tells that it is True or False -/
theorem jt_bl {C : Bool → List Slot → Res R → Prop} {e : Expr}
    (h : JE X en δ τ e (fun s1 δ1 m1 => ∃ b, s1 = .fr (.bl b) ∧ C b δ1 m1) m) (he : ∀ whole, isTrue e X.env whole = (do let v ← whole; standAt e.pos; holding [v] (truthy v)) := by intro _; rfl) : JT X en δ τ e C m := jt_of (pt_truth pe_we he) h

/-! ### and, or, not as tests -/
abbrev WW (X : Cx) (e : Expr) : TT := fun σ H Q => ∀ (whole : Sem Value) (pins : List (Addr × Obj)) (s : Shared), Inv X pins σ H s → wpAny (model X.prog X.w) X.A (isTrue e X.env whole) (TP X pins σ Q) X.xe s
theorem pw_ww {e : Expr} : PW X e (WW X e) := ⟨fun wh pins s _ _ _ I h => h wh pins s I⟩
structure JW (X : Cx) (en : Kn) (δ τ : List Slot) (e : Expr) {R : Type} (C : Bool → List Slot → Res R → Prop) (m : Res R) : Prop where
  run : m ≠ .bad → en.HX m.exc → ∀ (σ ts : L2.St) (G H : Hp) (T : Bool → Hp → Prop), δ.length = en.n → σ.length = en.n → Wd X.K en (δ ++ τ) (σ ++ ts) G H →
    (∀ b δ' G' H', C b δ' m → δ'.length = en.n → Wd X.K en (δ' ++ τ) (σ ++ ts) G' H' → T b H') → WW X e σ H T
section
variable {C : Bool → List Slot → Res R → Prop} {a b : Expr} {rest : List Expr} {pos : Pos}
theorem jt_w {e : Expr} (h : JW X en δ τ e C m) : JT X en δ τ e C m := .mk fun hb hx σ ts G H T hl hσ W k pins s I => h.run hb hx σ ts G H T hl hσ W k _ pins s I
theorem ww_of {e : Expr} {t : TT} (h : PW X e t) {σ : L2.St} {H : Hp} {Q : Bool → Hp → Prop} (q : t σ H Q) : WW X e σ H Q := fun wh pins s I => h.run wh pins s σ H Q I q
theorem jw_and1 (h : JT X en δ τ a C m) : JW X en δ τ (.BoolOp .And [a] pos) C m := .mk fun hb hx σ ts G H T hl hσ W k => ww_of (pw_and1 pt_wt) (h.run hb hx σ ts G H T hl hσ W k)
theorem jw_or1 (h : JT X en δ τ a C m) : JW X en δ τ (.BoolOp .Or [a] pos) C m := .mk fun hb hx σ ts G H T hl hσ W k => ww_of (pw_or1 pt_wt) (h.run hb hx σ ts G H T hl hσ W k)
theorem jw_and (h : JT X en δ τ a (fun c δ1 m1 => ∃ mB mF, m1 = (if c = true then mB else mF) ∧ JW X en δ1 τ (.BoolOp .And (b :: rest) pos) C mB ∧ C false δ1 mF) m) : JW X en δ τ (.BoolOp .And (a :: b :: rest) pos) C m := .mk fun hb hx σ ts G H T hl hσ W k => by
  refine ww_of (pw_and pt_wt pw_ww) ?_
  refine h.run hb hx σ ts G H _ hl hσ W fun c δ1 G1 H1 c1 hl1 W1 => ?_
  obtain ⟨mB, mF, em, h1, h2⟩ := c1
  cases c with
  | true =>
    have e : m = mB := em
    subst e
    exact h1.run hb hx σ ts G1 H1 T hl1 hσ W1 k
  | false =>
    have e : m = mF := em
    subst e
    exact k false δ1 G1 H1 h2 hl1 W1
theorem jw_or (h : JT X en δ τ a (fun c δ1 m1 => ∃ mT mB, m1 = (if c = true then mT else mB) ∧ C true δ1 mT ∧ JW X en δ1 τ (.BoolOp .Or (b :: rest) pos) C mB) m) : JW X en δ τ (.BoolOp .Or (a :: b :: rest) pos) C m := .mk fun hb hx σ ts G H T hl hσ W k => by
  refine ww_of (pw_or pt_wt pw_ww) ?_
  refine h.run hb hx σ ts G H _ hl hσ W fun c δ1 G1 H1 c1 hl1 W1 => ?_
  obtain ⟨mT, mB, em, h1, h2⟩ := c1
  cases c with
  | true =>
    have e : m = mT := em
    subst e
    exact k true δ1 G1 H1 h1 hl1 W1
  | false =>
    have e : m = mB := em
    subst e
    exact h2.run hb hx σ ts G1 H1 T hl1 hσ W1 k
theorem jt_not (h : JT X en δ τ a (fun c δ1 m1 => C (!c) δ1 m1) m) : JT X en δ τ (.UnaryOp .Not a pos) C m := .mk fun hb hx σ ts G H T hl hσ W k =>
  wt_of (pt_not pt_wt) (h.run hb hx σ ts G H (fun c H1 => T (!c) H1) hl hσ W fun c δ1 G1 H1 c1 hl1 W1 => k (!c) δ1 G1 H1 c1 hl1 W1)
end

/-! ### .. as values -/
/-- a slot's truth value, where it is one -/
def asB : D → Option Bool
  | .bl b => some b
  | _ => none
theorem VRep.asB {G H : Hp} {d : D} {v : V} {b : Bool} (h : asB d = some b) (r : VRep K G H d v) : v = .bl b := by
  cases d <;> first | cases h | skip
  exact r
section
variable {a b : Expr} {rest : List Expr} {pos : Pos}
theorem je_one {o} (h : JE X en δ τ a C m) : JE X en δ τ (.BoolOp o [a] pos) C m := .mk fun hb hx σ ts G H T hl hσ W k => we_of (pe_one pe_we) (h.run hb hx σ ts G H T hl hσ W k)
theorem je_and (h : JE X en δ τ a (fun s1 δ1 m1 => ∃ d k, s1.rd δ1 = some d ∧ m1 = op (asB d) k ∧ ∀ c, ∃ mB mF, k c = (if c = true then mB else mF) ∧ JE X en δ1 τ (.BoolOp .And (b :: rest) pos) C mB ∧ C (.fr (.bl false)) δ1 mF) m) : JE X en δ τ (.BoolOp .And (a :: b :: rest) pos) C m := .mk fun hb hx σ ts G H T hl hσ W k => by
  refine we_of (pe_and pe_we pe_we) ?_
  have ht : τ.length = ts.length := W.splitLen (hl.trans hσ.symm)
  refine h.run hb hx σ ts G H _ hl hσ W fun s1 δ1 v1 G1 H1 c1 hl1 W1 => ?_
  obtain ⟨d, k', e1, em, hk⟩ := c1
  have hb' := hb
  rw [em] at hb'
  obtain ⟨c, ec⟩ := op_some hb'
  have em' : m = k' c := by rw [em, ec]; rfl
  obtain ⟨⟨_, _, ez, r1, _⟩, Wn⟩ := Wd.ends (sls := [s1]) (vs := [v1]) W1 (hl1.trans hσ.symm) ht (ds := [d]) (by simp only [rds, e1])
  cases ez
  have ev := VRep.asB ec r1
  subst ev
  refine ⟨c, rfl, ?_⟩
  obtain ⟨mB, mF, ek, h1, h2⟩ := hk c
  have em2 := em'.trans ek
  cases c with
  | true =>
    have e : m = mB := em2
    subst e
    exact h1.run hb hx σ ts G1 H1 T hl1 hσ (Wn (by omega)) k
  | false =>
    have e : m = mF := em2
    subst e
    exact k _ δ1 _ G1 H1 h2 hl1 ((Wn (by omega)).out (Grow.refl W1.sub) (show Rep _ _ _ _ from rfl))
theorem je_or (h : JE X en δ τ a (fun s1 δ1 m1 => ∃ d k, s1.rd δ1 = some d ∧ m1 = op (asB d) k ∧ ∀ c, ∃ mT mB, k c = (if c = true then mT else mB) ∧ C (.fr (.bl true)) δ1 mT ∧ JE X en δ1 τ (.BoolOp .Or (b :: rest) pos) C mB) m) : JE X en δ τ (.BoolOp .Or (a :: b :: rest) pos) C m := .mk fun hb hx σ ts G H T hl hσ W k => by
  refine we_of (pe_or pe_we pe_we) ?_
  have ht : τ.length = ts.length := W.splitLen (hl.trans hσ.symm)
  refine h.run hb hx σ ts G H _ hl hσ W fun s1 δ1 v1 G1 H1 c1 hl1 W1 => ?_
  obtain ⟨d, k', e1, em, hk⟩ := c1
  have hb' := hb
  rw [em] at hb'
  obtain ⟨c, ec⟩ := op_some hb'
  have em' : m = k' c := by rw [em, ec]; rfl
  obtain ⟨⟨_, _, ez, r1, _⟩, Wn⟩ := Wd.ends (sls := [s1]) (vs := [v1]) W1 (hl1.trans hσ.symm) ht (ds := [d]) (by simp only [rds, e1])
  cases ez
  have ev := VRep.asB ec r1
  subst ev
  refine ⟨c, rfl, ?_⟩
  obtain ⟨mT, mB, ek, h1, h2⟩ := hk c
  have em2 := em'.trans ek
  cases c with
  | true =>
    have e : m = mT := em2
    subst e
    exact k _ δ1 _ G1 H1 h1 hl1 ((Wn (by omega)).out (Grow.refl W1.sub) (show Rep _ _ _ _ from rfl))
  | false =>
    have e : m = mB := em2
    subst e
    exact h2.run hb hx σ ts G1 H1 T hl1 hσ (Wn (by omega)) k
theorem je_not (h : JE X en δ τ a (fun s1 δ1 m1 => ∃ d k, s1.rd δ1 = some d ∧ m1 = op (asB d) k ∧ ∀ c, C (.fr (.bl (!c))) δ1 (k c)) m) : JE X en δ τ (.UnaryOp .Not a pos) C m := .mk fun hb hx σ ts G H T hl hσ W k => by
  refine we_of (pe_not pe_we) ?_
  have ht : τ.length = ts.length := W.splitLen (hl.trans hσ.symm)
  refine h.run hb hx σ ts G H _ hl hσ W fun s1 δ1 v1 G1 H1 c1 hl1 W1 => ?_
  obtain ⟨d, k', e1, em, hk⟩ := c1
  have hb' := hb
  rw [em] at hb'
  obtain ⟨c, ec⟩ := op_some hb'
  have em' : m = k' c := by rw [em, ec]; rfl
  obtain ⟨⟨_, _, ez, r1, _⟩, Wn⟩ := Wd.ends (sls := [s1]) (vs := [v1]) W1 (hl1.trans hσ.symm) ht (ds := [d]) (by simp only [rds, e1])
  cases ez
  have ev := VRep.asB ec r1
  subst ev
  refine ⟨c, rfl, k (.fr (.bl (!c))) δ1 (.bl (!c)) G1 H1 ?_ hl1 ((Wn (by omega)).out (Grow.refl W1.sub) (show Out X.K G1 H1 G1 H1 (.fr (.bl (!c))) (.bl (!c)) from rfl))⟩
  have := hk c
  rw [← em'] at this
  exact this
theorem je_if {c : Expr} (h : JT X en δ τ c (fun t δ1 m1 => ∃ mA mB, m1 = (if t = true then mA else mB) ∧ JE X en δ1 τ a C mA ∧ JE X en δ1 τ b C mB) m) : JE X en δ τ (.IfExp c a b pos) C m := .mk fun hb hx σ ts G H T hl hσ W k => by
  refine we_of (pe_ifExp pt_wt pe_we pe_we) ?_
  refine h.run hb hx σ ts G H _ hl hσ W fun t δ1 G1 H1 c1 hl1 W1 => ?_
  obtain ⟨mA, mB, em, h1, h2⟩ := c1
  cases t with
  | true =>
    have e : m = mA := em
    subst e
    exact iteT (h1.run hb hx σ ts G1 H1 T hl1 hσ W1 k)
  | false =>
    have e : m = mB := em
    subst e
    exact iteF (h2.run hb hx σ ts G1 H1 T hl1 hσ W1 k)
end

/-! ### joins -/
theorem bind_exc {α : Type} {m1 : Res α} {k : α → Res R} (hb : m1.bind k ≠ .bad) (hx : en.HX (m1.bind k).exc) : m1 ≠ .bad ∧ en.HX m1.exc := by
  match m1, hb, hx with
  | .ok a, _, _ => exact ⟨(fun h => nomatch h), en.h0⟩
  | .raise x, _, hx => exact ⟨(fun h => nomatch h), hx⟩
  | .bad, hb, _ => exact (hb rfl).elim
theorem je_join {α : Type} {e : Expr} (ps : α → Slot) (pe : α → List Slot) {m1 : Res α} {k : α → Res R} (h : JE X en δ τ e (fun sl δ' m' => ∃ a, m' = .ok a ∧ sl = ps a ∧ δ' = pe a) m1) (hk : ∀ a, C (ps a) (pe a) (k a)) : JE X en δ τ e C (m1.bind k) := .mk fun hb hx σ ts G H T hl hσ W q => by
  obtain ⟨hb1, hx1⟩ := bind_exc hb hx
  refine h.run hb1 hx1 σ ts G H T hl hσ W fun sl δ' v G' H' c hl' W' => ?_
  obtain ⟨a, e1, e2, e3⟩ := c
  subst e1 e2 e3
  exact q _ _ v G' H' (hk a) hl' W'
theorem jt_join {α : Type} {C : Bool → List Slot → Res R → Prop} {e : Expr} (ps : α → Bool) (pe : α → List Slot) {m1 : Res α} {k : α → Res R} (h : JT X en δ τ e (fun sl δ' m' => ∃ a, m' = .ok a ∧ sl = ps a ∧ δ' = pe a) m1) (hk : ∀ a, C (ps a) (pe a) (k a)) : JT X en δ τ e C (m1.bind k) := .mk fun hb hx σ ts G H T hl hσ W q => by
  obtain ⟨hb1, hx1⟩ := bind_exc hb hx
  refine h.run hb1 hx1 σ ts G H T hl hσ W fun sl δ' G' H' c hl' W' => ?_
  obtain ⟨a, e1, e2, e3⟩ := c
  subst e1 e2 e3
  exact q _ _ G' H' (hk a) hl' W'
end
end BR

/-! K5: targets, statements, loops -/
namespace BR
open PySem PySem.Spec PyProof.Rows L2

/-- the second tells no more than the first -/
def Le : List Slot → List Slot → Prop
  | [], [] => True
  | a :: r, b :: q => (b = .un ∨ a = b) ∧ Le r q
  | _, _ => False
theorem Le.len : ∀ {a b : List Slot}, Le a b → a.length = b.length
  | [], [], _ => rfl
  | _ :: _, _ :: _, h => by rw [List.length_cons, List.length_cons, Le.len h.2]
  | [], _ :: _, h => h.elim
  | _ :: _, [], h => h.elim
theorem Le.get : ∀ {a b : List Slot} {i : Nat} {s : Slot}, Le a b → b[i]? = some s → s = .un ∨ a[i]? = some s
  | [], [], i, s, _, h => by simp at h
  | x :: _, y :: _, 0, s, h, e => by
    have e' : y = s := by simpa using e
    subst e'
    rcases h.1 with z | z
    · exact .inl z
    · subst z; exact .inr rfl
  | _ :: _, _ :: _, i + 1, s, h, e => by
    have := Le.get (i := i) (s := s) h.2 (by simpa using e)
    simpa using this
  | [], _ :: _, _, _, h, _ => h.elim
  | _ :: _, [], _, _, h, _ => h.elim
theorem Le.refl : ∀ a : List Slot, Le a a
  | [] => trivial
  | _ :: r => ⟨.inr rfl, Le.refl r⟩
theorem Wd.le {K : PySem.W.Frag} {en : Kn} {δ δ' : List Slot} {S : L2.St} {G H : Hp} (W : Wd K en δ S G H) (h : Le δ δ') : Wd K en δ' S G H where
  len := h.len.symm.trans W.len
  sub := W.sub
  ext := W.ext
  new := W.new
  frm := W.frm
  stay := W.stay
  nd := W.nd
  slot := fun i sl o h1 h2 => by
    rcases h.get h1 with z | z
    · subst z; trivial
    · exact W.slot i sl o z h2
  apart := fun i j p h1 h2 => by
    have key : ∀ (i : Nat), Own δ' S i p → Own δ S i p := fun i ⟨sl, e1, e2, e3⟩ => by
      rcases h.get e1 with z | z
      · subst z; cases e2
      · exact ⟨sl, z, e2, e3⟩
    exact W.apart i j p (key i h1) (key j h2)

def noBo : List Slot → Bool
  | [] => true
  | .bo _ :: _ => false
  | _ :: r => noBo r
theorem noBo_get : ∀ {δ : List Slot} {i j : Nat}, noBo δ = true → δ[i]? ≠ some (.bo j)
  | [], i, j, _ => by simp
  | .bo _ :: _, _, _, h => nomatch h
  | .un :: r, 0, j, h => by simp
  | .fr _ :: r, 0, j, h => by simp
  | .mu _ :: r, 0, j, h => by simp
  | .mp _ _ :: r, 0, j, h => by simp
  | .bw _ :: r, 0, j, h => by simp
  | .un :: r, i + 1, j, h => by simpa using noBo_get (δ := r) (i := i) (j := j) h
  | .fr _ :: r, i + 1, j, h => by simpa using noBo_get (δ := r) (i := i) (j := j) h
  | .mu _ :: r, i + 1, j, h => by simpa using noBo_get (δ := r) (i := i) (j := j) h
  | .mp _ _ :: r, i + 1, j, h => by simpa using noBo_get (δ := r) (i := i) (j := j) h
  | .bw _ :: r, i + 1, j, h => by simpa using noBo_get (δ := r) (i := i) (j := j) h
/-- what a name may be given -/
def Slot.may : Slot → Bool
  | .fr _ => true
  | .mu _ => true
  | .bw _ => true
  | _ => false
section
variable {X : Cx} {en : Kn} {δ : List Slot} {R : Type} {m : Res R} {K : PySem.W.Frag}
/-- a name is given the last thing at hand -/
theorem Wd.give {s : Slot} {v : V} {σ : L2.St} {G H : Hp} (W : Wd K en (δ ++ [s]) (σ ++ [some v]) G H) (hl : δ.length = σ.length) (hb : noBo δ = true) (hs : s.may = true) (i : Nat) : Wd K en (δ.set i s) (σ.set i (some v)) G H := by
  have last := W.last
  have get1 : ∀ (j : Nat) sl o, (δ.set i s)[j]? = some sl → (σ.set i (some v))[j]? = some o → (j = i ∧ sl = s ∧ o = some v) ∨ (j ≠ i ∧ δ[j]? = some sl ∧ σ[j]? = some o) := fun j sl o h1 h2 => by
    by_cases hj : j = i
    · subst hj
      have hi : j < δ.length := by
        have := (List.getElem?_eq_some_iff.mp h1).1
        rw [List.length_set] at this; exact this
      rw [List.getElem?_set_self hi] at h1
      rw [List.getElem?_set_self (by omega)] at h2
      exact .inl ⟨rfl, (Option.some.inj h1).symm, (Option.some.inj h2).symm⟩
    · rw [List.getElem?_set_ne (Ne.symm hj)] at h1 h2
      exact .inr ⟨hj, h1, h2⟩
  have up : ∀ (j : Nat) sl o, δ[j]? = some sl → σ[j]? = some o → (δ ++ [s])[j]? = some sl ∧ (σ ++ [some v])[j]? = some o := fun j sl o h1 h2 =>
    ⟨by rw [List.getElem?_append_left (List.getElem?_eq_some_iff.mp h1).1]; exact h1, by rw [List.getElem?_append_left (List.getElem?_eq_some_iff.mp h2).1]; exact h2⟩
  refine ⟨by rw [List.length_set, List.length_set]; exact hl, W.sub, W.ext, W.new, W.frm, W.stay, W.nd, fun j sl o h1 h2 => ?_, fun j j' p h1 h2 => ?_⟩
  · rcases get1 j sl o h1 h2 with ⟨e1, e2, e3⟩ | ⟨hj, h3, h4⟩
    · subst e2 e3
      cases sl with
      | un => trivial
      | fr d => exact last
      | mu d => exact last
      | mp _ d => cases hs
      | bw d => exact last
      | bo _ => cases hs
    · obtain ⟨h5, h6⟩ := up j sl o h3 h4
      have q := W.slot j sl o h5 h6
      cases sl with
      | un => trivial
      | fr d => exact q
      | mu d => exact q
      | mp _ d => exact q
      | bw d => exact q
      | bo l => exact (noBo_get hb h3).elim
  · have key : ∀ (j : Nat), Own (δ.set i s) (σ.set i (some v)) j p → (j = i ∧ Own (δ ++ [s]) (σ ++ [some v]) δ.length p) ∨ (j ≠ i ∧ j < δ.length ∧ Own (δ ++ [s]) (σ ++ [some v]) j p) := fun j ⟨sl, e1, e2, e3⟩ => by
      rcases get1 j _ _ e1 e3 with ⟨f1, f2, f3⟩ | ⟨hj, f2, f3⟩
      · subst f2
        exact .inl ⟨f1, sl, getElem?_last, e2, by rw [hl, ← f3]; exact getElem?_last⟩
      · obtain ⟨u1, u2⟩ := up j _ _ f2 f3
        exact .inr ⟨hj, (List.getElem?_eq_some_iff.mp f2).1, sl, u1, e2, u2⟩
    rcases key j h1 with ⟨e1, q1⟩ | ⟨e1, l1, q1⟩ <;> rcases key j' h2 with ⟨e2, q2⟩ | ⟨e2, l2, q2⟩
    · rw [e1, e2]
    · have := W.apart _ _ p q1 q2
      omega
    · have := W.apart _ _ p q1 q2
      omega
    · exact W.apart _ _ p q1 q2

/-! ### targets -/
/-- changed at these places alone -/
def Only (is : List Nat) (σ σ' : L2.St) : Prop := ∀ j : Nat, j ∉ is → σ'[j]? = σ[j]?
/-- a target given a thing that stands fast; is: the places of the names -/
structure JG (X : Cx) (en : Kn) (δ τ : List Slot) (tg : Expr) (d : D) (is : List Nat) {R : Type} (N : List Slot → Res R → Prop) (m : Res R) : Prop where
  run : m ≠ .bad → en.HX m.exc → ∀ (σ ts : L2.St) (G H : Hp) (v : V) (T : L2.St → Hp → Prop), δ.length = en.n → σ.length = en.n → Wd X.K en (δ ++ τ) (σ ++ ts) G H → Rep X.K G d v →
    (∀ δ' σ' G' H', N δ' m → δ'.length = en.n → σ'.length = en.n → Wd X.K en (δ' ++ τ) (σ' ++ ts) G' H' → Sub G G' → Only is σ σ' → T σ' H') → WG X tg v σ H T
structure JGs (X : Cx) (en : Kn) (δ τ : List Slot) (tgs : List Expr) (ds : List D) (is : List Nat) {R : Type} (N : List Slot → Res R → Prop) (m : Res R) : Prop where
  run : m ≠ .bad → en.HX m.exc → ∀ (σ ts : L2.St) (G H : Hp) (vs : List V) (T : L2.St → Hp → Prop), δ.length = en.n → σ.length = en.n → Wd X.K en (δ ++ τ) (σ ++ ts) G H → Reps X.K G ds vs →
    (∀ δ' σ' G' H', N δ' m → δ'.length = en.n → σ'.length = en.n → Wd X.K en (δ' ++ τ) (σ' ++ ts) G' H' → Sub G G' → Only is σ σ' → T σ' H') →
    ∀ (pins : List (Addr × Obj)) (s : Shared) (us : List Value), Inv X pins σ H s → Vals vs us → wpAny (model X.prog X.w) X.A (assignInOrder ((assignEach tgs X.env).map (·.2)) us) (fun _ s' => ∃ σ' H', Inv X pins σ' H' s' ∧ T σ' H') X.xe s
theorem wg_of {tg : Expr} {t : TG} (h : PG X tg t) {v : V} {σ : L2.St} {H : Hp} {Q : L2.St → Hp → Prop} (q : t v σ H Q) : WG X tg v σ H Q := fun pins s u I r => h.run pins s σ H v u Q I r q
section
variable {N : List Slot → Res R → Prop} {τ : List Slot}
theorem jg_name (i : Nat) {x : Str} {pos : Pos} {d : D} (δ' : List Slot) (hN : X.N.Nodup) (h : N δ' m) (he : δ.set i (.fr d) = δ' := by rfl) (hb : noBo (δ ++ τ) = true := by rfl) (hi : X.N[i]? = some x := by rfl) (hil : (i + 1).ble δ.length = true := by rfl) (hx : Loc X.env.scope x := by first | exact Or.inl rfl | exact Or.inr rfl)
    (hf : X.fn x = true ∨ X.env.scope.names.lookup x = some .local := by first | exact .inl rfl | exact .inr rfl) : JG X en δ τ (.Name x pos) d [i] N m := .mk fun hb' hx' σ ts G H v T hl hσ W r k => by
  subst he
  have hi' : i < δ.length := Nat.le_of_ble_eq_true hil
  have W2 := (W.out (sl := .fr d) (v := v) (Grow.refl W.sub) r).give W.len hb rfl i
  rw [List.set_append_left _ _ hi', List.set_append_left _ _ (by omega)] at W2
  exact wg_of (pg_name hN hi hx hf) (k _ _ G H h (by rw [List.length_set]; exact hl) (by rw [List.length_set]; exact hσ) W2 (Sub.refl _) fun j hj => List.getElem?_set_ne fun e => hj (by rw [e]; exact List.mem_cons_self))
theorem jgs_nil (h : N δ m) : JGs X en δ τ [] [] [] N m := .mk fun hb hx σ ts G H vs T hl hσ W r k pins s us I rv => by
  rw [show vs = [] from r] at rv
  cases rv
  exact assignInOrder_nil ⟨σ, H, I, k δ σ G H h hl hσ W (Sub.refl _) fun _ _ => rfl⟩
theorem jgs_cons {e : Expr} {es : List Expr} {d : D} {ds : List D} {is js : List Nat} (h : JG X en δ τ e d is (fun δ1 m1 => JGs X en δ1 τ es ds js N m1) m)
    (hs : (assignEach (e :: es) X.env).map (·.2) = assign e X.env :: (assignEach es X.env).map (·.2) := by rfl) : JGs X en δ τ (e :: es) (d :: ds) (is ++ js) N m := .mk fun hb hx σ ts G H vs T hl hσ W r k pins s us I rv => by
  obtain ⟨v, vr, e1, r1, r2⟩ := r
  subst e1
  cases rv with
  | cons q qq =>
    rw [hs]
    refine assignInOrder_cons (thn ((h.run hb hx σ ts G H v (fun σ1 H1 => ∃ δ1 G1, JGs X en δ1 τ es ds js N m ∧ δ1.length = en.n ∧ σ1.length = en.n ∧ Wd X.K en (δ1 ++ τ) (σ1 ++ ts) G1 H1 ∧ Sub G G1 ∧ Only is σ σ1) hl hσ W r1 fun δ1 σ1 G1 H1 c hl1 hσ1 W1 sb on => ⟨δ1, G1, c, hl1, hσ1, W1, sb, on⟩) pins s _ I q) fun _ s1 ⟨σ1, H1, I1, δ1, G1, c, hl1, hσ1, W1, sb, on⟩ => ?_)
    exact c.run hb hx σ1 ts G1 H1 vr T hl1 hσ1 W1 (Reps.sub sb _ _ r2) (fun δ' σ' G' H' c' hl' hσ' W' sb' on' => k δ' σ' G' H' c' hl' hσ' W' (sb.trans sb') fun j hj => (on' j fun z => hj (List.mem_append_right _ z)).trans (on j fun z => hj (List.mem_append_left _ z))) pins s1 _ I1 qq
/-- (a, b, ..) -/
def unp (n : Nat) : D → Option (List D)
  | .tup ds => if ds.length = n then some ds else none
  | _ => none
theorem unp_some {n : Nat} : ∀ {d : D} {ds : List D}, unp n d = some ds → ∃ ds', d = .tup ds' ∧ ds'.length = n ∧ ds' = ds
  | .tup ds', ds, h => by
    have h' : (if ds'.length = n then some ds' else none) = some ds := h
    by_cases hn : ds'.length = n
    · rw [if_pos hn] at h'
      exact ⟨ds', rfl, hn, Option.some.inj h'⟩
    · rw [if_neg hn] at h'; cases h'
  | .non, _, h => nomatch h
  | .bl _, _, h => nomatch h
  | .int _, _, h => nomatch h
  | .str _, _, h => nomatch h
  | .lst _, _, h => nomatch h
  | .dic _, _, h => nomatch h
  | .scr _, _, h => nomatch h
  | .exc _ _, _, h => nomatch h
  | .obj _ _, _, h => nomatch h
theorem jg_tup {es : List Expr} {k : Nat} {pos : Pos} {d : D} {n : Nat} {is : List Nat} (hc : X.calm = true) (h : ∃ k', m = op (unp n d) k' ∧ ∀ ds, ds.length = n → JGs X en δ τ es ds is N (k' ds))
    (hn : (assignEach es X.env).length = n := by rfl) (hst : (assignEach es X.env).findIdx? (·.1) = none := by rfl) : JG X en δ τ (.Tuple es k pos) d is N m := .mk fun hb hx σ ts G H v T hl hσ W r q => by
  obtain ⟨k', em, hk⟩ := h
  have hb' := hb
  rw [em] at hb'
  obtain ⟨ds, ed⟩ := op_some hb'
  have em' : m = k' ds := by rw [em, ed]; rfl
  obtain ⟨ds', e0, hlen, e1⟩ := unp_some ed
  subst e0 e1
  have hk2 := hk _ hlen
  rw [← em'] at hk2
  refine wg_of (pg_tup (t := fun vs σ H Q => ∀ (pins : List (Addr × Obj)) (s : Shared) (us : List Value), Inv X pins σ H s → Vals vs us → wpAny (model X.prog X.w) X.A (assignInOrder ((assignEach es X.env).map (·.2)) us) (fun _ s' => ∃ σ' H', Inv X pins σ' H' s' ∧ Q σ' H') X.xe s)
    hc ⟨fun pins s σ H vs us Q I r h => h pins s us I r⟩ hn hst) ?_
  obtain ⟨a, vs, e1, q1, r1⟩ := r
  subst e1
  exact ⟨a, vs, rfl, SqT.sub W.sub q1, by rw [← r1.length]; exact hlen, hk2.run hb hx σ ts G H vs T hl hσ W r1 q⟩
end

/-! ### statements -/
section
variable {N : List Slot → Res R → Prop} {RT : Slot → List Slot → Res R → Prop} {BK CT : List Slot → Res R → Prop} {pos : Pos}
theorem Wd.one {s : Slot} {v : V} {σ : L2.St} {G H : Hp} (W : Wd K en (δ ++ [s]) (σ ++ [some v]) G H) (hl : δ.length = en.n) (hσ : σ.length = en.n) : Wd K en δ σ G H := W.cut (hl.trans hσ.symm) (by omega)
theorem Wd.sl (W : Wd K en δ σ G H) (hl : δ.length = en.n) : List.length σ = en.n := W.len.symm.trans hl
/-- JE at a statement: nothing at hand -/
theorem JE.at {e : Expr} {C : Slot → List Slot → Res R → Prop} (h : JE X en δ [] e C m) (hb : m ≠ .bad) (hx : en.HX m.exc) {σ : L2.St} {G H : Hp} {T : VK} (hl : δ.length = en.n) (W : Wd X.K en δ σ G H)
    (k : ∀ sl δ' v G' H', C sl δ' m → δ'.length = en.n → Wd X.K en (δ' ++ [sl]) (σ ++ [some v]) G' H' → T v H') : WE X e σ H T :=
  h.run hb hx σ [] G H T hl (W.sl hl) (by rw [List.append_nil, List.append_nil]; exact W) fun sl δ' v G' H' c hl' W' => k sl δ' v G' H' c hl' (by rw [List.append_nil, List.append_nil] at W'; exact W')
theorem JT.at {e : Expr} {C : Bool → List Slot → Res R → Prop} (h : JT X en δ [] e C m) (hb : m ≠ .bad) (hx : en.HX m.exc) {σ : L2.St} {G H : Hp} {T : Bool → Hp → Prop} (hl : δ.length = en.n) (W : Wd X.K en δ σ G H)
    (k : ∀ b δ' G' H', C b δ' m → δ'.length = en.n → Wd X.K en δ' σ G' H' → T b H') : WT X e σ H T :=
  h.run hb hx σ [] G H T hl (W.sl hl) (by rw [List.append_nil, List.append_nil]; exact W) fun sl δ' G' H' c hl' W' => k sl δ' G' H' c hl' (by rw [List.append_nil, List.append_nil] at W'; exact W')
theorem jss_never {st : List Stmt} : JSs X en δ st N RT BK CT (.bad : Res R) := .mk fun hb => (hb rfl).elim
theorem jss_nil (h : N δ m) : JSs X en δ [] N RT BK CT m := .mk fun hb hx σ G H E hl W k1 k2 k3 k4 => wss_of pss_nil (k1 δ σ G H h hl W)
theorem jss_cons {st : Stmt} {rest : List Stmt} (h : JS X en δ st (fun δ1 m1 => JSs X en δ1 rest N RT BK CT m1) RT BK CT m) : JSs X en δ (st :: rest) N RT BK CT m := .mk fun hb hx σ G H E hl W k1 k2 k3 k4 =>
  wss_of (pss_cons ps_ws pss_wss) (h.run hb hx σ G H _ hl W (fun δ' σ' G' H' c hl' W' => c.run hb hx σ' G' H' E hl' W' k1 k2 k3 k4) k2 k3 k4)
theorem jss_one {st : Stmt} (h : JS X en δ st N RT BK CT m) : JSs X en δ [st] N RT BK CT m := .mk fun hb hx σ G H E hl W k1 k2 k3 k4 =>
  wss_of (pss_one ps_ws) (h.run hb hx σ G H E hl W k1 k2 k3 k4)
theorem js_expr {e : Expr} (h : JE X en δ [] e (fun s δ1 m1 => N δ1 m1) m) (hs : swapsWith e none pos.line X.env = pure false := by rfl) : JS X en δ (.Expr e pos) N RT BK CT m := .mk fun hb hx σ G H E hl W k1 k2 k3 k4 =>
  ws_of (ps_expr pe_we hs) (h.at hb hx hl W fun sl δ' v G' H' c hl' W' => k1 δ' σ G' H' c hl' (W'.one hl' (W.sl hl)))
/-- name = e -/
theorem js_set (i : Nat) {x : Str} {e : Expr} {pos' : Pos} (hN : X.N.Nodup) (h : JE X en δ [] e (fun s δ1 m1 => ∃ δ', δ1.set i s = δ' ∧ s.may = true ∧ noBo δ1 = true ∧ N δ' m1) m) (hi : X.N[i]? = some x := by rfl) (hx : Loc X.env.scope x := by first | exact Or.inl rfl | exact Or.inr rfl)
    (hs : swapsWith e (some (.Name x pos')) pos.line X.env = pure false := by rfl) (hf : X.fn x = true ∨ X.env.scope.names.lookup x = some .local := by first | exact .inl rfl | exact .inr rfl) : JS X en δ (.Assign [.Name x pos'] e pos) N RT BK CT m := .mk fun hb hx' σ G H E hl W k1 k2 k3 k4 =>
  ws_of (ps_set hN hi hx pe_we hs hf) (h.at hb hx' hl W fun sl δ1 v G' H' ⟨δ', e1, e2, e3, c⟩ hl' W' => by
    subst e1
    exact k1 _ _ G' H' c (by rw [List.length_set]; exact hl') (W'.give (hl'.trans (W.sl hl).symm) e3 e2 i))
theorem js_ret {e : Expr} (h : JE X en δ [] e (fun s δ1 m1 => RT s δ1 m1) m) : JS X en δ (.Return (some e) pos) N RT BK CT m := .mk fun hb hx' σ G H E hl W k1 k2 k3 k4 =>
  ws_of (ps_ret pe_we) (h.at hb hx' hl W fun sl δ1 v G' H' c hl' W' => k2 sl δ1 v σ G' H' c hl' W')
theorem js_if {c : Expr} {A B : List Stmt} (h : JT X en δ [] c (fun t δ1 m1 => ∃ mA mB, m1 = (if t = true then mA else mB) ∧ JSs X en δ1 A N RT BK CT mA ∧ JSs X en δ1 B N RT BK CT mB) m) : JS X en δ (.If c A B pos) N RT BK CT m := .mk fun hb hx' σ G H E hl W k1 k2 k3 k4 =>
  ws_of (ps_if pt_wt pss_wss pss_wss) (h.at hb hx' hl W fun t δ1 G1 H1 ⟨mA, mB, em, h1, h2⟩ hl1 W1 => by
    cases t with
    | true =>
      have e : m = mA := em
      subst e
      exact iteT (h1.run hb hx' σ G1 H1 E hl1 W1 k1 k2 k3 k4)
    | false =>
      have e : m = mB := em
      subst e
      exact iteF (h2.run hb hx' σ G1 H1 E hl1 W1 k1 k2 k3 k4))
/-- a statement whose ways come together: what follows it is said once -/
theorem js_join {S : Type} {st : Stmt} (pe : S → List Slot) {m1 : Res (Flow S R)} {k : S → Res R}
    (h : JS X en δ st (fun δ' m' => ∃ a, m' = .ok (.nx a) ∧ Le δ' (pe a)) (fun s δ' m' => ∃ r, m' = .ok (.ex r) ∧ RT s δ' (.ok r)) (fun δ' m' => ∃ r, m' = .ok (.ex r) ∧ BK δ' (.ok r)) (fun δ' m' => ∃ r, m' = .ok (.ex r) ∧ CT δ' (.ok r)) m1)
    (hk : ∀ a, N (pe a) (k a)) : JS X en δ st N RT BK CT (fbind m1 k) := .mk fun hb hx σ G H E hl W k1 k2 k3 k4 => by
  have hb1 : m1 ≠ .bad := fun z => by subst z; exact hb rfl
  have hx1 : en.HX m1.exc := by
    match m1, hx with
    | .ok _, _ => exact en.h0
    | .raise x, hx => exact hx
    | .bad, _ => exact en.h0
  refine h.run hb1 hx1 σ G H E hl W (fun δ' σ' G' H' ⟨a, e1, le⟩ hl' W' => ?_) (fun s δ' v σ' G' H' ⟨r, e1, c⟩ hl' W' => ?_) (fun δ' σ' G' H' ⟨r, e1, c⟩ hl' W' => ?_) (fun δ' σ' G' H' ⟨r, e1, c⟩ hl' W' => ?_)
  · subst e1
    exact k1 _ σ' G' H' (hk a) (le.len.symm.trans hl') (W'.le le)
  · subst e1
    exact k2 s δ' v σ' G' H' c hl' W'
  · subst e1
    exact k3 δ' σ' G' H' c hl' W'
  · subst e1
    exact k4 δ' σ' G' H' c hl' W'
/-- .. where nothing leaves within -/
theorem js_joinS {S : Type} {st : Stmt} (pe : S → List Slot) {m1 : Res S} {k : S → Res R}
    (h : JS X en δ st (fun δ' m' => ∃ a, m' = .ok a ∧ Le δ' (pe a)) (fun _ _ _ => False) (fun _ _ => False) (fun _ _ => False) m1)
    (hk : ∀ a, N (pe a) (k a)) : JS X en δ st N RT BK CT (m1.bind k) := .mk fun hb hx σ G H E hl W k1 k2 k3 k4 => by
  obtain ⟨hb1, hx1⟩ := bind_exc hb hx
  refine h.run hb1 hx1 σ G H E hl W (fun δ' σ' G' H' ⟨a, e1, le⟩ hl' W' => ?_) (fun s δ' v σ' G' H' c hl' W' => c.elim) (fun δ' σ' G' H' c hl' W' => c.elim) (fun δ' σ' G' H' c hl' W' => c.elim)
  subst e1
  exact k1 _ σ' G' H' (hk a) (le.len.symm.trans hl') (W'.le le)
end

/-! ### what is walked -/
def ItD (K : PySem.W.Frag) (J : It) (Gb Fb : Hp) (ds : List D) : Prop := ∀ (G H : Hp), Sub Gb G → Sub Fb H → Sub G H → ∀ i : Nat,
  (∀ d, ds[i]? = some d → J.go i H ∧ ∀ x H', J.yld i H x H' → ∃ G', Grow G H G' H' ∧ Rep K G' d x) ∧ (ds.length ≤ i → J.stop i H)
structure JI (X : Cx) (en : Kn) (δ τ : List Slot) (tg iter : Expr) {R : Type} (C : List D → List Slot → Res R → Prop) (m : Res R) : Prop where
  run : m ≠ .bad → en.HX m.exc → ∀ (σ ts : L2.St) (G H : Hp) (T : It → Hp → Prop), δ.length = en.n → σ.length = en.n → Wd X.K en (δ ++ τ) (σ ++ ts) G H →
    (∀ ds δ' J G' H', C ds δ' m → δ'.length = en.n → Wd X.K en (δ' ++ τ) (σ ++ ts) G' H' → ItD X.K J G' en.F0 ds → T J H') → WI X tg iter σ H T
/-- a list's or a tuple's items -/
def asL : D → Option (List D)
  | .lst ds => some ds
  | .tup ds => some ds
  | .scr ns => some (ns.map D.int)
  | _ => none
def Slot.stb : Slot → Option D
  | .fr d => some d
  | .bw d => some d
  | _ => none
def iAny (K : PySem.W.Frag) (tl : TE) : TI := fun σ H R => tl σ H fun x H1 => (∃ a, x = .ref a ∧ (∃ xs, SqL K H1 a xs) ∧ R (Itl K a) H1) ∨ ∃ a, x = .ref a ∧ (∃ xs, SqT K H1 a xs) ∧ R (Itt K a) H1
theorem pi_any {tg l : Expr} {tl : TE} (hl : PE X l tl) : PI X tg l (iAny X.K tl) := by
  refine ⟨fun pins s σ H R I h => ?_⟩
  refine thn (hl.run pins s σ H _ I h) fun v s1 ⟨x, H1, I1, r1, q1⟩ => ?_
  rcases q1 with ⟨a, e, ⟨xs, hq⟩, q⟩ | ⟨a, e, ⟨xs, hq⟩, q⟩
  · subst e
    cases r1
    obtain ⟨its, rv, p, hz⟩ := I1.list hq
    refine wpAny_pyIter_list p.isList ?_
    refine ⟨s1.heap.objs.size, [s1.heap.objs.size], _, _, H1, rfl, I1.kept (t' := s1.toks) fun b o e => Heap.get?_push_of_some _ e, turn_list a _, ⟨_, Heap.get?_push_size _ rfl, rfl, rfl⟩, fun b hb => ?_, q⟩
    have e : b = s1.heap.objs.size := by simpa using hb
    subst e
    exact I1.fpOk (Nat.le_refl _) (I1.hok.fresh (Nat.le_refl _))
  · subst e
    cases r1
    obtain ⟨its, rv, p, hz⟩ := I1.tuple hq
    refine wpAny_pyIter_tuple (show s1.heap.IsTuple a its.toArray from p) ?_
    refine ⟨s1.heap.objs.size, [s1.heap.objs.size], _, _, H1, rfl, I1.kept (t' := s1.toks) fun b o e => Heap.get?_push_of_some _ e, turn_tuple a _, ⟨_, Heap.get?_push_size _ rfl, rfl, rfl⟩, fun b hb => ?_, q⟩
    have e : b = s1.heap.objs.size := by simpa using hb
    subst e
    exact I1.fpOk (Nat.le_refl _) (I1.hok.fresh (Nat.le_refl _))
theorem itl_D {a : Addr} {vs : List V} {ds : List D} {Gb Fb : Hp} (h : ∀ H, Sub Fb H → Sub Gb H → SqL K H a vs) (r : Reps K Gb ds vs) : ItD K (Itl K a) Gb Fb ds := fun G H sg sf gh i => by
  have hq := h H sf (sg.trans gh)
  refine ⟨fun d e => ?_, fun hi => ⟨vs, hq, by rw [← r.length]; exact hi⟩⟩
  obtain ⟨x, h1, h2⟩ := r.get e
  refine ⟨⟨vs, x, hq, h1⟩, fun y H' hy => ?_⟩
  obtain ⟨e1, e2⟩ := hy
  subst e1
  have := e2 vs hq
  rw [h1] at this
  cases this
  exact ⟨G, Grow.refl gh, Rep.sub sg _ _ h2⟩
theorem itt_D {a : Addr} {vs : List V} {ds : List D} {Gb Fb : Hp} (h : ∀ H, Sub Fb H → Sub Gb H → SqT K H a vs) (r : Reps K Gb ds vs) : ItD K (Itt K a) Gb Fb ds := fun G H sg sf gh i => by
  have hq := h H sf (sg.trans gh)
  refine ⟨fun d e => ?_, fun hi => ⟨vs, hq, by rw [← r.length]; exact hi⟩⟩
  obtain ⟨x, h1, h2⟩ := r.get e
  refine ⟨⟨vs, x, hq, h1⟩, fun y H' hy => ?_⟩
  obtain ⟨e1, e2⟩ := hy
  subst e1
  have := e2 vs hq
  rw [h1] at this
  cases this
  exact ⟨G, Grow.refl gh, Rep.sub sg _ _ h2⟩
theorem ints_reps {G : Hp} : ∀ ns : List Int, Reps K G (ns.map D.int) (ns.map V.int)
  | [] => rfl
  | n :: ns => ⟨_, _, rfl, rfl, ints_reps ns⟩
/-- over a list or a tuple that isn't changed meanwhile -/
theorem ji_any {τ : List Slot} {tg e : Expr} {C : List D → List Slot → Res R → Prop} (h : JE X en δ τ e (fun s δ1 m1 => ∃ d k, s.stb = some d ∧ m1 = op (asL d) k ∧ ∀ ds, C ds δ1 (k ds)) m) : JI X en δ τ tg e C m := .mk fun hb hx σ ts G H T hl hσ W k => by
  refine wi_of (pi_any pe_we) ?_
  have ht : τ.length = ts.length := W.splitLen (hl.trans hσ.symm)
  refine h.run hb hx σ ts G H _ hl hσ W fun s δ1 v G1 H1 c1 hl1 W1 => ?_
  obtain ⟨d, k', e1, em, hk⟩ := c1
  have hb' := hb
  rw [em] at hb'
  obtain ⟨ds, ed⟩ := op_some hb'
  have em' : m = k' ds := by rw [em, ed]; rfl
  have hk2 := hk ds
  rw [← em'] at hk2
  have W2 := W1.cut (Δ := δ1 ++ τ) (S := σ ++ ts) (by rw [List.length_append, List.length_append]; omega) (by rw [List.length_append]; omega)
  have q := W1.last
  have key : ∀ d', VRep X.K G1 H1 d' v → d' = d → (∀ a vs, v = .ref a → SqL X.K H1 a vs → (∀ H, Sub en.F0 H → Sub G1 H → SqL X.K H a vs) ∨ True) → True := fun _ _ _ _ => trivial
  cases s with
  | un => cases e1
  | mu _ => cases e1
  | mp _ _ => cases e1
  | bo _ => cases e1
  | fr d' =>
    cases e1
    obtain ⟨u, eu, r⟩ := q
    cases eu
    cases d <;> first | cases ed | skip
    · obtain ⟨a, vs, e, q, r'⟩ := r
      subst e
      exact .inl ⟨a, rfl, ⟨vs, SqL.sub W2.sub (SqL.of q)⟩, k _ δ1 _ G1 H1 hk2 hl1 W2 (itl_D (fun H _ s => SqL.sub s (SqL.of q)) r')⟩
    · obtain ⟨a, vs, e, q, r'⟩ := r
      subst e
      exact .inr ⟨a, rfl, ⟨vs, SqT.sub W2.sub q⟩, k _ δ1 _ G1 H1 hk2 hl1 W2 (itt_D (fun H _ s => SqT.sub s q) r')⟩
    · obtain ⟨a, e, q⟩ := r
      subst e
      exact .inl ⟨a, rfl, ⟨_, SqL.sub W2.sub q⟩, k _ δ1 _ G1 H1 hk2 hl1 W2 (itl_D (fun H _ s => SqL.sub s q) (ints_reps _))⟩
  | bw d' =>
    cases e1
    obtain ⟨u, eu, ⟨M, hM, r⟩, _⟩ := q
    cases eu
    cases d <;> first | cases ed | skip
    · obtain ⟨a, vs, e, q, r'⟩ := r
      subst e
      exact .inl ⟨a, rfl, ⟨vs, SqL.sub (hM.sub W2.frm W2.sub) (SqL.of q)⟩, k _ δ1 _ G1 H1 hk2 hl1 W2 (itl_D (fun H s s2 => SqL.sub (hM.sub s s2) (SqL.of q)) r')⟩
    · obtain ⟨a, vs, e, q, r'⟩ := r
      subst e
      exact .inr ⟨a, rfl, ⟨vs, SqT.sub (hM.sub W2.frm W2.sub) q⟩, k _ δ1 _ G1 H1 hk2 hl1 W2 (itt_D (fun H s s2 => SqT.sub (hM.sub s s2) q) r')⟩
    · obtain ⟨a, e, q⟩ := r
      subst e
      exact .inl ⟨a, rfl, ⟨_, SqL.sub (hM.sub W2.frm W2.sub) q⟩, k _ δ1 _ G1 H1 hk2 hl1 W2 (itl_D (fun H s s2 => SqL.sub (hM.sub s s2) q) (ints_reps _))⟩
end
end BR

/-! K6: loops -/
namespace BR
open PySem PySem.Spec PyProof.Rows L2

/-- how a turn ends: on, out of the loop, or the whole with r -/
inductive LFlow (S R : Type) where
  | nx (s : S) | bk (s : S) | rt (r : R)
def forF {S R : Type} : List D → S → (D → S → Res (LFlow S R)) → Res (Flow S R)
  | [], s, _ => .ok (.nx s)
  | d :: ds, s, f => match f d s with
    | .ok (.nx s') => forF ds s' f
    | .ok (.bk s') => .ok (.nx s')
    | .ok (.rt r) => .ok (.ex r)
    | .raise x => .raise x
    | .bad => .bad
def forS {S : Type} : List D → S → (D → S → Res S) → Res S
  | [], s, _ => .ok s
  | d :: ds, s, f => (f d s).bind fun s' => forS ds s' f
def whileF {S R : Type} : Nat → S → (S → Res Bool) → (S → Res (LFlow S R)) → Res (Flow S R)
  | 0, _, _, _ => .bad
  | n + 1, s, t, f => (t s).bind fun b => if b = true then (match f s with
    | .ok (.nx s') => whileF n s' t f
    | .ok (.bk s') => .ok (.nx s')
    | .ok (.rt r) => .ok (.ex r)
    | .raise x => .raise x
    | .bad => .bad) else .ok (.nx s)
def whileS {S : Type} : Nat → S → (S → Res Bool) → (S → Res S) → Res S
  | 0, _, _, _ => .bad
  | n + 1, s, t, f => (t s).bind fun b => if b = true then (f s).bind fun s' => whileS n s' t f else .ok s
def toL {S R : Type} (m : Res S) : Res (LFlow S R) := m.bind fun s => .ok (.nx s)
theorem forS_F {S R : Type} (f : D → S → Res S) (k : S → Res R) : ∀ (ds : List D) (s : S), (forS ds s f).bind k = fbind (forF ds s fun d a => (toL (f d a) : Res (LFlow S R))) k
  | [], s => rfl
  | d :: ds, s => by
    unfold forS forF
    cases e : f d s with
    | ok a =>
      simp only [toL, Res.bind, fbind, e]
      exact forS_F f k ds a
    | raise x => simp only [toL, Res.bind, fbind, e]
    | bad => simp only [toL, Res.bind, fbind, e]
/-- the same, begun later -/
structure KnLe (en en' : Kn) : Prop where
  n : en'.n = en.n
  F0 : en'.F0 = en.F0
  ps : en'.ps = en.ps
  HX : en'.HX = en.HX
abbrev Kn.at (en : Kn) (G : Hp) : Kn := { en with G0 := G }
theorem Kn.le (en : Kn) (G : Hp) : KnLe en (en.at G) := ⟨rfl, rfl, rfl, rfl⟩
section
variable {K : PySem.W.Frag} {en : Kn} {δ δ' : List Slot} {σ σ' : L2.St} {G H G' H' : Hp}
theorem Wd.from (W : Wd K en δ σ G H) : Wd K (en.at G) δ σ G H :=
  ⟨W.len, W.sub, Sub.refl _, fun a o e => .inl e, W.frm, W.stay, W.nd, fun i sl o h1 h2 => by
    have q := W.slot i sl o h1 h2
    cases sl <;> exact q, W.apart⟩
theorem Wd.back (W : Wd K en δ σ G H) (W' : Wd K (en.at G) δ' σ' G' H') : Wd K en δ' σ' G' H' :=
  ⟨W'.len, W'.sub, W.ext.trans W'.ext, fun a o e => by
    rcases W'.new a o e with q | q
    · exact W.new a o q
    · exact .inr q, W'.frm, W'.stay, W'.nd, fun i sl o h1 h2 => by
    have q := W'.slot i sl o h1 h2
    cases sl <;> exact q, W'.apart⟩
end
section
variable {X : Cx} {en : Kn} {δ : List Slot} {R : Type} {m : Res R} {K : PySem.W.Frag}
variable {N : List Slot → Res R → Prop} {RT : Slot → List Slot → Res R → Prop} {BK CT : List Slot → Res R → Prop} {pos : Pos}

theorem js_for {S : Type} {tg iter : Expr} {body : List Stmt} (hp : PassesOwn (model X.prog X.w) X.A X.env X.xe) (hc : X.calm = true)
    (h : JI X en δ [] tg iter (fun ds δ1 m1 => ∃ (a0 : S) (f : D → S → Res (LFlow S R)) (k : S → Res R) (pe : S → List Slot), m1 = fbind (forF ds a0 f) k ∧ Le δ1 (pe a0) ∧
      (∀ en', KnLe en en' → ∀ d a, ∃ is, JG X en' (pe a) [] tg d is (fun δ2 m2 => JSs X en' δ2 body (fun δ' m' => ∃ a', m' = .ok (.nx a') ∧ Le δ' (pe a')) (fun s δ' m' => ∃ r, m' = .ok (.rt r) ∧ RT s δ' (.ok r)) (fun δ' m' => ∃ a', m' = .ok (.bk a') ∧ Le δ' (pe a')) (fun δ' m' => ∃ a', m' = .ok (.nx a') ∧ Le δ' (pe a')) m2) (f d a)) ∧ ∀ a, N (pe a) (k a)) m)
    (hs : ∀ x, foldedSetIterable iter X.env x = pure x := by intro _; rfl) : JS X en δ (.For tg iter body [] pos) N RT BK CT m := .mk fun hb hx σ G H E hl W k1 k2 k3 k4 => by
  refine ws_of (ps_for hp hc pi_wi pg_wg pss_wss hs) ?_
  refine h.run hb hx σ [] G H _ hl (W.sl hl) (by rw [List.append_nil, List.append_nil]; exact W) fun ds δ1 J G1 H1 c hl1 W1 it => ?_
  rw [List.append_nil, List.append_nil] at W1
  obtain ⟨a0, f, k, pe, em, le0, turn, hN⟩ := c
  have turn := turn (en.at G1)
  refine ⟨fun i n σ H => n = ds.length - i ∧ i ≤ ds.length ∧ ∃ a G2, (pe a).length = en.n ∧ Wd X.K (en.at G1) (pe a) σ G2 H ∧ m = fbind (forF (ds.drop i) a f) k, ⟨ds.length, by simp, Nat.zero_le _, a0, G1, le0.len.symm.trans hl1, (W1.le le0).from, em⟩, ?_⟩
  rintro i n σ2 H2 ⟨rfl, hi, a, G2, hla, W2, em2⟩
  obtain ⟨go, stop⟩ := it G2 H2 W2.ext W2.frm W2.sub i
  by_cases hlt : i < ds.length
  · obtain ⟨g1, g2⟩ := go ds[i] (List.getElem?_eq_getElem hlt)
    refine .inr ⟨g1, fun σ' H' => ∃ a' G', (pe a').length = en.n ∧ Wd X.K (en.at G1) (pe a') σ' G' H' ∧ m = fbind (forF (ds.drop (i + 1)) a' f) k, fun σ' H' hn => ⟨ds.length - (i + 1), by omega, rfl, hlt, hn⟩, fun x H' hy => ?_⟩
    obtain ⟨G3, gr, rx⟩ := g2 x H' hy
    have ed : ds.drop i = ds[i] :: ds.drop (i + 1) := by rw [List.drop_eq_getElem_cons hlt]
    rw [ed] at em2
    unfold forF at em2
    have hfb : f ds[i] a ≠ .bad := fun z => by rw [z] at em2; exact hb em2
    have hfx : en.HX (f ds[i] a).exc := by
      cases ef : f ds[i] a with
      | ok _ => exact en.h0
      | raise x => rw [ef] at em2; rw [em2] at hx; exact hx
      | bad => exact en.h0
    obtain ⟨is, turn⟩ := turn ⟨rfl, rfl, rfl, rfl⟩ ds[i] a
    refine turn.run hfb hfx σ2 [] G3 H' x _ hla (W2.sl hla) (by rw [List.append_nil, List.append_nil]; exact W2.grow gr) rx fun δ3 σ3 G4 H3 c3 hl3 _ W3 sb3 _ => ?_
    rw [List.append_nil, List.append_nil] at W3
    refine c3.run hfb hfx σ3 G4 H3 _ hl3 W3 (fun δ' σ' G' H' ⟨a', e1, le⟩ hl' W' => ?_) (fun s δ' v σ' G' H' ⟨r, e1, c⟩ hl' W' => ?_) (fun δ' σ' G' H' ⟨a', e1, le⟩ hl' W' => ?_) (fun δ' σ' G' H' ⟨a', e1, le⟩ hl' W' => ?_)
    · rw [e1] at em2
      exact ⟨a', G', le.len.symm.trans hl', W'.le le, em2⟩
    · rw [e1] at em2
      have em3 : m = .ok r := em2
      exact k2 s δ' v σ' G' H' (by rw [em3]; exact c) hl' (Wd.back (en := en) W1 W')
    · rw [e1] at em2
      have em3 : m = k a' := em2
      have := hN a'
      rw [← em3] at this
      exact k1 _ σ' G' H' this (le.len.symm.trans hl') (W1.back (W'.le le))
    · rw [e1] at em2
      exact ⟨a', G', le.len.symm.trans hl', W'.le le, em2⟩
  · have e : i = ds.length := by omega
    subst e
    refine .inl ⟨stop (Nat.le_refl _), ?_⟩
    rw [List.drop_length] at em2
    have em3 : m = k a := em2
    have := hN a
    rw [← em3] at this
    exact k1 _ σ2 G2 H2 this hla (W1.back W2)
theorem JI.conv {τ : List Slot} {tg iter : Expr} {C C' : List D → List Slot → Res R → Prop} (h : JI X en δ τ tg iter C m) (k : ∀ ds δ', C ds δ' m → C' ds δ' m) : JI X en δ τ tg iter C' m := .mk fun hb hx σ ts G H T hl hσ W q =>
  h.run hb hx σ ts G H T hl hσ W fun ds δ' J G' H' c hl' W' it => q ds δ' J G' H' (k _ _ c) hl' W' it
theorem JG.conv {τ : List Slot} {is : List Nat} {R' : Type} {tg : Expr} {d : D} {N : List Slot → Res R → Prop} {N' : List Slot → Res R' → Prop} {m' : Res R'} (h : JG X en δ τ tg d is N m) (hb : m' ≠ .bad → m ≠ .bad) (hx : m'.exc = m.exc) (k : ∀ δ', N δ' m → N' δ' m') : JG X en δ τ tg d is N' m' := .mk fun hb' hx' σ ts G H v T hl hσ W r q =>
  h.run (hb hb') (hx ▸ hx') σ ts G H v T hl hσ W r fun δ' σ' G' H' c hl' hσ' W' sb on => q δ' σ' G' H' (k _ c) hl' hσ' W' sb on
theorem JSs.conv {R' : Type} {st : List Stmt} {N' : List Slot → Res R' → Prop} {RT' : Slot → List Slot → Res R' → Prop} {BK' CT' : List Slot → Res R' → Prop} {m' : Res R'} (h : JSs X en δ st N RT BK CT m) (hb : m' ≠ .bad → m ≠ .bad) (hx : m'.exc = m.exc)
    (k1 : ∀ δ', N δ' m → N' δ' m') (k2 : ∀ s δ', RT s δ' m → RT' s δ' m') (k3 : ∀ δ', BK δ' m → BK' δ' m') (k4 : ∀ δ', CT δ' m → CT' δ' m') : JSs X en δ st N' RT' BK' CT' m' := .mk fun hb' hx' σ G H E hl W q1 q2 q3 q4 =>
  h.run (hb hb') (hx ▸ hx') σ G H E hl W (fun δ' σ' G' H' c hl' W' => q1 δ' σ' G' H' (k1 _ c) hl' W') (fun s δ' v σ' G' H' c hl' W' => q2 s δ' v σ' G' H' (k2 _ _ c) hl' W') (fun δ' σ' G' H' c hl' W' => q3 δ' σ' G' H' (k3 _ c) hl' W') (fun δ' σ' G' H' c hl' W' => q4 δ' σ' G' H' (k4 _ c) hl' W')
theorem toL_bad {S : Type} {m1 : Res S} (h : (toL m1 : Res (LFlow S R)) ≠ .bad) : m1 ≠ .bad := fun z => by subst z; exact h rfl
theorem toL_exc {S : Type} (m1 : Res S) : (toL m1 : Res (LFlow S R)).exc = m1.exc := by cases m1 <;> rfl
/-- a for loop out of which nothing leads -/
theorem js_forS {S : Type} {tg iter : Expr} {body : List Stmt} (hp : PassesOwn (model X.prog X.w) X.A X.env X.xe) (hc : X.calm = true)
    (h : JI X en δ [] tg iter (fun ds δ1 m1 => ∃ (a0 : S) (f : D → S → Res S) (k : S → Res R) (pe : S → List Slot), m1 = (forS ds a0 f).bind k ∧ Le δ1 (pe a0) ∧
      (∀ en', KnLe en en' → ∀ d a, ∃ is, JG X en' (pe a) [] tg d is (fun δ2 m2 => JSs X en' δ2 body (fun δ' m' => ∃ a', m' = .ok a' ∧ Le δ' (pe a')) (fun _ _ _ => False) (fun _ _ => False) (fun δ' m' => ∃ a', m' = .ok a' ∧ Le δ' (pe a')) m2) (f d a)) ∧ ∀ a, N (pe a) (k a)) m)
    (hs : ∀ x, foldedSetIterable iter X.env x = pure x := by intro _; rfl) : JS X en δ (.For tg iter body [] pos) N RT BK CT m := by
  refine js_for (S := S) hp hc (h.conv fun ds δ1 c => ?_) hs
  obtain ⟨a0, f, k, pe, em, le, turn, hN⟩ := c
  refine ⟨a0, fun d a => toL (f d a), k, pe, em.trans (forS_F f k ds a0), le, fun en' he d a => ?_, hN⟩
  obtain ⟨is, tr⟩ := turn en' he d a
  refine ⟨is, tr.conv toL_bad (toL_exc _) fun δ' c => ?_⟩
  refine c.conv toL_bad (toL_exc _) (fun δ2 ⟨a', e1, le⟩ => ⟨a', ?_, le⟩) (fun _ _ z => z.elim) (fun _ z => z.elim) (fun δ2 ⟨a', e1, le⟩ => ⟨a', ?_, le⟩)
  · show toL (f d a) = _
    rw [e1]; rfl
  · show toL (f d a) = _
    rw [e1]; rfl
/-! ### ranges -/
def upto (lo : Int) (n : Nat) : List D := (List.range n).map fun (i : Nat) => D.int (lo + (i : Int))
/-- the numbers of range(..) -/
def rngD : List D → Option (List D)
  | [.int j] => if -(2 ^ 62) ≤ j ∧ j < 2 ^ 62 then some (upto 0 j.toNat) else none
  | [.int i, .int j] => if (-(2 ^ 62) ≤ i ∧ i < 2 ^ 62) ∧ -(2 ^ 62) ≤ j ∧ j < 2 ^ 62 then some (upto i (j - i).toNat) else none
  | _ => none
theorem itr_D {lo : Int} {n : Nat} {Gb Fb : Hp} : ItD K (Itr lo n) Gb Fb (upto lo n) := fun G H sg sf gh i => by
  refine ⟨fun d e => ?_, fun hi => (by simpa [upto] using hi : n ≤ i)⟩
  have hi : i < n := by
    have := (List.getElem?_eq_some_iff.mp e).1
    simpa [upto] using this
  refine ⟨hi, fun x H' hy => ?_⟩
  obtain ⟨e1, e2⟩ := hy
  subst e1
  have e3 : d = .int (lo + i) := by
    unfold upto at e
    rw [List.getElem?_map, List.getElem?_range hi] at e
    exact (Option.some.inj e).symm
  subst e3
  exact ⟨G, Grow.refl gh, e2⟩
theorem ji_range1 {τ : List Slot} {tg a : Expr} {p pos : Pos} {C : List D → List Slot → Res R → Prop} (hm : X.mg "range" = none)
    (h : JE X en δ τ a (fun s δ1 m1 => ∃ d k, s.rd δ1 = some d ∧ m1 = op (rngD [d]) k ∧ ∀ ds, C ds δ1 (k ds)) m) (hg : Gl X "range" := by rfl) (hs : starEach [a] X.env = [(false, eval a X.env)] := by rfl) : JI X en δ τ tg (.Call (.Name "range" p) [a] [] pos) C m := .mk fun hb hx σ ts G H T hl hσ W k => by
  refine wi_of (pi_range1 hg hm (pa_cons pe_we pa_nil (by rw [hs]; rfl)) hs) ?_
  have ht : τ.length = ts.length := W.splitLen (hl.trans hσ.symm)
  refine h.run hb hx σ ts G H _ hl hσ W fun s δ1 v G1 H1 c1 hl1 W1 => ?_
  obtain ⟨d, k', e1, em, hk⟩ := c1
  have hb' := hb
  rw [em] at hb'
  obtain ⟨ds, ed⟩ := op_some hb'
  have em' : m = k' ds := by rw [em, ed]; rfl
  have hk2 := hk ds
  rw [← em'] at hk2
  obtain ⟨⟨_, _, ez, r1, _⟩, Wn⟩ := Wd.ends (sls := [s]) (vs := [v]) W1 (hl1.trans hσ.symm) ht (ds := [d]) (by simp only [rds, e1])
  cases ez
  match d, ed, r1 with
  | .int j, ed, r1 =>
    have r1' : v = .int j := r1
    subst r1'
    have ed' : (if -(2 ^ 62) ≤ j ∧ j < 2 ^ 62 then some (upto 0 j.toNat) else none) = some ds := ed
    by_cases hj : -(2 ^ 62) ≤ j ∧ j < 2 ^ 62
    · rw [if_pos hj] at ed'
      cases ed'
      exact ⟨j, rfl, hj.1, hj.2, k _ δ1 _ G1 H1 hk2 hl1 (Wn (by omega)) itr_D⟩
    · rw [if_neg hj] at ed'; cases ed'
  | .non, ed, _ => cases ed
  | .bl _, ed, _ => cases ed
  | .str _, ed, _ => cases ed
  | .lst _, ed, _ => cases ed
  | .tup _, ed, _ => cases ed
  | .dic _, ed, _ => cases ed
  | .scr _, ed, _ => cases ed
  | .exc _ _, ed, _ => cases ed
  | .obj _ _, ed, _ => cases ed
end
end BR

/-! K7: what a def promises, its body, its call -/
namespace BR
open PySem PySem.Spec PyProof.Rows L2

/-- how a parameter is handed: standing fast; read alone; to be changed -/
inductive Kd where
  | f | b | m
def nms : List Kd → Nat
  | [] => 0
  | .f :: r => nms r
  | .b :: r => nms r
  | .m :: r => nms r + 1
def hide (H : Hp) (ps : List Addr) : Hp := fun a => if a ∈ ps then none else H a
theorem hide_sub {H : Hp} {ps : List Addr} : Sub (hide H ps) H := fun a o e => by
  unfold hide at e
  split at e
  · cases e
  · exact e
theorem hide_none {H : Hp} {ps : List Addr} {p : Addr} (h : p ∈ ps) : hide H ps p = none := if_pos h
theorem hide_some {H : Hp} {ps : List Addr} {p : Addr} (h : p ∉ ps) : hide H ps p = H p := if_neg h
def ArgsOk (K : PySem.W.Frag) (G H F0 : Hp) : List Kd → List D → List V → List Addr → Prop
  | [], [], [], [] => True
  | .f :: ks, d :: ds, v :: vs, ps => Rep K G d v ∧ ArgsOk K G H F0 ks ds vs ps
  | .b :: ks, d :: ds, v :: vs, ps => BRep K G F0 d v ∧ ArgsOk K G H F0 ks ds vs ps
  | .m :: ks, d :: ds, v :: vs, p :: ps => (v = .ref p ∧ G p = none ∧ MRep K G H d p) ∧ ArgsOk K G H F0 ks ds vs ps
  | _, _, _, _ => False
/-- what stands for an error that leaves a def -/
def ExcOk (mg : Str → Option Value) (F0 : Hp) (ps : List Addr) (x : Exc) (cls : Value) (d : Option Addr) (H : Hp) : Prop :=
  ∃ C, mg x.cls = some (.ref C) ∧ cls = .ref C ∧ ((x.fs = [] ∧ d = none) ∨ (x.fs ≠ [] ∧ ∃ a, d = some a ∧ H a = some (.xd (xfV x.fs)) ∧ F0 a = none ∧ a ∉ ps))
theorem ExcOk.to {mg : Str → Option Value} {F F' : Hp} {ps ps' : List Addr} {x : Exc} {cls : Value} {d : Option Addr} {H : Hp} (h : ExcOk mg F ps x cls d H) (k : ∀ a, F a = none → a ∉ ps → F' a = none ∧ a ∉ ps') : ExcOk mg F' ps' x cls d H := by
  obtain ⟨C, h1, h2, h3⟩ := h
  refine ⟨C, h1, h2, ?_⟩
  rcases h3 with h3 | ⟨h3, a, h4, h5, h6, h7⟩
  · exact .inl h3
  · obtain ⟨k1, k2⟩ := k a h6 h7
    exact .inr ⟨h3, a, h4, h5, k1, k2⟩
theorem Wd.exc {K : PySem.W.Frag} {mg : Str → Option Value} {en : Kn} {δ : List Slot} {σ : L2.St} {G H H' : Hp} {ps : List Addr} {x : Exc} {cls : Value} {d : Option Addr} (W : Wd K en δ σ G H) (h : ExcOk mg (hide H ps) ps x cls d H') : ExcOk mg en.F0 en.ps x cls d H' :=
  h.to fun a h1 h2 => by
    rw [hide_some h2] at h1
    refine ⟨?_, fun z => W.stay a z h1⟩
    cases z : en.F0 a with
    | none => rfl
    | some o => rw [W.frm a o z] at h1; cases h1
/-- behind a run: what stands fast has grown, what was tracked is as it was but for the lists ps -/
structure Post (G H G' H' : Hp) (ps : List Addr) : Prop where
  g : Sub G G'
  gh : Sub G' H'
  new : ∀ a o, G' a = some o → G a = some o ∨ H a = none
  frm : ∀ a o, H a = some o → a ∉ ps → H' a = some o
def OutsOk (K : PySem.W.Frag) (G' H' : Hp) : List D → List Addr → Prop
  | [], [] => True
  | d :: ds, p :: ps => (G' p = none ∧ MRep K G' H' d p) ∧ OutsOk K G' H' ds ps
  | _, _ => False
def RetOk (K : PySem.W.Frag) (G' H H' : Hp) (mu : Bool) (d : D) (v : V) : Prop :=
  if mu = true then ∃ p, v = .ref p ∧ H p = none ∧ G' p = none ∧ MRep K G' H' d p else Rep K G' d v
def SpD (K : PySem.W.Frag) (mg : Str → Option Value) (ks : List Kd) {α : Type} (f : List D → Res α) (val : α → D) (outs : α → List D) (mu : Bool) : Sp := fun vs H Q E =>
  vs.length = ks.length ∧ ∃ (G : Hp) (ps : List Addr) (ds : List D) (r : Res α), Sub G H ∧ ps.Nodup ∧ ArgsOk K G H (hide H ps) ks ds vs ps ∧ f ds = r ∧ r ≠ .bad ∧
    (∀ a, r = .ok a → ∀ v G' H', Post G H G' H' ps → OutsOk K G' H' (outs a) ps → RetOk K G' H H' mu (val a) v → Q v H') ∧
    (∀ x, r = .raise x → ∀ cls d H', ExcOk mg (hide H ps) ps x cls d H' → Sub (hide H ps) H' → E cls d H')

/-- the names' slots at a def's entry -/
def slots0 : Nat → List Kd → List D → List Slot
  | j, .f :: ks, d :: ds => .fr d :: slots0 j ks ds
  | j, .b :: ks, d :: ds => .bw d :: slots0 j ks ds
  | j, .m :: ks, d :: ds => .mp j d :: slots0 (j + 1) ks ds
  | _, _, _ => []
section
variable {K : PySem.W.Frag} {en : Kn} {G H : Hp}
theorem args_len : ∀ {ks : List Kd} {ds : List D} {vs : List V} {ps : List Addr} {F0 : Hp}, ArgsOk K G H F0 ks ds vs ps → ds.length = ks.length ∧ vs.length = ks.length
  | [], [], [], [], _, _ => ⟨rfl, rfl⟩
  | .f :: ks, d :: ds, v :: vs, ps, _, h => by have := args_len h.2; simp [this.1, this.2]
  | .b :: ks, d :: ds, v :: vs, ps, _, h => by have := args_len h.2; simp [this.1, this.2]
  | .m :: ks, d :: ds, v :: vs, p :: ps, _, h => by have := args_len h.2; simp [this.1, this.2]
  | [], _ :: _, _, _, _, h => h.elim
  | [], [], _ :: _, _, _, h => h.elim
  | [], [], [], _ :: _, _, h => h.elim
  | .f :: _, [], _, _, _, h => h.elim
  | .f :: _, _ :: _, [], _, _, h => h.elim
  | .b :: _, [], _, _, _, h => h.elim
  | .b :: _, _ :: _, [], _, _, h => h.elim
  | .m :: _, [], _, _, _, h => h.elim
  | .m :: _, _ :: _, [], _, _, h => h.elim
  | .m :: _, _ :: _, _ :: _, [], _, h => h.elim
theorem slots0_len : ∀ {ks : List Kd} {ds : List D} {j : Nat}, ds.length = ks.length → (slots0 j ks ds).length = ks.length
  | [], [], _, _ => rfl
  | [], _ :: _, _, h => nomatch h
  | _ :: _, [], _, h => nomatch h
  | .f :: ks, d :: ds, j, h => by simp [slots0, slots0_len (ks := ks) (ds := ds) (j := j) (by simpa using h)]
  | .b :: ks, d :: ds, j, h => by simp [slots0, slots0_len (ks := ks) (ds := ds) (j := j) (by simpa using h)]
  | .m :: ks, d :: ds, j, h => by simp [slots0, slots0_len (ks := ks) (ds := ds) (j := j + 1) (by simpa using h)]
theorem args_slot : ∀ {ks : List Kd} {ds : List D} {vs : List V} {ps' : List Addr} {F0 : Hp} {j : Nat} {i : Nat} {sl : Slot} {S : L2.St}, ArgsOk K G H F0 ks ds vs ps' → F0 = en.F0 → (∀ (l : Nat) p, ps'[l]? = some p → en.ps[j + l]? = some p) → (∀ p, p ∈ en.ps → en.F0 p = none) →
    (slots0 j ks ds)[i]? = some sl → ∃ v, vs[i]? = some v ∧ SlotOk K en S G H sl (some v) ∧ ∀ d, sl ≠ .mu d
  | [], [], [], [], _, _, _, _, _, _, _, _, _, e => by simp [slots0] at e
  | .f :: ks, d :: ds, v :: vs, ps, _, j, 0, sl, S, h, _, _, _, e => by
    have e' : Slot.fr d = sl := by simpa [slots0] using e
    subst e'
    exact ⟨v, rfl, ⟨v, rfl, h.1⟩, fun d z => by cases z⟩
  | .f :: ks, d :: ds, v :: vs, ps, _, j, i + 1, sl, S, h, hf, hj, hp, e => by
    simpa using args_slot (i := i) h.2 hf hj hp (by simpa [slots0] using e)
  | .b :: ks, d :: ds, v :: vs, ps, _, j, 0, sl, S, h, hf, _, _, e => by
    have e' : Slot.bw d = sl := by simpa [slots0] using e
    subst e'
    exact ⟨v, rfl, ⟨v, rfl, by rw [← hf]; exact h.1⟩, fun d z => by cases z⟩
  | .b :: ks, d :: ds, v :: vs, ps, _, j, i + 1, sl, S, h, hf, hj, hp, e => by
    simpa using args_slot (i := i) h.2 hf hj hp (by simpa [slots0] using e)
  | .m :: ks, d :: ds, v :: vs, p :: ps, _, j, 0, sl, S, h, hf, hj, hp, e => by
    have e' : Slot.mp j d = sl := by simpa [slots0] using e
    subst e'
    obtain ⟨⟨e1, e2, e3⟩, _⟩ := h
    have hpp : en.ps[j]? = some p := hj 0 p rfl
    exact ⟨v, rfl, ⟨p, by rw [e1], hpp, e2, hp p (List.mem_of_getElem? hpp), e3⟩, fun d z => by cases z⟩
  | .m :: ks, d :: ds, v :: vs, p :: ps, _, j, i + 1, sl, S, h, hf, hj, hp, e => by
    simpa using args_slot (i := i) (j := j + 1) h.2 hf (fun l q hq => by have := hj (l + 1) q (by simpa using hq); rw [Nat.add_assoc, Nat.add_comm 1 l]; exact this) hp (by simpa [slots0] using e)
  | [], _ :: _, _, _, _, _, _, _, _, h, _, _, _, _ => h.elim
  | [], [], _ :: _, _, _, _, _, _, _, h, _, _, _, _ => h.elim
  | [], [], [], _ :: _, _, _, _, _, _, h, _, _, _, _ => h.elim
  | .f :: _, [], _, _, _, _, _, _, _, h, _, _, _, _ => h.elim
  | .f :: _, _ :: _, [], _, _, _, _, _, _, h, _, _, _, _ => h.elim
  | .b :: _, [], _, _, _, _, _, _, _, h, _, _, _, _ => h.elim
  | .b :: _, _ :: _, [], _, _, _, _, _, _, h, _, _, _, _ => h.elim
  | .m :: _, [], _, _, _, _, _, _, _, h, _, _, _, _ => h.elim
  | .m :: _, _ :: _, [], _, _, _, _, _, _, h, _, _, _, _ => h.elim
  | .m :: _, _ :: _, _ :: _, [], _, _, _, _, _, h, _, _, _, _ => h.elim
theorem args_there : ∀ {ks : List Kd} {ds : List D} {vs : List V} {ps : List Addr} {F0 : Hp}, ArgsOk K G H F0 ks ds vs ps → ∀ p, p ∈ ps → H p ≠ none ∧ G p = none
  | [], [], [], [], _, _, p, hp => absurd hp (by simp)
  | .f :: ks, d :: ds, v :: vs, ps, _, h, p, hp => args_there h.2 p hp
  | .b :: ks, d :: ds, v :: vs, ps, _, h, p, hp => args_there h.2 p hp
  | .m :: ks, d :: ds, v :: vs, q :: ps, _, h, p, hp => by
    rcases List.mem_cons.mp hp with e | hp
    · subst e
      obtain ⟨o, e⟩ := h.1.2.2.ex
      exact ⟨by rw [e]; simp, h.1.2.1⟩
    · exact args_there h.2 p hp
  | [], _ :: _, _, _, _, h, _, _ => h.elim
  | [], [], _ :: _, _, _, h, _, _ => h.elim
  | [], [], [], _ :: _, _, h, _, _ => h.elim
  | .f :: _, [], _, _, _, h, _, _ => h.elim
  | .f :: _, _ :: _, [], _, _, h, _, _ => h.elim
  | .b :: _, [], _, _, _, h, _, _ => h.elim
  | .b :: _, _ :: _, [], _, _, h, _, _ => h.elim
  | .m :: _, [], _, _, _, h, _, _ => h.elim
  | .m :: _, _ :: _, [], _, _, h, _, _ => h.elim
  | .m :: _, _ :: _, _ :: _, [], _, h, _, _ => h.elim
theorem mp_ge : ∀ {ks : List Kd} {ds : List D} {j i x : Nat} {d : D}, (slots0 j ks ds)[i]? = some (.mp x d) → j ≤ x
  | [], _, _, _, _, _, h => by simp [slots0] at h
  | _ :: _, [], _, _, _, _, h => by simp [slots0] at h
  | .f :: ks, e :: ds, j, 0, x, d, h => by simp [slots0] at h
  | .b :: ks, e :: ds, j, 0, x, d, h => by simp [slots0] at h
  | .m :: ks, e :: ds, j, 0, x, d, h => by simp [slots0] at h; omega
  | .f :: ks, e :: ds, j, i + 1, x, d, h => mp_ge (ks := ks) (ds := ds) (i := i) (d := d) (by simpa [slots0] using h)
  | .b :: ks, e :: ds, j, i + 1, x, d, h => mp_ge (ks := ks) (ds := ds) (i := i) (d := d) (by simpa [slots0] using h)
  | .m :: ks, e :: ds, j, i + 1, x, d, h => Nat.le_of_succ_le (mp_ge (ks := ks) (ds := ds) (j := j + 1) (i := i) (d := d) (by simpa [slots0] using h))
theorem mp_inj : ∀ {ks : List Kd} {ds : List D} {j i l x : Nat} {d d' : D}, (slots0 j ks ds)[i]? = some (.mp x d) → (slots0 j ks ds)[l]? = some (.mp x d') → i = l
  | [], _, _, _, _, _, _, _, h, _ => by simp [slots0] at h
  | _ :: _, [], _, _, _, _, _, _, h, _ => by simp [slots0] at h
  | .f :: ks, e :: ds, j, 0, _, x, d, d', h, _ => by simp [slots0] at h
  | .b :: ks, e :: ds, j, 0, _, x, d, d', h, _ => by simp [slots0] at h
  | .f :: ks, e :: ds, j, _ + 1, 0, x, d, d', _, h => by simp [slots0] at h
  | .b :: ks, e :: ds, j, _ + 1, 0, x, d, d', _, h => by simp [slots0] at h
  | .f :: ks, e :: ds, j, i + 1, l + 1, x, d, d', h, h2 => congrArg (· + 1) (mp_inj (ks := ks) (ds := ds) (j := j) (by simpa [slots0] using h) (by simpa [slots0] using h2))
  | .b :: ks, e :: ds, j, i + 1, l + 1, x, d, d', h, h2 => congrArg (· + 1) (mp_inj (ks := ks) (ds := ds) (j := j) (by simpa [slots0] using h) (by simpa [slots0] using h2))
  | .m :: ks, e :: ds, j, i + 1, l + 1, x, d, d', h, h2 => congrArg (· + 1) (mp_inj (ks := ks) (ds := ds) (j := j + 1) (by simpa [slots0] using h) (by simpa [slots0] using h2))
  | .m :: ks, e :: ds, j, 0, 0, x, d, d', _, _ => rfl
  | .m :: ks, e :: ds, j, 0, l + 1, x, d, d', h, h2 => by
    have h3 : j = x := by simp [slots0] at h; exact h.1
    have := mp_ge (ks := ks) (ds := ds) (j := j + 1) (i := l) (x := x) (d := d') (by simpa [slots0] using h2)
    omega
  | .m :: ks, e :: ds, j, i + 1, 0, x, d, d', h, h2 => by
    have h3 : j = x := by simp [slots0] at h2; exact h2.1
    have := mp_ge (ks := ks) (ds := ds) (j := j + 1) (i := i) (x := x) (d := d) (by simpa [slots0] using h)
    omega
theorem args_ps : ∀ {ks : List Kd} {ds : List D} {vs : List V} {ps : List Addr} {F0 : Hp}, ArgsOk K G H F0 ks ds vs ps → ps.length = nms ks
  | [], [], [], [], _, _ => rfl
  | .f :: ks, d :: ds, v :: vs, ps, _, h => (args_ps (ks := ks) h.2 : _)
  | .b :: ks, d :: ds, v :: vs, ps, _, h => (args_ps (ks := ks) h.2 : _)
  | .m :: ks, d :: ds, v :: vs, q :: ps, _, h => congrArg (· + 1) (args_ps h.2)
  | [], _ :: _, _, _, _, h => h.elim
  | [], [], _ :: _, _, _, h => h.elim
  | [], [], [], _ :: _, _, h => h.elim
  | .f :: _, [], _, _, _, h => h.elim
  | .f :: _, _ :: _, [], _, _, h => h.elim
  | .b :: _, [], _, _, _, h => h.elim
  | .b :: _, _ :: _, [], _, _, h => h.elim
  | .m :: _, [], _, _, _, h => h.elim
  | .m :: _, _ :: _, [], _, _, h => h.elim
  | .m :: _, _ :: _, _ :: _, [], _, h => h.elim
theorem Wd.start {N : List Str} {ks : List Kd} {ds : List D} {vs : List V} (hG : Sub G H) (h0 : en.G0 = G) (hF : en.F0 = hide H en.ps) (hn : en.ps.Nodup) (ha : ArgsOk K G H (hide H en.ps) ks ds vs en.ps) (hl : ks.length ≤ N.length) :
    Wd K en (slots0 0 ks ds ++ List.replicate (N.length - ks.length) .un) (L2.start N vs) G H := by
  obtain ⟨l1, l2⟩ := args_len ha
  have l3 : (slots0 0 ks ds).length = ks.length := slots0_len l1
  have mem : ∀ (i : Nat) p, Own (slots0 0 ks ds ++ List.replicate (N.length - ks.length) Slot.un) (L2.start N vs) i p → ∃ x d, (slots0 0 ks ds)[i]? = some (.mp x d) ∧ en.ps[x]? = some p := fun i p ⟨sl, e1, e2, e3⟩ => by
    by_cases hi : i < (slots0 0 ks ds).length
    · rw [List.getElem?_append_left hi] at e1
      obtain ⟨v, h3, h4, z⟩ := args_slot (en := en) (S := []) (j := 0) ha hF.symm (fun l p h => by rw [Nat.zero_add]; exact h) (fun p hp => by rw [hF]; exact hide_none hp) e1
      have : (L2.start N vs)[i]? = some (some v) := by
        unfold L2.start
        rw [List.getElem?_append_left (by rw [List.length_map]; omega), List.getElem?_map, h3]; rfl
      rw [this] at e3
      cases e3
      cases sl with
      | mu d => exact (z d rfl).elim
      | mp x d =>
        obtain ⟨q, e4, e5, _⟩ := h4
        cases e4
        exact ⟨x, d, e1, e5⟩
      | un => cases e2
      | fr _ => cases e2
      | bw _ => cases e2
      | bo _ => cases e2
    · rw [List.getElem?_append_right (Nat.le_of_not_lt hi), List.getElem?_replicate] at e1
      split at e1
      · cases e1; cases e2
      · cases e1
  refine ⟨?_, hG, by rw [h0]; exact Sub.refl _, fun a o e => .inl (by rw [h0]; exact e), by rw [hF]; exact hide_sub, fun a h => (args_there ha a h).1, hn, fun i sl o h1 h2 => ?_, fun i j p h1 h2 => by
    obtain ⟨x, d, e1, e2⟩ := mem i p h1
    obtain ⟨y, d', e3, e4⟩ := mem j p h2
    have hx := List.getElem?_eq_some_iff.mp e2
    have hy := List.getElem?_eq_some_iff.mp e4
    have exy : x = y := (List.getElem_inj hn).mp (hx.2.trans hy.2.symm)
    subst exy
    exact mp_inj e1 e3⟩
  · unfold L2.start
    rw [List.length_append, List.length_append, l3, List.length_map, List.length_replicate, List.length_replicate, l2]
  · by_cases hi : i < (slots0 0 ks ds).length
    · rw [List.getElem?_append_left hi] at h1
      obtain ⟨v, h3, h4, _⟩ := args_slot (en := en) (S := L2.start N vs) (j := 0) ha hF.symm (fun l p h => by rw [Nat.zero_add]; exact h) (fun p hp => by rw [hF]; exact hide_none hp) h1
      have : (L2.start N vs)[i]? = some (some v) := by
        unfold L2.start
        rw [List.getElem?_append_left (by rw [List.length_map]; omega), List.getElem?_map, h3]; rfl
      rw [this] at h2
      cases h2
      exact h4
    · rw [List.getElem?_append_right (Nat.le_of_not_lt hi), List.getElem?_replicate] at h1
      split at h1
      · cases h1; trivial
      · cases h1
end

theorem takes0N {X : Cx} : L2N.Takes X (fun _ _ _ _ => False) := fun _ _ x => by
  obtain ⟨_, _, _, _, _, _, _, _, _, _, _, _, _, _, _, _, z⟩ := x
  exact z.elim
/-- the errors of a body: they are what is wished for -/
def Lk (X : Cx) (en : Kn) : Prop := ∃ W : WX, L2N.Takes X W ∧ ∀ x, en.HX (some x) → ∀ cls d σ H', ExcOk X.mg en.F0 en.ps x cls d H' → Sub en.F0 H' → W cls d σ H'
theorem KnLe.lk {X : Cx} {en en' : Kn} (h : KnLe en en') (l : Lk X en) : Lk X en' := by
  obtain ⟨W, t, k⟩ := l
  exact ⟨W, t, fun x hx cls d σ H' e s => k x (h.HX ▸ hx) cls d σ H' (e.to fun a h1 h2 => ⟨h.F0 ▸ h1, h.ps ▸ h2⟩) (h.F0 ▸ s)⟩
/-- the lists of the caller's, as told -/
def OutsAt (δ : List Slot) : Nat → List D → Prop
  | _, [] => True
  | j, d :: ds => (∃ i : Nat, δ[i]? = some (.mp j d)) ∧ OutsAt δ (j + 1) ds
def Slot.rets (mu : Bool) (d : D) (s : Slot) : Prop := s = if mu = true then .mu d else .fr d
section
variable {K : PySem.W.Frag} {en : Kn} {G H : Hp}
theorem Wd.outs {δ : List Slot} {σ : L2.St} (W : Wd K en δ σ G H) : ∀ {ds : List D} {j : Nat} {ps : List Addr}, (∀ l : Nat, ps[l]? = en.ps[j + l]?) → ds.length = ps.length → OutsAt δ j ds → OutsOk K G H ds ps
  | [], _, [], _, _, _ => trivial
  | [], _, _ :: _, _, h, _ => nomatch h
  | _ :: _, _, [], _, h, _ => nomatch h
  | d :: ds, j, p :: ps, hj, hl, h => by
    obtain ⟨⟨i, hi⟩, h2⟩ := h
    obtain ⟨o, h3, q, e, e2, n, _, r⟩ := W.at hi
    have e3 : en.ps[j]? = some p := (hj 0).symm
    rw [e3] at e2
    cases e2
    exact ⟨⟨n, r⟩, Wd.outs W (fun l => by have := hj (l + 1); rw [Nat.add_assoc, Nat.add_comm 1 l]; simpa using this) (by simpa using hl) h2⟩
end
variable {P : Program} {w : World} {K : PySem.W.Frag} {mg : Str → Option Value} {base : Heap}
/-- THE RULE for a def -/
theorem fn_D {x qual : Str} {st : Stmt} {fa : Addr} {fd : FuncData} {N psn : List Str} {k : Nat} {ks : List Kd} {α : Type} {f : List D → Res α} {val : α → D} {outs : α → List D} {mu : Bool}
    (F : L2.Fun K x qual st fa fd) (S : FnScope N psn (defScope st)) (hk : ks.length = psn.length) (nm : Nat) (hnm : ∀ a, (outs a).length = nm) (hms : nms ks = nm)
    (body : ∀ (X : Cx) (en : Kn) (cdv : Value) (A : Around) (outer : List Env) (s : Shared) (H : Hp) (E : XK) (ds : List D), X = cxOf (L2N.CX P w) P w K mg base N qual (defScope st) fa cdv A outer s H E → RoomG k X.A → en.n = N.length → Lk X en → PassesOwn (model X.prog X.w) X.A X.env X.xe → ds.length = ks.length →
      JSs X en (slots0 0 ks ds ++ List.replicate (N.length - ks.length) .un) (defBody st) (fun δ' m' => mu = false ∧ ∃ a, m' = .ok a ∧ val a = .non ∧ OutsAt δ' 0 (outs a)) (fun s δ' m' => ∃ a, m' = .ok a ∧ s.rets mu (val a) ∧ OutsAt δ' 0 (outs a)) (fun _ _ => False) (fun _ _ => False) (f ds)) :
    FnG P w K mg base (k + 1) fa fd psn (SpD K mg ks f val outs mu) := by
  refine fn_G F S (fun vs H Q E h => h.1.trans hk) fun cdv A outer s H vs Q E hr h => ?_
  obtain ⟨hlv, G, ps, ds, r, hG, nd, ha, er, nb, hok, hrs⟩ := h
  subst er
  let en : Kn := ⟨N.length, G, hide H ps, ps, fun o => o = none ∨ o = (f ds).exc, .inl rfl⟩
  obtain ⟨l1, l2⟩ := args_len ha
  have hkN : ks.length ≤ N.length := by
    have := congrArg List.length S.pre
    rw [List.length_take] at this
    omega
  have W := Wd.start (en := en) (N := N) hG rfl rfl nd ha hkN
  have lps : ps.length = nm := (args_ps ha).trans hms
  let X : Cx := cxOf (L2N.CX P w) P w K mg base N qual (defScope st) fa cdv A outer s H E
  have tk : L2N.Takes X (fun cls d _ H => E cls d H) := L2N.takes_of rfl rfl rfl rfl
  have lk : Lk X en := ⟨_, tk, fun x hx cls d σ H' he hs => by
    refine hrs x ?_ cls d H' he hs
    rcases hx with z | z
    · cases z
    · cases e : f ds with
      | raise y => rw [e] at z; cases z; rfl
      | ok _ => rw [e] at z; cases z
      | bad => rw [e] at z; cases z⟩
  have B := body X en cdv A outer s H E ds rfl hr rfl lk (passes_of rfl) l1
  refine ⟨WSs X (defBody st), pss_wss, ?_⟩
  have hlen : (slots0 0 ks ds ++ List.replicate (N.length - ks.length) Slot.un).length = en.n := by
    rw [List.length_append, slots0_len l1, List.length_replicate]
    show _ = N.length
    omega
  have post : ∀ {δ' : List Slot} {σ' : L2.St} {G' H' : Hp}, Wd K en δ' σ' G' H' → Post G H G' H' ps := fun {δ' σ' G' H'} W' => ⟨W'.ext, W'.sub, fun a o e => by
    rcases W'.new a o e with q | ⟨q1, q2⟩
    · exact .inl q
    · refine .inr ?_
      have q1' : hide H ps a = none := q1
      rw [hide_some q2] at q1'
      exact q1', fun a o e n => W'.frm a o (by show hide H ps a = some o; rw [hide_some n]; exact e)⟩
  have ou : ∀ {δ' : List Slot} {σ' : L2.St} {G' H' : Hp} {a : α}, Wd K en δ' σ' G' H' → OutsAt δ' 0 (outs a) → OutsOk K G' H' (outs a) ps := fun {δ' σ' G' H' a} W' h => W'.outs (fun l => by rw [Nat.zero_add]) (by rw [hnm, lps]) h
  refine B.run nb (.inr rfl) (L2.start N vs) G H _ hlen W (fun δ' σ' G' H' ⟨em, a, ea, ev, eo⟩ hl' W' => ?_) (fun sl δ' v σ' G' H' ⟨a, ea, es, eo⟩ hl' W' => ?_) (fun _ _ _ _ z => z.elim) (fun _ _ _ _ z => z.elim)
  · refine hok a ea .non G' H' (post W') (ou W' eo) ?_
    unfold RetOk
    rw [em, if_neg (by decide), ev]
    rfl
  · have W2 := W'.one hl' (by
      have := W'.len
      rw [List.length_append, List.length_append] at this
      have e1 : [sl].length = 1 := rfl
      have e2 : [some v].length = 1 := rfl
      omega)
    refine hok a ea v G' H' (post W2) (ou W2 eo) ?_
    have q := W'.last
    unfold RetOk
    cases mu with
    | true =>
      have es' : sl = .mu (val a) := es
      subst es'
      obtain ⟨p, e, n, f0, np, r⟩ := q
      cases e
      refine ⟨p, rfl, ?_, n, r⟩
      have f0' : hide H ps p = none := f0
      rw [hide_some np] at f0'
      exact f0'
    | false =>
      have es' : sl = .fr (val a) := es
      subst es'
      obtain ⟨u, e, r⟩ := q
      cases e
      exact r
end BR

/-! K8: a def called -/
namespace BR
open PySem PySem.Spec PyProof.Rows L2

def CA (δ : List Slot) : List Kd → List Slot → Option (List D × List Nat)
  | [], [] => some ([], [])
  | .f :: ks, .fr d :: r => match CA δ ks r with
    | some (ds, is) => some (d :: ds, is)
    | none => none
  | .b :: ks, s :: r => match s.rd δ, CA δ ks r with
    | some d, some (ds, is) => some (d :: ds, is)
    | _, _ => none
  | .m :: ks, .bo i :: r => match (Slot.bo i).rd δ, CA δ ks r with
    | some d, some (ds, is) => some (d :: ds, i :: is)
    | _, _ => none
  | _, _ => none
/-- what is read alone is none of the lists that may be changed -/
def sep : List Kd → List Slot → List Nat → Bool
  | .b :: ks, .bo j :: r, is => !is.contains j && sep ks r is
  | _ :: ks, _ :: r, is => sep ks r is
  | _, _, _ => true
def Slot.put : Slot → D → Slot
  | .mu _, d => .mu d
  | .mp j _, d => .mp j d
  | s, _ => s
def putAll : List Slot → List Nat → List D → List Slot
  | Δ, i :: is, d :: ds => putAll (Δ.set i ((Δ.getD i .un).put d)) is ds
  | Δ, _, _ => Δ
section
variable {K : PySem.W.Frag} {en : Kn} {G H : Hp}
theorem sep_get : ∀ {ks : List Kd} {sls : List Slot} {is : List Nat} {l j : Nat}, sep ks sls is = true → ks[l]? = some .b → sls[l]? = some (.bo j) → j ∉ is
  | .b :: ks, .bo j :: r, is, 0, l, h, _, e => by
    have e' : j = l := by simpa using e
    subst e'
    unfold sep at h
    rw [Bool.and_eq_true] at h
    intro hm
    have := h.1
    rw [List.contains_iff_mem.mpr hm] at this
    cases this
  | .b :: ks, .bo j :: r, is, i + 1, l, h, e1, e => by
    unfold sep at h
    rw [Bool.and_eq_true] at h
    exact sep_get (l := i) h.2 (by simpa using e1) (by simpa using e)
  | [], _, _, _, _, _, e, _ => by simp at e
  | _ :: _, [], _, _, _, _, _, e => by simp at e
  | .f :: ks, s :: r, is, 0, l, h, e1, e => by simp at e1
  | .m :: ks, s :: r, is, 0, l, h, e1, e => by simp at e1
  | .f :: ks, s :: r, is, i + 1, l, h, e1, e => sep_get (ks := ks) (sls := r) (l := i) (by simpa [sep] using h) (by simpa using e1) (by simpa using e)
  | .m :: ks, s :: r, is, i + 1, l, h, e1, e => sep_get (ks := ks) (sls := r) (l := i) (by simpa [sep] using h) (by simpa using e1) (by simpa using e)
  | .b :: ks, .un :: r, is, 0, l, h, e1, e => by simp at e
  | .b :: ks, .fr _ :: r, is, 0, l, h, e1, e => by simp at e
  | .b :: ks, .mu _ :: r, is, 0, l, h, e1, e => by simp at e
  | .b :: ks, .mp _ _ :: r, is, 0, l, h, e1, e => by simp at e
  | .b :: ks, .bw _ :: r, is, 0, l, h, e1, e => by simp at e
  | .b :: ks, .un :: r, is, i + 1, l, h, e1, e => sep_get (ks := ks) (sls := r) (l := i) (by simpa [sep] using h) (by simpa using e1) (by simpa using e)
  | .b :: ks, .fr _ :: r, is, i + 1, l, h, e1, e => sep_get (ks := ks) (sls := r) (l := i) (by simpa [sep] using h) (by simpa using e1) (by simpa using e)
  | .b :: ks, .mu _ :: r, is, i + 1, l, h, e1, e => sep_get (ks := ks) (sls := r) (l := i) (by simpa [sep] using h) (by simpa using e1) (by simpa using e)
  | .b :: ks, .mp _ _ :: r, is, i + 1, l, h, e1, e => sep_get (ks := ks) (sls := r) (l := i) (by simpa [sep] using h) (by simpa using e1) (by simpa using e)
  | .b :: ks, .bw _ :: r, is, i + 1, l, h, e1, e => sep_get (ks := ks) (sls := r) (l := i) (by simpa [sep] using h) (by simpa using e1) (by simpa using e)

/-- a thing at hand that is the list of a name -/
theorem bo_own {Δ : List Slot} {S : L2.St} {δ : List Slot} {i : Nat} {d : D} {v : V} (W : Wd K en Δ S G H) (hpre : ∀ (j : Nat) sl, δ[j]? = some sl → Δ[j]? = some sl) (h : SlotOk K en S G H (.bo i) (some v)) (r : (Slot.bo i).rd δ = some d) :
    ∃ p, v = .ref p ∧ Own Δ S i p ∧ i < δ.length ∧ G p = none ∧ MRep K G H d p := by
  obtain ⟨_, h1, p, e⟩ := h
  cases e
  have r' : (match δ[i]? with | some (Slot.mu d) => some d | some (Slot.mp _ d) => some d | _ => none) = some d := r
  split at r'
  · rename_i e2
    cases r'
    have e3 := hpre _ _ e2
    have q := W.slot i _ _ e3 h1
    obtain ⟨p', e4, n, _, _, q⟩ := q
    cases e4
    exact ⟨p, rfl, ⟨_, e3, rfl, h1⟩, (List.getElem?_eq_some_iff.mp e2).1, n, q⟩
  · rename_i e2
    cases r'
    have e3 := hpre _ _ e2
    have q := W.slot i _ _ e3 h1
    obtain ⟨p', e4, _, n, _, q⟩ := q
    cases e4
    exact ⟨p, rfl, ⟨_, e3, rfl, h1⟩, (List.getElem?_eq_some_iff.mp e2).1, n, q⟩
  · cases r'
theorem MRep.vF {F0 : Hp} : ∀ {d : D} {p : Addr}, MRep K G H d p → F0 p = H p → VRep K G F0 d (.ref p)
  | .lst ds, p, h, e => by obtain ⟨vs, e', r⟩ := h; exact ⟨p, vs, rfl, e.trans e', r⟩
  | .dic ds, p, h, e => by obtain ⟨vs, e', r⟩ := h; exact ⟨p, vs, rfl, e.trans e', r⟩
  | .non, _, h, _ => h.elim
  | .bl _, _, h, _ => h.elim
  | .int _, _, h, _ => h.elim
  | .str _, _, h, _ => h.elim
  | .tup _, _, h, _ => h.elim
  | .scr _, _, h, _ => h.elim
  | .exc _ _, _, h, _ => h.elim
  | .obj _ _, _, h, _ => h.elim
theorem ca_ok {Δ : List Slot} {S : L2.St} {δ : List Slot} (W : Wd K en Δ S G H) (hpre : ∀ (j : Nat) sl, δ[j]? = some sl → Δ[j]? = some sl) : ∀ {ks : List Kd} {sls : List Slot} {vs : List V} {ds : List D} {is : List Nat}, CA δ ks sls = some (ds, is) → sls.length = vs.length →
    (∀ (i : Nat) sl v, sls[i]? = some sl → vs[i]? = some v → SlotOk K en S G H sl (some v)) →
    ∃ ps, is.length = ps.length ∧ (∀ (l i : Nat), is[l]? = some i → ∃ p, ps[l]? = some p ∧ Own Δ S i p ∧ i < δ.length) ∧
      ∀ F0, Sub G F0 → Sub en.F0 F0 → (∀ (l : Nat) sl p, ks[l]? = some .b → sls[l]? = some sl → vs[l]? = some (.ref p) → (sl.own = true ∨ ∃ j, sl = .bo j) → F0 p = H p) → ArgsOk K G H F0 ks ds vs ps
  | [], [], [], ds, is, h, _, _ => by
    cases h
    exact ⟨[], rfl, fun l i e => by simp at e, fun _ _ _ _ => trivial⟩
  | .f :: ks, .fr d :: r, v :: vs, ds, is, h, hl, hq => by
    unfold CA at h
    split at h
    · rename_i ds' is' e
      cases h
      obtain ⟨ps, h1, h2, h3⟩ := ca_ok W hpre (vs := vs) e (by simpa using hl) (fun i sl v a b => hq (i + 1) sl v (by simpa using a) (by simpa using b))
      obtain ⟨u, eu, ru⟩ := hq 0 _ v rfl rfl
      cases eu
      exact ⟨ps, h1, h2, fun F0 s1 s2 s3 => ⟨ru, h3 F0 s1 s2 fun l sl p a b c d => s3 (l + 1) sl p (by simpa using a) (by simpa using b) (by simpa using c) d⟩⟩
    · cases h
  | .b :: ks, s :: r, v :: vs, ds, is, h, hl, hq => by
    unfold CA at h
    split at h
    · rename_i d ds' is' e0 e
      cases h
      obtain ⟨ps, h1, h2, h3⟩ := ca_ok W hpre (vs := vs) e (by simpa using hl) (fun i sl v a b => hq (i + 1) sl v (by simpa using a) (by simpa using b))
      have q := hq 0 _ v rfl rfl
      refine ⟨ps, h1, h2, fun F0 s1 s2 s3 => ⟨?_, h3 F0 s1 s2 fun l sl p a b c d => s3 (l + 1) sl p (by simpa using a) (by simpa using b) (by simpa using c) d⟩⟩
      cases s with
      | un => cases e0
      | fr d' => cases e0; obtain ⟨u, eu, ru⟩ := q; cases eu; exact BRep.of s1 ru
      | bw d' => cases e0; obtain ⟨u, eu, ru⟩ := q; cases eu; exact BRep.sub (Sub.refl _) s2 ru
      | mu d' =>
        cases e0
        obtain ⟨p, eu, _, _, _, ru⟩ := q
        cases eu
        exact BRep.mk (ru.vF (s3 0 _ p rfl rfl rfl (.inl rfl))) ru.notup
      | mp j d' =>
        cases e0
        obtain ⟨p, eu, _, _, _, ru⟩ := q
        cases eu
        exact BRep.mk (ru.vF (s3 0 _ p rfl rfl rfl (.inl rfl))) ru.notup
      | bo j =>
        obtain ⟨p, ev, _, _, _, ru⟩ := bo_own W hpre q e0
        subst ev
        exact BRep.mk (ru.vF (s3 0 _ p rfl rfl rfl (.inr ⟨_, rfl⟩))) ru.notup
    · cases h
  | .m :: ks, .bo j :: r, v :: vs, ds, is, h, hl, hq => by
    unfold CA at h
    split at h
    · rename_i d ds' is' e0 e
      cases h
      obtain ⟨ps, h1, h2, h3⟩ := ca_ok W hpre (vs := vs) e (by simpa using hl) (fun i sl v a b => hq (i + 1) sl v (by simpa using a) (by simpa using b))
      obtain ⟨p, ev, ow, hj, n, ru⟩ := bo_own W hpre (hq 0 _ v rfl rfl) e0
      subst ev
      refine ⟨p :: ps, by simp [h1], fun l i e => ?_, fun F0 s1 s2 s3 => ⟨⟨rfl, n, ru⟩, h3 F0 s1 s2 fun l sl p a b c d => s3 (l + 1) sl p (by simpa using a) (by simpa using b) (by simpa using c) d⟩⟩
      cases l with
      | zero =>
        have e' : j = i := by simpa using e
        subst e'
        exact ⟨p, rfl, ow, hj⟩
      | succ l =>
        obtain ⟨p', a, b⟩ := h2 l i (by simpa using e)
        exact ⟨p', by simpa using a, b⟩
    · cases h
  | [], _ :: _, _, _, _, h, _, _ => by cases h
  | [], [], _ :: _, _, _, _, h, _ => nomatch h
  | .f :: _, [], _, _, _, h, _, _ => by cases h
  | .b :: _, [], _, _, _, h, _, _ => by cases h
  | .m :: _, [], _, _, _, h, _, _ => by cases h
  | _ :: _, _ :: _, [], _, _, _, h, _ => nomatch h
  | .f :: _, .un :: _, _ :: _, _, _, h, _, _ => by cases h
  | .f :: _, .mu _ :: _, _ :: _, _, _, h, _, _ => by cases h
  | .f :: _, .mp _ _ :: _, _ :: _, _, _, h, _, _ => by cases h
  | .f :: _, .bw _ :: _, _ :: _, _, _, h, _, _ => by cases h
  | .f :: _, .bo _ :: _, _ :: _, _, _, h, _, _ => by cases h
  | .m :: _, .un :: _, _ :: _, _, _, h, _, _ => by cases h
  | .m :: _, .fr _ :: _, _ :: _, _, _, h, _, _ => by cases h
  | .m :: _, .mu _ :: _, _ :: _, _, _, h, _, _ => by cases h
  | .m :: _, .mp _ _ :: _, _ :: _, _, _, h, _, _ => by cases h
  | .m :: _, .bw _ :: _, _ :: _, _, _, h, _, _ => by cases h

theorem ca_bo : ∀ {δ : List Slot} {ks : List Kd} {sls : List Slot} {ds : List D} {is : List Nat} {l j : Nat}, CA δ ks sls = some (ds, is) → ks[l]? = some .b → sls[l]? = some (.bo j) → ∃ d, (Slot.bo j).rd δ = some d
  | δ, .b :: ks, s :: r, ds, is, 0, j, h, _, e => by
    have e' : s = .bo j := by simpa using e
    subst e'
    unfold CA at h
    split at h
    · rename_i d _ _ e0 _
      exact ⟨d, e0⟩
    · cases h
  | δ, .b :: ks, s :: r, ds, is, l + 1, j, h, e1, e => by
    unfold CA at h
    split at h
    · rename_i d _ _ e0 e2
      exact ca_bo (l := l) e2 (by simpa using e1) (by simpa using e)
    · cases h
  | δ, .f :: ks, .fr _ :: r, ds, is, l + 1, j, h, e1, e => by
    unfold CA at h
    split at h
    · rename_i _ _ e2
      exact ca_bo (l := l) e2 (by simpa using e1) (by simpa using e)
    · cases h
  | δ, .m :: ks, .bo _ :: r, ds, is, l + 1, j, h, e1, e => by
    unfold CA at h
    split at h
    · rename_i d _ _ e0 e2
      exact ca_bo (l := l) e2 (by simpa using e1) (by simpa using e)
    · cases h
  | δ, .f :: ks, _, ds, is, 0, j, h, e1, e => by simp at e1
  | δ, .m :: ks, _, ds, is, 0, j, h, e1, e => by simp at e1
  | δ, [], _, ds, is, _, j, h, e1, e => by simp at e1
  | δ, .b :: ks, [], ds, is, _, j, h, e1, e => by simp at e
  | δ, .f :: ks, [], ds, is, _, j, h, e1, e => by simp at e
  | δ, .m :: ks, [], ds, is, _, j, h, e1, e => by simp at e
  | δ, .f :: _, .un :: _, _, _, _ + 1, _, h, _, _ => by cases h
  | δ, .f :: _, .mu _ :: _, _, _, _ + 1, _, h, _, _ => by cases h
  | δ, .f :: _, .mp _ _ :: _, _, _, _ + 1, _, h, _, _ => by cases h
  | δ, .f :: _, .bw _ :: _, _, _, _ + 1, _, h, _, _ => by cases h
  | δ, .f :: _, .bo _ :: _, _, _, _ + 1, _, h, _, _ => by cases h
  | δ, .m :: _, .un :: _, _, _, _ + 1, _, h, _, _ => by cases h
  | δ, .m :: _, .fr _ :: _, _, _, _ + 1, _, h, _, _ => by cases h
  | δ, .m :: _, .mu _ :: _, _, _, _ + 1, _, h, _, _ => by cases h
  | δ, .m :: _, .mp _ _ :: _, _, _, _ + 1, _, h, _, _ => by cases h
  | δ, .m :: _, .bw _ :: _, _, _, _ + 1, _, h, _, _ => by cases h

theorem putAll_len : ∀ {is : List Nat} {Δ : List Slot} {ds : List D}, (putAll Δ is ds).length = Δ.length
  | [], _, _ => rfl
  | _ :: _, _, [] => rfl
  | i :: is, Δ, d :: ds => by
    unfold putAll
    rw [putAll_len, List.length_set]
theorem putAll_app {τ : List Slot} : ∀ {is : List Nat} {Δ : List Slot} {ds : List D}, (∀ i, i ∈ is → i < Δ.length) → putAll (Δ ++ τ) is ds = putAll Δ is ds ++ τ
  | [], _, _, _ => rfl
  | _ :: _, _, [], _ => rfl
  | i :: is, Δ, d :: ds, h => by
    have hi := h i List.mem_cons_self
    unfold putAll
    rw [List.set_append_left _ _ hi, putAll_app fun j hj => by rw [List.length_set]; exact h j (List.mem_cons_of_mem _ hj)]
    congr 3
    rw [List.getD_eq_getElem?_getD, List.getD_eq_getElem?_getD, List.getElem?_append_left hi]
/-- one list changed, or as it was -/
theorem putAll_get : ∀ {is : List Nat} {Δ : List Slot} {ds : List D} {j : Nat}, is.Nodup → is.length = ds.length →
    (j ∉ is ∧ (putAll Δ is ds)[j]? = Δ[j]?) ∨ ∃ (l : Nat) (d : D), is[l]? = some j ∧ ds[l]? = some d ∧ (putAll Δ is ds)[j]? = (Δ[j]?).map (·.put d)
  | [], _, _, j, _, _ => .inl ⟨by simp, rfl⟩
  | _ :: _, _, [], _, _, h => nomatch h
  | i :: is, Δ, d :: ds, j, nd, hl => by
    unfold putAll
    have nd' := List.nodup_cons.mp nd
    rcases putAll_get (Δ := Δ.set i ((Δ.getD i .un).put d)) (ds := ds) (j := j) nd'.2 (by simpa using hl) with ⟨h1, h2⟩ | ⟨l, d', h1, h2, h3⟩
    · by_cases hj : j = i
      · subst hj
        refine .inr ⟨0, d, rfl, rfl, ?_⟩
        rw [h2]
        by_cases hj : j < Δ.length
        · rw [List.getElem?_set_self hj, List.getD_eq_getElem?_getD, List.getElem?_eq_getElem hj]; rfl
        · rw [List.getElem?_eq_none (by rw [List.length_set]; omega), List.getElem?_eq_none (by omega)]; rfl
      · refine .inl ⟨fun z => ?_, ?_⟩
        · rcases List.mem_cons.mp z with z | z
          · exact hj z
          · exact h1 z
        · rw [h2, List.getElem?_set_ne (Ne.symm hj)]
    · have hj : j ≠ i := fun z => by subst z; exact nd'.1 (List.mem_of_getElem? h1)
      refine .inr ⟨l + 1, d', by simpa using h1, by simpa using h2, ?_⟩
      rw [h3, List.getElem?_set_ne (Ne.symm hj)]
theorem OutsOk.get {G' H' : Hp} : ∀ {ds : List D} {ps : List Addr}, OutsOk K G' H' ds ps → ds.length = ps.length ∧ ∀ (l : Nat) d p, ds[l]? = some d → ps[l]? = some p → G' p = none ∧ MRep K G' H' d p
  | [], [], _ => ⟨rfl, fun l d p h _ => by simp at h⟩
  | d :: ds, p :: ps, h => by
    obtain ⟨h1, h2⟩ := OutsOk.get h.2
    refine ⟨by simp [h1], fun l d' p' a b => ?_⟩
    cases l with
    | zero =>
      have e1 : d = d' := by simpa using a
      have e2 : p = p' := by simpa using b
      subst e1 e2
      exact h.1
    | succ l => exact h2 l d' p' (by simpa using a) (by simpa using b)
  | [], _ :: _, h => h.elim
  | _ :: _, [], h => h.elim
theorem Wd.called {Δ : List Slot} {S : L2.St} {G' H' : Hp} {is : List Nat} {ps : List Addr} {ods : List D} (W : Wd K en Δ S G H) (po : Post G H G' H' ps) (hl : is.length = ps.length) (hi : ∀ (l i : Nat), is[l]? = some i → ∃ p, ps[l]? = some p ∧ Own Δ S i p) (nd : is.Nodup)
    (ou : OutsOk K G' H' ods ps) : Wd K en (putAll Δ is ods) S G' H' := by
  obtain ⟨ol, og⟩ := ou.get
  have psOwn : ∀ p, p ∈ ps → ∃ i, i ∈ is ∧ Own Δ S i p := fun p hp => by
    obtain ⟨l, hl2⟩ := List.getElem?_of_mem hp
    have hll : l < is.length := by rw [hl]; exact (List.getElem?_eq_some_iff.mp hl2).1
    obtain ⟨q, e, o⟩ := hi l is[l] (List.getElem?_eq_getElem hll)
    rw [hl2] at e
    cases e
    exact ⟨_, List.getElem_mem hll, o⟩
  have ownF : ∀ {i p}, Own Δ S i p → en.F0 p = none ∧ G p = none := fun {i p} ⟨sl, e1, e2, e3⟩ => by
    have q := W.slot i sl _ e1 e3
    cases sl with
    | mu d => obtain ⟨p2, e, n, f, _, r⟩ := q; cases e; exact ⟨f, n⟩
    | mp _ d => obtain ⟨p2, e, _, n, f, r⟩ := q; cases e; exact ⟨f, n⟩
    | un => cases e2
    | fr _ => cases e2
    | bw _ => cases e2
    | bo _ => cases e2
  have stillNone : ∀ {p : Addr}, G p = none → H p ≠ none → G' p = none := fun {p} a b => by
    cases z : G' p with
    | none => rfl
    | some o =>
      rcases po.new p o z with q | q
      · rw [a] at q; cases q
      · exact (b q).elim
  have old : ∀ {j : Nat} {sl : Slot} {o : Option V}, Δ[j]? = some sl → S[j]? = some o → (j ∉ is ∨ sl.own = false) → SlotOk K en S G' H' sl o := fun {j sl o} h1 h2 h3 => by
    have q := W.slot j sl o h1 h2
    have np : ∀ p, sl.own = true → o = some (.ref p) → p ∉ ps := fun p a b hp => by
      obtain ⟨i, m, ow⟩ := psOwn p hp
      subst b
      have := W.apart i j p ow ⟨sl, h1, a, h2⟩
      subst this
      rcases h3 with z | z
      · exact z m
      · rw [a] at z; cases z
    cases sl with
    | un => trivial
    | fr d => obtain ⟨v, e, r⟩ := q; exact ⟨v, e, Rep.sub po.g _ _ r⟩
    | mu d =>
      obtain ⟨p, e, n, f, f2, r⟩ := q
      obtain ⟨ob, eo⟩ := r.ex
      exact ⟨p, e, stillNone n (by rw [eo]; simp), f, f2, r.keep po.g fun o' z => po.frm p o' z (np p rfl e)⟩
    | mp l d =>
      obtain ⟨p, e, f2, n, f, r⟩ := q
      obtain ⟨ob, eo⟩ := r.ex
      exact ⟨p, e, f2, stillNone n (by rw [eo]; simp), f, r.keep po.g fun o' z => po.frm p o' z (np p rfl e)⟩
    | bw d => obtain ⟨v, e, r⟩ := q; exact ⟨v, e, BRep.sub po.g (Sub.refl _) r⟩
    | bo l => exact q
  refine ⟨putAll_len.trans W.len, po.gh, W.ext.trans po.g, fun a o e => ?_, fun a o e => ?_, fun a h => ?_, W.nd, fun j sl o h1 h2 => ?_, fun i j p h1 h2 => ?_⟩
  · rcases po.new a o e with q | q
    · exact W.new a o q
    · exact .inr (W.fresh q).2
  · refine po.frm a o (W.frm a o e) fun hp => ?_
    obtain ⟨i, _, ow⟩ := psOwn a hp
    rw [(ownF ow).1] at e; cases e
  · cases z : H a with
    | none => exact fun _ => W.stay a h z
    | some o =>
      by_cases hp : a ∈ ps
      · obtain ⟨l, hl2⟩ := List.getElem?_of_mem hp
        have hll : l < ods.length := by rw [ol]; exact (List.getElem?_eq_some_iff.mp hl2).1
        obtain ⟨_, r⟩ := og l _ a (List.getElem?_eq_getElem hll) hl2
        obtain ⟨o', e⟩ := r.ex
        rw [e]; simp
      · rw [po.frm a o z hp]; simp
  · rcases putAll_get (Δ := Δ) (ds := ods) (j := j) nd (hl.trans ol.symm) with ⟨n, e⟩ | ⟨l, d, e1, e2, e3⟩
    · rw [e] at h1
      exact old h1 h2 (.inl n)
    · obtain ⟨p, hp, sl0, e4, e5, e6⟩ := hi l j e1
      rw [e3, e4] at h1
      cases h1
      rw [e6] at h2
      cases h2
      obtain ⟨g1, r1⟩ := og l d p e2 hp
      have q := W.slot j sl0 _ e4 e6
      cases sl0 with
      | mu d0 => obtain ⟨p2, e, n, f, f2, r⟩ := q; cases e; exact ⟨p, rfl, g1, f, f2, r1⟩
      | mp x d0 => obtain ⟨p2, e, f2, n, f, r⟩ := q; cases e; exact ⟨p, rfl, f2, g1, f, r1⟩
      | un => cases e5
      | fr _ => cases e5
      | bw _ => cases e5
      | bo _ => cases e5
  · have key : ∀ (i : Nat), Own (putAll Δ is ods) S i p → Own Δ S i p := fun i ⟨sl, e1, e2, e3⟩ => by
      rcases putAll_get (Δ := Δ) (ds := ods) (j := i) nd (hl.trans ol.symm) with ⟨n, e⟩ | ⟨l, d, f1, f2, f3⟩
      · rw [e] at e1
        exact ⟨sl, e1, e2, e3⟩
      · obtain ⟨_, _, sl0, e4, e5, e6⟩ := hi l i f1
        exact ⟨sl0, e4, e5, e3⟩
    exact W.apart i j p (key i h1) (key j h2)
end

section
variable {X : Cx} {en : Kn} {δ τ : List Slot} {R : Type} {C : Slot → List Slot → Res R → Prop} {m : Res R}
abbrev Slot.ret (mu : Bool) (d : D) : Slot := match mu with
  | true => .mu d
  | false => .fr d
/-- as JA, for any reading -/
structure JAr (X : Cx) (en : Kn) (δ τ : List Slot) (t : TA) {R : Type} (C : List Slot → List Slot → Res R → Prop) (m : Res R) : Prop where
  run : m ≠ .bad → en.HX m.exc → ∀ (σ ts : L2.St) (G H : Hp) (T : List V → Hp → Prop), δ.length = en.n → σ.length = en.n → Wd X.K en (δ ++ τ) (σ ++ ts) G H →
    (∀ sls δ' vs G' H', C sls δ' m → δ'.length = en.n → Wd X.K en (δ' ++ τ ++ sls) (σ ++ ts ++ vs.map some) G' H' → T vs H') → t σ H T
/-- the errors that a call may let out -/
def OutE (X : Cx) (en : Kn) : XK := fun cls d H' => ∃ x, en.HX (some x) ∧ ExcOk X.mg en.F0 en.ps x cls d H' ∧ Sub en.F0 H'
theorem Lk.passes {X : Cx} {en : Kn} (l : Lk X en) : Passes (L2N.CX X.prog X.w) X (OutE X en) := by
  obtain ⟨WW, tk, hW⟩ := l
  exact L2N.passes_call tk fun cls d σ H ⟨x, h1, h2, h3⟩ => hW x h1 cls d σ H h2 h3
/-- a call's reading -/
theorem call_run {t : TA} {ks : List Kd} {α : Type} {den : List D → Res α} {val : α → D} {outs : α → List D} {mu : Bool}
    (h : JAr X en δ τ t (fun sls δ1 m1 => ∃ ds is k, ∃ pe : α → List Slot, CA δ1 ks sls = some (ds, is) ∧ sep ks sls is = true ∧ is.Nodup ∧ m1 = (den ds).bind k ∧ (∀ a, putAll δ1 is (outs a) = pe a) ∧ ∀ a, den ds = .ok a → C (.ret mu (val a)) (pe a) (k a)) m)
    (hb : m ≠ .bad) (hx : en.HX m.exc) {σ ts : L2.St} {G H : Hp} {T : VK} (hl : δ.length = en.n) (hσ : σ.length = en.n) (W : Wd X.K en (δ ++ τ) (σ ++ ts) G H)
    (q : ∀ sl δ' v G' H', C sl δ' m → δ'.length = en.n → Wd X.K en (δ' ++ τ ++ [sl]) (σ ++ ts ++ [some v]) G' H' → T v H') : tCall (SpD X.K X.mg ks den val outs mu) [] (OutE X en) t σ H T := by
  have ht : τ.length = ts.length := W.splitLen (hl.trans hσ.symm)
  refine h.run hb hx σ ts G H _ hl hσ W fun sls δ1 vs G1 H1 c1 hl1 W1 => ?_
  obtain ⟨ds, is, k, pe, hca, hsep, nd, em, hpe, hk⟩ := c1
  obtain ⟨hn, hq⟩ := W1.endSlots (hl1.trans hσ.symm) ht
  have pre : ∀ (j : Nat) sl, δ1[j]? = some sl → (δ1 ++ τ ++ sls)[j]? = some sl := fun j sl e => by
    rw [List.append_assoc, List.getElem?_append_left (List.getElem?_eq_some_iff.mp e).1]; exact e
  obtain ⟨ps, hlen, hown, hargs⟩ := ca_ok W1 pre hca hn hq
  have W2 := W1.cut (Δ := δ1 ++ τ) (S := σ ++ ts) (by rw [List.length_append, List.length_append]; omega) (by rw [List.length_append]; omega)
  have hown2 : ∀ (l i : Nat), is[l]? = some i → ∃ p, ps[l]? = some p ∧ Own (δ1 ++ τ) (σ ++ ts) i p := fun l i e => by
    obtain ⟨p, e1, ⟨sl, e2, e3, e4⟩, hi⟩ := hown l i e
    refine ⟨p, e1, sl, ?_, e3, ?_⟩
    · rw [List.getElem?_append_left (by rw [List.length_append]; omega)] at e2; exact e2
    · rw [List.getElem?_append_left (by rw [List.length_append]; omega)] at e4; exact e4
  have psOwn : ∀ p, p ∈ ps → ∃ i, i ∈ is ∧ i < δ1.length ∧ Own (δ1 ++ τ ++ sls) (σ ++ ts ++ vs.map some) i p := fun p hp => by
    obtain ⟨l, hl2⟩ := List.getElem?_of_mem hp
    have hll : l < is.length := by rw [hlen]; exact (List.getElem?_eq_some_iff.mp hl2).1
    obtain ⟨p', e, o, hi⟩ := hown l is[l] (List.getElem?_eq_getElem hll)
    rw [hl2] at e
    cases e
    exact ⟨_, List.getElem_mem hll, hi, o⟩
  have ownF : ∀ {i p}, Own (δ1 ++ τ ++ sls) (σ ++ ts ++ vs.map some) i p → en.F0 p = none ∧ G1 p = none := fun {i p} ⟨sl, e1, e2, e3⟩ => by
    have z := W1.slot i sl _ e1 e3
    cases sl with
    | mu d => obtain ⟨p2, e, n, f, _, r⟩ := z; cases e; exact ⟨f, n⟩
    | mp _ d => obtain ⟨p2, e, _, n, f, r⟩ := z; cases e; exact ⟨f, n⟩
    | un => cases e2
    | fr _ => cases e2
    | bw _ => cases e2
    | bo _ => cases e2
  have ndp : ps.Nodup := by
    refine List.pairwise_iff_getElem.mpr fun a b ha2 hb2 hab he => ?_
    have hbi : b < is.length := by rw [hlen]; exact hb2
    obtain ⟨p1, x1, o1, _⟩ := hown a is[a] (List.getElem?_eq_getElem (by omega))
    obtain ⟨p2, x2, o2, _⟩ := hown b is[b] (List.getElem?_eq_getElem hbi)
    rw [List.getElem?_eq_getElem ha2] at x1
    rw [List.getElem?_eq_getElem hb2] at x2
    cases x1
    cases x2
    rw [he] at o1
    have := W1.apart _ _ _ o1 o2
    have := (List.getElem_inj nd).mp this
    omega
  have hsubG : Sub G1 (hide H1 ps) := fun a o e => by
    by_cases hp : a ∈ ps
    · obtain ⟨i, _, _, ow⟩ := psOwn a hp
      rw [(ownF ow).2] at e; cases e
    · rw [hide_some hp]; exact W1.sub a o e
  have hsubF : Sub en.F0 (hide H1 ps) := fun a o e => by
    by_cases hp : a ∈ ps
    · obtain ⟨i, _, _, ow⟩ := psOwn a hp
      rw [(ownF ow).1] at e; cases e
    · rw [hide_some hp]; exact W1.frm a o e
  have ha := hargs (hide H1 ps) hsubG hsubF fun l sl p a b c d => by
    refine hide_some fun hp => ?_
    obtain ⟨i, him, hi, ow⟩ := psOwn p hp
    rcases d with d | ⟨j, d⟩
    · have e2 : (δ1 ++ τ ++ sls)[(δ1 ++ τ).length + l]? = some sl := by
        rw [List.getElem?_append_right (Nat.le_add_right _ _), Nat.add_sub_cancel_left]; exact b
      have e3 : (σ ++ ts ++ vs.map some)[(δ1 ++ τ).length + l]? = some (some (V.ref p)) := by
        have z : (δ1 ++ τ).length = (σ ++ ts).length := by rw [List.length_append, List.length_append]; omega
        rw [z, List.getElem?_append_right (Nat.le_add_right _ _), Nat.add_sub_cancel_left, List.getElem?_map, c]; rfl
      have := W1.apart i _ p ow ⟨sl, e2, d, e3⟩
      rw [List.length_append] at this
      omega
    · subst d
      have hj := sep_get hsep a b
      have z := hq l _ _ b c
      obtain ⟨_, z1, p', z2⟩ := z
      cases z2
      -- the name's own slot
      have hrd : ∃ d, (Slot.bo j).rd δ1 = some d := ca_bo hca a b
      obtain ⟨d, hd⟩ := hrd
      obtain ⟨p3, e3, ow3, _⟩ := bo_own W1 pre (hq l _ _ b c) hd
      cases e3
      have := W1.apart i j p ow ow3
      subst this
      exact hj him
  rw [List.append_nil]
  have hb' := hb
  rw [em] at hb'
  have hx' := hx
  rw [em] at hx'
  obtain ⟨hbd, hxd⟩ := bind_exc hb' hx'
  obtain ⟨l1, l2⟩ := args_len ha
  refine ⟨l2, G1, ps, ds, den ds, W1.sub, ndp, ha, rfl, hbd, fun a ea v G' H' po ou re => ?_, fun x ex cls d H' he hs => ?_⟩
  · have em' : m = k a := by rw [em, ea]; rfl
    have W3 := W2.called po hlen hown2 nd ou
    rw [putAll_app fun i hi => by
      obtain ⟨l, e⟩ := List.getElem?_of_mem hi
      exact (hown l i e).choose_spec.2.2, hpe a] at W3
    have hl3 : (pe a).length = en.n := by rw [← hpe a, putAll_len]; exact hl1
    refine q (.ret mu (val a)) (pe a) v G' H' (by rw [em']; exact hk a ea) hl3 ?_
    refine W3.more ?_ ?_
    · unfold RetOk at re
      cases mu with
      | true =>
        obtain ⟨p, e, n1, n2, r⟩ := re
        exact ⟨p, by rw [e], n2, (W2.fresh n1).2.1, (W2.fresh n1).2.2, r⟩
      | false => exact ⟨v, rfl, re⟩
    · intro p j e1 e2 ow
      unfold RetOk at re
      cases mu with
      | true =>
        obtain ⟨p', e, n1, n2, r⟩ := re
        cases e2
        cases e
        have : ∃ j', Own (δ1 ++ τ) (σ ++ ts) j' p := by
          obtain ⟨sl, f1, f2, f3⟩ := ow
          rw [← hpe a, ← putAll_app fun i hi => by
            obtain ⟨l, e⟩ := List.getElem?_of_mem hi
            exact (hown l i e).choose_spec.2.2] at f1
          rcases putAll_get (Δ := δ1 ++ τ) (ds := outs a) (j := j) nd (hlen.trans ou.get.1.symm) with ⟨n, e⟩ | ⟨l, d, g1, g2, g3⟩
          · rw [e] at f1
            exact ⟨j, sl, f1, f2, f3⟩
          · obtain ⟨_, _, sl0, e4, e5, e6⟩ := hown2 l j g1
            exact ⟨j, sl0, e4, e5, f3⟩
        obtain ⟨j', ow'⟩ := this
        obtain ⟨o, z⟩ := W2.ownThere ow'
        rw [n1] at z; cases z
      | false => cases e1
  · have em' : m = .raise x := by rw [em, ex]; rfl
    rw [em'] at hx
    exact ⟨x, hx, W1.exc he, hsubF.trans hs⟩
/-- a call of a def -/
theorem call_D {e : Expr} {t : TA} {ks : List Kd} {α : Type} {den : List D → Res α} {val : α → D} {outs : α → List D} {mu : Bool} (hL : Lk X en)
    (rule : ∀ {E : XK}, Passes (L2N.CX X.prog X.w) X E → PE X e (tCall (SpD X.K X.mg ks den val outs mu) [] E t))
    (h : JAr X en δ τ t (fun sls δ1 m1 => ∃ ds is k, ∃ pe : α → List Slot, CA δ1 ks sls = some (ds, is) ∧ sep ks sls is = true ∧ is.Nodup ∧ m1 = (den ds).bind k ∧ (∀ a, putAll δ1 is (outs a) = pe a) ∧ ∀ a, den ds = .ok a → C (.ret mu (val a)) (pe a) (k a)) m) :
    JE X en δ τ e C m := .mk fun hb hx σ ts G H T hl hσ W q => we_of (rule hL.passes) (call_run h hb hx hl hσ W q)
end
end BR

/-! K9: a def's facts in one, comprehensions -/
namespace BR
open PySem PySem.Spec PyProof.Rows L2

/-- a def of the module that keeps its promise -/
def Df (P : Program) (w : World) (K : PySem.W.Frag) (mg : Str → Option Value) (base : Heap) (k : Nat) (x : Str) (ks : List Kd) {α : Type} (den : List D → Res α) (val : α → D) (outs : α → List D) (mu : Bool) : Prop :=
  ∃ (f : Addr) (fd : FuncData) (psn : List Str), FnG P w K mg base k f fd psn (SpD K mg ks den val outs mu) ∧ mg x = some (.ref f) ∧ PySem.W.keepIn K (.ref f) = true ∧ Binds K fd psn []
section
variable {X : Cx} {en : Kn} {δ τ : List Slot} {R : Type} {C : Slot → List Slot → Res R → Prop} {m : Res R} {K : PySem.W.Frag}
theorem je_call {k : Nat} {x : Str} {p pos : Pos} {e : Expr} {es : List Expr} {ks : List Kd} {α : Type} {den : List D → Res α} {val : α → D} {outs : α → List D} {mu : Bool}
    (F : Df X.prog X.w X.K X.mg X.base k x ks den val outs mu) (hr : RoomG k X.A) (hL : Lk X en)
    (h : JA X en δ τ (e :: es) (fun sls δ1 m1 => ∃ ds is k, ∃ pe : α → List Slot, CA δ1 ks sls = some (ds, is) ∧ sep ks sls is = true ∧ is.Nodup ∧ m1 = (den ds).bind k ∧ (∀ a, putAll δ1 is (outs a) = pe a) ∧ ∀ a, den ds = .ok a → C (.ret mu (val a)) (pe a) (k a)) m)
    (hg : Gl X x := by rfl) (hdb : (x == ("__debug__" : Str)) = false := by decide) (he : starEach (e :: es) X.env = (false, eval e X.env) :: starEach es X.env := by exact star_plain rfl) (hpl : (backTo pos (starEach es X.env)).any (·.1) = false := by rfl) :
    JE X en δ τ (.Call (.Name x p) (e :: es) [] pos) C m := by
  obtain ⟨f, fd, psn, hf, hm, hk, hb⟩ := F
  exact call_D (t := WA X (e :: es)) hL (fun hx => pe_callG hf hr hg hm hk hb .nil hx pa_wa hdb he hpl) ⟨h.run⟩
end

/-! ### comprehensions -/
/-- a walk that keeps what f gives, with a state -/
def lcF {S : Type} : List D → S → List D → (D → S → Res (Option D × S)) → Res (List D × S)
  | [], s, acc, _ => .ok (acc, s)
  | d :: ds, s, acc, f => match f d s with
    | .ok (some y, s') => if acc.length < sizeLine then lcF ds s' (acc ++ [y]) f else .bad
    | .ok (none, s') => lcF ds s' acc f
    | _ => .bad
def lcM (ds : List D) (f : D → Res D) : Res (List D) := (lcF ds () [] fun d _ => (f d).bind fun y => .ok (some y, ())).bind fun p => .ok p.1
def lcO (ds : List D) (f : D → Res (Option D)) : Res (List D) := (lcF ds () [] fun d _ => (f d).bind fun y => .ok (y, ())).bind fun p => .ok p.1
def lcS {S : Type} (ds : List D) (s : S) (f : D → S → Res (D × S)) : Res (List D × S) := lcF ds s [] fun d s => (f d s).bind fun y => .ok (some y.1, y.2)
/-- the block's own names aren't known in it -/
def wipeS (δ : List Slot) : List Nat → List Slot
  | [] => δ
  | v :: vs => (wipeS δ vs).set v .un
/-- .. and are as they were behind it -/
def rst (δ1 : List Slot) : List Nat → List Slot → List Slot
  | [], δ => δ
  | v :: vs, δ => (rst δ1 vs δ).set v (match δ1[v]? with
    | some (.fr d) => .fr d
    | some (.bw d) => .bw d
    | _ => .un)
structure KnB (en en' : Kn) : Prop where
  n : en'.n = en.n
  F0 : en'.F0 = en.F0
  ps : en'.ps = en.ps
  HX : en'.HX = fun o => o = none
abbrev Kn.blk (en : Kn) (G : Hp) : Kn := { n := en.n, G0 := G, F0 := en.F0, ps := en.ps, HX := fun o => o = none, h0 := rfl }
theorem KnB.lk {X : Cx} {en en' : Kn} (h : KnB en en') {s : Shared} {H : Hp} {scope : Scope} {cenv : Env} {fp : List Addr} : Lk (X.blk s H scope cenv fp) en' :=
  ⟨fun _ _ _ _ => False, takes0N, fun x hx => by rw [h.HX] at hx; cases hx⟩
section
variable {K : PySem.W.Frag} {en : Kn} {δ δ' τ Ξ : List Slot} {σ σ' ts us : L2.St} {G H G' H' : Hp}
theorem wipeS_len : ∀ (vs : List Nat), (wipeS δ vs).length = δ.length
  | [] => rfl
  | v :: vs => by unfold wipeS; rw [List.length_set, wipeS_len vs]
theorem rst_len {δ1 : List Slot} : ∀ (vs : List Nat), (rst δ1 vs δ).length = δ.length
  | [] => rfl
  | v :: vs => by unfold rst; rw [List.length_set, rst_len vs]
theorem wipe_get {i : Nat} : ∀ {vs : List Nat}, i ∉ vs → (wipe σ vs)[i]? = σ[i]?
  | [], _ => rfl
  | v :: vs, h => by
    unfold wipe
    rw [List.getElem?_set_ne (fun e => h (by rw [e]; exact List.mem_cons_self)), wipe_get fun z => h (List.mem_cons_of_mem _ z)]
theorem wipeS_get {i : Nat} {sl : Slot} : ∀ {vs : List Nat}, (wipeS δ vs)[i]? = some sl → sl = .un ∨ (i ∉ vs ∧ δ[i]? = some sl)
  | [], h => .inr ⟨by simp, h⟩
  | v :: vs, h => by
    unfold wipeS at h
    by_cases hi : v = i
    · subst hi
      by_cases hv : v < (wipeS δ vs).length
      · rw [List.getElem?_set_self hv] at h; cases h; exact .inl rfl
      · rw [List.getElem?_eq_none (by rw [List.length_set]; omega)] at h; cases h
    · rw [List.getElem?_set_ne hi] at h
      rcases wipeS_get h with z | ⟨z1, z2⟩
      · exact .inl z
      · refine .inr ⟨fun z => ?_, z2⟩
        rcases List.mem_cons.mp z with z | z
        · exact hi z.symm
        · exact z1 z
theorem rst_get {δ1 : List Slot} {i : Nat} {sl : Slot} : ∀ {vs : List Nat}, (rst δ1 vs δ)[i]? = some sl → (i ∉ vs ∧ δ[i]? = some sl) ∨ (i ∈ vs ∧ (sl = .un ∨ (δ1[i]? = some sl ∧ ((∃ d, sl = .fr d) ∨ ∃ d, sl = .bw d))))
  | [], h => .inl ⟨by simp, h⟩
  | v :: vs, h => by
    unfold rst at h
    by_cases hi : v = i
    · subst hi
      by_cases hv : v < (rst δ1 vs δ).length
      · rw [List.getElem?_set_self hv] at h
        refine .inr ⟨List.mem_cons_self, ?_⟩
        split at h
        · rename_i d e; cases h; exact .inr ⟨e, .inl ⟨d, rfl⟩⟩
        · rename_i d e; cases h; exact .inr ⟨e, .inr ⟨d, rfl⟩⟩
        · cases h; exact .inl rfl
      · rw [List.getElem?_eq_none (by rw [List.length_set]; omega)] at h; cases h
    · rw [List.getElem?_set_ne hi] at h
      rcases rst_get h with ⟨z1, z2⟩ | ⟨z1, z2⟩
      · refine .inl ⟨fun z => ?_, z2⟩
        rcases List.mem_cons.mp z with z | z
        · exact hi z.symm
        · exact z1 z
      · exact .inr ⟨List.mem_cons_of_mem _ z1, z2⟩
theorem wipe_eq {vs : List Nat} (h : ∀ j : Nat, j ∉ vs → σ'[j]? = σ[j]?) (hl : σ'.length = σ.length) : wipe σ' vs = wipe σ vs := by
  refine List.ext_getElem? fun j => ?_
  by_cases hj : j ∈ vs
  · have z : ∀ {σ : L2.St}, ∀ {vs : List Nat}, j ∈ vs → (wipe σ vs)[j]? = if j < σ.length then some none else none := fun {σ} => by
      intro vs
      induction vs with
      | nil => intro h; simp at h
      | cons v vs ih =>
        intro h
        unfold wipe
        by_cases e : v = j
        · subst e
          by_cases hv : v < σ.length
          · rw [List.getElem?_set_self (by rw [wipe_length]; exact hv), if_pos hv]
          · rw [List.getElem?_eq_none (by rw [List.length_set, wipe_length]; omega), if_neg hv]
        · rw [List.getElem?_set_ne e]
          rcases List.mem_cons.mp h with z | z
          · exact (e z.symm).elim
          · exact ih z
    rw [z hj, z hj, hl]
  · rw [wipe_get hj, wipe_get hj]
    exact h j hj
/-- the block's names forgotten -/
theorem Wd.wiped {vs : List Nat} (W : Wd K en (δ ++ τ) (σ ++ ts) G H) (hl : δ.length = en.n) (hσ : σ.length = en.n) (hb : noBo (δ ++ τ) = true) : Wd K en (wipeS δ vs ++ τ) (L2.wipe σ vs ++ ts) G H := by
  have hw : (L2.wipe σ vs).length = en.n := by rw [wipe_length]; exact hσ
  have hw2 : (wipeS δ vs).length = en.n := by rw [wipeS_len]; exact hl
  have get : ∀ (i : Nat) sl, (wipeS δ vs ++ τ)[i]? = some sl → sl = .un ∨ ((δ ++ τ)[i]? = some sl ∧ (L2.wipe σ vs ++ ts)[i]? = (σ ++ ts)[i]?) := fun i sl h => by
    by_cases hi : i < en.n
    · rw [List.getElem?_append_left (by omega)] at h
      rcases wipeS_get h with z | ⟨z1, z2⟩
      · exact .inl z
      · refine .inr ⟨by rw [List.getElem?_append_left (by omega)]; exact z2, ?_⟩
        rw [List.getElem?_append_left (by omega), List.getElem?_append_left (by omega), wipe_get z1]
    · rw [List.getElem?_append_right (by omega), hw2, ← hl, ← List.getElem?_append_right (by omega)] at h
      refine .inr ⟨h, ?_⟩
      rw [List.getElem?_append_right (by omega), List.getElem?_append_right (by omega), hw, hσ]
  refine ⟨?_, W.sub, W.ext, W.new, W.frm, W.stay, W.nd, fun i sl o h1 h2 => ?_, fun i j p h1 h2 => ?_⟩
  · have := W.len
    rw [List.length_append, List.length_append] at this ⊢
    omega
  · rcases get i sl h1 with z | ⟨z1, z2⟩
    · subst z; trivial
    · rw [z2] at h2
      have q := W.slot i sl o z1 h2
      cases sl with
      | bo j => exact (noBo_get hb z1).elim
      | un => trivial
      | fr d => exact q
      | mu d => exact q
      | mp _ d => exact q
      | bw d => exact q
  · have key : ∀ (i : Nat), Own (wipeS δ vs ++ τ) (L2.wipe σ vs ++ ts) i p → Own (δ ++ τ) (σ ++ ts) i p := fun i ⟨sl, e1, e2, e3⟩ => by
      rcases get i sl e1 with z | ⟨z1, z2⟩
      · subst z; cases e2
      · exact ⟨sl, z1, e2, by rw [← z2]; exact e3⟩
    exact W.apart i j p (key i h1) (key j h2)
theorem Wd.toBlk {Δ : List Slot} {S : L2.St} (W : Wd K en Δ S G H) : Wd K (en.blk G) Δ S G H :=
  ⟨W.len, W.sub, Sub.refl _, fun a o e => .inl e, W.frm, W.stay, W.nd, fun i sl o h1 h2 => by
    have q := W.slot i sl o h1 h2
    cases sl <;> exact q, W.apart⟩
/-- a list of one's own changed -/
theorem Wd.mut {Δ : List Slot} {S : L2.St} {i : Nat} {p : Addr} {o' : HO} {d' : D} (W : Wd K en Δ S G H) (ow : Own Δ S i p) (r : MRep K G (upd H p o') d' p) : Wd K en (Δ.set i ((Δ.getD i .un).put d')) S G (upd H p o') := by
  obtain ⟨sl0, e1, e2, e3⟩ := ow
  have hi := (List.getElem?_eq_some_iff.mp e1).1
  have own0 : Own Δ S i p := ⟨sl0, e1, e2, e3⟩
  have q0 := W.slot i sl0 _ e1 e3
  have fG : en.F0 p = none ∧ G p = none := by
    cases sl0 with
    | mu d => obtain ⟨p2, e, n, f, _, r⟩ := q0; cases e; exact ⟨f, n⟩
    | mp _ d => obtain ⟨p2, e, _, n, f, r⟩ := q0; cases e; exact ⟨f, n⟩
    | un => cases e2
    | fr _ => cases e2
    | bw _ => cases e2
    | bo _ => cases e2
  have hd : Δ.getD i .un = sl0 := by rw [List.getD_eq_getElem?_getD, e1]; rfl
  refine ⟨by rw [List.length_set]; exact W.len, fun a o e => ?_, W.ext, W.new, fun a o e => ?_, fun a h => ?_, W.nd, fun j sl o h1 h2 => ?_, fun j l q h1 h2 => ?_⟩
  · rw [upd_ne (fun z => by subst z; rw [fG.2] at e; cases e)]; exact W.sub a o e
  · rw [upd_ne (fun z => by subst z; rw [fG.1] at e; cases e)]; exact W.frm a o e
  · by_cases z : a = p
    · subst z; rw [upd_same]; simp
    · rw [upd_ne z]; exact W.stay a h
  · by_cases hj : j = i
    · subst hj
      rw [List.getElem?_set_self hi] at h1
      cases h1
      rw [e3] at h2
      cases h2
      rw [hd]
      cases sl0 with
      | mu d => obtain ⟨p2, e, n, f, f2, _⟩ := q0; cases e; exact ⟨p, rfl, n, f, f2, r⟩
      | mp x d => obtain ⟨p2, e, f2, n, f, _⟩ := q0; cases e; exact ⟨p, rfl, f2, n, f, r⟩
      | un => cases e2
      | fr _ => cases e2
      | bw _ => cases e2
      | bo _ => cases e2
    · rw [List.getElem?_set_ne (Ne.symm hj)] at h1
      have q := W.slot j sl o h1 h2
      have np : ∀ q, sl.own = true → o = some (.ref q) → q ≠ p := fun x a b z => by
        subst z b
        exact hj (W.apart j i x ⟨sl, h1, a, h2⟩ own0)
      cases sl with
      | un => trivial
      | fr d => exact q
      | mu d => obtain ⟨x, e, n, f, f2, r⟩ := q; exact ⟨x, e, n, f, f2, r.keep (Sub.refl _) fun o z => by rw [upd_ne (np x rfl e)]; exact z⟩
      | mp _ d => obtain ⟨x, e, f2, n, f, r⟩ := q; exact ⟨x, e, f2, n, f, r.keep (Sub.refl _) fun o z => by rw [upd_ne (np x rfl e)]; exact z⟩
      | bw d => exact q
      | bo _ => exact q
  · have key : ∀ (j : Nat), Own (Δ.set i ((Δ.getD i .un).put d')) S j q → Own Δ S j q := fun j ⟨sl, f1, f2, f3⟩ => by
      by_cases hj : j = i
      · subst hj
        rw [List.getElem?_set_self hi] at f1
        exact ⟨sl0, e1, e2, f3⟩
      · rw [List.getElem?_set_ne (Ne.symm hj)] at f1
        exact ⟨sl, f1, f2, f3⟩
    exact W.apart j l q (key j h1) (key l h2)
/-- out of the block -/
theorem Wd.outof {vs : List Nat} {δ1 : List Slot} (W : Wd K en (δ1 ++ τ) (σ ++ ts) G H) (W' : Wd K (en.blk G) (δ ++ Ξ) (wipe σ vs ++ us) G' H') (h1 : δ1.length = en.n) (hl : δ.length = en.n) (hσ : σ.length = en.n) (hb : noBo (δ ++ Ξ) = true) : Wd K en (rst δ1 vs δ ++ Ξ) (σ ++ us) G' H' := by
  have hw : (wipe σ vs).length = en.n := by rw [wipe_length]; exact hσ
  have hw2 : (rst δ1 vs δ).length = en.n := by rw [rst_len]; exact hl
  have sG : Sub G G' := W'.ext
  have get : ∀ (i : Nat) sl, (rst δ1 vs δ ++ Ξ)[i]? = some sl → ((δ ++ Ξ)[i]? = some sl ∧ (wipe σ vs ++ us)[i]? = (σ ++ us)[i]?) ∨ (i < en.n ∧ (sl = .un ∨ (δ1[i]? = some sl ∧ ((∃ d, sl = .fr d) ∨ ∃ d, sl = .bw d)))) := fun i sl h => by
    by_cases hi : i < en.n
    · rw [List.getElem?_append_left (by omega)] at h
      rcases rst_get h with ⟨z1, z2⟩ | ⟨z1, z2⟩
      · refine .inl ⟨by rw [List.getElem?_append_left (by omega)]; exact z2, ?_⟩
        rw [List.getElem?_append_left (by omega), List.getElem?_append_left (by omega), wipe_get z1]
      · exact .inr ⟨hi, z2⟩
    · rw [List.getElem?_append_right (by omega), hw2, ← hl, ← List.getElem?_append_right (by omega)] at h
      refine .inl ⟨h, ?_⟩
      rw [List.getElem?_append_right (by omega), List.getElem?_append_right (by omega), hw, hσ]
  refine ⟨?_, W'.sub, W.ext.trans sG, fun a o e => ?_, W'.frm, W'.stay, W'.nd, fun i sl o e1 e2 => ?_, fun i j p e1 e2 => ?_⟩
  · have := W'.len
    rw [List.length_append, List.length_append] at this ⊢
    omega
  · rcases W'.new a o e with q | q
    · exact W.new a o q
    · exact .inr q
  · rcases get i sl e1 with ⟨z1, z2⟩ | ⟨hi, z⟩
    · rw [← z2] at e2
      have q := W'.slot i sl o z1 e2
      cases sl with
      | bo j => exact (noBo_get hb z1).elim
      | un => trivial
      | fr d => exact q
      | mu d => exact q
      | mp _ d => exact q
      | bw d => exact q
    · rcases z with z | ⟨z, z'⟩
      · subst z; trivial
      · have q := W.slot i sl o (by rw [List.getElem?_append_left (by omega)]; exact z) (by
          rw [List.getElem?_append_left (by omega)] at e2 ⊢; exact e2)
        rcases z' with ⟨d, z'⟩ | ⟨d, z'⟩
        · subst z'
          obtain ⟨v, ev, r⟩ := q
          exact ⟨v, ev, Rep.sub sG _ _ r⟩
        · subst z'
          obtain ⟨v, ev, r⟩ := q
          exact ⟨v, ev, BRep.sub sG (Sub.refl _) r⟩
  · have key : ∀ (i : Nat), Own (rst δ1 vs δ ++ Ξ) (σ ++ us) i p → Own (δ ++ Ξ) (wipe σ vs ++ us) i p := fun i ⟨sl, f1, f2, f3⟩ => by
      rcases get i sl f1 with ⟨z1, z2⟩ | ⟨hi, z⟩
      · exact ⟨sl, z1, f2, by rw [z2]; exact f3⟩
      · rcases z with z | ⟨z, ⟨d, z'⟩ | ⟨d, z'⟩⟩
        · subst z; cases f2
        · subst z'; cases f2
        · subst z'; cases f2
    exact W'.apart i j p (key i e1) (key j e2)
end
section
variable {X : Cx} {en : Kn} {δ τ : List Slot} {R : Type} {C : Slot → List Slot → Res R → Prop} {m : Res R} {K : PySem.W.Frag}
theorem lcF_step {S : Type} {d : D} {ds : List D} {s : S} {acc : List D} {f : D → S → Res (Option D × S)} {k : List D × S → Res R} (h : (lcF (d :: ds) s acc f).bind k ≠ .bad) :
    (∃ y s', f d s = .ok (some y, s') ∧ acc.length < sizeLine ∧ lcF (d :: ds) s acc f = lcF ds s' (acc ++ [y]) f) ∨ ∃ s', f d s = .ok (none, s') ∧ lcF (d :: ds) s acc f = lcF ds s' acc f := by
  have e : lcF (d :: ds) s acc f = (match f d s with
    | .ok (some y, s') => if acc.length < sizeLine then lcF ds s' (acc ++ [y]) f else .bad
    | .ok (none, s') => lcF ds s' acc f
    | _ => .bad) := rfl
  rw [e] at h ⊢
  match hf : f d s with
  | .ok (some y, s') =>
    rw [hf] at h
    simp only at h ⊢
    by_cases hz : acc.length < sizeLine
    · exact .inl ⟨y, s', rfl, hz, if_pos hz⟩
    · rw [if_neg hz] at h; exact (h rfl).elim
  | .ok (none, s') => exact .inr ⟨s', rfl, rfl⟩
  | .raise x => rw [hf] at h; exact (h rfl).elim
  | .bad => rw [hf] at h; exact (h rfl).elim
/-- in every block of this scope -/
def AllB (X : Cx) (scope : Scope) (P : Cx → Prop) : Prop := ∀ (s0 : Shared) (H0 : Hp) (C : Addr) (cl : List (Str × Addr)) (fp : List Addr), P (X.blk s0 H0 scope (compEnvC scope cl C X.env) fp)
/-- a comprehension's block, for one item: the target, the test (or none), the element -/
def TurnE (X : Cx) (scope : Scope) (en : Kn) (δ τ : List Slot) (elt : Expr) {S : Type} (pe : S → List Slot) (vs : List Nat) (m : Res (Option D × S)) : Prop :=
  AllB X scope fun Y => JE Y en δ τ elt (fun s δ3 m3 => ∃ y a', s = .fr y ∧ m3 = .ok (some y, a') ∧ Le (wipeS δ3 vs) (pe a') ∧ noBo δ3 = true) m
def TurnT (X : Cx) (scope : Scope) (en : Kn) (δ τ : List Slot) (ifs : List Expr) (elt : Expr) {S : Type} (pe : S → List Slot) (vs : List Nat) (m : Res (Option D × S)) : Prop :=
  match ifs with
  | [] => TurnE X scope en δ τ elt pe vs m
  | [c] => AllB X scope fun Y => JT Y en δ τ c (fun b δ3 m3 => ∃ mA mF, m3 = (if b = true then mA else mF) ∧ TurnE X scope en δ3 τ elt pe vs mA ∧ ∃ a', mF = .ok (none, a') ∧ Le (wipeS δ3 vs) (pe a') ∧ noBo δ3 = true) m
  | _ => False
def Turn1 (X : Cx) (scope : Scope) (en : Kn) (δ τ : List Slot) (tg : Expr) (ifs : List Expr) (elt : Expr) (d : D) {S : Type} (pe : S → List Slot) (vs : List Nat) (m : Res (Option D × S)) : Prop :=
  AllB X scope fun Y => ∃ is, (∀ i, i ∈ is → i ∈ vs) ∧ JG Y en δ τ tg d is (fun δ2 m2 => TurnT X scope en δ2 τ ifs elt pe vs m2) m
theorem le_app : ∀ {a b c d : List Slot}, Le a b → Le c d → Le (a ++ c) (b ++ d)
  | [], [], _, _, _, h => h
  | _ :: _, _ :: _, _, _, h1, h => ⟨h1.1, le_app h1.2 h⟩
  | [], _ :: _, _, _, h, _ => h.elim
  | _ :: _, [], _, _, h, _ => h.elim
theorem noBo_app : ∀ {a b : List Slot}, noBo (a ++ b) = true ↔ noBo a = true ∧ noBo b = true
  | [], b => by simp [noBo]
  | .bo _ :: _, _ => by simp [noBo]
  | .un :: a, b => by simpa [noBo] using noBo_app (a := a) (b := b)
  | .fr _ :: a, b => by simpa [noBo] using noBo_app (a := a) (b := b)
  | .mu _ :: a, b => by simpa [noBo] using noBo_app (a := a) (b := b)
  | .mp _ _ :: a, b => by simpa [noBo] using noBo_app (a := a) (b := b)
  | .bw _ :: a, b => by simpa [noBo] using noBo_app (a := a) (b := b)
theorem noBo_of {a : List Slot} (h : ∀ (i j : Nat), a[i]? ≠ some (.bo j)) : noBo a = true := by
  induction a with
  | nil => rfl
  | cons s r ih =>
    have ih := ih fun i j e => h (i + 1) j (by simpa using e)
    cases s with
    | bo j => exact (h 0 j rfl).elim
    | un => exact ih
    | fr _ => exact ih
    | mu _ => exact ih
    | mp _ _ => exact ih
    | bw _ => exact ih
theorem noBo_le {a b : List Slot} (h : Le a b) (ha : noBo a = true) : noBo b = true := noBo_of fun i j e => by
  rcases h.get e with z | z
  · cases z
  · exact noBo_get ha z
theorem noBo_wipeS {a : List Slot} {vs : List Nat} (ha : noBo a = true) : noBo (wipeS a vs) = true := noBo_of fun i j e => by
  rcases wipeS_get e with z | ⟨_, z⟩
  · cases z
  · exact noBo_get ha z
abbrev gB (X : Cx) (scope : Scope) (tg : Expr) : TG := fun v σ H Q => AllB X scope fun Y => WG Y tg v σ H Q
abbrev tB (X : Cx) (scope : Scope) (ifs : List Expr) : TT := fun σ H Q => AllB X scope fun Y => ∀ (pins : List (Addr × Obj)) (s : Shared), Inv Y pins σ H s →
  wpAny (model Y.prog Y.w) Y.A (forIn ifs true fun c r => if r = true then do let ok ← isTrue c Y.env (eval c Y.env); pure (ForInStep.yield ok) else pure (ForInStep.yield r)) (TP Y pins σ Q) Y.xe s
abbrev eB (X : Cx) (scope : Scope) (elt : Expr) : TE := fun σ H Q => AllB X scope fun Y => WE Y elt σ H Q
theorem Wd.endMut {Δ : List Slot} {S : L2.St} {G H : Hp} {Dn : Addr} {acc : List D} {y : D} {v : V} (W : Wd K en (Δ ++ [.mu (.lst acc)] ++ [.fr y]) (S ++ [some (.ref Dn)] ++ [some v]) G H) (hl : Δ.length = S.length) (hn : en.n ≤ S.length) :
    ∃ vs, H Dn = some (.lst vs) ∧ vs.length = acc.length ∧ Wd K en (Δ ++ [.mu (.lst (acc ++ [y]))]) (S ++ [some (.ref Dn)]) G (upd H Dn (.lst (vs ++ [v]))) := by
  obtain ⟨v', e, ry⟩ := W.last
  cases e
  have W1 : Wd K en (Δ ++ [.mu (.lst acc)]) (S ++ [some (.ref Dn)]) G H := W.cut (by rw [List.length_append, List.length_append, hl]; rfl) (by rw [List.length_append]; omega)
  obtain ⟨p, e, n, f, f2, vs, ev, r⟩ := W1.last
  cases e
  refine ⟨vs, ev, r.length.symm, ?_⟩
  have := W1.mut (i := Δ.length) (p := Dn) (o' := .lst (vs ++ [v])) (d' := .lst (acc ++ [y])) ⟨_, getElem?_last, rfl, by rw [hl]; exact getElem?_last⟩ ⟨_, upd_same, r.append (Reps.one ry)⟩
  rw [List.set_append_right _ _ (Nat.le_refl _), Nat.sub_self, List.getD_eq_getElem?_getD, getElem?_last] at this
  exact this
/-- the reading of a comprehension -/
theorem tlc_core {S : Type} {elt tg iter : Expr} {ifs : List Expr} {scope : Scope} {vs : List Nat} (hnb : noBo τ = true)
    (h : JI X en δ τ tg iter (fun ds δ1 m1 => ∃ (a0 : S) (f : D → S → Res (Option D × S)) (k : List D × S → Res R) (pe pe' : S → List Slot), m1 = (lcF ds a0 [] f).bind k ∧ Le (wipeS δ1 vs) (pe a0) ∧ noBo δ1 = true ∧
      (∀ en', KnB en en' → ∀ d a acc, Turn1 X scope en' (pe a) (τ ++ [.mu (.lst acc)]) tg ifs elt d pe vs (f d a)) ∧ (∀ a, rst δ1 vs (pe a) = pe' a) ∧ ∀ p : List D × S, C (.mu (.lst p.1)) (pe' p.2) (k p)) m)
    (hb : m ≠ .bad) (hx : en.HX m.exc) (σ ts : L2.St) (G H : Hp) (T : VK) (hl : δ.length = en.n) (hσ : σ.length = en.n) (W : Wd X.K en (δ ++ τ) (σ ++ ts) G H)
    (q : ∀ sl δ' v G' H', C sl δ' m → δ'.length = en.n → Wd X.K en (δ' ++ τ ++ [sl]) (σ ++ ts ++ [some v]) G' H' → T v H') :
    tLc (WI X tg iter) (gB X scope tg) (tB X scope ifs) (eB X scope elt) vs σ H T := by
  refine h.run hb hx σ ts G H _ hl hσ W fun ds δ1 J G1 H1 c hl1 W1 it => ?_
  obtain ⟨a0, f, k, pe, pe', em, le0, nb1, turn, hpe, hk⟩ := c
  have ht : τ.length = ts.length := W.splitLen (hl.trans hσ.symm)
  intro Dn hD
  have nbT : ∀ acc, noBo (τ ++ [Slot.mu (.lst acc)]) = true := fun acc => noBo_app.mpr ⟨hnb, rfl⟩
  have W2 : Wd X.K (en.blk G1) (wipeS δ1 vs ++ (τ ++ [.mu (.lst [])])) (L2.wipe σ vs ++ (ts ++ [some (.ref Dn)])) G1 (upd H1 Dn (.lst [])) := by
    have w := W1.out (sl := .mu (.lst [])) (v := .ref Dn) (Grow.laid W1.sub hD) ⟨Dn, rfl, hD, (W1.fresh hD).1, [], upd_same, rfl⟩
    rw [List.append_assoc, List.append_assoc] at w
    exact (w.toBlk).wiped hl1 hσ (noBo_app.mpr ⟨nb1, nbT _⟩)
  have turn := turn (en.blk G1) ⟨rfl, rfl, rfl, rfl⟩
  refine ⟨fun i n H => n = ds.length - i ∧ i ≤ ds.length ∧ ∃ a acc G2, (pe a).length = en.n ∧ noBo (pe a) = true ∧ Wd X.K (en.blk G1) (pe a ++ (τ ++ [.mu (.lst acc)])) (L2.wipe σ vs ++ (ts ++ [some (.ref Dn)])) G2 H ∧ m = (lcF (ds.drop i) a acc f).bind k,
    ⟨ds.length, by simp, Nat.zero_le _, a0, [], G1, le0.len.symm.trans (by rw [wipeS_len]; exact hl1), noBo_le le0 (noBo_wipeS nb1), ?_, em⟩, ?_⟩
  · have le1 : Le (wipeS δ1 vs ++ (τ ++ [.mu (.lst [])])) (pe a0 ++ (τ ++ [.mu (.lst [])])) := le_app le0 (Le.refl _)
    exact W2.le le1
  rintro i n H2 ⟨rfl, hi, a, acc, G2, hla, hnba, W3, em2⟩
  obtain ⟨go, stop⟩ := it G2 H2 W3.ext W3.frm W3.sub i
  by_cases hlt : i < ds.length
  · obtain ⟨g1, g2⟩ := go ds[i] (List.getElem?_eq_getElem hlt)
    have ed : ds.drop i = ds[i] :: ds.drop (i + 1) := by rw [List.drop_eq_getElem_cons hlt]
    refine .inr ⟨g1, fun H' => ∃ a acc G2, (pe a).length = en.n ∧ noBo (pe a) = true ∧ Wd X.K (en.blk G1) (pe a ++ (τ ++ [.mu (.lst acc)])) (L2.wipe σ vs ++ (ts ++ [some (.ref Dn)])) G2 H' ∧ m = (lcF (ds.drop (i + 1)) a acc f).bind k, fun H' hn => ⟨ds.length - (i + 1), by omega, rfl, hlt, hn⟩, fun x H' hy => ?_⟩
    obtain ⟨G3, gr, rx⟩ := g2 x H' hy
    rw [ed] at em2
    have hb2 := hb
    rw [em2] at hb2
    have st := lcF_step hb2
    have hfb : f ds[i] a ≠ .bad := by
      rcases st with ⟨y, s', e, _⟩ | ⟨s', e, _⟩ <;> (rw [e]; exact fun z => nomatch z)
    have hfx : (en.blk G1).HX (f ds[i] a).exc := by
      rcases st with ⟨y, s', e, _⟩ | ⟨s', e, _⟩ <;> (rw [e]; exact rfl)
    intro s0 H0 C0 cl fp
    obtain ⟨is, his, tr⟩ := turn ds[i] a acc s0 H0 C0 cl fp
    refine tr.run hfb hfx (L2.wipe σ vs) (ts ++ [some (.ref Dn)]) G3 H' x _ hla (by rw [wipe_length]; exact hσ) (W3.grow gr) rx fun δ4 σ4 G4 H4 c4 hl4 hσ4 W4 _ on => ?_
    have hwp : L2.wipe σ4 vs = L2.wipe σ vs := by
      rw [wipe_eq (σ := L2.wipe σ vs) (σ' := σ4) (fun j hj => on j fun z => hj (his j z)) (by rw [wipe_length, hσ4, hσ])]
      refine wipe_eq (fun j hj => wipe_get hj) (wipe_length _ _)
    refine ⟨hwp, ?_⟩
    -- the element, kept
    have elem : ∀ {δ5 : List Slot} {G5 H5 : Hp} {mm : Res (Option D × S)}, mm = f ds[i] a → TurnE X scope (en.blk G1) δ5 (τ ++ [.mu (.lst acc)]) elt pe vs mm → δ5.length = en.n → Wd X.K (en.blk G1) (δ5 ++ (τ ++ [.mu (.lst acc)])) (σ4 ++ (ts ++ [some (.ref Dn)])) G5 H5 →
        eB X scope elt σ4 H5 fun y H6 => ∃ accV, H6 Dn = some (.lst accV) ∧ accV.length < sizeLine ∧ ∃ a acc G2, (pe a).length = en.n ∧ noBo (pe a) = true ∧ Wd X.K (en.blk G1) (pe a ++ (τ ++ [.mu (.lst acc)])) (L2.wipe σ vs ++ (ts ++ [some (.ref Dn)])) G2 (upd H6 Dn (.lst (accV ++ [y]))) ∧ m = (lcF (ds.drop (i + 1)) a acc f).bind k := by
      intro δ5 G5 H5 mm hm c5 hl5 W5 s0 H0 C0 cl fp
      subst hm
      refine (c5 s0 H0 C0 cl fp).run hfb hfx σ4 (ts ++ [some (.ref Dn)]) G5 H5 _ hl5 hσ4 W5 fun s δ6 y G6 H6 ⟨yd, a', es, e6, le6, nb6⟩ hl6 W6 => ?_
      subst es
      have W7 : Wd X.K (en.blk G1) ((δ6 ++ τ) ++ [.mu (.lst acc)] ++ [.fr yd]) ((σ4 ++ ts) ++ [some (.ref Dn)] ++ [some y]) G6 H6 := by
        simp only [List.append_assoc] at W6 ⊢
        exact W6
      have hl6' : δ6.length = en.n := hl6
      have hσ4' : σ4.length = en.n := hσ4
      obtain ⟨accV, h1, h2, W8⟩ := W7.endMut (by rw [List.length_append, List.length_append]; omega) (by rw [List.length_append]; show en.n ≤ _; omega)
      rcases st with ⟨y', s', e, hz, e2⟩ | ⟨s', e, e2⟩
      · rw [e] at e6
        cases e6
        refine ⟨accV, h1, by rw [h2]; exact hz, a', acc ++ [yd], G6, le6.len.symm.trans (by rw [wipeS_len]; exact hl6), noBo_le le6 (noBo_wipeS nb6), ?_, by rw [em2, e2]⟩
        rw [List.append_assoc, List.append_assoc] at W8
        have W9 := W8.wiped (vs := vs) hl6 hσ4 (noBo_app.mpr ⟨nb6, nbT _⟩)
        rw [hwp] at W9
        exact W9.le (le_app le6 (Le.refl _))
      · rw [e] at e6
        cases e6
    match hifs : ifs, c4 with
    | [], c4 =>
      intro s0 H0 C0 cl fp pins s I
      exact wpAny_tests_nil ⟨H4, I, iteT (elem rfl c4 hl4 W4)⟩
    | [cnd], c4 =>
      intro s0 H0 C0 cl fp pins s I
      refine wpAny_tests_one (((c4 s0 H0 C0 cl fp).run hfb hfx σ4 (ts ++ [some (.ref Dn)]) G4 H4 _ hl4 hσ4 W4 fun b δ5 G5 H5 ⟨mA, mF, e5, cA, a', eF, leF, nbF⟩ hl5 W5 => ?_) pins s I)
      cases b with
      | true =>
        have e : f ds[i] a = mA := e5
        exact iteT (elem e.symm cA hl5 W5)
      | false =>
        have e : f ds[i] a = mF := e5
        rw [eF] at e
        refine iteF ?_
        rcases st with ⟨y', s', e3, hz, e2⟩ | ⟨s', e3, e2⟩
        · rw [e] at e3; cases e3
        · rw [e] at e3
          cases e3
          refine ⟨a', acc, G5, leF.len.symm.trans (by rw [wipeS_len]; exact hl5), noBo_le leF (noBo_wipeS nbF), ?_, by rw [em2, e2]⟩
          have W9 := W5.wiped (vs := vs) hl5 hσ4 (noBo_app.mpr ⟨nbF, nbT _⟩)
          rw [hwp] at W9
          exact W9.le (le_app leF (Le.refl _))
    | _ :: _ :: _, c4 => exact c4.elim
  · have e : i = ds.length := by omega
    subst e
    refine .inl ⟨stop (Nat.le_refl _), ?_⟩
    rw [List.drop_length] at em2
    have em3 : m = k (acc, a) := em2
    have hc := hk (acc, a)
    rw [← em3] at hc
    have W5 := W1.outof (vs := vs) (δ := pe a) (Ξ := τ ++ [.mu (.lst acc)]) (us := ts ++ [some (.ref Dn)]) W3 hl1 hla hσ (noBo_app.mpr ⟨hnba, nbT _⟩)
    rw [hpe a, ← List.append_assoc, ← List.append_assoc] at W5
    exact q _ (pe' a) (.ref Dn) G2 H2 hc (by rw [← hpe a, rst_len]; exact hla) W5
/-- [.. for .. in ..] as a value: a new list -/
theorem je_lc {S : Type} {elt tg iter : Expr} {ifs : List Expr} {scope : Scope} {pos : Pos} (own : List (Str × Nat)) (hc : X.calm = true) (hN : X.N.Nodup)
    (h : JI X en δ τ tg iter (fun ds δ1 m1 => ∃ (a0 : S) (f : D → S → Res (Option D × S)) (k : List D × S → Res R) (pe pe' : S → List Slot), m1 = (lcF ds a0 [] f).bind k ∧ Le (wipeS δ1 (own.map (·.2))) (pe a0) ∧ noBo δ1 = true ∧
      (∀ en', KnB en en' → ∀ d a acc, Turn1 X scope en' (pe a) (τ ++ [.mu (.lst acc)]) tg ifs elt d pe (own.map (·.2)) (f d a)) ∧ (∀ a, rst δ1 (own.map (·.2)) (pe a) = pe' a) ∧ ∀ p : List D × S, C (.mu (.lst p.1)) (pe' p.2) (k p)) m)
    (hnb : noBo τ = true := by rfl) (ok : BlkOk X.N X.env.scope scope own := by exact blkOk_by (by decide +kernel)) (hs : ∀ x, foldedSetIterable iter X.env x = pure x := by intro _; rfl) :
    JE X en δ τ (.ListComp elt [⟨tg, iter, ifs, 0⟩] scope pos) C m := .mk fun hb hx σ ts G H T hl hσ W q =>
  we_of (pe_lc hc hN pi_wi ok (g := gB X scope tg) (tt := tB X scope ifs) (te := eB X scope elt) (fun s0 H0 C0 cl fp => ⟨fun pins s σ H v u Q I r hw => hw s0 H0 C0 cl fp pins s u I r⟩)
    (fun s0 H0 C0 cl fp => ⟨fun pins s σ H Q I hw => hw s0 H0 C0 cl fp pins s I⟩) (fun s0 H0 C0 cl fp => ⟨fun pins s σ H Q I hw => hw s0 H0 C0 cl fp pins s I⟩) hs) (tlc_core hnb h hb hx σ ts G H T hl hσ W q)
end
end BR

/-! K10: operations over data -/
namespace BR
open PySem PySem.Spec PyProof.Rows L2

/-! ### as the library's data -/
mutual
def toP : D → PyData
  | .non => .none
  | .bl b => .bool b
  | .int i => .int i
  | .str x => .str x
  | .lst ds => .list (toPs ds)
  | .tup ds => .tuple (toPs ds)
  | .dic ks => .dict (toPk ks)
  | .scr ns => .list (ns.map PyData.int)
  | .exc _ _ => .dict []
  | .obj _ _ => .dict []
def toPs : List D → List PyData
  | [] => []
  | d :: ds => toP d :: toPs ds
def toPk : List (Key × D) → List (PyData × PyData)
  | [] => []
  | (.inl i, d) :: r => (.int i, toP d) :: toPk r
  | (.inr x, d) :: r => (.str x, toP d) :: toPk r
end
section
variable {K : PySem.W.Frag} {G H : Hp}
theorem dp_ints : ∀ ns : List Int, DpAll K H (ns.map V.int) (ns.map PyData.int)
  | [] => .nil
  | n :: ns => .cons (.int n) (dp_ints ns)
mutual
theorem Rep.dp : ∀ (d : D) (v : V), Rep K H d v → (toP d).canLay0 = true → Dp K H v (toP d)
  | .non, v, h, _ => by
    have e : v = .non := h
    subst e; exact .non
  | .bl b, v, h, _ => by
    have e : v = .bl b := h
    subst e; exact .bl b
  | .int b, v, h, _ => by
    have e : v = .int b := h
    subst e; exact .int b
  | .str b, v, h, _ => by
    have e : v = .str b := h
    subst e; exact .str b
  | .lst ds, v, h, c => by
    obtain ⟨a, vs, e, q, r⟩ := h
    subst e
    exact .lst (SqL.of q) (Reps.dp ds vs r (by simpa [toP, PyData.canLay0] using c))
  | .tup ds, v, h, c => by
    obtain ⟨a, vs, e, q, r⟩ := h
    subst e
    exact .tup q (Reps.dp ds vs r (by simpa [toP, PyData.canLay0] using c))
  | .scr ns, v, h, c => by
    obtain ⟨a, e, q⟩ := h
    subst e
    exact .lst q (dp_ints ns)
  | .dic ks, v, h, c => by simp [toP, PyData.canLay0] at c
  | .exc _ _, v, h, c => by simp [toP, PyData.canLay0] at c
  | .obj _ _, v, h, c => by simp [toP, PyData.canLay0] at c
theorem Reps.dp : ∀ (ds : List D) (vs : List V), Reps K H ds vs → PyData.canLayAll0 (toPs ds) = true → DpAll K H vs (toPs ds)
  | [], vs, h, _ => by
    have e : vs = [] := h
    subst e; exact .nil
  | d :: ds, vs, h, c => by
    obtain ⟨v, r, e, h1, h2⟩ := h
    subst e
    have c' : (toP d).canLay0 = true ∧ PyData.canLayAll0 (toPs ds) = true := by simpa [toPs, PyData.canLayAll0] using c
    exact .cons (Rep.dp d v h1 c'.1) (Reps.dp ds r h2 c'.2)
end
theorem VRep.dp {d : D} {v : V} (s : Sub G H) (h : VRep K G H d v) (c : (toP d).canLay0 = true) : Dp K H v (toP d) := by
  refine Rep.dp d v ?_ c
  cases d with
  | lst ds => obtain ⟨a, vs, e, q, r⟩ := h; exact ⟨a, vs, e, q, Reps.sub s _ _ r⟩
  | tup ds => obtain ⟨a, vs, e, q, r⟩ := h; exact ⟨a, vs, e, q, Reps.sub s _ _ r⟩
  | dic ds => obtain ⟨a, vs, e, q, r⟩ := h; exact ⟨a, vs, e, q, RepKs.sub s _ _ r⟩
  | scr ns => exact h
  | exc _ _ => obtain ⟨a, C, e, f, q⟩ := h; exact ⟨a, C, e, f, q.sub s (Sub.refl _)⟩
  | obj _ _ => simp [toP, PyData.canLay0] at c
  | non => exact h
  | bl _ => exact h
  | int _ => exact h
  | str _ => exact h
end

/-! ### arithmetic -/
def addD : D → D → Option D
  | .int a, .int b => some (.int (a + b))
  | .str a, .str b => if a.length + b.length ≤ sizeLine then some (.str (a ++ b)) else none
  | .lst a, .lst b => if a.length + b.length ≤ sizeLine then some (.lst (a ++ b)) else none
  | .tup (a :: as), .tup (b :: bs) => if (a :: as).length + (b :: bs).length ≤ sizeLine then some (.tup ((a :: as) ++ (b :: bs))) else none
  | _, _ => none
def catL : D → D → Option D
  | .lst a, .lst b => if a.length + b.length ≤ sizeLine then some (.lst (a ++ b)) else none
  | _, _ => none
def subD : D → D → Option D
  | .int a, .int b => some (.int (a - b))
  | _, _ => none
def mulD : D → D → Option D
  | .int a, .int b => if a.natAbs.log2 + b.natAbs.log2 < 1000000 then some (.int (a * b)) else none
  | _, _ => none
def fdivD : D → D → Option D
  | .int a, .int b => if 0 < b ∧ b.natAbs.log2 < 9000 then some (.int (a / b)) else none
  | _, _ => none
def modD : D → D → Option D
  | .int a, .int b => if 0 < b then some (.int (a % b)) else none
  | _, _ => none
def powD : D → D → Option D
  | .int a, .int b => if 0 ≤ b ∧ (Builtin.Int.intBits a : Int) * b ≤ 2 ^ 27 then some (.int (a ^ b.toNat)) else none
  | _, _ => none
def negD : D → Option D
  | .int a => some (.int (-a))
  | _ => none
section
variable {X : Cx}
theorem VRep.sc {K : PySem.W.Frag} {G H : Hp} {d : D} {v u : V} (h : VRep K G H d v) (e : (match d with | .non => some V.non | .bl b => some (V.bl b) | .int i => some (V.int i) | .str x => some (V.str x) | _ => none) = some u) : v = u := by
  cases d <;> first | (cases e; exact h) | cases e
/-- a fresh list that stands fast at once -/
theorem fz_out {G H : Hp} {ds : List D} {vs : List V} {Q : VK} (sb : Sub G H) (r : Reps X.K G ds vs) (k : ∀ v G' H', Grow G H G' H' → Out X.K G H G' H' (.fr (.lst ds)) v → Q v H') : ∀ p, H p = none → Q (.ref p) (upd H p (.lst vs)) := fun p hp => by
  have hg : G p = none := by
    cases z : G p with
    | none => rfl
    | some o => rw [sb p o z] at hp; cases hp
  refine k (.ref p) (upd G p (.lst vs)) _ ⟨Sub.upd hg, Sub.upd hp, fun a u e => ?_, fun a u e => ?_⟩ ⟨p, vs, rfl, upd_same, Reps.sub (Sub.upd hg) _ _ r⟩
  · by_cases ha : a = p
    · subst ha; rw [upd_same] at e ⊢; exact e
    · rw [upd_ne ha] at e ⊢; exact sb a u e
  · by_cases ha : a = p
    · subst ha; exact .inr hp
    · rw [upd_ne ha] at e; exact .inl e
theorem fzT_out {G H : Hp} {ds : List D} {vs : List V} {Q : VK} (sb : Sub G H) (r : Reps X.K G ds vs) (k : ∀ v G' H', Grow G H G' H' → Out X.K G H G' H' (.fr (.tup ds)) v → Q v H') : ∀ p, H p = none → Q (.ref p) (upd H p (.tup vs)) := fun p hp => by
  have hg : G p = none := by
    cases z : G p with
    | none => rfl
    | some o => rw [sb p o z] at hp; cases hp
  refine k (.ref p) (upd G p (.tup vs)) _ ⟨Sub.upd hg, Sub.upd hp, fun a u e => ?_, fun a u e => ?_⟩ ⟨p, vs, rfl, SqT.of upd_same, Reps.sub (Sub.upd hg) _ _ r⟩
  · by_cases ha : a = p
    · subst ha; rw [upd_same] at e ⊢; exact e
    · rw [upd_ne ha] at e ⊢; exact sb a u e
  · by_cases ha : a = p
    · subst ha; exact .inr hp
    · rw [upd_ne ha] at e; exact .inl e
theorem mu_out {G H : Hp} {ds : List D} {vs : List V} {Q : VK} (sb : Sub G H) (r : Reps X.K G ds vs) (k : ∀ v G' H', Grow G H G' H' → Out X.K G H G' H' (.mu (.lst ds)) v → Q v H') : ∀ p, H p = none → Q (.ref p) (upd H p (.lst vs)) := fun p hp => by
  have hg : G p = none := by
    cases z : G p with
    | none => rfl
    | some o => rw [sb p o z] at hp; cases hp
  exact k (.ref p) G _ (Grow.laid sb hp) ⟨p, rfl, hp, hg, vs, upd_same, r⟩
theorem sc_out {G H : Hp} {Q : VK} {d : D} {u : V} (sb : Sub G H) (e : (match d with | .non => some V.non | .bl b => some (V.bl b) | .int i => some (V.int i) | .str x => some (V.str x) | _ => none) = some u) (k : ∀ v G' H', Grow G H G' H' → Out X.K G H G' H' (.fr d) v → Q v H') : Q u H := by
  refine k u G H (Grow.refl sb) ?_
  show Rep X.K G d u
  cases d <;> first | (cases e; exact rfl) | cases e
theorem op_addD : OpD X (binaryOp .Add) addD .fr := opD_of (op_add.or (op_add_str.or (op_cat.or op_catA))) fun d1 d2 d e G H v1 v2 Q sb r1 r2 k => by
  match d1, d2, e, r1, r2 with
  | .int a, .int b, e, r1, r2 =>
    cases e
    exact .inl ⟨a, b, r1, r2, sc_out sb rfl k⟩
  | .str a, .str b, e, r1, r2 =>
    have e' : (if a.length + b.length ≤ sizeLine then some (D.str (a ++ b)) else none) = some d := e
    by_cases hz : a.length + b.length ≤ sizeLine
    · rw [if_pos hz] at e'
      cases e'
      exact .inr (.inl ⟨a, b, r1, r2, hz, sc_out sb rfl k⟩)
    · rw [if_neg hz] at e'; cases e'
  | .lst a, .lst b, e, r1, r2 =>
    have e' : (if a.length + b.length ≤ sizeLine then some (D.lst (a ++ b)) else none) = some d := e
    by_cases hz : a.length + b.length ≤ sizeLine
    · rw [if_pos hz] at e'
      cases e'
      obtain ⟨p, vs, e1, q1, s1⟩ := r1
      obtain ⟨p2, vs2, e2, q2, s2⟩ := r2
      exact .inr (.inr (.inl ⟨p, p2, vs, vs2, e1, e2, q1, q2, by rw [← s1.length, ← s2.length]; exact hz, fz_out sb (s1.append s2) k⟩))
    · rw [if_neg hz] at e'; cases e'
  | .tup (a :: as), .tup (b :: bs), e, r1, r2 =>
    have e' : (if (a :: as).length + (b :: bs).length ≤ sizeLine then some (D.tup ((a :: as) ++ (b :: bs))) else none) = some d := e
    by_cases hz : (a :: as).length + (b :: bs).length ≤ sizeLine
    · rw [if_pos hz] at e'
      cases e'
      obtain ⟨p, vs, e1, q1, s1⟩ := r1
      obtain ⟨p2, vs2, e2, q2, s2⟩ := r2
      have n1 : vs ≠ [] := fun z => by have := s1.length; rw [z] at this; simp at this
      have n2 : vs2 ≠ [] := fun z => by have := s2.length; rw [z] at this; simp at this
      exact .inr (.inr (.inr ⟨p, p2, vs, vs2, e1, e2, q1, q2, by rw [← s1.length, ← s2.length]; exact hz, fun z => absurd z n1, fun _ z => absurd z n2, fun _ _ => fzT_out sb (s1.append s2) k⟩))
    · rw [if_neg hz] at e'; cases e'
theorem op_catL : OpD X (binaryOp .Add) catL .mu := opD_of op_cat fun d1 d2 d e G H v1 v2 Q sb r1 r2 k => by
  match d1, d2, e, r1, r2 with
  | .lst a, .lst b, e, r1, r2 =>
    have e' : (if a.length + b.length ≤ sizeLine then some (D.lst (a ++ b)) else none) = some d := e
    by_cases hz : a.length + b.length ≤ sizeLine
    · rw [if_pos hz] at e'
      cases e'
      obtain ⟨p, vs, e1, q1, s1⟩ := r1
      obtain ⟨p2, vs2, e2, q2, s2⟩ := r2
      exact ⟨p, p2, vs, vs2, e1, e2, q1, q2, by rw [← s1.length, ← s2.length]; exact hz, mu_out sb (s1.append s2) k⟩
    · rw [if_neg hz] at e'; cases e'
theorem op_subD : OpD X (binaryOp .Sub) subD .fr := opD_of op_sub fun d1 d2 d e G H v1 v2 Q sb r1 r2 k => by
  match d1, d2, e, r1, r2 with
  | .int a, .int b, e, r1, r2 =>
    cases e
    exact ⟨a, b, r1, r2, sc_out sb rfl k⟩
theorem op_mulD : OpD X (binaryOp .Mult) mulD .fr := opD_of op_mulW fun d1 d2 d e G H v1 v2 Q sb r1 r2 k => by
  match d1, d2, e, r1, r2 with
  | .int a, .int b, e, r1, r2 =>
    have e' : (if a.natAbs.log2 + b.natAbs.log2 < 1000000 then some (D.int (a * b)) else none) = some d := e
    by_cases hz : a.natAbs.log2 + b.natAbs.log2 < 1000000
    · rw [if_pos hz] at e'
      cases e'
      exact ⟨a, b, r1, r2, hz, sc_out sb rfl k⟩
    · rw [if_neg hz] at e'; cases e'
theorem op_fdivD : OpD X (binaryOp .FloorDiv) fdivD .fr := opD_of op_fdivW fun d1 d2 d e G H v1 v2 Q sb r1 r2 k => by
  match d1, d2, e, r1, r2 with
  | .int a, .int b, e, r1, r2 =>
    have e' : (if 0 < b ∧ b.natAbs.log2 < 9000 then some (D.int (a / b)) else none) = some d := e
    by_cases hz : 0 < b ∧ b.natAbs.log2 < 9000
    · rw [if_pos hz] at e'
      cases e'
      exact ⟨a, b, r1, r2, hz, sc_out sb rfl k⟩
    · rw [if_neg hz] at e'; cases e'
theorem op_modD : OpD X (binaryOp .Mod) modD .fr := opD_of op_mod fun d1 d2 d e G H v1 v2 Q sb r1 r2 k => by
  match d1, d2, e, r1, r2 with
  | .int a, .int b, e, r1, r2 =>
    have e' : (if 0 < b then some (D.int (a % b)) else none) = some d := e
    by_cases hz : 0 < b
    · rw [if_pos hz] at e'
      cases e'
      exact ⟨a, b, r1, r2, hz, sc_out sb rfl k⟩
    · rw [if_neg hz] at e'; cases e'
theorem op_powW : OpR X (binaryOp .Pow) (rI (fun i j => 0 ≤ j ∧ (Builtin.Int.intBits i : Int) * j ≤ 2 ^ 27) fun i j => .int (i ^ j.toNat)) := opI fun _ _ _ _ _ _ _ hc q => pow_int hc.1 hc.2 q
theorem op_powD : OpD X (binaryOp .Pow) powD .fr := opD_of op_powW fun d1 d2 d e G H v1 v2 Q sb r1 r2 k => by
  match d1, d2, e, r1, r2 with
  | .int a, .int b, e, r1, r2 =>
    have e' : (if 0 ≤ b ∧ (Builtin.Int.intBits a : Int) * b ≤ 2 ^ 27 then some (D.int (a ^ b.toNat)) else none) = some d := e
    by_cases hz : 0 ≤ b ∧ (Builtin.Int.intBits a : Int) * b ≤ 2 ^ 27
    · rw [if_pos hz] at e'
      cases e'
      exact ⟨a, b, r1, r2, hz, sc_out sb rfl k⟩
    · rw [if_neg hz] at e'; cases e'
theorem un_negD : UnD X (unaryOp .USub) negD .fr := unD_of un_neg fun d1 d e G H v1 Q sb r1 k => by
  match d1, e, r1 with
  | .int a, e, r1 =>
    cases e
    exact ⟨a, r1, sc_out sb rfl k⟩
end

/-! ### comparisons -/
def cmpI (p : Int → Int → Bool) : D → D → Option Bool
  | .int a, .int b => some (p a b)
  | _, _ => none
def ltD : D → D → Option Bool := cmpI fun a b => decide (a < b)
def leD : D → D → Option Bool := cmpI fun a b => decide (a ≤ b)
def gtD : D → D → Option Bool := cmpI fun a b => decide (b < a)
def geD : D → D → Option Bool := cmpI fun a b => decide (b ≤ a)
/-- is None, by its right side -/
def isND : D → D → Option Bool
  | .non, .non => some true
  | _, .non => some false
  | _, _ => none
def notND : D → D → Option Bool
  | .non, .non => some false
  | _, .non => some true
  | _, _ => none
def isBD : D → D → Option Bool
  | .bl a, .bl b => some (decide (a = b))
  | _, _ => none
def notBD : D → D → Option Bool
  | .bl a, .bl b => some (!decide (a = b))
  | _, _ => none
def eqD : D → D → Option Bool
  | .int a, .int b => some (decide (a = b))
  | .str a, .str b => some (decide (a = b))
  | .bl a, .bl b => some (decide (a = b))
  | d, e => if SeqAt.shaped (toP d) = true ∧ SeqAt.shaped (toP e) = true then some (PyData.eqv (toP d) (toP e)) else none
def neD (d e : D) : Option Bool := (eqD d e).map (!·)
section
variable {X : Cx}
theorem cmpI_of {f : Value → Value → Sem Value} {p : Int → Int → Bool} (h : OpR X f (rI0 fun i j => .bl (p i j))) : CmpD X f (cmpI p) := opD_of h fun d1 d2 d e G H v1 v2 Q sb r1 r2 k => by
  match d1, d2, e, r1, r2 with
  | .int a, .int b, e, r1, r2 =>
    cases e
    exact ⟨a, b, r1, r2, sc_out (d := .bl (p a b)) sb rfl k⟩
theorem cmp_ltD : CmpD X (compareOp .Lt) ltD := cmpI_of op_lt
theorem cmp_leD : CmpD X (compareOp .LtE) leD := cmpI_of op_le
theorem cmp_gtD : CmpD X (compareOp .Gt) gtD := cmpI_of op_gt
theorem cmp_geD : CmpD X (compareOp .GtE) geD := cmpI_of op_ge
theorem VRep.isN {K : PySem.W.Frag} {G H : Hp} {d : D} {v : V} (h : VRep K G H d v) : decide (v = .non) = (match d with | .non => true | _ => false) := by
  cases d with
  | non => have e : v = .non := h; subst e; rfl
  | bl _ => have e : v = _ := h; subst e; rfl
  | int _ => have e : v = _ := h; subst e; rfl
  | str _ => have e : v = _ := h; subst e; rfl
  | lst _ => obtain ⟨a, _, e, _⟩ := h; subst e; rfl
  | tup _ => obtain ⟨a, _, e, _⟩ := h; subst e; rfl
  | dic _ => obtain ⟨a, _, e, _⟩ := h; subst e; rfl
  | scr _ => obtain ⟨a, e, _⟩ := h; subst e; rfl
  | exc _ _ => obtain ⟨a, _, e, _⟩ := h; subst e; rfl
  | obj _ _ => obtain ⟨a, _, _, _, e, _⟩ := h; subst e; rfl
theorem cmp_isN : CmpD X (compareOp .Is) isND := opD_of op_isN fun d1 d2 d e G H v1 v2 Q sb r1 r2 k => by
  obtain ⟨b, eb, ed⟩ := Option.map_eq_some_iff.mp e
  subst ed
  match d2, r2 with
  | .non, r2 =>
    refine ⟨r2, ?_⟩
    have hb : decide (v1 = .non) = b := by rw [r1.isN]; cases d1 <;> (cases eb; rfl)
    rw [hb]
    exact sc_out (d := .bl b) sb rfl k
  | .bl _, _ => cases d1 <;> cases eb
  | .int _, _ => cases d1 <;> cases eb
  | .str _, _ => cases d1 <;> cases eb
  | .lst _, _ => cases d1 <;> cases eb
  | .tup _, _ => cases d1 <;> cases eb
  | .dic _, _ => cases d1 <;> cases eb
  | .scr _, _ => cases d1 <;> cases eb
  | .exc _ _, _ => cases d1 <;> cases eb
  | .obj _ _, _ => cases d1 <;> cases eb
theorem cmp_notN : CmpD X (compareOp .IsNot) notND := opD_of op_notN fun d1 d2 d e G H v1 v2 Q sb r1 r2 k => by
  obtain ⟨b, eb, ed⟩ := Option.map_eq_some_iff.mp e
  subst ed
  match d2, r2 with
  | .non, r2 =>
    refine ⟨r2, ?_⟩
    have hb : (!decide (v1 = .non)) = b := by rw [r1.isN]; cases d1 <;> (cases eb; rfl)
    rw [hb]
    exact sc_out (d := .bl b) sb rfl k
  | .bl _, _ => cases d1 <;> cases eb
  | .int _, _ => cases d1 <;> cases eb
  | .str _, _ => cases d1 <;> cases eb
  | .lst _, _ => cases d1 <;> cases eb
  | .tup _, _ => cases d1 <;> cases eb
  | .dic _, _ => cases d1 <;> cases eb
  | .scr _, _ => cases d1 <;> cases eb
  | .exc _ _, _ => cases d1 <;> cases eb
  | .obj _ _, _ => cases d1 <;> cases eb
theorem eq_core {f : Value → Value → Sem Value} {ng : Bool → Bool} (h : OpR X f (fun x y H Q => (scal x y = true ∧ Q (.bl (ng (decide (x = y)))) H) ∨ ∃ d e, Dp X.K H x d ∧ Dp X.K H y e ∧ SeqAt.shaped d = true ∧ SeqAt.shaped e = true ∧ Q (.bl (ng (PyData.eqv d e))) H)) : CmpD X f (fun d e => (eqD d e).map ng) := opD_of h fun d1 d2 d e G H v1 v2 Q sb r1 r2 k => by
  obtain ⟨b, eb, ed⟩ := Option.map_eq_some_iff.mp e
  subst ed
  obtain ⟨b', eb', en⟩ := Option.map_eq_some_iff.mp eb
  subst en
  have gen : ∀ {d1 d2 : D}, VRep X.K G H d1 v1 → VRep X.K G H d2 v2 → (if SeqAt.shaped (toP d1) = true ∧ SeqAt.shaped (toP d2) = true then some (PyData.eqv (toP d1) (toP d2)) else none) = some b' →
      ∃ d e, Dp X.K H v1 d ∧ Dp X.K H v2 e ∧ SeqAt.shaped d = true ∧ SeqAt.shaped e = true ∧ Q (.bl (ng (PyData.eqv d e))) H := fun {d1 d2} r1 r2 h => by
    by_cases hz : SeqAt.shaped (toP d1) = true ∧ SeqAt.shaped (toP d2) = true
    · rw [if_pos hz] at h
      cases h
      exact ⟨_, _, r1.dp sb (SeqAt.canLay_of_shaped hz.1), r2.dp sb (SeqAt.canLay_of_shaped hz.2), hz.1, hz.2, sc_out (d := .bl (ng (PyData.eqv (toP d1) (toP d2)))) sb rfl k⟩
    · rw [if_neg hz] at h; cases h
  cases d1 <;> cases d2 <;> first
    | exact .inr (gen r1 r2 eb')
    | (have e1 : v1 = _ := r1
       have e2 : v2 = _ := r2
       subst e1 e2
       cases eb'
       refine .inl ⟨rfl, ?_⟩
       have := sc_out (X := X) (Q := Q) (d := .bl (ng _)) sb rfl k
       first
         | (rw [show ∀ i j : Int, decide (V.int i = V.int j) = decide (i = j) from fun i j => decide_eq_decide.mpr ⟨V.int.inj, congrArg _⟩]; exact this)
         | (rw [show ∀ i j : Str, decide (V.str i = V.str j) = decide (i = j) from fun i j => decide_eq_decide.mpr ⟨V.str.inj, congrArg _⟩]; exact this)
         | (rw [show ∀ i j : Bool, decide (V.bl i = V.bl j) = decide (i = j) from fun i j => decide_eq_decide.mpr ⟨V.bl.inj, congrArg _⟩]; exact this))
theorem cmp_eqD (hu : X.A.units + 64 < cLine) : CmpD X (compareOp .Eq) eqD := by
  have := eq_core (ng := id) (op_eq.or (op_eqD (X := X) hu))
  have e : (fun d e => (eqD d e).map id) = eqD := by
    funext d e
    cases eqD d e <;> rfl
  rw [e] at this
  exact this
theorem cmp_neD (hu : X.A.units + 64 < cLine) : CmpD X (compareOp .NotEq) neD := eq_core (ng := (!·)) (op_ne.or (op_neD (X := X) hu))
end
end BR

/-! K11: isinstance, what is built in, places, cuts, lists changed -/
namespace BR
open PySem PySem.Spec PyProof.Rows L2

/-! ### isinstance -/
def tyOf : D → String
  | .non => "NoneType"
  | .bl _ => "bool"
  | .int _ => "int"
  | .str _ => "str"
  | .lst _ => "list"
  | .tup _ => "tuple"
  | .dic _ => "dict"
  | .scr _ => "list"
  | .exc _ _ => "Exception"
  | .obj _ _ => "Exception"
def isInt : D → Bool
  | .int _ => true
  | .bl _ => true
  | _ => false
def isBool : D → Bool
  | .bl _ => true
  | _ => false
def isStr : D → Bool
  | .str _ => true
  | _ => false
def isTup : D → Bool
  | .tup _ => true
  | _ => false
def isLst : D → Bool
  | .lst _ => true
  | .scr _ => true
  | _ => false
def isSeq : D → Bool
  | .lst _ => true
  | .scr _ => true
  | .tup _ => true
  | _ => false
def isExc : D → Bool
  | .exc _ _ => true
  | .obj _ _ => true
  | _ => false
theorem VRep.ty {K : PySem.W.Frag} {G H : Hp} : ∀ {d : D} {v : V}, isExc d = false → VRep K G H d v → TyX K H v (.type (tyOf d))
  | .non, v, _, h => by have e : v = .non := h; subst e; exact .base .non
  | .bl b, v, _, h => by have e : v = .bl b := h; subst e; exact .base (.bl b)
  | .int b, v, _, h => by have e : v = .int b := h; subst e; exact .base (.int b)
  | .str b, v, _, h => by have e : v = .str b := h; subst e; exact .base (.str b)
  | .lst _, v, _, h => by obtain ⟨a, vs, e, q, _⟩ := h; subst e; exact .base (.lst q)
  | .dic _, v, _, h => by obtain ⟨a, vs, e, q, _⟩ := h; subst e; exact .base (.dK q)
  | .tup _, v, _, h => by
    obtain ⟨a, vs, e, q, _⟩ := h
    subst e
    rcases q with (q | ⟨o, q⟩) | ⟨o, its, n, q, c, _⟩
    · exact .base (.tup q)
    · exact .fTuple q
    · exact .kTuple q c
  | .scr _, v, _, h => by
    obtain ⟨a, e, q⟩ := h
    subst e
    rcases q with (q | ⟨o, q⟩) | ⟨o, its, n, q, c, _⟩
    · exact .base (.lst q)
    · exact .base (.frz q)
    · exact .kList q c
  | .exc _ _, _, z, _ => by cases z
  | .obj _ _, _, z, _ => by cases z
section
open PySem.W PySem.Calls
variable {prog : Program} {w : World} {A : Around} {E : Value → Shared → Prop} {K : PySem.W.Frag} {z T : Addr} {oz : Obj} {dz : Option Obj}
/-- x.__class__, x an error of an own class, its dict made or not -/
theorem errcls_get {h0 : Heap} {g0 : Array GenState} {d0 : Drawn} {t0 : Nat} {os0 : OsState} {Q : Option Value → Shared → Prop} (F : L2.ExcC K T) (kin : K.In h0) (J : InstAt h0 z oz T dz) (q : Q (some (.ref T)) ⟨h0, g0, d0, t0 + 1, os0⟩) :
    wpAny (model prog w) A (getAttr? (.ref z) "__class__") Q E ⟨h0, g0, d0, t0, os0⟩ := by
  have fo : findObj K T dz "__class__" = some (.bind (.builtin "getset_descriptor.__get__") (.builtin "object.__class__")) := by
    obtain ⟨c, ec, _⟩ := any_some F.hd
    simp [findObj, ec, F.ha, F.hn, F.ht]
  have a0 := J.type (M := model prog w)
  have a1 := looks_findIn (M := model prog w) kin F.hg
  have a3 := looks_find (M := model prog w) kin J fo
  have isb : Looks (model prog w) h0 (isInstance (.ref z) (.type "BaseException")) true := a0.andThen (looks_subIn kin F.hs)
  have n2 : (Value.builtin "BaseException.__getattribute__" == Value.builtin "object.__getattribute__") = false := by decide +kernel
  unfold getAttr? getAttrBy? getAttrBy
  refine wpAny_bind (wpAny_mkText (wpAny_bind (wpAny_attempt (wpAny_holding (wpAny_bind (a0.at (wpAny_bind (a1.at ?_))))))))
  show wpAny _ _ (if (onTheHeap (Value.ref T) && Value.builtin "BaseException.__getattribute__" == Value.builtin "object.__getattribute__") = true then _ else _) _ _ _
  rw [show (onTheHeap (Value.ref T) && Value.builtin "BaseException.__getattribute__" == Value.builtin "object.__getattribute__") = false by rw [n2]; rfl, if_neg Bool.false_ne_true]
  unfold getAttrByItsOwn hookBefore; refine wpAny_bind ?_; rw [if_pos (show onTheHeap (Value.ref T) = true from rfl)]
  refine (looks_findIn (M := model prog w) kin F.hk).at ?_; refine wpAny_bind (wpAny_attempt (wpAny_holding ?_)); unfold callGetattribute
  rw [show (false && onTheHeap (Value.builtin "BaseException.__getattribute__")) = false from rfl, if_neg Bool.false_ne_true]; unfold boundAndCalled
  rw [PySem.F.excAttr_ValueError.ga.bind (.ref z)]; refine wpAny_bind (wpAny_pure ?_)
  show wpAny _ _ (call (.builtin "BaseException.__getattribute__") [.ref z, .str "__class__" t0]) _ _ _
  refine wpAny_call (codeAny_call_builtin PySem.F.excAttr_ValueError.ga.plain PySem.F.entry_bexc_ga (@check_slot (model prog w) _ _ ⟨h0, g0, d0, t0 + 1, os0⟩ "BaseException.__getattribute__" "BaseException" "__getattribute__" (.ref z) [.str "__class__" t0] [] _ (by decide +kernel) (by decide +kernel) isb (PySem.F.args_bexc_ga (.ref z) (.str "__class__" t0)) ?_))
  unfold Builtin.«object.__getattribute__»
  refine wpAny_bind (wpAny_of_eq (a := ((Value.ref z : Value), [Value.str "__class__" t0])) (by first | rfl | (simp only [slotArgs]; rfl)) (wpAny_bind (wpAny_pure (wpAny_bind (a0.at (wpAny_bind (a3.at ?_)))))))
  show wpAny _ _ (holding [Value.builtin "object.__class__"] (call (.builtin "getset_descriptor.__get__") [.builtin "object.__class__", .ref z, .ref T]) >>= ret) _ _ _
  refine wpAny_bind (wpAny_holding (wpAny_call (class_get (s := ⟨h0, g0, d0, t0 + 1, os0⟩) (ox := oz) (od := dz) kin J F.hm (wpAny_pure ?_))))
  show wpAny _ _ (handedOut (.ref T)) _ _ _
  rw [handedOut_of (v := .ref T) rfl]
  first
    | exact wpAny_pure (wpAny_pure q)
    | exact wpAny_pure q
    | exact wpAny_pure (wpAny_bind (wpAny_pure (wpAny_pure q)))
theorem errcls_ob {h0 : Heap} (F : L2.ExcC K T) (kin : K.In h0) : ∃ o c, h0.get? T = some o ∧ o.data = .cls c := by
  obtain ⟨c, ec, _⟩ := any_some F.hd
  unfold clsIn at ec
  split at ec
  · rename_i c' d' cd' sl' ho
    exact ⟨_, cd', kin _ _ ho, rfl⟩
  · cases ec
theorem errcls_kit (F : L2.ExcC K T) : KitX K (.ref z) (.ref T) (fun h => InstAt h z oz T dz) where
  ty := fun _ _ _ J => J.type
  it := fun _ h kin _ A' Q' E' s' k q => by
    obtain ⟨o, c, e, ed⟩ := errcls_ob F kin
    obtain ⟨oc, od, dt, sl⟩ := o
    dsimp only at ed
    subst ed
    unfold isType loadHead
    exact wpAny_bind (wpAny_loadPart (k _ _ e) (wpAny_pure q))
  ne := fun h tp dd its n sl kin htp => by
    obtain ⟨o, c, e, ed⟩ := errcls_ob F kin
    refine Bool.eq_false_iff.mpr fun q => ?_
    have et : T = tp := Value.ref.inj (beq_iff_eq.mp q)
    rw [et, htp] at e
    cases e
    cases ed
  ca := fun kin J k => errcls_get F kin J k
end
/-- isinstance(x, c), x an error that was caught -/
def rIsX (K : PySem.W.Frag) : List V → Hp → VK → Prop := fun xs H Q => ∃ (a C : Addr) (xf : List (Str × Option Int)) (c : V) (u : Value) (b : Bool), xs = [.ref a, c] ∧ ClsV c u ∧ L2.ExcC K C ∧ ExAt H H C a xf ∧ PySem.W.kitOne K (.ref C) u = some b ∧ Q (.bl b) H
def rIsXT (K : PySem.W.Frag) : List V → Hp → VK → Prop := fun xs H Q => ∃ (a C : Addr) (xf : List (Str × Option Int)) (tp : Addr) (cs : List V) (us : List Value) (b : Bool), xs = [.ref a, .ref tp] ∧ H tp = some (.tup cs) ∧ Paired ClsV cs us ∧ L2.ExcC K C ∧ ExAt H H C a xf ∧ PySem.W.kitAny K (.ref C) us = some b ∧ Q (.bl b) H
theorem exh_at {X : Cx} {pins : List (Addr × Obj)} {σ : L2.St} {H : Hp} {s : Shared} {a C : Addr} {xf : List (Str × Option Int)} (I : Inv X pins σ H s) (e : ExAt H H C a xf) : ∃ oe od, PySem.W.InstAt s.heap a oe C od := by
  obtain ⟨oe, vs, h0, h3, h2⟩ := e
  obtain ⟨h1, _⟩ := (show ObjOk X.prog X.w H s.heap a (ExO1 oe) from I.hok a _ h0)
  obtain ⟨oc, od, oda, osl⟩ := oe
  rcases h2 with ⟨_, z1, z2, _⟩ | ⟨dd, _, ⟨z1, z2, _⟩, hd⟩
  · dsimp only at z1 z2 h3
    subst z1 z2 h3
    exact ⟨_, none, h1, rfl, rfl, trivial⟩
  · dsimp only at z1 z2 h3
    subst z1 z2 h3
    have hx : ObjOk X.prog X.w H s.heap dd (.xd (xfV xf)) := I.hok dd _ hd
    obtain ⟨mA, hns, hr⟩ := hx
    obtain ⟨o, ho, _⟩ := lookIn_ns hns
    exact ⟨_, some o, h1, rfl, rfl, ho⟩
theorem call_isX {X : Cx} : CallR X (.builtin "isinstance") (rIsX X.K) := by
  intro pins s σ H xs us Q I r h
  obtain ⟨a, C, xf, c, u, b, rfl, k, F, e, kk, q⟩ := h
  obtain ⟨u1, u2, rfl, r1, r2⟩ := vals2 r
  have e2 := k.eq r2
  subst e2
  cases (show u1 = Value.ref a from r1)
  obtain ⟨oe, od, J⟩ := exh_at I e
  exact PySem.W.kia_one (errcls_kit F) I.kIn J kk (fun z => nomatch z) fun tk => ⟨.bl b, H, I.tok tk, rfl, q⟩
theorem call_isXT {X : Cx} : CallR X (.builtin "isinstance") (rIsXT X.K) := by
  intro pins s σ H xs us Q I r h
  obtain ⟨a, C, xf, tp, cs, ws, b, rfl, hT, k, F, e, kk, q⟩ := h
  obtain ⟨u1, u2, rfl, r1, r2⟩ := vals2 r
  cases (show u2 = Value.ref tp from r2)
  cases (show u1 = Value.ref a from r1)
  obtain ⟨oe, od, J⟩ := exh_at I e
  obtain ⟨_, its, rv, o, h1, h2, n, h3⟩ := (show ObjOk X.prog X.w H s.heap tp (.tup cs) from I.hok tp _ hT)
  have e3 := ClsV.all k rv
  subst e3
  obtain ⟨oc, od, dt, sl⟩ := o
  simp only at h2 h3
  subst h2 h3
  exact PySem.W.kia_tup (errcls_kit F) I.kIn J h1 kk (fun z => nomatch z) fun tk => ⟨.bl b, H, I.tok tk, rfl, q⟩
theorem kit_int : ∀ d, kitB (tyOf d) "int" = some (isInt d) := fun d => by cases d <;> (simp only [tyOf, isInt]; decide +kernel)
theorem kit_bool : ∀ d, kitB (tyOf d) "bool" = some (isBool d) := fun d => by cases d <;> (simp only [tyOf, isBool]; decide +kernel)
theorem kit_str : ∀ d, kitB (tyOf d) "str" = some (isStr d) := fun d => by cases d <;> (simp only [tyOf, isStr]; decide +kernel)
theorem kit_tup : ∀ d, kitB (tyOf d) "tuple" = some (isTup d) := fun d => by cases d <;> (simp only [tyOf, isTup]; decide +kernel)
theorem kit_lst : ∀ d, kitB (tyOf d) "list" = some (isLst d) := fun d => by cases d <;> (simp only [tyOf, isLst]; decide +kernel)
section
variable {X : Cx} {en : Kn} {δ τ : List Slot} {R : Type} {C : Slot → List Slot → Res R → Prop} {m : Res R} {K : PySem.W.Frag}
/-- isinstance(e, T) -/
theorem je_isi {T : String} {g : D → Bool} {e : Expr} {x : Str} {p p2 pos : Pos} (hk : ∀ d, kitB (tyOf d) T = some (g d)) (hm : X.mg "isinstance" = none) (hmT : X.mg x = none)
    (h : JE X en δ τ e (fun s1 δ1 m1 => ∃ d, s1.rd δ1 = some d ∧ C (.fr (.bl (g d))) δ1 m1) m) (hvT : bootBuiltins x = some (.type T) := by decide +kernel) (hg : Gl X "isinstance" := by rfl) (hgT : Gl X x := by rfl)
    (hn : x ≠ "__name__" := by decide) (hdb : (x == ("__debug__" : Str)) = false := by decide) (hgx : ∀ c xf, g (.exc c xf) = false := by exact fun _ _ => rfl) (hgo : ∀ c fs, g (.obj c fs) = false := by exact fun _ _ => rfl) (hT : T ∈ ["int", "bool", "str", "tuple", "list", "dict"] := by decide)
    (he : starEach [e, .Name x p2] X.env = (false, eval e X.env) :: starEach [.Name x p2] X.env := by rfl) (hpl : (backTo pos (starEach [.Name x p2] X.env)).any (·.1) = false := by rfl) :
    JE X en δ τ (.Call (.Name "isinstance" p) [e, .Name x p2] [] pos) C m := .mk fun hb hx σ ts G H T' hl hσ W k => by
  refine we_of (pe_callB (call_isi.or call_isX) hg hm (by decide +kernel) (pa_cons pe_we (pa_cons (pe_bltn (v := .ty T) hgT hmT hvT rfl hn hdb) pa_nil) he) (by decide) (by decide) he hpl) ?_
  have ht : τ.length = ts.length := W.splitLen (hl.trans hσ.symm)
  refine h.run hb hx σ ts G H _ hl hσ W fun s1 δ1 v1 G1 H1 c1 hl1 W1 => ?_
  obtain ⟨d, e1, c⟩ := c1
  obtain ⟨⟨_, _, ez, r1, _⟩, Wn⟩ := Wd.ends (sls := [s1]) (vs := [v1]) W1 (hl1.trans hσ.symm) ht (ds := [d]) (by simp only [rds, e1])
  cases ez
  have fin : T' (.bl (g d)) H1 := k _ δ1 _ G1 H1 c hl1 ((Wn (by omega)).out (Grow.refl W1.sub) (show Rep _ _ _ _ from rfl))
  cases hx : isExc d with
  | false => exact .inl ⟨v1, .ty T, _, _, g d, rfl, .ty T, r1.ty hx, kit_ty (hk d), fin⟩
  | true =>
    cases d <;> first | cases hx | skip
    · obtain ⟨a, C, rfl, F, ea⟩ := r1
      exact .inr ⟨a, C, _, .ty T, _, g (.exc _ _), rfl, .ty T, F.cl, ea.sub W1.sub (Sub.refl _), by rw [hgx]; exact F.ty T hT, fin⟩
    · obtain ⟨a, C, dx, vs, rfl, F, ea, _⟩ := r1
      exact .inl ⟨_, .ty T, _, _, g (.obj _ _), rfl, .ty T, .base (.ins ea F.cl F.ha F.hn F.htk F.hm), by rw [hgo]; exact F.ty T hT, fin⟩
/-- isinstance(e, (T1, T2)) -/
theorem je_isi2 {T1 T2 : String} {g1 g2 : D → Bool} {e : Expr} {x y : Str} {p p2 p3 p4 pos : Pos} {kk} (hk1 : ∀ d, kitB (tyOf d) T1 = some (g1 d)) (hk2 : ∀ d, kitB (tyOf d) T2 = some (g2 d)) (hm : X.mg "isinstance" = none) (hmT : X.mg x = none) (hmU : X.mg y = none)
    (h : JE X en δ τ e (fun s1 δ1 m1 => ∃ d, s1.rd δ1 = some d ∧ C (.fr (.bl (g1 d || g2 d))) δ1 m1) m) (hvT : bootBuiltins x = some (.type T1) := by decide +kernel) (hvU : bootBuiltins y = some (.type T2) := by decide +kernel) (hg : Gl X "isinstance" := by rfl) (hgT : Gl X x := by rfl) (hgU : Gl X y := by rfl)
    (hn : x ≠ "__name__" := by decide) (hdb : (x == ("__debug__" : Str)) = false := by decide) (hn2 : y ≠ "__name__" := by decide) (hdb2 : (y == ("__debug__" : Str)) = false := by decide) (hgx1 : ∀ c xf, g1 (.exc c xf) = false := by exact fun _ _ => rfl) (hgx2 : ∀ c xf, g2 (.exc c xf) = false := by exact fun _ _ => rfl) (hgo1 : ∀ c fs, g1 (.obj c fs) = false := by exact fun _ _ => rfl) (hgo2 : ∀ c fs, g2 (.obj c fs) = false := by exact fun _ _ => rfl) (hT1 : T1 ∈ ["int", "bool", "str", "tuple", "list", "dict"] := by decide) (hT2 : T2 ∈ ["int", "bool", "str", "tuple", "list", "dict"] := by decide)
    (hs1 : starEach [.Name x p2, .Name y p3] X.env = (false, eval (.Name x p2) X.env) :: starEach [.Name y p3] X.env := by rfl)
    (he : starEach [e, .Tuple [.Name x p2, .Name y p3] kk p4] X.env = (false, eval e X.env) :: starEach [.Tuple [.Name x p2, .Name y p3] kk p4] X.env := by rfl) (hpl : (backTo pos (starEach [.Tuple [.Name x p2, .Name y p3] kk p4] X.env)).any (·.1) = false := by rfl) :
    JE X en δ τ (.Call (.Name "isinstance" p) [e, .Tuple [.Name x p2, .Name y p3] kk p4] [] pos) C m := .mk fun hb hx σ ts G H T' hl hσ W k => by
  refine we_of (pe_callB (call_isiT.or call_isXT) hg hm (by decide +kernel) (pa_cons pe_we (pa_cons (pe_tup (pa_cons (pe_bltn (v := .ty T1) hgT hmT hvT rfl hn hdb) (pa_cons (pe_bltn (v := .ty T2) hgU hmU hvU rfl hn2 hdb2) pa_nil) hs1)) pa_nil) he) (by decide) (by decide) he hpl) ?_
  have ht : τ.length = ts.length := W.splitLen (hl.trans hσ.symm)
  refine h.run hb hx σ ts G H _ hl hσ W fun s1 δ1 v1 G1 H1 c1 hl1 W1 => ?_
  obtain ⟨d, e1, c⟩ := c1
  obtain ⟨⟨_, _, ez, r1, _⟩, Wn⟩ := Wd.ends (sls := [s1]) (vs := [v1]) W1 (hl1.trans hσ.symm) ht (ds := [d]) (by simp only [rds, e1])
  cases ez
  refine ⟨by show 2 ≤ sizeLine; decide, fun tp hp => ?_⟩
  have sub := Sub.upd (o := .tup [.ty T1, .ty T2]) hp
  have r2 : VRep X.K G1 (upd H1 tp (.tup [.ty T1, .ty T2])) d v1 := VRep.sub (Sub.refl _) sub r1
  have fin : T' (.bl (g1 d || g2 d)) (upd H1 tp (.tup [.ty T1, .ty T2])) := k _ δ1 _ G1 _ c hl1 ((Wn (by omega)).out (Grow.laid W1.sub hp) (show Rep _ _ _ _ from rfl))
  cases hx : isExc d with
  | true =>
    cases d <;> first | cases hx | skip
    · obtain ⟨a, C, rfl, F, ea⟩ := r2
      exact .inr ⟨a, C, _, tp, _, [.type T1, .type T2], g1 (.exc _ _) || g2 (.exc _ _), rfl, upd_same, .cons (.ty T1) (.cons (.ty T2) .nil), F.cl, ea.sub (W1.sub.trans sub) (Sub.refl _), by
        rw [hgx1, hgx2]
        exact kitAny_cons (F.ty T1 hT1) (fun _ => kitAny_cons (F.ty T2 hT2) (fun _ => kitAny_nil) (fun z => by cases z)) (fun z => by cases z), fin⟩
    · obtain ⟨a, C, dx, vs, rfl, F, ea, _⟩ := r2
      exact .inl ⟨_, tp, _, _, [.type T1, .type T2], g1 (.obj _ _) || g2 (.obj _ _), rfl, upd_same, .cons (.ty T1) (.cons (.ty T2) .nil), .base (.ins ea F.cl F.ha F.hn F.htk F.hm), by
        rw [hgo1, hgo2]
        exact kitAny_cons (F.ty T1 hT1) (fun _ => kitAny_cons (F.ty T2 hT2) (fun _ => kitAny_nil) (fun z => by cases z)) (fun z => by cases z), fin⟩
  | false =>
  refine .inl ⟨v1, tp, _, _, [.type T1, .type T2], g1 d || g2 d, rfl, upd_same, .cons (.ty T1) (.cons (.ty T2) .nil), r2.ty hx, ?_, fin⟩
  cases h1 : g1 d with
  | true => exact kitAny_cons (kit_ty ((hk1 d).trans (by rw [h1]))) (fun z => by cases z) (fun _ => rfl)
  | false =>
    cases h2 : g2 d with
    | true => exact kitAny_cons (kit_ty ((hk1 d).trans (by rw [h1]))) (fun _ => kitAny_cons (kit_ty ((hk2 d).trans (by rw [h2]))) (fun z => by cases z) (fun _ => rfl)) (fun z => by cases z)
    | false => exact kitAny_cons (kit_ty ((hk1 d).trans (by rw [h1]))) (fun _ => kitAny_cons (kit_ty ((hk2 d).trans (by rw [h2]))) (fun _ => kitAny_nil) (fun z => by cases z)) (fun z => by cases z)
end

/-! ### calls of what is built in -/
def absD : List D → Option D
  | [.int a] => some (.int (if a < 0 then -a else a))
  | _ => none
def max2D : List D → Option D
  | [.int a, .int b] => some (.int (if b > a then b else a))
  | _ => none
def min2D : List D → Option D
  | [.int a, .int b] => some (.int (if b < a then b else a))
  | _ => none
def intD : List D → Option D
  | [.int a] => some (.int a)
  | [.bl b] => some (.int (if b then 1 else 0))
  | _ => none
def lenD : List D → Option D
  | [.lst ds] => some (.int ds.length)
  | [.tup ds] => some (.int ds.length)
  | [.scr ns] => some (.int ns.length)
  | [.str x] => if x.length ≤ sizeLine then some (.int x.length) else none
  | _ => none
def bls : List D → Option (List Bool)
  | [] => some []
  | .bl b :: r => (bls r).map (b :: ·)
  | _ :: _ => none
def intsD : List D → Option (List Int)
  | [] => some []
  | .int b :: r => (intsD r).map (b :: ·)
  | _ :: _ => none
def allD : List D → Option D
  | [.lst ds] => (bls ds).map fun bs => .bl (bs.all id)
  | _ => none
def anyD : List D → Option D
  | [.lst ds] => (bls ds).map fun bs => .bl (bs.any id)
  | _ => none
def sumD : List D → Option D
  | [.lst ds] => (intsD ds).map fun ns => .int ns.sum
  | _ => none
/-- list(..), a new one -/
def listD : List D → Option D
  | [.lst ds] => some (.lst ds)
  | [.tup ds] => some (.lst ds)
  | _ => none
def tupleD : List D → Option D
  | [.lst ds] => some (.tup ds)
  | _ => none
section
variable {X : Cx}
theorem VReps.one {K : PySem.W.Frag} {G H : Hp} {d : D} {vs : List V} (h : VReps K G H [d] vs) : ∃ v, vs = [v] ∧ VRep K G H d v := by
  obtain ⟨v, r, e, q, e2⟩ := h
  exact ⟨v, by rw [e, show r = [] from e2], q⟩
theorem VReps.two {K : PySem.W.Frag} {G H : Hp} {d e : D} {vs : List V} (h : VReps K G H [d, e] vs) : ∃ v u, vs = [v, u] ∧ VRep K G H d v ∧ VRep K G H e u := by
  obtain ⟨v, r, e, q, h2⟩ := h
  obtain ⟨u, e2, q2⟩ := VReps.one h2
  exact ⟨v, u, by rw [e, e2], q, q2⟩
theorem intsD_v {K : PySem.W.Frag} {G : Hp} : ∀ {ds : List D} {bs : List Int} {vs : List V}, intsD ds = some bs → Reps K G ds vs → vs = bs.map V.int
  | [], bs, vs, h, r => by cases h; exact r
  | .int b :: ds, bs, vs, h, r => by
    unfold intsD at h
    obtain ⟨bs', h1, h2⟩ := Option.map_eq_some_iff.mp h
    subst h2
    obtain ⟨v, q, e, r1, r2⟩ := r
    have e1 : v = .int b := r1
    subst e e1
    rw [intsD_v h1 r2]; rfl
  | .non :: _, _, _, h, _ => by cases h
  | .bl _ :: _, _, _, h, _ => by cases h
  | .str _ :: _, _, _, h, _ => by cases h
  | .lst _ :: _, _, _, h, _ => by cases h
  | .tup _ :: _, _, _, h, _ => by cases h
  | .dic _ :: _, _, _, h, _ => by cases h
  | .scr _ :: _, _, _, h, _ => by cases h
  | .exc _ _ :: _, _, _, h, _ => by cases h
  | .obj _ _ :: _, _, _, h, _ => by cases h
theorem c_abs : CallD X (.builtin "abs") absD .fr := callD_of call_abs fun ds d e G H vs Q sb r k => by
  match ds, e, r with
  | [.int a], e, r =>
    cases e
    obtain ⟨v, ev, q⟩ := VReps.one r
    have q' : v = .int a := q
    subst ev q'
    exact ⟨a, rfl, sc_out (d := .int (if a < 0 then -a else a)) sb rfl k⟩
theorem c_max2 (hc : X.calm = true) : CallD X (.builtin "max") max2D .fr := callD_of (call_max2 hc) fun ds d e G H vs Q sb r k => by
  match ds, e, r with
  | [.int a, .int b], e, r =>
    cases e
    obtain ⟨v, u, ev, q, q2⟩ := VReps.two r
    have q' : v = .int a := q
    have q2' : u = .int b := q2
    subst ev q' q2'
    exact ⟨a, b, rfl, sc_out (d := .int (if b > a then b else a)) sb rfl k⟩
theorem c_min2 (hc : X.calm = true) : CallD X (.builtin "min") min2D .fr := callD_of (call_min2 hc) fun ds d e G H vs Q sb r k => by
  match ds, e, r with
  | [.int a, .int b], e, r =>
    cases e
    obtain ⟨v, u, ev, q, q2⟩ := VReps.two r
    have q' : v = .int a := q
    have q2' : u = .int b := q2
    subst ev q' q2'
    exact ⟨a, b, rfl, sc_out (d := .int (if b < a then b else a)) sb rfl k⟩
theorem c_len : CallD X (.builtin "len") lenD .fr := callD_of (call_len_seq.or call_len_str) fun ds d e G H vs Q sb r k => by
  match ds, e, r with
  | [.lst ds], e, r =>
    cases e
    obtain ⟨v, ev, p, us, q, h, r2⟩ := VReps.one r
    subst ev q
    exact .inl ⟨p, us, rfl, .inl (SqL.of h), by rw [← r2.length]; exact sc_out (d := .int ds.length) sb rfl k⟩
  | [.tup ds], e, r =>
    cases e
    obtain ⟨v, ev, p, us, q, h, r2⟩ := VReps.one r
    subst ev q
    exact .inl ⟨p, us, rfl, .inr h, by rw [← r2.length]; exact sc_out (d := .int ds.length) sb rfl k⟩
  | [.scr ds], e, r =>
    cases e
    obtain ⟨v, ev, p, q, h⟩ := VReps.one r
    subst ev q
    exact .inl ⟨p, _, rfl, .inl h, by rw [List.length_map]; exact sc_out (d := .int ds.length) sb rfl k⟩
  | [.str x], e, r =>
    obtain ⟨v, ev, q⟩ := VReps.one r
    have q' : v = .str x := q
    subst ev q'
    have e' : (if x.length ≤ sizeLine then some (D.int x.length) else none) = some d := e
    by_cases hz : x.length ≤ sizeLine
    · rw [if_pos hz] at e'
      cases e'
      exact .inr ⟨x, rfl, hz, sc_out (d := .int x.length) sb rfl k⟩
    · rw [if_neg hz] at e'; cases e'
theorem c_list : CallD X (.type "list") listD .mu := callD_of call_list_of fun ds d e G H vs Q sb r k => by
  match ds, e, r with
  | [.lst ds], e, r =>
    cases e
    obtain ⟨v, ev, p, us, q, h, r2⟩ := VReps.one r
    subst ev q
    exact ⟨p, us, rfl, .inl (SqL.of h), mu_out sb r2 k⟩
  | [.tup ds], e, r =>
    cases e
    obtain ⟨v, ev, p, us, q, h, r2⟩ := VReps.one r
    subst ev q
    exact ⟨p, us, rfl, .inr h, mu_out sb r2 k⟩
theorem c_tuple : CallD X (.type "tuple") tupleD .fr := callD_of call_tuple_of fun ds d e G H vs Q sb r k => by
  match ds, e, r with
  | [.lst ds], e, r =>
    cases e
    obtain ⟨v, ev, p, us, q, h, r2⟩ := VReps.one r
    subst ev q
    exact ⟨p, us, rfl, .inl ⟨SqL.of h, fzT_out sb r2 k⟩⟩
end

/-! ### places -/
def ixD : D → D → Option D
  | .lst ds, .int i => atI ds i
  | .tup ds, .int i => atI ds i
  | .scr ns, .int i => (atI ns i).map D.int
  | _, _ => none
theorem Reps.at {K : PySem.W.Frag} {G : Hp} {ds : List D} {vs : List V} {i : Int} {d : D} (r : Reps K G ds vs) (h : atI ds i = some d) : ∃ v, atI vs i = some v ∧ Rep K G d v := by
  unfold atI at h ⊢
  obtain ⟨j, h1, h2⟩ := Option.bind_eq_some_iff.mp h
  obtain ⟨v, h3, h4⟩ := r.get h2
  exact ⟨v, by rw [← r.length, h1]; exact h3, h4⟩
theorem atI_map {α β : Type} (f : α → β) (xs : List α) (i : Int) : atI (xs.map f) i = (atI xs i).map f := by
  unfold atI
  rw [List.length_map]
  cases ixN xs.length i with
  | none => rfl
  | some j => show (xs.map f)[j]? = _; rw [List.getElem?_map]; rfl
section
variable {X : Cx} {en : Kn} {δ τ : List Slot} {R : Type} {C : Slot → List Slot → Res R → Prop} {m : Res R} {K : PySem.W.Frag}
theorem ix_D : IxD X ixD .fr := ixD_of (ix_list.or ix_tup) fun d1 d2 d e G H v1 v2 Q sb r1 r2 k => by
  match d1, d2, e, r1, r2 with
  | .lst ds, .int i, e, r1, r2 =>
    obtain ⟨p, vs, e1, q1, s1⟩ := r1
    obtain ⟨v, h1, h2⟩ := s1.at e
    exact .inl ⟨p, vs, i, v, e1, r2, SqL.of q1, h1, k v G H (Grow.refl sb) h2⟩
  | .tup ds, .int i, e, r1, r2 =>
    obtain ⟨p, vs, e1, q1, s1⟩ := r1
    obtain ⟨v, h1, h2⟩ := s1.at e
    exact .inr ⟨p, vs, i, v, e1, r2, q1, h1, k v G H (Grow.refl sb) h2⟩
  | .scr ns, .int i, e, r1, r2 =>
    obtain ⟨p, e1, q1⟩ := r1
    obtain ⟨n, h1, h2⟩ := Option.map_eq_some_iff.mp (show (atI ns i).map D.int = some d from e)
    subst h2
    exact .inl ⟨p, _, i, .int n, e1, r2, q1, by rw [atI_map, h1]; rfl, sc_out (d := .int n) sb rfl k⟩

/-! ### cuts of lists -/
def cutD (xs : List D) (lo hi : Option Int) : List D := (xs.drop (HT.sIx xs.length 0 lo)).take (HT.sIx xs.length xs.length hi - HT.sIx xs.length 0 lo)
/-- an optional part of a cut -/
abbrev WO (X : Cx) (e : Option Expr) : TO := fun σ H Q => ∀ (pins : List (Addr × Obj)) (s : Shared), Inv X pins σ H s → wpAny (model X.prog X.w) X.A (evalPart e X.env) (fun u s' => ∃ o H', Inv X pins σ H' s' ∧ IsPart u o ∧ Q o H') X.xe s
theorem po_wo {e : Option Expr} : PO X e (WO X e) := ⟨fun pins s _ _ _ I h => h pins s I⟩
theorem wo_of {e : Option Expr} {t : TO} (h : PO X e t) {σ : L2.St} {H : Hp} {Q : Option Int → Hp → Prop} (q : t σ H Q) : WO X e σ H Q := fun pins s I => h.run pins s σ H Q I q
structure JO (X : Cx) (en : Kn) (δ τ : List Slot) (e : Option Expr) {R : Type} (C : Option Int → List Slot → Res R → Prop) (m : Res R) : Prop where
  run : m ≠ .bad → en.HX m.exc → ∀ (σ ts : L2.St) (G H : Hp) (T : Option Int → Hp → Prop), δ.length = en.n → σ.length = en.n → Wd X.K en (δ ++ τ) (σ ++ ts) G H →
    (∀ o δ' G' H', C o δ' m → δ'.length = en.n → Wd X.K en (δ' ++ τ) (σ ++ ts) G' H' → T o H') → WO X e σ H T
def asI : D → Option Int
  | .int i => some i
  | _ => none
theorem jo_none {C : Option Int → List Slot → Res R → Prop} (h : C none δ m) : JO X en δ τ none C m := .mk fun hb hx σ ts G H T hl hσ W k => wo_of po_none (k none δ G H h hl W)
theorem jo_some {e : Expr} {C : Option Int → List Slot → Res R → Prop} (h : JE X en δ τ e (fun s δ1 m1 => ∃ d k, s.rd δ1 = some d ∧ m1 = op (asI d) k ∧ ∀ i, C (some i) δ1 (k i)) m) : JO X en δ τ (some e) C m := .mk fun hb hx σ ts G H T hl hσ W k => by
  refine wo_of (po_some pe_we) ?_
  have ht : τ.length = ts.length := W.splitLen (hl.trans hσ.symm)
  refine h.run hb hx σ ts G H _ hl hσ W fun s1 δ1 v1 G1 H1 c1 hl1 W1 => ?_
  obtain ⟨d, k', e1, em, hk⟩ := c1
  have hb' := hb
  rw [em] at hb'
  obtain ⟨i, ei⟩ := op_some hb'
  have em' : m = k' i := by rw [em, ei]; rfl
  obtain ⟨⟨_, _, ez, r1, _⟩, Wn⟩ := Wd.ends (sls := [s1]) (vs := [v1]) W1 (hl1.trans hσ.symm) ht (ds := [d]) (by simp only [rds, e1])
  cases ez
  have hk2 := hk i
  rw [← em'] at hk2
  cases d <;> first | cases ei | skip
  exact ⟨_, r1, k _ δ1 G1 H1 hk2 hl1 (Wn (by omega))⟩
theorem cutV_reps {G : Hp} {ds : List D} {vs : List V} (r : Reps K G ds vs) (lo hi : Option Int) : Reps K G (cutD ds lo hi) (cutV vs lo hi) := by
  unfold cutD cutV
  rw [← r.length]
  exact Reps.take _ (Reps.drop _ r)
def asLst : D → Option (List D)
  | .lst ds => some ds
  | _ => none
/-- xs[lo:hi] of a list: a new one -/
theorem je_cut {e : Expr} {lo hi : Option Expr} {p2 pos : Pos}
    (h : JE X en δ τ e (fun s1 δ1 m1 => JO X en δ1 (τ ++ [s1]) lo (fun l δ2 m2 => JO X en δ2 (τ ++ [s1]) hi (fun u δ3 m3 => ∃ d k, s1.rd δ3 = some d ∧ m3 = op (asLst d) k ∧ ∀ ds, C (.mu (.lst (cutD ds l u))) δ3 (k ds)) m2) m1) m) :
    JE X en δ τ (.Subscript e (.Slice lo hi none p2) pos) C m := .mk fun hb hx σ ts G H T hl hσ W k => by
  refine we_of (pe_slice sl_list pe_we po_wo po_wo) ?_
  have ht : τ.length = ts.length := W.splitLen (hl.trans hσ.symm)
  refine h.run hb hx σ ts G H _ hl hσ W fun s1 δ1 v1 G1 H1 c1 hl1 W1 => ?_
  rw [List.append_assoc, List.append_assoc] at W1
  refine c1.run hb hx σ (ts ++ [some v1]) G1 H1 _ hl1 hσ W1 fun l δ2 G2 H2 c2 hl2 W2 => ?_
  refine c2.run hb hx σ (ts ++ [some v1]) G2 H2 _ hl2 hσ W2 fun u δ3 G3 H3 c3 hl3 W3 => ?_
  obtain ⟨d, k', e1, em, hk⟩ := c3
  have hb' := hb
  rw [em] at hb'
  obtain ⟨ds, ed⟩ := op_some hb'
  have em' : m = k' ds := by rw [em, ed]; rfl
  have hk2 := hk ds
  rw [← em'] at hk2
  have W4 : Wd X.K en (δ3 ++ τ ++ [s1]) (σ ++ ts ++ [v1].map some) G3 H3 := by
    rw [List.append_assoc, List.append_assoc]; exact W3
  obtain ⟨⟨_, _, ez, r1, _⟩, Wn⟩ := W4.ends (hl3.trans hσ.symm) ht (ds := [d]) (by simp only [rds, e1])
  cases ez
  cases d <;> first | cases ed | skip
  obtain ⟨p, vs, ev, q1, s1'⟩ := r1
  exact ⟨p, vs, ev, SqL.of q1, mu_out W3.sub (cutV_reps s1' l u) fun v G' H' gr out => k _ δ3 v G' H' hk2 hl3 ((Wn (by omega)).out gr out)⟩
end

/-! ### lists changed -/
/-- a method that changes its list: the data of the list, the arguments; what is told and the list behind it -/
def MutD (X : Cx) (id : String) (g : D → List D → Option (D × D)) : Prop :=
  ∀ dl args ret dl', g dl args = some (ret, dl') → ∀ (pins : List (Addr × Obj)) (s : Shared) (σ : L2.St) (G H : Hp) (p : Addr) (vs : List V) (us : List Value) (Q : VK), Inv X pins σ H s → Sub G H → G p = none → MRep X.K G H dl p → Reps X.K G args vs → Vals vs us →
    (∀ v o', Rep X.K G ret v → MRep X.K G (upd H p o') dl' p → Q v (upd H p o')) → wpAny (model X.prog X.w) X.A (call (.builtin id) (.ref p :: us)) (EP X pins σ Q) X.xe s
theorem mutD_of {X : Cx} {id : String} {r : V → List V → Hp → VK → Prop} {g : D → List D → Option (D × D)} (h : MtM X id r)
    (k : ∀ dl args ret dl', g dl args = some (ret, dl') → ∀ (G H : Hp) (p : Addr) (vs : List V) (Q : VK), Sub G H → MRep X.K G H dl p → Reps X.K G args vs → (∀ v o', Rep X.K G ret v → MRep X.K G (upd H p o') dl' p → Q v (upd H p o')) → r (.ref p) vs H Q) : MutD X id g :=
  fun dl args ret dl' e pins s σ G H p vs us Q I sb _ r1 r2 q hq => h pins s σ H (.ref p) vs (.ref p) us Q I rfl q (k dl args ret dl' e G H p vs Q sb r1 r2 hq)
def appendD : D → List D → Option (D × D)
  | .lst ds, [d] => if ds.length < sizeLine then some (.non, .lst (ds ++ [d])) else none
  | _, _ => none
def popD : D → List D → Option (D × D)
  | .lst ds, [] => (ds[ds.length - 1]?).map fun d => (d, .lst ds.dropLast)
  | _, _ => none
def clearD : D → List D → Option (D × D)
  | .lst _, [] => some (.non, .lst [])
  | _, _ => none
def reverseD : D → List D → Option (D × D)
  | .lst ds, [] => some (.non, .lst ds.reverse)
  | _, _ => none
def extendD : D → List D → Option (D × D)
  | .lst ds, [.lst es] => if ds.length + es.length ≤ sizeLine then some (.non, .lst (ds ++ es)) else none
  | _, _ => none
section
variable {X : Cx} {en : Kn} {δ τ : List Slot} {R : Type} {C : Slot → List Slot → Res R → Prop} {m : Res R} {K : PySem.W.Frag}
theorem m_append : MutD X "list.append" appendD := mutD_of mt_append fun dl args ret dl' e G H p vs Q sb r1 r2 k => by
  match dl, args, e, r1, r2 with
  | .lst ds, [d], e, r1, r2 =>
    have e' : (if ds.length < sizeLine then some (D.non, D.lst (ds ++ [d])) else none) = some (ret, dl') := e
    by_cases hz : ds.length < sizeLine
    · rw [if_pos hz] at e'
      cases e'
      obtain ⟨us, h1, h2⟩ := r1
      obtain ⟨v, r, ev, q, e2⟩ := r2
      have e2' : r = [] := e2
      subst ev e2'
      exact ⟨p, us, v, rfl, rfl, h1, by rw [← h2.length]; exact hz, k .non _ rfl ⟨_, upd_same, h2.append (Reps.one q)⟩⟩
    · rw [if_neg hz] at e'; cases e'
theorem m_extend : MutD X "list.extend" extendD := mutD_of mt_extend fun dl args ret dl' e G H p vs Q sb r1 r2 k => by
  match dl, args, e, r1, r2 with
  | .lst ds, [.lst es], e, r1, r2 =>
    have e' : (if ds.length + es.length ≤ sizeLine then some (D.non, D.lst (ds ++ es)) else none) = some (ret, dl') := e
    by_cases hz : ds.length + es.length ≤ sizeLine
    · rw [if_pos hz] at e'
      cases e'
      obtain ⟨us, h1, h2⟩ := r1
      obtain ⟨v, r, ev, ⟨b, zs, e3, q, r3⟩, e2⟩ := r2
      have e2' : r = [] := e2
      subst ev e2' e3
      exact ⟨p, b, us, zs, rfl, rfl, h1, sb _ _ q, by rw [← h2.length, ← r3.length]; exact hz, k .non _ rfl ⟨_, upd_same, h2.append r3⟩⟩
    · rw [if_neg hz] at e'; cases e'
/-- the list of a name -/
theorem own_of {δ : List Slot} {i : Nat} {sl : Slot} {σ ts : L2.St} {G H : Hp} (W : Wd K en (δ ++ τ) (σ ++ ts) G H) (hl : δ.length = en.n) (hσ : σ.length = en.n) {d : D} (h : δ[i]? = some sl) (ho : sl.own = true) (hd : sl.rd δ = some d) :
    ∃ p, σ[i]? = some (some (.ref p)) ∧ Own (δ ++ τ) (σ ++ ts) i p ∧ G p = none ∧ MRep K G H d p := by
  obtain ⟨o, h1, q⟩ := W.name (hl.trans hσ.symm) h
  have hi := (List.getElem?_eq_some_iff.mp h).1
  have up : ∀ p, o = some (V.ref p) → Own (δ ++ τ) (σ ++ ts) i p := fun p e => ⟨sl, by rw [List.getElem?_append_left hi]; exact h, ho, by rw [List.getElem?_append_left (by omega), h1, e]⟩
  cases sl with
  | mu d' => cases hd; obtain ⟨p, e, n, _, _, r⟩ := q; exact ⟨p, by rw [h1, e], up p e, n, r⟩
  | mp j d' => cases hd; obtain ⟨p, e, _, n, _, r⟩ := q; exact ⟨p, by rw [h1, e], up p e, n, r⟩
  | un => cases ho
  | fr _ => cases ho
  | bw _ => cases ho
  | bo _ => cases ho
/-- name.method(args), the name's own list changed -/
theorem mut_core {id : String} {g : D → List D → Option (D × D)} {x : Str} {p : Pos} {es : List Expr} {whole : Expr} (i : Nat) {sl0 : Slot} {ds0 : List D} (hm : MutD X id g)
    (rule : ∀ {r : V → List V → Hp → VK → Prop} {to : TE} {t : TA}, MtR X id r → PE X (.Name x p) to → PA X es t → PE X whole (tBM X.K "list" r to t))
    (hs : δ[i]? = some sl0) (ho : sl0.own = true) (hd : sl0.rd δ = some (.lst ds0))
    (h : JA X en δ τ es (fun sls δ1 m1 => ∃ ds sl dl k, ∃ pe : D × D → List Slot, frs sls = some ds ∧ δ1[i]? = some sl ∧ sl.own = true ∧ sl.rd δ1 = some dl ∧ m1 = op (g dl ds) k ∧ (∀ r, δ1.set i (sl.put r.2) = pe r) ∧ ∀ r, g dl ds = some r → C (.fr r.1) (pe r) (k r)) m)
    (hN : X.N[i]? = some x) (hv : Vis X.env.scope x) (hdd : (x == ("__debug__" : Str)) = false) (hcd : (x == ("__classdict__" : Str)) = false) : JE X en δ τ whole C m := .mk fun hb hx σ ts G H T hl hσ W k => by
  refine we_of (rule (r := fun x vs H Q => ∃ p, x = .ref p ∧ ∀ (pins : List (Addr × Obj)) (s : Shared) (σ : L2.St) (us : List Value), Inv X pins σ H s → Vals vs us → wpAny (model X.prog X.w) X.A (call (.builtin id) (.ref p :: us)) (EP X pins σ Q) X.xe s)
    (fun pins s σ H x xs v us Q I r1 r2 h => by
      obtain ⟨p, e, h⟩ := h
      subst e
      cases r1
      exact h pins s σ us I r2) (pe_var hN hv hdd hcd) pa_wa) ?_
  have ht : τ.length = ts.length := W.splitLen (hl.trans hσ.symm)
  obtain ⟨p0, h1, _, _, us0, h2, h3⟩ := own_of W hl hσ hs ho hd
  refine ⟨.ref p0, h1, .inl ⟨rfl, us0, SqL.of h2⟩, ?_⟩
  refine h.run hb hx σ ts G H _ hl hσ W fun sls δ1 vs G1 H1 c1 hl1 W1 => ?_
  obtain ⟨ds, sl, dl, k', pe, e1, e2, e3, e4, em, hpe, hk⟩ := c1
  have hb' := hb
  rw [em] at hb'
  obtain ⟨r, er⟩ := op_some hb'
  have em' : m = k' r := by rw [em, er]; rfl
  have hk2 := hk r er
  rw [← em'] at hk2
  obtain ⟨hn, hq⟩ := W1.endSlots (hl1.trans hσ.symm) ht
  have hr : Reps X.K G1 ds vs := Wd.frs (Δ := δ) (H := H1) hq hn e1
  have W2 := W1.cut (Δ := δ1 ++ τ) (S := σ ++ ts) (by rw [List.length_append, List.length_append]; omega) (by rw [List.length_append]; omega)
  obtain ⟨p1, h5, ow, n1, r1⟩ := own_of W2 hl1 hσ e2 e3 e4
  rw [h1] at h5
  cases h5
  have hi := (List.getElem?_eq_some_iff.mp e2).1
  refine ⟨p0, rfl, fun pins s σ' us I rv => hm dl ds r.1 r.2 er pins s σ' G1 H1 p0 vs us T I W2.sub n1 r1 hr rv fun v o' rr rm => ?_⟩
  have W3 := W2.mut ow rm
  rw [List.getD_eq_getElem?_getD, List.getElem?_append_left hi, e2, List.set_append_left _ _ hi] at W3
  have W4 : Wd X.K en (pe r ++ τ) (σ ++ ts) G1 (upd H1 p0 o') := by rw [← hpe r]; exact W3
  refine k _ (pe r) v G1 _ hk2 (by rw [← hpe r, List.length_set]; exact hl1) (W4.out (Grow.refl W4.sub) rr)
theorem je_mut {id : String} {g : D → List D → Option (D × D)} {name : Str} {x : Str} {p apos cpos : Pos} {e : Expr} {es : List Expr} (i : Nat) {sl0 : Slot} {ds0 : List D} (slot : PySem.Slot "list" name id) (hty : typeOf (.builtin id) = pure (.type "method_descriptor")) (hm : MutD X id g)
    (hs : δ[i]? = some sl0) (ho : sl0.own = true) (hd : sl0.rd δ = some (.lst ds0))
    (h : JA X en δ τ (e :: es) (fun sls δ1 m1 => ∃ ds sl dl k, ∃ pe : D × D → List Slot, frs sls = some ds ∧ δ1[i]? = some sl ∧ sl.own = true ∧ sl.rd δ1 = some dl ∧ m1 = op (g dl ds) k ∧ (∀ r, δ1.set i (sl.put r.2) = pe r) ∧ ∀ r, g dl ds = some r → C (.fr r.1) (pe r) (k r)) m)
    (hN : X.N[i]? = some x := by rfl) (hv : Vis X.env.scope x := by first | exact Or.inl rfl | exact Or.inr (Or.inl rfl) | exact Or.inr (Or.inr rfl)) (hdd : (x == ("__debug__" : Str)) = false := by decide) (hcd : (x == ("__classdict__" : Str)) = false := by decide)
    (hfew : ((backTo cpos (starEach (e :: es) X.env)).all (fun x => !x.1) && (backToKw cpos (keywordEach [] X.env)).all (fun x => x.1.isSome)
      && decide ((e :: es).length + ([] : List Keyword).length + (if ([] : List Keyword).isEmpty then 0 else 1) < 30)) = true := by rfl)
    (hline : (apos.endLine == cpos.line) = true := by rfl) (hst : starEach (e :: es) X.env = (false, eval e X.env) :: starEach es X.env := by exact star_plain rfl) (hplain : (backTo cpos (starEach es X.env)).any (·.1) = false := by rfl) :
    JE X en δ τ (.Call (.Attribute (.Name x p) name apos) (e :: es) [] cpos) C m :=
  mut_core i hm (fun h1 h2 h3 => pe_bm PySem.F.plainAttrs_list slot hty h1 h2 h3 rfl hfew hline hst hplain) hs ho hd h hN hv hdd hcd
end
end BR

/-! K12: more of lists changed, x op= e, repr -/
namespace BR
open PySem PySem.Spec PyProof.Rows L2
section
variable {X : Cx} {en : Kn} {δ τ : List Slot} {R : Type} {C : Slot → List Slot → Res R → Prop} {m : Res R} {K : PySem.W.Frag}
variable {N : List Slot → Res R → Prop} {RT : Slot → List Slot → Res R → Prop} {BK CT : List Slot → Res R → Prop}
/-! ### name[i] = e -/
def setD : D → D → D → Option D
  | .lst ds, .int i, d => (ixN ds.length i).map fun j => .lst (ds.set j d)
  | _, _, _ => none
theorem js_setIx {x : Str} {p p2 pos : Pos} {idx e : Expr} (i : Nat)
    (h : JE X en δ [] e (fun s1 δ1 m1 => ∃ d sl0, s1 = .fr d ∧ δ1[i]? = some sl0 ∧ sl0.own = true ∧ JE X en δ1 [s1] idx (fun s2 δ2 m2 => ∃ di sl dl k, ∃ pe : D → List Slot, s2.rd δ2 = some di ∧ δ2[i]? = some sl ∧ sl.own = true ∧ sl.rd δ2 = some dl ∧ m2 = op (setD dl di d) k ∧ (∀ r, δ2.set i (sl.put r) = pe r) ∧ ∀ r, setD dl di d = some r → N (pe r) (k r)) m1) m)
    (hN : X.N[i]? = some x := by rfl) (hv : Vis X.env.scope x := by first | exact Or.inl rfl | exact Or.inr (Or.inl rfl) | exact Or.inr (Or.inr rfl)) (hdd : (x == ("__debug__" : Str)) = false := by decide) (hcd : (x == ("__classdict__" : Str)) = false := by decide)
    (hs : swapsWithSole [.Subscript (.Name x p) idx p2] e pos.line X.env = pure false := by rfl) (hw : swappedStores [.Subscript (.Name x p) idx p2] e X.env = pure none := by rfl)
    (h1 : (assignEach [.Subscript (.Name x p) idx p2] X.env).map (·.2) = [assign (.Subscript (.Name x p) idx p2) X.env] := by rfl)
    (ha : ∀ v, assign (.Subscript (.Name x p) idx p2) X.env v = (do
      let ov ← holding [v] (eval (.Name x p) X.env)
      let iv ← holding [v, ov] (eval idx X.env)
      standAt p2
      holding [v, ov, iv] (setItem ov iv v)
      release [v, ov, iv] []) := by intro _; rfl) :
    JS X en δ (.Assign [.Subscript (.Name x p) idx p2] e pos) N RT BK CT m := .mk fun hb hx σ G H E hl W k1 k2 k3 k4 => by
  refine ws_of (ps_asg pe_we (pg_sub (pe_var hN hv hdd hcd) pe_we set_list ha) hs hw h1) ?_
  have hσ := W.sl hl
  refine h.at hb hx hl W fun s1 δ1 v1 G1 H1 ⟨d, sl0, es, f1, f2, c1⟩ hl1 W1 => ?_
  subst es
  have own1 : ∃ p0, σ[i]? = some (some (V.ref p0)) := by
    obtain ⟨o, g1, g2⟩ := W1.name (τ := [.fr d]) (hl1.trans hσ.symm) f1
    cases sl0 with
    | mu _ => obtain ⟨p, e, _⟩ := g2; exact ⟨p, by rw [g1, e]⟩
    | mp _ _ => obtain ⟨p, e, _⟩ := g2; exact ⟨p, by rw [g1, e]⟩
    | un => cases f2
    | fr _ => cases f2
    | bw _ => cases f2
    | bo _ => cases f2
  obtain ⟨p0, h0⟩ := own1
  refine ⟨.ref p0, h0, ?_⟩
  refine c1.run hb hx σ [some v1] G1 H1 _ hl1 hσ W1 fun s2 δ2 v2 G2 H2 c2 hl2 W2 => ?_
  obtain ⟨di, sl, dl, k', pe, e1, e2, e3, e4, em, hpe, hk⟩ := c2
  have hb' := hb
  rw [em] at hb'
  obtain ⟨r, er⟩ := op_some hb'
  have em' : m = k' r := by rw [em, er]; rfl
  have hk2 := hk r er
  rw [← em'] at hk2
  have W3 : Wd X.K en (δ2 ++ [] ++ [.fr d, s2]) (σ ++ [] ++ [v1, v2].map some) G2 H2 := by
    have := W2
    simp only [List.append_assoc, List.map_cons, List.map_nil, List.cons_append, List.nil_append] at this ⊢
    exact this
  obtain ⟨⟨_, _, ez, _, _, _, ez2, r2, ez3⟩, Wn⟩ := W3.ends (τ := []) (ts := []) (hl2.trans hσ.symm) rfl (ds := [d, di]) (by simp only [rds, e1]; rfl)
  cases ez
  cases ez2
  obtain ⟨v', ev', rd⟩ := (W2.cut (Δ := δ2 ++ [.fr d]) (S := σ ++ [some v1]) (by rw [List.length_append, List.length_append]; simp; omega) (by rw [List.length_append]; omega)).last
  cases ev'
  have W4 := Wn (by omega)
  obtain ⟨p1, h5, ow, n1, r1⟩ := own_of W4 hl2 hσ e2 e3 e4
  rw [h0] at h5
  cases h5
  have hi := (List.getElem?_eq_some_iff.mp e2).1
  match dl, di, er, r1, r2 with
  | .lst ds, .int j, er, r1, r2 =>
    obtain ⟨l, h6, h7⟩ := Option.map_eq_some_iff.mp (show (ixN ds.length j).map (fun l => D.lst (ds.set l d)) = some r from er)
    subst h7
    obtain ⟨us, h8, h9⟩ := r1
    have r2' : v2 = .int j := r2
    subst r2'
    refine ⟨p0, us, j, l, rfl, rfl, h8, by rw [← h9.length]; exact h6, ?_⟩
    have W5 := W4.mut (o' := .lst (us.set l v1)) (d' := .lst (ds.set l d)) ow ⟨_, upd_same, Reps.set rd l h9⟩
    rw [List.getD_eq_getElem?_getD, List.getElem?_append_left hi, e2, List.set_append_left _ _ hi, List.append_nil, List.append_nil] at W5
    have W6 : Wd X.K en (pe (.lst (ds.set l d))) σ G2 (upd H2 p0 (.lst (us.set l v1))) := by rw [← hpe]; exact W5
    exact k1 _ σ G2 _ hk2 (by rw [← hpe, List.length_set]; exact hl2) W6

/-! ### name op= e -/
def iaddD : D → D → Option D
  | .int a, .int b => some (.int (a + b))
  | .str a, .str b => if a.length + b.length ≤ sizeLine then some (.str (a ++ b)) else none
  | _, _ => none
theorem ip_addD : OpD X (inplaceOp .Add) iaddD .fr := opD_of (iop_add.or iop_add_str) fun d1 d2 d e G H v1 v2 Q sb r1 r2 k => by
  match d1, d2, e, r1, r2 with
  | .int a, .int b, e, r1, r2 =>
    cases e
    exact .inl ⟨a, b, r1, r2, sc_out (d := .int (a + b)) sb rfl k⟩
  | .str a, .str b, e, r1, r2 =>
    have e' : (if a.length + b.length ≤ sizeLine then some (D.str (a ++ b)) else none) = some d := e
    by_cases hz : a.length + b.length ≤ sizeLine
    · rw [if_pos hz] at e'
      cases e'
      exact .inr ⟨a, b, r1, r2, hz, sc_out (d := .str (a ++ b)) sb rfl k⟩
    · rw [if_neg hz] at e'; cases e'
theorem js_aug {op' : Operator} {g : D → D → Option D} {x : Str} {p pos : Pos} {e : Expr} {d : D} (i : Nat) (hN : X.N.Nodup) (ho : OpD X (inplaceOp op') g .fr) (hs : δ[i]? = some (.fr d))
    (h : JE X en δ [.fr d] e (fun s2 δ2 m2 => ∃ d2 k, ∃ pe : D → List Slot, s2.rd δ2 = some d2 ∧ noBo δ2 = true ∧ m2 = op (g d d2) k ∧ (∀ r, δ2.set i (.fr r) = pe r) ∧ ∀ r, g d d2 = some r → N (pe r) (k r)) m)
    (hi : X.N[i]? = some x := by rfl) (hx : Loc X.env.scope x := by first | exact Or.inl rfl | exact Or.inr rfl) (hf : X.fn x = true ∨ X.env.scope.names.lookup x = some .local := by first | exact .inl rfl | exact .inr rfl) :
    JS X en δ (.AugAssign (.Name x p) op' e pos) N RT BK CT m := .mk fun hb hx' σ G H E hl W k1 k2 k3 k4 => by
  refine ws_of (ps_aug hN hi hx pe_we (ti := fun x y H Q => ∀ (pins : List (Addr × Obj)) (s : Shared) (σ : L2.St) (u1 u2 : Value), Inv X pins σ H s → RelV x u1 → RelV y u2 → wpAny (model X.prog X.w) X.A (inplaceOp op' u1 u2) (EP X pins σ Q) X.xe s)
    (fun pins s σ H x y v u Q I r1 r2 h => h pins s σ v u I r1 r2) hf) ?_
  have hσ := W.sl hl
  obtain ⟨o, h1, h2⟩ := W.at hs
  obtain ⟨v, ev, rv⟩ := h2
  subst ev
  refine ⟨v, h1, ?_⟩
  have W1 : Wd X.K en (δ ++ [.fr d]) (σ ++ [some v]) G H := W.out (sl := .fr d) (Grow.refl W.sub) rv
  refine h.run hb hx' σ [some v] G H _ hl hσ W1 fun s2 δ2 v2 G2 H2 c2 hl2 W2 => ?_
  obtain ⟨d2, k', pe, e2, nb, em, hpe, hk⟩ := c2
  have hb' := hb
  rw [em] at hb'
  obtain ⟨r, er⟩ := op_some hb'
  have em' : m = k' r := by rw [em, er]; rfl
  have hk2 := hk r er
  rw [← em'] at hk2
  have W3 : Wd X.K en (δ2 ++ [] ++ [.fr d, s2]) (σ ++ [] ++ [v, v2].map some) G2 H2 := by
    have := W2
    simp only [List.append_assoc, List.map_cons, List.map_nil, List.cons_append, List.nil_append] at this ⊢
    exact this
  obtain ⟨⟨_, _, ez, r1, _, _, ez2, r2, ez3⟩, Wn⟩ := W3.ends (τ := []) (ts := []) (hl2.trans hσ.symm) rfl (ds := [d, d2]) (by simp only [rds, e2]; rfl)
  cases ez
  cases ez2
  have W4 := Wn (by omega)
  rw [List.append_nil, List.append_nil] at W4
  intro pins s σ' u1 u2 I q1 q2
  refine ho d d2 r er pins s σ' G2 H2 v v2 u1 u2 _ I W2.sub r1 r2 q1 q2 fun z G' H' gr out => ?_
  have W5 := (W4.out gr out).give (hl2.trans hσ.symm) nb rfl i
  rw [hpe] at W5
  exact k1 _ _ G' H' hk2 (by rw [← hpe, List.length_set]; exact hl2) W5

/-! ### repr -/
/-- what repr tells: of what holds no dict -/
def reprD : List D → Option D
  | [d] => if (toP d).canLay0 = true ∧ (toP d).showable = true ∧ (toP d).depth ≤ 60 ∧ (toP d).shown.length ≤ sizeLine then some (.str (toP d).shown) else none
  | _ => none
end
end BR

/-! K13: pairs as targets, cuts of lists and tuples, dicts written, small words for printed proofs -/
namespace BR
open PySem PySem.Spec PyProof.Rows L2

theorem len1 {α : Type} : ∀ {l : List α}, l.length = 1 → ∃ a, l = [a]
  | [a], _ => ⟨a, rfl⟩
theorem len2 {α : Type} : ∀ {l : List α}, l.length = 2 → ∃ a b, l = [a, b]
  | [a, b], _ => ⟨a, b, rfl⟩
theorem len4 {α : Type} : ∀ {l : List α}, l.length = 4 → ∃ a b c d, l = [a, b, c, d]
  | [a, b, c, d], _ => ⟨a, b, c, d, rfl⟩
theorem unp_ne {n : Nat} {ds : List D} (h : ds.length ≠ n) : unp n (.tup ds) = none := by
  unfold unp
  exact if_neg h
def un2 : D → Option (D × D)
  | .tup [a, b] => some (a, b)
  | _ => none
def un3 : D → Option (D × D × D)
  | .tup [a, b, c] => some (a, b, c)
  | _ => none
def k2 {R : Type} (k : D × D → Res R) : List D → Res R
  | [a, b] => k (a, b)
  | _ => .bad
def k3 {R : Type} (k : D × D × D → Res R) : List D → Res R
  | [a, b, c] => k (a, b, c)
  | _ => .bad
theorem un2_unp {R : Type} {d : D} {k : D × D → Res R} : op (un2 d) k = op (unp 2 d) (k2 k) := by
  cases d with
  | tup ds =>
    match ds with
    | [] => rfl
    | [_] => rfl
    | [_, _] => rfl
    | a :: b :: c :: r =>
      have e : unp 2 (.tup (a :: b :: c :: r)) = none := by
        exact unp_ne (by simp)
      rw [e]; rfl
  | _ => rfl
section
variable {X : Cx} {en : Kn} {δ τ : List Slot} {R : Type} {m : Res R} {K : PySem.W.Frag} {N : List Slot → Res R → Prop}
theorem jg_tup2 {e1 e2 : Expr} {k : Nat} {pos : Pos} {d : D} {is : List Nat} (hc : X.calm = true) (h : ∃ k', m = op (un2 d) k' ∧ ∀ p : D × D, JGs X en δ τ [e1, e2] [p.1, p.2] is N (k' p))
    (hn : (assignEach [e1, e2] X.env).length = 2 := by rfl) (hst : (assignEach [e1, e2] X.env).findIdx? (·.1) = none := by rfl) : JG X en δ τ (.Tuple [e1, e2] k pos) d is N m := by
  obtain ⟨k', em, hk⟩ := h
  refine jg_tup hc ⟨_, em.trans un2_unp, fun ds hl => ?_⟩ hn hst
  obtain ⟨a, b, rfl⟩ := len2 hl
  exact hk (a, b)
/-! ### cuts -/
end
end BR

/-! K14: what printed proofs use: rules over lists of data, steps of Le -/
namespace BR
open PySem PySem.Spec PyProof.Rows L2

theorem le_n : Le [] [] := trivial
theorem le_s {a : Slot} {r q : List Slot} (h : Le r q) : Le (a :: r) (a :: q) := ⟨.inr rfl, h⟩
theorem le_u {a : Slot} {r q : List Slot} (h : Le r q) : Le (a :: r) (.un :: q) := ⟨.inl rfl, h⟩
theorem oa_n {δ : List Slot} {j : Nat} : OutsAt δ j [] := trivial
theorem oa_c {δ : List Slot} {j : Nat} {d : D} {ds : List D} (i : Nat) (h : δ[i]? = some (.mp j d)) (r : OutsAt δ (j + 1) ds) : OutsAt δ j (d :: ds) := ⟨⟨i, h⟩, r⟩

section
variable {X : Cx} {en : Kn} {δ τ : List Slot} {R : Type} {C : Slot → List Slot → Res R → Prop} {m : Res R} {K : PySem.W.Frag}
theorem JE.conv {C' : Slot → List Slot → Res R → Prop} {e : Expr} (h : JE X en δ τ e C m) (k : ∀ s δ', C s δ' m → C' s δ' m) : JE X en δ τ e C' m := .mk fun hb hx σ ts G H T hl hσ W q =>
  h.run hb hx σ ts G H T hl hσ W fun sl δ' v G' H' c hl' W' => q sl δ' v G' H' (k _ _ c) hl' W'
theorem JA.conv {C C' : List Slot → List Slot → Res R → Prop} {es : List Expr} (h : JA X en δ τ es C m) (k : ∀ s δ', C s δ' m → C' s δ' m) : JA X en δ τ es C' m := .mk fun hb hx σ ts G H T hl hσ W q =>
  h.run hb hx σ ts G H T hl hσ W fun sl δ' v G' H' c hl' W' => q sl δ' v G' H' (k _ _ c) hl' W'
def kL {R : Type} (k : List D → Res R) : D → Res R
  | .lst ds => k ds
  | _ => .bad
theorem op_kL {o : Option (List D)} {k : List D → Res R} : op o k = op (o.map D.lst) (kL k) := by cases o <;> rfl
def kP {R : Type} (k : D × List D → Res R) : D × D → Res R
  | (d, .lst ds) => k (d, ds)
  | _ => .bad
theorem op_kP {o : Option (D × List D)} {k : D × List D → Res R} : op o k = op (o.map fun r => (r.1, D.lst r.2)) (kP k) := by cases o <;> rfl

/-! ### items of a list set -/
def setL (ds : List D) (di d : D) : Option (List D) := match di with
  | .int i => (ixN ds.length i).map fun j => ds.set j d
  | _ => none
theorem setD_L {ds : List D} {di d : D} : setD (.lst ds) di d = (setL ds di d).map D.lst := by
  cases di <;> first | rfl | skip
  show ((ixN _ _).map _) = ((ixN _ _).map _).map _
  rw [Option.map_map]; rfl
section
variable {N : List Slot → Res R → Prop} {RT : Slot → List Slot → Res R → Prop} {BK CT : List Slot → Res R → Prop}
theorem js_setL {x : Str} {p p2 pos : Pos} {idx e : Expr} (i : Nat)
    (h : JE X en δ [] e (fun s1 δ1 m1 => ∃ d sl0, s1 = .fr d ∧ δ1[i]? = some sl0 ∧ sl0.own = true ∧ JE X en δ1 [s1] idx (fun s2 δ2 m2 => ∃ di sl ds k, ∃ pe : List D → List Slot, s2.rd δ2 = some di ∧ δ2[i]? = some sl ∧ sl.own = true ∧ sl.rd δ2 = some (.lst ds) ∧ m2 = op (setL ds di d) k ∧ (∀ r, δ2.set i (sl.put (.lst r)) = pe r) ∧ ∀ r, N (pe r) (k r)) m1) m)
    (hN : X.N[i]? = some x := by rfl) (hv : Vis X.env.scope x := by first | exact Or.inl rfl | exact Or.inr (Or.inl rfl) | exact Or.inr (Or.inr rfl)) (hdd : (x == ("__debug__" : Str)) = false := by decide) (hcd : (x == ("__classdict__" : Str)) = false := by decide)
    (hs : swapsWithSole [.Subscript (.Name x p) idx p2] e pos.line X.env = pure false := by rfl) (hw : swappedStores [.Subscript (.Name x p) idx p2] e X.env = pure none := by rfl)
    (h1 : (assignEach [.Subscript (.Name x p) idx p2] X.env).map (·.2) = [assign (.Subscript (.Name x p) idx p2) X.env] := by rfl)
    (ha : ∀ v, assign (.Subscript (.Name x p) idx p2) X.env v = (do
      let ov ← holding [v] (eval (.Name x p) X.env)
      let iv ← holding [v, ov] (eval idx X.env)
      standAt p2
      holding [v, ov, iv] (setItem ov iv v)
      release [v, ov, iv] []) := by intro _; rfl) : JS X en δ (.Assign [.Subscript (.Name x p) idx p2] e pos) N RT BK CT m :=
  js_setIx i (h.conv fun s1 δ1 ⟨d, sl0, e1, e2, e3, q⟩ => ⟨d, sl0, e1, e2, e3, q.conv fun s2 δ2 ⟨di, sl, ds, k, pe, f1, f2, f3, f4, f5, f6, f7⟩ =>
    ⟨di, sl, .lst ds, kL k, fun r => δ2.set i (sl.put r), f1, f2, f3, f4, by rw [f5, op_kL, setD_L], fun _ => rfl, fun r er => by
      rw [setD_L] at er
      obtain ⟨r', _, e'⟩ := Option.map_eq_some_iff.mp er
      subst e'
      show N (δ2.set i (sl.put (.lst r'))) _
      rw [f6 r']
      exact f7 r'⟩⟩) hN hv hdd hcd hs hw h1 ha
end

/-! ### methods of lists -/
/-- g told over lists of data -/
def LstG (g : D → List D → Option (D × D)) (gl : List D → List D → Option (D × List D)) : Prop := ∀ ds as, g (.lst ds) as = (gl ds as).map fun r => (r.1, D.lst r.2)
theorem je_mutL {id : String} {g : D → List D → Option (D × D)} {gl : List D → List D → Option (D × List D)} {name : Str} {x : Str} {p apos cpos : Pos} {e : Expr} {es : List Expr} (i : Nat) {sl0 : Slot} {ds0 : List D} (hg : LstG g gl) (slot : PySem.Slot "list" name id) (hty : typeOf (.builtin id) = pure (.type "method_descriptor")) (hm : MutD X id g)
    (hs : δ[i]? = some sl0) (ho : sl0.own = true) (hd : sl0.rd δ = some (.lst ds0))
    (h : JA X en δ τ (e :: es) (fun sls δ1 m1 => ∃ as sl ds k, ∃ pe : D × List D → List Slot, frs sls = some as ∧ δ1[i]? = some sl ∧ sl.own = true ∧ sl.rd δ1 = some (.lst ds) ∧ m1 = op (gl ds as) k ∧ (∀ r, δ1.set i (sl.put (.lst r.2)) = pe r) ∧ ∀ r, C (.fr r.1) (pe r) (k r)) m)
    (hN : X.N[i]? = some x := by rfl) (hv : Vis X.env.scope x := by first | exact Or.inl rfl | exact Or.inr (Or.inl rfl) | exact Or.inr (Or.inr rfl)) (hdd : (x == ("__debug__" : Str)) = false := by decide) (hcd : (x == ("__classdict__" : Str)) = false := by decide)
    (hfew : ((backTo cpos (starEach (e :: es) X.env)).all (fun x => !x.1) && (backToKw cpos (keywordEach [] X.env)).all (fun x => x.1.isSome)
      && decide ((e :: es).length + ([] : List Keyword).length + (if ([] : List Keyword).isEmpty then 0 else 1) < 30)) = true := by rfl)
    (hline : (apos.endLine == cpos.line) = true := by rfl) (hst : starEach (e :: es) X.env = (false, eval e X.env) :: starEach es X.env := by exact star_plain rfl) (hplain : (backTo cpos (starEach es X.env)).any (·.1) = false := by rfl) :
    JE X en δ τ (.Call (.Attribute (.Name x p) name apos) (e :: es) [] cpos) C m :=
  je_mut i slot hty hm hs ho hd (h.conv fun sls δ1 ⟨as, sl, ds, k, pe, f1, f2, f3, f4, f5, f6, f7⟩ => ⟨as, sl, .lst ds, kP k, fun r => δ1.set i (sl.put r.2), f1, f2, f3, f4, by rw [f5, op_kP, hg], fun _ => rfl, fun r er => by
    rw [hg] at er
    obtain ⟨r', _, e'⟩ := Option.map_eq_some_iff.mp er
    subst e'
    have := f6 r'
    show C _ (δ1.set i (sl.put (.lst r'.2))) _
    rw [f6 r']
    exact f7 r'⟩) hN hv hdd hcd hfew hline hst hplain
def appL (ds as : List D) : Option (D × List D) := match as with
  | [d] => if ds.length < sizeLine then some (.non, ds ++ [d]) else none
  | _ => none
def popL (ds as : List D) : Option (D × List D) := match as with
  | [] => (ds[ds.length - 1]?).map fun d => (d, ds.dropLast)
  | _ => none
def clrL (ds as : List D) : Option (D × List D) := match as with
  | [] => some (.non, [])
  | _ => none
def revL (ds as : List D) : Option (D × List D) := match as with
  | [] => some (.non, ds.reverse)
  | _ => none
def extL (ds as : List D) : Option (D × List D) := match as with
  | [.lst es] => if ds.length + es.length ≤ sizeLine then some (.non, ds ++ es) else none
  | _ => none
theorem g_app : LstG appendD appL := fun ds as => by
  match as with
  | [d] =>
    show (if _ then _ else _) = Option.map _ (if _ then _ else _)
    split <;> rfl
  | [] => rfl
  | _ :: _ :: _ => rfl
theorem g_ext : LstG extendD extL := fun ds as => match as with
  | [.lst es] => by
    show (if _ then _ else _) = Option.map _ (if _ then _ else _)
    split <;> rfl
  | [] => rfl
  | [.non] => rfl
  | [.bl _] => rfl
  | [.int _] => rfl
  | [.str _] => rfl
  | [.tup _] => rfl
  | [.dic _] => rfl
  | [.scr _] => rfl
  | [.exc _ _] => rfl
  | [.obj _ _] => rfl
  | a :: b :: c => by cases a <;> rfl
end
end BR

/-! K15: new lists told as lists of data -/
namespace BR
open PySem PySem.Spec PyProof.Rows L2

section
variable {X : Cx} {en : Kn} {δ τ : List Slot} {R : Type} {C : Slot → List Slot → Res R → Prop} {m : Res R} {K : PySem.W.Frag}
theorem RoomG.hu {k : Nat} {A : Around} (h : RoomG k A) : A.units + 64 < cLine := by
  have := h.r.un
  omega
def catT (a b : D) : Option (List D) := match a, b with
  | .lst a, .lst b => if a.length + b.length ≤ sizeLine then some (a ++ b) else none
  | _, _ => none
theorem catL_T {a b : D} : catL a b = (catT a b).map D.lst := by
  cases a <;> first | rfl | skip
  cases b <;> first | rfl | skip
  show (if _ then _ else _) = Option.map _ (if _ then _ else _)
  split <;> rfl
theorem je_catL {a b : Expr} {pos : Pos}
    (h : JE X en δ τ a (fun s1 δ1 m1 => JE X en δ1 (τ ++ [s1]) b (fun s2 δ2 m2 => ∃ d1 d2 k, s1.rd δ2 = some d1 ∧ s2.rd δ2 = some d2 ∧ m2 = op (catT d1 d2) k ∧ ∀ d, C (.mu (.lst d)) δ2 (k d)) m1) m) : JE X en δ τ (.BinOp a .Add b pos) C m :=
  je_bin op_catL (h.conv fun s1 δ1 q => q.conv fun s2 δ2 ⟨d1, d2, k, e1, e2, em, hk⟩ => ⟨d1, d2, kL k, e1, e2, by rw [em, op_kL, catL_T], fun d hd => by
    rw [catL_T] at hd
    obtain ⟨r, _, e⟩ := Option.map_eq_some_iff.mp hd
    subst e
    exact hk r⟩)
def CallL (X : Cx) (f : Value) (gl : List D → Option (List D)) : Prop := CallD X f (fun ds => (gl ds).map D.lst) .mu
theorem callL {gl : List D → Option (List D)} {ds : List D} {k : List D → Res R} (hk : ∀ d, C (.mu (.lst d)) δ (k d)) : ∀ d, (gl ds).map D.lst = some d → C (.mu d) δ (kL k d) := fun d hd => by
  obtain ⟨r, _, e⟩ := Option.map_eq_some_iff.mp hd
  subst e
  exact hk r
theorem je_callTyL {x : Str} {p pos : Pos} {e : Expr} {es : List Expr} {id : String} {g : List D → Option (List D)} (hc : CallL X (.type id) g) (hm : X.mg x = none)
    (h : JA X en δ τ (e :: es) (fun sls δ1 m1 => ∃ ds k, rds δ1 sls = some ds ∧ m1 = op (g ds) k ∧ ∀ d, C (.mu (.lst d)) δ1 (k d)) m) (hv : bootBuiltins x = some (.type id) := by decide +kernel) (hg : Gl X x := by rfl)
    (hn : x ≠ "__name__" := by decide) (hdb : (x == ("__debug__" : Str)) = false := by decide)
    (he : starEach (e :: es) X.env = (false, eval e X.env) :: starEach es X.env := by exact star_plain rfl) (hpl : (backTo pos (starEach es X.env)).any (·.1) = false := by rfl) : JE X en δ τ (.Call (.Name x p) (e :: es) [] pos) C m :=
  je_callTy hc hm (h.conv fun sls δ1 ⟨ds, k, e1, em, hk⟩ => ⟨ds, kL k, e1, by rw [em, op_kL], callL hk⟩) hv hg hn hdb he hpl
def listT : List D → Option (List D)
  | [.lst ds] => some ds
  | [.tup ds] => some ds
  | _ => none
theorem c_listT : CallL X (.type "list") listT := by
  have e : (fun ds => (listT ds).map D.lst) = listD := by
    funext ds
    match ds with
    | [] => rfl
    | [a] => cases a <;> rfl
    | a :: _ :: _ => cases a <;> rfl
  show CallD X _ (fun ds => (listT ds).map D.lst) .mu
  rw [e]; exact c_list
theorem nd1 {α : Type} {a : α} : [a].Nodup := List.nodup_cons.mpr ⟨(by simp), List.nodup_nil⟩
theorem je_fzv' (i : Nat) (δ' : List Slot) {x : Str} {pos : Pos} {d : D} (hs : δ[i]? = some (.mu d)) (he : δ.set i (.fr d) = δ') (h : C (.fr d) δ' m) (hN : X.N[i]? = some x := by rfl) (hv : Vis X.env.scope x := by first | exact Or.inl rfl | exact Or.inr (Or.inl rfl) | exact Or.inr (Or.inr rfl))
    (hd : (x == ("__debug__" : Str)) = false := by decide) (hcd : (x == ("__classdict__" : Str)) = false := by decide) : JE X en δ τ (.Name x pos) C m := je_fzv i hs (he ▸ h) hN hv hd hcd
theorem je_mv' (i : Nat) (δ' : List Slot) {x : Str} {pos : Pos} {d : D} (hs : δ[i]? = some (.mu d)) (he : δ.set i .un = δ') (h : C (.mu d) δ' m) (hN : X.N[i]? = some x := by rfl) (hv : Vis X.env.scope x := by first | exact Or.inl rfl | exact Or.inr (Or.inl rfl) | exact Or.inr (Or.inr rfl))
    (hd : (x == ("__debug__" : Str)) = false := by decide) (hcd : (x == ("__classdict__" : Str)) = false := by decide) : JE X en δ τ (.Name x pos) C m := je_mv i hs (he ▸ h) hN hv hd hcd
end
end BR

/-! K16: dicts written -/
namespace BR
open PySem PySem.Spec PyProof.Rows L2

def putD (kvs : List (Key × D)) (k : Key) (d : D) : List (Key × D) :=
  if (kvs.any fun kv => decide (kv.1 = k)) = true then kvs.map (fun kv => if kv.1 = k then (kv.1, d) else kv) else kvs ++ [(k, d)]
def mergeD (kvs more : List (Key × D)) : List (Key × D) := more.foldl (fun acc kv => putD acc kv.1 kv.2) kvs
section
variable {K : PySem.W.Frag} {G H : Hp}
theorem RepKs.any : ∀ {ks : List (Key × D)} {vs : List (Key × V)} (p : Key → Bool), RepKs K G ks vs → (ks.any fun kv => p kv.1) = vs.any fun kv => p kv.1
  | [], _, p, h => by rw [show _ = [] from h]; rfl
  | (k, d) :: ks, _, p, h => by
    obtain ⟨v, r, e, _, h2⟩ := h
    subst e
    rw [List.any_cons, List.any_cons, RepKs.any p h2]
theorem RepKs.snoc {k : Key} {d : D} {v : V} (q : Rep K G d v) : ∀ {ks : List (Key × D)} {vs : List (Key × V)}, RepKs K G ks vs → RepKs K G (ks ++ [(k, d)]) (vs ++ [(k, v)])
  | [], _, h => by rw [show _ = [] from h]; exact ⟨v, [], rfl, q, rfl⟩
  | (k', d') :: ks, _, h => by
    obtain ⟨u, r, e, h1, h2⟩ := h
    subst e
    exact ⟨u, _, rfl, h1, RepKs.snoc q h2⟩
theorem RepKs.over {k : Key} {d : D} {v : V} (q : Rep K G d v) : ∀ {ks : List (Key × D)} {vs : List (Key × V)}, RepKs K G ks vs → RepKs K G (ks.map fun kv => if kv.1 = k then (kv.1, d) else kv) (vs.map fun kv => if kv.1 = k then (kv.1, v) else kv)
  | [], _, h => by rw [show _ = [] from h]; rfl
  | (k', d') :: ks, _, h => by
    obtain ⟨u, r, e, h1, h2⟩ := h
    subst e
    rw [List.map_cons, List.map_cons]
    by_cases hk : k' = k
    · subst hk
      rw [if_pos rfl, if_pos rfl]
      exact ⟨v, _, rfl, q, RepKs.over q h2⟩
    · rw [if_neg hk, if_neg hk]
      exact ⟨u, _, rfl, h1, RepKs.over q h2⟩
theorem RepKs.put {k : Key} {d : D} {v : V} (q : Rep K G d v) {ks : List (Key × D)} {vs : List (Key × V)} (h : RepKs K G ks vs) : RepKs K G (putD ks k d) (putK vs k v) := by
  have e := RepKs.any (fun x => decide (x = k)) h
  unfold putD putK
  rw [e]
  split
  · exact RepKs.over q h
  · exact RepKs.snoc q h
theorem RepKs.length : ∀ {ks : List (Key × D)} {vs : List (Key × V)}, RepKs K G ks vs → ks.length = vs.length
  | [], _, h => by rw [show _ = [] from h]; rfl
  | (k, d) :: ks, _, h => by
    obtain ⟨v, r, e, _, h2⟩ := h
    rw [e, List.length_cons, List.length_cons, RepKs.length h2]
end
/-- data as keys -/
def keyD : D → Option Key
  | .int i => some (.inl i)
  | .str x => some (.inr x)
  | _ => none
def keysD : List (D × D) → Option (List (Key × D))
  | [] => some []
  | (k, d) :: r => match keyD k, keysD r with
    | some k, some r => some ((k, d) :: r)
    | _, _ => none
def pairD (r : List (D × D)) : Option (List (Key × D)) := if r.length ≤ 15 then keysD r else none
section
variable {X : Cx} {en : Kn} {δ τ : List Slot} {R : Type} {C : Slot → List Slot → Res R → Prop} {m : Res R} {K : PySem.W.Frag}
/-- {} -/
theorem je_dnew {pos : Pos} (h : C (.mu (.dic [])) δ m) : JE X en δ τ (.Dict [] [] pos) C m := .mk fun hb hx σ ts G H T hl hσ W k =>
  we_of pe_dnewK fun p hp => k _ δ _ G _ h hl (W.out (Grow.laid W.sub hp) ⟨p, rfl, hp, (W.fresh hp).1, [], upd_same, rfl⟩)
def trsOf (X : Cx) : List (Option Expr) → List Expr → List (TE × TE)
  | some k :: ks, v :: vs => (WE X k, WE X v) :: trsOf X ks vs
  | _, _ => []
def frs2 : List (D × D) → List Slot
  | [] => []
  | (a, b) :: r => .fr a :: .fr b :: frs2 r
def vals2 : List (V × V) → L2.St
  | [] => []
  | (a, b) :: r => some a :: some b :: vals2 r
structure JP (X : Cx) (en : Kn) (δ τ : List Slot) (ks : List (Option Expr)) (vs : List Expr) {R : Type} (C : List (D × D) → List Slot → Res R → Prop) (m : Res R) : Prop where
  run : m ≠ .bad → en.HX m.exc → ∀ (σ ts : L2.St) (G H : Hp) (T : List (V × V) → Hp → Prop), δ.length = en.n → σ.length = en.n → Wd X.K en (δ ++ τ) (σ ++ ts) G H →
    (∀ kvs δ' ps G' H', C kvs δ' m → δ'.length = en.n → kvs.length = ps.length → Wd X.K en (δ' ++ τ ++ frs2 kvs) (σ ++ ts ++ vals2 ps) G' H' → T ps H') → tPairs (trsOf X ks vs) σ H T
end
end BR

/-! K17: a law's end -/
namespace BR
open PySem PySem.Spec PyProof.Rows L2

def spLaw (n : Nat) (K : PySem.W.Frag) : Sp := fun vs H Q _ => ∃ (a : Addr) (ns : List Int), vs = [.ref a] ∧ SqL K H a (ns.map V.int) ∧ ns.length ≤ n ∧ ∀ H', Q (.bl true) H'
section
variable {P : Program} {w : World} {K : PySem.W.Frag} {mg : Str → Option Value} {base : Heap}
theorem law_spec {k n : Nat} {fa : Addr} {fd : FuncData} {x : Str} {f : List D → Res D} (F : FnG P w K mg base k fa fd [x] (SpD K mg [.b] f (fun a => a) (fun a => []) false)) (hf : ∀ ns : List Int, ns.length ≤ n → f [.scr ns] = .ok (.bl true)) : FnG P w K mg base k fa fd [x] (spLaw n K) where
  len := fun vs H Q E h => by
    obtain ⟨a, ns, rfl, _⟩ := h
    rfl
  run := fun A outer s H args us vs Q E hr e0 hb rv hsp => F.run A outer s H args us vs Q E hr e0 hb rv (by
    obtain ⟨a, ns, rfl, hq, hl, q⟩ := hsp
    have hh : hide H [] = H := funext fun a => if_neg (by simp)
    refine ⟨rfl, fun _ => none, [], [.scr ns], _, (fun _ _ e => nomatch e), List.nodup_nil, ⟨BRep.mk ⟨a, rfl, ?_⟩ (fun z => nomatch z), trivial⟩, rfl, ?_, ?_, ?_⟩
    · rw [hh]; exact hq
    · rw [hf ns hl]; exact fun z => nomatch z
    · intro r er v G' H' _ _ ro
      rw [hf ns hl] at er
      cases er
      have e : v = .bl true := ro
      subst e
      exact q H'
    · intro x ex
      rw [hf ns hl] at ex
      cases ex)
theorem fn_fact {h : Heap} {x : Str} {st : Stmt} {ps : List Str} {f : Addr} {oc : Value} {od an : Option Addr} {osl : Array (Option Value)} {kV doc pm cdv ct : Value} (X : K.In h) (G : h.Ns mainGlobals mg)
    (a : PySem.W.nsIn K mainGlobals x = some (some (.ref f))) (l : K.lookup f = some ⟨oc, od, .func (PySem.W.fnOf x x (defArgs st) (defBody st) (defScope st) .none kV doc pm an cdv ct), osl⟩)
    (c : PySem.W.codeIn K cdv x = true) (k : PySem.W.keepIn K (.ref f) = true)
    (hb : ∀ (kV doc pm : Value) (an : Option Addr) (cdv ct : Value) (us : List Value), us.length = ps.length → bindArgs (PySem.W.fnOf x x (defArgs st) (defBody st) (defScope st) .none kV doc pm an cdv ct) ⟨us, []⟩ = pure (ps.zip us)) :
    ∃ fa fd, L2.Fun K x x st fa fd ∧ Binds K fd ps [] ∧ mg x = some (.ref fa) :=
  ⟨f, _, fun_mk l c k, (fun_mk l c k).binds hb, PySem.W.mg_of X G a⟩
end
end BR

/-! K18: the text of data, dicts within -/
namespace BR
open PySem PySem.Spec PyProof.Rows L2

mutual
/-- no script within -/
def noS : D → Bool
  | .lst ds => noSs ds
  | .tup ds => noSs ds
  | .dic ks => noSk ks
  | .scr _ => false
  | .exc _ _ => false
  | .obj _ _ => false
  | _ => true
def noSs : List D → Bool
  | [] => true
  | d :: ds => noS d && noSs ds
def noSk : List (Key × D) → Bool
  | [] => true
  | (_, d) :: ds => noS d && noSk ds
end
/-- a run of texts, shown in a heap h with what is read on the way -/
def ShA (P : Program) (w : World) (h : Heap) (us : List Value) (ps : List PyData) : Prop :=
  ∃ as bs, ReadsAll h us ps as ∧ ReadAtMost h (PyData.depthAll ps) bs ∧ ReprAllK P w bs h (PyData.depthAll ps) us (PyData.shownAll ps)
def Sh (P : Program) (w : World) (h : Heap) (u : Value) (p : PyData) : Prop :=
  ∃ as bs, Reads h u p as ∧ ReadAtMost h p.depth bs ∧ ReprK P w bs h p.depth u p.shown
section
variable {P : Program} {w : World} {h : Heap}
theorem shA_nil : ShA P w h [] [] := ⟨[], [], .nil, (fun _ z => nomatch z), by simp only [PyData.shownAll]; exact .nil⟩
theorem shA_cons {u : Value} {us : List Value} {p : PyData} {ps : List PyData} (x : Sh P w h u p) (y : ShA P w h us ps) : ShA P w h (u :: us) (p :: ps) := by
  obtain ⟨a1, b1, r1, m1, k1⟩ := x
  obtain ⟨a2, b2, r2, m2, k2⟩ := y
  refine ⟨_, b1 ++ b2, .cons r1 r2, fun b hm => ?_, ?_⟩
  · have e : PyData.depthAll (p :: ps) = max p.depth (PyData.depthAll ps) := by simp only [PyData.depthAll]
    rw [e]
    rcases List.mem_append.mp hm with z | z
    · obtain ⟨d', as', r', q⟩ := m1 b z
      exact ⟨d', as', r', by omega⟩
    · obtain ⟨d', as', r', q⟩ := m2 b z
      exact ⟨d', as', r', by omega⟩
  · simp only [PyData.depthAll, PyData.shownAll]
    refine .cons ((k1.more fun b z => ?_).level_le ?_) (k2.more_le (fun b z => ?_) ?_)
    · exact List.mem_append.mpr (.inl z)
    · omega
    · exact List.mem_append.mpr (.inr z)
    · omega
end
section
variable {X : Cx} {pins : List (Addr × Obj)} {σ : L2.St} {H : Hp} {s : Shared}
mutual
theorem shK (I : Inv X pins σ H s) : ∀ (d : D) (v : V) (u : Value), noS d = true → Rep X.K H d v → RelV v u → (toP d).showable = true → (toP d).shown.length ≤ sizeLine → Sh X.prog X.w s.heap u (toP d)
  | .non, v, u, _, h, r, _, _ => by
    have e : v = .non := h
    subst e; cases r
    exact ⟨[], [], Reads.none, (fun _ z => nomatch z), by simp only [toP, PyData.shown]; exact .of_is ReprIs.none _ _ _⟩
  | .bl b, v, u, _, h, r, _, _ => by
    have e : v = .bl b := h
    subst e; cases r
    exact ⟨[], [], Reads.bool b, (fun _ z => nomatch z), by simp only [toP, PyData.shown]; exact .of_is (ReprIs.bool b) _ _ _⟩
  | .int i, v, u, _, h, r, hs, _ => by
    have e : v = .int i := h
    subst e
    obtain ⟨t, rfl⟩ := r
    exact ⟨[], [], Reads.int i t, (fun _ z => nomatch z), by simp only [toP, PyData.shown]; exact .of_is (ReprIs.int t (by simpa [toP, PyData.showable] using hs)) _ _ _⟩
  | .str x, v, u, _, h, r, _, hz => by
    have e : v = .str x := h
    subst e
    obtain ⟨t, rfl⟩ := r
    exact ⟨[], [], Reads.str x t, (fun _ z => nomatch z), by simp only [toP, PyData.shown]; exact .of_is (ReprIs.str x t (by simpa only [toP, PyData.shown] using hz)) _ _ _⟩
  | .scr _, _, _, nS, _, _, _, _ => by simp [noS] at nS
  | .exc _ _, _, _, nS, _, _, _, _ => by simp [noS] at nS
  | .obj _ _, _, _, nS, _, _, _, _ => by simp [noS] at nS
  | .lst ds, v, u, nS, h, r, hs, hz => by
    obtain ⟨a, vs, e, q, rr⟩ := h
    subst e; cases r
    obtain ⟨its, rv, ⟨o, n, ho, hc, _, hd⟩, _⟩ := I.list (SqL.of q)
    have hz1 : (listText (PyData.shownAll (toPs ds))).length ≤ sizeLine := by simpa only [toP, PyData.shown] using hz
    obtain ⟨as, bs, r1, m1, k1⟩ := shAll I ds vs its (by simpa [noS] using nS) rr rv (by simpa [toP, PyData.showable] using hs) fun t ht => Nat.le_trans (listText_mem_le ht) hz1
    have rd : Reads s.heap (.ref a) (.list (toPs ds)) _ := .list ho hc hd r1
    have nin := not_mem_of_deeper rd (by simp only [PyData.depth]; omega) m1
    refine ⟨_, a :: bs, rd, ReadAtMost.cons rd (by simp only [toP, PyData.depth]; omega) m1, ?_⟩
    simp only [toP, PyData.depth, PyData.shown]
    cases its with
    | nil =>
      cases ds with
      | nil =>
        simp only [toPs, PyData.shownAll, listText_nil]
        exact ReprK.listEmpty ho hc hd
      | cons d0 ds0 => cases r1
    | cons x l => exact ReprK.list ho hc hd nin (by simpa using k1.length_eq) (fun i y e => k1.item i y (by simpa using e))
  | .tup ds, v, u, nS, h, r, hs, hz => by
    obtain ⟨a, vs, e, q, rr⟩ := h
    subst e; cases r
    obtain ⟨its, rv, ⟨o, ho, hc, n, hd⟩, _⟩ := I.tuple q
    have hz1 : (tupleText (PyData.shownAll (toPs ds))).length ≤ sizeLine := by simpa only [toP, PyData.shown] using hz
    obtain ⟨as, bs, r1, m1, k1⟩ := shAll I ds vs its (by simpa [noS] using nS) rr rv (by simpa [toP, PyData.showable] using hs) fun t ht => Nat.le_trans (tupleText_mem_le ht) hz1
    have rd : Reads s.heap (.ref a) (.tuple (toPs ds)) _ := .tuple ho hc hd r1
    have nin := not_mem_of_deeper rd (by simp only [PyData.depth]; omega) m1
    refine ⟨_, a :: bs, rd, ReadAtMost.cons rd (by simp only [toP, PyData.depth]; omega) m1, ?_⟩
    simp only [toP, PyData.depth, PyData.shown]
    exact ReprK.tuple ho hc hd nin (by simpa using k1)
  | .dic ks, v, u, nS, h, r, hs, hz => by
    obtain ⟨a, kv, e, q, rr⟩ := h
    subst e; cases r
    obtain ⟨_, ns, vs0, r0, o, es, ep, ho, hx, hd, _, hp, _⟩ := dk_of I.hok q
    have hz1 : (dictText (PyData.shownKv (toPk ks))).length ≤ sizeLine := by simpa only [toP, PyData.shown] using hz
    obtain ⟨hs1, hs2⟩ := PyData.showableKv_split (toPk ks) (by simpa [toP, PyData.showable] using hs)
    obtain ⟨⟨a1, b1, r1, m1, k1⟩, a2, b2, r2, m2, k2⟩ := shKv I ks kv vs0 es.toList (by simpa [noS] using nS) rr r0 hp hs1 hs2
      (fun t ht => by obtain ⟨p, hp, hl⟩ := PyData.shownKv_key_le _ t ht; exact Nat.le_trans hl (Nat.le_trans (dictText_mem_le hp) hz1))
      (fun t ht => by obtain ⟨p, hp, hl⟩ := PyData.shownKv_val_le _ t ht; exact Nat.le_trans hl (Nat.le_trans (dictText_mem_le hp) hz1))
    have rd : Reads s.heap (.ref a) (.dict (toPk ks)) _ := .dict ho hx.1 hd r1 r2
    have m3 : ReadAtMost s.heap (PyData.depthKv (toPk ks)) (b1 ++ b2) := (m1.mono (PyData.depthAll_keys_le _)).append (m2.mono (PyData.depthAll_vals_le _))
    have nin := not_mem_of_deeper rd (by simp only [PyData.depth]; omega) m3
    refine ⟨_, a :: (b1 ++ b2), rd, ReadAtMost.cons rd (by simp only [toP, PyData.depth]; omega) m3, ?_⟩
    simp only [toP, PyData.depth, PyData.shown, PyData.shownKv_eq]
    refine ReprK.dict ho hx.1 hd ns nin (ReprEntriesK.of_two es.toList _ _ (k1.more_le (fun b z => ?_) (PyData.depthAll_keys_le _)) (k2.more_le (fun b z => ?_) (PyData.depthAll_vals_le _)))
    · exact List.mem_append.mpr (.inl z)
    · exact List.mem_append.mpr (.inr z)
theorem shAll (I : Inv X pins σ H s) : ∀ (ds : List D) (vs : List V) (us : List Value), noSs ds = true → Reps X.K H ds vs → Vals vs us → PyData.showableAll (toPs ds) = true → (∀ t ∈ PyData.shownAll (toPs ds), t.length ≤ sizeLine) → ShA X.prog X.w s.heap us (toPs ds)
  | [], vs, us, _, h, r, _, _ => by
    have e : vs = [] := h
    subst e; cases r
    exact shA_nil
  | d :: ds, vs, us, nS, h, r, hs, hz => by
    obtain ⟨v, q, e, h1, h2⟩ := h
    subst e
    have nS' : noS d = true ∧ noSs ds = true := by simpa [noSs] using nS
    have hs' : (toP d).showable = true ∧ PyData.showableAll (toPs ds) = true := by simpa [toPs, PyData.showableAll] using hs
    cases r with
    | cons r1 r2 => exact shA_cons (shK I d v _ nS'.1 h1 r1 hs'.1 (hz _ (by simp [toPs, PyData.shownAll]))) (shAll I ds q _ nS'.2 h2 r2 hs'.2 fun t ht => hz t (by simp [toPs, PyData.shownAll, ht]))
theorem shKv (I : Inv X pins σ H s) : ∀ (ks : List (Key × D)) (kv : List (Key × V)) (vs0 : List (Key × Value)) (es : List DictEntry), noSk ks = true → RepKs X.K H ks kv → KV kv vs0 → Pairs (mixKind X.prog X.w) es vs0 →
    PyData.showableAll ((toPk ks).map (·.1)) = true → PyData.showableAll ((toPk ks).map (·.2)) = true → (∀ t ∈ PyData.shownAll ((toPk ks).map (·.1)), t.length ≤ sizeLine) → (∀ t ∈ PyData.shownAll ((toPk ks).map (·.2)), t.length ≤ sizeLine) →
    ShA X.prog X.w s.heap (es.map (·.key)) ((toPk ks).map (·.1)) ∧ ShA X.prog X.w s.heap (es.map (·.val)) ((toPk ks).map (·.2))
  | [], kv, vs0, es, _, h, r, p, _, _, _, _ => by
    have e : kv = [] := h
    subst e; cases r; cases p
    exact ⟨shA_nil, shA_nil⟩
  | (k, d) :: ks, kv, vs0, es, nS, h, r, p, s1, s2, z1, z2 => by
    obtain ⟨v, q, e, h1, h2⟩ := h
    subst e
    have nS' : noS d = true ∧ noSk ks = true := by simpa [noSk] using nS
    cases r with
    | cons r1 r2 =>
      cases p with
      | cons p1 p2 p3 =>
        rename_i y ys e0 es0
        have ek : k = y.1 := r1.1
        have rv : RelV v e0.val := by rw [p2]; exact r1.2
        rcases keyIs_shape (show keyIs y.1 e0.key = true from p1) with ⟨i, t, w1, w2⟩ | ⟨x, t, w1, w2⟩
        · rw [w1] at ek
          subst ek
          simp only [toPk, List.map_cons, PyData.showableAll, PyData.shownAll, Bool.and_eq_true, List.mem_cons, forall_eq_or_imp] at s1 s2 z1 z2 ⊢
          obtain ⟨a1, a2⟩ := shKv I ks q _ _ nS'.2 h2 r2 p3 s1.2 s2.2 z1.2 z2.2
          refine ⟨shA_cons ?_ a1, shA_cons (shK I d v _ nS'.1 h1 rv s2.1 z2.1) a2⟩
          rw [w2]
          exact ⟨[], [], Reads.int i t, (fun _ z => nomatch z), by simp only [PyData.shown]; exact .of_is (ReprIs.int t (by simpa [PyData.showable] using s1.1)) _ _ _⟩
        · rw [w1] at ek
          subst ek
          simp only [toPk, List.map_cons, PyData.showableAll, PyData.shownAll, Bool.and_eq_true, List.mem_cons, forall_eq_or_imp] at s1 s2 z1 z2 ⊢
          obtain ⟨a1, a2⟩ := shKv I ks q _ _ nS'.2 h2 r2 p3 s1.2 s2.2 z1.2 z2.2
          refine ⟨shA_cons ?_ a1, shA_cons (shK I d v _ nS'.1 h1 rv s2.1 z2.1) a2⟩
          rw [w2]
          exact ⟨[], [], Reads.str x t, (fun _ z => nomatch z), by simp only [PyData.shown]; exact .of_is (ReprIs.str x t (by simpa only [PyData.shown] using z1.1)) _ _ _⟩
end
/-- the text of a list, a tuple, a dict -/
theorem sh_by (I : Inv X pins σ H s) {d : D} {a : Addr} (nS : noS d = true) (h : Rep X.K H d (.ref a)) (hs : (toP d).showable = true) (hz : (toP d).shown.length ≤ sizeLine) : ∃ T idr, ShowsBy X.prog X.w s.heap a (toP d) T idr := by
  cases d with
  | non => cases (show V.ref a = .non from h)
  | bl b => cases (show V.ref a = .bl b from h)
  | int b => cases (show V.ref a = .int b from h)
  | str b => cases (show V.ref a = .str b from h)
  | scr _ => simp [noS] at nS
  | exc _ _ => simp [noS] at nS
  | obj _ _ => simp [noS] at nS
  | lst ds =>
    obtain ⟨a', vs, e, q, rr⟩ := h
    cases e
    obtain ⟨its, rv, ⟨o, n, ho, hc, _, hd⟩, _⟩ := I.list (SqL.of q)
    have hz1 : (listText (PyData.shownAll (toPs ds))).length ≤ sizeLine := by simpa only [toP, PyData.shown] using hz
    obtain ⟨as, bs, r1, m1, k1⟩ := shAll I ds vs its (by simpa [noS] using nS) rr rv (by simpa [toP, PyData.showable] using hs) fun t ht => Nat.le_trans (listText_mem_le ht) hz1
    have rd : Reads s.heap (.ref a) (.list (toPs ds)) _ := .list ho hc hd r1
    have nin := not_mem_of_deeper rd (by simp only [PyData.depth]; omega) m1
    refine ⟨"list", "list.__repr__", F.slot_list_repr.toG, F.slot_list_str, F.slot_list_format, fun s2 hk => ⟨o, hk _ _ ho, hc⟩, fun A E s2 Q hg hu hk hQ => ?_⟩
    simp only [toP, PyData.depth, PyData.shown] at hu hQ
    cases its with
    | nil =>
      cases ds with
      | nil =>
        simp only [toPs, PyData.shownAll, listText_nil] at hQ
        exact call_list_repr_empty ⟨o, hk _ _ ho, hc⟩ (hk _ _ ho) hd (hQ s2.heap _ _ fun _ _ z => z)
      | cons d0 ds0 => cases r1
    | cons x l => exact call_list_reprK ho hc hd nin (by simpa using k1.length_eq) (fun i y z => k1.item i y (by simpa using z)) hg (fun b _ => Clear.nil b) hu hk hQ hz1
  | tup ds =>
    obtain ⟨a', vs, e, q, rr⟩ := h
    cases e
    obtain ⟨its, rv, ⟨o, ho, hc, n, hd⟩, _⟩ := I.tuple q
    have hz1 : (tupleText (PyData.shownAll (toPs ds))).length ≤ sizeLine := by simpa only [toP, PyData.shown] using hz
    obtain ⟨as, bs, r1, m1, k1⟩ := shAll I ds vs its (by simpa [noS] using nS) rr rv (by simpa [toP, PyData.showable] using hs) fun t ht => Nat.le_trans (tupleText_mem_le ht) hz1
    have rd : Reads s.heap (.ref a) (.tuple (toPs ds)) _ := .tuple ho hc hd r1
    have nin := not_mem_of_deeper rd (by simp only [PyData.depth]; omega) m1
    refine ⟨"tuple", "tuple.__repr__", F.slot_tuple_repr, F.slot_tuple_str, F.slot_tuple_format, fun s2 hk => ⟨o, hk _ _ ho, hc⟩, fun A E s2 Q hg hu hk hQ => ?_⟩
    simp only [toP, PyData.depth, PyData.shown] at hu hQ
    exact call_tuple_reprK ho hc hd nin (by simpa using k1) hg (fun b _ => Clear.nil b) hu hk hQ hz1
  | dic ks =>
    obtain ⟨a', kv, e, q, rr⟩ := h
    cases e
    obtain ⟨_, ns, vs0, r0, o, es, ep, ho, hx, hd, _, hp, _⟩ := dk_of I.hok q
    have hz1 : (dictText (PyData.shownKv (toPk ks))).length ≤ sizeLine := by simpa only [toP, PyData.shown] using hz
    obtain ⟨hs1, hs2⟩ := PyData.showableKv_split (toPk ks) (by simpa [toP, PyData.showable] using hs)
    obtain ⟨⟨a1, b1, r1, m1, k1⟩, a2, b2, r2, m2, k2⟩ := shKv I ks kv vs0 es.toList (by simpa [noS] using nS) rr r0 hp hs1 hs2
      (fun t ht => by obtain ⟨p, hp, hl⟩ := PyData.shownKv_key_le _ t ht; exact Nat.le_trans hl (Nat.le_trans (dictText_mem_le hp) hz1))
      (fun t ht => by obtain ⟨p, hp, hl⟩ := PyData.shownKv_val_le _ t ht; exact Nat.le_trans hl (Nat.le_trans (dictText_mem_le hp) hz1))
    have rd : Reads s.heap (.ref a) (.dict (toPk ks)) _ := .dict ho hx.1 hd r1 r2
    have m3 : ReadAtMost s.heap (PyData.depthKv (toPk ks)) (b1 ++ b2) := (m1.mono (PyData.depthAll_keys_le _)).append (m2.mono (PyData.depthAll_vals_le _))
    have nin := not_mem_of_deeper rd (by simp only [PyData.depth]; omega) m3
    refine ⟨"dict", "dict.__repr__", F.slot_dict_repr, F.slot_dict_str, F.slot_dict_format, fun s2 hk => ⟨o, hk _ _ ho, hx.1⟩, fun A E s2 Q hg hu hk hQ => ?_⟩
    simp only [toP, PyData.depth, PyData.shown, PyData.shownKv_eq] at hu hQ
    refine call_dict_reprK ho hx.1 hd ns nin (ReprEntriesK.of_two es.toList _ _ (k1.more_le (fun b z => ?_) (PyData.depthAll_keys_le _)) (k2.more_le (fun b z => ?_) (PyData.depthAll_vals_le _))) hg (fun b _ => Clear.nil b) hu hk hQ (by rw [← PyData.shownKv_eq]; exact hz1)
    · exact List.mem_append.mpr (.inl z)
    · exact List.mem_append.mpr (.inr z)
end
theorem VF.rep {K : PySem.W.Frag} {G H : Hp} (s : Sub G H) : ∀ {b : Bool} {d : D} {v : V}, VF K G H b d v → Rep K H d v
  | true, .lst ds, v, h => by obtain ⟨a, vs, e, q, r⟩ := h; exact ⟨a, vs, e, q, Reps.sub s _ _ r⟩
  | true, .dic ds, v, h => by obtain ⟨a, vs, e, q, r⟩ := h; exact ⟨a, vs, e, q, RepKs.sub s _ _ r⟩
  | false, d, v, h => by cases d <;> exact Rep.sub s _ _ h
  | true, .non, _, h => h
  | true, .bl _, _, h => h
  | true, .int _, _, h => h
  | true, .str _, _, h => h
  | true, .tup _, _, h => Rep.sub s _ _ h
  | true, .scr _, _, h => Rep.sub s _ _ h
  | true, .exc _ _, _, h => Rep.sub s _ _ h
  | true, .obj _ _, _, h => Rep.sub s _ _ h
theorem VFs.rep {K : PySem.W.Frag} {G H : Hp} (s : Sub G H) : ∀ {fs : List (Str × Bool × D)} {vs : List (Str × V)}, VFs K G H fs vs → RepFs K H fs vs
  | [], _, h => h
  | (k, b, d) :: r, _, h => by
    obtain ⟨v, q, e, h1, h2⟩ := h
    exact ⟨v, q, e, VF.rep s h1, VFs.rep s h2⟩
theorem VRep.rep {K : PySem.W.Frag} {G H : Hp} {d : D} {v : V} (s : Sub G H) (h : VRep K G H d v) : Rep K H d v := by
  cases d with
  | lst ds => obtain ⟨a, vs, e, q, r⟩ := h; exact ⟨a, vs, e, q, Reps.sub s _ _ r⟩
  | tup ds => obtain ⟨a, vs, e, q, r⟩ := h; exact ⟨a, vs, e, q, Reps.sub s _ _ r⟩
  | dic ds => obtain ⟨a, vs, e, q, r⟩ := h; exact ⟨a, vs, e, q, RepKs.sub s _ _ r⟩
  | scr ns => exact h
  | exc _ _ => obtain ⟨a, C, e, f, q⟩ := h; exact ⟨a, C, e, f, q.sub s (Sub.refl _)⟩
  | obj _ _ => obtain ⟨a, C, dx, vs, e, f, q, q2, r⟩ := h; exact ⟨a, C, dx, vs, e, f, q, q2, VFs.rep s r⟩
  | non => exact h
  | bl _ => exact h
  | int _ => exact h
  | str _ => exact h
/-- repr(e) -/
def rprD : List D → Option D
  | [d] => if noS d = true ∧ (toP d).showable = true ∧ (toP d).depth ≤ 60 ∧ (toP d).shown.length ≤ sizeLine then some (.str (toP d).shown) else none
  | _ => none
section
variable {X : Cx}
theorem c_rpr {k : Nat} (hr : RoomG k X.A) : CallD X (.builtin "repr") rprD .fr := fun ds d e pins s σ G H vs us Q I sb r rv hq => by
  match ds, e, r with
  | [x], e, r =>
    have e' : (if noS x = true ∧ (toP x).showable = true ∧ (toP x).depth ≤ 60 ∧ (toP x).shown.length ≤ sizeLine then some (D.str (toP x).shown) else none) = some d := e
    by_cases hz : noS x = true ∧ (toP x).showable = true ∧ (toP x).depth ≤ 60 ∧ (toP x).shown.length ≤ sizeLine
    · rw [if_pos hz] at e'
      cases e'
      obtain ⟨h1, h2, h3, h4⟩ := hz
      obtain ⟨v, ev, q⟩ := VReps.one r
      subst ev
      cases rv with
      | cons r1 r2 =>
        cases r2
        have fin : ∀ {s' : Shared} {t : Tok}, Inv X pins σ H s' → EP X pins σ Q (.str (toP x).shown t) s' := fun {s' t} J => ⟨.str (toP x).shown, H, J, ⟨t, rfl⟩, sc_out (d := .str (toP x).shown) sb rfl hq⟩
        have big : ∀ a, v = .ref a → wpAny (model X.prog X.w) X.A (call (.builtin "repr") [.ref a]) (EP X pins σ Q) X.xe s := fun a ea => by
          subst ea
          cases r1
          obtain ⟨T, idr, S⟩ := sh_by I h1 (q.rep sb) h2 h4
          have := hr.r.un
          refine call_repr_slot (by omega) (S.typeIs s fun _ _ z => z) S.slotRepr (S.call X.A.in1 X.xe s _ hr.g (by show X.A.units + 1 + (toP x).depth < cLine; omega) (fun _ _ z => z) fun h' u tk hk => ⟨_, _, rfl, ?_⟩)
          exact fin (I.kept (h' := h') (t' := tk) hk)
        cases x with
        | non => cases (show v = .non from q); cases r1; exact PySem.P.repr_of_none (fin (I.tok _))
        | bl b => cases (show v = .bl b from q); cases r1; exact PySem.P.repr_of_bool (fin (I.tok _))
        | int i => cases (show v = .int i from q); obtain ⟨t, r1⟩ := r1; subst r1; exact PySem.P.repr_of_int (of_decide_eq_true (by simpa [toP, PyData.showable] using h2)) (fin (I.tok _))
        | str y => cases (show v = .str y from q); obtain ⟨t, r1⟩ := r1; subst r1; exact PySem.P.repr_of_str (fin (I.tok _)) h4
        | lst ds => obtain ⟨a, _, e, _⟩ := q; have := big a e; subst e; cases r1; exact this
        | tup ds => obtain ⟨a, _, e, _⟩ := q; have := big a e; subst e; cases r1; exact this
        | dic ds => obtain ⟨a, _, e, _⟩ := q; have := big a e; subst e; cases r1; exact this
        | scr ds => obtain ⟨a, e, _⟩ := q; have := big a e; subst e; cases r1; exact this
        | exc ds => obtain ⟨a, _, e, _⟩ := q; have := big a e; subst e; cases r1; exact this
        | obj c ds => obtain ⟨a, _, _, _, e, _⟩ := q; have := big a e; subst e; cases r1; exact this
    · rw [if_neg hz] at e'; cases e'
end
end BR

/-! K86 (stands ahead of K19): enumerate of a tuple -/
namespace BR
open PySem PySem.Spec PyProof.Rows L2
open PySem.Sem (wp)
open AutoSeq1 (wpAny_loadPart')
/-- the tuple at a as it stands at each turn, each item in a new pair -/
def IteT (K : PySem.W.Frag) (a : Addr) : It :=
  ⟨fun i H => ∃ (xs : List V) (x : V), SqT K H a xs ∧ xs[i]? = some x, fun i H v H' => ∃ T x, v = .ref T ∧ H T = none ∧ H' = upd H T (.tup [.int (i : Nat), x]) ∧ ∀ xs, SqT K H a xs → xs[i]? = some x, fun i H => ∃ xs : List V, SqT K H a xs ∧ xs.length ≤ i⟩
def iEnumX (K : PySem.W.Frag) (ta : TA) : TI := fun σ H R => ta σ H fun vs H1 => ∃ a xs, vs = [.ref a] ∧ ((SqL K H1 a xs ∧ R (Ite K a) H1) ∨ (SqT K H1 a xs ∧ R (IteT K a) H1))
end BR

/-! K19: ways not taken, back to front, zip, enumerate, the greatest and the least, sorted -/
namespace BR
open PySem PySem.Spec PyProof.Rows L2

section
variable {X : Cx} {en : Kn} {δ τ : List Slot} {R : Type} {C : Slot → List Slot → Res R → Prop} {m : Res R} {K : PySem.W.Frag}
variable {N : List Slot → Res R → Prop} {RT : Slot → List Slot → Res R → Prop} {BK CT : List Slot → Res R → Prop}
/-! ### back to front -/
def revD : D → Option D
  | .lst ds => some (.lst ds.reverse)
  | .tup ds => some (.tup ds.reverse)
  | _ => none
/-! ### zip, enumerate -/
def pairs : List D → List D → List D
  | x :: xs, y :: ys => .tup [x, y] :: pairs xs ys
  | _, _ => []
/-- the items of zip(..) -/
def zipD (a b : D) : Option (List D) := match asL a, asL b with
  | some xs, some ys => if isTup a = isTup b then some (pairs xs ys) else none
  | _, _ => none
/-- the items of enumerate(..) of a list -/
def enumF : Nat → List D → List D
  | _, [] => []
  | n, d :: ds => .tup [.int n, d] :: enumF (n + 1) ds
def enumD (a : D) : Option (List D) := (asL a).map (enumF 0)
/-! ### the greatest and the least of a list, a list sorted -/
def max1D : List D → Option D
  | [.lst ds] => (intsD ds).bind fun ns => match ns with
    | [] => none
    | n :: r => some (.int (r.foldl max n))
  | _ => none
def min1D : List D → Option D
  | [.lst ds] => (intsD ds).bind fun ns => match ns with
    | [] => none
    | n :: r => some (.int (r.foldl min n))
  | _ => none
/-- sorted -/
def srtI (ns : List Int) : List Int := ns.mergeSort fun a b => decide (a ≤ b)
def sortT : List D → Option (List D)
  | [.lst ds] => (intsD ds).map fun ns => (srtI ns).map D.int
  | _ => none
/-! ### targets, names given side by side -/
theorem jgs_name (i : Nat) {x : Str} {pos : Pos} {d : D} (δ' : List Slot) {es : List Expr} {ds : List D} {js : List Nat} (hN : X.N.Nodup) (h : JGs X en δ' τ es ds js N m) (he : δ.set i (.fr d) = δ' := by rfl) (hb : noBo (δ ++ τ) = true := by rfl) (hi : X.N[i]? = some x := by rfl) (hil : (i + 1).ble δ.length = true := by rfl) (hx : Loc X.env.scope x := by first | exact Or.inl rfl | exact Or.inr rfl)
    (hf : X.fn x = true ∨ X.env.scope.names.lookup x = some .local := by first | exact .inl rfl | exact .inr rfl)
    (hs : (assignEach (.Name x pos :: es) X.env).map (·.2) = assign (.Name x pos) X.env :: (assignEach es X.env).map (·.2) := by rfl) : JGs X en δ τ (.Name x pos :: es) (d :: ds) (i :: js) N m :=
  jgs_cons (is := [i]) (jg_name i δ' hN h he hb hi hil hx hf) hs
/-! ### cuts of lists and tuples -/
def cutA (d : D) (lo hi : Option Int) : Option D := match d with
  | .lst ds => some (.lst (cutD ds lo hi))
  | .tup ds => some (.tup (cutD ds lo hi))
  | .scr ns => some (.lst (cutD (ns.map D.int) lo hi))
  | _ => none
end
end BR

/-! K20: methods that only read -/
namespace BR
open PySem PySem.Spec PyProof.Rows L2

section
variable {X : Cx} {en : Kn} {δ τ : List Slot} {R : Type} {C : Slot → List Slot → Res R → Prop} {m : Res R} {K : PySem.W.Frag}
theorem callD_met {id : String} {r : V → List V → Hp → VK → Prop} {g : List D → Option D} {rs : D → Slot} (h : MtR X id r)
    (k : ∀ ds d, g ds = some d → ∀ (G H : Hp) (vs : List V) (Q : VK), Sub G H → VReps X.K G H ds vs → (∀ v G' H', Grow G H G' H' → Out X.K G H G' H' (rs d) v → Q v H') → ∃ v us, vs = v :: us ∧ r v us H Q) : CallD X (.builtin id) g rs :=
  fun ds d e pins s σ G H vs us Q I sb r1 q1 hq => by
    obtain ⟨v, ws, rfl, q⟩ := k ds d e G H vs Q sb r1 hq
    cases q1 with
    | cons a b => exact h pins s σ H v ws _ _ Q I a b q
/-- the kinds of things whose methods are asked -/
def tyM : D → String → Bool
  | .lst _, T => T == "list"
  | .str _, T => T == "str"
  | .dic _, T => T == "dict"
  | _, _ => false
theorem tyM_v {G H : Hp} {d : D} {v : V} {T : String} (h : tyM d T = true) (r : VRep K G H d v) : tyV K T v H := by
  cases d with
  | lst ds =>
    have e : T = "list" := by simpa [tyM] using h
    obtain ⟨a, vs, rfl, q, _⟩ := r
    exact .inl ⟨e, vs, SqL.of q⟩
  | str x =>
    have e : T = "str" := by simpa [tyM] using h
    have r' : v = .str x := r
    subst r'
    exact e
  | dic kvs =>
    have e : T = "dict" := by simpa [tyM] using h
    obtain ⟨a, kv, rfl, q, _⟩ := r
    exact .inr (.inr (.inl ⟨e, .inl ⟨kv, q⟩⟩))
  | _ => cases h
def tyG (T : String) (d : D) : Option Unit := if tyM d T = true then some () else none
theorem tyG_of {T : String} {d : D} {u : Unit} (h : tyG T d = some u) : tyM d T = true := by
  unfold tyG at h
  by_cases z : tyM d T = true
  · exact z
  · rw [if_neg z] at h; cases h
/-- o.method(args), nothing changed -/
theorem je_met {T id : String} {g : List D → Option D} {rs : D → Slot} {name : Str} {o e : Expr} {es : List Expr} {apos cpos : Pos} (pa : PySem.PlainAttrs T) (slot : PySem.Slot T name id) (hty : typeOf (.builtin id) = pure (.type "method_descriptor")) (hc : CallD X (.builtin id) g rs)
    (h : JE X en δ τ o (fun s1 δ1 m1 => ∃ d0 k0, s1.rd δ1 = some d0 ∧ m1 = op (tyG T d0) k0 ∧ JA X en δ1 (τ ++ [s1]) (e :: es) (fun sls δ2 m2 => ∃ d ds k, s1.rd δ2 = some d ∧ rds δ2 sls = some ds ∧ m2 = op (g (d :: ds)) k ∧ ∀ r, g (d :: ds) = some r → C (rs r) δ2 (k r)) (k0 ())) m)
    (hbase : attributeBase o name X.env (eval o X.env) = eval o X.env := by rfl)
    (hfew : ((backTo cpos (starEach (e :: es) X.env)).all (fun x => !x.1) && (backToKw cpos (keywordEach [] X.env)).all (fun x => x.1.isSome)
      && decide ((e :: es).length + ([] : List Keyword).length + (if ([] : List Keyword).isEmpty then 0 else 1) < 30)) = true := by rfl)
    (hline : (apos.endLine == cpos.line) = true := by rfl) (hs : starEach (e :: es) X.env = (false, eval e X.env) :: starEach es X.env := by exact star_plain rfl) (hplain : (backTo cpos (starEach es X.env)).any (·.1) = false := by rfl) :
    JE X en δ τ (.Call (.Attribute o name apos) (e :: es) [] cpos) C m := .mk fun hb hx σ ts G H Q hl hσ W k => by
  refine we_of (pe_bm (r := fun x xs H Q => ∀ (pins : List (Addr × Obj)) (s : Shared) (σ : L2.St) (v : Value) (us : List Value), Inv X pins σ H s → RelV x v → Vals xs us → wpAny (model X.prog X.w) X.A (call (.builtin id) (v :: us)) (EP X pins σ Q) X.xe s)
    pa slot hty (fun pins s σ H x xs v us Q I r1 r2 q => q pins s σ v us I r1 r2) pe_we pa_wa hbase hfew hline hs hplain) ?_
  have ht : τ.length = ts.length := W.splitLen (hl.trans hσ.symm)
  refine h.run hb hx σ ts G H _ hl hσ W fun s1 δ1 v1 G1 H1 c1 hl1 W1 => ?_
  obtain ⟨d0, k0, e0, em0, c1⟩ := c1
  have hb0 := hb
  rw [em0] at hb0
  obtain ⟨u0, eu0⟩ := op_some hb0
  have t0 : tyM d0 T = true := tyG_of eu0
  have em1 : m = k0 () := by rw [em0, eu0]; rfl
  rw [← em1] at c1
  obtain ⟨⟨_, _, ez, r0, _⟩, _⟩ := Wd.ends (sls := [s1]) (vs := [v1]) W1 (hl1.trans hσ.symm) ht (ds := [d0]) (by simp only [rds, e0])
  cases ez
  refine ⟨tyM_v t0 r0, ?_⟩
  rw [List.append_assoc, List.append_assoc] at W1
  refine c1.run hb hx σ (ts ++ [some v1]) G1 H1 _ hl1 hσ W1 fun sls δ2 vs G2 H2 c2 hl2 W2 => ?_
  obtain ⟨d, ds, k', e1, e2, em, hk⟩ := c2
  have hb' := hb
  rw [em] at hb'
  obtain ⟨r, er⟩ := op_some hb'
  have em' : m = k' r := by rw [em, er]; rfl
  have hk2 := hk r er
  rw [← em'] at hk2
  have W3 : Wd X.K en (δ2 ++ τ ++ (s1 :: sls)) (σ ++ ts ++ (v1 :: vs).map some) G2 H2 := by
    have := W2
    simp only [List.append_assoc, List.map_cons, List.cons_append, List.nil_append] at this ⊢
    exact this
  obtain ⟨r1, Wn⟩ := W3.ends (hl2.trans hσ.symm) ht (ds := d :: ds) (by simp only [rds, e1, e2])
  intro pins s σ' v us I q1 q2
  exact hc (d :: ds) r er pins s σ' G2 H2 (v1 :: vs) (v :: us) Q I W2.sub r1 (.cons q1 q2) fun v G' H' gr out => k (rs r) δ2 v G' H' hk2 hl2 ((Wn (by omega)).out gr out)
/-! ### how often -/
def eqb (k : Bool) (v : Value) : Bool := match v with
  | .bool n => n == k
  | _ => false
def countD : List D → Option D
  | [.lst ds, .bl k] => (bls ds).map fun bs => .int (bs.count k : Nat)
  | [.lst ds, .int k] => (intsD ds).map fun ns => .int (ns.count k : Nat)
  | _ => none
theorem MtR.or {id : String} {r r' : V → List V → Hp → VK → Prop} (h : MtR X id r) (h' : MtR X id r') : MtR X id (fun x xs H Q => r x xs H Q ∨ r' x xs H Q) := fun pins s σ H x xs v us Q I r1 r2 q => by
  rcases q with q | q
  · exact h pins s σ H x xs v us Q I r1 r2 q
  · exact h' pins s σ H x xs v us Q I r1 r2 q
end
end BR

set_option maxHeartbeats 1000000
/-! K21: zip of a tuple and a list, either way -/
namespace BR
open PySem PySem.Spec PyProof.Rows L2

/-- an iterator of a tuple (true) or a list -/
def Cur (t : Bool) (h : Heap) (it l : Addr) (i : Nat) : Prop := match t with
  | true => h.IsTupleIter it l i
  | false => h.IsListIter it l i
def Src (t : Bool) (h : Heap) (l : Addr) (xs : Array Value) : Prop := match t with
  | true => h.IsTuple l xs
  | false => h.IsList l xs
section
variable {t t2 : Bool} {h h' : Heap} {a b l : Addr} {i : Nat} {xs : Array Value}
theorem Cur.but (x : Cur t h a l i) (hs : Heap.ExtBut b h h') (n : a ≠ b) : Cur t h' a l i := by
  cases t
  · exact Heap.IsListIter.extBut x hs n
  · exact Heap.IsTupleIter.extBut x hs n
theorem Cur.on (x : Cur t h a l i) (e : ∀ o, h.get? a = some o → h'.get? a = some o) : Cur t h' a l i := by
  cases t
  · exact Heap.IsListIter.at x e
  · exact Heap.IsTupleIter.at x e
theorem Cur.ob (x : Cur t h a l i) : ∃ o, h.get? a = some o ∧ ∀ v, o.data ≠ .cell v := by
  cases t
  · obtain ⟨o, e, _, d⟩ := x; exact ⟨o, e, fun v q => by rw [d] at q; cases q⟩
  · obtain ⟨o, e, _, d⟩ := x; exact ⟨o, e, fun v q => by rw [d] at q; cases q⟩
theorem Cur.lt (x : Cur t h a l i) : a < h.objs.size := by
  obtain ⟨o, e, _⟩ := x.ob; exact Heap.lt_size e
theorem Src.but (x : Src t h a xs) (hs : Heap.ExtBut b h h') (n : a ≠ b) : Src t h' a xs := by
  cases t
  · exact Heap.IsList.extBut x hs n
  · exact Heap.IsTuple.extBut x hs n
theorem Src.lt (x : Src t h a xs) : a < h.objs.size := by
  cases t
  · obtain ⟨o, e, _⟩ := x; exact Heap.lt_size e
  · obtain ⟨o, e, _⟩ := x; exact Heap.lt_size e
end
section
variable {prog : Program} {w : World} {A : Around} {E : Value → Shared → Prop} {s : Shared} {t t2 : Bool}
/-- all but four addresses as they were -/
abbrev But4 (z b c d : Addr) (h h' : Heap) : Prop := ∀ e o, e ≠ z → e ≠ b → e ≠ c → e ≠ d → h.get? e = some o → h'.get? e = some o
end
/-- the iterator that a list or a tuple gives -/
abbrev curO (t : Bool) (l : Addr) : Obj := { cls := .type (if t = true then "tuple_iterator" else "list_iterator"), data := .fields #[.ref l, .int 0 0] }
abbrev zh1 (t : Bool) (h : Heap) (l1 : Addr) : Heap := h.push (curO t l1)
abbrev zh2 (t t2 : Bool) (h : Heap) (l1 l2 : Addr) : Heap := (zh1 t h l1).push (curO t2 l2)
abbrev zh3 (t t2 : Bool) (h : Heap) (l1 l2 : Addr) : Heap := (zh2 t t2 h l1 l2).push { cls := .type "tuple", data := .seq #[.ref h.objs.size, .ref (zh1 t h l1).objs.size] }
abbrev zh4 (t t2 : Bool) (h : Heap) (l1 l2 : Addr) : Heap := (zh3 t t2 h l1 l2).push { cls := .type "tuple", data := .seq #[.none, .none] }
abbrev zh5 (t t2 : Bool) (h : Heap) (l1 l2 : Addr) : Heap := (zh4 t t2 h l1 l2).push { cls := .type "zip", data := .fields #[.none, .bool false, .bool false, .ref (zh2 t t2 h l1 l2).objs.size, .ref (zh3 t t2 h l1 l2).objs.size] }
section
variable {prog : Program} {w : World} {A : Around} {E : Value → Shared → Prop} {s : Shared}
end
/-- what stands at a, a tuple (true) or a list -/
def SqX (t : Bool) (K : PySem.W.Frag) (H : Hp) (a : Addr) (xs : List V) : Prop := match t with
  | true => SqT K H a xs
  | false => SqL K H a xs
def ItzX (t t2 : Bool) (K : PySem.W.Frag) (a b : Addr) : It :=
  ⟨fun i H => ∃ (xs ys : List V) (x y : V), SqX t K H a xs ∧ SqX t2 K H b ys ∧ xs[i]? = some x ∧ ys[i]? = some y,
    fun i H v H' => ∃ T x y, v = .ref T ∧ H T = none ∧ H' = upd H T (.tup [x, y]) ∧ (∀ xs, SqX t K H a xs → xs[i]? = some x) ∧ ∀ ys, SqX t2 K H b ys → ys[i]? = some y,
    fun i H => ∃ xs ys : List V, SqX t K H a xs ∧ SqX t2 K H b ys ∧ (xs.length ≤ i ∨ ys.length ≤ i)⟩
theorem five {c z TI TO i1 i2 : Addr} (h : c ∈ [z, TI, TO, i1, i2]) : c = z ∨ c = TI ∨ c = TO ∨ c = i1 ∨ c = i2 := by simpa using h
def iZipX (K : PySem.W.Frag) (ta : TA) : TI := fun σ H R => ta σ H fun vs H1 => ∃ a b xs ys t t2, vs = [.ref a, .ref b] ∧ SqX t K H1 a xs ∧ SqX t2 K H1 b ys ∧ R (ItzX t t2 K a b) H1
section
variable {K : PySem.W.Frag}
/-- the items of zip(..) of lists and tuples -/
def zipX (a b : D) : Option (List D) := match asL a, asL b with
  | some xs, some ys => some (pairs xs ys)
  | _, _ => none
variable {X : Cx} {en : Kn} {δ τ : List Slot} {R : Type} {m : Res R}
end
end BR

/-! K22: put into a list, taken out of it; ranges that fall -/
namespace BR
open PySem PySem.Spec PyProof.Rows L2

section
variable {X : Cx} {en : Kn} {δ τ : List Slot} {R : Type} {C : Slot → List Slot → Res R → Prop} {m : Res R} {K : PySem.W.Frag}
def insL (ds as : List D) : Option (D × List D) := match as with
  | [.int i, d] => if ds.length < sizeLine ∧ 0 ≤ i ∧ i < 2 ^ 62 then some (.non, ds.take i.toNat ++ [d] ++ ds.drop i.toNat) else none
  | _ => none
def insertD : D → List D → Option (D × D)
  | .lst ds, as => (insL ds as).map fun r => (r.1, D.lst r.2)
  | _, _ => none
def popAtL (ds as : List D) : Option (D × List D) := match as with
  | [.int i] => if -(2 ^ 62) ≤ i ∧ i < 2 ^ 62 then (ixN ds.length i).bind fun j => (ds[j]?).map fun d => (d, ds.eraseIdx j) else none
  | _ => none
def popAtD : D → List D → Option (D × D)
  | .lst ds, as => (popAtL ds as).map fun r => (r.1, D.lst r.2)
  | _, _ => none
/-! ### ranges that fall by one -/
def downto (hi : Int) (n : Nat) : List D := (List.range n).map fun (i : Nat) => D.int (hi - (i : Int))
def rngdD : List D → Option (List D)
  | [.int i, .int j, .int c] => if c = -1 ∧ (-(2 ^ 62) ≤ i ∧ i < 2 ^ 62) ∧ -(2 ^ 62) ≤ j ∧ j < 2 ^ 62 then some (downto i (i - j).toNat) else none
  | _ => none
end
end BR

/-! K23: dicts asked and changed -/
namespace BR
open PySem PySem.Spec PyProof.Rows L2

/-- what a dict has of a key -/
def getK (kvs : List (Key × D)) (k : Key) : Option D := (kvs.find? fun kv => decide (kv.1 = k)).map (·.2)
def delK (kvs : List (Key × D)) (k : Key) : List (Key × D) := kvs.filter fun kv => decide (kv.1 ≠ k)
section
variable {K : PySem.W.Frag} {G H : Hp}
theorem RepKs.get {k : Key} : ∀ {ds : List (Key × D)} {vs : List (Key × V)}, RepKs K G ds vs → (∀ d, getK ds k = some d → ∃ v, valV vs k = some v ∧ Rep K G d v) ∧ (getK ds k = none → valV vs k = none)
  | [], _, h => by
    rw [show _ = [] from h]
    exact ⟨fun d e => (nomatch e), fun _ => rfl⟩
  | (k', d') :: ds, _, h => by
    obtain ⟨v, r, e, h1, h2⟩ := h
    subst e
    by_cases hk : k' = k
    · subst hk
      refine ⟨fun d e => ?_, fun e => ?_⟩
      · have e' : d' = d := by simpa [getK, List.find?_cons] using e
        subst e'
        exact ⟨v, valV_pos rfl, h1⟩
      · simp [getK, List.find?_cons] at e
    · have ih := RepKs.get (k := k) h2
      have e1 : getK ((k', d') :: ds) k = getK ds k := by simp [getK, List.find?_cons, hk]
      have e2 : valV ((k', v) :: r) k = valV r k := valV_neg hk
      rw [e1, e2]
      exact ih
theorem RepKs.del {k : Key} : ∀ {ds : List (Key × D)} {vs : List (Key × V)}, RepKs K G ds vs → RepKs K G (delK ds k) (dropK vs k)
  | [], _, h => by rw [show _ = [] from h]; rfl
  | (k', d') :: ds, _, h => by
    obtain ⟨v, r, e, h1, h2⟩ := h
    subst e
    unfold delK dropK
    rw [List.filter_cons, List.filter_cons]
    by_cases hk : k' = k
    · simpa [hk, delK, dropK] using RepKs.del (k := k) h2
    · simp only [hk, decide_true, ne_eq, not_false_iff, if_true]
      exact ⟨v, _, rfl, h1, RepKs.del h2⟩
theorem RepKs.keys : ∀ {ds : List (Key × D)} {vs : List (Key × V)}, RepKs K G ds vs → vs.map (·.1) = ds.map (·.1)
  | [], _, h => by rw [show _ = [] from h]; rfl
  | (k', d') :: ds, _, h => by
    obtain ⟨v, r, e, h1, h2⟩ := h
    subst e
    rw [List.map_cons, List.map_cons, RepKs.keys h2]
end
section
variable {X : Cx} {en : Kn} {δ τ : List Slot} {R : Type} {C : Slot → List Slot → Res R → Prop} {m : Res R} {K : PySem.W.Frag}
variable {N : List Slot → Res R → Prop} {RT : Slot → List Slot → Res R → Prop} {BK CT : List Slot → Res R → Prop}
/-- a dict's own pairs -/
def asK : D → Option (List (Key × D))
  | .dic kvs => some kvs
  | _ => none
/-- d[k] -/
def dixD (d i : D) : Option D := match d, keyD i with
  | .dic kvs, some k => getK kvs k
  | _, _ => none
/-- d.get(k, e) -/
def dgetD (d i e : D) : Option D := match d, keyD i with
  | .dic kvs, some k => some ((getK kvs k).getD e)
  | _, _ => none
/-- d[k] = e, a name's own dict -/
def dputK (kvs : List (Key × D)) (i d : D) : Option (List (Key × D)) := match keyD i with
  | some k => if kvs.length < sizeLine then some (putD kvs k d) else none
  | none => none
theorem own1 {K : PySem.W.Frag} {δ τ : List Slot} {σ ts : L2.St} {G H : Hp} (W : Wd K en (δ ++ τ) (σ ++ ts) G H) (hl : δ.length = σ.length) {i : Nat} {sl : Slot} (h : δ[i]? = some sl) (ho : sl.own = true) : ∃ p, σ[i]? = some (some (V.ref p)) := by
  obtain ⟨o, g1, g2⟩ := W.name hl h
  cases sl with
  | mu _ => obtain ⟨p, e, _⟩ := g2; exact ⟨p, by rw [g1, e]⟩
  | mp _ _ => obtain ⟨p, e, _⟩ := g2; exact ⟨p, by rw [g1, e]⟩
  | un => cases ho
  | fr _ => cases ho
  | bw _ => cases ho
  | bo _ => cases ho
/-- del d[k], a name's own dict -/
def ddelK (kvs : List (Key × D)) (i : D) : Option (List (Key × D)) := match keyD i with
  | some k => if (getK kvs k).isSome = true then some (delK kvs k) else none
  | none => none
/-! ### sorted(d), ints, any number of them -/
def intK : List (Key × D) → Option (List Int)
  | [] => some []
  | (.inl i, _) :: r => (intK r).map (i :: ·)
  | _ :: _ => none
/-- sorted(x), x a list of ints or a dict with such keys -/
def srtT : List D → Option (List D)
  | [.lst ds] => (intsD ds).map fun ns => (srtI ns).map D.int
  | [.dic kvs] => if kvs.length ≤ sizeLine then (intK kvs).map fun ns => (srtI ns).map D.int else none
  | _ => none
end
end BR

/-! K24: a parameter that is given by its name alone, None where it is left out -/
namespace BR
open PySem PySem.Spec PyProof.Rows L2

/-- y is the last parameter; it is given by name, or None -/
def KwB (K : PySem.W.Frag) (fd : FuncData) (ps : List Str) (y : Str) : Prop := Binds K fd ps [Value.none] ∧
  ∀ (s : Shared) (us : List Value) (u : Value), (us ++ [u]).length = ps.length → BindsTo s fd ⟨us, [(y, u)]⟩ (ps.zip (us ++ [u]))
def DfK (P : Program) (w : World) (K : PySem.W.Frag) (mg : Str → Option Value) (base : Heap) (k : Nat) (x y : Str) (ks : List Kd) {α : Type} (den : List D → Res α) (val : α → D) (outs : α → List D) (mu : Bool) : Prop :=
  ∃ (f : Addr) (fd : FuncData) (psn : List Str), FnG P w K mg base k f fd psn (SpD K mg ks den val outs mu) ∧ mg x = some (.ref f) ∧ PySem.W.keepIn K (.ref f) = true ∧ KwB K fd psn y
section
variable {X : Cx} {en : Kn} {δ τ : List Slot} {R : Type} {C : Slot → List Slot → Res R → Prop} {m : Res R} {k : Nat} {f : Addr} {fd : FuncData} {ps : List Str} {sp : Sp} {E : XK} {x y : Str} {p pos kpos : Pos} {e e' : Expr} {es : List Expr}
abbrev WAn (X : Cx) (es : List Expr) : TA := fun σ H Q => WA X es σ H fun vs H1 => Q (vs ++ [V.non]) H1
abbrev WAk (X : Cx) (es : List Expr) (e : Expr) : TA := fun σ H Q => WA X es σ H fun vs H1 => WE X e σ H1 fun v H2 => Q (vs ++ [v]) H2
end
/-! ### list(range(n)) -/
/-- the numbers of list(range(..)) -/
def lrgD : D → Option (List D)
  | .int j => if -(2 ^ 62) ≤ j ∧ j < 2 ^ 62 ∧ j.toNat ≤ 2 ^ 24 then some (upto 0 j.toNat) else none
  | _ => none
section
variable {X : Cx} {en : Kn} {δ τ : List Slot} {R : Type} {C : Slot → List Slot → Res R → Prop} {m : Res R}
end
end BR

/-! K25: sorted(set(x)) of a list of ints, any number of them below 4000 -/
namespace BR
open PySem PySem.Spec PyProof.Rows L2

/-- a set as it is made -/
abbrev nos (w : World) : Obj := { cls := .type "set", dict := none, data := .set #[] 0 (.fresh 0 0 (!w.params.followText "set-order")) }
section
variable {P : Program} {w : World} {A : Around} {E : Value → Shared → Prop} {s : Shared}
end
def tSortSet (K : PySem.W.Frag) (ta : TE) : TE := fun σ H Q => ta σ H fun x H1 => ∃ (l : Addr) (ns : List Int), x = .ref l ∧ SqL K H1 l (ns.map V.int) ∧ ns.length ≤ 4000 ∧
  ∀ (ys : List Int) (p : Addr), ys.Pairwise (· < ·) → (∀ k, k ∈ ys ↔ k ∈ ns) → H1 p = none → Q (.ref p) (upd H1 p (.lst (ys.map V.int)))
/-- put among rising numbers -/
def insU (k : Int) : List Int → List Int
  | [] => [k]
  | y :: r => if k < y then k :: y :: r else if k = y then y :: r else y :: insU k r
/-- sorted, each once -/
def srtU (ns : List Int) : List Int := ns.foldr insU []
/-- sorted(set(x)) -/
def setT : D → Option (List D)
  | .lst ds => if ds.length ≤ 4000 then (intsD ds).map fun ns => (srtU ns).map D.int else none
  | _ => none
section
variable {X : Cx} {en : Kn} {δ τ : List Slot} {R : Type} {C : Slot → List Slot → Res R → Prop} {m : Res R}
end
end BR

/-! K30: sorted({x for .. in ..}) of ints -/
namespace BR
open PySem PySem.Spec PyProof.Rows L2

/-- a set of ints in the making -/
def SetRO (w : World) (a : Addr) (S : Int → Bool) (n : Nat) : HO := .ext fun h => SetR w h a S n
def addS (S : Int → Bool) (c : Int) : Int → Bool := fun j => S j || decide (j = c)
section
variable {X : Cx}
/-- {elt for target in iter if ..} of ints: D the new set -/
def tScI (w : World) (wi : TI) (g : TG) (tt : TT) (te : TE) (vs : List Nat) : TE := fun σ H Q => wi σ H fun J H1 => ∀ D, H1 D = none → ∃ W : Nat → Nat → Hp → Prop, (∃ m, W 0 m (upd H1 D (SetRO w D (fun _ => false) 0))) ∧ ∀ i m H, W i m H →
  (J.stop i H ∧ Q (.ref D) H) ∨ (J.go i H ∧ ∃ Nx : Hp → Prop, (∀ H', Nx H' → ∃ m', m' < m ∧ W (i + 1) m' H') ∧ ∀ x H', J.yld i H x H' → g x (wipe σ vs) H' fun σ2 H2 => wipe σ2 vs = wipe σ vs ∧ tt σ2 H2 fun b H3 =>
    if b = true then te σ2 H3 fun y H4 => ∃ (c : Int) (S : Int → Bool) (n : Nat), y = .int c ∧ H4 D = some (SetRO w D S n) ∧ n + 1 < scanBound ∧ Nx (upd H4 D (SetRO w D (addS S c) (if S c = true then n else n + 1))) else Nx H3)
/-- sorted(a set) -/
def tSortSc (w : World) (ta : TE) : TE := fun σ H Q => ta σ H fun x H1 => ∃ (D : Addr) (S : Int → Bool) (n : Nat), x = .ref D ∧ H1 D = some (SetRO w D S n) ∧ n ≤ 4000 ∧
  ∀ (ys : List Int) (p : Addr), ys.Pairwise (· < ·) → (∀ k, k ∈ ys ↔ S k = true) → H1 p = none → Q (.ref p) (upd H1 p (.lst (ys.map V.int)))
end
/-! ### its reading -/
structure KnS (en en' : Kn) : Prop where
  n : en'.n = en.n
  ps : en'.ps = en.ps
  HX : en'.HX = fun o => o = none
theorem KnS.lk {X : Cx} {en en' : Kn} (h : KnS en en') {s : Shared} {H : Hp} {scope : Scope} {cenv : Env} {fp : List Addr} : Lk (X.blk s H scope cenv fp) en' :=
  ⟨fun _ _ _ _ => False, takes0N, fun x hx => by rw [h.HX] at hx; cases hx⟩
/-- no list, no tuple, no dict there -/
def noLtd (o : Option HO) : Prop := o = none ∨ ∃ f, o = some (.ext f)
section
variable {K : PySem.W.Frag} {en : Kn} {Δ : List Slot} {S : L2.St} {G H H2 F2 : Hp} {q : Addr}
theorem noLtd.ne {o : Option HO} (h : noLtd o) {u : HO} (e : o = some u) (hu : ∀ f, u ≠ .ext f) : False := by
  rcases h with z | ⟨f, z⟩
  · rw [z] at e; cases e
  · rw [z] at e; cases e; exact hu f rfl
abbrev Kn.setF (en : Kn) (F2 : Hp) : Kn := { en with F0 := F2 }
end
section
variable {X : Cx} {en : Kn} {δ τ : List Slot} {R : Type} {C : Slot → List Slot → Res R → Prop} {m : Res R}
end
end BR

/-! K31: list(zip(a, b, c)) of three lists of one length -/
namespace BR
open PySem PySem.Spec PyProof.Rows L2
/-- a zip of three at N + 5, over iterators at N, N + 1, N + 2; what was told of it last is out, above the list at N + 6 -/
def Z3 (h : Heap) (N l1 l2 l3 : Nat) (xs ys zs : Array Value) (k : Nat) : Prop :=
  ((IsZip h (N + 5 : Nat) (N + 3 : Nat) (N + 4 : Nat) .none ∧ IsTupOf3 h (N + 4 : Nat) .none .none .none) ∨ ∃ (T : Nat) (f : Bool) (oT : Obj), IsZipHeld h (N + 5 : Nat) (N + 3 : Nat) (N + 4 : Nat) T f ∧ h.get? T = some oT ∧ N + 7 ≤ T) ∧
    IsTupOf3 h (N + 3 : Nat) (.ref (N : Nat)) (.ref (N + 1 : Nat)) (.ref (N + 2 : Nat)) ∧ h.IsListIter (N : Nat) l1 k ∧ h.IsListIter (N + 1 : Nat) l2 k ∧ h.IsListIter (N + 2 : Nat) l3 k ∧ h.IsList l1 xs ∧ h.IsList l2 ys ∧ h.IsList l3 zs
theorem Z3.keep {h h' : Heap} {N l1 l2 l3 k : Nat} {xs ys zs : Array Value} (x : Z3 h N l1 l2 l3 xs ys zs k) (b1 : l1 < N) (b2 : l2 < N) (b3 : l3 < N) (hk : ∀ (b : Nat) o, b ≠ N + 6 → h.get? b = some o → h'.get? b = some o) : Z3 h' N l1 l2 l3 xs ys zs k := by
  obtain ⟨st, hT, i1, i2, i3, j1, j2, j3⟩ := x
  refine ⟨?_, hk (N + 3) _ (by omega) hT, i1.at fun o e => hk N _ (by omega) e, i2.at fun o e => hk (N + 1) _ (by omega) e, i3.at fun o e => hk (N + 2) _ (by omega) e, j1.at fun o e => hk l1 _ (by omega) e, j2.at fun o e => hk l2 _ (by omega) e, j3.at fun o e => hk l3 _ (by omega) e⟩
  rcases st with ⟨a, b⟩ | ⟨T, f, oT, a, b, c⟩
  · exact .inl ⟨hk (N + 5) _ (by omega) a, hk (N + 4) _ (by omega) b⟩
  · exact .inr ⟨T, f, oT, hk (N + 5) _ (by omega) a, hk T _ (by omega) b, c⟩
def sep3 (N : Nat) {l1 l2 l3 : Nat} (b1 : l1 < N) (b2 : l2 < N) (b3 : l3 < N) : ZipSep3 (N + 5 : Nat) (N + 3 : Nat) (N + 4 : Nat) (N : Nat) (N + 1 : Nat) (N + 2 : Nat) [(N : Nat), l1] [(N + 1 : Nat), l2] [(N + 2 : Nat), l3] :=
  zip_sep3 (fp1 := [l1]) (fp2 := [l2]) (fp3 := [l3]) (fun b hb => by rw [List.mem_singleton.mp hb]; exact b1) (fun b hb => by rw [List.mem_singleton.mp hb]; exact b2) (fun b hb => by rw [List.mem_singleton.mp hb]; exact b3)
section
variable {prog : Program} {w : World} {A : Around} {E : Value → Shared → Prop} {s : Shared} {N l1 l2 l3 k : Nat} {xs ys zs : Array Value}
structure G3 (xs ys zs : Array Value) (lo : Nat) (h : Heap) (as : List Addr) : Prop where
  rise : as.Pairwise (· < ·)
  above : ∀ (a : Nat), a ∈ as → lo < a
  tri : ∀ (j : Nat) (a : Addr), as[j]? = some a → ∃ x y u, xs[j]? = some x ∧ ys[j]? = some y ∧ zs[j]? = some u ∧ IsTupOf3 h a x y u
theorem G3.there {lo : Nat} {h : Heap} {as : List Addr} (g : G3 xs ys zs lo h as) {a : Nat} (ha : a ∈ as) : a < h.objs.size := by
  obtain ⟨j, hj⟩ := List.mem_iff_getElem?.mp ha
  obtain ⟨_, _, _, _, _, _, e⟩ := g.tri j a hj
  exact Heap.lt_size e
variable {R : Result → Shared → Prop}
end
/-! ### its reading -/
def putV : Hp → List Addr → List (List V) → Hp
  | H, a :: as, p :: ps => putV (upd H a (.tup p)) as ps
  | H, _, _ => H
def z3V : List V → List V → List V → List (List V)
  | x :: xs, y :: ys, z :: zs => [x, y, z] :: z3V xs ys zs
  | _, _, _ => []
def tLZ (K : PySem.W.Frag) (ta : TA) : TE := fun σ H Q => ta σ H fun vs H1 => ∃ (a b c : Addr) (xs ys zs : List V), vs = [.ref a, .ref b, .ref c] ∧ SqL K H1 a xs ∧ SqL K H1 b ys ∧ SqL K H1 c zs ∧ ys.length = xs.length ∧ zs.length = xs.length ∧
  ∀ (H' : Hp) (p : Addr) (ts : List Addr), (∀ b o, H1 b = some o → H' b = some o) → H1 p = none → (∀ t ∈ ts, H1 t = none) → p ∉ ts → H' p = some (.lst (ts.map V.ref)) → ts.length = xs.length → (∀ (j : Nat) t, ts[j]? = some t → ∃ x y u, xs[j]? = some x ∧ ys[j]? = some y ∧ zs[j]? = some u ∧ H' t = some (.tup [x, y, u])) → Q (.ref p) H'
section
variable {X : Cx}
end
/-- triples of three lists -/
def z3L : List D → List D → List D → List D
  | a :: as, b :: bs, c :: cs => .tup [a, b, c] :: z3L as bs cs
  | _, _, _ => []
def zip3 : D → D → D → Option (List D)
  | .lst a, .lst b, .lst c => if b.length = a.length ∧ c.length = a.length then some (z3L a b c) else none
  | _, _, _ => none
section
variable {X : Cx} {en : Kn} {δ τ : List Slot} {R : Type} {C : Slot → List Slot → Res R → Prop} {m : Res R}
end
end BR

/-! K26: {k: v for .. in ..}; x in a list of ints -/
namespace BR
open PySem PySem.Spec PyProof.Rows L2

/-- a dict built turn by turn -/
def dcF {S : Type} : List D → S → List (Key × D) → (D → S → Res (Option (D × D) × S)) → Res (List (Key × D) × S)
  | [], s, acc, _ => .ok (acc, s)
  | d :: ds, s, acc, f => match f d s with
    | .ok (some (x, y), s') => (match keyD x with
      | some k => if acc.length < sizeLine then dcF ds s' (putD acc k y) f else .bad
      | none => .bad)
    | .ok (none, s') => dcF ds s' acc f
    | _ => .bad
section
variable {X : Cx} {en : Kn} {δ τ : List Slot} {R : Type} {C : Slot → List Slot → Res R → Prop} {m : Res R} {K : PySem.W.Frag}
def DTurnE (X : Cx) (scope : Scope) (en : Kn) (δ τ : List Slot) (kx vx : Expr) {S : Type} (pe : S → List Slot) (vs : List Nat) (m : Res (Option (D × D) × S)) : Prop :=
  AllB X scope fun Y => JE Y en δ τ kx (fun s1 δ1 m1 => ∃ x, s1 = .fr x ∧ AllB X scope fun Z => JE Z en δ1 (τ ++ [.fr x]) vx (fun s2 δ2 m2 => ∃ y a', s2 = .fr y ∧ m2 = .ok (some (x, y), a') ∧ Le (wipeS δ2 vs) (pe a') ∧ noBo δ2 = true) m1) m
def DTurnT (X : Cx) (scope : Scope) (en : Kn) (δ τ : List Slot) (ifs : List Expr) (kx vx : Expr) {S : Type} (pe : S → List Slot) (vs : List Nat) (m : Res (Option (D × D) × S)) : Prop :=
  match ifs with
  | [] => DTurnE X scope en δ τ kx vx pe vs m
  | [c] => AllB X scope fun Y => JT Y en δ τ c (fun b δ3 m3 => ∃ mA mF, m3 = (if b = true then mA else mF) ∧ DTurnE X scope en δ3 τ kx vx pe vs mA ∧ ∃ a', mF = .ok (none, a') ∧ Le (wipeS δ3 vs) (pe a') ∧ noBo δ3 = true) m
  | _ => False
def DTurn1 (X : Cx) (scope : Scope) (en : Kn) (δ τ : List Slot) (tg : Expr) (ifs : List Expr) (kx vx : Expr) (d : D) {S : Type} (pe : S → List Slot) (vs : List Nat) (m : Res (Option (D × D) × S)) : Prop :=
  AllB X scope fun Y => ∃ is, (∀ i, i ∈ is → i ∈ vs) ∧ JG Y en δ τ tg d is (fun δ2 m2 => DTurnT X scope en δ2 τ ifs kx vx pe vs m2) m
end
/-! ### x in a list of ints -/
def inD (a b : D) : Option Bool := match a with
  | .int i => ((asL b).bind intsD).map fun ns => decide (i ∈ ns)
  | _ => none
def notInD (a b : D) : Option Bool := (inD a b).map (!·)
theorem inV_ints {i : Int} : ∀ {ns : List Int}, inV (.int i) (ns.map V.int) = decide (i ∈ ns)
  | [] => rfl
  | n :: ns => by
    have ih := inV_ints (i := i) (ns := ns)
    have e : eqV (V.int n) (V.int i) = decide (n = i) := rfl
    show (eqV (V.int n) (V.int i) || inV (.int i) (ns.map V.int)) = _
    rw [ih, e]
    by_cases h : n = i
    · rw [decide_eq_true h, decide_eq_true (List.mem_cons.mpr (.inl h.symm))]; rfl
    · by_cases g : i ∈ ns
      · rw [decide_eq_true g, decide_eq_true (List.mem_cons_of_mem _ g), Bool.or_true]
      · rw [decide_eq_false h, decide_eq_false g, decide_eq_false fun z => (List.mem_cons.mp z).elim (fun e => h e.symm) g]; rfl
theorem flat_ints {ns : List Int} : (ns.map V.int).all flatV = true := by
  rw [List.all_map]
  exact List.all_eq_true.mpr fun _ _ => rfl
section
variable {X : Cx}
theorem in_core {f : Value → Value → Sem Value} {ng : Bool} (h : OpR X f (rIn X.K ng)) : CmpD X f (fun a b => (inD a b).map fun z => if ng then !z else z) := opD_of h fun d1 d2 d e G H v1 v2 Q sb r1 r2 k => by
  obtain ⟨b0, eb0, rfl⟩ := Option.map_eq_some_iff.mp e
  obtain ⟨b, eb, rfl⟩ := Option.map_eq_some_iff.mp eb0
  match d1, eb, r1 with
  | .int i, eb, r1 =>
    obtain ⟨ns, en, rfl⟩ := Option.map_eq_some_iff.mp (show ((asL d2).bind intsD).map (fun ns => decide (i ∈ ns)) = some b from eb)
    obtain ⟨ds, e1, e2⟩ := Option.bind_eq_some_iff.mp en
    have r1' : v1 = .int i := r1
    subst r1'
    have fin : ∀ {p : Addr} {vs : List V}, vs = ns.map V.int → (SqL X.K H p vs ∨ SqT X.K H p vs) → rIn X.K ng (.int i) (.ref p) H Q := fun {p vs} ev hs => by
      subst ev
      refine ⟨p, _, rfl, hs, rfl, flat_ints, ?_⟩
      rw [inV_ints]
      exact sc_out (d := .bl (if ng then !decide (i ∈ ns) else decide (i ∈ ns))) sb rfl k
    match d2, e1, r2 with
    | .lst xs, e1, r2 =>
      cases e1
      obtain ⟨p, vs, rfl, h1, h2⟩ := r2
      exact fin (intsD_v e2 h2) (.inl (SqL.of h1))
    | .tup xs, e1, r2 =>
      cases e1
      obtain ⟨p, vs, rfl, h1, h2⟩ := r2
      exact fin (intsD_v e2 h2) (.inr h1)
    | .scr ms, e1, r2 =>
      cases e1
      obtain ⟨p, rfl, h1⟩ := r2
      have key : ∀ {ms : List Int}, intsD (ms.map D.int) = some ms := fun {ms} => by
        induction ms with
        | nil => rfl
        | cons m ms ih =>
          show (intsD (ms.map D.int)).map (m :: ·) = _
          rw [ih]; rfl
      rw [key] at e2
      cases e2
      exact fin rfl (.inl h1)
theorem cmp_notInD : CmpD X (compareOp .NotIn) notInD := by
  have h := in_core (ng := true) (op_notIn_seq (X := X))
  have e : (fun a b => (inD a b).map fun z => if true = true then !z else z) = notInD := by
    funext a b
    unfold notInD
    cases inD a b <;> rfl
  rw [e] at h
  exact h
end
end BR

/-! K27: a list said over -/
namespace BR
open PySem PySem.Spec PyProof.Rows L2
def repD (xs : List D) (k : Int) : List D := (List.replicate k.toNat xs).flatten
def mulX : D → D → Option D
  | .lst xs, .int k => if -(2 ^ 63) ≤ k ∧ k < 2 ^ 63 ∧ xs.length * k.toNat ≤ sizeLine then some (.lst (repD xs k)) else none
  | a, b => mulD a b
section
variable {X : Cx} {K : PySem.W.Frag} {G : Hp}
theorem Reps.rep {ds : List D} {vs : List V} (h : Reps K G ds vs) : ∀ n : Nat, Reps K G (List.replicate n ds).flatten (List.replicate n vs).flatten
  | 0 => rfl
  | n + 1 => by
    rw [List.replicate_succ, List.replicate_succ, List.flatten_cons, List.flatten_cons]
    exact h.append (Reps.rep h n)
theorem op_mulX : OpD X (binaryOp .Mult) mulX .fr := opD_of (op_mulW.or op_rep) fun d1 d2 d e G H v1 v2 Q sb r1 r2 k => by
  match d1, d2, e, r1, r2 with
  | .int a, .int b, e, r1, r2 =>
    have e' : (if a.natAbs.log2 + b.natAbs.log2 < 1000000 then some (D.int (a * b)) else none) = some d := e
    by_cases hz : a.natAbs.log2 + b.natAbs.log2 < 1000000
    · rw [if_pos hz] at e'
      cases e'
      exact .inl ⟨a, b, r1, r2, hz, sc_out sb rfl k⟩
    · rw [if_neg hz] at e'; cases e'
  | .lst xs, .int b, e, r1, r2 =>
    have e' : (if -(2 ^ 63) ≤ b ∧ b < 2 ^ 63 ∧ xs.length * b.toNat ≤ sizeLine then some (D.lst (repD xs b)) else none) = some d := e
    by_cases hz : -(2 ^ 63) ≤ b ∧ b < 2 ^ 63 ∧ xs.length * b.toNat ≤ sizeLine
    · rw [if_pos hz] at e'
      cases e'
      obtain ⟨p, vs, e1, q1, s1⟩ := r1
      exact .inr ⟨p, b, vs, e1, r2, q1, hz.1, hz.2.1, by rw [← s1.length]; exact hz.2.2, fz_out sb (s1.rep _) k⟩
    · rw [if_neg hz] at e'; cases e'
/-- a, b = a list of two -/
def uL2 : D → Option (D × D)
  | .lst [a, b] => some (a, b)
  | _ => none
end
end BR

/-! K32: a module's number; a, b, c, d = a list of four -/
namespace BR
open PySem PySem.Spec PyProof.Rows L2
section
variable {X : Cx} {en : Kn} {δ τ : List Slot} {R : Type} {C : Slot → List Slot → Res R → Prop} {m : Res R}
theorem je_gi {x : Str} {i : Int} {pos : Pos} (hm : ∃ t, X.mg x = some (.int i t)) (h : C (.fr (.int i)) δ m) (hg : Gl X x := by rfl) (hd : (x == ("__debug__" : Str)) = false := by decide) : JE X en δ τ (.Name x pos) C m := .mk fun hb hx σ ts G H T hl hσ W k => by
  obtain ⟨t, hm⟩ := hm
  exact we_of (pe_glob (v := .int i) hg hm ⟨t, rfl⟩ hd) (k _ _ _ G H h hl (W.out (Grow.refl W.sub) (show Rep _ _ _ _ from rfl)))
def uL4 : D → Option (D × D × D × D)
  | .lst [a, b, c, d] => some (a, b, c, d)
  | _ => none
theorem gi_mk {K : PySem.W.Frag} {mg : Str → Option Value} {h : Heap} {x : Str} {i : Int} {t : Tok} (X : K.In h) (G : h.Ns mainGlobals mg) (g : PySem.W.nsIn K mainGlobals x = some (some (.int i t))) : ∃ t, mg x = some (.int i t) := ⟨t, PySem.W.mg_of X G g⟩
end
end BR

/-! K33: a loop over range(a, b) of numbers of any size -/
namespace BR
open PySem PySem.Spec PyProof.Rows L2
def iRng2B (ta : TA) : TI := fun σ H R => ta σ H fun vs H1 => ∃ i j : Int, vs = [.int i, .int j] ∧ R (Itr i (j - i).toNat) H1
/-- the numbers of range(a, b), whatever their size -/
def rngB : List D → Option (List D)
  | [.int i, .int j] => some (upto i (j - i).toNat)
  | _ => none
section
variable {X : Cx} {en : Kn} {δ : List Slot} {R : Type} {m : Res R}
end
end BR

/-! K28: told lists that are changed behind -/
namespace BR
open PySem PySem.Spec PyProof.Rows L2

mutual
/-- no list, no dict, nowhere within -/
def flD : D → Bool
  | .lst _ => false
  | .dic _ => false
  | .scr _ => false
  | .exc _ _ => false
  | .obj _ _ => false
  | .tup ds => flDs ds
  | _ => true
def flDs : List D → Bool
  | [] => true
  | d :: ds => flD d && flDs ds
end
/-- .. but at its top -/
def flT : D → Bool
  | .lst ds => flDs ds
  | .tup ds => flDs ds
  | .dic _ => false
  | .scr _ => false
  | .exc _ _ => false
  | .obj _ _ => false
  | _ => true
/-- neither heap nor text: numbers, truths, None, texts -/
def scD : D → Bool
  | .int _ => true
  | .bl _ => true
  | .non => true
  | .str _ => true
  | _ => false
def flZ (z : Bool × D) : Bool := if z.1 = true then flD z.2 else flT z.2
def chk (ds : List (Bool × D)) : Option Unit := if ds.all flZ = true then some () else none
/-- what stands fast, but lists and dicts -/
def noL (G : Hp) : Hp := fun a => match G a with
  | some (.lst _) => none
  | some (.dK _) => none
  | o => o
def uni (A B : Hp) : Hp := fun a => match A a with
  | some o => some o
  | none => B a
section
variable {K : PySem.W.Frag} {G H : Hp}
theorem noL_at {a : Addr} {o : HO} (h : noL G a = some o) : G a = some o ∧ ∀ xs, o ≠ .lst xs := by
  unfold noL at h
  split at h
  · cases h
  · cases h
  · rename_i z _
    exact ⟨h, fun xs e => z xs (by rw [h, e])⟩
theorem noL_sub : Sub (noL G) G := fun a o h => (noL_at h).1
theorem noL_some {a : Addr} {o : HO} (h : G a = some o) (n : ∀ xs, o ≠ .lst xs) (n2 : ∀ xs, o ≠ .dK xs) : noL G a = some o := by
  unfold noL
  rw [h]
  cases o <;> first | rfl | exact absurd rfl (n _) | exact absurd rfl (n2 _)
theorem sqt_noL {a : Addr} {vs : List V} (h : SqT K G a vs) : SqT K (noL G) a vs := by
  rcases h with (h | ⟨o, h⟩) | h
  · exact .inl (.inl (noL_some h (fun _ z => nomatch z) (fun _ z => nomatch z)))
  · exact .inl (.inr ⟨o, noL_some h (fun _ z => nomatch z) (fun _ z => nomatch z)⟩)
  · exact .inr h
mutual
theorem Rep.noL : ∀ {d : D} {v : V}, flD d = true → Rep K G d v → Rep K (noL G) d v
  | .non, _, _, h => h
  | .bl _, _, _, h => h
  | .int _, _, _, h => h
  | .str _, _, _, h => h
  | .lst _, _, f, _ => (Bool.false_ne_true f).elim
  | .dic _, _, f, _ => (Bool.false_ne_true f).elim
  | .scr _, _, f, _ => (Bool.false_ne_true f).elim
  | .exc _ _, _, f, _ => (Bool.false_ne_true f).elim
  | .obj _ _, _, f, _ => (Bool.false_ne_true f).elim
  | .tup ds, _, f, h => by
    obtain ⟨a, vs, e, q, r⟩ := h
    exact ⟨a, vs, e, sqt_noL q, Reps.noL (ds := ds) f r⟩
theorem Reps.noL : ∀ {ds : List D} {vs : List V}, flDs ds = true → Reps K G ds vs → Reps K (noL G) ds vs
  | [], _, _, h => h
  | d :: ds, _, f, h => by
    obtain ⟨v, r, e, h1, h2⟩ := h
    have f' : (flD d && flDs ds) = true := f
    rw [Bool.and_eq_true] at f'
    exact ⟨v, r, e, Rep.noL f'.1 h1, Reps.noL f'.2 h2⟩
end
theorem uni_l {A B : Hp} : Sub A (uni A B) := fun a o h => by unfold uni; rw [h]
theorem uni_r {A B : Hp} (ha : Sub A H) (hb : Sub B H) : Sub B (uni A B) := fun a o h => by
  unfold uni
  cases e : A a with
  | none => exact h
  | some u =>
    have h1 := ha a u e
    have h2 := hb a o h
    rw [h1] at h2
    exact h2
theorem uni_sub {A B : Hp} (ha : Sub A H) (hb : Sub B H) : Sub (uni A B) H := fun a o h => by
  unfold uni at h
  cases e : A a with
  | none => rw [e] at h; exact hb a o h
  | some u => rw [e] at h; cases h; exact ha a _ e
end
/-- what may be read of a name's slot -/
def Slot.rdp : Slot → Option D
  | .fr d => some d
  | .mu d => some d
  | .mp _ d => some d
  | .bw d => some d
  | _ => none
/-- the names, read alone: ds what is read (true: it may be kept) -/
def PV : List Slot → List Slot → List (Bool × D) → Prop
  | [], [], [] => True
  | _ :: δ, .un :: δ', ds => PV δ δ' ds
  | s :: δ, .bw d :: δ', e :: ds => s.rdp = some d ∧ e = (false, d) ∧ PV δ δ' ds
  | s :: δ, .fr d :: δ', e :: ds => s.rdp = some d ∧ e = (true, d) ∧ PV δ δ' ds
  | _, _, _ => False
theorem PV.len : ∀ {δ δ' : List Slot} {ds : List (Bool × D)}, PV δ δ' ds → δ'.length = δ.length
  | [], [], [], _ => rfl
  | _ :: δ, .un :: δ', ds, h => by rw [List.length_cons, List.length_cons, PV.len (δ := δ) (δ' := δ') h]
  | _ :: δ, .bw _ :: δ', _ :: ds, h => by rw [List.length_cons, List.length_cons, PV.len h.2.2]
  | _ :: δ, .fr _ :: δ', _ :: ds, h => by rw [List.length_cons, List.length_cons, PV.len h.2.2]
  | [], [], _ :: _, h => h.elim
  | [], _ :: _, _, h => h.elim
  | _ :: _, [], _, h => h.elim
  | _ :: _, .bw _ :: _, [], h => h.elim
  | _ :: _, .fr _ :: _, [], h => h.elim
  | _ :: _, .mu _ :: _, _, h => h.elim
  | _ :: _, .mp _ _ :: _, _, h => h.elim
  | _ :: _, .bo _ :: _, _, h => h.elim
theorem PV.get : ∀ {δ δ' : List Slot} {ds : List (Bool × D)} {i : Nat} {sl : Slot}, PV δ δ' ds → δ'[i]? = some sl → sl = .un ∨ ∃ d s b, ((b = false ∧ sl = .bw d) ∨ (b = true ∧ sl = .fr d)) ∧ (b, d) ∈ ds ∧ δ[i]? = some s ∧ s.rdp = some d
  | [], [], [], _, _, _, e => by simp at e
  | s :: δ, .un :: δ', ds, 0, sl, h, e => .inl (by simpa using e.symm)
  | s :: δ, .un :: δ', ds, i + 1, sl, h, e => by
    rcases PV.get (δ := δ) (δ' := δ') (i := i) h (by simpa using e) with z | ⟨d, s, x, a, b, c, f⟩
    · exact .inl z
    · exact .inr ⟨d, s, x, a, b, by simpa using c, f⟩
  | s :: δ, .bw d :: δ', x :: ds, 0, sl, h, e => by
    have e' : Slot.bw d = sl := by simpa using e
    subst e'
    exact .inr ⟨d, s, false, .inl ⟨rfl, rfl⟩, by rw [h.2.1]; exact List.mem_cons_self, rfl, h.1⟩
  | s :: δ, .bw d :: δ', x :: ds, i + 1, sl, h, e => by
    rcases PV.get (i := i) h.2.2 (by simpa using e) with z | ⟨d, s, x, a, b, c, f⟩
    · exact .inl z
    · exact .inr ⟨d, s, x, a, List.mem_cons_of_mem _ b, by simpa using c, f⟩
  | s :: δ, .fr d :: δ', x :: ds, 0, sl, h, e => by
    have e' : Slot.fr d = sl := by simpa using e
    subst e'
    exact .inr ⟨d, s, true, .inr ⟨rfl, rfl⟩, by rw [h.2.1]; exact List.mem_cons_self, rfl, h.1⟩
  | s :: δ, .fr d :: δ', x :: ds, i + 1, sl, h, e => by
    rcases PV.get (i := i) h.2.2 (by simpa using e) with z | ⟨d, s, x, a, b, c, f⟩
    · exact .inl z
    · exact .inr ⟨d, s, x, a, List.mem_cons_of_mem _ b, by simpa using c, f⟩
  | [], [], _ :: _, _, _, h, _ => h.elim
  | [], _ :: _, _, _, _, h, _ => h.elim
  | _ :: _, [], _, _, _, h, _ => h.elim
  | _ :: _, .bw _ :: _, [], _, _, h, _ => h.elim
  | _ :: _, .fr _ :: _, [], _, _, h, _ => h.elim
  | _ :: _, .mu _ :: _, _, _, _, h, _ => h.elim
  | _ :: _, .mp _ _ :: _, _, _, _, h, _ => h.elim
  | _ :: _, .bo _ :: _, _, _, _, h, _ => h.elim
/-- where all is read alone -/
structure KnP (en en' : Kn) : Prop where
  n : en'.n = en.n
  HX : en'.HX = en.HX
  F0 : Sub en.F0 en'.F0
  st : ∀ a, en'.F0 a = none → a ∉ en'.ps → a ∉ en.ps
theorem Sub.none {A B : Hp} (s : Sub A B) {a : Addr} (h : B a = none) : A a = none := by
  cases z : A a with
  | none => rfl
  | some o => rw [s a o z] at h; cases h
theorem KnP.lk {X : Cx} {en en' : Kn} (h : KnP en en') (l : Lk X en) : Lk X en' := by
  obtain ⟨W, t, k⟩ := l
  exact ⟨W, t, fun x hx cls d σ H' e s => k x (h.HX ▸ hx) cls d σ H' (e.to fun a h1 h2 => ⟨h.F0.none h1, h.st a h1 h2⟩) (h.F0.trans s)⟩
abbrev Kn.pure (en : Kn) (G F : Hp) : Kn := { n := en.n, G0 := G, F0 := F, ps := [], HX := en.HX, h0 := en.h0 }
theorem Wd.knP {K : PySem.W.Frag} {en : Kn} {δ : List Slot} {σ : L2.St} {G H0 H G' : Hp} (W : Wd K en δ σ G H0) (s : Sub H0 H) : KnP en (en.pure G' H) := ⟨rfl, rfl, W.frm.trans s, fun a h _ z => W.stay a z (s.none h)⟩
section
variable {K : PySem.W.Frag} {en : Kn} {δ δ' : List Slot} {σ : L2.St} {G H : Hp}
theorem SlotOk.bread {S : L2.St} {sl : Slot} {d : D} {o : Option V} (s1 : Sub G H) (s2 : Sub en.F0 H) (q : SlotOk K en S G H sl o) (e : sl.rdp = some d) : ∃ v, o = some v ∧ BRep K G H d v := by
  cases sl with
  | un => cases e
  | bo _ => cases e
  | fr d' => cases e; obtain ⟨v, e, r⟩ := q; exact ⟨v, e, BRep.of s1 r⟩
  | mu d' => cases e; obtain ⟨p, e, _, _, _, r⟩ := q; exact ⟨_, e, BRep.mk r.v r.notup⟩
  | mp j d' => cases e; obtain ⟨p, e, _, _, _, r⟩ := q; exact ⟨_, e, BRep.mk r.v r.notup⟩
  | bw d' => cases e; obtain ⟨v, e, r⟩ := q; exact ⟨v, e, BRep.sub (Sub.refl _) s2 r⟩
theorem BRep.fast {d : D} {v : V} (f : flD d = true) (h : BRep K G H d v) : Rep K G d v := by
  obtain ⟨⟨M, hM, r⟩, t⟩ := h
  cases d with
  | lst _ => exact (Bool.false_ne_true f).elim
  | dic _ => exact (Bool.false_ne_true f).elim
  | scr _ => exact (Bool.false_ne_true f).elim
  | exc _ _ => exact (Bool.false_ne_true f).elim
  | obj _ _ => exact (Bool.false_ne_true f).elim
  | tup _ => exact t rfl
  | non => exact r
  | bl _ => exact r
  | int _ => exact r
  | str _ => exact r
/-- a name set where nothing is known of it -/
theorem Wd.blank (W : Wd K en δ σ G H) (hb : noBo δ = true) (i : Nat) (o : Option V) : Wd K en (δ.set i .un) (σ.set i o) G H where
  len := by rw [List.length_set, List.length_set]; exact W.len
  sub := W.sub
  ext := W.ext
  new := W.new
  frm := W.frm
  stay := W.stay
  nd := W.nd
  slot := fun j sl u h1 h2 => by
    by_cases hj : i = j
    · subst hj
      by_cases hi : i < δ.length
      · rw [List.getElem?_set_self hi] at h1; cases h1; trivial
      · rw [List.getElem?_eq_none (by rw [List.length_set]; omega)] at h1; cases h1
    · rw [List.getElem?_set_ne hj] at h1 h2
      have q := W.slot j sl u h1 h2
      cases sl with
      | un => trivial
      | fr d => exact q
      | mu d => exact q
      | mp j d => exact q
      | bw d => exact q
      | bo k => exact (noBo_get hb h1).elim
  apart := fun j k p h1 h2 => by
    have key : ∀ j : Nat, Own (δ.set i .un) (σ.set i o) j p → Own δ σ j p := fun j ⟨sl, e1, e2, e3⟩ => by
      by_cases hj : i = j
      · subst hj
        by_cases hi : i < δ.length
        · rw [List.getElem?_set_self hi] at e1; cases e1; cases e2
        · rw [List.getElem?_eq_none (by rw [List.length_set]; omega)] at e1; cases e1
      · rw [List.getElem?_set_ne hj] at e1 e3
        exact ⟨sl, e1, e2, e3⟩
    exact W.apart j k p (key j h1) (key k h2)
theorem Grow.more {H' : Hp} (s : Sub G H) (h : Sub H H') : Grow G H G H' := ⟨Sub.refl _, h, s.trans h, fun _ _ e => .inl e⟩
end
section
variable {X : Cx} {en : Kn} {R : Type}
/-- the name i has something told, whose lists are new and nobody else's: d -/
structure JX (X : Cx) (en : Kn) (δ : List Slot) (i : Nat) (d : D) (sts : List Stmt) {R : Type} (N : List Slot → Res R → Prop) (RT : Slot → List Slot → Res R → Prop) (BK CT : List Slot → Res R → Prop) (m : Res R) : Prop where
  run : m ≠ .bad → en.HX m.exc → ∀ (σ : L2.St) (G H0 H G1 : Hp) (E : Ends) (v : V), δ.length = en.n → σ[i]? = some (some v) → Wd X.K en δ σ G H0 → Sub H0 H → Sub G1 H → (∀ a o, G1 a = some o → noL G a = some o ∨ H0 a = none) → Rep X.K G1 d v →
    (∀ δ' σ' G' H', N δ' m → δ'.length = en.n → Wd X.K en δ' σ' G' H' → E.nx σ' H') →
    (∀ sl δ' v σ' G' H', RT sl δ' m → δ'.length = en.n → Wd X.K en (δ' ++ [sl]) (σ' ++ [some v]) G' H' → E.rt v H') →
    (∀ δ' σ' G' H', BK δ' m → δ'.length = en.n → Wd X.K en δ' σ' G' H' → E.bk σ' H') →
    (∀ δ' σ' G' H', CT δ' m → δ'.length = en.n → Wd X.K en δ' σ' G' H' → E.ct σ' H') → WSs X sts E σ H
variable {δ : List Slot} {N : List Slot → Res R → Prop} {RT : Slot → List Slot → Res R → Prop} {BK CT : List Slot → Res R → Prop} {m : Res R} {pos : Pos}
/-- a told list is new -/
theorem newL {G G1 H0 : Hp} (new : ∀ a o, G1 a = some o → noL G a = some o ∨ H0 a = none) {a : Addr} {xs : List V} (h : G1 a = some (.lst xs)) : H0 a = none := (new a _ h).elim (fun q => absurd rfl ((noL_at q).2 xs)) id
/-- the names read in a test: what stands fast stays so -/
def Slot.tv : Slot → Slot
  | .fr d => .fr d
  | .bw d => .bw d
  | .mu d => .bw d
  | .mp _ d => .bw d
  | _ => .un
theorem tv_set {δ : List Slot} {i j : Nat} {d : D} {sl : Slot} (h : ((δ.map Slot.tv).set i (.fr d))[j]? = some sl) : (j = i ∧ sl = .fr d) ∨ (j ≠ i ∧ ∃ s, δ[j]? = some s ∧ s.tv = sl) := by
  by_cases hj : i = j
  · subst hj
    by_cases hi : i < δ.length
    · rw [List.getElem?_set_self (by rw [List.length_map]; exact hi)] at h
      exact .inl ⟨rfl, (Option.some.inj h).symm⟩
    · rw [List.getElem?_eq_none (by rw [List.length_set, List.length_map]; omega)] at h; cases h
  · rw [List.getElem?_set_ne hj, List.getElem?_map] at h
    obtain ⟨s, h1, h2⟩ := Option.map_eq_some_iff.mp h
    exact .inr ⟨fun e => hj e.symm, s, h1, h2⟩
theorem Wd.test {K : PySem.W.Frag} {δ : List Slot} {σ : L2.St} {G H0 H G1 : Hp} {i : Nat} {d : D} {v : V} (W : Wd K en δ σ G H0) (hv : σ[i]? = some (some v)) (s0 : Sub H0 H) (s1 : Sub G1 H) (r : Rep K G1 d v) :
    Wd K (en.pure (uni G G1) H) ((δ.map Slot.tv).set i (.fr d)) σ (uni G G1) H where
  len := by rw [List.length_set, List.length_map]; exact W.len
  sub := uni_sub (W.sub.trans s0) s1
  ext := Sub.refl _
  new := fun a o e => .inl e
  frm := Sub.refl _
  stay := fun a h => by cases h
  nd := List.nodup_nil
  slot := fun j sl o h1 h2 => by
    rcases tv_set h1 with ⟨e, e2⟩ | ⟨_, s, hs, e⟩
    · subst e e2
      rw [hv] at h2
      cases h2
      exact ⟨v, rfl, Rep.sub (uni_r (W.sub.trans s0) s1) _ _ r⟩
    · subst e
      have q := W.slot j s o hs h2
      cases s with
      | un => trivial
      | bo _ => trivial
      | fr d => obtain ⟨v, e, r⟩ := q; exact ⟨v, e, Rep.sub uni_l _ _ r⟩
      | mu d => obtain ⟨p, e, _, _, _, r⟩ := q; exact ⟨_, e, BRep.sub uni_l s0 (BRep.mk r.v r.notup)⟩
      | mp j d => obtain ⟨p, e, _, _, _, r⟩ := q; exact ⟨_, e, BRep.sub uni_l s0 (BRep.mk r.v r.notup)⟩
      | bw d => obtain ⟨v, e, r⟩ := q; exact ⟨v, e, BRep.sub uni_l (W.frm.trans s0) r⟩
  apart := fun a b p h1 _ => by
    obtain ⟨sl, e1, e2, _⟩ := h1
    rcases tv_set e1 with ⟨_, e⟩ | ⟨_, s, _, e⟩
    · subst e; cases e2
    · subst e
      cases s <;> cases e2
/-- if c: A, where A leads out -/
theorem jx_if {i : Nat} {d : D} {c : Expr} {A rest : List Stmt} {δT : List Slot} (hT : (δ.map Slot.tv).set i (.fr d) = δT)
    (h : ∀ en', KnP en en' → JT X en' δT [] c (fun t _ m1 => ∃ mA mB, m1 = (if t = true then mA else mB) ∧ JSs X en δ A (fun _ _ => False) RT BK CT mA ∧ JX X en δ i d rest N RT BK CT mB) m) : JX X en δ i d (.If c A [] pos :: rest) N RT BK CT m := .mk fun hb hx σ G H0 H G1 E v hl hv W s0 s1 new r k1 k2 k3 k4 => by
  have WT := W.test (d := d) hv s0 s1 r
  rw [hT] at WT
  have hlT : δT.length = en.n := by rw [← hT, List.length_set, List.length_map]; exact hl
  refine wss_of (pss_cons ps_ws pss_wss) (ws_of (ps_if pt_wt pss_wss pss_wss) (JT.at (h (en.pure (uni G G1) H) (W.knP s0)) hb hx hlT WT fun t δ1 G2 H2 ⟨mA, mB, em, h1, h2⟩ hl1 W1 => ?_))
  have sH : Sub H0 H2 := s0.trans W1.frm
  cases t with
  | true =>
    have e : m = mA := em
    subst e
    exact iteT (h1.run hb hx σ G H2 _ hl (W.grow (Grow.more W.sub sH)) (fun _ _ _ _ z => z.elim) k2 k3 k4)
  | false =>
    have e : m = mB := em
    subst e
    exact iteF (wss_of pss_nil (h2.run hb hx σ G H0 H2 G1 E v hl hv W sH (s1.trans W1.frm) new r k1 k2 k3 k4))
def scs (ds : List D) : Option Unit := if ds.all scD = true then some () else none
end
end BR

/-! K29: a told thing's lists changed -/
namespace BR
open PySem PySem.Spec PyProof.Rows L2
/-- but one name nothing is known: it has the list of the caller's that may be changed -/
def dm (n ix : Nat) (l : List D) : List Slot := (List.replicate n Slot.un).set ix (.mp 0 (.lst l))
theorem dm_get {n ix i : Nat} {l : List D} {sl : Slot} (h : (dm n ix l)[i]? = some sl) : sl = .un ∨ (i = ix ∧ sl = .mp 0 (.lst l)) := by
  unfold dm at h
  by_cases hi : ix = i
  · subst hi
    by_cases hn : ix < n
    · rw [List.getElem?_set_self (by rw [List.length_replicate]; exact hn)] at h
      exact .inr ⟨rfl, (Option.some.inj h).symm⟩
    · rw [List.getElem?_eq_none (by rw [List.length_set, List.length_replicate]; omega)] at h; cases h
  · rw [List.getElem?_set_ne hi, List.getElem?_replicate] at h
    split at h
    · exact .inl (Option.some.inj h).symm
    · cases h
theorem dm_len {n ix : Nat} {l : List D} : (dm n ix l).length = n := by unfold dm; rw [List.length_set, List.length_replicate]
section
variable {X : Cx} {en : Kn} {R : Type}
/-- statements that change the name's list alone -/
def Spl (X : Cx) (en : Kn) (n ix : Nat) : List (Expr × Pos) → List D → Res (List D) → Prop
  | [], l, m => m = .ok l
  | e :: sts, l, m => swapsWith e.1 none e.2.line X.env = pure false ∧ ∀ en', KnP en en' → JE X en' (dm n ix l) [] e.1 (fun _ δ' m1 => ∃ l', δ' = dm n ix l' ∧ Spl X en n ix sts l' m1) m
def exs' (es : List (Expr × Pos)) : List Stmt := es.map fun e => .Expr e.1 e.2
abbrev Kn.alone (en : Kn) (G H : Hp) (a : Addr) : Kn := { n := en.n, G0 := G, F0 := hide H [a], ps := [a], HX := en.HX, h0 := en.h0 }
theorem Wd.alone {K : PySem.W.Frag} {n ix : Nat} {l : List D} {σ : L2.St} {G H : Hp} {a : Addr} (hn : en.n = n) (hσ : σ.length = n) (ha : σ[ix]? = some (some (.ref a))) (sg : Sub G H) (ga : G a = none) (r : MRep K G H (.lst l) a) :
    Wd K (en.alone G H a) (dm n ix l) σ G H where
  len := dm_len.trans hσ.symm
  sub := sg
  ext := Sub.refl _
  new := fun a o e => .inl e
  frm := hide_sub
  stay := fun b hb => by
    rw [List.mem_singleton.mp hb]
    obtain ⟨o, e⟩ := r.ex
    rw [e]; simp
  nd := by simp
  slot := fun i sl o h1 h2 => by
    rcases dm_get h1 with e | ⟨e, e2⟩
    · subst e; trivial
    · subst e e2
      rw [ha] at h2
      cases h2
      exact ⟨a, rfl, rfl, ga, hide_none List.mem_cons_self, r⟩
  apart := fun i j p h1 h2 => by
    obtain ⟨s1, e1, f1, _⟩ := h1
    obtain ⟨s2, e2, f2, _⟩ := h2
    rcases dm_get e1 with e | ⟨e, _⟩
    · subst e; cases f1
    · rcases dm_get e2 with e' | ⟨e', _⟩
      · subst e'; cases f2
      · rw [e, e']
/-- a told list of lists: all of them flat and short -/
def okL : D → Bool
  | .lst l => flDs l && decide (l.length < 1000)
  | _ => false
def chkL (d : D) : Option Unit := match d with
  | .lst ds => if ds.all okL = true ∧ ds.length < 9000 then some () else none
  | _ => none
variable {δ : List Slot} {N : List Slot → Res R → Prop} {RT : Slot → List Slot → Res R → Prop} {BK CT : List Slot → Res R → Prop} {m : Res R} {pos : Pos}
def lstF : D → Option (List D)
  | .lst l => if flDs l = true then some l else none
  | _ => none
def gF (g : D → List D → Option (D × D)) (l as : List D) : Option Unit := if flDs as = true ∧ (g (.lst l) as).isSome = true then some () else none
def ones' (n i : Nat) (d : D) : List Slot := (List.replicate n Slot.un).set i (.fr d)
theorem ones_get {n i j : Nat} {d : D} {sl : Slot} (h : (ones' n i d)[j]? = some sl) : sl = .un ∨ (j = i ∧ sl = .fr d) := by
  unfold ones' at h
  by_cases hi : i = j
  · subst hi
    by_cases hn : i < n
    · rw [List.getElem?_set_self (by rw [List.length_replicate]; exact hn)] at h
      exact .inr ⟨rfl, (Option.some.inj h).symm⟩
    · rw [List.getElem?_eq_none (by rw [List.length_set, List.length_replicate]; omega)] at h; cases h
  · rw [List.getElem?_set_ne hi, List.getElem?_replicate] at h
    split at h
    · exact .inl (Option.some.inj h).symm
    · cases h
theorem ones_len {n i : Nat} {d : D} : (ones' n i d).length = n := by unfold ones'; rw [List.length_set, List.length_replicate]
theorem Wd.one1 {K : PySem.W.Frag} {n i : Nat} {d : D} {σ : L2.St} {G H : Hp} {v : V} (hn : en.n = n) (hσ : σ.length = n) (hv : σ[i]? = some (some v)) (sg : Sub G H) (r : Rep K G d v) : Wd K (en.pure G H) (ones' n i d) σ G H where
  len := ones_len.trans hσ.symm
  sub := sg
  ext := Sub.refl _
  new := fun a o e => .inl e
  frm := Sub.refl _
  stay := fun a h => by cases h
  nd := List.nodup_nil
  slot := fun j sl o h1 h2 => by
    rcases ones_get h1 with e | ⟨e, e2⟩
    · subst e; trivial
    · subst e e2
      rw [hv] at h2
      cases h2
      exact ⟨v, rfl, r⟩
  apart := fun a b p h1 _ => by
    obtain ⟨sl, e1, e2, _⟩ := h1
    rcases ones_get e1 with e | ⟨_, e⟩
    · subst e; cases e2
    · subst e; cases e2
end
end BR

/-! K34: pop of a told list behind a change of what is in it -/
namespace BR
open PySem PySem.Spec PyProof.Rows L2
section
variable {X : Cx} {en : Kn} {R : Type}
/-- of the told thing it is known that it is a list that has something -/
structure JPq (X : Cx) (en : Kn) (δ : List Slot) (i : Nat) (sts : List Stmt) {R : Type} (N : List Slot → Res R → Prop) (RT : Slot → List Slot → Res R → Prop) (BK CT : List Slot → Res R → Prop) (m : Res R) : Prop where
  run : m ≠ .bad → en.HX m.exc → ∀ (σ : L2.St) (G H0 H : Hp) (p : Addr) (ws : List V) (E : Ends), δ.length = en.n → σ[i]? = some (some (.ref p)) → H0 p = none → H p = some (.lst ws) → ws ≠ [] → Wd X.K en δ σ G H0 → Sub H0 H →
    (∀ δ' σ' G' H', N δ' m → δ'.length = en.n → Wd X.K en δ' σ' G' H' → E.nx σ' H') →
    (∀ sl δ' v σ' G' H', RT sl δ' m → δ'.length = en.n → Wd X.K en (δ' ++ [sl]) (σ' ++ [some v]) G' H' → E.rt v H') →
    (∀ δ' σ' G' H', BK δ' m → δ'.length = en.n → Wd X.K en δ' σ' G' H' → E.bk σ' H') →
    (∀ δ' σ' G' H', CT δ' m → δ'.length = en.n → Wd X.K en δ' σ' G' H' → E.ct σ' H') → WSs X sts E σ H
def neL : D → Option Unit
  | .lst (_ :: _) => some ()
  | _ => none
variable {δ : List Slot} {N : List Slot → Res R → Prop} {RT : Slot → List Slot → Res R → Prop} {BK CT : List Slot → Res R → Prop} {m : Res R} {pos : Pos}
end
end BR

/-! K35: try .. except X as e, what is caught tracked from there on -/
namespace BR
open PySem PySem.Spec PyProof.Rows L2
section
variable {X : Cx} {pins : List (Addr × Obj)} {σ : L2.St} {H : Hp} {sI s s' : Shared} {B : Heap}
/-- landed, the error itself tracked -/
theorem landedK {a : Addr} {oe : Obj} (I : Inv X pins σ H sI) (nb : ∀ b o, sI.heap.get? b = some o → b ∉ L2.frs X.stack → B.get? b = some o) (st : B.StaysIn s'.heap) (up : sI.heap.UpToSlots s'.heap) (os : s'.os = sI.os) (ag : AllBare s'.gens)
    (hnew : sI.heap.get? a = none) (na : H a = none) (ha : s'.heap.get? a = some oe) : Inv X pins σ (upd H a (ExO1 oe)) s' := by
  have neA : ∀ b o, sI.heap.get? b = some o → b ≠ a := fun b o e z => by rw [z, hnew] at e; cases e
  have nf : ∀ b ∈ L2.frs X.stack, ∀ o, sI.heap.get? b = some o → ∃ sl, s'.heap.get? b = some { o with slots := sl } := fun b hb o e => by
    obtain ⟨_, o', e', hd⟩ := I.stack.mem hb
    rw [e] at e'; cases e'
    exact up b o e hd
  have k : ∀ b o, sI.heap.get? b = some o → b ∉ L2.frs X.stack → s'.heap.get? b = some o := fun b o e hb => st b o (nb b o e hb)
  refine I.call' (ch := []) os ⟨fun b o e _ hb _ => k b o e hb, fun b o e _ hb _ => nf b hb o e, fun b o e n _ => by rw [upd_ne (neA b o e)]; exact n, fun b o e _ => ?_, fun b xs e => by rw [upd_ne (ne_of_none e na)]; exact e,
    fun b o u e => by rw [upd_ne (ne_of_none e na)]; exact e, fun b ps e => ⟨#[], by rw [upd_ne (ne_of_none e na), e]; simp⟩⟩ (fun b o e => ?_) ag fun _ z => nomatch z
  · by_cases hb : b ∈ L2.frs X.stack
    · obtain ⟨sl, q⟩ := nf b hb o e
      exact ⟨_, q⟩
    · exact ⟨o, k b o e hb⟩
  · by_cases hb : b = a
    · subst hb
      rw [upd_same] at e; cases e
      exact ⟨ha, trivial, ⟨oe, ha⟩, fun _ _ _ _ => trivial⟩
    · rw [upd_ne hb] at e
      refine (I.hok b o e).stay (fun c v hc q => k c v q fun hm => ?_) (fun c q => by rw [upd_ne (ne_of_none q na)]; exact q) fun c xs q => by rw [upd_ne (ne_of_none q na)]; exact q
      have z := I.stkFree c hm
      rcases hc with hc | hc
      · rw [hc, e] at z; cases z
      · rw [hc] at z; cases z
theorem suiteK {a : Addr} (I : Inv X pins σ H s) : Inv (X.suite a (X.pn ++ pins)) [] σ H s :=
  ⟨I.ok.suite _ _, I.os, I.bare, I.base, I.loc, I.cell, I.free, I.freeC, fun p hp => I.pin p (by rw [List.append_nil] at hp; exact hp), I.hok, I.len⟩
theorem unsuiteK {a : Addr} {pn' : List (Addr × Obj)} (I : Inv (X.suite a (X.pn ++ pins)) pn' σ H s) (ok : X.Ok) : Inv X pins σ H s :=
  ⟨ok, I.os, I.bare, I.base, I.loc, I.cell, I.free, I.freeC, fun p hp => I.pin p (List.mem_append_left _ hp), I.hok, I.len⟩
end
section
variable {K : PySem.W.Frag} {en : Kn} {δ : List Slot} {σ : L2.St} {G H : Hp}
/-- an error's dict stands fast too -/
theorem Wd.addx {dd : Addr} {fs : List (Str × V)} (W : Wd K en δ σ G H) (e : H dd = some (.xd fs)) (f : en.F0 dd = none) (n : dd ∉ en.ps) : Wd K en δ σ (upd G dd (.xd fs)) H := by
  have gg : Sub G (upd G dd (.xd fs)) := fun a o q => by
    by_cases ha : a = dd
    · subst ha
      rw [W.sub a o q] at e
      rw [upd_same, e]
    · rw [upd_ne ha]; exact q
  have mn : ∀ {d : D} {p : Addr}, G p = none → MRep K G H d p → upd G dd (.xd fs) p = none := fun {d p} g r => by
    by_cases hp : p = dd
    · subst hp
      cases d <;> first | exact r.elim | skip
      · obtain ⟨_, z, _⟩ := r
        rw [e] at z; cases z
      · obtain ⟨_, z, _⟩ := r
        rw [e] at z; cases z
    · rw [upd_ne hp]; exact g
  exact {
    len := W.len
    sub := fun a o q => by
      by_cases ha : a = dd
      · subst ha
        rw [upd_same] at q
        rw [e]; exact q
      · rw [upd_ne ha] at q; exact W.sub a o q
    ext := W.ext.trans gg
    new := fun a o q => by
      by_cases ha : a = dd
      · subst ha; exact .inr ⟨f, n⟩
      · rw [upd_ne ha] at q; exact W.new a o q
    frm := W.frm
    stay := W.stay
    nd := W.nd
    slot := fun i sl o h1 h2 => by
      have q := W.slot i sl o h1 h2
      cases sl with
      | un => trivial
      | fr d => obtain ⟨v, e, r⟩ := q; exact ⟨v, e, Rep.sub gg _ _ r⟩
      | mu d =>
        obtain ⟨p, e, n, f, f2, r⟩ := q
        exact ⟨p, e, mn n r, f, f2, r.keep gg fun o e => e⟩
      | mp j d =>
        obtain ⟨p, e, f2, n, f, r⟩ := q
        exact ⟨p, e, f2, mn n r, f, r.keep gg fun o e => e⟩
      | bw d => obtain ⟨v, e, r⟩ := q; exact ⟨v, e, BRep.sub gg (Sub.refl _) r⟩
      | bo j => exact q
    apart := W.apart }
theorem Wd.caught {mg : Str → Option Value} {x : Exc} {cls : Value} {d : Option Addr} {C a : Addr} {oe : Obj} {vs : Array Value} (W : Wd K en δ σ G H) (eo : ExcOk mg en.F0 en.ps x cls d H) (gC : mg x.cls = some (.ref C)) (FC : ExcF K x.cls C)
    (na : H a = none) (hz : L2N.Zn cls d oe) (hv : oe.data = .fields vs) : cls = .ref C ∧ ∃ G2, Sub G G2 ∧ G2 a = some (ExO1 oe) ∧ Wd K en (δ ++ [.fr (.exc x.cls x.fs)]) (σ ++ [some (.ref a)]) G2 (upd H a (ExO1 oe)) := by
  obtain ⟨C', gC', rfl, hd⟩ := eo
  rw [gC] at gC'
  have eC : C = C' := Value.ref.inj (Option.some.inj gC')
  subst eC
  refine ⟨rfl, ?_⟩
  have key : ∀ {G1 : Hp}, Sub G G1 → Wd K en δ σ G1 H → ((x.fs = [] ∧ L2N.Zn (.ref C) none oe) ∨ ∃ dd, x.fs ≠ [] ∧ L2N.Zn (.ref C) (some dd) oe ∧ G1 dd = some (.xd (xfV x.fs))) → ∃ G2, Sub G G2 ∧ G2 a = some (ExO1 oe) ∧ Wd K en (δ ++ [.fr (.exc x.cls x.fs)]) (σ ++ [some (.ref a)]) G2 (upd H a (ExO1 oe)) := fun {G1} sg W1 hx => by
    have nG : G1 a = none := by
      cases q : G1 a with
      | none => rfl
      | some o => rw [W1.sub a o q] at na; cases na
    have gr : Grow G1 H (upd G1 a (ExO1 oe)) (upd H a (ExO1 oe)) := ⟨Sub.upd nG, Sub.upd na, fun b o q => by
      by_cases hba : b = a
      · subst hba; rw [upd_same] at q ⊢; exact q
      · rw [upd_ne hba] at q ⊢; exact W1.sub b o q, fun b o q => by
      by_cases hba : b = a
      · subst hba; exact .inr na
      · rw [upd_ne hba] at q; exact .inl q⟩
    have ex : ExAt G1 (upd G1 a (ExO1 oe)) C a x.fs := ⟨oe, vs, upd_same, hv, hx⟩
    exact ⟨upd G1 a (ExO1 oe), sg.trans gr.g, upd_same, W1.out (sl := .fr (.exc x.cls x.fs)) (v := .ref a) gr ⟨a, C, rfl, FC, ex.sub gr.g (Sub.refl _)⟩⟩
  rcases hd with ⟨h1, h2⟩ | ⟨h1, dd, h2, h3, h4, h5⟩
  · subst h2
    exact key (Sub.refl _) W (.inl ⟨h1, hz⟩)
  · subst h2
    have W1 := W.addx h3 h4 h5
    exact key (fun b o q => by
      by_cases hb : b = dd
      · subst hb
        rw [W.sub b o q] at h3
        rw [upd_same, h3]
      · rw [upd_ne hb]; exact q) W1 (.inr ⟨dd, h1, hz, upd_same⟩)
end
/-- what the clause wishes of an error of the body: it is of the clause's class, the suite runs with it tracked -/
def wKept (K : PySem.W.Frag) (c : Value) (i : Nat) (ts : Addr → TS) (D : Ends) : WX := fun cls d σ H =>
  PySem.W.exmOne K cls c = some true ∧ ∀ a oe vs, H a = none → L2N.Zn cls d oe → oe.data = .fields vs → ts a { nx := fun σ' H' => D.nx (σ'.set i none) H', rt := D.rt, bk := fun σ' H' => D.bk (σ'.set i none) H', ct := fun σ' H' => D.ct (σ'.set i none) H' } (σ.set i (some (.ref a))) (upd H a (ExO1 oe))
section
variable {X : Cx} {x n : Str} {c : Value} {i : Nat} {body suite : List Stmt} {b₀ : Stmt} {np pos pos' : Pos} {tb : WX → TS} {ts : Addr → TS}
/-- try: body / except x as n: suite -/
theorem ps_try_kept (hs : X.stack = X.env :: X.outer) (hf : X.env.frame = some X.env.locals) (hN : X.N.Nodup) (hi : X.N[i]? = some n) (hln : X.env.kindOf n = some .local) (hc : Names X x c)
    (hb : ∀ (W : WX) (pn : List (Addr × Obj)) (xe : Value → Shared → Prop), L2N.Takes (X.tr pn xe) W → PassesOwn (model X.prog X.w) X.A X.env xe → PSs (X.tr pn xe) body (tb W))
    (hsu : ∀ (a : Addr) (pn : List (Addr × Obj)), PSs (X.suite a pn) (b₀ :: suite) (ts a)) :
    PS X (.Try body [.ExceptHandler (some (.Name x np)) (some n) (b₀ :: suite) pos'] [] [] pos) (fun D σ H => tb (wKept X.K c i ts D) D σ H) := by
  refine ⟨fun pins s σ H D I h => ?_⟩
  have ok := I.ok
  have hfr : X.A.frames = some (X.env :: X.outer) := by rw [ok.frames, hs]
  refine wpAny_Try_except ?_
  refine wpAny_mono ((hb (wKept X.K c i ts D) (X.pn ++ pins) (fun e s₁ => wpAny (model X.prog X.w) X.A (noteFrame e X.env) (fun _ s₂ => wpAny (model X.prog X.w) X.A (setFlight e none) (fun _ s₃ =>
    wpAny (model X.prog X.w) X.A (handleBy e X.env [.ExceptHandler (some (.Name x np)) (some n) (b₀ :: suite) pos']) (SP X pins D) X.xe s₃) X.xe s₂) X.xe s₁) (fun u s' xx => ?_) PassesOwn.looking).run [] s σ H D (I.toTry _) h) (fun f s1 hsp => ?_) (fun e s1 he => he)
  · obtain ⟨a, B, sI, pins', σ', H', cls, d, rfl, J', nb, up, sky, na, os, ag, hb1, hyes⟩ := xx
    have J : Inv X pins σ' H' sI := J'.ofTry ok
    have sky' : Sky B (X.env :: X.outer) a (L2N.Zn cls d) X.env.locals s'.heap := by rw [← hs]; exact sky
    show wpAny (model X.prog X.w) X.A (noteFrame (.ref a) X.env) _ _ _
    refine L2N.Sky.land L2N.Zn.steady hfr hf sky' fun h3 fl3 up3 => ?_
    have notFr : ∀ {h : Heap} {o : Obj} {vs : Array Value}, h.FunFrames B (X.env :: X.outer) → h.get? a = some o → o.data = .fields vs → a ∉ L2.frs (X.env :: X.outer) := fun {h o vs} ff e dd hm => by
      obtain ⟨_, o', e', hnf⟩ := ff.mem hm
      rw [e] at e'; cases e'
      exact hnf _ dd
    obtain ⟨oe3, vs3, he3, hz3, hd3⟩ := fl3.there
    have nfr := notFr fl3.2.2.1 he3 hd3
    have hnew : sI.heap.get? a = none := by
      cases e : sI.heap.get? a with
      | none => rfl
      | some o =>
        have z := nb a o e (by rw [hs]; exact nfr)
        rw [fl3.2.1] at z; cases z
    have S3 := suiteK (a := a) (landedK (s' := { s' with heap := h3 }) J nb fl3.1 (up.trans up3) os ag hnew na he3)
    refine wpAny_handleBy_cons (codeAny_handlers_test ?_) (by intro q; cases q)
    have LT : PySem.W.Looks (model X.prog X.w) h3 (typeOf (.ref a)) cls := fun A Q E s k q => wpAny_typeOf_ref (k _ _ he3) (by rw [hz3.1]; exact q)
    have LM := PySem.W.exm_one (M := model X.prog X.w) S3.kIn LT hb1
    have test : ∀ {Q : Value → Shared → Prop} {E : Value → Shared → Prop}, Q c { s' with heap := h3 } → wpAny (model X.prog X.w) (X.A.mark (some (.ref a))) (eval (.Name x np) X.env) Q E { s' with heap := h3 } := fun {Q E} q => by
      obtain ⟨hg, hdbg, hm | ⟨hm, hv, hnn⟩⟩ := hc
      · exact ld_glob (X := X.suite a (X.pn ++ pins)) S3 hg hm q hdbg
      · exact ld_blt (X := X.suite a (X.pn ++ pins)) S3 hg hm hv q hnn hdbg
    refine test (LM.here ?_)
    refine codeAny_handlers_suite_as ?_
    refine HandSPX.lands_againZ fl3 fun h4 fl4 up4 => ?_
    obtain ⟨oe4, vs4, he4, hz4, hd4⟩ := fl4.there
    have S4 := suiteK (a := a) (landedK (s' := { s' with heap := h4 }) J nb fl4.1 ((up.trans up3).trans up4) os ag hnew na he4)
    refine store_ok (X := X.suite a (X.pn ++ pins)) (v := .ref a) S4 hN hi (.inl hln) rfl (fun s5 S5 => ?_) (.inr hln)
    refine wpAny_mono ((hsu a (X.pn ++ pins)).run [] s5 _ _ _ S5 (hyes a oe4 vs4 na hz4 hd4)) (fun f s6 hsp => ?_) (fun _ _ z => False.elim z)
    have end_ : ∀ {σ6 : L2.St} {H6 : Hp} {Q : Shared → Prop}, Inv (X.suite a (X.pn ++ pins)) [] σ6 H6 s6 → (∀ s7, Inv X pins (σ6.set i none) H6 s7 → Q s7) →
        wpAny (model X.prog X.w) X.A (do bindName X.env n .none; unbindBehindTheSuite X.env n pos') (fun _ s7 => Q s7) X.xe s6 := fun {σ6 H6 Q} S6 hq => gone_ok (unsuiteK S6 ok) hN hi hln hq
    cases f with
    | next =>
      obtain ⟨σ6, H6, S6, q6⟩ := hsp
      exact end_ S6 fun s7 J7 => ⟨_, _, J7, q6⟩
    | brk =>
      obtain ⟨σ6, H6, S6, q6⟩ := hsp
      exact end_ S6 fun s7 J7 => ⟨_, _, J7, q6⟩
    | cont =>
      obtain ⟨σ6, H6, S6, q6⟩ := hsp
      exact end_ S6 fun s7 J7 => ⟨_, _, J7, q6⟩
    | ret u =>
      obtain ⟨v6, σ6, H6, S6, r6, q6⟩ := hsp
      exact end_ S6 fun s7 J7 => ⟨_, _, _, J7, r6, q6⟩
  · cases f with
    | next =>
      obtain ⟨σ', H', J', q⟩ := hsp
      exact wpAny_execs_nil ⟨σ', H', J'.ofTry ok, q⟩
    | brk =>
      obtain ⟨σ', H', J', q⟩ := hsp
      exact ⟨σ', H', J'.ofTry ok, q⟩
    | cont =>
      obtain ⟨σ', H', J', q⟩ := hsp
      exact ⟨σ', H', J'.ofTry ok, q⟩
    | ret u =>
      obtain ⟨v, σ', H', J', r, q⟩ := hsp
      exact ⟨v, σ', H', J'.ofTry ok, r, q⟩
end
end BR

/-! K36: raise, try around one call, isinstance of what is caught -/
namespace BR
open PySem PySem.Spec PyProof.Rows L2
/-! ### a call at known slots -/
section
variable {X : Cx} {k : Nat} {f : Addr} {fd : FuncData} {ps : List Str} {sp : Sp} {x : Str} {p pos : Pos} {e : Expr} {es : List Expr} {t : TA} {E : L2.St → XK}
theorem pe_callGS (F : FnG X.prog X.w X.K X.mg X.base k f fd ps sp) (hr : RoomG k X.A) (hg : Gl X x) (hm : X.mg x = some (.ref f)) (hk : PySem.W.keepIn X.K (.ref f) = true) (hb : Binds X.K fd ps []) (hx : ∀ σ, PassesAt (L2N.CX X.prog X.w) X σ (E σ))
    (ha : PA X (e :: es) t) (hdb : (x == ("__debug__" : Str)) = false) (he : starEach (e :: es) X.env = (false, eval e X.env) :: starEach es X.env) (hpl : (backTo pos (starEach es X.env)).any (·.1) = false) :
    PE X (.Call (.Name x p) (e :: es) [] pos) (tCallS sp E t) := by
  refine ⟨fun pins s σ H Q I h => ?_⟩
  refine wpAny_Call_Name_kw (ld_glob I hg hm (PySem.W.callWith_K (h₀ := X.base) I.ok.mod.kin hk (thn (ha.run pos pins s σ H _ I h) fun us s1 ⟨vs, H1, I1, rr, q⟩ => And.intro I1.kIn ?_) he hpl) hdb)
  have hl : (us ++ []).length = ps.length := by rw [List.append_nil]; exact rr.length.symm.trans (F.len _ _ _ _ q)
  have hb' := hb s1 us I1.kIn hl
  rw [List.append_nil] at hb'
  refine wpAny_call (codeAny_mono (F.run X.A X.stack s1 H1 ⟨us, []⟩ us vs Q (E σ) hr I1.env0 hb' rr q) fun res s' hq => ?_)
  match res, hq with
  | .error e, hq => exact hx σ pins H1 s1 e s' I1 hq
  | .ok (.ret u), hq => exact I1.after hq
  | .ok .next, hq => exact False.elim hq
  | .ok .brk, hq => exact False.elim hq
  | .ok .cont, hq => exact False.elim hq
end
/-- names as arguments -/
def tIs : List Nat → TA
  | [] => tNil
  | i :: is => tCons (tVar i) (tIs is)
def AN (δ : List Slot) : List Nat → List D → Prop
  | [], [] => True
  | i :: is, d :: ds => (∃ s, δ[i]? = some s ∧ s.rdp = some d) ∧ AN δ is ds
  | _, _ => False
theorem hide_nil {H : Hp} : hide H [] = H := funext fun a => if_neg (by simp)
/-! ### what is tried -/
def tryR {α S : Type} (cs : List Str) (m : Res α) (okf : α → S) (h : Str → List (Str × Option Int) → Res S) : Res S := match m with
  | .ok a => .ok (okf a)
  | .raise x => if x.cls ∈ cs then h x.cls x.fs else .bad
  | .bad => .bad
/-- what is known of the classes that may be caught by the class cv -/
def Catch (K : PySem.W.Frag) (mg : Str → Option Value) (cv : Value) (cs : List Str) : Prop := ∀ c, c ∈ cs → ∃ C, mg c = some (.ref C) ∧ ExcF K c C ∧ PySem.W.exmOne K (.ref C) cv = some true
section
variable {X : Cx} {en : Kn} {δ : List Slot} {R : Type} {m : Res R} {N : List Slot → Res R → Prop} {RT : Slot → List Slot → Res R → Prop} {BK CT : List Slot → Res R → Prop} {rest : List Stmt}
/-! ### raise -/
/-- what is known of a class of error that is raised -/
def Raise (K : PySem.W.Frag) (mg : Str → Option Value) (c : Str) : Prop := ∃ C, mg c = some (.ref C) ∧ PySem.W.excIn K C [.type "ValueError", .type "Exception", .type "BaseException", .type "object"] "ValueError.__new__" = true ∧ PySem.W.keepIn K (.ref C) = true ∧
  PySem.W.subIn K (.ref C) (.type "BaseException") = some true ∧ PySem.W.typeIn K (.ref C) = some (.type "type")
theorem js_raise {c msg : Str} {j : Nat} {p p2 pos pos' : Pos} (hc : X.calm = true) (hL : Lk X en) (hR : Raise X.K X.mg c) (em : m = .raise ⟨c, []⟩) (hg : Gl X c := by rfl) (hdb : (c == ("__debug__" : Str)) = false := by decide) :
    JS X en δ (.Raise (some (.Call (.Name c p) [.Constant (.str msg) j p2] [] pos')) none pos) N RT BK CT m := .mk fun hb hx σ G H E hl W k1 k2 k3 k4 => by
  obtain ⟨C, gC, xF, kF, bF, tF⟩ := hR
  obtain ⟨WW, tk, hW⟩ := hL
  refine ws_of (L2N.ps_raise hc tk (L2N.pmk_own PySem.F.excBase_ValueError xF gC kF (raises_own bF tF) hg hdb)) ?_
  rw [em] at hx
  exact hW _ hx _ _ σ H ⟨C, gC, rfl, .inl ⟨rfl, rfl⟩⟩ W.frm
end
/-! ### isinstance -/
/-- of what is caught -/
def isE (cs ts : List Str) : D → Option Bool
  | .exc c xf => if c ∈ cs then some (ts.any (subE c)) else none
  | _ => none
def KitF (K : PySem.W.Frag) (mg : Str → Option Value) (cs : List Str) (t : Str) : Prop := ∃ E, mg t = some (.ref E) ∧ ∀ c, c ∈ cs → ∀ C, PySem.W.nsIn K mainGlobals c = some (some (.ref C)) → PySem.W.kitOne K (.ref C) (.ref E) = some (subE c t)
def KitV (K : PySem.W.Frag) (cs : List Str) : Prop := ∀ c, c ∈ cs → ∀ C, PySem.W.nsIn K mainGlobals c = some (some (.ref C)) → PySem.W.kitOne K (.ref C) (.type "ValueError") = some true
/-- class names in a tuple -/
def NmE (X : Cx) : List Str → List Expr → Prop
  | [], [] => True
  | t :: ts, .Name x _ :: es => x = t ∧ Gl X t ∧ (t == ("__debug__" : Str)) = false ∧ NmE X ts es
  | _, _ => False
def tCs : List V → TA
  | [] => tNil
  | v :: vs => tCons (tC v) (tCs vs)
theorem tCs_run {σ : L2.St} {H : Hp} : ∀ {vs : List V} {Q : List V → Hp → Prop}, Q vs H → tCs vs σ H Q
  | [], _, h => h
  | v :: vs, Q, h => tCs_run (vs := vs) (Q := fun xs H2 => Q (v :: xs) H2) h
theorem pa_cls {X : Cx} {cs : List Str} : ∀ {ts : List Str} {es : List Expr}, NmE X ts es → (∀ t, t ∈ ts → KitF X.K X.mg cs t) → ∃ Es : List Addr, PA X es (tCs (Es.map V.ref)) ∧ Es.length = ts.length ∧ Paired ClsV (Es.map V.ref) (Es.map Value.ref) ∧
    ∀ c, c ∈ cs → ∀ C, PySem.W.nsIn X.K mainGlobals c = some (some (.ref C)) → PySem.W.kitAny X.K (.ref C) (Es.map Value.ref) = some (ts.any (subE c))
  | [], [], _, _ => ⟨[], pa_nil, rfl, .nil, fun _ _ _ _ => rfl⟩
  | t :: ts, .Name x p :: es, ⟨e1, hg, hd, h⟩, hk => by
    subst e1
    obtain ⟨E, mE, kE⟩ := hk x List.mem_cons_self
    obtain ⟨Es, h1, h2, h3, h4⟩ := pa_cls h fun t ht => hk t (List.mem_cons_of_mem _ ht)
    refine ⟨E :: Es, pa_cons (pe_glob (v := .ref E) hg mE rfl hd) h1 (by exact star_plain rfl), by simp [h2], .cons (.own E) h3, fun c hc C e => ?_⟩
    have k1 := kE c hc C e
    have k2 := h4 c hc C e
    rw [List.any_cons]
    show PySem.W.kitAny X.K (.ref C) (.ref E :: Es.map Value.ref) = _
    cases hb : subE c x with
    | true => exact kitAny_cons (by rw [k1, hb]) (fun z => by cases z) (fun _ => by simp)
    | false => exact kitAny_cons (by rw [k1, hb]) (fun _ => by rw [k2]; simp) (fun z => by cases z)
  | [], _ :: _, h, _ => h.elim
  | _ :: _, [], h, _ => h.elim
section
variable {X : Cx} {en : Kn} {δ τ : List Slot} {R : Type} {C : Slot → List Slot → Res R → Prop} {m : Res R}
theorem isE_some {cs ts : List Str} {d : D} {b : Bool} (h : isE cs ts d = some b) : ∃ c xf, d = .exc c xf ∧ c ∈ cs ∧ b = ts.any (subE c) := by
  cases d <;> first | cases h | skip
  rename_i c xf
  have h' : (if c ∈ cs then some (ts.any (subE c)) else none) = some b := h
  split at h'
  · rename_i z
    exact ⟨c, xf, rfl, z, (Option.some.inj h').symm⟩
  · cases h'
/-- isinstance(e, T), T a class of the program -/
theorem je_isE {cs : List Str} {t : Str} {e : Expr} {p p2 pos : Pos} (hm : X.mg "isinstance" = none) (hk : KitF X.K X.mg cs t)
    (h : JE X en δ τ e (fun s1 δ1 m1 => ∃ d k, s1.rd δ1 = some d ∧ m1 = op (isE cs [t] d) k ∧ ∀ b, C (.fr (.bl b)) δ1 (k b)) m) (hg : Gl X "isinstance" := by rfl) (hgT : Gl X t := by rfl) (hdb : (t == ("__debug__" : Str)) = false := by decide)
    (he : starEach [e, .Name t p2] X.env = (false, eval e X.env) :: starEach [.Name t p2] X.env := by rfl) (hpl : (backTo pos (starEach [.Name t p2] X.env)).any (·.1) = false := by rfl) :
    JE X en δ τ (.Call (.Name "isinstance" p) [e, .Name t p2] [] pos) C m := .mk fun hb hx σ ts G H T' hl hσ W k => by
  obtain ⟨E, mE, kE⟩ := hk
  refine we_of (pe_callB call_isX hg hm (by decide +kernel) (pa_cons pe_we (pa_cons (pe_glob (v := .ref E) hgT mE rfl hdb) pa_nil) he) (by decide) (by decide) he hpl) ?_
  have ht : τ.length = ts.length := W.splitLen (hl.trans hσ.symm)
  refine h.run hb hx σ ts G H _ hl hσ W fun s1 δ1 v1 G1 H1 c1 hl1 W1 => ?_
  obtain ⟨d, k', e1, em, c⟩ := c1
  have hb' := hb
  rw [em] at hb'
  obtain ⟨b, eb⟩ := op_some hb'
  have em' : m = k' b := by rw [em, eb]; rfl
  have cb := c b
  rw [← em'] at cb
  obtain ⟨cn, xf, rfl, hcs, rfl⟩ := isE_some eb
  obtain ⟨⟨_, _, ez, r1, _⟩, Wn⟩ := Wd.ends (sls := [s1]) (vs := [v1]) W1 (hl1.trans hσ.symm) ht (ds := [.exc cn xf]) (by simp only [rds, e1])
  cases ez
  obtain ⟨a, Ca, rfl, F, ea⟩ := r1
  exact ⟨a, Ca, xf, .ref E, .ref E, _, rfl, .own E, F.cl, ea.sub W1.sub (Sub.refl _), by rw [kE cn hcs Ca F.at_, List.any_cons, List.any_nil, Bool.or_false], k _ δ1 _ G1 H1 cb hl1 ((Wn (by omega)).out (Grow.refl W1.sub) (show Rep _ _ _ _ from rfl))⟩
/-- isinstance(e, ValueError) -/
theorem je_isEV {cs : List Str} {e : Expr} {p p2 pos : Pos} (hm : X.mg "isinstance" = none) (hmT : X.mg "ValueError" = none) (hk : KitV X.K cs)
    (h : JE X en δ τ e (fun s1 δ1 m1 => ∃ d k, s1.rd δ1 = some d ∧ m1 = op (isE cs ["ValueError"] d) k ∧ ∀ b, C (.fr (.bl b)) δ1 (k b)) m) (hg : Gl X "isinstance" := by rfl) (hgT : Gl X "ValueError" := by rfl)
    (he : starEach [e, .Name "ValueError" p2] X.env = (false, eval e X.env) :: starEach [.Name "ValueError" p2] X.env := by rfl) (hpl : (backTo pos (starEach [.Name "ValueError" p2] X.env)).any (·.1) = false := by rfl) :
    JE X en δ τ (.Call (.Name "isinstance" p) [e, .Name "ValueError" p2] [] pos) C m := .mk fun hb hx σ ts G H T' hl hσ W k => by
  refine we_of (pe_callB call_isX hg hm (by decide +kernel) (pa_cons pe_we (pa_cons (pe_bltn (v := .ty "ValueError") hgT hmT (by decide +kernel) rfl (by decide) (by decide)) pa_nil) he) (by decide) (by decide) he hpl) ?_
  have ht : τ.length = ts.length := W.splitLen (hl.trans hσ.symm)
  refine h.run hb hx σ ts G H _ hl hσ W fun s1 δ1 v1 G1 H1 c1 hl1 W1 => ?_
  obtain ⟨d, k', e1, em, c⟩ := c1
  have hb' := hb
  rw [em] at hb'
  obtain ⟨b, eb⟩ := op_some hb'
  have em' : m = k' b := by rw [em, eb]; rfl
  have cb := c b
  rw [← em'] at cb
  obtain ⟨cn, xf, rfl, hcs, rfl⟩ := isE_some eb
  obtain ⟨⟨_, _, ez, r1, _⟩, Wn⟩ := Wd.ends (sls := [s1]) (vs := [v1]) W1 (hl1.trans hσ.symm) ht (ds := [.exc cn xf]) (by simp only [rds, e1])
  cases ez
  obtain ⟨a, Ca, rfl, F, ea⟩ := r1
  have eT : [("ValueError" : Str)].any (subE cn) = true := by simp [subE]
  exact ⟨a, Ca, xf, .ty "ValueError", .type "ValueError", _, rfl, .ty _, F.cl, ea.sub W1.sub (Sub.refl _), by rw [hk cn hcs Ca F.at_, eT], k _ δ1 _ G1 H1 cb hl1 ((Wn (by omega)).out (Grow.refl W1.sub) (show Rep _ _ _ _ from rfl))⟩
/-- isinstance(e, (A, B, ..)) -/
theorem je_isET {cs nts : List Str} {e : Expr} {tes : List Expr} {p p4 pos : Pos} {kk} (hm : X.mg "isinstance" = none) (hk : ∀ t, t ∈ nts → KitF X.K X.mg cs t) (hne : NmE X nts tes) (hsz : nts.length ≤ 100)
    (h : JE X en δ τ e (fun s1 δ1 m1 => ∃ d k, s1.rd δ1 = some d ∧ m1 = op (isE cs nts d) k ∧ ∀ b, C (.fr (.bl b)) δ1 (k b)) m) (hg : Gl X "isinstance" := by rfl)
    (he : starEach [e, .Tuple tes kk p4] X.env = (false, eval e X.env) :: starEach [.Tuple tes kk p4] X.env := by rfl) (hpl : (backTo pos (starEach [.Tuple tes kk p4] X.env)).any (·.1) = false := by rfl) :
    JE X en δ τ (.Call (.Name "isinstance" p) [e, .Tuple tes kk p4] [] pos) C m := .mk fun hb hx σ ts G H T' hl hσ W k => by
  obtain ⟨Es, hpa, hlen, hpr, hkit⟩ := pa_cls hne hk
  refine we_of (pe_callB call_isXT hg hm (by decide +kernel) (pa_cons pe_we (pa_cons (pe_tup hpa) pa_nil) he) (by decide) (by decide) he hpl) ?_
  have ht : τ.length = ts.length := W.splitLen (hl.trans hσ.symm)
  refine h.run hb hx σ ts G H _ hl hσ W fun s1 δ1 v1 G1 H1 c1 hl1 W1 => ?_
  obtain ⟨d, k', e1, em, c⟩ := c1
  have hb' := hb
  rw [em] at hb'
  obtain ⟨b, eb⟩ := op_some hb'
  have em' : m = k' b := by rw [em, eb]; rfl
  have cb := c b
  rw [← em'] at cb
  obtain ⟨cn, xf, rfl, hcs, rfl⟩ := isE_some eb
  obtain ⟨⟨_, _, ez, r1, _⟩, Wn⟩ := Wd.ends (sls := [s1]) (vs := [v1]) W1 (hl1.trans hσ.symm) ht (ds := [.exc cn xf]) (by simp only [rds, e1])
  cases ez
  refine tCs_run ⟨by rw [List.length_map, hlen]; exact Nat.le_trans hsz (by decide), fun tp hp => ?_⟩
  obtain ⟨a, Ca, rfl, F, ea⟩ := r1
  have fin : T' (.bl (nts.any (subE cn))) (upd H1 tp (.tup (Es.map V.ref))) := k _ δ1 _ G1 _ cb hl1 ((Wn (by omega)).out (Grow.laid W1.sub hp) (show Rep _ _ _ _ from rfl))
  exact ⟨a, Ca, xf, tp, _, _, _, rfl, upd_same, hpr, F.cl, ea.sub (W1.sub.trans (Sub.upd hp)) (Sub.upd hp), hkit cn hcs Ca F.at_, fin⟩
end
theorem fm_c {P : Str → Prop} {a : Str} {l : List Str} (h : P a) (g : ∀ t, t ∈ l → P t) : ∀ t, t ∈ a :: l → P t := fun t ht => (List.mem_cons.mp ht).elim (fun e => e ▸ h) (g t)
theorem fm_n {P : Str → Prop} : ∀ t, t ∈ ([] : List Str) → P t := fun _ h => nomatch h
theorem kit_at {K : PySem.W.Frag} {c t : Str} {C0 C : Addr} {u : Value} {b : Bool} (a0 : PySem.W.nsIn K mainGlobals c = some (some (.ref C0))) (h : PySem.W.kitOne K (.ref C0) u = some b) (hb : subE c t = b) (e : PySem.W.nsIn K mainGlobals c = some (some (.ref C))) : PySem.W.kitOne K (.ref C) u = some (subE c t) := by
  rw [a0] at e
  cases e
  rw [h, hb]
theorem kit_at' {K : PySem.W.Frag} {c : Str} {C0 C : Addr} {u : Value} {b : Bool} (a0 : PySem.W.nsIn K mainGlobals c = some (some (.ref C0))) (h : PySem.W.kitOne K (.ref C0) u = some b) (e : PySem.W.nsIn K mainGlobals c = some (some (.ref C))) : PySem.W.kitOne K (.ref C) u = some b := by
  rw [a0] at e
  cases e
  exact h
theorem excF_mk {K : PySem.W.Frag} {c : Str} {C : Addr} (a0 : PySem.W.nsIn K mainGlobals c = some (some (.ref C))) (cl : L2.ExcC K C) (t1 : PySem.W.kitOne K (.ref C) (.type "int") = some false) (t2 : PySem.W.kitOne K (.ref C) (.type "bool") = some false) (t3 : PySem.W.kitOne K (.ref C) (.type "str") = some false)
    (t4 : PySem.W.kitOne K (.ref C) (.type "tuple") = some false) (t5 : PySem.W.kitOne K (.ref C) (.type "list") = some false) (t6 : PySem.W.kitOne K (.ref C) (.type "dict") = some false) : ExcF K c C := ⟨a0, cl, fun T hT => by
  simp only [List.mem_cons, List.not_mem_nil, or_false] at hT
  rcases hT with rfl | rfl | rfl | rfl | rfl | rfl
  · exact t1
  · exact t2
  · exact t3
  · exact t4
  · exact t5
  · exact t6⟩
/-! ### the first place of a truth -/
def indexD : List D → Option D
  | [.lst ds, .bl k] => (bls ds).bind fun bs => (bs.findIdx? fun b => b == k).map fun j => .int (j : Nat)
  | _ => none
end BR

/-! K37: try around a body of choices between calls -/
namespace BR
open PySem PySem.Spec PyProof.Rows L2
/-- never an error -/
def NR {α : Type} (m : Res α) : Prop := ∀ x, m ≠ .raise x
theorem nr_ok {α : Type} {a : α} : NR (.ok a) := fun _ z => nomatch z
theorem nr_op {α β : Type} {o : Option α} {k : α → Res β} (h : ∀ a, NR (k a)) : NR (op o k) := fun x z => by
  cases o with
  | none => cases z
  | some a => exact h a x z
theorem nr_ite {α : Type} {b : Bool} {p q : Res α} (h1 : NR p) (h2 : NR q) : NR (if b = true then p else q) := by
  split
  · exact h1
  · exact h2
theorem nr_bind {α β : Type} {m : Res α} {k : α → Res β} (h : NR m) (hk : ∀ a, NR (k a)) : NR (m.bind k) := fun x z => by
  cases m with
  | ok a => exact hk a x z
  | raise y => exact h y rfl
  | bad => cases z
/-- names as arguments, read or standing fast -/
def AK (δ : List Slot) : List Kd → List Nat → List D → Prop
  | [], [], [] => True
  | .b :: ks, i :: is, d :: ds => (∃ s, δ[i]? = some s ∧ s.rdp = some d) ∧ AK δ ks is ds
  | .f :: ks, i :: is, d :: ds => δ[i]? = some (.fr d) ∧ AK δ ks is ds
  | _, _, _ => False
/-- a body that is tried -/
structure JB (X : Cx) (en : Kn) (δ : List Slot) (body : List Stmt) {S : Type} (pB : S → List Slot) (m : Res S) : Prop where
  run : m ≠ .bad → ∀ (WW : WX) (pn : List (Addr × Obj)) (xe : Value → Shared → Prop), L2N.Takes (X.tr pn xe) WW → ∀ (σ : L2.St) (G H : Hp) (E : Ends), δ.length = en.n → Wd X.K en δ σ G H →
    (∀ a, m = .ok a → ∀ σ' G' H', (pB a).length = en.n → Wd X.K en (pB a) σ' G' H' → E.nx σ' H') →
    (∀ x, m = .raise x → ∀ cls d G' H', ExcOk X.mg en.F0 en.ps x cls d H' → Wd X.K en δ σ G' H' → WW cls d σ H') → WSs (X.tr pn xe) body E σ H
section
variable {X : Cx} {en : Kn} {δ : List Slot} {R : Type} {m : Res R} {N : List Slot → Res R → Prop} {RT : Slot → List Slot → Res R → Prop} {BK CT : List Slot → Res R → Prop} {rest : List Stmt}
/-- try: body / except x as n: suite -/
theorem js_tryB {x n : Str} {np pos pos' : Pos} {S : Type} {cs : List Str} {h : Str → List (Str × Option Int) → Res S} {kk : S → Res R} {mb : Res S}
    {body : List Stmt} {b₀ : Stmt} {suite : List Stmt} (i : Nat) (pJ : S → List Slot)
    (hs : X.stack = X.env :: X.outer) (hf : X.env.frame = some X.env.locals) (hN : X.N.Nodup) (hi : X.N[i]? = some n) (hln : X.env.kindOf n = some .local)
    (hB : ∃ B, X.mg x = some (.ref B) ∧ Catch X.K X.mg (.ref B) cs) (hin : δ[i]? = some .un) (hnb : noBo δ = true)
    (hbody : JB X en δ body pJ mb) (em : m = (tryR cs mb (fun a => a) h).bind kk)
    (hsu : ∀ c, c ∈ cs → ∀ (xf : List (Str × Option Int)) (a : Addr) (pn : List (Addr × Obj)), JSs (X.suite a pn) en (δ.set i (.fr (.exc c xf))) (b₀ :: suite) (fun δ' m' => ∃ s, m' = .ok s ∧ Le (δ'.set i .un) (pJ s) ∧ noBo δ' = true) (fun _ _ _ => False) (fun _ _ => False) (fun _ _ => False) (h c xf))
    (hrest : ∀ s, JSs X en (pJ s) rest N RT BK CT (kk s))
    (hgx : Gl X x := by rfl) (hdx : (x == ("__debug__" : Str)) = false := by decide) :
    JSs X en δ (.Try body [.ExceptHandler (some (.Name x np)) (some n) (b₀ :: suite) pos'] [] [] pos :: rest) N RT BK CT m := .mk fun hb hx σ G H E hl W k1 k2 k3 k4 => by
  obtain ⟨B, mB, hE⟩ := hB
  have hc : Names X x (.ref B) := ⟨hgx, hdx, .inl mB⟩
  have hσ := W.sl hl
  have hb' := hb
  have hx' := hx
  rw [em] at hb' hx'
  obtain ⟨hb1, hx1⟩ := bind_exc hb' hx'
  refine wss_of (pss_cons (ps_try_kept (c := .ref B) (i := i) (tb := fun WW E σ H => ∀ (pn : List (Addr × Obj)) (xe : Value → Shared → Prop), L2N.Takes (X.tr pn xe) WW → WSs (X.tr pn xe) body E σ H) (ts := fun a E σ H => ∀ pn, WSs (X.suite a pn) (b₀ :: suite) E σ H) hs hf hN hi hln hc
    (fun WW pn xe tk _ => ⟨fun pins s σ H D I hh => pss_wss.run pins s σ H D I (hh pn xe tk)⟩)
    (fun a pn => ⟨fun pins s σ H D I h => pss_wss.run pins s σ H D I (h pn)⟩)) pss_wss) ?_
  intro pn xe tk
  refine hbody.run (fun z => by rw [z] at hb1; exact hb1 rfl) _ pn xe tk σ G H _ hl W (fun a ea σ' G' H' hl2 W2 => ?_) fun x0 ex cls d G' H' eo W1 => ?_
  · have e1 : (tryR cs mb (fun a => a) h).bind kk = kk a := by rw [ea]; rfl
    have hrs := hrest a
    rw [← e1, ← em] at hrs
    exact hrs.run hb hx σ' G' H' E hl2 W2 k1 k2 k3 k4
  · have hcs : x0.cls ∈ cs := by
      refine Decidable.byContradiction fun z => hb1 ?_
      rw [ex]
      exact if_neg z
    have e0 : tryR cs mb (fun a => a) h = h x0.cls x0.fs := by rw [ex]; exact if_pos hcs
    rw [e0] at hb1 hx1
    obtain ⟨C, gC, FC, hexm⟩ := hE x0.cls hcs
    have ecls : cls = .ref C := by
      obtain ⟨C', gC', z, _⟩ := eo
      rw [gC] at gC'
      rw [z]
      exact (Option.some.inj gC').symm
    refine ⟨by rw [ecls]; exact hexm, fun a oe vs' na hz hv pn => ?_⟩
    obtain ⟨_, G5, sG5, aG5, W2⟩ := W1.caught eo gC FC na hz hv
    have W3 := W2.give (hl.trans hσ.symm) hnb rfl i
    refine ((hsu x0.cls hcs x0.fs a pn).run hb1 hx1 (σ.set i (some (.ref a))) _ _ _ (by rw [List.length_set]; exact hl) W3 (fun δ' σ' G2 H2 c2 hl2 WW => ?_) (fun _ _ _ _ _ _ z => z.elim) (fun _ _ _ _ z => z.elim) fun _ _ _ _ z => z.elim)
    obtain ⟨s, es', hle, hnb2⟩ := c2
    have W4 := WW.blank hnb2 i none
    have e1 : (tryR cs mb (fun a => a) h).bind kk = kk s := by rw [e0, es']; rfl
    have hrs := hrest s
    rw [← e1, ← em] at hrs
    exact hrs.run hb hx _ G2 H2 E (by rw [← hle.len, List.length_set]; exact hl2) (W4.le hle) k1 k2 k3 k4
end
end BR

/-! K38: a list said over, as an own new one -/
namespace BR
open PySem PySem.Spec PyProof.Rows L2
def mulT (a b : D) : Option (List D) := match a, b with
  | .lst xs, .int k => if -(2 ^ 63) ≤ k ∧ k < 2 ^ 63 ∧ xs.length * k.toNat ≤ sizeLine then some (repD xs k) else none
  | _, _ => none
section
variable {X : Cx} {en : Kn} {δ τ : List Slot} {R : Type} {C : Slot → List Slot → Res R → Prop} {m : Res R}
end
end BR

/-! K39: an expression that only reads: what is this def's own is read like the caller's, and is as it was behind it -/
namespace BR
open PySem PySem.Spec PyProof.Rows L2
def Slot.shd : Slot → Slot
  | .fr d => .fr d
  | .bw d => .bw d
  | .mu d => .bw d
  | .mp _ d => .bw d
  | _ => .un
def Kn.shl (en : Kn) (G H : Hp) : Kn := { en with G0 := G, F0 := H, ps := [] }
structure KnSh (X : Cx) (en en' : Kn) : Prop where
  n : en'.n = en.n
  lk : Lk X en → Lk X en'
section
variable {X : Cx} {en : Kn} {δ τ : List Slot} {R : Type} {C : Slot → List Slot → Res R → Prop} {m : Res R}
end
end BR

/-! K40: [.. for a, b in d.items() ..] over a dict that is read alone, its things and what else is read being plain ones -/
namespace BR
open PySem PySem.Spec PyProof.Rows L2
/-- a thing that lies in no heap -/
def sclD : D → Bool
  | .non => true
  | .bl _ => true
  | .int _ => true
  | .str _ => true
  | _ => false
theorem sclD.rep {K : PySem.W.Frag} {G G' : Hp} {d : D} {v : V} (h : sclD d = true) (r : Rep K G d v) : Rep K G' d v := by
  cases d <;> first | exact r | cases h
theorem sclD.brep {K : PySem.W.Frag} {G F G' : Hp} {d : D} {v : V} (h : sclD d = true) (r : BRep K G F d v) : Rep K G' d v := by
  obtain ⟨⟨M, _, r⟩, _⟩ := r
  cases d <;> first | exact r | cases h
def kD : Key → D
  | .inl i => .int i
  | .inr s => .str s
def itmD (d : D) (ns : List D) : Option (List D) := match d with
  | .dic kvs => if (kvs.all fun p => sclD p.2) = true ∧ ns.all sclD = true then some (kvs.map fun p => .tup [kD p.1, p.2]) else none
  | _ => none
/-- the names that are read within -/
def PS : List Slot → List Slot → List D → Prop
  | [], [], _ => True
  | s :: r, t :: q, ns => (t = .un ∨ ∃ d, t = .fr d ∧ s.rdp = some d ∧ d ∈ ns) ∧ PS r q ns
  | _, _, _ => False
theorem PS.len : ∀ {δ δ2 : List Slot} {ns : List D}, PS δ δ2 ns → δ2.length = δ.length
  | [], [], _, _ => rfl
  | _ :: _, _ :: _, _, h => by rw [List.length_cons, List.length_cons, PS.len h.2]
  | [], _ :: _, _, h => h.elim
  | _ :: _, [], _, h => h.elim
theorem PS.at : ∀ {δ δ2 : List Slot} {ns : List D} {i : Nat} {t : Slot}, PS δ δ2 ns → δ2[i]? = some t → t = .un ∨ ∃ d s, t = .fr d ∧ δ[i]? = some s ∧ s.rdp = some d ∧ d ∈ ns
  | [], [], _, _, _, _, e => by simp at e
  | s :: r, t :: q, ns, 0, t', h, e => by
    have : t = t' := by simpa using e
    subst this
    rcases h.1 with z | ⟨d, z1, z2, z3⟩
    · exact .inl z
    · exact .inr ⟨d, s, z1, rfl, z2, z3⟩
  | s :: r, t :: q, ns, i + 1, t', h, e => by
    rcases PS.at (i := i) h.2 (by simpa using e) with z | ⟨d, s', z1, z2, z3, z4⟩
    · exact .inl z
    · exact .inr ⟨d, s', z1, by simpa using z2, z3, z4⟩
  | [], _ :: _, _, _, _, h, _ => h.elim
  | _ :: _, [], _, _, _, h, _ => h.elim
def Kn.sole (en : Kn) (H : Hp) : Kn := { en with G0 := fun _ => none, F0 := H, ps := [] }
theorem Wd.sole {K : PySem.W.Frag} {en : Kn} {δ δ2 : List Slot} {σ : L2.St} {G H H1 : Hp} {ns : List D} (W : Wd K en δ σ G H) (hp : PS δ δ2 ns) (hs : ns.all sclD = true) : Wd K (en.sole H1) δ2 σ (fun _ => none) H1 where
  len := hp.len.trans W.len
  sub := fun a o e => by cases e
  ext := Sub.refl _
  new := fun a o e => by cases e
  frm := Sub.refl _
  stay := fun a h => by cases h
  nd := List.nodup_nil
  slot := fun i sl o h1 h2 => by
    rcases hp.at h1 with rfl | ⟨d, s, rfl, h3, h4, h5⟩
    · trivial
    · obtain ⟨o', h6, h7⟩ := W.at h3
      rw [h2] at h6; cases h6
      obtain ⟨v, e, r⟩ := SlotOk.bread W.sub W.frm h7 h4
      exact ⟨v, e, sclD.brep (List.all_eq_true.mp hs d h5) r⟩
  apart := fun i j p h1 h2 => by
    obtain ⟨sl, e1, e2, e3⟩ := h1
    rcases hp.at e1 with rfl | ⟨d, s, rfl, _, _, _⟩ <;> cases e2
section
variable {X : Cx} {en : Kn} {δ τ : List Slot} {R : Type} {C : Slot → List Slot → Res R → Prop} {m : Res R}
end
end BR

/-! K41: dict(a list of pairs) -/
namespace BR
open PySem PySem.Spec PyProof.Rows L2
def prsD : List D → Option (List (Key × D))
  | [] => some []
  | .tup [a, b] :: r => match keyD a, prsD r with
    | some k, some q => some ((k, b) :: q)
    | _, _ => none
  | _ => none
def dctT : List D → Option (List (Key × D))
  | [.lst ds] => (prsD ds).map fun q => mergeD [] q
  | _ => none
def kM {R : Type} (k : List (Key × D) → Res R) : D → Res R
  | .dic q => k q
  | _ => .bad
section
variable {X : Cx} {en : Kn} {δ τ : List Slot} {R : Type} {C : Slot → List Slot → Res R → Prop} {m : Res R}
end
end BR

/-! K42: beside a told thing that is to be changed: other things told, and a choice that goes on -/
namespace BR
open PySem PySem.Spec PyProof.Rows L2
section
variable {X : Cx} {en : Kn} {R : Type} {δ : List Slot} {N : List Slot → Res R → Prop} {RT : Slot → List Slot → Res R → Prop} {BK CT : List Slot → Res R → Prop} {m : Res R} {pos : Pos}
/-- what is tracked but for what was told -/
def beside (H H0 H2 : Hp) : Hp := fun a => match H a with
  | none => H2 a
  | some _ => H0 a
/-- what was told is let be -/
theorem jx_drop {i : Nat} {d : D} {sts : List Stmt} (h : JSs X en δ sts N RT BK CT m) : JX X en δ i d sts N RT BK CT m := .mk fun hb hx σ G H0 H G1 E v hl hv W s0 s1 new r k1 k2 k3 k4 =>
  h.run hb hx σ G H E hl (W.grow (Grow.more W.sub s0)) k1 k2 k3 k4
/-- if c: A, behind which it goes on -/
theorem jx_ifN {i : Nat} {d : D} {c : Expr} {A rest : List Stmt} {δT : List Slot} (hT : (δ.map Slot.tv).set i (.fr d) = δT)
    (h : ∀ en', KnP en en' → JT X en' δT [] c (fun t _ m1 => ∃ mA mB, m1 = (if t = true then mA else mB) ∧ JX X en δ i d A (fun δ' m' => JSs X en δ' rest N RT BK CT m') RT BK CT mA ∧ JX X en δ i d rest N RT BK CT mB) m) : JX X en δ i d (.If c A [] pos :: rest) N RT BK CT m := .mk fun hb hx σ G H0 H G1 E v hl hv W s0 s1 new r k1 k2 k3 k4 => by
  have WT := W.test (d := d) hv s0 s1 r
  rw [hT] at WT
  have hlT : δT.length = en.n := by rw [← hT, List.length_set, List.length_map]; exact hl
  refine wss_of (pss_cons ps_ws pss_wss) (ws_of (ps_if pt_wt pss_wss pss_wss) (JT.at (h (en.pure (uni G G1) H) (W.knP s0)) hb hx hlT WT fun t δ1 G2 H2 ⟨mA, mB, em, h1, h2⟩ hl1 W1 => ?_))
  have sH : Sub H0 H2 := s0.trans W1.frm
  cases t with
  | true =>
    have e : m = mA := em
    subst e
    exact iteT (h1.run hb hx σ G H0 H2 G1 _ v hl hv W sH (s1.trans W1.frm) new r (fun δ' σ' G' H' c hl' W' => c.run hb hx σ' G' H' E hl' W' k1 k2 k3 k4) k2 k3 k4)
  | false =>
    have e : m = mB := em
    subst e
    exact iteF (wss_of pss_nil (h2.run hb hx σ G H0 H2 G1 E v hl hv W sH (s1.trans W1.frm) new r k1 k2 k3 k4))
end
end BR

/-! K43: a op b op c as a test -/
namespace BR
open PySem PySem.Spec PyProof.Rows L2
section
variable {X : Cx} {en : Kn} {R : Type} {δ τ : List Slot} {m : Res R} {pos : Pos}
end
end BR

/-! K44: x in a list of lists; the sum of a tuple of ints -/
namespace BR
open PySem PySem.Spec PyProof.Rows L2
def inLD (a b : D) : Option Bool := match b with
  | .lst ds => if SeqAt.shaped (toP a) = true ∧ SeqAt.shaped (toP (.lst ds)) = true then some ((toPs ds).any fun z => PyData.eqv z (toP a)) else none
  | _ => none
section
variable {X : Cx}
def sumX : List D → Option D
  | [.lst ds] => (intsD ds).map fun ns => .int ns.sum
  | [.tup ds] => (intsD ds).map fun ns => .int ns.sum
  | _ => none
end
end BR

/-! K45: max of three; or by truth; a fresh list given to be changed; own lists read as if they stood fast; walks over a display of own lists -/
namespace BR
open PySem PySem.Spec PyProof.Rows L2
section
variable {X : Cx} {en : Kn} {δ τ : List Slot} {R : Type} {C : Slot → List Slot → Res R → Prop} {m : Res R}
/-! ### max of three -/
def max3D : List D → Option D
  | [.int a, .int b, .int c] => some (.int (if c > (if b > a then b else a) then c else (if b > a then b else a)))
  | _ => none
/-! ### or by truth -/
/-! ### a fresh list given to be changed -/
end
/-! ### own lists read as if they stood fast; the answer is a plain one -/
def scT : D → Option Unit
  | .non => some ()
  | .bl _ => some ()
  | .int _ => some ()
  | .str _ => some ()
  | _ => none
def Slot.thw : Slot → Slot
  | .fr d => .fr d
  | .bw d => .fr d
  | .mu d => .fr d
  | .mp _ d => .fr d
  | _ => .un
def Slot.top : Slot → Bool
  | .bw _ => true
  | .mu _ => true
  | .mp _ _ => true
  | _ => false
/-- a thing's top, an instance's dict and its own lists -/
def Rch (H : Hp) (b a : Addr) : Prop := a = b ∨ ∃ C dx vs, H b = some (.ins C dx vs) ∧ (a = dx ∨ ∃ f, (f, V.ref a) ∈ vs)
open Classical in
/-- what stands fast, and the tops of all names' things -/
noncomputable def thwG (δ : List Slot) (σ : L2.St) (G H : Hp) : Hp := fun a => if ∃ (i : Nat) (sl : Slot) (b : Addr), δ[i]? = some sl ∧ sl.top = true ∧ σ[i]? = some (some (V.ref b)) ∧ Rch H b a then H a else G a
noncomputable def Kn.thw (en : Kn) (δ : List Slot) (σ : L2.St) (G H : Hp) : Kn := { en with G0 := thwG δ σ G H, F0 := H, ps := [] }
section
variable {K : PySem.W.Frag} {en : Kn} {δ : List Slot} {σ : L2.St} {G H : Hp}
theorem MRep.thw {G2 : Hp} (sg : Sub G G2) : ∀ {d : D} {p : Addr}, MRep K G H d p → G2 p = H p → Rep K G2 d (.ref p)
  | .lst ds, p, h, k => by obtain ⟨vs, e, r⟩ := h; exact ⟨p, vs, rfl, by rw [k]; exact e, Reps.sub sg _ _ r⟩
  | .dic ds, p, h, k => by obtain ⟨vs, e, r⟩ := h; exact ⟨p, vs, rfl, by rw [k]; exact e, RepKs.sub sg _ _ r⟩
  | .non, _, h, _ => h.elim
  | .bl _, _, h, _ => h.elim
  | .int _, _, h, _ => h.elim
  | .str _, _, h, _ => h.elim
  | .tup _, _, h, _ => h.elim
  | .scr _, _, h, _ => h.elim
  | .exc _ _, _, h, _ => h.elim
  | .obj _ _, _, h, _ => h.elim
end
section
variable {X : Cx} {en : Kn} {δ τ : List Slot} {R : Type} {C : Slot → List Slot → Res R → Prop} {m : Res R}
end
/-! ### a display of lists that are read alone, walked -/
def bws : List Slot → Option (List D)
  | [] => some []
  | .bw d :: r => (bws r).map (d :: ·)
  | _ :: _ => none
def BReps (K : PySem.W.Frag) (G F : Hp) : List D → List V → Prop
  | [], vs => vs = []
  | d :: ds, vs => ∃ v r, vs = v :: r ∧ BRep K G F d v ∧ BReps K G F ds r
section
variable {K : PySem.W.Frag} {en : Kn} {G G' H F : Hp}
theorem BReps.len : ∀ {ds : List D} {vs : List V}, BReps K G F ds vs → ds.length = vs.length
  | [], _, h => by rw [show _ = [] from h]; rfl
  | d :: ds, _, h => by
    obtain ⟨v, r, e, _, h2⟩ := h
    rw [e, List.length_cons, List.length_cons, BReps.len h2]
theorem BReps.get : ∀ {ds : List D} {vs : List V} {i : Nat} {d : D}, BReps K G F ds vs → ds[i]? = some d → ∃ v, vs[i]? = some v ∧ BRep K G F d v
  | [], _, _, _, _, e => by simp at e
  | d :: ds, _, 0, _, h, e => by
    obtain ⟨v, r, e', h1, _⟩ := h
    subst e'
    simp at e; subst e
    exact ⟨v, rfl, h1⟩
  | d :: ds, _, i + 1, _, h, e => by
    obtain ⟨v, r, e', _, h2⟩ := h
    subst e'
    obtain ⟨u, h3, h4⟩ := BReps.get (i := i) h2 (by simpa using e)
    exact ⟨u, by simpa using h3, h4⟩
end
section
variable {X : Cx} {en : Kn} {δ τ : List Slot} {R : Type} {C : Slot → List Slot → Res R → Prop} {m : Res R}
def ItB (K : PySem.W.Frag) (J : It) (Gb Fb : Hp) (ds : List D) : Prop := ∀ (G H : Hp), Sub Gb G → Sub Fb H → Sub G H → ∀ i : Nat,
  (∀ d, ds[i]? = some d → J.go i H ∧ ∀ x H', J.yld i H x H' → ∃ G', Grow G H G' H' ∧ BRep K G' Fb d x) ∧ (ds.length ≤ i → J.stop i H)
structure JIb (X : Cx) (en : Kn) (δ τ : List Slot) (tg iter : Expr) {R : Type} (C : List D → List Slot → Res R → Prop) (m : Res R) : Prop where
  run : m ≠ .bad → en.HX m.exc → ∀ (σ ts : L2.St) (G H : Hp) (T : It → Hp → Prop), δ.length = en.n → σ.length = en.n → Wd X.K en (δ ++ τ) (σ ++ ts) G H →
    (∀ ds δ' J G' H', C ds δ' m → δ'.length = en.n → Wd X.K en (δ' ++ τ) (σ ++ ts) G' H' → ItB X.K J G' en.F0 ds → T J H') → WI X tg iter σ H T
theorem BReps.sub {K : PySem.W.Frag} {G G' F F' : Hp} (g : Sub G G') (f : Sub F F') : ∀ {ds : List D} {vs : List V}, BReps K G F ds vs → BReps K G' F' ds vs
  | [], _, h => h
  | _ :: _, _, h => by
    obtain ⟨v, r, e, h1, h2⟩ := h
    exact ⟨v, r, e, BRep.sub g f h1, BReps.sub g f h2⟩
/-- one item's block: the name is the item's, read alone -/
def TurnB (X : Cx) (scope : Scope) (en : Kn) (δw τ : List Slot) (tg elt : Expr) (ix : Nat) (d : D) (m : Res D) : Prop :=
  AllB X scope fun Y => (∀ (v : V) (σ : L2.St) (H : Hp) (Q : L2.St → Hp → Prop), Q (σ.set ix (some v)) H → WG Y tg v σ H Q) ∧ JE Y en (δw.set ix (.bw d)) τ elt (fun s δ3 m3 => ∃ y, s = .fr y ∧ m3 = .ok y ∧ Le (wipeS δ3 [ix]) δw ∧ noBo δ3 = true) m
theorem JIb.conv {tg iter : Expr} {C C' : List D → List Slot → Res R → Prop} (h : JIb X en δ τ tg iter C m) (k : ∀ ds δ', C ds δ' m → C' ds δ' m) : JIb X en δ τ tg iter C' m := .mk fun hb hx σ ts G H T hl hσ W q =>
  h.run hb hx σ ts G H T hl hσ W fun ds δ' J G' H' c hl' W' it => q ds δ' J G' H' (k _ _ c) hl' W' it
/-! ### a loop over a display of own lists, changed each -/
def ForN (X : Cx) (en : Kn) (ix : Nat) (e : Expr) {R : Type} (N : List Slot → Res R → Prop) (m : Res R) : List Nat → List Slot → Prop
  | [], δ => N δ m
  | i :: is, δ => ∃ δ', δ.set ix (.bo i) = δ' ∧ JE X en δ' [] e (fun _ δ1 m1 => ∃ δ2, Le δ1 δ2 ∧ noBo δ2 = true ∧ ForN X en ix e N m1 is δ2) m
end
end BR

/-! K46: defs called while an error is handled -/
namespace BR
open PySem PySem.Spec PyProof.Rows L2

/-! ### the end of a walk there -/
section
variable {prog : Program} {w : World} {A : Around} {E : Value → Shared → Prop} {s : Shared}
end
/-- the error that is handled is tracked, its context None -/
def HotH (X : Cx) (H : Hp) : Prop := ∃ (a : Addr) (oe : Obj) (vs : Array Value), X.A.handled = some (.ref a) ∧ H a = some (ExO1 oe) ∧ oe.data = .fields vs ∧ vs[2]? = some .none
theorem HotH.at {X : Cx} {pins : List (Addr × Obj)} {σ : L2.St} {H : Hp} {s : Shared} (h : HotH X H) (I : Inv X pins σ H s) : ∃ x1, HotX.HotAt X.A x1 s.heap := by
  obtain ⟨a, oe, vs, h1, h2, h3, h4⟩ := h
  have := (show ObjOk X.prog X.w H s.heap a (ExO1 oe) from I.hok a _ h2).1
  exact ⟨a, h1, oe, vs, this, h3, h4⟩
theorem HotH.sub {X : Cx} {H H' : Hp} (h : HotH X H) (s : Sub H H') : HotH X H' := by
  obtain ⟨a, oe, vs, h1, h2, h3, h4⟩ := h
  exact ⟨a, oe, vs, h1, s _ _ h2, h3, h4⟩
/-! ### a tuple taken apart there -/
section
variable {X : Cx} {pos : Pos}
end
section
variable {X : Cx} {en : Kn} {δ τ : List Slot} {R : Type} {m : Res R} {N : List Slot → Res R → Prop}
/-- .. from a def's entry on -/
def HotK (X : Cx) (en : Kn) : Prop := HotH X en.G0
theorem HotK.of (h : HotK X en) {Δ : List Slot} {S : L2.St} {G H : Hp} (W : Wd X.K en Δ S G H) : HotH X H := HotH.sub (HotH.sub h W.ext) W.sub
end
end BR

/-! K47: comprehensions and defs while an error is handled -/
namespace BR
open PySem PySem.Spec PyProof.Rows L2
def HotV (hd : Option Value) (H : Hp) : Prop := ∃ (a : Addr) (oe : Obj) (vs : Array Value), hd = some (.ref a) ∧ H a = some (ExO1 oe) ∧ oe.data = .fields vs ∧ vs[2]? = some .none
theorem HotV.sub {hd : Option Value} {H H' : Hp} (h : HotV hd H) (s : Sub H H') : HotV hd H' := by
  obtain ⟨a, oe, vs, h1, h2, h3, h4⟩ := h
  exact ⟨a, oe, vs, h1, s _ _ h2, h3, h4⟩
theorem HotV.at {X : Cx} {pins : List (Addr × Obj)} {σ : L2.St} {H : Hp} {s : Shared} (h : HotV X.A.handled H) (I : Inv X pins σ H s) : ∃ x1, HotX.HotAt X.A x1 s.heap := HotH.at (X := X) h I

structure TurnK (P : Program) (w : World) (K : PySem.W.Frag) (tg : Expr) (J : It) (fp : List Addr) (it : Addr) (tn : Nat → Heap → Prop) : Prop where
  mem : it ∈ fp
  obj : ∀ i h, tn i h → ∀ b ∈ fp, ∃ o, h.get? b = some o ∧ ∀ v, o.data ≠ .cell v
  keep : ∀ i h h', tn i h → (∀ b ∈ fp, ∀ o, h.get? b = some o → h'.get? b = some o) → tn i h'
  item : ∀ (X : Cx), X.prog = P → X.w = w → X.K = K → ∀ (i : Nat) (pins : List (Addr × Obj)) (s : Shared) (σ : L2.St) (H : Hp) (E : Value → Shared → Prop), Inv X pins σ H s → (∀ b ∈ fp, FpOk X pins H b) → tn i s.heap → J.go i H →
    wpAny (model P w) X.A (pyNext (.ref it)) (fun r s1 => ∃ u, r = some u ∧
      wpAny (model P w) X.A (letOwnedTupleGo tg (.ref it) u) (fun _ s2 => ∃ x H', Inv X pins σ H' s2 ∧ RelV x u ∧ J.yld i H x H' ∧ tn (i + 1) s2.heap ∧ ∀ b ∈ fp, H' b = none) E s1) E s
  done : ∀ (X : Cx), X.prog = P → X.w = w → X.K = K → ∀ (i : Nat) (pins : List (Addr × Obj)) (s : Shared) (σ : L2.St) (H : Hp) (E : Value → Shared → Prop), Inv X pins σ H s → (∀ b ∈ fp, FpOk X pins H b) → tn i s.heap → J.stop i H → HotV X.A.handled H →
    wpAny (model P w) X.A (pyNext (.ref it)) (fun r s1 => r = none ∧ Inv X pins σ H s1) E s
  self : ∀ (A : Around) (i : Nat) (s : Shared) (Q : Value → Shared → Prop) (E : Value → Shared → Prop), tn i s.heap → Q (.ref it) s → wpAny (model P w) A (pyIter (.ref it)) Q E s

def PIEK (X : Cx) (pins : List (Addr × Obj)) (σ : L2.St) (tg : Expr) (R : It → Hp → Prop) (itv : Value) (s2 : Shared) : Prop :=
  ∃ (it : Addr) (fp : List Addr) (tn : Nat → Heap → Prop) (J : It) (H' : Hp), itv = .ref it ∧ Inv X pins σ H' s2 ∧ TurnK X.prog X.w X.K tg J fp it tn ∧ tn 0 s2.heap ∧ (∀ b ∈ fp, FpOk X pins H' b) ∧ R J H'
structure PIK (X : Cx) (tg iter : Expr) (wi : TI) : Prop where
  run : ∀ (pins : List (Addr × Obj)) (s : Shared) (σ : L2.St) (H : Hp) (R : It → Hp → Prop), Inv X pins σ H s → wi σ H R →
    wpAny (model X.prog X.w) X.A (eval iter X.env) (fun v s1 => wpAny (model X.prog X.w) X.A (pyIter v) (PIEK X pins σ tg R) X.xe s1) X.xe s
abbrev WIK (X : Cx) (tg iter : Expr) : TI := fun σ H R => ∀ (pins : List (Addr × Obj)) (s : Shared), Inv X pins σ H s →
  wpAny (model X.prog X.w) X.A (eval iter X.env) (fun v s1 => wpAny (model X.prog X.w) X.A (pyIter v) (PIEK X pins σ tg R) X.xe s1) X.xe s
structure JIK (X : Cx) (en : Kn) (δ τ : List Slot) (tg iter : Expr) {R : Type} (C : List D → List Slot → Res R → Prop) (m : Res R) : Prop where
  run : m ≠ .bad → en.HX m.exc → ∀ (σ ts : L2.St) (G H : Hp) (T : It → Hp → Prop), δ.length = en.n → σ.length = en.n → Wd X.K en (δ ++ τ) (σ ++ ts) G H →
    (∀ ds δ' J G' H', C ds δ' m → δ'.length = en.n → Wd X.K en (δ' ++ τ) (σ ++ ts) G' H' → ItD X.K J G' en.F0 ds → T J H') → WIK X tg iter σ H T

theorem JIK.conv {X : Cx} {en : Kn} {δ τ : List Slot} {tg iter : Expr} {R : Type} {C C' : List D → List Slot → Res R → Prop} {m : Res R} (h : JIK X en δ τ tg iter C m) (k : ∀ ds δ1, C ds δ1 m → C' ds δ1 m) : JIK X en δ τ tg iter C' m := .mk fun hb hx σ ts G H T hl hσ W q =>
  h.run hb hx σ ts G H T hl hσ W fun ds δ1 J G1 H1 c => q ds δ1 J G1 H1 (k ds δ1 c)
def tLcK (hd : Option Value) (wi : TI) (g : TG) (tt : TT) (te : TE) (vs : List Nat) : TE := fun σ H Q => wi σ H fun J H1 => ∀ D, H1 D = none → ∃ W : Nat → Nat → Hp → Prop, (∃ m, W 0 m (upd H1 D (.lst []))) ∧ ∀ i m H, W i m H →
  (J.stop i H ∧ HotV hd H ∧ Q (.ref D) H) ∨ (J.go i H ∧ ∃ Nx : Hp → Prop, (∀ H', Nx H' → ∃ m', m' < m ∧ W (i + 1) m' H') ∧ ∀ x H', J.yld i H x H' → g x (wipe σ vs) H' fun σ2 H2 => wipe σ2 vs = wipe σ vs ∧ tt σ2 H2 fun b H3 =>
    if b = true then te σ2 H3 fun y H4 => ∃ acc, H4 D = some (.lst acc) ∧ acc.length < sizeLine ∧ Nx (upd H4 D (.lst (acc ++ [y]))) else Nx H3)
section
variable {X : Cx} {en : Kn} {δ τ : List Slot} {R : Type} {C : Slot → List Slot → Res R → Prop} {m : Res R} {K : PySem.W.Frag}

end


/-! ### defs called there -/
structure RoomK (k : Nat) (A : Around) : Prop where
  dp : A.depth + 3 * k + 5 < recursionLimit
  un : A.units + 16 * k + 200 < cLine
  g : A.guards = some []
theorem RoomK.mono {j k : Nat} {A : Around} (r : RoomK k A) (h : j ≤ k) : RoomK j A := ⟨by have := r.dp; omega, by have := r.un; omega, r.g⟩
theorem RoomK.hu {k : Nat} {A : Around} (h : RoomK k A) : A.units + 64 < cLine := by
  have := h.un
  omega
theorem RoomK.depth {k : Nat} {A : Around} (r : RoomK k A) : A.depth < recursionLimit := by have := r.dp; omega
theorem RoomK.deeper {k : Nat} {A : Around} (r : RoomK (k + 1) A) (env : Env) : RoomK k (A.deeper env) :=
  ⟨by have := r.dp; show A.depth + 1 + 3 * k + 5 < _; omega, by have := r.un; show A.units + 3 + 16 * k + 200 < _; omega, r.g⟩
/-- the context of such a def's body -/
abbrev cxK (CX : CXT) (P : Program) (w : World) (K : PySem.W.Frag) (mg : Str → Option Value) (base : Heap) (N : List Str) (qual : Str) (scope : Scope) (f : Addr) (cd : Value) (A : Around) (outer : List Env) (s : Shared) (H : Hp) (E : XK) : Cx :=
  { cxOf CX P w K mg base N qual scope f cd A outer s H E with calm := false }

/-- a def keeps its promise there -/
structure FnGH (P : Program) (w : World) (K : PySem.W.Frag) (mg : Str → Option Value) (base : Heap) (k : Nat) (f : Addr) (fd : FuncData) (ps : List Str) (sp : Option Value → Sp) : Prop where
  len : ∀ hd vs H Q E, sp hd vs H Q E → vs.length = ps.length
  run : ∀ (A : Around) (outer : List Env) (s : Shared) (H : Hp) (args : Args) (us : List Value) (vs : List V) (Q : VK) (E : XK),
    RoomK k A → Env0 P w K mg base A outer s H → BindsTo s fd args (ps.zip us) → Vals vs us → sp A.handled vs H Q E →
    codeAny (model P w) A (.call (.ref f) args) (CR (L2N.CX P w) outer P w H s Q E) s
section
variable {P : Program} {w : World} {K : PySem.W.Frag} {mg : Str → Option Value} {base : Heap}

def SpDH (K : PySem.W.Frag) (mg : Str → Option Value) (ks : List Kd) {α : Type} (f : List D → Res α) (val : α → D) (outs : α → List D) (mu : Bool) (hd : Option Value) : Sp := fun vs H Q E =>
  vs.length = ks.length ∧ ∃ (G : Hp) (ps : List Addr) (ds : List D) (r : Res α), Sub G H ∧ ps.Nodup ∧ ArgsOk K G H (hide H ps) ks ds vs ps ∧ f ds = r ∧ r ≠ .bad ∧ HotV hd G ∧
    (∀ a, r = .ok a → ∀ v G' H', Post G H G' H' ps → OutsOk K G' H' (outs a) ps → RetOk K G' H H' mu (val a) v → Q v H') ∧
    (∀ x, r = .raise x → ∀ cls d H', ExcOk mg (hide H ps) ps x cls d H' → Sub (hide H ps) H' → E cls d H')

end
/-- a def of the module that keeps its promise there -/
def DfH (P : Program) (w : World) (K : PySem.W.Frag) (mg : Str → Option Value) (base : Heap) (k : Nat) (x : Str) (ks : List Kd) {α : Type} (den : List D → Res α) (val : α → D) (outs : α → List D) (mu : Bool) : Prop :=
  ∃ (f : Addr) (fd : FuncData) (psn : List Str), FnGH P w K mg base k f fd psn (SpDH K mg ks den val outs mu) ∧ mg x = some (.ref f) ∧ PySem.W.keepIn K (.ref f) = true ∧ Binds K fd psn []
/-- an error is none of the answers -/
def noX {α : Type} (m : Res α) : Res α := match m with
  | .ok a => .ok a
  | _ => .bad
section
variable {X : Cx} {k : Nat} {f : Addr} {fd : FuncData} {ps : List Str} {sp : Option Value → Sp} {E : XK} {x : Str} {p pos : Pos} {e : Expr} {es : List Expr} {t : TA}
end
section
variable {X : Cx} {en : Kn} {δ τ : List Slot} {R : Type} {C : Slot → List Slot → Res R → Prop} {m : Res R} {K : PySem.W.Frag}

end
section
variable {X : Cx} {en : Kn} {δ : List Slot} {R : Type} {m : Res R} {N : List Slot → Res R → Prop} {RT : Slot → List Slot → Res R → Prop} {BK CT : List Slot → Res R → Prop} {rest : List Stmt}
end
end BR

/-! K48: list(range(a, b)) of numbers of any size -/
namespace BR
open PySem PySem.Spec PyProof.Rows L2
section
open PySem.AutoSeq1
variable {prog : Program} {w : World} {A : Around} {E : Value → Shared → Prop} {s : Shared}
end
def tLstRB (te : L2.St → Hp → (Int → Int → Hp → Prop) → Prop) : TE := fun σ H Q => te σ H fun a b H1 => (b - a).toNat ≤ 2 ^ 24 ∧ ∀ q, H1 q = none → Q (.ref q) (upd H1 q (.lst (rgV a b)))
/-- the numbers of list(range(a, b)) -/
def lrgB : D → D → Option (List D)
  | .int i, .int j => if (j - i).toNat ≤ 2 ^ 24 then some (upto i (j - i).toNat) else none
  | _, _ => none
section
variable {X : Cx} {en : Kn} {δ τ : List Slot} {R : Type} {C : Slot → List Slot → Res R → Prop} {m : Res R}
end
end BR

/-! W1: plain runs -/
namespace BR
open PySem PySem.Spec PyProof.Rows L2
theorem op_s {α R : Type} {a : α} {k : α → Res R} : op (some a) k = k a := rfl
theorem bind_s {α R : Type} {a : α} {k : α → Res R} : (Res.ok a).bind k = k a := rfl
theorem nat_lt_of {a : Int} {n : Nat} (h0 : 0 ≤ a) (h : a < (2 : Int) ^ n) : a.natAbs < 2 ^ n := by
  have : ((a.natAbs : Nat) : Int) < ((2 ^ n : Nat) : Int) := by
    rw [Int.natAbs_of_nonneg h0]
    simpa using h
  exact Int.ofNat_lt.mp this
theorem log_le {a : Int} {n : Nat} (h0 : 0 ≤ a) (h : a < (2 : Int) ^ n) : a.natAbs.log2 ≤ n := by
  by_cases z : a.natAbs = 0
  · have e : Nat.log2 0 = 0 := by decide
    rw [z, e]; exact Nat.zero_le _
  · exact Nat.le_of_lt ((Nat.log2_lt z).mpr (nat_lt_of h0 h))
theorem bits_le {a : Int} {n : Nat} (h0 : 0 ≤ a) (h : a < (2 : Int) ^ n) : Builtin.Int.intBits a ≤ n := by
  unfold Builtin.Int.intBits
  split
  · exact Nat.zero_le _
  · rename_i z
    have z' : a.natAbs ≠ 0 := fun e => z (by simpa using Int.natAbs_eq_zero.mp e)
    exact (Nat.log2_lt z').mpr (nat_lt_of h0 h)
theorem addI {a b : Int} : addD (.int a) (.int b) = some (.int (a + b)) := rfl
theorem subI {a b : Int} : subD (.int a) (.int b) = some (.int (a - b)) := rfl
theorem negI {a : Int} : negD (.int a) = some (.int (-a)) := rfl
theorem gtI {a b : Int} : gtD (.int a) (.int b) = some (decide (b < a)) := rfl
theorem geI {a b : Int} : geD (.int a) (.int b) = some (decide (b ≤ a)) := rfl
theorem ltI {a b : Int} : ltD (.int a) (.int b) = some (decide (a < b)) := rfl
theorem leI {a b : Int} : leD (.int a) (.int b) = some (decide (a ≤ b)) := rfl
theorem eqI {a b : Int} : eqD (.int a) (.int b) = some (decide (a = b)) := rfl
theorem modI {a b : Int} (h : 0 < b) : modD (.int a) (.int b) = some (.int (a % b)) := if_pos h
theorem divI {a b : Int} (h : 0 < b) (hz : b < 2 ^ 250) : fdivD (.int a) (.int b) = some (.int (a / b)) := if_pos ⟨h, Nat.lt_of_le_of_lt (log_le (Int.le_of_lt h) hz) (by decide)⟩
theorem mulI {a b : Int} (h0 : 0 ≤ a) (h : a < 2 ^ 250) (g0 : 0 ≤ b) (g : b < 2 ^ 250) : mulD (.int a) (.int b) = some (.int (a * b)) := if_pos (by
  have := log_le h0 h
  have := log_le g0 g
  omega)
theorem powI {a b : Int} (h : 0 ≤ b ∧ (Builtin.Int.intBits a : Int) * b ≤ 2 ^ 27) : powD (.int a) (.int b) = some (.int (a ^ b.toNat)) := if_pos h
theorem pow3 {a : Int} (h0 : 0 ≤ a) (h : a < 2 ^ 250) : powD (.int a) (.int 3) = some (.int (a ^ 3)) := powI ⟨by decide, by
  have := bits_le h0 h
  have : (Builtin.Int.intBits a : Int) ≤ 250 := by exact_mod_cast this
  omega⟩
theorem p10_18 : powD (.int 10) (.int 18) = some (.int (10 ^ 18)) := powI (by decide)
theorem p10_29 : powD (.int 10) (.int 29) = some (.int (10 ^ 29)) := powI (by decide)
/-- a loop that keeps P, i the turns done -/
theorem forS_ok {S : Type} {f : D → S → Res S} (P : Nat → S → Prop) (I : Nat) : ∀ {ds : List D} {s : S} {i : Nat}, P i s → i + ds.length ≤ I → (∀ d, d ∈ ds → ∀ s i, i < I → P i s → ∃ s', f d s = .ok s' ∧ P (i + 1) s') → ∃ r, forS ds s f = .ok r ∧ P (i + ds.length) r
  | [], s, i, h, _, _ => ⟨s, rfl, h⟩
  | d :: ds, s, i, h, hI, hf => by
    rw [List.length_cons] at hI
    obtain ⟨s', e, h'⟩ := hf d List.mem_cons_self s i (by omega) h
    unfold forS
    rw [e, bind_s]
    obtain ⟨r, e2, h2⟩ := forS_ok P I h' (by omega) fun d hd => hf d (List.mem_cons_of_mem _ hd)
    exact ⟨r, e2, by rw [List.length_cons]; rw [show i + (ds.length + 1) = i + 1 + ds.length by omega]; exact h2⟩
theorem forF_ok {S R : Type} {f : D → S → Res (LFlow S R)} (P : Nat → S → Prop) (I : Nat) : ∀ {ds : List D} {s : S} {i : Nat}, P i s → i + ds.length ≤ I → (∀ d, d ∈ ds → ∀ s i, i < I → P i s → ∃ s', f d s = .ok (.nx s') ∧ P (i + 1) s') → ∃ r, forF ds s f = .ok (.nx r) ∧ P (i + ds.length) r
  | [], s, i, h, _, _ => ⟨s, rfl, h⟩
  | d :: ds, s, i, h, hI, hf => by
    rw [List.length_cons] at hI
    obtain ⟨s', e, h'⟩ := hf d List.mem_cons_self s i (by omega) h
    unfold forF
    rw [e]
    obtain ⟨r, e2, h2⟩ := forF_ok P I h' (by omega) fun d hd => hf d (List.mem_cons_of_mem _ hd)
    exact ⟨r, e2, by rw [List.length_cons]; rw [show i + (ds.length + 1) = i + 1 + ds.length by omega]; exact h2⟩
theorem rng1 {n : Int} (h0 : 0 ≤ n) (h : n < 2 ^ 62) : rngD [.int n] = some (upto 0 n.toNat) := if_pos ⟨by omega, h⟩
theorem upto_mem {n : Nat} {d : D} (h : d ∈ upto 0 n) : ∃ i : Nat, i < n ∧ d = .int i := by
  obtain ⟨i, hi, e⟩ := List.mem_map.mp h
  exact ⟨i, List.mem_range.mp hi, by rw [← e, Int.zero_add]⟩
theorem upto_len {n : Nat} {l : Int} : (upto l n).length = n := by simp [upto]
theorem small_lt {n : Nat} (h : n < 1000000) : n < sizeLine := Nat.lt_of_lt_of_le h (by decide)
theorem small_le {n : Nat} (h : n < 1000000) : n ≤ sizeLine := Nat.le_of_lt (small_lt h)
theorem min2I {a b : Int} : min2D [.int a, .int b] = some (.int (if b < a then b else a)) := rfl
theorem max2I {a b : Int} : max2D [.int a, .int b] = some (.int (if b > a then b else a)) := rfl
theorem app1 {ds : List D} {d : D} (h : ds.length < 1000000) : appL ds [d] = some (.non, ds ++ [d]) := if_pos (small_lt h)
theorem abs_ok {a : Int} : absD [.int a] = some (.int (if a < 0 then -a else a)) := rfl
theorem asB_ok (b : Bool) : asB (.bl b) = some b := rfl
theorem tru_ok (b : Bool) : truD (.bl b) = some b := rfl
def Sz (n w : Nat) (d : D) : Prop := noS d = true ∧ (toP d).showable = true ∧ (toP d).leavesShort 600 = true ∧ (toP d).depth ≤ n ∧ (toP d).weight ≤ w
theorem Sz.mono {n w n' w' : Nat} {d : D} (h : Sz n w d) (h1 : n ≤ n') (h2 : w ≤ w') : Sz n' w' d := ⟨h.1, h.2.1, h.2.2.1, Nat.le_trans h.2.2.2.1 h1, Nat.le_trans h.2.2.2.2 h2⟩
theorem sz_int {i : Int} (h0 : 0 ≤ i) (h : i < 2 ^ 200) : Sz 0 201 (.int i) := by
  have hb := bits_le h0 h
  have hg := log_le h0 h
  refine ⟨rfl, ?_, ?_, ?_, ?_⟩
  · simp only [toP, PyData.showable]
    exact decide_eq_true (by omega)
  · simp only [toP, PyData.leavesShort]
    refine decide_eq_true (Nat.le_trans (toString_length_le h0 (k := 61) (by decide) (Int.lt_trans h (by decide))) (by decide))
  · simp [toP, PyData.depth]
  · simp only [toP, PyData.weight]
    split <;> omega
theorem addL {a b : List D} (h : a.length + b.length < 1000000) : addD (.lst a) (.lst b) = some (.lst (a ++ b)) := if_pos (small_le h)
theorem ix_mem {ds : List D} {r : Int} (h0 : 0 ≤ r) (h : r < ds.length) : ∃ x, x ∈ ds ∧ ixD (.lst ds) (.int r) = some x := by
  have hr : r.toNat < ds.length := by omega
  refine ⟨ds[r.toNat], List.getElem_mem hr, ?_⟩
  show atI ds r = _
  unfold atI ixN
  rw [if_pos h0, if_pos h]
  simp [List.getElem?_eq_getElem hr]
theorem cut_mem {xs : List D} {l u : Option Int} {x : D} (h : x ∈ cutD xs l u) : x ∈ xs := List.mem_of_mem_drop (List.mem_of_mem_take h)
theorem cut_len {xs : List D} {l u : Option Int} : (cutD xs l u).length ≤ xs.length := by
  unfold cutD
  rw [List.length_take, List.length_drop]
  omega
def Ok {α : Type} (m : Res α) (Q : α → Prop) : Prop := ∃ a, m = .ok a ∧ Q a
theorem Ok.ret {α : Type} {a : α} {Q : α → Prop} (h : Q a) : Ok (.ok a) Q := ⟨a, rfl, h⟩
theorem Ok.bnd {α β : Type} {m : Res α} {k : α → Res β} {P : α → Prop} {Q : β → Prop} (h : Ok m P) (g : ∀ a, P a → Ok (k a) Q) : Ok (m.bind k) Q := by
  obtain ⟨a, e, p⟩ := h
  obtain ⟨b, e2, q⟩ := g a p
  exact ⟨b, by rw [e, bind_s, e2], q⟩
theorem Ok.mono {α : Type} {m : Res α} {P Q : α → Prop} (h : Ok m P) (g : ∀ a, P a → Q a) : Ok m Q := by
  obtain ⟨a, e, p⟩ := h
  exact ⟨a, e, g a p⟩
theorem Ok.op {α β : Type} {o : Option α} {a : α} {k : α → Res β} {Q : β → Prop} (e : o = some a) (h : Ok (k a) Q) : Ok (op o k) Q := by
  subst e; exact h
theorem Ok.ite {α : Type} {b : Prop} [Decidable b] {m n : Res α} {Q : α → Prop} (h : b → Ok m Q) (g : ¬b → Ok n Q) : Ok (if b then m else n) Q := by
  by_cases hb : b
  · rw [if_pos hb]; exact h hb
  · rw [if_neg hb]; exact g hb
theorem Ok.fbn {S R : Type} {m : Res (Flow S R)} {k : S → Res R} {P : S → Prop} {Q : R → Prop} (h : Ok m fun f => ∃ s, f = .nx s ∧ P s) (g : ∀ s, P s → Ok (k s) Q) : Ok (fbind m k) Q := by
  obtain ⟨a, e, s, rfl, p⟩ := h
  obtain ⟨b, e2, q⟩ := g s p
  exact ⟨b, by rw [e]; exact e2, q⟩
theorem Ok.eq {α : Type} {m : Res α} {a : α} (h : Ok m fun x => x = a) : m = .ok a := by
  obtain ⟨b, e, rfl⟩ := h; exact e
theorem Ok.of {α : Type} {m : Res α} {a : α} (h : m = .ok a) : Ok m fun x => x = a := ⟨a, h, rfl⟩
theorem Ok.forN {S R : Type} {f : D → S → Res (LFlow S R)} (P : Nat → S → Prop) (I : Nat) {ds : List D} {s : S} (h0 : P 0 s) (hI : ds.length ≤ I) (hf : ∀ d, d ∈ ds → ∀ s i, i < I → P i s → Ok (f d s) fun r => ∃ s', r = .nx s' ∧ P (i + 1) s') : Ok (forF ds s f) fun r => ∃ s', r = .nx s' ∧ P ds.length s' := by
  obtain ⟨r, e, h⟩ := forF_ok (f := f) P I (ds := ds) (s := s) (i := 0) h0 (by omega) (fun d hd s i hi h => by
    obtain ⟨_, e, s', rfl, h'⟩ := hf d hd s i hi h
    exact ⟨s', e, h'⟩)
  exact ⟨_, e, r, rfl, by rw [Nat.zero_add] at h; exact h⟩
theorem Ok.call {α β : Type} {m : Res α} {a : α} {k : α → Res β} {Q : β → Prop} (e : m = .ok a) (h : Ok (k a) Q) : Ok (m.bind k) Q := by
  subst e; exact h
end BR

/-! W2: plain runs over typed data -/
namespace BR
open PySem PySem.Spec PyProof.Rows L2

/-! ### walks of typed lists -/
theorem Ok.for {S : Type} {f : D → S → Res S} (P : Nat → S → Prop) (I : Nat) {ds : List D} {s : S} (h0 : P 0 s) (hI : ds.length ≤ I) (hf : ∀ d, d ∈ ds → ∀ s i, i < I → P i s → Ok (f d s) (P (i + 1))) : Ok (forS ds s f) (P ds.length) := by
  obtain ⟨r, e, h⟩ := forS_ok (f := f) P I (ds := ds) (s := s) (i := 0) h0 (by omega) (fun d hd s i hi h => by
    obtain ⟨s', e, h'⟩ := hf d hd s i hi h
    exact ⟨s', e, h'⟩)
  exact ⟨r, e, by rw [Nat.zero_add] at h; exact h⟩
theorem Ok.both {α : Type} {m : Res α} {P Q : α → Prop} (h : Ok m P) (g : Ok m Q) : Ok m fun a => P a ∧ Q a := by
  obtain ⟨a, e, p⟩ := h
  obtain ⟨b, e2, q⟩ := g
  rw [e] at e2
  cases e2
  exact ⟨a, e, p, q⟩
/-- the loop of a law's first cells: at most n of them -/
theorem cells {ns : List Int} {n : Int} (hn : 1 ≤ n) (h : n < 1000) : ∃ k : Int, (if (if (ns.length : Int) < n then (ns.length : Int) else n) > 1 then (if (ns.length : Int) < n then (ns.length : Int) else n) else 1) = k ∧ 0 ≤ k ∧ k ≤ n := ⟨_, rfl, by split <;> split <;> omega, by split <;> split <;> omega⟩

/-! ### places -/
theorem ix_at {ds : List D} {i : Nat} {d : D} (h : ds[i]? = some d) : ixD (.lst ds) (.int i) = some d := by
  have hi := (List.getElem?_eq_some_iff.mp h).1
  show atI ds i = _
  unfold atI ixN
  rw [if_pos (by omega), if_pos (by omega)]
  simpa using h
theorem lenE {X : Type} {e : X → D} {xs : List X} : lenD [.lst (xs.map e)] = some (.int xs.length) := by
  show some (D.int (xs.map e).length) = _
  rw [List.length_map]
theorem lenET {X : Type} {e : X → D} {xs : List X} : lenD [.tup (xs.map e)] = some (.int xs.length) := by
  show some (D.int (xs.map e).length) = _
  rw [List.length_map]
theorem cut_back {ds : List D} {i : Nat} (h : i ≤ ds.length) : cutD ds (some i) none = ds.drop i := by
  unfold cutD HT.sIx
  simp only []
  rw [if_neg (by omega)]
  have : min (i : Int).toNat ds.length = i := by omega
  rw [this]
  rw [List.take_of_length_le (by simp)]
/-! ### one and the same -/
def Shp (n : Nat) (d : D) : Prop := (toP d).canLay0 = true ∧ (toP d).depth ≤ n
theorem Shp.mono {n k : Nat} {d : D} (h : Shp n d) (l : n ≤ k) : Shp k d := ⟨h.1, Nat.le_trans h.2 l⟩
theorem shp_int {i : Int} : Shp 0 (.int i) := ⟨rfl, by simp [toP, PyData.depth]⟩
theorem Shp.shaped {d : D} (h : Shp 60 d) : SeqAt.shaped (toP d) = true := by
  unfold SeqAt.shaped
  rw [h.1, Bool.true_and]
  exact decide_eq_true (Nat.le_trans h.2 (by decide))
theorem eqD_shp {d e : D} (h : Shp 60 d) (g : Shp 60 e) (hd : ∀ a b, d = .int a → e = .int b → False) (hs : ∀ a b, d = .str a → e = .str b → False) (hb : ∀ a b, d = .bl a → e = .bl b → False) : eqD d e = some (PyData.eqv (toP d) (toP e)) := by
  have key : eqD d e = if SeqAt.shaped (toP d) = true ∧ SeqAt.shaped (toP e) = true then some (PyData.eqv (toP d) (toP e)) else none := by
    unfold eqD
    split
    · exact (hd _ _ rfl rfl).elim
    · exact (hs _ _ rfl rfl).elim
    · exact (hb _ _ rfl rfl).elim
    · rfl
  rw [key, if_pos ⟨h.shaped, g.shaped⟩]
theorem neS {a : Str} : neD (.str a) (.str a) = some false := by simp [neD, eqD]
theorem eqS {a : Str} : eqD (.str a) (.str a) = some true := by simp [eqD]
/-- side by side -/
def adj {X : Type} (p : X → X → Bool) : List X → Bool
  | x :: y :: r => p x y && adj p (y :: r)
  | _ => true
/-- whether p fails at a place and the next one -/
def gap {X : Type} (p : X → X → Bool) (xs : List X) (k : Nat) : Bool := match xs[k]?, xs[k + 1]? with
  | some a, some c => !p a c
  | _, _ => false
/-! ### sayings -/
abbrev Say := Int × Option Int
def eO : Option Int → D
  | none => .non
  | some b => .int b
def eS (s : Say) : D := .tup [.int s.1, eO s.2]
def okS (B : Int) (s : Say) : Prop := 0 ≤ s.1 ∧ s.1 < B ∧ ∀ b, s.2 = some b → s.1 ≤ b ∧ b < B
theorem typed {X : Type} {e : X → D} {p : X → Prop} : ∀ {ds : List D}, (∀ d, d ∈ ds → ∃ x, d = e x ∧ p x) → ∃ xs : List X, ds = xs.map e ∧ ∀ x, x ∈ xs → p x
  | [], _ => ⟨[], rfl, by simp⟩
  | d :: ds, h => by
    obtain ⟨x, rfl, hp⟩ := h d List.mem_cons_self
    obtain ⟨xs, rfl, hps⟩ := typed (ds := ds) fun d hd => h d (List.mem_cons_of_mem _ hd)
    refine ⟨x :: xs, rfl, fun y hy => ?_⟩
    rcases List.mem_cons.mp hy with rfl | hy
    · exact hp
    · exact hps y hy
/-- whether a saying is true of so many -/
def so (s : Say) (c : Int) : Bool := decide (s.1 ≤ c) && (match s.2 with | none => true | some b => decide (c ≤ b))
def b2 (b : Bool) : Int := if b then 1 else 0
def tot : List Say → Int → Int
  | [], c => c
  | s :: r, c => tot r c + b2 (so s (tot r c))
def tots : List Say → Int → List Int
  | [], c => [c]
  | s :: r, c => tot (s :: r) c :: tots r c
theorem okS.mono {B C : Int} {s : Say} (h : okS B s) (l : B ≤ C) : okS C s := ⟨h.1, by have := h.2.1; omega, fun b e => by have := h.2.2 b e; omega⟩
def words (xs : List Say) (c : Int) : List Bool := match xs with
  | [] => []
  | s :: r => so s (tot r c) :: words r c
def rowAs (r : D) (xs : List Say) : Prop := r = .lst (xs.map eS) ∨ r = .tup (xs.map eS)
theorem rowAs.len {r : D} {xs : List Say} (h : rowAs r xs) : lenD [r] = some (.int xs.length) := by
  rcases h with rfl | rfl
  · exact lenE
  · exact lenET
/-- data of scalars, lists and tuples, so deep at most -/
def Pl : Nat → D → Prop
  | _, .int _ => True
  | _, .bl _ => True
  | _, .non => True
  | n + 1, .lst ds => ds.length < 900000 ∧ ∀ x, x ∈ ds → Pl n x
  | n + 1, .tup ds => ds.length < 900000 ∧ ∀ x, x ∈ ds → Pl n x
  | _, _ => False
/-! ### wishes -/
def nx (s : Say) (m : Int) : Int := m - b2 (so s (m - 1))
def hand : List Say → Int → Int
  | [], m => m
  | s :: r, m => hand r (nx s m)
def hands : List Say → Int → List Int
  | [], m => [m]
  | s :: r, m => m :: hands r (nx s m)
theorem rowAs.as {r : D} {xs : List Say} (h : rowAs r xs) : asL r = some (xs.map eS) := by
  rcases h with rfl | rfl <;> rfl
theorem rowAs.cut {r : D} {xs : List Say} (h : rowAs r xs) {i : Nat} (hi : i ≤ xs.length) : ∃ r', cutA r (some i) none = some r' ∧ rowAs r' (xs.drop i) := by
  rcases h with rfl | rfl
  · exact ⟨_, rfl, .inl (by rw [cut_back (by simpa using hi), List.map_drop])⟩
  · exact ⟨_, rfl, .inr (by rw [cut_back (by simpa using hi), List.map_drop])⟩
end BR

/-! K50: instances of own classes: read where they stand fast, changed within their own methods -/
namespace BR
open PySem PySem.Spec PyProof.Rows L2

/-! ### calls -/
section
variable {X : Cx} {k : Nat} {f C : Addr} {fd : FuncData} {ps : List Str} {sp : Sp} {E : XK} {x m : Str} {p pos apos : Pos} {e o : Expr} {es : List Expr} {ta : TE} {t : TA} {dvs : List V} {ds : List Value}
end

/-! ### fields of what stands fast -/
abbrev Fd := List (Str × Bool × D)
/-- a field of an instance of one of these classes, that stands fast -/
def fldD (cs : List Str) (f : Str) : D → Option D
  | .obj c fs => if c ∈ cs then (match fs.lookup f with
    | some (false, d) => some d
    | _ => none) else none
  | _ => none
theorem VFs.get {K : PySem.W.Frag} {G H : Hp} : ∀ {fs : Fd} {vs : List (Str × V)} {f : Str} {b : Bool} {d : D}, VFs K G H fs vs → fs.lookup f = some (b, d) → ∃ v, vs.lookup f = some v ∧ VF K G H b d v
  | [], _, _, _, _, _, e => by cases e
  | (k, b', d') :: r, _, f, b, d, h, e => by
    obtain ⟨v, q, e1, h1, h2⟩ := h
    subst e1
    by_cases hk : (f == k) = true
    · rw [List.lookup_cons, hk] at e
      cases e
      exact ⟨v, by rw [List.lookup_cons, hk], h1⟩
    · have hk : (f == k) = false := by simpa using hk
      rw [List.lookup_cons, hk] at e
      obtain ⟨u, e2, e3⟩ := VFs.get h2 e
      exact ⟨u, by rw [List.lookup_cons, hk]; exact e2, e3⟩
theorem RepFs.get {K : PySem.W.Frag} {G : Hp} : ∀ {fs : Fd} {vs : List (Str × V)} {f : Str} {b : Bool} {d : D}, RepFs K G fs vs → fs.lookup f = some (b, d) → ∃ v, vs.lookup f = some v ∧ Rep K G d v
  | [], _, _, _, _, _, e => by cases e
  | (k, b', d') :: r, _, f, b, d, h, e => by
    obtain ⟨v, q, e1, h1, h2⟩ := h
    subst e1
    by_cases hk : (f == k) = true
    · rw [List.lookup_cons, hk] at e
      cases e
      exact ⟨v, by rw [List.lookup_cons, hk], h1⟩
    · have hk : (f == k) = false := by simpa using hk
      rw [List.lookup_cons, hk] at e
      obtain ⟨u, e2, e3⟩ := RepFs.get h2 e
      exact ⟨u, by rw [List.lookup_cons, hk]; exact e2, e3⟩
theorem VFs.none {K : PySem.W.Frag} {G H : Hp} : ∀ {fs : Fd} {vs : List (Str × V)} {f : Str}, VFs K G H fs vs → fs.lookup f = none → vs.lookup f = none
  | [], _, _, h, _ => by rw [show _ = [] from h]; rfl
  | (k, b', d') :: r, _, f, h, e => by
    obtain ⟨v, q, e1, h1, h2⟩ := h
    subst e1
    by_cases hk : (f == k) = true
    · rw [List.lookup_cons, hk] at e; cases e
    · have hk : (f == k) = false := by simpa using hk
      rw [List.lookup_cons, hk] at e ⊢
      exact VFs.none h2 e
theorem VFs.len {K : PySem.W.Frag} {G H : Hp} : ∀ {fs : Fd} {vs : List (Str × V)}, VFs K G H fs vs → vs.length = fs.length
  | [], _, h => by rw [show _ = [] from h]; rfl
  | (k, b', d') :: r, _, h => by
    obtain ⟨v, q, e1, h1, h2⟩ := h
    subst e1
    rw [List.length_cons, List.length_cons, VFs.len h2]
/-- no class of these has the name -/
def NoF (K : PySem.W.Frag) (cs : List Str) (f : Str) : Prop := ∀ c, c ∈ cs → ∀ C, PySem.W.nsIn K mainGlobals c = some (some (.ref C)) → L2.NoAttr K C f
section
variable {X : Cx} {en : Kn} {δ τ : List Slot} {R : Type} {C : Slot → List Slot → Res R → Prop} {m : Res R}
end

/-! ### the instance in hand -/
def putO (f : Str) (b : Bool) (d : D) : Fd → Fd
  | [] => [(f, b, d)]
  | (g, x) :: r => if g = f then (g, b, d) :: r else (g, x) :: putO f b d r
/-- the fields' values; as: the own lists' places -/
def OwF (K : PySem.W.Frag) (G M : Hp) : Fd → List Addr → List (Str × V) → Prop
  | [], as, vs => as = [] ∧ vs = []
  | (k, b, d) :: fs, as, vs => ∃ v r, vs = (k, v) :: r ∧ ((b = false ∧ Rep K G d v ∧ OwF K G M fs as r) ∨ (b = true ∧ ∃ a q, as = a :: q ∧ v = .ref a ∧ MRep K G M d a ∧ OwF K G M fs q r))
section
variable {K : PySem.W.Frag} {G M H : Hp}
theorem MRep.vf : ∀ {d : D} {p : Addr}, MRep K G H d p → VF K G H true d (.ref p)
  | .lst ds, p, h => by obtain ⟨vs, e, r⟩ := h; exact ⟨p, vs, rfl, e, r⟩
  | .dic ds, p, h => by obtain ⟨vs, e, r⟩ := h; exact ⟨p, vs, rfl, e, r⟩
  | .non, _, h => h.elim
  | .bl _, _, h => h.elim
  | .int _, _, h => h.elim
  | .str _, _, h => h.elim
  | .tup _, _, h => h.elim
  | .scr _, _, h => h.elim
  | .exc _ _, _, h => h.elim
  | .obj _ _, _, h => h.elim
theorem OwF.vfs : ∀ {fs : Fd} {as : List Addr} {vs : List (Str × V)}, OwF K G M fs as vs → VFs K G M fs vs
  | [], _, _, h => h.2
  | (k, b, d) :: r, _, _, h => by
    obtain ⟨v, q, e, h1⟩ := h
    rcases h1 with ⟨eb, h1, h2⟩ | ⟨eb, a, q', ea, ev, h1, h2⟩
    · subst eb
      exact ⟨v, q, e, by cases d <;> exact h1, h2.vfs⟩
    · subst eb ev
      exact ⟨_, q, e, h1.vf, h2.vfs⟩
theorem OwF.mono {G' M' : Hp} (sg : Sub G G') : ∀ {fs : Fd} {as : List Addr} {vs : List (Str × V)}, OwF K G M fs as vs → (∀ a, a ∈ as → ∀ o, M a = some o → M' a = some o) → OwF K G' M' fs as vs
  | [], _, _, h, _ => h
  | (k, b, d) :: r, _, _, h, km => by
    obtain ⟨v, q, e, h1⟩ := h
    rcases h1 with ⟨eb, h1, h2⟩ | ⟨eb, a, q', ea, ev, h1, h2⟩
    · exact ⟨v, q, e, .inl ⟨eb, Rep.sub sg _ _ h1, h2.mono sg km⟩⟩
    · subst ea
      exact ⟨v, q, e, .inr ⟨eb, a, q', rfl, ev, h1.keep sg (km a List.mem_cons_self), h2.mono sg fun x hx => km x (List.mem_cons_of_mem _ hx)⟩⟩
theorem OwF.get : ∀ {fs : Fd} {as : List Addr} {vs : List (Str × V)} {f : Str} {b : Bool} {d : D}, OwF K G M fs as vs → fs.lookup f = some (b, d) → ∃ v, vs.lookup f = some v ∧ ((b = false ∧ Rep K G d v) ∨ (b = true ∧ ∃ a, a ∈ as ∧ v = .ref a ∧ MRep K G M d a))
  | [], _, _, _, _, _, _, e => by cases e
  | (k, b', d') :: r, _, _, f, b, d, h, e => by
    obtain ⟨v, q, e1, h1⟩ := h
    subst e1
    by_cases hk : (f == k) = true
    · rw [List.lookup_cons, hk] at e
      cases e
      refine ⟨v, by rw [List.lookup_cons, hk], ?_⟩
      rcases h1 with ⟨eb, h1, h2⟩ | ⟨eb, a, q', ea, ev, h1, h2⟩
      · exact .inl ⟨eb, h1⟩
      · subst ea
        exact .inr ⟨eb, a, List.mem_cons_self, ev, h1⟩
    · have hk : (f == k) = false := by simpa using hk
      rw [List.lookup_cons, hk] at e
      rcases h1 with ⟨eb, h1, h2⟩ | ⟨eb, a, q', ea, ev, h1, h2⟩
      · obtain ⟨u, e2, e3⟩ := h2.get e
        exact ⟨u, by rw [List.lookup_cons, hk]; exact e2, e3⟩
      · subst ea
        obtain ⟨u, e2, e3⟩ := h2.get e
        refine ⟨u, by rw [List.lookup_cons, hk]; exact e2, ?_⟩
        rcases e3 with e3 | ⟨e3, a', m', e4⟩
        · exact .inl e3
        · exact .inr ⟨e3, a', List.mem_cons_of_mem _ m', e4⟩
/-- an own list changed -/
theorem OwF.mut {q : Addr} {o : HO} {d' : D} {f : Str} : ∀ {fs : Fd} {as : List Addr} {vs : List (Str × V)} {d : D}, as.Nodup → OwF K G M fs as vs → fs.lookup f = some (true, d) → vs.lookup f = some (.ref q) → MRep K G (upd M q o) d' q → OwF K G (upd M q o) (putO f true d' fs) as vs
  | [], _, _, _, _, _, e, _, _ => by cases e
  | (k, b', d0) :: r, as, _, d, nd, h, e, ev, hm => by
    obtain ⟨v, vr, e1, h1⟩ := h
    subst e1
    by_cases hk : f = k
    · have hkb : (f == k) = true := by simpa using hk
      rw [List.lookup_cons, hkb] at e ev
      cases e
      cases ev
      rcases h1 with ⟨eb, h1, h2⟩ | ⟨eb, a, q', ea, ev, h1, h2⟩
      · cases eb
      · subst ea
        cases ev
        unfold putO
        rw [if_pos hk.symm]
        refine ⟨_, vr, rfl, .inr ⟨rfl, q, q', rfl, rfl, hm, h2.mono (Sub.refl _) fun x hx o e => ?_⟩⟩
        rw [upd_ne fun z => by subst z; exact (List.nodup_cons.mp nd).1 hx]; exact e
    · have hkb : (f == k) = false := by simpa using hk
      rw [List.lookup_cons, hkb] at e ev
      have e : r.lookup f = some (true, d) := e
      have ev : vr.lookup f = some (.ref q) := ev
      unfold putO
      rw [if_neg (fun z => hk z.symm)]
      rcases h1 with ⟨eb, h1, h2⟩ | ⟨eb, a, q', ea, ev', h1, h2⟩
      · exact ⟨v, vr, rfl, .inl ⟨eb, h1, h2.mut nd e ev hm⟩⟩
      · subst ea
        obtain ⟨n1, n2⟩ := List.nodup_cons.mp nd
        have hq : q ∈ q' := by
          obtain ⟨u, e2, e3⟩ := h2.get e
          rw [ev] at e2
          cases e2
          rcases e3 with ⟨z, _⟩ | ⟨_, a', m', e4, _⟩
          · cases z
          · cases e4; exact m'
        exact ⟨v, vr, rfl, .inr ⟨eb, a, q', rfl, ev', h1.keep (Sub.refl _) fun o e => by rw [upd_ne fun z => by subst z; exact n1 hq]; exact e, h2.mut n2 e ev hm⟩⟩
end
/-- the instance at p, with all that is its own in M -/
def ObM (K : PySem.W.Frag) (G M : Hp) (c : Str) (p : Addr) (fs : Fd) : Prop :=
  ∃ C dx vs as, ObF K c C ∧ M p = some (.ins C dx vs) ∧ M dx = some (.own p) ∧ OwF K G M fs as vs ∧ as.Nodup
theorem OwF.own {K : PySem.W.Frag} {G M : Hp} : ∀ {fs : Fd} {as : List Addr} {vs : List (Str × V)}, OwF K G M fs as vs → ∀ a, a ∈ as → ∃ d, MRep K G M d a
  | [], _, _, h, a, ha => by rw [h.1] at ha; cases ha
  | (k, b, d) :: r, _, _, h, a, ha => by
    obtain ⟨v, q, e, h1⟩ := h
    rcases h1 with ⟨eb, h1, h2⟩ | ⟨eb, a', q', ea, ev, h1, h2⟩
    · exact h2.own a ha
    · subst ea
      rcases List.mem_cons.mp ha with z | z
      · subst z; exact ⟨d, h1⟩
      · exact h2.own a z
abbrev Kn.ext (en : Kn) (M : Hp) : Kn := { en with F0 := uni M en.F0 }
structure KnX (en en' : Kn) : Prop where
  n : en'.n = en.n
  ps : en'.ps = en.ps
  HX : en'.HX = en.HX
  F0 : Sub en.F0 en'.F0
theorem KnX.lk {X : Cx} {en en' : Kn} (h : KnX en en') (l : Lk X en) : Lk X en' := by
  obtain ⟨W, t, k⟩ := l
  exact ⟨W, t, fun x hx cls d σ H' e s => k x (h.HX ▸ hx) cls d σ H' (e.to fun a h1 h2 => ⟨h.F0.none h1, h.ps ▸ h2⟩) (h.F0.trans s)⟩
/-- what is borrowed, by place -/
def bwk : List Slot → List (Option D)
  | [] => []
  | .bw d :: r => some d :: bwk r
  | _ :: r => none :: bwk r
theorem bwk_get : ∀ {δ : List Slot} {j : Nat} {d : D}, δ[j]? = some (.bw d) ↔ (bwk δ)[j]? = some (some d)
  | [], j, d => by simp [bwk]
  | .bw e :: r, 0, d => by simp [bwk]
  | .un :: r, 0, d => by simp [bwk]
  | .fr _ :: r, 0, d => by simp [bwk]
  | .mu _ :: r, 0, d => by simp [bwk]
  | .mp _ _ :: r, 0, d => by simp [bwk]
  | .bo _ :: r, 0, d => by simp [bwk]
  | .bw e :: r, j + 1, d => by simpa [bwk] using bwk_get (δ := r) (j := j)
  | .un :: r, j + 1, d => by simpa [bwk] using bwk_get (δ := r) (j := j)
  | .fr _ :: r, j + 1, d => by simpa [bwk] using bwk_get (δ := r) (j := j)
  | .mu _ :: r, j + 1, d => by simpa [bwk] using bwk_get (δ := r) (j := j)
  | .mp _ _ :: r, j + 1, d => by simpa [bwk] using bwk_get (δ := r) (j := j)
  | .bo _ :: r, j + 1, d => by simpa [bwk] using bwk_get (δ := r) (j := j)
/-- the state within a def that has an instance of its own in hand: the name at i, the object at p, its parts in M -/
structure OSt (K : PySem.W.Frag) (en : Kn) (i : Nat) (c : Str) (p : Addr) (δ : List Slot) (σ : L2.St) (M G H : Hp) : Prop where
  wd : Wd K (en.ext M) δ σ G H
  mo : ∀ a o, M a = some o → en.F0 a = none ∧ en.G0 a = none ∧ a ∉ en.ps
  at_ : σ[i]? = some (some (.ref p))
  ob : ∃ fs, δ[i]? = some (.bw (.obj c fs)) ∧ ObM K G M c p fs
  bw : ∀ (j : Nat) d v, j ≠ i → δ[j]? = some (.bw d) → σ[j]? = some (some v) → BRep K G en.F0 d v
section
variable {K : PySem.W.Frag} {en : Kn} {i : Nat} {c : Str} {p : Addr} {δ δ' : List Slot} {σ σ' : L2.St} {M G H G' H' : Hp}
theorem OSt.fsub (O : OSt K en i c p δ σ M G H) : Sub en.F0 (en.ext M).F0 := fun a o e => by
  show uni M en.F0 a = some o
  unfold uni
  cases z : M a with
  | none => exact e
  | some u => rw [(O.mo a u z).1] at e; cases e
theorem OSt.msub (O : OSt K en i c p δ σ M G H) : Sub M H := fun a o e => O.wd.frm a o (uni_l a o e)
theorem OSt.gnone (O : OSt K en i c p δ σ M G H) {a : Addr} {o : HO} (h : M a = some o) : G a = none := by
  cases z : G a with
  | none => rfl
  | some u =>
    rcases O.wd.new a u z with q | ⟨q, _⟩
    · have := (O.mo a o h).2.1
      have q : en.G0 a = some u := q
      rw [this] at q; cases q
    · have q : uni M en.F0 a = none := q
      unfold uni at q
      rw [h] at q; cases q
theorem OSt.nown (O : OSt K en i c p δ σ M G H) {a : Addr} {o : HO} (h : M a = some o) {j : Nat} : ¬ Own δ σ j a := fun ⟨sl, e1, e2, e3⟩ => by
  have q := O.wd.slot j sl _ e1 e3
  have f0 : uni M en.F0 a = some o := uni_l a o h
  cases sl with
  | mu d => obtain ⟨p2, e, _, f, _, r⟩ := q; cases e; have f : uni M en.F0 a = none := f; rw [f0] at f; cases f
  | mp _ d => obtain ⟨p2, e, _, _, f, r⟩ := q; cases e; have f : uni M en.F0 a = none := f; rw [f0] at f; cases f
  | un => cases e2
  | fr _ => cases e2
  | bw _ => cases e2
  | bo _ => cases e2
theorem ObM.g (s : Sub G G') {fs : Fd} (h : ObM K G M c p fs) : ObM K G' M c p fs := by
  obtain ⟨C, dx, vs, as, h1, h2, h3, h4, h5⟩ := h
  exact ⟨C, dx, vs, as, h1, h2, h3, h4.mono s fun _ _ _ e => e, h5⟩
/-- on, the instance as it was -/
theorem OSt.keep (O : OSt K en i c p δ σ M G H) (W : Wd K (en.ext M) δ' σ' G' H') (sg : Sub G G') (hb : bwk δ' = bwk δ) (hs : ∀ (j : Nat) d, δ[j]? = some (.bw d) → σ'[j]? = σ[j]?) : OSt K en i c p δ' σ' M G' H' where
  wd := W
  mo := O.mo
  at_ := by
    obtain ⟨fs, h1, _⟩ := O.ob
    rw [hs i _ h1]; exact O.at_
  ob := by
    obtain ⟨fs, h1, h2⟩ := O.ob
    exact ⟨fs, bwk_get.mpr (by rw [hb]; exact bwk_get.mp h1), h2.g sg⟩
  bw := fun j d v hj h1 h2 => by
    have h3 : δ[j]? = some (.bw d) := bwk_get.mpr (by rw [← hb]; exact bwk_get.mp h1)
    rw [hs j d h3] at h2
    exact BRep.sub sg (Sub.refl _) (O.bw j d v hj h3 h2)
theorem VRep.ob {fs : Fd} (h : ObM K G M c p fs) (s : Sub M H) : VRep K G H (.obj c fs) (.ref p) := by
  obtain ⟨C, dx, vs, as, h1, h2, h3, h4, h5⟩ := h
  exact ⟨p, C, dx, vs, rfl, h1, s _ _ h2, s _ _ h3, VFs.sub (Sub.refl _) s h4.vfs⟩
/-- the instance is changed -/
theorem OSt.chg {M' : Hp} {fs' : Fd} (O : OSt K en i c p δ σ M G H) (hnb : noBo δ = true) (dom : ∀ a, M' a = none → M a = none) (sM : Sub M' H') (oth : ∀ a, M' a = none → H' a = H a)
    (new : ∀ a o, M' a = some o → M a = none → en.F0 a = none ∧ en.G0 a = none ∧ a ∉ en.ps ∧ G a = none ∧ ∀ j, ¬ Own δ σ j a) (ob : ObM K G M' c p fs') : OSt K en i c p (δ.set i (.bw (.obj c fs'))) σ M' G H' := by
  have mo' : ∀ a o, M' a = some o → en.F0 a = none ∧ en.G0 a = none ∧ a ∉ en.ps ∧ G a = none ∧ ∀ j, ¬ Own δ σ j a := fun a o e => by
    cases z : M a with
    | none => exact new a o e z
    | some u =>
      obtain ⟨h1, h2, h3⟩ := O.mo a u z
      exact ⟨h1, h2, h3, O.gnone z, fun j => O.nown z⟩
  have nm : ∀ {a : Addr} {P : Prop}, (∀ o, M' a = some o → False) → M' a = none := fun {a P} h => by
    cases z : M' a with
    | none => rfl
    | some o => exact (h o z).elim
  obtain ⟨fs, hi, hob⟩ := O.ob
  have hil := (List.getElem?_eq_some_iff.mp hi).1
  have f0 : ∀ {a : Addr}, uni M en.F0 a = none → en.F0 a = none := fun {a} h => by
    unfold uni at h
    split at h
    · cases h
    · exact h
  have nu : ∀ {a : Addr}, en.F0 a = none → M' a = none → uni M' en.F0 a = none := fun {a} h1 h2 => by
    unfold uni; rw [h2]; exact h1
  have fsub : Sub en.F0 (uni M' en.F0) := fun a o e => by
    unfold uni
    cases z : M' a with
    | none => exact e
    | some u => rw [(mo' a u z).1] at e; cases e
  have get : ∀ (j : Nat) sl, (δ.set i (.bw (.obj c fs')))[j]? = some sl → (j = i ∧ sl = .bw (.obj c fs')) ∨ (j ≠ i ∧ δ[j]? = some sl) := fun j sl h => by
    by_cases hj : j = i
    · subst hj
      rw [List.getElem?_set_self hil] at h
      exact .inl ⟨rfl, (Option.some.inj h).symm⟩
    · rw [List.getElem?_set_ne (Ne.symm hj)] at h
      exact .inr ⟨hj, h⟩
  have own : ∀ {j : Nat} {a : Addr}, Own (δ.set i (.bw (.obj c fs'))) σ j a → Own δ σ j a := fun {j a} ⟨sl, e1, e2, e3⟩ => by
    rcases get j sl e1 with ⟨_, z⟩ | ⟨_, z⟩
    · subst z; cases e2
    · exact ⟨sl, z, e2, e3⟩
  have Wn : Wd K (en.ext M') (δ.set i (.bw (.obj c fs'))) σ G H' := {
    len := by rw [List.length_set]; exact O.wd.len
    sub := fun a o e => by
      rw [oth a (nm (P := True) fun u z => by rw [(mo' a u z).2.2.2.1] at e; cases e)]; exact O.wd.sub a o e
    ext := O.wd.ext
    new := fun a o e => by
      rcases O.wd.new a o e with q | ⟨q1, q2⟩
      · exact .inl q
      · exact .inr ⟨nu (f0 q1) (nm (P := True) fun u z => by rw [(mo' a u z).2.2.2.1] at e; cases e), q2⟩
    frm := fun a o e => by
      have e : uni M' en.F0 a = some o := e
      unfold uni at e
      cases z : M' a with
      | some u => rw [z] at e; cases e; exact sM a _ z
      | none =>
        rw [z] at e
        rw [oth a z]
        exact O.wd.frm a o (O.fsub a o e)
    stay := fun a h => by
      rw [oth a (nm (P := True) fun u z => (mo' a u z).2.2.1 h)]; exact O.wd.stay a h
    nd := O.wd.nd
    slot := fun j sl o h1 h2 => by
      rcases get j sl h1 with ⟨z, e⟩ | ⟨hj, h3⟩
      · subst z e
        rw [O.at_] at h2
        cases h2
        exact ⟨_, rfl, BRep.mk (VRep.ob ob uni_l) fun z => by cases z⟩
      · have q := O.wd.slot j sl o h3 h2
        cases sl with
        | un => trivial
        | fr d => exact q
        | mu d =>
          obtain ⟨a, e, n1, n2, n3, r⟩ := q
          subst e
          have z : M' a = none := nm (P := True) fun u z => (mo' a u z).2.2.2.2 j ⟨_, h3, rfl, h2⟩
          exact ⟨a, rfl, n1, nu (f0 n2) z, n3, r.keep (Sub.refl _) fun o e => by rw [oth a z]; exact e⟩
        | mp l d =>
          obtain ⟨a, e, n0, n1, n2, r⟩ := q
          subst e
          have z : M' a = none := nm (P := True) fun u z => (mo' a u z).2.2.2.2 j ⟨_, h3, rfl, h2⟩
          exact ⟨a, rfl, n0, n1, nu (f0 n2) z, r.keep (Sub.refl _) fun o e => by rw [oth a z]; exact e⟩
        | bw d =>
          obtain ⟨v, e, _⟩ := q
          subst e
          exact ⟨v, rfl, BRep.sub (Sub.refl _) fsub (O.bw j d v hj h3 h2)⟩
        | bo l => exact (noBo_get hnb h3).elim
    apart := fun j l a h1 h2 => O.wd.apart j l a (own h1) (own h2) }
  refine ⟨Wn, fun a o e => ⟨(mo' a o e).1, (mo' a o e).2.1, (mo' a o e).2.2.1⟩, O.at_, ⟨fs', by rw [List.getElem?_set_self hil], ob⟩, fun j d v hj h1 h2 => ?_⟩
  rcases get j _ h1 with ⟨z, _⟩ | ⟨_, h3⟩
  · exact (hj z).elim
  · exact O.bw j d v hj h3 h2
end
end BR

/-! K51: the statements of a def that has an instance of its own in hand -/
namespace BR
open PySem PySem.Spec PyProof.Rows L2
section
variable (X : Cx) (en : Kn) (i : Nat) (c : Str)
structure JY (δ : List Slot) (st : Stmt) {R : Type} (N : List Slot → Res R → Prop) (RT : Slot → List Slot → Res R → Prop) (BK CT : List Slot → Res R → Prop) (m : Res R) : Prop where
  run : m ≠ .bad → en.HX m.exc → ∀ (σ : L2.St) (G H M : Hp) (p : Addr) (E : Ends), δ.length = en.n → OSt X.K en i c p δ σ M G H →
    (∀ δ' σ' G' H' M', N δ' m → δ'.length = en.n → OSt X.K en i c p δ' σ' M' G' H' → E.nx σ' H') →
    (∀ sl δ' v σ' G' H' M', RT sl δ' m → δ'.length = en.n → OSt X.K en i c p (δ' ++ [sl]) (σ' ++ [some v]) M' G' H' → E.rt v H') →
    (∀ δ' σ' G' H' M', BK δ' m → δ'.length = en.n → OSt X.K en i c p δ' σ' M' G' H' → E.bk σ' H') →
    (∀ δ' σ' G' H' M', CT δ' m → δ'.length = en.n → OSt X.K en i c p δ' σ' M' G' H' → E.ct σ' H') → WS X st E σ H
structure JYs (δ : List Slot) (st : List Stmt) {R : Type} (N : List Slot → Res R → Prop) (RT : Slot → List Slot → Res R → Prop) (BK CT : List Slot → Res R → Prop) (m : Res R) : Prop where
  run : m ≠ .bad → en.HX m.exc → ∀ (σ : L2.St) (G H M : Hp) (p : Addr) (E : Ends), δ.length = en.n → OSt X.K en i c p δ σ M G H →
    (∀ δ' σ' G' H' M', N δ' m → δ'.length = en.n → OSt X.K en i c p δ' σ' M' G' H' → E.nx σ' H') →
    (∀ sl δ' v σ' G' H' M', RT sl δ' m → δ'.length = en.n → OSt X.K en i c p (δ' ++ [sl]) (σ' ++ [some v]) M' G' H' → E.rt v H') →
    (∀ δ' σ' G' H' M', BK δ' m → δ'.length = en.n → OSt X.K en i c p δ' σ' M' G' H' → E.bk σ' H') →
    (∀ δ' σ' G' H' M', CT δ' m → δ'.length = en.n → OSt X.K en i c p δ' σ' M' G' H' → E.ct σ' H') → WSs X st E σ H
end
section
variable {X : Cx} {en : Kn} {i : Nat} {c : Str} {p : Addr} {δ δ' : List Slot} {σ σ' : L2.St} {M G H G' H' : Hp} {R : Type} {m : Res R}
theorem OSt.sl (O : OSt X.K en i c p δ σ M G H) (hl : δ.length = en.n) : List.length σ = en.n := O.wd.sl (en := en.ext M) hl
theorem OSt.le (O : OSt X.K en i c p δ σ M G H) (h : Le δ δ') (hi : ∃ fs, δ'[i]? = some (.bw (.obj c fs))) : OSt X.K en i c p δ' σ M G H where
  wd := O.wd.le h
  mo := O.mo
  at_ := O.at_
  ob := by
    obtain ⟨fs, e⟩ := hi
    rcases h.get e with z | z
    · cases z
    · obtain ⟨fs', e2, o⟩ := O.ob
      rw [e2] at z
      cases z
      exact ⟨fs, e, o⟩
  bw := fun j d v hj h1 h2 => by
    rcases h.get h1 with z | z
    · cases z
    · exact O.bw j d v hj z h2
/-- the state with a thing at hand, from the state without -/
theorem OSt.snoc {sl : Slot} {v : V} (O : OSt X.K en i c p δ σ M G H) (W : Wd X.K (en.ext M) (δ' ++ [sl]) (σ ++ [some v]) G' H') (sg : Sub G G') (hl : δ'.length = en.n) (hl0 : δ.length = en.n) (hb : bwk δ' = bwk δ) (hs : ∀ d, sl ≠ .bw d) : OSt X.K en i c p (δ' ++ [sl]) (σ ++ [some v]) M G' H' := by
  have hσ := O.sl hl0
  have O' : OSt X.K en i c p δ' σ M G' H' := O.keep (W.one (en := en.ext M) hl hσ) sg hb fun _ _ _ => rfl
  obtain ⟨fs, h1, h2⟩ := O'.ob
  refine ⟨W, O'.mo, ?_, ⟨fs, ?_, h2⟩, fun j d v hj e1 e2 => ?_⟩
  · rw [List.getElem?_append_left (List.getElem?_eq_some_iff.mp O'.at_).1]; exact O'.at_
  · rw [List.getElem?_append_left (List.getElem?_eq_some_iff.mp h1).1]; exact h1
  · by_cases hjl : j < δ'.length
    · rw [List.getElem?_append_left hjl] at e1
      rw [List.getElem?_append_left (by omega)] at e2
      exact O'.bw j d v hj e1 e2
    · have hj2 : j = δ'.length := by
        have := (List.getElem?_eq_some_iff.mp e1).1
        rw [List.length_append] at this
        have e1 : [sl].length = 1 := rfl
        omega
      subst hj2
      rw [getElem?_last] at e1
      exact (hs d (Option.some.inj e1)).elim
theorem OSt.drop {sl : Slot} {v : V} (O : OSt X.K en i c p (δ ++ [sl]) (σ ++ [some v]) M G H) (hl : δ.length = en.n) (hi : i < δ.length) : OSt X.K en i c p δ σ M G H := by
  have hσ : σ.length = en.n := by
    have := O.wd.len
    rw [List.length_append, List.length_append] at this
    have e1 : [sl].length = 1 := rfl
    have e2 : [some v].length = 1 := rfl
    omega
  obtain ⟨fs, h1, h2⟩ := O.ob
  refine ⟨O.wd.one (en := en.ext M) hl hσ, O.mo, ?_, ⟨fs, ?_, h2⟩, fun j d u hj e1 e2 => O.bw j d u hj ?_ ?_⟩
  · have := O.at_
    rwa [List.getElem?_append_left (by omega)] at this
  · rwa [List.getElem?_append_left hi] at h1
  · rw [List.getElem?_append_left (List.getElem?_eq_some_iff.mp e1).1]; exact e1
  · rw [List.getElem?_append_left (List.getElem?_eq_some_iff.mp e2).1]; exact e2
end
section
variable {X : Cx} {en : Kn} {i : Nat} {c : Str} {δ : List Slot} {R : Type} {m : Res R} {pos : Pos}
variable {N : List Slot → Res R → Prop} {RT : Slot → List Slot → Res R → Prop} {BK CT : List Slot → Res R → Prop}
/-- not borrowed -/
def nbw (s : Slot) : Bool := match s with
  | .fr _ => true
  | .mu _ => true
  | _ => false
end

/-! ### fields set, own lists changed -/
def sFs (f : Str) (fs : Fd) : Slot → Option Fd
  | .fr d => some (putO f false d fs)
  | .mu d => some (putO f true d fs)
  | _ => none
section
variable {X : Cx} {en : Kn} {i : Nat} {c : Str} {p : Addr} {δ δ' : List Slot} {σ σ' : L2.St} {M G H G' H' : Hp} {R : Type} {m : Res R} {pos : Pos}
variable {N : List Slot → Res R → Prop} {RT : Slot → List Slot → Res R → Prop} {BK CT : List Slot → Res R → Prop}
/-- the instance's fields at hand -/
theorem OSt.fld (O : OSt X.K en i c p δ σ M G H) : ∃ fs C dx vs as, δ[i]? = some (.bw (.obj c fs)) ∧ ObF X.K c C ∧ M p = some (.ins C dx vs) ∧ H p = some (.ins C dx vs) ∧ M dx = some (.own p) ∧ OwF X.K G M fs as vs ∧ as.Nodup := by
  obtain ⟨fs, h1, C, dx, vs, as, h2, h3, h4, h5, h6⟩ := O.ob
  exact ⟨fs, C, dx, vs, as, h1, h2, h3, O.msub _ _ h3, h4, h5, h6⟩
theorem OwF.len {K : PySem.W.Frag} {fs : Fd} {as : List Addr} {vs : List (Str × V)} (h : OwF K G M fs as vs) : vs.length = fs.length := h.vfs.len
theorem OwF.nin {K : PySem.W.Frag} {fs : Fd} {as : List Addr} {vs : List (Str × V)} (h : OwF K G M fs as vs) {a : Addr} {C dx : Addr} {us : List (Str × V)} (e : M a = some (.ins C dx us)) : a ∉ as := fun ha => by
  obtain ⟨d, r⟩ := h.own a ha
  cases d <;> first | exact r.elim | (obtain ⟨_, e2, _⟩ := r; rw [e] at e2; cases e2)
theorem OwF.nown {K : PySem.W.Frag} {fs : Fd} {as : List Addr} {vs : List (Str × V)} (h : OwF K G M fs as vs) {a y : Addr} (e : M a = some (.own y)) : a ∉ as := fun ha => by
  obtain ⟨d, r⟩ := h.own a ha
  cases d <;> first | exact r.elim | (obtain ⟨_, e2, _⟩ := r; rw [e] at e2; cases e2)
/-- an own list of the instance changed -/
theorem OSt.mut {f : Str} {d d' : D} {q : Addr} {fs : Fd} {C dx : Addr} {vs : List (Str × V)} {u : HO} (O : OSt X.K en i c p δ σ M G H) (hnb : noBo δ = true) (hi : δ[i]? = some (.bw (.obj c fs))) (hf : fs.lookup f = some (true, d)) (hp : M p = some (.ins C dx vs)) (hq : vs.lookup f = some (.ref q))
    (hr : MRep X.K G (upd H q u) d' q) : OSt X.K en i c p (δ.set i (.bw (.obj c (putO f true d' fs)))) σ (upd M q u) G (upd H q u) := by
  obtain ⟨fs', h1, C', dx', vs', as, h2, h3, h4, h5, h6⟩ := O.ob
  rw [hi] at h1; cases h1
  rw [hp] at h3; cases h3
  obtain ⟨v0, e0, r0⟩ := h5.get hf
  rw [hq] at e0; cases e0
  obtain ⟨hqa, hqr⟩ : q ∈ as ∧ MRep X.K G M d q := by
    rcases r0 with ⟨z, _⟩ | ⟨_, a, ha, ea, r⟩
    · cases z
    · cases ea; exact ⟨ha, r⟩
  obtain ⟨u0, eu0⟩ := hqr.ex
  have hqp : p ≠ q := fun z => by subst z; exact h5.nin hp hqa
  have hqd : dx ≠ q := fun z => by subst z; exact h5.nown h4 hqa
  refine O.chg hnb (fun a h => ?_) (fun a o e => ?_) (fun a h => ?_) (fun a o e h => ?_) ?_
  · by_cases ha : a = q
    · subst ha; rw [upd_same] at h; cases h
    · rw [upd_ne ha] at h; exact h
  · by_cases ha : a = q
    · subst ha; rw [upd_same] at e ⊢; exact e
    · rw [upd_ne ha] at e ⊢; exact O.msub _ _ e
  · by_cases ha : a = q
    · subst ha; rw [upd_same] at h; cases h
    · exact upd_ne ha
  · by_cases ha : a = q
    · subst ha; rw [eu0] at h; cases h
    · rw [upd_ne ha, h] at e; cases e
  · refine ⟨C, dx, vs, as, h2, by rw [upd_ne hqp]; exact hp, by rw [upd_ne hqd]; exact h4, h5.mut h6 hf hq ?_, h6⟩
    exact hr.keep (Sub.refl _) fun o e => by rw [upd_same] at e ⊢; exact e
end
end BR

/-! K52: methods that change their instance, instances made, methods that read -/
namespace BR
open PySem PySem.Spec PyProof.Rows L2

/-- without what is in M -/
def rem (H M : Hp) : Hp := fun a => match M a with
  | some _ => none
  | none => H a
/-- behind a run of a method -/
structure PostY (G H M G' H' M' : Hp) : Prop where
  g : Sub G G'
  gh : Sub G' H'
  mh : Sub M' H'
  new : ∀ a o, G' a = some o → G a = some o ∨ H a = none ∨ M a ≠ none
  frm : ∀ a o, H a = some o → M a = none → H' a = some o
  apart : ∀ a o, M' a = some o → G' a = none
  mnew : ∀ a o, M' a = some o → M a = none → H a = none
/-- a method's promise: s the fields at its begin, what it gives and the fields behind -/
def SpY (K : PySem.W.Frag) (mg : Str → Option Value) (c : Str) {γ α : Type} (mk : γ → Fd) (ks : List Kd) (f : γ → List D → Res α) (val : α → D) (fld : α → Fd) : Sp := fun vs H Q E =>
  ∃ p us, vs = .ref p :: us ∧ us.length = ks.length ∧ ∃ (G M : Hp) (ds : List D) (s : γ) (r : Res α), Sub G H ∧ Sub M H ∧ (∀ a o, M a = some o → G a = none) ∧ ObM K G M c p (mk s) ∧ ArgsOk K G H (rem H M) ks ds us [] ∧ f s ds = r ∧ r ≠ .bad ∧
    (∀ a, r = .ok a → ∀ v G' H' M', PostY G H M G' H' M' → ObM K G' M' c p (fld a) → Rep K G' (val a) v → Q v H') ∧
    (∀ x, r = .raise x → ∀ cls d H', ExcOk mg (rem H M) [] x cls d H' → Sub (rem H M) H' → E cls d H')
section
variable {P : Program} {w : World} {K : PySem.W.Frag} {mg : Str → Option Value} {base : Heap}
/-- a method of the class c that keeps its promise -/
def DfY (P : Program) (w : World) (K : PySem.W.Frag) (mg : Str → Option Value) (base : Heap) (k : Nat) (c m : Str) {γ α : Type} (mk : γ → Fd) (ks : List Kd) (f : γ → List D → Res α) (val : α → D) (fld : α → Fd) : Prop :=
  ∃ (fa : Addr) (fd : FuncData) (psn : List Str), FnG P w K mg base k fa fd psn (SpY K mg c mk ks f val fld) ∧ (∀ C, PySem.W.nsIn K mainGlobals c = some (some (.ref C)) → L2.Meth K C m fa) ∧ Binds K fd psn [] ∧ nms ks = 0
/-- the class c, whose instances are made so -/
def DfI (P : Program) (w : World) (K : PySem.W.Frag) (mg : Str → Option Value) (base : Heap) (k : Nat) (c : Str) {α : Type} (ks : List Kd) (f : List D → Res α) (fld : α → Fd) : Prop :=
  ∃ (C fa : Addr) (fd : FuncData) (psn : List Str), FnG P w K mg base k fa fd psn (SpY K mg c (fun _ : Unit => []) ks (fun _ => f) (fun _ => .non) fld) ∧ mg c = some (.ref C) ∧ ObF K c C ∧ L2.Mk K C fa ∧ Binds K fd psn [] ∧ nms ks = 0
/-- a method of the class c that reads alone -/
def DfM (P : Program) (w : World) (K : PySem.W.Frag) (mg : Str → Option Value) (base : Heap) (k : Nat) (c m : Str) (ks : List Kd) {α : Type} (den : List D → Res α) (val : α → D) (mu : Bool) : Prop :=
  ∃ (C fa : Addr) (fd : FuncData) (psn : List Str), FnG P w K mg base k fa fd psn (SpD K mg ks den val (fun _ => []) mu) ∧ ObF K c C ∧ L2.Meth K C m fa ∧ Binds K fd psn []
def unfl (fs : Fd) : Fd := fs.map fun z => (z.1, false, z.2.2)
theorem OwF.fast {K : PySem.W.Frag} {G M : Hp} (sm : Sub M (uni M G)) (sg : Sub G (uni M G)) : ∀ {fs : Fd} {as : List Addr} {vs : List (Str × V)}, OwF K G M fs as vs → RepFs K (uni M G) (unfl fs) vs
  | [], _, _, h => h.2
  | (k, b, d) :: r, _, _, h => by
    obtain ⟨v, q, e, h1⟩ := h
    rcases h1 with ⟨eb, h1, h2⟩ | ⟨eb, a, q', ea, ev, h1, h2⟩
    · exact ⟨v, q, e, Rep.sub sg _ _ h1, h2.fast sm sg⟩
    · subst ev
      refine ⟨_, q, e, ?_, h2.fast sm sg⟩
      cases d <;> first | exact h1.elim | skip
      · obtain ⟨us, e1, r1⟩ := h1; exact ⟨a, us, rfl, sm _ _ e1, Reps.sub sg _ _ r1⟩
      · obtain ⟨us, e1, r1⟩ := h1; exact ⟨a, us, rfl, sm _ _ e1, RepKs.sub sg _ _ r1⟩
end
section
variable {X : Cx} {en : Kn} {i : Nat} {c : Str} {p : Addr} {δ δ' : List Slot} {σ σ' : L2.St} {M M' G H G' H' : Hp} {R : Type} {m : Res R} {pos : Pos}
variable {N : List Slot → Res R → Prop} {RT : Slot → List Slot → Res R → Prop} {BK CT : List Slot → Res R → Prop}
/-- behind a call that changed the instance -/
theorem OSt.called {K : PySem.W.Frag} {fs' : Fd} (O : OSt K en i c p δ σ M G H) (hnb : noBo δ = true) (po : PostY G H M G' H' M') (ob : ObM K G' M' c p fs') : OSt K en i c p (δ.set i (.bw (.obj c fs'))) σ M' G' H' := by
  have fresh : ∀ {a : Addr}, H a = none → en.F0 a = none ∧ en.G0 a = none ∧ a ∉ en.ps ∧ G a = none := fun {a} h => by
    obtain ⟨h1, h2, h3⟩ := O.wd.fresh h
    have h2 : uni M en.F0 a = none := h2
    refine ⟨?_, ?_, h3, h1⟩
    · unfold uni at h2
      split at h2
      · cases h2
      · exact h2
    · cases z : en.G0 a with
      | none => rfl
      | some o => have := O.wd.ext a o z; rw [h1] at this; cases this
  have mo' : ∀ a o, M' a = some o → en.F0 a = none ∧ en.G0 a = none ∧ a ∉ en.ps := fun a o e => by
    cases z : M a with
    | some u => exact O.mo a u z
    | none =>
      obtain ⟨h1, h2, h3, _⟩ := fresh (po.mnew a o e z)
      exact ⟨h1, h2, h3⟩
  have mnone : ∀ {a : Addr} {o : HO}, H a = some o → M a = none → M' a = none := fun {a o} h1 h2 => by
    cases z : M' a with
    | none => rfl
    | some u => have := po.mnew a u z h2; rw [h1] at this; cases this
  obtain ⟨fs, hi, hob⟩ := O.ob
  have hil := (List.getElem?_eq_some_iff.mp hi).1
  have f0 : ∀ {a : Addr}, uni M en.F0 a = none → en.F0 a = none ∧ M a = none := fun {a} h => by
    unfold uni at h
    split at h
    · cases h
    · rename_i z; exact ⟨h, z⟩
  have nu : ∀ {a : Addr}, en.F0 a = none → M' a = none → uni M' en.F0 a = none := fun {a} h1 h2 => by
    unfold uni; rw [h2]; exact h1
  have fsub : Sub en.F0 (uni M' en.F0) := fun a o e => by
    unfold uni
    cases z : M' a with
    | none => exact e
    | some u => rw [(mo' a u z).1] at e; cases e
  have get : ∀ (j : Nat) sl, (δ.set i (.bw (.obj c fs')))[j]? = some sl → (j = i ∧ sl = .bw (.obj c fs')) ∨ (j ≠ i ∧ δ[j]? = some sl) := fun j sl h => by
    by_cases hj : j = i
    · subst hj
      rw [List.getElem?_set_self hil] at h
      exact .inl ⟨rfl, (Option.some.inj h).symm⟩
    · rw [List.getElem?_set_ne (Ne.symm hj)] at h
      exact .inr ⟨hj, h⟩
  have own : ∀ {j : Nat} {a : Addr}, Own (δ.set i (.bw (.obj c fs'))) σ j a → Own δ σ j a := fun {j a} ⟨sl, e1, e2, e3⟩ => by
    rcases get j sl e1 with ⟨_, z⟩ | ⟨_, z⟩
    · subst z; cases e2
    · exact ⟨sl, z, e2, e3⟩
  have gnone' : ∀ {a : Addr} {o : HO}, H a = some o → G a = none → M a = none → G' a = none := fun {a o} h1 h2 h3 => by
    cases z : G' a with
    | none => rfl
    | some u =>
      rcases po.new a u z with q | q | q
      · rw [h2] at q; cases q
      · rw [h1] at q; cases q
      · exact (q h3).elim
  have ownM : ∀ {j : Nat} {a : Addr}, Own δ σ j a → M a = none := fun {j a} ow => by
    cases z : M a with
    | none => rfl
    | some o => exact (O.nown z ow).elim
  have Wn : Wd K (en.ext M') (δ.set i (.bw (.obj c fs'))) σ G' H' := {
    len := by rw [List.length_set]; exact O.wd.len
    sub := po.gh
    ext := O.wd.ext.trans po.g
    new := fun a o e => by
      have nm : M' a = none := by
        cases z : M' a with
        | none => rfl
        | some u => have := po.apart a u z; rw [this] at e; cases e
      rcases po.new a o e with q | q | q
      · rcases O.wd.new a o q with q | ⟨q1, q2⟩
        · exact .inl q
        · exact .inr ⟨nu (f0 q1).1 nm, q2⟩
      · obtain ⟨h1, h2, h3, _⟩ := fresh q
        exact .inr ⟨nu h1 nm, h3⟩
      · cases z : M a with
        | none => exact (q z).elim
        | some u => exact .inr ⟨nu (O.mo a u z).1 nm, (O.mo a u z).2.2⟩
    frm := fun a o e => by
      have e : uni M' en.F0 a = some o := e
      unfold uni at e
      cases z : M' a with
      | some u => rw [z] at e; cases e; exact po.mh a _ z
      | none =>
        rw [z] at e
        refine po.frm a o (O.wd.frm a o (O.fsub a o e)) ?_
        cases zm : M a with
        | none => rfl
        | some u => have e : en.F0 a = some o := e; rw [(O.mo a u zm).1] at e; cases e
    stay := fun a h => by
      have h1 := O.wd.stay a h
      cases z : H a with
      | none => exact (h1 z).elim
      | some o =>
        rw [po.frm a o z (by
          cases zm : M a with
          | none => rfl
          | some u => exact ((O.mo a u zm).2.2 h).elim)]
        simp
    nd := O.wd.nd
    slot := fun j sl o h1 h2 => by
      rcases get j sl h1 with ⟨z, e⟩ | ⟨hj, h3⟩
      · subst z e
        rw [O.at_] at h2
        cases h2
        exact ⟨_, rfl, BRep.mk (VRep.ob ob uni_l) fun z => by cases z⟩
      · have q := O.wd.slot j sl o h3 h2
        cases sl with
        | un => trivial
        | fr d => obtain ⟨v, e, r⟩ := q; exact ⟨v, e, Rep.sub po.g _ _ r⟩
        | mu d =>
          obtain ⟨a, e, n1, n2, n3, r⟩ := q
          subst e
          have zm := ownM ⟨_, h3, rfl, h2⟩
          obtain ⟨u, eu⟩ := r.ex
          exact ⟨a, rfl, gnone' eu n1 zm, nu (f0 n2).1 (mnone eu zm), n3, r.keep po.g fun o e => po.frm a o e zm⟩
        | mp l d =>
          obtain ⟨a, e, n0, n1, n2, r⟩ := q
          subst e
          have zm := ownM ⟨_, h3, rfl, h2⟩
          obtain ⟨u, eu⟩ := r.ex
          exact ⟨a, rfl, n0, gnone' eu n1 zm, nu (f0 n2).1 (mnone eu zm), r.keep po.g fun o e => po.frm a o e zm⟩
        | bw d =>
          obtain ⟨v, e, _⟩ := q
          subst e
          exact ⟨v, rfl, BRep.sub po.g fsub (O.bw j d v hj h3 h2)⟩
        | bo l => exact (noBo_get hnb h3).elim
    apart := fun j l a h1 h2 => O.wd.apart j l a (own h1) (own h2) }
  refine ⟨Wn, mo', O.at_, ⟨fs', by rw [List.getElem?_set_self hil], ob⟩, fun j d v hj h1 h2 => ?_⟩
  rcases get j _ h1 with ⟨z, _⟩ | ⟨_, h3⟩
  · exact (hj z).elim
  · exact BRep.sub po.g (Sub.refl _) (O.bw j d v hj h3 h2)
end
/-- an instance that has no field of a method's name -/
def objD (c m : Str) : D → Option Unit
  | .obj c' fs => if c' = c ∧ fs.lookup m = none then some () else none
  | _ => none
section
variable {X : Cx} {en : Kn} {δ τ : List Slot} {R : Type} {C : Slot → List Slot → Res R → Prop} {m : Res R} {K : PySem.W.Frag}
end
end BR

/-! K53: comprehensions of two clauses without tests, nothing changed within -/
namespace BR
open PySem PySem.Spec PyProof.Rows L2

def lcI : List D → List D → (D → Res D) → Res (List D)
  | [], acc, _ => .ok acc
  | e :: es, acc, f => match f e with
    | .ok y => if acc.length < sizeLine then lcI es (acc ++ [y]) f else .bad
    | _ => .bad
def lc2F : List D → List D → (D → Res (List D)) → (D → D → Res D) → Res (List D)
  | [], acc, _, _ => .ok acc
  | d :: ds, acc, g, f => match g d with
    | .ok es => (match lcI es acc (f d) with
      | .ok acc' => lc2F ds acc' g f
      | _ => .bad)
    | _ => .bad
section
variable {X : Cx} {en : Kn} {δ τ : List Slot} {R : Type} {C : Slot → List Slot → Res R → Prop} {m : Res R} {K : PySem.W.Frag}
end
end BR

/-! K54: an own list grows in place: x += list -/
namespace BR
open PySem PySem.Spec PyProof.Rows L2
section
variable {X : Cx} {en : Kn} {δ : List Slot} {R : Type} {N RT BK CT : List Slot → Res R → Prop} {m : Res R}
variable {RT' : Slot → List Slot → Res R → Prop}
end
end BR

/-! K55: a op b op c as a value; str of a number -/
namespace BR
open PySem PySem.Spec PyProof.Rows L2
section
variable {X : Cx} {en : Kn} {R : Type} {δ τ : List Slot} {m : Res R} {pos : Pos}
end
/-- str(n) -/
def strI : List D → Option D
  | [.int i] => if i.natAbs.log2 < 1920 then some (.str (toString i)) else none
  | _ => none
section
variable {X : Cx}
end
end BR

/-! K56: statements of any kind between what was told and its change -/
namespace BR
open PySem PySem.Spec PyProof.Rows L2
/-- lists and dicts alone -/
def ldO (G : Hp) : Hp := fun a => match G a with
  | some (.lst xs) => some (.lst xs)
  | some (.dK kv) => some (.dK kv)
  | _ => none
theorem ld_at {G : Hp} {a : Addr} {o : HO} (h : ldO G a = some o) : G a = some o ∧ noL G a = none := by
  unfold ldO at h
  split at h
  · rename_i xs e
    cases h
    exact ⟨e, by unfold noL; rw [e]⟩
  · rename_i kv e
    cases h
    exact ⟨e, by unfold noL; rw [e]⟩
  · cases h
/-- H without the lists and dicts of G -/
def wo (H G : Hp) : Hp := fun a => match ldO G a with
  | some _ => none
  | none => H a
abbrev Kn.wide (en : Kn) (G : Hp) : Kn := { n := en.n, G0 := noL G, F0 := uni en.F0 (ldO G), ps := en.ps, HX := en.HX, h0 := en.h0 }
/-- what is known of what stood fast before it was told -/
structure Pre (en : Kn) (G : Hp) : Prop where
  ext : Sub en.G0 G
  new : ∀ a o, G a = some o → en.G0 a = some o ∨ (en.F0 a = none ∧ a ∉ en.ps)
  fit : ∀ a o u, en.F0 a = some u → G a = some o → u = o
section
variable {K : PySem.W.Frag} {en : Kn} {Δ : List Slot} {S : L2.St} {G G' H : Hp}
theorem Pre.F (P : Pre en G) : Sub (ldO G) (en.wide G).F0 := fun a o h => by
  show uni en.F0 (ldO G) a = some o
  unfold uni
  cases e : en.F0 a with
  | none => exact h
  | some u => rw [P.fit a o u e (ld_at h).1]
end
/-- the names as they are taken along: ds what is looked at (true: it stands fast) -/
inductive BV : List Slot → List Slot → List (Bool × D) → Prop where
  | n : BV [] [] []
  | u {s : Slot} {δ δ' : List Slot} {ds : List (Bool × D)} : BV δ δ' ds → BV (s :: δ) (.un :: δ') ds
  | f {d : D} {δ δ' : List Slot} {ds : List (Bool × D)} : BV δ δ' ds → BV (.fr d :: δ) (.fr d :: δ') ((true, d) :: ds)
  | c {d : D} {δ δ' : List Slot} {ds : List (Bool × D)} : BV δ δ' ds → BV (.fr d :: δ) (.bw d :: δ') ((false, d) :: ds)
  | m {d : D} {δ δ' : List Slot} {ds : List (Bool × D)} : BV δ δ' ds → BV (.mu d :: δ) (.mu d :: δ') ((false, d) :: ds)
  | p {j : Nat} {d : D} {δ δ' : List Slot} {ds : List (Bool × D)} : BV δ δ' ds → BV (.mp j d :: δ) (.mp j d :: δ') ((false, d) :: ds)
/-- .. and left -/
inductive EV : List Slot → List Slot → List (Bool × D) → Prop where
  | n : EV [] [] []
  | u {s : Slot} {δ δ' : List Slot} {ds : List (Bool × D)} : EV δ δ' ds → EV (s :: δ) (.un :: δ') ds
  | f {d : D} {δ δ' : List Slot} {ds : List (Bool × D)} : EV δ δ' ds → EV (.fr d :: δ) (.fr d :: δ') ((true, d) :: ds)
  | m {d : D} {δ δ' : List Slot} {ds : List (Bool × D)} : EV δ δ' ds → EV (.mu d :: δ) (.mu d :: δ') ((false, d) :: ds)
  | p {j : Nat} {d : D} {δ δ' : List Slot} {ds : List (Bool × D)} : EV δ δ' ds → EV (.mp j d :: δ) (.mp j d :: δ') ((false, d) :: ds)
theorem BV.len {δ δ' : List Slot} {ds : List (Bool × D)} (h : BV δ δ' ds) : δ'.length = δ.length := by
  induction h with
  | n => rfl
  | u _ ih => rw [List.length_cons, List.length_cons, ih]
  | f _ ih => rw [List.length_cons, List.length_cons, ih]
  | c _ ih => rw [List.length_cons, List.length_cons, ih]
  | m _ ih => rw [List.length_cons, List.length_cons, ih]
  | p _ ih => rw [List.length_cons, List.length_cons, ih]
theorem BV.get {δ δ' : List Slot} {ds : List (Bool × D)} (h : BV δ δ' ds) : ∀ {i : Nat} {sl : Slot}, δ'[i]? = some sl → sl = .un ∨ (∃ d, sl = .fr d ∧ δ[i]? = some (.fr d) ∧ (true, d) ∈ ds) ∨ (∃ d, sl = .bw d ∧ δ[i]? = some (.fr d) ∧ (false, d) ∈ ds) ∨ (∃ d, sl = .mu d ∧ δ[i]? = some (.mu d) ∧ (false, d) ∈ ds) ∨ ∃ j d, sl = .mp j d ∧ δ[i]? = some (.mp j d) ∧ (false, d) ∈ ds := by
  induction h with
  | n => intro i sl e; simp at e
  | @u s δ δ' ds _ ih =>
    intro i sl e
    cases i with
    | zero => exact .inl (by simpa using e.symm)
    | succ i =>
      rcases ih (i := i) (by simpa using e) with z | ⟨d, a, b, c⟩ | ⟨d, a, b, c⟩ | ⟨d, a, b, c⟩ | ⟨j, d, a, b, c⟩
      · exact .inl z
      · exact .inr (.inl ⟨d, a, by simpa using b, c⟩)
      · exact .inr (.inr (.inl ⟨d, a, by simpa using b, c⟩))
      · exact .inr (.inr (.inr (.inl ⟨d, a, by simpa using b, c⟩)))
      · exact .inr (.inr (.inr (.inr ⟨j, d, a, by simpa using b, c⟩)))
  | @f d0 δ δ' ds _ ih =>
    intro i sl e
    cases i with
    | zero => exact .inr (.inl ⟨d0, by simpa using e.symm, rfl, List.mem_cons_self⟩)
    | succ i =>
      rcases ih (i := i) (by simpa using e) with z | ⟨d, a, b, c⟩ | ⟨d, a, b, c⟩ | ⟨d, a, b, c⟩ | ⟨j, d, a, b, c⟩
      · exact .inl z
      · exact .inr (.inl ⟨d, a, by simpa using b, List.mem_cons_of_mem _ c⟩)
      · exact .inr (.inr (.inl ⟨d, a, by simpa using b, List.mem_cons_of_mem _ c⟩))
      · exact .inr (.inr (.inr (.inl ⟨d, a, by simpa using b, List.mem_cons_of_mem _ c⟩)))
      · exact .inr (.inr (.inr (.inr ⟨j, d, a, by simpa using b, List.mem_cons_of_mem _ c⟩)))
  | @c d0 δ δ' ds _ ih =>
    intro i sl e
    cases i with
    | zero => exact .inr (.inr (.inl ⟨d0, by simpa using e.symm, rfl, List.mem_cons_self⟩))
    | succ i =>
      rcases ih (i := i) (by simpa using e) with z | ⟨d, a, b, c⟩ | ⟨d, a, b, c⟩ | ⟨d, a, b, c⟩ | ⟨j, d, a, b, c⟩
      · exact .inl z
      · exact .inr (.inl ⟨d, a, by simpa using b, List.mem_cons_of_mem _ c⟩)
      · exact .inr (.inr (.inl ⟨d, a, by simpa using b, List.mem_cons_of_mem _ c⟩))
      · exact .inr (.inr (.inr (.inl ⟨d, a, by simpa using b, List.mem_cons_of_mem _ c⟩)))
      · exact .inr (.inr (.inr (.inr ⟨j, d, a, by simpa using b, List.mem_cons_of_mem _ c⟩)))
  | @m d0 δ δ' ds _ ih =>
    intro i sl e
    cases i with
    | zero => exact .inr (.inr (.inr (.inl ⟨d0, by simpa using e.symm, rfl, List.mem_cons_self⟩)))
    | succ i =>
      rcases ih (i := i) (by simpa using e) with z | ⟨d, a, b, c⟩ | ⟨d, a, b, c⟩ | ⟨d, a, b, c⟩ | ⟨j, d, a, b, c⟩
      · exact .inl z
      · exact .inr (.inl ⟨d, a, by simpa using b, List.mem_cons_of_mem _ c⟩)
      · exact .inr (.inr (.inl ⟨d, a, by simpa using b, List.mem_cons_of_mem _ c⟩))
      · exact .inr (.inr (.inr (.inl ⟨d, a, by simpa using b, List.mem_cons_of_mem _ c⟩)))
      · exact .inr (.inr (.inr (.inr ⟨j, d, a, by simpa using b, List.mem_cons_of_mem _ c⟩)))
  | @p j0 d0 δ δ' ds _ ih =>
    intro i sl e
    cases i with
    | zero => exact .inr (.inr (.inr (.inr ⟨j0, d0, by simpa using e.symm, rfl, List.mem_cons_self⟩)))
    | succ i =>
      rcases ih (i := i) (by simpa using e) with z | ⟨d, a, b, c⟩ | ⟨d, a, b, c⟩ | ⟨d, a, b, c⟩ | ⟨j, d, a, b, c⟩
      · exact .inl z
      · exact .inr (.inl ⟨d, a, by simpa using b, List.mem_cons_of_mem _ c⟩)
      · exact .inr (.inr (.inl ⟨d, a, by simpa using b, List.mem_cons_of_mem _ c⟩))
      · exact .inr (.inr (.inr (.inl ⟨d, a, by simpa using b, List.mem_cons_of_mem _ c⟩)))
      · exact .inr (.inr (.inr (.inr ⟨j, d, a, by simpa using b, List.mem_cons_of_mem _ c⟩)))
section
variable {K : PySem.W.Frag} {en : Kn} {δ δ' : List Slot} {σ : L2.St} {G G' G1 H0 H : Hp} {ds : List (Bool × D)}
theorem MRep.same {d : D} {p : Addr} {A A' B : Hp} (s : Sub A A') (h : MRep K A B d p) : MRep K A' B d p := h.keep s fun o e => e
theorem Wd.pre (W : Wd K en δ σ G H0) : Pre en G where
  ext := W.ext
  new := W.new
  fit := fun a o u h1 h2 => by
    have e1 := W.frm a u h1
    have e2 := W.sub a o h2
    rw [e1] at e2
    exact Option.some.inj e2
end
section
variable {X : Cx} {en : Kn} {R : Type} {δ : List Slot} {N : List Slot → Res R → Prop} {RT : Slot → List Slot → Res R → Prop} {BK CT : List Slot → Res R → Prop} {m : Res R} {pos : Pos}
/-- the name i has what was told (d), which is let stand for a while: any statement may be run -/
structure JV (X : Cx) (en : Kn) (δ : List Slot) (i : Nat) (d : D) (sts : List Stmt) {R : Type} (N : List Slot → Res R → Prop) (RT : Slot → List Slot → Res R → Prop) (BK CT : List Slot → Res R → Prop) (m : Res R) : Prop where
  run : m ≠ .bad → en.HX m.exc → ∀ (σ : L2.St) (G G' H : Hp) (E : Ends), δ.length = en.n → Pre en G → δ[i]? = some (.fr d) → Wd X.K (en.wide G) δ σ G' H →
    (∀ δ' σ' G' H', N δ' m → δ'.length = en.n → Wd X.K en δ' σ' G' H' → E.nx σ' H') →
    (∀ sl δ' v σ' G' H', RT sl δ' m → δ'.length = en.n → Wd X.K en (δ' ++ [sl]) (σ' ++ [some v]) G' H' → E.rt v H') →
    (∀ δ' σ' G' H', BK δ' m → δ'.length = en.n → Wd X.K en δ' σ' G' H' → E.bk σ' H') →
    (∀ δ' σ' G' H', CT δ' m → δ'.length = en.n → Wd X.K en δ' σ' G' H' → E.ct σ' H') → WSs X sts E σ H
end
end BR

/-! K57: errors of own classes with an own begin: made, raised, their fields read -/
namespace BR
open PySem PySem.Spec PyProof.Rows L2
section
variable {X : Cx} {e : Expr} {es : List Expr} {ta te : TA} {p pos : Pos}
/-- C(e, ..), C an own error class with an own begin -/
theorem pmk_oexG {x : Str} {C fI : Addr} {k : Nat} {fd : FuncData} {ps : List Str} {sp : Sp} (T : OexC X.K C) (iC : PySem.W.findIn X.K (.ref C) "__init__" = some (some (.ref fI))) (tI : PySem.W.typeIn X.K (.ref fI) = some (.type "function"))
    (F1 : FnG X.prog X.w X.K X.mg X.base k fI fd ps sp) (hr : RoomG (k + 1) X.A) (hb : L2.Binds X.K fd ps []) (hx : Passes (L2N.CX X.prog X.w) X (fun _ _ _ => False)) (hg : Gl X x) (hm : X.mg x = some (.ref C)) (ha : PA X (e :: es) ta)
    (hdb : (x == ("__debug__" : Str)) = false := by decide) (he : starEach (e :: es) X.env = (false, eval e X.env) :: starEach es X.env := by rfl) (hpl : (backTo pos (starEach es X.env)).any (·.1) = false := by rfl) :
    L2N.PMk X (.Call (.Name x p) (e :: es) [] pos) (tMkO C sp [] ta) := fun pins s σ H Q I h => by
  obtain ⟨nm, q, N, bs, bm, sn, sub, ab, col, dd, k0, k1, k2, k3, k5, hC, hbm⟩ := T.cls
  refine wpAny_Call_Name_kw (ld_glob I hg hm (PySem.W.callWith_K (h₀ := X.base) I.ok.mod.kin T.kC (thn (ha.run pos pins s σ H _ I h) fun us s1 ⟨vs, H1, I1, r1, hz, q1⟩ => ⟨I1.kIn, ?_⟩) he hpl) hdb)
  obtain ⟨hp, g, dr, tk, os⟩ := s1
  have grow : ∀ b o, hp.get? b = some o → ((hp.push (PySem.W.kdv_tup us)).push (PySem.HandSPX.excO C hp.objs.size)).get? b = some o := fun b o e => Heap.get?_push_of_some _ (Heap.get?_push_of_some _ e)
  have at1 : ((hp.push (PySem.W.kdv_tup us)).push (PySem.HandSPX.excO C hp.objs.size)).get? (hp.objs.size + 1) = some (PySem.HandSPX.excO C hp.objs.size) := by heap_get
  have I2 := I1.laid (t' := tk) (a := hp.objs.size + 1) (o := exo (hp.objs.size + 1) C none) (h' := (hp.push (PySem.W.kdv_tup us)).push (PySem.HandSPX.excO C hp.objs.size)) grow (Nat.le_succ _) (exo_ok at1)
  have hq := q1 (hp.objs.size + 1) (I1.hok.fresh (Nat.le_succ _))
  rw [List.append_nil] at hq
  have r2 : Vals (V.ref (hp.objs.size + 1) :: vs) (Value.ref (hp.objs.size + 1) :: us) := .cons rfl r1
  have hl : (Value.ref (hp.objs.size + 1) :: us).length = ps.length := r2.length.symm.trans (F1.len _ _ _ _ hq)
  have hus : us.length ≤ sizeLine := by rw [← Paired.length r1, sizeLine_eq]; omega
  have hbd := hb _ (Value.ref (hp.objs.size + 1) :: us) I2.kIn (by rw [List.append_nil]; exact hl)
  rw [List.append_nil] at hbd
  refine wpAny_call (PySem.HandSPX.call_own F.excBase_ValueError (fun Y => PySem.HandSPX.refsVE_contains Y bm hbm) (I1.kIn _ _ hC) (PySem.W.looks_findIn I1.kIn iC) (fun self => PySem.W.bind_fn I1.kIn self tI) hus
    (codeAny_mono (F1.run _ X.stack _ _ ⟨Value.ref (hp.objs.size + 1) :: us, []⟩ (Value.ref (hp.objs.size + 1) :: us) _ _ (fun _ _ _ => False) ⟨hr.r.make C us [], hr.g⟩ (I2.env0.make C us []) hbd r2 hq) fun r s' hq' => ?_))
  cases r with
  | error er => exact hx pins σ _ _ er s' I2 hq'
  | ok fl =>
    cases fl with
    | ret u =>
      obtain ⟨v, H2, os2, bare2, un2, hok2, rv, rfl, d, fs, ea, ed, hd1, q2⟩ := hq'
      obtain ⟨h2, g2, d2, t2, os'⟩ := s'
      obtain ⟨t0, G, J, kG, ge, hoe, na⟩ := mk_end0 (d2 := d2) (t2 := t2) I1 (Nat.le_succ _) grow un2 hok2 os2 bare2 ea ed hd1
      exact ⟨rv, _, _, _, ⟨G, g2, d2, t2, os'⟩, _, .ref C, some d, rfl, J, kG, ge, hoe, ⟨rfl, rfl, fun vs e => by cases e; rfl⟩, rfl, rfl, na, rfl, bare2, raises_own T.exC T.tyC, q2⟩
    | next => exact False.elim hq'
    | brk => exact False.elim hq'
    | cont => exact False.elim hq'
/-- B.__init__(self, ..), B an own class over ValueError without an own begin -/
theorem pe_binit {pl : Sem Bool} {b : Str} {B : Addr} {mc : Value} {p1 p2 : Pos} (hg : Gl X b) (hm : X.mg b = some (.ref B)) (sB : PySem.W.specialIn X.K (.ref B) "__getattribute__" = some (some (.builtin "type.__getattribute__"))) (rB : PySem.W.readsIn X.K B mc = true)
    (fB : PySem.W.findCls X.K (.ref B) mc "__init__" = some (.val (.builtin "ValueError.__init__"))) (ha : PA X (e :: es) ta)
    (hc : eval (.Call (.Attribute (.Name b p1) "__init__" p2) (e :: es) [] pos) X.env = (do
      let ov ← eval (.Name b p1) X.env
      standAt p2.atName
      let (f, first) ← holding [ov] (getMethod ov "__init__" pl)
      callWith pos f first (backTo pos (starEach (e :: es) X.env)) (backToKw pos (keywordEach [] X.env))) := by rfl)
    (hdb : (b == ("__debug__" : Str)) = false := by decide)
    (he : starEach (e :: es) X.env = (false, eval e X.env) :: starEach es X.env := by rfl) (hpl : (backTo pos (starEach es X.env)).any (·.1) = false := by rfl) :
    PE X (.Call (.Attribute (.Name b p1) "__init__" p2) (e :: es) [] pos) (tVeI X.K ta) := ⟨fun pins s σ H Q I h => by
  refine PySem.W.methodCall_KW (ld_glob I hg hm (PySem.W.method_cls I.kIn sB (PySem.W.cls_value (v := .builtin "ValueError.__init__") I.kIn rB fB (by decide +kernel) ?_)) hdb) hc
  show wpAny _ _ (callWith pos (Value.builtin "ValueError.__init__") [] (backTo pos (starEach (e :: es) X.env)) []) _ _ _
  refine PyProof.Rows.callWith_method1 (thn (ha.run pos pins _ σ H _ (I.tok _) h) fun us s1 ⟨vs, H1, I1, r1, a, C, ws, ev, hl, T, ea, q⟩ => ?_) he hpl
  subst ev
  cases r1 with
  | @cons _ u0 _ ur ra rw' =>
    obtain rfl : u0 = Value.ref a := ra
    exact oinit_ok T I1 ea (by rw [← Paired.length rw', sizeLine_eq]; omega) fun s' J => ⟨.non, H1, J, rfl, q⟩⟩
/-- e.n of a tracked error -/
theorem pe_xg {n : Str} {te : TE} (he : PE X e te) (hb : attributeBase e n X.env (eval e X.env) = eval e X.env := by rfl) :
    PE X (.Attribute e n pos) (fun σ H Q => te σ H fun x H1 => ∃ (a C dd : Addr) (oe : Obj) (ws : Array Value) (fs : List (Str × V)) (v : V), x = .ref a ∧ XfC X.K C ∧ PySem.W.findIn X.K (.ref C) n = some none ∧ H1 a = some (ExO1 oe) ∧ oe.data = .fields ws ∧ Zc (.ref C) (some dd) oe ∧ H1 dd = some (.xd fs) ∧ fs.lookup n = some v ∧ Q v H1) := ⟨fun pins s σ H Q I h => by
  refine attr_of hb (thn (he.run pins s σ H _ I h) fun u s1 ⟨x, H1, I1, rx, a, C, dd, oe, ws, fs, v, ex, T, hno, ea, hd, hz, ed, l, q⟩ => ?_)
  subst ex
  obtain rfl : u = Value.ref a := rx
  have hoe : ObjOk X.prog X.w H1 s1.heap a (ExO1 oe) := I1.hok a _ ea
  have hx : ObjOk X.prog X.w H1 s1.heap dd (.xd fs) := I1.hok dd _ ed
  obtain ⟨mA, hns, hr⟩ := hx
  obtain ⟨od, ho, hl⟩ := lookIn_ns hns
  obtain ⟨u, hu, ru⟩ := RelO.some_of (v := v) (o := mA n) (by rw [← l]; exact hr n)
  have J : PySem.W.InstAt s1.heap a oe C (some od) := ⟨hoe.1, hz.1, by unfold PySem.W.notCls; rw [hd] <;> rfl, by rw [hz.2]; exact ho⟩
  exact HandSPX.exc_get I1.kIn J T.ga T.gg T.exC (PySem.W.findObj_own T.hdC hno rfl (by rw [hl, hu])) (handed_of ru) ⟨v, H1, I1.tok _, ru, q⟩⟩
end
/-- a caught error's field -/
def xfD (cs : List Str) (n : Str) : D → Option D
  | .exc c xf => if c ∈ cs then (xf.lookup n).map fun o => match o with | none => .non | some i => .int i else none
  | _ => none
def XfF (K : PySem.W.Frag) (cs : List Str) (n : Str) : Prop := ∀ c, c ∈ cs → ∀ C, PySem.W.nsIn K mainGlobals c = some (some (.ref C)) → XfC K C ∧ PySem.W.findIn K (.ref C) n = some none
/-- what is known of an error class with an own begin of one field -/
structure MkE (P : Program) (w : World) (K : PySem.W.Frag) (mg : Str → Option Value) (base : Heap) (k : Nat) (c n : Str) : Prop where
  ex : ∃ C fI fd ps, mg c = some (.ref C) ∧ OexC K C ∧ PySem.W.findIn K (.ref C) n = some none ∧ PySem.W.findIn K (.ref C) "__init__" = some (some (.ref fI)) ∧ PySem.W.typeIn K (.ref fI) = some (.type "function") ∧ L2.Binds K fd ps [] ∧
    FnG P w K mg base k fI fd ps (fun vs H Q E => ∃ (a C : Addr) (v : V), vs = [.ref a, v] ∧ OexC K C ∧ PySem.W.findIn K (.ref C) n = some none ∧ H a = some (exo a C none) ∧ ∀ dx, H dx = none → dx ≠ a → Q .non (upd (upd H dx (exd dx [(n, v)])) a (exo a C (some dx))))
theorem xff {K : PySem.W.Frag} {c n : Str} {C0 C : Addr} (a0 : PySem.W.nsIn K mainGlobals c = some (some (.ref C0))) (T : XfC K C0) (hno : PySem.W.findIn K (.ref C0) n = some none) (e : PySem.W.nsIn K mainGlobals c = some (some (.ref C))) : XfC K C ∧ PySem.W.findIn K (.ref C) n = some none := by
  rw [a0] at e
  cases e
  exact ⟨T, hno⟩
theorem oexC_mk {K : PySem.W.Frag} {C N : Addr} {nm q : Str} {bs bm : List Value} {sn : List Str} {sub : List Value} {ab : Bool} {col : Option Bool} {dd : Option Addr} {k0 k1 k2 k3 k5 : Option Value} (l : K.lookup C = some (excClassObj nm q C N bs bm true sn sub ab col dd k0 k1 k2 k3 k5 "ValueError.__new__"))
    (v : PySem.HandSPX.refsVE bm = true) (sa : PySem.W.findIn K (.ref C) "__setattr__" = some (some (.builtin "object.__setattr__"))) (ex : PySem.W.subIn K (.ref C) (.type "BaseException") = some true) (ty : PySem.W.typeIn K (.ref C) = some (.type "type")) (kC : PySem.W.keepIn K (.ref C) = true) : OexC K C :=
  ⟨⟨nm, q, N, bs, bm, sn, sub, ab, col, dd, k0, k1, k2, k3, k5, l, v⟩, sa, ex, ty, kC⟩
section
variable {X : Cx} {en : Kn} {δ τ : List Slot} {R : Type} {C : Slot → List Slot → Res R → Prop} {m : Res R} {N : List Slot → Res R → Prop} {RT : Slot → List Slot → Res R → Prop} {BK CT : List Slot → Res R → Prop}
theorem xf_lookup {n : Str} : ∀ {xf : List (Str × Option Int)} {o : Option Int}, xf.lookup n = some o → (xfV xf).lookup n = some (match o with | none => V.non | some i => V.int i)
  | [], _, h => by cases h
  | (f, o') :: r, o, h => by
    show List.lookup n ((f, _) :: xfV r) = _
    by_cases hf : n = f
    · subst hf
      rw [List.lookup_cons_self] at h ⊢
      cases h; rfl
    · have e : (n == f) = false := by simpa using hf
      rw [List.lookup_cons, e] at h ⊢
      exact xf_lookup h
theorem je_xf {cs : List Str} {n : Str} {e : Expr} {pos : Pos} (hk : XfF X.K cs n)
    (h : JE X en δ τ e (fun s1 δ1 m1 => ∃ d k, s1.rd δ1 = some d ∧ m1 = op (xfD cs n d) k ∧ ∀ v, C (.fr v) δ1 (k v)) m) (hb0 : attributeBase e n X.env (eval e X.env) = eval e X.env := by rfl) : JE X en δ τ (.Attribute e n pos) C m := .mk fun hb hx σ ts G H T hl hσ W k => by
  refine we_of (pe_xg pe_we hb0) ?_
  have ht : τ.length = ts.length := W.splitLen (hl.trans hσ.symm)
  refine h.run hb hx σ ts G H _ hl hσ W fun s1 δ1 v1 G1 H1 c1 hl1 W1 => ?_
  obtain ⟨d, kk, e1, em, c⟩ := c1
  have hb' := hb
  rw [em] at hb'
  obtain ⟨t, et⟩ := op_some hb'
  have em' : m = kk t := by rw [em, et]; rfl
  have cb := c t
  rw [← em'] at cb
  obtain ⟨⟨_, _, ez, r1, _⟩, Wn⟩ := Wd.ends (sls := [s1]) (vs := [v1]) W1 (hl1.trans hσ.symm) ht (ds := [d]) (by simp only [rds, e1])
  cases ez
  cases d <;> first | cases et | skip
  rename_i cn xf
  have et' : (if cn ∈ cs then (xf.lookup n).map (fun o => match o with | none => D.non | some i => D.int i) else none) = some t := et
  split at et'
  · rename_i hcs
    obtain ⟨o, eo, rfl⟩ := Option.map_eq_some_iff.mp et'
    obtain ⟨a, Ca, rfl, F, oe, ws, ha, hd, hz⟩ := r1
    obtain ⟨T0, hno⟩ := hk cn hcs Ca F.at_
    rcases hz with ⟨z, _⟩ | ⟨dd, _, hz, hdd⟩
    · rw [z] at eo; cases eo
    · refine ⟨a, Ca, dd, oe, ws, _, _, rfl, T0, hno, ha, hd, ⟨hz.1, hz.2.1⟩, W1.sub _ _ hdd, xf_lookup eo, k _ δ1 _ G1 H1 cb hl1 ((Wn (by omega)).out (Grow.refl W1.sub) ?_)⟩
      cases o <;> exact rfl
  · cases et'
/-- raise c(e), c an own error class with an own begin of one field -/
theorem js_raiseF {k : Nat} {c n : Str} {e : Expr} {p pos pos' : Pos} (hc : X.calm = true) (hL : Lk X en) (hR : MkE X.prog X.w X.K X.mg X.base k c n) (hr : RoomG (k + 1) X.A)
    (h : JE X en δ [] e (fun s1 δ1 m1 => ∃ d, s1.rd δ1 = some d ∧ m1 = op (asI d) fun i => .raise ⟨c, [(n, some i)]⟩) m) (hg : Gl X c := by rfl) (hdb : (c == ("__debug__" : Str)) = false := by decide)
    (he : starEach [e] X.env = (false, eval e X.env) :: starEach [] X.env := by exact star_plain rfl) (hpl : (backTo pos' (starEach [] X.env)).any (·.1) = false := by rfl) :
    JS X en δ (.Raise (some (.Call (.Name c p) [e] [] pos')) none pos) N RT BK CT m := .mk fun hb hx σ G H E hl W k1 k2 k3 k4 => by
  obtain ⟨C, fI, fd, ps, gC, T, hno, iC, tI, hbd, F1⟩ := hR.ex
  obtain ⟨WW, tk, hW⟩ := hL
  refine ws_of (L2N.ps_raise hc tk (pmk_oexG T iC tI F1 hr hbd (L2N.passes_call tk fun _ _ _ _ z => z.elim) hg gC (pa_wa (es := [e])) hdb he hpl)) ?_
  have hσ := W.sl hl
  have hj : JA X en δ [] [e] (fun sls δ1 m1 => ∃ sl, sls = [sl] ∧ ∃ d, sl.rd δ1 = some d ∧ m1 = op (asI d) fun i => .raise ⟨c, [(n, some i)]⟩) m := ja_cons (h.conv fun s δ' c => ja_nil ⟨s, rfl, c⟩) (hs := he)
  refine hj.run hb hx σ [] G H _ hl hσ (by rw [List.append_nil, List.append_nil]; exact W) fun sls δ1 vs G1 H1 ⟨sl, e0, d, e1, em⟩ hl1 W1 => ?_
  subst e0
  obtain ⟨hn, _⟩ := W1.endSlots (hl1.trans hσ.symm) rfl
  obtain ⟨v, rfl⟩ : ∃ v, vs = [v] := by
    cases vs with
    | nil => cases hn
    | cons v r =>
      cases r with
      | nil => exact ⟨v, rfl⟩
      | cons _ _ => cases hn
  have hb' := hb
  rw [em] at hb'
  obtain ⟨i, ei⟩ := op_some hb'
  rw [em, ei] at hx
  obtain ⟨⟨_, _, ez, r1, _⟩, _⟩ := Wd.ends (sls := [sl]) (vs := [v]) W1 (hl1.trans hσ.symm) rfl (ds := [d]) (by simp only [rds, e1])
  cases ez
  cases d <;> first | cases ei | skip
  have rv : v = .int i := r1
  subst rv
  refine ⟨by show 1 ≤ 1000; decide, fun a na => ?_⟩
  refine ⟨a, C, .int i, rfl, T, hno, upd_same, fun dx hdx hne => ?_⟩
  rw [upd_ne hne] at hdx
  refine ⟨rfl, dx, [(n, .int i)], upd_same, by rw [upd_ne hne, upd_same], hdx, ?_⟩
  refine hW ⟨c, [(n, some i)]⟩ hx _ _ σ _ ⟨C, gC, rfl, .inr ⟨by simp, dx, rfl, upd_same, W1.frm.none hdx, fun z => W1.stay dx z hdx⟩⟩ fun b o q => ?_
  have hb1 : b ≠ dx := ne_of_none (W1.frm b o q) hdx
  have hb2 : b ≠ a := ne_of_none (W1.frm b o q) na
  rw [upd_ne hb1, del_ne hb2, upd_ne hb2, upd_ne hb1, upd_ne hb2]
  exact W1.frm b o q
end
end BR

/-! K58: several clauses of one name -/
namespace BR
open PySem PySem.Spec PyProof.Rows L2
/-- what one clause wishes, the suite with the error tracked -/
def wSuite (i : Nat) (ts : Addr → TS) (D : Ends) : WX := fun cls d σ H => ∀ a oe vs, H a = none → L2N.Zn cls d oe → oe.data = .fields vs → ts a { nx := fun σ' H' => D.nx (σ'.set i none) H', rt := D.rt, bk := fun σ' H' => D.bk (σ'.set i none) H', ct := fun σ' H' => D.ct (σ'.set i none) H' } (σ.set i (some (.ref a))) (upd H a (ExO1 oe))
/-- the clauses one behind the other -/
def wKeptL (K : PySem.W.Frag) (i : Nat) (D : Ends) : List (Value × (Addr → TS)) → WX
  | [] => fun _ _ _ _ => False
  | (c, ts) :: r => fun cls d σ H => ∃ b, PySem.W.exmOne K cls c = some b ∧ (b = true → wSuite i ts D cls d σ H) ∧ (b = false → wKeptL K i D r cls d σ H)
inductive HdsK (X : Cx) (n : Str) : List ExceptHandler → List (Value × (Addr → TS)) → Prop
  | nil : HdsK X n [] []
  | cons {x : Str} {c : Value} {ts : Addr → TS} {b₀ : Stmt} {suite : List Stmt} {np pos' : Pos} {hds : List ExceptHandler} {l : List (Value × (Addr → TS))} (hc : Names X x c)
      (hsu : ∀ (a : Addr) (pn : List (Addr × Obj)), PSs (X.suite a pn) (b₀ :: suite) (ts a)) (r : HdsK X n hds l) : HdsK X n (.ExceptHandler (some (.Name x np)) (some n) (b₀ :: suite) pos' :: hds) ((c, ts) :: l)
section
variable {X : Cx} {n : Str} {i : Nat} {body : List Stmt} {h₀ : ExceptHandler} {hds : List ExceptHandler} {l : List (Value × (Addr → TS))} {pos : Pos} {tb : WX → TS}
end

/-- two clauses -/
def tryR2 {S : Type} (cs1 cs2 : List Str) (m : Res S) (h1 h2 : Str → List (Str × Option Int) → Res S) : Res S := match m with
  | .ok a => .ok a
  | .raise x => if x.cls ∈ cs1 then h1 x.cls x.fs else if x.cls ∈ cs2 then h2 x.cls x.fs else .bad
  | .bad => .bad
/-- errors that a clause lets by -/
def CatchN (K : PySem.W.Frag) (mg : Str → Option Value) (cv : Value) (cs : List Str) : Prop := ∀ c, c ∈ cs → ∃ C, mg c = some (.ref C) ∧ PySem.W.exmOne K (.ref C) cv = some false
section
variable {X : Cx} {en : Kn} {δ : List Slot} {R : Type} {m : Res R} {N : List Slot → Res R → Prop} {RT : Slot → List Slot → Res R → Prop} {BK CT : List Slot → Res R → Prop} {rest : List Stmt}
/-- how a suite is judged, the error in slot i -/
def SuiteOk (X : Cx) (en : Kn) (δ : List Slot) (i : Nat) (sts : List Stmt) {S : Type} (pJ : S → List Slot) (cs : List Str) (h : Str → List (Str × Option Int) → Res S) : Prop :=
  ∀ c, c ∈ cs → ∀ (xf : List (Str × Option Int)) (a : Addr) (pn : List (Addr × Obj)) (en' : Kn), KnLe en en' → HotV (X.suite a pn).A.handled en'.G0 → JSs (X.suite a pn) en' (δ.set i (.fr (.exc c xf))) sts (fun δ' m' => ∃ s, m' = .ok s ∧ Le (δ'.set i .un) (pJ s) ∧ noBo δ' = true) (fun _ _ _ => False) (fun _ _ => False) (fun _ _ => False) (h c xf)
end
end BR

/-! K59: a tried call with None among its arguments -/
namespace BR
open PySem PySem.Spec PyProof.Rows L2
/-- names, or None -/
def tAs : List (Option Nat) → TA
  | [] => tNil
  | some i :: is => tCons (tVar i) (tAs is)
  | none :: is => tCons (tC .non) (tAs is)
def AO (δ : List Slot) : List Kd → List (Option Nat) → List D → Prop
  | [], [], [] => True
  | .b :: ks, some i :: is, d :: ds => (∃ s, δ[i]? = some s ∧ s.rdp = some d) ∧ AO δ ks is ds
  | .f :: ks, some i :: is, d :: ds => δ[i]? = some (.fr d) ∧ AO δ ks is ds
  | .b :: ks, none :: is, d :: ds => d = .non ∧ AO δ ks is ds
  | .f :: ks, none :: is, d :: ds => d = .non ∧ AO δ ks is ds
  | _, _, _ => False
section
variable {X : Cx} {en : Kn} {δ : List Slot} {R : Type} {m : Res R} {N : List Slot → Res R → Prop} {RT : Slot → List Slot → Res R → Prop} {BK CT : List Slot → Res R → Prop} {rest : List Stmt}
end
end BR

/-! K60: a, b, c = a list of three -/
namespace BR
open PySem PySem.Spec PyProof.Rows L2
section
variable {X : Cx} {en : Kn} {δ τ : List Slot} {R : Type} {C : Slot → List Slot → Res R → Prop} {m : Res R}
def uL3 : D → Option (D × D × D)
  | .lst [a, b, c] => some (a, b, c)
  | _ => none
end
end BR

/-! K61: a call of a def out of a written list of defs -/
namespace BR
open PySem PySem.Spec PyProof.Rows L2
/-- defs by name, kinds, what they give -/
abbrev Alt := Str × List Kd × (List D → Res D)
def pickF : List Alt → Int → List D → Res D
  | [], _, _ => .bad
  | a :: r, i, ds => if i = 0 then a.2.2 ds else pickF r (i - 1) ds
/-- the list's names are these defs -/
def NmA (X : Cx) : List Alt → List Expr → Prop
  | [], [] => True
  | (x, ks, g) :: as, .Name y _ :: es => x = y ∧ Gl X x ∧ (x == ("__debug__" : Str)) = false ∧ (∃ k, Df X.prog X.w X.K X.mg X.base k x ks g (fun a => a) (fun _ => []) false ∧ RoomG k X.A) ∧ NmA X as es
  | _, _ => False
section
variable {X : Cx}
end
section
variable {X : Cx} {en : Kn} {δ τ : List Slot} {R : Type} {C : Slot → List Slot → Res R → Prop} {m : Res R}
end
end BR

/-! K62: a tried call with built arguments -/
namespace BR
open PySem PySem.Spec PyProof.Rows L2
/-- whatever may be raised -/
def Kn.any (en : Kn) : Kn := { n := en.n, G0 := en.G0, F0 := en.F0, ps := en.ps, HX := fun _ => True, h0 := trivial }
theorem Wd.any {K : PySem.W.Frag} {en : Kn} {δ : List Slot} {σ : L2.St} {G H : Hp} (W : Wd K en δ σ G H) : Wd K en.any δ σ G H := ⟨W.len, W.sub, W.ext, W.new, W.frm, W.stay, W.nd, fun i sl o h1 h2 => by
  have q := W.slot i sl o h1 h2
  cases sl <;> exact q, W.apart⟩
theorem Wd.unany {K : PySem.W.Frag} {en : Kn} {δ : List Slot} {σ : L2.St} {G H : Hp} (W : Wd K en.any δ σ G H) : Wd K en δ σ G H := ⟨W.len, W.sub, W.ext, W.new, W.frm, W.stay, W.nd, fun i sl o h1 h2 => by
  have q := W.slot i sl o h1 h2
  cases sl <;> exact q, W.apart⟩
section
variable {X : Cx} {en : Kn} {δ : List Slot} {m : Res Unit}
end
end BR

/-! K63: errors made and kept as values; a tried call whose last parameter is left out -/
namespace BR
open PySem PySem.Spec PyProof.Rows L2
section
variable {X : Cx}
end
/-- an error class without an own begin -/
def Mk0 (K : PySem.W.Frag) (mg : Str → Option Value) (c : Str) : Prop := Raise K mg c ∧ ∃ C, mg c = some (.ref C) ∧ ExcF K c C
def MkF (K : PySem.W.Frag) (mg : Str → Option Value) (c : Str) : Prop := ∃ C, mg c = some (.ref C) ∧ ExcF K c C
/-- an error of one field -/
def mkX (c n : Str) : D → Option D
  | .int i => some (.exc c [(n, some i)])
  | .non => some (.exc c [(n, none)])
  | _ => none
section
variable {X : Cx} {en : Kn} {δ τ : List Slot} {R : Type} {C : Slot → List Slot → Res R → Prop} {m : Res R}
end
/-! ### a tried call, the last parameter left out -/
section
variable {X : Cx} {k : Nat} {f : Addr} {fd : FuncData} {ps : List Str} {sp : Sp} {x : Str} {p pos : Pos} {e : Expr} {es : List Expr} {t : TA} {E : L2.St → XK}
def tNonE (t : TA) : TA := fun σ H Q => t σ H fun vs H1 => Q (vs ++ [V.non]) H1
end
section
variable {X : Cx} {en : Kn} {δ : List Slot} {R : Type} {m : Res R} {N : List Slot → Res R → Prop} {RT : Slot → List Slot → Res R → Prop} {BK CT : List Slot → Res R → Prop} {rest : List Stmt}
end
end BR

/-! K64: a dict comprehension of two clauses without tests -/
namespace BR
open PySem PySem.Spec PyProof.Rows L2
section
variable {P : Program} {w : World} {A : Around} {R : Result → Shared → Prop} {s : Shared} {kx vx tg iter tg1 iter1 : Expr} {sc : Scope} {ps : Pos} {it ac : Value} {D : Addr} {en : Env}
abbrev NB (P : Program) (w : World) (A : Around) (R : Result → Shared → Prop) (en : Env) : Value → Shared → Prop := notedBy (model P w) A en fun e s' => R (.error e) s'
end
def tDc2 (wi : TI) (g : TG) (wi1 : TI) (g1 : TG) (tk tv : TE) (vs vs1 : List Nat) : TE := fun σ H Q => wi σ H fun J H1 => ∀ D, H1 D = none → ∃ W : Nat → Nat → Hp → Prop, (∃ m, W 0 m (upd H1 D (.dK []))) ∧ ∀ i m H, W i m H →
  (J.stop i H ∧ Q (.ref D) H) ∨ (J.go i H ∧ ∃ Nz : Hp → Prop, (∀ H', Nz H' → ∃ m', m' < m ∧ W (i + 1) m' H') ∧ ∀ x H', J.yld i H x H' → g x (L2.wipe σ vs) H' fun σ2 H2 => L2.wipe σ2 vs = L2.wipe σ vs ∧ wi1 σ2 H2 fun J1 H4 => ∃ W1 : Nat → Nat → Hp → Prop, (∃ m, W1 0 m H4) ∧ ∀ j k H, W1 j k H →
    (J1.stop j H ∧ Nz H) ∨ (J1.go j H ∧ ∃ Ny : Hp → Prop, (∀ H', Ny H' → ∃ k', k' < k ∧ W1 (j + 1) k' H') ∧ ∀ x H', J1.yld j H x H' → g1 x (L2.wipe σ2 vs1) H' fun σ3 H5 => L2.wipe σ3 vs1 = L2.wipe σ2 vs1 ∧ tk σ3 H5 fun y H6 => tv σ3 H6 fun z H7 =>
      ∃ kvs k, y = kV k ∧ H7 D = some (.dK kvs) ∧ kvs.length < sizeLine ∧ Ny (upd H7 D (.dK (putK kvs k z)))))
section
variable {X : Cx}
abbrev AllP (X : Cx) (sc : Scope) (p : Cx → Prop) : Prop := ∀ (s : Shared) (H : Hp) (C : Addr) (cl : List (Str × Addr)) (fp : List Addr), p (X.blk s H sc (compEnvC sc cl C X.env) fp)
end
def dcI : List D → List (Key × D) → (D → Res (D × D)) → Res (List (Key × D))
  | [], acc, _ => .ok acc
  | e :: es, acc, f => match f e with
    | .ok (x, y) => (match keyD x with
      | some k => if acc.length < sizeLine then dcI es (putD acc k y) f else .bad
      | none => .bad)
    | _ => .bad
def dc2F : List D → List (Key × D) → (D → Res (List D)) → (D → D → Res (D × D)) → Res (List (Key × D))
  | [], acc, _, _ => .ok acc
  | d :: ds, acc, g, f => match g d with
    | .ok es => (match dcI es acc (f d) with
      | .ok acc' => dc2F ds acc' g f
      | _ => .bad)
    | _ => .bad
section
variable {X : Cx} {en : Kn} {δ τ : List Slot} {R : Type} {C : Slot → List Slot → Res R → Prop} {m : Res R} {K : PySem.W.Frag}
end
end BR

/-! K65: sorted(a list of pairs of ints) -/
namespace BR
open PySem PySem.Spec PyProof.Rows L2
/-- the first of two that is told ahead -/
def pLe (p q : Int × Int) : Bool := decide (p.1 < q.1) || (decide (p.1 = q.1) && decide (p.2 ≤ q.2))
def insP (p : Int × Int) : List (Int × Int) → List (Int × Int)
  | [] => [p]
  | q :: r => if pLe p q = true then p :: q :: r else q :: insP p r
def srtP : List (Int × Int) → List (Int × Int)
  | [] => []
  | p :: r => insP p (srtP r)
/-- a value that is a pair of ints -/
def TP (K : PySem.W.Frag) (H : Hp) (x : V) (q : Int × Int) : Prop := ∃ t, x = .ref t ∧ SqT K H t [.int q.1, .int q.2]
def All2P (P : V → Int × Int → Prop) : List V → List (Int × Int) → Prop
  | [], [] => True
  | x :: xs, q :: qs => P x q ∧ All2P P xs qs
  | _, _ => False
theorem All2P.map {P : V → Int × Int → Prop} {k : V → Int × Int} (hk : ∀ x q, P x q → k x = q) : ∀ {xs : List V} {ps : List (Int × Int)}, All2P P xs ps → ps = xs.map k ∧ ∀ x, x ∈ xs → P x (k x)
  | [], [], _ => ⟨rfl, fun x hx => by cases hx⟩
  | x :: xs, q :: qs, ⟨h, t⟩ => by
    obtain ⟨e, f⟩ := All2P.map hk t
    have := hk x q h
    refine ⟨by rw [List.map_cons, this, ← e], fun y hy => ?_⟩
    rcases List.mem_cons.mp hy with rfl | hy
    · rw [this]; exact h
    · exact f y hy
  | [], _ :: _, h => h.elim
  | _ :: _, [], h => h.elim
theorem All2P.of {P : V → Int × Int → Prop} {k : V → Int × Int} : ∀ {xs : List V}, (∀ x, x ∈ xs → P x (k x)) → All2P P xs (xs.map k)
  | [], _ => trivial
  | x :: xs, h => ⟨h x List.mem_cons_self, All2P.of fun y hy => h y (List.mem_cons_of_mem _ hy)⟩
section
variable {X : Cx}
def tPD (q : Int × Int) : D := .tup [.int q.1, .int q.2]
def pairsI : List D → Option (List (Int × Int))
  | [] => some []
  | .tup [.int i, .int j] :: r => (pairsI r).map fun ps => (i, j) :: ps
  | _ => none
/-- sorted(x), x a list of pairs of ints -/
def srtPT : List D → Option (List D)
  | [.lst ds] => (pairsI ds).map fun ps => (srtP ps).map tPD
  | _ => none
end
end BR

/-! K66: list(a dict) -/
namespace BR
open PySem PySem.Spec PyProof.Rows L2
def keyT : Key → D
  | .inl i => .int i
  | .inr s => .str s
/-- list(x), x a dict: its keys -/
def listKT : List D → Option (List D)
  | [.dic kvs] => if kvs.length ≤ sizeLine then some (kvs.map fun kv => keyT kv.1) else none
  | _ => none
section
variable {X : Cx}
end
end BR

/-! K67: True in a list of truths -/
namespace BR
open PySem PySem.Spec PyProof.Rows L2
def inBD (a b : D) : Option Bool := match a with
  | .bl i => ((asL b).bind bls).map fun ns => decide (i ∈ ns)
  | _ => none
section
variable {X : Cx}
end
end BR

/-! K68: a module's text, a list of five taken apart, a tried call whose arguments change what is known -/
namespace BR
open PySem PySem.Spec PyProof.Rows L2
section
variable {X : Cx} {en : Kn} {δ τ : List Slot} {R : Type} {C : Slot → List Slot → Res R → Prop} {m : Res R}
theorem je_gs {x : Str} {i : Str} {pos : Pos} (hm : ∃ t, X.mg x = some (.str i t)) (h : C (.fr (.str i)) δ m) (hg : Gl X x := by rfl) (hd : (x == ("__debug__" : Str)) = false := by decide) : JE X en δ τ (.Name x pos) C m := .mk fun hb hx σ ts G H T hl hσ W k => by
  obtain ⟨t, hm⟩ := hm
  exact we_of (pe_glob (v := .str i) hg hm ⟨t, rfl⟩ hd) (k _ _ _ G H h hl (W.out (Grow.refl W.sub) (show Rep _ _ _ _ from rfl)))
theorem gs_mk {K : PySem.W.Frag} {mg : Str → Option Value} {h : Heap} {x i : Str} {t : Tok} (X : K.In h) (G : h.Ns mainGlobals mg) (g : PySem.W.nsIn K mainGlobals x = some (some (.str i t))) : ∃ t, mg x = some (.str i t) := ⟨t, PySem.W.mg_of X G g⟩
def uL5 : D → Option (D × D × D × D × D)
  | .lst [a, b, c, d, e] => some (a, b, c, d, e)
  | _ => none
end
/-- nothing may be raised -/
def Kn.calm (en : Kn) : Kn := { n := en.n, G0 := en.G0, F0 := en.F0, ps := en.ps, HX := fun x => x = none, h0 := rfl }
theorem Wd.calm {K : PySem.W.Frag} {en : Kn} {δ : List Slot} {σ : L2.St} {G H : Hp} (W : Wd K en δ σ G H) : Wd K en.calm δ σ G H := ⟨W.len, W.sub, W.ext, W.new, W.frm, W.stay, W.nd, fun i sl o h1 h2 => by
  have q := W.slot i sl o h1 h2
  cases sl <;> exact q, W.apart⟩
/-- what ends well -/
def nrB {α : Type} : Res α → Res α
  | .ok a => .ok a
  | _ => .bad
section
variable {X : Cx} {en : Kn} {δ : List Slot} {R : Type} {m : Res R} {N : List Slot → Res R → Prop} {RT : Slot → List Slot → Res R → Prop} {BK CT : List Slot → Res R → Prop} {rest : List Stmt}
end
end BR

/-! K69: T.append([..]) and, at once, T[k].append(..) of that last list -/
namespace BR
open PySem PySem.Spec PyProof.Rows L2
section
variable {K : PySem.W.Frag} {en : Kn} {Δ : List Slot} {S : L2.St} {G H : Hp}
theorem own_unset {i j : Nat} {q : Addr} (h : Own (Δ.set i .un) S j q) : j ≠ i ∧ Own Δ S j q := by
  obtain ⟨sl, e1, e2, e3⟩ := h
  by_cases hj : i = j
  · subst hj
    by_cases hi : i < Δ.length
    · rw [List.getElem?_set_self hi] at e1; cases e1; cases e2
    · rw [List.getElem?_eq_none (by rw [List.length_set]; omega)] at e1; cases e1
  · rw [List.getElem?_set_ne hj] at e1
    exact ⟨fun z => hj z.symm, sl, e1, e2, e3⟩
/-- a list of this def's own, held in the frame with another thing in it -/
theorem Wd.hold (W : Wd K en Δ S G H) {i : Nat} {p : Addr} {d : D} {o : HO} (hnb : noBo Δ = true) (hi : Δ[i]? = some (.mu d)) (hs : S[i]? = some (some (.ref p))) : Wd K (en.setF (upd en.F0 p o)) (Δ.set i .un) S G (upd H p o) := by
  have sl := W.slot i _ _ hi hs
  obtain ⟨p', e, gp, fp, pp, r⟩ := sl
  cases e
  have own : Own Δ S i p := ⟨_, hi, rfl, hs⟩
  have ga : ∀ {a : Addr} {o : HO}, G a = some o → a ≠ p := fun e z => by subst z; rw [gp] at e; cases e
  refine ⟨by rw [List.length_set]; exact W.len, fun a o' e => by rw [upd_ne (ga e)]; exact W.sub a o' e, W.ext, fun a o' e => ?_, fun a o' e => ?_, fun a ha => ?_, W.nd, fun j sl u h1 h2 => ?_, fun j k q h1 h2 => ?_⟩
  · rcases W.new a o' e with z | ⟨z1, z2⟩
    · exact .inl z
    · exact .inr ⟨(upd_ne (ga e)).trans z1, z2⟩
  · by_cases z : a = p
    · subst z
      have e : upd en.F0 a o a = some o' := e
      rw [upd_same] at e ⊢
      exact e
    · have e : upd en.F0 p o a = some o' := e
      rw [upd_ne z] at e ⊢
      exact W.frm a o' e
  · have z : a ≠ p := fun z => pp (z ▸ ha)
    rw [upd_ne z]; exact W.stay a ha
  · by_cases hj : i = j
    · subst hj
      have hi' := (List.getElem?_eq_some_iff.mp hi).1
      rw [List.getElem?_set_self hi'] at h1
      cases h1; trivial
    · rw [List.getElem?_set_ne hj] at h1
      have q := W.slot j sl u h1 h2
      cases sl with
      | un => trivial
      | fr d => exact q
      | mu d' =>
        obtain ⟨p', e, n, f, f2, r⟩ := q
        have ne : p' ≠ p := fun z => hj (W.apart i j p own ⟨_, h1, rfl, by rw [h2, e, z]⟩)
        exact ⟨p', e, n, (upd_ne ne).trans f, f2, r.keep (Sub.refl _) fun o' eo => by rw [upd_ne ne]; exact eo⟩
      | mp k d' =>
        obtain ⟨p', e, f2, n, f, r⟩ := q
        have ne : p' ≠ p := fun z => hj (W.apart i j p own ⟨_, h1, rfl, by rw [h2, e, z]⟩)
        exact ⟨p', e, f2, n, (upd_ne ne).trans f, r.keep (Sub.refl _) fun o' eo => by rw [upd_ne ne]; exact eo⟩
      | bw d' =>
        obtain ⟨v, e, r⟩ := q
        exact ⟨v, e, r.sub (Sub.refl _) (Sub.upd fp)⟩
      | bo k => exact (noBo_get hnb h1).elim
  · obtain ⟨_, o1⟩ := own_unset h1
    obtain ⟨_, o2⟩ := own_unset h2
    exact W.apart j k q o1 o2
end
def app2 (ds : List D) (k : Int) : Option Unit := if ds.length < sizeLine ∧ k = (ds.length : Int) then some () else none
section
variable {X : Cx} {en : Kn} {δ : List Slot} {R : Type} {m : Res R} {N : List Slot → Res R → Prop} {RT : Slot → List Slot → Res R → Prop} {BK CT : List Slot → Res R → Prop} {rest : List Stmt}
end
end BR

/-! K70: list(reversed(a list)) -/
namespace BR
open PySem PySem.Spec PyProof.Rows L2
open Sem (wp)
section
variable {prog : Program} {w : World} {A : Around} {E : Value → Shared → Prop} {s : Shared}
end
/-- list(reversed(x)), x a list: a new list -/
def tListRev (K : PySem.W.Frag) (te : TE) : TE := fun σ H Q => te σ H fun v H1 => ∃ (a : Addr) (xs : List V), v = .ref a ∧ SqL K H1 a xs ∧ ∀ q, H1 q = none → Q (.ref q) (upd H1 q (.lst xs.reverse))
section
variable {X : Cx}
end
/-- a list the other way about -/
def revT : D → Option (List D)
  | .lst ds => some ds.reverse
  | _ => none
section
variable {X : Cx} {en : Kn} {δ τ : List Slot} {R : Type} {C : Slot → List Slot → Res R → Prop} {m : Res R}
end
end BR

/-! K71: for x in T[j]: x.append(..), T told -/
namespace BR
open PySem PySem.Spec PyProof.Rows L2
section
variable {X : Cx} {en : Kn} {δ : List Slot} {R : Type} {m : Res R} {N : List Slot → Res R → Prop} {RT : Slot → List Slot → Res R → Prop} {BK CT : List Slot → Res R → Prop}
end
section
variable {X : Cx} {en : Kn} {δ : List Slot} {R : Type} {m : Res R} {N : List Slot → Res R → Prop} {RT : Slot → List Slot → Res R → Prop} {BK CT : List Slot → Res R → Prop}
def tupIx (d : D) (j : Int) : Option D := match d with
  | .tup ds => atI ds j
  | _ => none
end
end BR

/-! K72: a, b = f(..), g(..), both told, and both changed behind -/
namespace BR
open PySem PySem.Spec PyProof.Rows L2
section
variable {X : Cx} {en : Kn} {δ : List Slot} {R : Type} {m : Res R} {N : List Slot → Res R → Prop} {RT : Slot → List Slot → Res R → Prop} {BK CT : List Slot → Res R → Prop} {pos : Pos}
def chkN (d : D) : Option Unit := match d with
  | .lst l => if l.length < 9000 then some () else none
  | _ => none
/-- as JX, with two told things -/
structure JX2 (X : Cx) (en : Kn) (δ : List Slot) (i : Nat) (d : D) (j : Nat) (e : D) (sts : List Stmt) {R : Type} (N : List Slot → Res R → Prop) (RT : Slot → List Slot → Res R → Prop) (BK CT : List Slot → Res R → Prop) (m : Res R) : Prop where
  run : m ≠ .bad → en.HX m.exc → ∀ (σ : L2.St) (G H0 H G1 : Hp) (E : Ends) (v w : V), δ.length = en.n → σ[i]? = some (some v) → σ[j]? = some (some w) → Wd X.K en δ σ G H0 → Sub H0 H → Sub G1 H → (∀ a o, G1 a = some o → noL G a = some o ∨ H0 a = none) → Rep X.K G1 d v → Rep X.K G1 e w →
    (∀ δ' σ' G' H', N δ' m → δ'.length = en.n → Wd X.K en δ' σ' G' H' → E.nx σ' H') →
    (∀ sl δ' v σ' G' H', RT sl δ' m → δ'.length = en.n → Wd X.K en (δ' ++ [sl]) (σ' ++ [some v]) G' H' → E.rt v H') →
    (∀ δ' σ' G' H', BK δ' m → δ'.length = en.n → Wd X.K en δ' σ' G' H' → E.bk σ' H') →
    (∀ δ' σ' G' H', CT δ' m → δ'.length = en.n → Wd X.K en δ' σ' G' H' → E.ct σ' H') → WSs X sts E σ H
end
end BR

/-! K73: an own list copied out of what is told, beside it -/
namespace BR
open PySem PySem.Spec PyProof.Rows L2
section
variable {X : Cx} {en : Kn} {δ : List Slot} {R : Type} {m : Res R} {N : List Slot → Res R → Prop} {RT : Slot → List Slot → Res R → Prop} {BK CT : List Slot → Res R → Prop} {pos : Pos}
def flM (ds : List D) : Option Unit := if flDs ds = true then some () else none
end
end BR

/-! K74: a def that tells two things, of which the first one's lists are new and apart from all of the second; such a call's first thing changed behind -/
namespace BR
open PySem PySem.Spec PyProof.Rows L2
/-- a tuple of two: the second stands fast in G2; the first one's lists are new and none of the second's -/
structure PairE (K : PySem.W.Frag) (en : Kn) (d1 d2 : D) (v : V) (H' : Hp) : Prop where
  at_ : ∃ (a : Addr) (v1 v2 : V) (G2 H0 G1 : Hp), v = .ref a ∧ SqT K H' a [v1, v2] ∧ Sub en.G0 G2 ∧ Sub G2 H0 ∧ Sub en.F0 H0 ∧ Sub H0 H' ∧ (∀ b o, G2 b = some o → en.G0 b = some o ∨ (en.F0 b = none ∧ b ∉ en.ps)) ∧ Rep K G2 d2 v2 ∧ Sub G1 H' ∧ (∀ b o, G1 b = some o → noL G2 b = some o ∨ H0 b = none) ∧ Rep K G1 d1 v1
/-- a told thing at i, its lists new and nobody else's -/
structure TW (X : Cx) (en : Kn) (δ : List Slot) (i : Nat) (d : D) (σ : L2.St) (H : Hp) : Prop where
  at_ : ∃ (G H0 G1 : Hp) (v : V), δ.length = en.n ∧ σ[i]? = some (some v) ∧ Wd X.K en δ σ G H0 ∧ Sub H0 H ∧ Sub G1 H ∧ (∀ a o, G1 a = some o → noL G a = some o ∨ H0 a = none) ∧ Rep X.K G1 d v
section
variable {X : Cx} {en : Kn} {R : Type}
/-- statements beside a told thing, whose end tells two -/
structure JXE (X : Cx) (en : Kn) (δ : List Slot) (i : Nat) (d : D) (sts : List Stmt) {R : Type} (C : List Slot → D → Res R → Prop) (RP : D → D → Res R → Prop) (m : Res R) : Prop where
  run : m ≠ .bad → en.HX m.exc → ∀ (σ : L2.St) (H : Hp) (E : Ends), TW X en δ i d σ H →
    (∀ δ' d' σ' H', C δ' d' m → TW X en δ' i d' σ' H' → E.nx σ' H') →
    (∀ d1 d2 v H', RP d1 d2 m → PairE X.K en d1 d2 v H' → E.rt v H') → WSs X sts E σ H
structure JPs (X : Cx) (en : Kn) (δ : List Slot) (sts : List Stmt) {R : Type} (RP : D → D → Res R → Prop) (m : Res R) : Prop where
  run : m ≠ .bad → en.HX m.exc → ∀ (σ : L2.St) (G H : Hp) (E : Ends), δ.length = en.n → Wd X.K en δ σ G H →
    (∀ d1 d2 v H', RP d1 d2 m → PairE X.K en d1 d2 v H' → E.rt v H') → WSs X sts E σ H
variable {δ : List Slot} {C : List Slot → D → Res R → Prop} {RP : D → D → Res R → Prop} {m : Res R} {pos : Pos}
end
section
variable {P : Program} {w : World} {K : PySem.W.Frag} {mg : Str → Option Value} {base : Heap}
def SpP (K : PySem.W.Frag) (mg : Str → Option Value) (ks : List Kd) (ck : List D → Option Unit) (f : List D → Res D) : Sp := fun vs H Q E =>
  vs.length = ks.length ∧ ∃ (G : Hp) (ds : List D) (r : Res D), Sub G H ∧ ArgsOk K G H (hide H []) ks ds vs [] ∧ ck ds = some () ∧ f ds = r ∧ r ≠ .bad ∧
    (∀ d1 d2, r = .ok (.tup [d1, d2]) → ∀ v H', PairE K ⟨0, G, hide H [], [], fun o => o = none, rfl⟩ d1 d2 v H' → Q v H') ∧
    (∀ x, r = .raise x → ∀ cls d H', ExcOk mg (hide H []) [] x cls d H' → Sub (hide H []) H' → E cls d H')
def DfP (P : Program) (w : World) (K : PySem.W.Frag) (mg : Str → Option Value) (base : Heap) (k : Nat) (x : Str) (ks : List Kd) (ck : List D → Option Unit) (den : List D → Res D) : Prop :=
  ∃ (f : Addr) (fd : FuncData) (psn : List Str), FnG P w K mg base k f fd psn (SpP K mg ks ck den) ∧ mg x = some (.ref f) ∧ PySem.W.keepIn K (.ref f) = true ∧ Binds K fd psn []
end
section
variable {X : Cx} {en : Kn} {R : Type} {δ : List Slot} {N : List Slot → Res R → Prop} {RT : Slot → List Slot → Res R → Prop} {BK CT : List Slot → Res R → Prop} {m : Res R} {pos : Pos}
end
end BR

/-! K75: a parameter that is always given by its name alone; min of lists of truths, by default -/
namespace BR
open PySem PySem.Spec PyProof.Rows L2
/-- y is the last parameter; it is given by name -/
def KwJ (K : PySem.W.Frag) (fd : FuncData) (ps : List Str) (y : Str) : Prop := ∀ (s : Shared) (us : List Value) (u : Value), (us ++ [u]).length = ps.length → BindsTo s fd ⟨us, [(y, u)]⟩ (ps.zip (us ++ [u]))
def DfJ (P : Program) (w : World) (K : PySem.W.Frag) (mg : Str → Option Value) (base : Heap) (k : Nat) (x y : Str) (ks : List Kd) {α : Type} (den : List D → Res α) (val : α → D) (outs : α → List D) (mu : Bool) : Prop :=
  ∃ (f : Addr) (fd : FuncData) (psn : List Str), FnG P w K mg base k f fd psn (SpD K mg ks den val outs mu) ∧ mg x = some (.ref f) ∧ PySem.W.keepIn K (.ref f) = true ∧ KwJ K fd psn y
section
variable {X : Cx} {en : Kn} {δ τ : List Slot} {R : Type} {C : Slot → List Slot → Res R → Prop} {m : Res R} {k : Nat} {f : Addr} {fd : FuncData} {ps : List Str} {sp : Sp} {E : XK} {x y : Str} {p pos kpos : Pos} {e e' : Expr} {es : List Expr}
end
/-! ### min of lists of truths -/
def blss : List D → Option (List (List Bool))
  | [] => some []
  | .lst l :: r => match bls l, blss r with
    | some b, some bs => some (b :: bs)
    | _, _ => none
  | _ :: _ => none
def pdB (b : List Bool) : PyData := .list (b.map .bool)
def minB (b : List Bool) (bs : List (List Bool)) : List Bool := bs.foldl (fun a y => if PySem.W.dataLt (pdB y) (pdB a) = true then y else a) b
def minDf : D → Option D
  | .lst ds => match blss ds with
    | some [] => some .non
    | some (b :: bs) => some (.lst ((minB b bs).map .bl))
    | none => none
  | _ => none
theorem readsB_mk {h : Heap} : ∀ (bs : List Bool), ReadsAll h (bs.map Value.bool) (bs.map PyData.bool) []
  | [] => .nil
  | b :: bs => .cons (as := []) (.bool b) (readsB_mk bs)
theorem vals_bools : ∀ {bs : List Bool} {us : List Value}, Vals (bs.map V.bl) us → us = bs.map Value.bool
  | [], us, r => by cases r; rfl
  | b :: bs, us, r => by
    cases r with
    | cons r1 r2 => rw [vals_bools r2, show _ = Value.bool b from r1]; rfl
section
variable {X : Cx} {en : Kn} {δ τ : List Slot} {R : Type} {C : Slot → List Slot → Res R → Prop} {m : Res R}
/-- the items of a list, each a list of truths -/
def BLs (H : Hp) : List (List Bool) → List V → Prop
  | [], us => us = []
  | b :: bs, us => ∃ a r, us = V.ref a :: r ∧ H a = some (.lst (b.map V.bl)) ∧ BLs H bs r
theorem BLs.reads {pins : List (Addr × Obj)} {s : Shared} {σ : L2.St} {H : Hp} (I : Inv X pins σ H s) : ∀ {bss : List (List Bool)} {us : List V} {its : List Value}, BLs H bss us → Vals us its → ∃ as, ReadsAll s.heap its (bss.map pdB) as
  | [], us, its, h, r => by
    have e : us = [] := h
    subst e; cases r
    exact ⟨[], .nil⟩
  | b :: bs, us, its, h, r => by
    obtain ⟨a, q, rfl, ha, h2⟩ := h
    cases r with
    | cons r1 r2 =>
      cases r1
      obtain ⟨xs, rv, ⟨o, n, ho, hc, _, hd⟩, _⟩ := I.list (SqL.of ha)
      obtain ⟨as, ra⟩ := BLs.reads I h2 r2
      have e := vals_bools rv
      subst e
      have rd : Reads s.heap (.ref a) (pdB b) (a :: []) := .list ho hc hd (by simpa using readsB_mk b)
      exact ⟨_, .cons rd ra⟩
theorem BLs.at {H : Hp} : ∀ {bss : List (List Bool)} {us : List V} {i : Nat} {v : V}, BLs H bss us → us[i]? = some v → ∃ b a, bss[i]? = some b ∧ v = .ref a ∧ H a = some (.lst (b.map V.bl))
  | [], us, i, v, h, e => by
    have z : us = [] := h
    subst z; simp at e
  | b :: bs, us, 0, v, h, e => by
    obtain ⟨a, q, rfl, ha, h2⟩ := h
    have e' : V.ref a = v := by simpa using e
    exact ⟨b, a, rfl, e'.symm, ha⟩
  | b :: bs, us, i + 1, v, h, e => by
    obtain ⟨a, q, rfl, ha, h2⟩ := h
    obtain ⟨b', a', e1, e2, e3⟩ := BLs.at (i := i) h2 (by simpa using e)
    exact ⟨b', a', by simpa using e1, e2, e3⟩
def rMinDf (K : PySem.W.Frag) : List V → List V → Hp → VK → Prop := fun vs zs H Q => ∃ (a : Addr) (us : List V) (bss : List (List Bool)) (z : V), vs = [V.ref a] ∧ zs = [z] ∧ H a = some (.lst us) ∧ BLs H bss us ∧ (bss = [] → Q z H) ∧
  ∀ b bs, bss = b :: bs → ∀ (i : Nat) (v : V), us[i]? = some v → bss[i]? = some (minB b bs) → Q v H
end
/-! ### d.update({..}) -/
def updD : D → List D → Option (D × D)
  | .dic es, [.dic fs] => if es.length + fs.length ≤ sizeLine then some (.non, .dic (mergeD es fs)) else none
  | _, _ => none
def updT (es : List (Key × D)) : D → Option (List (Key × D))
  | .dic fs => if es.length + fs.length ≤ sizeLine then some (mergeD es fs) else none
  | _ => none
section
variable {X : Cx} {en : Kn} {δ τ : List Slot} {R : Type} {C : Slot → List Slot → Res R → Prop} {m : Res R}
end
/-! ### sum of a list of truths -/
def sumBD : List D → Option D
  | [.lst ds] => (bls ds).map fun bs => .int (bs.count true : Nat)
  | _ => none
section
variable {X : Cx}
end
end BR

/-! K76: sorted({n for y in (a, b) for n in y}) of two dicts' keys; walking a dict's keys -/
namespace BR
open PySem PySem.Spec PyProof.Rows L2
section
variable {P : Program} {w : World} {A : Around} {R : Result → Shared → Prop} {s : Shared} {kx tg iter tg1 iter1 : Expr} {sc : Scope} {ps : Pos} {it ac : Value} {D : Addr} {en : Env}
abbrev NB2 (P : Program) (w : World) (A : Around) (R : Result → Shared → Prop) (en : Env) : Value → Shared → Prop := notedBy (model P w) A en fun e s' => R (.error e) s'
end
def tSc2 (w : World) (wi : TI) (g : TG) (wi1 : TI) (g1 : TG) (tk : TE) (vs vs1 : List Nat) : TE := fun σ H Q => wi σ H fun J H1 => ∀ D, H1 D = none → ∃ W : Nat → Nat → Hp → Prop, (∃ m, W 0 m (upd H1 D (SetRO w D (fun _ => false) 0))) ∧ ∀ i m H, W i m H →
  (J.stop i H ∧ Q (.ref D) H) ∨ (J.go i H ∧ ∃ Nz : Hp → Prop, (∀ H', Nz H' → ∃ m', m' < m ∧ W (i + 1) m' H') ∧ ∀ x H', J.yld i H x H' → g x (L2.wipe σ vs) H' fun σ2 H2 => L2.wipe σ2 vs = L2.wipe σ vs ∧ wi1 σ2 H2 fun J1 H4 => ∃ W1 : Nat → Nat → Hp → Prop, (∃ m, W1 0 m H4) ∧ ∀ j k H, W1 j k H →
    (J1.stop j H ∧ Nz H) ∨ (J1.go j H ∧ ∃ Ny : Hp → Prop, (∀ H', Ny H' → ∃ k', k' < k ∧ W1 (j + 1) k' H') ∧ ∀ x H', J1.yld j H x H' → g1 x (L2.wipe σ2 vs1) H' fun σ3 H5 => L2.wipe σ3 vs1 = L2.wipe σ2 vs1 ∧ tk σ3 H5 fun y H6 =>
      ∃ (c : Int) (S : Int → Bool) (n : Nat), y = .int c ∧ H6 D = some (SetRO w D S n) ∧ n + 1 < scanBound ∧ Ny (upd H6 D (SetRO w D (addS S c) (if S c = true then n else n + 1)))))
section
variable {X : Cx}
abbrev AllP2 (X : Cx) (sc : Scope) (p : Cx → Prop) : Prop := ∀ (s : Shared) (H : Hp) (C : Addr) (cl : List (Str × Addr)) (fp : List Addr), p (X.blk s H sc (compEnvC sc cl C X.env) fp)
end
section
variable {X : Cx} {en : Kn} {δ τ : List Slot} {R : Type} {C : Slot → List Slot → Res R → Prop} {m : Res R} {K : PySem.W.Frag}
/-! ### [(s, c[s]) for s in c if c[s] != int(s > 0)], c a dict of ints -/
def prsI : List (Key × D) → Option (List (Int × Int))
  | [] => some []
  | (.inl k, .int v) :: r => (prsI r).map ((k, v) :: ·)
  | _ :: _ => none
def pickP (p : Int × Int) : Bool := !decide (p.2 = if decide (0 < p.1) = true then 1 else 0)
def pickD : D → Option (List D)
  | .dic kvs => if kvs.length ≤ 4000 ∧ (kvs.map (·.1)).Nodup then (prsI kvs).map fun ps => (ps.filter pickP).map fun p => .tup [.int p.1, .int p.2] else none
  | _ => none
structure PickI (K : PySem.W.Frag) (G Hl : Hp) (Dn : Addr) (ds : List D) (H : Hp) : Prop where
  old : ∀ c o, Hl c = some o → H c = some o
  ex : ∃ (Gn : Hp) (acc : List V), H Dn = some (.lst acc) ∧ Reps K Gn ds acc ∧ Sub Gn H ∧ ∀ c o, Gn c = some o → Hl c = none ∧ c ≠ Dn
/-! ### sorted({n for y in (a, b) for n in y}): the keys of two dicts -/
def keys2 : D → D → Option (List D)
  | .dic k1, .dic k2 => (intK k1).bind fun n1 => (intK k2).bind fun n2 => if n1.length + n2.length ≤ 4000 then some ((srtU (n1 ++ n2)).map D.int) else none
  | _, _ => none
structure SetI (w : World) (Hb : Hp) (D : Addr) (P : Int → Prop) [DecidablePred P] (c : Nat) (H : Hp) : Prop where
  old : ∀ x o, Hb x = some o → H x = some o
  ex : ∃ (S : Int → Bool) (n : Nat), H D = some (SetRO w D S n) ∧ n ≤ c ∧ ∀ k, S k = decide (P k)
end
end BR

/-! K77: texts: split, partition, join, endswith, int(..), signs, slices, walks, f'..' -/
namespace BR
open PySem PySem.Spec PyProof.Rows L2
def strsD : List D → Option (List Str)
  | [] => some []
  | .str y :: r => (strsD r).map (y :: ·)
  | _ :: _ => none
theorem strsD_v {K : PySem.W.Frag} {G : Hp} : ∀ {ds : List D} {ys : List Str} {vs : List V}, strsD ds = some ys → Reps K G ds vs → vs = ys.map V.str
  | [], ys, vs, h, r => by cases h; exact r
  | d :: ds, ys, vs, h, r => by
    cases d <;> first | cases h | skip
    rename_i y
    obtain ⟨zs, h1, rfl⟩ := Option.map_eq_some_iff.mp (show (strsD ds).map (y :: ·) = some ys from h)
    obtain ⟨v, q, rfl, r1, r2⟩ := r
    have e1 : v = .str y := r1
    subst e1
    rw [strsD_v h1 r2]; rfl
section
variable {X : Cx}
/-- x.split(y) -/
def splD : List D → Option (List D)
  | [.str a, .str b] => if (b.length == 0) = false ∧ a.length + 2 ≤ sizeLine then some ((Txt.split a b).map D.str) else none
  | _ => none
/-- x.partition(y) -/
def parD : List D → Option D
  | [.str a, .str b] => if (b.length == 0) = false ∧ a.length ≤ sizeLine then some (.tup [.str (Txt.partition a b).1, .str (Txt.partition a b).2.1, .str (Txt.partition a b).2.2]) else none
  | _ => none
/-- x.endswith(y) -/
def endD : List D → Option D
  | [.str a, .str b] => some (.bl (Txt.endswith a b))
  | _ => none
/-- x.join(list or tuple) -/
def joiS (a : Str) (ys : List Str) : Option D := if (ys.map (·.length)).sum + ys.length * a.length ≤ 16777216 then some (.str (Txt.join a ys)) else none
def joiD : List D → Option D
  | [.str a, .lst ds] => (strsD ds).bind (joiS a)
  | [.str a, .tup ds] => (strsD ds).bind (joiS a)
  | _ => none
theorem joiS_some {a : Str} {ys : List Str} {d : D} (h : joiS a ys = some d) : (ys.map (·.length)).sum + ys.length * a.length ≤ 16777216 ∧ d = .str (Txt.join a ys) := by
  unfold joiS at h
  split at h
  · rename_i z
    cases h
    exact ⟨z, rfl⟩
  · cases h
theorem c_joi : CallD X (.builtin "str.join") joiD .fr := callD_met mt_join fun ds d e G H vs Q sb r k => by
  match ds, e, r with
  | [.str a, .lst l], e, r =>
    obtain ⟨ys, e1, e2⟩ := Option.bind_eq_some_iff.mp (show (strsD l).bind (joiS a) = some d from e)
    obtain ⟨z, rfl⟩ := joiS_some e2
    obtain ⟨v, u, ev, q1, q2⟩ := VReps.two r
    have q1 : v = .str a := q1
    obtain ⟨p, us, rfl, h1, h2⟩ := q2
    subst ev q1
    exact ⟨.str a, [.ref p], rfl, a, p, ys, rfl, rfl, .inl (by rw [← strsD_v e1 h2]; exact SqL.of h1), z, sc_out (d := .str (Txt.join a ys)) sb rfl k⟩
  | [.str a, .tup l], e, r =>
    obtain ⟨ys, e1, e2⟩ := Option.bind_eq_some_iff.mp (show (strsD l).bind (joiS a) = some d from e)
    obtain ⟨z, rfl⟩ := joiS_some e2
    obtain ⟨v, u, ev, q1, q2⟩ := VReps.two r
    have q1 : v = .str a := q1
    obtain ⟨p, us, rfl, h1, h2⟩ := q2
    subst ev q1
    exact ⟨.str a, [.ref p], rfl, a, p, ys, rfl, rfl, .inr (by rw [← strsD_v e1 h2]; exact h1), z, sc_out (d := .str (Txt.join a ys)) sb rfl k⟩
/-- int(text) -/
def itxD : List D → Option D
  | [.str a] => if a.length ≤ 640 then (PySem.intText? a).map D.int else none
  | _ => none
/-- a sign in a text -/
def inSg (a b : D) : Option Bool := match a, b with
  | .str x, .str z => match x.cps.toList with
    | [c] => some (decide (c ∈ z.cps.toList))
    | _ => none
  | _, _ => none
/-- None in a tuple of ints and None -/
def optsD : List D → Option (List (Option Int))
  | [] => some []
  | .int i :: r => (optsD r).map (some i :: ·)
  | .non :: r => (optsD r).map (none :: ·)
  | _ :: _ => none
def oV : Option Int → V
  | none => .non
  | some i => .int i
def inNT (a b : D) : Option Bool := match a, b with
  | .non, .tup ds => (optsD ds).map fun os => os.any Option.isNone
  | _, _ => none
/-- text[i] -/
def ixS : D → D → Option D
  | .str z, .int i => if z.length ≤ sizeLine then (atI z.cps.toList i).map fun c => D.str ⟨#[c]⟩ else none
  | _, _ => none
end
section
variable {X : Cx} {en : Kn} {δ τ : List Slot} {R : Type} {C : Slot → List Slot → Res R → Prop} {m : Res R} {K : PySem.W.Frag}
/-- text[lo:hi] -/
def cutT (d : D) (lo hi : Option Int) : Option D := match d with
  | .str z => if z.length ≤ sizeLine then some (.str (cutS z lo hi)) else none
  | _ => none
/-- a text's signs -/
def asS : D → Option (List D)
  | .str z => some (z.cps.toList.map fun c => D.str ⟨#[c]⟩)
  | _ => none
/-! ### f'..' -/
def stS (acc : Str) : D → Option Str
  | .str y => if y.length ≤ sizeLine ∧ (acc ++ y).length ≤ sizeLine then some (acc ++ y) else none
  | .int i => if i.natAbs.log2 < 1920 ∧ (acc ++ (toString i : Str)).length ≤ sizeLine then some (acc ++ (toString i : Str)) else none
  | _ => none
/-- the parts' judgement, acc told already -/
structure JF (X : Cx) (en : Kn) (δ τ : List Slot) (tls : List TE) (acc : Str) {R : Type} (C : Slot → List Slot → Res R → Prop) (m : Res R) : Prop where
  run : m ≠ .bad → en.HX m.exc → ∀ (σ ts : L2.St) (G H : Hp) (T : Str → Hp → Prop), δ.length = en.n → σ.length = en.n → Wd X.K en (δ ++ τ) (σ ++ ts) G H →
    (∀ out δ' G' H', C (.fr (.str out)) δ' m → δ'.length = en.n → Wd X.K en (δ' ++ τ) (σ ++ ts) G' H' → T out H') → tJs tls acc σ H T
end
end BR

/-! K78: a def that is given a list of two new lists, apart, and changes the first; the list made by a comprehension of two turns -/
namespace BR
open PySem PySem.Spec PyProof.Rows L2
def SpT (K : PySem.W.Frag) (den : List D → List D → D → D → Option Bool) : Sp := fun vs H Q E =>
  vs.length = 3 ∧ ∃ (G : Hp) (p a b : Addr) (xs ys : List V) (A B : List D) (d t : D) (v w : V) (r : Bool),
    vs = [.ref p, v, w] ∧ Sub G H ∧ H p = some (.lst [.ref a, .ref b]) ∧ H a = some (.lst xs) ∧ H b = some (.lst ys) ∧ a ≠ b ∧ p ≠ a ∧ p ≠ b ∧ G p = none ∧ G a = none ∧ G b = none ∧ Reps K G A xs ∧ Reps K G B ys ∧ Rep K G d v ∧ Rep K G t w ∧ den A B d t = some r ∧
    ∀ H', (∀ c o, c ≠ a → H c = some o → H' c = some o) → Q (.bl r) H'
/-- the test, and what is told behind the change -/
def denT (g1 : List D → List D → D → D → Res Bool) (g2 : List D → List D → D → D → Res Bool) (cc : D) (A B : List D) (d t : D) : Option Bool :=
  if A.length < sizeLine then (match g1 A B d t with
    | .ok b => if b = true then some false else (match g2 (A ++ [cc]) B d t with
      | .ok r => some r
      | _ => none)
    | _ => none) else none
theorem Wd.un3 {K : PySem.W.Frag} {en : Kn} {G H : Hp} {u v w : V} (s : Sub G H) : Wd K (en.pure G H) [.un, .un, .un] [some u, some v, some w] G H where
  len := rfl
  sub := s
  ext := Sub.refl _
  new := fun a o e => .inl e
  frm := Sub.refl _
  stay := fun a h => by cases h
  nd := List.nodup_nil
  slot := fun j sl o h1 h2 => by
    match j, h1, h2 with
    | 0, h1, h2 => cases h1; trivial
    | 1, h1, h2 => cases h1; trivial
    | 2, h1, h2 => cases h1; trivial
    | j + 3, h1, h2 => simp at h1
  apart := fun a b p h1 _ => by
    obtain ⟨sl, e1, e2, _⟩ := h1
    match a, e1 with
    | 0, e1 => cases e1; cases e2
    | 1, e1 => cases e1; cases e2
    | 2, e1 => cases e1; cases e2
    | j + 3, e1 => simp at e1
/-- a region with three places more -/
def with3 (G H : Hp) (p a b : Addr) : Hp := fun c => if c = p ∨ c = a ∨ c = b then H c else G c
section
variable {P : Program} {w : World} {K : PySem.W.Frag} {mg : Str → Option Value} {base : Heap}
end
/-- what a block's element runs in: all that is there is kept -/
structure KnU (en en' : Kn) : Prop where
  n : en'.n = en.n
  HX : en'.HX = fun o => o = none
theorem KnU.lk {X : Cx} {en en' : Kn} (h : KnU en en') {s : Shared} {H : Hp} {scope : Scope} {cenv : Env} {fp : List Addr} : Lk (X.blk s H scope cenv fp) en' :=
  ⟨fun _ _ _ _ => False, takes0N, fun x hx => by rw [h.HX] at hx; cases hx⟩
def two (ds : List D) : Option Unit := if ds.length = 2 then some () else none
/-- in a comprehension nothing is raised -/
def okR {α : Type} : Res α → Res α
  | .ok a => .ok a
  | _ => .bad
section
variable {X : Cx} {en : Kn} {δ : List Slot} {R : Type} {C : Slot → List Slot → Res R → Prop} {m : Res R}
end
section
variable {X : Cx} {en : Kn} {δ : List Slot} {R : Type} {m : Res R} {N : List Slot → Res R → Prop} {RT : Slot → List Slot → Res R → Prop} {BK CT : List Slot → Res R → Prop}
end
end BR

/-! K79: a def whose told lists are all new, whatever list of lists it is given -/
namespace BR
open PySem PySem.Spec PyProof.Rows L2
def flL : D → Bool
  | .lst l => flDs l
  | _ => false
/-- a row of lists in which there is no list -/
def dp2 : D → Bool
  | .lst ds => ds.all flL
  | .tup ds => ds.all flL
  | _ => false
def chk2 (d : D) : Option Unit := if dp2 d = true then some () else none
def SpN (K : PySem.W.Frag) (f : D → Res D) : Sp := fun vs H Q E =>
  vs.length = 1 ∧ ∃ (G : Hp) (d r : D) (v : V), vs = [v] ∧ Sub G H ∧ Rep K G d v ∧ dp2 d = true ∧ f d = .ok r ∧
    ∀ u G' H', Sub H H' → Sub G' H' → (∀ a o, G' a = some o → noL G a = some o ∨ H a = none) → Rep K G' r u → Q u H'
section
variable {X : Cx} {en : Kn}
end
section
variable {P : Program} {w : World} {K : PySem.W.Frag} {mg : Str → Option Value} {base : Heap}
end
section
variable {X : Cx} {en : Kn} {δ : List Slot} {R : Type} {m : Res R} {N : List Slot → Res R → Prop} {RT : Slot → List Slot → Res R → Prop} {BK CT : List Slot → Res R → Prop} {pos : Pos}
end
end BR

/-! K80: an own list of own lists, changed in place within a loop -/
namespace BR
open PySem PySem.Spec PyProof.Rows L2
/-- what stands fast, and some places with it -/
def wN (G H : Hp) (ps : List Addr) : Hp := fun c => if c ∈ ps then H c else G c
def frN (F0 H : Hp) (ps : List Addr) : Hp := fun c => if c ∈ ps then F0 c else H c
section
variable {F0 G H : Hp} {ps : List Addr}
theorem wN_g (s : Sub G H) : Sub G (wN G H ps) := fun c o e => by
  unfold wN
  split
  · exact s c o e
  · exact e
theorem wN_at {c : Addr} (h : c ∈ ps) : wN G H ps c = H c := if_pos h
end
def AllN (K : PySem.W.Frag) (G H : Hp) : List Addr → List (List D) → Prop
  | [], [] => True
  | a :: as, ds :: dss => (∃ xs, H a = some (.lst xs) ∧ Reps K G ds xs) ∧ AllN K G H as dss
  | _, _ => False
/-- at p: an own list of own lists -/
structure Nest (K : PySem.W.Frag) (en : Kn) (G H : Hp) (p : Addr) (as : List Addr) (hs : List (List D)) : Prop where
  top : H p = some (.lst (as.map V.ref))
  nd : (p :: as).Nodup
  own : ∀ a, a ∈ p :: as → G a = none ∧ en.F0 a = none ∧ a ∉ en.ps
  all : AllN K G H as hs
/-- the caller's first list, that may be changed, and nothing else known -/
structure JN (K : PySem.W.Frag) (en : Kn) (pj : Addr) (j : List D) (G H : Hp) : Prop where
  sub : Sub G H
  ext : Sub en.G0 G
  new : ∀ a o, G a = some o → en.G0 a = some o ∨ (en.F0 a = none ∧ a ∉ en.ps)
  frm : Sub en.F0 H
  stay : ∀ a, a ∈ en.ps → H a ≠ none
  nd : en.ps.Nodup
  ps0 : en.ps[0]? = some pj
  gj : G pj = none
  fj : en.F0 pj = none
  rj : MRep K G H (.lst j) pj
abbrev Kn.nest (en : Kn) (G H : Hp) (ps : List Addr) : Kn := { n := en.n, G0 := wN G H ps, F0 := frN en.F0 H en.ps, ps := en.ps, HX := fun o => o = none, h0 := rfl }
section
variable {K : PySem.W.Frag} {en : Kn} {G H : Hp} {pj p : Addr} {j : List D} {as : List Addr} {hs : List (List D)}
theorem AllN.len : ∀ {as : List Addr} {hs : List (List D)}, AllN K G H as hs → as.length = hs.length
  | [], [], _ => rfl
  | _ :: _, _ :: _, h => by rw [List.length_cons, List.length_cons, AllN.len h.2]
  | [], _ :: _, h => h.elim
  | _ :: _, [], h => h.elim
theorem AllN.mono {G' H' : Hp} (g : Sub G G') : ∀ {as : List Addr} {hs : List (List D)}, (∀ a o, a ∈ as → H a = some o → H' a = some o) → AllN K G H as hs → AllN K G' H' as hs
  | [], [], _, _ => trivial
  | a :: as, _ :: _, h, ⟨⟨xs, e, r⟩, q⟩ => ⟨⟨xs, h a _ List.mem_cons_self e, Reps.sub g _ _ r⟩, AllN.mono g (fun a o m => h a o (List.mem_cons_of_mem _ m)) q⟩
  | [], _ :: _, _, h => h.elim
  | _ :: _, [], _, h => h.elim
theorem AllN.snoc {a : Addr} {ds : List D} {xs : List V} (e : H a = some (.lst xs)) (r : Reps K G ds xs) : ∀ {as : List Addr} {hs : List (List D)}, AllN K G H as hs → AllN K G H (as ++ [a]) (hs ++ [ds])
  | [], [], _ => ⟨⟨xs, e, r⟩, trivial⟩
  | _ :: _, _ :: _, h => ⟨h.1, AllN.snoc e r h.2⟩
  | [], _ :: _, h => h.elim
  | _ :: _, [], h => h.elim
theorem AllN.set {a : Addr} {ds : List D} {xs : List V} (r : Reps K G ds xs) : ∀ {as : List Addr} {hs : List (List D)} {i : Nat}, as.Nodup → as[i]? = some a → AllN K G H as hs → AllN K G (upd H a (.lst xs)) as (hs.set i ds)
  | [], _, _, _, h, _ => by simp at h
  | b :: as, ds0 :: hs, 0, nd, h, q => by
    simp at h
    subst h
    refine ⟨⟨xs, upd_same, r⟩, AllN.mono (Sub.refl _) (fun c o m e => ?_) q.2⟩
    rw [upd_ne fun z => (List.nodup_cons.mp nd).1 (by rw [← z]; exact m)]
    exact e
  | b :: as, ds0 :: hs, i + 1, nd, h, q => by
    have h : as[i]? = some a := by simpa using h
    obtain ⟨⟨ys, e, r0⟩, q2⟩ := q
    refine ⟨⟨ys, ?_, r0⟩, AllN.set r (List.nodup_cons.mp nd).2 h q2⟩
    rw [upd_ne fun z => (List.nodup_cons.mp nd).1 (by rw [z]; exact List.mem_of_getElem? h)]
    exact e
  | _ :: _, [], _, _, _, q => q.elim
theorem AllN.reps {p : Addr} (s : Sub G H) : ∀ {as : List Addr} {hs : List (List D)} {ps : List Addr}, (∀ a, a ∈ as → a ∈ ps) → AllN K G H as hs → Reps K (wN G H ps) (hs.map D.lst) (as.map V.ref)
  | [], [], _, _, _ => rfl
  | a :: as, ds :: hs, ps, m, ⟨⟨xs, e, r⟩, q⟩ => ⟨.ref a, _, rfl, ⟨a, xs, rfl, (wN_at (m a List.mem_cons_self)).trans e, Reps.sub (wN_g s) _ _ r⟩, AllN.reps (p := p) s (fun b hb => m b (List.mem_cons_of_mem _ hb)) q⟩
  | [], _ :: _, _, _, h => h.elim
  | _ :: _, [], _, _, h => h.elim
theorem Nest.rep (s : Sub G H) (N : Nest K en G H p as hs) : Rep K (wN G H (p :: as)) (.lst (hs.map D.lst)) (.ref p) :=
  ⟨p, _, rfl, (wN_at List.mem_cons_self).trans N.top, AllN.reps (p := p) s (fun a h => List.mem_cons_of_mem _ h) N.all⟩
theorem JN.ps {en : Kn} (J : JN K en pj j G H) : pj ∈ en.ps := List.mem_of_getElem? J.ps0
end
def mapL (mE : D → Res (List D)) : List D → Option (List (List D))
  | [] => some []
  | d :: ds => match mE d with
    | .ok l => (mapL mE ds).map (l :: ·)
    | _ => none
section
variable {X : Cx} {en : Kn} {δ : List Slot}
end
end BR

/-! K81: held = [list(x) for x in xs]; for t in range(n): told of it, one more list appended, one of its lists changed -/
namespace BR
open PySem PySem.Spec PyProof.Rows L2
abbrev bs (n : Nat) (j : List D) : List Slot := .mp 0 (.lst j) :: List.replicate n .un
def RPr (K : PySem.W.Frag) (G : Hp) (δ : List Slot) (σ : L2.St) : Prop := ∀ (i : Nat) sl, δ[i + 1]? = some sl → sl = .un ∨ ∃ d v, sl = .fr d ∧ σ[i + 1]? = some (some v) ∧ Rep K G d v
theorem RPr.bs {K : PySem.W.Frag} {G : Hp} {n : Nat} {j : List D} {σ : L2.St} : RPr K G (bs n j) σ := fun i sl h => by
  have h : (List.replicate n Slot.un)[i]? = some sl := by simpa using h
  rw [List.getElem?_replicate] at h
  split at h
  · cases h; exact .inl rfl
  · cases h
theorem RPr.set {K : PySem.W.Frag} {G : Hp} {δ : List Slot} {σ : L2.St} (h : RPr K G δ σ) {k : Nat} {d : D} {v : V} (hv : σ[k]? = some (some v)) (r : Rep K G d v) : RPr K G (δ.set k (.fr d)) σ := fun i sl e => by
  by_cases hk : k = i + 1
  · subst hk
    by_cases hl : i + 1 < δ.length
    · rw [List.getElem?_set_self hl] at e; cases e
      exact .inr ⟨d, v, rfl, hv, r⟩
    · rw [List.getElem?_eq_none (by rw [List.length_set]; omega)] at e; cases e
  · rw [List.getElem?_set_ne hk] at e
    exact h i sl e
section
variable {K : PySem.W.Frag} {en : Kn} {G H : Hp} {pj p : Addr} {j : List D} {as : List Addr} {hs : List (List D)}
theorem JN.upd {q : Addr} {o : HO} (J : JN K en pj j G H) (h1 : G q = none) (h2 : en.F0 q = none) (h3 : q ∉ en.ps) : JN K en pj j G (upd H q o) where
  sub := fun a u e => by rw [upd_ne fun z => by rw [z, h1] at e; cases e]; exact J.sub _ _ e
  ext := J.ext
  new := J.new
  frm := fun a u e => by rw [upd_ne fun z => by rw [z, h2] at e; cases e]; exact J.frm _ _ e
  stay := fun a ha => by rw [upd_ne fun z => h3 (by rw [← z]; exact ha)]; exact J.stay a ha
  nd := J.nd
  ps0 := J.ps0
  gj := J.gj
  fj := J.fj
  rj := J.rj.keep (Sub.refl _) fun u e => by rw [upd_ne fun z => h3 (by rw [← z]; exact J.ps)]; exact e
theorem AllN.get {a : Addr} : ∀ {as : List Addr} {hs : List (List D)} {i : Nat}, AllN K G H as hs → as[i]? = some a → ∃ ds xs, hs[i]? = some ds ∧ H a = some (.lst xs) ∧ Reps K G ds xs
  | [], _, _, _, h => by simp at h
  | b :: as, ds :: hs, 0, q, h => by
    simp at h; subst h
    obtain ⟨⟨xs, e, r⟩, _⟩ := q
    exact ⟨ds, xs, rfl, e, r⟩
  | b :: as, ds :: hs, i + 1, q, h => by
    obtain ⟨d, xs, h1, h2, h3⟩ := AllN.get q.2 (show as[i]? = some a by simpa using h)
    exact ⟨d, xs, by simpa using h1, h2, h3⟩
  | _ :: _, [], _, q, _ => q.elim
theorem Nest.push {a : Addr} {cc : List D} {zs : List V} (N : Nest K en G H p as hs) (ha : a ∉ p :: as) (own : G a = none ∧ en.F0 a = none ∧ a ∉ en.ps) (e : H a = some (.lst zs)) (r : Reps K G cc zs) : Nest K en G (upd H p (.lst (as.map V.ref ++ [.ref a]))) p (as ++ [a]) (hs ++ [cc]) where
  top := by rw [upd_same, List.map_append]; rfl
  nd := by
    rw [← List.cons_append]
    refine List.nodup_append.mpr ⟨N.nd, List.nodup_cons.mpr ⟨by simp, List.nodup_nil⟩, fun b hb c hc => ?_⟩
    rw [List.mem_singleton.mp hc]
    exact fun z => ha (by rw [← z]; exact hb)
  own := fun b hb => by
    rw [← List.cons_append] at hb
    rcases List.mem_append.mp hb with hb | hb
    · exact N.own b hb
    · rw [List.mem_singleton.mp hb]; exact own
  all := by
    have hp : p ∉ as := (List.nodup_cons.mp N.nd).1
    have hap : a ≠ p := fun z => ha (by rw [z]; exact List.mem_cons_self)
    refine AllN.snoc (by rw [upd_ne hap]; exact e) r (AllN.mono (Sub.refl _) (fun c o m ec => ?_) N.all)
    rw [upd_ne fun z => hp (by rw [← z]; exact m)]
    exact ec
theorem Nest.put {a : Addr} {ds : List D} {xs : List V} {i : Nat} (N : Nest K en G H p as hs) (ha : as[i]? = some a) (r : Reps K G ds xs) : Nest K en G (upd H a (.lst xs)) p as (hs.set i ds) where
  top := by
    rw [upd_ne fun z => (List.nodup_cons.mp N.nd).1 (by rw [z]; exact List.mem_of_getElem? ha)]
    exact N.top
  nd := N.nd
  own := N.own
  all := AllN.set r (List.nodup_cons.mp N.nd).2 ha N.all
end
def chkA (hs : List (List D)) (r : List D × List D) : Option Unit := if (flDs r.1 && flDs r.2 && decide (hs.length < 9000)) = true then some () else none
def chkI (r : D × List D) (n : Nat) : Option Nat := match r.1 with
  | .int z => if flDs r.2 = true ∧ 0 ≤ z ∧ z.toNat < n then some z.toNat else none
  | _ => none
def chkT (r : D × List D) : Option Unit := if (flD r.1 && flDs r.2) = true then some () else none
def szN (j : List D) (ls : List (List D)) : Option Unit := if (flDs j && decide (ls.length < 9000)) = true then some () else none
def HD (hs : List (List D)) : D := .lst (hs.map D.lst)
def turnN {R : Type} (c1 : D → Res D) (c2 : D → D → Res Bool) (c3 : List D → Res (List D × List D)) (c4 : List D → D → Res (D × List D)) (c5 : List D → D → Res (D × List D)) (rF : List D → R) (t : D) (s : List D × List (List D)) : Res (LFlow (List D × List (List D)) R) :=
  (okR (c1 (HD s.2))).bind fun due => (okR (c2 (HD s.2) due)).bind fun b => if b = true then .ok (.rt (rF s.1)) else
    (okR (c3 s.1)).bind fun r3 => op (chkA s.2 r3) fun _ =>
    (okR (c4 r3.2 (HD (s.2 ++ [r3.1])))).bind fun r4 => op (chkI r4 (s.2.length + 1)) fun i =>
    (okR (c5 r4.2 t)).bind fun r5 => op (chkT r5) fun _ => .ok (.nx (r5.2, (s.2 ++ [r3.1]).set i [r5.1]))
abbrev dA (n ih iT : Nat) (j : List D) (h t : D) : List Slot := ((bs n j).set ih (.fr h)).set iT (.fr t)
section
variable {X : Cx} {en : Kn} {δ : List Slot} {R : Type} {m : Res R}
structure JLc (X : Cx) (en : Kn) (δ : List Slot) (elt tg iter : Expr) (ifs : List Expr) (scope : Scope) (own : List (Str × Nat)) {R : Type} (C : Slot → List Slot → Res R → Prop) (m : Res R) : Prop where
  run : m ≠ .bad → en.HX m.exc → ∀ (σ : L2.St) (G H : Hp) (T : VK), δ.length = en.n → Wd X.K en δ σ G H →
    (∀ sl δ' v G' H', C sl δ' m → δ'.length = en.n → Wd X.K en (δ' ++ [sl]) (σ ++ [some v]) G' H' → T v H') → tLc (WI X tg iter) (gB X scope tg) (tB X scope ifs) (eB X scope elt) (own.map (·.2)) σ H T
end
section
variable {X : Cx} {en : Kn} {R : Type}
end
section
variable {X : Cx} {en : Kn} {δ : List Slot} {R : Type} {m : Res R} {N : List Slot → Res R → Prop} {RT : Slot → List Slot → Res R → Prop} {BK CT : List Slot → Res R → Prop}
end
end BR

/-! K82: f(x, e): x an own list that e changes -/
namespace BR
open PySem PySem.Spec PyProof.Rows L2
section
variable {K : PySem.W.Frag} {en : Kn} {Δ : List Slot} {S S' : L2.St} {G H : Hp}
end
section
variable {X : Cx} {en : Kn} {δ τ : List Slot} {R : Type} {m : Res R} {C : List Slot → List Slot → Res R → Prop}
end
end BR

/-! K83: a call that is given a new list, to be changed -/
namespace BR
open PySem PySem.Spec PyProof.Rows L2
section
variable {K : PySem.W.Frag} {en en2 : Kn} {Δ Δ' : List Slot} {S S' : L2.St} {G H : Hp}
theorem Wd.remap (h0 : en2.G0 = en.G0) (hF : en2.F0 = en.F0) (hps : en2.ps = en.ps) (W : Wd K en Δ S G H) (g : Nat → Nat) (hlen : Δ'.length = S'.length)
    (hget : ∀ j sl, Δ'[j]? = some sl → (Δ[g j]? = some sl ∧ S'[j]? = S[g j]?) ∨ ∃ i p, sl = .bo i ∧ i < en2.n ∧ S'[i]? = some (some (.ref p)) ∧ S'[j]? = some (some (.ref p)))
    (hbo : ∀ j i, Δ'[j]? = some (.bo i) → Δ[g j]? = some (.bo i) → i < en.n → i < en2.n ∧ S'[i]? = S[i]?)
    (inj : ∀ j k, (∃ sl, Δ'[j]? = some sl ∧ sl.own = true) → (∃ sl, Δ'[k]? = some sl ∧ sl.own = true) → g j = g k → j = k) : Wd K en2 Δ' S' G H where
  len := hlen
  sub := W.sub
  ext := by rw [h0]; exact W.ext
  new := fun a o e => by rw [h0, hF, hps]; exact W.new a o e
  frm := by rw [hF]; exact W.frm
  stay := fun a h => W.stay a (by rw [← hps]; exact h)
  nd := by rw [hps]; exact W.nd
  slot := fun j sl o h1 h2 => by
    rcases hget j sl h1 with ⟨e1, e2⟩ | ⟨i, p, rfl, hi, e1, e2⟩
    · have q := W.slot (g j) sl o e1 (by rw [← e2]; exact h2)
      cases sl with
      | un => trivial
      | fr d => exact q
      | mu d => obtain ⟨p, e, n, f, f2, r⟩ := q; exact ⟨p, e, n, by rw [hF]; exact f, by rw [hps]; exact f2, r⟩
      | mp k d => obtain ⟨p, e, f2, n, f, r⟩ := q; exact ⟨p, e, by rw [hps]; exact f2, n, by rw [hF]; exact f, r⟩
      | bw d => obtain ⟨v, e, r⟩ := q; exact ⟨v, e, by rw [hF]; exact r⟩
      | bo i =>
        obtain ⟨q1, q2, q3⟩ := q
        obtain ⟨r1, r2⟩ := hbo j i h1 e1 q1
        exact ⟨r1, by rw [r2]; exact q2, q3⟩
    · rw [e2] at h2; cases h2
      exact ⟨hi, e1, p, rfl⟩
  apart := fun a b p ha hb => by
    have key : ∀ k, Own Δ' S' k p → Own Δ S (g k) p := fun k ⟨sl, h1, h2, h3⟩ => by
      rcases hget k sl h1 with ⟨e1, e2⟩ | ⟨i, p, rfl, hi, e1, e2⟩
      · exact ⟨sl, e1, h2, by rw [← e2]; exact h3⟩
      · cases h2
    have e := W.apart _ _ p (key a ha) (key b hb)
    obtain ⟨sa, a1, a2, _⟩ := ha
    obtain ⟨sb, b1, b2, _⟩ := hb
    exact inj a b ⟨sa, a1, a2⟩ ⟨sb, b1, b2⟩ e
end
section
variable {X : Cx} {en : Kn} {δ τ : List Slot} {R : Type} {C : Slot → List Slot → Res R → Prop} {m : Res R}
theorem call_coreF {ks : List Kd} {α : Type} {den : List D → Res α} {val : α → D} {outs : α → List D} {mu : Bool} {sls δ1 : List Slot} {vs : List V} {G1 H1 : Hp} {σ ts : L2.St} {T : VK}
    (ht : τ.length = ts.length) (hl1 : δ1.length = en.n) (hσ : σ.length = en.n) (W1 : Wd X.K en (δ1 ++ τ ++ sls) (σ ++ ts ++ vs.map some) G1 H1)
    (c1 : ∃ ds is k, ∃ pe : α → List Slot, CA δ1 ks sls = some (ds, is) ∧ sep ks sls is = true ∧ is.Nodup ∧ m = (den ds).bind k ∧ (∀ a, putAll δ1 is (outs a) = pe a) ∧ ∀ a, den ds = .ok a → C (.ret mu (val a)) (pe a) (k a))
    (hb : m ≠ .bad) (hx : en.HX m.exc)
    (q : ∀ sl δ' v G' H', C sl δ' m → δ'.length = en.n → Wd X.K en (δ' ++ τ ++ [sl]) (σ ++ ts ++ [some v]) G' H' → T v H') : SpD X.K X.mg ks den val outs mu vs H1 T (OutE X en) := by
  obtain ⟨ds, is, k, pe, hca, hsep, nd, em, hpe, hk⟩ := c1
  obtain ⟨hn, hq⟩ := W1.endSlots (hl1.trans hσ.symm) ht
  have pre : ∀ (j : Nat) sl, δ1[j]? = some sl → (δ1 ++ τ ++ sls)[j]? = some sl := fun j sl e => by
    rw [List.append_assoc, List.getElem?_append_left (List.getElem?_eq_some_iff.mp e).1]; exact e
  obtain ⟨ps, hlen, hown, hargs⟩ := ca_ok W1 pre hca hn hq
  have W2 := W1.cut (Δ := δ1 ++ τ) (S := σ ++ ts) (by rw [List.length_append, List.length_append]; omega) (by rw [List.length_append]; omega)
  have hown2 : ∀ (l i : Nat), is[l]? = some i → ∃ p, ps[l]? = some p ∧ Own (δ1 ++ τ) (σ ++ ts) i p := fun l i e => by
    obtain ⟨p, e1, ⟨sl, e2, e3, e4⟩, hi⟩ := hown l i e
    refine ⟨p, e1, sl, ?_, e3, ?_⟩
    · rw [List.getElem?_append_left (by rw [List.length_append]; omega)] at e2; exact e2
    · rw [List.getElem?_append_left (by rw [List.length_append]; omega)] at e4; exact e4
  have psOwn : ∀ p, p ∈ ps → ∃ i, i ∈ is ∧ i < δ1.length ∧ Own (δ1 ++ τ ++ sls) (σ ++ ts ++ vs.map some) i p := fun p hp => by
    obtain ⟨l, hl2⟩ := List.getElem?_of_mem hp
    have hll : l < is.length := by rw [hlen]; exact (List.getElem?_eq_some_iff.mp hl2).1
    obtain ⟨p', e, o, hi⟩ := hown l is[l] (List.getElem?_eq_getElem hll)
    rw [hl2] at e
    cases e
    exact ⟨_, List.getElem_mem hll, hi, o⟩
  have ownF : ∀ {i p}, Own (δ1 ++ τ ++ sls) (σ ++ ts ++ vs.map some) i p → en.F0 p = none ∧ G1 p = none := fun {i p} ⟨sl, e1, e2, e3⟩ => by
    have z := W1.slot i sl _ e1 e3
    cases sl with
    | mu d => obtain ⟨p2, e, n, f, _, r⟩ := z; cases e; exact ⟨f, n⟩
    | mp _ d => obtain ⟨p2, e, _, n, f, r⟩ := z; cases e; exact ⟨f, n⟩
    | un => cases e2
    | fr _ => cases e2
    | bw _ => cases e2
    | bo _ => cases e2
  have ndp : ps.Nodup := by
    refine List.pairwise_iff_getElem.mpr fun a b ha2 hb2 hab he => ?_
    have hbi : b < is.length := by rw [hlen]; exact hb2
    obtain ⟨p1, x1, o1, _⟩ := hown a is[a] (List.getElem?_eq_getElem (by omega))
    obtain ⟨p2, x2, o2, _⟩ := hown b is[b] (List.getElem?_eq_getElem hbi)
    rw [List.getElem?_eq_getElem ha2] at x1
    rw [List.getElem?_eq_getElem hb2] at x2
    cases x1
    cases x2
    rw [he] at o1
    have := W1.apart _ _ _ o1 o2
    have := (List.getElem_inj nd).mp this
    omega
  have hsubG : Sub G1 (hide H1 ps) := fun a o e => by
    by_cases hp : a ∈ ps
    · obtain ⟨i, _, _, ow⟩ := psOwn a hp
      rw [(ownF ow).2] at e; cases e
    · rw [hide_some hp]; exact W1.sub a o e
  have hsubF : Sub en.F0 (hide H1 ps) := fun a o e => by
    by_cases hp : a ∈ ps
    · obtain ⟨i, _, _, ow⟩ := psOwn a hp
      rw [(ownF ow).1] at e; cases e
    · rw [hide_some hp]; exact W1.frm a o e
  have ha := hargs (hide H1 ps) hsubG hsubF fun l sl p a b c d => by
    refine hide_some fun hp => ?_
    obtain ⟨i, him, hi, ow⟩ := psOwn p hp
    rcases d with d | ⟨j, d⟩
    · have e2 : (δ1 ++ τ ++ sls)[(δ1 ++ τ).length + l]? = some sl := by
        rw [List.getElem?_append_right (Nat.le_add_right _ _), Nat.add_sub_cancel_left]; exact b
      have e3 : (σ ++ ts ++ vs.map some)[(δ1 ++ τ).length + l]? = some (some (V.ref p)) := by
        have z : (δ1 ++ τ).length = (σ ++ ts).length := by rw [List.length_append, List.length_append]; omega
        rw [z, List.getElem?_append_right (Nat.le_add_right _ _), Nat.add_sub_cancel_left, List.getElem?_map, c]; rfl
      have := W1.apart i _ p ow ⟨sl, e2, d, e3⟩
      rw [List.length_append] at this
      omega
    · subst d
      have hj := sep_get hsep a b
      have z := hq l _ _ b c
      obtain ⟨_, z1, p', z2⟩ := z
      cases z2
      -- the name's own slot
      have hrd : ∃ d, (Slot.bo j).rd δ1 = some d := ca_bo hca a b
      obtain ⟨d, hd⟩ := hrd
      obtain ⟨p3, e3, ow3, _⟩ := bo_own W1 pre (hq l _ _ b c) hd
      cases e3
      have := W1.apart i j p ow ow3
      subst this
      exact hj him
  have hb' := hb
  rw [em] at hb'
  have hx' := hx
  rw [em] at hx'
  obtain ⟨hbd, hxd⟩ := bind_exc hb' hx'
  obtain ⟨l1, l2⟩ := args_len ha
  refine ⟨l2, G1, ps, ds, den ds, W1.sub, ndp, ha, rfl, hbd, fun a ea v G' H' po ou re => ?_, fun x ex cls d H' he hs => ?_⟩
  · have em' : m = k a := by rw [em, ea]; rfl
    have W3 := W2.called po hlen hown2 nd ou
    rw [putAll_app fun i hi => by
      obtain ⟨l, e⟩ := List.getElem?_of_mem hi
      exact (hown l i e).choose_spec.2.2, hpe a] at W3
    have hl3 : (pe a).length = en.n := by rw [← hpe a, putAll_len]; exact hl1
    refine q (.ret mu (val a)) (pe a) v G' H' (by rw [em']; exact hk a ea) hl3 ?_
    refine W3.more ?_ ?_
    · unfold RetOk at re
      cases mu with
      | true =>
        obtain ⟨p, e, n1, n2, r⟩ := re
        exact ⟨p, by rw [e], n2, (W2.fresh n1).2.1, (W2.fresh n1).2.2, r⟩
      | false => exact ⟨v, rfl, re⟩
    · intro p j e1 e2 ow
      unfold RetOk at re
      cases mu with
      | true =>
        obtain ⟨p', e, n1, n2, r⟩ := re
        cases e2
        cases e
        have : ∃ j', Own (δ1 ++ τ) (σ ++ ts) j' p := by
          obtain ⟨sl, f1, f2, f3⟩ := ow
          rw [← hpe a, ← putAll_app fun i hi => by
            obtain ⟨l, e⟩ := List.getElem?_of_mem hi
            exact (hown l i e).choose_spec.2.2] at f1
          rcases putAll_get (Δ := δ1 ++ τ) (ds := outs a) (j := j) nd (hlen.trans ou.get.1.symm) with ⟨n, e⟩ | ⟨l, d, g1, g2, g3⟩
          · rw [e] at f1
            exact ⟨j, sl, f1, f2, f3⟩
          · obtain ⟨_, _, sl0, e4, e5, e6⟩ := hown2 l j g1
            exact ⟨j, sl0, e4, e5, f3⟩
        obtain ⟨j', ow'⟩ := this
        obtain ⟨o, z⟩ := W2.ownThere ow'
        rw [n1] at z; cases z
      | false => cases e1
  · have em' : m = .raise x := by rw [em, ex]; rfl
    rw [em'] at hx
    exact ⟨x, hx, W1.exc he, hsubF.trans hs⟩
/-- a call whose f-th thing given is a new list, that may be changed -/
theorem je_callF {k : Nat} {x : Str} {p pos : Pos} {e : Expr} {es : List Expr} {ks : List Kd} {α : Type} {den : List D → Res α} {val : α → D} {outs : α → List D} {mu : Bool} (f : Nat)
    (F : Df X.prog X.w X.K X.mg X.base k x ks den val outs mu) (hr : RoomG k X.A) (hL : Lk X en)
    (h : JA X en δ τ (e :: es) (fun sls δ1 m1 => ∃ d0 ds is k, ∃ (pe : α → List Slot) (ol : α → Slot), sls[f]? = some (.mu d0) ∧ CA (δ1 ++ [.mu d0]) ks (sls.set f (.bo δ1.length)) = some (ds, is) ∧ sep ks (sls.set f (.bo δ1.length)) is = true ∧ is.Nodup ∧ m1 = (den ds).bind k ∧ (∀ a, putAll (δ1 ++ [.mu d0]) is (outs a) = pe a ++ [ol a]) ∧ (∀ a, (pe a).length = δ1.length ∧ noBo (pe a) = true) ∧ ∀ a, den ds = .ok a → C (.ret mu (val a)) (pe a) (k a)) m)
    (hg : Gl X x := by rfl) (hdb : (x == ("__debug__" : Str)) = false := by decide) (he : starEach (e :: es) X.env = (false, eval e X.env) :: starEach es X.env := by exact star_plain rfl) (hpl : (backTo pos (starEach es X.env)).any (·.1) = false := by rfl) :
    JE X en δ τ (.Call (.Name x p) (e :: es) [] pos) C m := .mk fun hb hx σ ts G H T hl hσ W q => by
  obtain ⟨fa, fd, psn, hf, hm, hk, hbd⟩ := F
  refine we_of (pe_callG hf hr hg hm hk hbd .nil hL.passes (pa_wa (es := e :: es)) hdb he hpl) ?_
  have ht : τ.length = ts.length := W.splitLen (hl.trans hσ.symm)
  refine h.run hb hx σ ts G H _ hl hσ W fun sls δ1 vs G1 H1 c1 hl1 W1 => ?_
  obtain ⟨d0, ds, is, kk, pe, ol, hs0, hca, hsep, hnd, em, hpe, hpl3, hC⟩ := c1
  have hpl2 := fun a => (hpl3 a).1
  obtain ⟨hn, hq⟩ := W1.endSlots (hl1.trans hσ.symm) ht
  have hfl : f < sls.length := (List.getElem?_eq_some_iff.mp hs0).1
  obtain ⟨vf, hvf⟩ : ∃ vf, vs[f]? = some vf := ⟨_, List.getElem?_eq_getElem (by omega)⟩
  obtain ⟨pf, ef, _⟩ := hq f _ vf hs0 hvf
  cases ef
  rw [List.append_nil]
  have n1 := hl1
  -- positions
  have eL : ∀ (j : Nat), (δ1 ++ τ ++ sls)[j]? = if j < δ1.length then δ1[j]? else if j < δ1.length + τ.length then τ[j - δ1.length]? else sls[j - (δ1.length + τ.length)]? := fun j => by
    rw [List.append_assoc, List.getElem?_append, List.getElem?_append]
    split
    · rfl
    · by_cases h2 : j < δ1.length + τ.length
      · rw [if_pos (by omega), if_pos h2]
      · rw [if_neg (by omega), if_neg h2]; congr 1; omega
  have eS : ∀ (j : Nat), (σ ++ ts ++ vs.map some)[j]? = if j < δ1.length then σ[j]? else if j < δ1.length + τ.length then ts[j - δ1.length]? else (vs.map some)[j - (δ1.length + τ.length)]? := fun j => by
    rw [List.append_assoc, List.getElem?_append, List.getElem?_append]
    by_cases h1 : j < δ1.length
    · rw [if_pos (by omega), if_pos h1]
    · rw [if_neg (by omega), if_neg h1]
      by_cases h2 : j < δ1.length + τ.length
      · rw [if_pos (by omega), if_pos h2]; congr 1; omega
      · rw [if_neg (by omega), if_neg h2]; congr 1; omega
  have eL2 : ∀ (A B : List Slot) (s : Slot) (j : Nat), A.length = δ1.length → ((A ++ [s]) ++ τ ++ B)[j]? = if j < δ1.length then A[j]? else if j = δ1.length then some s else if j < δ1.length + 1 + τ.length then τ[j - (δ1.length + 1)]? else B[j - (δ1.length + 1 + τ.length)]? := fun A B s j hA => by
    rw [List.append_assoc, List.append_assoc, List.getElem?_append]
    by_cases h1 : j < δ1.length
    · rw [if_pos (by omega), if_pos h1]
    · rw [if_neg (by omega), if_neg h1, List.getElem?_append]
      by_cases h2 : j = δ1.length
      · rw [if_pos (by simp; omega), if_pos h2, show j - A.length = 0 by omega]; rfl
      · rw [if_neg (by simp; omega), if_neg h2, List.getElem?_append]
        by_cases h3 : j < δ1.length + 1 + τ.length
        · rw [if_pos (by simp; omega), if_pos h3]; congr 1; simp; omega
        · rw [if_neg (by simp; omega), if_neg h3]; congr 1; simp; omega
  have eS2 : ∀ (B : L2.St) (o : Option V) (j : Nat), ((σ ++ [o]) ++ ts ++ B)[j]? = if j < δ1.length then σ[j]? else if j = δ1.length then some o else if j < δ1.length + 1 + τ.length then ts[j - (δ1.length + 1)]? else B[j - (δ1.length + 1 + τ.length)]? := fun B o j => by
    rw [List.append_assoc, List.append_assoc, List.getElem?_append]
    by_cases h1 : j < δ1.length
    · rw [if_pos (by omega), if_pos h1]
    · rw [if_neg (by omega), if_neg h1, List.getElem?_append]
      by_cases h2 : j = δ1.length
      · rw [if_pos (by simp; omega), if_pos h2, show j - σ.length = 0 by omega]; rfl
      · rw [if_neg (by simp; omega), if_neg h2, List.getElem?_append]
        by_cases h3 : j < δ1.length + 1 + τ.length
        · rw [if_pos (by simp; omega), if_pos h3]; congr 1; simp; omega
        · rw [if_neg (by simp; omega), if_neg h3]; congr 1; simp; omega
  let en2 : Kn := { en with n := en.n + 1 }
  have W2 : Wd X.K en2 ((δ1 ++ [.mu d0]) ++ τ ++ sls.set f (.bo δ1.length)) ((σ ++ [some (.ref pf)]) ++ ts ++ vs.map some) G1 H1 := by
    refine Wd.remap (en := en) (en2 := en2) rfl rfl rfl W1 (fun j => if j < δ1.length then j else if j = δ1.length then δ1.length + τ.length + f else j - 1) (by simp; omega) (fun j sl hj => ?_) (fun j i _ _ hi => ?_) (fun a b ha hb hab => ?_)
    · rw [eL2 _ _ _ _ rfl] at hj
      rw [eL, eS, eS2]
      by_cases h1 : j < δ1.length
      · simp only [h1, if_true] at hj ⊢
        exact .inl ⟨hj, trivial⟩
      · by_cases h2 : j = δ1.length
        · subst h2
          rw [if_neg h1, if_pos rfl] at hj
          cases hj
          simp only [Nat.lt_irrefl, if_false, if_true]
          rw [if_neg (by omega), if_neg (by omega), if_neg (by omega), if_neg (by omega), Nat.add_sub_cancel_left]
          exact .inl ⟨hs0, by rw [List.getElem?_map, hvf]; rfl⟩
        · by_cases h3 : j < δ1.length + 1 + τ.length
          · rw [if_neg h1, if_neg h2, if_pos h3] at hj
            simp only [h1, h2, h3, if_false, if_true]
            rw [if_neg (by omega), if_pos (by omega), if_neg (by omega), if_pos (by omega), show j - 1 - δ1.length = j - (δ1.length + 1) by omega]
            exact .inl ⟨hj, rfl⟩
          · rw [if_neg h1, if_neg h2, if_neg h3] at hj
            simp only [h1, h2, h3, if_false]
            rw [if_neg (by omega), if_neg (by omega), if_neg (by omega), if_neg (by omega), show j - 1 - (δ1.length + τ.length) = j - (δ1.length + 1 + τ.length) by omega]
            by_cases h4 : f = j - (δ1.length + 1 + τ.length)
            · rw [← h4, List.getElem?_set_self hfl] at hj
              cases hj
              refine .inr ⟨δ1.length, pf, rfl, by show δ1.length < en.n + 1; omega, ?_, ?_⟩
              · rw [eS2, if_neg (by omega), if_pos rfl]
              · rw [← h4, List.getElem?_map, hvf]; rfl
            · rw [List.getElem?_set_ne h4] at hj
              exact .inl ⟨hj, rfl⟩
    · refine ⟨by show i < en.n + 1; omega, ?_⟩
      rw [eS2, eS, if_pos (by omega), if_pos (by omega)]
    · obtain ⟨sa, a1, a2⟩ := ha
      obtain ⟨sb, b1, b2⟩ := hb
      have nf : ∀ (j : Nat) (sl : Slot), ((δ1 ++ [.mu d0]) ++ τ ++ sls.set f (.bo δ1.length))[j]? = some sl → sl.own = true → j ≠ δ1.length + 1 + τ.length + f := fun j sl h1 h2 z => by
        rw [eL2 _ _ _ _ rfl, if_neg (by omega), if_neg (by omega), if_neg (by omega), z, Nat.add_sub_cancel_left, List.getElem?_set_self hfl] at h1
        cases h1; cases h2
      have na := nf a sa a1 a2
      have nb := nf b sb b1 b2
      split at hab <;> split at hab <;> (try split at hab) <;> (try split at hab) <;> omega
  refine call_coreF (en := en2) (δ1 := δ1 ++ [.mu d0]) (σ := σ ++ [some (.ref pf)]) (C := fun s δ' m' => ∃ a, s = .ret mu (val a) ∧ δ' = pe a ++ [ol a] ∧ den ds = .ok a ∧ m' = kk a) (m := m) ht (by simp [en2, hl1]) (by simp [en2, hσ]) W2 ⟨ds, is, kk, fun a => pe a ++ [ol a], hca, hsep, hnd, em, hpe, fun a ea => ⟨a, rfl, rfl, ea, rfl⟩⟩ hb hx fun sl δ' v G' H' ⟨a, e1, e2, ea, em2⟩ hl' W' => ?_
  subst e1 e2
  have hCa := hC a ea
  rw [← em2] at hCa
  refine q _ (pe a) v G' H' hCa (by rw [hpl2 a]; exact hl1) ?_
  have eD : ∀ (B : List Slot) (j : Nat), (pe a ++ τ ++ B)[j]? = if j < δ1.length then (pe a)[j]? else if j < δ1.length + τ.length then τ[j - δ1.length]? else B[j - (δ1.length + τ.length)]? := fun B j => by
    have hp := hpl2 a
    rw [List.append_assoc, List.getElem?_append, List.getElem?_append]
    by_cases h1 : j < δ1.length
    · rw [if_pos (by omega), if_pos h1]
    · rw [if_neg (by omega), if_neg h1]
      by_cases h2 : j < δ1.length + τ.length
      · rw [if_pos (by omega), if_pos h2]; congr 1; omega
      · rw [if_neg (by omega), if_neg h2]; congr 1; omega
  have eT : ∀ (j : Nat), (σ ++ ts ++ [some v])[j]? = if j < δ1.length then σ[j]? else if j < δ1.length + τ.length then ts[j - δ1.length]? else [some v][j - (δ1.length + τ.length)]? := fun j => by
    rw [List.append_assoc, List.getElem?_append, List.getElem?_append]
    by_cases h1 : j < δ1.length
    · rw [if_pos (by omega), if_pos h1]
    · rw [if_neg (by omega), if_neg h1]
      by_cases h2 : j < δ1.length + τ.length
      · rw [if_pos (by omega), if_pos h2]; congr 1; omega
      · rw [if_neg (by omega), if_neg h2]; congr 1; omega
  refine Wd.remap (en := en2) (en2 := en) rfl rfl rfl W' (fun j => if j < δ1.length then j else j + 1) (by have := hpl2 a; simp; omega) (fun j s2 hj => ?_) (fun j i hj1 hj2 hi => ?_) (fun a' b' _ _ hab => by split at hab <;> split at hab <;> omega)
  · rw [eD] at hj
    rw [eL2 _ _ _ _ (hpl2 a), eS2, eT]
    by_cases h1 : j < δ1.length
    · simp only [h1, if_true] at hj ⊢
      exact .inl ⟨hj, trivial⟩
    · by_cases h2 : j < δ1.length + τ.length
      · rw [if_neg h1, if_pos h2] at hj
        simp only [h1, h2, if_false, if_true]
        rw [if_neg (by omega), if_neg (by omega), if_pos (by omega), if_neg (by omega), if_neg (by omega), if_pos (by omega), show j + 1 - (δ1.length + 1) = j - δ1.length by omega]
        exact .inl ⟨hj, rfl⟩
      · rw [if_neg h1, if_neg h2] at hj
        simp only [h1, h2, if_false]
        rw [if_neg (by omega), if_neg (by omega), if_neg (by omega), if_neg (by omega), if_neg (by omega), if_neg (by omega), show j + 1 - (δ1.length + 1 + τ.length) = j - (δ1.length + τ.length) by omega]
        exact .inl ⟨hj, rfl⟩
  · have hin : i < en.n := by
      rw [eD] at hj1
      by_cases h1 : j < δ1.length
      · rw [if_pos h1] at hj1
        exact (noBo_get (hpl3 a).2 hj1).elim
      · by_cases h2 : j < δ1.length + τ.length
        · rw [if_neg h1, if_pos h2] at hj1
          have s0 := W.slot (δ.length + (j - δ1.length)) (.bo i) _ (by rw [List.getElem?_append_right (by omega), Nat.add_sub_cancel_left]; exact hj1) (List.getElem?_eq_getElem (by have := W.len; simp at this ⊢; omega))
          exact s0.1
        · rw [if_neg h1, if_neg h2] at hj1
          exfalso
          match e : j - (δ1.length + τ.length), hj1 with
          | 0, hj1 => cases mu <;> cases hj1
          | n + 1, hj1 => simp at hj1
    refine ⟨hin, ?_⟩
    rw [eT, eS2, if_pos (by omega), if_pos (by omega)]
end
end BR

/-! K84: x = f(..) if c else g(..), tried -/
namespace BR
open PySem PySem.Spec PyProof.Rows L2
structure JBe (X : Cx) (en : Kn) (δ : List Slot) (e : Expr) (m : Res D) : Prop where
  run : m ≠ .bad → ∀ (WW : WX) (pn : List (Addr × Obj)) (xe : Value → Shared → Prop), L2N.Takes (X.tr pn xe) WW → ∀ (σ : L2.St) (G H : Hp) (T : VK), δ.length = en.n → Wd X.K en δ σ G H →
    (∀ d, m = .ok d → ∀ v G' H', Wd X.K en (δ ++ [.fr d]) (σ ++ [some v]) G' H' → T v H') →
    (∀ x, m = .raise x → ∀ cls d G' H', ExcOk X.mg en.F0 en.ps x cls d H' → Wd X.K en δ σ G' H' → WW cls d σ H') → WE (X.tr pn xe) e σ H T
section
variable {X : Cx} {en : Kn} {δ : List Slot}
theorem jbe_call {k : Nat} {f : Str} {p cpos : Pos} {e : Expr} {es : List Expr} {ks : List Kd} {α : Type} {den : List D → Res α} {val : α → D} {outs : α → List D} {m : Res D}
    (F : Df X.prog X.w X.K X.mg X.base k f ks den val outs false) (hr : RoomG k X.A)
    (h : ∀ (pn : List (Addr × Obj)) (xe : Value → Shared → Prop) (en' : Kn), en'.n = en.n → JA (X.tr pn xe) en' δ [] (e :: es) (fun sls δ1 m1 => δ1 = δ ∧ ∃ ds, CA δ ks sls = some (ds, []) ∧ m1 = (den ds).bind fun a => .ok (val a)) m)
    (hg : Gl X f := by rfl) (hdb : (f == ("__debug__" : Str)) = false := by decide) (he : starEach (e :: es) X.env = (false, eval e X.env) :: starEach es X.env := by exact star_plain rfl) (hpl : (backTo cpos (starEach es X.env)).any (·.1) = false := by rfl) :
    JBe X en δ (.Call (.Name f p) (e :: es) [] cpos) m := .mk fun hb WW pn xe tk σ G H T hl W kN kX => by
  obtain ⟨fa, fd, psn, hf', hm, hk, hbd⟩ := F
  have hσ := W.sl hl
  refine we_of (X := X.tr pn xe) (pe_callGS (X := X.tr pn xe) hf' hr hg hm hk hbd (fun σ => L2N.passAt tk σ) (pa_wa (X := X.tr pn xe)) hdb he hpl) ?_
  refine (h pn xe en.any rfl).run hb trivial σ [] G H _ hl hσ (by rw [List.append_nil, List.append_nil]; exact W.any) fun sls δ1 vs G1 H1 ⟨e1, ds, hca, em⟩ hl1 W1 => ?_
  subst e1
  obtain ⟨hnn, hq⟩ := W1.endSlots (hl1.trans hσ.symm) rfl
  have pre : ∀ (j : Nat) sl, δ1[j]? = some sl → (δ1 ++ [] ++ sls)[j]? = some sl := fun j sl e => by
    rw [List.append_assoc, List.getElem?_append_left (List.getElem?_eq_some_iff.mp e).1]; exact e
  obtain ⟨ps, hlen, _, hargs⟩ := ca_ok W1 pre hca hnn hq
  have eps : ps = [] := by cases ps with
    | nil => rfl
    | cons _ _ => cases hlen
  subst eps
  have W2 : Wd X.K en δ1 σ G1 H1 := by
    have := W1.cut (Δ := δ1 ++ []) (S := σ ++ []) (by rw [List.append_nil, List.append_nil]; exact hl.trans hσ.symm) (by rw [List.append_nil]; exact Nat.le_of_eq hσ.symm)
    rw [List.append_nil, List.append_nil] at this
    exact this.unany
  have ha := hargs H1 W1.sub W1.frm fun _ _ _ _ _ _ _ => rfl
  obtain ⟨l1, l2⟩ := args_len ha
  refine ⟨l2, G1, [], ds, den ds, W1.sub, List.nodup_nil, by rw [hide_nil]; exact ha, rfl, ?_, ?_, ?_⟩
  · intro z
    rw [em, z] at hb
    exact hb rfl
  · intro a ea v G' H' po _ rt
    have gr : Grow G1 H1 G' H' := ⟨po.g, fun b o q => po.frm b o q (by simp), po.gh, po.new⟩
    exact kN (val a) (by rw [em, ea]; rfl) v G' H' (W2.out (sl := .fr (val a)) (v := v) gr rt)
  · intro x0 ex cls d H' eo sH
    rw [hide_nil] at sH
    exact kX x0 (by rw [em, ex]; rfl) cls d G1 H' (W2.exc eo) (W2.grow (Grow.more W2.sub sH))
end
end BR

/-! K85: isinstance of own classes, divmod, `for a, b in d.items()` -/
namespace BR
open PySem PySem.Spec PyProof.Rows L2
/-! ### isinstance(x, C), C a class of the program, x an instance -/
def isO (cs : List Str) (t : Str) : D → Option Bool
  | .obj c _ => if c ∈ cs then some (c == t) else none
  | _ => none
/-- instances of the classes cs against the class t -/
def KitO (K : PySem.W.Frag) (mg : Str → Option Value) (cs : List Str) (t : Str) : Prop := ∃ E, mg t = some (.ref E) ∧ ∀ c, c ∈ cs → ∀ C, PySem.W.nsIn K mainGlobals c = some (some (.ref C)) → PySem.W.kitOne K (.ref C) (.ref E) = some (c == t)
section
variable {X : Cx} {en : Kn} {δ τ : List Slot} {R : Type} {C : Slot → List Slot → Res R → Prop} {m : Res R}
end
/-! ### divmod -/
def divmodD : List D → Option D
  | [.int a, .int b] => if 0 < b ∧ b.natAbs.log2 < 9000 then some (.tup [.int (a / b), .int (a % b)]) else none
  | _ => none
/-! ### things without dicts -/
mutual
def noD : D → Bool
  | .dic _ => false
  | .lst ds => noDs ds
  | .tup ds => noDs ds
  | .obj _ fs => noDf fs
  | _ => true
def noDs : List D → Bool
  | [] => true
  | d :: ds => noD d && noDs ds
def noDf : List (Str × Bool × D) → Bool
  | [] => true
  | (_, _, d) :: fs => noD d && noDf fs
end
/-- .. at its top, a dict or a list may stand -/
def noDT : D → Bool
  | .dic kvs => kvs.all fun p => noD p.2
  | d => noD d
def lkZ (z : Bool × D) : Bool := if z.1 = true then noD z.2 else noDT z.2
def cutH (G : Hp) (a : Addr) : Hp := fun b => if b = a then none else G b
def OnlyD (G : Hp) (a : Addr) : Prop := ∀ o, G a = some o → ∃ kv, o = .dK kv
theorem cut_sub {G : Hp} {a : Addr} : Sub (cutH G a) G := fun b o e => by
  unfold cutH at e
  split at e
  · cases e
  · exact e
theorem cut_at {G : Hp} {a b : Addr} {o : HO} (h : OnlyD G a) (e : G b = some o) (n : ∀ kv, o ≠ .dK kv) : cutH G a b = some o := by
  unfold cutH
  rw [if_neg fun z => by subst z; obtain ⟨kv, z⟩ := h o e; exact n kv z]
  exact e
theorem cut_self {G : Hp} {a : Addr} : cutH G a a = none := if_pos rfl
theorem cut_none {G : Hp} {a b : Addr} (h : G b = none) : cutH G a b = none := by
  unfold cutH
  split
  · rfl
  · exact h
section
variable {K : PySem.W.Frag} {G M F H : Hp} {a : Addr}
theorem sqt_cut {b : Addr} {vs : List V} (h : OnlyD G a) (q : SqT K G b vs) : SqT K (cutH G a) b vs := by
  rcases q with (q | ⟨o, q⟩) | q
  · exact .inl (.inl (cut_at h q fun _ z => nomatch z))
  · exact .inl (.inr ⟨o, cut_at h q fun _ z => nomatch z⟩)
  · exact .inr q
theorem sql_cut {b : Addr} {vs : List V} (h : OnlyD G a) (q : SqL K G b vs) : SqL K (cutH G a) b vs := by
  rcases q with (q | ⟨o, q⟩) | q
  · exact .inl (.inl (cut_at h q fun _ z => nomatch z))
  · exact .inl (.inr ⟨o, cut_at h q fun _ z => nomatch z⟩)
  · exact .inr q
theorem exat_cut {C b : Addr} {xf : List (Str × Option Int)} (h : OnlyD G a) (h' : OnlyD M a) (q : ExAt G M C b xf) : ExAt (cutH G a) (cutH M a) C b xf := by
  obtain ⟨oe, vs, h1, h2, h3⟩ := q
  refine ⟨oe, vs, cut_at h' h1 (fun _ z => nomatch z), h2, ?_⟩
  rcases h3 with h3 | ⟨dd, h4, h5, h6⟩
  · exact .inl h3
  · exact .inr ⟨dd, h4, h5, cut_at h h6 fun _ z => nomatch z⟩
mutual
theorem Rep.cut (h : OnlyD G a) : ∀ (d : D) (v : V), noD d = true → Rep K G d v → Rep K (cutH G a) d v
  | .non, _, _, r => r
  | .bl _, _, _, r => r
  | .int _, _, _, r => r
  | .str _, _, _, r => r
  | .scr ns, _, _, r => by obtain ⟨b, e, q⟩ := r; exact ⟨b, e, sql_cut h q⟩
  | .exc c xf, _, _, r => by obtain ⟨b, C, e, f, q⟩ := r; exact ⟨b, C, e, f, exat_cut h h q⟩
  | .obj c fs, _, n, r => by
    obtain ⟨b, C, dx, vs, e, f, q, q2, r⟩ := r
    exact ⟨b, C, dx, vs, e, f, cut_at h q (fun _ z => nomatch z), cut_at h q2 (fun _ z => nomatch z), RepFs.cut h fs vs n r⟩
  | .lst ds, _, n, r => by obtain ⟨b, vs, e, q, r⟩ := r; exact ⟨b, vs, e, cut_at h q (fun _ z => nomatch z), Reps.cut h ds vs n r⟩
  | .tup ds, _, n, r => by obtain ⟨b, vs, e, q, r⟩ := r; exact ⟨b, vs, e, sqt_cut h q, Reps.cut h ds vs n r⟩
  | .dic ds, _, n, r => (Bool.false_ne_true n).elim
theorem Reps.cut (h : OnlyD G a) : ∀ (ds : List D) (vs : List V), noDs ds = true → Reps K G ds vs → Reps K (cutH G a) ds vs
  | [], _, _, r => r
  | d :: ds, _, n, r => by
    obtain ⟨v, q, e, h1, h2⟩ := r
    have n' : noD d = true ∧ noDs ds = true := Bool.and_eq_true_iff.mp n
    exact ⟨v, q, e, Rep.cut h d v n'.1 h1, Reps.cut h ds q n'.2 h2⟩
theorem RepFs.cut (h : OnlyD G a) : ∀ (fs : List (Str × Bool × D)) (vs : List (Str × V)), noDf fs = true → RepFs K G fs vs → RepFs K (cutH G a) fs vs
  | [], _, _, r => r
  | (k, b, d) :: fs, _, n, r => by
    obtain ⟨v, q, e, h1, h2⟩ := r
    have n' : noD d = true ∧ noDf fs = true := Bool.and_eq_true_iff.mp n
    exact ⟨v, q, e, Rep.cut h d v n'.1 h1, RepFs.cut h fs q n'.2 h2⟩
end
theorem RepKs.cut (h : OnlyD G a) : ∀ (ds : List (Key × D)) (vs : List (Key × V)), (ds.all fun p => noD p.2) = true → RepKs K G ds vs → RepKs K (cutH G a) ds vs
  | [], _, _, r => r
  | (k, d) :: ds, _, n, r => by
    obtain ⟨v, q, e, h1, h2⟩ := r
    rw [List.all_cons] at n
    have n' := Bool.and_eq_true_iff.mp n
    exact ⟨v, q, e, Rep.cut h d v n'.1 h1, RepKs.cut h ds q n'.2 h2⟩
theorem MRep.cut (h : OnlyD G a) {p : Addr} : ∀ {d : D}, noDT d = true → MRep K G H d p → (∀ o, H p = some o → M p = some o) → MRep K (cutH G a) M d p
  | .lst ds, n, r, k => by obtain ⟨vs, e, q⟩ := r; exact ⟨vs, k _ e, Reps.cut h ds vs n q⟩
  | .dic ds, n, r, k => by obtain ⟨vs, e, q⟩ := r; exact ⟨vs, k _ e, RepKs.cut h ds vs n q⟩
  | .non, _, r, _ => r.elim
  | .bl _, _, r, _ => r.elim
  | .int _, _, r, _ => r.elim
  | .str _, _, r, _ => r.elim
  | .tup _, _, r, _ => r.elim
  | .scr _, _, r, _ => r.elim
  | .exc _ _, _, r, _ => r.elim
  | .obj _ _, _, r, _ => r.elim
end
/-! ### the dict is locked -/
structure KnK (en en' : Kn) : Prop where
  n : en'.n = en.n
  HX : ∀ x, ¬ en'.HX (some x)
theorem KnK.lk {X : Cx} {en en' : Kn} (h : KnK en en') (l : Lk X en) : Lk X en' := by
  obtain ⟨W, t, _⟩ := l
  exact ⟨W, t, fun x hx => absurd hx (h.HX x)⟩
def Kn.lock (en : Kn) (G : Hp) (a : Addr) (u : HO) : Kn := { n := en.n, G0 := cutH G a, F0 := upd en.F0 a u, ps := en.ps, HX := fun o => o = none, h0 := rfl }
theorem KnK.lock {en : Kn} {G : Hp} {a : Addr} {u : HO} {G1 : Hp} : KnK en ((en.lock G a u).at G1) := ⟨rfl, fun x z => nomatch z⟩
def Slot.lkd : Slot → Option (Bool × D)
  | .fr d => some (true, d)
  | .mu d => some (false, d)
  | .mp _ d => some (false, d)
  | _ => none
/-- the names that are known while it is walked -/
def PL : List Slot → List Slot → List (Bool × D) → Prop
  | [], [], _ => True
  | s :: r, t :: q, ns => (t = .un ∨ ∃ z, s.lkd = some z ∧ t = s ∧ z ∈ ns) ∧ PL r q ns
  | _, _, _ => False
theorem PL.len : ∀ {δ δ2 : List Slot} {ns : List (Bool × D)}, PL δ δ2 ns → δ2.length = δ.length
  | [], [], _, _ => rfl
  | _ :: _, _ :: _, _, h => by rw [List.length_cons, List.length_cons, PL.len h.2]
  | [], _ :: _, _, h => h.elim
  | _ :: _, [], _, h => h.elim
theorem PL.at : ∀ {δ δ2 : List Slot} {ns : List (Bool × D)} {i : Nat} {t : Slot}, PL δ δ2 ns → δ2[i]? = some t → t = .un ∨ ∃ z, δ[i]? = some t ∧ t.lkd = some z ∧ z ∈ ns
  | [], [], _, _, _, _, e => by simp at e
  | s :: r, t :: q, ns, 0, t', h, e => by
    have : t = t' := by simpa using e
    subst this
    rcases h.1 with z | ⟨d, z1, z2, z3⟩
    · exact .inl z
    · subst z2; exact .inr ⟨d, rfl, z1, z3⟩
  | s :: r, t :: q, ns, i + 1, t', h, e => by
    rcases PL.at (i := i) h.2 (by simpa using e) with z | ⟨d, z1, z2, z3⟩
    · exact .inl z
    · exact .inr ⟨d, by simpa using z1, z2, z3⟩
  | [], _ :: _, _, _, _, h, _ => h.elim
  | _ :: _, [], _, _, _, h, _ => h.elim
/-- un, what stands fast, own lists and dicts alone -/
def Slot.okU : Slot → Bool
  | .un => true
  | .fr _ => true
  | .mu _ => true
  | .mp _ _ => true
  | _ => false
section
variable {K : PySem.W.Frag} {en : Kn} {δ δ2 : List Slot} {σ : L2.St} {G H G' H' : Hp} {a : Addr} {kv : List (Key × V)} {u : HO}
theorem Wd.locked {ns : List (Bool × D)} {i : Nat} (W : Wd K en δ σ G H) (hp : PL δ δ2 ns) (hs : ns.all lkZ = true) (hi : δ2[i]? = some .un) (only : OnlyD G a) (far : ∀ j p, j ≠ i → Own δ σ j p → p ≠ a) : Wd K (en.lock G a u) δ2 σ (cutH G a) (upd H a u) where
  len := hp.len.trans W.len
  sub := fun b o e => by
    have n : b ≠ a := fun z => by subst z; rw [cut_self] at e; cases e
    rw [upd_ne n]; exact W.sub _ _ (cut_sub _ _ e)
  ext := Sub.refl _
  new := fun b o e => .inl e
  frm := fun b o e => by
    have e : upd en.F0 a u b = some o := e
    by_cases n : b = a
    · subst n; rw [upd_same] at e ⊢; exact e
    · rw [upd_ne n] at e ⊢; exact W.frm _ _ e
  stay := fun b h => by
    by_cases n : b = a
    · subst n; rw [upd_same]; exact fun z => nomatch z
    · rw [upd_ne n]; exact W.stay b h
  nd := W.nd
  slot := fun j t o h1 h2 => by
    rcases hp.at h1 with rfl | ⟨z, h3, h4, h5⟩
    · trivial
    have q := W.slot j t o h3 h2
    have nz : lkZ z = true := List.all_eq_true.mp hs z h5
    have fj : ∀ p, t.own = true → o = some (.ref p) → p ≠ a := fun p ow eo => far j p (fun z => by subst z; rw [hi] at h1; cases h1; cases h4) ⟨t, h3, ow, by rw [← eo]; exact h2⟩
    cases t <;> first | cases h4 | skip
    · obtain ⟨v, e, r⟩ := q; exact ⟨v, e, Rep.cut only _ _ nz r⟩
    · obtain ⟨p, e, g, f, f2, r⟩ := q
      have pa := fj p rfl e
      exact ⟨p, e, cut_none g, by show upd en.F0 a u p = none; rw [upd_ne pa]; exact f, f2, r.cut only nz fun o e => by rw [upd_ne pa]; exact e⟩
    · obtain ⟨p, e, f2, g, f, r⟩ := q
      have pa := fj p rfl e
      exact ⟨p, e, f2, cut_none g, by show upd en.F0 a u p = none; rw [upd_ne pa]; exact f, r.cut only nz fun o e => by rw [upd_ne pa]; exact e⟩
  apart := fun j k p h1 h2 => by
    have go : ∀ {j : Nat}, Own δ2 σ j p → Own δ σ j p := fun {j} ⟨s, e1, e2, e3⟩ => by
      rcases hp.at e1 with rfl | ⟨z, h3, h4, h5⟩
      · cases e2
      · exact ⟨s, h3, e2, e3⟩
    exact W.apart j k p (go h1) (go h2)
/-- what stands fast, the dict among it again -/
def reG (G : Hp) (a : Addr) (G' : Hp) : Hp := fun b => if b = a then G a else G' b
end
/-- the pairs of a dict; ns: what else is known meanwhile -/
def itmL (d : D) (ns : List (Bool × D)) : Option (List D) := match d with
  | .dic kvs => if (kvs.all fun p => noD p.2) = true ∧ ns.all lkZ = true then some (kvs.map fun p => .tup [kD p.1, p.2]) else none
  | _ => none
section
variable {X : Cx} {en : Kn} {δ : List Slot} {R : Type} {m : Res R}
variable {N : List Slot → Res R → Prop} {RT : Slot → List Slot → Res R → Prop} {BK CT : List Slot → Res R → Prop} {pos : Pos}
end
end BR

/-! K87: a comprehension of two `for` as a value; a walk over the pairs of a dict that a call tells -/
namespace BR
open PySem PySem.Spec PyProof.Rows L2
section
variable {X : Cx} {en : Kn} {δ τ : List Slot} {R : Type} {C : Slot → List Slot → Res R → Prop} {m : Res R}
end
section
variable {K : PySem.W.Frag} {en : Kn} {δ δ' : List Slot} {σ σ' : L2.St} {G H G' H' : Hp} {a : Addr} {u : HO}
end
section
variable {X : Cx} {en : Kn} {δ : List Slot} {R : Type} {m : Res R} {N : List Slot → Res R → Prop} {RT : Slot → List Slot → Res R → Prop} {BK CT : List Slot → Res R → Prop} {pos : Pos}
end
end BR

/-! K88: a def that tells a new list, or nothing with a list in it, of a thing nested at will; what it tells is changed behind -/
namespace BR
open PySem PySem.Spec PyProof.Rows L2
/-- a list is this def's own, other things stand fast -/
def slM : D → Slot
  | .lst l => .mu (.lst l)
  | d => .fr d
def chkQ (d : D) : Option Unit := if flT d = true then some () else none
def nlD : D → Option Unit
  | .lst _ => none
  | _ => some ()
theorem slM_may : ∀ d, (slM d).may = true := fun d => by cases d <;> rfl
theorem slM_of {d : D} {u : Unit} (h : nlD d = some u) : slM d = .fr d := by cases d <;> first | rfl | cases h
/-- no list of what stood fast is told -/
def SpA (K : PySem.W.Frag) (f : List D → Res D) : Sp := fun vs H Q E =>
  vs.length = 2 ∧ ∃ (G : Hp) (d r : D) (v : V) (j : Int), vs = [v, .int j] ∧ Sub G H ∧ Rep K G d v ∧ f [d, .int j] = .ok r ∧
    ∀ u G' H', Sub H H' → Sub G' H' → (∀ a o, G' a = some o → noL G a = some o ∨ H a = none) → Rep K G' r u → Q u H'
theorem noL_back {G G' : Hp} {a : Addr} {o : HO} (h : G a = some o) (h' : noL G' a = some o) : noL G a = some o := by
  have h1 := (noL_at h').1
  unfold noL at h' ⊢
  rw [h1] at h'
  rw [h]
  exact h'
section
variable {P : Program} {w : World} {K : PySem.W.Frag} {mg : Str → Option Value} {base : Heap}
theorem fn_A {x qual : Str} {st : Stmt} {fa : Addr} {fd : FuncData} {N psn : List Str} {k : Nat} {f : List D → Res D}
    (F : L2.Fun K x qual st fa fd) (S : FnScope N psn (defScope st)) (hk : psn.length = 2)
    (body : ∀ (X : Cx) (en : Kn) (cdv : Value) (A : Around) (outer : List Env) (s : Shared) (H : Hp) (E : XK) (v_0 v_1 : D), X = cxOf (L2N.CX P w) P w K mg base N qual (defScope st) fa cdv A outer s H E → RoomG k X.A → en.n = N.length → Lk X en → PassesOwn (model X.prog X.w) X.A X.env X.xe →
      JSs X en (slots0 0 [.b, .b] [v_0, v_1] ++ List.replicate (N.length - 2) .un) (defBody st) (fun _ _ => False) (fun s _ m' => ∃ r, m' = op (chkQ r) (fun _ => .ok r) ∧ s = slM r) (fun _ _ => False) (fun _ _ => False) (f [v_0, v_1])) :
    FnG P w K mg base (k + 1) fa fd psn (SpA K f) := by
  refine fn_G F S (fun vs H Q E h => h.1.trans hk.symm) fun cdv A outer s H vs Q E hr h => ?_
  obtain ⟨hlv, G, d, r, v, j, evs, hG, rv, er, hok⟩ := h
  subst evs
  let en : Kn := ⟨N.length, G, hide H [], [], fun o => o = none ∨ o = (f [d, .int j]).exc, .inl rfl⟩
  have ha : ArgsOk K G H (hide H []) [.b, .b] [d, .int j] [v, .int j] [] := ⟨BRep.of (by rw [hide_nil]; exact hG) rv, BRep.of (by rw [hide_nil]; exact hG) rfl, trivial⟩
  obtain ⟨l1, l2⟩ := args_len ha
  have hkN : ([.b, .b] : List Kd).length ≤ N.length := by
    have := congrArg List.length S.pre
    rw [List.length_take] at this
    show 2 ≤ _
    omega
  have W := Wd.start (en := en) (N := N) hG rfl rfl List.nodup_nil ha hkN
  let X : Cx := cxOf (L2N.CX P w) P w K mg base N qual (defScope st) fa cdv A outer s H E
  have tk : L2N.Takes X (fun cls d _ H => E cls d H) := L2N.takes_of rfl rfl rfl rfl
  have lk : Lk X en := ⟨_, tk, fun x hx cls d σ H' he hs => by
    rcases hx with z | z
    · cases z
    · rw [er] at z; cases z⟩
  have B := body X en cdv A outer s H E d (.int j) rfl hr rfl lk (passes_of rfl)
  refine ⟨WSs X (defBody st), pss_wss, ?_⟩
  have hlen : (slots0 0 [.b, .b] [d, .int j] ++ List.replicate (N.length - 2) Slot.un).length = en.n := by
    rw [List.length_append, List.length_replicate]
    show 2 + _ = N.length
    have h2 : 2 ≤ N.length := hkN
    omega
  refine B.run (by rw [er]; exact fun z => nomatch z) (.inr rfl) (L2.start N [v, .int j]) G H _ hlen W (fun _ _ _ _ z => z.elim) (fun sl δ' u σ' G' H' ⟨r', em, es⟩ hl' W' => ?_) (fun _ _ _ _ z => z.elim) (fun _ _ _ _ z => z.elim)
  subst es
  rw [er] at em
  obtain ⟨fl, err⟩ : flT r' = true ∧ r = r' := by
    by_cases z : flT r' = true
    · refine ⟨z, ?_⟩
      have e : chkQ r' = some () := if_pos z
      rw [e] at em
      cases em; rfl
    · have e : chkQ r' = none := if_neg z
      rw [e] at em
      cases em
  subst err
  have W2 := W'.one hl' (by
      have := W'.len
      rw [List.length_append, List.length_append] at this
      have e1 : [slM r].length = 1 := rfl
      have e2 : [some u].length = 1 := rfl
      omega)
  have sHH : Sub H H' := by
    have := W2.frm
    rw [show en.F0 = H from hide_nil] at this
    exact this
  have new0 : ∀ a o, noL G' a = some o → noL G a = some o ∨ H a = none := fun a o e => by
    rcases W2.new a o (noL_sub _ _ e) with z | z
    · exact .inl (noL_back z e)
    · refine .inr ?_
      have z1 : en.F0 a = none := z.1
      rw [show en.F0 = H from hide_nil] at z1
      exact z1
  have q := W'.last
  cases r with
  | lst l =>
    obtain ⟨p, e, n, f0, np, vs, hvs, rvs⟩ := q
    cases e
    have h0 : H p = none := by
      rw [show en.F0 = H from hide_nil] at f0
      exact f0
    have gp : noL G' p = none := by
      cases z : noL G' p with
      | none => rfl
      | some o => rw [noL_sub _ _ z] at n; cases n
    refine hok _ (upd (noL G') p (.lst vs)) H' sHH (fun a o ea => ?_) (fun a o ea => ?_) ⟨p, vs, rfl, upd_same, Reps.sub (Sub.upd gp) _ _ (Reps.noL fl rvs)⟩
    · by_cases hap : a = p
      · subst hap; rw [upd_same] at ea; cases ea; exact hvs
      · rw [upd_ne hap] at ea; exact W2.sub _ _ (noL_sub _ _ ea)
    · by_cases hap : a = p
      · subst hap; exact .inr h0
      · rw [upd_ne hap] at ea; exact new0 a o ea
  | dic _ => exact (Bool.false_ne_true fl).elim
  | scr _ => exact (Bool.false_ne_true fl).elim
  | exc _ _ => exact (Bool.false_ne_true fl).elim
  | obj _ _ => exact (Bool.false_ne_true fl).elim
  | non => obtain ⟨u', e, r⟩ := q; cases e; exact hok _ (noL G') H' sHH (noL_sub.trans W2.sub) new0 r
  | bl _ => obtain ⟨u', e, r⟩ := q; cases e; exact hok _ (noL G') H' sHH (noL_sub.trans W2.sub) new0 r
  | int _ => obtain ⟨u', e, r⟩ := q; cases e; exact hok _ (noL G') H' sHH (noL_sub.trans W2.sub) new0 r
  | str _ => obtain ⟨u', e, r⟩ := q; cases e; exact hok _ (noL G') H' sHH (noL_sub.trans W2.sub) new0 r
  | tup ts => obtain ⟨u', e, r⟩ := q; cases e; exact hok _ (noL G') H' sHH (noL_sub.trans W2.sub) new0 (Rep.noL (d := .tup ts) fl r)
end
/-- an expression that is tried: a list that it tells is new -/
structure JBm (X : Cx) (en : Kn) (δ : List Slot) (e : Expr) (m : Res D) : Prop where
  run : m ≠ .bad → ∀ (WW : WX) (pn : List (Addr × Obj)) (xe : Value → Shared → Prop), L2N.Takes (X.tr pn xe) WW → ∀ (σ : L2.St) (G H : Hp) (T : VK), δ.length = en.n → Wd X.K en δ σ G H →
    (∀ d, m = .ok d → ∀ v G' H', Wd X.K en (δ ++ [slM d]) (σ ++ [some v]) G' H' → T v H') →
    (∀ x, m = .raise x → ∀ cls d G' H', ExcOk X.mg en.F0 en.ps x cls d H' → Wd X.K en δ σ G' H' → WW cls d σ H') → WE (X.tr pn xe) e σ H T
section
variable {X : Cx} {en : Kn} {δ : List Slot}
theorem jbm_of {e : Expr} {m0 m : Res D} (h : JBe X en δ e m0) (em : m = m0.bind fun d => op (nlD d) fun _ => .ok d) : JBm X en δ e m := .mk fun hb WW pn xe tk σ G H T hl W kN kX => by
  have hb0 : m0 ≠ .bad := fun z => by rw [em, z] at hb; exact hb rfl
  refine h.run hb0 WW pn xe tk σ G H T hl W (fun d ed v G' H' W' => ?_) (fun x ex => kX x (by rw [em, ex]; rfl))
  have em2 : m = op (nlD d) fun _ => .ok d := by rw [em, ed]; rfl
  rw [em2] at hb
  obtain ⟨u, eu⟩ := op_some hb
  refine kN d (by rw [em2, eu]; rfl) v G' H' ?_
  rw [slM_of eu]; exact W'
theorem jbm_call {k : Nat} {f : Str} {p cpos : Pos} {e : Expr} {es : List Expr} {ks : List Kd} {den : List D → Res (List D)} {outs : List D → List D} {m : Res D}
    (F : Df X.prog X.w X.K X.mg X.base k f ks den (fun a => .lst a) outs true) (hr : RoomG k X.A)
    (h : ∀ (pn : List (Addr × Obj)) (xe : Value → Shared → Prop) (en' : Kn), en'.n = en.n → JA (X.tr pn xe) en' δ [] (e :: es) (fun sls δ1 m1 => δ1 = δ ∧ ∃ ds, CA δ ks sls = some (ds, []) ∧ m1 = (den ds).bind fun a => .ok (.lst a)) m)
    (hg : Gl X f := by rfl) (hdb : (f == ("__debug__" : Str)) = false := by decide) (he : starEach (e :: es) X.env = (false, eval e X.env) :: starEach es X.env := by exact star_plain rfl) (hpl : (backTo cpos (starEach es X.env)).any (·.1) = false := by rfl) :
    JBm X en δ (.Call (.Name f p) (e :: es) [] cpos) m := .mk fun hb WW pn xe tk σ G H T hl W kN kX => by
  obtain ⟨fa, fd, psn, hf', hm, hk, hbd⟩ := F
  have hσ := W.sl hl
  refine we_of (X := X.tr pn xe) (pe_callGS (X := X.tr pn xe) hf' hr hg hm hk hbd (fun σ => L2N.passAt tk σ) (pa_wa (X := X.tr pn xe)) hdb he hpl) ?_
  refine (h pn xe en.any rfl).run hb trivial σ [] G H _ hl hσ (by rw [List.append_nil, List.append_nil]; exact W.any) fun sls δ1 vs G1 H1 ⟨e1, ds, hca, em⟩ hl1 W1 => ?_
  subst e1
  obtain ⟨hnn, hq⟩ := W1.endSlots (hl1.trans hσ.symm) rfl
  have pre : ∀ (j : Nat) sl, δ1[j]? = some sl → (δ1 ++ [] ++ sls)[j]? = some sl := fun j sl e => by
    rw [List.append_assoc, List.getElem?_append_left (List.getElem?_eq_some_iff.mp e).1]; exact e
  obtain ⟨ps, hlen, _, hargs⟩ := ca_ok W1 pre hca hnn hq
  have eps : ps = [] := by cases ps with
    | nil => rfl
    | cons _ _ => cases hlen
  subst eps
  have W2 : Wd X.K en δ1 σ G1 H1 := by
    have := W1.cut (Δ := δ1 ++ []) (S := σ ++ []) (by rw [List.append_nil, List.append_nil]; exact hl.trans hσ.symm) (by rw [List.append_nil]; exact Nat.le_of_eq hσ.symm)
    rw [List.append_nil, List.append_nil] at this
    exact this.unany
  have ha := hargs H1 W1.sub W1.frm fun _ _ _ _ _ _ _ => rfl
  obtain ⟨l1, l2⟩ := args_len ha
  refine ⟨l2, G1, [], ds, den ds, W1.sub, List.nodup_nil, by rw [hide_nil]; exact ha, rfl, ?_, ?_, ?_⟩
  · intro z
    rw [em, z] at hb
    exact hb rfl
  · intro a ea v G' H' po _ rt
    have gr : Grow G1 H1 G' H' := ⟨po.g, fun b o q => po.frm b o q (by simp), po.gh, po.new⟩
    obtain ⟨p, e, n1, n2, r⟩ : ∃ p, v = .ref p ∧ H1 p = none ∧ G' p = none ∧ MRep X.K G' H' (.lst a) p := rt
    exact kN (.lst a) (by rw [em, ea]; rfl) v G' H' (W2.out (sl := .mu (.lst a)) (v := v) gr ⟨p, e, n1, n2, r⟩)
  · intro x0 ex cls d H' eo sH
    rw [hide_nil] at sH
    exact kX x0 (by rw [em, ex]; rfl) cls d G1 H' (W2.exc eo) (W2.grow (Grow.more W2.sub sH))
theorem jbm_if {c a b : Expr} {pos : Pos} {mT : Res Bool} {mA mB m : Res D} (em : m = mT.bind fun t => if t = true then mA else mB) (hnr : ∀ x, mT ≠ .raise x)
    (hc : ∀ (pn : List (Addr × Obj)) (xe : Value → Shared → Prop) (en' : Kn), en'.n = en.n → JT (X.tr pn xe) en' δ [] c (fun t δ1 m1 => δ1 = δ ∧ m1 = .ok t) mT)
    (hA : JBm X en δ a mA) (hB : JBm X en δ b mB) : JBm X en δ (.IfExp c a b pos) m := .mk fun hb WW pn xe tk σ G H T hl W kN kX => by
  refine we_of (X := X.tr pn xe) (pe_ifExp pt_wt pe_we pe_we) ?_
  obtain ⟨t0, et⟩ : ∃ t, mT = .ok t := by
    cases e : mT with
    | ok t => exact ⟨t, rfl⟩
    | raise x => exact (hnr x e).elim
    | bad => rw [em, e] at hb; exact absurd rfl hb
  have em2 : m = if t0 = true then mA else mB := by rw [em, et]; rfl
  refine JT.at (X := X.tr pn xe) (hc pn xe en.any rfl) (by rw [et]; exact fun z => nomatch z) trivial hl W.any fun t δ1 G1 H1 ⟨ed, e1⟩ hl1 W1 => ?_
  subst ed
  rw [et] at e1
  cases e1
  have W2 := W1.unany
  cases t0 with
  | true =>
    have e : m = mA := em2
    subst e
    exact iteT (hA.run hb WW pn xe tk σ G1 H1 T hl W2 kN kX)
  | false =>
    have e : m = mB := em2
    subst e
    exact iteF (hB.run hb WW pn xe tk σ G1 H1 T hl W2 kN kX)
theorem jb_setM {n : Str} {np epos : Pos} {e : Expr} {S : Type} {pB : S → List Slot} {okf : D → S} {m0 : Res D} {m : Res S} (i : Nat) (hN : X.N.Nodup) (hnb : noBo δ = true) (em : m = m0.bind fun d => .ok (okf d))
    (h : JBm X en δ e m0) (hok : ∀ a, Le (δ.set i (slM a)) (pB (okf a)))
    (hi : X.N[i]? = some n := by rfl) (hx : Loc X.env.scope n := by first | exact Or.inl rfl | exact Or.inr rfl)
    (hsw : swapsWith e (some (.Name n np)) epos.line X.env = pure false := by rfl)
    (hf : X.fn n = true ∨ X.env.scope.names.lookup n = some .local := by first | exact .inl rfl | exact .inr rfl) :
    JB X en δ [.Assign [.Name n np] e epos] pB m := .mk fun hb WW pn xe tk σ G H E hl W kN kX => by
  refine wss_of (pss_one (ps_set (X := X.tr pn xe) hN hi hx (pe_we (X := X.tr pn xe)) hsw hf)) ?_
  have hb0 : m0 ≠ .bad := fun z => by rw [em, z] at hb; exact hb rfl
  refine h.run hb0 WW pn xe tk σ G H _ hl W (fun d ed v G' H' W' => ?_) (fun x ex => kX x (by rw [em, ex]; rfl))
  have W3 := W'.give (hl.trans (W.sl hl).symm) hnb (slM_may d) i
  exact kN (okf d) (by rw [em, ed]; rfl) _ G' H' ((hok d).len.symm.trans (by rw [List.length_set]; exact hl)) (W3.le (hok d))
end
section
variable {X : Cx} {en : Kn} {δ : List Slot} {R : Type} {m : Res R} {N : List Slot → Res R → Prop} {RT : Slot → List Slot → Res R → Prop} {BK CT : List Slot → Res R → Prop} {pos : Pos}
/-- a name is told -/
theorem js_retM {x : Str} {p : Pos} {d : D} (i : Nat) (hs : δ[i]? = some (slM d)) (hrt : ∀ δ', RT (slM d) δ' m)
    (hN : X.N[i]? = some x := by rfl) (hv : Vis X.env.scope x := by first | exact Or.inl rfl | exact Or.inr (Or.inl rfl) | exact Or.inr (Or.inr rfl)) (hdd : (x == ("__debug__" : Str)) = false := by decide) (hcd : (x == ("__classdict__" : Str)) = false := by decide) :
    JS X en δ (.Return (some (.Name x p)) pos) N RT BK CT m := by
  cases d with
  | lst l => exact js_ret (je_mv i hs (hrt _) hN hv hdd hcd)
  | non => exact js_ret (je_fr i hs (hrt _) hN hv hdd hcd)
  | bl _ => exact js_ret (je_fr i hs (hrt _) hN hv hdd hcd)
  | int _ => exact js_ret (je_fr i hs (hrt _) hN hv hdd hcd)
  | str _ => exact js_ret (je_fr i hs (hrt _) hN hv hdd hcd)
  | tup _ => exact js_ret (je_fr i hs (hrt _) hN hv hdd hcd)
  | dic _ => exact js_ret (je_fr i hs (hrt _) hN hv hdd hcd)
  | scr _ => exact js_ret (je_fr i hs (hrt _) hN hv hdd hcd)
  | exc _ _ => exact js_ret (je_fr i hs (hrt _) hN hv hdd hcd)
  | obj _ _ => exact js_ret (je_fr i hs (hrt _) hN hv hdd hcd)
/-- x = [f(z, 0), f(z, 1)] -/
theorem jss_tellA {x g z : Str} {px q1 q2 q3 q4 q5 q6 q7 q8 q9 : Pos} {n0 n1 : Int} {j0 j1 k3 : Nat} {rest : List Stmt} {den : List D → Res D} {d : D} (i h : Nat) (hN : X.N.Nodup) {k : D → D → Res R} (hh : δ[h]? = some (.fr d)) (hnb : noBo δ = true) (hin : i < δ.length)
    (F1 : ∃ (f : Addr) (fd : FuncData) (psn : List Str), FnG X.prog X.w X.K X.mg X.base k3 f fd psn (SpA X.K den) ∧ X.mg g = some (.ref f) ∧ PySem.W.keepIn X.K (.ref f) = true ∧ Binds X.K fd psn [])
    (hr1 : RoomG k3 X.A) (hL : Lk X en)
    (em : m = (okR (den [d, .int n0])).bind fun r1 => (okR (den [d, .int n1])).bind fun r2 => k r1 r2)
    (hJ : ∀ r1 r2, ∃ δ', δ.set i .un = δ' ∧ JX X en δ' i (.lst [r1, r2]) rest N RT BK CT (k r1 r2))
    (hi : X.N[i]? = some x := by rfl) (hzn : X.N[h]? = some z := by rfl) (hx : Loc X.env.scope x := by first | exact Or.inl rfl | exact Or.inr rfl)
    (hv : Vis X.env.scope z := by first | exact Or.inl rfl | exact Or.inr (Or.inl rfl) | exact Or.inr (Or.inr rfl)) (hdb : (z == ("__debug__" : Str)) = false := by decide) (hcd : (z == ("__classdict__" : Str)) = false := by decide)
    (hg1 : Gl X g := by rfl) (hd1 : (g == ("__debug__" : Str)) = false := by decide)
    (hs : swapsWith (.List [.Call (.Name g q1) [.Name z q2, .Constant (.int n0) j0 q3] [] q4, .Call (.Name g q5) [.Name z q6, .Constant (.int n1) j1 q7] [] q8] q9) (some (.Name x px)) pos.line X.env = pure false := by rfl)
    (hf0 : X.fn x = true ∨ X.env.scope.names.lookup x = some .local := by first | exact .inl rfl | exact .inr rfl)
    (e1 : starEach [.Call (.Name g q1) [.Name z q2, .Constant (.int n0) j0 q3] [] q4, .Call (.Name g q5) [.Name z q6, .Constant (.int n1) j1 q7] [] q8] X.env = (false, eval (.Call (.Name g q1) [.Name z q2, .Constant (.int n0) j0 q3] [] q4) X.env) :: starEach [.Call (.Name g q5) [.Name z q6, .Constant (.int n1) j1 q7] [] q8] X.env := by exact star_plain rfl)
    (e2 : starEach [.Call (.Name g q5) [.Name z q6, .Constant (.int n1) j1 q7] [] q8] X.env = (false, eval (.Call (.Name g q5) [.Name z q6, .Constant (.int n1) j1 q7] [] q8) X.env) :: starEach [] X.env := by exact star_plain rfl)
    (e3 : starEach [.Name z q2, .Constant (.int n0) j0 q3] X.env = (false, eval (.Name z q2) X.env) :: starEach [.Constant (.int n0) j0 q3] X.env := by exact star_plain rfl)
    (e4 : starEach [.Name z q6, .Constant (.int n1) j1 q7] X.env = (false, eval (.Name z q6) X.env) :: starEach [.Constant (.int n1) j1 q7] X.env := by exact star_plain rfl)
    (e5 : starEach [.Constant (.int n0) j0 q3] X.env = (false, eval (.Constant (.int n0) j0 q3) X.env) :: starEach [] X.env := by exact star_plain rfl)
    (e6 : starEach [.Constant (.int n1) j1 q7] X.env = (false, eval (.Constant (.int n1) j1 q7) X.env) :: starEach [] X.env := by exact star_plain rfl)
    (l1 : (backTo q4 (starEach [.Constant (.int n0) j0 q3] X.env)).any (·.1) = false := by rfl) (l2 : (backTo q8 (starEach [.Constant (.int n1) j1 q7] X.env)).any (·.1) = false := by rfl) :
    JSs X en δ (.Assign [.Name x px] (.List [.Call (.Name g q1) [.Name z q2, .Constant (.int n0) j0 q3] [] q4, .Call (.Name g q5) [.Name z q6, .Constant (.int n1) j1 q7] [] q8] q9) pos :: rest) N RT BK CT m := .mk fun hb hx' σ G H E hl W k1 k2 k3 k4 => by
  obtain ⟨f, fd, psn, hf, hm, hk, hbd⟩ := F1
  have hb2 := hb
  rw [em] at hb2
  obtain ⟨r1, ed1⟩ : ∃ r1, den [d, .int n0] = .ok r1 := by
    cases e : den [d, .int n0] with
    | ok a => exact ⟨a, rfl⟩
    | raise _ => rw [e] at hb2; exact absurd rfl hb2
    | bad => rw [e] at hb2; exact absurd rfl hb2
  have em2 : m = (okR (den [d, .int n1])).bind fun r2 => k r1 r2 := by rw [em, ed1]; rfl
  have hb3 := hb
  rw [em2] at hb3
  obtain ⟨r2, ed2⟩ : ∃ r2, den [d, .int n1] = .ok r2 := by
    cases e : den [d, .int n1] with
    | ok a => exact ⟨a, rfl⟩
    | raise _ => rw [e] at hb3; exact absurd rfl hb3
    | bad => rw [e] at hb3; exact absurd rfl hb3
  have em3 : m = k r1 r2 := by rw [em2, ed2]; rfl
  subst em3
  obtain ⟨δ', eδ, c⟩ := hJ r1 r2
  subst eδ
  have hls : δ.length = σ.length := hl.trans (W.sl hl).symm
  have hhl : h < δ.length := (List.getElem?_eq_some_iff.mp hh).1
  obtain ⟨v, ev, rv⟩ : ∃ v, σ[h]? = some (some v) ∧ Rep X.K G d v := by
    obtain ⟨v, e, r⟩ := W.slot h _ (σ[h]'(by omega)) hh (List.getElem?_eq_getElem (by omega))
    exact ⟨v, by rw [List.getElem?_eq_getElem (by omega), e], r⟩
  refine wss_of (pss_cons ps_ws pss_wss) (ws_of (ps_set hN hi hx (pe_lst (pa_cons (pe_callG hf hr1 hg1 hm hk hbd .nil hL.passes (pa_cons (pe_var hzn hv hdb hcd) (pa_cons pe_int pa_nil e5) e3) hd1 e3 l1) (pa_cons (pe_callG hf hr1 hg1 hm hk hbd .nil hL.passes (pa_cons (pe_var hzn hv hdb hcd) (pa_cons pe_int pa_nil e6) e4) hd1 e4 l2) pa_nil e2) e1)) hs hf0) ?_)
  refine ⟨v, ev, rfl, G, d, r1, v, n0, rfl, W.sub, rv, ed1, fun u1 G1 H1 s1 sg1 new1 ru1 => ?_⟩
  refine ⟨v, ev, rfl, G, d, r2, v, n1, rfl, W.sub.trans s1, rv, ed2, fun u2 G2 H2 s2 sg2 new2 ru2 => ?_⟩
  refine ⟨by show 2 ≤ _; decide, fun p hp => ?_⟩
  have hi' : i < σ.length := by omega
  have sg12 : Sub G1 H2 := sg1.trans s2
  have hup : uni G1 G2 p = none := Sub.none (uni_sub sg12 sg2) hp
  have h0p : H p = none := Sub.none (s1.trans s2) hp
  refine c.run hb hx' (σ.set i (some (.ref p))) G H _ (upd (uni G1 G2) p (.lst [u1, u2])) E (.ref p) (by rw [List.length_set]; exact hl) (by rw [List.getElem?_set_self hi']) (W.blank hnb i _) ((s1.trans s2).trans (Sub.upd hp)) (fun a o ea => ?_) (fun a o ea => ?_) ⟨p, [u1, u2], rfl, upd_same, u1, [u2], rfl, Rep.sub (uni_l.trans (Sub.upd hup)) _ _ ru1, u2, [], rfl, Rep.sub ((uni_r sg12 sg2).trans (Sub.upd hup)) _ _ ru2, rfl⟩ k1 k2 k3 k4
  · by_cases hap : a = p
    · subst hap; rw [upd_same] at ea ⊢; exact ea
    · rw [upd_ne hap] at ea ⊢; exact uni_sub sg12 sg2 a o ea
  · by_cases hap : a = p
    · subst hap; exact .inr h0p
    · rw [upd_ne hap] at ea
      unfold uni at ea
      cases e : G1 a with
      | some o' =>
        rw [e] at ea; cases ea
        exact new1 a o e
      | none =>
        rw [e] at ea
        rcases new2 a o ea with q | q
        · exact .inl q
        · exact .inr (Sub.none s1 q)
/-- a told list of two, the second one a list of no lists -/
def atR : D → Option Unit
  | .lst [_, .lst l] => if flDs l = true ∧ l.length < 100000 then some () else none
  | _ => none
theorem flDs_mem : ∀ {l : List D}, flDs l = true → ∀ x, x ∈ l → flD x = true
  | [], _, x, hx => by cases hx
  | y :: l, h, x, hx => by
    have h' : (flD y && flDs l) = true := h
    rw [Bool.and_eq_true] at h'
    rcases List.mem_cons.mp hx with rfl | z
    · exact h'.1
    · exact flDs_mem h'.2 x z
/-- T[1].append(e), T[1].reverse() -/
theorem jx_atR {i : Nat} {d : D} {t : Str} {q1 q2 q3 q4 q5 q6 q7 q8 q9 q10 q11 q12 : Pos} {j1 j2 : Nat} {e : Expr} {rest : List Stmt} {n : Nat} {k : Unit → Res R} (hn : en.n = n) (em : m = op (atR d) k)
    (he : ∀ en', KnP en en' → JE X en' (ones' n i d) [] e (fun sl _ m1 => ∃ c, sl = .fr c) (.ok () : Res Unit))
    (hrest : JSs X en δ rest N RT BK CT (k ()))
    (hNi : X.N[i]? = some t := by rfl) (hv : Vis X.env.scope t := by first | exact Or.inl rfl | exact Or.inr (Or.inl rfl) | exact Or.inr (Or.inr rfl)) (hd : (t == ("__debug__" : Str)) = false := by decide) (hcd : (t == ("__classdict__" : Str)) = false := by decide)
    (hbase : attributeBase (.Subscript (.Name t q1) (.Constant (.int 1) j1 q2) q3) "append" X.env (eval (.Subscript (.Name t q1) (.Constant (.int 1) j1 q2) q3) X.env) = eval (.Subscript (.Name t q1) (.Constant (.int 1) j1 q2) q3) X.env := by rfl)
    (hbase2 : attributeBase (.Subscript (.Name t q7) (.Constant (.int 1) j2 q8) q9) "reverse" X.env (eval (.Subscript (.Name t q7) (.Constant (.int 1) j2 q8) q9) X.env) = eval (.Subscript (.Name t q7) (.Constant (.int 1) j2 q8) q9) X.env := by rfl)
    (hfew : ((backTo q5 (starEach [e] X.env)).all (fun x => !x.1) && (backToKw q5 (keywordEach [] X.env)).all (fun x => x.1.isSome) && decide (([e] : List Expr).length + ([] : List Keyword).length + (if ([] : List Keyword).isEmpty then 0 else 1) < 30)) = true := by rfl)
    (hline : (q4.endLine == q5.line) = true := by rfl) (hline2 : (q10.endLine == q11.line) = true := by rfl)
    (hst : starEach [e] X.env = (false, eval e X.env) :: starEach [] X.env := by exact star_plain rfl) (hpl : (backTo q5 (starEach [] X.env)).any (·.1) = false := by rfl)
    (hix1 : PlainIx (.Constant (.int 1) j1 q2) := by exact fun _ _ => rfl) (hix2 : PlainIx (.Constant (.int 1) j2 q8) := by exact fun _ _ => rfl)
    (hsw : swapsWith (.Call (.Attribute (.Subscript (.Name t q1) (.Constant (.int 1) j1 q2) q3) "append" q4) [e] [] q5) none q6.line X.env = pure false := by rfl)
    (hsw2 : swapsWith (.Call (.Attribute (.Subscript (.Name t q7) (.Constant (.int 1) j2 q8) q9) "reverse" q10) [] [] q11) none q12.line X.env = pure false := by rfl) :
    JX X en δ i d (.Expr (.Call (.Attribute (.Subscript (.Name t q1) (.Constant (.int 1) j1 q2) q3) "append" q4) [e] [] q5) q6 :: .Expr (.Call (.Attribute (.Subscript (.Name t q7) (.Constant (.int 1) j2 q8) q9) "reverse" q10) [] [] q11) q12 :: rest) N RT BK CT m := .mk fun hb hx σ G H0 H G1 E v hl0 hv0 W s0 s1 new rr k1 k2 k3 k4 pins s I => by
  have hb' := hb
  rw [em] at hb'
  obtain ⟨u0, eu⟩ := op_some hb'
  have em' : m = k () := by rw [em, eu]; rfl
  subst em'
  obtain ⟨d0, l, rfl, fl, ll⟩ : ∃ d0 l, d = .lst [d0, .lst l] ∧ flDs l = true ∧ l.length < 100000 := by
    match d, eu with
    | .lst [d0, .lst l], eu =>
      have eu' : (if flDs l = true ∧ l.length < 100000 then some () else none) = some u0 := eu
      split at eu'
      · rename_i z; exact ⟨d0, l, rfl, z.1, z.2⟩
      · cases eu'
  have hσ : σ.length = n := (W.sl hl0).trans hn
  have WR := Wd.one1 (en := en) hn hσ hv0 s1 rr
  obtain ⟨q, vs, rfl, gq, u1, vs', rfl, r1, u2, vs'', rfl, ⟨a, us, rfl, ga, rus⟩, e0⟩ := rr
  have e0' : vs'' = [] := e0
  subst e0'
  have HqT : H q = some (.lst [u1, .ref a]) := s1 _ _ gq
  have HaT : H a = some (.lst us) := s1 _ _ ga
  have h0a : H0 a = none := newL new ga
  have np : q ≠ a := fun z => by
    subst z
    rw [gq] at ga
    cases ga
    obtain ⟨dj, hj, rj⟩ := Reps.get' rus (i := 1) (v := .ref q) rfl
    have fj := flDs_mem fl dj (List.mem_of_getElem? hj)
    cases dj with
    | non => cases (show V.ref q = V.non from rj)
    | bl b => cases (show V.ref q = V.bl b from rj)
    | int b => cases (show V.ref q = V.int b from rj)
    | str b => cases (show V.ref q = V.str b from rj)
    | lst _ => exact Bool.false_ne_true fj
    | dic _ => exact Bool.false_ne_true fj
    | scr _ => exact Bool.false_ne_true fj
    | exc _ _ => exact Bool.false_ne_true fj
    | obj _ _ => exact Bool.false_ne_true fj
    | tup ts =>
      obtain ⟨b, ws, eb, sq, _⟩ := rj
      cases eb
      rcases sq with (z | ⟨o, z⟩) | ⟨o, its, c, lk, cl, _⟩
      · rw [gq] at z; cases z
      · rw [gq] at z; cases z
      · have h1 := I.kIn _ _ lk
        obtain ⟨_, _, _, _, h2⟩ := I.hok _ _ HqT
        rw [h1] at h2
        cases h2
        exact absurd (show Value.type "list" = Value.type "tuple" from cl) fun z => by injection z with z; exact absurd z (by decide)
  refine wss_of (pss_cons (ps_expr (pe_bm PySem.F.plainAttrs_list PySem.F.slot_list_append PySem.F.type_list_append mt_append (pe_ix ix_list (pe_var hNi hv hd hcd) pe_int hix1) (pa_cons pe_we pa_nil hst) hbase hfew hline hst hpl) hsw)
    (pss_cons (ps_expr (pe_bm0 PySem.F.plainAttrs_list PySem.F.slot_list_reverse PySem.F.type_list_reverse mt_reverse (pe_ix ix_list (pe_var hNi hv hd hcd) pe_int hix2) hbase2 hline2) hsw2) pss_wss)) ?_ pins s I
  refine ⟨.ref q, hv0, q, [u1, .ref a], 1, .ref a, rfl, rfl, SqL.of HqT, rfl, .inl ⟨rfl, us, SqL.of HaT⟩, ?_⟩
  refine JE.at (he (en.pure G1 H) (W.knP s0)) (fun z => nomatch z) en.h0 (by rw [ones_len]; exact hn.symm) WR fun sl δ1 u G2 H2 _ hl1 W1 => ?_
  have sH2 : Sub H H2 := W1.frm
  refine ⟨a, us, u, rfl, rfl, sH2 _ _ HaT, ?_, ?_⟩
  · rw [← Reps.length rus]
    exact Nat.lt_of_lt_of_le ll (by decide)
  refine ⟨.ref q, hv0, q, [u1, .ref a], 1, .ref a, rfl, rfl, SqL.of ((upd_ne np).trans (sH2 _ _ HqT)), rfl, .inl ⟨rfl, us ++ [u], SqL.of upd_same⟩, a, us ++ [u], rfl, rfl, upd_same, ?_⟩
  have sH3 : Sub H0 (upd (upd H2 a (.lst (us ++ [u]))) a (.lst (us ++ [u]).reverse)) := fun b o eb => by
    have hba : b ≠ a := fun e => by rw [e, h0a] at eb; cases eb
    rw [upd_ne hba, upd_ne hba]
    exact sH2 b o (s0 b o eb)
  exact hrest.run hb hx σ G _ E hl0 (W.grow (Grow.more W.sub sH3)) k1 k2 k3 k4
end
end BR

/-! the defs of the law, each run once -/
namespace BR
open PySem PySem.Spec PyProof.Rows L2
def topS (i : Nat) : Stmt := PySem.Challenge.pw_boastrow_k67_what_long_rows_are.main.body.getD i (.Pass ⟨0, 0, 0, 0⟩)
/-- what the top of the text has written -/
structure Txt (K : PySem.W.Frag) (mg : Str → Option Value) : Prop where
  n_ValueError : mg "ValueError" = none
  n_abs : mg "abs" = none
  n_bool : mg "bool" = none
  n_int : mg "int" = none
  n_isinstance : mg "isinstance" = none
  n_len : mg "len" = none
  n_list : mg "list" = none
  n_max : mg "max" = none
  n_min : mg "min" = none
  n_range : mg "range" = none
  n_repr : mg "repr" = none
  n_str : mg "str" = none
  n_tuple : mg "tuple" = none
  g_MOST_LAID_OUT : ∃ t, mg "MOST_LAID_OUT" = some (.int 300 t)
  g_MOST_PEOPLE : ∃ t, mg "MOST_PEOPLE" = some (.int 999999999999999999999999999999 t)
  g_AGAIN : ∃ t, mg "AGAIN" = some (.str "again" t)
  r_NoLong : Raise K mg "NoLong"
  k_BoastError : ∃ B, mg "BoastError" = some (.ref B) ∧ Catch K mg (.ref B) ["NoLong", "TooMany"]
  x_NoDeed : KitF K mg ["NoLong", "TooMany"] "NoDeed"
  x_NoLong : KitF K mg ["NoLong", "TooMany"] "NoLong"
  x_NoLot : KitF K mg ["NoLong", "TooMany"] "NoLot"
  x_NoName : KitF K mg ["NoLong", "TooMany"] "NoName"
  x_NoNumber : KitF K mg ["NoLong", "TooMany"] "NoNumber"
  x_NoPlace : KitF K mg ["NoLong", "TooMany"] "NoPlace"
  x_NoRow : KitF K mg ["NoLong", "TooMany"] "NoRow"
  x_NoSaying : KitF K mg ["NoLong", "TooMany"] "NoSaying"
  x_NoTable : KitF K mg ["NoLong", "TooMany"] "NoTable"
  x_NoneYet : KitF K mg ["NoLong", "TooMany"] "NoneYet"
  x_Taken : KitF K mg ["NoLong", "TooMany"] "Taken"
  x_TooMany : KitF K mg ["NoLong", "TooMany"] "TooMany"
  x_v : KitV K ["NoLong", "TooMany"]
  xa_many : XfF K ["TooMany"] "many"
  i_TooMany : ∃ C fI fd B, L2.Fun K "__init__" "TooMany.__init__" (inClass (topS 13) 0) fI fd ∧ L2.Binds K fd ["self", "many"] [] ∧ mg "TooMany" = some (.ref C) ∧ OexC K C ∧ PySem.W.findIn K (.ref C) "many" = some none ∧ PySem.W.findIn K (.ref C) "__init__" = some (some (.ref fI)) ∧ PySem.W.typeIn K (.ref fI) = some (.type "function") ∧ mg "BoastError" = some (.ref B) ∧ PySem.W.specialIn K (.ref B) "__getattribute__" = some (some (.builtin "type.__getattribute__")) ∧ PySem.W.readsIn K B (.type "type") = true ∧ PySem.W.findCls K (.ref B) (.type "type") "__init__" = some (.val (.builtin "ValueError.__init__"))
  f_l_urn : ∃ fa fd, L2.Fun K "_law_urn" "_law_urn" (topS 29) fa fd ∧ Binds K fd ["_law_script", "_law_k"] [] ∧ mg "_law_urn" = some (.ref fa)
  f_l_ball : ∃ fa fd, L2.Fun K "_law_ball" "_law_ball" (topS 30) fa fd ∧ Binds K fd ["_law_urn_here", "_law_many"] [] ∧ mg "_law_ball" = some (.ref fa)
  f_l_saying : ∃ fa fd, L2.Fun K "_law_saying" "_law_saying" (topS 31) fa fd ∧ Binds K fd ["_law_urn_here", "_law_wide"] [] ∧ mg "_law_saying" = some (.ref fa)
  f_l_people : ∃ fa fd, L2.Fun K "_law_people" "_law_people" (topS 32) fa fd ∧ Binds K fd ["_law_long_here"] [] ∧ mg "_law_people" = some (.ref fa)
  f_l_long : ∃ fa fd, L2.Fun K "_law_long" "_law_long" (topS 33) fa fd ∧ Binds K fd ["_law_urn_here", "_law_plan", "_law_deep", "_law_room"] [] ∧ mg "_law_long" = some (.ref fa)
  f_l_odd : ∃ fa fd, L2.Fun K "_law_odd" "_law_odd" (topS 35) fa fd ∧ Binds K fd ["_law_urn_here"] [] ∧ mg "_law_odd" = some (.ref fa)
  f_l_bent : ∃ fa fd, L2.Fun K "_law_bent" "_law_bent" (topS 36) fa fd ∧ Binds K fd ["_law_urn_here", "_law_thing"] [] ∧ mg "_law_bent" = some (.ref fa)
  f_l_tupled : ∃ fa fd, L2.Fun K "_law_tupled" "_law_tupled" (topS 40) fa fd ∧ Binds K fd ["_law_long_here"] [] ∧ mg "_law_tupled" = some (.ref fa)
  f_t_is_number : ∃ fa fd, L2.Fun K "is_number" "is_number" (topS 15) fa fd ∧ Binds K fd ["thing"] [] ∧ mg "is_number" = some (.ref fa)
  f_t_is_saying : ∃ fa fd, L2.Fun K "is_saying" "is_saying" (topS 16) fa fd ∧ Binds K fd ["thing"] [] ∧ mg "is_saying" = some (.ref fa)
  f_t_people_said : ∃ fa fd, L2.Fun K "people_said" "people_said" (topS 21) fa fd ∧ Binds K fd ["item"] [] ∧ mg "people_said" = some (.ref fa)
  f_t_people_of : ∃ fa fd, L2.Fun K "people_of" "people_of" (topS 22) fa fd ∧ Binds K fd ["thing"] [] ∧ mg "people_of" = some (.ref fa)
  f_t_is_long : ∃ fa fd, L2.Fun K "is_long" "is_long" (topS 23) fa fd ∧ Binds K fd ["thing"] [] ∧ mg "is_long" = some (.ref fa)
  f_l_laid : ∃ fa fd, L2.Fun K "_law_laid" "_law_laid" (topS 34) fa fd ∧ Binds K fd ["_law_long_here"] [] ∧ mg "_law_laid" = some (.ref fa)
  f_l_is_number : ∃ fa fd, L2.Fun K "_law_is_number" "_law_is_number" (topS 37) fa fd ∧ Binds K fd ["_law_thing"] [] ∧ mg "_law_is_number" = some (.ref fa)
  f_l_many_in : ∃ fa fd, L2.Fun K "_law_many_in" "_law_many_in" (topS 38) fa fd ∧ Binds K fd ["_law_thing"] [] ∧ mg "_law_many_in" = some (.ref fa)
  f_t_need_long : ∃ fa fd, L2.Fun K "need_long" "need_long" (topS 24) fa fd ∧ Binds K fd ["thing"] [] ∧ mg "need_long" = some (.ref fa)
  f_t_people_in : ∃ fa fd, L2.Fun K "people_in" "people_in" (topS 26) fa fd ∧ Binds K fd ["long"] [] ∧ mg "people_in" = some (.ref fa)
  f_t_laid : ∃ fa fd, L2.Fun K "laid" "laid" (topS 25) fa fd ∧ Binds K fd ["long"] [] ∧ mg "laid" = some (.ref fa)
  f_t_laid_out : ∃ fa fd, L2.Fun K "laid_out" "laid_out" (topS 27) fa fd ∧ Binds K fd ["long"] [] ∧ mg "laid_out" = some (.ref fa)
  f_l_word : ∃ fa fd, L2.Fun K "_law_word" "_law_word" (topS 39) fa fd ∧ Binds K fd ["_law_caught"] [] ∧ mg "_law_word" = some (.ref fa)
  f_l_asked : ∃ fa fd, L2.Fun K "_law_asked" "_law_asked" (topS 41) fa fd ∧ Binds K fd ["_law_thing", "_law_door"] [] ∧ mg "_law_asked" = some (.ref fa)
  f_l_right : ∃ fa fd, L2.Fun K "_law_right" "_law_right" (topS 42) fa fd ∧ Binds K fd ["_law_thing"] [] ∧ mg "_law_right" = some (.ref fa)
  f_law : ∃ fa fd, L2.Fun K "law" "law" (topS 43) fa fd ∧ Binds K fd ["_law_script"] [] ∧ mg "law" = some (.ref fa)
set_option maxHeartbeats 0
section
variable {P : Program} {w : World} {K : PySem.W.Frag} {mg : Str → Option Value} {base : Heap}
theorem sc_x_TooMany : FnScope ["self", "many"] ["self", "many"] (defScope (inClass (topS 13) 0)) := ⟨rfl, rfl, rfl, by decide +kernel, rfl, by decide +kernel, by decide +kernel⟩
theorem mkE_TooMany (h : Txt K mg) : MkE P w K mg base 1 "TooMany" "many" := by
  obtain ⟨C, fI, fd, B, F, Bd, gC, T, hno, iC, tI, gB, sB, rB, fB⟩ := h.i_TooMany
  exact ⟨C, fI, fd, ["self", "many"], gC, T, hno, iC, tI, Bd, fn_G (k := 0) F sc_x_TooMany (fun vs H Q E ⟨a, C, v, e, _⟩ => by rw [e]; rfl) fun cdv A outer s H vs Q E hr ⟨a, C', v, e, T', hno', ha, q⟩ => by
    subst e
    have vis : ∀ n, n = "self" ∨ n = "many" → Vis (defScope (inClass (topS 13) 0)) n := fun n hn => by rcases hn with rfl | rfl <;> exact Or.inl rfl
    exact ⟨_, pss_cons (ps_expr (pe_binit (B := B) rfl gB sB rB fB (pa_cons (pe_var (i := 0) rfl (vis _ (.inl rfl))) (pa_cons pe_str pa_nil) (by exact star_plain rfl))) (by rfl)) (pss_cons (ps_ost (pe_var (i := 0) rfl (vis _ (.inl rfl))) (pe_var (i := 1) rfl (vis _ (.inr rfl)))) pss_nil),
      ⟨.ref a, rfl, a, C', _, rfl, by show 1 ≤ 1000; decide, T', ha, v, rfl, .ref a, rfl, a, C', rfl, T', hno', .inl ⟨ha, q⟩⟩⟩⟩
def d_l_urn : List D → Res (List D)
  | [v_0, v_1] =>
      ((op (lenD [v_0]) fun t13 =>
      op (ltD v_1 t13) fun b14 =>
      if b14 = true then (op (ixD v_0 v_1) fun t15 =>
      .ok t15) else (.ok (D.int 0)) : Res (D))).bind fun s1 =>
      op (absD [s1]) fun t2 =>
      op (powD (D.int 10) (D.int 18)) fun t3 =>
      op (subD t2 t3) fun t4 =>
      op (max2D [(D.int 0), t4]) fun t5 =>
      op (powD (D.int 10) (D.int 41)) fun t6 =>
      op (addD t6 (D.int 3)) fun t7 =>
      op (modD s1 t7) fun t8 =>
      op (mulD t8 (D.int 128)) fun t9 =>
      op (mulD (D.int 3) v_1) fun t10 =>
      op (addD t9 t10) fun t11 =>
      op (addD t11 (D.int 1)) fun t12 =>
      .ok [t5, t12, (D.int 0)]  | _ => .bad
abbrev n_l_urn : List Str := ["_law_script", "_law_k", "_law_cell"]
theorem sc_l_urn : FnScope n_l_urn ["_law_script", "_law_k"] (defScope (topS 29)) := ⟨rfl, rfl, rfl, by decide +kernel, rfl, by decide +kernel, by decide +kernel⟩
theorem ok_l_urn (h : Txt K mg) : Df P w K mg base 1 "_law_urn" [.b, .b] d_l_urn (fun a => .lst a) (fun a => []) true := by
  obtain ⟨fa, fd, F, B, M⟩ := h.f_l_urn
  refine ⟨fa, fd, _, fn_D (k := 0) F sc_l_urn rfl 0 (fun _ => rfl) rfl (fun X en cdv A outer s H E ds hX hr hn hL hp hl => ?_), M, F.kp, B⟩
  have hnd := (sc_l_urn).nd
  subst hX
  obtain ⟨v_0, v_1, rfl⟩ := len2 hl
  unfold d_l_urn
  exact (jss_cons (js_set 2 hnd (je_int (⟨[.bw v_0, .bw v_1, .fr (D.int 0)], rfl, rfl, rfl,
      jss_cons (js_joinS (fun (s1 : D) => [.bw v_0, .bw v_1, .fr s1]) (js_if (jt_cmp cmp_ltD rfl (je_bw 1 rfl (je_callB c_len h.n_len (ja_cons (je_bw 0 rfl (ja_nil (⟨_, _, rfl, rfl, fun t13 _ =>
      ⟨_, _, _, rfl, rfl, rfl, fun b14 =>
      ⟨_, _, rfl, jss_one (js_set 2 hnd (je_ix ix_D (fun _ _ => rfl) (je_bw 0 rfl (je_bw 1 rfl (⟨_, _, _, rfl, rfl, rfl, fun t15 _ =>
      ⟨[.bw v_0, .bw v_1, .fr t15], rfl, rfl, rfl,
      ⟨_, rfl, (le_s (le_s (le_s (le_n))))⟩⟩⟩))))), jss_nil (⟨_, rfl, (le_s (le_s (le_s (le_n))))⟩)⟩⟩⟩)))))))) (fun s1 =>
      jss_one (js_ret (je_lst (ja_cons (je_callB (c_max2 rfl) h.n_max (ja_cons (je_int (ja_cons (je_bin op_subD (je_callB c_abs h.n_abs (ja_cons (je_fr 2 rfl (ja_nil (⟨_, _, rfl, rfl, fun t2 _ =>
      je_bin op_powD (je_int (je_int (⟨_, _, _, rfl, rfl, rfl, fun t3 _ =>
      ⟨_, _, _, rfl, rfl, rfl, fun t4 _ =>
      ja_nil (⟨_, _, rfl, rfl, fun t5 _ =>
      ja_cons (je_bin op_addD (je_bin op_addD (je_bin op_mulD (je_bin op_modD (je_fr 2 rfl (je_bin op_addD (je_bin op_powD (je_int (je_int (⟨_, _, _, rfl, rfl, rfl, fun t6 _ =>
      je_int (⟨_, _, _, rfl, rfl, rfl, fun t7 _ =>
      ⟨_, _, _, rfl, rfl, rfl, fun t8 _ =>
      je_int (⟨_, _, _, rfl, rfl, rfl, fun t9 _ =>
      je_bin op_mulD (je_int (je_bw 1 rfl (⟨_, _, _, rfl, rfl, rfl, fun t10 _ =>
      ⟨_, _, _, rfl, rfl, rfl, fun t11 _ =>
      je_int (⟨_, _, _, rfl, rfl, rfl, fun t12 _ =>
      ja_cons (je_int (ja_nil (⟨_, rfl, rfl, ⟨_, rfl, rfl, oa_n⟩⟩)))⟩)⟩⟩)))⟩)⟩⟩)⟩))))))))))⟩)⟩⟩)))⟩)))))))))))))))⟩))))

def d_l_ball : List D → Res (D × List D)
  | [.lst v_0, v_1] =>
      op (ixD (D.lst v_0) (D.int 0)) fun t1 =>
      op (gtD t1 (D.int 0)) fun b2 =>
      if b2 = true then (op (ixD (D.lst v_0) (D.int 0)) fun t3 =>
      op (modD t3 v_1) fun t4 =>
      op (ixD (D.lst v_0) (D.int 0)) fun t5 =>
      op (fdivD t5 v_1) fun t6 =>
      op (setL v_0 (D.int 0) t6) fun r7 =>
      .ok (t4, r7)) else (op (ixD (D.lst v_0) (D.int 2)) fun t8 =>
      op (addD t8 (D.int 1)) fun t9 =>
      op (setL v_0 (D.int 2) t9) fun r10 =>
      op (ixD (D.lst r10) (D.int 1)) fun t11 =>
      op (ixD (D.lst r10) (D.int 2)) fun t12 =>
      op (mulD (D.int 86028121) t12) fun t13 =>
      op (addD t11 t13) fun t14 =>
      op (powD t14 (D.int 3)) fun t15 =>
      op (powD (D.int 10) (D.int 43)) fun t16 =>
      op (addD t16 (D.int 61)) fun t17 =>
      op (modD t15 t17) fun t18 =>
      op (mulD t18 t18) fun t19 =>
      op (ixD (D.lst r10) (D.int 2)) fun t20 =>
      op (mulD (D.int 15485867) t20) fun t21 =>
      op (addD t19 t21) fun t22 =>
      op (addD t22 (D.int 5)) fun t23 =>
      op (powD (D.int 10) (D.int 42)) fun t24 =>
      op (addD t24 (D.int 11)) fun t25 =>
      op (modD t23 t25) fun t26 =>
      op (fdivD t26 (D.int 1299827)) fun t27 =>
      op (modD t27 v_1) fun t28 =>
      .ok (t28, r10))  | _ => .bad
abbrev n_l_ball : List Str := ["_law_urn_here", "_law_many", "_law_mixed", "_law_found"]
theorem sc_l_ball : FnScope n_l_ball ["_law_urn_here", "_law_many"] (defScope (topS 30)) := ⟨rfl, rfl, rfl, by decide +kernel, rfl, by decide +kernel, by decide +kernel⟩
theorem ok_l_ball (h : Txt K mg) : Df P w K mg base 1 "_law_ball" [.m, .b] d_l_ball (fun a => a.1) (fun a => [.lst a.2]) false := by
  obtain ⟨fa, fd, F, B, M⟩ := h.f_l_ball
  refine ⟨fa, fd, _, fn_D (k := 0) F sc_l_ball rfl 1 (fun _ => rfl) rfl (fun X en cdv A outer s H E ds hX hr hn hL hp hl => ?_), M, F.kp, B⟩
  have hnd := (sc_l_ball).nd
  subst hX
  obtain ⟨v_0, v_1, rfl⟩ := len2 hl
  cases v_0 <;> try exact jss_never
  rename_i v_0
  unfold d_l_ball
  exact (jss_cons (js_if (jt_cmp cmp_gtD rfl (je_ix ix_D (fun _ _ => rfl) (je_bo 0 rfl (.inr ⟨_, _, rfl⟩) (je_int (⟨_, _, _, rfl, rfl, rfl, fun t1 _ =>
      je_int (⟨_, _, _, rfl, rfl, rfl, fun b2 =>
      ⟨_, _, rfl, jss_cons (js_set 3 hnd (je_bin op_modD (je_ix ix_D (fun _ _ => rfl) (je_bo 0 rfl (.inr ⟨_, _, rfl⟩) (je_int (⟨_, _, _, rfl, rfl, rfl, fun t3 _ =>
      je_bw 1 rfl (⟨_, _, _, rfl, rfl, rfl, fun t4 _ =>
      ⟨[.mp 0 (.lst v_0), .bw v_1, .un, .fr t4], rfl, rfl, rfl,
      jss_cons (js_setL 0 (je_bin op_fdivD (je_ix ix_D (fun _ _ => rfl) (je_bo 0 rfl (.inr ⟨_, _, rfl⟩) (je_int (⟨_, _, _, rfl, rfl, rfl, fun t5 _ =>
      je_bw 1 rfl (⟨_, _, _, rfl, rfl, rfl, fun t6 _ =>
      ⟨_, _, rfl, rfl, rfl, je_int (⟨_, _, _, _, fun r7 => [.mp 0 (.lst r7), .bw v_1, .un, .fr t4], rfl, rfl, rfl, rfl, rfl, fun _ => rfl, fun r7 =>
      jss_one (js_ret (je_fr 3 rfl (⟨_, rfl, rfl, (oa_c 0 rfl oa_n)⟩)))⟩)⟩⟩)⟩))))))⟩⟩)⟩)))))), jss_nil (jss_cons (js_setL 0 (je_bin op_addD (je_ix ix_D (fun _ _ => rfl) (je_bo 0 rfl (.inr ⟨_, _, rfl⟩) (je_int (⟨_, _, _, rfl, rfl, rfl, fun t8 _ =>
      je_int (⟨_, _, _, rfl, rfl, rfl, fun t9 _ =>
      ⟨_, _, rfl, rfl, rfl, je_int (⟨_, _, _, _, fun r10 => [.mp 0 (.lst r10), .bw v_1, .un, .un], rfl, rfl, rfl, rfl, rfl, fun _ => rfl, fun r10 =>
      jss_cons (js_set 2 hnd (je_bin op_modD (je_bin op_powD (je_bin op_addD (je_ix ix_D (fun _ _ => rfl) (je_bo 0 rfl (.inr ⟨_, _, rfl⟩) (je_int (⟨_, _, _, rfl, rfl, rfl, fun t11 _ =>
      je_bin op_mulD (je_int (je_ix ix_D (fun _ _ => rfl) (je_bo 0 rfl (.inr ⟨_, _, rfl⟩) (je_int (⟨_, _, _, rfl, rfl, rfl, fun t12 _ =>
      ⟨_, _, _, rfl, rfl, rfl, fun t13 _ =>
      ⟨_, _, _, rfl, rfl, rfl, fun t14 _ =>
      je_int (⟨_, _, _, rfl, rfl, rfl, fun t15 _ =>
      je_bin op_addD (je_bin op_powD (je_int (je_int (⟨_, _, _, rfl, rfl, rfl, fun t16 _ =>
      je_int (⟨_, _, _, rfl, rfl, rfl, fun t17 _ =>
      ⟨_, _, _, rfl, rfl, rfl, fun t18 _ =>
      ⟨[.mp 0 (.lst r10), .bw v_1, .fr t18, .un], rfl, rfl, rfl,
      jss_cons (js_set 2 hnd (je_bin op_modD (je_bin op_addD (je_bin op_addD (je_bin op_mulD (je_fr 2 rfl (je_fr 2 rfl (⟨_, _, _, rfl, rfl, rfl, fun t19 _ =>
      je_bin op_mulD (je_int (je_ix ix_D (fun _ _ => rfl) (je_bo 0 rfl (.inr ⟨_, _, rfl⟩) (je_int (⟨_, _, _, rfl, rfl, rfl, fun t20 _ =>
      ⟨_, _, _, rfl, rfl, rfl, fun t21 _ =>
      ⟨_, _, _, rfl, rfl, rfl, fun t22 _ =>
      je_int (⟨_, _, _, rfl, rfl, rfl, fun t23 _ =>
      je_bin op_addD (je_bin op_powD (je_int (je_int (⟨_, _, _, rfl, rfl, rfl, fun t24 _ =>
      je_int (⟨_, _, _, rfl, rfl, rfl, fun t25 _ =>
      ⟨_, _, _, rfl, rfl, rfl, fun t26 _ =>
      ⟨[.mp 0 (.lst r10), .bw v_1, .fr t26, .un], rfl, rfl, rfl,
      jss_one (js_ret (je_bin op_modD (je_bin op_fdivD (je_fr 2 rfl (je_int (⟨_, _, _, rfl, rfl, rfl, fun t27 _ =>
      je_bw 1 rfl (⟨_, _, _, rfl, rfl, rfl, fun t28 _ =>
      ⟨_, rfl, rfl, (oa_c 0 rfl oa_n)⟩⟩)⟩))))))⟩⟩⟩)⟩))))⟩)⟩⟩⟩)))))⟩))))))))⟩⟩⟩)⟩))))⟩)⟩⟩⟩)))))⟩))))))))⟩)⟩⟩)⟩)))))))⟩⟩)⟩)))))))

def d_l_saying : List D → Res (D × List D)
  | [.lst v_0, v_1] =>
      (d_l_ball [(D.lst v_0), (D.int 4)]).bind fun a1 =>
      (d_l_ball [(D.lst a1.2), v_1]).bind fun a2 =>
      (d_l_ball [(D.lst a2.2), v_1]).bind fun a3 =>
      (d_l_ball [(D.lst a3.2), (D.int 4)]).bind fun a4 =>
      op (ixD (D.lst [(D.int 0), a1.1, a2.1, a3.1]) a4.1) fun t5 =>
      (d_l_ball [(D.lst a4.2), (D.int 5)]).bind fun a6 =>
      op (eqD a6.1 (D.int 4)) fun b7 =>
      if b7 = true then (.ok ((D.tup [t5, D.non]), a6.2)) else ((d_l_ball [(D.lst a6.2), (D.int 3)]).bind fun a8 =>
      (d_l_ball [(D.lst a8.2), (D.int 9)]).bind fun a9 =>
      (d_l_ball [(D.lst a9.2), v_1]).bind fun a10 =>
      op (ixD (D.lst [(D.int 0), a8.1, a9.1, a10.1]) a6.1) fun t11 =>
      op (addD t5 t11) fun t12 =>
      .ok ((D.tup [t5, t12]), a10.2))  | _ => .bad
abbrev n_l_saying : List Str := ["_law_urn_here", "_law_wide", "_law_least", "_law_way"]
theorem sc_l_saying : FnScope n_l_saying ["_law_urn_here", "_law_wide"] (defScope (topS 31)) := ⟨rfl, rfl, rfl, by decide +kernel, rfl, by decide +kernel, by decide +kernel⟩
theorem ok_l_saying (h : Txt K mg) : Df P w K mg base 2 "_law_saying" [.m, .b] d_l_saying (fun a => a.1) (fun a => [.lst a.2]) false := by
  obtain ⟨fa, fd, F, B, M⟩ := h.f_l_saying
  refine ⟨fa, fd, _, fn_D (k := 1) F sc_l_saying rfl 1 (fun _ => rfl) rfl (fun X en cdv A outer s H E ds hX hr hn hL hp hl => ?_), M, F.kp, B⟩
  have hnd := (sc_l_saying).nd
  subst hX
  obtain ⟨v_0, v_1, rfl⟩ := len2 hl
  cases v_0 <;> try exact jss_never
  rename_i v_0
  unfold d_l_saying
  exact (jss_cons (js_set 2 hnd (je_ix ix_D (fun _ _ => rfl) (je_lst (ja_cons (je_int (ja_cons (je_call (ok_l_ball h) (hr.mono (by decide)) hL (ja_cons (je_bo 0 rfl (.inr ⟨_, _, rfl⟩) (ja_cons (je_int (ja_nil (⟨_, [0], _, fun a1 => [.mp 0 (.lst a1.2), .bw v_1, .un, .un], rfl, rfl, nd1, rfl, fun _ => rfl, fun a1 _ =>
      ja_cons (je_call (ok_l_ball h) (hr.mono (by decide)) hL (ja_cons (je_bo 0 rfl (.inr ⟨_, _, rfl⟩) (ja_cons (je_bw 1 rfl (ja_nil (⟨_, [0], _, fun a2 => [.mp 0 (.lst a2.2), .bw v_1, .un, .un], rfl, rfl, nd1, rfl, fun _ => rfl, fun a2 _ =>
      ja_cons (je_call (ok_l_ball h) (hr.mono (by decide)) hL (ja_cons (je_bo 0 rfl (.inr ⟨_, _, rfl⟩) (ja_cons (je_bw 1 rfl (ja_nil (⟨_, [0], _, fun a3 => [.mp 0 (.lst a3.2), .bw v_1, .un, .un], rfl, rfl, nd1, rfl, fun _ => rfl, fun a3 _ =>
      ja_nil (⟨_, rfl, rfl, je_call (ok_l_ball h) (hr.mono (by decide)) hL (ja_cons (je_bo 0 rfl (.inr ⟨_, _, rfl⟩) (ja_cons (je_int (ja_nil (⟨_, [0], _, fun a4 => [.mp 0 (.lst a4.2), .bw v_1, .un, .un], rfl, rfl, nd1, rfl, fun _ => rfl, fun a4 _ =>
      ⟨_, _, _, rfl, rfl, rfl, fun t5 _ =>
      ⟨[.mp 0 (.lst a4.2), .bw v_1, .fr t5, .un], rfl, rfl, rfl,
      jss_cons (js_set 3 hnd (je_call (ok_l_ball h) (hr.mono (by decide)) hL (ja_cons (je_bo 0 rfl (.inr ⟨_, _, rfl⟩) (ja_cons (je_int (ja_nil (⟨_, [0], _, fun a6 => [.mp 0 (.lst a6.2), .bw v_1, .fr t5, .un], rfl, rfl, nd1, rfl, fun _ => rfl, fun a6 _ =>
      ⟨[.mp 0 (.lst a6.2), .bw v_1, .fr t5, .fr a6.1], rfl, rfl, rfl,
      jss_cons (js_if (jt_cmp (cmp_eqD hr.hu) rfl (je_fr 3 rfl (je_int (⟨_, _, _, rfl, rfl, rfl, fun b7 =>
      ⟨_, _, rfl, jss_one (js_ret (je_tup (ja_cons (je_fr 2 rfl (ja_cons (je_non (ja_nil (⟨_, rfl, rfl, ⟨_, rfl, rfl, (oa_c 0 rfl oa_n)⟩⟩)))))))), jss_nil (jss_one (js_ret (je_tup (ja_cons (je_fr 2 rfl (ja_cons (je_bin op_addD (je_fr 2 rfl (je_ix ix_D (fun _ _ => rfl) (je_lst (ja_cons (je_int (ja_cons (je_call (ok_l_ball h) (hr.mono (by decide)) hL (ja_cons (je_bo 0 rfl (.inr ⟨_, _, rfl⟩) (ja_cons (je_int (ja_nil (⟨_, [0], _, fun a8 => [.mp 0 (.lst a8.2), .bw v_1, .fr t5, .fr a6.1], rfl, rfl, nd1, rfl, fun _ => rfl, fun a8 _ =>
      ja_cons (je_call (ok_l_ball h) (hr.mono (by decide)) hL (ja_cons (je_bo 0 rfl (.inr ⟨_, _, rfl⟩) (ja_cons (je_int (ja_nil (⟨_, [0], _, fun a9 => [.mp 0 (.lst a9.2), .bw v_1, .fr t5, .fr a6.1], rfl, rfl, nd1, rfl, fun _ => rfl, fun a9 _ =>
      ja_cons (je_call (ok_l_ball h) (hr.mono (by decide)) hL (ja_cons (je_bo 0 rfl (.inr ⟨_, _, rfl⟩) (ja_cons (je_bw 1 rfl (ja_nil (⟨_, [0], _, fun a10 => [.mp 0 (.lst a10.2), .bw v_1, .fr t5, .fr a6.1], rfl, rfl, nd1, rfl, fun _ => rfl, fun a10 _ =>
      ja_nil (⟨_, rfl, rfl, je_fr 3 rfl (⟨_, _, _, rfl, rfl, rfl, fun t11 _ =>
      ⟨_, _, _, rfl, rfl, rfl, fun t12 _ =>
      ja_nil (⟨_, rfl, rfl, ⟨_, rfl, rfl, (oa_c 0 rfl oa_n)⟩⟩)⟩⟩)⟩)⟩)))))))⟩)))))))⟩))))))))))))))))))))⟩⟩)))))⟩⟩))))))))⟩⟩⟩))))))⟩)⟩)))))))⟩)))))))⟩))))))))))))))

def d_l_people : Nat → List D → Res (D)
  | 0, _ => .bad
  | n_ + 1, [v_0] =>
      op (asL v_0) fun ds1 =>
      (forS ds1 ((D.int 0) : D) fun d4 s3 =>
      ((op (ixD d4 (D.int 0)) fun t6 =>
      op (eqD t6 (D.str "again")) fun b7 =>
      if b7 = true then (op (ixD d4 (D.int 1)) fun t8 =>
      op (ixD d4 (D.int 2)) fun t9 =>
      (d_l_people n_ [t9]).bind fun a10 =>
      op (mulD t8 a10) fun t11 =>
      .ok t11) else (.ok (D.int 1)) : Res (D))).bind fun a5 =>
      op (addD s3 a5) fun t12 =>
      .ok t12).bind fun s13 =>
      .ok s13
  | _ + 1, _ => .bad
abbrev n_l_people : List Str := ["_law_long_here", "_law_found", "_law_item"]
theorem sc_l_people : FnScope n_l_people ["_law_long_here"] (defScope (topS 32)) := ⟨rfl, rfl, rfl, by decide +kernel, rfl, by decide +kernel, by decide +kernel⟩
theorem ok_l_people (h : Txt K mg) : ∀ n : Nat, Df P w K mg base (1 + n) "_law_people" [.b] (d_l_people n) (fun a => a) (fun a => []) false
  | 0 => by
    obtain ⟨fa, fd, F, B, M⟩ := h.f_l_people
    refine ⟨fa, fd, _, fn_D (k := 0) F sc_l_people rfl 0 (fun _ => rfl) rfl (fun X en cdv A outer s H E ds hX hr hn hL hp hl => ?_), M, F.kp, B⟩
    exact jss_never
  | n_ + 1 => by
    have ih := ok_l_people h n_
    obtain ⟨fa, fd, F, B, M⟩ := h.f_l_people
    refine ⟨fa, fd, _, fn_D (k := 1 + n_) F sc_l_people rfl 0 (fun _ => rfl) rfl (fun X en cdv A outer s H E ds hX hr hn hL hp hl => ?_), M, F.kp, B⟩
    have hnd := (sc_l_people).nd
    subst hX
    obtain ⟨v_0, rfl⟩ := len1 hl
    unfold d_l_people
    exact (jss_cons (js_set 1 hnd (je_int (⟨[.bw v_0, .fr (D.int 0), .un], rfl, rfl, rfl,
      jss_cons (js_forS hp rfl (ji_any (je_bw 0 rfl (⟨_, _, rfl, rfl, fun ds1 =>
      ⟨_, _, _, (fun (s3 : D) => [.bw v_0, .fr s3, .un]), rfl, (le_s (le_s (le_s (le_n)))), fun _ he2 d4 s3 => ⟨[2], jg_name 2 [.bw v_0, .fr s3, .fr d4] hnd (jss_one (js_set 1 hnd (je_bin op_addD (je_fr 1 rfl (je_join (fun (a5 : D) => .fr a5) (fun a5 => [.bw v_0, .fr s3, .fr d4]) (je_if (jt_cmp (cmp_eqD hr.hu) rfl (je_ix ix_D (fun _ _ => rfl) (je_fr 2 rfl (je_int (⟨_, _, _, rfl, rfl, rfl, fun t6 _ =>
      je_str (⟨_, _, _, rfl, rfl, rfl, fun b7 =>
      ⟨_, _, rfl, je_bin op_mulD (je_ix ix_D (fun _ _ => rfl) (je_fr 2 rfl (je_int (⟨_, _, _, rfl, rfl, rfl, fun t8 _ =>
      je_call (ih) (hr.mono (by omega)) (he2.lk hL) (ja_cons (je_ix ix_D (fun _ _ => rfl) (je_fr 2 rfl (je_int (⟨_, _, _, rfl, rfl, rfl, fun t9 _ =>
      ja_nil (⟨_, [], _, fun a10 => [.bw v_0, .fr s3, .fr d4], rfl, rfl, List.nodup_nil, rfl, fun _ => rfl, fun a10 _ =>
      ⟨_, _, _, rfl, rfl, rfl, fun t11 _ =>
      ⟨_, rfl, rfl, rfl⟩⟩⟩)⟩)))))⟩)))), je_int (⟨_, rfl, rfl, rfl⟩)⟩⟩)⟩)))))) (fun a5 =>
      ⟨_, _, _, rfl, rfl, rfl, fun t12 _ =>
      ⟨[.bw v_0, .fr t12, .fr d4], rfl, rfl, rfl,
      ⟨_, rfl, (le_s (le_s (le_u (le_n))))⟩⟩⟩))))))⟩, fun s13 =>
      jss_one (js_ret (je_fr 1 rfl (⟨_, rfl, rfl, oa_n⟩)))⟩⟩))))⟩))))

def d_l_long : Nat → List D → Res (D × List D × List D)
  | 0, _ => .bad
  | n_ + 1, [.lst v_0, .lst v_1, v_2, v_3] =>
      (d_l_ball [(D.lst v_0), (D.int 6)]).bind fun a2 =>
      op (ixD (D.lst [(D.int 3), (D.int 1), (D.int 2), (D.int 4), (D.int 5), (D.int 0)]) a2.1) fun t3 =>
      op (rngD [t3]) fun ds1 =>
      (forS ds1 ((a2.2, v_1, v_3, ([] : List D)) : List D × List D × D × List D) fun d6 s5 =>
      ((op (gtD v_2 (D.int 0)) fun b8 =>
      op (asB (D.bl b8)) fun b9 => if b9 = true then ((d_l_ball [(D.lst s5.1), (D.int 5)]).bind fun a10 =>
      op (gtD a10.1 (D.int 2)) fun b11 =>
      .ok ((D.bl b11), a10.2)) else (.ok ((D.bl false), s5.1)) : Res (D × List D))).bind fun a7 =>
      ((((op (ixD (D.lst s5.2.1) (D.int 0)) fun t14 =>
      op (gtD t14 (D.int 0)) fun b15 =>
      if b15 = true then (op (gtD s5.2.2.1 (D.int 0)) fun b16 =>
      .ok b16) else (.ok false) : Res (Bool))).bind fun a13 =>
      if a13 = true then (op (ixD (D.lst s5.2.1) (D.int 0)) fun t17 =>
      op (subD t17 (D.int 1)) fun t18 =>
      op (setL s5.2.1 (D.int 0) t18) fun r19 =>
      ((op (truD a7.1) fun b21 =>
      if b21 = true then (op (subD v_2 (D.int 1)) fun t22 =>
      (d_l_long n_ [(D.lst a7.2), (D.lst r19), t22, s5.2.2.1]).bind fun a23 =>
      (d_l_ball [(D.lst a23.2.1), (D.int 4)]).bind fun a24 =>
      (d_l_ball [(D.lst a24.2), (D.int 9)]).bind fun a25 =>
      op (addD (D.int 2) a25.1) fun t26 =>
      op (ixD (D.lst a23.2.2) (D.int 1)) fun t27 =>
      op (addD t27 (D.int 1)) fun t28 =>
      (d_l_ball [(D.lst a25.2), t28]).bind fun a29 =>
      (d_l_ball [(D.lst a29.2), (D.int 3)]).bind fun a30 =>
      op (ixD (D.lst [a24.1, t26, a29.1]) a30.1) fun t31 =>
      (d_l_people 14 [a23.1]).bind fun a32 =>
      op (max2D [(D.int 1), a32]) fun t33 =>
      op (fdivD s5.2.2.1 t33) fun t34 =>
      op (min2D [t31, t34]) fun t35 =>
      op (appL s5.2.2.2 [(D.tup [(D.str "again"), t35, a23.1])]) fun a36 =>
      (d_l_people 14 [a23.1]).bind fun a37 =>
      op (mulD t35 a37) fun t38 =>
      op (subD s5.2.2.1 t38) fun t39 =>
      .ok (a30.2, a23.2.2, t39, a36.2)) else (op (ixD (D.lst r19) (D.int 2)) fun t40 =>
      (d_l_saying [(D.lst a7.2), t40]).bind fun a41 =>
      op (appL s5.2.2.2 [a41.1]) fun a42 =>
      op (subD s5.2.2.1 (D.int 1)) fun t43 =>
      .ok (a41.2, r19, t43, a42.2)) : Res (List D × List D × D × List D))).bind fun s20 =>
      .ok (s20.1, s20.2.1, s20.2.2.1, s20.2.2.2)) else (.ok (a7.2, s5.2.1, s5.2.2.1, s5.2.2.2)) : Res (List D × List D × D × List D))).bind fun s12 =>
      .ok (s12.1, s12.2.1, s12.2.2.1, s12.2.2.2)).bind fun s44 =>
      .ok ((D.lst s44.2.2.2), s44.1, s44.2.1)
  | _ + 1, _ => .bad
abbrev n_l_long : List Str := ["_law_urn_here", "_law_plan", "_law_deep", "_law_room", "_law_found", "_law_k", "_law_again", "_law_inner", "_law_many"]
theorem sc_l_long : FnScope n_l_long ["_law_urn_here", "_law_plan", "_law_deep", "_law_room"] (defScope (topS 33)) := ⟨rfl, rfl, rfl, by decide +kernel, rfl, by decide +kernel, by decide +kernel⟩
theorem ok_l_long (h : Txt K mg) : ∀ n : Nat, Df P w K mg base (16 + n) "_law_long" [.m, .m, .b, .f] (d_l_long n) (fun a => a.1) (fun a => [.lst a.2.1, .lst a.2.2]) false
  | 0 => by
    obtain ⟨fa, fd, F, B, M⟩ := h.f_l_long
    refine ⟨fa, fd, _, fn_D (k := 15) F sc_l_long rfl 2 (fun _ => rfl) rfl (fun X en cdv A outer s H E ds hX hr hn hL hp hl => ?_), M, F.kp, B⟩
    exact jss_never
  | n_ + 1 => by
    have ih := ok_l_long h n_
    obtain ⟨fa, fd, F, B, M⟩ := h.f_l_long
    refine ⟨fa, fd, _, fn_D (k := 16 + n_) F sc_l_long rfl 2 (fun _ => rfl) rfl (fun X en cdv A outer s H E ds hX hr hn hL hp hl => ?_), M, F.kp, B⟩
    have hnd := (sc_l_long).nd
    subst hX
    obtain ⟨v_0, v_1, v_2, v_3, rfl⟩ := len4 hl
    cases v_0 <;> try exact jss_never
    rename_i v_0
    cases v_1 <;> try exact jss_never
    rename_i v_1
    unfold d_l_long
    exact (jss_cons (js_set 4 hnd (je_lst (ja_nil (⟨_, rfl, rfl, ⟨[.mp 0 (.lst v_0), .mp 1 (.lst v_1), .bw v_2, .fr v_3, .mu (.lst ([] : List D)), .un, .un, .un, .un], rfl, rfl, rfl,
      jss_cons (js_forS hp rfl (ji_range1 h.n_range (je_ix ix_D (fun _ _ => rfl) (je_lst (ja_cons (je_int (ja_cons (je_int (ja_cons (je_int (ja_cons (je_int (ja_cons (je_int (ja_cons (je_int (ja_nil (⟨_, rfl, rfl, je_call (ok_l_ball h) (hr.mono (by omega)) hL (ja_cons (je_bo 0 rfl (.inr ⟨_, _, rfl⟩) (ja_cons (je_int (ja_nil (⟨_, [0], _, fun a2 => [.mp 0 (.lst a2.2), .mp 1 (.lst v_1), .bw v_2, .fr v_3, .mu (.lst ([] : List D)), .un, .un, .un, .un], rfl, rfl, nd1, rfl, fun _ => rfl, fun a2 _ =>
      ⟨_, _, _, rfl, rfl, rfl, fun t3 _ =>
      ⟨_, _, rfl, rfl, fun ds1 =>
      ⟨_, _, _, (fun (s5 : List D × List D × D × List D) => [.mp 0 (.lst s5.1), .mp 1 (.lst s5.2.1), .bw v_2, .fr s5.2.2.1, .mu (.lst s5.2.2.2), .un, .un, .un, .un]), rfl, (le_s (le_s (le_s (le_s (le_s (le_s (le_s (le_s (le_s (le_n)))))))))), fun _ he4 d6 s5 => ⟨[5], jg_name 5 [.mp 0 (.lst s5.1), .mp 1 (.lst s5.2.1), .bw v_2, .fr s5.2.2.1, .mu (.lst s5.2.2.2), .fr d6, .un, .un, .un] hnd (jss_cons (js_set 6 hnd (je_join (fun (a7 : D × List D) => .fr a7.1) (fun a7 => [.mp 0 (.lst a7.2), .mp 1 (.lst s5.2.1), .bw v_2, .fr s5.2.2.1, .mu (.lst s5.2.2.2), .fr d6, .un, .un, .un]) (je_and (je_cmpB cmp_gtD rfl (je_bw 2 rfl (je_int (⟨_, _, _, rfl, rfl, rfl, fun b8 =>
      ⟨_, _, rfl, rfl, fun b9 => ⟨_, _, rfl, je_one (je_cmpB cmp_gtD rfl (je_call (ok_l_ball h) (hr.mono (by omega)) (he4.lk hL) (ja_cons (je_bo 0 rfl (.inr ⟨_, _, rfl⟩) (ja_cons (je_int (ja_nil (⟨_, [0], _, fun a10 => [.mp 0 (.lst a10.2), .mp 1 (.lst s5.2.1), .bw v_2, .fr s5.2.2.1, .mu (.lst s5.2.2.2), .fr d6, .un, .un, .un], rfl, rfl, nd1, rfl, fun _ => rfl, fun a10 _ =>
      je_int (⟨_, _, _, rfl, rfl, rfl, fun b11 =>
      ⟨_, rfl, rfl, rfl⟩⟩)⟩)))))))), ⟨_, rfl, rfl, rfl⟩⟩⟩⟩))))) (fun a7 =>
      ⟨[.mp 0 (.lst a7.2), .mp 1 (.lst s5.2.1), .bw v_2, .fr s5.2.2.1, .mu (.lst s5.2.2.2), .fr d6, .fr a7.1, .un, .un], rfl, rfl, rfl,
      jss_one (js_joinS (fun (s12 : List D × List D × D × List D) => [.mp 0 (.lst s12.1), .mp 1 (.lst s12.2.1), .bw v_2, .fr s12.2.2.1, .mu (.lst s12.2.2.2), .fr d6, .fr a7.1, .un, .un]) (js_if (jt_join (fun (a13 : Bool) => a13) (fun a13 => [.mp 0 (.lst a7.2), .mp 1 (.lst s5.2.1), .bw v_2, .fr s5.2.2.1, .mu (.lst s5.2.2.2), .fr d6, .fr a7.1, .un, .un]) (jt_w (jw_and (jt_cmp cmp_gtD rfl (je_ix ix_D (fun _ _ => rfl) (je_bo 1 rfl (.inr ⟨_, _, rfl⟩) (je_int (⟨_, _, _, rfl, rfl, rfl, fun t14 _ =>
      je_int (⟨_, _, _, rfl, rfl, rfl, fun b15 =>
      ⟨_, _, rfl, jw_and1 (jt_cmp cmp_gtD rfl (je_fr 3 rfl (je_int (⟨_, _, _, rfl, rfl, rfl, fun b16 =>
      ⟨_, rfl, rfl, rfl⟩⟩)))), ⟨_, rfl, rfl, rfl⟩⟩⟩)⟩))))))) (fun a13 =>
      ⟨_, _, rfl, jss_cons (js_setL 1 (je_bin op_subD (je_ix ix_D (fun _ _ => rfl) (je_bo 1 rfl (.inr ⟨_, _, rfl⟩) (je_int (⟨_, _, _, rfl, rfl, rfl, fun t17 _ =>
      je_int (⟨_, _, _, rfl, rfl, rfl, fun t18 _ =>
      ⟨_, _, rfl, rfl, rfl, je_int (⟨_, _, _, _, fun r19 => [.mp 0 (.lst a7.2), .mp 1 (.lst r19), .bw v_2, .fr s5.2.2.1, .mu (.lst s5.2.2.2), .fr d6, .fr a7.1, .un, .un], rfl, rfl, rfl, rfl, rfl, fun _ => rfl, fun r19 =>
      jss_one (js_joinS (fun (s20 : List D × List D × D × List D) => [.mp 0 (.lst s20.1), .mp 1 (.lst s20.2.1), .bw v_2, .fr s20.2.2.1, .mu (.lst s20.2.2.2), .fr d6, .fr a7.1, .un, .un]) (js_if (jt_tru (je_fr 6 rfl (⟨_, _, rfl, rfl, fun b21 =>
      ⟨_, _, rfl, jss_cons (js_set 7 hnd (je_call (ih) (hr.mono (by omega)) (he4.lk hL) (ja_cons (je_bo 0 rfl (.inr ⟨_, _, rfl⟩) (ja_cons (je_bo 1 rfl (.inr ⟨_, _, rfl⟩) (ja_cons (je_bin op_subD (je_bw 2 rfl (je_int (⟨_, _, _, rfl, rfl, rfl, fun t22 _ =>
      ja_cons (je_fr 3 rfl (ja_nil (⟨_, [0, 1], _, fun a23 => [.mp 0 (.lst a23.2.1), .mp 1 (.lst a23.2.2), .bw v_2, .fr s5.2.2.1, .mu (.lst s5.2.2.2), .fr d6, .fr a7.1, .un, .un], rfl, rfl, (by decide), rfl, fun _ => rfl, fun a23 _ =>
      ⟨[.mp 0 (.lst a23.2.1), .mp 1 (.lst a23.2.2), .bw v_2, .fr s5.2.2.1, .mu (.lst s5.2.2.2), .fr d6, .fr a7.1, .fr a23.1, .un], rfl, rfl, rfl,
      jss_cons (js_set 8 hnd (je_ix ix_D (fun _ _ => rfl) (je_lst (ja_cons (je_call (ok_l_ball h) (hr.mono (by omega)) (he4.lk hL) (ja_cons (je_bo 0 rfl (.inr ⟨_, _, rfl⟩) (ja_cons (je_int (ja_nil (⟨_, [0], _, fun a24 => [.mp 0 (.lst a24.2), .mp 1 (.lst a23.2.2), .bw v_2, .fr s5.2.2.1, .mu (.lst s5.2.2.2), .fr d6, .fr a7.1, .fr a23.1, .un], rfl, rfl, nd1, rfl, fun _ => rfl, fun a24 _ =>
      ja_cons (je_bin op_addD (je_int (je_call (ok_l_ball h) (hr.mono (by omega)) (he4.lk hL) (ja_cons (je_bo 0 rfl (.inr ⟨_, _, rfl⟩) (ja_cons (je_int (ja_nil (⟨_, [0], _, fun a25 => [.mp 0 (.lst a25.2), .mp 1 (.lst a23.2.2), .bw v_2, .fr s5.2.2.1, .mu (.lst s5.2.2.2), .fr d6, .fr a7.1, .fr a23.1, .un], rfl, rfl, nd1, rfl, fun _ => rfl, fun a25 _ =>
      ⟨_, _, _, rfl, rfl, rfl, fun t26 _ =>
      ja_cons (je_call (ok_l_ball h) (hr.mono (by omega)) (he4.lk hL) (ja_cons (je_bo 0 rfl (.inr ⟨_, _, rfl⟩) (ja_cons (je_bin op_addD (je_ix ix_D (fun _ _ => rfl) (je_bo 1 rfl (.inr ⟨_, _, rfl⟩) (je_int (⟨_, _, _, rfl, rfl, rfl, fun t27 _ =>
      je_int (⟨_, _, _, rfl, rfl, rfl, fun t28 _ =>
      ja_nil (⟨_, [0], _, fun a29 => [.mp 0 (.lst a29.2), .mp 1 (.lst a23.2.2), .bw v_2, .fr s5.2.2.1, .mu (.lst s5.2.2.2), .fr d6, .fr a7.1, .fr a23.1, .un], rfl, rfl, nd1, rfl, fun _ => rfl, fun a29 _ =>
      ja_nil (⟨_, rfl, rfl, je_call (ok_l_ball h) (hr.mono (by omega)) (he4.lk hL) (ja_cons (je_bo 0 rfl (.inr ⟨_, _, rfl⟩) (ja_cons (je_int (ja_nil (⟨_, [0], _, fun a30 => [.mp 0 (.lst a30.2), .mp 1 (.lst a23.2.2), .bw v_2, .fr s5.2.2.1, .mu (.lst s5.2.2.2), .fr d6, .fr a7.1, .fr a23.1, .un], rfl, rfl, nd1, rfl, fun _ => rfl, fun a30 _ =>
      ⟨_, _, _, rfl, rfl, rfl, fun t31 _ =>
      ⟨[.mp 0 (.lst a30.2), .mp 1 (.lst a23.2.2), .bw v_2, .fr s5.2.2.1, .mu (.lst s5.2.2.2), .fr d6, .fr a7.1, .fr a23.1, .fr t31], rfl, rfl, rfl,
      jss_cons (js_set 8 hnd (je_callB (c_min2 rfl) h.n_min (ja_cons (je_fr 8 rfl (ja_cons (je_bin op_fdivD (je_fr 3 rfl (je_callB (c_max2 rfl) h.n_max (ja_cons (je_int (ja_cons (je_call (ok_l_people h 14) (hr.mono (by omega)) (he4.lk hL) (ja_cons (je_fr 7 rfl (ja_nil (⟨_, [], _, fun a32 => [.mp 0 (.lst a30.2), .mp 1 (.lst a23.2.2), .bw v_2, .fr s5.2.2.1, .mu (.lst s5.2.2.2), .fr d6, .fr a7.1, .fr a23.1, .fr t31], rfl, rfl, List.nodup_nil, rfl, fun _ => rfl, fun a32 _ =>
      ja_nil (⟨_, _, rfl, rfl, fun t33 _ =>
      ⟨_, _, _, rfl, rfl, rfl, fun t34 _ =>
      ja_nil (⟨_, _, rfl, rfl, fun t35 _ =>
      ⟨[.mp 0 (.lst a30.2), .mp 1 (.lst a23.2.2), .bw v_2, .fr s5.2.2.1, .mu (.lst s5.2.2.2), .fr d6, .fr a7.1, .fr a23.1, .fr t35], rfl, rfl, rfl,
      jss_cons (js_expr (je_mutL 4 g_app PySem.F.slot_list_append PySem.F.type_list_append m_append rfl rfl rfl (ja_cons (je_tup (ja_cons (je_str (ja_cons (je_fr 8 rfl (ja_cons (je_fr 7 rfl (ja_nil (⟨_, rfl, rfl, ja_nil (⟨_, _, _, _, fun a36 => [.mp 0 (.lst a30.2), .mp 1 (.lst a23.2.2), .bw v_2, .fr s5.2.2.1, .mu (.lst a36.2), .fr d6, .fr a7.1, .fr a23.1, .fr t35], rfl, rfl, rfl, rfl, rfl, fun _ => rfl, fun a36 =>
      jss_one (js_set 3 hnd (je_bin op_subD (je_fr 3 rfl (je_bin op_mulD (je_fr 8 rfl (je_call (ok_l_people h 14) (hr.mono (by omega)) (he4.lk hL) (ja_cons (je_fr 7 rfl (ja_nil (⟨_, [], _, fun a37 => [.mp 0 (.lst a30.2), .mp 1 (.lst a23.2.2), .bw v_2, .fr s5.2.2.1, .mu (.lst a36.2), .fr d6, .fr a7.1, .fr a23.1, .fr t35], rfl, rfl, List.nodup_nil, rfl, fun _ => rfl, fun a37 _ =>
      ⟨_, _, _, rfl, rfl, rfl, fun t38 _ =>
      ⟨_, _, _, rfl, rfl, rfl, fun t39 _ =>
      ⟨[.mp 0 (.lst a30.2), .mp 1 (.lst a23.2.2), .bw v_2, .fr t39, .mu (.lst a36.2), .fr d6, .fr a7.1, .fr a23.1, .fr t35], rfl, rfl, rfl,
      ⟨_, rfl, (le_s (le_s (le_s (le_s (le_s (le_s (le_s (le_u (le_u (le_n))))))))))⟩⟩⟩⟩⟩))))))))))⟩)⟩))))))))))))⟩⟩)⟩⟩)⟩))))))))))))))))⟩⟩⟩))))))⟩)⟩)⟩)⟩)))))))))⟩⟩)))))))))⟩)))))))))))⟩⟩)))⟩))))))))))), jss_cons (js_expr (je_mutL 4 g_app PySem.F.slot_list_append PySem.F.type_list_append m_append rfl rfl rfl (ja_cons (je_call (ok_l_saying h) (hr.mono (by omega)) (he4.lk hL) (ja_cons (je_bo 0 rfl (.inr ⟨_, _, rfl⟩) (ja_cons (je_ix ix_D (fun _ _ => rfl) (je_bo 1 rfl (.inr ⟨_, _, rfl⟩) (je_int (⟨_, _, _, rfl, rfl, rfl, fun t40 _ =>
      ja_nil (⟨_, [0], _, fun a41 => [.mp 0 (.lst a41.2), .mp 1 (.lst r19), .bw v_2, .fr s5.2.2.1, .mu (.lst s5.2.2.2), .fr d6, .fr a7.1, .un, .un], rfl, rfl, nd1, rfl, fun _ => rfl, fun a41 _ =>
      ja_nil (⟨_, _, _, _, fun a42 => [.mp 0 (.lst a41.2), .mp 1 (.lst r19), .bw v_2, .fr s5.2.2.1, .mu (.lst a42.2), .fr d6, .fr a7.1, .un, .un], rfl, rfl, rfl, rfl, rfl, fun _ => rfl, fun a42 =>
      jss_one (js_set 3 hnd (je_bin op_subD (je_fr 3 rfl (je_int (⟨_, _, _, rfl, rfl, rfl, fun t43 _ =>
      ⟨[.mp 0 (.lst a41.2), .mp 1 (.lst r19), .bw v_2, .fr t43, .mu (.lst a42.2), .fr d6, .fr a7.1, .un, .un], rfl, rfl, rfl,
      ⟨_, rfl, (le_s (le_s (le_s (le_s (le_s (le_s (le_s (le_s (le_s (le_n))))))))))⟩⟩⟩)))))⟩)⟩)⟩)))))))))))⟩⟩)))) (fun s20 =>
      ⟨_, rfl, (le_s (le_s (le_s (le_s (le_s (le_s (le_s (le_s (le_s (le_n))))))))))⟩))⟩)⟩⟩)⟩)))))), jss_nil (⟨_, rfl, (le_s (le_s (le_s (le_s (le_s (le_s (le_s (le_s (le_s (le_n))))))))))⟩)⟩))) (fun s12 =>
      ⟨_, rfl, (le_s (le_s (le_s (le_s (le_s (le_u (le_u (le_s (le_s (le_n))))))))))⟩))⟩))))⟩, fun s44 =>
      jss_one (js_ret (je_fzv' 4 [.mp 0 (.lst s44.1), .mp 1 (.lst s44.2.1), .bw v_2, .fr s44.2.2.1, .fr (D.lst s44.2.2.2), .un, .un, .un, .un] rfl rfl (⟨_, rfl, rfl, (oa_c 0 rfl (oa_c 1 rfl oa_n))⟩)))⟩⟩⟩⟩))))))⟩))))))))))))))))))⟩⟩)))))

def d_l_odd : List D → Res (D × List D)
  | [.lst v_0] =>
      op (negD (D.int 1)) fun t1 =>
      op (negD (D.int 1)) fun t2 =>
      op (negD (D.int 1)) fun t3 =>
      op (addD (D.lst [D.non, (D.bl true), (D.int 0), (D.int 3), t1, (D.str ""), (D.str "again"), (D.tup []), (D.lst ([] : List D)), (D.dic []), (D.tup [(D.int 0)]), (D.tup [(D.int 0), (D.int 1)]), (D.lst [(D.int 0), (D.int 1)]), (D.tup [(D.int 2), (D.int 1)]), (D.tup [(D.int 0), D.non]), (D.tup [D.non, (D.int 0)])]) (D.lst [(D.tup [(D.bl true), (D.int 3)]), (D.tup [t2, (D.int 2)]), (D.tup [(D.int 0), (D.str "1")]), (D.tup [(D.str "again"), (D.int 2)]), (D.tup [(D.str "again"), (D.int 2), (D.lst ([] : List D)), (D.int 0)]), (D.lst [(D.str "again"), (D.int 2), (D.lst ([] : List D))]), (D.tup [(D.str "again"), t3, (D.lst ([] : List D))])])) fun t4 =>
      op (addD t4 (D.lst [(D.tup [(D.str "again"), (D.int 3), (D.lst [(D.tup [(D.int 0), (D.int 0)])])]), (D.tup [(D.str "again"), D.non, (D.lst ([] : List D))]), (D.tup [(D.str "again"), (D.int 2), (D.tup [(D.int 0), (D.int 1)])]), (D.tup [(D.str "Again"), (D.int 2), (D.lst ([] : List D))]), (D.tup [(D.tup [(D.int 0), (D.int 1)])])])) fun t5 =>
      op (powD (D.int 10) (D.int 29)) fun t6 =>
      op (powD (D.int 10) (D.int 29)) fun t7 =>
      op (mulX (D.lst [(D.tup [(D.int 1), (D.int 1)])]) (D.int 11)) fun t8 =>
      op (addD t5 (D.lst [(D.tup [(D.str "again"), t6, (D.lst [(D.tup [(D.str "again"), (D.int 10), (D.lst [(D.tup [(D.int 0), (D.int 0)])])])])]), (D.tup [(D.str "again"), (D.int 0), (D.lst [(D.tup [(D.str "again"), t7, t8])])])])) fun t9 =>
      op (powD (D.int 10) (D.int 20)) fun t10 =>
      op (powD (D.int 10) (D.int 29)) fun t11 =>
      op (powD (D.int 10) (D.int 29)) fun t12 =>
      op (addD t12 (D.int 1)) fun t13 =>
      op (addD t9 (D.lst [(D.tup [(D.str "again"), (D.bl true), (D.lst [(D.tup [(D.int 0), (D.int 0)])])]), (D.tup [(D.tup [(D.str "again"), (D.int 1), (D.tup [])])]), (D.lst [(D.lst ([] : List D))]), (D.tup [(D.int 0), (D.bl true)]), t10, (D.tup [t11, t13])])) fun t14 =>
      op (lenD [t14]) fun t15 =>
      (d_l_ball [(D.lst v_0), t15]).bind fun a16 =>
      op (ixD t14 a16.1) fun t17 =>
      .ok (t17, a16.2)  | _ => .bad
abbrev n_l_odd : List Str := ["_law_urn_here", "_law_some"]
theorem sc_l_odd : FnScope n_l_odd ["_law_urn_here"] (defScope (topS 35)) := ⟨rfl, rfl, rfl, by decide +kernel, rfl, by decide +kernel, by decide +kernel⟩
theorem ok_l_odd (h : Txt K mg) : Df P w K mg base 2 "_law_odd" [.m] d_l_odd (fun a => a.1) (fun a => [.lst a.2]) false := by
  obtain ⟨fa, fd, F, B, M⟩ := h.f_l_odd
  refine ⟨fa, fd, _, fn_D (k := 1) F sc_l_odd rfl 1 (fun _ => rfl) rfl (fun X en cdv A outer s H E ds hX hr hn hL hp hl => ?_), M, F.kp, B⟩
  have hnd := (sc_l_odd).nd
  subst hX
  obtain ⟨v_0, rfl⟩ := len1 hl
  cases v_0 <;> try exact jss_never
  rename_i v_0
  unfold d_l_odd
  exact (jss_cons (js_set 1 hnd (je_fz (je_lst (ja_cons (je_non (ja_cons (je_bl (ja_cons (je_int (ja_cons (je_int (ja_cons (je_un un_negD (je_int (⟨_, _, rfl, rfl, fun t1 _ =>
      ja_cons (je_str (ja_cons (je_str (ja_cons (je_tup (ja_nil (⟨_, rfl, rfl, ja_cons (je_fz (je_lst (ja_nil (⟨_, rfl, rfl, ja_cons (je_fz (je_dnew (ja_cons (je_tup (ja_cons (je_int (ja_nil (⟨_, rfl, rfl, ja_cons (je_tup (ja_cons (je_int (ja_cons (je_int (ja_nil (⟨_, rfl, rfl, ja_cons (je_fz (je_lst (ja_cons (je_int (ja_cons (je_int (ja_nil (⟨_, rfl, rfl, ja_cons (je_tup (ja_cons (je_int (ja_cons (je_int (ja_nil (⟨_, rfl, rfl, ja_cons (je_tup (ja_cons (je_int (ja_cons (je_non (ja_nil (⟨_, rfl, rfl, ja_cons (je_tup (ja_cons (je_non (ja_cons (je_int (ja_nil (⟨_, rfl, rfl, ja_nil (⟨_, rfl, rfl, ⟨[.mp 0 (.lst v_0), .fr (D.lst [D.non, (D.bl true), (D.int 0), (D.int 3), t1, (D.str ""), (D.str "again"), (D.tup []), (D.lst ([] : List D)), (D.dic []), (D.tup [(D.int 0)]), (D.tup [(D.int 0), (D.int 1)]), (D.lst [(D.int 0), (D.int 1)]), (D.tup [(D.int 2), (D.int 1)]), (D.tup [(D.int 0), D.non]), (D.tup [D.non, (D.int 0)])])], rfl, rfl, rfl,
      jss_cons (js_set 1 hnd (je_bin op_addD (je_fr 1 rfl (je_lst (ja_cons (je_tup (ja_cons (je_bl (ja_cons (je_int (ja_nil (⟨_, rfl, rfl, ja_cons (je_tup (ja_cons (je_un un_negD (je_int (⟨_, _, rfl, rfl, fun t2 _ =>
      ja_cons (je_int (ja_nil (⟨_, rfl, rfl, ja_cons (je_tup (ja_cons (je_int (ja_cons (je_str (ja_nil (⟨_, rfl, rfl, ja_cons (je_tup (ja_cons (je_str (ja_cons (je_int (ja_nil (⟨_, rfl, rfl, ja_cons (je_tup (ja_cons (je_str (ja_cons (je_int (ja_cons (je_fz (je_lst (ja_nil (⟨_, rfl, rfl, ja_cons (je_int (ja_nil (⟨_, rfl, rfl, ja_cons (je_fz (je_lst (ja_cons (je_str (ja_cons (je_int (ja_cons (je_fz (je_lst (ja_nil (⟨_, rfl, rfl, ja_nil (⟨_, rfl, rfl, ja_cons (je_tup (ja_cons (je_str (ja_cons (je_un un_negD (je_int (⟨_, _, rfl, rfl, fun t3 _ =>
      ja_cons (je_fz (je_lst (ja_nil (⟨_, rfl, rfl, ja_nil (⟨_, rfl, rfl, ja_nil (⟨_, rfl, rfl, ⟨_, _, _, rfl, rfl, rfl, fun t4 _ =>
      ⟨[.mp 0 (.lst v_0), .fr t4], rfl, rfl, rfl,
      jss_cons (js_set 1 hnd (je_bin op_addD (je_fr 1 rfl (je_lst (ja_cons (je_tup (ja_cons (je_str (ja_cons (je_int (ja_cons (je_fz (je_lst (ja_cons (je_tup (ja_cons (je_int (ja_cons (je_int (ja_nil (⟨_, rfl, rfl, ja_nil (⟨_, rfl, rfl, ja_nil (⟨_, rfl, rfl, ja_cons (je_tup (ja_cons (je_str (ja_cons (je_non (ja_cons (je_fz (je_lst (ja_nil (⟨_, rfl, rfl, ja_nil (⟨_, rfl, rfl, ja_cons (je_tup (ja_cons (je_str (ja_cons (je_int (ja_cons (je_tup (ja_cons (je_int (ja_cons (je_int (ja_nil (⟨_, rfl, rfl, ja_nil (⟨_, rfl, rfl, ja_cons (je_tup (ja_cons (je_str (ja_cons (je_int (ja_cons (je_fz (je_lst (ja_nil (⟨_, rfl, rfl, ja_nil (⟨_, rfl, rfl, ja_cons (je_tup (ja_cons (je_tup (ja_cons (je_int (ja_cons (je_int (ja_nil (⟨_, rfl, rfl, ja_nil (⟨_, rfl, rfl, ja_nil (⟨_, rfl, rfl, ⟨_, _, _, rfl, rfl, rfl, fun t5 _ =>
      ⟨[.mp 0 (.lst v_0), .fr t5], rfl, rfl, rfl,
      jss_cons (js_set 1 hnd (je_bin op_addD (je_fr 1 rfl (je_lst (ja_cons (je_tup (ja_cons (je_str (ja_cons (je_bin op_powD (je_int (je_int (⟨_, _, _, rfl, rfl, rfl, fun t6 _ =>
      ja_cons (je_fz (je_lst (ja_cons (je_tup (ja_cons (je_str (ja_cons (je_int (ja_cons (je_fz (je_lst (ja_cons (je_tup (ja_cons (je_int (ja_cons (je_int (ja_nil (⟨_, rfl, rfl, ja_nil (⟨_, rfl, rfl, ja_nil (⟨_, rfl, rfl, ja_nil (⟨_, rfl, rfl, ja_nil (⟨_, rfl, rfl, ja_cons (je_tup (ja_cons (je_str (ja_cons (je_int (ja_cons (je_fz (je_lst (ja_cons (je_tup (ja_cons (je_str (ja_cons (je_bin op_powD (je_int (je_int (⟨_, _, _, rfl, rfl, rfl, fun t7 _ =>
      ja_cons (je_bin op_mulX (je_lst (ja_cons (je_tup (ja_cons (je_int (ja_cons (je_int (ja_nil (⟨_, rfl, rfl, ja_nil (⟨_, rfl, rfl, je_int (⟨_, _, _, rfl, rfl, rfl, fun t8 _ =>
      ja_nil (⟨_, rfl, rfl, ja_nil (⟨_, rfl, rfl, ja_nil (⟨_, rfl, rfl, ja_nil (⟨_, rfl, rfl, ⟨_, _, _, rfl, rfl, rfl, fun t9 _ =>
      ⟨[.mp 0 (.lst v_0), .fr t9], rfl, rfl, rfl,
      jss_cons (js_set 1 hnd (je_bin op_addD (je_fr 1 rfl (je_lst (ja_cons (je_tup (ja_cons (je_str (ja_cons (je_bl (ja_cons (je_fz (je_lst (ja_cons (je_tup (ja_cons (je_int (ja_cons (je_int (ja_nil (⟨_, rfl, rfl, ja_nil (⟨_, rfl, rfl, ja_nil (⟨_, rfl, rfl, ja_cons (je_tup (ja_cons (je_tup (ja_cons (je_str (ja_cons (je_int (ja_cons (je_tup (ja_nil (⟨_, rfl, rfl, ja_nil (⟨_, rfl, rfl, ja_nil (⟨_, rfl, rfl, ja_cons (je_fz (je_lst (ja_cons (je_fz (je_lst (ja_nil (⟨_, rfl, rfl, ja_nil (⟨_, rfl, rfl, ja_cons (je_tup (ja_cons (je_int (ja_cons (je_bl (ja_nil (⟨_, rfl, rfl, ja_cons (je_bin op_powD (je_int (je_int (⟨_, _, _, rfl, rfl, rfl, fun t10 _ =>
      ja_cons (je_tup (ja_cons (je_bin op_powD (je_int (je_int (⟨_, _, _, rfl, rfl, rfl, fun t11 _ =>
      ja_cons (je_bin op_addD (je_bin op_powD (je_int (je_int (⟨_, _, _, rfl, rfl, rfl, fun t12 _ =>
      je_int (⟨_, _, _, rfl, rfl, rfl, fun t13 _ =>
      ja_nil (⟨_, rfl, rfl, ja_nil (⟨_, rfl, rfl, ⟨_, _, _, rfl, rfl, rfl, fun t14 _ =>
      ⟨[.mp 0 (.lst v_0), .fr t14], rfl, rfl, rfl,
      jss_one (js_ret (je_ix ix_D (fun _ _ => rfl) (je_fr 1 rfl (je_call (ok_l_ball h) (hr.mono (by decide)) hL (ja_cons (je_bo 0 rfl (.inr ⟨_, _, rfl⟩) (ja_cons (je_callB c_len h.n_len (ja_cons (je_fr 1 rfl (ja_nil (⟨_, _, rfl, rfl, fun t15 _ =>
      ja_nil (⟨_, [0], _, fun a16 => [.mp 0 (.lst a16.2), .fr t14], rfl, rfl, nd1, rfl, fun _ => rfl, fun a16 _ =>
      ⟨_, _, _, rfl, rfl, rfl, fun t17 _ =>
      ⟨_, rfl, rfl, (oa_c 0 rfl oa_n)⟩⟩⟩)⟩))))))))))))⟩⟩⟩)⟩)⟩)⟩)))))⟩))))))⟩))))⟩)))))))⟩)⟩)))))))⟩)⟩)⟩)))))))))))⟩)⟩)⟩)))))))))))))))))))))⟩⟩⟩)⟩)⟩)⟩)⟩)⟩)⟩))))))))))⟩)))))))))))))))))⟩)⟩)⟩)⟩)⟩)))))))))))))))))))⟩)))))))))))))⟩⟩⟩)⟩)⟩)))))))))⟩)⟩))))))))))⟩)⟩)))))))))))))⟩)⟩))))))))))⟩)⟩)⟩)))))))))))))))))))))⟩⟩⟩)⟩)⟩))))⟩)))))))⟩)⟩)))))))))))⟩)))⟩))))))))))⟩)))))))⟩)))))))⟩)))⟩)))))⟩))))))))))))⟩⟩)⟩)))))))⟩)))))))⟩)))))))⟩))))))))⟩)))))))⟩))))))))⟩))))⟩)))))))⟩))))))))))))))))

def d_l_bent : Nat → List D → Res (D × List D)
  | 0, _ => .bad
  | n_ + 1, [.lst v_0, v_1] =>
      ((if (!(isLst v_1 || isTup v_1)) = true then (.ok (true, v_0)) else ((d_l_ball [(D.lst v_0), (D.int 6)]).bind fun a2 =>
      op (eqD a2.1 (D.int 0)) fun b3 =>
      .ok (b3, a2.2)) : Res (Bool × List D))).bind fun a1 =>
      if a1.1 = true then ((d_l_odd [(D.lst a1.2)]).bind fun a4 =>
      .ok (a4.1, a4.2)) else (op (listT [v_1]) fun t5 =>
      op (lenD [(D.lst t5)]) fun t6 =>
      op (addD t6 (D.int 1)) fun t7 =>
      (d_l_ball [(D.lst a1.2), t7]).bind fun a8 =>
      (d_l_ball [(D.lst a8.2), (D.int 7)]).bind fun a9 =>
      ((((op (lenD [(D.lst t5)]) fun t16 =>
      op (ltD a8.1 t16) fun b17 =>
      if b17 = true then (op (gtD a9.1 (D.int 2)) fun b18 =>
      .ok b18) else (.ok false) : Res (Bool))).bind fun a15 =>
      if a15 = true then (op (ixD (D.lst t5) a8.1) fun t19 =>
      (d_l_bent n_ [(D.lst a9.2), t19]).bind fun a20 =>
      op (setL t5 a8.1 a20.1) fun r21 =>
      .ok (a20.2, r21)) else (((op (eqD a9.1 (D.int 0)) fun b23 =>
      if b23 = true then (op (asI a8.1) fun i24 =>
      op (asLst (D.lst t5)) fun t25 =>
      op (addD a8.1 (D.int 1)) fun t26 =>
      op (asI t26) fun i27 =>
      op (asLst (D.lst t5)) fun t28 =>
      op (catT (D.lst (cutD t25 none (some i24))) (D.lst (cutD t28 (some i27) none))) fun t29 =>
      .ok (a9.2, t29)) else (((op (eqD a9.1 (D.int 1)) fun b31 =>
      if b31 = true then (op (addD a8.1 (D.int 1)) fun t32 =>
      op (asI t32) fun i33 =>
      op (asLst (D.lst t5)) fun t34 =>
      op (asI a8.1) fun i35 =>
      op (asLst (D.lst t5)) fun t36 =>
      op (catT (D.lst (cutD t34 none (some i33))) (D.lst (cutD t36 (some i35) none))) fun t37 =>
      .ok (a9.2, t37)) else (op (asI a8.1) fun i38 =>
      op (asLst (D.lst t5)) fun t39 =>
      (d_l_odd [(D.lst a9.2)]).bind fun a40 =>
      op (addD (D.lst (cutD t39 none (some i38))) (D.lst [a40.1])) fun t41 =>
      op (asI a8.1) fun i42 =>
      op (asLst (D.lst t5)) fun t43 =>
      op (catT t41 (D.lst (cutD t43 (some i42) none))) fun t44 =>
      .ok (a40.2, t44)) : Res (List D × List D))).bind fun s30 =>
      .ok (s30.1, s30.2)) : Res (List D × List D))).bind fun s22 =>
      .ok (s22.1, s22.2)) : Res (List D × List D))).bind fun s10 =>
      (d_l_ball [(D.lst s10.1), (D.int 9)]).bind fun a11 =>
      op (gtD a11.1 (D.int 0)) fun b12 =>
      op (eqD (D.bl (isTup v_1)) (D.bl b12)) fun b13 =>
      (if b13 = true then (op (tupleD [(D.lst s10.2)]) fun t14 =>
      .ok (t14, a11.2)) else (.ok ((D.lst s10.2), a11.2))))
  | _ + 1, _ => .bad
abbrev n_l_bent : List Str := ["_law_urn_here", "_law_thing", "_law_found", "_law_at", "_law_way"]
theorem sc_l_bent : FnScope n_l_bent ["_law_urn_here", "_law_thing"] (defScope (topS 36)) := ⟨rfl, rfl, rfl, by decide +kernel, rfl, by decide +kernel, by decide +kernel⟩
theorem ok_l_bent (h : Txt K mg) : ∀ n : Nat, Df P w K mg base (3 + n) "_law_bent" [.m, .b] (d_l_bent n) (fun a => a.1) (fun a => [.lst a.2]) false
  | 0 => by
    obtain ⟨fa, fd, F, B, M⟩ := h.f_l_bent
    refine ⟨fa, fd, _, fn_D (k := 2) F sc_l_bent rfl 1 (fun _ => rfl) rfl (fun X en cdv A outer s H E ds hX hr hn hL hp hl => ?_), M, F.kp, B⟩
    exact jss_never
  | n_ + 1 => by
    have ih := ok_l_bent h n_
    obtain ⟨fa, fd, F, B, M⟩ := h.f_l_bent
    refine ⟨fa, fd, _, fn_D (k := 3 + n_) F sc_l_bent rfl 1 (fun _ => rfl) rfl (fun X en cdv A outer s H E ds hX hr hn hL hp hl => ?_), M, F.kp, B⟩
    have hnd := (sc_l_bent).nd
    subst hX
    obtain ⟨v_0, v_1, rfl⟩ := len2 hl
    cases v_0 <;> try exact jss_never
    rename_i v_0
    unfold d_l_bent
    exact (jss_cons (js_if (jt_join (fun (a1 : Bool × List D) => a1.1) (fun a1 => [.mp 0 (.lst a1.2), .bw v_1, .un, .un, .un]) (jt_w (jw_or (jt_not (jt_bl (je_isi2 kit_lst kit_tup h.n_isinstance h.n_list h.n_tuple (je_bw 1 rfl (⟨_, rfl, ⟨_, rfl, ⟨_, _, rfl, ⟨_, rfl, rfl, rfl⟩, jw_or1 (jt_cmp (cmp_eqD hr.hu) rfl (je_call (ok_l_ball h) (hr.mono (by omega)) hL (ja_cons (je_bo 0 rfl (.inr ⟨_, _, rfl⟩) (ja_cons (je_int (ja_nil (⟨_, [0], _, fun a2 => [.mp 0 (.lst a2.2), .bw v_1, .un, .un, .un], rfl, rfl, nd1, rfl, fun _ => rfl, fun a2 _ =>
      je_int (⟨_, _, _, rfl, rfl, rfl, fun b3 =>
      ⟨_, rfl, rfl, rfl⟩⟩)⟩))))))))⟩⟩⟩))))))) (fun a1 =>
      ⟨_, _, rfl, jss_one (js_ret (je_call (ok_l_odd h) (hr.mono (by omega)) hL (ja_cons (je_bo 0 rfl (.inr ⟨_, _, rfl⟩) (ja_nil (⟨_, [0], _, fun a4 => [.mp 0 (.lst a4.2), .bw v_1, .un, .un, .un], rfl, rfl, nd1, rfl, fun _ => rfl, fun a4 _ =>
      ⟨_, rfl, rfl, (oa_c 0 rfl oa_n)⟩⟩)))))), jss_nil (jss_cons (js_set 2 hnd (je_callTyL c_listT h.n_list (ja_cons (je_bw 1 rfl (ja_nil (⟨_, _, rfl, rfl, fun t5 =>
      ⟨[.mp 0 (.lst a1.2), .bw v_1, .mu (.lst t5), .un, .un], rfl, rfl, rfl,
      jss_cons (js_set 3 hnd (je_call (ok_l_ball h) (hr.mono (by omega)) hL (ja_cons (je_bo 0 rfl (.inr ⟨_, _, rfl⟩) (ja_cons (je_bin op_addD (je_callB c_len h.n_len (ja_cons (je_bo 2 rfl (.inl ⟨_, rfl⟩) (ja_nil (⟨_, _, rfl, rfl, fun t6 _ =>
      je_int (⟨_, _, _, rfl, rfl, rfl, fun t7 _ =>
      ja_nil (⟨_, [0], _, fun a8 => [.mp 0 (.lst a8.2), .bw v_1, .mu (.lst t5), .un, .un], rfl, rfl, nd1, rfl, fun _ => rfl, fun a8 _ =>
      ⟨[.mp 0 (.lst a8.2), .bw v_1, .mu (.lst t5), .fr a8.1, .un], rfl, rfl, rfl,
      jss_cons (js_set 4 hnd (je_call (ok_l_ball h) (hr.mono (by omega)) hL (ja_cons (je_bo 0 rfl (.inr ⟨_, _, rfl⟩) (ja_cons (je_int (ja_nil (⟨_, [0], _, fun a9 => [.mp 0 (.lst a9.2), .bw v_1, .mu (.lst t5), .fr a8.1, .un], rfl, rfl, nd1, rfl, fun _ => rfl, fun a9 _ =>
      ⟨[.mp 0 (.lst a9.2), .bw v_1, .mu (.lst t5), .fr a8.1, .fr a9.1], rfl, rfl, rfl,
      jss_cons (js_joinS (fun (s10 : List D × List D) => [.mp 0 (.lst s10.1), .bw v_1, .mu (.lst s10.2), .fr a8.1, .fr a9.1]) (js_if (jt_join (fun (a15 : Bool) => a15) (fun a15 => [.mp 0 (.lst a9.2), .bw v_1, .mu (.lst t5), .fr a8.1, .fr a9.1]) (jt_w (jw_and (jt_cmp cmp_ltD rfl (je_fr 3 rfl (je_callB c_len h.n_len (ja_cons (je_bo 2 rfl (.inl ⟨_, rfl⟩) (ja_nil (⟨_, _, rfl, rfl, fun t16 _ =>
      ⟨_, _, _, rfl, rfl, rfl, fun b17 =>
      ⟨_, _, rfl, jw_and1 (jt_cmp cmp_gtD rfl (je_fr 4 rfl (je_int (⟨_, _, _, rfl, rfl, rfl, fun b18 =>
      ⟨_, rfl, rfl, rfl⟩⟩)))), ⟨_, rfl, rfl, rfl⟩⟩⟩⟩))))))))) (fun a15 =>
      ⟨_, _, rfl, jss_one (js_setL 2 (je_call (ih) (hr.mono (by omega)) hL (ja_cons (je_bo 0 rfl (.inr ⟨_, _, rfl⟩) (ja_cons (je_ix ix_D (fun _ _ => rfl) (je_bo 2 rfl (.inl ⟨_, rfl⟩) (je_fr 3 rfl (⟨_, _, _, rfl, rfl, rfl, fun t19 _ =>
      ja_nil (⟨_, [0], _, fun a20 => [.mp 0 (.lst a20.2), .bw v_1, .mu (.lst t5), .fr a8.1, .fr a9.1], rfl, rfl, nd1, rfl, fun _ => rfl, fun a20 _ =>
      ⟨_, _, rfl, rfl, rfl, je_fr 3 rfl (⟨_, _, _, _, fun r21 => [.mp 0 (.lst a20.2), .bw v_1, .mu (.lst r21), .fr a8.1, .fr a9.1], rfl, rfl, rfl, rfl, rfl, fun _ => rfl, fun r21 =>
      ⟨_, rfl, (le_s (le_s (le_s (le_s (le_s (le_n))))))⟩⟩)⟩⟩)⟩))))))))), jss_one (js_joinS (fun (s22 : List D × List D) => [.mp 0 (.lst s22.1), .bw v_1, .mu (.lst s22.2), .fr a8.1, .fr a9.1]) (js_if (jt_cmp (cmp_eqD hr.hu) rfl (je_fr 4 rfl (je_int (⟨_, _, _, rfl, rfl, rfl, fun b23 =>
      ⟨_, _, rfl, jss_one (js_set 2 hnd (je_catL (je_cut (je_bo 2 rfl (.inl ⟨_, rfl⟩) (jo_none (jo_some (je_fr 3 rfl (⟨_, _, rfl, rfl, fun i24 =>
      ⟨_, _, rfl, rfl, fun t25 =>
      je_cut (je_bo 2 rfl (.inl ⟨_, rfl⟩) (jo_some (je_bin op_addD (je_fr 3 rfl (je_int (⟨_, _, _, rfl, rfl, rfl, fun t26 _ =>
      ⟨_, _, rfl, rfl, fun i27 =>
      jo_none (⟨_, _, rfl, rfl, fun t28 =>
      ⟨_, _, _, rfl, rfl, rfl, fun t29 =>
      ⟨[.mp 0 (.lst a9.2), .bw v_1, .mu (.lst t29), .fr a8.1, .fr a9.1], rfl, rfl, rfl,
      ⟨_, rfl, (le_s (le_s (le_s (le_s (le_s (le_n))))))⟩⟩⟩⟩)⟩⟩))))))⟩⟩)))))))), jss_one (js_joinS (fun (s30 : List D × List D) => [.mp 0 (.lst s30.1), .bw v_1, .mu (.lst s30.2), .fr a8.1, .fr a9.1]) (js_if (jt_cmp (cmp_eqD hr.hu) rfl (je_fr 4 rfl (je_int (⟨_, _, _, rfl, rfl, rfl, fun b31 =>
      ⟨_, _, rfl, jss_one (js_set 2 hnd (je_catL (je_cut (je_bo 2 rfl (.inl ⟨_, rfl⟩) (jo_none (jo_some (je_bin op_addD (je_fr 3 rfl (je_int (⟨_, _, _, rfl, rfl, rfl, fun t32 _ =>
      ⟨_, _, rfl, rfl, fun i33 =>
      ⟨_, _, rfl, rfl, fun t34 =>
      je_cut (je_bo 2 rfl (.inl ⟨_, rfl⟩) (jo_some (je_fr 3 rfl (⟨_, _, rfl, rfl, fun i35 =>
      jo_none (⟨_, _, rfl, rfl, fun t36 =>
      ⟨_, _, _, rfl, rfl, rfl, fun t37 =>
      ⟨[.mp 0 (.lst a9.2), .bw v_1, .mu (.lst t37), .fr a8.1, .fr a9.1], rfl, rfl, rfl,
      ⟨_, rfl, (le_s (le_s (le_s (le_s (le_s (le_n))))))⟩⟩⟩⟩)⟩))))⟩⟩⟩)))))))))), jss_one (js_set 2 hnd (je_catL (je_bin op_addD (je_cut (je_bo 2 rfl (.inl ⟨_, rfl⟩) (jo_none (jo_some (je_fr 3 rfl (⟨_, _, rfl, rfl, fun i38 =>
      ⟨_, _, rfl, rfl, fun t39 =>
      je_lst (ja_cons (je_call (ok_l_odd h) (hr.mono (by omega)) hL (ja_cons (je_bo 0 rfl (.inr ⟨_, _, rfl⟩) (ja_nil (⟨_, [0], _, fun a40 => [.mp 0 (.lst a40.2), .bw v_1, .mu (.lst t5), .fr a8.1, .fr a9.1], rfl, rfl, nd1, rfl, fun _ => rfl, fun a40 _ =>
      ja_nil (⟨_, rfl, rfl, ⟨_, _, _, rfl, rfl, rfl, fun t41 _ =>
      je_cut (je_bo 2 rfl (.inl ⟨_, rfl⟩) (jo_some (je_fr 3 rfl (⟨_, _, rfl, rfl, fun i42 =>
      jo_none (⟨_, _, rfl, rfl, fun t43 =>
      ⟨_, _, _, rfl, rfl, rfl, fun t44 =>
      ⟨[.mp 0 (.lst a40.2), .bw v_1, .mu (.lst t44), .fr a8.1, .fr a9.1], rfl, rfl, rfl,
      ⟨_, rfl, (le_s (le_s (le_s (le_s (le_s (le_n))))))⟩⟩⟩⟩)⟩))))⟩⟩)⟩))))))⟩⟩)))))))))⟩⟩))))) (fun s30 =>
      ⟨_, rfl, (le_s (le_s (le_s (le_s (le_s (le_n))))))⟩))⟩⟩))))) (fun s22 =>
      ⟨_, rfl, (le_s (le_s (le_s (le_s (le_s (le_n))))))⟩))⟩))) (fun s10 =>
      jss_one (js_ret (je_if (jt_cmp (cmp_eqD hr.hu) rfl (je_isi kit_tup h.n_isinstance h.n_tuple (je_bw 1 rfl (⟨_, rfl, je_cmpB cmp_gtD rfl (je_call (ok_l_ball h) (hr.mono (by omega)) hL (ja_cons (je_bo 0 rfl (.inr ⟨_, _, rfl⟩) (ja_cons (je_int (ja_nil (⟨_, [0], _, fun a11 => [.mp 0 (.lst a11.2), .bw v_1, .mu (.lst s10.2), .fr a8.1, .fr a9.1], rfl, rfl, nd1, rfl, fun _ => rfl, fun a11 _ =>
      je_int (⟨_, _, _, rfl, rfl, rfl, fun b12 =>
      ⟨_, _, _, rfl, rfl, rfl, fun b13 =>
      ⟨_, _, rfl, je_callTy c_tuple h.n_tuple (ja_cons (je_bo 2 rfl (.inl ⟨_, rfl⟩) (ja_nil (⟨_, _, rfl, rfl, fun t14 _ =>
      ⟨_, rfl, rfl, (oa_c 0 rfl oa_n)⟩⟩)))), je_fzv' 2 [.mp 0 (.lst a11.2), .bw v_1, .fr (D.lst s10.2), .fr a8.1, .fr a9.1] rfl rfl (⟨_, rfl, rfl, (oa_c 0 rfl oa_n)⟩)⟩⟩⟩)⟩)))))))⟩))))))))⟩⟩))))))))⟩⟩)⟩)⟩)))))))))))⟩⟩)))))))⟩))))

def d_l_tupled : Nat → List D → Res (D)
  | 0, _ => .bad
  | n_ + 1, [v_0] =>
      op (asL v_0) fun ds1 =>
      (lcF ds1 (() : Unit) [] fun d3 s2 =>
      ((op (ixD d3 (D.int 0)) fun t5 =>
      op (eqD t5 (D.str "again")) fun b6 =>
      if b6 = true then (op (ixD d3 (D.int 0)) fun t7 =>
      op (ixD d3 (D.int 1)) fun t8 =>
      op (ixD d3 (D.int 2)) fun t9 =>
      (d_l_tupled n_ [t9]).bind fun a10 =>
      .ok (D.tup [t7, t8, a10])) else (.ok d3) : Res (D))).bind fun a4 =>
      .ok (some a4, ())).bind fun q11 =>
      op (tupleD [(D.lst q11.1)]) fun t12 =>
      .ok t12
  | _ + 1, _ => .bad
abbrev n_l_tupled : List Str := ["_law_long_here", "_law_item"]
theorem sc_l_tupled : FnScope n_l_tupled ["_law_long_here"] (defScope (topS 40)) := ⟨rfl, rfl, rfl, by decide +kernel, rfl, by decide +kernel, by decide +kernel⟩
theorem ok_l_tupled (h : Txt K mg) : ∀ n : Nat, Df P w K mg base (1 + n) "_law_tupled" [.b] (d_l_tupled n) (fun a => a) (fun a => []) false
  | 0 => by
    obtain ⟨fa, fd, F, B, M⟩ := h.f_l_tupled
    refine ⟨fa, fd, _, fn_D (k := 0) F sc_l_tupled rfl 0 (fun _ => rfl) rfl (fun X en cdv A outer s H E ds hX hr hn hL hp hl => ?_), M, F.kp, B⟩
    exact jss_never
  | n_ + 1 => by
    have ih := ok_l_tupled h n_
    obtain ⟨fa, fd, F, B, M⟩ := h.f_l_tupled
    refine ⟨fa, fd, _, fn_D (k := 1 + n_) F sc_l_tupled rfl 0 (fun _ => rfl) rfl (fun X en cdv A outer s H E ds hX hr hn hL hp hl => ?_), M, F.kp, B⟩
    have hnd := (sc_l_tupled).nd
    subst hX
    obtain ⟨v_0, rfl⟩ := len1 hl
    unfold d_l_tupled
    exact (jss_one (js_ret (je_callTy c_tuple h.n_tuple (ja_cons (je_lc [("_law_item", 1)] rfl hnd (ji_any (je_bw 0 rfl (⟨_, _, rfl, rfl, fun ds1 =>
      ⟨_, _, _, (fun s2 => [.bw v_0, .un]), (fun s2 => [.bw v_0, .un]), rfl, (le_s (le_s (le_n))), rfl, fun _ he d3 s2 _ _ _ _ _ _ => ⟨[1], (fun _ h => h), jg_name 1 [.bw v_0, .fr d3] hnd (fun _ _ _ _ _ => je_join (fun (a4 : D) => .fr a4) (fun a4 => [.bw v_0, .fr d3]) (je_if (jt_cmp (cmp_eqD hr.hu) rfl (je_ix ix_D (fun _ _ => rfl) (je_fr 1 rfl (je_int (⟨_, _, _, rfl, rfl, rfl, fun t5 _ =>
      je_str (⟨_, _, _, rfl, rfl, rfl, fun b6 =>
      ⟨_, _, rfl, je_tup (ja_cons (je_ix ix_D (fun _ _ => rfl) (je_fr 1 rfl (je_int (⟨_, _, _, rfl, rfl, rfl, fun t7 _ =>
      ja_cons (je_ix ix_D (fun _ _ => rfl) (je_fr 1 rfl (je_int (⟨_, _, _, rfl, rfl, rfl, fun t8 _ =>
      ja_cons (je_call (ih) (hr.mono (by omega)) he.lk (ja_cons (je_ix ix_D (fun _ _ => rfl) (je_fr 1 rfl (je_int (⟨_, _, _, rfl, rfl, rfl, fun t9 _ =>
      ja_nil (⟨_, [], _, fun a10 => [.bw v_0, .fr d3], rfl, rfl, List.nodup_nil, rfl, fun _ => rfl, fun a10 _ =>
      ja_nil (⟨_, rfl, rfl, ⟨_, rfl, rfl, rfl⟩⟩)⟩)⟩))))))⟩))))⟩))))), je_fr 1 rfl (⟨_, rfl, rfl, rfl⟩)⟩⟩)⟩)))))) (fun a4 =>
      ⟨_, _, rfl, rfl, (le_s (le_s (le_n))), rfl⟩))⟩, fun _ => rfl, fun q11 =>
      ja_nil (⟨_, _, rfl, rfl, fun t12 _ =>
      ⟨_, rfl, rfl, oa_n⟩⟩)⟩⟩))) (ok := by (refine blkOk_by ?_; first | (dsimp only [cxOf, envOfC, Cx.blk]; decide +kernel) | exact Eq.refl true)))))))

def d_t_is_number : List D → Res (D)
  | [v_0] =>
      ((op (asB (D.bl (isInt v_0))) fun b2 => if b2 = true then (op (asB (D.bl (isBool v_0))) fun b3 =>
      op (asB (D.bl (!b3))) fun b4 => if b4 = true then (op (geD v_0 (D.int 0)) fun b5 =>
      .ok (D.bl b5)) else (.ok (D.bl false))) else (.ok (D.bl false)) : Res (D))).bind fun a1 =>
      .ok a1  | _ => .bad
abbrev n_t_is_number : List Str := ["thing"]
theorem sc_t_is_number : FnScope n_t_is_number ["thing"] (defScope (topS 15)) := ⟨rfl, rfl, rfl, by decide +kernel, rfl, by decide +kernel, by decide +kernel⟩
theorem ok_t_is_number (h : Txt K mg) : Df P w K mg base 1 "is_number" [.b] d_t_is_number (fun a => a) (fun a => []) false := by
  obtain ⟨fa, fd, F, B, M⟩ := h.f_t_is_number
  refine ⟨fa, fd, _, fn_D (k := 0) F sc_t_is_number rfl 0 (fun _ => rfl) rfl (fun X en cdv A outer s H E ds hX hr hn hL hp hl => ?_), M, F.kp, B⟩
  have hnd := (sc_t_is_number).nd
  subst hX
  obtain ⟨v_0, rfl⟩ := len1 hl
  unfold d_t_is_number
  exact (jss_one (js_ret (je_join (fun (a1 : D) => .fr a1) (fun a1 => [.bw v_0]) (je_and (je_isi kit_int h.n_isinstance h.n_int (je_bw 0 rfl (⟨_, rfl, ⟨_, _, rfl, rfl, fun b2 => ⟨_, _, rfl, je_and (je_not (je_isi kit_bool h.n_isinstance h.n_bool (je_bw 0 rfl (⟨_, rfl, ⟨_, _, rfl, rfl, fun b3 =>
      ⟨_, _, rfl, rfl, fun b4 => ⟨_, _, rfl, je_one (je_cmpB cmp_geD rfl (je_bw 0 rfl (je_int (⟨_, _, _, rfl, rfl, rfl, fun b5 =>
      ⟨_, rfl, rfl, rfl⟩⟩)))), ⟨_, rfl, rfl, rfl⟩⟩⟩⟩⟩)))), ⟨_, rfl, rfl, rfl⟩⟩⟩⟩)))) (fun a1 =>
      ⟨_, rfl, rfl, oa_n⟩))))

def d_t_is_saying : List D → Res (D)
  | [v_0] =>
      ((if (!(isTup v_0)) = true then (.ok true) else (op (lenD [v_0]) fun t2 =>
      op (neD t2 (D.int 2)) fun b3 =>
      if b3 = true then (.ok true) else (op (ixD v_0 (D.int 0)) fun t4 =>
      (d_t_is_number [t4]).bind fun a5 =>
      op (truD a5) fun b6 =>
      .ok (!b6))) : Res (Bool))).bind fun a1 =>
      if a1 = true then (.ok (D.bl false)) else (((op (ixD v_0 (D.int 1)) fun t8 =>
      op (isND t8 D.non) fun b9 =>
      op (asB (D.bl b9)) fun b10 => if b10 = true then (.ok (D.bl true)) else (((op (ixD v_0 (D.int 1)) fun t12 =>
      (d_t_is_number [t12]).bind fun a13 =>
      op (asB a13) fun b14 => if b14 = true then (op (ixD v_0 (D.int 1)) fun t15 =>
      op (ixD v_0 (D.int 0)) fun t16 =>
      op (geD t15 t16) fun b17 =>
      .ok (D.bl b17)) else (.ok (D.bl false)) : Res (D))).bind fun a11 =>
      .ok a11) : Res (D))).bind fun a7 =>
      .ok a7)  | _ => .bad
abbrev n_t_is_saying : List Str := ["thing"]
theorem sc_t_is_saying : FnScope n_t_is_saying ["thing"] (defScope (topS 16)) := ⟨rfl, rfl, rfl, by decide +kernel, rfl, by decide +kernel, by decide +kernel⟩
theorem ok_t_is_saying (h : Txt K mg) : Df P w K mg base 2 "is_saying" [.b] d_t_is_saying (fun a => a) (fun a => []) false := by
  obtain ⟨fa, fd, F, B, M⟩ := h.f_t_is_saying
  refine ⟨fa, fd, _, fn_D (k := 1) F sc_t_is_saying rfl 0 (fun _ => rfl) rfl (fun X en cdv A outer s H E ds hX hr hn hL hp hl => ?_), M, F.kp, B⟩
  have hnd := (sc_t_is_saying).nd
  subst hX
  obtain ⟨v_0, rfl⟩ := len1 hl
  unfold d_t_is_saying
  exact (jss_cons (js_if (jt_join (fun (a1 : Bool) => a1) (fun a1 => [.bw v_0]) (jt_w (jw_or (jt_not (jt_bl (je_isi kit_tup h.n_isinstance h.n_tuple (je_bw 0 rfl (⟨_, rfl, ⟨_, rfl, ⟨_, _, rfl, ⟨_, rfl, rfl, rfl⟩, jw_or (jt_cmp (cmp_neD hr.hu) rfl (je_callB c_len h.n_len (ja_cons (je_bw 0 rfl (ja_nil (⟨_, _, rfl, rfl, fun t2 _ =>
      je_int (⟨_, _, _, rfl, rfl, rfl, fun b3 =>
      ⟨_, _, rfl, ⟨_, rfl, rfl, rfl⟩, jw_or1 (jt_not (jt_tru (je_call (ok_t_is_number h) (hr.mono (by decide)) hL (ja_cons (je_ix ix_D (fun _ _ => rfl) (je_bw 0 rfl (je_int (⟨_, _, _, rfl, rfl, rfl, fun t4 _ =>
      ja_nil (⟨_, [], _, fun a5 => [.bw v_0], rfl, rfl, List.nodup_nil, rfl, fun _ => rfl, fun a5 _ =>
      ⟨_, _, rfl, rfl, fun b6 =>
      ⟨_, rfl, rfl, rfl⟩⟩⟩)⟩))))))))⟩⟩)⟩))))))⟩⟩⟩))))))) (fun a1 =>
      ⟨_, _, rfl, jss_one (js_ret (je_bl (⟨_, rfl, rfl, oa_n⟩))), jss_nil (jss_one (js_ret (je_join (fun (a7 : D) => .fr a7) (fun a7 => [.bw v_0]) (je_or (je_cmpB cmp_isN rfl (je_ix ix_D (fun _ _ => rfl) (je_bw 0 rfl (je_int (⟨_, _, _, rfl, rfl, rfl, fun t8 _ =>
      je_non (⟨_, _, _, rfl, rfl, rfl, fun b9 =>
      ⟨_, _, rfl, rfl, fun b10 => ⟨_, _, rfl, ⟨_, rfl, rfl, rfl⟩, je_one (je_join (fun (a11 : D) => .fr a11) (fun a11 => [.bw v_0]) (je_and (je_call (ok_t_is_number h) (hr.mono (by decide)) hL (ja_cons (je_ix ix_D (fun _ _ => rfl) (je_bw 0 rfl (je_int (⟨_, _, _, rfl, rfl, rfl, fun t12 _ =>
      ja_nil (⟨_, [], _, fun a13 => [.bw v_0], rfl, rfl, List.nodup_nil, rfl, fun _ => rfl, fun a13 _ =>
      ⟨_, _, rfl, rfl, fun b14 => ⟨_, _, rfl, je_one (je_cmpB cmp_geD rfl (je_ix ix_D (fun _ _ => rfl) (je_bw 0 rfl (je_int (⟨_, _, _, rfl, rfl, rfl, fun t15 _ =>
      je_ix ix_D (fun _ _ => rfl) (je_bw 0 rfl (je_int (⟨_, _, _, rfl, rfl, rfl, fun t16 _ =>
      ⟨_, _, _, rfl, rfl, rfl, fun b17 =>
      ⟨_, rfl, rfl, rfl⟩⟩⟩)))⟩))))), ⟨_, rfl, rfl, rfl⟩⟩⟩⟩)⟩))))))) (fun a11 =>
      ⟨_, rfl, rfl, rfl⟩))⟩⟩⟩)⟩)))))) (fun a7 =>
      ⟨_, rfl, rfl, oa_n⟩))))⟩))))

def d_t_people_said (d_rec_ : List D → Res (D)) : List D → Res (D)
  | [v_0] =>
      ((if (!(isTup v_0)) = true then (.ok true) else (op (lenD [v_0]) fun t2 =>
      op (neD t2 (D.int 3)) fun b3 =>
      if b3 = true then (.ok true) else (op (ixD v_0 (D.int 0)) fun t4 =>
      if (!(isStr t4)) = true then (.ok true) else (op (ixD v_0 (D.int 0)) fun t5 =>
      op (neD t5 (D.str "again")) fun b6 =>
      .ok b6))) : Res (Bool))).bind fun a1 =>
      if a1 = true then (.ok D.non) else (op (ixD v_0 (D.int 2)) fun t7 =>
      (d_rec_ [t7]).bind fun a8 =>
      ((((op (ixD v_0 (D.int 1)) fun t11 =>
      (d_t_is_number [t11]).bind fun a12 =>
      op (truD a12) fun b13 =>
      if b13 = true then (op (notND a8 D.non) fun b14 =>
      .ok b14) else (.ok false) : Res (Bool))).bind fun a10 =>
      if a10 = true then (op (ixD v_0 (D.int 1)) fun t15 =>
      op (mulD t15 a8) fun t16 =>
      .ok t16) else (.ok D.non) : Res (D))).bind fun a9 =>
      .ok a9)  | _ => .bad
abbrev n_t_people_said : List Str := ["item", "inner"]
theorem sc_t_people_said : FnScope n_t_people_said ["item"] (defScope (topS 21)) := ⟨rfl, rfl, rfl, by decide +kernel, rfl, by decide +kernel, by decide +kernel⟩
theorem ok_t_people_said (h : Txt K mg) (n_ : Nat) (d_rec_ : List D → Res (D)) (ih : Df P w K mg base (4 + 2 * n_) "people_of" [.b] d_rec_ (fun a => a) (fun a => []) false) : Df P w K mg base (4 + 2 * n_ + 1) "people_said" [.b] (d_t_people_said d_rec_) (fun a => a) (fun a => []) false := by
  obtain ⟨fa, fd, F, B, M⟩ := h.f_t_people_said
  refine ⟨fa, fd, _, fn_D (k := 4 + 2 * n_) F sc_t_people_said rfl 0 (fun _ => rfl) rfl (fun X en cdv A outer s H E ds hX hr hn hL hp hl => ?_), M, F.kp, B⟩
  have hnd := (sc_t_people_said).nd
  subst hX
  obtain ⟨v_0, rfl⟩ := len1 hl
  unfold d_t_people_said
  exact (jss_cons (js_if (jt_join (fun (a1 : Bool) => a1) (fun a1 => [.bw v_0, .un]) (jt_w (jw_or (jt_not (jt_bl (je_isi kit_tup h.n_isinstance h.n_tuple (je_bw 0 rfl (⟨_, rfl, ⟨_, rfl, ⟨_, _, rfl, ⟨_, rfl, rfl, rfl⟩, jw_or (jt_cmp (cmp_neD hr.hu) rfl (je_callB c_len h.n_len (ja_cons (je_bw 0 rfl (ja_nil (⟨_, _, rfl, rfl, fun t2 _ =>
      je_int (⟨_, _, _, rfl, rfl, rfl, fun b3 =>
      ⟨_, _, rfl, ⟨_, rfl, rfl, rfl⟩, jw_or (jt_not (jt_bl (je_isi kit_str h.n_isinstance h.n_str (je_ix ix_D (fun _ _ => rfl) (je_bw 0 rfl (je_int (⟨_, _, _, rfl, rfl, rfl, fun t4 _ =>
      ⟨_, rfl, ⟨_, rfl, ⟨_, _, rfl, ⟨_, rfl, rfl, rfl⟩, jw_or1 (jt_cmp (cmp_neD hr.hu) rfl (je_ix ix_D (fun _ _ => rfl) (je_bw 0 rfl (je_int (⟨_, _, _, rfl, rfl, rfl, fun t5 _ =>
      je_gs h.g_AGAIN (⟨_, _, _, rfl, rfl, rfl, fun b6 =>
      ⟨_, rfl, rfl, rfl⟩⟩)⟩)))))⟩⟩⟩⟩)))))))⟩⟩)⟩))))))⟩⟩⟩))))))) (fun a1 =>
      ⟨_, _, rfl, jss_one (js_ret (je_non (⟨_, rfl, rfl, oa_n⟩))), jss_nil (jss_cons (js_set 1 hnd (je_call (ih) (hr.mono (by omega)) hL (ja_cons (je_ix ix_D (fun _ _ => rfl) (je_bw 0 rfl (je_int (⟨_, _, _, rfl, rfl, rfl, fun t7 _ =>
      ja_nil (⟨_, [], _, fun a8 => [.bw v_0, .un], rfl, rfl, List.nodup_nil, rfl, fun _ => rfl, fun a8 _ =>
      ⟨[.bw v_0, .fr a8], rfl, rfl, rfl,
      jss_one (js_ret (je_join (fun (a9 : D) => .fr a9) (fun a9 => [.bw v_0, .fr a8]) (je_if (jt_join (fun (a10 : Bool) => a10) (fun a10 => [.bw v_0, .fr a8]) (jt_w (jw_and (jt_tru (je_call (ok_t_is_number h) (hr.mono (by omega)) hL (ja_cons (je_ix ix_D (fun _ _ => rfl) (je_bw 0 rfl (je_int (⟨_, _, _, rfl, rfl, rfl, fun t11 _ =>
      ja_nil (⟨_, [], _, fun a12 => [.bw v_0, .fr a8], rfl, rfl, List.nodup_nil, rfl, fun _ => rfl, fun a12 _ =>
      ⟨_, _, rfl, rfl, fun b13 =>
      ⟨_, _, rfl, jw_and1 (jt_cmp cmp_notN rfl (je_fr 1 rfl (je_non (⟨_, _, _, rfl, rfl, rfl, fun b14 =>
      ⟨_, rfl, rfl, rfl⟩⟩)))), ⟨_, rfl, rfl, rfl⟩⟩⟩⟩)⟩))))))))) (fun a10 =>
      ⟨_, _, rfl, je_bin op_mulD (je_ix ix_D (fun _ _ => rfl) (je_bw 0 rfl (je_int (⟨_, _, _, rfl, rfl, rfl, fun t15 _ =>
      je_fr 1 rfl (⟨_, _, _, rfl, rfl, rfl, fun t16 _ =>
      ⟨_, rfl, rfl, rfl⟩⟩)⟩)))), je_non (⟨_, rfl, rfl, rfl⟩)⟩))) (fun a9 =>
      ⟨_, rfl, rfl, oa_n⟩)))⟩⟩)⟩))))))))⟩))))

def d_t_people_of : Nat → List D → Res (D)
  | 0, _ => .bad
  | n_ + 1, [v_0] =>
      if (!(isLst v_0 || isTup v_0)) = true then (.ok D.non) else (op (asL v_0) fun ds1 =>
      fbind (forF ds1 ((D.int 0) : D) fun d4 s3 =>
      (((d_t_is_saying [d4]).bind fun a6 =>
      op (truD a6) fun b7 =>
      if b7 = true then (.ok (D.int 1)) else ((d_t_people_said (d_t_people_of n_) [d4]).bind fun a8 =>
      .ok a8) : Res (D))).bind fun a5 =>
      op (isND a5 D.non) fun b9 =>
      if b9 = true then (.ok (.rt (D.non))) else (op (iaddD s3 a5) fun t10 =>
      .ok (.nx t10))) fun s11 =>
      .ok s11)
  | _ + 1, _ => .bad
abbrev n_t_people_of : List Str := ["thing", "found", "item", "many"]
theorem sc_t_people_of : FnScope n_t_people_of ["thing"] (defScope (topS 22)) := ⟨rfl, rfl, rfl, by decide +kernel, rfl, by decide +kernel, by decide +kernel⟩
theorem ok_t_people_of (h : Txt K mg) : ∀ n : Nat, Df P w K mg base (4 + 2 * n) "people_of" [.b] (d_t_people_of n) (fun a => a) (fun a => []) false
  | 0 => by
    obtain ⟨fa, fd, F, B, M⟩ := h.f_t_people_of
    refine ⟨fa, fd, _, fn_D (k := 3) F sc_t_people_of rfl 0 (fun _ => rfl) rfl (fun X en cdv A outer s H E ds hX hr hn hL hp hl => ?_), M, F.kp, B⟩
    exact jss_never
  | n_ + 1 => by
    have ih := ok_t_people_of h n_
    obtain ⟨fa, fd, F, B, M⟩ := h.f_t_people_of
    refine ⟨fa, fd, _, fn_D (k := 4 + 2 * n_ + 1) F sc_t_people_of rfl 0 (fun _ => rfl) rfl (fun X en cdv A outer s H E ds hX hr hn hL hp hl => ?_), M, F.kp, B⟩
    have hnd := (sc_t_people_of).nd
    subst hX
    obtain ⟨v_0, rfl⟩ := len1 hl
    unfold d_t_people_of
    exact (jss_cons (js_if (jt_not (jt_bl (je_isi2 kit_lst kit_tup h.n_isinstance h.n_list h.n_tuple (je_bw 0 rfl (⟨_, rfl, ⟨_, rfl, ⟨_, _, rfl, jss_one (js_ret (je_non (⟨_, rfl, rfl, oa_n⟩))), jss_nil (jss_cons (js_set 1 hnd (je_int (⟨[.bw v_0, .fr (D.int 0), .un, .un], rfl, rfl, rfl,
      jss_cons (js_for hp rfl (ji_any (je_bw 0 rfl (⟨_, _, rfl, rfl, fun ds1 =>
      ⟨_, _, _, (fun (s3 : D) => [.bw v_0, .fr s3, .un, .un]), rfl, (le_s (le_s (le_s (le_s (le_n))))), fun _ he2 d4 s3 => ⟨[2], jg_name 2 [.bw v_0, .fr s3, .fr d4, .un] hnd (jss_cons (js_set 3 hnd (je_join (fun (a5 : D) => .fr a5) (fun a5 => [.bw v_0, .fr s3, .fr d4, .un]) (je_if (jt_tru (je_call (ok_t_is_saying h) (hr.mono (by omega)) (he2.lk hL) (ja_cons (je_fr 2 rfl (ja_nil (⟨_, [], _, fun a6 => [.bw v_0, .fr s3, .fr d4, .un], rfl, rfl, List.nodup_nil, rfl, fun _ => rfl, fun a6 _ =>
      ⟨_, _, rfl, rfl, fun b7 =>
      ⟨_, _, rfl, je_int (⟨_, rfl, rfl, rfl⟩), je_call (ok_t_people_said h n_ _ ih) (hr.mono (by omega)) (he2.lk hL) (ja_cons (je_fr 2 rfl (ja_nil (⟨_, [], _, fun a8 => [.bw v_0, .fr s3, .fr d4, .un], rfl, rfl, List.nodup_nil, rfl, fun _ => rfl, fun a8 _ =>
      ⟨_, rfl, rfl, rfl⟩⟩))))⟩⟩⟩))))))) (fun a5 =>
      ⟨[.bw v_0, .fr s3, .fr d4, .fr a5], rfl, rfl, rfl,
      jss_cons (js_if (jt_cmp cmp_isN rfl (je_fr 3 rfl (je_non (⟨_, _, _, rfl, rfl, rfl, fun b9 =>
      ⟨_, _, rfl, jss_one (js_ret (je_non (⟨_, rfl, ⟨_, rfl, rfl, oa_n⟩⟩))), jss_nil (jss_one (js_aug 1 hnd ip_addD rfl (je_fr 3 rfl (⟨_, _, fun t10 => [.bw v_0, .fr t10, .fr d4, .fr a5], rfl, rfl, rfl, fun _ => rfl, fun t10 _ =>
      ⟨_, rfl, (le_s (le_s (le_u (le_u (le_n)))))⟩⟩))))⟩⟩)))))⟩))))⟩, fun s11 =>
      jss_one (js_ret (je_fr 1 rfl (⟨_, rfl, rfl, oa_n⟩)))⟩⟩))))⟩))))⟩⟩⟩)))))))

def d_t_is_long : List D → Res (D)
  | [v_0] =>
      (d_t_people_of 14 [v_0]).bind fun a1 =>
      ((op (notND a1 D.non) fun b3 =>
      op (asB (D.bl b3)) fun b4 => if b4 = true then (op (leD a1 (D.int 999999999999999999999999999999)) fun b5 =>
      .ok (D.bl b5)) else (.ok (D.bl false)) : Res (D))).bind fun a2 =>
      .ok a2  | _ => .bad
abbrev n_t_is_long : List Str := ["thing", "many"]
theorem sc_t_is_long : FnScope n_t_is_long ["thing"] (defScope (topS 23)) := ⟨rfl, rfl, rfl, by decide +kernel, rfl, by decide +kernel, by decide +kernel⟩
theorem ok_t_is_long (h : Txt K mg) : Df P w K mg base 33 "is_long" [.b] d_t_is_long (fun a => a) (fun a => []) false := by
  obtain ⟨fa, fd, F, B, M⟩ := h.f_t_is_long
  refine ⟨fa, fd, _, fn_D (k := 32) F sc_t_is_long rfl 0 (fun _ => rfl) rfl (fun X en cdv A outer s H E ds hX hr hn hL hp hl => ?_), M, F.kp, B⟩
  have hnd := (sc_t_is_long).nd
  subst hX
  obtain ⟨v_0, rfl⟩ := len1 hl
  unfold d_t_is_long
  exact (jss_cons (js_set 1 hnd (je_call (ok_t_people_of h 14) (hr.mono (by decide)) hL (ja_cons (je_bw 0 rfl (ja_nil (⟨_, [], _, fun a1 => [.bw v_0, .un], rfl, rfl, List.nodup_nil, rfl, fun _ => rfl, fun a1 _ =>
      ⟨[.bw v_0, .fr a1], rfl, rfl, rfl,
      jss_one (js_ret (je_join (fun (a2 : D) => .fr a2) (fun a2 => [.bw v_0, .fr a1]) (je_and (je_cmpB cmp_notN rfl (je_fr 1 rfl (je_non (⟨_, _, _, rfl, rfl, rfl, fun b3 =>
      ⟨_, _, rfl, rfl, fun b4 => ⟨_, _, rfl, je_one (je_cmpB cmp_leD rfl (je_fr 1 rfl (je_gi h.g_MOST_PEOPLE (⟨_, _, _, rfl, rfl, rfl, fun b5 =>
      ⟨_, rfl, rfl, rfl⟩⟩)))), ⟨_, rfl, rfl, rfl⟩⟩⟩⟩))))) (fun a2 =>
      ⟨_, rfl, rfl, oa_n⟩)))⟩⟩)))))))

def d_l_laid : Nat → List D → Res (D)
  | 0, _ => .bad
  | n_ + 1, [v_0] =>
      op (asL v_0) fun ds1 =>
      (forS ds1 (([] : List D) : List D) fun d4 s3 =>
      ((op (ixD d4 (D.int 0)) fun t6 =>
      op (neD t6 (D.str "again")) fun b7 =>
      if b7 = true then (op (appL s3 [d4]) fun a8 =>
      .ok a8.2) else ((((d_l_people 14 [(D.lst [d4])]).bind fun a10 =>
      op (gtD a10 (D.int 0)) fun b11 =>
      if b11 = true then (op (ixD d4 (D.int 2)) fun t12 =>
      (d_l_laid n_ [t12]).bind fun a13 =>
      op (ixD d4 (D.int 1)) fun t14 =>
      op (mulX a13 t14) fun t15 =>
      op (catT (D.lst s3) t15) fun t16 =>
      .ok t16) else (.ok s3) : Res (List D))).bind fun s9 =>
      .ok s9) : Res (List D))).bind fun s5 =>
      .ok s5).bind fun s17 =>
      .ok (D.lst s17)
  | _ + 1, _ => .bad
abbrev n_l_laid : List Str := ["_law_long_here", "_law_found", "_law_item"]
theorem sc_l_laid : FnScope n_l_laid ["_law_long_here"] (defScope (topS 34)) := ⟨rfl, rfl, rfl, by decide +kernel, rfl, by decide +kernel, by decide +kernel⟩
theorem ok_l_laid (h : Txt K mg) : ∀ n : Nat, Df P w K mg base (16 + n) "_law_laid" [.b] (d_l_laid n) (fun a => a) (fun a => []) false
  | 0 => by
    obtain ⟨fa, fd, F, B, M⟩ := h.f_l_laid
    refine ⟨fa, fd, _, fn_D (k := 15) F sc_l_laid rfl 0 (fun _ => rfl) rfl (fun X en cdv A outer s H E ds hX hr hn hL hp hl => ?_), M, F.kp, B⟩
    exact jss_never
  | n_ + 1 => by
    have ih := ok_l_laid h n_
    obtain ⟨fa, fd, F, B, M⟩ := h.f_l_laid
    refine ⟨fa, fd, _, fn_D (k := 16 + n_) F sc_l_laid rfl 0 (fun _ => rfl) rfl (fun X en cdv A outer s H E ds hX hr hn hL hp hl => ?_), M, F.kp, B⟩
    have hnd := (sc_l_laid).nd
    subst hX
    obtain ⟨v_0, rfl⟩ := len1 hl
    unfold d_l_laid
    exact (jss_cons (js_set 1 hnd (je_lst (ja_nil (⟨_, rfl, rfl, ⟨[.bw v_0, .mu (.lst ([] : List D)), .un], rfl, rfl, rfl,
      jss_cons (js_forS hp rfl (ji_any (je_bw 0 rfl (⟨_, _, rfl, rfl, fun ds1 =>
      ⟨_, _, _, (fun (s3 : List D) => [.bw v_0, .mu (.lst s3), .un]), rfl, (le_s (le_s (le_s (le_n)))), fun _ he2 d4 s3 => ⟨[2], jg_name 2 [.bw v_0, .mu (.lst s3), .fr d4] hnd (jss_one (js_joinS (fun (s5 : List D) => [.bw v_0, .mu (.lst s5), .fr d4]) (js_if (jt_cmp (cmp_neD hr.hu) rfl (je_ix ix_D (fun _ _ => rfl) (je_fr 2 rfl (je_int (⟨_, _, _, rfl, rfl, rfl, fun t6 _ =>
      je_str (⟨_, _, _, rfl, rfl, rfl, fun b7 =>
      ⟨_, _, rfl, jss_one (js_expr (je_mutL 1 g_app PySem.F.slot_list_append PySem.F.type_list_append m_append rfl rfl rfl (ja_cons (je_fr 2 rfl (ja_nil (⟨_, _, _, _, fun a8 => [.bw v_0, .mu (.lst a8.2), .fr d4], rfl, rfl, rfl, rfl, rfl, fun _ => rfl, fun a8 =>
      ⟨_, rfl, (le_s (le_s (le_s (le_n))))⟩⟩)))))), jss_one (js_joinS (fun (s9 : List D) => [.bw v_0, .mu (.lst s9), .fr d4]) (js_if (jt_cmp cmp_gtD rfl (je_call (ok_l_people h 14) (hr.mono (by omega)) (he2.lk hL) (ja_cons (je_lst (ja_cons (je_fr 2 rfl (ja_nil (⟨_, rfl, rfl, ja_nil (⟨_, [], _, fun a10 => [.bw v_0, .mu (.lst s3), .fr d4], rfl, rfl, List.nodup_nil, rfl, fun _ => rfl, fun a10 _ =>
      je_int (⟨_, _, _, rfl, rfl, rfl, fun b11 =>
      ⟨_, _, rfl, jss_one (js_set 1 hnd (je_catL (je_bo 1 rfl (.inl ⟨_, rfl⟩) (je_bin op_mulX (je_call (ih) (hr.mono (by omega)) (he2.lk hL) (ja_cons (je_ix ix_D (fun _ _ => rfl) (je_fr 2 rfl (je_int (⟨_, _, _, rfl, rfl, rfl, fun t12 _ =>
      ja_nil (⟨_, [], _, fun a13 => [.bw v_0, .mu (.lst s3), .fr d4], rfl, rfl, List.nodup_nil, rfl, fun _ => rfl, fun a13 _ =>
      je_ix ix_D (fun _ _ => rfl) (je_fr 2 rfl (je_int (⟨_, _, _, rfl, rfl, rfl, fun t14 _ =>
      ⟨_, _, _, rfl, rfl, rfl, fun t15 _ =>
      ⟨_, _, _, rfl, rfl, rfl, fun t16 =>
      ⟨[.bw v_0, .mu (.lst t16), .fr d4], rfl, rfl, rfl,
      ⟨_, rfl, (le_s (le_s (le_s (le_n))))⟩⟩⟩⟩⟩)))⟩)⟩)))))))))), jss_nil (⟨_, rfl, (le_s (le_s (le_s (le_n))))⟩)⟩⟩)⟩)⟩))))))))) (fun s9 =>
      ⟨_, rfl, (le_s (le_s (le_s (le_n))))⟩))⟩⟩)⟩)))))) (fun s5 =>
      ⟨_, rfl, (le_s (le_s (le_u (le_n))))⟩)))⟩, fun s17 =>
      jss_one (js_ret (je_fzv' 1 [.bw v_0, .fr (D.lst s17), .un] rfl rfl (⟨_, rfl, rfl, oa_n⟩)))⟩⟩))))⟩⟩)))))

def d_l_is_number : List D → Res (D)
  | [v_0] =>
      ((op (asB (D.bl (isInt v_0))) fun b2 => if b2 = true then (op (asB (D.bl (isBool v_0))) fun b3 =>
      op (asB (D.bl (!b3))) fun b4 => if b4 = true then (op (geD v_0 (D.int 0)) fun b5 =>
      .ok (D.bl b5)) else (.ok (D.bl false))) else (.ok (D.bl false)) : Res (D))).bind fun a1 =>
      .ok a1  | _ => .bad
abbrev n_l_is_number : List Str := ["_law_thing"]
theorem sc_l_is_number : FnScope n_l_is_number ["_law_thing"] (defScope (topS 37)) := ⟨rfl, rfl, rfl, by decide +kernel, rfl, by decide +kernel, by decide +kernel⟩
theorem ok_l_is_number (h : Txt K mg) : Df P w K mg base 1 "_law_is_number" [.b] d_l_is_number (fun a => a) (fun a => []) false := by
  obtain ⟨fa, fd, F, B, M⟩ := h.f_l_is_number
  refine ⟨fa, fd, _, fn_D (k := 0) F sc_l_is_number rfl 0 (fun _ => rfl) rfl (fun X en cdv A outer s H E ds hX hr hn hL hp hl => ?_), M, F.kp, B⟩
  have hnd := (sc_l_is_number).nd
  subst hX
  obtain ⟨v_0, rfl⟩ := len1 hl
  unfold d_l_is_number
  exact (jss_one (js_ret (je_join (fun (a1 : D) => .fr a1) (fun a1 => [.bw v_0]) (je_and (je_isi kit_int h.n_isinstance h.n_int (je_bw 0 rfl (⟨_, rfl, ⟨_, _, rfl, rfl, fun b2 => ⟨_, _, rfl, je_and (je_not (je_isi kit_bool h.n_isinstance h.n_bool (je_bw 0 rfl (⟨_, rfl, ⟨_, _, rfl, rfl, fun b3 =>
      ⟨_, _, rfl, rfl, fun b4 => ⟨_, _, rfl, je_one (je_cmpB cmp_geD rfl (je_bw 0 rfl (je_int (⟨_, _, _, rfl, rfl, rfl, fun b5 =>
      ⟨_, rfl, rfl, rfl⟩⟩)))), ⟨_, rfl, rfl, rfl⟩⟩⟩⟩⟩)))), ⟨_, rfl, rfl, rfl⟩⟩⟩⟩)))) (fun a1 =>
      ⟨_, rfl, rfl, oa_n⟩))))

def d_l_many_in : Nat → List D → Res (D)
  | 0, _ => .bad
  | n_ + 1, [v_0] =>
      if (!(isLst v_0 || isTup v_0)) = true then (.ok D.non) else (op (asL v_0) fun ds1 =>
      fbind (forF ds1 ((D.int 0) : D) fun d4 s3 =>
      ((if (!(isTup d4)) = true then (.ok true) else (op (lenD [d4]) fun t6 =>
      op (notInD t6 (D.tup [(D.int 2), (D.int 3)])) fun b7 =>
      .ok b7) : Res (Bool))).bind fun a5 =>
      if a5 = true then (.ok (.rt (D.non))) else (fbind (op (lenD [d4]) fun t9 =>
      op (eqD t9 (D.int 2)) fun b10 =>
      if b10 = true then (((op (ixD d4 (D.int 0)) fun t12 =>
      (d_l_is_number [t12]).bind fun a13 =>
      op (truD a13) fun b14 =>
      if (!b14) = true then (.ok true) else (((op (ixD d4 (D.int 1)) fun t16 =>
      op (notND t16 D.non) fun b17 =>
      if b17 = true then (op (ixD d4 (D.int 1)) fun t18 =>
      (d_l_is_number [t18]).bind fun a19 =>
      op (truD a19) fun b20 =>
      .ok (!b20)) else (.ok false) : Res (Bool))).bind fun a15 =>
      .ok a15) : Res (Bool))).bind fun a11 =>
      if a11 = true then (.ok (.ex ((.rt (D.non))))) else (((op (ixD d4 (D.int 1)) fun t22 =>
      op (notND t22 D.non) fun b23 =>
      if b23 = true then (op (ixD d4 (D.int 1)) fun t24 =>
      op (ixD d4 (D.int 0)) fun t25 =>
      op (ltD t24 t25) fun b26 =>
      .ok b26) else (.ok false) : Res (Bool))).bind fun a21 =>
      if a21 = true then (.ok (.ex ((.rt (D.non))))) else (op (addD s3 (D.int 1)) fun t27 =>
      .ok (.nx t27)))) else (op (ixD d4 (D.int 2)) fun t28 =>
      (d_l_many_in n_ [t28]).bind fun a29 =>
      ((op (ixD d4 (D.int 0)) fun t31 =>
      if (!(isStr t31)) = true then (.ok true) else (op (ixD d4 (D.int 0)) fun t32 =>
      op (neD t32 (D.str "again")) fun b33 =>
      if b33 = true then (.ok true) else (op (ixD d4 (D.int 1)) fun t34 =>
      (d_l_is_number [t34]).bind fun a35 =>
      op (truD a35) fun b36 =>
      if (!b36) = true then (.ok true) else (op (isND a29 D.non) fun b37 =>
      .ok b37))) : Res (Bool))).bind fun a30 =>
      if a30 = true then (.ok (.ex ((.rt (D.non))))) else (op (ixD d4 (D.int 1)) fun t38 =>
      op (mulD t38 a29) fun t39 =>
      op (addD s3 t39) fun t40 =>
      .ok (.nx t40))) : Res (Flow (D) _)) fun s8 =>
      .ok (.nx s8))) fun s41 =>
      .ok s41)
  | _ + 1, _ => .bad
abbrev n_l_many_in : List Str := ["_law_thing", "_law_found", "_law_item", "_law_inner"]
theorem sc_l_many_in : FnScope n_l_many_in ["_law_thing"] (defScope (topS 38)) := ⟨rfl, rfl, rfl, by decide +kernel, rfl, by decide +kernel, by decide +kernel⟩
theorem ok_l_many_in (h : Txt K mg) : ∀ n : Nat, Df P w K mg base (2 + n) "_law_many_in" [.b] (d_l_many_in n) (fun a => a) (fun a => []) false
  | 0 => by
    obtain ⟨fa, fd, F, B, M⟩ := h.f_l_many_in
    refine ⟨fa, fd, _, fn_D (k := 1) F sc_l_many_in rfl 0 (fun _ => rfl) rfl (fun X en cdv A outer s H E ds hX hr hn hL hp hl => ?_), M, F.kp, B⟩
    exact jss_never
  | n_ + 1 => by
    have ih := ok_l_many_in h n_
    obtain ⟨fa, fd, F, B, M⟩ := h.f_l_many_in
    refine ⟨fa, fd, _, fn_D (k := 2 + n_) F sc_l_many_in rfl 0 (fun _ => rfl) rfl (fun X en cdv A outer s H E ds hX hr hn hL hp hl => ?_), M, F.kp, B⟩
    have hnd := (sc_l_many_in).nd
    subst hX
    obtain ⟨v_0, rfl⟩ := len1 hl
    unfold d_l_many_in
    exact (jss_cons (js_if (jt_not (jt_bl (je_isi2 kit_lst kit_tup h.n_isinstance h.n_list h.n_tuple (je_bw 0 rfl (⟨_, rfl, ⟨_, rfl, ⟨_, _, rfl, jss_one (js_ret (je_non (⟨_, rfl, rfl, oa_n⟩))), jss_nil (jss_cons (js_set 1 hnd (je_int (⟨[.bw v_0, .fr (D.int 0), .un, .un], rfl, rfl, rfl,
      jss_cons (js_for hp rfl (ji_any (je_bw 0 rfl (⟨_, _, rfl, rfl, fun ds1 =>
      ⟨_, _, _, (fun (s3 : D) => [.bw v_0, .fr s3, .un, .un]), rfl, (le_s (le_s (le_s (le_s (le_n))))), fun _ he2 d4 s3 => ⟨[2], jg_name 2 [.bw v_0, .fr s3, .fr d4, .un] hnd (jss_cons (js_if (jt_join (fun (a5 : Bool) => a5) (fun a5 => [.bw v_0, .fr s3, .fr d4, .un]) (jt_w (jw_or (jt_not (jt_bl (je_isi kit_tup h.n_isinstance h.n_tuple (je_fr 2 rfl (⟨_, rfl, ⟨_, rfl, ⟨_, _, rfl, ⟨_, rfl, rfl, rfl⟩, jw_or1 (jt_cmp cmp_notInD rfl (je_callB c_len h.n_len (ja_cons (je_fr 2 rfl (ja_nil (⟨_, _, rfl, rfl, fun t6 _ =>
      je_tup (ja_cons (je_int (ja_cons (je_int (ja_nil (⟨_, rfl, rfl, ⟨_, _, _, rfl, rfl, rfl, fun b7 =>
      ⟨_, rfl, rfl, rfl⟩⟩⟩))))))⟩))))))⟩⟩⟩))))))) (fun a5 =>
      ⟨_, _, rfl, jss_one (js_ret (je_non (⟨_, rfl, ⟨_, rfl, rfl, oa_n⟩⟩))), jss_nil (jss_one (js_join (fun (s8 : D) => [.bw v_0, .fr s8, .fr d4, .un]) (js_if (jt_cmp (cmp_eqD hr.hu) rfl (je_callB c_len h.n_len (ja_cons (je_fr 2 rfl (ja_nil (⟨_, _, rfl, rfl, fun t9 _ =>
      je_int (⟨_, _, _, rfl, rfl, rfl, fun b10 =>
      ⟨_, _, rfl, jss_cons (js_if (jt_join (fun (a11 : Bool) => a11) (fun a11 => [.bw v_0, .fr s3, .fr d4, .un]) (jt_w (jw_or (jt_not (jt_tru (je_call (ok_l_is_number h) (hr.mono (by omega)) (he2.lk hL) (ja_cons (je_ix ix_D (fun _ _ => rfl) (je_fr 2 rfl (je_int (⟨_, _, _, rfl, rfl, rfl, fun t12 _ =>
      ja_nil (⟨_, [], _, fun a13 => [.bw v_0, .fr s3, .fr d4, .un], rfl, rfl, List.nodup_nil, rfl, fun _ => rfl, fun a13 _ =>
      ⟨_, _, rfl, rfl, fun b14 =>
      ⟨_, _, rfl, ⟨_, rfl, rfl, rfl⟩, jw_or1 (jt_join (fun (a15 : Bool) => a15) (fun a15 => [.bw v_0, .fr s3, .fr d4, .un]) (jt_w (jw_and (jt_cmp cmp_notN rfl (je_ix ix_D (fun _ _ => rfl) (je_fr 2 rfl (je_int (⟨_, _, _, rfl, rfl, rfl, fun t16 _ =>
      je_non (⟨_, _, _, rfl, rfl, rfl, fun b17 =>
      ⟨_, _, rfl, jw_and1 (jt_not (jt_tru (je_call (ok_l_is_number h) (hr.mono (by omega)) (he2.lk hL) (ja_cons (je_ix ix_D (fun _ _ => rfl) (je_fr 2 rfl (je_int (⟨_, _, _, rfl, rfl, rfl, fun t18 _ =>
      ja_nil (⟨_, [], _, fun a19 => [.bw v_0, .fr s3, .fr d4, .un], rfl, rfl, List.nodup_nil, rfl, fun _ => rfl, fun a19 _ =>
      ⟨_, _, rfl, rfl, fun b20 =>
      ⟨_, rfl, rfl, rfl⟩⟩⟩)⟩)))))))), ⟨_, rfl, rfl, rfl⟩⟩⟩)⟩))))))) (fun a15 =>
      ⟨_, rfl, rfl, rfl⟩))⟩⟩⟩)⟩)))))))))) (fun a11 =>
      ⟨_, _, rfl, jss_one (js_ret (je_non (⟨_, rfl, ⟨_, rfl, ⟨_, rfl, rfl, oa_n⟩⟩⟩))), jss_nil (jss_cons (js_if (jt_join (fun (a21 : Bool) => a21) (fun a21 => [.bw v_0, .fr s3, .fr d4, .un]) (jt_w (jw_and (jt_cmp cmp_notN rfl (je_ix ix_D (fun _ _ => rfl) (je_fr 2 rfl (je_int (⟨_, _, _, rfl, rfl, rfl, fun t22 _ =>
      je_non (⟨_, _, _, rfl, rfl, rfl, fun b23 =>
      ⟨_, _, rfl, jw_and1 (jt_cmp cmp_ltD rfl (je_ix ix_D (fun _ _ => rfl) (je_fr 2 rfl (je_int (⟨_, _, _, rfl, rfl, rfl, fun t24 _ =>
      je_ix ix_D (fun _ _ => rfl) (je_fr 2 rfl (je_int (⟨_, _, _, rfl, rfl, rfl, fun t25 _ =>
      ⟨_, _, _, rfl, rfl, rfl, fun b26 =>
      ⟨_, rfl, rfl, rfl⟩⟩⟩)))⟩))))), ⟨_, rfl, rfl, rfl⟩⟩⟩)⟩))))))) (fun a21 =>
      ⟨_, _, rfl, jss_one (js_ret (je_non (⟨_, rfl, ⟨_, rfl, ⟨_, rfl, rfl, oa_n⟩⟩⟩))), jss_nil (jss_one (js_set 1 hnd (je_bin op_addD (je_fr 1 rfl (je_int (⟨_, _, _, rfl, rfl, rfl, fun t27 _ =>
      ⟨[.bw v_0, .fr t27, .fr d4, .un], rfl, rfl, rfl,
      ⟨_, rfl, (le_s (le_s (le_s (le_s (le_n)))))⟩⟩⟩))))))⟩))))⟩))), jss_cons (js_set 3 hnd (je_call (ih) (hr.mono (by omega)) (he2.lk hL) (ja_cons (je_ix ix_D (fun _ _ => rfl) (je_fr 2 rfl (je_int (⟨_, _, _, rfl, rfl, rfl, fun t28 _ =>
      ja_nil (⟨_, [], _, fun a29 => [.bw v_0, .fr s3, .fr d4, .un], rfl, rfl, List.nodup_nil, rfl, fun _ => rfl, fun a29 _ =>
      ⟨[.bw v_0, .fr s3, .fr d4, .fr a29], rfl, rfl, rfl,
      jss_cons (js_if (jt_join (fun (a30 : Bool) => a30) (fun a30 => [.bw v_0, .fr s3, .fr d4, .fr a29]) (jt_w (jw_or (jt_not (jt_bl (je_isi kit_str h.n_isinstance h.n_str (je_ix ix_D (fun _ _ => rfl) (je_fr 2 rfl (je_int (⟨_, _, _, rfl, rfl, rfl, fun t31 _ =>
      ⟨_, rfl, ⟨_, rfl, ⟨_, _, rfl, ⟨_, rfl, rfl, rfl⟩, jw_or (jt_cmp (cmp_neD hr.hu) rfl (je_ix ix_D (fun _ _ => rfl) (je_fr 2 rfl (je_int (⟨_, _, _, rfl, rfl, rfl, fun t32 _ =>
      je_str (⟨_, _, _, rfl, rfl, rfl, fun b33 =>
      ⟨_, _, rfl, ⟨_, rfl, rfl, rfl⟩, jw_or (jt_not (jt_tru (je_call (ok_l_is_number h) (hr.mono (by omega)) (he2.lk hL) (ja_cons (je_ix ix_D (fun _ _ => rfl) (je_fr 2 rfl (je_int (⟨_, _, _, rfl, rfl, rfl, fun t34 _ =>
      ja_nil (⟨_, [], _, fun a35 => [.bw v_0, .fr s3, .fr d4, .fr a29], rfl, rfl, List.nodup_nil, rfl, fun _ => rfl, fun a35 _ =>
      ⟨_, _, rfl, rfl, fun b36 =>
      ⟨_, _, rfl, ⟨_, rfl, rfl, rfl⟩, jw_or1 (jt_cmp cmp_isN rfl (je_fr 3 rfl (je_non (⟨_, _, _, rfl, rfl, rfl, fun b37 =>
      ⟨_, rfl, rfl, rfl⟩⟩))))⟩⟩⟩)⟩))))))))⟩⟩)⟩)))))⟩⟩⟩⟩))))))))) (fun a30 =>
      ⟨_, _, rfl, jss_one (js_ret (je_non (⟨_, rfl, ⟨_, rfl, ⟨_, rfl, rfl, oa_n⟩⟩⟩))), jss_nil (jss_one (js_set 1 hnd (je_bin op_addD (je_fr 1 rfl (je_bin op_mulD (je_ix ix_D (fun _ _ => rfl) (je_fr 2 rfl (je_int (⟨_, _, _, rfl, rfl, rfl, fun t38 _ =>
      je_fr 3 rfl (⟨_, _, _, rfl, rfl, rfl, fun t39 _ =>
      ⟨_, _, _, rfl, rfl, rfl, fun t40 _ =>
      ⟨[.bw v_0, .fr t40, .fr d4, .fr a29], rfl, rfl, rfl,
      ⟨_, rfl, (le_s (le_s (le_s (le_u (le_n)))))⟩⟩⟩⟩)⟩)))))))))⟩)))⟩⟩)⟩)))))))⟩⟩)⟩))))))) (fun s8 =>
      ⟨_, rfl, (le_s (le_s (le_u (le_s (le_n)))))⟩)))⟩))))⟩, fun s41 =>
      jss_one (js_ret (je_fr 1 rfl (⟨_, rfl, rfl, oa_n⟩)))⟩⟩))))⟩))))⟩⟩⟩)))))))

def d_t_need_long : List D → Res (D)
  | [v_0] =>
      (d_t_is_long [v_0]).bind fun a1 =>
      op (truD a1) fun b2 =>
      if (!b2) = true then (.raise ⟨"NoLong", []⟩) else (.ok D.non)  | _ => .bad
abbrev n_t_need_long : List Str := ["thing"]
theorem sc_t_need_long : FnScope n_t_need_long ["thing"] (defScope (topS 24)) := ⟨rfl, rfl, rfl, by decide +kernel, rfl, by decide +kernel, by decide +kernel⟩
theorem ok_t_need_long (h : Txt K mg) : Df P w K mg base 34 "need_long" [.b] d_t_need_long (fun a => a) (fun a => []) false := by
  obtain ⟨fa, fd, F, B, M⟩ := h.f_t_need_long
  refine ⟨fa, fd, _, fn_D (k := 33) F sc_t_need_long rfl 0 (fun _ => rfl) rfl (fun X en cdv A outer s H E ds hX hr hn hL hp hl => ?_), M, F.kp, B⟩
  have hnd := (sc_t_need_long).nd
  subst hX
  obtain ⟨v_0, rfl⟩ := len1 hl
  unfold d_t_need_long
  exact (jss_one (js_if (jt_not (jt_tru (je_call (ok_t_is_long h) (hr.mono (by decide)) hL (ja_cons (je_bw 0 rfl (ja_nil (⟨_, [], _, fun a1 => [.bw v_0], rfl, rfl, List.nodup_nil, rfl, fun _ => rfl, fun a1 _ =>
      ⟨_, _, rfl, rfl, fun b2 =>
      ⟨_, _, rfl, jss_one (js_raise rfl hL h.r_NoLong rfl), jss_nil (⟨rfl, _, rfl, rfl, oa_n⟩)⟩⟩⟩)))))))))

def d_t_people_in : List D → Res (D)
  | [v_0] =>
      (d_t_need_long [v_0]).bind fun a1 =>
      (d_t_people_of 14 [v_0]).bind fun a2 =>
      .ok a2  | _ => .bad
abbrev n_t_people_in : List Str := ["long"]
theorem sc_t_people_in : FnScope n_t_people_in ["long"] (defScope (topS 26)) := ⟨rfl, rfl, rfl, by decide +kernel, rfl, by decide +kernel, by decide +kernel⟩
theorem ok_t_people_in (h : Txt K mg) : Df P w K mg base 35 "people_in" [.b] d_t_people_in (fun a => a) (fun a => []) false := by
  obtain ⟨fa, fd, F, B, M⟩ := h.f_t_people_in
  refine ⟨fa, fd, _, fn_D (k := 34) F sc_t_people_in rfl 0 (fun _ => rfl) rfl (fun X en cdv A outer s H E ds hX hr hn hL hp hl => ?_), M, F.kp, B⟩
  have hnd := (sc_t_people_in).nd
  subst hX
  obtain ⟨v_0, rfl⟩ := len1 hl
  unfold d_t_people_in
  exact (jss_cons (js_expr (je_call (ok_t_need_long h) (hr.mono (by decide)) hL (ja_cons (je_bw 0 rfl (ja_nil (⟨_, [], _, fun a1 => [.bw v_0], rfl, rfl, List.nodup_nil, rfl, fun _ => rfl, fun a1 _ =>
      jss_one (js_ret (je_call (ok_t_people_of h 14) (hr.mono (by decide)) hL (ja_cons (je_bw 0 rfl (ja_nil (⟨_, [], _, fun a2 => [.bw v_0], rfl, rfl, List.nodup_nil, rfl, fun _ => rfl, fun a2 _ =>
      ⟨_, rfl, rfl, oa_n⟩⟩))))))⟩)))))))

def d_t_laid : Nat → List D → Res (List D)
  | 0, _ => .bad
  | n_ + 1, [v_0] =>
      op (asL v_0) fun ds1 =>
      (forS ds1 (([] : List D) : List D) fun d4 s3 =>
      (((d_t_is_saying [d4]).bind fun a6 =>
      op (truD a6) fun b7 =>
      if b7 = true then (op (appL s3 [d4]) fun a8 =>
      .ok a8.2) else ((((d_t_people_said (d_t_people_of 14) [d4]).bind fun a10 =>
      op (gtD a10 (D.int 0)) fun b11 =>
      if b11 = true then (op (ixD d4 (D.int 2)) fun t12 =>
      (d_t_laid n_ [t12]).bind fun a13 =>
      op (ixD d4 (D.int 1)) fun t14 =>
      op (mulX (D.lst a13) t14) fun t15 =>
      op (extL s3 [t15]) fun a16 =>
      .ok a16.2) else (.ok s3) : Res (List D))).bind fun s9 =>
      .ok s9) : Res (List D))).bind fun s5 =>
      .ok s5).bind fun s17 =>
      .ok s17
  | _ + 1, _ => .bad
abbrev n_t_laid : List Str := ["long", "found", "item"]
theorem sc_t_laid : FnScope n_t_laid ["long"] (defScope (topS 25)) := ⟨rfl, rfl, rfl, by decide +kernel, rfl, by decide +kernel, by decide +kernel⟩
theorem ok_t_laid (h : Txt K mg) : ∀ n : Nat, Df P w K mg base (34 + n) "laid" [.b] (d_t_laid n) (fun a => .lst a) (fun a => []) true
  | 0 => by
    obtain ⟨fa, fd, F, B, M⟩ := h.f_t_laid
    refine ⟨fa, fd, _, fn_D (k := 33) F sc_t_laid rfl 0 (fun _ => rfl) rfl (fun X en cdv A outer s H E ds hX hr hn hL hp hl => ?_), M, F.kp, B⟩
    exact jss_never
  | n_ + 1 => by
    have ih := ok_t_laid h n_
    obtain ⟨fa, fd, F, B, M⟩ := h.f_t_laid
    refine ⟨fa, fd, _, fn_D (k := 34 + n_) F sc_t_laid rfl 0 (fun _ => rfl) rfl (fun X en cdv A outer s H E ds hX hr hn hL hp hl => ?_), M, F.kp, B⟩
    have hnd := (sc_t_laid).nd
    subst hX
    obtain ⟨v_0, rfl⟩ := len1 hl
    unfold d_t_laid
    exact (jss_cons (js_set 1 hnd (je_lst (ja_nil (⟨_, rfl, rfl, ⟨[.bw v_0, .mu (.lst ([] : List D)), .un], rfl, rfl, rfl,
      jss_cons (js_forS hp rfl (ji_any (je_bw 0 rfl (⟨_, _, rfl, rfl, fun ds1 =>
      ⟨_, _, _, (fun (s3 : List D) => [.bw v_0, .mu (.lst s3), .un]), rfl, (le_s (le_s (le_s (le_n)))), fun _ he2 d4 s3 => ⟨[2], jg_name 2 [.bw v_0, .mu (.lst s3), .fr d4] hnd (jss_one (js_joinS (fun (s5 : List D) => [.bw v_0, .mu (.lst s5), .fr d4]) (js_if (jt_tru (je_call (ok_t_is_saying h) (hr.mono (by omega)) (he2.lk hL) (ja_cons (je_fr 2 rfl (ja_nil (⟨_, [], _, fun a6 => [.bw v_0, .mu (.lst s3), .fr d4], rfl, rfl, List.nodup_nil, rfl, fun _ => rfl, fun a6 _ =>
      ⟨_, _, rfl, rfl, fun b7 =>
      ⟨_, _, rfl, jss_one (js_expr (je_mutL 1 g_app PySem.F.slot_list_append PySem.F.type_list_append m_append rfl rfl rfl (ja_cons (je_fr 2 rfl (ja_nil (⟨_, _, _, _, fun a8 => [.bw v_0, .mu (.lst a8.2), .fr d4], rfl, rfl, rfl, rfl, rfl, fun _ => rfl, fun a8 =>
      ⟨_, rfl, (le_s (le_s (le_s (le_n))))⟩⟩)))))), jss_one (js_joinS (fun (s9 : List D) => [.bw v_0, .mu (.lst s9), .fr d4]) (js_if (jt_cmp cmp_gtD rfl (je_call (ok_t_people_said h 14 _ (ok_t_people_of h 14)) (hr.mono (by omega)) (he2.lk hL) (ja_cons (je_fr 2 rfl (ja_nil (⟨_, [], _, fun a10 => [.bw v_0, .mu (.lst s3), .fr d4], rfl, rfl, List.nodup_nil, rfl, fun _ => rfl, fun a10 _ =>
      je_int (⟨_, _, _, rfl, rfl, rfl, fun b11 =>
      ⟨_, _, rfl, jss_one (js_expr (je_mutL 1 g_ext PySem.F.slot_list_extend PySem.F.type_list_extend m_extend rfl rfl rfl (ja_cons (je_bin op_mulX (je_call (ih) (hr.mono (by omega)) (he2.lk hL) (ja_cons (je_ix ix_D (fun _ _ => rfl) (je_fr 2 rfl (je_int (⟨_, _, _, rfl, rfl, rfl, fun t12 _ =>
      ja_nil (⟨_, [], _, fun a13 => [.bw v_0, .mu (.lst s3), .fr d4], rfl, rfl, List.nodup_nil, rfl, fun _ => rfl, fun a13 _ =>
      je_ix ix_D (fun _ _ => rfl) (je_fr 2 rfl (je_int (⟨_, _, _, rfl, rfl, rfl, fun t14 _ =>
      ⟨_, _, _, rfl, rfl, rfl, fun t15 _ =>
      ja_nil (⟨_, _, _, _, fun a16 => [.bw v_0, .mu (.lst a16.2), .fr d4], rfl, rfl, rfl, rfl, rfl, fun _ => rfl, fun a16 =>
      ⟨_, rfl, (le_s (le_s (le_s (le_n))))⟩⟩)⟩⟩)))⟩)⟩)))))))))), jss_nil (⟨_, rfl, (le_s (le_s (le_s (le_n))))⟩)⟩⟩)⟩))))))) (fun s9 =>
      ⟨_, rfl, (le_s (le_s (le_s (le_n))))⟩))⟩⟩⟩))))))) (fun s5 =>
      ⟨_, rfl, (le_s (le_s (le_u (le_n))))⟩)))⟩, fun s17 =>
      jss_one (js_ret (je_mv' 1 [.bw v_0, .un, .un] rfl rfl (⟨_, rfl, rfl, oa_n⟩)))⟩⟩))))⟩⟩)))))

def d_t_laid_out : List D → Res (List D)
  | [v_0] =>
      (d_t_people_in [v_0]).bind fun a1 =>
      op (gtD a1 (D.int 300)) fun b2 =>
      if b2 = true then (op (asI a1) fun i_ => .raise ⟨"TooMany", [("many", some i_)]⟩) else ((d_t_laid 14 [v_0]).bind fun a3 =>
      .ok a3)  | _ => .bad
abbrev n_t_laid_out : List Str := ["long", "many"]
theorem sc_t_laid_out : FnScope n_t_laid_out ["long"] (defScope (topS 27)) := ⟨rfl, rfl, rfl, by decide +kernel, rfl, by decide +kernel, by decide +kernel⟩
theorem ok_t_laid_out (h : Txt K mg) : Df P w K mg base 49 "laid_out" [.b] d_t_laid_out (fun a => .lst a) (fun a => []) true := by
  obtain ⟨fa, fd, F, B, M⟩ := h.f_t_laid_out
  refine ⟨fa, fd, _, fn_D (k := 48) F sc_t_laid_out rfl 0 (fun _ => rfl) rfl (fun X en cdv A outer s H E ds hX hr hn hL hp hl => ?_), M, F.kp, B⟩
  have hnd := (sc_t_laid_out).nd
  subst hX
  obtain ⟨v_0, rfl⟩ := len1 hl
  unfold d_t_laid_out
  exact (jss_cons (js_set 1 hnd (je_call (ok_t_people_in h) (hr.mono (by decide)) hL (ja_cons (je_bw 0 rfl (ja_nil (⟨_, [], _, fun a1 => [.bw v_0, .un], rfl, rfl, List.nodup_nil, rfl, fun _ => rfl, fun a1 _ =>
      ⟨[.bw v_0, .fr a1], rfl, rfl, rfl,
      jss_cons (js_if (jt_cmp cmp_gtD rfl (je_fr 1 rfl (je_gi h.g_MOST_LAID_OUT (⟨_, _, _, rfl, rfl, rfl, fun b2 =>
      ⟨_, _, rfl, jss_one (js_raiseF rfl hL (mkE_TooMany h) (hr.mono (by decide)) (je_fr 1 rfl (⟨_, rfl, rfl⟩))), jss_nil (jss_one (js_ret (je_call (ok_t_laid h 14) (hr.mono (by decide)) hL (ja_cons (je_bw 0 rfl (ja_nil (⟨_, [], _, fun a3 => [.bw v_0, .fr a1], rfl, rfl, List.nodup_nil, rfl, fun _ => rfl, fun a3 _ =>
      ⟨_, rfl, rfl, oa_n⟩⟩)))))))⟩⟩)))))⟩⟩)))))))

def d_l_word : List D → Res (D)
  | [v_0] =>
      op (isE ["NoLong", "TooMany"] ["NoLong"] v_0) fun b1 =>
      op (isE ["NoLong", "TooMany"] ["NoPlace"] v_0) fun b2 =>
      op (isE ["NoLong", "TooMany"] ["NoNumber"] v_0) fun b3 =>
      op (isE ["NoLong", "TooMany"] ["TooMany"] v_0) fun b4 =>
      op (catT (D.lst [(D.tup [(D.str "NoLong"), (D.bl b1)]), (D.tup [(D.str "NoPlace"), (D.bl b2)])]) (D.lst [(D.tup [(D.str "NoNumber"), (D.bl b3)]), (D.tup [(D.str "TooMany"), (D.bl b4)])])) fun t5 =>
      op (isE ["NoLong", "TooMany"] ["NoSaying", "NoRow", "NoTable", "NoLot", "NoName", "Taken", "NoDeed", "NoneYet"] v_0) fun b6 =>
      op (catT (D.lst t5) (D.lst [(D.tup [(D.str "odd"), (D.bl b6)])])) fun t7 =>
      op (isE ["NoLong", "TooMany"] ["ValueError"] v_0) fun b8 =>
      op (asB (D.bl b8)) fun b9 =>
      op (appL t7 [(D.tup [(D.str "odd"), (D.bl (!b9))])]) fun a10 =>
      op (tyG "str" (D.str " ")) fun _ =>
      op (asL (D.lst a10.2)) fun ds11 =>
      (lcF ds11 (() : Unit) [] fun d13 s12 =>
      op (un2 d13) fun p14 =>
      op (truD p14.2) fun b15 =>
      if b15 = true then (.ok (some p14.1, ())) else (.ok (none, ()))).bind fun q16 =>
      op (joiD [(D.str " "), (D.lst q16.1)]) fun t17 =>
      .ok t17  | _ => .bad
abbrev n_l_word : List Str := ["_law_caught", "_law_pairs", "_law_name", "_law_so"]
theorem sc_l_word : FnScope n_l_word ["_law_caught"] (defScope (topS 39)) := ⟨rfl, rfl, rfl, by decide +kernel, rfl, by decide +kernel, by decide +kernel⟩
theorem ok_l_word (h : Txt K mg) : Df P w K mg base 1 "_law_word" [.b] d_l_word (fun a => a) (fun a => []) false := by
  obtain ⟨fa, fd, F, B, M⟩ := h.f_l_word
  refine ⟨fa, fd, _, fn_D (k := 0) F sc_l_word rfl 0 (fun _ => rfl) rfl (fun X en cdv A outer s H E ds hX hr hn hL hp hl => ?_), M, F.kp, B⟩
  have hnd := (sc_l_word).nd
  subst hX
  obtain ⟨v_0, rfl⟩ := len1 hl
  unfold d_l_word
  exact (jss_cons (js_set 1 hnd (je_lst (ja_cons (je_tup (ja_cons (je_str (ja_cons (je_isE h.n_isinstance h.x_NoLong (je_bw 0 rfl (⟨_, _, rfl, rfl, fun b1 =>
      ja_nil (⟨_, rfl, rfl, ja_cons (je_tup (ja_cons (je_str (ja_cons (je_isE h.n_isinstance h.x_NoPlace (je_bw 0 rfl (⟨_, _, rfl, rfl, fun b2 =>
      ja_nil (⟨_, rfl, rfl, ja_nil (⟨_, rfl, rfl, ⟨[.bw v_0, .mu (.lst [(D.tup [(D.str "NoLong"), (D.bl b1)]), (D.tup [(D.str "NoPlace"), (D.bl b2)])]), .un, .un], rfl, rfl, rfl,
      jss_cons (js_set 1 hnd (je_catL (je_bo 1 rfl (.inl ⟨_, rfl⟩) (je_lst (ja_cons (je_tup (ja_cons (je_str (ja_cons (je_isE h.n_isinstance h.x_NoNumber (je_bw 0 rfl (⟨_, _, rfl, rfl, fun b3 =>
      ja_nil (⟨_, rfl, rfl, ja_cons (je_tup (ja_cons (je_str (ja_cons (je_isE h.n_isinstance h.x_TooMany (je_bw 0 rfl (⟨_, _, rfl, rfl, fun b4 =>
      ja_nil (⟨_, rfl, rfl, ja_nil (⟨_, rfl, rfl, ⟨_, _, _, rfl, rfl, rfl, fun t5 =>
      ⟨[.bw v_0, .mu (.lst t5), .un, .un], rfl, rfl, rfl,
      jss_cons (js_set 1 hnd (je_catL (je_bo 1 rfl (.inl ⟨_, rfl⟩) (je_lst (ja_cons (je_tup (ja_cons (je_str (ja_cons (je_isET (nts := ["NoSaying", "NoRow", "NoTable", "NoLot", "NoName", "Taken", "NoDeed", "NoneYet"]) h.n_isinstance (fm_c h.x_NoSaying (fm_c h.x_NoRow (fm_c h.x_NoTable (fm_c h.x_NoLot (fm_c h.x_NoName (fm_c h.x_Taken (fm_c h.x_NoDeed (fm_c h.x_NoneYet fm_n)))))))) ⟨rfl, rfl, by decide, ⟨rfl, rfl, by decide, ⟨rfl, rfl, by decide, ⟨rfl, rfl, by decide, ⟨rfl, rfl, by decide, ⟨rfl, rfl, by decide, ⟨rfl, rfl, by decide, ⟨rfl, rfl, by decide, trivial⟩⟩⟩⟩⟩⟩⟩⟩ (by decide) (je_bw 0 rfl (⟨_, _, rfl, rfl, fun b6 =>
      ja_nil (⟨_, rfl, rfl, ja_nil (⟨_, rfl, rfl, ⟨_, _, _, rfl, rfl, rfl, fun t7 =>
      ⟨[.bw v_0, .mu (.lst t7), .un, .un], rfl, rfl, rfl,
      jss_cons (js_expr (je_mutL 1 g_app PySem.F.slot_list_append PySem.F.type_list_append m_append rfl rfl rfl (ja_cons (je_tup (ja_cons (je_str (ja_cons (je_not (je_isEV h.n_isinstance h.n_ValueError h.x_v (je_bw 0 rfl (⟨_, _, rfl, rfl, fun b8 =>
      ⟨_, _, rfl, rfl, fun b9 =>
      ja_nil (⟨_, rfl, rfl, ja_nil (⟨_, _, _, _, fun a10 => [.bw v_0, .mu (.lst a10.2), .un, .un], rfl, rfl, rfl, rfl, rfl, fun _ => rfl, fun a10 =>
      jss_one (js_ret (je_met PySem.F.plainAttrs_str PySem.F.slot_str_join PySem.F.type_str_join c_joi (je_str (⟨_, _, rfl, rfl, ja_cons (je_lc [("_law_name", 2), ("_law_so", 3)] rfl hnd (ji_any (je_fzv' 1 [.bw v_0, .fr (D.lst a10.2), .un, .un] rfl rfl (⟨_, _, rfl, rfl, fun ds11 =>
      ⟨_, _, _, (fun s12 => [.bw v_0, .fr (D.lst a10.2), .un, .un]), (fun s12 => [.bw v_0, .fr (D.lst a10.2), .un, .un]), rfl, (le_s (le_s (le_s (le_s (le_n))))), rfl, fun _ he d13 s12 _ _ _ _ _ _ => ⟨[2, 3], (fun _ h => h), jg_tup2 rfl ⟨_, rfl, fun p14 =>
      jgs_name 2 [.bw v_0, .fr (D.lst a10.2), .fr p14.1, .un] hnd (jgs_name 3 [.bw v_0, .fr (D.lst a10.2), .fr p14.1, .fr p14.2] hnd (jgs_nil (fun _ _ _ _ _ => jt_tru (je_fr 3 rfl (⟨_, _, rfl, rfl, fun b15 =>
      ⟨_, _, rfl, fun _ _ _ _ _ => je_fr 2 rfl (⟨_, _, rfl, rfl, (le_s (le_s (le_s (le_s (le_n))))), rfl⟩), ⟨_, rfl, (le_s (le_s (le_s (le_s (le_n))))), rfl⟩⟩⟩)))))⟩⟩, fun _ => rfl, fun q16 =>
      ja_nil (⟨_, _, _, rfl, rfl, rfl, fun t17 _ =>
      ⟨_, rfl, rfl, oa_n⟩⟩)⟩⟩))) (ok := by (refine blkOk_by ?_; first | (dsimp only [cxOf, envOfC, Cx.blk]; decide +kernel) | exact Eq.refl true)))⟩))))⟩)⟩)⟩⟩)))))))))))⟩⟩⟩)⟩)⟩))))))))))))⟩⟩⟩)⟩)⟩)))))))⟩)⟩))))))))))))⟩⟩)⟩)⟩)))))))⟩)⟩)))))))))))

def d_l_asked : List D → Res (D)
  | [v_0, v_1] =>
      (tryR ["NoLong", "TooMany"] (((op (eqD v_1 (D.int 0)) fun b10 =>
      .ok b10 : Res (Bool)).bind fun b9 => if b9 = true then (((d_t_people_in [v_0]).bind fun a11 => .ok a11 : Res D).bind fun a11 => op (nlD a11) fun _ => .ok a11) else (((d_t_laid_out [v_0]).bind fun a12 => .ok (.lst a12) : Res D)) : Res D).bind fun a8 => .ok (D.non, a8)) (fun a_ => a_) (fun c1 xfc1 => .ok ((D.exc c1 xfc1), D.non)) : Res (D × D)).bind fun s7 =>
      op (isND s7.1 D.non) fun b13 =>
      if b13 = true then (op (chkQ s7.2) fun _ => .ok s7.2) else ((d_l_word [s7.1]).bind fun a14 =>
      ((op (isE ["NoLong", "TooMany"] ["TooMany"] s7.1) fun b16 =>
      if b16 = true then (op (xfD ["TooMany"] "many" s7.1) fun t17 =>
      .ok t17) else (.ok D.non) : Res (D))).bind fun a15 =>
      op (chkQ (D.tup [a14, a15])) fun _ => .ok (D.tup [a14, a15]))  | _ => .bad
abbrev n_l_asked : List Str := ["_law_thing", "_law_door", "_law_caught", "_law_told", "e"]
theorem sc_l_asked : FnScope n_l_asked ["_law_thing", "_law_door"] (defScope (topS 41)) := ⟨rfl, rfl, rfl, by decide +kernel, rfl, by decide +kernel, by decide +kernel⟩
theorem ok_l_asked (h : Txt K mg) : ∃ (f : Addr) (fd : FuncData) (psn : List Str), FnG P w K mg base 50 f fd psn (SpA K d_l_asked) ∧ mg "_law_asked" = some (.ref f) ∧ PySem.W.keepIn K (.ref f) = true ∧ Binds K fd psn [] := by
  obtain ⟨fa, fd, F, B, M⟩ := h.f_l_asked
  refine ⟨fa, fd, _, fn_A (k := 49) F sc_l_asked rfl (fun X en cdv A outer s H E v_0 v_1 hX hr hn hL hp => ?_), M, F.kp, B⟩
  have hnd := (sc_l_asked).nd
  subst hX
  unfold d_l_asked
  exact (jss_cons (js_set 2 hnd (je_non (⟨[.bw v_0, .bw v_1, .fr D.non, .un, .un], rfl, rfl, rfl,
      jss_cons (js_set 3 hnd (je_non (⟨[.bw v_0, .bw v_1, .fr D.non, .fr D.non, .un], rfl, rfl, rfl,
      js_tryB 4 (fun (s7 : D × D) => [.bw v_0, .bw v_1, .fr s7.1, slM s7.2, .un]) rfl rfl hnd rfl rfl h.k_BoastError rfl rfl (jb_setM (okf := fun a8 => (D.non, a8)) 3 hnd rfl rfl (jbm_if rfl (by repeat' (first | exact nr_ok | refine nr_op fun _ => ?_ | refine nr_ite ?_ ?_ | refine nr_bind ?_ fun _ => ?_)) (fun _ _ _ he_ => jt_cmp (cmp_eqD hr.hu) rfl (je_bw 1 rfl (je_int (⟨_, _, _, rfl, rfl, rfl, fun b10 =>
      ⟨rfl, rfl⟩⟩)))) (jbm_of (jbe_call (ok_t_people_in h) (hr.mono (by decide)) (fun _ _ _ he_ => ja_cons (je_bw 0 rfl (ja_nil (⟨rfl, _, rfl, rfl⟩))))) rfl) (jbm_call (ok_t_laid_out h) (hr.mono (by decide)) (fun _ _ _ he_ => ja_cons (je_bw 0 rfl (ja_nil (⟨rfl, _, rfl, rfl⟩)))))) (fun a8 => (le_s (le_s (le_s (le_s (le_s (le_n)))))))) rfl (fun c1 _ xfc1 _ _ => jss_one (js_set 2 hnd (je_fr 4 rfl (⟨[.bw v_0, .bw v_1, .fr (D.exc c1 xfc1), .fr D.non, .fr (D.exc c1 xfc1)], rfl, rfl, rfl,
      ⟨_, rfl, (le_s (le_s (le_s (le_s (le_s (le_n)))))), rfl⟩⟩)))) (fun s7 =>
      jss_cons (js_if (jt_cmp cmp_isN rfl (je_fr 2 rfl (je_non (⟨_, _, _, rfl, rfl, rfl, fun b13 =>
      ⟨_, _, rfl, jss_one (js_retM 3 rfl (fun _ => ⟨_, rfl, rfl⟩)), jss_nil (jss_one (js_ret (je_tup (ja_cons (je_call (ok_l_word h) (hr.mono (by decide)) hL (ja_cons (je_fr 2 rfl (ja_nil (⟨_, [], _, fun a14 => [.bw v_0, .bw v_1, .fr s7.1, slM s7.2, .un], rfl, rfl, List.nodup_nil, rfl, fun _ => rfl, fun a14 _ =>
      ja_cons (je_join (fun (a15 : D) => .fr a15) (fun a15 => [.bw v_0, .bw v_1, .fr s7.1, slM s7.2, .un]) (je_if (jt_bl (je_isE h.n_isinstance h.x_TooMany (je_fr 2 rfl (⟨_, _, rfl, rfl, fun b16 =>
      ⟨_, rfl, ⟨_, _, rfl, je_xf h.xa_many (je_fr 2 rfl (⟨_, _, rfl, rfl, fun t17 =>
      ⟨_, rfl, rfl, rfl⟩⟩)), je_non (⟨_, rfl, rfl, rfl⟩)⟩⟩⟩))))) (fun a15 =>
      ja_nil (⟨_, rfl, rfl, ⟨_, rfl, rfl⟩⟩)))⟩)))))))))⟩⟩))))))⟩)))⟩))))

def d_l_right : List D → Res (D)
  | [v_0] =>
      op (rprD [v_0]) fun t1 =>
      (d_l_many_in 14 [v_0]).bind fun a2 =>
      ((op (notND a2 D.non) fun b4 =>
      op (asB (D.bl b4)) fun b5 => if b5 = true then (op (powD (D.int 10) (D.int 30)) fun t6 =>
      op (ltD a2 t6) fun b7 =>
      .ok (D.bl b7)) else (.ok (D.bl false)) : Res (D))).bind fun a3 =>
      (d_t_is_long [v_0]).bind fun a8 =>
      op (rprD [a8]) fun t9 =>
      op (rprD [a3]) fun t10 =>
      op (neD t9 t10) fun b11 =>
      if b11 = true then (.ok (D.bl false)) else (((op (truD a3) fun b13 =>
      if b13 = true then (.ok [a2, (D.tup [(D.str "TooMany"), a2])]) else (.ok [(D.tup [(D.str "NoLong"), D.non]), (D.tup [(D.str "NoLong"), D.non])]) : Res (List D))).bind fun a12 =>
      ((((op (truD a3) fun b34 =>
      if b34 = true then (op (ltD a2 (D.int 301)) fun b35 =>
      .ok b35) else (.ok false) : Res (Bool))).bind fun a33 =>
      if a33 = true then ((d_l_laid 14 [v_0]).bind fun a36 =>
      op (setL a12 (D.int 1) a36) fun r37 =>
      .ok r37) else (.ok a12) : Res (List D))).bind fun s14 =>
      op (rngD [(D.int 2)]) fun ds15 =>
      fbind (forF ds15 (() : Unit) fun d18 s17 =>
      (okR (d_l_asked [v_0, D.int 0])).bind fun r19 =>
      (okR (d_l_asked [v_0, D.int 1])).bind fun r20 =>
      ((op (rprD [(D.lst [r19, r20])]) fun t23 =>
      op (rprD [(D.lst s14)]) fun t24 =>
      op (neD t23 t24) fun b25 =>
      if b25 = true then (.ok true) else (op (rprD [v_0]) fun t26 =>
      op (neD t26 t1) fun b27 =>
      .ok b27) : Res (Bool))).bind fun a22 =>
      if a22 = true then (.ok (.rt ((D.bl false)))) else (op (ixD (D.lst [r19, r20]) (D.int 1)) fun t29 =>
      if (isLst t29) = true then (op (atR (D.lst [r19, r20])) fun _ =>
      .ok (.nx ())) else (.ok (.nx ())))) fun s32 =>
      .ok (D.bl true))  | _ => .bad
abbrev n_l_right : List Str := ["_law_thing", "_law_kept", "_law_many", "_law_good", "_law_due", "_law_turn", "_law_told"]
theorem sc_l_right : FnScope n_l_right ["_law_thing"] (defScope (topS 42)) := ⟨rfl, rfl, rfl, by decide +kernel, rfl, by decide +kernel, by decide +kernel⟩
theorem ok_l_right (h : Txt K mg) : Df P w K mg base 51 "_law_right" [.f] d_l_right (fun a => a) (fun a => []) false := by
  obtain ⟨fa, fd, F, B, M⟩ := h.f_l_right
  refine ⟨fa, fd, _, fn_D (k := 50) F sc_l_right rfl 0 (fun _ => rfl) rfl (fun X en cdv A outer s H E ds hX hr hn hL hp hl => ?_), M, F.kp, B⟩
  have hnd := (sc_l_right).nd
  subst hX
  obtain ⟨v_0, rfl⟩ := len1 hl
  unfold d_l_right
  exact (jss_cons (js_set 1 hnd (je_callB (c_rpr hr) h.n_repr (ja_cons (je_fr 0 rfl (ja_nil (⟨_, _, rfl, rfl, fun t1 _ =>
      ⟨[.fr v_0, .fr t1, .un, .un, .un, .un, .un], rfl, rfl, rfl,
      jss_cons (js_set 2 hnd (je_call (ok_l_many_in h 14) (hr.mono (by decide)) hL (ja_cons (je_fr 0 rfl (ja_nil (⟨_, [], _, fun a2 => [.fr v_0, .fr t1, .un, .un, .un, .un, .un], rfl, rfl, List.nodup_nil, rfl, fun _ => rfl, fun a2 _ =>
      ⟨[.fr v_0, .fr t1, .fr a2, .un, .un, .un, .un], rfl, rfl, rfl,
      jss_cons (js_set 3 hnd (je_join (fun (a3 : D) => .fr a3) (fun a3 => [.fr v_0, .fr t1, .fr a2, .un, .un, .un, .un]) (je_and (je_cmpB cmp_notN rfl (je_fr 2 rfl (je_non (⟨_, _, _, rfl, rfl, rfl, fun b4 =>
      ⟨_, _, rfl, rfl, fun b5 => ⟨_, _, rfl, je_one (je_cmpB cmp_ltD rfl (je_fr 2 rfl (je_bin op_powD (je_int (je_int (⟨_, _, _, rfl, rfl, rfl, fun t6 _ =>
      ⟨_, _, _, rfl, rfl, rfl, fun b7 =>
      ⟨_, rfl, rfl, rfl⟩⟩⟩)))))), ⟨_, rfl, rfl, rfl⟩⟩⟩⟩))))) (fun a3 =>
      ⟨[.fr v_0, .fr t1, .fr a2, .fr a3, .un, .un, .un], rfl, rfl, rfl,
      jss_cons (js_if (jt_cmp (cmp_neD hr.hu) rfl (je_callB (c_rpr hr) h.n_repr (ja_cons (je_call (ok_t_is_long h) (hr.mono (by decide)) hL (ja_cons (je_fr 0 rfl (ja_nil (⟨_, [], _, fun a8 => [.fr v_0, .fr t1, .fr a2, .fr a3, .un, .un, .un], rfl, rfl, List.nodup_nil, rfl, fun _ => rfl, fun a8 _ =>
      ja_nil (⟨_, _, rfl, rfl, fun t9 _ =>
      je_callB (c_rpr hr) h.n_repr (ja_cons (je_fr 3 rfl (ja_nil (⟨_, _, rfl, rfl, fun t10 _ =>
      ⟨_, _, _, rfl, rfl, rfl, fun b11 =>
      ⟨_, _, rfl, jss_one (js_ret (je_bl (⟨_, rfl, rfl, oa_n⟩))), jss_nil (jss_cons (js_set 4 hnd (je_join (fun (a12 : List D) => .mu (.lst a12)) (fun a12 => [.fr v_0, .fr t1, .fr a2, .fr a3, .un, .un, .un]) (je_if (jt_tru (je_fr 3 rfl (⟨_, _, rfl, rfl, fun b13 =>
      ⟨_, _, rfl, je_lst (ja_cons (je_fr 2 rfl (ja_cons (je_tup (ja_cons (je_str (ja_cons (je_fr 2 rfl (ja_nil (⟨_, rfl, rfl, ja_nil (⟨_, rfl, rfl, ⟨_, rfl, rfl, rfl⟩⟩)⟩)))))))))), je_lst (ja_cons (je_tup (ja_cons (je_str (ja_cons (je_non (ja_nil (⟨_, rfl, rfl, ja_cons (je_tup (ja_cons (je_str (ja_cons (je_non (ja_nil (⟨_, rfl, rfl, ja_nil (⟨_, rfl, rfl, ⟨_, rfl, rfl, rfl⟩⟩)⟩)))))))⟩))))))))⟩⟩)))) (fun a12 =>
      ⟨[.fr v_0, .fr t1, .fr a2, .fr a3, .mu (.lst a12), .un, .un], rfl, rfl, rfl,
      jss_cons (js_joinS (fun (s14 : List D) => [.fr v_0, .fr t1, .fr a2, .fr a3, .mu (.lst s14), .un, .un]) (js_if (jt_join (fun (a33 : Bool) => a33) (fun a33 => [.fr v_0, .fr t1, .fr a2, .fr a3, .mu (.lst a12), .un, .un]) (jt_w (jw_and (jt_tru (je_fr 3 rfl (⟨_, _, rfl, rfl, fun b34 =>
      ⟨_, _, rfl, jw_and1 (jt_cmp cmp_ltD rfl (je_fr 2 rfl (je_int (⟨_, _, _, rfl, rfl, rfl, fun b35 =>
      ⟨_, rfl, rfl, rfl⟩⟩)))), ⟨_, rfl, rfl, rfl⟩⟩⟩))))) (fun a33 =>
      ⟨_, _, rfl, jss_one (js_setL 4 (je_call (ok_l_laid h 14) (hr.mono (by decide)) hL (ja_cons (je_fr 0 rfl (ja_nil (⟨_, [], _, fun a36 => [.fr v_0, .fr t1, .fr a2, .fr a3, .mu (.lst a12), .un, .un], rfl, rfl, List.nodup_nil, rfl, fun _ => rfl, fun a36 _ =>
      ⟨_, _, rfl, rfl, rfl, je_int (⟨_, _, _, _, fun r37 => [.fr v_0, .fr t1, .fr a2, .fr a3, .mu (.lst r37), .un, .un], rfl, rfl, rfl, rfl, rfl, fun _ => rfl, fun r37 =>
      ⟨_, rfl, (le_s (le_s (le_s (le_s (le_s (le_s (le_s (le_n))))))))⟩⟩)⟩⟩)))))), jss_nil (⟨_, rfl, (le_s (le_s (le_s (le_s (le_s (le_s (le_s (le_n))))))))⟩)⟩))) (fun s14 =>
      jss_cons (js_for hp rfl (ji_range1 h.n_range (je_int (⟨_, _, rfl, rfl, fun ds15 =>
      ⟨_, _, _, (fun (s17 : Unit) => [.fr v_0, .fr t1, .fr a2, .fr a3, .mu (.lst s14), .un, .un]), rfl, (le_s (le_s (le_s (le_s (le_s (le_s (le_s (le_n)))))))), fun _ he16 d18 s17 => ⟨[5], jg_name 5 [.fr v_0, .fr t1, .fr a2, .fr a3, .mu (.lst s14), .fr d18, .un] hnd (jss_tellA 6 0 hnd rfl rfl (Nat.le_of_ble_eq_true rfl) (ok_l_asked h) (hr.mono (by decide)) (he16.lk hL) rfl (fun r19 r20 =>
      ⟨_, rfl, jx_if rfl (fun _ hq21 => jt_join (fun (a22 : Bool) => a22) (fun a22 => [.fr v_0, .fr t1, .fr a2, .fr a3, .bw (D.lst s14), .fr d18, .fr (D.lst [r19, r20])]) (jt_w (jw_or (jt_cmp (cmp_neD hr.hu) rfl (je_callB (c_rpr hr) h.n_repr (ja_cons (je_fr 6 rfl (ja_nil (⟨_, _, rfl, rfl, fun t23 _ =>
      je_callB (c_rpr hr) h.n_repr (ja_cons (je_bw 4 rfl (ja_nil (⟨_, _, rfl, rfl, fun t24 _ =>
      ⟨_, _, _, rfl, rfl, rfl, fun b25 =>
      ⟨_, _, rfl, ⟨_, rfl, rfl, rfl⟩, jw_or1 (jt_cmp (cmp_neD hr.hu) rfl (je_callB (c_rpr hr) h.n_repr (ja_cons (je_fr 0 rfl (ja_nil (⟨_, _, rfl, rfl, fun t26 _ =>
      je_fr 1 rfl (⟨_, _, _, rfl, rfl, rfl, fun b27 =>
      ⟨_, rfl, rfl, rfl⟩⟩)⟩))))))⟩⟩⟩))))⟩)))))))) (fun a22 =>
      ⟨_, _, rfl, jss_one (js_ret (je_bl (⟨_, rfl, ⟨_, rfl, rfl, oa_n⟩⟩))), jx_ifN rfl (fun _ hq28 => jt_bl (je_isi kit_lst h.n_isinstance h.n_list (je_ix ix_D (fun _ _ => rfl) (je_fr 6 rfl (je_int (⟨_, _, _, rfl, rfl, rfl, fun t29 _ =>
      ⟨_, rfl, ⟨_, rfl, ⟨_, _, rfl, jx_atR (he16.n.trans hn) rfl (fun _ hq30 => je_tup (ja_cons (je_int (ja_cons (je_int (ja_nil (⟨_, rfl, rfl, ⟨_, rfl⟩⟩))))))) (jss_nil (jss_nil (⟨_, rfl, (le_s (le_s (le_s (le_s (le_s (le_u (le_s (le_n))))))))⟩))), jx_drop (jss_nil (⟨_, rfl, (le_s (le_s (le_s (le_s (le_s (le_u (le_s (le_n))))))))⟩))⟩⟩⟩⟩))))))⟩))⟩))⟩, fun s32 =>
      jss_one (js_ret (je_bl (⟨_, rfl, rfl, oa_n⟩)))⟩⟩))))))⟩))))⟩⟩⟩))))⟩)⟩)))))))))⟩)))⟩⟩))))))⟩⟩)))))))

def d_law : List D → Res (D)
  | [v_0] =>
      op (lenD [v_0]) fun t2 =>
      op (min2D [(D.int 8), t2]) fun t3 =>
      op (max2D [(D.int 1), t3]) fun t4 =>
      op (rngD [t4]) fun ds1 =>
      fbind (forF ds1 (() : Unit) fun d7 s6 =>
      (d_l_urn [v_0, d7]).bind fun a8 =>
      op (rngD [(D.int 4)]) fun ds9 =>
      fbind (forF ds9 (a8 : List D) fun d12 s11 =>
      op (powD (D.int 10) (D.int 20)) fun t13 =>
      (d_l_ball [(D.lst s11), (D.int 3)]).bind fun a14 =>
      op (ixD (D.lst [(D.int 4), (D.int 90), t13]) a14.1) fun t15 =>
      op (powD (D.int 10) (D.int 29)) fun t16 =>
      (d_l_ball [(D.lst a14.2), (D.int 2)]).bind fun a17 =>
      op (ixD (D.lst [(D.int 9), t16]) a17.1) fun t18 =>
      op (powD (D.int 10) (D.int 29)) fun t19 =>
      (d_l_ball [(D.lst a17.2), (D.int 2)]).bind fun a20 =>
      op (ixD (D.lst [(D.int 200), t19]) a20.1) fun t21 =>
      (d_l_long 8 [(D.lst a20.2), (D.lst [(D.int 40), t15, t18]), (D.int 4), t21]).bind fun a22 =>
      (d_l_tupled 8 [a22.1]).bind fun a23 =>
      (d_l_bent 40 [(D.lst a22.2.1), a22.1]).bind fun a24 =>
      (d_l_bent 40 [(D.lst a24.2), a22.1]).bind fun a25 =>
      (d_l_bent 40 [(D.lst a25.2), a25.1]).bind fun a26 =>
      (d_l_odd [(D.lst a26.2)]).bind fun a27 =>
      op (asL (D.lst [a22.1, a23, a24.1, a26.1, a27.1])) fun ds28 =>
      fbind (forF ds28 (() : Unit) fun d31 s30 =>
      (d_l_right [d31]).bind fun a32 =>
      op (truD a32) fun b33 =>
      if (!b33) = true then (.ok (.rt ((.rt ((.rt ((D.bl false)))))))) else (.ok (.nx ()))) fun s34 =>
      .ok (.nx a27.2)) fun s35 =>
      .ok (.nx ())) fun s36 =>
      .ok (D.bl true)  | _ => .bad
abbrev n_law : List Str := ["_law_script", "_law_k", "_law_urn_here", "_law_turn", "_law_far", "_law_long_here", "_law_some", "_law_thing"]
theorem sc_law : FnScope n_law ["_law_script"] (defScope (topS 43)) := ⟨rfl, rfl, rfl, by decide +kernel, rfl, by decide +kernel, by decide +kernel⟩
theorem fn_law (h : Txt K mg) {fa : Addr} {fd : FuncData} (F : L2.Fun K "law" "law" (topS 43) fa fd) : FnG P w K mg base 52 fa fd ["_law_script"] (SpD K mg [.b] d_law (fun a => a) (fun a => []) false) := by
  refine fn_D (k := 51) F sc_law rfl 0 (fun _ => rfl) rfl (fun X en cdv A outer s H E ds hX hr hn hL hp hl => ?_)
  have hnd := (sc_law).nd
  subst hX
  obtain ⟨v_0, rfl⟩ := len1 hl
  unfold d_law
  exact (jss_cons (js_for hp rfl (ji_range1 h.n_range (je_callB (c_max2 rfl) h.n_max (ja_cons (je_int (ja_cons (je_callB (c_min2 rfl) h.n_min (ja_cons (je_int (ja_cons (je_callB c_len h.n_len (ja_cons (je_bw 0 rfl (ja_nil (⟨_, _, rfl, rfl, fun t2 _ =>
      ja_nil (⟨_, _, rfl, rfl, fun t3 _ =>
      ja_nil (⟨_, _, rfl, rfl, fun t4 _ =>
      ⟨_, _, rfl, rfl, fun ds1 =>
      ⟨_, _, _, (fun (s6 : Unit) => [.bw v_0, .un, .un, .un, .un, .un, .un, .un]), rfl, (le_s (le_s (le_s (le_s (le_s (le_s (le_s (le_s (le_n))))))))), fun _ he5 d7 s6 => ⟨[1], jg_name 1 [.bw v_0, .fr d7, .un, .un, .un, .un, .un, .un] hnd (jss_cons (js_set 2 hnd (je_call (ok_l_urn h) (hr.mono (by decide)) (he5.lk hL) (ja_cons (je_bw 0 rfl (ja_cons (je_fr 1 rfl (ja_nil (⟨_, [], _, fun a8 => [.bw v_0, .fr d7, .un, .un, .un, .un, .un, .un], rfl, rfl, List.nodup_nil, rfl, fun _ => rfl, fun a8 _ =>
      ⟨[.bw v_0, .fr d7, .mu (.lst a8), .un, .un, .un, .un, .un], rfl, rfl, rfl,
      jss_one (js_for hp rfl (ji_range1 h.n_range (je_int (⟨_, _, rfl, rfl, fun ds9 =>
      ⟨_, _, _, (fun (s11 : List D) => [.bw v_0, .fr d7, .mu (.lst s11), .un, .un, .un, .un, .un]), rfl, (le_s (le_s (le_s (le_s (le_s (le_s (le_s (le_s (le_n))))))))), fun _ he10 d12 s11 => ⟨[3], jg_name 3 [.bw v_0, .fr d7, .mu (.lst s11), .fr d12, .un, .un, .un, .un] hnd (jss_cons (js_set 4 hnd (je_ix ix_D (fun _ _ => rfl) (je_lst (ja_cons (je_int (ja_cons (je_int (ja_cons (je_bin op_powD (je_int (je_int (⟨_, _, _, rfl, rfl, rfl, fun t13 _ =>
      ja_nil (⟨_, rfl, rfl, je_call (ok_l_ball h) (hr.mono (by decide)) (he10.lk (he5.lk hL)) (ja_cons (je_bo 2 rfl (.inl ⟨_, rfl⟩) (ja_cons (je_int (ja_nil (⟨_, [2], _, fun a14 => [.bw v_0, .fr d7, .mu (.lst a14.2), .fr d12, .un, .un, .un, .un], rfl, rfl, nd1, rfl, fun _ => rfl, fun a14 _ =>
      ⟨_, _, _, rfl, rfl, rfl, fun t15 _ =>
      ⟨[.bw v_0, .fr d7, .mu (.lst a14.2), .fr d12, .fr t15, .un, .un, .un], rfl, rfl, rfl,
      jss_cons (js_set 5 hnd (je_callF 1 (ok_l_long h 8) (hr.mono (by decide)) (he10.lk (he5.lk hL)) (ja_cons (je_bo 2 rfl (.inl ⟨_, rfl⟩) (ja_cons (je_lst (ja_cons (je_int (ja_cons (je_fr 4 rfl (ja_cons (je_ix ix_D (fun _ _ => rfl) (je_lst (ja_cons (je_int (ja_cons (je_bin op_powD (je_int (je_int (⟨_, _, _, rfl, rfl, rfl, fun t16 _ =>
      ja_nil (⟨_, rfl, rfl, je_call (ok_l_ball h) (hr.mono (by decide)) (he10.lk (he5.lk hL)) (ja_cons (je_bo 2 rfl (.inl ⟨_, rfl⟩) (ja_cons (je_int (ja_nil (⟨_, [2], _, fun a17 => [.bw v_0, .fr d7, .mu (.lst a17.2), .fr d12, .fr t15, .un, .un, .un], rfl, rfl, nd1, rfl, fun _ => rfl, fun a17 _ =>
      ⟨_, _, _, rfl, rfl, rfl, fun t18 _ =>
      ja_nil (⟨_, rfl, rfl, ja_cons (je_int (ja_cons (je_ix ix_D (fun _ _ => rfl) (je_lst (ja_cons (je_int (ja_cons (je_bin op_powD (je_int (je_int (⟨_, _, _, rfl, rfl, rfl, fun t19 _ =>
      ja_nil (⟨_, rfl, rfl, je_call (ok_l_ball h) (hr.mono (by decide)) (he10.lk (he5.lk hL)) (ja_cons (je_bo 2 rfl (.inl ⟨_, rfl⟩) (ja_cons (je_int (ja_nil (⟨_, [2], _, fun a20 => [.bw v_0, .fr d7, .mu (.lst a20.2), .fr d12, .fr t15, .un, .un, .un], rfl, rfl, nd1, rfl, fun _ => rfl, fun a20 _ =>
      ⟨_, _, _, rfl, rfl, rfl, fun t21 _ =>
      ja_nil (⟨_, _, [2, 8], _, fun a22 => [.bw v_0, .fr d7, .mu (.lst a22.2.1), .fr d12, .fr t15, .un, .un, .un], fun a22 => .mu (.lst a22.2.2), rfl, rfl, rfl, (by decide), rfl, fun _ => rfl, fun _ => ⟨rfl, rfl⟩, fun a22 _ =>
      ⟨[.bw v_0, .fr d7, .mu (.lst a22.2.1), .fr d12, .fr t15, .fr a22.1, .un, .un], rfl, rfl, rfl,
      jss_cons (js_set 6 hnd (je_fz (je_lst (ja_cons (je_fr 5 rfl (ja_cons (je_call (ok_l_tupled h 8) (hr.mono (by decide)) (he10.lk (he5.lk hL)) (ja_cons (je_fr 5 rfl (ja_nil (⟨_, [], _, fun a23 => [.bw v_0, .fr d7, .mu (.lst a22.2.1), .fr d12, .fr t15, .fr a22.1, .un, .un], rfl, rfl, List.nodup_nil, rfl, fun _ => rfl, fun a23 _ =>
      ja_cons (je_call (ok_l_bent h 40) (hr.mono (by decide)) (he10.lk (he5.lk hL)) (ja_cons (je_bo 2 rfl (.inl ⟨_, rfl⟩) (ja_cons (je_fr 5 rfl (ja_nil (⟨_, [2], _, fun a24 => [.bw v_0, .fr d7, .mu (.lst a24.2), .fr d12, .fr t15, .fr a22.1, .un, .un], rfl, rfl, nd1, rfl, fun _ => rfl, fun a24 _ =>
      ja_cons (je_call (ok_l_bent h 40) (hr.mono (by decide)) (he10.lk (he5.lk hL)) (ja_cons (je_bo 2 rfl (.inl ⟨_, rfl⟩) (ja_cons (je_call (ok_l_bent h 40) (hr.mono (by decide)) (he10.lk (he5.lk hL)) (ja_cons (je_bo 2 rfl (.inl ⟨_, rfl⟩) (ja_cons (je_fr 5 rfl (ja_nil (⟨_, [2], _, fun a25 => [.bw v_0, .fr d7, .mu (.lst a25.2), .fr d12, .fr t15, .fr a22.1, .un, .un], rfl, rfl, nd1, rfl, fun _ => rfl, fun a25 _ =>
      ja_nil (⟨_, [2], _, fun a26 => [.bw v_0, .fr d7, .mu (.lst a26.2), .fr d12, .fr t15, .fr a22.1, .un, .un], rfl, rfl, nd1, rfl, fun _ => rfl, fun a26 _ =>
      ja_cons (je_call (ok_l_odd h) (hr.mono (by decide)) (he10.lk (he5.lk hL)) (ja_cons (je_bo 2 rfl (.inl ⟨_, rfl⟩) (ja_nil (⟨_, [2], _, fun a27 => [.bw v_0, .fr d7, .mu (.lst a27.2), .fr d12, .fr t15, .fr a22.1, .un, .un], rfl, rfl, nd1, rfl, fun _ => rfl, fun a27 _ =>
      ja_nil (⟨_, rfl, rfl, ⟨[.bw v_0, .fr d7, .mu (.lst a27.2), .fr d12, .fr t15, .fr a22.1, .fr (D.lst [a22.1, a23, a24.1, a26.1, a27.1]), .un], rfl, rfl, rfl,
      jss_one (js_for hp rfl (ji_any (je_fr 6 rfl (⟨_, _, rfl, rfl, fun ds28 =>
      ⟨_, _, _, (fun (s30 : Unit) => [.bw v_0, .fr d7, .mu (.lst a27.2), .fr d12, .fr t15, .fr a22.1, .fr (D.lst [a22.1, a23, a24.1, a26.1, a27.1]), .un]), rfl, (le_s (le_s (le_s (le_s (le_s (le_s (le_s (le_s (le_n))))))))), fun _ he29 d31 s30 => ⟨[7], jg_name 7 [.bw v_0, .fr d7, .mu (.lst a27.2), .fr d12, .fr t15, .fr a22.1, .fr (D.lst [a22.1, a23, a24.1, a26.1, a27.1]), .fr d31] hnd (jss_one (js_if (jt_not (jt_tru (je_call (ok_l_right h) (hr.mono (by decide)) (he29.lk (he10.lk (he5.lk hL))) (ja_cons (je_fr 7 rfl (ja_nil (⟨_, [], _, fun a32 => [.bw v_0, .fr d7, .mu (.lst a27.2), .fr d12, .fr t15, .fr a22.1, .fr (D.lst [a22.1, a23, a24.1, a26.1, a27.1]), .fr d31], rfl, rfl, List.nodup_nil, rfl, fun _ => rfl, fun a32 _ =>
      ⟨_, _, rfl, rfl, fun b33 =>
      ⟨_, _, rfl, jss_one (js_ret (je_bl (⟨_, rfl, ⟨_, rfl, ⟨_, rfl, ⟨_, rfl, rfl, oa_n⟩⟩⟩⟩))), jss_nil (⟨_, rfl, (le_s (le_s (le_s (le_s (le_s (le_s (le_s (le_u (le_n)))))))))⟩)⟩⟩⟩)))))))))⟩, fun s34 =>
      ⟨_, rfl, (le_s (le_s (le_s (le_u (le_u (le_u (le_u (le_s (le_n)))))))))⟩⟩⟩))))⟩⟩)⟩)))))⟩)⟩)))))))))))⟩)))))))⟩)))))))))))⟩⟩)⟩⟩))))))⟩)⟩)))))))))))⟩)⟩⟩))))))⟩)⟩))))))))))))))))))))⟩⟩⟩))))))⟩)⟩)))))))))))))⟩, fun s35 =>
      ⟨_, rfl, (le_s (le_u (le_u (le_s (le_s (le_s (le_s (le_s (le_n)))))))))⟩⟩⟩))))⟩⟩)))))))))⟩, fun s36 =>
      jss_one (js_ret (je_bl (⟨_, rfl, rfl, oa_n⟩)))⟩⟩⟩)⟩)⟩))))))))))))))))

end
/-! ### numbers -/
def cnt : D → Bool
  | .int i => decide (0 ≤ i)
  | _ => false
theorem number_ok (d : D) : d_t_is_number [d] = .ok (.bl (cnt d)) := by
  unfold d_t_is_number
  cases d <;> first | rfl | skip
theorem cnt_int {d : D} (h : cnt d = true) : ∃ i : Int, d = .int i ∧ 0 ≤ i := by
  cases d <;> simp [cnt] at h
  exact ⟨_, rfl, h⟩

/-! ### sayings, rows -/
theorem i0S {s : Say} : ixD (eS s) (.int 0) = some (.int s.1) := rfl
theorem i1S {s : Say} : ixD (eS s) (.int 1) = some (eO s.2) := rfl
theorem isNO {o : Option Int} : isND (eO o) .non = some o.isNone := by cases o <;> rfl
theorem saying_ok {B : Int} {s : Say} (h : okS B s) : d_t_is_saying [eS s] = .ok (.bl true) := by
  obtain ⟨a, o⟩ := s
  obtain ⟨h1, h2, h3⟩ := h
  have e1 : lenD [eS (a, o)] = some (.int 2) := rfl
  have e2 : neD (.int 2) (.int 2) = some false := rfl
  have c1 : cnt (.int a) = true := decide_eq_true h1
  unfold d_t_is_saying
  dsimp only
  rw [if_neg (by simp [isTup, eS]), e1, op_s, e2, op_s, if_neg (by simp), i0S, op_s, number_ok, bind_s, c1, tru_ok, op_s, bind_s]
  rw [if_neg (by simp), i1S, op_s, isNO, op_s, asB_ok, op_s]
  cases o with
  | none => rfl
  | some b =>
    obtain ⟨h4, h5⟩ := h3 b rfl
    have c2 : cnt (.int b) = true := decide_eq_true (by omega)
    have e3 : eO (some b) = .int b := rfl
    rw [if_neg (by simp), e3, op_s, number_ok, bind_s, c2, asB_ok, op_s, if_pos rfl, op_s, op_s, geI, op_s, bind_s, bind_s]
    have h4' : a ≤ b := h4
    simp [h4']
/-! ### anything asked whether it is a row -/
def noneD : D → Bool
  | .non => true
  | _ => false
def leqD : D → D → Bool
  | .int a, .int b => decide (a ≤ b)
  | _, _ => false
def say : D → Bool
  | .tup [x, y] => cnt x && (noneD y || (cnt y && leqD x y))
  | _ => false
theorem isN_ok (d : D) : isND d .non = some (noneD d) := by cases d <;> rfl
theorem saying_is (d : D) : d_t_is_saying [d] = .ok (.bl (say d)) := by
  unfold d_t_is_saying
  dsimp only
  by_cases ht : isTup d = true
  · match d, ht with
    | .tup ds, _ =>
      have e1 : lenD [.tup ds] = some (.int ds.length) := rfl
      have e2 : neD (.int ds.length) (.int 2) = some (!decide ((ds.length : Int) = 2)) := rfl
      rw [if_neg (by simp [isTup]), e1, op_s, e2, op_s]
      match ds with
      | [] => rfl
      | [_] => rfl
      | [x, y] =>
        have i0 : ixD (.tup [x, y]) (.int 0) = some x := rfl
        have i1 : ixD (.tup [x, y]) (.int 1) = some y := rfl
        rw [if_neg (by simp), i0, op_s, number_ok, bind_s, tru_ok, op_s, bind_s]
        cases hx : cnt x with
        | false => simp [say, hx]
        | true =>
          rw [if_neg (by simp), i1, op_s, isN_ok, op_s, asB_ok, op_s]
          cases hy : noneD y with
          | true => simp [say, hx, hy, bind_s]
          | false =>
            rw [if_neg (by simp), op_s, number_ok, bind_s, asB_ok, op_s]
            cases hc : cnt y with
            | false => simp [say, hx, hy, hc, bind_s]
            | true =>
              cases x <;> simp [cnt] at hx
              cases y <;> simp [cnt] at hc
              rename_i a b
              simp [say, cnt, noneD, leqD, hx, hc, geI, op_s, bind_s]
      | a :: b :: c :: r =>
        rw [if_pos (by simp; omega)]
        rfl
  · rw [if_pos (by simpa using ht), bind_s, if_pos rfl]
    cases d <;> first | rfl | exact absurd rfl ht
def row : D → Bool
  | .lst ds => ds.all say
  | .tup ds => ds.all say
  | _ => false
def few : D → Prop
  | .lst ds => ds.length < 1000000
  | .tup ds => ds.length < 1000000
  | .scr _ => False
  | _ => True
theorem bind_r {α β : Type} {x : Exc} {k : α → Res β} : (Res.raise x : Res α).bind k = .raise x := rfl

/-! ### loops, step by step -/
theorem forF_nx {S R : Type} {f : D → S → Res (LFlow S R)} {d : D} {ds : List D} {s s' : S} (h : f d s = .ok (.nx s')) : forF (d :: ds) s f = forF ds s' f := by
  conv => lhs; unfold forF
  rw [h]
theorem forF_rt {S R : Type} {f : D → S → Res (LFlow S R)} {d : D} {ds : List D} {s : S} {r : R} (h : f d s = .ok (.rt r)) : forF (d :: ds) s f = .ok (.ex r) := by
  conv => lhs; unfold forF
  rw [h]
theorem forF_no {S R : Type} {f : D → S → Res (LFlow S R)} {s : S} : forF [] s f = .ok (.nx s) := by
  unfold forF; rfl
theorem forS_c {S : Type} {f : D → S → Res S} {d : D} {ds : List D} {s s' : S} (h : f d s = .ok s') : forS (d :: ds) s f = forS ds s' f := by
  conv => lhs; unfold forS
  rw [h]; rfl
theorem forS_no {S : Type} {f : D → S → Res S} {s : S} : forS [] s f = .ok s := by
  unfold forS; rfl
theorem fb_nx {S R : Type} {s : S} {k : S → Res R} : fbind (.ok (.nx s)) k = k s := rfl
/-! ### long rows: sayings, and agains -/
inductive It where
  | say (s : Say) | again (n : Nat) (xs : List It)
def iter {α : Type} (f : α → α) : Nat → α → α
  | 0, a => a
  | n + 1, a => f (iter f n a)
mutual
def It.tot : It → Int → Int
  | .say s => fun c => c + b2 (so s c)
  | .again n xs => iter (It.tots xs) n
def It.tots : List It → Int → Int
  | [] => fun c => c
  | x :: xs => fun c => x.tot (It.tots xs c)
end
mutual
def It.nx : It → Int → Int
  | .say s => fun m => BR.nx s m
  | .again n xs => iter (It.hand xs) n
def It.hand : List It → Int → Int
  | [] => fun m => m
  | x :: xs => fun m => It.hand xs (x.nx m)
end
mutual
def It.ppl : It → Nat
  | .say _ => 1
  | .again n xs => n * It.ppls xs
def It.ppls : List It → Nat
  | [] => 0
  | x :: xs => x.ppl + It.ppls xs
end
mutual
def It.dep : It → Nat
  | .say _ => 0
  | .again _ xs => It.deps xs + 1
def It.deps : List It → Nat
  | [] => 0
  | x :: xs => max x.dep (It.deps xs)
end
mutual
/-- sayings and agains written -/
def It.siz : It → Nat
  | .say _ => 1
  | .again _ xs => It.sizs xs + 1
def It.sizs : List It → Nat
  | [] => 0
  | x :: xs => x.siz + It.sizs xs
end
mutual
/-- the written sayings -/
def It.flt : It → List Say
  | .say s => [s]
  | .again _ xs => It.flts xs
def It.flts : List It → List Say
  | [] => []
  | x :: xs => x.flt ++ It.flts xs
end
theorem It.ppls_append {ys : List It} : ∀ {xs : List It}, It.ppls (xs ++ ys) = It.ppls xs + It.ppls ys
  | [] => by show _ = 0 + _; rw [Nat.zero_add]; rfl
  | x :: xs => by show x.ppl + It.ppls (xs ++ ys) = x.ppl + It.ppls xs + _; rw [It.ppls_append]; omega
theorem It.deps_append {ys : List It} : ∀ {xs : List It}, It.deps (xs ++ ys) = max (It.deps xs) (It.deps ys)
  | [] => by show _ = max 0 _; rw [Nat.zero_max]; rfl
  | x :: xs => by show max x.dep (It.deps (xs ++ ys)) = max (max x.dep (It.deps xs)) _; rw [It.deps_append]; omega
theorem It.sizs_append {ys : List It} : ∀ {xs : List It}, It.sizs (xs ++ ys) = It.sizs xs + It.sizs ys
  | [] => by show _ = 0 + _; rw [Nat.zero_add]; rfl
  | x :: xs => by show x.siz + It.sizs (xs ++ ys) = x.siz + It.sizs xs + _; rw [It.sizs_append]; omega
theorem It.siz_pos : ∀ x : It, 1 ≤ x.siz
  | .say _ => Nat.le_refl _
  | .again _ xs => by show 1 ≤ It.sizs xs + 1; omega
theorem It.len_siz : ∀ {xs : List It}, xs.length ≤ It.sizs xs
  | [] => Nat.le_refl _
  | x :: xs => by
    have := It.len_siz (xs := xs)
    have := It.siz_pos x
    show xs.length + 1 ≤ x.siz + It.sizs xs
    omega
mutual
/-- all numbers below B, so are the people of each row within -/
def It.OkI (B : Int) : It → Prop
  | .say s => okS B s
  | .again n xs => (n : Int) < B ∧ (It.ppls xs : Int) < B ∧ It.OksI B xs
def It.OksI (B : Int) : List It → Prop
  | [] => True
  | x :: xs => It.OkI B x ∧ It.OksI B xs
end
theorem It.oks_append {B : Int} {ys : List It} : ∀ {xs : List It}, It.OksI B (xs ++ ys) ↔ It.OksI B xs ∧ It.OksI B ys
  | [] => ⟨fun h => ⟨trivial, h⟩, fun h => h.2⟩
  | x :: xs => by
    show It.OkI B x ∧ It.OksI B (xs ++ ys) ↔ (It.OkI B x ∧ It.OksI B xs) ∧ _
    rw [It.oks_append, and_assoc]
/-! as data: rows are lists or tuples -/
mutual
def ItR : It → D → Prop
  | .say s, d => d = eS s
  | .again n xs, d => ∃ ds r, (r = .lst ds ∨ r = .tup ds) ∧ ItsR xs ds ∧ d = .tup [.str "again", .int n, r]
def ItsR : List It → List D → Prop
  | [], ds => ds = []
  | x :: xs, ds => ∃ d r, ds = d :: r ∧ ItR x d ∧ ItsR xs r
end
def RowR (xs : List It) (d : D) : Prop := ∃ ds, (d = .lst ds ∨ d = .tup ds) ∧ ItsR xs ds
def It.isAg : It → Bool
  | .say _ => false
  | .again _ _ => true
theorem ItR.ag {n : Nat} {xs : List It} {r : D} (h : RowR xs r) : ItR (.again n xs) (.tup [.str "again", .int n, r]) := by
  obtain ⟨ds, h1, h2⟩ := h
  exact ⟨ds, r, h1, h2, rfl⟩
theorem ItR.get {n : Nat} {xs : List It} {d : D} (h : ItR (.again n xs) d) : ∃ r, RowR xs r ∧ d = .tup [.str "again", .int n, r] := by
  obtain ⟨ds, r, h1, h2, h3⟩ := h
  exact ⟨r, ⟨ds, h1, h2⟩, h3⟩
theorem ItsR.append {ys : List It} {es : List D} (h' : ItsR ys es) : ∀ {xs : List It} {ds : List D}, ItsR xs ds → ItsR (xs ++ ys) (ds ++ es)
  | [], ds, h => by have h : ds = [] := h; subst h; exact h'
  | x :: xs, ds, h => by
    obtain ⟨d, r, rfl, h1, h2⟩ := h
    exact ⟨d, r ++ es, rfl, h1, ItsR.append h' h2⟩
theorem ItsR.len : ∀ {xs : List It} {ds : List D}, ItsR xs ds → ds.length = xs.length
  | [], ds, h => by have h : ds = [] := h; subst h; rfl
  | x :: xs, ds, h => by obtain ⟨d, r, rfl, h1, h2⟩ := h; rw [List.length_cons, List.length_cons, h2.len]
theorem RowR.as {xs : List It} {d : D} (h : RowR xs d) : ∃ ds, asL d = some ds ∧ ItsR xs ds ∧ (isLst d || isTup d) = true := by
  obtain ⟨ds, rfl | rfl, h2⟩ := h
  · exact ⟨ds, rfl, h2, rfl⟩
  · exact ⟨ds, rfl, h2, rfl⟩
theorem ItsR.one {x : It} {d : D} (h : ItR x d) : ItsR [x] [d] := ⟨d, [], rfl, h, rfl⟩
theorem ItsR.row {xs : List It} {ds : List D} (h : ItsR xs ds) : RowR xs (.lst ds) := ⟨ds, .inl rfl, h⟩
theorem mulN {a b : Int} (h0 : 0 ≤ a) (h : a < 2 ^ 4000) (g0 : 0 ≤ b) (g : b < 2 ^ 4000) : mulD (.int a) (.int b) = some (.int (a * b)) := if_pos (by
  have := log_le h0 h
  have := log_le g0 g
  omega)
theorem p4000 : (2 : Int) ^ 250 < 2 ^ 4000 := by
  have h : (2 : Nat) ^ 250 < 2 ^ 4000 := Nat.pow_lt_pow_right (by decide) (by decide)
  exact_mod_cast h
theorem mul_le_of_div {m o g : Int} (g0 : 0 < g) (h : m ≤ o / g) : m * g ≤ o := Int.le_trans (Int.mul_le_mul_of_nonneg_right h (Int.le_of_lt g0)) (Int.ediv_mul_le o (by omega))

/-! ### how many people a thing tells, whatever it is -/
def natD : D → Option Nat
  | .int i => if 0 ≤ i then some i.toNat else none
  | _ => none
def isAgD : D → Bool
  | .str s => decide (s = "again")
  | _ => false
def mI (f : D → Option Nat) (d : D) : Option Nat := if say d = true then some 1 else match d with
  | .tup [a, b, r] => if isAgD a = true then (match natD b, f r with
    | some k, some m => some (k * m)
    | _, _ => none) else none
  | _ => none
def mL (f : D → Option Nat) : List D → Option Nat
  | [] => some 0
  | d :: ds => match mI f d, mL f ds with
    | some a, some b => some (a + b)
    | _, _ => none
def mD : Nat → D → Option Nat
  | 0, _ => none
  | n + 1, .lst ds => mL (mD n) ds
  | n + 1, .tup ds => mL (mD n) ds
  | _ + 1, _ => none
def eN : Option Nat → D
  | none => .non
  | some n => .int n
/-- the depth does, the numbers are not too great, nor the lists -/
def Gd : Nat → D → Prop
  | 0, _ => False
  | n + 1, d => (∀ ns, d ≠ .scr ns) ∧ ∀ ds, (d = .lst ds ∨ d = .tup ds) → ds.length ≤ 2 ^ 16 ∧ ∀ x, x ∈ ds → ∀ a b r, x = .tup [a, b, r] → Gd n r ∧ ∀ i, b = .int i → i < 2 ^ 110
theorem cast2 (n : Nat) : ((2 ^ n : Nat) : Int) = 2 ^ n := by rw [Int.natCast_pow]; rfl
theorem nat4000 {m n : Nat} (h : m < 2 ^ (130 * n)) (hn : n ≤ 20) : (m : Int) < 2 ^ 4000 := by
  have h2 : m < 2 ^ 4000 := Nat.lt_of_lt_of_le h (Nat.pow_le_pow_right (by decide) (by omega))
  have := Int.ofNat_lt.mpr h2
  rw [cast2] at this
  exact this
theorem natD_cnt {b : D} : natD b = if cnt b = true then (match b with | .int i => some i.toNat | _ => none) else none := by
  cases b <;> first | rfl | skip
  unfold natD cnt
  by_cases h : 0 ≤ (by assumption : Int) <;> simp [h]
theorem isAgS {s : Str} : neD (.str s) (.str "again") = some (!isAgD (.str s)) := by
  show some (!decide (s = "again")) = _
  rfl
theorem nND {o : Option Nat} : notND (eN o) .non = some o.isSome := by cases o <;> rfl
theorem iND {o : Option Nat} : isND (eN o) .non = some o.isNone := by cases o <;> rfl
theorem said_tot {n : Nat} (hn : n ≤ 20) {d : D} (ih : ∀ a b r, d = .tup [a, b, r] → d_t_people_of n [r] = .ok (eN (mD n r)) ∧ (∀ m, mD n r = some m → m < 2 ^ (130 * n)) ∧ ∀ i, b = .int i → i < 2 ^ 110) (hs : say d = false) : d_t_people_said (d_t_people_of n) [d] = .ok (eN (mI (mD n) d)) := by
  have out : ∀ d : D, say d = false → (∀ a b r, d ≠ .tup [a, b, r]) → mI (mD n) d = none := fun d h0 h => by
    unfold mI
    rw [if_neg (by rw [h0]; simp)]
    split
    · rename_i a b r
      exact absurd rfl (h a b r)
    · rfl
  by_cases ht : isTup d = true
  · cases d <;> first | cases ht | skip
    rename_i ds
    have e1 : lenD [.tup ds] = some (.int ds.length) := rfl
    have e2 : neD (.int ds.length) (.int 3) = some (!decide ((ds.length : Int) = 3)) := rfl
    match ds, e1, e2 with
    | [], _, _ => rw [out _ hs (fun _ _ _ z => nomatch z)]; rfl
    | [_], _, _ => rw [out _ hs (fun _ _ _ z => nomatch z)]; rfl
    | [_, _], _, _ => rw [out _ hs (fun _ _ _ z => nomatch z)]; rfl
    | a :: b :: c :: e :: r, e1, e2 =>
      rw [out _ hs (fun _ _ _ z => nomatch z)]
      unfold d_t_people_said
      dsimp only
      rw [if_neg (by simp [isTup]), e1, op_s, e2, op_s, if_pos (by simp; omega), bind_s, if_pos rfl]
      rfl
    | [a, b, r], e1, e2 =>
      obtain ⟨h1, h2, h3⟩ := ih a b r rfl
      have i0 : ixD (.tup [a, b, r]) (.int 0) = some a := rfl
      have i1 : ixD (.tup [a, b, r]) (.int 1) = some b := rfl
      have i2 : ixD (.tup [a, b, r]) (.int 2) = some r := rfl
      have em : mI (mD n) (.tup [a, b, r]) = if isAgD a = true then (match natD b, mD n r with
          | some k, some m => some (k * m)
          | _, _ => none) else none := by
        unfold mI
        rw [if_neg (by rw [hs]; simp)]
      have e3 : neD (.int (([a, b, r] : List D).length : Int)) (.int 3) = some false := rfl
      unfold d_t_people_said
      dsimp only
      rw [if_neg (by simp [isTup]), e1, op_s, e3, op_s, if_neg (by simp), i0, op_s, em]
      by_cases hst : isStr a = true
      · cases a <;> first | cases hst | skip
        rename_i s
        rw [if_neg (by simp [isStr]), op_s, isAgS, op_s, bind_s]
        cases hag : isAgD (.str s) with
        | false => rw [if_pos (show (!false) = true from rfl), if_neg (by simp)]; rfl
        | true =>
          rw [if_neg (by simp), i2, op_s, h1, bind_s, i1, op_s, number_ok, bind_s, tru_ok, op_s, if_pos rfl, natD_cnt]
          cases hc : cnt b with
          | false => rw [if_neg (by simp), bind_s, if_neg (by simp), bind_s, if_neg (by simp)]; rfl
          | true =>
            obtain ⟨i, rfl, i0⟩ := cnt_int hc
            rw [if_pos rfl, nND, op_s, bind_s, if_pos rfl]
            cases hm : mD n r with
            | none => rw [if_neg (by simp), bind_s]; rfl
            | some m =>
              have hi := h3 i rfl
              obtain ⟨k, rfl⟩ : ∃ k : Nat, i = k := ⟨i.toNat, by omega⟩
              have b1 : (k : Int) < 2 ^ 4000 := Int.lt_of_lt_of_le hi (Int.le_trans (show (2 : Int) ^ 110 ≤ 2 ^ 250 by decide) (Int.le_of_lt p4000))
              rw [if_pos (show (some m).isSome = true from rfl), op_s, show eN (some m) = .int (m : Int) from rfl, mulN (by omega) b1 (by omega) (nat4000 (h2 m hm) hn), op_s, bind_s]
              show Res.ok (D.int ((k : Int) * m)) = .ok (.int ((((k : Int).toNat * m : Nat)) : Int))
              rw [Int.toNat_natCast, Int.natCast_mul]
      · have hna : isAgD a = false := by cases a <;> first | rfl | exact absurd rfl hst
        rw [if_pos (by simpa using hst), bind_s, if_pos rfl, hna, if_neg (by simp)]; rfl
  · rw [out d hs (fun a b r z => by subst z; exact ht rfl)]
    unfold d_t_people_said
    dsimp only
    rw [if_pos (by simpa using ht), bind_s, if_pos rfl]; rfl
theorem people_loopD {n : Nat} (hn : n ≤ 20) {f : D → D → Res (LFlow D D)}
    (hf : ∀ d s : D, f d s = (((d_t_is_saying [d]).bind fun a6 => op (truD a6) fun b7 => if b7 = true then (.ok (D.int 1)) else ((d_t_people_said (d_t_people_of n) [d]).bind fun a8 => .ok a8) : Res (D))).bind fun a5 => op (isND a5 D.non) fun b9 => if b9 = true then (.ok (.rt (D.non))) else (op (iaddD s a5) fun t10 => .ok (.nx t10))) :
    ∀ (ds : List D) (s : Int), (∀ x, x ∈ ds → ∀ a b r, x = .tup [a, b, r] → d_t_people_of n [r] = .ok (eN (mD n r)) ∧ (∀ m, mD n r = some m → m < 2 ^ (130 * n)) ∧ ∀ i, b = .int i → i < 2 ^ 110) →
      forF ds (.int s) f = .ok (match mL (mD n) ds with | some m => .nx (.int (s + m)) | none => .ex .non)
  | [], s, _ => by
    rw [forF_no]
    show Res.ok (Flow.nx (D.int s)) = .ok (.nx (.int (s + ((0 : Nat) : Int))))
    rw [show s + ((0 : Nat) : Int) = s by omega]
  | x :: ds, s, h => by
    have em : mL (mD n) (x :: ds) = match mI (mD n) x, mL (mD n) ds with
        | some a, some b => some (a + b)
        | _, _ => none := rfl
    have one : f x (.int s) = .ok (match mI (mD n) x with | some a => .nx (.int (s + a)) | none => .rt .non) := by
      rw [hf, saying_is, bind_s, tru_ok, op_s]
      cases hs : say x with
      | true =>
        have : mI (mD n) x = some 1 := if_pos hs
        rw [if_pos rfl, bind_s, this]; rfl
      | false =>
        rw [if_neg (by simp), said_tot hn (fun a b r e => h x List.mem_cons_self a b r e) hs, bind_s, bind_s, iND, op_s]
        cases mI (mD n) x with
        | none => rfl
        | some a => rfl
    rw [em]
    cases hm : mI (mD n) x with
    | none =>
      rw [hm] at one
      rw [forF_rt one]
    | some a =>
      rw [hm] at one
      rw [forF_nx one, people_loopD hn hf ds _ fun y hy => h y (List.mem_cons_of_mem _ hy)]
      cases mL (mD n) ds with
      | none => rfl
      | some b =>
        show Res.ok (Flow.nx (D.int (s + a + b))) = .ok (.nx (.int (s + ((a + b : Nat) : Int))))
        rw [Int.natCast_add, Int.add_assoc]
theorem mL_bnd {f : D → Option Nat} {B : Nat} (B1 : 1 ≤ B) : ∀ {ds : List D} {m : Nat}, (∀ x, x ∈ ds → ∀ a, mI f x = some a → a ≤ B) → mL f ds = some m → m ≤ ds.length * B
  | [], m, _, e => by cases e; exact Nat.zero_le _
  | x :: ds, m, h, e => by
    have em : mL f (x :: ds) = match mI f x, mL f ds with
        | some a, some b => some (a + b)
        | _, _ => none := rfl
    rw [em] at e
    cases hx : mI f x with
    | none => rw [hx] at e; cases e
    | some a =>
      cases hd : mL f ds with
      | none => rw [hx, hd] at e; cases e
      | some b =>
        rw [hx, hd] at e
        have e : a + b = m := Option.some.inj e
        have h1 := h x List.mem_cons_self a hx
        have h2 := mL_bnd B1 (fun y hy => h y (List.mem_cons_of_mem _ hy)) hd
        rw [List.length_cons, Nat.succ_mul]
        omega
theorem peopleof_tot : ∀ (n : Nat) (d : D), n ≤ 20 → Gd n d → d_t_people_of n [d] = .ok (eN (mD n d)) ∧ ∀ m, mD n d = some m → m < 2 ^ (130 * n)
  | 0, _, _, h => h.elim
  | n + 1, d, hn, h => by
    obtain ⟨h0, h⟩ := h
    have core : ∀ ds, (d = .lst ds ∨ d = .tup ds) → fbind (forF ds (D.int 0) fun d4 s3 =>
        (((d_t_is_saying [d4]).bind fun a6 => op (truD a6) fun b7 => if b7 = true then (.ok (D.int 1)) else ((d_t_people_said (d_t_people_of n) [d4]).bind fun a8 => .ok a8) : Res (D))).bind fun a5 => op (isND a5 D.non) fun b9 => if b9 = true then (.ok (.rt (D.non))) else (op (iaddD s3 a5) fun t10 => .ok (.nx t10))) (fun s11 => .ok s11) = .ok (eN (mL (mD n) ds)) ∧ ∀ m, mL (mD n) ds = some m → m < 2 ^ (130 * (n + 1)) := fun ds hd => by
      obtain ⟨hl, hx⟩ := h ds hd
      have it : ∀ x, x ∈ ds → ∀ a b r, x = .tup [a, b, r] → d_t_people_of n [r] = .ok (eN (mD n r)) ∧ (∀ m, mD n r = some m → m < 2 ^ (130 * n)) ∧ ∀ i, b = .int i → i < 2 ^ 110 := fun x hm a b r e => by
        obtain ⟨g, k⟩ := hx x hm a b r e
        obtain ⟨p1, p2⟩ := peopleof_tot n r (by omega) g
        exact ⟨p1, p2, k⟩
      refine ⟨?_, fun m em => ?_⟩
      · rw [people_loopD (by omega) (fun _ _ => rfl) ds 0 it]
        cases mL (mD n) ds with
        | none => rfl
        | some m =>
          show Res.ok (D.int (0 + (m : Int))) = .ok (.int m)
          rw [Int.zero_add]
      · have b := mL_bnd (f := mD n) (B := 2 ^ (110 + 130 * n)) (Nat.one_le_two_pow) (ds := ds) (m := m) (fun x hm a ea => by
          unfold mI at ea
          by_cases hs : say x = true
          · rw [if_pos hs] at ea
            cases ea
            exact Nat.one_le_two_pow
          · rw [if_neg hs] at ea
            split at ea
            · rename_i a' b r
              by_cases hag : isAgD a' = true
              · rw [if_pos hag] at ea
                obtain ⟨_, p2, k⟩ := it _ hm a' b r rfl
                cases hb : natD b with
                | none => rw [hb] at ea; cases ea
                | some k' =>
                  cases hr : mD n r with
                  | none => rw [hb, hr] at ea; cases ea
                  | some m' =>
                    rw [hb, hr] at ea
                    have ea : k' * m' = a := Option.some.inj ea
                    have hm' := p2 m' hr
                    have hk : k' < 2 ^ 110 := by
                      cases b <;> first | cases hb | skip
                      rename_i i
                      have hb : (if 0 ≤ i then some i.toNat else none) = some k' := hb
                      by_cases i0 : 0 ≤ i
                      · rw [if_pos i0] at hb
                        have hb : i.toNat = k' := Option.some.inj hb
                        have := k i rfl
                        omega
                      · rw [if_neg i0] at hb; cases hb
                    rw [← ea, Nat.pow_add]
                    exact Nat.mul_le_mul (Nat.le_of_lt hk) (Nat.le_of_lt hm')
              · rw [if_neg hag] at ea; cases ea
            · cases ea) em
        have l : ds.length * 2 ^ (110 + 130 * n) ≤ 2 ^ 16 * 2 ^ (110 + 130 * n) := Nat.mul_le_mul_right _ hl
        rw [← Nat.pow_add] at l
        have : (2 : Nat) ^ (16 + (110 + 130 * n)) < 2 ^ (130 * (n + 1)) := Nat.pow_lt_pow_right (by decide) (by omega)
        omega
    have no : isLst d = false → isTup d = false → d_t_people_of (n + 1) [d] = .ok .non := fun a b => by
      unfold d_t_people_of
      rw [a, b, if_pos (show (!(false || false)) = true from rfl)]
    cases d with
    | lst ds =>
      obtain ⟨c1, c2⟩ := core ds (.inl rfl)
      refine ⟨?_, c2⟩
      unfold d_t_people_of
      rw [if_neg (by simp [isLst]), show asL (.lst ds) = some ds from rfl, op_s]
      exact c1
    | tup ds =>
      obtain ⟨c1, c2⟩ := core ds (.inr rfl)
      refine ⟨?_, c2⟩
      unfold d_t_people_of
      rw [if_neg (by simp [isTup]), show asL (.tup ds) = some ds from rfl, op_s]
      exact c1
    | scr ns => exact absurd rfl (h0 ns)
    | _ => exact ⟨no rfl rfl, fun m e => nomatch e⟩

/-! ### the law's own count of a thing -/
theorem lnumber_ok (d : D) : d_l_is_number [d] = .ok (.bl (cnt d)) := by
  unfold d_l_is_number
  cases d <;> first | rfl | skip
theorem nin23 {k : Int} : notInD (.int k) (.tup [.int 2, .int 3]) = some (!(decide (k = 2) || decide (k = 3))) := by
  show some (!decide (k ∈ [(2 : Int), 3])) = _
  congr 2
  simp
theorem mI_no {n : Nat} {d : D} (h0 : say d = false) (h : ∀ a b r, d ≠ .tup [a, b, r]) : mI (mD n) d = none := by
  unfold mI
  rw [if_neg (by rw [h0]; simp)]
  split
  · rename_i a b r
    exact absurd rfl (h a b r)
  · rfl
theorem noneD_is (d : D) : notND d .non = some (!noneD d) := by
  cases d <;> rfl
theorem mI3 {n : Nat} {a b r : D} : mI (mD n) (.tup [a, b, r]) = if isAgD a = true then (match natD b, mD n r with
    | some k, some m => some (k * m)
    | _, _ => none) else none := by
  have hs : say (.tup [a, b, r]) = false := rfl
  unfold mI
  rw [if_neg (by rw [hs]; simp)]
theorem lstep {n : Nat} (hn : n ≤ 20) {f : D → D → Res (LFlow D D)}
    (hf : ∀ d4 s3 : D, f d4 s3 = ((if (!(isTup d4)) = true then (.ok true) else (op (lenD [d4]) fun t6 =>
      op (notInD t6 (D.tup [(D.int 2), (D.int 3)])) fun b7 =>
      .ok b7) : Res (Bool))).bind fun a5 =>
      if a5 = true then (.ok (.rt (D.non))) else (fbind (op (lenD [d4]) fun t9 =>
      op (eqD t9 (D.int 2)) fun b10 =>
      if b10 = true then (((op (ixD d4 (D.int 0)) fun t12 =>
      (d_l_is_number [t12]).bind fun a13 =>
      op (truD a13) fun b14 =>
      if (!b14) = true then (.ok true) else (((op (ixD d4 (D.int 1)) fun t16 =>
      op (notND t16 D.non) fun b17 =>
      if b17 = true then (op (ixD d4 (D.int 1)) fun t18 =>
      (d_l_is_number [t18]).bind fun a19 =>
      op (truD a19) fun b20 =>
      .ok (!b20)) else (.ok false) : Res (Bool))).bind fun a15 =>
      .ok a15) : Res (Bool))).bind fun a11 =>
      if a11 = true then (.ok (.ex ((.rt (D.non))))) else (((op (ixD d4 (D.int 1)) fun t22 =>
      op (notND t22 D.non) fun b23 =>
      if b23 = true then (op (ixD d4 (D.int 1)) fun t24 =>
      op (ixD d4 (D.int 0)) fun t25 =>
      op (ltD t24 t25) fun b26 =>
      .ok b26) else (.ok false) : Res (Bool))).bind fun a21 =>
      if a21 = true then (.ok (.ex ((.rt (D.non))))) else (op (addD s3 (D.int 1)) fun t27 =>
      .ok (.nx t27)))) else (op (ixD d4 (D.int 2)) fun t28 =>
      (d_l_many_in n [t28]).bind fun a29 =>
      ((op (ixD d4 (D.int 0)) fun t31 =>
      if (!(isStr t31)) = true then (.ok true) else (op (ixD d4 (D.int 0)) fun t32 =>
      op (neD t32 (D.str "again")) fun b33 =>
      if b33 = true then (.ok true) else (op (ixD d4 (D.int 1)) fun t34 =>
      (d_l_is_number [t34]).bind fun a35 =>
      op (truD a35) fun b36 =>
      if (!b36) = true then (.ok true) else (op (isND a29 D.non) fun b37 =>
      .ok b37))) : Res (Bool))).bind fun a30 =>
      if a30 = true then (.ok (.ex ((.rt (D.non))))) else (op (ixD d4 (D.int 1)) fun t38 =>
      op (mulD t38 a29) fun t39 =>
      op (addD s3 t39) fun t40 =>
      .ok (.nx t40))) : Res (Flow (D) _)) fun s8 =>
      .ok (.nx s8))) {x : D} {s : Int} (ih : ∀ a b r, x = .tup [a, b, r] → d_l_many_in n [r] = .ok (eN (mD n r)) ∧ (∀ m, mD n r = some m → m < 2 ^ (130 * n)) ∧ ∀ i, b = .int i → i < 2 ^ 110) :
    f x (.int s) = .ok (match mI (mD n) x with | some a => .nx (.int (s + a)) | none => .rt .non) := by
  rw [hf]
  by_cases ht : isTup x = true
  · cases x <;> first | cases ht | skip
    rename_i ds
    have e1 : lenD [.tup ds] = some (.int ds.length) := rfl
    match ds, e1 with
    | [], _ => rw [mI_no (d := .tup []) rfl (fun _ _ _ z => nomatch z)]; rfl
    | [y], _ => rw [mI_no (d := .tup [y]) rfl (fun _ _ _ z => nomatch z)]; rfl
    | a :: b :: c :: e :: r, e1 =>
      rw [mI_no (d := .tup (a :: b :: c :: e :: r)) rfl (fun _ _ _ z => nomatch z), if_neg (by simp [isTup]), e1, op_s, nin23, op_s, bind_s, if_pos (by simp; omega)]
    | [y, z], e1 =>
      have i0 : ixD (.tup [y, z]) (.int 0) = some y := rfl
      have i1 : ixD (.tup [y, z]) (.int 1) = some z := rfl
      have q1 : notInD (.int (([y, z] : List D).length : Int)) (.tup [.int 2, .int 3]) = some false := by rw [nin23]; rfl
      have q2 : eqD (.int (([y, z] : List D).length : Int)) (.int 2) = some true := rfl
      have sy : say (.tup [y, z]) = (cnt y && (noneD z || (cnt z && leqD y z))) := rfl
      rw [if_neg (by simp [isTup]), e1, op_s, q1, op_s, bind_s, if_neg (by simp), op_s, q2, op_s, if_pos rfl, i0, op_s, lnumber_ok, bind_s, tru_ok, op_s, i1]
      cases hy : cnt y with
      | false =>
        rw [if_pos (show (!false) = true from rfl), bind_s, if_pos rfl, mI_no (d := .tup [y, z]) (by rw [sy, hy]; rfl) (fun _ _ _ z => nomatch z)]; rfl
      | true =>
        rw [if_neg (by simp), op_s, noneD_is, op_s]
        cases hz : noneD z with
        | true =>
          have : mI (mD n) (.tup [y, z]) = some 1 := if_pos (by rw [sy, hy, hz]; rfl)
          rw [if_neg (by simp), bind_s, bind_s, if_neg (by simp), op_s, noneD_is, hz, op_s, if_neg (by simp), bind_s, if_neg (by simp), addI, op_s, this]
          rfl
        | false =>
          rw [if_pos (show (!false) = true from rfl), op_s, lnumber_ok, bind_s, tru_ok, op_s, bind_s, bind_s]
          cases hc : cnt z with
          | false =>
            rw [if_pos (show (!false) = true from rfl), mI_no (d := .tup [y, z]) (by rw [sy, hy, hz, hc]; rfl) (fun _ _ _ z => nomatch z)]; rfl
          | true =>
            obtain ⟨j, rfl, j0⟩ := cnt_int hc
            obtain ⟨i, rfl, i0'⟩ := cnt_int hy
            rw [if_neg (by simp), op_s, noneD_is, hz, op_s, if_pos (show (!false) = true from rfl), op_s, op_s, ltI, op_s, bind_s]
            by_cases hl : i ≤ j
            · have : mI (mD n) (.tup [.int i, .int j]) = some 1 := if_pos (by rw [sy, hy, hz, hc]; exact decide_eq_true hl)
              rw [decide_eq_false (by omega), if_neg (by simp), addI, op_s, this]; rfl
            · have : mI (mD n) (.tup [.int i, .int j]) = none := mI_no (by
                rw [sy, hy, hz, hc]
                show decide (i ≤ j) = false
                exact decide_eq_false hl) (fun _ _ _ z => nomatch z)
              rw [decide_eq_true (by omega), if_pos rfl, this]; rfl
    | [a, b, r], e1 =>
      obtain ⟨h1, h2, h3⟩ := ih a b r rfl
      have i0 : ixD (.tup [a, b, r]) (.int 0) = some a := rfl
      have i1 : ixD (.tup [a, b, r]) (.int 1) = some b := rfl
      have i2 : ixD (.tup [a, b, r]) (.int 2) = some r := rfl
      have q1 : notInD (.int (([a, b, r] : List D).length : Int)) (.tup [.int 2, .int 3]) = some false := by rw [nin23]; rfl
      have q2 : eqD (.int (([a, b, r] : List D).length : Int)) (.int 2) = some false := rfl
      rw [if_neg (by simp [isTup]), e1, op_s, q1, op_s, bind_s, if_neg (by simp), op_s, q2, op_s, if_neg (by simp), i2, op_s, h1, bind_s, i0, op_s, mI3, i1]
      by_cases hst : isStr a = true
      · cases a <;> first | cases hst | skip
        rename_i st
        rw [if_neg (by simp [isStr]), op_s, isAgS, op_s]
        cases hag : isAgD (.str st) with
        | false => rw [if_pos (show (!false) = true from rfl), bind_s, if_pos rfl, if_neg (by simp)]; rfl
        | true =>
          rw [if_neg (by simp), op_s, lnumber_ok, bind_s, tru_ok, op_s, if_pos rfl, natD_cnt]
          cases hc : cnt b with
          | false => rw [if_pos (show (!false) = true from rfl), bind_s, if_pos rfl, if_neg (by simp)]; rfl
          | true =>
            obtain ⟨i, rfl, i0'⟩ := cnt_int hc
            rw [if_neg (by simp), iND, op_s, bind_s, if_pos rfl]
            cases hm : mD n r with
            | none => rw [if_pos (show (none : Option Nat).isNone = true from rfl)]; rfl
            | some m =>
              have hi := h3 i rfl
              obtain ⟨k, rfl⟩ : ∃ k : Nat, i = k := ⟨i.toNat, by omega⟩
              have b1 : (k : Int) < 2 ^ 4000 := Int.lt_of_lt_of_le hi (Int.le_trans (show (2 : Int) ^ 110 ≤ 2 ^ 250 by decide) (Int.le_of_lt p4000))
              rw [if_neg (by simp), op_s, show eN (some m) = .int (m : Int) from rfl, mulN (by omega) b1 (by omega) (nat4000 (h2 m hm) hn), op_s, addI, op_s]
              show Res.ok (LFlow.nx (D.int (s + (k : Int) * m))) = .ok (.nx (.int (s + ((((k : Int).toNat * m : Nat)) : Int))))
              rw [Int.toNat_natCast, Int.natCast_mul]
      · have hna : isAgD a = false := by cases a <;> first | rfl | exact absurd rfl hst
        rw [if_pos (by simpa using hst), bind_s, if_pos rfl, hna, if_neg (by simp)]; rfl
  · have hs : say x = false := by cases x <;> first | rfl | exact absurd rfl ht
    rw [if_pos (by simpa using ht), bind_s, if_pos rfl, mI_no hs (fun a b r z => by subst z; exact ht rfl)]
theorem lloop {n : Nat} {f : D → D → Res (LFlow D D)} : ∀ (ds : List D) (s : Int), (∀ x, x ∈ ds → ∀ s : Int, f x (.int s) = .ok (match mI (mD n) x with | some a => .nx (.int (s + a)) | none => .rt .non)) →
      forF ds (.int s) f = .ok (match mL (mD n) ds with | some m => .nx (.int (s + m)) | none => .ex .non)
  | [], s, _ => by
    rw [forF_no]
    show Res.ok (Flow.nx (D.int s)) = .ok (.nx (.int (s + ((0 : Nat) : Int))))
    rw [show s + ((0 : Nat) : Int) = s by omega]
  | x :: ds, s, h => by
    have em : mL (mD n) (x :: ds) = match mI (mD n) x, mL (mD n) ds with
        | some a, some b => some (a + b)
        | _, _ => none := rfl
    have one := h x List.mem_cons_self s
    rw [em]
    cases hm : mI (mD n) x with
    | none =>
      rw [hm] at one
      rw [forF_rt one]
    | some a =>
      rw [hm] at one
      rw [forF_nx one, lloop ds _ fun y hy => h y (List.mem_cons_of_mem _ hy)]
      cases mL (mD n) ds with
      | none => rfl
      | some b =>
        show Res.ok (Flow.nx (D.int (s + a + b))) = .ok (.nx (.int (s + ((a + b : Nat) : Int))))
        rw [Int.natCast_add, Int.add_assoc]
theorem lmany_tot : ∀ (n : Nat) (d : D), n ≤ 20 → Gd n d → d_l_many_in n [d] = .ok (eN (mD n d))
  | 0, _, _, h => h.elim
  | n + 1, d, hn, h => by
    obtain ⟨h0, h⟩ := h
    have it : ∀ ds, (d = .lst ds ∨ d = .tup ds) → ∀ x, x ∈ ds → ∀ a b r, x = .tup [a, b, r] → d_l_many_in n [r] = .ok (eN (mD n r)) ∧ (∀ m, mD n r = some m → m < 2 ^ (130 * n)) ∧ ∀ i, b = .int i → i < 2 ^ 110 := fun ds hd x hm a b r e => by
      obtain ⟨g, k⟩ := (h ds hd).2 x hm a b r e
      exact ⟨lmany_tot n r (by omega) g, (peopleof_tot n r (by omega) g).2, k⟩
    cases d with
    | lst ds =>
      unfold d_l_many_in
      rw [if_neg (by simp [isLst]), show asL (.lst ds) = some ds from rfl, op_s, lloop (n := n) ds 0 (fun x hx s => lstep (by omega) (fun _ _ => rfl) (it ds (.inl rfl) x hx))]
      show _ = Res.ok (eN (mL (mD n) ds))
      cases mL (mD n) ds with
      | none => rfl
      | some m => show Res.ok (D.int (0 + (m : Int))) = .ok (.int m); rw [Int.zero_add]
    | tup ds =>
      unfold d_l_many_in
      rw [if_neg (by simp [isTup]), show asL (.tup ds) = some ds from rfl, op_s, lloop (n := n) ds 0 (fun x hx s => lstep (by omega) (fun _ _ => rfl) (it ds (.inr rfl) x hx))]
      show _ = Res.ok (eN (mL (mD n) ds))
      cases mL (mD n) ds with
      | none => rfl
      | some m => show Res.ok (D.int (0 + (m : Int))) = .ok (.int m); rw [Int.zero_add]
    | scr ns => exact absurd rfl (h0 ns)
    | _ =>
      unfold d_l_many_in
      rfl

/-! ### things not too deep, not too long, of numbers not too great -/
def hr (L : Nat) : Nat → D → Bool
  | _, .int i => decide (i < 2 ^ 110)
  | 0, .lst _ => false
  | 0, .tup _ => false
  | n + 1, .lst ds => decide (ds.length ≤ L) && ds.all (hr L n)
  | n + 1, .tup ds => decide (ds.length ≤ L) && ds.all (hr L n)
  | _, .scr _ => false
  | _, _ => true
theorem hr_mono {L M : Nat} (l : L ≤ M) : ∀ (n m : Nat) (d : D), n ≤ m → hr L n d = true → hr M m d = true
  | 0, m, d, hm, h => by
    cases d <;> first | (cases m <;> exact h) | (cases m <;> rfl) | cases h
  | n + 1, m, d, hm, h => by
    obtain ⟨m, rfl⟩ : ∃ k, m = k + 1 := ⟨m - 1, by omega⟩
    cases d with
    | lst ds =>
      have h : (decide (ds.length ≤ L) && ds.all (hr L n)) = true := h
      rw [Bool.and_eq_true, decide_eq_true_eq, List.all_eq_true] at h
      show (decide (ds.length ≤ M) && ds.all (hr M m)) = true
      rw [Bool.and_eq_true, decide_eq_true_eq, List.all_eq_true]
      exact ⟨by omega, fun x hx => hr_mono l n m x (by omega) (h.2 x hx)⟩
    | tup ds =>
      have h : (decide (ds.length ≤ L) && ds.all (hr L n)) = true := h
      rw [Bool.and_eq_true, decide_eq_true_eq, List.all_eq_true] at h
      show (decide (ds.length ≤ M) && ds.all (hr M m)) = true
      rw [Bool.and_eq_true, decide_eq_true_eq, List.all_eq_true]
      exact ⟨by omega, fun x hx => hr_mono l n m x (by omega) (h.2 x hx)⟩
    | int i => exact h
    | scr _ => cases h
    | _ => rfl
theorem hr_seq {L m : Nat} {d : D} {ds : List D} (hd : d = .lst ds ∨ d = .tup ds) (h : hr L m d = true) : ∃ n, m = n + 1 ∧ ds.length ≤ L ∧ ∀ x, x ∈ ds → hr L n x = true := by
  cases m with
  | zero => rcases hd with rfl | rfl <;> cases h
  | succ n =>
    have h : (decide (ds.length ≤ L) && ds.all (hr L n)) = true := by rcases hd with rfl | rfl <;> exact h
    rw [Bool.and_eq_true, decide_eq_true_eq, List.all_eq_true] at h
    exact ⟨n, rfl, h.1, h.2⟩
theorem hr_of {L n : Nat} {d : D} {ds : List D} (hd : d = .lst ds ∨ d = .tup ds) (hl : ds.length ≤ L) (h : ∀ x, x ∈ ds → hr L n x = true) : hr L (n + 1) d = true := by
  have : (decide (ds.length ≤ L) && ds.all (hr L n)) = true := by
    rw [Bool.and_eq_true, decide_eq_true_eq, List.all_eq_true]
    exact ⟨hl, h⟩
  rcases hd with rfl | rfl <;> exact this
theorem hr_gd {L : Nat} (hL : L ≤ 2 ^ 16) : ∀ (n m : Nat) (d : D), m < 2 * n → hr L m d = true → Gd n d
  | 0, m, _, hm, _ => by omega
  | n + 1, m, d, hm, h => by
    refine ⟨(fun ns e => by subst e; cases m <;> cases h), fun ds hd => ?_⟩
    obtain ⟨k, rfl, hl, hx⟩ := hr_seq hd h
    refine ⟨by omega, fun x hm' a b r e => ?_⟩
    subst e
    obtain ⟨j, rfl, _, hy⟩ := hr_seq (d := .tup [a, b, r]) (.inr rfl) (hx _ hm')
    refine ⟨hr_gd hL n j r (by omega) (hy r (by simp)), fun i e => ?_⟩
    subst e
    have := hy (.int i) (by simp)
    cases j <;> exact of_decide_eq_true this
/-- the odd things -/
def oddT : List D := [.non, .bl true, .int 0, .int 3, .int (-1), .str "", .str "again", .tup [], .lst [], .dic [], .tup [.int 0], .tup [.int 0, .int 1], .lst [.int 0, .int 1], .tup [.int 2, .int 1], .tup [.int 0, .non], .tup [.non, .int 0],
  .tup [.bl true, .int 3], .tup [.int (-1), .int 2], .tup [.int 0, .str "1"], .tup [.str "again", .int 2], .tup [.str "again", .int 2, .lst [], .int 0], .lst [.str "again", .int 2, .lst []], .tup [.str "again", .int (-1), .lst []],
  .tup [.str "again", .int 3, .lst [.tup [.int 0, .int 0]]], .tup [.str "again", .non, .lst []], .tup [.str "again", .int 2, .tup [.int 0, .int 1]], .tup [.str "Again", .int 2, .lst []], .tup [.tup [.int 0, .int 1]],
  .tup [.str "again", .int (10 ^ 29), .lst [.tup [.str "again", .int 10, .lst [.tup [.int 0, .int 0]]]]], .tup [.str "again", .int 0, .lst [.tup [.str "again", .int (10 ^ 29), .lst (List.replicate 11 (.tup [.int 1, .int 1]))]]],
  .tup [.str "again", .bl true, .lst [.tup [.int 0, .int 0]]], .tup [.tup [.str "again", .int 1, .tup []]], .lst [.lst []], .tup [.int 0, .bl true], .int (10 ^ 20), .tup [.int (10 ^ 29), .int (10 ^ 29 + 1)]]
theorem odd_hr : oddT.all (hr 16 5) = true := by decide +kernel

/-! ### the urn -/
def UrnOk (N : Nat) (t : List D) : Prop := ∃ a b c : Int, t = [.int a, .int b, .int c] ∧ 0 ≤ a ∧ 0 ≤ b ∧ b < 2 ^ 200 ∧ 0 ≤ c ∧ c ≤ N
theorem UrnOk.mono {N M : Nat} {t : List D} (h : UrnOk N t) (l : N ≤ M) : UrnOk M t := by
  obtain ⟨a, b, c, e, h1, h2, h3, h4, h5⟩ := h
  exact ⟨a, b, c, e, h1, h2, h3, h4, by omega⟩
theorem u10_41 : powD (.int 10) (.int 41) = some (.int (10 ^ 41)) := powI (by decide)
theorem u10_42 : powD (.int 10) (.int 42) = some (.int (10 ^ 42)) := powI (by decide)
theorem u10_43 : powD (.int 10) (.int 43) = some (.int (10 ^ 43)) := powI (by decide)
theorem ball_k {N : Nat} {t : List D} {w : Int} (h : UrnOk N t) (hN : N < 2 ^ 60) (hw : 0 < w) (hz : w < 2 ^ 200) : Ok (d_l_ball [.lst t, .int w]) fun a => ∃ r t', a = (.int r, t') ∧ 0 ≤ r ∧ r < w ∧ UrnOk (N + 1) t' := by
  obtain ⟨a, b, c, rfl, h1, h2, h3, h4, h5⟩ := h
  have i0 : ∀ x y z : D, ixD (.lst [x, y, z]) (.int 0) = some x := fun _ _ _ => rfl
  have i1 : ∀ x y z : D, ixD (.lst [x, y, z]) (.int 1) = some y := fun _ _ _ => rfl
  have i2 : ∀ x y z : D, ixD (.lst [x, y, z]) (.int 2) = some z := fun _ _ _ => rfl
  have s0 : ∀ x y z d : D, setL [x, y, z] (.int 0) d = some [d, y, z] := fun _ _ _ _ => rfl
  have s2 : ∀ x y z d : D, setL [x, y, z] (.int 2) d = some [x, y, d] := fun _ _ _ _ => rfl
  have hz2 : w < 2 ^ 250 := Int.lt_trans hz (by decide)
  unfold d_l_ball
  simp only [i0, i1, i2, op_s, gtI]
  by_cases hp : 0 < a
  · rw [if_pos (by simpa using hp)]
    simp only [modI hw, divI hw hz2, op_s, s0]
    exact ⟨_, rfl, a % w, _, rfl, Int.emod_nonneg _ (by omega), Int.emod_lt_of_pos _ hw, a / w, b, c, rfl, Int.ediv_nonneg h1 (by omega), h2, h3, h4, by omega⟩
  · rw [if_neg (by simpa using hp)]
    have c1 : (0 : Int) ≤ c + 1 := by omega
    have c2 : c + 1 < 2 ^ 61 := by omega
    have m1 : mulD (.int 86028121) (.int (c + 1)) = some (.int (86028121 * (c + 1))) := mulI (by decide) (by decide) c1 (Int.lt_trans c2 (by decide))
    have m2 : mulD (.int 15485867) (.int (c + 1)) = some (.int (15485867 * (c + 1))) := mulI (by decide) (by decide) c1 (Int.lt_trans c2 (by decide))
    have e1 : (0 : Int) ≤ b + 86028121 * (c + 1) := by omega
    have e2 : b + 86028121 * (c + 1) < 2 ^ 250 := Int.lt_trans (show _ < (2 : Int) ^ 201 by omega) (by decide)
    have q1 : (0 : Int) < 10 ^ 43 + 61 := by decide
    have q2 : (0 : Int) < 10 ^ 42 + 11 := by decide
    have f1 : (0 : Int) ≤ (b + 86028121 * (c + 1)) ^ 3 % (10 ^ 43 + 61) := Int.emod_nonneg _ (by decide)
    have f2 : (b + 86028121 * (c + 1)) ^ 3 % (10 ^ 43 + 61) < 10 ^ 43 + 61 := Int.emod_lt_of_pos _ q1
    have f3 : (b + 86028121 * (c + 1)) ^ 3 % (10 ^ 43 + 61) < 2 ^ 250 := Int.lt_trans f2 (by decide)
    simp only [addI, op_s, s2, i1, i2, m1, m2, pow3 e1 e2, u10_43, modI q1, mulI f1 f3 f1 f3, u10_42, modI q2, divI (a := _) (b := 1299827) (by decide) (by decide), modI hw]
    exact ⟨_, rfl, _, _, rfl, Int.emod_nonneg _ (by omega), Int.emod_lt_of_pos _ hw, a, b, c + 1, rfl, h1, h2, h3, c1, by omega⟩
theorem urn_k {ns : List Int} {k : Nat} (hk : k < 100) : Ok (d_l_urn [.scr ns, .int k]) (UrnOk 0) := by
  unfold d_l_urn
  dsimp only
  have e1 : lenD [.scr ns] = some (.int ns.length) := rfl
  have cell : ∃ c : Int, ((op (lenD [.scr ns]) fun t13 => op (ltD (.int k) t13) fun b14 => if b14 = true then (op (ixD (.scr ns) (.int k)) fun t15 => .ok t15) else (.ok (D.int 0)) : Res (D))) = .ok (.int c) := by
    rw [e1, op_s, ltI, op_s]
    by_cases h : (k : Int) < ns.length
    · rw [if_pos (by simpa using h)]
      have hk2 : k < ns.length := by omega
      have e : ixD (.scr ns) (.int k) = some (.int ns[k]) := by
        show (atI ns (k : Int)).map D.int = _
        unfold atI ixN
        rw [if_pos (by omega), if_pos h]
        simp [List.getElem?_eq_getElem hk2]
      rw [e, op_s]
      exact ⟨_, rfl⟩
    · rw [if_neg (by simpa using h)]
      exact ⟨0, rfl⟩
  obtain ⟨c, ec⟩ := cell
  rw [ec, bind_s]
  have q : (0 : Int) < 10 ^ 41 + 3 := by decide
  have f1 : 0 ≤ c % (10 ^ 41 + 3) := Int.emod_nonneg _ (by decide)
  have f2 : c % (10 ^ 41 + 3) < 10 ^ 41 + 3 := Int.emod_lt_of_pos _ q
  have m1 : mulD (.int (c % (10 ^ 41 + 3))) (.int 128) = some (.int (c % (10 ^ 41 + 3) * 128)) := mulI f1 (by omega) (by decide) (by decide)
  have m2 : mulD (.int 3) (.int k) = some (.int (3 * k)) := mulI (by decide) (by decide) (by omega) (by omega)
  simp only [op_s, abs_ok, p10_18, subI, max2I, u10_41, addI, modI q, m1, m2]
  refine ⟨_, rfl, _, _, 0, rfl, ?_, ?_, ?_, by omega, by omega⟩
  · split <;> omega
  · omega
  · omega
theorem lsaying_k {N : Nat} {t : List D} {w : Int} (h : UrnOk N t) (hN : N + 9 < 2 ^ 60) (hw : 0 < w) (hz : w < 2 ^ 150) : Ok (d_l_saying [.lst t, .int w]) fun a => ∃ (s : Say) (t' : List D), a = (eS s, t') ∧ okS (2 * w + 20) s ∧ UrnOk (N + 9) t' := by
  unfold d_l_saying
  dsimp only
  refine Ok.bnd (ball_k h (by omega) (by decide) (by decide)) ?_
  rintro _ ⟨r1, t1, rfl, p1, q1, k1⟩
  refine Ok.bnd (ball_k k1 (by omega) hw (by omega)) ?_
  rintro _ ⟨r2, t2, rfl, p2, q2, k2⟩
  refine Ok.bnd (ball_k k2 (by omega) hw (by omega)) ?_
  rintro _ ⟨r3, t3, rfl, p3, q3, k3⟩
  refine Ok.bnd (ball_k k3 (by omega) (by decide) (by decide)) ?_
  rintro _ ⟨r4, t4, rfl, p4, q4, k4⟩
  dsimp only
  have pick : ∃ l : Int, ixD (D.lst [(D.int 0), .int r1, .int r2, .int r3]) (.int r4) = some (.int l) ∧ 0 ≤ l ∧ l < w + 4 := by
    have : r4 = 0 ∨ r4 = 1 ∨ r4 = 2 ∨ r4 = 3 := by omega
    rcases this with rfl | rfl | rfl | rfl
    · exact ⟨0, rfl, by omega, by omega⟩
    · exact ⟨r1, rfl, by omega, by omega⟩
    · exact ⟨r2, rfl, by omega, by omega⟩
    · exact ⟨r3, rfl, by omega, by omega⟩
  obtain ⟨l, el, l0, l1⟩ := pick
  refine Ok.op el (Ok.bnd (ball_k k4 (by omega) (by decide) (by decide)) ?_)
  rintro _ ⟨r5, t5, rfl, p5, q5, k5⟩
  refine Ok.op eqI (Ok.ite (fun hb => Ok.ret ⟨(l, none), t5, rfl, ⟨l0, by show l < _; omega, fun b e => nomatch e⟩, k5.mono (by omega)⟩) fun hb => ?_)
  have hb : r5 ≠ 4 := by simpa using hb
  refine Ok.bnd (ball_k k5 (by omega) (by decide) (by decide)) ?_
  rintro _ ⟨r6, t6, rfl, p6, q6, k6⟩
  refine Ok.bnd (ball_k k6 (by omega) (by decide) (by decide)) ?_
  rintro _ ⟨r7, t7, rfl, p7, q7, k7⟩
  refine Ok.bnd (ball_k k7 (by omega) hw (by omega)) ?_
  rintro _ ⟨r8, t8, rfl, p8, q8, k8⟩
  dsimp only
  have pick : ∃ m : Int, ixD (D.lst [(D.int 0), .int r6, .int r7, .int r8]) (.int r5) = some (.int m) ∧ 0 ≤ m ∧ m < w + 9 := by
    have : r5 = 0 ∨ r5 = 1 ∨ r5 = 2 ∨ r5 = 3 := by omega
    rcases this with rfl | rfl | rfl | rfl
    · exact ⟨0, rfl, by omega, by omega⟩
    · exact ⟨r6, rfl, by omega, by omega⟩
    · exact ⟨r7, rfl, by omega, by omega⟩
    · exact ⟨r8, rfl, by omega, by omega⟩
  obtain ⟨m, em, m0, m1⟩ := pick
  exact Ok.op em (Ok.op addI (Ok.ret ⟨(l, some (l + m)), t8, rfl, ⟨l0, by show l < _; omega, fun b e => by cases e; exact ⟨by show l ≤ l + m; omega, by omega⟩⟩, k8.mono (by omega)⟩))

/-! ### odd things, bent ones -/
theorem odd_mem {L n : Nat} (hL : 16 ≤ L) (hn : 5 ≤ n) {d : D} (h : d ∈ oddT) : hr L n d = true := hr_mono hL 5 n d hn (List.all_eq_true.mp odd_hr d h)
theorem odd_k {N : Nat} {t : List D} (h : UrnOk N t) (hN : N < 2 ^ 60) : Ok (d_l_odd [.lst t]) fun a => ∃ (d : D) (t' : List D), a = (d, t') ∧ d ∈ oddT ∧ UrnOk (N + 1) t' := by
  have p20 : powD (.int 10) (.int 20) = some (.int (10 ^ 20)) := powI (by decide)
  have p29 : powD (.int 10) (.int 29) = some (.int (10 ^ 29)) := powI (by decide)
  have m11 : mulX (.lst [.tup [.int 1, .int 1]]) (.int 11) = some (.lst (List.replicate 11 (.tup [.int 1, .int 1]))) := by
    show (if -(2 ^ 63) ≤ (11 : Int) ∧ (11 : Int) < 2 ^ 63 ∧ [D.tup [.int 1, .int 1]].length * (11 : Int).toNat ≤ sizeLine then some (D.lst (repD [D.tup [.int 1, .int 1]] 11)) else none) = _
    rw [if_pos ⟨by decide, by decide, by show 1 * 11 ≤ sizeLine; decide⟩]; rfl
  unfold d_l_odd
  dsimp only
  rw [negI, op_s, op_s, op_s, addL (by decide), op_s, addL (by decide), op_s, p29, op_s, op_s, m11, op_s, addL (by decide), op_s, p20, op_s, op_s, op_s, addI, op_s, addL (by decide), op_s]
  have e : ∀ l : List D, l.length = 36 → lenD [.lst l] = some (.int 36) := fun l hl => by
    show some (D.int (l.length : Nat)) = _
    rw [hl]; rfl
  rw [e _ rfl, op_s]
  refine Ok.bnd (ball_k h (by omega) (by decide) (by decide)) ?_
  rintro _ ⟨r, t1, rfl, a1, b1, k1⟩
  obtain ⟨j, rfl⟩ : ∃ j : Nat, r = j := ⟨r.toNat, by omega⟩
  have hj : j < oddT.length := by show j < 36; omega
  have ex : ixD (.lst oddT) (.int j) = some oddT[j] := ix_at (List.getElem?_eq_getElem hj)
  refine Ok.op (a := oddT[j]) ?_ (Ok.ret ⟨oddT[j], t1, rfl, List.getElem_mem hj, k1⟩)
  exact ex

/-! ### greater things shown -/
def Sz2 (n w : Nat) (d : D) : Prop := noS d = true ∧ (toP d).showable = true ∧ (toP d).leavesShort 62 = true ∧ (toP d).depth ≤ n ∧ (toP d).weight ≤ w
theorem Sz2.mono {n w n' w' : Nat} {d : D} (h : Sz2 n w d) (h1 : n ≤ n') (h2 : w ≤ w') : Sz2 n' w' d := ⟨h.1, h.2.1, h.2.2.1, Nat.le_trans h.2.2.2.1 h1, Nat.le_trans h.2.2.2.2 h2⟩
/-! ### greater texts, by what they hold -/
def Bk (n w : Nat) (d : D) : Prop := noS d = true ∧ (toP d).showable = true ∧ (toP d).leavesShort 62 = true ∧ (toP d).depth ≤ n ∧ (toP d).bulk ≤ w
theorem Bk.mono {n w n' w' : Nat} {d : D} (h : Bk n w d) (h1 : n ≤ n') (h2 : w ≤ w') : Bk n' w' d := ⟨h.1, h.2.1, h.2.2.1, Nat.le_trans h.2.2.2.1 h1, Nat.le_trans h.2.2.2.2 h2⟩
theorem bk_int {i : Int} (h0 : 0 ≤ i) (h : i < 2 ^ 200) : Bk 0 0 (.int i) := by
  obtain ⟨a1, a2, _, a4, _⟩ := sz_int h0 h
  refine ⟨a1, a2, ?_, a4, by simp [toP, PyData.bulk]⟩
  simp only [toP, PyData.leavesShort]
  exact decide_eq_true (Nat.le_trans (toString_length_le h0 (k := 61) (by decide) (Int.lt_trans h (by decide))) (by decide))
theorem bk_non : Bk 0 0 .non := ⟨rfl, rfl, rfl, by simp [toP, PyData.depth], by simp [toP, PyData.bulk]⟩
theorem bk_all {n w : Nat} : ∀ {ds : List D}, (∀ x, x ∈ ds → Bk n w x) → noSs ds = true ∧ PyData.showableAll (toPs ds) = true ∧ PyData.leavesShortAll 62 (toPs ds) = true ∧ PyData.depthAll (toPs ds) ≤ n ∧ PyData.bulkAll (toPs ds) ≤ (w + 1) * ds.length
  | [], _ => ⟨rfl, rfl, rfl, Nat.zero_le _, Nat.zero_le _⟩
  | d :: ds, h => by
    obtain ⟨a1, a2, a3, a4, a5⟩ := h d List.mem_cons_self
    obtain ⟨b1, b2, b3, b4, b5⟩ := bk_all (ds := ds) fun x hx => h x (List.mem_cons_of_mem _ hx)
    refine ⟨by simp [noSs, a1, b1], by simp [toPs, PyData.showableAll, a2, b2], by simp [toPs, PyData.leavesShortAll, a3, b3], ?_, ?_⟩
    · simp only [toPs, PyData.depthAll]; omega
    · simp only [toPs, PyData.bulkAll, List.length_cons, Nat.mul_add]; omega
theorem bk_ok {d : D} (h : Bk 60 200000 d) : ∃ v, rprD [d] = some (.str v) := by
  obtain ⟨a1, a2, a3, a4, a5⟩ := h
  have := PyData.shown_le_bulk 62 (by decide) (toP d) a3
  have e : sizeLine = 16777216 := by decide
  exact ⟨_, if_pos ⟨a1, a2, a4, by omega⟩⟩

/-! ### texts of lists, part by part -/
def BkA (n w : Nat) (ds : List D) : Prop := noSs ds = true ∧ PyData.showableAll (toPs ds) = true ∧ PyData.leavesShortAll 62 (toPs ds) = true ∧ PyData.depthAll (toPs ds) ≤ n ∧ PyData.bulkAll (toPs ds) ≤ w
theorem BkA.nil {n w : Nat} : BkA n w [] := ⟨rfl, rfl, rfl, Nat.zero_le _, Nat.zero_le _⟩
theorem bka_cons {n w : Nat} {d : D} {ds : List D} : BkA n w (d :: ds) ↔ ∃ a b, Bk n a d ∧ BkA n b ds ∧ a + b + 1 ≤ w := by
  constructor
  · rintro ⟨h1, h2, h3, h4, h5⟩
    simp only [noSs, Bool.and_eq_true] at h1
    simp only [toPs, PyData.showableAll, Bool.and_eq_true] at h2
    simp only [toPs, PyData.leavesShortAll, Bool.and_eq_true] at h3
    simp only [toPs, PyData.depthAll] at h4
    simp only [toPs, PyData.bulkAll] at h5
    exact ⟨_, _, ⟨h1.1, h2.1, h3.1, by omega, Nat.le_refl _⟩, ⟨h1.2, h2.2, h3.2, by omega, Nat.le_refl _⟩, by omega⟩
  · rintro ⟨a, b, ⟨a1, a2, a3, a4, a5⟩, ⟨b1, b2, b3, b4, b5⟩, l⟩
    refine ⟨by simp [noSs, a1, b1], by simp [toPs, PyData.showableAll, a2, b2], by simp [toPs, PyData.leavesShortAll, a3, b3], ?_, ?_⟩
    · simp only [toPs, PyData.depthAll]; omega
    · simp only [toPs, PyData.bulkAll]; omega
theorem BkA.mono {n w n' w' : Nat} {ds : List D} (h : BkA n w ds) (h1 : n ≤ n') (h2 : w ≤ w') : BkA n' w' ds := ⟨h.1, h.2.1, h.2.2.1, Nat.le_trans h.2.2.2.1 h1, Nat.le_trans h.2.2.2.2 h2⟩
theorem bka_app {n : Nat} {ys : List D} {b : Nat} (hy : BkA n b ys) : ∀ {xs : List D} {a : Nat}, BkA n a xs → BkA n (a + b) (xs ++ ys)
  | [], a, h => hy.mono (Nat.le_refl _) (by omega)
  | x :: xs, a, h => by
    obtain ⟨p, q, h1, h2, l⟩ := bka_cons.mp h
    exact bka_cons.mpr ⟨p, q + b, h1, bka_app hy h2, by omega⟩
theorem bka_sub {n w : Nat} {xs ys : List D} (s : ys.Sublist xs) (h : BkA n w xs) : BkA n w ys := by
  induction s generalizing w with
  | slnil => exact h
  | cons x s ih =>
    obtain ⟨p, q, h1, h2, l⟩ := bka_cons.mp h
    exact (ih h2).mono (Nat.le_refl _) (by omega)
  | cons_cons x s ih =>
    obtain ⟨p, q, h1, h2, l⟩ := bka_cons.mp h
    exact bka_cons.mpr ⟨p, q, h1, ih h2, by omega⟩
theorem bka_cut {n w : Nat} {xs : List D} {a b : Option Int} (h : BkA n w xs) : BkA n w (cutD xs a b) := bka_sub ((List.take_sublist _ _).trans (List.drop_sublist _ _)) h
/-- one exchanged: what the old one weighed goes -/
theorem bka_set {n : Nat} {y : D} {c : Nat} : ∀ {xs : List D} {i w : Nat} {x : D}, BkA n w xs → xs[i]? = some x → Bk n c y → BkA n (w + c - (toP x).bulk) (xs.set i y)
  | [], i, w, x, h, e, _ => by simp at e
  | x :: xs, 0, w, x', h, e, hy => by
    have e : x = x' := by simpa using e
    subst e
    obtain ⟨p, q, h1, h2, l⟩ := bka_cons.mp h
    have := h1.2.2.2.2
    have q' : BkA n (w - 1 - (toP x).bulk) xs := by
      obtain ⟨g1, g2, g3, g4, g5⟩ := h
      refine ⟨h2.1, h2.2.1, h2.2.2.1, h2.2.2.2.1, ?_⟩
      simp only [toPs, PyData.bulkAll] at g5
      omega
    have g5 := h.2.2.2.2
    simp only [toPs, PyData.bulkAll] at g5
    exact bka_cons.mpr ⟨c, _, hy, q', by omega⟩
  | z :: xs, i + 1, w, x, h, e, hy => by
    have e : xs[i]? = some x := by simpa using e
    have g5 := h.2.2.2.2
    simp only [toPs, PyData.bulkAll] at g5
    obtain ⟨p, q, h1, h2, l⟩ := bka_cons.mp h
    have h2' : BkA n (w - 1 - (toP z).bulk) xs := ⟨h2.1, h2.2.1, h2.2.2.1, h2.2.2.2.1, by omega⟩
    have ih := bka_set (i := i) h2' e hy
    have hx : (toP x).bulk ≤ PyData.bulkAll (toPs xs) := by
      have key : ∀ {xs : List D} {i : Nat}, xs[i]? = some x → (toP x).bulk ≤ PyData.bulkAll (toPs xs) := by
        intro xs
        induction xs with
        | nil => intro i e; simp at e
        | cons u us ih =>
          intro i e
          simp only [toPs, PyData.bulkAll]
          cases i with
          | zero => have e : u = x := by simpa using e
                    subst e; omega
          | succ i => have := ih (i := i) (by simpa using e); omega
      exact key e
    refine bka_cons.mpr ⟨(toP z).bulk, _, ⟨h1.1, h1.2.1, h1.2.2.1, h1.2.2.2.1, Nat.le_refl _⟩, ih, by omega⟩
theorem bka_lst {n w : Nat} {ds : List D} (h : BkA n w ds) : Bk (n + 1) w (.lst ds) := by
  obtain ⟨b1, b2, b3, b4, b5⟩ := h
  refine ⟨by simpa [noS] using b1, by simpa [toP, PyData.showable] using b2, by simpa [toP, PyData.leavesShort] using b3, ?_, by simpa [toP, PyData.bulk] using b5⟩
  simp only [toP, PyData.depth]; omega
theorem bka_tup {n w : Nat} {ds : List D} (h : BkA n w ds) : Bk (n + 1) w (.tup ds) := by
  obtain ⟨b1, b2, b3, b4, b5⟩ := h
  refine ⟨by simpa [noS] using b1, by simpa [toP, PyData.showable] using b2, by simpa [toP, PyData.leavesShort] using b3, ?_, by simpa [toP, PyData.bulk] using b5⟩
  simp only [toP, PyData.depth]; omega
theorem bka_of {n w : Nat} {d : D} {ds : List D} (hd : d = .lst ds ∨ d = .tup ds) (h : Bk n w d) : ∃ k, n = k + 1 ∧ BkA k w ds := by
  rcases hd with rfl | rfl
  all_goals
    obtain ⟨b1, b2, b3, b4, b5⟩ := h
    simp only [toP, PyData.depth] at b4
    refine ⟨n - 1, by omega, by simpa [noS] using b1, by simpa [toP, PyData.showable] using b2, by simpa [toP, PyData.leavesShort] using b3, by omega, by simpa [toP, PyData.bulk] using b5⟩
theorem bka_mem {n w : Nat} : ∀ {ds : List D} {x : D}, BkA n w ds → x ∈ ds → Bk n (toP x).bulk x
  | d :: ds, x, h, hx => by
    obtain ⟨p, q, h1, h2, l⟩ := bka_cons.mp h
    rcases List.mem_cons.mp hx with rfl | hx
    · exact ⟨h1.1, h1.2.1, h1.2.2.1, h1.2.2.2.1, Nat.le_refl _⟩
    · exact bka_mem h2 hx
theorem bka_bulk {n w : Nat} : ∀ {ds : List D} {x : D}, BkA n w ds → x ∈ ds → (toP x).bulk + 1 ≤ w
  | d :: ds, x, h, hx => by
    obtain ⟨p, q, h1, h2, l⟩ := bka_cons.mp h
    rcases List.mem_cons.mp hx with rfl | hx
    · have := h1.2.2.2.2; omega
    · have := bka_bulk h2 hx; omega
theorem bka_all {n w : Nat} : ∀ {ds : List D}, (∀ x, x ∈ ds → Bk n w x) → BkA n ((w + 1) * ds.length) ds := fun h => bk_all h
def bkB (n w : Nat) (d : D) : Bool := noS d && (toP d).showable && (toP d).leavesShort 62 && decide ((toP d).depth ≤ n) && decide ((toP d).bulk ≤ w)
theorem bkB_ok {n w : Nat} {d : D} (h : bkB n w d = true) : Bk n w d := by
  unfold bkB at h
  simp only [Bool.and_eq_true, decide_eq_true_eq] at h
  exact ⟨h.1.1.1.1, h.1.1.1.2, h.1.1.2, h.1.2, h.2⟩
mutual
def okb : D → Bool
  | .int i => decide (-1 ≤ i) && decide (i < 2 ^ 110)
  | .str s => bkB 0 10 (.str s)
  | .lst ds => okbs ds
  | .tup ds => okbs ds
  | .dic kvs => kvs.isEmpty
  | .non => true
  | .bl _ => true
  | _ => false
def okbs : List D → Bool
  | [] => true
  | d :: ds => okb d && okbs ds
end
mutual
def blk : D → Nat
  | .str _ => 10
  | .lst ds => blks ds
  | .tup ds => blks ds
  | _ => 0
def blks : List D → Nat
  | [] => 0
  | d :: ds => blk d + blks ds + 1
end
mutual
def dpt : D → Nat
  | .lst ds => dpts ds + 1
  | .tup ds => dpts ds + 1
  | .dic _ => 1
  | _ => 0
def dpts : List D → Nat
  | [] => 0
  | d :: ds => max (dpt d) (dpts ds)
end
theorem bk_m1 : Bk 0 0 (.int (-1)) := bkB_ok (by decide +kernel)
theorem bk_d0 : Bk 1 0 (.dic []) := bkB_ok (by decide +kernel)
theorem bk_bl (b : Bool) : Bk 0 0 (.bl b) := by cases b <;> exact bkB_ok (by decide +kernel)
mutual
theorem okb_bk : ∀ (d : D), okb d = true → Bk (dpt d) (blk d) d
  | .int i, h => by
    have h : (decide (-1 ≤ i) && decide (i < 2 ^ 110)) = true := h
    rw [Bool.and_eq_true, decide_eq_true_eq, decide_eq_true_eq] at h
    by_cases z : i = -1
    · subst z; exact bk_m1
    · exact bk_int (by omega) (by omega)
  | .str s, h => bkB_ok h
  | .lst ds, h => bka_lst (okbs_bk ds h)
  | .tup ds, h => bka_tup (okbs_bk ds h)
  | .dic [], _ => bk_d0
  | .dic (_ :: _), h => by cases h
  | .non, _ => bk_non
  | .bl b, _ => bk_bl b
  | .scr _, h => by cases h
  | .exc _ _, h => by cases h
  | .obj _ _, h => by cases h
theorem okbs_bk : ∀ (ds : List D), okbs ds = true → BkA (dpts ds) (blks ds) ds
  | [], _ => .nil
  | d :: ds, h => by
    have h : (okb d && okbs ds) = true := h
    rw [Bool.and_eq_true] at h
    exact bka_cons.mpr ⟨blk d, blks ds, (okb_bk d h.1).mono (Nat.le_max_left _ _) (Nat.le_refl _), (okbs_bk ds h.2).mono (Nat.le_max_right _ _) (Nat.le_refl _), Nat.le_refl _⟩
end
theorem odd_bkB : (oddT.all fun d => okb d && decide (dpt d ≤ 6) && decide (blk d ≤ 60)) = true := by decide +kernel
theorem odd_bk {d : D} (h : d ∈ oddT) : Bk 6 60 d := by
  have := List.all_eq_true.mp odd_bkB d h
  rw [Bool.and_eq_true, Bool.and_eq_true, decide_eq_true_eq, decide_eq_true_eq] at this
  exact (okb_bk d this.1.1).mono this.1.2 this.2
/-! ### a thing bent -/
theorem set_k {ds : List D} {r : Int} {x : D} (h0 : 0 ≤ r) (h : r < ds.length) : setL ds (.int r) x = some (ds.set r.toNat x) := by
  show (ixN ds.length r).map _ = _
  unfold ixN
  rw [if_pos h0, if_pos h]
  rfl
theorem ix_get {ds : List D} {i : Int} {x : D} (h0 : 0 ≤ i) (h : i < ds.length) (e : ixD (.lst ds) (.int i) = some x) : ds[i.toNat]? = some x := by
  have e : atI ds i = some x := e
  unfold atI ixN at e
  rw [if_pos h0, if_pos h] at e
  exact e
theorem bent_w {L : Nat} (hL : 16 ≤ L) (hl : L < 2 ^ 16) : ∀ (n m N dq wq : Nat) (t : List D) (d : D), m < n → UrnOk N t → N + 8 * n < 2 ^ 60 → hr L m d = true → Bk dq wq d →
    Ok (d_l_bent n [.lst t, d]) fun a => ∃ (d' : D) (t' : List D), a = (d', t') ∧ hr (2 * L + 1) (m + 5) d' = true ∧ Bk (dq + 6) (2 * wq + 100) d' ∧ UrnOk (N + 8 * n) t'
  | 0, m, _, _, _, _, _, hm, _, _, _, _ => by omega
  | n + 1, m, N, dq, wq, t, d, hm, h, hN, hd0, hw0 => by
    rw [d_l_bent]
    refine Ok.bnd (P := fun a => ∃ (b : Bool) (t1 : List D), a = (b, t1) ∧ UrnOk (N + 1) t1 ∧ (b = false → (isLst d || isTup d) = true)) ?_ ?_
    · refine Ok.ite (fun c => Ok.ret ⟨true, t, rfl, h.mono (by omega), nofun⟩) fun c => ?_
      refine Ok.bnd (ball_k h (by omega) (by decide) (by decide)) ?_
      rintro _ ⟨r, t1, rfl, a1, b1, k1⟩
      refine Ok.op rfl (Ok.ret ⟨_, t1, rfl, k1, fun _ => ?_⟩)
      cases e : (isLst d || isTup d)
      · rw [e] at c; exact absurd rfl c
      · rfl
    rintro _ ⟨b, t1, rfl, k1, hb⟩
    refine Ok.ite (fun c => ?_) fun c => ?_
    · refine Ok.bnd (odd_k k1 (by omega)) ?_
      rintro _ ⟨x, t2, rfl, hx, k2⟩
      exact Ok.ret ⟨x, t2, rfl, odd_mem (by omega) (by omega) hx, (odd_bk hx).mono (by omega) (by omega), k2.mono (by omega)⟩
    obtain ⟨ds, hd, et⟩ : ∃ ds, (d = .lst ds ∨ d = .tup ds) ∧ listT [d] = some ds := by
      have h1 := hb (by cases b; rfl; exact absurd rfl c)
      cases d <;> first | exact ⟨_, .inl rfl, rfl⟩ | exact ⟨_, .inr rfl, rfl⟩ | (cases h1; done) | (cases m <;> cases hd0 <;> done)
    obtain ⟨m, rfl, hlen, hx⟩ := hr_seq hd hd0
    obtain ⟨dq, rfl, hbk⟩ := bka_of hd hw0
    have hbk6 : BkA (dq + 6) wq ds := hbk.mono (by omega) (Nat.le_refl _)
    have hx' : ∀ x, x ∈ ds → hr (2 * L + 1) (m + 5) x = true := fun x hm => hr_mono (by omega) _ _ x (by omega) (hx x hm)
    have p16 : (2 : Nat) ^ 16 = 65536 := by decide
    have p200 : (65538 : Int) < 2 ^ 200 := by decide
    refine Ok.op et ?_
    have el : lenD [.lst ds] = some (.int (ds.length : Nat)) := rfl
    rw [el, op_s, addI, op_s]
    refine Ok.bnd (ball_k k1 (by omega) (by omega) (by omega)) ?_
    rintro _ ⟨i, t2, rfl, i0, i1, k2⟩
    refine Ok.bnd (ball_k k2 (by omega) (by decide) (by decide)) ?_
    rintro _ ⟨w, t3, rfl, w0, w1, k3⟩
    refine Ok.bnd (P := fun s => ∃ t4 xs, s = (t4, xs) ∧ UrnOk (N + 6 + 8 * n) t4 ∧ xs.length ≤ 2 * L + 1 ∧ BkA (dq + 6) (2 * wq + 100) xs ∧ ∀ x, x ∈ xs → hr (2 * L + 1) (m + 5) x = true) ?_ ?_
    · refine Ok.bnd (P := fun b : Bool => b = true → i < ds.length) ?_ ?_
      · dsimp only
        rw [op_s, ltI, op_s]
        refine Ok.ite (fun c => ?_) fun c => Ok.ret nofun
        exact Ok.op rfl (Ok.ret fun _ => of_decide_eq_true c)
      intro b hb
      refine Ok.ite (fun c => ?_) fun c => ?_
      · obtain ⟨x, xm, ex⟩ := ix_mem i0 (hb c)
        refine Ok.op ex ?_
        refine Ok.bnd (bent_w hL hl n m _ dq (toP x).bulk _ x (by omega) k3 (by omega) (hx x xm) (bka_mem hbk xm)) ?_
        rintro _ ⟨y, t4, rfl, hy, hyb, k4⟩
        have hbx := bka_bulk hbk xm
        have ei : ds[i.toNat]? = some x := ix_get i0 (hb c) ex
        refine Ok.op (set_k i0 (hb c)) (Ok.ret ⟨t4, _, rfl, k4.mono (by omega), by rw [List.length_set]; omega, (bka_set hbk6 ei hyb).mono (Nat.le_refl _) (by omega), fun z hz => ?_⟩)
        rcases List.mem_or_eq_of_mem_set hz with q | rfl
        · exact hx' z q
        · exact hy
      have cut2 : ∀ a b c e : Option Int, ∀ l : List D, l.length ≤ 1 → (∀ x, x ∈ l → hr (2 * L + 1) (m + 5) x = true) → BkA (dq + 6) 61 l → (cutD ds a b ++ l ++ cutD ds c e).length ≤ 2 * L + 1 ∧ BkA (dq + 6) (2 * wq + 100) (cutD ds a b ++ l ++ cutD ds c e) ∧ ∀ x, x ∈ cutD ds a b ++ l ++ cutD ds c e → hr (2 * L + 1) (m + 5) x = true := by
        intro a b c e l h1 h2 h3
        have l1 := cut_len (xs := ds) (l := a) (u := b)
        have l2 := cut_len (xs := ds) (l := c) (u := e)
        refine ⟨by rw [List.length_append, List.length_append]; omega, (bka_app (bka_cut hbk6) (bka_app h3 (bka_cut hbk6))).mono (Nat.le_refl _) (by omega), fun x hx => ?_⟩
        rw [List.mem_append, List.mem_append] at hx
        rcases hx with (q | q) | q
        · exact hx' x (cut_mem q)
        · exact h2 x q
        · exact hx' x (cut_mem q)
      have cat : ∀ a b c e : Option Int, catT (.lst (cutD ds a b)) (.lst (cutD ds c e)) = some (cutD ds a b ++ [] ++ cutD ds c e) := by
        intro a b c e
        have l1 := cut_len (xs := ds) (l := a) (u := b)
        have l2 := cut_len (xs := ds) (l := c) (u := e)
        rw [List.append_nil]
        exact if_pos (small_le (by omega))
      refine Ok.bnd (P := fun s => ∃ t4 xs, s = (t4, xs) ∧ UrnOk (N + 6 + 8 * n) t4 ∧ xs.length ≤ 2 * L + 1 ∧ BkA (dq + 6) (2 * wq + 100) xs ∧ ∀ x, x ∈ xs → hr (2 * L + 1) (m + 5) x = true) ?_ ?_
      · refine Ok.op rfl ?_
        refine Ok.ite (fun c => ?_) fun c => ?_
        · refine Ok.op rfl (Ok.op rfl (Ok.op rfl (Ok.op rfl (Ok.op rfl (Ok.op (cat _ _ _ _) (Ok.ret ⟨t3, _, rfl, k3.mono (by omega), cut2 _ _ _ _ [] (by decide) nofun .nil⟩))))))
        refine Ok.bnd (P := fun s => ∃ t4 xs, s = (t4, xs) ∧ UrnOk (N + 6 + 8 * n) t4 ∧ xs.length ≤ 2 * L + 1 ∧ BkA (dq + 6) (2 * wq + 100) xs ∧ ∀ x, x ∈ xs → hr (2 * L + 1) (m + 5) x = true) ?_ ?_
        · refine Ok.op rfl ?_
          refine Ok.ite (fun c => ?_) fun c => ?_
          · refine Ok.op rfl (Ok.op rfl (Ok.op rfl (Ok.op rfl (Ok.op rfl (Ok.op (cat _ _ _ _) (Ok.ret ⟨t3, _, rfl, k3.mono (by omega), cut2 _ _ _ _ [] (by decide) nofun .nil⟩))))))
          refine Ok.op rfl (Ok.op rfl ?_)
          refine Ok.bnd (odd_k k3 (by omega)) ?_
          rintro _ ⟨x, t4, rfl, xo, k4⟩
          have l1 := cut_len (xs := ds) (l := none) (u := some i)
          have l2 := cut_len (xs := ds) (l := some i) (u := none)
          refine Ok.op (addL (by show _ + 1 < _; omega)) (Ok.op rfl (Ok.op rfl ?_))
          refine Ok.op (a := cutD ds none (some i) ++ [x] ++ cutD ds (some i) none) (if_pos (small_le ?_)) (Ok.ret ⟨t4, _, rfl, k4.mono (by omega), cut2 _ _ _ _ [x] (by simp) (fun z hz => ?_) (bka_cons.mpr ⟨60, 0, (odd_bk xo).mono (by omega) (Nat.le_refl _), .nil, by omega⟩)⟩)
          · rw [List.length_append]; show _ + 1 + _ < _; omega
          · rw [List.mem_singleton] at hz
            subst hz
            exact odd_mem (by omega) (by omega) xo
        rintro _ ⟨t4, xs, rfl, k4, p, bq, q⟩
        exact Ok.ret ⟨t4, xs, rfl, k4, p, bq, q⟩
      rintro _ ⟨t4, xs, rfl, k4, p, bq, q⟩
      exact Ok.ret ⟨t4, xs, rfl, k4, p, bq, q⟩
    rintro _ ⟨t4, xs, rfl, k4, p, bq, q⟩
    refine Ok.bnd (ball_k k4 (by omega) (by decide) (by decide)) ?_
    rintro _ ⟨r, t5, rfl, _, _, k5⟩
    refine Ok.op rfl ?_
    obtain ⟨z, ez⟩ : ∃ z, eqD (.bl (isTup d)) (.bl (decide ((0 : Int) < r))) = some z := by
      cases isTup d <;> cases decide ((0 : Int) < r) <;> exact ⟨_, rfl⟩
    refine Ok.op ez ?_
    refine Ok.ite (fun c => ?_) fun c => ?_
    · exact Ok.op rfl (Ok.ret ⟨_, t5, rfl, hr_of (.inr rfl) p q, (bka_tup bq).mono (by omega) (Nat.le_refl _), k5.mono (by omega)⟩)
    · exact Ok.ret ⟨_, t5, rfl, hr_of (.inl rfl) p q, (bka_lst bq).mono (by omega) (Nat.le_refl _), k5.mono (by omega)⟩

/-! ### how many people a long row has -/
theorem issay_again {n : Int} {r : D} : d_t_is_saying [.tup [.str "again", .int n, r]] = .ok (.bl false) := by
  have e1 : lenD [D.tup [.str "again", .int n, r]] = some (.int 3) := rfl
  have e2 : neD (.int 3) (.int 2) = some true := rfl
  unfold d_t_is_saying
  dsimp only
  rw [if_neg (by simp [isTup]), e1, op_s, e2, op_s, if_pos rfl, bind_s, if_pos rfl]
theorem said_again {n : Nat} {r : D} {p : Nat} {f : List D → Res D} {B : Int} (hB : B ≤ 2 ^ 4000) (hn : (n : Int) < B) (hp : (p : Int) < B) (h : f [r] = .ok (.int p)) : d_t_people_said f [.tup [.str "again", .int n, r]] = .ok (.int ((n * p : Nat) : Int)) := by
  have e1 : lenD [D.tup [.str "again", .int n, r]] = some (.int 3) := rfl
  have e2 : neD (.int 3) (.int 3) = some false := rfl
  have i0 : ixD (D.tup [.str "again", .int n, r]) (.int 0) = some (.str "again") := rfl
  have i1 : ixD (D.tup [.str "again", .int n, r]) (.int 1) = some (.int n) := rfl
  have i2 : ixD (D.tup [.str "again", .int n, r]) (.int 2) = some r := rfl
  have e3 : notND (.int p) .non = some true := rfl
  have c1 : cnt (.int (n : Int)) = true := by show decide ((0 : Int) ≤ (n : Int)) = true; exact decide_eq_true (by omega)
  unfold d_t_people_said
  dsimp only
  rw [if_neg (by simp [isTup]), e1, op_s, e2, op_s, if_neg (by simp), i0, op_s, if_neg (by simp [isStr]), op_s, neS, op_s, bind_s, if_neg (by simp), i2, op_s, h, bind_s, i1, op_s, number_ok, bind_s, c1, tru_ok, op_s, if_pos rfl, e3, op_s, bind_s, if_pos rfl, op_s, mulN (by omega) (by omega) (by omega) (by omega), op_s, bind_s]
  rw [Int.natCast_mul]
theorem people_loop {B : Int} (hB : B ≤ 2 ^ 4000) {n : Nat} (ih : ∀ (xs : List It) (d : D), RowR xs d → It.deps xs < n → It.OksI B xs → d_t_people_of n [d] = .ok (.int (It.ppls xs))) {f : D → D → Res (LFlow D D)}
    (hf : ∀ d s : D, f d s = (((d_t_is_saying [d]).bind fun a6 => op (truD a6) fun b7 => if b7 = true then (.ok (D.int 1)) else ((d_t_people_said (d_t_people_of n) [d]).bind fun a8 => .ok a8) : Res (D))).bind fun a5 => op (isND a5 D.non) fun b9 => if b9 = true then (.ok (.rt (D.non))) else (op (iaddD s a5) fun t10 => .ok (.nx t10))) :
    ∀ (xs : List It) (ds : List D) (s : Int), ItsR xs ds → It.deps xs < n + 1 → It.OksI B xs → forF ds (.int s) f = .ok (.nx (.int (s + It.ppls xs)))
  | [], ds, s, h, _, _ => by
    have h : ds = [] := h
    subst h
    rw [forF_no, show s + ((It.ppls [] : Nat) : Int) = s from by show s + ((0 : Nat) : Int) = s; omega]
  | x :: xs, ds, s, h, hd, ho => by
    obtain ⟨d, r, rfl, h1, h2⟩ := h
    have hd' : max x.dep (It.deps xs) < n + 1 := hd
    have step : f d (.int s) = .ok (.nx (.int (s + x.ppl))) := by
      rw [hf]
      cases x with
      | say sa =>
        have h1 : d = eS sa := h1
        subst h1
        rw [saying_ok ho.1, bind_s, tru_ok, op_s, if_pos rfl, bind_s]
        rfl
      | again k ys =>
        obtain ⟨r', h3, rfl⟩ := h1.get
        obtain ⟨o1, o2, o3⟩ := ho.1
        have hd2 : It.deps ys + 1 ≤ max (It.deps ys + 1) (It.deps xs) := Nat.le_max_left _ _
        have hd3 : max (It.deps ys + 1) (It.deps xs) < n + 1 := hd
        rw [issay_again, bind_s, tru_ok, op_s, if_neg (by simp), said_again hB o1 o2 (ih ys r' h3 (by omega) o3), bind_s, bind_s]
        rfl
    rw [forF_nx step, people_loop hB ih hf xs r _ h2 (by omega) ho.2]
    show Res.ok (Flow.nx (D.int (s + x.ppl + It.ppls xs))) = Res.ok (Flow.nx (D.int (s + ((x.ppl + It.ppls xs : Nat) : Int))))
    rw [Int.natCast_add, Int.add_assoc]
theorem peopleof_ok {B : Int} (hB : B ≤ 2 ^ 4000) : ∀ (n : Nat) (xs : List It) (d : D), RowR xs d → It.deps xs < n → It.OksI B xs → d_t_people_of n [d] = .ok (.int (It.ppls xs))
  | 0, _, _, _, h, _ => by omega
  | n + 1, xs, d, h, hd, ho => by
    obtain ⟨ds, e, h2, h3⟩ := h.as
    unfold d_t_people_of
    rw [h3, if_neg (by simp), e, op_s, people_loop hB (peopleof_ok hB n) (fun _ _ => rfl) xs ds 0 h2 hd ho, fb_nx, Int.zero_add]
theorem strOk_s {s : String} : PyData.strOk (Str.ofString s) = true := by
  rw [PyData.strOk, Str.ofString_eq_toList, Array.all_eq_true']
  intro x hx
  have hx : x ∈ s.toList.map Char.toNat := by simpa using hx
  obtain ⟨c, _, rfl⟩ := List.mem_map.mp hx
  have := c.valid
  refine decide_eq_true ?_
  show c.val.toNat < 0x110000
  rcases this with h | h
  · have : c.val.toNat < 0xD800 := h
    omega
  · exact h.2
theorem shp_ss {s : String} : Shp 0 (.str (Str.ofString s)) := ⟨by simp only [toP, PyData.canLay0]; exact strOk_s, by simp [toP, PyData.depth]⟩
theorem eqIS {i : Int} {s : String} : eqD (.int i) (.str (Str.ofString s)) = some false := by
  rw [eqD_shp (shp_int.mono (by omega)) (shp_ss.mono (by omega)) (fun _ _ _ z => nomatch z) (fun _ _ z => nomatch z) (fun _ _ z => nomatch z)]; rfl
theorem eqAg {d : D} {x : It} (h : ItR x d) : ∃ v, ixD d (.int 0) = some v ∧ eqD v (.str "again") = some x.isAg := by
  cases x with
  | say s => have h : d = eS s := h; subst h; exact ⟨.int s.1, rfl, eqIS⟩
  | again n xs => obtain ⟨r, _, rfl⟩ := h.get; exact ⟨.str "again", rfl, eqS⟩
theorem lpeople_ok {B : Int} (hB : B ≤ 2 ^ 4000) : ∀ (n : Nat) (xs : List It) (d : D), RowR xs d → It.deps xs < n → It.OksI B xs → d_l_people n [d] = .ok (.int (It.ppls xs))
  | 0, _, _, _, h, _ => by omega
  | n + 1, xs, d, h, hd, ho => by
    obtain ⟨ds, e, h2, h3⟩ := h.as
    unfold d_l_people
    rw [e, op_s]
    have go : ∀ (xs : List It) (ds : List D) (s : Int) (f : D → D → Res D), (∀ d s, f d s = (((op (ixD d (D.int 0)) fun t6 => op (eqD t6 (D.str "again")) fun b7 => if b7 = true then (op (ixD d (D.int 1)) fun t8 => op (ixD d (D.int 2)) fun t9 => (d_l_people n [t9]).bind fun a10 => op (mulD t8 a10) fun t11 => .ok t11) else (.ok (D.int 1)) : Res (D))).bind fun a5 => op (addD s a5) fun t12 => .ok t12)) →
        ItsR xs ds → It.deps xs < n + 1 → It.OksI B xs → forS ds (.int s) f = .ok (.int (s + It.ppls xs)) := by
      intro xs
      induction xs with
      | nil =>
        intro ds s f hf h hd ho
        have h : ds = [] := h
        subst h
        rw [forS_no, show s + ((It.ppls [] : Nat) : Int) = s from by show s + ((0 : Nat) : Int) = s; omega]
      | cons x xs ih =>
        intro ds s f hf h hd ho
        obtain ⟨d, r, rfl, h1, h2⟩ := h
        have hd' : max x.dep (It.deps xs) < n + 1 := hd
        obtain ⟨v, e1, e2⟩ := eqAg h1
        have step : f d (.int s) = .ok (.int (s + x.ppl)) := by
          rw [hf, e1, op_s, e2, op_s]
          cases x with
          | say sa => rw [if_neg (by simp [It.isAg]), bind_s, addI]; rfl
          | again k ys =>
            obtain ⟨r', h3, rfl⟩ := h1.get
            obtain ⟨o1, o2, o3⟩ := ho.1
            have i1 : ixD (D.tup [.str "again", .int k, r']) (.int 1) = some (.int k) := rfl
            have i2 : ixD (D.tup [.str "again", .int k, r']) (.int 2) = some r' := rfl
            have hd2 : It.deps ys + 1 ≤ max (It.deps ys + 1) (It.deps xs) := Nat.le_max_left _ _
            have hd3 : max (It.deps ys + 1) (It.deps xs) < n + 1 := hd
            rw [if_pos (by rfl), i1, op_s, i2, op_s, lpeople_ok hB n ys r' h3 (by omega) o3, bind_s, mulN (by omega) (by omega) (by omega) (by omega), op_s, bind_s, addI]
            show Res.ok (D.int (s + (k : Int) * (It.ppls ys : Int))) = Res.ok (D.int (s + ((k * It.ppls ys : Nat) : Int)))
            rw [Int.natCast_mul]
        rw [forS_c step, ih r _ f hf h2 (by omega) ho.2]
        show Res.ok (D.int (s + x.ppl + It.ppls xs)) = Res.ok (D.int (s + ((x.ppl + It.ppls xs : Nat) : Int)))
        rw [Int.natCast_add, Int.add_assoc]
    rw [go xs ds 0 _ (fun _ _ => rfl) h2 hd ho, bind_s, Int.zero_add]

/-! ### long rows laid out -/
def rpt (n : Nat) (l : List Say) : List Say := (List.replicate n l).flatten
theorem rpt_0 {l : List Say} : rpt 0 l = [] := rfl
theorem rpt_s {n : Nat} {l : List Say} : rpt (n + 1) l = l ++ rpt n l := by unfold rpt; rw [List.replicate_succ, List.flatten_cons]
theorem rpt_len {l : List Say} : ∀ n, (rpt n l).length = n * l.length
  | 0 => by rw [rpt_0, Nat.zero_mul]; rfl
  | n + 1 => by rw [rpt_s, List.length_append, rpt_len n, Nat.add_mul, Nat.one_mul]; omega
mutual
def It.lay : It → List Say
  | .say s => [s]
  | .again n xs => rpt n (It.lays xs)
def It.lays : List It → List Say
  | [] => []
  | x :: xs => x.lay ++ It.lays xs
end
mutual
theorem It.lay_len : ∀ x : It, x.lay.length = x.ppl
  | .say s => rfl
  | .again n xs => by show (rpt n (It.lays xs)).length = n * It.ppls xs; rw [rpt_len, It.lays_len xs]
theorem It.lays_len : ∀ xs : List It, (It.lays xs).length = It.ppls xs
  | [] => rfl
  | x :: xs => by show (x.lay ++ It.lays xs).length = x.ppl + It.ppls xs; rw [List.length_append, It.lay_len x, It.lays_len xs]
end
theorem rpt_mem {l : List Say} {s : Say} : ∀ {n : Nat}, s ∈ rpt n l → s ∈ l
  | 0, h => nomatch h
  | n + 1, h => by rw [rpt_s] at h; exact (List.mem_append.mp h).elim id rpt_mem

/-! ### drawn long rows -/
def drw : Nat → Nat
  | 0 => 100
  | d + 1 => 6 * drw d + 100
theorem drw_pos : ∀ d, 100 ≤ drw d
  | 0 => Nat.le_refl _
  | d + 1 => by show 100 ≤ 6 * drw d + 100; omega
theorem long_k {B : Int} (hB : B ≤ 2 ^ 4000) : ∀ (n deep : Nat), deep < n → n ≤ 8 → ∀ (t : List D) (N : Nat) (p0 p1 p2 room : Int), UrnOk N t → N + drw deep < 2 ^ 60 → 0 ≤ p0 → p0 < 100000 → 0 ≤ p1 → p1 + 20 < B → p1 < 2 ^ 150 → 0 < p2 → p2 < 2 ^ 150 → 2 * p2 + 20 ≤ B → 0 ≤ room → room < B → room < 2 ^ 200 →
    Ok (d_l_long n [.lst t, .lst [.int p0, .int p1, .int p2], .int deep, .int room]) fun a => ∃ (xs : List It) (ds t' : List D) (q0 : Int), a = (.lst ds, t', [.int q0, .int p1, .int p2]) ∧ ItsR xs ds ∧ It.deps xs ≤ deep ∧ It.OksI B xs ∧ (It.sizs xs : Int) + q0 ≤ p0 ∧ 0 ≤ q0 ∧ (It.ppls xs : Int) ≤ room ∧ UrnOk (N + drw deep) t'
  | 0, _, h, _, _, _, _, _, _, _, _, _, _, _, _, _, _, _, _, _, _, _, _ => by omega
  | n + 1, deep, hdn, hn8, t, N, p0, p1, p2, room, hu, hN, h0, h0', h1, h1', h1'', h2, h2', h2'', hr, hr', hr'' => by
    have dp := drw_pos deep
    unfold d_l_long
    refine Ok.bnd (ball_k hu (by omega) (by decide) (by decide)) ?_
    rintro _ ⟨r1, t1, rfl, a1, b1, k1⟩
    dsimp only
    have pick : ∃ l : Int, ixD (D.lst [(D.int 3), (D.int 1), (D.int 2), (D.int 4), (D.int 5), (D.int 0)]) (.int r1) = some (.int l) ∧ 0 ≤ l ∧ l ≤ 5 := by
      have : r1 = 0 ∨ r1 = 1 ∨ r1 = 2 ∨ r1 = 3 ∨ r1 = 4 ∨ r1 = 5 := by omega
      rcases this with rfl | rfl | rfl | rfl | rfl | rfl
      · exact ⟨3, rfl, by omega, by omega⟩
      · exact ⟨1, rfl, by omega, by omega⟩
      · exact ⟨2, rfl, by omega, by omega⟩
      · exact ⟨4, rfl, by omega, by omega⟩
      · exact ⟨5, rfl, by omega, by omega⟩
      · exact ⟨0, rfl, by omega, by omega⟩
    obtain ⟨l, el, l0, l5⟩ := pick
    refine Ok.op el (Ok.op (rng1 l0 (by omega)) ?_)
    -- what a turn draws at most
    have step : ∃ w : Nat, 5 * w + 1 ≤ drw deep ∧ ∀ (d : D) (i : Nat) (u : List D) (xs : List It) (ds : List D) (q0 rm : Int), i < 5 → UrnOk (N + 1 + i * w) u → ItsR xs ds → xs.length ≤ i → It.deps xs ≤ deep → It.OksI B xs → (It.sizs xs : Int) + q0 ≤ p0 → 0 ≤ q0 → (It.ppls xs : Int) + rm ≤ room → 0 ≤ rm →
        ∀ f : D → List D × List D × D × List D → Res (List D × List D × D × List D), (∀ d6 s5, f d6 s5 = ((op (gtD (.int deep) (D.int 0)) fun b8 => op (asB (D.bl b8)) fun b9 => if b9 = true then ((d_l_ball [(D.lst s5.1), (D.int 5)]).bind fun a10 => op (gtD a10.1 (D.int 2)) fun b11 => .ok ((D.bl b11), a10.2)) else (.ok ((D.bl false), s5.1)) : Res (D × List D))).bind fun a7 =>
      ((((op (ixD (D.lst s5.2.1) (D.int 0)) fun t14 => op (gtD t14 (D.int 0)) fun b15 => if b15 = true then (op (gtD s5.2.2.1 (D.int 0)) fun b16 => .ok b16) else (.ok false) : Res (Bool))).bind fun a13 =>
      if a13 = true then (op (ixD (D.lst s5.2.1) (D.int 0)) fun t17 => op (subD t17 (D.int 1)) fun t18 => op (setL s5.2.1 (D.int 0) t18) fun r19 =>
      ((op (truD a7.1) fun b21 =>
      if b21 = true then (op (subD (.int deep) (D.int 1)) fun t22 => (d_l_long n [(D.lst a7.2), (D.lst r19), t22, s5.2.2.1]).bind fun a23 => (d_l_ball [(D.lst a23.2.1), (D.int 4)]).bind fun a24 => (d_l_ball [(D.lst a24.2), (D.int 9)]).bind fun a25 => op (addD (D.int 2) a25.1) fun t26 => op (ixD (D.lst a23.2.2) (D.int 1)) fun t27 => op (addD t27 (D.int 1)) fun t28 => (d_l_ball [(D.lst a25.2), t28]).bind fun a29 => (d_l_ball [(D.lst a29.2), (D.int 3)]).bind fun a30 =>
      op (ixD (D.lst [a24.1, t26, a29.1]) a30.1) fun t31 => (d_l_people 14 [a23.1]).bind fun a32 => op (max2D [(D.int 1), a32]) fun t33 => op (fdivD s5.2.2.1 t33) fun t34 => op (min2D [t31, t34]) fun t35 => op (appL s5.2.2.2 [(D.tup [(D.str "again"), t35, a23.1])]) fun a36 => (d_l_people 14 [a23.1]).bind fun a37 => op (mulD t35 a37) fun t38 => op (subD s5.2.2.1 t38) fun t39 => .ok (a30.2, a23.2.2, t39, a36.2)) else (op (ixD (D.lst r19) (D.int 2)) fun t40 => (d_l_saying [(D.lst a7.2), t40]).bind fun a41 => op (appL s5.2.2.2 [a41.1]) fun a42 => op (subD s5.2.2.1 (D.int 1)) fun t43 => .ok (a41.2, r19, t43, a42.2)) : Res (List D × List D × D × List D))).bind fun s20 => .ok (s20.1, s20.2.1, s20.2.2.1, s20.2.2.2)) else (.ok (a7.2, s5.2.1, s5.2.2.1, s5.2.2.2)) : Res (List D × List D × D × List D))).bind fun s12 => .ok (s12.1, s12.2.1, s12.2.2.1, s12.2.2.2)) →
        Ok (f d (u, [.int q0, .int p1, .int p2], .int rm, ds)) fun s => ∃ (u' : List D) (xs' : List It) (ds' : List D) (q' rm' : Int), s = (u', [.int q', .int p1, .int p2], .int rm', ds') ∧ UrnOk (N + 1 + (i + 1) * w) u' ∧ ItsR xs' ds' ∧ xs'.length ≤ i + 1 ∧ It.deps xs' ≤ deep ∧ It.OksI B xs' ∧ (It.sizs xs' : Int) + q' ≤ p0 ∧ 0 ≤ q' ∧ (It.ppls xs' : Int) + rm' ≤ room ∧ 0 ≤ rm' := by
      have hw : ∃ w, 5 * w + 1 ≤ drw deep ∧ (∀ dd, deep = dd + 1 → drw dd + 10 ≤ w) ∧ 15 ≤ w := by
        cases deep with
        | zero => exact ⟨15, (by decide), (fun dd e => nomatch e), (by omega)⟩
        | succ dd =>
          refine ⟨drw dd + 10, ?_, fun d2 e => by cases e; omega, by have := drw_pos dd; omega⟩
          show 5 * (drw dd + 10) + 1 ≤ 6 * drw dd + 100
          omega
      obtain ⟨w, w1, w2, w3⟩ := hw
      refine ⟨w, w1, fun d i u xs ds q0 rm hi ku hx hxl hxd hxo hxz q0' hxp rm0 f hf => ?_⟩
      have hw6 : i * w ≤ 4 * w := Nat.mul_le_mul_right _ (by omega)
      have hwi : (i + 1) * w = i * w + w := by rw [Nat.add_mul, Nat.one_mul]
      rw [hf]
      have ag : Ok ((op (gtD (.int deep) (D.int 0)) fun b8 => op (asB (D.bl b8)) fun b9 => if b9 = true then ((d_l_ball [(D.lst u), (D.int 5)]).bind fun a10 => op (gtD a10.1 (D.int 2)) fun b11 => .ok ((D.bl b11), a10.2)) else (.ok ((D.bl false), u)) : Res (D × List D))) fun a => ∃ (b : Bool) (u' : List D), a = (.bl b, u') ∧ UrnOk (N + 1 + i * w + 1) u' ∧ (b = true → 0 < deep) := by
        rw [gtI, op_s, asB_ok, op_s]
        by_cases hp : (0 : Int) < deep
        · rw [if_pos (by simpa using hp)]
          refine Ok.bnd (ball_k ku (by omega) (by decide) (by decide)) ?_
          rintro _ ⟨r, u', rfl, _, _, ku'⟩
          exact Ok.op gtI (Ok.ret ⟨_, u', rfl, ku', fun _ => by omega⟩)
        · rw [if_neg (by simpa using hp)]
          exact Ok.ret ⟨false, u, rfl, ku.mono (by omega), fun z => nomatch z⟩
      refine Ok.bnd ag ?_
      rintro _ ⟨b, u1, rfl, ku1, hb⟩
      dsimp only
      have i0 : ixD (D.lst [.int q0, .int p1, .int p2]) (.int 0) = some (.int q0) := rfl
      have s0 : ∀ d : D, setL [.int q0, .int p1, .int p2] (.int 0) d = some [d, .int p1, .int p2] := fun _ => rfl
      rw [i0, op_s, gtI, op_s]
      have stay : ∀ c : Bool, c = false → Ok (((if c = true then (op (some (D.int q0)) fun t17 => op (subD t17 (D.int 1)) fun t18 => op (setL [.int q0, .int p1, .int p2] (D.int 0) t18) fun r19 =>
          ((op (truD (.bl b)) fun b21 =>
          if b21 = true then (op (subD (.int deep) (D.int 1)) fun t22 => (d_l_long n [(D.lst u1), (D.lst r19), t22, .int rm]).bind fun a23 => (d_l_ball [(D.lst a23.2.1), (D.int 4)]).bind fun a24 => (d_l_ball [(D.lst a24.2), (D.int 9)]).bind fun a25 => op (addD (D.int 2) a25.1) fun t26 => op (ixD (D.lst a23.2.2) (D.int 1)) fun t27 => op (addD t27 (D.int 1)) fun t28 => (d_l_ball [(D.lst a25.2), t28]).bind fun a29 => (d_l_ball [(D.lst a29.2), (D.int 3)]).bind fun a30 =>
          op (ixD (D.lst [a24.1, t26, a29.1]) a30.1) fun t31 => (d_l_people 14 [a23.1]).bind fun a32 => op (max2D [(D.int 1), a32]) fun t33 => op (fdivD (.int rm) t33) fun t34 => op (min2D [t31, t34]) fun t35 => op (appL ds [(D.tup [(D.str "again"), t35, a23.1])]) fun a36 => (d_l_people 14 [a23.1]).bind fun a37 => op (mulD t35 a37) fun t38 => op (subD (.int rm) t38) fun t39 => .ok (a30.2, a23.2.2, t39, a36.2)) else (op (ixD (D.lst r19) (D.int 2)) fun t40 => (d_l_saying [(D.lst u1), t40]).bind fun a41 => op (appL ds [a41.1]) fun a42 => op (subD (.int rm) (D.int 1)) fun t43 => .ok (a41.2, r19, t43, a42.2)) : Res (List D × List D × D × List D))).bind fun s20 => .ok (s20.1, s20.2.1, s20.2.2.1, s20.2.2.2)) else (.ok (u1, [.int q0, .int p1, .int p2], .int rm, ds)) : Res (List D × List D × D × List D))).bind fun s12 => .ok (s12.1, s12.2.1, s12.2.2.1, s12.2.2.2)) fun s => ∃ (u' : List D) (xs' : List It) (ds' : List D) (q' rm' : Int), s = (u', [.int q', .int p1, .int p2], .int rm', ds') ∧ UrnOk (N + 1 + (i + 1) * w) u' ∧ ItsR xs' ds' ∧ xs'.length ≤ i + 1 ∧ It.deps xs' ≤ deep ∧ It.OksI B xs' ∧ (It.sizs xs' : Int) + q' ≤ p0 ∧ 0 ≤ q' ∧ (It.ppls xs' : Int) + rm' ≤ room ∧ 0 ≤ rm' := fun c hc => by
        subst hc
        rw [if_neg (by simp), bind_s]
        exact Ok.ret ⟨u1, xs, ds, q0, rm, rfl, ku1.mono (by omega), hx, by omega, hxd, hxo, hxz, q0', hxp, rm0⟩
      by_cases hq : 0 < q0
      · rw [if_pos (by simpa using hq), gtI, op_s, bind_s]
        by_cases hm : 0 < rm
        · rw [if_pos (by simpa using hm), op_s, subI, op_s, s0, op_s, tru_ok, op_s]
          have hlen : ds.length < 1000000 := by rw [hx.len]; omega
          refine Ok.bnd (P := fun s => ∃ (u' : List D) (xs' : List It) (ds' : List D) (q' rm' : Int), s = (u', [.int q', .int p1, .int p2], .int rm', ds') ∧ UrnOk (N + 1 + (i + 1) * w) u' ∧ ItsR xs' ds' ∧ xs'.length ≤ i + 1 ∧ It.deps xs' ≤ deep ∧ It.OksI B xs' ∧ (It.sizs xs' : Int) + q' ≤ p0 ∧ 0 ≤ q' ∧ (It.ppls xs' : Int) + rm' ≤ room ∧ 0 ≤ rm') ?_ fun s hs => by obtain ⟨u', xs', ds', q', rm', rfl, hs⟩ := hs; exact Ok.ret ⟨u', xs', ds', q', rm', rfl, hs⟩
          refine Ok.bnd (P := fun s => ∃ (u' : List D) (xs' : List It) (ds' : List D) (q' rm' : Int), s = (u', [.int q', .int p1, .int p2], .int rm', ds') ∧ UrnOk (N + 1 + (i + 1) * w) u' ∧ ItsR xs' ds' ∧ xs'.length ≤ i + 1 ∧ It.deps xs' ≤ deep ∧ It.OksI B xs' ∧ (It.sizs xs' : Int) + q' ≤ p0 ∧ 0 ≤ q' ∧ (It.ppls xs' : Int) + rm' ≤ room ∧ 0 ≤ rm') ?_ fun s hs => by obtain ⟨u', xs', ds', q', rm', rfl, hs⟩ := hs; exact Ok.ret ⟨u', xs', ds', q', rm', rfl, hs⟩
          by_cases hb' : b = true
          · rw [if_pos hb']
            have dpos := hb hb'
            obtain ⟨dd, rfl⟩ : ∃ dd, deep = dd + 1 := ⟨deep - 1, by omega⟩
            have hwd := w2 dd rfl
            rw [subI, op_s, show (((dd + 1 : Nat) : Int) - 1) = (dd : Int) by omega]
            refine Ok.bnd (long_k hB n dd (by omega) (by omega) u1 (N + 1 + i * w + 1) (q0 - 1) p1 p2 rm ku1 (by omega) (by omega) (by omega) h1 h1' h1'' h2 h2' h2'' rm0 (by omega) (by omega)) ?_
            rintro _ ⟨ys, es, u2, q1, rfl, hy, hyd, hyo, hyz, q10, hyp, ku2⟩
            dsimp only
            refine Ok.bnd (ball_k ku2 (by omega) (by decide) (by decide)) ?_
            rintro _ ⟨r4, u3, rfl, a4, b4, ku3⟩
            refine Ok.bnd (ball_k ku3 (by omega) (by decide) (by decide)) ?_
            rintro _ ⟨r9, u4, rfl, a9, b9, ku4⟩
            have i1 : ixD (D.lst [.int q1, .int p1, .int p2]) (.int 1) = some (.int p1) := rfl
            refine Ok.op addI (Ok.op i1 (Ok.op addI (Ok.bnd (ball_k ku4 (by omega) (by omega) (by omega)) ?_)))
            rintro _ ⟨rp, u5, rfl, ap, bp, ku5⟩
            refine Ok.bnd (ball_k ku5 (by omega) (by decide) (by decide)) ?_
            rintro _ ⟨r3, u6, rfl, a3, b3, ku6⟩
            dsimp only
            have pick : ∃ m : Int, ixD (D.lst [.int r4, .int (2 + r9), .int rp]) (.int r3) = some (.int m) ∧ 0 ≤ m ∧ m < p1 + 20 := by
              have : r3 = 0 ∨ r3 = 1 ∨ r3 = 2 := by omega
              rcases this with rfl | rfl | rfl
              · exact ⟨_, rfl, by omega, by omega⟩
              · exact ⟨_, rfl, by omega, by omega⟩
              · exact ⟨_, rfl, by omega, by omega⟩
            obtain ⟨m, em, m0, m1⟩ := pick
            rw [em, op_s, lpeople_ok hB _ ys (.lst es) hy.row ?hdeep hyo, bind_s, max2I, op_s]
            case hdeep => omega
            generalize eP : (if (It.ppls ys : Int) > 1 then (It.ppls ys : Int) else 1) = P
            have P1 : 1 ≤ P ∧ (It.ppls ys : Int) ≤ P ∧ P ≤ rm := by subst eP; split <;> omega
            rw [divI (by omega) (by omega), op_s, min2I, op_s]
            have v0 : 0 ≤ rm / P := Int.ediv_nonneg rm0 (by omega)
            generalize eV : (if rm / P < m then rm / P else m) = V
            have V1 : 0 ≤ V ∧ V ≤ rm / P ∧ V < p1 + 20 := by subst eV; split <;> omega
            have hVP : V * P ≤ rm := mul_le_of_div (by omega) V1.2.1
            have hVp : V * (It.ppls ys : Int) ≤ V * P := Int.mul_le_mul_of_nonneg_left P1.2.1 V1.1
            have hV0 : 0 ≤ V * (It.ppls ys : Int) := Int.mul_nonneg V1.1 (by omega)
            rw [app1 hlen, op_s, bind_s, mulN V1.1 (by omega) (by omega) (by omega), op_s, subI, op_s]
            obtain ⟨k, rfl⟩ : ∃ k : Nat, V = k := ⟨V.toNat, by omega⟩
            have hag : ItR (.again k ys) (.tup [.str "again", .int k, .lst es]) := .ag hy.row
            have hpp : ((It.again k ys).ppl : Int) = (k : Int) * (It.ppls ys : Int) := Int.natCast_mul _ _
            have hsz : (It.again k ys).siz = It.sizs ys + 1 := rfl
            have hdp : (It.again k ys).dep = It.deps ys + 1 := rfl
            refine Ok.ret ⟨u6, xs ++ [.again k ys], _, q1, rm - k * It.ppls ys, rfl, ku6.mono (by omega), ItsR.append (.one hag) hx, by rw [List.length_append, List.length_singleton]; omega, ?_, It.oks_append.mpr ⟨hxo, (show It.OkI B (.again k ys) from ⟨by omega, by omega, hyo⟩), (show It.OksI B [] from trivial)⟩, ?_, q10, ?_, by omega⟩
            · rw [It.deps_append]
              show max (It.deps xs) (max (It.again k ys).dep 0) ≤ dd + 1
              rw [hdp]; omega
            · rw [It.sizs_append]
              show (((It.sizs xs + ((It.again k ys).siz + 0) : Nat)) : Int) + q1 ≤ p0
              rw [hsz]; omega
            · rw [It.ppls_append]
              show (((It.ppls xs + ((It.again k ys).ppl + 0) : Nat)) : Int) + (rm - k * It.ppls ys) ≤ room
              omega
          · rw [if_neg hb']
            have i2 : ixD (D.lst [.int (q0 - 1), .int p1, .int p2]) (.int 2) = some (.int p2) := rfl
            rw [i2, op_s]
            refine Ok.bnd (lsaying_k ku1 (by omega) h2 h2') ?_
            rintro _ ⟨s, u2, rfl, os, ku2⟩
            rw [app1 hlen, op_s, subI, op_s]
            refine Ok.ret ⟨u2, xs ++ [.say s], _, q0 - 1, rm - 1, rfl, ku2.mono (by omega), ItsR.append (ItsR.one (x := .say s) (d := eS s) (show ItR (.say s) (eS s) from rfl)) hx, by rw [List.length_append, List.length_singleton]; omega, ?_, It.oks_append.mpr ⟨hxo, (show It.OkI B (.say s) from okS.mono os h2''), (show It.OksI B [] from trivial)⟩, ?_, by omega, ?_, by omega⟩
            · rw [It.deps_append]
              show max (It.deps xs) (max 0 0) ≤ deep
              omega
            · rw [It.sizs_append]
              show (((It.sizs xs + (1 + 0) : Nat)) : Int) + (q0 - 1) ≤ p0
              omega
            · rw [It.ppls_append]
              show (((It.ppls xs + (1 + 0) : Nat)) : Int) + (rm - 1) ≤ room
              omega
        · exact stay (decide ((0 : Int) < rm)) (decide_eq_false hm)
      · rw [if_neg (by simpa using hq), bind_s]
        exact stay false rfl
    obtain ⟨w, w1, step⟩ := step
    refine Ok.bnd (Ok.for (fun i s => ∃ (u : List D) (xs : List It) (ds : List D) (q rm : Int), s = (u, [.int q, .int p1, .int p2], .int rm, ds) ∧ UrnOk (N + 1 + i * w) u ∧ ItsR xs ds ∧ xs.length ≤ i ∧ It.deps xs ≤ deep ∧ It.OksI B xs ∧ (It.sizs xs : Int) + q ≤ p0 ∧ 0 ≤ q ∧ (It.ppls xs : Int) + rm ≤ room ∧ 0 ≤ rm) 5
      ⟨t1, [], [], p0, room, rfl, k1.mono (by omega), rfl, Nat.le_refl _, Nat.zero_le _, trivial, by show ((0 : Nat) : Int) + p0 ≤ p0; omega, h0, by show ((0 : Nat) : Int) + room ≤ room; omega, hr⟩ (by rw [upto_len]; omega) (fun d hd s i hi ⟨u, xs, ds, q, rm, e, ku, hx, hxl, hxd, hxo, hxz, q0, hxp, rm0⟩ => by
        subst e
        exact step d i u xs ds q rm hi ku hx hxl hxd hxo hxz q0 hxp rm0 _ (fun _ _ => rfl))) ?_
    rintro _ ⟨u, xs, ds, q, rm, rfl, ku, hx, hxl, hxd, hxo, hxz, q0, hxp, rm0⟩
    rw [upto_len] at ku
    have : l.toNat * w ≤ 5 * w := Nat.mul_le_mul_right _ (by omega)
    exact Ok.ret ⟨xs, ds, u, q, rfl, hx, hxd, hxo, hxz, q0, by omega, ku.mono (by omega)⟩

/-! ### long rows as things: what they hold, how they are shown -/
theorem bk_again : Bk 0 10 (.str "again") := bkB_ok (by decide +kernel)
theorem bk_saying {s : Say} (h : okS (2 ^ 110) s) : Bk 1 2 (eS s) := by
  obtain ⟨a, o⟩ := s
  obtain ⟨h1, h2, h3⟩ := h
  have h1 : 0 ≤ a := h1
  have h2 : a < 2 ^ 110 := h2
  have q : Bk 0 0 (eO o) := by
    cases o with
    | none => exact bk_non
    | some b =>
      have := h3 b rfl
      have g1 : a ≤ b := this.1
      exact bk_int (by omega) (Int.lt_trans this.2 (by decide))
  exact bka_tup (bka_cons.mpr ⟨0, 1, bk_int h1 (Int.lt_trans h2 (by decide)), bka_cons.mpr ⟨0, 0, q, .nil, by omega⟩, by omega⟩)
theorem hr_saying {L n : Nat} {s : Say} (hL : 2 ≤ L) (h : okS (2 ^ 110) s) : hr L (n + 1) (eS s) = true := by
  obtain ⟨a, o⟩ := s
  obtain ⟨h1, h2, h3⟩ := h
  refine hr_of (ds := [.int a, eO o]) (.inr rfl) hL fun x hx => ?_
  rcases List.mem_cons.mp hx with rfl | hx
  · cases n <;> exact decide_eq_true h2
  · have e : x = eO o := List.mem_singleton.mp hx
    subst e
    cases o with
    | none => cases n <;> rfl
    | some b => cases n <;> exact decide_eq_true (h3 b rfl).2
theorem row_hb {L : Nat} (hL : 3 ≤ L) : ∀ (n : Nat) (xs : List It) (d : D), RowR xs d → It.deps xs < n → It.OksI (2 ^ 110) xs → It.sizs xs ≤ L → hr L (2 * n) d = true ∧ Bk (2 * n) (14 * It.sizs xs) d
  | 0, _, _, _, h, _, _ => by omega
  | n + 1, xs, d, ⟨ds, hd, h⟩, hdp, ho, hs => by
    have go : ∀ (xs : List It) (ds : List D), ItsR xs ds → It.deps xs < n + 1 → It.OksI (2 ^ 110) xs → It.sizs xs ≤ L → (∀ x, x ∈ ds → hr L (2 * n + 1) x = true) ∧ BkA (2 * n + 1) (14 * It.sizs xs) ds := by
      intro xs
      induction xs with
      | nil =>
        intro ds h _ _ _
        have h : ds = [] := h
        subst h
        exact ⟨nofun, .nil⟩
      | cons x xs ih =>
        intro ds h hdp ho hs
        obtain ⟨d, r, rfl, h1, h2⟩ := h
        have hd' : max x.dep (It.deps xs) < n + 1 := hdp
        have hs' : x.siz + It.sizs xs ≤ L := hs
        obtain ⟨g1, g2⟩ := ih r h2 (by omega) ho.2 (by omega)
        have one : hr L (2 * n + 1) d = true ∧ Bk (2 * n + 1) (14 * x.siz - 1) d := by
          cases x with
          | say s =>
            have h1 : d = eS s := h1
            subst h1
            exact ⟨hr_saying (by omega) ho.1, (bk_saying ho.1).mono (by omega) (by show 2 ≤ 14 * 1 - 1; omega)⟩
          | again k ys =>
            obtain ⟨r', h3, rfl⟩ := h1.get
            obtain ⟨o1, o2, o3⟩ := ho.1
            have e1 : It.siz (.again k ys) = It.sizs ys + 1 := rfl
            have hd2 : It.deps ys + 1 ≤ max (It.deps ys + 1) (It.deps xs) := Nat.le_max_left _ _
            have hd3 : max (It.deps ys + 1) (It.deps xs) < n + 1 := hdp
            obtain ⟨q1, q2⟩ := row_hb hL n ys r' h3 (by omega) o3 (by omega)
            refine ⟨hr_of (ds := [.str "again", .int k, r']) (.inr rfl) (by show 3 ≤ L; omega) fun x hx => ?_, ?_⟩
            · rcases List.mem_cons.mp hx with rfl | hx
              · cases n <;> rfl
              rcases List.mem_cons.mp hx with rfl | hx
              · cases n <;> exact decide_eq_true o1
              · have e : x = r' := List.mem_singleton.mp hx
                subst e; exact q1
            · refine (bka_tup (bka_cons.mpr ⟨10, 14 * It.sizs ys + 2, bk_again.mono (by omega) (Nat.le_refl _), bka_cons.mpr ⟨0, 14 * It.sizs ys + 1, (bk_int (by omega) (Int.lt_trans o1 (by decide))).mono (by omega) (Nat.le_refl _), bka_cons.mpr ⟨14 * It.sizs ys, 0, q2, .nil, by omega⟩, by omega⟩, Nat.le_refl _⟩)).mono (Nat.le_refl _) (by rw [e1]; omega)
        have hp := It.siz_pos x
        refine ⟨fun y hy => ?_, bka_cons.mpr ⟨_, _, one.2, g2, by show _ ≤ 14 * (x.siz + It.sizs xs); omega⟩⟩
        rcases List.mem_cons.mp hy with rfl | hy
        · exact one.1
        · exact g1 y hy
    obtain ⟨g1, g2⟩ := go xs ds h hdp ho hs
    have hl : ds.length ≤ L := by have := ItsR.len h; have := It.len_siz (xs := xs); omega
    refine ⟨hr_of hd hl g1, ?_⟩
    rcases hd with rfl | rfl
    · exact bka_lst g2
    · exact bka_tup g2
/-- a thing whose people can be counted is a long row -/
theorem good_row {L : Nat} (hL : L ≤ 2 ^ 16) : ∀ (n m : Nat) (d : D) (k : Nat), n ≤ 20 → m < 2 * n → hr L m d = true → mD n d = some k → ∃ xs : List It, RowR xs d ∧ It.deps xs < n ∧ It.ppls xs = k ∧ It.OksI (2 ^ 4000) xs ∧ ∀ s, s ∈ It.lays xs → okS (2 ^ 110) s
  | 0, m, _, _, _, h, _, _ => by omega
  | n + 1, m, d, k, hn, hm, h, e => by
    have b4 : (2 : Int) ^ 110 ≤ 2 ^ 4000 := Int.le_of_lt (Int.lt_trans (show (2 : Int) ^ 110 < 2 ^ 250 by decide) p4000)
    have go : ∀ (ds : List D) (j k : Nat), j < 2 * n + 1 → (∀ x, x ∈ ds → hr L j x = true) → mL (mD n) ds = some k → ∃ xs : List It, ItsR xs ds ∧ It.deps xs < n + 1 ∧ It.ppls xs = k ∧ It.OksI (2 ^ 4000) xs ∧ ∀ s, s ∈ It.lays xs → okS (2 ^ 110) s := by
      intro ds
      induction ds with
      | nil => intro j k _ _ e; cases e; exact ⟨[], rfl, Nat.succ_pos _, rfl, trivial, fun s z => nomatch z⟩
      | cons x ds ih =>
        intro j k hj hx e
        have em : mL (mD n) (x :: ds) = match mI (mD n) x, mL (mD n) ds with
            | some a, some b => some (a + b)
            | _, _ => none := rfl
        rw [em] at e
        cases ea : mI (mD n) x with
        | none => rw [ea] at e; cases e
        | some a =>
          cases eb : mL (mD n) ds with
          | none => rw [ea, eb] at e; cases e
          | some b =>
            rw [ea, eb] at e
            have e : a + b = k := Option.some.inj e
            obtain ⟨xs, r1, r2, r3, r4, r5⟩ := ih j b hj (fun y hy => hx y (List.mem_cons_of_mem _ hy)) eb
            have one : ∃ y : It, ItR y x ∧ y.dep < n + 1 ∧ y.ppl = a ∧ It.OkI (2 ^ 4000) y ∧ ∀ s, s ∈ y.lay → okS (2 ^ 110) s := by
              have hx0 := hx x List.mem_cons_self
              unfold mI at ea
              by_cases hs : say x = true
              · rw [if_pos hs] at ea
                cases ea
                match x, hs, hx0 with
                | .tup [u, v], hs, hx0 =>
                  have hs : (cnt u && (noneD v || (cnt v && leqD u v))) = true := hs
                  rw [Bool.and_eq_true, Bool.or_eq_true, Bool.and_eq_true] at hs
                  obtain ⟨i, rfl, i0⟩ := cnt_int hs.1
                  obtain ⟨j', rfl, _, hy⟩ := hr_seq (d := .tup [.int i, v]) (.inr rfl) hx0
                  have hi : i < 2 ^ 110 := by have := hy (.int i) (by simp); cases j' <;> exact of_decide_eq_true this
                  have sd : ∃ s : Say, D.tup [.int i, v] = eS s ∧ okS (2 ^ 110) s := by
                    rcases hs.2 with q | ⟨q1, q2⟩
                    · cases v <;> first | cases q | skip
                      exact ⟨(i, none), rfl, i0, hi, nofun⟩
                    · obtain ⟨w, rfl, w0⟩ := cnt_int q1
                      have hw : w < 2 ^ 110 := by have := hy (.int w) (by simp); cases j' <;> exact of_decide_eq_true this
                      exact ⟨(i, some w), rfl, i0, hi, fun b e => by cases e; exact ⟨of_decide_eq_true q2, hw⟩⟩
                  obtain ⟨s, e, ok⟩ := sd
                  exact ⟨.say s, e, Nat.succ_pos _, rfl, okS.mono ok b4, fun t ht => by rw [List.mem_singleton.mp ht]; exact ok⟩
              · rw [if_neg hs] at ea
                split at ea
                · rename_i a' b' r
                  by_cases hag : isAgD a' = true
                  · rw [if_pos hag] at ea
                    cases hb : natD b' with
                    | none => rw [hb] at ea; cases ea
                    | some k' =>
                      cases hr' : mD n r with
                      | none => rw [hb, hr'] at ea; cases ea
                      | some m' =>
                        rw [hb, hr'] at ea
                        have ea : k' * m' = a := Option.some.inj ea
                        have ea' : a' = .str "again" := by
                          cases a' <;> first | cases hag | skip
                          rename_i st
                          exact congrArg D.str (of_decide_eq_true hag)
                        subst ea'
                        have eb' : b' = .int k' := by
                          cases b' <;> first | cases hb | skip
                          rename_i i
                          have hb : (if 0 ≤ i then some i.toNat else none) = some k' := hb
                          by_cases i0 : 0 ≤ i
                          · rw [if_pos i0] at hb
                            have hb : i.toNat = k' := Option.some.inj hb
                            congr 1; omega
                          · rw [if_neg i0] at hb; cases hb
                        subst eb'
                        obtain ⟨j', rfl, _, hy⟩ := hr_seq (d := .tup [.str "again", .int k', r]) (.inr rfl) hx0
                        have hk : (k' : Int) < 2 ^ 110 := by have := hy (.int k') (by simp); cases j' <;> exact of_decide_eq_true this
                        have hrr := hy r (by simp)
                        obtain ⟨ys, q1, q2, q3, q4, q5⟩ := good_row hL n j' r m' (by omega) (by omega) hrr hr'
                        have bnd := (peopleof_tot n r (by omega) (hr_gd hL n j' r (by omega) hrr)).2 m' hr'
                        refine ⟨.again k' ys, .ag q1, by show It.deps ys + 1 < n + 1; omega, by show k' * It.ppls ys = a; rw [q3]; exact ea, ⟨Int.lt_of_lt_of_le hk b4, by rw [q3]; exact nat4000 bnd (by omega), q4⟩, fun s hs => q5 s (rpt_mem hs)⟩
                  · rw [if_neg hag] at ea; cases ea
                · cases ea
            obtain ⟨y, y1, y2, y3, y4, y5⟩ := one
            refine ⟨y :: xs, ⟨x, ds, rfl, y1, r1⟩, by show max y.dep (It.deps xs) < n + 1; omega, by show y.ppl + It.ppls xs = k; omega, ⟨y4, r4⟩, fun s hs => ?_⟩
            rcases List.mem_append.mp (show s ∈ y.lay ++ It.lays xs from hs) with q | q
            · exact y5 s q
            · exact r5 s q
    have fin : ∀ ds, (d = .lst ds ∨ d = .tup ds) → mL (mD n) ds = some k → ∃ xs : List It, RowR xs d ∧ It.deps xs < n + 1 ∧ It.ppls xs = k ∧ It.OksI (2 ^ 4000) xs ∧ ∀ s, s ∈ It.lays xs → okS (2 ^ 110) s := fun ds hd e => by
      obtain ⟨j, rfl, _, hx⟩ := hr_seq hd h
      obtain ⟨xs, r1, r2, r3, r4, r5⟩ := go ds j k (by omega) hx e
      exact ⟨xs, ⟨ds, hd, r1⟩, r2, r3, r4, r5⟩
    cases d with
    | lst ds => exact fin ds (.inl rfl) e
    | tup ds => exact fin ds (.inr rfl) e
    | _ => cases e
/-! ### laid out -/
theorem rpt_map {l : List Say} {n : Nat} : repD (l.map eS) (n : Int) = (rpt n l).map eS := by
  unfold repD rpt
  rw [Int.toNat_natCast, List.map_flatten, List.map_replicate]
theorem ext_ok {a b : List D} (h : a.length + b.length < 1000000) : extL a [.lst b] = some (.non, a ++ b) := if_pos (small_le h)
theorem cat_ok {a b : List D} (h : a.length + b.length < 1000000) : catT (.lst a) (.lst b) = some (a ++ b) := if_pos (small_le h)
theorem mulX_ok {l : List Say} {n : Nat} (h : n * l.length ≤ 1000) (hn : n ≤ 1000) : mulX (.lst (l.map eS)) (.int n) = some (.lst ((rpt n l).map eS)) := by
  rw [← rpt_map]
  unfold mulX
  dsimp only
  have z : (l.map eS).length * (n : Int).toNat ≤ sizeLine := by
    rw [List.length_map, Int.toNat_natCast, Nat.mul_comm]
    exact small_le (by omega)
  rw [if_pos ⟨by omega, by omega, z⟩]
theorem tlaid_ok : ∀ (n : Nat) (xs : List It) (d : D), n ≤ 14 → RowR xs d → It.deps xs < n → It.OksI (2 ^ 4000) xs → It.ppls xs ≤ 300 → d_t_laid n [d] = .ok ((It.lays xs).map eS)
  | 0, _, _, _, _, h, _, _ => by omega
  | n + 1, xs, d, hn, h, hd, ho, hp => by
    obtain ⟨ds, e, h2, h3⟩ := h.as
    unfold d_t_laid
    rw [e, op_s]
    have go : ∀ (xs : List It) (ds : List D) (s : List Say) (f : D → List D → Res (List D)), (∀ d4 s3, f d4 s3 = (((d_t_is_saying [d4]).bind fun a6 => op (truD a6) fun b7 => if b7 = true then (op (appL s3 [d4]) fun a8 => .ok a8.2) else ((((d_t_people_said (d_t_people_of 14) [d4]).bind fun a10 => op (gtD a10 (D.int 0)) fun b11 => if b11 = true then (op (ixD d4 (D.int 2)) fun t12 => (d_t_laid n [t12]).bind fun a13 => op (ixD d4 (D.int 1)) fun t14 => op (mulX (D.lst a13) t14) fun t15 => op (extL s3 [t15]) fun a16 => .ok a16.2) else (.ok s3) : Res (List D))).bind fun s9 => .ok s9) : Res (List D))).bind fun s5 => .ok s5) →
        ItsR xs ds → It.deps xs < n + 1 → It.OksI (2 ^ 4000) xs → s.length + It.ppls xs ≤ 300 → forS ds (s.map eS) f = .ok ((s ++ It.lays xs).map eS) := by
      intro xs
      induction xs with
      | nil =>
        intro ds s f hf h hd ho hp
        have h : ds = [] := h
        subst h
        rw [forS_no, show It.lays [] = [] from rfl, List.append_nil]
      | cons x xs ih =>
        intro ds s f hf h hd ho hp
        obtain ⟨d, r, rfl, h1, h2⟩ := h
        have hd' : max x.dep (It.deps xs) < n + 1 := hd
        have hp' : s.length + (x.ppl + It.ppls xs) ≤ 300 := hp
        have step : f d (s.map eS) = .ok ((s ++ x.lay).map eS) := by
          rw [hf]
          cases x with
          | say sa =>
            have h1 : d = eS sa := h1
            subst h1
            rw [saying_ok ho.1, bind_s, tru_ok, op_s, if_pos rfl, app1 (by rw [List.length_map]; omega), op_s, bind_s, List.map_append]; rfl
          | again k ys =>
            obtain ⟨r', h3, rfl⟩ := h1.get
            obtain ⟨o1, o2, o3⟩ := ho.1
            have hd2 : It.deps ys + 1 ≤ max (It.deps ys + 1) (It.deps xs) := Nat.le_max_left _ _
            have hd3 : max (It.deps ys + 1) (It.deps xs) < n + 1 := hd
            have ep : (It.again k ys).ppl = k * It.ppls ys := rfl
            rw [issay_again, bind_s, tru_ok, op_s, if_neg (by simp), said_again (Int.le_refl _) o1 o2 (peopleof_ok (Int.le_refl _) 14 ys r' h3 (by omega) o3), bind_s, gtI, op_s]
            have el : (It.again k ys).lay = rpt k (It.lays ys) := rfl
            by_cases hz : 0 < k * It.ppls ys
            · have k1 : k ≤ k * It.ppls ys := Nat.le_mul_of_pos_right _ (Nat.pos_of_mul_pos_left hz)
              have y1 : It.ppls ys ≤ k * It.ppls ys := Nat.le_mul_of_pos_left _ (Nat.pos_of_mul_pos_right hz)
              have i1 : ixD (D.tup [.str "again", .int k, r']) (.int 1) = some (.int k) := rfl
              have i2 : ixD (D.tup [.str "again", .int k, r']) (.int 2) = some r' := rfl
              rw [if_pos (decide_eq_true (by omega)), i2, op_s, tlaid_ok n ys r' (by omega) h3 (by omega) o3 (by omega), bind_s, i1, op_s, mulX_ok (by rw [It.lays_len]; omega) (by omega), op_s, ext_ok (by rw [List.length_map, List.length_map, rpt_len, It.lays_len]; omega), op_s, bind_s, bind_s, el, List.map_append]
            · have : rpt k (It.lays ys) = [] := List.length_eq_zero_iff.mp (by rw [rpt_len, It.lays_len]; omega)
              rw [if_neg (by simp; omega), bind_s, bind_s, el, this, List.append_nil]
        rw [forS_c step, ih r (s ++ x.lay) f hf h2 (by omega) ho.2 (by rw [List.length_append, It.lay_len]; omega), List.append_assoc]; rfl
    have := go xs ds [] _ (fun _ _ => rfl) h2 hd ho (by simpa using hp)
    rw [show (([] : List Say).map eS) = [] from rfl] at this
    rw [this, bind_s, List.nil_append]
theorem neAg {d : D} {x : It} (h : ItR x d) : ∃ v, ixD d (.int 0) = some v ∧ neD v (.str "again") = some (!x.isAg) := by
  obtain ⟨v, e1, e2⟩ := eqAg h
  refine ⟨v, e1, ?_⟩
  show (eqD v (.str "again")).map _ = _
  rw [e2]; rfl
theorem llaid_ok : ∀ (n : Nat) (xs : List It) (d : D), n ≤ 14 → RowR xs d → It.deps xs < n → It.OksI (2 ^ 4000) xs → It.ppls xs ≤ 300 → d_l_laid n [d] = .ok (.lst ((It.lays xs).map eS))
  | 0, _, _, _, _, h, _, _ => by omega
  | n + 1, xs, d, hn, h, hd, ho, hp => by
    obtain ⟨ds, e, h2, h3⟩ := h.as
    unfold d_l_laid
    rw [e, op_s]
    have go : ∀ (xs : List It) (ds : List D) (s : List Say) (f : D → List D → Res (List D)), (∀ d4 s3, f d4 s3 = ((op (ixD d4 (D.int 0)) fun t6 => op (neD t6 (D.str "again")) fun b7 => if b7 = true then (op (appL s3 [d4]) fun a8 => .ok a8.2) else ((((d_l_people 14 [(D.lst [d4])]).bind fun a10 => op (gtD a10 (D.int 0)) fun b11 => if b11 = true then (op (ixD d4 (D.int 2)) fun t12 => (d_l_laid n [t12]).bind fun a13 => op (ixD d4 (D.int 1)) fun t14 => op (mulX a13 t14) fun t15 => op (catT (D.lst s3) t15) fun t16 => .ok t16) else (.ok s3) : Res (List D))).bind fun s9 => .ok s9) : Res (List D))).bind fun s5 => .ok s5) →
        ItsR xs ds → It.deps xs < n + 1 → It.OksI (2 ^ 4000) xs → s.length + It.ppls xs ≤ 300 → forS ds (s.map eS) f = .ok ((s ++ It.lays xs).map eS) := by
      intro xs
      induction xs with
      | nil =>
        intro ds s f hf h hd ho hp
        have h : ds = [] := h
        subst h
        rw [forS_no, show It.lays [] = [] from rfl, List.append_nil]
      | cons x xs ih =>
        intro ds s f hf h hd ho hp
        obtain ⟨d, r, rfl, h1, h2⟩ := h
        have hd' : max x.dep (It.deps xs) < n + 1 := hd
        have hp' : s.length + (x.ppl + It.ppls xs) ≤ 300 := hp
        obtain ⟨v, e1, e2⟩ := neAg h1
        have step : f d (s.map eS) = .ok ((s ++ x.lay).map eS) := by
          rw [hf, e1, op_s, e2, op_s]
          cases x with
          | say sa =>
            have h1 : d = eS sa := h1
            subst h1
            rw [if_pos (by rfl), app1 (by rw [List.length_map]; omega), op_s, bind_s, List.map_append]; rfl
          | again k ys =>
            have hone : RowR [.again k ys] (.lst [d]) := (ItsR.one h1).row
            obtain ⟨r', h3, rfl⟩ := h1.get
            obtain ⟨o1, o2, o3⟩ := ho.1
            have hd2 : It.deps ys + 1 ≤ max (It.deps ys + 1) (It.deps xs) := Nat.le_max_left _ _
            have hd3 : max (It.deps ys + 1) (It.deps xs) < n + 1 := hd
            have ep : (It.again k ys).ppl = k * It.ppls ys := rfl
            have ep2 : It.ppls [.again k ys] = k * It.ppls ys + 0 := rfl
            rw [if_neg (by simp [It.isAg]), lpeople_ok (Int.le_refl _) 14 [.again k ys] _ hone (by show max (It.deps ys + 1) 0 < 14; omega) ⟨⟨o1, o2, o3⟩, trivial⟩, bind_s, gtI, op_s, ep2]
            have el : (It.again k ys).lay = rpt k (It.lays ys) := rfl
            by_cases hz : 0 < k * It.ppls ys
            · have k1 : k ≤ k * It.ppls ys := Nat.le_mul_of_pos_right _ (Nat.pos_of_mul_pos_left hz)
              have y1 : It.ppls ys ≤ k * It.ppls ys := Nat.le_mul_of_pos_left _ (Nat.pos_of_mul_pos_right hz)
              have i1 : ixD (D.tup [.str "again", .int k, r']) (.int 1) = some (.int k) := rfl
              have i2 : ixD (D.tup [.str "again", .int k, r']) (.int 2) = some r' := rfl
              rw [if_pos (decide_eq_true (by omega)), i2, op_s, llaid_ok n ys r' (by omega) h3 (by omega) o3 (by omega), bind_s, i1, op_s, mulX_ok (by rw [It.lays_len]; omega) (by omega), op_s, cat_ok (by rw [List.length_map, List.length_map, rpt_len, It.lays_len]; omega), op_s, bind_s, bind_s, el, List.map_append]
            · have : rpt k (It.lays ys) = [] := List.length_eq_zero_iff.mp (by rw [rpt_len, It.lays_len]; omega)
              rw [if_neg (by simp; omega), bind_s, bind_s, el, this, List.append_nil]
        rw [forS_c step, ih r (s ++ x.lay) f hf h2 (by omega) ho.2 (by rw [List.length_append, It.lay_len]; omega), List.append_assoc]; rfl
    have := go xs ds [] _ (fun _ _ => rfl) h2 hd ho (by simpa using hp)
    rw [show (([] : List Say).map eS) = [] from rfl] at this
    rw [this, bind_s, List.nil_append]

/-! ### what is asked of a thing -/
theorem word_long : d_l_word [.exc "NoLong" []] = .ok (.str "NoLong") := by kernel_rfl
theorem word_many {n : Int} : d_l_word [.exc "TooMany" [("many", some n)]] = .ok (.str "TooMany") := by kernel_rfl
def goodN : Option Nat → Bool
  | some k => decide ((k : Int) ≤ 999999999999999999999999999999)
  | none => false
theorem is_long_ok {d : D} (g : Gd 14 d) : d_t_is_long [d] = .ok (.bl (goodN (mD 14 d))) := by
  unfold d_t_is_long
  dsimp only
  rw [(peopleof_tot 14 d (by decide) g).1, bind_s, nND, op_s, asB_ok, op_s]
  cases mD 14 d with
  | none => rw [if_neg (by simp)]; rfl
  | some k =>
    rw [if_pos (by rfl), show eN (some k) = .int (k : Int) from rfl, leI, op_s, bind_s]; rfl
theorem people_in_ok {d : D} (g : Gd 14 d) {k : Nat} (e : mD 14 d = some k) (h : goodN (some k) = true) : d_t_people_in [d] = .ok (.int k) := by
  have e1 := is_long_ok g
  rw [e, h] at e1
  unfold d_t_people_in d_t_need_long
  dsimp only
  rw [e1, bind_s, tru_ok, op_s, if_neg (by simp), bind_s, (peopleof_tot 14 d (by decide) g).1, e, bind_s]; rfl
theorem people_in_no {d : D} (g : Gd 14 d) (h : goodN (mD 14 d) = false) : d_t_people_in [d] = .raise ⟨"NoLong", []⟩ := by
  have e1 := is_long_ok g
  rw [h] at e1
  unfold d_t_people_in d_t_need_long
  dsimp only
  rw [e1, bind_s, tru_ok, op_s, if_pos (show (!false) = true from rfl)]; rfl
theorem tryR_ok {α S : Type} {cs : List Str} {m : Res α} {a : α} {f : α → S} {h : Str → List (Str × Option Int) → Res S} (e : m = .ok a) : tryR cs m f h = .ok (f a) := by subst e; rfl
theorem tryR_no {α S : Type} {cs : List Str} {m : Res α} {x : Exc} {f : α → S} {h : Str → List (Str × Option Int) → Res S} (e : m = .raise x) (hc : x.cls ∈ cs) : tryR cs m f h = h x.cls x.fs := by subst e; exact if_pos hc
theorem tryR_long {α S : Type} {f : α → S} {h : Str → List (Str × Option Int) → Res S} : tryR ["NoLong", "TooMany"] (.raise ⟨"NoLong", []⟩) f h = h "NoLong" [] := tryR_no (cs := ["NoLong", "TooMany"]) (x := ⟨"NoLong", []⟩) rfl (by decide)
theorem tryR_many {α S : Type} {f : α → S} {n : Int} {h : Str → List (Str × Option Int) → Res S} : tryR ["NoLong", "TooMany"] (.raise ⟨"TooMany", [("many", some n)]⟩) f h = h "TooMany" [("many", some n)] := tryR_no (cs := ["NoLong", "TooMany"]) (x := ⟨"TooMany", [("many", some n)]⟩) rfl (by show ("TooMany" : Str) ∈ (["NoLong", "TooMany"] : List Str); decide)
theorem chkQ_ok {d : D} (h : flT d = true) : chkQ d = some () := if_pos h
theorem eq01 : eqD (.int 0) (.int 0) = some true ∧ eqD (.int 1) (.int 0) = some false := ⟨rfl, rfl⟩
theorem asked_tail {d j : D} {m : Res D} (hj : eqD j (.int 0) = some true) {a : D} (e : d_t_people_in [d] = .ok a) (n1 : nlD a = some ()) (f : flT a = true) (nn : isND D.non D.non = some true) : d_l_asked [d, j] = .ok a := by
  unfold d_l_asked
  dsimp only
  rw [hj, op_s, bind_s, if_pos rfl, e, bind_s, bind_s, n1, op_s, bind_s, tryR_ok rfl, bind_s]
  dsimp only
  rw [nn, op_s, if_pos rfl, chkQ_ok f, op_s]
theorem asked_raise {d j : D} {b : Bool} (hj : eqD j (.int 0) = some b) {x : Exc} (e : d_t_people_in [d] = .raise x) (ex : x = ⟨"NoLong", []⟩) : d_l_asked [d, j] = .ok (.tup [.str "NoLong", .non]) := by
  subst ex
  have e2 : d_t_laid_out [d] = .raise ⟨"NoLong", []⟩ := by
    unfold d_t_laid_out
    dsimp only
    rw [e]; rfl
  have i1 : isND (.exc "NoLong" []) .non = some false := rfl
  have i2 : isE ["NoLong", "TooMany"] ["TooMany"] (.exc "NoLong" []) = some false := by kernel_rfl
  unfold d_l_asked
  dsimp only
  rw [hj, op_s, bind_s]
  cases b with
  | true =>
    rw [if_pos rfl, e, bind_r, bind_r, bind_r, tryR_long, bind_s]
    dsimp only
    rw [i1, op_s, if_neg (by simp), word_long, bind_s, i2, op_s, if_neg (by simp), bind_s, chkQ_ok rfl, op_s]
  | false =>
    rw [if_neg (by simp), e2, bind_r, bind_r, tryR_long, bind_s]
    dsimp only
    rw [i1, op_s, if_neg (by simp), word_long, bind_s, i2, op_s, if_neg (by simp), bind_s, chkQ_ok rfl, op_s]
theorem asked_many {d : D} {k : Nat} (e : d_t_people_in [d] = .ok (.int k)) (hk : 300 < k) : d_l_asked [d, .int 1] = .ok (.tup [.str "TooMany", .int k]) := by
  have e2 : d_t_laid_out [d] = .raise ⟨"TooMany", [("many", some (k : Int))]⟩ := by
    unfold d_t_laid_out
    dsimp only
    rw [e, bind_s, gtI, op_s, if_pos (decide_eq_true (by omega))]; rfl
  have i1 : isND (.exc "TooMany" [("many", some (k : Int))]) .non = some false := rfl
  have i2 : isE ["NoLong", "TooMany"] ["TooMany"] (.exc "TooMany" [("many", some (k : Int))]) = some true := by kernel_rfl
  have i3 : xfD ["TooMany"] "many" (.exc "TooMany" [("many", some (k : Int))]) = some (.int k) := by kernel_rfl
  unfold d_l_asked
  dsimp only
  rw [eq01.2, op_s, bind_s, if_neg (by simp), e2, bind_r, bind_r, tryR_many, bind_s]
  dsimp only
  rw [i1, op_s, if_neg (by simp), word_many, bind_s, i2, op_s, if_pos rfl, i3, op_s, bind_s, chkQ_ok rfl, op_s]
theorem flDs_eS : ∀ (l : List Say), flDs (l.map eS) = true
  | [] => rfl
  | (a, o) :: l => by
    show (flD (eS (a, o)) && flDs (l.map eS)) = true
    rw [flDs_eS l, Bool.and_true]
    cases o <;> rfl
theorem asked_laid {d : D} {k : Nat} {l : List Say} (e : d_t_people_in [d] = .ok (.int k)) (hk : k ≤ 300) (hl : d_t_laid 14 [d] = .ok (l.map eS)) : d_l_asked [d, .int 1] = .ok (.lst (l.map eS)) := by
  have e2 : d_t_laid_out [d] = .ok (l.map eS) := by
    unfold d_t_laid_out
    dsimp only
    rw [e, bind_s, gtI, op_s, if_neg (by simp; omega), hl, bind_s]
  unfold d_l_asked
  dsimp only
  rw [eq01.2, op_s, bind_s, if_neg (by simp), e2, bind_s, bind_s, tryR_ok rfl, bind_s]
  dsimp only
  rw [show isND D.non D.non = some true from rfl, op_s, if_pos rfl, chkQ_ok (d := .lst (l.map eS)) (flDs_eS l), op_s]
/-! ### the law's look at a thing -/
theorem range2 : rngD [.int 2] = some [.int 0, .int 1] := by rfl
/-- a thing that is not too deep, too long, too heavy is answered right -/
theorem right_ok {L h w : Nat} {d : D} (hL : L ≤ 2 ^ 16) {m : Nat} (hm : m < 28) (hd : hr L m d = true) (hb : Bk h w d) (hh : h ≤ 60) (hw : w ≤ 200000) : d_l_right [d] = .ok (.bl true) := by
  have g : Gd 14 d := hr_gd hL 14 m d (by omega) hd
  obtain ⟨t, et⟩ := bk_ok (hb.mono hh hw)
  obtain ⟨tg, etg⟩ := bk_ok ((bk_bl (goodN (mD 14 d))).mono (n' := 60) (w' := 200000) (by omega) (by omega))
  -- what is due and told, by the way
  have core : ∀ (good : Bool) (a2 : D) (due : List D) (r1 r2 : D), goodN (mD 14 d) = good → eN (mD 14 d) = a2 →
      (∀ s : List D, ((((op (truD (.bl good)) fun b34 => if b34 = true then (op (ltD a2 (D.int 301)) fun b35 => .ok b35) else (.ok false) : Res (Bool))).bind fun a33 => if a33 = true then ((d_l_laid 14 [d]).bind fun a36 => op (setL (if good = true then [a2, (D.tup [(D.str "TooMany"), a2])] else [(D.tup [(D.str "NoLong"), D.non]), (D.tup [(D.str "NoLong"), D.non])]) (D.int 1) a36) fun r37 => .ok r37) else (.ok (if good = true then [a2, (D.tup [(D.str "TooMany"), a2])] else [(D.tup [(D.str "NoLong"), D.non]), (D.tup [(D.str "NoLong"), D.non])])) : Res (List D))) = .ok due) →
      d_l_asked [d, .int 0] = .ok r1 → d_l_asked [d, .int 1] = .ok r2 → due = [r1, r2] → Bk 60 200000 (.lst due) → (∀ l, r2 = .lst l → flDs l = true ∧ l.length < 100000) → (∀ ns, r2 ≠ .scr ns) → d_l_right [d] = .ok (.bl true) := by
    intro good a2 due r1 r2 eg ea2 hdue h1 h2 edue hbd hat hns
    obtain ⟨tt, ett⟩ := bk_ok hbd
    unfold d_l_right
    dsimp only
    rw [et, op_s, lmany_tot 14 d (by decide) g, bind_s, ea2]
    have eand : ((op (notND a2 D.non) fun b4 => op (asB (D.bl b4)) fun b5 => if b5 = true then (op (powD (D.int 10) (D.int 30)) fun t6 => op (ltD a2 t6) fun b7 => .ok (D.bl b7)) else (.ok (D.bl false)) : Res (D))) = .ok (.bl good) := by
      rw [← ea2, nND, op_s, asB_ok, op_s]
      cases hm' : mD 14 d with
      | none => rw [if_neg (by simp), ← eg, hm']; rfl
      | some k =>
        have hh : decide ((k : Int) < 10 ^ 30) = goodN (some k) := by
          show decide ((k : Int) < 10 ^ 30) = decide ((k : Int) ≤ 999999999999999999999999999999)
          by_cases z : (k : Int) < 10 ^ 30
          · rw [decide_eq_true z, decide_eq_true (by omega)]
          · rw [decide_eq_false z, decide_eq_false (by omega)]
        rw [if_pos (by rfl), show powD (.int 10) (.int 30) = some (.int (10 ^ 30)) from powI (by decide), op_s, show eN (some k) = .int (k : Int) from rfl, ltI, op_s, ← eg, hm', hh]
    rw [eand, bind_s, is_long_ok g, bind_s, eg]
    rw [eg] at etg
    rw [etg, op_s, op_s, neS, op_s, if_neg (by simp)]
    have edu2 : ((op (truD (.bl good)) fun b13 => if b13 = true then (.ok [a2, (D.tup [(D.str "TooMany"), a2])]) else (.ok [(D.tup [(D.str "NoLong"), D.non]), (D.tup [(D.str "NoLong"), D.non])]) : Res (List D))) = .ok (if good = true then [a2, (D.tup [(D.str "TooMany"), a2])] else [(D.tup [(D.str "NoLong"), D.non]), (D.tup [(D.str "NoLong"), D.non])]) := by
      rw [tru_ok, op_s]; cases good <;> rfl
    rw [edu2, bind_s, hdue [], bind_s, range2, op_s]
    have turn : ∀ (f : D → Unit → Res (LFlow Unit D)), (∀ d18 s17, f d18 s17 = ((okR (d_l_asked [d, D.int 0])).bind fun r19 => (okR (d_l_asked [d, D.int 1])).bind fun r20 => ((op (rprD [(D.lst [r19, r20])]) fun t23 => op (rprD [(D.lst due)]) fun t24 => op (neD t23 t24) fun b25 => if b25 = true then (.ok true) else (op (some (D.str t)) fun t26 => op (neD t26 (.str t)) fun b27 => .ok b27) : Res (Bool))).bind fun a22 => if a22 = true then (.ok (.rt ((D.bl false)))) else (op (ixD (D.lst [r19, r20]) (D.int 1)) fun t29 => if (isLst t29) = true then (op (atR (D.lst [r19, r20])) fun _ => .ok (.nx ())) else (.ok (.nx ()))))) → ∀ x, f x () = .ok (.nx ()) := by
      intro f hf x
      rw [hf, h1, h2]
      show (okR (.ok r1)).bind _ = _
      rw [show okR (.ok r1) = Res.ok r1 from rfl, bind_s, show okR (.ok r2) = Res.ok r2 from rfl, bind_s, ← edue, ett, op_s, op_s, neS, op_s, if_neg (by simp), op_s, neS, op_s, bind_s, if_neg (by simp), edue]
      rw [show ixD (.lst [r1, r2]) (.int 1) = some r2 from rfl, op_s]
      cases r2 with
      | lst l =>
        obtain ⟨q1, q2⟩ := hat l rfl
        rw [if_pos (show isLst (.lst l) = true from rfl), show atR (.lst [r1, .lst l]) = some () from if_pos ⟨q1, q2⟩, op_s]
      | scr ns => exact absurd rfl (hns ns)
      | _ => rfl
    rw [forF_nx (turn _ (fun _ _ => rfl) (.int 0)), forF_nx (turn _ (fun _ _ => rfl) (.int 1)), forF_no, fb_nx]
  have nolong : Bk 60 200000 (.lst [D.tup [(D.str "NoLong"), D.non], D.tup [(D.str "NoLong"), D.non]]) := bkB_ok (by decide +kernel)
  by_cases hg : goodN (mD 14 d) = true
  · cases hk : mD 14 d with
    | none => rw [hk] at hg; cases hg
    | some k =>
      rw [hk] at hg
      have hk30 : (k : Int) ≤ 999999999999999999999999999999 := of_decide_eq_true hg
      have pin := people_in_ok g hk hg
      have a0 : d_l_asked [d, .int 0] = .ok (.int k) := asked_tail (m := .bad) eq01.1 pin rfl rfl rfl
      have bi : Bk 0 0 (.int (k : Int)) := bk_int (by omega) (by omega)
      by_cases h300 : k ≤ 300
      · obtain ⟨xs, r1, r2, r3, r4, r5⟩ := good_row hL 14 m d k (by decide) (by omega) hd hk
        have lt := tlaid_ok 14 xs d (by omega) r1 r2 r4 (by omega)
        have ll := llaid_ok 14 xs d (by omega) r1 r2 r4 (by omega)
        have len : (It.lays xs).length ≤ 300 := by rw [It.lays_len]; omega
        refine core true (.int k) [.int k, .lst ((It.lays xs).map eS)] _ _ (by rw [hk]; exact hg) (by rw [hk]; rfl) (fun s => ?_) a0 (asked_laid pin h300 lt) rfl ?_ ?_ nofun
        · rw [tru_ok, op_s, if_pos rfl, ltI, op_s, bind_s, if_pos (decide_eq_true (by omega)), ll, bind_s, if_pos rfl]; rfl
        · have one : BkA 1 ((2 + 1) * ((It.lays xs).map eS).length) ((It.lays xs).map eS) := bka_all fun x hx => by
            obtain ⟨s, hs, rfl⟩ := List.mem_map.mp hx
            exact bk_saying (r5 s hs)
          refine (bka_lst (bka_cons.mpr ⟨0, 1000, bi.mono (n' := 2) (by omega) (Nat.le_refl _), bka_cons.mpr ⟨900, 0, (bka_lst one).mono (Nat.le_refl _) (by rw [List.length_map]; omega), .nil, by omega⟩, Nat.le_refl _⟩)).mono (by omega) (by omega)
        · intro l e
          cases e
          exact ⟨flDs_eS _, by rw [List.length_map]; omega⟩
      · refine core true (.int k) [.int k, .tup [.str "TooMany", .int k]] _ _ (by rw [hk]; exact hg) (by rw [hk]; rfl) (fun s => ?_) a0 (asked_many pin (by omega)) rfl ?_ (fun l e => nomatch e) nofun
        · rw [tru_ok, op_s, if_pos rfl, ltI, op_s, bind_s, if_neg (by simp; omega), if_pos rfl]
        · have tm : Bk 0 10 (.str "TooMany") := bkB_ok (by decide +kernel)
          exact (bka_lst (bka_cons.mpr ⟨0, 100, bi.mono (n' := 1) (by omega) (Nat.le_refl _), bka_cons.mpr ⟨50, 0, bka_tup (bka_cons.mpr ⟨10, 10, tm, bka_cons.mpr ⟨0, 0, bi, .nil, by omega⟩, by omega⟩), .nil, by omega⟩, Nat.le_refl _⟩)).mono (by omega) (by omega)
  · have hg : goodN (mD 14 d) = false := by simpa using hg
    have pin := people_in_no g hg
    refine core false (eN (mD 14 d)) [.tup [.str "NoLong", .non], .tup [.str "NoLong", .non]] _ _ hg rfl (fun s => ?_) (asked_raise eq01.1 pin rfl) (asked_raise eq01.2 pin rfl) rfl nolong (fun l e => nomatch e) nofun
    rw [tru_ok, op_s, if_neg (by simp), bind_s, if_neg (by simp), if_neg (by simp)]

/-! ### the law -/
theorem ltupled_ok : ∀ (n : Nat) (xs : List It) (d : D), RowR xs d → It.deps xs < n → It.sizs xs < 1000 → ∃ d', d_l_tupled n [d] = .ok d' ∧ RowR xs d'
  | 0, _, _, _, h, _ => by omega
  | n + 1, xs, d, h, hd, hs => by
    obtain ⟨ds, e, h2, h3⟩ := h.as
    unfold d_l_tupled
    rw [e, op_s]
    have go : ∀ (xs : List It) (ds : List D) (acc : List D) (ys : List It) (f : D → Unit → Res (Option D × Unit)), (∀ d3 s2, f d3 s2 = ((op (ixD d3 (D.int 0)) fun t5 => op (eqD t5 (D.str "again")) fun b6 => if b6 = true then (op (ixD d3 (D.int 0)) fun t7 => op (ixD d3 (D.int 1)) fun t8 => op (ixD d3 (D.int 2)) fun t9 => (d_l_tupled n [t9]).bind fun a10 => .ok (D.tup [t7, t8, a10])) else (.ok d3) : Res (D))).bind fun a4 => .ok (some a4, ())) →
        ItsR xs ds → It.deps xs < n + 1 → It.sizs xs < 1000 → ItsR ys acc → acc.length + ds.length < 1000000 → ∃ es, lcF ds () acc f = .ok (es, ()) ∧ ItsR (ys ++ xs) es := by
      intro xs
      induction xs with
      | nil =>
        intro ds acc ys f hf h hd hs ha hl
        have h : ds = [] := h
        subst h
        exact ⟨acc, by unfold lcF; rfl, by rw [List.append_nil]; exact ha⟩
      | cons x xs ih =>
        intro ds acc ys f hf h hd hs ha hl
        obtain ⟨d, r, rfl, h1, h2⟩ := h
        have hd' : max x.dep (It.deps xs) < n + 1 := hd
        have hs' : x.siz + It.sizs xs < 1000 := hs
        obtain ⟨v, e1, e2⟩ := eqAg h1
        rw [List.length_cons] at hl
        have step : ∃ d', f d () = .ok (some d', ()) ∧ ItR x d' := by
          rw [hf, e1, op_s, e2, op_s]
          cases x with
          | say sa => exact ⟨d, by rw [if_neg (by simp [It.isAg]), bind_s], h1⟩
          | again k zs =>
            obtain ⟨r', h3, rfl⟩ := h1.get
            have hd2 : It.deps zs + 1 ≤ max (It.deps zs + 1) (It.deps xs) := Nat.le_max_left _ _
            have hd3 : max (It.deps zs + 1) (It.deps xs) < n + 1 := hd
            have hs3 : (It.again k zs).siz = It.sizs zs + 1 := rfl
            obtain ⟨w, ew, hw⟩ := ltupled_ok n zs r' h3 (by omega) (by omega)
            have i0 : ixD (D.tup [.str "again", .int k, r']) (.int 0) = some (.str "again") := rfl
            have i1 : ixD (D.tup [.str "again", .int k, r']) (.int 1) = some (.int k) := rfl
            have i2 : ixD (D.tup [.str "again", .int k, r']) (.int 2) = some r' := rfl
            have ev : v = .str "again" := by rw [i0] at e1; exact (Option.some.inj e1).symm
            subst ev
            exact ⟨_, by rw [if_pos (by rfl), op_s, i1, op_s, i2, op_s, ew, bind_s, bind_s], .ag hw⟩
        obtain ⟨d', ed, hd1⟩ := step
        obtain ⟨es, ee, he⟩ := ih r (acc ++ [d']) (ys ++ [x]) f hf h2 (by omega) (by omega) (ItsR.append (.one hd1) ha) (by rw [List.length_append, List.length_singleton]; omega)
        refine ⟨es, ?_, by rw [List.append_assoc] at he; exact he⟩
        unfold lcF
        rw [ed]
        have hz : acc.length < sizeLine := small_lt (by omega)
        simp only [hz, if_true]
        exact ee
    have hl : ds.length < 1000 := by have := ItsR.len h2; have := It.len_siz (xs := xs); omega
    obtain ⟨es, ee, he⟩ := go xs ds [] [] _ (fun _ _ => rfl) h2 hd hs rfl (by rw [List.length_nil]; omega)
    rw [ee, bind_s]
    exact ⟨.tup es, rfl, ⟨es, .inr rfl, he⟩⟩
theorem u10_20 : powD (.int 10) (.int 20) = some (.int (10 ^ 20)) := powI (by decide)
theorem pure_law (ns : List Int) (hl : ns.length ≤ 63) : d_law [.scr ns] = .ok (.bl true) := by
  unfold d_law
  dsimp only
  have e1 : lenD [.scr ns] = some (.int ns.length) := rfl
  obtain ⟨k, ek, k0, k8⟩ := cells (ns := ns) (n := 8) (by decide) (by decide)
  rw [e1, op_s, min2I, op_s, max2I, op_s, ek, rng1 k0 (by omega), op_s]
  refine Ok.eq (Ok.fbn (P := fun _ => True) (Ok.mono (Ok.forN (fun _ _ => True) 8 trivial (by rw [upto_len]; omega) (fun d hd _ i hi _ => ?_)) fun f ⟨s, e, _⟩ => ⟨s, e, trivial⟩) fun s _ => Ok.of rfl)
  obtain ⟨j, hj, rfl⟩ := upto_mem hd
  refine Ok.bnd (urn_k (by omega)) fun t0 u0 => ?_
  rw [rng1 (by decide) (by decide), op_s]
  refine Ok.fbn (P := fun _ => True) (Ok.mono (Ok.forN (fun i s => UrnOk (0 + i * 200000) s) 4 u0 (by rw [upto_len]; decide) (fun d hd s i hi us => ?_)) fun f ⟨s, e, _⟩ => ⟨s, e, trivial⟩) fun s _ => Ok.ret ⟨(), rfl, trivial⟩
  rw [u10_20, op_s]
  refine Ok.bnd (ball_k us (by omega) (by decide) (by decide)) ?_
  rintro _ ⟨r1, t1, rfl, a1, b1, k1⟩
  have pick : ∃ l : Int, ixD (D.lst [(D.int 4), .int 90, .int (10 ^ 20)]) (.int r1) = some (.int l) ∧ 0 ≤ l ∧ l ≤ 10 ^ 20 := by
    have : r1 = 0 ∨ r1 = 1 ∨ r1 = 2 := by omega
    rcases this with rfl | rfl | rfl
    · exact ⟨_, rfl, by decide, by decide⟩
    · exact ⟨_, rfl, by decide, by decide⟩
    · exact ⟨_, rfl, by decide, by decide⟩
  obtain ⟨p1, ep1, p10, p11⟩ := pick
  dsimp only
  rw [ep1, op_s, p10_29, op_s]
  refine Ok.bnd (ball_k k1 (by omega) (by decide) (by decide)) ?_
  rintro _ ⟨r2, t2, rfl, a2, b2', k2⟩
  have pick : ∃ l : Int, ixD (D.lst [(D.int 9), .int (10 ^ 29)]) (.int r2) = some (.int l) ∧ 0 < l ∧ l ≤ 10 ^ 29 := by
    have : r2 = 0 ∨ r2 = 1 := by omega
    rcases this with rfl | rfl
    · exact ⟨_, rfl, by decide, by decide⟩
    · exact ⟨_, rfl, by decide, by decide⟩
  obtain ⟨p2, ep2, p20, p21⟩ := pick
  dsimp only
  rw [ep2, op_s, op_s]
  refine Ok.bnd (ball_k k2 (by omega) (by decide) (by decide)) ?_
  rintro _ ⟨r3, t3, rfl, a3, b3, k3⟩
  have pick : ∃ l : Int, ixD (D.lst [(D.int 200), .int (10 ^ 29)]) (.int r3) = some (.int l) ∧ 0 ≤ l ∧ l ≤ 10 ^ 29 := by
    have : r3 = 0 ∨ r3 = 1 := by omega
    rcases this with rfl | rfl
    · exact ⟨_, rfl, by decide, by decide⟩
    · exact ⟨_, rfl, by decide, by decide⟩
  obtain ⟨p3, ep3, p30, p31⟩ := pick
  dsimp only
  rw [ep3, op_s]
  have dr : drw 4 ≤ 160000 := by decide
  have b110 : (2 : Int) ^ 110 ≤ 2 ^ 4000 := Int.le_of_lt (Int.lt_trans (show (2 : Int) ^ 110 < 2 ^ 250 by decide) p4000)
  refine Ok.bnd (long_k (B := 2 ^ 110) b110 8 4 (by omega) (by omega) t3 _ 40 p1 p2 p3 k3 (by omega) (by omega) (by omega) p10 (by omega) (by omega) p20 (by omega) (by omega) p30 (by omega) (by omega)) ?_
  rintro _ ⟨xs, ds, t4, q, rfl, hx, hxd, hxo, hxz, q0, hxp, k4⟩
  have k4 := k4.mono (M := i * 200000 + 170000) (by omega)
  dsimp only
  have hz : It.sizs xs ≤ 40 := by omega
  obtain ⟨dt, edt, rdt⟩ := ltupled_ok 8 xs (.lst ds) hx.row (by omega) (by omega)
  rw [edt, bind_s]
  obtain ⟨g1, g2⟩ := row_hb (L := 40) (by omega) 5 xs (.lst ds) hx.row (by omega) hxo hz
  obtain ⟨g3, g4⟩ := row_hb (L := 40) (by omega) 5 xs dt rdt (by omega) hxo hz
  have g2 := g2.mono (n' := 10) (w' := 560) (by omega) (by omega)
  have g4 := g4.mono (n' := 10) (w' := 560) (by omega) (by omega)
  refine Ok.bnd (bent_w (L := 40) (by omega) (by omega) 40 10 _ 10 560 t4 (.lst ds) (by omega) k4 (by omega) g1 g2) ?_
  rintro _ ⟨x1, t5, rfl, y1, y2, k5⟩
  dsimp only
  refine Ok.bnd (bent_w (L := 40) (by omega) (by omega) 40 10 _ 10 560 t5 (.lst ds) (by omega) k5 (by omega) g1 g2) ?_
  rintro _ ⟨x2, t6, rfl, y3, y4, k6⟩
  dsimp only
  refine Ok.bnd (bent_w (L := 81) (by omega) (by omega) 40 15 _ 16 1220 t6 x2 (by omega) k6 (by omega) y3 y4) ?_
  rintro _ ⟨x3, t7, rfl, y5, y6, k7⟩
  dsimp only
  refine Ok.bnd (odd_k k7 (by omega)) ?_
  rintro _ ⟨x4, t8, rfl, xo, k8'⟩
  dsimp only
  rw [show asL (.lst [.lst ds, dt, x1, x3, x4]) = some [.lst ds, dt, x1, x3, x4] from rfl, op_s]
  have all : ∀ x, x ∈ [D.lst ds, dt, x1, x3, x4] → d_l_right [x] = .ok (.bl true) := by
    intro x hx
    simp only [List.mem_cons, List.not_mem_nil, or_false] at hx
    rcases hx with rfl | rfl | rfl | rfl | rfl
    · exact right_ok (by decide) (m := 10) (by omega) g1 g2 (by omega) (by omega)
    · exact right_ok (by decide) (m := 10) (by omega) g3 g4 (by omega) (by omega)
    · exact right_ok (by decide) (m := 15) (by omega) y1 y2 (by omega) (by omega)
    · exact right_ok (by decide) (m := 20) (by omega) y5 y6 (by omega) (by omega)
    · exact right_ok (L := 16) (by decide) (m := 5) (by omega) (odd_mem (by omega) (by omega) xo) (odd_bk xo) (by omega) (by omega)
  refine Ok.fbn (P := fun _ => True) (Ok.mono (Ok.forN (fun _ _ => True) 5 trivial (by simp) (fun x hxm _ i' hi' _ => ?_)) fun f ⟨s, e, _⟩ => ⟨s, e, trivial⟩) fun s _ => Ok.ret ⟨t8, rfl, k8'.mono (by omega)⟩
  rw [all x hxm, bind_s, tru_ok, op_s, if_neg (by simp)]
  exact Ok.ret ⟨(), rfl, trivial⟩
theorem all_mk {l : PySem.W.OpenLaw} {w : World} {K : PySem.W.Frag} {h : Heap} {mg : Str → Option Value} {fa f1 f2 f3 f4 f5 f6 f7 f8 f9 f10 f11 f12 f13 f14 f15 f16 f17 f18 f19 f20 f21 f22 f23 f24 : Addr} (X : K.In h) (G : h.Ns mainGlobals mg) (hfa : mg "law" = some (.ref fa))
    {od1 an1 od2 an2 od3 an3 od4 an4 od5 an5 od6 an6 od7 an7 od8 an8 od9 an9 od10 an10 od11 an11 od12 an12 od13 an13 od14 an14 od15 an15 od16 an16 od17 an17 od18 an18 od19 an19 od20 an20 od21 an21 od22 an22 od23 an23 od24 an24 : Option Addr} {sl1 sl2 sl3 sl4 sl5 sl6 sl7 sl8 sl9 sl10 sl11 sl12 sl13 sl14 sl15 sl16 sl17 sl18 sl19 sl20 sl21 sl22 sl23 sl24 : Array (Option Value)} {oc1 dc1 pm1 cd1 ct1 kV1 oc2 dc2 pm2 cd2 ct2 kV2 oc3 dc3 pm3 cd3 ct3 kV3 oc4 dc4 pm4 cd4 ct4 kV4 oc5 dc5 pm5 cd5 ct5 kV5 oc6 dc6 pm6 cd6 ct6 kV6 oc7 dc7 pm7 cd7 ct7 kV7 oc8 dc8 pm8 cd8 ct8 kV8 oc9 dc9 pm9 cd9 ct9 kV9 oc10 dc10 pm10 cd10 ct10 kV10 oc11 dc11 pm11 cd11 ct11 kV11 oc12 dc12 pm12 cd12 ct12 kV12 oc13 dc13 pm13 cd13 ct13 kV13 oc14 dc14 pm14 cd14 ct14 kV14 oc15 dc15 pm15 cd15 ct15 kV15 oc16 dc16 pm16 cd16 ct16 kV16 oc17 dc17 pm17 cd17 ct17 kV17 oc18 dc18 pm18 cd18 ct18 kV18 oc19 dc19 pm19 cd19 ct19 kV19 oc20 dc20 pm20 cd20 ct20 kV20 oc21 dc21 pm21 cd21 ct21 kV21 oc22 dc22 pm22 cd22 ct22 kV22 oc23 dc23 pm23 cd23 ct23 kV23 oc24 dc24 pm24 cd24 ct24 kV24 : Value}
    (a1 : PySem.W.nsIn K mainGlobals "_law_urn" = some (some (.ref f1))) (l1 : K.lookup f1 = some ⟨oc1, od1, .func (PySem.W.fnOf "_law_urn" "_law_urn" (defArgs (topS 29)) (defBody (topS 29)) (defScope (topS 29)) .none kV1 dc1 pm1 an1 cd1 ct1), sl1⟩) (c1 : PySem.W.codeIn K cd1 "_law_urn" = true) (k1 : PySem.W.keepIn K (.ref f1) = true)
    (a2 : PySem.W.nsIn K mainGlobals "_law_ball" = some (some (.ref f2))) (l2 : K.lookup f2 = some ⟨oc2, od2, .func (PySem.W.fnOf "_law_ball" "_law_ball" (defArgs (topS 30)) (defBody (topS 30)) (defScope (topS 30)) .none kV2 dc2 pm2 an2 cd2 ct2), sl2⟩) (c2 : PySem.W.codeIn K cd2 "_law_ball" = true) (k2 : PySem.W.keepIn K (.ref f2) = true)
    (a3 : PySem.W.nsIn K mainGlobals "_law_saying" = some (some (.ref f3))) (l3 : K.lookup f3 = some ⟨oc3, od3, .func (PySem.W.fnOf "_law_saying" "_law_saying" (defArgs (topS 31)) (defBody (topS 31)) (defScope (topS 31)) .none kV3 dc3 pm3 an3 cd3 ct3), sl3⟩) (c3 : PySem.W.codeIn K cd3 "_law_saying" = true) (k3 : PySem.W.keepIn K (.ref f3) = true)
    (a4 : PySem.W.nsIn K mainGlobals "_law_people" = some (some (.ref f4))) (l4 : K.lookup f4 = some ⟨oc4, od4, .func (PySem.W.fnOf "_law_people" "_law_people" (defArgs (topS 32)) (defBody (topS 32)) (defScope (topS 32)) .none kV4 dc4 pm4 an4 cd4 ct4), sl4⟩) (c4 : PySem.W.codeIn K cd4 "_law_people" = true) (k4 : PySem.W.keepIn K (.ref f4) = true)
    (a5 : PySem.W.nsIn K mainGlobals "_law_long" = some (some (.ref f5))) (l5 : K.lookup f5 = some ⟨oc5, od5, .func (PySem.W.fnOf "_law_long" "_law_long" (defArgs (topS 33)) (defBody (topS 33)) (defScope (topS 33)) .none kV5 dc5 pm5 an5 cd5 ct5), sl5⟩) (c5 : PySem.W.codeIn K cd5 "_law_long" = true) (k5 : PySem.W.keepIn K (.ref f5) = true)
    (a6 : PySem.W.nsIn K mainGlobals "_law_odd" = some (some (.ref f6))) (l6 : K.lookup f6 = some ⟨oc6, od6, .func (PySem.W.fnOf "_law_odd" "_law_odd" (defArgs (topS 35)) (defBody (topS 35)) (defScope (topS 35)) .none kV6 dc6 pm6 an6 cd6 ct6), sl6⟩) (c6 : PySem.W.codeIn K cd6 "_law_odd" = true) (k6 : PySem.W.keepIn K (.ref f6) = true)
    (a7 : PySem.W.nsIn K mainGlobals "_law_bent" = some (some (.ref f7))) (l7 : K.lookup f7 = some ⟨oc7, od7, .func (PySem.W.fnOf "_law_bent" "_law_bent" (defArgs (topS 36)) (defBody (topS 36)) (defScope (topS 36)) .none kV7 dc7 pm7 an7 cd7 ct7), sl7⟩) (c7 : PySem.W.codeIn K cd7 "_law_bent" = true) (k7 : PySem.W.keepIn K (.ref f7) = true)
    (a8 : PySem.W.nsIn K mainGlobals "_law_tupled" = some (some (.ref f8))) (l8 : K.lookup f8 = some ⟨oc8, od8, .func (PySem.W.fnOf "_law_tupled" "_law_tupled" (defArgs (topS 40)) (defBody (topS 40)) (defScope (topS 40)) .none kV8 dc8 pm8 an8 cd8 ct8), sl8⟩) (c8 : PySem.W.codeIn K cd8 "_law_tupled" = true) (k8 : PySem.W.keepIn K (.ref f8) = true)
    (a9 : PySem.W.nsIn K mainGlobals "is_number" = some (some (.ref f9))) (l9 : K.lookup f9 = some ⟨oc9, od9, .func (PySem.W.fnOf "is_number" "is_number" (defArgs (topS 15)) (defBody (topS 15)) (defScope (topS 15)) .none kV9 dc9 pm9 an9 cd9 ct9), sl9⟩) (c9 : PySem.W.codeIn K cd9 "is_number" = true) (k9 : PySem.W.keepIn K (.ref f9) = true)
    (a10 : PySem.W.nsIn K mainGlobals "is_saying" = some (some (.ref f10))) (l10 : K.lookup f10 = some ⟨oc10, od10, .func (PySem.W.fnOf "is_saying" "is_saying" (defArgs (topS 16)) (defBody (topS 16)) (defScope (topS 16)) .none kV10 dc10 pm10 an10 cd10 ct10), sl10⟩) (c10 : PySem.W.codeIn K cd10 "is_saying" = true) (k10 : PySem.W.keepIn K (.ref f10) = true)
    (a11 : PySem.W.nsIn K mainGlobals "people_said" = some (some (.ref f11))) (l11 : K.lookup f11 = some ⟨oc11, od11, .func (PySem.W.fnOf "people_said" "people_said" (defArgs (topS 21)) (defBody (topS 21)) (defScope (topS 21)) .none kV11 dc11 pm11 an11 cd11 ct11), sl11⟩) (c11 : PySem.W.codeIn K cd11 "people_said" = true) (k11 : PySem.W.keepIn K (.ref f11) = true)
    (a12 : PySem.W.nsIn K mainGlobals "people_of" = some (some (.ref f12))) (l12 : K.lookup f12 = some ⟨oc12, od12, .func (PySem.W.fnOf "people_of" "people_of" (defArgs (topS 22)) (defBody (topS 22)) (defScope (topS 22)) .none kV12 dc12 pm12 an12 cd12 ct12), sl12⟩) (c12 : PySem.W.codeIn K cd12 "people_of" = true) (k12 : PySem.W.keepIn K (.ref f12) = true)
    (a13 : PySem.W.nsIn K mainGlobals "is_long" = some (some (.ref f13))) (l13 : K.lookup f13 = some ⟨oc13, od13, .func (PySem.W.fnOf "is_long" "is_long" (defArgs (topS 23)) (defBody (topS 23)) (defScope (topS 23)) .none kV13 dc13 pm13 an13 cd13 ct13), sl13⟩) (c13 : PySem.W.codeIn K cd13 "is_long" = true) (k13 : PySem.W.keepIn K (.ref f13) = true)
    (a14 : PySem.W.nsIn K mainGlobals "_law_laid" = some (some (.ref f14))) (l14 : K.lookup f14 = some ⟨oc14, od14, .func (PySem.W.fnOf "_law_laid" "_law_laid" (defArgs (topS 34)) (defBody (topS 34)) (defScope (topS 34)) .none kV14 dc14 pm14 an14 cd14 ct14), sl14⟩) (c14 : PySem.W.codeIn K cd14 "_law_laid" = true) (k14 : PySem.W.keepIn K (.ref f14) = true)
    (a15 : PySem.W.nsIn K mainGlobals "_law_is_number" = some (some (.ref f15))) (l15 : K.lookup f15 = some ⟨oc15, od15, .func (PySem.W.fnOf "_law_is_number" "_law_is_number" (defArgs (topS 37)) (defBody (topS 37)) (defScope (topS 37)) .none kV15 dc15 pm15 an15 cd15 ct15), sl15⟩) (c15 : PySem.W.codeIn K cd15 "_law_is_number" = true) (k15 : PySem.W.keepIn K (.ref f15) = true)
    (a16 : PySem.W.nsIn K mainGlobals "_law_many_in" = some (some (.ref f16))) (l16 : K.lookup f16 = some ⟨oc16, od16, .func (PySem.W.fnOf "_law_many_in" "_law_many_in" (defArgs (topS 38)) (defBody (topS 38)) (defScope (topS 38)) .none kV16 dc16 pm16 an16 cd16 ct16), sl16⟩) (c16 : PySem.W.codeIn K cd16 "_law_many_in" = true) (k16 : PySem.W.keepIn K (.ref f16) = true)
    (a17 : PySem.W.nsIn K mainGlobals "need_long" = some (some (.ref f17))) (l17 : K.lookup f17 = some ⟨oc17, od17, .func (PySem.W.fnOf "need_long" "need_long" (defArgs (topS 24)) (defBody (topS 24)) (defScope (topS 24)) .none kV17 dc17 pm17 an17 cd17 ct17), sl17⟩) (c17 : PySem.W.codeIn K cd17 "need_long" = true) (k17 : PySem.W.keepIn K (.ref f17) = true)
    (a18 : PySem.W.nsIn K mainGlobals "people_in" = some (some (.ref f18))) (l18 : K.lookup f18 = some ⟨oc18, od18, .func (PySem.W.fnOf "people_in" "people_in" (defArgs (topS 26)) (defBody (topS 26)) (defScope (topS 26)) .none kV18 dc18 pm18 an18 cd18 ct18), sl18⟩) (c18 : PySem.W.codeIn K cd18 "people_in" = true) (k18 : PySem.W.keepIn K (.ref f18) = true)
    (a19 : PySem.W.nsIn K mainGlobals "laid" = some (some (.ref f19))) (l19 : K.lookup f19 = some ⟨oc19, od19, .func (PySem.W.fnOf "laid" "laid" (defArgs (topS 25)) (defBody (topS 25)) (defScope (topS 25)) .none kV19 dc19 pm19 an19 cd19 ct19), sl19⟩) (c19 : PySem.W.codeIn K cd19 "laid" = true) (k19 : PySem.W.keepIn K (.ref f19) = true)
    (a20 : PySem.W.nsIn K mainGlobals "laid_out" = some (some (.ref f20))) (l20 : K.lookup f20 = some ⟨oc20, od20, .func (PySem.W.fnOf "laid_out" "laid_out" (defArgs (topS 27)) (defBody (topS 27)) (defScope (topS 27)) .none kV20 dc20 pm20 an20 cd20 ct20), sl20⟩) (c20 : PySem.W.codeIn K cd20 "laid_out" = true) (k20 : PySem.W.keepIn K (.ref f20) = true)
    (a21 : PySem.W.nsIn K mainGlobals "_law_word" = some (some (.ref f21))) (l21 : K.lookup f21 = some ⟨oc21, od21, .func (PySem.W.fnOf "_law_word" "_law_word" (defArgs (topS 39)) (defBody (topS 39)) (defScope (topS 39)) .none kV21 dc21 pm21 an21 cd21 ct21), sl21⟩) (c21 : PySem.W.codeIn K cd21 "_law_word" = true) (k21 : PySem.W.keepIn K (.ref f21) = true)
    (a22 : PySem.W.nsIn K mainGlobals "_law_asked" = some (some (.ref f22))) (l22 : K.lookup f22 = some ⟨oc22, od22, .func (PySem.W.fnOf "_law_asked" "_law_asked" (defArgs (topS 41)) (defBody (topS 41)) (defScope (topS 41)) .none kV22 dc22 pm22 an22 cd22 ct22), sl22⟩) (c22 : PySem.W.codeIn K cd22 "_law_asked" = true) (k22 : PySem.W.keepIn K (.ref f22) = true)
    (a23 : PySem.W.nsIn K mainGlobals "_law_right" = some (some (.ref f23))) (l23 : K.lookup f23 = some ⟨oc23, od23, .func (PySem.W.fnOf "_law_right" "_law_right" (defArgs (topS 42)) (defBody (topS 42)) (defScope (topS 42)) .none kV23 dc23 pm23 an23 cd23 ct23), sl23⟩) (c23 : PySem.W.codeIn K cd23 "_law_right" = true) (k23 : PySem.W.keepIn K (.ref f23) = true)
    (a24 : PySem.W.nsIn K mainGlobals "law" = some (some (.ref f24))) (l24 : K.lookup f24 = some ⟨oc24, od24, .func (PySem.W.fnOf "law" "law" (defArgs (topS 43)) (defBody (topS 43)) (defScope (topS 43)) .none kV24 dc24 pm24 an24 cd24 ct24), sl24⟩) (c24 : PySem.W.codeIn K cd24 "law" = true) (k24 : PySem.W.keepIn K (.ref f24) = true)
    (z_ValueError : PySem.W.nsIn K mainGlobals "ValueError" = some none)
    (z_abs : PySem.W.nsIn K mainGlobals "abs" = some none)
    (z_bool : PySem.W.nsIn K mainGlobals "bool" = some none)
    (z_int : PySem.W.nsIn K mainGlobals "int" = some none)
    (z_isinstance : PySem.W.nsIn K mainGlobals "isinstance" = some none)
    (z_len : PySem.W.nsIn K mainGlobals "len" = some none)
    (z_list : PySem.W.nsIn K mainGlobals "list" = some none)
    (z_max : PySem.W.nsIn K mainGlobals "max" = some none)
    (z_min : PySem.W.nsIn K mainGlobals "min" = some none)
    (z_range : PySem.W.nsIn K mainGlobals "range" = some none)
    (z_repr : PySem.W.nsIn K mainGlobals "repr" = some none)
    (z_str : PySem.W.nsIn K mainGlobals "str" = some none)
    (z_tuple : PySem.W.nsIn K mainGlobals "tuple" = some none)
    {t_MOST_LAID_OUT : Tok} (g_MOST_LAID_OUT : PySem.W.nsIn K mainGlobals "MOST_LAID_OUT" = some (some (.int 300 t_MOST_LAID_OUT)))
    {t_MOST_PEOPLE : Tok} (g_MOST_PEOPLE : PySem.W.nsIn K mainGlobals "MOST_PEOPLE" = some (some (.int 999999999999999999999999999999 t_MOST_PEOPLE)))
    {t_AGAIN : Tok} (g_AGAIN : PySem.W.nsIn K mainGlobals "AGAIN" = some (some (.str "again" t_AGAIN)))
    {C_BoastError C_NoDeed C_NoLong C_NoLot C_NoName C_NoNumber C_NoPlace C_NoRow C_NoSaying C_NoTable C_NoneYet C_Taken C_TooMany : Addr}     {fI_TooMany : Addr} {od_TooMany an_TooMany : Option Addr} {sl_TooMany : Array (Option Value)} {oc_TooMany dc_TooMany pm_TooMany cd_TooMany ct_TooMany kV_TooMany : Value} {nm_TooMany qn_TooMany : Str} {N_TooMany : Addr} {bs_TooMany bm_TooMany : List Value} {sn_TooMany : List Str} {sub_TooMany : List Value} {ab_TooMany : Bool} {col_TooMany : Option Bool} {dd_TooMany : Option Addr} {k0_TooMany k1_TooMany k2_TooMany k3_TooMany k5_TooMany : Option Value}
(a_BoastError : PySem.W.nsIn K mainGlobals "BoastError" = some (some (.ref C_BoastError)))
    (a_NoDeed : PySem.W.nsIn K mainGlobals "NoDeed" = some (some (.ref C_NoDeed)))
    (a_NoLong : PySem.W.nsIn K mainGlobals "NoLong" = some (some (.ref C_NoLong)))
    (a_NoLot : PySem.W.nsIn K mainGlobals "NoLot" = some (some (.ref C_NoLot)))
    (a_NoName : PySem.W.nsIn K mainGlobals "NoName" = some (some (.ref C_NoName)))
    (a_NoNumber : PySem.W.nsIn K mainGlobals "NoNumber" = some (some (.ref C_NoNumber)))
    (a_NoPlace : PySem.W.nsIn K mainGlobals "NoPlace" = some (some (.ref C_NoPlace)))
    (a_NoRow : PySem.W.nsIn K mainGlobals "NoRow" = some (some (.ref C_NoRow)))
    (a_NoSaying : PySem.W.nsIn K mainGlobals "NoSaying" = some (some (.ref C_NoSaying)))
    (a_NoTable : PySem.W.nsIn K mainGlobals "NoTable" = some (some (.ref C_NoTable)))
    (a_NoneYet : PySem.W.nsIn K mainGlobals "NoneYet" = some (some (.ref C_NoneYet)))
    (a_Taken : PySem.W.nsIn K mainGlobals "Taken" = some (some (.ref C_Taken)))
    (a_TooMany : PySem.W.nsIn K mainGlobals "TooMany" = some (some (.ref C_TooMany)))
    (b_BoastError : PySem.W.subIn K (.ref C_BoastError) (.type "BaseException") = some true)
    (b_NoLong : PySem.W.subIn K (.ref C_NoLong) (.type "BaseException") = some true)
    (b_TooMany : PySem.W.subIn K (.ref C_TooMany) (.type "BaseException") = some true)
    (t_BoastError : PySem.W.typeIn K (.ref C_BoastError) = some (.type "type"))
    (t_NoLong : PySem.W.typeIn K (.ref C_NoLong) = some (.type "type"))
    (t_TooMany : PySem.W.typeIn K (.ref C_TooMany) = some (.type "type"))
    (e_NoLong : PySem.W.excIn K C_NoLong [.type "ValueError", .type "Exception", .type "BaseException", .type "object"] "ValueError.__new__" = true)
    (p_NoLong : PySem.W.keepIn K (.ref C_NoLong) = true)
    (d_BoastError : PySem.W.hasDictIn K C_BoastError = true)
    (d_NoLong : PySem.W.hasDictIn K C_NoLong = true)
    (d_TooMany : PySem.W.hasDictIn K C_TooMany = true)
    (xn : PySem.W.specialIn K (.builtin "object.__class__") "__get__" = some (some (.builtin "getset_descriptor.__get__")))
    (xk : PySem.W.takesIn K (.builtin "object.__class__") = some true)
    (g_NoLong : PySem.W.findIn K (.ref C_NoLong) "__getattribute__" = some (some (.builtin "BaseException.__getattribute__")))
    (h_NoLong : PySem.W.findIn K (.ref C_NoLong) "__getattr__" = some none)
    (j_NoLong : PySem.W.findIn K (.ref C_NoLong) "__class__" = some (some (.builtin "object.__class__")))
    (m_NoLong : PySem.W.mroIn K C_NoLong (.type "object") = some true)
    (y_NoLong_int : PySem.W.kitOne K (.ref C_NoLong) (.type "int") = some false)
    (y_NoLong_bool : PySem.W.kitOne K (.ref C_NoLong) (.type "bool") = some false)
    (y_NoLong_str : PySem.W.kitOne K (.ref C_NoLong) (.type "str") = some false)
    (y_NoLong_tuple : PySem.W.kitOne K (.ref C_NoLong) (.type "tuple") = some false)
    (y_NoLong_list : PySem.W.kitOne K (.ref C_NoLong) (.type "list") = some false)
    (y_NoLong_dict : PySem.W.kitOne K (.ref C_NoLong) (.type "dict") = some false)
    (v_NoLong : PySem.W.kitOne K (.ref C_NoLong) (.type "ValueError") = some true)
    (q_NoLong_NoDeed : PySem.W.kitOne K (.ref C_NoLong) (.ref C_NoDeed) = some false)
    (q_NoLong_NoLong : PySem.W.kitOne K (.ref C_NoLong) (.ref C_NoLong) = some true)
    (q_NoLong_NoLot : PySem.W.kitOne K (.ref C_NoLong) (.ref C_NoLot) = some false)
    (q_NoLong_NoName : PySem.W.kitOne K (.ref C_NoLong) (.ref C_NoName) = some false)
    (q_NoLong_NoNumber : PySem.W.kitOne K (.ref C_NoLong) (.ref C_NoNumber) = some false)
    (q_NoLong_NoPlace : PySem.W.kitOne K (.ref C_NoLong) (.ref C_NoPlace) = some false)
    (q_NoLong_NoRow : PySem.W.kitOne K (.ref C_NoLong) (.ref C_NoRow) = some false)
    (q_NoLong_NoSaying : PySem.W.kitOne K (.ref C_NoLong) (.ref C_NoSaying) = some false)
    (q_NoLong_NoTable : PySem.W.kitOne K (.ref C_NoLong) (.ref C_NoTable) = some false)
    (q_NoLong_NoneYet : PySem.W.kitOne K (.ref C_NoLong) (.ref C_NoneYet) = some false)
    (q_NoLong_Taken : PySem.W.kitOne K (.ref C_NoLong) (.ref C_Taken) = some false)
    (q_NoLong_TooMany : PySem.W.kitOne K (.ref C_NoLong) (.ref C_TooMany) = some false)
    (s_NoLong_BoastError : PySem.W.subIn K (.ref C_NoLong) (.ref C_BoastError) = some true)
    (g_TooMany : PySem.W.findIn K (.ref C_TooMany) "__getattribute__" = some (some (.builtin "BaseException.__getattribute__")))
    (h_TooMany : PySem.W.findIn K (.ref C_TooMany) "__getattr__" = some none)
    (j_TooMany : PySem.W.findIn K (.ref C_TooMany) "__class__" = some (some (.builtin "object.__class__")))
    (m_TooMany : PySem.W.mroIn K C_TooMany (.type "object") = some true)
    (y_TooMany_int : PySem.W.kitOne K (.ref C_TooMany) (.type "int") = some false)
    (y_TooMany_bool : PySem.W.kitOne K (.ref C_TooMany) (.type "bool") = some false)
    (y_TooMany_str : PySem.W.kitOne K (.ref C_TooMany) (.type "str") = some false)
    (y_TooMany_tuple : PySem.W.kitOne K (.ref C_TooMany) (.type "tuple") = some false)
    (y_TooMany_list : PySem.W.kitOne K (.ref C_TooMany) (.type "list") = some false)
    (y_TooMany_dict : PySem.W.kitOne K (.ref C_TooMany) (.type "dict") = some false)
    (v_TooMany : PySem.W.kitOne K (.ref C_TooMany) (.type "ValueError") = some true)
    (q_TooMany_NoDeed : PySem.W.kitOne K (.ref C_TooMany) (.ref C_NoDeed) = some false)
    (q_TooMany_NoLong : PySem.W.kitOne K (.ref C_TooMany) (.ref C_NoLong) = some false)
    (q_TooMany_NoLot : PySem.W.kitOne K (.ref C_TooMany) (.ref C_NoLot) = some false)
    (q_TooMany_NoName : PySem.W.kitOne K (.ref C_TooMany) (.ref C_NoName) = some false)
    (q_TooMany_NoNumber : PySem.W.kitOne K (.ref C_TooMany) (.ref C_NoNumber) = some false)
    (q_TooMany_NoPlace : PySem.W.kitOne K (.ref C_TooMany) (.ref C_NoPlace) = some false)
    (q_TooMany_NoRow : PySem.W.kitOne K (.ref C_TooMany) (.ref C_NoRow) = some false)
    (q_TooMany_NoSaying : PySem.W.kitOne K (.ref C_TooMany) (.ref C_NoSaying) = some false)
    (q_TooMany_NoTable : PySem.W.kitOne K (.ref C_TooMany) (.ref C_NoTable) = some false)
    (q_TooMany_NoneYet : PySem.W.kitOne K (.ref C_TooMany) (.ref C_NoneYet) = some false)
    (q_TooMany_Taken : PySem.W.kitOne K (.ref C_TooMany) (.ref C_Taken) = some false)
    (q_TooMany_TooMany : PySem.W.kitOne K (.ref C_TooMany) (.ref C_TooMany) = some true)
    (s_TooMany_BoastError : PySem.W.subIn K (.ref C_TooMany) (.ref C_BoastError) = some true)
    (no_TooMany : PySem.W.findIn K (.ref C_TooMany) "many" = some none)
    (xl_TooMany : K.lookup C_TooMany = some (excClassObj nm_TooMany qn_TooMany C_TooMany N_TooMany bs_TooMany bm_TooMany true sn_TooMany sub_TooMany ab_TooMany col_TooMany dd_TooMany k0_TooMany k1_TooMany k2_TooMany k3_TooMany k5_TooMany "ValueError.__new__"))
    (xm_TooMany : PySem.HandSPX.refsVE bm_TooMany = true)
    (xs_TooMany : PySem.W.findIn K (.ref C_TooMany) "__setattr__" = some (some (.builtin "object.__setattr__")))
    (xp_TooMany : PySem.W.keepIn K (.ref C_TooMany) = true)
    (xi_TooMany : PySem.W.findIn K (.ref C_TooMany) "__init__" = some (some (.ref fI_TooMany)))
    (xt_TooMany : PySem.W.typeIn K (.ref fI_TooMany) = some (.type "function"))
    (xf_TooMany : K.lookup fI_TooMany = some ⟨oc_TooMany, od_TooMany, .func (PySem.W.fnOf "__init__" "TooMany.__init__" (defArgs (inClass (topS 13) 0)) (defBody (inClass (topS 13) 0)) (defScope (inClass (topS 13) 0)) .none kV_TooMany dc_TooMany pm_TooMany an_TooMany cd_TooMany ct_TooMany), sl_TooMany⟩)
    (xc_TooMany : PySem.W.codeIn K cd_TooMany "TooMany.__init__" = true)
    (xj_TooMany : PySem.W.keepIn K (.ref fI_TooMany) = true)
    (xb_BoastError : PySem.W.specialIn K (.ref C_BoastError) "__getattribute__" = some (some (.builtin "type.__getattribute__")))
    (xr_BoastError : PySem.W.readsIn K C_BoastError (.type "type") = true)
    (xg_BoastError : PySem.W.findCls K (.ref C_BoastError) (.type "type") "__init__" = some (.val (.builtin "ValueError.__init__")))
    (pure : ∀ ns : List Int, ns.length ≤ 63 → d_law [.scr ns] = .ok (.bl true)) :
    ∃ fd : FuncData, (∀ (s : Shared) (v : Value), BindsTo s fd ⟨[v], []⟩ [("_law_script", v)]) ∧ ∀ base : Heap, K.In base → base.Ns mainGlobals mg → FnG l.prog w K mg base 52 fa fd ["_law_script"] (spLaw 63 K) := by
  have e := hfa.symm.trans (PySem.W.mg_of X G a24)
  cases e
  have T : Txt K mg := ⟨PySem.W.mg_none_of X G z_ValueError, PySem.W.mg_none_of X G z_abs, PySem.W.mg_none_of X G z_bool, PySem.W.mg_none_of X G z_int, PySem.W.mg_none_of X G z_isinstance, PySem.W.mg_none_of X G z_len, PySem.W.mg_none_of X G z_list, PySem.W.mg_none_of X G z_max, PySem.W.mg_none_of X G z_min, PySem.W.mg_none_of X G z_range, PySem.W.mg_none_of X G z_repr, PySem.W.mg_none_of X G z_str, PySem.W.mg_none_of X G z_tuple, gi_mk X G g_MOST_LAID_OUT, gi_mk X G g_MOST_PEOPLE, gs_mk X G g_AGAIN, ⟨_, PySem.W.mg_of X G a_NoLong, e_NoLong, p_NoLong, b_NoLong, t_NoLong⟩, ⟨_, PySem.W.mg_of X G a_BoastError, fm_c (⟨_, PySem.W.mg_of X G a_NoLong, excF_mk a_NoLong ⟨g_NoLong, h_NoLong, b_NoLong, d_NoLong, j_NoLong, xn, xk, m_NoLong⟩ y_NoLong_int y_NoLong_bool y_NoLong_str y_NoLong_tuple y_NoLong_list y_NoLong_dict, PySem.W.exm_ref b_BoastError d_BoastError t_BoastError s_NoLong_BoastError⟩) (fm_c (⟨_, PySem.W.mg_of X G a_TooMany, excF_mk a_TooMany ⟨g_TooMany, h_TooMany, b_TooMany, d_TooMany, j_TooMany, xn, xk, m_TooMany⟩ y_TooMany_int y_TooMany_bool y_TooMany_str y_TooMany_tuple y_TooMany_list y_TooMany_dict, PySem.W.exm_ref b_BoastError d_BoastError t_BoastError s_TooMany_BoastError⟩) (fm_n))⟩, ⟨_, PySem.W.mg_of X G a_NoDeed, fm_c (fun C e => kit_at a_NoLong q_NoLong_NoDeed (by decide) e) (fm_c (fun C e => kit_at a_TooMany q_TooMany_NoDeed (by decide) e) (fm_n))⟩, ⟨_, PySem.W.mg_of X G a_NoLong, fm_c (fun C e => kit_at a_NoLong q_NoLong_NoLong (by decide) e) (fm_c (fun C e => kit_at a_TooMany q_TooMany_NoLong (by decide) e) (fm_n))⟩, ⟨_, PySem.W.mg_of X G a_NoLot, fm_c (fun C e => kit_at a_NoLong q_NoLong_NoLot (by decide) e) (fm_c (fun C e => kit_at a_TooMany q_TooMany_NoLot (by decide) e) (fm_n))⟩, ⟨_, PySem.W.mg_of X G a_NoName, fm_c (fun C e => kit_at a_NoLong q_NoLong_NoName (by decide) e) (fm_c (fun C e => kit_at a_TooMany q_TooMany_NoName (by decide) e) (fm_n))⟩, ⟨_, PySem.W.mg_of X G a_NoNumber, fm_c (fun C e => kit_at a_NoLong q_NoLong_NoNumber (by decide) e) (fm_c (fun C e => kit_at a_TooMany q_TooMany_NoNumber (by decide) e) (fm_n))⟩, ⟨_, PySem.W.mg_of X G a_NoPlace, fm_c (fun C e => kit_at a_NoLong q_NoLong_NoPlace (by decide) e) (fm_c (fun C e => kit_at a_TooMany q_TooMany_NoPlace (by decide) e) (fm_n))⟩, ⟨_, PySem.W.mg_of X G a_NoRow, fm_c (fun C e => kit_at a_NoLong q_NoLong_NoRow (by decide) e) (fm_c (fun C e => kit_at a_TooMany q_TooMany_NoRow (by decide) e) (fm_n))⟩, ⟨_, PySem.W.mg_of X G a_NoSaying, fm_c (fun C e => kit_at a_NoLong q_NoLong_NoSaying (by decide) e) (fm_c (fun C e => kit_at a_TooMany q_TooMany_NoSaying (by decide) e) (fm_n))⟩, ⟨_, PySem.W.mg_of X G a_NoTable, fm_c (fun C e => kit_at a_NoLong q_NoLong_NoTable (by decide) e) (fm_c (fun C e => kit_at a_TooMany q_TooMany_NoTable (by decide) e) (fm_n))⟩, ⟨_, PySem.W.mg_of X G a_NoneYet, fm_c (fun C e => kit_at a_NoLong q_NoLong_NoneYet (by decide) e) (fm_c (fun C e => kit_at a_TooMany q_TooMany_NoneYet (by decide) e) (fm_n))⟩, ⟨_, PySem.W.mg_of X G a_Taken, fm_c (fun C e => kit_at a_NoLong q_NoLong_Taken (by decide) e) (fm_c (fun C e => kit_at a_TooMany q_TooMany_Taken (by decide) e) (fm_n))⟩, ⟨_, PySem.W.mg_of X G a_TooMany, fm_c (fun C e => kit_at a_NoLong q_NoLong_TooMany (by decide) e) (fm_c (fun C e => kit_at a_TooMany q_TooMany_TooMany (by decide) e) (fm_n))⟩, fm_c (fun C e => kit_at' a_NoLong v_NoLong e) (fm_c (fun C e => kit_at' a_TooMany v_TooMany e) (fm_n)), fm_c (fun C e => xff a_TooMany ⟨g_TooMany, h_TooMany, b_TooMany, d_TooMany⟩ no_TooMany e) (fm_n), ⟨_, _, _, _, (fun_mk (st := (inClass (topS 13) 0)) xf_TooMany xc_TooMany xj_TooMany), (L2.Fun.binds (ps := ["self", "many"]) (fun_mk (st := (inClass (topS 13) 0)) xf_TooMany xc_TooMany xj_TooMany) (fun _ _ _ _ _ _ us hl => match us, hl with | [_, _], _ => rfl)), PySem.W.mg_of X G a_TooMany, oexC_mk xl_TooMany xm_TooMany xs_TooMany b_TooMany t_TooMany xp_TooMany, no_TooMany, xi_TooMany, xt_TooMany, PySem.W.mg_of X G a_BoastError, xb_BoastError, xr_BoastError, xg_BoastError⟩,
    fn_fact X G a1 l1 c1 k1 (fun _ _ _ _ _ _ us hl => match us, hl with | [_, _], _ => rfl),
    fn_fact X G a2 l2 c2 k2 (fun _ _ _ _ _ _ us hl => match us, hl with | [_, _], _ => rfl),
    fn_fact X G a3 l3 c3 k3 (fun _ _ _ _ _ _ us hl => match us, hl with | [_, _], _ => rfl),
    fn_fact X G a4 l4 c4 k4 (fun _ _ _ _ _ _ us hl => match us, hl with | [_], _ => rfl),
    fn_fact X G a5 l5 c5 k5 (fun _ _ _ _ _ _ us hl => match us, hl with | [_, _, _, _], _ => rfl),
    fn_fact X G a6 l6 c6 k6 (fun _ _ _ _ _ _ us hl => match us, hl with | [_], _ => rfl),
    fn_fact X G a7 l7 c7 k7 (fun _ _ _ _ _ _ us hl => match us, hl with | [_, _], _ => rfl),
    fn_fact X G a8 l8 c8 k8 (fun _ _ _ _ _ _ us hl => match us, hl with | [_], _ => rfl),
    fn_fact X G a9 l9 c9 k9 (fun _ _ _ _ _ _ us hl => match us, hl with | [_], _ => rfl),
    fn_fact X G a10 l10 c10 k10 (fun _ _ _ _ _ _ us hl => match us, hl with | [_], _ => rfl),
    fn_fact X G a11 l11 c11 k11 (fun _ _ _ _ _ _ us hl => match us, hl with | [_], _ => rfl),
    fn_fact X G a12 l12 c12 k12 (fun _ _ _ _ _ _ us hl => match us, hl with | [_], _ => rfl),
    fn_fact X G a13 l13 c13 k13 (fun _ _ _ _ _ _ us hl => match us, hl with | [_], _ => rfl),
    fn_fact X G a14 l14 c14 k14 (fun _ _ _ _ _ _ us hl => match us, hl with | [_], _ => rfl),
    fn_fact X G a15 l15 c15 k15 (fun _ _ _ _ _ _ us hl => match us, hl with | [_], _ => rfl),
    fn_fact X G a16 l16 c16 k16 (fun _ _ _ _ _ _ us hl => match us, hl with | [_], _ => rfl),
    fn_fact X G a17 l17 c17 k17 (fun _ _ _ _ _ _ us hl => match us, hl with | [_], _ => rfl),
    fn_fact X G a18 l18 c18 k18 (fun _ _ _ _ _ _ us hl => match us, hl with | [_], _ => rfl),
    fn_fact X G a19 l19 c19 k19 (fun _ _ _ _ _ _ us hl => match us, hl with | [_], _ => rfl),
    fn_fact X G a20 l20 c20 k20 (fun _ _ _ _ _ _ us hl => match us, hl with | [_], _ => rfl),
    fn_fact X G a21 l21 c21 k21 (fun _ _ _ _ _ _ us hl => match us, hl with | [_], _ => rfl),
    fn_fact X G a22 l22 c22 k22 (fun _ _ _ _ _ _ us hl => match us, hl with | [_, _], _ => rfl),
    fn_fact X G a23 l23 c23 k23 (fun _ _ _ _ _ _ us hl => match us, hl with | [_], _ => rfl),
    fn_fact X G a24 l24 c24 k24 (fun _ _ _ _ _ _ us hl => match us, hl with | [_], _ => rfl)⟩
  exact ⟨PySem.W.fnOf "law" "law" (defArgs (topS 43)) (defBody (topS 43)) (defScope (topS 43)) .none kV24 dc24 pm24 an24 cd24 ct24, fun s v => .of_eq rfl, fun base _ _ => law_spec (fn_law T (fun_mk (st := topS 43) l24 c24 k24)) pure⟩
end BR
open PySem PySem.W PyProof.Rows
set_option maxHeartbeats 0 in
theorem PySem.Challenge.cw_boastrow_k67_what_long_rows_are_holds : PySem.Challenge.rw_boastrow_k67_what_long_rows_are.Holds := by
  w_on; o_law; k_headL; (case hw => w_witness2)
  k_fill
  refine BR.walk_G (l := PySem.Challenge.rw_boastrow_k67_what_long_rows_are) (n := 63) (k := 52) (x := "_law_script") (sp := fun w => BR.spLaw 63 _) rfl (by decide) rfl ⟨⟨rfl, by decide, by decide⟩, rfl⟩ (fun w h Y => PySem.W.kIn_of Y) ?F (fun _ _ a ns hl _ hS => ⟨a, ns, rfl, hS, hl, fun _ => rfl⟩)
  case F =>
    intro w mg fa h KX G hmg
    refine' BR.all_mk KX G hmg ?a1 ?l1 ?c1 ?k1 ?a2 ?l2 ?c2 ?k2 ?a3 ?l3 ?c3 ?k3 ?a4 ?l4 ?c4 ?k4 ?a5 ?l5 ?c5 ?k5 ?a6 ?l6 ?c6 ?k6 ?a7 ?l7 ?c7 ?k7 ?a8 ?l8 ?c8 ?k8 ?a9 ?l9 ?c9 ?k9 ?a10 ?l10 ?c10 ?k10 ?a11 ?l11 ?c11 ?k11 ?a12 ?l12 ?c12 ?k12 ?a13 ?l13 ?c13 ?k13 ?a14 ?l14 ?c14 ?k14 ?a15 ?l15 ?c15 ?k15 ?a16 ?l16 ?c16 ?k16 ?a17 ?l17 ?c17 ?k17 ?a18 ?l18 ?c18 ?k18 ?a19 ?l19 ?c19 ?k19 ?a20 ?l20 ?c20 ?k20 ?a21 ?l21 ?c21 ?k21 ?a22 ?l22 ?c22 ?k22 ?a23 ?l23 ?c23 ?k23 ?a24 ?l24 ?c24 ?k24 ?z_ValueError ?z_abs ?z_bool ?z_int ?z_isinstance ?z_len ?z_list ?z_max ?z_min ?z_range ?z_repr ?z_str ?z_tuple ?g_MOST_LAID_OUT ?g_MOST_PEOPLE ?g_AGAIN ?a_BoastError ?a_NoDeed ?a_NoLong ?a_NoLot ?a_NoName ?a_NoNumber ?a_NoPlace ?a_NoRow ?a_NoSaying ?a_NoTable ?a_NoneYet ?a_Taken ?a_TooMany ?b_BoastError ?b_NoLong ?b_TooMany ?t_BoastError ?t_NoLong ?t_TooMany ?e_NoLong ?p_NoLong ?d_BoastError ?d_NoLong ?d_TooMany ?xn ?xk ?g_NoLong ?h_NoLong ?j_NoLong ?m_NoLong ?y_NoLong_int ?y_NoLong_bool ?y_NoLong_str ?y_NoLong_tuple ?y_NoLong_list ?y_NoLong_dict ?v_NoLong ?q_NoLong_NoDeed ?q_NoLong_NoLong ?q_NoLong_NoLot ?q_NoLong_NoName ?q_NoLong_NoNumber ?q_NoLong_NoPlace ?q_NoLong_NoRow ?q_NoLong_NoSaying ?q_NoLong_NoTable ?q_NoLong_NoneYet ?q_NoLong_Taken ?q_NoLong_TooMany ?s_NoLong_BoastError ?g_TooMany ?h_TooMany ?j_TooMany ?m_TooMany ?y_TooMany_int ?y_TooMany_bool ?y_TooMany_str ?y_TooMany_tuple ?y_TooMany_list ?y_TooMany_dict ?v_TooMany ?q_TooMany_NoDeed ?q_TooMany_NoLong ?q_TooMany_NoLot ?q_TooMany_NoName ?q_TooMany_NoNumber ?q_TooMany_NoPlace ?q_TooMany_NoRow ?q_TooMany_NoSaying ?q_TooMany_NoTable ?q_TooMany_NoneYet ?q_TooMany_Taken ?q_TooMany_TooMany ?s_TooMany_BoastError ?no_TooMany ?xl_TooMany ?xm_TooMany ?xs_TooMany ?xp_TooMany ?xi_TooMany ?xt_TooMany ?xf_TooMany ?xc_TooMany ?xj_TooMany ?xb_BoastError ?xr_BoastError ?xg_BoastError BR.pure_law
    (case a1 => k_is); (case l1 => k_is); (case c1 => k_is); (case k1 => k_is); (case a2 => k_is); (case l2 => k_is); (case c2 => k_is); (case k2 => k_is); (case a3 => k_is); (case l3 => k_is); (case c3 => k_is); (case k3 => k_is); (case a4 => k_is); (case l4 => k_is); (case c4 => k_is); (case k4 => k_is); (case a5 => k_is); (case l5 => k_is); (case c5 => k_is); (case k5 => k_is); (case a6 => k_is); (case l6 => k_is); (case c6 => k_is); (case k6 => k_is); (case a7 => k_is); (case l7 => k_is); (case c7 => k_is); (case k7 => k_is); (case a8 => k_is); (case l8 => k_is); (case c8 => k_is); (case k8 => k_is); (case a9 => k_is); (case l9 => k_is); (case c9 => k_is); (case k9 => k_is); (case a10 => k_is); (case l10 => k_is); (case c10 => k_is); (case k10 => k_is); (case a11 => k_is); (case l11 => k_is); (case c11 => k_is); (case k11 => k_is); (case a12 => k_is); (case l12 => k_is); (case c12 => k_is); (case k12 => k_is); (case a13 => k_is); (case l13 => k_is); (case c13 => k_is); (case k13 => k_is); (case a14 => k_is); (case l14 => k_is); (case c14 => k_is); (case k14 => k_is); (case a15 => k_is); (case l15 => k_is); (case c15 => k_is); (case k15 => k_is); (case a16 => k_is); (case l16 => k_is); (case c16 => k_is); (case k16 => k_is); (case a17 => k_is); (case l17 => k_is); (case c17 => k_is); (case k17 => k_is); (case a18 => k_is); (case l18 => k_is); (case c18 => k_is); (case k18 => k_is); (case a19 => k_is); (case l19 => k_is); (case c19 => k_is); (case k19 => k_is); (case a20 => k_is); (case l20 => k_is); (case c20 => k_is); (case k20 => k_is); (case a21 => k_is); (case l21 => k_is); (case c21 => k_is); (case k21 => k_is); (case a22 => k_is); (case l22 => k_is); (case c22 => k_is); (case k22 => k_is); (case a23 => k_is); (case l23 => k_is); (case c23 => k_is); (case k23 => k_is); (case a24 => k_is); (case l24 => k_is); (case c24 => k_is); (case k24 => k_is); (case z_ValueError => k_is); (case z_abs => k_is); (case z_bool => k_is); (case z_int => k_is); (case z_isinstance => k_is); (case z_len => k_is); (case z_list => k_is); (case z_max => k_is); (case z_min => k_is); (case z_range => k_is); (case z_repr => k_is); (case z_str => k_is); (case z_tuple => k_is); (case g_MOST_LAID_OUT => k_is); (case g_MOST_PEOPLE => k_is); (case g_AGAIN => k_is)
    (case a_BoastError => k_is); (case a_NoDeed => k_is); (case a_NoLong => k_is); (case a_NoLot => k_is); (case a_NoName => k_is); (case a_NoNumber => k_is); (case a_NoPlace => k_is); (case a_NoRow => k_is); (case a_NoSaying => k_is); (case a_NoTable => k_is); (case a_NoneYet => k_is); (case a_Taken => k_is); (case a_TooMany => k_is); (case b_BoastError => k_is); (case b_NoLong => k_is); (case b_TooMany => k_is); (case t_BoastError => k_is); (case t_NoLong => k_is); (case t_TooMany => k_is); (case e_NoLong => k_exc); (case p_NoLong => k_is); (case d_BoastError => k_is); (case d_NoLong => k_is); (case d_TooMany => k_is); (case xn => k_is); (case xk => k_is); (case g_NoLong => k_is); (case h_NoLong => k_is); (case j_NoLong => k_is); (case m_NoLong => k_is); (case y_NoLong_int => kit_is); (case y_NoLong_bool => kit_is); (case y_NoLong_str => kit_is); (case y_NoLong_tuple => kit_is); (case y_NoLong_list => kit_is); (case y_NoLong_dict => kit_is); (case v_NoLong => kit_is); (case q_NoLong_NoDeed => kit_is); (case q_NoLong_NoLong => kit_is); (case q_NoLong_NoLot => kit_is); (case q_NoLong_NoName => kit_is); (case q_NoLong_NoNumber => kit_is); (case q_NoLong_NoPlace => kit_is); (case q_NoLong_NoRow => kit_is); (case q_NoLong_NoSaying => kit_is); (case q_NoLong_NoTable => kit_is); (case q_NoLong_NoneYet => kit_is); (case q_NoLong_Taken => kit_is); (case q_NoLong_TooMany => kit_is); (case s_NoLong_BoastError => first | rfl | k_is); (case g_TooMany => k_is); (case h_TooMany => k_is); (case j_TooMany => k_is); (case m_TooMany => k_is); (case y_TooMany_int => kit_is); (case y_TooMany_bool => kit_is); (case y_TooMany_str => kit_is); (case y_TooMany_tuple => kit_is); (case y_TooMany_list => kit_is); (case y_TooMany_dict => kit_is); (case v_TooMany => kit_is); (case q_TooMany_NoDeed => kit_is); (case q_TooMany_NoLong => kit_is); (case q_TooMany_NoLot => kit_is); (case q_TooMany_NoName => kit_is); (case q_TooMany_NoNumber => kit_is); (case q_TooMany_NoPlace => kit_is); (case q_TooMany_NoRow => kit_is); (case q_TooMany_NoSaying => kit_is); (case q_TooMany_NoTable => kit_is); (case q_TooMany_NoneYet => kit_is); (case q_TooMany_Taken => kit_is); (case q_TooMany_TooMany => kit_is); (case s_TooMany_BoastError => first | rfl | k_is); (case no_TooMany => k_is); (case xl_TooMany => k_is); (case xm_TooMany => first | rfl | decide +kernel); (case xs_TooMany => k_is); (case xp_TooMany => k_is); (case xi_TooMany => k_is); (case xt_TooMany => k_is); (case xf_TooMany => k_is); (case xc_TooMany => k_is); (case xj_TooMany => k_is); (case xb_BoastError => k_is); (case xr_BoastError => k_is); (case xg_BoastError => k_is)

