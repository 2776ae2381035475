import PyProof.Rows.All
import Wide.All
import OpenK.AllK
import Wide.FinOn
import PySem.Challenge.RW_boastrow_k75_whole_over_and_over
import HandS.ForMost
import HandS.ForExc
import HandS.Wide
import HandS.ExcCtx
import HandS.ExcIs
import HandS.TupAny
import HandS.IsInst
import HandS.Style
import HandS.Zip
import HandS.SortInts
import HandS.SetFor
import PyProof.ZipIter
import HandS.More
import HandS.Defaults
import HandS.Conv
import HandS.SetBool
import HandS.ListItems
import KE.KDictZip
import KE.KItemsList
import KE.GoesMore
import KE.GoesEnum
import HandS.DictComp
import PyProof.LongRange
import HandS.ExcOwn
import HandS.Deep
import KE.KTupSum
import HandS.Flow
import HandS.Flt
import HandS.Hot
import PyProof.ListRange
import HandS.ExcInit
import HandS.ExcField
import HandS.ExcValue
import HandS.SortRule
import HandS.Rev
import HandS.SortKw
import KE.DataMinMax
import PyProof.SumAnyB
import HandS.Text
import HandS.FStr
import HandS.WideBits
import KE.OsRunLaw
set_option Elab.async false
set_option linter.all false
set_option maxRecDepth 100000
/-! K0: defs called where no text of a thing is being written (so that repr may be asked within) -/
namespace BR
open PySem PySem.Spec PyProof.Rows L2

/-- room for k calls, and no text of a thing being written -/
structure RoomG (k : Nat) (A : Around) : Prop where
  r : Room k A
  g : A.guards = some []
theorem RoomG.mono {j k : Nat} {A : Around} (h : RoomG k A) (l : j ≤ k) : RoomG j A := ⟨h.r.mono l, h.g⟩
/-- a def keeps its promise there -/
structure FnG (P : Program) (w : World) (K : PySem.W.Frag) (mg : Str → Option Value) (base : Heap) (k : Nat) (f : Addr) (fd : FuncData) (ps : List Str) (sp : Sp) : Prop where
  len : ∀ vs H Q E, sp vs H Q E → vs.length = ps.length
  run : ∀ (A : Around) (outer : List Env) (s : Shared) (H : Hp) (args : Args) (us : List Value) (vs : List V) (Q : VK) (E : XK),
    RoomG k A → Env0 P w K mg base A outer s H → BindsTo s fd args (ps.zip us) → Vals vs us → sp vs H Q E →
    codeAny (model P w) A (.call (.ref f) args) (CR (L2N.CX P w) outer P w H s Q E) s
section
variable {P : Program} {w : World} {K : PySem.W.Frag} {mg : Str → Option Value} {base : Heap}
/-- a def by its body -/
theorem fn_G {x qual : Str} {st : Stmt} {f : Addr} {fd : FuncData} {N ps : List Str} {k : Nat} {sp : Sp} (F : L2.Fun K x qual st f fd) (S : FnScope N ps (defScope st))
    (len : ∀ vs H Q E, sp vs H Q E → vs.length = ps.length)
    (hbody : ∀ (cdv : Value) (A : Around) (outer : List Env) (s : Shared) (H : Hp) (vs : List V) (Q : VK) (E : XK), RoomG k (A.deeper (envOfC qual (defScope st) s.heap.objs.size f cdv)) → sp vs H Q E →
      ∃ t, PSs (cxOf (L2N.CX P w) P w K mg base N qual (defScope st) f cdv A outer s H E) (defBody st) t ∧ t { nx := fun _ H' => Q .non H', rt := Q } (start N vs) H) :
    FnG P w K mg base (k + 1) f fd ps sp := by
  obtain ⟨oc, od, kV, doc, pm, an, cdv, ct, osl, efd, lk, hcd⟩ := F.ex
  subst efd
  constructor
  · exact len
  intro A outer s H args us vs Q E hr e0 hb rv hsp
  have nargs := len vs H Q E hsp
  have kin : K.In s.heap := e0.mod.kin.keeps fun b o e => (e0.bs b o e).1
  have nolim : s.heap.NoLimit := e0.mod.nolimit.keeps fun b o e => (e0.bs b o e).1
  have kinds : ∀ y ∈ ps.zip us, (defScope st).names.lookup y.1 = some .local ∨ ((defScope st).names.lookup y.1 = some .cell ∧ ((cellsFrom (s.heap.objs.size + 1) (defScope st).names []).lookup y.1).isSome = true) := by
    intro ⟨n, v⟩ hy
    have hp := S.par n (List.of_mem_zip hy).1
    cases hp with
    | inl q => exact Or.inl q
    | inr q => exact Or.inr ⟨q, PySem.W.cellsFrom_some _ _ _ (Or.inl q)⟩
  refine codeAny_call_function hr.r.depth (kin _ _ lk) rfl S.co S.gen rfl (PySem.W.codeRec_of kin hcd) (hb _ _ _ _ (wpAny_newFunctionEnv_cells S.kind kinds fun env he s1 x => ?_))
  subst he
  refine And.intro (nolim.keeps x.toInCall.keep) (codeAny_func ?_)
  have room : RoomG k (A.deeper (envOfC qual (defScope st) s.heap.objs.size f cdv)) := ⟨hr.r.deeper _, hr.g⟩
  obtain ⟨t, body, reads⟩ := hbody cdv A outer s H vs Q E room hsp
  have inv := inv_start (CX := L2N.CX P w) (E := E) (N := N) S hr.r.hd e0 nargs rv x
  have done : ∀ {σ' : L2.St} {H' : Hp} {v : V} {u : Value} {s' : Shared}, Inv (cxOf (L2N.CX P w) P w K mg base N qual (defScope st) f cdv A outer s H E) [] σ' H' s' → RelV v u → Q v H' → CE outer P w H s Q u s' := by
    intro σ' H' v u s' J r q
    exact ⟨v, H', J.os, J.bare, J.base, J.hok, r, q⟩
  refine wpAny_mono (body.run [] s1 (start N vs) H _ inv reads) (fun fl s' hs => ?_) (fun e s' hs => hs)
  match fl, hs with
  | .ret u, hs =>
    obtain ⟨v, σ', H', J, r, q⟩ := hs
    exact done J r q
  | .next, hs =>
    obtain ⟨σ', H', J, q⟩ := hs
    exact done (v := V.non) (u := Value.none) J rfl q
  | .brk, hs => exact hs.choose_spec.choose_spec.2.elim
  | .cont, hs => exact hs.choose_spec.choose_spec.2.elim
end
section
variable {X : Cx} {k : Nat} {f : Addr} {fd : FuncData} {ps : List Str} {sp : Sp} {E : XK} {x : Str} {p pos : Pos} {e : Expr} {es : List Expr} {t : TA}
theorem run_G {pins : List (Addr × Obj)} {σ : L2.St} {H : Hp} {s : Shared} {Q : VK} {us ds : List Value} {vs dvs : List V} (F : FnG X.prog X.w X.K X.mg X.base k f fd ps sp) (hr : RoomG k X.A) (hb : Binds X.K fd ps ds) (hd : Vals dvs ds) (hx : Passes (L2N.CX X.prog X.w) X E)
    (I : Inv X pins σ H s) (r : Vals vs us) (h : sp (vs ++ dvs) H Q E) : wpAny (model X.prog X.w) X.A (call (.ref f) us) (EP X pins σ Q) X.xe s := by
  have rr : Vals (vs ++ dvs) (us ++ ds) := r.append hd
  have hl : (us ++ ds).length = ps.length := rr.length.symm.trans (F.len _ _ _ _ h)
  refine wpAny_call (codeAny_mono (F.run X.A X.stack s H ⟨us, []⟩ (us ++ ds) (vs ++ dvs) Q E hr I.env0 (hb s us I.kIn hl) rr h) fun res s' hq => ?_)
  match res, hq with
  | .error e, hq => exact hx pins σ H s e s' I hq
  | .ok (.ret u), hq => exact I.after hq
  | .ok .next, hq => exact False.elim hq
  | .ok .brk, hq => exact False.elim hq
  | .ok .cont, hq => exact False.elim hq
theorem pe_callG {ds : List Value} {dvs : List V} (F : FnG X.prog X.w X.K X.mg X.base k f fd ps sp) (hr : RoomG k X.A) (hg : Gl X x) (hm : X.mg x = some (.ref f)) (hk : PySem.W.keepIn X.K (.ref f) = true) (hb : Binds X.K fd ps ds) (hd : Vals dvs ds) (hx : Passes (L2N.CX X.prog X.w) X E)
    (ha : PA X (e :: es) t) (hdb : (x == ("__debug__" : Str)) = false) (he : starEach (e :: es) X.env = (false, eval e X.env) :: starEach es X.env) (hpl : (backTo pos (starEach es X.env)).any (·.1) = false) :
    PE X (.Call (.Name x p) (e :: es) [] pos) (tCall sp dvs E t) := by
  constructor
  intro pins s σ H Q I h
  refine wpAny_Call_Name_kw (ld_glob I hg hm (PySem.W.callWith_K (h₀ := X.base) I.ok.mod.kin hk (thn (ha.run pos pins s σ H _ I h) fun us s1 ⟨vs, H1, I1, rr, q⟩ => And.intro I1.kIn ?_) he hpl) hdb)
  exact run_G F hr hb hd hx I1 rr q
end

/-! ### the end of a law -/
/-- the law's def, called with the script, where its promise holds -/
theorem law_G {P : Program} {w : World} {K : PySem.W.Frag} {mg mb : Str → Option Value} {k : Nat} {fa a : Addr} {fd : FuncData} {x : Str} {sp : Sp} {s₁ : Shared} {vs : List Value} {ns : List Int}
    (KX : K.In s₁.heap) (hns : s₁.heap.Ns mainGlobals mg) (hb : s₁.heap.Ns builtinsNs mb) (hbb : ∀ x : Str, x ≠ "__name__" → mb x = bootBuiltins x) (hlim : s₁.heap.NoLimit) (hg : s₁.gens = #[])
    (ha : s₁.heap.get? a = some { cls := .type "list", data := .seq vs.toArray }) (hi : IntsAre vs ns) (hl : ns.length ≤ sizeLine) (hr : RoomG k callerA)
    (F : ∀ base : Heap, K.In base → base.Ns mainGlobals mg → FnG P w K mg base k fa fd [x] sp) (hbind : ∀ (s : Shared) (u : Value), BindsTo s fd ⟨[u], []⟩ [(x, u)])
    (hsp : ∀ H : Hp, Only H → SqL K H a (ns.map V.int) → sp [.ref a] H (fun v _ => v = .bl true) fun _ _ _ => False) :
    codeAny (model P w) callerA (.call (.ref fa) ⟨[.ref a], []⟩) (fun r s' => r = .ok (.ret (.bool true)) ∧ OldK s₁.heap s'.heap ∧ s'.os = s₁.os ∧ AllBare s'.gens) s₁ := by
  have vals := vals_ints hi
  have lens := hi.length
  have go : ∀ H : Hp, Only H → SqL K H a (ns.map V.int) → HOk P w H s₁.heap → (∀ b, H b ≠ none → b = a) → (H a ≠ none → K.lookup a = none) →
      codeAny (model P w) callerA (.call (.ref fa) ⟨[.ref a], []⟩) (fun r s' => r = .ok (.ret (.bool true)) ∧ OldK s₁.heap s'.heap ∧ s'.os = s₁.os ∧ AllBare s'.gens) s₁ := by
    intro H only sq hok at_a not_K
    have notDict : ∀ {b : Addr} {o : Obj} {es : Array DictEntry} {ep : Nat}, s₁.heap.get? b = some o → o.data = .dict es ep → H b = none := by
      intro b o es ep e d
      match q : H b with
      | none => rfl
      | some u =>
        have eb : b = a := at_a b (by simp [q])
        rw [eb, ha] at e
        cases e
        cases (show Data.seq vs.toArray _ = Data.dict es ep from d)
    have nsH : ∀ {b : Addr} {m : Str → Option Value}, s₁.heap.Ns b m → (hidT s₁.heap H).Ns b m := by
      intro b m h
      obtain ⟨o, es, ep, e, d, r⟩ := h
      exact ⟨o, es, ep, hidT_get e (notDict e d), d, r⟩
    have kH : K.In (hidT s₁.heap H) := by
      intro b o e
      refine hidT_get (KX b o e) ?_
      match q : H b with
      | none => rfl
      | some u =>
        have eb : b = a := at_a b (by simp [q])
        subst eb
        rw [not_K (by simp [q])] at e
        cases e
    obtain ⟨mc, lim1, lim2⟩ := hlim
    have md : Mod K mg (hidT s₁.heap H) := { kin := kH, glob := nsH hns, blt := ⟨mb, nsH hb, hbb⟩, nolimit := ⟨mc, nsH lim1, lim2⟩ }
    have env : Env0 P w K mg (hidT s₁.heap H) callerA [] s₁ H :=
      { frames := rfl, mod := md, bs := fun b o e => of_hidT e, bsz := Nat.le_of_eq (hidT_size _ _), funs := trivial, frf := fun b hb => (by cases hb), hok := hok, bare := .of_eq hg }
    refine codeAny_mono ((F _ kH (nsH hns)).run callerA [] s₁ H ⟨[.ref a], []⟩ [.ref a] [.ref a] _ _ hr env (hbind s₁ (.ref a)) (.cons rfl .nil) (hsp H only sq)) fun r s' h => ?_
    match r, h with
    | .error e, h =>
      obtain ⟨_, _, _, _, _, _, _, _, _, _, _, _, z⟩ := h
      exact z.elim
    | .ok .next, h => exact False.elim h
    | .ok .brk, h => exact False.elim h
    | .ok .cont, h => exact False.elim h
    | .ok (.ret u), h =>
      obtain ⟨v, H', os, bare, un, hok', r', q⟩ := h
      have qv : v = .bl true := q
      rw [qv] at r'
      have eu : u = Value.bool true := r'
      refine ⟨by rw [eu], OldK.of_keep fun b o e => ?_, os, bare⟩
      match qb : H b with
      | none => exact un.keep b o e qb (fun z => by cases z) (fun z => by cases z)
      | some y =>
        rcases only b with z | ⟨ob, xs, z⟩
        · rw [qb] at z; cases z
        · have e1 := (hok b _ z).1
          have e2 := (hok' b _ (un.frzs b ob _ z)).1
          rw [e] at e1
          cases e1
          exact e2
  match hk : K.lookup a with
  | some o =>
    have e := KX a o hk
    rw [ha] at e
    have eo := Option.some.inj e
    subst eo
    refine go (fun _ => none) (fun _ => Or.inl rfl) (Or.inr ⟨_, vs.toArray, _, hk, rfl, rfl, rfl, by rw [List.size_toArray, lens]; exact hl, by simpa using vals⟩) (fun b u z => by cases (show (none : Option HO) = some u from z)) (fun b z => absurd rfl z) (fun z => absurd rfl z)
  | none =>
    let fr : HO := .frz { cls := .type "list", data := .seq vs.toArray } (.lst (ns.map V.int))
    have at1 : (fun b : Addr => if b = a then some fr else none) a = some fr := if_pos rfl
    have at2 : ∀ b, (fun b : Addr => if b = a then some fr else none) b ≠ none → b = a := fun b z => by
      by_cases hb : b = a
      · exact hb
      · exact absurd (if_neg hb) z
    refine go (fun b => if b = a then some fr else none) (fun b => ?_) (Or.inl (Or.inr ⟨_, at1⟩)) (fun b u z => ?_) at2 (fun _ => hk)
    · by_cases hb : b = a
      · exact Or.inr ⟨_, _, if_pos hb⟩
      · exact Or.inl (if_neg hb)
    · have eb := at2 b (by rw [show (fun b : Addr => if b = a then some fr else none) b = some u from z]; simp)
      subst eb
      cases (at1.symm.trans z)
      exact ⟨ha, by rw [List.length_map]; exact hl, vs, _, vals, ha⟩

/-- what is left to be shown behind the head -/
theorem walk_G {l : PySem.W.OpenLaw} {n k : Nat} {q : Program} {loose : List Str} {XP : (Str → Option Value) → Heap → Prop} {YP : World → Heap → Prop} {d : DefRec} {K : Params → PySem.W.Frag} {sp : World → Sp} {x : Str}
    (hn : l.most = some n) (hn2 : n ≤ sizeLine) (hdf : d.params.defaults = []) (hr : RoomG k callerA)
    (hY : ∀ (w : World) (h : Heap), YP w h → (K w.params).In h)
    (F : ∀ (w : World) (mg : Str → Option Value) (fa : Addr) (h : Heap), (K w.params).In h → h.Ns mainGlobals mg → mg d.name = some (.ref fa) →
      ∃ fd : FuncData, (∀ (s : Shared) (u : Value), BindsTo s fd ⟨[u], []⟩ [(x, u)]) ∧
        ∀ base : Heap, (K w.params).In base → base.Ns mainGlobals mg → FnG l.prog w (K w.params) mg base k fa fd [x] (sp w))
    (hsp : ∀ (w : World) (H : Hp) (a : Addr) (ns : List Int), ns.length ≤ n → Only H → SqL (K w.params) H a (ns.map V.int) → sp w [.ref a] H (fun v _ => v = .bl true) fun _ _ _ => False) :
    PySem.W.WalkO q loose XP YP l.row.toRowW d [] (fun f vs => PySem.call f vs) := by
  refine Att.attach_call hn hdf ?_
  intro w s₀ s₁ mg mb fa o pm cd doc a vs ns G Y ho hd hcd hmg hobj hints hlen hg
  have kx := hY w _ Y
  obtain ⟨fd, bnd, fn⟩ := F w mg fa _ kx G.T.g hmg
  exact law_G kx G.T.g G.T.b G.T.builtins G.T.nolimit hg hobj hints (Nat.le_trans hlen hn2) hr fn bnd (fun H only sq => hsp w H a ns hlen only sq)
end BR

/-! K1: data as trees, what of the heap stands for them, and a judgement that runs a def's text against a plain function over such data -/
namespace BR
open PySem PySem.Spec PyProof.Rows L2

/-- a thing as a tree -/
inductive D where
  | non | bl (b : Bool) | int (i : Int) | str (x : Str) | lst (xs : List D) | tup (xs : List D) | dic (kvs : List (Key × D))
  /-- the law's own list -/
  | scr (ns : List Int)
  /-- a caught error of the class of this name, its fields -/
  | exc (c : Str) (xf : List (Str × Option Int))
  /-- an instance of an own class: its fields (true: one of its own lists, while it is in the making) -/
  | obj (c : Str) (fs : List (Str × Bool × D))

/-- an error: its class's name, its fields -/
structure Exc where
  cls : Str
  fs : List (Str × Option Int)

inductive Res (α : Type) where
  | ok (a : α) | raise (x : Exc) | bad
namespace Res
def bind {α β : Type} (m : Res α) (f : α → Res β) : Res β := match m with
  | .ok a => f a
  | .raise x => .raise x
  | .bad => .bad
def exc {α : Type} : Res α → Option Exc
  | .raise x => some x
  | _ => none
end Res

/-- whether an error of the class c is one of the class t -/
def subE (c t : Str) : Bool := c == t || t == ("BoastError" : Str) || t == ("ValueError" : Str)
/-- what is known of the class at C, whose name is c -/
structure ExcF (K : PySem.W.Frag) (c : Str) (C : Addr) : Prop where
  at_ : PySem.W.nsIn K mainGlobals c = some (some (.ref C))
  cl : L2.ExcC K C
  ty : ∀ T : String, T ∈ ["int", "bool", "str", "tuple", "list", "dict"] → PySem.W.kitOne K (.ref C) (.type T) = some false
/-- what is known of the own class at C, whose name is c -/
structure ObF (K : PySem.W.Frag) (c : Str) (C : Addr) : Prop where
  at_ : PySem.W.nsIn K mainGlobals c = some (some (.ref C))
  cl : L2.Cls K C
  ha : PySem.W.findIn K (.ref C) "__class__" = some (some (.builtin "object.__class__"))
  hn : PySem.W.specialIn K (.builtin "object.__class__") "__get__" = some (some (.builtin "getset_descriptor.__get__"))
  htk : PySem.W.takesIn K (.builtin "object.__class__") = some true
  hm : PySem.W.mroIn K C (.type "object") = some true
  ty : ∀ T : String, T ∈ ["int", "bool", "str", "tuple", "list", "dict"] → PySem.W.kitOne K (.ref C) (.type T) = some false
/-- an error's object -/
def ExO1 (oe : Obj) : HO := .frz oe (.ext fun _ => True)
def xfV (xf : List (Str × Option Int)) : List (Str × V) := xf.map fun q => (q.1, match q.2 with | none => V.non | some n => V.int n)
/-- at a: an error, its fields in its dict -/
def ExAt (G H : Hp) (C a : Addr) (xf : List (Str × Option Int)) : Prop := ∃ (oe : Obj) (vs : Array Value), H a = some (ExO1 oe) ∧ oe.data = .fields vs ∧ ((xf = [] ∧ L2N.Zn (.ref C) none oe) ∨ ∃ dd, xf ≠ [] ∧ L2N.Zn (.ref C) (some dd) oe ∧ G dd = some (.xd (xfV xf)))
theorem ExAt.sub {G G' H H' : Hp} (g : ∀ a o, G a = some o → G' a = some o) (s : ∀ a o, H a = some o → H' a = some o) {C a : Addr} {xf : List (Str × Option Int)} (h : ExAt G H C a xf) : ExAt G' H' C a xf := by
  obtain ⟨oe, vs, h1, h2, h3⟩ := h
  refine ⟨oe, vs, s _ _ h1, h2, ?_⟩
  rcases h3 with h3 | ⟨dd, h4, h5, h6⟩
  · exact .inl h3
  · exact .inr ⟨dd, h4, h5, g _ _ h6⟩
mutual
def Rep (K : PySem.W.Frag) (G : Hp) : D → V → Prop
  | .non, v => v = .non
  | .bl b, v => v = .bl b
  | .int i, v => v = .int i
  | .str x, v => v = .str x
  | .lst ds, v => ∃ a vs, v = .ref a ∧ G a = some (.lst vs) ∧ Reps K G ds vs
  | .tup ds, v => ∃ a vs, v = .ref a ∧ SqT K G a vs ∧ Reps K G ds vs
  | .dic kvs, v => ∃ a kv, v = .ref a ∧ G a = some (.dK kv) ∧ RepKs K G kvs kv
  | .scr ns, v => ∃ a, v = .ref a ∧ SqL K G a (ns.map V.int)
  | .exc c xf, v => ∃ a C, v = .ref a ∧ ExcF K c C ∧ ExAt G G C a xf
  | .obj c fs, v => ∃ a C dx vs, v = .ref a ∧ ObF K c C ∧ G a = some (.ins C dx vs) ∧ G dx = some (.own a) ∧ RepFs K G fs vs
def Reps (K : PySem.W.Frag) (G : Hp) : List D → List V → Prop
  | [], vs => vs = []
  | d :: ds, vs => ∃ v r, vs = v :: r ∧ Rep K G d v ∧ Reps K G ds r
def RepKs (K : PySem.W.Frag) (G : Hp) : List (Key × D) → List (Key × V) → Prop
  | [], vs => vs = []
  | (k, d) :: ds, vs => ∃ v r, vs = (k, v) :: r ∧ Rep K G d v ∧ RepKs K G ds r
def RepFs (K : PySem.W.Frag) (G : Hp) : List (Str × Bool × D) → List (Str × V) → Prop
  | [], vs => vs = []
  | (k, _, d) :: ds, vs => ∃ v r, vs = (k, v) :: r ∧ Rep K G d v ∧ RepFs K G ds r
end

/-- all that the one tracks the other does -/
def Sub (G H : Hp) : Prop := ∀ a o, G a = some o → H a = some o
theorem Sub.refl (H : Hp) : Sub H H := fun _ _ e => e
theorem Sub.trans {A B C : Hp} (x : Sub A B) (y : Sub B C) : Sub A C := fun a o e => y a o (x a o e)
theorem Sub.upd {H : Hp} {p : Addr} {o : HO} (h : H p = none) : Sub H (upd H p o) := fun b x e => by
  rw [upd_ne (ne_of_none e h)]; exact e
theorem Rd.sub {G H : Hp} (s : Sub G H) {a : Addr} {u : HO} : Rd G a u → Rd H a u
  | .inl h => .inl (s _ _ h)
  | .inr ⟨o, h⟩ => .inr ⟨o, s _ _ h⟩
theorem SqL.sub {K : PySem.W.Frag} {G H : Hp} (s : Sub G H) {a : Addr} {xs : List V} : SqL K G a xs → SqL K H a xs
  | .inl h => .inl (Rd.sub s h)
  | .inr h => .inr h
theorem SqT.sub {K : PySem.W.Frag} {G H : Hp} (s : Sub G H) {a : Addr} {xs : List V} : SqT K G a xs → SqT K H a xs
  | .inl h => .inl (Rd.sub s h)
  | .inr h => .inr h

mutual
theorem Rep.sub {K : PySem.W.Frag} {G H : Hp} (s : Sub G H) : ∀ (d : D) (v : V), Rep K G d v → Rep K H d v
  | .non, _, h => h
  | .bl _, _, h => h
  | .int _, _, h => h
  | .str _, _, h => h
  | .scr ns, _, h => by
    obtain ⟨a, e, q⟩ := h
    exact ⟨a, e, SqL.sub s q⟩
  | .exc c xf, _, h => by
    obtain ⟨a, C, e, f, g'⟩ := h
    exact ⟨a, C, e, f, g'.sub s s⟩
  | .obj c fs, _, h => by
    obtain ⟨a, C, dx, vs, e, f, q, q2, r⟩ := h
    exact ⟨a, C, dx, vs, e, f, s _ _ q, s _ _ q2, RepFs.sub s fs vs r⟩
  | .lst ds, _, h => by
    obtain ⟨a, vs, e, q, r⟩ := h
    exact ⟨a, vs, e, s _ _ q, Reps.sub s ds vs r⟩
  | .tup ds, _, h => by
    obtain ⟨a, vs, e, q, r⟩ := h
    exact ⟨a, vs, e, SqT.sub s q, Reps.sub s ds vs r⟩
  | .dic ds, _, h => by
    obtain ⟨a, vs, e, q, r⟩ := h
    exact ⟨a, vs, e, s _ _ q, RepKs.sub s ds vs r⟩
theorem Reps.sub {K : PySem.W.Frag} {G H : Hp} (s : Sub G H) : ∀ (ds : List D) (vs : List V), Reps K G ds vs → Reps K H ds vs
  | [], _, h => h
  | d :: ds, _, h => by
    obtain ⟨v, r, e, h1, h2⟩ := h
    exact ⟨v, r, e, Rep.sub s d v h1, Reps.sub s ds r h2⟩
theorem RepKs.sub {K : PySem.W.Frag} {G H : Hp} (s : Sub G H) : ∀ (ds : List (Key × D)) (vs : List (Key × V)), RepKs K G ds vs → RepKs K H ds vs
  | [], _, h => h
  | (k, d) :: ds, _, h => by
    obtain ⟨v, r, e, h1, h2⟩ := h
    exact ⟨v, r, e, Rep.sub s d v h1, RepKs.sub s ds r h2⟩
theorem RepFs.sub {K : PySem.W.Frag} {G H : Hp} (s : Sub G H) : ∀ (ds : List (Str × Bool × D)) (vs : List (Str × V)), RepFs K G ds vs → RepFs K H ds vs
  | [], _, h => h
  | (k, b, d) :: ds, _, h => by
    obtain ⟨v, r, e, h1, h2⟩ := h
    exact ⟨v, r, e, Rep.sub s d v h1, RepFs.sub s ds r h2⟩
end

section
variable {K : PySem.W.Frag} {G H : Hp}
theorem Reps.length : ∀ {ds : List D} {vs : List V}, Reps K G ds vs → ds.length = vs.length
  | [], _, h => by rw [show _ = [] from h]; rfl
  | d :: ds, _, h => by
    obtain ⟨v, r, e, _, h2⟩ := h
    rw [e, List.length_cons, List.length_cons, Reps.length h2]
theorem Reps.append : ∀ {ds es : List D} {vs us : List V}, Reps K G ds vs → Reps K G es us → Reps K G (ds ++ es) (vs ++ us)
  | [], _, _, _, h, h' => by rw [show _ = [] from h]; exact h'
  | d :: ds, _, _, _, h, h' => by
    obtain ⟨v, r, e, h1, h2⟩ := h
    subst e
    exact ⟨v, _, rfl, h1, Reps.append h2 h'⟩
theorem Reps.get : ∀ {ds : List D} {vs : List V} {i : Nat} {d : D}, Reps K G ds vs → ds[i]? = some d → ∃ v, vs[i]? = some v ∧ Rep K G d v
  | [], _, _, _, _, e => by simp at e
  | d :: ds, _, 0, _, h, e => by
    obtain ⟨v, r, e', h1, _⟩ := h
    subst e'
    simp at e; subst e
    exact ⟨v, rfl, h1⟩
  | d :: ds, _, i + 1, _, h, e => by
    obtain ⟨v, r, e', _, h2⟩ := h
    subst e'
    obtain ⟨u, h3, h4⟩ := Reps.get (i := i) h2 (by simpa using e)
    exact ⟨u, by simpa using h3, h4⟩
theorem Reps.take : ∀ {ds : List D} {vs : List V} (n : Nat), Reps K G ds vs → Reps K G (ds.take n) (vs.take n)
  | _, _, 0, _ => rfl
  | [], _, n + 1, h => by rw [show _ = [] from h]; rfl
  | d :: ds, _, n + 1, h => by
    obtain ⟨v, r, e, h1, h2⟩ := h
    subst e
    exact ⟨v, _, rfl, h1, Reps.take n h2⟩
theorem Reps.drop : ∀ {ds : List D} {vs : List V} (n : Nat), Reps K G ds vs → Reps K G (ds.drop n) (vs.drop n)
  | _, _, 0, h => h
  | [], _, n + 1, h => by rw [show _ = [] from h]; rfl
  | d :: ds, _, n + 1, h => by
    obtain ⟨v, r, e, h1, h2⟩ := h
    subst e
    exact Reps.drop n h2
theorem Reps.set {d : D} {v : V} (q : Rep K G d v) : ∀ {ds : List D} {vs : List V} (i : Nat), Reps K G ds vs → Reps K G (ds.set i d) (vs.set i v)
  | [], _, _, h => by rw [show _ = [] from h]; rfl
  | _ :: ds, _, 0, h => by
    obtain ⟨u, r, e, h1, h2⟩ := h
    subst e
    exact ⟨v, r, rfl, q, h2⟩
  | _ :: ds, _, i + 1, h => by
    obtain ⟨u, r, e, h1, h2⟩ := h
    subst e
    exact ⟨u, _, rfl, h1, Reps.set q i h2⟩
theorem Reps.reverse : ∀ {ds : List D} {vs : List V}, Reps K G ds vs → Reps K G ds.reverse vs.reverse
  | [], _, h => by rw [show _ = [] from h]; rfl
  | d :: ds, _, h => by
    obtain ⟨v, r, e, h1, h2⟩ := h
    subst e
    rw [List.reverse_cons, List.reverse_cons]
    exact Reps.append (Reps.reverse h2) ⟨v, [], rfl, h1, rfl⟩
theorem Reps.one {d : D} {v : V} (q : Rep K G d v) : Reps K G [d] [v] := ⟨v, [], rfl, q, rfl⟩
theorem Reps.eraseIdx : ∀ {ds : List D} {vs : List V} (i : Nat), Reps K G ds vs → Reps K G (ds.eraseIdx i) (vs.eraseIdx i)
  | [], _, _, h => by rw [show _ = [] from h]; rfl
  | d :: ds, _, 0, h => by
    obtain ⟨u, r, e, h1, h2⟩ := h
    subst e
    exact h2
  | d :: ds, _, i + 1, h => by
    obtain ⟨u, r, e, h1, h2⟩ := h
    subst e
    exact ⟨u, _, rfl, h1, Reps.eraseIdx i h2⟩
theorem Reps.dropLast : ∀ {ds : List D} {vs : List V}, Reps K G ds vs → Reps K G ds.dropLast vs.dropLast
  | ds, vs, h => by
    rw [List.dropLast_eq_take, List.dropLast_eq_take, ← Reps.length h]
    exact Reps.take _ h
end

/-- a field: an own list's (or dict's) top stands in H -/
def VF (K : PySem.W.Frag) (G H : Hp) : Bool → D → V → Prop
  | true, .lst ds, v => ∃ a vs, v = .ref a ∧ H a = some (.lst vs) ∧ Reps K G ds vs
  | true, .dic ds, v => ∃ a kv, v = .ref a ∧ H a = some (.dK kv) ∧ RepKs K G ds kv
  | _, d, v => Rep K G d v
def VFs (K : PySem.W.Frag) (G H : Hp) : List (Str × Bool × D) → List (Str × V) → Prop
  | [], vs => vs = []
  | (k, b, d) :: ds, vs => ∃ v r, vs = (k, v) :: r ∧ VF K G H b d v ∧ VFs K G H ds r
theorem VF.of {K : PySem.W.Frag} {G H : Hp} (s : Sub G H) : ∀ {b : Bool} {d : D} {v : V}, Rep K G d v → VF K G H b d v
  | true, .lst ds, v, h => by obtain ⟨a, vs, e, q, r⟩ := h; exact ⟨a, vs, e, s _ _ q, r⟩
  | true, .dic ds, v, h => by obtain ⟨a, vs, e, q, r⟩ := h; exact ⟨a, vs, e, s _ _ q, r⟩
  | false, d, v, h => by cases d <;> exact h
  | true, .non, _, h => h
  | true, .bl _, _, h => h
  | true, .int _, _, h => h
  | true, .str _, _, h => h
  | true, .tup _, _, h => h
  | true, .scr _, _, h => h
  | true, .exc _ _, _, h => h
  | true, .obj _ _, _, h => h
theorem VFs.of {K : PySem.W.Frag} {G H : Hp} (s : Sub G H) : ∀ {fs : List (Str × Bool × D)} {vs : List (Str × V)}, RepFs K G fs vs → VFs K G H fs vs
  | [], _, h => h
  | (k, b, d) :: r, _, h => by
    obtain ⟨v, q, e, h1, h2⟩ := h
    exact ⟨v, q, e, VF.of s h1, VFs.of s h2⟩
theorem VF.sub {K : PySem.W.Frag} {G G' H H' : Hp} (g : Sub G G') (s : Sub H H') : ∀ {b : Bool} {d : D} {v : V}, VF K G H b d v → VF K G' H' b d v
  | true, .lst ds, v, h => by obtain ⟨a, vs, e, q, r⟩ := h; exact ⟨a, vs, e, s _ _ q, Reps.sub g _ _ r⟩
  | true, .dic ds, v, h => by obtain ⟨a, vs, e, q, r⟩ := h; exact ⟨a, vs, e, s _ _ q, RepKs.sub g _ _ r⟩
  | false, d, v, h => by cases d <;> exact Rep.sub g _ _ h
  | true, .non, _, h => h
  | true, .bl _, _, h => h
  | true, .int _, _, h => h
  | true, .str _, _, h => h
  | true, .tup _, _, h => Rep.sub g _ _ h
  | true, .scr _, _, h => Rep.sub g _ _ h
  | true, .exc _ _, _, h => Rep.sub g _ _ h
  | true, .obj _ _, _, h => Rep.sub g _ _ h
theorem VFs.sub {K : PySem.W.Frag} {G G' H H' : Hp} (g : Sub G G') (s : Sub H H') : ∀ {fs : List (Str × Bool × D)} {vs : List (Str × V)}, VFs K G H fs vs → VFs K G' H' fs vs
  | [], _, h => h
  | (k, b, d) :: r, _, h => by
    obtain ⟨v, q, e, h1, h2⟩ := h
    exact ⟨v, q, e, VF.sub g s h1, VFs.sub g s h2⟩
/-- the value of a thing whose top may be changed by others of this def: its own items stand fast in G, its top in H -/
def VRep (K : PySem.W.Frag) (G H : Hp) : D → V → Prop
  | .lst ds, v => ∃ a vs, v = .ref a ∧ H a = some (.lst vs) ∧ Reps K G ds vs
  | .scr ns, v => ∃ a, v = .ref a ∧ SqL K H a (ns.map V.int)
  | .exc c xf, v => ∃ a C, v = .ref a ∧ ExcF K c C ∧ ExAt G H C a xf
  | .obj c fs, v => ∃ a C dx vs, v = .ref a ∧ ObF K c C ∧ H a = some (.ins C dx vs) ∧ H dx = some (.own a) ∧ VFs K G H fs vs
  | .tup ds, v => ∃ a vs, v = .ref a ∧ SqT K H a vs ∧ Reps K G ds vs
  | .dic ds, v => ∃ a kv, v = .ref a ∧ H a = some (.dK kv) ∧ RepKs K G ds kv
  | d, v => Rep K G d v
theorem VRep.of {K : PySem.W.Frag} {G H : Hp} (s : Sub G H) : ∀ {d : D} {v : V}, Rep K G d v → VRep K G H d v
  | .non, _, h => h
  | .bl _, _, h => h
  | .int _, _, h => h
  | .str _, _, h => h
  | .scr ns, _, h => by
    obtain ⟨a, e, q⟩ := h
    exact ⟨a, e, SqL.sub s q⟩
  | .exc c xf, _, h => by
    obtain ⟨a, C, e, f, g'⟩ := h
    exact ⟨a, C, e, f, g'.sub (Sub.refl _) s⟩
  | .obj c fs, _, h => by
    obtain ⟨a, C, dx, vs, e, f, q, q2, r⟩ := h
    exact ⟨a, C, dx, vs, e, f, s _ _ q, s _ _ q2, VFs.of s r⟩
  | .lst ds, _, h => by
    obtain ⟨a, vs, e, q, r⟩ := h
    exact ⟨a, vs, e, s _ _ q, r⟩
  | .tup ds, _, h => by
    obtain ⟨a, vs, e, q, r⟩ := h
    exact ⟨a, vs, e, SqT.sub s q, r⟩
  | .dic ds, _, h => by
    obtain ⟨a, vs, e, q, r⟩ := h
    exact ⟨a, vs, e, s _ _ q, r⟩
theorem VRep.sub {K : PySem.W.Frag} {G G' H H' : Hp} (g : Sub G G') (s : Sub H H') : ∀ {d : D} {v : V}, VRep K G H d v → VRep K G' H' d v
  | .non, _, h => h
  | .bl _, _, h => h
  | .int _, _, h => h
  | .str _, _, h => h
  | .scr ns, _, h => by
    obtain ⟨a, e, q⟩ := h
    exact ⟨a, e, SqL.sub s q⟩
  | .exc c xf, _, h => by
    obtain ⟨a, C, e, f, g'⟩ := h
    exact ⟨a, C, e, f, g'.sub g s⟩
  | .obj c fs, _, h => by
    obtain ⟨a, C, dx, vs, e, f, q, q2, r⟩ := h
    exact ⟨a, C, dx, vs, e, f, s _ _ q, s _ _ q2, VFs.sub g s r⟩
  | .lst ds, _, h => by
    obtain ⟨a, vs, e, q, r⟩ := h
    exact ⟨a, vs, e, s _ _ q, Reps.sub g _ _ r⟩
  | .tup ds, _, h => by
    obtain ⟨a, vs, e, q, r⟩ := h
    exact ⟨a, vs, e, SqT.sub s q, Reps.sub g _ _ r⟩
  | .dic ds, _, h => by
    obtain ⟨a, vs, e, q, r⟩ := h
    exact ⟨a, vs, e, s _ _ q, RepKs.sub g _ _ r⟩

/-- a list (or dict) of this def's own at p -/
def MRep (K : PySem.W.Frag) (G H : Hp) : D → Addr → Prop
  | .lst ds, p => ∃ vs, H p = some (.lst vs) ∧ Reps K G ds vs
  | .dic ds, p => ∃ kv, H p = some (.dK kv) ∧ RepKs K G ds kv
  | _, _ => False
theorem MRep.v {K : PySem.W.Frag} {G H : Hp} : ∀ {d : D} {p : Addr}, MRep K G H d p → VRep K G H d (.ref p)
  | .lst ds, p, h => by obtain ⟨vs, e, r⟩ := h; exact ⟨p, vs, rfl, e, r⟩
  | .dic ds, p, h => by obtain ⟨vs, e, r⟩ := h; exact ⟨p, vs, rfl, e, r⟩
  | .non, _, h => h.elim
  | .bl _, _, h => h.elim
  | .int _, _, h => h.elim
  | .str _, _, h => h.elim
  | .tup _, _, h => h.elim
  | .scr _, _, h => h.elim
  | .exc _ _, _, h => h.elim
  | .obj _ _, _, h => h.elim
theorem MRep.keep {K : PySem.W.Frag} {G G' H H' : Hp} (g : Sub G G') : ∀ {d : D} {p : Addr}, MRep K G H d p → (∀ o, H p = some o → H' p = some o) → MRep K G' H' d p
  | .lst ds, p, h, k => by obtain ⟨vs, e, r⟩ := h; exact ⟨vs, k _ e, Reps.sub g _ _ r⟩
  | .dic ds, p, h, k => by obtain ⟨vs, e, r⟩ := h; exact ⟨vs, k _ e, RepKs.sub g _ _ r⟩
  | .non, _, h, _ => h.elim
  | .bl _, _, h, _ => h.elim
  | .int _, _, h, _ => h.elim
  | .str _, _, h, _ => h.elim
  | .tup _, _, h, _ => h.elim
  | .scr _, _, h, _ => h.elim
  | .exc _ _, _, h, _ => h.elim
  | .obj _ _, _, h, _ => h.elim
theorem MRep.ex {K : PySem.W.Frag} {G H : Hp} : ∀ {d : D} {p : Addr}, MRep K G H d p → ∃ o, H p = some o
  | .lst ds, p, h => by obtain ⟨vs, e, r⟩ := h; exact ⟨_, e⟩
  | .dic ds, p, h => by obtain ⟨vs, e, r⟩ := h; exact ⟨_, e⟩
  | .non, _, h => h.elim
  | .bl _, _, h => h.elim
  | .int _, _, h => h.elim
  | .str _, _, h => h.elim
  | .tup _, _, h => h.elim
  | .scr _, _, h => h.elim
  | .exc _ _, _, h => h.elim
  | .obj _ _, _, h => h.elim
/-- put among what stands fast -/
theorem MRep.freeze {K : PySem.W.Frag} {G H : Hp} : ∀ {d : D} {p : Addr} {o : HO}, MRep K G H d p → H p = some o → G p = none → Rep K (upd G p o) d (.ref p)
  | .lst ds, p, o, h, e, n => by
    obtain ⟨vs, e', r⟩ := h
    rw [e] at e'; cases e'
    exact ⟨p, vs, rfl, upd_same, Reps.sub (Sub.upd n) _ _ r⟩
  | .dic ds, p, o, h, e, n => by
    obtain ⟨vs, e', r⟩ := h
    rw [e] at e'; cases e'
    exact ⟨p, vs, rfl, upd_same, RepKs.sub (Sub.upd n) _ _ r⟩
  | .non, _, _, h, _, _ => h.elim
  | .bl _, _, _, h, _, _ => h.elim
  | .int _, _, _, h, _, _ => h.elim
  | .str _, _, _, h, _, _ => h.elim
  | .tup _, _, _, h, _, _ => h.elim
  | .scr _, _, _, h, _, _ => h.elim
  | .exc _ _, _, _, h, _, _ => h.elim
  | .obj _ _, _, _, h, _, _ => h.elim

def tupD : D → Bool
  | .tup _ => true
  | _ => false
/-- what a caller lets be read: a tuple stands fast -/
def Fits (M F G : Hp) : Prop := ∀ a o, M a = some o → F a = some o ∨ G a = some o
theorem Fits.sub {M F G H : Hp} (h : Fits M F G) (f : Sub F H) (g : Sub G H) : Sub M H := fun a o e => (h a o e).elim (f a o) (g a o)
def BRep (K : PySem.W.Frag) (G F : Hp) (d : D) (v : V) : Prop := (∃ M, Fits M F G ∧ VRep K G M d v) ∧ (tupD d = true → Rep K G d v)
theorem BRep.of {K : PySem.W.Frag} {G F : Hp} (s : Sub G F) {d : D} {v : V} (h : Rep K G d v) : BRep K G F d v := ⟨⟨G, fun _ _ e => .inr e, VRep.of (Sub.refl G) h⟩, fun _ => h⟩
theorem BRep.vv {K : PySem.W.Frag} {G F H : Hp} (g : Sub G H) (s : Sub F H) {d : D} {v : V} (h : BRep K G F d v) : VRep K G H d v := by
  obtain ⟨⟨M, hM, r⟩, _⟩ := h
  exact VRep.sub (Sub.refl _) (hM.sub s g) r
theorem BRep.mk {K : PySem.W.Frag} {G F : Hp} {d : D} {v : V} (h : VRep K G F d v) (t : tupD d = true → Rep K G d v) : BRep K G F d v := ⟨⟨F, fun _ _ e => .inl e, h⟩, t⟩
theorem BRep.sub {K : PySem.W.Frag} {G G' F F' : Hp} (g : Sub G G') (s : Sub F F') {d : D} {v : V} (h : BRep K G F d v) : BRep K G' F' d v := by
  obtain ⟨⟨M, hM, r⟩, t⟩ := h
  exact ⟨⟨M, fun a o e => (hM a o e).imp (s a o) (g a o), VRep.sub g (Sub.refl M) r⟩, fun z => Rep.sub g _ _ (t z)⟩
theorem MRep.notup {K : PySem.W.Frag} {G H : Hp} {d : D} {p : Addr} (h : MRep K G H d p) : tupD d = true → Rep K G d (.ref p) := fun t => by
  cases d <;> first | exact h.elim | cases t
/-- what is known of a name or a thing at hand: nothing; a thing that stands fast; a list of this def's own; one of the caller's that may be changed (the j-th of these); one that is the caller's and isn't changed meanwhile; the list of the name at a place -/
inductive Slot where
  | un | fr (d : D) | mu (d : D) | mp (j : Nat) (d : D) | bw (d : D) | bo (i : Nat)

/-- what a def's run starts from: what stands fast, all that it must leave as it was, the lists that it may change; and what of its end may be -/
structure Kn where
  n : Nat
  G0 : Hp
  F0 : Hp
  ps : List Addr
  HX : Option Exc → Prop
  h0 : HX none

def SlotOk (K : PySem.W.Frag) (en : Kn) (S : L2.St) (G H : Hp) : Slot → Option V → Prop
  | .un, _ => True
  | .fr d, o => ∃ v, o = some v ∧ Rep K G d v
  | .mu d, o => ∃ p, o = some (.ref p) ∧ G p = none ∧ en.F0 p = none ∧ p ∉ en.ps ∧ MRep K G H d p
  | .mp j d, o => ∃ p, o = some (.ref p) ∧ en.ps[j]? = some p ∧ G p = none ∧ en.F0 p = none ∧ MRep K G H d p
  | .bw d, o => ∃ v, o = some v ∧ BRep K G en.F0 d v
  | .bo i, o => i < en.n ∧ S[i]? = some o ∧ ∃ p, o = some (.ref p)

/-- a list of this def's own, or of the caller's that may be changed -/
def Slot.own : Slot → Bool
  | .mu _ => true
  | .mp _ _ => true
  | _ => false
def Own (Δ : List Slot) (S : L2.St) (i : Nat) (p : Addr) : Prop := ∃ sl, Δ[i]? = some sl ∧ sl.own = true ∧ S[i]? = some (some (V.ref p))
structure Wd (K : PySem.W.Frag) (en : Kn) (Δ : List Slot) (S : L2.St) (G H : Hp) : Prop where
  len : Δ.length = S.length
  sub : Sub G H
  ext : Sub en.G0 G
  new : ∀ a o, G a = some o → en.G0 a = some o ∨ (en.F0 a = none ∧ a ∉ en.ps)
  frm : Sub en.F0 H
  stay : ∀ a, a ∈ en.ps → H a ≠ none
  nd : en.ps.Nodup
  slot : ∀ (i : Nat) sl o, Δ[i]? = some sl → S[i]? = some o → SlotOk K en S G H sl o
  apart : ∀ (i j : Nat) p, Own Δ S i p → Own Δ S j p → i = j

/-- grown: what was tracked is as it was, what stands fast too; what newly stands fast is new -/
structure Grow (G H G' H' : Hp) : Prop where
  g : Sub G G'
  h : Sub H H'
  gh : Sub G' H'
  new : ∀ a o, G' a = some o → G a = some o ∨ H a = none
theorem Grow.refl {G H : Hp} (s : Sub G H) : Grow G H G H := ⟨Sub.refl _, Sub.refl _, s, fun _ _ e => .inl e⟩
theorem Grow.laid {G H : Hp} {p : Addr} {o : HO} (s : Sub G H) (h : H p = none) : Grow G H G (upd H p o) :=
  ⟨Sub.refl _, Sub.upd h, s.trans (Sub.upd h), fun _ _ e => .inl e⟩
theorem Grow.trans {G H G1 H1 G2 H2 : Hp} (a : Grow G H G1 H1) (b : Grow G1 H1 G2 H2) : Grow G H G2 H2 :=
  ⟨a.g.trans b.g, a.h.trans b.h, b.gh, fun x o e => by
    rcases b.new x o e with q | q
    · exact a.new x o q
    · refine .inr ?_
      cases z : H x with
      | none => rfl
      | some u => rw [a.h x u z] at q; cases q⟩

/-- a result: it stands fast; a new list; -/
def Out (K : PySem.W.Frag) (G H G' H' : Hp) : Slot → V → Prop
  | .fr d, v => Rep K G' d v
  | .mu d, v => ∃ p, v = .ref p ∧ H p = none ∧ G' p = none ∧ MRep K G' H' d p
  | _, _ => False

section
variable {K : PySem.W.Frag} {en : Kn} {Δ : List Slot} {S : L2.St} {G H G' H' : Hp}
theorem Wd.fresh (W : Wd K en Δ S G H) {p : Addr} (h : H p = none) : G p = none ∧ en.F0 p = none ∧ p ∉ en.ps := by
  refine ⟨?_, ?_, fun q => W.stay p q h⟩
  · cases z : G p with
    | none => rfl
    | some o => rw [W.sub p o z] at h; cases h
  · cases z : en.F0 p with
    | none => rfl
    | some o => rw [W.frm p o z] at h; cases h
theorem Grow.gnone (g : Grow G H G' H') {p : Addr} {d : D} (n : G p = none) (r : MRep K G H d p) : G' p = none := by
  cases z : G' p with
  | none => rfl
  | some u =>
    obtain ⟨o2, e2⟩ := r.ex
    rcases g.new p u z with q | q
    · rw [n] at q; cases q
    · rw [e2] at q; cases q
/-- grown -/
theorem Wd.grow (W : Wd K en Δ S G H) (g : Grow G H G' H') : Wd K en Δ S G' H' where
  len := W.len
  sub := g.gh
  ext := W.ext.trans g.g
  new := fun a o e => by
    rcases g.new a o e with q | q
    · exact W.new a o q
    · exact .inr ⟨(W.fresh q).2.1, (W.fresh q).2.2⟩
  frm := W.frm.trans g.h
  stay := fun a h e => by
    cases z : H a with
    | none => exact W.stay a h z
    | some o => rw [g.h a o z] at e; cases e
  nd := W.nd
  slot := fun i sl o h1 h2 => by
    have q := W.slot i sl o h1 h2
    cases sl with
    | un => trivial
    | fr d => obtain ⟨v, e, r⟩ := q; exact ⟨v, e, Rep.sub g.g _ _ r⟩
    | mu d =>
      obtain ⟨p, e, n, f, f2, r⟩ := q
      exact ⟨p, e, g.gnone n r, f, f2, r.keep g.g fun o e => g.h _ _ e⟩
    | mp j d =>
      obtain ⟨p, e, f2, n, f, r⟩ := q
      exact ⟨p, e, f2, g.gnone n r, f, r.keep g.g fun o e => g.h _ _ e⟩
    | bw d => obtain ⟨v, e, r⟩ := q; exact ⟨v, e, BRep.sub g.g (Sub.refl _) r⟩
    | bo j => exact q
  apart := W.apart
/-- a thing more at hand -/
theorem SlotOk.more {o u : Option V} {sl : Slot} (q : SlotOk K en S G H sl o) : SlotOk K en (S ++ [u]) G H sl o := by
  cases sl with
  | un => trivial
  | fr d => exact q
  | mu d => exact q
  | mp j d => exact q
  | bw d => exact q
  | bo j =>
    obtain ⟨h0, h1, h2⟩ := q
    refine ⟨h0, ?_, h2⟩
    rw [List.getElem?_append_left (List.getElem?_eq_some_iff.mp h1).1]
    exact h1
theorem Own.split {sl : Slot} {u : Option V} {i : Nat} {p : Addr} (hl : Δ.length = S.length) (h : Own (Δ ++ [sl]) (S ++ [u]) i p) : (i < Δ.length ∧ Own Δ S i p) ∨ (i = Δ.length ∧ sl.own = true ∧ u = some (.ref p)) := by
  obtain ⟨s, h1, h2, h3⟩ := h
  by_cases hi : i < Δ.length
  · rw [List.getElem?_append_left hi] at h1
    rw [List.getElem?_append_left (by rw [← hl]; exact hi)] at h3
    exact .inl ⟨hi, s, h1, h2, h3⟩
  · have hl' : i = Δ.length := by
      have := (List.getElem?_eq_some_iff.mp h1).1
      rw [List.length_append] at this
      have e1 : [sl].length = 1 := rfl
      omega
    subst hl'
    rw [List.getElem?_append_right (Nat.le_refl _), Nat.sub_self] at h1
    rw [hl, List.getElem?_append_right (Nat.le_refl _), Nat.sub_self] at h3
    have e1 : sl = s := Option.some.inj h1
    subst e1
    exact .inr ⟨rfl, h2, Option.some.inj h3⟩
theorem Wd.more {sl : Slot} {u : Option V} (W : Wd K en Δ S G H) (q : SlotOk K en (S ++ [u]) G H sl u) (ap : ∀ p (j : Nat), sl.own = true → u = some (.ref p) → Own Δ S j p → False) : Wd K en (Δ ++ [sl]) (S ++ [u]) G H where
  len := by rw [List.length_append, List.length_append, W.len]; rfl
  sub := W.sub
  ext := W.ext
  new := W.new
  frm := W.frm
  stay := W.stay
  nd := W.nd
  slot := fun i s o h1 h2 => by
    by_cases hi : i < Δ.length
    · rw [List.getElem?_append_left hi] at h1
      rw [List.getElem?_append_left (by rw [← W.len]; exact hi)] at h2
      exact (W.slot i s o h1 h2).more
    · have hl : i = Δ.length := by
        have := (List.getElem?_eq_some_iff.mp h1).1
        rw [List.length_append] at this
        have e1 : [sl].length = 1 := rfl
        omega
      subst hl
      rw [List.getElem?_append_right (Nat.le_refl _), Nat.sub_self] at h1
      have e1 : sl = s := Option.some.inj h1
      rw [W.len, List.getElem?_append_right (Nat.le_refl _), Nat.sub_self] at h2
      have e2 : u = o := Option.some.inj h2
      subst e1 e2
      exact q
  apart := fun i j p h1 h2 => by
    rcases h1.split W.len with ⟨i1, i2⟩ | ⟨i1, i2, i3⟩ <;> rcases h2.split W.len with ⟨j1, j2⟩ | ⟨j1, j2, j3⟩
    · exact W.apart i j p i2 j2
    · exact (ap _ _ j2 j3 i2).elim
    · exact (ap _ _ i2 i3 j2).elim
    · rw [i1, j1]
theorem Wd.ownThere {j : Nat} {p : Addr} (W : Wd K en Δ S G H) (h : Own Δ S j p) : ∃ o, H p = some o := by
  obtain ⟨sl, h1, h2, h3⟩ := h
  have q := W.slot j sl _ h1 h3
  cases sl with
  | mu d => obtain ⟨p2, e3, _, _, _, r⟩ := q; cases e3; exact r.ex
  | mp _ d => obtain ⟨p2, e3, _, _, _, r⟩ := q; cases e3; exact r.ex
  | un => cases h2
  | fr _ => cases h2
  | bw _ => cases h2
  | bo _ => cases h2
theorem Wd.out {sl : Slot} {v : V} (W : Wd K en Δ S G H) (g : Grow G H G' H') (q : Out K G H G' H' sl v) : Wd K en (Δ ++ [sl]) (S ++ [some v]) G' H' := by
  refine (W.grow g).more ?_ ?_
  · cases sl with
    | un => exact q.elim
    | fr d => exact ⟨v, rfl, q⟩
    | mu d =>
      obtain ⟨p, e, h1, h2, h3⟩ := q
      subst e
      exact ⟨p, rfl, h2, (W.fresh h1).2.1, (W.fresh h1).2.2, h3⟩
    | mp j d => exact q.elim
    | bw d => exact q.elim
    | bo i => exact q.elim
  · intro p j e1 e2 h1
    cases sl with
    | mu d =>
      obtain ⟨p', e, n1, n2, n3⟩ := q
      cases e2
      cases e
      obtain ⟨o, z⟩ := W.ownThere h1
      rw [n1] at z; cases z
    | un => cases e1
    | fr _ => cases e1
    | mp _ _ => exact q.elim
    | bw _ => cases e1
    | bo _ => cases e1
end
end BR

/-! K2: the judgements: a text against the rest of a plain run -/
namespace BR
open PySem PySem.Spec PyProof.Rows L2

def plainE : Expr → Bool
  | .Starred _ _ => false
  | _ => true
theorem star_plain {e : Expr} {rest : List Expr} {env : Env} (h : plainE e = true) : starEach (e :: rest) env = (false, eval e env) :: starEach rest env := by
  cases e <;> first | rfl | cases h
/-- a step that may have no answer -/
def op {α R : Type} (o : Option α) (k : α → Res R) : Res R := match o with
  | some a => k a
  | none => .bad
/-- the end of a part of a run: on with s, or the whole ends with r -/
inductive Flow (S R : Type) where
  | nx (s : S) | ex (r : R)
def fbind {S R : Type} (m : Res (Flow S R)) (k : S → Res R) : Res R := match m with
  | .ok (.nx s) => k s
  | .ok (.ex r) => .ok r
  | .raise x => .raise x
  | .bad => .bad

abbrev WE (X : Cx) (e : Expr) : TE := fun σ H Q => ∀ (pins : List (Addr × Obj)) (s : Shared), Inv X pins σ H s → wpAny (model X.prog X.w) X.A (eval e X.env) (EP X pins σ Q) X.xe s
theorem pe_we {X : Cx} {e : Expr} : PE X e (WE X e) := ⟨fun pins s _ _ _ I h => h pins s I⟩
theorem we_of {X : Cx} {e : Expr} {t : TE} (h : PE X e t) {σ : L2.St} {H : Hp} {Q : VK} (q : t σ H Q) : WE X e σ H Q := fun pins s I => h.run pins s σ H Q I q
abbrev WT (X : Cx) (e : Expr) : TT := fun σ H Q => ∀ (pins : List (Addr × Obj)) (s : Shared), Inv X pins σ H s → wpAny (model X.prog X.w) X.A (isTrue e X.env (eval e X.env)) (TP X pins σ Q) X.xe s
theorem pt_wt {X : Cx} {e : Expr} : PT X e (WT X e) := ⟨fun pins s _ _ _ I h => h pins s I⟩
theorem wt_of {X : Cx} {e : Expr} {t : TT} (h : PT X e t) {σ : L2.St} {H : Hp} {Q : Bool → Hp → Prop} (q : t σ H Q) : WT X e σ H Q := fun pins s I => h.run pins s σ H Q I q
abbrev WA (X : Cx) (es : List Expr) : TA := fun σ H Q => ∀ (pos : Pos) (pins : List (Addr × Obj)) (s : Shared), Inv X pins σ H s → wpAny (model X.prog X.w) X.A (spliced (backTo pos (starEach es X.env))) (AP X pins σ Q) X.xe s
theorem pa_wa {X : Cx} {es : List Expr} : PA X es (WA X es) := ⟨fun pos pins s _ _ _ I h => h pos pins s I⟩
theorem wa_of {X : Cx} {es : List Expr} {t : TA} (h : PA X es t) {σ : L2.St} {H : Hp} {Q : List V → Hp → Prop} (q : t σ H Q) : WA X es σ H Q := fun pos pins s I => h.run pos pins s σ H Q I q
abbrev WS (X : Cx) (st : Stmt) : TS := fun D σ H => ∀ (pins : List (Addr × Obj)) (s : Shared), Inv X pins σ H s → wpAny (model X.prog X.w) X.A (exec st X.env) (SP X pins D) X.xe s
theorem ps_ws {X : Cx} {st : Stmt} : PS X st (WS X st) := ⟨fun pins s _ _ _ I h => h pins s I⟩
theorem ws_of {X : Cx} {st : Stmt} {t : TS} (h : PS X st t) {σ : L2.St} {H : Hp} {D : Ends} (q : t D σ H) : WS X st D σ H := fun pins s I => h.run pins s σ H D I q
abbrev WSs (X : Cx) (st : List Stmt) : TS := fun D σ H => ∀ (pins : List (Addr × Obj)) (s : Shared), Inv X pins σ H s → wpAny (model X.prog X.w) X.A (execs st X.env) (SP X pins D) X.xe s
theorem pss_wss {X : Cx} {st : List Stmt} : PSs X st (WSs X st) := ⟨fun pins s _ _ _ I h => h pins s I⟩
theorem wss_of {X : Cx} {st : List Stmt} {t : TS} (h : PSs X st t) {σ : L2.St} {H : Hp} {D : Ends} (q : t D σ H) : WSs X st D σ H := fun pins s I => h.run pins s σ H D I q
abbrev WG (X : Cx) (tg : Expr) : TG := fun v σ H Q => ∀ (pins : List (Addr × Obj)) (s : Shared) (u : Value), Inv X pins σ H s → RelV v u → wpAny (model X.prog X.w) X.A (assign tg X.env u) (fun _ s' => ∃ σ' H', Inv X pins σ' H' s' ∧ Q σ' H') X.xe s
theorem pg_wg {X : Cx} {tg : Expr} : PG X tg (WG X tg) := ⟨fun pins s _ _ _ u _ I r h => h pins s u I r⟩
abbrev WI (X : Cx) (tg iter : Expr) : TI := fun σ H R => ∀ (pins : List (Addr × Obj)) (s : Shared), Inv X pins σ H s →
  wpAny (model X.prog X.w) X.A (eval iter X.env) (fun v s1 => wpAny (model X.prog X.w) X.A (pyIter v) (PIE X pins σ tg R) X.xe s1) X.xe s
theorem pi_wi {X : Cx} {tg iter : Expr} : PI X tg iter (WI X tg iter) := ⟨fun pins s _ _ _ I h => h pins s I⟩
theorem wi_of {X : Cx} {tg iter : Expr} {t : TI} (h : PI X tg iter t) {σ : L2.St} {H : Hp} {R : It → Hp → Prop} (q : t σ H R) : WI X tg iter σ H R := fun pins s I => h.run pins s σ H R I q

/-- the data that a thing at hand may be read as -/
def Slot.rd (δ : List Slot) : Slot → Option D
  | .fr d => some d
  | .mu d => some d
  | .mp _ d => some d
  | .bw d => some d
  | .bo i => match δ[i]? with
    | some (.mu d) => some d
    | some (.mp _ d) => some d
    | _ => none
  | .un => none

section
variable (X : Cx) (en : Kn)
/-- an expression: δ the names, τ what is at hand; C tells of its slot, the names behind it and the rest of the plain run -/
structure JE (δ τ : List Slot) (e : Expr) {R : Type} (C : Slot → List Slot → Res R → Prop) (m : Res R) : Prop where
  run : m ≠ .bad → en.HX m.exc → ∀ (σ ts : L2.St) (G H : Hp) (T : VK), δ.length = en.n → σ.length = en.n → Wd X.K en (δ ++ τ) (σ ++ ts) G H →
    (∀ sl δ' v G' H', C sl δ' m → δ'.length = en.n → Wd X.K en (δ' ++ τ ++ [sl]) (σ ++ ts ++ [some v]) G' H' → T v H') → WE X e σ H T
/-- a test -/
structure JT (δ τ : List Slot) (e : Expr) {R : Type} (C : Bool → List Slot → Res R → Prop) (m : Res R) : Prop where
  run : m ≠ .bad → en.HX m.exc → ∀ (σ ts : L2.St) (G H : Hp) (T : Bool → Hp → Prop), δ.length = en.n → σ.length = en.n → Wd X.K en (δ ++ τ) (σ ++ ts) G H →
    (∀ b δ' G' H', C b δ' m → δ'.length = en.n → Wd X.K en (δ' ++ τ) (σ ++ ts) G' H' → T b H') → WT X e σ H T
/-- arguments, from the left -/
structure JA (δ τ : List Slot) (es : List Expr) {R : Type} (C : List Slot → List Slot → Res R → Prop) (m : Res R) : Prop where
  run : m ≠ .bad → en.HX m.exc → ∀ (σ ts : L2.St) (G H : Hp) (T : List V → Hp → Prop), δ.length = en.n → σ.length = en.n → Wd X.K en (δ ++ τ) (σ ++ ts) G H →
    (∀ sls δ' vs G' H', C sls δ' m → δ'.length = en.n → Wd X.K en (δ' ++ τ ++ sls) (σ ++ ts ++ vs.map some) G' H' → T vs H') → WA X es σ H T
/-- a statement: N the way on, RT a return, BK a break, CT a continue -/
structure JS (δ : List Slot) (st : Stmt) {R : Type} (N : List Slot → Res R → Prop) (RT : Slot → List Slot → Res R → Prop) (BK CT : List Slot → Res R → Prop) (m : Res R) : Prop where
  run : m ≠ .bad → en.HX m.exc → ∀ (σ : L2.St) (G H : Hp) (E : Ends), δ.length = en.n → Wd X.K en δ σ G H →
    (∀ δ' σ' G' H', N δ' m → δ'.length = en.n → Wd X.K en δ' σ' G' H' → E.nx σ' H') →
    (∀ sl δ' v σ' G' H', RT sl δ' m → δ'.length = en.n → Wd X.K en (δ' ++ [sl]) (σ' ++ [some v]) G' H' → E.rt v H') →
    (∀ δ' σ' G' H', BK δ' m → δ'.length = en.n → Wd X.K en δ' σ' G' H' → E.bk σ' H') →
    (∀ δ' σ' G' H', CT δ' m → δ'.length = en.n → Wd X.K en δ' σ' G' H' → E.ct σ' H') → WS X st E σ H
structure JSs (δ : List Slot) (st : List Stmt) {R : Type} (N : List Slot → Res R → Prop) (RT : Slot → List Slot → Res R → Prop) (BK CT : List Slot → Res R → Prop) (m : Res R) : Prop where
  run : m ≠ .bad → en.HX m.exc → ∀ (σ : L2.St) (G H : Hp) (E : Ends), δ.length = en.n → Wd X.K en δ σ G H →
    (∀ δ' σ' G' H', N δ' m → δ'.length = en.n → Wd X.K en δ' σ' G' H' → E.nx σ' H') →
    (∀ sl δ' v σ' G' H', RT sl δ' m → δ'.length = en.n → Wd X.K en (δ' ++ [sl]) (σ' ++ [some v]) G' H' → E.rt v H') →
    (∀ δ' σ' G' H', BK δ' m → δ'.length = en.n → Wd X.K en δ' σ' G' H' → E.bk σ' H') →
    (∀ δ' σ' G' H', CT δ' m → δ'.length = en.n → Wd X.K en δ' σ' G' H' → E.ct σ' H') → WSs X st E σ H
end

section
variable {X : Cx} {en : Kn} {δ τ : List Slot} {R : Type} {C : Slot → List Slot → Res R → Prop} {m : Res R}

theorem Wd.splitLen {K : PySem.W.Frag} {σ ts : L2.St} {G H : Hp} (W : Wd K en (δ ++ τ) (σ ++ ts) G H) (h : δ.length = σ.length) : τ.length = ts.length := by
  have := W.len
  rw [List.length_append, List.length_append] at this
  omega
/-- the slot and the value of a thing at hand -/
theorem Wd.at {K : PySem.W.Frag} {Δ : List Slot} {S : L2.St} {G H : Hp} (W : Wd K en Δ S G H) {i : Nat} {sl : Slot} (h : Δ[i]? = some sl) : ∃ o, S[i]? = some o ∧ SlotOk K en S G H sl o := by
  have hi : i < S.length := by rw [← W.len]; exact (List.getElem?_eq_some_iff.mp h).1
  exact ⟨S[i], List.getElem?_eq_getElem hi, W.slot i sl _ h (List.getElem?_eq_getElem hi)⟩
/-- the names that are known at the front -/
theorem Wd.name {K : PySem.W.Frag} {σ ts : L2.St} {G H : Hp} (W : Wd K en (δ ++ τ) (σ ++ ts) G H) (hl : δ.length = σ.length) {i : Nat} {sl : Slot} (h : δ[i]? = some sl) : ∃ o, σ[i]? = some o ∧ SlotOk K en (σ ++ ts) G H sl o := by
  have hi := (List.getElem?_eq_some_iff.mp h).1
  obtain ⟨o, h1, h2⟩ := W.at (i := i) (by rw [List.getElem?_append_left hi]; exact h)
  rw [List.getElem?_append_left (by omega)] at h1
  exact ⟨o, h1, h2⟩
/-- a thing read -/
theorem Wd.read {K : PySem.W.Frag} {σ us : L2.St} {G H : Hp} {Δ2 : List Slot} {sl : Slot} {d : D} (W : Wd K en (δ ++ Δ2) (σ ++ us) G H) (hl : δ.length = σ.length) {v : V} (h : SlotOk K en (σ ++ us) G H sl (some v)) (r : sl.rd δ = some d) : VRep K G H d v := by
  cases sl with
  | un => cases r
  | fr e =>
    cases r
    obtain ⟨u, e, q⟩ := h
    cases e
    exact VRep.of W.sub q
  | mu e =>
    cases r
    obtain ⟨p, e, _, _, _, q⟩ := h
    cases e
    exact q.v
  | mp j e =>
    cases r
    obtain ⟨p, e, _, _, _, q⟩ := h
    cases e
    exact q.v
  | bw e =>
    cases r
    obtain ⟨u, e, q⟩ := h
    cases e
    exact BRep.vv W.sub W.frm q
  | bo i =>
    obtain ⟨_, h1, p, e⟩ := h
    cases e
    have r' : (match δ[i]? with | some (Slot.mu d) => some d | some (Slot.mp _ d) => some d | _ => none) = some d := r
    split at r'
    · rename_i e2
      cases r'
      obtain ⟨o, h2, h3⟩ := W.at (i := i) (by rw [List.getElem?_append_left (List.getElem?_eq_some_iff.mp e2).1]; exact e2)
      rw [h1] at h2
      cases h2
      obtain ⟨p', e3, _, _, _, q⟩ := h3
      cases e3
      exact q.v
    · rename_i e2
      cases r'
      obtain ⟨o, h2, h3⟩ := W.at (i := i) (by rw [List.getElem?_append_left (List.getElem?_eq_some_iff.mp e2).1]; exact e2)
      rw [h1] at h2
      cases h2
      obtain ⟨p', e3, _, _, _, q⟩ := h3
      cases e3
      exact q.v
    · cases r'

/-- a name -/
theorem je_fr (i : Nat) {x : Str} {pos : Pos} {d : D} (hs : δ[i]? = some (.fr d)) (h : C (.fr d) δ m) (hN : X.N[i]? = some x := by rfl) (hv : Vis X.env.scope x := by first | exact Or.inl rfl | exact Or.inr (Or.inl rfl) | exact Or.inr (Or.inr rfl))
    (hd : (x == ("__debug__" : Str)) = false := by decide) (hcd : (x == ("__classdict__" : Str)) = false := by decide) : JE X en δ τ (.Name x pos) C m := .mk fun hb hx σ ts G H T hl hσ W k => by
  obtain ⟨o, h1, v, e, q⟩ := W.name (hl.trans hσ.symm) hs
  subst e
  exact we_of (pe_var hN hv hd hcd) ⟨v, h1, k _ _ v G H h hl (W.out (Grow.refl W.sub) q)⟩
theorem je_bw (i : Nat) {x : Str} {pos : Pos} {d : D} (hs : δ[i]? = some (.bw d)) (h : C (.bw d) δ m) (hN : X.N[i]? = some x := by rfl) (hv : Vis X.env.scope x := by first | exact Or.inl rfl | exact Or.inr (Or.inl rfl) | exact Or.inr (Or.inr rfl))
    (hd : (x == ("__debug__" : Str)) = false := by decide) (hcd : (x == ("__classdict__" : Str)) = false := by decide) : JE X en δ τ (.Name x pos) C m := .mk fun hb hx σ ts G H T hl hσ W k => by
  obtain ⟨o, h1, v, e, q⟩ := W.name (hl.trans hσ.symm) hs
  subst e
  exact we_of (pe_var hN hv hd hcd) ⟨v, h1, k _ _ v G H h hl (W.more ⟨v, rfl, q⟩ (fun _ _ z => nomatch z))⟩
theorem je_bo (i : Nat) {x : Str} {pos : Pos} {sl : Slot} (hs : δ[i]? = some sl) (hm : (∃ d, sl = .mu d) ∨ ∃ j d, sl = .mp j d) (h : C (.bo i) δ m) (hN : X.N[i]? = some x := by rfl) (hv : Vis X.env.scope x := by first | exact Or.inl rfl | exact Or.inr (Or.inl rfl) | exact Or.inr (Or.inr rfl))
    (hd : (x == ("__debug__" : Str)) = false := by decide) (hcd : (x == ("__classdict__" : Str)) = false := by decide) : JE X en δ τ (.Name x pos) C m := .mk fun hb hx σ ts G H T hl hσ W k => by
  obtain ⟨o, h1, q⟩ := W.name (hl.trans hσ.symm) hs
  obtain ⟨p, e⟩ : ∃ p, o = some (V.ref p) := by
    rcases hm with ⟨d, e⟩ | ⟨j, d, e⟩
    · subst e; obtain ⟨p, e, _⟩ := q; exact ⟨p, e⟩
    · subst e; obtain ⟨p, e, _⟩ := q; exact ⟨p, e⟩
  subst e
  refine we_of (pe_var hN hv hd hcd) ⟨_, h1, k _ _ _ G H h hl (W.more ⟨?_, ?_, p, rfl⟩ (fun _ _ z => nomatch z))⟩
  · have hi := (List.getElem?_eq_some_iff.mp hs).1
    omega
  · have hi := (List.getElem?_eq_some_iff.mp h1).1
    rw [List.append_assoc, List.getElem?_append_left hi]
    exact h1
/-- constants -/
theorem je_int {i : Int} {j pos} (h : C (.fr (.int i)) δ m) : JE X en δ τ (.Constant (.int i) j pos) C m := .mk fun hb hx σ ts G H T hl hσ W k =>
  we_of pe_int (k _ _ _ G H h hl (W.out (Grow.refl W.sub) (show Rep _ _ _ _ from rfl)))
theorem je_bl {i : Bool} {j pos} (h : C (.fr (.bl i)) δ m) : JE X en δ τ (.Constant (.bool i) j pos) C m := .mk fun hb hx σ ts G H T hl hσ W k =>
  we_of pe_bl (k _ _ _ G H h hl (W.out (Grow.refl W.sub) (show Rep _ _ _ _ from rfl)))
theorem je_non {j pos} (h : C (.fr .non) δ m) : JE X en δ τ (.Constant .none j pos) C m := .mk fun hb hx σ ts G H T hl hσ W k =>
  we_of pe_non (k _ _ _ G H h hl (W.out (Grow.refl W.sub) (show Rep _ _ _ _ from rfl)))
theorem je_str {i : Str} {j pos} (h : C (.fr (.str i)) δ m) : JE X en δ τ (.Constant (.str i) j pos) C m := .mk fun hb hx σ ts G H T hl hσ W k =>
  we_of pe_str (k _ _ _ G H h hl (W.out (Grow.refl W.sub) (show Rep _ _ _ _ from rfl)))

/-! ### the last things at hand -/
theorem getElem?_last {α : Type} {l : List α} {a : α} : (l ++ [a])[l.length]? = some a := by
  rw [List.getElem?_append_right (Nat.le_refl _), Nat.sub_self]; rfl
/-- the last thing at hand -/
theorem Wd.last {K : PySem.W.Frag} {Δ : List Slot} {S : L2.St} {G H : Hp} {sl : Slot} {u : Option V} (W : Wd K en (Δ ++ [sl]) (S ++ [u]) G H) : SlotOk K en (S ++ [u]) G H sl u := by
  have hl : Δ.length = S.length := by
    have := W.len
    rw [List.length_append, List.length_append] at this
    exact Nat.add_right_cancel this
  exact W.slot Δ.length sl u getElem?_last (by rw [hl]; exact getElem?_last)
/-- a list of things forgotten; what stays may not lean on them -/
theorem Wd.cut {K : PySem.W.Frag} {Δ Ξ : List Slot} {S us : L2.St} {G H : Hp} (W : Wd K en (Δ ++ Ξ) (S ++ us) G H) (hl : Δ.length = S.length) (nb : en.n ≤ S.length) : Wd K en Δ S G H where
  len := hl
  sub := W.sub
  ext := W.ext
  new := W.new
  frm := W.frm
  stay := W.stay
  nd := W.nd
  slot := fun i s o h1 h2 => by
    have hi := (List.getElem?_eq_some_iff.mp h1).1
    have q := W.slot i s o (by rw [List.getElem?_append_left hi]; exact h1) (by rw [List.getElem?_append_left (by omega)]; exact h2)
    cases s with
    | un => trivial
    | fr d => exact q
    | mu d => exact q
    | mp j d => exact q
    | bw d => exact q
    | bo j =>
      obtain ⟨h0, h3, h4⟩ := q
      refine ⟨h0, ?_, h4⟩
      rw [List.getElem?_append_left (by omega)] at h3
      exact h3
  apart := fun i j p h1 h2 => by
    have key : ∀ (i : Nat), Own Δ S i p → Own (Δ ++ Ξ) (S ++ us) i p := fun i ⟨sl, e1, e2, e3⟩ =>
      ⟨sl, by rw [List.getElem?_append_left (List.getElem?_eq_some_iff.mp e1).1]; exact e1, e2, by rw [List.getElem?_append_left (List.getElem?_eq_some_iff.mp e3).1]; exact e3⟩
    exact W.apart i j p (key i h1) (key j h2)
end
end BR

/-! K3: operations by values, displays, tests, small statements -/
namespace BR
open PySem PySem.Spec PyProof.Rows L2

def VReps (K : PySem.W.Frag) (G H : Hp) : List D → List V → Prop
  | [], vs => vs = []
  | d :: ds, vs => ∃ v r, vs = v :: r ∧ VRep K G H d v ∧ VReps K G H ds r
/-- the data of several things at hand -/
def rds (δ : List Slot) : List Slot → Option (List D)
  | [] => some []
  | s :: r => match s.rd δ, rds δ r with
    | some d, some ds => some (d :: ds)
    | _, _ => none
theorem VReps.sub {K : PySem.W.Frag} {G G' H H' : Hp} (g : Sub G G') (s : Sub H H') : ∀ {ds : List D} {vs : List V}, VReps K G H ds vs → VReps K G' H' ds vs
  | [], _, h => h
  | d :: ds, _, h => by
    obtain ⟨v, r, e, h1, h2⟩ := h
    exact ⟨v, r, e, VRep.sub g s h1, VReps.sub g s h2⟩

section
variable {X : Cx} {en : Kn} {δ τ : List Slot} {R : Type} {C : Slot → List Slot → Res R → Prop} {m : Res R} {K : PySem.W.Frag}

/-- all of the last things at hand read -/
theorem Wd.reads {σ us : L2.St} {G H : Hp} {Δ2 : List Slot} (W : Wd K en (δ ++ Δ2) (σ ++ us) G H) (hl : δ.length = σ.length) : ∀ {sls : List Slot} {vs : List V} {ds : List D},
    (∀ (i : Nat) sl v, sls[i]? = some sl → vs[i]? = some v → SlotOk K en (σ ++ us) G H sl (some v)) → sls.length = vs.length → rds δ sls = some ds → VReps K G H ds vs
  | [], [], ds, _, _, h => by cases h; rfl
  | [], _ :: _, _, _, h, _ => nomatch h
  | _ :: _, [], _, _, h, _ => nomatch h
  | s :: sls, v :: vs, ds, q, hn, h => by
    unfold rds at h
    split at h
    · rename_i d ds' e1 e2
      cases h
      exact ⟨v, vs, rfl, W.read hl (q 0 s v rfl rfl) e1, Wd.reads W hl (fun i sl v h1 h2 => q (i + 1) sl v (by simpa using h1) (by simpa using h2)) (by simpa using hn) e2⟩
    · cases h
/-- the things at the end -/
theorem Wd.ends {σ ts : L2.St} {vs : List V} {G H : Hp} {sls : List Slot} {ds : List D} (W : Wd K en (δ ++ τ ++ sls) (σ ++ ts ++ vs.map some) G H) (hl : δ.length = σ.length) (ht : τ.length = ts.length) (r : rds δ sls = some ds) :
    VReps K G H ds vs ∧ (∀ hn : en.n ≤ σ.length, Wd K en (δ ++ τ) (σ ++ ts) G H) := by
  refine ⟨?_, fun hn => W.cut (by rw [List.length_append, List.length_append]; omega) (by rw [List.length_append]; omega)⟩
  have W' : Wd K en (δ ++ (τ ++ sls)) (σ ++ (ts ++ vs.map some)) G H := by rw [← List.append_assoc, ← List.append_assoc]; exact W
  refine W'.reads hl (fun i sl v h1 h2 => ?_) ?_ r
  · have hi := (List.getElem?_eq_some_iff.mp h1).1
    have hj := (List.getElem?_eq_some_iff.mp h2).1
    have e1 : (δ ++ τ ++ sls)[(δ ++ τ).length + i]? = some sl := by
      rw [List.getElem?_append_right (Nat.le_add_right _ _), Nat.add_sub_cancel_left]; exact h1
    have e2 : (σ ++ ts ++ vs.map some)[(δ ++ τ).length + i]? = some (some v) := by
      have z : (δ ++ τ).length = (σ ++ ts).length := by rw [List.length_append, List.length_append]; omega
      rw [z, List.getElem?_append_right (Nat.le_add_right _ _), Nat.add_sub_cancel_left, List.getElem?_map, h2]; rfl
    have := W.slot _ _ _ e1 e2
    rw [← List.append_assoc]
    exact this
  · have := W.len
    simp only [List.length_append, List.length_map] at this
    omega

/-! ### operations by values -/
def OpD (X : Cx) (f : Value → Value → Sem Value) (g : D → D → Option D) (rs : D → Slot) : Prop :=
  ∀ d1 d2 d, g d1 d2 = some d → ∀ (pins : List (Addr × Obj)) (s : Shared) (σ : L2.St) (G H : Hp) (v1 v2 : V) (u1 u2 : Value) (Q : VK), Inv X pins σ H s → Sub G H → VRep X.K G H d1 v1 → VRep X.K G H d2 v2 → RelV v1 u1 → RelV v2 u2 →
    (∀ v G' H', Grow G H G' H' → Out X.K G H G' H' (rs d) v → Q v H') → wpAny (model X.prog X.w) X.A (f u1 u2) (EP X pins σ Q) X.xe s
def UnD (X : Cx) (f : Value → Sem Value) (g : D → Option D) (rs : D → Slot) : Prop :=
  ∀ d1 d, g d1 = some d → ∀ (pins : List (Addr × Obj)) (s : Shared) (σ : L2.St) (G H : Hp) (v1 : V) (u1 : Value) (Q : VK), Inv X pins σ H s → Sub G H → VRep X.K G H d1 v1 → RelV v1 u1 →
    (∀ v G' H', Grow G H G' H' → Out X.K G H G' H' (rs d) v → Q v H') → wpAny (model X.prog X.w) X.A (f u1) (EP X pins σ Q) X.xe s
def IxD (X : Cx) (g : D → D → Option D) (rs : D → Slot) : Prop :=
  ∀ d1 d2 d, g d1 d2 = some d → ∀ (value slice : Expr) (pins : List (Addr × Obj)) (s : Shared) (σ : L2.St) (G H : Hp) (v1 v2 : V) (u1 u2 : Value) (Q : VK), Inv X pins σ H s → Sub G H → VRep X.K G H d1 v1 → VRep X.K G H d2 v2 → RelV v1 u1 → RelV v2 u2 →
    (∀ v G' H', Grow G H G' H' → Out X.K G H G' H' (rs d) v → Q v H') → subscripted slice false u1 u2 = operate [u1, u2] (getItem u1 u2) → wpAny (model X.prog X.w) X.A (subscriptTail value slice u1 u2) (EP X pins σ Q) X.xe s
def CallD (X : Cx) (f : Value) (g : List D → Option D) (rs : D → Slot) : Prop :=
  ∀ ds d, g ds = some d → ∀ (pins : List (Addr × Obj)) (s : Shared) (σ : L2.St) (G H : Hp) (vs : List V) (us : List Value) (Q : VK), Inv X pins σ H s → Sub G H → VReps X.K G H ds vs → Vals vs us →
    (∀ v G' H', Grow G H G' H' → Out X.K G H G' H' (rs d) v → Q v H') → wpAny (model X.prog X.w) X.A (call f us) (EP X pins σ Q) X.xe s
theorem opD_of {f : Value → Value → Sem Value} {r : R2} {g : D → D → Option D} {rs : D → Slot} (h : OpR X f r)
    (k : ∀ d1 d2 d, g d1 d2 = some d → ∀ (G H : Hp) (v1 v2 : V) (Q : VK), Sub G H → VRep X.K G H d1 v1 → VRep X.K G H d2 v2 → (∀ v G' H', Grow G H G' H' → Out X.K G H G' H' (rs d) v → Q v H') → r v1 v2 H Q) : OpD X f g rs :=
  fun d1 d2 d e pins s σ G H v1 v2 u1 u2 Q I sb r1 r2 q1 q2 hq => h pins s σ H v1 v2 u1 u2 Q I q1 q2 (k d1 d2 d e G H v1 v2 Q sb r1 r2 hq)
theorem ixD_of {r : R2} {g : D → D → Option D} {rs : D → Slot} (h : IxR X r)
    (k : ∀ d1 d2 d, g d1 d2 = some d → ∀ (G H : Hp) (v1 v2 : V) (Q : VK), Sub G H → VRep X.K G H d1 v1 → VRep X.K G H d2 v2 → (∀ v G' H', Grow G H G' H' → Out X.K G H G' H' (rs d) v → Q v H') → r v1 v2 H Q) : IxD X g rs :=
  fun d1 d2 d e value slice pins s σ G H v1 v2 u1 u2 Q I sb r1 r2 q1 q2 hq hs => h value slice pins s σ H v1 v2 u1 u2 Q I q1 q2 (k d1 d2 d e G H v1 v2 Q sb r1 r2 hq) hs
theorem callD_of {f : Value} {r : List V → Hp → VK → Prop} {g : List D → Option D} {rs : D → Slot} (h : CallR X f r)
    (k : ∀ ds d, g ds = some d → ∀ (G H : Hp) (vs : List V) (Q : VK), Sub G H → VReps X.K G H ds vs → (∀ v G' H', Grow G H G' H' → Out X.K G H G' H' (rs d) v → Q v H') → r vs H Q) : CallD X f g rs :=
  fun ds d e pins s σ G H vs us Q I sb r1 q1 hq => h pins s σ H vs us Q I q1 (k ds d e G H vs Q sb r1 hq)

theorem op_some {α : Type} {o : Option α} {k : α → Res R} (h : op o k ≠ .bad) : ∃ a, o = some a := by
  cases o with
  | none => exact (h rfl).elim
  | some a => exact ⟨a, rfl⟩

/-- a op b -/
theorem bin_core {a b : Expr} {f : Value → Value → Sem Value} {g : D → D → Option D} {rs : D → Slot} {e : Expr} (ho : OpD X f g rs)
    (rule : ∀ {r : R2} {ta tb : TE}, OpR X f r → PE X a ta → PE X b tb → PE X e (tOp r ta tb))
    (ha : JE X en δ τ a (fun s1 δ1 m1 => JE X en δ1 (τ ++ [s1]) b (fun s2 δ2 m2 => ∃ d1 d2 k, s1.rd δ2 = some d1 ∧ s2.rd δ2 = some d2 ∧ m2 = op (g d1 d2) k ∧ ∀ d, g d1 d2 = some d → C (rs d) δ2 (k d)) m1) m) : JE X en δ τ e C m := .mk fun hb hx σ ts G H T hl hσ W k => by
  refine we_of (rule (r := fun x y H Q => ∀ (pins : List (Addr × Obj)) (s : Shared) (σ : L2.St) (u1 u2 : Value), Inv X pins σ H s → RelV x u1 → RelV y u2 → wpAny (model X.prog X.w) X.A (f u1 u2) (EP X pins σ Q) X.xe s)
    (fun pins s σ H x y v u Q I r1 r2 h => h pins s σ v u I r1 r2) pe_we pe_we) ?_
  have ht : τ.length = ts.length := W.splitLen (hl.trans hσ.symm)
  refine ha.run hb hx σ ts G H _ hl hσ W fun s1 δ1 v1 G1 H1 c1 hl1 W1 => ?_
  rw [List.append_assoc, List.append_assoc] at W1
  refine c1.run hb hx σ (ts ++ [some v1]) G1 H1 _ hl1 hσ W1 fun s2 δ2 v2 G2 H2 c2 hl2 W2 => ?_
  obtain ⟨d1, d2, k', e1, e2, em, hk⟩ := c2
  have hb' := hb
  rw [em] at hb'
  obtain ⟨d, ed⟩ := op_some hb'
  have em' : m = k' d := by rw [em, ed]; rfl
  have W3 : Wd X.K en (δ2 ++ τ ++ [s1, s2]) (σ ++ ts ++ [v1, v2].map some) G2 H2 := by
    have := W2
    simp only [List.append_assoc, List.map_cons, List.map_nil, List.cons_append, List.nil_append] at this ⊢
    exact this
  obtain ⟨⟨_, _, ez, r1, _, _, ez2, r2, ez3⟩, Wn⟩ := W3.ends (hl2.trans hσ.symm) ht (ds := [d1, d2]) (by simp only [rds, e1, e2])
  cases ez
  cases ez2
  intro pins s σ' u1 u2 I q1 q2
  refine ho d1 d2 d ed pins s σ' G2 H2 v1 v2 u1 u2 T I W2.sub r1 r2 q1 q2 fun v G' H' gr out => ?_
  refine k (rs d) δ2 v G' H' ?_ hl2 ((Wn (by omega)).out gr out)
  have := hk d ed
  rw [← em'] at this
  exact this
theorem je_bin {op' : Operator} {g : D → D → Option D} {rs : D → Slot} {a b : Expr} {pos : Pos} (ho : OpD X (binaryOp op') g rs)
    (ha : JE X en δ τ a (fun s1 δ1 m1 => JE X en δ1 (τ ++ [s1]) b (fun s2 δ2 m2 => ∃ d1 d2 k, s1.rd δ2 = some d1 ∧ s2.rd δ2 = some d2 ∧ m2 = op (g d1 d2) k ∧ ∀ d, g d1 d2 = some d → C (rs d) δ2 (k d)) m1) m) : JE X en δ τ (.BinOp a op' b pos) C m :=
  bin_core ho (fun h1 h2 h3 => pe_op h1 h2 h3) ha
/-- a comparison as a value -/
theorem je_cmp {op' : CmpOp} {g : D → D → Option D} {rs : D → Slot} {a b : Expr} {pos : Pos} (ho : OpD X (compareOp op') g rs) (hm : behindInMarks op' b = false)
    (ha : JE X en δ τ a (fun s1 δ1 m1 => JE X en δ1 (τ ++ [s1]) b (fun s2 δ2 m2 => ∃ d1 d2 k, s1.rd δ2 = some d1 ∧ s2.rd δ2 = some d2 ∧ m2 = op (g d1 d2) k ∧ ∀ d, g d1 d2 = some d → C (rs d) δ2 (k d)) m1) m) : JE X en δ τ (.Compare a [op'] [b] pos) C m :=
  bin_core ho (fun h1 h2 h3 => pe_cmpR h1 h2 h3 hm) ha
/-- a[b] -/
theorem je_ix {g : D → D → Option D} {rs : D → Slot} {a b : Expr} {pos : Pos} (ho : IxD X g rs) (hs : PlainIx b)
    (ha : JE X en δ τ a (fun s1 δ1 m1 => JE X en δ1 (τ ++ [s1]) b (fun s2 δ2 m2 => ∃ d1 d2 k, s1.rd δ2 = some d1 ∧ s2.rd δ2 = some d2 ∧ m2 = op (g d1 d2) k ∧ ∀ d, g d1 d2 = some d → C (rs d) δ2 (k d)) m1) m) : JE X en δ τ (.Subscript a b pos) C m := .mk fun hb hx σ ts G H T hl hσ W k => by
  refine we_of (pe_ix (r := fun x y H Q => ∀ (value slice : Expr) (pins : List (Addr × Obj)) (s : Shared) (σ : L2.St) (u1 u2 : Value), Inv X pins σ H s → RelV x u1 → RelV y u2 → subscripted slice false u1 u2 = operate [u1, u2] (getItem u1 u2) → wpAny (model X.prog X.w) X.A (subscriptTail value slice u1 u2) (EP X pins σ Q) X.xe s)
    (fun value slice pins s σ H x y v u Q I r1 r2 h hs => h value slice pins s σ v u I r1 r2 hs) pe_we pe_we hs) ?_
  have ht : τ.length = ts.length := W.splitLen (hl.trans hσ.symm)
  refine ha.run hb hx σ ts G H _ hl hσ W fun s1 δ1 v1 G1 H1 c1 hl1 W1 => ?_
  rw [List.append_assoc, List.append_assoc] at W1
  refine c1.run hb hx σ (ts ++ [some v1]) G1 H1 _ hl1 hσ W1 fun s2 δ2 v2 G2 H2 c2 hl2 W2 => ?_
  obtain ⟨d1, d2, k', e1, e2, em, hk⟩ := c2
  have hb' := hb
  rw [em] at hb'
  obtain ⟨d, ed⟩ := op_some hb'
  have em' : m = k' d := by rw [em, ed]; rfl
  have W3 : Wd X.K en (δ2 ++ τ ++ [s1, s2]) (σ ++ ts ++ [v1, v2].map some) G2 H2 := by
    have := W2
    simp only [List.append_assoc, List.map_cons, List.map_nil, List.cons_append, List.nil_append] at this ⊢
    exact this
  obtain ⟨⟨_, _, ez, r1, _, _, ez2, r2, ez3⟩, Wn⟩ := W3.ends (hl2.trans hσ.symm) ht (ds := [d1, d2]) (by simp only [rds, e1, e2])
  cases ez
  cases ez2
  intro value slice pins s σ' u1 u2 I q1 q2 hs
  refine ho d1 d2 d ed value slice pins s σ' G2 H2 v1 v2 u1 u2 T I W2.sub r1 r2 q1 q2 (fun v G' H' gr out => ?_) hs
  refine k (rs d) δ2 v G' H' ?_ hl2 ((Wn (by omega)).out gr out)
  have := hk d ed
  rw [← em'] at this
  exact this
/-! ### arguments -/
theorem ja_nil {C : List Slot → List Slot → Res R → Prop} (h : C [] δ m) : JA X en δ τ [] C m := .mk fun hb hx σ ts G H T hl hσ W k =>
  wa_of pa_nil (k [] δ [] G H h hl (by rw [List.map_nil, List.append_nil, List.append_nil]; exact W))
theorem ja_cons {e : Expr} {es : List Expr} {C : List Slot → List Slot → Res R → Prop}
    (h : JE X en δ τ e (fun s1 δ1 m1 => JA X en δ1 (τ ++ [s1]) es (fun sls δ2 m2 => C (s1 :: sls) δ2 m2) m1) m) (hs : starEach (e :: es) X.env = (false, eval e X.env) :: starEach es X.env := by exact star_plain rfl) : JA X en δ τ (e :: es) C m := .mk fun hb hx σ ts G H T hl hσ W k => by
  refine wa_of (pa_cons pe_we pa_wa hs) ?_
  refine h.run hb hx σ ts G H _ hl hσ W fun s1 δ1 v1 G1 H1 c1 hl1 W1 => ?_
  rw [List.append_assoc, List.append_assoc] at W1
  refine c1.run hb hx σ (ts ++ [some v1]) G1 H1 _ hl1 hσ W1 fun sls δ2 vs G2 H2 c2 hl2 W2 => ?_
  refine k (s1 :: sls) δ2 (v1 :: vs) G2 H2 c2 hl2 ?_
  have := W2
  simp only [List.append_assoc, List.map_cons, List.cons_append, List.nil_append] at this ⊢
  exact this

/-! ### what is put among what stands fast -/
/-- a list of one's own is from now on one that stands fast -/
theorem Wd.fast {Δ : List Slot} {S : L2.St} {G H : Hp} (W : Wd K en Δ S G H) {i : Nat} {d : D} (h : Δ[i]? = some (.mu d)) : ∃ G', Wd K en (Δ.set i (.fr d)) S G' H ∧ Sub G G' := by
  obtain ⟨o, h1, p, e, n, f, f2, r⟩ := W.at h
  subst e
  obtain ⟨ob, ho⟩ := r.ex
  have hi := (List.getElem?_eq_some_iff.mp h).1
  have other : ∀ (j : Nat) sl, (Δ.set i (.fr d))[j]? = some sl → j ≠ i → Δ[j]? = some sl := fun j sl h3 hj => by
    rw [List.getElem?_set_ne (Ne.symm hj)] at h3; exact h3
  have nm : ∀ (j : Nat) d2 q, (Δ.set i (.fr d))[j]? = some (.mu d2) → S[j]? = some (some (V.ref q)) → j ≠ i ∧ Δ[j]? = some (.mu d2) ∧ q ≠ p := fun j d2 q h3 h4 => by
    have hj : j ≠ i := fun z => by
      subst z
      rw [List.getElem?_set_self hi] at h3; cases h3
    exact ⟨hj, other j _ h3 hj, fun z => by subst z; exact hj (W.apart j i q ⟨_, other j _ h3 hj, rfl, h4⟩ ⟨_, h, rfl, h1⟩)⟩
  refine ⟨upd G p ob, ⟨by rw [List.length_set]; exact W.len, fun a u e => ?_, W.ext.trans (Sub.upd n), fun a u e => ?_, W.frm, W.stay, W.nd, fun j sl u h3 h4 => ?_, fun j j' q h3 h4 => ?_⟩, Sub.upd n⟩
  · by_cases ha : a = p
    · subst ha; rw [upd_same] at e; cases e; exact ho
    · rw [upd_ne ha] at e; exact W.sub a u e
  · by_cases ha : a = p
    · subst ha; exact .inr ⟨f, f2⟩
    · rw [upd_ne ha] at e; exact W.new a u e
  · by_cases hj : j = i
    · subst hj
      rw [List.getElem?_set_self hi] at h3
      cases h3
      rw [h1] at h4
      cases h4
      exact ⟨_, rfl, r.freeze ho n⟩
    · have q := W.slot j sl u (other j sl h3 hj) h4
      cases sl with
      | un => trivial
      | fr d2 => obtain ⟨v, e, q⟩ := q; exact ⟨v, e, Rep.sub (Sub.upd n) _ _ q⟩
      | mu d2 =>
        obtain ⟨q1, e, n1, x1, x2, r1⟩ := q
        subst e
        obtain ⟨_, _, ne⟩ := nm j d2 q1 h3 h4
        exact ⟨q1, rfl, by rw [upd_ne ne]; exact n1, x1, x2, r1.keep (Sub.upd n) fun _ z => z⟩
      | mp l d2 =>
        obtain ⟨q1, e, x0, n1, x1, r1⟩ := q
        have ne : q1 ≠ p := fun z => by subst z; exact f2 (List.mem_of_getElem? x0)
        exact ⟨q1, e, x0, by rw [upd_ne ne]; exact n1, x1, r1.keep (Sub.upd n) fun _ z => z⟩
      | bw d2 => obtain ⟨v, e, q⟩ := q; exact ⟨v, e, BRep.sub (Sub.upd n) (Sub.refl _) q⟩
      | bo l => exact q
  · have key : ∀ (j : Nat), Own (Δ.set i (.fr d)) S j q → Own Δ S j q := fun j ⟨sl, e1, e2, e3⟩ => by
      refine ⟨sl, other j sl e1 fun z => ?_, e2, e3⟩
      subst z
      rw [List.getElem?_set_self hi] at e1
      cases e1; cases e2
    exact W.apart j j' q (key j h3) (key j' h4)
/-- what stands at hand last, put fast: e is followed by C of what stands fast -/
def Slot.fz : Slot → Slot
  | .mu d => .fr d
  | s => s
theorem je_fz {e : Expr} (h : JE X en δ τ e (fun s1 δ1 m1 => C s1.fz δ1 m1) m) : JE X en δ τ e C m := .mk fun hb hx σ ts G H T hl hσ W k => by
  refine h.run hb hx σ ts G H T hl hσ W fun sl δ' v G' H' c hl' W' => ?_
  cases sl with
  | mu d =>
    obtain ⟨G2, W2, _⟩ := W'.fast (i := (δ' ++ τ).length) (d := d) getElem?_last
    refine k (.fr d) δ' v G2 H' c hl' ?_
    rw [List.set_append_right _ _ (Nat.le_refl _), Nat.sub_self] at W2
    exact W2
  | un => exact k _ δ' v G' H' c hl' W'
  | fr d => exact k _ δ' v G' H' c hl' W'
  | mp j d => exact k _ δ' v G' H' c hl' W'
  | bw d => exact k _ δ' v G' H' c hl' W'
  | bo i => exact k _ δ' v G' H' c hl' W'
/-- a name's own list put fast, and told -/
theorem je_fzv (i : Nat) {x : Str} {pos : Pos} {d : D} (hs : δ[i]? = some (.mu d)) (h : C (.fr d) (δ.set i (.fr d)) m) (hN : X.N[i]? = some x := by rfl) (hv : Vis X.env.scope x := by first | exact Or.inl rfl | exact Or.inr (Or.inl rfl) | exact Or.inr (Or.inr rfl))
    (hd : (x == ("__debug__" : Str)) = false := by decide) (hcd : (x == ("__classdict__" : Str)) = false := by decide) : JE X en δ τ (.Name x pos) C m := .mk fun hb hx σ ts G H T hl hσ W k => by
  have hi := (List.getElem?_eq_some_iff.mp hs).1
  obtain ⟨G2, W2, _⟩ := W.fast (i := i) (d := d) (by rw [List.getElem?_append_left hi]; exact hs)
  rw [List.set_append_left _ _ hi] at W2
  have hl2 : (δ.set i (.fr d)).length = en.n := by rw [List.length_set]; exact hl
  obtain ⟨o, h1, v, e, q⟩ := W2.name (hl2.trans hσ.symm) (i := i) (sl := .fr d) (by rw [List.getElem?_set_self hi])
  subst e
  exact we_of (pe_var hN hv hd hcd) ⟨v, h1, k _ _ v G2 H h hl2 (W2.out (Grow.refl W2.sub) q)⟩
end
end BR

/-! K4: displays, calls of what is built in, tests, and, or, not, joins -/
namespace BR
open PySem PySem.Spec PyProof.Rows L2

/-- the data of things that stand fast -/
def frs : List Slot → Option (List D)
  | [] => some []
  | .fr d :: r => (frs r).map (d :: ·)
  | _ :: _ => none

section
variable {X : Cx} {en : Kn} {δ τ : List Slot} {R : Type} {C : Slot → List Slot → Res R → Prop} {m : Res R} {K : PySem.W.Frag}

theorem Wd.frs {Δ : List Slot} {S : L2.St} {G H : Hp} : ∀ {sls : List Slot} {vs : List V} {ds : List D}, (∀ (i : Nat) sl v, sls[i]? = some sl → vs[i]? = some v → SlotOk K en S G H sl (some v)) → sls.length = vs.length → BR.frs sls = some ds → Reps K G ds vs
  | [], [], ds, _, _, h => by cases h; rfl
  | [], _ :: _, _, _, h, _ => nomatch h
  | _ :: _, [], _, _, h, _ => nomatch h
  | .fr d :: sls, v :: vs, ds, q, hn, h => by
    unfold BR.frs at h
    obtain ⟨ds', h1, h2⟩ := Option.map_eq_some_iff.mp h
    subst h2
    obtain ⟨v', e, r⟩ := q 0 _ v rfl rfl
    cases e
    exact ⟨v, vs, rfl, r, Wd.frs (Δ := Δ) (S := S) (H := H) (fun i sl v h3 h4 => q (i + 1) sl v (by simpa using h3) (by simpa using h4)) (by simpa using hn) h1⟩
  | .un :: _, _ :: _, _, _, _, h => by cases h
  | .mu _ :: _, _ :: _, _, _, _, h => by cases h
  | .mp _ _ :: _, _ :: _, _, _, _, h => by cases h
  | .bw _ :: _, _ :: _, _, _, _, h => by cases h
  | .bo _ :: _, _ :: _, _, _, _, h => by cases h
/-- the slots of the things at the end -/
theorem Wd.endSlots {σ ts : L2.St} {vs : List V} {G H : Hp} {sls : List Slot} (W : Wd K en (δ ++ τ ++ sls) (σ ++ ts ++ vs.map some) G H) (hl : δ.length = σ.length) (ht : τ.length = ts.length) :
    sls.length = vs.length ∧ ∀ (i : Nat) sl v, sls[i]? = some sl → vs[i]? = some v → SlotOk K en (σ ++ ts ++ vs.map some) G H sl (some v) := by
  refine ⟨?_, fun i sl v h1 h2 => ?_⟩
  · have := W.len
    simp only [List.length_append, List.length_map] at this
    omega
  · have e1 : (δ ++ τ ++ sls)[(δ ++ τ).length + i]? = some sl := by
      rw [List.getElem?_append_right (Nat.le_add_right _ _), Nat.add_sub_cancel_left]; exact h1
    have e2 : (σ ++ ts ++ vs.map some)[(δ ++ τ).length + i]? = some (some v) := by
      have z : (δ ++ τ).length = (σ ++ ts).length := by rw [List.length_append, List.length_append]; omega
      rw [z, List.getElem?_append_right (Nat.le_add_right _ _), Nat.add_sub_cancel_left, List.getElem?_map, h2]; rfl
    exact W.slot _ _ _ e1 e2

/-- a new thing laid that stands fast -/
theorem Wd.laidF {Δ : List Slot} {S : L2.St} {G H : Hp} (W : Wd K en Δ S G H) {p : Addr} {o : HO} (hp : H p = none) {d : D} (r : ∀ G', Sub G G' → G' p = some o → Rep K G' d (.ref p)) :
    Wd K en (Δ ++ [.fr d]) (S ++ [some (.ref p)]) (upd G p o) (upd H p o) := by
  have hg := (W.fresh hp).1
  refine W.out ⟨Sub.upd hg, Sub.upd hp, fun a u e => ?_, fun a u e => ?_⟩ (r _ (Sub.upd hg) upd_same)
  · by_cases ha : a = p
    · subst ha; rw [upd_same] at e ⊢; exact e
    · rw [upd_ne ha] at e ⊢; exact W.sub a u e
  · by_cases ha : a = p
    · subst ha; exact .inr hp
    · rw [upd_ne ha] at e; exact .inl e
/-- a tuple written -/
theorem je_tup {es : List Expr} {x1} {pos : Pos} (h : JA X en δ τ es (fun sls δ1 m1 => ∃ ds, frs sls = some ds ∧ sls.length.ble 1000 = true ∧ C (.fr (.tup ds)) δ1 m1) m) : JE X en δ τ (.Tuple es x1 pos) C m := .mk fun hb hx σ ts G H T hl hσ W k => by
  refine we_of (pe_tup pa_wa) ?_
  have ht : τ.length = ts.length := W.splitLen (hl.trans hσ.symm)
  refine h.run hb hx σ ts G H _ hl hσ W fun sls δ1 vs G1 H1 c1 hl1 W1 => ?_
  obtain ⟨ds, e, hz, c⟩ := c1
  obtain ⟨hn, q⟩ := W1.endSlots (hl1.trans hσ.symm) ht
  have hr : Reps X.K G1 ds vs := Wd.frs (Δ := δ) (H := H1) q hn e
  refine ⟨Nat.le_of_lt (small1000 (hn ▸ Nat.le_of_ble_eq_true hz)), fun p hp => ?_⟩
  have W2 := W1.cut (Δ := δ1 ++ τ) (S := σ ++ ts) (by rw [List.length_append, List.length_append]; omega) (by rw [List.length_append]; omega)
  exact k _ δ1 (.ref p) _ _ c hl1 (W2.laidF hp fun G' s e => ⟨p, vs, rfl, .inl (.inl e), Reps.sub s _ _ hr⟩)
/-- a list written: a new one -/
theorem je_lst {es : List Expr} {pos : Pos} (h : JA X en δ τ es (fun sls δ1 m1 => ∃ ds, frs sls = some ds ∧ sls.length.ble 1000 = true ∧ C (.mu (.lst ds)) δ1 m1) m) : JE X en δ τ (.List es pos) C m := .mk fun hb hx σ ts G H T hl hσ W k => by
  refine we_of (pe_lst pa_wa) ?_
  have ht : τ.length = ts.length := W.splitLen (hl.trans hσ.symm)
  refine h.run hb hx σ ts G H _ hl hσ W fun sls δ1 vs G1 H1 c1 hl1 W1 => ?_
  obtain ⟨ds, e, hz, c⟩ := c1
  obtain ⟨hn, q⟩ := W1.endSlots (hl1.trans hσ.symm) ht
  have hr : Reps X.K G1 ds vs := Wd.frs (Δ := δ) (H := H1) q hn e
  refine ⟨Nat.le_of_lt (small1000 (hn ▸ Nat.le_of_ble_eq_true hz)), fun p hp => ?_⟩
  have W2 := W1.cut (Δ := δ1 ++ τ) (S := σ ++ ts) (by rw [List.length_append, List.length_append]; omega) (by rw [List.length_append]; omega)
  have hg := (W2.fresh hp).1
  exact k _ δ1 (.ref p) G1 _ c hl1 (W2.out (Grow.laid W2.sub hp) ⟨p, rfl, hp, hg, vs, upd_same, hr⟩)

/-! ### what is built in -/
theorem call_core {e : Expr} {es : List Expr} {f : Value} {g : List D → Option D} {rs : D → Slot} (hc : CallD X f g rs) (rule : ∀ {r : List V → Hp → VK → Prop} {t : TA}, CallR X f r → PA X es t → PE X e (tCB r t))
    (h : JA X en δ τ es (fun sls δ1 m1 => ∃ ds k, rds δ1 sls = some ds ∧ m1 = op (g ds) k ∧ ∀ d, g ds = some d → C (rs d) δ1 (k d)) m) : JE X en δ τ e C m := .mk fun hb hx σ ts G H T hl hσ W k => by
  refine we_of (rule (r := fun vs H Q => ∀ (pins : List (Addr × Obj)) (s : Shared) (σ : L2.St) (us : List Value), Inv X pins σ H s → Vals vs us → wpAny (model X.prog X.w) X.A (call f us) (EP X pins σ Q) X.xe s)
    (fun pins s σ H xs us Q I r1 h => h pins s σ us I r1) pa_wa) ?_
  have ht : τ.length = ts.length := W.splitLen (hl.trans hσ.symm)
  refine h.run hb hx σ ts G H _ hl hσ W fun sls δ1 vs G1 H1 c1 hl1 W1 => ?_
  obtain ⟨ds, k', e1, em, hk⟩ := c1
  have hb' := hb
  rw [em] at hb'
  obtain ⟨d, ed⟩ := op_some hb'
  have em' : m = k' d := by rw [em, ed]; rfl
  obtain ⟨r1, Wn⟩ := W1.ends (hl1.trans hσ.symm) ht e1
  intro pins s σ' us I q1
  refine hc ds d ed pins s σ' G1 H1 vs us T I W1.sub r1 q1 fun v G' H' gr out => ?_
  refine k (rs d) δ1 v G' H' ?_ hl1 ((Wn (by omega)).out gr out)
  have := hk d ed
  rw [← em'] at this
  exact this
/-- f(..), a built-in function -/
theorem je_callB {x : Str} {p pos : Pos} {e : Expr} {es : List Expr} {id : String} {g : List D → Option D} {rs : D → Slot} (hc : CallD X (.builtin id) g rs) (hm : X.mg x = none)
    (h : JA X en δ τ (e :: es) (fun sls δ1 m1 => ∃ ds k, rds δ1 sls = some ds ∧ m1 = op (g ds) k ∧ ∀ d, g ds = some d → C (rs d) δ1 (k d)) m) (hv : bootBuiltins x = some (.builtin id) := by decide +kernel) (hg : Gl X x := by rfl)
    (hn : x ≠ "__name__" := by decide) (hdb : (x == ("__debug__" : Str)) = false := by decide)
    (he : starEach (e :: es) X.env = (false, eval e X.env) :: starEach es X.env := by exact star_plain rfl) (hpl : (backTo pos (starEach es X.env)).any (·.1) = false := by rfl) : JE X en δ τ (.Call (.Name x p) (e :: es) [] pos) C m :=
  call_core hc (fun h1 h2 => pe_callB h1 hg hm hv h2 hn hdb he hpl) h
/-! ### comparisons and tests -/
def CmpD (X : Cx) (f : Value → Value → Sem Value) (g : D → D → Option Bool) : Prop := OpD X f (fun a b => (g a b).map D.bl) Slot.fr
def kB {R : Type} (k : Bool → Res R) : D → Res R
  | .bl b => k b
  | _ => .bad
theorem op_kB {o : Option Bool} {k : Bool → Res R} : op o k = op (o.map D.bl) (kB k) := by cases o <;> rfl
/-- a comparison as a value -/
theorem je_cmpB {op' : CmpOp} {g : D → D → Option Bool} {a b : Expr} {pos : Pos} (ho : CmpD X (compareOp op') g) (hm : behindInMarks op' b = false)
    (ha : JE X en δ τ a (fun s1 δ1 m1 => JE X en δ1 (τ ++ [s1]) b (fun s2 δ2 m2 => ∃ d1 d2 k, s1.rd δ2 = some d1 ∧ s2.rd δ2 = some d2 ∧ m2 = op (g d1 d2) k ∧ ∀ d, C (.fr (.bl d)) δ2 (k d)) m1) m) : JE X en δ τ (.Compare a [op'] [b] pos) C m := by
  refine je_cmp ho hm (.mk fun hb hx σ ts G H T hl hσ W k => ha.run hb hx σ ts G H T hl hσ W fun s1 δ1 v1 G1 H1 c1 hl1 W1 => k s1 δ1 v1 G1 H1 ?_ hl1 W1)
  refine .mk fun hb hx σ ts G H T hl hσ W k => c1.run hb hx σ ts G H T hl hσ W fun s2 δ2 v2 G2 H2 c2 hl2 W2 => k s2 δ2 v2 G2 H2 ?_ hl2 W2
  obtain ⟨d1, d2, k', e1, e2, em, hk⟩ := c2
  refine ⟨d1, d2, kB k', e1, e2, em.trans op_kB, fun d ed => ?_⟩
  obtain ⟨b, _, eb⟩ := Option.map_eq_some_iff.mp ed
  subst eb
  exact hk b
/-- an expression whose value is True or False, as a test -/
theorem jt_of {C : Bool → List Slot → Res R → Prop} {e : Expr} (rule : PT X e (fun σ H Q => WE X e σ H fun x H' => ∃ k, TruV X.K x H' k ∧ Q k H'))
    (h : JE X en δ τ e (fun s1 δ1 m1 => ∃ b, s1 = .fr (.bl b) ∧ C b δ1 m1) m) : JT X en δ τ e C m := .mk fun hb hx σ ts G H T hl hσ W k => by
  refine wt_of rule ?_
  have ht : τ.length = ts.length := W.splitLen (hl.trans hσ.symm)
  refine h.run hb hx σ ts G H _ hl hσ W fun s1 δ1 v1 G1 H1 c1 hl1 W1 => ?_
  obtain ⟨b, e1, c⟩ := c1
  subst e1
  obtain ⟨v, e, r⟩ := W1.last
  cases e
  have r' : v1 = .bl b := r
  subst r'
  exact ⟨b, rfl, k b δ1 G1 H1 c hl1 (W1.cut (Δ := δ1 ++ τ) (S := σ ++ ts) (by rw [List.length_append, List.length_append]; omega) (by rw [List.length_append]; omega))⟩
/-- a comparison as a test -/
theorem jt_cmp {op' : CmpOp} {g : D → D → Option Bool} {a b : Expr} {pos : Pos} {C : Bool → List Slot → Res R → Prop} (ho : CmpD X (compareOp op') g) (hm : behindInMarks op' b = false)
    (ha : JE X en δ τ a (fun s1 δ1 m1 => JE X en δ1 (τ ++ [s1]) b (fun s2 δ2 m2 => ∃ d1 d2 k, s1.rd δ2 = some d1 ∧ s2.rd δ2 = some d2 ∧ m2 = op (g d1 d2) k ∧ ∀ d, C d δ2 (k d)) m1) m) : JT X en δ τ (.Compare a [op'] [b] pos) C m := by
  have h : JE X en δ τ (.Compare a [op'] [b] pos) (fun s1 δ1 m1 => ∃ b, s1 = .fr (.bl b) ∧ C b δ1 m1) m := by
    refine je_cmpB ho hm (.mk fun hb hx σ ts G H T hl hσ W k => ha.run hb hx σ ts G H T hl hσ W fun s1 δ1 v1 G1 H1 c1 hl1 W1 => k s1 δ1 v1 G1 H1 ?_ hl1 W1)
    refine .mk fun hb hx σ ts G H T hl hσ W k => c1.run hb hx σ ts G H T hl hσ W fun s2 δ2 v2 G2 H2 c2 hl2 W2 => k s2 δ2 v2 G2 H2 ?_ hl2 W2
    obtain ⟨d1, d2, k', e1, e2, em, hk⟩ := c2
    exact ⟨d1, d2, k', e1, e2, em, fun b => ⟨b, rfl, hk b⟩⟩
  refine .mk fun hb hx σ ts G H T hl hσ W k => ?_
  have ht : τ.length = ts.length := W.splitLen (hl.trans hσ.symm)
  refine wt_of (pt_cmpR (r := fun x y H Q => ∀ (pins : List (Addr × Obj)) (s : Shared) (σ : L2.St) (u1 u2 : Value), Inv X pins σ H s → RelV x u1 → RelV y u2 → wpAny (model X.prog X.w) X.A (compareOp op' u1 u2) (EP X pins σ Q) X.xe s)
    (fun pins s σ H x y v u Q I r1 r2 h => h pins s σ v u I r1 r2) pe_we pe_we hm) ?_
  refine ha.run hb hx σ ts G H _ hl hσ W fun s1 δ1 v1 G1 H1 c1 hl1 W1 => ?_
  rw [List.append_assoc, List.append_assoc] at W1
  refine c1.run hb hx σ (ts ++ [some v1]) G1 H1 _ hl1 hσ W1 fun s2 δ2 v2 G2 H2 c2 hl2 W2 => ?_
  obtain ⟨d1, d2, k', e1, e2, em, hk⟩ := c2
  have hb' := hb
  rw [em] at hb'
  obtain ⟨d, ed⟩ := op_some hb'
  have em' : m = k' d := by rw [em, ed]; rfl
  have W3 : Wd X.K en (δ2 ++ τ ++ [s1, s2]) (σ ++ ts ++ [v1, v2].map some) G2 H2 := by
    have := W2
    simp only [List.append_assoc, List.map_cons, List.map_nil, List.cons_append, List.nil_append] at this ⊢
    exact this
  obtain ⟨⟨_, _, ez, r1, _, _, ez2, r2, ez3⟩, Wn⟩ := W3.ends (hl2.trans hσ.symm) ht (ds := [d1, d2]) (by simp only [rds, e1, e2])
  cases ez
  cases ez2
  intro pins s σ' u1 u2 I q1 q2
  refine ho d1 d2 (.bl d) (by show (g d1 d2).map D.bl = _; rw [ed]; rfl) pins s σ' G2 H2 v1 v2 u1 u2 _ I W2.sub r1 r2 q1 q2 fun v G' H' gr out => ?_
  have out' : v = .bl d := out
  subst out'
  refine ⟨d, rfl, k d δ2 G' H' ?_ hl2 ((Wn (by omega)).grow gr)⟩
  have := hk d
  rw [← em'] at this
  exact this
/-- truth of data -/
def truD : D → Option Bool
  | .non => some false
  | .bl b => some b
  | .int i => some (i != 0)
  | .str x => if x.length ≤ sizeLine then some ((x.length : Int) != 0) else none
  | .lst xs => some (!xs.isEmpty)
  | .tup xs => some (!xs.isEmpty)
  | .dic xs => some (!xs.isEmpty)
  | .scr xs => some (!xs.isEmpty)
  | .exc _ _ => none
  | .obj _ _ => none
theorem Reps.emp {G : Hp} : ∀ {ds : List D} {vs : List V}, Reps K G ds vs → ds.isEmpty = vs.isEmpty
  | [], _, h => by rw [show _ = [] from h]; rfl
  | _ :: _, _, h => by obtain ⟨_, _, e, _⟩ := h; rw [e]; rfl
theorem RepKs.emp {G : Hp} : ∀ {ds : List (Key × D)} {vs : List (Key × V)}, RepKs K G ds vs → ds.isEmpty = vs.isEmpty
  | [], _, h => by rw [show _ = [] from h]; rfl
  | (_, _) :: _, _, h => by obtain ⟨_, _, e, _⟩ := h; rw [e]; rfl
theorem tru_v {G H : Hp} : ∀ {d : D} {v : V} {b : Bool}, truD d = some b → VRep K G H d v → TruV K v H b
  | .non, v, b, h, r => by
    have r' : v = .non := r
    subst r'; cases h; rfl
  | .bl c, v, b, h, r => by
    have r' : v = .bl c := r
    subst r'; cases h; rfl
  | .int c, v, b, h, r => by
    have r' : v = .int c := r
    subst r'; cases h; rfl
  | .str c, v, b, h, r => by
    have r' : v = .str c := r
    subst r'
    have h' : (if c.length ≤ sizeLine then some ((c.length : Int) != 0) else none) = some b := h
    by_cases hz : c.length ≤ sizeLine
    · rw [if_pos hz] at h'
      cases h'; exact ⟨hz, rfl⟩
    · rw [if_neg hz] at h'
      cases h'
  | .lst xs, v, b, h, r => by
    obtain ⟨a, vs, e, q, r'⟩ := r
    subst e
    cases h
    exact .inl ⟨vs, SqL.of q, by rw [r'.emp]⟩
  | .exc _ _, _, _, h, _ => by cases h
  | .obj _ _, _, _, h, _ => by cases h
  | .scr xs, v, b, h, r => by
    obtain ⟨a, e, q⟩ := r
    subst e
    cases h
    exact .inl ⟨_, q, by cases xs <;> rfl⟩
  | .tup xs, v, b, h, r => by
    obtain ⟨a, vs, e, q, r'⟩ := r
    subst e
    cases h
    exact .inr (.inl ⟨vs, q, by rw [r'.emp]⟩)
  | .dic xs, v, b, h, r => by
    obtain ⟨a, vs, e, q, r'⟩ := r
    subst e
    cases h
    exact .inr (.inr ⟨vs, q, by rw [r'.emp]⟩)
theorem jt_tru {C : Bool → List Slot → Res R → Prop} {e : Expr}
    (h : JE X en δ τ e (fun s1 δ1 m1 => ∃ d k, s1.rd δ1 = some d ∧ m1 = op (truD d) k ∧ ∀ b, C b δ1 (k b)) m) (he : ∀ whole, isTrue e X.env whole = (do let v ← whole; standAt e.pos; holding [v] (truthy v)) := by intro _; rfl) : JT X en δ τ e C m := .mk fun hb hx σ ts G H T hl hσ W k => by
  refine wt_of (pt_truth pe_we he) ?_
  have ht : τ.length = ts.length := W.splitLen (hl.trans hσ.symm)
  refine h.run hb hx σ ts G H _ hl hσ W fun s1 δ1 v1 G1 H1 c1 hl1 W1 => ?_
  obtain ⟨d, k', e1, em, hk⟩ := c1
  have hb' := hb
  rw [em] at hb'
  obtain ⟨b, eb⟩ := op_some hb'
  have em' : m = k' b := by rw [em, eb]; rfl
  obtain ⟨⟨_, _, ez, r1, _⟩, Wn⟩ := Wd.ends (sls := [s1]) (vs := [v1]) W1 (hl1.trans hσ.symm) ht (ds := [d]) (by simp only [rds, e1])
  cases ez
  refine ⟨b, tru_v eb r1, k b δ1 G1 H1 ?_ hl1 (Wn (by omega))⟩
  have := hk b
  rw [← em'] at this
  exact this
/-- one whose slot tells that it is True or False -/
theorem jt_bl {C : Bool → List Slot → Res R → Prop} {e : Expr}
    (h : JE X en δ τ e (fun s1 δ1 m1 => ∃ b, s1 = .fr (.bl b) ∧ C b δ1 m1) m) (he : ∀ whole, isTrue e X.env whole = (do let v ← whole; standAt e.pos; holding [v] (truthy v)) := by intro _; rfl) : JT X en δ τ e C m := jt_of (pt_truth pe_we he) h

/-! ### and, or, not as tests -/
abbrev WW (X : Cx) (e : Expr) : TT := fun σ H Q => ∀ (whole : Sem Value) (pins : List (Addr × Obj)) (s : Shared), Inv X pins σ H s → wpAny (model X.prog X.w) X.A (isTrue e X.env whole) (TP X pins σ Q) X.xe s
theorem pw_ww {e : Expr} : PW X e (WW X e) := ⟨fun wh pins s _ _ _ I h => h wh pins s I⟩
structure JW (X : Cx) (en : Kn) (δ τ : List Slot) (e : Expr) {R : Type} (C : Bool → List Slot → Res R → Prop) (m : Res R) : Prop where
  run : m ≠ .bad → en.HX m.exc → ∀ (σ ts : L2.St) (G H : Hp) (T : Bool → Hp → Prop), δ.length = en.n → σ.length = en.n → Wd X.K en (δ ++ τ) (σ ++ ts) G H →
    (∀ b δ' G' H', C b δ' m → δ'.length = en.n → Wd X.K en (δ' ++ τ) (σ ++ ts) G' H' → T b H') → WW X e σ H T
section
variable {C : Bool → List Slot → Res R → Prop} {a b : Expr} {rest : List Expr} {pos : Pos}
theorem jt_w {e : Expr} (h : JW X en δ τ e C m) : JT X en δ τ e C m := .mk fun hb hx σ ts G H T hl hσ W k pins s I => h.run hb hx σ ts G H T hl hσ W k _ pins s I
theorem ww_of {e : Expr} {t : TT} (h : PW X e t) {σ : L2.St} {H : Hp} {Q : Bool → Hp → Prop} (q : t σ H Q) : WW X e σ H Q := fun wh pins s I => h.run wh pins s σ H Q I q
theorem jw_and1 (h : JT X en δ τ a C m) : JW X en δ τ (.BoolOp .And [a] pos) C m := .mk fun hb hx σ ts G H T hl hσ W k => ww_of (pw_and1 pt_wt) (h.run hb hx σ ts G H T hl hσ W k)
theorem jw_or1 (h : JT X en δ τ a C m) : JW X en δ τ (.BoolOp .Or [a] pos) C m := .mk fun hb hx σ ts G H T hl hσ W k => ww_of (pw_or1 pt_wt) (h.run hb hx σ ts G H T hl hσ W k)
theorem jw_and (h : JT X en δ τ a (fun c δ1 m1 => ∃ mB mF, m1 = (if c = true then mB else mF) ∧ JW X en δ1 τ (.BoolOp .And (b :: rest) pos) C mB ∧ C false δ1 mF) m) : JW X en δ τ (.BoolOp .And (a :: b :: rest) pos) C m := .mk fun hb hx σ ts G H T hl hσ W k => by
  refine ww_of (pw_and pt_wt pw_ww) ?_
  refine h.run hb hx σ ts G H _ hl hσ W fun c δ1 G1 H1 c1 hl1 W1 => ?_
  obtain ⟨mB, mF, em, h1, h2⟩ := c1
  cases c with
  | true =>
    have e : m = mB := em
    subst e
    exact h1.run hb hx σ ts G1 H1 T hl1 hσ W1 k
  | false =>
    have e : m = mF := em
    subst e
    exact k false δ1 G1 H1 h2 hl1 W1
theorem jw_or (h : JT X en δ τ a (fun c δ1 m1 => ∃ mT mB, m1 = (if c = true then mT else mB) ∧ C true δ1 mT ∧ JW X en δ1 τ (.BoolOp .Or (b :: rest) pos) C mB) m) : JW X en δ τ (.BoolOp .Or (a :: b :: rest) pos) C m := .mk fun hb hx σ ts G H T hl hσ W k => by
  refine ww_of (pw_or pt_wt pw_ww) ?_
  refine h.run hb hx σ ts G H _ hl hσ W fun c δ1 G1 H1 c1 hl1 W1 => ?_
  obtain ⟨mT, mB, em, h1, h2⟩ := c1
  cases c with
  | true =>
    have e : m = mT := em
    subst e
    exact k true δ1 G1 H1 h1 hl1 W1
  | false =>
    have e : m = mB := em
    subst e
    exact h2.run hb hx σ ts G1 H1 T hl1 hσ W1 k
theorem jt_not (h : JT X en δ τ a (fun c δ1 m1 => C (!c) δ1 m1) m) : JT X en δ τ (.UnaryOp .Not a pos) C m := .mk fun hb hx σ ts G H T hl hσ W k =>
  wt_of (pt_not pt_wt) (h.run hb hx σ ts G H (fun c H1 => T (!c) H1) hl hσ W fun c δ1 G1 H1 c1 hl1 W1 => k (!c) δ1 G1 H1 c1 hl1 W1)
end

/-! ### .. as values -/
/-- a slot's truth value, where it is one -/
def asB : D → Option Bool
  | .bl b => some b
  | _ => none
theorem VRep.asB {G H : Hp} {d : D} {v : V} {b : Bool} (h : asB d = some b) (r : VRep K G H d v) : v = .bl b := by
  cases d <;> first | cases h | skip
  exact r
section
variable {a b : Expr} {rest : List Expr} {pos : Pos}
theorem je_one {o} (h : JE X en δ τ a C m) : JE X en δ τ (.BoolOp o [a] pos) C m := .mk fun hb hx σ ts G H T hl hσ W k => we_of (pe_one pe_we) (h.run hb hx σ ts G H T hl hσ W k)
theorem je_and (h : JE X en δ τ a (fun s1 δ1 m1 => ∃ d k, s1.rd δ1 = some d ∧ m1 = op (asB d) k ∧ ∀ c, ∃ mB mF, k c = (if c = true then mB else mF) ∧ JE X en δ1 τ (.BoolOp .And (b :: rest) pos) C mB ∧ C (.fr (.bl false)) δ1 mF) m) : JE X en δ τ (.BoolOp .And (a :: b :: rest) pos) C m := .mk fun hb hx σ ts G H T hl hσ W k => by
  refine we_of (pe_and pe_we pe_we) ?_
  have ht : τ.length = ts.length := W.splitLen (hl.trans hσ.symm)
  refine h.run hb hx σ ts G H _ hl hσ W fun s1 δ1 v1 G1 H1 c1 hl1 W1 => ?_
  obtain ⟨d, k', e1, em, hk⟩ := c1
  have hb' := hb
  rw [em] at hb'
  obtain ⟨c, ec⟩ := op_some hb'
  have em' : m = k' c := by rw [em, ec]; rfl
  obtain ⟨⟨_, _, ez, r1, _⟩, Wn⟩ := Wd.ends (sls := [s1]) (vs := [v1]) W1 (hl1.trans hσ.symm) ht (ds := [d]) (by simp only [rds, e1])
  cases ez
  have ev := VRep.asB ec r1
  subst ev
  refine ⟨c, rfl, ?_⟩
  obtain ⟨mB, mF, ek, h1, h2⟩ := hk c
  have em2 := em'.trans ek
  cases c with
  | true =>
    have e : m = mB := em2
    subst e
    exact h1.run hb hx σ ts G1 H1 T hl1 hσ (Wn (by omega)) k
  | false =>
    have e : m = mF := em2
    subst e
    exact k _ δ1 _ G1 H1 h2 hl1 ((Wn (by omega)).out (Grow.refl W1.sub) (show Rep _ _ _ _ from rfl))
theorem je_or (h : JE X en δ τ a (fun s1 δ1 m1 => ∃ d k, s1.rd δ1 = some d ∧ m1 = op (asB d) k ∧ ∀ c, ∃ mT mB, k c = (if c = true then mT else mB) ∧ C (.fr (.bl true)) δ1 mT ∧ JE X en δ1 τ (.BoolOp .Or (b :: rest) pos) C mB) m) : JE X en δ τ (.BoolOp .Or (a :: b :: rest) pos) C m := .mk fun hb hx σ ts G H T hl hσ W k => by
  refine we_of (pe_or pe_we pe_we) ?_
  have ht : τ.length = ts.length := W.splitLen (hl.trans hσ.symm)
  refine h.run hb hx σ ts G H _ hl hσ W fun s1 δ1 v1 G1 H1 c1 hl1 W1 => ?_
  obtain ⟨d, k', e1, em, hk⟩ := c1
  have hb' := hb
  rw [em] at hb'
  obtain ⟨c, ec⟩ := op_some hb'
  have em' : m = k' c := by rw [em, ec]; rfl
  obtain ⟨⟨_, _, ez, r1, _⟩, Wn⟩ := Wd.ends (sls := [s1]) (vs := [v1]) W1 (hl1.trans hσ.symm) ht (ds := [d]) (by simp only [rds, e1])
  cases ez
  have ev := VRep.asB ec r1
  subst ev
  refine ⟨c, rfl, ?_⟩
  obtain ⟨mT, mB, ek, h1, h2⟩ := hk c
  have em2 := em'.trans ek
  cases c with
  | true =>
    have e : m = mT := em2
    subst e
    exact k _ δ1 _ G1 H1 h1 hl1 ((Wn (by omega)).out (Grow.refl W1.sub) (show Rep _ _ _ _ from rfl))
  | false =>
    have e : m = mB := em2
    subst e
    exact h2.run hb hx σ ts G1 H1 T hl1 hσ (Wn (by omega)) k
theorem je_not (h : JE X en δ τ a (fun s1 δ1 m1 => ∃ d k, s1.rd δ1 = some d ∧ m1 = op (asB d) k ∧ ∀ c, C (.fr (.bl (!c))) δ1 (k c)) m) : JE X en δ τ (.UnaryOp .Not a pos) C m := .mk fun hb hx σ ts G H T hl hσ W k => by
  refine we_of (pe_not pe_we) ?_
  have ht : τ.length = ts.length := W.splitLen (hl.trans hσ.symm)
  refine h.run hb hx σ ts G H _ hl hσ W fun s1 δ1 v1 G1 H1 c1 hl1 W1 => ?_
  obtain ⟨d, k', e1, em, hk⟩ := c1
  have hb' := hb
  rw [em] at hb'
  obtain ⟨c, ec⟩ := op_some hb'
  have em' : m = k' c := by rw [em, ec]; rfl
  obtain ⟨⟨_, _, ez, r1, _⟩, Wn⟩ := Wd.ends (sls := [s1]) (vs := [v1]) W1 (hl1.trans hσ.symm) ht (ds := [d]) (by simp only [rds, e1])
  cases ez
  have ev := VRep.asB ec r1
  subst ev
  refine ⟨c, rfl, k (.fr (.bl (!c))) δ1 (.bl (!c)) G1 H1 ?_ hl1 ((Wn (by omega)).out (Grow.refl W1.sub) (show Out X.K G1 H1 G1 H1 (.fr (.bl (!c))) (.bl (!c)) from rfl))⟩
  have := hk c
  rw [← em'] at this
  exact this
theorem je_if {c : Expr} (h : JT X en δ τ c (fun t δ1 m1 => ∃ mA mB, m1 = (if t = true then mA else mB) ∧ JE X en δ1 τ a C mA ∧ JE X en δ1 τ b C mB) m) : JE X en δ τ (.IfExp c a b pos) C m := .mk fun hb hx σ ts G H T hl hσ W k => by
  refine we_of (pe_ifExp pt_wt pe_we pe_we) ?_
  refine h.run hb hx σ ts G H _ hl hσ W fun t δ1 G1 H1 c1 hl1 W1 => ?_
  obtain ⟨mA, mB, em, h1, h2⟩ := c1
  cases t with
  | true =>
    have e : m = mA := em
    subst e
    exact iteT (h1.run hb hx σ ts G1 H1 T hl1 hσ W1 k)
  | false =>
    have e : m = mB := em
    subst e
    exact iteF (h2.run hb hx σ ts G1 H1 T hl1 hσ W1 k)
end

/-! ### joins -/
theorem bind_exc {α : Type} {m1 : Res α} {k : α → Res R} (hb : m1.bind k ≠ .bad) (hx : en.HX (m1.bind k).exc) : m1 ≠ .bad ∧ en.HX m1.exc := by
  match m1, hb, hx with
  | .ok a, _, _ => exact ⟨(fun h => nomatch h), en.h0⟩
  | .raise x, _, hx => exact ⟨(fun h => nomatch h), hx⟩
  | .bad, hb, _ => exact (hb rfl).elim
theorem je_join {α : Type} {e : Expr} (ps : α → Slot) (pe : α → List Slot) {m1 : Res α} {k : α → Res R} (h : JE X en δ τ e (fun sl δ' m' => ∃ a, m' = .ok a ∧ sl = ps a ∧ δ' = pe a) m1) (hk : ∀ a, C (ps a) (pe a) (k a)) : JE X en δ τ e C (m1.bind k) := .mk fun hb hx σ ts G H T hl hσ W q => by
  obtain ⟨hb1, hx1⟩ := bind_exc hb hx
  refine h.run hb1 hx1 σ ts G H T hl hσ W fun sl δ' v G' H' c hl' W' => ?_
  obtain ⟨a, e1, e2, e3⟩ := c
  subst e1 e2 e3
  exact q _ _ v G' H' (hk a) hl' W'
theorem jt_join {α : Type} {C : Bool → List Slot → Res R → Prop} {e : Expr} (ps : α → Bool) (pe : α → List Slot) {m1 : Res α} {k : α → Res R} (h : JT X en δ τ e (fun sl δ' m' => ∃ a, m' = .ok a ∧ sl = ps a ∧ δ' = pe a) m1) (hk : ∀ a, C (ps a) (pe a) (k a)) : JT X en δ τ e C (m1.bind k) := .mk fun hb hx σ ts G H T hl hσ W q => by
  obtain ⟨hb1, hx1⟩ := bind_exc hb hx
  refine h.run hb1 hx1 σ ts G H T hl hσ W fun sl δ' G' H' c hl' W' => ?_
  obtain ⟨a, e1, e2, e3⟩ := c
  subst e1 e2 e3
  exact q _ _ G' H' (hk a) hl' W'
end
end BR

/-! K5: targets, statements, loops -/
namespace BR
open PySem PySem.Spec PyProof.Rows L2

/-- the second tells no more than the first -/
def Le : List Slot → List Slot → Prop
  | [], [] => True
  | a :: r, b :: q => (b = .un ∨ a = b) ∧ Le r q
  | _, _ => False
theorem Le.len : ∀ {a b : List Slot}, Le a b → a.length = b.length
  | [], [], _ => rfl
  | _ :: _, _ :: _, h => by rw [List.length_cons, List.length_cons, Le.len h.2]
  | [], _ :: _, h => h.elim
  | _ :: _, [], h => h.elim
theorem Le.get : ∀ {a b : List Slot} {i : Nat} {s : Slot}, Le a b → b[i]? = some s → s = .un ∨ a[i]? = some s
  | [], [], i, s, _, h => by simp at h
  | x :: _, y :: _, 0, s, h, e => by
    have e' : y = s := by simpa using e
    subst e'
    rcases h.1 with z | z
    · exact .inl z
    · subst z; exact .inr rfl
  | _ :: _, _ :: _, i + 1, s, h, e => by
    have := Le.get (i := i) (s := s) h.2 (by simpa using e)
    simpa using this
  | [], _ :: _, _, _, h, _ => h.elim
  | _ :: _, [], _, _, h, _ => h.elim
theorem Le.refl : ∀ a : List Slot, Le a a
  | [] => trivial
  | _ :: r => ⟨.inr rfl, Le.refl r⟩
theorem Wd.le {K : PySem.W.Frag} {en : Kn} {δ δ' : List Slot} {S : L2.St} {G H : Hp} (W : Wd K en δ S G H) (h : Le δ δ') : Wd K en δ' S G H where
  len := h.len.symm.trans W.len
  sub := W.sub
  ext := W.ext
  new := W.new
  frm := W.frm
  stay := W.stay
  nd := W.nd
  slot := fun i sl o h1 h2 => by
    rcases h.get h1 with z | z
    · subst z; trivial
    · exact W.slot i sl o z h2
  apart := fun i j p h1 h2 => by
    have key : ∀ (i : Nat), Own δ' S i p → Own δ S i p := fun i ⟨sl, e1, e2, e3⟩ => by
      rcases h.get e1 with z | z
      · subst z; cases e2
      · exact ⟨sl, z, e2, e3⟩
    exact W.apart i j p (key i h1) (key j h2)

def noBo : List Slot → Bool
  | [] => true
  | .bo _ :: _ => false
  | _ :: r => noBo r
theorem noBo_get : ∀ {δ : List Slot} {i j : Nat}, noBo δ = true → δ[i]? ≠ some (.bo j)
  | [], i, j, _ => by simp
  | .bo _ :: _, _, _, h => nomatch h
  | .un :: r, 0, j, h => by simp
  | .fr _ :: r, 0, j, h => by simp
  | .mu _ :: r, 0, j, h => by simp
  | .mp _ _ :: r, 0, j, h => by simp
  | .bw _ :: r, 0, j, h => by simp
  | .un :: r, i + 1, j, h => by simpa using noBo_get (δ := r) (i := i) (j := j) h
  | .fr _ :: r, i + 1, j, h => by simpa using noBo_get (δ := r) (i := i) (j := j) h
  | .mu _ :: r, i + 1, j, h => by simpa using noBo_get (δ := r) (i := i) (j := j) h
  | .mp _ _ :: r, i + 1, j, h => by simpa using noBo_get (δ := r) (i := i) (j := j) h
  | .bw _ :: r, i + 1, j, h => by simpa using noBo_get (δ := r) (i := i) (j := j) h
/-- what a name may be given -/
def Slot.may : Slot → Bool
  | .fr _ => true
  | .mu _ => true
  | .bw _ => true
  | _ => false
section
variable {X : Cx} {en : Kn} {δ : List Slot} {R : Type} {m : Res R} {K : PySem.W.Frag}
/-- a name is given the last thing at hand -/
theorem Wd.give {s : Slot} {v : V} {σ : L2.St} {G H : Hp} (W : Wd K en (δ ++ [s]) (σ ++ [some v]) G H) (hl : δ.length = σ.length) (hb : noBo δ = true) (hs : s.may = true) (i : Nat) : Wd K en (δ.set i s) (σ.set i (some v)) G H := by
  have last := W.last
  have get1 : ∀ (j : Nat) sl o, (δ.set i s)[j]? = some sl → (σ.set i (some v))[j]? = some o → (j = i ∧ sl = s ∧ o = some v) ∨ (j ≠ i ∧ δ[j]? = some sl ∧ σ[j]? = some o) := fun j sl o h1 h2 => by
    by_cases hj : j = i
    · subst hj
      have hi : j < δ.length := by
        have := (List.getElem?_eq_some_iff.mp h1).1
        rw [List.length_set] at this; exact this
      rw [List.getElem?_set_self hi] at h1
      rw [List.getElem?_set_self (by omega)] at h2
      exact .inl ⟨rfl, (Option.some.inj h1).symm, (Option.some.inj h2).symm⟩
    · rw [List.getElem?_set_ne (Ne.symm hj)] at h1 h2
      exact .inr ⟨hj, h1, h2⟩
  have up : ∀ (j : Nat) sl o, δ[j]? = some sl → σ[j]? = some o → (δ ++ [s])[j]? = some sl ∧ (σ ++ [some v])[j]? = some o := fun j sl o h1 h2 =>
    ⟨by rw [List.getElem?_append_left (List.getElem?_eq_some_iff.mp h1).1]; exact h1, by rw [List.getElem?_append_left (List.getElem?_eq_some_iff.mp h2).1]; exact h2⟩
  refine ⟨by rw [List.length_set, List.length_set]; exact hl, W.sub, W.ext, W.new, W.frm, W.stay, W.nd, fun j sl o h1 h2 => ?_, fun j j' p h1 h2 => ?_⟩
  · rcases get1 j sl o h1 h2 with ⟨e1, e2, e3⟩ | ⟨hj, h3, h4⟩
    · subst e2 e3
      cases sl with
      | un => trivial
      | fr d => exact last
      | mu d => exact last
      | mp _ d => cases hs
      | bw d => exact last
      | bo _ => cases hs
    · obtain ⟨h5, h6⟩ := up j sl o h3 h4
      have q := W.slot j sl o h5 h6
      cases sl with
      | un => trivial
      | fr d => exact q
      | mu d => exact q
      | mp _ d => exact q
      | bw d => exact q
      | bo l => exact (noBo_get hb h3).elim
  · have key : ∀ (j : Nat), Own (δ.set i s) (σ.set i (some v)) j p → (j = i ∧ Own (δ ++ [s]) (σ ++ [some v]) δ.length p) ∨ (j ≠ i ∧ j < δ.length ∧ Own (δ ++ [s]) (σ ++ [some v]) j p) := fun j ⟨sl, e1, e2, e3⟩ => by
      rcases get1 j _ _ e1 e3 with ⟨f1, f2, f3⟩ | ⟨hj, f2, f3⟩
      · subst f2
        exact .inl ⟨f1, sl, getElem?_last, e2, by rw [hl, ← f3]; exact getElem?_last⟩
      · obtain ⟨u1, u2⟩ := up j _ _ f2 f3
        exact .inr ⟨hj, (List.getElem?_eq_some_iff.mp f2).1, sl, u1, e2, u2⟩
    rcases key j h1 with ⟨e1, q1⟩ | ⟨e1, l1, q1⟩ <;> rcases key j' h2 with ⟨e2, q2⟩ | ⟨e2, l2, q2⟩
    · rw [e1, e2]
    · have := W.apart _ _ p q1 q2
      omega
    · have := W.apart _ _ p q1 q2
      omega
    · exact W.apart _ _ p q1 q2

/-! ### targets -/
/-- changed at these places alone -/
def Only (is : List Nat) (σ σ' : L2.St) : Prop := ∀ j : Nat, j ∉ is → σ'[j]? = σ[j]?
/-- a target given a thing that stands fast; is: the places of the names -/
structure JG (X : Cx) (en : Kn) (δ τ : List Slot) (tg : Expr) (d : D) (is : List Nat) {R : Type} (N : List Slot → Res R → Prop) (m : Res R) : Prop where
  run : m ≠ .bad → en.HX m.exc → ∀ (σ ts : L2.St) (G H : Hp) (v : V) (T : L2.St → Hp → Prop), δ.length = en.n → σ.length = en.n → Wd X.K en (δ ++ τ) (σ ++ ts) G H → Rep X.K G d v →
    (∀ δ' σ' G' H', N δ' m → δ'.length = en.n → σ'.length = en.n → Wd X.K en (δ' ++ τ) (σ' ++ ts) G' H' → Sub G G' → Only is σ σ' → T σ' H') → WG X tg v σ H T
structure JGs (X : Cx) (en : Kn) (δ τ : List Slot) (tgs : List Expr) (ds : List D) (is : List Nat) {R : Type} (N : List Slot → Res R → Prop) (m : Res R) : Prop where
  run : m ≠ .bad → en.HX m.exc → ∀ (σ ts : L2.St) (G H : Hp) (vs : List V) (T : L2.St → Hp → Prop), δ.length = en.n → σ.length = en.n → Wd X.K en (δ ++ τ) (σ ++ ts) G H → Reps X.K G ds vs →
    (∀ δ' σ' G' H', N δ' m → δ'.length = en.n → σ'.length = en.n → Wd X.K en (δ' ++ τ) (σ' ++ ts) G' H' → Sub G G' → Only is σ σ' → T σ' H') →
    ∀ (pins : List (Addr × Obj)) (s : Shared) (us : List Value), Inv X pins σ H s → Vals vs us → wpAny (model X.prog X.w) X.A (assignInOrder ((assignEach tgs X.env).map (·.2)) us) (fun _ s' => ∃ σ' H', Inv X pins σ' H' s' ∧ T σ' H') X.xe s
theorem wg_of {tg : Expr} {t : TG} (h : PG X tg t) {v : V} {σ : L2.St} {H : Hp} {Q : L2.St → Hp → Prop} (q : t v σ H Q) : WG X tg v σ H Q := fun pins s u I r => h.run pins s σ H v u Q I r q
section
variable {N : List Slot → Res R → Prop} {τ : List Slot}
theorem jg_name (i : Nat) {x : Str} {pos : Pos} {d : D} (δ' : List Slot) (hN : X.N.Nodup) (h : N δ' m) (he : δ.set i (.fr d) = δ' := by rfl) (hb : noBo (δ ++ τ) = true := by rfl) (hi : X.N[i]? = some x := by rfl) (hil : (i + 1).ble δ.length = true := by rfl) (hx : Loc X.env.scope x := by first | exact Or.inl rfl | exact Or.inr rfl)
    (hf : X.fn x = true ∨ X.env.scope.names.lookup x = some .local := by first | exact .inl rfl | exact .inr rfl) : JG X en δ τ (.Name x pos) d [i] N m := .mk fun hb' hx' σ ts G H v T hl hσ W r k => by
  subst he
  have hi' : i < δ.length := Nat.le_of_ble_eq_true hil
  have W2 := (W.out (sl := .fr d) (v := v) (Grow.refl W.sub) r).give W.len hb rfl i
  rw [List.set_append_left _ _ hi', List.set_append_left _ _ (by omega)] at W2
  exact wg_of (pg_name hN hi hx hf) (k _ _ G H h (by rw [List.length_set]; exact hl) (by rw [List.length_set]; exact hσ) W2 (Sub.refl _) fun j hj => List.getElem?_set_ne fun e => hj (by rw [e]; exact List.mem_cons_self))
theorem jgs_nil (h : N δ m) : JGs X en δ τ [] [] [] N m := .mk fun hb hx σ ts G H vs T hl hσ W r k pins s us I rv => by
  rw [show vs = [] from r] at rv
  cases rv
  exact assignInOrder_nil ⟨σ, H, I, k δ σ G H h hl hσ W (Sub.refl _) fun _ _ => rfl⟩
theorem jgs_cons {e : Expr} {es : List Expr} {d : D} {ds : List D} {is js : List Nat} (h : JG X en δ τ e d is (fun δ1 m1 => JGs X en δ1 τ es ds js N m1) m)
    (hs : (assignEach (e :: es) X.env).map (·.2) = assign e X.env :: (assignEach es X.env).map (·.2) := by rfl) : JGs X en δ τ (e :: es) (d :: ds) (is ++ js) N m := .mk fun hb hx σ ts G H vs T hl hσ W r k pins s us I rv => by
  obtain ⟨v, vr, e1, r1, r2⟩ := r
  subst e1
  cases rv with
  | cons q qq =>
    rw [hs]
    refine assignInOrder_cons (thn ((h.run hb hx σ ts G H v (fun σ1 H1 => ∃ δ1 G1, JGs X en δ1 τ es ds js N m ∧ δ1.length = en.n ∧ σ1.length = en.n ∧ Wd X.K en (δ1 ++ τ) (σ1 ++ ts) G1 H1 ∧ Sub G G1 ∧ Only is σ σ1) hl hσ W r1 fun δ1 σ1 G1 H1 c hl1 hσ1 W1 sb on => ⟨δ1, G1, c, hl1, hσ1, W1, sb, on⟩) pins s _ I q) fun _ s1 ⟨σ1, H1, I1, δ1, G1, c, hl1, hσ1, W1, sb, on⟩ => ?_)
    exact c.run hb hx σ1 ts G1 H1 vr T hl1 hσ1 W1 (Reps.sub sb _ _ r2) (fun δ' σ' G' H' c' hl' hσ' W' sb' on' => k δ' σ' G' H' c' hl' hσ' W' (sb.trans sb') fun j hj => (on' j fun z => hj (List.mem_append_right _ z)).trans (on j fun z => hj (List.mem_append_left _ z))) pins s1 _ I1 qq
/-- (a, b, ..) -/
def unp (n : Nat) : D → Option (List D)
  | .tup ds => if ds.length = n then some ds else none
  | _ => none
theorem unp_some {n : Nat} : ∀ {d : D} {ds : List D}, unp n d = some ds → ∃ ds', d = .tup ds' ∧ ds'.length = n ∧ ds' = ds
  | .tup ds', ds, h => by
    have h' : (if ds'.length = n then some ds' else none) = some ds := h
    by_cases hn : ds'.length = n
    · rw [if_pos hn] at h'
      exact ⟨ds', rfl, hn, Option.some.inj h'⟩
    · rw [if_neg hn] at h'; cases h'
  | .non, _, h => nomatch h
  | .bl _, _, h => nomatch h
  | .int _, _, h => nomatch h
  | .str _, _, h => nomatch h
  | .lst _, _, h => nomatch h
  | .dic _, _, h => nomatch h
  | .scr _, _, h => nomatch h
  | .exc _ _, _, h => nomatch h
  | .obj _ _, _, h => nomatch h
theorem jg_tup {es : List Expr} {k : Nat} {pos : Pos} {d : D} {n : Nat} {is : List Nat} (hc : X.calm = true) (h : ∃ k', m = op (unp n d) k' ∧ ∀ ds, ds.length = n → JGs X en δ τ es ds is N (k' ds))
    (hn : (assignEach es X.env).length = n := by rfl) (hst : (assignEach es X.env).findIdx? (·.1) = none := by rfl) : JG X en δ τ (.Tuple es k pos) d is N m := .mk fun hb hx σ ts G H v T hl hσ W r q => by
  obtain ⟨k', em, hk⟩ := h
  have hb' := hb
  rw [em] at hb'
  obtain ⟨ds, ed⟩ := op_some hb'
  have em' : m = k' ds := by rw [em, ed]; rfl
  obtain ⟨ds', e0, hlen, e1⟩ := unp_some ed
  subst e0 e1
  have hk2 := hk _ hlen
  rw [← em'] at hk2
  refine wg_of (pg_tup (t := fun vs σ H Q => ∀ (pins : List (Addr × Obj)) (s : Shared) (us : List Value), Inv X pins σ H s → Vals vs us → wpAny (model X.prog X.w) X.A (assignInOrder ((assignEach es X.env).map (·.2)) us) (fun _ s' => ∃ σ' H', Inv X pins σ' H' s' ∧ Q σ' H') X.xe s)
    hc ⟨fun pins s σ H vs us Q I r h => h pins s us I r⟩ hn hst) ?_
  obtain ⟨a, vs, e1, q1, r1⟩ := r
  subst e1
  exact ⟨a, vs, rfl, SqT.sub W.sub q1, by rw [← r1.length]; exact hlen, hk2.run hb hx σ ts G H vs T hl hσ W r1 q⟩
end

/-! ### statements -/
section
variable {N : List Slot → Res R → Prop} {RT : Slot → List Slot → Res R → Prop} {BK CT : List Slot → Res R → Prop} {pos : Pos}
theorem Wd.one {s : Slot} {v : V} {σ : L2.St} {G H : Hp} (W : Wd K en (δ ++ [s]) (σ ++ [some v]) G H) (hl : δ.length = en.n) (hσ : σ.length = en.n) : Wd K en δ σ G H := W.cut (hl.trans hσ.symm) (by omega)
theorem Wd.sl (W : Wd K en δ σ G H) (hl : δ.length = en.n) : List.length σ = en.n := W.len.symm.trans hl
/-- JE at a statement: nothing at hand -/
theorem JE.at {e : Expr} {C : Slot → List Slot → Res R → Prop} (h : JE X en δ [] e C m) (hb : m ≠ .bad) (hx : en.HX m.exc) {σ : L2.St} {G H : Hp} {T : VK} (hl : δ.length = en.n) (W : Wd X.K en δ σ G H)
    (k : ∀ sl δ' v G' H', C sl δ' m → δ'.length = en.n → Wd X.K en (δ' ++ [sl]) (σ ++ [some v]) G' H' → T v H') : WE X e σ H T :=
  h.run hb hx σ [] G H T hl (W.sl hl) (by rw [List.append_nil, List.append_nil]; exact W) fun sl δ' v G' H' c hl' W' => k sl δ' v G' H' c hl' (by rw [List.append_nil, List.append_nil] at W'; exact W')
theorem JT.at {e : Expr} {C : Bool → List Slot → Res R → Prop} (h : JT X en δ [] e C m) (hb : m ≠ .bad) (hx : en.HX m.exc) {σ : L2.St} {G H : Hp} {T : Bool → Hp → Prop} (hl : δ.length = en.n) (W : Wd X.K en δ σ G H)
    (k : ∀ b δ' G' H', C b δ' m → δ'.length = en.n → Wd X.K en δ' σ G' H' → T b H') : WT X e σ H T :=
  h.run hb hx σ [] G H T hl (W.sl hl) (by rw [List.append_nil, List.append_nil]; exact W) fun sl δ' G' H' c hl' W' => k sl δ' G' H' c hl' (by rw [List.append_nil, List.append_nil] at W'; exact W')
theorem jss_never {st : List Stmt} : JSs X en δ st N RT BK CT (.bad : Res R) := .mk fun hb => (hb rfl).elim
theorem jss_nil (h : N δ m) : JSs X en δ [] N RT BK CT m := .mk fun hb hx σ G H E hl W k1 k2 k3 k4 => wss_of pss_nil (k1 δ σ G H h hl W)
theorem jss_cons {st : Stmt} {rest : List Stmt} (h : JS X en δ st (fun δ1 m1 => JSs X en δ1 rest N RT BK CT m1) RT BK CT m) : JSs X en δ (st :: rest) N RT BK CT m := .mk fun hb hx σ G H E hl W k1 k2 k3 k4 =>
  wss_of (pss_cons ps_ws pss_wss) (h.run hb hx σ G H _ hl W (fun δ' σ' G' H' c hl' W' => c.run hb hx σ' G' H' E hl' W' k1 k2 k3 k4) k2 k3 k4)
theorem jss_one {st : Stmt} (h : JS X en δ st N RT BK CT m) : JSs X en δ [st] N RT BK CT m := .mk fun hb hx σ G H E hl W k1 k2 k3 k4 =>
  wss_of (pss_one ps_ws) (h.run hb hx σ G H E hl W k1 k2 k3 k4)
theorem js_expr {e : Expr} (h : JE X en δ [] e (fun s δ1 m1 => N δ1 m1) m) (hs : swapsWith e none pos.line X.env = pure false := by rfl) : JS X en δ (.Expr e pos) N RT BK CT m := .mk fun hb hx σ G H E hl W k1 k2 k3 k4 =>
  ws_of (ps_expr pe_we hs) (h.at hb hx hl W fun sl δ' v G' H' c hl' W' => k1 δ' σ G' H' c hl' (W'.one hl' (W.sl hl)))
/-- name = e -/
theorem js_set (i : Nat) {x : Str} {e : Expr} {pos' : Pos} (hN : X.N.Nodup) (h : JE X en δ [] e (fun s δ1 m1 => ∃ δ', δ1.set i s = δ' ∧ s.may = true ∧ noBo δ1 = true ∧ N δ' m1) m) (hi : X.N[i]? = some x := by rfl) (hx : Loc X.env.scope x := by first | exact Or.inl rfl | exact Or.inr rfl)
    (hs : swapsWith e (some (.Name x pos')) pos.line X.env = pure false := by rfl) (hf : X.fn x = true ∨ X.env.scope.names.lookup x = some .local := by first | exact .inl rfl | exact .inr rfl) : JS X en δ (.Assign [.Name x pos'] e pos) N RT BK CT m := .mk fun hb hx' σ G H E hl W k1 k2 k3 k4 =>
  ws_of (ps_set hN hi hx pe_we hs hf) (h.at hb hx' hl W fun sl δ1 v G' H' ⟨δ', e1, e2, e3, c⟩ hl' W' => by
    subst e1
    exact k1 _ _ G' H' c (by rw [List.length_set]; exact hl') (W'.give (hl'.trans (W.sl hl).symm) e3 e2 i))
/-- target = e, e standing fast -/
theorem js_asg {tg e : Expr} (h : JE X en δ [] e (fun s δ1 m1 => ∃ d is, s = .fr d ∧ JG X en δ1 [] tg d is N m1) m) (hs : swapsWithSole [tg] e pos.line X.env = pure false := by rfl) (hw : swappedStores [tg] e X.env = pure none := by rfl)
    (h1 : (assignEach [tg] X.env).map (·.2) = [assign tg X.env] := by rfl) : JS X en δ (.Assign [tg] e pos) N RT BK CT m := .mk fun hb hx' σ G H E hl W k1 k2 k3 k4 =>
  ws_of (ps_asg pe_we pg_wg hs hw h1) (h.at hb hx' hl W fun sl δ1 v G' H' ⟨d, is, e1, c⟩ hl' W' => by
    subst e1
    obtain ⟨v', e, r⟩ := W'.last
    cases e
    exact c.run hb hx' σ [] G' H' v _ hl' (W.sl hl) (by rw [List.append_nil, List.append_nil]; exact W'.one hl' (W.sl hl)) r fun δ2 σ2 G2 H2 c2 hl2 _ W2 _ _ => k1 δ2 σ2 G2 H2 c2 hl2 (by rw [List.append_nil, List.append_nil] at W2; exact W2))
theorem js_ret {e : Expr} (h : JE X en δ [] e (fun s δ1 m1 => RT s δ1 m1) m) : JS X en δ (.Return (some e) pos) N RT BK CT m := .mk fun hb hx' σ G H E hl W k1 k2 k3 k4 =>
  ws_of (ps_ret pe_we) (h.at hb hx' hl W fun sl δ1 v G' H' c hl' W' => k2 sl δ1 v σ G' H' c hl' W')
theorem js_if {c : Expr} {A B : List Stmt} (h : JT X en δ [] c (fun t δ1 m1 => ∃ mA mB, m1 = (if t = true then mA else mB) ∧ JSs X en δ1 A N RT BK CT mA ∧ JSs X en δ1 B N RT BK CT mB) m) : JS X en δ (.If c A B pos) N RT BK CT m := .mk fun hb hx' σ G H E hl W k1 k2 k3 k4 =>
  ws_of (ps_if pt_wt pss_wss pss_wss) (h.at hb hx' hl W fun t δ1 G1 H1 ⟨mA, mB, em, h1, h2⟩ hl1 W1 => by
    cases t with
    | true =>
      have e : m = mA := em
      subst e
      exact iteT (h1.run hb hx' σ G1 H1 E hl1 W1 k1 k2 k3 k4)
    | false =>
      have e : m = mB := em
      subst e
      exact iteF (h2.run hb hx' σ G1 H1 E hl1 W1 k1 k2 k3 k4))
/-- .. where nothing leaves within -/
theorem js_joinS {S : Type} {st : Stmt} (pe : S → List Slot) {m1 : Res S} {k : S → Res R}
    (h : JS X en δ st (fun δ' m' => ∃ a, m' = .ok a ∧ Le δ' (pe a)) (fun _ _ _ => False) (fun _ _ => False) (fun _ _ => False) m1)
    (hk : ∀ a, N (pe a) (k a)) : JS X en δ st N RT BK CT (m1.bind k) := .mk fun hb hx σ G H E hl W k1 k2 k3 k4 => by
  obtain ⟨hb1, hx1⟩ := bind_exc hb hx
  refine h.run hb1 hx1 σ G H E hl W (fun δ' σ' G' H' ⟨a, e1, le⟩ hl' W' => ?_) (fun s δ' v σ' G' H' c hl' W' => c.elim) (fun δ' σ' G' H' c hl' W' => c.elim) (fun δ' σ' G' H' c hl' W' => c.elim)
  subst e1
  exact k1 _ σ' G' H' (hk a) (le.len.symm.trans hl') (W'.le le)
end

/-! ### what is walked -/
def ItD (K : PySem.W.Frag) (J : It) (Gb Fb : Hp) (ds : List D) : Prop := ∀ (G H : Hp), Sub Gb G → Sub Fb H → Sub G H → ∀ i : Nat,
  (∀ d, ds[i]? = some d → J.go i H ∧ ∀ x H', J.yld i H x H' → ∃ G', Grow G H G' H' ∧ Rep K G' d x) ∧ (ds.length ≤ i → J.stop i H)
structure JI (X : Cx) (en : Kn) (δ τ : List Slot) (tg iter : Expr) {R : Type} (C : List D → List Slot → Res R → Prop) (m : Res R) : Prop where
  run : m ≠ .bad → en.HX m.exc → ∀ (σ ts : L2.St) (G H : Hp) (T : It → Hp → Prop), δ.length = en.n → σ.length = en.n → Wd X.K en (δ ++ τ) (σ ++ ts) G H →
    (∀ ds δ' J G' H', C ds δ' m → δ'.length = en.n → Wd X.K en (δ' ++ τ) (σ ++ ts) G' H' → ItD X.K J G' en.F0 ds → T J H') → WI X tg iter σ H T
/-- a list's or a tuple's items -/
def asL : D → Option (List D)
  | .lst ds => some ds
  | .tup ds => some ds
  | .scr ns => some (ns.map D.int)
  | _ => none
def Slot.stb : Slot → Option D
  | .fr d => some d
  | .bw d => some d
  | _ => none
def iAny (K : PySem.W.Frag) (tl : TE) : TI := fun σ H R => tl σ H fun x H1 => (∃ a, x = .ref a ∧ (∃ xs, SqL K H1 a xs) ∧ R (Itl K a) H1) ∨ ∃ a, x = .ref a ∧ (∃ xs, SqT K H1 a xs) ∧ R (Itt K a) H1
theorem pi_any {tg l : Expr} {tl : TE} (hl : PE X l tl) : PI X tg l (iAny X.K tl) := by
  refine ⟨fun pins s σ H R I h => ?_⟩
  refine thn (hl.run pins s σ H _ I h) fun v s1 ⟨x, H1, I1, r1, q1⟩ => ?_
  rcases q1 with ⟨a, e, ⟨xs, hq⟩, q⟩ | ⟨a, e, ⟨xs, hq⟩, q⟩
  · subst e
    cases r1
    obtain ⟨its, rv, p, hz⟩ := I1.list hq
    refine wpAny_pyIter_list p.isList ?_
    refine ⟨s1.heap.objs.size, [s1.heap.objs.size], _, _, H1, rfl, I1.kept (t' := s1.toks) fun b o e => Heap.get?_push_of_some _ e, turn_list a _, ⟨_, Heap.get?_push_size _ rfl, rfl, rfl⟩, fun b hb => ?_, q⟩
    have e : b = s1.heap.objs.size := by simpa using hb
    subst e
    exact I1.fpOk (Nat.le_refl _) (I1.hok.fresh (Nat.le_refl _))
  · subst e
    cases r1
    obtain ⟨its, rv, p, hz⟩ := I1.tuple hq
    refine wpAny_pyIter_tuple (show s1.heap.IsTuple a its.toArray from p) ?_
    refine ⟨s1.heap.objs.size, [s1.heap.objs.size], _, _, H1, rfl, I1.kept (t' := s1.toks) fun b o e => Heap.get?_push_of_some _ e, turn_tuple a _, ⟨_, Heap.get?_push_size _ rfl, rfl, rfl⟩, fun b hb => ?_, q⟩
    have e : b = s1.heap.objs.size := by simpa using hb
    subst e
    exact I1.fpOk (Nat.le_refl _) (I1.hok.fresh (Nat.le_refl _))
theorem itl_D {a : Addr} {vs : List V} {ds : List D} {Gb Fb : Hp} (h : ∀ H, Sub Fb H → Sub Gb H → SqL K H a vs) (r : Reps K Gb ds vs) : ItD K (Itl K a) Gb Fb ds := fun G H sg sf gh i => by
  have hq := h H sf (sg.trans gh)
  refine ⟨fun d e => ?_, fun hi => ⟨vs, hq, by rw [← r.length]; exact hi⟩⟩
  obtain ⟨x, h1, h2⟩ := r.get e
  refine ⟨⟨vs, x, hq, h1⟩, fun y H' hy => ?_⟩
  obtain ⟨e1, e2⟩ := hy
  subst e1
  have := e2 vs hq
  rw [h1] at this
  cases this
  exact ⟨G, Grow.refl gh, Rep.sub sg _ _ h2⟩
theorem itt_D {a : Addr} {vs : List V} {ds : List D} {Gb Fb : Hp} (h : ∀ H, Sub Fb H → Sub Gb H → SqT K H a vs) (r : Reps K Gb ds vs) : ItD K (Itt K a) Gb Fb ds := fun G H sg sf gh i => by
  have hq := h H sf (sg.trans gh)
  refine ⟨fun d e => ?_, fun hi => ⟨vs, hq, by rw [← r.length]; exact hi⟩⟩
  obtain ⟨x, h1, h2⟩ := r.get e
  refine ⟨⟨vs, x, hq, h1⟩, fun y H' hy => ?_⟩
  obtain ⟨e1, e2⟩ := hy
  subst e1
  have := e2 vs hq
  rw [h1] at this
  cases this
  exact ⟨G, Grow.refl gh, Rep.sub sg _ _ h2⟩
theorem ints_reps {G : Hp} : ∀ ns : List Int, Reps K G (ns.map D.int) (ns.map V.int)
  | [] => rfl
  | n :: ns => ⟨_, _, rfl, rfl, ints_reps ns⟩
/-- over a list or a tuple that isn't changed meanwhile -/
theorem ji_any {τ : List Slot} {tg e : Expr} {C : List D → List Slot → Res R → Prop} (h : JE X en δ τ e (fun s δ1 m1 => ∃ d k, s.stb = some d ∧ m1 = op (asL d) k ∧ ∀ ds, C ds δ1 (k ds)) m) : JI X en δ τ tg e C m := .mk fun hb hx σ ts G H T hl hσ W k => by
  refine wi_of (pi_any pe_we) ?_
  have ht : τ.length = ts.length := W.splitLen (hl.trans hσ.symm)
  refine h.run hb hx σ ts G H _ hl hσ W fun s δ1 v G1 H1 c1 hl1 W1 => ?_
  obtain ⟨d, k', e1, em, hk⟩ := c1
  have hb' := hb
  rw [em] at hb'
  obtain ⟨ds, ed⟩ := op_some hb'
  have em' : m = k' ds := by rw [em, ed]; rfl
  have hk2 := hk ds
  rw [← em'] at hk2
  have W2 := W1.cut (Δ := δ1 ++ τ) (S := σ ++ ts) (by rw [List.length_append, List.length_append]; omega) (by rw [List.length_append]; omega)
  have q := W1.last
  have key : ∀ d', VRep X.K G1 H1 d' v → d' = d → (∀ a vs, v = .ref a → SqL X.K H1 a vs → (∀ H, Sub en.F0 H → Sub G1 H → SqL X.K H a vs) ∨ True) → True := fun _ _ _ _ => trivial
  cases s with
  | un => cases e1
  | mu _ => cases e1
  | mp _ _ => cases e1
  | bo _ => cases e1
  | fr d' =>
    cases e1
    obtain ⟨u, eu, r⟩ := q
    cases eu
    cases d <;> first | cases ed | skip
    · obtain ⟨a, vs, e, q, r'⟩ := r
      subst e
      exact .inl ⟨a, rfl, ⟨vs, SqL.sub W2.sub (SqL.of q)⟩, k _ δ1 _ G1 H1 hk2 hl1 W2 (itl_D (fun H _ s => SqL.sub s (SqL.of q)) r')⟩
    · obtain ⟨a, vs, e, q, r'⟩ := r
      subst e
      exact .inr ⟨a, rfl, ⟨vs, SqT.sub W2.sub q⟩, k _ δ1 _ G1 H1 hk2 hl1 W2 (itt_D (fun H _ s => SqT.sub s q) r')⟩
    · obtain ⟨a, e, q⟩ := r
      subst e
      exact .inl ⟨a, rfl, ⟨_, SqL.sub W2.sub q⟩, k _ δ1 _ G1 H1 hk2 hl1 W2 (itl_D (fun H _ s => SqL.sub s q) (ints_reps _))⟩
  | bw d' =>
    cases e1
    obtain ⟨u, eu, ⟨M, hM, r⟩, _⟩ := q
    cases eu
    cases d <;> first | cases ed | skip
    · obtain ⟨a, vs, e, q, r'⟩ := r
      subst e
      exact .inl ⟨a, rfl, ⟨vs, SqL.sub (hM.sub W2.frm W2.sub) (SqL.of q)⟩, k _ δ1 _ G1 H1 hk2 hl1 W2 (itl_D (fun H s s2 => SqL.sub (hM.sub s s2) (SqL.of q)) r')⟩
    · obtain ⟨a, vs, e, q, r'⟩ := r
      subst e
      exact .inr ⟨a, rfl, ⟨vs, SqT.sub (hM.sub W2.frm W2.sub) q⟩, k _ δ1 _ G1 H1 hk2 hl1 W2 (itt_D (fun H s s2 => SqT.sub (hM.sub s s2) q) r')⟩
    · obtain ⟨a, e, q⟩ := r
      subst e
      exact .inl ⟨a, rfl, ⟨_, SqL.sub (hM.sub W2.frm W2.sub) q⟩, k _ δ1 _ G1 H1 hk2 hl1 W2 (itl_D (fun H s s2 => SqL.sub (hM.sub s s2) q) (ints_reps _))⟩
end
end BR

/-! K6: loops -/
namespace BR
open PySem PySem.Spec PyProof.Rows L2

/-- how a turn ends: on, out of the loop, or the whole with r -/
inductive LFlow (S R : Type) where
  | nx (s : S) | bk (s : S) | rt (r : R)
def forF {S R : Type} : List D → S → (D → S → Res (LFlow S R)) → Res (Flow S R)
  | [], s, _ => .ok (.nx s)
  | d :: ds, s, f => match f d s with
    | .ok (.nx s') => forF ds s' f
    | .ok (.bk s') => .ok (.nx s')
    | .ok (.rt r) => .ok (.ex r)
    | .raise x => .raise x
    | .bad => .bad
def forS {S : Type} : List D → S → (D → S → Res S) → Res S
  | [], s, _ => .ok s
  | d :: ds, s, f => (f d s).bind fun s' => forS ds s' f
def whileF {S R : Type} : Nat → S → (S → Res Bool) → (S → Res (LFlow S R)) → Res (Flow S R)
  | 0, _, _, _ => .bad
  | n + 1, s, t, f => (t s).bind fun b => if b = true then (match f s with
    | .ok (.nx s') => whileF n s' t f
    | .ok (.bk s') => .ok (.nx s')
    | .ok (.rt r) => .ok (.ex r)
    | .raise x => .raise x
    | .bad => .bad) else .ok (.nx s)
def whileS {S : Type} : Nat → S → (S → Res Bool) → (S → Res S) → Res S
  | 0, _, _, _ => .bad
  | n + 1, s, t, f => (t s).bind fun b => if b = true then (f s).bind fun s' => whileS n s' t f else .ok s
def toL {S R : Type} (m : Res S) : Res (LFlow S R) := m.bind fun s => .ok (.nx s)
theorem forS_F {S R : Type} (f : D → S → Res S) (k : S → Res R) : ∀ (ds : List D) (s : S), (forS ds s f).bind k = fbind (forF ds s fun d a => (toL (f d a) : Res (LFlow S R))) k
  | [], s => rfl
  | d :: ds, s => by
    unfold forS forF
    cases e : f d s with
    | ok a =>
      simp only [toL, Res.bind, fbind, e]
      exact forS_F f k ds a
    | raise x => simp only [toL, Res.bind, fbind, e]
    | bad => simp only [toL, Res.bind, fbind, e]
theorem whileS_F {S R : Type} (t : S → Res Bool) (f : S → Res S) (k : S → Res R) : ∀ (n : Nat) (s : S), (whileS n s t f).bind k = fbind (whileF n s t fun a => (toL (f a) : Res (LFlow S R))) k
  | 0, s => rfl
  | n + 1, s => by
    unfold whileS whileF
    cases e : t s with
    | ok b =>
      cases b with
      | false => rfl
      | true =>
        cases e2 : f s with
        | ok a =>
          simp only [toL, Res.bind, fbind, e2, if_true]
          exact whileS_F t f k n a
        | raise x => simp only [toL, Res.bind, fbind, e2, if_true]
        | bad => simp only [toL, Res.bind, fbind, e2, if_true]
    | raise x => rfl
    | bad => rfl

/-- the same, begun later -/
structure KnLe (en en' : Kn) : Prop where
  n : en'.n = en.n
  F0 : en'.F0 = en.F0
  ps : en'.ps = en.ps
  HX : en'.HX = en.HX
abbrev Kn.at (en : Kn) (G : Hp) : Kn := { en with G0 := G }
theorem Kn.le (en : Kn) (G : Hp) : KnLe en (en.at G) := ⟨rfl, rfl, rfl, rfl⟩
section
variable {K : PySem.W.Frag} {en : Kn} {δ δ' : List Slot} {σ σ' : L2.St} {G H G' H' : Hp}
theorem Wd.from (W : Wd K en δ σ G H) : Wd K (en.at G) δ σ G H :=
  ⟨W.len, W.sub, Sub.refl _, fun a o e => .inl e, W.frm, W.stay, W.nd, fun i sl o h1 h2 => by
    have q := W.slot i sl o h1 h2
    cases sl <;> exact q, W.apart⟩
theorem Wd.back (W : Wd K en δ σ G H) (W' : Wd K (en.at G) δ' σ' G' H') : Wd K en δ' σ' G' H' :=
  ⟨W'.len, W'.sub, W.ext.trans W'.ext, fun a o e => by
    rcases W'.new a o e with q | q
    · exact W.new a o q
    · exact .inr q, W'.frm, W'.stay, W'.nd, fun i sl o h1 h2 => by
    have q := W'.slot i sl o h1 h2
    cases sl <;> exact q, W'.apart⟩
end
section
variable {X : Cx} {en : Kn} {δ : List Slot} {R : Type} {m : Res R} {K : PySem.W.Frag}
variable {N : List Slot → Res R → Prop} {RT : Slot → List Slot → Res R → Prop} {BK CT : List Slot → Res R → Prop} {pos : Pos}

theorem js_for {S : Type} {tg iter : Expr} {body : List Stmt} (hp : PassesOwn (model X.prog X.w) X.A X.env X.xe) (hc : X.calm = true)
    (h : JI X en δ [] tg iter (fun ds δ1 m1 => ∃ (a0 : S) (f : D → S → Res (LFlow S R)) (k : S → Res R) (pe : S → List Slot), m1 = fbind (forF ds a0 f) k ∧ Le δ1 (pe a0) ∧
      (∀ en', KnLe en en' → ∀ d a, ∃ is, JG X en' (pe a) [] tg d is (fun δ2 m2 => JSs X en' δ2 body (fun δ' m' => ∃ a', m' = .ok (.nx a') ∧ Le δ' (pe a')) (fun s δ' m' => ∃ r, m' = .ok (.rt r) ∧ RT s δ' (.ok r)) (fun δ' m' => ∃ a', m' = .ok (.bk a') ∧ Le δ' (pe a')) (fun δ' m' => ∃ a', m' = .ok (.nx a') ∧ Le δ' (pe a')) m2) (f d a)) ∧ ∀ a, N (pe a) (k a)) m)
    (hs : ∀ x, foldedSetIterable iter X.env x = pure x := by intro _; rfl) : JS X en δ (.For tg iter body [] pos) N RT BK CT m := .mk fun hb hx σ G H E hl W k1 k2 k3 k4 => by
  refine ws_of (ps_for hp hc pi_wi pg_wg pss_wss hs) ?_
  refine h.run hb hx σ [] G H _ hl (W.sl hl) (by rw [List.append_nil, List.append_nil]; exact W) fun ds δ1 J G1 H1 c hl1 W1 it => ?_
  rw [List.append_nil, List.append_nil] at W1
  obtain ⟨a0, f, k, pe, em, le0, turn, hN⟩ := c
  have turn := turn (en.at G1)
  refine ⟨fun i n σ H => n = ds.length - i ∧ i ≤ ds.length ∧ ∃ a G2, (pe a).length = en.n ∧ Wd X.K (en.at G1) (pe a) σ G2 H ∧ m = fbind (forF (ds.drop i) a f) k, ⟨ds.length, by simp, Nat.zero_le _, a0, G1, le0.len.symm.trans hl1, (W1.le le0).from, em⟩, ?_⟩
  rintro i n σ2 H2 ⟨rfl, hi, a, G2, hla, W2, em2⟩
  obtain ⟨go, stop⟩ := it G2 H2 W2.ext W2.frm W2.sub i
  by_cases hlt : i < ds.length
  · obtain ⟨g1, g2⟩ := go ds[i] (List.getElem?_eq_getElem hlt)
    refine .inr ⟨g1, fun σ' H' => ∃ a' G', (pe a').length = en.n ∧ Wd X.K (en.at G1) (pe a') σ' G' H' ∧ m = fbind (forF (ds.drop (i + 1)) a' f) k, fun σ' H' hn => ⟨ds.length - (i + 1), by omega, rfl, hlt, hn⟩, fun x H' hy => ?_⟩
    obtain ⟨G3, gr, rx⟩ := g2 x H' hy
    have ed : ds.drop i = ds[i] :: ds.drop (i + 1) := by rw [List.drop_eq_getElem_cons hlt]
    rw [ed] at em2
    unfold forF at em2
    have hfb : f ds[i] a ≠ .bad := fun z => by rw [z] at em2; exact hb em2
    have hfx : en.HX (f ds[i] a).exc := by
      cases ef : f ds[i] a with
      | ok _ => exact en.h0
      | raise x => rw [ef] at em2; rw [em2] at hx; exact hx
      | bad => exact en.h0
    obtain ⟨is, turn⟩ := turn ⟨rfl, rfl, rfl, rfl⟩ ds[i] a
    refine turn.run hfb hfx σ2 [] G3 H' x _ hla (W2.sl hla) (by rw [List.append_nil, List.append_nil]; exact W2.grow gr) rx fun δ3 σ3 G4 H3 c3 hl3 _ W3 sb3 _ => ?_
    rw [List.append_nil, List.append_nil] at W3
    refine c3.run hfb hfx σ3 G4 H3 _ hl3 W3 (fun δ' σ' G' H' ⟨a', e1, le⟩ hl' W' => ?_) (fun s δ' v σ' G' H' ⟨r, e1, c⟩ hl' W' => ?_) (fun δ' σ' G' H' ⟨a', e1, le⟩ hl' W' => ?_) (fun δ' σ' G' H' ⟨a', e1, le⟩ hl' W' => ?_)
    · rw [e1] at em2
      exact ⟨a', G', le.len.symm.trans hl', W'.le le, em2⟩
    · rw [e1] at em2
      have em3 : m = .ok r := em2
      exact k2 s δ' v σ' G' H' (by rw [em3]; exact c) hl' (Wd.back (en := en) W1 W')
    · rw [e1] at em2
      have em3 : m = k a' := em2
      have := hN a'
      rw [← em3] at this
      exact k1 _ σ' G' H' this (le.len.symm.trans hl') (W1.back (W'.le le))
    · rw [e1] at em2
      exact ⟨a', G', le.len.symm.trans hl', W'.le le, em2⟩
  · have e : i = ds.length := by omega
    subst e
    refine .inl ⟨stop (Nat.le_refl _), ?_⟩
    rw [List.drop_length] at em2
    have em3 : m = k a := em2
    have := hN a
    rw [← em3] at this
    exact k1 _ σ2 G2 H2 this hla (W1.back W2)
theorem JI.conv {τ : List Slot} {tg iter : Expr} {C C' : List D → List Slot → Res R → Prop} (h : JI X en δ τ tg iter C m) (k : ∀ ds δ', C ds δ' m → C' ds δ' m) : JI X en δ τ tg iter C' m := .mk fun hb hx σ ts G H T hl hσ W q =>
  h.run hb hx σ ts G H T hl hσ W fun ds δ' J G' H' c hl' W' it => q ds δ' J G' H' (k _ _ c) hl' W' it
theorem JG.conv {τ : List Slot} {is : List Nat} {R' : Type} {tg : Expr} {d : D} {N : List Slot → Res R → Prop} {N' : List Slot → Res R' → Prop} {m' : Res R'} (h : JG X en δ τ tg d is N m) (hb : m' ≠ .bad → m ≠ .bad) (hx : m'.exc = m.exc) (k : ∀ δ', N δ' m → N' δ' m') : JG X en δ τ tg d is N' m' := .mk fun hb' hx' σ ts G H v T hl hσ W r q =>
  h.run (hb hb') (hx ▸ hx') σ ts G H v T hl hσ W r fun δ' σ' G' H' c hl' hσ' W' sb on => q δ' σ' G' H' (k _ c) hl' hσ' W' sb on
theorem JSs.conv {R' : Type} {st : List Stmt} {N' : List Slot → Res R' → Prop} {RT' : Slot → List Slot → Res R' → Prop} {BK' CT' : List Slot → Res R' → Prop} {m' : Res R'} (h : JSs X en δ st N RT BK CT m) (hb : m' ≠ .bad → m ≠ .bad) (hx : m'.exc = m.exc)
    (k1 : ∀ δ', N δ' m → N' δ' m') (k2 : ∀ s δ', RT s δ' m → RT' s δ' m') (k3 : ∀ δ', BK δ' m → BK' δ' m') (k4 : ∀ δ', CT δ' m → CT' δ' m') : JSs X en δ st N' RT' BK' CT' m' := .mk fun hb' hx' σ G H E hl W q1 q2 q3 q4 =>
  h.run (hb hb') (hx ▸ hx') σ G H E hl W (fun δ' σ' G' H' c hl' W' => q1 δ' σ' G' H' (k1 _ c) hl' W') (fun s δ' v σ' G' H' c hl' W' => q2 s δ' v σ' G' H' (k2 _ _ c) hl' W') (fun δ' σ' G' H' c hl' W' => q3 δ' σ' G' H' (k3 _ c) hl' W') (fun δ' σ' G' H' c hl' W' => q4 δ' σ' G' H' (k4 _ c) hl' W')
theorem toL_bad {S : Type} {m1 : Res S} (h : (toL m1 : Res (LFlow S R)) ≠ .bad) : m1 ≠ .bad := fun z => by subst z; exact h rfl
theorem toL_exc {S : Type} (m1 : Res S) : (toL m1 : Res (LFlow S R)).exc = m1.exc := by cases m1 <;> rfl
/-- a for loop out of which nothing leads -/
theorem js_forS {S : Type} {tg iter : Expr} {body : List Stmt} (hp : PassesOwn (model X.prog X.w) X.A X.env X.xe) (hc : X.calm = true)
    (h : JI X en δ [] tg iter (fun ds δ1 m1 => ∃ (a0 : S) (f : D → S → Res S) (k : S → Res R) (pe : S → List Slot), m1 = (forS ds a0 f).bind k ∧ Le δ1 (pe a0) ∧
      (∀ en', KnLe en en' → ∀ d a, ∃ is, JG X en' (pe a) [] tg d is (fun δ2 m2 => JSs X en' δ2 body (fun δ' m' => ∃ a', m' = .ok a' ∧ Le δ' (pe a')) (fun _ _ _ => False) (fun _ _ => False) (fun δ' m' => ∃ a', m' = .ok a' ∧ Le δ' (pe a')) m2) (f d a)) ∧ ∀ a, N (pe a) (k a)) m)
    (hs : ∀ x, foldedSetIterable iter X.env x = pure x := by intro _; rfl) : JS X en δ (.For tg iter body [] pos) N RT BK CT m := by
  refine js_for (S := S) hp hc (h.conv fun ds δ1 c => ?_) hs
  obtain ⟨a0, f, k, pe, em, le, turn, hN⟩ := c
  refine ⟨a0, fun d a => toL (f d a), k, pe, em.trans (forS_F f k ds a0), le, fun en' he d a => ?_, hN⟩
  obtain ⟨is, tr⟩ := turn en' he d a
  refine ⟨is, tr.conv toL_bad (toL_exc _) fun δ' c => ?_⟩
  refine c.conv toL_bad (toL_exc _) (fun δ2 ⟨a', e1, le⟩ => ⟨a', ?_, le⟩) (fun _ _ z => z.elim) (fun _ z => z.elim) (fun δ2 ⟨a', e1, le⟩ => ⟨a', ?_, le⟩)
  · show toL (f d a) = _
    rw [e1]; rfl
  · show toL (f d a) = _
    rw [e1]; rfl
theorem js_while {S : Type} {c : Expr} {body : List Stmt} (pe : S → List Slot) (hp : PassesOwn (model X.prog X.w) X.A X.env X.xe)
    (h : ∃ (n : Nat) (a0 : S) (t : S → Res Bool) (f : S → Res (LFlow S R)) (k : S → Res R), m = fbind (whileF n a0 t f) k ∧ Le δ (pe a0) ∧
      (∀ en', KnLe en en' → ∀ a, JT X en' (pe a) [] c (fun b δ' m' => m' = .ok b ∧ Le δ' (pe a)) (t a)) ∧
      (∀ en', KnLe en en' → ∀ a, JSs X en' (pe a) body (fun δ' m' => ∃ a', m' = .ok (.nx a') ∧ Le δ' (pe a')) (fun s δ' m' => ∃ r, m' = .ok (.rt r) ∧ RT s δ' (.ok r)) (fun δ' m' => ∃ a', m' = .ok (.bk a') ∧ Le δ' (pe a')) (fun δ' m' => ∃ a', m' = .ok (.nx a') ∧ Le δ' (pe a')) (f a)) ∧ ∀ a, N (pe a) (k a)) : JS X en δ (.While c body [] pos) N RT BK CT m := .mk fun hb hx σ G H E hl W k1 k2 k3 k4 => by
  obtain ⟨n0, a0, t, f, k, em, le0, test, turn, hN⟩ := h
  have test := test en ⟨rfl, rfl, rfl, rfl⟩
  have turn := turn en ⟨rfl, rfl, rfl, rfl⟩
  refine ws_of (ps_while hp pt_wt pss_wss) ?_
  refine ⟨fun n σ H => ∃ a G2, (pe a).length = en.n ∧ Wd X.K en (pe a) σ G2 H ∧ m = fbind (whileF n a t f) k, ⟨n0, a0, G, le0.len.symm.trans hl, W.le le0, em⟩, ?_⟩
  rintro n σ2 H2 ⟨a, G2, hla, W2, em2⟩
  cases n with
  | zero => exact (hb em2).elim
  | succ n =>
    unfold whileF at em2
    have htb : t a ≠ .bad := fun z => by rw [z] at em2; exact hb em2
    have htx : en.HX (t a).exc := by
      cases ef : t a with
      | ok _ => exact en.h0
      | raise x => rw [ef] at em2; rw [em2] at hx; exact hx
      | bad => exact en.h0
    refine (test a).at htb htx hla W2 fun b δ' G' H' ⟨e1, le⟩ hl' W' => ?_
    rw [e1] at em2
    cases b with
    | false =>
      have em3 : m = k a := em2
      have := hN a
      rw [← em3] at this
      exact iteF (k1 _ σ2 G' H' this hla (W'.le le))
    | true =>
      simp only [Res.bind, if_true] at em2
      refine iteT ⟨fun σ' H' => ∃ a' G', (pe a').length = en.n ∧ Wd X.K en (pe a') σ' G' H' ∧ m = fbind (whileF n a' t f) k, fun σ' H' hn => ⟨n, Nat.lt_succ_self n, hn⟩, ?_⟩
      have hfb : f a ≠ .bad := fun z => by rw [z] at em2; exact hb em2
      have hfx : en.HX (f a).exc := by
        cases ef : f a with
        | ok _ => exact en.h0
        | raise x => rw [ef] at em2; rw [em2] at hx; exact hx
        | bad => exact en.h0
      refine (turn a).run hfb hfx σ2 G' H' _ hla (W'.le le) (fun δ' σ' G' H' ⟨a', e1, le⟩ hl' W' => ?_) (fun s δ' v σ' G' H' ⟨r, e1, c⟩ hl' W' => ?_) (fun δ' σ' G' H' ⟨a', e1, le⟩ hl' W' => ?_) (fun δ' σ' G' H' ⟨a', e1, le⟩ hl' W' => ?_)
      · rw [e1] at em2
        exact ⟨a', G', le.len.symm.trans hl', W'.le le, em2⟩
      · rw [e1] at em2
        have em3 : m = .ok r := em2
        exact k2 s δ' v σ' G' H' (by rw [em3]; exact c) hl' W'
      · rw [e1] at em2
        have em3 : m = k a' := em2
        have := hN a'
        rw [← em3] at this
        exact k1 _ σ' G' H' this (le.len.symm.trans hl') (W'.le le)
      · rw [e1] at em2
        exact ⟨a', G', le.len.symm.trans hl', W'.le le, em2⟩
theorem js_whileS {S : Type} {c : Expr} {body : List Stmt} (pe : S → List Slot) (hp : PassesOwn (model X.prog X.w) X.A X.env X.xe)
    (h : ∃ (n : Nat) (a0 : S) (t : S → Res Bool) (f : S → Res S) (k : S → Res R), m = (whileS n a0 t f).bind k ∧ Le δ (pe a0) ∧
      (∀ en', KnLe en en' → ∀ a, JT X en' (pe a) [] c (fun b δ' m' => m' = .ok b ∧ Le δ' (pe a)) (t a)) ∧
      (∀ en', KnLe en en' → ∀ a, JSs X en' (pe a) body (fun δ' m' => ∃ a', m' = .ok a' ∧ Le δ' (pe a')) (fun _ _ _ => False) (fun _ _ => False) (fun δ' m' => ∃ a', m' = .ok a' ∧ Le δ' (pe a')) (f a)) ∧ ∀ a, N (pe a) (k a)) : JS X en δ (.While c body [] pos) N RT BK CT m := by
  obtain ⟨n, a0, t, f, k, em, le, test, turn, hN⟩ := h
  refine js_while pe hp ⟨n, a0, t, fun a => toL (f a), k, em.trans (whileS_F t f k n a0), le, test, fun en' he a => ?_, hN⟩
  refine (turn en' he a).conv toL_bad (toL_exc _) (fun δ2 ⟨a', e1, le⟩ => ⟨a', ?_, le⟩) (fun _ _ z => z.elim) (fun _ z => z.elim) (fun δ2 ⟨a', e1, le⟩ => ⟨a', ?_, le⟩)
  · show toL (f a) = _
    rw [e1]; rfl
  · show toL (f a) = _
    rw [e1]; rfl

/-! ### ranges -/
def upto (lo : Int) (n : Nat) : List D := (List.range n).map fun (i : Nat) => D.int (lo + (i : Int))
/-- the numbers of range(..) -/
def rngD : List D → Option (List D)
  | [.int j] => if -(2 ^ 62) ≤ j ∧ j < 2 ^ 62 then some (upto 0 j.toNat) else none
  | [.int i, .int j] => if (-(2 ^ 62) ≤ i ∧ i < 2 ^ 62) ∧ -(2 ^ 62) ≤ j ∧ j < 2 ^ 62 then some (upto i (j - i).toNat) else none
  | _ => none
theorem itr_D {lo : Int} {n : Nat} {Gb Fb : Hp} : ItD K (Itr lo n) Gb Fb (upto lo n) := fun G H sg sf gh i => by
  refine ⟨fun d e => ?_, fun hi => (by simpa [upto] using hi : n ≤ i)⟩
  have hi : i < n := by
    have := (List.getElem?_eq_some_iff.mp e).1
    simpa [upto] using this
  refine ⟨hi, fun x H' hy => ?_⟩
  obtain ⟨e1, e2⟩ := hy
  subst e1
  have e3 : d = .int (lo + i) := by
    unfold upto at e
    rw [List.getElem?_map, List.getElem?_range hi] at e
    exact (Option.some.inj e).symm
  subst e3
  exact ⟨G, Grow.refl gh, e2⟩
theorem ji_range1 {τ : List Slot} {tg a : Expr} {p pos : Pos} {C : List D → List Slot → Res R → Prop} (hm : X.mg "range" = none)
    (h : JE X en δ τ a (fun s δ1 m1 => ∃ d k, s.rd δ1 = some d ∧ m1 = op (rngD [d]) k ∧ ∀ ds, C ds δ1 (k ds)) m) (hg : Gl X "range" := by rfl) (hs : starEach [a] X.env = [(false, eval a X.env)] := by rfl) : JI X en δ τ tg (.Call (.Name "range" p) [a] [] pos) C m := .mk fun hb hx σ ts G H T hl hσ W k => by
  refine wi_of (pi_range1 hg hm (pa_cons pe_we pa_nil (by rw [hs]; rfl)) hs) ?_
  have ht : τ.length = ts.length := W.splitLen (hl.trans hσ.symm)
  refine h.run hb hx σ ts G H _ hl hσ W fun s δ1 v G1 H1 c1 hl1 W1 => ?_
  obtain ⟨d, k', e1, em, hk⟩ := c1
  have hb' := hb
  rw [em] at hb'
  obtain ⟨ds, ed⟩ := op_some hb'
  have em' : m = k' ds := by rw [em, ed]; rfl
  have hk2 := hk ds
  rw [← em'] at hk2
  obtain ⟨⟨_, _, ez, r1, _⟩, Wn⟩ := Wd.ends (sls := [s]) (vs := [v]) W1 (hl1.trans hσ.symm) ht (ds := [d]) (by simp only [rds, e1])
  cases ez
  match d, ed, r1 with
  | .int j, ed, r1 =>
    have r1' : v = .int j := r1
    subst r1'
    have ed' : (if -(2 ^ 62) ≤ j ∧ j < 2 ^ 62 then some (upto 0 j.toNat) else none) = some ds := ed
    by_cases hj : -(2 ^ 62) ≤ j ∧ j < 2 ^ 62
    · rw [if_pos hj] at ed'
      cases ed'
      exact ⟨j, rfl, hj.1, hj.2, k _ δ1 _ G1 H1 hk2 hl1 (Wn (by omega)) itr_D⟩
    · rw [if_neg hj] at ed'; cases ed'
  | .non, ed, _ => cases ed
  | .bl _, ed, _ => cases ed
  | .str _, ed, _ => cases ed
  | .lst _, ed, _ => cases ed
  | .tup _, ed, _ => cases ed
  | .dic _, ed, _ => cases ed
  | .scr _, ed, _ => cases ed
  | .exc _ _, ed, _ => cases ed
  | .obj _ _, ed, _ => cases ed
end
end BR

/-! K7: what a def promises, its body, its call -/
namespace BR
open PySem PySem.Spec PyProof.Rows L2

/-- how a parameter is handed: standing fast; read alone; to be changed -/
inductive Kd where
  | f | b | m
def nms : List Kd → Nat
  | [] => 0
  | .f :: r => nms r
  | .b :: r => nms r
  | .m :: r => nms r + 1
def hide (H : Hp) (ps : List Addr) : Hp := fun a => if a ∈ ps then none else H a
theorem hide_sub {H : Hp} {ps : List Addr} : Sub (hide H ps) H := fun a o e => by
  unfold hide at e
  split at e
  · cases e
  · exact e
theorem hide_none {H : Hp} {ps : List Addr} {p : Addr} (h : p ∈ ps) : hide H ps p = none := if_pos h
theorem hide_some {H : Hp} {ps : List Addr} {p : Addr} (h : p ∉ ps) : hide H ps p = H p := if_neg h
def ArgsOk (K : PySem.W.Frag) (G H F0 : Hp) : List Kd → List D → List V → List Addr → Prop
  | [], [], [], [] => True
  | .f :: ks, d :: ds, v :: vs, ps => Rep K G d v ∧ ArgsOk K G H F0 ks ds vs ps
  | .b :: ks, d :: ds, v :: vs, ps => BRep K G F0 d v ∧ ArgsOk K G H F0 ks ds vs ps
  | .m :: ks, d :: ds, v :: vs, p :: ps => (v = .ref p ∧ G p = none ∧ MRep K G H d p) ∧ ArgsOk K G H F0 ks ds vs ps
  | _, _, _, _ => False
/-- what stands for an error that leaves a def -/
def ExcOk (mg : Str → Option Value) (F0 : Hp) (ps : List Addr) (x : Exc) (cls : Value) (d : Option Addr) (H : Hp) : Prop :=
  ∃ C, mg x.cls = some (.ref C) ∧ cls = .ref C ∧ ((x.fs = [] ∧ d = none) ∨ (x.fs ≠ [] ∧ ∃ a, d = some a ∧ H a = some (.xd (xfV x.fs)) ∧ F0 a = none ∧ a ∉ ps))
theorem ExcOk.to {mg : Str → Option Value} {F F' : Hp} {ps ps' : List Addr} {x : Exc} {cls : Value} {d : Option Addr} {H : Hp} (h : ExcOk mg F ps x cls d H) (k : ∀ a, F a = none → a ∉ ps → F' a = none ∧ a ∉ ps') : ExcOk mg F' ps' x cls d H := by
  obtain ⟨C, h1, h2, h3⟩ := h
  refine ⟨C, h1, h2, ?_⟩
  rcases h3 with h3 | ⟨h3, a, h4, h5, h6, h7⟩
  · exact .inl h3
  · obtain ⟨k1, k2⟩ := k a h6 h7
    exact .inr ⟨h3, a, h4, h5, k1, k2⟩
theorem Wd.exc {K : PySem.W.Frag} {mg : Str → Option Value} {en : Kn} {δ : List Slot} {σ : L2.St} {G H H' : Hp} {ps : List Addr} {x : Exc} {cls : Value} {d : Option Addr} (W : Wd K en δ σ G H) (h : ExcOk mg (hide H ps) ps x cls d H') : ExcOk mg en.F0 en.ps x cls d H' :=
  h.to fun a h1 h2 => by
    rw [hide_some h2] at h1
    refine ⟨?_, fun z => W.stay a z h1⟩
    cases z : en.F0 a with
    | none => rfl
    | some o => rw [W.frm a o z] at h1; cases h1
/-- behind a run: what stands fast has grown, what was tracked is as it was but for the lists ps -/
structure Post (G H G' H' : Hp) (ps : List Addr) : Prop where
  g : Sub G G'
  gh : Sub G' H'
  new : ∀ a o, G' a = some o → G a = some o ∨ H a = none
  frm : ∀ a o, H a = some o → a ∉ ps → H' a = some o
def OutsOk (K : PySem.W.Frag) (G' H' : Hp) : List D → List Addr → Prop
  | [], [] => True
  | d :: ds, p :: ps => (G' p = none ∧ MRep K G' H' d p) ∧ OutsOk K G' H' ds ps
  | _, _ => False
def RetOk (K : PySem.W.Frag) (G' H H' : Hp) (mu : Bool) (d : D) (v : V) : Prop :=
  if mu = true then ∃ p, v = .ref p ∧ H p = none ∧ G' p = none ∧ MRep K G' H' d p else Rep K G' d v
def SpD (K : PySem.W.Frag) (mg : Str → Option Value) (ks : List Kd) {α : Type} (f : List D → Res α) (val : α → D) (outs : α → List D) (mu : Bool) : Sp := fun vs H Q E =>
  vs.length = ks.length ∧ ∃ (G : Hp) (ps : List Addr) (ds : List D) (r : Res α), Sub G H ∧ ps.Nodup ∧ ArgsOk K G H (hide H ps) ks ds vs ps ∧ f ds = r ∧ r ≠ .bad ∧
    (∀ a, r = .ok a → ∀ v G' H', Post G H G' H' ps → OutsOk K G' H' (outs a) ps → RetOk K G' H H' mu (val a) v → Q v H') ∧
    (∀ x, r = .raise x → ∀ cls d H', ExcOk mg (hide H ps) ps x cls d H' → Sub (hide H ps) H' → E cls d H')

/-- the names' slots at a def's entry -/
def slots0 : Nat → List Kd → List D → List Slot
  | j, .f :: ks, d :: ds => .fr d :: slots0 j ks ds
  | j, .b :: ks, d :: ds => .bw d :: slots0 j ks ds
  | j, .m :: ks, d :: ds => .mp j d :: slots0 (j + 1) ks ds
  | _, _, _ => []
section
variable {K : PySem.W.Frag} {en : Kn} {G H : Hp}
theorem args_len : ∀ {ks : List Kd} {ds : List D} {vs : List V} {ps : List Addr} {F0 : Hp}, ArgsOk K G H F0 ks ds vs ps → ds.length = ks.length ∧ vs.length = ks.length
  | [], [], [], [], _, _ => ⟨rfl, rfl⟩
  | .f :: ks, d :: ds, v :: vs, ps, _, h => by have := args_len h.2; simp [this.1, this.2]
  | .b :: ks, d :: ds, v :: vs, ps, _, h => by have := args_len h.2; simp [this.1, this.2]
  | .m :: ks, d :: ds, v :: vs, p :: ps, _, h => by have := args_len h.2; simp [this.1, this.2]
  | [], _ :: _, _, _, _, h => h.elim
  | [], [], _ :: _, _, _, h => h.elim
  | [], [], [], _ :: _, _, h => h.elim
  | .f :: _, [], _, _, _, h => h.elim
  | .f :: _, _ :: _, [], _, _, h => h.elim
  | .b :: _, [], _, _, _, h => h.elim
  | .b :: _, _ :: _, [], _, _, h => h.elim
  | .m :: _, [], _, _, _, h => h.elim
  | .m :: _, _ :: _, [], _, _, h => h.elim
  | .m :: _, _ :: _, _ :: _, [], _, h => h.elim
theorem slots0_len : ∀ {ks : List Kd} {ds : List D} {j : Nat}, ds.length = ks.length → (slots0 j ks ds).length = ks.length
  | [], [], _, _ => rfl
  | [], _ :: _, _, h => nomatch h
  | _ :: _, [], _, h => nomatch h
  | .f :: ks, d :: ds, j, h => by simp [slots0, slots0_len (ks := ks) (ds := ds) (j := j) (by simpa using h)]
  | .b :: ks, d :: ds, j, h => by simp [slots0, slots0_len (ks := ks) (ds := ds) (j := j) (by simpa using h)]
  | .m :: ks, d :: ds, j, h => by simp [slots0, slots0_len (ks := ks) (ds := ds) (j := j + 1) (by simpa using h)]
theorem args_slot : ∀ {ks : List Kd} {ds : List D} {vs : List V} {ps' : List Addr} {F0 : Hp} {j : Nat} {i : Nat} {sl : Slot} {S : L2.St}, ArgsOk K G H F0 ks ds vs ps' → F0 = en.F0 → (∀ (l : Nat) p, ps'[l]? = some p → en.ps[j + l]? = some p) → (∀ p, p ∈ en.ps → en.F0 p = none) →
    (slots0 j ks ds)[i]? = some sl → ∃ v, vs[i]? = some v ∧ SlotOk K en S G H sl (some v) ∧ ∀ d, sl ≠ .mu d
  | [], [], [], [], _, _, _, _, _, _, _, _, _, e => by simp [slots0] at e
  | .f :: ks, d :: ds, v :: vs, ps, _, j, 0, sl, S, h, _, _, _, e => by
    have e' : Slot.fr d = sl := by simpa [slots0] using e
    subst e'
    exact ⟨v, rfl, ⟨v, rfl, h.1⟩, fun d z => by cases z⟩
  | .f :: ks, d :: ds, v :: vs, ps, _, j, i + 1, sl, S, h, hf, hj, hp, e => by
    simpa using args_slot (i := i) h.2 hf hj hp (by simpa [slots0] using e)
  | .b :: ks, d :: ds, v :: vs, ps, _, j, 0, sl, S, h, hf, _, _, e => by
    have e' : Slot.bw d = sl := by simpa [slots0] using e
    subst e'
    exact ⟨v, rfl, ⟨v, rfl, by rw [← hf]; exact h.1⟩, fun d z => by cases z⟩
  | .b :: ks, d :: ds, v :: vs, ps, _, j, i + 1, sl, S, h, hf, hj, hp, e => by
    simpa using args_slot (i := i) h.2 hf hj hp (by simpa [slots0] using e)
  | .m :: ks, d :: ds, v :: vs, p :: ps, _, j, 0, sl, S, h, hf, hj, hp, e => by
    have e' : Slot.mp j d = sl := by simpa [slots0] using e
    subst e'
    obtain ⟨⟨e1, e2, e3⟩, _⟩ := h
    have hpp : en.ps[j]? = some p := hj 0 p rfl
    exact ⟨v, rfl, ⟨p, by rw [e1], hpp, e2, hp p (List.mem_of_getElem? hpp), e3⟩, fun d z => by cases z⟩
  | .m :: ks, d :: ds, v :: vs, p :: ps, _, j, i + 1, sl, S, h, hf, hj, hp, e => by
    simpa using args_slot (i := i) (j := j + 1) h.2 hf (fun l q hq => by have := hj (l + 1) q (by simpa using hq); rw [Nat.add_assoc, Nat.add_comm 1 l]; exact this) hp (by simpa [slots0] using e)
  | [], _ :: _, _, _, _, _, _, _, _, h, _, _, _, _ => h.elim
  | [], [], _ :: _, _, _, _, _, _, _, h, _, _, _, _ => h.elim
  | [], [], [], _ :: _, _, _, _, _, _, h, _, _, _, _ => h.elim
  | .f :: _, [], _, _, _, _, _, _, _, h, _, _, _, _ => h.elim
  | .f :: _, _ :: _, [], _, _, _, _, _, _, h, _, _, _, _ => h.elim
  | .b :: _, [], _, _, _, _, _, _, _, h, _, _, _, _ => h.elim
  | .b :: _, _ :: _, [], _, _, _, _, _, _, h, _, _, _, _ => h.elim
  | .m :: _, [], _, _, _, _, _, _, _, h, _, _, _, _ => h.elim
  | .m :: _, _ :: _, [], _, _, _, _, _, _, h, _, _, _, _ => h.elim
  | .m :: _, _ :: _, _ :: _, [], _, _, _, _, _, h, _, _, _, _ => h.elim
theorem args_there : ∀ {ks : List Kd} {ds : List D} {vs : List V} {ps : List Addr} {F0 : Hp}, ArgsOk K G H F0 ks ds vs ps → ∀ p, p ∈ ps → H p ≠ none ∧ G p = none
  | [], [], [], [], _, _, p, hp => absurd hp (by simp)
  | .f :: ks, d :: ds, v :: vs, ps, _, h, p, hp => args_there h.2 p hp
  | .b :: ks, d :: ds, v :: vs, ps, _, h, p, hp => args_there h.2 p hp
  | .m :: ks, d :: ds, v :: vs, q :: ps, _, h, p, hp => by
    rcases List.mem_cons.mp hp with e | hp
    · subst e
      obtain ⟨o, e⟩ := h.1.2.2.ex
      exact ⟨by rw [e]; simp, h.1.2.1⟩
    · exact args_there h.2 p hp
  | [], _ :: _, _, _, _, h, _, _ => h.elim
  | [], [], _ :: _, _, _, h, _, _ => h.elim
  | [], [], [], _ :: _, _, h, _, _ => h.elim
  | .f :: _, [], _, _, _, h, _, _ => h.elim
  | .f :: _, _ :: _, [], _, _, h, _, _ => h.elim
  | .b :: _, [], _, _, _, h, _, _ => h.elim
  | .b :: _, _ :: _, [], _, _, h, _, _ => h.elim
  | .m :: _, [], _, _, _, h, _, _ => h.elim
  | .m :: _, _ :: _, [], _, _, h, _, _ => h.elim
  | .m :: _, _ :: _, _ :: _, [], _, h, _, _ => h.elim
theorem mp_ge : ∀ {ks : List Kd} {ds : List D} {j i x : Nat} {d : D}, (slots0 j ks ds)[i]? = some (.mp x d) → j ≤ x
  | [], _, _, _, _, _, h => by simp [slots0] at h
  | _ :: _, [], _, _, _, _, h => by simp [slots0] at h
  | .f :: ks, e :: ds, j, 0, x, d, h => by simp [slots0] at h
  | .b :: ks, e :: ds, j, 0, x, d, h => by simp [slots0] at h
  | .m :: ks, e :: ds, j, 0, x, d, h => by simp [slots0] at h; omega
  | .f :: ks, e :: ds, j, i + 1, x, d, h => mp_ge (ks := ks) (ds := ds) (i := i) (d := d) (by simpa [slots0] using h)
  | .b :: ks, e :: ds, j, i + 1, x, d, h => mp_ge (ks := ks) (ds := ds) (i := i) (d := d) (by simpa [slots0] using h)
  | .m :: ks, e :: ds, j, i + 1, x, d, h => Nat.le_of_succ_le (mp_ge (ks := ks) (ds := ds) (j := j + 1) (i := i) (d := d) (by simpa [slots0] using h))
theorem mp_inj : ∀ {ks : List Kd} {ds : List D} {j i l x : Nat} {d d' : D}, (slots0 j ks ds)[i]? = some (.mp x d) → (slots0 j ks ds)[l]? = some (.mp x d') → i = l
  | [], _, _, _, _, _, _, _, h, _ => by simp [slots0] at h
  | _ :: _, [], _, _, _, _, _, _, h, _ => by simp [slots0] at h
  | .f :: ks, e :: ds, j, 0, _, x, d, d', h, _ => by simp [slots0] at h
  | .b :: ks, e :: ds, j, 0, _, x, d, d', h, _ => by simp [slots0] at h
  | .f :: ks, e :: ds, j, _ + 1, 0, x, d, d', _, h => by simp [slots0] at h
  | .b :: ks, e :: ds, j, _ + 1, 0, x, d, d', _, h => by simp [slots0] at h
  | .f :: ks, e :: ds, j, i + 1, l + 1, x, d, d', h, h2 => congrArg (· + 1) (mp_inj (ks := ks) (ds := ds) (j := j) (by simpa [slots0] using h) (by simpa [slots0] using h2))
  | .b :: ks, e :: ds, j, i + 1, l + 1, x, d, d', h, h2 => congrArg (· + 1) (mp_inj (ks := ks) (ds := ds) (j := j) (by simpa [slots0] using h) (by simpa [slots0] using h2))
  | .m :: ks, e :: ds, j, i + 1, l + 1, x, d, d', h, h2 => congrArg (· + 1) (mp_inj (ks := ks) (ds := ds) (j := j + 1) (by simpa [slots0] using h) (by simpa [slots0] using h2))
  | .m :: ks, e :: ds, j, 0, 0, x, d, d', _, _ => rfl
  | .m :: ks, e :: ds, j, 0, l + 1, x, d, d', h, h2 => by
    have h3 : j = x := by simp [slots0] at h; exact h.1
    have := mp_ge (ks := ks) (ds := ds) (j := j + 1) (i := l) (x := x) (d := d') (by simpa [slots0] using h2)
    omega
  | .m :: ks, e :: ds, j, i + 1, 0, x, d, d', h, h2 => by
    have h3 : j = x := by simp [slots0] at h2; exact h2.1
    have := mp_ge (ks := ks) (ds := ds) (j := j + 1) (i := i) (x := x) (d := d) (by simpa [slots0] using h)
    omega
theorem args_ps : ∀ {ks : List Kd} {ds : List D} {vs : List V} {ps : List Addr} {F0 : Hp}, ArgsOk K G H F0 ks ds vs ps → ps.length = nms ks
  | [], [], [], [], _, _ => rfl
  | .f :: ks, d :: ds, v :: vs, ps, _, h => (args_ps (ks := ks) h.2 : _)
  | .b :: ks, d :: ds, v :: vs, ps, _, h => (args_ps (ks := ks) h.2 : _)
  | .m :: ks, d :: ds, v :: vs, q :: ps, _, h => congrArg (· + 1) (args_ps h.2)
  | [], _ :: _, _, _, _, h => h.elim
  | [], [], _ :: _, _, _, h => h.elim
  | [], [], [], _ :: _, _, h => h.elim
  | .f :: _, [], _, _, _, h => h.elim
  | .f :: _, _ :: _, [], _, _, h => h.elim
  | .b :: _, [], _, _, _, h => h.elim
  | .b :: _, _ :: _, [], _, _, h => h.elim
  | .m :: _, [], _, _, _, h => h.elim
  | .m :: _, _ :: _, [], _, _, h => h.elim
  | .m :: _, _ :: _, _ :: _, [], _, h => h.elim
theorem Wd.start {N : List Str} {ks : List Kd} {ds : List D} {vs : List V} (hG : Sub G H) (h0 : en.G0 = G) (hF : en.F0 = hide H en.ps) (hn : en.ps.Nodup) (ha : ArgsOk K G H (hide H en.ps) ks ds vs en.ps) (hl : ks.length ≤ N.length) :
    Wd K en (slots0 0 ks ds ++ List.replicate (N.length - ks.length) .un) (L2.start N vs) G H := by
  obtain ⟨l1, l2⟩ := args_len ha
  have l3 : (slots0 0 ks ds).length = ks.length := slots0_len l1
  have mem : ∀ (i : Nat) p, Own (slots0 0 ks ds ++ List.replicate (N.length - ks.length) Slot.un) (L2.start N vs) i p → ∃ x d, (slots0 0 ks ds)[i]? = some (.mp x d) ∧ en.ps[x]? = some p := fun i p ⟨sl, e1, e2, e3⟩ => by
    by_cases hi : i < (slots0 0 ks ds).length
    · rw [List.getElem?_append_left hi] at e1
      obtain ⟨v, h3, h4, z⟩ := args_slot (en := en) (S := []) (j := 0) ha hF.symm (fun l p h => by rw [Nat.zero_add]; exact h) (fun p hp => by rw [hF]; exact hide_none hp) e1
      have : (L2.start N vs)[i]? = some (some v) := by
        unfold L2.start
        rw [List.getElem?_append_left (by rw [List.length_map]; omega), List.getElem?_map, h3]; rfl
      rw [this] at e3
      cases e3
      cases sl with
      | mu d => exact (z d rfl).elim
      | mp x d =>
        obtain ⟨q, e4, e5, _⟩ := h4
        cases e4
        exact ⟨x, d, e1, e5⟩
      | un => cases e2
      | fr _ => cases e2
      | bw _ => cases e2
      | bo _ => cases e2
    · rw [List.getElem?_append_right (Nat.le_of_not_lt hi), List.getElem?_replicate] at e1
      split at e1
      · cases e1; cases e2
      · cases e1
  refine ⟨?_, hG, by rw [h0]; exact Sub.refl _, fun a o e => .inl (by rw [h0]; exact e), by rw [hF]; exact hide_sub, fun a h => (args_there ha a h).1, hn, fun i sl o h1 h2 => ?_, fun i j p h1 h2 => by
    obtain ⟨x, d, e1, e2⟩ := mem i p h1
    obtain ⟨y, d', e3, e4⟩ := mem j p h2
    have hx := List.getElem?_eq_some_iff.mp e2
    have hy := List.getElem?_eq_some_iff.mp e4
    have exy : x = y := (List.getElem_inj hn).mp (hx.2.trans hy.2.symm)
    subst exy
    exact mp_inj e1 e3⟩
  · unfold L2.start
    rw [List.length_append, List.length_append, l3, List.length_map, List.length_replicate, List.length_replicate, l2]
  · by_cases hi : i < (slots0 0 ks ds).length
    · rw [List.getElem?_append_left hi] at h1
      obtain ⟨v, h3, h4, _⟩ := args_slot (en := en) (S := L2.start N vs) (j := 0) ha hF.symm (fun l p h => by rw [Nat.zero_add]; exact h) (fun p hp => by rw [hF]; exact hide_none hp) h1
      have : (L2.start N vs)[i]? = some (some v) := by
        unfold L2.start
        rw [List.getElem?_append_left (by rw [List.length_map]; omega), List.getElem?_map, h3]; rfl
      rw [this] at h2
      cases h2
      exact h4
    · rw [List.getElem?_append_right (Nat.le_of_not_lt hi), List.getElem?_replicate] at h1
      split at h1
      · cases h1; trivial
      · cases h1
end

theorem takes0N {X : Cx} : L2N.Takes X (fun _ _ _ _ => False) := fun _ _ x => by
  obtain ⟨_, _, _, _, _, _, _, _, _, _, _, _, _, _, _, _, z⟩ := x
  exact z.elim
/-- the errors of a body: they are what is wished for -/
def Lk (X : Cx) (en : Kn) : Prop := ∃ W : WX, L2N.Takes X W ∧ ∀ x, en.HX (some x) → ∀ cls d σ H', ExcOk X.mg en.F0 en.ps x cls d H' → Sub en.F0 H' → W cls d σ H'
theorem KnLe.lk {X : Cx} {en en' : Kn} (h : KnLe en en') (l : Lk X en) : Lk X en' := by
  obtain ⟨W, t, k⟩ := l
  exact ⟨W, t, fun x hx cls d σ H' e s => k x (h.HX ▸ hx) cls d σ H' (e.to fun a h1 h2 => ⟨h.F0 ▸ h1, h.ps ▸ h2⟩) (h.F0 ▸ s)⟩
/-- the lists of the caller's, as told -/
def OutsAt (δ : List Slot) : Nat → List D → Prop
  | _, [] => True
  | j, d :: ds => (∃ i : Nat, δ[i]? = some (.mp j d)) ∧ OutsAt δ (j + 1) ds
def Slot.rets (mu : Bool) (d : D) (s : Slot) : Prop := s = if mu = true then .mu d else .fr d
section
variable {K : PySem.W.Frag} {en : Kn} {G H : Hp}
theorem Wd.outs {δ : List Slot} {σ : L2.St} (W : Wd K en δ σ G H) : ∀ {ds : List D} {j : Nat} {ps : List Addr}, (∀ l : Nat, ps[l]? = en.ps[j + l]?) → ds.length = ps.length → OutsAt δ j ds → OutsOk K G H ds ps
  | [], _, [], _, _, _ => trivial
  | [], _, _ :: _, _, h, _ => nomatch h
  | _ :: _, _, [], _, h, _ => nomatch h
  | d :: ds, j, p :: ps, hj, hl, h => by
    obtain ⟨⟨i, hi⟩, h2⟩ := h
    obtain ⟨o, h3, q, e, e2, n, _, r⟩ := W.at hi
    have e3 : en.ps[j]? = some p := (hj 0).symm
    rw [e3] at e2
    cases e2
    exact ⟨⟨n, r⟩, Wd.outs W (fun l => by have := hj (l + 1); rw [Nat.add_assoc, Nat.add_comm 1 l]; simpa using this) (by simpa using hl) h2⟩
end
variable {P : Program} {w : World} {K : PySem.W.Frag} {mg : Str → Option Value} {base : Heap}
/-- THE RULE for a def -/
theorem fn_D {x qual : Str} {st : Stmt} {fa : Addr} {fd : FuncData} {N psn : List Str} {k : Nat} {ks : List Kd} {α : Type} {f : List D → Res α} {val : α → D} {outs : α → List D} {mu : Bool}
    (F : L2.Fun K x qual st fa fd) (S : FnScope N psn (defScope st)) (hk : ks.length = psn.length) (nm : Nat) (hnm : ∀ a, (outs a).length = nm) (hms : nms ks = nm)
    (body : ∀ (X : Cx) (en : Kn) (cdv : Value) (A : Around) (outer : List Env) (s : Shared) (H : Hp) (E : XK) (ds : List D), X = cxOf (L2N.CX P w) P w K mg base N qual (defScope st) fa cdv A outer s H E → RoomG k X.A → en.n = N.length → Lk X en → PassesOwn (model X.prog X.w) X.A X.env X.xe → ds.length = ks.length →
      JSs X en (slots0 0 ks ds ++ List.replicate (N.length - ks.length) .un) (defBody st) (fun δ' m' => mu = false ∧ ∃ a, m' = .ok a ∧ val a = .non ∧ OutsAt δ' 0 (outs a)) (fun s δ' m' => ∃ a, m' = .ok a ∧ s.rets mu (val a) ∧ OutsAt δ' 0 (outs a)) (fun _ _ => False) (fun _ _ => False) (f ds)) :
    FnG P w K mg base (k + 1) fa fd psn (SpD K mg ks f val outs mu) := by
  refine fn_G F S (fun vs H Q E h => h.1.trans hk) fun cdv A outer s H vs Q E hr h => ?_
  obtain ⟨hlv, G, ps, ds, r, hG, nd, ha, er, nb, hok, hrs⟩ := h
  subst er
  let en : Kn := ⟨N.length, G, hide H ps, ps, fun o => o = none ∨ o = (f ds).exc, .inl rfl⟩
  obtain ⟨l1, l2⟩ := args_len ha
  have hkN : ks.length ≤ N.length := by
    have := congrArg List.length S.pre
    rw [List.length_take] at this
    omega
  have W := Wd.start (en := en) (N := N) hG rfl rfl nd ha hkN
  have lps : ps.length = nm := (args_ps ha).trans hms
  let X : Cx := cxOf (L2N.CX P w) P w K mg base N qual (defScope st) fa cdv A outer s H E
  have tk : L2N.Takes X (fun cls d _ H => E cls d H) := L2N.takes_of rfl rfl rfl rfl
  have lk : Lk X en := ⟨_, tk, fun x hx cls d σ H' he hs => by
    refine hrs x ?_ cls d H' he hs
    rcases hx with z | z
    · cases z
    · cases e : f ds with
      | raise y => rw [e] at z; cases z; rfl
      | ok _ => rw [e] at z; cases z
      | bad => rw [e] at z; cases z⟩
  have B := body X en cdv A outer s H E ds rfl hr rfl lk (passes_of rfl) l1
  refine ⟨WSs X (defBody st), pss_wss, ?_⟩
  have hlen : (slots0 0 ks ds ++ List.replicate (N.length - ks.length) Slot.un).length = en.n := by
    rw [List.length_append, slots0_len l1, List.length_replicate]
    show _ = N.length
    omega
  have post : ∀ {δ' : List Slot} {σ' : L2.St} {G' H' : Hp}, Wd K en δ' σ' G' H' → Post G H G' H' ps := fun {δ' σ' G' H'} W' => ⟨W'.ext, W'.sub, fun a o e => by
    rcases W'.new a o e with q | ⟨q1, q2⟩
    · exact .inl q
    · refine .inr ?_
      have q1' : hide H ps a = none := q1
      rw [hide_some q2] at q1'
      exact q1', fun a o e n => W'.frm a o (by show hide H ps a = some o; rw [hide_some n]; exact e)⟩
  have ou : ∀ {δ' : List Slot} {σ' : L2.St} {G' H' : Hp} {a : α}, Wd K en δ' σ' G' H' → OutsAt δ' 0 (outs a) → OutsOk K G' H' (outs a) ps := fun {δ' σ' G' H' a} W' h => W'.outs (fun l => by rw [Nat.zero_add]) (by rw [hnm, lps]) h
  refine B.run nb (.inr rfl) (L2.start N vs) G H _ hlen W (fun δ' σ' G' H' ⟨em, a, ea, ev, eo⟩ hl' W' => ?_) (fun sl δ' v σ' G' H' ⟨a, ea, es, eo⟩ hl' W' => ?_) (fun _ _ _ _ z => z.elim) (fun _ _ _ _ z => z.elim)
  · refine hok a ea .non G' H' (post W') (ou W' eo) ?_
    unfold RetOk
    rw [em, if_neg (by decide), ev]
    rfl
  · have W2 := W'.one hl' (by
      have := W'.len
      rw [List.length_append, List.length_append] at this
      have e1 : [sl].length = 1 := rfl
      have e2 : [some v].length = 1 := rfl
      omega)
    refine hok a ea v G' H' (post W2) (ou W2 eo) ?_
    have q := W'.last
    unfold RetOk
    cases mu with
    | true =>
      have es' : sl = .mu (val a) := es
      subst es'
      obtain ⟨p, e, n, f0, np, r⟩ := q
      cases e
      refine ⟨p, rfl, ?_, n, r⟩
      have f0' : hide H ps p = none := f0
      rw [hide_some np] at f0'
      exact f0'
    | false =>
      have es' : sl = .fr (val a) := es
      subst es'
      obtain ⟨u, e, r⟩ := q
      cases e
      exact r
end BR

/-! K8: a def called -/
namespace BR
open PySem PySem.Spec PyProof.Rows L2

def CA (δ : List Slot) : List Kd → List Slot → Option (List D × List Nat)
  | [], [] => some ([], [])
  | .f :: ks, .fr d :: r => match CA δ ks r with
    | some (ds, is) => some (d :: ds, is)
    | none => none
  | .b :: ks, s :: r => match s.rd δ, CA δ ks r with
    | some d, some (ds, is) => some (d :: ds, is)
    | _, _ => none
  | .m :: ks, .bo i :: r => match (Slot.bo i).rd δ, CA δ ks r with
    | some d, some (ds, is) => some (d :: ds, i :: is)
    | _, _ => none
  | _, _ => none
/-- what is read alone is none of the lists that may be changed -/
def sep : List Kd → List Slot → List Nat → Bool
  | .b :: ks, .bo j :: r, is => !is.contains j && sep ks r is
  | _ :: ks, _ :: r, is => sep ks r is
  | _, _, _ => true
def Slot.put : Slot → D → Slot
  | .mu _, d => .mu d
  | .mp j _, d => .mp j d
  | s, _ => s
def putAll : List Slot → List Nat → List D → List Slot
  | Δ, i :: is, d :: ds => putAll (Δ.set i ((Δ.getD i .un).put d)) is ds
  | Δ, _, _ => Δ
section
variable {K : PySem.W.Frag} {en : Kn} {G H : Hp}
theorem sep_get : ∀ {ks : List Kd} {sls : List Slot} {is : List Nat} {l j : Nat}, sep ks sls is = true → ks[l]? = some .b → sls[l]? = some (.bo j) → j ∉ is
  | .b :: ks, .bo j :: r, is, 0, l, h, _, e => by
    have e' : j = l := by simpa using e
    subst e'
    unfold sep at h
    rw [Bool.and_eq_true] at h
    intro hm
    have := h.1
    rw [List.contains_iff_mem.mpr hm] at this
    cases this
  | .b :: ks, .bo j :: r, is, i + 1, l, h, e1, e => by
    unfold sep at h
    rw [Bool.and_eq_true] at h
    exact sep_get (l := i) h.2 (by simpa using e1) (by simpa using e)
  | [], _, _, _, _, _, e, _ => by simp at e
  | _ :: _, [], _, _, _, _, _, e => by simp at e
  | .f :: ks, s :: r, is, 0, l, h, e1, e => by simp at e1
  | .m :: ks, s :: r, is, 0, l, h, e1, e => by simp at e1
  | .f :: ks, s :: r, is, i + 1, l, h, e1, e => sep_get (ks := ks) (sls := r) (l := i) (by simpa [sep] using h) (by simpa using e1) (by simpa using e)
  | .m :: ks, s :: r, is, i + 1, l, h, e1, e => sep_get (ks := ks) (sls := r) (l := i) (by simpa [sep] using h) (by simpa using e1) (by simpa using e)
  | .b :: ks, .un :: r, is, 0, l, h, e1, e => by simp at e
  | .b :: ks, .fr _ :: r, is, 0, l, h, e1, e => by simp at e
  | .b :: ks, .mu _ :: r, is, 0, l, h, e1, e => by simp at e
  | .b :: ks, .mp _ _ :: r, is, 0, l, h, e1, e => by simp at e
  | .b :: ks, .bw _ :: r, is, 0, l, h, e1, e => by simp at e
  | .b :: ks, .un :: r, is, i + 1, l, h, e1, e => sep_get (ks := ks) (sls := r) (l := i) (by simpa [sep] using h) (by simpa using e1) (by simpa using e)
  | .b :: ks, .fr _ :: r, is, i + 1, l, h, e1, e => sep_get (ks := ks) (sls := r) (l := i) (by simpa [sep] using h) (by simpa using e1) (by simpa using e)
  | .b :: ks, .mu _ :: r, is, i + 1, l, h, e1, e => sep_get (ks := ks) (sls := r) (l := i) (by simpa [sep] using h) (by simpa using e1) (by simpa using e)
  | .b :: ks, .mp _ _ :: r, is, i + 1, l, h, e1, e => sep_get (ks := ks) (sls := r) (l := i) (by simpa [sep] using h) (by simpa using e1) (by simpa using e)
  | .b :: ks, .bw _ :: r, is, i + 1, l, h, e1, e => sep_get (ks := ks) (sls := r) (l := i) (by simpa [sep] using h) (by simpa using e1) (by simpa using e)

/-- a thing at hand that is the list of a name -/
theorem bo_own {Δ : List Slot} {S : L2.St} {δ : List Slot} {i : Nat} {d : D} {v : V} (W : Wd K en Δ S G H) (hpre : ∀ (j : Nat) sl, δ[j]? = some sl → Δ[j]? = some sl) (h : SlotOk K en S G H (.bo i) (some v)) (r : (Slot.bo i).rd δ = some d) :
    ∃ p, v = .ref p ∧ Own Δ S i p ∧ i < δ.length ∧ G p = none ∧ MRep K G H d p := by
  obtain ⟨_, h1, p, e⟩ := h
  cases e
  have r' : (match δ[i]? with | some (Slot.mu d) => some d | some (Slot.mp _ d) => some d | _ => none) = some d := r
  split at r'
  · rename_i e2
    cases r'
    have e3 := hpre _ _ e2
    have q := W.slot i _ _ e3 h1
    obtain ⟨p', e4, n, _, _, q⟩ := q
    cases e4
    exact ⟨p, rfl, ⟨_, e3, rfl, h1⟩, (List.getElem?_eq_some_iff.mp e2).1, n, q⟩
  · rename_i e2
    cases r'
    have e3 := hpre _ _ e2
    have q := W.slot i _ _ e3 h1
    obtain ⟨p', e4, _, n, _, q⟩ := q
    cases e4
    exact ⟨p, rfl, ⟨_, e3, rfl, h1⟩, (List.getElem?_eq_some_iff.mp e2).1, n, q⟩
  · cases r'
theorem MRep.vF {F0 : Hp} : ∀ {d : D} {p : Addr}, MRep K G H d p → F0 p = H p → VRep K G F0 d (.ref p)
  | .lst ds, p, h, e => by obtain ⟨vs, e', r⟩ := h; exact ⟨p, vs, rfl, e.trans e', r⟩
  | .dic ds, p, h, e => by obtain ⟨vs, e', r⟩ := h; exact ⟨p, vs, rfl, e.trans e', r⟩
  | .non, _, h, _ => h.elim
  | .bl _, _, h, _ => h.elim
  | .int _, _, h, _ => h.elim
  | .str _, _, h, _ => h.elim
  | .tup _, _, h, _ => h.elim
  | .scr _, _, h, _ => h.elim
  | .exc _ _, _, h, _ => h.elim
  | .obj _ _, _, h, _ => h.elim
theorem ca_ok {Δ : List Slot} {S : L2.St} {δ : List Slot} (W : Wd K en Δ S G H) (hpre : ∀ (j : Nat) sl, δ[j]? = some sl → Δ[j]? = some sl) : ∀ {ks : List Kd} {sls : List Slot} {vs : List V} {ds : List D} {is : List Nat}, CA δ ks sls = some (ds, is) → sls.length = vs.length →
    (∀ (i : Nat) sl v, sls[i]? = some sl → vs[i]? = some v → SlotOk K en S G H sl (some v)) →
    ∃ ps, is.length = ps.length ∧ (∀ (l i : Nat), is[l]? = some i → ∃ p, ps[l]? = some p ∧ Own Δ S i p ∧ i < δ.length) ∧
      ∀ F0, Sub G F0 → Sub en.F0 F0 → (∀ (l : Nat) sl p, ks[l]? = some .b → sls[l]? = some sl → vs[l]? = some (.ref p) → (sl.own = true ∨ ∃ j, sl = .bo j) → F0 p = H p) → ArgsOk K G H F0 ks ds vs ps
  | [], [], [], ds, is, h, _, _ => by
    cases h
    exact ⟨[], rfl, fun l i e => by simp at e, fun _ _ _ _ => trivial⟩
  | .f :: ks, .fr d :: r, v :: vs, ds, is, h, hl, hq => by
    unfold CA at h
    split at h
    · rename_i ds' is' e
      cases h
      obtain ⟨ps, h1, h2, h3⟩ := ca_ok W hpre (vs := vs) e (by simpa using hl) (fun i sl v a b => hq (i + 1) sl v (by simpa using a) (by simpa using b))
      obtain ⟨u, eu, ru⟩ := hq 0 _ v rfl rfl
      cases eu
      exact ⟨ps, h1, h2, fun F0 s1 s2 s3 => ⟨ru, h3 F0 s1 s2 fun l sl p a b c d => s3 (l + 1) sl p (by simpa using a) (by simpa using b) (by simpa using c) d⟩⟩
    · cases h
  | .b :: ks, s :: r, v :: vs, ds, is, h, hl, hq => by
    unfold CA at h
    split at h
    · rename_i d ds' is' e0 e
      cases h
      obtain ⟨ps, h1, h2, h3⟩ := ca_ok W hpre (vs := vs) e (by simpa using hl) (fun i sl v a b => hq (i + 1) sl v (by simpa using a) (by simpa using b))
      have q := hq 0 _ v rfl rfl
      refine ⟨ps, h1, h2, fun F0 s1 s2 s3 => ⟨?_, h3 F0 s1 s2 fun l sl p a b c d => s3 (l + 1) sl p (by simpa using a) (by simpa using b) (by simpa using c) d⟩⟩
      cases s with
      | un => cases e0
      | fr d' => cases e0; obtain ⟨u, eu, ru⟩ := q; cases eu; exact BRep.of s1 ru
      | bw d' => cases e0; obtain ⟨u, eu, ru⟩ := q; cases eu; exact BRep.sub (Sub.refl _) s2 ru
      | mu d' =>
        cases e0
        obtain ⟨p, eu, _, _, _, ru⟩ := q
        cases eu
        exact BRep.mk (ru.vF (s3 0 _ p rfl rfl rfl (.inl rfl))) ru.notup
      | mp j d' =>
        cases e0
        obtain ⟨p, eu, _, _, _, ru⟩ := q
        cases eu
        exact BRep.mk (ru.vF (s3 0 _ p rfl rfl rfl (.inl rfl))) ru.notup
      | bo j =>
        obtain ⟨p, ev, _, _, _, ru⟩ := bo_own W hpre q e0
        subst ev
        exact BRep.mk (ru.vF (s3 0 _ p rfl rfl rfl (.inr ⟨_, rfl⟩))) ru.notup
    · cases h
  | .m :: ks, .bo j :: r, v :: vs, ds, is, h, hl, hq => by
    unfold CA at h
    split at h
    · rename_i d ds' is' e0 e
      cases h
      obtain ⟨ps, h1, h2, h3⟩ := ca_ok W hpre (vs := vs) e (by simpa using hl) (fun i sl v a b => hq (i + 1) sl v (by simpa using a) (by simpa using b))
      obtain ⟨p, ev, ow, hj, n, ru⟩ := bo_own W hpre (hq 0 _ v rfl rfl) e0
      subst ev
      refine ⟨p :: ps, by simp [h1], fun l i e => ?_, fun F0 s1 s2 s3 => ⟨⟨rfl, n, ru⟩, h3 F0 s1 s2 fun l sl p a b c d => s3 (l + 1) sl p (by simpa using a) (by simpa using b) (by simpa using c) d⟩⟩
      cases l with
      | zero =>
        have e' : j = i := by simpa using e
        subst e'
        exact ⟨p, rfl, ow, hj⟩
      | succ l =>
        obtain ⟨p', a, b⟩ := h2 l i (by simpa using e)
        exact ⟨p', by simpa using a, b⟩
    · cases h
  | [], _ :: _, _, _, _, h, _, _ => by cases h
  | [], [], _ :: _, _, _, _, h, _ => nomatch h
  | .f :: _, [], _, _, _, h, _, _ => by cases h
  | .b :: _, [], _, _, _, h, _, _ => by cases h
  | .m :: _, [], _, _, _, h, _, _ => by cases h
  | _ :: _, _ :: _, [], _, _, _, h, _ => nomatch h
  | .f :: _, .un :: _, _ :: _, _, _, h, _, _ => by cases h
  | .f :: _, .mu _ :: _, _ :: _, _, _, h, _, _ => by cases h
  | .f :: _, .mp _ _ :: _, _ :: _, _, _, h, _, _ => by cases h
  | .f :: _, .bw _ :: _, _ :: _, _, _, h, _, _ => by cases h
  | .f :: _, .bo _ :: _, _ :: _, _, _, h, _, _ => by cases h
  | .m :: _, .un :: _, _ :: _, _, _, h, _, _ => by cases h
  | .m :: _, .fr _ :: _, _ :: _, _, _, h, _, _ => by cases h
  | .m :: _, .mu _ :: _, _ :: _, _, _, h, _, _ => by cases h
  | .m :: _, .mp _ _ :: _, _ :: _, _, _, h, _, _ => by cases h
  | .m :: _, .bw _ :: _, _ :: _, _, _, h, _, _ => by cases h

theorem ca_bo : ∀ {δ : List Slot} {ks : List Kd} {sls : List Slot} {ds : List D} {is : List Nat} {l j : Nat}, CA δ ks sls = some (ds, is) → ks[l]? = some .b → sls[l]? = some (.bo j) → ∃ d, (Slot.bo j).rd δ = some d
  | δ, .b :: ks, s :: r, ds, is, 0, j, h, _, e => by
    have e' : s = .bo j := by simpa using e
    subst e'
    unfold CA at h
    split at h
    · rename_i d _ _ e0 _
      exact ⟨d, e0⟩
    · cases h
  | δ, .b :: ks, s :: r, ds, is, l + 1, j, h, e1, e => by
    unfold CA at h
    split at h
    · rename_i d _ _ e0 e2
      exact ca_bo (l := l) e2 (by simpa using e1) (by simpa using e)
    · cases h
  | δ, .f :: ks, .fr _ :: r, ds, is, l + 1, j, h, e1, e => by
    unfold CA at h
    split at h
    · rename_i _ _ e2
      exact ca_bo (l := l) e2 (by simpa using e1) (by simpa using e)
    · cases h
  | δ, .m :: ks, .bo _ :: r, ds, is, l + 1, j, h, e1, e => by
    unfold CA at h
    split at h
    · rename_i d _ _ e0 e2
      exact ca_bo (l := l) e2 (by simpa using e1) (by simpa using e)
    · cases h
  | δ, .f :: ks, _, ds, is, 0, j, h, e1, e => by simp at e1
  | δ, .m :: ks, _, ds, is, 0, j, h, e1, e => by simp at e1
  | δ, [], _, ds, is, _, j, h, e1, e => by simp at e1
  | δ, .b :: ks, [], ds, is, _, j, h, e1, e => by simp at e
  | δ, .f :: ks, [], ds, is, _, j, h, e1, e => by simp at e
  | δ, .m :: ks, [], ds, is, _, j, h, e1, e => by simp at e
  | δ, .f :: _, .un :: _, _, _, _ + 1, _, h, _, _ => by cases h
  | δ, .f :: _, .mu _ :: _, _, _, _ + 1, _, h, _, _ => by cases h
  | δ, .f :: _, .mp _ _ :: _, _, _, _ + 1, _, h, _, _ => by cases h
  | δ, .f :: _, .bw _ :: _, _, _, _ + 1, _, h, _, _ => by cases h
  | δ, .f :: _, .bo _ :: _, _, _, _ + 1, _, h, _, _ => by cases h
  | δ, .m :: _, .un :: _, _, _, _ + 1, _, h, _, _ => by cases h
  | δ, .m :: _, .fr _ :: _, _, _, _ + 1, _, h, _, _ => by cases h
  | δ, .m :: _, .mu _ :: _, _, _, _ + 1, _, h, _, _ => by cases h
  | δ, .m :: _, .mp _ _ :: _, _, _, _ + 1, _, h, _, _ => by cases h
  | δ, .m :: _, .bw _ :: _, _, _, _ + 1, _, h, _, _ => by cases h

theorem putAll_len : ∀ {is : List Nat} {Δ : List Slot} {ds : List D}, (putAll Δ is ds).length = Δ.length
  | [], _, _ => rfl
  | _ :: _, _, [] => rfl
  | i :: is, Δ, d :: ds => by
    unfold putAll
    rw [putAll_len, List.length_set]
theorem putAll_app {τ : List Slot} : ∀ {is : List Nat} {Δ : List Slot} {ds : List D}, (∀ i, i ∈ is → i < Δ.length) → putAll (Δ ++ τ) is ds = putAll Δ is ds ++ τ
  | [], _, _, _ => rfl
  | _ :: _, _, [], _ => rfl
  | i :: is, Δ, d :: ds, h => by
    have hi := h i List.mem_cons_self
    unfold putAll
    rw [List.set_append_left _ _ hi, putAll_app fun j hj => by rw [List.length_set]; exact h j (List.mem_cons_of_mem _ hj)]
    congr 3
    rw [List.getD_eq_getElem?_getD, List.getD_eq_getElem?_getD, List.getElem?_append_left hi]
/-- one list changed, or as it was -/
theorem putAll_get : ∀ {is : List Nat} {Δ : List Slot} {ds : List D} {j : Nat}, is.Nodup → is.length = ds.length →
    (j ∉ is ∧ (putAll Δ is ds)[j]? = Δ[j]?) ∨ ∃ (l : Nat) (d : D), is[l]? = some j ∧ ds[l]? = some d ∧ (putAll Δ is ds)[j]? = (Δ[j]?).map (·.put d)
  | [], _, _, j, _, _ => .inl ⟨by simp, rfl⟩
  | _ :: _, _, [], _, _, h => nomatch h
  | i :: is, Δ, d :: ds, j, nd, hl => by
    unfold putAll
    have nd' := List.nodup_cons.mp nd
    rcases putAll_get (Δ := Δ.set i ((Δ.getD i .un).put d)) (ds := ds) (j := j) nd'.2 (by simpa using hl) with ⟨h1, h2⟩ | ⟨l, d', h1, h2, h3⟩
    · by_cases hj : j = i
      · subst hj
        refine .inr ⟨0, d, rfl, rfl, ?_⟩
        rw [h2]
        by_cases hj : j < Δ.length
        · rw [List.getElem?_set_self hj, List.getD_eq_getElem?_getD, List.getElem?_eq_getElem hj]; rfl
        · rw [List.getElem?_eq_none (by rw [List.length_set]; omega), List.getElem?_eq_none (by omega)]; rfl
      · refine .inl ⟨fun z => ?_, ?_⟩
        · rcases List.mem_cons.mp z with z | z
          · exact hj z
          · exact h1 z
        · rw [h2, List.getElem?_set_ne (Ne.symm hj)]
    · have hj : j ≠ i := fun z => by subst z; exact nd'.1 (List.mem_of_getElem? h1)
      refine .inr ⟨l + 1, d', by simpa using h1, by simpa using h2, ?_⟩
      rw [h3, List.getElem?_set_ne (Ne.symm hj)]
theorem OutsOk.get {G' H' : Hp} : ∀ {ds : List D} {ps : List Addr}, OutsOk K G' H' ds ps → ds.length = ps.length ∧ ∀ (l : Nat) d p, ds[l]? = some d → ps[l]? = some p → G' p = none ∧ MRep K G' H' d p
  | [], [], _ => ⟨rfl, fun l d p h _ => by simp at h⟩
  | d :: ds, p :: ps, h => by
    obtain ⟨h1, h2⟩ := OutsOk.get h.2
    refine ⟨by simp [h1], fun l d' p' a b => ?_⟩
    cases l with
    | zero =>
      have e1 : d = d' := by simpa using a
      have e2 : p = p' := by simpa using b
      subst e1 e2
      exact h.1
    | succ l => exact h2 l d' p' (by simpa using a) (by simpa using b)
  | [], _ :: _, h => h.elim
  | _ :: _, [], h => h.elim
theorem Wd.called {Δ : List Slot} {S : L2.St} {G' H' : Hp} {is : List Nat} {ps : List Addr} {ods : List D} (W : Wd K en Δ S G H) (po : Post G H G' H' ps) (hl : is.length = ps.length) (hi : ∀ (l i : Nat), is[l]? = some i → ∃ p, ps[l]? = some p ∧ Own Δ S i p) (nd : is.Nodup)
    (ou : OutsOk K G' H' ods ps) : Wd K en (putAll Δ is ods) S G' H' := by
  obtain ⟨ol, og⟩ := ou.get
  have psOwn : ∀ p, p ∈ ps → ∃ i, i ∈ is ∧ Own Δ S i p := fun p hp => by
    obtain ⟨l, hl2⟩ := List.getElem?_of_mem hp
    have hll : l < is.length := by rw [hl]; exact (List.getElem?_eq_some_iff.mp hl2).1
    obtain ⟨q, e, o⟩ := hi l is[l] (List.getElem?_eq_getElem hll)
    rw [hl2] at e
    cases e
    exact ⟨_, List.getElem_mem hll, o⟩
  have ownF : ∀ {i p}, Own Δ S i p → en.F0 p = none ∧ G p = none := fun {i p} ⟨sl, e1, e2, e3⟩ => by
    have q := W.slot i sl _ e1 e3
    cases sl with
    | mu d => obtain ⟨p2, e, n, f, _, r⟩ := q; cases e; exact ⟨f, n⟩
    | mp _ d => obtain ⟨p2, e, _, n, f, r⟩ := q; cases e; exact ⟨f, n⟩
    | un => cases e2
    | fr _ => cases e2
    | bw _ => cases e2
    | bo _ => cases e2
  have stillNone : ∀ {p : Addr}, G p = none → H p ≠ none → G' p = none := fun {p} a b => by
    cases z : G' p with
    | none => rfl
    | some o =>
      rcases po.new p o z with q | q
      · rw [a] at q; cases q
      · exact (b q).elim
  have old : ∀ {j : Nat} {sl : Slot} {o : Option V}, Δ[j]? = some sl → S[j]? = some o → (j ∉ is ∨ sl.own = false) → SlotOk K en S G' H' sl o := fun {j sl o} h1 h2 h3 => by
    have q := W.slot j sl o h1 h2
    have np : ∀ p, sl.own = true → o = some (.ref p) → p ∉ ps := fun p a b hp => by
      obtain ⟨i, m, ow⟩ := psOwn p hp
      subst b
      have := W.apart i j p ow ⟨sl, h1, a, h2⟩
      subst this
      rcases h3 with z | z
      · exact z m
      · rw [a] at z; cases z
    cases sl with
    | un => trivial
    | fr d => obtain ⟨v, e, r⟩ := q; exact ⟨v, e, Rep.sub po.g _ _ r⟩
    | mu d =>
      obtain ⟨p, e, n, f, f2, r⟩ := q
      obtain ⟨ob, eo⟩ := r.ex
      exact ⟨p, e, stillNone n (by rw [eo]; simp), f, f2, r.keep po.g fun o' z => po.frm p o' z (np p rfl e)⟩
    | mp l d =>
      obtain ⟨p, e, f2, n, f, r⟩ := q
      obtain ⟨ob, eo⟩ := r.ex
      exact ⟨p, e, f2, stillNone n (by rw [eo]; simp), f, r.keep po.g fun o' z => po.frm p o' z (np p rfl e)⟩
    | bw d => obtain ⟨v, e, r⟩ := q; exact ⟨v, e, BRep.sub po.g (Sub.refl _) r⟩
    | bo l => exact q
  refine ⟨putAll_len.trans W.len, po.gh, W.ext.trans po.g, fun a o e => ?_, fun a o e => ?_, fun a h => ?_, W.nd, fun j sl o h1 h2 => ?_, fun i j p h1 h2 => ?_⟩
  · rcases po.new a o e with q | q
    · exact W.new a o q
    · exact .inr (W.fresh q).2
  · refine po.frm a o (W.frm a o e) fun hp => ?_
    obtain ⟨i, _, ow⟩ := psOwn a hp
    rw [(ownF ow).1] at e; cases e
  · cases z : H a with
    | none => exact fun _ => W.stay a h z
    | some o =>
      by_cases hp : a ∈ ps
      · obtain ⟨l, hl2⟩ := List.getElem?_of_mem hp
        have hll : l < ods.length := by rw [ol]; exact (List.getElem?_eq_some_iff.mp hl2).1
        obtain ⟨_, r⟩ := og l _ a (List.getElem?_eq_getElem hll) hl2
        obtain ⟨o', e⟩ := r.ex
        rw [e]; simp
      · rw [po.frm a o z hp]; simp
  · rcases putAll_get (Δ := Δ) (ds := ods) (j := j) nd (hl.trans ol.symm) with ⟨n, e⟩ | ⟨l, d, e1, e2, e3⟩
    · rw [e] at h1
      exact old h1 h2 (.inl n)
    · obtain ⟨p, hp, sl0, e4, e5, e6⟩ := hi l j e1
      rw [e3, e4] at h1
      cases h1
      rw [e6] at h2
      cases h2
      obtain ⟨g1, r1⟩ := og l d p e2 hp
      have q := W.slot j sl0 _ e4 e6
      cases sl0 with
      | mu d0 => obtain ⟨p2, e, n, f, f2, r⟩ := q; cases e; exact ⟨p, rfl, g1, f, f2, r1⟩
      | mp x d0 => obtain ⟨p2, e, f2, n, f, r⟩ := q; cases e; exact ⟨p, rfl, f2, g1, f, r1⟩
      | un => cases e5
      | fr _ => cases e5
      | bw _ => cases e5
      | bo _ => cases e5
  · have key : ∀ (i : Nat), Own (putAll Δ is ods) S i p → Own Δ S i p := fun i ⟨sl, e1, e2, e3⟩ => by
      rcases putAll_get (Δ := Δ) (ds := ods) (j := i) nd (hl.trans ol.symm) with ⟨n, e⟩ | ⟨l, d, f1, f2, f3⟩
      · rw [e] at e1
        exact ⟨sl, e1, e2, e3⟩
      · obtain ⟨_, _, sl0, e4, e5, e6⟩ := hi l i f1
        exact ⟨sl0, e4, e5, e3⟩
    exact W.apart i j p (key i h1) (key j h2)
end

section
variable {X : Cx} {en : Kn} {δ τ : List Slot} {R : Type} {C : Slot → List Slot → Res R → Prop} {m : Res R}
abbrev Slot.ret (mu : Bool) (d : D) : Slot := match mu with
  | true => .mu d
  | false => .fr d
/-- as JA, for any reading -/
structure JAr (X : Cx) (en : Kn) (δ τ : List Slot) (t : TA) {R : Type} (C : List Slot → List Slot → Res R → Prop) (m : Res R) : Prop where
  run : m ≠ .bad → en.HX m.exc → ∀ (σ ts : L2.St) (G H : Hp) (T : List V → Hp → Prop), δ.length = en.n → σ.length = en.n → Wd X.K en (δ ++ τ) (σ ++ ts) G H →
    (∀ sls δ' vs G' H', C sls δ' m → δ'.length = en.n → Wd X.K en (δ' ++ τ ++ sls) (σ ++ ts ++ vs.map some) G' H' → T vs H') → t σ H T
/-- the errors that a call may let out -/
def OutE (X : Cx) (en : Kn) : XK := fun cls d H' => ∃ x, en.HX (some x) ∧ ExcOk X.mg en.F0 en.ps x cls d H' ∧ Sub en.F0 H'
theorem Lk.passes {X : Cx} {en : Kn} (l : Lk X en) : Passes (L2N.CX X.prog X.w) X (OutE X en) := by
  obtain ⟨WW, tk, hW⟩ := l
  exact L2N.passes_call tk fun cls d σ H ⟨x, h1, h2, h3⟩ => hW x h1 cls d σ H h2 h3
/-- a call's reading -/
theorem call_run {t : TA} {ks : List Kd} {α : Type} {den : List D → Res α} {val : α → D} {outs : α → List D} {mu : Bool}
    (h : JAr X en δ τ t (fun sls δ1 m1 => ∃ ds is k, ∃ pe : α → List Slot, CA δ1 ks sls = some (ds, is) ∧ sep ks sls is = true ∧ is.Nodup ∧ m1 = (den ds).bind k ∧ (∀ a, putAll δ1 is (outs a) = pe a) ∧ ∀ a, den ds = .ok a → C (.ret mu (val a)) (pe a) (k a)) m)
    (hb : m ≠ .bad) (hx : en.HX m.exc) {σ ts : L2.St} {G H : Hp} {T : VK} (hl : δ.length = en.n) (hσ : σ.length = en.n) (W : Wd X.K en (δ ++ τ) (σ ++ ts) G H)
    (q : ∀ sl δ' v G' H', C sl δ' m → δ'.length = en.n → Wd X.K en (δ' ++ τ ++ [sl]) (σ ++ ts ++ [some v]) G' H' → T v H') : tCall (SpD X.K X.mg ks den val outs mu) [] (OutE X en) t σ H T := by
  have ht : τ.length = ts.length := W.splitLen (hl.trans hσ.symm)
  refine h.run hb hx σ ts G H _ hl hσ W fun sls δ1 vs G1 H1 c1 hl1 W1 => ?_
  obtain ⟨ds, is, k, pe, hca, hsep, nd, em, hpe, hk⟩ := c1
  obtain ⟨hn, hq⟩ := W1.endSlots (hl1.trans hσ.symm) ht
  have pre : ∀ (j : Nat) sl, δ1[j]? = some sl → (δ1 ++ τ ++ sls)[j]? = some sl := fun j sl e => by
    rw [List.append_assoc, List.getElem?_append_left (List.getElem?_eq_some_iff.mp e).1]; exact e
  obtain ⟨ps, hlen, hown, hargs⟩ := ca_ok W1 pre hca hn hq
  have W2 := W1.cut (Δ := δ1 ++ τ) (S := σ ++ ts) (by rw [List.length_append, List.length_append]; omega) (by rw [List.length_append]; omega)
  have hown2 : ∀ (l i : Nat), is[l]? = some i → ∃ p, ps[l]? = some p ∧ Own (δ1 ++ τ) (σ ++ ts) i p := fun l i e => by
    obtain ⟨p, e1, ⟨sl, e2, e3, e4⟩, hi⟩ := hown l i e
    refine ⟨p, e1, sl, ?_, e3, ?_⟩
    · rw [List.getElem?_append_left (by rw [List.length_append]; omega)] at e2; exact e2
    · rw [List.getElem?_append_left (by rw [List.length_append]; omega)] at e4; exact e4
  have psOwn : ∀ p, p ∈ ps → ∃ i, i ∈ is ∧ i < δ1.length ∧ Own (δ1 ++ τ ++ sls) (σ ++ ts ++ vs.map some) i p := fun p hp => by
    obtain ⟨l, hl2⟩ := List.getElem?_of_mem hp
    have hll : l < is.length := by rw [hlen]; exact (List.getElem?_eq_some_iff.mp hl2).1
    obtain ⟨p', e, o, hi⟩ := hown l is[l] (List.getElem?_eq_getElem hll)
    rw [hl2] at e
    cases e
    exact ⟨_, List.getElem_mem hll, hi, o⟩
  have ownF : ∀ {i p}, Own (δ1 ++ τ ++ sls) (σ ++ ts ++ vs.map some) i p → en.F0 p = none ∧ G1 p = none := fun {i p} ⟨sl, e1, e2, e3⟩ => by
    have z := W1.slot i sl _ e1 e3
    cases sl with
    | mu d => obtain ⟨p2, e, n, f, _, r⟩ := z; cases e; exact ⟨f, n⟩
    | mp _ d => obtain ⟨p2, e, _, n, f, r⟩ := z; cases e; exact ⟨f, n⟩
    | un => cases e2
    | fr _ => cases e2
    | bw _ => cases e2
    | bo _ => cases e2
  have ndp : ps.Nodup := by
    refine List.pairwise_iff_getElem.mpr fun a b ha2 hb2 hab he => ?_
    have hbi : b < is.length := by rw [hlen]; exact hb2
    obtain ⟨p1, x1, o1, _⟩ := hown a is[a] (List.getElem?_eq_getElem (by omega))
    obtain ⟨p2, x2, o2, _⟩ := hown b is[b] (List.getElem?_eq_getElem hbi)
    rw [List.getElem?_eq_getElem ha2] at x1
    rw [List.getElem?_eq_getElem hb2] at x2
    cases x1
    cases x2
    rw [he] at o1
    have := W1.apart _ _ _ o1 o2
    have := (List.getElem_inj nd).mp this
    omega
  have hsubG : Sub G1 (hide H1 ps) := fun a o e => by
    by_cases hp : a ∈ ps
    · obtain ⟨i, _, _, ow⟩ := psOwn a hp
      rw [(ownF ow).2] at e; cases e
    · rw [hide_some hp]; exact W1.sub a o e
  have hsubF : Sub en.F0 (hide H1 ps) := fun a o e => by
    by_cases hp : a ∈ ps
    · obtain ⟨i, _, _, ow⟩ := psOwn a hp
      rw [(ownF ow).1] at e; cases e
    · rw [hide_some hp]; exact W1.frm a o e
  have ha := hargs (hide H1 ps) hsubG hsubF fun l sl p a b c d => by
    refine hide_some fun hp => ?_
    obtain ⟨i, him, hi, ow⟩ := psOwn p hp
    rcases d with d | ⟨j, d⟩
    · have e2 : (δ1 ++ τ ++ sls)[(δ1 ++ τ).length + l]? = some sl := by
        rw [List.getElem?_append_right (Nat.le_add_right _ _), Nat.add_sub_cancel_left]; exact b
      have e3 : (σ ++ ts ++ vs.map some)[(δ1 ++ τ).length + l]? = some (some (V.ref p)) := by
        have z : (δ1 ++ τ).length = (σ ++ ts).length := by rw [List.length_append, List.length_append]; omega
        rw [z, List.getElem?_append_right (Nat.le_add_right _ _), Nat.add_sub_cancel_left, List.getElem?_map, c]; rfl
      have := W1.apart i _ p ow ⟨sl, e2, d, e3⟩
      rw [List.length_append] at this
      omega
    · subst d
      have hj := sep_get hsep a b
      have z := hq l _ _ b c
      obtain ⟨_, z1, p', z2⟩ := z
      cases z2
      -- the name's own slot
      have hrd : ∃ d, (Slot.bo j).rd δ1 = some d := ca_bo hca a b
      obtain ⟨d, hd⟩ := hrd
      obtain ⟨p3, e3, ow3, _⟩ := bo_own W1 pre (hq l _ _ b c) hd
      cases e3
      have := W1.apart i j p ow ow3
      subst this
      exact hj him
  rw [List.append_nil]
  have hb' := hb
  rw [em] at hb'
  have hx' := hx
  rw [em] at hx'
  obtain ⟨hbd, hxd⟩ := bind_exc hb' hx'
  obtain ⟨l1, l2⟩ := args_len ha
  refine ⟨l2, G1, ps, ds, den ds, W1.sub, ndp, ha, rfl, hbd, fun a ea v G' H' po ou re => ?_, fun x ex cls d H' he hs => ?_⟩
  · have em' : m = k a := by rw [em, ea]; rfl
    have W3 := W2.called po hlen hown2 nd ou
    rw [putAll_app fun i hi => by
      obtain ⟨l, e⟩ := List.getElem?_of_mem hi
      exact (hown l i e).choose_spec.2.2, hpe a] at W3
    have hl3 : (pe a).length = en.n := by rw [← hpe a, putAll_len]; exact hl1
    refine q (.ret mu (val a)) (pe a) v G' H' (by rw [em']; exact hk a ea) hl3 ?_
    refine W3.more ?_ ?_
    · unfold RetOk at re
      cases mu with
      | true =>
        obtain ⟨p, e, n1, n2, r⟩ := re
        exact ⟨p, by rw [e], n2, (W2.fresh n1).2.1, (W2.fresh n1).2.2, r⟩
      | false => exact ⟨v, rfl, re⟩
    · intro p j e1 e2 ow
      unfold RetOk at re
      cases mu with
      | true =>
        obtain ⟨p', e, n1, n2, r⟩ := re
        cases e2
        cases e
        have : ∃ j', Own (δ1 ++ τ) (σ ++ ts) j' p := by
          obtain ⟨sl, f1, f2, f3⟩ := ow
          rw [← hpe a, ← putAll_app fun i hi => by
            obtain ⟨l, e⟩ := List.getElem?_of_mem hi
            exact (hown l i e).choose_spec.2.2] at f1
          rcases putAll_get (Δ := δ1 ++ τ) (ds := outs a) (j := j) nd (hlen.trans ou.get.1.symm) with ⟨n, e⟩ | ⟨l, d, g1, g2, g3⟩
          · rw [e] at f1
            exact ⟨j, sl, f1, f2, f3⟩
          · obtain ⟨_, _, sl0, e4, e5, e6⟩ := hown2 l j g1
            exact ⟨j, sl0, e4, e5, f3⟩
        obtain ⟨j', ow'⟩ := this
        obtain ⟨o, z⟩ := W2.ownThere ow'
        rw [n1] at z; cases z
      | false => cases e1
  · have em' : m = .raise x := by rw [em, ex]; rfl
    rw [em'] at hx
    exact ⟨x, hx, W1.exc he, hsubF.trans hs⟩
/-- a call of a def -/
theorem call_D {e : Expr} {t : TA} {ks : List Kd} {α : Type} {den : List D → Res α} {val : α → D} {outs : α → List D} {mu : Bool} (hL : Lk X en)
    (rule : ∀ {E : XK}, Passes (L2N.CX X.prog X.w) X E → PE X e (tCall (SpD X.K X.mg ks den val outs mu) [] E t))
    (h : JAr X en δ τ t (fun sls δ1 m1 => ∃ ds is k, ∃ pe : α → List Slot, CA δ1 ks sls = some (ds, is) ∧ sep ks sls is = true ∧ is.Nodup ∧ m1 = (den ds).bind k ∧ (∀ a, putAll δ1 is (outs a) = pe a) ∧ ∀ a, den ds = .ok a → C (.ret mu (val a)) (pe a) (k a)) m) :
    JE X en δ τ e C m := .mk fun hb hx σ ts G H T hl hσ W q => we_of (rule hL.passes) (call_run h hb hx hl hσ W q)
end
end BR

/-! K9: a def's facts in one, comprehensions -/
namespace BR
open PySem PySem.Spec PyProof.Rows L2

/-- a def of the module that keeps its promise -/
def Df (P : Program) (w : World) (K : PySem.W.Frag) (mg : Str → Option Value) (base : Heap) (k : Nat) (x : Str) (ks : List Kd) {α : Type} (den : List D → Res α) (val : α → D) (outs : α → List D) (mu : Bool) : Prop :=
  ∃ (f : Addr) (fd : FuncData) (psn : List Str), FnG P w K mg base k f fd psn (SpD K mg ks den val outs mu) ∧ mg x = some (.ref f) ∧ PySem.W.keepIn K (.ref f) = true ∧ Binds K fd psn []
section
variable {X : Cx} {en : Kn} {δ τ : List Slot} {R : Type} {C : Slot → List Slot → Res R → Prop} {m : Res R} {K : PySem.W.Frag}
theorem je_call {k : Nat} {x : Str} {p pos : Pos} {e : Expr} {es : List Expr} {ks : List Kd} {α : Type} {den : List D → Res α} {val : α → D} {outs : α → List D} {mu : Bool}
    (F : Df X.prog X.w X.K X.mg X.base k x ks den val outs mu) (hr : RoomG k X.A) (hL : Lk X en)
    (h : JA X en δ τ (e :: es) (fun sls δ1 m1 => ∃ ds is k, ∃ pe : α → List Slot, CA δ1 ks sls = some (ds, is) ∧ sep ks sls is = true ∧ is.Nodup ∧ m1 = (den ds).bind k ∧ (∀ a, putAll δ1 is (outs a) = pe a) ∧ ∀ a, den ds = .ok a → C (.ret mu (val a)) (pe a) (k a)) m)
    (hg : Gl X x := by rfl) (hdb : (x == ("__debug__" : Str)) = false := by decide) (he : starEach (e :: es) X.env = (false, eval e X.env) :: starEach es X.env := by exact star_plain rfl) (hpl : (backTo pos (starEach es X.env)).any (·.1) = false := by rfl) :
    JE X en δ τ (.Call (.Name x p) (e :: es) [] pos) C m := by
  obtain ⟨f, fd, psn, hf, hm, hk, hb⟩ := F
  exact call_D (t := WA X (e :: es)) hL (fun hx => pe_callG hf hr hg hm hk hb .nil hx pa_wa hdb he hpl) ⟨h.run⟩
end

/-! ### comprehensions -/
/-- a walk that keeps what f gives, with a state -/
def lcF {S : Type} : List D → S → List D → (D → S → Res (Option D × S)) → Res (List D × S)
  | [], s, acc, _ => .ok (acc, s)
  | d :: ds, s, acc, f => match f d s with
    | .ok (some y, s') => if acc.length < sizeLine then lcF ds s' (acc ++ [y]) f else .bad
    | .ok (none, s') => lcF ds s' acc f
    | _ => .bad
def lcM (ds : List D) (f : D → Res D) : Res (List D) := (lcF ds () [] fun d _ => (f d).bind fun y => .ok (some y, ())).bind fun p => .ok p.1
def lcO (ds : List D) (f : D → Res (Option D)) : Res (List D) := (lcF ds () [] fun d _ => (f d).bind fun y => .ok (y, ())).bind fun p => .ok p.1
def lcS {S : Type} (ds : List D) (s : S) (f : D → S → Res (D × S)) : Res (List D × S) := lcF ds s [] fun d s => (f d s).bind fun y => .ok (some y.1, y.2)
/-- the block's own names aren't known in it -/
def wipeS (δ : List Slot) : List Nat → List Slot
  | [] => δ
  | v :: vs => (wipeS δ vs).set v .un
/-- .. and are as they were behind it -/
def rst (δ1 : List Slot) : List Nat → List Slot → List Slot
  | [], δ => δ
  | v :: vs, δ => (rst δ1 vs δ).set v (match δ1[v]? with
    | some (.fr d) => .fr d
    | some (.bw d) => .bw d
    | _ => .un)
structure KnB (en en' : Kn) : Prop where
  n : en'.n = en.n
  F0 : en'.F0 = en.F0
  ps : en'.ps = en.ps
  HX : en'.HX = fun o => o = none
abbrev Kn.blk (en : Kn) (G : Hp) : Kn := { n := en.n, G0 := G, F0 := en.F0, ps := en.ps, HX := fun o => o = none, h0 := rfl }
theorem KnB.lk {X : Cx} {en en' : Kn} (h : KnB en en') {s : Shared} {H : Hp} {scope : Scope} {cenv : Env} {fp : List Addr} : Lk (X.blk s H scope cenv fp) en' :=
  ⟨fun _ _ _ _ => False, takes0N, fun x hx => by rw [h.HX] at hx; cases hx⟩
section
variable {K : PySem.W.Frag} {en : Kn} {δ δ' τ Ξ : List Slot} {σ σ' ts us : L2.St} {G H G' H' : Hp}
theorem wipeS_len : ∀ (vs : List Nat), (wipeS δ vs).length = δ.length
  | [] => rfl
  | v :: vs => by unfold wipeS; rw [List.length_set, wipeS_len vs]
theorem rst_len {δ1 : List Slot} : ∀ (vs : List Nat), (rst δ1 vs δ).length = δ.length
  | [] => rfl
  | v :: vs => by unfold rst; rw [List.length_set, rst_len vs]
theorem wipe_get {i : Nat} : ∀ {vs : List Nat}, i ∉ vs → (wipe σ vs)[i]? = σ[i]?
  | [], _ => rfl
  | v :: vs, h => by
    unfold wipe
    rw [List.getElem?_set_ne (fun e => h (by rw [e]; exact List.mem_cons_self)), wipe_get fun z => h (List.mem_cons_of_mem _ z)]
theorem wipeS_get {i : Nat} {sl : Slot} : ∀ {vs : List Nat}, (wipeS δ vs)[i]? = some sl → sl = .un ∨ (i ∉ vs ∧ δ[i]? = some sl)
  | [], h => .inr ⟨by simp, h⟩
  | v :: vs, h => by
    unfold wipeS at h
    by_cases hi : v = i
    · subst hi
      by_cases hv : v < (wipeS δ vs).length
      · rw [List.getElem?_set_self hv] at h; cases h; exact .inl rfl
      · rw [List.getElem?_eq_none (by rw [List.length_set]; omega)] at h; cases h
    · rw [List.getElem?_set_ne hi] at h
      rcases wipeS_get h with z | ⟨z1, z2⟩
      · exact .inl z
      · refine .inr ⟨fun z => ?_, z2⟩
        rcases List.mem_cons.mp z with z | z
        · exact hi z.symm
        · exact z1 z
theorem rst_get {δ1 : List Slot} {i : Nat} {sl : Slot} : ∀ {vs : List Nat}, (rst δ1 vs δ)[i]? = some sl → (i ∉ vs ∧ δ[i]? = some sl) ∨ (i ∈ vs ∧ (sl = .un ∨ (δ1[i]? = some sl ∧ ((∃ d, sl = .fr d) ∨ ∃ d, sl = .bw d))))
  | [], h => .inl ⟨by simp, h⟩
  | v :: vs, h => by
    unfold rst at h
    by_cases hi : v = i
    · subst hi
      by_cases hv : v < (rst δ1 vs δ).length
      · rw [List.getElem?_set_self hv] at h
        refine .inr ⟨List.mem_cons_self, ?_⟩
        split at h
        · rename_i d e; cases h; exact .inr ⟨e, .inl ⟨d, rfl⟩⟩
        · rename_i d e; cases h; exact .inr ⟨e, .inr ⟨d, rfl⟩⟩
        · cases h; exact .inl rfl
      · rw [List.getElem?_eq_none (by rw [List.length_set]; omega)] at h; cases h
    · rw [List.getElem?_set_ne hi] at h
      rcases rst_get h with ⟨z1, z2⟩ | ⟨z1, z2⟩
      · refine .inl ⟨fun z => ?_, z2⟩
        rcases List.mem_cons.mp z with z | z
        · exact hi z.symm
        · exact z1 z
      · exact .inr ⟨List.mem_cons_of_mem _ z1, z2⟩
theorem wipe_eq {vs : List Nat} (h : ∀ j : Nat, j ∉ vs → σ'[j]? = σ[j]?) (hl : σ'.length = σ.length) : wipe σ' vs = wipe σ vs := by
  refine List.ext_getElem? fun j => ?_
  by_cases hj : j ∈ vs
  · have z : ∀ {σ : L2.St}, ∀ {vs : List Nat}, j ∈ vs → (wipe σ vs)[j]? = if j < σ.length then some none else none := fun {σ} => by
      intro vs
      induction vs with
      | nil => intro h; simp at h
      | cons v vs ih =>
        intro h
        unfold wipe
        by_cases e : v = j
        · subst e
          by_cases hv : v < σ.length
          · rw [List.getElem?_set_self (by rw [wipe_length]; exact hv), if_pos hv]
          · rw [List.getElem?_eq_none (by rw [List.length_set, wipe_length]; omega), if_neg hv]
        · rw [List.getElem?_set_ne e]
          rcases List.mem_cons.mp h with z | z
          · exact (e z.symm).elim
          · exact ih z
    rw [z hj, z hj, hl]
  · rw [wipe_get hj, wipe_get hj]
    exact h j hj
/-- the block's names forgotten -/
theorem Wd.wiped {vs : List Nat} (W : Wd K en (δ ++ τ) (σ ++ ts) G H) (hl : δ.length = en.n) (hσ : σ.length = en.n) (hb : noBo (δ ++ τ) = true) : Wd K en (wipeS δ vs ++ τ) (L2.wipe σ vs ++ ts) G H := by
  have hw : (L2.wipe σ vs).length = en.n := by rw [wipe_length]; exact hσ
  have hw2 : (wipeS δ vs).length = en.n := by rw [wipeS_len]; exact hl
  have get : ∀ (i : Nat) sl, (wipeS δ vs ++ τ)[i]? = some sl → sl = .un ∨ ((δ ++ τ)[i]? = some sl ∧ (L2.wipe σ vs ++ ts)[i]? = (σ ++ ts)[i]?) := fun i sl h => by
    by_cases hi : i < en.n
    · rw [List.getElem?_append_left (by omega)] at h
      rcases wipeS_get h with z | ⟨z1, z2⟩
      · exact .inl z
      · refine .inr ⟨by rw [List.getElem?_append_left (by omega)]; exact z2, ?_⟩
        rw [List.getElem?_append_left (by omega), List.getElem?_append_left (by omega), wipe_get z1]
    · rw [List.getElem?_append_right (by omega), hw2, ← hl, ← List.getElem?_append_right (by omega)] at h
      refine .inr ⟨h, ?_⟩
      rw [List.getElem?_append_right (by omega), List.getElem?_append_right (by omega), hw, hσ]
  refine ⟨?_, W.sub, W.ext, W.new, W.frm, W.stay, W.nd, fun i sl o h1 h2 => ?_, fun i j p h1 h2 => ?_⟩
  · have := W.len
    rw [List.length_append, List.length_append] at this ⊢
    omega
  · rcases get i sl h1 with z | ⟨z1, z2⟩
    · subst z; trivial
    · rw [z2] at h2
      have q := W.slot i sl o z1 h2
      cases sl with
      | bo j => exact (noBo_get hb z1).elim
      | un => trivial
      | fr d => exact q
      | mu d => exact q
      | mp _ d => exact q
      | bw d => exact q
  · have key : ∀ (i : Nat), Own (wipeS δ vs ++ τ) (L2.wipe σ vs ++ ts) i p → Own (δ ++ τ) (σ ++ ts) i p := fun i ⟨sl, e1, e2, e3⟩ => by
      rcases get i sl e1 with z | ⟨z1, z2⟩
      · subst z; cases e2
      · exact ⟨sl, z1, e2, by rw [← z2]; exact e3⟩
    exact W.apart i j p (key i h1) (key j h2)
theorem Wd.toBlk {Δ : List Slot} {S : L2.St} (W : Wd K en Δ S G H) : Wd K (en.blk G) Δ S G H :=
  ⟨W.len, W.sub, Sub.refl _, fun a o e => .inl e, W.frm, W.stay, W.nd, fun i sl o h1 h2 => by
    have q := W.slot i sl o h1 h2
    cases sl <;> exact q, W.apart⟩
/-- a list of one's own changed -/
theorem Wd.mut {Δ : List Slot} {S : L2.St} {i : Nat} {p : Addr} {o' : HO} {d' : D} (W : Wd K en Δ S G H) (ow : Own Δ S i p) (r : MRep K G (upd H p o') d' p) : Wd K en (Δ.set i ((Δ.getD i .un).put d')) S G (upd H p o') := by
  obtain ⟨sl0, e1, e2, e3⟩ := ow
  have hi := (List.getElem?_eq_some_iff.mp e1).1
  have own0 : Own Δ S i p := ⟨sl0, e1, e2, e3⟩
  have q0 := W.slot i sl0 _ e1 e3
  have fG : en.F0 p = none ∧ G p = none := by
    cases sl0 with
    | mu d => obtain ⟨p2, e, n, f, _, r⟩ := q0; cases e; exact ⟨f, n⟩
    | mp _ d => obtain ⟨p2, e, _, n, f, r⟩ := q0; cases e; exact ⟨f, n⟩
    | un => cases e2
    | fr _ => cases e2
    | bw _ => cases e2
    | bo _ => cases e2
  have hd : Δ.getD i .un = sl0 := by rw [List.getD_eq_getElem?_getD, e1]; rfl
  refine ⟨by rw [List.length_set]; exact W.len, fun a o e => ?_, W.ext, W.new, fun a o e => ?_, fun a h => ?_, W.nd, fun j sl o h1 h2 => ?_, fun j l q h1 h2 => ?_⟩
  · rw [upd_ne (fun z => by subst z; rw [fG.2] at e; cases e)]; exact W.sub a o e
  · rw [upd_ne (fun z => by subst z; rw [fG.1] at e; cases e)]; exact W.frm a o e
  · by_cases z : a = p
    · subst z; rw [upd_same]; simp
    · rw [upd_ne z]; exact W.stay a h
  · by_cases hj : j = i
    · subst hj
      rw [List.getElem?_set_self hi] at h1
      cases h1
      rw [e3] at h2
      cases h2
      rw [hd]
      cases sl0 with
      | mu d => obtain ⟨p2, e, n, f, f2, _⟩ := q0; cases e; exact ⟨p, rfl, n, f, f2, r⟩
      | mp x d => obtain ⟨p2, e, f2, n, f, _⟩ := q0; cases e; exact ⟨p, rfl, f2, n, f, r⟩
      | un => cases e2
      | fr _ => cases e2
      | bw _ => cases e2
      | bo _ => cases e2
    · rw [List.getElem?_set_ne (Ne.symm hj)] at h1
      have q := W.slot j sl o h1 h2
      have np : ∀ q, sl.own = true → o = some (.ref q) → q ≠ p := fun x a b z => by
        subst z b
        exact hj (W.apart j i x ⟨sl, h1, a, h2⟩ own0)
      cases sl with
      | un => trivial
      | fr d => exact q
      | mu d => obtain ⟨x, e, n, f, f2, r⟩ := q; exact ⟨x, e, n, f, f2, r.keep (Sub.refl _) fun o z => by rw [upd_ne (np x rfl e)]; exact z⟩
      | mp _ d => obtain ⟨x, e, f2, n, f, r⟩ := q; exact ⟨x, e, f2, n, f, r.keep (Sub.refl _) fun o z => by rw [upd_ne (np x rfl e)]; exact z⟩
      | bw d => exact q
      | bo _ => exact q
  · have key : ∀ (j : Nat), Own (Δ.set i ((Δ.getD i .un).put d')) S j q → Own Δ S j q := fun j ⟨sl, f1, f2, f3⟩ => by
      by_cases hj : j = i
      · subst hj
        rw [List.getElem?_set_self hi] at f1
        exact ⟨sl0, e1, e2, f3⟩
      · rw [List.getElem?_set_ne (Ne.symm hj)] at f1
        exact ⟨sl, f1, f2, f3⟩
    exact W.apart j l q (key j h1) (key l h2)
/-- out of the block -/
theorem Wd.outof {vs : List Nat} {δ1 : List Slot} (W : Wd K en (δ1 ++ τ) (σ ++ ts) G H) (W' : Wd K (en.blk G) (δ ++ Ξ) (wipe σ vs ++ us) G' H') (h1 : δ1.length = en.n) (hl : δ.length = en.n) (hσ : σ.length = en.n) (hb : noBo (δ ++ Ξ) = true) : Wd K en (rst δ1 vs δ ++ Ξ) (σ ++ us) G' H' := by
  have hw : (wipe σ vs).length = en.n := by rw [wipe_length]; exact hσ
  have hw2 : (rst δ1 vs δ).length = en.n := by rw [rst_len]; exact hl
  have sG : Sub G G' := W'.ext
  have get : ∀ (i : Nat) sl, (rst δ1 vs δ ++ Ξ)[i]? = some sl → ((δ ++ Ξ)[i]? = some sl ∧ (wipe σ vs ++ us)[i]? = (σ ++ us)[i]?) ∨ (i < en.n ∧ (sl = .un ∨ (δ1[i]? = some sl ∧ ((∃ d, sl = .fr d) ∨ ∃ d, sl = .bw d)))) := fun i sl h => by
    by_cases hi : i < en.n
    · rw [List.getElem?_append_left (by omega)] at h
      rcases rst_get h with ⟨z1, z2⟩ | ⟨z1, z2⟩
      · refine .inl ⟨by rw [List.getElem?_append_left (by omega)]; exact z2, ?_⟩
        rw [List.getElem?_append_left (by omega), List.getElem?_append_left (by omega), wipe_get z1]
      · exact .inr ⟨hi, z2⟩
    · rw [List.getElem?_append_right (by omega), hw2, ← hl, ← List.getElem?_append_right (by omega)] at h
      refine .inl ⟨h, ?_⟩
      rw [List.getElem?_append_right (by omega), List.getElem?_append_right (by omega), hw, hσ]
  refine ⟨?_, W'.sub, W.ext.trans sG, fun a o e => ?_, W'.frm, W'.stay, W'.nd, fun i sl o e1 e2 => ?_, fun i j p e1 e2 => ?_⟩
  · have := W'.len
    rw [List.length_append, List.length_append] at this ⊢
    omega
  · rcases W'.new a o e with q | q
    · exact W.new a o q
    · exact .inr q
  · rcases get i sl e1 with ⟨z1, z2⟩ | ⟨hi, z⟩
    · rw [← z2] at e2
      have q := W'.slot i sl o z1 e2
      cases sl with
      | bo j => exact (noBo_get hb z1).elim
      | un => trivial
      | fr d => exact q
      | mu d => exact q
      | mp _ d => exact q
      | bw d => exact q
    · rcases z with z | ⟨z, z'⟩
      · subst z; trivial
      · have q := W.slot i sl o (by rw [List.getElem?_append_left (by omega)]; exact z) (by
          rw [List.getElem?_append_left (by omega)] at e2 ⊢; exact e2)
        rcases z' with ⟨d, z'⟩ | ⟨d, z'⟩
        · subst z'
          obtain ⟨v, ev, r⟩ := q
          exact ⟨v, ev, Rep.sub sG _ _ r⟩
        · subst z'
          obtain ⟨v, ev, r⟩ := q
          exact ⟨v, ev, BRep.sub sG (Sub.refl _) r⟩
  · have key : ∀ (i : Nat), Own (rst δ1 vs δ ++ Ξ) (σ ++ us) i p → Own (δ ++ Ξ) (wipe σ vs ++ us) i p := fun i ⟨sl, f1, f2, f3⟩ => by
      rcases get i sl f1 with ⟨z1, z2⟩ | ⟨hi, z⟩
      · exact ⟨sl, z1, f2, by rw [z2]; exact f3⟩
      · rcases z with z | ⟨z, ⟨d, z'⟩ | ⟨d, z'⟩⟩
        · subst z; cases f2
        · subst z'; cases f2
        · subst z'; cases f2
    exact W'.apart i j p (key i e1) (key j e2)
end
section
variable {X : Cx} {en : Kn} {δ τ : List Slot} {R : Type} {C : Slot → List Slot → Res R → Prop} {m : Res R} {K : PySem.W.Frag}
theorem lcF_step {S : Type} {d : D} {ds : List D} {s : S} {acc : List D} {f : D → S → Res (Option D × S)} {k : List D × S → Res R} (h : (lcF (d :: ds) s acc f).bind k ≠ .bad) :
    (∃ y s', f d s = .ok (some y, s') ∧ acc.length < sizeLine ∧ lcF (d :: ds) s acc f = lcF ds s' (acc ++ [y]) f) ∨ ∃ s', f d s = .ok (none, s') ∧ lcF (d :: ds) s acc f = lcF ds s' acc f := by
  have e : lcF (d :: ds) s acc f = (match f d s with
    | .ok (some y, s') => if acc.length < sizeLine then lcF ds s' (acc ++ [y]) f else .bad
    | .ok (none, s') => lcF ds s' acc f
    | _ => .bad) := rfl
  rw [e] at h ⊢
  match hf : f d s with
  | .ok (some y, s') =>
    rw [hf] at h
    simp only at h ⊢
    by_cases hz : acc.length < sizeLine
    · exact .inl ⟨y, s', rfl, hz, if_pos hz⟩
    · rw [if_neg hz] at h; exact (h rfl).elim
  | .ok (none, s') => exact .inr ⟨s', rfl, rfl⟩
  | .raise x => rw [hf] at h; exact (h rfl).elim
  | .bad => rw [hf] at h; exact (h rfl).elim
/-- in every block of this scope -/
def AllB (X : Cx) (scope : Scope) (P : Cx → Prop) : Prop := ∀ (s0 : Shared) (H0 : Hp) (C : Addr) (cl : List (Str × Addr)) (fp : List Addr), P (X.blk s0 H0 scope (compEnvC scope cl C X.env) fp)
/-- a comprehension's block, for one item: the target, the test (or none), the element -/
def TurnE (X : Cx) (scope : Scope) (en : Kn) (δ τ : List Slot) (elt : Expr) {S : Type} (pe : S → List Slot) (vs : List Nat) (m : Res (Option D × S)) : Prop :=
  AllB X scope fun Y => JE Y en δ τ elt (fun s δ3 m3 => ∃ y a', s = .fr y ∧ m3 = .ok (some y, a') ∧ Le (wipeS δ3 vs) (pe a') ∧ noBo δ3 = true) m
def TurnT (X : Cx) (scope : Scope) (en : Kn) (δ τ : List Slot) (ifs : List Expr) (elt : Expr) {S : Type} (pe : S → List Slot) (vs : List Nat) (m : Res (Option D × S)) : Prop :=
  match ifs with
  | [] => TurnE X scope en δ τ elt pe vs m
  | [c] => AllB X scope fun Y => JT Y en δ τ c (fun b δ3 m3 => ∃ mA mF, m3 = (if b = true then mA else mF) ∧ TurnE X scope en δ3 τ elt pe vs mA ∧ ∃ a', mF = .ok (none, a') ∧ Le (wipeS δ3 vs) (pe a') ∧ noBo δ3 = true) m
  | _ => False
def Turn1 (X : Cx) (scope : Scope) (en : Kn) (δ τ : List Slot) (tg : Expr) (ifs : List Expr) (elt : Expr) (d : D) {S : Type} (pe : S → List Slot) (vs : List Nat) (m : Res (Option D × S)) : Prop :=
  AllB X scope fun Y => ∃ is, (∀ i, i ∈ is → i ∈ vs) ∧ JG Y en δ τ tg d is (fun δ2 m2 => TurnT X scope en δ2 τ ifs elt pe vs m2) m
theorem le_app : ∀ {a b c d : List Slot}, Le a b → Le c d → Le (a ++ c) (b ++ d)
  | [], [], _, _, _, h => h
  | _ :: _, _ :: _, _, _, h1, h => ⟨h1.1, le_app h1.2 h⟩
  | [], _ :: _, _, _, h, _ => h.elim
  | _ :: _, [], _, _, h, _ => h.elim
theorem noBo_app : ∀ {a b : List Slot}, noBo (a ++ b) = true ↔ noBo a = true ∧ noBo b = true
  | [], b => by simp [noBo]
  | .bo _ :: _, _ => by simp [noBo]
  | .un :: a, b => by simpa [noBo] using noBo_app (a := a) (b := b)
  | .fr _ :: a, b => by simpa [noBo] using noBo_app (a := a) (b := b)
  | .mu _ :: a, b => by simpa [noBo] using noBo_app (a := a) (b := b)
  | .mp _ _ :: a, b => by simpa [noBo] using noBo_app (a := a) (b := b)
  | .bw _ :: a, b => by simpa [noBo] using noBo_app (a := a) (b := b)
theorem noBo_of {a : List Slot} (h : ∀ (i j : Nat), a[i]? ≠ some (.bo j)) : noBo a = true := by
  induction a with
  | nil => rfl
  | cons s r ih =>
    have ih := ih fun i j e => h (i + 1) j (by simpa using e)
    cases s with
    | bo j => exact (h 0 j rfl).elim
    | un => exact ih
    | fr _ => exact ih
    | mu _ => exact ih
    | mp _ _ => exact ih
    | bw _ => exact ih
theorem noBo_le {a b : List Slot} (h : Le a b) (ha : noBo a = true) : noBo b = true := noBo_of fun i j e => by
  rcases h.get e with z | z
  · cases z
  · exact noBo_get ha z
theorem noBo_wipeS {a : List Slot} {vs : List Nat} (ha : noBo a = true) : noBo (wipeS a vs) = true := noBo_of fun i j e => by
  rcases wipeS_get e with z | ⟨_, z⟩
  · cases z
  · exact noBo_get ha z
abbrev gB (X : Cx) (scope : Scope) (tg : Expr) : TG := fun v σ H Q => AllB X scope fun Y => WG Y tg v σ H Q
abbrev tB (X : Cx) (scope : Scope) (ifs : List Expr) : TT := fun σ H Q => AllB X scope fun Y => ∀ (pins : List (Addr × Obj)) (s : Shared), Inv Y pins σ H s →
  wpAny (model Y.prog Y.w) Y.A (forIn ifs true fun c r => if r = true then do let ok ← isTrue c Y.env (eval c Y.env); pure (ForInStep.yield ok) else pure (ForInStep.yield r)) (TP Y pins σ Q) Y.xe s
abbrev eB (X : Cx) (scope : Scope) (elt : Expr) : TE := fun σ H Q => AllB X scope fun Y => WE Y elt σ H Q
theorem Wd.endMut {Δ : List Slot} {S : L2.St} {G H : Hp} {Dn : Addr} {acc : List D} {y : D} {v : V} (W : Wd K en (Δ ++ [.mu (.lst acc)] ++ [.fr y]) (S ++ [some (.ref Dn)] ++ [some v]) G H) (hl : Δ.length = S.length) (hn : en.n ≤ S.length) :
    ∃ vs, H Dn = some (.lst vs) ∧ vs.length = acc.length ∧ Wd K en (Δ ++ [.mu (.lst (acc ++ [y]))]) (S ++ [some (.ref Dn)]) G (upd H Dn (.lst (vs ++ [v]))) := by
  obtain ⟨v', e, ry⟩ := W.last
  cases e
  have W1 : Wd K en (Δ ++ [.mu (.lst acc)]) (S ++ [some (.ref Dn)]) G H := W.cut (by rw [List.length_append, List.length_append, hl]; rfl) (by rw [List.length_append]; omega)
  obtain ⟨p, e, n, f, f2, vs, ev, r⟩ := W1.last
  cases e
  refine ⟨vs, ev, r.length.symm, ?_⟩
  have := W1.mut (i := Δ.length) (p := Dn) (o' := .lst (vs ++ [v])) (d' := .lst (acc ++ [y])) ⟨_, getElem?_last, rfl, by rw [hl]; exact getElem?_last⟩ ⟨_, upd_same, r.append (Reps.one ry)⟩
  rw [List.set_append_right _ _ (Nat.le_refl _), Nat.sub_self, List.getD_eq_getElem?_getD, getElem?_last] at this
  exact this
/-- the reading of a comprehension -/
theorem tlc_core {S : Type} {elt tg iter : Expr} {ifs : List Expr} {scope : Scope} {vs : List Nat} (hnb : noBo τ = true)
    (h : JI X en δ τ tg iter (fun ds δ1 m1 => ∃ (a0 : S) (f : D → S → Res (Option D × S)) (k : List D × S → Res R) (pe pe' : S → List Slot), m1 = (lcF ds a0 [] f).bind k ∧ Le (wipeS δ1 vs) (pe a0) ∧ noBo δ1 = true ∧
      (∀ en', KnB en en' → ∀ d a acc, Turn1 X scope en' (pe a) (τ ++ [.mu (.lst acc)]) tg ifs elt d pe vs (f d a)) ∧ (∀ a, rst δ1 vs (pe a) = pe' a) ∧ ∀ p : List D × S, C (.mu (.lst p.1)) (pe' p.2) (k p)) m)
    (hb : m ≠ .bad) (hx : en.HX m.exc) (σ ts : L2.St) (G H : Hp) (T : VK) (hl : δ.length = en.n) (hσ : σ.length = en.n) (W : Wd X.K en (δ ++ τ) (σ ++ ts) G H)
    (q : ∀ sl δ' v G' H', C sl δ' m → δ'.length = en.n → Wd X.K en (δ' ++ τ ++ [sl]) (σ ++ ts ++ [some v]) G' H' → T v H') :
    tLc (WI X tg iter) (gB X scope tg) (tB X scope ifs) (eB X scope elt) vs σ H T := by
  refine h.run hb hx σ ts G H _ hl hσ W fun ds δ1 J G1 H1 c hl1 W1 it => ?_
  obtain ⟨a0, f, k, pe, pe', em, le0, nb1, turn, hpe, hk⟩ := c
  have ht : τ.length = ts.length := W.splitLen (hl.trans hσ.symm)
  intro Dn hD
  have nbT : ∀ acc, noBo (τ ++ [Slot.mu (.lst acc)]) = true := fun acc => noBo_app.mpr ⟨hnb, rfl⟩
  have W2 : Wd X.K (en.blk G1) (wipeS δ1 vs ++ (τ ++ [.mu (.lst [])])) (L2.wipe σ vs ++ (ts ++ [some (.ref Dn)])) G1 (upd H1 Dn (.lst [])) := by
    have w := W1.out (sl := .mu (.lst [])) (v := .ref Dn) (Grow.laid W1.sub hD) ⟨Dn, rfl, hD, (W1.fresh hD).1, [], upd_same, rfl⟩
    rw [List.append_assoc, List.append_assoc] at w
    exact (w.toBlk).wiped hl1 hσ (noBo_app.mpr ⟨nb1, nbT _⟩)
  have turn := turn (en.blk G1) ⟨rfl, rfl, rfl, rfl⟩
  refine ⟨fun i n H => n = ds.length - i ∧ i ≤ ds.length ∧ ∃ a acc G2, (pe a).length = en.n ∧ noBo (pe a) = true ∧ Wd X.K (en.blk G1) (pe a ++ (τ ++ [.mu (.lst acc)])) (L2.wipe σ vs ++ (ts ++ [some (.ref Dn)])) G2 H ∧ m = (lcF (ds.drop i) a acc f).bind k,
    ⟨ds.length, by simp, Nat.zero_le _, a0, [], G1, le0.len.symm.trans (by rw [wipeS_len]; exact hl1), noBo_le le0 (noBo_wipeS nb1), ?_, em⟩, ?_⟩
  · have le1 : Le (wipeS δ1 vs ++ (τ ++ [.mu (.lst [])])) (pe a0 ++ (τ ++ [.mu (.lst [])])) := le_app le0 (Le.refl _)
    exact W2.le le1
  rintro i n H2 ⟨rfl, hi, a, acc, G2, hla, hnba, W3, em2⟩
  obtain ⟨go, stop⟩ := it G2 H2 W3.ext W3.frm W3.sub i
  by_cases hlt : i < ds.length
  · obtain ⟨g1, g2⟩ := go ds[i] (List.getElem?_eq_getElem hlt)
    have ed : ds.drop i = ds[i] :: ds.drop (i + 1) := by rw [List.drop_eq_getElem_cons hlt]
    refine .inr ⟨g1, fun H' => ∃ a acc G2, (pe a).length = en.n ∧ noBo (pe a) = true ∧ Wd X.K (en.blk G1) (pe a ++ (τ ++ [.mu (.lst acc)])) (L2.wipe σ vs ++ (ts ++ [some (.ref Dn)])) G2 H' ∧ m = (lcF (ds.drop (i + 1)) a acc f).bind k, fun H' hn => ⟨ds.length - (i + 1), by omega, rfl, hlt, hn⟩, fun x H' hy => ?_⟩
    obtain ⟨G3, gr, rx⟩ := g2 x H' hy
    rw [ed] at em2
    have hb2 := hb
    rw [em2] at hb2
    have st := lcF_step hb2
    have hfb : f ds[i] a ≠ .bad := by
      rcases st with ⟨y, s', e, _⟩ | ⟨s', e, _⟩ <;> (rw [e]; exact fun z => nomatch z)
    have hfx : (en.blk G1).HX (f ds[i] a).exc := by
      rcases st with ⟨y, s', e, _⟩ | ⟨s', e, _⟩ <;> (rw [e]; exact rfl)
    intro s0 H0 C0 cl fp
    obtain ⟨is, his, tr⟩ := turn ds[i] a acc s0 H0 C0 cl fp
    refine tr.run hfb hfx (L2.wipe σ vs) (ts ++ [some (.ref Dn)]) G3 H' x _ hla (by rw [wipe_length]; exact hσ) (W3.grow gr) rx fun δ4 σ4 G4 H4 c4 hl4 hσ4 W4 _ on => ?_
    have hwp : L2.wipe σ4 vs = L2.wipe σ vs := by
      rw [wipe_eq (σ := L2.wipe σ vs) (σ' := σ4) (fun j hj => on j fun z => hj (his j z)) (by rw [wipe_length, hσ4, hσ])]
      refine wipe_eq (fun j hj => wipe_get hj) (wipe_length _ _)
    refine ⟨hwp, ?_⟩
    -- the element, kept
    have elem : ∀ {δ5 : List Slot} {G5 H5 : Hp} {mm : Res (Option D × S)}, mm = f ds[i] a → TurnE X scope (en.blk G1) δ5 (τ ++ [.mu (.lst acc)]) elt pe vs mm → δ5.length = en.n → Wd X.K (en.blk G1) (δ5 ++ (τ ++ [.mu (.lst acc)])) (σ4 ++ (ts ++ [some (.ref Dn)])) G5 H5 →
        eB X scope elt σ4 H5 fun y H6 => ∃ accV, H6 Dn = some (.lst accV) ∧ accV.length < sizeLine ∧ ∃ a acc G2, (pe a).length = en.n ∧ noBo (pe a) = true ∧ Wd X.K (en.blk G1) (pe a ++ (τ ++ [.mu (.lst acc)])) (L2.wipe σ vs ++ (ts ++ [some (.ref Dn)])) G2 (upd H6 Dn (.lst (accV ++ [y]))) ∧ m = (lcF (ds.drop (i + 1)) a acc f).bind k := by
      intro δ5 G5 H5 mm hm c5 hl5 W5 s0 H0 C0 cl fp
      subst hm
      refine (c5 s0 H0 C0 cl fp).run hfb hfx σ4 (ts ++ [some (.ref Dn)]) G5 H5 _ hl5 hσ4 W5 fun s δ6 y G6 H6 ⟨yd, a', es, e6, le6, nb6⟩ hl6 W6 => ?_
      subst es
      have W7 : Wd X.K (en.blk G1) ((δ6 ++ τ) ++ [.mu (.lst acc)] ++ [.fr yd]) ((σ4 ++ ts) ++ [some (.ref Dn)] ++ [some y]) G6 H6 := by
        simp only [List.append_assoc] at W6 ⊢
        exact W6
      have hl6' : δ6.length = en.n := hl6
      have hσ4' : σ4.length = en.n := hσ4
      obtain ⟨accV, h1, h2, W8⟩ := W7.endMut (by rw [List.length_append, List.length_append]; omega) (by rw [List.length_append]; show en.n ≤ _; omega)
      rcases st with ⟨y', s', e, hz, e2⟩ | ⟨s', e, e2⟩
      · rw [e] at e6
        cases e6
        refine ⟨accV, h1, by rw [h2]; exact hz, a', acc ++ [yd], G6, le6.len.symm.trans (by rw [wipeS_len]; exact hl6), noBo_le le6 (noBo_wipeS nb6), ?_, by rw [em2, e2]⟩
        rw [List.append_assoc, List.append_assoc] at W8
        have W9 := W8.wiped (vs := vs) hl6 hσ4 (noBo_app.mpr ⟨nb6, nbT _⟩)
        rw [hwp] at W9
        exact W9.le (le_app le6 (Le.refl _))
      · rw [e] at e6
        cases e6
    match hifs : ifs, c4 with
    | [], c4 =>
      intro s0 H0 C0 cl fp pins s I
      exact wpAny_tests_nil ⟨H4, I, iteT (elem rfl c4 hl4 W4)⟩
    | [cnd], c4 =>
      intro s0 H0 C0 cl fp pins s I
      refine wpAny_tests_one (((c4 s0 H0 C0 cl fp).run hfb hfx σ4 (ts ++ [some (.ref Dn)]) G4 H4 _ hl4 hσ4 W4 fun b δ5 G5 H5 ⟨mA, mF, e5, cA, a', eF, leF, nbF⟩ hl5 W5 => ?_) pins s I)
      cases b with
      | true =>
        have e : f ds[i] a = mA := e5
        exact iteT (elem e.symm cA hl5 W5)
      | false =>
        have e : f ds[i] a = mF := e5
        rw [eF] at e
        refine iteF ?_
        rcases st with ⟨y', s', e3, hz, e2⟩ | ⟨s', e3, e2⟩
        · rw [e] at e3; cases e3
        · rw [e] at e3
          cases e3
          refine ⟨a', acc, G5, leF.len.symm.trans (by rw [wipeS_len]; exact hl5), noBo_le leF (noBo_wipeS nbF), ?_, by rw [em2, e2]⟩
          have W9 := W5.wiped (vs := vs) hl5 hσ4 (noBo_app.mpr ⟨nbF, nbT _⟩)
          rw [hwp] at W9
          exact W9.le (le_app leF (Le.refl _))
    | _ :: _ :: _, c4 => exact c4.elim
  · have e : i = ds.length := by omega
    subst e
    refine .inl ⟨stop (Nat.le_refl _), ?_⟩
    rw [List.drop_length] at em2
    have em3 : m = k (acc, a) := em2
    have hc := hk (acc, a)
    rw [← em3] at hc
    have W5 := W1.outof (vs := vs) (δ := pe a) (Ξ := τ ++ [.mu (.lst acc)]) (us := ts ++ [some (.ref Dn)]) W3 hl1 hla hσ (noBo_app.mpr ⟨hnba, nbT _⟩)
    rw [hpe a, ← List.append_assoc, ← List.append_assoc] at W5
    exact q _ (pe' a) (.ref Dn) G2 H2 hc (by rw [← hpe a, rst_len]; exact hla) W5
/-- [.. for .. in ..] as a value: a new list -/
theorem je_lc {S : Type} {elt tg iter : Expr} {ifs : List Expr} {scope : Scope} {pos : Pos} (own : List (Str × Nat)) (hc : X.calm = true) (hN : X.N.Nodup)
    (h : JI X en δ τ tg iter (fun ds δ1 m1 => ∃ (a0 : S) (f : D → S → Res (Option D × S)) (k : List D × S → Res R) (pe pe' : S → List Slot), m1 = (lcF ds a0 [] f).bind k ∧ Le (wipeS δ1 (own.map (·.2))) (pe a0) ∧ noBo δ1 = true ∧
      (∀ en', KnB en en' → ∀ d a acc, Turn1 X scope en' (pe a) (τ ++ [.mu (.lst acc)]) tg ifs elt d pe (own.map (·.2)) (f d a)) ∧ (∀ a, rst δ1 (own.map (·.2)) (pe a) = pe' a) ∧ ∀ p : List D × S, C (.mu (.lst p.1)) (pe' p.2) (k p)) m)
    (hnb : noBo τ = true := by rfl) (ok : BlkOk X.N X.env.scope scope own := by exact blkOk_by (by decide +kernel)) (hs : ∀ x, foldedSetIterable iter X.env x = pure x := by intro _; rfl) :
    JE X en δ τ (.ListComp elt [⟨tg, iter, ifs, 0⟩] scope pos) C m := .mk fun hb hx σ ts G H T hl hσ W q =>
  we_of (pe_lc hc hN pi_wi ok (g := gB X scope tg) (tt := tB X scope ifs) (te := eB X scope elt) (fun s0 H0 C0 cl fp => ⟨fun pins s σ H v u Q I r hw => hw s0 H0 C0 cl fp pins s u I r⟩)
    (fun s0 H0 C0 cl fp => ⟨fun pins s σ H Q I hw => hw s0 H0 C0 cl fp pins s I⟩) (fun s0 H0 C0 cl fp => ⟨fun pins s σ H Q I hw => hw s0 H0 C0 cl fp pins s I⟩) hs) (tlc_core hnb h hb hx σ ts G H T hl hσ W q)
/-- name = [.. for .. in ..] -/
theorem js_setLc {S : Type} {N : List Slot → Res R → Prop} {RT : Slot → List Slot → Res R → Prop} {BK CT : List Slot → Res R → Prop} (i : Nat) {y : Str} {py : Pos} {elt tg iter : Expr} {ifs : List Expr} {scope : Scope} {pos spos : Pos} (own : List (Str × Nat)) (hc : X.calm = true) (hN : X.N.Nodup)
    (h : JI X en δ [] tg iter (fun ds δ1 m1 => ∃ (a0 : S) (f : D → S → Res (Option D × S)) (k : List D × S → Res R) (pe pe' : S → List Slot), m1 = (lcF ds a0 [] f).bind k ∧ Le (wipeS δ1 (own.map (·.2))) (pe a0) ∧ noBo δ1 = true ∧
      (∀ en', KnB en en' → ∀ d a acc, Turn1 X scope en' (pe a) ([] ++ [.mu (.lst acc)]) tg ifs elt d pe (own.map (·.2)) (f d a)) ∧ (∀ a, rst δ1 (own.map (·.2)) (pe a) = pe' a) ∧ ∀ p : List D × S, ∃ δ', (pe' p.2).set i (.mu (.lst p.1)) = δ' ∧ noBo (pe' p.2) = true ∧ N δ' (k p)) m)
    (hy : X.N[i]? = some y := by rfl) (hyl : X.env.scope.names.lookup y = some .local := by rfl)
    (ok : BlkOk X.N X.env.scope scope own := by exact blkOk_by (by decide +kernel)) (hs : ∀ x, foldedSetIterable iter X.env x = pure x := by intro _; rfl)
    (hsw : swapsWith (.ListComp elt [⟨tg, iter, ifs, 0⟩] scope pos) (some (.Name y py)) spos.line X.env = pure true := by exact sw_true rfl rfl rfl (by decide +kernel)) :
    JS X en δ (.Assign [.Name y py] (.ListComp elt [⟨tg, iter, ifs, 0⟩] scope pos) spos) N RT BK CT m := .mk fun hb hx σ G H E hl W k1 k2 k3 k4 => by
  refine ws_of (ps_setLc hc hN hy hyl hsw pi_wi ok (g := gB X scope tg) (tt := tB X scope ifs) (te := eB X scope elt) (fun s0 H0 C0 cl fp => ⟨fun pins s σ H v u Q I r hw => hw s0 H0 C0 cl fp pins s u I r⟩)
    (fun s0 H0 C0 cl fp => ⟨fun pins s σ H Q I hw => hw s0 H0 C0 cl fp pins s I⟩) (fun s0 H0 C0 cl fp => ⟨fun pins s σ H Q I hw => hw s0 H0 C0 cl fp pins s I⟩) hs) ?_
  refine tlc_core (S := S) (τ := []) (C := fun s δ1 m1 => ∃ δ', δ1.set i s = δ' ∧ s.may = true ∧ noBo δ1 = true ∧ N δ' m1) rfl (h.conv fun ds δ1 c => ?_) hb hx σ [] G H _ hl (W.sl hl) (by rw [List.append_nil, List.append_nil]; exact W) fun sl δ1 v G' H' ⟨δ', e1, e2, e3, c⟩ hl' W' => ?_
  · obtain ⟨a0, f, k, pe, pe', e, le, nb, t, r, c⟩ := c
    exact ⟨a0, f, k, pe, pe', e, le, nb, t, r, fun p => by obtain ⟨δ', f1, f2, f3⟩ := c p; exact ⟨δ', f1, rfl, f2, f3⟩⟩
  · subst e1
    rw [List.append_nil, List.append_nil] at W'
    exact k1 _ _ G' H' c (by rw [List.length_set]; exact hl') (W'.give (hl'.trans (W.sl hl).symm) e3 e2 i)
end
end BR

/-! K10: operations over data -/
namespace BR
open PySem PySem.Spec PyProof.Rows L2

/-! ### as the library's data -/
mutual
def toP : D → PyData
  | .non => .none
  | .bl b => .bool b
  | .int i => .int i
  | .str x => .str x
  | .lst ds => .list (toPs ds)
  | .tup ds => .tuple (toPs ds)
  | .dic ks => .dict (toPk ks)
  | .scr ns => .list (ns.map PyData.int)
  | .exc _ _ => .dict []
  | .obj _ _ => .dict []
def toPs : List D → List PyData
  | [] => []
  | d :: ds => toP d :: toPs ds
def toPk : List (Key × D) → List (PyData × PyData)
  | [] => []
  | (.inl i, d) :: r => (.int i, toP d) :: toPk r
  | (.inr x, d) :: r => (.str x, toP d) :: toPk r
end
section
variable {K : PySem.W.Frag} {G H : Hp}
theorem dp_ints : ∀ ns : List Int, DpAll K H (ns.map V.int) (ns.map PyData.int)
  | [] => .nil
  | n :: ns => .cons (.int n) (dp_ints ns)
mutual
theorem Rep.dp : ∀ (d : D) (v : V), Rep K H d v → (toP d).canLay0 = true → Dp K H v (toP d)
  | .non, v, h, _ => by
    have e : v = .non := h
    subst e; exact .non
  | .bl b, v, h, _ => by
    have e : v = .bl b := h
    subst e; exact .bl b
  | .int b, v, h, _ => by
    have e : v = .int b := h
    subst e; exact .int b
  | .str b, v, h, _ => by
    have e : v = .str b := h
    subst e; exact .str b
  | .lst ds, v, h, c => by
    obtain ⟨a, vs, e, q, r⟩ := h
    subst e
    exact .lst (SqL.of q) (Reps.dp ds vs r (by simpa [toP, PyData.canLay0] using c))
  | .tup ds, v, h, c => by
    obtain ⟨a, vs, e, q, r⟩ := h
    subst e
    exact .tup q (Reps.dp ds vs r (by simpa [toP, PyData.canLay0] using c))
  | .scr ns, v, h, c => by
    obtain ⟨a, e, q⟩ := h
    subst e
    exact .lst q (dp_ints ns)
  | .dic ks, v, h, c => by simp [toP, PyData.canLay0] at c
  | .exc _ _, v, h, c => by simp [toP, PyData.canLay0] at c
  | .obj _ _, v, h, c => by simp [toP, PyData.canLay0] at c
theorem Reps.dp : ∀ (ds : List D) (vs : List V), Reps K H ds vs → PyData.canLayAll0 (toPs ds) = true → DpAll K H vs (toPs ds)
  | [], vs, h, _ => by
    have e : vs = [] := h
    subst e; exact .nil
  | d :: ds, vs, h, c => by
    obtain ⟨v, r, e, h1, h2⟩ := h
    subst e
    have c' : (toP d).canLay0 = true ∧ PyData.canLayAll0 (toPs ds) = true := by simpa [toPs, PyData.canLayAll0] using c
    exact .cons (Rep.dp d v h1 c'.1) (Reps.dp ds r h2 c'.2)
end
theorem VRep.dp {d : D} {v : V} (s : Sub G H) (h : VRep K G H d v) (c : (toP d).canLay0 = true) : Dp K H v (toP d) := by
  refine Rep.dp d v ?_ c
  cases d with
  | lst ds => obtain ⟨a, vs, e, q, r⟩ := h; exact ⟨a, vs, e, q, Reps.sub s _ _ r⟩
  | tup ds => obtain ⟨a, vs, e, q, r⟩ := h; exact ⟨a, vs, e, q, Reps.sub s _ _ r⟩
  | dic ds => obtain ⟨a, vs, e, q, r⟩ := h; exact ⟨a, vs, e, q, RepKs.sub s _ _ r⟩
  | scr ns => exact h
  | exc _ _ => obtain ⟨a, C, e, f, q⟩ := h; exact ⟨a, C, e, f, q.sub s (Sub.refl _)⟩
  | obj _ _ => simp [toP, PyData.canLay0] at c
  | non => exact h
  | bl _ => exact h
  | int _ => exact h
  | str _ => exact h
end

/-! ### arithmetic -/
def addD : D → D → Option D
  | .int a, .int b => some (.int (a + b))
  | .str a, .str b => if a.length + b.length ≤ sizeLine then some (.str (a ++ b)) else none
  | .lst a, .lst b => if a.length + b.length ≤ sizeLine then some (.lst (a ++ b)) else none
  | .tup (a :: as), .tup (b :: bs) => if (a :: as).length + (b :: bs).length ≤ sizeLine then some (.tup ((a :: as) ++ (b :: bs))) else none
  | _, _ => none
def catL : D → D → Option D
  | .lst a, .lst b => if a.length + b.length ≤ sizeLine then some (.lst (a ++ b)) else none
  | _, _ => none
def subD : D → D → Option D
  | .int a, .int b => some (.int (a - b))
  | _, _ => none
def mulD : D → D → Option D
  | .int a, .int b => if a.natAbs.log2 + b.natAbs.log2 < 1000000 then some (.int (a * b)) else none
  | _, _ => none
def fdivD : D → D → Option D
  | .int a, .int b => if 0 < b ∧ b.natAbs.log2 < 9000 then some (.int (a / b)) else none
  | _, _ => none
def modD : D → D → Option D
  | .int a, .int b => if 0 < b then some (.int (a % b)) else none
  | _, _ => none
def powD : D → D → Option D
  | .int a, .int b => if 0 ≤ b ∧ (Builtin.Int.intBits a : Int) * b ≤ 2 ^ 27 then some (.int (a ^ b.toNat)) else none
  | _, _ => none
def negD : D → Option D
  | .int a => some (.int (-a))
  | _ => none
section
variable {X : Cx}
theorem VRep.sc {K : PySem.W.Frag} {G H : Hp} {d : D} {v u : V} (h : VRep K G H d v) (e : (match d with | .non => some V.non | .bl b => some (V.bl b) | .int i => some (V.int i) | .str x => some (V.str x) | _ => none) = some u) : v = u := by
  cases d <;> first | (cases e; exact h) | cases e
/-- a fresh list that stands fast at once -/
theorem fz_out {G H : Hp} {ds : List D} {vs : List V} {Q : VK} (sb : Sub G H) (r : Reps X.K G ds vs) (k : ∀ v G' H', Grow G H G' H' → Out X.K G H G' H' (.fr (.lst ds)) v → Q v H') : ∀ p, H p = none → Q (.ref p) (upd H p (.lst vs)) := fun p hp => by
  have hg : G p = none := by
    cases z : G p with
    | none => rfl
    | some o => rw [sb p o z] at hp; cases hp
  refine k (.ref p) (upd G p (.lst vs)) _ ⟨Sub.upd hg, Sub.upd hp, fun a u e => ?_, fun a u e => ?_⟩ ⟨p, vs, rfl, upd_same, Reps.sub (Sub.upd hg) _ _ r⟩
  · by_cases ha : a = p
    · subst ha; rw [upd_same] at e ⊢; exact e
    · rw [upd_ne ha] at e ⊢; exact sb a u e
  · by_cases ha : a = p
    · subst ha; exact .inr hp
    · rw [upd_ne ha] at e; exact .inl e
theorem fzT_out {G H : Hp} {ds : List D} {vs : List V} {Q : VK} (sb : Sub G H) (r : Reps X.K G ds vs) (k : ∀ v G' H', Grow G H G' H' → Out X.K G H G' H' (.fr (.tup ds)) v → Q v H') : ∀ p, H p = none → Q (.ref p) (upd H p (.tup vs)) := fun p hp => by
  have hg : G p = none := by
    cases z : G p with
    | none => rfl
    | some o => rw [sb p o z] at hp; cases hp
  refine k (.ref p) (upd G p (.tup vs)) _ ⟨Sub.upd hg, Sub.upd hp, fun a u e => ?_, fun a u e => ?_⟩ ⟨p, vs, rfl, SqT.of upd_same, Reps.sub (Sub.upd hg) _ _ r⟩
  · by_cases ha : a = p
    · subst ha; rw [upd_same] at e ⊢; exact e
    · rw [upd_ne ha] at e ⊢; exact sb a u e
  · by_cases ha : a = p
    · subst ha; exact .inr hp
    · rw [upd_ne ha] at e; exact .inl e
theorem sc_out {G H : Hp} {Q : VK} {d : D} {u : V} (sb : Sub G H) (e : (match d with | .non => some V.non | .bl b => some (V.bl b) | .int i => some (V.int i) | .str x => some (V.str x) | _ => none) = some u) (k : ∀ v G' H', Grow G H G' H' → Out X.K G H G' H' (.fr d) v → Q v H') : Q u H := by
  refine k u G H (Grow.refl sb) ?_
  show Rep X.K G d u
  cases d <;> first | (cases e; exact rfl) | cases e
theorem op_addD : OpD X (binaryOp .Add) addD .fr := opD_of (op_add.or (op_add_str.or (op_cat.or op_catA))) fun d1 d2 d e G H v1 v2 Q sb r1 r2 k => by
  match d1, d2, e, r1, r2 with
  | .int a, .int b, e, r1, r2 =>
    cases e
    exact .inl ⟨a, b, r1, r2, sc_out sb rfl k⟩
  | .str a, .str b, e, r1, r2 =>
    have e' : (if a.length + b.length ≤ sizeLine then some (D.str (a ++ b)) else none) = some d := e
    by_cases hz : a.length + b.length ≤ sizeLine
    · rw [if_pos hz] at e'
      cases e'
      exact .inr (.inl ⟨a, b, r1, r2, hz, sc_out sb rfl k⟩)
    · rw [if_neg hz] at e'; cases e'
  | .lst a, .lst b, e, r1, r2 =>
    have e' : (if a.length + b.length ≤ sizeLine then some (D.lst (a ++ b)) else none) = some d := e
    by_cases hz : a.length + b.length ≤ sizeLine
    · rw [if_pos hz] at e'
      cases e'
      obtain ⟨p, vs, e1, q1, s1⟩ := r1
      obtain ⟨p2, vs2, e2, q2, s2⟩ := r2
      exact .inr (.inr (.inl ⟨p, p2, vs, vs2, e1, e2, q1, q2, by rw [← s1.length, ← s2.length]; exact hz, fz_out sb (s1.append s2) k⟩))
    · rw [if_neg hz] at e'; cases e'
  | .tup (a :: as), .tup (b :: bs), e, r1, r2 =>
    have e' : (if (a :: as).length + (b :: bs).length ≤ sizeLine then some (D.tup ((a :: as) ++ (b :: bs))) else none) = some d := e
    by_cases hz : (a :: as).length + (b :: bs).length ≤ sizeLine
    · rw [if_pos hz] at e'
      cases e'
      obtain ⟨p, vs, e1, q1, s1⟩ := r1
      obtain ⟨p2, vs2, e2, q2, s2⟩ := r2
      have n1 : vs ≠ [] := fun z => by have := s1.length; rw [z] at this; simp at this
      have n2 : vs2 ≠ [] := fun z => by have := s2.length; rw [z] at this; simp at this
      exact .inr (.inr (.inr ⟨p, p2, vs, vs2, e1, e2, q1, q2, by rw [← s1.length, ← s2.length]; exact hz, fun z => absurd z n1, fun _ z => absurd z n2, fun _ _ => fzT_out sb (s1.append s2) k⟩))
    · rw [if_neg hz] at e'; cases e'
theorem op_subD : OpD X (binaryOp .Sub) subD .fr := opD_of op_sub fun d1 d2 d e G H v1 v2 Q sb r1 r2 k => by
  match d1, d2, e, r1, r2 with
  | .int a, .int b, e, r1, r2 =>
    cases e
    exact ⟨a, b, r1, r2, sc_out sb rfl k⟩
theorem op_mulD : OpD X (binaryOp .Mult) mulD .fr := opD_of op_mulW fun d1 d2 d e G H v1 v2 Q sb r1 r2 k => by
  match d1, d2, e, r1, r2 with
  | .int a, .int b, e, r1, r2 =>
    have e' : (if a.natAbs.log2 + b.natAbs.log2 < 1000000 then some (D.int (a * b)) else none) = some d := e
    by_cases hz : a.natAbs.log2 + b.natAbs.log2 < 1000000
    · rw [if_pos hz] at e'
      cases e'
      exact ⟨a, b, r1, r2, hz, sc_out sb rfl k⟩
    · rw [if_neg hz] at e'; cases e'
theorem op_fdivD : OpD X (binaryOp .FloorDiv) fdivD .fr := opD_of op_fdivW fun d1 d2 d e G H v1 v2 Q sb r1 r2 k => by
  match d1, d2, e, r1, r2 with
  | .int a, .int b, e, r1, r2 =>
    have e' : (if 0 < b ∧ b.natAbs.log2 < 9000 then some (D.int (a / b)) else none) = some d := e
    by_cases hz : 0 < b ∧ b.natAbs.log2 < 9000
    · rw [if_pos hz] at e'
      cases e'
      exact ⟨a, b, r1, r2, hz, sc_out sb rfl k⟩
    · rw [if_neg hz] at e'; cases e'
theorem op_modD : OpD X (binaryOp .Mod) modD .fr := opD_of op_mod fun d1 d2 d e G H v1 v2 Q sb r1 r2 k => by
  match d1, d2, e, r1, r2 with
  | .int a, .int b, e, r1, r2 =>
    have e' : (if 0 < b then some (D.int (a % b)) else none) = some d := e
    by_cases hz : 0 < b
    · rw [if_pos hz] at e'
      cases e'
      exact ⟨a, b, r1, r2, hz, sc_out sb rfl k⟩
    · rw [if_neg hz] at e'; cases e'
theorem op_powW : OpR X (binaryOp .Pow) (rI (fun i j => 0 ≤ j ∧ (Builtin.Int.intBits i : Int) * j ≤ 2 ^ 27) fun i j => .int (i ^ j.toNat)) := opI fun _ _ _ _ _ _ _ hc q => pow_int hc.1 hc.2 q
theorem op_powD : OpD X (binaryOp .Pow) powD .fr := opD_of op_powW fun d1 d2 d e G H v1 v2 Q sb r1 r2 k => by
  match d1, d2, e, r1, r2 with
  | .int a, .int b, e, r1, r2 =>
    have e' : (if 0 ≤ b ∧ (Builtin.Int.intBits a : Int) * b ≤ 2 ^ 27 then some (D.int (a ^ b.toNat)) else none) = some d := e
    by_cases hz : 0 ≤ b ∧ (Builtin.Int.intBits a : Int) * b ≤ 2 ^ 27
    · rw [if_pos hz] at e'
      cases e'
      exact ⟨a, b, r1, r2, hz, sc_out sb rfl k⟩
    · rw [if_neg hz] at e'; cases e'
end

/-! ### comparisons -/
def cmpI (p : Int → Int → Bool) : D → D → Option Bool
  | .int a, .int b => some (p a b)
  | _, _ => none
def ltD : D → D → Option Bool := cmpI fun a b => decide (a < b)
def leD : D → D → Option Bool := cmpI fun a b => decide (a ≤ b)
def gtD : D → D → Option Bool := cmpI fun a b => decide (b < a)
def geD : D → D → Option Bool := cmpI fun a b => decide (b ≤ a)
/-- is None, by its right side -/
def isND : D → D → Option Bool
  | .non, .non => some true
  | _, .non => some false
  | _, _ => none
def notND : D → D → Option Bool
  | .non, .non => some false
  | _, .non => some true
  | _, _ => none
def isBD : D → D → Option Bool
  | .bl a, .bl b => some (decide (a = b))
  | _, _ => none
def notBD : D → D → Option Bool
  | .bl a, .bl b => some (!decide (a = b))
  | _, _ => none
def eqD : D → D → Option Bool
  | .int a, .int b => some (decide (a = b))
  | .str a, .str b => some (decide (a = b))
  | .bl a, .bl b => some (decide (a = b))
  | d, e => if SeqAt.shaped (toP d) = true ∧ SeqAt.shaped (toP e) = true then some (PyData.eqv (toP d) (toP e)) else none
def neD (d e : D) : Option Bool := (eqD d e).map (!·)
section
variable {X : Cx}
theorem cmpI_of {f : Value → Value → Sem Value} {p : Int → Int → Bool} (h : OpR X f (rI0 fun i j => .bl (p i j))) : CmpD X f (cmpI p) := opD_of h fun d1 d2 d e G H v1 v2 Q sb r1 r2 k => by
  match d1, d2, e, r1, r2 with
  | .int a, .int b, e, r1, r2 =>
    cases e
    exact ⟨a, b, r1, r2, sc_out (d := .bl (p a b)) sb rfl k⟩
theorem cmp_ltD : CmpD X (compareOp .Lt) ltD := cmpI_of op_lt
theorem cmp_leD : CmpD X (compareOp .LtE) leD := cmpI_of op_le
theorem cmp_gtD : CmpD X (compareOp .Gt) gtD := cmpI_of op_gt
theorem cmp_geD : CmpD X (compareOp .GtE) geD := cmpI_of op_ge
theorem VRep.isN {K : PySem.W.Frag} {G H : Hp} {d : D} {v : V} (h : VRep K G H d v) : decide (v = .non) = (match d with | .non => true | _ => false) := by
  cases d with
  | non => have e : v = .non := h; subst e; rfl
  | bl _ => have e : v = _ := h; subst e; rfl
  | int _ => have e : v = _ := h; subst e; rfl
  | str _ => have e : v = _ := h; subst e; rfl
  | lst _ => obtain ⟨a, _, e, _⟩ := h; subst e; rfl
  | tup _ => obtain ⟨a, _, e, _⟩ := h; subst e; rfl
  | dic _ => obtain ⟨a, _, e, _⟩ := h; subst e; rfl
  | scr _ => obtain ⟨a, e, _⟩ := h; subst e; rfl
  | exc _ _ => obtain ⟨a, _, e, _⟩ := h; subst e; rfl
  | obj _ _ => obtain ⟨a, _, _, _, e, _⟩ := h; subst e; rfl
theorem cmp_isN : CmpD X (compareOp .Is) isND := opD_of op_isN fun d1 d2 d e G H v1 v2 Q sb r1 r2 k => by
  obtain ⟨b, eb, ed⟩ := Option.map_eq_some_iff.mp e
  subst ed
  match d2, r2 with
  | .non, r2 =>
    refine ⟨r2, ?_⟩
    have hb : decide (v1 = .non) = b := by rw [r1.isN]; cases d1 <;> (cases eb; rfl)
    rw [hb]
    exact sc_out (d := .bl b) sb rfl k
  | .bl _, _ => cases d1 <;> cases eb
  | .int _, _ => cases d1 <;> cases eb
  | .str _, _ => cases d1 <;> cases eb
  | .lst _, _ => cases d1 <;> cases eb
  | .tup _, _ => cases d1 <;> cases eb
  | .dic _, _ => cases d1 <;> cases eb
  | .scr _, _ => cases d1 <;> cases eb
  | .exc _ _, _ => cases d1 <;> cases eb
  | .obj _ _, _ => cases d1 <;> cases eb
theorem cmp_notN : CmpD X (compareOp .IsNot) notND := opD_of op_notN fun d1 d2 d e G H v1 v2 Q sb r1 r2 k => by
  obtain ⟨b, eb, ed⟩ := Option.map_eq_some_iff.mp e
  subst ed
  match d2, r2 with
  | .non, r2 =>
    refine ⟨r2, ?_⟩
    have hb : (!decide (v1 = .non)) = b := by rw [r1.isN]; cases d1 <;> (cases eb; rfl)
    rw [hb]
    exact sc_out (d := .bl b) sb rfl k
  | .bl _, _ => cases d1 <;> cases eb
  | .int _, _ => cases d1 <;> cases eb
  | .str _, _ => cases d1 <;> cases eb
  | .lst _, _ => cases d1 <;> cases eb
  | .tup _, _ => cases d1 <;> cases eb
  | .dic _, _ => cases d1 <;> cases eb
  | .scr _, _ => cases d1 <;> cases eb
  | .exc _ _, _ => cases d1 <;> cases eb
  | .obj _ _, _ => cases d1 <;> cases eb
theorem eq_core {f : Value → Value → Sem Value} {ng : Bool → Bool} (h : OpR X f (fun x y H Q => (scal x y = true ∧ Q (.bl (ng (decide (x = y)))) H) ∨ ∃ d e, Dp X.K H x d ∧ Dp X.K H y e ∧ SeqAt.shaped d = true ∧ SeqAt.shaped e = true ∧ Q (.bl (ng (PyData.eqv d e))) H)) : CmpD X f (fun d e => (eqD d e).map ng) := opD_of h fun d1 d2 d e G H v1 v2 Q sb r1 r2 k => by
  obtain ⟨b, eb, ed⟩ := Option.map_eq_some_iff.mp e
  subst ed
  obtain ⟨b', eb', en⟩ := Option.map_eq_some_iff.mp eb
  subst en
  have gen : ∀ {d1 d2 : D}, VRep X.K G H d1 v1 → VRep X.K G H d2 v2 → (if SeqAt.shaped (toP d1) = true ∧ SeqAt.shaped (toP d2) = true then some (PyData.eqv (toP d1) (toP d2)) else none) = some b' →
      ∃ d e, Dp X.K H v1 d ∧ Dp X.K H v2 e ∧ SeqAt.shaped d = true ∧ SeqAt.shaped e = true ∧ Q (.bl (ng (PyData.eqv d e))) H := fun {d1 d2} r1 r2 h => by
    by_cases hz : SeqAt.shaped (toP d1) = true ∧ SeqAt.shaped (toP d2) = true
    · rw [if_pos hz] at h
      cases h
      exact ⟨_, _, r1.dp sb (SeqAt.canLay_of_shaped hz.1), r2.dp sb (SeqAt.canLay_of_shaped hz.2), hz.1, hz.2, sc_out (d := .bl (ng (PyData.eqv (toP d1) (toP d2)))) sb rfl k⟩
    · rw [if_neg hz] at h; cases h
  cases d1 <;> cases d2 <;> first
    | exact .inr (gen r1 r2 eb')
    | (have e1 : v1 = _ := r1
       have e2 : v2 = _ := r2
       subst e1 e2
       cases eb'
       refine .inl ⟨rfl, ?_⟩
       have := sc_out (X := X) (Q := Q) (d := .bl (ng _)) sb rfl k
       first
         | (rw [show ∀ i j : Int, decide (V.int i = V.int j) = decide (i = j) from fun i j => decide_eq_decide.mpr ⟨V.int.inj, congrArg _⟩]; exact this)
         | (rw [show ∀ i j : Str, decide (V.str i = V.str j) = decide (i = j) from fun i j => decide_eq_decide.mpr ⟨V.str.inj, congrArg _⟩]; exact this)
         | (rw [show ∀ i j : Bool, decide (V.bl i = V.bl j) = decide (i = j) from fun i j => decide_eq_decide.mpr ⟨V.bl.inj, congrArg _⟩]; exact this))
theorem cmp_eqD (hu : X.A.units + 64 < cLine) : CmpD X (compareOp .Eq) eqD := by
  have := eq_core (ng := id) (op_eq.or (op_eqD (X := X) hu))
  have e : (fun d e => (eqD d e).map id) = eqD := by
    funext d e
    cases eqD d e <;> rfl
  rw [e] at this
  exact this
theorem cmp_neD (hu : X.A.units + 64 < cLine) : CmpD X (compareOp .NotEq) neD := eq_core (ng := (!·)) (op_ne.or (op_neD (X := X) hu))
end
end BR

/-! K11: isinstance, what is built in, places, cuts, lists changed -/
namespace BR
open PySem PySem.Spec PyProof.Rows L2

/-! ### isinstance -/
def tyOf : D → String
  | .non => "NoneType"
  | .bl _ => "bool"
  | .int _ => "int"
  | .str _ => "str"
  | .lst _ => "list"
  | .tup _ => "tuple"
  | .dic _ => "dict"
  | .scr _ => "list"
  | .exc _ _ => "Exception"
  | .obj _ _ => "Exception"
def isInt : D → Bool
  | .int _ => true
  | .bl _ => true
  | _ => false
def isBool : D → Bool
  | .bl _ => true
  | _ => false
def isStr : D → Bool
  | .str _ => true
  | _ => false
def isTup : D → Bool
  | .tup _ => true
  | _ => false
def isLst : D → Bool
  | .lst _ => true
  | .scr _ => true
  | _ => false
def isSeq : D → Bool
  | .lst _ => true
  | .scr _ => true
  | .tup _ => true
  | _ => false
def isExc : D → Bool
  | .exc _ _ => true
  | .obj _ _ => true
  | _ => false
theorem VRep.ty {K : PySem.W.Frag} {G H : Hp} : ∀ {d : D} {v : V}, isExc d = false → VRep K G H d v → TyX K H v (.type (tyOf d))
  | .non, v, _, h => by have e : v = .non := h; subst e; exact .base .non
  | .bl b, v, _, h => by have e : v = .bl b := h; subst e; exact .base (.bl b)
  | .int b, v, _, h => by have e : v = .int b := h; subst e; exact .base (.int b)
  | .str b, v, _, h => by have e : v = .str b := h; subst e; exact .base (.str b)
  | .lst _, v, _, h => by obtain ⟨a, vs, e, q, _⟩ := h; subst e; exact .base (.lst q)
  | .dic _, v, _, h => by obtain ⟨a, vs, e, q, _⟩ := h; subst e; exact .base (.dK q)
  | .tup _, v, _, h => by
    obtain ⟨a, vs, e, q, _⟩ := h
    subst e
    rcases q with (q | ⟨o, q⟩) | ⟨o, its, n, q, c, _⟩
    · exact .base (.tup q)
    · exact .fTuple q
    · exact .kTuple q c
  | .scr _, v, _, h => by
    obtain ⟨a, e, q⟩ := h
    subst e
    rcases q with (q | ⟨o, q⟩) | ⟨o, its, n, q, c, _⟩
    · exact .base (.lst q)
    · exact .base (.frz q)
    · exact .kList q c
  | .exc _ _, _, z, _ => by cases z
  | .obj _ _, _, z, _ => by cases z
section
open PySem.W PySem.Calls
variable {prog : Program} {w : World} {A : Around} {E : Value → Shared → Prop} {K : PySem.W.Frag} {z T : Addr} {oz : Obj} {dz : Option Obj}
/-- x.__class__, x an error of an own class, its dict made or not -/
theorem errcls_get {h0 : Heap} {g0 : Array GenState} {d0 : Drawn} {t0 : Nat} {os0 : OsState} {Q : Option Value → Shared → Prop} (F : L2.ExcC K T) (kin : K.In h0) (J : InstAt h0 z oz T dz) (q : Q (some (.ref T)) ⟨h0, g0, d0, t0 + 1, os0⟩) :
    wpAny (model prog w) A (getAttr? (.ref z) "__class__") Q E ⟨h0, g0, d0, t0, os0⟩ := by
  have fo : findObj K T dz "__class__" = some (.bind (.builtin "getset_descriptor.__get__") (.builtin "object.__class__")) := by
    obtain ⟨c, ec, _⟩ := any_some F.hd
    simp [findObj, ec, F.ha, F.hn, F.ht]
  have a0 := J.type (M := model prog w)
  have a1 := looks_findIn (M := model prog w) kin F.hg
  have a3 := looks_find (M := model prog w) kin J fo
  have isb : Looks (model prog w) h0 (isInstance (.ref z) (.type "BaseException")) true := a0.andThen (looks_subIn kin F.hs)
  have n2 : (Value.builtin "BaseException.__getattribute__" == Value.builtin "object.__getattribute__") = false := by decide +kernel
  unfold getAttr? getAttrBy? getAttrBy
  refine wpAny_bind (wpAny_mkText (wpAny_bind (wpAny_attempt (wpAny_holding (wpAny_bind (a0.at (wpAny_bind (a1.at ?_))))))))
  show wpAny _ _ (if (onTheHeap (Value.ref T) && Value.builtin "BaseException.__getattribute__" == Value.builtin "object.__getattribute__") = true then _ else _) _ _ _
  rw [show (onTheHeap (Value.ref T) && Value.builtin "BaseException.__getattribute__" == Value.builtin "object.__getattribute__") = false by rw [n2]; rfl, if_neg Bool.false_ne_true]
  unfold getAttrByItsOwn hookBefore; refine wpAny_bind ?_; rw [if_pos (show onTheHeap (Value.ref T) = true from rfl)]
  refine (looks_findIn (M := model prog w) kin F.hk).at ?_; refine wpAny_bind (wpAny_attempt (wpAny_holding ?_)); unfold callGetattribute
  rw [show (false && onTheHeap (Value.builtin "BaseException.__getattribute__")) = false from rfl, if_neg Bool.false_ne_true]; unfold boundAndCalled
  rw [PySem.F.excAttr_ValueError.ga.bind (.ref z)]; refine wpAny_bind (wpAny_pure ?_)
  show wpAny _ _ (call (.builtin "BaseException.__getattribute__") [.ref z, .str "__class__" t0]) _ _ _
  refine wpAny_call (codeAny_call_builtin PySem.F.excAttr_ValueError.ga.plain PySem.F.entry_bexc_ga (@check_slot (model prog w) _ _ ⟨h0, g0, d0, t0 + 1, os0⟩ "BaseException.__getattribute__" "BaseException" "__getattribute__" (.ref z) [.str "__class__" t0] [] _ (by decide +kernel) (by decide +kernel) isb (PySem.F.args_bexc_ga (.ref z) (.str "__class__" t0)) ?_))
  unfold Builtin.«object.__getattribute__»
  refine wpAny_bind (wpAny_of_eq (a := ((Value.ref z : Value), [Value.str "__class__" t0])) (by first | rfl | (simp only [slotArgs]; rfl)) (wpAny_bind (wpAny_pure (wpAny_bind (a0.at (wpAny_bind (a3.at ?_)))))))
  show wpAny _ _ (holding [Value.builtin "object.__class__"] (call (.builtin "getset_descriptor.__get__") [.builtin "object.__class__", .ref z, .ref T]) >>= ret) _ _ _
  refine wpAny_bind (wpAny_holding (wpAny_call (class_get (s := ⟨h0, g0, d0, t0 + 1, os0⟩) (ox := oz) (od := dz) kin J F.hm (wpAny_pure ?_))))
  show wpAny _ _ (handedOut (.ref T)) _ _ _
  rw [handedOut_of (v := .ref T) rfl]
  first
    | exact wpAny_pure (wpAny_pure q)
    | exact wpAny_pure q
    | exact wpAny_pure (wpAny_bind (wpAny_pure (wpAny_pure q)))
theorem errcls_ob {h0 : Heap} (F : L2.ExcC K T) (kin : K.In h0) : ∃ o c, h0.get? T = some o ∧ o.data = .cls c := by
  obtain ⟨c, ec, _⟩ := any_some F.hd
  unfold clsIn at ec
  split at ec
  · rename_i c' d' cd' sl' ho
    exact ⟨_, cd', kin _ _ ho, rfl⟩
  · cases ec
theorem errcls_kit (F : L2.ExcC K T) : KitX K (.ref z) (.ref T) (fun h => InstAt h z oz T dz) where
  ty := fun _ _ _ J => J.type
  it := fun _ h kin _ A' Q' E' s' k q => by
    obtain ⟨o, c, e, ed⟩ := errcls_ob F kin
    obtain ⟨oc, od, dt, sl⟩ := o
    dsimp only at ed
    subst ed
    unfold isType loadHead
    exact wpAny_bind (wpAny_loadPart (k _ _ e) (wpAny_pure q))
  ne := fun h tp dd its n sl kin htp => by
    obtain ⟨o, c, e, ed⟩ := errcls_ob F kin
    refine Bool.eq_false_iff.mpr fun q => ?_
    have et : T = tp := Value.ref.inj (beq_iff_eq.mp q)
    rw [et, htp] at e
    cases e
    cases ed
  ca := fun kin J k => errcls_get F kin J k
end
/-- isinstance(x, c), x an error that was caught -/
def rIsX (K : PySem.W.Frag) : List V → Hp → VK → Prop := fun xs H Q => ∃ (a C : Addr) (xf : List (Str × Option Int)) (c : V) (u : Value) (b : Bool), xs = [.ref a, c] ∧ ClsV c u ∧ L2.ExcC K C ∧ ExAt H H C a xf ∧ PySem.W.kitOne K (.ref C) u = some b ∧ Q (.bl b) H
def rIsXT (K : PySem.W.Frag) : List V → Hp → VK → Prop := fun xs H Q => ∃ (a C : Addr) (xf : List (Str × Option Int)) (tp : Addr) (cs : List V) (us : List Value) (b : Bool), xs = [.ref a, .ref tp] ∧ H tp = some (.tup cs) ∧ Paired ClsV cs us ∧ L2.ExcC K C ∧ ExAt H H C a xf ∧ PySem.W.kitAny K (.ref C) us = some b ∧ Q (.bl b) H
theorem exh_at {X : Cx} {pins : List (Addr × Obj)} {σ : L2.St} {H : Hp} {s : Shared} {a C : Addr} {xf : List (Str × Option Int)} (I : Inv X pins σ H s) (e : ExAt H H C a xf) : ∃ oe od, PySem.W.InstAt s.heap a oe C od := by
  obtain ⟨oe, vs, h0, h3, h2⟩ := e
  obtain ⟨h1, _⟩ := (show ObjOk X.prog X.w H s.heap a (ExO1 oe) from I.hok a _ h0)
  obtain ⟨oc, od, oda, osl⟩ := oe
  rcases h2 with ⟨_, z1, z2, _⟩ | ⟨dd, _, ⟨z1, z2, _⟩, hd⟩
  · dsimp only at z1 z2 h3
    subst z1 z2 h3
    exact ⟨_, none, h1, rfl, rfl, trivial⟩
  · dsimp only at z1 z2 h3
    subst z1 z2 h3
    have hx : ObjOk X.prog X.w H s.heap dd (.xd (xfV xf)) := I.hok dd _ hd
    obtain ⟨mA, hns, hr⟩ := hx
    obtain ⟨o, ho, _⟩ := lookIn_ns hns
    exact ⟨_, some o, h1, rfl, rfl, ho⟩
theorem call_isX {X : Cx} : CallR X (.builtin "isinstance") (rIsX X.K) := by
  intro pins s σ H xs us Q I r h
  obtain ⟨a, C, xf, c, u, b, rfl, k, F, e, kk, q⟩ := h
  obtain ⟨u1, u2, rfl, r1, r2⟩ := vals2 r
  have e2 := k.eq r2
  subst e2
  cases (show u1 = Value.ref a from r1)
  obtain ⟨oe, od, J⟩ := exh_at I e
  exact PySem.W.kia_one (errcls_kit F) I.kIn J kk (fun z => nomatch z) fun tk => ⟨.bl b, H, I.tok tk, rfl, q⟩
theorem call_isXT {X : Cx} : CallR X (.builtin "isinstance") (rIsXT X.K) := by
  intro pins s σ H xs us Q I r h
  obtain ⟨a, C, xf, tp, cs, ws, b, rfl, hT, k, F, e, kk, q⟩ := h
  obtain ⟨u1, u2, rfl, r1, r2⟩ := vals2 r
  cases (show u2 = Value.ref tp from r2)
  cases (show u1 = Value.ref a from r1)
  obtain ⟨oe, od, J⟩ := exh_at I e
  obtain ⟨_, its, rv, o, h1, h2, n, h3⟩ := (show ObjOk X.prog X.w H s.heap tp (.tup cs) from I.hok tp _ hT)
  have e3 := ClsV.all k rv
  subst e3
  obtain ⟨oc, od, dt, sl⟩ := o
  simp only at h2 h3
  subst h2 h3
  exact PySem.W.kia_tup (errcls_kit F) I.kIn J h1 kk (fun z => nomatch z) fun tk => ⟨.bl b, H, I.tok tk, rfl, q⟩
theorem kit_int : ∀ d, kitB (tyOf d) "int" = some (isInt d) := fun d => by cases d <;> (simp only [tyOf, isInt]; decide +kernel)
theorem kit_bool : ∀ d, kitB (tyOf d) "bool" = some (isBool d) := fun d => by cases d <;> (simp only [tyOf, isBool]; decide +kernel)
theorem kit_str : ∀ d, kitB (tyOf d) "str" = some (isStr d) := fun d => by cases d <;> (simp only [tyOf, isStr]; decide +kernel)
theorem kit_tup : ∀ d, kitB (tyOf d) "tuple" = some (isTup d) := fun d => by cases d <;> (simp only [tyOf, isTup]; decide +kernel)
theorem kit_lst : ∀ d, kitB (tyOf d) "list" = some (isLst d) := fun d => by cases d <;> (simp only [tyOf, isLst]; decide +kernel)
section
variable {X : Cx} {en : Kn} {δ τ : List Slot} {R : Type} {C : Slot → List Slot → Res R → Prop} {m : Res R} {K : PySem.W.Frag}
/-- isinstance(e, T) -/
theorem je_isi {T : String} {g : D → Bool} {e : Expr} {x : Str} {p p2 pos : Pos} (hk : ∀ d, kitB (tyOf d) T = some (g d)) (hm : X.mg "isinstance" = none) (hmT : X.mg x = none)
    (h : JE X en δ τ e (fun s1 δ1 m1 => ∃ d, s1.rd δ1 = some d ∧ C (.fr (.bl (g d))) δ1 m1) m) (hvT : bootBuiltins x = some (.type T) := by decide +kernel) (hg : Gl X "isinstance" := by rfl) (hgT : Gl X x := by rfl)
    (hn : x ≠ "__name__" := by decide) (hdb : (x == ("__debug__" : Str)) = false := by decide) (hgx : ∀ c xf, g (.exc c xf) = false := by exact fun _ _ => rfl) (hgo : ∀ c fs, g (.obj c fs) = false := by exact fun _ _ => rfl) (hT : T ∈ ["int", "bool", "str", "tuple", "list", "dict"] := by decide)
    (he : starEach [e, .Name x p2] X.env = (false, eval e X.env) :: starEach [.Name x p2] X.env := by rfl) (hpl : (backTo pos (starEach [.Name x p2] X.env)).any (·.1) = false := by rfl) :
    JE X en δ τ (.Call (.Name "isinstance" p) [e, .Name x p2] [] pos) C m := .mk fun hb hx σ ts G H T' hl hσ W k => by
  refine we_of (pe_callB (call_isi.or call_isX) hg hm (by decide +kernel) (pa_cons pe_we (pa_cons (pe_bltn (v := .ty T) hgT hmT hvT rfl hn hdb) pa_nil) he) (by decide) (by decide) he hpl) ?_
  have ht : τ.length = ts.length := W.splitLen (hl.trans hσ.symm)
  refine h.run hb hx σ ts G H _ hl hσ W fun s1 δ1 v1 G1 H1 c1 hl1 W1 => ?_
  obtain ⟨d, e1, c⟩ := c1
  obtain ⟨⟨_, _, ez, r1, _⟩, Wn⟩ := Wd.ends (sls := [s1]) (vs := [v1]) W1 (hl1.trans hσ.symm) ht (ds := [d]) (by simp only [rds, e1])
  cases ez
  have fin : T' (.bl (g d)) H1 := k _ δ1 _ G1 H1 c hl1 ((Wn (by omega)).out (Grow.refl W1.sub) (show Rep _ _ _ _ from rfl))
  cases hx : isExc d with
  | false => exact .inl ⟨v1, .ty T, _, _, g d, rfl, .ty T, r1.ty hx, kit_ty (hk d), fin⟩
  | true =>
    cases d <;> first | cases hx | skip
    · obtain ⟨a, C, rfl, F, ea⟩ := r1
      exact .inr ⟨a, C, _, .ty T, _, g (.exc _ _), rfl, .ty T, F.cl, ea.sub W1.sub (Sub.refl _), by rw [hgx]; exact F.ty T hT, fin⟩
    · obtain ⟨a, C, dx, vs, rfl, F, ea, _⟩ := r1
      exact .inl ⟨_, .ty T, _, _, g (.obj _ _), rfl, .ty T, .base (.ins ea F.cl F.ha F.hn F.htk F.hm), by rw [hgo]; exact F.ty T hT, fin⟩
/-- isinstance(e, (T1, T2)) -/
theorem je_isi2 {T1 T2 : String} {g1 g2 : D → Bool} {e : Expr} {x y : Str} {p p2 p3 p4 pos : Pos} {kk} (hk1 : ∀ d, kitB (tyOf d) T1 = some (g1 d)) (hk2 : ∀ d, kitB (tyOf d) T2 = some (g2 d)) (hm : X.mg "isinstance" = none) (hmT : X.mg x = none) (hmU : X.mg y = none)
    (h : JE X en δ τ e (fun s1 δ1 m1 => ∃ d, s1.rd δ1 = some d ∧ C (.fr (.bl (g1 d || g2 d))) δ1 m1) m) (hvT : bootBuiltins x = some (.type T1) := by decide +kernel) (hvU : bootBuiltins y = some (.type T2) := by decide +kernel) (hg : Gl X "isinstance" := by rfl) (hgT : Gl X x := by rfl) (hgU : Gl X y := by rfl)
    (hn : x ≠ "__name__" := by decide) (hdb : (x == ("__debug__" : Str)) = false := by decide) (hn2 : y ≠ "__name__" := by decide) (hdb2 : (y == ("__debug__" : Str)) = false := by decide) (hgx1 : ∀ c xf, g1 (.exc c xf) = false := by exact fun _ _ => rfl) (hgx2 : ∀ c xf, g2 (.exc c xf) = false := by exact fun _ _ => rfl) (hgo1 : ∀ c fs, g1 (.obj c fs) = false := by exact fun _ _ => rfl) (hgo2 : ∀ c fs, g2 (.obj c fs) = false := by exact fun _ _ => rfl) (hT1 : T1 ∈ ["int", "bool", "str", "tuple", "list", "dict"] := by decide) (hT2 : T2 ∈ ["int", "bool", "str", "tuple", "list", "dict"] := by decide)
    (hs1 : starEach [.Name x p2, .Name y p3] X.env = (false, eval (.Name x p2) X.env) :: starEach [.Name y p3] X.env := by rfl)
    (he : starEach [e, .Tuple [.Name x p2, .Name y p3] kk p4] X.env = (false, eval e X.env) :: starEach [.Tuple [.Name x p2, .Name y p3] kk p4] X.env := by rfl) (hpl : (backTo pos (starEach [.Tuple [.Name x p2, .Name y p3] kk p4] X.env)).any (·.1) = false := by rfl) :
    JE X en δ τ (.Call (.Name "isinstance" p) [e, .Tuple [.Name x p2, .Name y p3] kk p4] [] pos) C m := .mk fun hb hx σ ts G H T' hl hσ W k => by
  refine we_of (pe_callB (call_isiT.or call_isXT) hg hm (by decide +kernel) (pa_cons pe_we (pa_cons (pe_tup (pa_cons (pe_bltn (v := .ty T1) hgT hmT hvT rfl hn hdb) (pa_cons (pe_bltn (v := .ty T2) hgU hmU hvU rfl hn2 hdb2) pa_nil) hs1)) pa_nil) he) (by decide) (by decide) he hpl) ?_
  have ht : τ.length = ts.length := W.splitLen (hl.trans hσ.symm)
  refine h.run hb hx σ ts G H _ hl hσ W fun s1 δ1 v1 G1 H1 c1 hl1 W1 => ?_
  obtain ⟨d, e1, c⟩ := c1
  obtain ⟨⟨_, _, ez, r1, _⟩, Wn⟩ := Wd.ends (sls := [s1]) (vs := [v1]) W1 (hl1.trans hσ.symm) ht (ds := [d]) (by simp only [rds, e1])
  cases ez
  refine ⟨by show 2 ≤ sizeLine; decide, fun tp hp => ?_⟩
  have sub := Sub.upd (o := .tup [.ty T1, .ty T2]) hp
  have r2 : VRep X.K G1 (upd H1 tp (.tup [.ty T1, .ty T2])) d v1 := VRep.sub (Sub.refl _) sub r1
  have fin : T' (.bl (g1 d || g2 d)) (upd H1 tp (.tup [.ty T1, .ty T2])) := k _ δ1 _ G1 _ c hl1 ((Wn (by omega)).out (Grow.laid W1.sub hp) (show Rep _ _ _ _ from rfl))
  cases hx : isExc d with
  | true =>
    cases d <;> first | cases hx | skip
    · obtain ⟨a, C, rfl, F, ea⟩ := r2
      exact .inr ⟨a, C, _, tp, _, [.type T1, .type T2], g1 (.exc _ _) || g2 (.exc _ _), rfl, upd_same, .cons (.ty T1) (.cons (.ty T2) .nil), F.cl, ea.sub (W1.sub.trans sub) (Sub.refl _), by
        rw [hgx1, hgx2]
        exact kitAny_cons (F.ty T1 hT1) (fun _ => kitAny_cons (F.ty T2 hT2) (fun _ => kitAny_nil) (fun z => by cases z)) (fun z => by cases z), fin⟩
    · obtain ⟨a, C, dx, vs, rfl, F, ea, _⟩ := r2
      exact .inl ⟨_, tp, _, _, [.type T1, .type T2], g1 (.obj _ _) || g2 (.obj _ _), rfl, upd_same, .cons (.ty T1) (.cons (.ty T2) .nil), .base (.ins ea F.cl F.ha F.hn F.htk F.hm), by
        rw [hgo1, hgo2]
        exact kitAny_cons (F.ty T1 hT1) (fun _ => kitAny_cons (F.ty T2 hT2) (fun _ => kitAny_nil) (fun z => by cases z)) (fun z => by cases z), fin⟩
  | false =>
  refine .inl ⟨v1, tp, _, _, [.type T1, .type T2], g1 d || g2 d, rfl, upd_same, .cons (.ty T1) (.cons (.ty T2) .nil), r2.ty hx, ?_, fin⟩
  cases h1 : g1 d with
  | true => exact kitAny_cons (kit_ty ((hk1 d).trans (by rw [h1]))) (fun z => by cases z) (fun _ => rfl)
  | false =>
    cases h2 : g2 d with
    | true => exact kitAny_cons (kit_ty ((hk1 d).trans (by rw [h1]))) (fun _ => kitAny_cons (kit_ty ((hk2 d).trans (by rw [h2]))) (fun z => by cases z) (fun _ => rfl)) (fun z => by cases z)
    | false => exact kitAny_cons (kit_ty ((hk1 d).trans (by rw [h1]))) (fun _ => kitAny_cons (kit_ty ((hk2 d).trans (by rw [h2]))) (fun _ => kitAny_nil) (fun z => by cases z)) (fun z => by cases z)
end

/-! ### calls of what is built in -/
def absD : List D → Option D
  | [.int a] => some (.int (if a < 0 then -a else a))
  | _ => none
def max2D : List D → Option D
  | [.int a, .int b] => some (.int (if b > a then b else a))
  | _ => none
def min2D : List D → Option D
  | [.int a, .int b] => some (.int (if b < a then b else a))
  | _ => none
def intD : List D → Option D
  | [.int a] => some (.int a)
  | [.bl b] => some (.int (if b then 1 else 0))
  | _ => none
def lenD : List D → Option D
  | [.lst ds] => some (.int ds.length)
  | [.tup ds] => some (.int ds.length)
  | [.scr ns] => some (.int ns.length)
  | [.str x] => if x.length ≤ sizeLine then some (.int x.length) else none
  | _ => none
def bls : List D → Option (List Bool)
  | [] => some []
  | .bl b :: r => (bls r).map (b :: ·)
  | _ :: _ => none
def intsD : List D → Option (List Int)
  | [] => some []
  | .int b :: r => (intsD r).map (b :: ·)
  | _ :: _ => none
def allD : List D → Option D
  | [.lst ds] => (bls ds).map fun bs => .bl (bs.all id)
  | _ => none
def anyD : List D → Option D
  | [.lst ds] => (bls ds).map fun bs => .bl (bs.any id)
  | _ => none
def sumD : List D → Option D
  | [.lst ds] => (intsD ds).map fun ns => .int ns.sum
  | _ => none
/-- list(..), a new one -/
def listD : List D → Option D
  | [.lst ds] => some (.lst ds)
  | [.tup ds] => some (.lst ds)
  | _ => none
def tupleD : List D → Option D
  | [.lst ds] => some (.tup ds)
  | _ => none
section
variable {X : Cx}
theorem VReps.one {K : PySem.W.Frag} {G H : Hp} {d : D} {vs : List V} (h : VReps K G H [d] vs) : ∃ v, vs = [v] ∧ VRep K G H d v := by
  obtain ⟨v, r, e, q, e2⟩ := h
  exact ⟨v, by rw [e, show r = [] from e2], q⟩
theorem VReps.two {K : PySem.W.Frag} {G H : Hp} {d e : D} {vs : List V} (h : VReps K G H [d, e] vs) : ∃ v u, vs = [v, u] ∧ VRep K G H d v ∧ VRep K G H e u := by
  obtain ⟨v, r, e, q, h2⟩ := h
  obtain ⟨u, e2, q2⟩ := VReps.one h2
  exact ⟨v, u, by rw [e, e2], q, q2⟩
theorem intsD_v {K : PySem.W.Frag} {G : Hp} : ∀ {ds : List D} {bs : List Int} {vs : List V}, intsD ds = some bs → Reps K G ds vs → vs = bs.map V.int
  | [], bs, vs, h, r => by cases h; exact r
  | .int b :: ds, bs, vs, h, r => by
    unfold intsD at h
    obtain ⟨bs', h1, h2⟩ := Option.map_eq_some_iff.mp h
    subst h2
    obtain ⟨v, q, e, r1, r2⟩ := r
    have e1 : v = .int b := r1
    subst e e1
    rw [intsD_v h1 r2]; rfl
  | .non :: _, _, _, h, _ => by cases h
  | .bl _ :: _, _, _, h, _ => by cases h
  | .str _ :: _, _, _, h, _ => by cases h
  | .lst _ :: _, _, _, h, _ => by cases h
  | .tup _ :: _, _, _, h, _ => by cases h
  | .dic _ :: _, _, _, h, _ => by cases h
  | .scr _ :: _, _, _, h, _ => by cases h
  | .exc _ _ :: _, _, _, h, _ => by cases h
  | .obj _ _ :: _, _, _, h, _ => by cases h
theorem c_abs : CallD X (.builtin "abs") absD .fr := callD_of call_abs fun ds d e G H vs Q sb r k => by
  match ds, e, r with
  | [.int a], e, r =>
    cases e
    obtain ⟨v, ev, q⟩ := VReps.one r
    have q' : v = .int a := q
    subst ev q'
    exact ⟨a, rfl, sc_out (d := .int (if a < 0 then -a else a)) sb rfl k⟩
theorem c_max2 (hc : X.calm = true) : CallD X (.builtin "max") max2D .fr := callD_of (call_max2 hc) fun ds d e G H vs Q sb r k => by
  match ds, e, r with
  | [.int a, .int b], e, r =>
    cases e
    obtain ⟨v, u, ev, q, q2⟩ := VReps.two r
    have q' : v = .int a := q
    have q2' : u = .int b := q2
    subst ev q' q2'
    exact ⟨a, b, rfl, sc_out (d := .int (if b > a then b else a)) sb rfl k⟩
theorem c_min2 (hc : X.calm = true) : CallD X (.builtin "min") min2D .fr := callD_of (call_min2 hc) fun ds d e G H vs Q sb r k => by
  match ds, e, r with
  | [.int a, .int b], e, r =>
    cases e
    obtain ⟨v, u, ev, q, q2⟩ := VReps.two r
    have q' : v = .int a := q
    have q2' : u = .int b := q2
    subst ev q' q2'
    exact ⟨a, b, rfl, sc_out (d := .int (if b < a then b else a)) sb rfl k⟩
theorem c_len : CallD X (.builtin "len") lenD .fr := callD_of (call_len_seq.or call_len_str) fun ds d e G H vs Q sb r k => by
  match ds, e, r with
  | [.lst ds], e, r =>
    cases e
    obtain ⟨v, ev, p, us, q, h, r2⟩ := VReps.one r
    subst ev q
    exact .inl ⟨p, us, rfl, .inl (SqL.of h), by rw [← r2.length]; exact sc_out (d := .int ds.length) sb rfl k⟩
  | [.tup ds], e, r =>
    cases e
    obtain ⟨v, ev, p, us, q, h, r2⟩ := VReps.one r
    subst ev q
    exact .inl ⟨p, us, rfl, .inr h, by rw [← r2.length]; exact sc_out (d := .int ds.length) sb rfl k⟩
  | [.scr ds], e, r =>
    cases e
    obtain ⟨v, ev, p, q, h⟩ := VReps.one r
    subst ev q
    exact .inl ⟨p, _, rfl, .inl h, by rw [List.length_map]; exact sc_out (d := .int ds.length) sb rfl k⟩
  | [.str x], e, r =>
    obtain ⟨v, ev, q⟩ := VReps.one r
    have q' : v = .str x := q
    subst ev q'
    have e' : (if x.length ≤ sizeLine then some (D.int x.length) else none) = some d := e
    by_cases hz : x.length ≤ sizeLine
    · rw [if_pos hz] at e'
      cases e'
      exact .inr ⟨x, rfl, hz, sc_out (d := .int x.length) sb rfl k⟩
    · rw [if_neg hz] at e'; cases e'
theorem c_sum (hc : X.calm = true) : CallD X (.builtin "sum") sumD .fr := callD_of (cr_sum hc) fun ds d e G H vs Q sb r k => by
  match ds, e, r with
  | [.lst ds], e, r =>
    obtain ⟨ns, h1, h2⟩ := Option.map_eq_some_iff.mp (show (intsD ds).map (fun ns => D.int ns.sum) = some d from e)
    subst h2
    obtain ⟨v, ev, p, us, q, h, r2⟩ := VReps.one r
    subst ev q
    exact ⟨p, ns, rfl, by rw [← intsD_v h1 r2]; exact SqL.of h, sc_out (d := .int ns.sum) sb rfl k⟩
end

/-! ### places -/
def ixD : D → D → Option D
  | .lst ds, .int i => atI ds i
  | .tup ds, .int i => atI ds i
  | .scr ns, .int i => (atI ns i).map D.int
  | _, _ => none
theorem Reps.at {K : PySem.W.Frag} {G : Hp} {ds : List D} {vs : List V} {i : Int} {d : D} (r : Reps K G ds vs) (h : atI ds i = some d) : ∃ v, atI vs i = some v ∧ Rep K G d v := by
  unfold atI at h ⊢
  obtain ⟨j, h1, h2⟩ := Option.bind_eq_some_iff.mp h
  obtain ⟨v, h3, h4⟩ := r.get h2
  exact ⟨v, by rw [← r.length, h1]; exact h3, h4⟩
theorem atI_map {α β : Type} (f : α → β) (xs : List α) (i : Int) : atI (xs.map f) i = (atI xs i).map f := by
  unfold atI
  rw [List.length_map]
  cases ixN xs.length i with
  | none => rfl
  | some j => show (xs.map f)[j]? = _; rw [List.getElem?_map]; rfl
section
variable {X : Cx} {en : Kn} {δ τ : List Slot} {R : Type} {C : Slot → List Slot → Res R → Prop} {m : Res R} {K : PySem.W.Frag}
theorem ix_D : IxD X ixD .fr := ixD_of (ix_list.or ix_tup) fun d1 d2 d e G H v1 v2 Q sb r1 r2 k => by
  match d1, d2, e, r1, r2 with
  | .lst ds, .int i, e, r1, r2 =>
    obtain ⟨p, vs, e1, q1, s1⟩ := r1
    obtain ⟨v, h1, h2⟩ := s1.at e
    exact .inl ⟨p, vs, i, v, e1, r2, SqL.of q1, h1, k v G H (Grow.refl sb) h2⟩
  | .tup ds, .int i, e, r1, r2 =>
    obtain ⟨p, vs, e1, q1, s1⟩ := r1
    obtain ⟨v, h1, h2⟩ := s1.at e
    exact .inr ⟨p, vs, i, v, e1, r2, q1, h1, k v G H (Grow.refl sb) h2⟩
  | .scr ns, .int i, e, r1, r2 =>
    obtain ⟨p, e1, q1⟩ := r1
    obtain ⟨n, h1, h2⟩ := Option.map_eq_some_iff.mp (show (atI ns i).map D.int = some d from e)
    subst h2
    exact .inl ⟨p, _, i, .int n, e1, r2, q1, by rw [atI_map, h1]; rfl, sc_out (d := .int n) sb rfl k⟩

/-! ### cuts of lists -/
def cutD (xs : List D) (lo hi : Option Int) : List D := (xs.drop (HT.sIx xs.length 0 lo)).take (HT.sIx xs.length xs.length hi - HT.sIx xs.length 0 lo)
/-- an optional part of a cut -/
abbrev WO (X : Cx) (e : Option Expr) : TO := fun σ H Q => ∀ (pins : List (Addr × Obj)) (s : Shared), Inv X pins σ H s → wpAny (model X.prog X.w) X.A (evalPart e X.env) (fun u s' => ∃ o H', Inv X pins σ H' s' ∧ IsPart u o ∧ Q o H') X.xe s
structure JO (X : Cx) (en : Kn) (δ τ : List Slot) (e : Option Expr) {R : Type} (C : Option Int → List Slot → Res R → Prop) (m : Res R) : Prop where
  run : m ≠ .bad → en.HX m.exc → ∀ (σ ts : L2.St) (G H : Hp) (T : Option Int → Hp → Prop), δ.length = en.n → σ.length = en.n → Wd X.K en (δ ++ τ) (σ ++ ts) G H →
    (∀ o δ' G' H', C o δ' m → δ'.length = en.n → Wd X.K en (δ' ++ τ) (σ ++ ts) G' H' → T o H') → WO X e σ H T
def asI : D → Option Int
  | .int i => some i
  | _ => none
def asLst : D → Option (List D)
  | .lst ds => some ds
  | _ => none
end

/-! ### lists changed -/
/-- a method that changes its list: the data of the list, the arguments; what is told and the list behind it -/
def MutD (X : Cx) (id : String) (g : D → List D → Option (D × D)) : Prop :=
  ∀ dl args ret dl', g dl args = some (ret, dl') → ∀ (pins : List (Addr × Obj)) (s : Shared) (σ : L2.St) (G H : Hp) (p : Addr) (vs : List V) (us : List Value) (Q : VK), Inv X pins σ H s → Sub G H → G p = none → MRep X.K G H dl p → Reps X.K G args vs → Vals vs us →
    (∀ v o', Rep X.K G ret v → MRep X.K G (upd H p o') dl' p → Q v (upd H p o')) → wpAny (model X.prog X.w) X.A (call (.builtin id) (.ref p :: us)) (EP X pins σ Q) X.xe s
theorem mutD_of {X : Cx} {id : String} {r : V → List V → Hp → VK → Prop} {g : D → List D → Option (D × D)} (h : MtM X id r)
    (k : ∀ dl args ret dl', g dl args = some (ret, dl') → ∀ (G H : Hp) (p : Addr) (vs : List V) (Q : VK), Sub G H → MRep X.K G H dl p → Reps X.K G args vs → (∀ v o', Rep X.K G ret v → MRep X.K G (upd H p o') dl' p → Q v (upd H p o')) → r (.ref p) vs H Q) : MutD X id g :=
  fun dl args ret dl' e pins s σ G H p vs us Q I sb _ r1 r2 q hq => h pins s σ H (.ref p) vs (.ref p) us Q I rfl q (k dl args ret dl' e G H p vs Q sb r1 r2 hq)
def appendD : D → List D → Option (D × D)
  | .lst ds, [d] => if ds.length < sizeLine then some (.non, .lst (ds ++ [d])) else none
  | _, _ => none
def popD : D → List D → Option (D × D)
  | .lst ds, [] => (ds[ds.length - 1]?).map fun d => (d, .lst ds.dropLast)
  | _, _ => none
def clearD : D → List D → Option (D × D)
  | .lst _, [] => some (.non, .lst [])
  | _, _ => none
def reverseD : D → List D → Option (D × D)
  | .lst ds, [] => some (.non, .lst ds.reverse)
  | _, _ => none
def extendD : D → List D → Option (D × D)
  | .lst ds, [.lst es] => if ds.length + es.length ≤ sizeLine then some (.non, .lst (ds ++ es)) else none
  | _, _ => none
section
variable {X : Cx} {en : Kn} {δ τ : List Slot} {R : Type} {C : Slot → List Slot → Res R → Prop} {m : Res R} {K : PySem.W.Frag}
theorem m_append : MutD X "list.append" appendD := mutD_of mt_append fun dl args ret dl' e G H p vs Q sb r1 r2 k => by
  match dl, args, e, r1, r2 with
  | .lst ds, [d], e, r1, r2 =>
    have e' : (if ds.length < sizeLine then some (D.non, D.lst (ds ++ [d])) else none) = some (ret, dl') := e
    by_cases hz : ds.length < sizeLine
    · rw [if_pos hz] at e'
      cases e'
      obtain ⟨us, h1, h2⟩ := r1
      obtain ⟨v, r, ev, q, e2⟩ := r2
      have e2' : r = [] := e2
      subst ev e2'
      exact ⟨p, us, v, rfl, rfl, h1, by rw [← h2.length]; exact hz, k .non _ rfl ⟨_, upd_same, h2.append (Reps.one q)⟩⟩
    · rw [if_neg hz] at e'; cases e'
theorem m_extend : MutD X "list.extend" extendD := mutD_of mt_extend fun dl args ret dl' e G H p vs Q sb r1 r2 k => by
  match dl, args, e, r1, r2 with
  | .lst ds, [.lst es], e, r1, r2 =>
    have e' : (if ds.length + es.length ≤ sizeLine then some (D.non, D.lst (ds ++ es)) else none) = some (ret, dl') := e
    by_cases hz : ds.length + es.length ≤ sizeLine
    · rw [if_pos hz] at e'
      cases e'
      obtain ⟨us, h1, h2⟩ := r1
      obtain ⟨v, r, ev, ⟨b, zs, e3, q, r3⟩, e2⟩ := r2
      have e2' : r = [] := e2
      subst ev e2' e3
      exact ⟨p, b, us, zs, rfl, rfl, h1, sb _ _ q, by rw [← h2.length, ← r3.length]; exact hz, k .non _ rfl ⟨_, upd_same, h2.append r3⟩⟩
    · rw [if_neg hz] at e'; cases e'
/-- the list of a name -/
theorem own_of {δ : List Slot} {i : Nat} {sl : Slot} {σ ts : L2.St} {G H : Hp} (W : Wd K en (δ ++ τ) (σ ++ ts) G H) (hl : δ.length = en.n) (hσ : σ.length = en.n) {d : D} (h : δ[i]? = some sl) (ho : sl.own = true) (hd : sl.rd δ = some d) :
    ∃ p, σ[i]? = some (some (.ref p)) ∧ Own (δ ++ τ) (σ ++ ts) i p ∧ G p = none ∧ MRep K G H d p := by
  obtain ⟨o, h1, q⟩ := W.name (hl.trans hσ.symm) h
  have hi := (List.getElem?_eq_some_iff.mp h).1
  have up : ∀ p, o = some (V.ref p) → Own (δ ++ τ) (σ ++ ts) i p := fun p e => ⟨sl, by rw [List.getElem?_append_left hi]; exact h, ho, by rw [List.getElem?_append_left (by omega), h1, e]⟩
  cases sl with
  | mu d' => cases hd; obtain ⟨p, e, n, _, _, r⟩ := q; exact ⟨p, by rw [h1, e], up p e, n, r⟩
  | mp j d' => cases hd; obtain ⟨p, e, _, n, _, r⟩ := q; exact ⟨p, by rw [h1, e], up p e, n, r⟩
  | un => cases ho
  | fr _ => cases ho
  | bw _ => cases ho
  | bo _ => cases ho
/-- name.method(args), the name's own list changed -/
theorem mut_core {id : String} {g : D → List D → Option (D × D)} {x : Str} {p : Pos} {es : List Expr} {whole : Expr} (i : Nat) {sl0 : Slot} {ds0 : List D} (hm : MutD X id g)
    (rule : ∀ {r : V → List V → Hp → VK → Prop} {to : TE} {t : TA}, MtR X id r → PE X (.Name x p) to → PA X es t → PE X whole (tBM X.K "list" r to t))
    (hs : δ[i]? = some sl0) (ho : sl0.own = true) (hd : sl0.rd δ = some (.lst ds0))
    (h : JA X en δ τ es (fun sls δ1 m1 => ∃ ds sl dl k, ∃ pe : D × D → List Slot, frs sls = some ds ∧ δ1[i]? = some sl ∧ sl.own = true ∧ sl.rd δ1 = some dl ∧ m1 = op (g dl ds) k ∧ (∀ r, δ1.set i (sl.put r.2) = pe r) ∧ ∀ r, g dl ds = some r → C (.fr r.1) (pe r) (k r)) m)
    (hN : X.N[i]? = some x) (hv : Vis X.env.scope x) (hdd : (x == ("__debug__" : Str)) = false) (hcd : (x == ("__classdict__" : Str)) = false) : JE X en δ τ whole C m := .mk fun hb hx σ ts G H T hl hσ W k => by
  refine we_of (rule (r := fun x vs H Q => ∃ p, x = .ref p ∧ ∀ (pins : List (Addr × Obj)) (s : Shared) (σ : L2.St) (us : List Value), Inv X pins σ H s → Vals vs us → wpAny (model X.prog X.w) X.A (call (.builtin id) (.ref p :: us)) (EP X pins σ Q) X.xe s)
    (fun pins s σ H x xs v us Q I r1 r2 h => by
      obtain ⟨p, e, h⟩ := h
      subst e
      cases r1
      exact h pins s σ us I r2) (pe_var hN hv hdd hcd) pa_wa) ?_
  have ht : τ.length = ts.length := W.splitLen (hl.trans hσ.symm)
  obtain ⟨p0, h1, _, _, us0, h2, h3⟩ := own_of W hl hσ hs ho hd
  refine ⟨.ref p0, h1, .inl ⟨rfl, us0, SqL.of h2⟩, ?_⟩
  refine h.run hb hx σ ts G H _ hl hσ W fun sls δ1 vs G1 H1 c1 hl1 W1 => ?_
  obtain ⟨ds, sl, dl, k', pe, e1, e2, e3, e4, em, hpe, hk⟩ := c1
  have hb' := hb
  rw [em] at hb'
  obtain ⟨r, er⟩ := op_some hb'
  have em' : m = k' r := by rw [em, er]; rfl
  have hk2 := hk r er
  rw [← em'] at hk2
  obtain ⟨hn, hq⟩ := W1.endSlots (hl1.trans hσ.symm) ht
  have hr : Reps X.K G1 ds vs := Wd.frs (Δ := δ) (H := H1) hq hn e1
  have W2 := W1.cut (Δ := δ1 ++ τ) (S := σ ++ ts) (by rw [List.length_append, List.length_append]; omega) (by rw [List.length_append]; omega)
  obtain ⟨p1, h5, ow, n1, r1⟩ := own_of W2 hl1 hσ e2 e3 e4
  rw [h1] at h5
  cases h5
  have hi := (List.getElem?_eq_some_iff.mp e2).1
  refine ⟨p0, rfl, fun pins s σ' us I rv => hm dl ds r.1 r.2 er pins s σ' G1 H1 p0 vs us T I W2.sub n1 r1 hr rv fun v o' rr rm => ?_⟩
  have W3 := W2.mut ow rm
  rw [List.getD_eq_getElem?_getD, List.getElem?_append_left hi, e2, List.set_append_left _ _ hi] at W3
  have W4 : Wd X.K en (pe r ++ τ) (σ ++ ts) G1 (upd H1 p0 o') := by rw [← hpe r]; exact W3
  refine k _ (pe r) v G1 _ hk2 (by rw [← hpe r, List.length_set]; exact hl1) (W4.out (Grow.refl W4.sub) rr)
theorem je_mut {id : String} {g : D → List D → Option (D × D)} {name : Str} {x : Str} {p apos cpos : Pos} {e : Expr} {es : List Expr} (i : Nat) {sl0 : Slot} {ds0 : List D} (slot : PySem.Slot "list" name id) (hty : typeOf (.builtin id) = pure (.type "method_descriptor")) (hm : MutD X id g)
    (hs : δ[i]? = some sl0) (ho : sl0.own = true) (hd : sl0.rd δ = some (.lst ds0))
    (h : JA X en δ τ (e :: es) (fun sls δ1 m1 => ∃ ds sl dl k, ∃ pe : D × D → List Slot, frs sls = some ds ∧ δ1[i]? = some sl ∧ sl.own = true ∧ sl.rd δ1 = some dl ∧ m1 = op (g dl ds) k ∧ (∀ r, δ1.set i (sl.put r.2) = pe r) ∧ ∀ r, g dl ds = some r → C (.fr r.1) (pe r) (k r)) m)
    (hN : X.N[i]? = some x := by rfl) (hv : Vis X.env.scope x := by first | exact Or.inl rfl | exact Or.inr (Or.inl rfl) | exact Or.inr (Or.inr rfl)) (hdd : (x == ("__debug__" : Str)) = false := by decide) (hcd : (x == ("__classdict__" : Str)) = false := by decide)
    (hfew : ((backTo cpos (starEach (e :: es) X.env)).all (fun x => !x.1) && (backToKw cpos (keywordEach [] X.env)).all (fun x => x.1.isSome)
      && decide ((e :: es).length + ([] : List Keyword).length + (if ([] : List Keyword).isEmpty then 0 else 1) < 30)) = true := by rfl)
    (hline : (apos.endLine == cpos.line) = true := by rfl) (hst : starEach (e :: es) X.env = (false, eval e X.env) :: starEach es X.env := by exact star_plain rfl) (hplain : (backTo cpos (starEach es X.env)).any (·.1) = false := by rfl) :
    JE X en δ τ (.Call (.Attribute (.Name x p) name apos) (e :: es) [] cpos) C m :=
  mut_core i hm (fun h1 h2 h3 => pe_bm PySem.F.plainAttrs_list slot hty h1 h2 h3 rfl hfew hline hst hplain) hs ho hd h hN hv hdd hcd
end
end BR

/-! K12: more of lists changed, x op= e, repr -/
namespace BR
open PySem PySem.Spec PyProof.Rows L2
section
variable {X : Cx} {en : Kn} {δ τ : List Slot} {R : Type} {C : Slot → List Slot → Res R → Prop} {m : Res R} {K : PySem.W.Frag}
variable {N : List Slot → Res R → Prop} {RT : Slot → List Slot → Res R → Prop} {BK CT : List Slot → Res R → Prop}
/-! ### name[i] = e -/
def setD : D → D → D → Option D
  | .lst ds, .int i, d => (ixN ds.length i).map fun j => .lst (ds.set j d)
  | _, _, _ => none
theorem js_setIx {x : Str} {p p2 pos : Pos} {idx e : Expr} (i : Nat)
    (h : JE X en δ [] e (fun s1 δ1 m1 => ∃ d sl0, s1 = .fr d ∧ δ1[i]? = some sl0 ∧ sl0.own = true ∧ JE X en δ1 [s1] idx (fun s2 δ2 m2 => ∃ di sl dl k, ∃ pe : D → List Slot, s2.rd δ2 = some di ∧ δ2[i]? = some sl ∧ sl.own = true ∧ sl.rd δ2 = some dl ∧ m2 = op (setD dl di d) k ∧ (∀ r, δ2.set i (sl.put r) = pe r) ∧ ∀ r, setD dl di d = some r → N (pe r) (k r)) m1) m)
    (hN : X.N[i]? = some x := by rfl) (hv : Vis X.env.scope x := by first | exact Or.inl rfl | exact Or.inr (Or.inl rfl) | exact Or.inr (Or.inr rfl)) (hdd : (x == ("__debug__" : Str)) = false := by decide) (hcd : (x == ("__classdict__" : Str)) = false := by decide)
    (hs : swapsWithSole [.Subscript (.Name x p) idx p2] e pos.line X.env = pure false := by rfl) (hw : swappedStores [.Subscript (.Name x p) idx p2] e X.env = pure none := by rfl)
    (h1 : (assignEach [.Subscript (.Name x p) idx p2] X.env).map (·.2) = [assign (.Subscript (.Name x p) idx p2) X.env] := by rfl)
    (ha : ∀ v, assign (.Subscript (.Name x p) idx p2) X.env v = (do
      let ov ← holding [v] (eval (.Name x p) X.env)
      let iv ← holding [v, ov] (eval idx X.env)
      standAt p2
      holding [v, ov, iv] (setItem ov iv v)
      release [v, ov, iv] []) := by intro _; rfl) :
    JS X en δ (.Assign [.Subscript (.Name x p) idx p2] e pos) N RT BK CT m := .mk fun hb hx σ G H E hl W k1 k2 k3 k4 => by
  refine ws_of (ps_asg pe_we (pg_sub (pe_var hN hv hdd hcd) pe_we set_list ha) hs hw h1) ?_
  have hσ := W.sl hl
  refine h.at hb hx hl W fun s1 δ1 v1 G1 H1 ⟨d, sl0, es, f1, f2, c1⟩ hl1 W1 => ?_
  subst es
  have own1 : ∃ p0, σ[i]? = some (some (V.ref p0)) := by
    obtain ⟨o, g1, g2⟩ := W1.name (τ := [.fr d]) (hl1.trans hσ.symm) f1
    cases sl0 with
    | mu _ => obtain ⟨p, e, _⟩ := g2; exact ⟨p, by rw [g1, e]⟩
    | mp _ _ => obtain ⟨p, e, _⟩ := g2; exact ⟨p, by rw [g1, e]⟩
    | un => cases f2
    | fr _ => cases f2
    | bw _ => cases f2
    | bo _ => cases f2
  obtain ⟨p0, h0⟩ := own1
  refine ⟨.ref p0, h0, ?_⟩
  refine c1.run hb hx σ [some v1] G1 H1 _ hl1 hσ W1 fun s2 δ2 v2 G2 H2 c2 hl2 W2 => ?_
  obtain ⟨di, sl, dl, k', pe, e1, e2, e3, e4, em, hpe, hk⟩ := c2
  have hb' := hb
  rw [em] at hb'
  obtain ⟨r, er⟩ := op_some hb'
  have em' : m = k' r := by rw [em, er]; rfl
  have hk2 := hk r er
  rw [← em'] at hk2
  have W3 : Wd X.K en (δ2 ++ [] ++ [.fr d, s2]) (σ ++ [] ++ [v1, v2].map some) G2 H2 := by
    have := W2
    simp only [List.append_assoc, List.map_cons, List.map_nil, List.cons_append, List.nil_append] at this ⊢
    exact this
  obtain ⟨⟨_, _, ez, _, _, _, ez2, r2, ez3⟩, Wn⟩ := W3.ends (τ := []) (ts := []) (hl2.trans hσ.symm) rfl (ds := [d, di]) (by simp only [rds, e1]; rfl)
  cases ez
  cases ez2
  obtain ⟨v', ev', rd⟩ := (W2.cut (Δ := δ2 ++ [.fr d]) (S := σ ++ [some v1]) (by rw [List.length_append, List.length_append]; simp; omega) (by rw [List.length_append]; omega)).last
  cases ev'
  have W4 := Wn (by omega)
  obtain ⟨p1, h5, ow, n1, r1⟩ := own_of W4 hl2 hσ e2 e3 e4
  rw [h0] at h5
  cases h5
  have hi := (List.getElem?_eq_some_iff.mp e2).1
  match dl, di, er, r1, r2 with
  | .lst ds, .int j, er, r1, r2 =>
    obtain ⟨l, h6, h7⟩ := Option.map_eq_some_iff.mp (show (ixN ds.length j).map (fun l => D.lst (ds.set l d)) = some r from er)
    subst h7
    obtain ⟨us, h8, h9⟩ := r1
    have r2' : v2 = .int j := r2
    subst r2'
    refine ⟨p0, us, j, l, rfl, rfl, h8, by rw [← h9.length]; exact h6, ?_⟩
    have W5 := W4.mut (o' := .lst (us.set l v1)) (d' := .lst (ds.set l d)) ow ⟨_, upd_same, Reps.set rd l h9⟩
    rw [List.getD_eq_getElem?_getD, List.getElem?_append_left hi, e2, List.set_append_left _ _ hi, List.append_nil, List.append_nil] at W5
    have W6 : Wd X.K en (pe (.lst (ds.set l d))) σ G2 (upd H2 p0 (.lst (us.set l v1))) := by rw [← hpe]; exact W5
    exact k1 _ σ G2 _ hk2 (by rw [← hpe, List.length_set]; exact hl2) W6

/-! ### name op= e -/
def iaddD : D → D → Option D
  | .int a, .int b => some (.int (a + b))
  | .str a, .str b => if a.length + b.length ≤ sizeLine then some (.str (a ++ b)) else none
  | _, _ => none
theorem ip_addD : OpD X (inplaceOp .Add) iaddD .fr := opD_of (iop_add.or iop_add_str) fun d1 d2 d e G H v1 v2 Q sb r1 r2 k => by
  match d1, d2, e, r1, r2 with
  | .int a, .int b, e, r1, r2 =>
    cases e
    exact .inl ⟨a, b, r1, r2, sc_out (d := .int (a + b)) sb rfl k⟩
  | .str a, .str b, e, r1, r2 =>
    have e' : (if a.length + b.length ≤ sizeLine then some (D.str (a ++ b)) else none) = some d := e
    by_cases hz : a.length + b.length ≤ sizeLine
    · rw [if_pos hz] at e'
      cases e'
      exact .inr ⟨a, b, r1, r2, hz, sc_out (d := .str (a ++ b)) sb rfl k⟩
    · rw [if_neg hz] at e'; cases e'
theorem ip_subD : OpD X (inplaceOp .Sub) subD .fr := opD_of iop_sub fun d1 d2 d e G H v1 v2 Q sb r1 r2 k => by
  match d1, d2, e, r1, r2 with
  | .int a, .int b, e, r1, r2 =>
    cases e
    exact ⟨a, b, r1, r2, sc_out (d := .int (a - b)) sb rfl k⟩
theorem js_aug {op' : Operator} {g : D → D → Option D} {x : Str} {p pos : Pos} {e : Expr} {d : D} (i : Nat) (hN : X.N.Nodup) (ho : OpD X (inplaceOp op') g .fr) (hs : δ[i]? = some (.fr d))
    (h : JE X en δ [.fr d] e (fun s2 δ2 m2 => ∃ d2 k, ∃ pe : D → List Slot, s2.rd δ2 = some d2 ∧ noBo δ2 = true ∧ m2 = op (g d d2) k ∧ (∀ r, δ2.set i (.fr r) = pe r) ∧ ∀ r, g d d2 = some r → N (pe r) (k r)) m)
    (hi : X.N[i]? = some x := by rfl) (hx : Loc X.env.scope x := by first | exact Or.inl rfl | exact Or.inr rfl) (hf : X.fn x = true ∨ X.env.scope.names.lookup x = some .local := by first | exact .inl rfl | exact .inr rfl) :
    JS X en δ (.AugAssign (.Name x p) op' e pos) N RT BK CT m := .mk fun hb hx' σ G H E hl W k1 k2 k3 k4 => by
  refine ws_of (ps_aug hN hi hx pe_we (ti := fun x y H Q => ∀ (pins : List (Addr × Obj)) (s : Shared) (σ : L2.St) (u1 u2 : Value), Inv X pins σ H s → RelV x u1 → RelV y u2 → wpAny (model X.prog X.w) X.A (inplaceOp op' u1 u2) (EP X pins σ Q) X.xe s)
    (fun pins s σ H x y v u Q I r1 r2 h => h pins s σ v u I r1 r2) hf) ?_
  have hσ := W.sl hl
  obtain ⟨o, h1, h2⟩ := W.at hs
  obtain ⟨v, ev, rv⟩ := h2
  subst ev
  refine ⟨v, h1, ?_⟩
  have W1 : Wd X.K en (δ ++ [.fr d]) (σ ++ [some v]) G H := W.out (sl := .fr d) (Grow.refl W.sub) rv
  refine h.run hb hx' σ [some v] G H _ hl hσ W1 fun s2 δ2 v2 G2 H2 c2 hl2 W2 => ?_
  obtain ⟨d2, k', pe, e2, nb, em, hpe, hk⟩ := c2
  have hb' := hb
  rw [em] at hb'
  obtain ⟨r, er⟩ := op_some hb'
  have em' : m = k' r := by rw [em, er]; rfl
  have hk2 := hk r er
  rw [← em'] at hk2
  have W3 : Wd X.K en (δ2 ++ [] ++ [.fr d, s2]) (σ ++ [] ++ [v, v2].map some) G2 H2 := by
    have := W2
    simp only [List.append_assoc, List.map_cons, List.map_nil, List.cons_append, List.nil_append] at this ⊢
    exact this
  obtain ⟨⟨_, _, ez, r1, _, _, ez2, r2, ez3⟩, Wn⟩ := W3.ends (τ := []) (ts := []) (hl2.trans hσ.symm) rfl (ds := [d, d2]) (by simp only [rds, e2]; rfl)
  cases ez
  cases ez2
  have W4 := Wn (by omega)
  rw [List.append_nil, List.append_nil] at W4
  intro pins s σ' u1 u2 I q1 q2
  refine ho d d2 r er pins s σ' G2 H2 v v2 u1 u2 _ I W2.sub r1 r2 q1 q2 fun z G' H' gr out => ?_
  have W5 := (W4.out gr out).give (hl2.trans hσ.symm) nb rfl i
  rw [hpe] at W5
  exact k1 _ _ G' H' hk2 (by rw [← hpe, List.length_set]; exact hl2) W5

/-! ### repr -/
/-- what repr tells: of what holds no dict -/
def reprD : List D → Option D
  | [d] => if (toP d).canLay0 = true ∧ (toP d).showable = true ∧ (toP d).depth ≤ 60 ∧ (toP d).shown.length ≤ sizeLine then some (.str (toP d).shown) else none
  | _ => none
end
end BR

/-! K13: pairs as targets, cuts of lists and tuples, dicts written, small words for printed proofs -/
namespace BR
open PySem PySem.Spec PyProof.Rows L2

theorem len1 {α : Type} : ∀ {l : List α}, l.length = 1 → ∃ a, l = [a]
  | [a], _ => ⟨a, rfl⟩
theorem len2 {α : Type} : ∀ {l : List α}, l.length = 2 → ∃ a b, l = [a, b]
  | [a, b], _ => ⟨a, b, rfl⟩
theorem len3 {α : Type} : ∀ {l : List α}, l.length = 3 → ∃ a b c, l = [a, b, c]
  | [a, b, c], _ => ⟨a, b, c, rfl⟩
theorem len4 {α : Type} : ∀ {l : List α}, l.length = 4 → ∃ a b c d, l = [a, b, c, d]
  | [a, b, c, d], _ => ⟨a, b, c, d, rfl⟩
theorem unp_ne {n : Nat} {ds : List D} (h : ds.length ≠ n) : unp n (.tup ds) = none := by
  unfold unp
  exact if_neg h
def un2 : D → Option (D × D)
  | .tup [a, b] => some (a, b)
  | _ => none
def un3 : D → Option (D × D × D)
  | .tup [a, b, c] => some (a, b, c)
  | _ => none
def k2 {R : Type} (k : D × D → Res R) : List D → Res R
  | [a, b] => k (a, b)
  | _ => .bad
def k3 {R : Type} (k : D × D × D → Res R) : List D → Res R
  | [a, b, c] => k (a, b, c)
  | _ => .bad
theorem un2_unp {R : Type} {d : D} {k : D × D → Res R} : op (un2 d) k = op (unp 2 d) (k2 k) := by
  cases d with
  | tup ds =>
    match ds with
    | [] => rfl
    | [_] => rfl
    | [_, _] => rfl
    | a :: b :: c :: r =>
      have e : unp 2 (.tup (a :: b :: c :: r)) = none := by
        exact unp_ne (by simp)
      rw [e]; rfl
  | _ => rfl
theorem un3_unp {R : Type} {d : D} {k : D × D × D → Res R} : op (un3 d) k = op (unp 3 d) (k3 k) := by
  cases d with
  | tup ds =>
    match ds with
    | [] => rfl
    | [_] => rfl
    | [_, _] => rfl
    | [_, _, _] => rfl
    | a :: b :: c :: x :: r =>
      have e : unp 3 (.tup (a :: b :: c :: x :: r)) = none := by
        exact unp_ne (by simp)
      rw [e]; rfl
  | _ => rfl
section
variable {X : Cx} {en : Kn} {δ τ : List Slot} {R : Type} {m : Res R} {K : PySem.W.Frag} {N : List Slot → Res R → Prop}
theorem jg_tup2 {e1 e2 : Expr} {k : Nat} {pos : Pos} {d : D} {is : List Nat} (hc : X.calm = true) (h : ∃ k', m = op (un2 d) k' ∧ ∀ p : D × D, JGs X en δ τ [e1, e2] [p.1, p.2] is N (k' p))
    (hn : (assignEach [e1, e2] X.env).length = 2 := by rfl) (hst : (assignEach [e1, e2] X.env).findIdx? (·.1) = none := by rfl) : JG X en δ τ (.Tuple [e1, e2] k pos) d is N m := by
  obtain ⟨k', em, hk⟩ := h
  refine jg_tup hc ⟨_, em.trans un2_unp, fun ds hl => ?_⟩ hn hst
  obtain ⟨a, b, rfl⟩ := len2 hl
  exact hk (a, b)
theorem jg_tup3 {e1 e2 e3 : Expr} {k : Nat} {pos : Pos} {d : D} {is : List Nat} (hc : X.calm = true) (h : ∃ k', m = op (un3 d) k' ∧ ∀ p : D × D × D, JGs X en δ τ [e1, e2, e3] [p.1, p.2.1, p.2.2] is N (k' p))
    (hn : (assignEach [e1, e2, e3] X.env).length = 3 := by rfl) (hst : (assignEach [e1, e2, e3] X.env).findIdx? (·.1) = none := by rfl) : JG X en δ τ (.Tuple [e1, e2, e3] k pos) d is N m := by
  obtain ⟨k', em, hk⟩ := h
  refine jg_tup hc ⟨_, em.trans un3_unp, fun ds hl => ?_⟩ hn hst
  obtain ⟨a, b, c, rfl⟩ := len3 hl
  exact hk (a, b, c)

/-! ### cuts -/
end
end BR

/-! K14: what printed proofs use: rules over lists of data, steps of Le -/
namespace BR
open PySem PySem.Spec PyProof.Rows L2

theorem le_n : Le [] [] := trivial
theorem le_s {a : Slot} {r q : List Slot} (h : Le r q) : Le (a :: r) (a :: q) := ⟨.inr rfl, h⟩
theorem le_u {a : Slot} {r q : List Slot} (h : Le r q) : Le (a :: r) (.un :: q) := ⟨.inl rfl, h⟩
theorem oa_n {δ : List Slot} {j : Nat} : OutsAt δ j [] := trivial
theorem oa_c {δ : List Slot} {j : Nat} {d : D} {ds : List D} (i : Nat) (h : δ[i]? = some (.mp j d)) (r : OutsAt δ (j + 1) ds) : OutsAt δ j (d :: ds) := ⟨⟨i, h⟩, r⟩

section
variable {X : Cx} {en : Kn} {δ τ : List Slot} {R : Type} {C : Slot → List Slot → Res R → Prop} {m : Res R} {K : PySem.W.Frag}
theorem JE.conv {C' : Slot → List Slot → Res R → Prop} {e : Expr} (h : JE X en δ τ e C m) (k : ∀ s δ', C s δ' m → C' s δ' m) : JE X en δ τ e C' m := .mk fun hb hx σ ts G H T hl hσ W q =>
  h.run hb hx σ ts G H T hl hσ W fun sl δ' v G' H' c hl' W' => q sl δ' v G' H' (k _ _ c) hl' W'
theorem JA.conv {C C' : List Slot → List Slot → Res R → Prop} {es : List Expr} (h : JA X en δ τ es C m) (k : ∀ s δ', C s δ' m → C' s δ' m) : JA X en δ τ es C' m := .mk fun hb hx σ ts G H T hl hσ W q =>
  h.run hb hx σ ts G H T hl hσ W fun sl δ' v G' H' c hl' W' => q sl δ' v G' H' (k _ _ c) hl' W'
def kL {R : Type} (k : List D → Res R) : D → Res R
  | .lst ds => k ds
  | _ => .bad
theorem op_kL {o : Option (List D)} {k : List D → Res R} : op o k = op (o.map D.lst) (kL k) := by cases o <;> rfl
def kP {R : Type} (k : D × List D → Res R) : D × D → Res R
  | (d, .lst ds) => k (d, ds)
  | _ => .bad
theorem op_kP {o : Option (D × List D)} {k : D × List D → Res R} : op o k = op (o.map fun r => (r.1, D.lst r.2)) (kP k) := by cases o <;> rfl

/-! ### items of a list set -/
def setL (ds : List D) (di d : D) : Option (List D) := match di with
  | .int i => (ixN ds.length i).map fun j => ds.set j d
  | _ => none
theorem setD_L {ds : List D} {di d : D} : setD (.lst ds) di d = (setL ds di d).map D.lst := by
  cases di <;> first | rfl | skip
  show ((ixN _ _).map _) = ((ixN _ _).map _).map _
  rw [Option.map_map]; rfl
section
variable {N : List Slot → Res R → Prop} {RT : Slot → List Slot → Res R → Prop} {BK CT : List Slot → Res R → Prop}
theorem js_setL {x : Str} {p p2 pos : Pos} {idx e : Expr} (i : Nat)
    (h : JE X en δ [] e (fun s1 δ1 m1 => ∃ d sl0, s1 = .fr d ∧ δ1[i]? = some sl0 ∧ sl0.own = true ∧ JE X en δ1 [s1] idx (fun s2 δ2 m2 => ∃ di sl ds k, ∃ pe : List D → List Slot, s2.rd δ2 = some di ∧ δ2[i]? = some sl ∧ sl.own = true ∧ sl.rd δ2 = some (.lst ds) ∧ m2 = op (setL ds di d) k ∧ (∀ r, δ2.set i (sl.put (.lst r)) = pe r) ∧ ∀ r, N (pe r) (k r)) m1) m)
    (hN : X.N[i]? = some x := by rfl) (hv : Vis X.env.scope x := by first | exact Or.inl rfl | exact Or.inr (Or.inl rfl) | exact Or.inr (Or.inr rfl)) (hdd : (x == ("__debug__" : Str)) = false := by decide) (hcd : (x == ("__classdict__" : Str)) = false := by decide)
    (hs : swapsWithSole [.Subscript (.Name x p) idx p2] e pos.line X.env = pure false := by rfl) (hw : swappedStores [.Subscript (.Name x p) idx p2] e X.env = pure none := by rfl)
    (h1 : (assignEach [.Subscript (.Name x p) idx p2] X.env).map (·.2) = [assign (.Subscript (.Name x p) idx p2) X.env] := by rfl)
    (ha : ∀ v, assign (.Subscript (.Name x p) idx p2) X.env v = (do
      let ov ← holding [v] (eval (.Name x p) X.env)
      let iv ← holding [v, ov] (eval idx X.env)
      standAt p2
      holding [v, ov, iv] (setItem ov iv v)
      release [v, ov, iv] []) := by intro _; rfl) : JS X en δ (.Assign [.Subscript (.Name x p) idx p2] e pos) N RT BK CT m :=
  js_setIx i (h.conv fun s1 δ1 ⟨d, sl0, e1, e2, e3, q⟩ => ⟨d, sl0, e1, e2, e3, q.conv fun s2 δ2 ⟨di, sl, ds, k, pe, f1, f2, f3, f4, f5, f6, f7⟩ =>
    ⟨di, sl, .lst ds, kL k, fun r => δ2.set i (sl.put r), f1, f2, f3, f4, by rw [f5, op_kL, setD_L], fun _ => rfl, fun r er => by
      rw [setD_L] at er
      obtain ⟨r', _, e'⟩ := Option.map_eq_some_iff.mp er
      subst e'
      show N (δ2.set i (sl.put (.lst r'))) _
      rw [f6 r']
      exact f7 r'⟩⟩) hN hv hdd hcd hs hw h1 ha
end

/-! ### methods of lists -/
/-- g told over lists of data -/
def LstG (g : D → List D → Option (D × D)) (gl : List D → List D → Option (D × List D)) : Prop := ∀ ds as, g (.lst ds) as = (gl ds as).map fun r => (r.1, D.lst r.2)
theorem je_mutL {id : String} {g : D → List D → Option (D × D)} {gl : List D → List D → Option (D × List D)} {name : Str} {x : Str} {p apos cpos : Pos} {e : Expr} {es : List Expr} (i : Nat) {sl0 : Slot} {ds0 : List D} (hg : LstG g gl) (slot : PySem.Slot "list" name id) (hty : typeOf (.builtin id) = pure (.type "method_descriptor")) (hm : MutD X id g)
    (hs : δ[i]? = some sl0) (ho : sl0.own = true) (hd : sl0.rd δ = some (.lst ds0))
    (h : JA X en δ τ (e :: es) (fun sls δ1 m1 => ∃ as sl ds k, ∃ pe : D × List D → List Slot, frs sls = some as ∧ δ1[i]? = some sl ∧ sl.own = true ∧ sl.rd δ1 = some (.lst ds) ∧ m1 = op (gl ds as) k ∧ (∀ r, δ1.set i (sl.put (.lst r.2)) = pe r) ∧ ∀ r, C (.fr r.1) (pe r) (k r)) m)
    (hN : X.N[i]? = some x := by rfl) (hv : Vis X.env.scope x := by first | exact Or.inl rfl | exact Or.inr (Or.inl rfl) | exact Or.inr (Or.inr rfl)) (hdd : (x == ("__debug__" : Str)) = false := by decide) (hcd : (x == ("__classdict__" : Str)) = false := by decide)
    (hfew : ((backTo cpos (starEach (e :: es) X.env)).all (fun x => !x.1) && (backToKw cpos (keywordEach [] X.env)).all (fun x => x.1.isSome)
      && decide ((e :: es).length + ([] : List Keyword).length + (if ([] : List Keyword).isEmpty then 0 else 1) < 30)) = true := by rfl)
    (hline : (apos.endLine == cpos.line) = true := by rfl) (hst : starEach (e :: es) X.env = (false, eval e X.env) :: starEach es X.env := by exact star_plain rfl) (hplain : (backTo cpos (starEach es X.env)).any (·.1) = false := by rfl) :
    JE X en δ τ (.Call (.Attribute (.Name x p) name apos) (e :: es) [] cpos) C m :=
  je_mut i slot hty hm hs ho hd (h.conv fun sls δ1 ⟨as, sl, ds, k, pe, f1, f2, f3, f4, f5, f6, f7⟩ => ⟨as, sl, .lst ds, kP k, fun r => δ1.set i (sl.put r.2), f1, f2, f3, f4, by rw [f5, op_kP, hg], fun _ => rfl, fun r er => by
    rw [hg] at er
    obtain ⟨r', _, e'⟩ := Option.map_eq_some_iff.mp er
    subst e'
    have := f6 r'
    show C _ (δ1.set i (sl.put (.lst r'.2))) _
    rw [f6 r']
    exact f7 r'⟩) hN hv hdd hcd hfew hline hst hplain
def appL (ds as : List D) : Option (D × List D) := match as with
  | [d] => if ds.length < sizeLine then some (.non, ds ++ [d]) else none
  | _ => none
def popL (ds as : List D) : Option (D × List D) := match as with
  | [] => (ds[ds.length - 1]?).map fun d => (d, ds.dropLast)
  | _ => none
def clrL (ds as : List D) : Option (D × List D) := match as with
  | [] => some (.non, [])
  | _ => none
def revL (ds as : List D) : Option (D × List D) := match as with
  | [] => some (.non, ds.reverse)
  | _ => none
def extL (ds as : List D) : Option (D × List D) := match as with
  | [.lst es] => if ds.length + es.length ≤ sizeLine then some (.non, ds ++ es) else none
  | _ => none
theorem g_app : LstG appendD appL := fun ds as => by
  match as with
  | [d] =>
    show (if _ then _ else _) = Option.map _ (if _ then _ else _)
    split <;> rfl
  | [] => rfl
  | _ :: _ :: _ => rfl
theorem g_ext : LstG extendD extL := fun ds as => match as with
  | [.lst es] => by
    show (if _ then _ else _) = Option.map _ (if _ then _ else _)
    split <;> rfl
  | [] => rfl
  | [.non] => rfl
  | [.bl _] => rfl
  | [.int _] => rfl
  | [.str _] => rfl
  | [.tup _] => rfl
  | [.dic _] => rfl
  | [.scr _] => rfl
  | [.exc _ _] => rfl
  | [.obj _ _] => rfl
  | a :: b :: c => by cases a <;> rfl
end
end BR

/-! K15: new lists told as lists of data -/
namespace BR
open PySem PySem.Spec PyProof.Rows L2

section
variable {X : Cx} {en : Kn} {δ τ : List Slot} {R : Type} {C : Slot → List Slot → Res R → Prop} {m : Res R} {K : PySem.W.Frag}
theorem RoomG.hu {k : Nat} {A : Around} (h : RoomG k A) : A.units + 64 < cLine := by
  have := h.r.un
  omega
def catT (a b : D) : Option (List D) := match a, b with
  | .lst a, .lst b => if a.length + b.length ≤ sizeLine then some (a ++ b) else none
  | _, _ => none
def CallL (X : Cx) (f : Value) (gl : List D → Option (List D)) : Prop := CallD X f (fun ds => (gl ds).map D.lst) .mu
def listT : List D → Option (List D)
  | [.lst ds] => some ds
  | [.tup ds] => some ds
  | _ => none
theorem nd1 {α : Type} {a : α} : [a].Nodup := List.nodup_cons.mpr ⟨(by simp), List.nodup_nil⟩
theorem je_fzv' (i : Nat) (δ' : List Slot) {x : Str} {pos : Pos} {d : D} (hs : δ[i]? = some (.mu d)) (he : δ.set i (.fr d) = δ') (h : C (.fr d) δ' m) (hN : X.N[i]? = some x := by rfl) (hv : Vis X.env.scope x := by first | exact Or.inl rfl | exact Or.inr (Or.inl rfl) | exact Or.inr (Or.inr rfl))
    (hd : (x == ("__debug__" : Str)) = false := by decide) (hcd : (x == ("__classdict__" : Str)) = false := by decide) : JE X en δ τ (.Name x pos) C m := je_fzv i hs (he ▸ h) hN hv hd hcd
end
end BR

/-! K16: dicts written -/
namespace BR
open PySem PySem.Spec PyProof.Rows L2

def putD (kvs : List (Key × D)) (k : Key) (d : D) : List (Key × D) :=
  if (kvs.any fun kv => decide (kv.1 = k)) = true then kvs.map (fun kv => if kv.1 = k then (kv.1, d) else kv) else kvs ++ [(k, d)]
def mergeD (kvs more : List (Key × D)) : List (Key × D) := more.foldl (fun acc kv => putD acc kv.1 kv.2) kvs
section
variable {K : PySem.W.Frag} {G H : Hp}
theorem RepKs.any : ∀ {ks : List (Key × D)} {vs : List (Key × V)} (p : Key → Bool), RepKs K G ks vs → (ks.any fun kv => p kv.1) = vs.any fun kv => p kv.1
  | [], _, p, h => by rw [show _ = [] from h]; rfl
  | (k, d) :: ks, _, p, h => by
    obtain ⟨v, r, e, _, h2⟩ := h
    subst e
    rw [List.any_cons, List.any_cons, RepKs.any p h2]
theorem RepKs.snoc {k : Key} {d : D} {v : V} (q : Rep K G d v) : ∀ {ks : List (Key × D)} {vs : List (Key × V)}, RepKs K G ks vs → RepKs K G (ks ++ [(k, d)]) (vs ++ [(k, v)])
  | [], _, h => by rw [show _ = [] from h]; exact ⟨v, [], rfl, q, rfl⟩
  | (k', d') :: ks, _, h => by
    obtain ⟨u, r, e, h1, h2⟩ := h
    subst e
    exact ⟨u, _, rfl, h1, RepKs.snoc q h2⟩
theorem RepKs.over {k : Key} {d : D} {v : V} (q : Rep K G d v) : ∀ {ks : List (Key × D)} {vs : List (Key × V)}, RepKs K G ks vs → RepKs K G (ks.map fun kv => if kv.1 = k then (kv.1, d) else kv) (vs.map fun kv => if kv.1 = k then (kv.1, v) else kv)
  | [], _, h => by rw [show _ = [] from h]; rfl
  | (k', d') :: ks, _, h => by
    obtain ⟨u, r, e, h1, h2⟩ := h
    subst e
    rw [List.map_cons, List.map_cons]
    by_cases hk : k' = k
    · subst hk
      rw [if_pos rfl, if_pos rfl]
      exact ⟨v, _, rfl, q, RepKs.over q h2⟩
    · rw [if_neg hk, if_neg hk]
      exact ⟨u, _, rfl, h1, RepKs.over q h2⟩
theorem RepKs.put {k : Key} {d : D} {v : V} (q : Rep K G d v) {ks : List (Key × D)} {vs : List (Key × V)} (h : RepKs K G ks vs) : RepKs K G (putD ks k d) (putK vs k v) := by
  have e := RepKs.any (fun x => decide (x = k)) h
  unfold putD putK
  rw [e]
  split
  · exact RepKs.over q h
  · exact RepKs.snoc q h
theorem RepKs.merge : ∀ {more : List (Key × D)} {rs : List (Key × V)} {ks : List (Key × D)} {vs : List (Key × V)}, RepKs K G more rs → RepKs K G ks vs → RepKs K G (mergeD ks more) (mergeK vs rs)
  | [], _, _, _, h, h' => by rw [show _ = [] from h]; exact h'
  | (k, d) :: more, _, _, _, h, h' => by
    obtain ⟨u, r, e, h1, h2⟩ := h
    subst e
    show RepKs K G (mergeD (putD _ k d) more) (mergeK (putK _ k u) r)
    exact RepKs.merge h2 (RepKs.put h1 h')
theorem RepKs.length : ∀ {ks : List (Key × D)} {vs : List (Key × V)}, RepKs K G ks vs → ks.length = vs.length
  | [], _, h => by rw [show _ = [] from h]; rfl
  | (k, d) :: ks, _, h => by
    obtain ⟨v, r, e, _, h2⟩ := h
    rw [e, List.length_cons, List.length_cons, RepKs.length h2]
end
/-- data as keys -/
def keyD : D → Option Key
  | .int i => some (.inl i)
  | .str x => some (.inr x)
  | _ => none
def keysD : List (D × D) → Option (List (Key × D))
  | [] => some []
  | (k, d) :: r => match keyD k, keysD r with
    | some k, some r => some ((k, d) :: r)
    | _, _ => none
def pairD (r : List (D × D)) : Option (List (Key × D)) := if r.length ≤ 15 then keysD r else none
section
variable {X : Cx} {en : Kn} {δ τ : List Slot} {R : Type} {C : Slot → List Slot → Res R → Prop} {m : Res R} {K : PySem.W.Frag}
/-- {} -/
theorem je_dnew {pos : Pos} (h : C (.mu (.dic [])) δ m) : JE X en δ τ (.Dict [] [] pos) C m := .mk fun hb hx σ ts G H T hl hσ W k =>
  we_of pe_dnewK fun p hp => k _ δ _ G _ h hl (W.out (Grow.laid W.sub hp) ⟨p, rfl, hp, (W.fresh hp).1, [], upd_same, rfl⟩)
def trsOf (X : Cx) : List (Option Expr) → List Expr → List (TE × TE)
  | some k :: ks, v :: vs => (WE X k, WE X v) :: trsOf X ks vs
  | _, _ => []
theorem pps_of {pos : Pos} : ∀ {ks : List (Option Expr)} {vs : List Expr}, ks.all (·.isSome) = true → ks.length = vs.length → PPs X pos ks vs (trsOf X ks vs)
  | [], [], _, _ => pps_nil
  | some k :: ks, v :: vs, h, l => pps_cons pe_we pe_we (pps_of (by simpa using h) (by simpa using l))
  | none :: _, _ :: _, h, _ => by simp at h
  | [], _ :: _, _, l => by simp at l
  | _ :: _, [], _, l => by simp at l
def frs2 : List (D × D) → List Slot
  | [] => []
  | (a, b) :: r => .fr a :: .fr b :: frs2 r
def vals2 : List (V × V) → L2.St
  | [] => []
  | (a, b) :: r => some a :: some b :: vals2 r
structure JP (X : Cx) (en : Kn) (δ τ : List Slot) (ks : List (Option Expr)) (vs : List Expr) {R : Type} (C : List (D × D) → List Slot → Res R → Prop) (m : Res R) : Prop where
  run : m ≠ .bad → en.HX m.exc → ∀ (σ ts : L2.St) (G H : Hp) (T : List (V × V) → Hp → Prop), δ.length = en.n → σ.length = en.n → Wd X.K en (δ ++ τ) (σ ++ ts) G H →
    (∀ kvs δ' ps G' H', C kvs δ' m → δ'.length = en.n → kvs.length = ps.length → Wd X.K en (δ' ++ τ ++ frs2 kvs) (σ ++ ts ++ vals2 ps) G' H' → T ps H') → tPairs (trsOf X ks vs) σ H T
theorem jp_nil {C : List (D × D) → List Slot → Res R → Prop} (h : C [] δ m) : JP X en δ τ [] [] C m := .mk fun hb hx σ ts G H T hl hσ W k =>
  k [] δ [] G H h hl rfl (by rw [show frs2 [] = [] from rfl, show vals2 [] = [] from rfl, List.append_nil, List.append_nil]; exact W)
theorem jp_cons {e v : Expr} {ks : List (Option Expr)} {vs : List Expr} {C : List (D × D) → List Slot → Res R → Prop}
    (h : JE X en δ τ e (fun s1 δ1 m1 => ∃ dk, s1 = .fr dk ∧ JE X en δ1 (τ ++ [.fr dk]) v (fun s2 δ2 m2 => ∃ dv, s2 = .fr dv ∧ JP X en δ2 (τ ++ [.fr dk, .fr dv]) ks vs (fun kvs δ3 m3 => C ((dk, dv) :: kvs) δ3 m3) m2) m1) m) :
    JP X en δ τ (some e :: ks) (v :: vs) C m := .mk fun hb hx σ ts G H T hl hσ W k => by
  refine h.run hb hx σ ts G H _ hl hσ W fun s1 δ1 v1 G1 H1 ⟨dk, e1, c1⟩ hl1 W1 => ?_
  subst e1
  rw [List.append_assoc, List.append_assoc] at W1
  refine c1.run hb hx σ (ts ++ [some v1]) G1 H1 _ hl1 hσ W1 fun s2 δ2 v2 G2 H2 ⟨dv, e2, c2⟩ hl2 W2 => ?_
  subst e2
  have W2' : Wd X.K en (δ2 ++ (τ ++ [.fr dk, .fr dv])) (σ ++ (ts ++ [some v1, some v2])) G2 H2 := by
    simp only [List.append_assoc, List.cons_append, List.nil_append] at W2 ⊢
    exact W2
  refine c2.run hb hx σ (ts ++ [some v1, some v2]) G2 H2 _ hl2 hσ W2' fun kvs δ3 ps G3 H3 c3 hl3 hlen W3 => ?_
  refine k ((dk, dv) :: kvs) δ3 ((v1, v2) :: ps) G3 H3 c3 hl3 (by rw [List.length_cons, List.length_cons, hlen]) ?_
  simp only [List.append_assoc, List.cons_append, List.nil_append, frs2, vals2] at W3 ⊢
  exact W3
theorem kv_of {S : L2.St} {G H : Hp} : ∀ {kvs : List (D × D)} {ps : List (V × V)} {ks : List (Key × D)}, (∀ (i : Nat) sl o, (frs2 kvs)[i]? = some sl → (vals2 ps)[i]? = some o → SlotOk K en S G H sl o) → kvs.length = ps.length → keysD kvs = some ks →
    ∃ kv : List (Key × V), ps = kv.map (fun kv => (kV kv.1, kv.2)) ∧ RepKs K G ks kv
  | [], [], ks, _, _, e => by cases e; exact ⟨[], rfl, rfl⟩
  | [], _ :: _, _, _, l, _ => nomatch l
  | _ :: _, [], _, _, l, _ => nomatch l
  | (dk, dv) :: kvs, (v1, v2) :: ps, ks, q, l, e => by
    have e' : (match keyD dk, keysD kvs with | some k, some r => some ((k, dv) :: r) | _, _ => none) = some ks := e
    cases e1 : keyD dk with
    | none => rw [e1] at e'; cases e'
    | some k =>
      cases e2 : keysD kvs with
      | none => rw [e1, e2] at e'; cases e'
      | some r =>
        rw [e1, e2] at e'
        cases e'
        obtain ⟨kv, f1, f2⟩ := kv_of (kvs := kvs) (ps := ps) (fun i sl o h1 h2 => q (i + 2) sl o (by simpa [frs2] using h1) (by simpa [vals2] using h2)) (by simpa using l) e2
        obtain ⟨u1, g1, r1⟩ := q 0 (.fr dk) (some v1) rfl rfl
        obtain ⟨u2, g2, r2⟩ := q 1 (.fr dv) (some v2) rfl rfl
        cases g1
        cases g2
        refine ⟨(k, v2) :: kv, ?_, v2, kv, rfl, r2, f2⟩
        rw [List.map_cons, f1]
        congr 2
        cases dk <;> first | cases e1 | skip
        · exact r1
        · exact r1
theorem je_dic {keys : List (Option Expr)} {values : List Expr} {pos : Pos}
    (h : JP X en δ (τ ++ [.mu (.dic [])]) keys values (fun kvs δ1 m1 => ∃ k, m1 = op (pairD kvs) k ∧ ∀ ks, C (.mu (.dic (mergeD [] ks))) δ1 (k ks)) m)
    (hall : keys.all (·.isSome) = true := by rfl) (hkl : keys.length = values.length := by rfl) (h0 : keys ≠ [] := by intro z; cases z) (h15 : keys.length ≤ 15 := by decide) : JE X en δ τ (.Dict keys values pos) C m := .mk fun hb hx σ ts G H T hl hσ W k => by
  refine we_of (pe_disp (pps_of hall hkl) hall hkl h0 h15) fun p hp => ?_
  have ht : τ.length = ts.length := W.splitLen (hl.trans hσ.symm)
  have W1 := W.out (sl := .mu (.dic [])) (v := .ref p) (Grow.laid W.sub hp) ⟨p, rfl, hp, (W.fresh hp).1, [], upd_same, rfl⟩
  rw [List.append_assoc, List.append_assoc] at W1
  refine h.run hb hx σ (ts ++ [some (.ref p)]) G _ _ hl hσ W1 fun kvs δ1 ps G1 H1 ⟨k', em, hk⟩ hl1 hlen W2 => ?_
  have hb' := hb
  rw [em] at hb'
  obtain ⟨ks, ek⟩ := op_some hb'
  have em' : m = k' ks := by rw [em, ek]; rfl
  have hk2 := hk ks
  rw [← em'] at hk2
  have ek' : (if kvs.length ≤ 15 then keysD kvs else none) = some ks := ek
  by_cases h15' : kvs.length ≤ 15
  · rw [if_pos h15'] at ek'
    have pre : (δ1 ++ (τ ++ [Slot.mu (.dic [])])).length = (σ ++ (ts ++ [some (V.ref p)])).length := by simp only [List.length_append, List.length_cons, List.length_nil]; omega
    obtain ⟨kv, e1, e2⟩ := kv_of (S := σ ++ (ts ++ [some (.ref p)]) ++ vals2 ps) (G := G1) (H := H1) (kvs := kvs) (ps := ps) (en := en) (K := X.K) (fun i sl o h1 h2 => W2.slot ((δ1 ++ (τ ++ [Slot.mu (.dic [])])).length + i) sl o (by rw [List.getElem?_append_right (Nat.le_add_right _ _), Nat.add_sub_cancel_left]; exact h1) (by rw [pre, List.getElem?_append_right (Nat.le_add_right _ _), Nat.add_sub_cancel_left]; exact h2)) hlen ek'
    have W3 := W2.cut (Δ := δ1 ++ (τ ++ [Slot.mu (.dic [])])) (S := σ ++ (ts ++ [some (V.ref p)])) (Ξ := frs2 kvs) (us := vals2 ps) (by simp only [List.length_append, List.length_cons, List.length_nil]; omega) (by simp only [List.length_append, List.length_cons, List.length_nil]; omega)
    rw [← List.append_assoc, ← List.append_assoc] at W3
    obtain ⟨p', e, n, f, f2, kv0, ev, r0⟩ := W3.last
    cases e
    have er : kv0 = [] := r0
    subst er
    refine ⟨ev, kv, e1, by
      have := RepKs.length e2
      have l2 : ks.length = kvs.length := by
        have : ∀ {kvs : List (D × D)} {ks}, keysD kvs = some ks → ks.length = kvs.length := by
          intro kvs
          induction kvs with
          | nil => intro ks e; cases e; rfl
          | cons a r ih =>
            intro ks e
            obtain ⟨a1, a2⟩ := a
            have e' : (match keyD a1, keysD r with | some k, some r => some ((k, a2) :: r) | _, _ => none) = some ks := e
            split at e'
            · rename_i h1 h2
              cases e'
              rw [List.length_cons, List.length_cons, ih h2]
            · cases e'
        exact this ek'
      omega, ?_⟩
    have W4 := W3.mut (i := (δ1 ++ τ).length) (p := p) (o' := .dK (mergeK [] kv)) (d' := .dic (mergeD [] ks)) ⟨_, getElem?_last, rfl, by
      have : (δ1 ++ τ).length = (σ ++ ts).length := by simp only [List.length_append]; omega
      rw [this]; exact getElem?_last⟩ ⟨_, upd_same, RepKs.merge e2 rfl⟩
    rw [List.set_append_right _ _ (Nat.le_refl _), Nat.sub_self, List.getD_eq_getElem?_getD, getElem?_last] at W4
    exact k _ δ1 (.ref p) G1 _ hk2 hl1 W4
  · rw [if_neg h15'] at ek'; cases ek'
end
end BR

/-! K17: a law's end -/
namespace BR
open PySem PySem.Spec PyProof.Rows L2

def spLaw (n : Nat) (K : PySem.W.Frag) : Sp := fun vs H Q _ => ∃ (a : Addr) (ns : List Int), vs = [.ref a] ∧ SqL K H a (ns.map V.int) ∧ ns.length ≤ n ∧ ∀ H', Q (.bl true) H'
section
variable {P : Program} {w : World} {K : PySem.W.Frag} {mg : Str → Option Value} {base : Heap}
theorem law_spec {k n : Nat} {fa : Addr} {fd : FuncData} {x : Str} {f : List D → Res D} (F : FnG P w K mg base k fa fd [x] (SpD K mg [.b] f (fun a => a) (fun a => []) false)) (hf : ∀ ns : List Int, ns.length ≤ n → f [.scr ns] = .ok (.bl true)) : FnG P w K mg base k fa fd [x] (spLaw n K) where
  len := fun vs H Q E h => by
    obtain ⟨a, ns, rfl, _⟩ := h
    rfl
  run := fun A outer s H args us vs Q E hr e0 hb rv hsp => F.run A outer s H args us vs Q E hr e0 hb rv (by
    obtain ⟨a, ns, rfl, hq, hl, q⟩ := hsp
    have hh : hide H [] = H := funext fun a => if_neg (by simp)
    refine ⟨rfl, fun _ => none, [], [.scr ns], _, (fun _ _ e => nomatch e), List.nodup_nil, ⟨BRep.mk ⟨a, rfl, ?_⟩ (fun z => nomatch z), trivial⟩, rfl, ?_, ?_, ?_⟩
    · rw [hh]; exact hq
    · rw [hf ns hl]; exact fun z => nomatch z
    · intro r er v G' H' _ _ ro
      rw [hf ns hl] at er
      cases er
      have e : v = .bl true := ro
      subst e
      exact q H'
    · intro x ex
      rw [hf ns hl] at ex
      cases ex)
theorem fn_fact {h : Heap} {x : Str} {st : Stmt} {ps : List Str} {f : Addr} {oc : Value} {od an : Option Addr} {osl : Array (Option Value)} {kV doc pm cdv ct : Value} (X : K.In h) (G : h.Ns mainGlobals mg)
    (a : PySem.W.nsIn K mainGlobals x = some (some (.ref f))) (l : K.lookup f = some ⟨oc, od, .func (PySem.W.fnOf x x (defArgs st) (defBody st) (defScope st) .none kV doc pm an cdv ct), osl⟩)
    (c : PySem.W.codeIn K cdv x = true) (k : PySem.W.keepIn K (.ref f) = true)
    (hb : ∀ (kV doc pm : Value) (an : Option Addr) (cdv ct : Value) (us : List Value), us.length = ps.length → bindArgs (PySem.W.fnOf x x (defArgs st) (defBody st) (defScope st) .none kV doc pm an cdv ct) ⟨us, []⟩ = pure (ps.zip us)) :
    ∃ fa fd, L2.Fun K x x st fa fd ∧ Binds K fd ps [] ∧ mg x = some (.ref fa) :=
  ⟨f, _, fun_mk l c k, (fun_mk l c k).binds hb, PySem.W.mg_of X G a⟩
end
end BR

/-! K18: the text of data, dicts within -/
namespace BR
open PySem PySem.Spec PyProof.Rows L2

mutual
/-- no script within -/
def noS : D → Bool
  | .lst ds => noSs ds
  | .tup ds => noSs ds
  | .dic ks => noSk ks
  | .scr _ => false
  | .exc _ _ => false
  | .obj _ _ => false
  | _ => true
def noSs : List D → Bool
  | [] => true
  | d :: ds => noS d && noSs ds
def noSk : List (Key × D) → Bool
  | [] => true
  | (_, d) :: ds => noS d && noSk ds
end
/-- a run of texts, shown in a heap h with what is read on the way -/
def ShA (P : Program) (w : World) (h : Heap) (us : List Value) (ps : List PyData) : Prop :=
  ∃ as bs, ReadsAll h us ps as ∧ ReadAtMost h (PyData.depthAll ps) bs ∧ ReprAllK P w bs h (PyData.depthAll ps) us (PyData.shownAll ps)
def Sh (P : Program) (w : World) (h : Heap) (u : Value) (p : PyData) : Prop :=
  ∃ as bs, Reads h u p as ∧ ReadAtMost h p.depth bs ∧ ReprK P w bs h p.depth u p.shown
section
variable {P : Program} {w : World} {h : Heap}
end
section
variable {X : Cx} {pins : List (Addr × Obj)} {σ : L2.St} {H : Hp} {s : Shared}
end
/-- repr(e) -/
def rprD : List D → Option D
  | [d] => if noS d = true ∧ (toP d).showable = true ∧ (toP d).depth ≤ 60 ∧ (toP d).shown.length ≤ sizeLine then some (.str (toP d).shown) else none
  | _ => none
section
variable {X : Cx}
end
end BR

/-! K19: ways not taken, back to front, zip, enumerate, the greatest and the least, sorted -/
namespace BR
open PySem PySem.Spec PyProof.Rows L2

section
variable {X : Cx} {en : Kn} {δ τ : List Slot} {R : Type} {C : Slot → List Slot → Res R → Prop} {m : Res R} {K : PySem.W.Frag}
variable {N : List Slot → Res R → Prop} {RT : Slot → List Slot → Res R → Prop} {BK CT : List Slot → Res R → Prop}
/-- what is not covered asks nothing -/
theorem js_bad {st : Stmt} : JS X en δ st N RT BK CT (.bad : Res R) := .mk fun hb => absurd rfl hb
/-! ### back to front -/
def revD : D → Option D
  | .lst ds => some (.lst ds.reverse)
  | .tup ds => some (.tup ds.reverse)
  | _ => none
theorem pick_back (xs : Array Value) : ((List.range xs.size).filterMap fun (m : Nat) => xs[((xs.size : Int) - 1 + (m : Int) * -1).toNat]?).toArray = xs.toList.reverse.toArray := by
  have key : ∀ (l : List Nat), (∀ k, k ∈ l → k < xs.size) → (l.filterMap fun (m : Nat) => xs[((xs.size : Int) - 1 + (m : Int) * -1).toNat]?) = l.filterMap fun m => xs[xs.size - 1 - m]? := by
    intro l h
    induction l with
    | nil => rfl
    | cons k r ih =>
      have hk := h k List.mem_cons_self
      have e : ((xs.size : Int) - 1 + (k : Int) * -1).toNat = xs.size - 1 - k := by omega
      rw [List.filterMap_cons, List.filterMap_cons, e, ih fun k hk => h k (List.mem_cons_of_mem _ hk)]
  rw [key _ fun k hk => List.mem_range.mp hk]
  have e2 : (fun m => xs[xs.size - 1 - m]?) = (xs[·]?) ∘ fun k => xs.size - 1 - k := rfl
  rw [e2, ← List.filterMap_map, PySem.W.krv_range, List.filterMap_reverse, PySem.W.krv_all]
theorem back_places (n : Nat) : Builtin.Slice.slicePlaces ((n : Int) - 1) (-1) (-1) = n := by
  unfold Builtin.Slice.slicePlaces
  rw [if_neg (by decide)]
  split
  · rw [show (- -1 : Int) = 1 by decide, Int.ediv_one]; omega
  · omega
theorem back_applied {w : World} {P : Program} {A : Around} {E : Value → Shared → Prop} {s : Shared} {sl : Addr} {vk : Value} {n : Nat} {Q : Int × Int × Nat → Shared → Prop} (hs : s.heap.IsSliceOf sl .none .none vk) (pk : IsPart vk (some (-1)))
    (h : Q ((n : Int) - 1, -1, n) s) : wpAny (model P w) A (Builtin.Slice.sliceApplied (.ref sl) (pure (n : Int))) Q E s := by
  obtain ⟨ob, g1, g2, g3⟩ := id hs
  unfold Builtin.Slice.sliceApplied Builtin.Slice.sliceFields
  refine wpAny_bind (wpAny_bind (wpAny_field g1 g3 (x := .none) rfl (wpAny_bind (wpAny_field g1 g3 (x := .none) rfl (wpAny_bind (wpAny_field g1 g3 (x := vk) rfl (wpAny_pure ?_)))))))
  refine wpAny_bind (HT.slicePart_ pk ?_)
  show wpAny _ _ (if ((-1 : Int) == 0) = true then _ else _) _ _ s
  rw [if_neg (by decide)]
  refine wpAny_bind (slicePart_none (wpAny_bind (slicePart_none (wpAny_bind (wpAny_pure ?_)))))
  show wpAny _ _ (pure ((n : Int) - 1, (-1 : Int), Builtin.Slice.slicePlaces ((n : Int) - 1) (-1) (-1))) _ _ s
  rw [back_places]
  exact wpAny_pure h
theorem tuple_back {w : World} {P : Program} {A : Around} {E : Value → Shared → Prop} {s : Shared} {t sl : Addr} {items : Array Value} {vk : Value} {Q : Value → Shared → Prop} (ht : IsTup s.heap t items) (hs : s.heap.IsSliceOf sl .none .none vk) (pk : IsPart vk (some (-1)))
    (h : Q (.ref s.heap.objs.size) { s with heap := s.heap.push { cls := .type "tuple", data := .seq items.toList.reverse.toArray } })
    (hz : items.size ≤ sizeLine) : wpAny (model P w) A (getItem (.ref t) (.ref sl)) Q E s := by
  have fits : sizeOk (.seq items.toList.reverse.toArray) := by
    show items.toList.reverse.toArray.size ≤ sizeLine
    simpa using hz
  obtain ⟨ob, g1, g2, g3⟩ := id hs
  have isS : s.TypeIs (.ref sl) "slice" := ⟨ob, g1, g2⟩
  unfold getItem
  try with_reducible refine wpAny_holding ?_
  first | refine wpAny_bind (wpAny_pure ?_) | skip
  refine wpAny_bind (wpAny_sequenceKey ht.typeIs (by decide) ?_)
  refine wpAny_bind (wpAny_callSpecial?_slot (name := Str.ofString "__getitem__") ht.typeIs PyProof.Rows.slot_tuple_getitem (wpAny_call_entry PyProof.Rows.slot_tuple_getitem ht.typeIs entry_tuple_getitem ?_ (args_tuple_getitem _ _)))
  show wpAny _ _ (Builtin.Tuple.tupleItemsOf (.ref t) >>= _) _ _ s
  refine wpAny_bind (tupleItemsOf_ ht (wpAny_bind (wpAny_typeOf isS ?_)))
  rw [if_pos (by decide)]
  refine wpAny_bind (back_applied hs pk ?_)
  have no : ¬ ((((items.size : Nat) : Int) - 1 == 0 && (-1 : Int) == 1 && items.size == items.size) = true) := by simp
  show wpAny _ _ (if (((items.size : Nat) : Int) - 1 == 0 && (-1 : Int) == 1 && items.size == items.size) = true then _ else _) _ _ s
  rw [if_neg no, pick_back]
  first
    | exact wpAny_bind (m := Builtin.Tuple.tupleExact _) (wpAny_newObj_type (wpAny_pure ⟨_, rfl, wpAny_pure h⟩) fits)
    | exact wpAny_bind (m := Builtin.Tuple.tupleExact _) (wpAny_newObj_type (wpAny_bind (wpAny_pure (wpAny_pure ⟨_, rfl, wpAny_pure h⟩))) fits)
    | exact wpAny_bind (wpAny_bind (m := Builtin.Tuple.tupleExact _) (wpAny_newObj_type (wpAny_pure (wpAny_pure ⟨_, rfl, wpAny_pure h⟩)) fits))
    | exact wpAny_bind (wpAny_bind (m := Builtin.Tuple.tupleExact _) (wpAny_newObj_type (wpAny_pure ⟨_, rfl, wpAny_pure h⟩) fits))
/-- xs[::-1] of a list or a tuple -/
theorem pe_revA {e : Expr} {te : TE} {j : Nat} {p2 p3 p4 pos : Pos} (he : PE X e te) : PE X (.Subscript e (.Slice none none (some (.UnaryOp .USub (.Constant (.int 1) j p4) p3)) p2) pos)
    (fun σ H Q => te σ H fun x H1 => ∃ a xs, x = .ref a ∧ ((SqL X.K H1 a xs ∧ ∀ p, H1 p = none → Q (.ref p) (upd H1 p (.lst xs.reverse))) ∨ (SqT X.K H1 a xs ∧ ∀ p, H1 p = none → Q (.ref p) (upd H1 p (.tup xs.reverse))))) := by
  refine ⟨fun pins s σ H Q I h => ?_⟩
  refine Subscript_ (thn (he.run pins s σ H _ I h) fun v s1 ⟨x, H1, I1, r1, q1⟩ => ?_)
  obtain ⟨a, xs, rfl, q⟩ := q1
  cases r1
  refine wpAny_Slice ?_
  rw [evalPart_none]
  refine wpAny_pure (wpAny_pure ?_)
  refine thn ((po_some (pe_un un_neg (pe_int (j := j) (pos := p4)))).run pins s1 σ H1 (fun o H2 => o = some (-1) ∧ H2 = H1) I1 ⟨1, rfl, -1, rfl, rfl, rfl⟩) fun vk s3 ⟨o, H3, I3, pk, eo, eH⟩ => ?_
  subst eo eH
  have I4 : Inv X pins σ H3 { s3 with heap := s3.heap.push { cls := .type "slice", data := .fields #[.none, .none, vk] } } := I3.kept (t' := s3.toks) fun b ob q => Heap.get?_push_of_some _ q
  rcases q with ⟨hx, q⟩ | ⟨hx, q⟩
  · obtain ⟨its, r, ht, hz⟩ := I4.list hx
    have hlen := r.length
    refine tail_any (ops := [.ref a, .ref s3.heap.objs.size]) ht.isList.typeIs slot_list_getitem.lookup ?_ (by with_unfolding_all rfl)
    refine wpAny_getItem_list_slice ht.isList (Heap.IsSliceOf.new ..) .none .none pk (by decide) ?_ (by rw [List.size_toArray] <;> omega)
    rw [PySem.W.krv_pick]
    refine ⟨.ref _, _, I4.laid (t' := s3.toks) (o := .lst xs.reverse) (fun b ob q => Heap.get?_push_of_some _ q) (Nat.le_refl _) ?_, rfl, q _ (I4.hok.fresh (Nat.le_refl _))⟩
    refine ⟨by rw [List.length_reverse]; exact hz, _, 0, ?_, Heap.get?_push_size _ rfl⟩
    simpa using Vals.reverse r
  · obtain ⟨its, r, ht, hz⟩ := I4.tuple hx
    have hlen := r.length
    refine tail_any (ops := [.ref a, .ref s3.heap.objs.size]) ht.typeIs PyProof.Rows.slot_tuple_getitem.lookup ?_ (by with_unfolding_all rfl)
    refine tuple_back ht (Heap.IsSliceOf.new ..) pk ?_ (by rw [List.size_toArray] <;> omega)
    refine ⟨.ref _, _, I4.laid (t' := s3.toks) (o := .tup xs.reverse) (fun b ob q => Heap.get?_push_of_some _ q) (Nat.le_refl _) ?_, rfl, q _ (I4.hok.fresh (Nat.le_refl _))⟩
    refine ⟨by rw [List.length_reverse]; exact hz, its.reverse, Vals.reverse r, ?_⟩
    have := IsTup.new { s3 with heap := s3.heap.push { cls := .type "slice", data := .fields #[.none, .none, vk] } }.heap its.reverse.toArray
    simpa using this
/-- a list or a tuple back to front: a new one -/
theorem je_rev {e : Expr} {j : Nat} {p2 p3 p4 pos : Pos}
    (h : JE X en δ τ e (fun s1 δ1 m1 => ∃ d k, s1.rd δ1 = some d ∧ m1 = op (revD d) k ∧ ∀ d', C (.fr d') δ1 (k d')) m) :
    JE X en δ τ (.Subscript e (.Slice none none (some (.UnaryOp .USub (.Constant (.int 1) j p4) p3)) p2) pos) C m := .mk fun hb hx σ ts G H T hl hσ W k => by
  refine we_of (pe_revA pe_we) ?_
  have ht : τ.length = ts.length := W.splitLen (hl.trans hσ.symm)
  refine h.run hb hx σ ts G H _ hl hσ W fun s1 δ1 v1 G1 H1 c1 hl1 W1 => ?_
  obtain ⟨d, k', e1, em, hk⟩ := c1
  have hb' := hb
  rw [em] at hb'
  obtain ⟨d', ed⟩ := op_some hb'
  have em' : m = k' d' := by rw [em, ed]; rfl
  have hk2 := hk d'
  rw [← em'] at hk2
  obtain ⟨⟨_, _, ez, r1, _⟩, Wn⟩ := Wd.ends (sls := [s1]) (vs := [v1]) W1 (hl1.trans hσ.symm) ht (ds := [d]) (by simp only [rds, e1])
  cases ez
  cases d <;> first | cases ed | skip
  · obtain ⟨p, vs, ev, q1, s1'⟩ := r1
    exact ⟨p, vs, ev, .inl ⟨SqL.of q1, fz_out W1.sub (Reps.reverse s1') fun v G' H' gr out => k _ δ1 v G' H' hk2 hl1 ((Wn (by omega)).out gr out)⟩⟩
  · obtain ⟨p, vs, ev, q1, s1'⟩ := r1
    exact ⟨p, vs, ev, .inr ⟨q1, fzT_out W1.sub (Reps.reverse s1') fun v G' H' gr out => k _ δ1 v G' H' hk2 hl1 ((Wn (by omega)).out gr out)⟩⟩

/-! ### zip, enumerate -/
def pairs : List D → List D → List D
  | x :: xs, y :: ys => .tup [x, y] :: pairs xs ys
  | _, _ => []
/-- the items of zip(..) -/
def zipD (a b : D) : Option (List D) := match asL a, asL b with
  | some xs, some ys => if isTup a = isTup b then some (pairs xs ys) else none
  | _, _ => none
theorem grow_tup {G H : Hp} {T : Addr} {xs : List D} {vs : List V} (gh : Sub G H) (hT : H T = none) (r : Reps K G xs vs) : ∃ G', Grow G H G' (upd H T (.tup vs)) ∧ Rep K G' (.tup xs) (.ref T) := by
  have gT : G T = none := by
    cases z : G T with
    | none => rfl
    | some o => rw [gh T o z] at hT; cases hT
  refine ⟨upd G T (.tup vs), ⟨Sub.upd gT, Sub.upd hT, ?_, ?_⟩, T, vs, rfl, .inl (.inl upd_same), Reps.sub (Sub.upd gT) _ _ r⟩
  · intro b o e
    by_cases hb : b = T
    · subst hb; rw [upd_same] at e ⊢; exact e
    · rw [upd_ne hb] at e ⊢; exact gh b o e
  · intro b o e
    by_cases hb : b = T
    · subst hb; exact .inr hT
    · rw [upd_ne hb] at e; exact .inl e
/-- the items of enumerate(..) of a list -/
def enumF : Nat → List D → List D
  | _, [] => []
  | n, d :: ds => .tup [.int n, d] :: enumF (n + 1) ds
def enumD (a : D) : Option (List D) := match a with
  | .tup _ => none
  | d => (asL d).map (enumF 0)
/-! ### the greatest and the least of a list, a list sorted -/
def max1D : List D → Option D
  | [.lst ds] => (intsD ds).bind fun ns => match ns with
    | [] => none
    | n :: r => some (.int (r.foldl max n))
  | _ => none
def min1D : List D → Option D
  | [.lst ds] => (intsD ds).bind fun ns => match ns with
    | [] => none
    | n :: r => some (.int (r.foldl min n))
  | _ => none
/-- sorted -/
def srtI (ns : List Int) : List Int := ns.mergeSort fun a b => decide (a ≤ b)
def sortT : List D → Option (List D)
  | [.lst ds] => (intsD ds).map fun ns => (srtI ns).map D.int
  | _ => none
/-! ### targets, names given side by side -/
theorem jgs_name (i : Nat) {x : Str} {pos : Pos} {d : D} (δ' : List Slot) {es : List Expr} {ds : List D} {js : List Nat} (hN : X.N.Nodup) (h : JGs X en δ' τ es ds js N m) (he : δ.set i (.fr d) = δ' := by rfl) (hb : noBo (δ ++ τ) = true := by rfl) (hi : X.N[i]? = some x := by rfl) (hil : (i + 1).ble δ.length = true := by rfl) (hx : Loc X.env.scope x := by first | exact Or.inl rfl | exact Or.inr rfl)
    (hf : X.fn x = true ∨ X.env.scope.names.lookup x = some .local := by first | exact .inl rfl | exact .inr rfl)
    (hs : (assignEach (.Name x pos :: es) X.env).map (·.2) = assign (.Name x pos) X.env :: (assignEach es X.env).map (·.2) := by rfl) : JGs X en δ τ (.Name x pos :: es) (d :: ds) (i :: js) N m :=
  jgs_cons (is := [i]) (jg_name i δ' hN h he hb hi hil hx hf) hs
/-! ### cuts of lists and tuples -/
def cutA (d : D) (lo hi : Option Int) : Option D := match d with
  | .lst ds => some (.lst (cutD ds lo hi))
  | .tup ds => some (.tup (cutD ds lo hi))
  | .scr ns => some (.lst (cutD (ns.map D.int) lo hi))
  | _ => none
end
end BR

/-! K20: methods that only read -/
namespace BR
open PySem PySem.Spec PyProof.Rows L2

section
variable {X : Cx} {en : Kn} {δ τ : List Slot} {R : Type} {C : Slot → List Slot → Res R → Prop} {m : Res R} {K : PySem.W.Frag}
/-- the kinds of things whose methods are asked -/
def tyM : D → String → Bool
  | .lst _, T => T == "list"
  | .str _, T => T == "str"
  | .dic _, T => T == "dict"
  | _, _ => false
def tyG (T : String) (d : D) : Option Unit := if tyM d T = true then some () else none
/-! ### how often -/
def eqb (k : Bool) (v : Value) : Bool := match v with
  | .bool n => n == k
  | _ => false
def countD : List D → Option D
  | [.lst ds, .bl k] => (bls ds).map fun bs => .int (bs.count k : Nat)
  | [.lst ds, .int k] => (intsD ds).map fun ns => .int (ns.count k : Nat)
  | _ => none
theorem MtR.or {id : String} {r r' : V → List V → Hp → VK → Prop} (h : MtR X id r) (h' : MtR X id r') : MtR X id (fun x xs H Q => r x xs H Q ∨ r' x xs H Q) := fun pins s σ H x xs v us Q I r1 r2 q => by
  rcases q with q | q
  · exact h pins s σ H x xs v us Q I r1 r2 q
  · exact h' pins s σ H x xs v us Q I r1 r2 q
end
end BR

set_option maxHeartbeats 1000000
/-! K21: zip of a tuple and a list, either way -/
namespace BR
open PySem PySem.Spec PyProof.Rows L2

/-- an iterator of a tuple (true) or a list -/
def Cur (t : Bool) (h : Heap) (it l : Addr) (i : Nat) : Prop := match t with
  | true => h.IsTupleIter it l i
  | false => h.IsListIter it l i
def Src (t : Bool) (h : Heap) (l : Addr) (xs : Array Value) : Prop := match t with
  | true => h.IsTuple l xs
  | false => h.IsList l xs
section
variable {t t2 : Bool} {h h' : Heap} {a b l : Addr} {i : Nat} {xs : Array Value}
theorem Cur.but (x : Cur t h a l i) (hs : Heap.ExtBut b h h') (n : a ≠ b) : Cur t h' a l i := by
  cases t
  · exact Heap.IsListIter.extBut x hs n
  · exact Heap.IsTupleIter.extBut x hs n
theorem Cur.on (x : Cur t h a l i) (e : ∀ o, h.get? a = some o → h'.get? a = some o) : Cur t h' a l i := by
  cases t
  · exact Heap.IsListIter.at x e
  · exact Heap.IsTupleIter.at x e
theorem Cur.ob (x : Cur t h a l i) : ∃ o, h.get? a = some o ∧ ∀ v, o.data ≠ .cell v := by
  cases t
  · obtain ⟨o, e, _, d⟩ := x; exact ⟨o, e, fun v q => by rw [d] at q; cases q⟩
  · obtain ⟨o, e, _, d⟩ := x; exact ⟨o, e, fun v q => by rw [d] at q; cases q⟩
theorem Src.but (x : Src t h a xs) (hs : Heap.ExtBut b h h') (n : a ≠ b) : Src t h' a xs := by
  cases t
  · exact Heap.IsList.extBut x hs n
  · exact Heap.IsTuple.extBut x hs n
end
section
variable {prog : Program} {w : World} {A : Around} {E : Value → Shared → Prop} {s : Shared} {t t2 : Bool}
/-- all but four addresses as they were -/
abbrev But4 (z b c d : Addr) (h h' : Heap) : Prop := ∀ e o, e ≠ z → e ≠ b → e ≠ c → e ≠ d → h.get? e = some o → h'.get? e = some o
end
/-- the iterator that a list or a tuple gives -/
abbrev curO (t : Bool) (l : Addr) : Obj := { cls := .type (if t = true then "tuple_iterator" else "list_iterator"), data := .fields #[.ref l, .int 0 0] }
abbrev zh1 (t : Bool) (h : Heap) (l1 : Addr) : Heap := h.push (curO t l1)
abbrev zh2 (t t2 : Bool) (h : Heap) (l1 l2 : Addr) : Heap := (zh1 t h l1).push (curO t2 l2)
abbrev zh3 (t t2 : Bool) (h : Heap) (l1 l2 : Addr) : Heap := (zh2 t t2 h l1 l2).push { cls := .type "tuple", data := .seq #[.ref h.objs.size, .ref (zh1 t h l1).objs.size] }
abbrev zh4 (t t2 : Bool) (h : Heap) (l1 l2 : Addr) : Heap := (zh3 t t2 h l1 l2).push { cls := .type "tuple", data := .seq #[.none, .none] }
abbrev zh5 (t t2 : Bool) (h : Heap) (l1 l2 : Addr) : Heap := (zh4 t t2 h l1 l2).push { cls := .type "zip", data := .fields #[.none, .bool false, .bool false, .ref (zh2 t t2 h l1 l2).objs.size, .ref (zh3 t t2 h l1 l2).objs.size] }
section
variable {prog : Program} {w : World} {A : Around} {E : Value → Shared → Prop} {s : Shared}
end
/-- what stands at a, a tuple (true) or a list -/
def SqX (t : Bool) (K : PySem.W.Frag) (H : Hp) (a : Addr) (xs : List V) : Prop := match t with
  | true => SqT K H a xs
  | false => SqL K H a xs
def ItzX (t t2 : Bool) (K : PySem.W.Frag) (a b : Addr) : It :=
  ⟨fun i H => ∃ (xs ys : List V) (x y : V), SqX t K H a xs ∧ SqX t2 K H b ys ∧ xs[i]? = some x ∧ ys[i]? = some y,
    fun i H v H' => ∃ T x y, v = .ref T ∧ H T = none ∧ H' = upd H T (.tup [x, y]) ∧ (∀ xs, SqX t K H a xs → xs[i]? = some x) ∧ ∀ ys, SqX t2 K H b ys → ys[i]? = some y,
    fun i H => ∃ xs ys : List V, SqX t K H a xs ∧ SqX t2 K H b ys ∧ (xs.length ≤ i ∨ ys.length ≤ i)⟩
theorem five {c z TI TO i1 i2 : Addr} (h : c ∈ [z, TI, TO, i1, i2]) : c = z ∨ c = TI ∨ c = TO ∨ c = i1 ∨ c = i2 := by simpa using h
def iZipX (K : PySem.W.Frag) (ta : TA) : TI := fun σ H R => ta σ H fun vs H1 => ∃ a b xs ys t t2, vs = [.ref a, .ref b] ∧ SqX t K H1 a xs ∧ SqX t2 K H1 b ys ∧ R (ItzX t t2 K a b) H1
section
variable {K : PySem.W.Frag}
/-- the items of zip(..) of lists and tuples -/
def zipX (a b : D) : Option (List D) := match asL a, asL b with
  | some xs, some ys => some (pairs xs ys)
  | _, _ => none
variable {X : Cx} {en : Kn} {δ τ : List Slot} {R : Type} {m : Res R}
end
end BR

/-! K22: put into a list, taken out of it; ranges that fall -/
namespace BR
open PySem PySem.Spec PyProof.Rows L2

section
variable {X : Cx} {en : Kn} {δ τ : List Slot} {R : Type} {C : Slot → List Slot → Res R → Prop} {m : Res R} {K : PySem.W.Frag}
def insL (ds as : List D) : Option (D × List D) := match as with
  | [.int i, d] => if ds.length < sizeLine ∧ 0 ≤ i ∧ i < 2 ^ 62 then some (.non, ds.take i.toNat ++ [d] ++ ds.drop i.toNat) else none
  | _ => none
def insertD : D → List D → Option (D × D)
  | .lst ds, as => (insL ds as).map fun r => (r.1, D.lst r.2)
  | _, _ => none
def popAtL (ds as : List D) : Option (D × List D) := match as with
  | [.int i] => if -(2 ^ 62) ≤ i ∧ i < 2 ^ 62 then (ixN ds.length i).bind fun j => (ds[j]?).map fun d => (d, ds.eraseIdx j) else none
  | _ => none
def popAtD : D → List D → Option (D × D)
  | .lst ds, as => (popAtL ds as).map fun r => (r.1, D.lst r.2)
  | _, _ => none
/-! ### ranges that fall by one -/
def downto (hi : Int) (n : Nat) : List D := (List.range n).map fun (i : Nat) => D.int (hi - (i : Int))
def rngdD : List D → Option (List D)
  | [.int i, .int j, .int c] => if c = -1 ∧ (-(2 ^ 62) ≤ i ∧ i < 2 ^ 62) ∧ -(2 ^ 62) ≤ j ∧ j < 2 ^ 62 then some (downto i (i - j).toNat) else none
  | _ => none
end
end BR

/-! K23: dicts asked and changed -/
namespace BR
open PySem PySem.Spec PyProof.Rows L2

/-- what a dict has of a key -/
def getK (kvs : List (Key × D)) (k : Key) : Option D := (kvs.find? fun kv => decide (kv.1 = k)).map (·.2)
def delK (kvs : List (Key × D)) (k : Key) : List (Key × D) := kvs.filter fun kv => decide (kv.1 ≠ k)
section
variable {K : PySem.W.Frag} {G H : Hp}
theorem RepKs.get {k : Key} : ∀ {ds : List (Key × D)} {vs : List (Key × V)}, RepKs K G ds vs → (∀ d, getK ds k = some d → ∃ v, valV vs k = some v ∧ Rep K G d v) ∧ (getK ds k = none → valV vs k = none)
  | [], _, h => by
    rw [show _ = [] from h]
    exact ⟨fun d e => (nomatch e), fun _ => rfl⟩
  | (k', d') :: ds, _, h => by
    obtain ⟨v, r, e, h1, h2⟩ := h
    subst e
    by_cases hk : k' = k
    · subst hk
      refine ⟨fun d e => ?_, fun e => ?_⟩
      · have e' : d' = d := by simpa [getK, List.find?_cons] using e
        subst e'
        exact ⟨v, valV_pos rfl, h1⟩
      · simp [getK, List.find?_cons] at e
    · have ih := RepKs.get (k := k) h2
      have e1 : getK ((k', d') :: ds) k = getK ds k := by simp [getK, List.find?_cons, hk]
      have e2 : valV ((k', v) :: r) k = valV r k := valV_neg hk
      rw [e1, e2]
      exact ih
theorem RepKs.del {k : Key} : ∀ {ds : List (Key × D)} {vs : List (Key × V)}, RepKs K G ds vs → RepKs K G (delK ds k) (dropK vs k)
  | [], _, h => by rw [show _ = [] from h]; rfl
  | (k', d') :: ds, _, h => by
    obtain ⟨v, r, e, h1, h2⟩ := h
    subst e
    unfold delK dropK
    rw [List.filter_cons, List.filter_cons]
    by_cases hk : k' = k
    · simpa [hk, delK, dropK] using RepKs.del (k := k) h2
    · simp only [hk, decide_true, ne_eq, not_false_iff, if_true]
      exact ⟨v, _, rfl, h1, RepKs.del h2⟩
theorem RepKs.keys : ∀ {ds : List (Key × D)} {vs : List (Key × V)}, RepKs K G ds vs → vs.map (·.1) = ds.map (·.1)
  | [], _, h => by rw [show _ = [] from h]; rfl
  | (k', d') :: ds, _, h => by
    obtain ⟨v, r, e, h1, h2⟩ := h
    subst e
    rw [List.map_cons, List.map_cons, RepKs.keys h2]
theorem key_v {d : D} {k : Key} {v : V} (e : keyD d = some k) (r : VRep K G H d v) : v = kV k := by
  cases d <;> first | cases e | skip
  · exact r
  · exact r
end
section
variable {X : Cx} {en : Kn} {δ τ : List Slot} {R : Type} {C : Slot → List Slot → Res R → Prop} {m : Res R} {K : PySem.W.Frag}
variable {N : List Slot → Res R → Prop} {RT : Slot → List Slot → Res R → Prop} {BK CT : List Slot → Res R → Prop}
/-- a dict's own pairs -/
def asK : D → Option (List (Key × D))
  | .dic kvs => some kvs
  | _ => none
/-- d[k] -/
def dixD (d i : D) : Option D := match d, keyD i with
  | .dic kvs, some k => getK kvs k
  | _, _ => none
/-- d.get(k, e) -/
def dgetD (d i e : D) : Option D := match d, keyD i with
  | .dic kvs, some k => some ((getK kvs k).getD e)
  | _, _ => none
theorem je_dget {o i e : Expr} {apos cpos : Pos} (hu : X.A.units + 64 < cLine) (m2 : M2 X o "get" apos i e cpos)
    (h : JE X en δ τ o (fun s1 δ1 m1 => ∃ d0 k0, s1.rd δ1 = some d0 ∧ m1 = op (asK d0) k0 ∧ ∀ kvs, JE X en δ1 (τ ++ [s1]) i (fun s2 δ2 m2 => JE X en δ2 (τ ++ [s1] ++ [s2]) e (fun s3 δ3 m3 => ∃ d1 d2 d3 k, s1.rd δ3 = some d1 ∧ s2.rd δ3 = some d2 ∧ s3 = .fr d3 ∧ m3 = op (dgetD d1 d2 d3) k ∧ ∀ d, C (.fr d) δ3 (k d)) m2) (k0 kvs)) m) :
    JE X en δ τ (.Call (.Attribute o "get" apos) [i, e] [] cpos) C m := .mk fun hb hx σ ts G H T hl hσ W k => by
  refine we_of (pe_dget2 (by omega) pe_we pe_we pe_we m2) ?_
  have ht : τ.length = ts.length := W.splitLen (hl.trans hσ.symm)
  refine h.run hb hx σ ts G H _ hl hσ W fun s1 δ1 v1 G1 H1 c1 hl1 W1 => ?_
  obtain ⟨d0, k0, e0, em0, c1⟩ := c1
  have hb0 := hb
  rw [em0] at hb0
  obtain ⟨kv0, ek0⟩ := op_some hb0
  have em1 : m = k0 kv0 := by rw [em0, ek0]; rfl
  have c1 := c1 kv0
  rw [← em1] at c1
  cases d0 <;> first | cases ek0 | skip
  obtain ⟨⟨_, _, ez0, r0, _⟩, _⟩ := Wd.ends (sls := [s1]) (vs := [v1]) W1 (hl1.trans hσ.symm) ht (ds := [.dic kv0]) (by simp only [rds, e0])
  cases ez0
  obtain ⟨a0, kv1, ev0, q0, _⟩ := r0
  subst ev0
  refine ⟨a0, rfl, .inl ⟨kv1, .inl q0⟩, ?_⟩
  rw [List.append_assoc, List.append_assoc] at W1
  refine c1.run hb hx σ (ts ++ [some (.ref a0)]) G1 H1 _ hl1 hσ W1 fun s2 δ2 v2 G2 H2 c2 hl2 W2 => ?_
  have W2' : Wd X.K en (δ2 ++ (τ ++ [s1] ++ [s2])) (σ ++ (ts ++ [some (.ref a0)] ++ [some v2])) G2 H2 := by
    have := W2
    simp only [List.append_assoc] at this ⊢
    exact this
  refine c2.run hb hx σ (ts ++ [some (.ref a0)] ++ [some v2]) G2 H2 _ hl2 hσ W2' fun s3 δ3 v3 G3 H3 c3 hl3 W3 => ?_
  obtain ⟨d1, d2, d3, k', e1, e2, rfl, em, hk⟩ := c3
  have hb' := hb
  rw [em] at hb'
  obtain ⟨d, ed⟩ := op_some hb'
  have em' : m = k' d := by rw [em, ed]; rfl
  have hk2 := hk d
  rw [← em'] at hk2
  have W4 : Wd X.K en (δ3 ++ τ ++ [s1, s2, .fr d3]) (σ ++ ts ++ [V.ref a0, v2, v3].map some) G3 H3 := by
    have := W3
    simp only [List.append_assoc, List.map_cons, List.map_nil, List.cons_append, List.nil_append] at this ⊢
    exact this
  obtain ⟨⟨_, _, ez, r1, _, _, ez2, r2, _, _, ez3, _, ez4⟩, Wn⟩ := W4.ends (hl3.trans hσ.symm) ht (ds := [d1, d2, d3]) (by simp only [rds, e1, e2]; rfl)
  cases ez
  cases ez2
  cases ez3
  obtain ⟨v3', ev3, r3⟩ := W3.last
  cases ev3
  cases d1 <;> first | cases ed | skip
  rename_i kvs
  cases ek : keyD d2 with
  | none => unfold dgetD at ed; rw [ek] at ed; cases ed
  | some ky =>
    unfold dgetD at ed
    rw [ek] at ed
    cases ed
    obtain ⟨a, kv, ev, q1, r1'⟩ := r1
    cases ev
    have W5 := Wn (by omega)
    obtain ⟨g1, g2⟩ := RepKs.get (k := ky) r1'
    refine ⟨valV kv ky, ?_, ?_⟩
    · rw [key_v ek r2]; exact DGet.k q1
    · cases eg : getK kvs ky with
      | none =>
        rw [g2 eg]
        rw [eg] at hk2
        exact k _ δ3 _ G3 H3 hk2 hl3 (W5.out (Grow.refl W3.sub) r3)
      | some y =>
        obtain ⟨v, hv, rv⟩ := g1 y eg
        rw [hv]
        rw [eg] at hk2
        exact k _ δ3 _ G3 H3 hk2 hl3 (W5.out (Grow.refl W3.sub) rv)
/-- d[k] = e, a name's own dict -/
def dputK (kvs : List (Key × D)) (i d : D) : Option (List (Key × D)) := match keyD i with
  | some k => if kvs.length < sizeLine then some (putD kvs k d) else none
  | none => none
theorem own1 {K : PySem.W.Frag} {δ τ : List Slot} {σ ts : L2.St} {G H : Hp} (W : Wd K en (δ ++ τ) (σ ++ ts) G H) (hl : δ.length = σ.length) {i : Nat} {sl : Slot} (h : δ[i]? = some sl) (ho : sl.own = true) : ∃ p, σ[i]? = some (some (V.ref p)) := by
  obtain ⟨o, g1, g2⟩ := W.name hl h
  cases sl with
  | mu _ => obtain ⟨p, e, _⟩ := g2; exact ⟨p, by rw [g1, e]⟩
  | mp _ _ => obtain ⟨p, e, _⟩ := g2; exact ⟨p, by rw [g1, e]⟩
  | un => cases ho
  | fr _ => cases ho
  | bw _ => cases ho
  | bo _ => cases ho
theorem js_dput {x : Str} {p p2 pos : Pos} {idx e : Expr} (i : Nat) (hu : X.A.units + 64 < cLine)
    (h : JE X en δ [] e (fun s1 δ1 m1 => ∃ d sl0, s1 = .fr d ∧ δ1[i]? = some sl0 ∧ sl0.own = true ∧ JE X en δ1 [s1] idx (fun s2 δ2 m2 => ∃ di sl kvs k, ∃ pe : List (Key × D) → List Slot, s2.rd δ2 = some di ∧ δ2[i]? = some sl ∧ sl.own = true ∧ sl.rd δ2 = some (.dic kvs) ∧ m2 = op (dputK kvs di d) k ∧ (∀ r, δ2.set i (sl.put (.dic r)) = pe r) ∧ ∀ r, N (pe r) (k r)) m1) m)
    (hN : X.N[i]? = some x := by rfl) (hv : Vis X.env.scope x := by first | exact Or.inl rfl | exact Or.inr (Or.inl rfl) | exact Or.inr (Or.inr rfl)) (hdd : (x == ("__debug__" : Str)) = false := by decide) (hcd : (x == ("__classdict__" : Str)) = false := by decide)
    (hs : swapsWith e (some (.Subscript (.Name x p) idx p2)) pos.line X.env = pure false := by rfl) :
    JS X en δ (.Assign [.Subscript (.Name x p) idx p2] e pos) N RT BK CT m := .mk fun hb hx σ G H E hl W k1 k2 k3 k4 => by
  refine ws_of (ps_dput (by omega) (pe_var hN hv hdd hcd) pe_we pe_we hs) ?_
  have hσ := W.sl hl
  refine h.at hb hx hl W fun s1 δ1 v1 G1 H1 ⟨d, sl0, es, f1, f2, c1⟩ hl1 W1 => ?_
  subst es
  obtain ⟨p0, h0⟩ := own1 (τ := [.fr d]) W1 (hl1.trans hσ.symm) f1 f2
  refine ⟨.ref p0, h0, ?_⟩
  refine c1.run hb hx σ [some v1] G1 H1 _ hl1 hσ W1 fun s2 δ2 v2 G2 H2 c2 hl2 W2 => ?_
  obtain ⟨di, sl, kvs, k', pe, e1, e2, e3, e4, em, hpe, hk⟩ := c2
  have hb' := hb
  rw [em] at hb'
  obtain ⟨r, er⟩ := op_some hb'
  have em' : m = k' r := by rw [em, er]; rfl
  have hk2 := hk r
  rw [← em'] at hk2
  have W3 : Wd X.K en (δ2 ++ [] ++ [.fr d, s2]) (σ ++ [] ++ [v1, v2].map some) G2 H2 := by
    have := W2
    simp only [List.append_assoc, List.map_cons, List.map_nil, List.cons_append, List.nil_append] at this ⊢
    exact this
  obtain ⟨⟨_, _, ez, _, _, _, ez2, r2, ez3⟩, Wn⟩ := W3.ends (τ := []) (ts := []) (hl2.trans hσ.symm) rfl (ds := [d, di]) (by simp only [rds, e1]; rfl)
  cases ez
  cases ez2
  obtain ⟨v', ev', rd⟩ := (W2.cut (Δ := δ2 ++ [.fr d]) (S := σ ++ [some v1]) (by rw [List.length_append, List.length_append]; simp; omega) (by rw [List.length_append]; omega)).last
  cases ev'
  have W4 := Wn (by omega)
  obtain ⟨p1, h5, ow, n1, us, h8, h9⟩ := own_of W4 hl2 hσ e2 e3 e4
  rw [h0] at h5
  cases h5
  have hi := (List.getElem?_eq_some_iff.mp e2).1
  unfold dputK at er
  cases ek : keyD di with
  | none => rw [ek] at er; cases er
  | some ky =>
    rw [ek] at er
    have er' : (if kvs.length < sizeLine then some (putD kvs ky d) else none) = some r := er
    by_cases hz : kvs.length < sizeLine
    · rw [if_pos hz] at er'
      cases er'
      refine ⟨p0, _, rfl, by rw [key_v ek r2]; exact DPut.k h8 (by rw [← h9.length]; exact hz), ?_⟩
      have W5 := W4.mut (o' := .dK (putK us ky v1)) (d' := .dic (putD kvs ky d)) ow ⟨_, upd_same, RepKs.put rd h9⟩
      rw [List.getD_eq_getElem?_getD, List.getElem?_append_left hi, e2, List.set_append_left _ _ hi, List.append_nil, List.append_nil] at W5
      have W6 : Wd X.K en (pe (putD kvs ky d)) σ G2 (upd H2 p0 (.dK (putK us ky v1))) := by rw [← hpe]; exact W5
      exact k1 _ σ G2 _ hk2 (by rw [← hpe, List.length_set]; exact hl2) W6
    · rw [if_neg hz] at er'; cases er'
/-- del d[k], a name's own dict -/
def ddelK (kvs : List (Key × D)) (i : D) : Option (List (Key × D)) := match keyD i with
  | some k => if (getK kvs k).isSome = true then some (delK kvs k) else none
  | none => none
/-! ### sorted(d), ints, any number of them -/
def intK : List (Key × D) → Option (List Int)
  | [] => some []
  | (.inl i, _) :: r => (intK r).map (i :: ·)
  | _ :: _ => none
/-- sorted(x), x a list of ints or a dict with such keys -/
def srtT : List D → Option (List D)
  | [.lst ds] => (intsD ds).map fun ns => (srtI ns).map D.int
  | [.dic kvs] => if kvs.length ≤ sizeLine then (intK kvs).map fun ns => (srtI ns).map D.int else none
  | _ => none
end
end BR

/-! K24: a parameter that is given by its name alone, None where it is left out -/
namespace BR
open PySem PySem.Spec PyProof.Rows L2

/-- y is the last parameter; it is given by name, or None -/
def KwB (K : PySem.W.Frag) (fd : FuncData) (ps : List Str) (y : Str) : Prop := Binds K fd ps [Value.none] ∧
  ∀ (s : Shared) (us : List Value) (u : Value), (us ++ [u]).length = ps.length → BindsTo s fd ⟨us, [(y, u)]⟩ (ps.zip (us ++ [u]))
def DfK (P : Program) (w : World) (K : PySem.W.Frag) (mg : Str → Option Value) (base : Heap) (k : Nat) (x y : Str) (ks : List Kd) {α : Type} (den : List D → Res α) (val : α → D) (outs : α → List D) (mu : Bool) : Prop :=
  ∃ (f : Addr) (fd : FuncData) (psn : List Str), FnG P w K mg base k f fd psn (SpD K mg ks den val outs mu) ∧ mg x = some (.ref f) ∧ PySem.W.keepIn K (.ref f) = true ∧ KwB K fd psn y
section
variable {X : Cx} {en : Kn} {δ τ : List Slot} {R : Type} {C : Slot → List Slot → Res R → Prop} {m : Res R} {k : Nat} {f : Addr} {fd : FuncData} {ps : List Str} {sp : Sp} {E : XK} {x y : Str} {p pos kpos : Pos} {e e' : Expr} {es : List Expr}
abbrev WAn (X : Cx) (es : List Expr) : TA := fun σ H Q => WA X es σ H fun vs H1 => Q (vs ++ [V.non]) H1
abbrev WAk (X : Cx) (es : List Expr) (e : Expr) : TA := fun σ H Q => WA X es σ H fun vs H1 => WE X e σ H1 fun v H2 => Q (vs ++ [v]) H2
end
/-! ### list(range(n)) -/
/-- the numbers of list(range(..)) -/
def lrgD : D → Option (List D)
  | .int j => if -(2 ^ 62) ≤ j ∧ j < 2 ^ 62 ∧ j.toNat ≤ 2 ^ 24 then some (upto 0 j.toNat) else none
  | _ => none
section
variable {X : Cx} {en : Kn} {δ τ : List Slot} {R : Type} {C : Slot → List Slot → Res R → Prop} {m : Res R}
end
end BR

/-! K25: sorted(set(x)) of a list of ints, any number of them below 4000 -/
namespace BR
open PySem PySem.Spec PyProof.Rows L2

/-- a set as it is made -/
abbrev nos (w : World) : Obj := { cls := .type "set", dict := none, data := .set #[] 0 (.fresh 0 0 (!w.params.followText "set-order")) }
section
variable {P : Program} {w : World} {A : Around} {E : Value → Shared → Prop} {s : Shared}
end
def tSortSet (K : PySem.W.Frag) (ta : TE) : TE := fun σ H Q => ta σ H fun x H1 => ∃ (l : Addr) (ns : List Int), x = .ref l ∧ SqL K H1 l (ns.map V.int) ∧ ns.length ≤ 4000 ∧
  ∀ (ys : List Int) (p : Addr), ys.Pairwise (· < ·) → (∀ k, k ∈ ys ↔ k ∈ ns) → H1 p = none → Q (.ref p) (upd H1 p (.lst (ys.map V.int)))
/-- put among rising numbers -/
def insU (k : Int) : List Int → List Int
  | [] => [k]
  | y :: r => if k < y then k :: y :: r else if k = y then y :: r else y :: insU k r
/-- sorted, each once -/
def srtU (ns : List Int) : List Int := ns.foldr insU []
/-- sorted(set(x)) -/
def setT : D → Option (List D)
  | .lst ds => if ds.length ≤ 4000 then (intsD ds).map fun ns => (srtU ns).map D.int else none
  | _ => none
section
variable {X : Cx} {en : Kn} {δ τ : List Slot} {R : Type} {C : Slot → List Slot → Res R → Prop} {m : Res R}
end
end BR

/-! K30: sorted({x for .. in ..}) of ints -/
namespace BR
open PySem PySem.Spec PyProof.Rows L2

/-- a set of ints in the making -/
def SetRO (w : World) (a : Addr) (S : Int → Bool) (n : Nat) : HO := .ext fun h => SetR w h a S n
def addS (S : Int → Bool) (c : Int) : Int → Bool := fun j => S j || decide (j = c)
section
variable {X : Cx}
/-- {elt for target in iter if ..} of ints: D the new set -/
def tScI (w : World) (wi : TI) (g : TG) (tt : TT) (te : TE) (vs : List Nat) : TE := fun σ H Q => wi σ H fun J H1 => ∀ D, H1 D = none → ∃ W : Nat → Nat → Hp → Prop, (∃ m, W 0 m (upd H1 D (SetRO w D (fun _ => false) 0))) ∧ ∀ i m H, W i m H →
  (J.stop i H ∧ Q (.ref D) H) ∨ (J.go i H ∧ ∃ Nx : Hp → Prop, (∀ H', Nx H' → ∃ m', m' < m ∧ W (i + 1) m' H') ∧ ∀ x H', J.yld i H x H' → g x (wipe σ vs) H' fun σ2 H2 => wipe σ2 vs = wipe σ vs ∧ tt σ2 H2 fun b H3 =>
    if b = true then te σ2 H3 fun y H4 => ∃ (c : Int) (S : Int → Bool) (n : Nat), y = .int c ∧ H4 D = some (SetRO w D S n) ∧ n + 1 < scanBound ∧ Nx (upd H4 D (SetRO w D (addS S c) (if S c = true then n else n + 1))) else Nx H3)
/-- sorted(a set) -/
def tSortSc (w : World) (ta : TE) : TE := fun σ H Q => ta σ H fun x H1 => ∃ (D : Addr) (S : Int → Bool) (n : Nat), x = .ref D ∧ H1 D = some (SetRO w D S n) ∧ n ≤ 4000 ∧
  ∀ (ys : List Int) (p : Addr), ys.Pairwise (· < ·) → (∀ k, k ∈ ys ↔ S k = true) → H1 p = none → Q (.ref p) (upd H1 p (.lst (ys.map V.int)))
end
/-! ### its reading -/
structure KnS (en en' : Kn) : Prop where
  n : en'.n = en.n
  ps : en'.ps = en.ps
  HX : en'.HX = fun o => o = none
theorem KnS.lk {X : Cx} {en en' : Kn} (h : KnS en en') {s : Shared} {H : Hp} {scope : Scope} {cenv : Env} {fp : List Addr} : Lk (X.blk s H scope cenv fp) en' :=
  ⟨fun _ _ _ _ => False, takes0N, fun x hx => by rw [h.HX] at hx; cases hx⟩
/-- no list, no tuple, no dict there -/
def noLtd (o : Option HO) : Prop := o = none ∨ ∃ f, o = some (.ext f)
section
variable {K : PySem.W.Frag} {en : Kn} {Δ : List Slot} {S : L2.St} {G H H2 F2 : Hp} {q : Addr}
theorem noLtd.ne {o : Option HO} (h : noLtd o) {u : HO} (e : o = some u) (hu : ∀ f, u ≠ .ext f) : False := by
  rcases h with z | ⟨f, z⟩
  · rw [z] at e; cases e
  · rw [z] at e; cases e; exact hu f rfl
abbrev Kn.setF (en : Kn) (F2 : Hp) : Kn := { en with F0 := F2 }
end
section
variable {X : Cx} {en : Kn} {δ τ : List Slot} {R : Type} {C : Slot → List Slot → Res R → Prop} {m : Res R}
end
end BR

/-! K31: list(zip(a, b, c)) of three lists of one length -/
namespace BR
open PySem PySem.Spec PyProof.Rows L2
/-- a zip of three at N + 5, over iterators at N, N + 1, N + 2; what was told of it last is out, above the list at N + 6 -/
def Z3 (h : Heap) (N l1 l2 l3 : Nat) (xs ys zs : Array Value) (k : Nat) : Prop :=
  ((IsZip h (N + 5 : Nat) (N + 3 : Nat) (N + 4 : Nat) .none ∧ IsTupOf3 h (N + 4 : Nat) .none .none .none) ∨ ∃ (T : Nat) (f : Bool) (oT : Obj), IsZipHeld h (N + 5 : Nat) (N + 3 : Nat) (N + 4 : Nat) T f ∧ h.get? T = some oT ∧ N + 7 ≤ T) ∧
    IsTupOf3 h (N + 3 : Nat) (.ref (N : Nat)) (.ref (N + 1 : Nat)) (.ref (N + 2 : Nat)) ∧ h.IsListIter (N : Nat) l1 k ∧ h.IsListIter (N + 1 : Nat) l2 k ∧ h.IsListIter (N + 2 : Nat) l3 k ∧ h.IsList l1 xs ∧ h.IsList l2 ys ∧ h.IsList l3 zs
theorem Z3.keep {h h' : Heap} {N l1 l2 l3 k : Nat} {xs ys zs : Array Value} (x : Z3 h N l1 l2 l3 xs ys zs k) (b1 : l1 < N) (b2 : l2 < N) (b3 : l3 < N) (hk : ∀ (b : Nat) o, b ≠ N + 6 → h.get? b = some o → h'.get? b = some o) : Z3 h' N l1 l2 l3 xs ys zs k := by
  obtain ⟨st, hT, i1, i2, i3, j1, j2, j3⟩ := x
  refine ⟨?_, hk (N + 3) _ (by omega) hT, i1.at fun o e => hk N _ (by omega) e, i2.at fun o e => hk (N + 1) _ (by omega) e, i3.at fun o e => hk (N + 2) _ (by omega) e, j1.at fun o e => hk l1 _ (by omega) e, j2.at fun o e => hk l2 _ (by omega) e, j3.at fun o e => hk l3 _ (by omega) e⟩
  rcases st with ⟨a, b⟩ | ⟨T, f, oT, a, b, c⟩
  · exact .inl ⟨hk (N + 5) _ (by omega) a, hk (N + 4) _ (by omega) b⟩
  · exact .inr ⟨T, f, oT, hk (N + 5) _ (by omega) a, hk T _ (by omega) b, c⟩
def sep3 (N : Nat) {l1 l2 l3 : Nat} (b1 : l1 < N) (b2 : l2 < N) (b3 : l3 < N) : ZipSep3 (N + 5 : Nat) (N + 3 : Nat) (N + 4 : Nat) (N : Nat) (N + 1 : Nat) (N + 2 : Nat) [(N : Nat), l1] [(N + 1 : Nat), l2] [(N + 2 : Nat), l3] :=
  zip_sep3 (fp1 := [l1]) (fp2 := [l2]) (fp3 := [l3]) (fun b hb => by rw [List.mem_singleton.mp hb]; exact b1) (fun b hb => by rw [List.mem_singleton.mp hb]; exact b2) (fun b hb => by rw [List.mem_singleton.mp hb]; exact b3)
section
variable {prog : Program} {w : World} {A : Around} {E : Value → Shared → Prop} {s : Shared} {N l1 l2 l3 k : Nat} {xs ys zs : Array Value}
structure G3 (xs ys zs : Array Value) (lo : Nat) (h : Heap) (as : List Addr) : Prop where
  rise : as.Pairwise (· < ·)
  above : ∀ (a : Nat), a ∈ as → lo < a
  tri : ∀ (j : Nat) (a : Addr), as[j]? = some a → ∃ x y u, xs[j]? = some x ∧ ys[j]? = some y ∧ zs[j]? = some u ∧ IsTupOf3 h a x y u
theorem G3.there {lo : Nat} {h : Heap} {as : List Addr} (g : G3 xs ys zs lo h as) {a : Nat} (ha : a ∈ as) : a < h.objs.size := by
  obtain ⟨j, hj⟩ := List.mem_iff_getElem?.mp ha
  obtain ⟨_, _, _, _, _, _, e⟩ := g.tri j a hj
  exact Heap.lt_size e
variable {R : Result → Shared → Prop}
end
/-! ### its reading -/
def putV : Hp → List Addr → List (List V) → Hp
  | H, a :: as, p :: ps => putV (upd H a (.tup p)) as ps
  | H, _, _ => H
def z3V : List V → List V → List V → List (List V)
  | x :: xs, y :: ys, z :: zs => [x, y, z] :: z3V xs ys zs
  | _, _, _ => []
def tLZ (K : PySem.W.Frag) (ta : TA) : TE := fun σ H Q => ta σ H fun vs H1 => ∃ (a b c : Addr) (xs ys zs : List V), vs = [.ref a, .ref b, .ref c] ∧ SqL K H1 a xs ∧ SqL K H1 b ys ∧ SqL K H1 c zs ∧ ys.length = xs.length ∧ zs.length = xs.length ∧
  ∀ (H' : Hp) (p : Addr) (ts : List Addr), (∀ b o, H1 b = some o → H' b = some o) → H1 p = none → (∀ t ∈ ts, H1 t = none) → p ∉ ts → H' p = some (.lst (ts.map V.ref)) → ts.length = xs.length → (∀ (j : Nat) t, ts[j]? = some t → ∃ x y u, xs[j]? = some x ∧ ys[j]? = some y ∧ zs[j]? = some u ∧ H' t = some (.tup [x, y, u])) → Q (.ref p) H'
section
variable {X : Cx}
end
/-- triples of three lists -/
def z3L : List D → List D → List D → List D
  | a :: as, b :: bs, c :: cs => .tup [a, b, c] :: z3L as bs cs
  | _, _, _ => []
def zip3 : D → D → D → Option (List D)
  | .lst a, .lst b, .lst c => if b.length = a.length ∧ c.length = a.length then some (z3L a b c) else none
  | _, _, _ => none
section
variable {X : Cx} {en : Kn} {δ τ : List Slot} {R : Type} {C : Slot → List Slot → Res R → Prop} {m : Res R}
end
end BR

/-! K26: {k: v for .. in ..}; x in a list of ints -/
namespace BR
open PySem PySem.Spec PyProof.Rows L2

/-- a dict built turn by turn -/
def dcF {S : Type} : List D → S → List (Key × D) → (D → S → Res (Option (D × D) × S)) → Res (List (Key × D) × S)
  | [], s, acc, _ => .ok (acc, s)
  | d :: ds, s, acc, f => match f d s with
    | .ok (some (x, y), s') => (match keyD x with
      | some k => if acc.length < sizeLine then dcF ds s' (putD acc k y) f else .bad
      | none => .bad)
    | .ok (none, s') => dcF ds s' acc f
    | _ => .bad
section
variable {X : Cx} {en : Kn} {δ τ : List Slot} {R : Type} {C : Slot → List Slot → Res R → Prop} {m : Res R} {K : PySem.W.Frag}
def DTurnE (X : Cx) (scope : Scope) (en : Kn) (δ τ : List Slot) (kx vx : Expr) {S : Type} (pe : S → List Slot) (vs : List Nat) (m : Res (Option (D × D) × S)) : Prop :=
  AllB X scope fun Y => JE Y en δ τ kx (fun s1 δ1 m1 => ∃ x, s1 = .fr x ∧ AllB X scope fun Z => JE Z en δ1 (τ ++ [.fr x]) vx (fun s2 δ2 m2 => ∃ y a', s2 = .fr y ∧ m2 = .ok (some (x, y), a') ∧ Le (wipeS δ2 vs) (pe a') ∧ noBo δ2 = true) m1) m
def DTurnT (X : Cx) (scope : Scope) (en : Kn) (δ τ : List Slot) (ifs : List Expr) (kx vx : Expr) {S : Type} (pe : S → List Slot) (vs : List Nat) (m : Res (Option (D × D) × S)) : Prop :=
  match ifs with
  | [] => DTurnE X scope en δ τ kx vx pe vs m
  | [c] => AllB X scope fun Y => JT Y en δ τ c (fun b δ3 m3 => ∃ mA mF, m3 = (if b = true then mA else mF) ∧ DTurnE X scope en δ3 τ kx vx pe vs mA ∧ ∃ a', mF = .ok (none, a') ∧ Le (wipeS δ3 vs) (pe a') ∧ noBo δ3 = true) m
  | _ => False
def DTurn1 (X : Cx) (scope : Scope) (en : Kn) (δ τ : List Slot) (tg : Expr) (ifs : List Expr) (kx vx : Expr) (d : D) {S : Type} (pe : S → List Slot) (vs : List Nat) (m : Res (Option (D × D) × S)) : Prop :=
  AllB X scope fun Y => ∃ is, (∀ i, i ∈ is → i ∈ vs) ∧ JG Y en δ τ tg d is (fun δ2 m2 => DTurnT X scope en δ2 τ ifs kx vx pe vs m2) m
end
/-! ### x in a list of ints -/
def inD (a b : D) : Option Bool := match a with
  | .int i => ((asL b).bind intsD).map fun ns => decide (i ∈ ns)
  | _ => none
def notInD (a b : D) : Option Bool := (inD a b).map (!·)
section
variable {X : Cx}
end
end BR

/-! K27: a list said over -/
namespace BR
open PySem PySem.Spec PyProof.Rows L2
def repD (xs : List D) (k : Int) : List D := (List.replicate k.toNat xs).flatten
def mulX : D → D → Option D
  | .lst xs, .int k => if -(2 ^ 63) ≤ k ∧ k < 2 ^ 63 ∧ xs.length * k.toNat ≤ sizeLine then some (.lst (repD xs k)) else none
  | a, b => mulD a b
section
variable {X : Cx} {K : PySem.W.Frag} {G : Hp}
/-- a, b = a list of two -/
def uL2 : D → Option (D × D)
  | .lst [a, b] => some (a, b)
  | _ => none
end
end BR

/-! K32: a module's number; a, b, c, d = a list of four -/
namespace BR
open PySem PySem.Spec PyProof.Rows L2
section
variable {X : Cx} {en : Kn} {δ τ : List Slot} {R : Type} {C : Slot → List Slot → Res R → Prop} {m : Res R}
theorem je_gi {x : Str} {i : Int} {pos : Pos} (hm : ∃ t, X.mg x = some (.int i t)) (h : C (.fr (.int i)) δ m) (hg : Gl X x := by rfl) (hd : (x == ("__debug__" : Str)) = false := by decide) : JE X en δ τ (.Name x pos) C m := .mk fun hb hx σ ts G H T hl hσ W k => by
  obtain ⟨t, hm⟩ := hm
  exact we_of (pe_glob (v := .int i) hg hm ⟨t, rfl⟩ hd) (k _ _ _ G H h hl (W.out (Grow.refl W.sub) (show Rep _ _ _ _ from rfl)))
def uL4 : D → Option (D × D × D × D)
  | .lst [a, b, c, d] => some (a, b, c, d)
  | _ => none
theorem gi_mk {K : PySem.W.Frag} {mg : Str → Option Value} {h : Heap} {x : Str} {i : Int} {t : Tok} (X : K.In h) (G : h.Ns mainGlobals mg) (g : PySem.W.nsIn K mainGlobals x = some (some (.int i t))) : ∃ t, mg x = some (.int i t) := ⟨t, PySem.W.mg_of X G g⟩
end
end BR

/-! K33: a loop over range(a, b) of numbers of any size -/
namespace BR
open PySem PySem.Spec PyProof.Rows L2
def iRng2B (ta : TA) : TI := fun σ H R => ta σ H fun vs H1 => ∃ i j : Int, vs = [.int i, .int j] ∧ R (Itr i (j - i).toNat) H1
/-- the numbers of range(a, b), whatever their size -/
def rngB : List D → Option (List D)
  | [.int i, .int j] => some (upto i (j - i).toNat)
  | _ => none
section
variable {X : Cx} {en : Kn} {δ : List Slot} {R : Type} {m : Res R}
end
end BR

/-! K28: told lists that are changed behind -/
namespace BR
open PySem PySem.Spec PyProof.Rows L2

mutual
/-- no list, no dict, nowhere within -/
def flD : D → Bool
  | .lst _ => false
  | .dic _ => false
  | .scr _ => false
  | .exc _ _ => false
  | .obj _ _ => false
  | .tup ds => flDs ds
  | _ => true
def flDs : List D → Bool
  | [] => true
  | d :: ds => flD d && flDs ds
end
/-- .. but at its top -/
def flT : D → Bool
  | .lst ds => flDs ds
  | .tup ds => flDs ds
  | .dic _ => false
  | .scr _ => false
  | .exc _ _ => false
  | .obj _ _ => false
  | _ => true
/-- neither heap nor text: numbers, truths, None, texts -/
def scD : D → Bool
  | .int _ => true
  | .bl _ => true
  | .non => true
  | .str _ => true
  | _ => false
def flZ (z : Bool × D) : Bool := if z.1 = true then flD z.2 else flT z.2
def chk (ds : List (Bool × D)) : Option Unit := if ds.all flZ = true then some () else none
/-- what stands fast, but lists and dicts -/
def noL (G : Hp) : Hp := fun a => match G a with
  | some (.lst _) => none
  | some (.dK _) => none
  | o => o
def uni (A B : Hp) : Hp := fun a => match A a with
  | some o => some o
  | none => B a
section
variable {K : PySem.W.Frag} {G H : Hp}
theorem noL_some {a : Addr} {o : HO} (h : G a = some o) (n : ∀ xs, o ≠ .lst xs) (n2 : ∀ xs, o ≠ .dK xs) : noL G a = some o := by
  unfold noL
  rw [h]
  cases o <;> first | rfl | exact absurd rfl (n _) | exact absurd rfl (n2 _)
theorem sqt_noL {a : Addr} {vs : List V} (h : SqT K G a vs) : SqT K (noL G) a vs := by
  rcases h with (h | ⟨o, h⟩) | h
  · exact .inl (.inl (noL_some h (fun _ z => nomatch z) (fun _ z => nomatch z)))
  · exact .inl (.inr ⟨o, noL_some h (fun _ z => nomatch z) (fun _ z => nomatch z)⟩)
  · exact .inr h
mutual
theorem Rep.noL : ∀ {d : D} {v : V}, flD d = true → Rep K G d v → Rep K (noL G) d v
  | .non, _, _, h => h
  | .bl _, _, _, h => h
  | .int _, _, _, h => h
  | .str _, _, _, h => h
  | .lst _, _, f, _ => (Bool.false_ne_true f).elim
  | .dic _, _, f, _ => (Bool.false_ne_true f).elim
  | .scr _, _, f, _ => (Bool.false_ne_true f).elim
  | .exc _ _, _, f, _ => (Bool.false_ne_true f).elim
  | .obj _ _, _, f, _ => (Bool.false_ne_true f).elim
  | .tup ds, _, f, h => by
    obtain ⟨a, vs, e, q, r⟩ := h
    exact ⟨a, vs, e, sqt_noL q, Reps.noL (ds := ds) f r⟩
theorem Reps.noL : ∀ {ds : List D} {vs : List V}, flDs ds = true → Reps K G ds vs → Reps K (noL G) ds vs
  | [], _, _, h => h
  | d :: ds, _, f, h => by
    obtain ⟨v, r, e, h1, h2⟩ := h
    have f' : (flD d && flDs ds) = true := f
    rw [Bool.and_eq_true] at f'
    exact ⟨v, r, e, Rep.noL f'.1 h1, Reps.noL f'.2 h2⟩
end
theorem uni_l {A B : Hp} : Sub A (uni A B) := fun a o h => by unfold uni; rw [h]
theorem uni_r {A B : Hp} (ha : Sub A H) (hb : Sub B H) : Sub B (uni A B) := fun a o h => by
  unfold uni
  cases e : A a with
  | none => exact h
  | some u =>
    have h1 := ha a u e
    have h2 := hb a o h
    rw [h1] at h2
    exact h2
theorem uni_sub {A B : Hp} (ha : Sub A H) (hb : Sub B H) : Sub (uni A B) H := fun a o h => by
  unfold uni at h
  cases e : A a with
  | none => rw [e] at h; exact hb a o h
  | some u => rw [e] at h; cases h; exact ha a _ e
end
/-- what may be read of a name's slot -/
def Slot.rdp : Slot → Option D
  | .fr d => some d
  | .mu d => some d
  | .mp _ d => some d
  | .bw d => some d
  | _ => none
/-- the names, read alone: ds what is read (true: it may be kept) -/
def PV : List Slot → List Slot → List (Bool × D) → Prop
  | [], [], [] => True
  | _ :: δ, .un :: δ', ds => PV δ δ' ds
  | s :: δ, .bw d :: δ', e :: ds => s.rdp = some d ∧ e = (false, d) ∧ PV δ δ' ds
  | s :: δ, .fr d :: δ', e :: ds => s.rdp = some d ∧ e = (true, d) ∧ PV δ δ' ds
  | _, _, _ => False
theorem PV.len : ∀ {δ δ' : List Slot} {ds : List (Bool × D)}, PV δ δ' ds → δ'.length = δ.length
  | [], [], [], _ => rfl
  | _ :: δ, .un :: δ', ds, h => by rw [List.length_cons, List.length_cons, PV.len (δ := δ) (δ' := δ') h]
  | _ :: δ, .bw _ :: δ', _ :: ds, h => by rw [List.length_cons, List.length_cons, PV.len h.2.2]
  | _ :: δ, .fr _ :: δ', _ :: ds, h => by rw [List.length_cons, List.length_cons, PV.len h.2.2]
  | [], [], _ :: _, h => h.elim
  | [], _ :: _, _, h => h.elim
  | _ :: _, [], _, h => h.elim
  | _ :: _, .bw _ :: _, [], h => h.elim
  | _ :: _, .fr _ :: _, [], h => h.elim
  | _ :: _, .mu _ :: _, _, h => h.elim
  | _ :: _, .mp _ _ :: _, _, h => h.elim
  | _ :: _, .bo _ :: _, _, h => h.elim
theorem PV.get : ∀ {δ δ' : List Slot} {ds : List (Bool × D)} {i : Nat} {sl : Slot}, PV δ δ' ds → δ'[i]? = some sl → sl = .un ∨ ∃ d s b, ((b = false ∧ sl = .bw d) ∨ (b = true ∧ sl = .fr d)) ∧ (b, d) ∈ ds ∧ δ[i]? = some s ∧ s.rdp = some d
  | [], [], [], _, _, _, e => by simp at e
  | s :: δ, .un :: δ', ds, 0, sl, h, e => .inl (by simpa using e.symm)
  | s :: δ, .un :: δ', ds, i + 1, sl, h, e => by
    rcases PV.get (δ := δ) (δ' := δ') (i := i) h (by simpa using e) with z | ⟨d, s, x, a, b, c, f⟩
    · exact .inl z
    · exact .inr ⟨d, s, x, a, b, by simpa using c, f⟩
  | s :: δ, .bw d :: δ', x :: ds, 0, sl, h, e => by
    have e' : Slot.bw d = sl := by simpa using e
    subst e'
    exact .inr ⟨d, s, false, .inl ⟨rfl, rfl⟩, by rw [h.2.1]; exact List.mem_cons_self, rfl, h.1⟩
  | s :: δ, .bw d :: δ', x :: ds, i + 1, sl, h, e => by
    rcases PV.get (i := i) h.2.2 (by simpa using e) with z | ⟨d, s, x, a, b, c, f⟩
    · exact .inl z
    · exact .inr ⟨d, s, x, a, List.mem_cons_of_mem _ b, by simpa using c, f⟩
  | s :: δ, .fr d :: δ', x :: ds, 0, sl, h, e => by
    have e' : Slot.fr d = sl := by simpa using e
    subst e'
    exact .inr ⟨d, s, true, .inr ⟨rfl, rfl⟩, by rw [h.2.1]; exact List.mem_cons_self, rfl, h.1⟩
  | s :: δ, .fr d :: δ', x :: ds, i + 1, sl, h, e => by
    rcases PV.get (i := i) h.2.2 (by simpa using e) with z | ⟨d, s, x, a, b, c, f⟩
    · exact .inl z
    · exact .inr ⟨d, s, x, a, List.mem_cons_of_mem _ b, by simpa using c, f⟩
  | [], [], _ :: _, _, _, h, _ => h.elim
  | [], _ :: _, _, _, _, h, _ => h.elim
  | _ :: _, [], _, _, _, h, _ => h.elim
  | _ :: _, .bw _ :: _, [], _, _, h, _ => h.elim
  | _ :: _, .fr _ :: _, [], _, _, h, _ => h.elim
  | _ :: _, .mu _ :: _, _, _, _, h, _ => h.elim
  | _ :: _, .mp _ _ :: _, _, _, _, h, _ => h.elim
  | _ :: _, .bo _ :: _, _, _, _, h, _ => h.elim
/-- where all is read alone -/
structure KnP (en en' : Kn) : Prop where
  n : en'.n = en.n
  HX : en'.HX = en.HX
  F0 : Sub en.F0 en'.F0
  st : ∀ a, en'.F0 a = none → a ∉ en'.ps → a ∉ en.ps
theorem Sub.none {A B : Hp} (s : Sub A B) {a : Addr} (h : B a = none) : A a = none := by
  cases z : A a with
  | none => rfl
  | some o => rw [s a o z] at h; cases h
theorem KnP.lk {X : Cx} {en en' : Kn} (h : KnP en en') (l : Lk X en) : Lk X en' := by
  obtain ⟨W, t, k⟩ := l
  exact ⟨W, t, fun x hx cls d σ H' e s => k x (h.HX ▸ hx) cls d σ H' (e.to fun a h1 h2 => ⟨h.F0.none h1, h.st a h1 h2⟩) (h.F0.trans s)⟩
abbrev Kn.pure (en : Kn) (G F : Hp) : Kn := { n := en.n, G0 := G, F0 := F, ps := [], HX := en.HX, h0 := en.h0 }
section
variable {K : PySem.W.Frag} {en : Kn} {δ δ' : List Slot} {σ : L2.St} {G H : Hp}
theorem SlotOk.bread {S : L2.St} {sl : Slot} {d : D} {o : Option V} (s1 : Sub G H) (s2 : Sub en.F0 H) (q : SlotOk K en S G H sl o) (e : sl.rdp = some d) : ∃ v, o = some v ∧ BRep K G H d v := by
  cases sl with
  | un => cases e
  | bo _ => cases e
  | fr d' => cases e; obtain ⟨v, e, r⟩ := q; exact ⟨v, e, BRep.of s1 r⟩
  | mu d' => cases e; obtain ⟨p, e, _, _, _, r⟩ := q; exact ⟨_, e, BRep.mk r.v r.notup⟩
  | mp j d' => cases e; obtain ⟨p, e, _, _, _, r⟩ := q; exact ⟨_, e, BRep.mk r.v r.notup⟩
  | bw d' => cases e; obtain ⟨v, e, r⟩ := q; exact ⟨v, e, BRep.sub (Sub.refl _) s2 r⟩
theorem BRep.fast {d : D} {v : V} (f : flD d = true) (h : BRep K G H d v) : Rep K G d v := by
  obtain ⟨⟨M, hM, r⟩, t⟩ := h
  cases d with
  | lst _ => exact (Bool.false_ne_true f).elim
  | dic _ => exact (Bool.false_ne_true f).elim
  | scr _ => exact (Bool.false_ne_true f).elim
  | exc _ _ => exact (Bool.false_ne_true f).elim
  | obj _ _ => exact (Bool.false_ne_true f).elim
  | tup _ => exact t rfl
  | non => exact r
  | bl _ => exact r
  | int _ => exact r
  | str _ => exact r
theorem Grow.more {H' : Hp} (s : Sub G H) (h : Sub H H') : Grow G H G H' := ⟨Sub.refl _, h, s.trans h, fun _ _ e => .inl e⟩
end
section
variable {X : Cx} {en : Kn} {R : Type}
/-- the name i has something told, whose lists are new and nobody else's: d -/
structure JX (X : Cx) (en : Kn) (δ : List Slot) (i : Nat) (d : D) (sts : List Stmt) {R : Type} (N : List Slot → Res R → Prop) (RT : Slot → List Slot → Res R → Prop) (BK CT : List Slot → Res R → Prop) (m : Res R) : Prop where
  run : m ≠ .bad → en.HX m.exc → ∀ (σ : L2.St) (G H0 H G1 : Hp) (E : Ends) (v : V), δ.length = en.n → σ[i]? = some (some v) → Wd X.K en δ σ G H0 → Sub H0 H → Sub G1 H → (∀ a o, G1 a = some o → noL G a = some o ∨ H0 a = none) → Rep X.K G1 d v →
    (∀ δ' σ' G' H', N δ' m → δ'.length = en.n → Wd X.K en δ' σ' G' H' → E.nx σ' H') →
    (∀ sl δ' v σ' G' H', RT sl δ' m → δ'.length = en.n → Wd X.K en (δ' ++ [sl]) (σ' ++ [some v]) G' H' → E.rt v H') →
    (∀ δ' σ' G' H', BK δ' m → δ'.length = en.n → Wd X.K en δ' σ' G' H' → E.bk σ' H') →
    (∀ δ' σ' G' H', CT δ' m → δ'.length = en.n → Wd X.K en δ' σ' G' H' → E.ct σ' H') → WSs X sts E σ H
variable {δ : List Slot} {N : List Slot → Res R → Prop} {RT : Slot → List Slot → Res R → Prop} {BK CT : List Slot → Res R → Prop} {m : Res R} {pos : Pos}
/-- the names read in a test: what stands fast stays so -/
def Slot.tv : Slot → Slot
  | .fr d => .fr d
  | .bw d => .bw d
  | .mu d => .bw d
  | .mp _ d => .bw d
  | _ => .un
theorem tv_set {δ : List Slot} {i j : Nat} {d : D} {sl : Slot} (h : ((δ.map Slot.tv).set i (.fr d))[j]? = some sl) : (j = i ∧ sl = .fr d) ∨ (j ≠ i ∧ ∃ s, δ[j]? = some s ∧ s.tv = sl) := by
  by_cases hj : i = j
  · subst hj
    by_cases hi : i < δ.length
    · rw [List.getElem?_set_self (by rw [List.length_map]; exact hi)] at h
      exact .inl ⟨rfl, (Option.some.inj h).symm⟩
    · rw [List.getElem?_eq_none (by rw [List.length_set, List.length_map]; omega)] at h; cases h
  · rw [List.getElem?_set_ne hj, List.getElem?_map] at h
    obtain ⟨s, h1, h2⟩ := Option.map_eq_some_iff.mp h
    exact .inr ⟨fun e => hj e.symm, s, h1, h2⟩
theorem Wd.test {K : PySem.W.Frag} {δ : List Slot} {σ : L2.St} {G H0 H G1 : Hp} {i : Nat} {d : D} {v : V} (W : Wd K en δ σ G H0) (hv : σ[i]? = some (some v)) (s0 : Sub H0 H) (s1 : Sub G1 H) (r : Rep K G1 d v) :
    Wd K (en.pure (uni G G1) H) ((δ.map Slot.tv).set i (.fr d)) σ (uni G G1) H where
  len := by rw [List.length_set, List.length_map]; exact W.len
  sub := uni_sub (W.sub.trans s0) s1
  ext := Sub.refl _
  new := fun a o e => .inl e
  frm := Sub.refl _
  stay := fun a h => by cases h
  nd := List.nodup_nil
  slot := fun j sl o h1 h2 => by
    rcases tv_set h1 with ⟨e, e2⟩ | ⟨_, s, hs, e⟩
    · subst e e2
      rw [hv] at h2
      cases h2
      exact ⟨v, rfl, Rep.sub (uni_r (W.sub.trans s0) s1) _ _ r⟩
    · subst e
      have q := W.slot j s o hs h2
      cases s with
      | un => trivial
      | bo _ => trivial
      | fr d => obtain ⟨v, e, r⟩ := q; exact ⟨v, e, Rep.sub uni_l _ _ r⟩
      | mu d => obtain ⟨p, e, _, _, _, r⟩ := q; exact ⟨_, e, BRep.sub uni_l s0 (BRep.mk r.v r.notup)⟩
      | mp j d => obtain ⟨p, e, _, _, _, r⟩ := q; exact ⟨_, e, BRep.sub uni_l s0 (BRep.mk r.v r.notup)⟩
      | bw d => obtain ⟨v, e, r⟩ := q; exact ⟨v, e, BRep.sub uni_l (W.frm.trans s0) r⟩
  apart := fun a b p h1 _ => by
    obtain ⟨sl, e1, e2, _⟩ := h1
    rcases tv_set e1 with ⟨_, e⟩ | ⟨_, s, _, e⟩
    · subst e; cases e2
    · subst e
      cases s <;> cases e2
def scs (ds : List D) : Option Unit := if ds.all scD = true then some () else none
end
end BR

/-! K29: a told thing's lists changed -/
namespace BR
open PySem PySem.Spec PyProof.Rows L2
/-- but one name nothing is known: it has the list of the caller's that may be changed -/
def dm (n ix : Nat) (l : List D) : List Slot := (List.replicate n Slot.un).set ix (.mp 0 (.lst l))
theorem dm_get {n ix i : Nat} {l : List D} {sl : Slot} (h : (dm n ix l)[i]? = some sl) : sl = .un ∨ (i = ix ∧ sl = .mp 0 (.lst l)) := by
  unfold dm at h
  by_cases hi : ix = i
  · subst hi
    by_cases hn : ix < n
    · rw [List.getElem?_set_self (by rw [List.length_replicate]; exact hn)] at h
      exact .inr ⟨rfl, (Option.some.inj h).symm⟩
    · rw [List.getElem?_eq_none (by rw [List.length_set, List.length_replicate]; omega)] at h; cases h
  · rw [List.getElem?_set_ne hi, List.getElem?_replicate] at h
    split at h
    · exact .inl (Option.some.inj h).symm
    · cases h
theorem dm_len {n ix : Nat} {l : List D} : (dm n ix l).length = n := by unfold dm; rw [List.length_set, List.length_replicate]
section
variable {X : Cx} {en : Kn} {R : Type}
/-- statements that change the name's list alone -/
def Spl (X : Cx) (en : Kn) (n ix : Nat) : List (Expr × Pos) → List D → Res (List D) → Prop
  | [], l, m => m = .ok l
  | e :: sts, l, m => swapsWith e.1 none e.2.line X.env = pure false ∧ ∀ en', KnP en en' → JE X en' (dm n ix l) [] e.1 (fun _ δ' m1 => ∃ l', δ' = dm n ix l' ∧ Spl X en n ix sts l' m1) m
def exs' (es : List (Expr × Pos)) : List Stmt := es.map fun e => .Expr e.1 e.2
abbrev Kn.alone (en : Kn) (G H : Hp) (a : Addr) : Kn := { n := en.n, G0 := G, F0 := hide H [a], ps := [a], HX := en.HX, h0 := en.h0 }
theorem Wd.alone {K : PySem.W.Frag} {n ix : Nat} {l : List D} {σ : L2.St} {G H : Hp} {a : Addr} (hn : en.n = n) (hσ : σ.length = n) (ha : σ[ix]? = some (some (.ref a))) (sg : Sub G H) (ga : G a = none) (r : MRep K G H (.lst l) a) :
    Wd K (en.alone G H a) (dm n ix l) σ G H where
  len := dm_len.trans hσ.symm
  sub := sg
  ext := Sub.refl _
  new := fun a o e => .inl e
  frm := hide_sub
  stay := fun b hb => by
    rw [List.mem_singleton.mp hb]
    obtain ⟨o, e⟩ := r.ex
    rw [e]; simp
  nd := by simp
  slot := fun i sl o h1 h2 => by
    rcases dm_get h1 with e | ⟨e, e2⟩
    · subst e; trivial
    · subst e e2
      rw [ha] at h2
      cases h2
      exact ⟨a, rfl, rfl, ga, hide_none List.mem_cons_self, r⟩
  apart := fun i j p h1 h2 => by
    obtain ⟨s1, e1, f1, _⟩ := h1
    obtain ⟨s2, e2, f2, _⟩ := h2
    rcases dm_get e1 with e | ⟨e, _⟩
    · subst e; cases f1
    · rcases dm_get e2 with e' | ⟨e', _⟩
      · subst e'; cases f2
      · rw [e, e']
/-- a told list of lists: all of them flat and short -/
def okL : D → Bool
  | .lst l => flDs l && decide (l.length < 1000)
  | _ => false
def chkL (d : D) : Option Unit := match d with
  | .lst ds => if ds.all okL = true ∧ ds.length < 9000 then some () else none
  | _ => none
variable {δ : List Slot} {N : List Slot → Res R → Prop} {RT : Slot → List Slot → Res R → Prop} {BK CT : List Slot → Res R → Prop} {m : Res R} {pos : Pos}
def lstF : D → Option (List D)
  | .lst l => if flDs l = true then some l else none
  | _ => none
def gF (g : D → List D → Option (D × D)) (l as : List D) : Option Unit := if flDs as = true ∧ (g (.lst l) as).isSome = true then some () else none
def ones' (n i : Nat) (d : D) : List Slot := (List.replicate n Slot.un).set i (.fr d)
end
end BR

/-! K34: pop of a told list behind a change of what is in it -/
namespace BR
open PySem PySem.Spec PyProof.Rows L2
section
variable {X : Cx} {en : Kn} {R : Type}
/-- of the told thing it is known that it is a list that has something -/
structure JPq (X : Cx) (en : Kn) (δ : List Slot) (i : Nat) (sts : List Stmt) {R : Type} (N : List Slot → Res R → Prop) (RT : Slot → List Slot → Res R → Prop) (BK CT : List Slot → Res R → Prop) (m : Res R) : Prop where
  run : m ≠ .bad → en.HX m.exc → ∀ (σ : L2.St) (G H0 H : Hp) (p : Addr) (ws : List V) (E : Ends), δ.length = en.n → σ[i]? = some (some (.ref p)) → H0 p = none → H p = some (.lst ws) → ws ≠ [] → Wd X.K en δ σ G H0 → Sub H0 H →
    (∀ δ' σ' G' H', N δ' m → δ'.length = en.n → Wd X.K en δ' σ' G' H' → E.nx σ' H') →
    (∀ sl δ' v σ' G' H', RT sl δ' m → δ'.length = en.n → Wd X.K en (δ' ++ [sl]) (σ' ++ [some v]) G' H' → E.rt v H') →
    (∀ δ' σ' G' H', BK δ' m → δ'.length = en.n → Wd X.K en δ' σ' G' H' → E.bk σ' H') →
    (∀ δ' σ' G' H', CT δ' m → δ'.length = en.n → Wd X.K en δ' σ' G' H' → E.ct σ' H') → WSs X sts E σ H
def neL : D → Option Unit
  | .lst (_ :: _) => some ()
  | _ => none
variable {δ : List Slot} {N : List Slot → Res R → Prop} {RT : Slot → List Slot → Res R → Prop} {BK CT : List Slot → Res R → Prop} {m : Res R} {pos : Pos}
end
end BR

/-! K35: try .. except X as e, what is caught tracked from there on -/
namespace BR
open PySem PySem.Spec PyProof.Rows L2
section
variable {X : Cx} {pins : List (Addr × Obj)} {σ : L2.St} {H : Hp} {sI s s' : Shared} {B : Heap}
end
section
variable {K : PySem.W.Frag} {en : Kn} {δ : List Slot} {σ : L2.St} {G H : Hp}
/-- an error's dict stands fast too -/
theorem Wd.addx {dd : Addr} {fs : List (Str × V)} (W : Wd K en δ σ G H) (e : H dd = some (.xd fs)) (f : en.F0 dd = none) (n : dd ∉ en.ps) : Wd K en δ σ (upd G dd (.xd fs)) H := by
  have gg : Sub G (upd G dd (.xd fs)) := fun a o q => by
    by_cases ha : a = dd
    · subst ha
      rw [W.sub a o q] at e
      rw [upd_same, e]
    · rw [upd_ne ha]; exact q
  have mn : ∀ {d : D} {p : Addr}, G p = none → MRep K G H d p → upd G dd (.xd fs) p = none := fun {d p} g r => by
    by_cases hp : p = dd
    · subst hp
      cases d <;> first | exact r.elim | skip
      · obtain ⟨_, z, _⟩ := r
        rw [e] at z; cases z
      · obtain ⟨_, z, _⟩ := r
        rw [e] at z; cases z
    · rw [upd_ne hp]; exact g
  exact {
    len := W.len
    sub := fun a o q => by
      by_cases ha : a = dd
      · subst ha
        rw [upd_same] at q
        rw [e]; exact q
      · rw [upd_ne ha] at q; exact W.sub a o q
    ext := W.ext.trans gg
    new := fun a o q => by
      by_cases ha : a = dd
      · subst ha; exact .inr ⟨f, n⟩
      · rw [upd_ne ha] at q; exact W.new a o q
    frm := W.frm
    stay := W.stay
    nd := W.nd
    slot := fun i sl o h1 h2 => by
      have q := W.slot i sl o h1 h2
      cases sl with
      | un => trivial
      | fr d => obtain ⟨v, e, r⟩ := q; exact ⟨v, e, Rep.sub gg _ _ r⟩
      | mu d =>
        obtain ⟨p, e, n, f, f2, r⟩ := q
        exact ⟨p, e, mn n r, f, f2, r.keep gg fun o e => e⟩
      | mp j d =>
        obtain ⟨p, e, f2, n, f, r⟩ := q
        exact ⟨p, e, f2, mn n r, f, r.keep gg fun o e => e⟩
      | bw d => obtain ⟨v, e, r⟩ := q; exact ⟨v, e, BRep.sub gg (Sub.refl _) r⟩
      | bo j => exact q
    apart := W.apart }
theorem Wd.caught {mg : Str → Option Value} {x : Exc} {cls : Value} {d : Option Addr} {C a : Addr} {oe : Obj} {vs : Array Value} (W : Wd K en δ σ G H) (eo : ExcOk mg en.F0 en.ps x cls d H) (gC : mg x.cls = some (.ref C)) (FC : ExcF K x.cls C)
    (na : H a = none) (hz : L2N.Zn cls d oe) (hv : oe.data = .fields vs) : cls = .ref C ∧ ∃ G2, Sub G G2 ∧ G2 a = some (ExO1 oe) ∧ Wd K en (δ ++ [.fr (.exc x.cls x.fs)]) (σ ++ [some (.ref a)]) G2 (upd H a (ExO1 oe)) := by
  obtain ⟨C', gC', rfl, hd⟩ := eo
  rw [gC] at gC'
  have eC : C = C' := Value.ref.inj (Option.some.inj gC')
  subst eC
  refine ⟨rfl, ?_⟩
  have key : ∀ {G1 : Hp}, Sub G G1 → Wd K en δ σ G1 H → ((x.fs = [] ∧ L2N.Zn (.ref C) none oe) ∨ ∃ dd, x.fs ≠ [] ∧ L2N.Zn (.ref C) (some dd) oe ∧ G1 dd = some (.xd (xfV x.fs))) → ∃ G2, Sub G G2 ∧ G2 a = some (ExO1 oe) ∧ Wd K en (δ ++ [.fr (.exc x.cls x.fs)]) (σ ++ [some (.ref a)]) G2 (upd H a (ExO1 oe)) := fun {G1} sg W1 hx => by
    have nG : G1 a = none := by
      cases q : G1 a with
      | none => rfl
      | some o => rw [W1.sub a o q] at na; cases na
    have gr : Grow G1 H (upd G1 a (ExO1 oe)) (upd H a (ExO1 oe)) := ⟨Sub.upd nG, Sub.upd na, fun b o q => by
      by_cases hba : b = a
      · subst hba; rw [upd_same] at q ⊢; exact q
      · rw [upd_ne hba] at q ⊢; exact W1.sub b o q, fun b o q => by
      by_cases hba : b = a
      · subst hba; exact .inr na
      · rw [upd_ne hba] at q; exact .inl q⟩
    have ex : ExAt G1 (upd G1 a (ExO1 oe)) C a x.fs := ⟨oe, vs, upd_same, hv, hx⟩
    exact ⟨upd G1 a (ExO1 oe), sg.trans gr.g, upd_same, W1.out (sl := .fr (.exc x.cls x.fs)) (v := .ref a) gr ⟨a, C, rfl, FC, ex.sub gr.g (Sub.refl _)⟩⟩
  rcases hd with ⟨h1, h2⟩ | ⟨h1, dd, h2, h3, h4, h5⟩
  · subst h2
    exact key (Sub.refl _) W (.inl ⟨h1, hz⟩)
  · subst h2
    have W1 := W.addx h3 h4 h5
    exact key (fun b o q => by
      by_cases hb : b = dd
      · subst hb
        rw [W.sub b o q] at h3
        rw [upd_same, h3]
      · rw [upd_ne hb]; exact q) W1 (.inr ⟨dd, h1, hz, upd_same⟩)
end
/-- what the clause wishes of an error of the body: it is of the clause's class, the suite runs with it tracked -/
def wKept (K : PySem.W.Frag) (c : Value) (i : Nat) (ts : Addr → TS) (D : Ends) : WX := fun cls d σ H =>
  PySem.W.exmOne K cls c = some true ∧ ∀ a oe vs, H a = none → L2N.Zn cls d oe → oe.data = .fields vs → ts a { nx := fun σ' H' => D.nx (σ'.set i none) H', rt := D.rt, bk := fun σ' H' => D.bk (σ'.set i none) H', ct := fun σ' H' => D.ct (σ'.set i none) H' } (σ.set i (some (.ref a))) (upd H a (ExO1 oe))
section
variable {X : Cx} {x n : Str} {c : Value} {i : Nat} {body suite : List Stmt} {b₀ : Stmt} {np pos pos' : Pos} {tb : WX → TS} {ts : Addr → TS}
end
end BR

/-! K36: raise, try around one call, isinstance of what is caught -/
namespace BR
open PySem PySem.Spec PyProof.Rows L2
/-! ### a call at known slots -/
section
variable {X : Cx} {k : Nat} {f : Addr} {fd : FuncData} {ps : List Str} {sp : Sp} {x : Str} {p pos : Pos} {e : Expr} {es : List Expr} {t : TA} {E : L2.St → XK}
end
/-- names as arguments -/
def tIs : List Nat → TA
  | [] => tNil
  | i :: is => tCons (tVar i) (tIs is)
def AN (δ : List Slot) : List Nat → List D → Prop
  | [], [] => True
  | i :: is, d :: ds => (∃ s, δ[i]? = some s ∧ s.rdp = some d) ∧ AN δ is ds
  | _, _ => False
/-! ### what is tried -/
def tryR {α S : Type} (cs : List Str) (m : Res α) (okf : α → S) (h : Str → List (Str × Option Int) → Res S) : Res S := match m with
  | .ok a => .ok (okf a)
  | .raise x => if x.cls ∈ cs then h x.cls x.fs else .bad
  | .bad => .bad
/-- what is known of the classes that may be caught by the class cv -/
def Catch (K : PySem.W.Frag) (mg : Str → Option Value) (cv : Value) (cs : List Str) : Prop := ∀ c, c ∈ cs → ∃ C, mg c = some (.ref C) ∧ ExcF K c C ∧ PySem.W.exmOne K (.ref C) cv = some true
section
variable {X : Cx} {en : Kn} {δ : List Slot} {R : Type} {m : Res R} {N : List Slot → Res R → Prop} {RT : Slot → List Slot → Res R → Prop} {BK CT : List Slot → Res R → Prop} {rest : List Stmt}
/-! ### raise -/
/-- what is known of a class of error that is raised -/
def Raise (K : PySem.W.Frag) (mg : Str → Option Value) (c : Str) : Prop := ∃ C, mg c = some (.ref C) ∧ PySem.W.excIn K C [.type "ValueError", .type "Exception", .type "BaseException", .type "object"] "ValueError.__new__" = true ∧ PySem.W.keepIn K (.ref C) = true ∧
  PySem.W.subIn K (.ref C) (.type "BaseException") = some true ∧ PySem.W.typeIn K (.ref C) = some (.type "type")
end
/-! ### isinstance -/
/-- of what is caught -/
def isE (cs ts : List Str) : D → Option Bool
  | .exc c xf => if c ∈ cs then some (ts.any (subE c)) else none
  | _ => none
def KitF (K : PySem.W.Frag) (mg : Str → Option Value) (cs : List Str) (t : Str) : Prop := ∃ E, mg t = some (.ref E) ∧ ∀ c, c ∈ cs → ∀ C, PySem.W.nsIn K mainGlobals c = some (some (.ref C)) → PySem.W.kitOne K (.ref C) (.ref E) = some (subE c t)
def KitV (K : PySem.W.Frag) (cs : List Str) : Prop := ∀ c, c ∈ cs → ∀ C, PySem.W.nsIn K mainGlobals c = some (some (.ref C)) → PySem.W.kitOne K (.ref C) (.type "ValueError") = some true
/-- class names in a tuple -/
def NmE (X : Cx) : List Str → List Expr → Prop
  | [], [] => True
  | t :: ts, .Name x _ :: es => x = t ∧ Gl X t ∧ (t == ("__debug__" : Str)) = false ∧ NmE X ts es
  | _, _ => False
def tCs : List V → TA
  | [] => tNil
  | v :: vs => tCons (tC v) (tCs vs)
section
variable {X : Cx} {en : Kn} {δ τ : List Slot} {R : Type} {C : Slot → List Slot → Res R → Prop} {m : Res R}
end
/-! ### the first place of a truth -/
def indexD : List D → Option D
  | [.lst ds, .bl k] => (bls ds).bind fun bs => (bs.findIdx? fun b => b == k).map fun j => .int (j : Nat)
  | _ => none
end BR

/-! K37: try around a body of choices between calls -/
namespace BR
open PySem PySem.Spec PyProof.Rows L2
/-- never an error -/
def NR {α : Type} (m : Res α) : Prop := ∀ x, m ≠ .raise x
/-- names as arguments, read or standing fast -/
def AK (δ : List Slot) : List Kd → List Nat → List D → Prop
  | [], [], [] => True
  | .b :: ks, i :: is, d :: ds => (∃ s, δ[i]? = some s ∧ s.rdp = some d) ∧ AK δ ks is ds
  | .f :: ks, i :: is, d :: ds => δ[i]? = some (.fr d) ∧ AK δ ks is ds
  | _, _, _ => False
/-- a body that is tried -/
structure JB (X : Cx) (en : Kn) (δ : List Slot) (body : List Stmt) {S : Type} (pB : S → List Slot) (m : Res S) : Prop where
  run : m ≠ .bad → ∀ (WW : WX) (pn : List (Addr × Obj)) (xe : Value → Shared → Prop), L2N.Takes (X.tr pn xe) WW → ∀ (σ : L2.St) (G H : Hp) (E : Ends), δ.length = en.n → Wd X.K en δ σ G H →
    (∀ a, m = .ok a → ∀ σ' G' H', (pB a).length = en.n → Wd X.K en (pB a) σ' G' H' → E.nx σ' H') →
    (∀ x, m = .raise x → ∀ cls d G' H', ExcOk X.mg en.F0 en.ps x cls d H' → Wd X.K en δ σ G' H' → WW cls d σ H') → WSs (X.tr pn xe) body E σ H
section
variable {X : Cx} {en : Kn} {δ : List Slot} {R : Type} {m : Res R} {N : List Slot → Res R → Prop} {RT : Slot → List Slot → Res R → Prop} {BK CT : List Slot → Res R → Prop} {rest : List Stmt}
end
end BR

/-! K38: a list said over, as an own new one -/
namespace BR
open PySem PySem.Spec PyProof.Rows L2
def mulT (a b : D) : Option (List D) := match a, b with
  | .lst xs, .int k => if -(2 ^ 63) ≤ k ∧ k < 2 ^ 63 ∧ xs.length * k.toNat ≤ sizeLine then some (repD xs k) else none
  | _, _ => none
section
variable {X : Cx} {en : Kn} {δ τ : List Slot} {R : Type} {C : Slot → List Slot → Res R → Prop} {m : Res R}
end
end BR

/-! K39: an expression that only reads: what is this def's own is read like the caller's, and is as it was behind it -/
namespace BR
open PySem PySem.Spec PyProof.Rows L2
def Slot.shd : Slot → Slot
  | .fr d => .fr d
  | .bw d => .bw d
  | .mu d => .bw d
  | .mp _ d => .bw d
  | _ => .un
def Kn.shl (en : Kn) (G H : Hp) : Kn := { en with G0 := G, F0 := H, ps := [] }
structure KnSh (X : Cx) (en en' : Kn) : Prop where
  n : en'.n = en.n
  lk : Lk X en → Lk X en'
section
variable {X : Cx} {en : Kn} {δ τ : List Slot} {R : Type} {C : Slot → List Slot → Res R → Prop} {m : Res R}
end
end BR

/-! K40: [.. for a, b in d.items() ..] over a dict that is read alone, its things and what else is read being plain ones -/
namespace BR
open PySem PySem.Spec PyProof.Rows L2
/-- a thing that lies in no heap -/
def sclD : D → Bool
  | .non => true
  | .bl _ => true
  | .int _ => true
  | .str _ => true
  | _ => false
theorem sclD.brep {K : PySem.W.Frag} {G F G' : Hp} {d : D} {v : V} (h : sclD d = true) (r : BRep K G F d v) : Rep K G' d v := by
  obtain ⟨⟨M, _, r⟩, _⟩ := r
  cases d <;> first | exact r | cases h
def kD : Key → D
  | .inl i => .int i
  | .inr s => .str s
theorem kD_rep {K : PySem.W.Frag} {G : Hp} {k : Key} : Rep K G (kD k) (kV k) := by
  cases k <;> rfl
def itmD (d : D) (ns : List D) : Option (List D) := match d with
  | .dic kvs => if (kvs.all fun p => sclD p.2) = true ∧ ns.all sclD = true then some (kvs.map fun p => .tup [kD p.1, p.2]) else none
  | _ => none
/-- the names that are read within -/
def PS : List Slot → List Slot → List D → Prop
  | [], [], _ => True
  | s :: r, t :: q, ns => (t = .un ∨ ∃ d, t = .fr d ∧ s.rdp = some d ∧ d ∈ ns) ∧ PS r q ns
  | _, _, _ => False
theorem PS.len : ∀ {δ δ2 : List Slot} {ns : List D}, PS δ δ2 ns → δ2.length = δ.length
  | [], [], _, _ => rfl
  | _ :: _, _ :: _, _, h => by rw [List.length_cons, List.length_cons, PS.len h.2]
  | [], _ :: _, _, h => h.elim
  | _ :: _, [], _, h => h.elim
theorem PS.at : ∀ {δ δ2 : List Slot} {ns : List D} {i : Nat} {t : Slot}, PS δ δ2 ns → δ2[i]? = some t → t = .un ∨ ∃ d s, t = .fr d ∧ δ[i]? = some s ∧ s.rdp = some d ∧ d ∈ ns
  | [], [], _, _, _, _, e => by simp at e
  | s :: r, t :: q, ns, 0, t', h, e => by
    have : t = t' := by simpa using e
    subst this
    rcases h.1 with z | ⟨d, z1, z2, z3⟩
    · exact .inl z
    · exact .inr ⟨d, s, z1, rfl, z2, z3⟩
  | s :: r, t :: q, ns, i + 1, t', h, e => by
    rcases PS.at (i := i) h.2 (by simpa using e) with z | ⟨d, s', z1, z2, z3, z4⟩
    · exact .inl z
    · exact .inr ⟨d, s', z1, by simpa using z2, z3, z4⟩
  | [], _ :: _, _, _, _, h, _ => h.elim
  | _ :: _, [], _, _, _, h, _ => h.elim
def Kn.sole (en : Kn) (H : Hp) : Kn := { en with G0 := fun _ => none, F0 := H, ps := [] }
theorem Wd.sole {K : PySem.W.Frag} {en : Kn} {δ δ2 : List Slot} {σ : L2.St} {G H H1 : Hp} {ns : List D} (W : Wd K en δ σ G H) (hp : PS δ δ2 ns) (hs : ns.all sclD = true) : Wd K (en.sole H1) δ2 σ (fun _ => none) H1 where
  len := hp.len.trans W.len
  sub := fun a o e => by cases e
  ext := Sub.refl _
  new := fun a o e => by cases e
  frm := Sub.refl _
  stay := fun a h => by cases h
  nd := List.nodup_nil
  slot := fun i sl o h1 h2 => by
    rcases hp.at h1 with rfl | ⟨d, s, rfl, h3, h4, h5⟩
    · trivial
    · obtain ⟨o', h6, h7⟩ := W.at h3
      rw [h2] at h6; cases h6
      obtain ⟨v, e, r⟩ := SlotOk.bread W.sub W.frm h7 h4
      exact ⟨v, e, sclD.brep (List.all_eq_true.mp hs d h5) r⟩
  apart := fun i j p h1 h2 => by
    obtain ⟨sl, e1, e2, e3⟩ := h1
    rcases hp.at e1 with rfl | ⟨d, s, rfl, _, _, _⟩ <;> cases e2
theorem repks_at {K : PySem.W.Frag} {G : Hp} : ∀ {kvs : List (Key × D)} {kv : List (Key × V)} {i : Nat} {k : Key} {d : D}, RepKs K G kvs kv → kvs[i]? = some (k, d) → ∃ v, kv[i]? = some (k, v) ∧ Rep K G d v
  | [], _, i, k, d, _, e => by simp at e
  | (k', d') :: r, _, 0, k, d, h, e => by
    obtain ⟨v, q, rfl, h1, h2⟩ := h
    have : (k', d') = (k, d) := by simpa using e
    cases this
    exact ⟨v, rfl, h1⟩
  | (k', d') :: r, _, i + 1, k, d, h, e => by
    obtain ⟨v, q, rfl, h1, h2⟩ := h
    obtain ⟨v', h3, h4⟩ := repks_at (i := i) h2 (by simpa using e)
    exact ⟨v', by simpa using h3, h4⟩
theorem repks_len {K : PySem.W.Frag} {G : Hp} : ∀ {kvs : List (Key × D)} {kv : List (Key × V)}, RepKs K G kvs kv → kv.length = kvs.length
  | [], kv, h => by
    have h : kv = [] := h
    rw [h]; rfl
  | (k, d) :: r, _, h => by
    obtain ⟨v, q, rfl, _, h2⟩ := h
    rw [List.length_cons, List.length_cons, repks_len h2]
section
variable {X : Cx} {en : Kn} {δ τ : List Slot} {R : Type} {C : Slot → List Slot → Res R → Prop} {m : Res R}
end
end BR

/-! K41: dict(a list of pairs) -/
namespace BR
open PySem PySem.Spec PyProof.Rows L2
def prsD : List D → Option (List (Key × D))
  | [] => some []
  | .tup [a, b] :: r => match keyD a, prsD r with
    | some k, some q => some ((k, b) :: q)
    | _, _ => none
  | _ => none
def dctT : List D → Option (List (Key × D))
  | [.lst ds] => (prsD ds).map fun q => mergeD [] q
  | _ => none
def kM {R : Type} (k : List (Key × D) → Res R) : D → Res R
  | .dic q => k q
  | _ => .bad
section
variable {X : Cx} {en : Kn} {δ τ : List Slot} {R : Type} {C : Slot → List Slot → Res R → Prop} {m : Res R}
end
end BR

/-! K42: beside a told thing that is to be changed: other things told, and a choice that goes on -/
namespace BR
open PySem PySem.Spec PyProof.Rows L2
section
variable {X : Cx} {en : Kn} {R : Type} {δ : List Slot} {N : List Slot → Res R → Prop} {RT : Slot → List Slot → Res R → Prop} {BK CT : List Slot → Res R → Prop} {m : Res R} {pos : Pos}
/-- what is tracked but for what was told -/
def beside (H H0 H2 : Hp) : Hp := fun a => match H a with
  | none => H2 a
  | some _ => H0 a
end
end BR

/-! K43: a op b op c as a test -/
namespace BR
open PySem PySem.Spec PyProof.Rows L2
section
variable {X : Cx} {en : Kn} {R : Type} {δ τ : List Slot} {m : Res R} {pos : Pos}
end
end BR

/-! K44: x in a list of lists; the sum of a tuple of ints -/
namespace BR
open PySem PySem.Spec PyProof.Rows L2
def inLD (a b : D) : Option Bool := match b with
  | .lst ds => if SeqAt.shaped (toP a) = true ∧ SeqAt.shaped (toP (.lst ds)) = true then some ((toPs ds).any fun z => PyData.eqv z (toP a)) else none
  | _ => none
section
variable {X : Cx}
def sumX : List D → Option D
  | [.lst ds] => (intsD ds).map fun ns => .int ns.sum
  | [.tup ds] => (intsD ds).map fun ns => .int ns.sum
  | _ => none
end
end BR

/-! K45: max of three; or by truth; a fresh list given to be changed; own lists read as if they stood fast; walks over a display of own lists -/
namespace BR
open PySem PySem.Spec PyProof.Rows L2
section
variable {X : Cx} {en : Kn} {δ τ : List Slot} {R : Type} {C : Slot → List Slot → Res R → Prop} {m : Res R}
/-! ### max of three -/
def max3D : List D → Option D
  | [.int a, .int b, .int c] => some (.int (if c > (if b > a then b else a) then c else (if b > a then b else a)))
  | _ => none
/-! ### or by truth -/
/-! ### a fresh list given to be changed -/
end
/-! ### own lists read as if they stood fast; the answer is a plain one -/
def scT : D → Option Unit
  | .non => some ()
  | .bl _ => some ()
  | .int _ => some ()
  | .str _ => some ()
  | _ => none
def Slot.thw : Slot → Slot
  | .fr d => .fr d
  | .bw d => .fr d
  | .mu d => .fr d
  | .mp _ d => .fr d
  | _ => .un
def Slot.top : Slot → Bool
  | .bw _ => true
  | .mu _ => true
  | .mp _ _ => true
  | _ => false
/-- a thing's top, an instance's dict and its own lists -/
def Rch (H : Hp) (b a : Addr) : Prop := a = b ∨ ∃ C dx vs, H b = some (.ins C dx vs) ∧ (a = dx ∨ ∃ f, (f, V.ref a) ∈ vs)
open Classical in
/-- what stands fast, and the tops of all names' things -/
noncomputable def thwG (δ : List Slot) (σ : L2.St) (G H : Hp) : Hp := fun a => if ∃ (i : Nat) (sl : Slot) (b : Addr), δ[i]? = some sl ∧ sl.top = true ∧ σ[i]? = some (some (V.ref b)) ∧ Rch H b a then H a else G a
noncomputable def Kn.thw (en : Kn) (δ : List Slot) (σ : L2.St) (G H : Hp) : Kn := { en with G0 := thwG δ σ G H, F0 := H, ps := [] }
section
variable {K : PySem.W.Frag} {en : Kn} {δ : List Slot} {σ : L2.St} {G H : Hp}
theorem MRep.thw {G2 : Hp} (sg : Sub G G2) : ∀ {d : D} {p : Addr}, MRep K G H d p → G2 p = H p → Rep K G2 d (.ref p)
  | .lst ds, p, h, k => by obtain ⟨vs, e, r⟩ := h; exact ⟨p, vs, rfl, by rw [k]; exact e, Reps.sub sg _ _ r⟩
  | .dic ds, p, h, k => by obtain ⟨vs, e, r⟩ := h; exact ⟨p, vs, rfl, by rw [k]; exact e, RepKs.sub sg _ _ r⟩
  | .non, _, h, _ => h.elim
  | .bl _, _, h, _ => h.elim
  | .int _, _, h, _ => h.elim
  | .str _, _, h, _ => h.elim
  | .tup _, _, h, _ => h.elim
  | .scr _, _, h, _ => h.elim
  | .exc _ _, _, h, _ => h.elim
  | .obj _ _, _, h, _ => h.elim
end
section
variable {X : Cx} {en : Kn} {δ τ : List Slot} {R : Type} {C : Slot → List Slot → Res R → Prop} {m : Res R}
end
/-! ### a display of lists that are read alone, walked -/
def bws : List Slot → Option (List D)
  | [] => some []
  | .bw d :: r => (bws r).map (d :: ·)
  | _ :: _ => none
def BReps (K : PySem.W.Frag) (G F : Hp) : List D → List V → Prop
  | [], vs => vs = []
  | d :: ds, vs => ∃ v r, vs = v :: r ∧ BRep K G F d v ∧ BReps K G F ds r
section
variable {K : PySem.W.Frag} {en : Kn} {G G' H F : Hp}
theorem BReps.len : ∀ {ds : List D} {vs : List V}, BReps K G F ds vs → ds.length = vs.length
  | [], _, h => by rw [show _ = [] from h]; rfl
  | d :: ds, _, h => by
    obtain ⟨v, r, e, _, h2⟩ := h
    rw [e, List.length_cons, List.length_cons, BReps.len h2]
theorem BReps.get : ∀ {ds : List D} {vs : List V} {i : Nat} {d : D}, BReps K G F ds vs → ds[i]? = some d → ∃ v, vs[i]? = some v ∧ BRep K G F d v
  | [], _, _, _, _, e => by simp at e
  | d :: ds, _, 0, _, h, e => by
    obtain ⟨v, r, e', h1, _⟩ := h
    subst e'
    simp at e; subst e
    exact ⟨v, rfl, h1⟩
  | d :: ds, _, i + 1, _, h, e => by
    obtain ⟨v, r, e', _, h2⟩ := h
    subst e'
    obtain ⟨u, h3, h4⟩ := BReps.get (i := i) h2 (by simpa using e)
    exact ⟨u, by simpa using h3, h4⟩
end
section
variable {X : Cx} {en : Kn} {δ τ : List Slot} {R : Type} {C : Slot → List Slot → Res R → Prop} {m : Res R}
def ItB (K : PySem.W.Frag) (J : It) (Gb Fb : Hp) (ds : List D) : Prop := ∀ (G H : Hp), Sub Gb G → Sub Fb H → Sub G H → ∀ i : Nat,
  (∀ d, ds[i]? = some d → J.go i H ∧ ∀ x H', J.yld i H x H' → ∃ G', Grow G H G' H' ∧ BRep K G' Fb d x) ∧ (ds.length ≤ i → J.stop i H)
structure JIb (X : Cx) (en : Kn) (δ τ : List Slot) (tg iter : Expr) {R : Type} (C : List D → List Slot → Res R → Prop) (m : Res R) : Prop where
  run : m ≠ .bad → en.HX m.exc → ∀ (σ ts : L2.St) (G H : Hp) (T : It → Hp → Prop), δ.length = en.n → σ.length = en.n → Wd X.K en (δ ++ τ) (σ ++ ts) G H →
    (∀ ds δ' J G' H', C ds δ' m → δ'.length = en.n → Wd X.K en (δ' ++ τ) (σ ++ ts) G' H' → ItB X.K J G' en.F0 ds → T J H') → WI X tg iter σ H T
theorem BReps.sub {K : PySem.W.Frag} {G G' F F' : Hp} (g : Sub G G') (f : Sub F F') : ∀ {ds : List D} {vs : List V}, BReps K G F ds vs → BReps K G' F' ds vs
  | [], _, h => h
  | _ :: _, _, h => by
    obtain ⟨v, r, e, h1, h2⟩ := h
    exact ⟨v, r, e, BRep.sub g f h1, BReps.sub g f h2⟩
/-- one item's block: the name is the item's, read alone -/
def TurnB (X : Cx) (scope : Scope) (en : Kn) (δw τ : List Slot) (tg elt : Expr) (ix : Nat) (d : D) (m : Res D) : Prop :=
  AllB X scope fun Y => (∀ (v : V) (σ : L2.St) (H : Hp) (Q : L2.St → Hp → Prop), Q (σ.set ix (some v)) H → WG Y tg v σ H Q) ∧ JE Y en (δw.set ix (.bw d)) τ elt (fun s δ3 m3 => ∃ y, s = .fr y ∧ m3 = .ok y ∧ Le (wipeS δ3 [ix]) δw ∧ noBo δ3 = true) m
theorem JIb.conv {tg iter : Expr} {C C' : List D → List Slot → Res R → Prop} (h : JIb X en δ τ tg iter C m) (k : ∀ ds δ', C ds δ' m → C' ds δ' m) : JIb X en δ τ tg iter C' m := .mk fun hb hx σ ts G H T hl hσ W q =>
  h.run hb hx σ ts G H T hl hσ W fun ds δ' J G' H' c hl' W' it => q ds δ' J G' H' (k _ _ c) hl' W' it
/-! ### a loop over a display of own lists, changed each -/
def ForN (X : Cx) (en : Kn) (ix : Nat) (e : Expr) {R : Type} (N : List Slot → Res R → Prop) (m : Res R) : List Nat → List Slot → Prop
  | [], δ => N δ m
  | i :: is, δ => ∃ δ', δ.set ix (.bo i) = δ' ∧ JE X en δ' [] e (fun _ δ1 m1 => ∃ δ2, Le δ1 δ2 ∧ noBo δ2 = true ∧ ForN X en ix e N m1 is δ2) m
end
end BR

/-! K46: defs called while an error is handled -/
namespace BR
open PySem PySem.Spec PyProof.Rows L2

/-! ### the end of a walk there -/
section
variable {prog : Program} {w : World} {A : Around} {E : Value → Shared → Prop} {s : Shared}
end
/-- the error that is handled is tracked, its context None -/
def HotH (X : Cx) (H : Hp) : Prop := ∃ (a : Addr) (oe : Obj) (vs : Array Value), X.A.handled = some (.ref a) ∧ H a = some (ExO1 oe) ∧ oe.data = .fields vs ∧ vs[2]? = some .none
theorem HotH.at {X : Cx} {pins : List (Addr × Obj)} {σ : L2.St} {H : Hp} {s : Shared} (h : HotH X H) (I : Inv X pins σ H s) : ∃ x1, HotX.HotAt X.A x1 s.heap := by
  obtain ⟨a, oe, vs, h1, h2, h3, h4⟩ := h
  have := (show ObjOk X.prog X.w H s.heap a (ExO1 oe) from I.hok a _ h2).1
  exact ⟨a, h1, oe, vs, this, h3, h4⟩
theorem HotH.sub {X : Cx} {H H' : Hp} (h : HotH X H) (s : Sub H H') : HotH X H' := by
  obtain ⟨a, oe, vs, h1, h2, h3, h4⟩ := h
  exact ⟨a, oe, vs, h1, s _ _ h2, h3, h4⟩
/-! ### a tuple taken apart there -/
section
variable {X : Cx} {pos : Pos}
end
section
variable {X : Cx} {en : Kn} {δ τ : List Slot} {R : Type} {m : Res R} {N : List Slot → Res R → Prop}
/-- .. from a def's entry on -/
def HotK (X : Cx) (en : Kn) : Prop := HotH X en.G0
theorem HotK.of (h : HotK X en) {Δ : List Slot} {S : L2.St} {G H : Hp} (W : Wd X.K en Δ S G H) : HotH X H := HotH.sub (HotH.sub h W.ext) W.sub
end
end BR

/-! K47: comprehensions and defs while an error is handled -/
namespace BR
open PySem PySem.Spec PyProof.Rows L2
def HotV (hd : Option Value) (H : Hp) : Prop := ∃ (a : Addr) (oe : Obj) (vs : Array Value), hd = some (.ref a) ∧ H a = some (ExO1 oe) ∧ oe.data = .fields vs ∧ vs[2]? = some .none
theorem HotV.sub {hd : Option Value} {H H' : Hp} (h : HotV hd H) (s : Sub H H') : HotV hd H' := by
  obtain ⟨a, oe, vs, h1, h2, h3, h4⟩ := h
  exact ⟨a, oe, vs, h1, s _ _ h2, h3, h4⟩
theorem HotV.at {X : Cx} {pins : List (Addr × Obj)} {σ : L2.St} {H : Hp} {s : Shared} (h : HotV X.A.handled H) (I : Inv X pins σ H s) : ∃ x1, HotX.HotAt X.A x1 s.heap := HotH.at (X := X) h I

structure TurnK (P : Program) (w : World) (K : PySem.W.Frag) (tg : Expr) (J : It) (fp : List Addr) (it : Addr) (tn : Nat → Heap → Prop) : Prop where
  mem : it ∈ fp
  obj : ∀ i h, tn i h → ∀ b ∈ fp, ∃ o, h.get? b = some o ∧ ∀ v, o.data ≠ .cell v
  keep : ∀ i h h', tn i h → (∀ b ∈ fp, ∀ o, h.get? b = some o → h'.get? b = some o) → tn i h'
  item : ∀ (X : Cx), X.prog = P → X.w = w → X.K = K → ∀ (i : Nat) (pins : List (Addr × Obj)) (s : Shared) (σ : L2.St) (H : Hp) (E : Value → Shared → Prop), Inv X pins σ H s → (∀ b ∈ fp, FpOk X pins H b) → tn i s.heap → J.go i H →
    wpAny (model P w) X.A (pyNext (.ref it)) (fun r s1 => ∃ u, r = some u ∧
      wpAny (model P w) X.A (letOwnedTupleGo tg (.ref it) u) (fun _ s2 => ∃ x H', Inv X pins σ H' s2 ∧ RelV x u ∧ J.yld i H x H' ∧ tn (i + 1) s2.heap ∧ ∀ b ∈ fp, H' b = none) E s1) E s
  done : ∀ (X : Cx), X.prog = P → X.w = w → X.K = K → ∀ (i : Nat) (pins : List (Addr × Obj)) (s : Shared) (σ : L2.St) (H : Hp) (E : Value → Shared → Prop), Inv X pins σ H s → (∀ b ∈ fp, FpOk X pins H b) → tn i s.heap → J.stop i H → HotV X.A.handled H →
    wpAny (model P w) X.A (pyNext (.ref it)) (fun r s1 => r = none ∧ Inv X pins σ H s1) E s
  self : ∀ (A : Around) (i : Nat) (s : Shared) (Q : Value → Shared → Prop) (E : Value → Shared → Prop), tn i s.heap → Q (.ref it) s → wpAny (model P w) A (pyIter (.ref it)) Q E s

def PIEK (X : Cx) (pins : List (Addr × Obj)) (σ : L2.St) (tg : Expr) (R : It → Hp → Prop) (itv : Value) (s2 : Shared) : Prop :=
  ∃ (it : Addr) (fp : List Addr) (tn : Nat → Heap → Prop) (J : It) (H' : Hp), itv = .ref it ∧ Inv X pins σ H' s2 ∧ TurnK X.prog X.w X.K tg J fp it tn ∧ tn 0 s2.heap ∧ (∀ b ∈ fp, FpOk X pins H' b) ∧ R J H'
structure PIK (X : Cx) (tg iter : Expr) (wi : TI) : Prop where
  run : ∀ (pins : List (Addr × Obj)) (s : Shared) (σ : L2.St) (H : Hp) (R : It → Hp → Prop), Inv X pins σ H s → wi σ H R →
    wpAny (model X.prog X.w) X.A (eval iter X.env) (fun v s1 => wpAny (model X.prog X.w) X.A (pyIter v) (PIEK X pins σ tg R) X.xe s1) X.xe s
abbrev WIK (X : Cx) (tg iter : Expr) : TI := fun σ H R => ∀ (pins : List (Addr × Obj)) (s : Shared), Inv X pins σ H s →
  wpAny (model X.prog X.w) X.A (eval iter X.env) (fun v s1 => wpAny (model X.prog X.w) X.A (pyIter v) (PIEK X pins σ tg R) X.xe s1) X.xe s
structure JIK (X : Cx) (en : Kn) (δ τ : List Slot) (tg iter : Expr) {R : Type} (C : List D → List Slot → Res R → Prop) (m : Res R) : Prop where
  run : m ≠ .bad → en.HX m.exc → ∀ (σ ts : L2.St) (G H : Hp) (T : It → Hp → Prop), δ.length = en.n → σ.length = en.n → Wd X.K en (δ ++ τ) (σ ++ ts) G H →
    (∀ ds δ' J G' H', C ds δ' m → δ'.length = en.n → Wd X.K en (δ' ++ τ) (σ ++ ts) G' H' → ItD X.K J G' en.F0 ds → T J H') → WIK X tg iter σ H T

theorem JIK.conv {X : Cx} {en : Kn} {δ τ : List Slot} {tg iter : Expr} {R : Type} {C C' : List D → List Slot → Res R → Prop} {m : Res R} (h : JIK X en δ τ tg iter C m) (k : ∀ ds δ1, C ds δ1 m → C' ds δ1 m) : JIK X en δ τ tg iter C' m := .mk fun hb hx σ ts G H T hl hσ W q =>
  h.run hb hx σ ts G H T hl hσ W fun ds δ1 J G1 H1 c => q ds δ1 J G1 H1 (k ds δ1 c)
def tLcK (hd : Option Value) (wi : TI) (g : TG) (tt : TT) (te : TE) (vs : List Nat) : TE := fun σ H Q => wi σ H fun J H1 => ∀ D, H1 D = none → ∃ W : Nat → Nat → Hp → Prop, (∃ m, W 0 m (upd H1 D (.lst []))) ∧ ∀ i m H, W i m H →
  (J.stop i H ∧ HotV hd H ∧ Q (.ref D) H) ∨ (J.go i H ∧ ∃ Nx : Hp → Prop, (∀ H', Nx H' → ∃ m', m' < m ∧ W (i + 1) m' H') ∧ ∀ x H', J.yld i H x H' → g x (wipe σ vs) H' fun σ2 H2 => wipe σ2 vs = wipe σ vs ∧ tt σ2 H2 fun b H3 =>
    if b = true then te σ2 H3 fun y H4 => ∃ acc, H4 D = some (.lst acc) ∧ acc.length < sizeLine ∧ Nx (upd H4 D (.lst (acc ++ [y]))) else Nx H3)
section
variable {X : Cx} {en : Kn} {δ τ : List Slot} {R : Type} {C : Slot → List Slot → Res R → Prop} {m : Res R} {K : PySem.W.Frag}

end


/-! ### defs called there -/
structure RoomK (k : Nat) (A : Around) : Prop where
  dp : A.depth + 3 * k + 5 < recursionLimit
  un : A.units + 16 * k + 200 < cLine
  g : A.guards = some []
theorem RoomK.mono {j k : Nat} {A : Around} (r : RoomK k A) (h : j ≤ k) : RoomK j A := ⟨by have := r.dp; omega, by have := r.un; omega, r.g⟩
theorem RoomK.hu {k : Nat} {A : Around} (h : RoomK k A) : A.units + 64 < cLine := by
  have := h.un
  omega
theorem RoomK.depth {k : Nat} {A : Around} (r : RoomK k A) : A.depth < recursionLimit := by have := r.dp; omega
theorem RoomK.deeper {k : Nat} {A : Around} (r : RoomK (k + 1) A) (env : Env) : RoomK k (A.deeper env) :=
  ⟨by have := r.dp; show A.depth + 1 + 3 * k + 5 < _; omega, by have := r.un; show A.units + 3 + 16 * k + 200 < _; omega, r.g⟩
/-- the context of such a def's body -/
abbrev cxK (CX : CXT) (P : Program) (w : World) (K : PySem.W.Frag) (mg : Str → Option Value) (base : Heap) (N : List Str) (qual : Str) (scope : Scope) (f : Addr) (cd : Value) (A : Around) (outer : List Env) (s : Shared) (H : Hp) (E : XK) : Cx :=
  { cxOf CX P w K mg base N qual scope f cd A outer s H E with calm := false }

/-- a def keeps its promise there -/
structure FnGH (P : Program) (w : World) (K : PySem.W.Frag) (mg : Str → Option Value) (base : Heap) (k : Nat) (f : Addr) (fd : FuncData) (ps : List Str) (sp : Option Value → Sp) : Prop where
  len : ∀ hd vs H Q E, sp hd vs H Q E → vs.length = ps.length
  run : ∀ (A : Around) (outer : List Env) (s : Shared) (H : Hp) (args : Args) (us : List Value) (vs : List V) (Q : VK) (E : XK),
    RoomK k A → Env0 P w K mg base A outer s H → BindsTo s fd args (ps.zip us) → Vals vs us → sp A.handled vs H Q E →
    codeAny (model P w) A (.call (.ref f) args) (CR (L2N.CX P w) outer P w H s Q E) s
section
variable {P : Program} {w : World} {K : PySem.W.Frag} {mg : Str → Option Value} {base : Heap}

def SpDH (K : PySem.W.Frag) (mg : Str → Option Value) (ks : List Kd) {α : Type} (f : List D → Res α) (val : α → D) (outs : α → List D) (mu : Bool) (hd : Option Value) : Sp := fun vs H Q E =>
  vs.length = ks.length ∧ ∃ (G : Hp) (ps : List Addr) (ds : List D) (r : Res α), Sub G H ∧ ps.Nodup ∧ ArgsOk K G H (hide H ps) ks ds vs ps ∧ f ds = r ∧ r ≠ .bad ∧ HotV hd G ∧
    (∀ a, r = .ok a → ∀ v G' H', Post G H G' H' ps → OutsOk K G' H' (outs a) ps → RetOk K G' H H' mu (val a) v → Q v H') ∧
    (∀ x, r = .raise x → ∀ cls d H', ExcOk mg (hide H ps) ps x cls d H' → Sub (hide H ps) H' → E cls d H')

end
/-- a def of the module that keeps its promise there -/
def DfH (P : Program) (w : World) (K : PySem.W.Frag) (mg : Str → Option Value) (base : Heap) (k : Nat) (x : Str) (ks : List Kd) {α : Type} (den : List D → Res α) (val : α → D) (outs : α → List D) (mu : Bool) : Prop :=
  ∃ (f : Addr) (fd : FuncData) (psn : List Str), FnGH P w K mg base k f fd psn (SpDH K mg ks den val outs mu) ∧ mg x = some (.ref f) ∧ PySem.W.keepIn K (.ref f) = true ∧ Binds K fd psn []
/-- an error is none of the answers -/
def noX {α : Type} (m : Res α) : Res α := match m with
  | .ok a => .ok a
  | _ => .bad
section
variable {X : Cx} {k : Nat} {f : Addr} {fd : FuncData} {ps : List Str} {sp : Option Value → Sp} {E : XK} {x : Str} {p pos : Pos} {e : Expr} {es : List Expr} {t : TA}
end
section
variable {X : Cx} {en : Kn} {δ τ : List Slot} {R : Type} {C : Slot → List Slot → Res R → Prop} {m : Res R} {K : PySem.W.Frag}

end
section
variable {X : Cx} {en : Kn} {δ : List Slot} {R : Type} {m : Res R} {N : List Slot → Res R → Prop} {RT : Slot → List Slot → Res R → Prop} {BK CT : List Slot → Res R → Prop} {rest : List Stmt}
end
end BR

/-! K48: list(range(a, b)) of numbers of any size -/
namespace BR
open PySem PySem.Spec PyProof.Rows L2
section
open PySem.AutoSeq1
variable {prog : Program} {w : World} {A : Around} {E : Value → Shared → Prop} {s : Shared}
end
def tLstRB (te : L2.St → Hp → (Int → Int → Hp → Prop) → Prop) : TE := fun σ H Q => te σ H fun a b H1 => (b - a).toNat ≤ 2 ^ 24 ∧ ∀ q, H1 q = none → Q (.ref q) (upd H1 q (.lst (rgV a b)))
/-- the numbers of list(range(a, b)) -/
def lrgB : D → D → Option (List D)
  | .int i, .int j => if (j - i).toNat ≤ 2 ^ 24 then some (upto i (j - i).toNat) else none
  | _, _ => none
section
variable {X : Cx} {en : Kn} {δ τ : List Slot} {R : Type} {C : Slot → List Slot → Res R → Prop} {m : Res R}
end
end BR

/-! W1: plain runs -/
namespace BR
open PySem PySem.Spec PyProof.Rows L2
theorem op_s {α R : Type} {a : α} {k : α → Res R} : op (some a) k = k a := rfl
theorem bind_s {α R : Type} {a : α} {k : α → Res R} : (Res.ok a).bind k = k a := rfl
theorem nat_lt_of {a : Int} {n : Nat} (h0 : 0 ≤ a) (h : a < (2 : Int) ^ n) : a.natAbs < 2 ^ n := by
  have : ((a.natAbs : Nat) : Int) < ((2 ^ n : Nat) : Int) := by
    rw [Int.natAbs_of_nonneg h0]
    simpa using h
  exact Int.ofNat_lt.mp this
theorem log_le {a : Int} {n : Nat} (h0 : 0 ≤ a) (h : a < (2 : Int) ^ n) : a.natAbs.log2 ≤ n := by
  by_cases z : a.natAbs = 0
  · have e : Nat.log2 0 = 0 := by decide
    rw [z, e]; exact Nat.zero_le _
  · exact Nat.le_of_lt ((Nat.log2_lt z).mpr (nat_lt_of h0 h))
theorem bits_le {a : Int} {n : Nat} (h0 : 0 ≤ a) (h : a < (2 : Int) ^ n) : Builtin.Int.intBits a ≤ n := by
  unfold Builtin.Int.intBits
  split
  · exact Nat.zero_le _
  · rename_i z
    have z' : a.natAbs ≠ 0 := fun e => z (by simpa using Int.natAbs_eq_zero.mp e)
    exact (Nat.log2_lt z').mpr (nat_lt_of h0 h)
theorem addI {a b : Int} : addD (.int a) (.int b) = some (.int (a + b)) := rfl
theorem subI {a b : Int} : subD (.int a) (.int b) = some (.int (a - b)) := rfl
theorem gtI {a b : Int} : gtD (.int a) (.int b) = some (decide (b < a)) := rfl
theorem geI {a b : Int} : geD (.int a) (.int b) = some (decide (b ≤ a)) := rfl
theorem ltI {a b : Int} : ltD (.int a) (.int b) = some (decide (a < b)) := rfl
theorem leI {a b : Int} : leD (.int a) (.int b) = some (decide (a ≤ b)) := rfl
theorem eqI {a b : Int} : eqD (.int a) (.int b) = some (decide (a = b)) := rfl
theorem modI {a b : Int} (h : 0 < b) : modD (.int a) (.int b) = some (.int (a % b)) := if_pos h
theorem divI {a b : Int} (h : 0 < b) (hz : b < 2 ^ 250) : fdivD (.int a) (.int b) = some (.int (a / b)) := if_pos ⟨h, Nat.lt_of_le_of_lt (log_le (Int.le_of_lt h) hz) (by decide)⟩
theorem mulI {a b : Int} (h0 : 0 ≤ a) (h : a < 2 ^ 250) (g0 : 0 ≤ b) (g : b < 2 ^ 250) : mulD (.int a) (.int b) = some (.int (a * b)) := if_pos (by
  have := log_le h0 h
  have := log_le g0 g
  omega)
theorem powI {a b : Int} (h : 0 ≤ b ∧ (Builtin.Int.intBits a : Int) * b ≤ 2 ^ 27) : powD (.int a) (.int b) = some (.int (a ^ b.toNat)) := if_pos h
theorem pow3 {a : Int} (h0 : 0 ≤ a) (h : a < 2 ^ 250) : powD (.int a) (.int 3) = some (.int (a ^ 3)) := powI ⟨by decide, by
  have := bits_le h0 h
  have : (Builtin.Int.intBits a : Int) ≤ 250 := by exact_mod_cast this
  omega⟩
theorem p10_18 : powD (.int 10) (.int 18) = some (.int (10 ^ 18)) := powI (by decide)
theorem p10_29 : powD (.int 10) (.int 29) = some (.int (10 ^ 29)) := powI (by decide)
theorem p10_30 : powD (.int 10) (.int 30) = some (.int (10 ^ 30)) := powI (by decide)
/-- a loop that keeps P, i the turns done -/
theorem forS_ok {S : Type} {f : D → S → Res S} (P : Nat → S → Prop) (I : Nat) : ∀ {ds : List D} {s : S} {i : Nat}, P i s → i + ds.length ≤ I → (∀ d, d ∈ ds → ∀ s i, i < I → P i s → ∃ s', f d s = .ok s' ∧ P (i + 1) s') → ∃ r, forS ds s f = .ok r ∧ P (i + ds.length) r
  | [], s, i, h, _, _ => ⟨s, rfl, h⟩
  | d :: ds, s, i, h, hI, hf => by
    rw [List.length_cons] at hI
    obtain ⟨s', e, h'⟩ := hf d List.mem_cons_self s i (by omega) h
    unfold forS
    rw [e, bind_s]
    obtain ⟨r, e2, h2⟩ := forS_ok P I h' (by omega) fun d hd => hf d (List.mem_cons_of_mem _ hd)
    exact ⟨r, e2, by rw [List.length_cons]; rw [show i + (ds.length + 1) = i + 1 + ds.length by omega]; exact h2⟩
theorem forF_ok {S R : Type} {f : D → S → Res (LFlow S R)} (P : Nat → S → Prop) (I : Nat) : ∀ {ds : List D} {s : S} {i : Nat}, P i s → i + ds.length ≤ I → (∀ d, d ∈ ds → ∀ s i, i < I → P i s → ∃ s', f d s = .ok (.nx s') ∧ P (i + 1) s') → ∃ r, forF ds s f = .ok (.nx r) ∧ P (i + ds.length) r
  | [], s, i, h, _, _ => ⟨s, rfl, h⟩
  | d :: ds, s, i, h, hI, hf => by
    rw [List.length_cons] at hI
    obtain ⟨s', e, h'⟩ := hf d List.mem_cons_self s i (by omega) h
    unfold forF
    rw [e]
    obtain ⟨r, e2, h2⟩ := forF_ok P I h' (by omega) fun d hd => hf d (List.mem_cons_of_mem _ hd)
    exact ⟨r, e2, by rw [List.length_cons]; rw [show i + (ds.length + 1) = i + 1 + ds.length by omega]; exact h2⟩
theorem rng1 {n : Int} (h0 : 0 ≤ n) (h : n < 2 ^ 62) : rngD [.int n] = some (upto 0 n.toNat) := if_pos ⟨by omega, h⟩
theorem upto_mem {n : Nat} {d : D} (h : d ∈ upto 0 n) : ∃ i : Nat, i < n ∧ d = .int i := by
  obtain ⟨i, hi, e⟩ := List.mem_map.mp h
  exact ⟨i, List.mem_range.mp hi, by rw [← e, Int.zero_add]⟩
theorem upto_len {n : Nat} {l : Int} : (upto l n).length = n := by simp [upto]
theorem lcF_okI {S : Type} {f : D → S → Res (Option D × S)} (P : Nat → S → List D → Prop) (I : Nat) : ∀ {ds : List D} {s : S} {acc : List D} {i : Nat}, P i s acc → acc.length + ds.length < 1000000 → i + ds.length ≤ I →
    (∀ d, d ∈ ds → ∀ i s acc, i < I → P i s acc → ∃ y s', f d s = .ok (y, s') ∧ P (i + 1) s' (match y with | some y => acc ++ [y] | none => acc)) →
    ∃ r, lcF ds s acc f = .ok r ∧ P (i + ds.length) r.2 r.1
  | [], s, acc, i, h, _, _, _ => ⟨(acc, s), rfl, h⟩
  | d :: ds, s, acc, i, h, hl, hI, hf => by
    rw [List.length_cons] at hl hI
    obtain ⟨y, s', e, h'⟩ := hf d List.mem_cons_self i s acc (by omega) h
    unfold lcF
    rw [e]
    have ei : i + (d :: ds).length = i + 1 + ds.length := by rw [List.length_cons]; omega
    rw [ei]
    cases y with
    | some y =>
      have hz : acc.length < sizeLine := Nat.lt_of_lt_of_le (show acc.length < 1000000 by omega) (by decide)
      simp only [hz, if_true]
      exact lcF_okI P I h' (by rw [List.length_append, List.length_singleton]; omega) (by omega) fun d hd => hf d (List.mem_cons_of_mem _ hd)
    | none => exact lcF_okI P I h' (by omega) (by omega) fun d hd => hf d (List.mem_cons_of_mem _ hd)
theorem small_lt {n : Nat} (h : n < 1000000) : n < sizeLine := Nat.lt_of_lt_of_le h (by decide)
theorem small_le {n : Nat} (h : n < 1000000) : n ≤ sizeLine := Nat.le_of_lt (small_lt h)
theorem min2I {a b : Int} : min2D [.int a, .int b] = some (.int (if b < a then b else a)) := rfl
theorem max2I {a b : Int} : max2D [.int a, .int b] = some (.int (if b > a then b else a)) := rfl
theorem app1 {ds : List D} {d : D} (h : ds.length < 1000000) : appL ds [d] = some (.non, ds ++ [d]) := if_pos (small_lt h)
theorem abs_ok {a : Int} : absD [.int a] = some (.int (if a < 0 then -a else a)) := rfl
theorem asB_ok (b : Bool) : asB (.bl b) = some b := rfl
theorem tru_ok (b : Bool) : truD (.bl b) = some b := rfl
def Sz (n w : Nat) (d : D) : Prop := noS d = true ∧ (toP d).showable = true ∧ (toP d).leavesShort 600 = true ∧ (toP d).depth ≤ n ∧ (toP d).weight ≤ w
theorem Sz.mono {n w n' w' : Nat} {d : D} (h : Sz n w d) (h1 : n ≤ n') (h2 : w ≤ w') : Sz n' w' d := ⟨h.1, h.2.1, h.2.2.1, Nat.le_trans h.2.2.2.1 h1, Nat.le_trans h.2.2.2.2 h2⟩
theorem lcF_pick {S : Type} {f : D → S → Res (Option D × S)} {g : D → Option D} {s : S} : ∀ {ds acc : List D}, acc.length + ds.length < 1000000 → (∀ d, d ∈ ds → f d s = .ok (g d, s)) → lcF ds s acc f = .ok (acc ++ ds.filterMap g, s)
  | [], acc, _, _ => by unfold lcF; simp
  | d :: ds, acc, hl, h => by
    rw [List.length_cons] at hl
    unfold lcF
    rw [h d List.mem_cons_self]
    have hz : acc.length < sizeLine := small_lt (by omega)
    cases e : g d with
    | some y =>
      simp only [hz, if_true]
      rw [lcF_pick (by rw [List.length_append, List.length_singleton]; omega) fun d hd => h d (List.mem_cons_of_mem _ hd)]
      simp [e]
    | none =>
      show lcF ds s acc f = _
      rw [lcF_pick (by omega) fun d hd => h d (List.mem_cons_of_mem _ hd)]
      simp [e]
theorem addL {a b : List D} (h : a.length + b.length < 1000000) : addD (.lst a) (.lst b) = some (.lst (a ++ b)) := if_pos (small_le h)
def Ok {α : Type} (m : Res α) (Q : α → Prop) : Prop := ∃ a, m = .ok a ∧ Q a
theorem Ok.ret {α : Type} {a : α} {Q : α → Prop} (h : Q a) : Ok (.ok a) Q := ⟨a, rfl, h⟩
theorem Ok.bnd {α β : Type} {m : Res α} {k : α → Res β} {P : α → Prop} {Q : β → Prop} (h : Ok m P) (g : ∀ a, P a → Ok (k a) Q) : Ok (m.bind k) Q := by
  obtain ⟨a, e, p⟩ := h
  obtain ⟨b, e2, q⟩ := g a p
  exact ⟨b, by rw [e, bind_s, e2], q⟩
theorem Ok.mono {α : Type} {m : Res α} {P Q : α → Prop} (h : Ok m P) (g : ∀ a, P a → Q a) : Ok m Q := by
  obtain ⟨a, e, p⟩ := h
  exact ⟨a, e, g a p⟩
theorem Ok.op {α β : Type} {o : Option α} {a : α} {k : α → Res β} {Q : β → Prop} (e : o = some a) (h : Ok (k a) Q) : Ok (op o k) Q := by
  subst e; exact h
theorem Ok.ite {α : Type} {b : Prop} [Decidable b] {m n : Res α} {Q : α → Prop} (h : b → Ok m Q) (g : ¬b → Ok n Q) : Ok (if b then m else n) Q := by
  by_cases hb : b
  · rw [if_pos hb]; exact h hb
  · rw [if_neg hb]; exact g hb
theorem Ok.fbn {S R : Type} {m : Res (Flow S R)} {k : S → Res R} {P : S → Prop} {Q : R → Prop} (h : Ok m fun f => ∃ s, f = .nx s ∧ P s) (g : ∀ s, P s → Ok (k s) Q) : Ok (fbind m k) Q := by
  obtain ⟨a, e, s, rfl, p⟩ := h
  obtain ⟨b, e2, q⟩ := g s p
  exact ⟨b, by rw [e]; exact e2, q⟩
theorem Ok.eq {α : Type} {m : Res α} {a : α} (h : Ok m fun x => x = a) : m = .ok a := by
  obtain ⟨b, e, rfl⟩ := h; exact e
theorem Ok.of {α : Type} {m : Res α} {a : α} (h : m = .ok a) : Ok m fun x => x = a := ⟨a, h, rfl⟩
theorem Ok.forN {S R : Type} {f : D → S → Res (LFlow S R)} (P : Nat → S → Prop) (I : Nat) {ds : List D} {s : S} (h0 : P 0 s) (hI : ds.length ≤ I) (hf : ∀ d, d ∈ ds → ∀ s i, i < I → P i s → Ok (f d s) fun r => ∃ s', r = .nx s' ∧ P (i + 1) s') : Ok (forF ds s f) fun r => ∃ s', r = .nx s' ∧ P ds.length s' := by
  obtain ⟨r, e, h⟩ := forF_ok (f := f) P I (ds := ds) (s := s) (i := 0) h0 (by omega) (fun d hd s i hi h => by
    obtain ⟨_, e, s', rfl, h'⟩ := hf d hd s i hi h
    exact ⟨s', e, h'⟩)
  exact ⟨_, e, r, rfl, by rw [Nat.zero_add] at h; exact h⟩
theorem Ok.call {α β : Type} {m : Res α} {a : α} {k : α → Res β} {Q : β → Prop} (e : m = .ok a) (h : Ok (k a) Q) : Ok (m.bind k) Q := by
  subst e; exact h
end BR

/-! W2: plain runs over typed data -/
namespace BR
open PySem PySem.Spec PyProof.Rows L2

/-! ### walks of typed lists -/
theorem forS_append {S : Type} {f : D → S → Res S} : ∀ {a b : List D} {s : S}, forS (a ++ b) s f = (forS a s f).bind fun s' => forS b s' f
  | [], b, s => rfl
  | d :: a, b, s => by
    show (f d s).bind _ = ((f d s).bind _).bind _
    cases f d s with
    | ok s' => exact forS_append (a := a)
    | raise x => rfl
    | bad => rfl
theorem forS_one {S : Type} {f : D → S → Res S} {d : D} {s : S} : forS [d] s f = f d s := by
  show (f d s).bind _ = _
  cases f d s <;> rfl
theorem lc_map {X S : Type} {f : D → S → Res (Option D × S)} {e g : X → D} {s : S} {xs : List X} (hl : xs.length < 1000000) (h : ∀ x, x ∈ xs → f (e x) s = .ok (some (g x), s)) : lcF (xs.map e) s [] f = .ok (xs.map g, s) := by
  have key : ∀ {xs : List X} {acc : List D}, acc.length + xs.length < 1000000 → (∀ x, x ∈ xs → f (e x) s = .ok (some (g x), s)) → lcF (xs.map e) s acc f = .ok (acc ++ xs.map g, s) := by
    intro xs
    induction xs with
    | nil => intro acc _ _; simp [lcF]
    | cons x xs ih =>
      intro acc hl h
      rw [List.length_cons] at hl
      rw [List.map_cons]
      unfold lcF
      rw [h x List.mem_cons_self]
      have hz : acc.length < sizeLine := small_lt (by omega)
      simp only [hz, if_true]
      rw [ih (by rw [List.length_append, List.length_singleton]; omega) fun y hy => h y (List.mem_cons_of_mem _ hy)]
      simp
  have := key (acc := []) (by simpa using hl) h
  simpa using this
theorem Ok.lc {S : Type} {f : D → S → Res (Option D × S)} (P : Nat → S → List D → Prop) (I : Nat) {ds : List D} {s : S} (h0 : P 0 s []) (hI : ds.length ≤ I) (hz : ds.length < 1000000)
    (hf : ∀ d, d ∈ ds → ∀ i s acc, i < I → P i s acc → Ok (f d s) fun r => P (i + 1) r.2 (match r.1 with | some y => acc ++ [y] | none => acc)) : Ok (lcF ds s [] f) fun r => P ds.length r.2 r.1 := by
  obtain ⟨r, e, h⟩ := lcF_okI (f := f) P I (ds := ds) (s := s) (acc := []) (i := 0) h0 (by simpa using hz) (by omega) (fun d hd i s acc hi h => by
    obtain ⟨⟨y, s'⟩, e, h'⟩ := hf d hd i s acc hi h
    exact ⟨y, s', e, h'⟩)
  exact ⟨r, e, by rw [Nat.zero_add] at h; exact h⟩
theorem Ok.for {S : Type} {f : D → S → Res S} (P : Nat → S → Prop) (I : Nat) {ds : List D} {s : S} (h0 : P 0 s) (hI : ds.length ≤ I) (hf : ∀ d, d ∈ ds → ∀ s i, i < I → P i s → Ok (f d s) (P (i + 1))) : Ok (forS ds s f) (P ds.length) := by
  obtain ⟨r, e, h⟩ := forS_ok (f := f) P I (ds := ds) (s := s) (i := 0) h0 (by omega) (fun d hd s i hi h => by
    obtain ⟨s', e, h'⟩ := hf d hd s i hi h
    exact ⟨s', e, h'⟩)
  exact ⟨r, e, by rw [Nat.zero_add] at h; exact h⟩
theorem Ok.both {α : Type} {m : Res α} {P Q : α → Prop} (h : Ok m P) (g : Ok m Q) : Ok m fun a => P a ∧ Q a := by
  obtain ⟨a, e, p⟩ := h
  obtain ⟨b, e2, q⟩ := g
  rw [e] at e2
  cases e2
  exact ⟨a, e, p, q⟩
/-- the loop of a law's first cells: at most n of them -/
theorem cells {ns : List Int} {n : Int} (hn : 1 ≤ n) (h : n < 1000) : ∃ k : Int, (if (if (ns.length : Int) < n then (ns.length : Int) else n) > 1 then (if (ns.length : Int) < n then (ns.length : Int) else n) else 1) = k ∧ 0 ≤ k ∧ k ≤ n := ⟨_, rfl, by split <;> split <;> omega, by split <;> split <;> omega⟩

/-! ### places -/
theorem ix_at {ds : List D} {i : Nat} {d : D} (h : ds[i]? = some d) : ixD (.lst ds) (.int i) = some d := by
  have hi := (List.getElem?_eq_some_iff.mp h).1
  show atI ds i = _
  unfold atI ixN
  rw [if_pos (by omega), if_pos (by omega)]
  simpa using h
theorem lenE {X : Type} {e : X → D} {xs : List X} : lenD [.lst (xs.map e)] = some (.int xs.length) := by
  show some (D.int (xs.map e).length) = _
  rw [List.length_map]
theorem lenET {X : Type} {e : X → D} {xs : List X} : lenD [.tup (xs.map e)] = some (.int xs.length) := by
  show some (D.int (xs.map e).length) = _
  rw [List.length_map]
theorem cut_back {ds : List D} {i : Nat} (h : i ≤ ds.length) : cutD ds (some i) none = ds.drop i := by
  unfold cutD HT.sIx
  simp only []
  rw [if_neg (by omega)]
  have : min (i : Int).toNat ds.length = i := by omega
  rw [this]
  rw [List.take_of_length_le (by simp)]
/-! ### one and the same -/
def Shp (n : Nat) (d : D) : Prop := (toP d).canLay0 = true ∧ (toP d).depth ≤ n
theorem Shp.mono {n k : Nat} {d : D} (h : Shp n d) (l : n ≤ k) : Shp k d := ⟨h.1, Nat.le_trans h.2 l⟩
theorem shp_int {i : Int} : Shp 0 (.int i) := ⟨rfl, by simp [toP, PyData.depth]⟩
theorem shp_non : Shp 0 .non := ⟨rfl, by simp [toP, PyData.depth]⟩
theorem shp_all {n : Nat} : ∀ {ds : List D}, (∀ x, x ∈ ds → Shp n x) → PyData.canLayAll0 (toPs ds) = true ∧ PyData.depthAll (toPs ds) ≤ n
  | [], _ => ⟨rfl, Nat.zero_le _⟩
  | d :: ds, h => by
    obtain ⟨a1, a2⟩ := h d List.mem_cons_self
    obtain ⟨b1, b2⟩ := shp_all (ds := ds) fun x hx => h x (List.mem_cons_of_mem _ hx)
    refine ⟨by simp [toPs, PyData.canLayAll0, a1, b1], ?_⟩
    simp only [toPs, PyData.depthAll]; omega
theorem shp_lst {n : Nat} {ds : List D} (h : ∀ x, x ∈ ds → Shp n x) : Shp (n + 1) (.lst ds) := by
  obtain ⟨b1, b2⟩ := shp_all h
  refine ⟨by simpa [toP, PyData.canLay0] using b1, ?_⟩
  simp only [toP, PyData.depth]; omega
theorem shp_tup {n : Nat} {ds : List D} (h : ∀ x, x ∈ ds → Shp n x) : Shp (n + 1) (.tup ds) := by
  obtain ⟨b1, b2⟩ := shp_all h
  refine ⟨by simpa [toP, PyData.canLay0] using b1, ?_⟩
  simp only [toP, PyData.depth]; omega
theorem Shp.shaped {d : D} (h : Shp 60 d) : SeqAt.shaped (toP d) = true := by
  unfold SeqAt.shaped
  rw [h.1, Bool.true_and]
  exact decide_eq_true (Nat.le_trans h.2 (by decide))
theorem eqD_shp {d e : D} (h : Shp 60 d) (g : Shp 60 e) (hd : ∀ a b, d = .int a → e = .int b → False) (hs : ∀ a b, d = .str a → e = .str b → False) (hb : ∀ a b, d = .bl a → e = .bl b → False) : eqD d e = some (PyData.eqv (toP d) (toP e)) := by
  have key : eqD d e = if SeqAt.shaped (toP d) = true ∧ SeqAt.shaped (toP e) = true then some (PyData.eqv (toP d) (toP e)) else none := by
    unfold eqD
    split
    · exact (hd _ _ rfl rfl).elim
    · exact (hs _ _ rfl rfl).elim
    · exact (hb _ _ rfl rfl).elim
    · rfl
  rw [key, if_pos ⟨h.shaped, g.shaped⟩]
theorem eq_same {d : D} (h : Shp 60 d) : eqD d d = some true := by
  have key : (eqD d d = if SeqAt.shaped (toP d) = true ∧ SeqAt.shaped (toP d) = true then some (PyData.eqv (toP d) (toP d)) else none) ∨ eqD d d = some true := by
    cases d <;> first | exact .inl rfl | exact .inr (by simp [eqD])
  rcases key with e | e
  · rw [e, if_pos ⟨h.shaped, h.shaped⟩, SeqAt.eqv_refl _ h.1]
  · exact e
theorem ne_same {d : D} (h : Shp 60 d) : neD d d = some false := by
  unfold neD
  rw [eq_same h]; rfl
theorem neI {a b : Int} : neD (.int a) (.int b) = some (!decide (a = b)) := rfl
theorem neS {a : Str} : neD (.str a) (.str a) = some false := by simp [neD, eqD]
theorem eqS {a : Str} : eqD (.str a) (.str a) = some true := by simp [eqD]
theorem ints_ok : ∀ {ns : List Int}, intsD (ns.map D.int) = some ns
  | [] => rfl
  | n :: ns => by
    show (intsD (ns.map D.int)).map _ = _
    rw [ints_ok]; rfl
theorem eq_nil {ds : List D} (h : Shp 60 (.lst ds)) : eqD (.lst ds) (.lst []) = some ds.isEmpty := by
  rw [eqD_shp h ((shp_lst (n := 0) (by simp)).mono (by omega)) (fun _ _ h => nomatch h) (fun _ _ h => nomatch h) (fun _ _ h => nomatch h)]
  cases ds <;> rfl
theorem ne_nil {ds : List D} (h : Shp 60 (.lst ds)) : neD (.lst ds) (.lst []) = some (!ds.isEmpty) := by
  unfold neD
  rw [eq_nil h]; rfl
/-- side by side -/
def adj {X : Type} (p : X → X → Bool) : List X → Bool
  | x :: y :: r => p x y && adj p (y :: r)
  | _ => true
/-- whether p fails at a place and the next one -/
def gap {X : Type} (p : X → X → Bool) (xs : List X) (k : Nat) : Bool := match xs[k]?, xs[k + 1]? with
  | some a, some c => !p a c
  | _, _ => false
/-! ### sayings -/
abbrev Say := Int × Option Int
def eO : Option Int → D
  | none => .non
  | some b => .int b
def eS (s : Say) : D := .tup [.int s.1, eO s.2]
def okS (B : Int) (s : Say) : Prop := 0 ≤ s.1 ∧ s.1 < B ∧ ∀ b, s.2 = some b → s.1 ≤ b ∧ b < B
theorem shp_eS {s : Say} : Shp 1 (eS s) := shp_tup fun x hx => by
  obtain ⟨a, b⟩ := s
  simp only [List.mem_cons, List.not_mem_nil, or_false] at hx
  rcases hx with rfl | rfl
  · exact shp_int
  · cases b
    · exact shp_non
    · exact shp_int
theorem shp_row {xs : List Say} : Shp 2 (.lst (xs.map eS)) := shp_lst fun x hx => by
  obtain ⟨i, _, rfl⟩ := List.mem_map.mp hx; exact shp_eS
theorem typed {X : Type} {e : X → D} {p : X → Prop} : ∀ {ds : List D}, (∀ d, d ∈ ds → ∃ x, d = e x ∧ p x) → ∃ xs : List X, ds = xs.map e ∧ ∀ x, x ∈ xs → p x
  | [], _ => ⟨[], rfl, by simp⟩
  | d :: ds, h => by
    obtain ⟨x, rfl, hp⟩ := h d List.mem_cons_self
    obtain ⟨xs, rfl, hps⟩ := typed (ds := ds) fun d hd => h d (List.mem_cons_of_mem _ hd)
    refine ⟨x :: xs, rfl, fun y hy => ?_⟩
    rcases List.mem_cons.mp hy with rfl | hy
    · exact hp
    · exact hps y hy
/-- whether a saying is true of so many -/
def so (s : Say) (c : Int) : Bool := decide (s.1 ≤ c) && (match s.2 with | none => true | some b => decide (c ≤ b))
def b2 (b : Bool) : Int := if b then 1 else 0
def tot : List Say → Int → Int
  | [], c => c
  | s :: r, c => tot r c + b2 (so s (tot r c))
def tots : List Say → Int → List Int
  | [], c => [c]
  | s :: r, c => tot (s :: r) c :: tots r c
theorem okS.mono {B C : Int} {s : Say} (h : okS B s) (l : B ≤ C) : okS C s := ⟨h.1, by have := h.2.1; omega, fun b e => by have := h.2.2 b e; omega⟩
def words (xs : List Say) (c : Int) : List Bool := match xs with
  | [] => []
  | s :: r => so s (tot r c) :: words r c
def rowAs (r : D) (xs : List Say) : Prop := r = .lst (xs.map eS) ∨ r = .tup (xs.map eS)
theorem rowAs.len {r : D} {xs : List Say} (h : rowAs r xs) : lenD [r] = some (.int xs.length) := by
  rcases h with rfl | rfl
  · exact lenE
  · exact lenET
/-- data of scalars, lists and tuples, so deep at most -/
def Pl : Nat → D → Prop
  | _, .int _ => True
  | _, .bl _ => True
  | _, .non => True
  | n + 1, .lst ds => ds.length < 900000 ∧ ∀ x, x ∈ ds → Pl n x
  | n + 1, .tup ds => ds.length < 900000 ∧ ∀ x, x ∈ ds → Pl n x
  | _, _ => False
theorem mem2 {X : Type} {P : X → Prop} {a b : X} (ha : P a) (hb : P b) : ∀ x, x ∈ [a, b] → P x := by simpa using ⟨ha, hb⟩
theorem mem3 {X : Type} {P : X → Prop} {a b c : X} (ha : P a) (hb : P b) (hc : P c) : ∀ x, x ∈ [a, b, c] → P x := by simpa using ⟨ha, hb, hc⟩
/-! ### wishes -/
def nx (s : Say) (m : Int) : Int := m - b2 (so s (m - 1))
def hand : List Say → Int → Int
  | [], m => m
  | s :: r, m => hand r (nx s m)
def hands : List Say → Int → List Int
  | [], m => [m]
  | s :: r, m => m :: hands r (nx s m)
theorem rowAs.as {r : D} {xs : List Say} (h : rowAs r xs) : asL r = some (xs.map eS) := by
  rcases h with rfl | rfl <;> rfl
theorem rowAs.cut {r : D} {xs : List Say} (h : rowAs r xs) {i : Nat} (hi : i ≤ xs.length) : ∃ r', cutA r (some i) none = some r' ∧ rowAs r' (xs.drop i) := by
  rcases h with rfl | rfl
  · exact ⟨_, rfl, .inl (by rw [cut_back (by simpa using hi), List.map_drop])⟩
  · exact ⟨_, rfl, .inr (by rw [cut_back (by simpa using hi), List.map_drop])⟩
end BR

/-! K50: instances of own classes: read where they stand fast, changed within their own methods -/
namespace BR
open PySem PySem.Spec PyProof.Rows L2

/-! ### calls -/
section
variable {X : Cx} {k : Nat} {f C : Addr} {fd : FuncData} {ps : List Str} {sp : Sp} {E : XK} {x m : Str} {p pos apos : Pos} {e o : Expr} {es : List Expr} {ta : TE} {t : TA} {dvs : List V} {ds : List Value}
theorem run_makeG {pins : List (Addr × Obj)} {σ : L2.St} {H : Hp} {s : Shared} {Q : VK} {us : List Value} {vs : List V} (M : Mk X.K C f) (F : FnG X.prog X.w X.K X.mg X.base k f fd ps sp) (hr : RoomG (k + 1) X.A) (hb : Binds X.K fd ps ds) (hd : Vals dvs ds)
    (hx : Passes (L2N.CX X.prog X.w) X E) (I : Inv X pins σ H s) (r : Vals vs us)
    (h : ∀ x dx, H x = none → H dx = none → dx ≠ x → sp (.ref x :: (vs ++ dvs)) (upd (upd H dx (.own x)) x (.ins C dx [])) (fun v H2 => v = .non ∧ Q (.ref x) H2) E) :
    wpAny (model X.prog X.w) X.A (call (.ref C) us) (EP X pins σ Q) X.xe s := by
  have hq := h (s.heap.objs.size + 1) s.heap.objs.size (I.hok.fresh (Nat.le_succ _)) (I.hok.fresh (Nat.le_refl _)) (Nat.ne_of_lt (Nat.lt_succ_self _))
  have I2 := Inv.made (C := C) I
  have r2 : Vals (V.ref (s.heap.objs.size + 1) :: (vs ++ dvs)) (Value.ref (s.heap.objs.size + 1) :: (us ++ ds)) := .cons rfl (r.append hd)
  have hl : (Value.ref (s.heap.objs.size + 1) :: us ++ ds).length = ps.length := by
    have e := r2.length
    rw [F.len _ _ _ _ hq] at e
    exact e.symm
  refine wpAny_call (make_map (f := f) I.kIn M.makes M.init (beq_iff_eq.mp M.fn) (codeAny_mono (F.run _ X.stack _ _ ⟨Value.ref (s.heap.objs.size + 1) :: us, []⟩ (Value.ref (s.heap.objs.size + 1) :: (us ++ ds)) _ _ E ⟨hr.r.make C us [], hr.g⟩
    (I2.env0.make C us []) (hb _ (Value.ref (s.heap.objs.size + 1) :: us) I2.kIn hl) r2 hq) fun r s' hq' => ?_))
  cases r with
  | error e => exact hx pins σ _ _ e s' I2 hq'
  | ok fl =>
    cases fl with
    | ret u =>
      obtain ⟨v, H', I3, rv, ev, q3⟩ := I2.after hq'
      subst ev
      exact ⟨rv, ⟨V.ref (s.heap.objs.size + 1), H', I3, rfl, q3⟩⟩
    | next => exact False.elim hq'
    | brk => exact False.elim hq'
    | cont => exact False.elim hq'
theorem pe_makeG (M : Mk X.K C f) (F : FnG X.prog X.w X.K X.mg X.base k f fd ps sp) (hr : RoomG (k + 1) X.A) (hg : Gl X x) (hm : X.mg x = some (.ref C)) (hb : Binds X.K fd ps ds) (hd : Vals dvs ds) (hx : Passes (L2N.CX X.prog X.w) X E)
    (ha : PA X (e :: es) t) (hdb : (x == ("__debug__" : Str)) = false) (he : starEach (e :: es) X.env = (false, eval e X.env) :: starEach es X.env) (hpl : (backTo pos (starEach es X.env)).any (·.1) = false) :
    PE X (.Call (.Name x p) (e :: es) [] pos) (tMake C sp dvs E t) := by
  refine ⟨fun pins s σ H Q I h => ?_⟩
  refine wpAny_Call_Name_kw (ld_glob I hg hm ?_ hdb)
  refine PySem.W.callWith_K (h₀ := X.base) I.ok.mod.kin M.kp (thn (ha.run pos pins s σ H _ I h) fun us s1 ⟨vs, H1, I1, r, q⟩ => ⟨I1.kIn, ?_⟩) he hpl
  exact run_makeG M F hr hb hd hx I1 r q
end

/-! ### fields of what stands fast -/
abbrev Fd := List (Str × Bool × D)
/-- a field of an instance of one of these classes, that stands fast -/
def fldD (cs : List Str) (f : Str) : D → Option D
  | .obj c fs => if c ∈ cs then (match fs.lookup f with
    | some (false, d) => some d
    | _ => none) else none
  | _ => none
theorem VFs.get {K : PySem.W.Frag} {G H : Hp} : ∀ {fs : Fd} {vs : List (Str × V)} {f : Str} {b : Bool} {d : D}, VFs K G H fs vs → fs.lookup f = some (b, d) → ∃ v, vs.lookup f = some v ∧ VF K G H b d v
  | [], _, _, _, _, _, e => by cases e
  | (k, b', d') :: r, _, f, b, d, h, e => by
    obtain ⟨v, q, e1, h1, h2⟩ := h
    subst e1
    by_cases hk : (f == k) = true
    · rw [List.lookup_cons, hk] at e
      cases e
      exact ⟨v, by rw [List.lookup_cons, hk], h1⟩
    · have hk : (f == k) = false := by simpa using hk
      rw [List.lookup_cons, hk] at e
      obtain ⟨u, e2, e3⟩ := VFs.get h2 e
      exact ⟨u, by rw [List.lookup_cons, hk]; exact e2, e3⟩
theorem RepFs.get {K : PySem.W.Frag} {G : Hp} : ∀ {fs : Fd} {vs : List (Str × V)} {f : Str} {b : Bool} {d : D}, RepFs K G fs vs → fs.lookup f = some (b, d) → ∃ v, vs.lookup f = some v ∧ Rep K G d v
  | [], _, _, _, _, _, e => by cases e
  | (k, b', d') :: r, _, f, b, d, h, e => by
    obtain ⟨v, q, e1, h1, h2⟩ := h
    subst e1
    by_cases hk : (f == k) = true
    · rw [List.lookup_cons, hk] at e
      cases e
      exact ⟨v, by rw [List.lookup_cons, hk], h1⟩
    · have hk : (f == k) = false := by simpa using hk
      rw [List.lookup_cons, hk] at e
      obtain ⟨u, e2, e3⟩ := RepFs.get h2 e
      exact ⟨u, by rw [List.lookup_cons, hk]; exact e2, e3⟩
theorem VFs.none {K : PySem.W.Frag} {G H : Hp} : ∀ {fs : Fd} {vs : List (Str × V)} {f : Str}, VFs K G H fs vs → fs.lookup f = none → vs.lookup f = none
  | [], _, _, h, _ => by rw [show _ = [] from h]; rfl
  | (k, b', d') :: r, _, f, h, e => by
    obtain ⟨v, q, e1, h1, h2⟩ := h
    subst e1
    by_cases hk : (f == k) = true
    · rw [List.lookup_cons, hk] at e; cases e
    · have hk : (f == k) = false := by simpa using hk
      rw [List.lookup_cons, hk] at e ⊢
      exact VFs.none h2 e
theorem VFs.len {K : PySem.W.Frag} {G H : Hp} : ∀ {fs : Fd} {vs : List (Str × V)}, VFs K G H fs vs → vs.length = fs.length
  | [], _, h => by rw [show _ = [] from h]; rfl
  | (k, b', d') :: r, _, h => by
    obtain ⟨v, q, e1, h1, h2⟩ := h
    subst e1
    rw [List.length_cons, List.length_cons, VFs.len h2]
/-- no class of these has the name -/
def NoF (K : PySem.W.Frag) (cs : List Str) (f : Str) : Prop := ∀ c, c ∈ cs → ∀ C, PySem.W.nsIn K mainGlobals c = some (some (.ref C)) → L2.NoAttr K C f
section
variable {X : Cx} {en : Kn} {δ τ : List Slot} {R : Type} {C : Slot → List Slot → Res R → Prop} {m : Res R}
/-- e.f -/
theorem je_fld {e : Expr} {f : Str} {pos : Pos} (cs : List Str) (hF : NoF X.K cs f)
    (h : JE X en δ τ e (fun s1 δ1 m1 => ∃ d k, s1.stb = some d ∧ m1 = op (fldD cs f d) k ∧ ∀ t, C (.fr t) δ1 (k t)) m) (hbase : attributeBase e f X.env (eval e X.env) = eval e X.env := by rfl) : JE X en δ τ (.Attribute e f pos) C m := .mk fun hb hx σ ts G H T hl hσ W k => by
  refine we_of (pe_fld pe_we hbase) ?_
  have ht : τ.length = ts.length := W.splitLen (hl.trans hσ.symm)
  refine h.run hb hx σ ts G H _ hl hσ W fun s1 δ1 v1 G1 H1 c1 hl1 W1 => ?_
  obtain ⟨d, k', e1, em, hk⟩ := c1
  have hb' := hb
  rw [em] at hb'
  obtain ⟨t, et⟩ := op_some hb'
  have em' : m = k' t := by rw [em, et]; rfl
  have W2 := W1.cut (Δ := δ1 ++ τ) (S := σ ++ ts) (by rw [List.length_append, List.length_append]; omega) (by rw [List.length_append]; omega)
  have q := W1.last
  have vr : VRep X.K G1 H1 d v1 := by
    cases s1 with
    | un => cases e1
    | mu _ => cases e1
    | mp _ _ => cases e1
    | bo _ => cases e1
    | fr d' => cases e1; obtain ⟨u, eu, r⟩ := q; cases eu; exact VRep.of W1.sub r
    | bw d' => cases e1; obtain ⟨u, eu, r⟩ := q; cases eu; exact BRep.vv W1.sub W1.frm r
  cases d <;> first | cases et | skip
  rename_i c fs
  have et' : (if c ∈ cs then (match fs.lookup f with | some (false, d) => some d | _ => none) else none) = some t := et
  split at et'
  · rename_i hc
    obtain ⟨a, CC, dx, vs, ev, F, ha, _, r⟩ := vr
    split at et'
    · rename_i d' el
      cases et'
      obtain ⟨u, eu, ru⟩ := r.get el
      have ru' : Rep X.K G1 t u := by cases t <;> exact ru
      have hk2 := hk t
      rw [← em'] at hk2
      exact ⟨a, CC, dx, vs, u, ev, ha, F.cl, hF c hc CC F.at_, eu, k _ δ1 u G1 H1 hk2 hl1 (W2.out (Grow.refl W2.sub) ru')⟩
    · cases et'
  · cases et'
/-- self.f, a thing that stands fast -/
theorem je_own0 {c f x : Str} {p pos : Pos} {fs : Fd} {d : D} (i : Nat) (hs : δ[i]? = some (.bw (.obj c fs))) (hl : fs.lookup f = some (false, d)) (hF : NoF X.K [c] f) (h : C (.fr d) δ m)
    (hN : X.N[i]? = some x := by rfl) (hv : Vis X.env.scope x := by first | exact Or.inl rfl | exact Or.inr (Or.inl rfl) | exact Or.inr (Or.inr rfl))
    (hd : (x == ("__debug__" : Str)) = false := by decide) (hcd : (x == ("__classdict__" : Str)) = false := by decide) (hbase : attributeBase (.Name x p) f X.env (eval (.Name x p) X.env) = eval (.Name x p) X.env := by rfl) :
    JE X en δ τ (.Attribute (.Name x p) f pos) C m := .mk fun hb hx σ ts G H T hl' hσ W k => by
  obtain ⟨o, h1, v, e, q⟩ := W.name (hl'.trans hσ.symm) hs
  subst e
  refine we_of (pe_fld (pe_var hN hv hd hcd) hbase) ⟨v, h1, ?_⟩
  obtain ⟨a, CC, dx, vs, ev, F, ha, hdx, r⟩ := BRep.vv W.sub W.frm q
  obtain ⟨u, eu, ru⟩ := r.get hl
  have ru' : Rep X.K G d u := by cases d <;> exact ru
  exact ⟨a, CC, dx, vs, u, ev, ha, F.cl, hF c List.mem_cons_self CC F.at_, eu, k _ δ u G H h hl' (W.out (Grow.refl W.sub) ru')⟩
end

/-! ### the instance in hand -/
def putO (f : Str) (b : Bool) (d : D) : Fd → Fd
  | [] => [(f, b, d)]
  | (g, x) :: r => if g = f then (g, b, d) :: r else (g, x) :: putO f b d r
/-- the fields' values; as: the own lists' places -/
def OwF (K : PySem.W.Frag) (G M : Hp) : Fd → List Addr → List (Str × V) → Prop
  | [], as, vs => as = [] ∧ vs = []
  | (k, b, d) :: fs, as, vs => ∃ v r, vs = (k, v) :: r ∧ ((b = false ∧ Rep K G d v ∧ OwF K G M fs as r) ∨ (b = true ∧ ∃ a q, as = a :: q ∧ v = .ref a ∧ MRep K G M d a ∧ OwF K G M fs q r))
section
variable {K : PySem.W.Frag} {G M H : Hp}
theorem MRep.vf : ∀ {d : D} {p : Addr}, MRep K G H d p → VF K G H true d (.ref p)
  | .lst ds, p, h => by obtain ⟨vs, e, r⟩ := h; exact ⟨p, vs, rfl, e, r⟩
  | .dic ds, p, h => by obtain ⟨vs, e, r⟩ := h; exact ⟨p, vs, rfl, e, r⟩
  | .non, _, h => h.elim
  | .bl _, _, h => h.elim
  | .int _, _, h => h.elim
  | .str _, _, h => h.elim
  | .tup _, _, h => h.elim
  | .scr _, _, h => h.elim
  | .exc _ _, _, h => h.elim
  | .obj _ _, _, h => h.elim
theorem OwF.vfs : ∀ {fs : Fd} {as : List Addr} {vs : List (Str × V)}, OwF K G M fs as vs → VFs K G M fs vs
  | [], _, _, h => h.2
  | (k, b, d) :: r, _, _, h => by
    obtain ⟨v, q, e, h1⟩ := h
    rcases h1 with ⟨eb, h1, h2⟩ | ⟨eb, a, q', ea, ev, h1, h2⟩
    · subst eb
      exact ⟨v, q, e, by cases d <;> exact h1, h2.vfs⟩
    · subst eb ev
      exact ⟨_, q, e, h1.vf, h2.vfs⟩
theorem OwF.mono {G' M' : Hp} (sg : Sub G G') : ∀ {fs : Fd} {as : List Addr} {vs : List (Str × V)}, OwF K G M fs as vs → (∀ a, a ∈ as → ∀ o, M a = some o → M' a = some o) → OwF K G' M' fs as vs
  | [], _, _, h, _ => h
  | (k, b, d) :: r, _, _, h, km => by
    obtain ⟨v, q, e, h1⟩ := h
    rcases h1 with ⟨eb, h1, h2⟩ | ⟨eb, a, q', ea, ev, h1, h2⟩
    · exact ⟨v, q, e, .inl ⟨eb, Rep.sub sg _ _ h1, h2.mono sg km⟩⟩
    · subst ea
      exact ⟨v, q, e, .inr ⟨eb, a, q', rfl, ev, h1.keep sg (km a List.mem_cons_self), h2.mono sg fun x hx => km x (List.mem_cons_of_mem _ hx)⟩⟩
theorem OwF.get : ∀ {fs : Fd} {as : List Addr} {vs : List (Str × V)} {f : Str} {b : Bool} {d : D}, OwF K G M fs as vs → fs.lookup f = some (b, d) → ∃ v, vs.lookup f = some v ∧ ((b = false ∧ Rep K G d v) ∨ (b = true ∧ ∃ a, a ∈ as ∧ v = .ref a ∧ MRep K G M d a))
  | [], _, _, _, _, _, _, e => by cases e
  | (k, b', d') :: r, _, _, f, b, d, h, e => by
    obtain ⟨v, q, e1, h1⟩ := h
    subst e1
    by_cases hk : (f == k) = true
    · rw [List.lookup_cons, hk] at e
      cases e
      refine ⟨v, by rw [List.lookup_cons, hk], ?_⟩
      rcases h1 with ⟨eb, h1, h2⟩ | ⟨eb, a, q', ea, ev, h1, h2⟩
      · exact .inl ⟨eb, h1⟩
      · subst ea
        exact .inr ⟨eb, a, List.mem_cons_self, ev, h1⟩
    · have hk : (f == k) = false := by simpa using hk
      rw [List.lookup_cons, hk] at e
      rcases h1 with ⟨eb, h1, h2⟩ | ⟨eb, a, q', ea, ev, h1, h2⟩
      · obtain ⟨u, e2, e3⟩ := h2.get e
        exact ⟨u, by rw [List.lookup_cons, hk]; exact e2, e3⟩
      · subst ea
        obtain ⟨u, e2, e3⟩ := h2.get e
        refine ⟨u, by rw [List.lookup_cons, hk]; exact e2, ?_⟩
        rcases e3 with e3 | ⟨e3, a', m', e4⟩
        · exact .inl e3
        · exact .inr ⟨e3, a', List.mem_cons_of_mem _ m', e4⟩
/-- an own list changed -/
theorem OwF.mut {q : Addr} {o : HO} {d' : D} {f : Str} : ∀ {fs : Fd} {as : List Addr} {vs : List (Str × V)} {d : D}, as.Nodup → OwF K G M fs as vs → fs.lookup f = some (true, d) → vs.lookup f = some (.ref q) → MRep K G (upd M q o) d' q → OwF K G (upd M q o) (putO f true d' fs) as vs
  | [], _, _, _, _, _, e, _, _ => by cases e
  | (k, b', d0) :: r, as, _, d, nd, h, e, ev, hm => by
    obtain ⟨v, vr, e1, h1⟩ := h
    subst e1
    by_cases hk : f = k
    · have hkb : (f == k) = true := by simpa using hk
      rw [List.lookup_cons, hkb] at e ev
      cases e
      cases ev
      rcases h1 with ⟨eb, h1, h2⟩ | ⟨eb, a, q', ea, ev, h1, h2⟩
      · cases eb
      · subst ea
        cases ev
        unfold putO
        rw [if_pos hk.symm]
        refine ⟨_, vr, rfl, .inr ⟨rfl, q, q', rfl, rfl, hm, h2.mono (Sub.refl _) fun x hx o e => ?_⟩⟩
        rw [upd_ne fun z => by subst z; exact (List.nodup_cons.mp nd).1 hx]; exact e
    · have hkb : (f == k) = false := by simpa using hk
      rw [List.lookup_cons, hkb] at e ev
      have e : r.lookup f = some (true, d) := e
      have ev : vr.lookup f = some (.ref q) := ev
      unfold putO
      rw [if_neg (fun z => hk z.symm)]
      rcases h1 with ⟨eb, h1, h2⟩ | ⟨eb, a, q', ea, ev', h1, h2⟩
      · exact ⟨v, vr, rfl, .inl ⟨eb, h1, h2.mut nd e ev hm⟩⟩
      · subst ea
        obtain ⟨n1, n2⟩ := List.nodup_cons.mp nd
        have hq : q ∈ q' := by
          obtain ⟨u, e2, e3⟩ := h2.get e
          rw [ev] at e2
          cases e2
          rcases e3 with ⟨z, _⟩ | ⟨_, a', m', e4, _⟩
          · cases z
          · cases e4; exact m'
        exact ⟨v, vr, rfl, .inr ⟨eb, a, q', rfl, ev', h1.keep (Sub.refl _) fun o e => by rw [upd_ne fun z => by subst z; exact n1 hq]; exact e, h2.mut n2 e ev hm⟩⟩
/-- a field given a thing that stands fast -/
theorem OwF.set0 {f : Str} {d : D} {v : V} (hr : Rep K G d v) : ∀ {fs : Fd} {as : List Addr} {vs : List (Str × V)}, as.Nodup → OwF K G M fs as vs → ∃ as', OwF K G M (putO f false d fs) as' (putF f v vs) ∧ as'.Nodup ∧ ∀ a, a ∈ as' → a ∈ as
  | [], _, _, _, ⟨ea, ev⟩ => by
    subst ea ev
    exact ⟨[], ⟨v, [], rfl, .inl ⟨rfl, hr, rfl, rfl⟩⟩, List.nodup_nil, fun _ h => h⟩
  | (k, b', d0) :: r, as, _, nd, h => by
    obtain ⟨v0, vr, e1, h1⟩ := h
    subst e1
    unfold putO putF
    by_cases hk : k = f
    · rw [if_pos hk, if_pos hk]
      rcases h1 with ⟨eb, h1, h2⟩ | ⟨eb, a, q', ea, ev', h1, h2⟩
      · exact ⟨as, ⟨v, vr, rfl, .inl ⟨rfl, hr, h2⟩⟩, nd, fun _ h => h⟩
      · subst ea
        exact ⟨q', ⟨v, vr, rfl, .inl ⟨rfl, hr, h2⟩⟩, (List.nodup_cons.mp nd).2, fun _ h => List.mem_cons_of_mem _ h⟩
    · rw [if_neg hk, if_neg hk]
      rcases h1 with ⟨eb, h1, h2⟩ | ⟨eb, a, q', ea, ev', h1, h2⟩
      · obtain ⟨as', h3, h4, h5⟩ := h2.set0 hr nd
        exact ⟨as', ⟨v0, _, rfl, .inl ⟨eb, h1, h3⟩⟩, h4, h5⟩
      · subst ea
        obtain ⟨n1, n2⟩ := List.nodup_cons.mp nd
        obtain ⟨as', h3, h4, h5⟩ := h2.set0 hr n2
        refine ⟨a :: as', ⟨v0, _, rfl, .inr ⟨eb, a, as', rfl, ev', h1, h3⟩⟩, List.nodup_cons.mpr ⟨fun z => n1 (h5 a z), h4⟩, fun x hx => ?_⟩
        rcases List.mem_cons.mp hx with z | z
        · rw [z]; exact List.mem_cons_self
        · exact List.mem_cons_of_mem _ (h5 x z)
/-- a field given a new list -/
theorem OwF.set1 {f : Str} {d : D} {q : Addr} (hr : MRep K G M d q) : ∀ {fs : Fd} {as : List Addr} {vs : List (Str × V)}, as.Nodup → q ∉ as → OwF K G M fs as vs → ∃ as', OwF K G M (putO f true d fs) as' (putF f (.ref q) vs) ∧ as'.Nodup ∧ ∀ a, a ∈ as' → a ∈ as ∨ a = q
  | [], _, _, _, _, ⟨ea, ev⟩ => by
    subst ea ev
    exact ⟨[q], ⟨.ref q, [], rfl, .inr ⟨rfl, q, [], rfl, rfl, hr, rfl, rfl⟩⟩, by simp, fun a h => .inr (by simpa using h)⟩
  | (k, b', d0) :: r, as, _, nd, nq, h => by
    obtain ⟨v0, vr, e1, h1⟩ := h
    subst e1
    unfold putO putF
    by_cases hk : k = f
    · rw [if_pos hk, if_pos hk]
      rcases h1 with ⟨eb, h1, h2⟩ | ⟨eb, a, q', ea, ev', h1, h2⟩
      · refine ⟨q :: as, ⟨.ref q, vr, rfl, .inr ⟨rfl, q, as, rfl, rfl, hr, h2⟩⟩, List.nodup_cons.mpr ⟨nq, nd⟩, fun x hx => ?_⟩
        rcases List.mem_cons.mp hx with z | z
        · exact .inr z
        · exact .inl z
      · subst ea
        refine ⟨q :: q', ⟨.ref q, vr, rfl, .inr ⟨rfl, q, q', rfl, rfl, hr, h2⟩⟩, List.nodup_cons.mpr ⟨fun z => nq (List.mem_cons_of_mem _ z), (List.nodup_cons.mp nd).2⟩, fun x hx => ?_⟩
        rcases List.mem_cons.mp hx with z | z
        · exact .inr z
        · exact .inl (List.mem_cons_of_mem _ z)
    · rw [if_neg hk, if_neg hk]
      rcases h1 with ⟨eb, h1, h2⟩ | ⟨eb, a, q', ea, ev', h1, h2⟩
      · obtain ⟨as', h3, h4, h5⟩ := h2.set1 hr nd nq
        exact ⟨as', ⟨v0, _, rfl, .inl ⟨eb, h1, h3⟩⟩, h4, h5⟩
      · subst ea
        obtain ⟨n1, n2⟩ := List.nodup_cons.mp nd
        obtain ⟨as', h3, h4, h5⟩ := h2.set1 hr n2 fun z => nq (List.mem_cons_of_mem _ z)
        refine ⟨a :: as', ⟨v0, _, rfl, .inr ⟨eb, a, as', rfl, ev', h1, h3⟩⟩, List.nodup_cons.mpr ⟨fun z => ?_, h4⟩, fun x hx => ?_⟩
        · rcases h5 a z with z | z
          · exact n1 z
          · exact nq (z ▸ List.mem_cons_self)
        · rcases List.mem_cons.mp hx with z | z
          · exact .inl (z ▸ List.mem_cons_self)
          · rcases h5 x z with z | z
            · exact .inl (List.mem_cons_of_mem _ z)
            · exact .inr z
end
/-- the instance at p, with all that is its own in M -/
def ObM (K : PySem.W.Frag) (G M : Hp) (c : Str) (p : Addr) (fs : Fd) : Prop :=
  ∃ C dx vs as, ObF K c C ∧ M p = some (.ins C dx vs) ∧ M dx = some (.own p) ∧ OwF K G M fs as vs ∧ as.Nodup
theorem OwF.own {K : PySem.W.Frag} {G M : Hp} : ∀ {fs : Fd} {as : List Addr} {vs : List (Str × V)}, OwF K G M fs as vs → ∀ a, a ∈ as → ∃ d, MRep K G M d a
  | [], _, _, h, a, ha => by rw [h.1] at ha; cases ha
  | (k, b, d) :: r, _, _, h, a, ha => by
    obtain ⟨v, q, e, h1⟩ := h
    rcases h1 with ⟨eb, h1, h2⟩ | ⟨eb, a', q', ea, ev, h1, h2⟩
    · exact h2.own a ha
    · subst ea
      rcases List.mem_cons.mp ha with z | z
      · subst z; exact ⟨d, h1⟩
      · exact h2.own a z
abbrev Kn.ext (en : Kn) (M : Hp) : Kn := { en with F0 := uni M en.F0 }
structure KnX (en en' : Kn) : Prop where
  n : en'.n = en.n
  ps : en'.ps = en.ps
  HX : en'.HX = en.HX
  F0 : Sub en.F0 en'.F0
theorem KnX.lk {X : Cx} {en en' : Kn} (h : KnX en en') (l : Lk X en) : Lk X en' := by
  obtain ⟨W, t, k⟩ := l
  exact ⟨W, t, fun x hx cls d σ H' e s => k x (h.HX ▸ hx) cls d σ H' (e.to fun a h1 h2 => ⟨h.F0.none h1, h.ps ▸ h2⟩) (h.F0.trans s)⟩
/-- what is borrowed, by place -/
def bwk : List Slot → List (Option D)
  | [] => []
  | .bw d :: r => some d :: bwk r
  | _ :: r => none :: bwk r
theorem bwk_get : ∀ {δ : List Slot} {j : Nat} {d : D}, δ[j]? = some (.bw d) ↔ (bwk δ)[j]? = some (some d)
  | [], j, d => by simp [bwk]
  | .bw e :: r, 0, d => by simp [bwk]
  | .un :: r, 0, d => by simp [bwk]
  | .fr _ :: r, 0, d => by simp [bwk]
  | .mu _ :: r, 0, d => by simp [bwk]
  | .mp _ _ :: r, 0, d => by simp [bwk]
  | .bo _ :: r, 0, d => by simp [bwk]
  | .bw e :: r, j + 1, d => by simpa [bwk] using bwk_get (δ := r) (j := j)
  | .un :: r, j + 1, d => by simpa [bwk] using bwk_get (δ := r) (j := j)
  | .fr _ :: r, j + 1, d => by simpa [bwk] using bwk_get (δ := r) (j := j)
  | .mu _ :: r, j + 1, d => by simpa [bwk] using bwk_get (δ := r) (j := j)
  | .mp _ _ :: r, j + 1, d => by simpa [bwk] using bwk_get (δ := r) (j := j)
  | .bo _ :: r, j + 1, d => by simpa [bwk] using bwk_get (δ := r) (j := j)
/-- the state within a def that has an instance of its own in hand: the name at i, the object at p, its parts in M -/
structure OSt (K : PySem.W.Frag) (en : Kn) (i : Nat) (c : Str) (p : Addr) (δ : List Slot) (σ : L2.St) (M G H : Hp) : Prop where
  wd : Wd K (en.ext M) δ σ G H
  mo : ∀ a o, M a = some o → en.F0 a = none ∧ en.G0 a = none ∧ a ∉ en.ps
  at_ : σ[i]? = some (some (.ref p))
  ob : ∃ fs, δ[i]? = some (.bw (.obj c fs)) ∧ ObM K G M c p fs
  bw : ∀ (j : Nat) d v, j ≠ i → δ[j]? = some (.bw d) → σ[j]? = some (some v) → BRep K G en.F0 d v
section
variable {K : PySem.W.Frag} {en : Kn} {i : Nat} {c : Str} {p : Addr} {δ δ' : List Slot} {σ σ' : L2.St} {M G H G' H' : Hp}
theorem OSt.fsub (O : OSt K en i c p δ σ M G H) : Sub en.F0 (en.ext M).F0 := fun a o e => by
  show uni M en.F0 a = some o
  unfold uni
  cases z : M a with
  | none => exact e
  | some u => rw [(O.mo a u z).1] at e; cases e
theorem OSt.msub (O : OSt K en i c p δ σ M G H) : Sub M H := fun a o e => O.wd.frm a o (uni_l a o e)
theorem OSt.gnone (O : OSt K en i c p δ σ M G H) {a : Addr} {o : HO} (h : M a = some o) : G a = none := by
  cases z : G a with
  | none => rfl
  | some u =>
    rcases O.wd.new a u z with q | ⟨q, _⟩
    · have := (O.mo a o h).2.1
      have q : en.G0 a = some u := q
      rw [this] at q; cases q
    · have q : uni M en.F0 a = none := q
      unfold uni at q
      rw [h] at q; cases q
theorem OSt.nown (O : OSt K en i c p δ σ M G H) {a : Addr} {o : HO} (h : M a = some o) {j : Nat} : ¬ Own δ σ j a := fun ⟨sl, e1, e2, e3⟩ => by
  have q := O.wd.slot j sl _ e1 e3
  have f0 : uni M en.F0 a = some o := uni_l a o h
  cases sl with
  | mu d => obtain ⟨p2, e, _, f, _, r⟩ := q; cases e; have f : uni M en.F0 a = none := f; rw [f0] at f; cases f
  | mp _ d => obtain ⟨p2, e, _, _, f, r⟩ := q; cases e; have f : uni M en.F0 a = none := f; rw [f0] at f; cases f
  | un => cases e2
  | fr _ => cases e2
  | bw _ => cases e2
  | bo _ => cases e2
theorem ObM.g (s : Sub G G') {fs : Fd} (h : ObM K G M c p fs) : ObM K G' M c p fs := by
  obtain ⟨C, dx, vs, as, h1, h2, h3, h4, h5⟩ := h
  exact ⟨C, dx, vs, as, h1, h2, h3, h4.mono s fun _ _ _ e => e, h5⟩
/-- on, the instance as it was -/
theorem OSt.keep (O : OSt K en i c p δ σ M G H) (W : Wd K (en.ext M) δ' σ' G' H') (sg : Sub G G') (hb : bwk δ' = bwk δ) (hs : ∀ (j : Nat) d, δ[j]? = some (.bw d) → σ'[j]? = σ[j]?) : OSt K en i c p δ' σ' M G' H' where
  wd := W
  mo := O.mo
  at_ := by
    obtain ⟨fs, h1, _⟩ := O.ob
    rw [hs i _ h1]; exact O.at_
  ob := by
    obtain ⟨fs, h1, h2⟩ := O.ob
    exact ⟨fs, bwk_get.mpr (by rw [hb]; exact bwk_get.mp h1), h2.g sg⟩
  bw := fun j d v hj h1 h2 => by
    have h3 : δ[j]? = some (.bw d) := bwk_get.mpr (by rw [← hb]; exact bwk_get.mp h1)
    rw [hs j d h3] at h2
    exact BRep.sub sg (Sub.refl _) (O.bw j d v hj h3 h2)
theorem VRep.ob {fs : Fd} (h : ObM K G M c p fs) (s : Sub M H) : VRep K G H (.obj c fs) (.ref p) := by
  obtain ⟨C, dx, vs, as, h1, h2, h3, h4, h5⟩ := h
  exact ⟨p, C, dx, vs, rfl, h1, s _ _ h2, s _ _ h3, VFs.sub (Sub.refl _) s h4.vfs⟩
/-- the instance is changed -/
theorem OSt.chg {M' : Hp} {fs' : Fd} (O : OSt K en i c p δ σ M G H) (hnb : noBo δ = true) (dom : ∀ a, M' a = none → M a = none) (sM : Sub M' H') (oth : ∀ a, M' a = none → H' a = H a)
    (new : ∀ a o, M' a = some o → M a = none → en.F0 a = none ∧ en.G0 a = none ∧ a ∉ en.ps ∧ G a = none ∧ ∀ j, ¬ Own δ σ j a) (ob : ObM K G M' c p fs') : OSt K en i c p (δ.set i (.bw (.obj c fs'))) σ M' G H' := by
  have mo' : ∀ a o, M' a = some o → en.F0 a = none ∧ en.G0 a = none ∧ a ∉ en.ps ∧ G a = none ∧ ∀ j, ¬ Own δ σ j a := fun a o e => by
    cases z : M a with
    | none => exact new a o e z
    | some u =>
      obtain ⟨h1, h2, h3⟩ := O.mo a u z
      exact ⟨h1, h2, h3, O.gnone z, fun j => O.nown z⟩
  have nm : ∀ {a : Addr} {P : Prop}, (∀ o, M' a = some o → False) → M' a = none := fun {a P} h => by
    cases z : M' a with
    | none => rfl
    | some o => exact (h o z).elim
  obtain ⟨fs, hi, hob⟩ := O.ob
  have hil := (List.getElem?_eq_some_iff.mp hi).1
  have f0 : ∀ {a : Addr}, uni M en.F0 a = none → en.F0 a = none := fun {a} h => by
    unfold uni at h
    split at h
    · cases h
    · exact h
  have nu : ∀ {a : Addr}, en.F0 a = none → M' a = none → uni M' en.F0 a = none := fun {a} h1 h2 => by
    unfold uni; rw [h2]; exact h1
  have fsub : Sub en.F0 (uni M' en.F0) := fun a o e => by
    unfold uni
    cases z : M' a with
    | none => exact e
    | some u => rw [(mo' a u z).1] at e; cases e
  have get : ∀ (j : Nat) sl, (δ.set i (.bw (.obj c fs')))[j]? = some sl → (j = i ∧ sl = .bw (.obj c fs')) ∨ (j ≠ i ∧ δ[j]? = some sl) := fun j sl h => by
    by_cases hj : j = i
    · subst hj
      rw [List.getElem?_set_self hil] at h
      exact .inl ⟨rfl, (Option.some.inj h).symm⟩
    · rw [List.getElem?_set_ne (Ne.symm hj)] at h
      exact .inr ⟨hj, h⟩
  have own : ∀ {j : Nat} {a : Addr}, Own (δ.set i (.bw (.obj c fs'))) σ j a → Own δ σ j a := fun {j a} ⟨sl, e1, e2, e3⟩ => by
    rcases get j sl e1 with ⟨_, z⟩ | ⟨_, z⟩
    · subst z; cases e2
    · exact ⟨sl, z, e2, e3⟩
  have Wn : Wd K (en.ext M') (δ.set i (.bw (.obj c fs'))) σ G H' := {
    len := by rw [List.length_set]; exact O.wd.len
    sub := fun a o e => by
      rw [oth a (nm (P := True) fun u z => by rw [(mo' a u z).2.2.2.1] at e; cases e)]; exact O.wd.sub a o e
    ext := O.wd.ext
    new := fun a o e => by
      rcases O.wd.new a o e with q | ⟨q1, q2⟩
      · exact .inl q
      · exact .inr ⟨nu (f0 q1) (nm (P := True) fun u z => by rw [(mo' a u z).2.2.2.1] at e; cases e), q2⟩
    frm := fun a o e => by
      have e : uni M' en.F0 a = some o := e
      unfold uni at e
      cases z : M' a with
      | some u => rw [z] at e; cases e; exact sM a _ z
      | none =>
        rw [z] at e
        rw [oth a z]
        exact O.wd.frm a o (O.fsub a o e)
    stay := fun a h => by
      rw [oth a (nm (P := True) fun u z => (mo' a u z).2.2.1 h)]; exact O.wd.stay a h
    nd := O.wd.nd
    slot := fun j sl o h1 h2 => by
      rcases get j sl h1 with ⟨z, e⟩ | ⟨hj, h3⟩
      · subst z e
        rw [O.at_] at h2
        cases h2
        exact ⟨_, rfl, BRep.mk (VRep.ob ob uni_l) fun z => by cases z⟩
      · have q := O.wd.slot j sl o h3 h2
        cases sl with
        | un => trivial
        | fr d => exact q
        | mu d =>
          obtain ⟨a, e, n1, n2, n3, r⟩ := q
          subst e
          have z : M' a = none := nm (P := True) fun u z => (mo' a u z).2.2.2.2 j ⟨_, h3, rfl, h2⟩
          exact ⟨a, rfl, n1, nu (f0 n2) z, n3, r.keep (Sub.refl _) fun o e => by rw [oth a z]; exact e⟩
        | mp l d =>
          obtain ⟨a, e, n0, n1, n2, r⟩ := q
          subst e
          have z : M' a = none := nm (P := True) fun u z => (mo' a u z).2.2.2.2 j ⟨_, h3, rfl, h2⟩
          exact ⟨a, rfl, n0, n1, nu (f0 n2) z, r.keep (Sub.refl _) fun o e => by rw [oth a z]; exact e⟩
        | bw d =>
          obtain ⟨v, e, _⟩ := q
          subst e
          exact ⟨v, rfl, BRep.sub (Sub.refl _) fsub (O.bw j d v hj h3 h2)⟩
        | bo l => exact (noBo_get hnb h3).elim
    apart := fun j l a h1 h2 => O.wd.apart j l a (own h1) (own h2) }
  refine ⟨Wn, fun a o e => ⟨(mo' a o e).1, (mo' a o e).2.1, (mo' a o e).2.2.1⟩, O.at_, ⟨fs', by rw [List.getElem?_set_self hil], ob⟩, fun j d v hj h1 h2 => ?_⟩
  rcases get j _ h1 with ⟨z, _⟩ | ⟨_, h3⟩
  · exact (hj z).elim
  · exact O.bw j d v hj h3 h2
end
end BR

/-! K51: the statements of a def that has an instance of its own in hand -/
namespace BR
open PySem PySem.Spec PyProof.Rows L2
section
variable (X : Cx) (en : Kn) (i : Nat) (c : Str)
structure JY (δ : List Slot) (st : Stmt) {R : Type} (N : List Slot → Res R → Prop) (RT : Slot → List Slot → Res R → Prop) (BK CT : List Slot → Res R → Prop) (m : Res R) : Prop where
  run : m ≠ .bad → en.HX m.exc → ∀ (σ : L2.St) (G H M : Hp) (p : Addr) (E : Ends), δ.length = en.n → OSt X.K en i c p δ σ M G H →
    (∀ δ' σ' G' H' M', N δ' m → δ'.length = en.n → OSt X.K en i c p δ' σ' M' G' H' → E.nx σ' H') →
    (∀ sl δ' v σ' G' H' M', RT sl δ' m → δ'.length = en.n → OSt X.K en i c p (δ' ++ [sl]) (σ' ++ [some v]) M' G' H' → E.rt v H') →
    (∀ δ' σ' G' H' M', BK δ' m → δ'.length = en.n → OSt X.K en i c p δ' σ' M' G' H' → E.bk σ' H') →
    (∀ δ' σ' G' H' M', CT δ' m → δ'.length = en.n → OSt X.K en i c p δ' σ' M' G' H' → E.ct σ' H') → WS X st E σ H
structure JYs (δ : List Slot) (st : List Stmt) {R : Type} (N : List Slot → Res R → Prop) (RT : Slot → List Slot → Res R → Prop) (BK CT : List Slot → Res R → Prop) (m : Res R) : Prop where
  run : m ≠ .bad → en.HX m.exc → ∀ (σ : L2.St) (G H M : Hp) (p : Addr) (E : Ends), δ.length = en.n → OSt X.K en i c p δ σ M G H →
    (∀ δ' σ' G' H' M', N δ' m → δ'.length = en.n → OSt X.K en i c p δ' σ' M' G' H' → E.nx σ' H') →
    (∀ sl δ' v σ' G' H' M', RT sl δ' m → δ'.length = en.n → OSt X.K en i c p (δ' ++ [sl]) (σ' ++ [some v]) M' G' H' → E.rt v H') →
    (∀ δ' σ' G' H' M', BK δ' m → δ'.length = en.n → OSt X.K en i c p δ' σ' M' G' H' → E.bk σ' H') →
    (∀ δ' σ' G' H' M', CT δ' m → δ'.length = en.n → OSt X.K en i c p δ' σ' M' G' H' → E.ct σ' H') → WSs X st E σ H
end
section
variable {X : Cx} {en : Kn} {i : Nat} {c : Str} {p : Addr} {δ δ' : List Slot} {σ σ' : L2.St} {M G H G' H' : Hp} {R : Type} {m : Res R}
theorem OSt.sl (O : OSt X.K en i c p δ σ M G H) (hl : δ.length = en.n) : List.length σ = en.n := O.wd.sl (en := en.ext M) hl
theorem OSt.je {e : Expr} {C : Slot → List Slot → Res R → Prop} (h : ∀ en', KnX en en' → JE X en' δ [] e C m) (hb : m ≠ .bad) (hx : en.HX m.exc) {T : VK} (hl : δ.length = en.n) (O : OSt X.K en i c p δ σ M G H)
    (k : ∀ sl δ' v G' H', C sl δ' m → δ'.length = en.n → Wd X.K (en.ext M) (δ' ++ [sl]) (σ ++ [some v]) G' H' → Sub G G' → T v H') : WE X e σ H T :=
  (h ((en.ext M).at G) ⟨rfl, rfl, rfl, O.fsub⟩).at hb hx hl O.wd.from fun sl δ' v G' H' cc hl' W' => k sl δ' v G' H' cc hl' (O.wd.back W') W'.ext
theorem OSt.le (O : OSt X.K en i c p δ σ M G H) (h : Le δ δ') (hi : ∃ fs, δ'[i]? = some (.bw (.obj c fs))) : OSt X.K en i c p δ' σ M G H where
  wd := O.wd.le h
  mo := O.mo
  at_ := O.at_
  ob := by
    obtain ⟨fs, e⟩ := hi
    rcases h.get e with z | z
    · cases z
    · obtain ⟨fs', e2, o⟩ := O.ob
      rw [e2] at z
      cases z
      exact ⟨fs, e, o⟩
  bw := fun j d v hj h1 h2 => by
    rcases h.get h1 with z | z
    · cases z
    · exact O.bw j d v hj z h2
/-- the state with a thing at hand, from the state without -/
theorem OSt.snoc {sl : Slot} {v : V} (O : OSt X.K en i c p δ σ M G H) (W : Wd X.K (en.ext M) (δ' ++ [sl]) (σ ++ [some v]) G' H') (sg : Sub G G') (hl : δ'.length = en.n) (hl0 : δ.length = en.n) (hb : bwk δ' = bwk δ) (hs : ∀ d, sl ≠ .bw d) : OSt X.K en i c p (δ' ++ [sl]) (σ ++ [some v]) M G' H' := by
  have hσ := O.sl hl0
  have O' : OSt X.K en i c p δ' σ M G' H' := O.keep (W.one (en := en.ext M) hl hσ) sg hb fun _ _ _ => rfl
  obtain ⟨fs, h1, h2⟩ := O'.ob
  refine ⟨W, O'.mo, ?_, ⟨fs, ?_, h2⟩, fun j d v hj e1 e2 => ?_⟩
  · rw [List.getElem?_append_left (List.getElem?_eq_some_iff.mp O'.at_).1]; exact O'.at_
  · rw [List.getElem?_append_left (List.getElem?_eq_some_iff.mp h1).1]; exact h1
  · by_cases hjl : j < δ'.length
    · rw [List.getElem?_append_left hjl] at e1
      rw [List.getElem?_append_left (by omega)] at e2
      exact O'.bw j d v hj e1 e2
    · have hj2 : j = δ'.length := by
        have := (List.getElem?_eq_some_iff.mp e1).1
        rw [List.length_append] at this
        have e1 : [sl].length = 1 := rfl
        omega
      subst hj2
      rw [getElem?_last] at e1
      exact (hs d (Option.some.inj e1)).elim
theorem OSt.drop {sl : Slot} {v : V} (O : OSt X.K en i c p (δ ++ [sl]) (σ ++ [some v]) M G H) (hl : δ.length = en.n) (hi : i < δ.length) : OSt X.K en i c p δ σ M G H := by
  have hσ : σ.length = en.n := by
    have := O.wd.len
    rw [List.length_append, List.length_append] at this
    have e1 : [sl].length = 1 := rfl
    have e2 : [some v].length = 1 := rfl
    omega
  obtain ⟨fs, h1, h2⟩ := O.ob
  refine ⟨O.wd.one (en := en.ext M) hl hσ, O.mo, ?_, ⟨fs, ?_, h2⟩, fun j d u hj e1 e2 => O.bw j d u hj ?_ ?_⟩
  · have := O.at_
    rwa [List.getElem?_append_left (by omega)] at this
  · rwa [List.getElem?_append_left hi] at h1
  · rw [List.getElem?_append_left (List.getElem?_eq_some_iff.mp e1).1]; exact e1
  · rw [List.getElem?_append_left (List.getElem?_eq_some_iff.mp e2).1]; exact e2
end
section
variable {X : Cx} {en : Kn} {i : Nat} {c : Str} {δ : List Slot} {R : Type} {m : Res R} {pos : Pos}
variable {N : List Slot → Res R → Prop} {RT : Slot → List Slot → Res R → Prop} {BK CT : List Slot → Res R → Prop}
theorem jys_cons {st : Stmt} {rest : List Stmt} (h : JY X en i c δ st (fun δ1 m1 => JYs X en i c δ1 rest N RT BK CT m1) RT BK CT m) : JYs X en i c δ (st :: rest) N RT BK CT m := .mk fun hb hx σ G H M p E hl O k1 k2 k3 k4 =>
  wss_of (pss_cons ps_ws pss_wss) (h.run hb hx σ G H M p _ hl O (fun δ' σ' G' H' M' cc hl' O' => cc.run hb hx σ' G' H' M' p E hl' O' k1 k2 k3 k4) k2 k3 k4)
theorem jys_one {st : Stmt} (h : JY X en i c δ st N RT BK CT m) : JYs X en i c δ [st] N RT BK CT m := .mk fun hb hx σ G H M p E hl O k1 k2 k3 k4 =>
  wss_of (pss_one ps_ws) (h.run hb hx σ G H M p E hl O k1 k2 k3 k4)
/-- not borrowed -/
def nbw (s : Slot) : Bool := match s with
  | .fr _ => true
  | .mu _ => true
  | _ => false
end

/-! ### fields set, own lists changed -/
def sFs (f : Str) (fs : Fd) : Slot → Option Fd
  | .fr d => some (putO f false d fs)
  | .mu d => some (putO f true d fs)
  | _ => none
section
variable {X : Cx} {en : Kn} {i : Nat} {c : Str} {p : Addr} {δ δ' : List Slot} {σ σ' : L2.St} {M G H G' H' : Hp} {R : Type} {m : Res R} {pos : Pos}
variable {N : List Slot → Res R → Prop} {RT : Slot → List Slot → Res R → Prop} {BK CT : List Slot → Res R → Prop}
/-- the instance's fields at hand -/
theorem OSt.fld (O : OSt X.K en i c p δ σ M G H) : ∃ fs C dx vs as, δ[i]? = some (.bw (.obj c fs)) ∧ ObF X.K c C ∧ M p = some (.ins C dx vs) ∧ H p = some (.ins C dx vs) ∧ M dx = some (.own p) ∧ OwF X.K G M fs as vs ∧ as.Nodup := by
  obtain ⟨fs, h1, C, dx, vs, as, h2, h3, h4, h5, h6⟩ := O.ob
  exact ⟨fs, C, dx, vs, as, h1, h2, h3, O.msub _ _ h3, h4, h5, h6⟩
theorem OwF.len {K : PySem.W.Frag} {fs : Fd} {as : List Addr} {vs : List (Str × V)} (h : OwF K G M fs as vs) : vs.length = fs.length := h.vfs.len
theorem OwF.nin {K : PySem.W.Frag} {fs : Fd} {as : List Addr} {vs : List (Str × V)} (h : OwF K G M fs as vs) {a : Addr} {C dx : Addr} {us : List (Str × V)} (e : M a = some (.ins C dx us)) : a ∉ as := fun ha => by
  obtain ⟨d, r⟩ := h.own a ha
  cases d <;> first | exact r.elim | (obtain ⟨_, e2, _⟩ := r; rw [e] at e2; cases e2)
theorem OwF.nown {K : PySem.W.Frag} {fs : Fd} {as : List Addr} {vs : List (Str × V)} (h : OwF K G M fs as vs) {a y : Addr} (e : M a = some (.own y)) : a ∉ as := fun ha => by
  obtain ⟨d, r⟩ := h.own a ha
  cases d <;> first | exact r.elim | (obtain ⟨_, e2, _⟩ := r; rw [e] at e2; cases e2)
/-- a field given a thing that stands fast -/
theorem OSt.set0 {f : Str} {d : D} {v : V} {fs : Fd} {C dx : Addr} {vs : List (Str × V)} (O : OSt X.K en i c p δ σ M G H) (hnb : noBo δ = true) (hi : δ[i]? = some (.bw (.obj c fs))) (hp : M p = some (.ins C dx vs)) (hr : Rep X.K G d v) :
    OSt X.K en i c p (δ.set i (.bw (.obj c (putO f false d fs)))) σ (upd M p (.ins C dx (putF f v vs))) G (upd H p (.ins C dx (putF f v vs))) := by
  obtain ⟨fs', h1, C', dx', vs', as, h2, h3, h4, h5, h6⟩ := O.ob
  rw [hi] at h1; cases h1
  rw [hp] at h3; cases h3
  have hdx : dx ≠ p := ne_of h4 hp (fun z => by cases z)
  refine O.chg hnb (fun a h => ?_) (fun a o e => ?_) (fun a h => ?_) (fun a o e h => ?_) ?_
  · by_cases ha : a = p
    · subst ha; rw [upd_same] at h; cases h
    · rw [upd_ne ha] at h; exact h
  · by_cases ha : a = p
    · subst ha; rw [upd_same] at e ⊢; exact e
    · rw [upd_ne ha] at e ⊢; exact O.msub _ _ e
  · by_cases ha : a = p
    · subst ha; rw [upd_same] at h; cases h
    · exact upd_ne ha
  · by_cases ha : a = p
    · subst ha; rw [hp] at h; cases h
    · rw [upd_ne ha, h] at e; cases e
  · obtain ⟨as', g1, g2, g3⟩ := h5.set0 (f := f) hr h6
    refine ⟨C, dx, _, as', h2, upd_same, by rw [upd_ne hdx]; exact h4, g1.mono (Sub.refl _) fun a ha o e => ?_, g2⟩
    rw [upd_ne fun z => by subst z; exact h5.nin hp (g3 _ ha)]; exact e
/-- a field given a new list -/
theorem OSt.set1 {f : Str} {d : D} {q : Addr} {fs : Fd} {C dx : Addr} {vs : List (Str × V)} {u : HO} (O : OSt X.K en i c p δ σ M G H) (hnb : noBo δ = true) (hi : δ[i]? = some (.bw (.obj c fs))) (hp : M p = some (.ins C dx vs))
    (hr : MRep X.K G H d q) (hu : H q = some u) (n1 : G q = none) (n2 : uni M en.F0 q = none) (n3 : q ∉ en.ps) (n4 : ∀ j, ¬ Own δ σ j q) (n5 : en.G0 q = none) :
    OSt X.K en i c p (δ.set i (.bw (.obj c (putO f true d fs)))) σ (upd (upd M q u) p (.ins C dx (putF f (.ref q) vs))) G (upd H p (.ins C dx (putF f (.ref q) vs))) := by
  obtain ⟨fs', h1, C', dx', vs', as, h2, h3, h4, h5, h6⟩ := O.ob
  rw [hi] at h1; cases h1
  rw [hp] at h3; cases h3
  have hdx : dx ≠ p := ne_of h4 hp (fun z => by cases z)
  have mq : M q = none := by
    unfold uni at n2
    split at n2
    · cases n2
    · assumption
  have fq : en.F0 q = none := by
    unfold uni at n2
    rw [mq] at n2; exact n2
  have hqp : q ≠ p := fun z => by subst z; rw [hp] at mq; cases mq
  have hqd : q ≠ dx := fun z => by subst z; rw [h4] at mq; cases mq
  refine O.chg hnb (fun a h => ?_) (fun a o e => ?_) (fun a h => ?_) (fun a o e h => ?_) ?_
  · by_cases ha : a = p
    · subst ha; rw [upd_same] at h; cases h
    · rw [upd_ne ha] at h
      by_cases hb : a = q
      · subst hb; rw [upd_same] at h; cases h
      · rw [upd_ne hb] at h; exact h
  · by_cases ha : a = p
    · subst ha; rw [upd_same] at e ⊢; exact e
    · rw [upd_ne ha] at e ⊢
      by_cases hb : a = q
      · subst hb; rw [upd_same] at e; cases e; exact hu
      · rw [upd_ne hb] at e; exact O.msub _ _ e
  · by_cases ha : a = p
    · subst ha; rw [upd_same] at h; cases h
    · exact upd_ne ha
  · by_cases ha : a = p
    · subst ha; rw [hp] at h; cases h
    · rw [upd_ne ha] at e
      by_cases hb : a = q
      · subst hb; exact ⟨fq, n5, n3, n1, n4⟩
      · rw [upd_ne hb, h] at e; cases e
  · have nas : q ∉ as := fun z => by
      obtain ⟨d', r⟩ := h5.own q z
      obtain ⟨o, eo⟩ := r.ex
      rw [mq] at eo; cases eo
    have h5' : OwF X.K G (upd M q u) fs as vs := h5.mono (Sub.refl _) fun a ha o e => by rw [upd_ne fun z => by subst z; exact nas ha]; exact e
    obtain ⟨as', g1, g2, g3⟩ := h5'.set1 (f := f) (q := q) (hr.keep (Sub.refl _) fun o e => by rw [upd_same]; rw [hu] at e; exact e) h6 nas
    refine ⟨C, dx, _, as', h2, upd_same, by rw [upd_ne hdx, upd_ne (Ne.symm hqd)]; exact h4, g1.mono (Sub.refl _) fun a ha o e => ?_, g2⟩
    rw [upd_ne fun z => by
      subst z
      rcases g3 _ ha with z | z
      · exact h5.nin hp z
      · exact hqp z.symm]
    exact e
/-- self.f = e -/
theorem jy_fset {f x : Str} {e : Expr} {px pos' : Pos} (hF : NoF X.K [c] f)
    (h : ∀ en', KnX en en' → JE X en' δ [] e (fun s δ1 m1 => ∃ fs fs' δ2, bwk δ1 = bwk δ ∧ noBo δ1 = true ∧ δ1[i]? = some (.bw (.obj c fs)) ∧ fs.length.ble 900 = true ∧ sFs f fs s = some fs' ∧ δ1.set i (.bw (.obj c fs')) = δ2 ∧ N δ2 m1) m)
    (hN : X.N[i]? = some x := by rfl) (hv : Vis X.env.scope x := by first | exact Or.inl rfl | exact Or.inr (Or.inl rfl) | exact Or.inr (Or.inr rfl)) (hdd : (x == ("__debug__" : Str)) = false := by decide) (hcd : (x == ("__classdict__" : Str)) = false := by decide)
    (hs : swapsWith e (some (.Attribute (.Name x px) f pos')) pos.line X.env = pure false := by rfl) : JY X en i c δ (.Assign [.Attribute (.Name x px) f pos'] e pos) N RT BK CT m := .mk fun hb hx σ G H M p E hl O k1 k2 k3 k4 => by
  refine ws_of (ps_fld (pe_var hN hv hdd hcd) pe_we hs) ?_
  refine O.je h hb hx hl fun sl δ1 v G1 H1 ⟨fs, fs', δ2, eb, nb, e1, few, e2, ed, cc⟩ hl1 W1 sg => ?_
  have hσ := O.sl hl
  have O1 : OSt X.K en i c p δ1 σ M G1 H1 := O.keep (W1.one (en := en.ext M) hl1 hσ) sg eb fun _ _ _ => rfl
  obtain ⟨fs0, C, dx, vs, as, h1, h2, h3, h3', h4, h5, h6⟩ := O1.fld
  rw [e1] at h1; cases h1
  refine ⟨.ref p, O1.at_, p, C, dx, vs, rfl, h3', h2.cl, hF c List.mem_cons_self C h2.at_, ?_, ?_⟩
  · rw [h5.len]; have := Nat.le_of_ble_eq_true few; omega
  · subst ed
    cases sl with
    | fr d =>
      cases e2
      obtain ⟨v', ev, r⟩ := W1.last
      cases ev
      exact k1 _ σ G1 _ _ cc (by rw [List.length_set]; exact hl1) (O1.set0 nb e1 h3 r)
    | mu d =>
      cases e2
      obtain ⟨q, ev, n1, n2, n3, r⟩ := W1.last
      cases ev
      obtain ⟨u, hu⟩ := r.ex
      refine k1 _ σ G1 _ _ cc (by rw [List.length_set]; exact hl1) (O1.set1 nb e1 h3 r hu n1 n2 n3 (fun j ow => ?_) ?_)
      · obtain ⟨s, a1, a2, a3⟩ := ow
        have hj := (List.getElem?_eq_some_iff.mp a1).1
        have ow1 : Own (δ1 ++ [.mu d]) (σ ++ [some (.ref q)]) j q := ⟨s, by rw [List.getElem?_append_left hj]; exact a1, a2, by rw [List.getElem?_append_left (by omega)]; exact a3⟩
        have ow2 : Own (δ1 ++ [.mu d]) (σ ++ [some (.ref q)]) δ1.length q := ⟨.mu d, getElem?_last, rfl, by rw [show δ1.length = σ.length by omega]; exact getElem?_last⟩
        have := W1.apart _ _ _ ow1 ow2
        omega
      · cases z : en.G0 q with
        | none => rfl
        | some o => have := W1.ext q o z; rw [n1] at this; cases this
    | un => cases e2
    | mp _ _ => cases e2
    | bw _ => cases e2
    | bo _ => cases e2
/-- an own list of the instance changed -/
theorem OSt.mut {f : Str} {d d' : D} {q : Addr} {fs : Fd} {C dx : Addr} {vs : List (Str × V)} {u : HO} (O : OSt X.K en i c p δ σ M G H) (hnb : noBo δ = true) (hi : δ[i]? = some (.bw (.obj c fs))) (hf : fs.lookup f = some (true, d)) (hp : M p = some (.ins C dx vs)) (hq : vs.lookup f = some (.ref q))
    (hr : MRep X.K G (upd H q u) d' q) : OSt X.K en i c p (δ.set i (.bw (.obj c (putO f true d' fs)))) σ (upd M q u) G (upd H q u) := by
  obtain ⟨fs', h1, C', dx', vs', as, h2, h3, h4, h5, h6⟩ := O.ob
  rw [hi] at h1; cases h1
  rw [hp] at h3; cases h3
  obtain ⟨v0, e0, r0⟩ := h5.get hf
  rw [hq] at e0; cases e0
  obtain ⟨hqa, hqr⟩ : q ∈ as ∧ MRep X.K G M d q := by
    rcases r0 with ⟨z, _⟩ | ⟨_, a, ha, ea, r⟩
    · cases z
    · cases ea; exact ⟨ha, r⟩
  obtain ⟨u0, eu0⟩ := hqr.ex
  have hqp : p ≠ q := fun z => by subst z; exact h5.nin hp hqa
  have hqd : dx ≠ q := fun z => by subst z; exact h5.nown h4 hqa
  refine O.chg hnb (fun a h => ?_) (fun a o e => ?_) (fun a h => ?_) (fun a o e h => ?_) ?_
  · by_cases ha : a = q
    · subst ha; rw [upd_same] at h; cases h
    · rw [upd_ne ha] at h; exact h
  · by_cases ha : a = q
    · subst ha; rw [upd_same] at e ⊢; exact e
    · rw [upd_ne ha] at e ⊢; exact O.msub _ _ e
  · by_cases ha : a = q
    · subst ha; rw [upd_same] at h; cases h
    · exact upd_ne ha
  · by_cases ha : a = q
    · subst ha; rw [eu0] at h; cases h
    · rw [upd_ne ha, h] at e; cases e
  · refine ⟨C, dx, vs, as, h2, by rw [upd_ne hqp]; exact hp, by rw [upd_ne hqd]; exact h4, h5.mut h6 hf hq ?_, h6⟩
    exact hr.keep (Sub.refl _) fun o e => by rw [upd_same] at e ⊢; exact e
end
end BR

/-! K52: methods that change their instance, instances made, methods that read -/
namespace BR
open PySem PySem.Spec PyProof.Rows L2

/-- without what is in M -/
def rem (H M : Hp) : Hp := fun a => match M a with
  | some _ => none
  | none => H a
theorem rem_sub {H M : Hp} : Sub (rem H M) H := fun a o e => by
  unfold rem at e
  split at e
  · cases e
  · exact e
theorem uni_rem {H M : Hp} (s : Sub M H) : uni M (rem H M) = H := by
  funext a
  unfold uni rem
  cases z : M a with
  | none => rfl
  | some o => exact (s a o z).symm
theorem hide_nilY {H : Hp} : hide H [] = H := by
  funext a
  exact hide_some (by simp)
/-- behind a run of a method -/
structure PostY (G H M G' H' M' : Hp) : Prop where
  g : Sub G G'
  gh : Sub G' H'
  mh : Sub M' H'
  new : ∀ a o, G' a = some o → G a = some o ∨ H a = none ∨ M a ≠ none
  frm : ∀ a o, H a = some o → M a = none → H' a = some o
  apart : ∀ a o, M' a = some o → G' a = none
  mnew : ∀ a o, M' a = some o → M a = none → H a = none
/-- a method's promise: s the fields at its begin, what it gives and the fields behind -/
def SpY (K : PySem.W.Frag) (mg : Str → Option Value) (c : Str) {γ α : Type} (mk : γ → Fd) (ks : List Kd) (f : γ → List D → Res α) (val : α → D) (fld : α → Fd) : Sp := fun vs H Q E =>
  ∃ p us, vs = .ref p :: us ∧ us.length = ks.length ∧ ∃ (G M : Hp) (ds : List D) (s : γ) (r : Res α), Sub G H ∧ Sub M H ∧ (∀ a o, M a = some o → G a = none) ∧ ObM K G M c p (mk s) ∧ ArgsOk K G H (rem H M) ks ds us [] ∧ f s ds = r ∧ r ≠ .bad ∧
    (∀ a, r = .ok a → ∀ v G' H' M', PostY G H M G' H' M' → ObM K G' M' c p (fld a) → Rep K G' (val a) v → Q v H') ∧
    (∀ x, r = .raise x → ∀ cls d H', ExcOk mg (rem H M) [] x cls d H' → Sub (rem H M) H' → E cls d H')
theorem args_imp {K : PySem.W.Frag} {G H F F' : Hp} (s : Sub F F') : ∀ {ks : List Kd} {ds : List D} {vs : List V} {ps : List Addr}, ArgsOk K G H F ks ds vs ps → ArgsOk K G H F' ks ds vs ps
  | [], [], [], [], h => h
  | .f :: ks, d :: ds, v :: vs, ps, h => ⟨h.1, args_imp (ks := ks) (ds := ds) (vs := vs) s h.2⟩
  | .b :: ks, d :: ds, v :: vs, ps, h => ⟨BRep.sub (Sub.refl _) s h.1, args_imp (ks := ks) (ds := ds) (vs := vs) s h.2⟩
  | .m :: ks, d :: ds, v :: vs, p :: ps, h => ⟨h.1, args_imp (ks := ks) (ds := ds) (vs := vs) s h.2⟩
  | [], _ :: _, _, _, h => h.elim
  | [], [], _ :: _, _, h => h.elim
  | [], [], [], _ :: _, h => h.elim
  | .f :: _, [], _, _, h => h.elim
  | .f :: _, _ :: _, [], _, h => h.elim
  | .b :: _, [], _, _, h => h.elim
  | .b :: _, _ :: _, [], _, h => h.elim
  | .m :: _, [], _, _, h => h.elim
  | .m :: _, _ :: _, [], _, h => h.elim
  | .m :: _, _ :: _, _ :: _, [], h => h.elim
/-- the borrowed of a def's parameters, by place -/
theorem args_bw {K : PySem.W.Frag} {G H F : Hp} : ∀ {ks : List Kd} {ds : List D} {vs : List V} {ps : List Addr} {j l : Nat} {d : D}, ArgsOk K G H F ks ds vs ps → (slots0 j ks ds)[l]? = some (.bw d) → ∃ v, vs[l]? = some v ∧ BRep K G F d v
  | [], [], [], [], _, _, _, _, e => by simp [slots0] at e
  | .f :: ks, d' :: ds, v :: vs, ps, j, 0, d, h, e => by simp [slots0] at e
  | .f :: ks, d' :: ds, v :: vs, ps, j, l + 1, d, h, e => by simpa using args_bw (l := l) h.2 (by simpa [slots0] using e)
  | .b :: ks, d' :: ds, v :: vs, ps, j, 0, d, h, e => by
    have e' : d' = d := by simpa [slots0] using e
    subst e'
    exact ⟨v, rfl, h.1⟩
  | .b :: ks, d' :: ds, v :: vs, ps, j, l + 1, d, h, e => by simpa using args_bw (l := l) h.2 (by simpa [slots0] using e)
  | .m :: ks, d' :: ds, v :: vs, p :: ps, j, 0, d, h, e => by simp [slots0] at e
  | .m :: ks, d' :: ds, v :: vs, p :: ps, j, l + 1, d, h, e => by simpa using args_bw (j := j + 1) (l := l) h.2 (by simpa [slots0] using e)
  | [], _ :: _, _, _, _, _, _, h, _ => h.elim
  | [], [], _ :: _, _, _, _, _, h, _ => h.elim
  | [], [], [], _ :: _, _, _, _, h, _ => h.elim
  | .f :: _, [], _, _, _, _, _, h, _ => h.elim
  | .f :: _, _ :: _, [], _, _, _, _, h, _ => h.elim
  | .b :: _, [], _, _, _, _, _, h, _ => h.elim
  | .b :: _, _ :: _, [], _, _, _, _, h, _ => h.elim
  | .m :: _, [], _, _, _, _, _, h, _ => h.elim
  | .m :: _, _ :: _, [], _, _, _, _, h, _ => h.elim
  | .m :: _, _ :: _, _ :: _, [], _, _, _, h, _ => h.elim
section
variable {P : Program} {w : World} {K : PySem.W.Frag} {mg : Str → Option Value} {base : Heap}
/-- THE RULE for a method that changes its instance -/
theorem fn_Y {x qual : Str} {st : Stmt} {fa : Addr} {fd : FuncData} {N psn : List Str} {k : Nat} {c : Str} {γ α : Type} {mk : γ → Fd} {ks : List Kd} {f : γ → List D → Res α} {val : α → D} {fld : α → Fd}
    (F : L2.Fun K x qual st fa fd) (S : FnScope N psn (defScope st)) (hk : ks.length + 1 = psn.length) (hms : nms ks = 0)
    (body : ∀ (X : Cx) (en : Kn) (cdv : Value) (A : Around) (outer : List Env) (s : Shared) (H : Hp) (E : XK) (z : γ) (ds : List D), X = cxOf (L2N.CX P w) P w K mg base N qual (defScope st) fa cdv A outer s H E → RoomG k X.A → en.n = N.length → Lk X en → PassesOwn (model X.prog X.w) X.A X.env X.xe → ds.length = ks.length →
      JYs X en 0 c (.bw (.obj c (mk z)) :: slots0 0 ks ds ++ List.replicate (N.length - (ks.length + 1)) .un) (defBody st) (fun δ' m' => ∃ a, m' = .ok a ∧ val a = .non ∧ δ'[0]? = some (.bw (.obj c (fld a)))) (fun s δ' m' => ∃ a, m' = .ok a ∧ s = .fr (val a) ∧ δ'[0]? = some (.bw (.obj c (fld a)))) (fun _ _ => False) (fun _ _ => False) (f z ds)) :
    FnG P w K mg base (k + 1) fa fd psn (SpY K mg c mk ks f val fld) := by
  refine fn_G F S (fun vs H Q E h => ?_) fun cdv A outer s H vs Q E hr h => ?_
  · obtain ⟨p, us, e1, e2, _⟩ := h
    rw [e1, List.length_cons, e2]; exact hk
  obtain ⟨p, us, rfl, hlu, G, M, ds, z, r, hG, hM, mg0, hob, ha, er, nb, hok, hrs⟩ := h
  subst er
  obtain ⟨l1, l2⟩ := args_len ha
  have hkN : ks.length + 1 ≤ N.length := by
    have := congrArg List.length S.pre
    rw [List.length_take] at this
    omega
  let en : Kn := ⟨N.length, G, rem H M, [], fun o => o = none ∨ o = (f z ds).exc, .inl rfl⟩
  have eF : (en.ext M).F0 = H := uni_rem hM
  have vr : VRep K G H (.obj c (mk z)) (.ref p) := VRep.ob hob hM
  have ha' : ArgsOk K G H (hide H (en.ext M).ps) (.b :: ks) (.obj c (mk z) :: ds) (.ref p :: us) (en.ext M).ps := by
    show ArgsOk K G H (hide H []) (.b :: ks) (.obj c (mk z) :: ds) (.ref p :: us) []
    rw [hide_nilY]
    exact ⟨BRep.mk vr (fun z => by cases z), args_imp rem_sub ha⟩
  have W : Wd K (en.ext M) (slots0 0 (.b :: ks) (.obj c (mk z) :: ds) ++ List.replicate (N.length - (Kd.b :: ks).length) .un) (L2.start N (.ref p :: us)) G H :=
    Wd.start (en := en.ext M) (N := N) hG rfl (by rw [eF]; exact hide_nilY.symm) List.nodup_nil ha' (by simpa using hkN)
  have hsl : slots0 0 (.b :: ks) (.obj c (mk z) :: ds) = .bw (.obj c (mk z)) :: slots0 0 ks ds := rfl
  rw [hsl] at W
  have st0 : (L2.start N (V.ref p :: us))[0]? = some (some (.ref p)) := rfl
  have O : OSt K en 0 c p (.bw (.obj c (mk z)) :: slots0 0 ks ds ++ List.replicate (N.length - (ks.length + 1)) .un) (L2.start N (.ref p :: us)) M G H := by
    refine ⟨W, fun a o e => ⟨?_, mg0 a o e, by simp [en]⟩, st0, ⟨mk z, rfl, hob⟩, fun j d v hj h1 h2 => ?_⟩
    · show rem H M a = none
      unfold rem; rw [e]
    · have l3 : (slots0 0 ks ds).length = ks.length := slots0_len l1
      cases j with
      | zero => exact (hj rfl).elim
      | succ j =>
        have h1 : (slots0 0 ks ds ++ List.replicate (N.length - (ks.length + 1)) Slot.un)[j]? = some (.bw d) := h1
        by_cases hjl : j < (slots0 0 ks ds).length
        · rw [List.getElem?_append_left hjl] at h1
          obtain ⟨u, e1, e2⟩ := args_bw ha h1
          have e3 : (L2.start N (V.ref p :: us))[j + 1]? = some (some u) := by
            unfold L2.start
            rw [List.getElem?_append_left (by rw [List.length_map, List.length_cons]; omega), List.getElem?_map, List.getElem?_cons_succ, e1]; rfl
          rw [e3] at h2
          cases h2
          exact e2
        · rw [List.getElem?_append_right (Nat.le_of_not_lt hjl), List.getElem?_replicate] at h1
          split at h1 <;> cases h1
  let X : Cx := cxOf (L2N.CX P w) P w K mg base N qual (defScope st) fa cdv A outer s H E
  have tk : L2N.Takes X (fun cls d _ H => E cls d H) := L2N.takes_of rfl rfl rfl rfl
  have lk : Lk X en := ⟨_, tk, fun x hx cls d σ H' he hs => by
    refine hrs x ?_ cls d H' he hs
    rcases hx with z2 | z2
    · cases z2
    · cases e : f z ds with
      | raise y => rw [e] at z2; cases z2; rfl
      | ok _ => rw [e] at z2; cases z2
      | bad => rw [e] at z2; cases z2⟩
  have B := body X en cdv A outer s H E z ds rfl hr rfl lk (passes_of rfl) l1
  refine ⟨WSs X (defBody st), pss_wss, ?_⟩
  have hlen : (.bw (.obj c (mk z)) :: slots0 0 ks ds ++ List.replicate (N.length - (ks.length + 1)) Slot.un).length = en.n := by
    rw [List.length_append, List.length_cons, slots0_len l1, List.length_replicate]
    show _ = N.length
    omega
  have post : ∀ {δ' : List Slot} {σ' : L2.St} {G' H' M' : Hp}, OSt K en 0 c p δ' σ' M' G' H' → PostY G H M G' H' M' := fun {δ' σ' G' H' M'} O' => by
    have fr : ∀ a o, H a = some o → M a = none → H' a = some o := fun a o e n => O'.wd.frm a o (O'.fsub a o (by show rem H M a = some o; unfold rem; rw [n]; exact e))
    refine ⟨O'.wd.ext, O'.wd.sub, O'.msub, fun a o e => ?_, fr, fun a o e => O'.gnone e, fun a o e n => ?_⟩
    · rcases O'.wd.new a o e with q | ⟨q1, q2⟩
      · exact .inl q
      · have q1 : uni M' (rem H M) a = none := q1
        have q3 : rem H M a = none := by
          unfold uni at q1
          split at q1
          · cases q1
          · exact q1
        cases zm : M a with
        | none =>
          refine .inr (.inl ?_)
          unfold rem at q3
          rw [zm] at q3; exact q3
        | some u => exact .inr (.inr (by simp))
    · have := (O'.mo a o e).1
      have : rem H M a = none := this
      unfold rem at this
      rw [n] at this; exact this
  refine B.run nb (.inr rfl) _ G H M p _ hlen O (fun δ' σ' G' H' M' ⟨a, em, ev, e0⟩ hl' O' => ?_) (fun sl δ' v σ' G' H' M' ⟨a, em, es, e0⟩ hl' O' => ?_) (fun _ _ _ _ _ z => z.elim) (fun _ _ _ _ _ z => z.elim)
  · obtain ⟨fs, e1, ob⟩ := O'.ob
    rw [e0] at e1
    cases e1
    exact hok _ em .non G' H' M' (post O') ob (by rw [ev]; rfl)
  · subst es
    obtain ⟨fs, e1, ob⟩ := O'.ob
    rw [List.getElem?_append_left (List.getElem?_eq_some_iff.mp e0).1, e0] at e1
    cases e1
    obtain ⟨u, e, rr⟩ := O'.wd.last
    cases e
    exact hok _ em v G' H' M' (post O') ob rr
/-- a method of the class c that keeps its promise -/
def DfY (P : Program) (w : World) (K : PySem.W.Frag) (mg : Str → Option Value) (base : Heap) (k : Nat) (c m : Str) {γ α : Type} (mk : γ → Fd) (ks : List Kd) (f : γ → List D → Res α) (val : α → D) (fld : α → Fd) : Prop :=
  ∃ (fa : Addr) (fd : FuncData) (psn : List Str), FnG P w K mg base k fa fd psn (SpY K mg c mk ks f val fld) ∧ (∀ C, PySem.W.nsIn K mainGlobals c = some (some (.ref C)) → L2.Meth K C m fa) ∧ Binds K fd psn [] ∧ nms ks = 0
/-- the class c, whose instances are made so -/
def DfI (P : Program) (w : World) (K : PySem.W.Frag) (mg : Str → Option Value) (base : Heap) (k : Nat) (c : Str) {α : Type} (ks : List Kd) (f : List D → Res α) (fld : α → Fd) : Prop :=
  ∃ (C fa : Addr) (fd : FuncData) (psn : List Str), FnG P w K mg base k fa fd psn (SpY K mg c (fun _ : Unit => []) ks (fun _ => f) (fun _ => .non) fld) ∧ mg c = some (.ref C) ∧ ObF K c C ∧ L2.Mk K C fa ∧ Binds K fd psn [] ∧ nms ks = 0
/-- a method of the class c that reads alone -/
def DfM (P : Program) (w : World) (K : PySem.W.Frag) (mg : Str → Option Value) (base : Heap) (k : Nat) (c m : Str) (ks : List Kd) {α : Type} (den : List D → Res α) (val : α → D) (mu : Bool) : Prop :=
  ∃ (C fa : Addr) (fd : FuncData) (psn : List Str), FnG P w K mg base k fa fd psn (SpD K mg ks den val (fun _ => []) mu) ∧ ObF K c C ∧ L2.Meth K C m fa ∧ Binds K fd psn []
theorem args_H {K : PySem.W.Frag} {G H H' F : Hp} : ∀ {ks : List Kd} {ds : List D} {vs : List V}, ArgsOk K G H F ks ds vs [] → ArgsOk K G H' F ks ds vs []
  | [], [], [], _ => trivial
  | .f :: ks, d :: ds, v :: vs, h => ⟨h.1, args_H (ks := ks) h.2⟩
  | .b :: ks, d :: ds, v :: vs, h => ⟨h.1, args_H (ks := ks) h.2⟩
  | .m :: ks, d :: ds, v :: vs, h => h.elim
  | [], _ :: _, _, h => h.elim
  | [], [], _ :: _, h => h.elim
  | .f :: _, [], _, h => h.elim
  | .f :: _, _ :: _, [], h => h.elim
  | .b :: _, [], _, h => h.elim
  | .b :: _, _ :: _, [], h => h.elim
  | .m :: _, [], _, h => h.elim
  | .m :: _, _ :: _, [], h => h.elim
def unfl (fs : Fd) : Fd := fs.map fun z => (z.1, false, z.2.2)
theorem OwF.fast {K : PySem.W.Frag} {G M : Hp} (sm : Sub M (uni M G)) (sg : Sub G (uni M G)) : ∀ {fs : Fd} {as : List Addr} {vs : List (Str × V)}, OwF K G M fs as vs → RepFs K (uni M G) (unfl fs) vs
  | [], _, _, h => h.2
  | (k, b, d) :: r, _, _, h => by
    obtain ⟨v, q, e, h1⟩ := h
    rcases h1 with ⟨eb, h1, h2⟩ | ⟨eb, a, q', ea, ev, h1, h2⟩
    · exact ⟨v, q, e, Rep.sub sg _ _ h1, h2.fast sm sg⟩
    · subst ev
      refine ⟨_, q, e, ?_, h2.fast sm sg⟩
      cases d <;> first | exact h1.elim | skip
      · obtain ⟨us, e1, r1⟩ := h1; exact ⟨a, us, rfl, sm _ _ e1, Reps.sub sg _ _ r1⟩
      · obtain ⟨us, e1, r1⟩ := h1; exact ⟨a, us, rfl, sm _ _ e1, RepKs.sub sg _ _ r1⟩
end
section
variable {X : Cx} {en : Kn} {i : Nat} {c : Str} {p : Addr} {δ δ' : List Slot} {σ σ' : L2.St} {M M' G H G' H' : Hp} {R : Type} {m : Res R} {pos : Pos}
variable {N : List Slot → Res R → Prop} {RT : Slot → List Slot → Res R → Prop} {BK CT : List Slot → Res R → Prop}
/-- behind a call that changed the instance -/
theorem OSt.called {K : PySem.W.Frag} {fs' : Fd} (O : OSt K en i c p δ σ M G H) (hnb : noBo δ = true) (po : PostY G H M G' H' M') (ob : ObM K G' M' c p fs') : OSt K en i c p (δ.set i (.bw (.obj c fs'))) σ M' G' H' := by
  have fresh : ∀ {a : Addr}, H a = none → en.F0 a = none ∧ en.G0 a = none ∧ a ∉ en.ps ∧ G a = none := fun {a} h => by
    obtain ⟨h1, h2, h3⟩ := O.wd.fresh h
    have h2 : uni M en.F0 a = none := h2
    refine ⟨?_, ?_, h3, h1⟩
    · unfold uni at h2
      split at h2
      · cases h2
      · exact h2
    · cases z : en.G0 a with
      | none => rfl
      | some o => have := O.wd.ext a o z; rw [h1] at this; cases this
  have mo' : ∀ a o, M' a = some o → en.F0 a = none ∧ en.G0 a = none ∧ a ∉ en.ps := fun a o e => by
    cases z : M a with
    | some u => exact O.mo a u z
    | none =>
      obtain ⟨h1, h2, h3, _⟩ := fresh (po.mnew a o e z)
      exact ⟨h1, h2, h3⟩
  have mnone : ∀ {a : Addr} {o : HO}, H a = some o → M a = none → M' a = none := fun {a o} h1 h2 => by
    cases z : M' a with
    | none => rfl
    | some u => have := po.mnew a u z h2; rw [h1] at this; cases this
  obtain ⟨fs, hi, hob⟩ := O.ob
  have hil := (List.getElem?_eq_some_iff.mp hi).1
  have f0 : ∀ {a : Addr}, uni M en.F0 a = none → en.F0 a = none ∧ M a = none := fun {a} h => by
    unfold uni at h
    split at h
    · cases h
    · rename_i z; exact ⟨h, z⟩
  have nu : ∀ {a : Addr}, en.F0 a = none → M' a = none → uni M' en.F0 a = none := fun {a} h1 h2 => by
    unfold uni; rw [h2]; exact h1
  have fsub : Sub en.F0 (uni M' en.F0) := fun a o e => by
    unfold uni
    cases z : M' a with
    | none => exact e
    | some u => rw [(mo' a u z).1] at e; cases e
  have get : ∀ (j : Nat) sl, (δ.set i (.bw (.obj c fs')))[j]? = some sl → (j = i ∧ sl = .bw (.obj c fs')) ∨ (j ≠ i ∧ δ[j]? = some sl) := fun j sl h => by
    by_cases hj : j = i
    · subst hj
      rw [List.getElem?_set_self hil] at h
      exact .inl ⟨rfl, (Option.some.inj h).symm⟩
    · rw [List.getElem?_set_ne (Ne.symm hj)] at h
      exact .inr ⟨hj, h⟩
  have own : ∀ {j : Nat} {a : Addr}, Own (δ.set i (.bw (.obj c fs'))) σ j a → Own δ σ j a := fun {j a} ⟨sl, e1, e2, e3⟩ => by
    rcases get j sl e1 with ⟨_, z⟩ | ⟨_, z⟩
    · subst z; cases e2
    · exact ⟨sl, z, e2, e3⟩
  have gnone' : ∀ {a : Addr} {o : HO}, H a = some o → G a = none → M a = none → G' a = none := fun {a o} h1 h2 h3 => by
    cases z : G' a with
    | none => rfl
    | some u =>
      rcases po.new a u z with q | q | q
      · rw [h2] at q; cases q
      · rw [h1] at q; cases q
      · exact (q h3).elim
  have ownM : ∀ {j : Nat} {a : Addr}, Own δ σ j a → M a = none := fun {j a} ow => by
    cases z : M a with
    | none => rfl
    | some o => exact (O.nown z ow).elim
  have Wn : Wd K (en.ext M') (δ.set i (.bw (.obj c fs'))) σ G' H' := {
    len := by rw [List.length_set]; exact O.wd.len
    sub := po.gh
    ext := O.wd.ext.trans po.g
    new := fun a o e => by
      have nm : M' a = none := by
        cases z : M' a with
        | none => rfl
        | some u => have := po.apart a u z; rw [this] at e; cases e
      rcases po.new a o e with q | q | q
      · rcases O.wd.new a o q with q | ⟨q1, q2⟩
        · exact .inl q
        · exact .inr ⟨nu (f0 q1).1 nm, q2⟩
      · obtain ⟨h1, h2, h3, _⟩ := fresh q
        exact .inr ⟨nu h1 nm, h3⟩
      · cases z : M a with
        | none => exact (q z).elim
        | some u => exact .inr ⟨nu (O.mo a u z).1 nm, (O.mo a u z).2.2⟩
    frm := fun a o e => by
      have e : uni M' en.F0 a = some o := e
      unfold uni at e
      cases z : M' a with
      | some u => rw [z] at e; cases e; exact po.mh a _ z
      | none =>
        rw [z] at e
        refine po.frm a o (O.wd.frm a o (O.fsub a o e)) ?_
        cases zm : M a with
        | none => rfl
        | some u => have e : en.F0 a = some o := e; rw [(O.mo a u zm).1] at e; cases e
    stay := fun a h => by
      have h1 := O.wd.stay a h
      cases z : H a with
      | none => exact (h1 z).elim
      | some o =>
        rw [po.frm a o z (by
          cases zm : M a with
          | none => rfl
          | some u => exact ((O.mo a u zm).2.2 h).elim)]
        simp
    nd := O.wd.nd
    slot := fun j sl o h1 h2 => by
      rcases get j sl h1 with ⟨z, e⟩ | ⟨hj, h3⟩
      · subst z e
        rw [O.at_] at h2
        cases h2
        exact ⟨_, rfl, BRep.mk (VRep.ob ob uni_l) fun z => by cases z⟩
      · have q := O.wd.slot j sl o h3 h2
        cases sl with
        | un => trivial
        | fr d => obtain ⟨v, e, r⟩ := q; exact ⟨v, e, Rep.sub po.g _ _ r⟩
        | mu d =>
          obtain ⟨a, e, n1, n2, n3, r⟩ := q
          subst e
          have zm := ownM ⟨_, h3, rfl, h2⟩
          obtain ⟨u, eu⟩ := r.ex
          exact ⟨a, rfl, gnone' eu n1 zm, nu (f0 n2).1 (mnone eu zm), n3, r.keep po.g fun o e => po.frm a o e zm⟩
        | mp l d =>
          obtain ⟨a, e, n0, n1, n2, r⟩ := q
          subst e
          have zm := ownM ⟨_, h3, rfl, h2⟩
          obtain ⟨u, eu⟩ := r.ex
          exact ⟨a, rfl, n0, gnone' eu n1 zm, nu (f0 n2).1 (mnone eu zm), r.keep po.g fun o e => po.frm a o e zm⟩
        | bw d =>
          obtain ⟨v, e, _⟩ := q
          subst e
          exact ⟨v, rfl, BRep.sub po.g fsub (O.bw j d v hj h3 h2)⟩
        | bo l => exact (noBo_get hnb h3).elim
    apart := fun j l a h1 h2 => O.wd.apart j l a (own h1) (own h2) }
  refine ⟨Wn, mo', O.at_, ⟨fs', by rw [List.getElem?_set_self hil], ob⟩, fun j d v hj h1 h2 => ?_⟩
  rcases get j _ h1 with ⟨z, _⟩ | ⟨_, h3⟩
  · exact (hj z).elim
  · exact BRep.sub po.g (Sub.refl _) (O.bw j d v hj h3 h2)
end
/-- an instance that has no field of a method's name -/
def objD (c m : Str) : D → Option Unit
  | .obj c' fs => if c' = c ∧ fs.lookup m = none then some () else none
  | _ => none
section
variable {X : Cx} {en : Kn} {δ τ : List Slot} {R : Type} {C : Slot → List Slot → Res R → Prop} {m : Res R} {K : PySem.W.Frag}
/-- C(args): a new instance, that stands fast from then on -/
theorem je_make {k : Nat} {c : Str} {p pos : Pos} {e : Expr} {es : List Expr} {α : Type} {ks : List Kd} {den : List D → Res α} {fld : α → Fd} (F : DfI X.prog X.w X.K X.mg X.base k c ks den fld) (hr : RoomG (k + 1) X.A) (hL : Lk X en)
    (h : JA X en δ τ (e :: es) (fun sls δ1 m1 => ∃ ds kk, ∃ fs' : α → Fd, CA δ1 ks sls = some (ds, []) ∧ m1 = (den ds).bind kk ∧ (∀ a, unfl (fld a) = fs' a) ∧ ∀ a, C (.fr (.obj c (fs' a))) δ1 (kk a)) m)
    (hg : Gl X c := by rfl) (hdb : (c == ("__debug__" : Str)) = false := by decide) (he : starEach (e :: es) X.env = (false, eval e X.env) :: starEach es X.env := by exact star_plain rfl) (hpl : (backTo pos (starEach es X.env)).any (·.1) = false := by rfl) :
    JE X en δ τ (.Call (.Name c p) (e :: es) [] pos) C m := .mk fun hb hx σ ts G H T hl hσ W q => by
  obtain ⟨CC, fa, fd, psn, hf, hm, hO, hM, hbi, hn0⟩ := F
  obtain ⟨WW, tk, hW⟩ := hL
  refine we_of (pe_makeG (E := fun cls d H' => ∃ x, en.HX (some x) ∧ ExcOk X.mg en.F0 en.ps x cls d H' ∧ Sub en.F0 H') hM hf hr hg hm hbi .nil (L2N.passes_call tk fun cls d σ H ⟨x, h1, h2, h3⟩ => hW x h1 cls d σ H h2 h3) pa_wa hdb he hpl) ?_
  have htl : τ.length = ts.length := W.splitLen (hl.trans hσ.symm)
  refine h.run hb hx σ ts G H _ hl hσ W fun sls δ1 vs G1 H1 c1 hl1 W1 => ?_
  obtain ⟨ds, kk, fs', hca, em, hfs, hk⟩ := c1
  have W2 := W1.cut (Δ := δ1 ++ τ) (S := σ ++ ts) (by rw [List.length_append, List.length_append]; omega) (by rw [List.length_append]; omega)
  obtain ⟨hnn, hq⟩ := W1.endSlots (hl1.trans hσ.symm) htl
  have pre : ∀ (j : Nat) sl, δ1[j]? = some sl → (δ1 ++ τ ++ sls)[j]? = some sl := fun j sl e => by
    rw [List.append_assoc, List.getElem?_append_left (List.getElem?_eq_some_iff.mp e).1]; exact e
  obtain ⟨ps, hlen, _, hargs⟩ := ca_ok W1 pre hca hnn hq
  have eps : ps = [] := by cases ps with
    | nil => rfl
    | cons _ _ => cases hlen
  subst eps
  have ha := hargs H1 W1.sub W1.frm fun _ _ _ _ _ _ _ => rfl
  have hb' := hb
  rw [em] at hb'
  have hx' := hx
  rw [em] at hx'
  obtain ⟨hbd, hxd⟩ := bind_exc hb' hx'
  intro x dx nx ndx hne
  rw [List.append_nil]
  have g1x : G1 x = none := (W2.fresh nx).1
  have g1d : G1 dx = none := (W2.fresh ndx).1
  let M : Hp := upd (upd (fun _ => none) dx (.own x)) x (.ins CC dx [])
  have Mx : M x = some (.ins CC dx []) := upd_same
  have Md : M dx = some (.own x) := by show upd _ x _ dx = _; rw [upd_ne hne, upd_same]
  have Mn : ∀ {a : Addr}, a ≠ x → a ≠ dx → M a = none := fun {a} h1 h2 => by show upd _ x _ a = _; rw [upd_ne h1, upd_ne h2]
  have H2n : ∀ {a : Addr}, a ≠ x → a ≠ dx → upd (upd H1 dx (.own x)) x (.ins CC dx []) a = H1 a := fun {a} h1 h2 => by rw [upd_ne h1, upd_ne h2]
  have ne : ∀ {a : Addr} {o : HO}, H1 a = some o → a ≠ x ∧ a ≠ dx := fun {a o} e => ⟨ne_of_none e nx, ne_of_none e ndx⟩
  have msub : Sub M (upd (upd H1 dx (.own x)) x (.ins CC dx [])) := fun a o e => by
    by_cases h1 : a = x
    · subst h1; rw [Mx] at e; rw [upd_same]; exact e
    · by_cases h2 : a = dx
      · subst h2; rw [Md] at e; rw [upd_ne h1, upd_same]; exact e
      · rw [Mn h1 h2] at e; cases e
  have h12 : ∀ a o, H1 a = some o → upd (upd H1 dx (.own x)) x (.ins CC dx []) a = some o ∧ M a = none := fun a o e => by
    obtain ⟨h1, h2⟩ := ne e
    exact ⟨by rw [H2n h1 h2]; exact e, Mn h1 h2⟩
  refine ⟨x, vs, rfl, (args_len ha).2, G1, M, ds, (), den ds, fun a o e => (h12 a o (W1.sub a o e)).1, msub, fun a o e => ?_, ⟨CC, dx, [], [], hO, Mx, Md, ⟨rfl, rfl⟩, List.nodup_nil⟩, args_H (args_imp (fun a o e => ?_) ha), rfl, hbd, fun a ea v G' H' M' po ob rv => ?_, fun y ey cls d H' he hs => ?_⟩
  · by_cases h1 : a = x
    · subst h1; exact g1x
    · by_cases h2 : a = dx
      · subst h2; exact g1d
      · rw [Mn h1 h2] at e; cases e
  · obtain ⟨e1, e2⟩ := h12 a o e
    unfold rem
    rw [e2]; exact e1
  · have rv' : v = .non := rv
    refine ⟨rv', ?_⟩
    have em' : m = kk a := by rw [em, ea]; rfl
    have sub1 : Sub M' (uni M' G') := uni_l
    have sub2 : Sub G' (uni M' G') := uni_r po.mh po.gh
    have none1 : ∀ {y : Addr}, (upd (upd H1 dx (.own x)) x (.ins CC dx []) y = none ∨ M y ≠ none) → H1 y = none := fun {y} h => by
      cases z : H1 y with
      | none => rfl
      | some o =>
        obtain ⟨e1, e2⟩ := h12 y o z
        rcases h with h | h
        · rw [e1] at h; cases h
        · exact (h e2).elim
    have gr : Grow G1 H1 (uni M' G') H' := ⟨po.g.trans sub2, fun y o e => po.frm y o (h12 y o e).1 (h12 y o e).2, uni_sub po.mh po.gh, fun y o e => by
      unfold uni at e
      cases z : M' y with
      | some u =>
        refine .inr ?_
        cases zm : M y with
        | some u2 => exact none1 (.inr (by rw [zm]; simp))
        | none => exact none1 (.inl (po.mnew y u z zm))
      | none =>
        rw [z] at e
        rcases po.new y o e with q | q | q
        · exact .inl q
        · exact .inr (none1 (.inl q))
        · exact .inr (none1 (.inr q))⟩
    refine q (.fr (.obj c (fs' a))) δ1 (.ref x) (uni M' G') H' (by rw [em']; exact hk a) hl1 (W2.out gr ?_)
    obtain ⟨C', dx', vs', as', o1, o2, o3, o4, o5⟩ := ob
    show Rep X.K (uni M' G') (.obj c (fs' a)) (.ref x)
    rw [← hfs a]
    exact ⟨x, C', dx', vs', rfl, o1, sub1 _ _ o2, sub1 _ _ o3, o4.fast sub1 sub2⟩
  · have hH : ∀ a, rem (upd (upd H1 dx (.own x)) x (.ins CC dx [])) M a = none → H1 a = none := fun a h1 => by
      cases q : H1 a with
      | none => rfl
      | some o =>
        obtain ⟨e1, e2⟩ := h12 a o q
        unfold rem at h1
        rw [e2, e1] at h1
        cases h1
    refine ⟨y, by rw [ey] at hxd; exact hxd, he.to fun a h1 _ => ⟨W1.frm.none (hH a h1), fun z => W1.stay a z (hH a h1)⟩, fun z o e => hs z o ?_⟩
    obtain ⟨e1, e2⟩ := h12 z o (W1.frm z o e)
    unfold rem
    rw [e2]; exact e1
end
end BR

/-! K53: comprehensions of two clauses without tests, nothing changed within -/
namespace BR
open PySem PySem.Spec PyProof.Rows L2

def lcI : List D → List D → (D → Res D) → Res (List D)
  | [], acc, _ => .ok acc
  | e :: es, acc, f => match f e with
    | .ok y => if acc.length < sizeLine then lcI es (acc ++ [y]) f else .bad
    | _ => .bad
def lc2F : List D → List D → (D → Res (List D)) → (D → D → Res D) → Res (List D)
  | [], acc, _, _ => .ok acc
  | d :: ds, acc, g, f => match g d with
    | .ok es => (match lcI es acc (f d) with
      | .ok acc' => lc2F ds acc' g f
      | _ => .bad)
    | _ => .bad
section
variable {X : Cx} {en : Kn} {δ τ : List Slot} {R : Type} {C : Slot → List Slot → Res R → Prop} {m : Res R} {K : PySem.W.Frag}
end
theorem nof_n {K : PySem.W.Frag} {f : Str} : NoF K [] f := fun c hc => by cases hc
theorem nof_c {K : PySem.W.Frag} {f c : Str} {cs : List Str} {C : Addr} (o : PySem.W.nsIn K mainGlobals c = some (some (.ref C))) (na : PySem.W.findIn K (.ref C) f = some none) (h : NoF K cs f) : NoF K (c :: cs) f := fun c' hc C' e => by
  rcases List.mem_cons.mp hc with z | z
  · subst z
    rw [o] at e
    cases e
    exact na
  · exact h c' z C' e
theorem obF_mk {K : PySem.W.Frag} {c : Str} {C : Addr} (o : PySem.W.nsIn K mainGlobals c = some (some (.ref C))) (cl : L2.Cls K C) (ha : PySem.W.findIn K (.ref C) "__class__" = some (some (.builtin "object.__class__"))) (hn : PySem.W.specialIn K (.builtin "object.__class__") "__get__" = some (some (.builtin "getset_descriptor.__get__")))
    (htk : PySem.W.takesIn K (.builtin "object.__class__") = some true) (hm : PySem.W.mroIn K C (.type "object") = some true)
    (t1 : PySem.W.kitOne K (.ref C) (.type "int") = some false) (t2 : PySem.W.kitOne K (.ref C) (.type "bool") = some false) (t3 : PySem.W.kitOne K (.ref C) (.type "str") = some false) (t4 : PySem.W.kitOne K (.ref C) (.type "tuple") = some false) (t5 : PySem.W.kitOne K (.ref C) (.type "list") = some false) (t6 : PySem.W.kitOne K (.ref C) (.type "dict") = some false) : ObF K c C :=
  ⟨o, cl, ha, hn, htk, hm, fun T hT => by
    simp only [List.mem_cons, List.not_mem_nil, or_false] at hT
    rcases hT with rfl | rfl | rfl | rfl | rfl | rfl <;> assumption⟩
end BR

/-! K54: an own list grows in place: x += list -/
namespace BR
open PySem PySem.Spec PyProof.Rows L2
section
variable {X : Cx} {en : Kn} {δ : List Slot} {R : Type} {N RT BK CT : List Slot → Res R → Prop} {m : Res R}
variable {RT' : Slot → List Slot → Res R → Prop}
end
end BR

/-! K55: a op b op c as a value; str of a number -/
namespace BR
open PySem PySem.Spec PyProof.Rows L2
section
variable {X : Cx} {en : Kn} {R : Type} {δ τ : List Slot} {m : Res R} {pos : Pos}
end
/-- str(n) -/
def strI : List D → Option D
  | [.int i] => if i.natAbs.log2 < 1920 then some (.str (toString i)) else none
  | _ => none
section
variable {X : Cx}
end
end BR

/-! K56: statements of any kind between what was told and its change -/
namespace BR
open PySem PySem.Spec PyProof.Rows L2
/-- lists and dicts alone -/
def ldO (G : Hp) : Hp := fun a => match G a with
  | some (.lst xs) => some (.lst xs)
  | some (.dK kv) => some (.dK kv)
  | _ => none
theorem ld_at {G : Hp} {a : Addr} {o : HO} (h : ldO G a = some o) : G a = some o ∧ noL G a = none := by
  unfold ldO at h
  split at h
  · rename_i xs e
    cases h
    exact ⟨e, by unfold noL; rw [e]⟩
  · rename_i kv e
    cases h
    exact ⟨e, by unfold noL; rw [e]⟩
  · cases h
/-- H without the lists and dicts of G -/
def wo (H G : Hp) : Hp := fun a => match ldO G a with
  | some _ => none
  | none => H a
abbrev Kn.wide (en : Kn) (G : Hp) : Kn := { n := en.n, G0 := noL G, F0 := uni en.F0 (ldO G), ps := en.ps, HX := en.HX, h0 := en.h0 }
/-- what is known of what stood fast before it was told -/
structure Pre (en : Kn) (G : Hp) : Prop where
  ext : Sub en.G0 G
  new : ∀ a o, G a = some o → en.G0 a = some o ∨ (en.F0 a = none ∧ a ∉ en.ps)
  fit : ∀ a o u, en.F0 a = some u → G a = some o → u = o
section
variable {K : PySem.W.Frag} {en : Kn} {Δ : List Slot} {S : L2.St} {G G' H : Hp}
theorem Pre.F (P : Pre en G) : Sub (ldO G) (en.wide G).F0 := fun a o h => by
  show uni en.F0 (ldO G) a = some o
  unfold uni
  cases e : en.F0 a with
  | none => exact h
  | some u => rw [P.fit a o u e (ld_at h).1]
end
/-- the names as they are taken along: ds what is looked at (true: it stands fast) -/
inductive BV : List Slot → List Slot → List (Bool × D) → Prop where
  | n : BV [] [] []
  | u {s : Slot} {δ δ' : List Slot} {ds : List (Bool × D)} : BV δ δ' ds → BV (s :: δ) (.un :: δ') ds
  | f {d : D} {δ δ' : List Slot} {ds : List (Bool × D)} : BV δ δ' ds → BV (.fr d :: δ) (.fr d :: δ') ((true, d) :: ds)
  | c {d : D} {δ δ' : List Slot} {ds : List (Bool × D)} : BV δ δ' ds → BV (.fr d :: δ) (.bw d :: δ') ((false, d) :: ds)
  | m {d : D} {δ δ' : List Slot} {ds : List (Bool × D)} : BV δ δ' ds → BV (.mu d :: δ) (.mu d :: δ') ((false, d) :: ds)
  | p {j : Nat} {d : D} {δ δ' : List Slot} {ds : List (Bool × D)} : BV δ δ' ds → BV (.mp j d :: δ) (.mp j d :: δ') ((false, d) :: ds)
/-- .. and left -/
inductive EV : List Slot → List Slot → List (Bool × D) → Prop where
  | n : EV [] [] []
  | u {s : Slot} {δ δ' : List Slot} {ds : List (Bool × D)} : EV δ δ' ds → EV (s :: δ) (.un :: δ') ds
  | f {d : D} {δ δ' : List Slot} {ds : List (Bool × D)} : EV δ δ' ds → EV (.fr d :: δ) (.fr d :: δ') ((true, d) :: ds)
  | m {d : D} {δ δ' : List Slot} {ds : List (Bool × D)} : EV δ δ' ds → EV (.mu d :: δ) (.mu d :: δ') ((false, d) :: ds)
  | p {j : Nat} {d : D} {δ δ' : List Slot} {ds : List (Bool × D)} : EV δ δ' ds → EV (.mp j d :: δ) (.mp j d :: δ') ((false, d) :: ds)
theorem BV.len {δ δ' : List Slot} {ds : List (Bool × D)} (h : BV δ δ' ds) : δ'.length = δ.length := by
  induction h with
  | n => rfl
  | u _ ih => rw [List.length_cons, List.length_cons, ih]
  | f _ ih => rw [List.length_cons, List.length_cons, ih]
  | c _ ih => rw [List.length_cons, List.length_cons, ih]
  | m _ ih => rw [List.length_cons, List.length_cons, ih]
  | p _ ih => rw [List.length_cons, List.length_cons, ih]
theorem BV.get {δ δ' : List Slot} {ds : List (Bool × D)} (h : BV δ δ' ds) : ∀ {i : Nat} {sl : Slot}, δ'[i]? = some sl → sl = .un ∨ (∃ d, sl = .fr d ∧ δ[i]? = some (.fr d) ∧ (true, d) ∈ ds) ∨ (∃ d, sl = .bw d ∧ δ[i]? = some (.fr d) ∧ (false, d) ∈ ds) ∨ (∃ d, sl = .mu d ∧ δ[i]? = some (.mu d) ∧ (false, d) ∈ ds) ∨ ∃ j d, sl = .mp j d ∧ δ[i]? = some (.mp j d) ∧ (false, d) ∈ ds := by
  induction h with
  | n => intro i sl e; simp at e
  | @u s δ δ' ds _ ih =>
    intro i sl e
    cases i with
    | zero => exact .inl (by simpa using e.symm)
    | succ i =>
      rcases ih (i := i) (by simpa using e) with z | ⟨d, a, b, c⟩ | ⟨d, a, b, c⟩ | ⟨d, a, b, c⟩ | ⟨j, d, a, b, c⟩
      · exact .inl z
      · exact .inr (.inl ⟨d, a, by simpa using b, c⟩)
      · exact .inr (.inr (.inl ⟨d, a, by simpa using b, c⟩))
      · exact .inr (.inr (.inr (.inl ⟨d, a, by simpa using b, c⟩)))
      · exact .inr (.inr (.inr (.inr ⟨j, d, a, by simpa using b, c⟩)))
  | @f d0 δ δ' ds _ ih =>
    intro i sl e
    cases i with
    | zero => exact .inr (.inl ⟨d0, by simpa using e.symm, rfl, List.mem_cons_self⟩)
    | succ i =>
      rcases ih (i := i) (by simpa using e) with z | ⟨d, a, b, c⟩ | ⟨d, a, b, c⟩ | ⟨d, a, b, c⟩ | ⟨j, d, a, b, c⟩
      · exact .inl z
      · exact .inr (.inl ⟨d, a, by simpa using b, List.mem_cons_of_mem _ c⟩)
      · exact .inr (.inr (.inl ⟨d, a, by simpa using b, List.mem_cons_of_mem _ c⟩))
      · exact .inr (.inr (.inr (.inl ⟨d, a, by simpa using b, List.mem_cons_of_mem _ c⟩)))
      · exact .inr (.inr (.inr (.inr ⟨j, d, a, by simpa using b, List.mem_cons_of_mem _ c⟩)))
  | @c d0 δ δ' ds _ ih =>
    intro i sl e
    cases i with
    | zero => exact .inr (.inr (.inl ⟨d0, by simpa using e.symm, rfl, List.mem_cons_self⟩))
    | succ i =>
      rcases ih (i := i) (by simpa using e) with z | ⟨d, a, b, c⟩ | ⟨d, a, b, c⟩ | ⟨d, a, b, c⟩ | ⟨j, d, a, b, c⟩
      · exact .inl z
      · exact .inr (.inl ⟨d, a, by simpa using b, List.mem_cons_of_mem _ c⟩)
      · exact .inr (.inr (.inl ⟨d, a, by simpa using b, List.mem_cons_of_mem _ c⟩))
      · exact .inr (.inr (.inr (.inl ⟨d, a, by simpa using b, List.mem_cons_of_mem _ c⟩)))
      · exact .inr (.inr (.inr (.inr ⟨j, d, a, by simpa using b, List.mem_cons_of_mem _ c⟩)))
  | @m d0 δ δ' ds _ ih =>
    intro i sl e
    cases i with
    | zero => exact .inr (.inr (.inr (.inl ⟨d0, by simpa using e.symm, rfl, List.mem_cons_self⟩)))
    | succ i =>
      rcases ih (i := i) (by simpa using e) with z | ⟨d, a, b, c⟩ | ⟨d, a, b, c⟩ | ⟨d, a, b, c⟩ | ⟨j, d, a, b, c⟩
      · exact .inl z
      · exact .inr (.inl ⟨d, a, by simpa using b, List.mem_cons_of_mem _ c⟩)
      · exact .inr (.inr (.inl ⟨d, a, by simpa using b, List.mem_cons_of_mem _ c⟩))
      · exact .inr (.inr (.inr (.inl ⟨d, a, by simpa using b, List.mem_cons_of_mem _ c⟩)))
      · exact .inr (.inr (.inr (.inr ⟨j, d, a, by simpa using b, List.mem_cons_of_mem _ c⟩)))
  | @p j0 d0 δ δ' ds _ ih =>
    intro i sl e
    cases i with
    | zero => exact .inr (.inr (.inr (.inr ⟨j0, d0, by simpa using e.symm, rfl, List.mem_cons_self⟩)))
    | succ i =>
      rcases ih (i := i) (by simpa using e) with z | ⟨d, a, b, c⟩ | ⟨d, a, b, c⟩ | ⟨d, a, b, c⟩ | ⟨j, d, a, b, c⟩
      · exact .inl z
      · exact .inr (.inl ⟨d, a, by simpa using b, List.mem_cons_of_mem _ c⟩)
      · exact .inr (.inr (.inl ⟨d, a, by simpa using b, List.mem_cons_of_mem _ c⟩))
      · exact .inr (.inr (.inr (.inl ⟨d, a, by simpa using b, List.mem_cons_of_mem _ c⟩)))
      · exact .inr (.inr (.inr (.inr ⟨j, d, a, by simpa using b, List.mem_cons_of_mem _ c⟩)))
section
variable {K : PySem.W.Frag} {en : Kn} {δ δ' : List Slot} {σ : L2.St} {G G' G1 H0 H : Hp} {ds : List (Bool × D)}
theorem MRep.same {d : D} {p : Addr} {A A' B : Hp} (s : Sub A A') (h : MRep K A B d p) : MRep K A' B d p := h.keep s fun o e => e
theorem Wd.pre (W : Wd K en δ σ G H0) : Pre en G where
  ext := W.ext
  new := W.new
  fit := fun a o u h1 h2 => by
    have e1 := W.frm a u h1
    have e2 := W.sub a o h2
    rw [e1] at e2
    exact Option.some.inj e2
end
section
variable {X : Cx} {en : Kn} {R : Type} {δ : List Slot} {N : List Slot → Res R → Prop} {RT : Slot → List Slot → Res R → Prop} {BK CT : List Slot → Res R → Prop} {m : Res R} {pos : Pos}
/-- the name i has what was told (d), which is let stand for a while: any statement may be run -/
structure JV (X : Cx) (en : Kn) (δ : List Slot) (i : Nat) (d : D) (sts : List Stmt) {R : Type} (N : List Slot → Res R → Prop) (RT : Slot → List Slot → Res R → Prop) (BK CT : List Slot → Res R → Prop) (m : Res R) : Prop where
  run : m ≠ .bad → en.HX m.exc → ∀ (σ : L2.St) (G G' H : Hp) (E : Ends), δ.length = en.n → Pre en G → δ[i]? = some (.fr d) → Wd X.K (en.wide G) δ σ G' H →
    (∀ δ' σ' G' H', N δ' m → δ'.length = en.n → Wd X.K en δ' σ' G' H' → E.nx σ' H') →
    (∀ sl δ' v σ' G' H', RT sl δ' m → δ'.length = en.n → Wd X.K en (δ' ++ [sl]) (σ' ++ [some v]) G' H' → E.rt v H') →
    (∀ δ' σ' G' H', BK δ' m → δ'.length = en.n → Wd X.K en δ' σ' G' H' → E.bk σ' H') →
    (∀ δ' σ' G' H', CT δ' m → δ'.length = en.n → Wd X.K en δ' σ' G' H' → E.ct σ' H') → WSs X sts E σ H
end
end BR

/-! K57: errors of own classes with an own begin: made, raised, their fields read -/
namespace BR
open PySem PySem.Spec PyProof.Rows L2
section
variable {X : Cx} {e : Expr} {es : List Expr} {ta te : TA} {p pos : Pos}
end
/-- a caught error's field -/
def xfD (cs : List Str) (n : Str) : D → Option D
  | .exc c xf => if c ∈ cs then (xf.lookup n).map fun o => match o with | none => .non | some i => .int i else none
  | _ => none
def XfF (K : PySem.W.Frag) (cs : List Str) (n : Str) : Prop := ∀ c, c ∈ cs → ∀ C, PySem.W.nsIn K mainGlobals c = some (some (.ref C)) → XfC K C ∧ PySem.W.findIn K (.ref C) n = some none
/-- what is known of an error class with an own begin of one field -/
structure MkE (P : Program) (w : World) (K : PySem.W.Frag) (mg : Str → Option Value) (base : Heap) (k : Nat) (c n : Str) : Prop where
  ex : ∃ C fI fd ps, mg c = some (.ref C) ∧ OexC K C ∧ PySem.W.findIn K (.ref C) n = some none ∧ PySem.W.findIn K (.ref C) "__init__" = some (some (.ref fI)) ∧ PySem.W.typeIn K (.ref fI) = some (.type "function") ∧ L2.Binds K fd ps [] ∧
    FnG P w K mg base k fI fd ps (fun vs H Q E => ∃ (a C : Addr) (v : V), vs = [.ref a, v] ∧ OexC K C ∧ PySem.W.findIn K (.ref C) n = some none ∧ H a = some (exo a C none) ∧ ∀ dx, H dx = none → dx ≠ a → Q .non (upd (upd H dx (exd dx [(n, v)])) a (exo a C (some dx))))
section
variable {X : Cx} {en : Kn} {δ τ : List Slot} {R : Type} {C : Slot → List Slot → Res R → Prop} {m : Res R} {N : List Slot → Res R → Prop} {RT : Slot → List Slot → Res R → Prop} {BK CT : List Slot → Res R → Prop}
end
end BR

/-! K58: several clauses of one name -/
namespace BR
open PySem PySem.Spec PyProof.Rows L2
/-- what one clause wishes, the suite with the error tracked -/
def wSuite (i : Nat) (ts : Addr → TS) (D : Ends) : WX := fun cls d σ H => ∀ a oe vs, H a = none → L2N.Zn cls d oe → oe.data = .fields vs → ts a { nx := fun σ' H' => D.nx (σ'.set i none) H', rt := D.rt, bk := fun σ' H' => D.bk (σ'.set i none) H', ct := fun σ' H' => D.ct (σ'.set i none) H' } (σ.set i (some (.ref a))) (upd H a (ExO1 oe))
/-- the clauses one behind the other -/
def wKeptL (K : PySem.W.Frag) (i : Nat) (D : Ends) : List (Value × (Addr → TS)) → WX
  | [] => fun _ _ _ _ => False
  | (c, ts) :: r => fun cls d σ H => ∃ b, PySem.W.exmOne K cls c = some b ∧ (b = true → wSuite i ts D cls d σ H) ∧ (b = false → wKeptL K i D r cls d σ H)
inductive HdsK (X : Cx) (n : Str) : List ExceptHandler → List (Value × (Addr → TS)) → Prop
  | nil : HdsK X n [] []
  | cons {x : Str} {c : Value} {ts : Addr → TS} {b₀ : Stmt} {suite : List Stmt} {np pos' : Pos} {hds : List ExceptHandler} {l : List (Value × (Addr → TS))} (hc : Names X x c)
      (hsu : ∀ (a : Addr) (pn : List (Addr × Obj)), PSs (X.suite a pn) (b₀ :: suite) (ts a)) (r : HdsK X n hds l) : HdsK X n (.ExceptHandler (some (.Name x np)) (some n) (b₀ :: suite) pos' :: hds) ((c, ts) :: l)
section
variable {X : Cx} {n : Str} {i : Nat} {body : List Stmt} {h₀ : ExceptHandler} {hds : List ExceptHandler} {l : List (Value × (Addr → TS))} {pos : Pos} {tb : WX → TS}
end

/-- two clauses -/
def tryR2 {S : Type} (cs1 cs2 : List Str) (m : Res S) (h1 h2 : Str → List (Str × Option Int) → Res S) : Res S := match m with
  | .ok a => .ok a
  | .raise x => if x.cls ∈ cs1 then h1 x.cls x.fs else if x.cls ∈ cs2 then h2 x.cls x.fs else .bad
  | .bad => .bad
/-- errors that a clause lets by -/
def CatchN (K : PySem.W.Frag) (mg : Str → Option Value) (cv : Value) (cs : List Str) : Prop := ∀ c, c ∈ cs → ∃ C, mg c = some (.ref C) ∧ PySem.W.exmOne K (.ref C) cv = some false
section
variable {X : Cx} {en : Kn} {δ : List Slot} {R : Type} {m : Res R} {N : List Slot → Res R → Prop} {RT : Slot → List Slot → Res R → Prop} {BK CT : List Slot → Res R → Prop} {rest : List Stmt}
/-- how a suite is judged, the error in slot i -/
def SuiteOk (X : Cx) (en : Kn) (δ : List Slot) (i : Nat) (sts : List Stmt) {S : Type} (pJ : S → List Slot) (cs : List Str) (h : Str → List (Str × Option Int) → Res S) : Prop :=
  ∀ c, c ∈ cs → ∀ (xf : List (Str × Option Int)) (a : Addr) (pn : List (Addr × Obj)) (en' : Kn), KnLe en en' → HotV (X.suite a pn).A.handled en'.G0 → JSs (X.suite a pn) en' (δ.set i (.fr (.exc c xf))) sts (fun δ' m' => ∃ s, m' = .ok s ∧ Le (δ'.set i .un) (pJ s) ∧ noBo δ' = true) (fun _ _ _ => False) (fun _ _ => False) (fun _ _ => False) (h c xf)
end
end BR

/-! K59: a tried call with None among its arguments -/
namespace BR
open PySem PySem.Spec PyProof.Rows L2
/-- names, or None -/
def tAs : List (Option Nat) → TA
  | [] => tNil
  | some i :: is => tCons (tVar i) (tAs is)
  | none :: is => tCons (tC .non) (tAs is)
def AO (δ : List Slot) : List Kd → List (Option Nat) → List D → Prop
  | [], [], [] => True
  | .b :: ks, some i :: is, d :: ds => (∃ s, δ[i]? = some s ∧ s.rdp = some d) ∧ AO δ ks is ds
  | .f :: ks, some i :: is, d :: ds => δ[i]? = some (.fr d) ∧ AO δ ks is ds
  | .b :: ks, none :: is, d :: ds => d = .non ∧ AO δ ks is ds
  | .f :: ks, none :: is, d :: ds => d = .non ∧ AO δ ks is ds
  | _, _, _ => False
section
variable {X : Cx} {en : Kn} {δ : List Slot} {R : Type} {m : Res R} {N : List Slot → Res R → Prop} {RT : Slot → List Slot → Res R → Prop} {BK CT : List Slot → Res R → Prop} {rest : List Stmt}
end
end BR

/-! K60: a, b, c = a list of three -/
namespace BR
open PySem PySem.Spec PyProof.Rows L2
section
variable {X : Cx} {en : Kn} {δ τ : List Slot} {R : Type} {C : Slot → List Slot → Res R → Prop} {m : Res R}
def uL3 : D → Option (D × D × D)
  | .lst [a, b, c] => some (a, b, c)
  | _ => none
end
end BR

/-! K61: a call of a def out of a written list of defs -/
namespace BR
open PySem PySem.Spec PyProof.Rows L2
/-- defs by name, kinds, what they give -/
abbrev Alt := Str × List Kd × (List D → Res D)
def pickF : List Alt → Int → List D → Res D
  | [], _, _ => .bad
  | a :: r, i, ds => if i = 0 then a.2.2 ds else pickF r (i - 1) ds
/-- the list's names are these defs -/
def NmA (X : Cx) : List Alt → List Expr → Prop
  | [], [] => True
  | (x, ks, g) :: as, .Name y _ :: es => x = y ∧ Gl X x ∧ (x == ("__debug__" : Str)) = false ∧ (∃ k, Df X.prog X.w X.K X.mg X.base k x ks g (fun a => a) (fun _ => []) false ∧ RoomG k X.A) ∧ NmA X as es
  | _, _ => False
section
variable {X : Cx}
end
section
variable {X : Cx} {en : Kn} {δ τ : List Slot} {R : Type} {C : Slot → List Slot → Res R → Prop} {m : Res R}
end
end BR

/-! K62: a tried call with built arguments -/
namespace BR
open PySem PySem.Spec PyProof.Rows L2
/-- whatever may be raised -/
def Kn.any (en : Kn) : Kn := { n := en.n, G0 := en.G0, F0 := en.F0, ps := en.ps, HX := fun _ => True, h0 := trivial }
theorem Wd.any {K : PySem.W.Frag} {en : Kn} {δ : List Slot} {σ : L2.St} {G H : Hp} (W : Wd K en δ σ G H) : Wd K en.any δ σ G H := ⟨W.len, W.sub, W.ext, W.new, W.frm, W.stay, W.nd, fun i sl o h1 h2 => by
  have q := W.slot i sl o h1 h2
  cases sl <;> exact q, W.apart⟩
section
variable {X : Cx} {en : Kn} {δ : List Slot} {m : Res Unit}
end
end BR

/-! K63: errors made and kept as values; a tried call whose last parameter is left out -/
namespace BR
open PySem PySem.Spec PyProof.Rows L2
section
variable {X : Cx}
end
/-- an error class without an own begin -/
def Mk0 (K : PySem.W.Frag) (mg : Str → Option Value) (c : Str) : Prop := Raise K mg c ∧ ∃ C, mg c = some (.ref C) ∧ ExcF K c C
def MkF (K : PySem.W.Frag) (mg : Str → Option Value) (c : Str) : Prop := ∃ C, mg c = some (.ref C) ∧ ExcF K c C
/-- an error of one field -/
def mkX (c n : Str) : D → Option D
  | .int i => some (.exc c [(n, some i)])
  | .non => some (.exc c [(n, none)])
  | _ => none
section
variable {X : Cx} {en : Kn} {δ τ : List Slot} {R : Type} {C : Slot → List Slot → Res R → Prop} {m : Res R}
end
/-! ### a tried call, the last parameter left out -/
section
variable {X : Cx} {k : Nat} {f : Addr} {fd : FuncData} {ps : List Str} {sp : Sp} {x : Str} {p pos : Pos} {e : Expr} {es : List Expr} {t : TA} {E : L2.St → XK}
def tNonE (t : TA) : TA := fun σ H Q => t σ H fun vs H1 => Q (vs ++ [V.non]) H1
end
section
variable {X : Cx} {en : Kn} {δ : List Slot} {R : Type} {m : Res R} {N : List Slot → Res R → Prop} {RT : Slot → List Slot → Res R → Prop} {BK CT : List Slot → Res R → Prop} {rest : List Stmt}
end
end BR

/-! K64: a dict comprehension of two clauses without tests -/
namespace BR
open PySem PySem.Spec PyProof.Rows L2
section
variable {P : Program} {w : World} {A : Around} {R : Result → Shared → Prop} {s : Shared} {kx vx tg iter tg1 iter1 : Expr} {sc : Scope} {ps : Pos} {it ac : Value} {D : Addr} {en : Env}
abbrev NB (P : Program) (w : World) (A : Around) (R : Result → Shared → Prop) (en : Env) : Value → Shared → Prop := notedBy (model P w) A en fun e s' => R (.error e) s'
end
def tDc2 (wi : TI) (g : TG) (wi1 : TI) (g1 : TG) (tk tv : TE) (vs vs1 : List Nat) : TE := fun σ H Q => wi σ H fun J H1 => ∀ D, H1 D = none → ∃ W : Nat → Nat → Hp → Prop, (∃ m, W 0 m (upd H1 D (.dK []))) ∧ ∀ i m H, W i m H →
  (J.stop i H ∧ Q (.ref D) H) ∨ (J.go i H ∧ ∃ Nz : Hp → Prop, (∀ H', Nz H' → ∃ m', m' < m ∧ W (i + 1) m' H') ∧ ∀ x H', J.yld i H x H' → g x (L2.wipe σ vs) H' fun σ2 H2 => L2.wipe σ2 vs = L2.wipe σ vs ∧ wi1 σ2 H2 fun J1 H4 => ∃ W1 : Nat → Nat → Hp → Prop, (∃ m, W1 0 m H4) ∧ ∀ j k H, W1 j k H →
    (J1.stop j H ∧ Nz H) ∨ (J1.go j H ∧ ∃ Ny : Hp → Prop, (∀ H', Ny H' → ∃ k', k' < k ∧ W1 (j + 1) k' H') ∧ ∀ x H', J1.yld j H x H' → g1 x (L2.wipe σ2 vs1) H' fun σ3 H5 => L2.wipe σ3 vs1 = L2.wipe σ2 vs1 ∧ tk σ3 H5 fun y H6 => tv σ3 H6 fun z H7 =>
      ∃ kvs k, y = kV k ∧ H7 D = some (.dK kvs) ∧ kvs.length < sizeLine ∧ Ny (upd H7 D (.dK (putK kvs k z)))))
section
variable {X : Cx}
abbrev AllP (X : Cx) (sc : Scope) (p : Cx → Prop) : Prop := ∀ (s : Shared) (H : Hp) (C : Addr) (cl : List (Str × Addr)) (fp : List Addr), p (X.blk s H sc (compEnvC sc cl C X.env) fp)
end
def dcI : List D → List (Key × D) → (D → Res (D × D)) → Res (List (Key × D))
  | [], acc, _ => .ok acc
  | e :: es, acc, f => match f e with
    | .ok (x, y) => (match keyD x with
      | some k => if acc.length < sizeLine then dcI es (putD acc k y) f else .bad
      | none => .bad)
    | _ => .bad
def dc2F : List D → List (Key × D) → (D → Res (List D)) → (D → D → Res (D × D)) → Res (List (Key × D))
  | [], acc, _, _ => .ok acc
  | d :: ds, acc, g, f => match g d with
    | .ok es => (match dcI es acc (f d) with
      | .ok acc' => dc2F ds acc' g f
      | _ => .bad)
    | _ => .bad
section
variable {X : Cx} {en : Kn} {δ τ : List Slot} {R : Type} {C : Slot → List Slot → Res R → Prop} {m : Res R} {K : PySem.W.Frag}
end
end BR

/-! K65: sorted(a list of pairs of ints) -/
namespace BR
open PySem PySem.Spec PyProof.Rows L2
/-- the first of two that is told ahead -/
def pLe (p q : Int × Int) : Bool := decide (p.1 < q.1) || (decide (p.1 = q.1) && decide (p.2 ≤ q.2))
def insP (p : Int × Int) : List (Int × Int) → List (Int × Int)
  | [] => [p]
  | q :: r => if pLe p q = true then p :: q :: r else q :: insP p r
def srtP : List (Int × Int) → List (Int × Int)
  | [] => []
  | p :: r => insP p (srtP r)
/-- a value that is a pair of ints -/
def TP (K : PySem.W.Frag) (H : Hp) (x : V) (q : Int × Int) : Prop := ∃ t, x = .ref t ∧ SqT K H t [.int q.1, .int q.2]
def All2P (P : V → Int × Int → Prop) : List V → List (Int × Int) → Prop
  | [], [] => True
  | x :: xs, q :: qs => P x q ∧ All2P P xs qs
  | _, _ => False
theorem All2P.map {P : V → Int × Int → Prop} {k : V → Int × Int} (hk : ∀ x q, P x q → k x = q) : ∀ {xs : List V} {ps : List (Int × Int)}, All2P P xs ps → ps = xs.map k ∧ ∀ x, x ∈ xs → P x (k x)
  | [], [], _ => ⟨rfl, fun x hx => by cases hx⟩
  | x :: xs, q :: qs, ⟨h, t⟩ => by
    obtain ⟨e, f⟩ := All2P.map hk t
    have := hk x q h
    refine ⟨by rw [List.map_cons, this, ← e], fun y hy => ?_⟩
    rcases List.mem_cons.mp hy with rfl | hy
    · rw [this]; exact h
    · exact f y hy
  | [], _ :: _, h => h.elim
  | _ :: _, [], h => h.elim
theorem All2P.of {P : V → Int × Int → Prop} {k : V → Int × Int} : ∀ {xs : List V}, (∀ x, x ∈ xs → P x (k x)) → All2P P xs (xs.map k)
  | [], _ => trivial
  | x :: xs, h => ⟨h x List.mem_cons_self, All2P.of fun y hy => h y (List.mem_cons_of_mem _ hy)⟩
section
variable {X : Cx}
def tPD (q : Int × Int) : D := .tup [.int q.1, .int q.2]
def pairsI : List D → Option (List (Int × Int))
  | [] => some []
  | .tup [.int i, .int j] :: r => (pairsI r).map fun ps => (i, j) :: ps
  | _ => none
/-- sorted(x), x a list of pairs of ints -/
def srtPT : List D → Option (List D)
  | [.lst ds] => (pairsI ds).map fun ps => (srtP ps).map tPD
  | _ => none
end
end BR

/-! K66: list(a dict) -/
namespace BR
open PySem PySem.Spec PyProof.Rows L2
def keyT : Key → D
  | .inl i => .int i
  | .inr s => .str s
/-- list(x), x a dict: its keys -/
def listKT : List D → Option (List D)
  | [.dic kvs] => if kvs.length ≤ sizeLine then some (kvs.map fun kv => keyT kv.1) else none
  | _ => none
section
variable {X : Cx}
end
end BR

/-! K67: True in a list of truths -/
namespace BR
open PySem PySem.Spec PyProof.Rows L2
def inBD (a b : D) : Option Bool := match a with
  | .bl i => ((asL b).bind bls).map fun ns => decide (i ∈ ns)
  | _ => none
section
variable {X : Cx}
end
end BR

/-! K68: a module's text, a list of five taken apart, a tried call whose arguments change what is known -/
namespace BR
open PySem PySem.Spec PyProof.Rows L2
section
variable {X : Cx} {en : Kn} {δ τ : List Slot} {R : Type} {C : Slot → List Slot → Res R → Prop} {m : Res R}
theorem je_gs {x : Str} {i : Str} {pos : Pos} (hm : ∃ t, X.mg x = some (.str i t)) (h : C (.fr (.str i)) δ m) (hg : Gl X x := by rfl) (hd : (x == ("__debug__" : Str)) = false := by decide) : JE X en δ τ (.Name x pos) C m := .mk fun hb hx σ ts G H T hl hσ W k => by
  obtain ⟨t, hm⟩ := hm
  exact we_of (pe_glob (v := .str i) hg hm ⟨t, rfl⟩ hd) (k _ _ _ G H h hl (W.out (Grow.refl W.sub) (show Rep _ _ _ _ from rfl)))
theorem gs_mk {K : PySem.W.Frag} {mg : Str → Option Value} {h : Heap} {x i : Str} {t : Tok} (X : K.In h) (G : h.Ns mainGlobals mg) (g : PySem.W.nsIn K mainGlobals x = some (some (.str i t))) : ∃ t, mg x = some (.str i t) := ⟨t, PySem.W.mg_of X G g⟩
def uL5 : D → Option (D × D × D × D × D)
  | .lst [a, b, c, d, e] => some (a, b, c, d, e)
  | _ => none
end
/-- nothing may be raised -/
def Kn.calm (en : Kn) : Kn := { n := en.n, G0 := en.G0, F0 := en.F0, ps := en.ps, HX := fun x => x = none, h0 := rfl }
theorem Wd.calm {K : PySem.W.Frag} {en : Kn} {δ : List Slot} {σ : L2.St} {G H : Hp} (W : Wd K en δ σ G H) : Wd K en.calm δ σ G H := ⟨W.len, W.sub, W.ext, W.new, W.frm, W.stay, W.nd, fun i sl o h1 h2 => by
  have q := W.slot i sl o h1 h2
  cases sl <;> exact q, W.apart⟩
/-- what ends well -/
def nrB {α : Type} : Res α → Res α
  | .ok a => .ok a
  | _ => .bad
section
variable {X : Cx} {en : Kn} {δ : List Slot} {R : Type} {m : Res R} {N : List Slot → Res R → Prop} {RT : Slot → List Slot → Res R → Prop} {BK CT : List Slot → Res R → Prop} {rest : List Stmt}
end
end BR

/-! K69: T.append([..]) and, at once, T[k].append(..) of that last list -/
namespace BR
open PySem PySem.Spec PyProof.Rows L2
section
variable {K : PySem.W.Frag} {en : Kn} {Δ : List Slot} {S : L2.St} {G H : Hp}
end
def app2 (ds : List D) (k : Int) : Option Unit := if ds.length < sizeLine ∧ k = (ds.length : Int) then some () else none
section
variable {X : Cx} {en : Kn} {δ : List Slot} {R : Type} {m : Res R} {N : List Slot → Res R → Prop} {RT : Slot → List Slot → Res R → Prop} {BK CT : List Slot → Res R → Prop} {rest : List Stmt}
end
end BR

/-! K70: list(reversed(a list)) -/
namespace BR
open PySem PySem.Spec PyProof.Rows L2
open Sem (wp)
section
variable {prog : Program} {w : World} {A : Around} {E : Value → Shared → Prop} {s : Shared}
end
/-- list(reversed(x)), x a list: a new list -/
def tListRev (K : PySem.W.Frag) (te : TE) : TE := fun σ H Q => te σ H fun v H1 => ∃ (a : Addr) (xs : List V), v = .ref a ∧ SqL K H1 a xs ∧ ∀ q, H1 q = none → Q (.ref q) (upd H1 q (.lst xs.reverse))
section
variable {X : Cx}
end
/-- a list the other way about -/
def revT : D → Option (List D)
  | .lst ds => some ds.reverse
  | _ => none
section
variable {X : Cx} {en : Kn} {δ τ : List Slot} {R : Type} {C : Slot → List Slot → Res R → Prop} {m : Res R}
end
end BR

/-! K71: for x in T[j]: x.append(..), T told -/
namespace BR
open PySem PySem.Spec PyProof.Rows L2
section
variable {X : Cx} {en : Kn} {δ : List Slot} {R : Type} {m : Res R} {N : List Slot → Res R → Prop} {RT : Slot → List Slot → Res R → Prop} {BK CT : List Slot → Res R → Prop}
end
theorem rep_un {n j : Nat} {sl : Slot} (h : (List.replicate n Slot.un)[j]? = some sl) : sl = .un := List.eq_of_mem_replicate (List.mem_of_getElem? h)
theorem Wd.none1 {K : PySem.W.Frag} {en : Kn} {n : Nat} {σ : L2.St} {G H : Hp} (hn : en.n = n) (hσ : σ.length = n) (sg : Sub G H) : Wd K (en.pure G H) (List.replicate n .un) σ G H where
  len := by rw [List.length_replicate]; exact hσ.symm
  sub := sg
  ext := Sub.refl _
  new := fun a o e => .inl e
  frm := Sub.refl _
  stay := fun a h => by cases h
  nd := List.nodup_nil
  slot := fun j sl o h1 h2 => by
    have e := rep_un h1
    subst e; trivial
  apart := fun a b p h1 _ => by
    obtain ⟨sl, e1, e2, _⟩ := h1
    have e := rep_un e1
    subst e; cases e2
section
variable {X : Cx} {en : Kn} {δ : List Slot} {R : Type} {m : Res R} {N : List Slot → Res R → Prop} {RT : Slot → List Slot → Res R → Prop} {BK CT : List Slot → Res R → Prop}
def tupIx (d : D) (j : Int) : Option D := match d with
  | .tup ds => atI ds j
  | _ => none
end
end BR

/-! K72: a, b = f(..), g(..), both told, and both changed behind -/
namespace BR
open PySem PySem.Spec PyProof.Rows L2
section
variable {X : Cx} {en : Kn} {δ : List Slot} {R : Type} {m : Res R} {N : List Slot → Res R → Prop} {RT : Slot → List Slot → Res R → Prop} {BK CT : List Slot → Res R → Prop} {pos : Pos}
def chkN (d : D) : Option Unit := match d with
  | .lst l => if l.length < 9000 then some () else none
  | _ => none
/-- as JX, with two told things -/
structure JX2 (X : Cx) (en : Kn) (δ : List Slot) (i : Nat) (d : D) (j : Nat) (e : D) (sts : List Stmt) {R : Type} (N : List Slot → Res R → Prop) (RT : Slot → List Slot → Res R → Prop) (BK CT : List Slot → Res R → Prop) (m : Res R) : Prop where
  run : m ≠ .bad → en.HX m.exc → ∀ (σ : L2.St) (G H0 H G1 : Hp) (E : Ends) (v w : V), δ.length = en.n → σ[i]? = some (some v) → σ[j]? = some (some w) → Wd X.K en δ σ G H0 → Sub H0 H → Sub G1 H → (∀ a o, G1 a = some o → noL G a = some o ∨ H0 a = none) → Rep X.K G1 d v → Rep X.K G1 e w →
    (∀ δ' σ' G' H', N δ' m → δ'.length = en.n → Wd X.K en δ' σ' G' H' → E.nx σ' H') →
    (∀ sl δ' v σ' G' H', RT sl δ' m → δ'.length = en.n → Wd X.K en (δ' ++ [sl]) (σ' ++ [some v]) G' H' → E.rt v H') →
    (∀ δ' σ' G' H', BK δ' m → δ'.length = en.n → Wd X.K en δ' σ' G' H' → E.bk σ' H') →
    (∀ δ' σ' G' H', CT δ' m → δ'.length = en.n → Wd X.K en δ' σ' G' H' → E.ct σ' H') → WSs X sts E σ H
end
end BR

/-! K73: an own list copied out of what is told, beside it -/
namespace BR
open PySem PySem.Spec PyProof.Rows L2
section
variable {X : Cx} {en : Kn} {δ : List Slot} {R : Type} {m : Res R} {N : List Slot → Res R → Prop} {RT : Slot → List Slot → Res R → Prop} {BK CT : List Slot → Res R → Prop} {pos : Pos}
def flM (ds : List D) : Option Unit := if flDs ds = true then some () else none
end
end BR

/-! K74: a def that tells two things, of which the first one's lists are new and apart from all of the second; such a call's first thing changed behind -/
namespace BR
open PySem PySem.Spec PyProof.Rows L2
/-- a tuple of two: the second stands fast in G2; the first one's lists are new and none of the second's -/
structure PairE (K : PySem.W.Frag) (en : Kn) (d1 d2 : D) (v : V) (H' : Hp) : Prop where
  at_ : ∃ (a : Addr) (v1 v2 : V) (G2 H0 G1 : Hp), v = .ref a ∧ SqT K H' a [v1, v2] ∧ Sub en.G0 G2 ∧ Sub G2 H0 ∧ Sub en.F0 H0 ∧ Sub H0 H' ∧ (∀ b o, G2 b = some o → en.G0 b = some o ∨ (en.F0 b = none ∧ b ∉ en.ps)) ∧ Rep K G2 d2 v2 ∧ Sub G1 H' ∧ (∀ b o, G1 b = some o → noL G2 b = some o ∨ H0 b = none) ∧ Rep K G1 d1 v1
/-- a told thing at i, its lists new and nobody else's -/
structure TW (X : Cx) (en : Kn) (δ : List Slot) (i : Nat) (d : D) (σ : L2.St) (H : Hp) : Prop where
  at_ : ∃ (G H0 G1 : Hp) (v : V), δ.length = en.n ∧ σ[i]? = some (some v) ∧ Wd X.K en δ σ G H0 ∧ Sub H0 H ∧ Sub G1 H ∧ (∀ a o, G1 a = some o → noL G a = some o ∨ H0 a = none) ∧ Rep X.K G1 d v
section
variable {X : Cx} {en : Kn} {R : Type}
/-- statements beside a told thing, whose end tells two -/
structure JXE (X : Cx) (en : Kn) (δ : List Slot) (i : Nat) (d : D) (sts : List Stmt) {R : Type} (C : List Slot → D → Res R → Prop) (RP : D → D → Res R → Prop) (m : Res R) : Prop where
  run : m ≠ .bad → en.HX m.exc → ∀ (σ : L2.St) (H : Hp) (E : Ends), TW X en δ i d σ H →
    (∀ δ' d' σ' H', C δ' d' m → TW X en δ' i d' σ' H' → E.nx σ' H') →
    (∀ d1 d2 v H', RP d1 d2 m → PairE X.K en d1 d2 v H' → E.rt v H') → WSs X sts E σ H
structure JPs (X : Cx) (en : Kn) (δ : List Slot) (sts : List Stmt) {R : Type} (RP : D → D → Res R → Prop) (m : Res R) : Prop where
  run : m ≠ .bad → en.HX m.exc → ∀ (σ : L2.St) (G H : Hp) (E : Ends), δ.length = en.n → Wd X.K en δ σ G H →
    (∀ d1 d2 v H', RP d1 d2 m → PairE X.K en d1 d2 v H' → E.rt v H') → WSs X sts E σ H
variable {δ : List Slot} {C : List Slot → D → Res R → Prop} {RP : D → D → Res R → Prop} {m : Res R} {pos : Pos}
end
section
variable {P : Program} {w : World} {K : PySem.W.Frag} {mg : Str → Option Value} {base : Heap}
def SpP (K : PySem.W.Frag) (mg : Str → Option Value) (ks : List Kd) (ck : List D → Option Unit) (f : List D → Res D) : Sp := fun vs H Q E =>
  vs.length = ks.length ∧ ∃ (G : Hp) (ds : List D) (r : Res D), Sub G H ∧ ArgsOk K G H (hide H []) ks ds vs [] ∧ ck ds = some () ∧ f ds = r ∧ r ≠ .bad ∧
    (∀ d1 d2, r = .ok (.tup [d1, d2]) → ∀ v H', PairE K ⟨0, G, hide H [], [], fun o => o = none, rfl⟩ d1 d2 v H' → Q v H') ∧
    (∀ x, r = .raise x → ∀ cls d H', ExcOk mg (hide H []) [] x cls d H' → Sub (hide H []) H' → E cls d H')
def DfP (P : Program) (w : World) (K : PySem.W.Frag) (mg : Str → Option Value) (base : Heap) (k : Nat) (x : Str) (ks : List Kd) (ck : List D → Option Unit) (den : List D → Res D) : Prop :=
  ∃ (f : Addr) (fd : FuncData) (psn : List Str), FnG P w K mg base k f fd psn (SpP K mg ks ck den) ∧ mg x = some (.ref f) ∧ PySem.W.keepIn K (.ref f) = true ∧ Binds K fd psn []
end
section
variable {X : Cx} {en : Kn} {R : Type} {δ : List Slot} {N : List Slot → Res R → Prop} {RT : Slot → List Slot → Res R → Prop} {BK CT : List Slot → Res R → Prop} {m : Res R} {pos : Pos}
end
end BR

/-! K75: a parameter that is always given by its name alone; min of lists of truths, by default -/
namespace BR
open PySem PySem.Spec PyProof.Rows L2
/-- y is the last parameter; it is given by name -/
def KwJ (K : PySem.W.Frag) (fd : FuncData) (ps : List Str) (y : Str) : Prop := ∀ (s : Shared) (us : List Value) (u : Value), (us ++ [u]).length = ps.length → BindsTo s fd ⟨us, [(y, u)]⟩ (ps.zip (us ++ [u]))
def DfJ (P : Program) (w : World) (K : PySem.W.Frag) (mg : Str → Option Value) (base : Heap) (k : Nat) (x y : Str) (ks : List Kd) {α : Type} (den : List D → Res α) (val : α → D) (outs : α → List D) (mu : Bool) : Prop :=
  ∃ (f : Addr) (fd : FuncData) (psn : List Str), FnG P w K mg base k f fd psn (SpD K mg ks den val outs mu) ∧ mg x = some (.ref f) ∧ PySem.W.keepIn K (.ref f) = true ∧ KwJ K fd psn y
section
variable {X : Cx} {en : Kn} {δ τ : List Slot} {R : Type} {C : Slot → List Slot → Res R → Prop} {m : Res R} {k : Nat} {f : Addr} {fd : FuncData} {ps : List Str} {sp : Sp} {E : XK} {x y : Str} {p pos kpos : Pos} {e e' : Expr} {es : List Expr}
end
/-! ### min of lists of truths -/
def blss : List D → Option (List (List Bool))
  | [] => some []
  | .lst l :: r => match bls l, blss r with
    | some b, some bs => some (b :: bs)
    | _, _ => none
  | _ :: _ => none
def pdB (b : List Bool) : PyData := .list (b.map .bool)
def minB (b : List Bool) (bs : List (List Bool)) : List Bool := bs.foldl (fun a y => if PySem.W.dataLt (pdB y) (pdB a) = true then y else a) b
def minDf : D → Option D
  | .lst ds => match blss ds with
    | some [] => some .non
    | some (b :: bs) => some (.lst ((minB b bs).map .bl))
    | none => none
  | _ => none
theorem readsB_mk {h : Heap} : ∀ (bs : List Bool), ReadsAll h (bs.map Value.bool) (bs.map PyData.bool) []
  | [] => .nil
  | b :: bs => .cons (as := []) (.bool b) (readsB_mk bs)
theorem vals_bools : ∀ {bs : List Bool} {us : List Value}, Vals (bs.map V.bl) us → us = bs.map Value.bool
  | [], us, r => by cases r; rfl
  | b :: bs, us, r => by
    cases r with
    | cons r1 r2 => rw [vals_bools r2, show _ = Value.bool b from r1]; rfl
section
variable {X : Cx} {en : Kn} {δ τ : List Slot} {R : Type} {C : Slot → List Slot → Res R → Prop} {m : Res R}
/-- the items of a list, each a list of truths -/
def BLs (H : Hp) : List (List Bool) → List V → Prop
  | [], us => us = []
  | b :: bs, us => ∃ a r, us = V.ref a :: r ∧ H a = some (.lst (b.map V.bl)) ∧ BLs H bs r
theorem BLs.reads {pins : List (Addr × Obj)} {s : Shared} {σ : L2.St} {H : Hp} (I : Inv X pins σ H s) : ∀ {bss : List (List Bool)} {us : List V} {its : List Value}, BLs H bss us → Vals us its → ∃ as, ReadsAll s.heap its (bss.map pdB) as
  | [], us, its, h, r => by
    have e : us = [] := h
    subst e; cases r
    exact ⟨[], .nil⟩
  | b :: bs, us, its, h, r => by
    obtain ⟨a, q, rfl, ha, h2⟩ := h
    cases r with
    | cons r1 r2 =>
      cases r1
      obtain ⟨xs, rv, ⟨o, n, ho, hc, _, hd⟩, _⟩ := I.list (SqL.of ha)
      obtain ⟨as, ra⟩ := BLs.reads I h2 r2
      have e := vals_bools rv
      subst e
      have rd : Reads s.heap (.ref a) (pdB b) (a :: []) := .list ho hc hd (by simpa using readsB_mk b)
      exact ⟨_, .cons rd ra⟩
theorem BLs.at {H : Hp} : ∀ {bss : List (List Bool)} {us : List V} {i : Nat} {v : V}, BLs H bss us → us[i]? = some v → ∃ b a, bss[i]? = some b ∧ v = .ref a ∧ H a = some (.lst (b.map V.bl))
  | [], us, i, v, h, e => by
    have z : us = [] := h
    subst z; simp at e
  | b :: bs, us, 0, v, h, e => by
    obtain ⟨a, q, rfl, ha, h2⟩ := h
    have e' : V.ref a = v := by simpa using e
    exact ⟨b, a, rfl, e'.symm, ha⟩
  | b :: bs, us, i + 1, v, h, e => by
    obtain ⟨a, q, rfl, ha, h2⟩ := h
    obtain ⟨b', a', e1, e2, e3⟩ := BLs.at (i := i) h2 (by simpa using e)
    exact ⟨b', a', by simpa using e1, e2, e3⟩
def rMinDf (K : PySem.W.Frag) : List V → List V → Hp → VK → Prop := fun vs zs H Q => ∃ (a : Addr) (us : List V) (bss : List (List Bool)) (z : V), vs = [V.ref a] ∧ zs = [z] ∧ H a = some (.lst us) ∧ BLs H bss us ∧ (bss = [] → Q z H) ∧
  ∀ b bs, bss = b :: bs → ∀ (i : Nat) (v : V), us[i]? = some v → bss[i]? = some (minB b bs) → Q v H
end
/-! ### d.update({..}) -/
def updD : D → List D → Option (D × D)
  | .dic es, [.dic fs] => if es.length + fs.length ≤ sizeLine then some (.non, .dic (mergeD es fs)) else none
  | _, _ => none
def updT (es : List (Key × D)) : D → Option (List (Key × D))
  | .dic fs => if es.length + fs.length ≤ sizeLine then some (mergeD es fs) else none
  | _ => none
section
variable {X : Cx} {en : Kn} {δ τ : List Slot} {R : Type} {C : Slot → List Slot → Res R → Prop} {m : Res R}
end
/-! ### sum of a list of truths -/
def sumBD : List D → Option D
  | [.lst ds] => (bls ds).map fun bs => .int (bs.count true : Nat)
  | _ => none
section
variable {X : Cx}
end
end BR

/-! K76: sorted({n for y in (a, b) for n in y}) of two dicts' keys; walking a dict's keys -/
namespace BR
open PySem PySem.Spec PyProof.Rows L2
section
variable {P : Program} {w : World} {A : Around} {R : Result → Shared → Prop} {s : Shared} {kx tg iter tg1 iter1 : Expr} {sc : Scope} {ps : Pos} {it ac : Value} {D : Addr} {en : Env}
abbrev NB2 (P : Program) (w : World) (A : Around) (R : Result → Shared → Prop) (en : Env) : Value → Shared → Prop := notedBy (model P w) A en fun e s' => R (.error e) s'
end
def tSc2 (w : World) (wi : TI) (g : TG) (wi1 : TI) (g1 : TG) (tk : TE) (vs vs1 : List Nat) : TE := fun σ H Q => wi σ H fun J H1 => ∀ D, H1 D = none → ∃ W : Nat → Nat → Hp → Prop, (∃ m, W 0 m (upd H1 D (SetRO w D (fun _ => false) 0))) ∧ ∀ i m H, W i m H →
  (J.stop i H ∧ Q (.ref D) H) ∨ (J.go i H ∧ ∃ Nz : Hp → Prop, (∀ H', Nz H' → ∃ m', m' < m ∧ W (i + 1) m' H') ∧ ∀ x H', J.yld i H x H' → g x (L2.wipe σ vs) H' fun σ2 H2 => L2.wipe σ2 vs = L2.wipe σ vs ∧ wi1 σ2 H2 fun J1 H4 => ∃ W1 : Nat → Nat → Hp → Prop, (∃ m, W1 0 m H4) ∧ ∀ j k H, W1 j k H →
    (J1.stop j H ∧ Nz H) ∨ (J1.go j H ∧ ∃ Ny : Hp → Prop, (∀ H', Ny H' → ∃ k', k' < k ∧ W1 (j + 1) k' H') ∧ ∀ x H', J1.yld j H x H' → g1 x (L2.wipe σ2 vs1) H' fun σ3 H5 => L2.wipe σ3 vs1 = L2.wipe σ2 vs1 ∧ tk σ3 H5 fun y H6 =>
      ∃ (c : Int) (S : Int → Bool) (n : Nat), y = .int c ∧ H6 D = some (SetRO w D S n) ∧ n + 1 < scanBound ∧ Ny (upd H6 D (SetRO w D (addS S c) (if S c = true then n else n + 1)))))
section
variable {X : Cx}
abbrev AllP2 (X : Cx) (sc : Scope) (p : Cx → Prop) : Prop := ∀ (s : Shared) (H : Hp) (C : Addr) (cl : List (Str × Addr)) (fp : List Addr), p (X.blk s H sc (compEnvC sc cl C X.env) fp)
end
section
variable {X : Cx} {en : Kn} {δ τ : List Slot} {R : Type} {C : Slot → List Slot → Res R → Prop} {m : Res R} {K : PySem.W.Frag}
/-! ### [(s, c[s]) for s in c if c[s] != int(s > 0)], c a dict of ints -/
def prsI : List (Key × D) → Option (List (Int × Int))
  | [] => some []
  | (.inl k, .int v) :: r => (prsI r).map ((k, v) :: ·)
  | _ :: _ => none
def pickP (p : Int × Int) : Bool := !decide (p.2 = if decide (0 < p.1) = true then 1 else 0)
def pickD : D → Option (List D)
  | .dic kvs => if kvs.length ≤ 4000 ∧ (kvs.map (·.1)).Nodup then (prsI kvs).map fun ps => (ps.filter pickP).map fun p => .tup [.int p.1, .int p.2] else none
  | _ => none
structure PickI (K : PySem.W.Frag) (G Hl : Hp) (Dn : Addr) (ds : List D) (H : Hp) : Prop where
  old : ∀ c o, Hl c = some o → H c = some o
  ex : ∃ (Gn : Hp) (acc : List V), H Dn = some (.lst acc) ∧ Reps K Gn ds acc ∧ Sub Gn H ∧ ∀ c o, Gn c = some o → Hl c = none ∧ c ≠ Dn
/-! ### sorted({n for y in (a, b) for n in y}): the keys of two dicts -/
def keys2 : D → D → Option (List D)
  | .dic k1, .dic k2 => (intK k1).bind fun n1 => (intK k2).bind fun n2 => if n1.length + n2.length ≤ 4000 then some ((srtU (n1 ++ n2)).map D.int) else none
  | _, _ => none
structure SetI (w : World) (Hb : Hp) (D : Addr) (P : Int → Prop) [DecidablePred P] (c : Nat) (H : Hp) : Prop where
  old : ∀ x o, Hb x = some o → H x = some o
  ex : ∃ (S : Int → Bool) (n : Nat), H D = some (SetRO w D S n) ∧ n ≤ c ∧ ∀ k, S k = decide (P k)
end
end BR

/-! K77: texts: split, partition, join, endswith, int(..), signs, slices, walks, f'..' -/
namespace BR
open PySem PySem.Spec PyProof.Rows L2
def strsD : List D → Option (List Str)
  | [] => some []
  | .str y :: r => (strsD r).map (y :: ·)
  | _ :: _ => none
section
variable {X : Cx}
/-- x.split(y) -/
def splD : List D → Option (List D)
  | [.str a, .str b] => if (b.length == 0) = false ∧ a.length + 2 ≤ sizeLine then some ((Txt.split a b).map D.str) else none
  | _ => none
/-- x.partition(y) -/
def parD : List D → Option D
  | [.str a, .str b] => if (b.length == 0) = false ∧ a.length ≤ sizeLine then some (.tup [.str (Txt.partition a b).1, .str (Txt.partition a b).2.1, .str (Txt.partition a b).2.2]) else none
  | _ => none
/-- x.endswith(y) -/
def endD : List D → Option D
  | [.str a, .str b] => some (.bl (Txt.endswith a b))
  | _ => none
/-- x.join(list or tuple) -/
def joiS (a : Str) (ys : List Str) : Option D := if (ys.map (·.length)).sum + ys.length * a.length ≤ 16777216 then some (.str (Txt.join a ys)) else none
def joiD : List D → Option D
  | [.str a, .lst ds] => (strsD ds).bind (joiS a)
  | [.str a, .tup ds] => (strsD ds).bind (joiS a)
  | _ => none
/-- int(text) -/
def itxD : List D → Option D
  | [.str a] => if a.length ≤ 640 then (PySem.intText? a).map D.int else none
  | _ => none
/-- a sign in a text -/
def inSg (a b : D) : Option Bool := match a, b with
  | .str x, .str z => match x.cps.toList with
    | [c] => some (decide (c ∈ z.cps.toList))
    | _ => none
  | _, _ => none
/-- None in a tuple of ints and None -/
def optsD : List D → Option (List (Option Int))
  | [] => some []
  | .int i :: r => (optsD r).map (some i :: ·)
  | .non :: r => (optsD r).map (none :: ·)
  | _ :: _ => none
def oV : Option Int → V
  | none => .non
  | some i => .int i
def inNT (a b : D) : Option Bool := match a, b with
  | .non, .tup ds => (optsD ds).map fun os => os.any Option.isNone
  | _, _ => none
/-- text[i] -/
def ixS : D → D → Option D
  | .str z, .int i => if z.length ≤ sizeLine then (atI z.cps.toList i).map fun c => D.str ⟨#[c]⟩ else none
  | _, _ => none
end
section
variable {X : Cx} {en : Kn} {δ τ : List Slot} {R : Type} {C : Slot → List Slot → Res R → Prop} {m : Res R} {K : PySem.W.Frag}
/-- text[lo:hi] -/
def cutT (d : D) (lo hi : Option Int) : Option D := match d with
  | .str z => if z.length ≤ sizeLine then some (.str (cutS z lo hi)) else none
  | _ => none
/-- a text's signs -/
def asS : D → Option (List D)
  | .str z => some (z.cps.toList.map fun c => D.str ⟨#[c]⟩)
  | _ => none
/-! ### f'..' -/
def stS (acc : Str) : D → Option Str
  | .str y => if y.length ≤ sizeLine ∧ (acc ++ y).length ≤ sizeLine then some (acc ++ y) else none
  | .int i => if i.natAbs.log2 < 1920 ∧ (acc ++ (toString i : Str)).length ≤ sizeLine then some (acc ++ (toString i : Str)) else none
  | _ => none
/-- the parts' judgement, acc told already -/
structure JF (X : Cx) (en : Kn) (δ τ : List Slot) (tls : List TE) (acc : Str) {R : Type} (C : Slot → List Slot → Res R → Prop) (m : Res R) : Prop where
  run : m ≠ .bad → en.HX m.exc → ∀ (σ ts : L2.St) (G H : Hp) (T : Str → Hp → Prop), δ.length = en.n → σ.length = en.n → Wd X.K en (δ ++ τ) (σ ++ ts) G H →
    (∀ out δ' G' H', C (.fr (.str out)) δ' m → δ'.length = en.n → Wd X.K en (δ' ++ τ) (σ ++ ts) G' H' → T out H') → tJs tls acc σ H T
end
end BR

/-! K78: a def that is given a list of two new lists, apart, and changes the first; the list made by a comprehension of two turns -/
namespace BR
open PySem PySem.Spec PyProof.Rows L2
def SpT (K : PySem.W.Frag) (den : List D → List D → D → D → Option Bool) : Sp := fun vs H Q E =>
  vs.length = 3 ∧ ∃ (G : Hp) (p a b : Addr) (xs ys : List V) (A B : List D) (d t : D) (v w : V) (r : Bool),
    vs = [.ref p, v, w] ∧ Sub G H ∧ H p = some (.lst [.ref a, .ref b]) ∧ H a = some (.lst xs) ∧ H b = some (.lst ys) ∧ a ≠ b ∧ p ≠ a ∧ p ≠ b ∧ G p = none ∧ G a = none ∧ G b = none ∧ Reps K G A xs ∧ Reps K G B ys ∧ Rep K G d v ∧ Rep K G t w ∧ den A B d t = some r ∧
    ∀ H', (∀ c o, c ≠ a → H c = some o → H' c = some o) → Q (.bl r) H'
/-- the test, and what is told behind the change -/
def denT (g1 : List D → List D → D → D → Res Bool) (g2 : List D → List D → D → D → Res Bool) (cc : D) (A B : List D) (d t : D) : Option Bool :=
  if A.length < sizeLine then (match g1 A B d t with
    | .ok b => if b = true then some false else (match g2 (A ++ [cc]) B d t with
      | .ok r => some r
      | _ => none)
    | _ => none) else none
theorem Wd.un3 {K : PySem.W.Frag} {en : Kn} {G H : Hp} {u v w : V} (s : Sub G H) : Wd K (en.pure G H) [.un, .un, .un] [some u, some v, some w] G H where
  len := rfl
  sub := s
  ext := Sub.refl _
  new := fun a o e => .inl e
  frm := Sub.refl _
  stay := fun a h => by cases h
  nd := List.nodup_nil
  slot := fun j sl o h1 h2 => by
    match j, h1, h2 with
    | 0, h1, h2 => cases h1; trivial
    | 1, h1, h2 => cases h1; trivial
    | 2, h1, h2 => cases h1; trivial
    | j + 3, h1, h2 => simp at h1
  apart := fun a b p h1 _ => by
    obtain ⟨sl, e1, e2, _⟩ := h1
    match a, e1 with
    | 0, e1 => cases e1; cases e2
    | 1, e1 => cases e1; cases e2
    | 2, e1 => cases e1; cases e2
    | j + 3, e1 => simp at e1
/-- a region with three places more -/
def with3 (G H : Hp) (p a b : Addr) : Hp := fun c => if c = p ∨ c = a ∨ c = b then H c else G c
section
variable {P : Program} {w : World} {K : PySem.W.Frag} {mg : Str → Option Value} {base : Heap}
end
/-- what a block's element runs in: all that is there is kept -/
structure KnU (en en' : Kn) : Prop where
  n : en'.n = en.n
  HX : en'.HX = fun o => o = none
theorem KnU.lk {X : Cx} {en en' : Kn} (h : KnU en en') {s : Shared} {H : Hp} {scope : Scope} {cenv : Env} {fp : List Addr} : Lk (X.blk s H scope cenv fp) en' :=
  ⟨fun _ _ _ _ => False, takes0N, fun x hx => by rw [h.HX] at hx; cases hx⟩
def two (ds : List D) : Option Unit := if ds.length = 2 then some () else none
/-- in a comprehension nothing is raised -/
def okR {α : Type} : Res α → Res α
  | .ok a => .ok a
  | _ => .bad
section
variable {X : Cx} {en : Kn} {δ : List Slot} {R : Type} {C : Slot → List Slot → Res R → Prop} {m : Res R}
end
section
variable {X : Cx} {en : Kn} {δ : List Slot} {R : Type} {m : Res R} {N : List Slot → Res R → Prop} {RT : Slot → List Slot → Res R → Prop} {BK CT : List Slot → Res R → Prop}
end
end BR

/-! K79: a def whose told lists are all new, whatever list of lists it is given -/
namespace BR
open PySem PySem.Spec PyProof.Rows L2
def flL : D → Bool
  | .lst l => flDs l
  | _ => false
/-- a row of lists in which there is no list -/
def dp2 : D → Bool
  | .lst ds => ds.all flL
  | .tup ds => ds.all flL
  | _ => false
def chk2 (d : D) : Option Unit := if dp2 d = true then some () else none
def SpN (K : PySem.W.Frag) (f : D → Res D) : Sp := fun vs H Q E =>
  vs.length = 1 ∧ ∃ (G : Hp) (d r : D) (v : V), vs = [v] ∧ Sub G H ∧ Rep K G d v ∧ dp2 d = true ∧ f d = .ok r ∧
    ∀ u G' H', Sub H H' → Sub G' H' → (∀ a o, G' a = some o → noL G a = some o ∨ H a = none) → Rep K G' r u → Q u H'
section
variable {X : Cx} {en : Kn}
end
section
variable {P : Program} {w : World} {K : PySem.W.Frag} {mg : Str → Option Value} {base : Heap}
end
section
variable {X : Cx} {en : Kn} {δ : List Slot} {R : Type} {m : Res R} {N : List Slot → Res R → Prop} {RT : Slot → List Slot → Res R → Prop} {BK CT : List Slot → Res R → Prop} {pos : Pos}
end
end BR

/-! K80: an own list of own lists, changed in place within a loop -/
namespace BR
open PySem PySem.Spec PyProof.Rows L2
/-- what stands fast, and some places with it -/
def wN (G H : Hp) (ps : List Addr) : Hp := fun c => if c ∈ ps then H c else G c
def frN (F0 H : Hp) (ps : List Addr) : Hp := fun c => if c ∈ ps then F0 c else H c
section
variable {F0 G H : Hp} {ps : List Addr}
end
def AllN (K : PySem.W.Frag) (G H : Hp) : List Addr → List (List D) → Prop
  | [], [] => True
  | a :: as, ds :: dss => (∃ xs, H a = some (.lst xs) ∧ Reps K G ds xs) ∧ AllN K G H as dss
  | _, _ => False
/-- at p: an own list of own lists -/
structure Nest (K : PySem.W.Frag) (en : Kn) (G H : Hp) (p : Addr) (as : List Addr) (hs : List (List D)) : Prop where
  top : H p = some (.lst (as.map V.ref))
  nd : (p :: as).Nodup
  own : ∀ a, a ∈ p :: as → G a = none ∧ en.F0 a = none ∧ a ∉ en.ps
  all : AllN K G H as hs
/-- the caller's first list, that may be changed, and nothing else known -/
structure JN (K : PySem.W.Frag) (en : Kn) (pj : Addr) (j : List D) (G H : Hp) : Prop where
  sub : Sub G H
  ext : Sub en.G0 G
  new : ∀ a o, G a = some o → en.G0 a = some o ∨ (en.F0 a = none ∧ a ∉ en.ps)
  frm : Sub en.F0 H
  stay : ∀ a, a ∈ en.ps → H a ≠ none
  nd : en.ps.Nodup
  ps0 : en.ps[0]? = some pj
  gj : G pj = none
  fj : en.F0 pj = none
  rj : MRep K G H (.lst j) pj
abbrev Kn.nest (en : Kn) (G H : Hp) (ps : List Addr) : Kn := { n := en.n, G0 := wN G H ps, F0 := frN en.F0 H en.ps, ps := en.ps, HX := fun o => o = none, h0 := rfl }
section
variable {K : PySem.W.Frag} {en : Kn} {G H : Hp} {pj p : Addr} {j : List D} {as : List Addr} {hs : List (List D)}
theorem AllN.len : ∀ {as : List Addr} {hs : List (List D)}, AllN K G H as hs → as.length = hs.length
  | [], [], _ => rfl
  | _ :: _, _ :: _, h => by rw [List.length_cons, List.length_cons, AllN.len h.2]
  | [], _ :: _, h => h.elim
  | _ :: _, [], h => h.elim
theorem AllN.mono {G' H' : Hp} (g : Sub G G') : ∀ {as : List Addr} {hs : List (List D)}, (∀ a o, a ∈ as → H a = some o → H' a = some o) → AllN K G H as hs → AllN K G' H' as hs
  | [], [], _, _ => trivial
  | a :: as, _ :: _, h, ⟨⟨xs, e, r⟩, q⟩ => ⟨⟨xs, h a _ List.mem_cons_self e, Reps.sub g _ _ r⟩, AllN.mono g (fun a o m => h a o (List.mem_cons_of_mem _ m)) q⟩
  | [], _ :: _, _, h => h.elim
  | _ :: _, [], _, h => h.elim
theorem AllN.snoc {a : Addr} {ds : List D} {xs : List V} (e : H a = some (.lst xs)) (r : Reps K G ds xs) : ∀ {as : List Addr} {hs : List (List D)}, AllN K G H as hs → AllN K G H (as ++ [a]) (hs ++ [ds])
  | [], [], _ => ⟨⟨xs, e, r⟩, trivial⟩
  | _ :: _, _ :: _, h => ⟨h.1, AllN.snoc e r h.2⟩
  | [], _ :: _, h => h.elim
  | _ :: _, [], h => h.elim
theorem AllN.set {a : Addr} {ds : List D} {xs : List V} (r : Reps K G ds xs) : ∀ {as : List Addr} {hs : List (List D)} {i : Nat}, as.Nodup → as[i]? = some a → AllN K G H as hs → AllN K G (upd H a (.lst xs)) as (hs.set i ds)
  | [], _, _, _, h, _ => by simp at h
  | b :: as, ds0 :: hs, 0, nd, h, q => by
    simp at h
    subst h
    refine ⟨⟨xs, upd_same, r⟩, AllN.mono (Sub.refl _) (fun c o m e => ?_) q.2⟩
    rw [upd_ne fun z => (List.nodup_cons.mp nd).1 (by rw [← z]; exact m)]
    exact e
  | b :: as, ds0 :: hs, i + 1, nd, h, q => by
    have h : as[i]? = some a := by simpa using h
    obtain ⟨⟨ys, e, r0⟩, q2⟩ := q
    refine ⟨⟨ys, ?_, r0⟩, AllN.set r (List.nodup_cons.mp nd).2 h q2⟩
    rw [upd_ne fun z => (List.nodup_cons.mp nd).1 (by rw [z]; exact List.mem_of_getElem? h)]
    exact e
  | _ :: _, [], _, _, _, q => q.elim
theorem JN.ps {en : Kn} (J : JN K en pj j G H) : pj ∈ en.ps := List.mem_of_getElem? J.ps0
end
def mapL (mE : D → Res (List D)) : List D → Option (List (List D))
  | [] => some []
  | d :: ds => match mE d with
    | .ok l => (mapL mE ds).map (l :: ·)
    | _ => none
section
variable {X : Cx} {en : Kn} {δ : List Slot}
end
end BR

/-! K81: held = [list(x) for x in xs]; for t in range(n): told of it, one more list appended, one of its lists changed -/
namespace BR
open PySem PySem.Spec PyProof.Rows L2
abbrev bs (n : Nat) (j : List D) : List Slot := .mp 0 (.lst j) :: List.replicate n .un
def RPr (K : PySem.W.Frag) (G : Hp) (δ : List Slot) (σ : L2.St) : Prop := ∀ (i : Nat) sl, δ[i + 1]? = some sl → sl = .un ∨ ∃ d v, sl = .fr d ∧ σ[i + 1]? = some (some v) ∧ Rep K G d v
theorem RPr.bs {K : PySem.W.Frag} {G : Hp} {n : Nat} {j : List D} {σ : L2.St} : RPr K G (bs n j) σ := fun i sl h => by
  have h : (List.replicate n Slot.un)[i]? = some sl := by simpa using h
  rw [List.getElem?_replicate] at h
  split at h
  · cases h; exact .inl rfl
  · cases h
theorem RPr.set {K : PySem.W.Frag} {G : Hp} {δ : List Slot} {σ : L2.St} (h : RPr K G δ σ) {k : Nat} {d : D} {v : V} (hv : σ[k]? = some (some v)) (r : Rep K G d v) : RPr K G (δ.set k (.fr d)) σ := fun i sl e => by
  by_cases hk : k = i + 1
  · subst hk
    by_cases hl : i + 1 < δ.length
    · rw [List.getElem?_set_self hl] at e; cases e
      exact .inr ⟨d, v, rfl, hv, r⟩
    · rw [List.getElem?_eq_none (by rw [List.length_set]; omega)] at e; cases e
  · rw [List.getElem?_set_ne hk] at e
    exact h i sl e
section
variable {K : PySem.W.Frag} {en : Kn} {G H : Hp} {pj p : Addr} {j : List D} {as : List Addr} {hs : List (List D)}
theorem JN.upd {q : Addr} {o : HO} (J : JN K en pj j G H) (h1 : G q = none) (h2 : en.F0 q = none) (h3 : q ∉ en.ps) : JN K en pj j G (upd H q o) where
  sub := fun a u e => by rw [upd_ne fun z => by rw [z, h1] at e; cases e]; exact J.sub _ _ e
  ext := J.ext
  new := J.new
  frm := fun a u e => by rw [upd_ne fun z => by rw [z, h2] at e; cases e]; exact J.frm _ _ e
  stay := fun a ha => by rw [upd_ne fun z => h3 (by rw [← z]; exact ha)]; exact J.stay a ha
  nd := J.nd
  ps0 := J.ps0
  gj := J.gj
  fj := J.fj
  rj := J.rj.keep (Sub.refl _) fun u e => by rw [upd_ne fun z => h3 (by rw [← z]; exact J.ps)]; exact e
theorem AllN.get {a : Addr} : ∀ {as : List Addr} {hs : List (List D)} {i : Nat}, AllN K G H as hs → as[i]? = some a → ∃ ds xs, hs[i]? = some ds ∧ H a = some (.lst xs) ∧ Reps K G ds xs
  | [], _, _, _, h => by simp at h
  | b :: as, ds :: hs, 0, q, h => by
    simp at h; subst h
    obtain ⟨⟨xs, e, r⟩, _⟩ := q
    exact ⟨ds, xs, rfl, e, r⟩
  | b :: as, ds :: hs, i + 1, q, h => by
    obtain ⟨d, xs, h1, h2, h3⟩ := AllN.get q.2 (show as[i]? = some a by simpa using h)
    exact ⟨d, xs, by simpa using h1, h2, h3⟩
  | _ :: _, [], _, q, _ => q.elim
theorem Nest.push {a : Addr} {cc : List D} {zs : List V} (N : Nest K en G H p as hs) (ha : a ∉ p :: as) (own : G a = none ∧ en.F0 a = none ∧ a ∉ en.ps) (e : H a = some (.lst zs)) (r : Reps K G cc zs) : Nest K en G (upd H p (.lst (as.map V.ref ++ [.ref a]))) p (as ++ [a]) (hs ++ [cc]) where
  top := by rw [upd_same, List.map_append]; rfl
  nd := by
    rw [← List.cons_append]
    refine List.nodup_append.mpr ⟨N.nd, List.nodup_cons.mpr ⟨by simp, List.nodup_nil⟩, fun b hb c hc => ?_⟩
    rw [List.mem_singleton.mp hc]
    exact fun z => ha (by rw [← z]; exact hb)
  own := fun b hb => by
    rw [← List.cons_append] at hb
    rcases List.mem_append.mp hb with hb | hb
    · exact N.own b hb
    · rw [List.mem_singleton.mp hb]; exact own
  all := by
    have hp : p ∉ as := (List.nodup_cons.mp N.nd).1
    have hap : a ≠ p := fun z => ha (by rw [z]; exact List.mem_cons_self)
    refine AllN.snoc (by rw [upd_ne hap]; exact e) r (AllN.mono (Sub.refl _) (fun c o m ec => ?_) N.all)
    rw [upd_ne fun z => hp (by rw [← z]; exact m)]
    exact ec
theorem Nest.put {a : Addr} {ds : List D} {xs : List V} {i : Nat} (N : Nest K en G H p as hs) (ha : as[i]? = some a) (r : Reps K G ds xs) : Nest K en G (upd H a (.lst xs)) p as (hs.set i ds) where
  top := by
    rw [upd_ne fun z => (List.nodup_cons.mp N.nd).1 (by rw [z]; exact List.mem_of_getElem? ha)]
    exact N.top
  nd := N.nd
  own := N.own
  all := AllN.set r (List.nodup_cons.mp N.nd).2 ha N.all
end
def chkA (hs : List (List D)) (r : List D × List D) : Option Unit := if (flDs r.1 && flDs r.2 && decide (hs.length < 9000)) = true then some () else none
def chkI (r : D × List D) (n : Nat) : Option Nat := match r.1 with
  | .int z => if flDs r.2 = true ∧ 0 ≤ z ∧ z.toNat < n then some z.toNat else none
  | _ => none
def chkT (r : D × List D) : Option Unit := if (flD r.1 && flDs r.2) = true then some () else none
def szN (j : List D) (ls : List (List D)) : Option Unit := if (flDs j && decide (ls.length < 9000)) = true then some () else none
def HD (hs : List (List D)) : D := .lst (hs.map D.lst)
def turnN {R : Type} (c1 : D → Res D) (c2 : D → D → Res Bool) (c3 : List D → Res (List D × List D)) (c4 : List D → D → Res (D × List D)) (c5 : List D → D → Res (D × List D)) (rF : List D → R) (t : D) (s : List D × List (List D)) : Res (LFlow (List D × List (List D)) R) :=
  (okR (c1 (HD s.2))).bind fun due => (okR (c2 (HD s.2) due)).bind fun b => if b = true then .ok (.rt (rF s.1)) else
    (okR (c3 s.1)).bind fun r3 => op (chkA s.2 r3) fun _ =>
    (okR (c4 r3.2 (HD (s.2 ++ [r3.1])))).bind fun r4 => op (chkI r4 (s.2.length + 1)) fun i =>
    (okR (c5 r4.2 t)).bind fun r5 => op (chkT r5) fun _ => .ok (.nx (r5.2, (s.2 ++ [r3.1]).set i [r5.1]))
abbrev dA (n ih iT : Nat) (j : List D) (h t : D) : List Slot := ((bs n j).set ih (.fr h)).set iT (.fr t)
section
variable {X : Cx} {en : Kn} {δ : List Slot} {R : Type} {m : Res R}
structure JLc (X : Cx) (en : Kn) (δ : List Slot) (elt tg iter : Expr) (ifs : List Expr) (scope : Scope) (own : List (Str × Nat)) {R : Type} (C : Slot → List Slot → Res R → Prop) (m : Res R) : Prop where
  run : m ≠ .bad → en.HX m.exc → ∀ (σ : L2.St) (G H : Hp) (T : VK), δ.length = en.n → Wd X.K en δ σ G H →
    (∀ sl δ' v G' H', C sl δ' m → δ'.length = en.n → Wd X.K en (δ' ++ [sl]) (σ ++ [some v]) G' H' → T v H') → tLc (WI X tg iter) (gB X scope tg) (tB X scope ifs) (eB X scope elt) (own.map (·.2)) σ H T
end
section
variable {X : Cx} {en : Kn} {R : Type}
end
section
variable {X : Cx} {en : Kn} {δ : List Slot} {R : Type} {m : Res R} {N : List Slot → Res R → Prop} {RT : Slot → List Slot → Res R → Prop} {BK CT : List Slot → Res R → Prop}
end
end BR

/-! K82: f(x, e): x an own list that e changes -/
namespace BR
open PySem PySem.Spec PyProof.Rows L2
section
variable {K : PySem.W.Frag} {en : Kn} {Δ : List Slot} {S S' : L2.St} {G H : Hp}
end
section
variable {X : Cx} {en : Kn} {δ τ : List Slot} {R : Type} {m : Res R} {C : List Slot → List Slot → Res R → Prop}
end
end BR

/-! K83: a call that is given a new list, to be changed -/
namespace BR
open PySem PySem.Spec PyProof.Rows L2
section
variable {K : PySem.W.Frag} {en en2 : Kn} {Δ Δ' : List Slot} {S S' : L2.St} {G H : Hp}
theorem Wd.remap (h0 : en2.G0 = en.G0) (hF : en2.F0 = en.F0) (hps : en2.ps = en.ps) (W : Wd K en Δ S G H) (g : Nat → Nat) (hlen : Δ'.length = S'.length)
    (hget : ∀ j sl, Δ'[j]? = some sl → (Δ[g j]? = some sl ∧ S'[j]? = S[g j]?) ∨ ∃ i p, sl = .bo i ∧ i < en2.n ∧ S'[i]? = some (some (.ref p)) ∧ S'[j]? = some (some (.ref p)))
    (hbo : ∀ j i, Δ'[j]? = some (.bo i) → Δ[g j]? = some (.bo i) → i < en.n → i < en2.n ∧ S'[i]? = S[i]?)
    (inj : ∀ j k, (∃ sl, Δ'[j]? = some sl ∧ sl.own = true) → (∃ sl, Δ'[k]? = some sl ∧ sl.own = true) → g j = g k → j = k) : Wd K en2 Δ' S' G H where
  len := hlen
  sub := W.sub
  ext := by rw [h0]; exact W.ext
  new := fun a o e => by rw [h0, hF, hps]; exact W.new a o e
  frm := by rw [hF]; exact W.frm
  stay := fun a h => W.stay a (by rw [← hps]; exact h)
  nd := by rw [hps]; exact W.nd
  slot := fun j sl o h1 h2 => by
    rcases hget j sl h1 with ⟨e1, e2⟩ | ⟨i, p, rfl, hi, e1, e2⟩
    · have q := W.slot (g j) sl o e1 (by rw [← e2]; exact h2)
      cases sl with
      | un => trivial
      | fr d => exact q
      | mu d => obtain ⟨p, e, n, f, f2, r⟩ := q; exact ⟨p, e, n, by rw [hF]; exact f, by rw [hps]; exact f2, r⟩
      | mp k d => obtain ⟨p, e, f2, n, f, r⟩ := q; exact ⟨p, e, by rw [hps]; exact f2, n, by rw [hF]; exact f, r⟩
      | bw d => obtain ⟨v, e, r⟩ := q; exact ⟨v, e, by rw [hF]; exact r⟩
      | bo i =>
        obtain ⟨q1, q2, q3⟩ := q
        obtain ⟨r1, r2⟩ := hbo j i h1 e1 q1
        exact ⟨r1, by rw [r2]; exact q2, q3⟩
    · rw [e2] at h2; cases h2
      exact ⟨hi, e1, p, rfl⟩
  apart := fun a b p ha hb => by
    have key : ∀ k, Own Δ' S' k p → Own Δ S (g k) p := fun k ⟨sl, h1, h2, h3⟩ => by
      rcases hget k sl h1 with ⟨e1, e2⟩ | ⟨i, p, rfl, hi, e1, e2⟩
      · exact ⟨sl, e1, h2, by rw [← e2]; exact h3⟩
      · cases h2
    have e := W.apart _ _ p (key a ha) (key b hb)
    obtain ⟨sa, a1, a2, _⟩ := ha
    obtain ⟨sb, b1, b2, _⟩ := hb
    exact inj a b ⟨sa, a1, a2⟩ ⟨sb, b1, b2⟩ e
end
section
variable {X : Cx} {en : Kn} {δ τ : List Slot} {R : Type} {C : Slot → List Slot → Res R → Prop} {m : Res R}
theorem call_coreF {ks : List Kd} {α : Type} {den : List D → Res α} {val : α → D} {outs : α → List D} {mu : Bool} {sls δ1 : List Slot} {vs : List V} {G1 H1 : Hp} {σ ts : L2.St} {T : VK}
    (ht : τ.length = ts.length) (hl1 : δ1.length = en.n) (hσ : σ.length = en.n) (W1 : Wd X.K en (δ1 ++ τ ++ sls) (σ ++ ts ++ vs.map some) G1 H1)
    (c1 : ∃ ds is k, ∃ pe : α → List Slot, CA δ1 ks sls = some (ds, is) ∧ sep ks sls is = true ∧ is.Nodup ∧ m = (den ds).bind k ∧ (∀ a, putAll δ1 is (outs a) = pe a) ∧ ∀ a, den ds = .ok a → C (.ret mu (val a)) (pe a) (k a))
    (hb : m ≠ .bad) (hx : en.HX m.exc)
    (q : ∀ sl δ' v G' H', C sl δ' m → δ'.length = en.n → Wd X.K en (δ' ++ τ ++ [sl]) (σ ++ ts ++ [some v]) G' H' → T v H') : SpD X.K X.mg ks den val outs mu vs H1 T (OutE X en) := by
  obtain ⟨ds, is, k, pe, hca, hsep, nd, em, hpe, hk⟩ := c1
  obtain ⟨hn, hq⟩ := W1.endSlots (hl1.trans hσ.symm) ht
  have pre : ∀ (j : Nat) sl, δ1[j]? = some sl → (δ1 ++ τ ++ sls)[j]? = some sl := fun j sl e => by
    rw [List.append_assoc, List.getElem?_append_left (List.getElem?_eq_some_iff.mp e).1]; exact e
  obtain ⟨ps, hlen, hown, hargs⟩ := ca_ok W1 pre hca hn hq
  have W2 := W1.cut (Δ := δ1 ++ τ) (S := σ ++ ts) (by rw [List.length_append, List.length_append]; omega) (by rw [List.length_append]; omega)
  have hown2 : ∀ (l i : Nat), is[l]? = some i → ∃ p, ps[l]? = some p ∧ Own (δ1 ++ τ) (σ ++ ts) i p := fun l i e => by
    obtain ⟨p, e1, ⟨sl, e2, e3, e4⟩, hi⟩ := hown l i e
    refine ⟨p, e1, sl, ?_, e3, ?_⟩
    · rw [List.getElem?_append_left (by rw [List.length_append]; omega)] at e2; exact e2
    · rw [List.getElem?_append_left (by rw [List.length_append]; omega)] at e4; exact e4
  have psOwn : ∀ p, p ∈ ps → ∃ i, i ∈ is ∧ i < δ1.length ∧ Own (δ1 ++ τ ++ sls) (σ ++ ts ++ vs.map some) i p := fun p hp => by
    obtain ⟨l, hl2⟩ := List.getElem?_of_mem hp
    have hll : l < is.length := by rw [hlen]; exact (List.getElem?_eq_some_iff.mp hl2).1
    obtain ⟨p', e, o, hi⟩ := hown l is[l] (List.getElem?_eq_getElem hll)
    rw [hl2] at e
    cases e
    exact ⟨_, List.getElem_mem hll, hi, o⟩
  have ownF : ∀ {i p}, Own (δ1 ++ τ ++ sls) (σ ++ ts ++ vs.map some) i p → en.F0 p = none ∧ G1 p = none := fun {i p} ⟨sl, e1, e2, e3⟩ => by
    have z := W1.slot i sl _ e1 e3
    cases sl with
    | mu d => obtain ⟨p2, e, n, f, _, r⟩ := z; cases e; exact ⟨f, n⟩
    | mp _ d => obtain ⟨p2, e, _, n, f, r⟩ := z; cases e; exact ⟨f, n⟩
    | un => cases e2
    | fr _ => cases e2
    | bw _ => cases e2
    | bo _ => cases e2
  have ndp : ps.Nodup := by
    refine List.pairwise_iff_getElem.mpr fun a b ha2 hb2 hab he => ?_
    have hbi : b < is.length := by rw [hlen]; exact hb2
    obtain ⟨p1, x1, o1, _⟩ := hown a is[a] (List.getElem?_eq_getElem (by omega))
    obtain ⟨p2, x2, o2, _⟩ := hown b is[b] (List.getElem?_eq_getElem hbi)
    rw [List.getElem?_eq_getElem ha2] at x1
    rw [List.getElem?_eq_getElem hb2] at x2
    cases x1
    cases x2
    rw [he] at o1
    have := W1.apart _ _ _ o1 o2
    have := (List.getElem_inj nd).mp this
    omega
  have hsubG : Sub G1 (hide H1 ps) := fun a o e => by
    by_cases hp : a ∈ ps
    · obtain ⟨i, _, _, ow⟩ := psOwn a hp
      rw [(ownF ow).2] at e; cases e
    · rw [hide_some hp]; exact W1.sub a o e
  have hsubF : Sub en.F0 (hide H1 ps) := fun a o e => by
    by_cases hp : a ∈ ps
    · obtain ⟨i, _, _, ow⟩ := psOwn a hp
      rw [(ownF ow).1] at e; cases e
    · rw [hide_some hp]; exact W1.frm a o e
  have ha := hargs (hide H1 ps) hsubG hsubF fun l sl p a b c d => by
    refine hide_some fun hp => ?_
    obtain ⟨i, him, hi, ow⟩ := psOwn p hp
    rcases d with d | ⟨j, d⟩
    · have e2 : (δ1 ++ τ ++ sls)[(δ1 ++ τ).length + l]? = some sl := by
        rw [List.getElem?_append_right (Nat.le_add_right _ _), Nat.add_sub_cancel_left]; exact b
      have e3 : (σ ++ ts ++ vs.map some)[(δ1 ++ τ).length + l]? = some (some (V.ref p)) := by
        have z : (δ1 ++ τ).length = (σ ++ ts).length := by rw [List.length_append, List.length_append]; omega
        rw [z, List.getElem?_append_right (Nat.le_add_right _ _), Nat.add_sub_cancel_left, List.getElem?_map, c]; rfl
      have := W1.apart i _ p ow ⟨sl, e2, d, e3⟩
      rw [List.length_append] at this
      omega
    · subst d
      have hj := sep_get hsep a b
      have z := hq l _ _ b c
      obtain ⟨_, z1, p', z2⟩ := z
      cases z2
      -- the name's own slot
      have hrd : ∃ d, (Slot.bo j).rd δ1 = some d := ca_bo hca a b
      obtain ⟨d, hd⟩ := hrd
      obtain ⟨p3, e3, ow3, _⟩ := bo_own W1 pre (hq l _ _ b c) hd
      cases e3
      have := W1.apart i j p ow ow3
      subst this
      exact hj him
  have hb' := hb
  rw [em] at hb'
  have hx' := hx
  rw [em] at hx'
  obtain ⟨hbd, hxd⟩ := bind_exc hb' hx'
  obtain ⟨l1, l2⟩ := args_len ha
  refine ⟨l2, G1, ps, ds, den ds, W1.sub, ndp, ha, rfl, hbd, fun a ea v G' H' po ou re => ?_, fun x ex cls d H' he hs => ?_⟩
  · have em' : m = k a := by rw [em, ea]; rfl
    have W3 := W2.called po hlen hown2 nd ou
    rw [putAll_app fun i hi => by
      obtain ⟨l, e⟩ := List.getElem?_of_mem hi
      exact (hown l i e).choose_spec.2.2, hpe a] at W3
    have hl3 : (pe a).length = en.n := by rw [← hpe a, putAll_len]; exact hl1
    refine q (.ret mu (val a)) (pe a) v G' H' (by rw [em']; exact hk a ea) hl3 ?_
    refine W3.more ?_ ?_
    · unfold RetOk at re
      cases mu with
      | true =>
        obtain ⟨p, e, n1, n2, r⟩ := re
        exact ⟨p, by rw [e], n2, (W2.fresh n1).2.1, (W2.fresh n1).2.2, r⟩
      | false => exact ⟨v, rfl, re⟩
    · intro p j e1 e2 ow
      unfold RetOk at re
      cases mu with
      | true =>
        obtain ⟨p', e, n1, n2, r⟩ := re
        cases e2
        cases e
        have : ∃ j', Own (δ1 ++ τ) (σ ++ ts) j' p := by
          obtain ⟨sl, f1, f2, f3⟩ := ow
          rw [← hpe a, ← putAll_app fun i hi => by
            obtain ⟨l, e⟩ := List.getElem?_of_mem hi
            exact (hown l i e).choose_spec.2.2] at f1
          rcases putAll_get (Δ := δ1 ++ τ) (ds := outs a) (j := j) nd (hlen.trans ou.get.1.symm) with ⟨n, e⟩ | ⟨l, d, g1, g2, g3⟩
          · rw [e] at f1
            exact ⟨j, sl, f1, f2, f3⟩
          · obtain ⟨_, _, sl0, e4, e5, e6⟩ := hown2 l j g1
            exact ⟨j, sl0, e4, e5, f3⟩
        obtain ⟨j', ow'⟩ := this
        obtain ⟨o, z⟩ := W2.ownThere ow'
        rw [n1] at z; cases z
      | false => cases e1
  · have em' : m = .raise x := by rw [em, ex]; rfl
    rw [em'] at hx
    exact ⟨x, hx, W1.exc he, hsubF.trans hs⟩
/-- a call whose f-th thing given is a new list, that may be changed -/
theorem je_callF {k : Nat} {x : Str} {p pos : Pos} {e : Expr} {es : List Expr} {ks : List Kd} {α : Type} {den : List D → Res α} {val : α → D} {outs : α → List D} {mu : Bool} (f : Nat)
    (F : Df X.prog X.w X.K X.mg X.base k x ks den val outs mu) (hr : RoomG k X.A) (hL : Lk X en)
    (h : JA X en δ τ (e :: es) (fun sls δ1 m1 => ∃ d0 ds is k, ∃ (pe : α → List Slot) (ol : α → Slot), sls[f]? = some (.mu d0) ∧ CA (δ1 ++ [.mu d0]) ks (sls.set f (.bo δ1.length)) = some (ds, is) ∧ sep ks (sls.set f (.bo δ1.length)) is = true ∧ is.Nodup ∧ m1 = (den ds).bind k ∧ (∀ a, putAll (δ1 ++ [.mu d0]) is (outs a) = pe a ++ [ol a]) ∧ (∀ a, (pe a).length = δ1.length ∧ noBo (pe a) = true) ∧ ∀ a, den ds = .ok a → C (.ret mu (val a)) (pe a) (k a)) m)
    (hg : Gl X x := by rfl) (hdb : (x == ("__debug__" : Str)) = false := by decide) (he : starEach (e :: es) X.env = (false, eval e X.env) :: starEach es X.env := by exact star_plain rfl) (hpl : (backTo pos (starEach es X.env)).any (·.1) = false := by rfl) :
    JE X en δ τ (.Call (.Name x p) (e :: es) [] pos) C m := .mk fun hb hx σ ts G H T hl hσ W q => by
  obtain ⟨fa, fd, psn, hf, hm, hk, hbd⟩ := F
  refine we_of (pe_callG hf hr hg hm hk hbd .nil hL.passes (pa_wa (es := e :: es)) hdb he hpl) ?_
  have ht : τ.length = ts.length := W.splitLen (hl.trans hσ.symm)
  refine h.run hb hx σ ts G H _ hl hσ W fun sls δ1 vs G1 H1 c1 hl1 W1 => ?_
  obtain ⟨d0, ds, is, kk, pe, ol, hs0, hca, hsep, hnd, em, hpe, hpl3, hC⟩ := c1
  have hpl2 := fun a => (hpl3 a).1
  obtain ⟨hn, hq⟩ := W1.endSlots (hl1.trans hσ.symm) ht
  have hfl : f < sls.length := (List.getElem?_eq_some_iff.mp hs0).1
  obtain ⟨vf, hvf⟩ : ∃ vf, vs[f]? = some vf := ⟨_, List.getElem?_eq_getElem (by omega)⟩
  obtain ⟨pf, ef, _⟩ := hq f _ vf hs0 hvf
  cases ef
  rw [List.append_nil]
  have n1 := hl1
  -- positions
  have eL : ∀ (j : Nat), (δ1 ++ τ ++ sls)[j]? = if j < δ1.length then δ1[j]? else if j < δ1.length + τ.length then τ[j - δ1.length]? else sls[j - (δ1.length + τ.length)]? := fun j => by
    rw [List.append_assoc, List.getElem?_append, List.getElem?_append]
    split
    · rfl
    · by_cases h2 : j < δ1.length + τ.length
      · rw [if_pos (by omega), if_pos h2]
      · rw [if_neg (by omega), if_neg h2]; congr 1; omega
  have eS : ∀ (j : Nat), (σ ++ ts ++ vs.map some)[j]? = if j < δ1.length then σ[j]? else if j < δ1.length + τ.length then ts[j - δ1.length]? else (vs.map some)[j - (δ1.length + τ.length)]? := fun j => by
    rw [List.append_assoc, List.getElem?_append, List.getElem?_append]
    by_cases h1 : j < δ1.length
    · rw [if_pos (by omega), if_pos h1]
    · rw [if_neg (by omega), if_neg h1]
      by_cases h2 : j < δ1.length + τ.length
      · rw [if_pos (by omega), if_pos h2]; congr 1; omega
      · rw [if_neg (by omega), if_neg h2]; congr 1; omega
  have eL2 : ∀ (A B : List Slot) (s : Slot) (j : Nat), A.length = δ1.length → ((A ++ [s]) ++ τ ++ B)[j]? = if j < δ1.length then A[j]? else if j = δ1.length then some s else if j < δ1.length + 1 + τ.length then τ[j - (δ1.length + 1)]? else B[j - (δ1.length + 1 + τ.length)]? := fun A B s j hA => by
    rw [List.append_assoc, List.append_assoc, List.getElem?_append]
    by_cases h1 : j < δ1.length
    · rw [if_pos (by omega), if_pos h1]
    · rw [if_neg (by omega), if_neg h1, List.getElem?_append]
      by_cases h2 : j = δ1.length
      · rw [if_pos (by simp; omega), if_pos h2, show j - A.length = 0 by omega]; rfl
      · rw [if_neg (by simp; omega), if_neg h2, List.getElem?_append]
        by_cases h3 : j < δ1.length + 1 + τ.length
        · rw [if_pos (by simp; omega), if_pos h3]; congr 1; simp; omega
        · rw [if_neg (by simp; omega), if_neg h3]; congr 1; simp; omega
  have eS2 : ∀ (B : L2.St) (o : Option V) (j : Nat), ((σ ++ [o]) ++ ts ++ B)[j]? = if j < δ1.length then σ[j]? else if j = δ1.length then some o else if j < δ1.length + 1 + τ.length then ts[j - (δ1.length + 1)]? else B[j - (δ1.length + 1 + τ.length)]? := fun B o j => by
    rw [List.append_assoc, List.append_assoc, List.getElem?_append]
    by_cases h1 : j < δ1.length
    · rw [if_pos (by omega), if_pos h1]
    · rw [if_neg (by omega), if_neg h1, List.getElem?_append]
      by_cases h2 : j = δ1.length
      · rw [if_pos (by simp; omega), if_pos h2, show j - σ.length = 0 by omega]; rfl
      · rw [if_neg (by simp; omega), if_neg h2, List.getElem?_append]
        by_cases h3 : j < δ1.length + 1 + τ.length
        · rw [if_pos (by simp; omega), if_pos h3]; congr 1; simp; omega
        · rw [if_neg (by simp; omega), if_neg h3]; congr 1; simp; omega
  let en2 : Kn := { en with n := en.n + 1 }
  have W2 : Wd X.K en2 ((δ1 ++ [.mu d0]) ++ τ ++ sls.set f (.bo δ1.length)) ((σ ++ [some (.ref pf)]) ++ ts ++ vs.map some) G1 H1 := by
    refine Wd.remap (en := en) (en2 := en2) rfl rfl rfl W1 (fun j => if j < δ1.length then j else if j = δ1.length then δ1.length + τ.length + f else j - 1) (by simp; omega) (fun j sl hj => ?_) (fun j i _ _ hi => ?_) (fun a b ha hb hab => ?_)
    · rw [eL2 _ _ _ _ rfl] at hj
      rw [eL, eS, eS2]
      by_cases h1 : j < δ1.length
      · simp only [h1, if_true] at hj ⊢
        exact .inl ⟨hj, trivial⟩
      · by_cases h2 : j = δ1.length
        · subst h2
          rw [if_neg h1, if_pos rfl] at hj
          cases hj
          simp only [Nat.lt_irrefl, if_false, if_true]
          rw [if_neg (by omega), if_neg (by omega), if_neg (by omega), if_neg (by omega), Nat.add_sub_cancel_left]
          exact .inl ⟨hs0, by rw [List.getElem?_map, hvf]; rfl⟩
        · by_cases h3 : j < δ1.length + 1 + τ.length
          · rw [if_neg h1, if_neg h2, if_pos h3] at hj
            simp only [h1, h2, h3, if_false, if_true]
            rw [if_neg (by omega), if_pos (by omega), if_neg (by omega), if_pos (by omega), show j - 1 - δ1.length = j - (δ1.length + 1) by omega]
            exact .inl ⟨hj, rfl⟩
          · rw [if_neg h1, if_neg h2, if_neg h3] at hj
            simp only [h1, h2, h3, if_false]
            rw [if_neg (by omega), if_neg (by omega), if_neg (by omega), if_neg (by omega), show j - 1 - (δ1.length + τ.length) = j - (δ1.length + 1 + τ.length) by omega]
            by_cases h4 : f = j - (δ1.length + 1 + τ.length)
            · rw [← h4, List.getElem?_set_self hfl] at hj
              cases hj
              refine .inr ⟨δ1.length, pf, rfl, by show δ1.length < en.n + 1; omega, ?_, ?_⟩
              · rw [eS2, if_neg (by omega), if_pos rfl]
              · rw [← h4, List.getElem?_map, hvf]; rfl
            · rw [List.getElem?_set_ne h4] at hj
              exact .inl ⟨hj, rfl⟩
    · refine ⟨by show i < en.n + 1; omega, ?_⟩
      rw [eS2, eS, if_pos (by omega), if_pos (by omega)]
    · obtain ⟨sa, a1, a2⟩ := ha
      obtain ⟨sb, b1, b2⟩ := hb
      have nf : ∀ (j : Nat) (sl : Slot), ((δ1 ++ [.mu d0]) ++ τ ++ sls.set f (.bo δ1.length))[j]? = some sl → sl.own = true → j ≠ δ1.length + 1 + τ.length + f := fun j sl h1 h2 z => by
        rw [eL2 _ _ _ _ rfl, if_neg (by omega), if_neg (by omega), if_neg (by omega), z, Nat.add_sub_cancel_left, List.getElem?_set_self hfl] at h1
        cases h1; cases h2
      have na := nf a sa a1 a2
      have nb := nf b sb b1 b2
      split at hab <;> split at hab <;> (try split at hab) <;> (try split at hab) <;> omega
  refine call_coreF (en := en2) (δ1 := δ1 ++ [.mu d0]) (σ := σ ++ [some (.ref pf)]) (C := fun s δ' m' => ∃ a, s = .ret mu (val a) ∧ δ' = pe a ++ [ol a] ∧ den ds = .ok a ∧ m' = kk a) (m := m) ht (by simp [en2, hl1]) (by simp [en2, hσ]) W2 ⟨ds, is, kk, fun a => pe a ++ [ol a], hca, hsep, hnd, em, hpe, fun a ea => ⟨a, rfl, rfl, ea, rfl⟩⟩ hb hx fun sl δ' v G' H' ⟨a, e1, e2, ea, em2⟩ hl' W' => ?_
  subst e1 e2
  have hCa := hC a ea
  rw [← em2] at hCa
  refine q _ (pe a) v G' H' hCa (by rw [hpl2 a]; exact hl1) ?_
  have eD : ∀ (B : List Slot) (j : Nat), (pe a ++ τ ++ B)[j]? = if j < δ1.length then (pe a)[j]? else if j < δ1.length + τ.length then τ[j - δ1.length]? else B[j - (δ1.length + τ.length)]? := fun B j => by
    have hp := hpl2 a
    rw [List.append_assoc, List.getElem?_append, List.getElem?_append]
    by_cases h1 : j < δ1.length
    · rw [if_pos (by omega), if_pos h1]
    · rw [if_neg (by omega), if_neg h1]
      by_cases h2 : j < δ1.length + τ.length
      · rw [if_pos (by omega), if_pos h2]; congr 1; omega
      · rw [if_neg (by omega), if_neg h2]; congr 1; omega
  have eT : ∀ (j : Nat), (σ ++ ts ++ [some v])[j]? = if j < δ1.length then σ[j]? else if j < δ1.length + τ.length then ts[j - δ1.length]? else [some v][j - (δ1.length + τ.length)]? := fun j => by
    rw [List.append_assoc, List.getElem?_append, List.getElem?_append]
    by_cases h1 : j < δ1.length
    · rw [if_pos (by omega), if_pos h1]
    · rw [if_neg (by omega), if_neg h1]
      by_cases h2 : j < δ1.length + τ.length
      · rw [if_pos (by omega), if_pos h2]; congr 1; omega
      · rw [if_neg (by omega), if_neg h2]; congr 1; omega
  refine Wd.remap (en := en2) (en2 := en) rfl rfl rfl W' (fun j => if j < δ1.length then j else j + 1) (by have := hpl2 a; simp; omega) (fun j s2 hj => ?_) (fun j i hj1 hj2 hi => ?_) (fun a' b' _ _ hab => by split at hab <;> split at hab <;> omega)
  · rw [eD] at hj
    rw [eL2 _ _ _ _ (hpl2 a), eS2, eT]
    by_cases h1 : j < δ1.length
    · simp only [h1, if_true] at hj ⊢
      exact .inl ⟨hj, trivial⟩
    · by_cases h2 : j < δ1.length + τ.length
      · rw [if_neg h1, if_pos h2] at hj
        simp only [h1, h2, if_false, if_true]
        rw [if_neg (by omega), if_neg (by omega), if_pos (by omega), if_neg (by omega), if_neg (by omega), if_pos (by omega), show j + 1 - (δ1.length + 1) = j - δ1.length by omega]
        exact .inl ⟨hj, rfl⟩
      · rw [if_neg h1, if_neg h2] at hj
        simp only [h1, h2, if_false]
        rw [if_neg (by omega), if_neg (by omega), if_neg (by omega), if_neg (by omega), if_neg (by omega), if_neg (by omega), show j + 1 - (δ1.length + 1 + τ.length) = j - (δ1.length + τ.length) by omega]
        exact .inl ⟨hj, rfl⟩
  · have hin : i < en.n := by
      rw [eD] at hj1
      by_cases h1 : j < δ1.length
      · rw [if_pos h1] at hj1
        exact (noBo_get (hpl3 a).2 hj1).elim
      · by_cases h2 : j < δ1.length + τ.length
        · rw [if_neg h1, if_pos h2] at hj1
          have s0 := W.slot (δ.length + (j - δ1.length)) (.bo i) _ (by rw [List.getElem?_append_right (by omega), Nat.add_sub_cancel_left]; exact hj1) (List.getElem?_eq_getElem (by have := W.len; simp at this ⊢; omega))
          exact s0.1
        · rw [if_neg h1, if_neg h2] at hj1
          exfalso
          match e : j - (δ1.length + τ.length), hj1 with
          | 0, hj1 => cases mu <;> cases hj1
          | n + 1, hj1 => simp at hj1
    refine ⟨hin, ?_⟩
    rw [eT, eS2, if_pos (by omega), if_pos (by omega)]
end
end BR

/-! K84: x = f(..) if c else g(..), tried -/
namespace BR
open PySem PySem.Spec PyProof.Rows L2
structure JBe (X : Cx) (en : Kn) (δ : List Slot) (e : Expr) (m : Res D) : Prop where
  run : m ≠ .bad → ∀ (WW : WX) (pn : List (Addr × Obj)) (xe : Value → Shared → Prop), L2N.Takes (X.tr pn xe) WW → ∀ (σ : L2.St) (G H : Hp) (T : VK), δ.length = en.n → Wd X.K en δ σ G H →
    (∀ d, m = .ok d → ∀ v G' H', Wd X.K en (δ ++ [.fr d]) (σ ++ [some v]) G' H' → T v H') →
    (∀ x, m = .raise x → ∀ cls d G' H', ExcOk X.mg en.F0 en.ps x cls d H' → Wd X.K en δ σ G' H' → WW cls d σ H') → WE (X.tr pn xe) e σ H T
section
variable {X : Cx} {en : Kn} {δ : List Slot}
end
end BR

/-! K85: isinstance of own classes, divmod, `for a, b in d.items()` -/
namespace BR
open PySem PySem.Spec PyProof.Rows L2
/-! ### isinstance(x, C), C a class of the program, x an instance -/
def isO (cs : List Str) (t : Str) : D → Option Bool
  | .obj c _ => if c ∈ cs then some (c == t) else none
  | _ => none
/-- instances of the classes cs against the class t -/
def KitO (K : PySem.W.Frag) (mg : Str → Option Value) (cs : List Str) (t : Str) : Prop := ∃ E, mg t = some (.ref E) ∧ ∀ c, c ∈ cs → ∀ C, PySem.W.nsIn K mainGlobals c = some (some (.ref C)) → PySem.W.kitOne K (.ref C) (.ref E) = some (c == t)
section
variable {X : Cx} {en : Kn} {δ τ : List Slot} {R : Type} {C : Slot → List Slot → Res R → Prop} {m : Res R}
theorem je_isO {cs : List Str} {t : Str} {e : Expr} {p p2 pos : Pos} (hm : X.mg "isinstance" = none) (hk : KitO X.K X.mg cs t)
    (h : JE X en δ τ e (fun s1 δ1 m1 => ∃ d k, s1.rd δ1 = some d ∧ m1 = op (isO cs t d) k ∧ ∀ b, C (.fr (.bl b)) δ1 (k b)) m) (hg : Gl X "isinstance" := by rfl) (hgT : Gl X t := by rfl) (hdb : (t == ("__debug__" : Str)) = false := by decide)
    (he : starEach [e, .Name t p2] X.env = (false, eval e X.env) :: starEach [.Name t p2] X.env := by rfl) (hpl : (backTo pos (starEach [.Name t p2] X.env)).any (·.1) = false := by rfl) :
    JE X en δ τ (.Call (.Name "isinstance" p) [e, .Name t p2] [] pos) C m := .mk fun hb hx σ ts G H T' hl hσ W k => by
  obtain ⟨E, mE, kE⟩ := hk
  refine we_of (pe_callB call_isi hg hm (by decide +kernel) (pa_cons pe_we (pa_cons (pe_glob (v := .ref E) hgT mE rfl hdb) pa_nil) he) (by decide) (by decide) he hpl) ?_
  have ht : τ.length = ts.length := W.splitLen (hl.trans hσ.symm)
  refine h.run hb hx σ ts G H _ hl hσ W fun s1 δ1 v1 G1 H1 c1 hl1 W1 => ?_
  obtain ⟨d, k', e1, em, c⟩ := c1
  have hb' := hb
  rw [em] at hb'
  obtain ⟨b, eb⟩ := op_some hb'
  have em' : m = k' b := by rw [em, eb]; rfl
  have cb := c b
  rw [← em'] at cb
  cases d <;> first | cases eb | skip
  rename_i cn fs
  have eb' : (if cn ∈ cs then some (cn == t) else none) = some b := eb
  by_cases hcs : cn ∈ cs
  · rw [if_pos hcs] at eb'
    cases eb'
    obtain ⟨⟨_, _, ez, r1, _⟩, Wn⟩ := Wd.ends (sls := [s1]) (vs := [v1]) W1 (hl1.trans hσ.symm) ht (ds := [.obj cn fs]) (by simp only [rds, e1])
    cases ez
    obtain ⟨a, Ca, dx, vs, rfl, F, ea, _⟩ := r1
    exact ⟨_, .ref E, _, _, _, rfl, .own E, .base (.ins ea F.cl F.ha F.hn F.htk F.hm), kE cn hcs Ca F.at_, k _ δ1 _ G1 H1 cb hl1 ((Wn (by omega)).out (Grow.refl W1.sub) (show Rep _ _ _ _ from rfl))⟩
  · rw [if_neg hcs] at eb'; cases eb'
end
theorem kito_c {K : PySem.W.Frag} {cs : List Str} {t c : Str} {E C0 : Addr} {b : Bool} (a0 : PySem.W.nsIn K mainGlobals c = some (some (.ref C0))) (h : PySem.W.kitOne K (.ref C0) (.ref E) = some b) (hb : (c == t) = b)
    (r : ∀ c, c ∈ cs → ∀ C, PySem.W.nsIn K mainGlobals c = some (some (.ref C)) → PySem.W.kitOne K (.ref C) (.ref E) = some (c == t)) : ∀ x, x ∈ c :: cs → ∀ C, PySem.W.nsIn K mainGlobals x = some (some (.ref C)) → PySem.W.kitOne K (.ref C) (.ref E) = some (x == t) := fun x hx C e => by
  rcases List.mem_cons.mp hx with rfl | hx
  · rw [a0] at e
    cases e
    rw [h, hb]
  · exact r x hx C e
theorem kito_n {K : PySem.W.Frag} {t : Str} {E : Addr} : ∀ x, x ∈ ([] : List Str) → ∀ C, PySem.W.nsIn K mainGlobals x = some (some (.ref C)) → PySem.W.kitOne K (.ref C) (.ref E) = some (x == t) := fun _ h => nomatch h
/-! ### divmod -/
def divmodD : List D → Option D
  | [.int a, .int b] => if 0 < b ∧ b.natAbs.log2 < 9000 then some (.tup [.int (a / b), .int (a % b)]) else none
  | _ => none
/-! ### things without dicts -/
mutual
def noD : D → Bool
  | .dic _ => false
  | .lst ds => noDs ds
  | .tup ds => noDs ds
  | .obj _ fs => noDf fs
  | _ => true
def noDs : List D → Bool
  | [] => true
  | d :: ds => noD d && noDs ds
def noDf : List (Str × Bool × D) → Bool
  | [] => true
  | (_, _, d) :: fs => noD d && noDf fs
end
/-- .. at its top, a dict or a list may stand -/
def noDT : D → Bool
  | .dic kvs => kvs.all fun p => noD p.2
  | d => noD d
def lkZ (z : Bool × D) : Bool := if z.1 = true then noD z.2 else noDT z.2
def cutH (G : Hp) (a : Addr) : Hp := fun b => if b = a then none else G b
def OnlyD (G : Hp) (a : Addr) : Prop := ∀ o, G a = some o → ∃ kv, o = .dK kv
theorem cut_sub {G : Hp} {a : Addr} : Sub (cutH G a) G := fun b o e => by
  unfold cutH at e
  split at e
  · cases e
  · exact e
theorem cut_at {G : Hp} {a b : Addr} {o : HO} (h : OnlyD G a) (e : G b = some o) (n : ∀ kv, o ≠ .dK kv) : cutH G a b = some o := by
  unfold cutH
  rw [if_neg fun z => by subst z; obtain ⟨kv, z⟩ := h o e; exact n kv z]
  exact e
theorem cut_self {G : Hp} {a : Addr} : cutH G a a = none := if_pos rfl
theorem cut_none {G : Hp} {a b : Addr} (h : G b = none) : cutH G a b = none := by
  unfold cutH
  split
  · rfl
  · exact h
section
variable {K : PySem.W.Frag} {G M F H : Hp} {a : Addr}
theorem sqt_cut {b : Addr} {vs : List V} (h : OnlyD G a) (q : SqT K G b vs) : SqT K (cutH G a) b vs := by
  rcases q with (q | ⟨o, q⟩) | q
  · exact .inl (.inl (cut_at h q fun _ z => nomatch z))
  · exact .inl (.inr ⟨o, cut_at h q fun _ z => nomatch z⟩)
  · exact .inr q
theorem sql_cut {b : Addr} {vs : List V} (h : OnlyD G a) (q : SqL K G b vs) : SqL K (cutH G a) b vs := by
  rcases q with (q | ⟨o, q⟩) | q
  · exact .inl (.inl (cut_at h q fun _ z => nomatch z))
  · exact .inl (.inr ⟨o, cut_at h q fun _ z => nomatch z⟩)
  · exact .inr q
theorem exat_cut {C b : Addr} {xf : List (Str × Option Int)} (h : OnlyD G a) (h' : OnlyD M a) (q : ExAt G M C b xf) : ExAt (cutH G a) (cutH M a) C b xf := by
  obtain ⟨oe, vs, h1, h2, h3⟩ := q
  refine ⟨oe, vs, cut_at h' h1 (fun _ z => nomatch z), h2, ?_⟩
  rcases h3 with h3 | ⟨dd, h4, h5, h6⟩
  · exact .inl h3
  · exact .inr ⟨dd, h4, h5, cut_at h h6 fun _ z => nomatch z⟩
mutual
theorem Rep.cut (h : OnlyD G a) : ∀ (d : D) (v : V), noD d = true → Rep K G d v → Rep K (cutH G a) d v
  | .non, _, _, r => r
  | .bl _, _, _, r => r
  | .int _, _, _, r => r
  | .str _, _, _, r => r
  | .scr ns, _, _, r => by obtain ⟨b, e, q⟩ := r; exact ⟨b, e, sql_cut h q⟩
  | .exc c xf, _, _, r => by obtain ⟨b, C, e, f, q⟩ := r; exact ⟨b, C, e, f, exat_cut h h q⟩
  | .obj c fs, _, n, r => by
    obtain ⟨b, C, dx, vs, e, f, q, q2, r⟩ := r
    exact ⟨b, C, dx, vs, e, f, cut_at h q (fun _ z => nomatch z), cut_at h q2 (fun _ z => nomatch z), RepFs.cut h fs vs n r⟩
  | .lst ds, _, n, r => by obtain ⟨b, vs, e, q, r⟩ := r; exact ⟨b, vs, e, cut_at h q (fun _ z => nomatch z), Reps.cut h ds vs n r⟩
  | .tup ds, _, n, r => by obtain ⟨b, vs, e, q, r⟩ := r; exact ⟨b, vs, e, sqt_cut h q, Reps.cut h ds vs n r⟩
  | .dic ds, _, n, r => (Bool.false_ne_true n).elim
theorem Reps.cut (h : OnlyD G a) : ∀ (ds : List D) (vs : List V), noDs ds = true → Reps K G ds vs → Reps K (cutH G a) ds vs
  | [], _, _, r => r
  | d :: ds, _, n, r => by
    obtain ⟨v, q, e, h1, h2⟩ := r
    have n' : noD d = true ∧ noDs ds = true := Bool.and_eq_true_iff.mp n
    exact ⟨v, q, e, Rep.cut h d v n'.1 h1, Reps.cut h ds q n'.2 h2⟩
theorem RepFs.cut (h : OnlyD G a) : ∀ (fs : List (Str × Bool × D)) (vs : List (Str × V)), noDf fs = true → RepFs K G fs vs → RepFs K (cutH G a) fs vs
  | [], _, _, r => r
  | (k, b, d) :: fs, _, n, r => by
    obtain ⟨v, q, e, h1, h2⟩ := r
    have n' : noD d = true ∧ noDf fs = true := Bool.and_eq_true_iff.mp n
    exact ⟨v, q, e, Rep.cut h d v n'.1 h1, RepFs.cut h fs q n'.2 h2⟩
end
theorem RepKs.cut (h : OnlyD G a) : ∀ (ds : List (Key × D)) (vs : List (Key × V)), (ds.all fun p => noD p.2) = true → RepKs K G ds vs → RepKs K (cutH G a) ds vs
  | [], _, _, r => r
  | (k, d) :: ds, _, n, r => by
    obtain ⟨v, q, e, h1, h2⟩ := r
    rw [List.all_cons] at n
    have n' := Bool.and_eq_true_iff.mp n
    exact ⟨v, q, e, Rep.cut h d v n'.1 h1, RepKs.cut h ds q n'.2 h2⟩
theorem MRep.cut (h : OnlyD G a) {p : Addr} : ∀ {d : D}, noDT d = true → MRep K G H d p → (∀ o, H p = some o → M p = some o) → MRep K (cutH G a) M d p
  | .lst ds, n, r, k => by obtain ⟨vs, e, q⟩ := r; exact ⟨vs, k _ e, Reps.cut h ds vs n q⟩
  | .dic ds, n, r, k => by obtain ⟨vs, e, q⟩ := r; exact ⟨vs, k _ e, RepKs.cut h ds vs n q⟩
  | .non, _, r, _ => r.elim
  | .bl _, _, r, _ => r.elim
  | .int _, _, r, _ => r.elim
  | .str _, _, r, _ => r.elim
  | .tup _, _, r, _ => r.elim
  | .scr _, _, r, _ => r.elim
  | .exc _ _, _, r, _ => r.elim
  | .obj _ _, _, r, _ => r.elim
end
/-! ### the dict is locked -/
structure KnK (en en' : Kn) : Prop where
  n : en'.n = en.n
  HX : ∀ x, ¬ en'.HX (some x)
theorem KnK.lk {X : Cx} {en en' : Kn} (h : KnK en en') (l : Lk X en) : Lk X en' := by
  obtain ⟨W, t, _⟩ := l
  exact ⟨W, t, fun x hx => absurd hx (h.HX x)⟩
def Kn.lock (en : Kn) (G : Hp) (a : Addr) (u : HO) : Kn := { n := en.n, G0 := cutH G a, F0 := upd en.F0 a u, ps := en.ps, HX := fun o => o = none, h0 := rfl }
theorem KnK.lock {en : Kn} {G : Hp} {a : Addr} {u : HO} {G1 : Hp} : KnK en ((en.lock G a u).at G1) := ⟨rfl, fun x z => nomatch z⟩
def Slot.lkd : Slot → Option (Bool × D)
  | .fr d => some (true, d)
  | .mu d => some (false, d)
  | .mp _ d => some (false, d)
  | _ => none
/-- the names that are known while it is walked -/
def PL : List Slot → List Slot → List (Bool × D) → Prop
  | [], [], _ => True
  | s :: r, t :: q, ns => (t = .un ∨ ∃ z, s.lkd = some z ∧ t = s ∧ z ∈ ns) ∧ PL r q ns
  | _, _, _ => False
theorem PL.len : ∀ {δ δ2 : List Slot} {ns : List (Bool × D)}, PL δ δ2 ns → δ2.length = δ.length
  | [], [], _, _ => rfl
  | _ :: _, _ :: _, _, h => by rw [List.length_cons, List.length_cons, PL.len h.2]
  | [], _ :: _, _, h => h.elim
  | _ :: _, [], _, h => h.elim
theorem PL.at : ∀ {δ δ2 : List Slot} {ns : List (Bool × D)} {i : Nat} {t : Slot}, PL δ δ2 ns → δ2[i]? = some t → t = .un ∨ ∃ z, δ[i]? = some t ∧ t.lkd = some z ∧ z ∈ ns
  | [], [], _, _, _, _, e => by simp at e
  | s :: r, t :: q, ns, 0, t', h, e => by
    have : t = t' := by simpa using e
    subst this
    rcases h.1 with z | ⟨d, z1, z2, z3⟩
    · exact .inl z
    · subst z2; exact .inr ⟨d, rfl, z1, z3⟩
  | s :: r, t :: q, ns, i + 1, t', h, e => by
    rcases PL.at (i := i) h.2 (by simpa using e) with z | ⟨d, z1, z2, z3⟩
    · exact .inl z
    · exact .inr ⟨d, by simpa using z1, z2, z3⟩
  | [], _ :: _, _, _, _, h, _ => h.elim
  | _ :: _, [], _, _, _, h, _ => h.elim
/-- un, what stands fast, own lists and dicts alone -/
def Slot.okU : Slot → Bool
  | .un => true
  | .fr _ => true
  | .mu _ => true
  | .mp _ _ => true
  | _ => false
section
variable {K : PySem.W.Frag} {en : Kn} {δ δ2 : List Slot} {σ : L2.St} {G H G' H' : Hp} {a : Addr} {kv : List (Key × V)} {u : HO}
theorem dict_at {i : Nat} {sl : Slot} {kvs : List (Key × D)} (W : Wd K en δ σ G H) (hi : δ[i]? = some sl) (hr : sl.rdp = some (.dic kvs)) :
    ∃ a kv, σ[i]? = some (some (.ref a)) ∧ H a = some (.dK kv) ∧ RepKs K G kvs kv ∧ OnlyD G a ∧ ∀ j p, j ≠ i → Own δ σ j p → p ≠ a := by
  obtain ⟨o, ho, hso⟩ := W.at hi
  have only : ∀ {a : Addr} {kv : List (Key × V)}, H a = some (.dK kv) → OnlyD G a := fun ha o e => by
    have := W.sub _ _ e; rw [ha] at this; cases this; exact ⟨_, rfl⟩
  have far : ∀ {a : Addr}, (∃ o, en.F0 a = some o ∨ G a = some o) → ∀ j p, Own δ σ j p → p ≠ a := fun {a} hs j p ow z => by
    subst z
    obtain ⟨s, h1, h2, h3⟩ := ow
    have q := W.slot j s _ h1 h3
    obtain ⟨o, hs⟩ := hs
    cases s <;> first | cases h2 | skip
    · obtain ⟨p2, e2, g, f, _⟩ := q
      cases e2
      rcases hs with z | z
      · rw [f] at z; cases z
      · rw [g] at z; cases z
    · obtain ⟨p2, e2, _, g, f, _⟩ := q
      cases e2
      rcases hs with z | z
      · rw [f] at z; cases z
      · rw [g] at z; cases z
  cases sl <;> first | cases hr | skip
  · obtain ⟨v, rfl, a, kv, rfl, ga, rk⟩ := hso
    exact ⟨a, kv, ho, W.sub _ _ ga, rk, only (W.sub _ _ ga), fun j p _ => far ⟨_, .inr ga⟩ j p⟩
  · obtain ⟨p, rfl, g, f, _, kv, hp, rk⟩ := hso
    exact ⟨p, kv, ho, hp, rk, only hp, fun j q hj ow z => hj (W.apart j i p (by subst z; exact ow) ⟨_, hi, rfl, ho⟩)⟩
  · obtain ⟨p, rfl, _, g, f, kv, hp, rk⟩ := hso
    exact ⟨p, kv, ho, hp, rk, only hp, fun j q hj ow z => hj (W.apart j i p (by subst z; exact ow) ⟨_, hi, rfl, ho⟩)⟩
  · obtain ⟨v, rfl, ⟨M, hM, a, kv, rfl, ma, rk⟩, _⟩ := hso
    have fg := hM _ _ ma
    have ha : H a = some (.dK kv) := fg.elim (W.frm _ _) (W.sub _ _)
    exact ⟨a, kv, ho, ha, rk, only ha, fun j p _ => far ⟨_, fg⟩ j p⟩
theorem Wd.locked {ns : List (Bool × D)} {i : Nat} (W : Wd K en δ σ G H) (hp : PL δ δ2 ns) (hs : ns.all lkZ = true) (hi : δ2[i]? = some .un) (only : OnlyD G a) (far : ∀ j p, j ≠ i → Own δ σ j p → p ≠ a) : Wd K (en.lock G a u) δ2 σ (cutH G a) (upd H a u) where
  len := hp.len.trans W.len
  sub := fun b o e => by
    have n : b ≠ a := fun z => by subst z; rw [cut_self] at e; cases e
    rw [upd_ne n]; exact W.sub _ _ (cut_sub _ _ e)
  ext := Sub.refl _
  new := fun b o e => .inl e
  frm := fun b o e => by
    have e : upd en.F0 a u b = some o := e
    by_cases n : b = a
    · subst n; rw [upd_same] at e ⊢; exact e
    · rw [upd_ne n] at e ⊢; exact W.frm _ _ e
  stay := fun b h => by
    by_cases n : b = a
    · subst n; rw [upd_same]; exact fun z => nomatch z
    · rw [upd_ne n]; exact W.stay b h
  nd := W.nd
  slot := fun j t o h1 h2 => by
    rcases hp.at h1 with rfl | ⟨z, h3, h4, h5⟩
    · trivial
    have q := W.slot j t o h3 h2
    have nz : lkZ z = true := List.all_eq_true.mp hs z h5
    have fj : ∀ p, t.own = true → o = some (.ref p) → p ≠ a := fun p ow eo => far j p (fun z => by subst z; rw [hi] at h1; cases h1; cases h4) ⟨t, h3, ow, by rw [← eo]; exact h2⟩
    cases t <;> first | cases h4 | skip
    · obtain ⟨v, e, r⟩ := q; exact ⟨v, e, Rep.cut only _ _ nz r⟩
    · obtain ⟨p, e, g, f, f2, r⟩ := q
      have pa := fj p rfl e
      exact ⟨p, e, cut_none g, by show upd en.F0 a u p = none; rw [upd_ne pa]; exact f, f2, r.cut only nz fun o e => by rw [upd_ne pa]; exact e⟩
    · obtain ⟨p, e, f2, g, f, r⟩ := q
      have pa := fj p rfl e
      exact ⟨p, e, f2, cut_none g, by show upd en.F0 a u p = none; rw [upd_ne pa]; exact f, r.cut only nz fun o e => by rw [upd_ne pa]; exact e⟩
  apart := fun j k p h1 h2 => by
    have go : ∀ {j : Nat}, Own δ2 σ j p → Own δ σ j p := fun {j} ⟨s, e1, e2, e3⟩ => by
      rcases hp.at e1 with rfl | ⟨z, h3, h4, h5⟩
      · cases e2
      · exact ⟨s, h3, e2, e3⟩
    exact W.apart j k p (go h1) (go h2)
/-- what stands fast, the dict among it again -/
def reG (G : Hp) (a : Addr) (G' : Hp) : Hp := fun b => if b = a then G a else G' b
theorem Wd.unlocked {δ' : List Slot} {σ' : L2.St} (W : Wd K en δ σ G H) (W' : Wd K (en.lock G a u) δ' σ' G' H') (only : OnlyD G a) (ha : H a = some (.dK kv)) (hu : ∀ o, u = .dK o → False) (h0 : ∀ o, en.F0 a = some o → o = .dK kv) (hok : δ'.all Slot.okU = true) : Wd K en δ' σ' (reG G a G') (upd H' a (.dK kv)) := by
  have hfa : H' a = some u := W'.frm a u (by show upd en.F0 a u a = some u; exact upd_same)
  have ga : G' a = none := by
    cases z : G' a with
    | none => rfl
    | some o =>
      rcases W'.new a o z with q | ⟨q, _⟩
      · have q : cutH G a a = some o := q
        rw [cut_self] at q; cases q
      · have q : upd en.F0 a u a = none := q
        rw [upd_same] at q; cases q
  have sg : Sub G' (reG G a G') := fun b o e => by
    unfold reG
    rw [if_neg fun z => by subst z; rw [ga] at e; cases e]
    exact e
  have s0 : Sub G (reG G a G') := fun b o e => by
    unfold reG
    by_cases n : b = a
    · rw [if_pos n]; subst n; exact e
    · rw [if_neg n]; exact W'.ext b o (by show cutH G a b = some o; unfold cutH; rw [if_neg n]; exact e)
  have np : ∀ {p : Addr}, upd en.F0 a u p = none → p ≠ a := fun {p} e z => by subst z; rw [upd_same] at e; cases e
  refine ⟨W'.len, fun b o e => ?_, W.ext.trans s0, fun b o e => ?_, fun b o e => ?_, fun b h => ?_, W'.nd, fun j t o h1 h2 => ?_, W'.apart⟩
  · unfold reG at e
    by_cases n : b = a
    · rw [if_pos n] at e; subst n
      rw [upd_same]
      have := W.sub _ _ e; rw [ha] at this; exact this
    · rw [if_neg n] at e; rw [upd_ne n]; exact W'.sub _ _ e
  · unfold reG at e
    by_cases n : b = a
    · rw [if_pos n] at e; subst n; exact W.new _ _ e
    · rw [if_neg n] at e
      rcases W'.new b o e with q | ⟨q, q2⟩
      · exact W.new b o (cut_sub _ _ q)
      · have q : upd en.F0 a u b = none := q
        rw [upd_ne n] at q
        exact .inr ⟨q, q2⟩
  · by_cases n : b = a
    · subst n; rw [upd_same, h0 _ e]
    · rw [upd_ne n]; exact W'.frm b o (by show upd en.F0 a u b = some o; rw [upd_ne n]; exact e)
  · by_cases n : b = a
    · subst n; rw [upd_same]; exact fun z => nomatch z
    · rw [upd_ne n]; exact W'.stay b h
  · have q := W'.slot j t o h1 h2
    have ok : t.okU = true := List.all_eq_true.mp hok t (List.mem_of_getElem? h1)
    cases t <;> first | cases ok | skip
    · trivial
    · obtain ⟨v, e, r⟩ := q; exact ⟨v, e, Rep.sub sg _ _ r⟩
    · obtain ⟨p, e, g, f, f2, r⟩ := q
      have f : upd en.F0 a u p = none := f
      have pa := np f
      rw [upd_ne pa] at f
      exact ⟨p, e, by unfold reG; rw [if_neg pa]; exact g, f, f2, r.keep sg fun o e => by rw [upd_ne pa]; exact e⟩
    · obtain ⟨p, e, f2, g, f, r⟩ := q
      have f : upd en.F0 a u p = none := f
      have pa := np f
      rw [upd_ne pa] at f
      exact ⟨p, e, f2, by unfold reG; rw [if_neg pa]; exact g, f, r.keep sg fun o e => by rw [upd_ne pa]; exact e⟩
end
/-- the pairs of a dict; ns: what else is known meanwhile -/
def itmL (d : D) (ns : List (Bool × D)) : Option (List D) := match d with
  | .dic kvs => if (kvs.all fun p => noD p.2) = true ∧ ns.all lkZ = true then some (kvs.map fun p => .tup [kD p.1, p.2]) else none
  | _ => none
theorem itmL_some {d : D} {ns : List (Bool × D)} {ds : List D} (h : itmL d ns = some ds) : ∃ kvs, d = .dic kvs ∧ (kvs.all fun p => noD p.2) = true ∧ ns.all lkZ = true ∧ ds = kvs.map fun p => .tup [kD p.1, p.2] := by
  cases d <;> first | cases h | skip
  rename_i kvs
  have h' : (if (kvs.all fun p => noD p.2) = true ∧ ns.all lkZ = true then some (kvs.map fun p => D.tup [kD p.1, p.2]) else none) = some ds := h
  by_cases hz : (kvs.all fun p => noD p.2) = true ∧ ns.all lkZ = true
  · rw [if_pos hz] at h'
    cases h'
    exact ⟨kvs, rfl, hz.1, hz.2, rfl⟩
  · rw [if_neg hz] at h'; cases h'
theorem iti_L {K : PySem.W.Frag} {a : Addr} {od : Obj} {Gb Fb : Hp} {kvs : List (Key × D)} {kv : List (Key × V)} (r : RepKs K Gb kvs kv) (h1 : Fb a = some (.frz od (.dK kv))) : ItD K (Iti a od kv) Gb Fb (kvs.map fun p => .tup [kD p.1, p.2]) := fun G H sg sf gh i => by
  have ha := sf a _ h1
  refine ⟨fun d e => ?_, fun hi => ⟨ha, by rw [List.length_map] at hi; rw [repks_len r]; exact hi⟩⟩
  rw [List.getElem?_map] at e
  obtain ⟨⟨k, x⟩, h3, rfl⟩ := Option.map_eq_some_iff.mp e
  obtain ⟨v, h4, h5⟩ := repks_at r h3
  refine ⟨⟨ha, (List.getElem?_eq_some_iff.mp h4).1⟩, fun z H' hz => ?_⟩
  obtain ⟨T, k', v', e1, rfl, hT, rfl⟩ := hz
  rw [h4] at e1; cases e1
  exact grow_tup gh hT ⟨_, _, rfl, kD_rep, _, _, rfl, Rep.sub sg _ _ h5, rfl⟩
section
variable {X : Cx} {en : Kn} {δ : List Slot} {R : Type} {m : Res R}
variable {N : List Slot → Res R → Prop} {RT : Slot → List Slot → Res R → Prop} {BK CT : List Slot → Res R → Prop} {pos : Pos}
/-- for a, b in x.items(): nothing leads out of it -/
theorem js_forIt {S : Type} {x : Str} {xp apos cpos tpos : Pos} {elts : List Expr} {kk : Nat} {body : List Stmt} (i : Nat) (δ2 : List Slot) {sl : Slot} {dd : D} {ns : List (Bool × D)} {a0 : S} {f : D → S → Res S} {k : S → Res R} (pe : S → List Slot)
    (hp : PassesOwn (model X.prog X.w) X.A X.env X.xe) (hc : X.calm = true) (hi : δ[i]? = some sl) (hr : sl.rdp = some dd) (hpl : PL δ δ2 ns) (hiu : δ2[i]? = some .un) (em : m = op (itmL dd ns) fun ds => (okR (forS ds a0 f)).bind k) (le0 : Le δ2 (pe a0)) (hpu : ∀ a, (pe a).all Slot.okU = true)
    (turn : ∀ en', KnK en en' → ∀ d a, ∃ is, JG X en' (pe a) [] (.Tuple elts kk tpos) d is (fun δ2 m2 => JSs X en' δ2 body (fun δ' m' => ∃ a', m' = .ok a' ∧ Le δ' (pe a')) (fun _ _ _ => False) (fun _ _ => False) (fun δ' m' => ∃ a', m' = .ok a' ∧ Le δ' (pe a')) m2) (f d a))
    (hN : ∀ a, N (pe a) (k a)) (hx : X.N[i]? = some x := by rfl) (hv : Vis X.env.scope x := by first | exact Or.inl rfl | exact Or.inr (Or.inl rfl) | exact Or.inr (Or.inr rfl)) (hd : (x == ("__debug__" : Str)) = false := by decide) (hcd : (x == ("__classdict__" : Str)) = false := by decide)
    (hbase : attributeBase (.Name x xp) "items" X.env (eval (.Name x xp) X.env) = eval (.Name x xp) X.env := by rfl) (hline : (apos.endLine == cpos.line) = true := by rfl) (hs : ∀ y, foldedSetIterable (.Call (.Attribute (.Name x xp) "items" apos) [] [] cpos) X.env y = pure y := by intro _; rfl) :
    JS X en δ (.For (.Tuple elts kk tpos) (.Call (.Attribute (.Name x xp) "items" apos) [] [] cpos) body [] pos) N RT BK CT m := .mk fun hb hx' σ G H E hl W k1 k2 k3 k4 => by
  have hb' := hb
  rw [em] at hb'
  obtain ⟨ds, ed⟩ := op_some hb'
  have em' : m = (okR (forS ds a0 f)).bind k := by rw [em, ed]; rfl
  obtain ⟨kvs, rfl, hz1, hz2, eds⟩ := itmL_some ed
  obtain ⟨a, kv, ho, ha, rk, only, far⟩ := dict_at W hi hr
  have h0 : ∀ o, en.F0 a = some o → o = .dK kv := fun o e => by have := W.frm _ _ e; rw [ha] at this; cases this; rfl
  refine ws_of (ps_lock (ps_for hp hc (pi_items (pe_var hx hv hd hcd) hbase hline) pg_wg pss_wss hs)) ⟨a, .dK kv, ha, trivial, fun od => ?_⟩
  have hna : upd H a (.frz od (.dK kv)) a = some (.frz od (.dK kv)) := upd_same
  refine ⟨.ref a, ho, a, od, kv, rfl, hna, ?_⟩
  have W1 : Wd X.K (en.lock G a (.frz od (.dK kv))) δ2 σ (cutH G a) (upd H a (.frz od (.dK kv))) := W.locked hpl hz2 hiu only far
  have it : ItD X.K (Iti a od kv) (cutH G a) (upd en.F0 a (.frz od (.dK kv))) ds := by
    rw [eds]; exact iti_L (RepKs.cut only _ _ hz1 rk) upd_same
  have turn := turn ((en.lock G a (.frz od (.dK kv))).at (cutH G a)) KnK.lock
  have fin : ∀ {a1 : S} {σ2 : L2.St} {G2 H2 : Hp}, (pe a1).length = en.n → Wd X.K ((en.lock G a (.frz od (.dK kv))).at (cutH G a)) (pe a1) σ2 G2 H2 → m = k a1 → H2 a = some (.frz od (.dK kv)) ∧ E.nx σ2 (upd H2 a (.dK kv)) := fun {a1 σ2 G2 H2} hl2 W2 e2 => by
    refine ⟨W2.frm a _ (by show upd en.F0 a _ a = some _; exact upd_same), ?_⟩
    have q := hN a1
    rw [← e2] at q
    exact k1 _ σ2 _ _ q hl2 (W.unlocked W2 only ha (fun _ z => nomatch z) h0 (hpu a1))
  refine ⟨fun j n σ H => n = ds.length - j ∧ j ≤ ds.length ∧ ∃ a1 G2, (pe a1).length = en.n ∧ Wd X.K ((en.lock G a (.frz od (.dK kv))).at (cutH G a)) (pe a1) σ G2 H ∧ m = (okR (forS (ds.drop j) a1 f)).bind k, ⟨ds.length, by simp, Nat.zero_le _, a0, cutH G a, le0.len.symm.trans (hpl.len.trans hl), (W1.le le0).from, em'⟩, ?_⟩
  rintro j n σ2 H2 ⟨rfl, hj, a1, G2, hla, W2, em2⟩
  obtain ⟨go, stop⟩ := it G2 H2 W2.ext W2.frm W2.sub j
  by_cases hlt : j < ds.length
  · obtain ⟨g1, g2⟩ := go ds[j] (List.getElem?_eq_getElem hlt)
    refine .inr ⟨g1, fun σ' H' => ∃ a' G', (pe a').length = en.n ∧ Wd X.K ((en.lock G a (.frz od (.dK kv))).at (cutH G a)) (pe a') σ' G' H' ∧ m = (okR (forS (ds.drop (j + 1)) a' f)).bind k, fun σ' H' hn => ⟨ds.length - (j + 1), by omega, rfl, hlt, hn⟩, fun x H' hy => ?_⟩
    obtain ⟨G3, gr, rx⟩ := g2 x H' hy
    have ed : ds.drop j = ds[j] :: ds.drop (j + 1) := by rw [List.drop_eq_getElem_cons hlt]
    rw [ed] at em2
    have em3 : m = (okR ((f ds[j] a1).bind fun s' => forS (ds.drop (j + 1)) s' f)).bind k := em2
    obtain ⟨a2, ea2⟩ : ∃ a2, f ds[j] a1 = .ok a2 := by
      cases z : f ds[j] a1 with
      | ok y => exact ⟨y, rfl⟩
      | raise _ => rw [z] at em3; exact (hb em3).elim
      | bad => rw [z] at em3; exact (hb em3).elim
    have hfb : f ds[j] a1 ≠ .bad := by rw [ea2]; exact fun z => nomatch z
    have hfx : ((en.lock G a (.frz od (.dK kv))).at (cutH G a)).HX (f ds[j] a1).exc := by rw [ea2]; exact rfl
    obtain ⟨is, tr⟩ := turn ds[j] a1
    refine tr.run hfb hfx σ2 [] G3 H' x _ hla (W2.sl hla) (by rw [List.append_nil, List.append_nil]; exact W2.grow gr) rx fun δ3 σ3 G4 H3 c3 hl3 _ W3 sb3 _ => ?_
    rw [List.append_nil, List.append_nil] at W3
    refine c3.run hfb hfx σ3 G4 H3 _ hl3 W3 (fun δ' σ' G' H' ⟨a', e1, le⟩ hl' W' => ?_) (fun s δ' v σ' G' H' z hl' W' => z.elim) (fun δ' σ' G' H' z hl' W' => z.elim) (fun δ' σ' G' H' ⟨a', e1, le⟩ hl' W' => ?_)
    · rw [e1] at em3
      exact ⟨a', G', le.len.symm.trans hl', W'.le le, em3⟩
    · rw [e1] at em3
      exact ⟨a', G', le.len.symm.trans hl', W'.le le, em3⟩
  · have e : j = ds.length := by omega
    subst e
    refine .inl ⟨stop (Nat.le_refl _), ?_⟩
    rw [List.drop_length] at em2
    exact fin hla W2 em2
end
end BR

/-! the defs of the law, each run once -/
namespace BR
open PySem PySem.Spec PyProof.Rows L2
def topS (i : Nat) : Stmt := PySem.Challenge.pw_boastrow_k75_whole_over_and_over.main.body.getD i (.Pass ⟨0, 0, 0, 0⟩)
/-- what the top of the text has written -/
structure Txt (K : PySem.W.Frag) (mg : Str → Option Value) : Prop where
  n_abs : mg "abs" = none
  n_bool : mg "bool" = none
  n_int : mg "int" = none
  n_isinstance : mg "isinstance" = none
  n_len : mg "len" = none
  n_list : mg "list" = none
  n_max : mg "max" = none
  n_min : mg "min" = none
  n_range : mg "range" = none
  n_str : mg "str" = none
  n_sum : mg "sum" = none
  n_tuple : mg "tuple" = none
  g_FEW : ∃ t, mg "FEW" = some (.int 0 t)
  g_MOST_PEOPLE : ∃ t, mg "MOST_PEOPLE" = some (.int 999999999999999999999999999999 t)
  g_TRUE : ∃ t, mg "TRUE" = some (.int 1 t)
  g_AGAIN : ∃ t, mg "AGAIN" = some (.str "again" t)
  a_s8_many : NoF K ["Spot", "Over"] "s8_many"
  a_s8_number : NoF K ["Spot"] "s8_number"
  a_s8_once : NoF K ["Over"] "s8_once"
  a_s8_parts : NoF K ["Over"] "s8_parts"
  a_s8_said : NoF K ["Spot"] "s8_said"
  a_s8_times : NoF K ["Over"] "s8_times"
  ko_Spot : KitO K mg ["Over", "Spot"] "Spot"
  f_t_is_number : ∃ fa fd, L2.Fun K "is_number" "is_number" (topS 5) fa fd ∧ Binds K fd ["thing"] [] ∧ mg "is_number" = some (.ref fa)
  f_t_need_number : ∃ fa fd, L2.Fun K "need_number" "need_number" (topS 7) fa fd ∧ Binds K fd ["thing"] [] ∧ mg "need_number" = some (.ref fa)
  f_t_is_saying : ∃ fa fd, L2.Fun K "is_saying" "is_saying" (topS 6) fa fd ∧ Binds K fd ["thing"] [] ∧ mg "is_saying" = some (.ref fa)
  f_t_people_said : ∃ fa fd, L2.Fun K "people_said" "people_said" (topS 14) fa fd ∧ Binds K fd ["item"] [] ∧ mg "people_said" = some (.ref fa)
  f_t_people_of : ∃ fa fd, L2.Fun K "people_of" "people_of" (topS 15) fa fd ∧ Binds K fd ["thing"] [] ∧ mg "people_of" = some (.ref fa)
  f_t_is_long : ∃ fa fd, L2.Fun K "is_long" "is_long" (topS 16) fa fd ∧ Binds K fd ["thing"] [] ∧ mg "is_long" = some (.ref fa)
  f_t_need_long : ∃ fa fd, L2.Fun K "need_long" "need_long" (topS 17) fa fd ∧ Binds K fd ["thing"] [] ∧ mg "need_long" = some (.ref fa)
  c_Spot : ∃ C fa fd, L2.Fun K "__init__" "Spot.__init__" (inClass (topS 11) 0) fa fd ∧ Binds K fd ["self", "saying", "number"] [] ∧ mg "Spot" = some (.ref C) ∧ ObF K "Spot" C ∧ L2.Mk K C fa
  f_t_laid_many : ∃ fa fd, L2.Fun K "laid_many" "laid_many" (topS 13) fa fd ∧ Binds K fd ["parts"] [] ∧ mg "laid_many" = some (.ref fa)
  c_Over : ∃ C fa fd, L2.Fun K "__init__" "Over.__init__" (inClass (topS 12) 0) fa fd ∧ Binds K fd ["self", "times", "parts"] [] ∧ mg "Over" = some (.ref C) ∧ ObF K "Over" C ∧ L2.Mk K C fa
  f_t_planted : ∃ fa fd, L2.Fun K "planted" "planted" (topS 18) fa fd ∧ Binds K fd ["long", "first"] [] ∧ mg "planted" = some (.ref fa)
  f_t_parts_of : ∃ fa fd, L2.Fun K "parts_of" "parts_of" (topS 19) fa fd ∧ Binds K fd ["long"] [] ∧ mg "parts_of" = some (.ref fa)
  f_t_lesser_slack : ∃ fa fd, L2.Fun K "lesser_slack" "lesser_slack" (topS 23) fa fd ∧ Binds K fd ["one", "other"] [] ∧ mg "lesser_slack" = some (.ref fa)
  f_t_word_of : ∃ fa fd, L2.Fun K "word_of" "word_of" (topS 24) fa fd ∧ Binds K fd ["saying", "number"] [] ∧ mg "word_of" = some (.ref fa)
  f_t_add_counts : ∃ fa fd, L2.Fun K "add_counts" "add_counts" (topS 25) fa fd ∧ Binds K fd ["counts", "more", "times"] [] ∧ mg "add_counts" = some (.ref fa)
  f_t_through_over : ∃ fa fd, L2.Fun K "through_over" "through_over" (topS 27) fa fd ∧ Binds K fd ["part", "number"] [] ∧ mg "through_over" = some (.ref fa)
  f_t_through : ∃ fa fd, L2.Fun K "through" "through" (topS 26) fa fd ∧ Binds K fd ["parts", "number"] [] ∧ mg "through" = some (.ref fa)
  f_t_times_until : ∃ fa fd, L2.Fun K "times_until" "times_until" (topS 30) fa fd ∧ Binds K fd ["long", "company", "total"] [] ∧ mg "times_until" = some (.ref fa)
  f_t_rest_of : ∃ fa fd, L2.Fun K "rest_of" "rest_of" (topS 31) fa fd ∧ Binds K fd ["long", "company"] [] ∧ mg "rest_of" = some (.ref fa)
  f_l_urn : ∃ fa fd, L2.Fun K "_law_urn" "_law_urn" (topS 33) fa fd ∧ Binds K fd ["_law_script", "_law_k"] [] ∧ mg "_law_urn" = some (.ref fa)
  f_l_ball : ∃ fa fd, L2.Fun K "_law_ball" "_law_ball" (topS 34) fa fd ∧ Binds K fd ["_law_urn_here", "_law_many"] [] ∧ mg "_law_ball" = some (.ref fa)
  f_l_saying : ∃ fa fd, L2.Fun K "_law_saying" "_law_saying" (topS 35) fa fd ∧ Binds K fd ["_law_urn_here", "_law_wide"] [] ∧ mg "_law_saying" = some (.ref fa)
  f_l_people : ∃ fa fd, L2.Fun K "_law_people" "_law_people" (topS 36) fa fd ∧ Binds K fd ["_law_long_here"] [] ∧ mg "_law_people" = some (.ref fa)
  f_l_long : ∃ fa fd, L2.Fun K "_law_long" "_law_long" (topS 37) fa fd ∧ Binds K fd ["_law_urn_here", "_law_plan", "_law_deep", "_law_room"] [] ∧ mg "_law_long" = some (.ref fa)
  f_l_sayings : ∃ fa fd, L2.Fun K "_law_sayings" "_law_sayings" (topS 38) fa fd ∧ Binds K fd ["_law_long_here"] [] ∧ mg "_law_sayings" = some (.ref fa)
  f_l_company : ∃ fa fd, L2.Fun K "_law_company" "_law_company" (topS 39) fa fd ∧ Binds K fd ["_law_urn_here", "_law_sayings_here"] [] ∧ mg "_law_company" = some (.ref fa)
  f_l_far : ∃ fa fd, L2.Fun K "_law_far" "_law_far" (topS 40) fa fd ∧ Binds K fd ["_law_urn_here", "_law_most", "_law_deep"] [] ∧ mg "_law_far" = some (.ref fa)
  f_t_total_of : ∃ fa fd, L2.Fun K "total_of" "total_of" (topS 28) fa fd ∧ Binds K fd ["parts", "number"] [] ∧ mg "total_of" = some (.ref fa)
  f_t_far_total : ∃ fa fd, L2.Fun K "far_total" "far_total" (topS 29) fa fd ∧ Binds K fd ["long", "company"] [] ∧ mg "far_total" = some (.ref fa)
  f_l_said : ∃ fa fd, L2.Fun K "_law_said" "_law_said" (topS 41) fa fd ∧ Binds K fd ["_law_long_here", "_law_times", "_law_company_here"] [] ∧ mg "_law_said" = some (.ref fa)
  f_l_goal_right : ∃ fa fd, L2.Fun K "_law_goal_right" "_law_goal_right" (topS 42) fa fd ∧ Binds K fd ["_law_long_here", "_law_company_here", "_law_goal", "_law_rest"] [] ∧ mg "_law_goal_right" = some (.ref fa)
  f_l_rest_right : ∃ fa fd, L2.Fun K "_law_rest_right" "_law_rest_right" (topS 43) fa fd ∧ Binds K fd ["_law_long_here", "_law_company_here", "_law_rest"] [] ∧ mg "_law_rest_right" = some (.ref fa)
  f_l_near_right : ∃ fa fd, L2.Fun K "_law_near_right" "_law_near_right" (topS 44) fa fd ∧ Binds K fd ["_law_long_here", "_law_company_here", "_law_rest"] [] ∧ mg "_law_near_right" = some (.ref fa)
  f_law : ∃ fa fd, L2.Fun K "law" "law" (topS 45) fa fd ∧ Binds K fd ["_law_script"] [] ∧ mg "law" = some (.ref fa)
set_option maxHeartbeats 0
section
variable {P : Program} {w : World} {K : PySem.W.Frag} {mg : Str → Option Value} {base : Heap}
def d_t_is_number : List D → Res (D)
  | [v_0] =>
      ((op (asB (D.bl (isInt v_0))) fun b2 => if b2 = true then (op (asB (D.bl (isBool v_0))) fun b3 =>
      op (asB (D.bl (!b3))) fun b4 => if b4 = true then (op (geD v_0 (D.int 0)) fun b5 =>
      .ok (D.bl b5)) else (.ok (D.bl false))) else (.ok (D.bl false)) : Res (D))).bind fun a1 =>
      .ok a1  | _ => .bad
abbrev n_t_is_number : List Str := ["thing"]
theorem sc_t_is_number : FnScope n_t_is_number ["thing"] (defScope (topS 5)) := ⟨rfl, rfl, rfl, by decide +kernel, rfl, by decide +kernel, by decide +kernel⟩
theorem ok_t_is_number (h : Txt K mg) : Df P w K mg base 1 "is_number" [.b] d_t_is_number (fun a => a) (fun a => []) false := by
  obtain ⟨fa, fd, F, B, M⟩ := h.f_t_is_number
  refine ⟨fa, fd, _, fn_D (k := 0) F sc_t_is_number rfl 0 (fun _ => rfl) rfl (fun X en cdv A outer s H E ds hX hr hn hL hp hl => ?_), M, F.kp, B⟩
  have hnd := (sc_t_is_number).nd
  subst hX
  obtain ⟨v_0, rfl⟩ := len1 hl
  unfold d_t_is_number
  exact (jss_one (js_ret (je_join (fun (a1 : D) => .fr a1) (fun a1 => [.bw v_0]) (je_and (je_isi kit_int h.n_isinstance h.n_int (je_bw 0 rfl (⟨_, rfl, ⟨_, _, rfl, rfl, fun b2 => ⟨_, _, rfl, je_and (je_not (je_isi kit_bool h.n_isinstance h.n_bool (je_bw 0 rfl (⟨_, rfl, ⟨_, _, rfl, rfl, fun b3 =>
      ⟨_, _, rfl, rfl, fun b4 => ⟨_, _, rfl, je_one (je_cmpB cmp_geD rfl (je_bw 0 rfl (je_int (⟨_, _, _, rfl, rfl, rfl, fun b5 =>
      ⟨_, rfl, rfl, rfl⟩⟩)))), ⟨_, rfl, rfl, rfl⟩⟩⟩⟩⟩)))), ⟨_, rfl, rfl, rfl⟩⟩⟩⟩)))) (fun a1 =>
      ⟨_, rfl, rfl, oa_n⟩))))

def d_t_need_number : List D → Res (D)
  | [v_0] =>
      (d_t_is_number [v_0]).bind fun a1 =>
      op (truD a1) fun b2 =>
      if (!b2) = true then (.bad) else (.ok D.non)  | _ => .bad
abbrev n_t_need_number : List Str := ["thing"]
theorem sc_t_need_number : FnScope n_t_need_number ["thing"] (defScope (topS 7)) := ⟨rfl, rfl, rfl, by decide +kernel, rfl, by decide +kernel, by decide +kernel⟩
theorem ok_t_need_number (h : Txt K mg) : Df P w K mg base 2 "need_number" [.b] d_t_need_number (fun a => a) (fun a => []) false := by
  obtain ⟨fa, fd, F, B, M⟩ := h.f_t_need_number
  refine ⟨fa, fd, _, fn_D (k := 1) F sc_t_need_number rfl 0 (fun _ => rfl) rfl (fun X en cdv A outer s H E ds hX hr hn hL hp hl => ?_), M, F.kp, B⟩
  have hnd := (sc_t_need_number).nd
  subst hX
  obtain ⟨v_0, rfl⟩ := len1 hl
  unfold d_t_need_number
  exact (jss_one (js_if (jt_not (jt_tru (je_call (ok_t_is_number h) (hr.mono (by decide)) hL (ja_cons (je_bw 0 rfl (ja_nil (⟨_, [], _, fun a1 => [.bw v_0], rfl, rfl, List.nodup_nil, rfl, fun _ => rfl, fun a1 _ =>
      ⟨_, _, rfl, rfl, fun b2 =>
      ⟨_, _, rfl, jss_one (js_bad), jss_nil (⟨rfl, _, rfl, rfl, oa_n⟩)⟩⟩⟩)))))))))

def d_t_is_saying : List D → Res (D)
  | [v_0] =>
      ((if (!(isTup v_0)) = true then (.ok true) else (op (lenD [v_0]) fun t2 =>
      op (neD t2 (D.int 2)) fun b3 =>
      if b3 = true then (.ok true) else (op (ixD v_0 (D.int 0)) fun t4 =>
      (d_t_is_number [t4]).bind fun a5 =>
      op (truD a5) fun b6 =>
      .ok (!b6))) : Res (Bool))).bind fun a1 =>
      if a1 = true then (.ok (D.bl false)) else (((op (ixD v_0 (D.int 1)) fun t8 =>
      op (isND t8 D.non) fun b9 =>
      op (asB (D.bl b9)) fun b10 => if b10 = true then (.ok (D.bl true)) else (((op (ixD v_0 (D.int 1)) fun t12 =>
      (d_t_is_number [t12]).bind fun a13 =>
      op (asB a13) fun b14 => if b14 = true then (op (ixD v_0 (D.int 1)) fun t15 =>
      op (ixD v_0 (D.int 0)) fun t16 =>
      op (geD t15 t16) fun b17 =>
      .ok (D.bl b17)) else (.ok (D.bl false)) : Res (D))).bind fun a11 =>
      .ok a11) : Res (D))).bind fun a7 =>
      .ok a7)  | _ => .bad
abbrev n_t_is_saying : List Str := ["thing"]
theorem sc_t_is_saying : FnScope n_t_is_saying ["thing"] (defScope (topS 6)) := ⟨rfl, rfl, rfl, by decide +kernel, rfl, by decide +kernel, by decide +kernel⟩
theorem ok_t_is_saying (h : Txt K mg) : Df P w K mg base 2 "is_saying" [.b] d_t_is_saying (fun a => a) (fun a => []) false := by
  obtain ⟨fa, fd, F, B, M⟩ := h.f_t_is_saying
  refine ⟨fa, fd, _, fn_D (k := 1) F sc_t_is_saying rfl 0 (fun _ => rfl) rfl (fun X en cdv A outer s H E ds hX hr hn hL hp hl => ?_), M, F.kp, B⟩
  have hnd := (sc_t_is_saying).nd
  subst hX
  obtain ⟨v_0, rfl⟩ := len1 hl
  unfold d_t_is_saying
  exact (jss_cons (js_if (jt_join (fun (a1 : Bool) => a1) (fun a1 => [.bw v_0]) (jt_w (jw_or (jt_not (jt_bl (je_isi kit_tup h.n_isinstance h.n_tuple (je_bw 0 rfl (⟨_, rfl, ⟨_, rfl, ⟨_, _, rfl, ⟨_, rfl, rfl, rfl⟩, jw_or (jt_cmp (cmp_neD hr.hu) rfl (je_callB c_len h.n_len (ja_cons (je_bw 0 rfl (ja_nil (⟨_, _, rfl, rfl, fun t2 _ =>
      je_int (⟨_, _, _, rfl, rfl, rfl, fun b3 =>
      ⟨_, _, rfl, ⟨_, rfl, rfl, rfl⟩, jw_or1 (jt_not (jt_tru (je_call (ok_t_is_number h) (hr.mono (by decide)) hL (ja_cons (je_ix ix_D (fun _ _ => rfl) (je_bw 0 rfl (je_int (⟨_, _, _, rfl, rfl, rfl, fun t4 _ =>
      ja_nil (⟨_, [], _, fun a5 => [.bw v_0], rfl, rfl, List.nodup_nil, rfl, fun _ => rfl, fun a5 _ =>
      ⟨_, _, rfl, rfl, fun b6 =>
      ⟨_, rfl, rfl, rfl⟩⟩⟩)⟩))))))))⟩⟩)⟩))))))⟩⟩⟩))))))) (fun a1 =>
      ⟨_, _, rfl, jss_one (js_ret (je_bl (⟨_, rfl, rfl, oa_n⟩))), jss_nil (jss_one (js_ret (je_join (fun (a7 : D) => .fr a7) (fun a7 => [.bw v_0]) (je_or (je_cmpB cmp_isN rfl (je_ix ix_D (fun _ _ => rfl) (je_bw 0 rfl (je_int (⟨_, _, _, rfl, rfl, rfl, fun t8 _ =>
      je_non (⟨_, _, _, rfl, rfl, rfl, fun b9 =>
      ⟨_, _, rfl, rfl, fun b10 => ⟨_, _, rfl, ⟨_, rfl, rfl, rfl⟩, je_one (je_join (fun (a11 : D) => .fr a11) (fun a11 => [.bw v_0]) (je_and (je_call (ok_t_is_number h) (hr.mono (by decide)) hL (ja_cons (je_ix ix_D (fun _ _ => rfl) (je_bw 0 rfl (je_int (⟨_, _, _, rfl, rfl, rfl, fun t12 _ =>
      ja_nil (⟨_, [], _, fun a13 => [.bw v_0], rfl, rfl, List.nodup_nil, rfl, fun _ => rfl, fun a13 _ =>
      ⟨_, _, rfl, rfl, fun b14 => ⟨_, _, rfl, je_one (je_cmpB cmp_geD rfl (je_ix ix_D (fun _ _ => rfl) (je_bw 0 rfl (je_int (⟨_, _, _, rfl, rfl, rfl, fun t15 _ =>
      je_ix ix_D (fun _ _ => rfl) (je_bw 0 rfl (je_int (⟨_, _, _, rfl, rfl, rfl, fun t16 _ =>
      ⟨_, _, _, rfl, rfl, rfl, fun b17 =>
      ⟨_, rfl, rfl, rfl⟩⟩⟩)))⟩))))), ⟨_, rfl, rfl, rfl⟩⟩⟩⟩)⟩))))))) (fun a11 =>
      ⟨_, rfl, rfl, rfl⟩))⟩⟩⟩)⟩)))))) (fun a7 =>
      ⟨_, rfl, rfl, oa_n⟩))))⟩))))

def d_t_people_said (d_rec_ : List D → Res (D)) : List D → Res (D)
  | [v_0] =>
      ((if (!(isTup v_0)) = true then (.ok true) else (op (lenD [v_0]) fun t2 =>
      op (neD t2 (D.int 3)) fun b3 =>
      if b3 = true then (.ok true) else (op (ixD v_0 (D.int 0)) fun t4 =>
      if (!(isStr t4)) = true then (.ok true) else (op (ixD v_0 (D.int 0)) fun t5 =>
      op (neD t5 (D.str "again")) fun b6 =>
      .ok b6))) : Res (Bool))).bind fun a1 =>
      if a1 = true then (.ok D.non) else (op (ixD v_0 (D.int 2)) fun t7 =>
      (d_rec_ [t7]).bind fun a8 =>
      ((((op (ixD v_0 (D.int 1)) fun t11 =>
      (d_t_is_number [t11]).bind fun a12 =>
      op (truD a12) fun b13 =>
      if b13 = true then (op (notND a8 D.non) fun b14 =>
      .ok b14) else (.ok false) : Res (Bool))).bind fun a10 =>
      if a10 = true then (op (ixD v_0 (D.int 1)) fun t15 =>
      op (mulD t15 a8) fun t16 =>
      .ok t16) else (.ok D.non) : Res (D))).bind fun a9 =>
      .ok a9)  | _ => .bad
abbrev n_t_people_said : List Str := ["item", "inner"]
theorem sc_t_people_said : FnScope n_t_people_said ["item"] (defScope (topS 14)) := ⟨rfl, rfl, rfl, by decide +kernel, rfl, by decide +kernel, by decide +kernel⟩
theorem ok_t_people_said (h : Txt K mg) (n_ : Nat) (d_rec_ : List D → Res (D)) (ih : Df P w K mg base (4 + 2 * n_) "people_of" [.b] d_rec_ (fun a => a) (fun a => []) false) : Df P w K mg base (4 + 2 * n_ + 1) "people_said" [.b] (d_t_people_said d_rec_) (fun a => a) (fun a => []) false := by
  obtain ⟨fa, fd, F, B, M⟩ := h.f_t_people_said
  refine ⟨fa, fd, _, fn_D (k := 4 + 2 * n_) F sc_t_people_said rfl 0 (fun _ => rfl) rfl (fun X en cdv A outer s H E ds hX hr hn hL hp hl => ?_), M, F.kp, B⟩
  have hnd := (sc_t_people_said).nd
  subst hX
  obtain ⟨v_0, rfl⟩ := len1 hl
  unfold d_t_people_said
  exact (jss_cons (js_if (jt_join (fun (a1 : Bool) => a1) (fun a1 => [.bw v_0, .un]) (jt_w (jw_or (jt_not (jt_bl (je_isi kit_tup h.n_isinstance h.n_tuple (je_bw 0 rfl (⟨_, rfl, ⟨_, rfl, ⟨_, _, rfl, ⟨_, rfl, rfl, rfl⟩, jw_or (jt_cmp (cmp_neD hr.hu) rfl (je_callB c_len h.n_len (ja_cons (je_bw 0 rfl (ja_nil (⟨_, _, rfl, rfl, fun t2 _ =>
      je_int (⟨_, _, _, rfl, rfl, rfl, fun b3 =>
      ⟨_, _, rfl, ⟨_, rfl, rfl, rfl⟩, jw_or (jt_not (jt_bl (je_isi kit_str h.n_isinstance h.n_str (je_ix ix_D (fun _ _ => rfl) (je_bw 0 rfl (je_int (⟨_, _, _, rfl, rfl, rfl, fun t4 _ =>
      ⟨_, rfl, ⟨_, rfl, ⟨_, _, rfl, ⟨_, rfl, rfl, rfl⟩, jw_or1 (jt_cmp (cmp_neD hr.hu) rfl (je_ix ix_D (fun _ _ => rfl) (je_bw 0 rfl (je_int (⟨_, _, _, rfl, rfl, rfl, fun t5 _ =>
      je_gs h.g_AGAIN (⟨_, _, _, rfl, rfl, rfl, fun b6 =>
      ⟨_, rfl, rfl, rfl⟩⟩)⟩)))))⟩⟩⟩⟩)))))))⟩⟩)⟩))))))⟩⟩⟩))))))) (fun a1 =>
      ⟨_, _, rfl, jss_one (js_ret (je_non (⟨_, rfl, rfl, oa_n⟩))), jss_nil (jss_cons (js_set 1 hnd (je_call (ih) (hr.mono (by omega)) hL (ja_cons (je_ix ix_D (fun _ _ => rfl) (je_bw 0 rfl (je_int (⟨_, _, _, rfl, rfl, rfl, fun t7 _ =>
      ja_nil (⟨_, [], _, fun a8 => [.bw v_0, .un], rfl, rfl, List.nodup_nil, rfl, fun _ => rfl, fun a8 _ =>
      ⟨[.bw v_0, .fr a8], rfl, rfl, rfl,
      jss_one (js_ret (je_join (fun (a9 : D) => .fr a9) (fun a9 => [.bw v_0, .fr a8]) (je_if (jt_join (fun (a10 : Bool) => a10) (fun a10 => [.bw v_0, .fr a8]) (jt_w (jw_and (jt_tru (je_call (ok_t_is_number h) (hr.mono (by omega)) hL (ja_cons (je_ix ix_D (fun _ _ => rfl) (je_bw 0 rfl (je_int (⟨_, _, _, rfl, rfl, rfl, fun t11 _ =>
      ja_nil (⟨_, [], _, fun a12 => [.bw v_0, .fr a8], rfl, rfl, List.nodup_nil, rfl, fun _ => rfl, fun a12 _ =>
      ⟨_, _, rfl, rfl, fun b13 =>
      ⟨_, _, rfl, jw_and1 (jt_cmp cmp_notN rfl (je_fr 1 rfl (je_non (⟨_, _, _, rfl, rfl, rfl, fun b14 =>
      ⟨_, rfl, rfl, rfl⟩⟩)))), ⟨_, rfl, rfl, rfl⟩⟩⟩⟩)⟩))))))))) (fun a10 =>
      ⟨_, _, rfl, je_bin op_mulD (je_ix ix_D (fun _ _ => rfl) (je_bw 0 rfl (je_int (⟨_, _, _, rfl, rfl, rfl, fun t15 _ =>
      je_fr 1 rfl (⟨_, _, _, rfl, rfl, rfl, fun t16 _ =>
      ⟨_, rfl, rfl, rfl⟩⟩)⟩)))), je_non (⟨_, rfl, rfl, rfl⟩)⟩))) (fun a9 =>
      ⟨_, rfl, rfl, oa_n⟩)))⟩⟩)⟩))))))))⟩))))

def d_t_people_of : Nat → List D → Res (D)
  | 0, _ => .bad
  | n_ + 1, [v_0] =>
      if (!(isLst v_0 || isTup v_0)) = true then (.ok D.non) else (op (asL v_0) fun ds1 =>
      fbind (forF ds1 ((D.int 0) : D) fun d4 s3 =>
      (((d_t_is_saying [d4]).bind fun a6 =>
      op (truD a6) fun b7 =>
      if b7 = true then (.ok (D.int 1)) else ((d_t_people_said (d_t_people_of n_) [d4]).bind fun a8 =>
      .ok a8) : Res (D))).bind fun a5 =>
      op (isND a5 D.non) fun b9 =>
      if b9 = true then (.ok (.rt (D.non))) else (op (iaddD s3 a5) fun t10 =>
      .ok (.nx t10))) fun s11 =>
      .ok s11)
  | _ + 1, _ => .bad
abbrev n_t_people_of : List Str := ["thing", "found", "item", "many"]
theorem sc_t_people_of : FnScope n_t_people_of ["thing"] (defScope (topS 15)) := ⟨rfl, rfl, rfl, by decide +kernel, rfl, by decide +kernel, by decide +kernel⟩
theorem ok_t_people_of (h : Txt K mg) : ∀ n : Nat, Df P w K mg base (4 + 2 * n) "people_of" [.b] (d_t_people_of n) (fun a => a) (fun a => []) false
  | 0 => by
    obtain ⟨fa, fd, F, B, M⟩ := h.f_t_people_of
    refine ⟨fa, fd, _, fn_D (k := 3) F sc_t_people_of rfl 0 (fun _ => rfl) rfl (fun X en cdv A outer s H E ds hX hr hn hL hp hl => ?_), M, F.kp, B⟩
    exact jss_never
  | n_ + 1 => by
    have ih := ok_t_people_of h n_
    obtain ⟨fa, fd, F, B, M⟩ := h.f_t_people_of
    refine ⟨fa, fd, _, fn_D (k := 4 + 2 * n_ + 1) F sc_t_people_of rfl 0 (fun _ => rfl) rfl (fun X en cdv A outer s H E ds hX hr hn hL hp hl => ?_), M, F.kp, B⟩
    have hnd := (sc_t_people_of).nd
    subst hX
    obtain ⟨v_0, rfl⟩ := len1 hl
    unfold d_t_people_of
    exact (jss_cons (js_if (jt_not (jt_bl (je_isi2 kit_lst kit_tup h.n_isinstance h.n_list h.n_tuple (je_bw 0 rfl (⟨_, rfl, ⟨_, rfl, ⟨_, _, rfl, jss_one (js_ret (je_non (⟨_, rfl, rfl, oa_n⟩))), jss_nil (jss_cons (js_set 1 hnd (je_int (⟨[.bw v_0, .fr (D.int 0), .un, .un], rfl, rfl, rfl,
      jss_cons (js_for hp rfl (ji_any (je_bw 0 rfl (⟨_, _, rfl, rfl, fun ds1 =>
      ⟨_, _, _, (fun (s3 : D) => [.bw v_0, .fr s3, .un, .un]), rfl, (le_s (le_s (le_s (le_s (le_n))))), fun _ he2 d4 s3 => ⟨[2], jg_name 2 [.bw v_0, .fr s3, .fr d4, .un] hnd (jss_cons (js_set 3 hnd (je_join (fun (a5 : D) => .fr a5) (fun a5 => [.bw v_0, .fr s3, .fr d4, .un]) (je_if (jt_tru (je_call (ok_t_is_saying h) (hr.mono (by omega)) (he2.lk hL) (ja_cons (je_fr 2 rfl (ja_nil (⟨_, [], _, fun a6 => [.bw v_0, .fr s3, .fr d4, .un], rfl, rfl, List.nodup_nil, rfl, fun _ => rfl, fun a6 _ =>
      ⟨_, _, rfl, rfl, fun b7 =>
      ⟨_, _, rfl, je_int (⟨_, rfl, rfl, rfl⟩), je_call (ok_t_people_said h n_ _ ih) (hr.mono (by omega)) (he2.lk hL) (ja_cons (je_fr 2 rfl (ja_nil (⟨_, [], _, fun a8 => [.bw v_0, .fr s3, .fr d4, .un], rfl, rfl, List.nodup_nil, rfl, fun _ => rfl, fun a8 _ =>
      ⟨_, rfl, rfl, rfl⟩⟩))))⟩⟩⟩))))))) (fun a5 =>
      ⟨[.bw v_0, .fr s3, .fr d4, .fr a5], rfl, rfl, rfl,
      jss_cons (js_if (jt_cmp cmp_isN rfl (je_fr 3 rfl (je_non (⟨_, _, _, rfl, rfl, rfl, fun b9 =>
      ⟨_, _, rfl, jss_one (js_ret (je_non (⟨_, rfl, ⟨_, rfl, rfl, oa_n⟩⟩))), jss_nil (jss_one (js_aug 1 hnd ip_addD rfl (je_fr 3 rfl (⟨_, _, fun t10 => [.bw v_0, .fr t10, .fr d4, .fr a5], rfl, rfl, rfl, fun _ => rfl, fun t10 _ =>
      ⟨_, rfl, (le_s (le_s (le_u (le_u (le_n)))))⟩⟩))))⟩⟩)))))⟩))))⟩, fun s11 =>
      jss_one (js_ret (je_fr 1 rfl (⟨_, rfl, rfl, oa_n⟩)))⟩⟩))))⟩))))⟩⟩⟩)))))))

def d_t_is_long : List D → Res (D)
  | [v_0] =>
      (d_t_people_of 8 [v_0]).bind fun a1 =>
      ((op (notND a1 D.non) fun b3 =>
      op (asB (D.bl b3)) fun b4 => if b4 = true then (op (leD a1 (D.int 999999999999999999999999999999)) fun b5 =>
      .ok (D.bl b5)) else (.ok (D.bl false)) : Res (D))).bind fun a2 =>
      .ok a2  | _ => .bad
abbrev n_t_is_long : List Str := ["thing", "many"]
theorem sc_t_is_long : FnScope n_t_is_long ["thing"] (defScope (topS 16)) := ⟨rfl, rfl, rfl, by decide +kernel, rfl, by decide +kernel, by decide +kernel⟩
theorem ok_t_is_long (h : Txt K mg) : Df P w K mg base 21 "is_long" [.b] d_t_is_long (fun a => a) (fun a => []) false := by
  obtain ⟨fa, fd, F, B, M⟩ := h.f_t_is_long
  refine ⟨fa, fd, _, fn_D (k := 20) F sc_t_is_long rfl 0 (fun _ => rfl) rfl (fun X en cdv A outer s H E ds hX hr hn hL hp hl => ?_), M, F.kp, B⟩
  have hnd := (sc_t_is_long).nd
  subst hX
  obtain ⟨v_0, rfl⟩ := len1 hl
  unfold d_t_is_long
  exact (jss_cons (js_set 1 hnd (je_call (ok_t_people_of h 8) (hr.mono (by decide)) hL (ja_cons (je_bw 0 rfl (ja_nil (⟨_, [], _, fun a1 => [.bw v_0, .un], rfl, rfl, List.nodup_nil, rfl, fun _ => rfl, fun a1 _ =>
      ⟨[.bw v_0, .fr a1], rfl, rfl, rfl,
      jss_one (js_ret (je_join (fun (a2 : D) => .fr a2) (fun a2 => [.bw v_0, .fr a1]) (je_and (je_cmpB cmp_notN rfl (je_fr 1 rfl (je_non (⟨_, _, _, rfl, rfl, rfl, fun b3 =>
      ⟨_, _, rfl, rfl, fun b4 => ⟨_, _, rfl, je_one (je_cmpB cmp_leD rfl (je_fr 1 rfl (je_gi h.g_MOST_PEOPLE (⟨_, _, _, rfl, rfl, rfl, fun b5 =>
      ⟨_, rfl, rfl, rfl⟩⟩)))), ⟨_, rfl, rfl, rfl⟩⟩⟩⟩))))) (fun a2 =>
      ⟨_, rfl, rfl, oa_n⟩)))⟩⟩)))))))

def d_t_need_long : List D → Res (D)
  | [v_0] =>
      (d_t_is_long [v_0]).bind fun a1 =>
      op (truD a1) fun b2 =>
      if (!b2) = true then (.bad) else (.ok D.non)  | _ => .bad
abbrev n_t_need_long : List Str := ["thing"]
theorem sc_t_need_long : FnScope n_t_need_long ["thing"] (defScope (topS 17)) := ⟨rfl, rfl, rfl, by decide +kernel, rfl, by decide +kernel, by decide +kernel⟩
theorem ok_t_need_long (h : Txt K mg) : Df P w K mg base 22 "need_long" [.b] d_t_need_long (fun a => a) (fun a => []) false := by
  obtain ⟨fa, fd, F, B, M⟩ := h.f_t_need_long
  refine ⟨fa, fd, _, fn_D (k := 21) F sc_t_need_long rfl 0 (fun _ => rfl) rfl (fun X en cdv A outer s H E ds hX hr hn hL hp hl => ?_), M, F.kp, B⟩
  have hnd := (sc_t_need_long).nd
  subst hX
  obtain ⟨v_0, rfl⟩ := len1 hl
  unfold d_t_need_long
  exact (jss_one (js_if (jt_not (jt_tru (je_call (ok_t_is_long h) (hr.mono (by decide)) hL (ja_cons (je_bw 0 rfl (ja_nil (⟨_, [], _, fun a1 => [.bw v_0], rfl, rfl, List.nodup_nil, rfl, fun _ => rfl, fun a1 _ =>
      ⟨_, _, rfl, rfl, fun b2 =>
      ⟨_, _, rfl, jss_one (js_bad), jss_nil (⟨rfl, _, rfl, rfl, oa_n⟩)⟩⟩⟩)))))))))

def d_Spot_init : List D → Res (D × D × D)
  | [v_1, v_2] =>
      .ok (v_1, v_2, (D.int 1))
  | _ => .bad
abbrev n_Spot_init : List Str := ["self", "saying", "number"]
theorem sc_Spot_init : FnScope n_Spot_init ["self", "saying", "number"] (defScope (inClass (topS 11) 0)) := ⟨rfl, rfl, rfl, by decide +kernel, rfl, by decide +kernel, by decide +kernel⟩
theorem ok_Spot_init (h : Txt K mg) : DfI P w K mg base 1 "Spot" [.f, .f] d_Spot_init (fun a => [("s8_said", false, a.1), ("s8_number", false, a.2.1), ("s8_many", false, a.2.2)]) := by
  obtain ⟨C, fa, fd, F, B, M, hO, hM⟩ := h.c_Spot
  refine ⟨C, fa, fd, _, fn_Y (k := 0) F sc_Spot_init rfl rfl (fun X en cdv A outer s H E z ds hX hr hn hL hp hl => ?_), M, hO, hM, B, rfl⟩
  have hnd := (sc_Spot_init).nd
  subst hX
  obtain ⟨v_1, v_2, rfl⟩ := len2 hl
  show JYs _ _ _ _ _ _ _ _ _ _ (d_Spot_init [v_1, v_2])
  unfold d_Spot_init
  exact (jys_cons (jy_fset h.a_s8_said (fun _ hx1 => je_fr 1 rfl (⟨_, _, [.bw (.obj "Spot" [("s8_said", false, v_1)]), .fr v_1, .fr v_2], rfl, rfl, rfl, rfl, rfl, rfl,
      jys_cons (jy_fset h.a_s8_number (fun _ hx2 => je_fr 2 rfl (⟨_, _, [.bw (.obj "Spot" [("s8_said", false, v_1), ("s8_number", false, v_2)]), .fr v_1, .fr v_2], rfl, rfl, rfl, rfl, rfl, rfl,
      jys_one (jy_fset (fun c_ hc_ => h.a_s8_many c_ (by rw [List.mem_singleton.mp hc_]; simp)) (fun _ hx3 => je_int (⟨_, _, [.bw (.obj "Spot" [("s8_said", false, v_1), ("s8_number", false, v_2), ("s8_many", false, (D.int 1))]), .fr v_1, .fr v_2], rfl, rfl, rfl, rfl, rfl, rfl,
      ⟨_, rfl, rfl, rfl⟩⟩)))⟩)))⟩))))

def d_t_laid_many : List D → Res (D)
  | [v_0] =>
      op (asL v_0) fun ds1 =>
      (lcF ds1 (() : Unit) [] fun d3 s2 =>
      op (fldD ["Spot", "Over"] "s8_many" d3) fun t4 =>
      .ok (some t4, ())).bind fun q5 =>
      op (sumD [(D.lst q5.1)]) fun t6 =>
      .ok t6  | _ => .bad
abbrev n_t_laid_many : List Str := ["parts", "part"]
theorem sc_t_laid_many : FnScope n_t_laid_many ["parts"] (defScope (topS 13)) := ⟨rfl, rfl, rfl, by decide +kernel, rfl, by decide +kernel, by decide +kernel⟩
theorem ok_t_laid_many (h : Txt K mg) : Df P w K mg base 1 "laid_many" [.b] d_t_laid_many (fun a => a) (fun a => []) false := by
  obtain ⟨fa, fd, F, B, M⟩ := h.f_t_laid_many
  refine ⟨fa, fd, _, fn_D (k := 0) F sc_t_laid_many rfl 0 (fun _ => rfl) rfl (fun X en cdv A outer s H E ds hX hr hn hL hp hl => ?_), M, F.kp, B⟩
  have hnd := (sc_t_laid_many).nd
  subst hX
  obtain ⟨v_0, rfl⟩ := len1 hl
  unfold d_t_laid_many
  exact (jss_one (js_ret (je_callB (c_sum rfl) h.n_sum (ja_cons (je_lc [("part", 1)] rfl hnd (ji_any (je_bw 0 rfl (⟨_, _, rfl, rfl, fun ds1 =>
      ⟨_, _, _, (fun s2 => [.bw v_0, .un]), (fun s2 => [.bw v_0, .un]), rfl, (le_s (le_s (le_n))), rfl, fun _ he d3 s2 _ _ _ _ _ _ => ⟨[1], (fun _ h => h), jg_name 1 [.bw v_0, .fr d3] hnd (fun _ _ _ _ _ => je_fld _ h.a_s8_many (je_fr 1 rfl (⟨_, _, rfl, rfl, fun t4 =>
      ⟨_, _, rfl, rfl, (le_s (le_s (le_n))), rfl⟩⟩)))⟩, fun _ => rfl, fun q5 =>
      ja_nil (⟨_, _, rfl, rfl, fun t6 _ =>
      ⟨_, rfl, rfl, oa_n⟩⟩)⟩⟩))) (ok := by (refine blkOk_by ?_; first | (dsimp only [cxOf, envOfC, Cx.blk]; decide +kernel) | exact Eq.refl true)))))))

def d_Over_init : List D → Res (D × D × D × D)
  | [v_1, v_2] =>
      (d_t_laid_many [v_2]).bind fun a4 =>
      op (mulD v_1 a4) fun t6 =>
      .ok (v_1, v_2, a4, t6)
  | _ => .bad
abbrev n_Over_init : List Str := ["self", "times", "parts"]
theorem sc_Over_init : FnScope n_Over_init ["self", "times", "parts"] (defScope (inClass (topS 12) 0)) := ⟨rfl, rfl, rfl, by decide +kernel, rfl, by decide +kernel, by decide +kernel⟩
theorem ok_Over_init (h : Txt K mg) : DfI P w K mg base 2 "Over" [.f, .f] d_Over_init (fun a => [("s8_times", false, a.1), ("s8_parts", false, a.2.1), ("s8_once", false, a.2.2.1), ("s8_many", false, a.2.2.2)]) := by
  obtain ⟨C, fa, fd, F, B, M, hO, hM⟩ := h.c_Over
  refine ⟨C, fa, fd, _, fn_Y (k := 1) F sc_Over_init rfl rfl (fun X en cdv A outer s H E z ds hX hr hn hL hp hl => ?_), M, hO, hM, B, rfl⟩
  have hnd := (sc_Over_init).nd
  subst hX
  obtain ⟨v_1, v_2, rfl⟩ := len2 hl
  show JYs _ _ _ _ _ _ _ _ _ _ (d_Over_init [v_1, v_2])
  unfold d_Over_init
  exact (jys_cons (jy_fset h.a_s8_times (fun _ hx1 => je_fr 1 rfl (⟨_, _, [.bw (.obj "Over" [("s8_times", false, v_1)]), .fr v_1, .fr v_2], rfl, rfl, rfl, rfl, rfl, rfl,
      jys_cons (jy_fset h.a_s8_parts (fun _ hx2 => je_fr 2 rfl (⟨_, _, [.bw (.obj "Over" [("s8_times", false, v_1), ("s8_parts", false, v_2)]), .fr v_1, .fr v_2], rfl, rfl, rfl, rfl, rfl, rfl,
      jys_cons (jy_fset h.a_s8_once (fun _ hx3 => je_call (ok_t_laid_many h) (hr.mono (by decide)) (hx3.lk hL) (ja_cons (je_fr 2 rfl (ja_nil (⟨_, [], _, fun a4 => [.bw (.obj "Over" [("s8_times", false, v_1), ("s8_parts", false, v_2)]), .fr v_1, .fr v_2], rfl, rfl, List.nodup_nil, rfl, fun _ => rfl, fun a4 _ =>
      ⟨_, _, [.bw (.obj "Over" [("s8_times", false, v_1), ("s8_parts", false, v_2), ("s8_once", false, a4)]), .fr v_1, .fr v_2], rfl, rfl, rfl, rfl, rfl, rfl,
      jys_one (jy_fset (fun c_ hc_ => h.a_s8_many c_ (by rw [List.mem_singleton.mp hc_]; simp)) (fun _ hx5 => je_bin op_mulD (je_fr 1 rfl (je_own0 0 rfl rfl h.a_s8_once (⟨_, _, _, rfl, rfl, rfl, fun t6 _ =>
      ⟨_, _, [.bw (.obj "Over" [("s8_times", false, v_1), ("s8_parts", false, v_2), ("s8_once", false, a4), ("s8_many", false, t6)]), .fr v_1, .fr v_2], rfl, rfl, rfl, rfl, rfl, rfl,
      ⟨_, rfl, rfl, rfl⟩⟩⟩)))))⟩⟩))))))⟩)))⟩))))

def d_t_planted : Nat → List D → Res (D)
  | 0, _ => .bad
  | n_ + 1, [v_0, v_1] =>
      op (asL v_0) fun ds1 =>
      (forS ds1 ((v_1, ([] : List D)) : D × List D) fun d4 s3 =>
      (((d_t_is_saying [d4]).bind fun a6 =>
      op (truD a6) fun b7 =>
      if b7 = true then ((d_Spot_init [d4, s3.1]).bind fun a8 =>
      op (appL s3.2 [(D.obj "Spot" [("s8_said", false, a8.1), ("s8_number", false, a8.2.1), ("s8_many", false, a8.2.2)])]) fun a9 =>
      op (iaddD s3.1 (D.int 1)) fun t10 =>
      .ok (t10, a9.2)) else (op (ixD d4 (D.int 2)) fun t11 =>
      (d_t_planted n_ [t11, s3.1]).bind fun a12 =>
      op (un2 a12) fun p13 =>
      op (ixD d4 (D.int 1)) fun t14 =>
      (d_Over_init [t14, p13.1]).bind fun a15 =>
      op (appL s3.2 [(D.obj "Over" [("s8_times", false, a15.1), ("s8_parts", false, a15.2.1), ("s8_once", false, a15.2.2.1), ("s8_many", false, a15.2.2.2)])]) fun a16 =>
      .ok (p13.2, a16.2)) : Res (D × List D))).bind fun s5 =>
      .ok (s5.1, s5.2)).bind fun s17 =>
      .ok (D.tup [(D.lst s17.2), s17.1])
  | _ + 1, _ => .bad
abbrev n_t_planted : List Str := ["long", "first", "parts", "item", "inner"]
theorem sc_t_planted : FnScope n_t_planted ["long", "first"] (defScope (topS 18)) := ⟨rfl, rfl, rfl, by decide +kernel, rfl, by decide +kernel, by decide +kernel⟩
theorem ok_t_planted (h : Txt K mg) : ∀ n : Nat, Df P w K mg base (4 + n) "planted" [.b, .f] (d_t_planted n) (fun a => a) (fun a => []) false
  | 0 => by
    obtain ⟨fa, fd, F, B, M⟩ := h.f_t_planted
    refine ⟨fa, fd, _, fn_D (k := 3) F sc_t_planted rfl 0 (fun _ => rfl) rfl (fun X en cdv A outer s H E ds hX hr hn hL hp hl => ?_), M, F.kp, B⟩
    exact jss_never
  | n_ + 1 => by
    have ih := ok_t_planted h n_
    obtain ⟨fa, fd, F, B, M⟩ := h.f_t_planted
    refine ⟨fa, fd, _, fn_D (k := 4 + n_) F sc_t_planted rfl 0 (fun _ => rfl) rfl (fun X en cdv A outer s H E ds hX hr hn hL hp hl => ?_), M, F.kp, B⟩
    have hnd := (sc_t_planted).nd
    subst hX
    obtain ⟨v_0, v_1, rfl⟩ := len2 hl
    unfold d_t_planted
    exact (jss_cons (js_set 2 hnd (je_lst (ja_nil (⟨_, rfl, rfl, ⟨[.bw v_0, .fr v_1, .mu (.lst ([] : List D)), .un, .un], rfl, rfl, rfl,
      jss_cons (js_forS hp rfl (ji_any (je_bw 0 rfl (⟨_, _, rfl, rfl, fun ds1 =>
      ⟨_, _, _, (fun (s3 : D × List D) => [.bw v_0, .fr s3.1, .mu (.lst s3.2), .un, .un]), rfl, (le_s (le_s (le_s (le_s (le_s (le_n)))))), fun _ he2 d4 s3 => ⟨[3], jg_name 3 [.bw v_0, .fr s3.1, .mu (.lst s3.2), .fr d4, .un] hnd (jss_one (js_joinS (fun (s5 : D × List D) => [.bw v_0, .fr s5.1, .mu (.lst s5.2), .fr d4, .un]) (js_if (jt_tru (je_call (ok_t_is_saying h) (hr.mono (by omega)) (he2.lk hL) (ja_cons (je_fr 3 rfl (ja_nil (⟨_, [], _, fun a6 => [.bw v_0, .fr s3.1, .mu (.lst s3.2), .fr d4, .un], rfl, rfl, List.nodup_nil, rfl, fun _ => rfl, fun a6 _ =>
      ⟨_, _, rfl, rfl, fun b7 =>
      ⟨_, _, rfl, jss_cons (js_expr (je_mutL 2 g_app PySem.F.slot_list_append PySem.F.type_list_append m_append rfl rfl rfl (ja_cons (je_make (ok_Spot_init h) (hr.mono (by omega)) (he2.lk hL) (ja_cons (je_fr 3 rfl (ja_cons (je_fr 1 rfl (ja_nil (⟨_, _, fun a8 => [("s8_said", false, a8.1), ("s8_number", false, a8.2.1), ("s8_many", false, a8.2.2)], rfl, rfl, fun _ => rfl, fun a8 =>
      ja_nil (⟨_, _, _, _, fun a9 => [.bw v_0, .fr s3.1, .mu (.lst a9.2), .fr d4, .un], rfl, rfl, rfl, rfl, rfl, fun _ => rfl, fun a9 =>
      jss_one (js_aug 1 hnd ip_addD rfl (je_int (⟨_, _, fun t10 => [.bw v_0, .fr t10, .mu (.lst a9.2), .fr d4, .un], rfl, rfl, rfl, fun _ => rfl, fun t10 _ =>
      ⟨_, rfl, (le_s (le_s (le_s (le_s (le_s (le_n))))))⟩⟩)))⟩)⟩)))))))))), jss_cons (js_asg (je_call (ih) (hr.mono (by omega)) (he2.lk hL) (ja_cons (je_ix ix_D (fun _ _ => rfl) (je_fr 3 rfl (je_int (⟨_, _, _, rfl, rfl, rfl, fun t11 _ =>
      ja_cons (je_fr 1 rfl (ja_nil (⟨_, [], _, fun a12 => [.bw v_0, .fr s3.1, .mu (.lst s3.2), .fr d4, .un], rfl, rfl, List.nodup_nil, rfl, fun _ => rfl, fun a12 _ =>
      ⟨_, [4, 1], rfl, jg_tup2 rfl ⟨_, rfl, fun p13 =>
      jgs_name 4 [.bw v_0, .fr s3.1, .mu (.lst s3.2), .fr d4, .fr p13.1] hnd (jgs_name 1 [.bw v_0, .fr p13.2, .mu (.lst s3.2), .fr d4, .fr p13.1] hnd (jgs_nil (jss_one (js_expr (je_mutL 2 g_app PySem.F.slot_list_append PySem.F.type_list_append m_append rfl rfl rfl (ja_cons (je_make (ok_Over_init h) (hr.mono (by omega)) (he2.lk hL) (ja_cons (je_ix ix_D (fun _ _ => rfl) (je_fr 3 rfl (je_int (⟨_, _, _, rfl, rfl, rfl, fun t14 _ =>
      ja_cons (je_fr 4 rfl (ja_nil (⟨_, _, fun a15 => [("s8_times", false, a15.1), ("s8_parts", false, a15.2.1), ("s8_once", false, a15.2.2.1), ("s8_many", false, a15.2.2.2)], rfl, rfl, fun _ => rfl, fun a15 =>
      ja_nil (⟨_, _, _, _, fun a16 => [.bw v_0, .fr p13.2, .mu (.lst a16.2), .fr d4, .fr p13.1], rfl, rfl, rfl, rfl, rfl, fun _ => rfl, fun a16 =>
      ⟨_, rfl, (le_s (le_s (le_s (le_s (le_u (le_n))))))⟩⟩)⟩)))⟩))))))))))))⟩⟩⟩)))⟩)))))))⟩⟩⟩))))))) (fun s5 =>
      ⟨_, rfl, (le_s (le_s (le_s (le_u (le_s (le_n))))))⟩)))⟩, fun s17 =>
      jss_one (js_ret (je_tup (ja_cons (je_fzv' 2 [.bw v_0, .fr s17.1, .fr (D.lst s17.2), .un, .un] rfl rfl (ja_cons (je_fr 1 rfl (ja_nil (⟨_, rfl, rfl, ⟨_, rfl, rfl, oa_n⟩⟩))))))))⟩⟩))))⟩⟩)))))

def d_t_parts_of : List D → Res (D)
  | [v_0] =>
      (d_t_need_long [v_0]).bind fun a1 =>
      (d_t_planted 8 [v_0, (D.int 0)]).bind fun a2 =>
      op (ixD a2 (D.int 0)) fun t3 =>
      .ok t3  | _ => .bad
abbrev n_t_parts_of : List Str := ["long"]
theorem sc_t_parts_of : FnScope n_t_parts_of ["long"] (defScope (topS 19)) := ⟨rfl, rfl, rfl, by decide +kernel, rfl, by decide +kernel, by decide +kernel⟩
theorem ok_t_parts_of (h : Txt K mg) : Df P w K mg base 23 "parts_of" [.b] d_t_parts_of (fun a => a) (fun a => []) false := by
  obtain ⟨fa, fd, F, B, M⟩ := h.f_t_parts_of
  refine ⟨fa, fd, _, fn_D (k := 22) F sc_t_parts_of rfl 0 (fun _ => rfl) rfl (fun X en cdv A outer s H E ds hX hr hn hL hp hl => ?_), M, F.kp, B⟩
  have hnd := (sc_t_parts_of).nd
  subst hX
  obtain ⟨v_0, rfl⟩ := len1 hl
  unfold d_t_parts_of
  exact (jss_cons (js_expr (je_call (ok_t_need_long h) (hr.mono (by decide)) hL (ja_cons (je_bw 0 rfl (ja_nil (⟨_, [], _, fun a1 => [.bw v_0], rfl, rfl, List.nodup_nil, rfl, fun _ => rfl, fun a1 _ =>
      jss_one (js_ret (je_ix ix_D (fun _ _ => rfl) (je_call (ok_t_planted h 8) (hr.mono (by decide)) hL (ja_cons (je_bw 0 rfl (ja_cons (je_int (ja_nil (⟨_, [], _, fun a2 => [.bw v_0], rfl, rfl, List.nodup_nil, rfl, fun _ => rfl, fun a2 _ =>
      je_int (⟨_, _, _, rfl, rfl, rfl, fun t3 _ =>
      ⟨_, rfl, rfl, oa_n⟩⟩)⟩)))))))))⟩)))))))

def d_t_lesser_slack : List D → Res (D)
  | [v_0, v_1] =>
      ((op (isND v_0 D.non) fun b2 =>
      if b2 = true then (.ok true) else (op (isND v_1 D.non) fun b3 =>
      .ok b3) : Res (Bool))).bind fun a1 =>
      if a1 = true then (((op (isND v_0 D.non) fun b5 =>
      if b5 = true then (.ok v_1) else (.ok v_0) : Res (D))).bind fun a4 =>
      .ok a4) else (op (min2D [v_0, v_1]) fun t6 =>
      .ok t6)  | _ => .bad
abbrev n_t_lesser_slack : List Str := ["one", "other"]
theorem sc_t_lesser_slack : FnScope n_t_lesser_slack ["one", "other"] (defScope (topS 23)) := ⟨rfl, rfl, rfl, by decide +kernel, rfl, by decide +kernel, by decide +kernel⟩
theorem ok_t_lesser_slack (h : Txt K mg) : Df P w K mg base 1 "lesser_slack" [.f, .f] d_t_lesser_slack (fun a => a) (fun a => []) false := by
  obtain ⟨fa, fd, F, B, M⟩ := h.f_t_lesser_slack
  refine ⟨fa, fd, _, fn_D (k := 0) F sc_t_lesser_slack rfl 0 (fun _ => rfl) rfl (fun X en cdv A outer s H E ds hX hr hn hL hp hl => ?_), M, F.kp, B⟩
  have hnd := (sc_t_lesser_slack).nd
  subst hX
  obtain ⟨v_0, v_1, rfl⟩ := len2 hl
  unfold d_t_lesser_slack
  exact (jss_cons (js_if (jt_join (fun (a1 : Bool) => a1) (fun a1 => [.fr v_0, .fr v_1]) (jt_w (jw_or (jt_cmp cmp_isN rfl (je_fr 0 rfl (je_non (⟨_, _, _, rfl, rfl, rfl, fun b2 =>
      ⟨_, _, rfl, ⟨_, rfl, rfl, rfl⟩, jw_or1 (jt_cmp cmp_isN rfl (je_fr 1 rfl (je_non (⟨_, _, _, rfl, rfl, rfl, fun b3 =>
      ⟨_, rfl, rfl, rfl⟩⟩))))⟩⟩)))))) (fun a1 =>
      ⟨_, _, rfl, jss_one (js_ret (je_join (fun (a4 : D) => .fr a4) (fun a4 => [.fr v_0, .fr v_1]) (je_if (jt_cmp cmp_isN rfl (je_fr 0 rfl (je_non (⟨_, _, _, rfl, rfl, rfl, fun b5 =>
      ⟨_, _, rfl, je_fr 1 rfl (⟨_, rfl, rfl, rfl⟩), je_fr 0 rfl (⟨_, rfl, rfl, rfl⟩)⟩⟩))))) (fun a4 =>
      ⟨_, rfl, rfl, oa_n⟩))), jss_nil (jss_one (js_ret (je_callB (c_min2 rfl) h.n_min (ja_cons (je_fr 0 rfl (ja_cons (je_fr 1 rfl (ja_nil (⟨_, _, rfl, rfl, fun t6 _ =>
      ⟨_, rfl, rfl, oa_n⟩⟩)))))))))⟩))))

def d_t_word_of : List D → Res (D)
  | [v_0, v_1] =>
      op (un2 v_0) fun p1 =>
      op (ltD v_1 p1.1) fun b2 =>
      if b2 = true then (op (subD p1.1 (D.int 1)) fun t3 =>
      op (subD t3 v_1) fun t4 =>
      .ok (D.tup [(D.lst [(D.int 1), (D.int 0)]), t4])) else (((op (isND p1.2 D.non) fun b6 =>
      if b6 = true then (.ok true) else (op (leD v_1 p1.2) fun b7 =>
      .ok b7) : Res (Bool))).bind fun a5 =>
      if a5 = true then (((op (isND p1.2 D.non) fun b9 =>
      if b9 = true then (.ok D.non) else (op (subD p1.2 v_1) fun t10 =>
      .ok t10) : Res (D))).bind fun a8 =>
      .ok (D.tup [(D.lst [(D.int 0), (D.int 1)]), a8])) else (.ok (D.tup [(D.lst [(D.int 0), (D.int 0)]), D.non])))  | _ => .bad
abbrev n_t_word_of : List Str := ["saying", "number", "least", "most"]
theorem sc_t_word_of : FnScope n_t_word_of ["saying", "number"] (defScope (topS 24)) := ⟨rfl, rfl, rfl, by decide +kernel, rfl, by decide +kernel, by decide +kernel⟩
theorem ok_t_word_of (h : Txt K mg) : Df P w K mg base 1 "word_of" [.f, .b] d_t_word_of (fun a => a) (fun a => []) false := by
  obtain ⟨fa, fd, F, B, M⟩ := h.f_t_word_of
  refine ⟨fa, fd, _, fn_D (k := 0) F sc_t_word_of rfl 0 (fun _ => rfl) rfl (fun X en cdv A outer s H E ds hX hr hn hL hp hl => ?_), M, F.kp, B⟩
  have hnd := (sc_t_word_of).nd
  subst hX
  obtain ⟨v_0, v_1, rfl⟩ := len2 hl
  unfold d_t_word_of
  exact (jss_cons (js_asg (je_fr 0 rfl (⟨_, [2, 3], rfl, jg_tup2 rfl ⟨_, rfl, fun p1 =>
      jgs_name 2 [.fr v_0, .bw v_1, .fr p1.1, .un] hnd (jgs_name 3 [.fr v_0, .bw v_1, .fr p1.1, .fr p1.2] hnd (jgs_nil (jss_cons (js_if (jt_cmp cmp_ltD rfl (je_bw 1 rfl (je_fr 2 rfl (⟨_, _, _, rfl, rfl, rfl, fun b2 =>
      ⟨_, _, rfl, jss_one (js_ret (je_tup (ja_cons (je_fz (je_lst (ja_cons (je_int (ja_cons (je_int (ja_nil (⟨_, rfl, rfl, ja_cons (je_bin op_subD (je_bin op_subD (je_fr 2 rfl (je_int (⟨_, _, _, rfl, rfl, rfl, fun t3 _ =>
      je_bw 1 rfl (⟨_, _, _, rfl, rfl, rfl, fun t4 _ =>
      ja_nil (⟨_, rfl, rfl, ⟨_, rfl, rfl, oa_n⟩⟩)⟩)⟩)))))⟩))))))))))), jss_nil (jss_cons (js_if (jt_join (fun (a5 : Bool) => a5) (fun a5 => [.fr v_0, .bw v_1, .fr p1.1, .fr p1.2]) (jt_w (jw_or (jt_cmp cmp_isN rfl (je_fr 3 rfl (je_non (⟨_, _, _, rfl, rfl, rfl, fun b6 =>
      ⟨_, _, rfl, ⟨_, rfl, rfl, rfl⟩, jw_or1 (jt_cmp cmp_leD rfl (je_bw 1 rfl (je_fr 3 rfl (⟨_, _, _, rfl, rfl, rfl, fun b7 =>
      ⟨_, rfl, rfl, rfl⟩⟩))))⟩⟩)))))) (fun a5 =>
      ⟨_, _, rfl, jss_one (js_ret (je_tup (ja_cons (je_fz (je_lst (ja_cons (je_int (ja_cons (je_int (ja_nil (⟨_, rfl, rfl, ja_cons (je_join (fun (a8 : D) => .fr a8) (fun a8 => [.fr v_0, .bw v_1, .fr p1.1, .fr p1.2]) (je_if (jt_cmp cmp_isN rfl (je_fr 3 rfl (je_non (⟨_, _, _, rfl, rfl, rfl, fun b9 =>
      ⟨_, _, rfl, je_non (⟨_, rfl, rfl, rfl⟩), je_bin op_subD (je_fr 3 rfl (je_bw 1 rfl (⟨_, _, _, rfl, rfl, rfl, fun t10 _ =>
      ⟨_, rfl, rfl, rfl⟩⟩)))⟩⟩))))) (fun a8 =>
      ja_nil (⟨_, rfl, rfl, ⟨_, rfl, rfl, oa_n⟩⟩)))⟩))))))))))), jss_nil (jss_one (js_ret (je_tup (ja_cons (je_fz (je_lst (ja_cons (je_int (ja_cons (je_int (ja_nil (⟨_, rfl, rfl, ja_cons (je_non (ja_nil (⟨_, rfl, rfl, ⟨_, rfl, rfl, oa_n⟩⟩)))⟩))))))))))))⟩))))⟩⟩))))))))⟩⟩))))

def d_t_add_counts : List D → Res (D × List (Key × D))
  | [.dic v_0, v_1, v_2] =>
      op (itmL v_1 [(false, (D.dic v_0)), (true, v_2)]) fun ds17 =>
      (okR (forS ds17 (v_0 : List (Key × D)) fun d3 s2 =>
      op (un2 d3) fun p4 =>
      op (asK (D.dic s2)) fun kv5 =>
      op (dgetD (D.dic s2) p4.1 (D.lst [(D.int 0), (D.int 0)])) fun t6 =>
      op (ixD t6 (D.int 0)) fun t7 =>
      op (ixD p4.2 (D.int 0)) fun t8 =>
      op (mulD t8 v_2) fun t9 =>
      op (addD t7 t9) fun t10 =>
      op (ixD t6 (D.int 1)) fun t11 =>
      op (ixD p4.2 (D.int 1)) fun t12 =>
      op (mulD t12 v_2) fun t13 =>
      op (addD t11 t13) fun t14 =>
      op (dputK s2 p4.1 (D.lst [t10, t14])) fun r15 =>
      .ok r15)).bind fun s16 =>
      .ok (D.non, s16)  | _ => .bad
abbrev n_t_add_counts : List Str := ["counts", "more", "times", "number", "pair", "old"]
theorem sc_t_add_counts : FnScope n_t_add_counts ["counts", "more", "times"] (defScope (topS 25)) := ⟨rfl, rfl, rfl, by decide +kernel, rfl, by decide +kernel, by decide +kernel⟩
theorem ok_t_add_counts (h : Txt K mg) : Df P w K mg base 1 "add_counts" [.m, .b, .f] d_t_add_counts (fun a => a.1) (fun a => [.dic a.2]) false := by
  obtain ⟨fa, fd, F, B, M⟩ := h.f_t_add_counts
  refine ⟨fa, fd, _, fn_D (k := 0) F sc_t_add_counts rfl 1 (fun _ => rfl) rfl (fun X en cdv A outer s H E ds hX hr hn hL hp hl => ?_), M, F.kp, B⟩
  have hnd := (sc_t_add_counts).nd
  subst hX
  obtain ⟨v_0, v_1, v_2, rfl⟩ := len3 hl
  cases v_0 <;> try exact jss_never
  rename_i v_0
  unfold d_t_add_counts
  exact (jss_one (js_forIt (k := fun s16 => .ok (D.non, s16)) 1 [.mp 0 (.dic v_0), .un, .fr v_2, .un, .un, .un] (fun (s2 : List (Key × D)) => [.mp 0 (.dic s2), .un, .fr v_2, .un, .un, .un]) hp rfl rfl rfl (⟨.inr ⟨_, rfl, rfl, by simp⟩, ⟨.inl rfl, ⟨.inr ⟨_, rfl, rfl, by simp⟩, ⟨.inl rfl, ⟨.inl rfl, ⟨.inl rfl, trivial⟩⟩⟩⟩⟩⟩) rfl rfl ((le_s (le_s (le_s (le_s (le_s (le_s (le_n)))))))) (fun _ => rfl) (fun _ he1 d3 s2 => ⟨[3, 4], jg_tup2 rfl ⟨_, rfl, fun p4 =>
      jgs_name 3 [.mp 0 (.dic s2), .un, .fr v_2, .fr p4.1, .un, .un] hnd (jgs_name 4 [.mp 0 (.dic s2), .un, .fr v_2, .fr p4.1, .fr p4.2, .un] hnd (jgs_nil (jss_cons (js_set 5 hnd (je_dget hr.hu ⟨rfl, rfl, rfl, rfl⟩ (je_bo 0 rfl (.inr ⟨_, _, rfl⟩) (⟨_, _, rfl, rfl, fun kv5 =>
      je_fr 3 rfl (je_fz (je_lst (ja_cons (je_int (ja_cons (je_int (ja_nil (⟨_, rfl, rfl, ⟨_, _, _, _, rfl, rfl, rfl, rfl, fun t6 =>
      ⟨[.mp 0 (.dic s2), .un, .fr v_2, .fr p4.1, .fr p4.2, .fr t6], rfl, rfl, rfl,
      jss_one (js_dput 0 hr.hu (je_fz (je_lst (ja_cons (je_bin op_addD (je_ix ix_D (fun _ _ => rfl) (je_fr 5 rfl (je_gi h.g_FEW (⟨_, _, _, rfl, rfl, rfl, fun t7 _ =>
      je_bin op_mulD (je_ix ix_D (fun _ _ => rfl) (je_fr 4 rfl (je_gi h.g_FEW (⟨_, _, _, rfl, rfl, rfl, fun t8 _ =>
      je_fr 2 rfl (⟨_, _, _, rfl, rfl, rfl, fun t9 _ =>
      ⟨_, _, _, rfl, rfl, rfl, fun t10 _ =>
      ja_cons (je_bin op_addD (je_ix ix_D (fun _ _ => rfl) (je_fr 5 rfl (je_gi h.g_TRUE (⟨_, _, _, rfl, rfl, rfl, fun t11 _ =>
      je_bin op_mulD (je_ix ix_D (fun _ _ => rfl) (je_fr 4 rfl (je_gi h.g_TRUE (⟨_, _, _, rfl, rfl, rfl, fun t12 _ =>
      je_fr 2 rfl (⟨_, _, _, rfl, rfl, rfl, fun t13 _ =>
      ⟨_, _, _, rfl, rfl, rfl, fun t14 _ =>
      ja_nil (⟨_, rfl, rfl, ⟨_, _, rfl, rfl, rfl, je_fr 3 rfl (⟨_, _, _, _, fun r15 => [.mp 0 (.dic r15), .un, .fr v_2, .fr p4.1, .fr p4.2, .fr t6], rfl, rfl, rfl, rfl, rfl, fun _ => rfl, fun r15 =>
      ⟨_, rfl, (le_s (le_s (le_s (le_u (le_u (le_u (le_n)))))))⟩⟩)⟩⟩)⟩⟩)⟩))))⟩)))))⟩⟩)⟩))))⟩)))))))))⟩⟩⟩))))))))⟩)))))))⟩⟩) (fun s16 =>
      ⟨rfl, _, rfl, rfl, (oa_c 0 rfl oa_n)⟩)))

def d_t_through_over (d_rec_ : List D → Res (D)) : List D → Res (D)
  | [v_0, v_1] =>
      op (fldD ["Over"] "s8_times" v_0) fun t1 =>
      (whileS 10000000000000000000000000000000000000000 ((v_1, D.non, ([] : List (Key × D)), t1) : D × D × List (Key × D) × D) (fun s3 => op (gtD s3.2.2.2 (D.int 0)) fun b4 =>
      .ok b4) (fun s3 =>
      op (fldD ["Over"] "s8_parts" v_0) fun t5 =>
      (d_rec_ [t5, s3.1]).bind fun a6 =>
      op (un3 a6) fun p7 =>
      op (subD p7.1 s3.1) fun t8 =>
      ((((op (isND p7.2.1 D.non) fun b11 =>
      if b11 = true then (.ok true) else (op (eqD t8 (D.int 0)) fun b12 =>
      .ok b12) : Res (Bool))).bind fun a10 =>
      if a10 = true then (op (subD s3.2.2.2 (D.int 1)) fun t13 =>
      .ok t13) else (op (subD s3.2.2.2 (D.int 1)) fun t14 =>
      op (fdivD p7.2.1 t8) fun t15 =>
      op (min2D [t14, t15]) fun t16 =>
      .ok t16) : Res (D))).bind fun a9 =>
      op (mulD a9 t8) fun t17 =>
      op (iaddD p7.1 t17) fun t18 =>
      ((op (isND p7.2.1 D.non) fun b20 =>
      if b20 = true then (.ok D.non) else (op (mulD a9 t8) fun t21 =>
      op (subD p7.2.1 t21) fun t22 =>
      .ok t22) : Res (D))).bind fun a19 =>
      (d_t_lesser_slack [s3.2.1, a19]).bind fun a23 =>
      op (addD a9 (D.int 1)) fun t24 =>
      (d_t_add_counts [(D.dic s3.2.2.1), p7.2.2, t24]).bind fun a25 =>
      op (addD a9 (D.int 1)) fun t26 =>
      op (subD s3.2.2.2 t26) fun t27 =>
      .ok (t18, a23, a25.2, t27))).bind fun s28 =>
      .ok (D.tup [s28.1, s28.2.1, (D.dic s28.2.2.1)])  | _ => .bad
abbrev n_t_through_over : List Str := ["part", "number", "slack", "counts", "left", "ahead", "own", "once", "grown", "more"]
theorem sc_t_through_over : FnScope n_t_through_over ["part", "number"] (defScope (topS 27)) := ⟨rfl, rfl, rfl, by decide +kernel, rfl, by decide +kernel, by decide +kernel⟩
theorem ok_t_through_over (h : Txt K mg) (n_ : Nat) (d_rec_ : List D → Res (D)) (ih : Df P w K mg base (3 + 2 * n_) "through" [.b, .f] d_rec_ (fun a => a) (fun a => []) false) : Df P w K mg base (3 + 2 * n_ + 1) "through_over" [.b, .f] (d_t_through_over d_rec_) (fun a => a) (fun a => []) false := by
  obtain ⟨fa, fd, F, B, M⟩ := h.f_t_through_over
  refine ⟨fa, fd, _, fn_D (k := 3 + 2 * n_) F sc_t_through_over rfl 0 (fun _ => rfl) rfl (fun X en cdv A outer s H E ds hX hr hn hL hp hl => ?_), M, F.kp, B⟩
  have hnd := (sc_t_through_over).nd
  subst hX
  obtain ⟨v_0, v_1, rfl⟩ := len2 hl
  unfold d_t_through_over
  exact (jss_cons (js_set 2 hnd (je_non (⟨[.bw v_0, .fr v_1, .fr D.non, .un, .un, .un, .un, .un, .un, .un], rfl, rfl, rfl,
      jss_cons (js_set 3 hnd (je_dnew (⟨[.bw v_0, .fr v_1, .fr D.non, .mu (.dic ([] : List (Key × D))), .un, .un, .un, .un, .un, .un], rfl, rfl, rfl,
      jss_cons (js_set 4 hnd (je_fld _ h.a_s8_times (je_bw 0 rfl (⟨_, _, rfl, rfl, fun t1 =>
      ⟨[.bw v_0, .fr v_1, .fr D.non, .mu (.dic ([] : List (Key × D))), .fr t1, .un, .un, .un, .un, .un], rfl, rfl, rfl,
      jss_cons (js_whileS (fun (s3 : D × D × List (Key × D) × D) => [.bw v_0, .fr s3.1, .fr s3.2.1, .mu (.dic s3.2.2.1), .fr s3.2.2.2, .un, .un, .un, .un, .un]) hp ⟨_, _, _, _, _, rfl, (le_s (le_s (le_s (le_s (le_s (le_s (le_s (le_s (le_s (le_s (le_n))))))))))), fun _ he2 s3 => jt_cmp cmp_gtD rfl (je_fr 4 rfl (je_int (⟨_, _, _, rfl, rfl, rfl, fun b4 =>
      ⟨rfl, (le_s (le_s (le_s (le_s (le_s (le_s (le_s (le_s (le_s (le_s (le_n)))))))))))⟩⟩))), fun _ he2 s3 =>
      jss_cons (js_set 5 hnd (je_fr 1 rfl (⟨[.bw v_0, .fr s3.1, .fr s3.2.1, .mu (.dic s3.2.2.1), .fr s3.2.2.2, .fr s3.1, .un, .un, .un, .un], rfl, rfl, rfl,
      jss_cons (js_asg (je_call (ih) (hr.mono (by omega)) (he2.lk hL) (ja_cons (je_fld _ h.a_s8_parts (je_bw 0 rfl (⟨_, _, rfl, rfl, fun t5 =>
      ja_cons (je_fr 1 rfl (ja_nil (⟨_, [], _, fun a6 => [.bw v_0, .fr s3.1, .fr s3.2.1, .mu (.dic s3.2.2.1), .fr s3.2.2.2, .fr s3.1, .un, .un, .un, .un], rfl, rfl, List.nodup_nil, rfl, fun _ => rfl, fun a6 _ =>
      ⟨_, [1, 6, 7], rfl, jg_tup3 rfl ⟨_, rfl, fun p7 =>
      jgs_name 1 [.bw v_0, .fr p7.1, .fr s3.2.1, .mu (.dic s3.2.2.1), .fr s3.2.2.2, .fr s3.1, .un, .un, .un, .un] hnd (jgs_name 6 [.bw v_0, .fr p7.1, .fr s3.2.1, .mu (.dic s3.2.2.1), .fr s3.2.2.2, .fr s3.1, .fr p7.2.1, .un, .un, .un] hnd (jgs_name 7 [.bw v_0, .fr p7.1, .fr s3.2.1, .mu (.dic s3.2.2.1), .fr s3.2.2.2, .fr s3.1, .fr p7.2.1, .fr p7.2.2, .un, .un] hnd (jgs_nil (jss_cons (js_set 8 hnd (je_bin op_subD (je_fr 1 rfl (je_fr 5 rfl (⟨_, _, _, rfl, rfl, rfl, fun t8 _ =>
      ⟨[.bw v_0, .fr p7.1, .fr s3.2.1, .mu (.dic s3.2.2.1), .fr s3.2.2.2, .fr s3.1, .fr p7.2.1, .fr p7.2.2, .fr t8, .un], rfl, rfl, rfl,
      jss_cons (js_set 9 hnd (je_join (fun (a9 : D) => .fr a9) (fun a9 => [.bw v_0, .fr p7.1, .fr s3.2.1, .mu (.dic s3.2.2.1), .fr s3.2.2.2, .fr s3.1, .fr p7.2.1, .fr p7.2.2, .fr t8, .un]) (je_if (jt_join (fun (a10 : Bool) => a10) (fun a10 => [.bw v_0, .fr p7.1, .fr s3.2.1, .mu (.dic s3.2.2.1), .fr s3.2.2.2, .fr s3.1, .fr p7.2.1, .fr p7.2.2, .fr t8, .un]) (jt_w (jw_or (jt_cmp cmp_isN rfl (je_fr 6 rfl (je_non (⟨_, _, _, rfl, rfl, rfl, fun b11 =>
      ⟨_, _, rfl, ⟨_, rfl, rfl, rfl⟩, jw_or1 (jt_cmp (cmp_eqD hr.hu) rfl (je_fr 8 rfl (je_int (⟨_, _, _, rfl, rfl, rfl, fun b12 =>
      ⟨_, rfl, rfl, rfl⟩⟩))))⟩⟩)))))) (fun a10 =>
      ⟨_, _, rfl, je_bin op_subD (je_fr 4 rfl (je_int (⟨_, _, _, rfl, rfl, rfl, fun t13 _ =>
      ⟨_, rfl, rfl, rfl⟩⟩))), je_callB (c_min2 rfl) h.n_min (ja_cons (je_bin op_subD (je_fr 4 rfl (je_int (⟨_, _, _, rfl, rfl, rfl, fun t14 _ =>
      ja_cons (je_bin op_fdivD (je_fr 6 rfl (je_fr 8 rfl (⟨_, _, _, rfl, rfl, rfl, fun t15 _ =>
      ja_nil (⟨_, _, rfl, rfl, fun t16 _ =>
      ⟨_, rfl, rfl, rfl⟩⟩)⟩))))⟩)))))⟩))) (fun a9 =>
      ⟨[.bw v_0, .fr p7.1, .fr s3.2.1, .mu (.dic s3.2.2.1), .fr s3.2.2.2, .fr s3.1, .fr p7.2.1, .fr p7.2.2, .fr t8, .fr a9], rfl, rfl, rfl,
      jss_cons (js_aug 1 hnd ip_addD rfl (je_bin op_mulD (je_fr 9 rfl (je_fr 8 rfl (⟨_, _, _, rfl, rfl, rfl, fun t17 _ =>
      ⟨_, _, fun t18 => [.bw v_0, .fr t18, .fr s3.2.1, .mu (.dic s3.2.2.1), .fr s3.2.2.2, .fr s3.1, .fr p7.2.1, .fr p7.2.2, .fr t8, .fr a9], rfl, rfl, rfl, fun _ => rfl, fun t18 _ =>
      jss_cons (js_set 2 hnd (je_call (ok_t_lesser_slack h) (hr.mono (by omega)) (he2.lk hL) (ja_cons (je_fr 2 rfl (ja_cons (je_join (fun (a19 : D) => .fr a19) (fun a19 => [.bw v_0, .fr t18, .fr s3.2.1, .mu (.dic s3.2.2.1), .fr s3.2.2.2, .fr s3.1, .fr p7.2.1, .fr p7.2.2, .fr t8, .fr a9]) (je_if (jt_cmp cmp_isN rfl (je_fr 6 rfl (je_non (⟨_, _, _, rfl, rfl, rfl, fun b20 =>
      ⟨_, _, rfl, je_non (⟨_, rfl, rfl, rfl⟩), je_bin op_subD (je_fr 6 rfl (je_bin op_mulD (je_fr 9 rfl (je_fr 8 rfl (⟨_, _, _, rfl, rfl, rfl, fun t21 _ =>
      ⟨_, _, _, rfl, rfl, rfl, fun t22 _ =>
      ⟨_, rfl, rfl, rfl⟩⟩⟩)))))⟩⟩))))) (fun a19 =>
      ja_nil (⟨_, [], _, fun a23 => [.bw v_0, .fr t18, .fr s3.2.1, .mu (.dic s3.2.2.1), .fr s3.2.2.2, .fr s3.1, .fr p7.2.1, .fr p7.2.2, .fr t8, .fr a9], rfl, rfl, List.nodup_nil, rfl, fun _ => rfl, fun a23 _ =>
      ⟨[.bw v_0, .fr t18, .fr a23, .mu (.dic s3.2.2.1), .fr s3.2.2.2, .fr s3.1, .fr p7.2.1, .fr p7.2.2, .fr t8, .fr a9], rfl, rfl, rfl,
      jss_cons (js_expr (je_call (ok_t_add_counts h) (hr.mono (by omega)) (he2.lk hL) (ja_cons (je_bo 3 rfl (.inl ⟨_, rfl⟩) (ja_cons (je_fr 7 rfl (ja_cons (je_bin op_addD (je_fr 9 rfl (je_int (⟨_, _, _, rfl, rfl, rfl, fun t24 _ =>
      ja_nil (⟨_, [3], _, fun a25 => [.bw v_0, .fr t18, .fr a23, .mu (.dic a25.2), .fr s3.2.2.2, .fr s3.1, .fr p7.2.1, .fr p7.2.2, .fr t8, .fr a9], rfl, rfl, nd1, rfl, fun _ => rfl, fun a25 _ =>
      jss_one (js_aug 4 hnd ip_subD rfl (je_bin op_addD (je_fr 9 rfl (je_int (⟨_, _, _, rfl, rfl, rfl, fun t26 _ =>
      ⟨_, _, fun t27 => [.bw v_0, .fr t18, .fr a23, .mu (.dic a25.2), .fr t27, .fr s3.1, .fr p7.2.1, .fr p7.2.2, .fr t8, .fr a9], rfl, rfl, rfl, fun _ => rfl, fun t27 _ =>
      ⟨_, rfl, (le_s (le_s (le_s (le_s (le_s (le_u (le_u (le_u (le_u (le_u (le_n)))))))))))⟩⟩⟩)))))⟩)⟩)))))))))))⟩⟩))))))))⟩⟩)))))⟩)))⟩⟩)))))))))⟩⟩⟩)))⟩))))))⟩))), fun s28 =>
      jss_one (js_ret (je_tup (ja_cons (je_fr 1 rfl (ja_cons (je_fr 2 rfl (ja_cons (je_fzv' 3 [.bw v_0, .fr s28.1, .fr s28.2.1, .fr (D.dic s28.2.2.1), .fr s28.2.2.2, .un, .un, .un, .un, .un] rfl rfl (ja_nil (⟨_, rfl, rfl, ⟨_, rfl, rfl, oa_n⟩⟩))))))))))⟩)⟩⟩))))⟩)))⟩))))

def d_t_through : Nat → List D → Res (D)
  | 0, _ => .bad
  | n_ + 1, [v_0, v_1] =>
      op (revD v_0) fun t2 =>
      op (asL t2) fun ds1 =>
      (forS ds1 ((v_1, D.non, ([] : List (Key × D))) : D × D × List (Key × D)) fun d5 s4 =>
      ((op (isO ["Over", "Spot"] "Spot" d5) fun b9 =>
      if b9 = true then (op (fldD ["Spot"] "s8_said" d5) fun t10 =>
      (d_t_word_of [t10, s4.1]).bind fun a11 =>
      op (un2 a11) fun p12 =>
      op (ixD p12.1 (D.int 1)) fun t13 =>
      op (iaddD s4.1 t13) fun t14 =>
      op (fldD ["Spot"] "s8_number" d5) fun t15 =>
      op (pairD [(t15, p12.1)]) fun ks16 =>
      .ok (t14, p12.2, (D.dic (mergeD [] ks16)))) else ((d_t_through_over (d_t_through n_) [d5, s4.1]).bind fun a17 =>
      op (un3 a17) fun p18 =>
      .ok (p18.1, p18.2.1, p18.2.2)) : Res (D × D × D))).bind fun s6 =>
      (d_t_add_counts [(D.dic s4.2.2), s6.2.2, (D.int 1)]).bind fun a7 =>
      (d_t_lesser_slack [s4.2.1, s6.2.1]).bind fun a8 =>
      .ok (s6.1, a8, a7.2)).bind fun s19 =>
      .ok (D.tup [s19.1, s19.2.1, (D.dic s19.2.2)])
  | _ + 1, _ => .bad
abbrev n_t_through : List Str := ["parts", "number", "slack", "counts", "part", "pair", "own", "more"]
theorem sc_t_through : FnScope n_t_through ["parts", "number"] (defScope (topS 26)) := ⟨rfl, rfl, rfl, by decide +kernel, rfl, by decide +kernel, by decide +kernel⟩
theorem ok_t_through (h : Txt K mg) : ∀ n : Nat, Df P w K mg base (3 + 2 * n) "through" [.b, .f] (d_t_through n) (fun a => a) (fun a => []) false
  | 0 => by
    obtain ⟨fa, fd, F, B, M⟩ := h.f_t_through
    refine ⟨fa, fd, _, fn_D (k := 2) F sc_t_through rfl 0 (fun _ => rfl) rfl (fun X en cdv A outer s H E ds hX hr hn hL hp hl => ?_), M, F.kp, B⟩
    exact jss_never
  | n_ + 1 => by
    have ih := ok_t_through h n_
    obtain ⟨fa, fd, F, B, M⟩ := h.f_t_through
    refine ⟨fa, fd, _, fn_D (k := 3 + 2 * n_ + 1) F sc_t_through rfl 0 (fun _ => rfl) rfl (fun X en cdv A outer s H E ds hX hr hn hL hp hl => ?_), M, F.kp, B⟩
    have hnd := (sc_t_through).nd
    subst hX
    obtain ⟨v_0, v_1, rfl⟩ := len2 hl
    unfold d_t_through
    exact (jss_cons (js_set 2 hnd (je_non (⟨[.bw v_0, .fr v_1, .fr D.non, .un, .un, .un, .un, .un], rfl, rfl, rfl,
      jss_cons (js_set 3 hnd (je_dnew (⟨[.bw v_0, .fr v_1, .fr D.non, .mu (.dic ([] : List (Key × D))), .un, .un, .un, .un], rfl, rfl, rfl,
      jss_cons (js_forS hp rfl (ji_any (je_rev (je_bw 0 rfl (⟨_, _, rfl, rfl, fun t2 =>
      ⟨_, _, rfl, rfl, fun ds1 =>
      ⟨_, _, _, (fun (s4 : D × D × List (Key × D)) => [.bw v_0, .fr s4.1, .fr s4.2.1, .mu (.dic s4.2.2), .un, .un, .un, .un]), rfl, (le_s (le_s (le_s (le_s (le_s (le_s (le_s (le_s (le_n))))))))), fun _ he3 d5 s4 => ⟨[4], jg_name 4 [.bw v_0, .fr s4.1, .fr s4.2.1, .mu (.dic s4.2.2), .fr d5, .un, .un, .un] hnd (jss_cons (js_joinS (fun (s6 : D × D × D) => [.bw v_0, .fr s6.1, .fr s4.2.1, .mu (.dic s4.2.2), .fr d5, .un, .fr s6.2.1, .fr s6.2.2]) (js_if (jt_bl (je_isO h.n_isinstance h.ko_Spot (je_fr 4 rfl (⟨_, _, rfl, rfl, fun b9 =>
      ⟨_, rfl, ⟨_, _, rfl, jss_cons (js_asg (je_call (ok_t_word_of h) (hr.mono (by omega)) (he3.lk hL) (ja_cons (je_fld _ h.a_s8_said (je_fr 4 rfl (⟨_, _, rfl, rfl, fun t10 =>
      ja_cons (je_fr 1 rfl (ja_nil (⟨_, [], _, fun a11 => [.bw v_0, .fr s4.1, .fr s4.2.1, .mu (.dic s4.2.2), .fr d5, .un, .un, .un], rfl, rfl, List.nodup_nil, rfl, fun _ => rfl, fun a11 _ =>
      ⟨_, [5, 6], rfl, jg_tup2 rfl ⟨_, rfl, fun p12 =>
      jgs_name 5 [.bw v_0, .fr s4.1, .fr s4.2.1, .mu (.dic s4.2.2), .fr d5, .fr p12.1, .un, .un] hnd (jgs_name 6 [.bw v_0, .fr s4.1, .fr s4.2.1, .mu (.dic s4.2.2), .fr d5, .fr p12.1, .fr p12.2, .un] hnd (jgs_nil (jss_cons (js_aug 1 hnd ip_addD rfl (je_ix ix_D (fun _ _ => rfl) (je_fr 5 rfl (je_gi h.g_TRUE (⟨_, _, _, rfl, rfl, rfl, fun t13 _ =>
      ⟨_, _, fun t14 => [.bw v_0, .fr t14, .fr s4.2.1, .mu (.dic s4.2.2), .fr d5, .fr p12.1, .fr p12.2, .un], rfl, rfl, rfl, fun _ => rfl, fun t14 _ =>
      jss_one (js_set 7 hnd (je_fz (je_dic (jp_cons (je_fld _ h.a_s8_number (je_fr 4 rfl (⟨_, _, rfl, rfl, fun t15 =>
      ⟨_, rfl, je_fr 5 rfl (⟨_, rfl, jp_nil ⟨_, rfl, fun ks16 =>
      ⟨[.bw v_0, .fr t14, .fr s4.2.1, .mu (.dic s4.2.2), .fr d5, .fr p12.1, .fr p12.2, .fr (D.dic (mergeD [] ks16))], rfl, rfl, rfl,
      ⟨_, rfl, (le_s (le_s (le_s (le_s (le_s (le_u (le_s (le_s (le_n)))))))))⟩⟩⟩⟩)⟩⟩)))))))⟩⟩))))))))⟩⟩⟩)))⟩)))))), jss_one (js_asg (je_call (ok_t_through_over h n_ _ ih) (hr.mono (by omega)) (he3.lk hL) (ja_cons (je_fr 4 rfl (ja_cons (je_fr 1 rfl (ja_nil (⟨_, [], _, fun a17 => [.bw v_0, .fr s4.1, .fr s4.2.1, .mu (.dic s4.2.2), .fr d5, .un, .un, .un], rfl, rfl, List.nodup_nil, rfl, fun _ => rfl, fun a17 _ =>
      ⟨_, [1, 6, 7], rfl, jg_tup3 rfl ⟨_, rfl, fun p18 =>
      jgs_name 1 [.bw v_0, .fr p18.1, .fr s4.2.1, .mu (.dic s4.2.2), .fr d5, .un, .un, .un] hnd (jgs_name 6 [.bw v_0, .fr p18.1, .fr s4.2.1, .mu (.dic s4.2.2), .fr d5, .un, .fr p18.2.1, .un] hnd (jgs_name 7 [.bw v_0, .fr p18.1, .fr s4.2.1, .mu (.dic s4.2.2), .fr d5, .un, .fr p18.2.1, .fr p18.2.2] hnd (jgs_nil (⟨_, rfl, (le_s (le_s (le_s (le_s (le_s (le_s (le_s (le_s (le_n)))))))))⟩))))⟩⟩⟩))))))))⟩⟩⟩))))) (fun s6 =>
      jss_cons (js_expr (je_call (ok_t_add_counts h) (hr.mono (by omega)) (he3.lk hL) (ja_cons (je_bo 3 rfl (.inl ⟨_, rfl⟩) (ja_cons (je_fr 7 rfl (ja_cons (je_int (ja_nil (⟨_, [3], _, fun a7 => [.bw v_0, .fr s6.1, .fr s4.2.1, .mu (.dic a7.2), .fr d5, .un, .fr s6.2.1, .fr s6.2.2], rfl, rfl, nd1, rfl, fun _ => rfl, fun a7 _ =>
      jss_one (js_set 2 hnd (je_call (ok_t_lesser_slack h) (hr.mono (by omega)) (he3.lk hL) (ja_cons (je_fr 2 rfl (ja_cons (je_fr 6 rfl (ja_nil (⟨_, [], _, fun a8 => [.bw v_0, .fr s6.1, .fr s4.2.1, .mu (.dic a7.2), .fr d5, .un, .fr s6.2.1, .fr s6.2.2], rfl, rfl, List.nodup_nil, rfl, fun _ => rfl, fun a8 _ =>
      ⟨[.bw v_0, .fr s6.1, .fr a8, .mu (.dic a7.2), .fr d5, .un, .fr s6.2.1, .fr s6.2.2], rfl, rfl, rfl,
      ⟨_, rfl, (le_s (le_s (le_s (le_s (le_u (le_s (le_u (le_u (le_n)))))))))⟩⟩⟩))))))))⟩)))))))))))))⟩, fun s19 =>
      jss_one (js_ret (je_tup (ja_cons (je_fr 1 rfl (ja_cons (je_fr 2 rfl (ja_cons (je_fzv' 3 [.bw v_0, .fr s19.1, .fr s19.2.1, .fr (D.dic s19.2.2), .un, .un, .un, .un] rfl rfl (ja_nil (⟨_, rfl, rfl, ⟨_, rfl, rfl, oa_n⟩⟩))))))))))⟩⟩⟩)))))⟩)))⟩))))

def d_t_times_until : List D → Res (D)
  | [v_0, v_1, v_2] =>
      (d_t_parts_of [v_0]).bind fun a1 =>
      (d_t_need_number [v_1]).bind fun a2 =>
      (d_t_need_number [v_2]).bind fun a3 =>
      fbind (whileF 10000000000000000000000000000000000000000 ((v_1, (D.int 0)) : D × D) (fun s5 => op (ltD s5.1 v_2) fun b6 =>
      .ok b6) (fun s5 =>
      (d_t_through 8 [a1, s5.1]).bind fun a7 =>
      op (un3 a7) fun p8 =>
      op (subD p8.1 s5.1) fun t9 =>
      op (eqD t9 (D.int 0)) fun b10 =>
      if b10 = true then (.ok (.rt (D.non))) else (op (subD v_2 p8.1) fun t11 =>
      op (addD t11 t9) fun t12 =>
      op (subD t12 (D.int 1)) fun t13 =>
      op (max2D [(D.int 0), t13]) fun t14 =>
      op (fdivD t14 t9) fun t15 =>
      ((op (isND p8.2.1 D.non) fun b17 =>
      if b17 = true then (.ok t15) else (op (fdivD p8.2.1 t9) fun t18 =>
      op (min2D [t15, t18]) fun t19 =>
      .ok t19) : Res (D))).bind fun a16 =>
      op (mulD a16 t9) fun t20 =>
      op (iaddD p8.1 t20) fun t21 =>
      op (addD a16 (D.int 1)) fun t22 =>
      op (iaddD s5.2 t22) fun t23 =>
      .ok (.nx (t21, t23))))) fun s24 =>
      .ok s24.2  | _ => .bad
abbrev n_t_times_until : List Str := ["long", "company", "total", "parts", "number", "times", "ahead", "slack", "counts", "grown", "more"]
theorem sc_t_times_until : FnScope n_t_times_until ["long", "company", "total"] (defScope (topS 30)) := ⟨rfl, rfl, rfl, by decide +kernel, rfl, by decide +kernel, by decide +kernel⟩
theorem ok_t_times_until (h : Txt K mg) : Df P w K mg base 24 "times_until" [.b, .f, .b] d_t_times_until (fun a => a) (fun a => []) false := by
  obtain ⟨fa, fd, F, B, M⟩ := h.f_t_times_until
  refine ⟨fa, fd, _, fn_D (k := 23) F sc_t_times_until rfl 0 (fun _ => rfl) rfl (fun X en cdv A outer s H E ds hX hr hn hL hp hl => ?_), M, F.kp, B⟩
  have hnd := (sc_t_times_until).nd
  subst hX
  obtain ⟨v_0, v_1, v_2, rfl⟩ := len3 hl
  unfold d_t_times_until
  exact (jss_cons (js_set 3 hnd (je_call (ok_t_parts_of h) (hr.mono (by decide)) hL (ja_cons (je_bw 0 rfl (ja_nil (⟨_, [], _, fun a1 => [.bw v_0, .fr v_1, .bw v_2, .un, .un, .un, .un, .un, .un, .un, .un], rfl, rfl, List.nodup_nil, rfl, fun _ => rfl, fun a1 _ =>
      ⟨[.bw v_0, .fr v_1, .bw v_2, .fr a1, .un, .un, .un, .un, .un, .un, .un], rfl, rfl, rfl,
      jss_cons (js_expr (je_call (ok_t_need_number h) (hr.mono (by decide)) hL (ja_cons (je_fr 1 rfl (ja_nil (⟨_, [], _, fun a2 => [.bw v_0, .fr v_1, .bw v_2, .fr a1, .un, .un, .un, .un, .un, .un, .un], rfl, rfl, List.nodup_nil, rfl, fun _ => rfl, fun a2 _ =>
      jss_cons (js_expr (je_call (ok_t_need_number h) (hr.mono (by decide)) hL (ja_cons (je_bw 2 rfl (ja_nil (⟨_, [], _, fun a3 => [.bw v_0, .fr v_1, .bw v_2, .fr a1, .un, .un, .un, .un, .un, .un, .un], rfl, rfl, List.nodup_nil, rfl, fun _ => rfl, fun a3 _ =>
      jss_cons (js_set 4 hnd (je_fr 1 rfl (⟨[.bw v_0, .fr v_1, .bw v_2, .fr a1, .fr v_1, .un, .un, .un, .un, .un, .un], rfl, rfl, rfl,
      jss_cons (js_set 5 hnd (je_int (⟨[.bw v_0, .fr v_1, .bw v_2, .fr a1, .fr v_1, .fr (D.int 0), .un, .un, .un, .un, .un], rfl, rfl, rfl,
      jss_cons (js_while (fun (s5 : D × D) => [.bw v_0, .fr v_1, .bw v_2, .fr a1, .fr s5.1, .fr s5.2, .un, .un, .un, .un, .un]) hp ⟨_, _, _, _, _, rfl, (le_s (le_s (le_s (le_s (le_s (le_s (le_s (le_s (le_s (le_s (le_s (le_n)))))))))))), fun _ he4 s5 => jt_cmp cmp_ltD rfl (je_fr 4 rfl (je_bw 2 rfl (⟨_, _, _, rfl, rfl, rfl, fun b6 =>
      ⟨rfl, (le_s (le_s (le_s (le_s (le_s (le_s (le_s (le_s (le_s (le_s (le_s (le_n))))))))))))⟩⟩))), fun _ he4 s5 =>
      jss_cons (js_set 6 hnd (je_fr 4 rfl (⟨[.bw v_0, .fr v_1, .bw v_2, .fr a1, .fr s5.1, .fr s5.2, .fr s5.1, .un, .un, .un, .un], rfl, rfl, rfl,
      jss_cons (js_asg (je_call (ok_t_through h 8) (hr.mono (by decide)) (he4.lk hL) (ja_cons (je_fr 3 rfl (ja_cons (je_fr 4 rfl (ja_nil (⟨_, [], _, fun a7 => [.bw v_0, .fr v_1, .bw v_2, .fr a1, .fr s5.1, .fr s5.2, .fr s5.1, .un, .un, .un, .un], rfl, rfl, List.nodup_nil, rfl, fun _ => rfl, fun a7 _ =>
      ⟨_, [4, 7, 8], rfl, jg_tup3 rfl ⟨_, rfl, fun p8 =>
      jgs_name 4 [.bw v_0, .fr v_1, .bw v_2, .fr a1, .fr p8.1, .fr s5.2, .fr s5.1, .un, .un, .un, .un] hnd (jgs_name 7 [.bw v_0, .fr v_1, .bw v_2, .fr a1, .fr p8.1, .fr s5.2, .fr s5.1, .fr p8.2.1, .un, .un, .un] hnd (jgs_name 8 [.bw v_0, .fr v_1, .bw v_2, .fr a1, .fr p8.1, .fr s5.2, .fr s5.1, .fr p8.2.1, .fr p8.2.2, .un, .un] hnd (jgs_nil (jss_cons (js_set 9 hnd (je_bin op_subD (je_fr 4 rfl (je_fr 6 rfl (⟨_, _, _, rfl, rfl, rfl, fun t9 _ =>
      ⟨[.bw v_0, .fr v_1, .bw v_2, .fr a1, .fr p8.1, .fr s5.2, .fr s5.1, .fr p8.2.1, .fr p8.2.2, .fr t9, .un], rfl, rfl, rfl,
      jss_cons (js_if (jt_cmp (cmp_eqD hr.hu) rfl (je_fr 9 rfl (je_int (⟨_, _, _, rfl, rfl, rfl, fun b10 =>
      ⟨_, _, rfl, jss_one (js_ret (je_non (⟨_, rfl, ⟨_, rfl, rfl, oa_n⟩⟩))), jss_nil (jss_cons (js_set 10 hnd (je_bin op_fdivD (je_callB (c_max2 rfl) h.n_max (ja_cons (je_int (ja_cons (je_bin op_subD (je_bin op_addD (je_bin op_subD (je_bw 2 rfl (je_fr 4 rfl (⟨_, _, _, rfl, rfl, rfl, fun t11 _ =>
      je_fr 9 rfl (⟨_, _, _, rfl, rfl, rfl, fun t12 _ =>
      je_int (⟨_, _, _, rfl, rfl, rfl, fun t13 _ =>
      ja_nil (⟨_, _, rfl, rfl, fun t14 _ =>
      je_fr 9 rfl (⟨_, _, _, rfl, rfl, rfl, fun t15 _ =>
      ⟨[.bw v_0, .fr v_1, .bw v_2, .fr a1, .fr p8.1, .fr s5.2, .fr s5.1, .fr p8.2.1, .fr p8.2.2, .fr t9, .fr t15], rfl, rfl, rfl,
      jss_cons (js_set 10 hnd (je_join (fun (a16 : D) => .fr a16) (fun a16 => [.bw v_0, .fr v_1, .bw v_2, .fr a1, .fr p8.1, .fr s5.2, .fr s5.1, .fr p8.2.1, .fr p8.2.2, .fr t9, .fr t15]) (je_if (jt_cmp cmp_isN rfl (je_fr 7 rfl (je_non (⟨_, _, _, rfl, rfl, rfl, fun b17 =>
      ⟨_, _, rfl, je_fr 10 rfl (⟨_, rfl, rfl, rfl⟩), je_callB (c_min2 rfl) h.n_min (ja_cons (je_fr 10 rfl (ja_cons (je_bin op_fdivD (je_fr 7 rfl (je_fr 9 rfl (⟨_, _, _, rfl, rfl, rfl, fun t18 _ =>
      ja_nil (⟨_, _, rfl, rfl, fun t19 _ =>
      ⟨_, rfl, rfl, rfl⟩⟩)⟩)))))))⟩⟩))))) (fun a16 =>
      ⟨[.bw v_0, .fr v_1, .bw v_2, .fr a1, .fr p8.1, .fr s5.2, .fr s5.1, .fr p8.2.1, .fr p8.2.2, .fr t9, .fr a16], rfl, rfl, rfl,
      jss_cons (js_aug 4 hnd ip_addD rfl (je_bin op_mulD (je_fr 10 rfl (je_fr 9 rfl (⟨_, _, _, rfl, rfl, rfl, fun t20 _ =>
      ⟨_, _, fun t21 => [.bw v_0, .fr v_1, .bw v_2, .fr a1, .fr t21, .fr s5.2, .fr s5.1, .fr p8.2.1, .fr p8.2.2, .fr t9, .fr a16], rfl, rfl, rfl, fun _ => rfl, fun t21 _ =>
      jss_one (js_aug 5 hnd ip_addD rfl (je_bin op_addD (je_fr 10 rfl (je_int (⟨_, _, _, rfl, rfl, rfl, fun t22 _ =>
      ⟨_, _, fun t23 => [.bw v_0, .fr v_1, .bw v_2, .fr a1, .fr t21, .fr t23, .fr s5.1, .fr p8.2.1, .fr p8.2.2, .fr t9, .fr a16], rfl, rfl, rfl, fun _ => rfl, fun t23 _ =>
      ⟨_, rfl, (le_s (le_s (le_s (le_s (le_s (le_s (le_u (le_u (le_u (le_u (le_u (le_n))))))))))))⟩⟩⟩)))))⟩⟩)))))⟩)))⟩⟩)⟩)⟩)⟩)⟩)))))))))))))⟩⟩)))))⟩⟩)))))))))⟩⟩⟩))))))))⟩))), fun s24 =>
      jss_one (js_ret (je_fr 5 rfl (⟨_, rfl, rfl, oa_n⟩)))⟩)⟩)))⟩)))⟩))))))⟩))))))⟩⟩)))))))

def d_t_rest_of : List D → Res (D)
  | [v_0, v_1] =>
      (d_t_parts_of [v_0]).bind fun a1 =>
      (d_t_need_number [v_1]).bind fun a2 =>
      (d_t_through 8 [a1, v_1]).bind fun a3 =>
      op (un3 a3) fun p4 =>
      fbind (whileF 10000000000000000000000000000000000000000 ((v_1, (D.int 0), p4.1, p4.2.1, p4.2.2) : D × D × D × D × D) (fun s6 => op (gtD s6.2.2.1 s6.1) fun b7 =>
      .ok b7) (fun s6 =>
      op (isND s6.2.2.2.1 D.non) fun b8 =>
      if b8 = true then (.ok (.rt (D.non))) else (op (subD s6.2.2.1 s6.1) fun t9 =>
      op (fdivD s6.2.2.2.1 t9) fun t10 =>
      op (addD t10 (D.int 1)) fun t11 =>
      op (iaddD s6.2.1 t11) fun t12 =>
      op (fdivD s6.2.2.2.1 t9) fun t13 =>
      op (mulD t13 t9) fun t14 =>
      op (addD s6.2.2.1 t14) fun t15 =>
      (d_t_through 8 [a1, t15]).bind fun a16 =>
      op (un3 a16) fun p17 =>
      .ok (.nx (t15, t12, p17.1, p17.2.1, p17.2.2))))) fun s18 =>
      .ok (D.tup [s18.2.1, s18.1])  | _ => .bad
abbrev n_t_rest_of : List Str := ["long", "company", "parts", "number", "times", "later", "slack", "counts", "grown"]
theorem sc_t_rest_of : FnScope n_t_rest_of ["long", "company"] (defScope (topS 31)) := ⟨rfl, rfl, rfl, by decide +kernel, rfl, by decide +kernel, by decide +kernel⟩
theorem ok_t_rest_of (h : Txt K mg) : Df P w K mg base 24 "rest_of" [.b, .f] d_t_rest_of (fun a => a) (fun a => []) false := by
  obtain ⟨fa, fd, F, B, M⟩ := h.f_t_rest_of
  refine ⟨fa, fd, _, fn_D (k := 23) F sc_t_rest_of rfl 0 (fun _ => rfl) rfl (fun X en cdv A outer s H E ds hX hr hn hL hp hl => ?_), M, F.kp, B⟩
  have hnd := (sc_t_rest_of).nd
  subst hX
  obtain ⟨v_0, v_1, rfl⟩ := len2 hl
  unfold d_t_rest_of
  exact (jss_cons (js_set 2 hnd (je_call (ok_t_parts_of h) (hr.mono (by decide)) hL (ja_cons (je_bw 0 rfl (ja_nil (⟨_, [], _, fun a1 => [.bw v_0, .fr v_1, .un, .un, .un, .un, .un, .un, .un], rfl, rfl, List.nodup_nil, rfl, fun _ => rfl, fun a1 _ =>
      ⟨[.bw v_0, .fr v_1, .fr a1, .un, .un, .un, .un, .un, .un], rfl, rfl, rfl,
      jss_cons (js_expr (je_call (ok_t_need_number h) (hr.mono (by decide)) hL (ja_cons (je_fr 1 rfl (ja_nil (⟨_, [], _, fun a2 => [.bw v_0, .fr v_1, .fr a1, .un, .un, .un, .un, .un, .un], rfl, rfl, List.nodup_nil, rfl, fun _ => rfl, fun a2 _ =>
      jss_cons (js_set 3 hnd (je_fr 1 rfl (⟨[.bw v_0, .fr v_1, .fr a1, .fr v_1, .un, .un, .un, .un, .un], rfl, rfl, rfl,
      jss_cons (js_set 4 hnd (je_int (⟨[.bw v_0, .fr v_1, .fr a1, .fr v_1, .fr (D.int 0), .un, .un, .un, .un], rfl, rfl, rfl,
      jss_cons (js_asg (je_call (ok_t_through h 8) (hr.mono (by decide)) hL (ja_cons (je_fr 2 rfl (ja_cons (je_fr 3 rfl (ja_nil (⟨_, [], _, fun a3 => [.bw v_0, .fr v_1, .fr a1, .fr v_1, .fr (D.int 0), .un, .un, .un, .un], rfl, rfl, List.nodup_nil, rfl, fun _ => rfl, fun a3 _ =>
      ⟨_, [5, 6, 7], rfl, jg_tup3 rfl ⟨_, rfl, fun p4 =>
      jgs_name 5 [.bw v_0, .fr v_1, .fr a1, .fr v_1, .fr (D.int 0), .fr p4.1, .un, .un, .un] hnd (jgs_name 6 [.bw v_0, .fr v_1, .fr a1, .fr v_1, .fr (D.int 0), .fr p4.1, .fr p4.2.1, .un, .un] hnd (jgs_name 7 [.bw v_0, .fr v_1, .fr a1, .fr v_1, .fr (D.int 0), .fr p4.1, .fr p4.2.1, .fr p4.2.2, .un] hnd (jgs_nil (jss_cons (js_while (fun (s6 : D × D × D × D × D) => [.bw v_0, .fr v_1, .fr a1, .fr s6.1, .fr s6.2.1, .fr s6.2.2.1, .fr s6.2.2.2.1, .fr s6.2.2.2.2, .un]) hp ⟨_, _, _, _, _, rfl, (le_s (le_s (le_s (le_s (le_s (le_s (le_s (le_s (le_s (le_n)))))))))), fun _ he5 s6 => jt_cmp cmp_gtD rfl (je_fr 5 rfl (je_fr 3 rfl (⟨_, _, _, rfl, rfl, rfl, fun b7 =>
      ⟨rfl, (le_s (le_s (le_s (le_s (le_s (le_s (le_s (le_s (le_s (le_n))))))))))⟩⟩))), fun _ he5 s6 =>
      jss_cons (js_if (jt_cmp cmp_isN rfl (je_fr 6 rfl (je_non (⟨_, _, _, rfl, rfl, rfl, fun b8 =>
      ⟨_, _, rfl, jss_one (js_ret (je_non (⟨_, rfl, ⟨_, rfl, rfl, oa_n⟩⟩))), jss_nil (jss_cons (js_set 8 hnd (je_bin op_subD (je_fr 5 rfl (je_fr 3 rfl (⟨_, _, _, rfl, rfl, rfl, fun t9 _ =>
      ⟨[.bw v_0, .fr v_1, .fr a1, .fr s6.1, .fr s6.2.1, .fr s6.2.2.1, .fr s6.2.2.2.1, .fr s6.2.2.2.2, .fr t9], rfl, rfl, rfl,
      jss_cons (js_aug 4 hnd ip_addD rfl (je_bin op_addD (je_bin op_fdivD (je_fr 6 rfl (je_fr 8 rfl (⟨_, _, _, rfl, rfl, rfl, fun t10 _ =>
      je_int (⟨_, _, _, rfl, rfl, rfl, fun t11 _ =>
      ⟨_, _, fun t12 => [.bw v_0, .fr v_1, .fr a1, .fr s6.1, .fr t12, .fr s6.2.2.1, .fr s6.2.2.2.1, .fr s6.2.2.2.2, .fr t9], rfl, rfl, rfl, fun _ => rfl, fun t12 _ =>
      jss_cons (js_set 3 hnd (je_bin op_addD (je_fr 5 rfl (je_bin op_mulD (je_bin op_fdivD (je_fr 6 rfl (je_fr 8 rfl (⟨_, _, _, rfl, rfl, rfl, fun t13 _ =>
      je_fr 8 rfl (⟨_, _, _, rfl, rfl, rfl, fun t14 _ =>
      ⟨_, _, _, rfl, rfl, rfl, fun t15 _ =>
      ⟨[.bw v_0, .fr v_1, .fr a1, .fr t15, .fr t12, .fr s6.2.2.1, .fr s6.2.2.2.1, .fr s6.2.2.2.2, .fr t9], rfl, rfl, rfl,
      jss_one (js_asg (je_call (ok_t_through h 8) (hr.mono (by decide)) (he5.lk hL) (ja_cons (je_fr 2 rfl (ja_cons (je_fr 3 rfl (ja_nil (⟨_, [], _, fun a16 => [.bw v_0, .fr v_1, .fr a1, .fr t15, .fr t12, .fr s6.2.2.1, .fr s6.2.2.2.1, .fr s6.2.2.2.2, .fr t9], rfl, rfl, List.nodup_nil, rfl, fun _ => rfl, fun a16 _ =>
      ⟨_, [5, 6, 7], rfl, jg_tup3 rfl ⟨_, rfl, fun p17 =>
      jgs_name 5 [.bw v_0, .fr v_1, .fr a1, .fr t15, .fr t12, .fr p17.1, .fr s6.2.2.2.1, .fr s6.2.2.2.2, .fr t9] hnd (jgs_name 6 [.bw v_0, .fr v_1, .fr a1, .fr t15, .fr t12, .fr p17.1, .fr p17.2.1, .fr s6.2.2.2.2, .fr t9] hnd (jgs_name 7 [.bw v_0, .fr v_1, .fr a1, .fr t15, .fr t12, .fr p17.1, .fr p17.2.1, .fr p17.2.2, .fr t9] hnd (jgs_nil (⟨_, rfl, (le_s (le_s (le_s (le_s (le_s (le_s (le_s (le_s (le_u (le_n))))))))))⟩))))⟩⟩⟩))))))))⟩⟩⟩)⟩))))))))⟩⟩)⟩))))))⟩⟩))))))⟩⟩))))), fun s18 =>
      jss_one (js_ret (je_tup (ja_cons (je_fr 4 rfl (ja_cons (je_fr 3 rfl (ja_nil (⟨_, rfl, rfl, ⟨_, rfl, rfl, oa_n⟩⟩))))))))⟩)))))⟩⟩⟩))))))))⟩)))⟩)))⟩))))))⟩⟩)))))))

def d_l_urn : List D → Res (List D)
  | [v_0, v_1] =>
      ((op (lenD [v_0]) fun t13 =>
      op (ltD v_1 t13) fun b14 =>
      if b14 = true then (op (ixD v_0 v_1) fun t15 =>
      .ok t15) else (.ok (D.int 0)) : Res (D))).bind fun s1 =>
      op (absD [s1]) fun t2 =>
      op (powD (D.int 10) (D.int 18)) fun t3 =>
      op (subD t2 t3) fun t4 =>
      op (max2D [(D.int 0), t4]) fun t5 =>
      op (powD (D.int 10) (D.int 41)) fun t6 =>
      op (addD t6 (D.int 3)) fun t7 =>
      op (modD s1 t7) fun t8 =>
      op (mulD t8 (D.int 128)) fun t9 =>
      op (mulD (D.int 3) v_1) fun t10 =>
      op (addD t9 t10) fun t11 =>
      op (addD t11 (D.int 1)) fun t12 =>
      .ok [t5, t12, (D.int 0)]  | _ => .bad
abbrev n_l_urn : List Str := ["_law_script", "_law_k", "_law_cell"]
theorem sc_l_urn : FnScope n_l_urn ["_law_script", "_law_k"] (defScope (topS 33)) := ⟨rfl, rfl, rfl, by decide +kernel, rfl, by decide +kernel, by decide +kernel⟩
theorem ok_l_urn (h : Txt K mg) : Df P w K mg base 1 "_law_urn" [.b, .b] d_l_urn (fun a => .lst a) (fun a => []) true := by
  obtain ⟨fa, fd, F, B, M⟩ := h.f_l_urn
  refine ⟨fa, fd, _, fn_D (k := 0) F sc_l_urn rfl 0 (fun _ => rfl) rfl (fun X en cdv A outer s H E ds hX hr hn hL hp hl => ?_), M, F.kp, B⟩
  have hnd := (sc_l_urn).nd
  subst hX
  obtain ⟨v_0, v_1, rfl⟩ := len2 hl
  unfold d_l_urn
  exact (jss_cons (js_set 2 hnd (je_int (⟨[.bw v_0, .bw v_1, .fr (D.int 0)], rfl, rfl, rfl,
      jss_cons (js_joinS (fun (s1 : D) => [.bw v_0, .bw v_1, .fr s1]) (js_if (jt_cmp cmp_ltD rfl (je_bw 1 rfl (je_callB c_len h.n_len (ja_cons (je_bw 0 rfl (ja_nil (⟨_, _, rfl, rfl, fun t13 _ =>
      ⟨_, _, _, rfl, rfl, rfl, fun b14 =>
      ⟨_, _, rfl, jss_one (js_set 2 hnd (je_ix ix_D (fun _ _ => rfl) (je_bw 0 rfl (je_bw 1 rfl (⟨_, _, _, rfl, rfl, rfl, fun t15 _ =>
      ⟨[.bw v_0, .bw v_1, .fr t15], rfl, rfl, rfl,
      ⟨_, rfl, (le_s (le_s (le_s (le_n))))⟩⟩⟩))))), jss_nil (⟨_, rfl, (le_s (le_s (le_s (le_n))))⟩)⟩⟩⟩)))))))) (fun s1 =>
      jss_one (js_ret (je_lst (ja_cons (je_callB (c_max2 rfl) h.n_max (ja_cons (je_int (ja_cons (je_bin op_subD (je_callB c_abs h.n_abs (ja_cons (je_fr 2 rfl (ja_nil (⟨_, _, rfl, rfl, fun t2 _ =>
      je_bin op_powD (je_int (je_int (⟨_, _, _, rfl, rfl, rfl, fun t3 _ =>
      ⟨_, _, _, rfl, rfl, rfl, fun t4 _ =>
      ja_nil (⟨_, _, rfl, rfl, fun t5 _ =>
      ja_cons (je_bin op_addD (je_bin op_addD (je_bin op_mulD (je_bin op_modD (je_fr 2 rfl (je_bin op_addD (je_bin op_powD (je_int (je_int (⟨_, _, _, rfl, rfl, rfl, fun t6 _ =>
      je_int (⟨_, _, _, rfl, rfl, rfl, fun t7 _ =>
      ⟨_, _, _, rfl, rfl, rfl, fun t8 _ =>
      je_int (⟨_, _, _, rfl, rfl, rfl, fun t9 _ =>
      je_bin op_mulD (je_int (je_bw 1 rfl (⟨_, _, _, rfl, rfl, rfl, fun t10 _ =>
      ⟨_, _, _, rfl, rfl, rfl, fun t11 _ =>
      je_int (⟨_, _, _, rfl, rfl, rfl, fun t12 _ =>
      ja_cons (je_int (ja_nil (⟨_, rfl, rfl, ⟨_, rfl, rfl, oa_n⟩⟩)))⟩)⟩⟩)))⟩)⟩⟩)⟩))))))))))⟩)⟩⟩)))⟩)))))))))))))))⟩))))

def d_l_ball : List D → Res (D × List D)
  | [.lst v_0, v_1] =>
      op (ixD (D.lst v_0) (D.int 0)) fun t1 =>
      op (gtD t1 (D.int 0)) fun b2 =>
      if b2 = true then (op (ixD (D.lst v_0) (D.int 0)) fun t3 =>
      op (modD t3 v_1) fun t4 =>
      op (ixD (D.lst v_0) (D.int 0)) fun t5 =>
      op (fdivD t5 v_1) fun t6 =>
      op (setL v_0 (D.int 0) t6) fun r7 =>
      .ok (t4, r7)) else (op (ixD (D.lst v_0) (D.int 2)) fun t8 =>
      op (addD t8 (D.int 1)) fun t9 =>
      op (setL v_0 (D.int 2) t9) fun r10 =>
      op (ixD (D.lst r10) (D.int 1)) fun t11 =>
      op (ixD (D.lst r10) (D.int 2)) fun t12 =>
      op (mulD (D.int 86028121) t12) fun t13 =>
      op (addD t11 t13) fun t14 =>
      op (powD t14 (D.int 3)) fun t15 =>
      op (powD (D.int 10) (D.int 43)) fun t16 =>
      op (addD t16 (D.int 61)) fun t17 =>
      op (modD t15 t17) fun t18 =>
      op (mulD t18 t18) fun t19 =>
      op (ixD (D.lst r10) (D.int 2)) fun t20 =>
      op (mulD (D.int 15485867) t20) fun t21 =>
      op (addD t19 t21) fun t22 =>
      op (addD t22 (D.int 5)) fun t23 =>
      op (powD (D.int 10) (D.int 42)) fun t24 =>
      op (addD t24 (D.int 11)) fun t25 =>
      op (modD t23 t25) fun t26 =>
      op (fdivD t26 (D.int 1299827)) fun t27 =>
      op (modD t27 v_1) fun t28 =>
      .ok (t28, r10))  | _ => .bad
abbrev n_l_ball : List Str := ["_law_urn_here", "_law_many", "_law_mixed", "_law_found"]
theorem sc_l_ball : FnScope n_l_ball ["_law_urn_here", "_law_many"] (defScope (topS 34)) := ⟨rfl, rfl, rfl, by decide +kernel, rfl, by decide +kernel, by decide +kernel⟩
theorem ok_l_ball (h : Txt K mg) : Df P w K mg base 1 "_law_ball" [.m, .b] d_l_ball (fun a => a.1) (fun a => [.lst a.2]) false := by
  obtain ⟨fa, fd, F, B, M⟩ := h.f_l_ball
  refine ⟨fa, fd, _, fn_D (k := 0) F sc_l_ball rfl 1 (fun _ => rfl) rfl (fun X en cdv A outer s H E ds hX hr hn hL hp hl => ?_), M, F.kp, B⟩
  have hnd := (sc_l_ball).nd
  subst hX
  obtain ⟨v_0, v_1, rfl⟩ := len2 hl
  cases v_0 <;> try exact jss_never
  rename_i v_0
  unfold d_l_ball
  exact (jss_cons (js_if (jt_cmp cmp_gtD rfl (je_ix ix_D (fun _ _ => rfl) (je_bo 0 rfl (.inr ⟨_, _, rfl⟩) (je_int (⟨_, _, _, rfl, rfl, rfl, fun t1 _ =>
      je_int (⟨_, _, _, rfl, rfl, rfl, fun b2 =>
      ⟨_, _, rfl, jss_cons (js_set 3 hnd (je_bin op_modD (je_ix ix_D (fun _ _ => rfl) (je_bo 0 rfl (.inr ⟨_, _, rfl⟩) (je_int (⟨_, _, _, rfl, rfl, rfl, fun t3 _ =>
      je_bw 1 rfl (⟨_, _, _, rfl, rfl, rfl, fun t4 _ =>
      ⟨[.mp 0 (.lst v_0), .bw v_1, .un, .fr t4], rfl, rfl, rfl,
      jss_cons (js_setL 0 (je_bin op_fdivD (je_ix ix_D (fun _ _ => rfl) (je_bo 0 rfl (.inr ⟨_, _, rfl⟩) (je_int (⟨_, _, _, rfl, rfl, rfl, fun t5 _ =>
      je_bw 1 rfl (⟨_, _, _, rfl, rfl, rfl, fun t6 _ =>
      ⟨_, _, rfl, rfl, rfl, je_int (⟨_, _, _, _, fun r7 => [.mp 0 (.lst r7), .bw v_1, .un, .fr t4], rfl, rfl, rfl, rfl, rfl, fun _ => rfl, fun r7 =>
      jss_one (js_ret (je_fr 3 rfl (⟨_, rfl, rfl, (oa_c 0 rfl oa_n)⟩)))⟩)⟩⟩)⟩))))))⟩⟩)⟩)))))), jss_nil (jss_cons (js_setL 0 (je_bin op_addD (je_ix ix_D (fun _ _ => rfl) (je_bo 0 rfl (.inr ⟨_, _, rfl⟩) (je_int (⟨_, _, _, rfl, rfl, rfl, fun t8 _ =>
      je_int (⟨_, _, _, rfl, rfl, rfl, fun t9 _ =>
      ⟨_, _, rfl, rfl, rfl, je_int (⟨_, _, _, _, fun r10 => [.mp 0 (.lst r10), .bw v_1, .un, .un], rfl, rfl, rfl, rfl, rfl, fun _ => rfl, fun r10 =>
      jss_cons (js_set 2 hnd (je_bin op_modD (je_bin op_powD (je_bin op_addD (je_ix ix_D (fun _ _ => rfl) (je_bo 0 rfl (.inr ⟨_, _, rfl⟩) (je_int (⟨_, _, _, rfl, rfl, rfl, fun t11 _ =>
      je_bin op_mulD (je_int (je_ix ix_D (fun _ _ => rfl) (je_bo 0 rfl (.inr ⟨_, _, rfl⟩) (je_int (⟨_, _, _, rfl, rfl, rfl, fun t12 _ =>
      ⟨_, _, _, rfl, rfl, rfl, fun t13 _ =>
      ⟨_, _, _, rfl, rfl, rfl, fun t14 _ =>
      je_int (⟨_, _, _, rfl, rfl, rfl, fun t15 _ =>
      je_bin op_addD (je_bin op_powD (je_int (je_int (⟨_, _, _, rfl, rfl, rfl, fun t16 _ =>
      je_int (⟨_, _, _, rfl, rfl, rfl, fun t17 _ =>
      ⟨_, _, _, rfl, rfl, rfl, fun t18 _ =>
      ⟨[.mp 0 (.lst r10), .bw v_1, .fr t18, .un], rfl, rfl, rfl,
      jss_cons (js_set 2 hnd (je_bin op_modD (je_bin op_addD (je_bin op_addD (je_bin op_mulD (je_fr 2 rfl (je_fr 2 rfl (⟨_, _, _, rfl, rfl, rfl, fun t19 _ =>
      je_bin op_mulD (je_int (je_ix ix_D (fun _ _ => rfl) (je_bo 0 rfl (.inr ⟨_, _, rfl⟩) (je_int (⟨_, _, _, rfl, rfl, rfl, fun t20 _ =>
      ⟨_, _, _, rfl, rfl, rfl, fun t21 _ =>
      ⟨_, _, _, rfl, rfl, rfl, fun t22 _ =>
      je_int (⟨_, _, _, rfl, rfl, rfl, fun t23 _ =>
      je_bin op_addD (je_bin op_powD (je_int (je_int (⟨_, _, _, rfl, rfl, rfl, fun t24 _ =>
      je_int (⟨_, _, _, rfl, rfl, rfl, fun t25 _ =>
      ⟨_, _, _, rfl, rfl, rfl, fun t26 _ =>
      ⟨[.mp 0 (.lst r10), .bw v_1, .fr t26, .un], rfl, rfl, rfl,
      jss_one (js_ret (je_bin op_modD (je_bin op_fdivD (je_fr 2 rfl (je_int (⟨_, _, _, rfl, rfl, rfl, fun t27 _ =>
      je_bw 1 rfl (⟨_, _, _, rfl, rfl, rfl, fun t28 _ =>
      ⟨_, rfl, rfl, (oa_c 0 rfl oa_n)⟩⟩)⟩))))))⟩⟩⟩)⟩))))⟩)⟩⟩⟩)))))⟩))))))))⟩⟩⟩)⟩))))⟩)⟩⟩⟩)))))⟩))))))))⟩)⟩⟩)⟩)))))))⟩⟩)⟩)))))))

def d_l_saying : List D → Res (D × List D)
  | [.lst v_0, v_1] =>
      (d_l_ball [(D.lst v_0), (D.int 4)]).bind fun a1 =>
      (d_l_ball [(D.lst a1.2), v_1]).bind fun a2 =>
      (d_l_ball [(D.lst a2.2), v_1]).bind fun a3 =>
      (d_l_ball [(D.lst a3.2), (D.int 4)]).bind fun a4 =>
      op (ixD (D.lst [(D.int 0), a1.1, a2.1, a3.1]) a4.1) fun t5 =>
      (d_l_ball [(D.lst a4.2), (D.int 5)]).bind fun a6 =>
      op (eqD a6.1 (D.int 4)) fun b7 =>
      if b7 = true then (.ok ((D.tup [t5, D.non]), a6.2)) else ((d_l_ball [(D.lst a6.2), (D.int 3)]).bind fun a8 =>
      (d_l_ball [(D.lst a8.2), (D.int 9)]).bind fun a9 =>
      (d_l_ball [(D.lst a9.2), v_1]).bind fun a10 =>
      op (ixD (D.lst [(D.int 0), a8.1, a9.1, a10.1]) a6.1) fun t11 =>
      op (addD t5 t11) fun t12 =>
      .ok ((D.tup [t5, t12]), a10.2))  | _ => .bad
abbrev n_l_saying : List Str := ["_law_urn_here", "_law_wide", "_law_least", "_law_way"]
theorem sc_l_saying : FnScope n_l_saying ["_law_urn_here", "_law_wide"] (defScope (topS 35)) := ⟨rfl, rfl, rfl, by decide +kernel, rfl, by decide +kernel, by decide +kernel⟩
theorem ok_l_saying (h : Txt K mg) : Df P w K mg base 2 "_law_saying" [.m, .b] d_l_saying (fun a => a.1) (fun a => [.lst a.2]) false := by
  obtain ⟨fa, fd, F, B, M⟩ := h.f_l_saying
  refine ⟨fa, fd, _, fn_D (k := 1) F sc_l_saying rfl 1 (fun _ => rfl) rfl (fun X en cdv A outer s H E ds hX hr hn hL hp hl => ?_), M, F.kp, B⟩
  have hnd := (sc_l_saying).nd
  subst hX
  obtain ⟨v_0, v_1, rfl⟩ := len2 hl
  cases v_0 <;> try exact jss_never
  rename_i v_0
  unfold d_l_saying
  exact (jss_cons (js_set 2 hnd (je_ix ix_D (fun _ _ => rfl) (je_lst (ja_cons (je_int (ja_cons (je_call (ok_l_ball h) (hr.mono (by decide)) hL (ja_cons (je_bo 0 rfl (.inr ⟨_, _, rfl⟩) (ja_cons (je_int (ja_nil (⟨_, [0], _, fun a1 => [.mp 0 (.lst a1.2), .bw v_1, .un, .un], rfl, rfl, nd1, rfl, fun _ => rfl, fun a1 _ =>
      ja_cons (je_call (ok_l_ball h) (hr.mono (by decide)) hL (ja_cons (je_bo 0 rfl (.inr ⟨_, _, rfl⟩) (ja_cons (je_bw 1 rfl (ja_nil (⟨_, [0], _, fun a2 => [.mp 0 (.lst a2.2), .bw v_1, .un, .un], rfl, rfl, nd1, rfl, fun _ => rfl, fun a2 _ =>
      ja_cons (je_call (ok_l_ball h) (hr.mono (by decide)) hL (ja_cons (je_bo 0 rfl (.inr ⟨_, _, rfl⟩) (ja_cons (je_bw 1 rfl (ja_nil (⟨_, [0], _, fun a3 => [.mp 0 (.lst a3.2), .bw v_1, .un, .un], rfl, rfl, nd1, rfl, fun _ => rfl, fun a3 _ =>
      ja_nil (⟨_, rfl, rfl, je_call (ok_l_ball h) (hr.mono (by decide)) hL (ja_cons (je_bo 0 rfl (.inr ⟨_, _, rfl⟩) (ja_cons (je_int (ja_nil (⟨_, [0], _, fun a4 => [.mp 0 (.lst a4.2), .bw v_1, .un, .un], rfl, rfl, nd1, rfl, fun _ => rfl, fun a4 _ =>
      ⟨_, _, _, rfl, rfl, rfl, fun t5 _ =>
      ⟨[.mp 0 (.lst a4.2), .bw v_1, .fr t5, .un], rfl, rfl, rfl,
      jss_cons (js_set 3 hnd (je_call (ok_l_ball h) (hr.mono (by decide)) hL (ja_cons (je_bo 0 rfl (.inr ⟨_, _, rfl⟩) (ja_cons (je_int (ja_nil (⟨_, [0], _, fun a6 => [.mp 0 (.lst a6.2), .bw v_1, .fr t5, .un], rfl, rfl, nd1, rfl, fun _ => rfl, fun a6 _ =>
      ⟨[.mp 0 (.lst a6.2), .bw v_1, .fr t5, .fr a6.1], rfl, rfl, rfl,
      jss_cons (js_if (jt_cmp (cmp_eqD hr.hu) rfl (je_fr 3 rfl (je_int (⟨_, _, _, rfl, rfl, rfl, fun b7 =>
      ⟨_, _, rfl, jss_one (js_ret (je_tup (ja_cons (je_fr 2 rfl (ja_cons (je_non (ja_nil (⟨_, rfl, rfl, ⟨_, rfl, rfl, (oa_c 0 rfl oa_n)⟩⟩)))))))), jss_nil (jss_one (js_ret (je_tup (ja_cons (je_fr 2 rfl (ja_cons (je_bin op_addD (je_fr 2 rfl (je_ix ix_D (fun _ _ => rfl) (je_lst (ja_cons (je_int (ja_cons (je_call (ok_l_ball h) (hr.mono (by decide)) hL (ja_cons (je_bo 0 rfl (.inr ⟨_, _, rfl⟩) (ja_cons (je_int (ja_nil (⟨_, [0], _, fun a8 => [.mp 0 (.lst a8.2), .bw v_1, .fr t5, .fr a6.1], rfl, rfl, nd1, rfl, fun _ => rfl, fun a8 _ =>
      ja_cons (je_call (ok_l_ball h) (hr.mono (by decide)) hL (ja_cons (je_bo 0 rfl (.inr ⟨_, _, rfl⟩) (ja_cons (je_int (ja_nil (⟨_, [0], _, fun a9 => [.mp 0 (.lst a9.2), .bw v_1, .fr t5, .fr a6.1], rfl, rfl, nd1, rfl, fun _ => rfl, fun a9 _ =>
      ja_cons (je_call (ok_l_ball h) (hr.mono (by decide)) hL (ja_cons (je_bo 0 rfl (.inr ⟨_, _, rfl⟩) (ja_cons (je_bw 1 rfl (ja_nil (⟨_, [0], _, fun a10 => [.mp 0 (.lst a10.2), .bw v_1, .fr t5, .fr a6.1], rfl, rfl, nd1, rfl, fun _ => rfl, fun a10 _ =>
      ja_nil (⟨_, rfl, rfl, je_fr 3 rfl (⟨_, _, _, rfl, rfl, rfl, fun t11 _ =>
      ⟨_, _, _, rfl, rfl, rfl, fun t12 _ =>
      ja_nil (⟨_, rfl, rfl, ⟨_, rfl, rfl, (oa_c 0 rfl oa_n)⟩⟩)⟩⟩)⟩)⟩)))))))⟩)))))))⟩))))))))))))))))))))⟩⟩)))))⟩⟩))))))))⟩⟩⟩))))))⟩)⟩)))))))⟩)))))))⟩))))))))))))))

def d_l_people : Nat → List D → Res (D)
  | 0, _ => .bad
  | n_ + 1, [v_0] =>
      op (asL v_0) fun ds1 =>
      (forS ds1 ((D.int 0) : D) fun d4 s3 =>
      ((op (ixD d4 (D.int 0)) fun t6 =>
      op (eqD t6 (D.str "again")) fun b7 =>
      if b7 = true then (op (ixD d4 (D.int 1)) fun t8 =>
      op (ixD d4 (D.int 2)) fun t9 =>
      (d_l_people n_ [t9]).bind fun a10 =>
      op (mulD t8 a10) fun t11 =>
      .ok t11) else (.ok (D.int 1)) : Res (D))).bind fun a5 =>
      op (addD s3 a5) fun t12 =>
      .ok t12).bind fun s13 =>
      .ok s13
  | _ + 1, _ => .bad
abbrev n_l_people : List Str := ["_law_long_here", "_law_found", "_law_item"]
theorem sc_l_people : FnScope n_l_people ["_law_long_here"] (defScope (topS 36)) := ⟨rfl, rfl, rfl, by decide +kernel, rfl, by decide +kernel, by decide +kernel⟩
theorem ok_l_people (h : Txt K mg) : ∀ n : Nat, Df P w K mg base (1 + n) "_law_people" [.b] (d_l_people n) (fun a => a) (fun a => []) false
  | 0 => by
    obtain ⟨fa, fd, F, B, M⟩ := h.f_l_people
    refine ⟨fa, fd, _, fn_D (k := 0) F sc_l_people rfl 0 (fun _ => rfl) rfl (fun X en cdv A outer s H E ds hX hr hn hL hp hl => ?_), M, F.kp, B⟩
    exact jss_never
  | n_ + 1 => by
    have ih := ok_l_people h n_
    obtain ⟨fa, fd, F, B, M⟩ := h.f_l_people
    refine ⟨fa, fd, _, fn_D (k := 1 + n_) F sc_l_people rfl 0 (fun _ => rfl) rfl (fun X en cdv A outer s H E ds hX hr hn hL hp hl => ?_), M, F.kp, B⟩
    have hnd := (sc_l_people).nd
    subst hX
    obtain ⟨v_0, rfl⟩ := len1 hl
    unfold d_l_people
    exact (jss_cons (js_set 1 hnd (je_int (⟨[.bw v_0, .fr (D.int 0), .un], rfl, rfl, rfl,
      jss_cons (js_forS hp rfl (ji_any (je_bw 0 rfl (⟨_, _, rfl, rfl, fun ds1 =>
      ⟨_, _, _, (fun (s3 : D) => [.bw v_0, .fr s3, .un]), rfl, (le_s (le_s (le_s (le_n)))), fun _ he2 d4 s3 => ⟨[2], jg_name 2 [.bw v_0, .fr s3, .fr d4] hnd (jss_one (js_set 1 hnd (je_bin op_addD (je_fr 1 rfl (je_join (fun (a5 : D) => .fr a5) (fun a5 => [.bw v_0, .fr s3, .fr d4]) (je_if (jt_cmp (cmp_eqD hr.hu) rfl (je_ix ix_D (fun _ _ => rfl) (je_fr 2 rfl (je_int (⟨_, _, _, rfl, rfl, rfl, fun t6 _ =>
      je_str (⟨_, _, _, rfl, rfl, rfl, fun b7 =>
      ⟨_, _, rfl, je_bin op_mulD (je_ix ix_D (fun _ _ => rfl) (je_fr 2 rfl (je_int (⟨_, _, _, rfl, rfl, rfl, fun t8 _ =>
      je_call (ih) (hr.mono (by omega)) (he2.lk hL) (ja_cons (je_ix ix_D (fun _ _ => rfl) (je_fr 2 rfl (je_int (⟨_, _, _, rfl, rfl, rfl, fun t9 _ =>
      ja_nil (⟨_, [], _, fun a10 => [.bw v_0, .fr s3, .fr d4], rfl, rfl, List.nodup_nil, rfl, fun _ => rfl, fun a10 _ =>
      ⟨_, _, _, rfl, rfl, rfl, fun t11 _ =>
      ⟨_, rfl, rfl, rfl⟩⟩⟩)⟩)))))⟩)))), je_int (⟨_, rfl, rfl, rfl⟩)⟩⟩)⟩)))))) (fun a5 =>
      ⟨_, _, _, rfl, rfl, rfl, fun t12 _ =>
      ⟨[.bw v_0, .fr t12, .fr d4], rfl, rfl, rfl,
      ⟨_, rfl, (le_s (le_s (le_u (le_n))))⟩⟩⟩))))))⟩, fun s13 =>
      jss_one (js_ret (je_fr 1 rfl (⟨_, rfl, rfl, oa_n⟩)))⟩⟩))))⟩))))

def d_l_long : Nat → List D → Res (D × List D × List D)
  | 0, _ => .bad
  | n_ + 1, [.lst v_0, .lst v_1, v_2, v_3] =>
      (d_l_ball [(D.lst v_0), (D.int 6)]).bind fun a2 =>
      op (ixD (D.lst [(D.int 3), (D.int 1), (D.int 2), (D.int 4), (D.int 5), (D.int 0)]) a2.1) fun t3 =>
      op (rngD [t3]) fun ds1 =>
      (forS ds1 ((a2.2, v_1, v_3, ([] : List D)) : List D × List D × D × List D) fun d6 s5 =>
      ((op (gtD v_2 (D.int 0)) fun b8 =>
      op (asB (D.bl b8)) fun b9 => if b9 = true then ((d_l_ball [(D.lst s5.1), (D.int 5)]).bind fun a10 =>
      op (gtD a10.1 (D.int 2)) fun b11 =>
      .ok ((D.bl b11), a10.2)) else (.ok ((D.bl false), s5.1)) : Res (D × List D))).bind fun a7 =>
      ((((op (ixD (D.lst s5.2.1) (D.int 0)) fun t14 =>
      op (gtD t14 (D.int 0)) fun b15 =>
      if b15 = true then (op (gtD s5.2.2.1 (D.int 0)) fun b16 =>
      .ok b16) else (.ok false) : Res (Bool))).bind fun a13 =>
      if a13 = true then (op (ixD (D.lst s5.2.1) (D.int 0)) fun t17 =>
      op (subD t17 (D.int 1)) fun t18 =>
      op (setL s5.2.1 (D.int 0) t18) fun r19 =>
      ((op (truD a7.1) fun b21 =>
      if b21 = true then (op (subD v_2 (D.int 1)) fun t22 =>
      (d_l_long n_ [(D.lst a7.2), (D.lst r19), t22, s5.2.2.1]).bind fun a23 =>
      (d_l_ball [(D.lst a23.2.1), (D.int 4)]).bind fun a24 =>
      (d_l_ball [(D.lst a24.2), (D.int 9)]).bind fun a25 =>
      op (addD (D.int 2) a25.1) fun t26 =>
      op (ixD (D.lst a23.2.2) (D.int 1)) fun t27 =>
      op (addD t27 (D.int 1)) fun t28 =>
      (d_l_ball [(D.lst a25.2), t28]).bind fun a29 =>
      (d_l_ball [(D.lst a29.2), (D.int 3)]).bind fun a30 =>
      op (ixD (D.lst [a24.1, t26, a29.1]) a30.1) fun t31 =>
      (d_l_people 8 [a23.1]).bind fun a32 =>
      op (max2D [(D.int 1), a32]) fun t33 =>
      op (fdivD s5.2.2.1 t33) fun t34 =>
      op (min2D [t31, t34]) fun t35 =>
      op (appL s5.2.2.2 [(D.tup [(D.str "again"), t35, a23.1])]) fun a36 =>
      (d_l_people 8 [a23.1]).bind fun a37 =>
      op (mulD t35 a37) fun t38 =>
      op (subD s5.2.2.1 t38) fun t39 =>
      .ok (a30.2, a23.2.2, t39, a36.2)) else (op (ixD (D.lst r19) (D.int 2)) fun t40 =>
      (d_l_saying [(D.lst a7.2), t40]).bind fun a41 =>
      op (appL s5.2.2.2 [a41.1]) fun a42 =>
      op (subD s5.2.2.1 (D.int 1)) fun t43 =>
      .ok (a41.2, r19, t43, a42.2)) : Res (List D × List D × D × List D))).bind fun s20 =>
      .ok (s20.1, s20.2.1, s20.2.2.1, s20.2.2.2)) else (.ok (a7.2, s5.2.1, s5.2.2.1, s5.2.2.2)) : Res (List D × List D × D × List D))).bind fun s12 =>
      .ok (s12.1, s12.2.1, s12.2.2.1, s12.2.2.2)).bind fun s44 =>
      .ok ((D.lst s44.2.2.2), s44.1, s44.2.1)
  | _ + 1, _ => .bad
abbrev n_l_long : List Str := ["_law_urn_here", "_law_plan", "_law_deep", "_law_room", "_law_found", "_law_k", "_law_again", "_law_inner", "_law_many"]
theorem sc_l_long : FnScope n_l_long ["_law_urn_here", "_law_plan", "_law_deep", "_law_room"] (defScope (topS 37)) := ⟨rfl, rfl, rfl, by decide +kernel, rfl, by decide +kernel, by decide +kernel⟩
theorem ok_l_long (h : Txt K mg) : ∀ n : Nat, Df P w K mg base (10 + n) "_law_long" [.m, .m, .b, .f] (d_l_long n) (fun a => a.1) (fun a => [.lst a.2.1, .lst a.2.2]) false
  | 0 => by
    obtain ⟨fa, fd, F, B, M⟩ := h.f_l_long
    refine ⟨fa, fd, _, fn_D (k := 9) F sc_l_long rfl 2 (fun _ => rfl) rfl (fun X en cdv A outer s H E ds hX hr hn hL hp hl => ?_), M, F.kp, B⟩
    exact jss_never
  | n_ + 1 => by
    have ih := ok_l_long h n_
    obtain ⟨fa, fd, F, B, M⟩ := h.f_l_long
    refine ⟨fa, fd, _, fn_D (k := 10 + n_) F sc_l_long rfl 2 (fun _ => rfl) rfl (fun X en cdv A outer s H E ds hX hr hn hL hp hl => ?_), M, F.kp, B⟩
    have hnd := (sc_l_long).nd
    subst hX
    obtain ⟨v_0, v_1, v_2, v_3, rfl⟩ := len4 hl
    cases v_0 <;> try exact jss_never
    rename_i v_0
    cases v_1 <;> try exact jss_never
    rename_i v_1
    unfold d_l_long
    exact (jss_cons (js_set 4 hnd (je_lst (ja_nil (⟨_, rfl, rfl, ⟨[.mp 0 (.lst v_0), .mp 1 (.lst v_1), .bw v_2, .fr v_3, .mu (.lst ([] : List D)), .un, .un, .un, .un], rfl, rfl, rfl,
      jss_cons (js_forS hp rfl (ji_range1 h.n_range (je_ix ix_D (fun _ _ => rfl) (je_lst (ja_cons (je_int (ja_cons (je_int (ja_cons (je_int (ja_cons (je_int (ja_cons (je_int (ja_cons (je_int (ja_nil (⟨_, rfl, rfl, je_call (ok_l_ball h) (hr.mono (by omega)) hL (ja_cons (je_bo 0 rfl (.inr ⟨_, _, rfl⟩) (ja_cons (je_int (ja_nil (⟨_, [0], _, fun a2 => [.mp 0 (.lst a2.2), .mp 1 (.lst v_1), .bw v_2, .fr v_3, .mu (.lst ([] : List D)), .un, .un, .un, .un], rfl, rfl, nd1, rfl, fun _ => rfl, fun a2 _ =>
      ⟨_, _, _, rfl, rfl, rfl, fun t3 _ =>
      ⟨_, _, rfl, rfl, fun ds1 =>
      ⟨_, _, _, (fun (s5 : List D × List D × D × List D) => [.mp 0 (.lst s5.1), .mp 1 (.lst s5.2.1), .bw v_2, .fr s5.2.2.1, .mu (.lst s5.2.2.2), .un, .un, .un, .un]), rfl, (le_s (le_s (le_s (le_s (le_s (le_s (le_s (le_s (le_s (le_n)))))))))), fun _ he4 d6 s5 => ⟨[5], jg_name 5 [.mp 0 (.lst s5.1), .mp 1 (.lst s5.2.1), .bw v_2, .fr s5.2.2.1, .mu (.lst s5.2.2.2), .fr d6, .un, .un, .un] hnd (jss_cons (js_set 6 hnd (je_join (fun (a7 : D × List D) => .fr a7.1) (fun a7 => [.mp 0 (.lst a7.2), .mp 1 (.lst s5.2.1), .bw v_2, .fr s5.2.2.1, .mu (.lst s5.2.2.2), .fr d6, .un, .un, .un]) (je_and (je_cmpB cmp_gtD rfl (je_bw 2 rfl (je_int (⟨_, _, _, rfl, rfl, rfl, fun b8 =>
      ⟨_, _, rfl, rfl, fun b9 => ⟨_, _, rfl, je_one (je_cmpB cmp_gtD rfl (je_call (ok_l_ball h) (hr.mono (by omega)) (he4.lk hL) (ja_cons (je_bo 0 rfl (.inr ⟨_, _, rfl⟩) (ja_cons (je_int (ja_nil (⟨_, [0], _, fun a10 => [.mp 0 (.lst a10.2), .mp 1 (.lst s5.2.1), .bw v_2, .fr s5.2.2.1, .mu (.lst s5.2.2.2), .fr d6, .un, .un, .un], rfl, rfl, nd1, rfl, fun _ => rfl, fun a10 _ =>
      je_int (⟨_, _, _, rfl, rfl, rfl, fun b11 =>
      ⟨_, rfl, rfl, rfl⟩⟩)⟩)))))))), ⟨_, rfl, rfl, rfl⟩⟩⟩⟩))))) (fun a7 =>
      ⟨[.mp 0 (.lst a7.2), .mp 1 (.lst s5.2.1), .bw v_2, .fr s5.2.2.1, .mu (.lst s5.2.2.2), .fr d6, .fr a7.1, .un, .un], rfl, rfl, rfl,
      jss_one (js_joinS (fun (s12 : List D × List D × D × List D) => [.mp 0 (.lst s12.1), .mp 1 (.lst s12.2.1), .bw v_2, .fr s12.2.2.1, .mu (.lst s12.2.2.2), .fr d6, .fr a7.1, .un, .un]) (js_if (jt_join (fun (a13 : Bool) => a13) (fun a13 => [.mp 0 (.lst a7.2), .mp 1 (.lst s5.2.1), .bw v_2, .fr s5.2.2.1, .mu (.lst s5.2.2.2), .fr d6, .fr a7.1, .un, .un]) (jt_w (jw_and (jt_cmp cmp_gtD rfl (je_ix ix_D (fun _ _ => rfl) (je_bo 1 rfl (.inr ⟨_, _, rfl⟩) (je_int (⟨_, _, _, rfl, rfl, rfl, fun t14 _ =>
      je_int (⟨_, _, _, rfl, rfl, rfl, fun b15 =>
      ⟨_, _, rfl, jw_and1 (jt_cmp cmp_gtD rfl (je_fr 3 rfl (je_int (⟨_, _, _, rfl, rfl, rfl, fun b16 =>
      ⟨_, rfl, rfl, rfl⟩⟩)))), ⟨_, rfl, rfl, rfl⟩⟩⟩)⟩))))))) (fun a13 =>
      ⟨_, _, rfl, jss_cons (js_setL 1 (je_bin op_subD (je_ix ix_D (fun _ _ => rfl) (je_bo 1 rfl (.inr ⟨_, _, rfl⟩) (je_int (⟨_, _, _, rfl, rfl, rfl, fun t17 _ =>
      je_int (⟨_, _, _, rfl, rfl, rfl, fun t18 _ =>
      ⟨_, _, rfl, rfl, rfl, je_int (⟨_, _, _, _, fun r19 => [.mp 0 (.lst a7.2), .mp 1 (.lst r19), .bw v_2, .fr s5.2.2.1, .mu (.lst s5.2.2.2), .fr d6, .fr a7.1, .un, .un], rfl, rfl, rfl, rfl, rfl, fun _ => rfl, fun r19 =>
      jss_one (js_joinS (fun (s20 : List D × List D × D × List D) => [.mp 0 (.lst s20.1), .mp 1 (.lst s20.2.1), .bw v_2, .fr s20.2.2.1, .mu (.lst s20.2.2.2), .fr d6, .fr a7.1, .un, .un]) (js_if (jt_tru (je_fr 6 rfl (⟨_, _, rfl, rfl, fun b21 =>
      ⟨_, _, rfl, jss_cons (js_set 7 hnd (je_call (ih) (hr.mono (by omega)) (he4.lk hL) (ja_cons (je_bo 0 rfl (.inr ⟨_, _, rfl⟩) (ja_cons (je_bo 1 rfl (.inr ⟨_, _, rfl⟩) (ja_cons (je_bin op_subD (je_bw 2 rfl (je_int (⟨_, _, _, rfl, rfl, rfl, fun t22 _ =>
      ja_cons (je_fr 3 rfl (ja_nil (⟨_, [0, 1], _, fun a23 => [.mp 0 (.lst a23.2.1), .mp 1 (.lst a23.2.2), .bw v_2, .fr s5.2.2.1, .mu (.lst s5.2.2.2), .fr d6, .fr a7.1, .un, .un], rfl, rfl, (by decide), rfl, fun _ => rfl, fun a23 _ =>
      ⟨[.mp 0 (.lst a23.2.1), .mp 1 (.lst a23.2.2), .bw v_2, .fr s5.2.2.1, .mu (.lst s5.2.2.2), .fr d6, .fr a7.1, .fr a23.1, .un], rfl, rfl, rfl,
      jss_cons (js_set 8 hnd (je_ix ix_D (fun _ _ => rfl) (je_lst (ja_cons (je_call (ok_l_ball h) (hr.mono (by omega)) (he4.lk hL) (ja_cons (je_bo 0 rfl (.inr ⟨_, _, rfl⟩) (ja_cons (je_int (ja_nil (⟨_, [0], _, fun a24 => [.mp 0 (.lst a24.2), .mp 1 (.lst a23.2.2), .bw v_2, .fr s5.2.2.1, .mu (.lst s5.2.2.2), .fr d6, .fr a7.1, .fr a23.1, .un], rfl, rfl, nd1, rfl, fun _ => rfl, fun a24 _ =>
      ja_cons (je_bin op_addD (je_int (je_call (ok_l_ball h) (hr.mono (by omega)) (he4.lk hL) (ja_cons (je_bo 0 rfl (.inr ⟨_, _, rfl⟩) (ja_cons (je_int (ja_nil (⟨_, [0], _, fun a25 => [.mp 0 (.lst a25.2), .mp 1 (.lst a23.2.2), .bw v_2, .fr s5.2.2.1, .mu (.lst s5.2.2.2), .fr d6, .fr a7.1, .fr a23.1, .un], rfl, rfl, nd1, rfl, fun _ => rfl, fun a25 _ =>
      ⟨_, _, _, rfl, rfl, rfl, fun t26 _ =>
      ja_cons (je_call (ok_l_ball h) (hr.mono (by omega)) (he4.lk hL) (ja_cons (je_bo 0 rfl (.inr ⟨_, _, rfl⟩) (ja_cons (je_bin op_addD (je_ix ix_D (fun _ _ => rfl) (je_bo 1 rfl (.inr ⟨_, _, rfl⟩) (je_int (⟨_, _, _, rfl, rfl, rfl, fun t27 _ =>
      je_int (⟨_, _, _, rfl, rfl, rfl, fun t28 _ =>
      ja_nil (⟨_, [0], _, fun a29 => [.mp 0 (.lst a29.2), .mp 1 (.lst a23.2.2), .bw v_2, .fr s5.2.2.1, .mu (.lst s5.2.2.2), .fr d6, .fr a7.1, .fr a23.1, .un], rfl, rfl, nd1, rfl, fun _ => rfl, fun a29 _ =>
      ja_nil (⟨_, rfl, rfl, je_call (ok_l_ball h) (hr.mono (by omega)) (he4.lk hL) (ja_cons (je_bo 0 rfl (.inr ⟨_, _, rfl⟩) (ja_cons (je_int (ja_nil (⟨_, [0], _, fun a30 => [.mp 0 (.lst a30.2), .mp 1 (.lst a23.2.2), .bw v_2, .fr s5.2.2.1, .mu (.lst s5.2.2.2), .fr d6, .fr a7.1, .fr a23.1, .un], rfl, rfl, nd1, rfl, fun _ => rfl, fun a30 _ =>
      ⟨_, _, _, rfl, rfl, rfl, fun t31 _ =>
      ⟨[.mp 0 (.lst a30.2), .mp 1 (.lst a23.2.2), .bw v_2, .fr s5.2.2.1, .mu (.lst s5.2.2.2), .fr d6, .fr a7.1, .fr a23.1, .fr t31], rfl, rfl, rfl,
      jss_cons (js_set 8 hnd (je_callB (c_min2 rfl) h.n_min (ja_cons (je_fr 8 rfl (ja_cons (je_bin op_fdivD (je_fr 3 rfl (je_callB (c_max2 rfl) h.n_max (ja_cons (je_int (ja_cons (je_call (ok_l_people h 8) (hr.mono (by omega)) (he4.lk hL) (ja_cons (je_fr 7 rfl (ja_nil (⟨_, [], _, fun a32 => [.mp 0 (.lst a30.2), .mp 1 (.lst a23.2.2), .bw v_2, .fr s5.2.2.1, .mu (.lst s5.2.2.2), .fr d6, .fr a7.1, .fr a23.1, .fr t31], rfl, rfl, List.nodup_nil, rfl, fun _ => rfl, fun a32 _ =>
      ja_nil (⟨_, _, rfl, rfl, fun t33 _ =>
      ⟨_, _, _, rfl, rfl, rfl, fun t34 _ =>
      ja_nil (⟨_, _, rfl, rfl, fun t35 _ =>
      ⟨[.mp 0 (.lst a30.2), .mp 1 (.lst a23.2.2), .bw v_2, .fr s5.2.2.1, .mu (.lst s5.2.2.2), .fr d6, .fr a7.1, .fr a23.1, .fr t35], rfl, rfl, rfl,
      jss_cons (js_expr (je_mutL 4 g_app PySem.F.slot_list_append PySem.F.type_list_append m_append rfl rfl rfl (ja_cons (je_tup (ja_cons (je_str (ja_cons (je_fr 8 rfl (ja_cons (je_fr 7 rfl (ja_nil (⟨_, rfl, rfl, ja_nil (⟨_, _, _, _, fun a36 => [.mp 0 (.lst a30.2), .mp 1 (.lst a23.2.2), .bw v_2, .fr s5.2.2.1, .mu (.lst a36.2), .fr d6, .fr a7.1, .fr a23.1, .fr t35], rfl, rfl, rfl, rfl, rfl, fun _ => rfl, fun a36 =>
      jss_one (js_set 3 hnd (je_bin op_subD (je_fr 3 rfl (je_bin op_mulD (je_fr 8 rfl (je_call (ok_l_people h 8) (hr.mono (by omega)) (he4.lk hL) (ja_cons (je_fr 7 rfl (ja_nil (⟨_, [], _, fun a37 => [.mp 0 (.lst a30.2), .mp 1 (.lst a23.2.2), .bw v_2, .fr s5.2.2.1, .mu (.lst a36.2), .fr d6, .fr a7.1, .fr a23.1, .fr t35], rfl, rfl, List.nodup_nil, rfl, fun _ => rfl, fun a37 _ =>
      ⟨_, _, _, rfl, rfl, rfl, fun t38 _ =>
      ⟨_, _, _, rfl, rfl, rfl, fun t39 _ =>
      ⟨[.mp 0 (.lst a30.2), .mp 1 (.lst a23.2.2), .bw v_2, .fr t39, .mu (.lst a36.2), .fr d6, .fr a7.1, .fr a23.1, .fr t35], rfl, rfl, rfl,
      ⟨_, rfl, (le_s (le_s (le_s (le_s (le_s (le_s (le_s (le_u (le_u (le_n))))))))))⟩⟩⟩⟩⟩))))))))))⟩)⟩))))))))))))⟩⟩)⟩⟩)⟩))))))))))))))))⟩⟩⟩))))))⟩)⟩)⟩)⟩)))))))))⟩⟩)))))))))⟩)))))))))))⟩⟩)))⟩))))))))))), jss_cons (js_expr (je_mutL 4 g_app PySem.F.slot_list_append PySem.F.type_list_append m_append rfl rfl rfl (ja_cons (je_call (ok_l_saying h) (hr.mono (by omega)) (he4.lk hL) (ja_cons (je_bo 0 rfl (.inr ⟨_, _, rfl⟩) (ja_cons (je_ix ix_D (fun _ _ => rfl) (je_bo 1 rfl (.inr ⟨_, _, rfl⟩) (je_int (⟨_, _, _, rfl, rfl, rfl, fun t40 _ =>
      ja_nil (⟨_, [0], _, fun a41 => [.mp 0 (.lst a41.2), .mp 1 (.lst r19), .bw v_2, .fr s5.2.2.1, .mu (.lst s5.2.2.2), .fr d6, .fr a7.1, .un, .un], rfl, rfl, nd1, rfl, fun _ => rfl, fun a41 _ =>
      ja_nil (⟨_, _, _, _, fun a42 => [.mp 0 (.lst a41.2), .mp 1 (.lst r19), .bw v_2, .fr s5.2.2.1, .mu (.lst a42.2), .fr d6, .fr a7.1, .un, .un], rfl, rfl, rfl, rfl, rfl, fun _ => rfl, fun a42 =>
      jss_one (js_set 3 hnd (je_bin op_subD (je_fr 3 rfl (je_int (⟨_, _, _, rfl, rfl, rfl, fun t43 _ =>
      ⟨[.mp 0 (.lst a41.2), .mp 1 (.lst r19), .bw v_2, .fr t43, .mu (.lst a42.2), .fr d6, .fr a7.1, .un, .un], rfl, rfl, rfl,
      ⟨_, rfl, (le_s (le_s (le_s (le_s (le_s (le_s (le_s (le_s (le_s (le_n))))))))))⟩⟩⟩)))))⟩)⟩)⟩)))))))))))⟩⟩)))) (fun s20 =>
      ⟨_, rfl, (le_s (le_s (le_s (le_s (le_s (le_s (le_s (le_s (le_s (le_n))))))))))⟩))⟩)⟩⟩)⟩)))))), jss_nil (⟨_, rfl, (le_s (le_s (le_s (le_s (le_s (le_s (le_s (le_s (le_s (le_n))))))))))⟩)⟩))) (fun s12 =>
      ⟨_, rfl, (le_s (le_s (le_s (le_s (le_s (le_u (le_u (le_s (le_s (le_n))))))))))⟩))⟩))))⟩, fun s44 =>
      jss_one (js_ret (je_fzv' 4 [.mp 0 (.lst s44.1), .mp 1 (.lst s44.2.1), .bw v_2, .fr s44.2.2.1, .fr (D.lst s44.2.2.2), .un, .un, .un, .un] rfl rfl (⟨_, rfl, rfl, (oa_c 0 rfl (oa_c 1 rfl oa_n))⟩)))⟩⟩⟩⟩))))))⟩))))))))))))))))))⟩⟩)))))

def d_l_sayings : Nat → List D → Res (D)
  | 0, _ => .bad
  | n_ + 1, [v_0] =>
      op (asL v_0) fun ds1 =>
      (forS ds1 (([] : List D) : List D) fun d4 s3 =>
      ((op (ixD d4 (D.int 0)) fun t6 =>
      op (eqD t6 (D.str "again")) fun b7 =>
      if b7 = true then (op (ixD d4 (D.int 2)) fun t8 =>
      (d_l_sayings n_ [t8]).bind fun a9 =>
      .ok a9) else (.ok (D.lst [d4])) : Res (D))).bind fun a5 =>
      op (extL s3 [a5]) fun a10 =>
      .ok a10.2).bind fun s11 =>
      .ok (D.lst s11)
  | _ + 1, _ => .bad
abbrev n_l_sayings : List Str := ["_law_long_here", "_law_found", "_law_item"]
theorem sc_l_sayings : FnScope n_l_sayings ["_law_long_here"] (defScope (topS 38)) := ⟨rfl, rfl, rfl, by decide +kernel, rfl, by decide +kernel, by decide +kernel⟩
theorem ok_l_sayings (h : Txt K mg) : ∀ n : Nat, Df P w K mg base (1 + n) "_law_sayings" [.b] (d_l_sayings n) (fun a => a) (fun a => []) false
  | 0 => by
    obtain ⟨fa, fd, F, B, M⟩ := h.f_l_sayings
    refine ⟨fa, fd, _, fn_D (k := 0) F sc_l_sayings rfl 0 (fun _ => rfl) rfl (fun X en cdv A outer s H E ds hX hr hn hL hp hl => ?_), M, F.kp, B⟩
    exact jss_never
  | n_ + 1 => by
    have ih := ok_l_sayings h n_
    obtain ⟨fa, fd, F, B, M⟩ := h.f_l_sayings
    refine ⟨fa, fd, _, fn_D (k := 1 + n_) F sc_l_sayings rfl 0 (fun _ => rfl) rfl (fun X en cdv A outer s H E ds hX hr hn hL hp hl => ?_), M, F.kp, B⟩
    have hnd := (sc_l_sayings).nd
    subst hX
    obtain ⟨v_0, rfl⟩ := len1 hl
    unfold d_l_sayings
    exact (jss_cons (js_set 1 hnd (je_lst (ja_nil (⟨_, rfl, rfl, ⟨[.bw v_0, .mu (.lst ([] : List D)), .un], rfl, rfl, rfl,
      jss_cons (js_forS hp rfl (ji_any (je_bw 0 rfl (⟨_, _, rfl, rfl, fun ds1 =>
      ⟨_, _, _, (fun (s3 : List D) => [.bw v_0, .mu (.lst s3), .un]), rfl, (le_s (le_s (le_s (le_n)))), fun _ he2 d4 s3 => ⟨[2], jg_name 2 [.bw v_0, .mu (.lst s3), .fr d4] hnd (jss_one (js_expr (je_mutL 1 g_ext PySem.F.slot_list_extend PySem.F.type_list_extend m_extend rfl rfl rfl (ja_cons (je_join (fun (a5 : D) => .fr a5) (fun a5 => [.bw v_0, .mu (.lst s3), .fr d4]) (je_if (jt_cmp (cmp_eqD hr.hu) rfl (je_ix ix_D (fun _ _ => rfl) (je_fr 2 rfl (je_int (⟨_, _, _, rfl, rfl, rfl, fun t6 _ =>
      je_str (⟨_, _, _, rfl, rfl, rfl, fun b7 =>
      ⟨_, _, rfl, je_call (ih) (hr.mono (by omega)) (he2.lk hL) (ja_cons (je_ix ix_D (fun _ _ => rfl) (je_fr 2 rfl (je_int (⟨_, _, _, rfl, rfl, rfl, fun t8 _ =>
      ja_nil (⟨_, [], _, fun a9 => [.bw v_0, .mu (.lst s3), .fr d4], rfl, rfl, List.nodup_nil, rfl, fun _ => rfl, fun a9 _ =>
      ⟨_, rfl, rfl, rfl⟩⟩)⟩))))), je_fz (je_lst (ja_cons (je_fr 2 rfl (ja_nil (⟨_, rfl, rfl, ⟨_, rfl, rfl, rfl⟩⟩)))))⟩⟩)⟩)))))) (fun a5 =>
      ja_nil (⟨_, _, _, _, fun a10 => [.bw v_0, .mu (.lst a10.2), .fr d4], rfl, rfl, rfl, rfl, rfl, fun _ => rfl, fun a10 =>
      ⟨_, rfl, (le_s (le_s (le_u (le_n))))⟩⟩)))))))⟩, fun s11 =>
      jss_one (js_ret (je_fzv' 1 [.bw v_0, .fr (D.lst s11), .un] rfl rfl (⟨_, rfl, rfl, oa_n⟩)))⟩⟩))))⟩⟩)))))

def d_l_company : List D → Res (D × List D)
  | [.lst v_0, v_1] =>
      op (eqD v_1 (D.lst ([] : List D))) fun b1 =>
      if b1 = true then ((d_l_ball [(D.lst v_0), (D.int 99)]).bind fun a2 =>
      .ok (a2.1, a2.2)) else (op (lenD [v_1]) fun t3 =>
      (d_l_ball [(D.lst v_0), t3]).bind fun a4 =>
      op (ixD v_1 a4.1) fun t5 =>
      op (un2 t5) fun p6 =>
      ((op (isND p6.2 D.non) fun b8 =>
      if b8 = true then (.ok p6.1) else (.ok p6.2) : Res (D))).bind fun a7 =>
      (d_l_ball [(D.lst a4.2), (D.int 9)]).bind fun a9 =>
      op (subD a7 a9.1) fun t10 =>
      op (max2D [(D.int 0), t10]) fun t11 =>
      (d_l_ball [(D.lst a9.2), (D.int 12)]).bind fun a12 =>
      op (fdivD t11 (D.int 2)) fun t13 =>
      op (powD (D.int 10) (D.int 29)) fun t14 =>
      (d_l_ball [(D.lst a12.2), t14]).bind fun a15 =>
      (d_l_ball [(D.lst a15.2), (D.int 5)]).bind fun a16 =>
      op (ixD (D.lst [(D.int 0), a12.1, t11, t13, a15.1]) a16.1) fun t17 =>
      .ok (t17, a16.2))  | _ => .bad
abbrev n_l_company : List Str := ["_law_urn_here", "_law_sayings_here", "_law_least", "_law_most", "_law_near"]
theorem sc_l_company : FnScope n_l_company ["_law_urn_here", "_law_sayings_here"] (defScope (topS 39)) := ⟨rfl, rfl, rfl, by decide +kernel, rfl, by decide +kernel, by decide +kernel⟩
theorem ok_l_company (h : Txt K mg) : Df P w K mg base 2 "_law_company" [.m, .b] d_l_company (fun a => a.1) (fun a => [.lst a.2]) false := by
  obtain ⟨fa, fd, F, B, M⟩ := h.f_l_company
  refine ⟨fa, fd, _, fn_D (k := 1) F sc_l_company rfl 1 (fun _ => rfl) rfl (fun X en cdv A outer s H E ds hX hr hn hL hp hl => ?_), M, F.kp, B⟩
  have hnd := (sc_l_company).nd
  subst hX
  obtain ⟨v_0, v_1, rfl⟩ := len2 hl
  cases v_0 <;> try exact jss_never
  rename_i v_0
  unfold d_l_company
  exact (jss_cons (js_if (jt_cmp (cmp_eqD hr.hu) rfl (je_bw 1 rfl (je_lst (ja_nil (⟨_, rfl, rfl, ⟨_, _, _, rfl, rfl, rfl, fun b1 =>
      ⟨_, _, rfl, jss_one (js_ret (je_call (ok_l_ball h) (hr.mono (by decide)) hL (ja_cons (je_bo 0 rfl (.inr ⟨_, _, rfl⟩) (ja_cons (je_int (ja_nil (⟨_, [0], _, fun a2 => [.mp 0 (.lst a2.2), .bw v_1, .un, .un, .un], rfl, rfl, nd1, rfl, fun _ => rfl, fun a2 _ =>
      ⟨_, rfl, rfl, (oa_c 0 rfl oa_n)⟩⟩)))))))), jss_nil (jss_cons (js_asg (je_ix ix_D (fun _ _ => rfl) (je_bw 1 rfl (je_call (ok_l_ball h) (hr.mono (by decide)) hL (ja_cons (je_bo 0 rfl (.inr ⟨_, _, rfl⟩) (ja_cons (je_callB c_len h.n_len (ja_cons (je_bw 1 rfl (ja_nil (⟨_, _, rfl, rfl, fun t3 _ =>
      ja_nil (⟨_, [0], _, fun a4 => [.mp 0 (.lst a4.2), .bw v_1, .un, .un, .un], rfl, rfl, nd1, rfl, fun _ => rfl, fun a4 _ =>
      ⟨_, _, _, rfl, rfl, rfl, fun t5 _ =>
      ⟨_, [2, 3], rfl, jg_tup2 rfl ⟨_, rfl, fun p6 =>
      jgs_name 2 [.mp 0 (.lst a4.2), .bw v_1, .fr p6.1, .un, .un] hnd (jgs_name 3 [.mp 0 (.lst a4.2), .bw v_1, .fr p6.1, .fr p6.2, .un] hnd (jgs_nil (jss_cons (js_set 4 hnd (je_callB (c_max2 rfl) h.n_max (ja_cons (je_int (ja_cons (je_bin op_subD (je_join (fun (a7 : D) => .fr a7) (fun a7 => [.mp 0 (.lst a4.2), .bw v_1, .fr p6.1, .fr p6.2, .un]) (je_if (jt_cmp cmp_isN rfl (je_fr 3 rfl (je_non (⟨_, _, _, rfl, rfl, rfl, fun b8 =>
      ⟨_, _, rfl, je_fr 2 rfl (⟨_, rfl, rfl, rfl⟩), je_fr 3 rfl (⟨_, rfl, rfl, rfl⟩)⟩⟩))))) (fun a7 =>
      je_call (ok_l_ball h) (hr.mono (by decide)) hL (ja_cons (je_bo 0 rfl (.inr ⟨_, _, rfl⟩) (ja_cons (je_int (ja_nil (⟨_, [0], _, fun a9 => [.mp 0 (.lst a9.2), .bw v_1, .fr p6.1, .fr p6.2, .un], rfl, rfl, nd1, rfl, fun _ => rfl, fun a9 _ =>
      ⟨_, _, _, rfl, rfl, rfl, fun t10 _ =>
      ja_nil (⟨_, _, rfl, rfl, fun t11 _ =>
      ⟨[.mp 0 (.lst a9.2), .bw v_1, .fr p6.1, .fr p6.2, .fr t11], rfl, rfl, rfl,
      jss_one (js_ret (je_ix ix_D (fun _ _ => rfl) (je_lst (ja_cons (je_int (ja_cons (je_call (ok_l_ball h) (hr.mono (by decide)) hL (ja_cons (je_bo 0 rfl (.inr ⟨_, _, rfl⟩) (ja_cons (je_int (ja_nil (⟨_, [0], _, fun a12 => [.mp 0 (.lst a12.2), .bw v_1, .fr p6.1, .fr p6.2, .fr t11], rfl, rfl, nd1, rfl, fun _ => rfl, fun a12 _ =>
      ja_cons (je_fr 4 rfl (ja_cons (je_bin op_fdivD (je_fr 4 rfl (je_int (⟨_, _, _, rfl, rfl, rfl, fun t13 _ =>
      ja_cons (je_call (ok_l_ball h) (hr.mono (by decide)) hL (ja_cons (je_bo 0 rfl (.inr ⟨_, _, rfl⟩) (ja_cons (je_bin op_powD (je_int (je_int (⟨_, _, _, rfl, rfl, rfl, fun t14 _ =>
      ja_nil (⟨_, [0], _, fun a15 => [.mp 0 (.lst a15.2), .bw v_1, .fr p6.1, .fr p6.2, .fr t11], rfl, rfl, nd1, rfl, fun _ => rfl, fun a15 _ =>
      ja_nil (⟨_, rfl, rfl, je_call (ok_l_ball h) (hr.mono (by decide)) hL (ja_cons (je_bo 0 rfl (.inr ⟨_, _, rfl⟩) (ja_cons (je_int (ja_nil (⟨_, [0], _, fun a16 => [.mp 0 (.lst a16.2), .bw v_1, .fr p6.1, .fr p6.2, .fr t11], rfl, rfl, nd1, rfl, fun _ => rfl, fun a16 _ =>
      ⟨_, _, _, rfl, rfl, rfl, fun t17 _ =>
      ⟨_, rfl, rfl, (oa_c 0 rfl oa_n)⟩⟩⟩))))))⟩)⟩)⟩))))))))⟩))))))⟩)))))))))))))⟩⟩)⟩⟩)))))))))))))))))⟩⟩⟩⟩)⟩)))))))))))))⟩⟩⟩)))))))

def d_l_far : List D → Res (D × List D)
  | [.lst v_0, v_1, v_2] =>
      op (powD (D.int 10) (D.int 5)) fun t1 =>
      op (powD (D.int 10) (D.int 12)) fun t2 =>
      op (powD (D.int 10) (D.int 29)) fun t3 =>
      (d_l_ball [(D.lst v_0), (D.int 4)]).bind fun a4 =>
      op (ixD (D.lst [(D.int 9), t1, t2, t3]) a4.1) fun t5 =>
      op (powD (D.int 10) (D.int 6)) fun t6 =>
      op (powD (D.int 10) (D.int 15)) fun t7 =>
      op (powD (D.int 10) (D.int 29)) fun t8 =>
      (d_l_ball [(D.lst a4.2), (D.int 4)]).bind fun a9 =>
      op (ixD (D.lst [(D.int 30), t6, t7, t8]) a9.1) fun t10 =>
      op (powD (D.int 10) (D.int 29)) fun t11 =>
      op (mulD (D.int 7) t11) fun t12 =>
      op (powD (D.int 10) (D.int 29)) fun t13 =>
      op (mulD (D.int 7) t13) fun t14 =>
      op (powD (D.int 10) (D.int 9)) fun t15 =>
      (d_l_ball [(D.lst a9.2), (D.int 3)]).bind fun a16 =>
      op (ixD (D.lst [t12, t14, t15]) a16.1) fun t17 =>
      (d_l_long 8 [(D.lst a16.2), (D.lst [v_1, t5, t10]), v_2, t17]).bind fun a18 =>
      .ok (a18.1, a18.2.1)  | _ => .bad
abbrev n_l_far : List Str := ["_law_urn_here", "_law_most", "_law_deep", "_law_far_here", "_law_wide"]
theorem sc_l_far : FnScope n_l_far ["_law_urn_here", "_law_most", "_law_deep"] (defScope (topS 40)) := ⟨rfl, rfl, rfl, by decide +kernel, rfl, by decide +kernel, by decide +kernel⟩
theorem ok_l_far (h : Txt K mg) : Df P w K mg base 19 "_law_far" [.m, .f, .b] d_l_far (fun a => a.1) (fun a => [.lst a.2]) false := by
  obtain ⟨fa, fd, F, B, M⟩ := h.f_l_far
  refine ⟨fa, fd, _, fn_D (k := 18) F sc_l_far rfl 1 (fun _ => rfl) rfl (fun X en cdv A outer s H E ds hX hr hn hL hp hl => ?_), M, F.kp, B⟩
  have hnd := (sc_l_far).nd
  subst hX
  obtain ⟨v_0, v_1, v_2, rfl⟩ := len3 hl
  cases v_0 <;> try exact jss_never
  rename_i v_0
  unfold d_l_far
  exact (jss_cons (js_set 3 hnd (je_ix ix_D (fun _ _ => rfl) (je_lst (ja_cons (je_int (ja_cons (je_bin op_powD (je_int (je_int (⟨_, _, _, rfl, rfl, rfl, fun t1 _ =>
      ja_cons (je_bin op_powD (je_int (je_int (⟨_, _, _, rfl, rfl, rfl, fun t2 _ =>
      ja_cons (je_bin op_powD (je_int (je_int (⟨_, _, _, rfl, rfl, rfl, fun t3 _ =>
      ja_nil (⟨_, rfl, rfl, je_call (ok_l_ball h) (hr.mono (by decide)) hL (ja_cons (je_bo 0 rfl (.inr ⟨_, _, rfl⟩) (ja_cons (je_int (ja_nil (⟨_, [0], _, fun a4 => [.mp 0 (.lst a4.2), .fr v_1, .bw v_2, .un, .un], rfl, rfl, nd1, rfl, fun _ => rfl, fun a4 _ =>
      ⟨_, _, _, rfl, rfl, rfl, fun t5 _ =>
      ⟨[.mp 0 (.lst a4.2), .fr v_1, .bw v_2, .fr t5, .un], rfl, rfl, rfl,
      jss_cons (js_set 4 hnd (je_ix ix_D (fun _ _ => rfl) (je_lst (ja_cons (je_int (ja_cons (je_bin op_powD (je_int (je_int (⟨_, _, _, rfl, rfl, rfl, fun t6 _ =>
      ja_cons (je_bin op_powD (je_int (je_int (⟨_, _, _, rfl, rfl, rfl, fun t7 _ =>
      ja_cons (je_bin op_powD (je_int (je_int (⟨_, _, _, rfl, rfl, rfl, fun t8 _ =>
      ja_nil (⟨_, rfl, rfl, je_call (ok_l_ball h) (hr.mono (by decide)) hL (ja_cons (je_bo 0 rfl (.inr ⟨_, _, rfl⟩) (ja_cons (je_int (ja_nil (⟨_, [0], _, fun a9 => [.mp 0 (.lst a9.2), .fr v_1, .bw v_2, .fr t5, .un], rfl, rfl, nd1, rfl, fun _ => rfl, fun a9 _ =>
      ⟨_, _, _, rfl, rfl, rfl, fun t10 _ =>
      ⟨[.mp 0 (.lst a9.2), .fr v_1, .bw v_2, .fr t5, .fr t10], rfl, rfl, rfl,
      jss_one (js_ret (je_callF 1 (ok_l_long h 8) (hr.mono (by decide)) hL (ja_cons (je_bo 0 rfl (.inr ⟨_, _, rfl⟩) (ja_cons (je_lst (ja_cons (je_fr 1 rfl (ja_cons (je_fr 3 rfl (ja_cons (je_fr 4 rfl (ja_nil (⟨_, rfl, rfl, ja_cons (je_bw 2 rfl (ja_cons (je_ix ix_D (fun _ _ => rfl) (je_lst (ja_cons (je_bin op_mulD (je_int (je_bin op_powD (je_int (je_int (⟨_, _, _, rfl, rfl, rfl, fun t11 _ =>
      ⟨_, _, _, rfl, rfl, rfl, fun t12 _ =>
      ja_cons (je_bin op_mulD (je_int (je_bin op_powD (je_int (je_int (⟨_, _, _, rfl, rfl, rfl, fun t13 _ =>
      ⟨_, _, _, rfl, rfl, rfl, fun t14 _ =>
      ja_cons (je_bin op_powD (je_int (je_int (⟨_, _, _, rfl, rfl, rfl, fun t15 _ =>
      ja_nil (⟨_, rfl, rfl, je_call (ok_l_ball h) (hr.mono (by decide)) hL (ja_cons (je_bo 0 rfl (.inr ⟨_, _, rfl⟩) (ja_cons (je_int (ja_nil (⟨_, [0], _, fun a16 => [.mp 0 (.lst a16.2), .fr v_1, .bw v_2, .fr t5, .fr t10], rfl, rfl, nd1, rfl, fun _ => rfl, fun a16 _ =>
      ⟨_, _, _, rfl, rfl, rfl, fun t17 _ =>
      ja_nil (⟨_, _, [0, 5], _, fun a18 => [.mp 0 (.lst a18.2.1), .fr v_1, .bw v_2, .fr t5, .fr t10], fun a18 => .mu (.lst a18.2.2), rfl, rfl, rfl, (by decide), rfl, fun _ => rfl, fun _ => ⟨rfl, rfl⟩, fun a18 _ =>
      ⟨_, rfl, rfl, (oa_c 0 rfl oa_n)⟩⟩)⟩⟩))))))⟩)⟩))))⟩⟩))))))⟩⟩)))))))))))⟩))))))))))))))⟩⟩⟩))))))⟩)⟩))))⟩))))⟩))))))))))⟩⟩⟩))))))⟩)⟩))))⟩))))⟩)))))))))))

def d_t_total_of : List D → Res (D)
  | [v_0, v_1] =>
      (d_t_through 8 [v_0, v_1]).bind fun a1 =>
      op (ixD a1 (D.int 0)) fun t2 =>
      .ok t2  | _ => .bad
abbrev n_t_total_of : List Str := ["parts", "number"]
theorem sc_t_total_of : FnScope n_t_total_of ["parts", "number"] (defScope (topS 28)) := ⟨rfl, rfl, rfl, by decide +kernel, rfl, by decide +kernel, by decide +kernel⟩
theorem ok_t_total_of (h : Txt K mg) : Df P w K mg base 20 "total_of" [.b, .f] d_t_total_of (fun a => a) (fun a => []) false := by
  obtain ⟨fa, fd, F, B, M⟩ := h.f_t_total_of
  refine ⟨fa, fd, _, fn_D (k := 19) F sc_t_total_of rfl 0 (fun _ => rfl) rfl (fun X en cdv A outer s H E ds hX hr hn hL hp hl => ?_), M, F.kp, B⟩
  have hnd := (sc_t_total_of).nd
  subst hX
  obtain ⟨v_0, v_1, rfl⟩ := len2 hl
  unfold d_t_total_of
  exact (jss_one (js_ret (je_ix ix_D (fun _ _ => rfl) (je_call (ok_t_through h 8) (hr.mono (by decide)) hL (ja_cons (je_bw 0 rfl (ja_cons (je_fr 1 rfl (ja_nil (⟨_, [], _, fun a1 => [.bw v_0, .fr v_1], rfl, rfl, List.nodup_nil, rfl, fun _ => rfl, fun a1 _ =>
      je_int (⟨_, _, _, rfl, rfl, rfl, fun t2 _ =>
      ⟨_, rfl, rfl, oa_n⟩⟩)⟩))))))))))

def d_t_far_total : List D → Res (D)
  | [v_0, v_1] =>
      (d_t_parts_of [v_0]).bind fun a1 =>
      (d_t_need_number [v_1]).bind fun a2 =>
      (d_t_total_of [a1, v_1]).bind fun a3 =>
      .ok a3  | _ => .bad
abbrev n_t_far_total : List Str := ["long", "company", "parts"]
theorem sc_t_far_total : FnScope n_t_far_total ["long", "company"] (defScope (topS 29)) := ⟨rfl, rfl, rfl, by decide +kernel, rfl, by decide +kernel, by decide +kernel⟩
theorem ok_t_far_total (h : Txt K mg) : Df P w K mg base 24 "far_total" [.b, .f] d_t_far_total (fun a => a) (fun a => []) false := by
  obtain ⟨fa, fd, F, B, M⟩ := h.f_t_far_total
  refine ⟨fa, fd, _, fn_D (k := 23) F sc_t_far_total rfl 0 (fun _ => rfl) rfl (fun X en cdv A outer s H E ds hX hr hn hL hp hl => ?_), M, F.kp, B⟩
  have hnd := (sc_t_far_total).nd
  subst hX
  obtain ⟨v_0, v_1, rfl⟩ := len2 hl
  unfold d_t_far_total
  exact (jss_cons (js_set 2 hnd (je_call (ok_t_parts_of h) (hr.mono (by decide)) hL (ja_cons (je_bw 0 rfl (ja_nil (⟨_, [], _, fun a1 => [.bw v_0, .fr v_1, .un], rfl, rfl, List.nodup_nil, rfl, fun _ => rfl, fun a1 _ =>
      ⟨[.bw v_0, .fr v_1, .fr a1], rfl, rfl, rfl,
      jss_cons (js_expr (je_call (ok_t_need_number h) (hr.mono (by decide)) hL (ja_cons (je_fr 1 rfl (ja_nil (⟨_, [], _, fun a2 => [.bw v_0, .fr v_1, .fr a1], rfl, rfl, List.nodup_nil, rfl, fun _ => rfl, fun a2 _ =>
      jss_one (js_ret (je_call (ok_t_total_of h) (hr.mono (by decide)) hL (ja_cons (je_fr 2 rfl (ja_cons (je_fr 1 rfl (ja_nil (⟨_, [], _, fun a3 => [.bw v_0, .fr v_1, .fr a1], rfl, rfl, List.nodup_nil, rfl, fun _ => rfl, fun a3 _ =>
      ⟨_, rfl, rfl, oa_n⟩⟩))))))))⟩))))))⟩⟩)))))))

def d_l_said : List D → Res (D)
  | [v_0, v_1, v_2] =>
      ((op (powD (D.int 10) (D.int 30)) fun t2 =>
      op (geD v_1 t2) fun b3 =>
      if b3 = true then (.ok true) else ((d_l_people 8 [v_0]).bind fun a4 =>
      op (mulD v_1 a4) fun t5 =>
      op (powD (D.int 10) (D.int 30)) fun t6 =>
      op (geD t5 t6) fun b7 =>
      .ok b7) : Res (Bool))).bind fun a1 =>
      if a1 = true then (.ok D.non) else ((d_t_far_total [(D.lst [(D.tup [(D.str "again"), v_1, v_0])]), v_2]).bind fun a8 =>
      .ok a8)  | _ => .bad
abbrev n_l_said : List Str := ["_law_long_here", "_law_times", "_law_company_here"]
theorem sc_l_said : FnScope n_l_said ["_law_long_here", "_law_times", "_law_company_here"] (defScope (topS 41)) := ⟨rfl, rfl, rfl, by decide +kernel, rfl, by decide +kernel, by decide +kernel⟩
theorem ok_l_said (h : Txt K mg) : Df P w K mg base 25 "_law_said" [.f, .f, .f] d_l_said (fun a => a) (fun a => []) false := by
  obtain ⟨fa, fd, F, B, M⟩ := h.f_l_said
  refine ⟨fa, fd, _, fn_D (k := 24) F sc_l_said rfl 0 (fun _ => rfl) rfl (fun X en cdv A outer s H E ds hX hr hn hL hp hl => ?_), M, F.kp, B⟩
  have hnd := (sc_l_said).nd
  subst hX
  obtain ⟨v_0, v_1, v_2, rfl⟩ := len3 hl
  unfold d_l_said
  exact (jss_cons (js_if (jt_join (fun (a1 : Bool) => a1) (fun a1 => [.fr v_0, .fr v_1, .fr v_2]) (jt_w (jw_or (jt_cmp cmp_geD rfl (je_fr 1 rfl (je_bin op_powD (je_int (je_int (⟨_, _, _, rfl, rfl, rfl, fun t2 _ =>
      ⟨_, _, _, rfl, rfl, rfl, fun b3 =>
      ⟨_, _, rfl, ⟨_, rfl, rfl, rfl⟩, jw_or1 (jt_cmp cmp_geD rfl (je_bin op_mulD (je_fr 1 rfl (je_call (ok_l_people h 8) (hr.mono (by decide)) hL (ja_cons (je_fr 0 rfl (ja_nil (⟨_, [], _, fun a4 => [.fr v_0, .fr v_1, .fr v_2], rfl, rfl, List.nodup_nil, rfl, fun _ => rfl, fun a4 _ =>
      ⟨_, _, _, rfl, rfl, rfl, fun t5 _ =>
      je_bin op_powD (je_int (je_int (⟨_, _, _, rfl, rfl, rfl, fun t6 _ =>
      ⟨_, _, _, rfl, rfl, rfl, fun b7 =>
      ⟨_, rfl, rfl, rfl⟩⟩⟩)))⟩⟩))))))))⟩⟩⟩)))))))) (fun a1 =>
      ⟨_, _, rfl, jss_one (js_ret (je_non (⟨_, rfl, rfl, oa_n⟩))), jss_nil (jss_one (js_ret (je_call (ok_t_far_total h) (hr.mono (by decide)) hL (ja_cons (je_lst (ja_cons (je_tup (ja_cons (je_str (ja_cons (je_fr 1 rfl (ja_cons (je_fr 0 rfl (ja_nil (⟨_, rfl, rfl, ja_nil (⟨_, rfl, rfl, ja_cons (je_fr 2 rfl (ja_nil (⟨_, [], _, fun a8 => [.fr v_0, .fr v_1, .fr v_2], rfl, rfl, List.nodup_nil, rfl, fun _ => rfl, fun a8 _ =>
      ⟨_, rfl, rfl, oa_n⟩⟩)))⟩)⟩)))))))))))))))⟩))))

def d_l_goal_right : List D → Res (D)
  | [v_0, v_1, v_2, v_3] =>
      (d_t_times_until [v_0, v_1, v_2]).bind fun a1 =>
      op (isND a1 D.non) fun b2 =>
      if b2 = true then (((op (notND v_3 D.non) fun b4 =>
      op (asB (D.bl b4)) fun b5 => if b5 = true then (op (ixD v_3 (D.int 1)) fun t6 =>
      op (ltD t6 v_2) fun b7 =>
      .ok (D.bl b7)) else (.ok (D.bl false)) : Res (D))).bind fun a3 =>
      .ok a3) else (((if (isBool a1) = true then (.ok true) else (if (!(isInt a1)) = true then (.ok true) else (op (ltD a1 (D.int 0)) fun b9 =>
      .ok b9)) : Res (Bool))).bind fun a8 =>
      if a8 = true then (.ok (D.bl false)) else (((op (notND v_3 D.non) fun b11 =>
      if b11 = true then (((op (ixD v_3 (D.int 1)) fun t13 =>
      op (ltD t13 v_2) fun b14 =>
      if b14 = true then (.ok true) else (op (ixD v_3 (D.int 0)) fun t15 =>
      op (ltD t15 a1) fun b16 =>
      .ok b16) : Res (Bool))).bind fun a12 =>
      .ok a12) else (.ok false) : Res (Bool))).bind fun a10 =>
      if a10 = true then (.ok (D.bl false)) else ((d_l_said [v_0, a1, v_1]).bind fun a17 =>
      ((op (notND a17 D.non) fun b19 =>
      if b19 = true then (op (ltD a17 v_2) fun b20 =>
      .ok b20) else (.ok false) : Res (Bool))).bind fun a18 =>
      if a18 = true then (.ok (D.bl false)) else (((op (isND a17 D.non) fun b22 =>
      op (asB (D.bl b22)) fun b23 => if b23 = true then (.ok (D.bl true)) else (op (eqD a1 (D.int 0)) fun b24 =>
      op (asB (D.bl b24)) fun b25 => if b25 = true then (.ok (D.bl true)) else (op (subD a1 (D.int 1)) fun t26 =>
      (d_l_said [v_0, t26, v_1]).bind fun a27 =>
      op (ltD a27 v_2) fun b28 =>
      .ok (D.bl b28))) : Res (D))).bind fun a21 =>
      .ok a21))))  | _ => .bad
abbrev n_l_goal_right : List Str := ["_law_long_here", "_law_company_here", "_law_goal", "_law_rest", "_law_times", "_law_there"]
theorem sc_l_goal_right : FnScope n_l_goal_right ["_law_long_here", "_law_company_here", "_law_goal", "_law_rest"] (defScope (topS 42)) := ⟨rfl, rfl, rfl, by decide +kernel, rfl, by decide +kernel, by decide +kernel⟩
theorem ok_l_goal_right (h : Txt K mg) : Df P w K mg base 26 "_law_goal_right" [.f, .f, .b, .b] d_l_goal_right (fun a => a) (fun a => []) false := by
  obtain ⟨fa, fd, F, B, M⟩ := h.f_l_goal_right
  refine ⟨fa, fd, _, fn_D (k := 25) F sc_l_goal_right rfl 0 (fun _ => rfl) rfl (fun X en cdv A outer s H E ds hX hr hn hL hp hl => ?_), M, F.kp, B⟩
  have hnd := (sc_l_goal_right).nd
  subst hX
  obtain ⟨v_0, v_1, v_2, v_3, rfl⟩ := len4 hl
  unfold d_l_goal_right
  exact (jss_cons (js_set 4 hnd (je_call (ok_t_times_until h) (hr.mono (by decide)) hL (ja_cons (je_fr 0 rfl (ja_cons (je_fr 1 rfl (ja_cons (je_bw 2 rfl (ja_nil (⟨_, [], _, fun a1 => [.fr v_0, .fr v_1, .bw v_2, .bw v_3, .un, .un], rfl, rfl, List.nodup_nil, rfl, fun _ => rfl, fun a1 _ =>
      ⟨[.fr v_0, .fr v_1, .bw v_2, .bw v_3, .fr a1, .un], rfl, rfl, rfl,
      jss_cons (js_if (jt_cmp cmp_isN rfl (je_fr 4 rfl (je_non (⟨_, _, _, rfl, rfl, rfl, fun b2 =>
      ⟨_, _, rfl, jss_one (js_ret (je_join (fun (a3 : D) => .fr a3) (fun a3 => [.fr v_0, .fr v_1, .bw v_2, .bw v_3, .fr a1, .un]) (je_and (je_cmpB cmp_notN rfl (je_bw 3 rfl (je_non (⟨_, _, _, rfl, rfl, rfl, fun b4 =>
      ⟨_, _, rfl, rfl, fun b5 => ⟨_, _, rfl, je_one (je_cmpB cmp_ltD rfl (je_ix ix_D (fun _ _ => rfl) (je_bw 3 rfl (je_int (⟨_, _, _, rfl, rfl, rfl, fun t6 _ =>
      je_bw 2 rfl (⟨_, _, _, rfl, rfl, rfl, fun b7 =>
      ⟨_, rfl, rfl, rfl⟩⟩)⟩))))), ⟨_, rfl, rfl, rfl⟩⟩⟩⟩))))) (fun a3 =>
      ⟨_, rfl, rfl, oa_n⟩))), jss_nil (jss_cons (js_if (jt_join (fun (a8 : Bool) => a8) (fun a8 => [.fr v_0, .fr v_1, .bw v_2, .bw v_3, .fr a1, .un]) (jt_w (jw_or (jt_bl (je_isi kit_bool h.n_isinstance h.n_bool (je_fr 4 rfl (⟨_, rfl, ⟨_, rfl, ⟨_, _, rfl, ⟨_, rfl, rfl, rfl⟩, jw_or (jt_not (jt_bl (je_isi kit_int h.n_isinstance h.n_int (je_fr 4 rfl (⟨_, rfl, ⟨_, rfl, ⟨_, _, rfl, ⟨_, rfl, rfl, rfl⟩, jw_or1 (jt_cmp cmp_ltD rfl (je_fr 4 rfl (je_int (⟨_, _, _, rfl, rfl, rfl, fun b9 =>
      ⟨_, rfl, rfl, rfl⟩⟩))))⟩⟩⟩)))))⟩⟩⟩)))))) (fun a8 =>
      ⟨_, _, rfl, jss_one (js_ret (je_bl (⟨_, rfl, rfl, oa_n⟩))), jss_nil (jss_cons (js_if (jt_join (fun (a10 : Bool) => a10) (fun a10 => [.fr v_0, .fr v_1, .bw v_2, .bw v_3, .fr a1, .un]) (jt_w (jw_and (jt_cmp cmp_notN rfl (je_bw 3 rfl (je_non (⟨_, _, _, rfl, rfl, rfl, fun b11 =>
      ⟨_, _, rfl, jw_and1 (jt_join (fun (a12 : Bool) => a12) (fun a12 => [.fr v_0, .fr v_1, .bw v_2, .bw v_3, .fr a1, .un]) (jt_w (jw_or (jt_cmp cmp_ltD rfl (je_ix ix_D (fun _ _ => rfl) (je_bw 3 rfl (je_int (⟨_, _, _, rfl, rfl, rfl, fun t13 _ =>
      je_bw 2 rfl (⟨_, _, _, rfl, rfl, rfl, fun b14 =>
      ⟨_, _, rfl, ⟨_, rfl, rfl, rfl⟩, jw_or1 (jt_cmp cmp_ltD rfl (je_ix ix_D (fun _ _ => rfl) (je_bw 3 rfl (je_int (⟨_, _, _, rfl, rfl, rfl, fun t15 _ =>
      je_fr 4 rfl (⟨_, _, _, rfl, rfl, rfl, fun b16 =>
      ⟨_, rfl, rfl, rfl⟩⟩)⟩)))))⟩⟩)⟩))))))) (fun a12 =>
      ⟨_, rfl, rfl, rfl⟩)), ⟨_, rfl, rfl, rfl⟩⟩⟩)))))) (fun a10 =>
      ⟨_, _, rfl, jss_one (js_ret (je_bl (⟨_, rfl, rfl, oa_n⟩))), jss_nil (jss_cons (js_set 5 hnd (je_call (ok_l_said h) (hr.mono (by decide)) hL (ja_cons (je_fr 0 rfl (ja_cons (je_fr 4 rfl (ja_cons (je_fr 1 rfl (ja_nil (⟨_, [], _, fun a17 => [.fr v_0, .fr v_1, .bw v_2, .bw v_3, .fr a1, .un], rfl, rfl, List.nodup_nil, rfl, fun _ => rfl, fun a17 _ =>
      ⟨[.fr v_0, .fr v_1, .bw v_2, .bw v_3, .fr a1, .fr a17], rfl, rfl, rfl,
      jss_cons (js_if (jt_join (fun (a18 : Bool) => a18) (fun a18 => [.fr v_0, .fr v_1, .bw v_2, .bw v_3, .fr a1, .fr a17]) (jt_w (jw_and (jt_cmp cmp_notN rfl (je_fr 5 rfl (je_non (⟨_, _, _, rfl, rfl, rfl, fun b19 =>
      ⟨_, _, rfl, jw_and1 (jt_cmp cmp_ltD rfl (je_fr 5 rfl (je_bw 2 rfl (⟨_, _, _, rfl, rfl, rfl, fun b20 =>
      ⟨_, rfl, rfl, rfl⟩⟩)))), ⟨_, rfl, rfl, rfl⟩⟩⟩)))))) (fun a18 =>
      ⟨_, _, rfl, jss_one (js_ret (je_bl (⟨_, rfl, rfl, oa_n⟩))), jss_nil (jss_one (js_ret (je_join (fun (a21 : D) => .fr a21) (fun a21 => [.fr v_0, .fr v_1, .bw v_2, .bw v_3, .fr a1, .fr a17]) (je_or (je_cmpB cmp_isN rfl (je_fr 5 rfl (je_non (⟨_, _, _, rfl, rfl, rfl, fun b22 =>
      ⟨_, _, rfl, rfl, fun b23 => ⟨_, _, rfl, ⟨_, rfl, rfl, rfl⟩, je_or (je_cmpB (cmp_eqD hr.hu) rfl (je_fr 4 rfl (je_int (⟨_, _, _, rfl, rfl, rfl, fun b24 =>
      ⟨_, _, rfl, rfl, fun b25 => ⟨_, _, rfl, ⟨_, rfl, rfl, rfl⟩, je_one (je_cmpB cmp_ltD rfl (je_call (ok_l_said h) (hr.mono (by decide)) hL (ja_cons (je_fr 0 rfl (ja_cons (je_bin op_subD (je_fr 4 rfl (je_int (⟨_, _, _, rfl, rfl, rfl, fun t26 _ =>
      ja_cons (je_fr 1 rfl (ja_nil (⟨_, [], _, fun a27 => [.fr v_0, .fr v_1, .bw v_2, .bw v_3, .fr a1, .fr a17], rfl, rfl, List.nodup_nil, rfl, fun _ => rfl, fun a27 _ =>
      je_bw 2 rfl (⟨_, _, _, rfl, rfl, rfl, fun b28 =>
      ⟨_, rfl, rfl, rfl⟩⟩)⟩)))⟩)))))))))⟩⟩⟩))))⟩⟩⟩))))) (fun a21 =>
      ⟨_, rfl, rfl, oa_n⟩))))⟩)))⟩⟩)))))))))))⟩))))⟩))))⟩⟩)))))⟩⟩)))))))))))

def d_l_rest_right : List D → Res (D)
  | [v_0, v_1, v_2] =>
      op (isND v_2 D.non) fun b1 =>
      if b1 = true then ((d_l_said [v_0, (D.int 1), v_1]).bind fun a2 =>
      op (gtD a2 v_1) fun b3 =>
      .ok (D.bl b3)) else (((if (!(isTup v_2)) = true then (.ok true) else (op (lenD [v_2]) fun t5 =>
      op (neD t5 (D.int 2)) fun b6 =>
      .ok b6) : Res (Bool))).bind fun a4 =>
      if a4 = true then (.ok (D.bl false)) else (op (asL (D.lst [(D.int 0), (D.int 1)])) fun ds7 =>
      (lcF ds7 (() : Unit) [] fun d9 s8 =>
      op (ixD v_2 (D.int 0)) fun t10 =>
      op (addD t10 d9) fun t11 =>
      (d_l_said [v_0, t11, v_1]).bind fun a12 =>
      .ok (some a12, ())).bind fun q13 =>
      ((op (ixD (D.lst q13.1) (D.int 1)) fun t15 =>
      op (notND t15 D.non) fun b16 =>
      if b16 = true then (op (ixD v_2 (D.int 1)) fun t17 =>
      op (ixD v_2 (D.int 1)) fun t18 =>
      op (neD (D.lst q13.1) (D.lst [t17, t18])) fun b19 =>
      .ok b19) else (.ok false) : Res (Bool))).bind fun a14 =>
      if a14 = true then (.ok (D.bl false)) else (((op (ixD (D.lst q13.1) (D.int 0)) fun t21 =>
      op (isND t21 D.non) fun b22 =>
      op (asB (D.bl b22)) fun b23 => if b23 = true then (.ok (D.bl true)) else (op (ixD v_2 (D.int 0)) fun t24 =>
      op (eqD t24 (D.int 0)) fun b25 =>
      op (asB (D.bl b25)) fun b26 => if b26 = true then (.ok (D.bl true)) else (op (ixD v_2 (D.int 0)) fun t27 =>
      op (subD t27 (D.int 1)) fun t28 =>
      (d_l_said [v_0, t28, v_1]).bind fun a29 =>
      op (ixD v_2 (D.int 1)) fun t30 =>
      op (ltD a29 t30) fun b31 =>
      .ok (D.bl b31))) : Res (D))).bind fun a20 =>
      .ok a20)))  | _ => .bad
abbrev n_l_rest_right : List Str := ["_law_long_here", "_law_company_here", "_law_rest", "_law_there", "_law_more"]
theorem sc_l_rest_right : FnScope n_l_rest_right ["_law_long_here", "_law_company_here", "_law_rest"] (defScope (topS 43)) := ⟨rfl, rfl, rfl, by decide +kernel, rfl, by decide +kernel, by decide +kernel⟩
theorem ok_l_rest_right (h : Txt K mg) : Df P w K mg base 26 "_law_rest_right" [.f, .f, .b] d_l_rest_right (fun a => a) (fun a => []) false := by
  obtain ⟨fa, fd, F, B, M⟩ := h.f_l_rest_right
  refine ⟨fa, fd, _, fn_D (k := 25) F sc_l_rest_right rfl 0 (fun _ => rfl) rfl (fun X en cdv A outer s H E ds hX hr hn hL hp hl => ?_), M, F.kp, B⟩
  have hnd := (sc_l_rest_right).nd
  subst hX
  obtain ⟨v_0, v_1, v_2, rfl⟩ := len3 hl
  unfold d_l_rest_right
  exact (jss_cons (js_if (jt_cmp cmp_isN rfl (je_bw 2 rfl (je_non (⟨_, _, _, rfl, rfl, rfl, fun b1 =>
      ⟨_, _, rfl, jss_one (js_ret (je_cmpB cmp_gtD rfl (je_call (ok_l_said h) (hr.mono (by decide)) hL (ja_cons (je_fr 0 rfl (ja_cons (je_int (ja_cons (je_fr 1 rfl (ja_nil (⟨_, [], _, fun a2 => [.fr v_0, .fr v_1, .bw v_2, .un, .un], rfl, rfl, List.nodup_nil, rfl, fun _ => rfl, fun a2 _ =>
      je_fr 1 rfl (⟨_, _, _, rfl, rfl, rfl, fun b3 =>
      ⟨_, rfl, rfl, oa_n⟩⟩)⟩))))))))))), jss_nil (jss_cons (js_if (jt_join (fun (a4 : Bool) => a4) (fun a4 => [.fr v_0, .fr v_1, .bw v_2, .un, .un]) (jt_w (jw_or (jt_not (jt_bl (je_isi kit_tup h.n_isinstance h.n_tuple (je_bw 2 rfl (⟨_, rfl, ⟨_, rfl, ⟨_, _, rfl, ⟨_, rfl, rfl, rfl⟩, jw_or1 (jt_cmp (cmp_neD hr.hu) rfl (je_callB c_len h.n_len (ja_cons (je_bw 2 rfl (ja_nil (⟨_, _, rfl, rfl, fun t5 _ =>
      je_int (⟨_, _, _, rfl, rfl, rfl, fun b6 =>
      ⟨_, rfl, rfl, rfl⟩⟩)⟩))))))⟩⟩⟩))))))) (fun a4 =>
      ⟨_, _, rfl, jss_one (js_ret (je_bl (⟨_, rfl, rfl, oa_n⟩))), jss_nil (jss_cons (js_setLc 3 [("_law_more", 4)] rfl hnd (ji_any (je_fz (je_lst (ja_cons (je_int (ja_cons (je_int (ja_nil (⟨_, rfl, rfl, ⟨_, _, rfl, rfl, fun ds7 =>
      ⟨_, _, _, (fun s8 => [.fr v_0, .fr v_1, .bw v_2, .un, .un]), (fun s8 => [.fr v_0, .fr v_1, .bw v_2, .un, .un]), rfl, (le_s (le_s (le_s (le_s (le_s (le_n)))))), rfl, fun _ he d9 s8 _ _ _ _ _ _ => ⟨[4], (fun _ h => h), jg_name 4 [.fr v_0, .fr v_1, .bw v_2, .un, .fr d9] hnd (fun _ _ _ _ _ => je_call (ok_l_said h) (hr.mono (by decide)) he.lk (ja_cons (je_fr 0 rfl (ja_cons (je_bin op_addD (je_ix ix_D (fun _ _ => rfl) (je_bw 2 rfl (je_int (⟨_, _, _, rfl, rfl, rfl, fun t10 _ =>
      je_fr 4 rfl (⟨_, _, _, rfl, rfl, rfl, fun t11 _ =>
      ja_cons (je_fr 1 rfl (ja_nil (⟨_, [], _, fun a12 => [.fr v_0, .fr v_1, .bw v_2, .un, .fr d9], rfl, rfl, List.nodup_nil, rfl, fun _ => rfl, fun a12 _ =>
      ⟨_, _, rfl, rfl, (le_s (le_s (le_s (le_s (le_s (le_n)))))), rfl⟩⟩)))⟩)⟩)))))))))⟩, fun _ => rfl, fun q13 => ⟨[.fr v_0, .fr v_1, .bw v_2, .mu (.lst q13.1), .un], rfl, rfl,
      jss_cons (js_if (jt_join (fun (a14 : Bool) => a14) (fun a14 => [.fr v_0, .fr v_1, .bw v_2, .mu (.lst q13.1), .un]) (jt_w (jw_and (jt_cmp cmp_notN rfl (je_ix ix_D (fun _ _ => rfl) (je_bo 3 rfl (.inl ⟨_, rfl⟩) (je_int (⟨_, _, _, rfl, rfl, rfl, fun t15 _ =>
      je_non (⟨_, _, _, rfl, rfl, rfl, fun b16 =>
      ⟨_, _, rfl, jw_and1 (jt_cmp (cmp_neD hr.hu) rfl (je_bo 3 rfl (.inl ⟨_, rfl⟩) (je_lst (ja_cons (je_ix ix_D (fun _ _ => rfl) (je_bw 2 rfl (je_int (⟨_, _, _, rfl, rfl, rfl, fun t17 _ =>
      ja_cons (je_ix ix_D (fun _ _ => rfl) (je_bw 2 rfl (je_int (⟨_, _, _, rfl, rfl, rfl, fun t18 _ =>
      ja_nil (⟨_, rfl, rfl, ⟨_, _, _, rfl, rfl, rfl, fun b19 =>
      ⟨_, rfl, rfl, rfl⟩⟩⟩)⟩))))⟩)))))))), ⟨_, rfl, rfl, rfl⟩⟩⟩)⟩))))))) (fun a14 =>
      ⟨_, _, rfl, jss_one (js_ret (je_bl (⟨_, rfl, rfl, oa_n⟩))), jss_nil (jss_one (js_ret (je_join (fun (a20 : D) => .fr a20) (fun a20 => [.fr v_0, .fr v_1, .bw v_2, .mu (.lst q13.1), .un]) (je_or (je_cmpB cmp_isN rfl (je_ix ix_D (fun _ _ => rfl) (je_bo 3 rfl (.inl ⟨_, rfl⟩) (je_int (⟨_, _, _, rfl, rfl, rfl, fun t21 _ =>
      je_non (⟨_, _, _, rfl, rfl, rfl, fun b22 =>
      ⟨_, _, rfl, rfl, fun b23 => ⟨_, _, rfl, ⟨_, rfl, rfl, rfl⟩, je_or (je_cmpB (cmp_eqD hr.hu) rfl (je_ix ix_D (fun _ _ => rfl) (je_bw 2 rfl (je_int (⟨_, _, _, rfl, rfl, rfl, fun t24 _ =>
      je_int (⟨_, _, _, rfl, rfl, rfl, fun b25 =>
      ⟨_, _, rfl, rfl, fun b26 => ⟨_, _, rfl, ⟨_, rfl, rfl, rfl⟩, je_one (je_cmpB cmp_ltD rfl (je_call (ok_l_said h) (hr.mono (by decide)) hL (ja_cons (je_fr 0 rfl (ja_cons (je_bin op_subD (je_ix ix_D (fun _ _ => rfl) (je_bw 2 rfl (je_int (⟨_, _, _, rfl, rfl, rfl, fun t27 _ =>
      je_int (⟨_, _, _, rfl, rfl, rfl, fun t28 _ =>
      ja_cons (je_fr 1 rfl (ja_nil (⟨_, [], _, fun a29 => [.fr v_0, .fr v_1, .bw v_2, .mu (.lst q13.1), .un], rfl, rfl, List.nodup_nil, rfl, fun _ => rfl, fun a29 _ =>
      je_ix ix_D (fun _ _ => rfl) (je_bw 2 rfl (je_int (⟨_, _, _, rfl, rfl, rfl, fun t30 _ =>
      ⟨_, _, _, rfl, rfl, rfl, fun b31 =>
      ⟨_, rfl, rfl, rfl⟩⟩⟩)))⟩)))⟩)⟩))))))))))⟩⟩⟩)⟩)))))⟩⟩⟩)⟩)))))) (fun a20 =>
      ⟨_, rfl, rfl, oa_n⟩))))⟩)))⟩⟩⟩⟩))))))))) (ok := by (refine blkOk_by ?_; first | (dsimp only [cxOf, envOfC, Cx.blk]; decide +kernel) | exact Eq.refl true))))⟩))))⟩⟩))))))

def d_l_near_right : List D → Res (D)
  | [v_0, v_1, v_2] =>
      op (rngD [(D.int 30)]) fun ds1 =>
      fbind (forF ds1 (v_1 : D) fun d4 s3 =>
      op (powD (D.int 10) (D.int 29)) fun t5 =>
      op (gtD s3 t5) fun b6 =>
      if b6 = true then (.ok (.rt ((D.bl true)))) else ((d_t_far_total [v_0, s3]).bind fun a7 =>
      ((op (notND v_2 D.non) fun b9 =>
      if b9 = true then (op (ixD v_2 (D.int 0)) fun t10 =>
      op (eqD t10 d4) fun b11 =>
      if b11 = true then (((op (neD a7 s3) fun b13 =>
      if b13 = true then (.ok true) else (op (ixD v_2 (D.int 1)) fun t14 =>
      op (neD t14 s3) fun b15 =>
      .ok b15) : Res (Bool))).bind fun a12 =>
      .ok a12) else (.ok false)) else (.ok false) : Res (Bool))).bind fun a8 =>
      if a8 = true then (.ok (.rt ((D.bl false)))) else (op (eqD a7 s3) fun b16 =>
      if b16 = true then (((op (eqD v_2 (D.tup [d4, s3])) fun b18 =>
      op (asB (D.bl b18)) fun b19 => if b19 = true then (op (addD s3 (D.int 1)) fun t20 =>
      (d_t_times_until [v_0, v_1, t20]).bind fun a21 =>
      op (isND a21 D.non) fun b22 =>
      .ok (D.bl b22)) else (.ok (D.bl false)) : Res (D))).bind fun a17 =>
      .ok (.rt (a17))) else (((op (addD s3 (D.int 1)) fun t24 =>
      (d_t_times_until [v_0, v_1, t24]).bind fun a25 =>
      op (addD d4 (D.int 1)) fun t26 =>
      op (neD a25 t26) fun b27 =>
      if b27 = true then (.ok true) else (((op (notND v_2 D.non) fun b29 =>
      if b29 = true then (op (ixD v_2 (D.int 0)) fun t30 =>
      op (eqD t30 d4) fun b31 =>
      .ok b31) else (.ok false) : Res (Bool))).bind fun a28 =>
      .ok a28) : Res (Bool))).bind fun a23 =>
      if a23 = true then (.ok (.rt ((D.bl false)))) else (.ok (.nx a7)))))) fun s32 =>
      ((op (isND v_2 D.non) fun b34 =>
      op (asB (D.bl b34)) fun b35 => if b35 = true then (.ok (D.bl true)) else (op (ixD v_2 (D.int 0)) fun t36 =>
      op (geD t36 (D.int 30)) fun b37 =>
      .ok (D.bl b37)) : Res (D))).bind fun a33 =>
      .ok a33  | _ => .bad
abbrev n_l_near_right : List Str := ["_law_long_here", "_law_company_here", "_law_rest", "_law_here", "_law_times", "_law_later"]
theorem sc_l_near_right : FnScope n_l_near_right ["_law_long_here", "_law_company_here", "_law_rest"] (defScope (topS 44)) := ⟨rfl, rfl, rfl, by decide +kernel, rfl, by decide +kernel, by decide +kernel⟩
theorem ok_l_near_right (h : Txt K mg) : Df P w K mg base 25 "_law_near_right" [.b, .f, .b] d_l_near_right (fun a => a) (fun a => []) false := by
  obtain ⟨fa, fd, F, B, M⟩ := h.f_l_near_right
  refine ⟨fa, fd, _, fn_D (k := 24) F sc_l_near_right rfl 0 (fun _ => rfl) rfl (fun X en cdv A outer s H E ds hX hr hn hL hp hl => ?_), M, F.kp, B⟩
  have hnd := (sc_l_near_right).nd
  subst hX
  obtain ⟨v_0, v_1, v_2, rfl⟩ := len3 hl
  unfold d_l_near_right
  exact (jss_cons (js_set 3 hnd (je_fr 1 rfl (⟨[.bw v_0, .fr v_1, .bw v_2, .fr v_1, .un, .un], rfl, rfl, rfl,
      jss_cons (js_for hp rfl (ji_range1 h.n_range (je_int (⟨_, _, rfl, rfl, fun ds1 =>
      ⟨_, _, _, (fun (s3 : D) => [.bw v_0, .fr v_1, .bw v_2, .fr s3, .un, .un]), rfl, (le_s (le_s (le_s (le_s (le_s (le_s (le_n))))))), fun _ he2 d4 s3 => ⟨[4], jg_name 4 [.bw v_0, .fr v_1, .bw v_2, .fr s3, .fr d4, .un] hnd (jss_cons (js_if (jt_cmp cmp_gtD rfl (je_fr 3 rfl (je_bin op_powD (je_int (je_int (⟨_, _, _, rfl, rfl, rfl, fun t5 _ =>
      ⟨_, _, _, rfl, rfl, rfl, fun b6 =>
      ⟨_, _, rfl, jss_one (js_ret (je_bl (⟨_, rfl, ⟨_, rfl, rfl, oa_n⟩⟩))), jss_nil (jss_cons (js_set 5 hnd (je_call (ok_t_far_total h) (hr.mono (by decide)) (he2.lk hL) (ja_cons (je_bw 0 rfl (ja_cons (je_fr 3 rfl (ja_nil (⟨_, [], _, fun a7 => [.bw v_0, .fr v_1, .bw v_2, .fr s3, .fr d4, .un], rfl, rfl, List.nodup_nil, rfl, fun _ => rfl, fun a7 _ =>
      ⟨[.bw v_0, .fr v_1, .bw v_2, .fr s3, .fr d4, .fr a7], rfl, rfl, rfl,
      jss_cons (js_if (jt_join (fun (a8 : Bool) => a8) (fun a8 => [.bw v_0, .fr v_1, .bw v_2, .fr s3, .fr d4, .fr a7]) (jt_w (jw_and (jt_cmp cmp_notN rfl (je_bw 2 rfl (je_non (⟨_, _, _, rfl, rfl, rfl, fun b9 =>
      ⟨_, _, rfl, jw_and (jt_cmp (cmp_eqD hr.hu) rfl (je_ix ix_D (fun _ _ => rfl) (je_bw 2 rfl (je_int (⟨_, _, _, rfl, rfl, rfl, fun t10 _ =>
      je_fr 4 rfl (⟨_, _, _, rfl, rfl, rfl, fun b11 =>
      ⟨_, _, rfl, jw_and1 (jt_join (fun (a12 : Bool) => a12) (fun a12 => [.bw v_0, .fr v_1, .bw v_2, .fr s3, .fr d4, .fr a7]) (jt_w (jw_or (jt_cmp (cmp_neD hr.hu) rfl (je_fr 5 rfl (je_fr 3 rfl (⟨_, _, _, rfl, rfl, rfl, fun b13 =>
      ⟨_, _, rfl, ⟨_, rfl, rfl, rfl⟩, jw_or1 (jt_cmp (cmp_neD hr.hu) rfl (je_ix ix_D (fun _ _ => rfl) (je_bw 2 rfl (je_int (⟨_, _, _, rfl, rfl, rfl, fun t14 _ =>
      je_fr 3 rfl (⟨_, _, _, rfl, rfl, rfl, fun b15 =>
      ⟨_, rfl, rfl, rfl⟩⟩)⟩)))))⟩⟩)))))) (fun a12 =>
      ⟨_, rfl, rfl, rfl⟩)), ⟨_, rfl, rfl, rfl⟩⟩⟩)⟩))))), ⟨_, rfl, rfl, rfl⟩⟩⟩)))))) (fun a8 =>
      ⟨_, _, rfl, jss_one (js_ret (je_bl (⟨_, rfl, ⟨_, rfl, rfl, oa_n⟩⟩))), jss_nil (jss_cons (js_if (jt_cmp (cmp_eqD hr.hu) rfl (je_fr 5 rfl (je_fr 3 rfl (⟨_, _, _, rfl, rfl, rfl, fun b16 =>
      ⟨_, _, rfl, jss_one (js_ret (je_join (fun (a17 : D) => .fr a17) (fun a17 => [.bw v_0, .fr v_1, .bw v_2, .fr s3, .fr d4, .fr a7]) (je_and (je_cmpB (cmp_eqD hr.hu) rfl (je_bw 2 rfl (je_tup (ja_cons (je_fr 4 rfl (ja_cons (je_fr 3 rfl (ja_nil (⟨_, rfl, rfl, ⟨_, _, _, rfl, rfl, rfl, fun b18 =>
      ⟨_, _, rfl, rfl, fun b19 => ⟨_, _, rfl, je_one (je_cmpB cmp_isN rfl (je_call (ok_t_times_until h) (hr.mono (by decide)) (he2.lk hL) (ja_cons (je_bw 0 rfl (ja_cons (je_fr 1 rfl (ja_cons (je_bin op_addD (je_fr 3 rfl (je_int (⟨_, _, _, rfl, rfl, rfl, fun t20 _ =>
      ja_nil (⟨_, [], _, fun a21 => [.bw v_0, .fr v_1, .bw v_2, .fr s3, .fr d4, .fr a7], rfl, rfl, List.nodup_nil, rfl, fun _ => rfl, fun a21 _ =>
      je_non (⟨_, _, _, rfl, rfl, rfl, fun b22 =>
      ⟨_, rfl, rfl, rfl⟩⟩)⟩)⟩))))))))))), ⟨_, rfl, rfl, rfl⟩⟩⟩⟩⟩)))))))))) (fun a17 =>
      ⟨_, rfl, ⟨_, rfl, rfl, oa_n⟩⟩))), jss_nil (jss_cons (js_if (jt_join (fun (a23 : Bool) => a23) (fun a23 => [.bw v_0, .fr v_1, .bw v_2, .fr s3, .fr d4, .fr a7]) (jt_w (jw_or (jt_cmp (cmp_neD hr.hu) rfl (je_call (ok_t_times_until h) (hr.mono (by decide)) (he2.lk hL) (ja_cons (je_bw 0 rfl (ja_cons (je_fr 1 rfl (ja_cons (je_bin op_addD (je_fr 3 rfl (je_int (⟨_, _, _, rfl, rfl, rfl, fun t24 _ =>
      ja_nil (⟨_, [], _, fun a25 => [.bw v_0, .fr v_1, .bw v_2, .fr s3, .fr d4, .fr a7], rfl, rfl, List.nodup_nil, rfl, fun _ => rfl, fun a25 _ =>
      je_bin op_addD (je_fr 4 rfl (je_int (⟨_, _, _, rfl, rfl, rfl, fun t26 _ =>
      ⟨_, _, _, rfl, rfl, rfl, fun b27 =>
      ⟨_, _, rfl, ⟨_, rfl, rfl, rfl⟩, jw_or1 (jt_join (fun (a28 : Bool) => a28) (fun a28 => [.bw v_0, .fr v_1, .bw v_2, .fr s3, .fr d4, .fr a7]) (jt_w (jw_and (jt_cmp cmp_notN rfl (je_bw 2 rfl (je_non (⟨_, _, _, rfl, rfl, rfl, fun b29 =>
      ⟨_, _, rfl, jw_and1 (jt_cmp (cmp_eqD hr.hu) rfl (je_ix ix_D (fun _ _ => rfl) (je_bw 2 rfl (je_int (⟨_, _, _, rfl, rfl, rfl, fun t30 _ =>
      je_fr 4 rfl (⟨_, _, _, rfl, rfl, rfl, fun b31 =>
      ⟨_, rfl, rfl, rfl⟩⟩)⟩))))), ⟨_, rfl, rfl, rfl⟩⟩⟩)))))) (fun a28 =>
      ⟨_, rfl, rfl, rfl⟩))⟩⟩⟩)))⟩)⟩))))))))))))) (fun a23 =>
      ⟨_, _, rfl, jss_one (js_ret (je_bl (⟨_, rfl, ⟨_, rfl, rfl, oa_n⟩⟩))), jss_nil (jss_one (js_set 3 hnd (je_fr 5 rfl (⟨[.bw v_0, .fr v_1, .bw v_2, .fr a7, .fr d4, .fr a7], rfl, rfl, rfl,
      ⟨_, rfl, (le_s (le_s (le_s (le_s (le_u (le_u (le_n)))))))⟩⟩))))⟩))))⟩⟩))))))⟩)))⟩⟩)))))))))⟩⟩⟩))))))))⟩, fun s32 =>
      jss_one (js_ret (je_join (fun (a33 : D) => .fr a33) (fun a33 => [.bw v_0, .fr v_1, .bw v_2, .fr s32, .un, .un]) (je_or (je_cmpB cmp_isN rfl (je_bw 2 rfl (je_non (⟨_, _, _, rfl, rfl, rfl, fun b34 =>
      ⟨_, _, rfl, rfl, fun b35 => ⟨_, _, rfl, ⟨_, rfl, rfl, rfl⟩, je_one (je_cmpB cmp_geD rfl (je_ix ix_D (fun _ _ => rfl) (je_bw 2 rfl (je_int (⟨_, _, _, rfl, rfl, rfl, fun t36 _ =>
      je_int (⟨_, _, _, rfl, rfl, rfl, fun b37 =>
      ⟨_, rfl, rfl, rfl⟩⟩)⟩)))))⟩⟩⟩))))) (fun a33 =>
      ⟨_, rfl, rfl, oa_n⟩)))⟩⟩))))⟩))))

def d_law : List D → Res (D)
  | [v_0] =>
      op (lenD [v_0]) fun t2 =>
      op (min2D [(D.int 6), t2]) fun t3 =>
      op (max2D [(D.int 1), t3]) fun t4 =>
      op (rngD [t4]) fun ds1 =>
      fbind (forF ds1 (() : Unit) fun d7 s6 =>
      (d_l_urn [v_0, d7]).bind fun a8 =>
      (d_l_far [(D.lst a8), (D.int 20), (D.int 3)]).bind fun a9 =>
      (((d_l_ball [(D.lst a9.2), (D.int 2)]).bind fun a43 =>
      op (eqD a43.1 (D.int 0)) fun b44 =>
      if b44 = true then ((d_l_ball [(D.lst a43.2), (D.int 2)]).bind fun a45 =>
      op (ixD (D.lst [(D.int 9), (D.int 200)]) a45.1) fun t46 =>
      op (powD (D.int 10) (D.int 3)) fun t47 =>
      (d_l_long 8 [(D.lst a45.2), (D.lst [(D.int 20), (D.int 4), t46]), (D.int 3), t47]).bind fun a48 =>
      .ok (a48.2.1, a48.1)) else (.ok (a43.2, a9.1)) : Res (List D × D))).bind fun s10 =>
      op (rngD [(D.int 2)]) fun ds11 =>
      fbind (forF ds11 (s10.1 : List D) fun d14 s13 =>
      (d_l_sayings 8 [s10.2]).bind fun a15 =>
      (d_l_company [(D.lst s13), a15]).bind fun a16 =>
      (d_t_rest_of [s10.2, a16.1]).bind fun a17 =>
      (((d_l_rest_right [s10.2, a16.1, a17]).bind fun a19 =>
      op (truD a19) fun b20 =>
      if (!b20) = true then (.ok true) else ((d_l_near_right [s10.2, a16.1, a17]).bind fun a21 =>
      op (truD a21) fun b22 =>
      .ok (!b22)) : Res (Bool))).bind fun a18 =>
      if a18 = true then (.ok (.rt ((.rt ((D.bl false)))))) else (op (addD a16.1 (D.int 1)) fun t23 =>
      (d_l_ball [(D.lst a16.2), (D.int 99)]).bind fun a24 =>
      op (addD t23 a24.1) fun t25 =>
      op (powD (D.int 10) (D.int 29)) fun t26 =>
      (d_l_ball [(D.lst a24.2), t26]).bind fun a27 =>
      op (addD a16.1 a27.1) fun t28 =>
      ((op (notND a17 D.non) fun b37 =>
      if b37 = true then (op (ixD a17 (D.int 1)) fun t38 =>
      op (ixD a17 (D.int 1)) fun t39 =>
      op (addD t39 (D.int 1)) fun t40 =>
      op (addD (D.lst [a16.1, t25, t28]) (D.lst [t38, t40])) fun t41 =>
      .ok t41) else (.ok (D.lst [a16.1, t25, t28])) : Res (D))).bind fun s29 =>
      op (asL s29) fun ds30 =>
      (lcF ds30 (() : Unit) [] fun d32 s31 =>
      (d_l_goal_right [s10.2, a16.1, d32, a17]).bind fun a33 =>
      op (truD a33) fun b34 =>
      if (!b34) = true then (.ok (some d32, ())) else (.ok (none, ()))).bind fun q35 =>
      op (neD (D.lst q35.1) (D.lst ([] : List D))) fun b36 =>
      if b36 = true then (.ok (.rt ((.rt ((D.bl false)))))) else (.ok (.nx a27.2)))) fun s42 =>
      .ok (.nx ())) fun s49 =>
      (((d_t_rest_of [(D.lst ([] : List D)), (D.int 7)]).bind fun a51 =>
      op (eqD a51 (D.tup [(D.int 0), (D.int 7)])) fun b52 =>
      op (asB (D.bl b52)) fun b53 => if b53 = true then ((d_t_times_until [(D.lst ([] : List D)), (D.int 7), (D.int 8)]).bind fun a54 =>
      op (isND a54 D.non) fun b55 =>
      .ok (D.bl b55)) else (.ok (D.bl false)) : Res (D))).bind fun a50 =>
      .ok a50  | _ => .bad
abbrev n_law : List Str := ["_law_script", "_law_k", "_law_urn_here", "_law_long_here", "_law_turn", "_law_company_here", "_law_rest", "_law_goals", "_law_goal"]
theorem sc_law : FnScope n_law ["_law_script"] (defScope (topS 45)) := ⟨rfl, rfl, rfl, by decide +kernel, rfl, by decide +kernel, by decide +kernel⟩
theorem fn_law (h : Txt K mg) {fa : Addr} {fd : FuncData} (F : L2.Fun K "law" "law" (topS 45) fa fd) : FnG P w K mg base 27 fa fd ["_law_script"] (SpD K mg [.b] d_law (fun a => a) (fun a => []) false) := by
  refine fn_D (k := 26) F sc_law rfl 0 (fun _ => rfl) rfl (fun X en cdv A outer s H E ds hX hr hn hL hp hl => ?_)
  have hnd := (sc_law).nd
  subst hX
  obtain ⟨v_0, rfl⟩ := len1 hl
  unfold d_law
  exact (jss_cons (js_for hp rfl (ji_range1 h.n_range (je_callB (c_max2 rfl) h.n_max (ja_cons (je_int (ja_cons (je_callB (c_min2 rfl) h.n_min (ja_cons (je_int (ja_cons (je_callB c_len h.n_len (ja_cons (je_bw 0 rfl (ja_nil (⟨_, _, rfl, rfl, fun t2 _ =>
      ja_nil (⟨_, _, rfl, rfl, fun t3 _ =>
      ja_nil (⟨_, _, rfl, rfl, fun t4 _ =>
      ⟨_, _, rfl, rfl, fun ds1 =>
      ⟨_, _, _, (fun (s6 : Unit) => [.bw v_0, .un, .un, .un, .un, .un, .un, .un, .un]), rfl, (le_s (le_s (le_s (le_s (le_s (le_s (le_s (le_s (le_s (le_n)))))))))), fun _ he5 d7 s6 => ⟨[1], jg_name 1 [.bw v_0, .fr d7, .un, .un, .un, .un, .un, .un, .un] hnd (jss_cons (js_set 2 hnd (je_call (ok_l_urn h) (hr.mono (by decide)) (he5.lk hL) (ja_cons (je_bw 0 rfl (ja_cons (je_fr 1 rfl (ja_nil (⟨_, [], _, fun a8 => [.bw v_0, .fr d7, .un, .un, .un, .un, .un, .un, .un], rfl, rfl, List.nodup_nil, rfl, fun _ => rfl, fun a8 _ =>
      ⟨[.bw v_0, .fr d7, .mu (.lst a8), .un, .un, .un, .un, .un, .un], rfl, rfl, rfl,
      jss_cons (js_set 3 hnd (je_call (ok_l_far h) (hr.mono (by decide)) (he5.lk hL) (ja_cons (je_bo 2 rfl (.inl ⟨_, rfl⟩) (ja_cons (je_int (ja_cons (je_int (ja_nil (⟨_, [2], _, fun a9 => [.bw v_0, .fr d7, .mu (.lst a9.2), .un, .un, .un, .un, .un, .un], rfl, rfl, nd1, rfl, fun _ => rfl, fun a9 _ =>
      ⟨[.bw v_0, .fr d7, .mu (.lst a9.2), .fr a9.1, .un, .un, .un, .un, .un], rfl, rfl, rfl,
      jss_cons (js_joinS (fun (s10 : List D × D) => [.bw v_0, .fr d7, .mu (.lst s10.1), .fr s10.2, .un, .un, .un, .un, .un]) (js_if (jt_cmp (cmp_eqD hr.hu) rfl (je_call (ok_l_ball h) (hr.mono (by decide)) (he5.lk hL) (ja_cons (je_bo 2 rfl (.inl ⟨_, rfl⟩) (ja_cons (je_int (ja_nil (⟨_, [2], _, fun a43 => [.bw v_0, .fr d7, .mu (.lst a43.2), .fr a9.1, .un, .un, .un, .un, .un], rfl, rfl, nd1, rfl, fun _ => rfl, fun a43 _ =>
      je_int (⟨_, _, _, rfl, rfl, rfl, fun b44 =>
      ⟨_, _, rfl, jss_one (js_set 3 hnd (je_callF 1 (ok_l_long h 8) (hr.mono (by decide)) (he5.lk hL) (ja_cons (je_bo 2 rfl (.inl ⟨_, rfl⟩) (ja_cons (je_lst (ja_cons (je_int (ja_cons (je_int (ja_cons (je_ix ix_D (fun _ _ => rfl) (je_lst (ja_cons (je_int (ja_cons (je_int (ja_nil (⟨_, rfl, rfl, je_call (ok_l_ball h) (hr.mono (by decide)) (he5.lk hL) (ja_cons (je_bo 2 rfl (.inl ⟨_, rfl⟩) (ja_cons (je_int (ja_nil (⟨_, [2], _, fun a45 => [.bw v_0, .fr d7, .mu (.lst a45.2), .fr a9.1, .un, .un, .un, .un, .un], rfl, rfl, nd1, rfl, fun _ => rfl, fun a45 _ =>
      ⟨_, _, _, rfl, rfl, rfl, fun t46 _ =>
      ja_nil (⟨_, rfl, rfl, ja_cons (je_int (ja_cons (je_bin op_powD (je_int (je_int (⟨_, _, _, rfl, rfl, rfl, fun t47 _ =>
      ja_nil (⟨_, _, [2, 9], _, fun a48 => [.bw v_0, .fr d7, .mu (.lst a48.2.1), .fr a9.1, .un, .un, .un, .un, .un], fun a48 => .mu (.lst a48.2.2), rfl, rfl, rfl, (by decide), rfl, fun _ => rfl, fun _ => ⟨rfl, rfl⟩, fun a48 _ =>
      ⟨[.bw v_0, .fr d7, .mu (.lst a48.2.1), .fr a48.1, .un, .un, .un, .un, .un], rfl, rfl, rfl,
      ⟨_, rfl, (le_s (le_s (le_s (le_s (le_s (le_s (le_s (le_s (le_s (le_n))))))))))⟩⟩⟩)⟩))))))⟩)⟩⟩))))))⟩))))))))))))))))))), jss_nil (⟨_, rfl, (le_s (le_s (le_s (le_s (le_s (le_s (le_s (le_s (le_s (le_n))))))))))⟩)⟩⟩)⟩))))))))) (fun s10 =>
      jss_one (js_for hp rfl (ji_range1 h.n_range (je_int (⟨_, _, rfl, rfl, fun ds11 =>
      ⟨_, _, _, (fun (s13 : List D) => [.bw v_0, .fr d7, .mu (.lst s13), .fr s10.2, .un, .un, .un, .un, .un]), rfl, (le_s (le_s (le_s (le_s (le_s (le_s (le_s (le_s (le_s (le_n)))))))))), fun _ he12 d14 s13 => ⟨[4], jg_name 4 [.bw v_0, .fr d7, .mu (.lst s13), .fr s10.2, .fr d14, .un, .un, .un, .un] hnd (jss_cons (js_set 5 hnd (je_call (ok_l_company h) (hr.mono (by decide)) (he12.lk (he5.lk hL)) (ja_cons (je_bo 2 rfl (.inl ⟨_, rfl⟩) (ja_cons (je_call (ok_l_sayings h 8) (hr.mono (by decide)) (he12.lk (he5.lk hL)) (ja_cons (je_fr 3 rfl (ja_nil (⟨_, [], _, fun a15 => [.bw v_0, .fr d7, .mu (.lst s13), .fr s10.2, .fr d14, .un, .un, .un, .un], rfl, rfl, List.nodup_nil, rfl, fun _ => rfl, fun a15 _ =>
      ja_nil (⟨_, [2], _, fun a16 => [.bw v_0, .fr d7, .mu (.lst a16.2), .fr s10.2, .fr d14, .un, .un, .un, .un], rfl, rfl, nd1, rfl, fun _ => rfl, fun a16 _ =>
      ⟨[.bw v_0, .fr d7, .mu (.lst a16.2), .fr s10.2, .fr d14, .fr a16.1, .un, .un, .un], rfl, rfl, rfl,
      jss_cons (js_set 6 hnd (je_call (ok_t_rest_of h) (hr.mono (by decide)) (he12.lk (he5.lk hL)) (ja_cons (je_fr 3 rfl (ja_cons (je_fr 5 rfl (ja_nil (⟨_, [], _, fun a17 => [.bw v_0, .fr d7, .mu (.lst a16.2), .fr s10.2, .fr d14, .fr a16.1, .un, .un, .un], rfl, rfl, List.nodup_nil, rfl, fun _ => rfl, fun a17 _ =>
      ⟨[.bw v_0, .fr d7, .mu (.lst a16.2), .fr s10.2, .fr d14, .fr a16.1, .fr a17, .un, .un], rfl, rfl, rfl,
      jss_cons (js_if (jt_join (fun (a18 : Bool) => a18) (fun a18 => [.bw v_0, .fr d7, .mu (.lst a16.2), .fr s10.2, .fr d14, .fr a16.1, .fr a17, .un, .un]) (jt_w (jw_or (jt_not (jt_tru (je_call (ok_l_rest_right h) (hr.mono (by decide)) (he12.lk (he5.lk hL)) (ja_cons (je_fr 3 rfl (ja_cons (je_fr 5 rfl (ja_cons (je_fr 6 rfl (ja_nil (⟨_, [], _, fun a19 => [.bw v_0, .fr d7, .mu (.lst a16.2), .fr s10.2, .fr d14, .fr a16.1, .fr a17, .un, .un], rfl, rfl, List.nodup_nil, rfl, fun _ => rfl, fun a19 _ =>
      ⟨_, _, rfl, rfl, fun b20 =>
      ⟨_, _, rfl, ⟨_, rfl, rfl, rfl⟩, jw_or1 (jt_not (jt_tru (je_call (ok_l_near_right h) (hr.mono (by decide)) (he12.lk (he5.lk hL)) (ja_cons (je_fr 3 rfl (ja_cons (je_fr 5 rfl (ja_cons (je_fr 6 rfl (ja_nil (⟨_, [], _, fun a21 => [.bw v_0, .fr d7, .mu (.lst a16.2), .fr s10.2, .fr d14, .fr a16.1, .fr a17, .un, .un], rfl, rfl, List.nodup_nil, rfl, fun _ => rfl, fun a21 _ =>
      ⟨_, _, rfl, rfl, fun b22 =>
      ⟨_, rfl, rfl, rfl⟩⟩⟩)))))))))))⟩⟩⟩))))))))))))) (fun a18 =>
      ⟨_, _, rfl, jss_one (js_ret (je_bl (⟨_, rfl, ⟨_, rfl, ⟨_, rfl, rfl, oa_n⟩⟩⟩))), jss_nil (jss_cons (js_set 7 hnd (je_fz (je_lst (ja_cons (je_fr 5 rfl (ja_cons (je_bin op_addD (je_bin op_addD (je_fr 5 rfl (je_int (⟨_, _, _, rfl, rfl, rfl, fun t23 _ =>
      je_call (ok_l_ball h) (hr.mono (by decide)) (he12.lk (he5.lk hL)) (ja_cons (je_bo 2 rfl (.inl ⟨_, rfl⟩) (ja_cons (je_int (ja_nil (⟨_, [2], _, fun a24 => [.bw v_0, .fr d7, .mu (.lst a24.2), .fr s10.2, .fr d14, .fr a16.1, .fr a17, .un, .un], rfl, rfl, nd1, rfl, fun _ => rfl, fun a24 _ =>
      ⟨_, _, _, rfl, rfl, rfl, fun t25 _ =>
      ja_cons (je_bin op_addD (je_fr 5 rfl (je_call (ok_l_ball h) (hr.mono (by decide)) (he12.lk (he5.lk hL)) (ja_cons (je_bo 2 rfl (.inl ⟨_, rfl⟩) (ja_cons (je_bin op_powD (je_int (je_int (⟨_, _, _, rfl, rfl, rfl, fun t26 _ =>
      ja_nil (⟨_, [2], _, fun a27 => [.bw v_0, .fr d7, .mu (.lst a27.2), .fr s10.2, .fr d14, .fr a16.1, .fr a17, .un, .un], rfl, rfl, nd1, rfl, fun _ => rfl, fun a27 _ =>
      ⟨_, _, _, rfl, rfl, rfl, fun t28 _ =>
      ja_nil (⟨_, rfl, rfl, ⟨[.bw v_0, .fr d7, .mu (.lst a27.2), .fr s10.2, .fr d14, .fr a16.1, .fr a17, .fr (D.lst [a16.1, t25, t28]), .un], rfl, rfl, rfl,
      jss_cons (js_joinS (fun (s29 : D) => [.bw v_0, .fr d7, .mu (.lst a27.2), .fr s10.2, .fr d14, .fr a16.1, .fr a17, .fr s29, .un]) (js_if (jt_cmp cmp_notN rfl (je_fr 6 rfl (je_non (⟨_, _, _, rfl, rfl, rfl, fun b37 =>
      ⟨_, _, rfl, jss_one (js_set 7 hnd (je_bin op_addD (je_fr 7 rfl (je_lst (ja_cons (je_ix ix_D (fun _ _ => rfl) (je_fr 6 rfl (je_int (⟨_, _, _, rfl, rfl, rfl, fun t38 _ =>
      ja_cons (je_bin op_addD (je_ix ix_D (fun _ _ => rfl) (je_fr 6 rfl (je_int (⟨_, _, _, rfl, rfl, rfl, fun t39 _ =>
      je_int (⟨_, _, _, rfl, rfl, rfl, fun t40 _ =>
      ja_nil (⟨_, rfl, rfl, ⟨_, _, _, rfl, rfl, rfl, fun t41 _ =>
      ⟨[.bw v_0, .fr d7, .mu (.lst a27.2), .fr s10.2, .fr d14, .fr a16.1, .fr a17, .fr t41, .un], rfl, rfl, rfl,
      ⟨_, rfl, (le_s (le_s (le_s (le_s (le_s (le_s (le_s (le_s (le_s (le_n))))))))))⟩⟩⟩⟩)⟩)⟩)))))⟩))))))))), jss_nil (⟨_, rfl, (le_s (le_s (le_s (le_s (le_s (le_s (le_s (le_s (le_s (le_n))))))))))⟩)⟩⟩))))) (fun s29 =>
      jss_one (js_if (jt_cmp (cmp_neD hr.hu) rfl (je_lc [("_law_goal", 8)] rfl hnd (ji_any (je_fr 7 rfl (⟨_, _, rfl, rfl, fun ds30 =>
      ⟨_, _, _, (fun s31 => [.bw v_0, .fr d7, .mu (.lst a27.2), .fr s10.2, .fr d14, .fr a16.1, .fr a17, .fr s29, .un]), (fun s31 => [.bw v_0, .fr d7, .mu (.lst a27.2), .fr s10.2, .fr d14, .fr a16.1, .fr a17, .fr s29, .un]), rfl, (le_s (le_s (le_s (le_s (le_s (le_s (le_s (le_s (le_s (le_n)))))))))), rfl, fun _ he d32 s31 _ _ _ _ _ _ => ⟨[8], (fun _ h => h), jg_name 8 [.bw v_0, .fr d7, .mu (.lst a27.2), .fr s10.2, .fr d14, .fr a16.1, .fr a17, .fr s29, .fr d32] hnd (fun _ _ _ _ _ => jt_not (jt_tru (je_call (ok_l_goal_right h) (hr.mono (by decide)) he.lk (ja_cons (je_fr 3 rfl (ja_cons (je_fr 5 rfl (ja_cons (je_fr 8 rfl (ja_cons (je_fr 6 rfl (ja_nil (⟨_, [], _, fun a33 => [.bw v_0, .fr d7, .mu (.lst a27.2), .fr s10.2, .fr d14, .fr a16.1, .fr a17, .fr s29, .fr d32], rfl, rfl, List.nodup_nil, rfl, fun _ => rfl, fun a33 _ =>
      ⟨_, _, rfl, rfl, fun b34 =>
      ⟨_, _, rfl, fun _ _ _ _ _ => je_fr 8 rfl (⟨_, _, rfl, rfl, (le_s (le_s (le_s (le_s (le_s (le_s (le_s (le_s (le_s (le_n)))))))))), rfl⟩), ⟨_, rfl, (le_s (le_s (le_s (le_s (le_s (le_s (le_s (le_s (le_s (le_n)))))))))), rfl⟩⟩⟩⟩)))))))))))))⟩, fun _ => rfl, fun q35 =>
      je_lst (ja_nil (⟨_, rfl, rfl, ⟨_, _, _, rfl, rfl, rfl, fun b36 =>
      ⟨_, _, rfl, jss_one (js_ret (je_bl (⟨_, rfl, ⟨_, rfl, ⟨_, rfl, rfl, oa_n⟩⟩⟩))), jss_nil (⟨_, rfl, (le_s (le_s (le_s (le_s (le_u (le_u (le_u (le_u (le_s (le_n))))))))))⟩)⟩⟩⟩))⟩⟩))) (ok := by (refine blkOk_by ?_; first | (dsimp only [cxOf, envOfC, Cx.blk]; decide +kernel) | exact Eq.refl true)))))))⟩⟩)⟩⟩)⟩))))))))))⟩⟩))))))⟩))))))))))))⟩)))⟩⟩))))))))⟩⟩)⟩)))))))))))⟩, fun s42 =>
      ⟨_, rfl, (le_s (le_u (le_u (le_u (le_s (le_s (le_s (le_s (le_s (le_n))))))))))⟩⟩⟩))))))⟩⟩))))))))))⟩⟩)))))))))⟩, fun s49 =>
      jss_one (js_ret (je_join (fun (a50 : D) => .fr a50) (fun a50 => [.bw v_0, .un, .un, .un, .un, .un, .un, .un, .un]) (je_and (je_cmpB (cmp_eqD hr.hu) rfl (je_call (ok_t_rest_of h) (hr.mono (by decide)) hL (ja_cons (je_lst (ja_nil (⟨_, rfl, rfl, ja_cons (je_int (ja_nil (⟨_, [], _, fun a51 => [.bw v_0, .un, .un, .un, .un, .un, .un, .un, .un], rfl, rfl, List.nodup_nil, rfl, fun _ => rfl, fun a51 _ =>
      je_tup (ja_cons (je_int (ja_cons (je_int (ja_nil (⟨_, rfl, rfl, ⟨_, _, _, rfl, rfl, rfl, fun b52 =>
      ⟨_, _, rfl, rfl, fun b53 => ⟨_, _, rfl, je_one (je_cmpB cmp_isN rfl (je_call (ok_t_times_until h) (hr.mono (by decide)) hL (ja_cons (je_lst (ja_nil (⟨_, rfl, rfl, ja_cons (je_int (ja_cons (je_int (ja_nil (⟨_, [], _, fun a54 => [.bw v_0, .un, .un, .un, .un, .un, .un, .un, .un], rfl, rfl, List.nodup_nil, rfl, fun _ => rfl, fun a54 _ =>
      je_non (⟨_, _, _, rfl, rfl, rfl, fun b55 =>
      ⟨_, rfl, rfl, rfl⟩⟩)⟩)))))⟩)))))), ⟨_, rfl, rfl, rfl⟩⟩⟩⟩⟩))))))⟩)))⟩))))))) (fun a50 =>
      ⟨_, rfl, rfl, oa_n⟩)))⟩⟩⟩)⟩)⟩))))))))))))))))

end
/-! ### numbers -/
def cnt : D → Bool
  | .int i => decide (0 ≤ i)
  | _ => false
theorem number_ok (d : D) : d_t_is_number [d] = .ok (.bl (cnt d)) := by
  unfold d_t_is_number
  cases d <;> first | rfl | skip
/-! ### sayings, rows -/
theorem i0S {s : Say} : ixD (eS s) (.int 0) = some (.int s.1) := rfl
theorem i1S {s : Say} : ixD (eS s) (.int 1) = some (eO s.2) := rfl
theorem isNO {o : Option Int} : isND (eO o) .non = some o.isNone := by cases o <;> rfl
theorem saying_ok {B : Int} {s : Say} (h : okS B s) : d_t_is_saying [eS s] = .ok (.bl true) := by
  obtain ⟨a, o⟩ := s
  obtain ⟨h1, h2, h3⟩ := h
  have e1 : lenD [eS (a, o)] = some (.int 2) := rfl
  have e2 : neD (.int 2) (.int 2) = some false := rfl
  have c1 : cnt (.int a) = true := decide_eq_true h1
  unfold d_t_is_saying
  dsimp only
  rw [if_neg (by simp [isTup, eS]), e1, op_s, e2, op_s, if_neg (by simp), i0S, op_s, number_ok, bind_s, c1, tru_ok, op_s, bind_s]
  rw [if_neg (by simp), i1S, op_s, isNO, op_s, asB_ok, op_s]
  cases o with
  | none => rfl
  | some b =>
    obtain ⟨h4, h5⟩ := h3 b rfl
    have c2 : cnt (.int b) = true := decide_eq_true (by omega)
    have e3 : eO (some b) = .int b := rfl
    rw [if_neg (by simp), e3, op_s, number_ok, bind_s, c2, asB_ok, op_s, if_pos rfl, op_s, op_s, geI, op_s, bind_s, bind_s]
    have h4' : a ≤ b := h4
    simp [h4']
theorem neednum_ok {c : Int} (h : 0 ≤ c) : d_t_need_number [.int c] = .ok .non := by
  unfold d_t_need_number
  dsimp only
  rw [number_ok, show cnt (.int c) = true from decide_eq_true h]; rfl

/-! ### loops, step by step -/
theorem forF_nx {S R : Type} {f : D → S → Res (LFlow S R)} {d : D} {ds : List D} {s s' : S} (h : f d s = .ok (.nx s')) : forF (d :: ds) s f = forF ds s' f := by
  conv => lhs; unfold forF
  rw [h]
theorem forF_rt {S R : Type} {f : D → S → Res (LFlow S R)} {d : D} {ds : List D} {s : S} {r : R} (h : f d s = .ok (.rt r)) : forF (d :: ds) s f = .ok (.ex r) := by
  conv => lhs; unfold forF
  rw [h]
theorem forF_no {S R : Type} {f : D → S → Res (LFlow S R)} {s : S} : forF [] s f = .ok (.nx s) := by
  unfold forF; rfl
theorem forS_c {S : Type} {f : D → S → Res S} {d : D} {ds : List D} {s s' : S} (h : f d s = .ok s') : forS (d :: ds) s f = forS ds s' f := by
  conv => lhs; unfold forS
  rw [h]; rfl
theorem forS_no {S : Type} {f : D → S → Res S} {s : S} : forS [] s f = .ok s := by
  unfold forS; rfl
theorem fb_nx {S R : Type} {s : S} {k : S → Res R} : fbind (.ok (.nx s)) k = k s := rfl
/-! ### loops that end -/
theorem whileS_go {S : Type} {t : S → Res Bool} {f : S → Res S} {P Q : S → Prop} (μ : S → Nat) (ht : ∀ s, P s → ∃ b, t s = .ok b ∧ (b = true → Ok (f s) fun s' => P s' ∧ μ s' < μ s) ∧ (b = false → Q s)) : ∀ (n : Nat) (s : S), P s → μ s < n → Ok (whileS n s t f) Q
  | 0, _, _, h => by omega
  | n + 1, s, hp, h => by
    obtain ⟨b, e, h1, h2⟩ := ht s hp
    unfold whileS
    rw [e, bind_s]
    cases b with
    | true =>
      rw [if_pos rfl]
      exact Ok.bnd (h1 rfl) fun s' ⟨p, l⟩ => whileS_go μ ht n s' p (by omega)
    | false =>
      rw [if_neg (by simp)]
      exact Ok.ret (h2 rfl)
/-! ### the numbers at which a table has steps -/

/-! ### long rows: sayings, and agains -/
inductive It where
  | say (s : Say) | again (n : Nat) (xs : List It)
def iter {α : Type} (f : α → α) : Nat → α → α
  | 0, a => a
  | n + 1, a => f (iter f n a)
theorem iter_add {α : Type} {f : α → α} {m : Nat} {a : α} : ∀ n, iter f (m + n) a = iter f n (iter f m a)
  | 0 => rfl
  | n + 1 => by show f (iter f (m + n) a) = f _; rw [iter_add n]
theorem iter_ge {f : Int → Int} (h : ∀ c, c ≤ f c) {c : Int} : ∀ n, c ≤ iter f n c
  | 0 => Int.le_refl _
  | n + 1 => Int.le_trans (iter_ge h n) (h _)
theorem iter_hi {f : Int → Int} {p : Nat} (h : ∀ c, f c ≤ c + p) {c : Int} : ∀ n : Nat, iter f n c ≤ c + (n * p : Nat)
  | 0 => by show c ≤ _; omega
  | n + 1 => by
    have h1 := iter_hi h (c := c) n
    have h2 := h (iter f n c)
    show f (iter f n c) ≤ _
    rw [Nat.add_mul, Nat.one_mul]
    omega
mutual
def It.tot : It → Int → Int
  | .say s => fun c => c + b2 (so s c)
  | .again n xs => iter (It.tots xs) n
def It.tots : List It → Int → Int
  | [] => fun c => c
  | x :: xs => fun c => x.tot (It.tots xs c)
end
mutual
def It.nx : It → Int → Int
  | .say s => fun m => BR.nx s m
  | .again n xs => iter (It.hand xs) n
def It.hand : List It → Int → Int
  | [] => fun m => m
  | x :: xs => fun m => It.hand xs (x.nx m)
end
mutual
def It.ppl : It → Nat
  | .say _ => 1
  | .again n xs => n * It.ppls xs
def It.ppls : List It → Nat
  | [] => 0
  | x :: xs => x.ppl + It.ppls xs
end
mutual
def It.dep : It → Nat
  | .say _ => 0
  | .again _ xs => It.deps xs + 1
def It.deps : List It → Nat
  | [] => 0
  | x :: xs => max x.dep (It.deps xs)
end
mutual
/-- sayings and agains written -/
def It.siz : It → Nat
  | .say _ => 1
  | .again _ xs => It.sizs xs + 1
def It.sizs : List It → Nat
  | [] => 0
  | x :: xs => x.siz + It.sizs xs
end
mutual
/-- the written sayings -/
def It.flt : It → List Say
  | .say s => [s]
  | .again _ xs => It.flts xs
def It.flts : List It → List Say
  | [] => []
  | x :: xs => x.flt ++ It.flts xs
end
theorem b2_lo (b : Bool) : 0 ≤ b2 b ∧ b2 b ≤ 1 := by cases b <;> simp [b2]
mutual
theorem It.tot_ge : ∀ (x : It) (c : Int), c ≤ x.tot c
  | .say s, c => by show c ≤ c + b2 (so s c); have := b2_lo (so s c); omega
  | .again n xs, c => iter_ge (It.tots_ge xs) n
theorem It.tots_ge : ∀ (xs : List It) (c : Int), c ≤ It.tots xs c
  | [], c => Int.le_refl _
  | x :: xs, c => Int.le_trans (It.tots_ge xs c) (It.tot_ge x _)
end
mutual
theorem It.tot_hi : ∀ (x : It) (c : Int), x.tot c ≤ c + x.ppl
  | .say s, c => by show c + b2 (so s c) ≤ c + (1 : Nat); have := b2_lo (so s c); omega
  | .again n xs, c => iter_hi (It.tots_hi xs) n
theorem It.tots_hi : ∀ (xs : List It) (c : Int), It.tots xs c ≤ c + It.ppls xs
  | [], c => by show c ≤ c + (0 : Nat); omega
  | x :: xs, c => by
    have h1 := It.tots_hi xs c
    have h2 := It.tot_hi x (It.tots xs c)
    show x.tot (It.tots xs c) ≤ c + ((x.ppl + It.ppls xs : Nat) : Int)
    omega
end
theorem It.ppls_append {ys : List It} : ∀ {xs : List It}, It.ppls (xs ++ ys) = It.ppls xs + It.ppls ys
  | [] => by show _ = 0 + _; rw [Nat.zero_add]; rfl
  | x :: xs => by show x.ppl + It.ppls (xs ++ ys) = x.ppl + It.ppls xs + _; rw [It.ppls_append]; omega
theorem It.deps_append {ys : List It} : ∀ {xs : List It}, It.deps (xs ++ ys) = max (It.deps xs) (It.deps ys)
  | [] => by show _ = max 0 _; rw [Nat.zero_max]; rfl
  | x :: xs => by show max x.dep (It.deps (xs ++ ys)) = max (max x.dep (It.deps xs)) _; rw [It.deps_append]; omega
theorem It.sizs_append {ys : List It} : ∀ {xs : List It}, It.sizs (xs ++ ys) = It.sizs xs + It.sizs ys
  | [] => by show _ = 0 + _; rw [Nat.zero_add]; rfl
  | x :: xs => by show x.siz + It.sizs (xs ++ ys) = x.siz + It.sizs xs + _; rw [It.sizs_append]; omega
theorem It.siz_pos : ∀ x : It, 1 ≤ x.siz
  | .say _ => Nat.le_refl _
  | .again _ xs => by show 1 ≤ It.sizs xs + 1; omega
theorem It.len_siz : ∀ {xs : List It}, xs.length ≤ It.sizs xs
  | [] => Nat.le_refl _
  | x :: xs => by
    have := It.len_siz (xs := xs)
    have := It.siz_pos x
    show xs.length + 1 ≤ x.siz + It.sizs xs
    omega
mutual
theorem It.flt_siz : ∀ x : It, x.flt.length ≤ x.siz
  | .say _ => Nat.le_refl _
  | .again _ xs => by have := It.flts_siz xs; show (It.flts xs).length ≤ It.sizs xs + 1; omega
theorem It.flts_siz : ∀ xs : List It, (It.flts xs).length ≤ It.sizs xs
  | [] => Nat.le_refl _
  | x :: xs => by
    have h1 := It.flts_siz xs
    have h2 := It.flt_siz x
    show (x.flt ++ It.flts xs).length ≤ x.siz + It.sizs xs
    rw [List.length_append]; omega
end
mutual
/-- all numbers below B, so are the people of each row within -/
def It.OkI (B : Int) : It → Prop
  | .say s => okS B s
  | .again n xs => (n : Int) < B ∧ (It.ppls xs : Int) < B ∧ It.OksI B xs
def It.OksI (B : Int) : List It → Prop
  | [] => True
  | x :: xs => It.OkI B x ∧ It.OksI B xs
end
theorem It.oks_append {B : Int} {ys : List It} : ∀ {xs : List It}, It.OksI B (xs ++ ys) ↔ It.OksI B xs ∧ It.OksI B ys
  | [] => ⟨fun h => ⟨trivial, h⟩, fun h => h.2⟩
  | x :: xs => by
    show It.OkI B x ∧ It.OksI B (xs ++ ys) ↔ (It.OkI B x ∧ It.OksI B xs) ∧ _
    rw [It.oks_append, and_assoc]
mutual
theorem It.flt_ok {B : Int} : ∀ x : It, It.OkI B x → ∀ s, s ∈ x.flt → okS B s
  | .say s, h, t, ht => by
    have e : t = s := List.mem_singleton.mp ht
    subst e; exact h
  | .again n xs, h, t, ht => It.flts_ok xs h.2.2 t ht
theorem It.flts_ok {B : Int} : ∀ xs : List It, It.OksI B xs → ∀ s, s ∈ It.flts xs → okS B s
  | [], h, t, ht => nomatch ht
  | x :: xs, h, t, ht => by
    rcases List.mem_append.mp (show t ∈ x.flt ++ It.flts xs from ht) with q | q
    · exact It.flt_ok x h.1 t q
    · exact It.flts_ok xs h.2 t q
end
/-! as data: rows are lists or tuples -/
mutual
def ItR : It → D → Prop
  | .say s, d => d = eS s
  | .again n xs, d => ∃ ds r, (r = .lst ds ∨ r = .tup ds) ∧ ItsR xs ds ∧ d = .tup [.str "again", .int n, r]
def ItsR : List It → List D → Prop
  | [], ds => ds = []
  | x :: xs, ds => ∃ d r, ds = d :: r ∧ ItR x d ∧ ItsR xs r
end
def RowR (xs : List It) (d : D) : Prop := ∃ ds, (d = .lst ds ∨ d = .tup ds) ∧ ItsR xs ds
def It.isAg : It → Bool
  | .say _ => false
  | .again _ _ => true
theorem ItR.ag {n : Nat} {xs : List It} {r : D} (h : RowR xs r) : ItR (.again n xs) (.tup [.str "again", .int n, r]) := by
  obtain ⟨ds, h1, h2⟩ := h
  exact ⟨ds, r, h1, h2, rfl⟩
theorem ItR.get {n : Nat} {xs : List It} {d : D} (h : ItR (.again n xs) d) : ∃ r, RowR xs r ∧ d = .tup [.str "again", .int n, r] := by
  obtain ⟨ds, r, h1, h2, h3⟩ := h
  exact ⟨r, ⟨ds, h1, h2⟩, h3⟩
theorem ItsR.append {ys : List It} {es : List D} (h' : ItsR ys es) : ∀ {xs : List It} {ds : List D}, ItsR xs ds → ItsR (xs ++ ys) (ds ++ es)
  | [], ds, h => by have h : ds = [] := h; subst h; exact h'
  | x :: xs, ds, h => by
    obtain ⟨d, r, rfl, h1, h2⟩ := h
    exact ⟨d, r ++ es, rfl, h1, ItsR.append h' h2⟩
theorem ItsR.len : ∀ {xs : List It} {ds : List D}, ItsR xs ds → ds.length = xs.length
  | [], ds, h => by have h : ds = [] := h; subst h; rfl
  | x :: xs, ds, h => by obtain ⟨d, r, rfl, h1, h2⟩ := h; rw [List.length_cons, List.length_cons, h2.len]
theorem RowR.as {xs : List It} {d : D} (h : RowR xs d) : ∃ ds, asL d = some ds ∧ ItsR xs ds ∧ (isLst d || isTup d) = true := by
  obtain ⟨ds, rfl | rfl, h2⟩ := h
  · exact ⟨ds, rfl, h2, rfl⟩
  · exact ⟨ds, rfl, h2, rfl⟩
theorem ItsR.one {x : It} {d : D} (h : ItR x d) : ItsR [x] [d] := ⟨d, [], rfl, h, rfl⟩
theorem ItsR.row {xs : List It} {ds : List D} (h : ItsR xs ds) : RowR xs (.lst ds) := ⟨ds, .inl rfl, h⟩
theorem mulN {a b : Int} (h0 : 0 ≤ a) (h : a < 2 ^ 4000) (g0 : 0 ≤ b) (g : b < 2 ^ 4000) : mulD (.int a) (.int b) = some (.int (a * b)) := if_pos (by
  have := log_le h0 h
  have := log_le g0 g
  omega)
theorem p4000 : (2 : Int) ^ 250 < 2 ^ 4000 := by
  have h : (2 : Nat) ^ 250 < 2 ^ 4000 := Nat.pow_lt_pow_right (by decide) (by decide)
  exact_mod_cast h
theorem mul_le_of_div {m o g : Int} (g0 : 0 < g) (h : m ≤ o / g) : m * g ≤ o := Int.le_trans (Int.mul_le_mul_of_nonneg_right h (Int.le_of_lt g0)) (Int.ediv_mul_le o (by omega))

/-! ### how many people a long row has -/
theorem issay_again {n : Int} {r : D} : d_t_is_saying [.tup [.str "again", .int n, r]] = .ok (.bl false) := by
  have e1 : lenD [D.tup [.str "again", .int n, r]] = some (.int 3) := rfl
  have e2 : neD (.int 3) (.int 2) = some true := rfl
  unfold d_t_is_saying
  dsimp only
  rw [if_neg (by simp [isTup]), e1, op_s, e2, op_s, if_pos rfl, bind_s, if_pos rfl]
theorem said_again {n : Nat} {r : D} {p : Nat} {f : List D → Res D} {B : Int} (hB : B ≤ 2 ^ 4000) (hn : (n : Int) < B) (hp : (p : Int) < B) (h : f [r] = .ok (.int p)) : d_t_people_said f [.tup [.str "again", .int n, r]] = .ok (.int ((n * p : Nat) : Int)) := by
  have e1 : lenD [D.tup [.str "again", .int n, r]] = some (.int 3) := rfl
  have e2 : neD (.int 3) (.int 3) = some false := rfl
  have i0 : ixD (D.tup [.str "again", .int n, r]) (.int 0) = some (.str "again") := rfl
  have i1 : ixD (D.tup [.str "again", .int n, r]) (.int 1) = some (.int n) := rfl
  have i2 : ixD (D.tup [.str "again", .int n, r]) (.int 2) = some r := rfl
  have e3 : notND (.int p) .non = some true := rfl
  have c1 : cnt (.int (n : Int)) = true := by show decide ((0 : Int) ≤ (n : Int)) = true; exact decide_eq_true (by omega)
  unfold d_t_people_said
  dsimp only
  rw [if_neg (by simp [isTup]), e1, op_s, e2, op_s, if_neg (by simp), i0, op_s, if_neg (by simp [isStr]), op_s, neS, op_s, bind_s, if_neg (by simp), i2, op_s, h, bind_s, i1, op_s, number_ok, bind_s, c1, tru_ok, op_s, if_pos rfl, e3, op_s, bind_s, if_pos rfl, op_s, mulN (by omega) (by omega) (by omega) (by omega), op_s, bind_s]
  rw [Int.natCast_mul]
theorem people_loop {B : Int} (hB : B ≤ 2 ^ 4000) {n : Nat} (ih : ∀ (xs : List It) (d : D), RowR xs d → It.deps xs < n → It.OksI B xs → d_t_people_of n [d] = .ok (.int (It.ppls xs))) {f : D → D → Res (LFlow D D)}
    (hf : ∀ d s : D, f d s = (((d_t_is_saying [d]).bind fun a6 => op (truD a6) fun b7 => if b7 = true then (.ok (D.int 1)) else ((d_t_people_said (d_t_people_of n) [d]).bind fun a8 => .ok a8) : Res (D))).bind fun a5 => op (isND a5 D.non) fun b9 => if b9 = true then (.ok (.rt (D.non))) else (op (iaddD s a5) fun t10 => .ok (.nx t10))) :
    ∀ (xs : List It) (ds : List D) (s : Int), ItsR xs ds → It.deps xs < n + 1 → It.OksI B xs → forF ds (.int s) f = .ok (.nx (.int (s + It.ppls xs)))
  | [], ds, s, h, _, _ => by
    have h : ds = [] := h
    subst h
    rw [forF_no, show s + ((It.ppls [] : Nat) : Int) = s from by show s + ((0 : Nat) : Int) = s; omega]
  | x :: xs, ds, s, h, hd, ho => by
    obtain ⟨d, r, rfl, h1, h2⟩ := h
    have hd' : max x.dep (It.deps xs) < n + 1 := hd
    have step : f d (.int s) = .ok (.nx (.int (s + x.ppl))) := by
      rw [hf]
      cases x with
      | say sa =>
        have h1 : d = eS sa := h1
        subst h1
        rw [saying_ok ho.1, bind_s, tru_ok, op_s, if_pos rfl, bind_s]
        rfl
      | again k ys =>
        obtain ⟨r', h3, rfl⟩ := h1.get
        obtain ⟨o1, o2, o3⟩ := ho.1
        have hd2 : It.deps ys + 1 ≤ max (It.deps ys + 1) (It.deps xs) := Nat.le_max_left _ _
        have hd3 : max (It.deps ys + 1) (It.deps xs) < n + 1 := hd
        rw [issay_again, bind_s, tru_ok, op_s, if_neg (by simp), said_again hB o1 o2 (ih ys r' h3 (by omega) o3), bind_s, bind_s]
        rfl
    rw [forF_nx step, people_loop hB ih hf xs r _ h2 (by omega) ho.2]
    show Res.ok (Flow.nx (D.int (s + x.ppl + It.ppls xs))) = Res.ok (Flow.nx (D.int (s + ((x.ppl + It.ppls xs : Nat) : Int))))
    rw [Int.natCast_add, Int.add_assoc]
theorem peopleof_ok {B : Int} (hB : B ≤ 2 ^ 4000) : ∀ (n : Nat) (xs : List It) (d : D), RowR xs d → It.deps xs < n → It.OksI B xs → d_t_people_of n [d] = .ok (.int (It.ppls xs))
  | 0, _, _, _, h, _ => by omega
  | n + 1, xs, d, h, hd, ho => by
    obtain ⟨ds, e, h2, h3⟩ := h.as
    unfold d_t_people_of
    rw [h3, if_neg (by simp), e, op_s, people_loop hB (peopleof_ok hB n) (fun _ _ => rfl) xs ds 0 h2 hd ho, fb_nx, Int.zero_add]
theorem islong_ok {B : Int} (hB : B ≤ 2 ^ 4000) {xs : List It} {d : D} (h : RowR xs d) (hd : It.deps xs < 8) (ho : It.OksI B xs) : d_t_is_long [d] = .ok (.bl (decide ((It.ppls xs : Int) ≤ 999999999999999999999999999999))) := by
  have e3 : notND (.int (It.ppls xs)) .non = some true := rfl
  unfold d_t_is_long
  dsimp only
  rw [peopleof_ok hB 8 xs d h hd ho, bind_s, e3, op_s, asB_ok, op_s, if_pos rfl, leI, op_s, bind_s]
theorem needlong_ok {B : Int} (hB : B ≤ 2 ^ 4000) {xs : List It} {d : D} (h : RowR xs d) (hd : It.deps xs < 8) (ho : It.OksI B xs) (hp : (It.ppls xs : Int) < 10 ^ 30) : d_t_need_long [d] = .ok .non := by
  have : (It.ppls xs : Int) ≤ 999999999999999999999999999999 := by omega
  unfold d_t_need_long
  dsimp only
  rw [islong_ok hB h hd ho, bind_s, decide_eq_true this, tru_ok, op_s, if_neg (by simp)]
theorem strOk_s {s : String} : PyData.strOk (Str.ofString s) = true := by
  rw [PyData.strOk, Str.ofString_eq_toList, Array.all_eq_true']
  intro x hx
  have hx : x ∈ s.toList.map Char.toNat := by simpa using hx
  obtain ⟨c, _, rfl⟩ := List.mem_map.mp hx
  have := c.valid
  refine decide_eq_true ?_
  show c.val.toNat < 0x110000
  rcases this with h | h
  · have : c.val.toNat < 0xD800 := h
    omega
  · exact h.2
theorem shp_ss {s : String} : Shp 0 (.str (Str.ofString s)) := ⟨by simp only [toP, PyData.canLay0]; exact strOk_s, by simp [toP, PyData.depth]⟩
theorem eqIS {i : Int} {s : String} : eqD (.int i) (.str (Str.ofString s)) = some false := by
  rw [eqD_shp (shp_int.mono (by omega)) (shp_ss.mono (by omega)) (fun _ _ _ z => nomatch z) (fun _ _ z => nomatch z) (fun _ _ z => nomatch z)]; rfl
theorem eqAg {d : D} {x : It} (h : ItR x d) : ∃ v, ixD d (.int 0) = some v ∧ eqD v (.str "again") = some x.isAg := by
  cases x with
  | say s => have h : d = eS s := h; subst h; exact ⟨.int s.1, rfl, eqIS⟩
  | again n xs => obtain ⟨r, _, rfl⟩ := h.get; exact ⟨.str "again", rfl, eqS⟩
theorem lpeople_ok {B : Int} (hB : B ≤ 2 ^ 4000) : ∀ (n : Nat) (xs : List It) (d : D), RowR xs d → It.deps xs < n → It.OksI B xs → d_l_people n [d] = .ok (.int (It.ppls xs))
  | 0, _, _, _, h, _ => by omega
  | n + 1, xs, d, h, hd, ho => by
    obtain ⟨ds, e, h2, h3⟩ := h.as
    unfold d_l_people
    rw [e, op_s]
    have go : ∀ (xs : List It) (ds : List D) (s : Int) (f : D → D → Res D), (∀ d s, f d s = (((op (ixD d (D.int 0)) fun t6 => op (eqD t6 (D.str "again")) fun b7 => if b7 = true then (op (ixD d (D.int 1)) fun t8 => op (ixD d (D.int 2)) fun t9 => (d_l_people n [t9]).bind fun a10 => op (mulD t8 a10) fun t11 => .ok t11) else (.ok (D.int 1)) : Res (D))).bind fun a5 => op (addD s a5) fun t12 => .ok t12)) →
        ItsR xs ds → It.deps xs < n + 1 → It.OksI B xs → forS ds (.int s) f = .ok (.int (s + It.ppls xs)) := by
      intro xs
      induction xs with
      | nil =>
        intro ds s f hf h hd ho
        have h : ds = [] := h
        subst h
        rw [forS_no, show s + ((It.ppls [] : Nat) : Int) = s from by show s + ((0 : Nat) : Int) = s; omega]
      | cons x xs ih =>
        intro ds s f hf h hd ho
        obtain ⟨d, r, rfl, h1, h2⟩ := h
        have hd' : max x.dep (It.deps xs) < n + 1 := hd
        obtain ⟨v, e1, e2⟩ := eqAg h1
        have step : f d (.int s) = .ok (.int (s + x.ppl)) := by
          rw [hf, e1, op_s, e2, op_s]
          cases x with
          | say sa => rw [if_neg (by simp [It.isAg]), bind_s, addI]; rfl
          | again k ys =>
            obtain ⟨r', h3, rfl⟩ := h1.get
            obtain ⟨o1, o2, o3⟩ := ho.1
            have i1 : ixD (D.tup [.str "again", .int k, r']) (.int 1) = some (.int k) := rfl
            have i2 : ixD (D.tup [.str "again", .int k, r']) (.int 2) = some r' := rfl
            have hd2 : It.deps ys + 1 ≤ max (It.deps ys + 1) (It.deps xs) := Nat.le_max_left _ _
            have hd3 : max (It.deps ys + 1) (It.deps xs) < n + 1 := hd
            rw [if_pos (by rfl), i1, op_s, i2, op_s, lpeople_ok hB n ys r' h3 (by omega) o3, bind_s, mulN (by omega) (by omega) (by omega) (by omega), op_s, bind_s, addI]
            show Res.ok (D.int (s + (k : Int) * (It.ppls ys : Int))) = Res.ok (D.int (s + ((k * It.ppls ys : Nat) : Int)))
            rw [Int.natCast_mul]
        rw [forS_c step, ih r _ f hf h2 (by omega) ho.2]
        show Res.ok (D.int (s + x.ppl + It.ppls xs)) = Res.ok (D.int (s + ((x.ppl + It.ppls xs : Nat) : Int)))
        rw [Int.natCast_add, Int.add_assoc]
    rw [go xs ds 0 _ (fun _ _ => rfl) h2 hd ho, bind_s, Int.zero_add]

/-! ### all written sayings -/
theorem lsayings_ok : ∀ (n : Nat) (xs : List It) (d : D), RowR xs d → It.deps xs < n → It.sizs xs < 800000 → d_l_sayings n [d] = .ok (.lst ((It.flts xs).map eS))
  | 0, _, _, _, h, _ => by omega
  | n + 1, xs, d, h, hd, ho => by
    obtain ⟨ds, e, h2, h3⟩ := h.as
    unfold d_l_sayings
    rw [e, op_s]
    have go : ∀ (xs : List It) (ds : List D) (s : List Say) (f : D → List D → Res (List D)), (∀ d s, f d s = (((op (ixD d (D.int 0)) fun t6 => op (eqD t6 (D.str "again")) fun b7 => if b7 = true then (op (ixD d (D.int 2)) fun t8 => (d_l_sayings n [t8]).bind fun a9 => .ok a9) else (.ok (D.lst [d])) : Res (D))).bind fun a5 => op (extL s [a5]) fun a10 => .ok a10.2)) →
        ItsR xs ds → It.deps xs < n + 1 → s.length + It.sizs xs < 800000 → forS ds (s.map eS) f = .ok ((s ++ It.flts xs).map eS) := by
      intro xs
      induction xs with
      | nil =>
        intro ds s f hf h hd ho
        have h : ds = [] := h
        subst h
        rw [forS_no, show s ++ It.flts [] = s from List.append_nil s]
      | cons x xs ih =>
        intro ds s f hf h hd ho
        obtain ⟨d, r, rfl, h1, h2⟩ := h
        have hd' : max x.dep (It.deps xs) < n + 1 := hd
        have ho' : s.length + (x.siz + It.sizs xs) < 800000 := ho
        have hl := It.flt_siz x
        obtain ⟨v, e1, e2⟩ := eqAg h1
        have ext : ∀ {ys : List Say}, s.length + ys.length < 900000 → extL (s.map eS) [.lst (ys.map eS)] = some (.non, (s ++ ys).map eS) := fun {ys} hl => by
          have : extL (s.map eS) [.lst (ys.map eS)] = if (s.map eS).length + (ys.map eS).length ≤ sizeLine then some (.non, s.map eS ++ ys.map eS) else none := rfl
          rw [this, if_pos (small_le (by rw [List.length_map, List.length_map]; omega)), List.map_append]
        have step : f d (s.map eS) = .ok ((s ++ x.flt).map eS) := by
          rw [hf, e1, op_s, e2, op_s]
          cases x with
          | say sa =>
            have h1 : d = eS sa := h1
            subst h1
            have q := ext (ys := [sa]) (by show s.length + 1 < _; omega)
            rw [if_neg (by simp [It.isAg]), bind_s, show D.lst [eS sa] = D.lst ([sa].map eS) from rfl, q, op_s]; rfl
          | again k ys =>
            obtain ⟨r', h3, rfl⟩ := h1.get
            have i2 : ixD (D.tup [.str "again", .int k, r']) (.int 2) = some r' := rfl
            have hd2 : It.deps ys + 1 ≤ max (It.deps ys + 1) (It.deps xs) := Nat.le_max_left _ _
            have hd3 : max (It.deps ys + 1) (It.deps xs) < n + 1 := hd
            have hz : (It.again k ys).siz = It.sizs ys + 1 := rfl
            have hl : (It.flts ys).length ≤ It.sizs ys + 1 := hl
            rw [if_pos (by rfl), i2, op_s, lsayings_ok n ys r' h3 (by omega) (by omega), bind_s, bind_s, ext (by omega), op_s]; rfl
        rw [forS_c step, ih r _ f hf h2 (by omega) (by rw [List.length_append]; omega)]
        rw [List.append_assoc]; rfl
    have q := go xs ds [] _ (fun _ _ => rfl) h2 hd (by simpa using ho)
    exact congrArg (fun z => z.bind fun s11 => Res.ok (D.lst s11)) q

/-! ### the parts of a long row -/
mutual
/-- d is the part of x, its numbers below K -/
def PartR (K : Int) : It → D → Prop
  | .say s, d => ∃ j : Int, 0 ≤ j ∧ j < K ∧ d = .obj "Spot" [("s8_said", false, eS s), ("s8_number", false, .int j), ("s8_many", false, .int 1)]
  | .again n xs, d => ∃ ps, PartsR K xs ps ∧ d = .obj "Over" [("s8_times", false, .int n), ("s8_parts", false, .lst ps), ("s8_once", false, .int (It.ppls xs)), ("s8_many", false, .int ((n * It.ppls xs : Nat) : Int))]
def PartsR (K : Int) : List It → List D → Prop
  | [], ds => ds = []
  | x :: xs, ds => ∃ d r, ds = d :: r ∧ PartR K x d ∧ PartsR K xs r
end
mutual
theorem PartR.mono {K L : Int} (l : K ≤ L) : ∀ (x : It) (d : D), PartR K x d → PartR L x d
  | .say s, d, ⟨j, h1, h2, e⟩ => ⟨j, h1, Int.lt_of_lt_of_le h2 l, e⟩
  | .again n xs, d, ⟨ps, h, e⟩ => ⟨ps, PartsR.mono l xs ps h, e⟩
theorem PartsR.mono {K L : Int} (l : K ≤ L) : ∀ (xs : List It) (ds : List D), PartsR K xs ds → PartsR L xs ds
  | [], ds, h => h
  | x :: xs, ds, ⟨d, r, e, h1, h2⟩ => ⟨d, r, e, PartR.mono l x d h1, PartsR.mono l xs r h2⟩
end
theorem PartsR.append {K : Int} {ys : List It} {es : List D} (h' : PartsR K ys es) : ∀ {xs : List It} {ds : List D}, PartsR K xs ds → PartsR K (xs ++ ys) (ds ++ es)
  | [], ds, h => by have h : ds = [] := h; subst h; exact h'
  | x :: xs, ds, h => by
    obtain ⟨d, r, rfl, h1, h2⟩ := h
    exact ⟨d, r ++ es, rfl, h1, PartsR.append h' h2⟩
theorem PartsR.one {K : Int} {x : It} {d : D} (h : PartR K x d) : PartsR K [x] [d] := ⟨d, [], rfl, h, rfl⟩
theorem PartsR.len {K : Int} : ∀ {xs : List It} {ds : List D}, PartsR K xs ds → ds.length = xs.length
  | [], ds, h => by have h : ds = [] := h; subst h; rfl
  | x :: xs, ds, h => by obtain ⟨d, r, rfl, h1, h2⟩ := h; rw [List.length_cons, List.length_cons, h2.len]
theorem part_many {K : Int} {x : It} {d : D} (h : PartR K x d) : fldD ["Spot", "Over"] "s8_many" d = some (.int x.ppl) := by
  cases x with
  | say s => obtain ⟨j, _, _, rfl⟩ := h; rfl
  | again n xs => obtain ⟨ps, _, rfl⟩ := h; rfl
theorem many_loop {K : Int} {f : D → Unit → Res (Option D × Unit)} (hf : ∀ d, f d () = op (fldD ["Spot", "Over"] "s8_many" d) fun t4 => .ok (some t4, ())) : ∀ {xs : List It} {ds : List D} {acc : List Int}, PartsR K xs ds → acc.length + xs.length < 900000 → ∃ ns : List Int, lcF ds () (acc.map D.int) f = .ok ((acc ++ ns).map D.int, ()) ∧ ns.sum = (It.ppls xs : Int)
  | [], ds, acc, h, _ => by
    have h : ds = [] := h
    subst h
    refine ⟨[], ?_, rfl⟩
    unfold lcF
    rw [List.append_nil]
  | x :: xs, ds, acc, h, hl => by
    obtain ⟨d, r, rfl, h1, h2⟩ := h
    rw [List.length_cons] at hl
    obtain ⟨ns, e, s⟩ := many_loop hf (acc := acc ++ [(x.ppl : Int)]) h2 (by rw [List.length_append, List.length_singleton]; omega)
    refine ⟨(x.ppl : Int) :: ns, ?_, ?_⟩
    · have hz : (acc.map D.int).length < sizeLine := small_lt (by rw [List.length_map]; omega)
      unfold lcF
      rw [hf, part_many h1, op_s]
      simp only [hz, if_true]
      rw [show acc.map D.int ++ [D.int x.ppl] = (acc ++ [(x.ppl : Int)]).map D.int from by rw [List.map_append]; rfl, e, List.append_assoc]; rfl
    · rw [List.sum_cons, s]
      show _ = ((x.ppl + It.ppls xs : Nat) : Int)
      omega
theorem laidmany_ok {K : Int} {xs : List It} {ds : List D} (h : PartsR K xs ds) (hl : xs.length < 900000) : d_t_laid_many [.lst ds] = .ok (.int (It.ppls xs)) := by
  obtain ⟨ns, e, s⟩ := many_loop (f := fun d3 s2 => op (fldD ["Spot", "Over"] "s8_many" d3) fun t4 => .ok (some t4, ())) (fun _ => rfl) (acc := []) h (by simpa using hl)
  have e1 : asL (.lst ds) = some ds := rfl
  have e' : lcF ds () [] (fun d3 (s2 : Unit) => op (fldD ["Spot", "Over"] "s8_many" d3) fun t4 => .ok (some t4, ())) = .ok (([] ++ ns).map D.int, ()) := e
  unfold d_t_laid_many
  dsimp only
  rw [e1, op_s, e', bind_s]
  have e2 : sumD [D.lst (([] ++ ns).map D.int)] = some (.int ns.sum) := by
    show (intsD _).map _ = _
    rw [ints_ok]; rfl
  rw [e2, op_s, s]
mutual
/-- how many sayings are written -/
def It.spt : It → Nat
  | .say _ => 1
  | .again _ xs => It.spts xs
def It.spts : List It → Nat
  | [] => 0
  | x :: xs => x.spt + It.spts xs
end
mutual
theorem It.spt_siz : ∀ x : It, x.spt ≤ x.siz
  | .say _ => Nat.le_refl _
  | .again _ xs => by have := It.spts_siz xs; show It.spts xs ≤ It.sizs xs + 1; omega
theorem It.spts_siz : ∀ xs : List It, It.spts xs ≤ It.sizs xs
  | [] => Nat.le_refl _
  | x :: xs => by
    have h1 := It.spts_siz xs
    have h2 := It.spt_siz x
    show x.spt + It.spts xs ≤ x.siz + It.sizs xs
    omega
end
theorem planted_ok {B K : Int} (hB : B ≤ 2 ^ 4000) : ∀ (n : Nat) (xs : List It) (d : D) (i : Int), RowR xs d → It.deps xs < n → It.OksI B xs → It.sizs xs < 800000 → 0 ≤ i → i + It.spts xs ≤ K → Ok (d_t_planted n [d, .int i]) fun a => ∃ ps, a = .tup [.lst ps, .int (i + It.spts xs)] ∧ PartsR K xs ps
  | 0, _, _, _, _, h, _, _, _, _ => by omega
  | n + 1, xs, d, i, h, hd, ho, hz, h0, hK => by
    obtain ⟨ds, e, h2, h3⟩ := h.as
    unfold d_t_planted
    rw [e, op_s]
    have go : ∀ (xs : List It) (ds : List D) (i : Int) (acc : List D) (f : D → D × List D → Res (D × List D)), (∀ d4 s3, f d4 s3 = (((d_t_is_saying [d4]).bind fun a6 => op (truD a6) fun b7 =>
      if b7 = true then ((d_Spot_init [d4, s3.1]).bind fun a8 => op (appL s3.2 [(D.obj "Spot" [("s8_said", false, a8.1), ("s8_number", false, a8.2.1), ("s8_many", false, a8.2.2)])]) fun a9 => op (iaddD s3.1 (D.int 1)) fun t10 => .ok (t10, a9.2))
      else (op (ixD d4 (D.int 2)) fun t11 => (d_t_planted n [t11, s3.1]).bind fun a12 => op (un2 a12) fun p13 => op (ixD d4 (D.int 1)) fun t14 => (d_Over_init [t14, p13.1]).bind fun a15 => op (appL s3.2 [(D.obj "Over" [("s8_times", false, a15.1), ("s8_parts", false, a15.2.1), ("s8_once", false, a15.2.2.1), ("s8_many", false, a15.2.2.2)])]) fun a16 => .ok (p13.2, a16.2)) : Res (D × List D))).bind fun s5 => .ok (s5.1, s5.2)) →
        ItsR xs ds → It.deps xs < n + 1 → It.OksI B xs → acc.length + It.sizs xs < 800000 → 0 ≤ i → i + It.spts xs ≤ K → Ok (forS ds (.int i, acc) f) fun s => ∃ ps, s = (.int (i + It.spts xs), acc ++ ps) ∧ PartsR K xs ps := by
      intro xs
      induction xs with
      | nil =>
        intro ds i acc f hf h hd ho hz h0 hK
        have h : ds = [] := h
        subst h
        rw [forS_no]
        refine Ok.ret ⟨[], ?_, rfl⟩
        rw [List.append_nil, show i + ((It.spts [] : Nat) : Int) = i from by show i + ((0 : Nat) : Int) = i; omega]
      | cons x xs ih =>
        intro ds i acc f hf h hd ho hz h0 hK
        obtain ⟨d, r, rfl, h1, h2⟩ := h
        have hd' : max x.dep (It.deps xs) < n + 1 := hd
        have hz' : acc.length + (x.siz + It.sizs xs) < 800000 := hz
        have hK' : i + ((x.spt + It.spts xs : Nat) : Int) ≤ K := hK
        have hsz := It.siz_pos x
        have step : Ok (f d (.int i, acc)) fun s => ∃ p, s = (.int (i + x.spt), acc ++ [p]) ∧ PartR K x p := by
          rw [hf]
          cases x with
          | say sa =>
            have h1 : d = eS sa := h1
            subst h1
            have hs : ((It.say sa).spt : Nat) = 1 := rfl
            rw [saying_ok ho.1, bind_s, tru_ok, op_s, if_pos rfl]
            have ei : d_Spot_init [eS sa, .int i] = .ok (eS sa, .int i, .int 1) := rfl
            have ea : iaddD (.int i) (.int 1) = some (.int (i + 1)) := rfl
            rw [ei, bind_s, app1 (ds := acc) (by omega), op_s, ea, op_s, bind_s]
            exact Ok.ret ⟨_, rfl, i, h0, by omega, rfl⟩
          | again k ys =>
            obtain ⟨r', h3, rfl⟩ := h1.get
            obtain ⟨o1, o2, o3⟩ := ho.1
            have i1 : ixD (D.tup [.str "again", .int k, r']) (.int 1) = some (.int k) := rfl
            have i2 : ixD (D.tup [.str "again", .int k, r']) (.int 2) = some r' := rfl
            have hd2 : It.deps ys + 1 ≤ max (It.deps ys + 1) (It.deps xs) := Nat.le_max_left _ _
            have hd3 : max (It.deps ys + 1) (It.deps xs) < n + 1 := hd
            have hs : (It.again k ys).spt = It.spts ys := rfl
            have hs2 : (It.again k ys).siz = It.sizs ys + 1 := rfl
            rw [hs] at hK' ⊢
            rw [hs2] at hz'
            rw [issay_again, bind_s, tru_ok, op_s, if_neg (by simp), i2, op_s]
            refine Ok.bnd (P := fun s5 => ∃ p, s5 = (.int (i + It.spts ys), acc ++ [p]) ∧ PartR K (.again k ys) p) ?_ fun s5 ⟨p, e5, hp⟩ => by subst e5; exact Ok.ret ⟨p, rfl, hp⟩
            refine Ok.bnd (planted_ok (K := K) hB n ys r' i h3 (by omega) o3 (by omega) h0 (by omega)) fun a12 ⟨ps, e12, hps⟩ => ?_
            subst e12
            have eu : un2 (D.tup [.lst ps, .int (i + It.spts ys)]) = some (.lst ps, .int (i + It.spts ys)) := rfl
            have hlen : ys.length ≤ It.sizs ys := It.len_siz
            have eo : d_Over_init [.int k, .lst ps] = .ok (.int k, .lst ps, .int (It.ppls ys), .int ((k * It.ppls ys : Nat) : Int)) := by
              unfold d_Over_init
              dsimp only
              rw [laidmany_ok hps (by omega), bind_s, mulN (by omega) (by omega) (by omega) (by omega), op_s, Int.natCast_mul]
            rw [eu, op_s, i1, op_s, eo, bind_s, app1 (ds := acc) (by omega), op_s]
            exact Ok.ret ⟨_, rfl, ps, hps, rfl⟩
        obtain ⟨s1, es1, p, rfl, hp⟩ := step
        rw [forS_c es1]
        refine Ok.mono (ih r (i + x.spt) (acc ++ [p]) f hf h2 (by omega) ho.2 (by rw [List.length_append, List.length_singleton]; omega) (by omega) (by omega)) fun s ⟨ps, e, hps⟩ => ?_
        subst e
        refine ⟨p :: ps, ?_, p, ps, rfl, hp, hps⟩
        rw [List.append_assoc]
        show (D.int (i + x.spt + It.spts xs), acc ++ p :: ps) = (D.int (i + ((x.spt + It.spts xs : Nat) : Int)), _)
        rw [Int.natCast_add, Int.add_assoc]
    refine Ok.bnd (go xs ds i [] _ (fun _ _ => rfl) h2 hd ho (by simpa using hz) h0 hK) fun s ⟨ps, e, hps⟩ => ?_
    subst e
    exact Ok.ret ⟨ps, rfl, hps⟩
theorem partsof_ok {B K : Int} (hB : B ≤ 2 ^ 4000) {xs : List It} {d : D} (h : RowR xs d) (hd : It.deps xs < 8) (ho : It.OksI B xs) (hz : It.sizs xs < 800000) (hp : (It.ppls xs : Int) < 10 ^ 30) (hK : (It.spts xs : Int) ≤ K) : Ok (d_t_parts_of [d]) fun a => ∃ ps, a = .lst ps ∧ PartsR K xs ps := by
  unfold d_t_parts_of
  dsimp only
  rw [needlong_ok hB h hd ho hp, bind_s]
  refine Ok.bnd (planted_ok (K := K) hB 8 xs d 0 h hd ho hz (by omega) (by omega)) fun a ⟨ps, e, hps⟩ => ?_
  subst e
  exact Ok.op rfl (Ok.ret ⟨ps, rfl, hps⟩)

/-! ### going through by whole times -/
def Sl (T : Int → Int) (n : Int) (o : Option Int) : Prop := (∀ s, o = some s → 0 ≤ s) ∧ ∀ d, 0 ≤ d → (∀ s, o = some s → d ≤ s) → T (n + d) = T n + d
def ls : Option Int → Option Int → Option Int
  | none, b => b
  | some a, none => some a
  | some a, some b => some (if b < a then b else a)
theorem lesser_ok : ∀ o p : Option Int, d_t_lesser_slack [eO o, eO p] = .ok (eO (ls o p))
  | none, b => by
    unfold d_t_lesser_slack
    dsimp only
    rw [show isND (eO none) .non = some true from rfl, op_s, if_pos rfl, bind_s, if_pos rfl, op_s, if_pos rfl, bind_s]
    rfl
  | some a, none => by
    unfold d_t_lesser_slack
    dsimp only
    rw [show isND (eO (some a)) .non = some false from rfl, op_s, if_neg (by simp), show isND (eO none) .non = some true from rfl, op_s, bind_s, if_pos rfl, op_s, if_neg (by simp), bind_s]
    rfl
  | some a, some b => by
    have e1 : eO (some a) = .int a := rfl
    have e2 : eO (some b) = .int b := rfl
    unfold d_t_lesser_slack
    dsimp only
    rw [show isND (eO (some a)) .non = some false from rfl, op_s, if_neg (by simp), show isND (eO (some b)) .non = some false from rfl, op_s, bind_s, if_neg (by simp), e1, e2, min2I, op_s]
    rfl
theorem ls_le {o p : Option Int} {d : Int} (h : ∀ s, ls o p = some s → d ≤ s) : (∀ s, o = some s → d ≤ s) ∧ ∀ s, p = some s → d ≤ s := by
  cases o with
  | none => exact ⟨(fun _ z => nomatch z), h⟩
  | some a =>
    cases p with
    | none => exact ⟨h, (fun _ z => nomatch z)⟩
    | some b =>
      have := h _ rfl
      refine ⟨fun s e => ?_, fun s e => ?_⟩ <;> cases e <;> split at this <;> omega
theorem ls_ge {o p : Option Int} (h : ∀ s, o = some s → 0 ≤ s) (g : ∀ s, p = some s → 0 ≤ s) : ∀ s, ls o p = some s → 0 ≤ s := by
  cases o with
  | none => exact g
  | some a =>
    cases p with
    | none => exact h
    | some b =>
      intro s e
      have e : some (if b < a then b else a) = some s := e
      cases e
      have := h _ rfl
      have := g _ rfl
      split <;> omega
theorem Sl.comp {f g : Int → Int} {n : Int} {o p : Option Int} (h : Sl f n o) (k : Sl g (f n) p) : Sl (fun x => g (f x)) n (ls o p) :=
  ⟨ls_ge h.1 k.1, fun d h0 hd => by
    obtain ⟨h1, h2⟩ := ls_le hd
    show g (f (n + d)) = g (f n) + d
    rw [h.2 d h0 h1, k.2 d h0 h2]⟩
theorem Sl.id {n : Int} : Sl (fun x => x) n none := ⟨(fun _ z => nomatch z), fun _ _ _ => rfl⟩
theorem iter_jump {T : Int → Int} {n g : Int} {o : Option Int} (h : Sl T n o) (hg : T n = n + g) (g0 : 0 ≤ g) {m : Nat} {d : Int} (h0 : 0 ≤ d) (hd : ∀ s, o = some s → d + m * g ≤ s) : ∀ k : Nat, k ≤ m + 1 → iter T k (n + d) = n + d + k * g
  | 0, _ => by show n + d = n + d + ((0 : Nat) : Int) * g; omega
  | k + 1, hk => by
    show T (iter T k (n + d)) = _
    rw [iter_jump h hg g0 h0 hd k (by omega)]
    have h1 : (0 : Int) ≤ (k : Int) * g := Int.mul_nonneg (by omega) g0
    have h2 : (k : Int) * g ≤ (m : Int) * g := Int.mul_le_mul_of_nonneg_right (by omega) g0
    have := h.2 (d + k * g) (by omega) (fun s e => by have := hd s e; omega)
    rw [Int.add_assoc, this, hg]
    have : ((k + 1 : Nat) : Int) * g = k * g + g := by rw [Int.natCast_add, Int.add_mul]; omega
    omega
theorem Sl.jump {T : Int → Int} {n g : Int} {o : Option Int} (h : Sl T n o) (hg : T n = n + g) (g0 : 0 ≤ g) {m : Nat} (hm : ∀ s, o = some s → m * g ≤ s) : iter T (m + 1) n = n + (m + 1 : Nat) * g ∧ Sl (iter T (m + 1)) n (o.map fun s => s - m * g) := by
  have e : iter T (m + 1) n = n + (m + 1 : Nat) * g := by
    have := iter_jump h hg g0 (m := m) (d := 0) (Int.le_refl _) (fun s e => by have := hm s e; omega) (m + 1) (Nat.le_refl _)
    rwa [Int.add_zero] at this
  refine ⟨e, fun s z => ?_, fun d h0 hd => ?_⟩
  · cases o with
    | none => cases z
    | some a =>
      have z : some (a - m * g) = some s := z
      cases z; have := hm _ rfl; omega
  · rw [e, iter_jump h hg g0 h0 (fun s z => by
      subst z
      have : d ≤ s - m * g := hd _ rfl
      omega) (m + 1) (Nat.le_refl _)]
    omega
/-! #### what is counted -/
def kI : Key → Int
  | .inl j => j
  | .inr _ => -1
structure CntR (K : Int) (kvs : List (Key × D)) (F : Bool → Int → Int) : Prop where
  nd : (kvs.map fun p => kI p.1).Nodup
  ok : ∀ p, p ∈ kvs → ∃ j : Int, p = (.inl j, .lst [.int (F false j), .int (F true j)]) ∧ 0 ≤ j ∧ j < K
  no : ∀ j : Int, j ∉ (kvs.map fun p => kI p.1) → F false j = 0 ∧ F true j = 0
theorem keys_len : ∀ (K : Nat) (l : List Int), l.Nodup → (∀ j, j ∈ l → 0 ≤ j ∧ j < K) → l.length ≤ K
  | 0, [], _, _ => Nat.le_refl _
  | 0, k :: l, _, h => by have := h k List.mem_cons_self; omega
  | K + 1, l, nd, h => by
    by_cases hm : (K : Int) ∈ l
    · have h1 := keys_len K (l.erase (K : Int)) (nd.erase _) (fun j hj => by
        obtain ⟨n1, n2⟩ := (List.Nodup.mem_erase_iff nd).mp hj
        have := h j n2
        omega)
      rw [List.length_erase_of_mem hm] at h1
      omega
    · have := keys_len K l nd (fun j hj => by
        have := h j hj
        have : j ≠ K := fun z => hm (by rw [← z]; exact hj)
        omega)
      omega
theorem CntR.len {K : Int} {kvs : List (Key × D)} {F : Bool → Int → Int} (h : CntR K kvs F) : kvs.length ≤ K.toNat := by
  have := keys_len K.toNat (kvs.map fun p => kI p.1) h.nd (fun k hk => by
    obtain ⟨p, hp, rfl⟩ := List.mem_map.mp hk
    obtain ⟨j, rfl, j0, j1⟩ := h.ok p hp
    exact ⟨j0, by show j < _; omega⟩)
  rwa [List.length_map] at this
theorem CntR.nil {K : Int} : CntR K [] (fun _ _ => 0) := ⟨List.nodup_nil, (fun _ h => nomatch h), fun _ _ => ⟨rfl, rfl⟩⟩
theorem CntR.get {K : Int} {kvs : List (Key × D)} {F : Bool → Int → Int} (h : CntR K kvs F) (j : Int) : (getK kvs (.inl j)).getD (.lst [.int 0, .int 0]) = .lst [.int (F false j), .int (F true j)] := by
  unfold getK
  cases e : kvs.find? fun kv => decide (kv.1 = Sum.inl j) with
  | none =>
    have := List.find?_eq_none.mp e
    obtain ⟨z1, z2⟩ := h.no j (fun hm => by
      obtain ⟨p, hp, ep⟩ := List.mem_map.mp hm
      obtain ⟨i, rfl, _, _⟩ := h.ok p hp
      have ep : i = j := ep
      subst ep
      exact this _ hp (by simp))
    rw [z1, z2]; rfl
  | some p =>
    obtain ⟨i, rfl, _, _⟩ := h.ok p (List.mem_of_find?_eq_some e)
    have hk := List.find?_some e
    have hk : (Sum.inl i : Key) = Sum.inl j := by simpa using hk
    cases hk
    rfl
def setF (F : Bool → Int → Int) (j a b : Int) : Bool → Int → Int := fun t i => if i = j then (if t = true then b else a) else F t i
theorem CntR.put {K : Int} {kvs : List (Key × D)} {F : Bool → Int → Int} (h : CntR K kvs F) {j a b : Int} (j0 : 0 ≤ j) (j1 : j < K) : CntR K (putD kvs (.inl j) (.lst [.int a, .int b])) (setF F j a b) := by
  unfold putD
  by_cases hz : (kvs.any fun kv => decide (kv.1 = Sum.inl j)) = true
  · rw [if_pos hz]
    have hk : ((kvs.map (fun kv => if kv.1 = Sum.inl j then (kv.1, D.lst [.int a, .int b]) else kv)).map fun p => kI p.1) = kvs.map fun p => kI p.1 := by
      rw [List.map_map]
      refine List.map_congr_left fun p _ => ?_
      show kI (if p.1 = Sum.inl j then (p.1, D.lst [.int a, .int b]) else p).1 = kI p.1
      split <;> rfl
    refine ⟨by rw [hk]; exact h.nd, fun p hp => ?_, fun i hi => ?_⟩
    · obtain ⟨q, hq, rfl⟩ := List.mem_map.mp hp
      obtain ⟨i, rfl, i0, i1⟩ := h.ok q hq
      by_cases e : i = j
      · subst e
        exact ⟨i, by simp [setF], i0, i1⟩
      · exact ⟨i, by simp [setF, e], i0, i1⟩
    · rw [hk] at hi
      have hne : i ≠ j := fun z => by
        subst z
        obtain ⟨p, hp, ep⟩ := List.any_eq_true.mp hz
        have ep : p.1 = Sum.inl i := by simpa using ep
        exact hi (List.mem_map.mpr ⟨p, hp, by rw [ep]; rfl⟩)
      simp only [setF, if_neg hne]
      exact h.no i hi
  · rw [if_neg hz]
    have hn : j ∉ (kvs.map fun p => kI p.1) := fun hm => hz (by
      obtain ⟨p, hp, ep⟩ := List.mem_map.mp hm
      obtain ⟨i, rfl, _, _⟩ := h.ok p hp
      have ep : i = j := ep
      subst ep
      exact List.any_eq_true.mpr ⟨_, hp, by simp⟩)
    refine ⟨?_, fun p hp => ?_, fun i hi => ?_⟩
    · rw [List.map_append]
      exact List.nodup_append.mpr ⟨h.nd, by simp, fun x hx y hy => by
        have : y = j := by simpa [kI] using hy
        subst this
        exact fun z => hn (z ▸ hx)⟩
    · rcases List.mem_append.mp hp with q | q
      · obtain ⟨i, rfl, i0, i1⟩ := h.ok p q
        have hne : i ≠ j := fun z => hn (List.mem_map.mpr ⟨_, q, z⟩)
        exact ⟨i, by simp [setF, hne], i0, i1⟩
      · have : p = (Sum.inl j, D.lst [.int a, .int b]) := by simpa using q
        subst this
        exact ⟨j, by simp [setF], j0, j1⟩
    · rw [List.map_append, List.mem_append, not_or] at hi
      have hne : i ≠ j := fun z => hi.2 (by simp [z, kI])
      simp only [setF, if_neg hne]
      exact h.no i hi.1
theorem CntR.congr {K : Int} {kvs : List (Key × D)} {F G : Bool → Int → Int} (h : CntR K kvs F) (e : ∀ t j, F t j = G t j) : CntR K kvs G := by
  have : F = G := funext fun t => funext fun j => e t j
  subst this; exact h
theorem CntR.noD {K : Int} {kvs : List (Key × D)} {F : Bool → Int → Int} (h : CntR K kvs F) : (kvs.all fun p => noD p.2) = true := List.all_eq_true.mpr fun p hp => by
  obtain ⟨j, rfl, _⟩ := h.ok p hp
  rfl
theorem add_ok {K : Int} {kvs more : List (Key × D)} {F M : Bool → Int → Int} {t : Int} (hK : K < 900000) (h : CntR K kvs F) (g : CntR K more M) (t0 : 0 ≤ t) (t1 : t < 2 ^ 4000) (hM : ∀ b j, 0 ≤ M b j ∧ M b j < 2 ^ 4000) : Ok (d_t_add_counts [.dic kvs, .dic more, .int t]) fun a => ∃ kvs', a = (.non, kvs') ∧ CntR K kvs' (fun b j => F b j + M b j * t) := by
  have e0 : itmL (.dic more) [(false, D.dic kvs), (true, D.int t)] = some (more.map fun p => .tup [kD p.1, p.2]) := if_pos ⟨g.noD, by
    show ((lkZ (false, D.dic kvs)) && ((lkZ (true, D.int t)) && true)) = true
    have : lkZ (false, D.dic kvs) = true := h.noD
    rw [this]; rfl⟩
  unfold d_t_add_counts
  dsimp only
  rw [e0, op_s]
  have go : ∀ (ms : List (Key × D)) (kvs : List (Key × D)) (F : Bool → Int → Int) (f : D → List (Key × D) → Res (List (Key × D))), (∀ d3 s2, f d3 s2 = op (un2 d3) fun p4 => op (asK (D.dic s2)) fun kv5 => op (dgetD (D.dic s2) p4.1 (D.lst [(D.int 0), (D.int 0)])) fun t6 => op (ixD t6 (D.int 0)) fun t7 => op (ixD p4.2 (D.int 0)) fun t8 => op (mulD t8 (D.int t)) fun t9 => op (addD t7 t9) fun t10 => op (ixD t6 (D.int 1)) fun t11 => op (ixD p4.2 (D.int 1)) fun t12 => op (mulD t12 (D.int t)) fun t13 => op (addD t11 t13) fun t14 => op (dputK s2 p4.1 (D.lst [t10, t14])) fun r15 => .ok r15) →
      (ms.map fun p => kI p.1).Nodup → (∀ p, p ∈ ms → ∃ j : Int, p = (.inl j, .lst [.int (M false j), .int (M true j)]) ∧ 0 ≤ j ∧ j < K) → CntR K kvs F → Ok (forS (ms.map fun p => D.tup [kD p.1, p.2]) kvs f) fun kvs' => CntR K kvs' (fun b j => if j ∈ (ms.map fun p => kI p.1) then F b j + M b j * t else F b j) := by
    intro ms
    induction ms with
    | nil =>
      intro kvs F f hf nd ok h
      rw [List.map_nil, forS_no]
      exact Ok.ret (h.congr fun b j => by simp)
    | cons p ms ih =>
      intro kvs F f hf nd ok h
      obtain ⟨j, rfl, j0, j1⟩ := ok p List.mem_cons_self
      rw [List.map_cons, List.nodup_cons] at nd
      have eu : un2 (D.tup [kD (Sum.inl j), .lst [.int (M false j), .int (M true j)]]) = some (.int j, .lst [.int (M false j), .int (M true j)]) := rfl
      have ea : asK (D.dic kvs) = some kvs := rfl
      have eg : dgetD (D.dic kvs) (.int j) (.lst [.int 0, .int 0]) = some (.lst [.int (F false j), .int (F true j)]) := by
        show some ((getK kvs (.inl j)).getD _) = _
        rw [h.get]
      have i0 : ∀ a b : D, ixD (.lst [a, b]) (.int 0) = some a := fun _ _ => rfl
      have i1 : ∀ a b : D, ixD (.lst [a, b]) (.int 1) = some b := fun _ _ => rfl
      have ep : ∀ d, dputK kvs (.int j) d = some (putD kvs (.inl j) d) := fun d => if_pos (small_lt (by have := h.len; omega))
      have step : f (D.tup [kD (Sum.inl j), .lst [.int (M false j), .int (M true j)]]) kvs = .ok (putD kvs (.inl j) (.lst [.int (F false j + M false j * t), .int (F true j + M true j * t)])) := by
        rw [hf, eu, op_s, ea, op_s, eg, op_s, i0, op_s, i0, op_s, mulN (hM _ _).1 (hM _ _).2 t0 t1, op_s, addI, op_s, i1, op_s, i1, op_s, mulN (hM _ _).1 (hM _ _).2 t0 t1, op_s, addI, op_s, ep, op_s]
      rw [List.map_cons, forS_c step]
      refine Ok.mono (ih _ _ f hf nd.2 (fun q hq => ok q (List.mem_cons_of_mem _ hq)) (h.put j0 j1)) fun kvs' c => c.congr fun b i => ?_
      by_cases e : i = j
      · subst e
        have nd1 : i ∉ (ms.map fun p => kI p.1) := nd.1
        rw [if_neg nd1, if_pos (by rw [List.map_cons]; exact List.mem_cons_self)]
        simp only [setF, if_true]
        cases b <;> rfl
      · have e1 : (i ∈ ((((Sum.inl j : Key), D.lst [.int (M false j), .int (M true j)]) :: ms).map fun p => kI p.1)) ↔ i ∈ (ms.map fun p => kI p.1) := by
          rw [List.map_cons, List.mem_cons]
          exact ⟨fun z => z.resolve_left e, .inr⟩
        simp only [setF, if_neg e, e1]
  obtain ⟨kvs', e1, c1⟩ := go more kvs F _ (fun _ _ => rfl) g.nd g.ok h
  rw [e1]
  refine Ok.ret ⟨kvs', rfl, c1.congr fun b j => ?_⟩
  by_cases hm : j ∈ (more.map fun p => kI p.1)
  · rw [if_pos hm]
  · rw [if_neg hm]
    obtain ⟨z1, z2⟩ := g.no j hm
    cases b
    · rw [z1]; omega
    · rw [z2]; omega

/-! #### the word of one saying -/
def wSl (s : Say) (c : Int) : Option Int := if c < s.1 then some (s.1 - 1 - c) else match s.2 with
  | none => none
  | some m => if c ≤ m then some (m - c) else none
def wF (s : Say) (c : Int) : Int := if c < s.1 then 1 else 0
theorem word_ok {s : Say} {c : Int} : d_t_word_of [eS s, .int c] = .ok (.tup [.lst [.int (wF s c), .int (b2 (so s c))], eO (wSl s c)]) := by
  obtain ⟨a, o⟩ := s
  have eu : un2 (eS (a, o)) = some (.int a, eO o) := rfl
  unfold d_t_word_of
  dsimp only
  rw [eu, op_s, ltI, op_s]
  by_cases h : c < a
  · rw [if_pos (by simpa using h), subI, op_s, subI, op_s]
    have e1 : wF (a, o) c = 1 := if_pos h
    have e2 : so (a, o) c = false := by
      have : decide (a ≤ c) = false := decide_eq_false (by omega)
      simp [so, this]
    have e3 : wSl (a, o) c = some (a - 1 - c) := if_pos h
    rw [e1, e2, e3]; rfl
  · rw [if_neg (by simpa using h)]
    have e1 : wF (a, o) c = 0 := if_neg h
    have ha : decide (a ≤ c) = true := decide_eq_true (by omega)
    cases o with
    | none =>
      have e2 : so (a, none) c = true := by simp [so, ha]
      have e3 : wSl (a, none) c = none := if_neg h
      rw [show isND (eO none) .non = some true from rfl, op_s, if_pos rfl, bind_s, if_pos rfl, op_s, if_pos rfl, bind_s, e1, e2, e3]; rfl
    | some m =>
      have em : eO (some m) = .int m := rfl
      rw [show isND (eO (some m)) .non = some false from rfl, op_s, if_neg (by simp), em, leI, op_s, bind_s]
      by_cases g : c ≤ m
      · have e2 : so (a, some m) c = true := by simp [so, ha, g]
        have e3 : wSl (a, some m) c = some (m - c) := by
          have : wSl (a, some m) c = if c ≤ m then some (m - c) else none := if_neg h
          rw [this, if_pos g]
        rw [if_pos (by simpa using g), op_s, if_neg (by simp), subI, op_s, bind_s, e1, e2, e3]; rfl
      · have e2 : so (a, some m) c = false := by simp [so, g]
        have e3 : wSl (a, some m) c = none := by
          have : wSl (a, some m) c = if c ≤ m then some (m - c) else none := if_neg h
          rw [this, if_neg g]
        rw [if_neg (by simpa using g), e1, e2, e3]; rfl
theorem word_sl {s : Say} {c : Int} : Sl (fun c => c + b2 (so s c)) c (wSl s c) := by
  obtain ⟨a, o⟩ := s
  refine ⟨fun r e => ?_, fun d h0 hd => ?_⟩
  · unfold wSl at e
    by_cases h : c < a
    · rw [if_pos h] at e; cases e; show 0 ≤ a - 1 - c; omega
    · rw [if_neg h] at e
      cases o with
      | none => cases e
      | some m =>
        have e : (if c ≤ m then some (m - c) else none) = some r := e
        by_cases g : c ≤ m
        · rw [if_pos g] at e; cases e; omega
        · rw [if_neg g] at e; cases e
  · have key : so (a, o) (c + d) = so (a, o) c := by
      unfold wSl at hd
      by_cases h : c < a
      · rw [if_pos h] at hd
        have : d ≤ a - 1 - c := hd _ rfl
        have e1 : decide (a ≤ c + d) = false := decide_eq_false (by omega)
        have e2 : decide (a ≤ c) = false := decide_eq_false (by omega)
        simp [so, e1, e2]
      · rw [if_neg h] at hd
        have e1 : decide (a ≤ c + d) = true := decide_eq_true (by omega)
        have e2 : decide (a ≤ c) = true := decide_eq_true (by omega)
        cases o with
        | none => simp [so, e1, e2]
        | some m =>
          have hd : ∀ s, (if c ≤ m then some (m - c) else none) = some s → d ≤ s := hd
          by_cases g : c ≤ m
          · rw [if_pos g] at hd
            have := hd _ rfl
            have e3 : decide (c + d ≤ m) = true := decide_eq_true (by omega)
            have e4 : decide (c ≤ m) = true := decide_eq_true g
            simp [so, e1, e2, e3, e4]
          · have e3 : decide (c + d ≤ m) = false := decide_eq_false (by omega)
            have e4 : decide (c ≤ m) = false := decide_eq_false g
            simp [so, e3, e4]
    show c + d + b2 (so (a, o) (c + d)) = c + b2 (so (a, o) c) + d
    rw [key]; omega
/-! #### through -/
/-- what one going through tells -/
def Thr (K : Int) (xs : List It) (c : Int) (a : D) : Prop := ∃ o kvs F, a = .tup [.int (It.tots xs c), eO o, .dic kvs] ∧ Sl (It.tots xs) c o ∧ CntR K kvs F ∧ (∀ b j, 0 ≤ F b j ∧ F b j ≤ It.ppls xs) ∧ (∀ B', It.OksI B' xs → ∀ s, o = some s → s + c < B')
theorem word_bnd {B : Int} {s : Say} {c : Int} (h : okS B s) : ∀ r, wSl s c = some r → r + c < B := fun r e => by
  obtain ⟨a, o⟩ := s
  obtain ⟨h1, h2, h3⟩ := h
  have h2 : a < B := h2
  unfold wSl at e
  by_cases h : c < a
  · rw [if_pos h] at e
    have e : a - 1 - c = r := Option.some.inj e
    omega
  · rw [if_neg h] at e
    cases o with
    | none => cases e
    | some m =>
      have e : (if c ≤ m then some (m - c) else none) = some r := e
      have := h3 m rfl
      by_cases g : c ≤ m
      · rw [if_pos g] at e
        have e : m - c = r := Option.some.inj e
        omega
      · rw [if_neg g] at e; cases e
theorem ls_some {o p : Option Int} {s : Int} (h : ls o p = some s) : o = some s ∨ p = some s := by
  cases o with
  | none => exact .inr h
  | some a =>
    cases p with
    | none => exact .inl h
    | some b =>
      have h : some (if b < a then b else a) = some s := h
      have h := Option.some.inj h
      split at h
      · exact .inr (by rw [h])
      · exact .inl (by rw [h])
theorem iter_bnd {xs : List It} {c : Int} {k n : Nat} (h : k ≤ n) : It.tots xs (iter (It.tots xs) k c) - iter (It.tots xs) k c ≤ It.ppls xs ∧ 0 ≤ It.tots xs (iter (It.tots xs) k c) - iter (It.tots xs) k c := by
  have := It.tots_ge xs (iter (It.tots xs) k c)
  have := It.tots_hi xs (iter (It.tots xs) k c)
  omega
theorem over_ok {K B : Int} (hB : B ≤ 2 ^ 120) (hK : K < 900000) {n : Nat} {xs : List It} {ps : List D} {f : List D → Res D} (hn : (n : Int) < B) (hp : (It.ppls xs : Int) < B) (hf : ∀ c : Int, Ok (f [.lst ps, .int c]) (Thr K xs c)) (c : Int) (d : D) (hd : d = .obj "Over" [("s8_times", false, .int n), ("s8_parts", false, .lst ps), ("s8_once", false, .int (It.ppls xs)), ("s8_many", false, .int ((n * It.ppls xs : Nat) : Int))]) :
    Ok (d_t_through_over f [d, .int c]) fun a => ∃ o kvs F, a = .tup [.int (iter (It.tots xs) n c), eO o, .dic kvs] ∧ Sl (iter (It.tots xs) n) c o ∧ CntR K kvs F ∧ (∀ b j, 0 ≤ F b j ∧ F b j ≤ ((n * It.ppls xs : Nat) : Int)) ∧ (∀ B', It.OksI B' xs → ∀ s, o = some s → s + c < B') := by
  have e1 : fldD ["Over"] "s8_times" d = some (.int n) := by subst hd; rfl
  have e2 : fldD ["Over"] "s8_parts" d = some (.lst ps) := by subst hd; rfl
  unfold d_t_through_over
  dsimp only
  rw [e1, op_s]
  refine Ok.bnd (whileS_go (P := fun s => ∃ (k : Nat) (o : Option Int) (kvs : List (Key × D)) (F : Bool → Int → Int), k ≤ n ∧ s = (.int (iter (It.tots xs) k c), eO o, kvs, .int ((n - k : Nat) : Int)) ∧ Sl (iter (It.tots xs) k) c o ∧ CntR K kvs F ∧ (∀ b j, 0 ≤ F b j ∧ F b j ≤ ((k * It.ppls xs : Nat) : Int)) ∧ (∀ B', It.OksI B' xs → ∀ s, o = some s → s + c < B'))
    (Q := fun s => ∃ (o : Option Int) (kvs : List (Key × D)) (F : Bool → Int → Int), s = (.int (iter (It.tots xs) n c), eO o, kvs, .int 0) ∧ Sl (iter (It.tots xs) n) c o ∧ CntR K kvs F ∧ (∀ b j, 0 ≤ F b j ∧ F b j ≤ ((n * It.ppls xs : Nat) : Int)) ∧ (∀ B', It.OksI B' xs → ∀ s, o = some s → s + c < B'))
    (fun s => match s.2.2.2 with | .int x => x.toNat | _ => 0) ?_ _ _ ⟨0, none, [], fun _ _ => 0, Nat.zero_le _, rfl, ⟨(fun _ z => nomatch z), fun _ _ _ => rfl⟩, CntR.nil, fun _ _ => ⟨Int.le_refl 0, by show (0 : Int) ≤ _; omega⟩, fun _ _ _ z => nomatch z⟩ (by show ((n : Nat) : Int).toNat < _; omega)) ?_
  · rintro _ ⟨k, o, kvs, F, hk, rfl, sl, cn, bd, nn⟩
    refine ⟨decide ((0 : Int) < ((n - k : Nat) : Int)), rfl, fun hb => ?_, fun hb => ?_⟩
    · have hkn : k < n := by have := of_decide_eq_true hb; omega
      dsimp only
      rw [e2, op_s]
      refine Ok.bnd (hf _) ?_
      rintro _ ⟨o2, kv2, F2, rfl, sl2, cn2, bd2, nn2⟩
      obtain ⟨g1, g0⟩ := iter_bnd (xs := xs) (c := c) (k := k) (n := n) hk
      have eu : un3 (D.tup [.int (It.tots xs (iter (It.tots xs) k c)), eO o2, .dic kv2]) = some (.int (It.tots xs (iter (It.tots xs) k c)), eO o2, .dic kv2) := rfl
      rw [eu, op_s]
      dsimp only
      rw [subI, op_s]
      generalize eg : It.tots xs (iter (It.tots xs) k c) - iter (It.tots xs) k c = g at g0 g1 ⊢
      have hg : It.tots xs (iter (It.tots xs) k c) = iter (It.tots xs) k c + g := by omega
      -- how many more
      have more : Ok ((((op (isND (eO o2) D.non) fun b11 => if b11 = true then (.ok true) else (op (eqD (.int g) (D.int 0)) fun b12 => .ok b12) : Res (Bool))).bind fun a10 => if a10 = true then (op (subD (.int ((n - k : Nat) : Int)) (D.int 1)) fun t13 => .ok t13) else (op (subD (.int ((n - k : Nat) : Int)) (D.int 1)) fun t14 => op (fdivD (eO o2) (.int g)) fun t15 => op (min2D [t14, t15]) fun t16 => .ok t16) : Res (D))) fun a => ∃ m : Nat, a = .int m ∧ k + m + 1 ≤ n ∧ ∀ s, o2 = some s → m * g ≤ s := by
        rw [isNO, op_s]
        cases o2 with
        | none =>
          rw [show (none : Option Int).isNone = true from rfl, if_pos rfl, bind_s, if_pos rfl, subI, op_s]
          exact Ok.ret ⟨n - k - 1, by congr 1; omega, by omega, fun s z => nomatch z⟩
        | some s =>
          rw [show (some s).isNone = false from rfl, if_neg (by simp), eqI, op_s, bind_s]
          have s0 := sl2.1 s rfl
          by_cases hz : g = 0
          · rw [if_pos (by simpa using hz), subI, op_s]
            exact Ok.ret ⟨n - k - 1, by congr 1; omega, by omega, fun s' z => by cases z; rw [hz, Int.mul_zero]; exact s0⟩
          · rw [if_neg (by simpa using hz), subI, op_s, show eO (some s) = .int s from rfl, divI (by omega) (by omega), op_s, min2I, op_s]
            have q0 : 0 ≤ s / g := Int.ediv_nonneg s0 g0
            refine Ok.ret ⟨(if s / g < ((n - k : Nat) : Int) - 1 then s / g else ((n - k : Nat) : Int) - 1).toNat, ?_, ?_, fun s' z => ?_⟩
            · congr 1; split <;> omega
            · split <;> omega
            · cases z
              refine mul_le_of_div (by omega) ?_
              split <;> omega
      refine Ok.bnd more ?_
      rintro _ ⟨m, rfl, hm, hms⟩
      obtain ⟨j1, j2⟩ := sl2.jump hg g0 hms
      have gb : g < 2 ^ 4000 := by omega
      have mg0 : (0 : Int) ≤ (m : Int) * g := Int.mul_nonneg (by omega) g0
      rw [mulN (by omega) (by omega) g0 gb, op_s, show iaddD (.int (It.tots xs (iter (It.tots xs) k c))) (.int ((m : Int) * g)) = some (.int (It.tots xs (iter (It.tots xs) k c) + (m : Int) * g)) from rfl, op_s]
      have own : ((op (isND (eO o2) D.non) fun b20 => if b20 = true then (.ok D.non) else (op (some (D.int ((m : Int) * g))) fun t21 => op (subD (eO o2) t21) fun t22 => .ok t22) : Res (D))) = .ok (eO (o2.map fun s => s - m * g)) := by
        rw [isNO, op_s]
        cases o2 with
        | none => rfl
        | some s => rw [show (some s).isNone = false from rfl, if_neg (by simp), op_s, show eO (some s) = .int s from rfl, subI, op_s]; rfl
      rw [own, bind_s, lesser_ok, bind_s, addI, op_s]
      refine Ok.bnd (add_ok hK cn cn2 (t := (m : Int) + 1) (by omega) (by omega) fun b j => ⟨(bd2 b j).1, by have := (bd2 b j).2; omega⟩) ?_
      rintro _ ⟨kv3, rfl, cn3⟩
      rw [op_s, subI, op_s]
      have ek : iter (It.tots xs) (k + (m + 1)) c = It.tots xs (iter (It.tots xs) k c) + (m : Int) * g := by
        rw [iter_add, j1, hg, Int.natCast_add, Int.add_mul]; omega
      refine Ok.ret ⟨⟨k + (m + 1), ls o (o2.map fun s => s - m * g), kv3, _, by omega, ?_, ?_, cn3, fun b j => ?_, fun B' hc s' es => ?_⟩, ?_⟩
      · rw [ek]
        congr 4
        omega
      · have := Sl.comp (g := iter (It.tots xs) (m + 1)) sl j2
        refine ⟨this.1, fun d h0 hd => ?_⟩
        have e := fun a : Int => iter_add (f := It.tots xs) (m := k) (a := a) (m + 1)
        rw [e, e]
        exact this.2 d h0 hd
      · have h1 := bd b j
        have h2 := bd2 b j
        have h3 : F2 b j * ((m : Int) + 1) ≤ (It.ppls xs : Int) * ((m : Int) + 1) := Int.mul_le_mul_of_nonneg_right h2.2 (by omega)
        have h4 : 0 ≤ F2 b j * ((m : Int) + 1) := Int.mul_nonneg h2.1 (by omega)
        refine ⟨by omega, ?_⟩
        have e5 : (((k + (m + 1)) * It.ppls xs : Nat) : Int) = ((k * It.ppls xs : Nat) : Int) + (It.ppls xs : Int) * ((m : Int) + 1) := by
          rw [Nat.add_mul, Int.natCast_add, Int.natCast_mul (m + 1), Int.mul_comm, Int.natCast_add]; rfl
        rw [e5]; omega
      · have hk2 : c ≤ iter (It.tots xs) k c := iter_ge (It.tots_ge xs) k
        rcases ls_some es with z | z
        · exact nn B' hc s' z
        · cases o2 with
          | none => cases z
          | some s2 =>
            have z : s2 - (m : Int) * g = s' := Option.some.inj z
            have := nn2 B' hc s2 rfl
            omega
      · show (((n - k : Nat) : Int) - ((m : Int) + 1)).toNat < (((n - k : Nat) : Int)).toNat
        omega
    · have hkn : k = n := by have := of_decide_eq_false hb; omega
      subst hkn
      exact ⟨o, kvs, F, by rw [Nat.sub_self]; rfl, sl, cn, bd, nn⟩
  · rintro _ ⟨o, kvs, F, rfl, sl, cn, bd, nn⟩
    exact Ok.ret ⟨o, kvs, F, rfl, sl, cn, bd, nn⟩
theorem through_ok {K B : Int} (hB : B ≤ 2 ^ 120) (hK : K < 900000) : ∀ (n : Nat) (xs : List It) (ps : List D), PartsR K xs ps → It.deps xs < n → It.OksI B xs → ∀ c : Int, Ok (d_t_through n [.lst ps, .int c]) (Thr K xs c)
  | 0, _, _, _, h, _, _ => by omega
  | n + 1, xs, ps, h, hd, ho, c => by
    have er : revD (.lst ps) = some (.lst ps.reverse) := rfl
    have ea : asL (.lst ps.reverse) = some ps.reverse := rfl
    unfold d_t_through
    rw [er, op_s, ea, op_s]
    have go : ∀ (xs : List It) (ps : List D) (f : D → D × D × List (Key × D) → Res (D × D × List (Key × D))), (∀ d5 s4, f d5 s4 = ((op (isO ["Over", "Spot"] "Spot" d5) fun b9 =>
      if b9 = true then (op (fldD ["Spot"] "s8_said" d5) fun t10 => (d_t_word_of [t10, s4.1]).bind fun a11 => op (un2 a11) fun p12 => op (ixD p12.1 (D.int 1)) fun t13 => op (iaddD s4.1 t13) fun t14 => op (fldD ["Spot"] "s8_number" d5) fun t15 => op (pairD [(t15, p12.1)]) fun ks16 => .ok (t14, p12.2, (D.dic (mergeD [] ks16))))
      else ((d_t_through_over (d_t_through n) [d5, s4.1]).bind fun a17 => op (un3 a17) fun p18 => .ok (p18.1, p18.2.1, p18.2.2)) : Res (D × D × D))).bind fun s6 => (d_t_add_counts [(D.dic s4.2.2), s6.2.2, (D.int 1)]).bind fun a7 => (d_t_lesser_slack [s4.2.1, s6.2.1]).bind fun a8 => .ok (s6.1, a8, a7.2)) →
        PartsR K xs ps → It.deps xs < n + 1 → It.OksI B xs → Ok (forS ps.reverse (.int c, D.non, ([] : List (Key × D))) f) fun s => ∃ o kvs F, s = (.int (It.tots xs c), eO o, kvs) ∧ Sl (It.tots xs) c o ∧ CntR K kvs F ∧ (∀ b j, 0 ≤ F b j ∧ F b j ≤ It.ppls xs) ∧ (∀ B', It.OksI B' xs → ∀ s, o = some s → s + c < B') := by
      intro xs
      induction xs with
      | nil =>
        intro ps f hf h hd ho
        have h : ps = [] := h
        subst h
        rw [List.reverse_nil, forS_no]
        exact Ok.ret ⟨none, [], _, rfl, Sl.id, CntR.nil, fun _ _ => ⟨Int.le_refl 0, by show (0 : Int) ≤ _; omega⟩, fun _ _ _ z => nomatch z⟩
      | cons x xs ih =>
        intro ps f hf h hd ho
        obtain ⟨d, r, rfl, h1, h2⟩ := h
        have hd' : max x.dep (It.deps xs) < n + 1 := hd
        rw [List.reverse_cons, forS_append]
        refine Ok.bnd (ih r f hf h2 (by omega) ho.2) ?_
        rintro _ ⟨o, kvs, F, rfl, sl, cn, bd, nn⟩
        rw [forS_one, hf]
        have part : Ok ((op (isO ["Over", "Spot"] "Spot" d) fun b9 =>
          if b9 = true then (op (fldD ["Spot"] "s8_said" d) fun t10 => (d_t_word_of [t10, .int (It.tots xs c)]).bind fun a11 => op (un2 a11) fun p12 => op (ixD p12.1 (D.int 1)) fun t13 => op (iaddD (.int (It.tots xs c)) t13) fun t14 => op (fldD ["Spot"] "s8_number" d) fun t15 => op (pairD [(t15, p12.1)]) fun ks16 => .ok (t14, p12.2, (D.dic (mergeD [] ks16))))
          else ((d_t_through_over (d_t_through n) [d, .int (It.tots xs c)]).bind fun a17 => op (un3 a17) fun p18 => .ok (p18.1, p18.2.1, p18.2.2)) : Res (D × D × D))) fun a => ∃ o kvs F, a = (.int (x.tot (It.tots xs c)), eO o, .dic kvs) ∧ Sl x.tot (It.tots xs c) o ∧ CntR K kvs F ∧ (∀ b j, 0 ≤ F b j ∧ F b j ≤ x.ppl) ∧ (∀ B', It.OkI B' x → ∀ s, o = some s → s + It.tots xs c < B') := by
          cases x with
          | say s =>
            obtain ⟨j, j0, j1, rfl⟩ := h1
            have f1 : isO ["Over", "Spot"] "Spot" (.obj "Spot" [("s8_said", false, eS s), ("s8_number", false, .int j), ("s8_many", false, .int 1)]) = some true := rfl
            have f2 : fldD ["Spot"] "s8_said" (.obj "Spot" [("s8_said", false, eS s), ("s8_number", false, .int j), ("s8_many", false, .int 1)]) = some (eS s) := rfl
            have f3 : fldD ["Spot"] "s8_number" (.obj "Spot" [("s8_said", false, eS s), ("s8_number", false, .int j), ("s8_many", false, .int 1)]) = some (.int j) := rfl
            have f4 : ∀ a b : D, un2 (.tup [a, b]) = some (a, b) := fun _ _ => rfl
            have f5 : ∀ a b : D, ixD (.lst [a, b]) (.int 1) = some b := fun _ _ => rfl
            have f6 : ∀ a b : Int, iaddD (.int a) (.int b) = some (.int (a + b)) := fun _ _ => rfl
            have f7 : ∀ d : D, pairD [(.int j, d)] = some [(.inl j, d)] := fun _ => rfl
            rw [f1, op_s, if_pos rfl, f2, op_s, word_ok, bind_s, f4, op_s, f5, op_s, f6, op_s, f3, op_s, f7, op_s]
            refine Ok.ret ⟨_, _, setF (fun _ _ => 0) j (wF s (It.tots xs c)) (b2 (so s (It.tots xs c))), rfl, word_sl, (CntR.nil.put j0 j1), fun b i => ?_, fun B' hs => word_bnd hs⟩
            have hb := b2_lo (so s (It.tots xs c))
            have hw : 0 ≤ wF s (It.tots xs c) ∧ wF s (It.tots xs c) ≤ 1 := by unfold wF; split <;> omega
            have hp1 : ((It.say s).ppl : Int) = 1 := rfl
            rw [hp1]
            unfold setF
            split
            · split <;> omega
            · exact ⟨Int.le_refl 0, by show (0 : Int) ≤ 1; omega⟩
          | again k ys =>
            obtain ⟨ps', hps, e⟩ := h1
            obtain ⟨o1, o2, o3⟩ := ho.1
            have hd2 : It.deps ys + 1 ≤ max (It.deps ys + 1) (It.deps xs) := Nat.le_max_left _ _
            have hd3 : max (It.deps ys + 1) (It.deps xs) < n + 1 := hd
            have f1 : isO ["Over", "Spot"] "Spot" d = some false := by subst e; rfl
            rw [f1, op_s, if_neg (by simp)]
            refine Ok.bnd (over_ok hB hK o1 o2 (fun c => through_ok hB hK n ys ps' hps (by omega) o3 c) (It.tots xs c) d e) ?_
            rintro _ ⟨o, kvs, F, rfl, sl, cn, bd, nn⟩
            exact Ok.op rfl (Ok.ret ⟨o, kvs, F, rfl, sl, cn, bd, fun B' hc => nn B' hc.2.2⟩)
        refine Ok.bnd part ?_
        rintro _ ⟨o2, kv2, F2, rfl, sl2, cn2, bd2, nn2⟩
        have hx : (x.ppl : Int) < 2 ^ 4000 := by
          cases x with
          | say s => show ((1 : Nat) : Int) < _; decide
          | again k ys =>
            obtain ⟨o1, o2, o3⟩ := ho.1
            have : ((It.again k ys).ppl : Int) = (k : Int) * (It.ppls ys : Int) := Int.natCast_mul _ _
            rw [this]
            have h1 : (k : Int) * (It.ppls ys : Int) ≤ 2 ^ 120 * 2 ^ 120 := Int.mul_le_mul (by omega) (by omega) (by omega) (by decide)
            exact Int.lt_of_le_of_lt h1 (Int.lt_trans (show (2 : Int) ^ 120 * 2 ^ 120 < 2 ^ 250 by decide) p4000)
        refine Ok.bnd (add_ok hK cn cn2 (t := 1) (by omega) (by decide) fun b j => ⟨(bd2 b j).1, by have := (bd2 b j).2; omega⟩) ?_
        rintro _ ⟨kv3, rfl, cn3⟩
        rw [lesser_ok, bind_s]
        refine Ok.ret ⟨ls o o2, kv3, _, rfl, (show Sl (It.tots (x :: xs)) c (ls o o2) from Sl.comp (f := It.tots xs) (g := x.tot) sl sl2), cn3, fun b j => ?_, fun B' hc s' es => by
          have := It.tots_ge xs c
          rcases ls_some es with z | z
          · exact nn B' hc.2 s' z
          · have := nn2 B' hc.1 s' z
            omega⟩
        have h1 := bd b j
        have h2 := bd2 b j
        have : ((It.ppls (x :: xs) : Nat) : Int) = x.ppl + It.ppls xs := by show ((x.ppl + It.ppls xs : Nat) : Int) = _; omega
        rw [this]
        omega
    refine Ok.bnd (go xs ps _ (fun _ _ => rfl) h hd ho) ?_
    rintro _ ⟨o, kvs, F, rfl, sl, cn, bd, nn⟩
    exact Ok.ret ⟨o, kvs, F, rfl, sl, cn, bd, nn⟩
theorem totalof_ok {K B : Int} (hB : B ≤ 2 ^ 120) (hK : K < 900000) {xs : List It} {ps : List D} (h : PartsR K xs ps) (hd : It.deps xs < 8) (ho : It.OksI B xs) {c : Int} : d_t_total_of [.lst ps, .int c] = .ok (.int (It.tots xs c)) := by
  obtain ⟨a, e, o, kvs, F, rfl, _⟩ := through_ok hB hK 8 xs ps h hd ho c
  unfold d_t_total_of
  dsimp only
  rw [e, bind_s]; rfl


/-! ### the askings of far long rows -/
theorem fartotal_ok {B : Int} (hB : B ≤ 2 ^ 120) {xs : List It} {d : D} (h : RowR xs d) (hd : It.deps xs < 8) (ho : It.OksI B xs) (hz : It.sizs xs < 800000) (hp : (It.ppls xs : Int) < 10 ^ 30) {c : Int} (c0 : 0 ≤ c) : d_t_far_total [d, .int c] = .ok (.int (It.tots xs c)) := by
  have hs := It.spts_siz xs
  obtain ⟨a, e, ps, rfl, hps⟩ := partsof_ok (K := 800000) (Int.le_trans hB (Int.le_trans (show (2 : Int) ^ 120 ≤ 2 ^ 250 by decide) (Int.le_of_lt p4000))) h hd ho hz hp (by omega)
  unfold d_t_far_total
  dsimp only
  rw [e, bind_s, neednum_ok c0, bind_s, totalof_ok hB (by omega) hps hd ho, bind_s]


/-! ### over and over -/
theorem whileF_go {S R : Type} {t : S → Res Bool} {f : S → Res (LFlow S R)} {P : S → Prop} {Q : Flow S R → Prop} (μ : S → Nat) (ht : ∀ s, P s → ∃ b, t s = .ok b ∧ (b = true → Ok (f s) fun r => (∃ s', r = .nx s' ∧ P s' ∧ μ s' < μ s) ∨ ∃ v, r = .rt v ∧ Q (.ex v)) ∧ (b = false → Q (.nx s))) : ∀ (n : Nat) (s : S), P s → μ s < n → Ok (whileF n s t f) Q
  | 0, _, _, h => by omega
  | n + 1, s, hp, h => by
    obtain ⟨b, e, h1, h2⟩ := ht s hp
    unfold whileF
    rw [e, bind_s]
    cases b with
    | true =>
      rw [if_pos rfl]
      obtain ⟨r, er, hr⟩ := h1 rfl
      rw [er]
      rcases hr with ⟨s', rfl, p, l⟩ | ⟨v, rfl, q⟩
      · exact whileF_go μ ht n s' p (by omega)
      · exact Ok.ret q
    | false =>
      rw [if_neg (by simp)]
      exact Ok.ret (h2 rfl)
theorem jump_at {T : Int → Int} {n g : Int} {o : Option Int} (h : Sl T n o) (hg : T n = n + g) (g0 : 0 ≤ g) {m : Nat} (hm : ∀ s, o = some s → m * g ≤ s) {k : Nat} (hk : k ≤ m + 1) : iter T k n = n + k * g := by
  have := iter_jump h hg g0 (m := m) (d := 0) (Int.le_refl _) (fun s e => by have := hm s e; omega) k hk
  rwa [Int.add_zero] at this
theorem jump_none {T : Int → Int} {n g : Int} (h : Sl T n none) (hg : T n = n + g) (g0 : 0 ≤ g) (k : Nat) : iter T k n = n + k * g := jump_at h hg g0 (m := k) (fun s z => nomatch z) (by omega)
theorem Ok.fbn' {S R : Type} {m : Res (Flow S R)} {k : S → Res R} {P : Flow S R → Prop} {Q : R → Prop} (h : Ok m P) (g : ∀ s, P (.nx s) → Ok (k s) Q) (g' : ∀ r, P (.ex r) → Q r) : Ok (fbind m k) Q := by
  obtain ⟨a, e, p⟩ := h
  rw [e]
  cases a with
  | nx s => exact g s p
  | ex r => exact Ok.ret (g' r p)
/-- it grows at each time below t -/
def Rise (T : Int → Int) (c : Int) (t : Nat) : Prop := ∀ k, k < t → iter T k c < iter T (k + 1) c
theorem Rise.more {T : Int → Int} {c g : Int} {t m : Nat} (h : Rise T c t) (g0 : 0 < g) (hj : ∀ k, k ≤ m + 1 → iter T k (iter T t c) = iter T t c + k * g) : Rise T c (t + (m + 1)) := fun k hk => by
  by_cases hkt : k < t
  · exact h k hkt
  · obtain ⟨i, rfl⟩ : ∃ i, k = t + i := ⟨k - t, by omega⟩
    rw [iter_add, show t + i + 1 = t + (i + 1) by omega, iter_add, hj i (by omega), hj (i + 1) (by omega), Int.natCast_add, Int.add_mul]
    omega
theorem cast_mul1 {m : Nat} {g : Int} : ((m + 1 : Nat) : Int) * g = m * g + g := by rw [Int.natCast_add, Int.add_mul]; omega
/-- what rest_of tells -/
def RestR (T : Int → Int) (M c : Int) (a : D) : Prop := (a = .non ∧ ∀ t, Rise T c t) ∨ ∃ t : Nat, a = .tup [.int t, .int (iter T t c)] ∧ T (iter T t c) = iter T t c ∧ Rise T c t ∧ iter T t c ≤ c + M
theorem rest_ok {B : Int} (hB0 : 0 ≤ B) (hB : B ≤ 2 ^ 120) {xs : List It} {d : D} (h : RowR xs d) (hd : It.deps xs < 8) (ho : It.OksI B xs) (hz : It.sizs xs < 800000) (hp : (It.ppls xs : Int) < 10 ^ 30) {c : Int} (c0 : 0 ≤ c) : Ok (d_t_rest_of [d, .int c]) (RestR (It.tots xs) (B + 10 ^ 30) c) := by
  have hs := It.spts_siz xs
  obtain ⟨a, e, ps, rfl, hps⟩ := partsof_ok (K := 800000) (Int.le_trans hB (Int.le_trans (show (2 : Int) ^ 120 ≤ 2 ^ 250 by decide) (Int.le_of_lt p4000))) h hd ho hz hp (by omega)
  have go : ∀ n : Int, Ok (d_t_through 8 [.lst ps, .int n]) (Thr 800000 xs n) := through_ok hB (by omega) 8 xs ps hps hd ho
  unfold d_t_rest_of
  dsimp only
  rw [e, bind_s, neednum_ok c0, bind_s]
  refine Ok.bnd (go c) ?_
  rintro _ ⟨o, kvs, F, rfl, sl, cn, bd, nn⟩
  have e3 : ∀ x y z : D, un3 (.tup [x, y, z]) = some (x, y, z) := fun _ _ _ => rfl
  rw [e3, op_s]
  dsimp only
  refine Ok.fbn' (whileF_go (P := fun s => ∃ (t : Nat) (o : Option Int) (kv : D), s = (.int (iter (It.tots xs) t c), .int t, .int (It.tots xs (iter (It.tots xs) t c)), eO o, kv) ∧ Sl (It.tots xs) (iter (It.tots xs) t c) o ∧ (∀ B', It.OksI B' xs → ∀ s, o = some s → s + iter (It.tots xs) t c < B') ∧ Rise (It.tots xs) c t ∧ iter (It.tots xs) t c ≤ c + (B + 10 ^ 30))
    (Q := fun r => (r = .ex .non ∧ ∀ t, Rise (It.tots xs) c t) ∨ ∃ (t : Nat) (y z w : D), r = .nx (.int (iter (It.tots xs) t c), .int t, y, z, w) ∧ It.tots xs (iter (It.tots xs) t c) = iter (It.tots xs) t c ∧ Rise (It.tots xs) c t ∧ iter (It.tots xs) t c ≤ c + (B + 10 ^ 30))
    (fun s => match s.1 with | .int n => (B - n).toNat | _ => 0) ?_ _ _ ⟨0, o, .dic kvs, rfl, sl, nn, fun k hk => by omega, by show c ≤ c + _; omega⟩ (by show (B - c).toNat < _; omega)) ?_ ?_
  · rintro _ ⟨t, o, kv, rfl, sl, nn, rs, up⟩
    have hge := It.tots_ge xs (iter (It.tots xs) t c)
    have hhi := It.tots_hi xs (iter (It.tots xs) t c)
    have hcn : c ≤ iter (It.tots xs) t c := iter_ge (It.tots_ge xs) t
    refine ⟨decide (iter (It.tots xs) t c < It.tots xs (iter (It.tots xs) t c)), rfl, fun hb => ?_, fun hb => ?_⟩
    · have hb := of_decide_eq_true hb
      generalize eg : It.tots xs (iter (It.tots xs) t c) - iter (It.tots xs) t c = g
      have hg : It.tots xs (iter (It.tots xs) t c) = iter (It.tots xs) t c + g := by omega
      dsimp only
      rw [isNO, op_s]
      cases o with
      | none =>
        rw [show (none : Option Int).isNone = true from rfl, if_pos rfl]
        refine Ok.ret (.inr ⟨_, rfl, .inl ⟨rfl, fun k => ?_⟩⟩)
        have := rs.more (g := g) (m := k) (by omega) fun i _ => jump_none sl hg (by omega) i
        exact fun i hi => this i (by omega)
      | some s =>
        rw [show (some s).isNone = false from rfl, if_neg (by simp)]
        have s0 := sl.1 s rfl
        have s1 := nn B ho s rfl
        have q0 : 0 ≤ s / g := Int.ediv_nonneg s0 (by omega)
        have q1 : s / g ≤ s := Int.ediv_le_self _ s0
        obtain ⟨q, hq⟩ : ∃ q : Nat, s / g = q := ⟨(s / g).toNat, by omega⟩
        have qg : (q : Int) * g ≤ s := by rw [← hq]; exact Int.ediv_mul_le _ (by omega)
        have hj : ∀ k, k ≤ q + 1 → iter (It.tots xs) k (iter (It.tots xs) t c) = iter (It.tots xs) t c + k * g := fun k hk => jump_at sl hg (by omega) (fun s' z => by cases z; exact qg) hk
        have qg0 : 0 ≤ (q : Int) * g := Int.mul_nonneg (by omega) (by omega)
        rw [subI, op_s, show eO (some s) = .int s from rfl, eg, divI (by omega) (by omega), op_s, hq, addI, op_s, show iaddD (.int t) (.int ((q : Int) + 1)) = some (.int ((t : Int) + (q + 1))) from rfl, op_s, op_s, mulN (by omega) (by omega) (by omega) (by omega), op_s, addI, op_s]
        have en : It.tots xs (iter (It.tots xs) t c) + (q : Int) * g = iter (It.tots xs) (t + (q + 1)) c := by
          rw [iter_add, hj (q + 1) (by omega), hg, cast_mul1]; omega
        rw [en]
        refine Ok.bnd (go _) ?_
        rintro _ ⟨o2, kv2, F2, rfl, sl2, cn2, bd2, nn2⟩
        rw [e3, op_s]
        refine Ok.ret (.inl ⟨_, rfl, ⟨t + (q + 1), o2, .dic kv2, rfl, sl2, nn2, rs.more (by omega) hj, by omega⟩, ?_⟩)
        show (B - iter (It.tots xs) (t + (q + 1)) c).toNat < (B - iter (It.tots xs) t c).toNat
        omega
    · have hb := of_decide_eq_false hb
      exact .inr ⟨t, _, _, _, rfl, by omega, rs, up⟩
  · intro s hq
    rcases hq with ⟨z, _⟩ | ⟨t, y, z, w, e, h1, h2, h3⟩
    · cases z
    · cases e
      exact Ok.ret (.inr ⟨t, rfl, h1, h2, h3⟩)
  · intro r hq
    rcases hq with ⟨z, h1⟩ | ⟨t, y, z, w, e, h1, h2, h3⟩
    · cases z
      exact .inl ⟨rfl, h1⟩
    · cases e
/-- what times_until tells -/
def UntR (T : Int → Int) (c goal : Int) (a : D) : Prop := (a = .non ∧ ∃ t : Nat, T (iter T t c) = iter T t c ∧ iter T t c < goal ∧ Rise T c t) ∨ ∃ t : Nat, a = .int t ∧ goal ≤ iter T t c ∧ ∀ k, k < t → iter T k c < goal
theorem until_ok {B : Int} (hB : B ≤ 2 ^ 120) {xs : List It} {d : D} (h : RowR xs d) (hd : It.deps xs < 8) (ho : It.OksI B xs) (hz : It.sizs xs < 800000) (hp : (It.ppls xs : Int) < 10 ^ 30) {c goal : Int} (c0 : 0 ≤ c) (g0 : 0 ≤ goal) (g1 : goal < 2 ^ 125) : Ok (d_t_times_until [d, .int c, .int goal]) (UntR (It.tots xs) c goal) := by
  have hs := It.spts_siz xs
  obtain ⟨a, e, ps, rfl, hps⟩ := partsof_ok (K := 800000) (Int.le_trans hB (Int.le_trans (show (2 : Int) ^ 120 ≤ 2 ^ 250 by decide) (Int.le_of_lt p4000))) h hd ho hz hp (by omega)
  have go : ∀ n : Int, Ok (d_t_through 8 [.lst ps, .int n]) (Thr 800000 xs n) := through_ok hB (by omega) 8 xs ps hps hd ho
  unfold d_t_times_until
  dsimp only
  rw [e, bind_s, neednum_ok c0, bind_s, neednum_ok g0, bind_s]
  have e3 : ∀ x y z : D, un3 (.tup [x, y, z]) = some (x, y, z) := fun _ _ _ => rfl
  refine Ok.fbn' (whileF_go (P := fun s => ∃ (t : Nat), s = (.int (iter (It.tots xs) t c), .int t) ∧ (∀ k, k < t → iter (It.tots xs) k c < goal) ∧ Rise (It.tots xs) c t)
    (Q := fun r => (r = .ex .non ∧ ∃ t : Nat, It.tots xs (iter (It.tots xs) t c) = iter (It.tots xs) t c ∧ iter (It.tots xs) t c < goal ∧ Rise (It.tots xs) c t) ∨ ∃ (t : Nat), r = .nx (.int (iter (It.tots xs) t c), .int t) ∧ goal ≤ iter (It.tots xs) t c ∧ ∀ k, k < t → iter (It.tots xs) k c < goal)
    (fun s => match s.1 with | .int n => (goal - n).toNat | _ => 0) ?_ _ _ ⟨0, rfl, fun k hk => by omega, fun k hk => by omega⟩ (by show (goal - c).toNat < _; omega)) ?_ ?_
  · rintro _ ⟨t, rfl, bl, rs⟩
    have hge := It.tots_ge xs (iter (It.tots xs) t c)
    have hhi := It.tots_hi xs (iter (It.tots xs) t c)
    have hcn : c ≤ iter (It.tots xs) t c := iter_ge (It.tots_ge xs) t
    refine ⟨decide (iter (It.tots xs) t c < goal), rfl, fun hb => ?_, fun hb => ?_⟩
    · have hb := of_decide_eq_true hb
      dsimp only
      refine Ok.bnd (go _) ?_
      rintro _ ⟨o, kv, F, rfl, sl, cn, bd, nn⟩
      rw [e3, op_s]
      dsimp only
      rw [subI, op_s]
      generalize eg : It.tots xs (iter (It.tots xs) t c) - iter (It.tots xs) t c = g
      have hg : It.tots xs (iter (It.tots xs) t c) = iter (It.tots xs) t c + g := by omega
      rw [eqI, op_s]
      by_cases hz : g = 0
      · rw [if_pos (by simpa using hz)]
        exact Ok.ret (.inr ⟨_, rfl, .inl ⟨rfl, t, by omega, hb, rs⟩⟩)
      · rw [if_neg (by simpa using hz), subI, op_s, addI, op_s, subI, op_s, max2I, op_s]
        have gp : 0 < g := by omega
        generalize eM : (if goal - It.tots xs (iter (It.tots xs) t c) + g - 1 > 0 then goal - It.tots xs (iter (It.tots xs) t c) + g - 1 else 0) = M
        have M0 : 0 ≤ M ∧ M < 2 ^ 130 ∧ M < goal - iter (It.tots xs) t c := by subst eM; split <;> omega
        rw [divI gp (by omega), op_s]
        have m0 : 0 ≤ M / g := Int.ediv_nonneg M0.1 (by omega)
        have m1 : M / g ≤ M := Int.ediv_le_self _ M0.1
        have m2 : M / g * g ≤ M := Int.ediv_mul_le _ (by omega)
        have more : ∃ m : Nat, ((op (isND (eO o) D.non) fun b17 => if b17 = true then (.ok (.int (M / g))) else (op (fdivD (eO o) (.int g)) fun t18 => op (min2D [.int (M / g), t18]) fun t19 => .ok t19) : Res (D))) = .ok (.int m) ∧ (m : Int) ≤ M / g ∧ ∀ s, o = some s → m * g ≤ s := by
          rw [isNO, op_s]
          cases o with
          | none =>
            rw [show (none : Option Int).isNone = true from rfl, if_pos rfl]
            exact ⟨(M / g).toNat, by congr 2; omega, by omega, fun s z => nomatch z⟩
          | some s =>
            have s0 := sl.1 s rfl
            have q0 : 0 ≤ s / g := Int.ediv_nonneg s0 (by omega)
            rw [show (some s).isNone = false from rfl, if_neg (by simp), show eO (some s) = .int s from rfl, divI gp (by omega), op_s, min2I, op_s]
            refine ⟨(if s / g < M / g then s / g else M / g).toNat, ?_, ?_, fun s' z => ?_⟩
            · congr 2; split <;> omega
            · split <;> omega
            · cases z
              refine mul_le_of_div gp ?_
              split <;> omega
        obtain ⟨m, em, m3, m4⟩ := more
        have mg : (m : Int) * g ≤ M := Int.le_trans (Int.mul_le_mul_of_nonneg_right m3 (by omega)) m2
        have mg0 : 0 ≤ (m : Int) * g := Int.mul_nonneg (by omega) (by omega)
        have hj : ∀ k, k ≤ m + 1 → iter (It.tots xs) k (iter (It.tots xs) t c) = iter (It.tots xs) t c + k * g := fun k hk => jump_at sl hg (by omega) m4 hk
        rw [em, bind_s, mulN (by omega) (by omega) (by omega) (by omega), op_s, show iaddD (.int (It.tots xs (iter (It.tots xs) t c))) (.int ((m : Int) * g)) = some (.int (It.tots xs (iter (It.tots xs) t c) + (m : Int) * g)) from rfl, op_s, addI, op_s, show iaddD (.int t) (.int ((m : Int) + 1)) = some (.int ((t : Int) + (m + 1))) from rfl, op_s]
        have en : It.tots xs (iter (It.tots xs) t c) + (m : Int) * g = iter (It.tots xs) (t + (m + 1)) c := by
          rw [iter_add, hj (m + 1) (by omega), hg, cast_mul1]; omega
        rw [en]
        refine Ok.ret (.inl ⟨_, rfl, ⟨t + (m + 1), rfl, fun k hk => ?_, rs.more gp hj⟩, ?_⟩)
        · by_cases hkt : k < t
          · exact bl k hkt
          · obtain ⟨i, rfl⟩ : ∃ i, k = t + i := ⟨k - t, by omega⟩
            rw [iter_add, hj i (by omega)]
            have : (i : Int) * g ≤ (m : Int) * g := Int.mul_le_mul_of_nonneg_right (by omega) (by omega)
            omega
        · show (goal - iter (It.tots xs) (t + (m + 1)) c).toNat < (goal - iter (It.tots xs) t c).toNat
          omega
    · have hb := of_decide_eq_false hb
      exact .inr ⟨t, rfl, by omega, bl⟩
  · intro s hq
    rcases hq with ⟨z, _⟩ | ⟨t, e, h1, h2⟩
    · cases z
    · cases e
      exact Ok.ret (.inr ⟨t, rfl, h1, h2⟩)
  · intro r hq
    rcases hq with ⟨z, h1⟩ | ⟨t, e, h1, h2⟩
    · cases z
      exact .inl ⟨rfl, h1⟩
    · cases e

/-! ### the urn -/
def UrnOk (N : Nat) (t : List D) : Prop := ∃ a b c : Int, t = [.int a, .int b, .int c] ∧ 0 ≤ a ∧ 0 ≤ b ∧ b < 2 ^ 200 ∧ 0 ≤ c ∧ c ≤ N
theorem UrnOk.mono {N M : Nat} {t : List D} (h : UrnOk N t) (l : N ≤ M) : UrnOk M t := by
  obtain ⟨a, b, c, e, h1, h2, h3, h4, h5⟩ := h
  exact ⟨a, b, c, e, h1, h2, h3, h4, by omega⟩
theorem u10_41 : powD (.int 10) (.int 41) = some (.int (10 ^ 41)) := powI (by decide)
theorem u10_42 : powD (.int 10) (.int 42) = some (.int (10 ^ 42)) := powI (by decide)
theorem u10_43 : powD (.int 10) (.int 43) = some (.int (10 ^ 43)) := powI (by decide)
theorem ball_k {N : Nat} {t : List D} {w : Int} (h : UrnOk N t) (hN : N < 2 ^ 60) (hw : 0 < w) (hz : w < 2 ^ 200) : Ok (d_l_ball [.lst t, .int w]) fun a => ∃ r t', a = (.int r, t') ∧ 0 ≤ r ∧ r < w ∧ UrnOk (N + 1) t' := by
  obtain ⟨a, b, c, rfl, h1, h2, h3, h4, h5⟩ := h
  have i0 : ∀ x y z : D, ixD (.lst [x, y, z]) (.int 0) = some x := fun _ _ _ => rfl
  have i1 : ∀ x y z : D, ixD (.lst [x, y, z]) (.int 1) = some y := fun _ _ _ => rfl
  have i2 : ∀ x y z : D, ixD (.lst [x, y, z]) (.int 2) = some z := fun _ _ _ => rfl
  have s0 : ∀ x y z d : D, setL [x, y, z] (.int 0) d = some [d, y, z] := fun _ _ _ _ => rfl
  have s2 : ∀ x y z d : D, setL [x, y, z] (.int 2) d = some [x, y, d] := fun _ _ _ _ => rfl
  have hz2 : w < 2 ^ 250 := Int.lt_trans hz (by decide)
  unfold d_l_ball
  simp only [i0, i1, i2, op_s, gtI]
  by_cases hp : 0 < a
  · rw [if_pos (by simpa using hp)]
    simp only [modI hw, divI hw hz2, op_s, s0]
    exact ⟨_, rfl, a % w, _, rfl, Int.emod_nonneg _ (by omega), Int.emod_lt_of_pos _ hw, a / w, b, c, rfl, Int.ediv_nonneg h1 (by omega), h2, h3, h4, by omega⟩
  · rw [if_neg (by simpa using hp)]
    have c1 : (0 : Int) ≤ c + 1 := by omega
    have c2 : c + 1 < 2 ^ 61 := by omega
    have m1 : mulD (.int 86028121) (.int (c + 1)) = some (.int (86028121 * (c + 1))) := mulI (by decide) (by decide) c1 (Int.lt_trans c2 (by decide))
    have m2 : mulD (.int 15485867) (.int (c + 1)) = some (.int (15485867 * (c + 1))) := mulI (by decide) (by decide) c1 (Int.lt_trans c2 (by decide))
    have e1 : (0 : Int) ≤ b + 86028121 * (c + 1) := by omega
    have e2 : b + 86028121 * (c + 1) < 2 ^ 250 := Int.lt_trans (show _ < (2 : Int) ^ 201 by omega) (by decide)
    have q1 : (0 : Int) < 10 ^ 43 + 61 := by decide
    have q2 : (0 : Int) < 10 ^ 42 + 11 := by decide
    have f1 : (0 : Int) ≤ (b + 86028121 * (c + 1)) ^ 3 % (10 ^ 43 + 61) := Int.emod_nonneg _ (by decide)
    have f2 : (b + 86028121 * (c + 1)) ^ 3 % (10 ^ 43 + 61) < 10 ^ 43 + 61 := Int.emod_lt_of_pos _ q1
    have f3 : (b + 86028121 * (c + 1)) ^ 3 % (10 ^ 43 + 61) < 2 ^ 250 := Int.lt_trans f2 (by decide)
    simp only [addI, op_s, s2, i1, i2, m1, m2, pow3 e1 e2, u10_43, modI q1, mulI f1 f3 f1 f3, u10_42, modI q2, divI (a := _) (b := 1299827) (by decide) (by decide), modI hw]
    exact ⟨_, rfl, _, _, rfl, Int.emod_nonneg _ (by omega), Int.emod_lt_of_pos _ hw, a, b, c + 1, rfl, h1, h2, h3, c1, by omega⟩
theorem urn_k {ns : List Int} {k : Nat} (hk : k < 100) : Ok (d_l_urn [.scr ns, .int k]) (UrnOk 0) := by
  unfold d_l_urn
  dsimp only
  have e1 : lenD [.scr ns] = some (.int ns.length) := rfl
  have cell : ∃ c : Int, ((op (lenD [.scr ns]) fun t13 => op (ltD (.int k) t13) fun b14 => if b14 = true then (op (ixD (.scr ns) (.int k)) fun t15 => .ok t15) else (.ok (D.int 0)) : Res (D))) = .ok (.int c) := by
    rw [e1, op_s, ltI, op_s]
    by_cases h : (k : Int) < ns.length
    · rw [if_pos (by simpa using h)]
      have hk2 : k < ns.length := by omega
      have e : ixD (.scr ns) (.int k) = some (.int ns[k]) := by
        show (atI ns (k : Int)).map D.int = _
        unfold atI ixN
        rw [if_pos (by omega), if_pos h]
        simp [List.getElem?_eq_getElem hk2]
      rw [e, op_s]
      exact ⟨_, rfl⟩
    · rw [if_neg (by simpa using h)]
      exact ⟨0, rfl⟩
  obtain ⟨c, ec⟩ := cell
  rw [ec, bind_s]
  have q : (0 : Int) < 10 ^ 41 + 3 := by decide
  have f1 : 0 ≤ c % (10 ^ 41 + 3) := Int.emod_nonneg _ (by decide)
  have f2 : c % (10 ^ 41 + 3) < 10 ^ 41 + 3 := Int.emod_lt_of_pos _ q
  have m1 : mulD (.int (c % (10 ^ 41 + 3))) (.int 128) = some (.int (c % (10 ^ 41 + 3) * 128)) := mulI f1 (by omega) (by decide) (by decide)
  have m2 : mulD (.int 3) (.int k) = some (.int (3 * k)) := mulI (by decide) (by decide) (by omega) (by omega)
  simp only [op_s, abs_ok, p10_18, subI, max2I, u10_41, addI, modI q, m1, m2]
  refine ⟨_, rfl, _, _, 0, rfl, ?_, ?_, ?_, by omega, by omega⟩
  · split <;> omega
  · omega
  · omega
theorem lsaying_k {N : Nat} {t : List D} {w : Int} (h : UrnOk N t) (hN : N + 9 < 2 ^ 60) (hw : 0 < w) (hz : w < 2 ^ 150) : Ok (d_l_saying [.lst t, .int w]) fun a => ∃ (s : Say) (t' : List D), a = (eS s, t') ∧ okS (2 * w + 20) s ∧ UrnOk (N + 9) t' := by
  unfold d_l_saying
  dsimp only
  refine Ok.bnd (ball_k h (by omega) (by decide) (by decide)) ?_
  rintro _ ⟨r1, t1, rfl, p1, q1, k1⟩
  refine Ok.bnd (ball_k k1 (by omega) hw (by omega)) ?_
  rintro _ ⟨r2, t2, rfl, p2, q2, k2⟩
  refine Ok.bnd (ball_k k2 (by omega) hw (by omega)) ?_
  rintro _ ⟨r3, t3, rfl, p3, q3, k3⟩
  refine Ok.bnd (ball_k k3 (by omega) (by decide) (by decide)) ?_
  rintro _ ⟨r4, t4, rfl, p4, q4, k4⟩
  dsimp only
  have pick : ∃ l : Int, ixD (D.lst [(D.int 0), .int r1, .int r2, .int r3]) (.int r4) = some (.int l) ∧ 0 ≤ l ∧ l < w + 4 := by
    have : r4 = 0 ∨ r4 = 1 ∨ r4 = 2 ∨ r4 = 3 := by omega
    rcases this with rfl | rfl | rfl | rfl
    · exact ⟨0, rfl, by omega, by omega⟩
    · exact ⟨r1, rfl, by omega, by omega⟩
    · exact ⟨r2, rfl, by omega, by omega⟩
    · exact ⟨r3, rfl, by omega, by omega⟩
  obtain ⟨l, el, l0, l1⟩ := pick
  refine Ok.op el (Ok.bnd (ball_k k4 (by omega) (by decide) (by decide)) ?_)
  rintro _ ⟨r5, t5, rfl, p5, q5, k5⟩
  refine Ok.op eqI (Ok.ite (fun hb => Ok.ret ⟨(l, none), t5, rfl, ⟨l0, by show l < _; omega, fun b e => nomatch e⟩, k5.mono (by omega)⟩) fun hb => ?_)
  have hb : r5 ≠ 4 := by simpa using hb
  refine Ok.bnd (ball_k k5 (by omega) (by decide) (by decide)) ?_
  rintro _ ⟨r6, t6, rfl, p6, q6, k6⟩
  refine Ok.bnd (ball_k k6 (by omega) (by decide) (by decide)) ?_
  rintro _ ⟨r7, t7, rfl, p7, q7, k7⟩
  refine Ok.bnd (ball_k k7 (by omega) hw (by omega)) ?_
  rintro _ ⟨r8, t8, rfl, p8, q8, k8⟩
  dsimp only
  have pick : ∃ m : Int, ixD (D.lst [(D.int 0), .int r6, .int r7, .int r8]) (.int r5) = some (.int m) ∧ 0 ≤ m ∧ m < w + 9 := by
    have : r5 = 0 ∨ r5 = 1 ∨ r5 = 2 ∨ r5 = 3 := by omega
    rcases this with rfl | rfl | rfl | rfl
    · exact ⟨0, rfl, by omega, by omega⟩
    · exact ⟨r6, rfl, by omega, by omega⟩
    · exact ⟨r7, rfl, by omega, by omega⟩
    · exact ⟨r8, rfl, by omega, by omega⟩
  obtain ⟨m, em, m0, m1⟩ := pick
  exact Ok.op em (Ok.op addI (Ok.ret ⟨(l, some (l + m)), t8, rfl, ⟨l0, by show l < _; omega, fun b e => by cases e; exact ⟨by show l ≤ l + m; omega, by omega⟩⟩, k8.mono (by omega)⟩))

/-! ### drawn long rows -/
def drw : Nat → Nat
  | 0 => 100
  | d + 1 => 6 * drw d + 100
theorem drw_pos : ∀ d, 100 ≤ drw d
  | 0 => Nat.le_refl _
  | d + 1 => by show 100 ≤ 6 * drw d + 100; omega
theorem long_k {B : Int} (hB : B ≤ 2 ^ 4000) : ∀ (n deep : Nat), deep < n → n ≤ 8 → ∀ (t : List D) (N : Nat) (p0 p1 p2 room : Int), UrnOk N t → N + drw deep < 2 ^ 60 → 0 ≤ p0 → p0 < 100000 → 0 ≤ p1 → p1 + 20 < B → p1 < 2 ^ 150 → 0 < p2 → p2 < 2 ^ 150 → 2 * p2 + 20 ≤ B → 0 ≤ room → room < B → room < 2 ^ 200 →
    Ok (d_l_long n [.lst t, .lst [.int p0, .int p1, .int p2], .int deep, .int room]) fun a => ∃ (xs : List It) (ds t' : List D) (q0 : Int), a = (.lst ds, t', [.int q0, .int p1, .int p2]) ∧ ItsR xs ds ∧ It.deps xs ≤ deep ∧ It.OksI B xs ∧ (It.sizs xs : Int) + q0 ≤ p0 ∧ 0 ≤ q0 ∧ (It.ppls xs : Int) ≤ room ∧ UrnOk (N + drw deep) t'
  | 0, _, h, _, _, _, _, _, _, _, _, _, _, _, _, _, _, _, _, _, _, _, _ => by omega
  | n + 1, deep, hdn, hn8, t, N, p0, p1, p2, room, hu, hN, h0, h0', h1, h1', h1'', h2, h2', h2'', hr, hr', hr'' => by
    have dp := drw_pos deep
    unfold d_l_long
    refine Ok.bnd (ball_k hu (by omega) (by decide) (by decide)) ?_
    rintro _ ⟨r1, t1, rfl, a1, b1, k1⟩
    dsimp only
    have pick : ∃ l : Int, ixD (D.lst [(D.int 3), (D.int 1), (D.int 2), (D.int 4), (D.int 5), (D.int 0)]) (.int r1) = some (.int l) ∧ 0 ≤ l ∧ l ≤ 5 := by
      have : r1 = 0 ∨ r1 = 1 ∨ r1 = 2 ∨ r1 = 3 ∨ r1 = 4 ∨ r1 = 5 := by omega
      rcases this with rfl | rfl | rfl | rfl | rfl | rfl
      · exact ⟨3, rfl, by omega, by omega⟩
      · exact ⟨1, rfl, by omega, by omega⟩
      · exact ⟨2, rfl, by omega, by omega⟩
      · exact ⟨4, rfl, by omega, by omega⟩
      · exact ⟨5, rfl, by omega, by omega⟩
      · exact ⟨0, rfl, by omega, by omega⟩
    obtain ⟨l, el, l0, l5⟩ := pick
    refine Ok.op el (Ok.op (rng1 l0 (by omega)) ?_)
    -- what a turn draws at most
    have step : ∃ w : Nat, 5 * w + 1 ≤ drw deep ∧ ∀ (d : D) (i : Nat) (u : List D) (xs : List It) (ds : List D) (q0 rm : Int), i < 5 → UrnOk (N + 1 + i * w) u → ItsR xs ds → xs.length ≤ i → It.deps xs ≤ deep → It.OksI B xs → (It.sizs xs : Int) + q0 ≤ p0 → 0 ≤ q0 → (It.ppls xs : Int) + rm ≤ room → 0 ≤ rm →
        ∀ f : D → List D × List D × D × List D → Res (List D × List D × D × List D), (∀ d6 s5, f d6 s5 = ((op (gtD (.int deep) (D.int 0)) fun b8 => op (asB (D.bl b8)) fun b9 => if b9 = true then ((d_l_ball [(D.lst s5.1), (D.int 5)]).bind fun a10 => op (gtD a10.1 (D.int 2)) fun b11 => .ok ((D.bl b11), a10.2)) else (.ok ((D.bl false), s5.1)) : Res (D × List D))).bind fun a7 =>
      ((((op (ixD (D.lst s5.2.1) (D.int 0)) fun t14 => op (gtD t14 (D.int 0)) fun b15 => if b15 = true then (op (gtD s5.2.2.1 (D.int 0)) fun b16 => .ok b16) else (.ok false) : Res (Bool))).bind fun a13 =>
      if a13 = true then (op (ixD (D.lst s5.2.1) (D.int 0)) fun t17 => op (subD t17 (D.int 1)) fun t18 => op (setL s5.2.1 (D.int 0) t18) fun r19 =>
      ((op (truD a7.1) fun b21 =>
      if b21 = true then (op (subD (.int deep) (D.int 1)) fun t22 => (d_l_long n [(D.lst a7.2), (D.lst r19), t22, s5.2.2.1]).bind fun a23 => (d_l_ball [(D.lst a23.2.1), (D.int 4)]).bind fun a24 => (d_l_ball [(D.lst a24.2), (D.int 9)]).bind fun a25 => op (addD (D.int 2) a25.1) fun t26 => op (ixD (D.lst a23.2.2) (D.int 1)) fun t27 => op (addD t27 (D.int 1)) fun t28 => (d_l_ball [(D.lst a25.2), t28]).bind fun a29 => (d_l_ball [(D.lst a29.2), (D.int 3)]).bind fun a30 =>
      op (ixD (D.lst [a24.1, t26, a29.1]) a30.1) fun t31 => (d_l_people 8 [a23.1]).bind fun a32 => op (max2D [(D.int 1), a32]) fun t33 => op (fdivD s5.2.2.1 t33) fun t34 => op (min2D [t31, t34]) fun t35 => op (appL s5.2.2.2 [(D.tup [(D.str "again"), t35, a23.1])]) fun a36 => (d_l_people 8 [a23.1]).bind fun a37 => op (mulD t35 a37) fun t38 => op (subD s5.2.2.1 t38) fun t39 => .ok (a30.2, a23.2.2, t39, a36.2)) else (op (ixD (D.lst r19) (D.int 2)) fun t40 => (d_l_saying [(D.lst a7.2), t40]).bind fun a41 => op (appL s5.2.2.2 [a41.1]) fun a42 => op (subD s5.2.2.1 (D.int 1)) fun t43 => .ok (a41.2, r19, t43, a42.2)) : Res (List D × List D × D × List D))).bind fun s20 => .ok (s20.1, s20.2.1, s20.2.2.1, s20.2.2.2)) else (.ok (a7.2, s5.2.1, s5.2.2.1, s5.2.2.2)) : Res (List D × List D × D × List D))).bind fun s12 => .ok (s12.1, s12.2.1, s12.2.2.1, s12.2.2.2)) →
        Ok (f d (u, [.int q0, .int p1, .int p2], .int rm, ds)) fun s => ∃ (u' : List D) (xs' : List It) (ds' : List D) (q' rm' : Int), s = (u', [.int q', .int p1, .int p2], .int rm', ds') ∧ UrnOk (N + 1 + (i + 1) * w) u' ∧ ItsR xs' ds' ∧ xs'.length ≤ i + 1 ∧ It.deps xs' ≤ deep ∧ It.OksI B xs' ∧ (It.sizs xs' : Int) + q' ≤ p0 ∧ 0 ≤ q' ∧ (It.ppls xs' : Int) + rm' ≤ room ∧ 0 ≤ rm' := by
      have hw : ∃ w, 5 * w + 1 ≤ drw deep ∧ (∀ dd, deep = dd + 1 → drw dd + 10 ≤ w) ∧ 15 ≤ w := by
        cases deep with
        | zero => exact ⟨15, (by decide), (fun dd e => nomatch e), (by omega)⟩
        | succ dd =>
          refine ⟨drw dd + 10, ?_, fun d2 e => by cases e; omega, by have := drw_pos dd; omega⟩
          show 5 * (drw dd + 10) + 1 ≤ 6 * drw dd + 100
          omega
      obtain ⟨w, w1, w2, w3⟩ := hw
      refine ⟨w, w1, fun d i u xs ds q0 rm hi ku hx hxl hxd hxo hxz q0' hxp rm0 f hf => ?_⟩
      have hw6 : i * w ≤ 4 * w := Nat.mul_le_mul_right _ (by omega)
      have hwi : (i + 1) * w = i * w + w := by rw [Nat.add_mul, Nat.one_mul]
      rw [hf]
      have ag : Ok ((op (gtD (.int deep) (D.int 0)) fun b8 => op (asB (D.bl b8)) fun b9 => if b9 = true then ((d_l_ball [(D.lst u), (D.int 5)]).bind fun a10 => op (gtD a10.1 (D.int 2)) fun b11 => .ok ((D.bl b11), a10.2)) else (.ok ((D.bl false), u)) : Res (D × List D))) fun a => ∃ (b : Bool) (u' : List D), a = (.bl b, u') ∧ UrnOk (N + 1 + i * w + 1) u' ∧ (b = true → 0 < deep) := by
        rw [gtI, op_s, asB_ok, op_s]
        by_cases hp : (0 : Int) < deep
        · rw [if_pos (by simpa using hp)]
          refine Ok.bnd (ball_k ku (by omega) (by decide) (by decide)) ?_
          rintro _ ⟨r, u', rfl, _, _, ku'⟩
          exact Ok.op gtI (Ok.ret ⟨_, u', rfl, ku', fun _ => by omega⟩)
        · rw [if_neg (by simpa using hp)]
          exact Ok.ret ⟨false, u, rfl, ku.mono (by omega), fun z => nomatch z⟩
      refine Ok.bnd ag ?_
      rintro _ ⟨b, u1, rfl, ku1, hb⟩
      dsimp only
      have i0 : ixD (D.lst [.int q0, .int p1, .int p2]) (.int 0) = some (.int q0) := rfl
      have s0 : ∀ d : D, setL [.int q0, .int p1, .int p2] (.int 0) d = some [d, .int p1, .int p2] := fun _ => rfl
      rw [i0, op_s, gtI, op_s]
      have stay : ∀ c : Bool, c = false → Ok (((if c = true then (op (some (D.int q0)) fun t17 => op (subD t17 (D.int 1)) fun t18 => op (setL [.int q0, .int p1, .int p2] (D.int 0) t18) fun r19 =>
          ((op (truD (.bl b)) fun b21 =>
          if b21 = true then (op (subD (.int deep) (D.int 1)) fun t22 => (d_l_long n [(D.lst u1), (D.lst r19), t22, .int rm]).bind fun a23 => (d_l_ball [(D.lst a23.2.1), (D.int 4)]).bind fun a24 => (d_l_ball [(D.lst a24.2), (D.int 9)]).bind fun a25 => op (addD (D.int 2) a25.1) fun t26 => op (ixD (D.lst a23.2.2) (D.int 1)) fun t27 => op (addD t27 (D.int 1)) fun t28 => (d_l_ball [(D.lst a25.2), t28]).bind fun a29 => (d_l_ball [(D.lst a29.2), (D.int 3)]).bind fun a30 =>
          op (ixD (D.lst [a24.1, t26, a29.1]) a30.1) fun t31 => (d_l_people 8 [a23.1]).bind fun a32 => op (max2D [(D.int 1), a32]) fun t33 => op (fdivD (.int rm) t33) fun t34 => op (min2D [t31, t34]) fun t35 => op (appL ds [(D.tup [(D.str "again"), t35, a23.1])]) fun a36 => (d_l_people 8 [a23.1]).bind fun a37 => op (mulD t35 a37) fun t38 => op (subD (.int rm) t38) fun t39 => .ok (a30.2, a23.2.2, t39, a36.2)) else (op (ixD (D.lst r19) (D.int 2)) fun t40 => (d_l_saying [(D.lst u1), t40]).bind fun a41 => op (appL ds [a41.1]) fun a42 => op (subD (.int rm) (D.int 1)) fun t43 => .ok (a41.2, r19, t43, a42.2)) : Res (List D × List D × D × List D))).bind fun s20 => .ok (s20.1, s20.2.1, s20.2.2.1, s20.2.2.2)) else (.ok (u1, [.int q0, .int p1, .int p2], .int rm, ds)) : Res (List D × List D × D × List D))).bind fun s12 => .ok (s12.1, s12.2.1, s12.2.2.1, s12.2.2.2)) fun s => ∃ (u' : List D) (xs' : List It) (ds' : List D) (q' rm' : Int), s = (u', [.int q', .int p1, .int p2], .int rm', ds') ∧ UrnOk (N + 1 + (i + 1) * w) u' ∧ ItsR xs' ds' ∧ xs'.length ≤ i + 1 ∧ It.deps xs' ≤ deep ∧ It.OksI B xs' ∧ (It.sizs xs' : Int) + q' ≤ p0 ∧ 0 ≤ q' ∧ (It.ppls xs' : Int) + rm' ≤ room ∧ 0 ≤ rm' := fun c hc => by
        subst hc
        rw [if_neg (by simp), bind_s]
        exact Ok.ret ⟨u1, xs, ds, q0, rm, rfl, ku1.mono (by omega), hx, by omega, hxd, hxo, hxz, q0', hxp, rm0⟩
      by_cases hq : 0 < q0
      · rw [if_pos (by simpa using hq), gtI, op_s, bind_s]
        by_cases hm : 0 < rm
        · rw [if_pos (by simpa using hm), op_s, subI, op_s, s0, op_s, tru_ok, op_s]
          have hlen : ds.length < 1000000 := by rw [hx.len]; omega
          refine Ok.bnd (P := fun s => ∃ (u' : List D) (xs' : List It) (ds' : List D) (q' rm' : Int), s = (u', [.int q', .int p1, .int p2], .int rm', ds') ∧ UrnOk (N + 1 + (i + 1) * w) u' ∧ ItsR xs' ds' ∧ xs'.length ≤ i + 1 ∧ It.deps xs' ≤ deep ∧ It.OksI B xs' ∧ (It.sizs xs' : Int) + q' ≤ p0 ∧ 0 ≤ q' ∧ (It.ppls xs' : Int) + rm' ≤ room ∧ 0 ≤ rm') ?_ fun s hs => by obtain ⟨u', xs', ds', q', rm', rfl, hs⟩ := hs; exact Ok.ret ⟨u', xs', ds', q', rm', rfl, hs⟩
          refine Ok.bnd (P := fun s => ∃ (u' : List D) (xs' : List It) (ds' : List D) (q' rm' : Int), s = (u', [.int q', .int p1, .int p2], .int rm', ds') ∧ UrnOk (N + 1 + (i + 1) * w) u' ∧ ItsR xs' ds' ∧ xs'.length ≤ i + 1 ∧ It.deps xs' ≤ deep ∧ It.OksI B xs' ∧ (It.sizs xs' : Int) + q' ≤ p0 ∧ 0 ≤ q' ∧ (It.ppls xs' : Int) + rm' ≤ room ∧ 0 ≤ rm') ?_ fun s hs => by obtain ⟨u', xs', ds', q', rm', rfl, hs⟩ := hs; exact Ok.ret ⟨u', xs', ds', q', rm', rfl, hs⟩
          by_cases hb' : b = true
          · rw [if_pos hb']
            have dpos := hb hb'
            obtain ⟨dd, rfl⟩ : ∃ dd, deep = dd + 1 := ⟨deep - 1, by omega⟩
            have hwd := w2 dd rfl
            rw [subI, op_s, show (((dd + 1 : Nat) : Int) - 1) = (dd : Int) by omega]
            refine Ok.bnd (long_k hB n dd (by omega) (by omega) u1 (N + 1 + i * w + 1) (q0 - 1) p1 p2 rm ku1 (by omega) (by omega) (by omega) h1 h1' h1'' h2 h2' h2'' rm0 (by omega) (by omega)) ?_
            rintro _ ⟨ys, es, u2, q1, rfl, hy, hyd, hyo, hyz, q10, hyp, ku2⟩
            dsimp only
            refine Ok.bnd (ball_k ku2 (by omega) (by decide) (by decide)) ?_
            rintro _ ⟨r4, u3, rfl, a4, b4, ku3⟩
            refine Ok.bnd (ball_k ku3 (by omega) (by decide) (by decide)) ?_
            rintro _ ⟨r9, u4, rfl, a9, b9, ku4⟩
            have i1 : ixD (D.lst [.int q1, .int p1, .int p2]) (.int 1) = some (.int p1) := rfl
            refine Ok.op addI (Ok.op i1 (Ok.op addI (Ok.bnd (ball_k ku4 (by omega) (by omega) (by omega)) ?_)))
            rintro _ ⟨rp, u5, rfl, ap, bp, ku5⟩
            refine Ok.bnd (ball_k ku5 (by omega) (by decide) (by decide)) ?_
            rintro _ ⟨r3, u6, rfl, a3, b3, ku6⟩
            dsimp only
            have pick : ∃ m : Int, ixD (D.lst [.int r4, .int (2 + r9), .int rp]) (.int r3) = some (.int m) ∧ 0 ≤ m ∧ m < p1 + 20 := by
              have : r3 = 0 ∨ r3 = 1 ∨ r3 = 2 := by omega
              rcases this with rfl | rfl | rfl
              · exact ⟨_, rfl, by omega, by omega⟩
              · exact ⟨_, rfl, by omega, by omega⟩
              · exact ⟨_, rfl, by omega, by omega⟩
            obtain ⟨m, em, m0, m1⟩ := pick
            rw [em, op_s, lpeople_ok hB 8 ys (.lst es) hy.row (by omega) hyo, bind_s, max2I, op_s]
            generalize eP : (if (It.ppls ys : Int) > 1 then (It.ppls ys : Int) else 1) = P
            have P1 : 1 ≤ P ∧ (It.ppls ys : Int) ≤ P ∧ P ≤ rm := by subst eP; split <;> omega
            rw [divI (by omega) (by omega), op_s, min2I, op_s]
            have v0 : 0 ≤ rm / P := Int.ediv_nonneg rm0 (by omega)
            generalize eV : (if rm / P < m then rm / P else m) = V
            have V1 : 0 ≤ V ∧ V ≤ rm / P ∧ V < p1 + 20 := by subst eV; split <;> omega
            have hVP : V * P ≤ rm := mul_le_of_div (by omega) V1.2.1
            have hVp : V * (It.ppls ys : Int) ≤ V * P := Int.mul_le_mul_of_nonneg_left P1.2.1 V1.1
            have hV0 : 0 ≤ V * (It.ppls ys : Int) := Int.mul_nonneg V1.1 (by omega)
            rw [app1 hlen, op_s, bind_s, mulN V1.1 (by omega) (by omega) (by omega), op_s, subI, op_s]
            obtain ⟨k, rfl⟩ : ∃ k : Nat, V = k := ⟨V.toNat, by omega⟩
            have hag : ItR (.again k ys) (.tup [.str "again", .int k, .lst es]) := .ag hy.row
            have hpp : ((It.again k ys).ppl : Int) = (k : Int) * (It.ppls ys : Int) := Int.natCast_mul _ _
            have hsz : (It.again k ys).siz = It.sizs ys + 1 := rfl
            have hdp : (It.again k ys).dep = It.deps ys + 1 := rfl
            refine Ok.ret ⟨u6, xs ++ [.again k ys], _, q1, rm - k * It.ppls ys, rfl, ku6.mono (by omega), ItsR.append (.one hag) hx, by rw [List.length_append, List.length_singleton]; omega, ?_, It.oks_append.mpr ⟨hxo, (show It.OkI B (.again k ys) from ⟨by omega, by omega, hyo⟩), (show It.OksI B [] from trivial)⟩, ?_, q10, ?_, by omega⟩
            · rw [It.deps_append]
              show max (It.deps xs) (max (It.again k ys).dep 0) ≤ dd + 1
              rw [hdp]; omega
            · rw [It.sizs_append]
              show (((It.sizs xs + ((It.again k ys).siz + 0) : Nat)) : Int) + q1 ≤ p0
              rw [hsz]; omega
            · rw [It.ppls_append]
              show (((It.ppls xs + ((It.again k ys).ppl + 0) : Nat)) : Int) + (rm - k * It.ppls ys) ≤ room
              omega
          · rw [if_neg hb']
            have i2 : ixD (D.lst [.int (q0 - 1), .int p1, .int p2]) (.int 2) = some (.int p2) := rfl
            rw [i2, op_s]
            refine Ok.bnd (lsaying_k ku1 (by omega) h2 h2') ?_
            rintro _ ⟨s, u2, rfl, os, ku2⟩
            rw [app1 hlen, op_s, subI, op_s]
            refine Ok.ret ⟨u2, xs ++ [.say s], _, q0 - 1, rm - 1, rfl, ku2.mono (by omega), ItsR.append (ItsR.one (x := .say s) (d := eS s) (show ItR (.say s) (eS s) from rfl)) hx, by rw [List.length_append, List.length_singleton]; omega, ?_, It.oks_append.mpr ⟨hxo, (show It.OkI B (.say s) from okS.mono os h2''), (show It.OksI B [] from trivial)⟩, ?_, by omega, ?_, by omega⟩
            · rw [It.deps_append]
              show max (It.deps xs) (max 0 0) ≤ deep
              omega
            · rw [It.sizs_append]
              show (((It.sizs xs + (1 + 0) : Nat)) : Int) + (q0 - 1) ≤ p0
              omega
            · rw [It.ppls_append]
              show (((It.ppls xs + (1 + 0) : Nat)) : Int) + (rm - 1) ≤ room
              omega
        · exact stay (decide ((0 : Int) < rm)) (decide_eq_false hm)
      · rw [if_neg (by simpa using hq), bind_s]
        exact stay false rfl
    obtain ⟨w, w1, step⟩ := step
    refine Ok.bnd (Ok.for (fun i s => ∃ (u : List D) (xs : List It) (ds : List D) (q rm : Int), s = (u, [.int q, .int p1, .int p2], .int rm, ds) ∧ UrnOk (N + 1 + i * w) u ∧ ItsR xs ds ∧ xs.length ≤ i ∧ It.deps xs ≤ deep ∧ It.OksI B xs ∧ (It.sizs xs : Int) + q ≤ p0 ∧ 0 ≤ q ∧ (It.ppls xs : Int) + rm ≤ room ∧ 0 ≤ rm) 5
      ⟨t1, [], [], p0, room, rfl, k1.mono (by omega), rfl, Nat.le_refl _, Nat.zero_le _, trivial, by show ((0 : Nat) : Int) + p0 ≤ p0; omega, h0, by show ((0 : Nat) : Int) + room ≤ room; omega, hr⟩ (by rw [upto_len]; omega) (fun d hd s i hi ⟨u, xs, ds, q, rm, e, ku, hx, hxl, hxd, hxo, hxz, q0, hxp, rm0⟩ => by
        subst e
        exact step d i u xs ds q rm hi ku hx hxl hxd hxo hxz q0 hxp rm0 _ (fun _ _ => rfl))) ?_
    rintro _ ⟨u, xs, ds, q, rm, rfl, ku, hx, hxl, hxd, hxo, hxz, q0, hxp, rm0⟩
    rw [upto_len] at ku
    have : l.toNat * w ≤ 5 * w := Nat.mul_le_mul_right _ (by omega)
    exact Ok.ret ⟨xs, ds, u, q, rfl, hx, hxd, hxo, hxz, q0, by omega, ku.mono (by omega)⟩

/-! ### great long rows, companies -/
theorem u10_5 : powD (.int 10) (.int 5) = some (.int (10 ^ 5)) := powI (by decide)
theorem u10_6 : powD (.int 10) (.int 6) = some (.int (10 ^ 6)) := powI (by decide)
theorem u10_9 : powD (.int 10) (.int 9) = some (.int (10 ^ 9)) := powI (by decide)
theorem u10_12 : powD (.int 10) (.int 12) = some (.int (10 ^ 12)) := powI (by decide)
theorem u10_15 : powD (.int 10) (.int 15) = some (.int (10 ^ 15)) := powI (by decide)
/-- a drawn row: deep at most so, few sayings and agains, numbers below 2 ^ 110 -/
structure Drawn (deep size : Nat) (xs : List It) : Prop where
  d : It.deps xs ≤ deep
  o : It.OksI (2 ^ 110) xs
  s : It.sizs xs ≤ size
  p : (It.ppls xs : Int) ≤ 7 * 10 ^ 29
theorem b4000 : (2 : Int) ^ 110 ≤ 2 ^ 4000 := Int.le_of_lt (Int.lt_trans (show (2 : Int) ^ 110 < 2 ^ 250 by decide) p4000)
theorem lfar_k {N deep size : Nat} {t : List D} (h : UrnOk N t) (hN : N + 10 ^ 7 < 2 ^ 60) (hd : deep ≤ 4) (hs : size < 100000) : Ok (d_l_far [.lst t, .int size, .int deep]) fun a => ∃ (xs : List It) (ds t' : List D), a = (.lst ds, t') ∧ ItsR xs ds ∧ Drawn deep size xs ∧ UrnOk (N + 10 ^ 7) t' := by
  have hw : drw deep ≤ 10 ^ 6 := by
    have : deep = 0 ∨ deep = 1 ∨ deep = 2 ∨ deep = 3 ∨ deep = 4 := by omega
    rcases this with rfl | rfl | rfl | rfl | rfl <;> decide
  unfold d_l_far
  dsimp only
  rw [u10_5, op_s, u10_12, op_s, p10_29, op_s]
  refine Ok.bnd (ball_k h (by omega) (by decide) (by decide)) ?_
  rintro _ ⟨r1, t1, rfl, a1, b1, k1⟩
  have pick : ∃ l : Int, ixD (D.lst [(D.int 9), .int (10 ^ 5), .int (10 ^ 12), .int (10 ^ 29)]) (.int r1) = some (.int l) ∧ 0 ≤ l ∧ l ≤ 10 ^ 29 := by
    have : r1 = 0 ∨ r1 = 1 ∨ r1 = 2 ∨ r1 = 3 := by omega
    rcases this with rfl | rfl | rfl | rfl
    · exact ⟨_, rfl, by decide, by decide⟩
    · exact ⟨_, rfl, by decide, by decide⟩
    · exact ⟨_, rfl, by decide, by decide⟩
    · exact ⟨_, rfl, by decide, by decide⟩
  obtain ⟨l, el, l0, l1⟩ := pick
  rw [el, op_s, u10_6, op_s, u10_15, op_s, op_s]
  refine Ok.bnd (ball_k k1 (by omega) (by decide) (by decide)) ?_
  rintro _ ⟨r2, t2, rfl, a2, b2', k2⟩
  have pick : ∃ l : Int, ixD (D.lst [(D.int 30), .int (10 ^ 6), .int (10 ^ 15), .int (10 ^ 29)]) (.int r2) = some (.int l) ∧ 0 < l ∧ l ≤ 10 ^ 29 := by
    have : r2 = 0 ∨ r2 = 1 ∨ r2 = 2 ∨ r2 = 3 := by omega
    rcases this with rfl | rfl | rfl | rfl
    · exact ⟨_, rfl, by decide, by decide⟩
    · exact ⟨_, rfl, by decide, by decide⟩
    · exact ⟨_, rfl, by decide, by decide⟩
    · exact ⟨_, rfl, by decide, by decide⟩
  obtain ⟨v, ev, v0, v1⟩ := pick
  have m1 : mulD (.int 7) (.int (10 ^ 29)) = some (.int (7 * 10 ^ 29)) := mulI (by decide) (by decide) (by decide) (by decide)
  simp only [ev, op_s, m1, u10_9]
  refine Ok.bnd (ball_k k2 (by omega) (by decide) (by decide)) ?_
  rintro _ ⟨r3, t3, rfl, a3, b3, k3⟩
  have pick : ∃ l : Int, ixD (D.lst [.int (7 * 10 ^ 29), .int (7 * 10 ^ 29), .int (10 ^ 9)]) (.int r3) = some (.int l) ∧ 0 ≤ l ∧ l ≤ 7 * 10 ^ 29 := by
    have : r3 = 0 ∨ r3 = 1 ∨ r3 = 2 := by omega
    rcases this with rfl | rfl | rfl
    · exact ⟨_, rfl, by decide, by decide⟩
    · exact ⟨_, rfl, by decide, by decide⟩
    · exact ⟨_, rfl, by decide, by decide⟩
  obtain ⟨z, ez, z0, z1⟩ := pick
  rw [ez, op_s]
  refine Ok.bnd (long_k (B := 2 ^ 110) b4000 8 deep (by omega) (by omega) t3 (N + 1 + 1 + 1) size l v z k3 (by omega) (by omega) (by omega) l0 (by omega) (by omega) v0 (by omega) (by omega) z0 (by omega) (by omega)) ?_
  rintro _ ⟨xs, ds, t', q, rfl, hx, hxd, hxo, hxz, q0, hxp, ku⟩
  exact Ok.ret ⟨xs, ds, t', rfl, hx, ⟨hxd, hxo, by omega, by omega⟩, ku.mono (by omega)⟩
theorem lcompany_k {N : Nat} {t : List D} {ss : List Say} (h : UrnOk N t) (hN : N + 5 < 2 ^ 60) (hs : ∀ s, s ∈ ss → okS (2 ^ 110) s) (hl : ss.length < 900000) : Ok (d_l_company [.lst t, .lst (ss.map eS)]) fun a => ∃ (c : Int) (t' : List D), a = (.int c, t') ∧ 0 ≤ c ∧ c < 2 ^ 110 ∧ UrnOk (N + 5) t' := by
  unfold d_l_company
  dsimp only
  rw [eq_nil (shp_row.mono (by omega)), op_s]
  refine Ok.ite (fun _ => ?_) fun hne => ?_
  · refine Ok.bnd (ball_k h (by omega) (by decide) (by decide)) ?_
    rintro _ ⟨r, t1, rfl, a, b, k⟩
    exact Ok.ret ⟨r, t1, rfl, a, by omega, k.mono (by omega)⟩
  have hne : ss ≠ [] := fun z => hne (by rw [z]; rfl)
  have hpos : 0 < ss.length := List.length_pos_iff.mpr hne
  rw [lenE, op_s]
  refine Ok.bnd (ball_k h (by omega) (by omega) (by omega)) ?_
  rintro _ ⟨r, t1, rfl, a, b, k⟩
  obtain ⟨q, rfl⟩ : ∃ q : Nat, r = q := ⟨r.toNat, by omega⟩
  have hr : q < ss.length := by omega
  have ei : ixD (.lst (ss.map eS)) (.int q) = some (eS ss[q]) := ix_at (by rw [List.getElem?_map, List.getElem?_eq_getElem hr]; rfl)
  have ok := hs _ (List.getElem_mem hr)
  generalize ss[q] = s at ei ok
  obtain ⟨l, o⟩ := s
  obtain ⟨o1, o2, o3⟩ := ok
  have eu : un2 (eS (l, o)) = some (.int l, eO o) := rfl
  dsimp only
  rw [ei, op_s, eu, op_s]
  dsimp only
  have near : ∃ v : Int, ((op (isND (eO o) D.non) fun b8 => if b8 = true then (.ok (D.int l)) else (.ok (eO o)) : Res (D))) = .ok (.int v) ∧ 0 ≤ v ∧ v < 2 ^ 110 := by
    rw [isNO, op_s]
    cases o with
    | none => exact ⟨l, rfl, o1, o2⟩
    | some m => have := o3 m rfl; exact ⟨m, rfl, by have : l ≤ m := this.1; have : 0 ≤ l := o1; omega, this.2⟩
  obtain ⟨v, ev, v0, v1⟩ := near
  rw [ev, bind_s]
  refine Ok.bnd (ball_k k (by omega) (by decide) (by decide)) ?_
  rintro _ ⟨r9, t2, rfl, a9, b9, k2⟩
  refine Ok.op subI (Ok.op max2I (Ok.bnd (ball_k k2 (by omega) (by decide) (by decide)) ?_))
  rintro _ ⟨r12, t3, rfl, a12, b12, k3⟩
  dsimp only
  generalize en : (if v - r9 > 0 then v - r9 else 0) = near
  have hn : 0 ≤ near ∧ near < 2 ^ 110 := by subst en; split <;> omega
  rw [divI (by decide) (by decide), op_s, p10_29, op_s]
  refine Ok.bnd (ball_k k3 (by omega) (by decide) (by decide)) ?_
  rintro _ ⟨rz, t4, rfl, az, bz, k4⟩
  refine Ok.bnd (ball_k k4 (by omega) (by decide) (by decide)) ?_
  rintro _ ⟨r5, t5, rfl, a5, b5, k5⟩
  dsimp only
  have : r5 = 0 ∨ r5 = 1 ∨ r5 = 2 ∨ r5 = 3 ∨ r5 = 4 := by omega
  rcases this with rfl | rfl | rfl | rfl | rfl
  · exact Ok.op rfl (Ok.ret ⟨0, t5, rfl, by omega, by decide, k5⟩)
  · exact Ok.op rfl (Ok.ret ⟨r12, t5, rfl, by omega, by omega, k5⟩)
  · exact Ok.op rfl (Ok.ret ⟨near, t5, rfl, by omega, by omega, k5⟩)
  · exact Ok.op rfl (Ok.ret ⟨near / 2, t5, rfl, by omega, by omega, k5⟩)
  · exact Ok.op rfl (Ok.ret ⟨rz, t5, rfl, by omega, by omega, k5⟩)

/-! ### what is asked -/
/-- one again -/
theorem ag_row {n : Nat} {xs : List It} {r : D} (h : RowR xs r) : RowR [.again n xs] (.lst [.tup [.str "again", .int n, r]]) := (ItsR.one (.ag h)).row
/-- what is asked of a row with agains about drawn ones -/
structure Askd (xs : List It) : Prop where
  d : It.deps xs < 8
  o : It.OksI (2 ^ 110) xs
  s : It.sizs xs < 1000
  p : (It.ppls xs : Int) < 10 ^ 30
theorem b120 : (2 : Int) ^ 110 ≤ 2 ^ 120 := by decide
theorem Askd.tot {xs : List It} {d : D} (h : Askd xs) (r : RowR xs d) {c : Int} (c0 : 0 ≤ c) : d_t_far_total [d, .int c] = .ok (.int (It.tots xs c)) := fartotal_ok b120 r h.d h.o (by have := h.s; omega) h.p c0
theorem Askd.people {xs : List It} {d : D} (h : Askd xs) (r : RowR xs d) : d_l_people 8 [d] = .ok (.int (It.ppls xs)) := lpeople_ok b4000 8 xs d r h.d h.o
theorem Drawn.askd {deep size : Nat} {xs : List It} (h : Drawn deep size xs) (hd : deep ≤ 4) (hs : size ≤ 100) : Askd xs := ⟨by have := h.d; omega, h.o, by have := h.s; omega, by have := h.p; omega⟩
theorem Askd.append {xs ys : List It} (h : Askd xs) (g : Askd ys) (hs : It.sizs xs + It.sizs ys < 1000) (hp : (It.ppls xs : Int) + It.ppls ys < 10 ^ 30) : Askd (xs ++ ys) := ⟨by rw [It.deps_append]; have := h.d; have := g.d; omega, It.oks_append.mpr ⟨h.o, g.o⟩, by rw [It.sizs_append]; exact hs, by rw [It.ppls_append]; omega⟩
theorem Askd.again {xs : List It} {n : Nat} (h : Askd xs) (hd : It.deps xs < 7) (hs : It.sizs xs < 900) (hn : (n : Int) < 2 ^ 110) (hq : (It.ppls xs : Int) < 2 ^ 110) (hp : (n : Int) * It.ppls xs < 10 ^ 30) : Askd [.again n xs] := ⟨by show max (It.deps xs + 1) 0 < 8; omega, ⟨⟨hn, hq, h.o⟩, trivial⟩, by show It.sizs xs + 1 + 0 < 1000; omega, by show (((n * It.ppls xs) + 0 : Nat) : Int) < _; rw [Nat.add_zero, Int.natCast_mul]; exact hp⟩


/-! ### said over and over: the law -/
theorem it_mono {T : Int → Int} (h : ∀ c, c ≤ T c) {c : Int} {k l : Nat} (hk : k ≤ l) : iter T k c ≤ iter T l c := by
  obtain ⟨i, rfl⟩ : ∃ i, l = k + i := ⟨l - k, by omega⟩
  rw [iter_add]
  exact iter_ge h i
theorem it_rest {T : Int → Int} {n : Int} (h : T n = n) : ∀ k, iter T k n = n
  | 0 => rfl
  | k + 1 => by show T (iter T k n) = n; rw [it_rest h k, h]
theorem it_behind {T : Int → Int} {c : Int} {t k : Nat} (h : T (iter T t c) = iter T t c) (hk : t ≤ k) : iter T k c = iter T t c := by
  obtain ⟨i, rfl⟩ : ∃ i, k = t + i := ⟨k - t, by omega⟩
  rw [iter_add, it_rest h]
theorem it_top {T : Int → Int} (hT : ∀ c, c ≤ T c) {c : Int} {t : Nat} (h : T (iter T t c) = iter T t c) (k : Nat) : iter T k c ≤ iter T t c := by
  by_cases hk : k ≤ t
  · exact it_mono hT hk
  · rw [it_behind h (by omega)]; exact Int.le_refl _
theorem rise_not {T : Int → Int} {c : Int} {t k : Nat} (h : T (iter T t c) = iter T t c) (r : Rise T c k) : k ≤ t := by
  refine Decidable.byContradiction fun z => ?_
  have : iter T t c < T (iter T t c) := r t (by omega)
  omega
/-- a row that is asked, by whom -/
structure Ov (xs : List It) (d : D) (c : Int) : Prop where
  r : RowR xs d
  w : Drawn 3 20 xs
  c0 : 0 ≤ c
  c1 : c < 2 ^ 112
section
variable {xs : List It} {d : D} {c : Int}
theorem Ov.ask (h : Ov xs d c) : Askd xs := h.w.askd (by omega) (by omega)
def Tell (xs : List It) (c : Int) (t : Nat) : D := if (10 : Int) ^ 30 ≤ t ∨ (10 : Int) ^ 30 ≤ t * It.ppls xs then .non else .int (iter (It.tots xs) t c)
theorem said_ok (h : Ov xs d c) (t : Nat) : d_l_said [d, .int t, .int c] = .ok (Tell xs c t) := by
  have ax := h.ask
  have hp := ax.p
  unfold d_l_said Tell
  dsimp only
  rw [p10_30, op_s, geI, op_s]
  by_cases h1 : (10 : Int) ^ 30 ≤ t
  · rw [if_pos (by simpa using h1), bind_s, if_pos rfl, if_pos (.inl h1)]
  · rw [if_neg (by simpa using h1), ax.people h.r, bind_s, mulN (by omega) (by omega) (by omega) (by omega), op_s, op_s, geI, op_s, bind_s]
    by_cases h2 : (10 : Int) ^ 30 ≤ t * It.ppls xs
    · rw [if_pos (by simpa using h2), if_pos (.inr h2)]
    · have hd := h.w.d
      have hs := h.w.s
      have aN : Askd [.again t xs] := ax.again (by omega) (by omega) (by omega) (by omega) (by omega)
      rw [if_neg (by simpa using h2), if_neg (by omega), aN.tot (ag_row h.r) h.c0, bind_s]; rfl
theorem tell_some {t : Nat} (h : Tell xs c t ≠ .non) : Tell xs c t = .int (iter (It.tots xs) t c) ∧ ∀ k, k ≤ t → Tell xs c k = .int (iter (It.tots xs) k c) := by
  unfold Tell at h
  by_cases hz : (10 : Int) ^ 30 ≤ t ∨ (10 : Int) ^ 30 ≤ t * It.ppls xs
  · rw [if_pos hz] at h; exact absurd rfl h
  · have key : ∀ k, k ≤ t → Tell xs c k = .int (iter (It.tots xs) k c) := fun k hk => by
      have : (k : Int) * It.ppls xs ≤ t * It.ppls xs := Int.mul_le_mul_of_nonneg_right (by omega) (by omega)
      exact if_neg (by omega)
    exact ⟨key t (Nat.le_refl _), key⟩
theorem tell_cases (xs : List It) (c : Int) (t : Nat) : Tell xs c t = .non ∨ Tell xs c t = .int (iter (It.tots xs) t c) := by
  unfold Tell
  split
  · exact .inl rfl
  · exact .inr rfl
theorem notNI {i : Int} : notND (.int i) .non = some true := rfl
theorem isNI {i : Int} : isND (.int i) .non = some false := rfl
theorem isNN : isND .non .non = some true := rfl
theorem notNN : notND .non .non = some false := rfl
theorem notNT {l : List D} : notND (.tup l) .non = some true := rfl
theorem isNT {l : List D} : isND (.tup l) .non = some false := rfl
theorem pair0 {a b : D} : ixD (.tup [a, b]) (.int 0) = some a := rfl
theorem pair1 {a b : D} : ixD (.tup [a, b]) (.int 1) = some b := rfl
theorem lpair0 {a b : D} : ixD (.lst [a, b]) (.int 0) = some a := rfl
theorem lpair1 {a b : D} : ixD (.lst [a, b]) (.int 1) = some b := rfl
theorem restright_ok (h : Ov xs d c) {M : Int} {r : D} (hr : RestR (It.tots xs) M c r) : d_l_rest_right [d, .int c, r] = .ok (.bl true) := by
  unfold d_l_rest_right
  dsimp only
  rcases hr with ⟨rfl, rs⟩ | ⟨t, rfl, r1, rs, _⟩
  · have hp := h.w.p
    have t1 : Tell xs c 1 = .int (iter (It.tots xs) 1 c) := if_neg (by omega)
    have s1 := said_ok h 1
    have s1 : d_l_said [d, .int 1, .int c] = .ok (Tell xs c 1) := s1
    have : c < iter (It.tots xs) 1 c := rs 1 0 (by omega)
    rw [isNN, op_s, if_pos rfl, s1, t1, bind_s, gtI, op_s, decide_eq_true this]
  · have e2 : lenD [D.tup [.int t, .int (iter (It.tots xs) t c)]] = some (.int 2) := rfl
    have e3 : neD (.int 2) (.int 2) = some false := rfl
    rw [isNT, op_s, if_neg (by simp), if_neg (by simp [isTup]), e2, op_s, e3, op_s, bind_s, if_neg (by simp)]
    have e4 : asL (D.lst [.int 0, .int 1]) = some ([(0 : Nat), 1].map fun j : Nat => D.int j) := rfl
    rw [e4, op_s]
    have lc := lc_map (f := fun d9 (s8 : Unit) => op (ixD (D.tup [.int t, .int (iter (It.tots xs) t c)]) (D.int 0)) fun t10 => op (addD t10 d9) fun t11 => (d_l_said [d, t11, .int c]).bind fun a12 => .ok (some a12, ())) (e := fun j : Nat => D.int j) (g := fun j : Nat => Tell xs c (t + j)) (s := ()) (xs := [0, 1]) (by decide) (fun j _ => by
      rw [pair0, op_s, addI, op_s, ← Int.natCast_add, said_ok h, bind_s])
    rw [lc, bind_s]
    have em : List.map (fun j => Tell xs c (t + j)) [0, 1] = [Tell xs c t, Tell xs c (t + 1)] := rfl
    dsimp only
    rw [em]
    have first : ((op (ixD (D.lst [Tell xs c t, Tell xs c (t + 1)]) (D.int 1)) fun t15 => op (notND t15 D.non) fun b16 => if b16 = true then (op (ixD (D.tup [.int t, .int (iter (It.tots xs) t c)]) (D.int 1)) fun t17 => op (ixD (D.tup [.int t, .int (iter (It.tots xs) t c)]) (D.int 1)) fun t18 => op (neD (D.lst [Tell xs c t, Tell xs c (t + 1)]) (D.lst [t17, t18])) fun b19 => .ok b19) else (.ok false) : Res (Bool))) = .ok false := by
      rw [lpair1, op_s]
      rcases tell_cases xs c (t + 1) with z | z
      · rw [z, notNN, op_s, if_neg (by simp)]
      · obtain ⟨_, k⟩ := tell_some (xs := xs) (c := c) (t := t + 1) (by rw [z]; exact fun y => nomatch y)
        have e5 : iter (It.tots xs) (t + 1) c = iter (It.tots xs) t c := r1
        rw [z, notNI, op_s, if_pos rfl, pair1, op_s, op_s, k t (by omega), e5]
        have := ne_same (d := .lst [.int (iter (It.tots xs) t c), .int (iter (It.tots xs) t c)]) ((shp_lst (n := 0) (mem2 shp_int shp_int)).mono (by omega))
        rw [this, op_s]
    rw [first, bind_s]
    rw [if_neg (by simp), lpair0, op_s]
    rcases tell_cases xs c t with z | z
    · rw [z, isNN, op_s, asB_ok, op_s, if_pos rfl, bind_s]
    · obtain ⟨_, k⟩ := tell_some (xs := xs) (c := c) (t := t) (by rw [z]; exact fun y => nomatch y)
      rw [z, isNI, op_s, asB_ok, op_s, if_neg (by simp), pair0, op_s, eqI, op_s, asB_ok, op_s]
      by_cases ht : (t : Int) = 0
      · rw [if_pos (by simpa using ht), bind_s]
      · rw [if_neg (by simpa using ht), op_s, subI, op_s]
        obtain ⟨u, rfl⟩ : ∃ u, t = u + 1 := ⟨t - 1, by omega⟩
        rw [show ((u + 1 : Nat) : Int) - 1 = (u : Nat) by omega, said_ok h, k u (by omega), bind_s, pair1, op_s, ltI, op_s, bind_s]
        have := rs u (by omega)
        rw [decide_eq_true this]
theorem until_of (h : Ov xs d c) {goal : Int} (g0 : 0 ≤ goal) (g1 : goal < 2 ^ 125) : Ok (d_t_times_until [d, .int c, .int goal]) (UntR (It.tots xs) c goal) := until_ok b120 h.r h.ask.d h.ask.o (by have := h.ask.s; omega) h.ask.p h.c0 g0 g1
theorem goalright_ok (h : Ov xs d c) {M : Int} {r : D} (hr : RestR (It.tots xs) M c r) {goal : Int} (g0 : 0 ≤ goal) (g1 : goal < 2 ^ 125) : d_l_goal_right [d, .int c, .int goal, r] = .ok (.bl true) := by
  have T1 := It.tots_ge xs
  obtain ⟨a, e, ha⟩ := until_of h g0 g1
  unfold d_l_goal_right
  dsimp only
  rw [e, bind_s]
  rcases ha with ⟨rfl, t, t1, t2, t3⟩ | ⟨t, rfl, t1, t2⟩
  · rw [isNN, op_s, if_pos rfl]
    rcases hr with ⟨rfl, rs⟩ | ⟨t0, rfl, r1, rs, _⟩
    · have : iter (It.tots xs) t c < It.tots xs (iter (It.tots xs) t c) := rs (t + 1) t (by omega)
      omega
    · have : iter (It.tots xs) t0 c = iter (It.tots xs) t c := by
        have a1 := it_top T1 t1 t0
        have a2 := it_top T1 r1 t
        omega
      rw [notNT, op_s, asB_ok, op_s, if_pos rfl, pair1, op_s, ltI, op_s, bind_s, decide_eq_true (by omega)]
  · rw [isNI, op_s, if_neg (by simp), if_neg (by simp [isBool]), if_neg (by simp [isInt]), ltI, op_s, bind_s, decide_eq_false (by omega), if_neg (by simp)]
    have first : ((op (notND r D.non) fun b11 => if b11 = true then (((op (ixD r (D.int 1)) fun t13 => op (ltD t13 (.int goal)) fun b14 => if b14 = true then (.ok true) else (op (ixD r (D.int 0)) fun t15 => op (ltD t15 (.int t)) fun b16 => .ok b16) : Res (Bool))).bind fun a12 => .ok a12) else (.ok false) : Res (Bool))) = .ok false := by
      rcases hr with ⟨rfl, rs⟩ | ⟨t0, rfl, r1, rs, _⟩
      · rw [notNN, op_s, if_neg (by simp)]
      · have a1 := it_top T1 r1 t
        have a2 : ¬ t0 < t := fun z => by have := t2 t0 z; omega
        rw [notNT, op_s, if_pos rfl, pair1, op_s, ltI, op_s, decide_eq_false (by omega), if_neg (by simp), pair0, op_s, ltI, op_s, bind_s, decide_eq_false (by omega)]
    rw [first, bind_s, if_neg (by simp), said_ok h, bind_s]
    rcases tell_cases xs c t with z | z
    · rw [z, notNN, op_s, if_neg (by simp), bind_s, if_neg (by simp), isNN, op_s, asB_ok, op_s, if_pos rfl, bind_s]
    · obtain ⟨_, k⟩ := tell_some (xs := xs) (c := c) (t := t) (by rw [z]; exact fun y => nomatch y)
      rw [z, notNI, op_s, if_pos rfl, ltI, op_s, bind_s, decide_eq_false (by omega), if_neg (by simp), isNI, op_s, asB_ok, op_s, if_neg (by simp), eqI, op_s, asB_ok, op_s]
      by_cases ht : (t : Int) = 0
      · rw [if_pos (by simpa using ht), bind_s]
      · rw [if_neg (by simpa using ht), subI, op_s]
        obtain ⟨u, rfl⟩ : ∃ u, t = u + 1 := ⟨t - 1, by omega⟩
        rw [show ((u + 1 : Nat) : Int) - 1 = (u : Nat) by omega, said_ok h, k u (by omega), bind_s, ltI, op_s, bind_s]
        have := t2 u (by omega)
        rw [decide_eq_true this]
theorem forF_up {S R : Type} {f : D → S → Res (LFlow S R)} {P : Nat → S → Prop} {Q : Flow S R → Prop} {n : Nat} (hf : ∀ i s, i < n → P i s → Ok (f (.int (i : Nat)) s) fun r => (∃ s', r = .nx s' ∧ P (i + 1) s') ∨ ∃ v, r = .rt v ∧ Q (.ex v)) (hn : ∀ s, P n s → Q (.nx s)) : ∀ (ds : List D) (i : Nat) (s : S), (∀ (j : Nat) (x : D), ds[j]? = some x → x = .int ((i + j : Nat) : Int)) → i + ds.length = n → P i s → Ok (forF ds s f) Q
  | [], i, s, _, e, p => by
    rw [forF_no]
    have e : i = n := by simpa using e
    subst e
    exact Ok.ret (hn s p)
  | x :: ds, i, s, hx, e, p => by
    rw [List.length_cons] at e
    have ex : x = .int ((i : Nat) : Int) := by have := hx 0 x rfl; rwa [Nat.add_zero] at this
    subst ex
    obtain ⟨r, er, hr⟩ := hf i s (by omega) p
    rcases hr with ⟨s', rfl, p'⟩ | ⟨v, rfl, q⟩
    · rw [forF_nx er]
      exact forF_up hf hn ds (i + 1) s' (fun j y hy => by
        have := hx (j + 1) y (by simpa using hy)
        rw [this]; congr 2; omega) (by omega) p'
    · rw [forF_rt er]
      exact Ok.ret q
theorem upto_get {n j : Nat} {x : D} (h : (upto 0 n)[j]? = some x) : x = .int ((0 + j : Nat) : Int) := by
  unfold upto at h
  rw [List.getElem?_map] at h
  obtain ⟨i, hi, rfl⟩ := Option.map_eq_some_iff.mp h
  obtain ⟨hj, e⟩ := List.getElem?_eq_some_iff.mp hi
  rw [List.getElem_range] at e
  subst e
  congr 1
theorem nearright_ok (h : Ov xs d c) {M : Int} {r : D} (hr : RestR (It.tots xs) M c r) : d_l_near_right [d, .int c, r] = .ok (.bl true) := by
  have T1 := It.tots_ge xs
  have ax := h.ask
  unfold d_l_near_right
  dsimp only
  rw [rng1 (by decide) (by decide), op_s]
  refine Ok.eq (Ok.fbn' (forF_up (n := 30) (P := fun i s => s = .int (iter (It.tots xs) i c) ∧ Rise (It.tots xs) c i) (Q := fun r => r = .ex (.bl true) ∨ ∃ s, r = .nx s ∧ Rise (It.tots xs) c 30) ?_ (fun s p => .inr ⟨s, rfl, p.2⟩) _ 0 _ (fun j x hx => upto_get hx) (by rw [upto_len]; rfl) ⟨rfl, fun k hk => by omega⟩) ?_ ?_)
  · rintro i _ hi ⟨rfl, rs⟩
    have hcn : c ≤ iter (It.tots xs) i c := iter_ge T1 i
    have hn0 : 0 ≤ iter (It.tots xs) i c := Int.le_trans h.c0 hcn
    rw [p10_29, op_s, gtI, op_s]
    by_cases hbig : (10 : Int) ^ 29 < iter (It.tots xs) i c
    · rw [if_pos (by simpa using hbig)]
      exact Ok.ret (.inr ⟨_, rfl, .inl rfl⟩)
    rw [if_neg (by simpa using hbig), ax.tot h.r hn0, bind_s]
    have first : ((op (notND r D.non) fun b9 => if b9 = true then (op (ixD r (D.int 0)) fun t10 => op (eqD t10 (.int (i : Nat))) fun b11 => if b11 = true then (((op (neD (.int (It.tots xs (iter (It.tots xs) i c))) (.int (iter (It.tots xs) i c))) fun b13 => if b13 = true then (.ok true) else (op (ixD r (D.int 1)) fun t14 => op (neD t14 (.int (iter (It.tots xs) i c))) fun b15 => .ok b15) : Res (Bool))).bind fun a12 => .ok a12) else (.ok false)) else (.ok false) : Res (Bool))) = .ok false := by
      rcases hr with ⟨rfl, _⟩ | ⟨t0, rfl, r1, _, _⟩
      · rw [notNN, op_s, if_neg (by simp)]
      · rw [notNT, op_s, if_pos rfl, pair0, op_s, eqI, op_s]
        by_cases ht : (t0 : Int) = (i : Nat)
        · have ht : t0 = i := by omega
          subst ht
          rw [if_pos (by simp), neI, op_s, r1, decide_eq_true rfl, if_neg (by simp), pair1, op_s, neI, op_s, decide_eq_true rfl]
          rfl
        · rw [if_neg (by simpa using ht)]
    rw [first, bind_s, if_neg (by simp), eqI, op_s]
    by_cases hst : It.tots xs (iter (It.tots xs) i c) = iter (It.tots xs) i c
    · rw [if_pos (by simpa using hst)]
      have er : r = .tup [.int (i : Nat), .int (iter (It.tots xs) i c)] := by
        rcases hr with ⟨rfl, all⟩ | ⟨t0, rfl, r1, rs0, _⟩
        · have : iter (It.tots xs) i c < It.tots xs (iter (It.tots xs) i c) := all (i + 1) i (by omega)
          omega
        · have h1 := rise_not r1 rs
          have h2 := rise_not hst rs0
          have : t0 = i := by omega
          subst this; rfl
      subst er
      have es := eq_same (d := .tup [.int (i : Nat), .int (iter (It.tots xs) i c)]) ((shp_tup (n := 0) (mem2 shp_int shp_int)).mono (by omega))
      obtain ⟨a, e, ha⟩ := until_of h (goal := iter (It.tots xs) i c + 1) (by omega) (by omega)
      have en : a = .non := by
        rcases ha with ⟨z, _⟩ | ⟨t, _, t1, _⟩
        · exact z
        · have := it_top T1 hst t
          omega
      subst en
      rw [es, op_s, asB_ok, op_s, if_pos rfl, addI, op_s, e, bind_s, isNN, op_s, bind_s]
      exact Ok.ret (.inr ⟨_, rfl, .inl rfl⟩)
    · rw [if_neg (by simpa using hst)]
      have hlt : iter (It.tots xs) i c < It.tots xs (iter (It.tots xs) i c) := by have := T1 (iter (It.tots xs) i c); omega
      have hlt' : iter (It.tots xs) i c < iter (It.tots xs) (i + 1) c := hlt
      obtain ⟨a, e, ha⟩ := until_of h (goal := iter (It.tots xs) i c + 1) (by omega) (by omega)
      have en : a = .int ((i + 1 : Nat) : Int) := by
        rcases ha with ⟨_, t, t1, t2, _⟩ | ⟨t, rfl, t1, t2⟩
        · have := it_top T1 t1 (i + 1)
          omega
        · have h1 : i < t := by
            refine Decidable.byContradiction fun z => ?_
            have : iter (It.tots xs) t c ≤ iter (It.tots xs) i c := it_mono T1 (by omega)
            omega
          have h2 : ¬ i + 1 < t := fun z => by have := t2 (i + 1) z; omega
          rw [show t = i + 1 by omega]
      subst en
      rw [addI, op_s, e, bind_s, addI, op_s, neI, op_s]
      have second : ((if (!decide (((i + 1 : Nat) : Int) = ((i : Nat) : Int) + 1)) = true then (.ok true) else (((op (notND r D.non) fun b29 => if b29 = true then (op (ixD r (D.int 0)) fun t30 => op (eqD t30 (.int (i : Nat))) fun b31 => .ok b31) else (.ok false) : Res (Bool))).bind fun a28 => .ok a28) : Res (Bool))) = .ok false := by
        rw [if_neg (by simp)]
        rcases hr with ⟨rfl, _⟩ | ⟨t0, rfl, r1, _, _⟩
        · rw [notNN, op_s, if_neg (by simp), bind_s]
        · rw [notNT, op_s, if_pos rfl, pair0, op_s, eqI, op_s, bind_s]
          congr 1
          refine decide_eq_false fun z => ?_
          have : t0 = i := by omega
          subst this
          omega
      rw [second, bind_s, if_neg (by simp)]
      refine Ok.ret (.inl ⟨_, rfl, rfl, fun k hk => ?_⟩)
      by_cases hki : k < i
      · exact rs k hki
      · have : k = i := by omega
        subst this
        exact hlt
  · intro s hq
    rcases hq with z | ⟨s', _, rs⟩
    · cases z
    · rcases hr with ⟨rfl, _⟩ | ⟨t0, rfl, r1, _, _⟩
      · rw [isNN, op_s, asB_ok, op_s, if_pos rfl, bind_s]
        exact Ok.of rfl
      · have := rise_not r1 rs
        rw [isNT, op_s, asB_ok, op_s, if_neg (by simp), pair0, op_s, geI, op_s, bind_s, decide_eq_true (by omega)]
        exact Ok.of rfl
  · intro r hq
    rcases hq with z | ⟨s', z, _⟩
    · cases z; rfl
    · cases z

theorem restof (h : Ov xs d c) : Ok (d_t_rest_of [d, .int c]) (RestR (It.tots xs) (2 ^ 110 + 10 ^ 30) c) := rest_ok (by decide) b120 h.r h.ask.d h.ask.o (by have := h.ask.s; omega) h.ask.p h.c0
theorem pure_law (ns : List Int) (hl : ns.length ≤ 63) : d_law [.scr ns] = .ok (.bl true) := by
  unfold d_law
  dsimp only
  have e1 : lenD [.scr ns] = some (.int ns.length) := rfl
  obtain ⟨k, ek, k0, k6⟩ := cells (ns := ns) (n := 6) (by decide) (by decide)
  rw [e1, op_s, min2I, op_s, max2I, op_s, ek, rng1 k0 (by omega), op_s]
  refine Ok.eq (Ok.fbn (P := fun _ => True) (Ok.mono (Ok.forN (fun _ _ => True) 6 trivial (by rw [upto_len]; omega) (fun d hd _ i hi _ => ?_)) fun f ⟨s, e, _⟩ => ⟨s, e, trivial⟩) fun s _ => ?_)
  · obtain ⟨j, hj, rfl⟩ := upto_mem hd
    refine Ok.bnd (urn_k (by omega)) fun t0 u0 => ?_
    refine Ok.bnd (lfar_k (size := 20) (deep := 3) u0 (by omega) (by omega) (by omega)) ?_
    rintro _ ⟨xs, ds, t1, rfl, rx, hx, u1⟩
    dsimp only
    have pickrow : Ok (((d_l_ball [(D.lst t1), (D.int 2)]).bind fun a43 => op (eqD a43.1 (D.int 0)) fun b44 => if b44 = true then ((d_l_ball [(D.lst a43.2), (D.int 2)]).bind fun a45 => op (ixD (D.lst [(D.int 9), (D.int 200)]) a45.1) fun t46 => op (powD (D.int 10) (D.int 3)) fun t47 => (d_l_long 8 [(D.lst a45.2), (D.lst [(D.int 20), (D.int 4), t46]), (D.int 3), t47]).bind fun a48 => .ok (a48.2.1, a48.1)) else (.ok (a43.2, D.lst ds)) : Res (List D × D))) fun a => ∃ (ys : List It) (es t' : List D), a = (t', .lst es) ∧ ItsR ys es ∧ Drawn 3 20 ys ∧ UrnOk (3 * 10 ^ 7) t' := by
      refine Ok.bnd (ball_k u1 (by omega) (by decide) (by decide)) ?_
      rintro _ ⟨r1, t2, rfl, a1, b1, k1⟩
      refine Ok.op eqI (Ok.ite (fun _ => ?_) fun _ => Ok.ret ⟨xs, ds, t2, rfl, rx, hx, k1.mono (by omega)⟩)
      refine Ok.bnd (ball_k k1 (by omega) (by decide) (by decide)) ?_
      rintro _ ⟨r2, t3, rfl, a2, b2', k2⟩
      have pick : ∃ l : Int, ixD (D.lst [(D.int 9), (D.int 200)]) (.int r2) = some (.int l) ∧ 0 < l ∧ l ≤ 200 := by
        have : r2 = 0 ∨ r2 = 1 := by omega
        rcases this with rfl | rfl
        · exact ⟨_, rfl, by decide, by decide⟩
        · exact ⟨_, rfl, by decide, by decide⟩
      obtain ⟨l, el, l0, l1⟩ := pick
      have hw : drw 3 = 43000 - 0 ∨ drw 3 ≤ 10 ^ 6 := .inr (by decide)
      have hw : drw 3 ≤ 10 ^ 6 := by decide
      have p3 : powD (.int 10) (.int 3) = some (.int (10 ^ 3)) := powI (by decide)
      dsimp only
      rw [el, op_s, p3, op_s]
      refine Ok.bnd (long_k (B := 2 ^ 110) b4000 8 3 (by omega) (by omega) t3 (0 + 10 ^ 7 + 1 + 1) 20 4 l (10 ^ 3) k2 (by omega) (by decide) (by decide) (by decide) (by decide) (by decide) l0 (by omega) (by omega) (by decide) (by decide) (by decide)) ?_
      rintro _ ⟨ys, es, t', q, rfl, hy, hyd, hyo, hyz, q0, hyp, ku⟩
      exact Ok.ret ⟨ys, es, t', rfl, hy, ⟨hyd, hyo, by omega, by omega⟩, ku.mono (by omega)⟩
    refine Ok.bnd pickrow ?_
    rintro _ ⟨ys, es, t2, rfl, ry, hy, u2⟩
    dsimp only
    rw [rng1 (by decide) (by decide), op_s]
    have hd3 := hy.d
    have hs20 := hy.s
    have rb : RowR ys (.lst es) := ry.row
    refine Ok.fbn (P := fun _ => True) (Ok.mono (Ok.forN (fun i s => UrnOk (3 * 10 ^ 7 + i * 100) s) 2 (u2.mono (by omega)) (by rw [upto_len]; decide) (fun d hd s i hi us => ?_)) fun f ⟨s, e, _⟩ => ⟨s, e, trivial⟩) fun s _ => Ok.ret ⟨(), rfl, trivial⟩
    rw [lsayings_ok 8 _ _ rb (by omega) (by omega), bind_s]
    have hfl := It.flts_siz ys
    refine Ok.bnd (lcompany_k us (by omega) (It.flts_ok _ hy.o) (by omega)) ?_
    rintro _ ⟨c, t3, rfl, c0, c1, u3⟩
    have ov : Ov ys (.lst es) c := ⟨rb, hy, c0, by omega⟩
    dsimp only
    refine Ok.bnd (restof ov) fun r hr => ?_
    rw [restright_ok ov hr, bind_s, tru_ok, op_s, if_neg (by simp), nearright_ok ov hr, bind_s, tru_ok, op_s, bind_s, if_neg (by simp), addI, op_s]
    refine Ok.bnd (ball_k u3 (by omega) (by decide) (by decide)) ?_
    rintro _ ⟨r9, t4, rfl, a9, b9, k4⟩
    dsimp only
    rw [addI, op_s, p10_29, op_s]
    refine Ok.bnd (ball_k k4 (by omega) (by decide) (by decide)) ?_
    rintro _ ⟨rz, t5, rfl, az, bz, k5⟩
    dsimp only
    rw [addI, op_s]
    have goals : ∃ gs : List Int, ((op (notND r D.non) fun b37 => if b37 = true then (op (ixD r (D.int 1)) fun t38 => op (ixD r (D.int 1)) fun t39 => op (addD t39 (D.int 1)) fun t40 => op (addD (D.lst [.int c, .int (c + 1 + r9), .int (c + rz)]) (D.lst [t38, t40])) fun t41 => .ok t41) else (.ok (D.lst [.int c, .int (c + 1 + r9), .int (c + rz)])) : Res (D))) = .ok (.lst (gs.map D.int)) ∧ gs.length ≤ 5 ∧ ∀ g, g ∈ gs → 0 ≤ g ∧ g < 2 ^ 125 := by
      rcases hr with ⟨rfl, _⟩ | ⟨t0, rfl, _, _, up⟩
      · rw [notNN, op_s, if_neg (by simp)]
        refine ⟨[c, c + 1 + r9, c + rz], rfl, by simp, ?_⟩
        exact mem3 (by omega) (by omega) (by omega)
      · have lo : c ≤ iter (It.tots ys) t0 c := iter_ge (It.tots_ge ys) t0
        rw [notNT, op_s, if_pos rfl, pair1, op_s, op_s, addI, op_s, addL (by simp), op_s]
        refine ⟨[c, c + 1 + r9, c + rz, iter (It.tots ys) t0 c, iter (It.tots ys) t0 c + 1], rfl, by simp, fun g hg => ?_⟩
        simp only [List.mem_cons, List.not_mem_nil, or_false] at hg
        rcases hg with rfl | rfl | rfl | rfl | rfl <;> omega
    obtain ⟨gs, eg, gl, hg⟩ := goals
    rw [eg, bind_s, show asL (.lst (gs.map D.int)) = some (gs.map D.int) from rfl, op_s]
    have none : lcF (gs.map D.int) (() : Unit) [] (fun d32 s31 => (d_l_goal_right [D.lst es, .int c, d32, r]).bind fun a33 => op (truD a33) fun b34 => if (!b34) = true then (.ok (some d32, ())) else (.ok (none, ()))) = .ok ([], ()) := by
      have := lcF_pick (f := fun d32 (s31 : Unit) => (d_l_goal_right [D.lst es, .int c, d32, r]).bind fun a33 => op (truD a33) fun b34 => if (!b34) = true then (.ok (some d32, ())) else (.ok (none, ()))) (g := fun _ => none) (s := ()) (ds := gs.map D.int) (acc := []) (by rw [List.length_map, List.length_nil]; omega) (fun x hx => by
        obtain ⟨g, hgm, rfl⟩ := List.mem_map.mp hx
        obtain ⟨g0, g1⟩ := hg g hgm
        rw [goalright_ok ov hr g0 g1, bind_s, tru_ok, op_s, if_neg (by simp)])
      rw [this]
      simp
    rw [none, bind_s]
    dsimp only
    rw [ne_nil ((shp_lst (n := 0) (ds := []) (by simp)).mono (by omega)), op_s, if_neg (by simp)]
    exact Ok.ret ⟨_, rfl, k5.mono (by omega)⟩
  · have ov : Ov [] (.lst []) 7 := ⟨⟨[], .inl rfl, rfl⟩, ⟨Nat.zero_le _, trivial, Nat.zero_le _, by show ((0 : Nat) : Int) ≤ _; decide⟩, by decide, by decide⟩
    have id7 : ∀ k, iter (It.tots []) k 7 = 7 := it_rest rfl
    obtain ⟨r, er, hr⟩ := restof ov
    have e0 : r = .tup [.int 0, .int 7] := by
      rcases hr with ⟨_, rs⟩ | ⟨t, rfl, _, rs, _⟩
      · have := rs 1 0 (by omega)
        rw [id7, id7] at this
        omega
      · have : t = 0 := by
          refine Decidable.byContradiction fun z => ?_
          have := rs 0 (by omega)
          rw [id7, id7] at this
          omega
        subst this; rfl
    subst e0
    obtain ⟨a, ea, ha⟩ := until_of ov (goal := 8) (by decide) (by decide)
    have e9 : a = .non := by
      rcases ha with ⟨z, _⟩ | ⟨t, _, t1, _⟩
      · exact z
      · rw [id7] at t1; omega
    subst e9
    rw [er, bind_s, eq_same ((shp_tup (n := 0) (mem2 shp_int shp_int)).mono (by omega)), op_s, asB_ok, op_s, if_pos rfl, ea, bind_s, isNN, op_s, bind_s]
    exact Ok.of rfl
end
theorem all_mk {l : PySem.W.OpenLaw} {w : World} {K : PySem.W.Frag} {h : Heap} {mg : Str → Option Value} {fa f1 f2 f3 f4 f5 f6 f7 f8 f9 f10 f11 f12 f13 f14 f15 f16 f17 f18 f19 f20 f21 f22 f23 f24 f25 f26 f27 f28 f29 f30 f31 f32 f33 f34 : Addr} (X : K.In h) (G : h.Ns mainGlobals mg) (hfa : mg "law" = some (.ref fa))
    {od1 an1 od2 an2 od3 an3 od4 an4 od5 an5 od6 an6 od7 an7 od8 an8 od9 an9 od10 an10 od11 an11 od12 an12 od13 an13 od14 an14 od15 an15 od16 an16 od17 an17 od18 an18 od19 an19 od20 an20 od21 an21 od22 an22 od23 an23 od24 an24 od25 an25 od26 an26 od27 an27 od28 an28 od29 an29 od30 an30 od31 an31 od32 an32 od33 an33 od34 an34 : Option Addr} {sl1 sl2 sl3 sl4 sl5 sl6 sl7 sl8 sl9 sl10 sl11 sl12 sl13 sl14 sl15 sl16 sl17 sl18 sl19 sl20 sl21 sl22 sl23 sl24 sl25 sl26 sl27 sl28 sl29 sl30 sl31 sl32 sl33 sl34 : Array (Option Value)} {oc1 dc1 pm1 cd1 ct1 kV1 oc2 dc2 pm2 cd2 ct2 kV2 oc3 dc3 pm3 cd3 ct3 kV3 oc4 dc4 pm4 cd4 ct4 kV4 oc5 dc5 pm5 cd5 ct5 kV5 oc6 dc6 pm6 cd6 ct6 kV6 oc7 dc7 pm7 cd7 ct7 kV7 oc8 dc8 pm8 cd8 ct8 kV8 oc9 dc9 pm9 cd9 ct9 kV9 oc10 dc10 pm10 cd10 ct10 kV10 oc11 dc11 pm11 cd11 ct11 kV11 oc12 dc12 pm12 cd12 ct12 kV12 oc13 dc13 pm13 cd13 ct13 kV13 oc14 dc14 pm14 cd14 ct14 kV14 oc15 dc15 pm15 cd15 ct15 kV15 oc16 dc16 pm16 cd16 ct16 kV16 oc17 dc17 pm17 cd17 ct17 kV17 oc18 dc18 pm18 cd18 ct18 kV18 oc19 dc19 pm19 cd19 ct19 kV19 oc20 dc20 pm20 cd20 ct20 kV20 oc21 dc21 pm21 cd21 ct21 kV21 oc22 dc22 pm22 cd22 ct22 kV22 oc23 dc23 pm23 cd23 ct23 kV23 oc24 dc24 pm24 cd24 ct24 kV24 oc25 dc25 pm25 cd25 ct25 kV25 oc26 dc26 pm26 cd26 ct26 kV26 oc27 dc27 pm27 cd27 ct27 kV27 oc28 dc28 pm28 cd28 ct28 kV28 oc29 dc29 pm29 cd29 ct29 kV29 oc30 dc30 pm30 cd30 ct30 kV30 oc31 dc31 pm31 cd31 ct31 kV31 oc32 dc32 pm32 cd32 ct32 kV32 oc33 dc33 pm33 cd33 ct33 kV33 oc34 dc34 pm34 cd34 ct34 kV34 : Value}
    {C_Over C_Spot : Addr} (cn : PySem.W.specialIn K (.builtin "object.__class__") "__get__" = some (some (.builtin "getset_descriptor.__get__")))
    (ck : PySem.W.takesIn K (.builtin "object.__class__") = some true)
    (o_Over : PySem.W.nsIn K mainGlobals "Over" = some (some (.ref C_Over)))
    (pg_Over : PySem.W.plainGet K C_Over Str.empty = true)
    (hd_Over : PySem.W.hasDictIn K C_Over = true)
    (po_Over : PySem.W.plainOver K C_Over = true)
    (sa_Over : PySem.W.findIn K (.ref C_Over) "__setattr__" = some (some (.builtin "object.__setattr__")))
    (ha_Over : PySem.W.findIn K (.ref C_Over) "__class__" = some (some (.builtin "object.__class__")))
    (hm_Over : PySem.W.mroIn K C_Over (.type "object") = some true)
    (mk_Over : PySem.W.makesIn K C_Over = true)
    (kc_Over : PySem.W.keepIn K (.ref C_Over) = true)
    (ky_Over_int : PySem.W.kitOne K (.ref C_Over) (.type "int") = some false)
    (ky_Over_bool : PySem.W.kitOne K (.ref C_Over) (.type "bool") = some false)
    (ky_Over_str : PySem.W.kitOne K (.ref C_Over) (.type "str") = some false)
    (ky_Over_tuple : PySem.W.kitOne K (.ref C_Over) (.type "tuple") = some false)
    (ky_Over_list : PySem.W.kitOne K (.ref C_Over) (.type "list") = some false)
    (ky_Over_dict : PySem.W.kitOne K (.ref C_Over) (.type "dict") = some false)
    (na_Over_s8_times : PySem.W.findIn K (.ref C_Over) "s8_times" = some none)
    (na_Over_s8_parts : PySem.W.findIn K (.ref C_Over) "s8_parts" = some none)
    (na_Over_s8_once : PySem.W.findIn K (.ref C_Over) "s8_once" = some none)
    (na_Over_s8_many : PySem.W.findIn K (.ref C_Over) "s8_many" = some none)
    (o_Spot : PySem.W.nsIn K mainGlobals "Spot" = some (some (.ref C_Spot)))
    (pg_Spot : PySem.W.plainGet K C_Spot Str.empty = true)
    (hd_Spot : PySem.W.hasDictIn K C_Spot = true)
    (po_Spot : PySem.W.plainOver K C_Spot = true)
    (sa_Spot : PySem.W.findIn K (.ref C_Spot) "__setattr__" = some (some (.builtin "object.__setattr__")))
    (ha_Spot : PySem.W.findIn K (.ref C_Spot) "__class__" = some (some (.builtin "object.__class__")))
    (hm_Spot : PySem.W.mroIn K C_Spot (.type "object") = some true)
    (mk_Spot : PySem.W.makesIn K C_Spot = true)
    (kc_Spot : PySem.W.keepIn K (.ref C_Spot) = true)
    (ky_Spot_int : PySem.W.kitOne K (.ref C_Spot) (.type "int") = some false)
    (ky_Spot_bool : PySem.W.kitOne K (.ref C_Spot) (.type "bool") = some false)
    (ky_Spot_str : PySem.W.kitOne K (.ref C_Spot) (.type "str") = some false)
    (ky_Spot_tuple : PySem.W.kitOne K (.ref C_Spot) (.type "tuple") = some false)
    (ky_Spot_list : PySem.W.kitOne K (.ref C_Spot) (.type "list") = some false)
    (ky_Spot_dict : PySem.W.kitOne K (.ref C_Spot) (.type "dict") = some false)
    (na_Spot_s8_said : PySem.W.findIn K (.ref C_Spot) "s8_said" = some none)
    (na_Spot_s8_number : PySem.W.findIn K (.ref C_Spot) "s8_number" = some none)
    (na_Spot_s8_many : PySem.W.findIn K (.ref C_Spot) "s8_many" = some none)
    (ky_iso_Over_Spot : PySem.W.kitOne K (.ref C_Over) (.ref C_Spot) = some false)
    (ky_iso_Spot_Spot : PySem.W.kitOne K (.ref C_Spot) (.ref C_Spot) = some true)
    (a1 : PySem.W.nsIn K mainGlobals "is_number" = some (some (.ref f1))) (l1 : K.lookup f1 = some ⟨oc1, od1, .func (PySem.W.fnOf "is_number" "is_number" (defArgs (topS 5)) (defBody (topS 5)) (defScope (topS 5)) .none kV1 dc1 pm1 an1 cd1 ct1), sl1⟩) (c1 : PySem.W.codeIn K cd1 "is_number" = true) (k1 : PySem.W.keepIn K (.ref f1) = true)
    (a2 : PySem.W.nsIn K mainGlobals "need_number" = some (some (.ref f2))) (l2 : K.lookup f2 = some ⟨oc2, od2, .func (PySem.W.fnOf "need_number" "need_number" (defArgs (topS 7)) (defBody (topS 7)) (defScope (topS 7)) .none kV2 dc2 pm2 an2 cd2 ct2), sl2⟩) (c2 : PySem.W.codeIn K cd2 "need_number" = true) (k2 : PySem.W.keepIn K (.ref f2) = true)
    (a3 : PySem.W.nsIn K mainGlobals "is_saying" = some (some (.ref f3))) (l3 : K.lookup f3 = some ⟨oc3, od3, .func (PySem.W.fnOf "is_saying" "is_saying" (defArgs (topS 6)) (defBody (topS 6)) (defScope (topS 6)) .none kV3 dc3 pm3 an3 cd3 ct3), sl3⟩) (c3 : PySem.W.codeIn K cd3 "is_saying" = true) (k3 : PySem.W.keepIn K (.ref f3) = true)
    (a4 : PySem.W.nsIn K mainGlobals "people_said" = some (some (.ref f4))) (l4 : K.lookup f4 = some ⟨oc4, od4, .func (PySem.W.fnOf "people_said" "people_said" (defArgs (topS 14)) (defBody (topS 14)) (defScope (topS 14)) .none kV4 dc4 pm4 an4 cd4 ct4), sl4⟩) (c4 : PySem.W.codeIn K cd4 "people_said" = true) (k4 : PySem.W.keepIn K (.ref f4) = true)
    (a5 : PySem.W.nsIn K mainGlobals "people_of" = some (some (.ref f5))) (l5 : K.lookup f5 = some ⟨oc5, od5, .func (PySem.W.fnOf "people_of" "people_of" (defArgs (topS 15)) (defBody (topS 15)) (defScope (topS 15)) .none kV5 dc5 pm5 an5 cd5 ct5), sl5⟩) (c5 : PySem.W.codeIn K cd5 "people_of" = true) (k5 : PySem.W.keepIn K (.ref f5) = true)
    (a6 : PySem.W.nsIn K mainGlobals "is_long" = some (some (.ref f6))) (l6 : K.lookup f6 = some ⟨oc6, od6, .func (PySem.W.fnOf "is_long" "is_long" (defArgs (topS 16)) (defBody (topS 16)) (defScope (topS 16)) .none kV6 dc6 pm6 an6 cd6 ct6), sl6⟩) (c6 : PySem.W.codeIn K cd6 "is_long" = true) (k6 : PySem.W.keepIn K (.ref f6) = true)
    (a7 : PySem.W.nsIn K mainGlobals "need_long" = some (some (.ref f7))) (l7 : K.lookup f7 = some ⟨oc7, od7, .func (PySem.W.fnOf "need_long" "need_long" (defArgs (topS 17)) (defBody (topS 17)) (defScope (topS 17)) .none kV7 dc7 pm7 an7 cd7 ct7), sl7⟩) (c7 : PySem.W.codeIn K cd7 "need_long" = true) (k7 : PySem.W.keepIn K (.ref f7) = true)
    (a8 : PySem.W.findIn K (.ref C_Spot) "__init__" = some (some (.ref f8))) (i8 : PySem.W.isFn K (.ref f8) = true) (l8 : K.lookup f8 = some ⟨oc8, od8, .func (PySem.W.fnOf "__init__" "Spot.__init__" (defArgs (inClass (topS 11) 0)) (defBody (inClass (topS 11) 0)) (defScope (inClass (topS 11) 0)) .none kV8 dc8 pm8 an8 cd8 ct8), sl8⟩) (c8 : PySem.W.codeIn K cd8 "Spot.__init__" = true) (k8 : PySem.W.keepIn K (.ref f8) = true)
    (a9 : PySem.W.nsIn K mainGlobals "laid_many" = some (some (.ref f9))) (l9 : K.lookup f9 = some ⟨oc9, od9, .func (PySem.W.fnOf "laid_many" "laid_many" (defArgs (topS 13)) (defBody (topS 13)) (defScope (topS 13)) .none kV9 dc9 pm9 an9 cd9 ct9), sl9⟩) (c9 : PySem.W.codeIn K cd9 "laid_many" = true) (k9 : PySem.W.keepIn K (.ref f9) = true)
    (a10 : PySem.W.findIn K (.ref C_Over) "__init__" = some (some (.ref f10))) (i10 : PySem.W.isFn K (.ref f10) = true) (l10 : K.lookup f10 = some ⟨oc10, od10, .func (PySem.W.fnOf "__init__" "Over.__init__" (defArgs (inClass (topS 12) 0)) (defBody (inClass (topS 12) 0)) (defScope (inClass (topS 12) 0)) .none kV10 dc10 pm10 an10 cd10 ct10), sl10⟩) (c10 : PySem.W.codeIn K cd10 "Over.__init__" = true) (k10 : PySem.W.keepIn K (.ref f10) = true)
    (a11 : PySem.W.nsIn K mainGlobals "planted" = some (some (.ref f11))) (l11 : K.lookup f11 = some ⟨oc11, od11, .func (PySem.W.fnOf "planted" "planted" (defArgs (topS 18)) (defBody (topS 18)) (defScope (topS 18)) .none kV11 dc11 pm11 an11 cd11 ct11), sl11⟩) (c11 : PySem.W.codeIn K cd11 "planted" = true) (k11 : PySem.W.keepIn K (.ref f11) = true)
    (a12 : PySem.W.nsIn K mainGlobals "parts_of" = some (some (.ref f12))) (l12 : K.lookup f12 = some ⟨oc12, od12, .func (PySem.W.fnOf "parts_of" "parts_of" (defArgs (topS 19)) (defBody (topS 19)) (defScope (topS 19)) .none kV12 dc12 pm12 an12 cd12 ct12), sl12⟩) (c12 : PySem.W.codeIn K cd12 "parts_of" = true) (k12 : PySem.W.keepIn K (.ref f12) = true)
    (a13 : PySem.W.nsIn K mainGlobals "lesser_slack" = some (some (.ref f13))) (l13 : K.lookup f13 = some ⟨oc13, od13, .func (PySem.W.fnOf "lesser_slack" "lesser_slack" (defArgs (topS 23)) (defBody (topS 23)) (defScope (topS 23)) .none kV13 dc13 pm13 an13 cd13 ct13), sl13⟩) (c13 : PySem.W.codeIn K cd13 "lesser_slack" = true) (k13 : PySem.W.keepIn K (.ref f13) = true)
    (a14 : PySem.W.nsIn K mainGlobals "word_of" = some (some (.ref f14))) (l14 : K.lookup f14 = some ⟨oc14, od14, .func (PySem.W.fnOf "word_of" "word_of" (defArgs (topS 24)) (defBody (topS 24)) (defScope (topS 24)) .none kV14 dc14 pm14 an14 cd14 ct14), sl14⟩) (c14 : PySem.W.codeIn K cd14 "word_of" = true) (k14 : PySem.W.keepIn K (.ref f14) = true)
    (a15 : PySem.W.nsIn K mainGlobals "add_counts" = some (some (.ref f15))) (l15 : K.lookup f15 = some ⟨oc15, od15, .func (PySem.W.fnOf "add_counts" "add_counts" (defArgs (topS 25)) (defBody (topS 25)) (defScope (topS 25)) .none kV15 dc15 pm15 an15 cd15 ct15), sl15⟩) (c15 : PySem.W.codeIn K cd15 "add_counts" = true) (k15 : PySem.W.keepIn K (.ref f15) = true)
    (a16 : PySem.W.nsIn K mainGlobals "through_over" = some (some (.ref f16))) (l16 : K.lookup f16 = some ⟨oc16, od16, .func (PySem.W.fnOf "through_over" "through_over" (defArgs (topS 27)) (defBody (topS 27)) (defScope (topS 27)) .none kV16 dc16 pm16 an16 cd16 ct16), sl16⟩) (c16 : PySem.W.codeIn K cd16 "through_over" = true) (k16 : PySem.W.keepIn K (.ref f16) = true)
    (a17 : PySem.W.nsIn K mainGlobals "through" = some (some (.ref f17))) (l17 : K.lookup f17 = some ⟨oc17, od17, .func (PySem.W.fnOf "through" "through" (defArgs (topS 26)) (defBody (topS 26)) (defScope (topS 26)) .none kV17 dc17 pm17 an17 cd17 ct17), sl17⟩) (c17 : PySem.W.codeIn K cd17 "through" = true) (k17 : PySem.W.keepIn K (.ref f17) = true)
    (a18 : PySem.W.nsIn K mainGlobals "times_until" = some (some (.ref f18))) (l18 : K.lookup f18 = some ⟨oc18, od18, .func (PySem.W.fnOf "times_until" "times_until" (defArgs (topS 30)) (defBody (topS 30)) (defScope (topS 30)) .none kV18 dc18 pm18 an18 cd18 ct18), sl18⟩) (c18 : PySem.W.codeIn K cd18 "times_until" = true) (k18 : PySem.W.keepIn K (.ref f18) = true)
    (a19 : PySem.W.nsIn K mainGlobals "rest_of" = some (some (.ref f19))) (l19 : K.lookup f19 = some ⟨oc19, od19, .func (PySem.W.fnOf "rest_of" "rest_of" (defArgs (topS 31)) (defBody (topS 31)) (defScope (topS 31)) .none kV19 dc19 pm19 an19 cd19 ct19), sl19⟩) (c19 : PySem.W.codeIn K cd19 "rest_of" = true) (k19 : PySem.W.keepIn K (.ref f19) = true)
    (a20 : PySem.W.nsIn K mainGlobals "_law_urn" = some (some (.ref f20))) (l20 : K.lookup f20 = some ⟨oc20, od20, .func (PySem.W.fnOf "_law_urn" "_law_urn" (defArgs (topS 33)) (defBody (topS 33)) (defScope (topS 33)) .none kV20 dc20 pm20 an20 cd20 ct20), sl20⟩) (c20 : PySem.W.codeIn K cd20 "_law_urn" = true) (k20 : PySem.W.keepIn K (.ref f20) = true)
    (a21 : PySem.W.nsIn K mainGlobals "_law_ball" = some (some (.ref f21))) (l21 : K.lookup f21 = some ⟨oc21, od21, .func (PySem.W.fnOf "_law_ball" "_law_ball" (defArgs (topS 34)) (defBody (topS 34)) (defScope (topS 34)) .none kV21 dc21 pm21 an21 cd21 ct21), sl21⟩) (c21 : PySem.W.codeIn K cd21 "_law_ball" = true) (k21 : PySem.W.keepIn K (.ref f21) = true)
    (a22 : PySem.W.nsIn K mainGlobals "_law_saying" = some (some (.ref f22))) (l22 : K.lookup f22 = some ⟨oc22, od22, .func (PySem.W.fnOf "_law_saying" "_law_saying" (defArgs (topS 35)) (defBody (topS 35)) (defScope (topS 35)) .none kV22 dc22 pm22 an22 cd22 ct22), sl22⟩) (c22 : PySem.W.codeIn K cd22 "_law_saying" = true) (k22 : PySem.W.keepIn K (.ref f22) = true)
    (a23 : PySem.W.nsIn K mainGlobals "_law_people" = some (some (.ref f23))) (l23 : K.lookup f23 = some ⟨oc23, od23, .func (PySem.W.fnOf "_law_people" "_law_people" (defArgs (topS 36)) (defBody (topS 36)) (defScope (topS 36)) .none kV23 dc23 pm23 an23 cd23 ct23), sl23⟩) (c23 : PySem.W.codeIn K cd23 "_law_people" = true) (k23 : PySem.W.keepIn K (.ref f23) = true)
    (a24 : PySem.W.nsIn K mainGlobals "_law_long" = some (some (.ref f24))) (l24 : K.lookup f24 = some ⟨oc24, od24, .func (PySem.W.fnOf "_law_long" "_law_long" (defArgs (topS 37)) (defBody (topS 37)) (defScope (topS 37)) .none kV24 dc24 pm24 an24 cd24 ct24), sl24⟩) (c24 : PySem.W.codeIn K cd24 "_law_long" = true) (k24 : PySem.W.keepIn K (.ref f24) = true)
    (a25 : PySem.W.nsIn K mainGlobals "_law_sayings" = some (some (.ref f25))) (l25 : K.lookup f25 = some ⟨oc25, od25, .func (PySem.W.fnOf "_law_sayings" "_law_sayings" (defArgs (topS 38)) (defBody (topS 38)) (defScope (topS 38)) .none kV25 dc25 pm25 an25 cd25 ct25), sl25⟩) (c25 : PySem.W.codeIn K cd25 "_law_sayings" = true) (k25 : PySem.W.keepIn K (.ref f25) = true)
    (a26 : PySem.W.nsIn K mainGlobals "_law_company" = some (some (.ref f26))) (l26 : K.lookup f26 = some ⟨oc26, od26, .func (PySem.W.fnOf "_law_company" "_law_company" (defArgs (topS 39)) (defBody (topS 39)) (defScope (topS 39)) .none kV26 dc26 pm26 an26 cd26 ct26), sl26⟩) (c26 : PySem.W.codeIn K cd26 "_law_company" = true) (k26 : PySem.W.keepIn K (.ref f26) = true)
    (a27 : PySem.W.nsIn K mainGlobals "_law_far" = some (some (.ref f27))) (l27 : K.lookup f27 = some ⟨oc27, od27, .func (PySem.W.fnOf "_law_far" "_law_far" (defArgs (topS 40)) (defBody (topS 40)) (defScope (topS 40)) .none kV27 dc27 pm27 an27 cd27 ct27), sl27⟩) (c27 : PySem.W.codeIn K cd27 "_law_far" = true) (k27 : PySem.W.keepIn K (.ref f27) = true)
    (a28 : PySem.W.nsIn K mainGlobals "total_of" = some (some (.ref f28))) (l28 : K.lookup f28 = some ⟨oc28, od28, .func (PySem.W.fnOf "total_of" "total_of" (defArgs (topS 28)) (defBody (topS 28)) (defScope (topS 28)) .none kV28 dc28 pm28 an28 cd28 ct28), sl28⟩) (c28 : PySem.W.codeIn K cd28 "total_of" = true) (k28 : PySem.W.keepIn K (.ref f28) = true)
    (a29 : PySem.W.nsIn K mainGlobals "far_total" = some (some (.ref f29))) (l29 : K.lookup f29 = some ⟨oc29, od29, .func (PySem.W.fnOf "far_total" "far_total" (defArgs (topS 29)) (defBody (topS 29)) (defScope (topS 29)) .none kV29 dc29 pm29 an29 cd29 ct29), sl29⟩) (c29 : PySem.W.codeIn K cd29 "far_total" = true) (k29 : PySem.W.keepIn K (.ref f29) = true)
    (a30 : PySem.W.nsIn K mainGlobals "_law_said" = some (some (.ref f30))) (l30 : K.lookup f30 = some ⟨oc30, od30, .func (PySem.W.fnOf "_law_said" "_law_said" (defArgs (topS 41)) (defBody (topS 41)) (defScope (topS 41)) .none kV30 dc30 pm30 an30 cd30 ct30), sl30⟩) (c30 : PySem.W.codeIn K cd30 "_law_said" = true) (k30 : PySem.W.keepIn K (.ref f30) = true)
    (a31 : PySem.W.nsIn K mainGlobals "_law_goal_right" = some (some (.ref f31))) (l31 : K.lookup f31 = some ⟨oc31, od31, .func (PySem.W.fnOf "_law_goal_right" "_law_goal_right" (defArgs (topS 42)) (defBody (topS 42)) (defScope (topS 42)) .none kV31 dc31 pm31 an31 cd31 ct31), sl31⟩) (c31 : PySem.W.codeIn K cd31 "_law_goal_right" = true) (k31 : PySem.W.keepIn K (.ref f31) = true)
    (a32 : PySem.W.nsIn K mainGlobals "_law_rest_right" = some (some (.ref f32))) (l32 : K.lookup f32 = some ⟨oc32, od32, .func (PySem.W.fnOf "_law_rest_right" "_law_rest_right" (defArgs (topS 43)) (defBody (topS 43)) (defScope (topS 43)) .none kV32 dc32 pm32 an32 cd32 ct32), sl32⟩) (c32 : PySem.W.codeIn K cd32 "_law_rest_right" = true) (k32 : PySem.W.keepIn K (.ref f32) = true)
    (a33 : PySem.W.nsIn K mainGlobals "_law_near_right" = some (some (.ref f33))) (l33 : K.lookup f33 = some ⟨oc33, od33, .func (PySem.W.fnOf "_law_near_right" "_law_near_right" (defArgs (topS 44)) (defBody (topS 44)) (defScope (topS 44)) .none kV33 dc33 pm33 an33 cd33 ct33), sl33⟩) (c33 : PySem.W.codeIn K cd33 "_law_near_right" = true) (k33 : PySem.W.keepIn K (.ref f33) = true)
    (a34 : PySem.W.nsIn K mainGlobals "law" = some (some (.ref f34))) (l34 : K.lookup f34 = some ⟨oc34, od34, .func (PySem.W.fnOf "law" "law" (defArgs (topS 45)) (defBody (topS 45)) (defScope (topS 45)) .none kV34 dc34 pm34 an34 cd34 ct34), sl34⟩) (c34 : PySem.W.codeIn K cd34 "law" = true) (k34 : PySem.W.keepIn K (.ref f34) = true)
    (z_abs : PySem.W.nsIn K mainGlobals "abs" = some none)
    (z_bool : PySem.W.nsIn K mainGlobals "bool" = some none)
    (z_int : PySem.W.nsIn K mainGlobals "int" = some none)
    (z_isinstance : PySem.W.nsIn K mainGlobals "isinstance" = some none)
    (z_len : PySem.W.nsIn K mainGlobals "len" = some none)
    (z_list : PySem.W.nsIn K mainGlobals "list" = some none)
    (z_max : PySem.W.nsIn K mainGlobals "max" = some none)
    (z_min : PySem.W.nsIn K mainGlobals "min" = some none)
    (z_range : PySem.W.nsIn K mainGlobals "range" = some none)
    (z_str : PySem.W.nsIn K mainGlobals "str" = some none)
    (z_sum : PySem.W.nsIn K mainGlobals "sum" = some none)
    (z_tuple : PySem.W.nsIn K mainGlobals "tuple" = some none)
    {t_FEW : Tok} (g_FEW : PySem.W.nsIn K mainGlobals "FEW" = some (some (.int 0 t_FEW)))
    {t_MOST_PEOPLE : Tok} (g_MOST_PEOPLE : PySem.W.nsIn K mainGlobals "MOST_PEOPLE" = some (some (.int 999999999999999999999999999999 t_MOST_PEOPLE)))
    {t_TRUE : Tok} (g_TRUE : PySem.W.nsIn K mainGlobals "TRUE" = some (some (.int 1 t_TRUE)))
    {t_AGAIN : Tok} (g_AGAIN : PySem.W.nsIn K mainGlobals "AGAIN" = some (some (.str "again" t_AGAIN)))
    (pure : ∀ ns : List Int, ns.length ≤ 63 → d_law [.scr ns] = .ok (.bl true)) :
    ∃ fd : FuncData, (∀ (s : Shared) (v : Value), BindsTo s fd ⟨[v], []⟩ [("_law_script", v)]) ∧ ∀ base : Heap, K.In base → base.Ns mainGlobals mg → FnG l.prog w K mg base 27 fa fd ["_law_script"] (spLaw 63 K) := by
  have e := hfa.symm.trans (PySem.W.mg_of X G a34)
  cases e
  have T : Txt K mg := ⟨PySem.W.mg_none_of X G z_abs, PySem.W.mg_none_of X G z_bool, PySem.W.mg_none_of X G z_int, PySem.W.mg_none_of X G z_isinstance, PySem.W.mg_none_of X G z_len, PySem.W.mg_none_of X G z_list, PySem.W.mg_none_of X G z_max, PySem.W.mg_none_of X G z_min, PySem.W.mg_none_of X G z_range, PySem.W.mg_none_of X G z_str, PySem.W.mg_none_of X G z_sum, PySem.W.mg_none_of X G z_tuple, gi_mk X G g_FEW, gi_mk X G g_MOST_PEOPLE, gi_mk X G g_TRUE, gs_mk X G g_AGAIN, (nof_c o_Spot na_Spot_s8_many (nof_c o_Over na_Over_s8_many nof_n)), (nof_c o_Spot na_Spot_s8_number nof_n), (nof_c o_Over na_Over_s8_once nof_n), (nof_c o_Over na_Over_s8_parts nof_n), (nof_c o_Spot na_Spot_s8_said nof_n), (nof_c o_Over na_Over_s8_times nof_n), ⟨_, PySem.W.mg_of X G o_Spot, (kito_c o_Over ky_iso_Over_Spot (by decide) (kito_c o_Spot ky_iso_Spot_Spot (by decide) kito_n))⟩,
    fn_fact X G a1 l1 c1 k1 (fun _ _ _ _ _ _ us hl => match us, hl with | [_], _ => rfl),
    fn_fact X G a2 l2 c2 k2 (fun _ _ _ _ _ _ us hl => match us, hl with | [_], _ => rfl),
    fn_fact X G a3 l3 c3 k3 (fun _ _ _ _ _ _ us hl => match us, hl with | [_], _ => rfl),
    fn_fact X G a4 l4 c4 k4 (fun _ _ _ _ _ _ us hl => match us, hl with | [_], _ => rfl),
    fn_fact X G a5 l5 c5 k5 (fun _ _ _ _ _ _ us hl => match us, hl with | [_], _ => rfl),
    fn_fact X G a6 l6 c6 k6 (fun _ _ _ _ _ _ us hl => match us, hl with | [_], _ => rfl),
    fn_fact X G a7 l7 c7 k7 (fun _ _ _ _ _ _ us hl => match us, hl with | [_], _ => rfl),
    ⟨C_Spot, f8, _, (fun_mk (st := (inClass (topS 11) 0)) l8 c8 k8), (L2.Fun.binds (ps := ["self", "saying", "number"]) (fun_mk (st := (inClass (topS 11) 0)) l8 c8 k8) (fun _ _ _ _ _ _ us hl => match us, hl with | [_, _, _], _ => rfl)), PySem.W.mg_of X G o_Spot, obF_mk o_Spot ⟨pg_Spot, hd_Spot, po_Spot, sa_Spot⟩ ha_Spot cn ck hm_Spot ky_Spot_int ky_Spot_bool ky_Spot_str ky_Spot_tuple ky_Spot_list ky_Spot_dict, ⟨mk_Spot, a8, i8, kc_Spot⟩⟩,
    fn_fact X G a9 l9 c9 k9 (fun _ _ _ _ _ _ us hl => match us, hl with | [_], _ => rfl),
    ⟨C_Over, f10, _, (fun_mk (st := (inClass (topS 12) 0)) l10 c10 k10), (L2.Fun.binds (ps := ["self", "times", "parts"]) (fun_mk (st := (inClass (topS 12) 0)) l10 c10 k10) (fun _ _ _ _ _ _ us hl => match us, hl with | [_, _, _], _ => rfl)), PySem.W.mg_of X G o_Over, obF_mk o_Over ⟨pg_Over, hd_Over, po_Over, sa_Over⟩ ha_Over cn ck hm_Over ky_Over_int ky_Over_bool ky_Over_str ky_Over_tuple ky_Over_list ky_Over_dict, ⟨mk_Over, a10, i10, kc_Over⟩⟩,
    fn_fact X G a11 l11 c11 k11 (fun _ _ _ _ _ _ us hl => match us, hl with | [_, _], _ => rfl),
    fn_fact X G a12 l12 c12 k12 (fun _ _ _ _ _ _ us hl => match us, hl with | [_], _ => rfl),
    fn_fact X G a13 l13 c13 k13 (fun _ _ _ _ _ _ us hl => match us, hl with | [_, _], _ => rfl),
    fn_fact X G a14 l14 c14 k14 (fun _ _ _ _ _ _ us hl => match us, hl with | [_, _], _ => rfl),
    fn_fact X G a15 l15 c15 k15 (fun _ _ _ _ _ _ us hl => match us, hl with | [_, _, _], _ => rfl),
    fn_fact X G a16 l16 c16 k16 (fun _ _ _ _ _ _ us hl => match us, hl with | [_, _], _ => rfl),
    fn_fact X G a17 l17 c17 k17 (fun _ _ _ _ _ _ us hl => match us, hl with | [_, _], _ => rfl),
    fn_fact X G a18 l18 c18 k18 (fun _ _ _ _ _ _ us hl => match us, hl with | [_, _, _], _ => rfl),
    fn_fact X G a19 l19 c19 k19 (fun _ _ _ _ _ _ us hl => match us, hl with | [_, _], _ => rfl),
    fn_fact X G a20 l20 c20 k20 (fun _ _ _ _ _ _ us hl => match us, hl with | [_, _], _ => rfl),
    fn_fact X G a21 l21 c21 k21 (fun _ _ _ _ _ _ us hl => match us, hl with | [_, _], _ => rfl),
    fn_fact X G a22 l22 c22 k22 (fun _ _ _ _ _ _ us hl => match us, hl with | [_, _], _ => rfl),
    fn_fact X G a23 l23 c23 k23 (fun _ _ _ _ _ _ us hl => match us, hl with | [_], _ => rfl),
    fn_fact X G a24 l24 c24 k24 (fun _ _ _ _ _ _ us hl => match us, hl with | [_, _, _, _], _ => rfl),
    fn_fact X G a25 l25 c25 k25 (fun _ _ _ _ _ _ us hl => match us, hl with | [_], _ => rfl),
    fn_fact X G a26 l26 c26 k26 (fun _ _ _ _ _ _ us hl => match us, hl with | [_, _], _ => rfl),
    fn_fact X G a27 l27 c27 k27 (fun _ _ _ _ _ _ us hl => match us, hl with | [_, _, _], _ => rfl),
    fn_fact X G a28 l28 c28 k28 (fun _ _ _ _ _ _ us hl => match us, hl with | [_, _], _ => rfl),
    fn_fact X G a29 l29 c29 k29 (fun _ _ _ _ _ _ us hl => match us, hl with | [_, _], _ => rfl),
    fn_fact X G a30 l30 c30 k30 (fun _ _ _ _ _ _ us hl => match us, hl with | [_, _, _], _ => rfl),
    fn_fact X G a31 l31 c31 k31 (fun _ _ _ _ _ _ us hl => match us, hl with | [_, _, _, _], _ => rfl),
    fn_fact X G a32 l32 c32 k32 (fun _ _ _ _ _ _ us hl => match us, hl with | [_, _, _], _ => rfl),
    fn_fact X G a33 l33 c33 k33 (fun _ _ _ _ _ _ us hl => match us, hl with | [_, _, _], _ => rfl),
    fn_fact X G a34 l34 c34 k34 (fun _ _ _ _ _ _ us hl => match us, hl with | [_], _ => rfl)⟩
  exact ⟨PySem.W.fnOf "law" "law" (defArgs (topS 45)) (defBody (topS 45)) (defScope (topS 45)) .none kV34 dc34 pm34 an34 cd34 ct34, fun s v => .of_eq rfl, fun base _ _ => law_spec (fn_law T (fun_mk (st := topS 45) l34 c34 k34)) pure⟩
end BR
open PySem PySem.W PyProof.Rows
set_option maxHeartbeats 0 in
theorem PySem.Challenge.cw_boastrow_k75_whole_over_and_over_holds : PySem.Challenge.rw_boastrow_k75_whole_over_and_over.Holds := by
  w_on; o_law; k_headL; (case hw => w_witness2)
  k_fill
  refine BR.walk_G (l := PySem.Challenge.rw_boastrow_k75_whole_over_and_over) (n := 63) (k := 27) (x := "_law_script") (sp := fun w => BR.spLaw 63 _) rfl (by decide) rfl ⟨⟨rfl, by decide, by decide⟩, rfl⟩ (fun w h Y => PySem.W.kIn_of Y) ?F (fun _ _ a ns hl _ hS => ⟨a, ns, rfl, hS, hl, fun _ => rfl⟩)
  case F =>
    intro w mg fa h KX G hmg
    refine' BR.all_mk KX G hmg ?cn ?ck ?o_Over ?pg_Over ?hd_Over ?po_Over ?sa_Over ?ha_Over ?hm_Over ?mk_Over ?kc_Over ?ky_Over_int ?ky_Over_bool ?ky_Over_str ?ky_Over_tuple ?ky_Over_list ?ky_Over_dict ?na_Over_s8_times ?na_Over_s8_parts ?na_Over_s8_once ?na_Over_s8_many ?o_Spot ?pg_Spot ?hd_Spot ?po_Spot ?sa_Spot ?ha_Spot ?hm_Spot ?mk_Spot ?kc_Spot ?ky_Spot_int ?ky_Spot_bool ?ky_Spot_str ?ky_Spot_tuple ?ky_Spot_list ?ky_Spot_dict ?na_Spot_s8_said ?na_Spot_s8_number ?na_Spot_s8_many ?ky_iso_Over_Spot ?ky_iso_Spot_Spot ?a1 ?l1 ?c1 ?k1 ?a2 ?l2 ?c2 ?k2 ?a3 ?l3 ?c3 ?k3 ?a4 ?l4 ?c4 ?k4 ?a5 ?l5 ?c5 ?k5 ?a6 ?l6 ?c6 ?k6 ?a7 ?l7 ?c7 ?k7 ?a8 ?i8 ?l8 ?c8 ?k8 ?a9 ?l9 ?c9 ?k9 ?a10 ?i10 ?l10 ?c10 ?k10 ?a11 ?l11 ?c11 ?k11 ?a12 ?l12 ?c12 ?k12 ?a13 ?l13 ?c13 ?k13 ?a14 ?l14 ?c14 ?k14 ?a15 ?l15 ?c15 ?k15 ?a16 ?l16 ?c16 ?k16 ?a17 ?l17 ?c17 ?k17 ?a18 ?l18 ?c18 ?k18 ?a19 ?l19 ?c19 ?k19 ?a20 ?l20 ?c20 ?k20 ?a21 ?l21 ?c21 ?k21 ?a22 ?l22 ?c22 ?k22 ?a23 ?l23 ?c23 ?k23 ?a24 ?l24 ?c24 ?k24 ?a25 ?l25 ?c25 ?k25 ?a26 ?l26 ?c26 ?k26 ?a27 ?l27 ?c27 ?k27 ?a28 ?l28 ?c28 ?k28 ?a29 ?l29 ?c29 ?k29 ?a30 ?l30 ?c30 ?k30 ?a31 ?l31 ?c31 ?k31 ?a32 ?l32 ?c32 ?k32 ?a33 ?l33 ?c33 ?k33 ?a34 ?l34 ?c34 ?k34 ?z_abs ?z_bool ?z_int ?z_isinstance ?z_len ?z_list ?z_max ?z_min ?z_range ?z_str ?z_sum ?z_tuple ?g_FEW ?g_MOST_PEOPLE ?g_TRUE ?g_AGAIN BR.pure_law
    (case cn => k_is); (case ck => k_is); (case o_Over => k_is); (case pg_Over => k_is); (case hd_Over => k_is); (case po_Over => k_is); (case sa_Over => k_is); (case ha_Over => k_is); (case hm_Over => k_is); (case mk_Over => k_is); (case kc_Over => k_is); (case ky_Over_int => kit_is); (case ky_Over_bool => kit_is); (case ky_Over_str => kit_is); (case ky_Over_tuple => kit_is); (case ky_Over_list => kit_is); (case ky_Over_dict => kit_is); (case na_Over_s8_times => k_is); (case na_Over_s8_parts => k_is); (case na_Over_s8_once => k_is); (case na_Over_s8_many => k_is); (case o_Spot => k_is); (case pg_Spot => k_is); (case hd_Spot => k_is); (case po_Spot => k_is); (case sa_Spot => k_is); (case ha_Spot => k_is); (case hm_Spot => k_is); (case mk_Spot => k_is); (case kc_Spot => k_is); (case ky_Spot_int => kit_is); (case ky_Spot_bool => kit_is); (case ky_Spot_str => kit_is); (case ky_Spot_tuple => kit_is); (case ky_Spot_list => kit_is); (case ky_Spot_dict => kit_is); (case na_Spot_s8_said => k_is); (case na_Spot_s8_number => k_is); (case na_Spot_s8_many => k_is); (case ky_iso_Over_Spot => kit_is); (case ky_iso_Spot_Spot => kit_is); (case a1 => k_is); (case l1 => k_is); (case c1 => k_is); (case k1 => k_is); (case a2 => k_is); (case l2 => k_is); (case c2 => k_is); (case k2 => k_is); (case a3 => k_is); (case l3 => k_is); (case c3 => k_is); (case k3 => k_is); (case a4 => k_is); (case l4 => k_is); (case c4 => k_is); (case k4 => k_is); (case a5 => k_is); (case l5 => k_is); (case c5 => k_is); (case k5 => k_is); (case a6 => k_is); (case l6 => k_is); (case c6 => k_is); (case k6 => k_is); (case a7 => k_is); (case l7 => k_is); (case c7 => k_is); (case k7 => k_is); (case a8 => k_is); (case i8 => k_is); (case l8 => k_is); (case c8 => k_is); (case k8 => k_is); (case a9 => k_is); (case l9 => k_is); (case c9 => k_is); (case k9 => k_is); (case a10 => k_is); (case i10 => k_is); (case l10 => k_is); (case c10 => k_is); (case k10 => k_is); (case a11 => k_is); (case l11 => k_is); (case c11 => k_is); (case k11 => k_is); (case a12 => k_is); (case l12 => k_is); (case c12 => k_is); (case k12 => k_is); (case a13 => k_is); (case l13 => k_is); (case c13 => k_is); (case k13 => k_is); (case a14 => k_is); (case l14 => k_is); (case c14 => k_is); (case k14 => k_is); (case a15 => k_is); (case l15 => k_is); (case c15 => k_is); (case k15 => k_is); (case a16 => k_is); (case l16 => k_is); (case c16 => k_is); (case k16 => k_is); (case a17 => k_is); (case l17 => k_is); (case c17 => k_is); (case k17 => k_is); (case a18 => k_is); (case l18 => k_is); (case c18 => k_is); (case k18 => k_is); (case a19 => k_is); (case l19 => k_is); (case c19 => k_is); (case k19 => k_is); (case a20 => k_is); (case l20 => k_is); (case c20 => k_is); (case k20 => k_is); (case a21 => k_is); (case l21 => k_is); (case c21 => k_is); (case k21 => k_is); (case a22 => k_is); (case l22 => k_is); (case c22 => k_is); (case k22 => k_is); (case a23 => k_is); (case l23 => k_is); (case c23 => k_is); (case k23 => k_is); (case a24 => k_is); (case l24 => k_is); (case c24 => k_is); (case k24 => k_is); (case a25 => k_is); (case l25 => k_is); (case c25 => k_is); (case k25 => k_is); (case a26 => k_is); (case l26 => k_is); (case c26 => k_is); (case k26 => k_is); (case a27 => k_is); (case l27 => k_is); (case c27 => k_is); (case k27 => k_is); (case a28 => k_is); (case l28 => k_is); (case c28 => k_is); (case k28 => k_is); (case a29 => k_is); (case l29 => k_is); (case c29 => k_is); (case k29 => k_is); (case a30 => k_is); (case l30 => k_is); (case c30 => k_is); (case k30 => k_is); (case a31 => k_is); (case l31 => k_is); (case c31 => k_is); (case k31 => k_is); (case a32 => k_is); (case l32 => k_is); (case c32 => k_is); (case k32 => k_is); (case a33 => k_is); (case l33 => k_is); (case c33 => k_is); (case k33 => k_is); (case a34 => k_is); (case l34 => k_is); (case c34 => k_is); (case k34 => k_is); (case z_abs => k_is); (case z_bool => k_is); (case z_int => k_is); (case z_isinstance => k_is); (case z_len => k_is); (case z_list => k_is); (case z_max => k_is); (case z_min => k_is); (case z_range => k_is); (case z_str => k_is); (case z_sum => k_is); (case z_tuple => k_is); (case g_FEW => k_is); (case g_MOST_PEOPLE => k_is); (case g_TRUE => k_is); (case g_AGAIN => k_is)

