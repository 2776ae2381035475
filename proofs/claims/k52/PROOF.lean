import PyProof.Rows.All
import Wide.All
import OpenK.AllK
import Wide.FinOn
import PySem.Challenge.RW_boastrow_k52_fewest_sets
import HandS.ForMost
import HandS.ForExc
import HandS.Wide
import HandS.ExcCtx
import HandS.ExcIs
import HandS.TupAny
import HandS.IsInst
import HandS.Style
import HandS.Zip
import HandS.SortInts
import HandS.SetFor
import PyProof.ZipIter
import HandS.More
import HandS.Defaults
import HandS.Conv
import HandS.SetBool
import HandS.ListItems
import KE.KDictZip
import KE.KItemsList
import KE.GoesMore
import KE.GoesEnum
import HandS.DictComp
import PyProof.LongRange
import HandS.ExcOwn
import HandS.Deep
import KE.KTupSum
import HandS.Flow
import HandS.Flt
import HandS.Hot
import PyProof.ListRange
import HandS.ExcInit
import HandS.ExcField
import HandS.ExcValue
import HandS.SortRule
import HandS.Rev
set_option Elab.async false
set_option linter.all false
set_option maxRecDepth 100000
/-! K0: defs called where no text of a thing is being written (so that repr may be asked within) -/
namespace BR
open PySem PySem.Spec PyProof.Rows L2

/-- room for k calls, and no text of a thing being written -/
structure RoomG (k : Nat) (A : Around) : Prop where
  r : Room k A
  g : A.guards = some []
theorem RoomG.mono {j k : Nat} {A : Around} (h : RoomG k A) (l : j ≤ k) : RoomG j A := ⟨h.r.mono l, h.g⟩
/-- a def keeps its promise there -/
structure FnG (P : Program) (w : World) (K : PySem.W.Frag) (mg : Str → Option Value) (base : Heap) (k : Nat) (f : Addr) (fd : FuncData) (ps : List Str) (sp : Sp) : Prop where
  len : ∀ vs H Q E, sp vs H Q E → vs.length = ps.length
  run : ∀ (A : Around) (outer : List Env) (s : Shared) (H : Hp) (args : Args) (us : List Value) (vs : List V) (Q : VK) (E : XK),
    RoomG k A → Env0 P w K mg base A outer s H → BindsTo s fd args (ps.zip us) → Vals vs us → sp vs H Q E →
    codeAny (model P w) A (.call (.ref f) args) (CR (L2N.CX P w) outer P w H s Q E) s
section
variable {P : Program} {w : World} {K : PySem.W.Frag} {mg : Str → Option Value} {base : Heap}
/-- a def by its body -/
theorem fn_G {x qual : Str} {st : Stmt} {f : Addr} {fd : FuncData} {N ps : List Str} {k : Nat} {sp : Sp} (F : L2.Fun K x qual st f fd) (S : FnScope N ps (defScope st))
    (len : ∀ vs H Q E, sp vs H Q E → vs.length = ps.length)
    (hbody : ∀ (cdv : Value) (A : Around) (outer : List Env) (s : Shared) (H : Hp) (vs : List V) (Q : VK) (E : XK), RoomG k (A.deeper (envOfC qual (defScope st) s.heap.objs.size f cdv)) → sp vs H Q E →
      ∃ t, PSs (cxOf (L2N.CX P w) P w K mg base N qual (defScope st) f cdv A outer s H E) (defBody st) t ∧ t { nx := fun _ H' => Q .non H', rt := Q } (start N vs) H) :
    FnG P w K mg base (k + 1) f fd ps sp := by
  obtain ⟨oc, od, kV, doc, pm, an, cdv, ct, osl, efd, lk, hcd⟩ := F.ex
  subst efd
  constructor
  · exact len
  intro A outer s H args us vs Q E hr e0 hb rv hsp
  have nargs := len vs H Q E hsp
  have kin : K.In s.heap := e0.mod.kin.keeps fun b o e => (e0.bs b o e).1
  have nolim : s.heap.NoLimit := e0.mod.nolimit.keeps fun b o e => (e0.bs b o e).1
  have kinds : ∀ y ∈ ps.zip us, (defScope st).names.lookup y.1 = some .local ∨ ((defScope st).names.lookup y.1 = some .cell ∧ ((cellsFrom (s.heap.objs.size + 1) (defScope st).names []).lookup y.1).isSome = true) := by
    intro ⟨n, v⟩ hy
    have hp := S.par n (List.of_mem_zip hy).1
    cases hp with
    | inl q => exact Or.inl q
    | inr q => exact Or.inr ⟨q, PySem.W.cellsFrom_some _ _ _ (Or.inl q)⟩
  refine codeAny_call_function hr.r.depth (kin _ _ lk) rfl S.co S.gen rfl (PySem.W.codeRec_of kin hcd) (hb _ _ _ _ (wpAny_newFunctionEnv_cells S.kind kinds fun env he s1 x => ?_))
  subst he
  refine And.intro (nolim.keeps x.toInCall.keep) (codeAny_func ?_)
  have room : RoomG k (A.deeper (envOfC qual (defScope st) s.heap.objs.size f cdv)) := ⟨hr.r.deeper _, hr.g⟩
  obtain ⟨t, body, reads⟩ := hbody cdv A outer s H vs Q E room hsp
  have inv := inv_start (CX := L2N.CX P w) (E := E) (N := N) S hr.r.hd e0 nargs rv x
  have done : ∀ {σ' : L2.St} {H' : Hp} {v : V} {u : Value} {s' : Shared}, Inv (cxOf (L2N.CX P w) P w K mg base N qual (defScope st) f cdv A outer s H E) [] σ' H' s' → RelV v u → Q v H' → CE outer P w H s Q u s' := by
    intro σ' H' v u s' J r q
    exact ⟨v, H', J.os, J.bare, J.base, J.hok, r, q⟩
  refine wpAny_mono (body.run [] s1 (start N vs) H _ inv reads) (fun fl s' hs => ?_) (fun e s' hs => hs)
  match fl, hs with
  | .ret u, hs =>
    obtain ⟨v, σ', H', J, r, q⟩ := hs
    exact done J r q
  | .next, hs =>
    obtain ⟨σ', H', J, q⟩ := hs
    exact done (v := V.non) (u := Value.none) J rfl q
  | .brk, hs => exact hs.choose_spec.choose_spec.2.elim
  | .cont, hs => exact hs.choose_spec.choose_spec.2.elim
end
section
variable {X : Cx} {k : Nat} {f : Addr} {fd : FuncData} {ps : List Str} {sp : Sp} {E : XK} {x : Str} {p pos : Pos} {e : Expr} {es : List Expr} {t : TA}
theorem run_G {pins : List (Addr × Obj)} {σ : L2.St} {H : Hp} {s : Shared} {Q : VK} {us ds : List Value} {vs dvs : List V} (F : FnG X.prog X.w X.K X.mg X.base k f fd ps sp) (hr : RoomG k X.A) (hb : Binds X.K fd ps ds) (hd : Vals dvs ds) (hx : Passes (L2N.CX X.prog X.w) X E)
    (I : Inv X pins σ H s) (r : Vals vs us) (h : sp (vs ++ dvs) H Q E) : wpAny (model X.prog X.w) X.A (call (.ref f) us) (EP X pins σ Q) X.xe s := by
  have rr : Vals (vs ++ dvs) (us ++ ds) := r.append hd
  have hl : (us ++ ds).length = ps.length := rr.length.symm.trans (F.len _ _ _ _ h)
  refine wpAny_call (codeAny_mono (F.run X.A X.stack s H ⟨us, []⟩ (us ++ ds) (vs ++ dvs) Q E hr I.env0 (hb s us I.kIn hl) rr h) fun res s' hq => ?_)
  match res, hq with
  | .error e, hq => exact hx pins σ H s e s' I hq
  | .ok (.ret u), hq => exact I.after hq
  | .ok .next, hq => exact False.elim hq
  | .ok .brk, hq => exact False.elim hq
  | .ok .cont, hq => exact False.elim hq
theorem pe_callG {ds : List Value} {dvs : List V} (F : FnG X.prog X.w X.K X.mg X.base k f fd ps sp) (hr : RoomG k X.A) (hg : Gl X x) (hm : X.mg x = some (.ref f)) (hk : PySem.W.keepIn X.K (.ref f) = true) (hb : Binds X.K fd ps ds) (hd : Vals dvs ds) (hx : Passes (L2N.CX X.prog X.w) X E)
    (ha : PA X (e :: es) t) (hdb : (x == ("__debug__" : Str)) = false) (he : starEach (e :: es) X.env = (false, eval e X.env) :: starEach es X.env) (hpl : (backTo pos (starEach es X.env)).any (·.1) = false) :
    PE X (.Call (.Name x p) (e :: es) [] pos) (tCall sp dvs E t) := by
  constructor
  intro pins s σ H Q I h
  refine wpAny_Call_Name_kw (ld_glob I hg hm (PySem.W.callWith_K (h₀ := X.base) I.ok.mod.kin hk (thn (ha.run pos pins s σ H _ I h) fun us s1 ⟨vs, H1, I1, rr, q⟩ => And.intro I1.kIn ?_) he hpl) hdb)
  exact run_G F hr hb hd hx I1 rr q
end

/-! ### the end of a law -/
/-- the law's def, called with the script, where its promise holds -/
theorem law_G {P : Program} {w : World} {K : PySem.W.Frag} {mg mb : Str → Option Value} {k : Nat} {fa a : Addr} {fd : FuncData} {x : Str} {sp : Sp} {s₁ : Shared} {vs : List Value} {ns : List Int}
    (KX : K.In s₁.heap) (hns : s₁.heap.Ns mainGlobals mg) (hb : s₁.heap.Ns builtinsNs mb) (hbb : ∀ x : Str, x ≠ "__name__" → mb x = bootBuiltins x) (hlim : s₁.heap.NoLimit) (hg : s₁.gens = #[])
    (ha : s₁.heap.get? a = some { cls := .type "list", data := .seq vs.toArray }) (hi : IntsAre vs ns) (hl : ns.length ≤ sizeLine) (hr : RoomG k callerA)
    (F : ∀ base : Heap, K.In base → base.Ns mainGlobals mg → FnG P w K mg base k fa fd [x] sp) (hbind : ∀ (s : Shared) (u : Value), BindsTo s fd ⟨[u], []⟩ [(x, u)])
    (hsp : ∀ H : Hp, Only H → SqL K H a (ns.map V.int) → sp [.ref a] H (fun v _ => v = .bl true) fun _ _ _ => False) :
    codeAny (model P w) callerA (.call (.ref fa) ⟨[.ref a], []⟩) (fun r s' => r = .ok (.ret (.bool true)) ∧ OldK s₁.heap s'.heap ∧ s'.os = s₁.os ∧ AllBare s'.gens) s₁ := by
  have vals := vals_ints hi
  have lens := hi.length
  have go : ∀ H : Hp, Only H → SqL K H a (ns.map V.int) → HOk P w H s₁.heap → (∀ b, H b ≠ none → b = a) → (H a ≠ none → K.lookup a = none) →
      codeAny (model P w) callerA (.call (.ref fa) ⟨[.ref a], []⟩) (fun r s' => r = .ok (.ret (.bool true)) ∧ OldK s₁.heap s'.heap ∧ s'.os = s₁.os ∧ AllBare s'.gens) s₁ := by
    intro H only sq hok at_a not_K
    have notDict : ∀ {b : Addr} {o : Obj} {es : Array DictEntry} {ep : Nat}, s₁.heap.get? b = some o → o.data = .dict es ep → H b = none := by
      intro b o es ep e d
      match q : H b with
      | none => rfl
      | some u =>
        have eb : b = a := at_a b (by simp [q])
        rw [eb, ha] at e
        cases e
        cases (show Data.seq vs.toArray _ = Data.dict es ep from d)
    have nsH : ∀ {b : Addr} {m : Str → Option Value}, s₁.heap.Ns b m → (hidT s₁.heap H).Ns b m := by
      intro b m h
      obtain ⟨o, es, ep, e, d, r⟩ := h
      exact ⟨o, es, ep, hidT_get e (notDict e d), d, r⟩
    have kH : K.In (hidT s₁.heap H) := by
      intro b o e
      refine hidT_get (KX b o e) ?_
      match q : H b with
      | none => rfl
      | some u =>
        have eb : b = a := at_a b (by simp [q])
        subst eb
        rw [not_K (by simp [q])] at e
        cases e
    obtain ⟨mc, lim1, lim2⟩ := hlim
    have md : Mod K mg (hidT s₁.heap H) := { kin := kH, glob := nsH hns, blt := ⟨mb, nsH hb, hbb⟩, nolimit := ⟨mc, nsH lim1, lim2⟩ }
    have env : Env0 P w K mg (hidT s₁.heap H) callerA [] s₁ H :=
      { frames := rfl, mod := md, bs := fun b o e => of_hidT e, bsz := Nat.le_of_eq (hidT_size _ _), funs := trivial, frf := fun b hb => (by cases hb), hok := hok, bare := .of_eq hg }
    refine codeAny_mono ((F _ kH (nsH hns)).run callerA [] s₁ H ⟨[.ref a], []⟩ [.ref a] [.ref a] _ _ hr env (hbind s₁ (.ref a)) (.cons rfl .nil) (hsp H only sq)) fun r s' h => ?_
    match r, h with
    | .error e, h =>
      obtain ⟨_, _, _, _, _, _, _, _, _, _, _, _, z⟩ := h
      exact z.elim
    | .ok .next, h => exact False.elim h
    | .ok .brk, h => exact False.elim h
    | .ok .cont, h => exact False.elim h
    | .ok (.ret u), h =>
      obtain ⟨v, H', os, bare, un, hok', r', q⟩ := h
      have qv : v = .bl true := q
      rw [qv] at r'
      have eu : u = Value.bool true := r'
      refine ⟨by rw [eu], OldK.of_keep fun b o e => ?_, os, bare⟩
      match qb : H b with
      | none => exact un.keep b o e qb (fun z => by cases z) (fun z => by cases z)
      | some y =>
        rcases only b with z | ⟨ob, xs, z⟩
        · rw [qb] at z; cases z
        · have e1 := (hok b _ z).1
          have e2 := (hok' b _ (un.frzs b ob _ z)).1
          rw [e] at e1
          cases e1
          exact e2
  match hk : K.lookup a with
  | some o =>
    have e := KX a o hk
    rw [ha] at e
    have eo := Option.some.inj e
    subst eo
    refine go (fun _ => none) (fun _ => Or.inl rfl) (Or.inr ⟨_, vs.toArray, _, hk, rfl, rfl, rfl, by rw [List.size_toArray, lens]; exact hl, by simpa using vals⟩) (fun b u z => by cases (show (none : Option HO) = some u from z)) (fun b z => absurd rfl z) (fun z => absurd rfl z)
  | none =>
    let fr : HO := .frz { cls := .type "list", data := .seq vs.toArray } (.lst (ns.map V.int))
    have at1 : (fun b : Addr => if b = a then some fr else none) a = some fr := if_pos rfl
    have at2 : ∀ b, (fun b : Addr => if b = a then some fr else none) b ≠ none → b = a := fun b z => by
      by_cases hb : b = a
      · exact hb
      · exact absurd (if_neg hb) z
    refine go (fun b => if b = a then some fr else none) (fun b => ?_) (Or.inl (Or.inr ⟨_, at1⟩)) (fun b u z => ?_) at2 (fun _ => hk)
    · by_cases hb : b = a
      · exact Or.inr ⟨_, _, if_pos hb⟩
      · exact Or.inl (if_neg hb)
    · have eb := at2 b (by rw [show (fun b : Addr => if b = a then some fr else none) b = some u from z]; simp)
      subst eb
      cases (at1.symm.trans z)
      exact ⟨ha, by rw [List.length_map]; exact hl, vs, _, vals, ha⟩

/-- what is left to be shown behind the head -/
theorem walk_G {l : PySem.W.OpenLaw} {n k : Nat} {q : Program} {loose : List Str} {XP : (Str → Option Value) → Heap → Prop} {YP : World → Heap → Prop} {d : DefRec} {K : Params → PySem.W.Frag} {sp : World → Sp} {x : Str}
    (hn : l.most = some n) (hn2 : n ≤ sizeLine) (hdf : d.params.defaults = []) (hr : RoomG k callerA)
    (hY : ∀ (w : World) (h : Heap), YP w h → (K w.params).In h)
    (F : ∀ (w : World) (mg : Str → Option Value) (fa : Addr) (h : Heap), (K w.params).In h → h.Ns mainGlobals mg → mg d.name = some (.ref fa) →
      ∃ fd : FuncData, (∀ (s : Shared) (u : Value), BindsTo s fd ⟨[u], []⟩ [(x, u)]) ∧
        ∀ base : Heap, (K w.params).In base → base.Ns mainGlobals mg → FnG l.prog w (K w.params) mg base k fa fd [x] (sp w))
    (hsp : ∀ (w : World) (H : Hp) (a : Addr) (ns : List Int), ns.length ≤ n → Only H → SqL (K w.params) H a (ns.map V.int) → sp w [.ref a] H (fun v _ => v = .bl true) fun _ _ _ => False) :
    PySem.W.WalkO q loose XP YP l.row.toRowW d [] (fun f vs => PySem.call f vs) := by
  refine Att.attach_call hn hdf ?_
  intro w s₀ s₁ mg mb fa o pm cd doc a vs ns G Y ho hd hcd hmg hobj hints hlen hg
  have kx := hY w _ Y
  obtain ⟨fd, bnd, fn⟩ := F w mg fa _ kx G.T.g hmg
  exact law_G kx G.T.g G.T.b G.T.builtins G.T.nolimit hg hobj hints (Nat.le_trans hlen hn2) hr fn bnd (fun H only sq => hsp w H a ns hlen only sq)
end BR

/-! K1: data as trees, what of the heap stands for them, and a judgement that runs a def's text against a plain function over such data -/
namespace BR
open PySem PySem.Spec PyProof.Rows L2

/-- a thing as a tree -/
inductive D where
  | non | bl (b : Bool) | int (i : Int) | str (x : Str) | lst (xs : List D) | tup (xs : List D) | dic (kvs : List (Key × D))
  /-- the law's own list -/
  | scr (ns : List Int)
  /-- a caught error of the class of this name, its fields -/
  | exc (c : Str) (xf : List (Str × Option Int))
  /-- an instance of an own class: its fields (true: one of its own lists, while it is in the making) -/
  | obj (c : Str) (fs : List (Str × Bool × D))

/-- an error: its class's name, its fields -/
structure Exc where
  cls : Str
  fs : List (Str × Option Int)

inductive Res (α : Type) where
  | ok (a : α) | raise (x : Exc) | bad
namespace Res
def bind {α β : Type} (m : Res α) (f : α → Res β) : Res β := match m with
  | .ok a => f a
  | .raise x => .raise x
  | .bad => .bad
def exc {α : Type} : Res α → Option Exc
  | .raise x => some x
  | _ => none
end Res

/-- whether an error of the class c is one of the class t -/
def subE (c t : Str) : Bool := c == t || t == ("BoastError" : Str) || t == ("ValueError" : Str)
/-- what is known of the class at C, whose name is c -/
structure ExcF (K : PySem.W.Frag) (c : Str) (C : Addr) : Prop where
  at_ : PySem.W.nsIn K mainGlobals c = some (some (.ref C))
  cl : L2.ExcC K C
  ty : ∀ T : String, T ∈ ["int", "bool", "str", "tuple", "list", "dict"] → PySem.W.kitOne K (.ref C) (.type T) = some false
/-- what is known of the own class at C, whose name is c -/
structure ObF (K : PySem.W.Frag) (c : Str) (C : Addr) : Prop where
  at_ : PySem.W.nsIn K mainGlobals c = some (some (.ref C))
  cl : L2.Cls K C
  ha : PySem.W.findIn K (.ref C) "__class__" = some (some (.builtin "object.__class__"))
  hn : PySem.W.specialIn K (.builtin "object.__class__") "__get__" = some (some (.builtin "getset_descriptor.__get__"))
  htk : PySem.W.takesIn K (.builtin "object.__class__") = some true
  hm : PySem.W.mroIn K C (.type "object") = some true
  ty : ∀ T : String, T ∈ ["int", "bool", "str", "tuple", "list", "dict"] → PySem.W.kitOne K (.ref C) (.type T) = some false
/-- an error's object -/
def ExO1 (oe : Obj) : HO := .frz oe (.ext fun _ => True)
def xfV (xf : List (Str × Option Int)) : List (Str × V) := xf.map fun q => (q.1, match q.2 with | none => V.non | some n => V.int n)
/-- at a: an error, its fields in its dict -/
def ExAt (G H : Hp) (C a : Addr) (xf : List (Str × Option Int)) : Prop := ∃ (oe : Obj) (vs : Array Value), H a = some (ExO1 oe) ∧ oe.data = .fields vs ∧ ((xf = [] ∧ L2N.Zn (.ref C) none oe) ∨ ∃ dd, xf ≠ [] ∧ L2N.Zn (.ref C) (some dd) oe ∧ G dd = some (.xd (xfV xf)))
theorem ExAt.sub {G G' H H' : Hp} (g : ∀ a o, G a = some o → G' a = some o) (s : ∀ a o, H a = some o → H' a = some o) {C a : Addr} {xf : List (Str × Option Int)} (h : ExAt G H C a xf) : ExAt G' H' C a xf := by
  obtain ⟨oe, vs, h1, h2, h3⟩ := h
  refine ⟨oe, vs, s _ _ h1, h2, ?_⟩
  rcases h3 with h3 | ⟨dd, h4, h5, h6⟩
  · exact .inl h3
  · exact .inr ⟨dd, h4, h5, g _ _ h6⟩
mutual
def Rep (K : PySem.W.Frag) (G : Hp) : D → V → Prop
  | .non, v => v = .non
  | .bl b, v => v = .bl b
  | .int i, v => v = .int i
  | .str x, v => v = .str x
  | .lst ds, v => ∃ a vs, v = .ref a ∧ G a = some (.lst vs) ∧ Reps K G ds vs
  | .tup ds, v => ∃ a vs, v = .ref a ∧ SqT K G a vs ∧ Reps K G ds vs
  | .dic kvs, v => ∃ a kv, v = .ref a ∧ G a = some (.dK kv) ∧ RepKs K G kvs kv
  | .scr ns, v => ∃ a, v = .ref a ∧ SqL K G a (ns.map V.int)
  | .exc c xf, v => ∃ a C, v = .ref a ∧ ExcF K c C ∧ ExAt G G C a xf
  | .obj c fs, v => ∃ a C dx vs, v = .ref a ∧ ObF K c C ∧ G a = some (.ins C dx vs) ∧ G dx = some (.own a) ∧ RepFs K G fs vs
def Reps (K : PySem.W.Frag) (G : Hp) : List D → List V → Prop
  | [], vs => vs = []
  | d :: ds, vs => ∃ v r, vs = v :: r ∧ Rep K G d v ∧ Reps K G ds r
def RepKs (K : PySem.W.Frag) (G : Hp) : List (Key × D) → List (Key × V) → Prop
  | [], vs => vs = []
  | (k, d) :: ds, vs => ∃ v r, vs = (k, v) :: r ∧ Rep K G d v ∧ RepKs K G ds r
def RepFs (K : PySem.W.Frag) (G : Hp) : List (Str × Bool × D) → List (Str × V) → Prop
  | [], vs => vs = []
  | (k, _, d) :: ds, vs => ∃ v r, vs = (k, v) :: r ∧ Rep K G d v ∧ RepFs K G ds r
end

/-- all that the one tracks the other does -/
def Sub (G H : Hp) : Prop := ∀ a o, G a = some o → H a = some o
theorem Sub.refl (H : Hp) : Sub H H := fun _ _ e => e
theorem Sub.trans {A B C : Hp} (x : Sub A B) (y : Sub B C) : Sub A C := fun a o e => y a o (x a o e)
theorem Sub.upd {H : Hp} {p : Addr} {o : HO} (h : H p = none) : Sub H (upd H p o) := fun b x e => by
  rw [upd_ne (ne_of_none e h)]; exact e
theorem Rd.sub {G H : Hp} (s : Sub G H) {a : Addr} {u : HO} : Rd G a u → Rd H a u
  | .inl h => .inl (s _ _ h)
  | .inr ⟨o, h⟩ => .inr ⟨o, s _ _ h⟩
theorem SqL.sub {K : PySem.W.Frag} {G H : Hp} (s : Sub G H) {a : Addr} {xs : List V} : SqL K G a xs → SqL K H a xs
  | .inl h => .inl (Rd.sub s h)
  | .inr h => .inr h
theorem SqT.sub {K : PySem.W.Frag} {G H : Hp} (s : Sub G H) {a : Addr} {xs : List V} : SqT K G a xs → SqT K H a xs
  | .inl h => .inl (Rd.sub s h)
  | .inr h => .inr h

mutual
theorem Rep.sub {K : PySem.W.Frag} {G H : Hp} (s : Sub G H) : ∀ (d : D) (v : V), Rep K G d v → Rep K H d v
  | .non, _, h => h
  | .bl _, _, h => h
  | .int _, _, h => h
  | .str _, _, h => h
  | .scr ns, _, h => by
    obtain ⟨a, e, q⟩ := h
    exact ⟨a, e, SqL.sub s q⟩
  | .exc c xf, _, h => by
    obtain ⟨a, C, e, f, g'⟩ := h
    exact ⟨a, C, e, f, g'.sub s s⟩
  | .obj c fs, _, h => by
    obtain ⟨a, C, dx, vs, e, f, q, q2, r⟩ := h
    exact ⟨a, C, dx, vs, e, f, s _ _ q, s _ _ q2, RepFs.sub s fs vs r⟩
  | .lst ds, _, h => by
    obtain ⟨a, vs, e, q, r⟩ := h
    exact ⟨a, vs, e, s _ _ q, Reps.sub s ds vs r⟩
  | .tup ds, _, h => by
    obtain ⟨a, vs, e, q, r⟩ := h
    exact ⟨a, vs, e, SqT.sub s q, Reps.sub s ds vs r⟩
  | .dic ds, _, h => by
    obtain ⟨a, vs, e, q, r⟩ := h
    exact ⟨a, vs, e, s _ _ q, RepKs.sub s ds vs r⟩
theorem Reps.sub {K : PySem.W.Frag} {G H : Hp} (s : Sub G H) : ∀ (ds : List D) (vs : List V), Reps K G ds vs → Reps K H ds vs
  | [], _, h => h
  | d :: ds, _, h => by
    obtain ⟨v, r, e, h1, h2⟩ := h
    exact ⟨v, r, e, Rep.sub s d v h1, Reps.sub s ds r h2⟩
theorem RepKs.sub {K : PySem.W.Frag} {G H : Hp} (s : Sub G H) : ∀ (ds : List (Key × D)) (vs : List (Key × V)), RepKs K G ds vs → RepKs K H ds vs
  | [], _, h => h
  | (k, d) :: ds, _, h => by
    obtain ⟨v, r, e, h1, h2⟩ := h
    exact ⟨v, r, e, Rep.sub s d v h1, RepKs.sub s ds r h2⟩
theorem RepFs.sub {K : PySem.W.Frag} {G H : Hp} (s : Sub G H) : ∀ (ds : List (Str × Bool × D)) (vs : List (Str × V)), RepFs K G ds vs → RepFs K H ds vs
  | [], _, h => h
  | (k, b, d) :: ds, _, h => by
    obtain ⟨v, r, e, h1, h2⟩ := h
    exact ⟨v, r, e, Rep.sub s d v h1, RepFs.sub s ds r h2⟩
end

section
variable {K : PySem.W.Frag} {G H : Hp}
theorem Reps.length : ∀ {ds : List D} {vs : List V}, Reps K G ds vs → ds.length = vs.length
  | [], _, h => by rw [show _ = [] from h]; rfl
  | d :: ds, _, h => by
    obtain ⟨v, r, e, _, h2⟩ := h
    rw [e, List.length_cons, List.length_cons, Reps.length h2]
theorem Reps.append : ∀ {ds es : List D} {vs us : List V}, Reps K G ds vs → Reps K G es us → Reps K G (ds ++ es) (vs ++ us)
  | [], _, _, _, h, h' => by rw [show _ = [] from h]; exact h'
  | d :: ds, _, _, _, h, h' => by
    obtain ⟨v, r, e, h1, h2⟩ := h
    subst e
    exact ⟨v, _, rfl, h1, Reps.append h2 h'⟩
theorem Reps.get : ∀ {ds : List D} {vs : List V} {i : Nat} {d : D}, Reps K G ds vs → ds[i]? = some d → ∃ v, vs[i]? = some v ∧ Rep K G d v
  | [], _, _, _, _, e => by simp at e
  | d :: ds, _, 0, _, h, e => by
    obtain ⟨v, r, e', h1, _⟩ := h
    subst e'
    simp at e; subst e
    exact ⟨v, rfl, h1⟩
  | d :: ds, _, i + 1, _, h, e => by
    obtain ⟨v, r, e', _, h2⟩ := h
    subst e'
    obtain ⟨u, h3, h4⟩ := Reps.get (i := i) h2 (by simpa using e)
    exact ⟨u, by simpa using h3, h4⟩
theorem Reps.get' : ∀ {ds : List D} {vs : List V} {i : Nat} {v : V}, Reps K G ds vs → vs[i]? = some v → ∃ d, ds[i]? = some d ∧ Rep K G d v := fun {ds vs i v} h e => by
  have hl := Reps.length h
  have hi : i < ds.length := by rw [hl]; exact (List.getElem?_eq_some_iff.mp e).1
  obtain ⟨u, h1, h2⟩ := Reps.get h (List.getElem?_eq_getElem hi)
  rw [e] at h1
  cases h1
  exact ⟨_, List.getElem?_eq_getElem hi, h2⟩
theorem Reps.take : ∀ {ds : List D} {vs : List V} (n : Nat), Reps K G ds vs → Reps K G (ds.take n) (vs.take n)
  | _, _, 0, _ => rfl
  | [], _, n + 1, h => by rw [show _ = [] from h]; rfl
  | d :: ds, _, n + 1, h => by
    obtain ⟨v, r, e, h1, h2⟩ := h
    subst e
    exact ⟨v, _, rfl, h1, Reps.take n h2⟩
theorem Reps.drop : ∀ {ds : List D} {vs : List V} (n : Nat), Reps K G ds vs → Reps K G (ds.drop n) (vs.drop n)
  | _, _, 0, h => h
  | [], _, n + 1, h => by rw [show _ = [] from h]; rfl
  | d :: ds, _, n + 1, h => by
    obtain ⟨v, r, e, h1, h2⟩ := h
    subst e
    exact Reps.drop n h2
theorem Reps.set {d : D} {v : V} (q : Rep K G d v) : ∀ {ds : List D} {vs : List V} (i : Nat), Reps K G ds vs → Reps K G (ds.set i d) (vs.set i v)
  | [], _, _, h => by rw [show _ = [] from h]; rfl
  | _ :: ds, _, 0, h => by
    obtain ⟨u, r, e, h1, h2⟩ := h
    subst e
    exact ⟨v, r, rfl, q, h2⟩
  | _ :: ds, _, i + 1, h => by
    obtain ⟨u, r, e, h1, h2⟩ := h
    subst e
    exact ⟨u, _, rfl, h1, Reps.set q i h2⟩
theorem Reps.reverse : ∀ {ds : List D} {vs : List V}, Reps K G ds vs → Reps K G ds.reverse vs.reverse
  | [], _, h => by rw [show _ = [] from h]; rfl
  | d :: ds, _, h => by
    obtain ⟨v, r, e, h1, h2⟩ := h
    subst e
    rw [List.reverse_cons, List.reverse_cons]
    exact Reps.append (Reps.reverse h2) ⟨v, [], rfl, h1, rfl⟩
theorem Reps.one {d : D} {v : V} (q : Rep K G d v) : Reps K G [d] [v] := ⟨v, [], rfl, q, rfl⟩
theorem Reps.eraseIdx : ∀ {ds : List D} {vs : List V} (i : Nat), Reps K G ds vs → Reps K G (ds.eraseIdx i) (vs.eraseIdx i)
  | [], _, _, h => by rw [show _ = [] from h]; rfl
  | d :: ds, _, 0, h => by
    obtain ⟨u, r, e, h1, h2⟩ := h
    subst e
    exact h2
  | d :: ds, _, i + 1, h => by
    obtain ⟨u, r, e, h1, h2⟩ := h
    subst e
    exact ⟨u, _, rfl, h1, Reps.eraseIdx i h2⟩
theorem Reps.dropLast : ∀ {ds : List D} {vs : List V}, Reps K G ds vs → Reps K G ds.dropLast vs.dropLast
  | ds, vs, h => by
    rw [List.dropLast_eq_take, List.dropLast_eq_take, ← Reps.length h]
    exact Reps.take _ h
end

/-- a field: an own list's (or dict's) top stands in H -/
def VF (K : PySem.W.Frag) (G H : Hp) : Bool → D → V → Prop
  | true, .lst ds, v => ∃ a vs, v = .ref a ∧ H a = some (.lst vs) ∧ Reps K G ds vs
  | true, .dic ds, v => ∃ a kv, v = .ref a ∧ H a = some (.dK kv) ∧ RepKs K G ds kv
  | _, d, v => Rep K G d v
def VFs (K : PySem.W.Frag) (G H : Hp) : List (Str × Bool × D) → List (Str × V) → Prop
  | [], vs => vs = []
  | (k, b, d) :: ds, vs => ∃ v r, vs = (k, v) :: r ∧ VF K G H b d v ∧ VFs K G H ds r
theorem VF.of {K : PySem.W.Frag} {G H : Hp} (s : Sub G H) : ∀ {b : Bool} {d : D} {v : V}, Rep K G d v → VF K G H b d v
  | true, .lst ds, v, h => by obtain ⟨a, vs, e, q, r⟩ := h; exact ⟨a, vs, e, s _ _ q, r⟩
  | true, .dic ds, v, h => by obtain ⟨a, vs, e, q, r⟩ := h; exact ⟨a, vs, e, s _ _ q, r⟩
  | false, d, v, h => by cases d <;> exact h
  | true, .non, _, h => h
  | true, .bl _, _, h => h
  | true, .int _, _, h => h
  | true, .str _, _, h => h
  | true, .tup _, _, h => h
  | true, .scr _, _, h => h
  | true, .exc _ _, _, h => h
  | true, .obj _ _, _, h => h
theorem VFs.of {K : PySem.W.Frag} {G H : Hp} (s : Sub G H) : ∀ {fs : List (Str × Bool × D)} {vs : List (Str × V)}, RepFs K G fs vs → VFs K G H fs vs
  | [], _, h => h
  | (k, b, d) :: r, _, h => by
    obtain ⟨v, q, e, h1, h2⟩ := h
    exact ⟨v, q, e, VF.of s h1, VFs.of s h2⟩
theorem VF.sub {K : PySem.W.Frag} {G G' H H' : Hp} (g : Sub G G') (s : Sub H H') : ∀ {b : Bool} {d : D} {v : V}, VF K G H b d v → VF K G' H' b d v
  | true, .lst ds, v, h => by obtain ⟨a, vs, e, q, r⟩ := h; exact ⟨a, vs, e, s _ _ q, Reps.sub g _ _ r⟩
  | true, .dic ds, v, h => by obtain ⟨a, vs, e, q, r⟩ := h; exact ⟨a, vs, e, s _ _ q, RepKs.sub g _ _ r⟩
  | false, d, v, h => by cases d <;> exact Rep.sub g _ _ h
  | true, .non, _, h => h
  | true, .bl _, _, h => h
  | true, .int _, _, h => h
  | true, .str _, _, h => h
  | true, .tup _, _, h => Rep.sub g _ _ h
  | true, .scr _, _, h => Rep.sub g _ _ h
  | true, .exc _ _, _, h => Rep.sub g _ _ h
  | true, .obj _ _, _, h => Rep.sub g _ _ h
theorem VFs.sub {K : PySem.W.Frag} {G G' H H' : Hp} (g : Sub G G') (s : Sub H H') : ∀ {fs : List (Str × Bool × D)} {vs : List (Str × V)}, VFs K G H fs vs → VFs K G' H' fs vs
  | [], _, h => h
  | (k, b, d) :: r, _, h => by
    obtain ⟨v, q, e, h1, h2⟩ := h
    exact ⟨v, q, e, VF.sub g s h1, VFs.sub g s h2⟩
/-- the value of a thing whose top may be changed by others of this def: its own items stand fast in G, its top in H -/
def VRep (K : PySem.W.Frag) (G H : Hp) : D → V → Prop
  | .lst ds, v => ∃ a vs, v = .ref a ∧ H a = some (.lst vs) ∧ Reps K G ds vs
  | .scr ns, v => ∃ a, v = .ref a ∧ SqL K H a (ns.map V.int)
  | .exc c xf, v => ∃ a C, v = .ref a ∧ ExcF K c C ∧ ExAt G H C a xf
  | .obj c fs, v => ∃ a C dx vs, v = .ref a ∧ ObF K c C ∧ H a = some (.ins C dx vs) ∧ H dx = some (.own a) ∧ VFs K G H fs vs
  | .tup ds, v => ∃ a vs, v = .ref a ∧ SqT K H a vs ∧ Reps K G ds vs
  | .dic ds, v => ∃ a kv, v = .ref a ∧ H a = some (.dK kv) ∧ RepKs K G ds kv
  | d, v => Rep K G d v
theorem VRep.of {K : PySem.W.Frag} {G H : Hp} (s : Sub G H) : ∀ {d : D} {v : V}, Rep K G d v → VRep K G H d v
  | .non, _, h => h
  | .bl _, _, h => h
  | .int _, _, h => h
  | .str _, _, h => h
  | .scr ns, _, h => by
    obtain ⟨a, e, q⟩ := h
    exact ⟨a, e, SqL.sub s q⟩
  | .exc c xf, _, h => by
    obtain ⟨a, C, e, f, g'⟩ := h
    exact ⟨a, C, e, f, g'.sub (Sub.refl _) s⟩
  | .obj c fs, _, h => by
    obtain ⟨a, C, dx, vs, e, f, q, q2, r⟩ := h
    exact ⟨a, C, dx, vs, e, f, s _ _ q, s _ _ q2, VFs.of s r⟩
  | .lst ds, _, h => by
    obtain ⟨a, vs, e, q, r⟩ := h
    exact ⟨a, vs, e, s _ _ q, r⟩
  | .tup ds, _, h => by
    obtain ⟨a, vs, e, q, r⟩ := h
    exact ⟨a, vs, e, SqT.sub s q, r⟩
  | .dic ds, _, h => by
    obtain ⟨a, vs, e, q, r⟩ := h
    exact ⟨a, vs, e, s _ _ q, r⟩
theorem VRep.sub {K : PySem.W.Frag} {G G' H H' : Hp} (g : Sub G G') (s : Sub H H') : ∀ {d : D} {v : V}, VRep K G H d v → VRep K G' H' d v
  | .non, _, h => h
  | .bl _, _, h => h
  | .int _, _, h => h
  | .str _, _, h => h
  | .scr ns, _, h => by
    obtain ⟨a, e, q⟩ := h
    exact ⟨a, e, SqL.sub s q⟩
  | .exc c xf, _, h => by
    obtain ⟨a, C, e, f, g'⟩ := h
    exact ⟨a, C, e, f, g'.sub g s⟩
  | .obj c fs, _, h => by
    obtain ⟨a, C, dx, vs, e, f, q, q2, r⟩ := h
    exact ⟨a, C, dx, vs, e, f, s _ _ q, s _ _ q2, VFs.sub g s r⟩
  | .lst ds, _, h => by
    obtain ⟨a, vs, e, q, r⟩ := h
    exact ⟨a, vs, e, s _ _ q, Reps.sub g _ _ r⟩
  | .tup ds, _, h => by
    obtain ⟨a, vs, e, q, r⟩ := h
    exact ⟨a, vs, e, SqT.sub s q, Reps.sub g _ _ r⟩
  | .dic ds, _, h => by
    obtain ⟨a, vs, e, q, r⟩ := h
    exact ⟨a, vs, e, s _ _ q, RepKs.sub g _ _ r⟩

/-- a list (or dict) of this def's own at p -/
def MRep (K : PySem.W.Frag) (G H : Hp) : D → Addr → Prop
  | .lst ds, p => ∃ vs, H p = some (.lst vs) ∧ Reps K G ds vs
  | .dic ds, p => ∃ kv, H p = some (.dK kv) ∧ RepKs K G ds kv
  | _, _ => False
theorem MRep.v {K : PySem.W.Frag} {G H : Hp} : ∀ {d : D} {p : Addr}, MRep K G H d p → VRep K G H d (.ref p)
  | .lst ds, p, h => by obtain ⟨vs, e, r⟩ := h; exact ⟨p, vs, rfl, e, r⟩
  | .dic ds, p, h => by obtain ⟨vs, e, r⟩ := h; exact ⟨p, vs, rfl, e, r⟩
  | .non, _, h => h.elim
  | .bl _, _, h => h.elim
  | .int _, _, h => h.elim
  | .str _, _, h => h.elim
  | .tup _, _, h => h.elim
  | .scr _, _, h => h.elim
  | .exc _ _, _, h => h.elim
  | .obj _ _, _, h => h.elim
theorem MRep.keep {K : PySem.W.Frag} {G G' H H' : Hp} (g : Sub G G') : ∀ {d : D} {p : Addr}, MRep K G H d p → (∀ o, H p = some o → H' p = some o) → MRep K G' H' d p
  | .lst ds, p, h, k => by obtain ⟨vs, e, r⟩ := h; exact ⟨vs, k _ e, Reps.sub g _ _ r⟩
  | .dic ds, p, h, k => by obtain ⟨vs, e, r⟩ := h; exact ⟨vs, k _ e, RepKs.sub g _ _ r⟩
  | .non, _, h, _ => h.elim
  | .bl _, _, h, _ => h.elim
  | .int _, _, h, _ => h.elim
  | .str _, _, h, _ => h.elim
  | .tup _, _, h, _ => h.elim
  | .scr _, _, h, _ => h.elim
  | .exc _ _, _, h, _ => h.elim
  | .obj _ _, _, h, _ => h.elim
theorem MRep.ex {K : PySem.W.Frag} {G H : Hp} : ∀ {d : D} {p : Addr}, MRep K G H d p → ∃ o, H p = some o
  | .lst ds, p, h => by obtain ⟨vs, e, r⟩ := h; exact ⟨_, e⟩
  | .dic ds, p, h => by obtain ⟨vs, e, r⟩ := h; exact ⟨_, e⟩
  | .non, _, h => h.elim
  | .bl _, _, h => h.elim
  | .int _, _, h => h.elim
  | .str _, _, h => h.elim
  | .tup _, _, h => h.elim
  | .scr _, _, h => h.elim
  | .exc _ _, _, h => h.elim
  | .obj _ _, _, h => h.elim
/-- put among what stands fast -/
theorem MRep.freeze {K : PySem.W.Frag} {G H : Hp} : ∀ {d : D} {p : Addr} {o : HO}, MRep K G H d p → H p = some o → G p = none → Rep K (upd G p o) d (.ref p)
  | .lst ds, p, o, h, e, n => by
    obtain ⟨vs, e', r⟩ := h
    rw [e] at e'; cases e'
    exact ⟨p, vs, rfl, upd_same, Reps.sub (Sub.upd n) _ _ r⟩
  | .dic ds, p, o, h, e, n => by
    obtain ⟨vs, e', r⟩ := h
    rw [e] at e'; cases e'
    exact ⟨p, vs, rfl, upd_same, RepKs.sub (Sub.upd n) _ _ r⟩
  | .non, _, _, h, _, _ => h.elim
  | .bl _, _, _, h, _, _ => h.elim
  | .int _, _, _, h, _, _ => h.elim
  | .str _, _, _, h, _, _ => h.elim
  | .tup _, _, _, h, _, _ => h.elim
  | .scr _, _, _, h, _, _ => h.elim
  | .exc _ _, _, _, h, _, _ => h.elim
  | .obj _ _, _, _, h, _, _ => h.elim

def tupD : D → Bool
  | .tup _ => true
  | _ => false
/-- what a caller lets be read: a tuple stands fast -/
def Fits (M F G : Hp) : Prop := ∀ a o, M a = some o → F a = some o ∨ G a = some o
theorem Fits.sub {M F G H : Hp} (h : Fits M F G) (f : Sub F H) (g : Sub G H) : Sub M H := fun a o e => (h a o e).elim (f a o) (g a o)
def BRep (K : PySem.W.Frag) (G F : Hp) (d : D) (v : V) : Prop := (∃ M, Fits M F G ∧ VRep K G M d v) ∧ (tupD d = true → Rep K G d v)
theorem BRep.of {K : PySem.W.Frag} {G F : Hp} (s : Sub G F) {d : D} {v : V} (h : Rep K G d v) : BRep K G F d v := ⟨⟨G, fun _ _ e => .inr e, VRep.of (Sub.refl G) h⟩, fun _ => h⟩
theorem BRep.vv {K : PySem.W.Frag} {G F H : Hp} (g : Sub G H) (s : Sub F H) {d : D} {v : V} (h : BRep K G F d v) : VRep K G H d v := by
  obtain ⟨⟨M, hM, r⟩, _⟩ := h
  exact VRep.sub (Sub.refl _) (hM.sub s g) r
theorem BRep.mk {K : PySem.W.Frag} {G F : Hp} {d : D} {v : V} (h : VRep K G F d v) (t : tupD d = true → Rep K G d v) : BRep K G F d v := ⟨⟨F, fun _ _ e => .inl e, h⟩, t⟩
theorem BRep.sub {K : PySem.W.Frag} {G G' F F' : Hp} (g : Sub G G') (s : Sub F F') {d : D} {v : V} (h : BRep K G F d v) : BRep K G' F' d v := by
  obtain ⟨⟨M, hM, r⟩, t⟩ := h
  exact ⟨⟨M, fun a o e => (hM a o e).imp (s a o) (g a o), VRep.sub g (Sub.refl M) r⟩, fun z => Rep.sub g _ _ (t z)⟩
theorem MRep.notup {K : PySem.W.Frag} {G H : Hp} {d : D} {p : Addr} (h : MRep K G H d p) : tupD d = true → Rep K G d (.ref p) := fun t => by
  cases d <;> first | exact h.elim | cases t
/-- what is known of a name or a thing at hand: nothing; a thing that stands fast; a list of this def's own; one of the caller's that may be changed (the j-th of these); one that is the caller's and isn't changed meanwhile; the list of the name at a place -/
inductive Slot where
  | un | fr (d : D) | mu (d : D) | mp (j : Nat) (d : D) | bw (d : D) | bo (i : Nat)

/-- what a def's run starts from: what stands fast, all that it must leave as it was, the lists that it may change; and what of its end may be -/
structure Kn where
  n : Nat
  G0 : Hp
  F0 : Hp
  ps : List Addr
  HX : Option Exc → Prop
  h0 : HX none

def SlotOk (K : PySem.W.Frag) (en : Kn) (S : L2.St) (G H : Hp) : Slot → Option V → Prop
  | .un, _ => True
  | .fr d, o => ∃ v, o = some v ∧ Rep K G d v
  | .mu d, o => ∃ p, o = some (.ref p) ∧ G p = none ∧ en.F0 p = none ∧ p ∉ en.ps ∧ MRep K G H d p
  | .mp j d, o => ∃ p, o = some (.ref p) ∧ en.ps[j]? = some p ∧ G p = none ∧ en.F0 p = none ∧ MRep K G H d p
  | .bw d, o => ∃ v, o = some v ∧ BRep K G en.F0 d v
  | .bo i, o => i < en.n ∧ S[i]? = some o ∧ ∃ p, o = some (.ref p)

/-- a list of this def's own, or of the caller's that may be changed -/
def Slot.own : Slot → Bool
  | .mu _ => true
  | .mp _ _ => true
  | _ => false
def Own (Δ : List Slot) (S : L2.St) (i : Nat) (p : Addr) : Prop := ∃ sl, Δ[i]? = some sl ∧ sl.own = true ∧ S[i]? = some (some (V.ref p))
structure Wd (K : PySem.W.Frag) (en : Kn) (Δ : List Slot) (S : L2.St) (G H : Hp) : Prop where
  len : Δ.length = S.length
  sub : Sub G H
  ext : Sub en.G0 G
  new : ∀ a o, G a = some o → en.G0 a = some o ∨ (en.F0 a = none ∧ a ∉ en.ps)
  frm : Sub en.F0 H
  stay : ∀ a, a ∈ en.ps → H a ≠ none
  nd : en.ps.Nodup
  slot : ∀ (i : Nat) sl o, Δ[i]? = some sl → S[i]? = some o → SlotOk K en S G H sl o
  apart : ∀ (i j : Nat) p, Own Δ S i p → Own Δ S j p → i = j

/-- grown: what was tracked is as it was, what stands fast too; what newly stands fast is new -/
structure Grow (G H G' H' : Hp) : Prop where
  g : Sub G G'
  h : Sub H H'
  gh : Sub G' H'
  new : ∀ a o, G' a = some o → G a = some o ∨ H a = none
theorem Grow.refl {G H : Hp} (s : Sub G H) : Grow G H G H := ⟨Sub.refl _, Sub.refl _, s, fun _ _ e => .inl e⟩
theorem Grow.laid {G H : Hp} {p : Addr} {o : HO} (s : Sub G H) (h : H p = none) : Grow G H G (upd H p o) :=
  ⟨Sub.refl _, Sub.upd h, s.trans (Sub.upd h), fun _ _ e => .inl e⟩
theorem Grow.trans {G H G1 H1 G2 H2 : Hp} (a : Grow G H G1 H1) (b : Grow G1 H1 G2 H2) : Grow G H G2 H2 :=
  ⟨a.g.trans b.g, a.h.trans b.h, b.gh, fun x o e => by
    rcases b.new x o e with q | q
    · exact a.new x o q
    · refine .inr ?_
      cases z : H x with
      | none => rfl
      | some u => rw [a.h x u z] at q; cases q⟩

/-- a result: it stands fast; a new list; -/
def Out (K : PySem.W.Frag) (G H G' H' : Hp) : Slot → V → Prop
  | .fr d, v => Rep K G' d v
  | .mu d, v => ∃ p, v = .ref p ∧ H p = none ∧ G' p = none ∧ MRep K G' H' d p
  | _, _ => False

section
variable {K : PySem.W.Frag} {en : Kn} {Δ : List Slot} {S : L2.St} {G H G' H' : Hp}
theorem Wd.fresh (W : Wd K en Δ S G H) {p : Addr} (h : H p = none) : G p = none ∧ en.F0 p = none ∧ p ∉ en.ps := by
  refine ⟨?_, ?_, fun q => W.stay p q h⟩
  · cases z : G p with
    | none => rfl
    | some o => rw [W.sub p o z] at h; cases h
  · cases z : en.F0 p with
    | none => rfl
    | some o => rw [W.frm p o z] at h; cases h
theorem Grow.gnone (g : Grow G H G' H') {p : Addr} {d : D} (n : G p = none) (r : MRep K G H d p) : G' p = none := by
  cases z : G' p with
  | none => rfl
  | some u =>
    obtain ⟨o2, e2⟩ := r.ex
    rcases g.new p u z with q | q
    · rw [n] at q; cases q
    · rw [e2] at q; cases q
/-- grown -/
theorem Wd.grow (W : Wd K en Δ S G H) (g : Grow G H G' H') : Wd K en Δ S G' H' where
  len := W.len
  sub := g.gh
  ext := W.ext.trans g.g
  new := fun a o e => by
    rcases g.new a o e with q | q
    · exact W.new a o q
    · exact .inr ⟨(W.fresh q).2.1, (W.fresh q).2.2⟩
  frm := W.frm.trans g.h
  stay := fun a h e => by
    cases z : H a with
    | none => exact W.stay a h z
    | some o => rw [g.h a o z] at e; cases e
  nd := W.nd
  slot := fun i sl o h1 h2 => by
    have q := W.slot i sl o h1 h2
    cases sl with
    | un => trivial
    | fr d => obtain ⟨v, e, r⟩ := q; exact ⟨v, e, Rep.sub g.g _ _ r⟩
    | mu d =>
      obtain ⟨p, e, n, f, f2, r⟩ := q
      exact ⟨p, e, g.gnone n r, f, f2, r.keep g.g fun o e => g.h _ _ e⟩
    | mp j d =>
      obtain ⟨p, e, f2, n, f, r⟩ := q
      exact ⟨p, e, f2, g.gnone n r, f, r.keep g.g fun o e => g.h _ _ e⟩
    | bw d => obtain ⟨v, e, r⟩ := q; exact ⟨v, e, BRep.sub g.g (Sub.refl _) r⟩
    | bo j => exact q
  apart := W.apart
/-- a thing more at hand -/
theorem SlotOk.more {o u : Option V} {sl : Slot} (q : SlotOk K en S G H sl o) : SlotOk K en (S ++ [u]) G H sl o := by
  cases sl with
  | un => trivial
  | fr d => exact q
  | mu d => exact q
  | mp j d => exact q
  | bw d => exact q
  | bo j =>
    obtain ⟨h0, h1, h2⟩ := q
    refine ⟨h0, ?_, h2⟩
    rw [List.getElem?_append_left (List.getElem?_eq_some_iff.mp h1).1]
    exact h1
theorem Own.split {sl : Slot} {u : Option V} {i : Nat} {p : Addr} (hl : Δ.length = S.length) (h : Own (Δ ++ [sl]) (S ++ [u]) i p) : (i < Δ.length ∧ Own Δ S i p) ∨ (i = Δ.length ∧ sl.own = true ∧ u = some (.ref p)) := by
  obtain ⟨s, h1, h2, h3⟩ := h
  by_cases hi : i < Δ.length
  · rw [List.getElem?_append_left hi] at h1
    rw [List.getElem?_append_left (by rw [← hl]; exact hi)] at h3
    exact .inl ⟨hi, s, h1, h2, h3⟩
  · have hl' : i = Δ.length := by
      have := (List.getElem?_eq_some_iff.mp h1).1
      rw [List.length_append] at this
      have e1 : [sl].length = 1 := rfl
      omega
    subst hl'
    rw [List.getElem?_append_right (Nat.le_refl _), Nat.sub_self] at h1
    rw [hl, List.getElem?_append_right (Nat.le_refl _), Nat.sub_self] at h3
    have e1 : sl = s := Option.some.inj h1
    subst e1
    exact .inr ⟨rfl, h2, Option.some.inj h3⟩
theorem Wd.more {sl : Slot} {u : Option V} (W : Wd K en Δ S G H) (q : SlotOk K en (S ++ [u]) G H sl u) (ap : ∀ p (j : Nat), sl.own = true → u = some (.ref p) → Own Δ S j p → False) : Wd K en (Δ ++ [sl]) (S ++ [u]) G H where
  len := by rw [List.length_append, List.length_append, W.len]; rfl
  sub := W.sub
  ext := W.ext
  new := W.new
  frm := W.frm
  stay := W.stay
  nd := W.nd
  slot := fun i s o h1 h2 => by
    by_cases hi : i < Δ.length
    · rw [List.getElem?_append_left hi] at h1
      rw [List.getElem?_append_left (by rw [← W.len]; exact hi)] at h2
      exact (W.slot i s o h1 h2).more
    · have hl : i = Δ.length := by
        have := (List.getElem?_eq_some_iff.mp h1).1
        rw [List.length_append] at this
        have e1 : [sl].length = 1 := rfl
        omega
      subst hl
      rw [List.getElem?_append_right (Nat.le_refl _), Nat.sub_self] at h1
      have e1 : sl = s := Option.some.inj h1
      rw [W.len, List.getElem?_append_right (Nat.le_refl _), Nat.sub_self] at h2
      have e2 : u = o := Option.some.inj h2
      subst e1 e2
      exact q
  apart := fun i j p h1 h2 => by
    rcases h1.split W.len with ⟨i1, i2⟩ | ⟨i1, i2, i3⟩ <;> rcases h2.split W.len with ⟨j1, j2⟩ | ⟨j1, j2, j3⟩
    · exact W.apart i j p i2 j2
    · exact (ap _ _ j2 j3 i2).elim
    · exact (ap _ _ i2 i3 j2).elim
    · rw [i1, j1]
theorem Wd.ownThere {j : Nat} {p : Addr} (W : Wd K en Δ S G H) (h : Own Δ S j p) : ∃ o, H p = some o := by
  obtain ⟨sl, h1, h2, h3⟩ := h
  have q := W.slot j sl _ h1 h3
  cases sl with
  | mu d => obtain ⟨p2, e3, _, _, _, r⟩ := q; cases e3; exact r.ex
  | mp _ d => obtain ⟨p2, e3, _, _, _, r⟩ := q; cases e3; exact r.ex
  | un => cases h2
  | fr _ => cases h2
  | bw _ => cases h2
  | bo _ => cases h2
theorem Wd.out {sl : Slot} {v : V} (W : Wd K en Δ S G H) (g : Grow G H G' H') (q : Out K G H G' H' sl v) : Wd K en (Δ ++ [sl]) (S ++ [some v]) G' H' := by
  refine (W.grow g).more ?_ ?_
  · cases sl with
    | un => exact q.elim
    | fr d => exact ⟨v, rfl, q⟩
    | mu d =>
      obtain ⟨p, e, h1, h2, h3⟩ := q
      subst e
      exact ⟨p, rfl, h2, (W.fresh h1).2.1, (W.fresh h1).2.2, h3⟩
    | mp j d => exact q.elim
    | bw d => exact q.elim
    | bo i => exact q.elim
  · intro p j e1 e2 h1
    cases sl with
    | mu d =>
      obtain ⟨p', e, n1, n2, n3⟩ := q
      cases e2
      cases e
      obtain ⟨o, z⟩ := W.ownThere h1
      rw [n1] at z; cases z
    | un => cases e1
    | fr _ => cases e1
    | mp _ _ => exact q.elim
    | bw _ => cases e1
    | bo _ => cases e1
end
end BR

/-! K2: the judgements: a text against the rest of a plain run -/
namespace BR
open PySem PySem.Spec PyProof.Rows L2

def plainE : Expr → Bool
  | .Starred _ _ => false
  | _ => true
theorem star_plain {e : Expr} {rest : List Expr} {env : Env} (h : plainE e = true) : starEach (e :: rest) env = (false, eval e env) :: starEach rest env := by
  cases e <;> first | rfl | cases h
/-- a step that may have no answer -/
def op {α R : Type} (o : Option α) (k : α → Res R) : Res R := match o with
  | some a => k a
  | none => .bad
/-- the end of a part of a run: on with s, or the whole ends with r -/
inductive Flow (S R : Type) where
  | nx (s : S) | ex (r : R)
def fbind {S R : Type} (m : Res (Flow S R)) (k : S → Res R) : Res R := match m with
  | .ok (.nx s) => k s
  | .ok (.ex r) => .ok r
  | .raise x => .raise x
  | .bad => .bad

abbrev WE (X : Cx) (e : Expr) : TE := fun σ H Q => ∀ (pins : List (Addr × Obj)) (s : Shared), Inv X pins σ H s → wpAny (model X.prog X.w) X.A (eval e X.env) (EP X pins σ Q) X.xe s
theorem pe_we {X : Cx} {e : Expr} : PE X e (WE X e) := ⟨fun pins s _ _ _ I h => h pins s I⟩
theorem we_of {X : Cx} {e : Expr} {t : TE} (h : PE X e t) {σ : L2.St} {H : Hp} {Q : VK} (q : t σ H Q) : WE X e σ H Q := fun pins s I => h.run pins s σ H Q I q
abbrev WT (X : Cx) (e : Expr) : TT := fun σ H Q => ∀ (pins : List (Addr × Obj)) (s : Shared), Inv X pins σ H s → wpAny (model X.prog X.w) X.A (isTrue e X.env (eval e X.env)) (TP X pins σ Q) X.xe s
theorem pt_wt {X : Cx} {e : Expr} : PT X e (WT X e) := ⟨fun pins s _ _ _ I h => h pins s I⟩
theorem wt_of {X : Cx} {e : Expr} {t : TT} (h : PT X e t) {σ : L2.St} {H : Hp} {Q : Bool → Hp → Prop} (q : t σ H Q) : WT X e σ H Q := fun pins s I => h.run pins s σ H Q I q
abbrev WA (X : Cx) (es : List Expr) : TA := fun σ H Q => ∀ (pos : Pos) (pins : List (Addr × Obj)) (s : Shared), Inv X pins σ H s → wpAny (model X.prog X.w) X.A (spliced (backTo pos (starEach es X.env))) (AP X pins σ Q) X.xe s
theorem pa_wa {X : Cx} {es : List Expr} : PA X es (WA X es) := ⟨fun pos pins s _ _ _ I h => h pos pins s I⟩
theorem wa_of {X : Cx} {es : List Expr} {t : TA} (h : PA X es t) {σ : L2.St} {H : Hp} {Q : List V → Hp → Prop} (q : t σ H Q) : WA X es σ H Q := fun pos pins s I => h.run pos pins s σ H Q I q
abbrev WS (X : Cx) (st : Stmt) : TS := fun D σ H => ∀ (pins : List (Addr × Obj)) (s : Shared), Inv X pins σ H s → wpAny (model X.prog X.w) X.A (exec st X.env) (SP X pins D) X.xe s
theorem ps_ws {X : Cx} {st : Stmt} : PS X st (WS X st) := ⟨fun pins s _ _ _ I h => h pins s I⟩
theorem ws_of {X : Cx} {st : Stmt} {t : TS} (h : PS X st t) {σ : L2.St} {H : Hp} {D : Ends} (q : t D σ H) : WS X st D σ H := fun pins s I => h.run pins s σ H D I q
abbrev WSs (X : Cx) (st : List Stmt) : TS := fun D σ H => ∀ (pins : List (Addr × Obj)) (s : Shared), Inv X pins σ H s → wpAny (model X.prog X.w) X.A (execs st X.env) (SP X pins D) X.xe s
theorem pss_wss {X : Cx} {st : List Stmt} : PSs X st (WSs X st) := ⟨fun pins s _ _ _ I h => h pins s I⟩
theorem wss_of {X : Cx} {st : List Stmt} {t : TS} (h : PSs X st t) {σ : L2.St} {H : Hp} {D : Ends} (q : t D σ H) : WSs X st D σ H := fun pins s I => h.run pins s σ H D I q
abbrev WG (X : Cx) (tg : Expr) : TG := fun v σ H Q => ∀ (pins : List (Addr × Obj)) (s : Shared) (u : Value), Inv X pins σ H s → RelV v u → wpAny (model X.prog X.w) X.A (assign tg X.env u) (fun _ s' => ∃ σ' H', Inv X pins σ' H' s' ∧ Q σ' H') X.xe s
theorem pg_wg {X : Cx} {tg : Expr} : PG X tg (WG X tg) := ⟨fun pins s _ _ _ u _ I r h => h pins s u I r⟩
abbrev WI (X : Cx) (tg iter : Expr) : TI := fun σ H R => ∀ (pins : List (Addr × Obj)) (s : Shared), Inv X pins σ H s →
  wpAny (model X.prog X.w) X.A (eval iter X.env) (fun v s1 => wpAny (model X.prog X.w) X.A (pyIter v) (PIE X pins σ tg R) X.xe s1) X.xe s
theorem pi_wi {X : Cx} {tg iter : Expr} : PI X tg iter (WI X tg iter) := ⟨fun pins s _ _ _ I h => h pins s I⟩
theorem wi_of {X : Cx} {tg iter : Expr} {t : TI} (h : PI X tg iter t) {σ : L2.St} {H : Hp} {R : It → Hp → Prop} (q : t σ H R) : WI X tg iter σ H R := fun pins s I => h.run pins s σ H R I q

/-- the data that a thing at hand may be read as -/
def Slot.rd (δ : List Slot) : Slot → Option D
  | .fr d => some d
  | .mu d => some d
  | .mp _ d => some d
  | .bw d => some d
  | .bo i => match δ[i]? with
    | some (.mu d) => some d
    | some (.mp _ d) => some d
    | _ => none
  | .un => none

section
variable (X : Cx) (en : Kn)
/-- an expression: δ the names, τ what is at hand; C tells of its slot, the names behind it and the rest of the plain run -/
structure JE (δ τ : List Slot) (e : Expr) {R : Type} (C : Slot → List Slot → Res R → Prop) (m : Res R) : Prop where
  run : m ≠ .bad → en.HX m.exc → ∀ (σ ts : L2.St) (G H : Hp) (T : VK), δ.length = en.n → σ.length = en.n → Wd X.K en (δ ++ τ) (σ ++ ts) G H →
    (∀ sl δ' v G' H', C sl δ' m → δ'.length = en.n → Wd X.K en (δ' ++ τ ++ [sl]) (σ ++ ts ++ [some v]) G' H' → T v H') → WE X e σ H T
/-- a test -/
structure JT (δ τ : List Slot) (e : Expr) {R : Type} (C : Bool → List Slot → Res R → Prop) (m : Res R) : Prop where
  run : m ≠ .bad → en.HX m.exc → ∀ (σ ts : L2.St) (G H : Hp) (T : Bool → Hp → Prop), δ.length = en.n → σ.length = en.n → Wd X.K en (δ ++ τ) (σ ++ ts) G H →
    (∀ b δ' G' H', C b δ' m → δ'.length = en.n → Wd X.K en (δ' ++ τ) (σ ++ ts) G' H' → T b H') → WT X e σ H T
/-- arguments, from the left -/
structure JA (δ τ : List Slot) (es : List Expr) {R : Type} (C : List Slot → List Slot → Res R → Prop) (m : Res R) : Prop where
  run : m ≠ .bad → en.HX m.exc → ∀ (σ ts : L2.St) (G H : Hp) (T : List V → Hp → Prop), δ.length = en.n → σ.length = en.n → Wd X.K en (δ ++ τ) (σ ++ ts) G H →
    (∀ sls δ' vs G' H', C sls δ' m → δ'.length = en.n → Wd X.K en (δ' ++ τ ++ sls) (σ ++ ts ++ vs.map some) G' H' → T vs H') → WA X es σ H T
/-- a statement: N the way on, RT a return, BK a break, CT a continue -/
structure JS (δ : List Slot) (st : Stmt) {R : Type} (N : List Slot → Res R → Prop) (RT : Slot → List Slot → Res R → Prop) (BK CT : List Slot → Res R → Prop) (m : Res R) : Prop where
  run : m ≠ .bad → en.HX m.exc → ∀ (σ : L2.St) (G H : Hp) (E : Ends), δ.length = en.n → Wd X.K en δ σ G H →
    (∀ δ' σ' G' H', N δ' m → δ'.length = en.n → Wd X.K en δ' σ' G' H' → E.nx σ' H') →
    (∀ sl δ' v σ' G' H', RT sl δ' m → δ'.length = en.n → Wd X.K en (δ' ++ [sl]) (σ' ++ [some v]) G' H' → E.rt v H') →
    (∀ δ' σ' G' H', BK δ' m → δ'.length = en.n → Wd X.K en δ' σ' G' H' → E.bk σ' H') →
    (∀ δ' σ' G' H', CT δ' m → δ'.length = en.n → Wd X.K en δ' σ' G' H' → E.ct σ' H') → WS X st E σ H
structure JSs (δ : List Slot) (st : List Stmt) {R : Type} (N : List Slot → Res R → Prop) (RT : Slot → List Slot → Res R → Prop) (BK CT : List Slot → Res R → Prop) (m : Res R) : Prop where
  run : m ≠ .bad → en.HX m.exc → ∀ (σ : L2.St) (G H : Hp) (E : Ends), δ.length = en.n → Wd X.K en δ σ G H →
    (∀ δ' σ' G' H', N δ' m → δ'.length = en.n → Wd X.K en δ' σ' G' H' → E.nx σ' H') →
    (∀ sl δ' v σ' G' H', RT sl δ' m → δ'.length = en.n → Wd X.K en (δ' ++ [sl]) (σ' ++ [some v]) G' H' → E.rt v H') →
    (∀ δ' σ' G' H', BK δ' m → δ'.length = en.n → Wd X.K en δ' σ' G' H' → E.bk σ' H') →
    (∀ δ' σ' G' H', CT δ' m → δ'.length = en.n → Wd X.K en δ' σ' G' H' → E.ct σ' H') → WSs X st E σ H
end

section
variable {X : Cx} {en : Kn} {δ τ : List Slot} {R : Type} {C : Slot → List Slot → Res R → Prop} {m : Res R}

theorem Wd.splitLen {K : PySem.W.Frag} {σ ts : L2.St} {G H : Hp} (W : Wd K en (δ ++ τ) (σ ++ ts) G H) (h : δ.length = σ.length) : τ.length = ts.length := by
  have := W.len
  rw [List.length_append, List.length_append] at this
  omega
/-- the slot and the value of a thing at hand -/
theorem Wd.at {K : PySem.W.Frag} {Δ : List Slot} {S : L2.St} {G H : Hp} (W : Wd K en Δ S G H) {i : Nat} {sl : Slot} (h : Δ[i]? = some sl) : ∃ o, S[i]? = some o ∧ SlotOk K en S G H sl o := by
  have hi : i < S.length := by rw [← W.len]; exact (List.getElem?_eq_some_iff.mp h).1
  exact ⟨S[i], List.getElem?_eq_getElem hi, W.slot i sl _ h (List.getElem?_eq_getElem hi)⟩
/-- the names that are known at the front -/
theorem Wd.name {K : PySem.W.Frag} {σ ts : L2.St} {G H : Hp} (W : Wd K en (δ ++ τ) (σ ++ ts) G H) (hl : δ.length = σ.length) {i : Nat} {sl : Slot} (h : δ[i]? = some sl) : ∃ o, σ[i]? = some o ∧ SlotOk K en (σ ++ ts) G H sl o := by
  have hi := (List.getElem?_eq_some_iff.mp h).1
  obtain ⟨o, h1, h2⟩ := W.at (i := i) (by rw [List.getElem?_append_left hi]; exact h)
  rw [List.getElem?_append_left (by omega)] at h1
  exact ⟨o, h1, h2⟩
/-- a thing read -/
theorem Wd.read {K : PySem.W.Frag} {σ us : L2.St} {G H : Hp} {Δ2 : List Slot} {sl : Slot} {d : D} (W : Wd K en (δ ++ Δ2) (σ ++ us) G H) (hl : δ.length = σ.length) {v : V} (h : SlotOk K en (σ ++ us) G H sl (some v)) (r : sl.rd δ = some d) : VRep K G H d v := by
  cases sl with
  | un => cases r
  | fr e =>
    cases r
    obtain ⟨u, e, q⟩ := h
    cases e
    exact VRep.of W.sub q
  | mu e =>
    cases r
    obtain ⟨p, e, _, _, _, q⟩ := h
    cases e
    exact q.v
  | mp j e =>
    cases r
    obtain ⟨p, e, _, _, _, q⟩ := h
    cases e
    exact q.v
  | bw e =>
    cases r
    obtain ⟨u, e, q⟩ := h
    cases e
    exact BRep.vv W.sub W.frm q
  | bo i =>
    obtain ⟨_, h1, p, e⟩ := h
    cases e
    have r' : (match δ[i]? with | some (Slot.mu d) => some d | some (Slot.mp _ d) => some d | _ => none) = some d := r
    split at r'
    · rename_i e2
      cases r'
      obtain ⟨o, h2, h3⟩ := W.at (i := i) (by rw [List.getElem?_append_left (List.getElem?_eq_some_iff.mp e2).1]; exact e2)
      rw [h1] at h2
      cases h2
      obtain ⟨p', e3, _, _, _, q⟩ := h3
      cases e3
      exact q.v
    · rename_i e2
      cases r'
      obtain ⟨o, h2, h3⟩ := W.at (i := i) (by rw [List.getElem?_append_left (List.getElem?_eq_some_iff.mp e2).1]; exact e2)
      rw [h1] at h2
      cases h2
      obtain ⟨p', e3, _, _, _, q⟩ := h3
      cases e3
      exact q.v
    · cases r'

/-- a name -/
theorem je_fr (i : Nat) {x : Str} {pos : Pos} {d : D} (hs : δ[i]? = some (.fr d)) (h : C (.fr d) δ m) (hN : X.N[i]? = some x := by rfl) (hv : Vis X.env.scope x := by first | exact Or.inl rfl | exact Or.inr (Or.inl rfl) | exact Or.inr (Or.inr rfl))
    (hd : (x == ("__debug__" : Str)) = false := by decide) (hcd : (x == ("__classdict__" : Str)) = false := by decide) : JE X en δ τ (.Name x pos) C m := .mk fun hb hx σ ts G H T hl hσ W k => by
  obtain ⟨o, h1, v, e, q⟩ := W.name (hl.trans hσ.symm) hs
  subst e
  exact we_of (pe_var hN hv hd hcd) ⟨v, h1, k _ _ v G H h hl (W.out (Grow.refl W.sub) q)⟩
theorem je_bw (i : Nat) {x : Str} {pos : Pos} {d : D} (hs : δ[i]? = some (.bw d)) (h : C (.bw d) δ m) (hN : X.N[i]? = some x := by rfl) (hv : Vis X.env.scope x := by first | exact Or.inl rfl | exact Or.inr (Or.inl rfl) | exact Or.inr (Or.inr rfl))
    (hd : (x == ("__debug__" : Str)) = false := by decide) (hcd : (x == ("__classdict__" : Str)) = false := by decide) : JE X en δ τ (.Name x pos) C m := .mk fun hb hx σ ts G H T hl hσ W k => by
  obtain ⟨o, h1, v, e, q⟩ := W.name (hl.trans hσ.symm) hs
  subst e
  exact we_of (pe_var hN hv hd hcd) ⟨v, h1, k _ _ v G H h hl (W.more ⟨v, rfl, q⟩ (fun _ _ z => nomatch z))⟩
theorem je_bo (i : Nat) {x : Str} {pos : Pos} {sl : Slot} (hs : δ[i]? = some sl) (hm : (∃ d, sl = .mu d) ∨ ∃ j d, sl = .mp j d) (h : C (.bo i) δ m) (hN : X.N[i]? = some x := by rfl) (hv : Vis X.env.scope x := by first | exact Or.inl rfl | exact Or.inr (Or.inl rfl) | exact Or.inr (Or.inr rfl))
    (hd : (x == ("__debug__" : Str)) = false := by decide) (hcd : (x == ("__classdict__" : Str)) = false := by decide) : JE X en δ τ (.Name x pos) C m := .mk fun hb hx σ ts G H T hl hσ W k => by
  obtain ⟨o, h1, q⟩ := W.name (hl.trans hσ.symm) hs
  obtain ⟨p, e⟩ : ∃ p, o = some (V.ref p) := by
    rcases hm with ⟨d, e⟩ | ⟨j, d, e⟩
    · subst e; obtain ⟨p, e, _⟩ := q; exact ⟨p, e⟩
    · subst e; obtain ⟨p, e, _⟩ := q; exact ⟨p, e⟩
  subst e
  refine we_of (pe_var hN hv hd hcd) ⟨_, h1, k _ _ _ G H h hl (W.more ⟨?_, ?_, p, rfl⟩ (fun _ _ z => nomatch z))⟩
  · have hi := (List.getElem?_eq_some_iff.mp hs).1
    omega
  · have hi := (List.getElem?_eq_some_iff.mp h1).1
    rw [List.append_assoc, List.getElem?_append_left hi]
    exact h1
/-- constants -/
theorem je_int {i : Int} {j pos} (h : C (.fr (.int i)) δ m) : JE X en δ τ (.Constant (.int i) j pos) C m := .mk fun hb hx σ ts G H T hl hσ W k =>
  we_of pe_int (k _ _ _ G H h hl (W.out (Grow.refl W.sub) (show Rep _ _ _ _ from rfl)))
theorem je_bl {i : Bool} {j pos} (h : C (.fr (.bl i)) δ m) : JE X en δ τ (.Constant (.bool i) j pos) C m := .mk fun hb hx σ ts G H T hl hσ W k =>
  we_of pe_bl (k _ _ _ G H h hl (W.out (Grow.refl W.sub) (show Rep _ _ _ _ from rfl)))
theorem je_non {j pos} (h : C (.fr .non) δ m) : JE X en δ τ (.Constant .none j pos) C m := .mk fun hb hx σ ts G H T hl hσ W k =>
  we_of pe_non (k _ _ _ G H h hl (W.out (Grow.refl W.sub) (show Rep _ _ _ _ from rfl)))
theorem je_str {i : Str} {j pos} (h : C (.fr (.str i)) δ m) : JE X en δ τ (.Constant (.str i) j pos) C m := .mk fun hb hx σ ts G H T hl hσ W k =>
  we_of pe_str (k _ _ _ G H h hl (W.out (Grow.refl W.sub) (show Rep _ _ _ _ from rfl)))

/-! ### the last things at hand -/
theorem getElem?_last {α : Type} {l : List α} {a : α} : (l ++ [a])[l.length]? = some a := by
  rw [List.getElem?_append_right (Nat.le_refl _), Nat.sub_self]; rfl
/-- the last thing at hand -/
theorem Wd.last {K : PySem.W.Frag} {Δ : List Slot} {S : L2.St} {G H : Hp} {sl : Slot} {u : Option V} (W : Wd K en (Δ ++ [sl]) (S ++ [u]) G H) : SlotOk K en (S ++ [u]) G H sl u := by
  have hl : Δ.length = S.length := by
    have := W.len
    rw [List.length_append, List.length_append] at this
    exact Nat.add_right_cancel this
  exact W.slot Δ.length sl u getElem?_last (by rw [hl]; exact getElem?_last)
/-- a list of things forgotten; what stays may not lean on them -/
theorem Wd.cut {K : PySem.W.Frag} {Δ Ξ : List Slot} {S us : L2.St} {G H : Hp} (W : Wd K en (Δ ++ Ξ) (S ++ us) G H) (hl : Δ.length = S.length) (nb : en.n ≤ S.length) : Wd K en Δ S G H where
  len := hl
  sub := W.sub
  ext := W.ext
  new := W.new
  frm := W.frm
  stay := W.stay
  nd := W.nd
  slot := fun i s o h1 h2 => by
    have hi := (List.getElem?_eq_some_iff.mp h1).1
    have q := W.slot i s o (by rw [List.getElem?_append_left hi]; exact h1) (by rw [List.getElem?_append_left (by omega)]; exact h2)
    cases s with
    | un => trivial
    | fr d => exact q
    | mu d => exact q
    | mp j d => exact q
    | bw d => exact q
    | bo j =>
      obtain ⟨h0, h3, h4⟩ := q
      refine ⟨h0, ?_, h4⟩
      rw [List.getElem?_append_left (by omega)] at h3
      exact h3
  apart := fun i j p h1 h2 => by
    have key : ∀ (i : Nat), Own Δ S i p → Own (Δ ++ Ξ) (S ++ us) i p := fun i ⟨sl, e1, e2, e3⟩ =>
      ⟨sl, by rw [List.getElem?_append_left (List.getElem?_eq_some_iff.mp e1).1]; exact e1, e2, by rw [List.getElem?_append_left (List.getElem?_eq_some_iff.mp e3).1]; exact e3⟩
    exact W.apart i j p (key i h1) (key j h2)
end
end BR

/-! K3: operations by values, displays, tests, small statements -/
namespace BR
open PySem PySem.Spec PyProof.Rows L2

def VReps (K : PySem.W.Frag) (G H : Hp) : List D → List V → Prop
  | [], vs => vs = []
  | d :: ds, vs => ∃ v r, vs = v :: r ∧ VRep K G H d v ∧ VReps K G H ds r
/-- the data of several things at hand -/
def rds (δ : List Slot) : List Slot → Option (List D)
  | [] => some []
  | s :: r => match s.rd δ, rds δ r with
    | some d, some ds => some (d :: ds)
    | _, _ => none
theorem VReps.sub {K : PySem.W.Frag} {G G' H H' : Hp} (g : Sub G G') (s : Sub H H') : ∀ {ds : List D} {vs : List V}, VReps K G H ds vs → VReps K G' H' ds vs
  | [], _, h => h
  | d :: ds, _, h => by
    obtain ⟨v, r, e, h1, h2⟩ := h
    exact ⟨v, r, e, VRep.sub g s h1, VReps.sub g s h2⟩

section
variable {X : Cx} {en : Kn} {δ τ : List Slot} {R : Type} {C : Slot → List Slot → Res R → Prop} {m : Res R} {K : PySem.W.Frag}

/-- all of the last things at hand read -/
theorem Wd.reads {σ us : L2.St} {G H : Hp} {Δ2 : List Slot} (W : Wd K en (δ ++ Δ2) (σ ++ us) G H) (hl : δ.length = σ.length) : ∀ {sls : List Slot} {vs : List V} {ds : List D},
    (∀ (i : Nat) sl v, sls[i]? = some sl → vs[i]? = some v → SlotOk K en (σ ++ us) G H sl (some v)) → sls.length = vs.length → rds δ sls = some ds → VReps K G H ds vs
  | [], [], ds, _, _, h => by cases h; rfl
  | [], _ :: _, _, _, h, _ => nomatch h
  | _ :: _, [], _, _, h, _ => nomatch h
  | s :: sls, v :: vs, ds, q, hn, h => by
    unfold rds at h
    split at h
    · rename_i d ds' e1 e2
      cases h
      exact ⟨v, vs, rfl, W.read hl (q 0 s v rfl rfl) e1, Wd.reads W hl (fun i sl v h1 h2 => q (i + 1) sl v (by simpa using h1) (by simpa using h2)) (by simpa using hn) e2⟩
    · cases h
/-- the things at the end -/
theorem Wd.ends {σ ts : L2.St} {vs : List V} {G H : Hp} {sls : List Slot} {ds : List D} (W : Wd K en (δ ++ τ ++ sls) (σ ++ ts ++ vs.map some) G H) (hl : δ.length = σ.length) (ht : τ.length = ts.length) (r : rds δ sls = some ds) :
    VReps K G H ds vs ∧ (∀ hn : en.n ≤ σ.length, Wd K en (δ ++ τ) (σ ++ ts) G H) := by
  refine ⟨?_, fun hn => W.cut (by rw [List.length_append, List.length_append]; omega) (by rw [List.length_append]; omega)⟩
  have W' : Wd K en (δ ++ (τ ++ sls)) (σ ++ (ts ++ vs.map some)) G H := by rw [← List.append_assoc, ← List.append_assoc]; exact W
  refine W'.reads hl (fun i sl v h1 h2 => ?_) ?_ r
  · have hi := (List.getElem?_eq_some_iff.mp h1).1
    have hj := (List.getElem?_eq_some_iff.mp h2).1
    have e1 : (δ ++ τ ++ sls)[(δ ++ τ).length + i]? = some sl := by
      rw [List.getElem?_append_right (Nat.le_add_right _ _), Nat.add_sub_cancel_left]; exact h1
    have e2 : (σ ++ ts ++ vs.map some)[(δ ++ τ).length + i]? = some (some v) := by
      have z : (δ ++ τ).length = (σ ++ ts).length := by rw [List.length_append, List.length_append]; omega
      rw [z, List.getElem?_append_right (Nat.le_add_right _ _), Nat.add_sub_cancel_left, List.getElem?_map, h2]; rfl
    have := W.slot _ _ _ e1 e2
    rw [← List.append_assoc]
    exact this
  · have := W.len
    simp only [List.length_append, List.length_map] at this
    omega

/-! ### operations by values -/
def OpD (X : Cx) (f : Value → Value → Sem Value) (g : D → D → Option D) (rs : D → Slot) : Prop :=
  ∀ d1 d2 d, g d1 d2 = some d → ∀ (pins : List (Addr × Obj)) (s : Shared) (σ : L2.St) (G H : Hp) (v1 v2 : V) (u1 u2 : Value) (Q : VK), Inv X pins σ H s → Sub G H → VRep X.K G H d1 v1 → VRep X.K G H d2 v2 → RelV v1 u1 → RelV v2 u2 →
    (∀ v G' H', Grow G H G' H' → Out X.K G H G' H' (rs d) v → Q v H') → wpAny (model X.prog X.w) X.A (f u1 u2) (EP X pins σ Q) X.xe s
def UnD (X : Cx) (f : Value → Sem Value) (g : D → Option D) (rs : D → Slot) : Prop :=
  ∀ d1 d, g d1 = some d → ∀ (pins : List (Addr × Obj)) (s : Shared) (σ : L2.St) (G H : Hp) (v1 : V) (u1 : Value) (Q : VK), Inv X pins σ H s → Sub G H → VRep X.K G H d1 v1 → RelV v1 u1 →
    (∀ v G' H', Grow G H G' H' → Out X.K G H G' H' (rs d) v → Q v H') → wpAny (model X.prog X.w) X.A (f u1) (EP X pins σ Q) X.xe s
def IxD (X : Cx) (g : D → D → Option D) (rs : D → Slot) : Prop :=
  ∀ d1 d2 d, g d1 d2 = some d → ∀ (value slice : Expr) (pins : List (Addr × Obj)) (s : Shared) (σ : L2.St) (G H : Hp) (v1 v2 : V) (u1 u2 : Value) (Q : VK), Inv X pins σ H s → Sub G H → VRep X.K G H d1 v1 → VRep X.K G H d2 v2 → RelV v1 u1 → RelV v2 u2 →
    (∀ v G' H', Grow G H G' H' → Out X.K G H G' H' (rs d) v → Q v H') → subscripted slice false u1 u2 = operate [u1, u2] (getItem u1 u2) → wpAny (model X.prog X.w) X.A (subscriptTail value slice u1 u2) (EP X pins σ Q) X.xe s
def CallD (X : Cx) (f : Value) (g : List D → Option D) (rs : D → Slot) : Prop :=
  ∀ ds d, g ds = some d → ∀ (pins : List (Addr × Obj)) (s : Shared) (σ : L2.St) (G H : Hp) (vs : List V) (us : List Value) (Q : VK), Inv X pins σ H s → Sub G H → VReps X.K G H ds vs → Vals vs us →
    (∀ v G' H', Grow G H G' H' → Out X.K G H G' H' (rs d) v → Q v H') → wpAny (model X.prog X.w) X.A (call f us) (EP X pins σ Q) X.xe s
theorem opD_of {f : Value → Value → Sem Value} {r : R2} {g : D → D → Option D} {rs : D → Slot} (h : OpR X f r)
    (k : ∀ d1 d2 d, g d1 d2 = some d → ∀ (G H : Hp) (v1 v2 : V) (Q : VK), Sub G H → VRep X.K G H d1 v1 → VRep X.K G H d2 v2 → (∀ v G' H', Grow G H G' H' → Out X.K G H G' H' (rs d) v → Q v H') → r v1 v2 H Q) : OpD X f g rs :=
  fun d1 d2 d e pins s σ G H v1 v2 u1 u2 Q I sb r1 r2 q1 q2 hq => h pins s σ H v1 v2 u1 u2 Q I q1 q2 (k d1 d2 d e G H v1 v2 Q sb r1 r2 hq)
theorem unD_of {f : Value → Sem Value} {r : V → Hp → VK → Prop} {g : D → Option D} {rs : D → Slot} (h : UnR X f r)
    (k : ∀ d1 d, g d1 = some d → ∀ (G H : Hp) (v1 : V) (Q : VK), Sub G H → VRep X.K G H d1 v1 → (∀ v G' H', Grow G H G' H' → Out X.K G H G' H' (rs d) v → Q v H') → r v1 H Q) : UnD X f g rs :=
  fun d1 d e pins s σ G H v1 u1 Q I sb r1 q1 hq => h pins s σ H v1 u1 Q I q1 (k d1 d e G H v1 Q sb r1 hq)
theorem ixD_of {r : R2} {g : D → D → Option D} {rs : D → Slot} (h : IxR X r)
    (k : ∀ d1 d2 d, g d1 d2 = some d → ∀ (G H : Hp) (v1 v2 : V) (Q : VK), Sub G H → VRep X.K G H d1 v1 → VRep X.K G H d2 v2 → (∀ v G' H', Grow G H G' H' → Out X.K G H G' H' (rs d) v → Q v H') → r v1 v2 H Q) : IxD X g rs :=
  fun d1 d2 d e value slice pins s σ G H v1 v2 u1 u2 Q I sb r1 r2 q1 q2 hq hs => h value slice pins s σ H v1 v2 u1 u2 Q I q1 q2 (k d1 d2 d e G H v1 v2 Q sb r1 r2 hq) hs
theorem callD_of {f : Value} {r : List V → Hp → VK → Prop} {g : List D → Option D} {rs : D → Slot} (h : CallR X f r)
    (k : ∀ ds d, g ds = some d → ∀ (G H : Hp) (vs : List V) (Q : VK), Sub G H → VReps X.K G H ds vs → (∀ v G' H', Grow G H G' H' → Out X.K G H G' H' (rs d) v → Q v H') → r vs H Q) : CallD X f g rs :=
  fun ds d e pins s σ G H vs us Q I sb r1 q1 hq => h pins s σ H vs us Q I q1 (k ds d e G H vs Q sb r1 hq)

theorem op_some {α : Type} {o : Option α} {k : α → Res R} (h : op o k ≠ .bad) : ∃ a, o = some a := by
  cases o with
  | none => exact (h rfl).elim
  | some a => exact ⟨a, rfl⟩

/-- a op b -/
theorem bin_core {a b : Expr} {f : Value → Value → Sem Value} {g : D → D → Option D} {rs : D → Slot} {e : Expr} (ho : OpD X f g rs)
    (rule : ∀ {r : R2} {ta tb : TE}, OpR X f r → PE X a ta → PE X b tb → PE X e (tOp r ta tb))
    (ha : JE X en δ τ a (fun s1 δ1 m1 => JE X en δ1 (τ ++ [s1]) b (fun s2 δ2 m2 => ∃ d1 d2 k, s1.rd δ2 = some d1 ∧ s2.rd δ2 = some d2 ∧ m2 = op (g d1 d2) k ∧ ∀ d, g d1 d2 = some d → C (rs d) δ2 (k d)) m1) m) : JE X en δ τ e C m := .mk fun hb hx σ ts G H T hl hσ W k => by
  refine we_of (rule (r := fun x y H Q => ∀ (pins : List (Addr × Obj)) (s : Shared) (σ : L2.St) (u1 u2 : Value), Inv X pins σ H s → RelV x u1 → RelV y u2 → wpAny (model X.prog X.w) X.A (f u1 u2) (EP X pins σ Q) X.xe s)
    (fun pins s σ H x y v u Q I r1 r2 h => h pins s σ v u I r1 r2) pe_we pe_we) ?_
  have ht : τ.length = ts.length := W.splitLen (hl.trans hσ.symm)
  refine ha.run hb hx σ ts G H _ hl hσ W fun s1 δ1 v1 G1 H1 c1 hl1 W1 => ?_
  rw [List.append_assoc, List.append_assoc] at W1
  refine c1.run hb hx σ (ts ++ [some v1]) G1 H1 _ hl1 hσ W1 fun s2 δ2 v2 G2 H2 c2 hl2 W2 => ?_
  obtain ⟨d1, d2, k', e1, e2, em, hk⟩ := c2
  have hb' := hb
  rw [em] at hb'
  obtain ⟨d, ed⟩ := op_some hb'
  have em' : m = k' d := by rw [em, ed]; rfl
  have W3 : Wd X.K en (δ2 ++ τ ++ [s1, s2]) (σ ++ ts ++ [v1, v2].map some) G2 H2 := by
    have := W2
    simp only [List.append_assoc, List.map_cons, List.map_nil, List.cons_append, List.nil_append] at this ⊢
    exact this
  obtain ⟨⟨_, _, ez, r1, _, _, ez2, r2, ez3⟩, Wn⟩ := W3.ends (hl2.trans hσ.symm) ht (ds := [d1, d2]) (by simp only [rds, e1, e2])
  cases ez
  cases ez2
  intro pins s σ' u1 u2 I q1 q2
  refine ho d1 d2 d ed pins s σ' G2 H2 v1 v2 u1 u2 T I W2.sub r1 r2 q1 q2 fun v G' H' gr out => ?_
  refine k (rs d) δ2 v G' H' ?_ hl2 ((Wn (by omega)).out gr out)
  have := hk d ed
  rw [← em'] at this
  exact this
theorem je_bin {op' : Operator} {g : D → D → Option D} {rs : D → Slot} {a b : Expr} {pos : Pos} (ho : OpD X (binaryOp op') g rs)
    (ha : JE X en δ τ a (fun s1 δ1 m1 => JE X en δ1 (τ ++ [s1]) b (fun s2 δ2 m2 => ∃ d1 d2 k, s1.rd δ2 = some d1 ∧ s2.rd δ2 = some d2 ∧ m2 = op (g d1 d2) k ∧ ∀ d, g d1 d2 = some d → C (rs d) δ2 (k d)) m1) m) : JE X en δ τ (.BinOp a op' b pos) C m :=
  bin_core ho (fun h1 h2 h3 => pe_op h1 h2 h3) ha
/-- a comparison as a value -/
theorem je_cmp {op' : CmpOp} {g : D → D → Option D} {rs : D → Slot} {a b : Expr} {pos : Pos} (ho : OpD X (compareOp op') g rs) (hm : behindInMarks op' b = false)
    (ha : JE X en δ τ a (fun s1 δ1 m1 => JE X en δ1 (τ ++ [s1]) b (fun s2 δ2 m2 => ∃ d1 d2 k, s1.rd δ2 = some d1 ∧ s2.rd δ2 = some d2 ∧ m2 = op (g d1 d2) k ∧ ∀ d, g d1 d2 = some d → C (rs d) δ2 (k d)) m1) m) : JE X en δ τ (.Compare a [op'] [b] pos) C m :=
  bin_core ho (fun h1 h2 h3 => pe_cmpR h1 h2 h3 hm) ha
/-- a[b] -/
theorem je_ix {g : D → D → Option D} {rs : D → Slot} {a b : Expr} {pos : Pos} (ho : IxD X g rs) (hs : PlainIx b)
    (ha : JE X en δ τ a (fun s1 δ1 m1 => JE X en δ1 (τ ++ [s1]) b (fun s2 δ2 m2 => ∃ d1 d2 k, s1.rd δ2 = some d1 ∧ s2.rd δ2 = some d2 ∧ m2 = op (g d1 d2) k ∧ ∀ d, g d1 d2 = some d → C (rs d) δ2 (k d)) m1) m) : JE X en δ τ (.Subscript a b pos) C m := .mk fun hb hx σ ts G H T hl hσ W k => by
  refine we_of (pe_ix (r := fun x y H Q => ∀ (value slice : Expr) (pins : List (Addr × Obj)) (s : Shared) (σ : L2.St) (u1 u2 : Value), Inv X pins σ H s → RelV x u1 → RelV y u2 → subscripted slice false u1 u2 = operate [u1, u2] (getItem u1 u2) → wpAny (model X.prog X.w) X.A (subscriptTail value slice u1 u2) (EP X pins σ Q) X.xe s)
    (fun value slice pins s σ H x y v u Q I r1 r2 h hs => h value slice pins s σ v u I r1 r2 hs) pe_we pe_we hs) ?_
  have ht : τ.length = ts.length := W.splitLen (hl.trans hσ.symm)
  refine ha.run hb hx σ ts G H _ hl hσ W fun s1 δ1 v1 G1 H1 c1 hl1 W1 => ?_
  rw [List.append_assoc, List.append_assoc] at W1
  refine c1.run hb hx σ (ts ++ [some v1]) G1 H1 _ hl1 hσ W1 fun s2 δ2 v2 G2 H2 c2 hl2 W2 => ?_
  obtain ⟨d1, d2, k', e1, e2, em, hk⟩ := c2
  have hb' := hb
  rw [em] at hb'
  obtain ⟨d, ed⟩ := op_some hb'
  have em' : m = k' d := by rw [em, ed]; rfl
  have W3 : Wd X.K en (δ2 ++ τ ++ [s1, s2]) (σ ++ ts ++ [v1, v2].map some) G2 H2 := by
    have := W2
    simp only [List.append_assoc, List.map_cons, List.map_nil, List.cons_append, List.nil_append] at this ⊢
    exact this
  obtain ⟨⟨_, _, ez, r1, _, _, ez2, r2, ez3⟩, Wn⟩ := W3.ends (hl2.trans hσ.symm) ht (ds := [d1, d2]) (by simp only [rds, e1, e2])
  cases ez
  cases ez2
  intro value slice pins s σ' u1 u2 I q1 q2 hs
  refine ho d1 d2 d ed value slice pins s σ' G2 H2 v1 v2 u1 u2 T I W2.sub r1 r2 q1 q2 (fun v G' H' gr out => ?_) hs
  refine k (rs d) δ2 v G' H' ?_ hl2 ((Wn (by omega)).out gr out)
  have := hk d ed
  rw [← em'] at this
  exact this
theorem je_un {op' : UnaryOp} {g : D → Option D} {rs : D → Slot} {a : Expr} {pos : Pos} (ho : UnD X (unaryOp op') g rs)
    (ha : JE X en δ τ a (fun s1 δ1 m1 => ∃ d1 k, s1.rd δ1 = some d1 ∧ m1 = op (g d1) k ∧ ∀ d, g d1 = some d → C (rs d) δ1 (k d)) m) : JE X en δ τ (.UnaryOp op' a pos) C m := .mk fun hb hx σ ts G H T hl hσ W k => by
  refine we_of (pe_un (r := fun x H Q => ∀ (pins : List (Addr × Obj)) (s : Shared) (σ : L2.St) (u1 : Value), Inv X pins σ H s → RelV x u1 → wpAny (model X.prog X.w) X.A (unaryOp op' u1) (EP X pins σ Q) X.xe s)
    (fun pins s σ H x v Q I r1 h => h pins s σ v I r1) pe_we) ?_
  have ht : τ.length = ts.length := W.splitLen (hl.trans hσ.symm)
  refine ha.run hb hx σ ts G H _ hl hσ W fun s1 δ1 v1 G1 H1 c1 hl1 W1 => ?_
  obtain ⟨d1, k', e1, em, hk⟩ := c1
  have hb' := hb
  rw [em] at hb'
  obtain ⟨d, ed⟩ := op_some hb'
  have em' : m = k' d := by rw [em, ed]; rfl
  have W3 : Wd X.K en (δ1 ++ τ ++ [s1]) (σ ++ ts ++ [v1].map some) G1 H1 := W1
  obtain ⟨⟨_, _, ez, r1, _⟩, Wn⟩ := W3.ends (hl1.trans hσ.symm) ht (ds := [d1]) (by simp only [rds, e1])
  cases ez
  intro pins s σ' u1 I q1
  refine ho d1 d ed pins s σ' G1 H1 v1 u1 T I W1.sub r1 q1 fun v G' H' gr out => ?_
  refine k (rs d) δ1 v G' H' ?_ hl1 ((Wn (by omega)).out gr out)
  have := hk d ed
  rw [← em'] at this
  exact this

/-! ### arguments -/
theorem ja_nil {C : List Slot → List Slot → Res R → Prop} (h : C [] δ m) : JA X en δ τ [] C m := .mk fun hb hx σ ts G H T hl hσ W k =>
  wa_of pa_nil (k [] δ [] G H h hl (by rw [List.map_nil, List.append_nil, List.append_nil]; exact W))
theorem ja_cons {e : Expr} {es : List Expr} {C : List Slot → List Slot → Res R → Prop}
    (h : JE X en δ τ e (fun s1 δ1 m1 => JA X en δ1 (τ ++ [s1]) es (fun sls δ2 m2 => C (s1 :: sls) δ2 m2) m1) m) (hs : starEach (e :: es) X.env = (false, eval e X.env) :: starEach es X.env := by exact star_plain rfl) : JA X en δ τ (e :: es) C m := .mk fun hb hx σ ts G H T hl hσ W k => by
  refine wa_of (pa_cons pe_we pa_wa hs) ?_
  refine h.run hb hx σ ts G H _ hl hσ W fun s1 δ1 v1 G1 H1 c1 hl1 W1 => ?_
  rw [List.append_assoc, List.append_assoc] at W1
  refine c1.run hb hx σ (ts ++ [some v1]) G1 H1 _ hl1 hσ W1 fun sls δ2 vs G2 H2 c2 hl2 W2 => ?_
  refine k (s1 :: sls) δ2 (v1 :: vs) G2 H2 c2 hl2 ?_
  have := W2
  simp only [List.append_assoc, List.map_cons, List.cons_append, List.nil_append] at this ⊢
  exact this

/-! ### what is put among what stands fast -/
/-- a list of one's own is from now on one that stands fast -/
theorem Wd.fast {Δ : List Slot} {S : L2.St} {G H : Hp} (W : Wd K en Δ S G H) {i : Nat} {d : D} (h : Δ[i]? = some (.mu d)) : ∃ G', Wd K en (Δ.set i (.fr d)) S G' H ∧ Sub G G' := by
  obtain ⟨o, h1, p, e, n, f, f2, r⟩ := W.at h
  subst e
  obtain ⟨ob, ho⟩ := r.ex
  have hi := (List.getElem?_eq_some_iff.mp h).1
  have other : ∀ (j : Nat) sl, (Δ.set i (.fr d))[j]? = some sl → j ≠ i → Δ[j]? = some sl := fun j sl h3 hj => by
    rw [List.getElem?_set_ne (Ne.symm hj)] at h3; exact h3
  have nm : ∀ (j : Nat) d2 q, (Δ.set i (.fr d))[j]? = some (.mu d2) → S[j]? = some (some (V.ref q)) → j ≠ i ∧ Δ[j]? = some (.mu d2) ∧ q ≠ p := fun j d2 q h3 h4 => by
    have hj : j ≠ i := fun z => by
      subst z
      rw [List.getElem?_set_self hi] at h3; cases h3
    exact ⟨hj, other j _ h3 hj, fun z => by subst z; exact hj (W.apart j i q ⟨_, other j _ h3 hj, rfl, h4⟩ ⟨_, h, rfl, h1⟩)⟩
  refine ⟨upd G p ob, ⟨by rw [List.length_set]; exact W.len, fun a u e => ?_, W.ext.trans (Sub.upd n), fun a u e => ?_, W.frm, W.stay, W.nd, fun j sl u h3 h4 => ?_, fun j j' q h3 h4 => ?_⟩, Sub.upd n⟩
  · by_cases ha : a = p
    · subst ha; rw [upd_same] at e; cases e; exact ho
    · rw [upd_ne ha] at e; exact W.sub a u e
  · by_cases ha : a = p
    · subst ha; exact .inr ⟨f, f2⟩
    · rw [upd_ne ha] at e; exact W.new a u e
  · by_cases hj : j = i
    · subst hj
      rw [List.getElem?_set_self hi] at h3
      cases h3
      rw [h1] at h4
      cases h4
      exact ⟨_, rfl, r.freeze ho n⟩
    · have q := W.slot j sl u (other j sl h3 hj) h4
      cases sl with
      | un => trivial
      | fr d2 => obtain ⟨v, e, q⟩ := q; exact ⟨v, e, Rep.sub (Sub.upd n) _ _ q⟩
      | mu d2 =>
        obtain ⟨q1, e, n1, x1, x2, r1⟩ := q
        subst e
        obtain ⟨_, _, ne⟩ := nm j d2 q1 h3 h4
        exact ⟨q1, rfl, by rw [upd_ne ne]; exact n1, x1, x2, r1.keep (Sub.upd n) fun _ z => z⟩
      | mp l d2 =>
        obtain ⟨q1, e, x0, n1, x1, r1⟩ := q
        have ne : q1 ≠ p := fun z => by subst z; exact f2 (List.mem_of_getElem? x0)
        exact ⟨q1, e, x0, by rw [upd_ne ne]; exact n1, x1, r1.keep (Sub.upd n) fun _ z => z⟩
      | bw d2 => obtain ⟨v, e, q⟩ := q; exact ⟨v, e, BRep.sub (Sub.upd n) (Sub.refl _) q⟩
      | bo l => exact q
  · have key : ∀ (j : Nat), Own (Δ.set i (.fr d)) S j q → Own Δ S j q := fun j ⟨sl, e1, e2, e3⟩ => by
      refine ⟨sl, other j sl e1 fun z => ?_, e2, e3⟩
      subst z
      rw [List.getElem?_set_self hi] at e1
      cases e1; cases e2
    exact W.apart j j' q (key j h3) (key j' h4)
/-- a slot told less of -/
theorem Wd.forget {Δ : List Slot} {S : L2.St} {G H : Hp} (W : Wd K en Δ S G H) (i : Nat) : Wd K en (Δ.set i .un) S G H where
  len := by rw [List.length_set]; exact W.len
  sub := W.sub
  ext := W.ext
  new := W.new
  frm := W.frm
  stay := W.stay
  nd := W.nd
  slot := fun j sl u h3 h4 => by
    by_cases hj : j = i
    · subst hj
      have hi : j < Δ.length := by
        have := (List.getElem?_eq_some_iff.mp h3).1
        rw [List.length_set] at this; exact this
      rw [List.getElem?_set_self hi] at h3
      cases h3
      trivial
    · rw [List.getElem?_set_ne (Ne.symm hj)] at h3
      exact W.slot j sl u h3 h4
  apart := fun j j' q h3 h4 => by
    have key : ∀ (j : Nat), Own (Δ.set i .un) S j q → Own Δ S j q := fun j ⟨sl, e1, e2, e3⟩ => by
      refine ⟨sl, ?_, e2, e3⟩
      by_cases hj : j = i
      · subst hj
        have hi : j < Δ.length := by
          have := (List.getElem?_eq_some_iff.mp e1).1
          rw [List.length_set] at this; exact this
        rw [List.getElem?_set_self hi] at e1; cases e1; cases e2
      · rw [List.getElem?_set_ne (Ne.symm hj)] at e1; exact e1
    exact W.apart j j' q (key j h3) (key j' h4)
/-- what stands at hand last, put fast: e is followed by C of what stands fast -/
def Slot.fz : Slot → Slot
  | .mu d => .fr d
  | s => s
theorem je_fz {e : Expr} (h : JE X en δ τ e (fun s1 δ1 m1 => C s1.fz δ1 m1) m) : JE X en δ τ e C m := .mk fun hb hx σ ts G H T hl hσ W k => by
  refine h.run hb hx σ ts G H T hl hσ W fun sl δ' v G' H' c hl' W' => ?_
  cases sl with
  | mu d =>
    obtain ⟨G2, W2, _⟩ := W'.fast (i := (δ' ++ τ).length) (d := d) getElem?_last
    refine k (.fr d) δ' v G2 H' c hl' ?_
    rw [List.set_append_right _ _ (Nat.le_refl _), Nat.sub_self] at W2
    exact W2
  | un => exact k _ δ' v G' H' c hl' W'
  | fr d => exact k _ δ' v G' H' c hl' W'
  | mp j d => exact k _ δ' v G' H' c hl' W'
  | bw d => exact k _ δ' v G' H' c hl' W'
  | bo i => exact k _ δ' v G' H' c hl' W'
/-- a name's own list put fast, and told -/
theorem je_fzv (i : Nat) {x : Str} {pos : Pos} {d : D} (hs : δ[i]? = some (.mu d)) (h : C (.fr d) (δ.set i (.fr d)) m) (hN : X.N[i]? = some x := by rfl) (hv : Vis X.env.scope x := by first | exact Or.inl rfl | exact Or.inr (Or.inl rfl) | exact Or.inr (Or.inr rfl))
    (hd : (x == ("__debug__" : Str)) = false := by decide) (hcd : (x == ("__classdict__" : Str)) = false := by decide) : JE X en δ τ (.Name x pos) C m := .mk fun hb hx σ ts G H T hl hσ W k => by
  have hi := (List.getElem?_eq_some_iff.mp hs).1
  obtain ⟨G2, W2, _⟩ := W.fast (i := i) (d := d) (by rw [List.getElem?_append_left hi]; exact hs)
  rw [List.set_append_left _ _ hi] at W2
  have hl2 : (δ.set i (.fr d)).length = en.n := by rw [List.length_set]; exact hl
  obtain ⟨o, h1, v, e, q⟩ := W2.name (hl2.trans hσ.symm) (i := i) (sl := .fr d) (by rw [List.getElem?_set_self hi])
  subst e
  exact we_of (pe_var hN hv hd hcd) ⟨v, h1, k _ _ v G2 H h hl2 (W2.out (Grow.refl W2.sub) q)⟩
/-- a name's own list, told as a new one; the name is not known any more -/
theorem je_mv (i : Nat) {x : Str} {pos : Pos} {d : D} (hs : δ[i]? = some (.mu d)) (h : C (.mu d) (δ.set i .un) m) (hN : X.N[i]? = some x := by rfl) (hv : Vis X.env.scope x := by first | exact Or.inl rfl | exact Or.inr (Or.inl rfl) | exact Or.inr (Or.inr rfl))
    (hd : (x == ("__debug__" : Str)) = false := by decide) (hcd : (x == ("__classdict__" : Str)) = false := by decide) : JE X en δ τ (.Name x pos) C m := .mk fun hb hx σ ts G H T hl hσ W k => by
  have hi := (List.getElem?_eq_some_iff.mp hs).1
  have hs' : (δ ++ τ)[i]? = some (.mu d) := by rw [List.getElem?_append_left hi]; exact hs
  obtain ⟨o, h1, p, e, q⟩ := W.name (hl.trans hσ.symm) hs
  subst e
  have W2 := W.forget i
  rw [List.set_append_left _ _ hi] at W2
  have hl2 : (δ.set i .un).length = en.n := by rw [List.length_set]; exact hl
  refine we_of (pe_var hN hv hd hcd) ⟨_, h1, k _ _ _ G H h hl2 (W2.more ⟨p, rfl, q⟩ fun p2 j e1 e2 h3 => ?_)⟩
  cases e2
  have hσi : (σ ++ ts)[i]? = some (some (V.ref p)) := by rw [List.getElem?_append_left (List.getElem?_eq_some_iff.mp h1).1]; exact h1
  obtain ⟨sl, e4, e5, e6⟩ := h3
  by_cases hj : j = i
  · subst hj
    rw [List.getElem?_append_left (by rw [List.length_set]; exact hi), List.getElem?_set_self hi] at e4
    cases e4; cases e5
  · have h3' : (δ ++ τ)[j]? = some sl := by
      rw [← List.set_append_left _ _ hi, List.getElem?_set_ne (Ne.symm hj)] at e4
      exact e4
    exact hj (W.apart j i p ⟨sl, h3', e5, e6⟩ ⟨_, hs', rfl, hσi⟩)
end
end BR

/-! K4: displays, calls of what is built in, tests, and, or, not, joins -/
namespace BR
open PySem PySem.Spec PyProof.Rows L2

/-- the data of things that stand fast -/
def frs : List Slot → Option (List D)
  | [] => some []
  | .fr d :: r => (frs r).map (d :: ·)
  | _ :: _ => none

section
variable {X : Cx} {en : Kn} {δ τ : List Slot} {R : Type} {C : Slot → List Slot → Res R → Prop} {m : Res R} {K : PySem.W.Frag}

theorem Wd.frs {Δ : List Slot} {S : L2.St} {G H : Hp} : ∀ {sls : List Slot} {vs : List V} {ds : List D}, (∀ (i : Nat) sl v, sls[i]? = some sl → vs[i]? = some v → SlotOk K en S G H sl (some v)) → sls.length = vs.length → BR.frs sls = some ds → Reps K G ds vs
  | [], [], ds, _, _, h => by cases h; rfl
  | [], _ :: _, _, _, h, _ => nomatch h
  | _ :: _, [], _, _, h, _ => nomatch h
  | .fr d :: sls, v :: vs, ds, q, hn, h => by
    unfold BR.frs at h
    obtain ⟨ds', h1, h2⟩ := Option.map_eq_some_iff.mp h
    subst h2
    obtain ⟨v', e, r⟩ := q 0 _ v rfl rfl
    cases e
    exact ⟨v, vs, rfl, r, Wd.frs (Δ := Δ) (S := S) (H := H) (fun i sl v h3 h4 => q (i + 1) sl v (by simpa using h3) (by simpa using h4)) (by simpa using hn) h1⟩
  | .un :: _, _ :: _, _, _, _, h => by cases h
  | .mu _ :: _, _ :: _, _, _, _, h => by cases h
  | .mp _ _ :: _, _ :: _, _, _, _, h => by cases h
  | .bw _ :: _, _ :: _, _, _, _, h => by cases h
  | .bo _ :: _, _ :: _, _, _, _, h => by cases h
/-- the slots of the things at the end -/
theorem Wd.endSlots {σ ts : L2.St} {vs : List V} {G H : Hp} {sls : List Slot} (W : Wd K en (δ ++ τ ++ sls) (σ ++ ts ++ vs.map some) G H) (hl : δ.length = σ.length) (ht : τ.length = ts.length) :
    sls.length = vs.length ∧ ∀ (i : Nat) sl v, sls[i]? = some sl → vs[i]? = some v → SlotOk K en (σ ++ ts ++ vs.map some) G H sl (some v) := by
  refine ⟨?_, fun i sl v h1 h2 => ?_⟩
  · have := W.len
    simp only [List.length_append, List.length_map] at this
    omega
  · have e1 : (δ ++ τ ++ sls)[(δ ++ τ).length + i]? = some sl := by
      rw [List.getElem?_append_right (Nat.le_add_right _ _), Nat.add_sub_cancel_left]; exact h1
    have e2 : (σ ++ ts ++ vs.map some)[(δ ++ τ).length + i]? = some (some v) := by
      have z : (δ ++ τ).length = (σ ++ ts).length := by rw [List.length_append, List.length_append]; omega
      rw [z, List.getElem?_append_right (Nat.le_add_right _ _), Nat.add_sub_cancel_left, List.getElem?_map, h2]; rfl
    exact W.slot _ _ _ e1 e2

/-- a new thing laid that stands fast -/
theorem Wd.laidF {Δ : List Slot} {S : L2.St} {G H : Hp} (W : Wd K en Δ S G H) {p : Addr} {o : HO} (hp : H p = none) {d : D} (r : ∀ G', Sub G G' → G' p = some o → Rep K G' d (.ref p)) :
    Wd K en (Δ ++ [.fr d]) (S ++ [some (.ref p)]) (upd G p o) (upd H p o) := by
  have hg := (W.fresh hp).1
  refine W.out ⟨Sub.upd hg, Sub.upd hp, fun a u e => ?_, fun a u e => ?_⟩ (r _ (Sub.upd hg) upd_same)
  · by_cases ha : a = p
    · subst ha; rw [upd_same] at e ⊢; exact e
    · rw [upd_ne ha] at e ⊢; exact W.sub a u e
  · by_cases ha : a = p
    · subst ha; exact .inr hp
    · rw [upd_ne ha] at e; exact .inl e
/-- a tuple written -/
theorem je_tup {es : List Expr} {x1} {pos : Pos} (h : JA X en δ τ es (fun sls δ1 m1 => ∃ ds, frs sls = some ds ∧ sls.length.ble 1000 = true ∧ C (.fr (.tup ds)) δ1 m1) m) : JE X en δ τ (.Tuple es x1 pos) C m := .mk fun hb hx σ ts G H T hl hσ W k => by
  refine we_of (pe_tup pa_wa) ?_
  have ht : τ.length = ts.length := W.splitLen (hl.trans hσ.symm)
  refine h.run hb hx σ ts G H _ hl hσ W fun sls δ1 vs G1 H1 c1 hl1 W1 => ?_
  obtain ⟨ds, e, hz, c⟩ := c1
  obtain ⟨hn, q⟩ := W1.endSlots (hl1.trans hσ.symm) ht
  have hr : Reps X.K G1 ds vs := Wd.frs (Δ := δ) (H := H1) q hn e
  refine ⟨Nat.le_of_lt (small1000 (hn ▸ Nat.le_of_ble_eq_true hz)), fun p hp => ?_⟩
  have W2 := W1.cut (Δ := δ1 ++ τ) (S := σ ++ ts) (by rw [List.length_append, List.length_append]; omega) (by rw [List.length_append]; omega)
  exact k _ δ1 (.ref p) _ _ c hl1 (W2.laidF hp fun G' s e => ⟨p, vs, rfl, .inl (.inl e), Reps.sub s _ _ hr⟩)
/-- a list written: a new one -/
theorem je_lst {es : List Expr} {pos : Pos} (h : JA X en δ τ es (fun sls δ1 m1 => ∃ ds, frs sls = some ds ∧ sls.length.ble 1000 = true ∧ C (.mu (.lst ds)) δ1 m1) m) : JE X en δ τ (.List es pos) C m := .mk fun hb hx σ ts G H T hl hσ W k => by
  refine we_of (pe_lst pa_wa) ?_
  have ht : τ.length = ts.length := W.splitLen (hl.trans hσ.symm)
  refine h.run hb hx σ ts G H _ hl hσ W fun sls δ1 vs G1 H1 c1 hl1 W1 => ?_
  obtain ⟨ds, e, hz, c⟩ := c1
  obtain ⟨hn, q⟩ := W1.endSlots (hl1.trans hσ.symm) ht
  have hr : Reps X.K G1 ds vs := Wd.frs (Δ := δ) (H := H1) q hn e
  refine ⟨Nat.le_of_lt (small1000 (hn ▸ Nat.le_of_ble_eq_true hz)), fun p hp => ?_⟩
  have W2 := W1.cut (Δ := δ1 ++ τ) (S := σ ++ ts) (by rw [List.length_append, List.length_append]; omega) (by rw [List.length_append]; omega)
  have hg := (W2.fresh hp).1
  exact k _ δ1 (.ref p) G1 _ c hl1 (W2.out (Grow.laid W2.sub hp) ⟨p, rfl, hp, hg, vs, upd_same, hr⟩)

/-! ### what is built in -/
theorem call_core {e : Expr} {es : List Expr} {f : Value} {g : List D → Option D} {rs : D → Slot} (hc : CallD X f g rs) (rule : ∀ {r : List V → Hp → VK → Prop} {t : TA}, CallR X f r → PA X es t → PE X e (tCB r t))
    (h : JA X en δ τ es (fun sls δ1 m1 => ∃ ds k, rds δ1 sls = some ds ∧ m1 = op (g ds) k ∧ ∀ d, g ds = some d → C (rs d) δ1 (k d)) m) : JE X en δ τ e C m := .mk fun hb hx σ ts G H T hl hσ W k => by
  refine we_of (rule (r := fun vs H Q => ∀ (pins : List (Addr × Obj)) (s : Shared) (σ : L2.St) (us : List Value), Inv X pins σ H s → Vals vs us → wpAny (model X.prog X.w) X.A (call f us) (EP X pins σ Q) X.xe s)
    (fun pins s σ H xs us Q I r1 h => h pins s σ us I r1) pa_wa) ?_
  have ht : τ.length = ts.length := W.splitLen (hl.trans hσ.symm)
  refine h.run hb hx σ ts G H _ hl hσ W fun sls δ1 vs G1 H1 c1 hl1 W1 => ?_
  obtain ⟨ds, k', e1, em, hk⟩ := c1
  have hb' := hb
  rw [em] at hb'
  obtain ⟨d, ed⟩ := op_some hb'
  have em' : m = k' d := by rw [em, ed]; rfl
  obtain ⟨r1, Wn⟩ := W1.ends (hl1.trans hσ.symm) ht e1
  intro pins s σ' us I q1
  refine hc ds d ed pins s σ' G1 H1 vs us T I W1.sub r1 q1 fun v G' H' gr out => ?_
  refine k (rs d) δ1 v G' H' ?_ hl1 ((Wn (by omega)).out gr out)
  have := hk d ed
  rw [← em'] at this
  exact this
/-- f(..), a built-in function -/
theorem je_callB {x : Str} {p pos : Pos} {e : Expr} {es : List Expr} {id : String} {g : List D → Option D} {rs : D → Slot} (hc : CallD X (.builtin id) g rs) (hm : X.mg x = none)
    (h : JA X en δ τ (e :: es) (fun sls δ1 m1 => ∃ ds k, rds δ1 sls = some ds ∧ m1 = op (g ds) k ∧ ∀ d, g ds = some d → C (rs d) δ1 (k d)) m) (hv : bootBuiltins x = some (.builtin id) := by decide +kernel) (hg : Gl X x := by rfl)
    (hn : x ≠ "__name__" := by decide) (hdb : (x == ("__debug__" : Str)) = false := by decide)
    (he : starEach (e :: es) X.env = (false, eval e X.env) :: starEach es X.env := by exact star_plain rfl) (hpl : (backTo pos (starEach es X.env)).any (·.1) = false := by rfl) : JE X en δ τ (.Call (.Name x p) (e :: es) [] pos) C m :=
  call_core hc (fun h1 h2 => pe_callB h1 hg hm hv h2 hn hdb he hpl) h
/-! ### comparisons and tests -/
def CmpD (X : Cx) (f : Value → Value → Sem Value) (g : D → D → Option Bool) : Prop := OpD X f (fun a b => (g a b).map D.bl) Slot.fr
def kB {R : Type} (k : Bool → Res R) : D → Res R
  | .bl b => k b
  | _ => .bad
theorem op_kB {o : Option Bool} {k : Bool → Res R} : op o k = op (o.map D.bl) (kB k) := by cases o <;> rfl
/-- a comparison as a value -/
theorem je_cmpB {op' : CmpOp} {g : D → D → Option Bool} {a b : Expr} {pos : Pos} (ho : CmpD X (compareOp op') g) (hm : behindInMarks op' b = false)
    (ha : JE X en δ τ a (fun s1 δ1 m1 => JE X en δ1 (τ ++ [s1]) b (fun s2 δ2 m2 => ∃ d1 d2 k, s1.rd δ2 = some d1 ∧ s2.rd δ2 = some d2 ∧ m2 = op (g d1 d2) k ∧ ∀ d, C (.fr (.bl d)) δ2 (k d)) m1) m) : JE X en δ τ (.Compare a [op'] [b] pos) C m := by
  refine je_cmp ho hm (.mk fun hb hx σ ts G H T hl hσ W k => ha.run hb hx σ ts G H T hl hσ W fun s1 δ1 v1 G1 H1 c1 hl1 W1 => k s1 δ1 v1 G1 H1 ?_ hl1 W1)
  refine .mk fun hb hx σ ts G H T hl hσ W k => c1.run hb hx σ ts G H T hl hσ W fun s2 δ2 v2 G2 H2 c2 hl2 W2 => k s2 δ2 v2 G2 H2 ?_ hl2 W2
  obtain ⟨d1, d2, k', e1, e2, em, hk⟩ := c2
  refine ⟨d1, d2, kB k', e1, e2, em.trans op_kB, fun d ed => ?_⟩
  obtain ⟨b, _, eb⟩ := Option.map_eq_some_iff.mp ed
  subst eb
  exact hk b
/-- an expression whose value is True or False, as a test -/
theorem jt_of {C : Bool → List Slot → Res R → Prop} {e : Expr} (rule : PT X e (fun σ H Q => WE X e σ H fun x H' => ∃ k, TruV X.K x H' k ∧ Q k H'))
    (h : JE X en δ τ e (fun s1 δ1 m1 => ∃ b, s1 = .fr (.bl b) ∧ C b δ1 m1) m) : JT X en δ τ e C m := .mk fun hb hx σ ts G H T hl hσ W k => by
  refine wt_of rule ?_
  have ht : τ.length = ts.length := W.splitLen (hl.trans hσ.symm)
  refine h.run hb hx σ ts G H _ hl hσ W fun s1 δ1 v1 G1 H1 c1 hl1 W1 => ?_
  obtain ⟨b, e1, c⟩ := c1
  subst e1
  obtain ⟨v, e, r⟩ := W1.last
  cases e
  have r' : v1 = .bl b := r
  subst r'
  exact ⟨b, rfl, k b δ1 G1 H1 c hl1 (W1.cut (Δ := δ1 ++ τ) (S := σ ++ ts) (by rw [List.length_append, List.length_append]; omega) (by rw [List.length_append]; omega))⟩
/-- a comparison as a test -/
theorem jt_cmp {op' : CmpOp} {g : D → D → Option Bool} {a b : Expr} {pos : Pos} {C : Bool → List Slot → Res R → Prop} (ho : CmpD X (compareOp op') g) (hm : behindInMarks op' b = false)
    (ha : JE X en δ τ a (fun s1 δ1 m1 => JE X en δ1 (τ ++ [s1]) b (fun s2 δ2 m2 => ∃ d1 d2 k, s1.rd δ2 = some d1 ∧ s2.rd δ2 = some d2 ∧ m2 = op (g d1 d2) k ∧ ∀ d, C d δ2 (k d)) m1) m) : JT X en δ τ (.Compare a [op'] [b] pos) C m := by
  have h : JE X en δ τ (.Compare a [op'] [b] pos) (fun s1 δ1 m1 => ∃ b, s1 = .fr (.bl b) ∧ C b δ1 m1) m := by
    refine je_cmpB ho hm (.mk fun hb hx σ ts G H T hl hσ W k => ha.run hb hx σ ts G H T hl hσ W fun s1 δ1 v1 G1 H1 c1 hl1 W1 => k s1 δ1 v1 G1 H1 ?_ hl1 W1)
    refine .mk fun hb hx σ ts G H T hl hσ W k => c1.run hb hx σ ts G H T hl hσ W fun s2 δ2 v2 G2 H2 c2 hl2 W2 => k s2 δ2 v2 G2 H2 ?_ hl2 W2
    obtain ⟨d1, d2, k', e1, e2, em, hk⟩ := c2
    exact ⟨d1, d2, k', e1, e2, em, fun b => ⟨b, rfl, hk b⟩⟩
  refine .mk fun hb hx σ ts G H T hl hσ W k => ?_
  have ht : τ.length = ts.length := W.splitLen (hl.trans hσ.symm)
  refine wt_of (pt_cmpR (r := fun x y H Q => ∀ (pins : List (Addr × Obj)) (s : Shared) (σ : L2.St) (u1 u2 : Value), Inv X pins σ H s → RelV x u1 → RelV y u2 → wpAny (model X.prog X.w) X.A (compareOp op' u1 u2) (EP X pins σ Q) X.xe s)
    (fun pins s σ H x y v u Q I r1 r2 h => h pins s σ v u I r1 r2) pe_we pe_we hm) ?_
  refine ha.run hb hx σ ts G H _ hl hσ W fun s1 δ1 v1 G1 H1 c1 hl1 W1 => ?_
  rw [List.append_assoc, List.append_assoc] at W1
  refine c1.run hb hx σ (ts ++ [some v1]) G1 H1 _ hl1 hσ W1 fun s2 δ2 v2 G2 H2 c2 hl2 W2 => ?_
  obtain ⟨d1, d2, k', e1, e2, em, hk⟩ := c2
  have hb' := hb
  rw [em] at hb'
  obtain ⟨d, ed⟩ := op_some hb'
  have em' : m = k' d := by rw [em, ed]; rfl
  have W3 : Wd X.K en (δ2 ++ τ ++ [s1, s2]) (σ ++ ts ++ [v1, v2].map some) G2 H2 := by
    have := W2
    simp only [List.append_assoc, List.map_cons, List.map_nil, List.cons_append, List.nil_append] at this ⊢
    exact this
  obtain ⟨⟨_, _, ez, r1, _, _, ez2, r2, ez3⟩, Wn⟩ := W3.ends (hl2.trans hσ.symm) ht (ds := [d1, d2]) (by simp only [rds, e1, e2])
  cases ez
  cases ez2
  intro pins s σ' u1 u2 I q1 q2
  refine ho d1 d2 (.bl d) (by show (g d1 d2).map D.bl = _; rw [ed]; rfl) pins s σ' G2 H2 v1 v2 u1 u2 _ I W2.sub r1 r2 q1 q2 fun v G' H' gr out => ?_
  have out' : v = .bl d := out
  subst out'
  refine ⟨d, rfl, k d δ2 G' H' ?_ hl2 ((Wn (by omega)).grow gr)⟩
  have := hk d
  rw [← em'] at this
  exact this
/-- truth of data -/
def truD : D → Option Bool
  | .non => some false
  | .bl b => some b
  | .int i => some (i != 0)
  | .str x => if x.length ≤ sizeLine then some ((x.length : Int) != 0) else none
  | .lst xs => some (!xs.isEmpty)
  | .tup xs => some (!xs.isEmpty)
  | .dic xs => some (!xs.isEmpty)
  | .scr xs => some (!xs.isEmpty)
  | .exc _ _ => none
  | .obj _ _ => none
theorem Reps.emp {G : Hp} : ∀ {ds : List D} {vs : List V}, Reps K G ds vs → ds.isEmpty = vs.isEmpty
  | [], _, h => by rw [show _ = [] from h]; rfl
  | _ :: _, _, h => by obtain ⟨_, _, e, _⟩ := h; rw [e]; rfl
theorem RepKs.emp {G : Hp} : ∀ {ds : List (Key × D)} {vs : List (Key × V)}, RepKs K G ds vs → ds.isEmpty = vs.isEmpty
  | [], _, h => by rw [show _ = [] from h]; rfl
  | (_, _) :: _, _, h => by obtain ⟨_, _, e, _⟩ := h; rw [e]; rfl
theorem tru_v {G H : Hp} : ∀ {d : D} {v : V} {b : Bool}, truD d = some b → VRep K G H d v → TruV K v H b
  | .non, v, b, h, r => by
    have r' : v = .non := r
    subst r'; cases h; rfl
  | .bl c, v, b, h, r => by
    have r' : v = .bl c := r
    subst r'; cases h; rfl
  | .int c, v, b, h, r => by
    have r' : v = .int c := r
    subst r'; cases h; rfl
  | .str c, v, b, h, r => by
    have r' : v = .str c := r
    subst r'
    have h' : (if c.length ≤ sizeLine then some ((c.length : Int) != 0) else none) = some b := h
    by_cases hz : c.length ≤ sizeLine
    · rw [if_pos hz] at h'
      cases h'; exact ⟨hz, rfl⟩
    · rw [if_neg hz] at h'
      cases h'
  | .lst xs, v, b, h, r => by
    obtain ⟨a, vs, e, q, r'⟩ := r
    subst e
    cases h
    exact .inl ⟨vs, SqL.of q, by rw [r'.emp]⟩
  | .exc _ _, _, _, h, _ => by cases h
  | .obj _ _, _, _, h, _ => by cases h
  | .scr xs, v, b, h, r => by
    obtain ⟨a, e, q⟩ := r
    subst e
    cases h
    exact .inl ⟨_, q, by cases xs <;> rfl⟩
  | .tup xs, v, b, h, r => by
    obtain ⟨a, vs, e, q, r'⟩ := r
    subst e
    cases h
    exact .inr (.inl ⟨vs, q, by rw [r'.emp]⟩)
  | .dic xs, v, b, h, r => by
    obtain ⟨a, vs, e, q, r'⟩ := r
    subst e
    cases h
    exact .inr (.inr ⟨vs, q, by rw [r'.emp]⟩)
theorem jt_tru {C : Bool → List Slot → Res R → Prop} {e : Expr}
    (h : JE X en δ τ e (fun s1 δ1 m1 => ∃ d k, s1.rd δ1 = some d ∧ m1 = op (truD d) k ∧ ∀ b, C b δ1 (k b)) m) (he : ∀ whole, isTrue e X.env whole = (do let v ← whole; standAt e.pos; holding [v] (truthy v)) := by intro _; rfl) : JT X en δ τ e C m := .mk fun hb hx σ ts G H T hl hσ W k => by
  refine wt_of (pt_truth pe_we he) ?_
  have ht : τ.length = ts.length := W.splitLen (hl.trans hσ.symm)
  refine h.run hb hx σ ts G H _ hl hσ W fun s1 δ1 v1 G1 H1 c1 hl1 W1 => ?_
  obtain ⟨d, k', e1, em, hk⟩ := c1
  have hb' := hb
  rw [em] at hb'
  obtain ⟨b, eb⟩ := op_some hb'
  have em' : m = k' b := by rw [em, eb]; rfl
  obtain ⟨⟨_, _, ez, r1, _⟩, Wn⟩ := Wd.ends (sls := [s1]) (vs := [v1]) W1 (hl1.trans hσ.symm) ht (ds := [d]) (by simp only [rds, e1])
  cases ez
  refine ⟨b, tru_v eb r1, k b δ1 G1 H1 ?_ hl1 (Wn (by omega))⟩
  have := hk b
  rw [← em'] at this
  exact this
/-- one whose slot tells that it is True or False -/
theorem jt_bl {C : Bool → List Slot → Res R → Prop} {e : Expr}
    (h : JE X en δ τ e (fun s1 δ1 m1 => ∃ b, s1 = .fr (.bl b) ∧ C b δ1 m1) m) (he : ∀ whole, isTrue e X.env whole = (do let v ← whole; standAt e.pos; holding [v] (truthy v)) := by intro _; rfl) : JT X en δ τ e C m := jt_of (pt_truth pe_we he) h

/-! ### and, or, not as tests -/
abbrev WW (X : Cx) (e : Expr) : TT := fun σ H Q => ∀ (whole : Sem Value) (pins : List (Addr × Obj)) (s : Shared), Inv X pins σ H s → wpAny (model X.prog X.w) X.A (isTrue e X.env whole) (TP X pins σ Q) X.xe s
theorem pw_ww {e : Expr} : PW X e (WW X e) := ⟨fun wh pins s _ _ _ I h => h wh pins s I⟩
structure JW (X : Cx) (en : Kn) (δ τ : List Slot) (e : Expr) {R : Type} (C : Bool → List Slot → Res R → Prop) (m : Res R) : Prop where
  run : m ≠ .bad → en.HX m.exc → ∀ (σ ts : L2.St) (G H : Hp) (T : Bool → Hp → Prop), δ.length = en.n → σ.length = en.n → Wd X.K en (δ ++ τ) (σ ++ ts) G H →
    (∀ b δ' G' H', C b δ' m → δ'.length = en.n → Wd X.K en (δ' ++ τ) (σ ++ ts) G' H' → T b H') → WW X e σ H T
section
variable {C : Bool → List Slot → Res R → Prop} {a b : Expr} {rest : List Expr} {pos : Pos}
theorem jt_w {e : Expr} (h : JW X en δ τ e C m) : JT X en δ τ e C m := .mk fun hb hx σ ts G H T hl hσ W k pins s I => h.run hb hx σ ts G H T hl hσ W k _ pins s I
theorem ww_of {e : Expr} {t : TT} (h : PW X e t) {σ : L2.St} {H : Hp} {Q : Bool → Hp → Prop} (q : t σ H Q) : WW X e σ H Q := fun wh pins s I => h.run wh pins s σ H Q I q
theorem jw_and1 (h : JT X en δ τ a C m) : JW X en δ τ (.BoolOp .And [a] pos) C m := .mk fun hb hx σ ts G H T hl hσ W k => ww_of (pw_and1 pt_wt) (h.run hb hx σ ts G H T hl hσ W k)
theorem jw_or1 (h : JT X en δ τ a C m) : JW X en δ τ (.BoolOp .Or [a] pos) C m := .mk fun hb hx σ ts G H T hl hσ W k => ww_of (pw_or1 pt_wt) (h.run hb hx σ ts G H T hl hσ W k)
theorem jw_and (h : JT X en δ τ a (fun c δ1 m1 => ∃ mB mF, m1 = (if c = true then mB else mF) ∧ JW X en δ1 τ (.BoolOp .And (b :: rest) pos) C mB ∧ C false δ1 mF) m) : JW X en δ τ (.BoolOp .And (a :: b :: rest) pos) C m := .mk fun hb hx σ ts G H T hl hσ W k => by
  refine ww_of (pw_and pt_wt pw_ww) ?_
  refine h.run hb hx σ ts G H _ hl hσ W fun c δ1 G1 H1 c1 hl1 W1 => ?_
  obtain ⟨mB, mF, em, h1, h2⟩ := c1
  cases c with
  | true =>
    have e : m = mB := em
    subst e
    exact h1.run hb hx σ ts G1 H1 T hl1 hσ W1 k
  | false =>
    have e : m = mF := em
    subst e
    exact k false δ1 G1 H1 h2 hl1 W1
theorem jw_or (h : JT X en δ τ a (fun c δ1 m1 => ∃ mT mB, m1 = (if c = true then mT else mB) ∧ C true δ1 mT ∧ JW X en δ1 τ (.BoolOp .Or (b :: rest) pos) C mB) m) : JW X en δ τ (.BoolOp .Or (a :: b :: rest) pos) C m := .mk fun hb hx σ ts G H T hl hσ W k => by
  refine ww_of (pw_or pt_wt pw_ww) ?_
  refine h.run hb hx σ ts G H _ hl hσ W fun c δ1 G1 H1 c1 hl1 W1 => ?_
  obtain ⟨mT, mB, em, h1, h2⟩ := c1
  cases c with
  | true =>
    have e : m = mT := em
    subst e
    exact k true δ1 G1 H1 h1 hl1 W1
  | false =>
    have e : m = mB := em
    subst e
    exact h2.run hb hx σ ts G1 H1 T hl1 hσ W1 k
theorem jt_not (h : JT X en δ τ a (fun c δ1 m1 => C (!c) δ1 m1) m) : JT X en δ τ (.UnaryOp .Not a pos) C m := .mk fun hb hx σ ts G H T hl hσ W k =>
  wt_of (pt_not pt_wt) (h.run hb hx σ ts G H (fun c H1 => T (!c) H1) hl hσ W fun c δ1 G1 H1 c1 hl1 W1 => k (!c) δ1 G1 H1 c1 hl1 W1)
end

/-! ### .. as values -/
/-- a slot's truth value, where it is one -/
def asB : D → Option Bool
  | .bl b => some b
  | _ => none
theorem VRep.asB {G H : Hp} {d : D} {v : V} {b : Bool} (h : asB d = some b) (r : VRep K G H d v) : v = .bl b := by
  cases d <;> first | cases h | skip
  exact r
section
variable {a b : Expr} {rest : List Expr} {pos : Pos}
theorem je_one {o} (h : JE X en δ τ a C m) : JE X en δ τ (.BoolOp o [a] pos) C m := .mk fun hb hx σ ts G H T hl hσ W k => we_of (pe_one pe_we) (h.run hb hx σ ts G H T hl hσ W k)
theorem je_and (h : JE X en δ τ a (fun s1 δ1 m1 => ∃ d k, s1.rd δ1 = some d ∧ m1 = op (asB d) k ∧ ∀ c, ∃ mB mF, k c = (if c = true then mB else mF) ∧ JE X en δ1 τ (.BoolOp .And (b :: rest) pos) C mB ∧ C (.fr (.bl false)) δ1 mF) m) : JE X en δ τ (.BoolOp .And (a :: b :: rest) pos) C m := .mk fun hb hx σ ts G H T hl hσ W k => by
  refine we_of (pe_and pe_we pe_we) ?_
  have ht : τ.length = ts.length := W.splitLen (hl.trans hσ.symm)
  refine h.run hb hx σ ts G H _ hl hσ W fun s1 δ1 v1 G1 H1 c1 hl1 W1 => ?_
  obtain ⟨d, k', e1, em, hk⟩ := c1
  have hb' := hb
  rw [em] at hb'
  obtain ⟨c, ec⟩ := op_some hb'
  have em' : m = k' c := by rw [em, ec]; rfl
  obtain ⟨⟨_, _, ez, r1, _⟩, Wn⟩ := Wd.ends (sls := [s1]) (vs := [v1]) W1 (hl1.trans hσ.symm) ht (ds := [d]) (by simp only [rds, e1])
  cases ez
  have ev := VRep.asB ec r1
  subst ev
  refine ⟨c, rfl, ?_⟩
  obtain ⟨mB, mF, ek, h1, h2⟩ := hk c
  have em2 := em'.trans ek
  cases c with
  | true =>
    have e : m = mB := em2
    subst e
    exact h1.run hb hx σ ts G1 H1 T hl1 hσ (Wn (by omega)) k
  | false =>
    have e : m = mF := em2
    subst e
    exact k _ δ1 _ G1 H1 h2 hl1 ((Wn (by omega)).out (Grow.refl W1.sub) (show Rep _ _ _ _ from rfl))
theorem je_or (h : JE X en δ τ a (fun s1 δ1 m1 => ∃ d k, s1.rd δ1 = some d ∧ m1 = op (asB d) k ∧ ∀ c, ∃ mT mB, k c = (if c = true then mT else mB) ∧ C (.fr (.bl true)) δ1 mT ∧ JE X en δ1 τ (.BoolOp .Or (b :: rest) pos) C mB) m) : JE X en δ τ (.BoolOp .Or (a :: b :: rest) pos) C m := .mk fun hb hx σ ts G H T hl hσ W k => by
  refine we_of (pe_or pe_we pe_we) ?_
  have ht : τ.length = ts.length := W.splitLen (hl.trans hσ.symm)
  refine h.run hb hx σ ts G H _ hl hσ W fun s1 δ1 v1 G1 H1 c1 hl1 W1 => ?_
  obtain ⟨d, k', e1, em, hk⟩ := c1
  have hb' := hb
  rw [em] at hb'
  obtain ⟨c, ec⟩ := op_some hb'
  have em' : m = k' c := by rw [em, ec]; rfl
  obtain ⟨⟨_, _, ez, r1, _⟩, Wn⟩ := Wd.ends (sls := [s1]) (vs := [v1]) W1 (hl1.trans hσ.symm) ht (ds := [d]) (by simp only [rds, e1])
  cases ez
  have ev := VRep.asB ec r1
  subst ev
  refine ⟨c, rfl, ?_⟩
  obtain ⟨mT, mB, ek, h1, h2⟩ := hk c
  have em2 := em'.trans ek
  cases c with
  | true =>
    have e : m = mT := em2
    subst e
    exact k _ δ1 _ G1 H1 h1 hl1 ((Wn (by omega)).out (Grow.refl W1.sub) (show Rep _ _ _ _ from rfl))
  | false =>
    have e : m = mB := em2
    subst e
    exact h2.run hb hx σ ts G1 H1 T hl1 hσ (Wn (by omega)) k
theorem je_not (h : JE X en δ τ a (fun s1 δ1 m1 => ∃ d k, s1.rd δ1 = some d ∧ m1 = op (asB d) k ∧ ∀ c, C (.fr (.bl (!c))) δ1 (k c)) m) : JE X en δ τ (.UnaryOp .Not a pos) C m := .mk fun hb hx σ ts G H T hl hσ W k => by
  refine we_of (pe_not pe_we) ?_
  have ht : τ.length = ts.length := W.splitLen (hl.trans hσ.symm)
  refine h.run hb hx σ ts G H _ hl hσ W fun s1 δ1 v1 G1 H1 c1 hl1 W1 => ?_
  obtain ⟨d, k', e1, em, hk⟩ := c1
  have hb' := hb
  rw [em] at hb'
  obtain ⟨c, ec⟩ := op_some hb'
  have em' : m = k' c := by rw [em, ec]; rfl
  obtain ⟨⟨_, _, ez, r1, _⟩, Wn⟩ := Wd.ends (sls := [s1]) (vs := [v1]) W1 (hl1.trans hσ.symm) ht (ds := [d]) (by simp only [rds, e1])
  cases ez
  have ev := VRep.asB ec r1
  subst ev
  refine ⟨c, rfl, k (.fr (.bl (!c))) δ1 (.bl (!c)) G1 H1 ?_ hl1 ((Wn (by omega)).out (Grow.refl W1.sub) (show Out X.K G1 H1 G1 H1 (.fr (.bl (!c))) (.bl (!c)) from rfl))⟩
  have := hk c
  rw [← em'] at this
  exact this
theorem je_if {c : Expr} (h : JT X en δ τ c (fun t δ1 m1 => ∃ mA mB, m1 = (if t = true then mA else mB) ∧ JE X en δ1 τ a C mA ∧ JE X en δ1 τ b C mB) m) : JE X en δ τ (.IfExp c a b pos) C m := .mk fun hb hx σ ts G H T hl hσ W k => by
  refine we_of (pe_ifExp pt_wt pe_we pe_we) ?_
  refine h.run hb hx σ ts G H _ hl hσ W fun t δ1 G1 H1 c1 hl1 W1 => ?_
  obtain ⟨mA, mB, em, h1, h2⟩ := c1
  cases t with
  | true =>
    have e : m = mA := em
    subst e
    exact iteT (h1.run hb hx σ ts G1 H1 T hl1 hσ W1 k)
  | false =>
    have e : m = mB := em
    subst e
    exact iteF (h2.run hb hx σ ts G1 H1 T hl1 hσ W1 k)
end

/-! ### joins -/
theorem bind_exc {α : Type} {m1 : Res α} {k : α → Res R} (hb : m1.bind k ≠ .bad) (hx : en.HX (m1.bind k).exc) : m1 ≠ .bad ∧ en.HX m1.exc := by
  match m1, hb, hx with
  | .ok a, _, _ => exact ⟨(fun h => nomatch h), en.h0⟩
  | .raise x, _, hx => exact ⟨(fun h => nomatch h), hx⟩
  | .bad, hb, _ => exact (hb rfl).elim
theorem je_join {α : Type} {e : Expr} (ps : α → Slot) (pe : α → List Slot) {m1 : Res α} {k : α → Res R} (h : JE X en δ τ e (fun sl δ' m' => ∃ a, m' = .ok a ∧ sl = ps a ∧ δ' = pe a) m1) (hk : ∀ a, C (ps a) (pe a) (k a)) : JE X en δ τ e C (m1.bind k) := .mk fun hb hx σ ts G H T hl hσ W q => by
  obtain ⟨hb1, hx1⟩ := bind_exc hb hx
  refine h.run hb1 hx1 σ ts G H T hl hσ W fun sl δ' v G' H' c hl' W' => ?_
  obtain ⟨a, e1, e2, e3⟩ := c
  subst e1 e2 e3
  exact q _ _ v G' H' (hk a) hl' W'
theorem jt_join {α : Type} {C : Bool → List Slot → Res R → Prop} {e : Expr} (ps : α → Bool) (pe : α → List Slot) {m1 : Res α} {k : α → Res R} (h : JT X en δ τ e (fun sl δ' m' => ∃ a, m' = .ok a ∧ sl = ps a ∧ δ' = pe a) m1) (hk : ∀ a, C (ps a) (pe a) (k a)) : JT X en δ τ e C (m1.bind k) := .mk fun hb hx σ ts G H T hl hσ W q => by
  obtain ⟨hb1, hx1⟩ := bind_exc hb hx
  refine h.run hb1 hx1 σ ts G H T hl hσ W fun sl δ' G' H' c hl' W' => ?_
  obtain ⟨a, e1, e2, e3⟩ := c
  subst e1 e2 e3
  exact q _ _ G' H' (hk a) hl' W'
end
end BR

/-! K5: targets, statements, loops -/
namespace BR
open PySem PySem.Spec PyProof.Rows L2

/-- the second tells no more than the first -/
def Le : List Slot → List Slot → Prop
  | [], [] => True
  | a :: r, b :: q => (b = .un ∨ a = b) ∧ Le r q
  | _, _ => False
theorem Le.len : ∀ {a b : List Slot}, Le a b → a.length = b.length
  | [], [], _ => rfl
  | _ :: _, _ :: _, h => by rw [List.length_cons, List.length_cons, Le.len h.2]
  | [], _ :: _, h => h.elim
  | _ :: _, [], h => h.elim
theorem Le.get : ∀ {a b : List Slot} {i : Nat} {s : Slot}, Le a b → b[i]? = some s → s = .un ∨ a[i]? = some s
  | [], [], i, s, _, h => by simp at h
  | x :: _, y :: _, 0, s, h, e => by
    have e' : y = s := by simpa using e
    subst e'
    rcases h.1 with z | z
    · exact .inl z
    · subst z; exact .inr rfl
  | _ :: _, _ :: _, i + 1, s, h, e => by
    have := Le.get (i := i) (s := s) h.2 (by simpa using e)
    simpa using this
  | [], _ :: _, _, _, h, _ => h.elim
  | _ :: _, [], _, _, h, _ => h.elim
theorem Le.refl : ∀ a : List Slot, Le a a
  | [] => trivial
  | _ :: r => ⟨.inr rfl, Le.refl r⟩
theorem Wd.le {K : PySem.W.Frag} {en : Kn} {δ δ' : List Slot} {S : L2.St} {G H : Hp} (W : Wd K en δ S G H) (h : Le δ δ') : Wd K en δ' S G H where
  len := h.len.symm.trans W.len
  sub := W.sub
  ext := W.ext
  new := W.new
  frm := W.frm
  stay := W.stay
  nd := W.nd
  slot := fun i sl o h1 h2 => by
    rcases h.get h1 with z | z
    · subst z; trivial
    · exact W.slot i sl o z h2
  apart := fun i j p h1 h2 => by
    have key : ∀ (i : Nat), Own δ' S i p → Own δ S i p := fun i ⟨sl, e1, e2, e3⟩ => by
      rcases h.get e1 with z | z
      · subst z; cases e2
      · exact ⟨sl, z, e2, e3⟩
    exact W.apart i j p (key i h1) (key j h2)

def noBo : List Slot → Bool
  | [] => true
  | .bo _ :: _ => false
  | _ :: r => noBo r
theorem noBo_get : ∀ {δ : List Slot} {i j : Nat}, noBo δ = true → δ[i]? ≠ some (.bo j)
  | [], i, j, _ => by simp
  | .bo _ :: _, _, _, h => nomatch h
  | .un :: r, 0, j, h => by simp
  | .fr _ :: r, 0, j, h => by simp
  | .mu _ :: r, 0, j, h => by simp
  | .mp _ _ :: r, 0, j, h => by simp
  | .bw _ :: r, 0, j, h => by simp
  | .un :: r, i + 1, j, h => by simpa using noBo_get (δ := r) (i := i) (j := j) h
  | .fr _ :: r, i + 1, j, h => by simpa using noBo_get (δ := r) (i := i) (j := j) h
  | .mu _ :: r, i + 1, j, h => by simpa using noBo_get (δ := r) (i := i) (j := j) h
  | .mp _ _ :: r, i + 1, j, h => by simpa using noBo_get (δ := r) (i := i) (j := j) h
  | .bw _ :: r, i + 1, j, h => by simpa using noBo_get (δ := r) (i := i) (j := j) h
/-- what a name may be given -/
def Slot.may : Slot → Bool
  | .fr _ => true
  | .mu _ => true
  | .bw _ => true
  | _ => false
section
variable {X : Cx} {en : Kn} {δ : List Slot} {R : Type} {m : Res R} {K : PySem.W.Frag}
/-- a name is given the last thing at hand -/
theorem Wd.give {s : Slot} {v : V} {σ : L2.St} {G H : Hp} (W : Wd K en (δ ++ [s]) (σ ++ [some v]) G H) (hl : δ.length = σ.length) (hb : noBo δ = true) (hs : s.may = true) (i : Nat) : Wd K en (δ.set i s) (σ.set i (some v)) G H := by
  have last := W.last
  have get1 : ∀ (j : Nat) sl o, (δ.set i s)[j]? = some sl → (σ.set i (some v))[j]? = some o → (j = i ∧ sl = s ∧ o = some v) ∨ (j ≠ i ∧ δ[j]? = some sl ∧ σ[j]? = some o) := fun j sl o h1 h2 => by
    by_cases hj : j = i
    · subst hj
      have hi : j < δ.length := by
        have := (List.getElem?_eq_some_iff.mp h1).1
        rw [List.length_set] at this; exact this
      rw [List.getElem?_set_self hi] at h1
      rw [List.getElem?_set_self (by omega)] at h2
      exact .inl ⟨rfl, (Option.some.inj h1).symm, (Option.some.inj h2).symm⟩
    · rw [List.getElem?_set_ne (Ne.symm hj)] at h1 h2
      exact .inr ⟨hj, h1, h2⟩
  have up : ∀ (j : Nat) sl o, δ[j]? = some sl → σ[j]? = some o → (δ ++ [s])[j]? = some sl ∧ (σ ++ [some v])[j]? = some o := fun j sl o h1 h2 =>
    ⟨by rw [List.getElem?_append_left (List.getElem?_eq_some_iff.mp h1).1]; exact h1, by rw [List.getElem?_append_left (List.getElem?_eq_some_iff.mp h2).1]; exact h2⟩
  refine ⟨by rw [List.length_set, List.length_set]; exact hl, W.sub, W.ext, W.new, W.frm, W.stay, W.nd, fun j sl o h1 h2 => ?_, fun j j' p h1 h2 => ?_⟩
  · rcases get1 j sl o h1 h2 with ⟨e1, e2, e3⟩ | ⟨hj, h3, h4⟩
    · subst e2 e3
      cases sl with
      | un => trivial
      | fr d => exact last
      | mu d => exact last
      | mp _ d => cases hs
      | bw d => exact last
      | bo _ => cases hs
    · obtain ⟨h5, h6⟩ := up j sl o h3 h4
      have q := W.slot j sl o h5 h6
      cases sl with
      | un => trivial
      | fr d => exact q
      | mu d => exact q
      | mp _ d => exact q
      | bw d => exact q
      | bo l => exact (noBo_get hb h3).elim
  · have key : ∀ (j : Nat), Own (δ.set i s) (σ.set i (some v)) j p → (j = i ∧ Own (δ ++ [s]) (σ ++ [some v]) δ.length p) ∨ (j ≠ i ∧ j < δ.length ∧ Own (δ ++ [s]) (σ ++ [some v]) j p) := fun j ⟨sl, e1, e2, e3⟩ => by
      rcases get1 j _ _ e1 e3 with ⟨f1, f2, f3⟩ | ⟨hj, f2, f3⟩
      · subst f2
        exact .inl ⟨f1, sl, getElem?_last, e2, by rw [hl, ← f3]; exact getElem?_last⟩
      · obtain ⟨u1, u2⟩ := up j _ _ f2 f3
        exact .inr ⟨hj, (List.getElem?_eq_some_iff.mp f2).1, sl, u1, e2, u2⟩
    rcases key j h1 with ⟨e1, q1⟩ | ⟨e1, l1, q1⟩ <;> rcases key j' h2 with ⟨e2, q2⟩ | ⟨e2, l2, q2⟩
    · rw [e1, e2]
    · have := W.apart _ _ p q1 q2
      omega
    · have := W.apart _ _ p q1 q2
      omega
    · exact W.apart _ _ p q1 q2

/-! ### targets -/
/-- changed at these places alone -/
def Only (is : List Nat) (σ σ' : L2.St) : Prop := ∀ j : Nat, j ∉ is → σ'[j]? = σ[j]?
/-- a target given a thing that stands fast; is: the places of the names -/
structure JG (X : Cx) (en : Kn) (δ τ : List Slot) (tg : Expr) (d : D) (is : List Nat) {R : Type} (N : List Slot → Res R → Prop) (m : Res R) : Prop where
  run : m ≠ .bad → en.HX m.exc → ∀ (σ ts : L2.St) (G H : Hp) (v : V) (T : L2.St → Hp → Prop), δ.length = en.n → σ.length = en.n → Wd X.K en (δ ++ τ) (σ ++ ts) G H → Rep X.K G d v →
    (∀ δ' σ' G' H', N δ' m → δ'.length = en.n → σ'.length = en.n → Wd X.K en (δ' ++ τ) (σ' ++ ts) G' H' → Sub G G' → Only is σ σ' → T σ' H') → WG X tg v σ H T
structure JGs (X : Cx) (en : Kn) (δ τ : List Slot) (tgs : List Expr) (ds : List D) (is : List Nat) {R : Type} (N : List Slot → Res R → Prop) (m : Res R) : Prop where
  run : m ≠ .bad → en.HX m.exc → ∀ (σ ts : L2.St) (G H : Hp) (vs : List V) (T : L2.St → Hp → Prop), δ.length = en.n → σ.length = en.n → Wd X.K en (δ ++ τ) (σ ++ ts) G H → Reps X.K G ds vs →
    (∀ δ' σ' G' H', N δ' m → δ'.length = en.n → σ'.length = en.n → Wd X.K en (δ' ++ τ) (σ' ++ ts) G' H' → Sub G G' → Only is σ σ' → T σ' H') →
    ∀ (pins : List (Addr × Obj)) (s : Shared) (us : List Value), Inv X pins σ H s → Vals vs us → wpAny (model X.prog X.w) X.A (assignInOrder ((assignEach tgs X.env).map (·.2)) us) (fun _ s' => ∃ σ' H', Inv X pins σ' H' s' ∧ T σ' H') X.xe s
theorem wg_of {tg : Expr} {t : TG} (h : PG X tg t) {v : V} {σ : L2.St} {H : Hp} {Q : L2.St → Hp → Prop} (q : t v σ H Q) : WG X tg v σ H Q := fun pins s u I r => h.run pins s σ H v u Q I r q
section
variable {N : List Slot → Res R → Prop} {τ : List Slot}
theorem jg_name (i : Nat) {x : Str} {pos : Pos} {d : D} (δ' : List Slot) (hN : X.N.Nodup) (h : N δ' m) (he : δ.set i (.fr d) = δ' := by rfl) (hb : noBo (δ ++ τ) = true := by rfl) (hi : X.N[i]? = some x := by rfl) (hil : (i + 1).ble δ.length = true := by rfl) (hx : Loc X.env.scope x := by first | exact Or.inl rfl | exact Or.inr rfl)
    (hf : X.fn x = true ∨ X.env.scope.names.lookup x = some .local := by first | exact .inl rfl | exact .inr rfl) : JG X en δ τ (.Name x pos) d [i] N m := .mk fun hb' hx' σ ts G H v T hl hσ W r k => by
  subst he
  have hi' : i < δ.length := Nat.le_of_ble_eq_true hil
  have W2 := (W.out (sl := .fr d) (v := v) (Grow.refl W.sub) r).give W.len hb rfl i
  rw [List.set_append_left _ _ hi', List.set_append_left _ _ (by omega)] at W2
  exact wg_of (pg_name hN hi hx hf) (k _ _ G H h (by rw [List.length_set]; exact hl) (by rw [List.length_set]; exact hσ) W2 (Sub.refl _) fun j hj => List.getElem?_set_ne fun e => hj (by rw [e]; exact List.mem_cons_self))
theorem jgs_nil (h : N δ m) : JGs X en δ τ [] [] [] N m := .mk fun hb hx σ ts G H vs T hl hσ W r k pins s us I rv => by
  rw [show vs = [] from r] at rv
  cases rv
  exact assignInOrder_nil ⟨σ, H, I, k δ σ G H h hl hσ W (Sub.refl _) fun _ _ => rfl⟩
theorem jgs_cons {e : Expr} {es : List Expr} {d : D} {ds : List D} {is js : List Nat} (h : JG X en δ τ e d is (fun δ1 m1 => JGs X en δ1 τ es ds js N m1) m)
    (hs : (assignEach (e :: es) X.env).map (·.2) = assign e X.env :: (assignEach es X.env).map (·.2) := by rfl) : JGs X en δ τ (e :: es) (d :: ds) (is ++ js) N m := .mk fun hb hx σ ts G H vs T hl hσ W r k pins s us I rv => by
  obtain ⟨v, vr, e1, r1, r2⟩ := r
  subst e1
  cases rv with
  | cons q qq =>
    rw [hs]
    refine assignInOrder_cons (thn ((h.run hb hx σ ts G H v (fun σ1 H1 => ∃ δ1 G1, JGs X en δ1 τ es ds js N m ∧ δ1.length = en.n ∧ σ1.length = en.n ∧ Wd X.K en (δ1 ++ τ) (σ1 ++ ts) G1 H1 ∧ Sub G G1 ∧ Only is σ σ1) hl hσ W r1 fun δ1 σ1 G1 H1 c hl1 hσ1 W1 sb on => ⟨δ1, G1, c, hl1, hσ1, W1, sb, on⟩) pins s _ I q) fun _ s1 ⟨σ1, H1, I1, δ1, G1, c, hl1, hσ1, W1, sb, on⟩ => ?_)
    exact c.run hb hx σ1 ts G1 H1 vr T hl1 hσ1 W1 (Reps.sub sb _ _ r2) (fun δ' σ' G' H' c' hl' hσ' W' sb' on' => k δ' σ' G' H' c' hl' hσ' W' (sb.trans sb') fun j hj => (on' j fun z => hj (List.mem_append_right _ z)).trans (on j fun z => hj (List.mem_append_left _ z))) pins s1 _ I1 qq
/-- (a, b, ..) -/
def unp (n : Nat) : D → Option (List D)
  | .tup ds => if ds.length = n then some ds else none
  | _ => none
theorem unp_some {n : Nat} : ∀ {d : D} {ds : List D}, unp n d = some ds → ∃ ds', d = .tup ds' ∧ ds'.length = n ∧ ds' = ds
  | .tup ds', ds, h => by
    have h' : (if ds'.length = n then some ds' else none) = some ds := h
    by_cases hn : ds'.length = n
    · rw [if_pos hn] at h'
      exact ⟨ds', rfl, hn, Option.some.inj h'⟩
    · rw [if_neg hn] at h'; cases h'
  | .non, _, h => nomatch h
  | .bl _, _, h => nomatch h
  | .int _, _, h => nomatch h
  | .str _, _, h => nomatch h
  | .lst _, _, h => nomatch h
  | .dic _, _, h => nomatch h
  | .scr _, _, h => nomatch h
  | .exc _ _, _, h => nomatch h
  | .obj _ _, _, h => nomatch h
theorem jg_tup {es : List Expr} {k : Nat} {pos : Pos} {d : D} {n : Nat} {is : List Nat} (hc : X.calm = true) (h : ∃ k', m = op (unp n d) k' ∧ ∀ ds, ds.length = n → JGs X en δ τ es ds is N (k' ds))
    (hn : (assignEach es X.env).length = n := by rfl) (hst : (assignEach es X.env).findIdx? (·.1) = none := by rfl) : JG X en δ τ (.Tuple es k pos) d is N m := .mk fun hb hx σ ts G H v T hl hσ W r q => by
  obtain ⟨k', em, hk⟩ := h
  have hb' := hb
  rw [em] at hb'
  obtain ⟨ds, ed⟩ := op_some hb'
  have em' : m = k' ds := by rw [em, ed]; rfl
  obtain ⟨ds', e0, hlen, e1⟩ := unp_some ed
  subst e0 e1
  have hk2 := hk _ hlen
  rw [← em'] at hk2
  refine wg_of (pg_tup (t := fun vs σ H Q => ∀ (pins : List (Addr × Obj)) (s : Shared) (us : List Value), Inv X pins σ H s → Vals vs us → wpAny (model X.prog X.w) X.A (assignInOrder ((assignEach es X.env).map (·.2)) us) (fun _ s' => ∃ σ' H', Inv X pins σ' H' s' ∧ Q σ' H') X.xe s)
    hc ⟨fun pins s σ H vs us Q I r h => h pins s us I r⟩ hn hst) ?_
  obtain ⟨a, vs, e1, q1, r1⟩ := r
  subst e1
  exact ⟨a, vs, rfl, SqT.sub W.sub q1, by rw [← r1.length]; exact hlen, hk2.run hb hx σ ts G H vs T hl hσ W r1 q⟩
end

/-! ### statements -/
section
variable {N : List Slot → Res R → Prop} {RT : Slot → List Slot → Res R → Prop} {BK CT : List Slot → Res R → Prop} {pos : Pos}
theorem Wd.one {s : Slot} {v : V} {σ : L2.St} {G H : Hp} (W : Wd K en (δ ++ [s]) (σ ++ [some v]) G H) (hl : δ.length = en.n) (hσ : σ.length = en.n) : Wd K en δ σ G H := W.cut (hl.trans hσ.symm) (by omega)
theorem Wd.sl (W : Wd K en δ σ G H) (hl : δ.length = en.n) : List.length σ = en.n := W.len.symm.trans hl
/-- JE at a statement: nothing at hand -/
theorem JE.at {e : Expr} {C : Slot → List Slot → Res R → Prop} (h : JE X en δ [] e C m) (hb : m ≠ .bad) (hx : en.HX m.exc) {σ : L2.St} {G H : Hp} {T : VK} (hl : δ.length = en.n) (W : Wd X.K en δ σ G H)
    (k : ∀ sl δ' v G' H', C sl δ' m → δ'.length = en.n → Wd X.K en (δ' ++ [sl]) (σ ++ [some v]) G' H' → T v H') : WE X e σ H T :=
  h.run hb hx σ [] G H T hl (W.sl hl) (by rw [List.append_nil, List.append_nil]; exact W) fun sl δ' v G' H' c hl' W' => k sl δ' v G' H' c hl' (by rw [List.append_nil, List.append_nil] at W'; exact W')
theorem JT.at {e : Expr} {C : Bool → List Slot → Res R → Prop} (h : JT X en δ [] e C m) (hb : m ≠ .bad) (hx : en.HX m.exc) {σ : L2.St} {G H : Hp} {T : Bool → Hp → Prop} (hl : δ.length = en.n) (W : Wd X.K en δ σ G H)
    (k : ∀ b δ' G' H', C b δ' m → δ'.length = en.n → Wd X.K en δ' σ G' H' → T b H') : WT X e σ H T :=
  h.run hb hx σ [] G H T hl (W.sl hl) (by rw [List.append_nil, List.append_nil]; exact W) fun sl δ' G' H' c hl' W' => k sl δ' G' H' c hl' (by rw [List.append_nil, List.append_nil] at W'; exact W')
theorem jss_never {st : List Stmt} : JSs X en δ st N RT BK CT (.bad : Res R) := .mk fun hb => (hb rfl).elim
theorem jss_nil (h : N δ m) : JSs X en δ [] N RT BK CT m := .mk fun hb hx σ G H E hl W k1 k2 k3 k4 => wss_of pss_nil (k1 δ σ G H h hl W)
theorem jss_cons {st : Stmt} {rest : List Stmt} (h : JS X en δ st (fun δ1 m1 => JSs X en δ1 rest N RT BK CT m1) RT BK CT m) : JSs X en δ (st :: rest) N RT BK CT m := .mk fun hb hx σ G H E hl W k1 k2 k3 k4 =>
  wss_of (pss_cons ps_ws pss_wss) (h.run hb hx σ G H _ hl W (fun δ' σ' G' H' c hl' W' => c.run hb hx σ' G' H' E hl' W' k1 k2 k3 k4) k2 k3 k4)
theorem jss_one {st : Stmt} (h : JS X en δ st N RT BK CT m) : JSs X en δ [st] N RT BK CT m := .mk fun hb hx σ G H E hl W k1 k2 k3 k4 =>
  wss_of (pss_one ps_ws) (h.run hb hx σ G H E hl W k1 k2 k3 k4)
theorem js_expr {e : Expr} (h : JE X en δ [] e (fun s δ1 m1 => N δ1 m1) m) (hs : swapsWith e none pos.line X.env = pure false := by rfl) : JS X en δ (.Expr e pos) N RT BK CT m := .mk fun hb hx σ G H E hl W k1 k2 k3 k4 =>
  ws_of (ps_expr pe_we hs) (h.at hb hx hl W fun sl δ' v G' H' c hl' W' => k1 δ' σ G' H' c hl' (W'.one hl' (W.sl hl)))
/-- name = e -/
theorem js_set (i : Nat) {x : Str} {e : Expr} {pos' : Pos} (hN : X.N.Nodup) (h : JE X en δ [] e (fun s δ1 m1 => ∃ δ', δ1.set i s = δ' ∧ s.may = true ∧ noBo δ1 = true ∧ N δ' m1) m) (hi : X.N[i]? = some x := by rfl) (hx : Loc X.env.scope x := by first | exact Or.inl rfl | exact Or.inr rfl)
    (hs : swapsWith e (some (.Name x pos')) pos.line X.env = pure false := by rfl) (hf : X.fn x = true ∨ X.env.scope.names.lookup x = some .local := by first | exact .inl rfl | exact .inr rfl) : JS X en δ (.Assign [.Name x pos'] e pos) N RT BK CT m := .mk fun hb hx' σ G H E hl W k1 k2 k3 k4 =>
  ws_of (ps_set hN hi hx pe_we hs hf) (h.at hb hx' hl W fun sl δ1 v G' H' ⟨δ', e1, e2, e3, c⟩ hl' W' => by
    subst e1
    exact k1 _ _ G' H' c (by rw [List.length_set]; exact hl') (W'.give (hl'.trans (W.sl hl).symm) e3 e2 i))
/-- target = e, e standing fast -/
theorem js_asg {tg e : Expr} (h : JE X en δ [] e (fun s δ1 m1 => ∃ d is, s = .fr d ∧ JG X en δ1 [] tg d is N m1) m) (hs : swapsWithSole [tg] e pos.line X.env = pure false := by rfl) (hw : swappedStores [tg] e X.env = pure none := by rfl)
    (h1 : (assignEach [tg] X.env).map (·.2) = [assign tg X.env] := by rfl) : JS X en δ (.Assign [tg] e pos) N RT BK CT m := .mk fun hb hx' σ G H E hl W k1 k2 k3 k4 =>
  ws_of (ps_asg pe_we pg_wg hs hw h1) (h.at hb hx' hl W fun sl δ1 v G' H' ⟨d, is, e1, c⟩ hl' W' => by
    subst e1
    obtain ⟨v', e, r⟩ := W'.last
    cases e
    exact c.run hb hx' σ [] G' H' v _ hl' (W.sl hl) (by rw [List.append_nil, List.append_nil]; exact W'.one hl' (W.sl hl)) r fun δ2 σ2 G2 H2 c2 hl2 _ W2 _ _ => k1 δ2 σ2 G2 H2 c2 hl2 (by rw [List.append_nil, List.append_nil] at W2; exact W2))
theorem js_ret {e : Expr} (h : JE X en δ [] e (fun s δ1 m1 => RT s δ1 m1) m) : JS X en δ (.Return (some e) pos) N RT BK CT m := .mk fun hb hx' σ G H E hl W k1 k2 k3 k4 =>
  ws_of (ps_ret pe_we) (h.at hb hx' hl W fun sl δ1 v G' H' c hl' W' => k2 sl δ1 v σ G' H' c hl' W')
theorem js_if {c : Expr} {A B : List Stmt} (h : JT X en δ [] c (fun t δ1 m1 => ∃ mA mB, m1 = (if t = true then mA else mB) ∧ JSs X en δ1 A N RT BK CT mA ∧ JSs X en δ1 B N RT BK CT mB) m) : JS X en δ (.If c A B pos) N RT BK CT m := .mk fun hb hx' σ G H E hl W k1 k2 k3 k4 =>
  ws_of (ps_if pt_wt pss_wss pss_wss) (h.at hb hx' hl W fun t δ1 G1 H1 ⟨mA, mB, em, h1, h2⟩ hl1 W1 => by
    cases t with
    | true =>
      have e : m = mA := em
      subst e
      exact iteT (h1.run hb hx' σ G1 H1 E hl1 W1 k1 k2 k3 k4)
    | false =>
      have e : m = mB := em
      subst e
      exact iteF (h2.run hb hx' σ G1 H1 E hl1 W1 k1 k2 k3 k4))
/-- .. where nothing leaves within -/
theorem js_joinS {S : Type} {st : Stmt} (pe : S → List Slot) {m1 : Res S} {k : S → Res R}
    (h : JS X en δ st (fun δ' m' => ∃ a, m' = .ok a ∧ Le δ' (pe a)) (fun _ _ _ => False) (fun _ _ => False) (fun _ _ => False) m1)
    (hk : ∀ a, N (pe a) (k a)) : JS X en δ st N RT BK CT (m1.bind k) := .mk fun hb hx σ G H E hl W k1 k2 k3 k4 => by
  obtain ⟨hb1, hx1⟩ := bind_exc hb hx
  refine h.run hb1 hx1 σ G H E hl W (fun δ' σ' G' H' ⟨a, e1, le⟩ hl' W' => ?_) (fun s δ' v σ' G' H' c hl' W' => c.elim) (fun δ' σ' G' H' c hl' W' => c.elim) (fun δ' σ' G' H' c hl' W' => c.elim)
  subst e1
  exact k1 _ σ' G' H' (hk a) (le.len.symm.trans hl') (W'.le le)
/-- a name's own list put fast -/
theorem jss_fz {st : List Stmt} (i : Nat) {d : D} (δ' : List Slot) (hs : δ[i]? = some (.mu d)) (h : JSs X en δ' st N RT BK CT m) (he : δ.set i (.fr d) = δ' := by rfl) : JSs X en δ st N RT BK CT m := .mk fun hb hx σ G H E hl W k1 k2 k3 k4 => by
  subst he
  obtain ⟨G2, W2, _⟩ := W.fast hs
  exact h.run hb hx σ G2 H E (by rw [List.length_set]; exact hl) W2 k1 k2 k3 k4
end

/-! ### what is walked -/
def ItD (K : PySem.W.Frag) (J : It) (Gb Fb : Hp) (ds : List D) : Prop := ∀ (G H : Hp), Sub Gb G → Sub Fb H → Sub G H → ∀ i : Nat,
  (∀ d, ds[i]? = some d → J.go i H ∧ ∀ x H', J.yld i H x H' → ∃ G', Grow G H G' H' ∧ Rep K G' d x) ∧ (ds.length ≤ i → J.stop i H)
structure JI (X : Cx) (en : Kn) (δ τ : List Slot) (tg iter : Expr) {R : Type} (C : List D → List Slot → Res R → Prop) (m : Res R) : Prop where
  run : m ≠ .bad → en.HX m.exc → ∀ (σ ts : L2.St) (G H : Hp) (T : It → Hp → Prop), δ.length = en.n → σ.length = en.n → Wd X.K en (δ ++ τ) (σ ++ ts) G H →
    (∀ ds δ' J G' H', C ds δ' m → δ'.length = en.n → Wd X.K en (δ' ++ τ) (σ ++ ts) G' H' → ItD X.K J G' en.F0 ds → T J H') → WI X tg iter σ H T
/-- a list's or a tuple's items -/
def asL : D → Option (List D)
  | .lst ds => some ds
  | .tup ds => some ds
  | .scr ns => some (ns.map D.int)
  | _ => none
def Slot.stb : Slot → Option D
  | .fr d => some d
  | .bw d => some d
  | _ => none
def iAny (K : PySem.W.Frag) (tl : TE) : TI := fun σ H R => tl σ H fun x H1 => (∃ a, x = .ref a ∧ (∃ xs, SqL K H1 a xs) ∧ R (Itl K a) H1) ∨ ∃ a, x = .ref a ∧ (∃ xs, SqT K H1 a xs) ∧ R (Itt K a) H1
theorem pi_any {tg l : Expr} {tl : TE} (hl : PE X l tl) : PI X tg l (iAny X.K tl) := by
  refine ⟨fun pins s σ H R I h => ?_⟩
  refine thn (hl.run pins s σ H _ I h) fun v s1 ⟨x, H1, I1, r1, q1⟩ => ?_
  rcases q1 with ⟨a, e, ⟨xs, hq⟩, q⟩ | ⟨a, e, ⟨xs, hq⟩, q⟩
  · subst e
    cases r1
    obtain ⟨its, rv, p, hz⟩ := I1.list hq
    refine wpAny_pyIter_list p.isList ?_
    refine ⟨s1.heap.objs.size, [s1.heap.objs.size], _, _, H1, rfl, I1.kept (t' := s1.toks) fun b o e => Heap.get?_push_of_some _ e, turn_list a _, ⟨_, Heap.get?_push_size _ rfl, rfl, rfl⟩, fun b hb => ?_, q⟩
    have e : b = s1.heap.objs.size := by simpa using hb
    subst e
    exact I1.fpOk (Nat.le_refl _) (I1.hok.fresh (Nat.le_refl _))
  · subst e
    cases r1
    obtain ⟨its, rv, p, hz⟩ := I1.tuple hq
    refine wpAny_pyIter_tuple (show s1.heap.IsTuple a its.toArray from p) ?_
    refine ⟨s1.heap.objs.size, [s1.heap.objs.size], _, _, H1, rfl, I1.kept (t' := s1.toks) fun b o e => Heap.get?_push_of_some _ e, turn_tuple a _, ⟨_, Heap.get?_push_size _ rfl, rfl, rfl⟩, fun b hb => ?_, q⟩
    have e : b = s1.heap.objs.size := by simpa using hb
    subst e
    exact I1.fpOk (Nat.le_refl _) (I1.hok.fresh (Nat.le_refl _))
theorem itl_D {a : Addr} {vs : List V} {ds : List D} {Gb Fb : Hp} (h : ∀ H, Sub Fb H → Sub Gb H → SqL K H a vs) (r : Reps K Gb ds vs) : ItD K (Itl K a) Gb Fb ds := fun G H sg sf gh i => by
  have hq := h H sf (sg.trans gh)
  refine ⟨fun d e => ?_, fun hi => ⟨vs, hq, by rw [← r.length]; exact hi⟩⟩
  obtain ⟨x, h1, h2⟩ := r.get e
  refine ⟨⟨vs, x, hq, h1⟩, fun y H' hy => ?_⟩
  obtain ⟨e1, e2⟩ := hy
  subst e1
  have := e2 vs hq
  rw [h1] at this
  cases this
  exact ⟨G, Grow.refl gh, Rep.sub sg _ _ h2⟩
theorem itt_D {a : Addr} {vs : List V} {ds : List D} {Gb Fb : Hp} (h : ∀ H, Sub Fb H → Sub Gb H → SqT K H a vs) (r : Reps K Gb ds vs) : ItD K (Itt K a) Gb Fb ds := fun G H sg sf gh i => by
  have hq := h H sf (sg.trans gh)
  refine ⟨fun d e => ?_, fun hi => ⟨vs, hq, by rw [← r.length]; exact hi⟩⟩
  obtain ⟨x, h1, h2⟩ := r.get e
  refine ⟨⟨vs, x, hq, h1⟩, fun y H' hy => ?_⟩
  obtain ⟨e1, e2⟩ := hy
  subst e1
  have := e2 vs hq
  rw [h1] at this
  cases this
  exact ⟨G, Grow.refl gh, Rep.sub sg _ _ h2⟩
theorem ints_reps {G : Hp} : ∀ ns : List Int, Reps K G (ns.map D.int) (ns.map V.int)
  | [] => rfl
  | n :: ns => ⟨_, _, rfl, rfl, ints_reps ns⟩
/-- over a list or a tuple that isn't changed meanwhile -/
theorem ji_any {τ : List Slot} {tg e : Expr} {C : List D → List Slot → Res R → Prop} (h : JE X en δ τ e (fun s δ1 m1 => ∃ d k, s.stb = some d ∧ m1 = op (asL d) k ∧ ∀ ds, C ds δ1 (k ds)) m) : JI X en δ τ tg e C m := .mk fun hb hx σ ts G H T hl hσ W k => by
  refine wi_of (pi_any pe_we) ?_
  have ht : τ.length = ts.length := W.splitLen (hl.trans hσ.symm)
  refine h.run hb hx σ ts G H _ hl hσ W fun s δ1 v G1 H1 c1 hl1 W1 => ?_
  obtain ⟨d, k', e1, em, hk⟩ := c1
  have hb' := hb
  rw [em] at hb'
  obtain ⟨ds, ed⟩ := op_some hb'
  have em' : m = k' ds := by rw [em, ed]; rfl
  have hk2 := hk ds
  rw [← em'] at hk2
  have W2 := W1.cut (Δ := δ1 ++ τ) (S := σ ++ ts) (by rw [List.length_append, List.length_append]; omega) (by rw [List.length_append]; omega)
  have q := W1.last
  have key : ∀ d', VRep X.K G1 H1 d' v → d' = d → (∀ a vs, v = .ref a → SqL X.K H1 a vs → (∀ H, Sub en.F0 H → Sub G1 H → SqL X.K H a vs) ∨ True) → True := fun _ _ _ _ => trivial
  cases s with
  | un => cases e1
  | mu _ => cases e1
  | mp _ _ => cases e1
  | bo _ => cases e1
  | fr d' =>
    cases e1
    obtain ⟨u, eu, r⟩ := q
    cases eu
    cases d <;> first | cases ed | skip
    · obtain ⟨a, vs, e, q, r'⟩ := r
      subst e
      exact .inl ⟨a, rfl, ⟨vs, SqL.sub W2.sub (SqL.of q)⟩, k _ δ1 _ G1 H1 hk2 hl1 W2 (itl_D (fun H _ s => SqL.sub s (SqL.of q)) r')⟩
    · obtain ⟨a, vs, e, q, r'⟩ := r
      subst e
      exact .inr ⟨a, rfl, ⟨vs, SqT.sub W2.sub q⟩, k _ δ1 _ G1 H1 hk2 hl1 W2 (itt_D (fun H _ s => SqT.sub s q) r')⟩
    · obtain ⟨a, e, q⟩ := r
      subst e
      exact .inl ⟨a, rfl, ⟨_, SqL.sub W2.sub q⟩, k _ δ1 _ G1 H1 hk2 hl1 W2 (itl_D (fun H _ s => SqL.sub s q) (ints_reps _))⟩
  | bw d' =>
    cases e1
    obtain ⟨u, eu, ⟨M, hM, r⟩, _⟩ := q
    cases eu
    cases d <;> first | cases ed | skip
    · obtain ⟨a, vs, e, q, r'⟩ := r
      subst e
      exact .inl ⟨a, rfl, ⟨vs, SqL.sub (hM.sub W2.frm W2.sub) (SqL.of q)⟩, k _ δ1 _ G1 H1 hk2 hl1 W2 (itl_D (fun H s s2 => SqL.sub (hM.sub s s2) (SqL.of q)) r')⟩
    · obtain ⟨a, vs, e, q, r'⟩ := r
      subst e
      exact .inr ⟨a, rfl, ⟨vs, SqT.sub (hM.sub W2.frm W2.sub) q⟩, k _ δ1 _ G1 H1 hk2 hl1 W2 (itt_D (fun H s s2 => SqT.sub (hM.sub s s2) q) r')⟩
    · obtain ⟨a, e, q⟩ := r
      subst e
      exact .inl ⟨a, rfl, ⟨_, SqL.sub (hM.sub W2.frm W2.sub) q⟩, k _ δ1 _ G1 H1 hk2 hl1 W2 (itl_D (fun H s s2 => SqL.sub (hM.sub s s2) q) (ints_reps _))⟩
end
end BR

/-! K6: loops -/
namespace BR
open PySem PySem.Spec PyProof.Rows L2

/-- how a turn ends: on, out of the loop, or the whole with r -/
inductive LFlow (S R : Type) where
  | nx (s : S) | bk (s : S) | rt (r : R)
def forF {S R : Type} : List D → S → (D → S → Res (LFlow S R)) → Res (Flow S R)
  | [], s, _ => .ok (.nx s)
  | d :: ds, s, f => match f d s with
    | .ok (.nx s') => forF ds s' f
    | .ok (.bk s') => .ok (.nx s')
    | .ok (.rt r) => .ok (.ex r)
    | .raise x => .raise x
    | .bad => .bad
def forS {S : Type} : List D → S → (D → S → Res S) → Res S
  | [], s, _ => .ok s
  | d :: ds, s, f => (f d s).bind fun s' => forS ds s' f
def whileF {S R : Type} : Nat → S → (S → Res Bool) → (S → Res (LFlow S R)) → Res (Flow S R)
  | 0, _, _, _ => .bad
  | n + 1, s, t, f => (t s).bind fun b => if b = true then (match f s with
    | .ok (.nx s') => whileF n s' t f
    | .ok (.bk s') => .ok (.nx s')
    | .ok (.rt r) => .ok (.ex r)
    | .raise x => .raise x
    | .bad => .bad) else .ok (.nx s)
def whileS {S : Type} : Nat → S → (S → Res Bool) → (S → Res S) → Res S
  | 0, _, _, _ => .bad
  | n + 1, s, t, f => (t s).bind fun b => if b = true then (f s).bind fun s' => whileS n s' t f else .ok s
def toL {S R : Type} (m : Res S) : Res (LFlow S R) := m.bind fun s => .ok (.nx s)
theorem forS_F {S R : Type} (f : D → S → Res S) (k : S → Res R) : ∀ (ds : List D) (s : S), (forS ds s f).bind k = fbind (forF ds s fun d a => (toL (f d a) : Res (LFlow S R))) k
  | [], s => rfl
  | d :: ds, s => by
    unfold forS forF
    cases e : f d s with
    | ok a =>
      simp only [toL, Res.bind, fbind, e]
      exact forS_F f k ds a
    | raise x => simp only [toL, Res.bind, fbind, e]
    | bad => simp only [toL, Res.bind, fbind, e]
theorem whileS_F {S R : Type} (t : S → Res Bool) (f : S → Res S) (k : S → Res R) : ∀ (n : Nat) (s : S), (whileS n s t f).bind k = fbind (whileF n s t fun a => (toL (f a) : Res (LFlow S R))) k
  | 0, s => rfl
  | n + 1, s => by
    unfold whileS whileF
    cases e : t s with
    | ok b =>
      cases b with
      | false => rfl
      | true =>
        cases e2 : f s with
        | ok a =>
          simp only [toL, Res.bind, fbind, e2, if_true]
          exact whileS_F t f k n a
        | raise x => simp only [toL, Res.bind, fbind, e2, if_true]
        | bad => simp only [toL, Res.bind, fbind, e2, if_true]
    | raise x => rfl
    | bad => rfl

/-- the same, begun later -/
structure KnLe (en en' : Kn) : Prop where
  n : en'.n = en.n
  F0 : en'.F0 = en.F0
  ps : en'.ps = en.ps
  HX : en'.HX = en.HX
abbrev Kn.at (en : Kn) (G : Hp) : Kn := { en with G0 := G }
theorem Kn.le (en : Kn) (G : Hp) : KnLe en (en.at G) := ⟨rfl, rfl, rfl, rfl⟩
section
variable {K : PySem.W.Frag} {en : Kn} {δ δ' : List Slot} {σ σ' : L2.St} {G H G' H' : Hp}
theorem Wd.from (W : Wd K en δ σ G H) : Wd K (en.at G) δ σ G H :=
  ⟨W.len, W.sub, Sub.refl _, fun a o e => .inl e, W.frm, W.stay, W.nd, fun i sl o h1 h2 => by
    have q := W.slot i sl o h1 h2
    cases sl <;> exact q, W.apart⟩
theorem Wd.back (W : Wd K en δ σ G H) (W' : Wd K (en.at G) δ' σ' G' H') : Wd K en δ' σ' G' H' :=
  ⟨W'.len, W'.sub, W.ext.trans W'.ext, fun a o e => by
    rcases W'.new a o e with q | q
    · exact W.new a o q
    · exact .inr q, W'.frm, W'.stay, W'.nd, fun i sl o h1 h2 => by
    have q := W'.slot i sl o h1 h2
    cases sl <;> exact q, W'.apart⟩
end
section
variable {X : Cx} {en : Kn} {δ : List Slot} {R : Type} {m : Res R} {K : PySem.W.Frag}
variable {N : List Slot → Res R → Prop} {RT : Slot → List Slot → Res R → Prop} {BK CT : List Slot → Res R → Prop} {pos : Pos}

theorem js_for {S : Type} {tg iter : Expr} {body : List Stmt} (hp : PassesOwn (model X.prog X.w) X.A X.env X.xe) (hc : X.calm = true)
    (h : JI X en δ [] tg iter (fun ds δ1 m1 => ∃ (a0 : S) (f : D → S → Res (LFlow S R)) (k : S → Res R) (pe : S → List Slot), m1 = fbind (forF ds a0 f) k ∧ Le δ1 (pe a0) ∧
      (∀ en', KnLe en en' → ∀ d a, ∃ is, JG X en' (pe a) [] tg d is (fun δ2 m2 => JSs X en' δ2 body (fun δ' m' => ∃ a', m' = .ok (.nx a') ∧ Le δ' (pe a')) (fun s δ' m' => ∃ r, m' = .ok (.rt r) ∧ RT s δ' (.ok r)) (fun δ' m' => ∃ a', m' = .ok (.bk a') ∧ Le δ' (pe a')) (fun δ' m' => ∃ a', m' = .ok (.nx a') ∧ Le δ' (pe a')) m2) (f d a)) ∧ ∀ a, N (pe a) (k a)) m)
    (hs : ∀ x, foldedSetIterable iter X.env x = pure x := by intro _; rfl) : JS X en δ (.For tg iter body [] pos) N RT BK CT m := .mk fun hb hx σ G H E hl W k1 k2 k3 k4 => by
  refine ws_of (ps_for hp hc pi_wi pg_wg pss_wss hs) ?_
  refine h.run hb hx σ [] G H _ hl (W.sl hl) (by rw [List.append_nil, List.append_nil]; exact W) fun ds δ1 J G1 H1 c hl1 W1 it => ?_
  rw [List.append_nil, List.append_nil] at W1
  obtain ⟨a0, f, k, pe, em, le0, turn, hN⟩ := c
  have turn := turn (en.at G1)
  refine ⟨fun i n σ H => n = ds.length - i ∧ i ≤ ds.length ∧ ∃ a G2, (pe a).length = en.n ∧ Wd X.K (en.at G1) (pe a) σ G2 H ∧ m = fbind (forF (ds.drop i) a f) k, ⟨ds.length, by simp, Nat.zero_le _, a0, G1, le0.len.symm.trans hl1, (W1.le le0).from, em⟩, ?_⟩
  rintro i n σ2 H2 ⟨rfl, hi, a, G2, hla, W2, em2⟩
  obtain ⟨go, stop⟩ := it G2 H2 W2.ext W2.frm W2.sub i
  by_cases hlt : i < ds.length
  · obtain ⟨g1, g2⟩ := go ds[i] (List.getElem?_eq_getElem hlt)
    refine .inr ⟨g1, fun σ' H' => ∃ a' G', (pe a').length = en.n ∧ Wd X.K (en.at G1) (pe a') σ' G' H' ∧ m = fbind (forF (ds.drop (i + 1)) a' f) k, fun σ' H' hn => ⟨ds.length - (i + 1), by omega, rfl, hlt, hn⟩, fun x H' hy => ?_⟩
    obtain ⟨G3, gr, rx⟩ := g2 x H' hy
    have ed : ds.drop i = ds[i] :: ds.drop (i + 1) := by rw [List.drop_eq_getElem_cons hlt]
    rw [ed] at em2
    unfold forF at em2
    have hfb : f ds[i] a ≠ .bad := fun z => by rw [z] at em2; exact hb em2
    have hfx : en.HX (f ds[i] a).exc := by
      cases ef : f ds[i] a with
      | ok _ => exact en.h0
      | raise x => rw [ef] at em2; rw [em2] at hx; exact hx
      | bad => exact en.h0
    obtain ⟨is, turn⟩ := turn ⟨rfl, rfl, rfl, rfl⟩ ds[i] a
    refine turn.run hfb hfx σ2 [] G3 H' x _ hla (W2.sl hla) (by rw [List.append_nil, List.append_nil]; exact W2.grow gr) rx fun δ3 σ3 G4 H3 c3 hl3 _ W3 sb3 _ => ?_
    rw [List.append_nil, List.append_nil] at W3
    refine c3.run hfb hfx σ3 G4 H3 _ hl3 W3 (fun δ' σ' G' H' ⟨a', e1, le⟩ hl' W' => ?_) (fun s δ' v σ' G' H' ⟨r, e1, c⟩ hl' W' => ?_) (fun δ' σ' G' H' ⟨a', e1, le⟩ hl' W' => ?_) (fun δ' σ' G' H' ⟨a', e1, le⟩ hl' W' => ?_)
    · rw [e1] at em2
      exact ⟨a', G', le.len.symm.trans hl', W'.le le, em2⟩
    · rw [e1] at em2
      have em3 : m = .ok r := em2
      exact k2 s δ' v σ' G' H' (by rw [em3]; exact c) hl' (Wd.back (en := en) W1 W')
    · rw [e1] at em2
      have em3 : m = k a' := em2
      have := hN a'
      rw [← em3] at this
      exact k1 _ σ' G' H' this (le.len.symm.trans hl') (W1.back (W'.le le))
    · rw [e1] at em2
      exact ⟨a', G', le.len.symm.trans hl', W'.le le, em2⟩
  · have e : i = ds.length := by omega
    subst e
    refine .inl ⟨stop (Nat.le_refl _), ?_⟩
    rw [List.drop_length] at em2
    have em3 : m = k a := em2
    have := hN a
    rw [← em3] at this
    exact k1 _ σ2 G2 H2 this hla (W1.back W2)
theorem JI.conv {τ : List Slot} {tg iter : Expr} {C C' : List D → List Slot → Res R → Prop} (h : JI X en δ τ tg iter C m) (k : ∀ ds δ', C ds δ' m → C' ds δ' m) : JI X en δ τ tg iter C' m := .mk fun hb hx σ ts G H T hl hσ W q =>
  h.run hb hx σ ts G H T hl hσ W fun ds δ' J G' H' c hl' W' it => q ds δ' J G' H' (k _ _ c) hl' W' it
theorem JG.conv {τ : List Slot} {is : List Nat} {R' : Type} {tg : Expr} {d : D} {N : List Slot → Res R → Prop} {N' : List Slot → Res R' → Prop} {m' : Res R'} (h : JG X en δ τ tg d is N m) (hb : m' ≠ .bad → m ≠ .bad) (hx : m'.exc = m.exc) (k : ∀ δ', N δ' m → N' δ' m') : JG X en δ τ tg d is N' m' := .mk fun hb' hx' σ ts G H v T hl hσ W r q =>
  h.run (hb hb') (hx ▸ hx') σ ts G H v T hl hσ W r fun δ' σ' G' H' c hl' hσ' W' sb on => q δ' σ' G' H' (k _ c) hl' hσ' W' sb on
theorem JSs.conv {R' : Type} {st : List Stmt} {N' : List Slot → Res R' → Prop} {RT' : Slot → List Slot → Res R' → Prop} {BK' CT' : List Slot → Res R' → Prop} {m' : Res R'} (h : JSs X en δ st N RT BK CT m) (hb : m' ≠ .bad → m ≠ .bad) (hx : m'.exc = m.exc)
    (k1 : ∀ δ', N δ' m → N' δ' m') (k2 : ∀ s δ', RT s δ' m → RT' s δ' m') (k3 : ∀ δ', BK δ' m → BK' δ' m') (k4 : ∀ δ', CT δ' m → CT' δ' m') : JSs X en δ st N' RT' BK' CT' m' := .mk fun hb' hx' σ G H E hl W q1 q2 q3 q4 =>
  h.run (hb hb') (hx ▸ hx') σ G H E hl W (fun δ' σ' G' H' c hl' W' => q1 δ' σ' G' H' (k1 _ c) hl' W') (fun s δ' v σ' G' H' c hl' W' => q2 s δ' v σ' G' H' (k2 _ _ c) hl' W') (fun δ' σ' G' H' c hl' W' => q3 δ' σ' G' H' (k3 _ c) hl' W') (fun δ' σ' G' H' c hl' W' => q4 δ' σ' G' H' (k4 _ c) hl' W')
theorem toL_bad {S : Type} {m1 : Res S} (h : (toL m1 : Res (LFlow S R)) ≠ .bad) : m1 ≠ .bad := fun z => by subst z; exact h rfl
theorem toL_exc {S : Type} (m1 : Res S) : (toL m1 : Res (LFlow S R)).exc = m1.exc := by cases m1 <;> rfl
/-- a for loop out of which nothing leads -/
theorem js_forS {S : Type} {tg iter : Expr} {body : List Stmt} (hp : PassesOwn (model X.prog X.w) X.A X.env X.xe) (hc : X.calm = true)
    (h : JI X en δ [] tg iter (fun ds δ1 m1 => ∃ (a0 : S) (f : D → S → Res S) (k : S → Res R) (pe : S → List Slot), m1 = (forS ds a0 f).bind k ∧ Le δ1 (pe a0) ∧
      (∀ en', KnLe en en' → ∀ d a, ∃ is, JG X en' (pe a) [] tg d is (fun δ2 m2 => JSs X en' δ2 body (fun δ' m' => ∃ a', m' = .ok a' ∧ Le δ' (pe a')) (fun _ _ _ => False) (fun _ _ => False) (fun δ' m' => ∃ a', m' = .ok a' ∧ Le δ' (pe a')) m2) (f d a)) ∧ ∀ a, N (pe a) (k a)) m)
    (hs : ∀ x, foldedSetIterable iter X.env x = pure x := by intro _; rfl) : JS X en δ (.For tg iter body [] pos) N RT BK CT m := by
  refine js_for (S := S) hp hc (h.conv fun ds δ1 c => ?_) hs
  obtain ⟨a0, f, k, pe, em, le, turn, hN⟩ := c
  refine ⟨a0, fun d a => toL (f d a), k, pe, em.trans (forS_F f k ds a0), le, fun en' he d a => ?_, hN⟩
  obtain ⟨is, tr⟩ := turn en' he d a
  refine ⟨is, tr.conv toL_bad (toL_exc _) fun δ' c => ?_⟩
  refine c.conv toL_bad (toL_exc _) (fun δ2 ⟨a', e1, le⟩ => ⟨a', ?_, le⟩) (fun _ _ z => z.elim) (fun _ z => z.elim) (fun δ2 ⟨a', e1, le⟩ => ⟨a', ?_, le⟩)
  · show toL (f d a) = _
    rw [e1]; rfl
  · show toL (f d a) = _
    rw [e1]; rfl
theorem js_while {S : Type} {c : Expr} {body : List Stmt} (pe : S → List Slot) (hp : PassesOwn (model X.prog X.w) X.A X.env X.xe)
    (h : ∃ (n : Nat) (a0 : S) (t : S → Res Bool) (f : S → Res (LFlow S R)) (k : S → Res R), m = fbind (whileF n a0 t f) k ∧ Le δ (pe a0) ∧
      (∀ en', KnLe en en' → ∀ a, JT X en' (pe a) [] c (fun b δ' m' => m' = .ok b ∧ Le δ' (pe a)) (t a)) ∧
      (∀ en', KnLe en en' → ∀ a, JSs X en' (pe a) body (fun δ' m' => ∃ a', m' = .ok (.nx a') ∧ Le δ' (pe a')) (fun s δ' m' => ∃ r, m' = .ok (.rt r) ∧ RT s δ' (.ok r)) (fun δ' m' => ∃ a', m' = .ok (.bk a') ∧ Le δ' (pe a')) (fun δ' m' => ∃ a', m' = .ok (.nx a') ∧ Le δ' (pe a')) (f a)) ∧ ∀ a, N (pe a) (k a)) : JS X en δ (.While c body [] pos) N RT BK CT m := .mk fun hb hx σ G H E hl W k1 k2 k3 k4 => by
  obtain ⟨n0, a0, t, f, k, em, le0, test, turn, hN⟩ := h
  have test := test en ⟨rfl, rfl, rfl, rfl⟩
  have turn := turn en ⟨rfl, rfl, rfl, rfl⟩
  refine ws_of (ps_while hp pt_wt pss_wss) ?_
  refine ⟨fun n σ H => ∃ a G2, (pe a).length = en.n ∧ Wd X.K en (pe a) σ G2 H ∧ m = fbind (whileF n a t f) k, ⟨n0, a0, G, le0.len.symm.trans hl, W.le le0, em⟩, ?_⟩
  rintro n σ2 H2 ⟨a, G2, hla, W2, em2⟩
  cases n with
  | zero => exact (hb em2).elim
  | succ n =>
    unfold whileF at em2
    have htb : t a ≠ .bad := fun z => by rw [z] at em2; exact hb em2
    have htx : en.HX (t a).exc := by
      cases ef : t a with
      | ok _ => exact en.h0
      | raise x => rw [ef] at em2; rw [em2] at hx; exact hx
      | bad => exact en.h0
    refine (test a).at htb htx hla W2 fun b δ' G' H' ⟨e1, le⟩ hl' W' => ?_
    rw [e1] at em2
    cases b with
    | false =>
      have em3 : m = k a := em2
      have := hN a
      rw [← em3] at this
      exact iteF (k1 _ σ2 G' H' this hla (W'.le le))
    | true =>
      simp only [Res.bind, if_true] at em2
      refine iteT ⟨fun σ' H' => ∃ a' G', (pe a').length = en.n ∧ Wd X.K en (pe a') σ' G' H' ∧ m = fbind (whileF n a' t f) k, fun σ' H' hn => ⟨n, Nat.lt_succ_self n, hn⟩, ?_⟩
      have hfb : f a ≠ .bad := fun z => by rw [z] at em2; exact hb em2
      have hfx : en.HX (f a).exc := by
        cases ef : f a with
        | ok _ => exact en.h0
        | raise x => rw [ef] at em2; rw [em2] at hx; exact hx
        | bad => exact en.h0
      refine (turn a).run hfb hfx σ2 G' H' _ hla (W'.le le) (fun δ' σ' G' H' ⟨a', e1, le⟩ hl' W' => ?_) (fun s δ' v σ' G' H' ⟨r, e1, c⟩ hl' W' => ?_) (fun δ' σ' G' H' ⟨a', e1, le⟩ hl' W' => ?_) (fun δ' σ' G' H' ⟨a', e1, le⟩ hl' W' => ?_)
      · rw [e1] at em2
        exact ⟨a', G', le.len.symm.trans hl', W'.le le, em2⟩
      · rw [e1] at em2
        have em3 : m = .ok r := em2
        exact k2 s δ' v σ' G' H' (by rw [em3]; exact c) hl' W'
      · rw [e1] at em2
        have em3 : m = k a' := em2
        have := hN a'
        rw [← em3] at this
        exact k1 _ σ' G' H' this (le.len.symm.trans hl') (W'.le le)
      · rw [e1] at em2
        exact ⟨a', G', le.len.symm.trans hl', W'.le le, em2⟩
theorem js_whileS {S : Type} {c : Expr} {body : List Stmt} (pe : S → List Slot) (hp : PassesOwn (model X.prog X.w) X.A X.env X.xe)
    (h : ∃ (n : Nat) (a0 : S) (t : S → Res Bool) (f : S → Res S) (k : S → Res R), m = (whileS n a0 t f).bind k ∧ Le δ (pe a0) ∧
      (∀ en', KnLe en en' → ∀ a, JT X en' (pe a) [] c (fun b δ' m' => m' = .ok b ∧ Le δ' (pe a)) (t a)) ∧
      (∀ en', KnLe en en' → ∀ a, JSs X en' (pe a) body (fun δ' m' => ∃ a', m' = .ok a' ∧ Le δ' (pe a')) (fun _ _ _ => False) (fun _ _ => False) (fun δ' m' => ∃ a', m' = .ok a' ∧ Le δ' (pe a')) (f a)) ∧ ∀ a, N (pe a) (k a)) : JS X en δ (.While c body [] pos) N RT BK CT m := by
  obtain ⟨n, a0, t, f, k, em, le, test, turn, hN⟩ := h
  refine js_while pe hp ⟨n, a0, t, fun a => toL (f a), k, em.trans (whileS_F t f k n a0), le, test, fun en' he a => ?_, hN⟩
  refine (turn en' he a).conv toL_bad (toL_exc _) (fun δ2 ⟨a', e1, le⟩ => ⟨a', ?_, le⟩) (fun _ _ z => z.elim) (fun _ z => z.elim) (fun δ2 ⟨a', e1, le⟩ => ⟨a', ?_, le⟩)
  · show toL (f a) = _
    rw [e1]; rfl
  · show toL (f a) = _
    rw [e1]; rfl

/-! ### ranges -/
def upto (lo : Int) (n : Nat) : List D := (List.range n).map fun (i : Nat) => D.int (lo + (i : Int))
/-- the numbers of range(..) -/
def rngD : List D → Option (List D)
  | [.int j] => if -(2 ^ 62) ≤ j ∧ j < 2 ^ 62 then some (upto 0 j.toNat) else none
  | [.int i, .int j] => if (-(2 ^ 62) ≤ i ∧ i < 2 ^ 62) ∧ -(2 ^ 62) ≤ j ∧ j < 2 ^ 62 then some (upto i (j - i).toNat) else none
  | _ => none
theorem itr_D {lo : Int} {n : Nat} {Gb Fb : Hp} : ItD K (Itr lo n) Gb Fb (upto lo n) := fun G H sg sf gh i => by
  refine ⟨fun d e => ?_, fun hi => (by simpa [upto] using hi : n ≤ i)⟩
  have hi : i < n := by
    have := (List.getElem?_eq_some_iff.mp e).1
    simpa [upto] using this
  refine ⟨hi, fun x H' hy => ?_⟩
  obtain ⟨e1, e2⟩ := hy
  subst e1
  have e3 : d = .int (lo + i) := by
    unfold upto at e
    rw [List.getElem?_map, List.getElem?_range hi] at e
    exact (Option.some.inj e).symm
  subst e3
  exact ⟨G, Grow.refl gh, e2⟩
theorem ji_range1 {τ : List Slot} {tg a : Expr} {p pos : Pos} {C : List D → List Slot → Res R → Prop} (hm : X.mg "range" = none)
    (h : JE X en δ τ a (fun s δ1 m1 => ∃ d k, s.rd δ1 = some d ∧ m1 = op (rngD [d]) k ∧ ∀ ds, C ds δ1 (k ds)) m) (hg : Gl X "range" := by rfl) (hs : starEach [a] X.env = [(false, eval a X.env)] := by rfl) : JI X en δ τ tg (.Call (.Name "range" p) [a] [] pos) C m := .mk fun hb hx σ ts G H T hl hσ W k => by
  refine wi_of (pi_range1 hg hm (pa_cons pe_we pa_nil (by rw [hs]; rfl)) hs) ?_
  have ht : τ.length = ts.length := W.splitLen (hl.trans hσ.symm)
  refine h.run hb hx σ ts G H _ hl hσ W fun s δ1 v G1 H1 c1 hl1 W1 => ?_
  obtain ⟨d, k', e1, em, hk⟩ := c1
  have hb' := hb
  rw [em] at hb'
  obtain ⟨ds, ed⟩ := op_some hb'
  have em' : m = k' ds := by rw [em, ed]; rfl
  have hk2 := hk ds
  rw [← em'] at hk2
  obtain ⟨⟨_, _, ez, r1, _⟩, Wn⟩ := Wd.ends (sls := [s]) (vs := [v]) W1 (hl1.trans hσ.symm) ht (ds := [d]) (by simp only [rds, e1])
  cases ez
  match d, ed, r1 with
  | .int j, ed, r1 =>
    have r1' : v = .int j := r1
    subst r1'
    have ed' : (if -(2 ^ 62) ≤ j ∧ j < 2 ^ 62 then some (upto 0 j.toNat) else none) = some ds := ed
    by_cases hj : -(2 ^ 62) ≤ j ∧ j < 2 ^ 62
    · rw [if_pos hj] at ed'
      cases ed'
      exact ⟨j, rfl, hj.1, hj.2, k _ δ1 _ G1 H1 hk2 hl1 (Wn (by omega)) itr_D⟩
    · rw [if_neg hj] at ed'; cases ed'
  | .non, ed, _ => cases ed
  | .bl _, ed, _ => cases ed
  | .str _, ed, _ => cases ed
  | .lst _, ed, _ => cases ed
  | .tup _, ed, _ => cases ed
  | .dic _, ed, _ => cases ed
  | .scr _, ed, _ => cases ed
  | .exc _ _, ed, _ => cases ed
  | .obj _ _, ed, _ => cases ed
end
end BR

/-! K7: what a def promises, its body, its call -/
namespace BR
open PySem PySem.Spec PyProof.Rows L2

/-- how a parameter is handed: standing fast; read alone; to be changed -/
inductive Kd where
  | f | b | m
def nms : List Kd → Nat
  | [] => 0
  | .f :: r => nms r
  | .b :: r => nms r
  | .m :: r => nms r + 1
def hide (H : Hp) (ps : List Addr) : Hp := fun a => if a ∈ ps then none else H a
theorem hide_sub {H : Hp} {ps : List Addr} : Sub (hide H ps) H := fun a o e => by
  unfold hide at e
  split at e
  · cases e
  · exact e
theorem hide_none {H : Hp} {ps : List Addr} {p : Addr} (h : p ∈ ps) : hide H ps p = none := if_pos h
theorem hide_some {H : Hp} {ps : List Addr} {p : Addr} (h : p ∉ ps) : hide H ps p = H p := if_neg h
def ArgsOk (K : PySem.W.Frag) (G H F0 : Hp) : List Kd → List D → List V → List Addr → Prop
  | [], [], [], [] => True
  | .f :: ks, d :: ds, v :: vs, ps => Rep K G d v ∧ ArgsOk K G H F0 ks ds vs ps
  | .b :: ks, d :: ds, v :: vs, ps => BRep K G F0 d v ∧ ArgsOk K G H F0 ks ds vs ps
  | .m :: ks, d :: ds, v :: vs, p :: ps => (v = .ref p ∧ G p = none ∧ MRep K G H d p) ∧ ArgsOk K G H F0 ks ds vs ps
  | _, _, _, _ => False
/-- what stands for an error that leaves a def -/
def ExcOk (mg : Str → Option Value) (F0 : Hp) (ps : List Addr) (x : Exc) (cls : Value) (d : Option Addr) (H : Hp) : Prop :=
  ∃ C, mg x.cls = some (.ref C) ∧ cls = .ref C ∧ ((x.fs = [] ∧ d = none) ∨ (x.fs ≠ [] ∧ ∃ a, d = some a ∧ H a = some (.xd (xfV x.fs)) ∧ F0 a = none ∧ a ∉ ps))
theorem ExcOk.to {mg : Str → Option Value} {F F' : Hp} {ps ps' : List Addr} {x : Exc} {cls : Value} {d : Option Addr} {H : Hp} (h : ExcOk mg F ps x cls d H) (k : ∀ a, F a = none → a ∉ ps → F' a = none ∧ a ∉ ps') : ExcOk mg F' ps' x cls d H := by
  obtain ⟨C, h1, h2, h3⟩ := h
  refine ⟨C, h1, h2, ?_⟩
  rcases h3 with h3 | ⟨h3, a, h4, h5, h6, h7⟩
  · exact .inl h3
  · obtain ⟨k1, k2⟩ := k a h6 h7
    exact .inr ⟨h3, a, h4, h5, k1, k2⟩
theorem Wd.exc {K : PySem.W.Frag} {mg : Str → Option Value} {en : Kn} {δ : List Slot} {σ : L2.St} {G H H' : Hp} {ps : List Addr} {x : Exc} {cls : Value} {d : Option Addr} (W : Wd K en δ σ G H) (h : ExcOk mg (hide H ps) ps x cls d H') : ExcOk mg en.F0 en.ps x cls d H' :=
  h.to fun a h1 h2 => by
    rw [hide_some h2] at h1
    refine ⟨?_, fun z => W.stay a z h1⟩
    cases z : en.F0 a with
    | none => rfl
    | some o => rw [W.frm a o z] at h1; cases h1
/-- behind a run: what stands fast has grown, what was tracked is as it was but for the lists ps -/
structure Post (G H G' H' : Hp) (ps : List Addr) : Prop where
  g : Sub G G'
  gh : Sub G' H'
  new : ∀ a o, G' a = some o → G a = some o ∨ H a = none
  frm : ∀ a o, H a = some o → a ∉ ps → H' a = some o
def OutsOk (K : PySem.W.Frag) (G' H' : Hp) : List D → List Addr → Prop
  | [], [] => True
  | d :: ds, p :: ps => (G' p = none ∧ MRep K G' H' d p) ∧ OutsOk K G' H' ds ps
  | _, _ => False
def RetOk (K : PySem.W.Frag) (G' H H' : Hp) (mu : Bool) (d : D) (v : V) : Prop :=
  if mu = true then ∃ p, v = .ref p ∧ H p = none ∧ G' p = none ∧ MRep K G' H' d p else Rep K G' d v
def SpD (K : PySem.W.Frag) (mg : Str → Option Value) (ks : List Kd) {α : Type} (f : List D → Res α) (val : α → D) (outs : α → List D) (mu : Bool) : Sp := fun vs H Q E =>
  vs.length = ks.length ∧ ∃ (G : Hp) (ps : List Addr) (ds : List D) (r : Res α), Sub G H ∧ ps.Nodup ∧ ArgsOk K G H (hide H ps) ks ds vs ps ∧ f ds = r ∧ r ≠ .bad ∧
    (∀ a, r = .ok a → ∀ v G' H', Post G H G' H' ps → OutsOk K G' H' (outs a) ps → RetOk K G' H H' mu (val a) v → Q v H') ∧
    (∀ x, r = .raise x → ∀ cls d H', ExcOk mg (hide H ps) ps x cls d H' → Sub (hide H ps) H' → E cls d H')

/-- the names' slots at a def's entry -/
def slots0 : Nat → List Kd → List D → List Slot
  | j, .f :: ks, d :: ds => .fr d :: slots0 j ks ds
  | j, .b :: ks, d :: ds => .bw d :: slots0 j ks ds
  | j, .m :: ks, d :: ds => .mp j d :: slots0 (j + 1) ks ds
  | _, _, _ => []
section
variable {K : PySem.W.Frag} {en : Kn} {G H : Hp}
theorem args_len : ∀ {ks : List Kd} {ds : List D} {vs : List V} {ps : List Addr} {F0 : Hp}, ArgsOk K G H F0 ks ds vs ps → ds.length = ks.length ∧ vs.length = ks.length
  | [], [], [], [], _, _ => ⟨rfl, rfl⟩
  | .f :: ks, d :: ds, v :: vs, ps, _, h => by have := args_len h.2; simp [this.1, this.2]
  | .b :: ks, d :: ds, v :: vs, ps, _, h => by have := args_len h.2; simp [this.1, this.2]
  | .m :: ks, d :: ds, v :: vs, p :: ps, _, h => by have := args_len h.2; simp [this.1, this.2]
  | [], _ :: _, _, _, _, h => h.elim
  | [], [], _ :: _, _, _, h => h.elim
  | [], [], [], _ :: _, _, h => h.elim
  | .f :: _, [], _, _, _, h => h.elim
  | .f :: _, _ :: _, [], _, _, h => h.elim
  | .b :: _, [], _, _, _, h => h.elim
  | .b :: _, _ :: _, [], _, _, h => h.elim
  | .m :: _, [], _, _, _, h => h.elim
  | .m :: _, _ :: _, [], _, _, h => h.elim
  | .m :: _, _ :: _, _ :: _, [], _, h => h.elim
theorem slots0_len : ∀ {ks : List Kd} {ds : List D} {j : Nat}, ds.length = ks.length → (slots0 j ks ds).length = ks.length
  | [], [], _, _ => rfl
  | [], _ :: _, _, h => nomatch h
  | _ :: _, [], _, h => nomatch h
  | .f :: ks, d :: ds, j, h => by simp [slots0, slots0_len (ks := ks) (ds := ds) (j := j) (by simpa using h)]
  | .b :: ks, d :: ds, j, h => by simp [slots0, slots0_len (ks := ks) (ds := ds) (j := j) (by simpa using h)]
  | .m :: ks, d :: ds, j, h => by simp [slots0, slots0_len (ks := ks) (ds := ds) (j := j + 1) (by simpa using h)]
theorem args_slot : ∀ {ks : List Kd} {ds : List D} {vs : List V} {ps' : List Addr} {F0 : Hp} {j : Nat} {i : Nat} {sl : Slot} {S : L2.St}, ArgsOk K G H F0 ks ds vs ps' → F0 = en.F0 → (∀ (l : Nat) p, ps'[l]? = some p → en.ps[j + l]? = some p) → (∀ p, p ∈ en.ps → en.F0 p = none) →
    (slots0 j ks ds)[i]? = some sl → ∃ v, vs[i]? = some v ∧ SlotOk K en S G H sl (some v) ∧ ∀ d, sl ≠ .mu d
  | [], [], [], [], _, _, _, _, _, _, _, _, _, e => by simp [slots0] at e
  | .f :: ks, d :: ds, v :: vs, ps, _, j, 0, sl, S, h, _, _, _, e => by
    have e' : Slot.fr d = sl := by simpa [slots0] using e
    subst e'
    exact ⟨v, rfl, ⟨v, rfl, h.1⟩, fun d z => by cases z⟩
  | .f :: ks, d :: ds, v :: vs, ps, _, j, i + 1, sl, S, h, hf, hj, hp, e => by
    simpa using args_slot (i := i) h.2 hf hj hp (by simpa [slots0] using e)
  | .b :: ks, d :: ds, v :: vs, ps, _, j, 0, sl, S, h, hf, _, _, e => by
    have e' : Slot.bw d = sl := by simpa [slots0] using e
    subst e'
    exact ⟨v, rfl, ⟨v, rfl, by rw [← hf]; exact h.1⟩, fun d z => by cases z⟩
  | .b :: ks, d :: ds, v :: vs, ps, _, j, i + 1, sl, S, h, hf, hj, hp, e => by
    simpa using args_slot (i := i) h.2 hf hj hp (by simpa [slots0] using e)
  | .m :: ks, d :: ds, v :: vs, p :: ps, _, j, 0, sl, S, h, hf, hj, hp, e => by
    have e' : Slot.mp j d = sl := by simpa [slots0] using e
    subst e'
    obtain ⟨⟨e1, e2, e3⟩, _⟩ := h
    have hpp : en.ps[j]? = some p := hj 0 p rfl
    exact ⟨v, rfl, ⟨p, by rw [e1], hpp, e2, hp p (List.mem_of_getElem? hpp), e3⟩, fun d z => by cases z⟩
  | .m :: ks, d :: ds, v :: vs, p :: ps, _, j, i + 1, sl, S, h, hf, hj, hp, e => by
    simpa using args_slot (i := i) (j := j + 1) h.2 hf (fun l q hq => by have := hj (l + 1) q (by simpa using hq); rw [Nat.add_assoc, Nat.add_comm 1 l]; exact this) hp (by simpa [slots0] using e)
  | [], _ :: _, _, _, _, _, _, _, _, h, _, _, _, _ => h.elim
  | [], [], _ :: _, _, _, _, _, _, _, h, _, _, _, _ => h.elim
  | [], [], [], _ :: _, _, _, _, _, _, h, _, _, _, _ => h.elim
  | .f :: _, [], _, _, _, _, _, _, _, h, _, _, _, _ => h.elim
  | .f :: _, _ :: _, [], _, _, _, _, _, _, h, _, _, _, _ => h.elim
  | .b :: _, [], _, _, _, _, _, _, _, h, _, _, _, _ => h.elim
  | .b :: _, _ :: _, [], _, _, _, _, _, _, h, _, _, _, _ => h.elim
  | .m :: _, [], _, _, _, _, _, _, _, h, _, _, _, _ => h.elim
  | .m :: _, _ :: _, [], _, _, _, _, _, _, h, _, _, _, _ => h.elim
  | .m :: _, _ :: _, _ :: _, [], _, _, _, _, _, h, _, _, _, _ => h.elim
theorem args_there : ∀ {ks : List Kd} {ds : List D} {vs : List V} {ps : List Addr} {F0 : Hp}, ArgsOk K G H F0 ks ds vs ps → ∀ p, p ∈ ps → H p ≠ none ∧ G p = none
  | [], [], [], [], _, _, p, hp => absurd hp (by simp)
  | .f :: ks, d :: ds, v :: vs, ps, _, h, p, hp => args_there h.2 p hp
  | .b :: ks, d :: ds, v :: vs, ps, _, h, p, hp => args_there h.2 p hp
  | .m :: ks, d :: ds, v :: vs, q :: ps, _, h, p, hp => by
    rcases List.mem_cons.mp hp with e | hp
    · subst e
      obtain ⟨o, e⟩ := h.1.2.2.ex
      exact ⟨by rw [e]; simp, h.1.2.1⟩
    · exact args_there h.2 p hp
  | [], _ :: _, _, _, _, h, _, _ => h.elim
  | [], [], _ :: _, _, _, h, _, _ => h.elim
  | [], [], [], _ :: _, _, h, _, _ => h.elim
  | .f :: _, [], _, _, _, h, _, _ => h.elim
  | .f :: _, _ :: _, [], _, _, h, _, _ => h.elim
  | .b :: _, [], _, _, _, h, _, _ => h.elim
  | .b :: _, _ :: _, [], _, _, h, _, _ => h.elim
  | .m :: _, [], _, _, _, h, _, _ => h.elim
  | .m :: _, _ :: _, [], _, _, h, _, _ => h.elim
  | .m :: _, _ :: _, _ :: _, [], _, h, _, _ => h.elim
theorem mp_ge : ∀ {ks : List Kd} {ds : List D} {j i x : Nat} {d : D}, (slots0 j ks ds)[i]? = some (.mp x d) → j ≤ x
  | [], _, _, _, _, _, h => by simp [slots0] at h
  | _ :: _, [], _, _, _, _, h => by simp [slots0] at h
  | .f :: ks, e :: ds, j, 0, x, d, h => by simp [slots0] at h
  | .b :: ks, e :: ds, j, 0, x, d, h => by simp [slots0] at h
  | .m :: ks, e :: ds, j, 0, x, d, h => by simp [slots0] at h; omega
  | .f :: ks, e :: ds, j, i + 1, x, d, h => mp_ge (ks := ks) (ds := ds) (i := i) (d := d) (by simpa [slots0] using h)
  | .b :: ks, e :: ds, j, i + 1, x, d, h => mp_ge (ks := ks) (ds := ds) (i := i) (d := d) (by simpa [slots0] using h)
  | .m :: ks, e :: ds, j, i + 1, x, d, h => Nat.le_of_succ_le (mp_ge (ks := ks) (ds := ds) (j := j + 1) (i := i) (d := d) (by simpa [slots0] using h))
theorem mp_inj : ∀ {ks : List Kd} {ds : List D} {j i l x : Nat} {d d' : D}, (slots0 j ks ds)[i]? = some (.mp x d) → (slots0 j ks ds)[l]? = some (.mp x d') → i = l
  | [], _, _, _, _, _, _, _, h, _ => by simp [slots0] at h
  | _ :: _, [], _, _, _, _, _, _, h, _ => by simp [slots0] at h
  | .f :: ks, e :: ds, j, 0, _, x, d, d', h, _ => by simp [slots0] at h
  | .b :: ks, e :: ds, j, 0, _, x, d, d', h, _ => by simp [slots0] at h
  | .f :: ks, e :: ds, j, _ + 1, 0, x, d, d', _, h => by simp [slots0] at h
  | .b :: ks, e :: ds, j, _ + 1, 0, x, d, d', _, h => by simp [slots0] at h
  | .f :: ks, e :: ds, j, i + 1, l + 1, x, d, d', h, h2 => congrArg (· + 1) (mp_inj (ks := ks) (ds := ds) (j := j) (by simpa [slots0] using h) (by simpa [slots0] using h2))
  | .b :: ks, e :: ds, j, i + 1, l + 1, x, d, d', h, h2 => congrArg (· + 1) (mp_inj (ks := ks) (ds := ds) (j := j) (by simpa [slots0] using h) (by simpa [slots0] using h2))
  | .m :: ks, e :: ds, j, i + 1, l + 1, x, d, d', h, h2 => congrArg (· + 1) (mp_inj (ks := ks) (ds := ds) (j := j + 1) (by simpa [slots0] using h) (by simpa [slots0] using h2))
  | .m :: ks, e :: ds, j, 0, 0, x, d, d', _, _ => rfl
  | .m :: ks, e :: ds, j, 0, l + 1, x, d, d', h, h2 => by
    have h3 : j = x := by simp [slots0] at h; exact h.1
    have := mp_ge (ks := ks) (ds := ds) (j := j + 1) (i := l) (x := x) (d := d') (by simpa [slots0] using h2)
    omega
  | .m :: ks, e :: ds, j, i + 1, 0, x, d, d', h, h2 => by
    have h3 : j = x := by simp [slots0] at h2; exact h2.1
    have := mp_ge (ks := ks) (ds := ds) (j := j + 1) (i := i) (x := x) (d := d) (by simpa [slots0] using h)
    omega
theorem args_ps : ∀ {ks : List Kd} {ds : List D} {vs : List V} {ps : List Addr} {F0 : Hp}, ArgsOk K G H F0 ks ds vs ps → ps.length = nms ks
  | [], [], [], [], _, _ => rfl
  | .f :: ks, d :: ds, v :: vs, ps, _, h => (args_ps (ks := ks) h.2 : _)
  | .b :: ks, d :: ds, v :: vs, ps, _, h => (args_ps (ks := ks) h.2 : _)
  | .m :: ks, d :: ds, v :: vs, q :: ps, _, h => congrArg (· + 1) (args_ps h.2)
  | [], _ :: _, _, _, _, h => h.elim
  | [], [], _ :: _, _, _, h => h.elim
  | [], [], [], _ :: _, _, h => h.elim
  | .f :: _, [], _, _, _, h => h.elim
  | .f :: _, _ :: _, [], _, _, h => h.elim
  | .b :: _, [], _, _, _, h => h.elim
  | .b :: _, _ :: _, [], _, _, h => h.elim
  | .m :: _, [], _, _, _, h => h.elim
  | .m :: _, _ :: _, [], _, _, h => h.elim
  | .m :: _, _ :: _, _ :: _, [], _, h => h.elim
theorem Wd.start {N : List Str} {ks : List Kd} {ds : List D} {vs : List V} (hG : Sub G H) (h0 : en.G0 = G) (hF : en.F0 = hide H en.ps) (hn : en.ps.Nodup) (ha : ArgsOk K G H (hide H en.ps) ks ds vs en.ps) (hl : ks.length ≤ N.length) :
    Wd K en (slots0 0 ks ds ++ List.replicate (N.length - ks.length) .un) (L2.start N vs) G H := by
  obtain ⟨l1, l2⟩ := args_len ha
  have l3 : (slots0 0 ks ds).length = ks.length := slots0_len l1
  have mem : ∀ (i : Nat) p, Own (slots0 0 ks ds ++ List.replicate (N.length - ks.length) Slot.un) (L2.start N vs) i p → ∃ x d, (slots0 0 ks ds)[i]? = some (.mp x d) ∧ en.ps[x]? = some p := fun i p ⟨sl, e1, e2, e3⟩ => by
    by_cases hi : i < (slots0 0 ks ds).length
    · rw [List.getElem?_append_left hi] at e1
      obtain ⟨v, h3, h4, z⟩ := args_slot (en := en) (S := []) (j := 0) ha hF.symm (fun l p h => by rw [Nat.zero_add]; exact h) (fun p hp => by rw [hF]; exact hide_none hp) e1
      have : (L2.start N vs)[i]? = some (some v) := by
        unfold L2.start
        rw [List.getElem?_append_left (by rw [List.length_map]; omega), List.getElem?_map, h3]; rfl
      rw [this] at e3
      cases e3
      cases sl with
      | mu d => exact (z d rfl).elim
      | mp x d =>
        obtain ⟨q, e4, e5, _⟩ := h4
        cases e4
        exact ⟨x, d, e1, e5⟩
      | un => cases e2
      | fr _ => cases e2
      | bw _ => cases e2
      | bo _ => cases e2
    · rw [List.getElem?_append_right (Nat.le_of_not_lt hi), List.getElem?_replicate] at e1
      split at e1
      · cases e1; cases e2
      · cases e1
  refine ⟨?_, hG, by rw [h0]; exact Sub.refl _, fun a o e => .inl (by rw [h0]; exact e), by rw [hF]; exact hide_sub, fun a h => (args_there ha a h).1, hn, fun i sl o h1 h2 => ?_, fun i j p h1 h2 => by
    obtain ⟨x, d, e1, e2⟩ := mem i p h1
    obtain ⟨y, d', e3, e4⟩ := mem j p h2
    have hx := List.getElem?_eq_some_iff.mp e2
    have hy := List.getElem?_eq_some_iff.mp e4
    have exy : x = y := (List.getElem_inj hn).mp (hx.2.trans hy.2.symm)
    subst exy
    exact mp_inj e1 e3⟩
  · unfold L2.start
    rw [List.length_append, List.length_append, l3, List.length_map, List.length_replicate, List.length_replicate, l2]
  · by_cases hi : i < (slots0 0 ks ds).length
    · rw [List.getElem?_append_left hi] at h1
      obtain ⟨v, h3, h4, _⟩ := args_slot (en := en) (S := L2.start N vs) (j := 0) ha hF.symm (fun l p h => by rw [Nat.zero_add]; exact h) (fun p hp => by rw [hF]; exact hide_none hp) h1
      have : (L2.start N vs)[i]? = some (some v) := by
        unfold L2.start
        rw [List.getElem?_append_left (by rw [List.length_map]; omega), List.getElem?_map, h3]; rfl
      rw [this] at h2
      cases h2
      exact h4
    · rw [List.getElem?_append_right (Nat.le_of_not_lt hi), List.getElem?_replicate] at h1
      split at h1
      · cases h1; trivial
      · cases h1
end

theorem takes0N {X : Cx} : L2N.Takes X (fun _ _ _ _ => False) := fun _ _ x => by
  obtain ⟨_, _, _, _, _, _, _, _, _, _, _, _, _, _, _, _, z⟩ := x
  exact z.elim
/-- the errors of a body: they are what is wished for -/
def Lk (X : Cx) (en : Kn) : Prop := ∃ W : WX, L2N.Takes X W ∧ ∀ x, en.HX (some x) → ∀ cls d σ H', ExcOk X.mg en.F0 en.ps x cls d H' → Sub en.F0 H' → W cls d σ H'
theorem KnLe.lk {X : Cx} {en en' : Kn} (h : KnLe en en') (l : Lk X en) : Lk X en' := by
  obtain ⟨W, t, k⟩ := l
  exact ⟨W, t, fun x hx cls d σ H' e s => k x (h.HX ▸ hx) cls d σ H' (e.to fun a h1 h2 => ⟨h.F0 ▸ h1, h.ps ▸ h2⟩) (h.F0 ▸ s)⟩
/-- the lists of the caller's, as told -/
def OutsAt (δ : List Slot) : Nat → List D → Prop
  | _, [] => True
  | j, d :: ds => (∃ i : Nat, δ[i]? = some (.mp j d)) ∧ OutsAt δ (j + 1) ds
def Slot.rets (mu : Bool) (d : D) (s : Slot) : Prop := s = if mu = true then .mu d else .fr d
section
variable {K : PySem.W.Frag} {en : Kn} {G H : Hp}
theorem Wd.outs {δ : List Slot} {σ : L2.St} (W : Wd K en δ σ G H) : ∀ {ds : List D} {j : Nat} {ps : List Addr}, (∀ l : Nat, ps[l]? = en.ps[j + l]?) → ds.length = ps.length → OutsAt δ j ds → OutsOk K G H ds ps
  | [], _, [], _, _, _ => trivial
  | [], _, _ :: _, _, h, _ => nomatch h
  | _ :: _, _, [], _, h, _ => nomatch h
  | d :: ds, j, p :: ps, hj, hl, h => by
    obtain ⟨⟨i, hi⟩, h2⟩ := h
    obtain ⟨o, h3, q, e, e2, n, _, r⟩ := W.at hi
    have e3 : en.ps[j]? = some p := (hj 0).symm
    rw [e3] at e2
    cases e2
    exact ⟨⟨n, r⟩, Wd.outs W (fun l => by have := hj (l + 1); rw [Nat.add_assoc, Nat.add_comm 1 l]; simpa using this) (by simpa using hl) h2⟩
end
variable {P : Program} {w : World} {K : PySem.W.Frag} {mg : Str → Option Value} {base : Heap}
/-- THE RULE for a def -/
theorem fn_D {x qual : Str} {st : Stmt} {fa : Addr} {fd : FuncData} {N psn : List Str} {k : Nat} {ks : List Kd} {α : Type} {f : List D → Res α} {val : α → D} {outs : α → List D} {mu : Bool}
    (F : L2.Fun K x qual st fa fd) (S : FnScope N psn (defScope st)) (hk : ks.length = psn.length) (nm : Nat) (hnm : ∀ a, (outs a).length = nm) (hms : nms ks = nm)
    (body : ∀ (X : Cx) (en : Kn) (cdv : Value) (A : Around) (outer : List Env) (s : Shared) (H : Hp) (E : XK) (ds : List D), X = cxOf (L2N.CX P w) P w K mg base N qual (defScope st) fa cdv A outer s H E → RoomG k X.A → en.n = N.length → Lk X en → PassesOwn (model X.prog X.w) X.A X.env X.xe → ds.length = ks.length →
      JSs X en (slots0 0 ks ds ++ List.replicate (N.length - ks.length) .un) (defBody st) (fun δ' m' => mu = false ∧ ∃ a, m' = .ok a ∧ val a = .non ∧ OutsAt δ' 0 (outs a)) (fun s δ' m' => ∃ a, m' = .ok a ∧ s.rets mu (val a) ∧ OutsAt δ' 0 (outs a)) (fun _ _ => False) (fun _ _ => False) (f ds)) :
    FnG P w K mg base (k + 1) fa fd psn (SpD K mg ks f val outs mu) := by
  refine fn_G F S (fun vs H Q E h => h.1.trans hk) fun cdv A outer s H vs Q E hr h => ?_
  obtain ⟨hlv, G, ps, ds, r, hG, nd, ha, er, nb, hok, hrs⟩ := h
  subst er
  let en : Kn := ⟨N.length, G, hide H ps, ps, fun o => o = none ∨ o = (f ds).exc, .inl rfl⟩
  obtain ⟨l1, l2⟩ := args_len ha
  have hkN : ks.length ≤ N.length := by
    have := congrArg List.length S.pre
    rw [List.length_take] at this
    omega
  have W := Wd.start (en := en) (N := N) hG rfl rfl nd ha hkN
  have lps : ps.length = nm := (args_ps ha).trans hms
  let X : Cx := cxOf (L2N.CX P w) P w K mg base N qual (defScope st) fa cdv A outer s H E
  have tk : L2N.Takes X (fun cls d _ H => E cls d H) := L2N.takes_of rfl rfl rfl rfl
  have lk : Lk X en := ⟨_, tk, fun x hx cls d σ H' he hs => by
    refine hrs x ?_ cls d H' he hs
    rcases hx with z | z
    · cases z
    · cases e : f ds with
      | raise y => rw [e] at z; cases z; rfl
      | ok _ => rw [e] at z; cases z
      | bad => rw [e] at z; cases z⟩
  have B := body X en cdv A outer s H E ds rfl hr rfl lk (passes_of rfl) l1
  refine ⟨WSs X (defBody st), pss_wss, ?_⟩
  have hlen : (slots0 0 ks ds ++ List.replicate (N.length - ks.length) Slot.un).length = en.n := by
    rw [List.length_append, slots0_len l1, List.length_replicate]
    show _ = N.length
    omega
  have post : ∀ {δ' : List Slot} {σ' : L2.St} {G' H' : Hp}, Wd K en δ' σ' G' H' → Post G H G' H' ps := fun {δ' σ' G' H'} W' => ⟨W'.ext, W'.sub, fun a o e => by
    rcases W'.new a o e with q | ⟨q1, q2⟩
    · exact .inl q
    · refine .inr ?_
      have q1' : hide H ps a = none := q1
      rw [hide_some q2] at q1'
      exact q1', fun a o e n => W'.frm a o (by show hide H ps a = some o; rw [hide_some n]; exact e)⟩
  have ou : ∀ {δ' : List Slot} {σ' : L2.St} {G' H' : Hp} {a : α}, Wd K en δ' σ' G' H' → OutsAt δ' 0 (outs a) → OutsOk K G' H' (outs a) ps := fun {δ' σ' G' H' a} W' h => W'.outs (fun l => by rw [Nat.zero_add]) (by rw [hnm, lps]) h
  refine B.run nb (.inr rfl) (L2.start N vs) G H _ hlen W (fun δ' σ' G' H' ⟨em, a, ea, ev, eo⟩ hl' W' => ?_) (fun sl δ' v σ' G' H' ⟨a, ea, es, eo⟩ hl' W' => ?_) (fun _ _ _ _ z => z.elim) (fun _ _ _ _ z => z.elim)
  · refine hok a ea .non G' H' (post W') (ou W' eo) ?_
    unfold RetOk
    rw [em, if_neg (by decide), ev]
    rfl
  · have W2 := W'.one hl' (by
      have := W'.len
      rw [List.length_append, List.length_append] at this
      have e1 : [sl].length = 1 := rfl
      have e2 : [some v].length = 1 := rfl
      omega)
    refine hok a ea v G' H' (post W2) (ou W2 eo) ?_
    have q := W'.last
    unfold RetOk
    cases mu with
    | true =>
      have es' : sl = .mu (val a) := es
      subst es'
      obtain ⟨p, e, n, f0, np, r⟩ := q
      cases e
      refine ⟨p, rfl, ?_, n, r⟩
      have f0' : hide H ps p = none := f0
      rw [hide_some np] at f0'
      exact f0'
    | false =>
      have es' : sl = .fr (val a) := es
      subst es'
      obtain ⟨u, e, r⟩ := q
      cases e
      exact r
end BR

/-! K8: a def called -/
namespace BR
open PySem PySem.Spec PyProof.Rows L2

def CA (δ : List Slot) : List Kd → List Slot → Option (List D × List Nat)
  | [], [] => some ([], [])
  | .f :: ks, .fr d :: r => match CA δ ks r with
    | some (ds, is) => some (d :: ds, is)
    | none => none
  | .b :: ks, s :: r => match s.rd δ, CA δ ks r with
    | some d, some (ds, is) => some (d :: ds, is)
    | _, _ => none
  | .m :: ks, .bo i :: r => match (Slot.bo i).rd δ, CA δ ks r with
    | some d, some (ds, is) => some (d :: ds, i :: is)
    | _, _ => none
  | _, _ => none
/-- what is read alone is none of the lists that may be changed -/
def sep : List Kd → List Slot → List Nat → Bool
  | .b :: ks, .bo j :: r, is => !is.contains j && sep ks r is
  | _ :: ks, _ :: r, is => sep ks r is
  | _, _, _ => true
def Slot.put : Slot → D → Slot
  | .mu _, d => .mu d
  | .mp j _, d => .mp j d
  | s, _ => s
def putAll : List Slot → List Nat → List D → List Slot
  | Δ, i :: is, d :: ds => putAll (Δ.set i ((Δ.getD i .un).put d)) is ds
  | Δ, _, _ => Δ
section
variable {K : PySem.W.Frag} {en : Kn} {G H : Hp}
theorem sep_get : ∀ {ks : List Kd} {sls : List Slot} {is : List Nat} {l j : Nat}, sep ks sls is = true → ks[l]? = some .b → sls[l]? = some (.bo j) → j ∉ is
  | .b :: ks, .bo j :: r, is, 0, l, h, _, e => by
    have e' : j = l := by simpa using e
    subst e'
    unfold sep at h
    rw [Bool.and_eq_true] at h
    intro hm
    have := h.1
    rw [List.contains_iff_mem.mpr hm] at this
    cases this
  | .b :: ks, .bo j :: r, is, i + 1, l, h, e1, e => by
    unfold sep at h
    rw [Bool.and_eq_true] at h
    exact sep_get (l := i) h.2 (by simpa using e1) (by simpa using e)
  | [], _, _, _, _, _, e, _ => by simp at e
  | _ :: _, [], _, _, _, _, _, e => by simp at e
  | .f :: ks, s :: r, is, 0, l, h, e1, e => by simp at e1
  | .m :: ks, s :: r, is, 0, l, h, e1, e => by simp at e1
  | .f :: ks, s :: r, is, i + 1, l, h, e1, e => sep_get (ks := ks) (sls := r) (l := i) (by simpa [sep] using h) (by simpa using e1) (by simpa using e)
  | .m :: ks, s :: r, is, i + 1, l, h, e1, e => sep_get (ks := ks) (sls := r) (l := i) (by simpa [sep] using h) (by simpa using e1) (by simpa using e)
  | .b :: ks, .un :: r, is, 0, l, h, e1, e => by simp at e
  | .b :: ks, .fr _ :: r, is, 0, l, h, e1, e => by simp at e
  | .b :: ks, .mu _ :: r, is, 0, l, h, e1, e => by simp at e
  | .b :: ks, .mp _ _ :: r, is, 0, l, h, e1, e => by simp at e
  | .b :: ks, .bw _ :: r, is, 0, l, h, e1, e => by simp at e
  | .b :: ks, .un :: r, is, i + 1, l, h, e1, e => sep_get (ks := ks) (sls := r) (l := i) (by simpa [sep] using h) (by simpa using e1) (by simpa using e)
  | .b :: ks, .fr _ :: r, is, i + 1, l, h, e1, e => sep_get (ks := ks) (sls := r) (l := i) (by simpa [sep] using h) (by simpa using e1) (by simpa using e)
  | .b :: ks, .mu _ :: r, is, i + 1, l, h, e1, e => sep_get (ks := ks) (sls := r) (l := i) (by simpa [sep] using h) (by simpa using e1) (by simpa using e)
  | .b :: ks, .mp _ _ :: r, is, i + 1, l, h, e1, e => sep_get (ks := ks) (sls := r) (l := i) (by simpa [sep] using h) (by simpa using e1) (by simpa using e)
  | .b :: ks, .bw _ :: r, is, i + 1, l, h, e1, e => sep_get (ks := ks) (sls := r) (l := i) (by simpa [sep] using h) (by simpa using e1) (by simpa using e)

/-- a thing at hand that is the list of a name -/
theorem bo_own {Δ : List Slot} {S : L2.St} {δ : List Slot} {i : Nat} {d : D} {v : V} (W : Wd K en Δ S G H) (hpre : ∀ (j : Nat) sl, δ[j]? = some sl → Δ[j]? = some sl) (h : SlotOk K en S G H (.bo i) (some v)) (r : (Slot.bo i).rd δ = some d) :
    ∃ p, v = .ref p ∧ Own Δ S i p ∧ i < δ.length ∧ G p = none ∧ MRep K G H d p := by
  obtain ⟨_, h1, p, e⟩ := h
  cases e
  have r' : (match δ[i]? with | some (Slot.mu d) => some d | some (Slot.mp _ d) => some d | _ => none) = some d := r
  split at r'
  · rename_i e2
    cases r'
    have e3 := hpre _ _ e2
    have q := W.slot i _ _ e3 h1
    obtain ⟨p', e4, n, _, _, q⟩ := q
    cases e4
    exact ⟨p, rfl, ⟨_, e3, rfl, h1⟩, (List.getElem?_eq_some_iff.mp e2).1, n, q⟩
  · rename_i e2
    cases r'
    have e3 := hpre _ _ e2
    have q := W.slot i _ _ e3 h1
    obtain ⟨p', e4, _, n, _, q⟩ := q
    cases e4
    exact ⟨p, rfl, ⟨_, e3, rfl, h1⟩, (List.getElem?_eq_some_iff.mp e2).1, n, q⟩
  · cases r'
theorem MRep.vF {F0 : Hp} : ∀ {d : D} {p : Addr}, MRep K G H d p → F0 p = H p → VRep K G F0 d (.ref p)
  | .lst ds, p, h, e => by obtain ⟨vs, e', r⟩ := h; exact ⟨p, vs, rfl, e.trans e', r⟩
  | .dic ds, p, h, e => by obtain ⟨vs, e', r⟩ := h; exact ⟨p, vs, rfl, e.trans e', r⟩
  | .non, _, h, _ => h.elim
  | .bl _, _, h, _ => h.elim
  | .int _, _, h, _ => h.elim
  | .str _, _, h, _ => h.elim
  | .tup _, _, h, _ => h.elim
  | .scr _, _, h, _ => h.elim
  | .exc _ _, _, h, _ => h.elim
  | .obj _ _, _, h, _ => h.elim
theorem ca_ok {Δ : List Slot} {S : L2.St} {δ : List Slot} (W : Wd K en Δ S G H) (hpre : ∀ (j : Nat) sl, δ[j]? = some sl → Δ[j]? = some sl) : ∀ {ks : List Kd} {sls : List Slot} {vs : List V} {ds : List D} {is : List Nat}, CA δ ks sls = some (ds, is) → sls.length = vs.length →
    (∀ (i : Nat) sl v, sls[i]? = some sl → vs[i]? = some v → SlotOk K en S G H sl (some v)) →
    ∃ ps, is.length = ps.length ∧ (∀ (l i : Nat), is[l]? = some i → ∃ p, ps[l]? = some p ∧ Own Δ S i p ∧ i < δ.length) ∧
      ∀ F0, Sub G F0 → Sub en.F0 F0 → (∀ (l : Nat) sl p, ks[l]? = some .b → sls[l]? = some sl → vs[l]? = some (.ref p) → (sl.own = true ∨ ∃ j, sl = .bo j) → F0 p = H p) → ArgsOk K G H F0 ks ds vs ps
  | [], [], [], ds, is, h, _, _ => by
    cases h
    exact ⟨[], rfl, fun l i e => by simp at e, fun _ _ _ _ => trivial⟩
  | .f :: ks, .fr d :: r, v :: vs, ds, is, h, hl, hq => by
    unfold CA at h
    split at h
    · rename_i ds' is' e
      cases h
      obtain ⟨ps, h1, h2, h3⟩ := ca_ok W hpre (vs := vs) e (by simpa using hl) (fun i sl v a b => hq (i + 1) sl v (by simpa using a) (by simpa using b))
      obtain ⟨u, eu, ru⟩ := hq 0 _ v rfl rfl
      cases eu
      exact ⟨ps, h1, h2, fun F0 s1 s2 s3 => ⟨ru, h3 F0 s1 s2 fun l sl p a b c d => s3 (l + 1) sl p (by simpa using a) (by simpa using b) (by simpa using c) d⟩⟩
    · cases h
  | .b :: ks, s :: r, v :: vs, ds, is, h, hl, hq => by
    unfold CA at h
    split at h
    · rename_i d ds' is' e0 e
      cases h
      obtain ⟨ps, h1, h2, h3⟩ := ca_ok W hpre (vs := vs) e (by simpa using hl) (fun i sl v a b => hq (i + 1) sl v (by simpa using a) (by simpa using b))
      have q := hq 0 _ v rfl rfl
      refine ⟨ps, h1, h2, fun F0 s1 s2 s3 => ⟨?_, h3 F0 s1 s2 fun l sl p a b c d => s3 (l + 1) sl p (by simpa using a) (by simpa using b) (by simpa using c) d⟩⟩
      cases s with
      | un => cases e0
      | fr d' => cases e0; obtain ⟨u, eu, ru⟩ := q; cases eu; exact BRep.of s1 ru
      | bw d' => cases e0; obtain ⟨u, eu, ru⟩ := q; cases eu; exact BRep.sub (Sub.refl _) s2 ru
      | mu d' =>
        cases e0
        obtain ⟨p, eu, _, _, _, ru⟩ := q
        cases eu
        exact BRep.mk (ru.vF (s3 0 _ p rfl rfl rfl (.inl rfl))) ru.notup
      | mp j d' =>
        cases e0
        obtain ⟨p, eu, _, _, _, ru⟩ := q
        cases eu
        exact BRep.mk (ru.vF (s3 0 _ p rfl rfl rfl (.inl rfl))) ru.notup
      | bo j =>
        obtain ⟨p, ev, _, _, _, ru⟩ := bo_own W hpre q e0
        subst ev
        exact BRep.mk (ru.vF (s3 0 _ p rfl rfl rfl (.inr ⟨_, rfl⟩))) ru.notup
    · cases h
  | .m :: ks, .bo j :: r, v :: vs, ds, is, h, hl, hq => by
    unfold CA at h
    split at h
    · rename_i d ds' is' e0 e
      cases h
      obtain ⟨ps, h1, h2, h3⟩ := ca_ok W hpre (vs := vs) e (by simpa using hl) (fun i sl v a b => hq (i + 1) sl v (by simpa using a) (by simpa using b))
      obtain ⟨p, ev, ow, hj, n, ru⟩ := bo_own W hpre (hq 0 _ v rfl rfl) e0
      subst ev
      refine ⟨p :: ps, by simp [h1], fun l i e => ?_, fun F0 s1 s2 s3 => ⟨⟨rfl, n, ru⟩, h3 F0 s1 s2 fun l sl p a b c d => s3 (l + 1) sl p (by simpa using a) (by simpa using b) (by simpa using c) d⟩⟩
      cases l with
      | zero =>
        have e' : j = i := by simpa using e
        subst e'
        exact ⟨p, rfl, ow, hj⟩
      | succ l =>
        obtain ⟨p', a, b⟩ := h2 l i (by simpa using e)
        exact ⟨p', by simpa using a, b⟩
    · cases h
  | [], _ :: _, _, _, _, h, _, _ => by cases h
  | [], [], _ :: _, _, _, _, h, _ => nomatch h
  | .f :: _, [], _, _, _, h, _, _ => by cases h
  | .b :: _, [], _, _, _, h, _, _ => by cases h
  | .m :: _, [], _, _, _, h, _, _ => by cases h
  | _ :: _, _ :: _, [], _, _, _, h, _ => nomatch h
  | .f :: _, .un :: _, _ :: _, _, _, h, _, _ => by cases h
  | .f :: _, .mu _ :: _, _ :: _, _, _, h, _, _ => by cases h
  | .f :: _, .mp _ _ :: _, _ :: _, _, _, h, _, _ => by cases h
  | .f :: _, .bw _ :: _, _ :: _, _, _, h, _, _ => by cases h
  | .f :: _, .bo _ :: _, _ :: _, _, _, h, _, _ => by cases h
  | .m :: _, .un :: _, _ :: _, _, _, h, _, _ => by cases h
  | .m :: _, .fr _ :: _, _ :: _, _, _, h, _, _ => by cases h
  | .m :: _, .mu _ :: _, _ :: _, _, _, h, _, _ => by cases h
  | .m :: _, .mp _ _ :: _, _ :: _, _, _, h, _, _ => by cases h
  | .m :: _, .bw _ :: _, _ :: _, _, _, h, _, _ => by cases h

theorem ca_bo : ∀ {δ : List Slot} {ks : List Kd} {sls : List Slot} {ds : List D} {is : List Nat} {l j : Nat}, CA δ ks sls = some (ds, is) → ks[l]? = some .b → sls[l]? = some (.bo j) → ∃ d, (Slot.bo j).rd δ = some d
  | δ, .b :: ks, s :: r, ds, is, 0, j, h, _, e => by
    have e' : s = .bo j := by simpa using e
    subst e'
    unfold CA at h
    split at h
    · rename_i d _ _ e0 _
      exact ⟨d, e0⟩
    · cases h
  | δ, .b :: ks, s :: r, ds, is, l + 1, j, h, e1, e => by
    unfold CA at h
    split at h
    · rename_i d _ _ e0 e2
      exact ca_bo (l := l) e2 (by simpa using e1) (by simpa using e)
    · cases h
  | δ, .f :: ks, .fr _ :: r, ds, is, l + 1, j, h, e1, e => by
    unfold CA at h
    split at h
    · rename_i _ _ e2
      exact ca_bo (l := l) e2 (by simpa using e1) (by simpa using e)
    · cases h
  | δ, .m :: ks, .bo _ :: r, ds, is, l + 1, j, h, e1, e => by
    unfold CA at h
    split at h
    · rename_i d _ _ e0 e2
      exact ca_bo (l := l) e2 (by simpa using e1) (by simpa using e)
    · cases h
  | δ, .f :: ks, _, ds, is, 0, j, h, e1, e => by simp at e1
  | δ, .m :: ks, _, ds, is, 0, j, h, e1, e => by simp at e1
  | δ, [], _, ds, is, _, j, h, e1, e => by simp at e1
  | δ, .b :: ks, [], ds, is, _, j, h, e1, e => by simp at e
  | δ, .f :: ks, [], ds, is, _, j, h, e1, e => by simp at e
  | δ, .m :: ks, [], ds, is, _, j, h, e1, e => by simp at e
  | δ, .f :: _, .un :: _, _, _, _ + 1, _, h, _, _ => by cases h
  | δ, .f :: _, .mu _ :: _, _, _, _ + 1, _, h, _, _ => by cases h
  | δ, .f :: _, .mp _ _ :: _, _, _, _ + 1, _, h, _, _ => by cases h
  | δ, .f :: _, .bw _ :: _, _, _, _ + 1, _, h, _, _ => by cases h
  | δ, .f :: _, .bo _ :: _, _, _, _ + 1, _, h, _, _ => by cases h
  | δ, .m :: _, .un :: _, _, _, _ + 1, _, h, _, _ => by cases h
  | δ, .m :: _, .fr _ :: _, _, _, _ + 1, _, h, _, _ => by cases h
  | δ, .m :: _, .mu _ :: _, _, _, _ + 1, _, h, _, _ => by cases h
  | δ, .m :: _, .mp _ _ :: _, _, _, _ + 1, _, h, _, _ => by cases h
  | δ, .m :: _, .bw _ :: _, _, _, _ + 1, _, h, _, _ => by cases h

theorem putAll_len : ∀ {is : List Nat} {Δ : List Slot} {ds : List D}, (putAll Δ is ds).length = Δ.length
  | [], _, _ => rfl
  | _ :: _, _, [] => rfl
  | i :: is, Δ, d :: ds => by
    unfold putAll
    rw [putAll_len, List.length_set]
theorem putAll_app {τ : List Slot} : ∀ {is : List Nat} {Δ : List Slot} {ds : List D}, (∀ i, i ∈ is → i < Δ.length) → putAll (Δ ++ τ) is ds = putAll Δ is ds ++ τ
  | [], _, _, _ => rfl
  | _ :: _, _, [], _ => rfl
  | i :: is, Δ, d :: ds, h => by
    have hi := h i List.mem_cons_self
    unfold putAll
    rw [List.set_append_left _ _ hi, putAll_app fun j hj => by rw [List.length_set]; exact h j (List.mem_cons_of_mem _ hj)]
    congr 3
    rw [List.getD_eq_getElem?_getD, List.getD_eq_getElem?_getD, List.getElem?_append_left hi]
/-- one list changed, or as it was -/
theorem putAll_get : ∀ {is : List Nat} {Δ : List Slot} {ds : List D} {j : Nat}, is.Nodup → is.length = ds.length →
    (j ∉ is ∧ (putAll Δ is ds)[j]? = Δ[j]?) ∨ ∃ (l : Nat) (d : D), is[l]? = some j ∧ ds[l]? = some d ∧ (putAll Δ is ds)[j]? = (Δ[j]?).map (·.put d)
  | [], _, _, j, _, _ => .inl ⟨by simp, rfl⟩
  | _ :: _, _, [], _, _, h => nomatch h
  | i :: is, Δ, d :: ds, j, nd, hl => by
    unfold putAll
    have nd' := List.nodup_cons.mp nd
    rcases putAll_get (Δ := Δ.set i ((Δ.getD i .un).put d)) (ds := ds) (j := j) nd'.2 (by simpa using hl) with ⟨h1, h2⟩ | ⟨l, d', h1, h2, h3⟩
    · by_cases hj : j = i
      · subst hj
        refine .inr ⟨0, d, rfl, rfl, ?_⟩
        rw [h2]
        by_cases hj : j < Δ.length
        · rw [List.getElem?_set_self hj, List.getD_eq_getElem?_getD, List.getElem?_eq_getElem hj]; rfl
        · rw [List.getElem?_eq_none (by rw [List.length_set]; omega), List.getElem?_eq_none (by omega)]; rfl
      · refine .inl ⟨fun z => ?_, ?_⟩
        · rcases List.mem_cons.mp z with z | z
          · exact hj z
          · exact h1 z
        · rw [h2, List.getElem?_set_ne (Ne.symm hj)]
    · have hj : j ≠ i := fun z => by subst z; exact nd'.1 (List.mem_of_getElem? h1)
      refine .inr ⟨l + 1, d', by simpa using h1, by simpa using h2, ?_⟩
      rw [h3, List.getElem?_set_ne (Ne.symm hj)]
theorem OutsOk.get {G' H' : Hp} : ∀ {ds : List D} {ps : List Addr}, OutsOk K G' H' ds ps → ds.length = ps.length ∧ ∀ (l : Nat) d p, ds[l]? = some d → ps[l]? = some p → G' p = none ∧ MRep K G' H' d p
  | [], [], _ => ⟨rfl, fun l d p h _ => by simp at h⟩
  | d :: ds, p :: ps, h => by
    obtain ⟨h1, h2⟩ := OutsOk.get h.2
    refine ⟨by simp [h1], fun l d' p' a b => ?_⟩
    cases l with
    | zero =>
      have e1 : d = d' := by simpa using a
      have e2 : p = p' := by simpa using b
      subst e1 e2
      exact h.1
    | succ l => exact h2 l d' p' (by simpa using a) (by simpa using b)
  | [], _ :: _, h => h.elim
  | _ :: _, [], h => h.elim
theorem Wd.called {Δ : List Slot} {S : L2.St} {G' H' : Hp} {is : List Nat} {ps : List Addr} {ods : List D} (W : Wd K en Δ S G H) (po : Post G H G' H' ps) (hl : is.length = ps.length) (hi : ∀ (l i : Nat), is[l]? = some i → ∃ p, ps[l]? = some p ∧ Own Δ S i p) (nd : is.Nodup)
    (ou : OutsOk K G' H' ods ps) : Wd K en (putAll Δ is ods) S G' H' := by
  obtain ⟨ol, og⟩ := ou.get
  have psOwn : ∀ p, p ∈ ps → ∃ i, i ∈ is ∧ Own Δ S i p := fun p hp => by
    obtain ⟨l, hl2⟩ := List.getElem?_of_mem hp
    have hll : l < is.length := by rw [hl]; exact (List.getElem?_eq_some_iff.mp hl2).1
    obtain ⟨q, e, o⟩ := hi l is[l] (List.getElem?_eq_getElem hll)
    rw [hl2] at e
    cases e
    exact ⟨_, List.getElem_mem hll, o⟩
  have ownF : ∀ {i p}, Own Δ S i p → en.F0 p = none ∧ G p = none := fun {i p} ⟨sl, e1, e2, e3⟩ => by
    have q := W.slot i sl _ e1 e3
    cases sl with
    | mu d => obtain ⟨p2, e, n, f, _, r⟩ := q; cases e; exact ⟨f, n⟩
    | mp _ d => obtain ⟨p2, e, _, n, f, r⟩ := q; cases e; exact ⟨f, n⟩
    | un => cases e2
    | fr _ => cases e2
    | bw _ => cases e2
    | bo _ => cases e2
  have stillNone : ∀ {p : Addr}, G p = none → H p ≠ none → G' p = none := fun {p} a b => by
    cases z : G' p with
    | none => rfl
    | some o =>
      rcases po.new p o z with q | q
      · rw [a] at q; cases q
      · exact (b q).elim
  have old : ∀ {j : Nat} {sl : Slot} {o : Option V}, Δ[j]? = some sl → S[j]? = some o → (j ∉ is ∨ sl.own = false) → SlotOk K en S G' H' sl o := fun {j sl o} h1 h2 h3 => by
    have q := W.slot j sl o h1 h2
    have np : ∀ p, sl.own = true → o = some (.ref p) → p ∉ ps := fun p a b hp => by
      obtain ⟨i, m, ow⟩ := psOwn p hp
      subst b
      have := W.apart i j p ow ⟨sl, h1, a, h2⟩
      subst this
      rcases h3 with z | z
      · exact z m
      · rw [a] at z; cases z
    cases sl with
    | un => trivial
    | fr d => obtain ⟨v, e, r⟩ := q; exact ⟨v, e, Rep.sub po.g _ _ r⟩
    | mu d =>
      obtain ⟨p, e, n, f, f2, r⟩ := q
      obtain ⟨ob, eo⟩ := r.ex
      exact ⟨p, e, stillNone n (by rw [eo]; simp), f, f2, r.keep po.g fun o' z => po.frm p o' z (np p rfl e)⟩
    | mp l d =>
      obtain ⟨p, e, f2, n, f, r⟩ := q
      obtain ⟨ob, eo⟩ := r.ex
      exact ⟨p, e, f2, stillNone n (by rw [eo]; simp), f, r.keep po.g fun o' z => po.frm p o' z (np p rfl e)⟩
    | bw d => obtain ⟨v, e, r⟩ := q; exact ⟨v, e, BRep.sub po.g (Sub.refl _) r⟩
    | bo l => exact q
  refine ⟨putAll_len.trans W.len, po.gh, W.ext.trans po.g, fun a o e => ?_, fun a o e => ?_, fun a h => ?_, W.nd, fun j sl o h1 h2 => ?_, fun i j p h1 h2 => ?_⟩
  · rcases po.new a o e with q | q
    · exact W.new a o q
    · exact .inr (W.fresh q).2
  · refine po.frm a o (W.frm a o e) fun hp => ?_
    obtain ⟨i, _, ow⟩ := psOwn a hp
    rw [(ownF ow).1] at e; cases e
  · cases z : H a with
    | none => exact fun _ => W.stay a h z
    | some o =>
      by_cases hp : a ∈ ps
      · obtain ⟨l, hl2⟩ := List.getElem?_of_mem hp
        have hll : l < ods.length := by rw [ol]; exact (List.getElem?_eq_some_iff.mp hl2).1
        obtain ⟨_, r⟩ := og l _ a (List.getElem?_eq_getElem hll) hl2
        obtain ⟨o', e⟩ := r.ex
        rw [e]; simp
      · rw [po.frm a o z hp]; simp
  · rcases putAll_get (Δ := Δ) (ds := ods) (j := j) nd (hl.trans ol.symm) with ⟨n, e⟩ | ⟨l, d, e1, e2, e3⟩
    · rw [e] at h1
      exact old h1 h2 (.inl n)
    · obtain ⟨p, hp, sl0, e4, e5, e6⟩ := hi l j e1
      rw [e3, e4] at h1
      cases h1
      rw [e6] at h2
      cases h2
      obtain ⟨g1, r1⟩ := og l d p e2 hp
      have q := W.slot j sl0 _ e4 e6
      cases sl0 with
      | mu d0 => obtain ⟨p2, e, n, f, f2, r⟩ := q; cases e; exact ⟨p, rfl, g1, f, f2, r1⟩
      | mp x d0 => obtain ⟨p2, e, f2, n, f, r⟩ := q; cases e; exact ⟨p, rfl, f2, g1, f, r1⟩
      | un => cases e5
      | fr _ => cases e5
      | bw _ => cases e5
      | bo _ => cases e5
  · have key : ∀ (i : Nat), Own (putAll Δ is ods) S i p → Own Δ S i p := fun i ⟨sl, e1, e2, e3⟩ => by
      rcases putAll_get (Δ := Δ) (ds := ods) (j := i) nd (hl.trans ol.symm) with ⟨n, e⟩ | ⟨l, d, f1, f2, f3⟩
      · rw [e] at e1
        exact ⟨sl, e1, e2, e3⟩
      · obtain ⟨_, _, sl0, e4, e5, e6⟩ := hi l i f1
        exact ⟨sl0, e4, e5, e3⟩
    exact W.apart i j p (key i h1) (key j h2)
end

section
variable {X : Cx} {en : Kn} {δ τ : List Slot} {R : Type} {C : Slot → List Slot → Res R → Prop} {m : Res R}
abbrev Slot.ret (mu : Bool) (d : D) : Slot := match mu with
  | true => .mu d
  | false => .fr d
/-- as JA, for any reading -/
structure JAr (X : Cx) (en : Kn) (δ τ : List Slot) (t : TA) {R : Type} (C : List Slot → List Slot → Res R → Prop) (m : Res R) : Prop where
  run : m ≠ .bad → en.HX m.exc → ∀ (σ ts : L2.St) (G H : Hp) (T : List V → Hp → Prop), δ.length = en.n → σ.length = en.n → Wd X.K en (δ ++ τ) (σ ++ ts) G H →
    (∀ sls δ' vs G' H', C sls δ' m → δ'.length = en.n → Wd X.K en (δ' ++ τ ++ sls) (σ ++ ts ++ vs.map some) G' H' → T vs H') → t σ H T
/-- the errors that a call may let out -/
def OutE (X : Cx) (en : Kn) : XK := fun cls d H' => ∃ x, en.HX (some x) ∧ ExcOk X.mg en.F0 en.ps x cls d H' ∧ Sub en.F0 H'
theorem Lk.passes {X : Cx} {en : Kn} (l : Lk X en) : Passes (L2N.CX X.prog X.w) X (OutE X en) := by
  obtain ⟨WW, tk, hW⟩ := l
  exact L2N.passes_call tk fun cls d σ H ⟨x, h1, h2, h3⟩ => hW x h1 cls d σ H h2 h3
/-- a call's reading -/
theorem call_run {t : TA} {ks : List Kd} {α : Type} {den : List D → Res α} {val : α → D} {outs : α → List D} {mu : Bool}
    (h : JAr X en δ τ t (fun sls δ1 m1 => ∃ ds is k, ∃ pe : α → List Slot, CA δ1 ks sls = some (ds, is) ∧ sep ks sls is = true ∧ is.Nodup ∧ m1 = (den ds).bind k ∧ (∀ a, putAll δ1 is (outs a) = pe a) ∧ ∀ a, den ds = .ok a → C (.ret mu (val a)) (pe a) (k a)) m)
    (hb : m ≠ .bad) (hx : en.HX m.exc) {σ ts : L2.St} {G H : Hp} {T : VK} (hl : δ.length = en.n) (hσ : σ.length = en.n) (W : Wd X.K en (δ ++ τ) (σ ++ ts) G H)
    (q : ∀ sl δ' v G' H', C sl δ' m → δ'.length = en.n → Wd X.K en (δ' ++ τ ++ [sl]) (σ ++ ts ++ [some v]) G' H' → T v H') : tCall (SpD X.K X.mg ks den val outs mu) [] (OutE X en) t σ H T := by
  have ht : τ.length = ts.length := W.splitLen (hl.trans hσ.symm)
  refine h.run hb hx σ ts G H _ hl hσ W fun sls δ1 vs G1 H1 c1 hl1 W1 => ?_
  obtain ⟨ds, is, k, pe, hca, hsep, nd, em, hpe, hk⟩ := c1
  obtain ⟨hn, hq⟩ := W1.endSlots (hl1.trans hσ.symm) ht
  have pre : ∀ (j : Nat) sl, δ1[j]? = some sl → (δ1 ++ τ ++ sls)[j]? = some sl := fun j sl e => by
    rw [List.append_assoc, List.getElem?_append_left (List.getElem?_eq_some_iff.mp e).1]; exact e
  obtain ⟨ps, hlen, hown, hargs⟩ := ca_ok W1 pre hca hn hq
  have W2 := W1.cut (Δ := δ1 ++ τ) (S := σ ++ ts) (by rw [List.length_append, List.length_append]; omega) (by rw [List.length_append]; omega)
  have hown2 : ∀ (l i : Nat), is[l]? = some i → ∃ p, ps[l]? = some p ∧ Own (δ1 ++ τ) (σ ++ ts) i p := fun l i e => by
    obtain ⟨p, e1, ⟨sl, e2, e3, e4⟩, hi⟩ := hown l i e
    refine ⟨p, e1, sl, ?_, e3, ?_⟩
    · rw [List.getElem?_append_left (by rw [List.length_append]; omega)] at e2; exact e2
    · rw [List.getElem?_append_left (by rw [List.length_append]; omega)] at e4; exact e4
  have psOwn : ∀ p, p ∈ ps → ∃ i, i ∈ is ∧ i < δ1.length ∧ Own (δ1 ++ τ ++ sls) (σ ++ ts ++ vs.map some) i p := fun p hp => by
    obtain ⟨l, hl2⟩ := List.getElem?_of_mem hp
    have hll : l < is.length := by rw [hlen]; exact (List.getElem?_eq_some_iff.mp hl2).1
    obtain ⟨p', e, o, hi⟩ := hown l is[l] (List.getElem?_eq_getElem hll)
    rw [hl2] at e
    cases e
    exact ⟨_, List.getElem_mem hll, hi, o⟩
  have ownF : ∀ {i p}, Own (δ1 ++ τ ++ sls) (σ ++ ts ++ vs.map some) i p → en.F0 p = none ∧ G1 p = none := fun {i p} ⟨sl, e1, e2, e3⟩ => by
    have z := W1.slot i sl _ e1 e3
    cases sl with
    | mu d => obtain ⟨p2, e, n, f, _, r⟩ := z; cases e; exact ⟨f, n⟩
    | mp _ d => obtain ⟨p2, e, _, n, f, r⟩ := z; cases e; exact ⟨f, n⟩
    | un => cases e2
    | fr _ => cases e2
    | bw _ => cases e2
    | bo _ => cases e2
  have ndp : ps.Nodup := by
    refine List.pairwise_iff_getElem.mpr fun a b ha2 hb2 hab he => ?_
    have hbi : b < is.length := by rw [hlen]; exact hb2
    obtain ⟨p1, x1, o1, _⟩ := hown a is[a] (List.getElem?_eq_getElem (by omega))
    obtain ⟨p2, x2, o2, _⟩ := hown b is[b] (List.getElem?_eq_getElem hbi)
    rw [List.getElem?_eq_getElem ha2] at x1
    rw [List.getElem?_eq_getElem hb2] at x2
    cases x1
    cases x2
    rw [he] at o1
    have := W1.apart _ _ _ o1 o2
    have := (List.getElem_inj nd).mp this
    omega
  have hsubG : Sub G1 (hide H1 ps) := fun a o e => by
    by_cases hp : a ∈ ps
    · obtain ⟨i, _, _, ow⟩ := psOwn a hp
      rw [(ownF ow).2] at e; cases e
    · rw [hide_some hp]; exact W1.sub a o e
  have hsubF : Sub en.F0 (hide H1 ps) := fun a o e => by
    by_cases hp : a ∈ ps
    · obtain ⟨i, _, _, ow⟩ := psOwn a hp
      rw [(ownF ow).1] at e; cases e
    · rw [hide_some hp]; exact W1.frm a o e
  have ha := hargs (hide H1 ps) hsubG hsubF fun l sl p a b c d => by
    refine hide_some fun hp => ?_
    obtain ⟨i, him, hi, ow⟩ := psOwn p hp
    rcases d with d | ⟨j, d⟩
    · have e2 : (δ1 ++ τ ++ sls)[(δ1 ++ τ).length + l]? = some sl := by
        rw [List.getElem?_append_right (Nat.le_add_right _ _), Nat.add_sub_cancel_left]; exact b
      have e3 : (σ ++ ts ++ vs.map some)[(δ1 ++ τ).length + l]? = some (some (V.ref p)) := by
        have z : (δ1 ++ τ).length = (σ ++ ts).length := by rw [List.length_append, List.length_append]; omega
        rw [z, List.getElem?_append_right (Nat.le_add_right _ _), Nat.add_sub_cancel_left, List.getElem?_map, c]; rfl
      have := W1.apart i _ p ow ⟨sl, e2, d, e3⟩
      rw [List.length_append] at this
      omega
    · subst d
      have hj := sep_get hsep a b
      have z := hq l _ _ b c
      obtain ⟨_, z1, p', z2⟩ := z
      cases z2
      -- the name's own slot
      have hrd : ∃ d, (Slot.bo j).rd δ1 = some d := ca_bo hca a b
      obtain ⟨d, hd⟩ := hrd
      obtain ⟨p3, e3, ow3, _⟩ := bo_own W1 pre (hq l _ _ b c) hd
      cases e3
      have := W1.apart i j p ow ow3
      subst this
      exact hj him
  rw [List.append_nil]
  have hb' := hb
  rw [em] at hb'
  have hx' := hx
  rw [em] at hx'
  obtain ⟨hbd, hxd⟩ := bind_exc hb' hx'
  obtain ⟨l1, l2⟩ := args_len ha
  refine ⟨l2, G1, ps, ds, den ds, W1.sub, ndp, ha, rfl, hbd, fun a ea v G' H' po ou re => ?_, fun x ex cls d H' he hs => ?_⟩
  · have em' : m = k a := by rw [em, ea]; rfl
    have W3 := W2.called po hlen hown2 nd ou
    rw [putAll_app fun i hi => by
      obtain ⟨l, e⟩ := List.getElem?_of_mem hi
      exact (hown l i e).choose_spec.2.2, hpe a] at W3
    have hl3 : (pe a).length = en.n := by rw [← hpe a, putAll_len]; exact hl1
    refine q (.ret mu (val a)) (pe a) v G' H' (by rw [em']; exact hk a ea) hl3 ?_
    refine W3.more ?_ ?_
    · unfold RetOk at re
      cases mu with
      | true =>
        obtain ⟨p, e, n1, n2, r⟩ := re
        exact ⟨p, by rw [e], n2, (W2.fresh n1).2.1, (W2.fresh n1).2.2, r⟩
      | false => exact ⟨v, rfl, re⟩
    · intro p j e1 e2 ow
      unfold RetOk at re
      cases mu with
      | true =>
        obtain ⟨p', e, n1, n2, r⟩ := re
        cases e2
        cases e
        have : ∃ j', Own (δ1 ++ τ) (σ ++ ts) j' p := by
          obtain ⟨sl, f1, f2, f3⟩ := ow
          rw [← hpe a, ← putAll_app fun i hi => by
            obtain ⟨l, e⟩ := List.getElem?_of_mem hi
            exact (hown l i e).choose_spec.2.2] at f1
          rcases putAll_get (Δ := δ1 ++ τ) (ds := outs a) (j := j) nd (hlen.trans ou.get.1.symm) with ⟨n, e⟩ | ⟨l, d, g1, g2, g3⟩
          · rw [e] at f1
            exact ⟨j, sl, f1, f2, f3⟩
          · obtain ⟨_, _, sl0, e4, e5, e6⟩ := hown2 l j g1
            exact ⟨j, sl0, e4, e5, f3⟩
        obtain ⟨j', ow'⟩ := this
        obtain ⟨o, z⟩ := W2.ownThere ow'
        rw [n1] at z; cases z
      | false => cases e1
  · have em' : m = .raise x := by rw [em, ex]; rfl
    rw [em'] at hx
    exact ⟨x, hx, W1.exc he, hsubF.trans hs⟩
/-- a call of a def -/
theorem call_D {e : Expr} {t : TA} {ks : List Kd} {α : Type} {den : List D → Res α} {val : α → D} {outs : α → List D} {mu : Bool} (hL : Lk X en)
    (rule : ∀ {E : XK}, Passes (L2N.CX X.prog X.w) X E → PE X e (tCall (SpD X.K X.mg ks den val outs mu) [] E t))
    (h : JAr X en δ τ t (fun sls δ1 m1 => ∃ ds is k, ∃ pe : α → List Slot, CA δ1 ks sls = some (ds, is) ∧ sep ks sls is = true ∧ is.Nodup ∧ m1 = (den ds).bind k ∧ (∀ a, putAll δ1 is (outs a) = pe a) ∧ ∀ a, den ds = .ok a → C (.ret mu (val a)) (pe a) (k a)) m) :
    JE X en δ τ e C m := .mk fun hb hx σ ts G H T hl hσ W q => we_of (rule hL.passes) (call_run h hb hx hl hσ W q)
end
end BR

/-! K9: a def's facts in one, comprehensions -/
namespace BR
open PySem PySem.Spec PyProof.Rows L2

/-- a def of the module that keeps its promise -/
def Df (P : Program) (w : World) (K : PySem.W.Frag) (mg : Str → Option Value) (base : Heap) (k : Nat) (x : Str) (ks : List Kd) {α : Type} (den : List D → Res α) (val : α → D) (outs : α → List D) (mu : Bool) : Prop :=
  ∃ (f : Addr) (fd : FuncData) (psn : List Str), FnG P w K mg base k f fd psn (SpD K mg ks den val outs mu) ∧ mg x = some (.ref f) ∧ PySem.W.keepIn K (.ref f) = true ∧ Binds K fd psn []
section
variable {X : Cx} {en : Kn} {δ τ : List Slot} {R : Type} {C : Slot → List Slot → Res R → Prop} {m : Res R} {K : PySem.W.Frag}
theorem je_call {k : Nat} {x : Str} {p pos : Pos} {e : Expr} {es : List Expr} {ks : List Kd} {α : Type} {den : List D → Res α} {val : α → D} {outs : α → List D} {mu : Bool}
    (F : Df X.prog X.w X.K X.mg X.base k x ks den val outs mu) (hr : RoomG k X.A) (hL : Lk X en)
    (h : JA X en δ τ (e :: es) (fun sls δ1 m1 => ∃ ds is k, ∃ pe : α → List Slot, CA δ1 ks sls = some (ds, is) ∧ sep ks sls is = true ∧ is.Nodup ∧ m1 = (den ds).bind k ∧ (∀ a, putAll δ1 is (outs a) = pe a) ∧ ∀ a, den ds = .ok a → C (.ret mu (val a)) (pe a) (k a)) m)
    (hg : Gl X x := by rfl) (hdb : (x == ("__debug__" : Str)) = false := by decide) (he : starEach (e :: es) X.env = (false, eval e X.env) :: starEach es X.env := by exact star_plain rfl) (hpl : (backTo pos (starEach es X.env)).any (·.1) = false := by rfl) :
    JE X en δ τ (.Call (.Name x p) (e :: es) [] pos) C m := by
  obtain ⟨f, fd, psn, hf, hm, hk, hb⟩ := F
  exact call_D (t := WA X (e :: es)) hL (fun hx => pe_callG hf hr hg hm hk hb .nil hx pa_wa hdb he hpl) ⟨h.run⟩
end

/-! ### comprehensions -/
/-- a walk that keeps what f gives, with a state -/
def lcF {S : Type} : List D → S → List D → (D → S → Res (Option D × S)) → Res (List D × S)
  | [], s, acc, _ => .ok (acc, s)
  | d :: ds, s, acc, f => match f d s with
    | .ok (some y, s') => if acc.length < sizeLine then lcF ds s' (acc ++ [y]) f else .bad
    | .ok (none, s') => lcF ds s' acc f
    | _ => .bad
def lcM (ds : List D) (f : D → Res D) : Res (List D) := (lcF ds () [] fun d _ => (f d).bind fun y => .ok (some y, ())).bind fun p => .ok p.1
def lcO (ds : List D) (f : D → Res (Option D)) : Res (List D) := (lcF ds () [] fun d _ => (f d).bind fun y => .ok (y, ())).bind fun p => .ok p.1
def lcS {S : Type} (ds : List D) (s : S) (f : D → S → Res (D × S)) : Res (List D × S) := lcF ds s [] fun d s => (f d s).bind fun y => .ok (some y.1, y.2)
/-- the block's own names aren't known in it -/
def wipeS (δ : List Slot) : List Nat → List Slot
  | [] => δ
  | v :: vs => (wipeS δ vs).set v .un
/-- .. and are as they were behind it -/
def rst (δ1 : List Slot) : List Nat → List Slot → List Slot
  | [], δ => δ
  | v :: vs, δ => (rst δ1 vs δ).set v (match δ1[v]? with
    | some (.fr d) => .fr d
    | some (.bw d) => .bw d
    | _ => .un)
structure KnB (en en' : Kn) : Prop where
  n : en'.n = en.n
  F0 : en'.F0 = en.F0
  ps : en'.ps = en.ps
  HX : en'.HX = fun o => o = none
abbrev Kn.blk (en : Kn) (G : Hp) : Kn := { n := en.n, G0 := G, F0 := en.F0, ps := en.ps, HX := fun o => o = none, h0 := rfl }
theorem KnB.lk {X : Cx} {en en' : Kn} (h : KnB en en') {s : Shared} {H : Hp} {scope : Scope} {cenv : Env} {fp : List Addr} : Lk (X.blk s H scope cenv fp) en' :=
  ⟨fun _ _ _ _ => False, takes0N, fun x hx => by rw [h.HX] at hx; cases hx⟩
section
variable {K : PySem.W.Frag} {en : Kn} {δ δ' τ Ξ : List Slot} {σ σ' ts us : L2.St} {G H G' H' : Hp}
theorem wipeS_len : ∀ (vs : List Nat), (wipeS δ vs).length = δ.length
  | [] => rfl
  | v :: vs => by unfold wipeS; rw [List.length_set, wipeS_len vs]
theorem rst_len {δ1 : List Slot} : ∀ (vs : List Nat), (rst δ1 vs δ).length = δ.length
  | [] => rfl
  | v :: vs => by unfold rst; rw [List.length_set, rst_len vs]
theorem wipe_get {i : Nat} : ∀ {vs : List Nat}, i ∉ vs → (wipe σ vs)[i]? = σ[i]?
  | [], _ => rfl
  | v :: vs, h => by
    unfold wipe
    rw [List.getElem?_set_ne (fun e => h (by rw [e]; exact List.mem_cons_self)), wipe_get fun z => h (List.mem_cons_of_mem _ z)]
theorem wipeS_get {i : Nat} {sl : Slot} : ∀ {vs : List Nat}, (wipeS δ vs)[i]? = some sl → sl = .un ∨ (i ∉ vs ∧ δ[i]? = some sl)
  | [], h => .inr ⟨by simp, h⟩
  | v :: vs, h => by
    unfold wipeS at h
    by_cases hi : v = i
    · subst hi
      by_cases hv : v < (wipeS δ vs).length
      · rw [List.getElem?_set_self hv] at h; cases h; exact .inl rfl
      · rw [List.getElem?_eq_none (by rw [List.length_set]; omega)] at h; cases h
    · rw [List.getElem?_set_ne hi] at h
      rcases wipeS_get h with z | ⟨z1, z2⟩
      · exact .inl z
      · refine .inr ⟨fun z => ?_, z2⟩
        rcases List.mem_cons.mp z with z | z
        · exact hi z.symm
        · exact z1 z
theorem rst_get {δ1 : List Slot} {i : Nat} {sl : Slot} : ∀ {vs : List Nat}, (rst δ1 vs δ)[i]? = some sl → (i ∉ vs ∧ δ[i]? = some sl) ∨ (i ∈ vs ∧ (sl = .un ∨ (δ1[i]? = some sl ∧ ((∃ d, sl = .fr d) ∨ ∃ d, sl = .bw d))))
  | [], h => .inl ⟨by simp, h⟩
  | v :: vs, h => by
    unfold rst at h
    by_cases hi : v = i
    · subst hi
      by_cases hv : v < (rst δ1 vs δ).length
      · rw [List.getElem?_set_self hv] at h
        refine .inr ⟨List.mem_cons_self, ?_⟩
        split at h
        · rename_i d e; cases h; exact .inr ⟨e, .inl ⟨d, rfl⟩⟩
        · rename_i d e; cases h; exact .inr ⟨e, .inr ⟨d, rfl⟩⟩
        · cases h; exact .inl rfl
      · rw [List.getElem?_eq_none (by rw [List.length_set]; omega)] at h; cases h
    · rw [List.getElem?_set_ne hi] at h
      rcases rst_get h with ⟨z1, z2⟩ | ⟨z1, z2⟩
      · refine .inl ⟨fun z => ?_, z2⟩
        rcases List.mem_cons.mp z with z | z
        · exact hi z.symm
        · exact z1 z
      · exact .inr ⟨List.mem_cons_of_mem _ z1, z2⟩
theorem wipe_eq {vs : List Nat} (h : ∀ j : Nat, j ∉ vs → σ'[j]? = σ[j]?) (hl : σ'.length = σ.length) : wipe σ' vs = wipe σ vs := by
  refine List.ext_getElem? fun j => ?_
  by_cases hj : j ∈ vs
  · have z : ∀ {σ : L2.St}, ∀ {vs : List Nat}, j ∈ vs → (wipe σ vs)[j]? = if j < σ.length then some none else none := fun {σ} => by
      intro vs
      induction vs with
      | nil => intro h; simp at h
      | cons v vs ih =>
        intro h
        unfold wipe
        by_cases e : v = j
        · subst e
          by_cases hv : v < σ.length
          · rw [List.getElem?_set_self (by rw [wipe_length]; exact hv), if_pos hv]
          · rw [List.getElem?_eq_none (by rw [List.length_set, wipe_length]; omega), if_neg hv]
        · rw [List.getElem?_set_ne e]
          rcases List.mem_cons.mp h with z | z
          · exact (e z.symm).elim
          · exact ih z
    rw [z hj, z hj, hl]
  · rw [wipe_get hj, wipe_get hj]
    exact h j hj
/-- the block's names forgotten -/
theorem Wd.wiped {vs : List Nat} (W : Wd K en (δ ++ τ) (σ ++ ts) G H) (hl : δ.length = en.n) (hσ : σ.length = en.n) (hb : noBo (δ ++ τ) = true) : Wd K en (wipeS δ vs ++ τ) (L2.wipe σ vs ++ ts) G H := by
  have hw : (L2.wipe σ vs).length = en.n := by rw [wipe_length]; exact hσ
  have hw2 : (wipeS δ vs).length = en.n := by rw [wipeS_len]; exact hl
  have get : ∀ (i : Nat) sl, (wipeS δ vs ++ τ)[i]? = some sl → sl = .un ∨ ((δ ++ τ)[i]? = some sl ∧ (L2.wipe σ vs ++ ts)[i]? = (σ ++ ts)[i]?) := fun i sl h => by
    by_cases hi : i < en.n
    · rw [List.getElem?_append_left (by omega)] at h
      rcases wipeS_get h with z | ⟨z1, z2⟩
      · exact .inl z
      · refine .inr ⟨by rw [List.getElem?_append_left (by omega)]; exact z2, ?_⟩
        rw [List.getElem?_append_left (by omega), List.getElem?_append_left (by omega), wipe_get z1]
    · rw [List.getElem?_append_right (by omega), hw2, ← hl, ← List.getElem?_append_right (by omega)] at h
      refine .inr ⟨h, ?_⟩
      rw [List.getElem?_append_right (by omega), List.getElem?_append_right (by omega), hw, hσ]
  refine ⟨?_, W.sub, W.ext, W.new, W.frm, W.stay, W.nd, fun i sl o h1 h2 => ?_, fun i j p h1 h2 => ?_⟩
  · have := W.len
    rw [List.length_append, List.length_append] at this ⊢
    omega
  · rcases get i sl h1 with z | ⟨z1, z2⟩
    · subst z; trivial
    · rw [z2] at h2
      have q := W.slot i sl o z1 h2
      cases sl with
      | bo j => exact (noBo_get hb z1).elim
      | un => trivial
      | fr d => exact q
      | mu d => exact q
      | mp _ d => exact q
      | bw d => exact q
  · have key : ∀ (i : Nat), Own (wipeS δ vs ++ τ) (L2.wipe σ vs ++ ts) i p → Own (δ ++ τ) (σ ++ ts) i p := fun i ⟨sl, e1, e2, e3⟩ => by
      rcases get i sl e1 with z | ⟨z1, z2⟩
      · subst z; cases e2
      · exact ⟨sl, z1, e2, by rw [← z2]; exact e3⟩
    exact W.apart i j p (key i h1) (key j h2)
theorem Wd.toBlk {Δ : List Slot} {S : L2.St} (W : Wd K en Δ S G H) : Wd K (en.blk G) Δ S G H :=
  ⟨W.len, W.sub, Sub.refl _, fun a o e => .inl e, W.frm, W.stay, W.nd, fun i sl o h1 h2 => by
    have q := W.slot i sl o h1 h2
    cases sl <;> exact q, W.apart⟩
/-- a list of one's own changed -/
theorem Wd.mut {Δ : List Slot} {S : L2.St} {i : Nat} {p : Addr} {o' : HO} {d' : D} (W : Wd K en Δ S G H) (ow : Own Δ S i p) (r : MRep K G (upd H p o') d' p) : Wd K en (Δ.set i ((Δ.getD i .un).put d')) S G (upd H p o') := by
  obtain ⟨sl0, e1, e2, e3⟩ := ow
  have hi := (List.getElem?_eq_some_iff.mp e1).1
  have own0 : Own Δ S i p := ⟨sl0, e1, e2, e3⟩
  have q0 := W.slot i sl0 _ e1 e3
  have fG : en.F0 p = none ∧ G p = none := by
    cases sl0 with
    | mu d => obtain ⟨p2, e, n, f, _, r⟩ := q0; cases e; exact ⟨f, n⟩
    | mp _ d => obtain ⟨p2, e, _, n, f, r⟩ := q0; cases e; exact ⟨f, n⟩
    | un => cases e2
    | fr _ => cases e2
    | bw _ => cases e2
    | bo _ => cases e2
  have hd : Δ.getD i .un = sl0 := by rw [List.getD_eq_getElem?_getD, e1]; rfl
  refine ⟨by rw [List.length_set]; exact W.len, fun a o e => ?_, W.ext, W.new, fun a o e => ?_, fun a h => ?_, W.nd, fun j sl o h1 h2 => ?_, fun j l q h1 h2 => ?_⟩
  · rw [upd_ne (fun z => by subst z; rw [fG.2] at e; cases e)]; exact W.sub a o e
  · rw [upd_ne (fun z => by subst z; rw [fG.1] at e; cases e)]; exact W.frm a o e
  · by_cases z : a = p
    · subst z; rw [upd_same]; simp
    · rw [upd_ne z]; exact W.stay a h
  · by_cases hj : j = i
    · subst hj
      rw [List.getElem?_set_self hi] at h1
      cases h1
      rw [e3] at h2
      cases h2
      rw [hd]
      cases sl0 with
      | mu d => obtain ⟨p2, e, n, f, f2, _⟩ := q0; cases e; exact ⟨p, rfl, n, f, f2, r⟩
      | mp x d => obtain ⟨p2, e, f2, n, f, _⟩ := q0; cases e; exact ⟨p, rfl, f2, n, f, r⟩
      | un => cases e2
      | fr _ => cases e2
      | bw _ => cases e2
      | bo _ => cases e2
    · rw [List.getElem?_set_ne (Ne.symm hj)] at h1
      have q := W.slot j sl o h1 h2
      have np : ∀ q, sl.own = true → o = some (.ref q) → q ≠ p := fun x a b z => by
        subst z b
        exact hj (W.apart j i x ⟨sl, h1, a, h2⟩ own0)
      cases sl with
      | un => trivial
      | fr d => exact q
      | mu d => obtain ⟨x, e, n, f, f2, r⟩ := q; exact ⟨x, e, n, f, f2, r.keep (Sub.refl _) fun o z => by rw [upd_ne (np x rfl e)]; exact z⟩
      | mp _ d => obtain ⟨x, e, f2, n, f, r⟩ := q; exact ⟨x, e, f2, n, f, r.keep (Sub.refl _) fun o z => by rw [upd_ne (np x rfl e)]; exact z⟩
      | bw d => exact q
      | bo _ => exact q
  · have key : ∀ (j : Nat), Own (Δ.set i ((Δ.getD i .un).put d')) S j q → Own Δ S j q := fun j ⟨sl, f1, f2, f3⟩ => by
      by_cases hj : j = i
      · subst hj
        rw [List.getElem?_set_self hi] at f1
        exact ⟨sl0, e1, e2, f3⟩
      · rw [List.getElem?_set_ne (Ne.symm hj)] at f1
        exact ⟨sl, f1, f2, f3⟩
    exact W.apart j l q (key j h1) (key l h2)
/-- out of the block -/
theorem Wd.outof {vs : List Nat} {δ1 : List Slot} (W : Wd K en (δ1 ++ τ) (σ ++ ts) G H) (W' : Wd K (en.blk G) (δ ++ Ξ) (wipe σ vs ++ us) G' H') (h1 : δ1.length = en.n) (hl : δ.length = en.n) (hσ : σ.length = en.n) (hb : noBo (δ ++ Ξ) = true) : Wd K en (rst δ1 vs δ ++ Ξ) (σ ++ us) G' H' := by
  have hw : (wipe σ vs).length = en.n := by rw [wipe_length]; exact hσ
  have hw2 : (rst δ1 vs δ).length = en.n := by rw [rst_len]; exact hl
  have sG : Sub G G' := W'.ext
  have get : ∀ (i : Nat) sl, (rst δ1 vs δ ++ Ξ)[i]? = some sl → ((δ ++ Ξ)[i]? = some sl ∧ (wipe σ vs ++ us)[i]? = (σ ++ us)[i]?) ∨ (i < en.n ∧ (sl = .un ∨ (δ1[i]? = some sl ∧ ((∃ d, sl = .fr d) ∨ ∃ d, sl = .bw d)))) := fun i sl h => by
    by_cases hi : i < en.n
    · rw [List.getElem?_append_left (by omega)] at h
      rcases rst_get h with ⟨z1, z2⟩ | ⟨z1, z2⟩
      · refine .inl ⟨by rw [List.getElem?_append_left (by omega)]; exact z2, ?_⟩
        rw [List.getElem?_append_left (by omega), List.getElem?_append_left (by omega), wipe_get z1]
      · exact .inr ⟨hi, z2⟩
    · rw [List.getElem?_append_right (by omega), hw2, ← hl, ← List.getElem?_append_right (by omega)] at h
      refine .inl ⟨h, ?_⟩
      rw [List.getElem?_append_right (by omega), List.getElem?_append_right (by omega), hw, hσ]
  refine ⟨?_, W'.sub, W.ext.trans sG, fun a o e => ?_, W'.frm, W'.stay, W'.nd, fun i sl o e1 e2 => ?_, fun i j p e1 e2 => ?_⟩
  · have := W'.len
    rw [List.length_append, List.length_append] at this ⊢
    omega
  · rcases W'.new a o e with q | q
    · exact W.new a o q
    · exact .inr q
  · rcases get i sl e1 with ⟨z1, z2⟩ | ⟨hi, z⟩
    · rw [← z2] at e2
      have q := W'.slot i sl o z1 e2
      cases sl with
      | bo j => exact (noBo_get hb z1).elim
      | un => trivial
      | fr d => exact q
      | mu d => exact q
      | mp _ d => exact q
      | bw d => exact q
    · rcases z with z | ⟨z, z'⟩
      · subst z; trivial
      · have q := W.slot i sl o (by rw [List.getElem?_append_left (by omega)]; exact z) (by
          rw [List.getElem?_append_left (by omega)] at e2 ⊢; exact e2)
        rcases z' with ⟨d, z'⟩ | ⟨d, z'⟩
        · subst z'
          obtain ⟨v, ev, r⟩ := q
          exact ⟨v, ev, Rep.sub sG _ _ r⟩
        · subst z'
          obtain ⟨v, ev, r⟩ := q
          exact ⟨v, ev, BRep.sub sG (Sub.refl _) r⟩
  · have key : ∀ (i : Nat), Own (rst δ1 vs δ ++ Ξ) (σ ++ us) i p → Own (δ ++ Ξ) (wipe σ vs ++ us) i p := fun i ⟨sl, f1, f2, f3⟩ => by
      rcases get i sl f1 with ⟨z1, z2⟩ | ⟨hi, z⟩
      · exact ⟨sl, z1, f2, by rw [z2]; exact f3⟩
      · rcases z with z | ⟨z, ⟨d, z'⟩ | ⟨d, z'⟩⟩
        · subst z; cases f2
        · subst z'; cases f2
        · subst z'; cases f2
    exact W'.apart i j p (key i e1) (key j e2)
end
section
variable {X : Cx} {en : Kn} {δ τ : List Slot} {R : Type} {C : Slot → List Slot → Res R → Prop} {m : Res R} {K : PySem.W.Frag}
theorem lcF_step {S : Type} {d : D} {ds : List D} {s : S} {acc : List D} {f : D → S → Res (Option D × S)} {k : List D × S → Res R} (h : (lcF (d :: ds) s acc f).bind k ≠ .bad) :
    (∃ y s', f d s = .ok (some y, s') ∧ acc.length < sizeLine ∧ lcF (d :: ds) s acc f = lcF ds s' (acc ++ [y]) f) ∨ ∃ s', f d s = .ok (none, s') ∧ lcF (d :: ds) s acc f = lcF ds s' acc f := by
  have e : lcF (d :: ds) s acc f = (match f d s with
    | .ok (some y, s') => if acc.length < sizeLine then lcF ds s' (acc ++ [y]) f else .bad
    | .ok (none, s') => lcF ds s' acc f
    | _ => .bad) := rfl
  rw [e] at h ⊢
  match hf : f d s with
  | .ok (some y, s') =>
    rw [hf] at h
    simp only at h ⊢
    by_cases hz : acc.length < sizeLine
    · exact .inl ⟨y, s', rfl, hz, if_pos hz⟩
    · rw [if_neg hz] at h; exact (h rfl).elim
  | .ok (none, s') => exact .inr ⟨s', rfl, rfl⟩
  | .raise x => rw [hf] at h; exact (h rfl).elim
  | .bad => rw [hf] at h; exact (h rfl).elim
/-- in every block of this scope -/
def AllB (X : Cx) (scope : Scope) (P : Cx → Prop) : Prop := ∀ (s0 : Shared) (H0 : Hp) (C : Addr) (cl : List (Str × Addr)) (fp : List Addr), P (X.blk s0 H0 scope (compEnvC scope cl C X.env) fp)
/-- a comprehension's block, for one item: the target, the test (or none), the element -/
def TurnE (X : Cx) (scope : Scope) (en : Kn) (δ τ : List Slot) (elt : Expr) {S : Type} (pe : S → List Slot) (vs : List Nat) (m : Res (Option D × S)) : Prop :=
  AllB X scope fun Y => JE Y en δ τ elt (fun s δ3 m3 => ∃ y a', s = .fr y ∧ m3 = .ok (some y, a') ∧ Le (wipeS δ3 vs) (pe a') ∧ noBo δ3 = true) m
def TurnT (X : Cx) (scope : Scope) (en : Kn) (δ τ : List Slot) (ifs : List Expr) (elt : Expr) {S : Type} (pe : S → List Slot) (vs : List Nat) (m : Res (Option D × S)) : Prop :=
  match ifs with
  | [] => TurnE X scope en δ τ elt pe vs m
  | [c] => AllB X scope fun Y => JT Y en δ τ c (fun b δ3 m3 => ∃ mA mF, m3 = (if b = true then mA else mF) ∧ TurnE X scope en δ3 τ elt pe vs mA ∧ ∃ a', mF = .ok (none, a') ∧ Le (wipeS δ3 vs) (pe a') ∧ noBo δ3 = true) m
  | _ => False
def Turn1 (X : Cx) (scope : Scope) (en : Kn) (δ τ : List Slot) (tg : Expr) (ifs : List Expr) (elt : Expr) (d : D) {S : Type} (pe : S → List Slot) (vs : List Nat) (m : Res (Option D × S)) : Prop :=
  AllB X scope fun Y => ∃ is, (∀ i, i ∈ is → i ∈ vs) ∧ JG Y en δ τ tg d is (fun δ2 m2 => TurnT X scope en δ2 τ ifs elt pe vs m2) m
theorem le_app : ∀ {a b c d : List Slot}, Le a b → Le c d → Le (a ++ c) (b ++ d)
  | [], [], _, _, _, h => h
  | _ :: _, _ :: _, _, _, h1, h => ⟨h1.1, le_app h1.2 h⟩
  | [], _ :: _, _, _, h, _ => h.elim
  | _ :: _, [], _, _, h, _ => h.elim
theorem noBo_app : ∀ {a b : List Slot}, noBo (a ++ b) = true ↔ noBo a = true ∧ noBo b = true
  | [], b => by simp [noBo]
  | .bo _ :: _, _ => by simp [noBo]
  | .un :: a, b => by simpa [noBo] using noBo_app (a := a) (b := b)
  | .fr _ :: a, b => by simpa [noBo] using noBo_app (a := a) (b := b)
  | .mu _ :: a, b => by simpa [noBo] using noBo_app (a := a) (b := b)
  | .mp _ _ :: a, b => by simpa [noBo] using noBo_app (a := a) (b := b)
  | .bw _ :: a, b => by simpa [noBo] using noBo_app (a := a) (b := b)
theorem noBo_of {a : List Slot} (h : ∀ (i j : Nat), a[i]? ≠ some (.bo j)) : noBo a = true := by
  induction a with
  | nil => rfl
  | cons s r ih =>
    have ih := ih fun i j e => h (i + 1) j (by simpa using e)
    cases s with
    | bo j => exact (h 0 j rfl).elim
    | un => exact ih
    | fr _ => exact ih
    | mu _ => exact ih
    | mp _ _ => exact ih
    | bw _ => exact ih
theorem noBo_le {a b : List Slot} (h : Le a b) (ha : noBo a = true) : noBo b = true := noBo_of fun i j e => by
  rcases h.get e with z | z
  · cases z
  · exact noBo_get ha z
theorem noBo_wipeS {a : List Slot} {vs : List Nat} (ha : noBo a = true) : noBo (wipeS a vs) = true := noBo_of fun i j e => by
  rcases wipeS_get e with z | ⟨_, z⟩
  · cases z
  · exact noBo_get ha z
abbrev gB (X : Cx) (scope : Scope) (tg : Expr) : TG := fun v σ H Q => AllB X scope fun Y => WG Y tg v σ H Q
abbrev tB (X : Cx) (scope : Scope) (ifs : List Expr) : TT := fun σ H Q => AllB X scope fun Y => ∀ (pins : List (Addr × Obj)) (s : Shared), Inv Y pins σ H s →
  wpAny (model Y.prog Y.w) Y.A (forIn ifs true fun c r => if r = true then do let ok ← isTrue c Y.env (eval c Y.env); pure (ForInStep.yield ok) else pure (ForInStep.yield r)) (TP Y pins σ Q) Y.xe s
abbrev eB (X : Cx) (scope : Scope) (elt : Expr) : TE := fun σ H Q => AllB X scope fun Y => WE Y elt σ H Q
theorem Wd.endMut {Δ : List Slot} {S : L2.St} {G H : Hp} {Dn : Addr} {acc : List D} {y : D} {v : V} (W : Wd K en (Δ ++ [.mu (.lst acc)] ++ [.fr y]) (S ++ [some (.ref Dn)] ++ [some v]) G H) (hl : Δ.length = S.length) (hn : en.n ≤ S.length) :
    ∃ vs, H Dn = some (.lst vs) ∧ vs.length = acc.length ∧ Wd K en (Δ ++ [.mu (.lst (acc ++ [y]))]) (S ++ [some (.ref Dn)]) G (upd H Dn (.lst (vs ++ [v]))) := by
  obtain ⟨v', e, ry⟩ := W.last
  cases e
  have W1 : Wd K en (Δ ++ [.mu (.lst acc)]) (S ++ [some (.ref Dn)]) G H := W.cut (by rw [List.length_append, List.length_append, hl]; rfl) (by rw [List.length_append]; omega)
  obtain ⟨p, e, n, f, f2, vs, ev, r⟩ := W1.last
  cases e
  refine ⟨vs, ev, r.length.symm, ?_⟩
  have := W1.mut (i := Δ.length) (p := Dn) (o' := .lst (vs ++ [v])) (d' := .lst (acc ++ [y])) ⟨_, getElem?_last, rfl, by rw [hl]; exact getElem?_last⟩ ⟨_, upd_same, r.append (Reps.one ry)⟩
  rw [List.set_append_right _ _ (Nat.le_refl _), Nat.sub_self, List.getD_eq_getElem?_getD, getElem?_last] at this
  exact this
/-- the reading of a comprehension -/
theorem tlc_core {S : Type} {elt tg iter : Expr} {ifs : List Expr} {scope : Scope} {vs : List Nat} (hnb : noBo τ = true)
    (h : JI X en δ τ tg iter (fun ds δ1 m1 => ∃ (a0 : S) (f : D → S → Res (Option D × S)) (k : List D × S → Res R) (pe pe' : S → List Slot), m1 = (lcF ds a0 [] f).bind k ∧ Le (wipeS δ1 vs) (pe a0) ∧ noBo δ1 = true ∧
      (∀ en', KnB en en' → ∀ d a acc, Turn1 X scope en' (pe a) (τ ++ [.mu (.lst acc)]) tg ifs elt d pe vs (f d a)) ∧ (∀ a, rst δ1 vs (pe a) = pe' a) ∧ ∀ p : List D × S, C (.mu (.lst p.1)) (pe' p.2) (k p)) m)
    (hb : m ≠ .bad) (hx : en.HX m.exc) (σ ts : L2.St) (G H : Hp) (T : VK) (hl : δ.length = en.n) (hσ : σ.length = en.n) (W : Wd X.K en (δ ++ τ) (σ ++ ts) G H)
    (q : ∀ sl δ' v G' H', C sl δ' m → δ'.length = en.n → Wd X.K en (δ' ++ τ ++ [sl]) (σ ++ ts ++ [some v]) G' H' → T v H') :
    tLc (WI X tg iter) (gB X scope tg) (tB X scope ifs) (eB X scope elt) vs σ H T := by
  refine h.run hb hx σ ts G H _ hl hσ W fun ds δ1 J G1 H1 c hl1 W1 it => ?_
  obtain ⟨a0, f, k, pe, pe', em, le0, nb1, turn, hpe, hk⟩ := c
  have ht : τ.length = ts.length := W.splitLen (hl.trans hσ.symm)
  intro Dn hD
  have nbT : ∀ acc, noBo (τ ++ [Slot.mu (.lst acc)]) = true := fun acc => noBo_app.mpr ⟨hnb, rfl⟩
  have W2 : Wd X.K (en.blk G1) (wipeS δ1 vs ++ (τ ++ [.mu (.lst [])])) (L2.wipe σ vs ++ (ts ++ [some (.ref Dn)])) G1 (upd H1 Dn (.lst [])) := by
    have w := W1.out (sl := .mu (.lst [])) (v := .ref Dn) (Grow.laid W1.sub hD) ⟨Dn, rfl, hD, (W1.fresh hD).1, [], upd_same, rfl⟩
    rw [List.append_assoc, List.append_assoc] at w
    exact (w.toBlk).wiped hl1 hσ (noBo_app.mpr ⟨nb1, nbT _⟩)
  have turn := turn (en.blk G1) ⟨rfl, rfl, rfl, rfl⟩
  refine ⟨fun i n H => n = ds.length - i ∧ i ≤ ds.length ∧ ∃ a acc G2, (pe a).length = en.n ∧ noBo (pe a) = true ∧ Wd X.K (en.blk G1) (pe a ++ (τ ++ [.mu (.lst acc)])) (L2.wipe σ vs ++ (ts ++ [some (.ref Dn)])) G2 H ∧ m = (lcF (ds.drop i) a acc f).bind k,
    ⟨ds.length, by simp, Nat.zero_le _, a0, [], G1, le0.len.symm.trans (by rw [wipeS_len]; exact hl1), noBo_le le0 (noBo_wipeS nb1), ?_, em⟩, ?_⟩
  · have le1 : Le (wipeS δ1 vs ++ (τ ++ [.mu (.lst [])])) (pe a0 ++ (τ ++ [.mu (.lst [])])) := le_app le0 (Le.refl _)
    exact W2.le le1
  rintro i n H2 ⟨rfl, hi, a, acc, G2, hla, hnba, W3, em2⟩
  obtain ⟨go, stop⟩ := it G2 H2 W3.ext W3.frm W3.sub i
  by_cases hlt : i < ds.length
  · obtain ⟨g1, g2⟩ := go ds[i] (List.getElem?_eq_getElem hlt)
    have ed : ds.drop i = ds[i] :: ds.drop (i + 1) := by rw [List.drop_eq_getElem_cons hlt]
    refine .inr ⟨g1, fun H' => ∃ a acc G2, (pe a).length = en.n ∧ noBo (pe a) = true ∧ Wd X.K (en.blk G1) (pe a ++ (τ ++ [.mu (.lst acc)])) (L2.wipe σ vs ++ (ts ++ [some (.ref Dn)])) G2 H' ∧ m = (lcF (ds.drop (i + 1)) a acc f).bind k, fun H' hn => ⟨ds.length - (i + 1), by omega, rfl, hlt, hn⟩, fun x H' hy => ?_⟩
    obtain ⟨G3, gr, rx⟩ := g2 x H' hy
    rw [ed] at em2
    have hb2 := hb
    rw [em2] at hb2
    have st := lcF_step hb2
    have hfb : f ds[i] a ≠ .bad := by
      rcases st with ⟨y, s', e, _⟩ | ⟨s', e, _⟩ <;> (rw [e]; exact fun z => nomatch z)
    have hfx : (en.blk G1).HX (f ds[i] a).exc := by
      rcases st with ⟨y, s', e, _⟩ | ⟨s', e, _⟩ <;> (rw [e]; exact rfl)
    intro s0 H0 C0 cl fp
    obtain ⟨is, his, tr⟩ := turn ds[i] a acc s0 H0 C0 cl fp
    refine tr.run hfb hfx (L2.wipe σ vs) (ts ++ [some (.ref Dn)]) G3 H' x _ hla (by rw [wipe_length]; exact hσ) (W3.grow gr) rx fun δ4 σ4 G4 H4 c4 hl4 hσ4 W4 _ on => ?_
    have hwp : L2.wipe σ4 vs = L2.wipe σ vs := by
      rw [wipe_eq (σ := L2.wipe σ vs) (σ' := σ4) (fun j hj => on j fun z => hj (his j z)) (by rw [wipe_length, hσ4, hσ])]
      refine wipe_eq (fun j hj => wipe_get hj) (wipe_length _ _)
    refine ⟨hwp, ?_⟩
    -- the element, kept
    have elem : ∀ {δ5 : List Slot} {G5 H5 : Hp} {mm : Res (Option D × S)}, mm = f ds[i] a → TurnE X scope (en.blk G1) δ5 (τ ++ [.mu (.lst acc)]) elt pe vs mm → δ5.length = en.n → Wd X.K (en.blk G1) (δ5 ++ (τ ++ [.mu (.lst acc)])) (σ4 ++ (ts ++ [some (.ref Dn)])) G5 H5 →
        eB X scope elt σ4 H5 fun y H6 => ∃ accV, H6 Dn = some (.lst accV) ∧ accV.length < sizeLine ∧ ∃ a acc G2, (pe a).length = en.n ∧ noBo (pe a) = true ∧ Wd X.K (en.blk G1) (pe a ++ (τ ++ [.mu (.lst acc)])) (L2.wipe σ vs ++ (ts ++ [some (.ref Dn)])) G2 (upd H6 Dn (.lst (accV ++ [y]))) ∧ m = (lcF (ds.drop (i + 1)) a acc f).bind k := by
      intro δ5 G5 H5 mm hm c5 hl5 W5 s0 H0 C0 cl fp
      subst hm
      refine (c5 s0 H0 C0 cl fp).run hfb hfx σ4 (ts ++ [some (.ref Dn)]) G5 H5 _ hl5 hσ4 W5 fun s δ6 y G6 H6 ⟨yd, a', es, e6, le6, nb6⟩ hl6 W6 => ?_
      subst es
      have W7 : Wd X.K (en.blk G1) ((δ6 ++ τ) ++ [.mu (.lst acc)] ++ [.fr yd]) ((σ4 ++ ts) ++ [some (.ref Dn)] ++ [some y]) G6 H6 := by
        simp only [List.append_assoc] at W6 ⊢
        exact W6
      have hl6' : δ6.length = en.n := hl6
      have hσ4' : σ4.length = en.n := hσ4
      obtain ⟨accV, h1, h2, W8⟩ := W7.endMut (by rw [List.length_append, List.length_append]; omega) (by rw [List.length_append]; show en.n ≤ _; omega)
      rcases st with ⟨y', s', e, hz, e2⟩ | ⟨s', e, e2⟩
      · rw [e] at e6
        cases e6
        refine ⟨accV, h1, by rw [h2]; exact hz, a', acc ++ [yd], G6, le6.len.symm.trans (by rw [wipeS_len]; exact hl6), noBo_le le6 (noBo_wipeS nb6), ?_, by rw [em2, e2]⟩
        rw [List.append_assoc, List.append_assoc] at W8
        have W9 := W8.wiped (vs := vs) hl6 hσ4 (noBo_app.mpr ⟨nb6, nbT _⟩)
        rw [hwp] at W9
        exact W9.le (le_app le6 (Le.refl _))
      · rw [e] at e6
        cases e6
    match hifs : ifs, c4 with
    | [], c4 =>
      intro s0 H0 C0 cl fp pins s I
      exact wpAny_tests_nil ⟨H4, I, iteT (elem rfl c4 hl4 W4)⟩
    | [cnd], c4 =>
      intro s0 H0 C0 cl fp pins s I
      refine wpAny_tests_one (((c4 s0 H0 C0 cl fp).run hfb hfx σ4 (ts ++ [some (.ref Dn)]) G4 H4 _ hl4 hσ4 W4 fun b δ5 G5 H5 ⟨mA, mF, e5, cA, a', eF, leF, nbF⟩ hl5 W5 => ?_) pins s I)
      cases b with
      | true =>
        have e : f ds[i] a = mA := e5
        exact iteT (elem e.symm cA hl5 W5)
      | false =>
        have e : f ds[i] a = mF := e5
        rw [eF] at e
        refine iteF ?_
        rcases st with ⟨y', s', e3, hz, e2⟩ | ⟨s', e3, e2⟩
        · rw [e] at e3; cases e3
        · rw [e] at e3
          cases e3
          refine ⟨a', acc, G5, leF.len.symm.trans (by rw [wipeS_len]; exact hl5), noBo_le leF (noBo_wipeS nbF), ?_, by rw [em2, e2]⟩
          have W9 := W5.wiped (vs := vs) hl5 hσ4 (noBo_app.mpr ⟨nbF, nbT _⟩)
          rw [hwp] at W9
          exact W9.le (le_app leF (Le.refl _))
    | _ :: _ :: _, c4 => exact c4.elim
  · have e : i = ds.length := by omega
    subst e
    refine .inl ⟨stop (Nat.le_refl _), ?_⟩
    rw [List.drop_length] at em2
    have em3 : m = k (acc, a) := em2
    have hc := hk (acc, a)
    rw [← em3] at hc
    have W5 := W1.outof (vs := vs) (δ := pe a) (Ξ := τ ++ [.mu (.lst acc)]) (us := ts ++ [some (.ref Dn)]) W3 hl1 hla hσ (noBo_app.mpr ⟨hnba, nbT _⟩)
    rw [hpe a, ← List.append_assoc, ← List.append_assoc] at W5
    exact q _ (pe' a) (.ref Dn) G2 H2 hc (by rw [← hpe a, rst_len]; exact hla) W5
/-- [.. for .. in ..] as a value: a new list -/
theorem je_lc {S : Type} {elt tg iter : Expr} {ifs : List Expr} {scope : Scope} {pos : Pos} (own : List (Str × Nat)) (hc : X.calm = true) (hN : X.N.Nodup)
    (h : JI X en δ τ tg iter (fun ds δ1 m1 => ∃ (a0 : S) (f : D → S → Res (Option D × S)) (k : List D × S → Res R) (pe pe' : S → List Slot), m1 = (lcF ds a0 [] f).bind k ∧ Le (wipeS δ1 (own.map (·.2))) (pe a0) ∧ noBo δ1 = true ∧
      (∀ en', KnB en en' → ∀ d a acc, Turn1 X scope en' (pe a) (τ ++ [.mu (.lst acc)]) tg ifs elt d pe (own.map (·.2)) (f d a)) ∧ (∀ a, rst δ1 (own.map (·.2)) (pe a) = pe' a) ∧ ∀ p : List D × S, C (.mu (.lst p.1)) (pe' p.2) (k p)) m)
    (hnb : noBo τ = true := by rfl) (ok : BlkOk X.N X.env.scope scope own := by exact blkOk_by (by decide +kernel)) (hs : ∀ x, foldedSetIterable iter X.env x = pure x := by intro _; rfl) :
    JE X en δ τ (.ListComp elt [⟨tg, iter, ifs, 0⟩] scope pos) C m := .mk fun hb hx σ ts G H T hl hσ W q =>
  we_of (pe_lc hc hN pi_wi ok (g := gB X scope tg) (tt := tB X scope ifs) (te := eB X scope elt) (fun s0 H0 C0 cl fp => ⟨fun pins s σ H v u Q I r hw => hw s0 H0 C0 cl fp pins s u I r⟩)
    (fun s0 H0 C0 cl fp => ⟨fun pins s σ H Q I hw => hw s0 H0 C0 cl fp pins s I⟩) (fun s0 H0 C0 cl fp => ⟨fun pins s σ H Q I hw => hw s0 H0 C0 cl fp pins s I⟩) hs) (tlc_core hnb h hb hx σ ts G H T hl hσ W q)
/-- name = [.. for .. in ..] -/
theorem js_setLc {S : Type} {N : List Slot → Res R → Prop} {RT : Slot → List Slot → Res R → Prop} {BK CT : List Slot → Res R → Prop} (i : Nat) {y : Str} {py : Pos} {elt tg iter : Expr} {ifs : List Expr} {scope : Scope} {pos spos : Pos} (own : List (Str × Nat)) (hc : X.calm = true) (hN : X.N.Nodup)
    (h : JI X en δ [] tg iter (fun ds δ1 m1 => ∃ (a0 : S) (f : D → S → Res (Option D × S)) (k : List D × S → Res R) (pe pe' : S → List Slot), m1 = (lcF ds a0 [] f).bind k ∧ Le (wipeS δ1 (own.map (·.2))) (pe a0) ∧ noBo δ1 = true ∧
      (∀ en', KnB en en' → ∀ d a acc, Turn1 X scope en' (pe a) ([] ++ [.mu (.lst acc)]) tg ifs elt d pe (own.map (·.2)) (f d a)) ∧ (∀ a, rst δ1 (own.map (·.2)) (pe a) = pe' a) ∧ ∀ p : List D × S, ∃ δ', (pe' p.2).set i (.mu (.lst p.1)) = δ' ∧ noBo (pe' p.2) = true ∧ N δ' (k p)) m)
    (hy : X.N[i]? = some y := by rfl) (hyl : X.env.scope.names.lookup y = some .local := by rfl)
    (ok : BlkOk X.N X.env.scope scope own := by exact blkOk_by (by decide +kernel)) (hs : ∀ x, foldedSetIterable iter X.env x = pure x := by intro _; rfl)
    (hsw : swapsWith (.ListComp elt [⟨tg, iter, ifs, 0⟩] scope pos) (some (.Name y py)) spos.line X.env = pure true := by exact sw_true rfl rfl rfl (by decide +kernel)) :
    JS X en δ (.Assign [.Name y py] (.ListComp elt [⟨tg, iter, ifs, 0⟩] scope pos) spos) N RT BK CT m := .mk fun hb hx σ G H E hl W k1 k2 k3 k4 => by
  refine ws_of (ps_setLc hc hN hy hyl hsw pi_wi ok (g := gB X scope tg) (tt := tB X scope ifs) (te := eB X scope elt) (fun s0 H0 C0 cl fp => ⟨fun pins s σ H v u Q I r hw => hw s0 H0 C0 cl fp pins s u I r⟩)
    (fun s0 H0 C0 cl fp => ⟨fun pins s σ H Q I hw => hw s0 H0 C0 cl fp pins s I⟩) (fun s0 H0 C0 cl fp => ⟨fun pins s σ H Q I hw => hw s0 H0 C0 cl fp pins s I⟩) hs) ?_
  refine tlc_core (S := S) (τ := []) (C := fun s δ1 m1 => ∃ δ', δ1.set i s = δ' ∧ s.may = true ∧ noBo δ1 = true ∧ N δ' m1) rfl (h.conv fun ds δ1 c => ?_) hb hx σ [] G H _ hl (W.sl hl) (by rw [List.append_nil, List.append_nil]; exact W) fun sl δ1 v G' H' ⟨δ', e1, e2, e3, c⟩ hl' W' => ?_
  · obtain ⟨a0, f, k, pe, pe', e, le, nb, t, r, c⟩ := c
    exact ⟨a0, f, k, pe, pe', e, le, nb, t, r, fun p => by obtain ⟨δ', f1, f2, f3⟩ := c p; exact ⟨δ', f1, rfl, f2, f3⟩⟩
  · subst e1
    rw [List.append_nil, List.append_nil] at W'
    exact k1 _ _ G' H' c (by rw [List.length_set]; exact hl') (W'.give (hl'.trans (W.sl hl).symm) e3 e2 i)
end
end BR

/-! K10: operations over data -/
namespace BR
open PySem PySem.Spec PyProof.Rows L2

/-! ### as the library's data -/
mutual
def toP : D → PyData
  | .non => .none
  | .bl b => .bool b
  | .int i => .int i
  | .str x => .str x
  | .lst ds => .list (toPs ds)
  | .tup ds => .tuple (toPs ds)
  | .dic ks => .dict (toPk ks)
  | .scr ns => .list (ns.map PyData.int)
  | .exc _ _ => .dict []
  | .obj _ _ => .dict []
def toPs : List D → List PyData
  | [] => []
  | d :: ds => toP d :: toPs ds
def toPk : List (Key × D) → List (PyData × PyData)
  | [] => []
  | (.inl i, d) :: r => (.int i, toP d) :: toPk r
  | (.inr x, d) :: r => (.str x, toP d) :: toPk r
end
section
variable {K : PySem.W.Frag} {G H : Hp}
theorem dp_ints : ∀ ns : List Int, DpAll K H (ns.map V.int) (ns.map PyData.int)
  | [] => .nil
  | n :: ns => .cons (.int n) (dp_ints ns)
mutual
theorem Rep.dp : ∀ (d : D) (v : V), Rep K H d v → (toP d).canLay0 = true → Dp K H v (toP d)
  | .non, v, h, _ => by
    have e : v = .non := h
    subst e; exact .non
  | .bl b, v, h, _ => by
    have e : v = .bl b := h
    subst e; exact .bl b
  | .int b, v, h, _ => by
    have e : v = .int b := h
    subst e; exact .int b
  | .str b, v, h, _ => by
    have e : v = .str b := h
    subst e; exact .str b
  | .lst ds, v, h, c => by
    obtain ⟨a, vs, e, q, r⟩ := h
    subst e
    exact .lst (SqL.of q) (Reps.dp ds vs r (by simpa [toP, PyData.canLay0] using c))
  | .tup ds, v, h, c => by
    obtain ⟨a, vs, e, q, r⟩ := h
    subst e
    exact .tup q (Reps.dp ds vs r (by simpa [toP, PyData.canLay0] using c))
  | .scr ns, v, h, c => by
    obtain ⟨a, e, q⟩ := h
    subst e
    exact .lst q (dp_ints ns)
  | .dic ks, v, h, c => by simp [toP, PyData.canLay0] at c
  | .exc _ _, v, h, c => by simp [toP, PyData.canLay0] at c
  | .obj _ _, v, h, c => by simp [toP, PyData.canLay0] at c
theorem Reps.dp : ∀ (ds : List D) (vs : List V), Reps K H ds vs → PyData.canLayAll0 (toPs ds) = true → DpAll K H vs (toPs ds)
  | [], vs, h, _ => by
    have e : vs = [] := h
    subst e; exact .nil
  | d :: ds, vs, h, c => by
    obtain ⟨v, r, e, h1, h2⟩ := h
    subst e
    have c' : (toP d).canLay0 = true ∧ PyData.canLayAll0 (toPs ds) = true := by simpa [toPs, PyData.canLayAll0] using c
    exact .cons (Rep.dp d v h1 c'.1) (Reps.dp ds r h2 c'.2)
end
theorem VRep.dp {d : D} {v : V} (s : Sub G H) (h : VRep K G H d v) (c : (toP d).canLay0 = true) : Dp K H v (toP d) := by
  refine Rep.dp d v ?_ c
  cases d with
  | lst ds => obtain ⟨a, vs, e, q, r⟩ := h; exact ⟨a, vs, e, q, Reps.sub s _ _ r⟩
  | tup ds => obtain ⟨a, vs, e, q, r⟩ := h; exact ⟨a, vs, e, q, Reps.sub s _ _ r⟩
  | dic ds => obtain ⟨a, vs, e, q, r⟩ := h; exact ⟨a, vs, e, q, RepKs.sub s _ _ r⟩
  | scr ns => exact h
  | exc _ _ => obtain ⟨a, C, e, f, q⟩ := h; exact ⟨a, C, e, f, q.sub s (Sub.refl _)⟩
  | obj _ _ => simp [toP, PyData.canLay0] at c
  | non => exact h
  | bl _ => exact h
  | int _ => exact h
  | str _ => exact h
end

/-! ### arithmetic -/
def addD : D → D → Option D
  | .int a, .int b => some (.int (a + b))
  | .str a, .str b => if a.length + b.length ≤ sizeLine then some (.str (a ++ b)) else none
  | .lst a, .lst b => if a.length + b.length ≤ sizeLine then some (.lst (a ++ b)) else none
  | .tup (a :: as), .tup (b :: bs) => if (a :: as).length + (b :: bs).length ≤ sizeLine then some (.tup ((a :: as) ++ (b :: bs))) else none
  | _, _ => none
def catL : D → D → Option D
  | .lst a, .lst b => if a.length + b.length ≤ sizeLine then some (.lst (a ++ b)) else none
  | _, _ => none
def subD : D → D → Option D
  | .int a, .int b => some (.int (a - b))
  | _, _ => none
def mulD : D → D → Option D
  | .int a, .int b => if a.natAbs.log2 + b.natAbs.log2 < 1000000 then some (.int (a * b)) else none
  | _, _ => none
def fdivD : D → D → Option D
  | .int a, .int b => if 0 < b ∧ b.natAbs.log2 < 9000 then some (.int (a / b)) else none
  | _, _ => none
def modD : D → D → Option D
  | .int a, .int b => if 0 < b then some (.int (a % b)) else none
  | _, _ => none
def powD : D → D → Option D
  | .int a, .int b => if 0 ≤ b ∧ (Builtin.Int.intBits a : Int) * b ≤ 2 ^ 27 then some (.int (a ^ b.toNat)) else none
  | _, _ => none
def negD : D → Option D
  | .int a => some (.int (-a))
  | _ => none
section
variable {X : Cx}
theorem VRep.sc {K : PySem.W.Frag} {G H : Hp} {d : D} {v u : V} (h : VRep K G H d v) (e : (match d with | .non => some V.non | .bl b => some (V.bl b) | .int i => some (V.int i) | .str x => some (V.str x) | _ => none) = some u) : v = u := by
  cases d <;> first | (cases e; exact h) | cases e
/-- a fresh list that stands fast at once -/
theorem fz_out {G H : Hp} {ds : List D} {vs : List V} {Q : VK} (sb : Sub G H) (r : Reps X.K G ds vs) (k : ∀ v G' H', Grow G H G' H' → Out X.K G H G' H' (.fr (.lst ds)) v → Q v H') : ∀ p, H p = none → Q (.ref p) (upd H p (.lst vs)) := fun p hp => by
  have hg : G p = none := by
    cases z : G p with
    | none => rfl
    | some o => rw [sb p o z] at hp; cases hp
  refine k (.ref p) (upd G p (.lst vs)) _ ⟨Sub.upd hg, Sub.upd hp, fun a u e => ?_, fun a u e => ?_⟩ ⟨p, vs, rfl, upd_same, Reps.sub (Sub.upd hg) _ _ r⟩
  · by_cases ha : a = p
    · subst ha; rw [upd_same] at e ⊢; exact e
    · rw [upd_ne ha] at e ⊢; exact sb a u e
  · by_cases ha : a = p
    · subst ha; exact .inr hp
    · rw [upd_ne ha] at e; exact .inl e
theorem fzT_out {G H : Hp} {ds : List D} {vs : List V} {Q : VK} (sb : Sub G H) (r : Reps X.K G ds vs) (k : ∀ v G' H', Grow G H G' H' → Out X.K G H G' H' (.fr (.tup ds)) v → Q v H') : ∀ p, H p = none → Q (.ref p) (upd H p (.tup vs)) := fun p hp => by
  have hg : G p = none := by
    cases z : G p with
    | none => rfl
    | some o => rw [sb p o z] at hp; cases hp
  refine k (.ref p) (upd G p (.tup vs)) _ ⟨Sub.upd hg, Sub.upd hp, fun a u e => ?_, fun a u e => ?_⟩ ⟨p, vs, rfl, SqT.of upd_same, Reps.sub (Sub.upd hg) _ _ r⟩
  · by_cases ha : a = p
    · subst ha; rw [upd_same] at e ⊢; exact e
    · rw [upd_ne ha] at e ⊢; exact sb a u e
  · by_cases ha : a = p
    · subst ha; exact .inr hp
    · rw [upd_ne ha] at e; exact .inl e
theorem mu_out {G H : Hp} {ds : List D} {vs : List V} {Q : VK} (sb : Sub G H) (r : Reps X.K G ds vs) (k : ∀ v G' H', Grow G H G' H' → Out X.K G H G' H' (.mu (.lst ds)) v → Q v H') : ∀ p, H p = none → Q (.ref p) (upd H p (.lst vs)) := fun p hp => by
  have hg : G p = none := by
    cases z : G p with
    | none => rfl
    | some o => rw [sb p o z] at hp; cases hp
  exact k (.ref p) G _ (Grow.laid sb hp) ⟨p, rfl, hp, hg, vs, upd_same, r⟩
theorem sc_out {G H : Hp} {Q : VK} {d : D} {u : V} (sb : Sub G H) (e : (match d with | .non => some V.non | .bl b => some (V.bl b) | .int i => some (V.int i) | .str x => some (V.str x) | _ => none) = some u) (k : ∀ v G' H', Grow G H G' H' → Out X.K G H G' H' (.fr d) v → Q v H') : Q u H := by
  refine k u G H (Grow.refl sb) ?_
  show Rep X.K G d u
  cases d <;> first | (cases e; exact rfl) | cases e
theorem op_addD : OpD X (binaryOp .Add) addD .fr := opD_of (op_add.or (op_add_str.or (op_cat.or op_catA))) fun d1 d2 d e G H v1 v2 Q sb r1 r2 k => by
  match d1, d2, e, r1, r2 with
  | .int a, .int b, e, r1, r2 =>
    cases e
    exact .inl ⟨a, b, r1, r2, sc_out sb rfl k⟩
  | .str a, .str b, e, r1, r2 =>
    have e' : (if a.length + b.length ≤ sizeLine then some (D.str (a ++ b)) else none) = some d := e
    by_cases hz : a.length + b.length ≤ sizeLine
    · rw [if_pos hz] at e'
      cases e'
      exact .inr (.inl ⟨a, b, r1, r2, hz, sc_out sb rfl k⟩)
    · rw [if_neg hz] at e'; cases e'
  | .lst a, .lst b, e, r1, r2 =>
    have e' : (if a.length + b.length ≤ sizeLine then some (D.lst (a ++ b)) else none) = some d := e
    by_cases hz : a.length + b.length ≤ sizeLine
    · rw [if_pos hz] at e'
      cases e'
      obtain ⟨p, vs, e1, q1, s1⟩ := r1
      obtain ⟨p2, vs2, e2, q2, s2⟩ := r2
      exact .inr (.inr (.inl ⟨p, p2, vs, vs2, e1, e2, q1, q2, by rw [← s1.length, ← s2.length]; exact hz, fz_out sb (s1.append s2) k⟩))
    · rw [if_neg hz] at e'; cases e'
  | .tup (a :: as), .tup (b :: bs), e, r1, r2 =>
    have e' : (if (a :: as).length + (b :: bs).length ≤ sizeLine then some (D.tup ((a :: as) ++ (b :: bs))) else none) = some d := e
    by_cases hz : (a :: as).length + (b :: bs).length ≤ sizeLine
    · rw [if_pos hz] at e'
      cases e'
      obtain ⟨p, vs, e1, q1, s1⟩ := r1
      obtain ⟨p2, vs2, e2, q2, s2⟩ := r2
      have n1 : vs ≠ [] := fun z => by have := s1.length; rw [z] at this; simp at this
      have n2 : vs2 ≠ [] := fun z => by have := s2.length; rw [z] at this; simp at this
      exact .inr (.inr (.inr ⟨p, p2, vs, vs2, e1, e2, q1, q2, by rw [← s1.length, ← s2.length]; exact hz, fun z => absurd z n1, fun _ z => absurd z n2, fun _ _ => fzT_out sb (s1.append s2) k⟩))
    · rw [if_neg hz] at e'; cases e'
theorem op_subD : OpD X (binaryOp .Sub) subD .fr := opD_of op_sub fun d1 d2 d e G H v1 v2 Q sb r1 r2 k => by
  match d1, d2, e, r1, r2 with
  | .int a, .int b, e, r1, r2 =>
    cases e
    exact ⟨a, b, r1, r2, sc_out sb rfl k⟩
theorem op_mulD : OpD X (binaryOp .Mult) mulD .fr := opD_of op_mulW fun d1 d2 d e G H v1 v2 Q sb r1 r2 k => by
  match d1, d2, e, r1, r2 with
  | .int a, .int b, e, r1, r2 =>
    have e' : (if a.natAbs.log2 + b.natAbs.log2 < 1000000 then some (D.int (a * b)) else none) = some d := e
    by_cases hz : a.natAbs.log2 + b.natAbs.log2 < 1000000
    · rw [if_pos hz] at e'
      cases e'
      exact ⟨a, b, r1, r2, hz, sc_out sb rfl k⟩
    · rw [if_neg hz] at e'; cases e'
theorem op_fdivD : OpD X (binaryOp .FloorDiv) fdivD .fr := opD_of op_fdivW fun d1 d2 d e G H v1 v2 Q sb r1 r2 k => by
  match d1, d2, e, r1, r2 with
  | .int a, .int b, e, r1, r2 =>
    have e' : (if 0 < b ∧ b.natAbs.log2 < 9000 then some (D.int (a / b)) else none) = some d := e
    by_cases hz : 0 < b ∧ b.natAbs.log2 < 9000
    · rw [if_pos hz] at e'
      cases e'
      exact ⟨a, b, r1, r2, hz, sc_out sb rfl k⟩
    · rw [if_neg hz] at e'; cases e'
theorem op_modD : OpD X (binaryOp .Mod) modD .fr := opD_of op_mod fun d1 d2 d e G H v1 v2 Q sb r1 r2 k => by
  match d1, d2, e, r1, r2 with
  | .int a, .int b, e, r1, r2 =>
    have e' : (if 0 < b then some (D.int (a % b)) else none) = some d := e
    by_cases hz : 0 < b
    · rw [if_pos hz] at e'
      cases e'
      exact ⟨a, b, r1, r2, hz, sc_out sb rfl k⟩
    · rw [if_neg hz] at e'; cases e'
theorem op_powW : OpR X (binaryOp .Pow) (rI (fun i j => 0 ≤ j ∧ (Builtin.Int.intBits i : Int) * j ≤ 2 ^ 27) fun i j => .int (i ^ j.toNat)) := opI fun _ _ _ _ _ _ _ hc q => pow_int hc.1 hc.2 q
theorem op_powD : OpD X (binaryOp .Pow) powD .fr := opD_of op_powW fun d1 d2 d e G H v1 v2 Q sb r1 r2 k => by
  match d1, d2, e, r1, r2 with
  | .int a, .int b, e, r1, r2 =>
    have e' : (if 0 ≤ b ∧ (Builtin.Int.intBits a : Int) * b ≤ 2 ^ 27 then some (D.int (a ^ b.toNat)) else none) = some d := e
    by_cases hz : 0 ≤ b ∧ (Builtin.Int.intBits a : Int) * b ≤ 2 ^ 27
    · rw [if_pos hz] at e'
      cases e'
      exact ⟨a, b, r1, r2, hz, sc_out sb rfl k⟩
    · rw [if_neg hz] at e'; cases e'
theorem un_negD : UnD X (unaryOp .USub) negD .fr := unD_of un_neg fun d1 d e G H v1 Q sb r1 k => by
  match d1, e, r1 with
  | .int a, e, r1 =>
    cases e
    exact ⟨a, r1, sc_out sb rfl k⟩
end

/-! ### comparisons -/
def cmpI (p : Int → Int → Bool) : D → D → Option Bool
  | .int a, .int b => some (p a b)
  | _, _ => none
def ltD : D → D → Option Bool := cmpI fun a b => decide (a < b)
def leD : D → D → Option Bool := cmpI fun a b => decide (a ≤ b)
def gtD : D → D → Option Bool := cmpI fun a b => decide (b < a)
def geD : D → D → Option Bool := cmpI fun a b => decide (b ≤ a)
/-- is None, by its right side -/
def isND : D → D → Option Bool
  | .non, .non => some true
  | _, .non => some false
  | _, _ => none
def notND : D → D → Option Bool
  | .non, .non => some false
  | _, .non => some true
  | _, _ => none
def isBD : D → D → Option Bool
  | .bl a, .bl b => some (decide (a = b))
  | _, _ => none
def notBD : D → D → Option Bool
  | .bl a, .bl b => some (!decide (a = b))
  | _, _ => none
def eqD : D → D → Option Bool
  | .int a, .int b => some (decide (a = b))
  | .str a, .str b => some (decide (a = b))
  | .bl a, .bl b => some (decide (a = b))
  | d, e => if SeqAt.shaped (toP d) = true ∧ SeqAt.shaped (toP e) = true then some (PyData.eqv (toP d) (toP e)) else none
def neD (d e : D) : Option Bool := (eqD d e).map (!·)
section
variable {X : Cx}
theorem cmpI_of {f : Value → Value → Sem Value} {p : Int → Int → Bool} (h : OpR X f (rI0 fun i j => .bl (p i j))) : CmpD X f (cmpI p) := opD_of h fun d1 d2 d e G H v1 v2 Q sb r1 r2 k => by
  match d1, d2, e, r1, r2 with
  | .int a, .int b, e, r1, r2 =>
    cases e
    exact ⟨a, b, r1, r2, sc_out (d := .bl (p a b)) sb rfl k⟩
theorem cmp_ltD : CmpD X (compareOp .Lt) ltD := cmpI_of op_lt
theorem cmp_leD : CmpD X (compareOp .LtE) leD := cmpI_of op_le
theorem cmp_gtD : CmpD X (compareOp .Gt) gtD := cmpI_of op_gt
theorem cmp_geD : CmpD X (compareOp .GtE) geD := cmpI_of op_ge
theorem VRep.isN {K : PySem.W.Frag} {G H : Hp} {d : D} {v : V} (h : VRep K G H d v) : decide (v = .non) = (match d with | .non => true | _ => false) := by
  cases d with
  | non => have e : v = .non := h; subst e; rfl
  | bl _ => have e : v = _ := h; subst e; rfl
  | int _ => have e : v = _ := h; subst e; rfl
  | str _ => have e : v = _ := h; subst e; rfl
  | lst _ => obtain ⟨a, _, e, _⟩ := h; subst e; rfl
  | tup _ => obtain ⟨a, _, e, _⟩ := h; subst e; rfl
  | dic _ => obtain ⟨a, _, e, _⟩ := h; subst e; rfl
  | scr _ => obtain ⟨a, e, _⟩ := h; subst e; rfl
  | exc _ _ => obtain ⟨a, _, e, _⟩ := h; subst e; rfl
  | obj _ _ => obtain ⟨a, _, _, _, e, _⟩ := h; subst e; rfl
theorem cmp_isN : CmpD X (compareOp .Is) isND := opD_of op_isN fun d1 d2 d e G H v1 v2 Q sb r1 r2 k => by
  obtain ⟨b, eb, ed⟩ := Option.map_eq_some_iff.mp e
  subst ed
  match d2, r2 with
  | .non, r2 =>
    refine ⟨r2, ?_⟩
    have hb : decide (v1 = .non) = b := by rw [r1.isN]; cases d1 <;> (cases eb; rfl)
    rw [hb]
    exact sc_out (d := .bl b) sb rfl k
  | .bl _, _ => cases d1 <;> cases eb
  | .int _, _ => cases d1 <;> cases eb
  | .str _, _ => cases d1 <;> cases eb
  | .lst _, _ => cases d1 <;> cases eb
  | .tup _, _ => cases d1 <;> cases eb
  | .dic _, _ => cases d1 <;> cases eb
  | .scr _, _ => cases d1 <;> cases eb
  | .exc _ _, _ => cases d1 <;> cases eb
  | .obj _ _, _ => cases d1 <;> cases eb
theorem cmp_notN : CmpD X (compareOp .IsNot) notND := opD_of op_notN fun d1 d2 d e G H v1 v2 Q sb r1 r2 k => by
  obtain ⟨b, eb, ed⟩ := Option.map_eq_some_iff.mp e
  subst ed
  match d2, r2 with
  | .non, r2 =>
    refine ⟨r2, ?_⟩
    have hb : (!decide (v1 = .non)) = b := by rw [r1.isN]; cases d1 <;> (cases eb; rfl)
    rw [hb]
    exact sc_out (d := .bl b) sb rfl k
  | .bl _, _ => cases d1 <;> cases eb
  | .int _, _ => cases d1 <;> cases eb
  | .str _, _ => cases d1 <;> cases eb
  | .lst _, _ => cases d1 <;> cases eb
  | .tup _, _ => cases d1 <;> cases eb
  | .dic _, _ => cases d1 <;> cases eb
  | .scr _, _ => cases d1 <;> cases eb
  | .exc _ _, _ => cases d1 <;> cases eb
  | .obj _ _, _ => cases d1 <;> cases eb
theorem eq_core {f : Value → Value → Sem Value} {ng : Bool → Bool} (h : OpR X f (fun x y H Q => (scal x y = true ∧ Q (.bl (ng (decide (x = y)))) H) ∨ ∃ d e, Dp X.K H x d ∧ Dp X.K H y e ∧ SeqAt.shaped d = true ∧ SeqAt.shaped e = true ∧ Q (.bl (ng (PyData.eqv d e))) H)) : CmpD X f (fun d e => (eqD d e).map ng) := opD_of h fun d1 d2 d e G H v1 v2 Q sb r1 r2 k => by
  obtain ⟨b, eb, ed⟩ := Option.map_eq_some_iff.mp e
  subst ed
  obtain ⟨b', eb', en⟩ := Option.map_eq_some_iff.mp eb
  subst en
  have gen : ∀ {d1 d2 : D}, VRep X.K G H d1 v1 → VRep X.K G H d2 v2 → (if SeqAt.shaped (toP d1) = true ∧ SeqAt.shaped (toP d2) = true then some (PyData.eqv (toP d1) (toP d2)) else none) = some b' →
      ∃ d e, Dp X.K H v1 d ∧ Dp X.K H v2 e ∧ SeqAt.shaped d = true ∧ SeqAt.shaped e = true ∧ Q (.bl (ng (PyData.eqv d e))) H := fun {d1 d2} r1 r2 h => by
    by_cases hz : SeqAt.shaped (toP d1) = true ∧ SeqAt.shaped (toP d2) = true
    · rw [if_pos hz] at h
      cases h
      exact ⟨_, _, r1.dp sb (SeqAt.canLay_of_shaped hz.1), r2.dp sb (SeqAt.canLay_of_shaped hz.2), hz.1, hz.2, sc_out (d := .bl (ng (PyData.eqv (toP d1) (toP d2)))) sb rfl k⟩
    · rw [if_neg hz] at h; cases h
  cases d1 <;> cases d2 <;> first
    | exact .inr (gen r1 r2 eb')
    | (have e1 : v1 = _ := r1
       have e2 : v2 = _ := r2
       subst e1 e2
       cases eb'
       refine .inl ⟨rfl, ?_⟩
       have := sc_out (X := X) (Q := Q) (d := .bl (ng _)) sb rfl k
       first
         | (rw [show ∀ i j : Int, decide (V.int i = V.int j) = decide (i = j) from fun i j => decide_eq_decide.mpr ⟨V.int.inj, congrArg _⟩]; exact this)
         | (rw [show ∀ i j : Str, decide (V.str i = V.str j) = decide (i = j) from fun i j => decide_eq_decide.mpr ⟨V.str.inj, congrArg _⟩]; exact this)
         | (rw [show ∀ i j : Bool, decide (V.bl i = V.bl j) = decide (i = j) from fun i j => decide_eq_decide.mpr ⟨V.bl.inj, congrArg _⟩]; exact this))
theorem cmp_eqD (hu : X.A.units + 64 < cLine) : CmpD X (compareOp .Eq) eqD := by
  have := eq_core (ng := id) (op_eq.or (op_eqD (X := X) hu))
  have e : (fun d e => (eqD d e).map id) = eqD := by
    funext d e
    cases eqD d e <;> rfl
  rw [e] at this
  exact this
theorem cmp_neD (hu : X.A.units + 64 < cLine) : CmpD X (compareOp .NotEq) neD := eq_core (ng := (!·)) (op_ne.or (op_neD (X := X) hu))
end
end BR

/-! K11: isinstance, what is built in, places, cuts, lists changed -/
namespace BR
open PySem PySem.Spec PyProof.Rows L2

/-! ### isinstance -/
def tyOf : D → String
  | .non => "NoneType"
  | .bl _ => "bool"
  | .int _ => "int"
  | .str _ => "str"
  | .lst _ => "list"
  | .tup _ => "tuple"
  | .dic _ => "dict"
  | .scr _ => "list"
  | .exc _ _ => "Exception"
  | .obj _ _ => "Exception"
def isInt : D → Bool
  | .int _ => true
  | .bl _ => true
  | _ => false
def isBool : D → Bool
  | .bl _ => true
  | _ => false
def isStr : D → Bool
  | .str _ => true
  | _ => false
def isTup : D → Bool
  | .tup _ => true
  | _ => false
def isLst : D → Bool
  | .lst _ => true
  | .scr _ => true
  | _ => false
def isSeq : D → Bool
  | .lst _ => true
  | .scr _ => true
  | .tup _ => true
  | _ => false
def isExc : D → Bool
  | .exc _ _ => true
  | .obj _ _ => true
  | _ => false
theorem VRep.ty {K : PySem.W.Frag} {G H : Hp} : ∀ {d : D} {v : V}, isExc d = false → VRep K G H d v → TyX K H v (.type (tyOf d))
  | .non, v, _, h => by have e : v = .non := h; subst e; exact .base .non
  | .bl b, v, _, h => by have e : v = .bl b := h; subst e; exact .base (.bl b)
  | .int b, v, _, h => by have e : v = .int b := h; subst e; exact .base (.int b)
  | .str b, v, _, h => by have e : v = .str b := h; subst e; exact .base (.str b)
  | .lst _, v, _, h => by obtain ⟨a, vs, e, q, _⟩ := h; subst e; exact .base (.lst q)
  | .dic _, v, _, h => by obtain ⟨a, vs, e, q, _⟩ := h; subst e; exact .base (.dK q)
  | .tup _, v, _, h => by
    obtain ⟨a, vs, e, q, _⟩ := h
    subst e
    rcases q with (q | ⟨o, q⟩) | ⟨o, its, n, q, c, _⟩
    · exact .base (.tup q)
    · exact .fTuple q
    · exact .kTuple q c
  | .scr _, v, _, h => by
    obtain ⟨a, e, q⟩ := h
    subst e
    rcases q with (q | ⟨o, q⟩) | ⟨o, its, n, q, c, _⟩
    · exact .base (.lst q)
    · exact .base (.frz q)
    · exact .kList q c
  | .exc _ _, _, z, _ => by cases z
  | .obj _ _, _, z, _ => by cases z
section
open PySem.W PySem.Calls
variable {prog : Program} {w : World} {A : Around} {E : Value → Shared → Prop} {K : PySem.W.Frag} {z T : Addr} {oz : Obj} {dz : Option Obj}
/-- x.__class__, x an error of an own class, its dict made or not -/
theorem errcls_get {h0 : Heap} {g0 : Array GenState} {d0 : Drawn} {t0 : Nat} {os0 : OsState} {Q : Option Value → Shared → Prop} (F : L2.ExcC K T) (kin : K.In h0) (J : InstAt h0 z oz T dz) (q : Q (some (.ref T)) ⟨h0, g0, d0, t0 + 1, os0⟩) :
    wpAny (model prog w) A (getAttr? (.ref z) "__class__") Q E ⟨h0, g0, d0, t0, os0⟩ := by
  have fo : findObj K T dz "__class__" = some (.bind (.builtin "getset_descriptor.__get__") (.builtin "object.__class__")) := by
    obtain ⟨c, ec, _⟩ := any_some F.hd
    simp [findObj, ec, F.ha, F.hn, F.ht]
  have a0 := J.type (M := model prog w)
  have a1 := looks_findIn (M := model prog w) kin F.hg
  have a3 := looks_find (M := model prog w) kin J fo
  have isb : Looks (model prog w) h0 (isInstance (.ref z) (.type "BaseException")) true := a0.andThen (looks_subIn kin F.hs)
  have n2 : (Value.builtin "BaseException.__getattribute__" == Value.builtin "object.__getattribute__") = false := by decide +kernel
  unfold getAttr? getAttrBy? getAttrBy
  refine wpAny_bind (wpAny_mkText (wpAny_bind (wpAny_attempt (wpAny_holding (wpAny_bind (a0.at (wpAny_bind (a1.at ?_))))))))
  show wpAny _ _ (if (onTheHeap (Value.ref T) && Value.builtin "BaseException.__getattribute__" == Value.builtin "object.__getattribute__") = true then _ else _) _ _ _
  rw [show (onTheHeap (Value.ref T) && Value.builtin "BaseException.__getattribute__" == Value.builtin "object.__getattribute__") = false by rw [n2]; rfl, if_neg Bool.false_ne_true]
  unfold getAttrByItsOwn hookBefore; refine wpAny_bind ?_; rw [if_pos (show onTheHeap (Value.ref T) = true from rfl)]
  refine (looks_findIn (M := model prog w) kin F.hk).at ?_; refine wpAny_bind (wpAny_attempt (wpAny_holding ?_)); unfold callGetattribute
  rw [show (false && onTheHeap (Value.builtin "BaseException.__getattribute__")) = false from rfl, if_neg Bool.false_ne_true]; unfold boundAndCalled
  rw [PySem.F.excAttr_ValueError.ga.bind (.ref z)]; refine wpAny_bind (wpAny_pure ?_)
  show wpAny _ _ (call (.builtin "BaseException.__getattribute__") [.ref z, .str "__class__" t0]) _ _ _
  refine wpAny_call (codeAny_call_builtin PySem.F.excAttr_ValueError.ga.plain PySem.F.entry_bexc_ga (@check_slot (model prog w) _ _ ⟨h0, g0, d0, t0 + 1, os0⟩ "BaseException.__getattribute__" "BaseException" "__getattribute__" (.ref z) [.str "__class__" t0] [] _ (by decide +kernel) (by decide +kernel) isb (PySem.F.args_bexc_ga (.ref z) (.str "__class__" t0)) ?_))
  unfold Builtin.«object.__getattribute__»
  refine wpAny_bind (wpAny_of_eq (a := ((Value.ref z : Value), [Value.str "__class__" t0])) (by first | rfl | (simp only [slotArgs]; rfl)) (wpAny_bind (wpAny_pure (wpAny_bind (a0.at (wpAny_bind (a3.at ?_)))))))
  show wpAny _ _ (holding [Value.builtin "object.__class__"] (call (.builtin "getset_descriptor.__get__") [.builtin "object.__class__", .ref z, .ref T]) >>= ret) _ _ _
  refine wpAny_bind (wpAny_holding (wpAny_call (class_get (s := ⟨h0, g0, d0, t0 + 1, os0⟩) (ox := oz) (od := dz) kin J F.hm (wpAny_pure ?_))))
  show wpAny _ _ (handedOut (.ref T)) _ _ _
  rw [handedOut_of (v := .ref T) rfl]
  first
    | exact wpAny_pure (wpAny_pure q)
    | exact wpAny_pure q
    | exact wpAny_pure (wpAny_bind (wpAny_pure (wpAny_pure q)))
theorem errcls_ob {h0 : Heap} (F : L2.ExcC K T) (kin : K.In h0) : ∃ o c, h0.get? T = some o ∧ o.data = .cls c := by
  obtain ⟨c, ec, _⟩ := any_some F.hd
  unfold clsIn at ec
  split at ec
  · rename_i c' d' cd' sl' ho
    exact ⟨_, cd', kin _ _ ho, rfl⟩
  · cases ec
theorem errcls_kit (F : L2.ExcC K T) : KitX K (.ref z) (.ref T) (fun h => InstAt h z oz T dz) where
  ty := fun _ _ _ J => J.type
  it := fun _ h kin _ A' Q' E' s' k q => by
    obtain ⟨o, c, e, ed⟩ := errcls_ob F kin
    obtain ⟨oc, od, dt, sl⟩ := o
    dsimp only at ed
    subst ed
    unfold isType loadHead
    exact wpAny_bind (wpAny_loadPart (k _ _ e) (wpAny_pure q))
  ne := fun h tp dd its n sl kin htp => by
    obtain ⟨o, c, e, ed⟩ := errcls_ob F kin
    refine Bool.eq_false_iff.mpr fun q => ?_
    have et : T = tp := Value.ref.inj (beq_iff_eq.mp q)
    rw [et, htp] at e
    cases e
    cases ed
  ca := fun kin J k => errcls_get F kin J k
end
/-- isinstance(x, c), x an error that was caught -/
def rIsX (K : PySem.W.Frag) : List V → Hp → VK → Prop := fun xs H Q => ∃ (a C : Addr) (xf : List (Str × Option Int)) (c : V) (u : Value) (b : Bool), xs = [.ref a, c] ∧ ClsV c u ∧ L2.ExcC K C ∧ ExAt H H C a xf ∧ PySem.W.kitOne K (.ref C) u = some b ∧ Q (.bl b) H
def rIsXT (K : PySem.W.Frag) : List V → Hp → VK → Prop := fun xs H Q => ∃ (a C : Addr) (xf : List (Str × Option Int)) (tp : Addr) (cs : List V) (us : List Value) (b : Bool), xs = [.ref a, .ref tp] ∧ H tp = some (.tup cs) ∧ Paired ClsV cs us ∧ L2.ExcC K C ∧ ExAt H H C a xf ∧ PySem.W.kitAny K (.ref C) us = some b ∧ Q (.bl b) H
theorem exh_at {X : Cx} {pins : List (Addr × Obj)} {σ : L2.St} {H : Hp} {s : Shared} {a C : Addr} {xf : List (Str × Option Int)} (I : Inv X pins σ H s) (e : ExAt H H C a xf) : ∃ oe od, PySem.W.InstAt s.heap a oe C od := by
  obtain ⟨oe, vs, h0, h3, h2⟩ := e
  obtain ⟨h1, _⟩ := (show ObjOk X.prog X.w H s.heap a (ExO1 oe) from I.hok a _ h0)
  obtain ⟨oc, od, oda, osl⟩ := oe
  rcases h2 with ⟨_, z1, z2, _⟩ | ⟨dd, _, ⟨z1, z2, _⟩, hd⟩
  · dsimp only at z1 z2 h3
    subst z1 z2 h3
    exact ⟨_, none, h1, rfl, rfl, trivial⟩
  · dsimp only at z1 z2 h3
    subst z1 z2 h3
    have hx : ObjOk X.prog X.w H s.heap dd (.xd (xfV xf)) := I.hok dd _ hd
    obtain ⟨mA, hns, hr⟩ := hx
    obtain ⟨o, ho, _⟩ := lookIn_ns hns
    exact ⟨_, some o, h1, rfl, rfl, ho⟩
theorem call_isX {X : Cx} : CallR X (.builtin "isinstance") (rIsX X.K) := by
  intro pins s σ H xs us Q I r h
  obtain ⟨a, C, xf, c, u, b, rfl, k, F, e, kk, q⟩ := h
  obtain ⟨u1, u2, rfl, r1, r2⟩ := vals2 r
  have e2 := k.eq r2
  subst e2
  cases (show u1 = Value.ref a from r1)
  obtain ⟨oe, od, J⟩ := exh_at I e
  exact PySem.W.kia_one (errcls_kit F) I.kIn J kk (fun z => nomatch z) fun tk => ⟨.bl b, H, I.tok tk, rfl, q⟩
theorem call_isXT {X : Cx} : CallR X (.builtin "isinstance") (rIsXT X.K) := by
  intro pins s σ H xs us Q I r h
  obtain ⟨a, C, xf, tp, cs, ws, b, rfl, hT, k, F, e, kk, q⟩ := h
  obtain ⟨u1, u2, rfl, r1, r2⟩ := vals2 r
  cases (show u2 = Value.ref tp from r2)
  cases (show u1 = Value.ref a from r1)
  obtain ⟨oe, od, J⟩ := exh_at I e
  obtain ⟨_, its, rv, o, h1, h2, n, h3⟩ := (show ObjOk X.prog X.w H s.heap tp (.tup cs) from I.hok tp _ hT)
  have e3 := ClsV.all k rv
  subst e3
  obtain ⟨oc, od, dt, sl⟩ := o
  simp only at h2 h3
  subst h2 h3
  exact PySem.W.kia_tup (errcls_kit F) I.kIn J h1 kk (fun z => nomatch z) fun tk => ⟨.bl b, H, I.tok tk, rfl, q⟩
theorem kit_int : ∀ d, kitB (tyOf d) "int" = some (isInt d) := fun d => by cases d <;> (simp only [tyOf, isInt]; decide +kernel)
theorem kit_bool : ∀ d, kitB (tyOf d) "bool" = some (isBool d) := fun d => by cases d <;> (simp only [tyOf, isBool]; decide +kernel)
theorem kit_str : ∀ d, kitB (tyOf d) "str" = some (isStr d) := fun d => by cases d <;> (simp only [tyOf, isStr]; decide +kernel)
theorem kit_tup : ∀ d, kitB (tyOf d) "tuple" = some (isTup d) := fun d => by cases d <;> (simp only [tyOf, isTup]; decide +kernel)
theorem kit_lst : ∀ d, kitB (tyOf d) "list" = some (isLst d) := fun d => by cases d <;> (simp only [tyOf, isLst]; decide +kernel)
section
variable {X : Cx} {en : Kn} {δ τ : List Slot} {R : Type} {C : Slot → List Slot → Res R → Prop} {m : Res R} {K : PySem.W.Frag}
/-- isinstance(e, T) -/
theorem je_isi {T : String} {g : D → Bool} {e : Expr} {x : Str} {p p2 pos : Pos} (hk : ∀ d, kitB (tyOf d) T = some (g d)) (hm : X.mg "isinstance" = none) (hmT : X.mg x = none)
    (h : JE X en δ τ e (fun s1 δ1 m1 => ∃ d, s1.rd δ1 = some d ∧ C (.fr (.bl (g d))) δ1 m1) m) (hvT : bootBuiltins x = some (.type T) := by decide +kernel) (hg : Gl X "isinstance" := by rfl) (hgT : Gl X x := by rfl)
    (hn : x ≠ "__name__" := by decide) (hdb : (x == ("__debug__" : Str)) = false := by decide) (hgx : ∀ c xf, g (.exc c xf) = false := by exact fun _ _ => rfl) (hgo : ∀ c fs, g (.obj c fs) = false := by exact fun _ _ => rfl) (hT : T ∈ ["int", "bool", "str", "tuple", "list", "dict"] := by decide)
    (he : starEach [e, .Name x p2] X.env = (false, eval e X.env) :: starEach [.Name x p2] X.env := by rfl) (hpl : (backTo pos (starEach [.Name x p2] X.env)).any (·.1) = false := by rfl) :
    JE X en δ τ (.Call (.Name "isinstance" p) [e, .Name x p2] [] pos) C m := .mk fun hb hx σ ts G H T' hl hσ W k => by
  refine we_of (pe_callB (call_isi.or call_isX) hg hm (by decide +kernel) (pa_cons pe_we (pa_cons (pe_bltn (v := .ty T) hgT hmT hvT rfl hn hdb) pa_nil) he) (by decide) (by decide) he hpl) ?_
  have ht : τ.length = ts.length := W.splitLen (hl.trans hσ.symm)
  refine h.run hb hx σ ts G H _ hl hσ W fun s1 δ1 v1 G1 H1 c1 hl1 W1 => ?_
  obtain ⟨d, e1, c⟩ := c1
  obtain ⟨⟨_, _, ez, r1, _⟩, Wn⟩ := Wd.ends (sls := [s1]) (vs := [v1]) W1 (hl1.trans hσ.symm) ht (ds := [d]) (by simp only [rds, e1])
  cases ez
  have fin : T' (.bl (g d)) H1 := k _ δ1 _ G1 H1 c hl1 ((Wn (by omega)).out (Grow.refl W1.sub) (show Rep _ _ _ _ from rfl))
  cases hx : isExc d with
  | false => exact .inl ⟨v1, .ty T, _, _, g d, rfl, .ty T, r1.ty hx, kit_ty (hk d), fin⟩
  | true =>
    cases d <;> first | cases hx | skip
    · obtain ⟨a, C, rfl, F, ea⟩ := r1
      exact .inr ⟨a, C, _, .ty T, _, g (.exc _ _), rfl, .ty T, F.cl, ea.sub W1.sub (Sub.refl _), by rw [hgx]; exact F.ty T hT, fin⟩
    · obtain ⟨a, C, dx, vs, rfl, F, ea, _⟩ := r1
      exact .inl ⟨_, .ty T, _, _, g (.obj _ _), rfl, .ty T, .base (.ins ea F.cl F.ha F.hn F.htk F.hm), by rw [hgo]; exact F.ty T hT, fin⟩
/-- isinstance(e, (T1, T2)) -/
theorem je_isi2 {T1 T2 : String} {g1 g2 : D → Bool} {e : Expr} {x y : Str} {p p2 p3 p4 pos : Pos} {kk} (hk1 : ∀ d, kitB (tyOf d) T1 = some (g1 d)) (hk2 : ∀ d, kitB (tyOf d) T2 = some (g2 d)) (hm : X.mg "isinstance" = none) (hmT : X.mg x = none) (hmU : X.mg y = none)
    (h : JE X en δ τ e (fun s1 δ1 m1 => ∃ d, s1.rd δ1 = some d ∧ C (.fr (.bl (g1 d || g2 d))) δ1 m1) m) (hvT : bootBuiltins x = some (.type T1) := by decide +kernel) (hvU : bootBuiltins y = some (.type T2) := by decide +kernel) (hg : Gl X "isinstance" := by rfl) (hgT : Gl X x := by rfl) (hgU : Gl X y := by rfl)
    (hn : x ≠ "__name__" := by decide) (hdb : (x == ("__debug__" : Str)) = false := by decide) (hn2 : y ≠ "__name__" := by decide) (hdb2 : (y == ("__debug__" : Str)) = false := by decide) (hgx1 : ∀ c xf, g1 (.exc c xf) = false := by exact fun _ _ => rfl) (hgx2 : ∀ c xf, g2 (.exc c xf) = false := by exact fun _ _ => rfl) (hgo1 : ∀ c fs, g1 (.obj c fs) = false := by exact fun _ _ => rfl) (hgo2 : ∀ c fs, g2 (.obj c fs) = false := by exact fun _ _ => rfl) (hT1 : T1 ∈ ["int", "bool", "str", "tuple", "list", "dict"] := by decide) (hT2 : T2 ∈ ["int", "bool", "str", "tuple", "list", "dict"] := by decide)
    (hs1 : starEach [.Name x p2, .Name y p3] X.env = (false, eval (.Name x p2) X.env) :: starEach [.Name y p3] X.env := by rfl)
    (he : starEach [e, .Tuple [.Name x p2, .Name y p3] kk p4] X.env = (false, eval e X.env) :: starEach [.Tuple [.Name x p2, .Name y p3] kk p4] X.env := by rfl) (hpl : (backTo pos (starEach [.Tuple [.Name x p2, .Name y p3] kk p4] X.env)).any (·.1) = false := by rfl) :
    JE X en δ τ (.Call (.Name "isinstance" p) [e, .Tuple [.Name x p2, .Name y p3] kk p4] [] pos) C m := .mk fun hb hx σ ts G H T' hl hσ W k => by
  refine we_of (pe_callB (call_isiT.or call_isXT) hg hm (by decide +kernel) (pa_cons pe_we (pa_cons (pe_tup (pa_cons (pe_bltn (v := .ty T1) hgT hmT hvT rfl hn hdb) (pa_cons (pe_bltn (v := .ty T2) hgU hmU hvU rfl hn2 hdb2) pa_nil) hs1)) pa_nil) he) (by decide) (by decide) he hpl) ?_
  have ht : τ.length = ts.length := W.splitLen (hl.trans hσ.symm)
  refine h.run hb hx σ ts G H _ hl hσ W fun s1 δ1 v1 G1 H1 c1 hl1 W1 => ?_
  obtain ⟨d, e1, c⟩ := c1
  obtain ⟨⟨_, _, ez, r1, _⟩, Wn⟩ := Wd.ends (sls := [s1]) (vs := [v1]) W1 (hl1.trans hσ.symm) ht (ds := [d]) (by simp only [rds, e1])
  cases ez
  refine ⟨by show 2 ≤ sizeLine; decide, fun tp hp => ?_⟩
  have sub := Sub.upd (o := .tup [.ty T1, .ty T2]) hp
  have r2 : VRep X.K G1 (upd H1 tp (.tup [.ty T1, .ty T2])) d v1 := VRep.sub (Sub.refl _) sub r1
  have fin : T' (.bl (g1 d || g2 d)) (upd H1 tp (.tup [.ty T1, .ty T2])) := k _ δ1 _ G1 _ c hl1 ((Wn (by omega)).out (Grow.laid W1.sub hp) (show Rep _ _ _ _ from rfl))
  cases hx : isExc d with
  | true =>
    cases d <;> first | cases hx | skip
    · obtain ⟨a, C, rfl, F, ea⟩ := r2
      exact .inr ⟨a, C, _, tp, _, [.type T1, .type T2], g1 (.exc _ _) || g2 (.exc _ _), rfl, upd_same, .cons (.ty T1) (.cons (.ty T2) .nil), F.cl, ea.sub (W1.sub.trans sub) (Sub.refl _), by
        rw [hgx1, hgx2]
        exact kitAny_cons (F.ty T1 hT1) (fun _ => kitAny_cons (F.ty T2 hT2) (fun _ => kitAny_nil) (fun z => by cases z)) (fun z => by cases z), fin⟩
    · obtain ⟨a, C, dx, vs, rfl, F, ea, _⟩ := r2
      exact .inl ⟨_, tp, _, _, [.type T1, .type T2], g1 (.obj _ _) || g2 (.obj _ _), rfl, upd_same, .cons (.ty T1) (.cons (.ty T2) .nil), .base (.ins ea F.cl F.ha F.hn F.htk F.hm), by
        rw [hgo1, hgo2]
        exact kitAny_cons (F.ty T1 hT1) (fun _ => kitAny_cons (F.ty T2 hT2) (fun _ => kitAny_nil) (fun z => by cases z)) (fun z => by cases z), fin⟩
  | false =>
  refine .inl ⟨v1, tp, _, _, [.type T1, .type T2], g1 d || g2 d, rfl, upd_same, .cons (.ty T1) (.cons (.ty T2) .nil), r2.ty hx, ?_, fin⟩
  cases h1 : g1 d with
  | true => exact kitAny_cons (kit_ty ((hk1 d).trans (by rw [h1]))) (fun z => by cases z) (fun _ => rfl)
  | false =>
    cases h2 : g2 d with
    | true => exact kitAny_cons (kit_ty ((hk1 d).trans (by rw [h1]))) (fun _ => kitAny_cons (kit_ty ((hk2 d).trans (by rw [h2]))) (fun z => by cases z) (fun _ => rfl)) (fun z => by cases z)
    | false => exact kitAny_cons (kit_ty ((hk1 d).trans (by rw [h1]))) (fun _ => kitAny_cons (kit_ty ((hk2 d).trans (by rw [h2]))) (fun _ => kitAny_nil) (fun z => by cases z)) (fun z => by cases z)
end

/-! ### calls of what is built in -/
def absD : List D → Option D
  | [.int a] => some (.int (if a < 0 then -a else a))
  | _ => none
def max2D : List D → Option D
  | [.int a, .int b] => some (.int (if b > a then b else a))
  | _ => none
def min2D : List D → Option D
  | [.int a, .int b] => some (.int (if b < a then b else a))
  | _ => none
def intD : List D → Option D
  | [.int a] => some (.int a)
  | [.bl b] => some (.int (if b then 1 else 0))
  | _ => none
def lenD : List D → Option D
  | [.lst ds] => some (.int ds.length)
  | [.tup ds] => some (.int ds.length)
  | [.scr ns] => some (.int ns.length)
  | [.str x] => if x.length ≤ sizeLine then some (.int x.length) else none
  | _ => none
def bls : List D → Option (List Bool)
  | [] => some []
  | .bl b :: r => (bls r).map (b :: ·)
  | _ :: _ => none
def intsD : List D → Option (List Int)
  | [] => some []
  | .int b :: r => (intsD r).map (b :: ·)
  | _ :: _ => none
def allD : List D → Option D
  | [.lst ds] => (bls ds).map fun bs => .bl (bs.all id)
  | _ => none
def anyD : List D → Option D
  | [.lst ds] => (bls ds).map fun bs => .bl (bs.any id)
  | _ => none
def sumD : List D → Option D
  | [.lst ds] => (intsD ds).map fun ns => .int ns.sum
  | _ => none
/-- list(..), a new one -/
def listD : List D → Option D
  | [.lst ds] => some (.lst ds)
  | [.tup ds] => some (.lst ds)
  | _ => none
def tupleD : List D → Option D
  | [.lst ds] => some (.tup ds)
  | _ => none
section
variable {X : Cx}
theorem VReps.one {K : PySem.W.Frag} {G H : Hp} {d : D} {vs : List V} (h : VReps K G H [d] vs) : ∃ v, vs = [v] ∧ VRep K G H d v := by
  obtain ⟨v, r, e, q, e2⟩ := h
  exact ⟨v, by rw [e, show r = [] from e2], q⟩
theorem VReps.two {K : PySem.W.Frag} {G H : Hp} {d e : D} {vs : List V} (h : VReps K G H [d, e] vs) : ∃ v u, vs = [v, u] ∧ VRep K G H d v ∧ VRep K G H e u := by
  obtain ⟨v, r, e, q, h2⟩ := h
  obtain ⟨u, e2, q2⟩ := VReps.one h2
  exact ⟨v, u, by rw [e, e2], q, q2⟩
theorem bls_v {K : PySem.W.Frag} {G : Hp} : ∀ {ds : List D} {bs : List Bool} {vs : List V}, bls ds = some bs → Reps K G ds vs → vs = bs.map V.bl
  | [], bs, vs, h, r => by cases h; exact r
  | .bl b :: ds, bs, vs, h, r => by
    unfold bls at h
    obtain ⟨bs', h1, h2⟩ := Option.map_eq_some_iff.mp h
    subst h2
    obtain ⟨v, q, e, r1, r2⟩ := r
    have e1 : v = .bl b := r1
    subst e e1
    rw [bls_v h1 r2]; rfl
  | .non :: _, _, _, h, _ => by cases h
  | .int _ :: _, _, _, h, _ => by cases h
  | .str _ :: _, _, _, h, _ => by cases h
  | .lst _ :: _, _, _, h, _ => by cases h
  | .tup _ :: _, _, _, h, _ => by cases h
  | .dic _ :: _, _, _, h, _ => by cases h
  | .scr _ :: _, _, _, h, _ => by cases h
  | .exc _ _ :: _, _, _, h, _ => by cases h
  | .obj _ _ :: _, _, _, h, _ => by cases h
theorem intsD_v {K : PySem.W.Frag} {G : Hp} : ∀ {ds : List D} {bs : List Int} {vs : List V}, intsD ds = some bs → Reps K G ds vs → vs = bs.map V.int
  | [], bs, vs, h, r => by cases h; exact r
  | .int b :: ds, bs, vs, h, r => by
    unfold intsD at h
    obtain ⟨bs', h1, h2⟩ := Option.map_eq_some_iff.mp h
    subst h2
    obtain ⟨v, q, e, r1, r2⟩ := r
    have e1 : v = .int b := r1
    subst e e1
    rw [intsD_v h1 r2]; rfl
  | .non :: _, _, _, h, _ => by cases h
  | .bl _ :: _, _, _, h, _ => by cases h
  | .str _ :: _, _, _, h, _ => by cases h
  | .lst _ :: _, _, _, h, _ => by cases h
  | .tup _ :: _, _, _, h, _ => by cases h
  | .dic _ :: _, _, _, h, _ => by cases h
  | .scr _ :: _, _, _, h, _ => by cases h
  | .exc _ _ :: _, _, _, h, _ => by cases h
  | .obj _ _ :: _, _, _, h, _ => by cases h
theorem c_max2 (hc : X.calm = true) : CallD X (.builtin "max") max2D .fr := callD_of (call_max2 hc) fun ds d e G H vs Q sb r k => by
  match ds, e, r with
  | [.int a, .int b], e, r =>
    cases e
    obtain ⟨v, u, ev, q, q2⟩ := VReps.two r
    have q' : v = .int a := q
    have q2' : u = .int b := q2
    subst ev q' q2'
    exact ⟨a, b, rfl, sc_out (d := .int (if b > a then b else a)) sb rfl k⟩
theorem c_min2 (hc : X.calm = true) : CallD X (.builtin "min") min2D .fr := callD_of (call_min2 hc) fun ds d e G H vs Q sb r k => by
  match ds, e, r with
  | [.int a, .int b], e, r =>
    cases e
    obtain ⟨v, u, ev, q, q2⟩ := VReps.two r
    have q' : v = .int a := q
    have q2' : u = .int b := q2
    subst ev q' q2'
    exact ⟨a, b, rfl, sc_out (d := .int (if b < a then b else a)) sb rfl k⟩
theorem c_len : CallD X (.builtin "len") lenD .fr := callD_of (call_len_seq.or call_len_str) fun ds d e G H vs Q sb r k => by
  match ds, e, r with
  | [.lst ds], e, r =>
    cases e
    obtain ⟨v, ev, p, us, q, h, r2⟩ := VReps.one r
    subst ev q
    exact .inl ⟨p, us, rfl, .inl (SqL.of h), by rw [← r2.length]; exact sc_out (d := .int ds.length) sb rfl k⟩
  | [.tup ds], e, r =>
    cases e
    obtain ⟨v, ev, p, us, q, h, r2⟩ := VReps.one r
    subst ev q
    exact .inl ⟨p, us, rfl, .inr h, by rw [← r2.length]; exact sc_out (d := .int ds.length) sb rfl k⟩
  | [.scr ds], e, r =>
    cases e
    obtain ⟨v, ev, p, q, h⟩ := VReps.one r
    subst ev q
    exact .inl ⟨p, _, rfl, .inl h, by rw [List.length_map]; exact sc_out (d := .int ds.length) sb rfl k⟩
  | [.str x], e, r =>
    obtain ⟨v, ev, q⟩ := VReps.one r
    have q' : v = .str x := q
    subst ev q'
    have e' : (if x.length ≤ sizeLine then some (D.int x.length) else none) = some d := e
    by_cases hz : x.length ≤ sizeLine
    · rw [if_pos hz] at e'
      cases e'
      exact .inr ⟨x, rfl, hz, sc_out (d := .int x.length) sb rfl k⟩
    · rw [if_neg hz] at e'; cases e'
theorem c_all (hc : X.calm = true) : CallD X (.builtin "all") allD .fr := callD_of (cr_all hc) fun ds d e G H vs Q sb r k => by
  match ds, e, r with
  | [.lst ds], e, r =>
    obtain ⟨bs, h1, h2⟩ := Option.map_eq_some_iff.mp (show (bls ds).map (fun bs => D.bl (bs.all id)) = some d from e)
    subst h2
    obtain ⟨v, ev, p, us, q, h, r2⟩ := VReps.one r
    subst ev q
    exact ⟨p, bs, rfl, by rw [← bls_v h1 r2]; exact SqL.of h, sc_out (d := .bl (bs.all id)) sb rfl k⟩
end

/-! ### places -/
def ixD : D → D → Option D
  | .lst ds, .int i => atI ds i
  | .tup ds, .int i => atI ds i
  | .scr ns, .int i => (atI ns i).map D.int
  | _, _ => none
theorem Reps.at {K : PySem.W.Frag} {G : Hp} {ds : List D} {vs : List V} {i : Int} {d : D} (r : Reps K G ds vs) (h : atI ds i = some d) : ∃ v, atI vs i = some v ∧ Rep K G d v := by
  unfold atI at h ⊢
  obtain ⟨j, h1, h2⟩ := Option.bind_eq_some_iff.mp h
  obtain ⟨v, h3, h4⟩ := r.get h2
  exact ⟨v, by rw [← r.length, h1]; exact h3, h4⟩
theorem atI_map {α β : Type} (f : α → β) (xs : List α) (i : Int) : atI (xs.map f) i = (atI xs i).map f := by
  unfold atI
  rw [List.length_map]
  cases ixN xs.length i with
  | none => rfl
  | some j => show (xs.map f)[j]? = _; rw [List.getElem?_map]; rfl
section
variable {X : Cx} {en : Kn} {δ τ : List Slot} {R : Type} {C : Slot → List Slot → Res R → Prop} {m : Res R} {K : PySem.W.Frag}
theorem ix_D : IxD X ixD .fr := ixD_of (ix_list.or ix_tup) fun d1 d2 d e G H v1 v2 Q sb r1 r2 k => by
  match d1, d2, e, r1, r2 with
  | .lst ds, .int i, e, r1, r2 =>
    obtain ⟨p, vs, e1, q1, s1⟩ := r1
    obtain ⟨v, h1, h2⟩ := s1.at e
    exact .inl ⟨p, vs, i, v, e1, r2, SqL.of q1, h1, k v G H (Grow.refl sb) h2⟩
  | .tup ds, .int i, e, r1, r2 =>
    obtain ⟨p, vs, e1, q1, s1⟩ := r1
    obtain ⟨v, h1, h2⟩ := s1.at e
    exact .inr ⟨p, vs, i, v, e1, r2, q1, h1, k v G H (Grow.refl sb) h2⟩
  | .scr ns, .int i, e, r1, r2 =>
    obtain ⟨p, e1, q1⟩ := r1
    obtain ⟨n, h1, h2⟩ := Option.map_eq_some_iff.mp (show (atI ns i).map D.int = some d from e)
    subst h2
    exact .inl ⟨p, _, i, .int n, e1, r2, q1, by rw [atI_map, h1]; rfl, sc_out (d := .int n) sb rfl k⟩

/-! ### cuts of lists -/
def cutD (xs : List D) (lo hi : Option Int) : List D := (xs.drop (HT.sIx xs.length 0 lo)).take (HT.sIx xs.length xs.length hi - HT.sIx xs.length 0 lo)
/-- an optional part of a cut -/
abbrev WO (X : Cx) (e : Option Expr) : TO := fun σ H Q => ∀ (pins : List (Addr × Obj)) (s : Shared), Inv X pins σ H s → wpAny (model X.prog X.w) X.A (evalPart e X.env) (fun u s' => ∃ o H', Inv X pins σ H' s' ∧ IsPart u o ∧ Q o H') X.xe s
theorem po_wo {e : Option Expr} : PO X e (WO X e) := ⟨fun pins s _ _ _ I h => h pins s I⟩
theorem wo_of {e : Option Expr} {t : TO} (h : PO X e t) {σ : L2.St} {H : Hp} {Q : Option Int → Hp → Prop} (q : t σ H Q) : WO X e σ H Q := fun pins s I => h.run pins s σ H Q I q
structure JO (X : Cx) (en : Kn) (δ τ : List Slot) (e : Option Expr) {R : Type} (C : Option Int → List Slot → Res R → Prop) (m : Res R) : Prop where
  run : m ≠ .bad → en.HX m.exc → ∀ (σ ts : L2.St) (G H : Hp) (T : Option Int → Hp → Prop), δ.length = en.n → σ.length = en.n → Wd X.K en (δ ++ τ) (σ ++ ts) G H →
    (∀ o δ' G' H', C o δ' m → δ'.length = en.n → Wd X.K en (δ' ++ τ) (σ ++ ts) G' H' → T o H') → WO X e σ H T
def asI : D → Option Int
  | .int i => some i
  | _ => none
theorem jo_none {C : Option Int → List Slot → Res R → Prop} (h : C none δ m) : JO X en δ τ none C m := .mk fun hb hx σ ts G H T hl hσ W k => wo_of po_none (k none δ G H h hl W)
/-- a constant part -/
theorem jo_int {i : Int} {j pos} {C : Option Int → List Slot → Res R → Prop} (h : C (some i) δ m) : JO X en δ τ (some (.Constant (.int i) j pos)) C m := .mk fun hb hx σ ts G H T hl hσ W k => wo_of (po_some pe_int) ⟨i, rfl, k _ δ G H h hl W⟩
theorem cutV_reps {G : Hp} {ds : List D} {vs : List V} (r : Reps K G ds vs) (lo hi : Option Int) : Reps K G (cutD ds lo hi) (cutV vs lo hi) := by
  unfold cutD cutV
  rw [← r.length]
  exact Reps.take _ (Reps.drop _ r)
def asLst : D → Option (List D)
  | .lst ds => some ds
  | _ => none
end

/-! ### lists changed -/
/-- a method that changes its list: the data of the list, the arguments; what is told and the list behind it -/
def MutD (X : Cx) (id : String) (g : D → List D → Option (D × D)) : Prop :=
  ∀ dl args ret dl', g dl args = some (ret, dl') → ∀ (pins : List (Addr × Obj)) (s : Shared) (σ : L2.St) (G H : Hp) (p : Addr) (vs : List V) (us : List Value) (Q : VK), Inv X pins σ H s → Sub G H → G p = none → MRep X.K G H dl p → Reps X.K G args vs → Vals vs us →
    (∀ v o', Rep X.K G ret v → MRep X.K G (upd H p o') dl' p → Q v (upd H p o')) → wpAny (model X.prog X.w) X.A (call (.builtin id) (.ref p :: us)) (EP X pins σ Q) X.xe s
theorem mutD_of {X : Cx} {id : String} {r : V → List V → Hp → VK → Prop} {g : D → List D → Option (D × D)} (h : MtM X id r)
    (k : ∀ dl args ret dl', g dl args = some (ret, dl') → ∀ (G H : Hp) (p : Addr) (vs : List V) (Q : VK), Sub G H → MRep X.K G H dl p → Reps X.K G args vs → (∀ v o', Rep X.K G ret v → MRep X.K G (upd H p o') dl' p → Q v (upd H p o')) → r (.ref p) vs H Q) : MutD X id g :=
  fun dl args ret dl' e pins s σ G H p vs us Q I sb _ r1 r2 q hq => h pins s σ H (.ref p) vs (.ref p) us Q I rfl q (k dl args ret dl' e G H p vs Q sb r1 r2 hq)
def appendD : D → List D → Option (D × D)
  | .lst ds, [d] => if ds.length < sizeLine then some (.non, .lst (ds ++ [d])) else none
  | _, _ => none
def popD : D → List D → Option (D × D)
  | .lst ds, [] => (ds[ds.length - 1]?).map fun d => (d, .lst ds.dropLast)
  | _, _ => none
def clearD : D → List D → Option (D × D)
  | .lst _, [] => some (.non, .lst [])
  | _, _ => none
def reverseD : D → List D → Option (D × D)
  | .lst ds, [] => some (.non, .lst ds.reverse)
  | _, _ => none
def extendD : D → List D → Option (D × D)
  | .lst ds, [.lst es] => if ds.length + es.length ≤ sizeLine then some (.non, .lst (ds ++ es)) else none
  | _, _ => none
section
variable {X : Cx} {en : Kn} {δ τ : List Slot} {R : Type} {C : Slot → List Slot → Res R → Prop} {m : Res R} {K : PySem.W.Frag}
theorem m_append : MutD X "list.append" appendD := mutD_of mt_append fun dl args ret dl' e G H p vs Q sb r1 r2 k => by
  match dl, args, e, r1, r2 with
  | .lst ds, [d], e, r1, r2 =>
    have e' : (if ds.length < sizeLine then some (D.non, D.lst (ds ++ [d])) else none) = some (ret, dl') := e
    by_cases hz : ds.length < sizeLine
    · rw [if_pos hz] at e'
      cases e'
      obtain ⟨us, h1, h2⟩ := r1
      obtain ⟨v, r, ev, q, e2⟩ := r2
      have e2' : r = [] := e2
      subst ev e2'
      exact ⟨p, us, v, rfl, rfl, h1, by rw [← h2.length]; exact hz, k .non _ rfl ⟨_, upd_same, h2.append (Reps.one q)⟩⟩
    · rw [if_neg hz] at e'; cases e'
theorem m_pop : MutD X "list.pop" popD := mutD_of mt_pop fun dl args ret dl' e G H p vs Q sb r1 r2 k => by
  match dl, args, e, r1, r2 with
  | .lst ds, [], e, r1, r2 =>
    obtain ⟨d, h1, h2⟩ := Option.map_eq_some_iff.mp (show (ds[ds.length - 1]?).map (fun d => (d, D.lst ds.dropLast)) = some (ret, dl') from e)
    cases h2
    obtain ⟨us, h3, h4⟩ := r1
    have e2' : vs = [] := r2
    subst e2'
    obtain ⟨v, h5, h6⟩ := h4.get h1
    exact ⟨p, us, v, rfl, rfl, h3, by rw [← h4.length]; exact h5, k v _ h6 ⟨_, upd_same, h4.dropLast⟩⟩
/-- the list of a name -/
theorem own_of {δ : List Slot} {i : Nat} {sl : Slot} {σ ts : L2.St} {G H : Hp} (W : Wd K en (δ ++ τ) (σ ++ ts) G H) (hl : δ.length = en.n) (hσ : σ.length = en.n) {d : D} (h : δ[i]? = some sl) (ho : sl.own = true) (hd : sl.rd δ = some d) :
    ∃ p, σ[i]? = some (some (.ref p)) ∧ Own (δ ++ τ) (σ ++ ts) i p ∧ G p = none ∧ MRep K G H d p := by
  obtain ⟨o, h1, q⟩ := W.name (hl.trans hσ.symm) h
  have hi := (List.getElem?_eq_some_iff.mp h).1
  have up : ∀ p, o = some (V.ref p) → Own (δ ++ τ) (σ ++ ts) i p := fun p e => ⟨sl, by rw [List.getElem?_append_left hi]; exact h, ho, by rw [List.getElem?_append_left (by omega), h1, e]⟩
  cases sl with
  | mu d' => cases hd; obtain ⟨p, e, n, _, _, r⟩ := q; exact ⟨p, by rw [h1, e], up p e, n, r⟩
  | mp j d' => cases hd; obtain ⟨p, e, _, n, _, r⟩ := q; exact ⟨p, by rw [h1, e], up p e, n, r⟩
  | un => cases ho
  | fr _ => cases ho
  | bw _ => cases ho
  | bo _ => cases ho
/-- name.method(args), the name's own list changed -/
theorem mut_core {id : String} {g : D → List D → Option (D × D)} {x : Str} {p : Pos} {es : List Expr} {whole : Expr} (i : Nat) {sl0 : Slot} {ds0 : List D} (hm : MutD X id g)
    (rule : ∀ {r : V → List V → Hp → VK → Prop} {to : TE} {t : TA}, MtR X id r → PE X (.Name x p) to → PA X es t → PE X whole (tBM X.K "list" r to t))
    (hs : δ[i]? = some sl0) (ho : sl0.own = true) (hd : sl0.rd δ = some (.lst ds0))
    (h : JA X en δ τ es (fun sls δ1 m1 => ∃ ds sl dl k, ∃ pe : D × D → List Slot, frs sls = some ds ∧ δ1[i]? = some sl ∧ sl.own = true ∧ sl.rd δ1 = some dl ∧ m1 = op (g dl ds) k ∧ (∀ r, δ1.set i (sl.put r.2) = pe r) ∧ ∀ r, g dl ds = some r → C (.fr r.1) (pe r) (k r)) m)
    (hN : X.N[i]? = some x) (hv : Vis X.env.scope x) (hdd : (x == ("__debug__" : Str)) = false) (hcd : (x == ("__classdict__" : Str)) = false) : JE X en δ τ whole C m := .mk fun hb hx σ ts G H T hl hσ W k => by
  refine we_of (rule (r := fun x vs H Q => ∃ p, x = .ref p ∧ ∀ (pins : List (Addr × Obj)) (s : Shared) (σ : L2.St) (us : List Value), Inv X pins σ H s → Vals vs us → wpAny (model X.prog X.w) X.A (call (.builtin id) (.ref p :: us)) (EP X pins σ Q) X.xe s)
    (fun pins s σ H x xs v us Q I r1 r2 h => by
      obtain ⟨p, e, h⟩ := h
      subst e
      cases r1
      exact h pins s σ us I r2) (pe_var hN hv hdd hcd) pa_wa) ?_
  have ht : τ.length = ts.length := W.splitLen (hl.trans hσ.symm)
  obtain ⟨p0, h1, _, _, us0, h2, h3⟩ := own_of W hl hσ hs ho hd
  refine ⟨.ref p0, h1, .inl ⟨rfl, us0, SqL.of h2⟩, ?_⟩
  refine h.run hb hx σ ts G H _ hl hσ W fun sls δ1 vs G1 H1 c1 hl1 W1 => ?_
  obtain ⟨ds, sl, dl, k', pe, e1, e2, e3, e4, em, hpe, hk⟩ := c1
  have hb' := hb
  rw [em] at hb'
  obtain ⟨r, er⟩ := op_some hb'
  have em' : m = k' r := by rw [em, er]; rfl
  have hk2 := hk r er
  rw [← em'] at hk2
  obtain ⟨hn, hq⟩ := W1.endSlots (hl1.trans hσ.symm) ht
  have hr : Reps X.K G1 ds vs := Wd.frs (Δ := δ) (H := H1) hq hn e1
  have W2 := W1.cut (Δ := δ1 ++ τ) (S := σ ++ ts) (by rw [List.length_append, List.length_append]; omega) (by rw [List.length_append]; omega)
  obtain ⟨p1, h5, ow, n1, r1⟩ := own_of W2 hl1 hσ e2 e3 e4
  rw [h1] at h5
  cases h5
  have hi := (List.getElem?_eq_some_iff.mp e2).1
  refine ⟨p0, rfl, fun pins s σ' us I rv => hm dl ds r.1 r.2 er pins s σ' G1 H1 p0 vs us T I W2.sub n1 r1 hr rv fun v o' rr rm => ?_⟩
  have W3 := W2.mut ow rm
  rw [List.getD_eq_getElem?_getD, List.getElem?_append_left hi, e2, List.set_append_left _ _ hi] at W3
  have W4 : Wd X.K en (pe r ++ τ) (σ ++ ts) G1 (upd H1 p0 o') := by rw [← hpe r]; exact W3
  refine k _ (pe r) v G1 _ hk2 (by rw [← hpe r, List.length_set]; exact hl1) (W4.out (Grow.refl W4.sub) rr)
theorem je_mut {id : String} {g : D → List D → Option (D × D)} {name : Str} {x : Str} {p apos cpos : Pos} {e : Expr} {es : List Expr} (i : Nat) {sl0 : Slot} {ds0 : List D} (slot : PySem.Slot "list" name id) (hty : typeOf (.builtin id) = pure (.type "method_descriptor")) (hm : MutD X id g)
    (hs : δ[i]? = some sl0) (ho : sl0.own = true) (hd : sl0.rd δ = some (.lst ds0))
    (h : JA X en δ τ (e :: es) (fun sls δ1 m1 => ∃ ds sl dl k, ∃ pe : D × D → List Slot, frs sls = some ds ∧ δ1[i]? = some sl ∧ sl.own = true ∧ sl.rd δ1 = some dl ∧ m1 = op (g dl ds) k ∧ (∀ r, δ1.set i (sl.put r.2) = pe r) ∧ ∀ r, g dl ds = some r → C (.fr r.1) (pe r) (k r)) m)
    (hN : X.N[i]? = some x := by rfl) (hv : Vis X.env.scope x := by first | exact Or.inl rfl | exact Or.inr (Or.inl rfl) | exact Or.inr (Or.inr rfl)) (hdd : (x == ("__debug__" : Str)) = false := by decide) (hcd : (x == ("__classdict__" : Str)) = false := by decide)
    (hfew : ((backTo cpos (starEach (e :: es) X.env)).all (fun x => !x.1) && (backToKw cpos (keywordEach [] X.env)).all (fun x => x.1.isSome)
      && decide ((e :: es).length + ([] : List Keyword).length + (if ([] : List Keyword).isEmpty then 0 else 1) < 30)) = true := by rfl)
    (hline : (apos.endLine == cpos.line) = true := by rfl) (hst : starEach (e :: es) X.env = (false, eval e X.env) :: starEach es X.env := by exact star_plain rfl) (hplain : (backTo cpos (starEach es X.env)).any (·.1) = false := by rfl) :
    JE X en δ τ (.Call (.Attribute (.Name x p) name apos) (e :: es) [] cpos) C m :=
  mut_core i hm (fun h1 h2 h3 => pe_bm PySem.F.plainAttrs_list slot hty h1 h2 h3 rfl hfew hline hst hplain) hs ho hd h hN hv hdd hcd
end
end BR

/-! K12: more of lists changed, x op= e, repr -/
namespace BR
open PySem PySem.Spec PyProof.Rows L2
section
variable {X : Cx} {en : Kn} {δ τ : List Slot} {R : Type} {C : Slot → List Slot → Res R → Prop} {m : Res R} {K : PySem.W.Frag}
variable {N : List Slot → Res R → Prop} {RT : Slot → List Slot → Res R → Prop} {BK CT : List Slot → Res R → Prop}
theorem je_mut0 {id : String} {g : D → List D → Option (D × D)} {name : Str} {x : Str} {p apos cpos : Pos} (i : Nat) {sl0 : Slot} {ds0 : List D} (slot : PySem.Slot "list" name id) (hty : typeOf (.builtin id) = pure (.type "method_descriptor")) (hm : MutD X id g)
    (hs : δ[i]? = some sl0) (ho : sl0.own = true) (hd : sl0.rd δ = some (.lst ds0))
    (h : ∃ k, ∃ pe : D × D → List Slot, m = op (g (.lst ds0) []) k ∧ (∀ r, δ.set i (sl0.put r.2) = pe r) ∧ ∀ r, g (.lst ds0) [] = some r → C (.fr r.1) (pe r) (k r))
    (hN : X.N[i]? = some x := by rfl) (hv : Vis X.env.scope x := by first | exact Or.inl rfl | exact Or.inr (Or.inl rfl) | exact Or.inr (Or.inr rfl)) (hdd : (x == ("__debug__" : Str)) = false := by decide) (hcd : (x == ("__classdict__" : Str)) = false := by decide)
    (hline : (apos.endLine == cpos.line) = true := by rfl) :
    JE X en δ τ (.Call (.Attribute (.Name x p) name apos) [] [] cpos) C m := .mk fun hb hx σ ts G H T hl hσ W k => by
  refine we_of (pe_bm0 (T := "list") (r := fun x vs H Q => ∃ p, x = .ref p ∧ ∀ (pins : List (Addr × Obj)) (s : Shared) (σ : L2.St) (us : List Value), Inv X pins σ H s → Vals vs us → wpAny (model X.prog X.w) X.A (call (.builtin id) (.ref p :: us)) (EP X pins σ Q) X.xe s)
    PySem.F.plainAttrs_list slot hty (fun pins s σ H x xs v us Q I r1 r2 h => by
      obtain ⟨p, e, h⟩ := h
      subst e
      cases r1
      exact h pins s σ us I r2) (pe_var hN hv hdd hcd) rfl hline) ?_
  obtain ⟨p0, h1, ow, n1, us0, h2, h3⟩ := own_of W hl hσ hs ho hd
  refine ⟨.ref p0, h1, .inl ⟨rfl, us0, SqL.of h2⟩, ?_⟩
  obtain ⟨k', pe, em, hpe, hk⟩ := h
  have hb' := hb
  rw [em] at hb'
  obtain ⟨r, er⟩ := op_some hb'
  have em' : m = k' r := by rw [em, er]; rfl
  have hk2 := hk r er
  rw [← em'] at hk2
  have hi := (List.getElem?_eq_some_iff.mp hs).1
  refine ⟨p0, rfl, fun pins s σ' us I rv => hm (.lst ds0) [] r.1 r.2 er pins s σ' G H p0 [] us T I W.sub n1 ⟨us0, h2, h3⟩ rfl rv fun v o' rr rm => ?_⟩
  have W3 := W.mut ow rm
  rw [List.getD_eq_getElem?_getD, List.getElem?_append_left hi, hs, List.set_append_left _ _ hi] at W3
  have W4 : Wd X.K en (pe r ++ τ) (σ ++ ts) G (upd H p0 o') := by rw [← hpe r]; exact W3
  exact k _ (pe r) v G _ hk2 (by rw [← hpe r, List.length_set]; exact hl) (W4.out (Grow.refl W4.sub) rr)

/-! ### name[i] = e -/
def setD : D → D → D → Option D
  | .lst ds, .int i, d => (ixN ds.length i).map fun j => .lst (ds.set j d)
  | _, _, _ => none
theorem js_setIx {x : Str} {p p2 pos : Pos} {idx e : Expr} (i : Nat)
    (h : JE X en δ [] e (fun s1 δ1 m1 => ∃ d sl0, s1 = .fr d ∧ δ1[i]? = some sl0 ∧ sl0.own = true ∧ JE X en δ1 [s1] idx (fun s2 δ2 m2 => ∃ di sl dl k, ∃ pe : D → List Slot, s2.rd δ2 = some di ∧ δ2[i]? = some sl ∧ sl.own = true ∧ sl.rd δ2 = some dl ∧ m2 = op (setD dl di d) k ∧ (∀ r, δ2.set i (sl.put r) = pe r) ∧ ∀ r, setD dl di d = some r → N (pe r) (k r)) m1) m)
    (hN : X.N[i]? = some x := by rfl) (hv : Vis X.env.scope x := by first | exact Or.inl rfl | exact Or.inr (Or.inl rfl) | exact Or.inr (Or.inr rfl)) (hdd : (x == ("__debug__" : Str)) = false := by decide) (hcd : (x == ("__classdict__" : Str)) = false := by decide)
    (hs : swapsWithSole [.Subscript (.Name x p) idx p2] e pos.line X.env = pure false := by rfl) (hw : swappedStores [.Subscript (.Name x p) idx p2] e X.env = pure none := by rfl)
    (h1 : (assignEach [.Subscript (.Name x p) idx p2] X.env).map (·.2) = [assign (.Subscript (.Name x p) idx p2) X.env] := by rfl)
    (ha : ∀ v, assign (.Subscript (.Name x p) idx p2) X.env v = (do
      let ov ← holding [v] (eval (.Name x p) X.env)
      let iv ← holding [v, ov] (eval idx X.env)
      standAt p2
      holding [v, ov, iv] (setItem ov iv v)
      release [v, ov, iv] []) := by intro _; rfl) :
    JS X en δ (.Assign [.Subscript (.Name x p) idx p2] e pos) N RT BK CT m := .mk fun hb hx σ G H E hl W k1 k2 k3 k4 => by
  refine ws_of (ps_asg pe_we (pg_sub (pe_var hN hv hdd hcd) pe_we set_list ha) hs hw h1) ?_
  have hσ := W.sl hl
  refine h.at hb hx hl W fun s1 δ1 v1 G1 H1 ⟨d, sl0, es, f1, f2, c1⟩ hl1 W1 => ?_
  subst es
  have own1 : ∃ p0, σ[i]? = some (some (V.ref p0)) := by
    obtain ⟨o, g1, g2⟩ := W1.name (τ := [.fr d]) (hl1.trans hσ.symm) f1
    cases sl0 with
    | mu _ => obtain ⟨p, e, _⟩ := g2; exact ⟨p, by rw [g1, e]⟩
    | mp _ _ => obtain ⟨p, e, _⟩ := g2; exact ⟨p, by rw [g1, e]⟩
    | un => cases f2
    | fr _ => cases f2
    | bw _ => cases f2
    | bo _ => cases f2
  obtain ⟨p0, h0⟩ := own1
  refine ⟨.ref p0, h0, ?_⟩
  refine c1.run hb hx σ [some v1] G1 H1 _ hl1 hσ W1 fun s2 δ2 v2 G2 H2 c2 hl2 W2 => ?_
  obtain ⟨di, sl, dl, k', pe, e1, e2, e3, e4, em, hpe, hk⟩ := c2
  have hb' := hb
  rw [em] at hb'
  obtain ⟨r, er⟩ := op_some hb'
  have em' : m = k' r := by rw [em, er]; rfl
  have hk2 := hk r er
  rw [← em'] at hk2
  have W3 : Wd X.K en (δ2 ++ [] ++ [.fr d, s2]) (σ ++ [] ++ [v1, v2].map some) G2 H2 := by
    have := W2
    simp only [List.append_assoc, List.map_cons, List.map_nil, List.cons_append, List.nil_append] at this ⊢
    exact this
  obtain ⟨⟨_, _, ez, _, _, _, ez2, r2, ez3⟩, Wn⟩ := W3.ends (τ := []) (ts := []) (hl2.trans hσ.symm) rfl (ds := [d, di]) (by simp only [rds, e1]; rfl)
  cases ez
  cases ez2
  obtain ⟨v', ev', rd⟩ := (W2.cut (Δ := δ2 ++ [.fr d]) (S := σ ++ [some v1]) (by rw [List.length_append, List.length_append]; simp; omega) (by rw [List.length_append]; omega)).last
  cases ev'
  have W4 := Wn (by omega)
  obtain ⟨p1, h5, ow, n1, r1⟩ := own_of W4 hl2 hσ e2 e3 e4
  rw [h0] at h5
  cases h5
  have hi := (List.getElem?_eq_some_iff.mp e2).1
  match dl, di, er, r1, r2 with
  | .lst ds, .int j, er, r1, r2 =>
    obtain ⟨l, h6, h7⟩ := Option.map_eq_some_iff.mp (show (ixN ds.length j).map (fun l => D.lst (ds.set l d)) = some r from er)
    subst h7
    obtain ⟨us, h8, h9⟩ := r1
    have r2' : v2 = .int j := r2
    subst r2'
    refine ⟨p0, us, j, l, rfl, rfl, h8, by rw [← h9.length]; exact h6, ?_⟩
    have W5 := W4.mut (o' := .lst (us.set l v1)) (d' := .lst (ds.set l d)) ow ⟨_, upd_same, Reps.set rd l h9⟩
    rw [List.getD_eq_getElem?_getD, List.getElem?_append_left hi, e2, List.set_append_left _ _ hi, List.append_nil, List.append_nil] at W5
    have W6 : Wd X.K en (pe (.lst (ds.set l d))) σ G2 (upd H2 p0 (.lst (us.set l v1))) := by rw [← hpe]; exact W5
    exact k1 _ σ G2 _ hk2 (by rw [← hpe, List.length_set]; exact hl2) W6

/-! ### name op= e -/
def iaddD : D → D → Option D
  | .int a, .int b => some (.int (a + b))
  | .str a, .str b => if a.length + b.length ≤ sizeLine then some (.str (a ++ b)) else none
  | _, _ => none
theorem ip_addD : OpD X (inplaceOp .Add) iaddD .fr := opD_of (iop_add.or iop_add_str) fun d1 d2 d e G H v1 v2 Q sb r1 r2 k => by
  match d1, d2, e, r1, r2 with
  | .int a, .int b, e, r1, r2 =>
    cases e
    exact .inl ⟨a, b, r1, r2, sc_out (d := .int (a + b)) sb rfl k⟩
  | .str a, .str b, e, r1, r2 =>
    have e' : (if a.length + b.length ≤ sizeLine then some (D.str (a ++ b)) else none) = some d := e
    by_cases hz : a.length + b.length ≤ sizeLine
    · rw [if_pos hz] at e'
      cases e'
      exact .inr ⟨a, b, r1, r2, hz, sc_out (d := .str (a ++ b)) sb rfl k⟩
    · rw [if_neg hz] at e'; cases e'
theorem js_aug {op' : Operator} {g : D → D → Option D} {x : Str} {p pos : Pos} {e : Expr} {d : D} (i : Nat) (hN : X.N.Nodup) (ho : OpD X (inplaceOp op') g .fr) (hs : δ[i]? = some (.fr d))
    (h : JE X en δ [.fr d] e (fun s2 δ2 m2 => ∃ d2 k, ∃ pe : D → List Slot, s2.rd δ2 = some d2 ∧ noBo δ2 = true ∧ m2 = op (g d d2) k ∧ (∀ r, δ2.set i (.fr r) = pe r) ∧ ∀ r, g d d2 = some r → N (pe r) (k r)) m)
    (hi : X.N[i]? = some x := by rfl) (hx : Loc X.env.scope x := by first | exact Or.inl rfl | exact Or.inr rfl) (hf : X.fn x = true ∨ X.env.scope.names.lookup x = some .local := by first | exact .inl rfl | exact .inr rfl) :
    JS X en δ (.AugAssign (.Name x p) op' e pos) N RT BK CT m := .mk fun hb hx' σ G H E hl W k1 k2 k3 k4 => by
  refine ws_of (ps_aug hN hi hx pe_we (ti := fun x y H Q => ∀ (pins : List (Addr × Obj)) (s : Shared) (σ : L2.St) (u1 u2 : Value), Inv X pins σ H s → RelV x u1 → RelV y u2 → wpAny (model X.prog X.w) X.A (inplaceOp op' u1 u2) (EP X pins σ Q) X.xe s)
    (fun pins s σ H x y v u Q I r1 r2 h => h pins s σ v u I r1 r2) hf) ?_
  have hσ := W.sl hl
  obtain ⟨o, h1, h2⟩ := W.at hs
  obtain ⟨v, ev, rv⟩ := h2
  subst ev
  refine ⟨v, h1, ?_⟩
  have W1 : Wd X.K en (δ ++ [.fr d]) (σ ++ [some v]) G H := W.out (sl := .fr d) (Grow.refl W.sub) rv
  refine h.run hb hx' σ [some v] G H _ hl hσ W1 fun s2 δ2 v2 G2 H2 c2 hl2 W2 => ?_
  obtain ⟨d2, k', pe, e2, nb, em, hpe, hk⟩ := c2
  have hb' := hb
  rw [em] at hb'
  obtain ⟨r, er⟩ := op_some hb'
  have em' : m = k' r := by rw [em, er]; rfl
  have hk2 := hk r er
  rw [← em'] at hk2
  have W3 : Wd X.K en (δ2 ++ [] ++ [.fr d, s2]) (σ ++ [] ++ [v, v2].map some) G2 H2 := by
    have := W2
    simp only [List.append_assoc, List.map_cons, List.map_nil, List.cons_append, List.nil_append] at this ⊢
    exact this
  obtain ⟨⟨_, _, ez, r1, _, _, ez2, r2, ez3⟩, Wn⟩ := W3.ends (τ := []) (ts := []) (hl2.trans hσ.symm) rfl (ds := [d, d2]) (by simp only [rds, e2]; rfl)
  cases ez
  cases ez2
  have W4 := Wn (by omega)
  rw [List.append_nil, List.append_nil] at W4
  intro pins s σ' u1 u2 I q1 q2
  refine ho d d2 r er pins s σ' G2 H2 v v2 u1 u2 _ I W2.sub r1 r2 q1 q2 fun z G' H' gr out => ?_
  have W5 := (W4.out gr out).give (hl2.trans hσ.symm) nb rfl i
  rw [hpe] at W5
  exact k1 _ _ G' H' hk2 (by rw [← hpe, List.length_set]; exact hl2) W5

/-! ### repr -/
/-- what repr tells: of what holds no dict -/
def reprD : List D → Option D
  | [d] => if (toP d).canLay0 = true ∧ (toP d).showable = true ∧ (toP d).depth ≤ 60 ∧ (toP d).shown.length ≤ sizeLine then some (.str (toP d).shown) else none
  | _ => none
end
end BR

/-! K13: pairs as targets, cuts of lists and tuples, dicts written, small words for printed proofs -/
namespace BR
open PySem PySem.Spec PyProof.Rows L2

theorem len1 {α : Type} : ∀ {l : List α}, l.length = 1 → ∃ a, l = [a]
  | [a], _ => ⟨a, rfl⟩
theorem len2 {α : Type} : ∀ {l : List α}, l.length = 2 → ∃ a b, l = [a, b]
  | [a, b], _ => ⟨a, b, rfl⟩
theorem len3 {α : Type} : ∀ {l : List α}, l.length = 3 → ∃ a b c, l = [a, b, c]
  | [a, b, c], _ => ⟨a, b, c, rfl⟩
theorem unp_ne {n : Nat} {ds : List D} (h : ds.length ≠ n) : unp n (.tup ds) = none := by
  unfold unp
  exact if_neg h
def un2 : D → Option (D × D)
  | .tup [a, b] => some (a, b)
  | _ => none
def un3 : D → Option (D × D × D)
  | .tup [a, b, c] => some (a, b, c)
  | _ => none
def k2 {R : Type} (k : D × D → Res R) : List D → Res R
  | [a, b] => k (a, b)
  | _ => .bad
def k3 {R : Type} (k : D × D × D → Res R) : List D → Res R
  | [a, b, c] => k (a, b, c)
  | _ => .bad
theorem un2_unp {R : Type} {d : D} {k : D × D → Res R} : op (un2 d) k = op (unp 2 d) (k2 k) := by
  cases d with
  | tup ds =>
    match ds with
    | [] => rfl
    | [_] => rfl
    | [_, _] => rfl
    | a :: b :: c :: r =>
      have e : unp 2 (.tup (a :: b :: c :: r)) = none := by
        exact unp_ne (by simp)
      rw [e]; rfl
  | _ => rfl
section
variable {X : Cx} {en : Kn} {δ τ : List Slot} {R : Type} {m : Res R} {K : PySem.W.Frag} {N : List Slot → Res R → Prop}
theorem jg_tup2 {e1 e2 : Expr} {k : Nat} {pos : Pos} {d : D} {is : List Nat} (hc : X.calm = true) (h : ∃ k', m = op (un2 d) k' ∧ ∀ p : D × D, JGs X en δ τ [e1, e2] [p.1, p.2] is N (k' p))
    (hn : (assignEach [e1, e2] X.env).length = 2 := by rfl) (hst : (assignEach [e1, e2] X.env).findIdx? (·.1) = none := by rfl) : JG X en δ τ (.Tuple [e1, e2] k pos) d is N m := by
  obtain ⟨k', em, hk⟩ := h
  refine jg_tup hc ⟨_, em.trans un2_unp, fun ds hl => ?_⟩ hn hst
  obtain ⟨a, b, rfl⟩ := len2 hl
  exact hk (a, b)
/-! ### cuts -/
end
end BR

/-! K14: what printed proofs use: rules over lists of data, steps of Le -/
namespace BR
open PySem PySem.Spec PyProof.Rows L2

theorem le_n : Le [] [] := trivial
theorem le_s {a : Slot} {r q : List Slot} (h : Le r q) : Le (a :: r) (a :: q) := ⟨.inr rfl, h⟩
theorem le_u {a : Slot} {r q : List Slot} (h : Le r q) : Le (a :: r) (.un :: q) := ⟨.inl rfl, h⟩
theorem oa_n {δ : List Slot} {j : Nat} : OutsAt δ j [] := trivial
theorem oa_c {δ : List Slot} {j : Nat} {d : D} {ds : List D} (i : Nat) (h : δ[i]? = some (.mp j d)) (r : OutsAt δ (j + 1) ds) : OutsAt δ j (d :: ds) := ⟨⟨i, h⟩, r⟩

section
variable {X : Cx} {en : Kn} {δ τ : List Slot} {R : Type} {C : Slot → List Slot → Res R → Prop} {m : Res R} {K : PySem.W.Frag}
theorem JE.conv {C' : Slot → List Slot → Res R → Prop} {e : Expr} (h : JE X en δ τ e C m) (k : ∀ s δ', C s δ' m → C' s δ' m) : JE X en δ τ e C' m := .mk fun hb hx σ ts G H T hl hσ W q =>
  h.run hb hx σ ts G H T hl hσ W fun sl δ' v G' H' c hl' W' => q sl δ' v G' H' (k _ _ c) hl' W'
theorem JA.conv {C C' : List Slot → List Slot → Res R → Prop} {es : List Expr} (h : JA X en δ τ es C m) (k : ∀ s δ', C s δ' m → C' s δ' m) : JA X en δ τ es C' m := .mk fun hb hx σ ts G H T hl hσ W q =>
  h.run hb hx σ ts G H T hl hσ W fun sl δ' v G' H' c hl' W' => q sl δ' v G' H' (k _ _ c) hl' W'
def kL {R : Type} (k : List D → Res R) : D → Res R
  | .lst ds => k ds
  | _ => .bad
theorem op_kL {o : Option (List D)} {k : List D → Res R} : op o k = op (o.map D.lst) (kL k) := by cases o <;> rfl
def kP {R : Type} (k : D × List D → Res R) : D × D → Res R
  | (d, .lst ds) => k (d, ds)
  | _ => .bad
theorem op_kP {o : Option (D × List D)} {k : D × List D → Res R} : op o k = op (o.map fun r => (r.1, D.lst r.2)) (kP k) := by cases o <;> rfl

/-! ### items of a list set -/
def setL (ds : List D) (di d : D) : Option (List D) := match di with
  | .int i => (ixN ds.length i).map fun j => ds.set j d
  | _ => none
theorem setD_L {ds : List D} {di d : D} : setD (.lst ds) di d = (setL ds di d).map D.lst := by
  cases di <;> first | rfl | skip
  show ((ixN _ _).map _) = ((ixN _ _).map _).map _
  rw [Option.map_map]; rfl
section
variable {N : List Slot → Res R → Prop} {RT : Slot → List Slot → Res R → Prop} {BK CT : List Slot → Res R → Prop}
theorem js_setL {x : Str} {p p2 pos : Pos} {idx e : Expr} (i : Nat)
    (h : JE X en δ [] e (fun s1 δ1 m1 => ∃ d sl0, s1 = .fr d ∧ δ1[i]? = some sl0 ∧ sl0.own = true ∧ JE X en δ1 [s1] idx (fun s2 δ2 m2 => ∃ di sl ds k, ∃ pe : List D → List Slot, s2.rd δ2 = some di ∧ δ2[i]? = some sl ∧ sl.own = true ∧ sl.rd δ2 = some (.lst ds) ∧ m2 = op (setL ds di d) k ∧ (∀ r, δ2.set i (sl.put (.lst r)) = pe r) ∧ ∀ r, N (pe r) (k r)) m1) m)
    (hN : X.N[i]? = some x := by rfl) (hv : Vis X.env.scope x := by first | exact Or.inl rfl | exact Or.inr (Or.inl rfl) | exact Or.inr (Or.inr rfl)) (hdd : (x == ("__debug__" : Str)) = false := by decide) (hcd : (x == ("__classdict__" : Str)) = false := by decide)
    (hs : swapsWithSole [.Subscript (.Name x p) idx p2] e pos.line X.env = pure false := by rfl) (hw : swappedStores [.Subscript (.Name x p) idx p2] e X.env = pure none := by rfl)
    (h1 : (assignEach [.Subscript (.Name x p) idx p2] X.env).map (·.2) = [assign (.Subscript (.Name x p) idx p2) X.env] := by rfl)
    (ha : ∀ v, assign (.Subscript (.Name x p) idx p2) X.env v = (do
      let ov ← holding [v] (eval (.Name x p) X.env)
      let iv ← holding [v, ov] (eval idx X.env)
      standAt p2
      holding [v, ov, iv] (setItem ov iv v)
      release [v, ov, iv] []) := by intro _; rfl) : JS X en δ (.Assign [.Subscript (.Name x p) idx p2] e pos) N RT BK CT m :=
  js_setIx i (h.conv fun s1 δ1 ⟨d, sl0, e1, e2, e3, q⟩ => ⟨d, sl0, e1, e2, e3, q.conv fun s2 δ2 ⟨di, sl, ds, k, pe, f1, f2, f3, f4, f5, f6, f7⟩ =>
    ⟨di, sl, .lst ds, kL k, fun r => δ2.set i (sl.put r), f1, f2, f3, f4, by rw [f5, op_kL, setD_L], fun _ => rfl, fun r er => by
      rw [setD_L] at er
      obtain ⟨r', _, e'⟩ := Option.map_eq_some_iff.mp er
      subst e'
      show N (δ2.set i (sl.put (.lst r'))) _
      rw [f6 r']
      exact f7 r'⟩⟩) hN hv hdd hcd hs hw h1 ha
end

/-! ### methods of lists -/
/-- g told over lists of data -/
def LstG (g : D → List D → Option (D × D)) (gl : List D → List D → Option (D × List D)) : Prop := ∀ ds as, g (.lst ds) as = (gl ds as).map fun r => (r.1, D.lst r.2)
theorem je_mutL {id : String} {g : D → List D → Option (D × D)} {gl : List D → List D → Option (D × List D)} {name : Str} {x : Str} {p apos cpos : Pos} {e : Expr} {es : List Expr} (i : Nat) {sl0 : Slot} {ds0 : List D} (hg : LstG g gl) (slot : PySem.Slot "list" name id) (hty : typeOf (.builtin id) = pure (.type "method_descriptor")) (hm : MutD X id g)
    (hs : δ[i]? = some sl0) (ho : sl0.own = true) (hd : sl0.rd δ = some (.lst ds0))
    (h : JA X en δ τ (e :: es) (fun sls δ1 m1 => ∃ as sl ds k, ∃ pe : D × List D → List Slot, frs sls = some as ∧ δ1[i]? = some sl ∧ sl.own = true ∧ sl.rd δ1 = some (.lst ds) ∧ m1 = op (gl ds as) k ∧ (∀ r, δ1.set i (sl.put (.lst r.2)) = pe r) ∧ ∀ r, C (.fr r.1) (pe r) (k r)) m)
    (hN : X.N[i]? = some x := by rfl) (hv : Vis X.env.scope x := by first | exact Or.inl rfl | exact Or.inr (Or.inl rfl) | exact Or.inr (Or.inr rfl)) (hdd : (x == ("__debug__" : Str)) = false := by decide) (hcd : (x == ("__classdict__" : Str)) = false := by decide)
    (hfew : ((backTo cpos (starEach (e :: es) X.env)).all (fun x => !x.1) && (backToKw cpos (keywordEach [] X.env)).all (fun x => x.1.isSome)
      && decide ((e :: es).length + ([] : List Keyword).length + (if ([] : List Keyword).isEmpty then 0 else 1) < 30)) = true := by rfl)
    (hline : (apos.endLine == cpos.line) = true := by rfl) (hst : starEach (e :: es) X.env = (false, eval e X.env) :: starEach es X.env := by exact star_plain rfl) (hplain : (backTo cpos (starEach es X.env)).any (·.1) = false := by rfl) :
    JE X en δ τ (.Call (.Attribute (.Name x p) name apos) (e :: es) [] cpos) C m :=
  je_mut i slot hty hm hs ho hd (h.conv fun sls δ1 ⟨as, sl, ds, k, pe, f1, f2, f3, f4, f5, f6, f7⟩ => ⟨as, sl, .lst ds, kP k, fun r => δ1.set i (sl.put r.2), f1, f2, f3, f4, by rw [f5, op_kP, hg], fun _ => rfl, fun r er => by
    rw [hg] at er
    obtain ⟨r', _, e'⟩ := Option.map_eq_some_iff.mp er
    subst e'
    have := f6 r'
    show C _ (δ1.set i (sl.put (.lst r'.2))) _
    rw [f6 r']
    exact f7 r'⟩) hN hv hdd hcd hfew hline hst hplain
theorem je_mutL0 {id : String} {g : D → List D → Option (D × D)} {gl : List D → List D → Option (D × List D)} {name : Str} {x : Str} {p apos cpos : Pos} (i : Nat) {sl0 : Slot} {ds0 : List D} (hg : LstG g gl) (slot : PySem.Slot "list" name id) (hty : typeOf (.builtin id) = pure (.type "method_descriptor")) (hm : MutD X id g)
    (hs : δ[i]? = some sl0) (ho : sl0.own = true) (hd : sl0.rd δ = some (.lst ds0))
    (h : ∃ k, ∃ pe : D × List D → List Slot, m = op (gl ds0 []) k ∧ (∀ r, δ.set i (sl0.put (.lst r.2)) = pe r) ∧ ∀ r, C (.fr r.1) (pe r) (k r))
    (hN : X.N[i]? = some x := by rfl) (hv : Vis X.env.scope x := by first | exact Or.inl rfl | exact Or.inr (Or.inl rfl) | exact Or.inr (Or.inr rfl)) (hdd : (x == ("__debug__" : Str)) = false := by decide) (hcd : (x == ("__classdict__" : Str)) = false := by decide)
    (hline : (apos.endLine == cpos.line) = true := by rfl) :
    JE X en δ τ (.Call (.Attribute (.Name x p) name apos) [] [] cpos) C m := by
  obtain ⟨k, pe, f5, f6, f7⟩ := h
  refine je_mut0 i slot hty hm hs ho hd ⟨kP k, fun r => δ.set i (sl0.put r.2), by rw [f5, op_kP, hg], fun _ => rfl, fun r er => ?_⟩ hN hv hdd hcd hline
  rw [hg] at er
  obtain ⟨r', _, e'⟩ := Option.map_eq_some_iff.mp er
  subst e'
  show C _ (δ.set i (sl0.put (.lst r'.2))) _
  rw [f6 r']
  exact f7 r'
def appL (ds as : List D) : Option (D × List D) := match as with
  | [d] => if ds.length < sizeLine then some (.non, ds ++ [d]) else none
  | _ => none
def popL (ds as : List D) : Option (D × List D) := match as with
  | [] => (ds[ds.length - 1]?).map fun d => (d, ds.dropLast)
  | _ => none
def clrL (ds as : List D) : Option (D × List D) := match as with
  | [] => some (.non, [])
  | _ => none
def revL (ds as : List D) : Option (D × List D) := match as with
  | [] => some (.non, ds.reverse)
  | _ => none
def extL (ds as : List D) : Option (D × List D) := match as with
  | [.lst es] => if ds.length + es.length ≤ sizeLine then some (.non, ds ++ es) else none
  | _ => none
theorem g_app : LstG appendD appL := fun ds as => by
  match as with
  | [d] =>
    show (if _ then _ else _) = Option.map _ (if _ then _ else _)
    split <;> rfl
  | [] => rfl
  | _ :: _ :: _ => rfl
theorem g_pop : LstG popD popL := fun ds as => by
  match as with
  | [] =>
    show (ds[ds.length - 1]?).map _ = ((ds[ds.length - 1]?).map _).map _
    rw [Option.map_map]; rfl
  | _ :: _ => rfl
end
end BR

/-! K15: new lists told as lists of data -/
namespace BR
open PySem PySem.Spec PyProof.Rows L2

section
variable {X : Cx} {en : Kn} {δ τ : List Slot} {R : Type} {C : Slot → List Slot → Res R → Prop} {m : Res R} {K : PySem.W.Frag}
theorem RoomG.hu {k : Nat} {A : Around} (h : RoomG k A) : A.units + 64 < cLine := by
  have := h.r.un
  omega
def catT (a b : D) : Option (List D) := match a, b with
  | .lst a, .lst b => if a.length + b.length ≤ sizeLine then some (a ++ b) else none
  | _, _ => none
def CallL (X : Cx) (f : Value) (gl : List D → Option (List D)) : Prop := CallD X f (fun ds => (gl ds).map D.lst) .mu
theorem callL {gl : List D → Option (List D)} {ds : List D} {k : List D → Res R} (hk : ∀ d, C (.mu (.lst d)) δ (k d)) : ∀ d, (gl ds).map D.lst = some d → C (.mu d) δ (kL k d) := fun d hd => by
  obtain ⟨r, _, e⟩ := Option.map_eq_some_iff.mp hd
  subst e
  exact hk r
theorem je_callBL {x : Str} {p pos : Pos} {e : Expr} {es : List Expr} {id : String} {g : List D → Option (List D)} (hc : CallL X (.builtin id) g) (hm : X.mg x = none)
    (h : JA X en δ τ (e :: es) (fun sls δ1 m1 => ∃ ds k, rds δ1 sls = some ds ∧ m1 = op (g ds) k ∧ ∀ d, C (.mu (.lst d)) δ1 (k d)) m) (hv : bootBuiltins x = some (.builtin id) := by decide +kernel) (hg : Gl X x := by rfl)
    (hn : x ≠ "__name__" := by decide) (hdb : (x == ("__debug__" : Str)) = false := by decide)
    (he : starEach (e :: es) X.env = (false, eval e X.env) :: starEach es X.env := by exact star_plain rfl) (hpl : (backTo pos (starEach es X.env)).any (·.1) = false := by rfl) : JE X en δ τ (.Call (.Name x p) (e :: es) [] pos) C m :=
  je_callB hc hm (h.conv fun sls δ1 ⟨ds, k, e1, em, hk⟩ => ⟨ds, kL k, e1, by rw [em, op_kL], callL hk⟩) hv hg hn hdb he hpl
def listT : List D → Option (List D)
  | [.lst ds] => some ds
  | [.tup ds] => some ds
  | _ => none
theorem nd1 {α : Type} {a : α} : [a].Nodup := List.nodup_cons.mpr ⟨(by simp), List.nodup_nil⟩
theorem je_fzv' (i : Nat) (δ' : List Slot) {x : Str} {pos : Pos} {d : D} (hs : δ[i]? = some (.mu d)) (he : δ.set i (.fr d) = δ') (h : C (.fr d) δ' m) (hN : X.N[i]? = some x := by rfl) (hv : Vis X.env.scope x := by first | exact Or.inl rfl | exact Or.inr (Or.inl rfl) | exact Or.inr (Or.inr rfl))
    (hd : (x == ("__debug__" : Str)) = false := by decide) (hcd : (x == ("__classdict__" : Str)) = false := by decide) : JE X en δ τ (.Name x pos) C m := je_fzv i hs (he ▸ h) hN hv hd hcd
theorem je_mv' (i : Nat) (δ' : List Slot) {x : Str} {pos : Pos} {d : D} (hs : δ[i]? = some (.mu d)) (he : δ.set i .un = δ') (h : C (.mu d) δ' m) (hN : X.N[i]? = some x := by rfl) (hv : Vis X.env.scope x := by first | exact Or.inl rfl | exact Or.inr (Or.inl rfl) | exact Or.inr (Or.inr rfl))
    (hd : (x == ("__debug__" : Str)) = false := by decide) (hcd : (x == ("__classdict__" : Str)) = false := by decide) : JE X en δ τ (.Name x pos) C m := je_mv i hs (he ▸ h) hN hv hd hcd
end
end BR

/-! K16: dicts written -/
namespace BR
open PySem PySem.Spec PyProof.Rows L2

def putD (kvs : List (Key × D)) (k : Key) (d : D) : List (Key × D) :=
  if (kvs.any fun kv => decide (kv.1 = k)) = true then kvs.map (fun kv => if kv.1 = k then (kv.1, d) else kv) else kvs ++ [(k, d)]
def mergeD (kvs more : List (Key × D)) : List (Key × D) := more.foldl (fun acc kv => putD acc kv.1 kv.2) kvs
section
variable {K : PySem.W.Frag} {G H : Hp}
theorem RepKs.any : ∀ {ks : List (Key × D)} {vs : List (Key × V)} (p : Key → Bool), RepKs K G ks vs → (ks.any fun kv => p kv.1) = vs.any fun kv => p kv.1
  | [], _, p, h => by rw [show _ = [] from h]; rfl
  | (k, d) :: ks, _, p, h => by
    obtain ⟨v, r, e, _, h2⟩ := h
    subst e
    rw [List.any_cons, List.any_cons, RepKs.any p h2]
theorem RepKs.snoc {k : Key} {d : D} {v : V} (q : Rep K G d v) : ∀ {ks : List (Key × D)} {vs : List (Key × V)}, RepKs K G ks vs → RepKs K G (ks ++ [(k, d)]) (vs ++ [(k, v)])
  | [], _, h => by rw [show _ = [] from h]; exact ⟨v, [], rfl, q, rfl⟩
  | (k', d') :: ks, _, h => by
    obtain ⟨u, r, e, h1, h2⟩ := h
    subst e
    exact ⟨u, _, rfl, h1, RepKs.snoc q h2⟩
theorem RepKs.over {k : Key} {d : D} {v : V} (q : Rep K G d v) : ∀ {ks : List (Key × D)} {vs : List (Key × V)}, RepKs K G ks vs → RepKs K G (ks.map fun kv => if kv.1 = k then (kv.1, d) else kv) (vs.map fun kv => if kv.1 = k then (kv.1, v) else kv)
  | [], _, h => by rw [show _ = [] from h]; rfl
  | (k', d') :: ks, _, h => by
    obtain ⟨u, r, e, h1, h2⟩ := h
    subst e
    rw [List.map_cons, List.map_cons]
    by_cases hk : k' = k
    · subst hk
      rw [if_pos rfl, if_pos rfl]
      exact ⟨v, _, rfl, q, RepKs.over q h2⟩
    · rw [if_neg hk, if_neg hk]
      exact ⟨u, _, rfl, h1, RepKs.over q h2⟩
theorem RepKs.put {k : Key} {d : D} {v : V} (q : Rep K G d v) {ks : List (Key × D)} {vs : List (Key × V)} (h : RepKs K G ks vs) : RepKs K G (putD ks k d) (putK vs k v) := by
  have e := RepKs.any (fun x => decide (x = k)) h
  unfold putD putK
  rw [e]
  split
  · exact RepKs.over q h
  · exact RepKs.snoc q h
theorem RepKs.length : ∀ {ks : List (Key × D)} {vs : List (Key × V)}, RepKs K G ks vs → ks.length = vs.length
  | [], _, h => by rw [show _ = [] from h]; rfl
  | (k, d) :: ks, _, h => by
    obtain ⟨v, r, e, _, h2⟩ := h
    rw [e, List.length_cons, List.length_cons, RepKs.length h2]
end
/-- data as keys -/
def keyD : D → Option Key
  | .int i => some (.inl i)
  | .str x => some (.inr x)
  | _ => none
def keysD : List (D × D) → Option (List (Key × D))
  | [] => some []
  | (k, d) :: r => match keyD k, keysD r with
    | some k, some r => some ((k, d) :: r)
    | _, _ => none
def pairD (r : List (D × D)) : Option (List (Key × D)) := if r.length ≤ 15 then keysD r else none
section
variable {X : Cx} {en : Kn} {δ τ : List Slot} {R : Type} {C : Slot → List Slot → Res R → Prop} {m : Res R} {K : PySem.W.Frag}
/-- {} -/
theorem je_dnew {pos : Pos} (h : C (.mu (.dic [])) δ m) : JE X en δ τ (.Dict [] [] pos) C m := .mk fun hb hx σ ts G H T hl hσ W k =>
  we_of pe_dnewK fun p hp => k _ δ _ G _ h hl (W.out (Grow.laid W.sub hp) ⟨p, rfl, hp, (W.fresh hp).1, [], upd_same, rfl⟩)
def trsOf (X : Cx) : List (Option Expr) → List Expr → List (TE × TE)
  | some k :: ks, v :: vs => (WE X k, WE X v) :: trsOf X ks vs
  | _, _ => []
def frs2 : List (D × D) → List Slot
  | [] => []
  | (a, b) :: r => .fr a :: .fr b :: frs2 r
def vals2 : List (V × V) → L2.St
  | [] => []
  | (a, b) :: r => some a :: some b :: vals2 r
structure JP (X : Cx) (en : Kn) (δ τ : List Slot) (ks : List (Option Expr)) (vs : List Expr) {R : Type} (C : List (D × D) → List Slot → Res R → Prop) (m : Res R) : Prop where
  run : m ≠ .bad → en.HX m.exc → ∀ (σ ts : L2.St) (G H : Hp) (T : List (V × V) → Hp → Prop), δ.length = en.n → σ.length = en.n → Wd X.K en (δ ++ τ) (σ ++ ts) G H →
    (∀ kvs δ' ps G' H', C kvs δ' m → δ'.length = en.n → kvs.length = ps.length → Wd X.K en (δ' ++ τ ++ frs2 kvs) (σ ++ ts ++ vals2 ps) G' H' → T ps H') → tPairs (trsOf X ks vs) σ H T
end
end BR

/-! K17: a law's end -/
namespace BR
open PySem PySem.Spec PyProof.Rows L2

def spLaw (n : Nat) (K : PySem.W.Frag) : Sp := fun vs H Q _ => ∃ (a : Addr) (ns : List Int), vs = [.ref a] ∧ SqL K H a (ns.map V.int) ∧ ns.length ≤ n ∧ ∀ H', Q (.bl true) H'
section
variable {P : Program} {w : World} {K : PySem.W.Frag} {mg : Str → Option Value} {base : Heap}
theorem law_spec {k n : Nat} {fa : Addr} {fd : FuncData} {x : Str} {f : List D → Res D} (F : FnG P w K mg base k fa fd [x] (SpD K mg [.b] f (fun a => a) (fun a => []) false)) (hf : ∀ ns : List Int, ns.length ≤ n → f [.scr ns] = .ok (.bl true)) : FnG P w K mg base k fa fd [x] (spLaw n K) where
  len := fun vs H Q E h => by
    obtain ⟨a, ns, rfl, _⟩ := h
    rfl
  run := fun A outer s H args us vs Q E hr e0 hb rv hsp => F.run A outer s H args us vs Q E hr e0 hb rv (by
    obtain ⟨a, ns, rfl, hq, hl, q⟩ := hsp
    have hh : hide H [] = H := funext fun a => if_neg (by simp)
    refine ⟨rfl, fun _ => none, [], [.scr ns], _, (fun _ _ e => nomatch e), List.nodup_nil, ⟨BRep.mk ⟨a, rfl, ?_⟩ (fun z => nomatch z), trivial⟩, rfl, ?_, ?_, ?_⟩
    · rw [hh]; exact hq
    · rw [hf ns hl]; exact fun z => nomatch z
    · intro r er v G' H' _ _ ro
      rw [hf ns hl] at er
      cases er
      have e : v = .bl true := ro
      subst e
      exact q H'
    · intro x ex
      rw [hf ns hl] at ex
      cases ex)
theorem fn_fact {h : Heap} {x : Str} {st : Stmt} {ps : List Str} {f : Addr} {oc : Value} {od an : Option Addr} {osl : Array (Option Value)} {kV doc pm cdv ct : Value} (X : K.In h) (G : h.Ns mainGlobals mg)
    (a : PySem.W.nsIn K mainGlobals x = some (some (.ref f))) (l : K.lookup f = some ⟨oc, od, .func (PySem.W.fnOf x x (defArgs st) (defBody st) (defScope st) .none kV doc pm an cdv ct), osl⟩)
    (c : PySem.W.codeIn K cdv x = true) (k : PySem.W.keepIn K (.ref f) = true)
    (hb : ∀ (kV doc pm : Value) (an : Option Addr) (cdv ct : Value) (us : List Value), us.length = ps.length → bindArgs (PySem.W.fnOf x x (defArgs st) (defBody st) (defScope st) .none kV doc pm an cdv ct) ⟨us, []⟩ = pure (ps.zip us)) :
    ∃ fa fd, L2.Fun K x x st fa fd ∧ Binds K fd ps [] ∧ mg x = some (.ref fa) :=
  ⟨f, _, fun_mk l c k, (fun_mk l c k).binds hb, PySem.W.mg_of X G a⟩
end
end BR

/-! K18: the text of data, dicts within -/
namespace BR
open PySem PySem.Spec PyProof.Rows L2

mutual
/-- no script within -/
def noS : D → Bool
  | .lst ds => noSs ds
  | .tup ds => noSs ds
  | .dic ks => noSk ks
  | .scr _ => false
  | .exc _ _ => false
  | .obj _ _ => false
  | _ => true
def noSs : List D → Bool
  | [] => true
  | d :: ds => noS d && noSs ds
def noSk : List (Key × D) → Bool
  | [] => true
  | (_, d) :: ds => noS d && noSk ds
end
/-- a run of texts, shown in a heap h with what is read on the way -/
def ShA (P : Program) (w : World) (h : Heap) (us : List Value) (ps : List PyData) : Prop :=
  ∃ as bs, ReadsAll h us ps as ∧ ReadAtMost h (PyData.depthAll ps) bs ∧ ReprAllK P w bs h (PyData.depthAll ps) us (PyData.shownAll ps)
def Sh (P : Program) (w : World) (h : Heap) (u : Value) (p : PyData) : Prop :=
  ∃ as bs, Reads h u p as ∧ ReadAtMost h p.depth bs ∧ ReprK P w bs h p.depth u p.shown
section
variable {P : Program} {w : World} {h : Heap}
theorem shA_nil : ShA P w h [] [] := ⟨[], [], .nil, (fun _ z => nomatch z), by simp only [PyData.shownAll]; exact .nil⟩
theorem shA_cons {u : Value} {us : List Value} {p : PyData} {ps : List PyData} (x : Sh P w h u p) (y : ShA P w h us ps) : ShA P w h (u :: us) (p :: ps) := by
  obtain ⟨a1, b1, r1, m1, k1⟩ := x
  obtain ⟨a2, b2, r2, m2, k2⟩ := y
  refine ⟨_, b1 ++ b2, .cons r1 r2, fun b hm => ?_, ?_⟩
  · have e : PyData.depthAll (p :: ps) = max p.depth (PyData.depthAll ps) := by simp only [PyData.depthAll]
    rw [e]
    rcases List.mem_append.mp hm with z | z
    · obtain ⟨d', as', r', q⟩ := m1 b z
      exact ⟨d', as', r', by omega⟩
    · obtain ⟨d', as', r', q⟩ := m2 b z
      exact ⟨d', as', r', by omega⟩
  · simp only [PyData.depthAll, PyData.shownAll]
    refine .cons ((k1.more fun b z => ?_).level_le ?_) (k2.more_le (fun b z => ?_) ?_)
    · exact List.mem_append.mpr (.inl z)
    · omega
    · exact List.mem_append.mpr (.inr z)
    · omega
end
section
variable {X : Cx} {pins : List (Addr × Obj)} {σ : L2.St} {H : Hp} {s : Shared}
mutual
theorem shK (I : Inv X pins σ H s) : ∀ (d : D) (v : V) (u : Value), noS d = true → Rep X.K H d v → RelV v u → (toP d).showable = true → (toP d).shown.length ≤ sizeLine → Sh X.prog X.w s.heap u (toP d)
  | .non, v, u, _, h, r, _, _ => by
    have e : v = .non := h
    subst e; cases r
    exact ⟨[], [], Reads.none, (fun _ z => nomatch z), by simp only [toP, PyData.shown]; exact .of_is ReprIs.none _ _ _⟩
  | .bl b, v, u, _, h, r, _, _ => by
    have e : v = .bl b := h
    subst e; cases r
    exact ⟨[], [], Reads.bool b, (fun _ z => nomatch z), by simp only [toP, PyData.shown]; exact .of_is (ReprIs.bool b) _ _ _⟩
  | .int i, v, u, _, h, r, hs, _ => by
    have e : v = .int i := h
    subst e
    obtain ⟨t, rfl⟩ := r
    exact ⟨[], [], Reads.int i t, (fun _ z => nomatch z), by simp only [toP, PyData.shown]; exact .of_is (ReprIs.int t (by simpa [toP, PyData.showable] using hs)) _ _ _⟩
  | .str x, v, u, _, h, r, _, hz => by
    have e : v = .str x := h
    subst e
    obtain ⟨t, rfl⟩ := r
    exact ⟨[], [], Reads.str x t, (fun _ z => nomatch z), by simp only [toP, PyData.shown]; exact .of_is (ReprIs.str x t (by simpa only [toP, PyData.shown] using hz)) _ _ _⟩
  | .scr _, _, _, nS, _, _, _, _ => by simp [noS] at nS
  | .exc _ _, _, _, nS, _, _, _, _ => by simp [noS] at nS
  | .obj _ _, _, _, nS, _, _, _, _ => by simp [noS] at nS
  | .lst ds, v, u, nS, h, r, hs, hz => by
    obtain ⟨a, vs, e, q, rr⟩ := h
    subst e; cases r
    obtain ⟨its, rv, ⟨o, n, ho, hc, _, hd⟩, _⟩ := I.list (SqL.of q)
    have hz1 : (listText (PyData.shownAll (toPs ds))).length ≤ sizeLine := by simpa only [toP, PyData.shown] using hz
    obtain ⟨as, bs, r1, m1, k1⟩ := shAll I ds vs its (by simpa [noS] using nS) rr rv (by simpa [toP, PyData.showable] using hs) fun t ht => Nat.le_trans (listText_mem_le ht) hz1
    have rd : Reads s.heap (.ref a) (.list (toPs ds)) _ := .list ho hc hd r1
    have nin := not_mem_of_deeper rd (by simp only [PyData.depth]; omega) m1
    refine ⟨_, a :: bs, rd, ReadAtMost.cons rd (by simp only [toP, PyData.depth]; omega) m1, ?_⟩
    simp only [toP, PyData.depth, PyData.shown]
    cases its with
    | nil =>
      cases ds with
      | nil =>
        simp only [toPs, PyData.shownAll, listText_nil]
        exact ReprK.listEmpty ho hc hd
      | cons d0 ds0 => cases r1
    | cons x l => exact ReprK.list ho hc hd nin (by simpa using k1.length_eq) (fun i y e => k1.item i y (by simpa using e))
  | .tup ds, v, u, nS, h, r, hs, hz => by
    obtain ⟨a, vs, e, q, rr⟩ := h
    subst e; cases r
    obtain ⟨its, rv, ⟨o, ho, hc, n, hd⟩, _⟩ := I.tuple q
    have hz1 : (tupleText (PyData.shownAll (toPs ds))).length ≤ sizeLine := by simpa only [toP, PyData.shown] using hz
    obtain ⟨as, bs, r1, m1, k1⟩ := shAll I ds vs its (by simpa [noS] using nS) rr rv (by simpa [toP, PyData.showable] using hs) fun t ht => Nat.le_trans (tupleText_mem_le ht) hz1
    have rd : Reads s.heap (.ref a) (.tuple (toPs ds)) _ := .tuple ho hc hd r1
    have nin := not_mem_of_deeper rd (by simp only [PyData.depth]; omega) m1
    refine ⟨_, a :: bs, rd, ReadAtMost.cons rd (by simp only [toP, PyData.depth]; omega) m1, ?_⟩
    simp only [toP, PyData.depth, PyData.shown]
    exact ReprK.tuple ho hc hd nin (by simpa using k1)
  | .dic ks, v, u, nS, h, r, hs, hz => by
    obtain ⟨a, kv, e, q, rr⟩ := h
    subst e; cases r
    obtain ⟨_, ns, vs0, r0, o, es, ep, ho, hx, hd, _, hp, _⟩ := dk_of I.hok q
    have hz1 : (dictText (PyData.shownKv (toPk ks))).length ≤ sizeLine := by simpa only [toP, PyData.shown] using hz
    obtain ⟨hs1, hs2⟩ := PyData.showableKv_split (toPk ks) (by simpa [toP, PyData.showable] using hs)
    obtain ⟨⟨a1, b1, r1, m1, k1⟩, a2, b2, r2, m2, k2⟩ := shKv I ks kv vs0 es.toList (by simpa [noS] using nS) rr r0 hp hs1 hs2
      (fun t ht => by obtain ⟨p, hp, hl⟩ := PyData.shownKv_key_le _ t ht; exact Nat.le_trans hl (Nat.le_trans (dictText_mem_le hp) hz1))
      (fun t ht => by obtain ⟨p, hp, hl⟩ := PyData.shownKv_val_le _ t ht; exact Nat.le_trans hl (Nat.le_trans (dictText_mem_le hp) hz1))
    have rd : Reads s.heap (.ref a) (.dict (toPk ks)) _ := .dict ho hx.1 hd r1 r2
    have m3 : ReadAtMost s.heap (PyData.depthKv (toPk ks)) (b1 ++ b2) := (m1.mono (PyData.depthAll_keys_le _)).append (m2.mono (PyData.depthAll_vals_le _))
    have nin := not_mem_of_deeper rd (by simp only [PyData.depth]; omega) m3
    refine ⟨_, a :: (b1 ++ b2), rd, ReadAtMost.cons rd (by simp only [toP, PyData.depth]; omega) m3, ?_⟩
    simp only [toP, PyData.depth, PyData.shown, PyData.shownKv_eq]
    refine ReprK.dict ho hx.1 hd ns nin (ReprEntriesK.of_two es.toList _ _ (k1.more_le (fun b z => ?_) (PyData.depthAll_keys_le _)) (k2.more_le (fun b z => ?_) (PyData.depthAll_vals_le _)))
    · exact List.mem_append.mpr (.inl z)
    · exact List.mem_append.mpr (.inr z)
theorem shAll (I : Inv X pins σ H s) : ∀ (ds : List D) (vs : List V) (us : List Value), noSs ds = true → Reps X.K H ds vs → Vals vs us → PyData.showableAll (toPs ds) = true → (∀ t ∈ PyData.shownAll (toPs ds), t.length ≤ sizeLine) → ShA X.prog X.w s.heap us (toPs ds)
  | [], vs, us, _, h, r, _, _ => by
    have e : vs = [] := h
    subst e; cases r
    exact shA_nil
  | d :: ds, vs, us, nS, h, r, hs, hz => by
    obtain ⟨v, q, e, h1, h2⟩ := h
    subst e
    have nS' : noS d = true ∧ noSs ds = true := by simpa [noSs] using nS
    have hs' : (toP d).showable = true ∧ PyData.showableAll (toPs ds) = true := by simpa [toPs, PyData.showableAll] using hs
    cases r with
    | cons r1 r2 => exact shA_cons (shK I d v _ nS'.1 h1 r1 hs'.1 (hz _ (by simp [toPs, PyData.shownAll]))) (shAll I ds q _ nS'.2 h2 r2 hs'.2 fun t ht => hz t (by simp [toPs, PyData.shownAll, ht]))
theorem shKv (I : Inv X pins σ H s) : ∀ (ks : List (Key × D)) (kv : List (Key × V)) (vs0 : List (Key × Value)) (es : List DictEntry), noSk ks = true → RepKs X.K H ks kv → KV kv vs0 → Pairs (mixKind X.prog X.w) es vs0 →
    PyData.showableAll ((toPk ks).map (·.1)) = true → PyData.showableAll ((toPk ks).map (·.2)) = true → (∀ t ∈ PyData.shownAll ((toPk ks).map (·.1)), t.length ≤ sizeLine) → (∀ t ∈ PyData.shownAll ((toPk ks).map (·.2)), t.length ≤ sizeLine) →
    ShA X.prog X.w s.heap (es.map (·.key)) ((toPk ks).map (·.1)) ∧ ShA X.prog X.w s.heap (es.map (·.val)) ((toPk ks).map (·.2))
  | [], kv, vs0, es, _, h, r, p, _, _, _, _ => by
    have e : kv = [] := h
    subst e; cases r; cases p
    exact ⟨shA_nil, shA_nil⟩
  | (k, d) :: ks, kv, vs0, es, nS, h, r, p, s1, s2, z1, z2 => by
    obtain ⟨v, q, e, h1, h2⟩ := h
    subst e
    have nS' : noS d = true ∧ noSk ks = true := by simpa [noSk] using nS
    cases r with
    | cons r1 r2 =>
      cases p with
      | cons p1 p2 p3 =>
        rename_i y ys e0 es0
        have ek : k = y.1 := r1.1
        have rv : RelV v e0.val := by rw [p2]; exact r1.2
        rcases keyIs_shape (show keyIs y.1 e0.key = true from p1) with ⟨i, t, w1, w2⟩ | ⟨x, t, w1, w2⟩
        · rw [w1] at ek
          subst ek
          simp only [toPk, List.map_cons, PyData.showableAll, PyData.shownAll, Bool.and_eq_true, List.mem_cons, forall_eq_or_imp] at s1 s2 z1 z2 ⊢
          obtain ⟨a1, a2⟩ := shKv I ks q _ _ nS'.2 h2 r2 p3 s1.2 s2.2 z1.2 z2.2
          refine ⟨shA_cons ?_ a1, shA_cons (shK I d v _ nS'.1 h1 rv s2.1 z2.1) a2⟩
          rw [w2]
          exact ⟨[], [], Reads.int i t, (fun _ z => nomatch z), by simp only [PyData.shown]; exact .of_is (ReprIs.int t (by simpa [PyData.showable] using s1.1)) _ _ _⟩
        · rw [w1] at ek
          subst ek
          simp only [toPk, List.map_cons, PyData.showableAll, PyData.shownAll, Bool.and_eq_true, List.mem_cons, forall_eq_or_imp] at s1 s2 z1 z2 ⊢
          obtain ⟨a1, a2⟩ := shKv I ks q _ _ nS'.2 h2 r2 p3 s1.2 s2.2 z1.2 z2.2
          refine ⟨shA_cons ?_ a1, shA_cons (shK I d v _ nS'.1 h1 rv s2.1 z2.1) a2⟩
          rw [w2]
          exact ⟨[], [], Reads.str x t, (fun _ z => nomatch z), by simp only [PyData.shown]; exact .of_is (ReprIs.str x t (by simpa only [PyData.shown] using z1.1)) _ _ _⟩
end
/-- the text of a list, a tuple, a dict -/
theorem sh_by (I : Inv X pins σ H s) {d : D} {a : Addr} (nS : noS d = true) (h : Rep X.K H d (.ref a)) (hs : (toP d).showable = true) (hz : (toP d).shown.length ≤ sizeLine) : ∃ T idr, ShowsBy X.prog X.w s.heap a (toP d) T idr := by
  cases d with
  | non => cases (show V.ref a = .non from h)
  | bl b => cases (show V.ref a = .bl b from h)
  | int b => cases (show V.ref a = .int b from h)
  | str b => cases (show V.ref a = .str b from h)
  | scr _ => simp [noS] at nS
  | exc _ _ => simp [noS] at nS
  | obj _ _ => simp [noS] at nS
  | lst ds =>
    obtain ⟨a', vs, e, q, rr⟩ := h
    cases e
    obtain ⟨its, rv, ⟨o, n, ho, hc, _, hd⟩, _⟩ := I.list (SqL.of q)
    have hz1 : (listText (PyData.shownAll (toPs ds))).length ≤ sizeLine := by simpa only [toP, PyData.shown] using hz
    obtain ⟨as, bs, r1, m1, k1⟩ := shAll I ds vs its (by simpa [noS] using nS) rr rv (by simpa [toP, PyData.showable] using hs) fun t ht => Nat.le_trans (listText_mem_le ht) hz1
    have rd : Reads s.heap (.ref a) (.list (toPs ds)) _ := .list ho hc hd r1
    have nin := not_mem_of_deeper rd (by simp only [PyData.depth]; omega) m1
    refine ⟨"list", "list.__repr__", F.slot_list_repr.toG, F.slot_list_str, F.slot_list_format, fun s2 hk => ⟨o, hk _ _ ho, hc⟩, fun A E s2 Q hg hu hk hQ => ?_⟩
    simp only [toP, PyData.depth, PyData.shown] at hu hQ
    cases its with
    | nil =>
      cases ds with
      | nil =>
        simp only [toPs, PyData.shownAll, listText_nil] at hQ
        exact call_list_repr_empty ⟨o, hk _ _ ho, hc⟩ (hk _ _ ho) hd (hQ s2.heap _ _ fun _ _ z => z)
      | cons d0 ds0 => cases r1
    | cons x l => exact call_list_reprK ho hc hd nin (by simpa using k1.length_eq) (fun i y z => k1.item i y (by simpa using z)) hg (fun b _ => Clear.nil b) hu hk hQ hz1
  | tup ds =>
    obtain ⟨a', vs, e, q, rr⟩ := h
    cases e
    obtain ⟨its, rv, ⟨o, ho, hc, n, hd⟩, _⟩ := I.tuple q
    have hz1 : (tupleText (PyData.shownAll (toPs ds))).length ≤ sizeLine := by simpa only [toP, PyData.shown] using hz
    obtain ⟨as, bs, r1, m1, k1⟩ := shAll I ds vs its (by simpa [noS] using nS) rr rv (by simpa [toP, PyData.showable] using hs) fun t ht => Nat.le_trans (tupleText_mem_le ht) hz1
    have rd : Reads s.heap (.ref a) (.tuple (toPs ds)) _ := .tuple ho hc hd r1
    have nin := not_mem_of_deeper rd (by simp only [PyData.depth]; omega) m1
    refine ⟨"tuple", "tuple.__repr__", F.slot_tuple_repr, F.slot_tuple_str, F.slot_tuple_format, fun s2 hk => ⟨o, hk _ _ ho, hc⟩, fun A E s2 Q hg hu hk hQ => ?_⟩
    simp only [toP, PyData.depth, PyData.shown] at hu hQ
    exact call_tuple_reprK ho hc hd nin (by simpa using k1) hg (fun b _ => Clear.nil b) hu hk hQ hz1
  | dic ks =>
    obtain ⟨a', kv, e, q, rr⟩ := h
    cases e
    obtain ⟨_, ns, vs0, r0, o, es, ep, ho, hx, hd, _, hp, _⟩ := dk_of I.hok q
    have hz1 : (dictText (PyData.shownKv (toPk ks))).length ≤ sizeLine := by simpa only [toP, PyData.shown] using hz
    obtain ⟨hs1, hs2⟩ := PyData.showableKv_split (toPk ks) (by simpa [toP, PyData.showable] using hs)
    obtain ⟨⟨a1, b1, r1, m1, k1⟩, a2, b2, r2, m2, k2⟩ := shKv I ks kv vs0 es.toList (by simpa [noS] using nS) rr r0 hp hs1 hs2
      (fun t ht => by obtain ⟨p, hp, hl⟩ := PyData.shownKv_key_le _ t ht; exact Nat.le_trans hl (Nat.le_trans (dictText_mem_le hp) hz1))
      (fun t ht => by obtain ⟨p, hp, hl⟩ := PyData.shownKv_val_le _ t ht; exact Nat.le_trans hl (Nat.le_trans (dictText_mem_le hp) hz1))
    have rd : Reads s.heap (.ref a) (.dict (toPk ks)) _ := .dict ho hx.1 hd r1 r2
    have m3 : ReadAtMost s.heap (PyData.depthKv (toPk ks)) (b1 ++ b2) := (m1.mono (PyData.depthAll_keys_le _)).append (m2.mono (PyData.depthAll_vals_le _))
    have nin := not_mem_of_deeper rd (by simp only [PyData.depth]; omega) m3
    refine ⟨"dict", "dict.__repr__", F.slot_dict_repr, F.slot_dict_str, F.slot_dict_format, fun s2 hk => ⟨o, hk _ _ ho, hx.1⟩, fun A E s2 Q hg hu hk hQ => ?_⟩
    simp only [toP, PyData.depth, PyData.shown, PyData.shownKv_eq] at hu hQ
    refine call_dict_reprK ho hx.1 hd ns nin (ReprEntriesK.of_two es.toList _ _ (k1.more_le (fun b z => ?_) (PyData.depthAll_keys_le _)) (k2.more_le (fun b z => ?_) (PyData.depthAll_vals_le _))) hg (fun b _ => Clear.nil b) hu hk hQ (by rw [← PyData.shownKv_eq]; exact hz1)
    · exact List.mem_append.mpr (.inl z)
    · exact List.mem_append.mpr (.inr z)
end
theorem VF.rep {K : PySem.W.Frag} {G H : Hp} (s : Sub G H) : ∀ {b : Bool} {d : D} {v : V}, VF K G H b d v → Rep K H d v
  | true, .lst ds, v, h => by obtain ⟨a, vs, e, q, r⟩ := h; exact ⟨a, vs, e, q, Reps.sub s _ _ r⟩
  | true, .dic ds, v, h => by obtain ⟨a, vs, e, q, r⟩ := h; exact ⟨a, vs, e, q, RepKs.sub s _ _ r⟩
  | false, d, v, h => by cases d <;> exact Rep.sub s _ _ h
  | true, .non, _, h => h
  | true, .bl _, _, h => h
  | true, .int _, _, h => h
  | true, .str _, _, h => h
  | true, .tup _, _, h => Rep.sub s _ _ h
  | true, .scr _, _, h => Rep.sub s _ _ h
  | true, .exc _ _, _, h => Rep.sub s _ _ h
  | true, .obj _ _, _, h => Rep.sub s _ _ h
theorem VFs.rep {K : PySem.W.Frag} {G H : Hp} (s : Sub G H) : ∀ {fs : List (Str × Bool × D)} {vs : List (Str × V)}, VFs K G H fs vs → RepFs K H fs vs
  | [], _, h => h
  | (k, b, d) :: r, _, h => by
    obtain ⟨v, q, e, h1, h2⟩ := h
    exact ⟨v, q, e, VF.rep s h1, VFs.rep s h2⟩
theorem VRep.rep {K : PySem.W.Frag} {G H : Hp} {d : D} {v : V} (s : Sub G H) (h : VRep K G H d v) : Rep K H d v := by
  cases d with
  | lst ds => obtain ⟨a, vs, e, q, r⟩ := h; exact ⟨a, vs, e, q, Reps.sub s _ _ r⟩
  | tup ds => obtain ⟨a, vs, e, q, r⟩ := h; exact ⟨a, vs, e, q, Reps.sub s _ _ r⟩
  | dic ds => obtain ⟨a, vs, e, q, r⟩ := h; exact ⟨a, vs, e, q, RepKs.sub s _ _ r⟩
  | scr ns => exact h
  | exc _ _ => obtain ⟨a, C, e, f, q⟩ := h; exact ⟨a, C, e, f, q.sub s (Sub.refl _)⟩
  | obj _ _ => obtain ⟨a, C, dx, vs, e, f, q, q2, r⟩ := h; exact ⟨a, C, dx, vs, e, f, q, q2, VFs.rep s r⟩
  | non => exact h
  | bl _ => exact h
  | int _ => exact h
  | str _ => exact h
/-- repr(e) -/
def rprD : List D → Option D
  | [d] => if noS d = true ∧ (toP d).showable = true ∧ (toP d).depth ≤ 60 ∧ (toP d).shown.length ≤ sizeLine then some (.str (toP d).shown) else none
  | _ => none
section
variable {X : Cx}
theorem c_rpr {k : Nat} (hr : RoomG k X.A) : CallD X (.builtin "repr") rprD .fr := fun ds d e pins s σ G H vs us Q I sb r rv hq => by
  match ds, e, r with
  | [x], e, r =>
    have e' : (if noS x = true ∧ (toP x).showable = true ∧ (toP x).depth ≤ 60 ∧ (toP x).shown.length ≤ sizeLine then some (D.str (toP x).shown) else none) = some d := e
    by_cases hz : noS x = true ∧ (toP x).showable = true ∧ (toP x).depth ≤ 60 ∧ (toP x).shown.length ≤ sizeLine
    · rw [if_pos hz] at e'
      cases e'
      obtain ⟨h1, h2, h3, h4⟩ := hz
      obtain ⟨v, ev, q⟩ := VReps.one r
      subst ev
      cases rv with
      | cons r1 r2 =>
        cases r2
        have fin : ∀ {s' : Shared} {t : Tok}, Inv X pins σ H s' → EP X pins σ Q (.str (toP x).shown t) s' := fun {s' t} J => ⟨.str (toP x).shown, H, J, ⟨t, rfl⟩, sc_out (d := .str (toP x).shown) sb rfl hq⟩
        have big : ∀ a, v = .ref a → wpAny (model X.prog X.w) X.A (call (.builtin "repr") [.ref a]) (EP X pins σ Q) X.xe s := fun a ea => by
          subst ea
          cases r1
          obtain ⟨T, idr, S⟩ := sh_by I h1 (q.rep sb) h2 h4
          have := hr.r.un
          refine call_repr_slot (by omega) (S.typeIs s fun _ _ z => z) S.slotRepr (S.call X.A.in1 X.xe s _ hr.g (by show X.A.units + 1 + (toP x).depth < cLine; omega) (fun _ _ z => z) fun h' u tk hk => ⟨_, _, rfl, ?_⟩)
          exact fin (I.kept (h' := h') (t' := tk) hk)
        cases x with
        | non => cases (show v = .non from q); cases r1; exact PySem.P.repr_of_none (fin (I.tok _))
        | bl b => cases (show v = .bl b from q); cases r1; exact PySem.P.repr_of_bool (fin (I.tok _))
        | int i => cases (show v = .int i from q); obtain ⟨t, r1⟩ := r1; subst r1; exact PySem.P.repr_of_int (of_decide_eq_true (by simpa [toP, PyData.showable] using h2)) (fin (I.tok _))
        | str y => cases (show v = .str y from q); obtain ⟨t, r1⟩ := r1; subst r1; exact PySem.P.repr_of_str (fin (I.tok _)) h4
        | lst ds => obtain ⟨a, _, e, _⟩ := q; have := big a e; subst e; cases r1; exact this
        | tup ds => obtain ⟨a, _, e, _⟩ := q; have := big a e; subst e; cases r1; exact this
        | dic ds => obtain ⟨a, _, e, _⟩ := q; have := big a e; subst e; cases r1; exact this
        | scr ds => obtain ⟨a, e, _⟩ := q; have := big a e; subst e; cases r1; exact this
        | exc ds => obtain ⟨a, _, e, _⟩ := q; have := big a e; subst e; cases r1; exact this
        | obj c ds => obtain ⟨a, _, _, _, e, _⟩ := q; have := big a e; subst e; cases r1; exact this
    · rw [if_neg hz] at e'; cases e'
end
end BR

/-! K19: ways not taken, back to front, zip, enumerate, the greatest and the least, sorted -/
namespace BR
open PySem PySem.Spec PyProof.Rows L2

section
variable {X : Cx} {en : Kn} {δ τ : List Slot} {R : Type} {C : Slot → List Slot → Res R → Prop} {m : Res R} {K : PySem.W.Frag}
variable {N : List Slot → Res R → Prop} {RT : Slot → List Slot → Res R → Prop} {BK CT : List Slot → Res R → Prop}
/-- what is not covered asks nothing -/
theorem js_bad {st : Stmt} : JS X en δ st N RT BK CT (.bad : Res R) := .mk fun hb => absurd rfl hb
/-! ### back to front -/
def revD : D → Option D
  | .lst ds => some (.lst ds.reverse)
  | .tup ds => some (.tup ds.reverse)
  | _ => none
theorem Reps.rev {G : Hp} {ds : List D} {vs : List V} (h : Reps K G ds vs) : Reps K G ds.reverse vs.reverse := Reps.reverse h
theorem pick_back (xs : Array Value) : ((List.range xs.size).filterMap fun (m : Nat) => xs[((xs.size : Int) - 1 + (m : Int) * -1).toNat]?).toArray = xs.toList.reverse.toArray := by
  have key : ∀ (l : List Nat), (∀ k, k ∈ l → k < xs.size) → (l.filterMap fun (m : Nat) => xs[((xs.size : Int) - 1 + (m : Int) * -1).toNat]?) = l.filterMap fun m => xs[xs.size - 1 - m]? := by
    intro l h
    induction l with
    | nil => rfl
    | cons k r ih =>
      have hk := h k List.mem_cons_self
      have e : ((xs.size : Int) - 1 + (k : Int) * -1).toNat = xs.size - 1 - k := by omega
      rw [List.filterMap_cons, List.filterMap_cons, e, ih fun k hk => h k (List.mem_cons_of_mem _ hk)]
  rw [key _ fun k hk => List.mem_range.mp hk]
  have e2 : (fun m => xs[xs.size - 1 - m]?) = (xs[·]?) ∘ fun k => xs.size - 1 - k := rfl
  rw [e2, ← List.filterMap_map, PySem.W.krv_range, List.filterMap_reverse, PySem.W.krv_all]
theorem back_places (n : Nat) : Builtin.Slice.slicePlaces ((n : Int) - 1) (-1) (-1) = n := by
  unfold Builtin.Slice.slicePlaces
  rw [if_neg (by decide)]
  split
  · rw [show (- -1 : Int) = 1 by decide, Int.ediv_one]; omega
  · omega
theorem back_applied {w : World} {P : Program} {A : Around} {E : Value → Shared → Prop} {s : Shared} {sl : Addr} {vk : Value} {n : Nat} {Q : Int × Int × Nat → Shared → Prop} (hs : s.heap.IsSliceOf sl .none .none vk) (pk : IsPart vk (some (-1)))
    (h : Q ((n : Int) - 1, -1, n) s) : wpAny (model P w) A (Builtin.Slice.sliceApplied (.ref sl) (pure (n : Int))) Q E s := by
  obtain ⟨ob, g1, g2, g3⟩ := id hs
  unfold Builtin.Slice.sliceApplied Builtin.Slice.sliceFields
  refine wpAny_bind (wpAny_bind (wpAny_field g1 g3 (x := .none) rfl (wpAny_bind (wpAny_field g1 g3 (x := .none) rfl (wpAny_bind (wpAny_field g1 g3 (x := vk) rfl (wpAny_pure ?_)))))))
  refine wpAny_bind (HT.slicePart_ pk ?_)
  show wpAny _ _ (if ((-1 : Int) == 0) = true then _ else _) _ _ s
  rw [if_neg (by decide)]
  refine wpAny_bind (slicePart_none (wpAny_bind (slicePart_none (wpAny_bind (wpAny_pure ?_)))))
  show wpAny _ _ (pure ((n : Int) - 1, (-1 : Int), Builtin.Slice.slicePlaces ((n : Int) - 1) (-1) (-1))) _ _ s
  rw [back_places]
  exact wpAny_pure h
theorem tuple_back {w : World} {P : Program} {A : Around} {E : Value → Shared → Prop} {s : Shared} {t sl : Addr} {items : Array Value} {vk : Value} {Q : Value → Shared → Prop} (ht : IsTup s.heap t items) (hs : s.heap.IsSliceOf sl .none .none vk) (pk : IsPart vk (some (-1)))
    (h : Q (.ref s.heap.objs.size) { s with heap := s.heap.push { cls := .type "tuple", data := .seq items.toList.reverse.toArray } })
    (hz : items.size ≤ sizeLine) : wpAny (model P w) A (getItem (.ref t) (.ref sl)) Q E s := by
  have fits : sizeOk (.seq items.toList.reverse.toArray) := by
    show items.toList.reverse.toArray.size ≤ sizeLine
    simpa using hz
  obtain ⟨ob, g1, g2, g3⟩ := id hs
  have isS : s.TypeIs (.ref sl) "slice" := ⟨ob, g1, g2⟩
  unfold getItem
  try with_reducible refine wpAny_holding ?_
  first | refine wpAny_bind (wpAny_pure ?_) | skip
  refine wpAny_bind (wpAny_sequenceKey ht.typeIs (by decide) ?_)
  refine wpAny_bind (wpAny_callSpecial?_slot (name := Str.ofString "__getitem__") ht.typeIs PyProof.Rows.slot_tuple_getitem (wpAny_call_entry PyProof.Rows.slot_tuple_getitem ht.typeIs entry_tuple_getitem ?_ (args_tuple_getitem _ _)))
  show wpAny _ _ (Builtin.Tuple.tupleItemsOf (.ref t) >>= _) _ _ s
  refine wpAny_bind (tupleItemsOf_ ht (wpAny_bind (wpAny_typeOf isS ?_)))
  rw [if_pos (by decide)]
  refine wpAny_bind (back_applied hs pk ?_)
  have no : ¬ ((((items.size : Nat) : Int) - 1 == 0 && (-1 : Int) == 1 && items.size == items.size) = true) := by simp
  show wpAny _ _ (if (((items.size : Nat) : Int) - 1 == 0 && (-1 : Int) == 1 && items.size == items.size) = true then _ else _) _ _ s
  rw [if_neg no, pick_back]
  first
    | exact wpAny_bind (m := Builtin.Tuple.tupleExact _) (wpAny_newObj_type (wpAny_pure ⟨_, rfl, wpAny_pure h⟩) fits)
    | exact wpAny_bind (m := Builtin.Tuple.tupleExact _) (wpAny_newObj_type (wpAny_bind (wpAny_pure (wpAny_pure ⟨_, rfl, wpAny_pure h⟩))) fits)
    | exact wpAny_bind (wpAny_bind (m := Builtin.Tuple.tupleExact _) (wpAny_newObj_type (wpAny_pure (wpAny_pure ⟨_, rfl, wpAny_pure h⟩)) fits))
    | exact wpAny_bind (wpAny_bind (m := Builtin.Tuple.tupleExact _) (wpAny_newObj_type (wpAny_pure ⟨_, rfl, wpAny_pure h⟩) fits))
/-- xs[::-1] of a list or a tuple -/
theorem pe_revA {e : Expr} {te : TE} {j : Nat} {p2 p3 p4 pos : Pos} (he : PE X e te) : PE X (.Subscript e (.Slice none none (some (.UnaryOp .USub (.Constant (.int 1) j p4) p3)) p2) pos)
    (fun σ H Q => te σ H fun x H1 => ∃ a xs, x = .ref a ∧ ((SqL X.K H1 a xs ∧ ∀ p, H1 p = none → Q (.ref p) (upd H1 p (.lst xs.reverse))) ∨ (SqT X.K H1 a xs ∧ ∀ p, H1 p = none → Q (.ref p) (upd H1 p (.tup xs.reverse))))) := by
  refine ⟨fun pins s σ H Q I h => ?_⟩
  refine Subscript_ (thn (he.run pins s σ H _ I h) fun v s1 ⟨x, H1, I1, r1, q1⟩ => ?_)
  obtain ⟨a, xs, rfl, q⟩ := q1
  cases r1
  refine wpAny_Slice ?_
  rw [evalPart_none]
  refine wpAny_pure (wpAny_pure ?_)
  refine thn ((po_some (pe_un un_neg (pe_int (j := j) (pos := p4)))).run pins s1 σ H1 (fun o H2 => o = some (-1) ∧ H2 = H1) I1 ⟨1, rfl, -1, rfl, rfl, rfl⟩) fun vk s3 ⟨o, H3, I3, pk, eo, eH⟩ => ?_
  subst eo eH
  have I4 : Inv X pins σ H3 { s3 with heap := s3.heap.push { cls := .type "slice", data := .fields #[.none, .none, vk] } } := I3.kept (t' := s3.toks) fun b ob q => Heap.get?_push_of_some _ q
  rcases q with ⟨hx, q⟩ | ⟨hx, q⟩
  · obtain ⟨its, r, ht, hz⟩ := I4.list hx
    have hlen := r.length
    refine tail_any (ops := [.ref a, .ref s3.heap.objs.size]) ht.isList.typeIs slot_list_getitem.lookup ?_ (by with_unfolding_all rfl)
    refine wpAny_getItem_list_slice ht.isList (Heap.IsSliceOf.new ..) .none .none pk (by decide) ?_ (by rw [List.size_toArray] <;> omega)
    rw [PySem.W.krv_pick]
    refine ⟨.ref _, _, I4.laid (t' := s3.toks) (o := .lst xs.reverse) (fun b ob q => Heap.get?_push_of_some _ q) (Nat.le_refl _) ?_, rfl, q _ (I4.hok.fresh (Nat.le_refl _))⟩
    refine ⟨by rw [List.length_reverse]; exact hz, _, 0, ?_, Heap.get?_push_size _ rfl⟩
    simpa using Vals.reverse r
  · obtain ⟨its, r, ht, hz⟩ := I4.tuple hx
    have hlen := r.length
    refine tail_any (ops := [.ref a, .ref s3.heap.objs.size]) ht.typeIs PyProof.Rows.slot_tuple_getitem.lookup ?_ (by with_unfolding_all rfl)
    refine tuple_back ht (Heap.IsSliceOf.new ..) pk ?_ (by rw [List.size_toArray] <;> omega)
    refine ⟨.ref _, _, I4.laid (t' := s3.toks) (o := .tup xs.reverse) (fun b ob q => Heap.get?_push_of_some _ q) (Nat.le_refl _) ?_, rfl, q _ (I4.hok.fresh (Nat.le_refl _))⟩
    refine ⟨by rw [List.length_reverse]; exact hz, its.reverse, Vals.reverse r, ?_⟩
    have := IsTup.new { s3 with heap := s3.heap.push { cls := .type "slice", data := .fields #[.none, .none, vk] } }.heap its.reverse.toArray
    simpa using this
/-- a list or a tuple back to front: a new one -/
theorem je_rev {e : Expr} {j : Nat} {p2 p3 p4 pos : Pos}
    (h : JE X en δ τ e (fun s1 δ1 m1 => ∃ d k, s1.rd δ1 = some d ∧ m1 = op (revD d) k ∧ ∀ d', C (.fr d') δ1 (k d')) m) :
    JE X en δ τ (.Subscript e (.Slice none none (some (.UnaryOp .USub (.Constant (.int 1) j p4) p3)) p2) pos) C m := .mk fun hb hx σ ts G H T hl hσ W k => by
  refine we_of (pe_revA pe_we) ?_
  have ht : τ.length = ts.length := W.splitLen (hl.trans hσ.symm)
  refine h.run hb hx σ ts G H _ hl hσ W fun s1 δ1 v1 G1 H1 c1 hl1 W1 => ?_
  obtain ⟨d, k', e1, em, hk⟩ := c1
  have hb' := hb
  rw [em] at hb'
  obtain ⟨d', ed⟩ := op_some hb'
  have em' : m = k' d' := by rw [em, ed]; rfl
  have hk2 := hk d'
  rw [← em'] at hk2
  obtain ⟨⟨_, _, ez, r1, _⟩, Wn⟩ := Wd.ends (sls := [s1]) (vs := [v1]) W1 (hl1.trans hσ.symm) ht (ds := [d]) (by simp only [rds, e1])
  cases ez
  cases d <;> first | cases ed | skip
  · obtain ⟨p, vs, ev, q1, s1'⟩ := r1
    exact ⟨p, vs, ev, .inl ⟨SqL.of q1, fz_out W1.sub (Reps.reverse s1') fun v G' H' gr out => k _ δ1 v G' H' hk2 hl1 ((Wn (by omega)).out gr out)⟩⟩
  · obtain ⟨p, vs, ev, q1, s1'⟩ := r1
    exact ⟨p, vs, ev, .inr ⟨q1, fzT_out W1.sub (Reps.reverse s1') fun v G' H' gr out => k _ δ1 v G' H' hk2 hl1 ((Wn (by omega)).out gr out)⟩⟩

/-! ### zip, enumerate -/
/-- what is walked beside another -/
theorem stb_at {sl : Slot} {S : L2.St} {G H : Hp} {v : V} {d : D} {ds : List D} (hs : sl.stb = some d) (q : SlotOk K en S G H sl (some v)) (e : asL d = some ds) (sf : Sub en.F0 H) (sg : Sub G H) :
    ∃ a vs, v = .ref a ∧ Reps K G ds vs ∧ (((∀ H', Sub en.F0 H' → Sub G H' → SqL K H' a vs) ∧ isTup d = false) ∨ ((∀ H', Sub en.F0 H' → Sub G H' → SqT K H' a vs) ∧ isTup d = true)) := by
  cases sl with
  | un => cases hs
  | mu _ => cases hs
  | mp _ _ => cases hs
  | bo _ => cases hs
  | fr d' =>
    cases hs
    obtain ⟨u, eu, r⟩ := q
    cases eu
    cases d <;> first | cases e | skip
    · obtain ⟨a, vs, e, q, r'⟩ := r
      exact ⟨a, vs, e, r', .inl ⟨fun H' _ s => SqL.sub s (SqL.of q), rfl⟩⟩
    · obtain ⟨a, vs, e, q, r'⟩ := r
      exact ⟨a, vs, e, r', .inr ⟨fun H' _ s => SqT.sub s q, rfl⟩⟩
    · obtain ⟨a, e, q⟩ := r
      exact ⟨a, _, e, ints_reps _, .inl ⟨fun H' _ s => SqL.sub s q, rfl⟩⟩
  | bw d' =>
    cases hs
    obtain ⟨u, eu, ⟨M, hM, r⟩, _⟩ := q
    cases eu
    cases d <;> first | cases e | skip
    · obtain ⟨a, vs, e, q, r'⟩ := r
      exact ⟨a, vs, e, r', .inl ⟨fun H' s s2 => SqL.sub (hM.sub s s2) (SqL.of q), rfl⟩⟩
    · obtain ⟨a, vs, e, q, r'⟩ := r
      exact ⟨a, vs, e, r', .inr ⟨fun H' s s2 => SqT.sub (hM.sub s s2) q, rfl⟩⟩
    · obtain ⟨a, e, q⟩ := r
      exact ⟨a, _, e, ints_reps _, .inl ⟨fun H' s s2 => SqL.sub (hM.sub s s2) q, rfl⟩⟩
def pairs : List D → List D → List D
  | x :: xs, y :: ys => .tup [x, y] :: pairs xs ys
  | _, _ => []
theorem pairs_get : ∀ {xs ys : List D} {i : Nat} {d : D}, (pairs xs ys)[i]? = some d → ∃ x y, xs[i]? = some x ∧ ys[i]? = some y ∧ d = .tup [x, y]
  | [], _, _, _, e => by simp [pairs] at e
  | _ :: _, [], _, _, e => by simp [pairs] at e
  | x :: xs, y :: ys, 0, d, e => ⟨x, y, rfl, rfl, by simpa [pairs] using e.symm⟩
  | x :: xs, y :: ys, i + 1, d, e => by
    obtain ⟨a, b, h1, h2, h3⟩ := pairs_get (xs := xs) (ys := ys) (i := i) (by simpa [pairs] using e)
    exact ⟨a, b, by simpa using h1, by simpa using h2, h3⟩
theorem pairs_len : ∀ {xs ys : List D}, (pairs xs ys).length = min xs.length ys.length
  | [], ys => by simp [pairs]
  | _ :: _, [] => by simp [pairs]
  | x :: xs, y :: ys => by simp [pairs, pairs_len (xs := xs) (ys := ys)]
/-- the items of zip(..) -/
def zipD (a b : D) : Option (List D) := match asL a, asL b with
  | some xs, some ys => if isTup a = isTup b then some (pairs xs ys) else none
  | _, _ => none
theorem grow_tup {G H : Hp} {T : Addr} {xs : List D} {vs : List V} (gh : Sub G H) (hT : H T = none) (r : Reps K G xs vs) : ∃ G', Grow G H G' (upd H T (.tup vs)) ∧ Rep K G' (.tup xs) (.ref T) := by
  have gT : G T = none := by
    cases z : G T with
    | none => rfl
    | some o => rw [gh T o z] at hT; cases hT
  refine ⟨upd G T (.tup vs), ⟨Sub.upd gT, Sub.upd hT, ?_, ?_⟩, T, vs, rfl, .inl (.inl upd_same), Reps.sub (Sub.upd gT) _ _ r⟩
  · intro b o e
    by_cases hb : b = T
    · subst hb; rw [upd_same] at e ⊢; exact e
    · rw [upd_ne hb] at e ⊢; exact gh b o e
  · intro b o e
    by_cases hb : b = T
    · subst hb; exact .inr hT
    · rw [upd_ne hb] at e; exact .inl e
/-- the items of enumerate(..) of a list -/
def enumF : Nat → List D → List D
  | _, [] => []
  | n, d :: ds => .tup [.int n, d] :: enumF (n + 1) ds
theorem enumF_get : ∀ {xs : List D} {n i : Nat} {d : D}, (enumF n xs)[i]? = some d → ∃ x, xs[i]? = some x ∧ d = .tup [.int (n + i : Nat), x]
  | [], _, _, _, e => by simp [enumF] at e
  | x :: xs, n, 0, d, e => ⟨x, rfl, by simpa [enumF] using e.symm⟩
  | x :: xs, n, i + 1, d, e => by
    obtain ⟨a, h1, h3⟩ := enumF_get (xs := xs) (n := n + 1) (i := i) (by simpa [enumF] using e)
    exact ⟨a, by simpa using h1, by rw [h3, show n + 1 + i = n + (i + 1) by omega]⟩
theorem enumF_len : ∀ {xs : List D} {n : Nat}, (enumF n xs).length = xs.length
  | [], _ => rfl
  | x :: xs, n => by simp [enumF, enumF_len (xs := xs)]
def enumD (a : D) : Option (List D) := match a with
  | .tup _ => none
  | d => (asL d).map (enumF 0)
theorem ite_D {a : Addr} {us : List V} {xs : List D} {Gb Fb : Hp} (ha : ∀ H, Sub Fb H → Sub Gb H → SqL K H a us) (ra : Reps K Gb xs us) : ItD K (Ite K a) Gb Fb (enumF 0 xs) := fun G H sg sf gh i => by
  have qa := ha H sf (sg.trans gh)
  refine ⟨fun d e => ?_, fun hi => ⟨us, qa, ?_⟩⟩
  · obtain ⟨x, h1, rfl⟩ := enumF_get e
    obtain ⟨u, h3, h4⟩ := ra.get h1
    refine ⟨⟨us, u, qa, h3⟩, fun z H' hz => ?_⟩
    obtain ⟨T, p, rfl, hT, rfl, f1⟩ := hz
    have e1 := f1 us qa
    rw [h3] at e1; cases e1
    exact grow_tup gh hT ⟨_, _, rfl, by rw [Nat.zero_add]; rfl, _, _, rfl, Rep.sub sg _ _ h4, rfl⟩
  · rw [enumF_len] at hi
    rw [← ra.length]; omega
theorem ji_enum {elts : List Expr} {kk : Nat} {e : Expr} {p pos tpos : Pos} {C : List D → List Slot → Res R → Prop} (hm : X.mg "enumerate" = none)
    (h : JE X en δ τ e (fun s1 δ1 m1 => ∃ d1 k, s1.stb = some d1 ∧ m1 = op (enumD d1) k ∧ ∀ ds, C ds δ1 (k ds)) m) (hg : Gl X "enumerate" := by rfl)
    (hs : starEach [e] X.env = [(false, eval e X.env)] := by exact star_plain rfl) : JI X en δ τ (.Tuple elts kk tpos) (.Call (.Name "enumerate" p) [e] [] pos) C m := .mk fun hb hx σ ts G H T hl hσ W k => by
  refine wi_of (pi_enum hg hm (pa_cons pe_we pa_nil (by rw [hs]; rfl)) hs) ?_
  have ht : τ.length = ts.length := W.splitLen (hl.trans hσ.symm)
  refine h.run hb hx σ ts G H _ hl hσ W fun s1 δ1 v1 G1 H1 c1 hl1 W1 => ?_
  obtain ⟨d1, k', e1, em, hk⟩ := c1
  have hb' := hb
  rw [em] at hb'
  obtain ⟨ds, ed⟩ := op_some hb'
  have em' : m = k' ds := by rw [em, ed]; rfl
  have hk2 := hk ds
  rw [← em'] at hk2
  have q1 := W1.last
  have W2 := W1.cut (Δ := δ1 ++ τ) (S := σ ++ ts) (by rw [List.length_append, List.length_append]; omega) (by rw [List.length_append]; omega)
  have ed2 : isTup d1 = false ∧ (asL d1).map (enumF 0) = some ds := by
    cases d1 <;> first | exact ⟨rfl, ed⟩ | cases ed
  obtain ⟨xs, a1, rfl⟩ := Option.map_eq_some_iff.mp ed2.2
  obtain ⟨a, us, rfl, ra, ha⟩ := stb_at e1 q1 a1 W2.frm W2.sub
  rcases ha with ⟨ha, t1⟩ | ⟨ha, t1⟩
  · exact ⟨a, us, rfl, ha _ W2.frm W2.sub, k _ δ1 _ G1 H1 hk2 hl1 W2 (ite_D ha ra)⟩
  · rw [ed2.1] at t1; cases t1

/-! ### the greatest and the least of a list, a list sorted -/
def max1D : List D → Option D
  | [.lst ds] => (intsD ds).bind fun ns => match ns with
    | [] => none
    | n :: r => some (.int (r.foldl max n))
  | _ => none
def min1D : List D → Option D
  | [.lst ds] => (intsD ds).bind fun ns => match ns with
    | [] => none
    | n :: r => some (.int (r.foldl min n))
  | _ => none
theorem foldl_max : ∀ (r : List Int) (n : Int), r.foldl max n ∈ n :: r ∧ ∀ y, y ∈ n :: r → y ≤ r.foldl max n
  | [], n => ⟨by simp, fun y h => by simp at h; subst h; exact Int.le_refl _⟩
  | a :: r, n => by
    obtain ⟨h1, h2⟩ := foldl_max r (max n a)
    have h3 := h2 _ List.mem_cons_self
    refine ⟨?_, fun y hy => ?_⟩
    · rw [List.foldl_cons]
      rcases List.mem_cons.mp h1 with e | e
      · rw [e]
        by_cases h : n ≤ a
        · rw [Int.max_eq_right h]; simp
        · rw [Int.max_eq_left (by omega)]; simp
      · exact List.mem_cons_of_mem _ (List.mem_cons_of_mem _ e)
    · rw [List.foldl_cons]
      rcases List.mem_cons.mp hy with e | e
      · omega
      · rcases List.mem_cons.mp e with e | e
        · omega
        · exact h2 y (List.mem_cons_of_mem _ e)
theorem c_max1 (hc : X.calm = true) : CallD X (.builtin "max") max1D .fr := callD_of (cr_max hc) fun ds d e G H vs Q sb r k => by
  match ds, e, r with
  | [.lst ds], e, r =>
    obtain ⟨ns, h1, h2⟩ := Option.bind_eq_some_iff.mp (show (intsD ds).bind _ = some d from e)
    obtain ⟨v, ev, p, us, q, h, r2⟩ := VReps.one r
    subst ev q
    match ns, h2 with
    | n :: ns, h2 =>
      cases h2
      refine ⟨p, n :: ns, rfl, by rw [← intsD_v h1 r2]; exact SqL.of h, Nat.succ_pos _, fun m hm hy => ?_⟩
      obtain ⟨f1, f2⟩ := foldl_max ns n
      have e1 := f2 m hm
      have e2 := hy _ f1
      have e3 : m = ns.foldl max n := by omega
      subst e3
      exact sc_out (d := .int (ns.foldl max n)) sb rfl k
/-- sorted -/
def srtI (ns : List Int) : List Int := ns.mergeSort fun a b => decide (a ≤ b)
theorem srtI_perm (ns : List Int) : (srtI ns).Perm ns := List.mergeSort_perm ns _
theorem srtI_ord (ns : List Int) : (srtI ns).Pairwise (· ≤ ·) := by
  have := List.pairwise_mergeSort (le := fun a b : Int => decide (a ≤ b)) (by intro a b c; simp; omega) (by intro a b; simp; omega) ns
  exact this.imp fun h => by simpa using h
theorem srtI_eq {ns ms : List Int} (p : ms.Perm ns) (o : ms.Pairwise (· ≤ ·)) : ms = srtI ns :=
  List.Perm.eq_of_pairwise (le := (· ≤ ·)) (fun a b _ _ h1 h2 => Int.le_antisymm h1 h2) o (srtI_ord ns) (p.trans (srtI_perm ns).symm)
def sortT : List D → Option (List D)
  | [.lst ds] => (intsD ds).map fun ns => (srtI ns).map D.int
  | _ => none
/-! ### targets, names given side by side -/
theorem jgs_name (i : Nat) {x : Str} {pos : Pos} {d : D} (δ' : List Slot) {es : List Expr} {ds : List D} {js : List Nat} (hN : X.N.Nodup) (h : JGs X en δ' τ es ds js N m) (he : δ.set i (.fr d) = δ' := by rfl) (hb : noBo (δ ++ τ) = true := by rfl) (hi : X.N[i]? = some x := by rfl) (hil : (i + 1).ble δ.length = true := by rfl) (hx : Loc X.env.scope x := by first | exact Or.inl rfl | exact Or.inr rfl)
    (hf : X.fn x = true ∨ X.env.scope.names.lookup x = some .local := by first | exact .inl rfl | exact .inr rfl)
    (hs : (assignEach (.Name x pos :: es) X.env).map (·.2) = assign (.Name x pos) X.env :: (assignEach es X.env).map (·.2) := by rfl) : JGs X en δ τ (.Name x pos :: es) (d :: ds) (i :: js) N m :=
  jgs_cons (is := [i]) (jg_name i δ' hN h he hb hi hil hx hf) hs
/-! ### cuts of lists and tuples -/
def cutA (d : D) (lo hi : Option Int) : Option D := match d with
  | .lst ds => some (.lst (cutD ds lo hi))
  | .tup ds => some (.tup (cutD ds lo hi))
  | .scr ns => some (.lst (cutD (ns.map D.int) lo hi))
  | _ => none
theorem reps_scr {K : PySem.W.Frag} {G : Hp} : ∀ {ns : List Int}, Reps K G (ns.map D.int) (ns.map V.int)
  | [] => rfl
  | n :: r => ⟨.int n, _, rfl, rfl, reps_scr⟩
theorem cut_whole {ds : List D} {lo hi : Option Int} (h : HT.sIx ds.length 0 lo = 0 ∧ HT.sIx ds.length ds.length hi = ds.length) : cutD ds lo hi = ds := by
  unfold cutD
  rw [h.1, h.2]
  simp
/-- xs[lo:hi] of a list or a tuple that isn't this def's own -/
theorem je_cutA {e : Expr} {lo hi : Option Expr} {p2 pos : Pos}
    (h : JE X en δ τ e (fun s1 δ1 m1 => JO X en δ1 (τ ++ [s1]) lo (fun l δ2 m2 => JO X en δ2 (τ ++ [s1]) hi (fun u δ3 m3 => ∃ d k, s1.stb = some d ∧ m3 = op (cutA d l u) k ∧ ∀ d', C (.fr d') δ3 (k d')) m2) m1) m) :
    JE X en δ τ (.Subscript e (.Slice lo hi none p2) pos) C m := .mk fun hb hx σ ts G H T hl hσ W k => by
  refine we_of (pe_slice (sl_list.or sl_tupA) pe_we po_wo po_wo) ?_
  have ht : τ.length = ts.length := W.splitLen (hl.trans hσ.symm)
  refine h.run hb hx σ ts G H _ hl hσ W fun s1 δ1 v1 G1 H1 c1 hl1 W1 => ?_
  rw [List.append_assoc, List.append_assoc] at W1
  refine c1.run hb hx σ (ts ++ [some v1]) G1 H1 _ hl1 hσ W1 fun l δ2 G2 H2 c2 hl2 W2 => ?_
  refine c2.run hb hx σ (ts ++ [some v1]) G2 H2 _ hl2 hσ W2 fun u δ3 G3 H3 c3 hl3 W3 => ?_
  obtain ⟨d, k', es, em, hk⟩ := c3
  have hb' := hb
  rw [em] at hb'
  obtain ⟨d', ed⟩ := op_some hb'
  have em' : m = k' d' := by rw [em, ed]; rfl
  have hk2 := hk d'
  rw [← em'] at hk2
  have W4 : Wd X.K en (δ3 ++ τ ++ [s1]) (σ ++ ts ++ [some v1]) G3 H3 := by
    rw [List.append_assoc, List.append_assoc]; exact W3
  have key : VRep X.K G3 H3 d v1 ∧ (tupD d = true → Rep X.K G3 d v1) := by
    have q := W4.last
    cases s1 with
    | un => cases es
    | mu _ => cases es
    | mp _ _ => cases es
    | bo _ => cases es
    | fr d' =>
      cases es
      obtain ⟨u, eu, r⟩ := q
      cases eu
      exact ⟨VRep.of W3.sub r, fun _ => r⟩
    | bw d' =>
      cases es
      obtain ⟨u, eu, r⟩ := q
      cases eu
      exact ⟨BRep.vv W3.sub W3.frm r, r.2⟩
  have W5 := W4.cut (Δ := δ3 ++ τ) (S := σ ++ ts) (by rw [List.length_append, List.length_append]; omega) (by rw [List.length_append]; omega)
  obtain ⟨r1, r2⟩ := key
  cases d <;> first | cases ed | skip
  · obtain ⟨p, vs, ev, q1, s1'⟩ := r1
    exact .inl ⟨p, vs, ev, SqL.of q1, fz_out W3.sub (cutV_reps s1' l u) fun v G' H' gr out => k _ δ3 v G' H' hk2 hl3 (W5.out gr out)⟩
  · rename_i ds
    obtain ⟨p, vs, ev, q1, s1'⟩ := r2 rfl
    refine .inr ⟨p, vs, ev, SqT.sub W3.sub q1, fun hw => ?_, fun _ => fzT_out W3.sub (cutV_reps s1' l u) fun v G' H' gr out => k _ δ3 v G' H' hk2 hl3 (W5.out gr out)⟩
    have e2 := cut_whole (ds := ds) (lo := l) (hi := u) (by rw [s1'.length]; exact hw)
    rw [e2] at hk2
    subst ev
    exact k _ δ3 _ G3 H3 hk2 hl3 (W5.out (Grow.refl W3.sub) ⟨p, vs, rfl, q1, s1'⟩)
  · rename_i ns
    obtain ⟨p, ev, q1⟩ := r1
    exact .inl ⟨p, _, ev, q1, fz_out W3.sub (cutV_reps (reps_scr (ns := ns)) l u) fun v G' H' gr out => k _ δ3 v G' H' hk2 hl3 (W5.out gr out)⟩
end
end BR

/-! K20: methods that only read -/
namespace BR
open PySem PySem.Spec PyProof.Rows L2

section
variable {X : Cx} {en : Kn} {δ τ : List Slot} {R : Type} {C : Slot → List Slot → Res R → Prop} {m : Res R} {K : PySem.W.Frag}
/-- the kinds of things whose methods are asked -/
def tyM : D → String → Bool
  | .lst _, T => T == "list"
  | .str _, T => T == "str"
  | .dic _, T => T == "dict"
  | _, _ => false
def tyG (T : String) (d : D) : Option Unit := if tyM d T = true then some () else none
/-! ### how often -/
def eqb (k : Bool) (v : Value) : Bool := match v with
  | .bool n => n == k
  | _ => false
def countD : List D → Option D
  | [.lst ds, .bl k] => (bls ds).map fun bs => .int (bs.count k : Nat)
  | [.lst ds, .int k] => (intsD ds).map fun ns => .int (ns.count k : Nat)
  | _ => none
theorem MtR.or {id : String} {r r' : V → List V → Hp → VK → Prop} (h : MtR X id r) (h' : MtR X id r') : MtR X id (fun x xs H Q => r x xs H Q ∨ r' x xs H Q) := fun pins s σ H x xs v us Q I r1 r2 q => by
  rcases q with q | q
  · exact h pins s σ H x xs v us Q I r1 r2 q
  · exact h' pins s σ H x xs v us Q I r1 r2 q
end
end BR

set_option maxHeartbeats 1000000
/-! K21: zip of a tuple and a list, either way -/
namespace BR
open PySem PySem.Spec PyProof.Rows L2

/-- an iterator of a tuple (true) or a list -/
def Cur (t : Bool) (h : Heap) (it l : Addr) (i : Nat) : Prop := match t with
  | true => h.IsTupleIter it l i
  | false => h.IsListIter it l i
def Src (t : Bool) (h : Heap) (l : Addr) (xs : Array Value) : Prop := match t with
  | true => h.IsTuple l xs
  | false => h.IsList l xs
section
variable {t t2 : Bool} {h h' : Heap} {a b l : Addr} {i : Nat} {xs : Array Value}
theorem Cur.but (x : Cur t h a l i) (hs : Heap.ExtBut b h h') (n : a ≠ b) : Cur t h' a l i := by
  cases t
  · exact Heap.IsListIter.extBut x hs n
  · exact Heap.IsTupleIter.extBut x hs n
theorem Cur.on (x : Cur t h a l i) (e : ∀ o, h.get? a = some o → h'.get? a = some o) : Cur t h' a l i := by
  cases t
  · exact Heap.IsListIter.at x e
  · exact Heap.IsTupleIter.at x e
theorem Cur.ob (x : Cur t h a l i) : ∃ o, h.get? a = some o ∧ ∀ v, o.data ≠ .cell v := by
  cases t
  · obtain ⟨o, e, _, d⟩ := x; exact ⟨o, e, fun v q => by rw [d] at q; cases q⟩
  · obtain ⟨o, e, _, d⟩ := x; exact ⟨o, e, fun v q => by rw [d] at q; cases q⟩
theorem Cur.lt (x : Cur t h a l i) : a < h.objs.size := by
  obtain ⟨o, e, _⟩ := x.ob; exact Heap.lt_size e
theorem Src.but (x : Src t h a xs) (hs : Heap.ExtBut b h h') (n : a ≠ b) : Src t h' a xs := by
  cases t
  · exact Heap.IsList.extBut x hs n
  · exact Heap.IsTuple.extBut x hs n
theorem Src.lt (x : Src t h a xs) : a < h.objs.size := by
  cases t
  · obtain ⟨o, e, _⟩ := x; exact Heap.lt_size e
  · obtain ⟨o, e, _⟩ := x; exact Heap.lt_size e
end
section
variable {prog : Program} {w : World} {A : Around} {E : Value → Shared → Prop} {s : Shared} {t t2 : Bool}
theorem cur_next {it l : Addr} {i : Nat} {xs : Array Value} {x : Value} {Q : Value → Shared → Prop} (hit : Cur t s.heap it l i) (hl : Src t s.heap l xs) (hx : xs[i]? = some x)
    (hQ : ∀ h', Cur t h' it l (i + 1) → Heap.SameBut it s.heap h' → Q x { s with heap := h' }) : wpAny (model prog w) A (Builtin.SmallTypes.nextOf (.ref it)) Q E s := by
  cases t
  · exact wpAny_nextOf_list_item hit hl hx hQ
  · exact RZ.nextOf_tuple_item hit hl hx hQ
theorem cur_stop {it l : Addr} {i : Nat} {xs : Array Value} {Q : Value → Shared → Prop} (hh : A.handled = none) (hit : Cur t s.heap it l i) (hl : Src t s.heap l xs) (hx : xs[i]? = none)
    (hE : ∀ h' e, Heap.ExtBut it s.heap h' → (∃ o, h'.get? e = some o ∧ o.cls = .type "StopIteration") → E (.ref e) { s with heap := h' }) : wpAny (model prog w) A (Builtin.SmallTypes.nextOf (.ref it)) Q E s := by
  cases t
  · exact wpAny_nextOf_list_end hh hit hl hx hE
  · exact RZ.nextOf_tuple_end hh hit hl hx hE
/-- all but four addresses as they were -/
abbrev But4 (z b c d : Addr) (h h' : Heap) : Prop := ∀ e o, e ≠ z → e ≠ b → e ≠ c → e ≠ d → h.get? e = some o → h'.get? e = some o
theorem zip_turn {z TI TO i1 i2 l1 l2 : Addr} {k : Nat} {xs ys : Array Value} {x y a b : Value} {Q : Value → Shared → Prop} (D : ZipApart z TI TO i1 i2 l1 l2)
    (hz : IsZip s.heap z TI TO .none) (hTI : IsPair s.heap TI (.ref i1) (.ref i2)) (hTO : IsPair s.heap TO a b)
    (c1 : Cur t s.heap i1 l1 k) (c2 : Cur t2 s.heap i2 l2 k) (r1 : Src t s.heap l1 xs) (r2 : Src t2 s.heap l2 ys) (hx : xs[k]? = some x) (hy : ys[k]? = some y)
    (hQ : ∀ h', IsZip h' z TI TO (rawInt s.heap.objs.size) → IsPair h' TO x y → Cur t h' i1 l1 (k + 1) → Cur t2 h' i2 l2 (k + 1) → IsPair h' s.heap.objs.size x y → h'.objs.size = s.heap.objs.size + 1 → But4 z TO i1 i2 s.heap h' → Q (.ref s.heap.objs.size) { s with heap := h' }) :
    wpAny (model prog w) A (Builtin.«zip.__next__» ⟨[.ref z], []⟩) (fun fin s' => ∃ v, fin = .done (.ret v) ∧ Q v s') E s := by
  show wpAny _ _ (field (.ref z) 2 >>= _) _ _ _
  refine wpAny_bind (wpAny_field hz rfl (x := .bool false) rfl ?_)
  show wpAny _ _ (field (.ref z) 3 >>= _) _ _ _
  refine wpAny_bind (wpAny_field hz rfl (x := .ref TI) rfl (wpAny_bind (wpAny_seqItems hTI rfl ?_)))
  show wpAny _ _ (Builtin.SmallTypes.ownedTupleIsFree (.ref z) >>= _) _ _ _
  refine wpAny_bind ?_
  unfold Builtin.SmallTypes.ownedTupleIsFree
  refine wpAny_bind (wpAny_field hz rfl (x := .none) rfl (wpAny_pure ?_))
  simp only [if_true]
  refine wpAny_bind (wpAny_rule (wpAny_bind (wpAny_field hz rfl (x := .ref TO) rfl (wpAny_bind (wpAny_setField_rec hz (by simp) fun ha za sa => ?_)))))
  replace za : IsZip ha z TI TO .ellipsis := za
  refine wpAny_bind ?_
  simp only [List.zipIdx_cons, List.zipIdx_nil, List.forIn_cons, List.forIn_nil]
  refine wpAny_bind (wpAny_bind (wpAny_onRaise ?_))
  show wpAny _ _ (Builtin.SmallTypes.nextOf (.ref i1) >>= _) _ _ _
  refine wpAny_bind (cur_next (c1.but sa.extBut D.i1z) (r1.but sa.extBut D.l1z) hx fun hb cb sb => wpAny_pure ?_)
  have ob : IsPair hb TO a b := sb.extBut _ _ D.TOi1 (sa.extBut _ _ D.TOz hTO)
  refine wpAny_bind (wpAny_seqItems ob rfl (wpAny_bind (wpAny_updateSeq_pair ob fun hc oc sc => ?_)))
  replace oc : IsPair hc TO x b := oc
  refine wpAny_bind (wpAny_letGo (wpAny_pure (wpAny_bind (wpAny_bind (wpAny_onRaise ?_)))))
  show wpAny _ _ (Builtin.SmallTypes.nextOf (.ref i2) >>= _) _ _ _
  refine wpAny_bind (cur_next (((c2.but sa.extBut D.i2z).but sb.extBut D.i12.symm).but sc.extBut D.TOi2.symm) (((r2.but sa.extBut D.l2z).but sb.extBut D.l2i1).but sc.extBut D.l2TO) hy fun hd cd sd => wpAny_pure ?_)
  have od : IsPair hd TO x b := sd.extBut _ _ D.TOi2 oc
  refine wpAny_bind (wpAny_seqItems od rfl (wpAny_bind (wpAny_updateSeq_pair od fun he oe se => ?_)))
  replace oe : IsPair he TO x y := oe
  refine wpAny_bind (wpAny_letGo (wpAny_pure (wpAny_pure (wpAny_bind (wpAny_seqItems oe rfl (wpAny_bind (wpAny_newTuple ?_)))))))
  have sz : he.objs.size = s.heap.objs.size := by rw [se.1, sd.1, sc.1, sb.1, sa.1]
  have ze : IsZip he z TI TO .ellipsis := se.extBut _ _ D.TOz.symm (sd.extBut _ _ D.i2z.symm (sc.extBut _ _ D.TOz.symm (sb.extBut _ _ D.i1z.symm za)))
  have ke : But4 z TO i1 i2 s.heap he := fun c o q1 q2 q3 q4 e => se.extBut _ _ q2 (sd.extBut _ _ q4 (sc.extBut _ _ q2 (sb.extBut _ _ q3 (sa.extBut _ _ q1 e))))
  have e1 : Cur t he i1 l1 (k + 1) := ((cb.but sc.extBut D.TOi1.symm).but sd.extBut D.i12).but se.extBut D.TOi1.symm
  have e2 : Cur t2 he i2 l2 (k + 1) := cd.but se.extBut D.TOi2.symm
  have zl : z < he.objs.size := Heap.lt_size ze
  show wpAny _ _ (Builtin.SmallTypes.ownedTupleHandOut (.ref z) (.ref he.objs.size) >>= _) _ _ _
  refine wpAny_bind ?_
  unfold Builtin.SmallTypes.ownedTupleHandOut
  have zf : IsZip (he.push { cls := .type "tuple", data := .seq #[x, y] }) z TI TO .ellipsis := Heap.get?_push_of_some _ ze
  refine wpAny_bind (wpAny_setField_rec zf (by simp) fun hg zg sg => ?_)
  replace zg : IsZip hg z TI TO (rawInt he.objs.size) := zg
  refine wpAny_setField_rec zg (by simp) fun hk zk sk => ?_
  replace zk : IsZip hk z TI TO (rawInt he.objs.size) := zk
  have up : ∀ c o, c ≠ z → he.get? c = some o → hk.get? c = some o := fun c o q e => sk.extBut _ _ q (sg.extBut _ _ q (Heap.get?_push_of_some _ e))
  have tk : IsPair hk he.objs.size x y := sk.extBut _ _ (Nat.ne_of_gt zl) (sg.extBut _ _ (Nat.ne_of_gt zl) (Heap.get?_push_size _ rfl))
  have nk : hk.objs.size = he.objs.size + 1 := by rw [sk.1, sg.1, Heap.size_push]
  rw [sz] at zk tk nk
  refine wpAny_pure ⟨_, rfl, ?_⟩
  show Q (.ref he.objs.size) _
  rw [sz]
  exact hQ hk zk (up _ _ D.TOz oe) (e1.on fun o e => up _ o D.i1z e) (e2.on fun o e => up _ o D.i2z e) tk nk fun c o q1 q2 q3 q4 e => up c o q1 (ke c o q1 q2 q3 q4 e)
theorem zip_over {z TI TO i1 i2 l1 l2 : Addr} {k : Nat} {xs ys : Array Value} {a b : Value} {Q : Fin → Shared → Prop} (hh : A.handled = none) (D : ZipApart z TI TO i1 i2 l1 l2)
    (hz : IsZip s.heap z TI TO .none) (hTI : IsPair s.heap TI (.ref i1) (.ref i2)) (hTO : IsPair s.heap TO a b)
    (c1 : Cur t s.heap i1 l1 k) (c2 : Cur t2 s.heap i2 l2 k) (r1 : Src t s.heap l1 xs) (r2 : Src t2 s.heap l2 ys) (hend : xs[k]? = none ∨ ys[k]? = none)
    (hE : ∀ h' e, But4 z TO i1 i2 s.heap h' → (∃ o, h'.get? e = some o ∧ o.cls = .type "StopIteration") → E (.ref e) { s with heap := h' }) :
    wpAny (model prog w) A (Builtin.«zip.__next__» ⟨[.ref z], []⟩) Q E s := by
  show wpAny _ _ (field (.ref z) 2 >>= _) _ _ _
  refine wpAny_bind (wpAny_field hz rfl (x := .bool false) rfl ?_)
  show wpAny _ _ (field (.ref z) 3 >>= _) _ _ _
  refine wpAny_bind (wpAny_field hz rfl (x := .ref TI) rfl (wpAny_bind (wpAny_seqItems hTI rfl ?_)))
  show wpAny _ _ (Builtin.SmallTypes.ownedTupleIsFree (.ref z) >>= _) _ _ _
  refine wpAny_bind ?_
  unfold Builtin.SmallTypes.ownedTupleIsFree
  refine wpAny_bind (wpAny_field hz rfl (x := .none) rfl (wpAny_pure ?_))
  simp only [if_true]
  refine wpAny_bind (wpAny_rule (wpAny_bind (wpAny_field hz rfl (x := .ref TO) rfl (wpAny_bind (wpAny_setField_rec hz (by simp) fun ha za sa => ?_)))))
  replace za : IsZip ha z TI TO .ellipsis := za
  refine wpAny_bind ?_
  simp only [List.zipIdx_cons, List.zipIdx_nil, List.forIn_cons, List.forIn_nil]
  refine wpAny_bind (wpAny_bind (wpAny_onRaise ?_))
  show wpAny _ _ (Builtin.SmallTypes.nextOf (.ref i1) >>= _) _ _ _
  cases hx : xs[k]? with
  | none =>
    refine wpAny_bind (cur_stop hh (c1.but sa.extBut D.i1z) (r1.but sa.extBut D.l1z) hx fun hb e kb he => ?_)
    obtain ⟨oe, g1, g2⟩ := he
    have zb : IsZip hb z TI TO .ellipsis := kb _ _ D.i1z.symm za
    have ne : e ≠ z := fun q => by subst q; rw [zb] at g1; cases g1; simp at g2
    refine wpAny_setField_rec zb (by simp) fun hc _ sc => hE hc e (fun c o q1 q2 q3 _ q => sc.extBut _ _ q1 (kb _ _ q3 (sa.extBut _ _ q1 q))) ⟨oe, sc.extBut _ _ ne g1, g2⟩
  | some x =>
    have hy : ys[k]? = none := by
      rcases hend with q | q
      · rw [hx] at q; cases q
      · exact q
    refine wpAny_bind (cur_next (c1.but sa.extBut D.i1z) (r1.but sa.extBut D.l1z) hx fun hb cb sb => wpAny_pure ?_)
    have ob : IsPair hb TO a b := sb.extBut _ _ D.TOi1 (sa.extBut _ _ D.TOz hTO)
    refine wpAny_bind (wpAny_seqItems ob rfl (wpAny_bind (wpAny_updateSeq_pair ob fun hc oc sc => ?_)))
    refine wpAny_bind (wpAny_letGo (wpAny_pure (wpAny_bind (wpAny_bind (wpAny_onRaise ?_)))))
    show wpAny _ _ (Builtin.SmallTypes.nextOf (.ref i2) >>= _) _ _ _
    refine wpAny_bind (cur_stop hh (((c2.but sa.extBut D.i2z).but sb.extBut D.i12.symm).but sc.extBut D.TOi2.symm) (((r2.but sa.extBut D.l2z).but sb.extBut D.l2i1).but sc.extBut D.l2TO) hy fun hd e kd he => ?_)
    obtain ⟨oe, g1, g2⟩ := he
    have zd : IsZip hd z TI TO .ellipsis := kd _ _ D.i2z.symm (sc.extBut _ _ D.TOz.symm (sb.extBut _ _ D.i1z.symm za))
    have ne : e ≠ z := fun q => by subst q; rw [zd] at g1; cases g1; simp at g2
    refine wpAny_setField_rec zd (by simp) fun he' _ se => hE he' e (fun c o q1 q2 q3 q4 q => se.extBut _ _ q1 (kd _ _ q4 (sc.extBut _ _ q2 (sb.extBut _ _ q3 (sa.extBut _ _ q1 q))))) ⟨oe, se.extBut _ _ ne g1, g2⟩
theorem zip_nx {z TI TO i1 i2 l1 l2 : Addr} {k : Nat} {xs ys : Array Value} {x y a b : Value} {Q : Option Value → Shared → Prop} (D : ZipApart z TI TO i1 i2 l1 l2)
    (hz : IsZip s.heap z TI TO .none) (hTI : IsPair s.heap TI (.ref i1) (.ref i2)) (hTO : IsPair s.heap TO a b)
    (c1 : Cur t s.heap i1 l1 k) (c2 : Cur t2 s.heap i2 l2 k) (r1 : Src t s.heap l1 xs) (r2 : Src t2 s.heap l2 ys) (hx : xs[k]? = some x) (hy : ys[k]? = some y)
    (hQ : ∀ h', IsZip h' z TI TO (rawInt s.heap.objs.size) → IsPair h' TO x y → Cur t h' i1 l1 (k + 1) → Cur t2 h' i2 l2 (k + 1) → IsPair h' s.heap.objs.size x y → h'.objs.size = s.heap.objs.size + 1 → But4 z TO i1 i2 s.heap h' → Q (some (.ref s.heap.objs.size)) { s with heap := h' }) :
    wpAny (model prog w) A (pyNext (.ref z)) Q E s := by
  have hT : s.TypeIs (.ref z) "zip" := ⟨_, hz, rfl⟩
  unfold pyNext
  exact wpAny_bind (wpAny_attempt (wpAny_callSpecial?_slot (name := Str.ofString "__next__") hT PySem.F.slot_zip_next (wpAny_call_entry PySem.F.slot_zip_next hT PySem.F.entry_zip_next (zip_turn D hz hTI hTO c1 c2 r1 r2 hx hy fun h' a1 a2 a3 a4 a5 a6 a7 => wpAny_pure (hQ h' a1 a2 a3 a4 a5 a6 a7)) (PySem.F.args_zip_next_1 _))))
theorem zip_nxe {z TI TO i1 i2 l1 l2 : Addr} {k : Nat} {xs ys : Array Value} {a b : Value} {Q : Option Value → Shared → Prop} (hh : A.handled = none) (D : ZipApart z TI TO i1 i2 l1 l2)
    (hz : IsZip s.heap z TI TO .none) (hTI : IsPair s.heap TI (.ref i1) (.ref i2)) (hTO : IsPair s.heap TO a b)
    (c1 : Cur t s.heap i1 l1 k) (c2 : Cur t2 s.heap i2 l2 k) (r1 : Src t s.heap l1 xs) (r2 : Src t2 s.heap l2 ys) (hend : xs[k]? = none ∨ ys[k]? = none)
    (hQ : ∀ h', But4 z TO i1 i2 s.heap h' → Q none { s with heap := h' }) : wpAny (model prog w) A (pyNext (.ref z)) Q E s := by
  have hT : s.TypeIs (.ref z) "zip" := ⟨_, hz, rfl⟩
  unfold pyNext
  refine wpAny_bind (wpAny_attempt (wpAny_callSpecial?_slot (name := Str.ofString "__next__") hT PySem.F.slot_zip_next (wpAny_call_entry PySem.F.slot_zip_next hT PySem.F.entry_zip_next (zip_over hh D hz hTI hTO c1 c2 r1 r2 hend fun h' e hk he => ?_) (PySem.F.args_zip_next_1 _))))
  obtain ⟨o, ho, hc⟩ := he
  exact wpAny_bind (wpAny_isInstance (T := "StopIteration") (b := true) ⟨o, ho, hc⟩ isSubtype_stop (wpAny_pure (hQ _ hk)))
end
/-- the iterator that a list or a tuple gives -/
abbrev curO (t : Bool) (l : Addr) : Obj := { cls := .type (if t = true then "tuple_iterator" else "list_iterator"), data := .fields #[.ref l, .int 0 0] }
abbrev zh1 (t : Bool) (h : Heap) (l1 : Addr) : Heap := h.push (curO t l1)
abbrev zh2 (t t2 : Bool) (h : Heap) (l1 l2 : Addr) : Heap := (zh1 t h l1).push (curO t2 l2)
abbrev zh3 (t t2 : Bool) (h : Heap) (l1 l2 : Addr) : Heap := (zh2 t t2 h l1 l2).push { cls := .type "tuple", data := .seq #[.ref h.objs.size, .ref (zh1 t h l1).objs.size] }
abbrev zh4 (t t2 : Bool) (h : Heap) (l1 l2 : Addr) : Heap := (zh3 t t2 h l1 l2).push { cls := .type "tuple", data := .seq #[.none, .none] }
abbrev zh5 (t t2 : Bool) (h : Heap) (l1 l2 : Addr) : Heap := (zh4 t t2 h l1 l2).push { cls := .type "zip", data := .fields #[.none, .bool false, .bool false, .ref (zh2 t t2 h l1 l2).objs.size, .ref (zh3 t t2 h l1 l2).objs.size] }
theorem zip_makeTL (l1 l2 : Addr) (xs ys : Array Value) :
    Meets (Builtin.«zip.__new__» ⟨[.type "zip", .ref l1, .ref l2], []⟩) (fun _ R s => s.heap.IsTuple l1 xs ∧ s.heap.IsList l2 ys ∧ R (.ok (.ret (.ref (zh4 true false s.heap l1 l2).objs.size))) { s with heap := zh5 true false s.heap l1 l2 }) :=
  .of_wp fun prog w A R s q => by
    obtain ⟨hp, g, d, tk, os⟩ := s; obtain ⟨q1, q2, q⟩ := q
    have hsub := sub_zip
    have r1 : Heap.IsTuple (Shared.heap ⟨hp, g, d, tk, os⟩) l1 xs := q1
    have r2 : Heap.IsList (Shared.heap ⟨hp.push { cls := .type "tuple_iterator", data := .fields #[.ref l1, .int 0 0] }, g, d, tk, os⟩) l2 ys := Heap.IsList.push q2 _
    wp_walk using wpAny_pyIter_tuple r1, wpAny_pyIter_list r2
    exact ⟨_, rfl, q⟩
theorem zip_makeLT (l1 l2 : Addr) (xs ys : Array Value) :
    Meets (Builtin.«zip.__new__» ⟨[.type "zip", .ref l1, .ref l2], []⟩) (fun _ R s => s.heap.IsList l1 xs ∧ s.heap.IsTuple l2 ys ∧ R (.ok (.ret (.ref (zh4 false true s.heap l1 l2).objs.size))) { s with heap := zh5 false true s.heap l1 l2 }) :=
  .of_wp fun prog w A R s q => by
    obtain ⟨hp, g, d, tk, os⟩ := s; obtain ⟨q1, q2, q⟩ := q
    have hsub := sub_zip
    have r1 : Heap.IsList (Shared.heap ⟨hp, g, d, tk, os⟩) l1 xs := q1
    have r2 : Heap.IsTuple (Shared.heap ⟨hp.push { cls := .type "list_iterator", data := .fields #[.ref l1, .int 0 0] }, g, d, tk, os⟩) l2 ys := Heap.IsTuple.push q2 _
    wp_walk using wpAny_pyIter_list r1, wpAny_pyIter_tuple r2
    exact ⟨_, rfl, q⟩
section
variable {prog : Program} {w : World} {A : Around} {E : Value → Shared → Prop} {s : Shared}
theorem zip_call (t : Bool) {l1 l2 : Addr} {xs ys : Array Value} {Q : Value → Shared → Prop} (r1 : Src t s.heap l1 xs) (r2 : Src (!t) s.heap l2 ys)
    (h : ∀ h', IsZip h' (s.heap.objs.size + 4) (s.heap.objs.size + 2) (s.heap.objs.size + 3) .none → IsPair h' (s.heap.objs.size + 2) (.ref s.heap.objs.size) (.ref (s.heap.objs.size + 1)) → IsPair h' (s.heap.objs.size + 3) .none .none →
      Cur t h' s.heap.objs.size l1 0 → Cur (!t) h' (s.heap.objs.size + 1) l2 0 → (∀ c o, s.heap.get? c = some o → h'.get? c = some o) → Q (.ref (s.heap.objs.size + 4)) { s with heap := h' }) :
    wpAny (model prog w) A (call (.type "zip") [.ref l1, .ref l2]) Q E s := by
  have fin : ∃ obj : Obj, obj.cls = .type "zip" ∧ True := ⟨{ cls := .type "zip", data := .fields #[] }, rfl, trivial⟩
  have z1 : (zh1 t s.heap l1).objs.size = s.heap.objs.size + 1 := Heap.size_push ..
  have z2 : (zh2 t (!t) s.heap l1 l2).objs.size = s.heap.objs.size + 2 := by rw [Heap.size_push, z1]
  have z3 : (zh3 t (!t) s.heap l1 l2).objs.size = s.heap.objs.size + 3 := by rw [Heap.size_push, z2]
  have z4 : (zh4 t (!t) s.heap l1 l2).objs.size = s.heap.objs.size + 4 := by rw [Heap.size_push, z3]
  have g5 : (zh5 t (!t) s.heap l1 l2).get? (zh4 t (!t) s.heap l1 l2).objs.size = some _ := Heap.get?_push_size _ rfl
  have g4 : (zh5 t (!t) s.heap l1 l2).get? (zh3 t (!t) s.heap l1 l2).objs.size = some _ := Heap.get?_push_of_some _ (Heap.get?_push_size _ rfl)
  have g3 : (zh5 t (!t) s.heap l1 l2).get? (zh2 t (!t) s.heap l1 l2).objs.size = some _ := Heap.get?_push_of_some _ (Heap.get?_push_of_some _ (Heap.get?_push_size _ rfl))
  have g2 : (zh5 t (!t) s.heap l1 l2).get? (zh1 t s.heap l1).objs.size = some _ := Heap.get?_push_of_some _ (Heap.get?_push_of_some _ (Heap.get?_push_of_some _ (Heap.get?_push_size _ rfl)))
  have g1 : (zh5 t (!t) s.heap l1 l2).get? s.heap.objs.size = some _ := Heap.get?_push_of_some _ (Heap.get?_push_of_some _ (Heap.get?_push_of_some _ (Heap.get?_push_of_some _ (Heap.get?_push_size _ rfl))))
  have last : (∃ o, (zh5 t (!t) s.heap l1 l2).get? (zh4 t (!t) s.heap l1 l2).objs.size = some o ∧ o.cls = .type "zip") ∧ Q (.ref (zh4 t (!t) s.heap l1 l2).objs.size) { s with heap := zh5 t (!t) s.heap l1 l2 } := by
    refine ⟨⟨_, g5, rfl⟩, ?_⟩
    rw [z2, z3, z4] at g5
    rw [z1, z2] at g3
    rw [z3] at g4
    rw [z1] at g2
    rw [z4]
    refine h _ g5 g3 g4 ?_ ?_ fun c o x => Heap.get?_push_of_some _ (Heap.get?_push_of_some _ (Heap.get?_push_of_some _ (Heap.get?_push_of_some _ (Heap.get?_push_of_some _ x))))
    · cases t <;> exact ⟨_, g1, rfl, rfl⟩
    · cases t <;> exact ⟨_, g2, rfl, rfl⟩
  cases t
  · exact callType_new PySem.F.called_zip (by decide) (PySem.F.typeCall_zip_2 _ _) (PySem.F.newCall_zip_2 _ _) (fun obj => PySem.F.args_object_init_3 obj _ _) PySem.F.entry_zip_new (zip_makeLT l1 l2 xs ys) ⟨r1, r2, last⟩
  · exact callType_new PySem.F.called_zip (by decide) (PySem.F.typeCall_zip_2 _ _) (PySem.F.newCall_zip_2 _ _) (fun obj => PySem.F.args_object_init_3 obj _ _) PySem.F.entry_zip_new (zip_makeTL l1 l2 xs ys) ⟨r1, r2, last⟩
end
/-- what stands at a, a tuple (true) or a list -/
def SqX (t : Bool) (K : PySem.W.Frag) (H : Hp) (a : Addr) (xs : List V) : Prop := match t with
  | true => SqT K H a xs
  | false => SqL K H a xs
def ItzX (t t2 : Bool) (K : PySem.W.Frag) (a b : Addr) : It :=
  ⟨fun i H => ∃ (xs ys : List V) (x y : V), SqX t K H a xs ∧ SqX t2 K H b ys ∧ xs[i]? = some x ∧ ys[i]? = some y,
    fun i H v H' => ∃ T x y, v = .ref T ∧ H T = none ∧ H' = upd H T (.tup [x, y]) ∧ (∀ xs, SqX t K H a xs → xs[i]? = some x) ∧ ∀ ys, SqX t2 K H b ys → ys[i]? = some y,
    fun i H => ∃ xs ys : List V, SqX t K H a xs ∧ SqX t2 K H b ys ∧ (xs.length ≤ i ∨ ys.length ≤ i)⟩
theorem sqx_src {t : Bool} {X : Cx} {pins : List (Addr × Obj)} {σ : L2.St} {H : Hp} {s : Shared} (I : Inv X pins σ H s) {a : Addr} {xs : List V} (h : SqX t X.K H a xs) : ∃ its, Vals xs its ∧ Src t s.heap a its.toArray := by
  cases t
  · obtain ⟨its, rv, p, _⟩ := I.list h
    exact ⟨its, rv, p.isList⟩
  · obtain ⟨its, rv, p, _⟩ := I.tuple h
    exact ⟨its, rv, p⟩
theorem sqx_inj {t : Bool} {X : Cx} {pins : List (Addr × Obj)} {σ : L2.St} {H : Hp} {s : Shared} (I : Inv X pins σ H s) {a : Addr} {xs ys : List V} (h : SqX t X.K H a xs) (g : SqX t X.K H a ys) : xs = ys := by
  cases t
  · exact I.list_inj h g
  · exact I.tuple_inj h g
theorem five {c z TI TO i1 i2 : Addr} (h : c ∈ [z, TI, TO, i1, i2]) : c = z ∨ c = TI ∨ c = TO ∨ c = i1 ∨ c = i2 := by simpa using h
theorem turn_zipX {t t2 : Bool} {P : Program} {w : World} {K : PySem.W.Frag} {elts : List Expr} {kk : Nat} {tpos : Pos} {a b z TI TO i1 i2 : Addr} (D : ZipApart z TI TO i1 i2 a b) :
    Turn P w K (.Tuple elts kk tpos) (ItzX t t2 K a b) [z, TI, TO, i1, i2] z (fun i h => IsZip h z TI TO .none ∧ IsPair h TI (.ref i1) (.ref i2) ∧ (∃ x y, IsPair h TO x y) ∧ Cur t h i1 a i ∧ Cur t2 h i2 b i) where
  mem := List.mem_cons_self
  obj := fun i h st c hc => by
    obtain ⟨hz, hTI, ⟨x, y, hTO⟩, c1, c2⟩ := st
    rcases five hc with rfl | rfl | rfl | rfl | rfl
    · exact ⟨_, hz, fun v q => nomatch q⟩
    · exact ⟨_, hTI, fun v q => nomatch q⟩
    · exact ⟨_, hTO, fun v q => nomatch q⟩
    · exact c1.ob
    · exact c2.ob
  keep := fun i h h' st k => by
    obtain ⟨hz, hTI, ⟨x, y, hTO⟩, c1, c2⟩ := st
    exact ⟨k z (by simp) _ hz, k TI (by simp) _ hTI, ⟨x, y, k TO (by simp) _ hTO⟩, c1.on fun o q => k i1 (by simp) o q, c2.on fun o q => k i2 (by simp) o q⟩
  item := by
    intro X hP hw hK hc i pins s σ H E I hf st hg
    subst hP hw hK
    obtain ⟨hz, hTI, ⟨x0, y0, hTO⟩, c1, c2⟩ := st
    obtain ⟨xs, ys, x, y, qx, qy, hx, hy⟩ := hg
    obtain ⟨its, rv, r1⟩ := sqx_src I qx
    obtain ⟨jts, rw', r2⟩ := sqx_src I qy
    obtain ⟨u, hu, ru⟩ := rv.get hx
    obtain ⟨u2, hu2, ru2⟩ := rw'.get hy
    have zl : z < s.heap.objs.size := Heap.lt_size hz
    refine zip_nx D hz hTI hTO c1 c2 r1 r2 (x := u) (y := u2) (by simpa using hu) (by simpa using hu2) fun ha za oa ca cb ta na ka => ?_
    refine ⟨_, rfl, wpAny_letOwnedTupleGo_zip (s := { s with heap := ha }) za fun hb zb sb => ?_⟩
    have tb : hb.get? s.heap.objs.size = some { cls := .type "tuple", data := .seq #[u, u2] } := (sb.2 _ (Nat.ne_of_gt zl)).trans ta
    have new : ObjOk X.prog X.w (upd H s.heap.objs.size (.tup [x, y])) hb s.heap.objs.size (.tup [x, y]) := ⟨by show 2 ≤ sizeLine; decide, [u, u2], .cons ru (.cons ru2 .nil), ⟨_, tb, rfl, _, rfl⟩⟩
    have kk : ∀ c o, c ∉ [z, TI, TO, i1, i2] → s.heap.get? c = some o → hb.get? c = some o := fun c o hb' q =>
      (sb.2 c (fun e => hb' (by simp [e]))).trans (ka c o (fun e => hb' (by simp [e])) (fun e => hb' (by simp [e])) (fun e => hb' (by simp [e])) (fun e => hb' (by simp [e])) q)
    have I1 : Inv X pins σ (upd H s.heap.objs.size (.tup [x, y])) { s with heap := hb } := I.turnedNew (t' := s.toks) (ch := [z, TI, TO, i1, i2]) kk hf (Nat.le_refl _) new
    refine ⟨.ref s.heap.objs.size, _, I1, rfl, ⟨_, x, y, rfl, I.hok.fresh (Nat.le_refl _), rfl, fun l hl => by rw [sqx_inj I hl qx]; exact hx, fun l hl => by rw [sqx_inj I hl qy]; exact hy⟩, ⟨zb, ?_, ⟨u, u2, ?_⟩, ?_, ?_⟩, fun c hcm => ?_⟩
    · exact (sb.2 _ D.TIz).trans (ka _ _ D.TIz D.TITO D.TIi1 D.TIi2 hTI)
    · exact (sb.2 _ D.TOz).trans oa
    · exact ca.on fun o q => (sb.2 _ D.i1z).trans q
    · exact cb.on fun o q => (sb.2 _ D.i2z).trans q
    · have hlt : c < s.heap.objs.size := by
        rcases five hcm with q | q | q | q | q <;> rw [q]
        · exact zl
        · exact Heap.lt_size hTI
        · exact Heap.lt_size hTO
        · exact c1.lt
        · exact c2.lt
      rw [upd_ne (Nat.ne_of_lt hlt)]
      exact (hf c hcm).1
  done := by
    intro X hP hw hK hc i pins s σ H E I hf st hg
    subst hP hw hK
    obtain ⟨hz, hTI, ⟨x0, y0, hTO⟩, c1, c2⟩ := st
    obtain ⟨xs, ys, qx, qy, hend⟩ := hg
    obtain ⟨its, rv, r1⟩ := sqx_src I qx
    obtain ⟨jts, rw', r2⟩ := sqx_src I qy
    have n1 := rv.length
    have n2 := rw'.length
    have he : its.toArray[i]? = none ∨ jts.toArray[i]? = none := by
      rcases hend with q | q
      · exact .inl (by simp; omega)
      · exact .inr (by simp; omega)
    exact zip_nxe (I.ok.hd hc) D hz hTI hTO c1 c2 r1 r2 he fun ha ka => ⟨rfl, I.turnedL (t' := s.toks) (ch := [z, TI, TO, i1, i2]) (fun c o hb q =>
      ka c o (fun e => hb (by simp [e])) (fun e => hb (by simp [e])) (fun e => hb (by simp [e])) (fun e => hb (by simp [e])) q) hf⟩
  self := fun A i s Q E st h => wpAny_pyIter_zip st.1 h
def iZipX (K : PySem.W.Frag) (ta : TA) : TI := fun σ H R => ta σ H fun vs H1 => ∃ a b xs ys t t2, vs = [.ref a, .ref b] ∧ SqX t K H1 a xs ∧ SqX t2 K H1 b ys ∧ R (ItzX t t2 K a b) H1
theorem pi_zipX {X : Cx} {e e2 : Expr} {ta : TA} {p pos tpos : Pos} {elts : List Expr} {kk : Nat} (hg : Gl X "zip") (hm : X.mg "zip" = none) (ha : PA X [e, e2] ta)
    (hs : starEach [e, e2] X.env = (false, eval e X.env) :: starEach [e2] X.env := by rfl) (hpl : (backTo pos (starEach [e2] X.env)).any (·.1) = false := by rfl) :
    PI X (.Tuple elts kk tpos) (.Call (.Name "zip" p) [e, e2] [] pos) (iZipX X.K ta) := by
  refine ⟨fun pins s σ H R I h => ?_⟩
  refine Call_ (ld_blt I hg hm PyProof.Rows.boot_zip (PyProof.Rows.callWith_type1 (thn (ha.run pos pins s σ H _ I h) fun us s1 ⟨vs, H1, I1, r1, q1⟩ => ?_) hs hpl))
  obtain ⟨a, b, xs, ys, t, t2, rfl, qx, qy, q⟩ := q1
  obtain ⟨rfl⟩ : us = [.ref a, .ref b] := by
    cases r1 with
    | cons r rr =>
      cases rr with
      | cons r' rr =>
        cases rr
        cases r
        cases r'
        rfl
  · have fresh : ∀ c, c ∈ [s1.heap.objs.size + 4, s1.heap.objs.size + 2, s1.heap.objs.size + 3, s1.heap.objs.size, s1.heap.objs.size + 1] → FpOk X pins H1 c := fun c hcm => by
      have hle : s1.heap.objs.size ≤ c := by
        rcases five hcm with z | z | z | z | z <;> rw [z] <;> first | exact Nat.le_refl _ | exact Nat.le_add_right _ _
      exact I1.fpOk hle (I1.hok.fresh hle)
    obtain ⟨its, _, p1⟩ := sqx_src I1 qx
    obtain ⟨jts, _, p2⟩ := sqx_src I1 qy
    have D : ZipApart (s1.heap.objs.size + 4) (s1.heap.objs.size + 2) (s1.heap.objs.size + 3) s1.heap.objs.size (s1.heap.objs.size + 1) a b := PySem.W.ktu_apart s1.heap.objs.size a b p1.lt p2.lt
    have fin : ∀ h', IsZip h' (s1.heap.objs.size + 4) (s1.heap.objs.size + 2) (s1.heap.objs.size + 3) .none → IsPair h' (s1.heap.objs.size + 2) (.ref s1.heap.objs.size) (.ref (s1.heap.objs.size + 1)) → IsPair h' (s1.heap.objs.size + 3) .none .none →
        Cur t h' s1.heap.objs.size a 0 → Cur t2 h' (s1.heap.objs.size + 1) b 0 → (∀ c o, s1.heap.get? c = some o → h'.get? c = some o) → wpAny (model X.prog X.w) X.A (pyIter (.ref (s1.heap.objs.size + 4))) (PIE X pins σ (.Tuple elts kk tpos) R) X.xe { s1 with heap := h' } := fun h' hz hTI hTO c1 c2 hk =>
      wpAny_pyIter_zip hz ⟨s1.heap.objs.size + 4, [s1.heap.objs.size + 4, s1.heap.objs.size + 2, s1.heap.objs.size + 3, s1.heap.objs.size, s1.heap.objs.size + 1], _, _, H1, rfl, I1.kept (t' := s1.toks) hk, turn_zipX D, ⟨hz, hTI, ⟨_, _, hTO⟩, c1, c2⟩, fresh, q⟩
    cases t <;> cases t2
    · exact call_zip_2 p1 p2 fun h' hz hTI hTO h1 h2 _ hk => fin h' hz hTI hTO h1 h2 hk
    · exact zip_call false p1 p2 fun h' hz hTI hTO h1 h2 hk => fin h' hz hTI hTO h1 h2 hk
    · exact zip_call true p1 p2 fun h' hz hTI hTO h1 h2 hk => fin h' hz hTI hTO h1 h2 hk
    · exact RZ.call_zipT p1 p2 fun h' hz hTI hTO h1 h2 _ hk => fin h' hz hTI hTO h1 h2 hk
section
variable {K : PySem.W.Frag}
theorem itzX_D {t t2 : Bool} {a b : Addr} {us vs : List V} {xs ys : List D} {Gb Fb : Hp} (ha : ∀ H, Sub Fb H → Sub Gb H → SqX t K H a us) (hb : ∀ H, Sub Fb H → Sub Gb H → SqX t2 K H b vs) (ra : Reps K Gb xs us) (rb : Reps K Gb ys vs) : ItD K (ItzX t t2 K a b) Gb Fb (pairs xs ys) := fun G H sg sf gh i => by
  have qa := ha H sf (sg.trans gh)
  have qb := hb H sf (sg.trans gh)
  refine ⟨fun d e => ?_, fun hi => ⟨us, vs, qa, qb, ?_⟩⟩
  · obtain ⟨x, y, h1, h2, rfl⟩ := pairs_get e
    obtain ⟨u, h3, h4⟩ := ra.get h1
    obtain ⟨v, h5, h6⟩ := rb.get h2
    refine ⟨⟨us, vs, u, v, qa, qb, h3, h5⟩, fun z H' hz => ?_⟩
    obtain ⟨T, p, q, rfl, hT, rfl, f1, f2⟩ := hz
    have e1 := f1 us qa
    have e2 := f2 vs qb
    rw [h3] at e1; cases e1
    rw [h5] at e2; cases e2
    exact grow_tup gh hT ⟨_, _, rfl, Rep.sub sg _ _ h4, _, _, rfl, Rep.sub sg _ _ h6, rfl⟩
  · rw [pairs_len] at hi
    rw [← ra.length, ← rb.length]; omega
/-- the items of zip(..) of lists and tuples -/
def zipX (a b : D) : Option (List D) := match asL a, asL b with
  | some xs, some ys => some (pairs xs ys)
  | _, _ => none
variable {X : Cx} {en : Kn} {δ τ : List Slot} {R : Type} {m : Res R}
theorem ji_zipX {elts : List Expr} {kk : Nat} {e e2 : Expr} {p pos tpos : Pos} {C : List D → List Slot → Res R → Prop} (hm : X.mg "zip" = none)
    (h : JA X en δ τ [e, e2] (fun sls δ1 m1 => ∃ s1 s2 d1 d2 k, sls = [s1, s2] ∧ s1.stb = some d1 ∧ s2.stb = some d2 ∧ m1 = op (zipX d1 d2) k ∧ ∀ ds, C ds δ1 (k ds)) m) (hg : Gl X "zip" := by rfl)
    (hs : starEach [e, e2] X.env = (false, eval e X.env) :: starEach [e2] X.env := by exact star_plain rfl) (hpl : (backTo pos (starEach [e2] X.env)).any (·.1) = false := by rfl) : JI X en δ τ (.Tuple elts kk tpos) (.Call (.Name "zip" p) [e, e2] [] pos) C m := .mk fun hb hx σ ts G H T hl hσ W k => by
  refine wi_of (pi_zipX hg hm pa_wa hs hpl) ?_
  have ht : τ.length = ts.length := W.splitLen (hl.trans hσ.symm)
  refine h.run hb hx σ ts G H _ hl hσ W fun sls δ1 vs G1 H1 c1 hl1 W1 => ?_
  obtain ⟨s1, s2, d1, d2, k', rfl, e1, e2, em, hk⟩ := c1
  have hb' := hb
  rw [em] at hb'
  obtain ⟨ds, ed⟩ := op_some hb'
  have em' : m = k' ds := by rw [em, ed]; rfl
  have hk2 := hk ds
  rw [← em'] at hk2
  obtain ⟨hn, hq⟩ := W1.endSlots (hl1.trans hσ.symm) ht
  match vs, hn with
  | [v1, v2], _ =>
    have q1 := hq 0 s1 v1 rfl rfl
    have q2 := hq 1 s2 v2 rfl rfl
    have W2 := W1.cut (Δ := δ1 ++ τ) (S := σ ++ ts) (by rw [List.length_append, List.length_append]; omega) (by rw [List.length_append]; omega)
    unfold zipX at ed
    cases a1 : asL d1 with
    | none => rw [a1] at ed; cases ed
    | some xs =>
      cases a2 : asL d2 with
      | none => rw [a1, a2] at ed; cases ed
      | some ys =>
        rw [a1, a2] at ed
        cases ed
        obtain ⟨a, us, rfl, ra, ha⟩ := stb_at e1 q1 a1 W2.frm W2.sub
        obtain ⟨b, vs, rfl, rb, hb2⟩ := stb_at e2 q2 a2 W2.frm W2.sub
        have ka : ∃ t, ∀ H, Sub en.F0 H → Sub G1 H → SqX t X.K H a us := by
          rcases ha with ⟨ha, _⟩ | ⟨ha, _⟩
          · exact ⟨false, ha⟩
          · exact ⟨true, ha⟩
        have kb : ∃ t, ∀ H, Sub en.F0 H → Sub G1 H → SqX t X.K H b vs := by
          rcases hb2 with ⟨hb2, _⟩ | ⟨hb2, _⟩
          · exact ⟨false, hb2⟩
          · exact ⟨true, hb2⟩
        obtain ⟨t, ka⟩ := ka
        obtain ⟨t2, kb⟩ := kb
        exact ⟨a, b, us, vs, t, t2, rfl, ka _ W2.frm W2.sub, kb _ W2.frm W2.sub, k _ δ1 _ G1 H1 hk2 hl1 W2 (itzX_D ka kb ra rb)⟩
end
end BR

/-! K22: put into a list, taken out of it; ranges that fall -/
namespace BR
open PySem PySem.Spec PyProof.Rows L2

section
variable {X : Cx} {en : Kn} {δ τ : List Slot} {R : Type} {C : Slot → List Slot → Res R → Prop} {m : Res R} {K : PySem.W.Frag}
def insL (ds as : List D) : Option (D × List D) := match as with
  | [.int i, d] => if ds.length < sizeLine ∧ 0 ≤ i ∧ i < 2 ^ 62 then some (.non, ds.take i.toNat ++ [d] ++ ds.drop i.toNat) else none
  | _ => none
def insertD : D → List D → Option (D × D)
  | .lst ds, as => (insL ds as).map fun r => (r.1, D.lst r.2)
  | _, _ => none
def popAtL (ds as : List D) : Option (D × List D) := match as with
  | [.int i] => if -(2 ^ 62) ≤ i ∧ i < 2 ^ 62 then (ixN ds.length i).bind fun j => (ds[j]?).map fun d => (d, ds.eraseIdx j) else none
  | _ => none
def popAtD : D → List D → Option (D × D)
  | .lst ds, as => (popAtL ds as).map fun r => (r.1, D.lst r.2)
  | _, _ => none
/-! ### ranges that fall by one -/
def downto (hi : Int) (n : Nat) : List D := (List.range n).map fun (i : Nat) => D.int (hi - (i : Int))
def rngdD : List D → Option (List D)
  | [.int i, .int j, .int c] => if c = -1 ∧ (-(2 ^ 62) ≤ i ∧ i < 2 ^ 62) ∧ -(2 ^ 62) ≤ j ∧ j < 2 ^ 62 then some (downto i (i - j).toNat) else none
  | _ => none
theorem itc_D {hi : Int} {n : Nat} {Gb Fb : Hp} : ItD K (Itc hi (-1) n) Gb Fb (downto hi n) := fun G H sg sf gh i => by
  refine ⟨fun d e => ?_, fun hi => (by simpa [downto] using hi : n ≤ i)⟩
  have hn : i < n := by
    have := (List.getElem?_eq_some_iff.mp e).1
    simpa [downto] using this
  refine ⟨hn, fun x H' hy => ?_⟩
  obtain ⟨e1, e2⟩ := hy
  subst e1
  have e3 : d = .int (hi - i) := by
    unfold downto at e
    rw [List.getElem?_map, List.getElem?_range hn] at e
    exact (Option.some.inj e).symm
  subst e3
  refine ⟨G, Grow.refl gh, ?_⟩
  have e4 : x = .int (hi - i) := by rw [e2]; congr 1; omega
  exact e4
theorem ji_rangeD {tg a b c : Expr} {p pos : Pos} {C : List D → List Slot → Res R → Prop} (hm : X.mg "range" = none)
    (h : JA X en δ τ [a, b, c] (fun sls δ1 m1 => ∃ ds k, rds δ1 sls = some ds ∧ m1 = op (rngdD ds) k ∧ ∀ l, C l δ1 (k l)) m) (hg : Gl X "range" := by rfl)
    (hs : starEach [a, b, c] X.env = (false, eval a X.env) :: starEach [b, c] X.env := by exact star_plain rfl) (hpl : (backTo pos (starEach [b, c] X.env)).any (·.1) = false := by rfl) : JI X en δ τ tg (.Call (.Name "range" p) [a, b, c] [] pos) C m := .mk fun hb hx σ ts G H T hl hσ W k => by
  refine wi_of (pi_range3 hg hm pa_wa hs hpl) ?_
  have ht : τ.length = ts.length := W.splitLen (hl.trans hσ.symm)
  refine h.run hb hx σ ts G H _ hl hσ W fun sls δ1 vs G1 H1 c1 hl1 W1 => ?_
  obtain ⟨ds, k', e1, em, hk⟩ := c1
  have hb' := hb
  rw [em] at hb'
  obtain ⟨l, ed⟩ := op_some hb'
  have em' : m = k' l := by rw [em, ed]; rfl
  have hk2 := hk l
  rw [← em'] at hk2
  obtain ⟨r1, Wn⟩ := W1.ends (hl1.trans hσ.symm) ht e1
  match ds, ed, r1 with
  | [.int i, .int j, .int c], ed, r1 =>
    obtain ⟨v1, _, ev1, q1, v2, _, ev2, q2, v3, _, ev3, q3, e4⟩ := r1
    have q1' : v1 = .int i := q1
    have q2' : v2 = .int j := q2
    have q3' : v3 = .int c := q3
    have e4' : _ = [] := e4
    subst e4' ev3 ev2 ev1 q1' q2' q3'
    have ed' : (if c = -1 ∧ (-(2 ^ 62) ≤ i ∧ i < 2 ^ 62) ∧ -(2 ^ 62) ≤ j ∧ j < 2 ^ 62 then some (downto i (i - j).toNat) else none) = some l := ed
    by_cases hj : c = -1 ∧ (-(2 ^ 62) ≤ i ∧ i < 2 ^ 62) ∧ -(2 ^ 62) ≤ j ∧ j < 2 ^ 62
    · rw [if_pos hj] at ed'
      cases ed'
      obtain ⟨rfl, b1, b2⟩ := hj
      exact ⟨i, j, -1, _, rfl, RgC.neg b1.1 b1.2 b2.1 b2.2, k _ δ1 _ G1 H1 hk2 hl1 (Wn (by omega)) itc_D⟩
    · rw [if_neg hj] at ed'; cases ed'
end
end BR

/-! K23: dicts asked and changed -/
namespace BR
open PySem PySem.Spec PyProof.Rows L2

/-- what a dict has of a key -/
def getK (kvs : List (Key × D)) (k : Key) : Option D := (kvs.find? fun kv => decide (kv.1 = k)).map (·.2)
def delK (kvs : List (Key × D)) (k : Key) : List (Key × D) := kvs.filter fun kv => decide (kv.1 ≠ k)
section
variable {K : PySem.W.Frag} {G H : Hp}
theorem RepKs.get {k : Key} : ∀ {ds : List (Key × D)} {vs : List (Key × V)}, RepKs K G ds vs → (∀ d, getK ds k = some d → ∃ v, valV vs k = some v ∧ Rep K G d v) ∧ (getK ds k = none → valV vs k = none)
  | [], _, h => by
    rw [show _ = [] from h]
    exact ⟨fun d e => (nomatch e), fun _ => rfl⟩
  | (k', d') :: ds, _, h => by
    obtain ⟨v, r, e, h1, h2⟩ := h
    subst e
    by_cases hk : k' = k
    · subst hk
      refine ⟨fun d e => ?_, fun e => ?_⟩
      · have e' : d' = d := by simpa [getK, List.find?_cons] using e
        subst e'
        exact ⟨v, valV_pos rfl, h1⟩
      · simp [getK, List.find?_cons] at e
    · have ih := RepKs.get (k := k) h2
      have e1 : getK ((k', d') :: ds) k = getK ds k := by simp [getK, List.find?_cons, hk]
      have e2 : valV ((k', v) :: r) k = valV r k := valV_neg hk
      rw [e1, e2]
      exact ih
theorem RepKs.del {k : Key} : ∀ {ds : List (Key × D)} {vs : List (Key × V)}, RepKs K G ds vs → RepKs K G (delK ds k) (dropK vs k)
  | [], _, h => by rw [show _ = [] from h]; rfl
  | (k', d') :: ds, _, h => by
    obtain ⟨v, r, e, h1, h2⟩ := h
    subst e
    unfold delK dropK
    rw [List.filter_cons, List.filter_cons]
    by_cases hk : k' = k
    · simpa [hk, delK, dropK] using RepKs.del (k := k) h2
    · simp only [hk, decide_true, ne_eq, not_false_iff, if_true]
      exact ⟨v, _, rfl, h1, RepKs.del h2⟩
theorem RepKs.keys : ∀ {ds : List (Key × D)} {vs : List (Key × V)}, RepKs K G ds vs → vs.map (·.1) = ds.map (·.1)
  | [], _, h => by rw [show _ = [] from h]; rfl
  | (k', d') :: ds, _, h => by
    obtain ⟨v, r, e, h1, h2⟩ := h
    subst e
    rw [List.map_cons, List.map_cons, RepKs.keys h2]
theorem key_v {d : D} {k : Key} {v : V} (e : keyD d = some k) (r : VRep K G H d v) : v = kV k := by
  cases d <;> first | cases e | skip
  · exact r
  · exact r
end
section
variable {X : Cx} {en : Kn} {δ τ : List Slot} {R : Type} {C : Slot → List Slot → Res R → Prop} {m : Res R} {K : PySem.W.Frag}
variable {N : List Slot → Res R → Prop} {RT : Slot → List Slot → Res R → Prop} {BK CT : List Slot → Res R → Prop}
/-- a dict's own pairs -/
def asK : D → Option (List (Key × D))
  | .dic kvs => some kvs
  | _ => none
/-- d[k] -/
def dixD (d i : D) : Option D := match d, keyD i with
  | .dic kvs, some k => getK kvs k
  | _, _ => none
theorem je_dix {o i : Expr} {pos : Pos} (hu : X.A.units + 64 < cLine) (hs : NoSl i)
    (h : JE X en δ τ o (fun s1 δ1 m1 => JE X en δ1 (τ ++ [s1]) i (fun s2 δ2 m2 => ∃ d1 d2 k, s1.rd δ2 = some d1 ∧ s2.rd δ2 = some d2 ∧ m2 = op (dixD d1 d2) k ∧ ∀ d, C (.fr d) δ2 (k d)) m1) m) : JE X en δ τ (.Subscript o i pos) C m := .mk fun hb hx σ ts G H T hl hσ W k => by
  refine we_of (pe_dget (by omega) pe_we pe_we hs) ?_
  have ht : τ.length = ts.length := W.splitLen (hl.trans hσ.symm)
  refine h.run hb hx σ ts G H _ hl hσ W fun s1 δ1 v1 G1 H1 c1 hl1 W1 => ?_
  rw [List.append_assoc, List.append_assoc] at W1
  refine c1.run hb hx σ (ts ++ [some v1]) G1 H1 _ hl1 hσ W1 fun s2 δ2 v2 G2 H2 c2 hl2 W2 => ?_
  obtain ⟨d1, d2, k', e1, e2, em, hk⟩ := c2
  have hb' := hb
  rw [em] at hb'
  obtain ⟨d, ed⟩ := op_some hb'
  have em' : m = k' d := by rw [em, ed]; rfl
  have hk2 := hk d
  rw [← em'] at hk2
  have W3 : Wd X.K en (δ2 ++ τ ++ [s1, s2]) (σ ++ ts ++ [v1, v2].map some) G2 H2 := by
    have := W2
    simp only [List.append_assoc, List.map_cons, List.map_nil, List.cons_append, List.nil_append] at this ⊢
    exact this
  obtain ⟨⟨_, _, ez, r1, _, _, ez2, r2, ez3⟩, Wn⟩ := W3.ends (hl2.trans hσ.symm) ht (ds := [d1, d2]) (by simp only [rds, e1, e2])
  cases ez
  cases ez2
  cases d1 <;> first | cases ed | skip
  rename_i kvs
  cases ek : keyD d2 with
  | none => unfold dixD at ed; rw [ek] at ed; cases ed
  | some ky =>
    unfold dixD at ed
    rw [ek] at ed
    obtain ⟨a, kv, ev, q1, r1'⟩ := r1
    subst ev
    obtain ⟨v, hv, rv⟩ := (RepKs.get (k := ky) r1').1 d ed
    refine ⟨a, v, rfl, ?_, k _ δ2 v G2 H2 hk2 hl2 ((Wn (by omega)).out (Grow.refl W2.sub) rv)⟩
    rw [key_v ek r2, ← hv]
    exact DGet.k q1
/-- d.get(k, e) -/
def dgetD (d i e : D) : Option D := match d, keyD i with
  | .dic kvs, some k => some ((getK kvs k).getD e)
  | _, _ => none
theorem je_dget {o i e : Expr} {apos cpos : Pos} (hu : X.A.units + 64 < cLine) (m2 : M2 X o "get" apos i e cpos)
    (h : JE X en δ τ o (fun s1 δ1 m1 => ∃ d0 k0, s1.rd δ1 = some d0 ∧ m1 = op (asK d0) k0 ∧ ∀ kvs, JE X en δ1 (τ ++ [s1]) i (fun s2 δ2 m2 => JE X en δ2 (τ ++ [s1] ++ [s2]) e (fun s3 δ3 m3 => ∃ d1 d2 d3 k, s1.rd δ3 = some d1 ∧ s2.rd δ3 = some d2 ∧ s3 = .fr d3 ∧ m3 = op (dgetD d1 d2 d3) k ∧ ∀ d, C (.fr d) δ3 (k d)) m2) (k0 kvs)) m) :
    JE X en δ τ (.Call (.Attribute o "get" apos) [i, e] [] cpos) C m := .mk fun hb hx σ ts G H T hl hσ W k => by
  refine we_of (pe_dget2 (by omega) pe_we pe_we pe_we m2) ?_
  have ht : τ.length = ts.length := W.splitLen (hl.trans hσ.symm)
  refine h.run hb hx σ ts G H _ hl hσ W fun s1 δ1 v1 G1 H1 c1 hl1 W1 => ?_
  obtain ⟨d0, k0, e0, em0, c1⟩ := c1
  have hb0 := hb
  rw [em0] at hb0
  obtain ⟨kv0, ek0⟩ := op_some hb0
  have em1 : m = k0 kv0 := by rw [em0, ek0]; rfl
  have c1 := c1 kv0
  rw [← em1] at c1
  cases d0 <;> first | cases ek0 | skip
  obtain ⟨⟨_, _, ez0, r0, _⟩, _⟩ := Wd.ends (sls := [s1]) (vs := [v1]) W1 (hl1.trans hσ.symm) ht (ds := [.dic kv0]) (by simp only [rds, e0])
  cases ez0
  obtain ⟨a0, kv1, ev0, q0, _⟩ := r0
  subst ev0
  refine ⟨a0, rfl, .inl ⟨kv1, .inl q0⟩, ?_⟩
  rw [List.append_assoc, List.append_assoc] at W1
  refine c1.run hb hx σ (ts ++ [some (.ref a0)]) G1 H1 _ hl1 hσ W1 fun s2 δ2 v2 G2 H2 c2 hl2 W2 => ?_
  have W2' : Wd X.K en (δ2 ++ (τ ++ [s1] ++ [s2])) (σ ++ (ts ++ [some (.ref a0)] ++ [some v2])) G2 H2 := by
    have := W2
    simp only [List.append_assoc] at this ⊢
    exact this
  refine c2.run hb hx σ (ts ++ [some (.ref a0)] ++ [some v2]) G2 H2 _ hl2 hσ W2' fun s3 δ3 v3 G3 H3 c3 hl3 W3 => ?_
  obtain ⟨d1, d2, d3, k', e1, e2, rfl, em, hk⟩ := c3
  have hb' := hb
  rw [em] at hb'
  obtain ⟨d, ed⟩ := op_some hb'
  have em' : m = k' d := by rw [em, ed]; rfl
  have hk2 := hk d
  rw [← em'] at hk2
  have W4 : Wd X.K en (δ3 ++ τ ++ [s1, s2, .fr d3]) (σ ++ ts ++ [V.ref a0, v2, v3].map some) G3 H3 := by
    have := W3
    simp only [List.append_assoc, List.map_cons, List.map_nil, List.cons_append, List.nil_append] at this ⊢
    exact this
  obtain ⟨⟨_, _, ez, r1, _, _, ez2, r2, _, _, ez3, _, ez4⟩, Wn⟩ := W4.ends (hl3.trans hσ.symm) ht (ds := [d1, d2, d3]) (by simp only [rds, e1, e2]; rfl)
  cases ez
  cases ez2
  cases ez3
  obtain ⟨v3', ev3, r3⟩ := W3.last
  cases ev3
  cases d1 <;> first | cases ed | skip
  rename_i kvs
  cases ek : keyD d2 with
  | none => unfold dgetD at ed; rw [ek] at ed; cases ed
  | some ky =>
    unfold dgetD at ed
    rw [ek] at ed
    cases ed
    obtain ⟨a, kv, ev, q1, r1'⟩ := r1
    cases ev
    have W5 := Wn (by omega)
    obtain ⟨g1, g2⟩ := RepKs.get (k := ky) r1'
    refine ⟨valV kv ky, ?_, ?_⟩
    · rw [key_v ek r2]; exact DGet.k q1
    · cases eg : getK kvs ky with
      | none =>
        rw [g2 eg]
        rw [eg] at hk2
        exact k _ δ3 _ G3 H3 hk2 hl3 (W5.out (Grow.refl W3.sub) r3)
      | some y =>
        obtain ⟨v, hv, rv⟩ := g1 y eg
        rw [hv]
        rw [eg] at hk2
        exact k _ δ3 _ G3 H3 hk2 hl3 (W5.out (Grow.refl W3.sub) rv)
/-- d[k] = e, a name's own dict -/
def dputK (kvs : List (Key × D)) (i d : D) : Option (List (Key × D)) := match keyD i with
  | some k => if kvs.length < sizeLine then some (putD kvs k d) else none
  | none => none
theorem own1 {K : PySem.W.Frag} {δ τ : List Slot} {σ ts : L2.St} {G H : Hp} (W : Wd K en (δ ++ τ) (σ ++ ts) G H) (hl : δ.length = σ.length) {i : Nat} {sl : Slot} (h : δ[i]? = some sl) (ho : sl.own = true) : ∃ p, σ[i]? = some (some (V.ref p)) := by
  obtain ⟨o, g1, g2⟩ := W.name hl h
  cases sl with
  | mu _ => obtain ⟨p, e, _⟩ := g2; exact ⟨p, by rw [g1, e]⟩
  | mp _ _ => obtain ⟨p, e, _⟩ := g2; exact ⟨p, by rw [g1, e]⟩
  | un => cases ho
  | fr _ => cases ho
  | bw _ => cases ho
  | bo _ => cases ho
theorem js_dput {x : Str} {p p2 pos : Pos} {idx e : Expr} (i : Nat) (hu : X.A.units + 64 < cLine)
    (h : JE X en δ [] e (fun s1 δ1 m1 => ∃ d sl0, s1 = .fr d ∧ δ1[i]? = some sl0 ∧ sl0.own = true ∧ JE X en δ1 [s1] idx (fun s2 δ2 m2 => ∃ di sl kvs k, ∃ pe : List (Key × D) → List Slot, s2.rd δ2 = some di ∧ δ2[i]? = some sl ∧ sl.own = true ∧ sl.rd δ2 = some (.dic kvs) ∧ m2 = op (dputK kvs di d) k ∧ (∀ r, δ2.set i (sl.put (.dic r)) = pe r) ∧ ∀ r, N (pe r) (k r)) m1) m)
    (hN : X.N[i]? = some x := by rfl) (hv : Vis X.env.scope x := by first | exact Or.inl rfl | exact Or.inr (Or.inl rfl) | exact Or.inr (Or.inr rfl)) (hdd : (x == ("__debug__" : Str)) = false := by decide) (hcd : (x == ("__classdict__" : Str)) = false := by decide)
    (hs : swapsWith e (some (.Subscript (.Name x p) idx p2)) pos.line X.env = pure false := by rfl) :
    JS X en δ (.Assign [.Subscript (.Name x p) idx p2] e pos) N RT BK CT m := .mk fun hb hx σ G H E hl W k1 k2 k3 k4 => by
  refine ws_of (ps_dput (by omega) (pe_var hN hv hdd hcd) pe_we pe_we hs) ?_
  have hσ := W.sl hl
  refine h.at hb hx hl W fun s1 δ1 v1 G1 H1 ⟨d, sl0, es, f1, f2, c1⟩ hl1 W1 => ?_
  subst es
  obtain ⟨p0, h0⟩ := own1 (τ := [.fr d]) W1 (hl1.trans hσ.symm) f1 f2
  refine ⟨.ref p0, h0, ?_⟩
  refine c1.run hb hx σ [some v1] G1 H1 _ hl1 hσ W1 fun s2 δ2 v2 G2 H2 c2 hl2 W2 => ?_
  obtain ⟨di, sl, kvs, k', pe, e1, e2, e3, e4, em, hpe, hk⟩ := c2
  have hb' := hb
  rw [em] at hb'
  obtain ⟨r, er⟩ := op_some hb'
  have em' : m = k' r := by rw [em, er]; rfl
  have hk2 := hk r
  rw [← em'] at hk2
  have W3 : Wd X.K en (δ2 ++ [] ++ [.fr d, s2]) (σ ++ [] ++ [v1, v2].map some) G2 H2 := by
    have := W2
    simp only [List.append_assoc, List.map_cons, List.map_nil, List.cons_append, List.nil_append] at this ⊢
    exact this
  obtain ⟨⟨_, _, ez, _, _, _, ez2, r2, ez3⟩, Wn⟩ := W3.ends (τ := []) (ts := []) (hl2.trans hσ.symm) rfl (ds := [d, di]) (by simp only [rds, e1]; rfl)
  cases ez
  cases ez2
  obtain ⟨v', ev', rd⟩ := (W2.cut (Δ := δ2 ++ [.fr d]) (S := σ ++ [some v1]) (by rw [List.length_append, List.length_append]; simp; omega) (by rw [List.length_append]; omega)).last
  cases ev'
  have W4 := Wn (by omega)
  obtain ⟨p1, h5, ow, n1, us, h8, h9⟩ := own_of W4 hl2 hσ e2 e3 e4
  rw [h0] at h5
  cases h5
  have hi := (List.getElem?_eq_some_iff.mp e2).1
  unfold dputK at er
  cases ek : keyD di with
  | none => rw [ek] at er; cases er
  | some ky =>
    rw [ek] at er
    have er' : (if kvs.length < sizeLine then some (putD kvs ky d) else none) = some r := er
    by_cases hz : kvs.length < sizeLine
    · rw [if_pos hz] at er'
      cases er'
      refine ⟨p0, _, rfl, by rw [key_v ek r2]; exact DPut.k h8 (by rw [← h9.length]; exact hz), ?_⟩
      have W5 := W4.mut (o' := .dK (putK us ky v1)) (d' := .dic (putD kvs ky d)) ow ⟨_, upd_same, RepKs.put rd h9⟩
      rw [List.getD_eq_getElem?_getD, List.getElem?_append_left hi, e2, List.set_append_left _ _ hi, List.append_nil, List.append_nil] at W5
      have W6 : Wd X.K en (pe (putD kvs ky d)) σ G2 (upd H2 p0 (.dK (putK us ky v1))) := by rw [← hpe]; exact W5
      exact k1 _ σ G2 _ hk2 (by rw [← hpe, List.length_set]; exact hl2) W6
    · rw [if_neg hz] at er'; cases er'
/-- del d[k], a name's own dict -/
def ddelK (kvs : List (Key × D)) (i : D) : Option (List (Key × D)) := match keyD i with
  | some k => if (getK kvs k).isSome = true then some (delK kvs k) else none
  | none => none
theorem js_ddel {x : Str} {p p2 pos : Pos} {idx : Expr} (i : Nat) {sl0 : Slot} (hs0 : δ[i]? = some sl0) (ho0 : sl0.own = true)
    (h : JE X en δ [] idx (fun s2 δ2 m2 => ∃ di sl kvs k, ∃ pe : List (Key × D) → List Slot, s2.rd δ2 = some di ∧ δ2[i]? = some sl ∧ sl.own = true ∧ sl.rd δ2 = some (.dic kvs) ∧ m2 = op (ddelK kvs di) k ∧ (∀ r, δ2.set i (sl.put (.dic r)) = pe r) ∧ ∀ r, N (pe r) (k r)) m)
    (hN : X.N[i]? = some x := by rfl) (hv : Vis X.env.scope x := by first | exact Or.inl rfl | exact Or.inr (Or.inl rfl) | exact Or.inr (Or.inr rfl)) (hdd : (x == ("__debug__" : Str)) = false := by decide) (hcd : (x == ("__classdict__" : Str)) = false := by decide) :
    JS X en δ (.Delete [.Subscript (.Name x p) idx p2] pos) N RT BK CT m := .mk fun hb hx σ G H E hl W k1 k2 k3 k4 => by
  refine ws_of (ps_ddel (pe_var hN hv hdd hcd) pe_we) ?_
  have hσ := W.sl hl
  obtain ⟨p0, h0⟩ := own1 (τ := []) (ts := []) (by rw [List.append_nil, List.append_nil]; exact W) (hl.trans hσ.symm) hs0 ho0
  refine ⟨.ref p0, h0, ?_⟩
  refine h.at hb hx hl W fun s2 δ2 v2 G2 H2 ⟨di, sl, kvs, k', pe, e1, e2, e3, e4, em, hpe, hk⟩ hl2 W2 => ?_
  have hb' := hb
  rw [em] at hb'
  obtain ⟨r, er⟩ := op_some hb'
  have em' : m = k' r := by rw [em, er]; rfl
  have hk2 := hk r
  rw [← em'] at hk2
  have W3 : Wd X.K en (δ2 ++ [] ++ [s2]) (σ ++ [] ++ [v2].map some) G2 H2 := by
    rw [List.append_nil, List.append_nil]; exact W2
  obtain ⟨⟨_, _, ez, r2, ez3⟩, Wn⟩ := W3.ends (τ := []) (ts := []) (hl2.trans hσ.symm) rfl (ds := [di]) (by simp only [rds, e1])
  cases ez
  have W4 := Wn (by omega)
  obtain ⟨p1, h5, ow, n1, us, h8, h9⟩ := own_of W4 hl2 hσ e2 e3 e4
  rw [h0] at h5
  cases h5
  have hi := (List.getElem?_eq_some_iff.mp e2).1
  unfold ddelK at er
  cases ek : keyD di with
  | none => rw [ek] at er; cases er
  | some ky =>
    rw [ek] at er
    have er' : (if (getK kvs ky).isSome = true then some (delK kvs ky) else none) = some r := er
    by_cases hz : (getK kvs ky).isSome = true
    · rw [if_pos hz] at er'
      cases er'
      obtain ⟨y, ey⟩ := Option.isSome_iff_exists.mp hz
      obtain ⟨v, hv', _⟩ := (RepKs.get (k := ky) h9).1 y ey
      refine ⟨p0, us, ky, rfl, h8, key_v ek r2, by rw [hv']; rfl, ?_⟩
      have W5 := W4.mut (o' := .dK (dropK us ky)) (d' := .dic (delK kvs ky)) ow ⟨_, upd_same, RepKs.del h9⟩
      rw [List.getD_eq_getElem?_getD, List.getElem?_append_left hi, e2, List.set_append_left _ _ hi, List.append_nil, List.append_nil] at W5
      have W6 : Wd X.K en (pe (delK kvs ky)) σ G2 (upd H2 p0 (.dK (dropK us ky))) := by rw [← hpe]; exact W5
      exact k1 _ σ G2 _ hk2 (by rw [← hpe, List.length_set]; exact hl2) W6
    · rw [if_neg hz] at er'; cases er'
/-! ### sorted(d), ints, any number of them -/
def intK : List (Key × D) → Option (List Int)
  | [] => some []
  | (.inl i, _) :: r => (intK r).map (i :: ·)
  | _ :: _ => none
theorem intK_keys : ∀ {kvs : List (Key × D)} {ns : List Int}, intK kvs = some ns → kvs.map (·.1) = ns.map Sum.inl
  | [], ns, h => by cases h; rfl
  | (.inl i, d) :: r, ns, h => by
    obtain ⟨ms, h1, rfl⟩ := Option.map_eq_some_iff.mp (show (intK r).map (i :: ·) = some ns from h)
    rw [List.map_cons, List.map_cons, intK_keys h1]
  | (.inr s, d) :: r, ns, h => by cases h
theorem call_sortedDI' (hcalm : X.calm = true) : CallR X (.builtin "sorted") (fun xs H Q => ∃ (a : Addr) (kvs : List (Key × V)) (ks : List Int), xs = [.ref a] ∧ Rd H a (.dK kvs) ∧ kvs.map (·.1) = ks.map Sum.inl ∧ ks.length ≤ sizeLine ∧
    ∀ (ys : List Int) (p : Addr), ys.Perm ks → ys.Pairwise (· ≤ ·) → H p = none → Q (.ref p) (upd H p (.lst (ys.map V.int)))) := by
  intro pins s σ H xs us Q I r q
  obtain ⟨a, kvs, ks, rfl, hd, hks, hsz, q⟩ := q
  obtain ⟨u, rfl, rx⟩ := vals1 r
  cases rx
  obtain ⟨z, lo, vs, rel, dd⟩ := dk_rd I.hok hd
  obtain ⟨ep, hat⟩ := dd.dictAt
  have keys : vs.map (·.1) = ks.map Sum.inl := rel.keys.symm.trans hks
  have hl : vs.length = ks.length := by simpa using congrArg List.length keys
  refine Calls.call_function_entry PyProof.Rows.kind_sorted PyProof.Rows.plain_sorted PyProof.Rows.entry_sorted (PyProof.Rows.args_sorted1 _) ?_
  unfold Builtin.«sorted»
  refine wpAny_bind (m := checkCount "sorted" 1 1 _) (wpAny_pure ?_)
  refine wpAny_bind (PySem.W.kdu_collect (A := X.A.in1) (PySem.W.kdl_dict (knd := mixKind X.prog X.w) (kvs := vs) (ep := ep) lo) (I.ok.hd hcalm) hat (by rw [hl]; exact hsz) fun h' tk acc hk hacc => ?_)
  have hal : acc.toList.length = ks.length := by rw [Array.length_toList, hacc.1, hl]
  have hS : IntsAre acc.toList ks := ints_each hal fun j v e => by
    obtain ⟨k, x, e1, e2⟩ := hacc.2 j v (by rw [← Array.getElem?_toList]; exact e)
    have e3 : (ks.map Sum.inl)[j]? = some k := by rw [← keys, List.getElem?_map, e1]; rfl
    rw [List.getElem?_map] at e3
    cases e4 : ks[j]? with
    | none => rw [e4] at e3; cases e3
    | some y =>
      rw [e4] at e3
      cases e3
      rcases keyIs_shape (show keyIs (Sum.inl y) v = true from e2) with ⟨i, t, ek, ev⟩ | ⟨z, t, ek, ev⟩
      · cases ek; exact ⟨y, t, rfl, ev⟩
      · cases ek
  have I1 : Inv X pins σ H { s with heap := h', toks := tk } := I.kept hk
  refine wpAny_bind (wpAny_newList ?_ (by rw [hal]; exact hsz))
  have hoL : (h'.push (seqObj "list" acc.toList.toArray 0)).get? h'.objs.size = some (seqObj "list" acc.toList.toArray 0) := Heap.get?_push_size _ rfl
  show wpAny _ _ _ _ _ { s with heap := h'.push (seqObj "list" acc.toList.toArray 0), toks := tk }
  refine wpAny_bind (wpAny_holding (wpAny_call_entry PyProof.Rows.slot_list_sort ⟨_, hoL, rfl⟩ PyProof.Rows.entry_list_sort
    (SrtO.list_sort_ord SrtO.swo_int (s := { s with heap := h'.push (seqObj "list" acc.toList.toArray 0), toks := tk }) hoL (by rw [hal]; exact hsz) (fun h2 => SrtO.ints_sortable hS h2) fun out g1 g2 => ⟨_, rfl, ?_⟩) (PyProof.Rows.args_list_sort _)))
  obtain ⟨k1, k2, k3⟩ := SrtO.ints_out hS g1 g2
  obtain ⟨e', he'⟩ := PyProof.Rows.sortedHeap_at (vs := acc.toList) (out := out.toArray) hoL
  have hlen : ((out.map SrtO.iv).map V.int).length ≤ sizeLine := by rw [List.length_map, k2.length_eq]; exact hsz
  refine wpAny_pure ⟨_, rfl, .ref h'.objs.size, upd H h'.objs.size (.lst ((out.map SrtO.iv).map V.int)), I1.laid (t' := tk) (fun b u e => ?_) (Nat.le_refl _) (show ObjOk X.prog X.w _ _ _ (.lst ((out.map SrtO.iv).map V.int)) from ⟨hlen, out, e', vals_of_ints k1, he'⟩), rfl, q _ _ k2 k3 (I1.hok.fresh (Nat.le_refl _))⟩
  have hb : b < h'.objs.size := Heap.lt_size e
  rw [PyProof.Rows.sortedHeap_old (Nat.ne_of_lt hb) (by rw [size_push']; exact Nat.lt_succ_of_lt hb)]
  exact Heap.get?_push_of_some _ e
/-- sorted(x), x a list of ints or a dict with such keys -/
def srtT : List D → Option (List D)
  | [.lst ds] => (intsD ds).map fun ns => (srtI ns).map D.int
  | [.dic kvs] => if kvs.length ≤ sizeLine then (intK kvs).map fun ns => (srtI ns).map D.int else none
  | _ => none
theorem CallR.or' {f : Value} {r r' : List V → Hp → VK → Prop} (h : CallR X f r) (h' : CallR X f r') : CallR X f (fun vs H Q => r vs H Q ∨ r' vs H Q) := fun pins s σ H vs us Q I rv q => by
  rcases q with q | q
  · exact h pins s σ H vs us Q I rv q
  · exact h' pins s σ H vs us Q I rv q
theorem c_srtT (hc : X.calm = true) : CallL X (.builtin "sorted") srtT := callD_of (CallR.or' cr_sortedI (call_sortedDI' hc)) fun ds d e G H vs Q sb r k => by
  match ds, e, r with
  | [.lst ds], e, r =>
    obtain ⟨l, h0, rfl⟩ := Option.map_eq_some_iff.mp e
    obtain ⟨ns, h1, rfl⟩ := Option.map_eq_some_iff.mp (show (intsD ds).map (fun ns => (srtI ns).map D.int) = some l from h0)
    obtain ⟨v, ev, p, us, q, h, r2⟩ := VReps.one r
    subst ev q
    refine .inl ⟨p, ns, rfl, by rw [← intsD_v h1 r2]; exact SqL.of h, fun ns' p' hp ho hn => ?_⟩
    have := srtI_eq hp ho
    subst this
    exact mu_out sb (ints_reps _) k p' hn
  | [.dic kvs], e, r =>
    obtain ⟨l, h0, rfl⟩ := Option.map_eq_some_iff.mp e
    have h0' : (if kvs.length ≤ sizeLine then (intK kvs).map (fun ns => (srtI ns).map D.int) else none) = some l := h0
    by_cases hz : kvs.length ≤ sizeLine
    · rw [if_pos hz] at h0'
      obtain ⟨ns, h1, rfl⟩ := Option.map_eq_some_iff.mp h0'
      obtain ⟨v, ev, p, us, q, h, r2⟩ := VReps.one r
      subst ev q
      have kk := intK_keys h1
      have ln : ns.length = kvs.length := by simpa using (congrArg List.length kk).symm
      refine .inr ⟨p, us, ns, rfl, .inl h, by rw [RepKs.keys r2]; exact kk, by rw [ln]; exact hz, fun ns' p' hp ho hn => ?_⟩
      have := srtI_eq hp ho
      subst this
      exact mu_out sb (ints_reps _) k p' hn
    · rw [if_neg hz] at h0'; cases h0'
end
end BR

/-! K24: a parameter that is given by its name alone, None where it is left out -/
namespace BR
open PySem PySem.Spec PyProof.Rows L2

/-- y is the last parameter; it is given by name, or None -/
def KwB (K : PySem.W.Frag) (fd : FuncData) (ps : List Str) (y : Str) : Prop := Binds K fd ps [Value.none] ∧
  ∀ (s : Shared) (us : List Value) (u : Value), (us ++ [u]).length = ps.length → BindsTo s fd ⟨us, [(y, u)]⟩ (ps.zip (us ++ [u]))
def DfK (P : Program) (w : World) (K : PySem.W.Frag) (mg : Str → Option Value) (base : Heap) (k : Nat) (x y : Str) (ks : List Kd) {α : Type} (den : List D → Res α) (val : α → D) (outs : α → List D) (mu : Bool) : Prop :=
  ∃ (f : Addr) (fd : FuncData) (psn : List Str), FnG P w K mg base k f fd psn (SpD K mg ks den val outs mu) ∧ mg x = some (.ref f) ∧ PySem.W.keepIn K (.ref f) = true ∧ KwB K fd psn y
section
variable {X : Cx} {en : Kn} {δ τ : List Slot} {R : Type} {C : Slot → List Slot → Res R → Prop} {m : Res R} {k : Nat} {f : Addr} {fd : FuncData} {ps : List Str} {sp : Sp} {E : XK} {x y : Str} {p pos kpos : Pos} {e e' : Expr} {es : List Expr}
abbrev WAn (X : Cx) (es : List Expr) : TA := fun σ H Q => WA X es σ H fun vs H1 => Q (vs ++ [V.non]) H1
abbrev WAk (X : Cx) (es : List Expr) (e : Expr) : TA := fun σ H Q => WA X es σ H fun vs H1 => WE X e σ H1 fun v H2 => Q (vs ++ [v]) H2
end
/-! ### list(range(n)) -/
/-- the numbers of list(range(..)) -/
def lrgD : D → Option (List D)
  | .int j => if -(2 ^ 62) ≤ j ∧ j < 2 ^ 62 ∧ j.toNat ≤ 2 ^ 24 then some (upto 0 j.toNat) else none
  | _ => none
section
variable {X : Cx} {en : Kn} {δ τ : List Slot} {R : Type} {C : Slot → List Slot → Res R → Prop} {m : Res R}
end
end BR

/-! K25: sorted(set(x)) of a list of ints, any number of them below 4000 -/
namespace BR
open PySem PySem.Spec PyProof.Rows L2

/-- a set as it is made -/
abbrev nos (w : World) : Obj := { cls := .type "set", dict := none, data := .set #[] 0 (.fresh 0 0 (!w.params.followText "set-order")) }
section
variable {P : Program} {w : World} {A : Around} {E : Value → Shared → Prop} {s : Shared}
end
def tSortSet (K : PySem.W.Frag) (ta : TE) : TE := fun σ H Q => ta σ H fun x H1 => ∃ (l : Addr) (ns : List Int), x = .ref l ∧ SqL K H1 l (ns.map V.int) ∧ ns.length ≤ 4000 ∧
  ∀ (ys : List Int) (p : Addr), ys.Pairwise (· < ·) → (∀ k, k ∈ ys ↔ k ∈ ns) → H1 p = none → Q (.ref p) (upd H1 p (.lst (ys.map V.int)))
/-- put among rising numbers -/
def insU (k : Int) : List Int → List Int
  | [] => [k]
  | y :: r => if k < y then k :: y :: r else if k = y then y :: r else y :: insU k r
/-- sorted, each once -/
def srtU (ns : List Int) : List Int := ns.foldr insU []
theorem rising_eq {a b : List Int} (ha : a.Pairwise (· < ·)) (hb : b.Pairwise (· < ·)) (h : ∀ k, k ∈ a ↔ k ∈ b) : a = b := by
  have na : a.Nodup := ha.imp fun h => Int.ne_of_lt h
  have nb : b.Nodup := hb.imp fun h => Int.ne_of_lt h
  exact List.Perm.eq_of_pairwise (le := (· ≤ ·)) (fun a b _ _ h1 h2 => Int.le_antisymm h1 h2) (ha.imp fun h => Int.le_of_lt h) (hb.imp fun h => Int.le_of_lt h) ((List.perm_ext_iff_of_nodup na nb).mpr h)
/-- sorted(set(x)) -/
def setT : D → Option (List D)
  | .lst ds => if ds.length ≤ 4000 then (intsD ds).map fun ns => (srtU ns).map D.int else none
  | _ => none
section
variable {X : Cx} {en : Kn} {δ τ : List Slot} {R : Type} {C : Slot → List Slot → Res R → Prop} {m : Res R}
end
end BR

/-! K30: sorted({x for .. in ..}) of ints -/
namespace BR
open PySem PySem.Spec PyProof.Rows L2

/-- a set of ints in the making -/
def SetRO (w : World) (a : Addr) (S : Int → Bool) (n : Nat) : HO := .ext fun h => SetR w h a S n
def addS (S : Int → Bool) (c : Int) : Int → Bool := fun j => S j || decide (j = c)
section
variable {X : Cx}
/-- {elt for target in iter if ..} of ints: D the new set -/
def tScI (w : World) (wi : TI) (g : TG) (tt : TT) (te : TE) (vs : List Nat) : TE := fun σ H Q => wi σ H fun J H1 => ∀ D, H1 D = none → ∃ W : Nat → Nat → Hp → Prop, (∃ m, W 0 m (upd H1 D (SetRO w D (fun _ => false) 0))) ∧ ∀ i m H, W i m H →
  (J.stop i H ∧ Q (.ref D) H) ∨ (J.go i H ∧ ∃ Nx : Hp → Prop, (∀ H', Nx H' → ∃ m', m' < m ∧ W (i + 1) m' H') ∧ ∀ x H', J.yld i H x H' → g x (wipe σ vs) H' fun σ2 H2 => wipe σ2 vs = wipe σ vs ∧ tt σ2 H2 fun b H3 =>
    if b = true then te σ2 H3 fun y H4 => ∃ (c : Int) (S : Int → Bool) (n : Nat), y = .int c ∧ H4 D = some (SetRO w D S n) ∧ n + 1 < scanBound ∧ Nx (upd H4 D (SetRO w D (addS S c) (if S c = true then n else n + 1))) else Nx H3)
/-- sorted(a set) -/
def tSortSc (w : World) (ta : TE) : TE := fun σ H Q => ta σ H fun x H1 => ∃ (D : Addr) (S : Int → Bool) (n : Nat), x = .ref D ∧ H1 D = some (SetRO w D S n) ∧ n ≤ 4000 ∧
  ∀ (ys : List Int) (p : Addr), ys.Pairwise (· < ·) → (∀ k, k ∈ ys ↔ S k = true) → H1 p = none → Q (.ref p) (upd H1 p (.lst (ys.map V.int)))
end
/-! ### its reading -/
structure KnS (en en' : Kn) : Prop where
  n : en'.n = en.n
  ps : en'.ps = en.ps
  HX : en'.HX = fun o => o = none
theorem KnS.lk {X : Cx} {en en' : Kn} (h : KnS en en') {s : Shared} {H : Hp} {scope : Scope} {cenv : Env} {fp : List Addr} : Lk (X.blk s H scope cenv fp) en' :=
  ⟨fun _ _ _ _ => False, takes0N, fun x hx => by rw [h.HX] at hx; cases hx⟩
/-- no list, no tuple, no dict there -/
def noLtd (o : Option HO) : Prop := o = none ∨ ∃ f, o = some (.ext f)
section
variable {K : PySem.W.Frag} {en : Kn} {Δ : List Slot} {S : L2.St} {G H H2 F2 : Hp} {q : Addr}
theorem noLtd.ne {o : Option HO} (h : noLtd o) {u : HO} (e : o = some u) (hu : ∀ f, u ≠ .ext f) : False := by
  rcases h with z | ⟨f, z⟩
  · rw [z] at e; cases e
  · rw [z] at e; cases e; exact hu f rfl
theorem Rd.swap {a : Addr} {u : HO} (hF : ∀ a, a ≠ q → F2 a = H a) (hn : noLtd (H q)) (hu : ∀ f, u ≠ .ext f) (h : Rd H a u) : Rd F2 a u := by
  have ne : a ≠ q := fun z => by
    subst z
    rcases h with h | ⟨o, h⟩
    · exact hn.ne h hu
    · exact hn.ne h fun f z => by cases z
  rcases h with h | ⟨o, h⟩
  · exact .inl (by rw [hF a ne]; exact h)
  · exact .inr ⟨o, by rw [hF a ne]; exact h⟩
theorem VF.swap (hF : ∀ a, a ≠ q → F2 a = H a) (hn : noLtd (H q)) : ∀ {b : Bool} {d : D} {v : V}, VF K G H b d v → VF K G F2 b d v
  | true, .lst ds, v, h => by
    obtain ⟨a, vs, e, h1, r⟩ := h
    exact ⟨a, vs, e, by rw [hF a fun z => hn.ne (z ▸ h1) fun f z => by cases z]; exact h1, r⟩
  | true, .dic ds, v, h => by
    obtain ⟨a, vs, e, h1, r⟩ := h
    exact ⟨a, vs, e, by rw [hF a fun z => hn.ne (z ▸ h1) fun f z => by cases z]; exact h1, r⟩
  | false, d, v, h => by cases d <;> exact h
  | true, .non, _, h => h
  | true, .bl _, _, h => h
  | true, .int _, _, h => h
  | true, .str _, _, h => h
  | true, .tup _, _, h => h
  | true, .scr _, _, h => h
  | true, .exc _ _, _, h => h
  | true, .obj _ _, _, h => h
theorem VFs.swap (hF : ∀ a, a ≠ q → F2 a = H a) (hn : noLtd (H q)) : ∀ {fs : List (Str × Bool × D)} {vs : List (Str × V)}, VFs K G H fs vs → VFs K G F2 fs vs
  | [], _, h => h
  | (k, b, d) :: r, _, h => by
    obtain ⟨v, q, e, h1, h2⟩ := h
    exact ⟨v, q, e, VF.swap hF hn h1, VFs.swap hF hn h2⟩
theorem VRep.swap (hF : ∀ a, a ≠ q → F2 a = H a) (hn : noLtd (H q)) : ∀ {d : D} {v : V}, VRep K G H d v → VRep K G F2 d v
  | .lst ds, v, h => by
    obtain ⟨a, vs, e, h1, r⟩ := h
    exact ⟨a, vs, e, by rw [hF a fun z => hn.ne (z ▸ h1) fun f z => by cases z]; exact h1, r⟩
  | .obj c fs, v, h => by
    obtain ⟨a, C, dx, vs, e, h1, h2, h3, h4⟩ := h
    exact ⟨a, C, dx, vs, e, h1, by rw [hF a fun z => hn.ne (z ▸ h2) fun f z => by cases z]; exact h2, by rw [hF dx fun z => hn.ne (z ▸ h3) fun f z => by cases z]; exact h3, VFs.swap hF hn h4⟩
  | .exc c xf, v, h => by
    obtain ⟨a, C, e, h2, oe, vs, h3, h4⟩ := h
    exact ⟨a, C, e, h2, oe, vs, by rw [hF a fun z => hn.ne (z ▸ h3) fun f z => by cases z]; exact h3, h4⟩
  | .scr ns, v, h => by
    obtain ⟨a, e, h1⟩ := h
    rcases h1 with h1 | h1
    · exact ⟨a, e, .inl (Rd.swap hF hn (fun f z => by cases z) h1)⟩
    · exact ⟨a, e, .inr h1⟩
  | .tup ds, v, h => by
    obtain ⟨a, vs, e, h1, r⟩ := h
    rcases h1 with h1 | h1
    · exact ⟨a, vs, e, .inl (Rd.swap hF hn (fun f z => by cases z) h1), r⟩
    · exact ⟨a, vs, e, .inr h1, r⟩
  | .dic ds, v, h => by
    obtain ⟨a, kv, e, h1, r⟩ := h
    exact ⟨a, kv, e, by rw [hF a fun z => hn.ne (z ▸ h1) fun f z => by cases z]; exact h1, r⟩
  | .non, _, h => h
  | .bl _, _, h => h
  | .int _, _, h => h
  | .str _, _, h => h
theorem MRep.swap (hF : ∀ a, a ≠ q → F2 a = H a) (hn : noLtd (H q)) : ∀ {d : D} {p : Addr}, MRep K G H d p → p ≠ q ∧ MRep K G F2 d p
  | .lst ds, p, h => by
    obtain ⟨vs, h1, r⟩ := h
    have ne : p ≠ q := fun z => hn.ne (z ▸ h1) fun f z => by cases z
    exact ⟨ne, vs, by rw [hF p ne]; exact h1, r⟩
  | .dic ds, p, h => by
    obtain ⟨vs, h1, r⟩ := h
    have ne : p ≠ q := fun z => hn.ne (z ▸ h1) fun f z => by cases z
    exact ⟨ne, vs, by rw [hF p ne]; exact h1, r⟩
  | .non, _, h => h.elim
  | .bl _, _, h => h.elim
  | .int _, _, h => h.elim
  | .str _, _, h => h.elim
  | .tup _, _, h => h.elim
  | .scr _, _, h => h.elim
  | .exc _ _, _, h => h.elim
  | .obj _ _, _, h => h.elim
abbrev Kn.setF (en : Kn) (F2 : Hp) : Kn := { en with F0 := F2 }
/-- another thing at a place that no slot has -/
theorem Wd.swap (W : Wd K en Δ S G H) (hF : ∀ a, a ≠ q → F2 a = en.F0 a) (hH : ∀ a, a ≠ q → H2 a = H a) (gq : G q = none) (pq : q ∉ en.ps) (nH : noLtd (H q)) (nF : noLtd (en.F0 q)) (fq : ∀ o, F2 q = some o → H2 q = some o) : Wd K (en.setF F2) Δ S G H2 := by
  have ga : ∀ {a : Addr} {o : HO}, G a = some o → a ≠ q := fun e z => by subst z; rw [gq] at e; cases e
  refine ⟨W.len, fun a o e => by rw [hH a (ga e)]; exact W.sub a o e, W.ext, fun a o e => ?_, fun a o e => ?_, fun a ha => ?_, W.nd, fun i sl o h1 h2 => ?_, W.apart⟩
  · rcases W.new a o e with z | ⟨z1, z2⟩
    · exact .inl z
    · exact .inr ⟨(hF a (ga e)).trans z1, z2⟩
  · by_cases z : a = q
    · subst z; exact fq o e
    · have e : F2 a = some o := e
      rw [hF a z] at e
      rw [hH a z]; exact W.frm a o e
  · have z : a ≠ q := fun z => pq (z ▸ ha)
    rw [hH a z]; exact W.stay a ha
  · have k := W.slot i sl o h1 h2
    cases sl with
    | un => trivial
    | fr d => exact k
    | mu d =>
      obtain ⟨p, e, n, f, f2, r⟩ := k
      obtain ⟨ne, r⟩ := r.swap hH nH
      exact ⟨p, e, n, (hF p ne).trans f, f2, r⟩
    | mp _ d =>
      obtain ⟨p, e, f2, n, f, r⟩ := k
      obtain ⟨ne, r⟩ := r.swap hH nH
      exact ⟨p, e, f2, n, (hF p ne).trans f, r⟩
    | bw d =>
      obtain ⟨v, e, ⟨M, hM, r⟩, t⟩ := k
      refine ⟨v, e, ⟨fun a => if a = q then none else M a, fun a o z => ?_, r.swap (q := q) (fun a ha => if_neg ha) ?_⟩, t⟩
      · have z : (if a = q then none else M a) = some o := z
        by_cases ha : a = q
        · rw [if_pos ha] at z; cases z
        · rw [if_neg ha] at z
          exact (hM a o z).imp (fun y => (hF a ha).trans y) id
      · cases z : M q with
        | none => exact .inl rfl
        | some o =>
          rcases hM q o z with y | y
          · rw [← y]; exact nF
          · rw [gq] at y; cases y
    | bo _ => exact k
end
section
variable {X : Cx} {en : Kn} {δ τ : List Slot} {R : Type} {C : Slot → List Slot → Res R → Prop} {m : Res R}
end
end BR

/-! K31: list(zip(a, b, c)) of three lists of one length -/
namespace BR
open PySem PySem.Spec PyProof.Rows L2
/-- a zip of three at N + 5, over iterators at N, N + 1, N + 2; what was told of it last is out, above the list at N + 6 -/
def Z3 (h : Heap) (N l1 l2 l3 : Nat) (xs ys zs : Array Value) (k : Nat) : Prop :=
  ((IsZip h (N + 5 : Nat) (N + 3 : Nat) (N + 4 : Nat) .none ∧ IsTupOf3 h (N + 4 : Nat) .none .none .none) ∨ ∃ (T : Nat) (f : Bool) (oT : Obj), IsZipHeld h (N + 5 : Nat) (N + 3 : Nat) (N + 4 : Nat) T f ∧ h.get? T = some oT ∧ N + 7 ≤ T) ∧
    IsTupOf3 h (N + 3 : Nat) (.ref (N : Nat)) (.ref (N + 1 : Nat)) (.ref (N + 2 : Nat)) ∧ h.IsListIter (N : Nat) l1 k ∧ h.IsListIter (N + 1 : Nat) l2 k ∧ h.IsListIter (N + 2 : Nat) l3 k ∧ h.IsList l1 xs ∧ h.IsList l2 ys ∧ h.IsList l3 zs
theorem Z3.keep {h h' : Heap} {N l1 l2 l3 k : Nat} {xs ys zs : Array Value} (x : Z3 h N l1 l2 l3 xs ys zs k) (b1 : l1 < N) (b2 : l2 < N) (b3 : l3 < N) (hk : ∀ (b : Nat) o, b ≠ N + 6 → h.get? b = some o → h'.get? b = some o) : Z3 h' N l1 l2 l3 xs ys zs k := by
  obtain ⟨st, hT, i1, i2, i3, j1, j2, j3⟩ := x
  refine ⟨?_, hk (N + 3) _ (by omega) hT, i1.at fun o e => hk N _ (by omega) e, i2.at fun o e => hk (N + 1) _ (by omega) e, i3.at fun o e => hk (N + 2) _ (by omega) e, j1.at fun o e => hk l1 _ (by omega) e, j2.at fun o e => hk l2 _ (by omega) e, j3.at fun o e => hk l3 _ (by omega) e⟩
  rcases st with ⟨a, b⟩ | ⟨T, f, oT, a, b, c⟩
  · exact .inl ⟨hk (N + 5) _ (by omega) a, hk (N + 4) _ (by omega) b⟩
  · exact .inr ⟨T, f, oT, hk (N + 5) _ (by omega) a, hk T _ (by omega) b, c⟩
def sep3 (N : Nat) {l1 l2 l3 : Nat} (b1 : l1 < N) (b2 : l2 < N) (b3 : l3 < N) : ZipSep3 (N + 5 : Nat) (N + 3 : Nat) (N + 4 : Nat) (N : Nat) (N + 1 : Nat) (N + 2 : Nat) [(N : Nat), l1] [(N + 1 : Nat), l2] [(N + 2 : Nat), l3] :=
  zip_sep3 (fp1 := [l1]) (fp2 := [l2]) (fp3 := [l3]) (fun b hb => by rw [List.mem_singleton.mp hb]; exact b1) (fun b hb => by rw [List.mem_singleton.mp hb]; exact b2) (fun b hb => by rw [List.mem_singleton.mp hb]; exact b3)
section
variable {prog : Program} {w : World} {A : Around} {E : Value → Shared → Prop} {s : Shared} {N l1 l2 l3 k : Nat} {xs ys zs : Array Value}
structure G3 (xs ys zs : Array Value) (lo : Nat) (h : Heap) (as : List Addr) : Prop where
  rise : as.Pairwise (· < ·)
  above : ∀ (a : Nat), a ∈ as → lo < a
  tri : ∀ (j : Nat) (a : Addr), as[j]? = some a → ∃ x y u, xs[j]? = some x ∧ ys[j]? = some y ∧ zs[j]? = some u ∧ IsTupOf3 h a x y u
theorem G3.there {lo : Nat} {h : Heap} {as : List Addr} (g : G3 xs ys zs lo h as) {a : Nat} (ha : a ∈ as) : a < h.objs.size := by
  obtain ⟨j, hj⟩ := List.mem_iff_getElem?.mp ha
  obtain ⟨_, _, _, _, _, _, e⟩ := g.tri j a hj
  exact Heap.lt_size e
variable {R : Result → Shared → Prop}
end
/-! ### its reading -/
def putV : Hp → List Addr → List (List V) → Hp
  | H, a :: as, p :: ps => putV (upd H a (.tup p)) as ps
  | H, _, _ => H
def z3V : List V → List V → List V → List (List V)
  | x :: xs, y :: ys, z :: zs => [x, y, z] :: z3V xs ys zs
  | _, _, _ => []
def tLZ (K : PySem.W.Frag) (ta : TA) : TE := fun σ H Q => ta σ H fun vs H1 => ∃ (a b c : Addr) (xs ys zs : List V), vs = [.ref a, .ref b, .ref c] ∧ SqL K H1 a xs ∧ SqL K H1 b ys ∧ SqL K H1 c zs ∧ ys.length = xs.length ∧ zs.length = xs.length ∧
  ∀ (H' : Hp) (p : Addr) (ts : List Addr), (∀ b o, H1 b = some o → H' b = some o) → H1 p = none → (∀ t ∈ ts, H1 t = none) → p ∉ ts → H' p = some (.lst (ts.map V.ref)) → ts.length = xs.length → (∀ (j : Nat) t, ts[j]? = some t → ∃ x y u, xs[j]? = some x ∧ ys[j]? = some y ∧ zs[j]? = some u ∧ H' t = some (.tup [x, y, u])) → Q (.ref p) H'
section
variable {X : Cx}
end
/-- triples of three lists -/
def z3L : List D → List D → List D → List D
  | a :: as, b :: bs, c :: cs => .tup [a, b, c] :: z3L as bs cs
  | _, _, _ => []
def zip3 : D → D → D → Option (List D)
  | .lst a, .lst b, .lst c => if b.length = a.length ∧ c.length = a.length then some (z3L a b c) else none
  | _, _, _ => none
section
variable {X : Cx} {en : Kn} {δ τ : List Slot} {R : Type} {C : Slot → List Slot → Res R → Prop} {m : Res R}
end
end BR

/-! K26: {k: v for .. in ..}; x in a list of ints -/
namespace BR
open PySem PySem.Spec PyProof.Rows L2

/-- a dict built turn by turn -/
def dcF {S : Type} : List D → S → List (Key × D) → (D → S → Res (Option (D × D) × S)) → Res (List (Key × D) × S)
  | [], s, acc, _ => .ok (acc, s)
  | d :: ds, s, acc, f => match f d s with
    | .ok (some (x, y), s') => (match keyD x with
      | some k => if acc.length < sizeLine then dcF ds s' (putD acc k y) f else .bad
      | none => .bad)
    | .ok (none, s') => dcF ds s' acc f
    | _ => .bad
section
variable {X : Cx} {en : Kn} {δ τ : List Slot} {R : Type} {C : Slot → List Slot → Res R → Prop} {m : Res R} {K : PySem.W.Frag}
def DTurnE (X : Cx) (scope : Scope) (en : Kn) (δ τ : List Slot) (kx vx : Expr) {S : Type} (pe : S → List Slot) (vs : List Nat) (m : Res (Option (D × D) × S)) : Prop :=
  AllB X scope fun Y => JE Y en δ τ kx (fun s1 δ1 m1 => ∃ x, s1 = .fr x ∧ AllB X scope fun Z => JE Z en δ1 (τ ++ [.fr x]) vx (fun s2 δ2 m2 => ∃ y a', s2 = .fr y ∧ m2 = .ok (some (x, y), a') ∧ Le (wipeS δ2 vs) (pe a') ∧ noBo δ2 = true) m1) m
def DTurnT (X : Cx) (scope : Scope) (en : Kn) (δ τ : List Slot) (ifs : List Expr) (kx vx : Expr) {S : Type} (pe : S → List Slot) (vs : List Nat) (m : Res (Option (D × D) × S)) : Prop :=
  match ifs with
  | [] => DTurnE X scope en δ τ kx vx pe vs m
  | [c] => AllB X scope fun Y => JT Y en δ τ c (fun b δ3 m3 => ∃ mA mF, m3 = (if b = true then mA else mF) ∧ DTurnE X scope en δ3 τ kx vx pe vs mA ∧ ∃ a', mF = .ok (none, a') ∧ Le (wipeS δ3 vs) (pe a') ∧ noBo δ3 = true) m
  | _ => False
def DTurn1 (X : Cx) (scope : Scope) (en : Kn) (δ τ : List Slot) (tg : Expr) (ifs : List Expr) (kx vx : Expr) (d : D) {S : Type} (pe : S → List Slot) (vs : List Nat) (m : Res (Option (D × D) × S)) : Prop :=
  AllB X scope fun Y => ∃ is, (∀ i, i ∈ is → i ∈ vs) ∧ JG Y en δ τ tg d is (fun δ2 m2 => DTurnT X scope en δ2 τ ifs kx vx pe vs m2) m
end
/-! ### x in a list of ints -/
def inD (a b : D) : Option Bool := match a with
  | .int i => ((asL b).bind intsD).map fun ns => decide (i ∈ ns)
  | _ => none
def notInD (a b : D) : Option Bool := (inD a b).map (!·)
section
variable {X : Cx}
end
end BR

/-! K27: a list said over -/
namespace BR
open PySem PySem.Spec PyProof.Rows L2
def repD (xs : List D) (k : Int) : List D := (List.replicate k.toNat xs).flatten
def mulX : D → D → Option D
  | .lst xs, .int k => if -(2 ^ 63) ≤ k ∧ k < 2 ^ 63 ∧ xs.length * k.toNat ≤ sizeLine then some (.lst (repD xs k)) else none
  | a, b => mulD a b
section
variable {X : Cx} {K : PySem.W.Frag} {G : Hp}
theorem Reps.rep {ds : List D} {vs : List V} (h : Reps K G ds vs) : ∀ n : Nat, Reps K G (List.replicate n ds).flatten (List.replicate n vs).flatten
  | 0 => rfl
  | n + 1 => by
    rw [List.replicate_succ, List.replicate_succ, List.flatten_cons, List.flatten_cons]
    exact h.append (Reps.rep h n)
/-- a, b = a list of two -/
def uL2 : D → Option (D × D)
  | .lst [a, b] => some (a, b)
  | _ => none
end
end BR

/-! K32: a module's number; a, b, c, d = a list of four -/
namespace BR
open PySem PySem.Spec PyProof.Rows L2
section
variable {X : Cx} {en : Kn} {δ τ : List Slot} {R : Type} {C : Slot → List Slot → Res R → Prop} {m : Res R}
theorem je_gi {x : Str} {i : Int} {pos : Pos} (hm : ∃ t, X.mg x = some (.int i t)) (h : C (.fr (.int i)) δ m) (hg : Gl X x := by rfl) (hd : (x == ("__debug__" : Str)) = false := by decide) : JE X en δ τ (.Name x pos) C m := .mk fun hb hx σ ts G H T hl hσ W k => by
  obtain ⟨t, hm⟩ := hm
  exact we_of (pe_glob (v := .int i) hg hm ⟨t, rfl⟩ hd) (k _ _ _ G H h hl (W.out (Grow.refl W.sub) (show Rep _ _ _ _ from rfl)))
def uL4 : D → Option (D × D × D × D)
  | .lst [a, b, c, d] => some (a, b, c, d)
  | _ => none
theorem gi_mk {K : PySem.W.Frag} {mg : Str → Option Value} {h : Heap} {x : Str} {i : Int} {t : Tok} (X : K.In h) (G : h.Ns mainGlobals mg) (g : PySem.W.nsIn K mainGlobals x = some (some (.int i t))) : ∃ t, mg x = some (.int i t) := ⟨t, PySem.W.mg_of X G g⟩
end
end BR

/-! K33: a loop over range(a, b) of numbers of any size -/
namespace BR
open PySem PySem.Spec PyProof.Rows L2
def iRng2B (ta : TA) : TI := fun σ H R => ta σ H fun vs H1 => ∃ i j : Int, vs = [.int i, .int j] ∧ R (Itr i (j - i).toNat) H1
/-- the numbers of range(a, b), whatever their size -/
def rngB : List D → Option (List D)
  | [.int i, .int j] => some (upto i (j - i).toNat)
  | _ => none
section
variable {X : Cx} {en : Kn} {δ : List Slot} {R : Type} {m : Res R}
end
end BR

/-! K28: told lists that are changed behind -/
namespace BR
open PySem PySem.Spec PyProof.Rows L2

mutual
/-- no list, no dict, nowhere within -/
def flD : D → Bool
  | .lst _ => false
  | .dic _ => false
  | .scr _ => false
  | .exc _ _ => false
  | .obj _ _ => false
  | .tup ds => flDs ds
  | _ => true
def flDs : List D → Bool
  | [] => true
  | d :: ds => flD d && flDs ds
end
/-- .. but at its top -/
def flT : D → Bool
  | .lst ds => flDs ds
  | .tup ds => flDs ds
  | .dic _ => false
  | .scr _ => false
  | .exc _ _ => false
  | .obj _ _ => false
  | _ => true
/-- neither heap nor text: numbers, truths, None, texts -/
def scD : D → Bool
  | .int _ => true
  | .bl _ => true
  | .non => true
  | .str _ => true
  | _ => false
def flZ (z : Bool × D) : Bool := if z.1 = true then flD z.2 else flT z.2
def chk (ds : List (Bool × D)) : Option Unit := if ds.all flZ = true then some () else none
/-- what stands fast, but lists and dicts -/
def noL (G : Hp) : Hp := fun a => match G a with
  | some (.lst _) => none
  | some (.dK _) => none
  | o => o
def uni (A B : Hp) : Hp := fun a => match A a with
  | some o => some o
  | none => B a
section
variable {K : PySem.W.Frag} {G H : Hp}
theorem noL_at {a : Addr} {o : HO} (h : noL G a = some o) : G a = some o ∧ ∀ xs, o ≠ .lst xs := by
  unfold noL at h
  split at h
  · cases h
  · cases h
  · rename_i z _
    exact ⟨h, fun xs e => z xs (by rw [h, e])⟩
theorem noL_sub : Sub (noL G) G := fun a o h => (noL_at h).1
theorem noL_some {a : Addr} {o : HO} (h : G a = some o) (n : ∀ xs, o ≠ .lst xs) (n2 : ∀ xs, o ≠ .dK xs) : noL G a = some o := by
  unfold noL
  rw [h]
  cases o <;> first | rfl | exact absurd rfl (n _) | exact absurd rfl (n2 _)
theorem sqt_noL {a : Addr} {vs : List V} (h : SqT K G a vs) : SqT K (noL G) a vs := by
  rcases h with (h | ⟨o, h⟩) | h
  · exact .inl (.inl (noL_some h (fun _ z => nomatch z) (fun _ z => nomatch z)))
  · exact .inl (.inr ⟨o, noL_some h (fun _ z => nomatch z) (fun _ z => nomatch z)⟩)
  · exact .inr h
mutual
theorem Rep.noL : ∀ {d : D} {v : V}, flD d = true → Rep K G d v → Rep K (noL G) d v
  | .non, _, _, h => h
  | .bl _, _, _, h => h
  | .int _, _, _, h => h
  | .str _, _, _, h => h
  | .lst _, _, f, _ => (Bool.false_ne_true f).elim
  | .dic _, _, f, _ => (Bool.false_ne_true f).elim
  | .scr _, _, f, _ => (Bool.false_ne_true f).elim
  | .exc _ _, _, f, _ => (Bool.false_ne_true f).elim
  | .obj _ _, _, f, _ => (Bool.false_ne_true f).elim
  | .tup ds, _, f, h => by
    obtain ⟨a, vs, e, q, r⟩ := h
    exact ⟨a, vs, e, sqt_noL q, Reps.noL (ds := ds) f r⟩
theorem Reps.noL : ∀ {ds : List D} {vs : List V}, flDs ds = true → Reps K G ds vs → Reps K (noL G) ds vs
  | [], _, _, h => h
  | d :: ds, _, f, h => by
    obtain ⟨v, r, e, h1, h2⟩ := h
    have f' : (flD d && flDs ds) = true := f
    rw [Bool.and_eq_true] at f'
    exact ⟨v, r, e, Rep.noL f'.1 h1, Reps.noL f'.2 h2⟩
end
theorem vrep_noL {d : D} {v : V} (f : flT d = true) (h : VRep K G H d v) : VRep K (noL G) H d v := by
  cases d with
  | lst ds => obtain ⟨a, vs, e, q, r⟩ := h; exact ⟨a, vs, e, q, Reps.noL f r⟩
  | tup ds => obtain ⟨a, vs, e, q, r⟩ := h; exact ⟨a, vs, e, q, Reps.noL f r⟩
  | dic _ => exact (Bool.false_ne_true f).elim
  | scr _ => exact (Bool.false_ne_true f).elim
  | exc _ _ => exact (Bool.false_ne_true f).elim
  | obj _ _ => exact (Bool.false_ne_true f).elim
  | non => exact h
  | bl _ => exact h
  | int _ => exact h
  | str _ => exact h
theorem brep_noL {F : Hp} {d : D} {v : V} (g : Sub G H) (s : Sub F H) (f : flT d = true) (h : BRep K G F d v) : BRep K (noL G) H d v := by
  refine BRep.mk (vrep_noL f (BRep.vv g s h)) fun t => ?_
  cases d <;> first | exact Rep.noL f (h.2 t) | cases t
theorem uni_l {A B : Hp} : Sub A (uni A B) := fun a o h => by unfold uni; rw [h]
theorem uni_r {A B : Hp} (ha : Sub A H) (hb : Sub B H) : Sub B (uni A B) := fun a o h => by
  unfold uni
  cases e : A a with
  | none => exact h
  | some u =>
    have h1 := ha a u e
    have h2 := hb a o h
    rw [h1] at h2
    exact h2
theorem uni_sub {A B : Hp} (ha : Sub A H) (hb : Sub B H) : Sub (uni A B) H := fun a o h => by
  unfold uni at h
  cases e : A a with
  | none => rw [e] at h; exact hb a o h
  | some u => rw [e] at h; cases h; exact ha a _ e
end
/-- what may be read of a name's slot -/
def Slot.rdp : Slot → Option D
  | .fr d => some d
  | .mu d => some d
  | .mp _ d => some d
  | .bw d => some d
  | _ => none
/-- the names, read alone: ds what is read (true: it may be kept) -/
def PV : List Slot → List Slot → List (Bool × D) → Prop
  | [], [], [] => True
  | _ :: δ, .un :: δ', ds => PV δ δ' ds
  | s :: δ, .bw d :: δ', e :: ds => s.rdp = some d ∧ e = (false, d) ∧ PV δ δ' ds
  | s :: δ, .fr d :: δ', e :: ds => s.rdp = some d ∧ e = (true, d) ∧ PV δ δ' ds
  | _, _, _ => False
theorem pv_n : PV [] [] [] := trivial
theorem pv_u {s : Slot} {δ δ' : List Slot} {ds : List (Bool × D)} (h : PV δ δ' ds) : PV (s :: δ) (.un :: δ') ds := h
theorem pv_c {s : Slot} {d : D} {δ δ' : List Slot} {ds : List (Bool × D)} (e : s.rdp = some d) (h : PV δ δ' ds) : PV (s :: δ) (.bw d :: δ') ((false, d) :: ds) := ⟨e, rfl, h⟩
theorem PV.len : ∀ {δ δ' : List Slot} {ds : List (Bool × D)}, PV δ δ' ds → δ'.length = δ.length
  | [], [], [], _ => rfl
  | _ :: δ, .un :: δ', ds, h => by rw [List.length_cons, List.length_cons, PV.len (δ := δ) (δ' := δ') h]
  | _ :: δ, .bw _ :: δ', _ :: ds, h => by rw [List.length_cons, List.length_cons, PV.len h.2.2]
  | _ :: δ, .fr _ :: δ', _ :: ds, h => by rw [List.length_cons, List.length_cons, PV.len h.2.2]
  | [], [], _ :: _, h => h.elim
  | [], _ :: _, _, h => h.elim
  | _ :: _, [], _, h => h.elim
  | _ :: _, .bw _ :: _, [], h => h.elim
  | _ :: _, .fr _ :: _, [], h => h.elim
  | _ :: _, .mu _ :: _, _, h => h.elim
  | _ :: _, .mp _ _ :: _, _, h => h.elim
  | _ :: _, .bo _ :: _, _, h => h.elim
theorem PV.get : ∀ {δ δ' : List Slot} {ds : List (Bool × D)} {i : Nat} {sl : Slot}, PV δ δ' ds → δ'[i]? = some sl → sl = .un ∨ ∃ d s b, ((b = false ∧ sl = .bw d) ∨ (b = true ∧ sl = .fr d)) ∧ (b, d) ∈ ds ∧ δ[i]? = some s ∧ s.rdp = some d
  | [], [], [], _, _, _, e => by simp at e
  | s :: δ, .un :: δ', ds, 0, sl, h, e => .inl (by simpa using e.symm)
  | s :: δ, .un :: δ', ds, i + 1, sl, h, e => by
    rcases PV.get (δ := δ) (δ' := δ') (i := i) h (by simpa using e) with z | ⟨d, s, x, a, b, c, f⟩
    · exact .inl z
    · exact .inr ⟨d, s, x, a, b, by simpa using c, f⟩
  | s :: δ, .bw d :: δ', x :: ds, 0, sl, h, e => by
    have e' : Slot.bw d = sl := by simpa using e
    subst e'
    exact .inr ⟨d, s, false, .inl ⟨rfl, rfl⟩, by rw [h.2.1]; exact List.mem_cons_self, rfl, h.1⟩
  | s :: δ, .bw d :: δ', x :: ds, i + 1, sl, h, e => by
    rcases PV.get (i := i) h.2.2 (by simpa using e) with z | ⟨d, s, x, a, b, c, f⟩
    · exact .inl z
    · exact .inr ⟨d, s, x, a, List.mem_cons_of_mem _ b, by simpa using c, f⟩
  | s :: δ, .fr d :: δ', x :: ds, 0, sl, h, e => by
    have e' : Slot.fr d = sl := by simpa using e
    subst e'
    exact .inr ⟨d, s, true, .inr ⟨rfl, rfl⟩, by rw [h.2.1]; exact List.mem_cons_self, rfl, h.1⟩
  | s :: δ, .fr d :: δ', x :: ds, i + 1, sl, h, e => by
    rcases PV.get (i := i) h.2.2 (by simpa using e) with z | ⟨d, s, x, a, b, c, f⟩
    · exact .inl z
    · exact .inr ⟨d, s, x, a, List.mem_cons_of_mem _ b, by simpa using c, f⟩
  | [], [], _ :: _, _, _, h, _ => h.elim
  | [], _ :: _, _, _, _, h, _ => h.elim
  | _ :: _, [], _, _, _, h, _ => h.elim
  | _ :: _, .bw _ :: _, [], _, _, h, _ => h.elim
  | _ :: _, .fr _ :: _, [], _, _, h, _ => h.elim
  | _ :: _, .mu _ :: _, _, _, _, h, _ => h.elim
  | _ :: _, .mp _ _ :: _, _, _, _, h, _ => h.elim
  | _ :: _, .bo _ :: _, _, _, _, h, _ => h.elim
/-- where all is read alone -/
structure KnP (en en' : Kn) : Prop where
  n : en'.n = en.n
  HX : en'.HX = en.HX
  F0 : Sub en.F0 en'.F0
  st : ∀ a, en'.F0 a = none → a ∉ en'.ps → a ∉ en.ps
theorem Sub.none {A B : Hp} (s : Sub A B) {a : Addr} (h : B a = none) : A a = none := by
  cases z : A a with
  | none => rfl
  | some o => rw [s a o z] at h; cases h
theorem KnP.lk {X : Cx} {en en' : Kn} (h : KnP en en') (l : Lk X en) : Lk X en' := by
  obtain ⟨W, t, k⟩ := l
  exact ⟨W, t, fun x hx cls d σ H' e s => k x (h.HX ▸ hx) cls d σ H' (e.to fun a h1 h2 => ⟨h.F0.none h1, h.st a h1 h2⟩) (h.F0.trans s)⟩
abbrev Kn.pure (en : Kn) (G F : Hp) : Kn := { n := en.n, G0 := G, F0 := F, ps := [], HX := en.HX, h0 := en.h0 }
theorem Wd.knP {K : PySem.W.Frag} {en : Kn} {δ : List Slot} {σ : L2.St} {G H0 H G' : Hp} (W : Wd K en δ σ G H0) (s : Sub H0 H) : KnP en (en.pure G' H) := ⟨rfl, rfl, W.frm.trans s, fun a h _ z => W.stay a z (s.none h)⟩
section
variable {K : PySem.W.Frag} {en : Kn} {δ δ' : List Slot} {σ : L2.St} {G H : Hp}
theorem SlotOk.bread {S : L2.St} {sl : Slot} {d : D} {o : Option V} (s1 : Sub G H) (s2 : Sub en.F0 H) (q : SlotOk K en S G H sl o) (e : sl.rdp = some d) : ∃ v, o = some v ∧ BRep K G H d v := by
  cases sl with
  | un => cases e
  | bo _ => cases e
  | fr d' => cases e; obtain ⟨v, e, r⟩ := q; exact ⟨v, e, BRep.of s1 r⟩
  | mu d' => cases e; obtain ⟨p, e, _, _, _, r⟩ := q; exact ⟨_, e, BRep.mk r.v r.notup⟩
  | mp j d' => cases e; obtain ⟨p, e, _, _, _, r⟩ := q; exact ⟨_, e, BRep.mk r.v r.notup⟩
  | bw d' => cases e; obtain ⟨v, e, r⟩ := q; exact ⟨v, e, BRep.sub (Sub.refl _) s2 r⟩
theorem BRep.fast {d : D} {v : V} (f : flD d = true) (h : BRep K G H d v) : Rep K G d v := by
  obtain ⟨⟨M, hM, r⟩, t⟩ := h
  cases d with
  | lst _ => exact (Bool.false_ne_true f).elim
  | dic _ => exact (Bool.false_ne_true f).elim
  | scr _ => exact (Bool.false_ne_true f).elim
  | exc _ _ => exact (Bool.false_ne_true f).elim
  | obj _ _ => exact (Bool.false_ne_true f).elim
  | tup _ => exact t rfl
  | non => exact r
  | bl _ => exact r
  | int _ => exact r
  | str _ => exact r
theorem flT_of {d : D} (f : flD d = true) : flT d = true := by cases d <;> first | exact f | exact (Bool.false_ne_true f).elim
theorem chk_all {ds : List (Bool × D)} {z : Bool × D} (h : chk ds = some ()) (hd : z ∈ ds) : flZ z = true := by
  unfold chk at h
  split at h
  · rename_i y; exact List.all_eq_true.mp y z hd
  · cases h
theorem chk_T {ds : List (Bool × D)} {z : Bool × D} (h : chk ds = some ()) (hd : z ∈ ds) : flT z.2 = true := by
  have := chk_all h hd
  unfold flZ at this
  split at this
  · exact flT_of this
  · exact this
theorem pureOf {ds : List (Bool × D)} {Gp : Hp} (hl : δ.length = σ.length) (hp : PV δ δ' ds) (hc : chk ds = some ()) (sg : Sub Gp H) (hb : ∀ (i : Nat) (z : Bool × D) (o : Option V) (s : Slot), δ[i]? = some s → σ[i]? = some o → s.rdp = some z.2 → z ∈ ds → ∃ v, o = some v ∧ BRep K Gp H z.2 v) : Wd K (en.pure Gp H) δ' σ Gp H where
  len := hp.len.trans hl
  sub := sg
  ext := Sub.refl _
  new := fun a o e => .inl e
  frm := Sub.refl _
  stay := fun a h => by cases h
  nd := List.nodup_nil
  slot := fun i sl o h1 h2 => by
    rcases hp.get h1 with z | ⟨d, s, b, e, hd, hs, hr⟩
    · subst z; trivial
    · obtain ⟨v, ev, r⟩ := hb i (b, d) o s hs h2 hr hd
      rcases e with ⟨eb, e⟩ | ⟨eb, e⟩
      · subst e; exact ⟨v, ev, r⟩
      · subst e eb
        have f := chk_all hc hd
        exact ⟨v, ev, r.fast f⟩
  apart := fun i j p h1 _ => by
    obtain ⟨sl, e1, e2, _⟩ := h1
    rcases hp.get e1 with z | ⟨d, s, b, ⟨_, e⟩ | ⟨_, e⟩, _⟩
    · subst z; cases e2
    · subst e; cases e2
    · subst e; cases e2
/-- a name set where nothing is known of it -/
theorem Wd.blank (W : Wd K en δ σ G H) (hb : noBo δ = true) (i : Nat) (o : Option V) : Wd K en (δ.set i .un) (σ.set i o) G H where
  len := by rw [List.length_set, List.length_set]; exact W.len
  sub := W.sub
  ext := W.ext
  new := W.new
  frm := W.frm
  stay := W.stay
  nd := W.nd
  slot := fun j sl u h1 h2 => by
    by_cases hj : i = j
    · subst hj
      by_cases hi : i < δ.length
      · rw [List.getElem?_set_self hi] at h1; cases h1; trivial
      · rw [List.getElem?_eq_none (by rw [List.length_set]; omega)] at h1; cases h1
    · rw [List.getElem?_set_ne hj] at h1 h2
      have q := W.slot j sl u h1 h2
      cases sl with
      | un => trivial
      | fr d => exact q
      | mu d => exact q
      | mp j d => exact q
      | bw d => exact q
      | bo k => exact (noBo_get hb h1).elim
  apart := fun j k p h1 h2 => by
    have key : ∀ j : Nat, Own (δ.set i .un) (σ.set i o) j p → Own δ σ j p := fun j ⟨sl, e1, e2, e3⟩ => by
      by_cases hj : i = j
      · subst hj
        by_cases hi : i < δ.length
        · rw [List.getElem?_set_self hi] at e1; cases e1; cases e2
        · rw [List.getElem?_eq_none (by rw [List.length_set]; omega)] at e1; cases e1
      · rw [List.getElem?_set_ne hj] at e1 e3
        exact ⟨sl, e1, e2, e3⟩
    exact W.apart j k p (key j h1) (key k h2)
theorem Grow.more {H' : Hp} (s : Sub G H) (h : Sub H H') : Grow G H G H' := ⟨Sub.refl _, h, s.trans h, fun _ _ e => .inl e⟩
end
section
variable {X : Cx} {en : Kn} {R : Type}
/-- the name i has something told, whose lists are new and nobody else's: d -/
structure JX (X : Cx) (en : Kn) (δ : List Slot) (i : Nat) (d : D) (sts : List Stmt) {R : Type} (N : List Slot → Res R → Prop) (RT : Slot → List Slot → Res R → Prop) (BK CT : List Slot → Res R → Prop) (m : Res R) : Prop where
  run : m ≠ .bad → en.HX m.exc → ∀ (σ : L2.St) (G H0 H G1 : Hp) (E : Ends) (v : V), δ.length = en.n → σ[i]? = some (some v) → Wd X.K en δ σ G H0 → Sub H0 H → Sub G1 H → (∀ a o, G1 a = some o → noL G a = some o ∨ H0 a = none) → Rep X.K G1 d v →
    (∀ δ' σ' G' H', N δ' m → δ'.length = en.n → Wd X.K en δ' σ' G' H' → E.nx σ' H') →
    (∀ sl δ' v σ' G' H', RT sl δ' m → δ'.length = en.n → Wd X.K en (δ' ++ [sl]) (σ' ++ [some v]) G' H' → E.rt v H') →
    (∀ δ' σ' G' H', BK δ' m → δ'.length = en.n → Wd X.K en δ' σ' G' H' → E.bk σ' H') →
    (∀ δ' σ' G' H', CT δ' m → δ'.length = en.n → Wd X.K en δ' σ' G' H' → E.ct σ' H') → WSs X sts E σ H
variable {δ : List Slot} {N : List Slot → Res R → Prop} {RT : Slot → List Slot → Res R → Prop} {BK CT : List Slot → Res R → Prop} {m : Res R} {pos : Pos}
/-- x = e, where e is worked out by reading alone: what it tells is new -/
theorem jss_told {x : Str} {e : Expr} {rest : List Stmt} {p : Pos} {δP : List Slot} {ds : List (Bool × D)} (i : Nat) (hN : X.N.Nodup) {k : Unit → Res R} (hp : PV δ δP ds) (hnb : noBo δ = true) (hin : i < δ.length) (em : m = op (chk ds) k)
    (h : ∀ en', KnP en en' → JE X en' δP [] e (fun sl _ m1 => ∃ d δ', sl = .fr d ∧ δ.set i .un = δ' ∧ JX X en δ' i d rest N RT BK CT m1) (k ()))
    (hi : X.N[i]? = some x := by rfl) (hx : Loc X.env.scope x := by first | exact Or.inl rfl | exact Or.inr rfl)
    (hs : swapsWith e (some (.Name x p)) pos.line X.env = pure false := by rfl) (hf : X.fn x = true ∨ X.env.scope.names.lookup x = some .local := by first | exact .inl rfl | exact .inr rfl) :
    JSs X en δ (.Assign [.Name x p] e pos :: rest) N RT BK CT m := .mk fun hb hx' σ G H E hl W k1 k2 k3 k4 => by
  have hb' := hb
  rw [em] at hb'
  obtain ⟨u, eu⟩ := op_some hb'
  have em' : m = k () := by rw [em, eu]; rfl
  subst em'
  have hls : δ.length = σ.length := hl.trans (W.sl hl).symm
  have Wp : Wd X.K (en.pure (noL G) H) δP σ (noL G) H := pureOf (en := en) hls hp eu (noL_sub.trans W.sub) fun j z o s h1 h2 h3 h4 => by
    obtain ⟨v, e1, r⟩ := SlotOk.bread W.sub W.frm (W.slot j s o h1 h2) h3
    exact ⟨v, e1, brep_noL W.sub (Sub.refl _) (chk_T eu h4) r⟩
  refine wss_of (pss_cons ps_ws pss_wss) (ws_of (ps_set hN hi hx pe_we hs hf) ?_)
  have hlp : δP.length = en.n := hp.len.trans hl
  refine JE.at (h (en.pure (noL G) H) (W.knP (Sub.refl _))) hb hx' hlp Wp fun sl δ1 v G1 H1 ⟨d, δ', e1, e2, c⟩ hl1 W1 => ?_
  subst e1 e2
  obtain ⟨v', e, r⟩ := W1.last
  cases e
  have hi' : i < σ.length := by omega
  refine c.run hb hx' (σ.set i (some v)) G H H1 G1 E v (by rw [List.length_set]; exact hl) (by rw [List.getElem?_set_self hi']) (W.blank hnb i _) W1.frm W1.sub (fun a o ea => ?_) r k1 k2 k3 k4
  rcases W1.new a _ ea with q | q
  · exact .inl q
  · exact .inr q.1
/-- a told list is new -/
theorem newL {G G1 H0 : Hp} (new : ∀ a o, G1 a = some o → noL G a = some o ∨ H0 a = none) {a : Addr} {xs : List V} (h : G1 a = some (.lst xs)) : H0 a = none := (new a _ h).elim (fun q => absurd rfl ((noL_at q).2 xs)) id
/-- the names read in a test: what stands fast stays so -/
def Slot.tv : Slot → Slot
  | .fr d => .fr d
  | .bw d => .bw d
  | .mu d => .bw d
  | .mp _ d => .bw d
  | _ => .un
theorem tv_set {δ : List Slot} {i j : Nat} {d : D} {sl : Slot} (h : ((δ.map Slot.tv).set i (.fr d))[j]? = some sl) : (j = i ∧ sl = .fr d) ∨ (j ≠ i ∧ ∃ s, δ[j]? = some s ∧ s.tv = sl) := by
  by_cases hj : i = j
  · subst hj
    by_cases hi : i < δ.length
    · rw [List.getElem?_set_self (by rw [List.length_map]; exact hi)] at h
      exact .inl ⟨rfl, (Option.some.inj h).symm⟩
    · rw [List.getElem?_eq_none (by rw [List.length_set, List.length_map]; omega)] at h; cases h
  · rw [List.getElem?_set_ne hj, List.getElem?_map] at h
    obtain ⟨s, h1, h2⟩ := Option.map_eq_some_iff.mp h
    exact .inr ⟨fun e => hj e.symm, s, h1, h2⟩
theorem Wd.test {K : PySem.W.Frag} {δ : List Slot} {σ : L2.St} {G H0 H G1 : Hp} {i : Nat} {d : D} {v : V} (W : Wd K en δ σ G H0) (hv : σ[i]? = some (some v)) (s0 : Sub H0 H) (s1 : Sub G1 H) (r : Rep K G1 d v) :
    Wd K (en.pure (uni G G1) H) ((δ.map Slot.tv).set i (.fr d)) σ (uni G G1) H where
  len := by rw [List.length_set, List.length_map]; exact W.len
  sub := uni_sub (W.sub.trans s0) s1
  ext := Sub.refl _
  new := fun a o e => .inl e
  frm := Sub.refl _
  stay := fun a h => by cases h
  nd := List.nodup_nil
  slot := fun j sl o h1 h2 => by
    rcases tv_set h1 with ⟨e, e2⟩ | ⟨_, s, hs, e⟩
    · subst e e2
      rw [hv] at h2
      cases h2
      exact ⟨v, rfl, Rep.sub (uni_r (W.sub.trans s0) s1) _ _ r⟩
    · subst e
      have q := W.slot j s o hs h2
      cases s with
      | un => trivial
      | bo _ => trivial
      | fr d => obtain ⟨v, e, r⟩ := q; exact ⟨v, e, Rep.sub uni_l _ _ r⟩
      | mu d => obtain ⟨p, e, _, _, _, r⟩ := q; exact ⟨_, e, BRep.sub uni_l s0 (BRep.mk r.v r.notup)⟩
      | mp j d => obtain ⟨p, e, _, _, _, r⟩ := q; exact ⟨_, e, BRep.sub uni_l s0 (BRep.mk r.v r.notup)⟩
      | bw d => obtain ⟨v, e, r⟩ := q; exact ⟨v, e, BRep.sub uni_l (W.frm.trans s0) r⟩
  apart := fun a b p h1 _ => by
    obtain ⟨sl, e1, e2, _⟩ := h1
    rcases tv_set e1 with ⟨_, e⟩ | ⟨_, s, _, e⟩
    · subst e; cases e2
    · subst e
      cases s <;> cases e2
/-- if c: A, where A leads out -/
theorem jx_if {i : Nat} {d : D} {c : Expr} {A rest : List Stmt} {δT : List Slot} (hT : (δ.map Slot.tv).set i (.fr d) = δT)
    (h : ∀ en', KnP en en' → JT X en' δT [] c (fun t _ m1 => ∃ mA mB, m1 = (if t = true then mA else mB) ∧ JSs X en δ A (fun _ _ => False) RT BK CT mA ∧ JX X en δ i d rest N RT BK CT mB) m) : JX X en δ i d (.If c A [] pos :: rest) N RT BK CT m := .mk fun hb hx σ G H0 H G1 E v hl hv W s0 s1 new r k1 k2 k3 k4 => by
  have WT := W.test (d := d) hv s0 s1 r
  rw [hT] at WT
  have hlT : δT.length = en.n := by rw [← hT, List.length_set, List.length_map]; exact hl
  refine wss_of (pss_cons ps_ws pss_wss) (ws_of (ps_if pt_wt pss_wss pss_wss) (JT.at (h (en.pure (uni G G1) H) (W.knP s0)) hb hx hlT WT fun t δ1 G2 H2 ⟨mA, mB, em, h1, h2⟩ hl1 W1 => ?_))
  have sH : Sub H0 H2 := s0.trans W1.frm
  cases t with
  | true =>
    have e : m = mA := em
    subst e
    exact iteT (h1.run hb hx σ G H2 _ hl (W.grow (Grow.more W.sub sH)) (fun _ _ _ _ z => z.elim) k2 k3 k4)
  | false =>
    have e : m = mB := em
    subst e
    exact iteF (wss_of pss_nil (h2.run hb hx σ G H0 H2 G1 E v hl hv W sH (s1.trans W1.frm) new r k1 k2 k3 k4))
def scs (ds : List D) : Option Unit := if ds.all scD = true then some () else none
end
end BR

/-! K29: a told thing's lists changed -/
namespace BR
open PySem PySem.Spec PyProof.Rows L2
/-- but one name nothing is known: it has the list of the caller's that may be changed -/
def dm (n ix : Nat) (l : List D) : List Slot := (List.replicate n Slot.un).set ix (.mp 0 (.lst l))
theorem dm_get {n ix i : Nat} {l : List D} {sl : Slot} (h : (dm n ix l)[i]? = some sl) : sl = .un ∨ (i = ix ∧ sl = .mp 0 (.lst l)) := by
  unfold dm at h
  by_cases hi : ix = i
  · subst hi
    by_cases hn : ix < n
    · rw [List.getElem?_set_self (by rw [List.length_replicate]; exact hn)] at h
      exact .inr ⟨rfl, (Option.some.inj h).symm⟩
    · rw [List.getElem?_eq_none (by rw [List.length_set, List.length_replicate]; omega)] at h; cases h
  · rw [List.getElem?_set_ne hi, List.getElem?_replicate] at h
    split at h
    · exact .inl (Option.some.inj h).symm
    · cases h
theorem dm_at {n ix : Nat} {l : List D} (h : ix < n) : (dm n ix l)[ix]? = some (.mp 0 (.lst l)) := by
  unfold dm
  rw [List.getElem?_set_self (by rw [List.length_replicate]; exact h)]
theorem dm_len {n ix : Nat} {l : List D} : (dm n ix l).length = n := by unfold dm; rw [List.length_set, List.length_replicate]
section
variable {X : Cx} {en : Kn} {R : Type}
/-- statements that change the name's list alone -/
def Spl (X : Cx) (en : Kn) (n ix : Nat) : List (Expr × Pos) → List D → Res (List D) → Prop
  | [], l, m => m = .ok l
  | e :: sts, l, m => swapsWith e.1 none e.2.line X.env = pure false ∧ ∀ en', KnP en en' → JE X en' (dm n ix l) [] e.1 (fun _ δ' m1 => ∃ l', δ' = dm n ix l' ∧ Spl X en n ix sts l' m1) m
theorem spl_e {n ix : Nat} {e : Expr} {pos : Pos} {sts : List (Expr × Pos)} {l : List D} {m : Res (List D)} (h : ∀ en', KnP en en' → JE X en' (dm n ix l) [] e (fun _ δ' m1 => ∃ l', δ' = dm n ix l' ∧ Spl X en n ix sts l' m1) m) (hs : swapsWith e none pos.line X.env = pure false := by rfl) : Spl X en n ix ((e, pos) :: sts) l m := ⟨hs, h⟩
def exs' (es : List (Expr × Pos)) : List Stmt := es.map fun e => .Expr e.1 e.2
abbrev Kn.alone (en : Kn) (G H : Hp) (a : Addr) : Kn := { n := en.n, G0 := G, F0 := hide H [a], ps := [a], HX := en.HX, h0 := en.h0 }
theorem Wd.alone {K : PySem.W.Frag} {n ix : Nat} {l : List D} {σ : L2.St} {G H : Hp} {a : Addr} (hn : en.n = n) (hσ : σ.length = n) (ha : σ[ix]? = some (some (.ref a))) (sg : Sub G H) (ga : G a = none) (r : MRep K G H (.lst l) a) :
    Wd K (en.alone G H a) (dm n ix l) σ G H where
  len := dm_len.trans hσ.symm
  sub := sg
  ext := Sub.refl _
  new := fun a o e => .inl e
  frm := hide_sub
  stay := fun b hb => by
    rw [List.mem_singleton.mp hb]
    obtain ⟨o, e⟩ := r.ex
    rw [e]; simp
  nd := by simp
  slot := fun i sl o h1 h2 => by
    rcases dm_get h1 with e | ⟨e, e2⟩
    · subst e; trivial
    · subst e e2
      rw [ha] at h2
      cases h2
      exact ⟨a, rfl, rfl, ga, hide_none List.mem_cons_self, r⟩
  apart := fun i j p h1 h2 => by
    obtain ⟨s1, e1, f1, _⟩ := h1
    obtain ⟨s2, e2, f2, _⟩ := h2
    rcases dm_get e1 with e | ⟨e, _⟩
    · subst e; cases f1
    · rcases dm_get e2 with e' | ⟨e', _⟩
      · subst e'; cases f2
      · rw [e, e']
/-- what such statements leave -/
theorem spl_run {n ix : Nat} (hn : en.n = n) : ∀ {sts : List (Expr × Pos)} {l : List D} {m : Res (List D)}, Spl X en n ix sts l m → m ≠ .bad → en.HX m.exc → ∀ (σ : L2.St) (G H : Hp) (a : Addr) (E : Ends), σ.length = n → ix < n → σ[ix]? = some (some (.ref a)) → Sub G H → G a = none → en.F0 a = none → Sub en.F0 H → (∀ b, b ∈ en.ps → H b ≠ none) → MRep X.K G H (.lst l) a →
    (∀ l' G' H', m = .ok l' → Sub G G' → Sub G' H' → Sub (hide H [a]) H' → G' a = none → MRep X.K G' H' (.lst l') a → (∀ b o, G' b = some o → G b = some o ∨ H b = none) → E.nx σ H') → WSs X (exs' sts) E σ H
  | [], l, m, h, _, _, σ, G, H, a, E, _, _, _, sg, ga, _, _, _, r, k => wss_of pss_nil (k l G H h (Sub.refl _) sg hide_sub ga r fun _ _ e => .inl e)
  | (e, pos) :: sts, l, m, h, hb, hx, σ, G, H, a, E, hσ, hix, ha, sg, ga, fa, sf, sy, r, k => by
    obtain ⟨hs, h⟩ := h
    have W := Wd.alone (en := en) hn hσ ha sg ga r
    have hF : Sub en.F0 (hide H [a]) := fun b o e => by
      rw [hide_some (fun z => by rw [List.mem_singleton.mp z, fa] at e; cases e)]
      exact sf b o e
    refine wss_of (pss_cons ps_ws pss_wss) (ws_of (ps_expr pe_we hs) (JE.at (h (en.alone G H a) ⟨rfl, rfl, hF, fun b h1 h2 h3 => sy b h3 (by rw [← h1]; exact (hide_some h2).symm)⟩) hb hx (by rw [dm_len]; exact hn.symm) W fun sl δ1 v G1 H1 ⟨l', e1, c⟩ hl1 W1 => ?_))
    subst e1
    have W2 := W1.one (by rw [dm_len]; exact hn.symm) (hσ.trans hn.symm)
    obtain ⟨p, ep, e2, n1, f1, r1⟩ := W2.slot ix _ _ (dm_at hix) ha
    have eap : a = p := Option.some.inj e2
    cases ep
    refine spl_run hn c hb hx σ G1 H1 a E hσ hix ha W2.sub n1 fa (hF.trans W2.frm) (fun b hb z => by
      by_cases hba : b = a
      · exact W2.stay b (List.mem_singleton.mpr hba) z
      · have := W2.frm.none z
        exact sy b hb (by rw [← this]; exact (hide_some (by simpa using hba)).symm)) r1 fun l2 G2 H2 em2 g1 g2 g3 g4 g5 g6 => k l2 G2 H2 em2 (W2.ext.trans g1) g2 (fun b o eb => ?_) g4 g5 fun b o eb => ?_
    · have hba : b ∉ [a] := fun z => by
        rw [hide_none z] at eb; cases eb
      refine g3 b o ?_
      rw [hide_some hba]
      exact W2.frm b o eb
    · rcases g6 b o eb with q | q
      · rcases W2.new b o q with z | ⟨z, z2⟩
        · exact .inl z
        · have z' : hide H [a] b = none := z
          rw [hide_some z2] at z'
          exact .inr z'
      · refine .inr ?_
        by_cases hba : b = a
        · subst hba
          obtain ⟨o1, e1⟩ := r1.ex
          rw [e1] at q; cases q
        · cases z : H b with
          | none => rfl
          | some u =>
            have := W2.frm b u (by show hide H [a] b = some u; rw [hide_some (by simpa using hba)]; exact z)
            rw [this] at q; cases q
/-- a told list of lists: all of them flat and short -/
def okL : D → Bool
  | .lst l => flDs l && decide (l.length < 1000)
  | _ => false
def chkL (d : D) : Option Unit := match d with
  | .lst ds => if ds.all okL = true ∧ ds.length < 9000 then some () else none
  | _ => none
variable {δ : List Slot} {N : List Slot → Res R → Prop} {RT : Slot → List Slot → Res R → Prop} {BK CT : List Slot → Res R → Prop} {m : Res R} {pos : Pos}
theorem set_same {α : Type} {l : List α} {i : Nat} {a : α} (h : l[i]? = some a) : l.set i a = l := by
  apply List.ext_getElem?
  intro j
  by_cases hj : i = j
  · subst hj
    rw [List.getElem?_set_self (List.getElem?_eq_some_iff.mp h).1, h]
  · rw [List.getElem?_set_ne hj]
theorem flDs_app : ∀ {a b : List D}, flDs a = true → flDs b = true → flDs (a ++ b) = true
  | [], _, _, h => h
  | x :: a, b, h, g => by
    have h' : (flD x && flDs a) = true := h
    rw [Bool.and_eq_true] at h'
    show (flD x && flDs (a ++ b)) = true
    rw [h'.1, flDs_app h'.2 g]; rfl
theorem hf_app {c : D} (hc : flD c = true) : ∀ l : List D, flDs l = true → l.length < 100000 → ∃ l', op (appL l [c]) (fun a => (.ok a.2 : Res (List D))) = .ok l' ∧ flDs l' = true ∧ l'.length ≤ l.length + 10 := fun l h1 h2 => by
  have e : appL l [c] = some (.non, l ++ [c]) := if_pos (Nat.lt_of_lt_of_le h2 (by decide))
  refine ⟨l ++ [c], by rw [e]; rfl, flDs_app h1 (by show (flD c && true) = true; rw [hc]; rfl), by rw [List.length_append, List.length_singleton]; omega⟩
def lstF : D → Option (List D)
  | .lst l => if flDs l = true then some l else none
  | _ => none
def gF (g : D → List D → Option (D × D)) (l as : List D) : Option Unit := if flDs as = true ∧ (g (.lst l) as).isSome = true then some () else none
def ones' (n i : Nat) (d : D) : List Slot := (List.replicate n Slot.un).set i (.fr d)
end
end BR

/-! K34: pop of a told list behind a change of what is in it -/
namespace BR
open PySem PySem.Spec PyProof.Rows L2
section
variable {X : Cx} {en : Kn} {R : Type}
/-- of the told thing it is known that it is a list that has something -/
structure JPq (X : Cx) (en : Kn) (δ : List Slot) (i : Nat) (sts : List Stmt) {R : Type} (N : List Slot → Res R → Prop) (RT : Slot → List Slot → Res R → Prop) (BK CT : List Slot → Res R → Prop) (m : Res R) : Prop where
  run : m ≠ .bad → en.HX m.exc → ∀ (σ : L2.St) (G H0 H : Hp) (p : Addr) (ws : List V) (E : Ends), δ.length = en.n → σ[i]? = some (some (.ref p)) → H0 p = none → H p = some (.lst ws) → ws ≠ [] → Wd X.K en δ σ G H0 → Sub H0 H →
    (∀ δ' σ' G' H', N δ' m → δ'.length = en.n → Wd X.K en δ' σ' G' H' → E.nx σ' H') →
    (∀ sl δ' v σ' G' H', RT sl δ' m → δ'.length = en.n → Wd X.K en (δ' ++ [sl]) (σ' ++ [some v]) G' H' → E.rt v H') →
    (∀ δ' σ' G' H', BK δ' m → δ'.length = en.n → Wd X.K en δ' σ' G' H' → E.bk σ' H') →
    (∀ δ' σ' G' H', CT δ' m → δ'.length = en.n → Wd X.K en δ' σ' G' H' → E.ct σ' H') → WSs X sts E σ H
def neL : D → Option Unit
  | .lst (_ :: _) => some ()
  | _ => none
variable {δ : List Slot} {N : List Slot → Res R → Prop} {RT : Slot → List Slot → Res R → Prop} {BK CT : List Slot → Res R → Prop} {m : Res R} {pos : Pos}
end
end BR

/-! K35: try .. except X as e, what is caught tracked from there on -/
namespace BR
open PySem PySem.Spec PyProof.Rows L2
section
variable {X : Cx} {pins : List (Addr × Obj)} {σ : L2.St} {H : Hp} {sI s s' : Shared} {B : Heap}
end
section
variable {K : PySem.W.Frag} {en : Kn} {δ : List Slot} {σ : L2.St} {G H : Hp}
/-- an error's dict stands fast too -/
theorem Wd.addx {dd : Addr} {fs : List (Str × V)} (W : Wd K en δ σ G H) (e : H dd = some (.xd fs)) (f : en.F0 dd = none) (n : dd ∉ en.ps) : Wd K en δ σ (upd G dd (.xd fs)) H := by
  have gg : Sub G (upd G dd (.xd fs)) := fun a o q => by
    by_cases ha : a = dd
    · subst ha
      rw [W.sub a o q] at e
      rw [upd_same, e]
    · rw [upd_ne ha]; exact q
  have mn : ∀ {d : D} {p : Addr}, G p = none → MRep K G H d p → upd G dd (.xd fs) p = none := fun {d p} g r => by
    by_cases hp : p = dd
    · subst hp
      cases d <;> first | exact r.elim | skip
      · obtain ⟨_, z, _⟩ := r
        rw [e] at z; cases z
      · obtain ⟨_, z, _⟩ := r
        rw [e] at z; cases z
    · rw [upd_ne hp]; exact g
  exact {
    len := W.len
    sub := fun a o q => by
      by_cases ha : a = dd
      · subst ha
        rw [upd_same] at q
        rw [e]; exact q
      · rw [upd_ne ha] at q; exact W.sub a o q
    ext := W.ext.trans gg
    new := fun a o q => by
      by_cases ha : a = dd
      · subst ha; exact .inr ⟨f, n⟩
      · rw [upd_ne ha] at q; exact W.new a o q
    frm := W.frm
    stay := W.stay
    nd := W.nd
    slot := fun i sl o h1 h2 => by
      have q := W.slot i sl o h1 h2
      cases sl with
      | un => trivial
      | fr d => obtain ⟨v, e, r⟩ := q; exact ⟨v, e, Rep.sub gg _ _ r⟩
      | mu d =>
        obtain ⟨p, e, n, f, f2, r⟩ := q
        exact ⟨p, e, mn n r, f, f2, r.keep gg fun o e => e⟩
      | mp j d =>
        obtain ⟨p, e, f2, n, f, r⟩ := q
        exact ⟨p, e, f2, mn n r, f, r.keep gg fun o e => e⟩
      | bw d => obtain ⟨v, e, r⟩ := q; exact ⟨v, e, BRep.sub gg (Sub.refl _) r⟩
      | bo j => exact q
    apart := W.apart }
theorem Wd.caught {mg : Str → Option Value} {x : Exc} {cls : Value} {d : Option Addr} {C a : Addr} {oe : Obj} {vs : Array Value} (W : Wd K en δ σ G H) (eo : ExcOk mg en.F0 en.ps x cls d H) (gC : mg x.cls = some (.ref C)) (FC : ExcF K x.cls C)
    (na : H a = none) (hz : L2N.Zn cls d oe) (hv : oe.data = .fields vs) : cls = .ref C ∧ ∃ G2, Sub G G2 ∧ G2 a = some (ExO1 oe) ∧ Wd K en (δ ++ [.fr (.exc x.cls x.fs)]) (σ ++ [some (.ref a)]) G2 (upd H a (ExO1 oe)) := by
  obtain ⟨C', gC', rfl, hd⟩ := eo
  rw [gC] at gC'
  have eC : C = C' := Value.ref.inj (Option.some.inj gC')
  subst eC
  refine ⟨rfl, ?_⟩
  have key : ∀ {G1 : Hp}, Sub G G1 → Wd K en δ σ G1 H → ((x.fs = [] ∧ L2N.Zn (.ref C) none oe) ∨ ∃ dd, x.fs ≠ [] ∧ L2N.Zn (.ref C) (some dd) oe ∧ G1 dd = some (.xd (xfV x.fs))) → ∃ G2, Sub G G2 ∧ G2 a = some (ExO1 oe) ∧ Wd K en (δ ++ [.fr (.exc x.cls x.fs)]) (σ ++ [some (.ref a)]) G2 (upd H a (ExO1 oe)) := fun {G1} sg W1 hx => by
    have nG : G1 a = none := by
      cases q : G1 a with
      | none => rfl
      | some o => rw [W1.sub a o q] at na; cases na
    have gr : Grow G1 H (upd G1 a (ExO1 oe)) (upd H a (ExO1 oe)) := ⟨Sub.upd nG, Sub.upd na, fun b o q => by
      by_cases hba : b = a
      · subst hba; rw [upd_same] at q ⊢; exact q
      · rw [upd_ne hba] at q ⊢; exact W1.sub b o q, fun b o q => by
      by_cases hba : b = a
      · subst hba; exact .inr na
      · rw [upd_ne hba] at q; exact .inl q⟩
    have ex : ExAt G1 (upd G1 a (ExO1 oe)) C a x.fs := ⟨oe, vs, upd_same, hv, hx⟩
    exact ⟨upd G1 a (ExO1 oe), sg.trans gr.g, upd_same, W1.out (sl := .fr (.exc x.cls x.fs)) (v := .ref a) gr ⟨a, C, rfl, FC, ex.sub gr.g (Sub.refl _)⟩⟩
  rcases hd with ⟨h1, h2⟩ | ⟨h1, dd, h2, h3, h4, h5⟩
  · subst h2
    exact key (Sub.refl _) W (.inl ⟨h1, hz⟩)
  · subst h2
    have W1 := W.addx h3 h4 h5
    exact key (fun b o q => by
      by_cases hb : b = dd
      · subst hb
        rw [W.sub b o q] at h3
        rw [upd_same, h3]
      · rw [upd_ne hb]; exact q) W1 (.inr ⟨dd, h1, hz, upd_same⟩)
end
/-- what the clause wishes of an error of the body: it is of the clause's class, the suite runs with it tracked -/
def wKept (K : PySem.W.Frag) (c : Value) (i : Nat) (ts : Addr → TS) (D : Ends) : WX := fun cls d σ H =>
  PySem.W.exmOne K cls c = some true ∧ ∀ a oe vs, H a = none → L2N.Zn cls d oe → oe.data = .fields vs → ts a { nx := fun σ' H' => D.nx (σ'.set i none) H', rt := D.rt, bk := fun σ' H' => D.bk (σ'.set i none) H', ct := fun σ' H' => D.ct (σ'.set i none) H' } (σ.set i (some (.ref a))) (upd H a (ExO1 oe))
section
variable {X : Cx} {x n : Str} {c : Value} {i : Nat} {body suite : List Stmt} {b₀ : Stmt} {np pos pos' : Pos} {tb : WX → TS} {ts : Addr → TS}
end
end BR

/-! K36: raise, try around one call, isinstance of what is caught -/
namespace BR
open PySem PySem.Spec PyProof.Rows L2
/-! ### a call at known slots -/
section
variable {X : Cx} {k : Nat} {f : Addr} {fd : FuncData} {ps : List Str} {sp : Sp} {x : Str} {p pos : Pos} {e : Expr} {es : List Expr} {t : TA} {E : L2.St → XK}
end
/-- names as arguments -/
def tIs : List Nat → TA
  | [] => tNil
  | i :: is => tCons (tVar i) (tIs is)
def AN (δ : List Slot) : List Nat → List D → Prop
  | [], [] => True
  | i :: is, d :: ds => (∃ s, δ[i]? = some s ∧ s.rdp = some d) ∧ AN δ is ds
  | _, _ => False
/-! ### what is tried -/
def tryR {α S : Type} (cs : List Str) (m : Res α) (okf : α → S) (h : Str → List (Str × Option Int) → Res S) : Res S := match m with
  | .ok a => .ok (okf a)
  | .raise x => if x.cls ∈ cs then h x.cls x.fs else .bad
  | .bad => .bad
/-- what is known of the classes that may be caught by the class cv -/
def Catch (K : PySem.W.Frag) (mg : Str → Option Value) (cv : Value) (cs : List Str) : Prop := ∀ c, c ∈ cs → ∃ C, mg c = some (.ref C) ∧ ExcF K c C ∧ PySem.W.exmOne K (.ref C) cv = some true
section
variable {X : Cx} {en : Kn} {δ : List Slot} {R : Type} {m : Res R} {N : List Slot → Res R → Prop} {RT : Slot → List Slot → Res R → Prop} {BK CT : List Slot → Res R → Prop} {rest : List Stmt}
/-! ### raise -/
/-- what is known of a class of error that is raised -/
def Raise (K : PySem.W.Frag) (mg : Str → Option Value) (c : Str) : Prop := ∃ C, mg c = some (.ref C) ∧ PySem.W.excIn K C [.type "ValueError", .type "Exception", .type "BaseException", .type "object"] "ValueError.__new__" = true ∧ PySem.W.keepIn K (.ref C) = true ∧
  PySem.W.subIn K (.ref C) (.type "BaseException") = some true ∧ PySem.W.typeIn K (.ref C) = some (.type "type")
end
/-! ### isinstance -/
/-- of what is caught -/
def isE (cs ts : List Str) : D → Option Bool
  | .exc c xf => if c ∈ cs then some (ts.any (subE c)) else none
  | _ => none
def KitF (K : PySem.W.Frag) (mg : Str → Option Value) (cs : List Str) (t : Str) : Prop := ∃ E, mg t = some (.ref E) ∧ ∀ c, c ∈ cs → ∀ C, PySem.W.nsIn K mainGlobals c = some (some (.ref C)) → PySem.W.kitOne K (.ref C) (.ref E) = some (subE c t)
def KitV (K : PySem.W.Frag) (cs : List Str) : Prop := ∀ c, c ∈ cs → ∀ C, PySem.W.nsIn K mainGlobals c = some (some (.ref C)) → PySem.W.kitOne K (.ref C) (.type "ValueError") = some true
/-- class names in a tuple -/
def NmE (X : Cx) : List Str → List Expr → Prop
  | [], [] => True
  | t :: ts, .Name x _ :: es => x = t ∧ Gl X t ∧ (t == ("__debug__" : Str)) = false ∧ NmE X ts es
  | _, _ => False
def tCs : List V → TA
  | [] => tNil
  | v :: vs => tCons (tC v) (tCs vs)
section
variable {X : Cx} {en : Kn} {δ τ : List Slot} {R : Type} {C : Slot → List Slot → Res R → Prop} {m : Res R}
end
/-! ### the first place of a truth -/
def indexD : List D → Option D
  | [.lst ds, .bl k] => (bls ds).bind fun bs => (bs.findIdx? fun b => b == k).map fun j => .int (j : Nat)
  | _ => none
end BR

/-! K37: try around a body of choices between calls -/
namespace BR
open PySem PySem.Spec PyProof.Rows L2
/-- never an error -/
def NR {α : Type} (m : Res α) : Prop := ∀ x, m ≠ .raise x
/-- names as arguments, read or standing fast -/
def AK (δ : List Slot) : List Kd → List Nat → List D → Prop
  | [], [], [] => True
  | .b :: ks, i :: is, d :: ds => (∃ s, δ[i]? = some s ∧ s.rdp = some d) ∧ AK δ ks is ds
  | .f :: ks, i :: is, d :: ds => δ[i]? = some (.fr d) ∧ AK δ ks is ds
  | _, _, _ => False
/-- a body that is tried -/
structure JB (X : Cx) (en : Kn) (δ : List Slot) (body : List Stmt) {S : Type} (pB : S → List Slot) (m : Res S) : Prop where
  run : m ≠ .bad → ∀ (WW : WX) (pn : List (Addr × Obj)) (xe : Value → Shared → Prop), L2N.Takes (X.tr pn xe) WW → ∀ (σ : L2.St) (G H : Hp) (E : Ends), δ.length = en.n → Wd X.K en δ σ G H →
    (∀ a, m = .ok a → ∀ σ' G' H', (pB a).length = en.n → Wd X.K en (pB a) σ' G' H' → E.nx σ' H') →
    (∀ x, m = .raise x → ∀ cls d G' H', ExcOk X.mg en.F0 en.ps x cls d H' → Wd X.K en δ σ G' H' → WW cls d σ H') → WSs (X.tr pn xe) body E σ H
section
variable {X : Cx} {en : Kn} {δ : List Slot} {R : Type} {m : Res R} {N : List Slot → Res R → Prop} {RT : Slot → List Slot → Res R → Prop} {BK CT : List Slot → Res R → Prop} {rest : List Stmt}
end
end BR

/-! K38: a list said over, as an own new one -/
namespace BR
open PySem PySem.Spec PyProof.Rows L2
def mulT (a b : D) : Option (List D) := match a, b with
  | .lst xs, .int k => if -(2 ^ 63) ≤ k ∧ k < 2 ^ 63 ∧ xs.length * k.toNat ≤ sizeLine then some (repD xs k) else none
  | _, _ => none
section
variable {X : Cx} {en : Kn} {δ τ : List Slot} {R : Type} {C : Slot → List Slot → Res R → Prop} {m : Res R}
end
end BR

/-! K39: an expression that only reads: what is this def's own is read like the caller's, and is as it was behind it -/
namespace BR
open PySem PySem.Spec PyProof.Rows L2
def Slot.shd : Slot → Slot
  | .fr d => .fr d
  | .bw d => .bw d
  | .mu d => .bw d
  | .mp _ d => .bw d
  | _ => .un
def Kn.shl (en : Kn) (G H : Hp) : Kn := { en with G0 := G, F0 := H, ps := [] }
structure KnSh (X : Cx) (en en' : Kn) : Prop where
  n : en'.n = en.n
  lk : Lk X en → Lk X en'
section
variable {X : Cx} {en : Kn} {δ τ : List Slot} {R : Type} {C : Slot → List Slot → Res R → Prop} {m : Res R}
end
end BR

/-! K40: [.. for a, b in d.items() ..] over a dict that is read alone, its things and what else is read being plain ones -/
namespace BR
open PySem PySem.Spec PyProof.Rows L2
/-- a thing that lies in no heap -/
def sclD : D → Bool
  | .non => true
  | .bl _ => true
  | .int _ => true
  | .str _ => true
  | _ => false
theorem sclD.rep {K : PySem.W.Frag} {G G' : Hp} {d : D} {v : V} (h : sclD d = true) (r : Rep K G d v) : Rep K G' d v := by
  cases d <;> first | exact r | cases h
theorem sclD.brep {K : PySem.W.Frag} {G F G' : Hp} {d : D} {v : V} (h : sclD d = true) (r : BRep K G F d v) : Rep K G' d v := by
  obtain ⟨⟨M, _, r⟩, _⟩ := r
  cases d <;> first | exact r | cases h
def kD : Key → D
  | .inl i => .int i
  | .inr s => .str s
def itmD (d : D) (ns : List D) : Option (List D) := match d with
  | .dic kvs => if (kvs.all fun p => sclD p.2) = true ∧ ns.all sclD = true then some (kvs.map fun p => .tup [kD p.1, p.2]) else none
  | _ => none
/-- the names that are read within -/
def PS : List Slot → List Slot → List D → Prop
  | [], [], _ => True
  | s :: r, t :: q, ns => (t = .un ∨ ∃ d, t = .fr d ∧ s.rdp = some d ∧ d ∈ ns) ∧ PS r q ns
  | _, _, _ => False
theorem PS.len : ∀ {δ δ2 : List Slot} {ns : List D}, PS δ δ2 ns → δ2.length = δ.length
  | [], [], _, _ => rfl
  | _ :: _, _ :: _, _, h => by rw [List.length_cons, List.length_cons, PS.len h.2]
  | [], _ :: _, _, h => h.elim
  | _ :: _, [], _, h => h.elim
theorem PS.at : ∀ {δ δ2 : List Slot} {ns : List D} {i : Nat} {t : Slot}, PS δ δ2 ns → δ2[i]? = some t → t = .un ∨ ∃ d s, t = .fr d ∧ δ[i]? = some s ∧ s.rdp = some d ∧ d ∈ ns
  | [], [], _, _, _, _, e => by simp at e
  | s :: r, t :: q, ns, 0, t', h, e => by
    have : t = t' := by simpa using e
    subst this
    rcases h.1 with z | ⟨d, z1, z2, z3⟩
    · exact .inl z
    · exact .inr ⟨d, s, z1, rfl, z2, z3⟩
  | s :: r, t :: q, ns, i + 1, t', h, e => by
    rcases PS.at (i := i) h.2 (by simpa using e) with z | ⟨d, s', z1, z2, z3, z4⟩
    · exact .inl z
    · exact .inr ⟨d, s', z1, by simpa using z2, z3, z4⟩
  | [], _ :: _, _, _, _, h, _ => h.elim
  | _ :: _, [], _, _, _, h, _ => h.elim
def Kn.sole (en : Kn) (H : Hp) : Kn := { en with G0 := fun _ => none, F0 := H, ps := [] }
theorem Wd.sole {K : PySem.W.Frag} {en : Kn} {δ δ2 : List Slot} {σ : L2.St} {G H H1 : Hp} {ns : List D} (W : Wd K en δ σ G H) (hp : PS δ δ2 ns) (hs : ns.all sclD = true) : Wd K (en.sole H1) δ2 σ (fun _ => none) H1 where
  len := hp.len.trans W.len
  sub := fun a o e => by cases e
  ext := Sub.refl _
  new := fun a o e => by cases e
  frm := Sub.refl _
  stay := fun a h => by cases h
  nd := List.nodup_nil
  slot := fun i sl o h1 h2 => by
    rcases hp.at h1 with rfl | ⟨d, s, rfl, h3, h4, h5⟩
    · trivial
    · obtain ⟨o', h6, h7⟩ := W.at h3
      rw [h2] at h6; cases h6
      obtain ⟨v, e, r⟩ := SlotOk.bread W.sub W.frm h7 h4
      exact ⟨v, e, sclD.brep (List.all_eq_true.mp hs d h5) r⟩
  apart := fun i j p h1 h2 => by
    obtain ⟨sl, e1, e2, e3⟩ := h1
    rcases hp.at e1 with rfl | ⟨d, s, rfl, _, _, _⟩ <;> cases e2
section
variable {X : Cx} {en : Kn} {δ τ : List Slot} {R : Type} {C : Slot → List Slot → Res R → Prop} {m : Res R}
end
end BR

/-! K41: dict(a list of pairs) -/
namespace BR
open PySem PySem.Spec PyProof.Rows L2
def prsD : List D → Option (List (Key × D))
  | [] => some []
  | .tup [a, b] :: r => match keyD a, prsD r with
    | some k, some q => some ((k, b) :: q)
    | _, _ => none
  | _ => none
def dctT : List D → Option (List (Key × D))
  | [.lst ds] => (prsD ds).map fun q => mergeD [] q
  | _ => none
def kM {R : Type} (k : List (Key × D) → Res R) : D → Res R
  | .dic q => k q
  | _ => .bad
section
variable {X : Cx} {en : Kn} {δ τ : List Slot} {R : Type} {C : Slot → List Slot → Res R → Prop} {m : Res R}
end
end BR

/-! K42: beside a told thing that is to be changed: other things told, and a choice that goes on -/
namespace BR
open PySem PySem.Spec PyProof.Rows L2
section
variable {X : Cx} {en : Kn} {R : Type} {δ : List Slot} {N : List Slot → Res R → Prop} {RT : Slot → List Slot → Res R → Prop} {BK CT : List Slot → Res R → Prop} {m : Res R} {pos : Pos}
/-- the names as they may be read, the told one left out -/
theorem Wd.hid {K : PySem.W.Frag} {δ : List Slot} {σ : L2.St} {G H0 H : Hp} (W : Wd K en δ σ G H0) (s0 : Sub H0 H) : Wd K (en.pure G H) (δ.map Slot.tv) σ G H where
  len := by rw [List.length_map]; exact W.len
  sub := W.sub.trans s0
  ext := Sub.refl _
  new := fun a o e => .inl e
  frm := Sub.refl _
  stay := fun a h => by cases h
  nd := List.nodup_nil
  slot := fun j sl o h1 h2 => by
    rw [List.getElem?_map] at h1
    obtain ⟨s, hs, e⟩ := Option.map_eq_some_iff.mp h1
    subst e
    have q := W.slot j s o hs h2
    cases s with
    | un => trivial
    | bo _ => trivial
    | fr d => exact q
    | mu d => obtain ⟨p, e, _, _, _, r⟩ := q; exact ⟨_, e, BRep.sub (Sub.refl _) s0 (BRep.mk r.v r.notup)⟩
    | mp j d => obtain ⟨p, e, _, _, _, r⟩ := q; exact ⟨_, e, BRep.sub (Sub.refl _) s0 (BRep.mk r.v r.notup)⟩
    | bw d => obtain ⟨v, e, r⟩ := q; exact ⟨v, e, BRep.sub (Sub.refl _) (W.frm.trans s0) r⟩
  apart := fun a b p h1 _ => by
    obtain ⟨sl, e1, e2, _⟩ := h1
    rw [List.getElem?_map] at e1
    obtain ⟨s, _, e⟩ := Option.map_eq_some_iff.mp e1
    subst e
    cases s <;> cases e2
/-- what is tracked but for what was told -/
def beside (H H0 H2 : Hp) : Hp := fun a => match H a with
  | none => H2 a
  | some _ => H0 a
end
end BR

/-! K43: a op b op c as a test -/
namespace BR
open PySem PySem.Spec PyProof.Rows L2
section
variable {X : Cx} {en : Kn} {R : Type} {δ τ : List Slot} {m : Res R} {pos : Pos}
end
end BR

/-! K44: x in a list of lists; the sum of a tuple of ints -/
namespace BR
open PySem PySem.Spec PyProof.Rows L2
def inLD (a b : D) : Option Bool := match b with
  | .lst ds => if SeqAt.shaped (toP a) = true ∧ SeqAt.shaped (toP (.lst ds)) = true then some ((toPs ds).any fun z => PyData.eqv z (toP a)) else none
  | _ => none
section
variable {X : Cx}
def sumX : List D → Option D
  | [.lst ds] => (intsD ds).map fun ns => .int ns.sum
  | [.tup ds] => (intsD ds).map fun ns => .int ns.sum
  | _ => none
end
end BR

/-! K45: max of three; or by truth; a fresh list given to be changed; own lists read as if they stood fast; walks over a display of own lists -/
namespace BR
open PySem PySem.Spec PyProof.Rows L2
section
variable {X : Cx} {en : Kn} {δ τ : List Slot} {R : Type} {C : Slot → List Slot → Res R → Prop} {m : Res R}
/-! ### max of three -/
def max3D : List D → Option D
  | [.int a, .int b, .int c] => some (.int (if c > (if b > a then b else a) then c else (if b > a then b else a)))
  | _ => none
/-! ### or by truth -/
/-! ### a fresh list given to be changed -/
end
/-! ### own lists read as if they stood fast; the answer is a plain one -/
def scT : D → Option Unit
  | .non => some ()
  | .bl _ => some ()
  | .int _ => some ()
  | .str _ => some ()
  | _ => none
def Slot.thw : Slot → Slot
  | .fr d => .fr d
  | .bw d => .fr d
  | .mu d => .fr d
  | .mp _ d => .fr d
  | _ => .un
def Slot.top : Slot → Bool
  | .bw _ => true
  | .mu _ => true
  | .mp _ _ => true
  | _ => false
/-- a thing's top, an instance's dict and its own lists -/
def Rch (H : Hp) (b a : Addr) : Prop := a = b ∨ ∃ C dx vs, H b = some (.ins C dx vs) ∧ (a = dx ∨ ∃ f, (f, V.ref a) ∈ vs)
open Classical in
/-- what stands fast, and the tops of all names' things -/
noncomputable def thwG (δ : List Slot) (σ : L2.St) (G H : Hp) : Hp := fun a => if ∃ (i : Nat) (sl : Slot) (b : Addr), δ[i]? = some sl ∧ sl.top = true ∧ σ[i]? = some (some (V.ref b)) ∧ Rch H b a then H a else G a
noncomputable def Kn.thw (en : Kn) (δ : List Slot) (σ : L2.St) (G H : Hp) : Kn := { en with G0 := thwG δ σ G H, F0 := H, ps := [] }
section
variable {K : PySem.W.Frag} {en : Kn} {δ : List Slot} {σ : L2.St} {G H : Hp}
theorem MRep.thw {G2 : Hp} (sg : Sub G G2) : ∀ {d : D} {p : Addr}, MRep K G H d p → G2 p = H p → Rep K G2 d (.ref p)
  | .lst ds, p, h, k => by obtain ⟨vs, e, r⟩ := h; exact ⟨p, vs, rfl, by rw [k]; exact e, Reps.sub sg _ _ r⟩
  | .dic ds, p, h, k => by obtain ⟨vs, e, r⟩ := h; exact ⟨p, vs, rfl, by rw [k]; exact e, RepKs.sub sg _ _ r⟩
  | .non, _, h, _ => h.elim
  | .bl _, _, h, _ => h.elim
  | .int _, _, h, _ => h.elim
  | .str _, _, h, _ => h.elim
  | .tup _, _, h, _ => h.elim
  | .scr _, _, h, _ => h.elim
  | .exc _ _, _, h, _ => h.elim
  | .obj _ _, _, h, _ => h.elim
end
section
variable {X : Cx} {en : Kn} {δ τ : List Slot} {R : Type} {C : Slot → List Slot → Res R → Prop} {m : Res R}
end
/-! ### a display of lists that are read alone, walked -/
def bws : List Slot → Option (List D)
  | [] => some []
  | .bw d :: r => (bws r).map (d :: ·)
  | _ :: _ => none
def BReps (K : PySem.W.Frag) (G F : Hp) : List D → List V → Prop
  | [], vs => vs = []
  | d :: ds, vs => ∃ v r, vs = v :: r ∧ BRep K G F d v ∧ BReps K G F ds r
section
variable {K : PySem.W.Frag} {en : Kn} {G G' H F : Hp}
theorem BReps.len : ∀ {ds : List D} {vs : List V}, BReps K G F ds vs → ds.length = vs.length
  | [], _, h => by rw [show _ = [] from h]; rfl
  | d :: ds, _, h => by
    obtain ⟨v, r, e, _, h2⟩ := h
    rw [e, List.length_cons, List.length_cons, BReps.len h2]
theorem BReps.get : ∀ {ds : List D} {vs : List V} {i : Nat} {d : D}, BReps K G F ds vs → ds[i]? = some d → ∃ v, vs[i]? = some v ∧ BRep K G F d v
  | [], _, _, _, _, e => by simp at e
  | d :: ds, _, 0, _, h, e => by
    obtain ⟨v, r, e', h1, _⟩ := h
    subst e'
    simp at e; subst e
    exact ⟨v, rfl, h1⟩
  | d :: ds, _, i + 1, _, h, e => by
    obtain ⟨v, r, e', _, h2⟩ := h
    subst e'
    obtain ⟨u, h3, h4⟩ := BReps.get (i := i) h2 (by simpa using e)
    exact ⟨u, by simpa using h3, h4⟩
end
section
variable {X : Cx} {en : Kn} {δ τ : List Slot} {R : Type} {C : Slot → List Slot → Res R → Prop} {m : Res R}
def ItB (K : PySem.W.Frag) (J : It) (Gb Fb : Hp) (ds : List D) : Prop := ∀ (G H : Hp), Sub Gb G → Sub Fb H → Sub G H → ∀ i : Nat,
  (∀ d, ds[i]? = some d → J.go i H ∧ ∀ x H', J.yld i H x H' → ∃ G', Grow G H G' H' ∧ BRep K G' Fb d x) ∧ (ds.length ≤ i → J.stop i H)
structure JIb (X : Cx) (en : Kn) (δ τ : List Slot) (tg iter : Expr) {R : Type} (C : List D → List Slot → Res R → Prop) (m : Res R) : Prop where
  run : m ≠ .bad → en.HX m.exc → ∀ (σ ts : L2.St) (G H : Hp) (T : It → Hp → Prop), δ.length = en.n → σ.length = en.n → Wd X.K en (δ ++ τ) (σ ++ ts) G H →
    (∀ ds δ' J G' H', C ds δ' m → δ'.length = en.n → Wd X.K en (δ' ++ τ) (σ ++ ts) G' H' → ItB X.K J G' en.F0 ds → T J H') → WI X tg iter σ H T
theorem BReps.sub {K : PySem.W.Frag} {G G' F F' : Hp} (g : Sub G G') (f : Sub F F') : ∀ {ds : List D} {vs : List V}, BReps K G F ds vs → BReps K G' F' ds vs
  | [], _, h => h
  | _ :: _, _, h => by
    obtain ⟨v, r, e, h1, h2⟩ := h
    exact ⟨v, r, e, BRep.sub g f h1, BReps.sub g f h2⟩
/-- one item's block: the name is the item's, read alone -/
def TurnB (X : Cx) (scope : Scope) (en : Kn) (δw τ : List Slot) (tg elt : Expr) (ix : Nat) (d : D) (m : Res D) : Prop :=
  AllB X scope fun Y => (∀ (v : V) (σ : L2.St) (H : Hp) (Q : L2.St → Hp → Prop), Q (σ.set ix (some v)) H → WG Y tg v σ H Q) ∧ JE Y en (δw.set ix (.bw d)) τ elt (fun s δ3 m3 => ∃ y, s = .fr y ∧ m3 = .ok y ∧ Le (wipeS δ3 [ix]) δw ∧ noBo δ3 = true) m
theorem JIb.conv {tg iter : Expr} {C C' : List D → List Slot → Res R → Prop} (h : JIb X en δ τ tg iter C m) (k : ∀ ds δ', C ds δ' m → C' ds δ' m) : JIb X en δ τ tg iter C' m := .mk fun hb hx σ ts G H T hl hσ W q =>
  h.run hb hx σ ts G H T hl hσ W fun ds δ' J G' H' c hl' W' it => q ds δ' J G' H' (k _ _ c) hl' W' it
/-! ### a loop over a display of own lists, changed each -/
def ForN (X : Cx) (en : Kn) (ix : Nat) (e : Expr) {R : Type} (N : List Slot → Res R → Prop) (m : Res R) : List Nat → List Slot → Prop
  | [], δ => N δ m
  | i :: is, δ => ∃ δ', δ.set ix (.bo i) = δ' ∧ JE X en δ' [] e (fun _ δ1 m1 => ∃ δ2, Le δ1 δ2 ∧ noBo δ2 = true ∧ ForN X en ix e N m1 is δ2) m
end
end BR

/-! K46: defs called while an error is handled -/
namespace BR
open PySem PySem.Spec PyProof.Rows L2

/-! ### the end of a walk there -/
section
variable {prog : Program} {w : World} {A : Around} {E : Value → Shared → Prop} {s : Shared}
end
/-- the error that is handled is tracked, its context None -/
def HotH (X : Cx) (H : Hp) : Prop := ∃ (a : Addr) (oe : Obj) (vs : Array Value), X.A.handled = some (.ref a) ∧ H a = some (ExO1 oe) ∧ oe.data = .fields vs ∧ vs[2]? = some .none
theorem HotH.at {X : Cx} {pins : List (Addr × Obj)} {σ : L2.St} {H : Hp} {s : Shared} (h : HotH X H) (I : Inv X pins σ H s) : ∃ x1, HotX.HotAt X.A x1 s.heap := by
  obtain ⟨a, oe, vs, h1, h2, h3, h4⟩ := h
  have := (show ObjOk X.prog X.w H s.heap a (ExO1 oe) from I.hok a _ h2).1
  exact ⟨a, h1, oe, vs, this, h3, h4⟩
theorem HotH.sub {X : Cx} {H H' : Hp} (h : HotH X H) (s : Sub H H') : HotH X H' := by
  obtain ⟨a, oe, vs, h1, h2, h3, h4⟩ := h
  exact ⟨a, oe, vs, h1, s _ _ h2, h3, h4⟩
/-! ### a tuple taken apart there -/
section
variable {X : Cx} {pos : Pos}
end
section
variable {X : Cx} {en : Kn} {δ τ : List Slot} {R : Type} {m : Res R} {N : List Slot → Res R → Prop}
/-- .. from a def's entry on -/
def HotK (X : Cx) (en : Kn) : Prop := HotH X en.G0
theorem HotK.of (h : HotK X en) {Δ : List Slot} {S : L2.St} {G H : Hp} (W : Wd X.K en Δ S G H) : HotH X H := HotH.sub (HotH.sub h W.ext) W.sub
end
end BR

/-! K47: comprehensions and defs while an error is handled -/
namespace BR
open PySem PySem.Spec PyProof.Rows L2
def HotV (hd : Option Value) (H : Hp) : Prop := ∃ (a : Addr) (oe : Obj) (vs : Array Value), hd = some (.ref a) ∧ H a = some (ExO1 oe) ∧ oe.data = .fields vs ∧ vs[2]? = some .none
theorem HotV.sub {hd : Option Value} {H H' : Hp} (h : HotV hd H) (s : Sub H H') : HotV hd H' := by
  obtain ⟨a, oe, vs, h1, h2, h3, h4⟩ := h
  exact ⟨a, oe, vs, h1, s _ _ h2, h3, h4⟩
theorem HotV.at {X : Cx} {pins : List (Addr × Obj)} {σ : L2.St} {H : Hp} {s : Shared} (h : HotV X.A.handled H) (I : Inv X pins σ H s) : ∃ x1, HotX.HotAt X.A x1 s.heap := HotH.at (X := X) h I

structure TurnK (P : Program) (w : World) (K : PySem.W.Frag) (tg : Expr) (J : It) (fp : List Addr) (it : Addr) (tn : Nat → Heap → Prop) : Prop where
  mem : it ∈ fp
  obj : ∀ i h, tn i h → ∀ b ∈ fp, ∃ o, h.get? b = some o ∧ ∀ v, o.data ≠ .cell v
  keep : ∀ i h h', tn i h → (∀ b ∈ fp, ∀ o, h.get? b = some o → h'.get? b = some o) → tn i h'
  item : ∀ (X : Cx), X.prog = P → X.w = w → X.K = K → ∀ (i : Nat) (pins : List (Addr × Obj)) (s : Shared) (σ : L2.St) (H : Hp) (E : Value → Shared → Prop), Inv X pins σ H s → (∀ b ∈ fp, FpOk X pins H b) → tn i s.heap → J.go i H →
    wpAny (model P w) X.A (pyNext (.ref it)) (fun r s1 => ∃ u, r = some u ∧
      wpAny (model P w) X.A (letOwnedTupleGo tg (.ref it) u) (fun _ s2 => ∃ x H', Inv X pins σ H' s2 ∧ RelV x u ∧ J.yld i H x H' ∧ tn (i + 1) s2.heap ∧ ∀ b ∈ fp, H' b = none) E s1) E s
  done : ∀ (X : Cx), X.prog = P → X.w = w → X.K = K → ∀ (i : Nat) (pins : List (Addr × Obj)) (s : Shared) (σ : L2.St) (H : Hp) (E : Value → Shared → Prop), Inv X pins σ H s → (∀ b ∈ fp, FpOk X pins H b) → tn i s.heap → J.stop i H → HotV X.A.handled H →
    wpAny (model P w) X.A (pyNext (.ref it)) (fun r s1 => r = none ∧ Inv X pins σ H s1) E s
  self : ∀ (A : Around) (i : Nat) (s : Shared) (Q : Value → Shared → Prop) (E : Value → Shared → Prop), tn i s.heap → Q (.ref it) s → wpAny (model P w) A (pyIter (.ref it)) Q E s

def PIEK (X : Cx) (pins : List (Addr × Obj)) (σ : L2.St) (tg : Expr) (R : It → Hp → Prop) (itv : Value) (s2 : Shared) : Prop :=
  ∃ (it : Addr) (fp : List Addr) (tn : Nat → Heap → Prop) (J : It) (H' : Hp), itv = .ref it ∧ Inv X pins σ H' s2 ∧ TurnK X.prog X.w X.K tg J fp it tn ∧ tn 0 s2.heap ∧ (∀ b ∈ fp, FpOk X pins H' b) ∧ R J H'
structure PIK (X : Cx) (tg iter : Expr) (wi : TI) : Prop where
  run : ∀ (pins : List (Addr × Obj)) (s : Shared) (σ : L2.St) (H : Hp) (R : It → Hp → Prop), Inv X pins σ H s → wi σ H R →
    wpAny (model X.prog X.w) X.A (eval iter X.env) (fun v s1 => wpAny (model X.prog X.w) X.A (pyIter v) (PIEK X pins σ tg R) X.xe s1) X.xe s
abbrev WIK (X : Cx) (tg iter : Expr) : TI := fun σ H R => ∀ (pins : List (Addr × Obj)) (s : Shared), Inv X pins σ H s →
  wpAny (model X.prog X.w) X.A (eval iter X.env) (fun v s1 => wpAny (model X.prog X.w) X.A (pyIter v) (PIEK X pins σ tg R) X.xe s1) X.xe s
structure JIK (X : Cx) (en : Kn) (δ τ : List Slot) (tg iter : Expr) {R : Type} (C : List D → List Slot → Res R → Prop) (m : Res R) : Prop where
  run : m ≠ .bad → en.HX m.exc → ∀ (σ ts : L2.St) (G H : Hp) (T : It → Hp → Prop), δ.length = en.n → σ.length = en.n → Wd X.K en (δ ++ τ) (σ ++ ts) G H →
    (∀ ds δ' J G' H', C ds δ' m → δ'.length = en.n → Wd X.K en (δ' ++ τ) (σ ++ ts) G' H' → ItD X.K J G' en.F0 ds → T J H') → WIK X tg iter σ H T

theorem JIK.conv {X : Cx} {en : Kn} {δ τ : List Slot} {tg iter : Expr} {R : Type} {C C' : List D → List Slot → Res R → Prop} {m : Res R} (h : JIK X en δ τ tg iter C m) (k : ∀ ds δ1, C ds δ1 m → C' ds δ1 m) : JIK X en δ τ tg iter C' m := .mk fun hb hx σ ts G H T hl hσ W q =>
  h.run hb hx σ ts G H T hl hσ W fun ds δ1 J G1 H1 c => q ds δ1 J G1 H1 (k ds δ1 c)
def tLcK (hd : Option Value) (wi : TI) (g : TG) (tt : TT) (te : TE) (vs : List Nat) : TE := fun σ H Q => wi σ H fun J H1 => ∀ D, H1 D = none → ∃ W : Nat → Nat → Hp → Prop, (∃ m, W 0 m (upd H1 D (.lst []))) ∧ ∀ i m H, W i m H →
  (J.stop i H ∧ HotV hd H ∧ Q (.ref D) H) ∨ (J.go i H ∧ ∃ Nx : Hp → Prop, (∀ H', Nx H' → ∃ m', m' < m ∧ W (i + 1) m' H') ∧ ∀ x H', J.yld i H x H' → g x (wipe σ vs) H' fun σ2 H2 => wipe σ2 vs = wipe σ vs ∧ tt σ2 H2 fun b H3 =>
    if b = true then te σ2 H3 fun y H4 => ∃ acc, H4 D = some (.lst acc) ∧ acc.length < sizeLine ∧ Nx (upd H4 D (.lst (acc ++ [y]))) else Nx H3)
section
variable {X : Cx} {en : Kn} {δ τ : List Slot} {R : Type} {C : Slot → List Slot → Res R → Prop} {m : Res R} {K : PySem.W.Frag}

end


/-! ### defs called there -/
structure RoomK (k : Nat) (A : Around) : Prop where
  dp : A.depth + 3 * k + 5 < recursionLimit
  un : A.units + 16 * k + 200 < cLine
  g : A.guards = some []
theorem RoomK.mono {j k : Nat} {A : Around} (r : RoomK k A) (h : j ≤ k) : RoomK j A := ⟨by have := r.dp; omega, by have := r.un; omega, r.g⟩
theorem RoomK.hu {k : Nat} {A : Around} (h : RoomK k A) : A.units + 64 < cLine := by
  have := h.un
  omega
theorem RoomK.depth {k : Nat} {A : Around} (r : RoomK k A) : A.depth < recursionLimit := by have := r.dp; omega
theorem RoomK.deeper {k : Nat} {A : Around} (r : RoomK (k + 1) A) (env : Env) : RoomK k (A.deeper env) :=
  ⟨by have := r.dp; show A.depth + 1 + 3 * k + 5 < _; omega, by have := r.un; show A.units + 3 + 16 * k + 200 < _; omega, r.g⟩
/-- the context of such a def's body -/
abbrev cxK (CX : CXT) (P : Program) (w : World) (K : PySem.W.Frag) (mg : Str → Option Value) (base : Heap) (N : List Str) (qual : Str) (scope : Scope) (f : Addr) (cd : Value) (A : Around) (outer : List Env) (s : Shared) (H : Hp) (E : XK) : Cx :=
  { cxOf CX P w K mg base N qual scope f cd A outer s H E with calm := false }

/-- a def keeps its promise there -/
structure FnGH (P : Program) (w : World) (K : PySem.W.Frag) (mg : Str → Option Value) (base : Heap) (k : Nat) (f : Addr) (fd : FuncData) (ps : List Str) (sp : Option Value → Sp) : Prop where
  len : ∀ hd vs H Q E, sp hd vs H Q E → vs.length = ps.length
  run : ∀ (A : Around) (outer : List Env) (s : Shared) (H : Hp) (args : Args) (us : List Value) (vs : List V) (Q : VK) (E : XK),
    RoomK k A → Env0 P w K mg base A outer s H → BindsTo s fd args (ps.zip us) → Vals vs us → sp A.handled vs H Q E →
    codeAny (model P w) A (.call (.ref f) args) (CR (L2N.CX P w) outer P w H s Q E) s
section
variable {P : Program} {w : World} {K : PySem.W.Frag} {mg : Str → Option Value} {base : Heap}

def SpDH (K : PySem.W.Frag) (mg : Str → Option Value) (ks : List Kd) {α : Type} (f : List D → Res α) (val : α → D) (outs : α → List D) (mu : Bool) (hd : Option Value) : Sp := fun vs H Q E =>
  vs.length = ks.length ∧ ∃ (G : Hp) (ps : List Addr) (ds : List D) (r : Res α), Sub G H ∧ ps.Nodup ∧ ArgsOk K G H (hide H ps) ks ds vs ps ∧ f ds = r ∧ r ≠ .bad ∧ HotV hd G ∧
    (∀ a, r = .ok a → ∀ v G' H', Post G H G' H' ps → OutsOk K G' H' (outs a) ps → RetOk K G' H H' mu (val a) v → Q v H') ∧
    (∀ x, r = .raise x → ∀ cls d H', ExcOk mg (hide H ps) ps x cls d H' → Sub (hide H ps) H' → E cls d H')

end
/-- a def of the module that keeps its promise there -/
def DfH (P : Program) (w : World) (K : PySem.W.Frag) (mg : Str → Option Value) (base : Heap) (k : Nat) (x : Str) (ks : List Kd) {α : Type} (den : List D → Res α) (val : α → D) (outs : α → List D) (mu : Bool) : Prop :=
  ∃ (f : Addr) (fd : FuncData) (psn : List Str), FnGH P w K mg base k f fd psn (SpDH K mg ks den val outs mu) ∧ mg x = some (.ref f) ∧ PySem.W.keepIn K (.ref f) = true ∧ Binds K fd psn []
/-- an error is none of the answers -/
def noX {α : Type} (m : Res α) : Res α := match m with
  | .ok a => .ok a
  | _ => .bad
section
variable {X : Cx} {k : Nat} {f : Addr} {fd : FuncData} {ps : List Str} {sp : Option Value → Sp} {E : XK} {x : Str} {p pos : Pos} {e : Expr} {es : List Expr} {t : TA}
end
section
variable {X : Cx} {en : Kn} {δ τ : List Slot} {R : Type} {C : Slot → List Slot → Res R → Prop} {m : Res R} {K : PySem.W.Frag}

end
section
variable {X : Cx} {en : Kn} {δ : List Slot} {R : Type} {m : Res R} {N : List Slot → Res R → Prop} {RT : Slot → List Slot → Res R → Prop} {BK CT : List Slot → Res R → Prop} {rest : List Stmt}
end
end BR

/-! K48: list(range(a, b)) of numbers of any size -/
namespace BR
open PySem PySem.Spec PyProof.Rows L2
section
open PySem.AutoSeq1
variable {prog : Program} {w : World} {A : Around} {E : Value → Shared → Prop} {s : Shared}
end
def tLstRB (te : L2.St → Hp → (Int → Int → Hp → Prop) → Prop) : TE := fun σ H Q => te σ H fun a b H1 => (b - a).toNat ≤ 2 ^ 24 ∧ ∀ q, H1 q = none → Q (.ref q) (upd H1 q (.lst (rgV a b)))
/-- the numbers of list(range(a, b)) -/
def lrgB : D → D → Option (List D)
  | .int i, .int j => if (j - i).toNat ≤ 2 ^ 24 then some (upto i (j - i).toNat) else none
  | _, _ => none
section
variable {X : Cx} {en : Kn} {δ τ : List Slot} {R : Type} {C : Slot → List Slot → Res R → Prop} {m : Res R}
end
end BR

/-! W1: plain runs -/
namespace BR
open PySem PySem.Spec PyProof.Rows L2
theorem op_s {α R : Type} {a : α} {k : α → Res R} : op (some a) k = k a := rfl
theorem bind_s {α R : Type} {a : α} {k : α → Res R} : (Res.ok a).bind k = k a := rfl
theorem nat_lt_of {a : Int} {n : Nat} (h0 : 0 ≤ a) (h : a < (2 : Int) ^ n) : a.natAbs < 2 ^ n := by
  have : ((a.natAbs : Nat) : Int) < ((2 ^ n : Nat) : Int) := by
    rw [Int.natAbs_of_nonneg h0]
    simpa using h
  exact Int.ofNat_lt.mp this
theorem log_le {a : Int} {n : Nat} (h0 : 0 ≤ a) (h : a < (2 : Int) ^ n) : a.natAbs.log2 ≤ n := by
  by_cases z : a.natAbs = 0
  · have e : Nat.log2 0 = 0 := by decide
    rw [z, e]; exact Nat.zero_le _
  · exact Nat.le_of_lt ((Nat.log2_lt z).mpr (nat_lt_of h0 h))
theorem bits_le {a : Int} {n : Nat} (h0 : 0 ≤ a) (h : a < (2 : Int) ^ n) : Builtin.Int.intBits a ≤ n := by
  unfold Builtin.Int.intBits
  split
  · exact Nat.zero_le _
  · rename_i z
    have z' : a.natAbs ≠ 0 := fun e => z (by simpa using Int.natAbs_eq_zero.mp e)
    exact (Nat.log2_lt z').mpr (nat_lt_of h0 h)
theorem addI {a b : Int} : addD (.int a) (.int b) = some (.int (a + b)) := rfl
theorem subI {a b : Int} : subD (.int a) (.int b) = some (.int (a - b)) := rfl
theorem negI {a : Int} : negD (.int a) = some (.int (-a)) := rfl
theorem gtI {a b : Int} : gtD (.int a) (.int b) = some (decide (b < a)) := rfl
theorem geI {a b : Int} : geD (.int a) (.int b) = some (decide (b ≤ a)) := rfl
theorem ltI {a b : Int} : ltD (.int a) (.int b) = some (decide (a < b)) := rfl
theorem leI {a b : Int} : leD (.int a) (.int b) = some (decide (a ≤ b)) := rfl
theorem eqI {a b : Int} : eqD (.int a) (.int b) = some (decide (a = b)) := rfl
theorem modI {a b : Int} (h : 0 < b) : modD (.int a) (.int b) = some (.int (a % b)) := if_pos h
theorem divI {a b : Int} (h : 0 < b) (hz : b < 2 ^ 250) : fdivD (.int a) (.int b) = some (.int (a / b)) := if_pos ⟨h, Nat.lt_of_le_of_lt (log_le (Int.le_of_lt h) hz) (by decide)⟩
theorem mulI {a b : Int} (h0 : 0 ≤ a) (h : a < 2 ^ 250) (g0 : 0 ≤ b) (g : b < 2 ^ 250) : mulD (.int a) (.int b) = some (.int (a * b)) := if_pos (by
  have := log_le h0 h
  have := log_le g0 g
  omega)
theorem powI {a b : Int} (h : 0 ≤ b ∧ (Builtin.Int.intBits a : Int) * b ≤ 2 ^ 27) : powD (.int a) (.int b) = some (.int (a ^ b.toNat)) := if_pos h
theorem pow3 {a : Int} (h0 : 0 ≤ a) (h : a < 2 ^ 250) : powD (.int a) (.int 3) = some (.int (a ^ 3)) := powI ⟨by decide, by
  have := bits_le h0 h
  have : (Builtin.Int.intBits a : Int) ≤ 250 := by exact_mod_cast this
  omega⟩
theorem pow5 {a : Int} (h0 : 0 ≤ a) (h : a < 2 ^ 250) : powD (.int a) (.int 5) = some (.int (a ^ 5)) := powI ⟨by decide, by
  have := bits_le h0 h
  have : (Builtin.Int.intBits a : Int) ≤ 250 := by exact_mod_cast this
  omega⟩
theorem p10_18 : powD (.int 10) (.int 18) = some (.int (10 ^ 18)) := powI (by decide)
theorem p10_37 : powD (.int 10) (.int 37) = some (.int (10 ^ 37)) := powI (by decide)
/-- a loop that keeps P, i the turns done -/
theorem forS_ok {S : Type} {f : D → S → Res S} (P : Nat → S → Prop) (I : Nat) : ∀ {ds : List D} {s : S} {i : Nat}, P i s → i + ds.length ≤ I → (∀ d, d ∈ ds → ∀ s i, i < I → P i s → ∃ s', f d s = .ok s' ∧ P (i + 1) s') → ∃ r, forS ds s f = .ok r ∧ P (i + ds.length) r
  | [], s, i, h, _, _ => ⟨s, rfl, h⟩
  | d :: ds, s, i, h, hI, hf => by
    rw [List.length_cons] at hI
    obtain ⟨s', e, h'⟩ := hf d List.mem_cons_self s i (by omega) h
    unfold forS
    rw [e, bind_s]
    obtain ⟨r, e2, h2⟩ := forS_ok P I h' (by omega) fun d hd => hf d (List.mem_cons_of_mem _ hd)
    exact ⟨r, e2, by rw [List.length_cons]; rw [show i + (ds.length + 1) = i + 1 + ds.length by omega]; exact h2⟩
theorem forF_ok {S R : Type} {f : D → S → Res (LFlow S R)} (P : Nat → S → Prop) (I : Nat) : ∀ {ds : List D} {s : S} {i : Nat}, P i s → i + ds.length ≤ I → (∀ d, d ∈ ds → ∀ s i, i < I → P i s → ∃ s', f d s = .ok (.nx s') ∧ P (i + 1) s') → ∃ r, forF ds s f = .ok (.nx r) ∧ P (i + ds.length) r
  | [], s, i, h, _, _ => ⟨s, rfl, h⟩
  | d :: ds, s, i, h, hI, hf => by
    rw [List.length_cons] at hI
    obtain ⟨s', e, h'⟩ := hf d List.mem_cons_self s i (by omega) h
    unfold forF
    rw [e]
    obtain ⟨r, e2, h2⟩ := forF_ok P I h' (by omega) fun d hd => hf d (List.mem_cons_of_mem _ hd)
    exact ⟨r, e2, by rw [List.length_cons]; rw [show i + (ds.length + 1) = i + 1 + ds.length by omega]; exact h2⟩
theorem rng1 {n : Int} (h0 : 0 ≤ n) (h : n < 2 ^ 62) : rngD [.int n] = some (upto 0 n.toNat) := if_pos ⟨by omega, h⟩
theorem upto_mem {n : Nat} {d : D} (h : d ∈ upto 0 n) : ∃ i : Nat, i < n ∧ d = .int i := by
  obtain ⟨i, hi, e⟩ := List.mem_map.mp h
  exact ⟨i, List.mem_range.mp hi, by rw [← e, Int.zero_add]⟩
theorem upto_len {n : Nat} {l : Int} : (upto l n).length = n := by simp [upto]
theorem small_lt {n : Nat} (h : n < 1000000) : n < sizeLine := Nat.lt_of_lt_of_le h (by decide)
theorem small_le {n : Nat} (h : n < 1000000) : n ≤ sizeLine := Nat.le_of_lt (small_lt h)
theorem min2I {a b : Int} : min2D [.int a, .int b] = some (.int (if b < a then b else a)) := rfl
theorem max2I {a b : Int} : max2D [.int a, .int b] = some (.int (if b > a then b else a)) := rfl
theorem app1 {ds : List D} {d : D} (h : ds.length < 1000000) : appL ds [d] = some (.non, ds ++ [d]) := if_pos (small_lt h)
theorem asB_ok (b : Bool) : asB (.bl b) = some b := rfl
theorem tru_ok (b : Bool) : truD (.bl b) = some b := rfl
def Sz (n w : Nat) (d : D) : Prop := noS d = true ∧ (toP d).showable = true ∧ (toP d).leavesShort 600 = true ∧ (toP d).depth ≤ n ∧ (toP d).weight ≤ w
theorem Sz.mono {n w n' w' : Nat} {d : D} (h : Sz n w d) (h1 : n ≤ n') (h2 : w ≤ w') : Sz n' w' d := ⟨h.1, h.2.1, h.2.2.1, Nat.le_trans h.2.2.2.1 h1, Nat.le_trans h.2.2.2.2 h2⟩
theorem sz_int {i : Int} (h0 : 0 ≤ i) (h : i < 2 ^ 200) : Sz 0 201 (.int i) := by
  have hb := bits_le h0 h
  have hg := log_le h0 h
  refine ⟨rfl, ?_, ?_, ?_, ?_⟩
  · simp only [toP, PyData.showable]
    exact decide_eq_true (by omega)
  · simp only [toP, PyData.leavesShort]
    refine decide_eq_true (Nat.le_trans (toString_length_le h0 (k := 61) (by decide) (Int.lt_trans h (by decide))) (by decide))
  · simp [toP, PyData.depth]
  · simp only [toP, PyData.weight]
    split <;> omega
theorem bls_map {p : D → Bool} : ∀ ds : List D, bls (ds.map fun d => .bl (p d)) = some (ds.map p)
  | [] => rfl
  | d :: ds => by
    show (bls (ds.map fun d => .bl (p d))).map (p d :: ·) = _
    rw [bls_map ds]; rfl
theorem addL {a b : List D} (h : a.length + b.length < 1000000) : addD (.lst a) (.lst b) = some (.lst (a ++ b)) := if_pos (small_le h)
def Ok {α : Type} (m : Res α) (Q : α → Prop) : Prop := ∃ a, m = .ok a ∧ Q a
theorem Ok.ret {α : Type} {a : α} {Q : α → Prop} (h : Q a) : Ok (.ok a) Q := ⟨a, rfl, h⟩
theorem Ok.bnd {α β : Type} {m : Res α} {k : α → Res β} {P : α → Prop} {Q : β → Prop} (h : Ok m P) (g : ∀ a, P a → Ok (k a) Q) : Ok (m.bind k) Q := by
  obtain ⟨a, e, p⟩ := h
  obtain ⟨b, e2, q⟩ := g a p
  exact ⟨b, by rw [e, bind_s, e2], q⟩
theorem Ok.mono {α : Type} {m : Res α} {P Q : α → Prop} (h : Ok m P) (g : ∀ a, P a → Q a) : Ok m Q := by
  obtain ⟨a, e, p⟩ := h
  exact ⟨a, e, g a p⟩
theorem Ok.op {α β : Type} {o : Option α} {a : α} {k : α → Res β} {Q : β → Prop} (e : o = some a) (h : Ok (k a) Q) : Ok (op o k) Q := by
  subst e; exact h
theorem Ok.fbn {S R : Type} {m : Res (Flow S R)} {k : S → Res R} {P : S → Prop} {Q : R → Prop} (h : Ok m fun f => ∃ s, f = .nx s ∧ P s) (g : ∀ s, P s → Ok (k s) Q) : Ok (fbind m k) Q := by
  obtain ⟨a, e, s, rfl, p⟩ := h
  obtain ⟨b, e2, q⟩ := g s p
  exact ⟨b, by rw [e]; exact e2, q⟩
theorem Ok.eq {α : Type} {m : Res α} {a : α} (h : Ok m fun x => x = a) : m = .ok a := by
  obtain ⟨b, e, rfl⟩ := h; exact e
theorem Ok.of {α : Type} {m : Res α} {a : α} (h : m = .ok a) : Ok m fun x => x = a := ⟨a, h, rfl⟩
theorem Ok.forN {S R : Type} {f : D → S → Res (LFlow S R)} (P : Nat → S → Prop) (I : Nat) {ds : List D} {s : S} (h0 : P 0 s) (hI : ds.length ≤ I) (hf : ∀ d, d ∈ ds → ∀ s i, i < I → P i s → Ok (f d s) fun r => ∃ s', r = .nx s' ∧ P (i + 1) s') : Ok (forF ds s f) fun r => ∃ s', r = .nx s' ∧ P ds.length s' := by
  obtain ⟨r, e, h⟩ := forF_ok (f := f) P I (ds := ds) (s := s) (i := 0) h0 (by omega) (fun d hd s i hi h => by
    obtain ⟨_, e, s', rfl, h'⟩ := hf d hd s i hi h
    exact ⟨s', e, h'⟩)
  exact ⟨_, e, r, rfl, by rw [Nat.zero_add] at h; exact h⟩
theorem Ok.call {α β : Type} {m : Res α} {a : α} {k : α → Res β} {Q : β → Prop} (e : m = .ok a) (h : Ok (k a) Q) : Ok (m.bind k) Q := by
  subst e; exact h
end BR

/-! W2: plain runs over typed data -/
namespace BR
open PySem PySem.Spec PyProof.Rows L2

/-! ### walks of typed lists -/
theorem lc_map {X S : Type} {f : D → S → Res (Option D × S)} {e g : X → D} {s : S} {xs : List X} (hl : xs.length < 1000000) (h : ∀ x, x ∈ xs → f (e x) s = .ok (some (g x), s)) : lcF (xs.map e) s [] f = .ok (xs.map g, s) := by
  have key : ∀ {xs : List X} {acc : List D}, acc.length + xs.length < 1000000 → (∀ x, x ∈ xs → f (e x) s = .ok (some (g x), s)) → lcF (xs.map e) s acc f = .ok (acc ++ xs.map g, s) := by
    intro xs
    induction xs with
    | nil => intro acc _ _; simp [lcF]
    | cons x xs ih =>
      intro acc hl h
      rw [List.length_cons] at hl
      rw [List.map_cons]
      unfold lcF
      rw [h x List.mem_cons_self]
      have hz : acc.length < sizeLine := small_lt (by omega)
      simp only [hz, if_true]
      rw [ih (by rw [List.length_append, List.length_singleton]; omega) fun y hy => h y (List.mem_cons_of_mem _ hy)]
      simp
  have := key (acc := []) (by simpa using hl) h
  simpa using this
theorem lc_some {X S : Type} {f : D → S → Res (Option D × S)} {e g : X → D} {p : X → Bool} {s : S} {xs : List X} (hl : xs.length < 1000000) (h : ∀ x, x ∈ xs → f (e x) s = .ok (if p x = true then some (g x) else none, s)) : lcF (xs.map e) s [] f = .ok ((xs.filter p).map g, s) := by
  have key : ∀ {xs : List X} {acc : List D}, acc.length + xs.length < 1000000 → (∀ x, x ∈ xs → f (e x) s = .ok (if p x = true then some (g x) else none, s)) → lcF (xs.map e) s acc f = .ok (acc ++ (xs.filter p).map g, s) := by
    intro xs
    induction xs with
    | nil => intro acc _ _; simp [lcF]
    | cons x xs ih =>
      intro acc hl h
      rw [List.length_cons] at hl
      rw [List.map_cons]
      unfold lcF
      rw [h x List.mem_cons_self]
      by_cases hp : p x = true
      · have hz : acc.length < sizeLine := small_lt (by omega)
        rw [if_pos hp]
        simp only [hz, if_true]
        rw [ih (by rw [List.length_append, List.length_singleton]; omega) fun y hy => h y (List.mem_cons_of_mem _ hy)]
        simp [hp]
      · rw [if_neg hp]
        show lcF (xs.map e) s acc f = _
        rw [ih (by omega) fun y hy => h y (List.mem_cons_of_mem _ hy)]
        simp [hp]
  have := key (acc := []) (by simpa using hl) h
  simpa using this
theorem Ok.for {S : Type} {f : D → S → Res S} (P : Nat → S → Prop) (I : Nat) {ds : List D} {s : S} (h0 : P 0 s) (hI : ds.length ≤ I) (hf : ∀ d, d ∈ ds → ∀ s i, i < I → P i s → Ok (f d s) (P (i + 1))) : Ok (forS ds s f) (P ds.length) := by
  obtain ⟨r, e, h⟩ := forS_ok (f := f) P I (ds := ds) (s := s) (i := 0) h0 (by omega) (fun d hd s i hi h => by
    obtain ⟨s', e, h'⟩ := hf d hd s i hi h
    exact ⟨s', e, h'⟩)
  exact ⟨r, e, by rw [Nat.zero_add] at h; exact h⟩
/-- the loop of a law's first cells: at most n of them -/
theorem cells {ns : List Int} {n : Int} (hn : 1 ≤ n) (h : n < 1000) : ∃ k : Int, (if (if (ns.length : Int) < n then (ns.length : Int) else n) > 1 then (if (ns.length : Int) < n then (ns.length : Int) else n) else 1) = k ∧ 0 ≤ k ∧ k ≤ n := ⟨_, rfl, by split <;> split <;> omega, by split <;> split <;> omega⟩

/-! ### places -/
theorem ix_at {ds : List D} {i : Nat} {d : D} (h : ds[i]? = some d) : ixD (.lst ds) (.int i) = some d := by
  have hi := (List.getElem?_eq_some_iff.mp h).1
  show atI ds i = _
  unfold atI ixN
  rw [if_pos (by omega), if_pos (by omega)]
  simpa using h
theorem ix_last {ds : List D} {d : D} : ixD (.lst (ds ++ [d])) (.int (-1)) = some d := by
  show atI _ _ = _
  unfold atI ixN
  rw [if_neg (by omega), if_pos (by simp; omega)]
  have e : (-1 + (((ds ++ [d]).length : Nat) : Int)).toNat = ds.length := by simp; omega
  rw [e]
  simp
theorem ix_0 {ds : List D} {d : D} : ixD (.lst (d :: ds)) (.int 0) = some d := ix_at (i := 0) rfl
theorem lenE {X : Type} {e : X → D} {xs : List X} : lenD [.lst (xs.map e)] = some (.int xs.length) := by
  show some (D.int (xs.map e).length) = _
  rw [List.length_map]
theorem lenET {X : Type} {e : X → D} {xs : List X} : lenD [.tup (xs.map e)] = some (.int xs.length) := by
  show some (D.int (xs.map e).length) = _
  rw [List.length_map]
theorem cut_back {ds : List D} {i : Nat} (h : i ≤ ds.length) : cutD ds (some i) none = ds.drop i := by
  unfold cutD HT.sIx
  simp only []
  rw [if_neg (by omega)]
  have : min (i : Int).toNat ds.length = i := by omega
  rw [this]
  rw [List.take_of_length_le (by simp)]
/-! ### one and the same -/
def Shp (n : Nat) (d : D) : Prop := (toP d).canLay0 = true ∧ (toP d).depth ≤ n
theorem Shp.mono {n k : Nat} {d : D} (h : Shp n d) (l : n ≤ k) : Shp k d := ⟨h.1, Nat.le_trans h.2 l⟩
theorem shp_int {i : Int} : Shp 0 (.int i) := ⟨rfl, by simp [toP, PyData.depth]⟩
theorem shp_non : Shp 0 .non := ⟨rfl, by simp [toP, PyData.depth]⟩
theorem shp_all {n : Nat} : ∀ {ds : List D}, (∀ x, x ∈ ds → Shp n x) → PyData.canLayAll0 (toPs ds) = true ∧ PyData.depthAll (toPs ds) ≤ n
  | [], _ => ⟨rfl, Nat.zero_le _⟩
  | d :: ds, h => by
    obtain ⟨a1, a2⟩ := h d List.mem_cons_self
    obtain ⟨b1, b2⟩ := shp_all (ds := ds) fun x hx => h x (List.mem_cons_of_mem _ hx)
    refine ⟨by simp [toPs, PyData.canLayAll0, a1, b1], ?_⟩
    simp only [toPs, PyData.depthAll]; omega
theorem shp_lst {n : Nat} {ds : List D} (h : ∀ x, x ∈ ds → Shp n x) : Shp (n + 1) (.lst ds) := by
  obtain ⟨b1, b2⟩ := shp_all h
  refine ⟨by simpa [toP, PyData.canLay0] using b1, ?_⟩
  simp only [toP, PyData.depth]; omega
theorem shp_tup {n : Nat} {ds : List D} (h : ∀ x, x ∈ ds → Shp n x) : Shp (n + 1) (.tup ds) := by
  obtain ⟨b1, b2⟩ := shp_all h
  refine ⟨by simpa [toP, PyData.canLay0] using b1, ?_⟩
  simp only [toP, PyData.depth]; omega
theorem Shp.shaped {d : D} (h : Shp 60 d) : SeqAt.shaped (toP d) = true := by
  unfold SeqAt.shaped
  rw [h.1, Bool.true_and]
  exact decide_eq_true (Nat.le_trans h.2 (by decide))
theorem eqD_shp {d e : D} (h : Shp 60 d) (g : Shp 60 e) (hd : ∀ a b, d = .int a → e = .int b → False) (hs : ∀ a b, d = .str a → e = .str b → False) (hb : ∀ a b, d = .bl a → e = .bl b → False) : eqD d e = some (PyData.eqv (toP d) (toP e)) := by
  have key : eqD d e = if SeqAt.shaped (toP d) = true ∧ SeqAt.shaped (toP e) = true then some (PyData.eqv (toP d) (toP e)) else none := by
    unfold eqD
    split
    · exact (hd _ _ rfl rfl).elim
    · exact (hs _ _ rfl rfl).elim
    · exact (hb _ _ rfl rfl).elim
    · rfl
  rw [key, if_pos ⟨h.shaped, g.shaped⟩]
theorem eq_same {d : D} (h : Shp 60 d) : eqD d d = some true := by
  have key : (eqD d d = if SeqAt.shaped (toP d) = true ∧ SeqAt.shaped (toP d) = true then some (PyData.eqv (toP d) (toP d)) else none) ∨ eqD d d = some true := by
    cases d <;> first | exact .inl rfl | exact .inr (by simp [eqD])
  rcases key with e | e
  · rw [e, if_pos ⟨h.shaped, h.shaped⟩, SeqAt.eqv_refl _ h.1]
  · exact e
theorem ne_same {d : D} (h : Shp 60 d) : neD d d = some false := by
  unfold neD
  rw [eq_same h]; rfl
theorem neI {a b : Int} : neD (.int a) (.int b) = some (!decide (a = b)) := rfl
theorem neS {a : Str} : neD (.str a) (.str a) = some false := by simp [neD, eqD]
theorem eqS {a : Str} : eqD (.str a) (.str a) = some true := by simp [eqD]
theorem ints_ok : ∀ {ns : List Int}, intsD (ns.map D.int) = some ns
  | [] => rfl
  | n :: ns => by
    show (intsD (ns.map D.int)).map _ = _
    rw [ints_ok]; rfl
theorem bls_ok : ∀ {ns : List Bool}, bls (ns.map D.bl) = some ns
  | [] => rfl
  | n :: ns => by
    show (bls (ns.map D.bl)).map _ = _
    rw [bls_ok]; rfl
theorem all_ok {ns : List Bool} : allD [.lst (ns.map D.bl)] = some (.bl (ns.all id)) := by
  show (bls (ns.map D.bl)).map _ = _
  rw [bls_ok]; rfl
theorem eq_nil {ds : List D} (h : Shp 60 (.lst ds)) : eqD (.lst ds) (.lst []) = some ds.isEmpty := by
  rw [eqD_shp h ((shp_lst (n := 0) (by simp)).mono (by omega)) (fun _ _ h => nomatch h) (fun _ _ h => nomatch h) (fun _ _ h => nomatch h)]
  cases ds <;> rfl
theorem ne_nil {ds : List D} (h : Shp 60 (.lst ds)) : neD (.lst ds) (.lst []) = some (!ds.isEmpty) := by
  unfold neD
  rw [eq_nil h]; rfl
/-- side by side -/
def adj {X : Type} (p : X → X → Bool) : List X → Bool
  | x :: y :: r => p x y && adj p (y :: r)
  | _ => true
theorem all_zip {X : Type} {p : X → X → Bool} : ∀ {xs : List X}, ((xs.zip (xs.drop 1)).map fun z => p z.1 z.2).all id = adj p xs
  | [] => rfl
  | [x] => rfl
  | x :: y :: r => by
    have ih := all_zip (p := p) (xs := y :: r)
    simp only [List.drop_succ_cons, List.drop_zero, List.zip_cons_cons, List.map_cons, List.all_cons, id] at ih ⊢
    rw [ih]; rfl
theorem pairs_map {X Y : Type} {e : X → D} {e2 : Y → D} : ∀ {xs : List X} {ys : List Y}, pairs (xs.map e) (ys.map e2) = (xs.zip ys).map fun z => .tup [e z.1, e2 z.2]
  | [], _ => by simp [pairs]
  | _ :: _, [] => rfl
  | x :: xs, y :: ys => by
    show _ :: pairs (xs.map e) (ys.map e2) = _
    rw [pairs_map]; rfl
theorem zip_lst {X Y : Type} {e : X → D} {e2 : Y → D} {xs : List X} {ys : List Y} : zipX (.lst (xs.map e)) (.lst (ys.map e2)) = some ((xs.zip ys).map fun z => .tup [e z.1, e2 z.2]) := by
  show some (pairs _ _) = _
  rw [pairs_map]
/-- whether p fails at a place and the next one -/
def gap {X : Type} (p : X → X → Bool) (xs : List X) (k : Nat) : Bool := match xs[k]?, xs[k + 1]? with
  | some a, some c => !p a c
  | _, _ => false
/-! ### sayings -/
abbrev Say := Int × Option Int
def eO : Option Int → D
  | none => .non
  | some b => .int b
def eS (s : Say) : D := .tup [.int s.1, eO s.2]
def okS (B : Int) (s : Say) : Prop := 0 ≤ s.1 ∧ s.1 < B ∧ ∀ b, s.2 = some b → s.1 ≤ b ∧ b < B
theorem typed {X : Type} {e : X → D} {p : X → Prop} : ∀ {ds : List D}, (∀ d, d ∈ ds → ∃ x, d = e x ∧ p x) → ∃ xs : List X, ds = xs.map e ∧ ∀ x, x ∈ xs → p x
  | [], _ => ⟨[], rfl, by simp⟩
  | d :: ds, h => by
    obtain ⟨x, rfl, hp⟩ := h d List.mem_cons_self
    obtain ⟨xs, rfl, hps⟩ := typed (ds := ds) fun d hd => h d (List.mem_cons_of_mem _ hd)
    refine ⟨x :: xs, rfl, fun y hy => ?_⟩
    rcases List.mem_cons.mp hy with rfl | hy
    · exact hp
    · exact hps y hy
/-- whether a saying is true of so many -/
def so (s : Say) (c : Int) : Bool := decide (s.1 ≤ c) && (match s.2 with | none => true | some b => decide (c ≤ b))
def b2 (b : Bool) : Int := if b then 1 else 0
def tot : List Say → Int → Int
  | [], c => c
  | s :: r, c => tot r c + b2 (so s (tot r c))
def tots : List Say → Int → List Int
  | [], c => [c]
  | s :: r, c => tot (s :: r) c :: tots r c
theorem okS.mono {B C : Int} {s : Say} (h : okS B s) (l : B ≤ C) : okS C s := ⟨h.1, by have := h.2.1; omega, fun b e => by have := h.2.2 b e; omega⟩
def words (xs : List Say) (c : Int) : List Bool := match xs with
  | [] => []
  | s :: r => so s (tot r c) :: words r c
def rowAs (r : D) (xs : List Say) : Prop := r = .lst (xs.map eS) ∨ r = .tup (xs.map eS)
theorem rowAs.len {r : D} {xs : List Say} (h : rowAs r xs) : lenD [r] = some (.int xs.length) := by
  rcases h with rfl | rfl
  · exact lenE
  · exact lenET
theorem rowAs.rev {r : D} {xs : List Say} (h : rowAs r xs) : ∃ r', revD r = some r' ∧ asL r' = some (xs.map eS).reverse := by
  rcases h with rfl | rfl
  · exact ⟨_, rfl, rfl⟩
  · exact ⟨_, rfl, rfl⟩
/-- data of scalars, lists and tuples, so deep at most -/
def Pl : Nat → D → Prop
  | _, .int _ => True
  | _, .bl _ => True
  | _, .non => True
  | n + 1, .lst ds => ds.length < 900000 ∧ ∀ x, x ∈ ds → Pl n x
  | n + 1, .tup ds => ds.length < 900000 ∧ ∀ x, x ∈ ds → Pl n x
  | _, _ => False
theorem mem2 {X : Type} {P : X → Prop} {a b : X} (ha : P a) (hb : P b) : ∀ x, x ∈ [a, b] → P x := by simpa using ⟨ha, hb⟩
/-! ### wishes -/
def nx (s : Say) (m : Int) : Int := m - b2 (so s (m - 1))
def hand : List Say → Int → Int
  | [], m => m
  | s :: r, m => hand r (nx s m)
def hands : List Say → Int → List Int
  | [], m => [m]
  | s :: r, m => m :: hands r (nx s m)
theorem rowAs.as {r : D} {xs : List Say} (h : rowAs r xs) : asL r = some (xs.map eS) := by
  rcases h with rfl | rfl <;> rfl
theorem rowAs.cut {r : D} {xs : List Say} (h : rowAs r xs) {i : Nat} (hi : i ≤ xs.length) : ∃ r', cutA r (some i) none = some r' ∧ rowAs r' (xs.drop i) := by
  rcases h with rfl | rfl
  · exact ⟨_, rfl, .inl (by rw [cut_back (by simpa using hi), List.map_drop])⟩
  · exact ⟨_, rfl, .inr (by rw [cut_back (by simpa using hi), List.map_drop])⟩
end BR

/-! K50: instances of own classes: read where they stand fast, changed within their own methods -/
namespace BR
open PySem PySem.Spec PyProof.Rows L2

/-! ### calls -/
section
variable {X : Cx} {k : Nat} {f C : Addr} {fd : FuncData} {ps : List Str} {sp : Sp} {E : XK} {x m : Str} {p pos apos : Pos} {e o : Expr} {es : List Expr} {ta : TE} {t : TA} {dvs : List V} {ds : List Value}
end

/-! ### fields of what stands fast -/
abbrev Fd := List (Str × Bool × D)
/-- a field of an instance of one of these classes, that stands fast -/
def fldD (cs : List Str) (f : Str) : D → Option D
  | .obj c fs => if c ∈ cs then (match fs.lookup f with
    | some (false, d) => some d
    | _ => none) else none
  | _ => none
theorem VFs.get {K : PySem.W.Frag} {G H : Hp} : ∀ {fs : Fd} {vs : List (Str × V)} {f : Str} {b : Bool} {d : D}, VFs K G H fs vs → fs.lookup f = some (b, d) → ∃ v, vs.lookup f = some v ∧ VF K G H b d v
  | [], _, _, _, _, _, e => by cases e
  | (k, b', d') :: r, _, f, b, d, h, e => by
    obtain ⟨v, q, e1, h1, h2⟩ := h
    subst e1
    by_cases hk : (f == k) = true
    · rw [List.lookup_cons, hk] at e
      cases e
      exact ⟨v, by rw [List.lookup_cons, hk], h1⟩
    · have hk : (f == k) = false := by simpa using hk
      rw [List.lookup_cons, hk] at e
      obtain ⟨u, e2, e3⟩ := VFs.get h2 e
      exact ⟨u, by rw [List.lookup_cons, hk]; exact e2, e3⟩
theorem RepFs.get {K : PySem.W.Frag} {G : Hp} : ∀ {fs : Fd} {vs : List (Str × V)} {f : Str} {b : Bool} {d : D}, RepFs K G fs vs → fs.lookup f = some (b, d) → ∃ v, vs.lookup f = some v ∧ Rep K G d v
  | [], _, _, _, _, _, e => by cases e
  | (k, b', d') :: r, _, f, b, d, h, e => by
    obtain ⟨v, q, e1, h1, h2⟩ := h
    subst e1
    by_cases hk : (f == k) = true
    · rw [List.lookup_cons, hk] at e
      cases e
      exact ⟨v, by rw [List.lookup_cons, hk], h1⟩
    · have hk : (f == k) = false := by simpa using hk
      rw [List.lookup_cons, hk] at e
      obtain ⟨u, e2, e3⟩ := RepFs.get h2 e
      exact ⟨u, by rw [List.lookup_cons, hk]; exact e2, e3⟩
theorem VFs.none {K : PySem.W.Frag} {G H : Hp} : ∀ {fs : Fd} {vs : List (Str × V)} {f : Str}, VFs K G H fs vs → fs.lookup f = none → vs.lookup f = none
  | [], _, _, h, _ => by rw [show _ = [] from h]; rfl
  | (k, b', d') :: r, _, f, h, e => by
    obtain ⟨v, q, e1, h1, h2⟩ := h
    subst e1
    by_cases hk : (f == k) = true
    · rw [List.lookup_cons, hk] at e; cases e
    · have hk : (f == k) = false := by simpa using hk
      rw [List.lookup_cons, hk] at e ⊢
      exact VFs.none h2 e
theorem VFs.len {K : PySem.W.Frag} {G H : Hp} : ∀ {fs : Fd} {vs : List (Str × V)}, VFs K G H fs vs → vs.length = fs.length
  | [], _, h => by rw [show _ = [] from h]; rfl
  | (k, b', d') :: r, _, h => by
    obtain ⟨v, q, e1, h1, h2⟩ := h
    subst e1
    rw [List.length_cons, List.length_cons, VFs.len h2]
/-- no class of these has the name -/
def NoF (K : PySem.W.Frag) (cs : List Str) (f : Str) : Prop := ∀ c, c ∈ cs → ∀ C, PySem.W.nsIn K mainGlobals c = some (some (.ref C)) → L2.NoAttr K C f
section
variable {X : Cx} {en : Kn} {δ τ : List Slot} {R : Type} {C : Slot → List Slot → Res R → Prop} {m : Res R}
end

/-! ### the instance in hand -/
def putO (f : Str) (b : Bool) (d : D) : Fd → Fd
  | [] => [(f, b, d)]
  | (g, x) :: r => if g = f then (g, b, d) :: r else (g, x) :: putO f b d r
/-- the fields' values; as: the own lists' places -/
def OwF (K : PySem.W.Frag) (G M : Hp) : Fd → List Addr → List (Str × V) → Prop
  | [], as, vs => as = [] ∧ vs = []
  | (k, b, d) :: fs, as, vs => ∃ v r, vs = (k, v) :: r ∧ ((b = false ∧ Rep K G d v ∧ OwF K G M fs as r) ∨ (b = true ∧ ∃ a q, as = a :: q ∧ v = .ref a ∧ MRep K G M d a ∧ OwF K G M fs q r))
section
variable {K : PySem.W.Frag} {G M H : Hp}
theorem MRep.vf : ∀ {d : D} {p : Addr}, MRep K G H d p → VF K G H true d (.ref p)
  | .lst ds, p, h => by obtain ⟨vs, e, r⟩ := h; exact ⟨p, vs, rfl, e, r⟩
  | .dic ds, p, h => by obtain ⟨vs, e, r⟩ := h; exact ⟨p, vs, rfl, e, r⟩
  | .non, _, h => h.elim
  | .bl _, _, h => h.elim
  | .int _, _, h => h.elim
  | .str _, _, h => h.elim
  | .tup _, _, h => h.elim
  | .scr _, _, h => h.elim
  | .exc _ _, _, h => h.elim
  | .obj _ _, _, h => h.elim
theorem OwF.vfs : ∀ {fs : Fd} {as : List Addr} {vs : List (Str × V)}, OwF K G M fs as vs → VFs K G M fs vs
  | [], _, _, h => h.2
  | (k, b, d) :: r, _, _, h => by
    obtain ⟨v, q, e, h1⟩ := h
    rcases h1 with ⟨eb, h1, h2⟩ | ⟨eb, a, q', ea, ev, h1, h2⟩
    · subst eb
      exact ⟨v, q, e, by cases d <;> exact h1, h2.vfs⟩
    · subst eb ev
      exact ⟨_, q, e, h1.vf, h2.vfs⟩
theorem OwF.mono {G' M' : Hp} (sg : Sub G G') : ∀ {fs : Fd} {as : List Addr} {vs : List (Str × V)}, OwF K G M fs as vs → (∀ a, a ∈ as → ∀ o, M a = some o → M' a = some o) → OwF K G' M' fs as vs
  | [], _, _, h, _ => h
  | (k, b, d) :: r, _, _, h, km => by
    obtain ⟨v, q, e, h1⟩ := h
    rcases h1 with ⟨eb, h1, h2⟩ | ⟨eb, a, q', ea, ev, h1, h2⟩
    · exact ⟨v, q, e, .inl ⟨eb, Rep.sub sg _ _ h1, h2.mono sg km⟩⟩
    · subst ea
      exact ⟨v, q, e, .inr ⟨eb, a, q', rfl, ev, h1.keep sg (km a List.mem_cons_self), h2.mono sg fun x hx => km x (List.mem_cons_of_mem _ hx)⟩⟩
theorem OwF.get : ∀ {fs : Fd} {as : List Addr} {vs : List (Str × V)} {f : Str} {b : Bool} {d : D}, OwF K G M fs as vs → fs.lookup f = some (b, d) → ∃ v, vs.lookup f = some v ∧ ((b = false ∧ Rep K G d v) ∨ (b = true ∧ ∃ a, a ∈ as ∧ v = .ref a ∧ MRep K G M d a))
  | [], _, _, _, _, _, _, e => by cases e
  | (k, b', d') :: r, _, _, f, b, d, h, e => by
    obtain ⟨v, q, e1, h1⟩ := h
    subst e1
    by_cases hk : (f == k) = true
    · rw [List.lookup_cons, hk] at e
      cases e
      refine ⟨v, by rw [List.lookup_cons, hk], ?_⟩
      rcases h1 with ⟨eb, h1, h2⟩ | ⟨eb, a, q', ea, ev, h1, h2⟩
      · exact .inl ⟨eb, h1⟩
      · subst ea
        exact .inr ⟨eb, a, List.mem_cons_self, ev, h1⟩
    · have hk : (f == k) = false := by simpa using hk
      rw [List.lookup_cons, hk] at e
      rcases h1 with ⟨eb, h1, h2⟩ | ⟨eb, a, q', ea, ev, h1, h2⟩
      · obtain ⟨u, e2, e3⟩ := h2.get e
        exact ⟨u, by rw [List.lookup_cons, hk]; exact e2, e3⟩
      · subst ea
        obtain ⟨u, e2, e3⟩ := h2.get e
        refine ⟨u, by rw [List.lookup_cons, hk]; exact e2, ?_⟩
        rcases e3 with e3 | ⟨e3, a', m', e4⟩
        · exact .inl e3
        · exact .inr ⟨e3, a', List.mem_cons_of_mem _ m', e4⟩
/-- an own list changed -/
theorem OwF.mut {q : Addr} {o : HO} {d' : D} {f : Str} : ∀ {fs : Fd} {as : List Addr} {vs : List (Str × V)} {d : D}, as.Nodup → OwF K G M fs as vs → fs.lookup f = some (true, d) → vs.lookup f = some (.ref q) → MRep K G (upd M q o) d' q → OwF K G (upd M q o) (putO f true d' fs) as vs
  | [], _, _, _, _, _, e, _, _ => by cases e
  | (k, b', d0) :: r, as, _, d, nd, h, e, ev, hm => by
    obtain ⟨v, vr, e1, h1⟩ := h
    subst e1
    by_cases hk : f = k
    · have hkb : (f == k) = true := by simpa using hk
      rw [List.lookup_cons, hkb] at e ev
      cases e
      cases ev
      rcases h1 with ⟨eb, h1, h2⟩ | ⟨eb, a, q', ea, ev, h1, h2⟩
      · cases eb
      · subst ea
        cases ev
        unfold putO
        rw [if_pos hk.symm]
        refine ⟨_, vr, rfl, .inr ⟨rfl, q, q', rfl, rfl, hm, h2.mono (Sub.refl _) fun x hx o e => ?_⟩⟩
        rw [upd_ne fun z => by subst z; exact (List.nodup_cons.mp nd).1 hx]; exact e
    · have hkb : (f == k) = false := by simpa using hk
      rw [List.lookup_cons, hkb] at e ev
      have e : r.lookup f = some (true, d) := e
      have ev : vr.lookup f = some (.ref q) := ev
      unfold putO
      rw [if_neg (fun z => hk z.symm)]
      rcases h1 with ⟨eb, h1, h2⟩ | ⟨eb, a, q', ea, ev', h1, h2⟩
      · exact ⟨v, vr, rfl, .inl ⟨eb, h1, h2.mut nd e ev hm⟩⟩
      · subst ea
        obtain ⟨n1, n2⟩ := List.nodup_cons.mp nd
        have hq : q ∈ q' := by
          obtain ⟨u, e2, e3⟩ := h2.get e
          rw [ev] at e2
          cases e2
          rcases e3 with ⟨z, _⟩ | ⟨_, a', m', e4, _⟩
          · cases z
          · cases e4; exact m'
        exact ⟨v, vr, rfl, .inr ⟨eb, a, q', rfl, ev', h1.keep (Sub.refl _) fun o e => by rw [upd_ne fun z => by subst z; exact n1 hq]; exact e, h2.mut n2 e ev hm⟩⟩
end
/-- the instance at p, with all that is its own in M -/
def ObM (K : PySem.W.Frag) (G M : Hp) (c : Str) (p : Addr) (fs : Fd) : Prop :=
  ∃ C dx vs as, ObF K c C ∧ M p = some (.ins C dx vs) ∧ M dx = some (.own p) ∧ OwF K G M fs as vs ∧ as.Nodup
theorem OwF.own {K : PySem.W.Frag} {G M : Hp} : ∀ {fs : Fd} {as : List Addr} {vs : List (Str × V)}, OwF K G M fs as vs → ∀ a, a ∈ as → ∃ d, MRep K G M d a
  | [], _, _, h, a, ha => by rw [h.1] at ha; cases ha
  | (k, b, d) :: r, _, _, h, a, ha => by
    obtain ⟨v, q, e, h1⟩ := h
    rcases h1 with ⟨eb, h1, h2⟩ | ⟨eb, a', q', ea, ev, h1, h2⟩
    · exact h2.own a ha
    · subst ea
      rcases List.mem_cons.mp ha with z | z
      · subst z; exact ⟨d, h1⟩
      · exact h2.own a z
abbrev Kn.ext (en : Kn) (M : Hp) : Kn := { en with F0 := uni M en.F0 }
structure KnX (en en' : Kn) : Prop where
  n : en'.n = en.n
  ps : en'.ps = en.ps
  HX : en'.HX = en.HX
  F0 : Sub en.F0 en'.F0
theorem KnX.lk {X : Cx} {en en' : Kn} (h : KnX en en') (l : Lk X en) : Lk X en' := by
  obtain ⟨W, t, k⟩ := l
  exact ⟨W, t, fun x hx cls d σ H' e s => k x (h.HX ▸ hx) cls d σ H' (e.to fun a h1 h2 => ⟨h.F0.none h1, h.ps ▸ h2⟩) (h.F0.trans s)⟩
/-- what is borrowed, by place -/
def bwk : List Slot → List (Option D)
  | [] => []
  | .bw d :: r => some d :: bwk r
  | _ :: r => none :: bwk r
theorem bwk_get : ∀ {δ : List Slot} {j : Nat} {d : D}, δ[j]? = some (.bw d) ↔ (bwk δ)[j]? = some (some d)
  | [], j, d => by simp [bwk]
  | .bw e :: r, 0, d => by simp [bwk]
  | .un :: r, 0, d => by simp [bwk]
  | .fr _ :: r, 0, d => by simp [bwk]
  | .mu _ :: r, 0, d => by simp [bwk]
  | .mp _ _ :: r, 0, d => by simp [bwk]
  | .bo _ :: r, 0, d => by simp [bwk]
  | .bw e :: r, j + 1, d => by simpa [bwk] using bwk_get (δ := r) (j := j)
  | .un :: r, j + 1, d => by simpa [bwk] using bwk_get (δ := r) (j := j)
  | .fr _ :: r, j + 1, d => by simpa [bwk] using bwk_get (δ := r) (j := j)
  | .mu _ :: r, j + 1, d => by simpa [bwk] using bwk_get (δ := r) (j := j)
  | .mp _ _ :: r, j + 1, d => by simpa [bwk] using bwk_get (δ := r) (j := j)
  | .bo _ :: r, j + 1, d => by simpa [bwk] using bwk_get (δ := r) (j := j)
/-- the state within a def that has an instance of its own in hand: the name at i, the object at p, its parts in M -/
structure OSt (K : PySem.W.Frag) (en : Kn) (i : Nat) (c : Str) (p : Addr) (δ : List Slot) (σ : L2.St) (M G H : Hp) : Prop where
  wd : Wd K (en.ext M) δ σ G H
  mo : ∀ a o, M a = some o → en.F0 a = none ∧ en.G0 a = none ∧ a ∉ en.ps
  at_ : σ[i]? = some (some (.ref p))
  ob : ∃ fs, δ[i]? = some (.bw (.obj c fs)) ∧ ObM K G M c p fs
  bw : ∀ (j : Nat) d v, j ≠ i → δ[j]? = some (.bw d) → σ[j]? = some (some v) → BRep K G en.F0 d v
section
variable {K : PySem.W.Frag} {en : Kn} {i : Nat} {c : Str} {p : Addr} {δ δ' : List Slot} {σ σ' : L2.St} {M G H G' H' : Hp}
theorem OSt.fsub (O : OSt K en i c p δ σ M G H) : Sub en.F0 (en.ext M).F0 := fun a o e => by
  show uni M en.F0 a = some o
  unfold uni
  cases z : M a with
  | none => exact e
  | some u => rw [(O.mo a u z).1] at e; cases e
theorem OSt.msub (O : OSt K en i c p δ σ M G H) : Sub M H := fun a o e => O.wd.frm a o (uni_l a o e)
theorem OSt.gnone (O : OSt K en i c p δ σ M G H) {a : Addr} {o : HO} (h : M a = some o) : G a = none := by
  cases z : G a with
  | none => rfl
  | some u =>
    rcases O.wd.new a u z with q | ⟨q, _⟩
    · have := (O.mo a o h).2.1
      have q : en.G0 a = some u := q
      rw [this] at q; cases q
    · have q : uni M en.F0 a = none := q
      unfold uni at q
      rw [h] at q; cases q
theorem OSt.nown (O : OSt K en i c p δ σ M G H) {a : Addr} {o : HO} (h : M a = some o) {j : Nat} : ¬ Own δ σ j a := fun ⟨sl, e1, e2, e3⟩ => by
  have q := O.wd.slot j sl _ e1 e3
  have f0 : uni M en.F0 a = some o := uni_l a o h
  cases sl with
  | mu d => obtain ⟨p2, e, _, f, _, r⟩ := q; cases e; have f : uni M en.F0 a = none := f; rw [f0] at f; cases f
  | mp _ d => obtain ⟨p2, e, _, _, f, r⟩ := q; cases e; have f : uni M en.F0 a = none := f; rw [f0] at f; cases f
  | un => cases e2
  | fr _ => cases e2
  | bw _ => cases e2
  | bo _ => cases e2
theorem ObM.g (s : Sub G G') {fs : Fd} (h : ObM K G M c p fs) : ObM K G' M c p fs := by
  obtain ⟨C, dx, vs, as, h1, h2, h3, h4, h5⟩ := h
  exact ⟨C, dx, vs, as, h1, h2, h3, h4.mono s fun _ _ _ e => e, h5⟩
/-- on, the instance as it was -/
theorem OSt.keep (O : OSt K en i c p δ σ M G H) (W : Wd K (en.ext M) δ' σ' G' H') (sg : Sub G G') (hb : bwk δ' = bwk δ) (hs : ∀ (j : Nat) d, δ[j]? = some (.bw d) → σ'[j]? = σ[j]?) : OSt K en i c p δ' σ' M G' H' where
  wd := W
  mo := O.mo
  at_ := by
    obtain ⟨fs, h1, _⟩ := O.ob
    rw [hs i _ h1]; exact O.at_
  ob := by
    obtain ⟨fs, h1, h2⟩ := O.ob
    exact ⟨fs, bwk_get.mpr (by rw [hb]; exact bwk_get.mp h1), h2.g sg⟩
  bw := fun j d v hj h1 h2 => by
    have h3 : δ[j]? = some (.bw d) := bwk_get.mpr (by rw [← hb]; exact bwk_get.mp h1)
    rw [hs j d h3] at h2
    exact BRep.sub sg (Sub.refl _) (O.bw j d v hj h3 h2)
theorem VRep.ob {fs : Fd} (h : ObM K G M c p fs) (s : Sub M H) : VRep K G H (.obj c fs) (.ref p) := by
  obtain ⟨C, dx, vs, as, h1, h2, h3, h4, h5⟩ := h
  exact ⟨p, C, dx, vs, rfl, h1, s _ _ h2, s _ _ h3, VFs.sub (Sub.refl _) s h4.vfs⟩
/-- the instance is changed -/
theorem OSt.chg {M' : Hp} {fs' : Fd} (O : OSt K en i c p δ σ M G H) (hnb : noBo δ = true) (dom : ∀ a, M' a = none → M a = none) (sM : Sub M' H') (oth : ∀ a, M' a = none → H' a = H a)
    (new : ∀ a o, M' a = some o → M a = none → en.F0 a = none ∧ en.G0 a = none ∧ a ∉ en.ps ∧ G a = none ∧ ∀ j, ¬ Own δ σ j a) (ob : ObM K G M' c p fs') : OSt K en i c p (δ.set i (.bw (.obj c fs'))) σ M' G H' := by
  have mo' : ∀ a o, M' a = some o → en.F0 a = none ∧ en.G0 a = none ∧ a ∉ en.ps ∧ G a = none ∧ ∀ j, ¬ Own δ σ j a := fun a o e => by
    cases z : M a with
    | none => exact new a o e z
    | some u =>
      obtain ⟨h1, h2, h3⟩ := O.mo a u z
      exact ⟨h1, h2, h3, O.gnone z, fun j => O.nown z⟩
  have nm : ∀ {a : Addr} {P : Prop}, (∀ o, M' a = some o → False) → M' a = none := fun {a P} h => by
    cases z : M' a with
    | none => rfl
    | some o => exact (h o z).elim
  obtain ⟨fs, hi, hob⟩ := O.ob
  have hil := (List.getElem?_eq_some_iff.mp hi).1
  have f0 : ∀ {a : Addr}, uni M en.F0 a = none → en.F0 a = none := fun {a} h => by
    unfold uni at h
    split at h
    · cases h
    · exact h
  have nu : ∀ {a : Addr}, en.F0 a = none → M' a = none → uni M' en.F0 a = none := fun {a} h1 h2 => by
    unfold uni; rw [h2]; exact h1
  have fsub : Sub en.F0 (uni M' en.F0) := fun a o e => by
    unfold uni
    cases z : M' a with
    | none => exact e
    | some u => rw [(mo' a u z).1] at e; cases e
  have get : ∀ (j : Nat) sl, (δ.set i (.bw (.obj c fs')))[j]? = some sl → (j = i ∧ sl = .bw (.obj c fs')) ∨ (j ≠ i ∧ δ[j]? = some sl) := fun j sl h => by
    by_cases hj : j = i
    · subst hj
      rw [List.getElem?_set_self hil] at h
      exact .inl ⟨rfl, (Option.some.inj h).symm⟩
    · rw [List.getElem?_set_ne (Ne.symm hj)] at h
      exact .inr ⟨hj, h⟩
  have own : ∀ {j : Nat} {a : Addr}, Own (δ.set i (.bw (.obj c fs'))) σ j a → Own δ σ j a := fun {j a} ⟨sl, e1, e2, e3⟩ => by
    rcases get j sl e1 with ⟨_, z⟩ | ⟨_, z⟩
    · subst z; cases e2
    · exact ⟨sl, z, e2, e3⟩
  have Wn : Wd K (en.ext M') (δ.set i (.bw (.obj c fs'))) σ G H' := {
    len := by rw [List.length_set]; exact O.wd.len
    sub := fun a o e => by
      rw [oth a (nm (P := True) fun u z => by rw [(mo' a u z).2.2.2.1] at e; cases e)]; exact O.wd.sub a o e
    ext := O.wd.ext
    new := fun a o e => by
      rcases O.wd.new a o e with q | ⟨q1, q2⟩
      · exact .inl q
      · exact .inr ⟨nu (f0 q1) (nm (P := True) fun u z => by rw [(mo' a u z).2.2.2.1] at e; cases e), q2⟩
    frm := fun a o e => by
      have e : uni M' en.F0 a = some o := e
      unfold uni at e
      cases z : M' a with
      | some u => rw [z] at e; cases e; exact sM a _ z
      | none =>
        rw [z] at e
        rw [oth a z]
        exact O.wd.frm a o (O.fsub a o e)
    stay := fun a h => by
      rw [oth a (nm (P := True) fun u z => (mo' a u z).2.2.1 h)]; exact O.wd.stay a h
    nd := O.wd.nd
    slot := fun j sl o h1 h2 => by
      rcases get j sl h1 with ⟨z, e⟩ | ⟨hj, h3⟩
      · subst z e
        rw [O.at_] at h2
        cases h2
        exact ⟨_, rfl, BRep.mk (VRep.ob ob uni_l) fun z => by cases z⟩
      · have q := O.wd.slot j sl o h3 h2
        cases sl with
        | un => trivial
        | fr d => exact q
        | mu d =>
          obtain ⟨a, e, n1, n2, n3, r⟩ := q
          subst e
          have z : M' a = none := nm (P := True) fun u z => (mo' a u z).2.2.2.2 j ⟨_, h3, rfl, h2⟩
          exact ⟨a, rfl, n1, nu (f0 n2) z, n3, r.keep (Sub.refl _) fun o e => by rw [oth a z]; exact e⟩
        | mp l d =>
          obtain ⟨a, e, n0, n1, n2, r⟩ := q
          subst e
          have z : M' a = none := nm (P := True) fun u z => (mo' a u z).2.2.2.2 j ⟨_, h3, rfl, h2⟩
          exact ⟨a, rfl, n0, n1, nu (f0 n2) z, r.keep (Sub.refl _) fun o e => by rw [oth a z]; exact e⟩
        | bw d =>
          obtain ⟨v, e, _⟩ := q
          subst e
          exact ⟨v, rfl, BRep.sub (Sub.refl _) fsub (O.bw j d v hj h3 h2)⟩
        | bo l => exact (noBo_get hnb h3).elim
    apart := fun j l a h1 h2 => O.wd.apart j l a (own h1) (own h2) }
  refine ⟨Wn, fun a o e => ⟨(mo' a o e).1, (mo' a o e).2.1, (mo' a o e).2.2.1⟩, O.at_, ⟨fs', by rw [List.getElem?_set_self hil], ob⟩, fun j d v hj h1 h2 => ?_⟩
  rcases get j _ h1 with ⟨z, _⟩ | ⟨_, h3⟩
  · exact (hj z).elim
  · exact O.bw j d v hj h3 h2
end
end BR

/-! K51: the statements of a def that has an instance of its own in hand -/
namespace BR
open PySem PySem.Spec PyProof.Rows L2
section
variable (X : Cx) (en : Kn) (i : Nat) (c : Str)
structure JY (δ : List Slot) (st : Stmt) {R : Type} (N : List Slot → Res R → Prop) (RT : Slot → List Slot → Res R → Prop) (BK CT : List Slot → Res R → Prop) (m : Res R) : Prop where
  run : m ≠ .bad → en.HX m.exc → ∀ (σ : L2.St) (G H M : Hp) (p : Addr) (E : Ends), δ.length = en.n → OSt X.K en i c p δ σ M G H →
    (∀ δ' σ' G' H' M', N δ' m → δ'.length = en.n → OSt X.K en i c p δ' σ' M' G' H' → E.nx σ' H') →
    (∀ sl δ' v σ' G' H' M', RT sl δ' m → δ'.length = en.n → OSt X.K en i c p (δ' ++ [sl]) (σ' ++ [some v]) M' G' H' → E.rt v H') →
    (∀ δ' σ' G' H' M', BK δ' m → δ'.length = en.n → OSt X.K en i c p δ' σ' M' G' H' → E.bk σ' H') →
    (∀ δ' σ' G' H' M', CT δ' m → δ'.length = en.n → OSt X.K en i c p δ' σ' M' G' H' → E.ct σ' H') → WS X st E σ H
structure JYs (δ : List Slot) (st : List Stmt) {R : Type} (N : List Slot → Res R → Prop) (RT : Slot → List Slot → Res R → Prop) (BK CT : List Slot → Res R → Prop) (m : Res R) : Prop where
  run : m ≠ .bad → en.HX m.exc → ∀ (σ : L2.St) (G H M : Hp) (p : Addr) (E : Ends), δ.length = en.n → OSt X.K en i c p δ σ M G H →
    (∀ δ' σ' G' H' M', N δ' m → δ'.length = en.n → OSt X.K en i c p δ' σ' M' G' H' → E.nx σ' H') →
    (∀ sl δ' v σ' G' H' M', RT sl δ' m → δ'.length = en.n → OSt X.K en i c p (δ' ++ [sl]) (σ' ++ [some v]) M' G' H' → E.rt v H') →
    (∀ δ' σ' G' H' M', BK δ' m → δ'.length = en.n → OSt X.K en i c p δ' σ' M' G' H' → E.bk σ' H') →
    (∀ δ' σ' G' H' M', CT δ' m → δ'.length = en.n → OSt X.K en i c p δ' σ' M' G' H' → E.ct σ' H') → WSs X st E σ H
end
section
variable {X : Cx} {en : Kn} {i : Nat} {c : Str} {p : Addr} {δ δ' : List Slot} {σ σ' : L2.St} {M G H G' H' : Hp} {R : Type} {m : Res R}
theorem OSt.sl (O : OSt X.K en i c p δ σ M G H) (hl : δ.length = en.n) : List.length σ = en.n := O.wd.sl (en := en.ext M) hl
theorem OSt.le (O : OSt X.K en i c p δ σ M G H) (h : Le δ δ') (hi : ∃ fs, δ'[i]? = some (.bw (.obj c fs))) : OSt X.K en i c p δ' σ M G H where
  wd := O.wd.le h
  mo := O.mo
  at_ := O.at_
  ob := by
    obtain ⟨fs, e⟩ := hi
    rcases h.get e with z | z
    · cases z
    · obtain ⟨fs', e2, o⟩ := O.ob
      rw [e2] at z
      cases z
      exact ⟨fs, e, o⟩
  bw := fun j d v hj h1 h2 => by
    rcases h.get h1 with z | z
    · cases z
    · exact O.bw j d v hj z h2
/-- the state with a thing at hand, from the state without -/
theorem OSt.snoc {sl : Slot} {v : V} (O : OSt X.K en i c p δ σ M G H) (W : Wd X.K (en.ext M) (δ' ++ [sl]) (σ ++ [some v]) G' H') (sg : Sub G G') (hl : δ'.length = en.n) (hl0 : δ.length = en.n) (hb : bwk δ' = bwk δ) (hs : ∀ d, sl ≠ .bw d) : OSt X.K en i c p (δ' ++ [sl]) (σ ++ [some v]) M G' H' := by
  have hσ := O.sl hl0
  have O' : OSt X.K en i c p δ' σ M G' H' := O.keep (W.one (en := en.ext M) hl hσ) sg hb fun _ _ _ => rfl
  obtain ⟨fs, h1, h2⟩ := O'.ob
  refine ⟨W, O'.mo, ?_, ⟨fs, ?_, h2⟩, fun j d v hj e1 e2 => ?_⟩
  · rw [List.getElem?_append_left (List.getElem?_eq_some_iff.mp O'.at_).1]; exact O'.at_
  · rw [List.getElem?_append_left (List.getElem?_eq_some_iff.mp h1).1]; exact h1
  · by_cases hjl : j < δ'.length
    · rw [List.getElem?_append_left hjl] at e1
      rw [List.getElem?_append_left (by omega)] at e2
      exact O'.bw j d v hj e1 e2
    · have hj2 : j = δ'.length := by
        have := (List.getElem?_eq_some_iff.mp e1).1
        rw [List.length_append] at this
        have e1 : [sl].length = 1 := rfl
        omega
      subst hj2
      rw [getElem?_last] at e1
      exact (hs d (Option.some.inj e1)).elim
theorem OSt.drop {sl : Slot} {v : V} (O : OSt X.K en i c p (δ ++ [sl]) (σ ++ [some v]) M G H) (hl : δ.length = en.n) (hi : i < δ.length) : OSt X.K en i c p δ σ M G H := by
  have hσ : σ.length = en.n := by
    have := O.wd.len
    rw [List.length_append, List.length_append] at this
    have e1 : [sl].length = 1 := rfl
    have e2 : [some v].length = 1 := rfl
    omega
  obtain ⟨fs, h1, h2⟩ := O.ob
  refine ⟨O.wd.one (en := en.ext M) hl hσ, O.mo, ?_, ⟨fs, ?_, h2⟩, fun j d u hj e1 e2 => O.bw j d u hj ?_ ?_⟩
  · have := O.at_
    rwa [List.getElem?_append_left (by omega)] at this
  · rwa [List.getElem?_append_left hi] at h1
  · rw [List.getElem?_append_left (List.getElem?_eq_some_iff.mp e1).1]; exact e1
  · rw [List.getElem?_append_left (List.getElem?_eq_some_iff.mp e2).1]; exact e2
end
section
variable {X : Cx} {en : Kn} {i : Nat} {c : Str} {δ : List Slot} {R : Type} {m : Res R} {pos : Pos}
variable {N : List Slot → Res R → Prop} {RT : Slot → List Slot → Res R → Prop} {BK CT : List Slot → Res R → Prop}
/-- not borrowed -/
def nbw (s : Slot) : Bool := match s with
  | .fr _ => true
  | .mu _ => true
  | _ => false
end

/-! ### fields set, own lists changed -/
def sFs (f : Str) (fs : Fd) : Slot → Option Fd
  | .fr d => some (putO f false d fs)
  | .mu d => some (putO f true d fs)
  | _ => none
section
variable {X : Cx} {en : Kn} {i : Nat} {c : Str} {p : Addr} {δ δ' : List Slot} {σ σ' : L2.St} {M G H G' H' : Hp} {R : Type} {m : Res R} {pos : Pos}
variable {N : List Slot → Res R → Prop} {RT : Slot → List Slot → Res R → Prop} {BK CT : List Slot → Res R → Prop}
/-- the instance's fields at hand -/
theorem OSt.fld (O : OSt X.K en i c p δ σ M G H) : ∃ fs C dx vs as, δ[i]? = some (.bw (.obj c fs)) ∧ ObF X.K c C ∧ M p = some (.ins C dx vs) ∧ H p = some (.ins C dx vs) ∧ M dx = some (.own p) ∧ OwF X.K G M fs as vs ∧ as.Nodup := by
  obtain ⟨fs, h1, C, dx, vs, as, h2, h3, h4, h5, h6⟩ := O.ob
  exact ⟨fs, C, dx, vs, as, h1, h2, h3, O.msub _ _ h3, h4, h5, h6⟩
theorem OwF.len {K : PySem.W.Frag} {fs : Fd} {as : List Addr} {vs : List (Str × V)} (h : OwF K G M fs as vs) : vs.length = fs.length := h.vfs.len
theorem OwF.nin {K : PySem.W.Frag} {fs : Fd} {as : List Addr} {vs : List (Str × V)} (h : OwF K G M fs as vs) {a : Addr} {C dx : Addr} {us : List (Str × V)} (e : M a = some (.ins C dx us)) : a ∉ as := fun ha => by
  obtain ⟨d, r⟩ := h.own a ha
  cases d <;> first | exact r.elim | (obtain ⟨_, e2, _⟩ := r; rw [e] at e2; cases e2)
theorem OwF.nown {K : PySem.W.Frag} {fs : Fd} {as : List Addr} {vs : List (Str × V)} (h : OwF K G M fs as vs) {a y : Addr} (e : M a = some (.own y)) : a ∉ as := fun ha => by
  obtain ⟨d, r⟩ := h.own a ha
  cases d <;> first | exact r.elim | (obtain ⟨_, e2, _⟩ := r; rw [e] at e2; cases e2)
/-- an own list of the instance changed -/
theorem OSt.mut {f : Str} {d d' : D} {q : Addr} {fs : Fd} {C dx : Addr} {vs : List (Str × V)} {u : HO} (O : OSt X.K en i c p δ σ M G H) (hnb : noBo δ = true) (hi : δ[i]? = some (.bw (.obj c fs))) (hf : fs.lookup f = some (true, d)) (hp : M p = some (.ins C dx vs)) (hq : vs.lookup f = some (.ref q))
    (hr : MRep X.K G (upd H q u) d' q) : OSt X.K en i c p (δ.set i (.bw (.obj c (putO f true d' fs)))) σ (upd M q u) G (upd H q u) := by
  obtain ⟨fs', h1, C', dx', vs', as, h2, h3, h4, h5, h6⟩ := O.ob
  rw [hi] at h1; cases h1
  rw [hp] at h3; cases h3
  obtain ⟨v0, e0, r0⟩ := h5.get hf
  rw [hq] at e0; cases e0
  obtain ⟨hqa, hqr⟩ : q ∈ as ∧ MRep X.K G M d q := by
    rcases r0 with ⟨z, _⟩ | ⟨_, a, ha, ea, r⟩
    · cases z
    · cases ea; exact ⟨ha, r⟩
  obtain ⟨u0, eu0⟩ := hqr.ex
  have hqp : p ≠ q := fun z => by subst z; exact h5.nin hp hqa
  have hqd : dx ≠ q := fun z => by subst z; exact h5.nown h4 hqa
  refine O.chg hnb (fun a h => ?_) (fun a o e => ?_) (fun a h => ?_) (fun a o e h => ?_) ?_
  · by_cases ha : a = q
    · subst ha; rw [upd_same] at h; cases h
    · rw [upd_ne ha] at h; exact h
  · by_cases ha : a = q
    · subst ha; rw [upd_same] at e ⊢; exact e
    · rw [upd_ne ha] at e ⊢; exact O.msub _ _ e
  · by_cases ha : a = q
    · subst ha; rw [upd_same] at h; cases h
    · exact upd_ne ha
  · by_cases ha : a = q
    · subst ha; rw [eu0] at h; cases h
    · rw [upd_ne ha, h] at e; cases e
  · refine ⟨C, dx, vs, as, h2, by rw [upd_ne hqp]; exact hp, by rw [upd_ne hqd]; exact h4, h5.mut h6 hf hq ?_, h6⟩
    exact hr.keep (Sub.refl _) fun o e => by rw [upd_same] at e ⊢; exact e
end
end BR

/-! K52: methods that change their instance, instances made, methods that read -/
namespace BR
open PySem PySem.Spec PyProof.Rows L2

/-- without what is in M -/
def rem (H M : Hp) : Hp := fun a => match M a with
  | some _ => none
  | none => H a
/-- behind a run of a method -/
structure PostY (G H M G' H' M' : Hp) : Prop where
  g : Sub G G'
  gh : Sub G' H'
  mh : Sub M' H'
  new : ∀ a o, G' a = some o → G a = some o ∨ H a = none ∨ M a ≠ none
  frm : ∀ a o, H a = some o → M a = none → H' a = some o
  apart : ∀ a o, M' a = some o → G' a = none
  mnew : ∀ a o, M' a = some o → M a = none → H a = none
/-- a method's promise: s the fields at its begin, what it gives and the fields behind -/
def SpY (K : PySem.W.Frag) (mg : Str → Option Value) (c : Str) {γ α : Type} (mk : γ → Fd) (ks : List Kd) (f : γ → List D → Res α) (val : α → D) (fld : α → Fd) : Sp := fun vs H Q E =>
  ∃ p us, vs = .ref p :: us ∧ us.length = ks.length ∧ ∃ (G M : Hp) (ds : List D) (s : γ) (r : Res α), Sub G H ∧ Sub M H ∧ (∀ a o, M a = some o → G a = none) ∧ ObM K G M c p (mk s) ∧ ArgsOk K G H (rem H M) ks ds us [] ∧ f s ds = r ∧ r ≠ .bad ∧
    (∀ a, r = .ok a → ∀ v G' H' M', PostY G H M G' H' M' → ObM K G' M' c p (fld a) → Rep K G' (val a) v → Q v H') ∧
    (∀ x, r = .raise x → ∀ cls d H', ExcOk mg (rem H M) [] x cls d H' → Sub (rem H M) H' → E cls d H')
section
variable {P : Program} {w : World} {K : PySem.W.Frag} {mg : Str → Option Value} {base : Heap}
/-- a method of the class c that keeps its promise -/
def DfY (P : Program) (w : World) (K : PySem.W.Frag) (mg : Str → Option Value) (base : Heap) (k : Nat) (c m : Str) {γ α : Type} (mk : γ → Fd) (ks : List Kd) (f : γ → List D → Res α) (val : α → D) (fld : α → Fd) : Prop :=
  ∃ (fa : Addr) (fd : FuncData) (psn : List Str), FnG P w K mg base k fa fd psn (SpY K mg c mk ks f val fld) ∧ (∀ C, PySem.W.nsIn K mainGlobals c = some (some (.ref C)) → L2.Meth K C m fa) ∧ Binds K fd psn [] ∧ nms ks = 0
/-- the class c, whose instances are made so -/
def DfI (P : Program) (w : World) (K : PySem.W.Frag) (mg : Str → Option Value) (base : Heap) (k : Nat) (c : Str) {α : Type} (ks : List Kd) (f : List D → Res α) (fld : α → Fd) : Prop :=
  ∃ (C fa : Addr) (fd : FuncData) (psn : List Str), FnG P w K mg base k fa fd psn (SpY K mg c (fun _ : Unit => []) ks (fun _ => f) (fun _ => .non) fld) ∧ mg c = some (.ref C) ∧ ObF K c C ∧ L2.Mk K C fa ∧ Binds K fd psn [] ∧ nms ks = 0
/-- a method of the class c that reads alone -/
def DfM (P : Program) (w : World) (K : PySem.W.Frag) (mg : Str → Option Value) (base : Heap) (k : Nat) (c m : Str) (ks : List Kd) {α : Type} (den : List D → Res α) (val : α → D) (mu : Bool) : Prop :=
  ∃ (C fa : Addr) (fd : FuncData) (psn : List Str), FnG P w K mg base k fa fd psn (SpD K mg ks den val (fun _ => []) mu) ∧ ObF K c C ∧ L2.Meth K C m fa ∧ Binds K fd psn []
def unfl (fs : Fd) : Fd := fs.map fun z => (z.1, false, z.2.2)
theorem OwF.fast {K : PySem.W.Frag} {G M : Hp} (sm : Sub M (uni M G)) (sg : Sub G (uni M G)) : ∀ {fs : Fd} {as : List Addr} {vs : List (Str × V)}, OwF K G M fs as vs → RepFs K (uni M G) (unfl fs) vs
  | [], _, _, h => h.2
  | (k, b, d) :: r, _, _, h => by
    obtain ⟨v, q, e, h1⟩ := h
    rcases h1 with ⟨eb, h1, h2⟩ | ⟨eb, a, q', ea, ev, h1, h2⟩
    · exact ⟨v, q, e, Rep.sub sg _ _ h1, h2.fast sm sg⟩
    · subst ev
      refine ⟨_, q, e, ?_, h2.fast sm sg⟩
      cases d <;> first | exact h1.elim | skip
      · obtain ⟨us, e1, r1⟩ := h1; exact ⟨a, us, rfl, sm _ _ e1, Reps.sub sg _ _ r1⟩
      · obtain ⟨us, e1, r1⟩ := h1; exact ⟨a, us, rfl, sm _ _ e1, RepKs.sub sg _ _ r1⟩
end
section
variable {X : Cx} {en : Kn} {i : Nat} {c : Str} {p : Addr} {δ δ' : List Slot} {σ σ' : L2.St} {M M' G H G' H' : Hp} {R : Type} {m : Res R} {pos : Pos}
variable {N : List Slot → Res R → Prop} {RT : Slot → List Slot → Res R → Prop} {BK CT : List Slot → Res R → Prop}
/-- behind a call that changed the instance -/
theorem OSt.called {K : PySem.W.Frag} {fs' : Fd} (O : OSt K en i c p δ σ M G H) (hnb : noBo δ = true) (po : PostY G H M G' H' M') (ob : ObM K G' M' c p fs') : OSt K en i c p (δ.set i (.bw (.obj c fs'))) σ M' G' H' := by
  have fresh : ∀ {a : Addr}, H a = none → en.F0 a = none ∧ en.G0 a = none ∧ a ∉ en.ps ∧ G a = none := fun {a} h => by
    obtain ⟨h1, h2, h3⟩ := O.wd.fresh h
    have h2 : uni M en.F0 a = none := h2
    refine ⟨?_, ?_, h3, h1⟩
    · unfold uni at h2
      split at h2
      · cases h2
      · exact h2
    · cases z : en.G0 a with
      | none => rfl
      | some o => have := O.wd.ext a o z; rw [h1] at this; cases this
  have mo' : ∀ a o, M' a = some o → en.F0 a = none ∧ en.G0 a = none ∧ a ∉ en.ps := fun a o e => by
    cases z : M a with
    | some u => exact O.mo a u z
    | none =>
      obtain ⟨h1, h2, h3, _⟩ := fresh (po.mnew a o e z)
      exact ⟨h1, h2, h3⟩
  have mnone : ∀ {a : Addr} {o : HO}, H a = some o → M a = none → M' a = none := fun {a o} h1 h2 => by
    cases z : M' a with
    | none => rfl
    | some u => have := po.mnew a u z h2; rw [h1] at this; cases this
  obtain ⟨fs, hi, hob⟩ := O.ob
  have hil := (List.getElem?_eq_some_iff.mp hi).1
  have f0 : ∀ {a : Addr}, uni M en.F0 a = none → en.F0 a = none ∧ M a = none := fun {a} h => by
    unfold uni at h
    split at h
    · cases h
    · rename_i z; exact ⟨h, z⟩
  have nu : ∀ {a : Addr}, en.F0 a = none → M' a = none → uni M' en.F0 a = none := fun {a} h1 h2 => by
    unfold uni; rw [h2]; exact h1
  have fsub : Sub en.F0 (uni M' en.F0) := fun a o e => by
    unfold uni
    cases z : M' a with
    | none => exact e
    | some u => rw [(mo' a u z).1] at e; cases e
  have get : ∀ (j : Nat) sl, (δ.set i (.bw (.obj c fs')))[j]? = some sl → (j = i ∧ sl = .bw (.obj c fs')) ∨ (j ≠ i ∧ δ[j]? = some sl) := fun j sl h => by
    by_cases hj : j = i
    · subst hj
      rw [List.getElem?_set_self hil] at h
      exact .inl ⟨rfl, (Option.some.inj h).symm⟩
    · rw [List.getElem?_set_ne (Ne.symm hj)] at h
      exact .inr ⟨hj, h⟩
  have own : ∀ {j : Nat} {a : Addr}, Own (δ.set i (.bw (.obj c fs'))) σ j a → Own δ σ j a := fun {j a} ⟨sl, e1, e2, e3⟩ => by
    rcases get j sl e1 with ⟨_, z⟩ | ⟨_, z⟩
    · subst z; cases e2
    · exact ⟨sl, z, e2, e3⟩
  have gnone' : ∀ {a : Addr} {o : HO}, H a = some o → G a = none → M a = none → G' a = none := fun {a o} h1 h2 h3 => by
    cases z : G' a with
    | none => rfl
    | some u =>
      rcases po.new a u z with q | q | q
      · rw [h2] at q; cases q
      · rw [h1] at q; cases q
      · exact (q h3).elim
  have ownM : ∀ {j : Nat} {a : Addr}, Own δ σ j a → M a = none := fun {j a} ow => by
    cases z : M a with
    | none => rfl
    | some o => exact (O.nown z ow).elim
  have Wn : Wd K (en.ext M') (δ.set i (.bw (.obj c fs'))) σ G' H' := {
    len := by rw [List.length_set]; exact O.wd.len
    sub := po.gh
    ext := O.wd.ext.trans po.g
    new := fun a o e => by
      have nm : M' a = none := by
        cases z : M' a with
        | none => rfl
        | some u => have := po.apart a u z; rw [this] at e; cases e
      rcases po.new a o e with q | q | q
      · rcases O.wd.new a o q with q | ⟨q1, q2⟩
        · exact .inl q
        · exact .inr ⟨nu (f0 q1).1 nm, q2⟩
      · obtain ⟨h1, h2, h3, _⟩ := fresh q
        exact .inr ⟨nu h1 nm, h3⟩
      · cases z : M a with
        | none => exact (q z).elim
        | some u => exact .inr ⟨nu (O.mo a u z).1 nm, (O.mo a u z).2.2⟩
    frm := fun a o e => by
      have e : uni M' en.F0 a = some o := e
      unfold uni at e
      cases z : M' a with
      | some u => rw [z] at e; cases e; exact po.mh a _ z
      | none =>
        rw [z] at e
        refine po.frm a o (O.wd.frm a o (O.fsub a o e)) ?_
        cases zm : M a with
        | none => rfl
        | some u => have e : en.F0 a = some o := e; rw [(O.mo a u zm).1] at e; cases e
    stay := fun a h => by
      have h1 := O.wd.stay a h
      cases z : H a with
      | none => exact (h1 z).elim
      | some o =>
        rw [po.frm a o z (by
          cases zm : M a with
          | none => rfl
          | some u => exact ((O.mo a u zm).2.2 h).elim)]
        simp
    nd := O.wd.nd
    slot := fun j sl o h1 h2 => by
      rcases get j sl h1 with ⟨z, e⟩ | ⟨hj, h3⟩
      · subst z e
        rw [O.at_] at h2
        cases h2
        exact ⟨_, rfl, BRep.mk (VRep.ob ob uni_l) fun z => by cases z⟩
      · have q := O.wd.slot j sl o h3 h2
        cases sl with
        | un => trivial
        | fr d => obtain ⟨v, e, r⟩ := q; exact ⟨v, e, Rep.sub po.g _ _ r⟩
        | mu d =>
          obtain ⟨a, e, n1, n2, n3, r⟩ := q
          subst e
          have zm := ownM ⟨_, h3, rfl, h2⟩
          obtain ⟨u, eu⟩ := r.ex
          exact ⟨a, rfl, gnone' eu n1 zm, nu (f0 n2).1 (mnone eu zm), n3, r.keep po.g fun o e => po.frm a o e zm⟩
        | mp l d =>
          obtain ⟨a, e, n0, n1, n2, r⟩ := q
          subst e
          have zm := ownM ⟨_, h3, rfl, h2⟩
          obtain ⟨u, eu⟩ := r.ex
          exact ⟨a, rfl, n0, gnone' eu n1 zm, nu (f0 n2).1 (mnone eu zm), r.keep po.g fun o e => po.frm a o e zm⟩
        | bw d =>
          obtain ⟨v, e, _⟩ := q
          subst e
          exact ⟨v, rfl, BRep.sub po.g fsub (O.bw j d v hj h3 h2)⟩
        | bo l => exact (noBo_get hnb h3).elim
    apart := fun j l a h1 h2 => O.wd.apart j l a (own h1) (own h2) }
  refine ⟨Wn, mo', O.at_, ⟨fs', by rw [List.getElem?_set_self hil], ob⟩, fun j d v hj h1 h2 => ?_⟩
  rcases get j _ h1 with ⟨z, _⟩ | ⟨_, h3⟩
  · exact (hj z).elim
  · exact BRep.sub po.g (Sub.refl _) (O.bw j d v hj h3 h2)
end
/-- an instance that has no field of a method's name -/
def objD (c m : Str) : D → Option Unit
  | .obj c' fs => if c' = c ∧ fs.lookup m = none then some () else none
  | _ => none
section
variable {X : Cx} {en : Kn} {δ τ : List Slot} {R : Type} {C : Slot → List Slot → Res R → Prop} {m : Res R} {K : PySem.W.Frag}
end
end BR

/-! K53: comprehensions of two clauses without tests, nothing changed within -/
namespace BR
open PySem PySem.Spec PyProof.Rows L2

def lcI : List D → List D → (D → Res D) → Res (List D)
  | [], acc, _ => .ok acc
  | e :: es, acc, f => match f e with
    | .ok y => if acc.length < sizeLine then lcI es (acc ++ [y]) f else .bad
    | _ => .bad
def lc2F : List D → List D → (D → Res (List D)) → (D → D → Res D) → Res (List D)
  | [], acc, _, _ => .ok acc
  | d :: ds, acc, g, f => match g d with
    | .ok es => (match lcI es acc (f d) with
      | .ok acc' => lc2F ds acc' g f
      | _ => .bad)
    | _ => .bad
section
variable {X : Cx} {en : Kn} {δ τ : List Slot} {R : Type} {C : Slot → List Slot → Res R → Prop} {m : Res R} {K : PySem.W.Frag}
end
end BR

/-! K54: an own list grows in place: x += list -/
namespace BR
open PySem PySem.Spec PyProof.Rows L2
section
variable {X : Cx} {en : Kn} {δ : List Slot} {R : Type} {N RT BK CT : List Slot → Res R → Prop} {m : Res R}
variable {RT' : Slot → List Slot → Res R → Prop}
theorem js_augL {x : Str} {p pos : Pos} {e : Expr} {N : List Slot → Res R → Prop} {RT : Slot → List Slot → Res R → Prop} {BK CT : List Slot → Res R → Prop} {ds0 : List D} (i : Nat) (hNd : X.N.Nodup) (hs : δ[i]? = some (.mu (.lst ds0)))
    (h : JE X en δ [] e (fun s2 δ2 m2 => ∃ d2 dl k, ∃ pe : List D → List Slot, frs [s2] = some [d2] ∧ δ2[i]? = some (.mu (.lst dl)) ∧ m2 = op (extL dl [d2]) k ∧ (∀ r, δ2.set i (.mu (.lst r)) = pe r) ∧ ∀ r, N (pe r.2) (k r)) m)
    (hi : X.N[i]? = some x := by rfl) (hx : Loc X.env.scope x := by first | exact Or.inl rfl | exact Or.inr rfl) (hf : X.fn x = true ∨ X.env.scope.names.lookup x = some .local := by first | exact .inl rfl | exact .inr rfl) :
    JS X en δ (.AugAssign (.Name x p) .Add e pos) N RT BK CT m := .mk fun hb hx' σ G H E hl W k1 k2 k3 k4 => by
  refine ws_of (ps_aug hNd hi hx pe_we (ti := fun x y H Q => ∀ (pins : List (Addr × Obj)) (s : Shared) (σ : L2.St) (u1 u2 : Value), Inv X pins σ H s → RelV x u1 → RelV y u2 → wpAny (model X.prog X.w) X.A (inplaceOp .Add u1 u2) (EP X pins σ Q) X.xe s)
    (fun pins s σ H x y v u Q I r1 r2 h => h pins s σ v u I r1 r2) hf) ?_
  have hσ := W.sl hl
  have Wt : Wd X.K en (δ ++ []) (σ ++ []) G H := by rw [List.append_nil, List.append_nil]; exact W
  obtain ⟨p0, h1, _, _, _⟩ := own_of Wt hl hσ hs rfl rfl
  refine ⟨.ref p0, h1, ?_⟩
  refine h.run hb hx' σ [] G H _ hl hσ Wt fun s2 δ2 v2 G2 H2 c2 hl2 W2 => ?_
  obtain ⟨d2, dl, k', pe, e2, e3, em, hpe, hk⟩ := c2
  have hb' := hb
  rw [em] at hb'
  obtain ⟨r, er⟩ := op_some hb'
  have em' : m = k' r := by rw [em, er]; rfl
  have hk2 := hk r
  rw [← em'] at hk2
  have W2' : Wd X.K en (δ2 ++ [] ++ [s2]) (σ ++ [] ++ [v2].map some) G2 H2 := W2
  obtain ⟨hn, hq⟩ := W2'.endSlots (hl2.trans hσ.symm) rfl
  have hr : Reps X.K G2 [d2] [v2] := Wd.frs (Δ := δ) (H := H2) hq hn e2
  have W3 := W2'.cut (Δ := δ2 ++ []) (S := σ ++ []) (by rw [List.length_append, List.length_append]; omega) (by rw [List.length_append]; omega)
  obtain ⟨p1, h5, ow, n1, us, r1, r2⟩ := own_of W3 hl2 hσ e3 rfl rfl
  rw [h1] at h5
  cases h5
  have hi2 := (List.getElem?_eq_some_iff.mp e3).1
  intro pins s σ' u1 u2 I q1 q2
  match d2, er, hr with
  | .lst es, er, hr =>
    have er : (if dl.length + es.length ≤ sizeLine then some ((D.non, dl ++ es) : D × List D) else none) = some r := er
    by_cases hz : dl.length + es.length ≤ sizeLine
    · rw [if_pos hz] at er
      cases er
      obtain ⟨v, z, ev, ⟨b, zs, e4, q, r3⟩, e5⟩ := hr
      have e5 : z = [] := e5
      subst e5
      cases ev
      subst e4
      refine iop_ext pins s σ' H2 (.ref p0) (.ref b) u1 u2 _ I q1 q2 ⟨p0, b, us, zs, rfl, rfl, r1, W3.sub _ _ q, by rw [← r2.length, ← r3.length]; exact hz, ?_⟩
      have W4 := W3.mut (o' := .lst (us ++ zs)) (d' := .lst (dl ++ es)) ow ⟨_, upd_same, r2.append r3⟩
      rw [List.getD_eq_getElem?_getD, List.getElem?_append_left hi2, e3, List.set_append_left _ _ hi2] at W4
      have W5 : Wd X.K en (pe (dl ++ es) ++ []) (σ ++ []) G2 (upd H2 p0 (.lst (us ++ zs))) := by rw [← hpe]; exact W4
      rw [List.append_nil, List.append_nil] at W5
      have es0 : σ.set i (some (.ref p0)) = σ := by
        obtain ⟨hl0, eg⟩ := List.getElem?_eq_some_iff.mp h1
        rw [← eg, List.set_getElem_self]
      exact k1 _ _ G2 _ hk2 (by rw [← hpe, List.length_set]; exact hl2) (by rw [es0]; exact W5)
    · rw [if_neg hz] at er; cases er
end
end BR

/-! K55: a op b op c as a value; str of a number -/
namespace BR
open PySem PySem.Spec PyProof.Rows L2
section
variable {X : Cx} {en : Kn} {R : Type} {δ τ : List Slot} {m : Res R} {pos : Pos}
end
/-- str(n) -/
def strI : List D → Option D
  | [.int i] => if i.natAbs.log2 < 1920 then some (.str (toString i)) else none
  | _ => none
section
variable {X : Cx}
end
end BR

/-! K56: statements of any kind between what was told and its change -/
namespace BR
open PySem PySem.Spec PyProof.Rows L2
/-- lists and dicts alone -/
def ldO (G : Hp) : Hp := fun a => match G a with
  | some (.lst xs) => some (.lst xs)
  | some (.dK kv) => some (.dK kv)
  | _ => none
theorem ld_at {G : Hp} {a : Addr} {o : HO} (h : ldO G a = some o) : G a = some o ∧ noL G a = none := by
  unfold ldO at h
  split at h
  · rename_i xs e
    cases h
    exact ⟨e, by unfold noL; rw [e]⟩
  · rename_i kv e
    cases h
    exact ⟨e, by unfold noL; rw [e]⟩
  · cases h
theorem ld_or {G : Hp} {a : Addr} {o : HO} (h : G a = some o) : noL G a = some o ∨ ldO G a = some o := by
  unfold noL ldO
  rw [h]
  cases o <;> first | exact .inl rfl | exact .inr rfl
theorem uni_no {A B : Hp} {a : Addr} (h : uni A B a = none) : A a = none ∧ B a = none := by
  unfold uni at h
  cases e : A a with
  | none => rw [e] at h; exact ⟨rfl, h⟩
  | some u => rw [e] at h; cases h
/-- H without the lists and dicts of G -/
def wo (H G : Hp) : Hp := fun a => match ldO G a with
  | some _ => none
  | none => H a
abbrev Kn.wide (en : Kn) (G : Hp) : Kn := { n := en.n, G0 := noL G, F0 := uni en.F0 (ldO G), ps := en.ps, HX := en.HX, h0 := en.h0 }
/-- what is known of what stood fast before it was told -/
structure Pre (en : Kn) (G : Hp) : Prop where
  ext : Sub en.G0 G
  new : ∀ a o, G a = some o → en.G0 a = some o ∨ (en.F0 a = none ∧ a ∉ en.ps)
  fit : ∀ a o u, en.F0 a = some u → G a = some o → u = o
section
variable {K : PySem.W.Frag} {en : Kn} {Δ : List Slot} {S : L2.St} {G G' H : Hp}
theorem Pre.F (P : Pre en G) : Sub (ldO G) (en.wide G).F0 := fun a o h => by
  show uni en.F0 (ldO G) a = some o
  unfold uni
  cases e : en.F0 a with
  | none => exact h
  | some u => rw [P.fit a o u e (ld_at h).1]
theorem Wd.gone (W : Wd K (en.wide G) Δ S G' H) {p : Addr} (n : G' p = none) (f : (en.wide G).F0 p = none) : G p = none := by
  cases e : G p with
  | none => rfl
  | some o =>
    rcases ld_or e with q | q
    · rw [W.ext p o q] at n; cases n
    · have f2 := (uni_no (A := en.F0) (B := ldO G) f).2
      rw [q] at f2; cases f2
end
/-- the names as they are taken along: ds what is looked at (true: it stands fast) -/
inductive BV : List Slot → List Slot → List (Bool × D) → Prop where
  | n : BV [] [] []
  | u {s : Slot} {δ δ' : List Slot} {ds : List (Bool × D)} : BV δ δ' ds → BV (s :: δ) (.un :: δ') ds
  | f {d : D} {δ δ' : List Slot} {ds : List (Bool × D)} : BV δ δ' ds → BV (.fr d :: δ) (.fr d :: δ') ((true, d) :: ds)
  | c {d : D} {δ δ' : List Slot} {ds : List (Bool × D)} : BV δ δ' ds → BV (.fr d :: δ) (.bw d :: δ') ((false, d) :: ds)
  | m {d : D} {δ δ' : List Slot} {ds : List (Bool × D)} : BV δ δ' ds → BV (.mu d :: δ) (.mu d :: δ') ((false, d) :: ds)
  | p {j : Nat} {d : D} {δ δ' : List Slot} {ds : List (Bool × D)} : BV δ δ' ds → BV (.mp j d :: δ) (.mp j d :: δ') ((false, d) :: ds)
/-- .. and left -/
inductive EV : List Slot → List Slot → List (Bool × D) → Prop where
  | n : EV [] [] []
  | u {s : Slot} {δ δ' : List Slot} {ds : List (Bool × D)} : EV δ δ' ds → EV (s :: δ) (.un :: δ') ds
  | f {d : D} {δ δ' : List Slot} {ds : List (Bool × D)} : EV δ δ' ds → EV (.fr d :: δ) (.fr d :: δ') ((true, d) :: ds)
  | m {d : D} {δ δ' : List Slot} {ds : List (Bool × D)} : EV δ δ' ds → EV (.mu d :: δ) (.mu d :: δ') ((false, d) :: ds)
  | p {j : Nat} {d : D} {δ δ' : List Slot} {ds : List (Bool × D)} : EV δ δ' ds → EV (.mp j d :: δ) (.mp j d :: δ') ((false, d) :: ds)
theorem BV.len {δ δ' : List Slot} {ds : List (Bool × D)} (h : BV δ δ' ds) : δ'.length = δ.length := by
  induction h with
  | n => rfl
  | u _ ih => rw [List.length_cons, List.length_cons, ih]
  | f _ ih => rw [List.length_cons, List.length_cons, ih]
  | c _ ih => rw [List.length_cons, List.length_cons, ih]
  | m _ ih => rw [List.length_cons, List.length_cons, ih]
  | p _ ih => rw [List.length_cons, List.length_cons, ih]
theorem BV.get {δ δ' : List Slot} {ds : List (Bool × D)} (h : BV δ δ' ds) : ∀ {i : Nat} {sl : Slot}, δ'[i]? = some sl → sl = .un ∨ (∃ d, sl = .fr d ∧ δ[i]? = some (.fr d) ∧ (true, d) ∈ ds) ∨ (∃ d, sl = .bw d ∧ δ[i]? = some (.fr d) ∧ (false, d) ∈ ds) ∨ (∃ d, sl = .mu d ∧ δ[i]? = some (.mu d) ∧ (false, d) ∈ ds) ∨ ∃ j d, sl = .mp j d ∧ δ[i]? = some (.mp j d) ∧ (false, d) ∈ ds := by
  induction h with
  | n => intro i sl e; simp at e
  | @u s δ δ' ds _ ih =>
    intro i sl e
    cases i with
    | zero => exact .inl (by simpa using e.symm)
    | succ i =>
      rcases ih (i := i) (by simpa using e) with z | ⟨d, a, b, c⟩ | ⟨d, a, b, c⟩ | ⟨d, a, b, c⟩ | ⟨j, d, a, b, c⟩
      · exact .inl z
      · exact .inr (.inl ⟨d, a, by simpa using b, c⟩)
      · exact .inr (.inr (.inl ⟨d, a, by simpa using b, c⟩))
      · exact .inr (.inr (.inr (.inl ⟨d, a, by simpa using b, c⟩)))
      · exact .inr (.inr (.inr (.inr ⟨j, d, a, by simpa using b, c⟩)))
  | @f d0 δ δ' ds _ ih =>
    intro i sl e
    cases i with
    | zero => exact .inr (.inl ⟨d0, by simpa using e.symm, rfl, List.mem_cons_self⟩)
    | succ i =>
      rcases ih (i := i) (by simpa using e) with z | ⟨d, a, b, c⟩ | ⟨d, a, b, c⟩ | ⟨d, a, b, c⟩ | ⟨j, d, a, b, c⟩
      · exact .inl z
      · exact .inr (.inl ⟨d, a, by simpa using b, List.mem_cons_of_mem _ c⟩)
      · exact .inr (.inr (.inl ⟨d, a, by simpa using b, List.mem_cons_of_mem _ c⟩))
      · exact .inr (.inr (.inr (.inl ⟨d, a, by simpa using b, List.mem_cons_of_mem _ c⟩)))
      · exact .inr (.inr (.inr (.inr ⟨j, d, a, by simpa using b, List.mem_cons_of_mem _ c⟩)))
  | @c d0 δ δ' ds _ ih =>
    intro i sl e
    cases i with
    | zero => exact .inr (.inr (.inl ⟨d0, by simpa using e.symm, rfl, List.mem_cons_self⟩))
    | succ i =>
      rcases ih (i := i) (by simpa using e) with z | ⟨d, a, b, c⟩ | ⟨d, a, b, c⟩ | ⟨d, a, b, c⟩ | ⟨j, d, a, b, c⟩
      · exact .inl z
      · exact .inr (.inl ⟨d, a, by simpa using b, List.mem_cons_of_mem _ c⟩)
      · exact .inr (.inr (.inl ⟨d, a, by simpa using b, List.mem_cons_of_mem _ c⟩))
      · exact .inr (.inr (.inr (.inl ⟨d, a, by simpa using b, List.mem_cons_of_mem _ c⟩)))
      · exact .inr (.inr (.inr (.inr ⟨j, d, a, by simpa using b, List.mem_cons_of_mem _ c⟩)))
  | @m d0 δ δ' ds _ ih =>
    intro i sl e
    cases i with
    | zero => exact .inr (.inr (.inr (.inl ⟨d0, by simpa using e.symm, rfl, List.mem_cons_self⟩)))
    | succ i =>
      rcases ih (i := i) (by simpa using e) with z | ⟨d, a, b, c⟩ | ⟨d, a, b, c⟩ | ⟨d, a, b, c⟩ | ⟨j, d, a, b, c⟩
      · exact .inl z
      · exact .inr (.inl ⟨d, a, by simpa using b, List.mem_cons_of_mem _ c⟩)
      · exact .inr (.inr (.inl ⟨d, a, by simpa using b, List.mem_cons_of_mem _ c⟩))
      · exact .inr (.inr (.inr (.inl ⟨d, a, by simpa using b, List.mem_cons_of_mem _ c⟩)))
      · exact .inr (.inr (.inr (.inr ⟨j, d, a, by simpa using b, List.mem_cons_of_mem _ c⟩)))
  | @p j0 d0 δ δ' ds _ ih =>
    intro i sl e
    cases i with
    | zero => exact .inr (.inr (.inr (.inr ⟨j0, d0, by simpa using e.symm, rfl, List.mem_cons_self⟩)))
    | succ i =>
      rcases ih (i := i) (by simpa using e) with z | ⟨d, a, b, c⟩ | ⟨d, a, b, c⟩ | ⟨d, a, b, c⟩ | ⟨j, d, a, b, c⟩
      · exact .inl z
      · exact .inr (.inl ⟨d, a, by simpa using b, List.mem_cons_of_mem _ c⟩)
      · exact .inr (.inr (.inl ⟨d, a, by simpa using b, List.mem_cons_of_mem _ c⟩))
      · exact .inr (.inr (.inr (.inl ⟨d, a, by simpa using b, List.mem_cons_of_mem _ c⟩)))
      · exact .inr (.inr (.inr (.inr ⟨j, d, a, by simpa using b, List.mem_cons_of_mem _ c⟩)))
section
variable {K : PySem.W.Frag} {en : Kn} {δ δ' : List Slot} {σ : L2.St} {G G' G1 H0 H : Hp} {ds : List (Bool × D)}
theorem MRep.same {d : D} {p : Addr} {A A' B : Hp} (s : Sub A A') (h : MRep K A B d p) : MRep K A' B d p := h.keep s fun o e => e
theorem Wd.pre (W : Wd K en δ σ G H0) : Pre en G where
  ext := W.ext
  new := W.new
  fit := fun a o u h1 h2 => by
    have e1 := W.frm a u h1
    have e2 := W.sub a o h2
    rw [e1] at e2
    exact Option.some.inj e2
end
section
variable {X : Cx} {en : Kn} {R : Type} {δ : List Slot} {N : List Slot → Res R → Prop} {RT : Slot → List Slot → Res R → Prop} {BK CT : List Slot → Res R → Prop} {m : Res R} {pos : Pos}
/-- the name i has what was told (d), which is let stand for a while: any statement may be run -/
structure JV (X : Cx) (en : Kn) (δ : List Slot) (i : Nat) (d : D) (sts : List Stmt) {R : Type} (N : List Slot → Res R → Prop) (RT : Slot → List Slot → Res R → Prop) (BK CT : List Slot → Res R → Prop) (m : Res R) : Prop where
  run : m ≠ .bad → en.HX m.exc → ∀ (σ : L2.St) (G G' H : Hp) (E : Ends), δ.length = en.n → Pre en G → δ[i]? = some (.fr d) → Wd X.K (en.wide G) δ σ G' H →
    (∀ δ' σ' G' H', N δ' m → δ'.length = en.n → Wd X.K en δ' σ' G' H' → E.nx σ' H') →
    (∀ sl δ' v σ' G' H', RT sl δ' m → δ'.length = en.n → Wd X.K en (δ' ++ [sl]) (σ' ++ [some v]) G' H' → E.rt v H') →
    (∀ δ' σ' G' H', BK δ' m → δ'.length = en.n → Wd X.K en δ' σ' G' H' → E.bk σ' H') →
    (∀ δ' σ' G' H', CT δ' m → δ'.length = en.n → Wd X.K en δ' σ' G' H' → E.ct σ' H') → WSs X sts E σ H
end
end BR

/-! K57: errors of own classes with an own begin: made, raised, their fields read -/
namespace BR
open PySem PySem.Spec PyProof.Rows L2
section
variable {X : Cx} {e : Expr} {es : List Expr} {ta te : TA} {p pos : Pos}
end
/-- a caught error's field -/
def xfD (cs : List Str) (n : Str) : D → Option D
  | .exc c xf => if c ∈ cs then (xf.lookup n).map fun o => match o with | none => .non | some i => .int i else none
  | _ => none
def XfF (K : PySem.W.Frag) (cs : List Str) (n : Str) : Prop := ∀ c, c ∈ cs → ∀ C, PySem.W.nsIn K mainGlobals c = some (some (.ref C)) → XfC K C ∧ PySem.W.findIn K (.ref C) n = some none
/-- what is known of an error class with an own begin of one field -/
structure MkE (P : Program) (w : World) (K : PySem.W.Frag) (mg : Str → Option Value) (base : Heap) (k : Nat) (c n : Str) : Prop where
  ex : ∃ C fI fd ps, mg c = some (.ref C) ∧ OexC K C ∧ PySem.W.findIn K (.ref C) n = some none ∧ PySem.W.findIn K (.ref C) "__init__" = some (some (.ref fI)) ∧ PySem.W.typeIn K (.ref fI) = some (.type "function") ∧ L2.Binds K fd ps [] ∧
    FnG P w K mg base k fI fd ps (fun vs H Q E => ∃ (a C : Addr) (v : V), vs = [.ref a, v] ∧ OexC K C ∧ PySem.W.findIn K (.ref C) n = some none ∧ H a = some (exo a C none) ∧ ∀ dx, H dx = none → dx ≠ a → Q .non (upd (upd H dx (exd dx [(n, v)])) a (exo a C (some dx))))
section
variable {X : Cx} {en : Kn} {δ τ : List Slot} {R : Type} {C : Slot → List Slot → Res R → Prop} {m : Res R} {N : List Slot → Res R → Prop} {RT : Slot → List Slot → Res R → Prop} {BK CT : List Slot → Res R → Prop}
end
end BR

/-! K58: several clauses of one name -/
namespace BR
open PySem PySem.Spec PyProof.Rows L2
/-- what one clause wishes, the suite with the error tracked -/
def wSuite (i : Nat) (ts : Addr → TS) (D : Ends) : WX := fun cls d σ H => ∀ a oe vs, H a = none → L2N.Zn cls d oe → oe.data = .fields vs → ts a { nx := fun σ' H' => D.nx (σ'.set i none) H', rt := D.rt, bk := fun σ' H' => D.bk (σ'.set i none) H', ct := fun σ' H' => D.ct (σ'.set i none) H' } (σ.set i (some (.ref a))) (upd H a (ExO1 oe))
/-- the clauses one behind the other -/
def wKeptL (K : PySem.W.Frag) (i : Nat) (D : Ends) : List (Value × (Addr → TS)) → WX
  | [] => fun _ _ _ _ => False
  | (c, ts) :: r => fun cls d σ H => ∃ b, PySem.W.exmOne K cls c = some b ∧ (b = true → wSuite i ts D cls d σ H) ∧ (b = false → wKeptL K i D r cls d σ H)
inductive HdsK (X : Cx) (n : Str) : List ExceptHandler → List (Value × (Addr → TS)) → Prop
  | nil : HdsK X n [] []
  | cons {x : Str} {c : Value} {ts : Addr → TS} {b₀ : Stmt} {suite : List Stmt} {np pos' : Pos} {hds : List ExceptHandler} {l : List (Value × (Addr → TS))} (hc : Names X x c)
      (hsu : ∀ (a : Addr) (pn : List (Addr × Obj)), PSs (X.suite a pn) (b₀ :: suite) (ts a)) (r : HdsK X n hds l) : HdsK X n (.ExceptHandler (some (.Name x np)) (some n) (b₀ :: suite) pos' :: hds) ((c, ts) :: l)
section
variable {X : Cx} {n : Str} {i : Nat} {body : List Stmt} {h₀ : ExceptHandler} {hds : List ExceptHandler} {l : List (Value × (Addr → TS))} {pos : Pos} {tb : WX → TS}
end

/-- two clauses -/
def tryR2 {S : Type} (cs1 cs2 : List Str) (m : Res S) (h1 h2 : Str → List (Str × Option Int) → Res S) : Res S := match m with
  | .ok a => .ok a
  | .raise x => if x.cls ∈ cs1 then h1 x.cls x.fs else if x.cls ∈ cs2 then h2 x.cls x.fs else .bad
  | .bad => .bad
/-- errors that a clause lets by -/
def CatchN (K : PySem.W.Frag) (mg : Str → Option Value) (cv : Value) (cs : List Str) : Prop := ∀ c, c ∈ cs → ∃ C, mg c = some (.ref C) ∧ PySem.W.exmOne K (.ref C) cv = some false
section
variable {X : Cx} {en : Kn} {δ : List Slot} {R : Type} {m : Res R} {N : List Slot → Res R → Prop} {RT : Slot → List Slot → Res R → Prop} {BK CT : List Slot → Res R → Prop} {rest : List Stmt}
/-- how a suite is judged, the error in slot i -/
def SuiteOk (X : Cx) (en : Kn) (δ : List Slot) (i : Nat) (sts : List Stmt) {S : Type} (pJ : S → List Slot) (cs : List Str) (h : Str → List (Str × Option Int) → Res S) : Prop :=
  ∀ c, c ∈ cs → ∀ (xf : List (Str × Option Int)) (a : Addr) (pn : List (Addr × Obj)) (en' : Kn), KnLe en en' → HotV (X.suite a pn).A.handled en'.G0 → JSs (X.suite a pn) en' (δ.set i (.fr (.exc c xf))) sts (fun δ' m' => ∃ s, m' = .ok s ∧ Le (δ'.set i .un) (pJ s) ∧ noBo δ' = true) (fun _ _ _ => False) (fun _ _ => False) (fun _ _ => False) (h c xf)
end
end BR

/-! K59: a tried call with None among its arguments -/
namespace BR
open PySem PySem.Spec PyProof.Rows L2
/-- names, or None -/
def tAs : List (Option Nat) → TA
  | [] => tNil
  | some i :: is => tCons (tVar i) (tAs is)
  | none :: is => tCons (tC .non) (tAs is)
def AO (δ : List Slot) : List Kd → List (Option Nat) → List D → Prop
  | [], [], [] => True
  | .b :: ks, some i :: is, d :: ds => (∃ s, δ[i]? = some s ∧ s.rdp = some d) ∧ AO δ ks is ds
  | .f :: ks, some i :: is, d :: ds => δ[i]? = some (.fr d) ∧ AO δ ks is ds
  | .b :: ks, none :: is, d :: ds => d = .non ∧ AO δ ks is ds
  | .f :: ks, none :: is, d :: ds => d = .non ∧ AO δ ks is ds
  | _, _, _ => False
section
variable {X : Cx} {en : Kn} {δ : List Slot} {R : Type} {m : Res R} {N : List Slot → Res R → Prop} {RT : Slot → List Slot → Res R → Prop} {BK CT : List Slot → Res R → Prop} {rest : List Stmt}
end
end BR

/-! K60: a, b, c = a list of three -/
namespace BR
open PySem PySem.Spec PyProof.Rows L2
section
variable {X : Cx} {en : Kn} {δ τ : List Slot} {R : Type} {C : Slot → List Slot → Res R → Prop} {m : Res R}
def uL3 : D → Option (D × D × D)
  | .lst [a, b, c] => some (a, b, c)
  | _ => none
end
end BR

/-! K61: a call of a def out of a written list of defs -/
namespace BR
open PySem PySem.Spec PyProof.Rows L2
/-- defs by name, kinds, what they give -/
abbrev Alt := Str × List Kd × (List D → Res D)
def pickF : List Alt → Int → List D → Res D
  | [], _, _ => .bad
  | a :: r, i, ds => if i = 0 then a.2.2 ds else pickF r (i - 1) ds
/-- the list's names are these defs -/
def NmA (X : Cx) : List Alt → List Expr → Prop
  | [], [] => True
  | (x, ks, g) :: as, .Name y _ :: es => x = y ∧ Gl X x ∧ (x == ("__debug__" : Str)) = false ∧ (∃ k, Df X.prog X.w X.K X.mg X.base k x ks g (fun a => a) (fun _ => []) false ∧ RoomG k X.A) ∧ NmA X as es
  | _, _ => False
section
variable {X : Cx}
end
section
variable {X : Cx} {en : Kn} {δ τ : List Slot} {R : Type} {C : Slot → List Slot → Res R → Prop} {m : Res R}
end
end BR

/-! K62: a tried call with built arguments -/
namespace BR
open PySem PySem.Spec PyProof.Rows L2
/-- whatever may be raised -/
def Kn.any (en : Kn) : Kn := { n := en.n, G0 := en.G0, F0 := en.F0, ps := en.ps, HX := fun _ => True, h0 := trivial }
theorem Wd.any {K : PySem.W.Frag} {en : Kn} {δ : List Slot} {σ : L2.St} {G H : Hp} (W : Wd K en δ σ G H) : Wd K en.any δ σ G H := ⟨W.len, W.sub, W.ext, W.new, W.frm, W.stay, W.nd, fun i sl o h1 h2 => by
  have q := W.slot i sl o h1 h2
  cases sl <;> exact q, W.apart⟩
section
variable {X : Cx} {en : Kn} {δ : List Slot} {m : Res Unit}
end
end BR

/-! K63: errors made and kept as values; a tried call whose last parameter is left out -/
namespace BR
open PySem PySem.Spec PyProof.Rows L2
section
variable {X : Cx}
end
/-- an error class without an own begin -/
def Mk0 (K : PySem.W.Frag) (mg : Str → Option Value) (c : Str) : Prop := Raise K mg c ∧ ∃ C, mg c = some (.ref C) ∧ ExcF K c C
def MkF (K : PySem.W.Frag) (mg : Str → Option Value) (c : Str) : Prop := ∃ C, mg c = some (.ref C) ∧ ExcF K c C
/-- an error of one field -/
def mkX (c n : Str) : D → Option D
  | .int i => some (.exc c [(n, some i)])
  | .non => some (.exc c [(n, none)])
  | _ => none
section
variable {X : Cx} {en : Kn} {δ τ : List Slot} {R : Type} {C : Slot → List Slot → Res R → Prop} {m : Res R}
end
/-! ### a tried call, the last parameter left out -/
section
variable {X : Cx} {k : Nat} {f : Addr} {fd : FuncData} {ps : List Str} {sp : Sp} {x : Str} {p pos : Pos} {e : Expr} {es : List Expr} {t : TA} {E : L2.St → XK}
def tNonE (t : TA) : TA := fun σ H Q => t σ H fun vs H1 => Q (vs ++ [V.non]) H1
end
section
variable {X : Cx} {en : Kn} {δ : List Slot} {R : Type} {m : Res R} {N : List Slot → Res R → Prop} {RT : Slot → List Slot → Res R → Prop} {BK CT : List Slot → Res R → Prop} {rest : List Stmt}
end
end BR

/-! K64: a dict comprehension of two clauses without tests -/
namespace BR
open PySem PySem.Spec PyProof.Rows L2
section
variable {P : Program} {w : World} {A : Around} {R : Result → Shared → Prop} {s : Shared} {kx vx tg iter tg1 iter1 : Expr} {sc : Scope} {ps : Pos} {it ac : Value} {D : Addr} {en : Env}
abbrev NB (P : Program) (w : World) (A : Around) (R : Result → Shared → Prop) (en : Env) : Value → Shared → Prop := notedBy (model P w) A en fun e s' => R (.error e) s'
end
def tDc2 (wi : TI) (g : TG) (wi1 : TI) (g1 : TG) (tk tv : TE) (vs vs1 : List Nat) : TE := fun σ H Q => wi σ H fun J H1 => ∀ D, H1 D = none → ∃ W : Nat → Nat → Hp → Prop, (∃ m, W 0 m (upd H1 D (.dK []))) ∧ ∀ i m H, W i m H →
  (J.stop i H ∧ Q (.ref D) H) ∨ (J.go i H ∧ ∃ Nz : Hp → Prop, (∀ H', Nz H' → ∃ m', m' < m ∧ W (i + 1) m' H') ∧ ∀ x H', J.yld i H x H' → g x (L2.wipe σ vs) H' fun σ2 H2 => L2.wipe σ2 vs = L2.wipe σ vs ∧ wi1 σ2 H2 fun J1 H4 => ∃ W1 : Nat → Nat → Hp → Prop, (∃ m, W1 0 m H4) ∧ ∀ j k H, W1 j k H →
    (J1.stop j H ∧ Nz H) ∨ (J1.go j H ∧ ∃ Ny : Hp → Prop, (∀ H', Ny H' → ∃ k', k' < k ∧ W1 (j + 1) k' H') ∧ ∀ x H', J1.yld j H x H' → g1 x (L2.wipe σ2 vs1) H' fun σ3 H5 => L2.wipe σ3 vs1 = L2.wipe σ2 vs1 ∧ tk σ3 H5 fun y H6 => tv σ3 H6 fun z H7 =>
      ∃ kvs k, y = kV k ∧ H7 D = some (.dK kvs) ∧ kvs.length < sizeLine ∧ Ny (upd H7 D (.dK (putK kvs k z)))))
section
variable {X : Cx}
abbrev AllP (X : Cx) (sc : Scope) (p : Cx → Prop) : Prop := ∀ (s : Shared) (H : Hp) (C : Addr) (cl : List (Str × Addr)) (fp : List Addr), p (X.blk s H sc (compEnvC sc cl C X.env) fp)
end
def dcI : List D → List (Key × D) → (D → Res (D × D)) → Res (List (Key × D))
  | [], acc, _ => .ok acc
  | e :: es, acc, f => match f e with
    | .ok (x, y) => (match keyD x with
      | some k => if acc.length < sizeLine then dcI es (putD acc k y) f else .bad
      | none => .bad)
    | _ => .bad
def dc2F : List D → List (Key × D) → (D → Res (List D)) → (D → D → Res (D × D)) → Res (List (Key × D))
  | [], acc, _, _ => .ok acc
  | d :: ds, acc, g, f => match g d with
    | .ok es => (match dcI es acc (f d) with
      | .ok acc' => dc2F ds acc' g f
      | _ => .bad)
    | _ => .bad
section
variable {X : Cx} {en : Kn} {δ τ : List Slot} {R : Type} {C : Slot → List Slot → Res R → Prop} {m : Res R} {K : PySem.W.Frag}
end
end BR

/-! K65: sorted(a list of pairs of ints) -/
namespace BR
open PySem PySem.Spec PyProof.Rows L2
/-- the first of two that is told ahead -/
def pLe (p q : Int × Int) : Bool := decide (p.1 < q.1) || (decide (p.1 = q.1) && decide (p.2 ≤ q.2))
def insP (p : Int × Int) : List (Int × Int) → List (Int × Int)
  | [] => [p]
  | q :: r => if pLe p q = true then p :: q :: r else q :: insP p r
def srtP : List (Int × Int) → List (Int × Int)
  | [] => []
  | p :: r => insP p (srtP r)
/-- a value that is a pair of ints -/
def TP (K : PySem.W.Frag) (H : Hp) (x : V) (q : Int × Int) : Prop := ∃ t, x = .ref t ∧ SqT K H t [.int q.1, .int q.2]
def All2P (P : V → Int × Int → Prop) : List V → List (Int × Int) → Prop
  | [], [] => True
  | x :: xs, q :: qs => P x q ∧ All2P P xs qs
  | _, _ => False
theorem All2P.map {P : V → Int × Int → Prop} {k : V → Int × Int} (hk : ∀ x q, P x q → k x = q) : ∀ {xs : List V} {ps : List (Int × Int)}, All2P P xs ps → ps = xs.map k ∧ ∀ x, x ∈ xs → P x (k x)
  | [], [], _ => ⟨rfl, fun x hx => by cases hx⟩
  | x :: xs, q :: qs, ⟨h, t⟩ => by
    obtain ⟨e, f⟩ := All2P.map hk t
    have := hk x q h
    refine ⟨by rw [List.map_cons, this, ← e], fun y hy => ?_⟩
    rcases List.mem_cons.mp hy with rfl | hy
    · rw [this]; exact h
    · exact f y hy
  | [], _ :: _, h => h.elim
  | _ :: _, [], h => h.elim
theorem All2P.of {P : V → Int × Int → Prop} {k : V → Int × Int} : ∀ {xs : List V}, (∀ x, x ∈ xs → P x (k x)) → All2P P xs (xs.map k)
  | [], _ => trivial
  | x :: xs, h => ⟨h x List.mem_cons_self, All2P.of fun y hy => h y (List.mem_cons_of_mem _ hy)⟩
section
variable {X : Cx}
def tPD (q : Int × Int) : D := .tup [.int q.1, .int q.2]
def pairsI : List D → Option (List (Int × Int))
  | [] => some []
  | .tup [.int i, .int j] :: r => (pairsI r).map fun ps => (i, j) :: ps
  | _ => none
/-- sorted(x), x a list of pairs of ints -/
def srtPT : List D → Option (List D)
  | [.lst ds] => (pairsI ds).map fun ps => (srtP ps).map tPD
  | _ => none
end
end BR

/-! K66: list(a dict) -/
namespace BR
open PySem PySem.Spec PyProof.Rows L2
def keyT : Key → D
  | .inl i => .int i
  | .inr s => .str s
/-- list(x), x a dict: its keys -/
def listKT : List D → Option (List D)
  | [.dic kvs] => if kvs.length ≤ sizeLine then some (kvs.map fun kv => keyT kv.1) else none
  | _ => none
section
variable {X : Cx}
end
end BR

/-! K67: True in a list of truths -/
namespace BR
open PySem PySem.Spec PyProof.Rows L2
def inBD (a b : D) : Option Bool := match a with
  | .bl i => ((asL b).bind bls).map fun ns => decide (i ∈ ns)
  | _ => none
section
variable {X : Cx}
end
end BR

/-! K68: a module's text, a list of five taken apart, a tried call whose arguments change what is known -/
namespace BR
open PySem PySem.Spec PyProof.Rows L2
section
variable {X : Cx} {en : Kn} {δ τ : List Slot} {R : Type} {C : Slot → List Slot → Res R → Prop} {m : Res R}
theorem je_gs {x : Str} {i : Str} {pos : Pos} (hm : ∃ t, X.mg x = some (.str i t)) (h : C (.fr (.str i)) δ m) (hg : Gl X x := by rfl) (hd : (x == ("__debug__" : Str)) = false := by decide) : JE X en δ τ (.Name x pos) C m := .mk fun hb hx σ ts G H T hl hσ W k => by
  obtain ⟨t, hm⟩ := hm
  exact we_of (pe_glob (v := .str i) hg hm ⟨t, rfl⟩ hd) (k _ _ _ G H h hl (W.out (Grow.refl W.sub) (show Rep _ _ _ _ from rfl)))
theorem gs_mk {K : PySem.W.Frag} {mg : Str → Option Value} {h : Heap} {x i : Str} {t : Tok} (X : K.In h) (G : h.Ns mainGlobals mg) (g : PySem.W.nsIn K mainGlobals x = some (some (.str i t))) : ∃ t, mg x = some (.str i t) := ⟨t, PySem.W.mg_of X G g⟩
def uL5 : D → Option (D × D × D × D × D)
  | .lst [a, b, c, d, e] => some (a, b, c, d, e)
  | _ => none
end
/-- nothing may be raised -/
def Kn.calm (en : Kn) : Kn := { n := en.n, G0 := en.G0, F0 := en.F0, ps := en.ps, HX := fun x => x = none, h0 := rfl }
theorem Wd.calm {K : PySem.W.Frag} {en : Kn} {δ : List Slot} {σ : L2.St} {G H : Hp} (W : Wd K en δ σ G H) : Wd K en.calm δ σ G H := ⟨W.len, W.sub, W.ext, W.new, W.frm, W.stay, W.nd, fun i sl o h1 h2 => by
  have q := W.slot i sl o h1 h2
  cases sl <;> exact q, W.apart⟩
/-- what ends well -/
def nrB {α : Type} : Res α → Res α
  | .ok a => .ok a
  | _ => .bad
section
variable {X : Cx} {en : Kn} {δ : List Slot} {R : Type} {m : Res R} {N : List Slot → Res R → Prop} {RT : Slot → List Slot → Res R → Prop} {BK CT : List Slot → Res R → Prop} {rest : List Stmt}
end
end BR

/-! K69: T.append([..]) and, at once, T[k].append(..) of that last list -/
namespace BR
open PySem PySem.Spec PyProof.Rows L2
section
variable {K : PySem.W.Frag} {en : Kn} {Δ : List Slot} {S : L2.St} {G H : Hp}
theorem own_unset {i j : Nat} {q : Addr} (h : Own (Δ.set i .un) S j q) : j ≠ i ∧ Own Δ S j q := by
  obtain ⟨sl, e1, e2, e3⟩ := h
  by_cases hj : i = j
  · subst hj
    by_cases hi : i < Δ.length
    · rw [List.getElem?_set_self hi] at e1; cases e1; cases e2
    · rw [List.getElem?_eq_none (by rw [List.length_set]; omega)] at e1; cases e1
  · rw [List.getElem?_set_ne hj] at e1
    exact ⟨fun z => hj z.symm, sl, e1, e2, e3⟩
/-- a list of this def's own, held in the frame with another thing in it -/
theorem Wd.hold (W : Wd K en Δ S G H) {i : Nat} {p : Addr} {d : D} {o : HO} (hnb : noBo Δ = true) (hi : Δ[i]? = some (.mu d)) (hs : S[i]? = some (some (.ref p))) : Wd K (en.setF (upd en.F0 p o)) (Δ.set i .un) S G (upd H p o) := by
  have sl := W.slot i _ _ hi hs
  obtain ⟨p', e, gp, fp, pp, r⟩ := sl
  cases e
  have own : Own Δ S i p := ⟨_, hi, rfl, hs⟩
  have ga : ∀ {a : Addr} {o : HO}, G a = some o → a ≠ p := fun e z => by subst z; rw [gp] at e; cases e
  refine ⟨by rw [List.length_set]; exact W.len, fun a o' e => by rw [upd_ne (ga e)]; exact W.sub a o' e, W.ext, fun a o' e => ?_, fun a o' e => ?_, fun a ha => ?_, W.nd, fun j sl u h1 h2 => ?_, fun j k q h1 h2 => ?_⟩
  · rcases W.new a o' e with z | ⟨z1, z2⟩
    · exact .inl z
    · exact .inr ⟨(upd_ne (ga e)).trans z1, z2⟩
  · by_cases z : a = p
    · subst z
      have e : upd en.F0 a o a = some o' := e
      rw [upd_same] at e ⊢
      exact e
    · have e : upd en.F0 p o a = some o' := e
      rw [upd_ne z] at e ⊢
      exact W.frm a o' e
  · have z : a ≠ p := fun z => pp (z ▸ ha)
    rw [upd_ne z]; exact W.stay a ha
  · by_cases hj : i = j
    · subst hj
      have hi' := (List.getElem?_eq_some_iff.mp hi).1
      rw [List.getElem?_set_self hi'] at h1
      cases h1; trivial
    · rw [List.getElem?_set_ne hj] at h1
      have q := W.slot j sl u h1 h2
      cases sl with
      | un => trivial
      | fr d => exact q
      | mu d' =>
        obtain ⟨p', e, n, f, f2, r⟩ := q
        have ne : p' ≠ p := fun z => hj (W.apart i j p own ⟨_, h1, rfl, by rw [h2, e, z]⟩)
        exact ⟨p', e, n, (upd_ne ne).trans f, f2, r.keep (Sub.refl _) fun o' eo => by rw [upd_ne ne]; exact eo⟩
      | mp k d' =>
        obtain ⟨p', e, f2, n, f, r⟩ := q
        have ne : p' ≠ p := fun z => hj (W.apart i j p own ⟨_, h1, rfl, by rw [h2, e, z]⟩)
        exact ⟨p', e, f2, n, (upd_ne ne).trans f, r.keep (Sub.refl _) fun o' eo => by rw [upd_ne ne]; exact eo⟩
      | bw d' =>
        obtain ⟨v, e, r⟩ := q
        exact ⟨v, e, r.sub (Sub.refl _) (Sub.upd fp)⟩
      | bo k => exact (noBo_get hnb h1).elim
  · obtain ⟨_, o1⟩ := own_unset h1
    obtain ⟨_, o2⟩ := own_unset h2
    exact W.apart j k q o1 o2
end
def app2 (ds : List D) (k : Int) : Option Unit := if ds.length < sizeLine ∧ k = (ds.length : Int) then some () else none
section
variable {X : Cx} {en : Kn} {δ : List Slot} {R : Type} {m : Res R} {N : List Slot → Res R → Prop} {RT : Slot → List Slot → Res R → Prop} {BK CT : List Slot → Res R → Prop} {rest : List Stmt}
end
end BR

/-! K70: list(reversed(a list)) -/
namespace BR
open PySem PySem.Spec PyProof.Rows L2
open Sem (wp)
theorem rev_no_len : typeLookup (.type "list_reverseiterator") "__len__" = pure none := by rw [typeLookup_type, builtinLookup_eq_fast]; kernel_rfl
theorem slot_rev_hint : PySem.Slot "list_reverseiterator" "__length_hint__" "list_reverseiterator.__length_hint__" :=
  .of (owner := "list_reverseiterator") (n := "__length_hint__") (by rw [typeLookup_type, builtinLookup_eq_fast]; kernel_rfl) (by decide +kernel) (by decide +kernel) (by decide +kernel)
    (by first | exact .inl (by decide +kernel) | exact .inr (by decide +kernel)) (by rw [isSubtype_type]; kernel_rfl)
section
variable {prog : Program} {w : World} {A : Around} {E : Value → Shared → Prop} {s : Shared}
theorem rev_hint {I : Addr} {Q : Bool → Shared → Prop} (hT : s.TypeIs (.ref I) "list_reverseiterator") (h : Q false s) : wpAny (model prog w) A (Builtin.List.listLengthHint (.ref I)) Q E s := by
  unfold Builtin.List.listLengthHint
  refine wpAny_bind (wpAny_specialOf hT rev_no_len ?_)
  show wpAny _ A (specialOf (Value.ref I) (Str.ofString "__length_hint__") >>= _) _ _ _
  refine wpAny_bind (wpAny_specialOf hT slot_rev_hint.lookup ?_)
  generalize hid : ("list_reverseiterator.__length_hint__" : String) = id0
  wp_delta
  rw [show splitId id0 = some ("list_reverseiterator", "__length_hint__") from by subst hid; decide +kernel]
  subst hid
  refine wpAny_bind (wpAny_isInstance (T := "list_reverseiterator") (b := true) hT (by rw [isSubtype_type]; kernel_rfl) ?_)
  refine wpAny_ite_split (fun hab => absurd hab (by decide)) (fun _ => ?_)
  refine wpAny_ite_split (fun _ => ?_) (fun hab => absurd (by decide +kernel) hab)
  refine wpAny_ite_split (fun hab => absurd hab (by decide +kernel)) (fun _ => ?_)
  exact wpAny_pure h
theorem extend_rev {R : Result → Shared → Prop} {I l : Addr} {items : Array Value} (hh : A.handled = none) (hit : s.heap.IsRevIter I l ((items.size : Int) - 1)) (hl : s.heap.IsList l items) (hne : l ≠ I) (hn : items.size ≤ sizeLine) (S : Addr) (res : Value) (c₀ : Nat)
    (hS : s.heap.get? S = some { cls := .type "list", data := .seq #[] c₀ }) (hSI : S ≠ I) (hSl : S ≠ l)
    (hR : ∀ h' tk acc' c', (∀ b o, b ≠ S → b ≠ I → s.heap.get? b = some o → h'.get? b = some o) → h'.get? S = some { cls := .type "list", dict := none, data := .seq acc' c', slots := #[] } →
      ItemsOf (fun i v => items[items.size - 1 - i]? = some v) acc' items.size → R (.ok (.ret res)) { s with heap := h', toks := tk }) :
    wpAny (model prog w) A.in1 (Builtin.List.listExtendWith (.ref S) (.ref I) res)
      (fun fin s' => match fin with | .done f => R (.ok f) s' | .again c' => c'.quiet = true ∧ codeAny (model prog w) A c' R s') (fun e s' => R (.error e) s') s := by
  have hSf : S ∉ [I, l] := fun hm => by
    rcases List.mem_cons.mp hm with z | z
    · exact hSI z
    · exact hSl (List.mem_singleton.mp z)
  have W := (Walks.listRev (prog := prog) (w := w) (A := A.in1) hh I l hne items).toS
  unfold Builtin.List.listExtendWith
  refine wpAny_bind (wpAny_typeOf hit.typeIs ?_)
  have h1 : Builtin.List.listSameRef (.ref S) (.ref I) = false := by simp [Builtin.List.listSameRef, hSI]
  have h2 : (Value.type "list_reverseiterator" == Value.type "list") = false := by decide
  have h3 : (Value.type "list_reverseiterator" == Value.type "tuple") = false := by decide
  simp only [h1, h2, h3, Bool.or_false, Bool.false_eq_true, if_false]
  refine wpAny_bind (wpAny_pyIter_revIter hit ?_)
  refine wpAny_bind (wpAny_holding (rev_hint hit.typeIs ?_))
  refine wpAny_ite_split (fun hab => absurd hab (by decide)) (fun _ => wpAny_pure ⟨plainId_quiet F.plain_extend_loop _, ?_⟩)
  have hit0 : s.heap.IsRevIter I l ((items.size : Int) - 1 - ((0 : Nat) : Int)) := by simpa using hit
  refine codeAny_extend_loopS W hn S hSf res items.size 0 _ #[] c₀ rfl (Nat.zero_le _) ⟨Nat.zero_le _, hit0, hl⟩ hS (ItemsOf.nil _) fun s' acc' c' hm hS' hacc => ?_
  rw [Moved.eq_with hm]
  refine hR s'.heap s'.toks acc' c' (fun b o hb hb2 e => hm.heap b o (fun hmem => ?_) e) hS' hacc
  rcases List.mem_cons.mp hmem with e' | hmem
  · exact hb e'
  · exact hb2 (List.mem_singleton.mp hmem)
theorem init_rev {R : Result → Shared → Prop} {I l : Addr} {items : Array Value} (hh : A.handled = none) (hit : s.heap.IsRevIter I l ((items.size : Int) - 1)) (hl : s.heap.IsList l items) (hne : l ≠ I) (hn : items.size ≤ sizeLine) (S : Addr)
    (hS : s.heap.get? S = some { cls := .type "list", data := .seq #[] }) (hSI : S ≠ I) (hSl : S ≠ l)
    (hR : ∀ h' tk acc' c', (∀ b o, b ≠ S → b ≠ I → s.heap.get? b = some o → h'.get? b = some o) → h'.get? S = some { cls := .type "list", dict := none, data := .seq acc' c', slots := #[] } →
      ItemsOf (fun i v => items[items.size - 1 - i]? = some v) acc' items.size → R (.ok (.ret .none)) { s with heap := h', toks := tk }) :
    wpAny (model prog w) A.in1 (Builtin.«list.__init__» ⟨[.ref S, .ref I], []⟩)
      (fun fin s' => match fin with | .done f => R (.ok f) s' | .again c' => c'.quiet = true ∧ codeAny (model prog w) A c' R s') (fun e s' => R (.error e) s') s := by
  show wpAny _ _ (do let old ← Builtin.List.listItems (.ref S); Builtin.List.listUpdate (.ref S) (fun _ => #[]); letGo old.toList.reverse; Builtin.List.listExtendWith (.ref S) (.ref I) .none) _ _ s
  refine wpAny_bind ?_
  unfold Builtin.List.listItems
  refine wpAny_bind (wpAny_seqItems hS rfl (wpAny_pure ?_))
  show wpAny _ _ (updateSeq S (fun _ => #[]) >>= fun _ => letGo (#[] : Array Value).toList.reverse >>= fun _ => Builtin.List.listExtendWith (.ref S) (.ref I) .none) _ _ s
  refine wpAny_bind (wpAny_updateSeq hS rfl ?_)
  have hS₂ := Heap.get?_update_self (Obj.mapSeq (fun _ => (#[] : Array Value))) hS rfl
  have oth : ∀ b o, b ≠ S → s.heap.get? b = some o → (s.heap.update S (Obj.mapSeq (fun _ => (#[] : Array Value)))).get? b = some o :=
    fun b o hb e => (Heap.get?_update_other _ _ (Ne.symm hb)).trans e
  refine wpAny_bind (wpAny_letGo ?_)
  refine extend_rev hh (hit.at fun o e => oth I o (Ne.symm hSI) e) (hl.at fun o e => oth l o (Ne.symm hSl) e) hne hn S .none _ hS₂ hSI hSl fun h' tk acc' c' hk hS' hacc => ?_
  exact hR h' tk acc' c' (fun b o hb hb2 e => hk b o hb hb2 (oth b o hb e)) hS' hacc
theorem call_list_rev {Q : Value → Shared → Prop} {I l : Addr} {items : Array Value} (hh : A.handled = none) (hit : s.heap.IsRevIter I l ((items.size : Int) - 1)) (hl : s.heap.IsList l items) (hne : l ≠ I) (hn : items.size ≤ sizeLine)
    (hQ : ∀ h' tk acc' c', (∀ b o, b ≠ I → s.heap.get? b = some o → h'.get? b = some o) →
      h'.get? s.heap.objs.size = some { cls := .type "list", dict := none, data := .seq acc' c', slots := #[] } → ItemsOf (fun i v => items[items.size - 1 - i]? = some v) acc' items.size → Q (.ref s.heap.objs.size) { s with heap := h', toks := tk }) :
    wpAny (model prog w) A (call (.type "list") [.ref I]) Q E s := by
  refine callType_codes (Q₁ := fun obj s₁ => obj = .ref s.heap.objs.size ∧ s₁ = { s with heap := s.heap.push { cls := .type "list", data := .seq #[] } }) PySem.F.called_list (PySem.F.typeCall_list_1 _) PySem.F.entry_list_init
    (code_list_new _ ⟨rfl, rfl⟩) fun obj s₁ h₁ => ?_
  obtain ⟨rfl, rfl⟩ := h₁
  have hS : (s.heap.push { cls := .type "list", data := .seq #[] }).get? s.heap.objs.size = some { cls := .type "list", data := .seq #[] } := Heap.get?_push_size _ rfl
  obtain ⟨oI, hoI, _⟩ := id hit
  obtain ⟨ol, hol, _⟩ := id hl
  refine ⟨⟨_, hS, rfl⟩, PySem.F.args_list_init_2 _ _, init_rev (A := A.in1) hh (hit.at fun o e => Heap.get?_push_of_some _ e) (hl.at fun o e => Heap.get?_push_of_some _ e) hne hn _ hS (Ne.symm (Nat.ne_of_lt (Heap.lt_size hoI))) (Ne.symm (Nat.ne_of_lt (Heap.lt_size hol))) fun h' tk acc' c' hk hS' hacc => ?_⟩
  exact ⟨rfl, hQ h' tk acc' c' (fun b o hb e => hk b o (Nat.ne_of_lt (Heap.lt_size e)) hb (Heap.get?_push_of_some _ e)) hS' hacc⟩
end
/-- list(reversed(x)), x a list: a new list -/
def tListRev (K : PySem.W.Frag) (te : TE) : TE := fun σ H Q => te σ H fun v H1 => ∃ (a : Addr) (xs : List V), v = .ref a ∧ SqL K H1 a xs ∧ ∀ q, H1 q = none → Q (.ref q) (upd H1 q (.lst xs.reverse))
section
variable {X : Cx}
theorem pe_listRev {e : Expr} {te : TE} {p p2 pos pos2 : Pos} (hc : X.calm = true) (hg : Gl X "list") (hm : X.mg "list" = none) (hg2 : Gl X "reversed") (hm2 : X.mg "reversed" = none) (he : PE X e te)
    (hs : starEach [e] X.env = (false, eval e X.env) :: starEach [] X.env := by rfl)
    (hs2 : starEach [.Call (.Name "reversed" p2) [e] [] pos2] X.env = (false, eval (.Call (.Name "reversed" p2) [e] [] pos2) X.env) :: starEach [] X.env := by rfl) :
    PE X (.Call (.Name "list" p) [.Call (.Name "reversed" p2) [e] [] pos2] [] pos) (tListRev X.K te) := by
  refine ⟨fun pins s σ H Q I h => ?_⟩
  refine Call_ (ld_blt I hg hm PyProof.Rows.boot_list (PyProof.Rows.callWith_type1 (PyProof.Rows.args_cons (Call_ (ld_blt I hg2 hm2 PyProof.Rows.boot_reversed (PyProof.Rows.callWith_type1 (PyProof.Rows.args_cons (thn (he.run pins s σ H _ I h) fun u s1 ⟨v, H1, I1, r1, q1⟩ => PyProof.Rows.args_nil ?_) hs) hs rfl))) hs2) hs2 rfl))
  obtain ⟨a, xs, ev, hq, q⟩ := q1
  subst ev
  obtain rfl : u = Value.ref a := r1
  obtain ⟨its, rv, p', hz⟩ := I1.list hq
  refine call_reversed_list p'.isList (PyProof.Rows.args_nil ?_)
  have k0 : ∀ b o, s1.heap.get? b = some o → (s1.heap.push (revObj a ((its.toArray.size : Int) - 1))).get? b = some o := fun b o e => Heap.get?_push_of_some _ e
  have I2 : Inv X pins σ H1 { s1 with heap := s1.heap.push (revObj a ((its.toArray.size : Int) - 1)) } := I1.kept (t' := s1.toks) k0
  have hl := p'.isList
  obtain ⟨ol, hol, _⟩ := id hl
  have hne : a ≠ s1.heap.objs.size := Nat.ne_of_lt (Heap.lt_size hol)
  have hn : its.toArray.size ≤ sizeLine := by rw [List.size_toArray, ← rv.length]; exact hz
  refine call_list_rev (s := { s1 with heap := s1.heap.push (revObj a ((its.toArray.size : Int) - 1)) }) (I1.ok.hd hc) ⟨_, Heap.get?_push_size _ rfl, rfl, rfl⟩ (hl.push _) hne hn fun h' tk acc c hk hS hi => ?_
  have hsz : (s1.heap.push (revObj a ((its.toArray.size : Int) - 1))).objs.size = s1.heap.objs.size + 1 := Heap.size_push _ _
  have hN : H1 s1.heap.objs.size = none := I1.hok.fresh (Nat.le_refl _)
  have hN1 : H1 (s1.heap.push (revObj a ((its.toArray.size : Int) - 1))).objs.size = none := I2.hok.fresh (Nat.le_refl _)
  have nN : s1.heap.objs.size ≠ (s1.heap.push (revObj a ((its.toArray.size : Int) - 1))).objs.size := by rw [hsz]; exact Nat.ne_of_lt (Nat.lt_succ_self _)
  have gN : ((s1.heap.push (revObj a ((its.toArray.size : Int) - 1))).push { cls := .type "list", dict := none, data := .seq acc c, slots := #[] }).get? (s1.heap.push (revObj a ((its.toArray.size : Int) - 1))).objs.size = some { cls := .type "list", dict := none, data := .seq acc c, slots := #[] } := Heap.get?_push_size _ rfl
  have I3 : Inv X pins σ (upd H1 (s1.heap.push (revObj a ((its.toArray.size : Int) - 1))).objs.size (.lst xs.reverse)) { s1 with heap := (s1.heap.push (revObj a ((its.toArray.size : Int) - 1))).push { cls := .type "list", dict := none, data := .seq acc c, slots := #[] }, toks := s1.toks } :=
    I2.laid (t' := s1.toks) (fun c o e => Heap.get?_push_of_some _ e) (Nat.le_refl _) (show ObjOk X.prog X.w _ _ _ (.lst xs.reverse) from ⟨by rw [List.length_reverse]; exact hz, acc.toList, c, RT.vals_rev rv hi, by rw [Array.toArray_toList]; exact gN⟩)
  obtain ⟨f0, f1, f2, f3, f4, f5⟩ := I1.fpOk (H' := upd H1 (s1.heap.push (revObj a ((its.toArray.size : Int) - 1))).objs.size (.lst xs.reverse)) (b := s1.heap.objs.size) (Nat.le_refl _) (by rw [upd_ne nN]; exact hN)
  have I4 : Inv X pins σ (upd H1 (s1.heap.push (revObj a ((its.toArray.size : Int) - 1))).objs.size (.lst xs.reverse)) { s1 with heap := h', toks := tk } := I3.turned (t' := tk) (fun b o hb e => by
    by_cases z : b = (s1.heap.push (revObj a ((its.toArray.size : Int) - 1))).objs.size
    · rw [z] at e ⊢
      rw [gN] at e
      rw [← e]; exact hS
    · refine hk b o hb ?_
      rcases Heap.get?_push_cases e with ⟨y, _⟩ | y
      · exact absurd y z
      · exact y) f0 f1 f3 f4 f5
  exact ⟨.ref _, _, I4, rfl, q _ hN1⟩
end
/-- a list the other way about -/
def revT : D → Option (List D)
  | .lst ds => some ds.reverse
  | _ => none
section
variable {X : Cx} {en : Kn} {δ τ : List Slot} {R : Type} {C : Slot → List Slot → Res R → Prop} {m : Res R}
theorem je_listRev {a : Expr} {p p2 pos pos2 : Pos} (hc : X.calm = true) (hml : X.mg "list" = none) (hmz : X.mg "reversed" = none)
    (h : JE X en δ τ a (fun s δ1 m1 => ∃ d k, s.rd δ1 = some d ∧ m1 = op (revT d) k ∧ ∀ ds, C (.mu (.lst ds)) δ1 (k ds)) m)
    (hgl : Gl X "list" := by rfl) (hgz : Gl X "reversed" := by rfl) (hs : starEach [a] X.env = (false, eval a X.env) :: starEach [] X.env := by exact star_plain rfl)
    (na : starEach [.Call (.Name "reversed" p2) [a] [] pos2] X.env = (false, eval (.Call (.Name "reversed" p2) [a] [] pos2) X.env) :: starEach [] X.env := by rfl) :
    JE X en δ τ (.Call (.Name "list" p) [.Call (.Name "reversed" p2) [a] [] pos2] [] pos) C m := .mk fun hb hx σ ts G H T hl hσ W k => by
  refine we_of (pe_listRev hc hgl hml hgz hmz pe_we hs na) ?_
  have ht : τ.length = ts.length := W.splitLen (hl.trans hσ.symm)
  refine h.run hb hx σ ts G H _ hl hσ W fun s δ1 v G1 H1 c1 hl1 W1 => ?_
  obtain ⟨d, k', e1, em, hk⟩ := c1
  have hb' := hb
  rw [em] at hb'
  obtain ⟨ds, ed⟩ := op_some hb'
  have em' : m = k' ds := by rw [em, ed]; rfl
  have hk2 := hk ds
  rw [← em'] at hk2
  obtain ⟨⟨_, _, ez, r1, _⟩, Wn⟩ := Wd.ends (sls := [s]) (vs := [v]) W1 (hl1.trans hσ.symm) ht (ds := [d]) (by simp only [rds, e1])
  cases ez
  cases d <;> first | cases ed | skip
  obtain ⟨a0, vs, ev, q1, r1'⟩ := r1
  exact ⟨a0, vs, ev, SqL.of q1, mu_out W1.sub (Reps.rev r1') fun v G' H' gr out => k _ δ1 v G' H' hk2 hl1 ((Wn (by omega)).out gr out)⟩
end
end BR

/-! K71: for x in T[j]: x.append(..), T told -/
namespace BR
open PySem PySem.Spec PyProof.Rows L2
section
variable {X : Cx} {en : Kn} {δ : List Slot} {R : Type} {m : Res R} {N : List Slot → Res R → Prop} {RT : Slot → List Slot → Res R → Prop} {BK CT : List Slot → Res R → Prop}
end
theorem rep_un {n j : Nat} {sl : Slot} (h : (List.replicate n Slot.un)[j]? = some sl) : sl = .un := List.eq_of_mem_replicate (List.mem_of_getElem? h)
theorem Wd.none1 {K : PySem.W.Frag} {en : Kn} {n : Nat} {σ : L2.St} {G H : Hp} (hn : en.n = n) (hσ : σ.length = n) (sg : Sub G H) : Wd K (en.pure G H) (List.replicate n .un) σ G H where
  len := by rw [List.length_replicate]; exact hσ.symm
  sub := sg
  ext := Sub.refl _
  new := fun a o e => .inl e
  frm := Sub.refl _
  stay := fun a h => by cases h
  nd := List.nodup_nil
  slot := fun j sl o h1 h2 => by
    have e := rep_un h1
    subst e; trivial
  apart := fun a b p h1 _ => by
    obtain ⟨sl, e1, e2, _⟩ := h1
    have e := rep_un e1
    subst e; cases e2
section
variable {X : Cx} {en : Kn} {δ : List Slot} {R : Type} {m : Res R} {N : List Slot → Res R → Prop} {RT : Slot → List Slot → Res R → Prop} {BK CT : List Slot → Res R → Prop}
def tupIx (d : D) (j : Int) : Option D := match d with
  | .tup ds => atI ds j
  | _ => none
theorem jx_spoilT {i : Nat} {d : D} {x t : Str} {xp tp spos kpos tp2 spos2 kpos2 apos2 cpos2 pos2 : Pos} {j0 : Int} {jk jk2 : Nat} {e2 : Expr} {rest : List Stmt} {body : List Stmt} {es : List (Expr × Pos)} {n : Nat} {f : List D → Res (List D)} {k : Unit → Res R} (ix : Nat) (hp : PassesOwn (model X.prog X.w) X.A X.env X.xe) (hc : X.calm = true) (hN : X.N.Nodup) (hbd : body = exs' es) (hn : en.n = n) (hix : ix < n) (hne : ix ≠ i)
    (hun : δ[ix]? = some .un) (hnb : noBo δ = true) (em : m = op (tupIx d j0) fun dl => op (chkL dl) k)
    (hf : ∀ l : List D, flDs l = true → l.length < 100000 → ∃ l', f l = .ok l' ∧ flDs l' = true ∧ l'.length ≤ l.length + 10)
    (hbody : ∀ l, Spl X en n ix es l (f l)) (hA : ∀ en', KnP en en' → JA X en' (List.replicate n .un) [] [e2] (fun sls _ m2 => (∃ y, frs sls = some [y]) ∧ JSs X en δ rest N RT BK CT m2) (k ()))
    (hNi : X.N[i]? = some t := by rfl) (hNx : X.N[ix]? = some x := by rfl) (hv : Vis X.env.scope t := by first | exact Or.inl rfl | exact Or.inr (Or.inl rfl) | exact Or.inr (Or.inr rfl)) (hd : (t == ("__debug__" : Str)) = false := by decide) (hcd : (t == ("__classdict__" : Str)) = false := by decide)
    (hl : Loc X.env.scope x := by first | exact Or.inl rfl | exact Or.inr rfl)
    (hfn : X.fn x = true ∨ X.env.scope.names.lookup x = some .local := by first | exact .inl rfl | exact .inr rfl)
    (hs : ∀ v, foldedSetIterable (.Subscript (.Name t tp) (.Constant (.int j0) jk kpos) spos) X.env v = pure v := by intro _; rfl) (hix2 : PlainIx (.Constant (.int j0) jk kpos) := by exact fun _ _ => rfl) (hix3 : PlainIx (.Constant (.int j0) jk2 kpos2) := by exact fun _ _ => rfl)
    (hbase2 : attributeBase (.Subscript (.Name t tp2) (.Constant (.int j0) jk2 kpos2) spos2) "append" X.env (eval (.Subscript (.Name t tp2) (.Constant (.int j0) jk2 kpos2) spos2) X.env) = eval (.Subscript (.Name t tp2) (.Constant (.int j0) jk2 kpos2) spos2) X.env := by rfl)
    (hfew2 : ((backTo cpos2 (starEach [e2] X.env)).all (fun x => !x.1) && (backToKw cpos2 (keywordEach [] X.env)).all (fun x => x.1.isSome) && decide (([e2] : List Expr).length + ([] : List Keyword).length + (if ([] : List Keyword).isEmpty then 0 else 1) < 30)) = true := by rfl)
    (hline2 : (apos2.endLine == cpos2.line) = true := by rfl) (hst2 : starEach [e2] X.env = (false, eval e2 X.env) :: starEach [] X.env := by exact star_plain rfl) (hpl2 : (backTo cpos2 (starEach [] X.env)).any (·.1) = false := by rfl)
    (hsw2 : swapsWith (.Call (.Attribute (.Subscript (.Name t tp2) (.Constant (.int j0) jk2 kpos2) spos2) "append" apos2) [e2] [] cpos2) none pos2.line X.env = pure false := by rfl) :
    JX X en δ i d (.For (.Name x xp) (.Subscript (.Name t tp) (.Constant (.int j0) jk kpos) spos) body [] pos :: .Expr (.Call (.Attribute (.Subscript (.Name t tp2) (.Constant (.int j0) jk2 kpos2) spos2) "append" apos2) [e2] [] cpos2) pos2 :: rest) N RT BK CT m := .mk fun hb hx' σ G H0 H G1 E v hl0 hv0 W s0 s1 new r k1 k2 k3 k4 pins s I => by
  subst hbd
  have hb' := hb
  rw [em] at hb'
  obtain ⟨dl, ed⟩ := op_some hb'
  have em0 : m = op (chkL dl) k := by rw [em, ed]; rfl
  have hb2 := hb
  rw [em0] at hb2
  obtain ⟨u, eu⟩ := op_some hb2
  have em' : m = k () := by rw [em0, eu]; rfl
  subst em'
  cases d <;> first | cases ed | skip
  rename_i dst
  obtain ⟨aT, wsT, rfl, sqT, rsT⟩ := r
  obtain ⟨w, ew, rw0⟩ := rsT.at (show atI dst j0 = some dl from ed)
  refine wss_of (pss_cons (ps_for hp hc (pi_list (pe_ix ix_seq (pe_var hNi hv hd hcd) pe_int hix2)) (pg_name hN hNx hl hfn) pss_wss hs)
    (pss_cons (ps_expr (pe_bm PySem.F.plainAttrs_list PySem.F.slot_list_append PySem.F.type_list_append mt_append (pe_ix ix_seq (pe_var hNi hv hd hcd) pe_int hix3) pa_wa hbase2 hfew2 hline2 hst2 hpl2) hsw2) pss_wss)) ?_ pins s I
  refine ⟨.ref aT, hv0, .inr (.inl ⟨aT, wsT, j0, w, rfl, rfl, SqT.sub s1 sqT, ew, ?_⟩)⟩
  cases dl <;> first | cases eu | skip
  rename_i ds
  have all2 : ds.all okL = true ∧ ds.length < 9000 := by
    have eu' : (if ds.all okL = true ∧ ds.length < 9000 then some () else none) = some u := eu
    split at eu'
    · assumption
    · cases eu'
  have all := all2.1
  obtain ⟨p, vs, rfl, gp, rp⟩ := rw0
  have hlen : ds.length = vs.length := Reps.length rp
  have HpT : H p = some (.lst vs) := s1 _ _ gp
  -- the items
  have item : ∀ (j : Nat) (v : V), vs[j]? = some v → ∃ a l, v = .ref a ∧ flDs l = true ∧ l.length < 1000 ∧ ∃ us, G1 a = some (.lst us) ∧ Reps X.K G1 l us := fun j v ev => by
    obtain ⟨dj, hj, rj⟩ := Reps.get' rp ev
    have ok := List.all_eq_true.mp all dj (List.mem_of_getElem? hj)
    cases dj <;> first | exact (Bool.false_ne_true ok).elim | skip
    rename_i l
    have ok' : (flDs l && decide (l.length < 1000)) = true := ok
    rw [Bool.and_eq_true, decide_eq_true_iff] at ok'
    obtain ⟨a, us, e, g, q⟩ := rj
    exact ⟨a, l, e, ok'.1, ok'.2, us, g, q⟩
  have np : ∀ (j : Nat) (a : Addr), vs[j]? = some (.ref a) → a ≠ p := fun j a ev e => by
    subst e
    obtain ⟨b, l, eb, fl, _, us, g, q⟩ := item j _ ev
    cases eb
    rw [gp] at g
    cases g
    obtain ⟨dj, hj, rj⟩ := Reps.get' q ev
    have fj : flD dj = true := by
      have key : ∀ {l : List D}, flDs l = true → ∀ x, x ∈ l → flD x = true := fun {l} => by
        induction l with
        | nil => intro _ x hx; cases hx
        | cons y l ih =>
          intro h x hx
          have h' : (flD y && flDs l) = true := h
          rw [Bool.and_eq_true] at h'
          rcases List.mem_cons.mp hx with rfl | z
          · exact h'.1
          · exact ih h'.2 x z
      exact key fl dj (List.mem_of_getElem? hj)
    cases dj with
    | non => cases (show V.ref a = V.non from rj)
    | bl b => cases (show V.ref a = V.bl b from rj)
    | int b => cases (show V.ref a = V.int b from rj)
    | str b => cases (show V.ref a = V.str b from rj)
    | lst _ => exact Bool.false_ne_true fj
    | dic _ => exact Bool.false_ne_true fj
    | scr _ => exact Bool.false_ne_true fj
    | exc _ _ => exact Bool.false_ne_true fj
    | obj _ _ => exact Bool.false_ne_true fj
    | tup ts =>
      obtain ⟨b, ws, eb, sq, _⟩ := rj
      cases eb
      rcases sq with (z | ⟨o, z⟩) | ⟨o, its, c, lk, cl, _⟩
      · rw [gp] at z; cases z
      · rw [gp] at z; cases z
      · have h1 := I.kIn _ _ lk
        obtain ⟨_, _, _, _, h2⟩ := I.hok _ _ HpT
        rw [h1] at h2
        cases h2
        exact absurd (show Value.type "list" = Value.type "tuple" from cl) fun z => by injection z with z; exact absurd z (by decide)
  have hσ : σ.length = n := (W.sl hl0).trans hn
  have a0 : ∀ (j : Nat) (a : Addr), vs[j]? = some (.ref a) → H0 a = none := fun j a ev => by
    obtain ⟨b, l, eb, _, _, us, g, _⟩ := item j _ ev
    cases eb
    exact newL new g
  obtain ⟨o0, ho0⟩ : ∃ o, σ[ix]? = some o := ⟨_, List.getElem?_eq_getElem (by omega)⟩
  refine ⟨p, rfl, ⟨vs, SqL.of HpT⟩, ?_⟩
  let P : Nat → L2.St → Hp → Prop := fun j σ' H' => (∃ o, σ' = σ.set ix o) ∧ ∃ Gc, Sub (noL G1) Gc ∧ Sub Gc H' ∧ Sub H0 H' ∧ H' p = some (.lst vs) ∧ ∀ (q : Nat) (a : Addr), vs[q]? = some (.ref a) → Gc a = none ∧ ∃ l, flDs l = true ∧ l.length ≤ 1000 + 10 * j ∧ MRep X.K Gc H' (.lst l) a
  refine ⟨fun j mm σ' H' => mm = vs.length - j ∧ j ≤ vs.length ∧ j ≤ 9000 ∧ P j σ' H', ⟨vs.length, by simp, Nat.zero_le _, Nat.zero_le _, ⟨o0, (set_same ho0).symm⟩, noL G1, Sub.refl _, noL_sub.trans s1, s0, HpT, fun q a ev => ?_⟩, ?_⟩
  · obtain ⟨b, l, eb, fl, ll, us, g, rq⟩ := item q _ ev
    have eab : a = b := V.ref.inj eb
    subst eab
    refine ⟨?_, l, fl, by omega, us, s1 _ _ g, Reps.noL fl rq⟩
    cases z : noL G1 a with
    | none => rfl
    | some o =>
      obtain ⟨z1, z2⟩ := noL_at z
      rw [g] at z1
      exact absurd (Option.some.inj z1).symm (z2 us)
  rintro j mm σ2 H2 ⟨rfl, hj, hj9, ⟨o, rfl⟩, Gc, s9, sc, sh, hp2, its⟩
  by_cases hlt : j < vs.length
  · refine .inr ⟨⟨vs, vs[j], SqL.of hp2, List.getElem?_eq_getElem hlt⟩, fun σ' H' => j + 1 ≤ 9000 ∧ P (j + 1) σ' H', fun σ' H' hn' => ⟨vs.length - (j + 1), by omega, rfl, hlt, hn'⟩, fun v H3 hy => ?_⟩
    obtain ⟨rfl, hy⟩ := hy
    have ev := hy vs (SqL.of hp2)
    obtain ⟨a, l0, rfl, _⟩ := item j v ev
    obtain ⟨ga, l, fl, ll, rl⟩ := its j a ev
    have h0a := a0 j a ev
    have f0a : en.F0 a = none := by
      cases z : en.F0 a with
      | none => rfl
      | some o => rw [W.frm a o z] at h0a; cases h0a
    obtain ⟨l', e1, fl', ll'⟩ := hf l fl (by omega)
    show WSs X (exs' es) _ ((σ.set ix o).set ix (some (.ref a))) H3
    refine spl_run hn (hbody l) (by rw [e1]; exact fun z => nomatch z) (by rw [e1]; exact en.h0) _ Gc H3 a _ (by rw [List.length_set, List.length_set]; exact hσ) hix (by rw [List.getElem?_set_self (by rw [List.length_set]; omega)]) sc ga f0a (W.frm.trans sh) (fun b hb z => W.stay b hb (sh.none z)) rl fun l2 G' H' e2 g1 g2 g3 g4 g5 g6 => ?_
    rw [e1] at e2
    cases e2
    have up : ∀ b u, b ≠ a → H3 b = some u → H' b = some u := fun b u hb e => g3 b u (by rw [hide_some (by simpa using hb)]; exact e)
    refine ⟨by omega, ⟨some (.ref a), by rw [List.set_set]⟩, G', s9.trans g1, g2, fun b u e => up b u (fun z => by rw [z, h0a] at e; cases e) (sh b u e), up p _ (fun z => np j a ev z.symm) hp2, fun q b eb => ?_⟩
    by_cases hba : b = a
    · subst hba
      exact ⟨g4, l', fl', by omega, g5⟩
    · obtain ⟨gb, lb, flb, llb, us, hus, rus⟩ := its q b eb
      refine ⟨?_, lb, flb, by omega, us, up b _ hba hus, Reps.sub g1 _ _ rus⟩
      cases z : G' b with
      | none => rfl
      | some w =>
        rcases g6 b w z with y | y
        · rw [gb] at y; cases y
        · rw [hus] at y; cases y
  · have e : j = vs.length := by omega
    refine .inl ⟨⟨vs, SqL.of hp2, by omega⟩, ?_⟩
    have W2 := W.blank hnb ix o
    rw [set_same hun] at W2
    have sT : SqT X.K H2 aT wsT := SqT.sub (s9.trans sc) (sqt_noL sqT)
    have hvi : (σ.set ix o)[i]? = some (some (V.ref aT)) := by rw [List.getElem?_set_ne hne]; exact hv0
    have W3 : Wd X.K en δ (σ.set ix o) G H2 := W2.grow (Grow.more W2.sub sh)
    refine ⟨.ref aT, hvi, .inr (.inl ⟨aT, wsT, j0, .ref p, rfl, rfl, sT, ew, .inl ⟨rfl, vs, SqL.of hp2⟩, ?_⟩)⟩
    have WU : Wd X.K (en.pure Gc H2) (List.replicate n .un) (σ.set ix o) Gc H2 := Wd.none1 hn (by rw [List.length_set]; exact hσ) sc
    refine (hA (en.pure Gc H2) (W.knP sh)).run hb hx' (σ.set ix o) [] Gc H2 _ (by rw [List.length_replicate]; exact hn.symm) (by rw [List.length_set]; exact hσ.trans hn.symm) (by rw [List.append_nil, List.append_nil]; exact WU) fun sls δ2 vs2 G3 H3 ⟨⟨y, ef⟩, hrest⟩ hl2 W4 => ?_
    obtain ⟨hnn, hq⟩ := W4.endSlots (hl2.trans (by rw [List.length_set]; exact hσ.trans hn.symm : (σ.set ix o).length = en.n).symm) rfl
    have hr : Reps X.K G3 [y] vs2 := Wd.frs (Δ := δ2) (H := H3) hq hnn ef
    obtain ⟨vy, _, evy, qy, ez⟩ := hr
    have ez' : _ = [] := ez
    subst ez'
    subst evy
    have sH : Sub H2 H3 := W4.frm
    have H0p : H0 p = none := newL new gp
    refine ⟨p, vs, vy, rfl, rfl, sH _ _ hp2, by rw [← hlen]; exact Nat.lt_of_lt_of_le all2.2 (by rw [sizeLine_eq]; decide), ?_⟩
    have sF : Sub H0 (upd H3 p (.lst (vs ++ [vy]))) := fun b u e => by
      have z : b ≠ p := fun z => by rw [z, H0p] at e; cases e
      rw [upd_ne z]; exact sH _ _ (sh _ _ e)
    exact hrest.run hb hx' _ G _ E hl0 (W2.grow (Grow.more W2.sub sF)) k1 k2 k3 k4
end
end BR

/-! the defs of the law, each run once -/
namespace BR
open PySem PySem.Spec PyProof.Rows L2
def topS (i : Nat) : Stmt := PySem.Challenge.pw_boastrow_k52_fewest_sets.main.body.getD i (.Pass ⟨0, 0, 0, 0⟩)
/-- what the top of the text has written -/
structure Txt (K : PySem.W.Frag) (mg : Str → Option Value) : Prop where
  n_all : mg "all" = none
  n_bool : mg "bool" = none
  n_enumerate : mg "enumerate" = none
  n_int : mg "int" = none
  n_isinstance : mg "isinstance" = none
  n_len : mg "len" = none
  n_list : mg "list" = none
  n_max : mg "max" = none
  n_min : mg "min" = none
  n_range : mg "range" = none
  n_repr : mg "repr" = none
  n_reversed : mg "reversed" = none
  n_sorted : mg "sorted" = none
  n_str : mg "str" = none
  n_tuple : mg "tuple" = none
  n_zip : mg "zip" = none
  g_MOST_MADE : ∃ t, mg "MOST_MADE" = some (.int 300 t)
  g_AT_ONCE : ∃ t, mg "AT_ONCE" = some (.str "at once" t)
  f_l_jar : ∃ fa fd, L2.Fun K "_law_jar" "_law_jar" (topS 35) fa fd ∧ Binds K fd ["_law_script", "_law_k"] [] ∧ mg "_law_jar" = some (.ref fa)
  f_l_pour : ∃ fa fd, L2.Fun K "_law_pour" "_law_pour" (topS 36) fa fd ∧ Binds K fd ["_law_jar_here", "_law_many_here"] [] ∧ mg "_law_pour" = some (.ref fa)
  f_l_number : ∃ fa fd, L2.Fun K "_law_number" "_law_number" (topS 37) fa fd ∧ Binds K fd ["_law_jar_here", "_law_top"] [] ∧ mg "_law_number" = some (.ref fa)
  f_l_table : ∃ fa fd, L2.Fun K "_law_table" "_law_table" (topS 38) fa fd ∧ Binds K fd ["_law_jar_here", "_law_top", "_law_most"] [] ∧ mg "_law_table" = some (.ref fa)
  f_t_is_number : ∃ fa fd, L2.Fun K "is_number" "is_number" (topS 6) fa fd ∧ Binds K fd ["thing"] [] ∧ mg "is_number" = some (.ref fa)
  f_t_is_stretch : ∃ fa fd, L2.Fun K "is_stretch" "is_stretch" (topS 13) fa fd ∧ Binds K fd ["thing"] [] ∧ mg "is_stretch" = some (.ref fa)
  f_t_is_stretches : ∃ fa fd, L2.Fun K "is_stretches" "is_stretches" (topS 14) fa fd ∧ Binds K fd ["thing"] [] ∧ mg "is_stretches" = some (.ref fa)
  f_t_is_sets : ∃ fa fd, L2.Fun K "is_sets" "is_sets" (topS 23) fa fd ∧ Binds K fd ["thing"] [] ∧ mg "is_sets" = some (.ref fa)
  f_t_need_sets : ∃ fa fd, L2.Fun K "need_sets" "need_sets" (topS 24) fa fd ∧ Binds K fd ["thing"] [] ∧ mg "need_sets" = some (.ref fa)
  f_t_put : ∃ fa fd, L2.Fun K "put" "put" (topS 18) fa fd ∧ Binds K fd ["extra", "number", "many"] [] ∧ mg "put" = some (.ref fa)
  f_t_between_books : ∃ fa fd, L2.Fun K "between_books" "between_books" (topS 19) fa fd ∧ Binds K fd ["ends"] [] ∧ mg "between_books" = some (.ref fa)
  f_t_numbers_at : ∃ fa fd, L2.Fun K "numbers_at" "numbers_at" (topS 25) fa fd ∧ Binds K fd ["extra", "rising"] [] ∧ mg "numbers_at" = some (.ref fa)
  f_t_companies_in : ∃ fa fd, L2.Fun K "companies_in" "companies_in" (topS 26) fa fd ∧ Binds K fd ["extra", "some"] [] ∧ mg "companies_in" = some (.ref fa)
  f_t_gone_through : ∃ fa fd, L2.Fun K "gone_through" "gone_through" (topS 27) fa fd ∧ Binds K fd ["sets"] [] ∧ mg "gone_through" = some (.ref fa)
  f_t_true_at : ∃ fa fd, L2.Fun K "true_at" "true_at" (topS 28) fa fd ∧ Binds K fd ["sets"] [] ∧ mg "true_at" = some (.ref fa)
  f_t_steps_by : ∃ fa fd, L2.Fun K "steps_by" "steps_by" (topS 15) fa fd ∧ Binds K fd ["extra"] [] ∧ mg "steps_by" = some (.ref fa)
  f_t_set_table : ∃ fa fd, L2.Fun K "set_table" "set_table" (topS 29) fa fd ∧ Binds K fd ["sets"] [] ∧ mg "set_table" = some (.ref fa)
  f_t_is_step : ∃ fa fd, L2.Fun K "is_step" "is_step" (topS 8) fa fd ∧ Binds K fd ["thing"] [] ∧ mg "is_step" = some (.ref fa)
  f_t_is_table : ∃ fa fd, L2.Fun K "is_table" "is_table" (topS 9) fa fd ∧ Binds K fd ["thing"] [] ∧ mg "is_table" = some (.ref fa)
  f_t_is_rows : ∃ fa fd, L2.Fun K "is_rows" "is_rows" (topS 10) fa fd ∧ Binds K fd ["table"] [] ∧ mg "is_rows" = some (.ref fa)
  f_t_need_table : ∃ fa fd, L2.Fun K "need_table" "need_table" (topS 11) fa fd ∧ Binds K fd ["thing"] [] ∧ mg "need_table" = some (.ref fa)
  f_t_level : ∃ fa fd, L2.Fun K "level" "level" (topS 30) fa fd ∧ Binds K fd ["table", "least"] [] ∧ mg "level" = some (.ref fa)
  f_t_fewest_sets : ∃ fa fd, L2.Fun K "fewest_sets" "fewest_sets" (topS 31) fa fd ∧ Binds K fd ["table"] [] ∧ mg "fewest_sets" = some (.ref fa)
  f_t_need_rows : ∃ fa fd, L2.Fun K "need_rows" "need_rows" (topS 12) fa fd ∧ Binds K fd ["thing"] [] ∧ mg "need_rows" = some (.ref fa)
  f_t_many_by : ∃ fa fd, L2.Fun K "many_by" "many_by" (topS 16) fa fd ∧ Binds K fd ["table", "company"] [] ∧ mg "many_by" = some (.ref fa)
  f_t_shown_at_once : ∃ fa fd, L2.Fun K "shown_at_once" "shown_at_once" (topS 32) fa fd ∧ Binds K fd ["table", "paper"] [] ∧ mg "shown_at_once" = some (.ref fa)
  f_t_at_once : ∃ fa fd, L2.Fun K "at_once" "at_once" (topS 33) fa fd ∧ Binds K fd ["table"] [] ∧ mg "at_once" = some (.ref fa)
  f_l_level : ∃ fa fd, L2.Fun K "_law_level" "_law_level" (topS 39) fa fd ∧ Binds K fd ["_law_table_here", "_law_least"] [] ∧ mg "_law_level" = some (.ref fa)
  f_l_moved : ∃ fa fd, L2.Fun K "_law_moved" "_law_moved" (topS 40) fa fd ∧ Binds K fd ["_law_some", "_law_by"] [] ∧ mg "_law_moved" = some (.ref fa)
  f_l_many : ∃ fa fd, L2.Fun K "_law_many" "_law_many" (topS 41) fa fd ∧ Binds K fd ["_law_table_here", "_law_company"] [] ∧ mg "_law_many" = some (.ref fa)
  f_l_right : ∃ fa fd, L2.Fun K "_law_right" "_law_right" (topS 42) fa fd ∧ Binds K fd ["_law_jar_here", "_law_table_here"] [] ∧ mg "_law_right" = some (.ref fa)
  f_law : ∃ fa fd, L2.Fun K "law" "law" (topS 43) fa fd ∧ Binds K fd ["_law_script"] [] ∧ mg "law" = some (.ref fa)
set_option maxHeartbeats 0
section
variable {P : Program} {w : World} {K : PySem.W.Frag} {mg : Str → Option Value} {base : Heap}
def d_l_jar : List D → Res (List D)
  | [v_0, v_1] =>
      ((op (lenD [v_0]) fun t2 =>
      op (ltD v_1 t2) fun b3 =>
      if b3 = true then (op (ixD v_0 v_1) fun t4 =>
      .ok t4) else (.ok (D.int 0)) : Res (D))).bind fun a1 =>
      op (powD (D.int 10) (D.int 18)) fun t5 =>
      op (subD a1 t5) fun t6 =>
      op (max2D [(D.int 0), t6]) fun t7 =>
      op (powD (D.int 10) (D.int 35)) fun t8 =>
      op (addD t8 (D.int 69)) fun t9 =>
      op (modD a1 t9) fun t10 =>
      op (mulD t10 (D.int 128)) fun t11 =>
      op (addD t11 v_1) fun t12 =>
      .ok [t7, t12, (D.int 0)]  | _ => .bad
abbrev n_l_jar : List Str := ["_law_script", "_law_k", "_law_cell"]
theorem sc_l_jar : FnScope n_l_jar ["_law_script", "_law_k"] (defScope (topS 35)) := ⟨rfl, rfl, rfl, by decide +kernel, rfl, by decide +kernel, by decide +kernel⟩
theorem ok_l_jar (h : Txt K mg) : Df P w K mg base 1 "_law_jar" [.b, .b] d_l_jar (fun a => .lst a) (fun a => []) true := by
  obtain ⟨fa, fd, F, B, M⟩ := h.f_l_jar
  refine ⟨fa, fd, _, fn_D (k := 0) F sc_l_jar rfl 0 (fun _ => rfl) rfl (fun X en cdv A outer s H E ds hX hr hn hL hp hl => ?_), M, F.kp, B⟩
  have hnd := (sc_l_jar).nd
  subst hX
  obtain ⟨v_0, v_1, rfl⟩ := len2 hl
  unfold d_l_jar
  exact (jss_cons (js_set 2 hnd (je_join (fun (a1 : D) => .fr a1) (fun a1 => [.bw v_0, .bw v_1, .un]) (je_if (jt_cmp cmp_ltD rfl (je_bw 1 rfl (je_callB c_len h.n_len (ja_cons (je_bw 0 rfl (ja_nil (⟨_, _, rfl, rfl, fun t2 _ =>
      ⟨_, _, _, rfl, rfl, rfl, fun b3 =>
      ⟨_, _, rfl, je_ix ix_D (fun _ _ => rfl) (je_bw 0 rfl (je_bw 1 rfl (⟨_, _, _, rfl, rfl, rfl, fun t4 _ =>
      ⟨_, rfl, rfl, rfl⟩⟩))), je_int (⟨_, rfl, rfl, rfl⟩)⟩⟩⟩)))))))) (fun a1 =>
      ⟨[.bw v_0, .bw v_1, .fr a1], rfl, rfl, rfl,
      jss_one (js_ret (je_lst (ja_cons (je_callB (c_max2 rfl) h.n_max (ja_cons (je_int (ja_cons (je_bin op_subD (je_fr 2 rfl (je_bin op_powD (je_int (je_int (⟨_, _, _, rfl, rfl, rfl, fun t5 _ =>
      ⟨_, _, _, rfl, rfl, rfl, fun t6 _ =>
      ja_nil (⟨_, _, rfl, rfl, fun t7 _ =>
      ja_cons (je_bin op_addD (je_bin op_mulD (je_bin op_modD (je_fr 2 rfl (je_bin op_addD (je_bin op_powD (je_int (je_int (⟨_, _, _, rfl, rfl, rfl, fun t8 _ =>
      je_int (⟨_, _, _, rfl, rfl, rfl, fun t9 _ =>
      ⟨_, _, _, rfl, rfl, rfl, fun t10 _ =>
      je_int (⟨_, _, _, rfl, rfl, rfl, fun t11 _ =>
      je_bw 1 rfl (⟨_, _, _, rfl, rfl, rfl, fun t12 _ =>
      ja_cons (je_int (ja_nil (⟨_, rfl, rfl, ⟨_, rfl, rfl, oa_n⟩⟩)))⟩)⟩)⟩⟩)⟩)))))))))⟩)⟩⟩)))))))))))))⟩))))

def d_l_pour : List D → Res (D × List D)
  | [.lst v_0, v_1] =>
      op (ixD (D.lst v_0) (D.int 0)) fun t1 =>
      op (gtD t1 (D.int 0)) fun b2 =>
      if b2 = true then (op (ixD (D.lst v_0) (D.int 0)) fun t3 =>
      op (modD t3 v_1) fun t4 =>
      op (ixD (D.lst v_0) (D.int 0)) fun t5 =>
      op (fdivD t5 v_1) fun t6 =>
      op (setL v_0 (D.int 0) t6) fun r7 =>
      .ok (t4, r7)) else (op (ixD (D.lst v_0) (D.int 2)) fun t8 =>
      op (addD t8 (D.int 1)) fun t9 =>
      op (setL v_0 (D.int 2) t9) fun r10 =>
      op (ixD (D.lst r10) (D.int 1)) fun t11 =>
      op (ixD (D.lst r10) (D.int 2)) fun t12 =>
      op (mulD (D.int 32452843) t12) fun t13 =>
      op (addD t11 t13) fun t14 =>
      op (powD t14 (D.int 3)) fun t15 =>
      op (powD (D.int 10) (D.int 37)) fun t16 =>
      op (addD t16 (D.int 43)) fun t17 =>
      op (modD t15 t17) fun t18 =>
      op (ixD (D.lst r10) (D.int 2)) fun t19 =>
      op (mulD (D.int 49979687) t19) fun t20 =>
      op (addD t18 t20) fun t21 =>
      op (powD t21 (D.int 5)) fun t22 =>
      op (powD (D.int 10) (D.int 39)) fun t23 =>
      op (addD t23 (D.int 3)) fun t24 =>
      op (modD t22 t24) fun t25 =>
      op (fdivD t25 (D.int 131071)) fun t26 =>
      op (modD t26 v_1) fun t27 =>
      .ok (t27, r10))  | _ => .bad
abbrev n_l_pour : List Str := ["_law_jar_here", "_law_many_here", "_law_mixed", "_law_found"]
theorem sc_l_pour : FnScope n_l_pour ["_law_jar_here", "_law_many_here"] (defScope (topS 36)) := ⟨rfl, rfl, rfl, by decide +kernel, rfl, by decide +kernel, by decide +kernel⟩
theorem ok_l_pour (h : Txt K mg) : Df P w K mg base 1 "_law_pour" [.m, .b] d_l_pour (fun a => a.1) (fun a => [.lst a.2]) false := by
  obtain ⟨fa, fd, F, B, M⟩ := h.f_l_pour
  refine ⟨fa, fd, _, fn_D (k := 0) F sc_l_pour rfl 1 (fun _ => rfl) rfl (fun X en cdv A outer s H E ds hX hr hn hL hp hl => ?_), M, F.kp, B⟩
  have hnd := (sc_l_pour).nd
  subst hX
  obtain ⟨v_0, v_1, rfl⟩ := len2 hl
  cases v_0 <;> try exact jss_never
  rename_i v_0
  unfold d_l_pour
  exact (jss_cons (js_if (jt_cmp cmp_gtD rfl (je_ix ix_D (fun _ _ => rfl) (je_bo 0 rfl (.inr ⟨_, _, rfl⟩) (je_int (⟨_, _, _, rfl, rfl, rfl, fun t1 _ =>
      je_int (⟨_, _, _, rfl, rfl, rfl, fun b2 =>
      ⟨_, _, rfl, jss_cons (js_set 3 hnd (je_bin op_modD (je_ix ix_D (fun _ _ => rfl) (je_bo 0 rfl (.inr ⟨_, _, rfl⟩) (je_int (⟨_, _, _, rfl, rfl, rfl, fun t3 _ =>
      je_bw 1 rfl (⟨_, _, _, rfl, rfl, rfl, fun t4 _ =>
      ⟨[.mp 0 (.lst v_0), .bw v_1, .un, .fr t4], rfl, rfl, rfl,
      jss_cons (js_setL 0 (je_bin op_fdivD (je_ix ix_D (fun _ _ => rfl) (je_bo 0 rfl (.inr ⟨_, _, rfl⟩) (je_int (⟨_, _, _, rfl, rfl, rfl, fun t5 _ =>
      je_bw 1 rfl (⟨_, _, _, rfl, rfl, rfl, fun t6 _ =>
      ⟨_, _, rfl, rfl, rfl, je_int (⟨_, _, _, _, fun r7 => [.mp 0 (.lst r7), .bw v_1, .un, .fr t4], rfl, rfl, rfl, rfl, rfl, fun _ => rfl, fun r7 =>
      jss_one (js_ret (je_fr 3 rfl (⟨_, rfl, rfl, (oa_c 0 rfl oa_n)⟩)))⟩)⟩⟩)⟩))))))⟩⟩)⟩)))))), jss_nil (jss_cons (js_setL 0 (je_bin op_addD (je_ix ix_D (fun _ _ => rfl) (je_bo 0 rfl (.inr ⟨_, _, rfl⟩) (je_int (⟨_, _, _, rfl, rfl, rfl, fun t8 _ =>
      je_int (⟨_, _, _, rfl, rfl, rfl, fun t9 _ =>
      ⟨_, _, rfl, rfl, rfl, je_int (⟨_, _, _, _, fun r10 => [.mp 0 (.lst r10), .bw v_1, .un, .un], rfl, rfl, rfl, rfl, rfl, fun _ => rfl, fun r10 =>
      jss_cons (js_set 2 hnd (je_bin op_modD (je_bin op_powD (je_bin op_addD (je_ix ix_D (fun _ _ => rfl) (je_bo 0 rfl (.inr ⟨_, _, rfl⟩) (je_int (⟨_, _, _, rfl, rfl, rfl, fun t11 _ =>
      je_bin op_mulD (je_int (je_ix ix_D (fun _ _ => rfl) (je_bo 0 rfl (.inr ⟨_, _, rfl⟩) (je_int (⟨_, _, _, rfl, rfl, rfl, fun t12 _ =>
      ⟨_, _, _, rfl, rfl, rfl, fun t13 _ =>
      ⟨_, _, _, rfl, rfl, rfl, fun t14 _ =>
      je_int (⟨_, _, _, rfl, rfl, rfl, fun t15 _ =>
      je_bin op_addD (je_bin op_powD (je_int (je_int (⟨_, _, _, rfl, rfl, rfl, fun t16 _ =>
      je_int (⟨_, _, _, rfl, rfl, rfl, fun t17 _ =>
      ⟨_, _, _, rfl, rfl, rfl, fun t18 _ =>
      ⟨[.mp 0 (.lst r10), .bw v_1, .fr t18, .un], rfl, rfl, rfl,
      jss_cons (js_set 2 hnd (je_bin op_modD (je_bin op_powD (je_bin op_addD (je_fr 2 rfl (je_bin op_mulD (je_int (je_ix ix_D (fun _ _ => rfl) (je_bo 0 rfl (.inr ⟨_, _, rfl⟩) (je_int (⟨_, _, _, rfl, rfl, rfl, fun t19 _ =>
      ⟨_, _, _, rfl, rfl, rfl, fun t20 _ =>
      ⟨_, _, _, rfl, rfl, rfl, fun t21 _ =>
      je_int (⟨_, _, _, rfl, rfl, rfl, fun t22 _ =>
      je_bin op_addD (je_bin op_powD (je_int (je_int (⟨_, _, _, rfl, rfl, rfl, fun t23 _ =>
      je_int (⟨_, _, _, rfl, rfl, rfl, fun t24 _ =>
      ⟨_, _, _, rfl, rfl, rfl, fun t25 _ =>
      ⟨[.mp 0 (.lst r10), .bw v_1, .fr t25, .un], rfl, rfl, rfl,
      jss_one (js_ret (je_bin op_modD (je_bin op_fdivD (je_fr 2 rfl (je_int (⟨_, _, _, rfl, rfl, rfl, fun t26 _ =>
      je_bw 1 rfl (⟨_, _, _, rfl, rfl, rfl, fun t27 _ =>
      ⟨_, rfl, rfl, (oa_c 0 rfl oa_n)⟩⟩)⟩))))))⟩⟩⟩)⟩))))⟩)⟩⟩⟩)))))))))))⟩⟩⟩)⟩))))⟩)⟩⟩⟩)))))⟩))))))))⟩)⟩⟩)⟩)))))))⟩⟩)⟩)))))))

def d_l_number : List D → Res (D × List D)
  | [.lst v_0, v_1] =>
      (d_l_pour [(D.lst v_0), (D.int 3)]).bind fun a1 =>
      (d_l_pour [(D.lst a1.2), (D.int 9)]).bind fun a2 =>
      (d_l_pour [(D.lst a2.2), v_1]).bind fun a3 =>
      (d_l_pour [(D.lst a3.2), (D.int 3)]).bind fun a4 =>
      op (ixD (D.lst [a1.1, a2.1, a3.1]) a4.1) fun t5 =>
      .ok (t5, a4.2)  | _ => .bad
abbrev n_l_number : List Str := ["_law_jar_here", "_law_top"]
theorem sc_l_number : FnScope n_l_number ["_law_jar_here", "_law_top"] (defScope (topS 37)) := ⟨rfl, rfl, rfl, by decide +kernel, rfl, by decide +kernel, by decide +kernel⟩
theorem ok_l_number (h : Txt K mg) : Df P w K mg base 2 "_law_number" [.m, .b] d_l_number (fun a => a.1) (fun a => [.lst a.2]) false := by
  obtain ⟨fa, fd, F, B, M⟩ := h.f_l_number
  refine ⟨fa, fd, _, fn_D (k := 1) F sc_l_number rfl 1 (fun _ => rfl) rfl (fun X en cdv A outer s H E ds hX hr hn hL hp hl => ?_), M, F.kp, B⟩
  have hnd := (sc_l_number).nd
  subst hX
  obtain ⟨v_0, v_1, rfl⟩ := len2 hl
  cases v_0 <;> try exact jss_never
  rename_i v_0
  unfold d_l_number
  exact (jss_one (js_ret (je_ix ix_D (fun _ _ => rfl) (je_lst (ja_cons (je_call (ok_l_pour h) (hr.mono (by decide)) hL (ja_cons (je_bo 0 rfl (.inr ⟨_, _, rfl⟩) (ja_cons (je_int (ja_nil (⟨_, [0], _, fun a1 => [.mp 0 (.lst a1.2), .bw v_1], rfl, rfl, nd1, rfl, fun _ => rfl, fun a1 _ =>
      ja_cons (je_call (ok_l_pour h) (hr.mono (by decide)) hL (ja_cons (je_bo 0 rfl (.inr ⟨_, _, rfl⟩) (ja_cons (je_int (ja_nil (⟨_, [0], _, fun a2 => [.mp 0 (.lst a2.2), .bw v_1], rfl, rfl, nd1, rfl, fun _ => rfl, fun a2 _ =>
      ja_cons (je_call (ok_l_pour h) (hr.mono (by decide)) hL (ja_cons (je_bo 0 rfl (.inr ⟨_, _, rfl⟩) (ja_cons (je_bw 1 rfl (ja_nil (⟨_, [0], _, fun a3 => [.mp 0 (.lst a3.2), .bw v_1], rfl, rfl, nd1, rfl, fun _ => rfl, fun a3 _ =>
      ja_nil (⟨_, rfl, rfl, je_call (ok_l_pour h) (hr.mono (by decide)) hL (ja_cons (je_bo 0 rfl (.inr ⟨_, _, rfl⟩) (ja_cons (je_int (ja_nil (⟨_, [0], _, fun a4 => [.mp 0 (.lst a4.2), .bw v_1], rfl, rfl, nd1, rfl, fun _ => rfl, fun a4 _ =>
      ⟨_, _, _, rfl, rfl, rfl, fun t5 _ =>
      ⟨_, rfl, rfl, (oa_c 0 rfl oa_n)⟩⟩⟩))))))⟩)⟩)))))))⟩)))))))⟩))))))))))))

def d_l_table : List D → Res (D × List D)
  | [.lst v_0, v_1, v_2] =>
      op (addD v_2 (D.int 1)) fun t1 =>
      (d_l_number [(D.lst v_0), t1]).bind fun a2 =>
      op (min2D [v_2, a2.1]) fun t3 =>
      (d_l_pour [(D.lst a2.2), (D.int 4)]).bind fun a5 =>
      op (ixD (D.lst [(D.int 9), (D.int 9), (D.int 9), (D.int 60)]) a5.1) fun t6 =>
      (d_l_pour [(D.lst a5.2), t6]).bind fun a7 =>
      op (rngD [a7.1]) fun ds4 =>
      (forS ds4 ((a7.2, [(D.tup [(D.int 0), t3])]) : List D × List D) fun d10 s9 =>
      op (negD (D.int 1)) fun t11 =>
      op (ixD (D.lst s9.2) t11) fun t12 =>
      op (un2 t12) fun p13 =>
      op (subD p13.2 (D.int 1)) fun t14 =>
      ((((op (eqD p13.2 (D.int 0)) fun b23 =>
      if b23 = true then (.ok (true, s9.1)) else (((op (ltD p13.2 v_2) fun b25 =>
      if b25 = true then ((d_l_pour [(D.lst s9.1), (D.int 2)]).bind fun a26 =>
      op (eqD a26.1 (D.int 0)) fun b27 =>
      .ok (b27, a26.2)) else (.ok (false, s9.1)) : Res (Bool × List D))).bind fun a24 =>
      .ok (a24.1, a24.2)) : Res (Bool × List D))).bind fun a22 =>
      if a22.1 = true then (op (addD p13.2 (D.int 1)) fun t28 =>
      (d_l_number [(D.lst a22.2), v_2]).bind fun a29 =>
      op (addD t28 a29.1) fun t30 =>
      op (min2D [v_2, t30]) fun t31 =>
      .ok (a29.2, t31)) else (.ok (a22.2, t14)) : Res (List D × D))).bind fun s15 =>
      op (addD p13.1 (D.int 1)) fun t16 =>
      (d_l_pour [(D.lst s15.1), (D.int 2)]).bind fun a17 =>
      (d_l_number [(D.lst a17.2), v_1]).bind fun a18 =>
      op (mulD a17.1 a18.1) fun t19 =>
      op (addD t16 t19) fun t20 =>
      op (appL s9.2 [(D.tup [t20, s15.2])]) fun a21 =>
      .ok (a18.2, a21.2)).bind fun s32 =>
      .ok ((D.lst s32.2), s32.1)  | _ => .bad
abbrev n_l_table : List Str := ["_law_jar_here", "_law_top", "_law_most", "_law_found", "_law_turn", "_law_spot", "_law_many_here", "_law_later"]
theorem sc_l_table : FnScope n_l_table ["_law_jar_here", "_law_top", "_law_most"] (defScope (topS 38)) := ⟨rfl, rfl, rfl, by decide +kernel, rfl, by decide +kernel, by decide +kernel⟩
theorem ok_l_table (h : Txt K mg) : Df P w K mg base 3 "_law_table" [.m, .b, .b] d_l_table (fun a => a.1) (fun a => [.lst a.2]) false := by
  obtain ⟨fa, fd, F, B, M⟩ := h.f_l_table
  refine ⟨fa, fd, _, fn_D (k := 2) F sc_l_table rfl 1 (fun _ => rfl) rfl (fun X en cdv A outer s H E ds hX hr hn hL hp hl => ?_), M, F.kp, B⟩
  have hnd := (sc_l_table).nd
  subst hX
  obtain ⟨v_0, v_1, v_2, rfl⟩ := len3 hl
  cases v_0 <;> try exact jss_never
  rename_i v_0
  unfold d_l_table
  exact (jss_cons (js_set 3 hnd (je_lst (ja_cons (je_tup (ja_cons (je_int (ja_cons (je_callB (c_min2 rfl) h.n_min (ja_cons (je_bw 2 rfl (ja_cons (je_call (ok_l_number h) (hr.mono (by decide)) hL (ja_cons (je_bo 0 rfl (.inr ⟨_, _, rfl⟩) (ja_cons (je_bin op_addD (je_bw 2 rfl (je_int (⟨_, _, _, rfl, rfl, rfl, fun t1 _ =>
      ja_nil (⟨_, [0], _, fun a2 => [.mp 0 (.lst a2.2), .bw v_1, .bw v_2, .un, .un, .un, .un, .un], rfl, rfl, nd1, rfl, fun _ => rfl, fun a2 _ =>
      ja_nil (⟨_, _, rfl, rfl, fun t3 _ =>
      ja_nil (⟨_, rfl, rfl, ja_nil (⟨_, rfl, rfl, ⟨[.mp 0 (.lst a2.2), .bw v_1, .bw v_2, .mu (.lst [(D.tup [(D.int 0), t3])]), .un, .un, .un, .un], rfl, rfl, rfl,
      jss_cons (js_forS hp rfl (ji_range1 h.n_range (je_call (ok_l_pour h) (hr.mono (by decide)) hL (ja_cons (je_bo 0 rfl (.inr ⟨_, _, rfl⟩) (ja_cons (je_ix ix_D (fun _ _ => rfl) (je_lst (ja_cons (je_int (ja_cons (je_int (ja_cons (je_int (ja_cons (je_int (ja_nil (⟨_, rfl, rfl, je_call (ok_l_pour h) (hr.mono (by decide)) hL (ja_cons (je_bo 0 rfl (.inr ⟨_, _, rfl⟩) (ja_cons (je_int (ja_nil (⟨_, [0], _, fun a5 => [.mp 0 (.lst a5.2), .bw v_1, .bw v_2, .mu (.lst [(D.tup [(D.int 0), t3])]), .un, .un, .un, .un], rfl, rfl, nd1, rfl, fun _ => rfl, fun a5 _ =>
      ⟨_, _, _, rfl, rfl, rfl, fun t6 _ =>
      ja_nil (⟨_, [0], _, fun a7 => [.mp 0 (.lst a7.2), .bw v_1, .bw v_2, .mu (.lst [(D.tup [(D.int 0), t3])]), .un, .un, .un, .un], rfl, rfl, nd1, rfl, fun _ => rfl, fun a7 _ =>
      ⟨_, _, rfl, rfl, fun ds4 =>
      ⟨_, _, _, (fun (s9 : List D × List D) => [.mp 0 (.lst s9.1), .bw v_1, .bw v_2, .mu (.lst s9.2), .un, .un, .un, .un]), rfl, (le_s (le_s (le_s (le_s (le_s (le_s (le_s (le_s (le_n))))))))), fun _ he8 d10 s9 => ⟨[4], jg_name 4 [.mp 0 (.lst s9.1), .bw v_1, .bw v_2, .mu (.lst s9.2), .fr d10, .un, .un, .un] hnd (jss_cons (js_asg (je_ix ix_D (fun _ _ => rfl) (je_bo 3 rfl (.inl ⟨_, rfl⟩) (je_un un_negD (je_int (⟨_, _, rfl, rfl, fun t11 _ =>
      ⟨_, _, _, rfl, rfl, rfl, fun t12 _ =>
      ⟨_, [5, 6], rfl, jg_tup2 rfl ⟨_, rfl, fun p13 =>
      jgs_name 5 [.mp 0 (.lst s9.1), .bw v_1, .bw v_2, .mu (.lst s9.2), .fr d10, .fr p13.1, .un, .un] hnd (jgs_name 6 [.mp 0 (.lst s9.1), .bw v_1, .bw v_2, .mu (.lst s9.2), .fr d10, .fr p13.1, .fr p13.2, .un] hnd (jgs_nil (jss_cons (js_set 7 hnd (je_bin op_subD (je_fr 6 rfl (je_int (⟨_, _, _, rfl, rfl, rfl, fun t14 _ =>
      ⟨[.mp 0 (.lst s9.1), .bw v_1, .bw v_2, .mu (.lst s9.2), .fr d10, .fr p13.1, .fr p13.2, .fr t14], rfl, rfl, rfl,
      jss_cons (js_joinS (fun (s15 : List D × D) => [.mp 0 (.lst s15.1), .bw v_1, .bw v_2, .mu (.lst s9.2), .fr d10, .fr p13.1, .fr p13.2, .fr s15.2]) (js_if (jt_join (fun (a22 : Bool × List D) => a22.1) (fun a22 => [.mp 0 (.lst a22.2), .bw v_1, .bw v_2, .mu (.lst s9.2), .fr d10, .fr p13.1, .fr p13.2, .fr t14]) (jt_w (jw_or (jt_cmp (cmp_eqD hr.hu) rfl (je_fr 6 rfl (je_int (⟨_, _, _, rfl, rfl, rfl, fun b23 =>
      ⟨_, _, rfl, ⟨_, rfl, rfl, rfl⟩, jw_or1 (jt_join (fun (a24 : Bool × List D) => a24.1) (fun a24 => [.mp 0 (.lst a24.2), .bw v_1, .bw v_2, .mu (.lst s9.2), .fr d10, .fr p13.1, .fr p13.2, .fr t14]) (jt_w (jw_and (jt_cmp cmp_ltD rfl (je_fr 6 rfl (je_bw 2 rfl (⟨_, _, _, rfl, rfl, rfl, fun b25 =>
      ⟨_, _, rfl, jw_and1 (jt_cmp (cmp_eqD hr.hu) rfl (je_call (ok_l_pour h) (hr.mono (by decide)) (he8.lk hL) (ja_cons (je_bo 0 rfl (.inr ⟨_, _, rfl⟩) (ja_cons (je_int (ja_nil (⟨_, [0], _, fun a26 => [.mp 0 (.lst a26.2), .bw v_1, .bw v_2, .mu (.lst s9.2), .fr d10, .fr p13.1, .fr p13.2, .fr t14], rfl, rfl, nd1, rfl, fun _ => rfl, fun a26 _ =>
      je_int (⟨_, _, _, rfl, rfl, rfl, fun b27 =>
      ⟨_, rfl, rfl, rfl⟩⟩)⟩)))))))), ⟨_, rfl, rfl, rfl⟩⟩⟩)))))) (fun a24 =>
      ⟨_, rfl, rfl, rfl⟩))⟩⟩)))))) (fun a22 =>
      ⟨_, _, rfl, jss_one (js_set 7 hnd (je_callB (c_min2 rfl) h.n_min (ja_cons (je_bw 2 rfl (ja_cons (je_bin op_addD (je_bin op_addD (je_fr 6 rfl (je_int (⟨_, _, _, rfl, rfl, rfl, fun t28 _ =>
      je_call (ok_l_number h) (hr.mono (by decide)) (he8.lk hL) (ja_cons (je_bo 0 rfl (.inr ⟨_, _, rfl⟩) (ja_cons (je_bw 2 rfl (ja_nil (⟨_, [0], _, fun a29 => [.mp 0 (.lst a29.2), .bw v_1, .bw v_2, .mu (.lst s9.2), .fr d10, .fr p13.1, .fr p13.2, .fr t14], rfl, rfl, nd1, rfl, fun _ => rfl, fun a29 _ =>
      ⟨_, _, _, rfl, rfl, rfl, fun t30 _ =>
      ja_nil (⟨_, _, rfl, rfl, fun t31 _ =>
      ⟨[.mp 0 (.lst a29.2), .bw v_1, .bw v_2, .mu (.lst s9.2), .fr d10, .fr p13.1, .fr p13.2, .fr t31], rfl, rfl, rfl,
      ⟨_, rfl, (le_s (le_s (le_s (le_s (le_s (le_s (le_s (le_s (le_n)))))))))⟩⟩⟩)⟩⟩))))))⟩)))))))))), jss_nil (⟨_, rfl, (le_s (le_s (le_s (le_s (le_s (le_s (le_s (le_s (le_n)))))))))⟩)⟩))) (fun s15 =>
      jss_one (js_expr (je_mutL 3 g_app PySem.F.slot_list_append PySem.F.type_list_append m_append rfl rfl rfl (ja_cons (je_tup (ja_cons (je_bin op_addD (je_bin op_addD (je_fr 5 rfl (je_int (⟨_, _, _, rfl, rfl, rfl, fun t16 _ =>
      je_bin op_mulD (je_call (ok_l_pour h) (hr.mono (by decide)) (he8.lk hL) (ja_cons (je_bo 0 rfl (.inr ⟨_, _, rfl⟩) (ja_cons (je_int (ja_nil (⟨_, [0], _, fun a17 => [.mp 0 (.lst a17.2), .bw v_1, .bw v_2, .mu (.lst s9.2), .fr d10, .fr p13.1, .fr p13.2, .fr s15.2], rfl, rfl, nd1, rfl, fun _ => rfl, fun a17 _ =>
      je_call (ok_l_number h) (hr.mono (by decide)) (he8.lk hL) (ja_cons (je_bo 0 rfl (.inr ⟨_, _, rfl⟩) (ja_cons (je_bw 1 rfl (ja_nil (⟨_, [0], _, fun a18 => [.mp 0 (.lst a18.2), .bw v_1, .bw v_2, .mu (.lst s9.2), .fr d10, .fr p13.1, .fr p13.2, .fr s15.2], rfl, rfl, nd1, rfl, fun _ => rfl, fun a18 _ =>
      ⟨_, _, _, rfl, rfl, rfl, fun t19 _ =>
      ⟨_, _, _, rfl, rfl, rfl, fun t20 _ =>
      ja_cons (je_fr 7 rfl (ja_nil (⟨_, rfl, rfl, ja_nil (⟨_, _, _, _, fun a21 => [.mp 0 (.lst a18.2), .bw v_1, .bw v_2, .mu (.lst a21.2), .fr d10, .fr p13.1, .fr p13.2, .fr s15.2], rfl, rfl, rfl, rfl, rfl, fun _ => rfl, fun a21 =>
      ⟨_, rfl, (le_s (le_s (le_s (le_s (le_u (le_u (le_u (le_u (le_n)))))))))⟩⟩)⟩)))⟩⟩⟩))))))⟩)))))))⟩))))))))))))⟩⟩))))))))⟩⟩⟩⟩)))))))⟩, fun s32 =>
      jss_one (js_ret (je_fzv' 3 [.mp 0 (.lst s32.1), .bw v_1, .bw v_2, .fr (D.lst s32.2), .un, .un, .un, .un] rfl rfl (⟨_, rfl, rfl, (oa_c 0 rfl oa_n)⟩)))⟩⟩⟩)⟩⟩))))))⟩))))))))))))))))))⟩⟩)⟩)⟩)⟩)⟩))))))))))))))))))))

def d_t_is_number : List D → Res (D)
  | [v_0] =>
      ((op (asB (D.bl (isInt v_0))) fun b2 => if b2 = true then (op (asB (D.bl (isBool v_0))) fun b3 =>
      op (asB (D.bl (!b3))) fun b4 => if b4 = true then (op (geD v_0 (D.int 0)) fun b5 =>
      .ok (D.bl b5)) else (.ok (D.bl false))) else (.ok (D.bl false)) : Res (D))).bind fun a1 =>
      .ok a1  | _ => .bad
abbrev n_t_is_number : List Str := ["thing"]
theorem sc_t_is_number : FnScope n_t_is_number ["thing"] (defScope (topS 6)) := ⟨rfl, rfl, rfl, by decide +kernel, rfl, by decide +kernel, by decide +kernel⟩
theorem ok_t_is_number (h : Txt K mg) : Df P w K mg base 1 "is_number" [.b] d_t_is_number (fun a => a) (fun a => []) false := by
  obtain ⟨fa, fd, F, B, M⟩ := h.f_t_is_number
  refine ⟨fa, fd, _, fn_D (k := 0) F sc_t_is_number rfl 0 (fun _ => rfl) rfl (fun X en cdv A outer s H E ds hX hr hn hL hp hl => ?_), M, F.kp, B⟩
  have hnd := (sc_t_is_number).nd
  subst hX
  obtain ⟨v_0, rfl⟩ := len1 hl
  unfold d_t_is_number
  exact (jss_one (js_ret (je_join (fun (a1 : D) => .fr a1) (fun a1 => [.bw v_0]) (je_and (je_isi kit_int h.n_isinstance h.n_int (je_bw 0 rfl (⟨_, rfl, ⟨_, _, rfl, rfl, fun b2 => ⟨_, _, rfl, je_and (je_not (je_isi kit_bool h.n_isinstance h.n_bool (je_bw 0 rfl (⟨_, rfl, ⟨_, _, rfl, rfl, fun b3 =>
      ⟨_, _, rfl, rfl, fun b4 => ⟨_, _, rfl, je_one (je_cmpB cmp_geD rfl (je_bw 0 rfl (je_int (⟨_, _, _, rfl, rfl, rfl, fun b5 =>
      ⟨_, rfl, rfl, rfl⟩⟩)))), ⟨_, rfl, rfl, rfl⟩⟩⟩⟩⟩)))), ⟨_, rfl, rfl, rfl⟩⟩⟩⟩)))) (fun a1 =>
      ⟨_, rfl, rfl, oa_n⟩))))

def d_t_is_stretch : List D → Res (D)
  | [v_0] =>
      ((if (!(isTup v_0)) = true then (.ok true) else (op (lenD [v_0]) fun t2 =>
      op (neD t2 (D.int 2)) fun b3 =>
      if b3 = true then (.ok true) else (op (ixD v_0 (D.int 0)) fun t4 =>
      (d_t_is_number [t4]).bind fun a5 =>
      op (truD a5) fun b6 =>
      .ok (!b6))) : Res (Bool))).bind fun a1 =>
      if a1 = true then (.ok (D.bl false)) else (((op (ixD v_0 (D.int 1)) fun t8 =>
      op (isND t8 D.non) fun b9 =>
      op (asB (D.bl b9)) fun b10 => if b10 = true then (.ok (D.bl true)) else (((op (ixD v_0 (D.int 1)) fun t12 =>
      (d_t_is_number [t12]).bind fun a13 =>
      op (asB a13) fun b14 => if b14 = true then (op (ixD v_0 (D.int 1)) fun t15 =>
      op (ixD v_0 (D.int 0)) fun t16 =>
      op (geD t15 t16) fun b17 =>
      .ok (D.bl b17)) else (.ok (D.bl false)) : Res (D))).bind fun a11 =>
      .ok a11) : Res (D))).bind fun a7 =>
      .ok a7)  | _ => .bad
abbrev n_t_is_stretch : List Str := ["thing"]
theorem sc_t_is_stretch : FnScope n_t_is_stretch ["thing"] (defScope (topS 13)) := ⟨rfl, rfl, rfl, by decide +kernel, rfl, by decide +kernel, by decide +kernel⟩
theorem ok_t_is_stretch (h : Txt K mg) : Df P w K mg base 2 "is_stretch" [.b] d_t_is_stretch (fun a => a) (fun a => []) false := by
  obtain ⟨fa, fd, F, B, M⟩ := h.f_t_is_stretch
  refine ⟨fa, fd, _, fn_D (k := 1) F sc_t_is_stretch rfl 0 (fun _ => rfl) rfl (fun X en cdv A outer s H E ds hX hr hn hL hp hl => ?_), M, F.kp, B⟩
  have hnd := (sc_t_is_stretch).nd
  subst hX
  obtain ⟨v_0, rfl⟩ := len1 hl
  unfold d_t_is_stretch
  exact (jss_cons (js_if (jt_join (fun (a1 : Bool) => a1) (fun a1 => [.bw v_0]) (jt_w (jw_or (jt_not (jt_bl (je_isi kit_tup h.n_isinstance h.n_tuple (je_bw 0 rfl (⟨_, rfl, ⟨_, rfl, ⟨_, _, rfl, ⟨_, rfl, rfl, rfl⟩, jw_or (jt_cmp (cmp_neD hr.hu) rfl (je_callB c_len h.n_len (ja_cons (je_bw 0 rfl (ja_nil (⟨_, _, rfl, rfl, fun t2 _ =>
      je_int (⟨_, _, _, rfl, rfl, rfl, fun b3 =>
      ⟨_, _, rfl, ⟨_, rfl, rfl, rfl⟩, jw_or1 (jt_not (jt_tru (je_call (ok_t_is_number h) (hr.mono (by decide)) hL (ja_cons (je_ix ix_D (fun _ _ => rfl) (je_bw 0 rfl (je_int (⟨_, _, _, rfl, rfl, rfl, fun t4 _ =>
      ja_nil (⟨_, [], _, fun a5 => [.bw v_0], rfl, rfl, List.nodup_nil, rfl, fun _ => rfl, fun a5 _ =>
      ⟨_, _, rfl, rfl, fun b6 =>
      ⟨_, rfl, rfl, rfl⟩⟩⟩)⟩))))))))⟩⟩)⟩))))))⟩⟩⟩))))))) (fun a1 =>
      ⟨_, _, rfl, jss_one (js_ret (je_bl (⟨_, rfl, rfl, oa_n⟩))), jss_nil (jss_one (js_ret (je_join (fun (a7 : D) => .fr a7) (fun a7 => [.bw v_0]) (je_or (je_cmpB cmp_isN rfl (je_ix ix_D (fun _ _ => rfl) (je_bw 0 rfl (je_int (⟨_, _, _, rfl, rfl, rfl, fun t8 _ =>
      je_non (⟨_, _, _, rfl, rfl, rfl, fun b9 =>
      ⟨_, _, rfl, rfl, fun b10 => ⟨_, _, rfl, ⟨_, rfl, rfl, rfl⟩, je_one (je_join (fun (a11 : D) => .fr a11) (fun a11 => [.bw v_0]) (je_and (je_call (ok_t_is_number h) (hr.mono (by decide)) hL (ja_cons (je_ix ix_D (fun _ _ => rfl) (je_bw 0 rfl (je_int (⟨_, _, _, rfl, rfl, rfl, fun t12 _ =>
      ja_nil (⟨_, [], _, fun a13 => [.bw v_0], rfl, rfl, List.nodup_nil, rfl, fun _ => rfl, fun a13 _ =>
      ⟨_, _, rfl, rfl, fun b14 => ⟨_, _, rfl, je_one (je_cmpB cmp_geD rfl (je_ix ix_D (fun _ _ => rfl) (je_bw 0 rfl (je_int (⟨_, _, _, rfl, rfl, rfl, fun t15 _ =>
      je_ix ix_D (fun _ _ => rfl) (je_bw 0 rfl (je_int (⟨_, _, _, rfl, rfl, rfl, fun t16 _ =>
      ⟨_, _, _, rfl, rfl, rfl, fun b17 =>
      ⟨_, rfl, rfl, rfl⟩⟩⟩)))⟩))))), ⟨_, rfl, rfl, rfl⟩⟩⟩⟩)⟩))))))) (fun a11 =>
      ⟨_, rfl, rfl, rfl⟩))⟩⟩⟩)⟩)))))) (fun a7 =>
      ⟨_, rfl, rfl, oa_n⟩))))⟩))))

def d_t_is_stretches : List D → Res (D)
  | [v_0] =>
      ((if (!(isLst v_0)) = true then (.ok true) else (op (asL v_0) fun ds2 =>
      (lcF ds2 (() : Unit) [] fun d4 s3 =>
      (d_t_is_stretch [d4]).bind fun a5 =>
      .ok (some a5, ())).bind fun q6 =>
      op (allD [(D.lst q6.1)]) fun t7 =>
      op (truD t7) fun b8 =>
      .ok (!b8)) : Res (Bool))).bind fun a1 =>
      if a1 = true then (.ok (D.bl false)) else (op (cutA v_0 (some 1) none) fun t10 =>
      op (zipX v_0 t10) fun ds9 =>
      (lcF ds9 (() : Unit) [] fun d12 s11 =>
      op (un2 d12) fun p13 =>
      ((op (ixD p13.1 (D.int 1)) fun t15 =>
      op (notND t15 D.non) fun b16 =>
      op (asB (D.bl b16)) fun b17 => if b17 = true then (op (ixD p13.2 (D.int 0)) fun t18 =>
      op (ixD p13.1 (D.int 1)) fun t19 =>
      op (addD t19 (D.int 1)) fun t20 =>
      op (gtD t18 t20) fun b21 =>
      .ok (D.bl b21)) else (.ok (D.bl false)) : Res (D))).bind fun a14 =>
      .ok (some a14, ())).bind fun q22 =>
      op (allD [(D.lst q22.1)]) fun t23 =>
      .ok t23)  | _ => .bad
abbrev n_t_is_stretches : List Str := ["thing", "one", "other"]
theorem sc_t_is_stretches : FnScope n_t_is_stretches ["thing"] (defScope (topS 14)) := ⟨rfl, rfl, rfl, by decide +kernel, rfl, by decide +kernel, by decide +kernel⟩
theorem ok_t_is_stretches (h : Txt K mg) : Df P w K mg base 3 "is_stretches" [.b] d_t_is_stretches (fun a => a) (fun a => []) false := by
  obtain ⟨fa, fd, F, B, M⟩ := h.f_t_is_stretches
  refine ⟨fa, fd, _, fn_D (k := 2) F sc_t_is_stretches rfl 0 (fun _ => rfl) rfl (fun X en cdv A outer s H E ds hX hr hn hL hp hl => ?_), M, F.kp, B⟩
  have hnd := (sc_t_is_stretches).nd
  subst hX
  obtain ⟨v_0, rfl⟩ := len1 hl
  unfold d_t_is_stretches
  exact (jss_cons (js_if (jt_join (fun (a1 : Bool) => a1) (fun a1 => [.bw v_0, .un, .un]) (jt_w (jw_or (jt_not (jt_bl (je_isi kit_lst h.n_isinstance h.n_list (je_bw 0 rfl (⟨_, rfl, ⟨_, rfl, ⟨_, _, rfl, ⟨_, rfl, rfl, rfl⟩, jw_or1 (jt_not (jt_tru (je_callB (c_all rfl) h.n_all (ja_cons (je_lc [("one", 1)] rfl hnd (ji_any (je_bw 0 rfl (⟨_, _, rfl, rfl, fun ds2 =>
      ⟨_, _, _, (fun s3 => [.bw v_0, .un, .un]), (fun s3 => [.bw v_0, .un, .un]), rfl, (le_s (le_s (le_s (le_n)))), rfl, fun _ he d4 s3 _ _ _ _ _ _ => ⟨[1], (fun _ h => h), jg_name 1 [.bw v_0, .fr d4, .un] hnd (fun _ _ _ _ _ => je_call (ok_t_is_stretch h) (hr.mono (by decide)) he.lk (ja_cons (je_fr 1 rfl (ja_nil (⟨_, [], _, fun a5 => [.bw v_0, .fr d4, .un], rfl, rfl, List.nodup_nil, rfl, fun _ => rfl, fun a5 _ =>
      ⟨_, _, rfl, rfl, (le_s (le_s (le_s (le_n)))), rfl⟩⟩)))))⟩, fun _ => rfl, fun q6 =>
      ja_nil (⟨_, _, rfl, rfl, fun t7 _ =>
      ⟨_, _, rfl, rfl, fun b8 =>
      ⟨_, rfl, rfl, rfl⟩⟩⟩)⟩⟩))) (ok := by (refine blkOk_by ?_; first | (dsimp only [cxOf, envOfC, Cx.blk]; decide +kernel) | exact Eq.refl true)))))))⟩⟩⟩))))))) (fun a1 =>
      ⟨_, _, rfl, jss_one (js_ret (je_bl (⟨_, rfl, rfl, oa_n⟩))), jss_nil (jss_one (js_ret (je_callB (c_all rfl) h.n_all (ja_cons (je_lc [("one", 1), ("other", 2)] rfl hnd (ji_zipX h.n_zip (ja_cons (je_bw 0 rfl (ja_cons (je_cutA (je_bw 0 rfl (jo_int (jo_none (⟨_, _, rfl, rfl, fun t10 =>
      ja_nil (⟨_, _, _, _, _, rfl, rfl, rfl, rfl, fun ds9 =>
      ⟨_, _, _, (fun s11 => [.bw v_0, .un, .un]), (fun s11 => [.bw v_0, .un, .un]), rfl, (le_s (le_s (le_s (le_n)))), rfl, fun _ he d12 s11 _ _ _ _ _ _ => ⟨[1, 2], (fun _ h => h), jg_tup2 rfl ⟨_, rfl, fun p13 =>
      jgs_name 1 [.bw v_0, .fr p13.1, .un] hnd (jgs_name 2 [.bw v_0, .fr p13.1, .fr p13.2] hnd (jgs_nil (by exact fun _ _ _ _ _ => je_join (fun (a14 : D) => .fr a14) (fun a14 => [.bw v_0, .fr p13.1, .fr p13.2]) (je_and (je_cmpB cmp_notN rfl (je_ix ix_D (fun _ _ => rfl) (je_fr 1 rfl (je_int (⟨_, _, _, rfl, rfl, rfl, fun t15 _ => je_non (⟨_, _, _, rfl, rfl, rfl, fun b16 => ⟨_, _, rfl, rfl, fun b17 => ⟨_, _, rfl, je_one (je_cmpB cmp_gtD rfl (je_ix ix_D (fun _ _ => rfl) (je_fr 2 rfl (je_int (⟨_, _, _, rfl, rfl, rfl, fun t18 _ => je_bin op_addD (je_ix ix_D (fun _ _ => rfl) (je_fr 1 rfl (je_int (⟨_, _, _, rfl, rfl, rfl, fun t19 _ => je_int (⟨_, _, _, rfl, rfl, rfl, fun t20 _ => ⟨_, _, _, rfl, rfl, rfl, fun b21 => ⟨_, rfl, rfl, rfl⟩⟩⟩)⟩))))⟩))))), ⟨_, rfl, rfl, rfl⟩⟩⟩⟩)⟩)))))) (fun a14 => ⟨_, _, rfl, rfl, (le_s (le_s (le_s (le_n)))), rfl⟩))))⟩⟩, fun _ => rfl, fun q22 =>
      ja_nil (⟨_, _, rfl, rfl, fun t23 _ =>
      ⟨_, rfl, rfl, oa_n⟩⟩)⟩⟩)⟩))))))))) (ok := by (refine blkOk_by ?_; first | (dsimp only [cxOf, envOfC, Cx.blk]; decide +kernel) | exact Eq.refl true)))))))⟩))))

def d_t_is_sets : List D → Res (D)
  | [v_0] =>
      ((op (asB (D.bl (isLst v_0 || isTup v_0))) fun b2 => if b2 = true then (op (asL v_0) fun ds3 =>
      (lcF ds3 (() : Unit) [] fun d5 s4 =>
      (d_t_is_stretches [d5]).bind fun a6 =>
      .ok (some a6, ())).bind fun q7 =>
      op (allD [(D.lst q7.1)]) fun t8 =>
      .ok t8) else (.ok (D.bl false)) : Res (D))).bind fun a1 =>
      .ok a1  | _ => .bad
abbrev n_t_is_sets : List Str := ["thing", "some"]
theorem sc_t_is_sets : FnScope n_t_is_sets ["thing"] (defScope (topS 23)) := ⟨rfl, rfl, rfl, by decide +kernel, rfl, by decide +kernel, by decide +kernel⟩
theorem ok_t_is_sets (h : Txt K mg) : Df P w K mg base 4 "is_sets" [.b] d_t_is_sets (fun a => a) (fun a => []) false := by
  obtain ⟨fa, fd, F, B, M⟩ := h.f_t_is_sets
  refine ⟨fa, fd, _, fn_D (k := 3) F sc_t_is_sets rfl 0 (fun _ => rfl) rfl (fun X en cdv A outer s H E ds hX hr hn hL hp hl => ?_), M, F.kp, B⟩
  have hnd := (sc_t_is_sets).nd
  subst hX
  obtain ⟨v_0, rfl⟩ := len1 hl
  unfold d_t_is_sets
  exact (jss_one (js_ret (je_join (fun (a1 : D) => .fr a1) (fun a1 => [.bw v_0, .un]) (je_and (je_isi2 kit_lst kit_tup h.n_isinstance h.n_list h.n_tuple (je_bw 0 rfl (⟨_, rfl, ⟨_, _, rfl, rfl, fun b2 => ⟨_, _, rfl, je_one (je_callB (c_all rfl) h.n_all (ja_cons (je_lc [("some", 1)] rfl hnd (ji_any (je_bw 0 rfl (⟨_, _, rfl, rfl, fun ds3 =>
      ⟨_, _, _, (fun s4 => [.bw v_0, .un]), (fun s4 => [.bw v_0, .un]), rfl, (le_s (le_s (le_n))), rfl, fun _ he d5 s4 _ _ _ _ _ _ => ⟨[1], (fun _ h => h), jg_name 1 [.bw v_0, .fr d5] hnd (fun _ _ _ _ _ => je_call (ok_t_is_stretches h) (hr.mono (by decide)) he.lk (ja_cons (je_fr 1 rfl (ja_nil (⟨_, [], _, fun a6 => [.bw v_0, .fr d5], rfl, rfl, List.nodup_nil, rfl, fun _ => rfl, fun a6 _ =>
      ⟨_, _, rfl, rfl, (le_s (le_s (le_n))), rfl⟩⟩)))))⟩, fun _ => rfl, fun q7 =>
      ja_nil (⟨_, _, rfl, rfl, fun t8 _ =>
      ⟨_, rfl, rfl, rfl⟩⟩)⟩⟩))) (ok := by (refine blkOk_by ?_; first | (dsimp only [cxOf, envOfC, Cx.blk]; decide +kernel) | exact Eq.refl true))))), ⟨_, rfl, rfl, rfl⟩⟩⟩⟩)))) (fun a1 =>
      ⟨_, rfl, rfl, oa_n⟩))))

def d_t_need_sets : List D → Res (D)
  | [v_0] =>
      (d_t_is_sets [v_0]).bind fun a1 =>
      op (truD a1) fun b2 =>
      if (!b2) = true then (.bad) else (.ok D.non)  | _ => .bad
abbrev n_t_need_sets : List Str := ["thing"]
theorem sc_t_need_sets : FnScope n_t_need_sets ["thing"] (defScope (topS 24)) := ⟨rfl, rfl, rfl, by decide +kernel, rfl, by decide +kernel, by decide +kernel⟩
theorem ok_t_need_sets (h : Txt K mg) : Df P w K mg base 5 "need_sets" [.b] d_t_need_sets (fun a => a) (fun a => []) false := by
  obtain ⟨fa, fd, F, B, M⟩ := h.f_t_need_sets
  refine ⟨fa, fd, _, fn_D (k := 4) F sc_t_need_sets rfl 0 (fun _ => rfl) rfl (fun X en cdv A outer s H E ds hX hr hn hL hp hl => ?_), M, F.kp, B⟩
  have hnd := (sc_t_need_sets).nd
  subst hX
  obtain ⟨v_0, rfl⟩ := len1 hl
  unfold d_t_need_sets
  exact (jss_one (js_if (jt_not (jt_tru (je_call (ok_t_is_sets h) (hr.mono (by decide)) hL (ja_cons (je_bw 0 rfl (ja_nil (⟨_, [], _, fun a1 => [.bw v_0], rfl, rfl, List.nodup_nil, rfl, fun _ => rfl, fun a1 _ =>
      ⟨_, _, rfl, rfl, fun b2 =>
      ⟨_, _, rfl, jss_one (js_bad), jss_nil (⟨rfl, _, rfl, rfl, oa_n⟩)⟩⟩⟩)))))))))

def d_t_put : List D → Res (D × List (Key × D))
  | [.dic v_0, v_1, v_2] =>
      op (asK (D.dic v_0)) fun kv1 =>
      op (dgetD (D.dic v_0) v_1 (D.int 0)) fun t2 =>
      op (addD t2 v_2) fun t3 =>
      op (dputK v_0 v_1 t3) fun r4 =>
      ((op (dixD (D.dic r4) v_1) fun t6 =>
      op (eqD t6 (D.int 0)) fun b7 =>
      if b7 = true then (op (ddelK r4 v_1) fun r8 =>
      .ok r8) else (.ok r4) : Res (List (Key × D)))).bind fun s5 =>
      .ok (D.non, s5)  | _ => .bad
abbrev n_t_put : List Str := ["extra", "number", "many"]
theorem sc_t_put : FnScope n_t_put ["extra", "number", "many"] (defScope (topS 18)) := ⟨rfl, rfl, rfl, by decide +kernel, rfl, by decide +kernel, by decide +kernel⟩
theorem ok_t_put (h : Txt K mg) : Df P w K mg base 1 "put" [.m, .b, .b] d_t_put (fun a => a.1) (fun a => [.dic a.2]) false := by
  obtain ⟨fa, fd, F, B, M⟩ := h.f_t_put
  refine ⟨fa, fd, _, fn_D (k := 0) F sc_t_put rfl 1 (fun _ => rfl) rfl (fun X en cdv A outer s H E ds hX hr hn hL hp hl => ?_), M, F.kp, B⟩
  have hnd := (sc_t_put).nd
  subst hX
  obtain ⟨v_0, v_1, v_2, rfl⟩ := len3 hl
  cases v_0 <;> try exact jss_never
  rename_i v_0
  unfold d_t_put
  exact (jss_cons (js_dput 0 hr.hu (je_bin op_addD (je_dget hr.hu ⟨rfl, rfl, rfl, rfl⟩ (je_bo 0 rfl (.inr ⟨_, _, rfl⟩) (⟨_, _, rfl, rfl, fun kv1 =>
      je_bw 1 rfl (je_int (⟨_, _, _, _, rfl, rfl, rfl, rfl, fun t2 =>
      je_bw 2 rfl (⟨_, _, _, rfl, rfl, rfl, fun t3 _ =>
      ⟨_, _, rfl, rfl, rfl, je_bw 1 rfl (⟨_, _, _, _, fun r4 => [.mp 0 (.dic r4), .bw v_1, .bw v_2], rfl, rfl, rfl, rfl, rfl, fun _ => rfl, fun r4 =>
      jss_one (js_joinS (fun (s5 : List (Key × D)) => [.mp 0 (.dic s5), .bw v_1, .bw v_2]) (js_if (jt_cmp (cmp_eqD hr.hu) rfl (je_dix hr.hu (fun _ _ => rfl) (je_bo 0 rfl (.inr ⟨_, _, rfl⟩) (je_bw 1 rfl (⟨_, _, _, rfl, rfl, rfl, fun t6 =>
      je_int (⟨_, _, _, rfl, rfl, rfl, fun b7 =>
      ⟨_, _, rfl, jss_one (js_ddel 0 rfl rfl (je_bw 1 rfl (⟨_, _, _, _, fun r8 => [.mp 0 (.dic r8), .bw v_1, .bw v_2], rfl, rfl, rfl, rfl, rfl, fun _ => rfl, fun r8 =>
      ⟨_, rfl, (le_s (le_s (le_s (le_n))))⟩⟩))), jss_nil (⟨_, rfl, (le_s (le_s (le_s (le_n))))⟩)⟩⟩)⟩)))))) (fun s5 =>
      ⟨rfl, _, rfl, rfl, (oa_c 0 rfl oa_n)⟩))⟩)⟩⟩)⟩))⟩))))))

def d_t_between_books : List D → Res (D)
  | [v_0] =>
      op (un2 v_0) fun p1 =>
      op (isND p1.2 D.non) fun b2 =>
      if b2 = true then (.ok (D.tup [p1.1, D.non])) else (((op (ltD p1.1 p1.2) fun b4 =>
      if b4 = true then (op (subD p1.2 (D.int 1)) fun t5 =>
      .ok (D.tup [p1.1, t5])) else (.ok D.non) : Res (D))).bind fun a3 =>
      .ok a3)  | _ => .bad
abbrev n_t_between_books : List Str := ["ends", "first", "after"]
theorem sc_t_between_books : FnScope n_t_between_books ["ends"] (defScope (topS 19)) := ⟨rfl, rfl, rfl, by decide +kernel, rfl, by decide +kernel, by decide +kernel⟩
theorem ok_t_between_books (h : Txt K mg) : Df P w K mg base 1 "between_books" [.f] d_t_between_books (fun a => a) (fun a => []) false := by
  obtain ⟨fa, fd, F, B, M⟩ := h.f_t_between_books
  refine ⟨fa, fd, _, fn_D (k := 0) F sc_t_between_books rfl 0 (fun _ => rfl) rfl (fun X en cdv A outer s H E ds hX hr hn hL hp hl => ?_), M, F.kp, B⟩
  have hnd := (sc_t_between_books).nd
  subst hX
  obtain ⟨v_0, rfl⟩ := len1 hl
  unfold d_t_between_books
  exact (jss_cons (js_asg (je_fr 0 rfl (⟨_, [1, 2], rfl, jg_tup2 rfl ⟨_, rfl, fun p1 =>
      jgs_name 1 [.fr v_0, .fr p1.1, .un] hnd (jgs_name 2 [.fr v_0, .fr p1.1, .fr p1.2] hnd (jgs_nil (jss_cons (js_if (jt_cmp cmp_isN rfl (je_fr 2 rfl (je_non (⟨_, _, _, rfl, rfl, rfl, fun b2 =>
      ⟨_, _, rfl, jss_one (js_ret (je_tup (ja_cons (je_fr 1 rfl (ja_cons (je_non (ja_nil (⟨_, rfl, rfl, ⟨_, rfl, rfl, oa_n⟩⟩)))))))), jss_nil (jss_one (js_ret (je_join (fun (a3 : D) => .fr a3) (fun a3 => [.fr v_0, .fr p1.1, .fr p1.2]) (je_if (jt_cmp cmp_ltD rfl (je_fr 1 rfl (je_fr 2 rfl (⟨_, _, _, rfl, rfl, rfl, fun b4 =>
      ⟨_, _, rfl, je_tup (ja_cons (je_fr 1 rfl (ja_cons (je_bin op_subD (je_fr 2 rfl (je_int (⟨_, _, _, rfl, rfl, rfl, fun t5 _ =>
      ja_nil (⟨_, rfl, rfl, ⟨_, rfl, rfl, rfl⟩⟩)⟩))))))), je_non (⟨_, rfl, rfl, rfl⟩)⟩⟩))))) (fun a3 =>
      ⟨_, rfl, rfl, oa_n⟩))))⟩⟩))))))))⟩⟩))))

def d_t_numbers_at : List D → Res (D)
  | [v_0, v_1] =>
      op (srtT [v_0]) fun t1 =>
      op (asL v_1) fun ds2 =>
      (forS ds2 ((([] : List D), (D.int 0), (D.int 0)) : List D × D × D) fun d5 s4 =>
      (whileS 1000000 ((s4.2.1, s4.2.2) : D × D) (fun s7 => ((op (lenD [(D.lst t1)]) fun t9 =>
      op (ltD s7.1 t9) fun b10 =>
      if b10 = true then (op (ixD (D.lst t1) s7.1) fun t11 =>
      op (addD t11 s7.2) fun t12 =>
      op (ixD (D.lst t1) s7.1) fun t13 =>
      op (dixD v_0 t13) fun t14 =>
      op (addD t12 t14) fun t15 =>
      op (gtD d5 t15) fun b16 =>
      .ok b16) else (.ok false) : Res (Bool))).bind fun a8 =>
      .ok a8) (fun s7 =>
      op (ixD (D.lst t1) s7.1) fun t17 =>
      op (dixD v_0 t17) fun t18 =>
      op (iaddD s7.2 t18) fun t19 =>
      op (iaddD s7.1 (D.int 1)) fun t20 =>
      .ok (t20, t19))).bind fun s21 =>
      ((op (lenD [(D.lst t1)]) fun t23 =>
      op (eqD s21.1 t23) fun b24 =>
      op (asB (D.bl b24)) fun b25 => if b25 = true then (.ok (D.bl true)) else (op (ixD (D.lst t1) s21.1) fun t26 =>
      op (subD t26 (D.int 1)) fun t27 =>
      op (max2D [(D.int 0), t27]) fun t28 =>
      op (addD t28 s21.2) fun t29 =>
      op (leD d5 t29) fun b30 =>
      .ok (D.bl b30)) : Res (D))).bind fun a22 =>
      ((op (truD a22) fun b32 =>
      if b32 = true then (op (subD d5 s21.2) fun t33 =>
      .ok t33) else (op (ixD (D.lst t1) s21.1) fun t34 =>
      .ok t34) : Res (D))).bind fun a31 =>
      op (appL s4.1 [a31]) fun a35 =>
      .ok (a35.2, s21.1, s21.2)).bind fun s36 =>
      .ok (D.lst s36.1)  | _ => .bad
abbrev n_t_numbers_at : List Str := ["extra", "rising", "spots", "found", "at", "more", "m", "is_ahead"]
theorem sc_t_numbers_at : FnScope n_t_numbers_at ["extra", "rising"] (defScope (topS 25)) := ⟨rfl, rfl, rfl, by decide +kernel, rfl, by decide +kernel, by decide +kernel⟩
theorem ok_t_numbers_at (h : Txt K mg) : Df P w K mg base 1 "numbers_at" [.b, .b] d_t_numbers_at (fun a => a) (fun a => []) false := by
  obtain ⟨fa, fd, F, B, M⟩ := h.f_t_numbers_at
  refine ⟨fa, fd, _, fn_D (k := 0) F sc_t_numbers_at rfl 0 (fun _ => rfl) rfl (fun X en cdv A outer s H E ds hX hr hn hL hp hl => ?_), M, F.kp, B⟩
  have hnd := (sc_t_numbers_at).nd
  subst hX
  obtain ⟨v_0, v_1, rfl⟩ := len2 hl
  unfold d_t_numbers_at
  exact (jss_cons (js_set 2 hnd (je_fz (je_callBL (c_srtT rfl) h.n_sorted (ja_cons (je_bw 0 rfl (ja_nil (⟨_, _, rfl, rfl, fun t1 =>
      ⟨[.bw v_0, .bw v_1, .fr (D.lst t1), .un, .un, .un, .un, .un], rfl, rfl, rfl,
      jss_cons (js_set 3 hnd (je_lst (ja_nil (⟨_, rfl, rfl, ⟨[.bw v_0, .bw v_1, .fr (D.lst t1), .mu (.lst ([] : List D)), .un, .un, .un, .un], rfl, rfl, rfl,
      jss_cons (js_set 4 hnd (je_int (⟨[.bw v_0, .bw v_1, .fr (D.lst t1), .mu (.lst ([] : List D)), .fr (D.int 0), .un, .un, .un], rfl, rfl, rfl,
      jss_cons (js_set 5 hnd (je_int (⟨[.bw v_0, .bw v_1, .fr (D.lst t1), .mu (.lst ([] : List D)), .fr (D.int 0), .fr (D.int 0), .un, .un], rfl, rfl, rfl,
      jss_cons (js_forS hp rfl (ji_any (je_bw 1 rfl (⟨_, _, rfl, rfl, fun ds2 =>
      ⟨_, _, _, (fun (s4 : List D × D × D) => [.bw v_0, .bw v_1, .fr (D.lst t1), .mu (.lst s4.1), .fr s4.2.1, .fr s4.2.2, .un, .un]), rfl, (le_s (le_s (le_s (le_s (le_s (le_s (le_s (le_s (le_n))))))))), fun _ he3 d5 s4 => ⟨[6], jg_name 6 [.bw v_0, .bw v_1, .fr (D.lst t1), .mu (.lst s4.1), .fr s4.2.1, .fr s4.2.2, .fr d5, .un] hnd (jss_cons (js_whileS (fun (s7 : D × D) => [.bw v_0, .bw v_1, .fr (D.lst t1), .mu (.lst s4.1), .fr s7.1, .fr s7.2, .fr d5, .un]) hp ⟨_, _, _, _, _, rfl, (le_s (le_s (le_s (le_s (le_s (le_s (le_s (le_s (le_n))))))))), fun _ he6 s7 => jt_join (fun (a8 : Bool) => a8) (fun a8 => [.bw v_0, .bw v_1, .fr (D.lst t1), .mu (.lst s4.1), .fr s7.1, .fr s7.2, .fr d5, .un]) (jt_w (jw_and (jt_cmp cmp_ltD rfl (je_fr 4 rfl (je_callB c_len h.n_len (ja_cons (je_fr 2 rfl (ja_nil (⟨_, _, rfl, rfl, fun t9 _ =>
      ⟨_, _, _, rfl, rfl, rfl, fun b10 =>
      ⟨_, _, rfl, jw_and1 (jt_cmp cmp_gtD rfl (je_fr 6 rfl (je_bin op_addD (je_bin op_addD (je_ix ix_D (fun _ _ => rfl) (je_fr 2 rfl (je_fr 4 rfl (⟨_, _, _, rfl, rfl, rfl, fun t11 _ =>
      je_fr 5 rfl (⟨_, _, _, rfl, rfl, rfl, fun t12 _ =>
      je_dix hr.hu (fun _ _ => rfl) (je_bw 0 rfl (je_ix ix_D (fun _ _ => rfl) (je_fr 2 rfl (je_fr 4 rfl (⟨_, _, _, rfl, rfl, rfl, fun t13 _ =>
      ⟨_, _, _, rfl, rfl, rfl, fun t14 =>
      ⟨_, _, _, rfl, rfl, rfl, fun t15 _ =>
      ⟨_, _, _, rfl, rfl, rfl, fun b16 =>
      ⟨_, rfl, rfl, rfl⟩⟩⟩⟩⟩)))))⟩)⟩)))))))), ⟨_, rfl, rfl, rfl⟩⟩⟩⟩))))))))) (fun a8 =>
      ⟨rfl, (le_s (le_s (le_s (le_s (le_s (le_s (le_s (le_s (le_n)))))))))⟩), fun _ he6 s7 =>
      jss_cons (js_aug 5 hnd ip_addD rfl (je_dix hr.hu (fun _ _ => rfl) (je_bw 0 rfl (je_ix ix_D (fun _ _ => rfl) (je_fr 2 rfl (je_fr 4 rfl (⟨_, _, _, rfl, rfl, rfl, fun t17 _ =>
      ⟨_, _, _, rfl, rfl, rfl, fun t18 =>
      ⟨_, _, fun t19 => [.bw v_0, .bw v_1, .fr (D.lst t1), .mu (.lst s4.1), .fr s7.1, .fr t19, .fr d5, .un], rfl, rfl, rfl, fun _ => rfl, fun t19 _ =>
      jss_one (js_aug 4 hnd ip_addD rfl (je_int (⟨_, _, fun t20 => [.bw v_0, .bw v_1, .fr (D.lst t1), .mu (.lst s4.1), .fr t20, .fr t19, .fr d5, .un], rfl, rfl, rfl, fun _ => rfl, fun t20 _ =>
      ⟨_, rfl, (le_s (le_s (le_s (le_s (le_s (le_s (le_s (le_s (le_n)))))))))⟩⟩)))⟩⟩⟩))))))), fun s21 =>
      jss_cons (js_set 7 hnd (je_join (fun (a22 : D) => .fr a22) (fun a22 => [.bw v_0, .bw v_1, .fr (D.lst t1), .mu (.lst s4.1), .fr s21.1, .fr s21.2, .fr d5, .un]) (je_or (je_cmpB (cmp_eqD hr.hu) rfl (je_fr 4 rfl (je_callB c_len h.n_len (ja_cons (je_fr 2 rfl (ja_nil (⟨_, _, rfl, rfl, fun t23 _ =>
      ⟨_, _, _, rfl, rfl, rfl, fun b24 =>
      ⟨_, _, rfl, rfl, fun b25 => ⟨_, _, rfl, ⟨_, rfl, rfl, rfl⟩, je_one (je_cmpB cmp_leD rfl (je_fr 6 rfl (je_bin op_addD (je_callB (c_max2 rfl) h.n_max (ja_cons (je_int (ja_cons (je_bin op_subD (je_ix ix_D (fun _ _ => rfl) (je_fr 2 rfl (je_fr 4 rfl (⟨_, _, _, rfl, rfl, rfl, fun t26 _ =>
      je_int (⟨_, _, _, rfl, rfl, rfl, fun t27 _ =>
      ja_nil (⟨_, _, rfl, rfl, fun t28 _ =>
      je_fr 5 rfl (⟨_, _, _, rfl, rfl, rfl, fun t29 _ =>
      ⟨_, _, _, rfl, rfl, rfl, fun b30 =>
      ⟨_, rfl, rfl, rfl⟩⟩⟩)⟩)⟩)⟩))))))))))))⟩⟩⟩⟩)))))))) (fun a22 =>
      ⟨[.bw v_0, .bw v_1, .fr (D.lst t1), .mu (.lst s4.1), .fr s21.1, .fr s21.2, .fr d5, .fr a22], rfl, rfl, rfl,
      jss_one (js_expr (je_mutL 3 g_app PySem.F.slot_list_append PySem.F.type_list_append m_append rfl rfl rfl (ja_cons (je_join (fun (a31 : D) => .fr a31) (fun a31 => [.bw v_0, .bw v_1, .fr (D.lst t1), .mu (.lst s4.1), .fr s21.1, .fr s21.2, .fr d5, .fr a22]) (je_if (jt_tru (je_fr 7 rfl (⟨_, _, rfl, rfl, fun b32 =>
      ⟨_, _, rfl, je_bin op_subD (je_fr 6 rfl (je_fr 5 rfl (⟨_, _, _, rfl, rfl, rfl, fun t33 _ =>
      ⟨_, rfl, rfl, rfl⟩⟩))), je_ix ix_D (fun _ _ => rfl) (je_fr 2 rfl (je_fr 4 rfl (⟨_, _, _, rfl, rfl, rfl, fun t34 _ =>
      ⟨_, rfl, rfl, rfl⟩⟩)))⟩⟩)))) (fun a31 =>
      ja_nil (⟨_, _, _, _, fun a35 => [.bw v_0, .bw v_1, .fr (D.lst t1), .mu (.lst a35.2), .fr s21.1, .fr s21.2, .fr d5, .fr a22], rfl, rfl, rfl, rfl, rfl, fun _ => rfl, fun a35 =>
      ⟨_, rfl, (le_s (le_s (le_s (le_s (le_s (le_s (le_u (le_u (le_n)))))))))⟩⟩))))))⟩)))⟩))⟩, fun s36 =>
      jss_one (js_ret (je_fzv' 3 [.bw v_0, .bw v_1, .fr (D.lst t1), .fr (D.lst s36.1), .fr s36.2.1, .fr s36.2.2, .un, .un] rfl rfl (⟨_, rfl, rfl, oa_n⟩)))⟩⟩))))⟩)))⟩)))⟩⟩))))⟩⟩))))))))

def d_t_companies_in : List D → Res (D)
  | [v_0, v_1] =>
      op (asL v_1) fun ds1 =>
      (forS ds1 (([] : List D) : List D) fun d4 s3 =>
      op (un2 d4) fun p5 =>
      ((op (isND p5.2 D.non) fun b7 =>
      if b7 = true then (.ok (D.lst [p5.1])) else (op (addD p5.2 (D.int 1)) fun t8 =>
      .ok (D.lst [p5.1, t8])) : Res (D))).bind fun a6 =>
      op (extL s3 [a6]) fun a9 =>
      .ok a9.2).bind fun s11 =>
      (d_t_numbers_at [v_0, (D.lst s11)]).bind fun a12 =>
      op (addD a12 (D.lst [D.non])) fun t13 =>
      op (lenD [v_1]) fun t15 =>
      op (rngD [t15]) fun ds14 =>
      (forS ds14 (([] : List D) : List D) fun d18 s17 =>
      op (mulD (D.int 2) d18) fun t19 =>
      op (ixD t13 t19) fun t20 =>
      op (mulD (D.int 2) d18) fun t21 =>
      op (addD t21 (D.int 1)) fun t22 =>
      op (ixD t13 t22) fun t23 =>
      (d_t_between_books [(D.tup [t20, t23])]).bind fun a24 =>
      ((((op (notND a24 D.non) fun b30 =>
      if b30 = true then (op (neD (D.lst s17) (D.lst ([] : List D))) fun b31 =>
      if b31 = true then (op (negD (D.int 1)) fun t32 =>
      op (ixD (D.lst s17) t32) fun t33 =>
      op (ixD t33 (D.int 1)) fun t34 =>
      op (addD t34 (D.int 1)) fun t35 =>
      op (ixD a24 (D.int 0)) fun t36 =>
      op (eqD t35 t36) fun b37 =>
      .ok b37) else (.ok false)) else (.ok false) : Res (Bool))).bind fun a29 =>
      if a29 = true then (op (popL s17 []) fun a38 =>
      op (ixD a38.1 (D.int 0)) fun t39 =>
      op (ixD a24 (D.int 1)) fun t40 =>
      .ok (a38.2, (D.tup [t39, t40]))) else (.ok (s17, a24)) : Res (List D × D))).bind fun s25 =>
      ((op (notND s25.2 D.non) fun b27 =>
      if b27 = true then (op (appL s25.1 [s25.2]) fun a28 =>
      .ok a28.2) else (.ok s25.1) : Res (List D))).bind fun s26 =>
      .ok s26).bind fun s41 =>
      .ok (D.lst s41)  | _ => .bad
abbrev n_t_companies_in : List Str := ["extra", "some", "rising", "first", "last", "numbers", "found", "at", "stretch"]
theorem sc_t_companies_in : FnScope n_t_companies_in ["extra", "some"] (defScope (topS 26)) := ⟨rfl, rfl, rfl, by decide +kernel, rfl, by decide +kernel, by decide +kernel⟩
theorem ok_t_companies_in (h : Txt K mg) : Df P w K mg base 2 "companies_in" [.b, .b] d_t_companies_in (fun a => a) (fun a => []) false := by
  obtain ⟨fa, fd, F, B, M⟩ := h.f_t_companies_in
  refine ⟨fa, fd, _, fn_D (k := 1) F sc_t_companies_in rfl 0 (fun _ => rfl) rfl (fun X en cdv A outer s H E ds hX hr hn hL hp hl => ?_), M, F.kp, B⟩
  have hnd := (sc_t_companies_in).nd
  subst hX
  obtain ⟨v_0, v_1, rfl⟩ := len2 hl
  unfold d_t_companies_in
  exact (jss_cons (js_set 2 hnd (je_lst (ja_nil (⟨_, rfl, rfl, ⟨[.bw v_0, .bw v_1, .mu (.lst ([] : List D)), .un, .un, .un, .un, .un, .un], rfl, rfl, rfl,
      jss_cons (js_forS hp rfl (ji_any (je_bw 1 rfl (⟨_, _, rfl, rfl, fun ds1 =>
      ⟨_, _, _, (fun (s3 : List D) => [.bw v_0, .bw v_1, .mu (.lst s3), .un, .un, .un, .un, .un, .un]), rfl, (le_s (le_s (le_s (le_s (le_s (le_s (le_s (le_s (le_s (le_n)))))))))), fun _ he2 d4 s3 => ⟨[3, 4], jg_tup2 rfl ⟨_, rfl, fun p5 =>
      jgs_name 3 [.bw v_0, .bw v_1, .mu (.lst s3), .fr p5.1, .un, .un, .un, .un, .un] hnd (jgs_name 4 [.bw v_0, .bw v_1, .mu (.lst s3), .fr p5.1, .fr p5.2, .un, .un, .un, .un] hnd (jgs_nil (jss_one (js_augL 2 hnd rfl (je_join (fun (a6 : D) => .fr a6) (fun a6 => [.bw v_0, .bw v_1, .mu (.lst s3), .fr p5.1, .fr p5.2, .un, .un, .un, .un]) (je_if (jt_cmp cmp_isN rfl (je_fr 4 rfl (je_non (⟨_, _, _, rfl, rfl, rfl, fun b7 =>
      ⟨_, _, rfl, je_fz (je_lst (ja_cons (je_fr 3 rfl (ja_nil (⟨_, rfl, rfl, ⟨_, rfl, rfl, rfl⟩⟩))))), je_fz (je_lst (ja_cons (je_fr 3 rfl (ja_cons (je_bin op_addD (je_fr 4 rfl (je_int (⟨_, _, _, rfl, rfl, rfl, fun t8 _ =>
      ja_nil (⟨_, rfl, rfl, ⟨_, rfl, rfl, rfl⟩⟩)⟩))))))))⟩⟩))))) (fun a6 =>
      ⟨_, _, _, fun r10 => [.bw v_0, .bw v_1, .mu (.lst r10), .fr p5.1, .fr p5.2, .un, .un, .un, .un], rfl, rfl, rfl, fun _ => rfl, fun a9 =>
      ⟨_, rfl, (le_s (le_s (le_s (le_u (le_u (le_s (le_s (le_s (le_s (le_n))))))))))⟩⟩))))))⟩⟩, fun s11 =>
      jss_cons (js_set 5 hnd (je_bin op_addD (je_call (ok_t_numbers_at h) (hr.mono (by decide)) hL (ja_cons (je_bw 0 rfl (ja_cons (je_bo 2 rfl (.inl ⟨_, rfl⟩) (ja_nil (⟨_, [], _, fun a12 => [.bw v_0, .bw v_1, .mu (.lst s11), .un, .un, .un, .un, .un, .un], rfl, rfl, List.nodup_nil, rfl, fun _ => rfl, fun a12 _ =>
      je_lst (ja_cons (je_non (ja_nil (⟨_, rfl, rfl, ⟨_, _, _, rfl, rfl, rfl, fun t13 _ =>
      ⟨[.bw v_0, .bw v_1, .mu (.lst s11), .un, .un, .fr t13, .un, .un, .un], rfl, rfl, rfl,
      jss_cons (js_set 6 hnd (je_lst (ja_nil (⟨_, rfl, rfl, ⟨[.bw v_0, .bw v_1, .mu (.lst s11), .un, .un, .fr t13, .mu (.lst ([] : List D)), .un, .un], rfl, rfl, rfl,
      jss_cons (js_forS hp rfl (ji_range1 h.n_range (je_callB c_len h.n_len (ja_cons (je_bw 1 rfl (ja_nil (⟨_, _, rfl, rfl, fun t15 _ =>
      ⟨_, _, rfl, rfl, fun ds14 =>
      ⟨_, _, _, (fun (s17 : List D) => [.bw v_0, .bw v_1, .mu (.lst s11), .un, .un, .fr t13, .mu (.lst s17), .un, .un]), rfl, (le_s (le_s (le_s (le_s (le_s (le_s (le_s (le_s (le_s (le_n)))))))))), fun _ he16 d18 s17 => ⟨[7], jg_name 7 [.bw v_0, .bw v_1, .mu (.lst s11), .un, .un, .fr t13, .mu (.lst s17), .fr d18, .un] hnd (jss_cons (js_set 8 hnd (je_call (ok_t_between_books h) (hr.mono (by decide)) (he16.lk hL) (ja_cons (je_tup (ja_cons (je_ix ix_D (fun _ _ => rfl) (je_fr 5 rfl (je_bin op_mulD (je_int (je_fr 7 rfl (⟨_, _, _, rfl, rfl, rfl, fun t19 _ =>
      ⟨_, _, _, rfl, rfl, rfl, fun t20 _ =>
      ja_cons (je_ix ix_D (fun _ _ => rfl) (je_fr 5 rfl (je_bin op_addD (je_bin op_mulD (je_int (je_fr 7 rfl (⟨_, _, _, rfl, rfl, rfl, fun t21 _ =>
      je_int (⟨_, _, _, rfl, rfl, rfl, fun t22 _ =>
      ⟨_, _, _, rfl, rfl, rfl, fun t23 _ =>
      ja_nil (⟨_, rfl, rfl, ja_nil (⟨_, [], _, fun a24 => [.bw v_0, .bw v_1, .mu (.lst s11), .un, .un, .fr t13, .mu (.lst s17), .fr d18, .un], rfl, rfl, List.nodup_nil, rfl, fun _ => rfl, fun a24 _ =>
      ⟨[.bw v_0, .bw v_1, .mu (.lst s11), .un, .un, .fr t13, .mu (.lst s17), .fr d18, .fr a24], rfl, rfl, rfl,
      jss_cons (js_joinS (fun (s25 : List D × D) => [.bw v_0, .bw v_1, .mu (.lst s11), .un, .un, .fr t13, .mu (.lst s25.1), .fr d18, .fr s25.2]) (js_if (jt_join (fun (a29 : Bool) => a29) (fun a29 => [.bw v_0, .bw v_1, .mu (.lst s11), .un, .un, .fr t13, .mu (.lst s17), .fr d18, .fr a24]) (jt_w (jw_and (jt_cmp cmp_notN rfl (je_fr 8 rfl (je_non (⟨_, _, _, rfl, rfl, rfl, fun b30 =>
      ⟨_, _, rfl, jw_and (jt_cmp (cmp_neD hr.hu) rfl (je_bo 6 rfl (.inl ⟨_, rfl⟩) (je_lst (ja_nil (⟨_, rfl, rfl, ⟨_, _, _, rfl, rfl, rfl, fun b31 =>
      ⟨_, _, rfl, jw_and1 (jt_cmp (cmp_eqD hr.hu) rfl (je_bin op_addD (je_ix ix_D (fun _ _ => rfl) (je_ix ix_D (fun _ _ => rfl) (je_bo 6 rfl (.inl ⟨_, rfl⟩) (je_un un_negD (je_int (⟨_, _, rfl, rfl, fun t32 _ =>
      ⟨_, _, _, rfl, rfl, rfl, fun t33 _ =>
      je_int (⟨_, _, _, rfl, rfl, rfl, fun t34 _ =>
      je_int (⟨_, _, _, rfl, rfl, rfl, fun t35 _ =>
      je_ix ix_D (fun _ _ => rfl) (je_fr 8 rfl (je_int (⟨_, _, _, rfl, rfl, rfl, fun t36 _ =>
      ⟨_, _, _, rfl, rfl, rfl, fun b37 =>
      ⟨_, rfl, rfl, rfl⟩⟩⟩)))⟩)⟩)⟩⟩)))))))), ⟨_, rfl, rfl, rfl⟩⟩⟩⟩))))), ⟨_, rfl, rfl, rfl⟩⟩⟩)))))) (fun a29 =>
      ⟨_, _, rfl, jss_one (js_set 8 hnd (je_tup (ja_cons (je_ix ix_D (fun _ _ => rfl) (je_mutL0 6 g_pop PySem.F.slot_list_pop PySem.F.type_list_pop m_pop rfl rfl rfl ⟨_, fun a38 => [.bw v_0, .bw v_1, .mu (.lst s11), .un, .un, .fr t13, .mu (.lst a38.2), .fr d18, .fr a24], rfl, fun _ => rfl, fun a38 =>
      je_int (⟨_, _, _, rfl, rfl, rfl, fun t39 _ =>
      ja_cons (je_ix ix_D (fun _ _ => rfl) (je_fr 8 rfl (je_int (⟨_, _, _, rfl, rfl, rfl, fun t40 _ =>
      ja_nil (⟨_, rfl, rfl, ⟨[.bw v_0, .bw v_1, .mu (.lst s11), .un, .un, .fr t13, .mu (.lst a38.2), .fr d18, .fr (D.tup [t39, t40])], rfl, rfl, rfl,
      ⟨_, rfl, (le_s (le_s (le_s (le_s (le_s (le_s (le_s (le_s (le_s (le_n))))))))))⟩⟩⟩)⟩))))⟩)⟩))))), jss_nil (⟨_, rfl, (le_s (le_s (le_s (le_s (le_s (le_s (le_s (le_s (le_s (le_n))))))))))⟩)⟩))) (fun s25 =>
      jss_one (js_joinS (fun (s26 : List D) => [.bw v_0, .bw v_1, .mu (.lst s11), .un, .un, .fr t13, .mu (.lst s26), .fr d18, .fr s25.2]) (js_if (jt_cmp cmp_notN rfl (je_fr 8 rfl (je_non (⟨_, _, _, rfl, rfl, rfl, fun b27 =>
      ⟨_, _, rfl, jss_one (js_expr (je_mutL 6 g_app PySem.F.slot_list_append PySem.F.type_list_append m_append rfl rfl rfl (ja_cons (je_fr 8 rfl (ja_nil (⟨_, _, _, _, fun a28 => [.bw v_0, .bw v_1, .mu (.lst s11), .un, .un, .fr t13, .mu (.lst a28.2), .fr d18, .fr s25.2], rfl, rfl, rfl, rfl, rfl, fun _ => rfl, fun a28 =>
      ⟨_, rfl, (le_s (le_s (le_s (le_s (le_s (le_s (le_s (le_s (le_s (le_n))))))))))⟩⟩)))))), jss_nil (⟨_, rfl, (le_s (le_s (le_s (le_s (le_s (le_s (le_s (le_s (le_s (le_n))))))))))⟩)⟩⟩))))) (fun s26 =>
      ⟨_, rfl, (le_s (le_s (le_s (le_s (le_s (le_s (le_s (le_u (le_u (le_n))))))))))⟩))))⟩⟩)⟩)⟩⟩)⟩)))))))⟩⟩))))))))))))⟩, fun s41 =>
      jss_one (js_ret (je_fzv' 6 [.bw v_0, .bw v_1, .mu (.lst s11), .un, .un, .fr t13, .fr (D.lst s41), .un, .un] rfl rfl (⟨_, rfl, rfl, oa_n⟩)))⟩⟩⟩)))))))⟩⟩))))⟩⟩⟩))))⟩)))))))))⟩⟩))))⟩⟩)))))

def d_t_gone_through : List D → Res (D)
  | [v_0] =>
      op (revD v_0) fun t2 =>
      op (asL t2) fun ds1 =>
      (forS ds1 ((([] : List (Key × D)), ([] : List D)) : List (Key × D) × List D) fun d5 s4 =>
      (d_t_companies_in [(D.dic s4.1), d5]).bind fun a6 =>
      op (appL s4.2 [a6]) fun a7 =>
      op (negD (D.int 1)) fun t9 =>
      op (ixD (D.lst a7.2) t9) fun t10 =>
      op (asL t10) fun ds8 =>
      (forS ds8 (s4.1 : List (Key × D)) fun d13 s12 =>
      op (un2 d13) fun p14 =>
      (d_t_put [(D.dic s12), p14.1, (D.int 1)]).bind fun a15 =>
      ((op (notND p14.2 D.non) fun b17 =>
      if b17 = true then (op (addD p14.2 (D.int 1)) fun t18 =>
      op (negD (D.int 1)) fun t19 =>
      (d_t_put [(D.dic a15.2), t18, t19]).bind fun a20 =>
      .ok a20.2) else (.ok a15.2) : Res (List (Key × D)))).bind fun s16 =>
      .ok s16).bind fun s21 =>
      .ok (s21, a7.2)).bind fun s22 =>
      .ok (D.tup [(D.lst s22.2), (D.dic s22.1)])  | _ => .bad
abbrev n_t_gone_through : List Str := ["sets", "extra", "found", "some", "first", "last"]
theorem sc_t_gone_through : FnScope n_t_gone_through ["sets"] (defScope (topS 27)) := ⟨rfl, rfl, rfl, by decide +kernel, rfl, by decide +kernel, by decide +kernel⟩
theorem ok_t_gone_through (h : Txt K mg) : Df P w K mg base 3 "gone_through" [.b] d_t_gone_through (fun a => a) (fun a => []) false := by
  obtain ⟨fa, fd, F, B, M⟩ := h.f_t_gone_through
  refine ⟨fa, fd, _, fn_D (k := 2) F sc_t_gone_through rfl 0 (fun _ => rfl) rfl (fun X en cdv A outer s H E ds hX hr hn hL hp hl => ?_), M, F.kp, B⟩
  have hnd := (sc_t_gone_through).nd
  subst hX
  obtain ⟨v_0, rfl⟩ := len1 hl
  unfold d_t_gone_through
  exact (jss_cons (js_set 1 hnd (je_dnew (⟨[.bw v_0, .mu (.dic ([] : List (Key × D))), .un, .un, .un, .un], rfl, rfl, rfl,
      jss_cons (js_set 2 hnd (je_lst (ja_nil (⟨_, rfl, rfl, ⟨[.bw v_0, .mu (.dic ([] : List (Key × D))), .mu (.lst ([] : List D)), .un, .un, .un], rfl, rfl, rfl,
      jss_cons (js_forS hp rfl (ji_any (je_rev (je_bw 0 rfl (⟨_, _, rfl, rfl, fun t2 =>
      ⟨_, _, rfl, rfl, fun ds1 =>
      ⟨_, _, _, (fun (s4 : List (Key × D) × List D) => [.bw v_0, .mu (.dic s4.1), .mu (.lst s4.2), .un, .un, .un]), rfl, (le_s (le_s (le_s (le_s (le_s (le_s (le_n))))))), fun _ he3 d5 s4 => ⟨[3], jg_name 3 [.bw v_0, .mu (.dic s4.1), .mu (.lst s4.2), .fr d5, .un, .un] hnd (jss_cons (js_expr (je_mutL 2 g_app PySem.F.slot_list_append PySem.F.type_list_append m_append rfl rfl rfl (ja_cons (je_call (ok_t_companies_in h) (hr.mono (by decide)) (he3.lk hL) (ja_cons (je_bo 1 rfl (.inl ⟨_, rfl⟩) (ja_cons (je_fr 3 rfl (ja_nil (⟨_, [], _, fun a6 => [.bw v_0, .mu (.dic s4.1), .mu (.lst s4.2), .fr d5, .un, .un], rfl, rfl, List.nodup_nil, rfl, fun _ => rfl, fun a6 _ =>
      ja_nil (⟨_, _, _, _, fun a7 => [.bw v_0, .mu (.dic s4.1), .mu (.lst a7.2), .fr d5, .un, .un], rfl, rfl, rfl, rfl, rfl, fun _ => rfl, fun a7 =>
      jss_one (js_forS hp rfl (ji_any (je_ix ix_D (fun _ _ => rfl) (je_bo 2 rfl (.inl ⟨_, rfl⟩) (je_un un_negD (je_int (⟨_, _, rfl, rfl, fun t9 _ =>
      ⟨_, _, _, rfl, rfl, rfl, fun t10 _ =>
      ⟨_, _, rfl, rfl, fun ds8 =>
      ⟨_, _, _, (fun (s12 : List (Key × D)) => [.bw v_0, .mu (.dic s12), .mu (.lst a7.2), .fr d5, .un, .un]), rfl, (le_s (le_s (le_s (le_s (le_s (le_s (le_n))))))), fun _ he11 d13 s12 => ⟨[4, 5], jg_tup2 rfl ⟨_, rfl, fun p14 =>
      jgs_name 4 [.bw v_0, .mu (.dic s12), .mu (.lst a7.2), .fr d5, .fr p14.1, .un] hnd (jgs_name 5 [.bw v_0, .mu (.dic s12), .mu (.lst a7.2), .fr d5, .fr p14.1, .fr p14.2] hnd (jgs_nil (jss_cons (js_expr (je_call (ok_t_put h) (hr.mono (by decide)) (he11.lk (he3.lk hL)) (ja_cons (je_bo 1 rfl (.inl ⟨_, rfl⟩) (ja_cons (je_fr 4 rfl (ja_cons (je_int (ja_nil (⟨_, [1], _, fun a15 => [.bw v_0, .mu (.dic a15.2), .mu (.lst a7.2), .fr d5, .fr p14.1, .fr p14.2], rfl, rfl, nd1, rfl, fun _ => rfl, fun a15 _ =>
      jss_one (js_joinS (fun (s16 : List (Key × D)) => [.bw v_0, .mu (.dic s16), .mu (.lst a7.2), .fr d5, .fr p14.1, .fr p14.2]) (js_if (jt_cmp cmp_notN rfl (je_fr 5 rfl (je_non (⟨_, _, _, rfl, rfl, rfl, fun b17 =>
      ⟨_, _, rfl, jss_one (js_expr (je_call (ok_t_put h) (hr.mono (by decide)) (he11.lk (he3.lk hL)) (ja_cons (je_bo 1 rfl (.inl ⟨_, rfl⟩) (ja_cons (je_bin op_addD (je_fr 5 rfl (je_int (⟨_, _, _, rfl, rfl, rfl, fun t18 _ =>
      ja_cons (je_un un_negD (je_int (⟨_, _, rfl, rfl, fun t19 _ =>
      ja_nil (⟨_, [1], _, fun a20 => [.bw v_0, .mu (.dic a20.2), .mu (.lst a7.2), .fr d5, .fr p14.1, .fr p14.2], rfl, rfl, nd1, rfl, fun _ => rfl, fun a20 _ =>
      ⟨_, rfl, (le_s (le_s (le_s (le_s (le_s (le_s (le_n)))))))⟩⟩)⟩)))⟩))))))))), jss_nil (⟨_, rfl, (le_s (le_s (le_s (le_s (le_s (le_s (le_n)))))))⟩)⟩⟩))))) (fun s16 =>
      ⟨_, rfl, (le_s (le_s (le_s (le_s (le_u (le_u (le_n)))))))⟩))⟩)))))))))))))⟩⟩, fun s21 =>
      ⟨_, rfl, (le_s (le_s (le_s (le_u (le_s (le_s (le_n)))))))⟩⟩⟩⟩⟩)))))))⟩)⟩)))))))))))⟩, fun s22 =>
      jss_one (js_ret (je_tup (ja_cons (je_fzv' 2 [.bw v_0, .mu (.dic s22.1), .fr (D.lst s22.2), .un, .un, .un] rfl rfl (ja_cons (je_fzv' 1 [.bw v_0, .fr (D.dic s22.1), .fr (D.lst s22.2), .un, .un, .un] rfl rfl (ja_nil (⟨_, rfl, rfl, ⟨_, rfl, rfl, oa_n⟩⟩))))))))⟩⟩⟩)))))⟩⟩))))⟩))))

def d_t_true_at : List D → Res (D)
  | [v_0] =>
      (d_t_need_sets [v_0]).bind fun a1 =>
      (d_t_gone_through [v_0]).bind fun a2 =>
      op (ixD a2 (D.int 0)) fun t3 =>
      op (revT t3) fun t4 =>
      .ok (D.lst t4)  | _ => .bad
abbrev n_t_true_at : List Str := ["sets"]
theorem sc_t_true_at : FnScope n_t_true_at ["sets"] (defScope (topS 28)) := ⟨rfl, rfl, rfl, by decide +kernel, rfl, by decide +kernel, by decide +kernel⟩
theorem ok_t_true_at (h : Txt K mg) : Df P w K mg base 6 "true_at" [.b] d_t_true_at (fun a => a) (fun a => []) false := by
  obtain ⟨fa, fd, F, B, M⟩ := h.f_t_true_at
  refine ⟨fa, fd, _, fn_D (k := 5) F sc_t_true_at rfl 0 (fun _ => rfl) rfl (fun X en cdv A outer s H E ds hX hr hn hL hp hl => ?_), M, F.kp, B⟩
  have hnd := (sc_t_true_at).nd
  subst hX
  obtain ⟨v_0, rfl⟩ := len1 hl
  unfold d_t_true_at
  exact (jss_cons (js_expr (je_call (ok_t_need_sets h) (hr.mono (by decide)) hL (ja_cons (je_bw 0 rfl (ja_nil (⟨_, [], _, fun a1 => [.bw v_0], rfl, rfl, List.nodup_nil, rfl, fun _ => rfl, fun a1 _ =>
      jss_one (js_ret (je_fz (je_listRev rfl h.n_list h.n_reversed (je_ix ix_D (fun _ _ => rfl) (je_call (ok_t_gone_through h) (hr.mono (by decide)) hL (ja_cons (je_bw 0 rfl (ja_nil (⟨_, [], _, fun a2 => [.bw v_0], rfl, rfl, List.nodup_nil, rfl, fun _ => rfl, fun a2 _ =>
      je_int (⟨_, _, _, rfl, rfl, rfl, fun t3 _ =>
      ⟨_, _, rfl, rfl, fun t4 =>
      ⟨_, rfl, rfl, oa_n⟩⟩⟩)⟩)))))))))⟩)))))))

def d_t_steps_by : List D → Res (List D)
  | [v_0] =>
      op (asK v_0) fun kv1 =>
      op (dgetD v_0 (D.int 0) (D.int 0)) fun t2 =>
      op (srtT [v_0]) fun t4 =>
      op (asL (D.lst t4)) fun ds3 =>
      (forS ds3 ([(D.tup [(D.int 0), t2])] : List D) fun d7 s6 =>
      ((op (gtD d7 (D.int 0)) fun b9 =>
      if b9 = true then (op (negD (D.int 1)) fun t10 =>
      op (ixD (D.lst s6) t10) fun t11 =>
      op (ixD t11 (D.int 1)) fun t12 =>
      op (dixD v_0 d7) fun t13 =>
      op (addD t12 t13) fun t14 =>
      op (appL s6 [(D.tup [d7, t14])]) fun a15 =>
      .ok a15.2) else (.ok s6) : Res (List D))).bind fun s8 =>
      .ok s8).bind fun s16 =>
      .ok s16  | _ => .bad
abbrev n_t_steps_by : List Str := ["extra", "found", "company"]
theorem sc_t_steps_by : FnScope n_t_steps_by ["extra"] (defScope (topS 15)) := ⟨rfl, rfl, rfl, by decide +kernel, rfl, by decide +kernel, by decide +kernel⟩
theorem ok_t_steps_by (h : Txt K mg) : Df P w K mg base 1 "steps_by" [.b] d_t_steps_by (fun a => .lst a) (fun a => []) true := by
  obtain ⟨fa, fd, F, B, M⟩ := h.f_t_steps_by
  refine ⟨fa, fd, _, fn_D (k := 0) F sc_t_steps_by rfl 0 (fun _ => rfl) rfl (fun X en cdv A outer s H E ds hX hr hn hL hp hl => ?_), M, F.kp, B⟩
  have hnd := (sc_t_steps_by).nd
  subst hX
  obtain ⟨v_0, rfl⟩ := len1 hl
  unfold d_t_steps_by
  exact (jss_cons (js_set 1 hnd (je_lst (ja_cons (je_tup (ja_cons (je_int (ja_cons (je_dget hr.hu ⟨rfl, rfl, rfl, rfl⟩ (je_bw 0 rfl (⟨_, _, rfl, rfl, fun kv1 =>
      je_int (je_int (⟨_, _, _, _, rfl, rfl, rfl, rfl, fun t2 =>
      ja_nil (⟨_, rfl, rfl, ja_nil (⟨_, rfl, rfl, ⟨[.bw v_0, .mu (.lst [(D.tup [(D.int 0), t2])]), .un], rfl, rfl, rfl,
      jss_cons (js_forS hp rfl (ji_any (je_fz (je_callBL (c_srtT rfl) h.n_sorted (ja_cons (je_bw 0 rfl (ja_nil (⟨_, _, rfl, rfl, fun t4 =>
      ⟨_, _, rfl, rfl, fun ds3 =>
      ⟨_, _, _, (fun (s6 : List D) => [.bw v_0, .mu (.lst s6), .un]), rfl, (le_s (le_s (le_s (le_n)))), fun _ he5 d7 s6 => ⟨[2], jg_name 2 [.bw v_0, .mu (.lst s6), .fr d7] hnd (jss_one (js_joinS (fun (s8 : List D) => [.bw v_0, .mu (.lst s8), .fr d7]) (js_if (jt_cmp cmp_gtD rfl (je_fr 2 rfl (je_int (⟨_, _, _, rfl, rfl, rfl, fun b9 =>
      ⟨_, _, rfl, jss_one (js_expr (je_mutL 1 g_app PySem.F.slot_list_append PySem.F.type_list_append m_append rfl rfl rfl (ja_cons (je_tup (ja_cons (je_fr 2 rfl (ja_cons (je_bin op_addD (je_ix ix_D (fun _ _ => rfl) (je_ix ix_D (fun _ _ => rfl) (je_bo 1 rfl (.inl ⟨_, rfl⟩) (je_un un_negD (je_int (⟨_, _, rfl, rfl, fun t10 _ =>
      ⟨_, _, _, rfl, rfl, rfl, fun t11 _ =>
      je_int (⟨_, _, _, rfl, rfl, rfl, fun t12 _ =>
      je_dix hr.hu (fun _ _ => rfl) (je_bw 0 rfl (je_fr 2 rfl (⟨_, _, _, rfl, rfl, rfl, fun t13 =>
      ⟨_, _, _, rfl, rfl, rfl, fun t14 _ =>
      ja_nil (⟨_, rfl, rfl, ja_nil (⟨_, _, _, _, fun a15 => [.bw v_0, .mu (.lst a15.2), .fr d7], rfl, rfl, rfl, rfl, rfl, fun _ => rfl, fun a15 =>
      ⟨_, rfl, (le_s (le_s (le_s (le_n))))⟩⟩)⟩)⟩⟩)))⟩)⟩⟩)))))))))))))), jss_nil (⟨_, rfl, (le_s (le_s (le_s (le_n))))⟩)⟩⟩))))) (fun s8 =>
      ⟨_, rfl, (le_s (le_s (le_u (le_n))))⟩)))⟩, fun s16 =>
      jss_one (js_ret (je_mv' 1 [.bw v_0, .un, .un] rfl rfl (⟨_, rfl, rfl, oa_n⟩)))⟩⟩⟩))))))))⟩⟩)⟩)⟩))⟩)))))))))))

def d_t_set_table : List D → Res (D)
  | [v_0] =>
      (d_t_need_sets [v_0]).bind fun a1 =>
      (d_t_gone_through [v_0]).bind fun a2 =>
      op (ixD a2 (D.int 1)) fun t3 =>
      (d_t_steps_by [t3]).bind fun a4 =>
      .ok (D.lst a4)  | _ => .bad
abbrev n_t_set_table : List Str := ["sets"]
theorem sc_t_set_table : FnScope n_t_set_table ["sets"] (defScope (topS 29)) := ⟨rfl, rfl, rfl, by decide +kernel, rfl, by decide +kernel, by decide +kernel⟩
theorem ok_t_set_table (h : Txt K mg) : Df P w K mg base 6 "set_table" [.b] d_t_set_table (fun a => a) (fun a => []) false := by
  obtain ⟨fa, fd, F, B, M⟩ := h.f_t_set_table
  refine ⟨fa, fd, _, fn_D (k := 5) F sc_t_set_table rfl 0 (fun _ => rfl) rfl (fun X en cdv A outer s H E ds hX hr hn hL hp hl => ?_), M, F.kp, B⟩
  have hnd := (sc_t_set_table).nd
  subst hX
  obtain ⟨v_0, rfl⟩ := len1 hl
  unfold d_t_set_table
  exact (jss_cons (js_expr (je_call (ok_t_need_sets h) (hr.mono (by decide)) hL (ja_cons (je_bw 0 rfl (ja_nil (⟨_, [], _, fun a1 => [.bw v_0], rfl, rfl, List.nodup_nil, rfl, fun _ => rfl, fun a1 _ =>
      jss_one (js_ret (je_fz (je_call (ok_t_steps_by h) (hr.mono (by decide)) hL (ja_cons (je_ix ix_D (fun _ _ => rfl) (je_call (ok_t_gone_through h) (hr.mono (by decide)) hL (ja_cons (je_bw 0 rfl (ja_nil (⟨_, [], _, fun a2 => [.bw v_0], rfl, rfl, List.nodup_nil, rfl, fun _ => rfl, fun a2 _ =>
      je_int (⟨_, _, _, rfl, rfl, rfl, fun t3 _ =>
      ja_nil (⟨_, [], _, fun a4 => [.bw v_0], rfl, rfl, List.nodup_nil, rfl, fun _ => rfl, fun a4 _ =>
      ⟨_, rfl, rfl, oa_n⟩⟩)⟩)⟩))))))))))⟩)))))))

def d_t_is_step : List D → Res (D)
  | [v_0] =>
      ((op (asB (D.bl (isTup v_0))) fun b2 => if b2 = true then (op (lenD [v_0]) fun t3 =>
      op (eqD t3 (D.int 2)) fun b4 =>
      op (asB (D.bl b4)) fun b5 => if b5 = true then (op (ixD v_0 (D.int 0)) fun t6 =>
      (d_t_is_number [t6]).bind fun a7 =>
      op (asB a7) fun b8 => if b8 = true then (op (ixD v_0 (D.int 1)) fun t9 =>
      (d_t_is_number [t9]).bind fun a10 =>
      .ok a10) else (.ok (D.bl false))) else (.ok (D.bl false))) else (.ok (D.bl false)) : Res (D))).bind fun a1 =>
      .ok a1  | _ => .bad
abbrev n_t_is_step : List Str := ["thing"]
theorem sc_t_is_step : FnScope n_t_is_step ["thing"] (defScope (topS 8)) := ⟨rfl, rfl, rfl, by decide +kernel, rfl, by decide +kernel, by decide +kernel⟩
theorem ok_t_is_step (h : Txt K mg) : Df P w K mg base 2 "is_step" [.b] d_t_is_step (fun a => a) (fun a => []) false := by
  obtain ⟨fa, fd, F, B, M⟩ := h.f_t_is_step
  refine ⟨fa, fd, _, fn_D (k := 1) F sc_t_is_step rfl 0 (fun _ => rfl) rfl (fun X en cdv A outer s H E ds hX hr hn hL hp hl => ?_), M, F.kp, B⟩
  have hnd := (sc_t_is_step).nd
  subst hX
  obtain ⟨v_0, rfl⟩ := len1 hl
  unfold d_t_is_step
  exact (jss_one (js_ret (je_join (fun (a1 : D) => .fr a1) (fun a1 => [.bw v_0]) (je_and (je_isi kit_tup h.n_isinstance h.n_tuple (je_bw 0 rfl (⟨_, rfl, ⟨_, _, rfl, rfl, fun b2 => ⟨_, _, rfl, je_and (je_cmpB (cmp_eqD hr.hu) rfl (je_callB c_len h.n_len (ja_cons (je_bw 0 rfl (ja_nil (⟨_, _, rfl, rfl, fun t3 _ =>
      je_int (⟨_, _, _, rfl, rfl, rfl, fun b4 =>
      ⟨_, _, rfl, rfl, fun b5 => ⟨_, _, rfl, je_and (je_call (ok_t_is_number h) (hr.mono (by decide)) hL (ja_cons (je_ix ix_D (fun _ _ => rfl) (je_bw 0 rfl (je_int (⟨_, _, _, rfl, rfl, rfl, fun t6 _ =>
      ja_nil (⟨_, [], _, fun a7 => [.bw v_0], rfl, rfl, List.nodup_nil, rfl, fun _ => rfl, fun a7 _ =>
      ⟨_, _, rfl, rfl, fun b8 => ⟨_, _, rfl, je_one (je_call (ok_t_is_number h) (hr.mono (by decide)) hL (ja_cons (je_ix ix_D (fun _ _ => rfl) (je_bw 0 rfl (je_int (⟨_, _, _, rfl, rfl, rfl, fun t9 _ =>
      ja_nil (⟨_, [], _, fun a10 => [.bw v_0], rfl, rfl, List.nodup_nil, rfl, fun _ => rfl, fun a10 _ =>
      ⟨_, rfl, rfl, rfl⟩⟩)⟩)))))), ⟨_, rfl, rfl, rfl⟩⟩⟩⟩)⟩)))))), ⟨_, rfl, rfl, rfl⟩⟩⟩⟩)⟩)))))), ⟨_, rfl, rfl, rfl⟩⟩⟩⟩)))) (fun a1 =>
      ⟨_, rfl, rfl, oa_n⟩))))

def d_t_is_table : List D → Res (D)
  | [v_0] =>
      ((if (!(isLst v_0)) = true then (.ok true) else (op (eqD v_0 (D.lst ([] : List D))) fun b2 =>
      if b2 = true then (.ok true) else (op (asL v_0) fun ds3 =>
      (lcF ds3 (() : Unit) [] fun d5 s4 =>
      (d_t_is_step [d5]).bind fun a6 =>
      .ok (some a6, ())).bind fun q7 =>
      op (allD [(D.lst q7.1)]) fun t8 =>
      op (truD t8) fun b9 =>
      if (!b9) = true then (.ok true) else (op (ixD v_0 (D.int 0)) fun t10 =>
      op (ixD t10 (D.int 0)) fun t11 =>
      op (neD t11 (D.int 0)) fun b12 =>
      .ok b12))) : Res (Bool))).bind fun a1 =>
      if a1 = true then (.ok (D.bl false)) else (op (cutA v_0 (some 1) none) fun t14 =>
      op (zipX v_0 t14) fun ds13 =>
      (lcF ds13 (() : Unit) [] fun d16 s15 =>
      op (un2 d16) fun p17 =>
      ((op (ixD p17.1 (D.int 0)) fun t19 =>
      op (ixD p17.2 (D.int 0)) fun t20 =>
      op (ltD t19 t20) fun b21 =>
      op (asB (D.bl b21)) fun b22 => if b22 = true then (op (ixD p17.1 (D.int 1)) fun t23 =>
      op (ixD p17.2 (D.int 1)) fun t24 =>
      op (neD t23 t24) fun b25 =>
      .ok (D.bl b25)) else (.ok (D.bl false)) : Res (D))).bind fun a18 =>
      .ok (some a18, ())).bind fun q26 =>
      op (allD [(D.lst q26.1)]) fun t27 =>
      .ok t27)  | _ => .bad
abbrev n_t_is_table : List Str := ["thing", "one", "other", "step"]
theorem sc_t_is_table : FnScope n_t_is_table ["thing"] (defScope (topS 9)) := ⟨rfl, rfl, rfl, by decide +kernel, rfl, by decide +kernel, by decide +kernel⟩
theorem ok_t_is_table (h : Txt K mg) : Df P w K mg base 3 "is_table" [.b] d_t_is_table (fun a => a) (fun a => []) false := by
  obtain ⟨fa, fd, F, B, M⟩ := h.f_t_is_table
  refine ⟨fa, fd, _, fn_D (k := 2) F sc_t_is_table rfl 0 (fun _ => rfl) rfl (fun X en cdv A outer s H E ds hX hr hn hL hp hl => ?_), M, F.kp, B⟩
  have hnd := (sc_t_is_table).nd
  subst hX
  obtain ⟨v_0, rfl⟩ := len1 hl
  unfold d_t_is_table
  exact (jss_cons (js_if (jt_join (fun (a1 : Bool) => a1) (fun a1 => [.bw v_0, .un, .un, .un]) (jt_w (jw_or (jt_not (jt_bl (je_isi kit_lst h.n_isinstance h.n_list (je_bw 0 rfl (⟨_, rfl, ⟨_, rfl, ⟨_, _, rfl, ⟨_, rfl, rfl, rfl⟩, jw_or (jt_cmp (cmp_eqD hr.hu) rfl (je_bw 0 rfl (je_lst (ja_nil (⟨_, rfl, rfl, ⟨_, _, _, rfl, rfl, rfl, fun b2 =>
      ⟨_, _, rfl, ⟨_, rfl, rfl, rfl⟩, jw_or (jt_not (jt_tru (je_callB (c_all rfl) h.n_all (ja_cons (je_lc [("step", 3)] rfl hnd (ji_any (je_bw 0 rfl (⟨_, _, rfl, rfl, fun ds3 =>
      ⟨_, _, _, (fun s4 => [.bw v_0, .un, .un, .un]), (fun s4 => [.bw v_0, .un, .un, .un]), rfl, (le_s (le_s (le_s (le_s (le_n))))), rfl, fun _ he d5 s4 _ _ _ _ _ _ => ⟨[3], (fun _ h => h), jg_name 3 [.bw v_0, .un, .un, .fr d5] hnd (fun _ _ _ _ _ => je_call (ok_t_is_step h) (hr.mono (by decide)) he.lk (ja_cons (je_fr 3 rfl (ja_nil (⟨_, [], _, fun a6 => [.bw v_0, .un, .un, .fr d5], rfl, rfl, List.nodup_nil, rfl, fun _ => rfl, fun a6 _ =>
      ⟨_, _, rfl, rfl, (le_s (le_s (le_s (le_s (le_n))))), rfl⟩⟩)))))⟩, fun _ => rfl, fun q7 =>
      ja_nil (⟨_, _, rfl, rfl, fun t8 _ =>
      ⟨_, _, rfl, rfl, fun b9 =>
      ⟨_, _, rfl, ⟨_, rfl, rfl, rfl⟩, jw_or1 (jt_cmp (cmp_neD hr.hu) rfl (je_ix ix_D (fun _ _ => rfl) (je_ix ix_D (fun _ _ => rfl) (je_bw 0 rfl (je_int (⟨_, _, _, rfl, rfl, rfl, fun t10 _ =>
      je_int (⟨_, _, _, rfl, rfl, rfl, fun t11 _ =>
      je_int (⟨_, _, _, rfl, rfl, rfl, fun b12 =>
      ⟨_, rfl, rfl, rfl⟩⟩)⟩)⟩))))))⟩⟩⟩)⟩⟩))) (ok := by (refine blkOk_by ?_; first | (dsimp only [cxOf, envOfC, Cx.blk]; decide +kernel) | exact Eq.refl true)))))))⟩⟩⟩)))))⟩⟩⟩))))))) (fun a1 =>
      ⟨_, _, rfl, jss_one (js_ret (je_bl (⟨_, rfl, rfl, oa_n⟩))), jss_nil (jss_one (js_ret (je_callB (c_all rfl) h.n_all (ja_cons (je_lc [("one", 1), ("other", 2)] rfl hnd (ji_zipX h.n_zip (ja_cons (je_bw 0 rfl (ja_cons (je_cutA (je_bw 0 rfl (jo_int (jo_none (⟨_, _, rfl, rfl, fun t14 =>
      ja_nil (⟨_, _, _, _, _, rfl, rfl, rfl, rfl, fun ds13 =>
      ⟨_, _, _, (fun s15 => [.bw v_0, .un, .un, .un]), (fun s15 => [.bw v_0, .un, .un, .un]), rfl, (le_s (le_s (le_s (le_s (le_n))))), rfl, fun _ he d16 s15 _ _ _ _ _ _ => ⟨[1, 2], (fun _ h => h), jg_tup2 rfl ⟨_, rfl, fun p17 =>
      jgs_name 1 [.bw v_0, .fr p17.1, .un, .un] hnd (jgs_name 2 [.bw v_0, .fr p17.1, .fr p17.2, .un] hnd (jgs_nil (by exact fun _ _ _ _ _ => je_join (fun (a18 : D) => .fr a18) (fun a18 => [.bw v_0, .fr p17.1, .fr p17.2, .un]) (je_and (je_cmpB cmp_ltD rfl (je_ix ix_D (fun _ _ => rfl) (je_fr 1 rfl (je_int (⟨_, _, _, rfl, rfl, rfl, fun t19 _ => je_ix ix_D (fun _ _ => rfl) (je_fr 2 rfl (je_int (⟨_, _, _, rfl, rfl, rfl, fun t20 _ => ⟨_, _, _, rfl, rfl, rfl, fun b21 => ⟨_, _, rfl, rfl, fun b22 => ⟨_, _, rfl, je_one (je_cmpB (cmp_neD hr.hu) rfl (je_ix ix_D (fun _ _ => rfl) (je_fr 1 rfl (je_int (⟨_, _, _, rfl, rfl, rfl, fun t23 _ => je_ix ix_D (fun _ _ => rfl) (je_fr 2 rfl (je_int (⟨_, _, _, rfl, rfl, rfl, fun t24 _ => ⟨_, _, _, rfl, rfl, rfl, fun b25 => ⟨_, rfl, rfl, rfl⟩⟩⟩)))⟩))))), ⟨_, rfl, rfl, rfl⟩⟩⟩⟩⟩)))⟩)))))) (fun a18 => ⟨_, _, rfl, rfl, (le_s (le_s (le_s (le_s (le_n))))), rfl⟩))))⟩⟩, fun _ => rfl, fun q26 =>
      ja_nil (⟨_, _, rfl, rfl, fun t27 _ =>
      ⟨_, rfl, rfl, oa_n⟩⟩)⟩⟩)⟩))))))))) (ok := by (refine blkOk_by ?_; first | (dsimp only [cxOf, envOfC, Cx.blk]; decide +kernel) | exact Eq.refl true)))))))⟩))))

def d_t_is_rows : List D → Res (D)
  | [v_0] =>
      (((d_t_is_table [v_0]).bind fun a2 =>
      op (asB a2) fun b3 => if b3 = true then (op (cutA v_0 (some 1) none) fun t5 =>
      op (zipX v_0 t5) fun ds4 =>
      (lcF ds4 (() : Unit) [] fun d7 s6 =>
      op (un2 d7) fun p8 =>
      op (ixD p8.2 (D.int 1)) fun t9 =>
      op (ixD p8.1 (D.int 1)) fun t10 =>
      op (subD t10 (D.int 1)) fun t11 =>
      op (geD t9 t11) fun b12 =>
      .ok (some (D.bl b12), ())).bind fun q13 =>
      op (allD [(D.lst q13.1)]) fun t14 =>
      .ok t14) else (.ok (D.bl false)) : Res (D))).bind fun a1 =>
      .ok a1  | _ => .bad
abbrev n_t_is_rows : List Str := ["table", "one", "other"]
theorem sc_t_is_rows : FnScope n_t_is_rows ["table"] (defScope (topS 10)) := ⟨rfl, rfl, rfl, by decide +kernel, rfl, by decide +kernel, by decide +kernel⟩
theorem ok_t_is_rows (h : Txt K mg) : Df P w K mg base 4 "is_rows" [.b] d_t_is_rows (fun a => a) (fun a => []) false := by
  obtain ⟨fa, fd, F, B, M⟩ := h.f_t_is_rows
  refine ⟨fa, fd, _, fn_D (k := 3) F sc_t_is_rows rfl 0 (fun _ => rfl) rfl (fun X en cdv A outer s H E ds hX hr hn hL hp hl => ?_), M, F.kp, B⟩
  have hnd := (sc_t_is_rows).nd
  subst hX
  obtain ⟨v_0, rfl⟩ := len1 hl
  unfold d_t_is_rows
  exact (jss_one (js_ret (je_join (fun (a1 : D) => .fr a1) (fun a1 => [.bw v_0, .un, .un]) (je_and (je_call (ok_t_is_table h) (hr.mono (by decide)) hL (ja_cons (je_bw 0 rfl (ja_nil (⟨_, [], _, fun a2 => [.bw v_0, .un, .un], rfl, rfl, List.nodup_nil, rfl, fun _ => rfl, fun a2 _ =>
      ⟨_, _, rfl, rfl, fun b3 => ⟨_, _, rfl, je_one (je_callB (c_all rfl) h.n_all (ja_cons (je_lc [("one", 1), ("other", 2)] rfl hnd (ji_zipX h.n_zip (ja_cons (je_bw 0 rfl (ja_cons (je_cutA (je_bw 0 rfl (jo_int (jo_none (⟨_, _, rfl, rfl, fun t5 =>
      ja_nil (⟨_, _, _, _, _, rfl, rfl, rfl, rfl, fun ds4 =>
      ⟨_, _, _, (fun s6 => [.bw v_0, .un, .un]), (fun s6 => [.bw v_0, .un, .un]), rfl, (le_s (le_s (le_s (le_n)))), rfl, fun _ he d7 s6 _ _ _ _ _ _ => ⟨[1, 2], (fun _ h => h), jg_tup2 rfl ⟨_, rfl, fun p8 =>
      jgs_name 1 [.bw v_0, .fr p8.1, .un] hnd (jgs_name 2 [.bw v_0, .fr p8.1, .fr p8.2] hnd (jgs_nil (fun _ _ _ _ _ => je_cmpB cmp_geD rfl (je_ix ix_D (fun _ _ => rfl) (je_fr 2 rfl (je_int (⟨_, _, _, rfl, rfl, rfl, fun t9 _ =>
      je_bin op_subD (je_ix ix_D (fun _ _ => rfl) (je_fr 1 rfl (je_int (⟨_, _, _, rfl, rfl, rfl, fun t10 _ =>
      je_int (⟨_, _, _, rfl, rfl, rfl, fun t11 _ =>
      ⟨_, _, _, rfl, rfl, rfl, fun b12 =>
      ⟨_, _, rfl, rfl, (le_s (le_s (le_s (le_n)))), rfl⟩⟩⟩)⟩))))⟩)))))))⟩⟩, fun _ => rfl, fun q13 =>
      ja_nil (⟨_, _, rfl, rfl, fun t14 _ =>
      ⟨_, rfl, rfl, rfl⟩⟩)⟩⟩)⟩))))))))) (ok := by (refine blkOk_by ?_; first | (dsimp only [cxOf, envOfC, Cx.blk]; decide +kernel) | exact Eq.refl true))))), ⟨_, rfl, rfl, rfl⟩⟩⟩⟩)))))) (fun a1 =>
      ⟨_, rfl, rfl, oa_n⟩))))

def d_t_need_table : List D → Res (D)
  | [v_0] =>
      (d_t_is_table [v_0]).bind fun a1 =>
      op (truD a1) fun b2 =>
      if (!b2) = true then (.bad) else (.ok D.non)  | _ => .bad
abbrev n_t_need_table : List Str := ["thing"]
theorem sc_t_need_table : FnScope n_t_need_table ["thing"] (defScope (topS 11)) := ⟨rfl, rfl, rfl, by decide +kernel, rfl, by decide +kernel, by decide +kernel⟩
theorem ok_t_need_table (h : Txt K mg) : Df P w K mg base 4 "need_table" [.b] d_t_need_table (fun a => a) (fun a => []) false := by
  obtain ⟨fa, fd, F, B, M⟩ := h.f_t_need_table
  refine ⟨fa, fd, _, fn_D (k := 3) F sc_t_need_table rfl 0 (fun _ => rfl) rfl (fun X en cdv A outer s H E ds hX hr hn hL hp hl => ?_), M, F.kp, B⟩
  have hnd := (sc_t_need_table).nd
  subst hX
  obtain ⟨v_0, rfl⟩ := len1 hl
  unfold d_t_need_table
  exact (jss_one (js_if (jt_not (jt_tru (je_call (ok_t_is_table h) (hr.mono (by decide)) hL (ja_cons (je_bw 0 rfl (ja_nil (⟨_, [], _, fun a1 => [.bw v_0], rfl, rfl, List.nodup_nil, rfl, fun _ => rfl, fun a1 _ =>
      ⟨_, _, rfl, rfl, fun b2 =>
      ⟨_, _, rfl, jss_one (js_bad), jss_nil (⟨rfl, _, rfl, rfl, oa_n⟩)⟩⟩⟩)))))))))

def d_t_level : List D → Res (D)
  | [v_0, v_1] =>
      op (enumD v_0) fun ds1 =>
      (forS ds1 (([] : List D) : List D) fun d4 s3 =>
      op (un2 d4) fun p5 =>
      op (un2 p5.2) fun p6 =>
      ((op (addD p5.1 (D.int 1)) fun t8 =>
      op (lenD [v_0]) fun t9 =>
      op (ltD t8 t9) fun b10 =>
      if b10 = true then (op (addD p5.1 (D.int 1)) fun t11 =>
      op (ixD v_0 t11) fun t12 =>
      op (ixD t12 (D.int 0)) fun t13 =>
      op (addD t13 v_1) fun t14 =>
      op (subD t14 (D.int 2)) fun t15 =>
      .ok t15) else (.ok D.non) : Res (D))).bind fun a7 =>
      op (addD p6.1 v_1) fun t16 =>
      op (subD t16 (D.int 1)) fun t17 =>
      ((((op (geD p6.2 v_1) fun b23 =>
      if b23 = true then (op (neD (D.lst s3) (D.lst ([] : List D))) fun b24 =>
      if b24 = true then (op (negD (D.int 1)) fun t25 =>
      op (ixD (D.lst s3) t25) fun t26 =>
      op (ixD t26 (D.int 1)) fun t27 =>
      op (subD t17 (D.int 1)) fun t28 =>
      op (eqD t27 t28) fun b29 =>
      .ok b29) else (.ok false)) else (.ok false) : Res (Bool))).bind fun a22 =>
      if a22 = true then (op (popL s3 []) fun a30 =>
      op (ixD a30.1 (D.int 0)) fun t31 =>
      .ok (a30.2, t31)) else (.ok (s3, t17)) : Res (List D × D))).bind fun s18 =>
      ((op (geD p6.2 v_1) fun b20 =>
      if b20 = true then (op (appL s18.1 [(D.tup [s18.2, a7])]) fun a21 =>
      .ok a21.2) else (.ok s18.1) : Res (List D))).bind fun s19 =>
      .ok s19).bind fun s32 =>
      .ok (D.lst s32)  | _ => .bad
abbrev n_t_level : List Str := ["table", "least", "found", "at", "company", "many", "last", "first"]
theorem sc_t_level : FnScope n_t_level ["table", "least"] (defScope (topS 30)) := ⟨rfl, rfl, rfl, by decide +kernel, rfl, by decide +kernel, by decide +kernel⟩
theorem ok_t_level (h : Txt K mg) : Df P w K mg base 1 "level" [.b, .b] d_t_level (fun a => a) (fun a => []) false := by
  obtain ⟨fa, fd, F, B, M⟩ := h.f_t_level
  refine ⟨fa, fd, _, fn_D (k := 0) F sc_t_level rfl 0 (fun _ => rfl) rfl (fun X en cdv A outer s H E ds hX hr hn hL hp hl => ?_), M, F.kp, B⟩
  have hnd := (sc_t_level).nd
  subst hX
  obtain ⟨v_0, v_1, rfl⟩ := len2 hl
  unfold d_t_level
  exact (jss_cons (js_set 2 hnd (je_lst (ja_nil (⟨_, rfl, rfl, ⟨[.bw v_0, .bw v_1, .mu (.lst ([] : List D)), .un, .un, .un, .un, .un], rfl, rfl, rfl,
      jss_cons (js_forS hp rfl (ji_enum h.n_enumerate (je_bw 0 rfl (⟨_, _, rfl, rfl, fun ds1 =>
      ⟨_, _, _, (fun (s3 : List D) => [.bw v_0, .bw v_1, .mu (.lst s3), .un, .un, .un, .un, .un]), rfl, (le_s (le_s (le_s (le_s (le_s (le_s (le_s (le_s (le_n))))))))), fun _ he2 d4 s3 => ⟨[3, 4, 5], jg_tup2 rfl ⟨_, rfl, fun p5 =>
      jgs_name 3 [.bw v_0, .bw v_1, .mu (.lst s3), .fr p5.1, .un, .un, .un, .un] hnd (jgs_cons (jg_tup2 rfl ⟨_, rfl, fun p6 =>
      jgs_name 4 [.bw v_0, .bw v_1, .mu (.lst s3), .fr p5.1, .fr p6.1, .un, .un, .un] hnd (jgs_name 5 [.bw v_0, .bw v_1, .mu (.lst s3), .fr p5.1, .fr p6.1, .fr p6.2, .un, .un] hnd (jgs_nil (jgs_nil (jss_cons (js_set 6 hnd (je_join (fun (a7 : D) => .fr a7) (fun a7 => [.bw v_0, .bw v_1, .mu (.lst s3), .fr p5.1, .fr p6.1, .fr p6.2, .un, .un]) (je_if (jt_cmp cmp_ltD rfl (je_bin op_addD (je_fr 3 rfl (je_int (⟨_, _, _, rfl, rfl, rfl, fun t8 _ =>
      je_callB c_len h.n_len (ja_cons (je_bw 0 rfl (ja_nil (⟨_, _, rfl, rfl, fun t9 _ =>
      ⟨_, _, _, rfl, rfl, rfl, fun b10 =>
      ⟨_, _, rfl, je_bin op_subD (je_bin op_addD (je_ix ix_D (fun _ _ => rfl) (je_ix ix_D (fun _ _ => rfl) (je_bw 0 rfl (je_bin op_addD (je_fr 3 rfl (je_int (⟨_, _, _, rfl, rfl, rfl, fun t11 _ =>
      ⟨_, _, _, rfl, rfl, rfl, fun t12 _ =>
      je_int (⟨_, _, _, rfl, rfl, rfl, fun t13 _ =>
      je_bw 1 rfl (⟨_, _, _, rfl, rfl, rfl, fun t14 _ =>
      je_int (⟨_, _, _, rfl, rfl, rfl, fun t15 _ =>
      ⟨_, rfl, rfl, rfl⟩⟩)⟩)⟩)⟩⟩)))))))), je_non (⟨_, rfl, rfl, rfl⟩)⟩⟩⟩))))⟩)))))) (fun a7 =>
      ⟨[.bw v_0, .bw v_1, .mu (.lst s3), .fr p5.1, .fr p6.1, .fr p6.2, .fr a7, .un], rfl, rfl, rfl,
      jss_cons (js_set 7 hnd (je_bin op_subD (je_bin op_addD (je_fr 4 rfl (je_bw 1 rfl (⟨_, _, _, rfl, rfl, rfl, fun t16 _ =>
      je_int (⟨_, _, _, rfl, rfl, rfl, fun t17 _ =>
      ⟨[.bw v_0, .bw v_1, .mu (.lst s3), .fr p5.1, .fr p6.1, .fr p6.2, .fr a7, .fr t17], rfl, rfl, rfl,
      jss_cons (js_joinS (fun (s18 : List D × D) => [.bw v_0, .bw v_1, .mu (.lst s18.1), .fr p5.1, .fr p6.1, .fr p6.2, .fr a7, .fr s18.2]) (js_if (jt_join (fun (a22 : Bool) => a22) (fun a22 => [.bw v_0, .bw v_1, .mu (.lst s3), .fr p5.1, .fr p6.1, .fr p6.2, .fr a7, .fr t17]) (jt_w (jw_and (jt_cmp cmp_geD rfl (je_fr 5 rfl (je_bw 1 rfl (⟨_, _, _, rfl, rfl, rfl, fun b23 =>
      ⟨_, _, rfl, jw_and (jt_cmp (cmp_neD hr.hu) rfl (je_bo 2 rfl (.inl ⟨_, rfl⟩) (je_lst (ja_nil (⟨_, rfl, rfl, ⟨_, _, _, rfl, rfl, rfl, fun b24 =>
      ⟨_, _, rfl, jw_and1 (jt_cmp (cmp_eqD hr.hu) rfl (je_ix ix_D (fun _ _ => rfl) (je_ix ix_D (fun _ _ => rfl) (je_bo 2 rfl (.inl ⟨_, rfl⟩) (je_un un_negD (je_int (⟨_, _, rfl, rfl, fun t25 _ =>
      ⟨_, _, _, rfl, rfl, rfl, fun t26 _ =>
      je_int (⟨_, _, _, rfl, rfl, rfl, fun t27 _ =>
      je_bin op_subD (je_fr 7 rfl (je_int (⟨_, _, _, rfl, rfl, rfl, fun t28 _ =>
      ⟨_, _, _, rfl, rfl, rfl, fun b29 =>
      ⟨_, rfl, rfl, rfl⟩⟩⟩)))⟩)⟩⟩))))))), ⟨_, rfl, rfl, rfl⟩⟩⟩⟩))))), ⟨_, rfl, rfl, rfl⟩⟩⟩)))))) (fun a22 =>
      ⟨_, _, rfl, jss_one (js_set 7 hnd (je_ix ix_D (fun _ _ => rfl) (je_mutL0 2 g_pop PySem.F.slot_list_pop PySem.F.type_list_pop m_pop rfl rfl rfl ⟨_, fun a30 => [.bw v_0, .bw v_1, .mu (.lst a30.2), .fr p5.1, .fr p6.1, .fr p6.2, .fr a7, .fr t17], rfl, fun _ => rfl, fun a30 =>
      je_int (⟨_, _, _, rfl, rfl, rfl, fun t31 _ =>
      ⟨[.bw v_0, .bw v_1, .mu (.lst a30.2), .fr p5.1, .fr p6.1, .fr p6.2, .fr a7, .fr t31], rfl, rfl, rfl,
      ⟨_, rfl, (le_s (le_s (le_s (le_s (le_s (le_s (le_s (le_s (le_n)))))))))⟩⟩⟩)⟩))), jss_nil (⟨_, rfl, (le_s (le_s (le_s (le_s (le_s (le_s (le_s (le_s (le_n)))))))))⟩)⟩))) (fun s18 =>
      jss_one (js_joinS (fun (s19 : List D) => [.bw v_0, .bw v_1, .mu (.lst s19), .fr p5.1, .fr p6.1, .fr p6.2, .fr a7, .fr s18.2]) (js_if (jt_cmp cmp_geD rfl (je_fr 5 rfl (je_bw 1 rfl (⟨_, _, _, rfl, rfl, rfl, fun b20 =>
      ⟨_, _, rfl, jss_one (js_expr (je_mutL 2 g_app PySem.F.slot_list_append PySem.F.type_list_append m_append rfl rfl rfl (ja_cons (je_tup (ja_cons (je_fr 7 rfl (ja_cons (je_fr 6 rfl (ja_nil (⟨_, rfl, rfl, ja_nil (⟨_, _, _, _, fun a21 => [.bw v_0, .bw v_1, .mu (.lst a21.2), .fr p5.1, .fr p6.1, .fr p6.2, .fr a7, .fr s18.2], rfl, rfl, rfl, rfl, rfl, fun _ => rfl, fun a21 =>
      ⟨_, rfl, (le_s (le_s (le_s (le_s (le_s (le_s (le_s (le_s (le_n)))))))))⟩⟩)⟩)))))))))), jss_nil (⟨_, rfl, (le_s (le_s (le_s (le_s (le_s (le_s (le_s (le_s (le_n)))))))))⟩)⟩⟩))))) (fun s19 =>
      ⟨_, rfl, (le_s (le_s (le_s (le_u (le_u (le_u (le_u (le_u (le_n)))))))))⟩))))⟩⟩)⟩))))))⟩)))))))⟩))⟩⟩, fun s32 =>
      jss_one (js_ret (je_fzv' 2 [.bw v_0, .bw v_1, .fr (D.lst s32), .un, .un, .un, .un, .un] rfl rfl (⟨_, rfl, rfl, oa_n⟩)))⟩⟩))))⟩⟩)))))

def d_t_fewest_sets : List D → Res (D)
  | [v_0] =>
      (d_t_need_table [v_0]).bind fun a1 =>
      (d_t_is_rows [v_0]).bind fun a2 =>
      op (truD a2) fun b3 =>
      if (!b3) = true then (op (cutA v_0 (some 1) none) fun t5 =>
      op (zipX v_0 t5) fun ds4 =>
      (lcF ds4 (() : Unit) [] fun d7 s6 =>
      op (un2 d7) fun p8 =>
      op (ixD p8.2 (D.int 1)) fun t9 =>
      op (ixD p8.1 (D.int 1)) fun t10 =>
      op (subD t10 (D.int 1)) fun t11 =>
      op (ltD t9 t11) fun b12 =>
      if b12 = true then (op (ixD p8.2 (D.int 0)) fun t13 =>
      op (subD t13 (D.int 1)) fun t14 =>
      .ok (some t14, ())) else (.ok (none, ()))).bind fun q15 =>
      op (ixD (D.lst q15.1) (D.int 0)) fun t16 =>
      .ok (D.tup [(D.str "falls"), t16])) else (op (asL v_0) fun ds17 =>
      (lcF ds17 (() : Unit) [] fun d19 s18 =>
      op (un2 d19) fun p20 =>
      .ok (some p20.2, ())).bind fun q21 =>
      op (max1D [(D.lst q21.1)]) fun t22 =>
      op (gtD t22 (D.int 300)) fun b23 =>
      if b23 = true then (.bad) else (op (negD (D.int 1)) fun t25 =>
      op (rngdD [t22, (D.int 0), t25]) fun ds24 =>
      (lcF ds24 (() : Unit) [] fun d27 s26 =>
      (d_t_level [v_0, d27]).bind fun a28 =>
      .ok (some a28, ())).bind fun q29 =>
      .ok (D.tup [(D.str "row"), (D.lst q29.1)])))  | _ => .bad
abbrev n_t_fewest_sets : List Str := ["table", "most", "falls", "one", "other", "company", "many", "least"]
theorem sc_t_fewest_sets : FnScope n_t_fewest_sets ["table"] (defScope (topS 31)) := ⟨rfl, rfl, rfl, by decide +kernel, rfl, by decide +kernel, by decide +kernel⟩
theorem ok_t_fewest_sets (h : Txt K mg) : Df P w K mg base 5 "fewest_sets" [.b] d_t_fewest_sets (fun a => a) (fun a => []) false := by
  obtain ⟨fa, fd, F, B, M⟩ := h.f_t_fewest_sets
  refine ⟨fa, fd, _, fn_D (k := 4) F sc_t_fewest_sets rfl 0 (fun _ => rfl) rfl (fun X en cdv A outer s H E ds hX hr hn hL hp hl => ?_), M, F.kp, B⟩
  have hnd := (sc_t_fewest_sets).nd
  subst hX
  obtain ⟨v_0, rfl⟩ := len1 hl
  unfold d_t_fewest_sets
  exact (jss_cons (js_expr (je_call (ok_t_need_table h) (hr.mono (by decide)) hL (ja_cons (je_bw 0 rfl (ja_nil (⟨_, [], _, fun a1 => [.bw v_0, .un, .un, .un, .un, .un, .un, .un], rfl, rfl, List.nodup_nil, rfl, fun _ => rfl, fun a1 _ =>
      jss_cons (js_if (jt_not (jt_tru (je_call (ok_t_is_rows h) (hr.mono (by decide)) hL (ja_cons (je_bw 0 rfl (ja_nil (⟨_, [], _, fun a2 => [.bw v_0, .un, .un, .un, .un, .un, .un, .un], rfl, rfl, List.nodup_nil, rfl, fun _ => rfl, fun a2 _ =>
      ⟨_, _, rfl, rfl, fun b3 =>
      ⟨_, _, rfl, jss_cons (js_setLc 2 [("one", 3), ("other", 4)] rfl hnd (ji_zipX h.n_zip (ja_cons (je_bw 0 rfl (ja_cons (je_cutA (je_bw 0 rfl (jo_int (jo_none (⟨_, _, rfl, rfl, fun t5 =>
      ja_nil (⟨_, _, _, _, _, rfl, rfl, rfl, rfl, fun ds4 =>
      ⟨_, _, _, (fun s6 => [.bw v_0, .un, .un, .un, .un, .un, .un, .un]), (fun s6 => [.bw v_0, .un, .un, .un, .un, .un, .un, .un]), rfl, (le_s (le_s (le_s (le_s (le_s (le_s (le_s (le_s (le_n))))))))), rfl, fun _ he d7 s6 _ _ _ _ _ _ => ⟨[3, 4], (fun _ h => h), jg_tup2 rfl ⟨_, rfl, fun p8 =>
      jgs_name 3 [.bw v_0, .un, .un, .fr p8.1, .un, .un, .un, .un] hnd (jgs_name 4 [.bw v_0, .un, .un, .fr p8.1, .fr p8.2, .un, .un, .un] hnd (jgs_nil (fun _ _ _ _ _ => jt_cmp cmp_ltD rfl (je_ix ix_D (fun _ _ => rfl) (je_fr 4 rfl (je_int (⟨_, _, _, rfl, rfl, rfl, fun t9 _ =>
      je_bin op_subD (je_ix ix_D (fun _ _ => rfl) (je_fr 3 rfl (je_int (⟨_, _, _, rfl, rfl, rfl, fun t10 _ =>
      je_int (⟨_, _, _, rfl, rfl, rfl, fun t11 _ =>
      ⟨_, _, _, rfl, rfl, rfl, fun b12 =>
      ⟨_, _, rfl, fun _ _ _ _ _ => je_bin op_subD (je_ix ix_D (fun _ _ => rfl) (je_fr 4 rfl (je_int (⟨_, _, _, rfl, rfl, rfl, fun t13 _ =>
      je_int (⟨_, _, _, rfl, rfl, rfl, fun t14 _ =>
      ⟨_, _, rfl, rfl, (le_s (le_s (le_s (le_s (le_s (le_s (le_s (le_s (le_n))))))))), rfl⟩⟩)⟩)))), ⟨_, rfl, (le_s (le_s (le_s (le_s (le_s (le_s (le_s (le_s (le_n))))))))), rfl⟩⟩⟩⟩)⟩))))⟩)))))))⟩⟩, fun _ => rfl, fun q15 => ⟨[.bw v_0, .un, .mu (.lst q15.1), .un, .un, .un, .un, .un], rfl, rfl,
      jss_one (js_ret (je_tup (ja_cons (je_str (ja_cons (je_ix ix_D (fun _ _ => rfl) (je_bo 2 rfl (.inl ⟨_, rfl⟩) (je_int (⟨_, _, _, rfl, rfl, rfl, fun t16 _ =>
      ja_nil (⟨_, rfl, rfl, ⟨_, rfl, rfl, oa_n⟩⟩)⟩)))))))))⟩⟩⟩)⟩))))))))) (ok := by (refine blkOk_by ?_; first | (dsimp only [cxOf, envOfC, Cx.blk]; decide +kernel) | exact Eq.refl true))), jss_nil (jss_cons (js_set 1 hnd (je_callB (c_max1 rfl) h.n_max (ja_cons (je_lc [("company", 5), ("many", 6)] rfl hnd (ji_any (je_bw 0 rfl (⟨_, _, rfl, rfl, fun ds17 =>
      ⟨_, _, _, (fun s18 => [.bw v_0, .un, .un, .un, .un, .un, .un, .un]), (fun s18 => [.bw v_0, .un, .un, .un, .un, .un, .un, .un]), rfl, (le_s (le_s (le_s (le_s (le_s (le_s (le_s (le_s (le_n))))))))), rfl, fun _ he d19 s18 _ _ _ _ _ _ => ⟨[5, 6], (fun _ h => h), jg_tup2 rfl ⟨_, rfl, fun p20 =>
      jgs_name 5 [.bw v_0, .un, .un, .un, .un, .fr p20.1, .un, .un] hnd (jgs_name 6 [.bw v_0, .un, .un, .un, .un, .fr p20.1, .fr p20.2, .un] hnd (jgs_nil (fun _ _ _ _ _ => je_fr 6 rfl (⟨_, _, rfl, rfl, (le_s (le_s (le_s (le_s (le_s (le_s (le_s (le_s (le_n))))))))), rfl⟩))))⟩⟩, fun _ => rfl, fun q21 =>
      ja_nil (⟨_, _, rfl, rfl, fun t22 _ =>
      ⟨[.bw v_0, .fr t22, .un, .un, .un, .un, .un, .un], rfl, rfl, rfl,
      jss_cons (js_if (jt_cmp cmp_gtD rfl (je_fr 1 rfl (je_gi h.g_MOST_MADE (⟨_, _, _, rfl, rfl, rfl, fun b23 =>
      ⟨_, _, rfl, jss_one (js_bad), jss_nil (jss_one (js_ret (je_tup (ja_cons (je_str (ja_cons (je_fz (je_lc [("least", 7)] rfl hnd (ji_rangeD h.n_range (ja_cons (je_fr 1 rfl (ja_cons (je_int (ja_cons (je_un un_negD (je_int (⟨_, _, rfl, rfl, fun t25 _ =>
      ja_nil (⟨_, _, rfl, rfl, fun ds24 =>
      ⟨_, _, _, (fun s26 => [.bw v_0, .fr t22, .un, .un, .un, .un, .un, .un]), (fun s26 => [.bw v_0, .fr t22, .un, .un, .un, .un, .un, .un]), rfl, (le_s (le_s (le_s (le_s (le_s (le_s (le_s (le_s (le_n))))))))), rfl, fun _ he d27 s26 _ _ _ _ _ _ => ⟨[7], (fun _ h => h), jg_name 7 [.bw v_0, .fr t22, .un, .un, .un, .un, .un, .fr d27] hnd (fun _ _ _ _ _ => je_call (ok_t_level h) (hr.mono (by decide)) he.lk (ja_cons (je_bw 0 rfl (ja_cons (je_fr 7 rfl (ja_nil (⟨_, [], _, fun a28 => [.bw v_0, .fr t22, .un, .un, .un, .un, .un, .fr d27], rfl, rfl, List.nodup_nil, rfl, fun _ => rfl, fun a28 _ =>
      ⟨_, _, rfl, rfl, (le_s (le_s (le_s (le_s (le_s (le_s (le_s (le_s (le_n))))))))), rfl⟩⟩)))))))⟩, fun _ => rfl, fun q29 =>
      ja_nil (⟨_, rfl, rfl, ⟨_, rfl, rfl, oa_n⟩⟩)⟩⟩)⟩))))))))) (ok := by (refine blkOk_by ?_; first | (dsimp only [cxOf, envOfC, Cx.blk]; decide +kernel) | exact Eq.refl true))))))))))⟩⟩)))))⟩⟩)⟩⟩))) (ok := by (refine blkOk_by ?_; first | (dsimp only [cxOf, envOfC, Cx.blk]; decide +kernel) | exact Eq.refl true)))))))⟩⟩⟩))))))))⟩)))))))

def d_t_need_rows : List D → Res (D)
  | [v_0] =>
      (d_t_is_rows [v_0]).bind fun a1 =>
      op (truD a1) fun b2 =>
      if (!b2) = true then (.bad) else (.ok D.non)  | _ => .bad
abbrev n_t_need_rows : List Str := ["thing"]
theorem sc_t_need_rows : FnScope n_t_need_rows ["thing"] (defScope (topS 12)) := ⟨rfl, rfl, rfl, by decide +kernel, rfl, by decide +kernel, by decide +kernel⟩
theorem ok_t_need_rows (h : Txt K mg) : Df P w K mg base 5 "need_rows" [.b] d_t_need_rows (fun a => a) (fun a => []) false := by
  obtain ⟨fa, fd, F, B, M⟩ := h.f_t_need_rows
  refine ⟨fa, fd, _, fn_D (k := 4) F sc_t_need_rows rfl 0 (fun _ => rfl) rfl (fun X en cdv A outer s H E ds hX hr hn hL hp hl => ?_), M, F.kp, B⟩
  have hnd := (sc_t_need_rows).nd
  subst hX
  obtain ⟨v_0, rfl⟩ := len1 hl
  unfold d_t_need_rows
  exact (jss_one (js_if (jt_not (jt_tru (je_call (ok_t_is_rows h) (hr.mono (by decide)) hL (ja_cons (je_bw 0 rfl (ja_nil (⟨_, [], _, fun a1 => [.bw v_0], rfl, rfl, List.nodup_nil, rfl, fun _ => rfl, fun a1 _ =>
      ⟨_, _, rfl, rfl, fun b2 =>
      ⟨_, _, rfl, jss_one (js_bad), jss_nil (⟨rfl, _, rfl, rfl, oa_n⟩)⟩⟩⟩)))))))))

def d_t_many_by : List D → Res (D)
  | [v_0, v_1] =>
      op (asL v_0) fun ds1 =>
      (lcF ds1 (() : Unit) [] fun d3 s2 =>
      op (un2 d3) fun p4 =>
      op (leD p4.1 v_1) fun b5 =>
      if b5 = true then (.ok (some p4.2, ())) else (.ok (none, ()))).bind fun q6 =>
      op (negD (D.int 1)) fun t7 =>
      op (ixD (D.lst q6.1) t7) fun t8 =>
      .ok t8  | _ => .bad
abbrev n_t_many_by : List Str := ["table", "company", "first", "many"]
theorem sc_t_many_by : FnScope n_t_many_by ["table", "company"] (defScope (topS 16)) := ⟨rfl, rfl, rfl, by decide +kernel, rfl, by decide +kernel, by decide +kernel⟩
theorem ok_t_many_by (h : Txt K mg) : Df P w K mg base 1 "many_by" [.b, .b] d_t_many_by (fun a => a) (fun a => []) false := by
  obtain ⟨fa, fd, F, B, M⟩ := h.f_t_many_by
  refine ⟨fa, fd, _, fn_D (k := 0) F sc_t_many_by rfl 0 (fun _ => rfl) rfl (fun X en cdv A outer s H E ds hX hr hn hL hp hl => ?_), M, F.kp, B⟩
  have hnd := (sc_t_many_by).nd
  subst hX
  obtain ⟨v_0, v_1, rfl⟩ := len2 hl
  unfold d_t_many_by
  exact (jss_one (js_ret (je_ix ix_D (fun _ _ => rfl) (je_lc [("first", 2), ("many", 3)] rfl hnd (ji_any (je_bw 0 rfl (⟨_, _, rfl, rfl, fun ds1 =>
      ⟨_, _, _, (fun s2 => [.bw v_0, .bw v_1, .un, .un]), (fun s2 => [.bw v_0, .bw v_1, .un, .un]), rfl, (le_s (le_s (le_s (le_s (le_n))))), rfl, fun _ he d3 s2 _ _ _ _ _ _ => ⟨[2, 3], (fun _ h => h), jg_tup2 rfl ⟨_, rfl, fun p4 =>
      jgs_name 2 [.bw v_0, .bw v_1, .fr p4.1, .un] hnd (jgs_name 3 [.bw v_0, .bw v_1, .fr p4.1, .fr p4.2] hnd (jgs_nil (fun _ _ _ _ _ => jt_cmp cmp_leD rfl (je_fr 2 rfl (je_bw 1 rfl (⟨_, _, _, rfl, rfl, rfl, fun b5 =>
      ⟨_, _, rfl, fun _ _ _ _ _ => je_fr 3 rfl (⟨_, _, rfl, rfl, (le_s (le_s (le_s (le_s (le_n))))), rfl⟩), ⟨_, rfl, (le_s (le_s (le_s (le_s (le_n))))), rfl⟩⟩⟩))))))⟩⟩, fun _ => rfl, fun q6 =>
      je_un un_negD (je_int (⟨_, _, rfl, rfl, fun t7 _ =>
      ⟨_, _, _, rfl, rfl, rfl, fun t8 _ =>
      ⟨_, rfl, rfl, oa_n⟩⟩⟩))⟩⟩))) (ok := by (refine blkOk_by ?_; first | (dsimp only [cxOf, envOfC, Cx.blk]; decide +kernel) | exact Eq.refl true))))))

def d_t_shown_at_once : List D → Res (D)
  | [v_0, v_1] =>
      (d_t_need_rows [v_0]).bind fun a1 =>
      ((if (!(isTup v_1)) = true then (.ok true) else (op (lenD [v_1]) fun t3 =>
      op (neD t3 (D.int 2)) fun b4 =>
      if b4 = true then (.ok true) else (op (ixD v_1 (D.int 0)) fun t5 =>
      if (!(isStr t5)) = true then (.ok true) else (op (ixD v_1 (D.int 0)) fun t6 =>
      op (neD t6 (D.str "at once")) fun b7 =>
      .ok b7))) : Res (Bool))).bind fun a2 =>
      if a2 = true then (.ok D.non) else (((op (ixD v_1 (D.int 1)) fun t9 =>
      (d_t_is_number [t9]).bind fun a10 =>
      op (truD a10) fun b11 =>
      if b11 = true then (op (ixD v_1 (D.int 1)) fun t12 =>
      (d_t_many_by [v_0, t12]).bind fun a13 =>
      .ok a13) else (.ok D.non) : Res (D))).bind fun a8 =>
      .ok a8)  | _ => .bad
abbrev n_t_shown_at_once : List Str := ["table", "paper"]
theorem sc_t_shown_at_once : FnScope n_t_shown_at_once ["table", "paper"] (defScope (topS 32)) := ⟨rfl, rfl, rfl, by decide +kernel, rfl, by decide +kernel, by decide +kernel⟩
theorem ok_t_shown_at_once (h : Txt K mg) : Df P w K mg base 6 "shown_at_once" [.b, .b] d_t_shown_at_once (fun a => a) (fun a => []) false := by
  obtain ⟨fa, fd, F, B, M⟩ := h.f_t_shown_at_once
  refine ⟨fa, fd, _, fn_D (k := 5) F sc_t_shown_at_once rfl 0 (fun _ => rfl) rfl (fun X en cdv A outer s H E ds hX hr hn hL hp hl => ?_), M, F.kp, B⟩
  have hnd := (sc_t_shown_at_once).nd
  subst hX
  obtain ⟨v_0, v_1, rfl⟩ := len2 hl
  unfold d_t_shown_at_once
  exact (jss_cons (js_expr (je_call (ok_t_need_rows h) (hr.mono (by decide)) hL (ja_cons (je_bw 0 rfl (ja_nil (⟨_, [], _, fun a1 => [.bw v_0, .bw v_1], rfl, rfl, List.nodup_nil, rfl, fun _ => rfl, fun a1 _ =>
      jss_cons (js_if (jt_join (fun (a2 : Bool) => a2) (fun a2 => [.bw v_0, .bw v_1]) (jt_w (jw_or (jt_not (jt_bl (je_isi kit_tup h.n_isinstance h.n_tuple (je_bw 1 rfl (⟨_, rfl, ⟨_, rfl, ⟨_, _, rfl, ⟨_, rfl, rfl, rfl⟩, jw_or (jt_cmp (cmp_neD hr.hu) rfl (je_callB c_len h.n_len (ja_cons (je_bw 1 rfl (ja_nil (⟨_, _, rfl, rfl, fun t3 _ =>
      je_int (⟨_, _, _, rfl, rfl, rfl, fun b4 =>
      ⟨_, _, rfl, ⟨_, rfl, rfl, rfl⟩, jw_or (jt_not (jt_bl (je_isi kit_str h.n_isinstance h.n_str (je_ix ix_D (fun _ _ => rfl) (je_bw 1 rfl (je_int (⟨_, _, _, rfl, rfl, rfl, fun t5 _ =>
      ⟨_, rfl, ⟨_, rfl, ⟨_, _, rfl, ⟨_, rfl, rfl, rfl⟩, jw_or1 (jt_cmp (cmp_neD hr.hu) rfl (je_ix ix_D (fun _ _ => rfl) (je_bw 1 rfl (je_int (⟨_, _, _, rfl, rfl, rfl, fun t6 _ =>
      je_gs h.g_AT_ONCE (⟨_, _, _, rfl, rfl, rfl, fun b7 =>
      ⟨_, rfl, rfl, rfl⟩⟩)⟩)))))⟩⟩⟩⟩)))))))⟩⟩)⟩))))))⟩⟩⟩))))))) (fun a2 =>
      ⟨_, _, rfl, jss_one (js_ret (je_non (⟨_, rfl, rfl, oa_n⟩))), jss_nil (jss_one (js_ret (je_join (fun (a8 : D) => .fr a8) (fun a8 => [.bw v_0, .bw v_1]) (je_if (jt_tru (je_call (ok_t_is_number h) (hr.mono (by decide)) hL (ja_cons (je_ix ix_D (fun _ _ => rfl) (je_bw 1 rfl (je_int (⟨_, _, _, rfl, rfl, rfl, fun t9 _ =>
      ja_nil (⟨_, [], _, fun a10 => [.bw v_0, .bw v_1], rfl, rfl, List.nodup_nil, rfl, fun _ => rfl, fun a10 _ =>
      ⟨_, _, rfl, rfl, fun b11 =>
      ⟨_, _, rfl, je_call (ok_t_many_by h) (hr.mono (by decide)) hL (ja_cons (je_bw 0 rfl (ja_cons (je_ix ix_D (fun _ _ => rfl) (je_bw 1 rfl (je_int (⟨_, _, _, rfl, rfl, rfl, fun t12 _ =>
      ja_nil (⟨_, [], _, fun a13 => [.bw v_0, .bw v_1], rfl, rfl, List.nodup_nil, rfl, fun _ => rfl, fun a13 _ =>
      ⟨_, rfl, rfl, rfl⟩⟩)⟩))))))), je_non (⟨_, rfl, rfl, rfl⟩)⟩⟩⟩)⟩)))))))) (fun a8 =>
      ⟨_, rfl, rfl, oa_n⟩))))⟩)))⟩)))))))

def d_t_at_once : List D → Res (D)
  | [v_0] =>
      (d_t_need_rows [v_0]).bind fun a1 =>
      op (asL v_0) fun ds2 =>
      (lcF ds2 (() : Unit) [] fun d4 s3 =>
      op (un2 d4) fun p5 =>
      .ok (some p5.2, ())).bind fun q6 =>
      op (max1D [(D.lst q6.1)]) fun t7 =>
      op (asL v_0) fun ds8 =>
      (lcF ds8 (() : Unit) [] fun d10 s9 =>
      op (un2 d10) fun p11 =>
      op (eqD p11.2 t7) fun b12 =>
      if b12 = true then (.ok (some p11.1, ())) else (.ok (none, ()))).bind fun q13 =>
      op (ixD (D.lst q13.1) (D.int 0)) fun t14 =>
      .ok (D.tup [(D.str "at once"), t14])  | _ => .bad
abbrev n_t_at_once : List Str := ["table", "most", "company", "many"]
theorem sc_t_at_once : FnScope n_t_at_once ["table"] (defScope (topS 33)) := ⟨rfl, rfl, rfl, by decide +kernel, rfl, by decide +kernel, by decide +kernel⟩
theorem ok_t_at_once (h : Txt K mg) : Df P w K mg base 6 "at_once" [.b] d_t_at_once (fun a => a) (fun a => []) false := by
  obtain ⟨fa, fd, F, B, M⟩ := h.f_t_at_once
  refine ⟨fa, fd, _, fn_D (k := 5) F sc_t_at_once rfl 0 (fun _ => rfl) rfl (fun X en cdv A outer s H E ds hX hr hn hL hp hl => ?_), M, F.kp, B⟩
  have hnd := (sc_t_at_once).nd
  subst hX
  obtain ⟨v_0, rfl⟩ := len1 hl
  unfold d_t_at_once
  exact (jss_cons (js_expr (je_call (ok_t_need_rows h) (hr.mono (by decide)) hL (ja_cons (je_bw 0 rfl (ja_nil (⟨_, [], _, fun a1 => [.bw v_0, .un, .un, .un], rfl, rfl, List.nodup_nil, rfl, fun _ => rfl, fun a1 _ =>
      jss_cons (js_set 1 hnd (je_callB (c_max1 rfl) h.n_max (ja_cons (je_lc [("company", 2), ("many", 3)] rfl hnd (ji_any (je_bw 0 rfl (⟨_, _, rfl, rfl, fun ds2 =>
      ⟨_, _, _, (fun s3 => [.bw v_0, .un, .un, .un]), (fun s3 => [.bw v_0, .un, .un, .un]), rfl, (le_s (le_s (le_s (le_s (le_n))))), rfl, fun _ he d4 s3 _ _ _ _ _ _ => ⟨[2, 3], (fun _ h => h), jg_tup2 rfl ⟨_, rfl, fun p5 =>
      jgs_name 2 [.bw v_0, .un, .fr p5.1, .un] hnd (jgs_name 3 [.bw v_0, .un, .fr p5.1, .fr p5.2] hnd (jgs_nil (fun _ _ _ _ _ => je_fr 3 rfl (⟨_, _, rfl, rfl, (le_s (le_s (le_s (le_s (le_n))))), rfl⟩))))⟩⟩, fun _ => rfl, fun q6 =>
      ja_nil (⟨_, _, rfl, rfl, fun t7 _ =>
      ⟨[.bw v_0, .fr t7, .un, .un], rfl, rfl, rfl,
      jss_one (js_ret (je_tup (ja_cons (je_gs h.g_AT_ONCE (ja_cons (je_ix ix_D (fun _ _ => rfl) (je_lc [("company", 2), ("many", 3)] rfl hnd (ji_any (je_bw 0 rfl (⟨_, _, rfl, rfl, fun ds8 =>
      ⟨_, _, _, (fun s9 => [.bw v_0, .fr t7, .un, .un]), (fun s9 => [.bw v_0, .fr t7, .un, .un]), rfl, (le_s (le_s (le_s (le_s (le_n))))), rfl, fun _ he d10 s9 _ _ _ _ _ _ => ⟨[2, 3], (fun _ h => h), jg_tup2 rfl ⟨_, rfl, fun p11 =>
      jgs_name 2 [.bw v_0, .fr t7, .fr p11.1, .un] hnd (jgs_name 3 [.bw v_0, .fr t7, .fr p11.1, .fr p11.2] hnd (jgs_nil (fun _ _ _ _ _ => jt_cmp (cmp_eqD hr.hu) rfl (je_fr 3 rfl (je_fr 1 rfl (⟨_, _, _, rfl, rfl, rfl, fun b12 =>
      ⟨_, _, rfl, fun _ _ _ _ _ => je_fr 2 rfl (⟨_, _, rfl, rfl, (le_s (le_s (le_s (le_s (le_n))))), rfl⟩), ⟨_, rfl, (le_s (le_s (le_s (le_s (le_n))))), rfl⟩⟩⟩))))))⟩⟩, fun _ => rfl, fun q13 =>
      je_int (⟨_, _, _, rfl, rfl, rfl, fun t14 _ =>
      ja_nil (⟨_, rfl, rfl, ⟨_, rfl, rfl, oa_n⟩⟩)⟩)⟩⟩))) (ok := by (refine blkOk_by ?_; first | (dsimp only [cxOf, envOfC, Cx.blk]; decide +kernel) | exact Eq.refl true)))))))))⟩⟩)⟩⟩))) (ok := by (refine blkOk_by ?_; first | (dsimp only [cxOf, envOfC, Cx.blk]; decide +kernel) | exact Eq.refl true))))))⟩)))))))

def d_l_level : List D → Res (D)
  | [v_0, v_1] =>
      op (lenD [v_0]) fun t2 =>
      op (rngD [t2]) fun ds1 =>
      (forS ds1 (([] : List D) : List D) fun d5 s4 =>
      op (ixD v_0 d5) fun t6 =>
      op (un2 t6) fun p7 =>
      ((op (addD d5 (D.int 1)) fun t9 =>
      op (lenD [v_0]) fun t10 =>
      op (ltD t9 t10) fun b11 =>
      if b11 = true then (op (addD d5 (D.int 1)) fun t12 =>
      op (ixD v_0 t12) fun t13 =>
      op (ixD t13 (D.int 0)) fun t14 =>
      op (subD t14 (D.int 1)) fun t15 =>
      .ok t15) else (.ok D.non) : Res (D))).bind fun a8 =>
      ((op (geD p7.2 v_1) fun b17 =>
      if b17 = true then (((((op (neD (D.lst s4) (D.lst ([] : List D))) fun b21 =>
      if b21 = true then (op (negD (D.int 1)) fun t22 =>
      op (ixD (D.lst s4) t22) fun t23 =>
      op (ixD t23 (D.int 1)) fun t24 =>
      op (subD p7.1 (D.int 1)) fun t25 =>
      op (eqD t24 t25) fun b26 =>
      .ok b26) else (.ok false) : Res (Bool))).bind fun a20 =>
      if a20 = true then (op (popL s4 []) fun a27 =>
      op (ixD a27.1 (D.int 0)) fun t28 =>
      .ok (a27.2, t28)) else (.ok (s4, p7.1)) : Res (List D × D))).bind fun s18 =>
      op (appL s18.1 [(D.tup [s18.2, a8])]) fun a19 =>
      .ok (a19.2, s18.2)) else (.ok (s4, p7.1)) : Res (List D × D))).bind fun s16 =>
      .ok s16.1).bind fun s29 =>
      .ok (D.lst s29)  | _ => .bad
abbrev n_l_level : List Str := ["_law_table_here", "_law_least", "_law_found", "_law_k", "_law_spot", "_law_many_here", "_law_last"]
theorem sc_l_level : FnScope n_l_level ["_law_table_here", "_law_least"] (defScope (topS 39)) := ⟨rfl, rfl, rfl, by decide +kernel, rfl, by decide +kernel, by decide +kernel⟩
theorem ok_l_level (h : Txt K mg) : Df P w K mg base 1 "_law_level" [.b, .b] d_l_level (fun a => a) (fun a => []) false := by
  obtain ⟨fa, fd, F, B, M⟩ := h.f_l_level
  refine ⟨fa, fd, _, fn_D (k := 0) F sc_l_level rfl 0 (fun _ => rfl) rfl (fun X en cdv A outer s H E ds hX hr hn hL hp hl => ?_), M, F.kp, B⟩
  have hnd := (sc_l_level).nd
  subst hX
  obtain ⟨v_0, v_1, rfl⟩ := len2 hl
  unfold d_l_level
  exact (jss_cons (js_set 2 hnd (je_lst (ja_nil (⟨_, rfl, rfl, ⟨[.bw v_0, .bw v_1, .mu (.lst ([] : List D)), .un, .un, .un, .un], rfl, rfl, rfl,
      jss_cons (js_forS hp rfl (ji_range1 h.n_range (je_callB c_len h.n_len (ja_cons (je_bw 0 rfl (ja_nil (⟨_, _, rfl, rfl, fun t2 _ =>
      ⟨_, _, rfl, rfl, fun ds1 =>
      ⟨_, _, _, (fun (s4 : List D) => [.bw v_0, .bw v_1, .mu (.lst s4), .un, .un, .un, .un]), rfl, (le_s (le_s (le_s (le_s (le_s (le_s (le_s (le_n)))))))), fun _ he3 d5 s4 => ⟨[3], jg_name 3 [.bw v_0, .bw v_1, .mu (.lst s4), .fr d5, .un, .un, .un] hnd (jss_cons (js_asg (je_ix ix_D (fun _ _ => rfl) (je_bw 0 rfl (je_fr 3 rfl (⟨_, _, _, rfl, rfl, rfl, fun t6 _ =>
      ⟨_, [4, 5], rfl, jg_tup2 rfl ⟨_, rfl, fun p7 =>
      jgs_name 4 [.bw v_0, .bw v_1, .mu (.lst s4), .fr d5, .fr p7.1, .un, .un] hnd (jgs_name 5 [.bw v_0, .bw v_1, .mu (.lst s4), .fr d5, .fr p7.1, .fr p7.2, .un] hnd (jgs_nil (jss_cons (js_set 6 hnd (je_join (fun (a8 : D) => .fr a8) (fun a8 => [.bw v_0, .bw v_1, .mu (.lst s4), .fr d5, .fr p7.1, .fr p7.2, .un]) (je_if (jt_cmp cmp_ltD rfl (je_bin op_addD (je_fr 3 rfl (je_int (⟨_, _, _, rfl, rfl, rfl, fun t9 _ =>
      je_callB c_len h.n_len (ja_cons (je_bw 0 rfl (ja_nil (⟨_, _, rfl, rfl, fun t10 _ =>
      ⟨_, _, _, rfl, rfl, rfl, fun b11 =>
      ⟨_, _, rfl, je_bin op_subD (je_ix ix_D (fun _ _ => rfl) (je_ix ix_D (fun _ _ => rfl) (je_bw 0 rfl (je_bin op_addD (je_fr 3 rfl (je_int (⟨_, _, _, rfl, rfl, rfl, fun t12 _ =>
      ⟨_, _, _, rfl, rfl, rfl, fun t13 _ =>
      je_int (⟨_, _, _, rfl, rfl, rfl, fun t14 _ =>
      je_int (⟨_, _, _, rfl, rfl, rfl, fun t15 _ =>
      ⟨_, rfl, rfl, rfl⟩⟩)⟩)⟩⟩))))))), je_non (⟨_, rfl, rfl, rfl⟩)⟩⟩⟩))))⟩)))))) (fun a8 =>
      ⟨[.bw v_0, .bw v_1, .mu (.lst s4), .fr d5, .fr p7.1, .fr p7.2, .fr a8], rfl, rfl, rfl,
      jss_one (js_joinS (fun (s16 : List D × D) => [.bw v_0, .bw v_1, .mu (.lst s16.1), .fr d5, .fr s16.2, .fr p7.2, .fr a8]) (js_if (jt_cmp cmp_geD rfl (je_fr 5 rfl (je_bw 1 rfl (⟨_, _, _, rfl, rfl, rfl, fun b17 =>
      ⟨_, _, rfl, jss_cons (js_joinS (fun (s18 : List D × D) => [.bw v_0, .bw v_1, .mu (.lst s18.1), .fr d5, .fr s18.2, .fr p7.2, .fr a8]) (js_if (jt_join (fun (a20 : Bool) => a20) (fun a20 => [.bw v_0, .bw v_1, .mu (.lst s4), .fr d5, .fr p7.1, .fr p7.2, .fr a8]) (jt_w (jw_and (jt_cmp (cmp_neD hr.hu) rfl (je_bo 2 rfl (.inl ⟨_, rfl⟩) (je_lst (ja_nil (⟨_, rfl, rfl, ⟨_, _, _, rfl, rfl, rfl, fun b21 =>
      ⟨_, _, rfl, jw_and1 (jt_cmp (cmp_eqD hr.hu) rfl (je_ix ix_D (fun _ _ => rfl) (je_ix ix_D (fun _ _ => rfl) (je_bo 2 rfl (.inl ⟨_, rfl⟩) (je_un un_negD (je_int (⟨_, _, rfl, rfl, fun t22 _ =>
      ⟨_, _, _, rfl, rfl, rfl, fun t23 _ =>
      je_int (⟨_, _, _, rfl, rfl, rfl, fun t24 _ =>
      je_bin op_subD (je_fr 4 rfl (je_int (⟨_, _, _, rfl, rfl, rfl, fun t25 _ =>
      ⟨_, _, _, rfl, rfl, rfl, fun b26 =>
      ⟨_, rfl, rfl, rfl⟩⟩⟩)))⟩)⟩⟩))))))), ⟨_, rfl, rfl, rfl⟩⟩⟩⟩))))))) (fun a20 =>
      ⟨_, _, rfl, jss_one (js_set 4 hnd (je_ix ix_D (fun _ _ => rfl) (je_mutL0 2 g_pop PySem.F.slot_list_pop PySem.F.type_list_pop m_pop rfl rfl rfl ⟨_, fun a27 => [.bw v_0, .bw v_1, .mu (.lst a27.2), .fr d5, .fr p7.1, .fr p7.2, .fr a8], rfl, fun _ => rfl, fun a27 =>
      je_int (⟨_, _, _, rfl, rfl, rfl, fun t28 _ =>
      ⟨[.bw v_0, .bw v_1, .mu (.lst a27.2), .fr d5, .fr t28, .fr p7.2, .fr a8], rfl, rfl, rfl,
      ⟨_, rfl, (le_s (le_s (le_s (le_s (le_s (le_s (le_s (le_n))))))))⟩⟩⟩)⟩))), jss_nil (⟨_, rfl, (le_s (le_s (le_s (le_s (le_s (le_s (le_s (le_n))))))))⟩)⟩))) (fun s18 =>
      jss_one (js_expr (je_mutL 2 g_app PySem.F.slot_list_append PySem.F.type_list_append m_append rfl rfl rfl (ja_cons (je_tup (ja_cons (je_fr 4 rfl (ja_cons (je_fr 6 rfl (ja_nil (⟨_, rfl, rfl, ja_nil (⟨_, _, _, _, fun a19 => [.bw v_0, .bw v_1, .mu (.lst a19.2), .fr d5, .fr s18.2, .fr p7.2, .fr a8], rfl, rfl, rfl, rfl, rfl, fun _ => rfl, fun a19 =>
      ⟨_, rfl, (le_s (le_s (le_s (le_s (le_s (le_s (le_s (le_n))))))))⟩⟩)⟩)))))))))))), jss_nil (⟨_, rfl, (le_s (le_s (le_s (le_s (le_s (le_s (le_s (le_n))))))))⟩)⟩⟩))))) (fun s16 =>
      ⟨_, rfl, (le_s (le_s (le_s (le_u (le_u (le_u (le_u (le_n))))))))⟩))⟩))))))⟩⟩⟩))))))⟩, fun s29 =>
      jss_one (js_ret (je_fzv' 2 [.bw v_0, .bw v_1, .fr (D.lst s29), .un, .un, .un, .un] rfl rfl (⟨_, rfl, rfl, oa_n⟩)))⟩⟩⟩)))))))⟩⟩)))))

def d_l_moved : List D → Res (D)
  | [v_0, v_1] =>
      op (asL v_0) fun ds1 =>
      (lcF ds1 (() : Unit) [] fun d3 s2 =>
      op (un2 d3) fun p4 =>
      op (addD p4.1 v_1) fun t5 =>
      ((op (isND p4.2 D.non) fun b7 =>
      if b7 = true then (.ok D.non) else (op (addD p4.2 v_1) fun t8 =>
      .ok t8) : Res (D))).bind fun a6 =>
      .ok (some (D.tup [t5, a6]), ())).bind fun q9 =>
      .ok (D.lst q9.1)  | _ => .bad
abbrev n_l_moved : List Str := ["_law_some", "_law_by", "_law_first", "_law_last"]
theorem sc_l_moved : FnScope n_l_moved ["_law_some", "_law_by"] (defScope (topS 40)) := ⟨rfl, rfl, rfl, by decide +kernel, rfl, by decide +kernel, by decide +kernel⟩
theorem ok_l_moved (h : Txt K mg) : Df P w K mg base 1 "_law_moved" [.b, .b] d_l_moved (fun a => a) (fun a => []) false := by
  obtain ⟨fa, fd, F, B, M⟩ := h.f_l_moved
  refine ⟨fa, fd, _, fn_D (k := 0) F sc_l_moved rfl 0 (fun _ => rfl) rfl (fun X en cdv A outer s H E ds hX hr hn hL hp hl => ?_), M, F.kp, B⟩
  have hnd := (sc_l_moved).nd
  subst hX
  obtain ⟨v_0, v_1, rfl⟩ := len2 hl
  unfold d_l_moved
  exact (jss_one (js_ret (je_fz (je_lc [("_law_first", 2), ("_law_last", 3)] rfl hnd (ji_any (je_bw 0 rfl (⟨_, _, rfl, rfl, fun ds1 =>
      ⟨_, _, _, (fun s2 => [.bw v_0, .bw v_1, .un, .un]), (fun s2 => [.bw v_0, .bw v_1, .un, .un]), rfl, (le_s (le_s (le_s (le_s (le_n))))), rfl, fun _ he d3 s2 _ _ _ _ _ _ => ⟨[2, 3], (fun _ h => h), jg_tup2 rfl ⟨_, rfl, fun p4 =>
      jgs_name 2 [.bw v_0, .bw v_1, .fr p4.1, .un] hnd (jgs_name 3 [.bw v_0, .bw v_1, .fr p4.1, .fr p4.2] hnd (jgs_nil (by exact fun _ _ _ _ _ => je_tup (ja_cons (je_bin op_addD (je_fr 2 rfl (je_bw 1 rfl (⟨_, _, _, rfl, rfl, rfl, fun t5 _ => ja_cons (je_join (fun (a6 : D) => .fr a6) (fun a6 => [.bw v_0, .bw v_1, .fr p4.1, .fr p4.2]) (je_if (jt_cmp cmp_isN rfl (je_fr 3 rfl (je_non (⟨_, _, _, rfl, rfl, rfl, fun b7 => ⟨_, _, rfl, je_non (⟨_, rfl, rfl, rfl⟩), je_bin op_addD (je_fr 3 rfl (je_bw 1 rfl (⟨_, _, _, rfl, rfl, rfl, fun t8 _ => ⟨_, rfl, rfl, rfl⟩⟩)))⟩⟩))))) (fun a6 => ja_nil (⟨_, rfl, rfl, ⟨_, _, rfl, rfl, (le_s (le_s (le_s (le_s (le_n))))), rfl⟩⟩)))⟩))))))))⟩⟩, fun _ => rfl, fun q9 =>
      ⟨_, rfl, rfl, oa_n⟩⟩⟩))) (ok := by (refine blkOk_by ?_; first | (dsimp only [cxOf, envOfC, Cx.blk]; decide +kernel) | exact Eq.refl true))))))

def d_l_many : List D → Res (D)
  | [v_0, v_1] =>
      op (asL v_0) fun ds1 =>
      (lcF ds1 (() : Unit) [] fun d3 s2 =>
      op (un2 d3) fun p4 =>
      op (leD p4.1 v_1) fun b5 =>
      if b5 = true then (.ok (some p4.2, ())) else (.ok (none, ()))).bind fun q6 =>
      op (negD (D.int 1)) fun t7 =>
      op (ixD (D.lst q6.1) t7) fun t8 =>
      .ok t8  | _ => .bad
abbrev n_l_many : List Str := ["_law_table_here", "_law_company", "_law_spot", "_law_many_here"]
theorem sc_l_many : FnScope n_l_many ["_law_table_here", "_law_company"] (defScope (topS 41)) := ⟨rfl, rfl, rfl, by decide +kernel, rfl, by decide +kernel, by decide +kernel⟩
theorem ok_l_many (h : Txt K mg) : Df P w K mg base 1 "_law_many" [.b, .b] d_l_many (fun a => a) (fun a => []) false := by
  obtain ⟨fa, fd, F, B, M⟩ := h.f_l_many
  refine ⟨fa, fd, _, fn_D (k := 0) F sc_l_many rfl 0 (fun _ => rfl) rfl (fun X en cdv A outer s H E ds hX hr hn hL hp hl => ?_), M, F.kp, B⟩
  have hnd := (sc_l_many).nd
  subst hX
  obtain ⟨v_0, v_1, rfl⟩ := len2 hl
  unfold d_l_many
  exact (jss_one (js_ret (je_ix ix_D (fun _ _ => rfl) (je_lc [("_law_spot", 2), ("_law_many_here", 3)] rfl hnd (ji_any (je_bw 0 rfl (⟨_, _, rfl, rfl, fun ds1 =>
      ⟨_, _, _, (fun s2 => [.bw v_0, .bw v_1, .un, .un]), (fun s2 => [.bw v_0, .bw v_1, .un, .un]), rfl, (le_s (le_s (le_s (le_s (le_n))))), rfl, fun _ he d3 s2 _ _ _ _ _ _ => ⟨[2, 3], (fun _ h => h), jg_tup2 rfl ⟨_, rfl, fun p4 =>
      jgs_name 2 [.bw v_0, .bw v_1, .fr p4.1, .un] hnd (jgs_name 3 [.bw v_0, .bw v_1, .fr p4.1, .fr p4.2] hnd (jgs_nil (fun _ _ _ _ _ => jt_cmp cmp_leD rfl (je_fr 2 rfl (je_bw 1 rfl (⟨_, _, _, rfl, rfl, rfl, fun b5 =>
      ⟨_, _, rfl, fun _ _ _ _ _ => je_fr 3 rfl (⟨_, _, rfl, rfl, (le_s (le_s (le_s (le_s (le_n))))), rfl⟩), ⟨_, rfl, (le_s (le_s (le_s (le_s (le_n))))), rfl⟩⟩⟩))))))⟩⟩, fun _ => rfl, fun q6 =>
      je_un un_negD (je_int (⟨_, _, rfl, rfl, fun t7 _ =>
      ⟨_, _, _, rfl, rfl, rfl, fun t8 _ =>
      ⟨_, rfl, rfl, oa_n⟩⟩⟩))⟩⟩))) (ok := by (refine blkOk_by ?_; first | (dsimp only [cxOf, envOfC, Cx.blk]; decide +kernel) | exact Eq.refl true))))))

def d_l_right : List D → Res (D × List D)
  | [.lst v_0, v_1] =>
      op (rprD [v_1]) fun t1 =>
      op (asL v_1) fun ds2 =>
      (lcF ds2 (() : Unit) [] fun d4 s3 =>
      op (un2 d4) fun p5 =>
      .ok (some p5.2, ())).bind fun q6 =>
      op (max1D [(D.lst q6.1)]) fun t7 =>
      op (negD (D.int 1)) fun t9 =>
      op (rngdD [t7, (D.int 0), t9]) fun ds8 =>
      (lcF ds8 (() : Unit) [] fun d11 s10 =>
      (d_l_level [v_1, d11]).bind fun a12 =>
      .ok (some a12, ())).bind fun q13 =>
      op (rngD [t7]) fun ds14 =>
      (lcF ds14 (() : Unit) [] fun d16 s15 =>
      op (ixD (D.lst q13.1) d16) fun t17 =>
      op (subD t7 (D.int 1)) fun t18 =>
      op (subD t18 d16) fun t19 =>
      (d_l_moved [t17, t19]).bind fun a20 =>
      .ok (some a20, ())).bind fun q21 =>
      op (rngD [(D.int 2)]) fun ds22 =>
      fbind (forF ds22 (() : Unit) fun d25 s24 =>
      op (chk [(false, v_1)]) fun _ =>
      (d_t_fewest_sets [v_1]).bind fun a27 =>
      ((op (rprD [a27]) fun t30 =>
      op (rprD [(D.tup [(D.str "row"), (D.lst q21.1)])]) fun t31 =>
      op (neD t30 t31) fun b32 =>
      if b32 = true then (.ok true) else (op (ixD a27 (D.int 1)) fun t33 =>
      (d_t_set_table [t33]).bind fun a34 =>
      op (neD a34 v_1) fun b35 =>
      if b35 = true then (.ok true) else (op (ixD a27 (D.int 1)) fun t36 =>
      (d_t_true_at [t36]).bind fun a37 =>
      op (neD a37 (D.lst q13.1)) fun b38 =>
      .ok b38)) : Res (Bool))).bind fun a29 =>
      if a29 = true then (.ok (.rt (((D.bl false), v_0)))) else (op (tupIx a27 (1)) fun d43 => op (chkL d43) fun _ =>
      .ok (.nx ()))) fun s45 =>
      op (asL v_1) fun ds46 =>
      (lcF ds46 (() : Unit) [] fun d48 s47 =>
      op (un2 d48) fun p49 =>
      op (eqD p49.2 t7) fun b50 =>
      if b50 = true then (.ok (some p49.1, ())) else (.ok (none, ()))).bind fun q51 =>
      op (ixD (D.lst q51.1) (D.int 0)) fun t52 =>
      (((d_t_at_once [v_1]).bind fun a54 =>
      op (rprD [a54]) fun t55 =>
      op (rprD [(D.tup [(D.str "at once"), t52])]) fun t56 =>
      op (neD t55 t56) fun b57 =>
      if b57 = true then (.ok true) else ((d_t_shown_at_once [v_1, (D.tup [(D.str "at once"), t52])]).bind fun a58 =>
      op (neD a58 t7) fun b59 =>
      .ok b59) : Res (Bool))).bind fun a53 =>
      if a53 = true then (.ok ((D.bl false), v_0)) else (op (asL v_1) fun ds60 =>
      fbind (forF ds60 (v_0 : List D) fun d63 s62 =>
      op (un2 d63) fun p64 =>
      op (subD p64.1 (D.int 1)) fun t66 =>
      op (max2D [(D.int 0), t66]) fun t67 =>
      op (powD (D.int 10) (D.int 29)) fun t68 =>
      (d_l_number [(D.lst s62), t68]).bind fun a69 =>
      op (addD p64.1 a69.1) fun t70 =>
      op (asL (D.lst [t67, p64.1, t70])) fun ds65 =>
      fbind (forF ds65 (() : Unit) fun d73 s72 =>
      (d_t_shown_at_once [v_1, (D.tup [(D.str "at once"), d73])]).bind fun a74 =>
      op (rprD [a74]) fun t75 =>
      (d_l_many [v_1, d73]).bind fun a76 =>
      op (rprD [a76]) fun t77 =>
      op (neD t75 t77) fun b78 =>
      if b78 = true then (.ok (.rt ((.rt (((D.bl false), a69.2)))))) else (.ok (.nx ()))) fun s79 =>
      .ok (.nx a69.2)) fun s80 =>
      op (rprD [v_1]) fun t81 =>
      op (eqD t81 t1) fun b82 =>
      .ok ((D.bl b82), s80))  | _ => .bad
abbrev n_l_right : List Str := ["_law_jar_here", "_law_table_here", "_law_kept", "_law_most", "_law_levels", "_law_due", "_law_turn", "_law_first", "_law_spot", "_law_many_here", "_law_told", "_law_some", "_law_company", "_law_k"]
theorem sc_l_right : FnScope n_l_right ["_law_jar_here", "_law_table_here"] (defScope (topS 42)) := ⟨rfl, rfl, rfl, by decide +kernel, rfl, by decide +kernel, by decide +kernel⟩
theorem ok_l_right (h : Txt K mg) : Df P w K mg base 7 "_law_right" [.m, .b] d_l_right (fun a => a.1) (fun a => [.lst a.2]) false := by
  obtain ⟨fa, fd, F, B, M⟩ := h.f_l_right
  refine ⟨fa, fd, _, fn_D (k := 6) F sc_l_right rfl 1 (fun _ => rfl) rfl (fun X en cdv A outer s H E ds hX hr hn hL hp hl => ?_), M, F.kp, B⟩
  have hnd := (sc_l_right).nd
  subst hX
  obtain ⟨v_0, v_1, rfl⟩ := len2 hl
  cases v_0 <;> try exact jss_never
  rename_i v_0
  unfold d_l_right
  exact (jss_cons (js_set 2 hnd (je_callB (c_rpr hr) h.n_repr (ja_cons (je_bw 1 rfl (ja_nil (⟨_, _, rfl, rfl, fun t1 _ =>
      ⟨[.mp 0 (.lst v_0), .bw v_1, .fr t1, .un, .un, .un, .un, .un, .un, .un, .un, .un, .un, .un], rfl, rfl, rfl,
      jss_cons (js_set 3 hnd (je_callB (c_max1 rfl) h.n_max (ja_cons (je_lc [("_law_spot", 8), ("_law_many_here", 9)] rfl hnd (ji_any (je_bw 1 rfl (⟨_, _, rfl, rfl, fun ds2 =>
      ⟨_, _, _, (fun s3 => [.mp 0 (.lst v_0), .bw v_1, .fr t1, .un, .un, .un, .un, .un, .un, .un, .un, .un, .un, .un]), (fun s3 => [.mp 0 (.lst v_0), .bw v_1, .fr t1, .un, .un, .un, .un, .un, .un, .un, .un, .un, .un, .un]), rfl, (le_s (le_s (le_s (le_s (le_s (le_s (le_s (le_s (le_s (le_s (le_s (le_s (le_s (le_s (le_n))))))))))))))), rfl, fun _ he d4 s3 _ _ _ _ _ _ => ⟨[8, 9], (fun _ h => h), jg_tup2 rfl ⟨_, rfl, fun p5 =>
      jgs_name 8 [.mp 0 (.lst v_0), .bw v_1, .fr t1, .un, .un, .un, .un, .un, .fr p5.1, .un, .un, .un, .un, .un] hnd (jgs_name 9 [.mp 0 (.lst v_0), .bw v_1, .fr t1, .un, .un, .un, .un, .un, .fr p5.1, .fr p5.2, .un, .un, .un, .un] hnd (jgs_nil (fun _ _ _ _ _ => je_fr 9 rfl (⟨_, _, rfl, rfl, (le_s (le_s (le_s (le_s (le_s (le_s (le_s (le_s (le_s (le_s (le_s (le_s (le_s (le_s (le_n))))))))))))))), rfl⟩))))⟩⟩, fun _ => rfl, fun q6 =>
      ja_nil (⟨_, _, rfl, rfl, fun t7 _ =>
      ⟨[.mp 0 (.lst v_0), .bw v_1, .fr t1, .fr t7, .un, .un, .un, .un, .un, .un, .un, .un, .un, .un], rfl, rfl, rfl,
      jss_cons (js_set 4 hnd (je_fz (je_lc [("_law_k", 13)] rfl hnd (ji_rangeD h.n_range (ja_cons (je_fr 3 rfl (ja_cons (je_int (ja_cons (je_un un_negD (je_int (⟨_, _, rfl, rfl, fun t9 _ =>
      ja_nil (⟨_, _, rfl, rfl, fun ds8 =>
      ⟨_, _, _, (fun s10 => [.mp 0 (.lst v_0), .bw v_1, .fr t1, .fr t7, .un, .un, .un, .un, .un, .un, .un, .un, .un, .un]), (fun s10 => [.mp 0 (.lst v_0), .bw v_1, .fr t1, .fr t7, .un, .un, .un, .un, .un, .un, .un, .un, .un, .un]), rfl, (le_s (le_s (le_s (le_s (le_s (le_s (le_s (le_s (le_s (le_s (le_s (le_s (le_s (le_s (le_n))))))))))))))), rfl, fun _ he d11 s10 _ _ _ _ _ _ => ⟨[13], (fun _ h => h), jg_name 13 [.mp 0 (.lst v_0), .bw v_1, .fr t1, .fr t7, .un, .un, .un, .un, .un, .un, .un, .un, .un, .fr d11] hnd (fun _ _ _ _ _ => je_call (ok_l_level h) (hr.mono (by decide)) he.lk (ja_cons (je_bw 1 rfl (ja_cons (je_fr 13 rfl (ja_nil (⟨_, [], _, fun a12 => [.mp 0 (.lst v_0), .bw v_1, .fr t1, .fr t7, .un, .un, .un, .un, .un, .un, .un, .un, .un, .fr d11], rfl, rfl, List.nodup_nil, rfl, fun _ => rfl, fun a12 _ =>
      ⟨_, _, rfl, rfl, (le_s (le_s (le_s (le_s (le_s (le_s (le_s (le_s (le_s (le_s (le_s (le_s (le_s (le_s (le_n))))))))))))))), rfl⟩⟩)))))))⟩, fun _ => rfl, fun q13 =>
      ⟨[.mp 0 (.lst v_0), .bw v_1, .fr t1, .fr t7, .fr (D.lst q13.1), .un, .un, .un, .un, .un, .un, .un, .un, .un], rfl, rfl, rfl,
      jss_cons (js_setLc 5 [("_law_k", 13)] rfl hnd (ji_range1 h.n_range (je_fr 3 rfl (⟨_, _, rfl, rfl, fun ds14 =>
      ⟨_, _, _, (fun s15 => [.mp 0 (.lst v_0), .bw v_1, .fr t1, .fr t7, .fr (D.lst q13.1), .un, .un, .un, .un, .un, .un, .un, .un, .un]), (fun s15 => [.mp 0 (.lst v_0), .bw v_1, .fr t1, .fr t7, .fr (D.lst q13.1), .un, .un, .un, .un, .un, .un, .un, .un, .un]), rfl, (le_s (le_s (le_s (le_s (le_s (le_s (le_s (le_s (le_s (le_s (le_s (le_s (le_s (le_s (le_n))))))))))))))), rfl, fun _ he d16 s15 _ _ _ _ _ _ => ⟨[13], (fun _ h => h), jg_name 13 [.mp 0 (.lst v_0), .bw v_1, .fr t1, .fr t7, .fr (D.lst q13.1), .un, .un, .un, .un, .un, .un, .un, .un, .fr d16] hnd (fun _ _ _ _ _ => je_call (ok_l_moved h) (hr.mono (by decide)) he.lk (ja_cons (je_ix ix_D (fun _ _ => rfl) (je_fr 4 rfl (je_fr 13 rfl (⟨_, _, _, rfl, rfl, rfl, fun t17 _ =>
      ja_cons (je_bin op_subD (je_bin op_subD (je_fr 3 rfl (je_int (⟨_, _, _, rfl, rfl, rfl, fun t18 _ =>
      je_fr 13 rfl (⟨_, _, _, rfl, rfl, rfl, fun t19 _ =>
      ja_nil (⟨_, [], _, fun a20 => [.mp 0 (.lst v_0), .bw v_1, .fr t1, .fr t7, .fr (D.lst q13.1), .un, .un, .un, .un, .un, .un, .un, .un, .fr d16], rfl, rfl, List.nodup_nil, rfl, fun _ => rfl, fun a20 _ =>
      ⟨_, _, rfl, rfl, (le_s (le_s (le_s (le_s (le_s (le_s (le_s (le_s (le_s (le_s (le_s (le_s (le_s (le_s (le_n))))))))))))))), rfl⟩⟩)⟩)⟩)))))⟩))))))⟩, fun _ => rfl, fun q21 => ⟨[.mp 0 (.lst v_0), .bw v_1, .fr t1, .fr t7, .fr (D.lst q13.1), .mu (.lst q21.1), .un, .un, .un, .un, .un, .un, .un, .un], rfl, rfl,
      jss_fz 5 [.mp 0 (.lst v_0), .bw v_1, .fr t1, .fr t7, .fr (D.lst q13.1), .fr (D.lst q21.1), .un, .un, .un, .un, .un, .un, .un, .un] rfl (jss_cons (js_for hp rfl (ji_range1 h.n_range (je_int (⟨_, _, rfl, rfl, fun ds22 =>
      ⟨_, _, _, (fun (s24 : Unit) => [.mp 0 (.lst v_0), .bw v_1, .fr t1, .fr t7, .fr (D.lst q13.1), .fr (D.lst q21.1), .un, .un, .un, .un, .un, .un, .un, .un]), rfl, (le_s (le_s (le_s (le_s (le_s (le_s (le_s (le_s (le_s (le_s (le_s (le_s (le_s (le_s (le_n))))))))))))))), fun _ he23 d25 s24 => ⟨[6], jg_name 6 [.mp 0 (.lst v_0), .bw v_1, .fr t1, .fr t7, .fr (D.lst q13.1), .fr (D.lst q21.1), .fr d25, .un, .un, .un, .un, .un, .un, .un] hnd (jss_told 10 hnd (pv_u (pv_c rfl (pv_u (pv_u (pv_u (pv_u (pv_u (pv_u (pv_u (pv_u (pv_u (pv_u (pv_u (pv_u pv_n)))))))))))))) rfl (Nat.le_of_ble_eq_true rfl) rfl (fun _ hq26 => je_call (ok_t_fewest_sets h) (hr.mono (by decide)) (hq26.lk (he23.lk hL)) (ja_cons (je_bw 1 rfl (ja_nil (⟨_, [], _, fun a27 => [.un, .bw v_1, .un, .un, .un, .un, .un, .un, .un, .un, .un, .un, .un, .un], rfl, rfl, List.nodup_nil, rfl, fun _ => rfl, fun a27 _ =>
      ⟨_, _, rfl, rfl, jx_if rfl (fun _ hq28 => jt_join (fun (a29 : Bool) => a29) (fun a29 => [.bw (D.lst v_0), .bw v_1, .fr t1, .fr t7, .fr (D.lst q13.1), .fr (D.lst q21.1), .fr d25, .un, .un, .un, .fr a27, .un, .un, .un]) (jt_w (jw_or (jt_cmp (cmp_neD hr.hu) rfl (je_callB (c_rpr hr) h.n_repr (ja_cons (je_fr 10 rfl (ja_nil (⟨_, _, rfl, rfl, fun t30 _ =>
      je_callB (c_rpr hr) h.n_repr (ja_cons (je_tup (ja_cons (je_str (ja_cons (je_fr 5 rfl (ja_nil (⟨_, rfl, rfl, ja_nil (⟨_, _, rfl, rfl, fun t31 _ =>
      ⟨_, _, _, rfl, rfl, rfl, fun b32 =>
      ⟨_, _, rfl, ⟨_, rfl, rfl, rfl⟩, jw_or (jt_cmp (cmp_neD hr.hu) rfl (je_call (ok_t_set_table h) (hr.mono (by decide)) (hq28.lk (he23.lk hL)) (ja_cons (je_ix ix_D (fun _ _ => rfl) (je_fr 10 rfl (je_int (⟨_, _, _, rfl, rfl, rfl, fun t33 _ =>
      ja_nil (⟨_, [], _, fun a34 => [.bw (D.lst v_0), .bw v_1, .fr t1, .fr t7, .fr (D.lst q13.1), .fr (D.lst q21.1), .fr d25, .un, .un, .un, .fr a27, .un, .un, .un], rfl, rfl, List.nodup_nil, rfl, fun _ => rfl, fun a34 _ =>
      je_bw 1 rfl (⟨_, _, _, rfl, rfl, rfl, fun b35 =>
      ⟨_, _, rfl, ⟨_, rfl, rfl, rfl⟩, jw_or1 (jt_cmp (cmp_neD hr.hu) rfl (je_call (ok_t_true_at h) (hr.mono (by decide)) (hq28.lk (he23.lk hL)) (ja_cons (je_ix ix_D (fun _ _ => rfl) (je_fr 10 rfl (je_int (⟨_, _, _, rfl, rfl, rfl, fun t36 _ =>
      ja_nil (⟨_, [], _, fun a37 => [.bw (D.lst v_0), .bw v_1, .fr t1, .fr t7, .fr (D.lst q13.1), .fr (D.lst q21.1), .fr d25, .un, .un, .un, .fr a27, .un, .un, .un], rfl, rfl, List.nodup_nil, rfl, fun _ => rfl, fun a37 _ =>
      je_fr 4 rfl (⟨_, _, _, rfl, rfl, rfl, fun b38 =>
      ⟨_, rfl, rfl, rfl⟩⟩)⟩)⟩)))))))⟩⟩)⟩)⟩)))))))⟩⟩⟩)⟩))))))))⟩)))))))) (fun a29 =>
      ⟨_, _, rfl, jss_one (js_ret (je_bl (⟨_, rfl, ⟨_, rfl, rfl, (oa_c 0 rfl oa_n)⟩⟩))), jx_spoilT (es := [(_, _)]) (f := fun l40 => op (appL l40 [(D.tup [(D.int 5), (D.int 5)])]) fun a42 =>
      .ok a42.2) 11 hp rfl hnd rfl (he23.n.trans hn) (Nat.le_of_ble_eq_true rfl) (by decide) rfl rfl rfl (hf_app rfl) (fun l40 => spl_e (fun _ hq41 => je_mutL 11 g_app PySem.F.slot_list_append PySem.F.type_list_append m_append rfl rfl rfl (ja_cons (je_tup (ja_cons (je_int (ja_cons (je_int (ja_nil (⟨_, rfl, rfl, ja_nil (⟨_, _, _, _, fun a42 => [.un, .un, .un, .un, .un, .un, .un, .un, .un, .un, .un, .mp 0 (.lst a42.2), .un, .un], rfl, rfl, rfl, rfl, rfl, fun _ => rfl, fun a42 =>
      ⟨_, rfl, (Eq.refl _)⟩⟩)⟩)))))))))) (fun _ hq44 => ja_cons (je_fz (je_lst (ja_nil (⟨_, rfl, rfl, ja_nil (⟨⟨_, rfl⟩, jss_nil (⟨_, rfl, (le_s (le_s (le_s (le_s (le_s (le_s (le_u (le_s (le_s (le_s (le_s (le_s (le_s (le_s (le_n)))))))))))))))⟩)⟩)⟩)))))⟩))⟩⟩))))))⟩, fun s45 =>
      jss_cons (js_set 7 hnd (je_ix ix_D (fun _ _ => rfl) (je_lc [("_law_spot", 8), ("_law_many_here", 9)] rfl hnd (ji_any (je_bw 1 rfl (⟨_, _, rfl, rfl, fun ds46 =>
      ⟨_, _, _, (fun s47 => [.mp 0 (.lst v_0), .bw v_1, .fr t1, .fr t7, .fr (D.lst q13.1), .fr (D.lst q21.1), .un, .un, .un, .un, .un, .un, .un, .un]), (fun s47 => [.mp 0 (.lst v_0), .bw v_1, .fr t1, .fr t7, .fr (D.lst q13.1), .fr (D.lst q21.1), .un, .un, .un, .un, .un, .un, .un, .un]), rfl, (le_s (le_s (le_s (le_s (le_s (le_s (le_s (le_s (le_s (le_s (le_s (le_s (le_s (le_s (le_n))))))))))))))), rfl, fun _ he d48 s47 _ _ _ _ _ _ => ⟨[8, 9], (fun _ h => h), jg_tup2 rfl ⟨_, rfl, fun p49 =>
      jgs_name 8 [.mp 0 (.lst v_0), .bw v_1, .fr t1, .fr t7, .fr (D.lst q13.1), .fr (D.lst q21.1), .un, .un, .fr p49.1, .un, .un, .un, .un, .un] hnd (jgs_name 9 [.mp 0 (.lst v_0), .bw v_1, .fr t1, .fr t7, .fr (D.lst q13.1), .fr (D.lst q21.1), .un, .un, .fr p49.1, .fr p49.2, .un, .un, .un, .un] hnd (jgs_nil (fun _ _ _ _ _ => jt_cmp (cmp_eqD hr.hu) rfl (je_fr 9 rfl (je_fr 3 rfl (⟨_, _, _, rfl, rfl, rfl, fun b50 =>
      ⟨_, _, rfl, fun _ _ _ _ _ => je_fr 8 rfl (⟨_, _, rfl, rfl, (le_s (le_s (le_s (le_s (le_s (le_s (le_s (le_s (le_s (le_s (le_s (le_s (le_s (le_s (le_n))))))))))))))), rfl⟩), ⟨_, rfl, (le_s (le_s (le_s (le_s (le_s (le_s (le_s (le_s (le_s (le_s (le_s (le_s (le_s (le_s (le_n))))))))))))))), rfl⟩⟩⟩))))))⟩⟩, fun _ => rfl, fun q51 =>
      je_int (⟨_, _, _, rfl, rfl, rfl, fun t52 _ =>
      ⟨[.mp 0 (.lst v_0), .bw v_1, .fr t1, .fr t7, .fr (D.lst q13.1), .fr (D.lst q21.1), .un, .fr t52, .un, .un, .un, .un, .un, .un], rfl, rfl, rfl,
      jss_cons (js_if (jt_join (fun (a53 : Bool) => a53) (fun a53 => [.mp 0 (.lst v_0), .bw v_1, .fr t1, .fr t7, .fr (D.lst q13.1), .fr (D.lst q21.1), .un, .fr t52, .un, .un, .un, .un, .un, .un]) (jt_w (jw_or (jt_cmp (cmp_neD hr.hu) rfl (je_callB (c_rpr hr) h.n_repr (ja_cons (je_call (ok_t_at_once h) (hr.mono (by decide)) hL (ja_cons (je_bw 1 rfl (ja_nil (⟨_, [], _, fun a54 => [.mp 0 (.lst v_0), .bw v_1, .fr t1, .fr t7, .fr (D.lst q13.1), .fr (D.lst q21.1), .un, .fr t52, .un, .un, .un, .un, .un, .un], rfl, rfl, List.nodup_nil, rfl, fun _ => rfl, fun a54 _ =>
      ja_nil (⟨_, _, rfl, rfl, fun t55 _ =>
      je_callB (c_rpr hr) h.n_repr (ja_cons (je_tup (ja_cons (je_str (ja_cons (je_fr 7 rfl (ja_nil (⟨_, rfl, rfl, ja_nil (⟨_, _, rfl, rfl, fun t56 _ =>
      ⟨_, _, _, rfl, rfl, rfl, fun b57 =>
      ⟨_, _, rfl, ⟨_, rfl, rfl, rfl⟩, jw_or1 (jt_cmp (cmp_neD hr.hu) rfl (je_call (ok_t_shown_at_once h) (hr.mono (by decide)) hL (ja_cons (je_bw 1 rfl (ja_cons (je_tup (ja_cons (je_str (ja_cons (je_fr 7 rfl (ja_nil (⟨_, rfl, rfl, ja_nil (⟨_, [], _, fun a58 => [.mp 0 (.lst v_0), .bw v_1, .fr t1, .fr t7, .fr (D.lst q13.1), .fr (D.lst q21.1), .un, .fr t52, .un, .un, .un, .un, .un, .un], rfl, rfl, List.nodup_nil, rfl, fun _ => rfl, fun a58 _ =>
      je_fr 3 rfl (⟨_, _, _, rfl, rfl, rfl, fun b59 =>
      ⟨_, rfl, rfl, rfl⟩⟩)⟩)⟩))))))))))))⟩⟩⟩)⟩))))))))⟩)⟩)))))))))) (fun a53 =>
      ⟨_, _, rfl, jss_one (js_ret (je_bl (⟨_, rfl, rfl, (oa_c 0 rfl oa_n)⟩))), jss_nil (jss_cons (js_for hp rfl (ji_any (je_bw 1 rfl (⟨_, _, rfl, rfl, fun ds60 =>
      ⟨_, _, _, (fun (s62 : List D) => [.mp 0 (.lst s62), .bw v_1, .fr t1, .fr t7, .fr (D.lst q13.1), .fr (D.lst q21.1), .un, .fr t52, .un, .un, .un, .un, .un, .un]), rfl, (le_s (le_s (le_s (le_s (le_s (le_s (le_s (le_s (le_s (le_s (le_s (le_s (le_s (le_s (le_n))))))))))))))), fun _ he61 d63 s62 => ⟨[8, 9], jg_tup2 rfl ⟨_, rfl, fun p64 =>
      jgs_name 8 [.mp 0 (.lst s62), .bw v_1, .fr t1, .fr t7, .fr (D.lst q13.1), .fr (D.lst q21.1), .un, .fr t52, .fr p64.1, .un, .un, .un, .un, .un] hnd (jgs_name 9 [.mp 0 (.lst s62), .bw v_1, .fr t1, .fr t7, .fr (D.lst q13.1), .fr (D.lst q21.1), .un, .fr t52, .fr p64.1, .fr p64.2, .un, .un, .un, .un] hnd (jgs_nil (jss_one (js_for hp rfl (ji_any (je_fz (je_lst (ja_cons (je_callB (c_max2 rfl) h.n_max (ja_cons (je_int (ja_cons (je_bin op_subD (je_fr 8 rfl (je_int (⟨_, _, _, rfl, rfl, rfl, fun t66 _ =>
      ja_nil (⟨_, _, rfl, rfl, fun t67 _ =>
      ja_cons (je_fr 8 rfl (ja_cons (je_bin op_addD (je_fr 8 rfl (je_call (ok_l_number h) (hr.mono (by decide)) (he61.lk hL) (ja_cons (je_bo 0 rfl (.inr ⟨_, _, rfl⟩) (ja_cons (je_bin op_powD (je_int (je_int (⟨_, _, _, rfl, rfl, rfl, fun t68 _ =>
      ja_nil (⟨_, [0], _, fun a69 => [.mp 0 (.lst a69.2), .bw v_1, .fr t1, .fr t7, .fr (D.lst q13.1), .fr (D.lst q21.1), .un, .fr t52, .fr p64.1, .fr p64.2, .un, .un, .un, .un], rfl, rfl, nd1, rfl, fun _ => rfl, fun a69 _ =>
      ⟨_, _, _, rfl, rfl, rfl, fun t70 _ =>
      ja_nil (⟨_, rfl, rfl, ⟨_, _, rfl, rfl, fun ds65 =>
      ⟨_, _, _, (fun (s72 : Unit) => [.mp 0 (.lst a69.2), .bw v_1, .fr t1, .fr t7, .fr (D.lst q13.1), .fr (D.lst q21.1), .un, .fr t52, .fr p64.1, .fr p64.2, .un, .un, .un, .un]), rfl, (le_s (le_s (le_s (le_s (le_s (le_s (le_s (le_s (le_s (le_s (le_s (le_s (le_s (le_s (le_n))))))))))))))), fun _ he71 d73 s72 => ⟨[12], jg_name 12 [.mp 0 (.lst a69.2), .bw v_1, .fr t1, .fr t7, .fr (D.lst q13.1), .fr (D.lst q21.1), .un, .fr t52, .fr p64.1, .fr p64.2, .un, .un, .fr d73, .un] hnd (jss_one (js_if (jt_cmp (cmp_neD hr.hu) rfl (je_callB (c_rpr hr) h.n_repr (ja_cons (je_call (ok_t_shown_at_once h) (hr.mono (by decide)) (he71.lk (he61.lk hL)) (ja_cons (je_bw 1 rfl (ja_cons (je_tup (ja_cons (je_str (ja_cons (je_fr 12 rfl (ja_nil (⟨_, rfl, rfl, ja_nil (⟨_, [], _, fun a74 => [.mp 0 (.lst a69.2), .bw v_1, .fr t1, .fr t7, .fr (D.lst q13.1), .fr (D.lst q21.1), .un, .fr t52, .fr p64.1, .fr p64.2, .un, .un, .fr d73, .un], rfl, rfl, List.nodup_nil, rfl, fun _ => rfl, fun a74 _ =>
      ja_nil (⟨_, _, rfl, rfl, fun t75 _ =>
      je_callB (c_rpr hr) h.n_repr (ja_cons (je_call (ok_l_many h) (hr.mono (by decide)) (he71.lk (he61.lk hL)) (ja_cons (je_bw 1 rfl (ja_cons (je_fr 12 rfl (ja_nil (⟨_, [], _, fun a76 => [.mp 0 (.lst a69.2), .bw v_1, .fr t1, .fr t7, .fr (D.lst q13.1), .fr (D.lst q21.1), .un, .fr t52, .fr p64.1, .fr p64.2, .un, .un, .fr d73, .un], rfl, rfl, List.nodup_nil, rfl, fun _ => rfl, fun a76 _ =>
      ja_nil (⟨_, _, rfl, rfl, fun t77 _ =>
      ⟨_, _, _, rfl, rfl, rfl, fun b78 =>
      ⟨_, _, rfl, jss_one (js_ret (je_bl (⟨_, rfl, ⟨_, rfl, ⟨_, rfl, rfl, (oa_c 0 rfl oa_n)⟩⟩⟩))), jss_nil (⟨_, rfl, (le_s (le_s (le_s (le_s (le_s (le_s (le_s (le_s (le_s (le_s (le_s (le_s (le_u (le_s (le_n)))))))))))))))⟩)⟩⟩⟩)⟩))))))))⟩)⟩)⟩))))))))))))))))⟩, fun s79 =>
      ⟨_, rfl, (le_s (le_s (le_s (le_s (le_s (le_s (le_s (le_s (le_u (le_u (le_s (le_s (le_s (le_s (le_n)))))))))))))))⟩⟩⟩⟩)⟩⟩)⟩))))))))))))⟩)⟩))))))))))))))))⟩⟩, fun s80 =>
      jss_one (js_ret (je_cmpB (cmp_eqD hr.hu) rfl (je_callB (c_rpr hr) h.n_repr (ja_cons (je_bw 1 rfl (ja_nil (⟨_, _, rfl, rfl, fun t81 _ =>
      je_fr 2 rfl (⟨_, _, _, rfl, rfl, rfl, fun b82 =>
      ⟨_, rfl, rfl, (oa_c 0 rfl oa_n)⟩⟩)⟩)))))))⟩⟩)))))⟩)))⟩⟩)⟩⟩))) (ok := by (refine blkOk_by ?_; first | (dsimp only [cxOf, envOfC, Cx.blk]; decide +kernel) | exact Eq.refl true)))))⟩⟩)))))⟩⟩⟩))) (ok := by (refine blkOk_by ?_; first | (dsimp only [cxOf, envOfC, Cx.blk]; decide +kernel) | exact Eq.refl true)))⟩⟩⟩)⟩))))))))) (ok := by (refine blkOk_by ?_; first | (dsimp only [cxOf, envOfC, Cx.blk]; decide +kernel) | exact Eq.refl true)))))⟩⟩)⟩⟩))) (ok := by (refine blkOk_by ?_; first | (dsimp only [cxOf, envOfC, Cx.blk]; decide +kernel) | exact Eq.refl true))))))⟩⟩)))))))

def d_law : List D → Res (D)
  | [v_0] =>
      op (lenD [v_0]) fun t2 =>
      op (min2D [(D.int 5), t2]) fun t3 =>
      op (max2D [(D.int 1), t3]) fun t4 =>
      op (rngD [t4]) fun ds1 =>
      fbind (forF ds1 (() : Unit) fun d7 s6 =>
      (d_l_jar [v_0, d7]).bind fun a8 =>
      op (rngD [(D.int 3)]) fun ds9 =>
      fbind (forF ds9 (a8 : List D) fun d12 s11 =>
      (d_l_pour [(D.lst s11), (D.int 4)]).bind fun a13 =>
      op (ixD (D.lst [(D.int 30), (D.int 30), (D.int 30), (D.int 300)]) a13.1) fun t14 =>
      (d_l_pour [(D.lst a13.2), (D.int 4)]).bind fun a15 =>
      op (ixD (D.lst [(D.int 3), (D.int 9), (D.int 30), t14]) a15.1) fun t16 =>
      op (powD (D.int 10) (D.int 28)) fun t17 =>
      (d_l_pour [(D.lst a15.2), (D.int 2)]).bind fun a18 =>
      op (ixD (D.lst [(D.int 9), t17]) a18.1) fun t19 =>
      (d_l_table [(D.lst a18.2), t19, t16]).bind fun a20 =>
      (d_l_right [(D.lst a20.2), a20.1]).bind fun a21 =>
      op (truD a21.1) fun b22 =>
      if (!b22) = true then (.ok (.rt ((.rt ((D.bl false)))))) else (.ok (.nx a21.2))) fun s23 =>
      .ok (.nx ())) fun s24 =>
      .ok (D.bl true)  | _ => .bad
abbrev n_law : List Str := ["_law_script", "_law_k", "_law_jar_here", "_law_turn", "_law_most"]
theorem sc_law : FnScope n_law ["_law_script"] (defScope (topS 43)) := ⟨rfl, rfl, rfl, by decide +kernel, rfl, by decide +kernel, by decide +kernel⟩
theorem fn_law (h : Txt K mg) {fa : Addr} {fd : FuncData} (F : L2.Fun K "law" "law" (topS 43) fa fd) : FnG P w K mg base 8 fa fd ["_law_script"] (SpD K mg [.b] d_law (fun a => a) (fun a => []) false) := by
  refine fn_D (k := 7) F sc_law rfl 0 (fun _ => rfl) rfl (fun X en cdv A outer s H E ds hX hr hn hL hp hl => ?_)
  have hnd := (sc_law).nd
  subst hX
  obtain ⟨v_0, rfl⟩ := len1 hl
  unfold d_law
  exact (jss_cons (js_for hp rfl (ji_range1 h.n_range (je_callB (c_max2 rfl) h.n_max (ja_cons (je_int (ja_cons (je_callB (c_min2 rfl) h.n_min (ja_cons (je_int (ja_cons (je_callB c_len h.n_len (ja_cons (je_bw 0 rfl (ja_nil (⟨_, _, rfl, rfl, fun t2 _ =>
      ja_nil (⟨_, _, rfl, rfl, fun t3 _ =>
      ja_nil (⟨_, _, rfl, rfl, fun t4 _ =>
      ⟨_, _, rfl, rfl, fun ds1 =>
      ⟨_, _, _, (fun (s6 : Unit) => [.bw v_0, .un, .un, .un, .un]), rfl, (le_s (le_s (le_s (le_s (le_s (le_n)))))), fun _ he5 d7 s6 => ⟨[1], jg_name 1 [.bw v_0, .fr d7, .un, .un, .un] hnd (jss_cons (js_set 2 hnd (je_call (ok_l_jar h) (hr.mono (by decide)) (he5.lk hL) (ja_cons (je_bw 0 rfl (ja_cons (je_fr 1 rfl (ja_nil (⟨_, [], _, fun a8 => [.bw v_0, .fr d7, .un, .un, .un], rfl, rfl, List.nodup_nil, rfl, fun _ => rfl, fun a8 _ =>
      ⟨[.bw v_0, .fr d7, .mu (.lst a8), .un, .un], rfl, rfl, rfl,
      jss_one (js_for hp rfl (ji_range1 h.n_range (je_int (⟨_, _, rfl, rfl, fun ds9 =>
      ⟨_, _, _, (fun (s11 : List D) => [.bw v_0, .fr d7, .mu (.lst s11), .un, .un]), rfl, (le_s (le_s (le_s (le_s (le_s (le_n)))))), fun _ he10 d12 s11 => ⟨[3], jg_name 3 [.bw v_0, .fr d7, .mu (.lst s11), .fr d12, .un] hnd (jss_cons (js_set 4 hnd (je_ix ix_D (fun _ _ => rfl) (je_lst (ja_cons (je_int (ja_cons (je_int (ja_cons (je_int (ja_cons (je_ix ix_D (fun _ _ => rfl) (je_lst (ja_cons (je_int (ja_cons (je_int (ja_cons (je_int (ja_cons (je_int (ja_nil (⟨_, rfl, rfl, je_call (ok_l_pour h) (hr.mono (by decide)) (he10.lk (he5.lk hL)) (ja_cons (je_bo 2 rfl (.inl ⟨_, rfl⟩) (ja_cons (je_int (ja_nil (⟨_, [2], _, fun a13 => [.bw v_0, .fr d7, .mu (.lst a13.2), .fr d12, .un], rfl, rfl, nd1, rfl, fun _ => rfl, fun a13 _ =>
      ⟨_, _, _, rfl, rfl, rfl, fun t14 _ =>
      ja_nil (⟨_, rfl, rfl, je_call (ok_l_pour h) (hr.mono (by decide)) (he10.lk (he5.lk hL)) (ja_cons (je_bo 2 rfl (.inl ⟨_, rfl⟩) (ja_cons (je_int (ja_nil (⟨_, [2], _, fun a15 => [.bw v_0, .fr d7, .mu (.lst a15.2), .fr d12, .un], rfl, rfl, nd1, rfl, fun _ => rfl, fun a15 _ =>
      ⟨_, _, _, rfl, rfl, rfl, fun t16 _ =>
      ⟨[.bw v_0, .fr d7, .mu (.lst a15.2), .fr d12, .fr t16], rfl, rfl, rfl,
      jss_one (js_if (jt_not (jt_tru (je_call (ok_l_right h) (hr.mono (by decide)) (he10.lk (he5.lk hL)) (ja_cons (je_bo 2 rfl (.inl ⟨_, rfl⟩) (ja_cons (je_call (ok_l_table h) (hr.mono (by decide)) (he10.lk (he5.lk hL)) (ja_cons (je_bo 2 rfl (.inl ⟨_, rfl⟩) (ja_cons (je_ix ix_D (fun _ _ => rfl) (je_lst (ja_cons (je_int (ja_cons (je_bin op_powD (je_int (je_int (⟨_, _, _, rfl, rfl, rfl, fun t17 _ =>
      ja_nil (⟨_, rfl, rfl, je_call (ok_l_pour h) (hr.mono (by decide)) (he10.lk (he5.lk hL)) (ja_cons (je_bo 2 rfl (.inl ⟨_, rfl⟩) (ja_cons (je_int (ja_nil (⟨_, [2], _, fun a18 => [.bw v_0, .fr d7, .mu (.lst a18.2), .fr d12, .fr t16], rfl, rfl, nd1, rfl, fun _ => rfl, fun a18 _ =>
      ⟨_, _, _, rfl, rfl, rfl, fun t19 _ =>
      ja_cons (je_fr 4 rfl (ja_nil (⟨_, [2], _, fun a20 => [.bw v_0, .fr d7, .mu (.lst a20.2), .fr d12, .fr t16], rfl, rfl, nd1, rfl, fun _ => rfl, fun a20 _ =>
      ja_nil (⟨_, [2], _, fun a21 => [.bw v_0, .fr d7, .mu (.lst a21.2), .fr d12, .fr t16], rfl, rfl, nd1, rfl, fun _ => rfl, fun a21 _ =>
      ⟨_, _, rfl, rfl, fun b22 =>
      ⟨_, _, rfl, jss_one (js_ret (je_bl (⟨_, rfl, ⟨_, rfl, ⟨_, rfl, rfl, oa_n⟩⟩⟩))), jss_nil (⟨_, rfl, (le_s (le_s (le_s (le_u (le_u (le_n))))))⟩)⟩⟩⟩)⟩)))⟩⟩))))))⟩)⟩))))))))))))))))))))⟩⟩⟩))))))⟩)⟩⟩))))))⟩)))))))))))))))))))))))⟩, fun s23 =>
      ⟨_, rfl, (le_s (le_u (le_u (le_s (le_s (le_n))))))⟩⟩⟩))))⟩⟩)))))))))⟩, fun s24 =>
      jss_one (js_ret (je_bl (⟨_, rfl, rfl, oa_n⟩)))⟩⟩⟩)⟩)⟩))))))))))))))))

end
/-! ### the jar -/
def TinOk (N : Nat) (t : List D) : Prop := ∃ a b c : Int, t = [.int a, .int b, .int c] ∧ 0 ≤ a ∧ 0 ≤ b ∧ b < 2 ^ 200 ∧ 0 ≤ c ∧ c ≤ N
theorem TinOk.mono {N M : Nat} {t : List D} (h : TinOk N t) (l : N ≤ M) : TinOk M t := by
  obtain ⟨a, b, c, e, h1, h2, h3, h4, h5⟩ := h
  exact ⟨a, b, c, e, h1, h2, h3, h4, by omega⟩
theorem p10_35 : powD (.int 10) (.int 35) = some (.int (10 ^ 35)) := powI (by decide)
theorem p10_39 : powD (.int 10) (.int 39) = some (.int (10 ^ 39)) := powI (by decide)
theorem pour_k {N : Nat} {t : List D} {w : Int} (h : TinOk N t) (hN : N < 2 ^ 60) (hw : 0 < w) (hz : w < 2 ^ 200) : Ok (d_l_pour [.lst t, .int w]) fun a => ∃ r t', a = (.int r, t') ∧ 0 ≤ r ∧ r < w ∧ TinOk (N + 1) t' := by
  obtain ⟨a, b, c, rfl, h1, h2, h3, h4, h5⟩ := h
  have i0 : ∀ x y z : D, ixD (.lst [x, y, z]) (.int 0) = some x := fun _ _ _ => rfl
  have i1 : ∀ x y z : D, ixD (.lst [x, y, z]) (.int 1) = some y := fun _ _ _ => rfl
  have i2 : ∀ x y z : D, ixD (.lst [x, y, z]) (.int 2) = some z := fun _ _ _ => rfl
  have s0 : ∀ x y z d : D, setL [x, y, z] (.int 0) d = some [d, y, z] := fun _ _ _ _ => rfl
  have s2 : ∀ x y z d : D, setL [x, y, z] (.int 2) d = some [x, y, d] := fun _ _ _ _ => rfl
  have hz2 : w < 2 ^ 250 := Int.lt_trans hz (by decide)
  unfold d_l_pour
  simp only [i0, i1, i2, op_s, gtI]
  by_cases hp : 0 < a
  · rw [if_pos (by simpa using hp)]
    simp only [modI hw, divI hw hz2, op_s, s0]
    exact ⟨_, rfl, a % w, _, rfl, Int.emod_nonneg _ (by omega), Int.emod_lt_of_pos _ hw, a / w, b, c, rfl, Int.ediv_nonneg h1 (by omega), h2, h3, h4, by omega⟩
  · rw [if_neg (by simpa using hp)]
    have c1 : (0 : Int) ≤ c + 1 := by omega
    have c2 : c + 1 < 2 ^ 61 := by omega
    have m1 : mulD (.int 32452843) (.int (c + 1)) = some (.int (32452843 * (c + 1))) := mulI (by decide) (by decide) c1 (Int.lt_trans c2 (by decide))
    have m2 : mulD (.int 49979687) (.int (c + 1)) = some (.int (49979687 * (c + 1))) := mulI (by decide) (by decide) c1 (Int.lt_trans c2 (by decide))
    have e1 : (0 : Int) ≤ b + 32452843 * (c + 1) := by omega
    have e2 : b + 32452843 * (c + 1) < 2 ^ 250 := Int.lt_trans (show _ < (2 : Int) ^ 201 by omega) (by decide)
    have q1 : (0 : Int) < 10 ^ 37 + 43 := by decide
    have q2 : (0 : Int) < 10 ^ 39 + 3 := by decide
    have f1 : (0 : Int) ≤ (b + 32452843 * (c + 1)) ^ 3 % (10 ^ 37 + 43) := Int.emod_nonneg _ (by decide)
    have f2 : (b + 32452843 * (c + 1)) ^ 3 % (10 ^ 37 + 43) < 10 ^ 37 + 43 := Int.emod_lt_of_pos _ q1
    have g1 : (0 : Int) ≤ (b + 32452843 * (c + 1)) ^ 3 % (10 ^ 37 + 43) + 49979687 * (c + 1) := by omega
    have g2 : (b + 32452843 * (c + 1)) ^ 3 % (10 ^ 37 + 43) + 49979687 * (c + 1) < 2 ^ 250 := Int.lt_trans (show _ < (2 : Int) ^ 200 by omega) (by decide)
    simp only [addI, op_s, s2, i1, i2, m1, m2, pow3 e1 e2, p10_37, modI q1, pow5 g1 g2, p10_39, modI q2, divI (a := _) (b := 131071) (by decide) (by decide), modI hw]
    exact ⟨_, rfl, _, _, rfl, Int.emod_nonneg _ (by omega), Int.emod_lt_of_pos _ hw, a, b, c + 1, rfl, h1, h2, h3, c1, by omega⟩
theorem jar_ok {ns : List Int} {k : Nat} (hk : k < 100) (hl : ns.length < 1000000) : ∃ t, d_l_jar [.scr ns, .int k] = .ok t ∧ TinOk 0 t := by
  unfold d_l_jar
  dsimp only
  have e1 : lenD [.scr ns] = some (.int ns.length) := rfl
  have cell : ∃ c : Int, ((op (lenD [.scr ns]) fun t2 => op (ltD (.int k) t2) fun b3 => if b3 = true then (op (ixD (.scr ns) (.int k)) fun t4 => .ok t4) else (.ok (D.int 0)) : Res (D))) = .ok (.int c) := by
    rw [e1, op_s, ltI, op_s]
    by_cases h : (k : Int) < ns.length
    · rw [if_pos (by simpa using h)]
      have hk2 : k < ns.length := by omega
      have e : ixD (.scr ns) (.int k) = some (.int ns[k]) := by
        show (atI ns (k : Int)).map D.int = _
        unfold atI ixN
        rw [if_pos (by omega), if_pos h]
        simp [List.getElem?_eq_getElem hk2]
      rw [e, op_s]
      exact ⟨_, rfl⟩
    · rw [if_neg (by simpa using h)]
      exact ⟨0, rfl⟩
  obtain ⟨c, ec⟩ := cell
  rw [ec, bind_s]
  have q : (0 : Int) < 10 ^ 35 + 69 := by decide
  have f1 : 0 ≤ c % (10 ^ 35 + 69) := Int.emod_nonneg _ (by decide)
  have f2 : c % (10 ^ 35 + 69) < 10 ^ 35 + 69 := Int.emod_lt_of_pos _ q
  have m1 : mulD (.int (c % (10 ^ 35 + 69))) (.int 128) = some (.int (c % (10 ^ 35 + 69) * 128)) := mulI f1 (by omega) (by decide) (by decide)
  simp only [op_s, p10_18, subI, max2I, p10_35, addI, modI q, m1]
  refine ⟨_, rfl, _, _, 0, rfl, ?_, ?_, ?_, by omega, by omega⟩
  · split <;> omega
  · omega
  · omega
theorem number_k {N : Nat} {t : List D} {w : Int} (h : TinOk N t) (hN : N + 4 < 2 ^ 60) (hw : 0 < w) (hz : w < 2 ^ 200) : Ok (d_l_number [.lst t, .int w]) fun a => ∃ r t', a = (.int r, t') ∧ 0 ≤ r ∧ r < w + 9 ∧ TinOk (N + 4) t' := by
  unfold d_l_number
  dsimp only
  refine Ok.bnd (pour_k h (by omega) (by decide) (by decide)) ?_
  rintro _ ⟨r1, t1, rfl, p1, q1, k1⟩
  refine Ok.bnd (pour_k k1 (by omega) (by decide) (by decide)) ?_
  rintro _ ⟨r2, t2, rfl, p2, q2, k2⟩
  refine Ok.bnd (pour_k k2 (by omega) hw hz) ?_
  rintro _ ⟨r3, t3, rfl, p3, q3, k3⟩
  refine Ok.bnd (pour_k k3 (by omega) (by decide) (by decide)) ?_
  rintro _ ⟨r4, t4, rfl, p4, q4, k4⟩
  have : r4 = 0 ∨ r4 = 1 ∨ r4 = 2 := by omega
  rcases this with rfl | rfl | rfl
  · exact Ok.op rfl (Ok.ret ⟨_, _, rfl, p1, by omega, k4⟩)
  · exact Ok.op rfl (Ok.ret ⟨_, _, rfl, p2, by omega, k4⟩)
  · exact Ok.op rfl (Ok.ret ⟨_, _, rfl, p3, by omega, k4⟩)
/-! ### numbers -/
def cnt : D → Bool
  | .int i => decide (0 ≤ i)
  | _ => false
theorem number_ok (d : D) : d_t_is_number [d] = .ok (.bl (cnt d)) := by
  unfold d_t_is_number
  cases d <;> first | rfl | skip
theorem cnt_int {d : D} (h : cnt d = true) : ∃ i : Int, d = .int i ∧ 0 ≤ i := by
  cases d <;> simp [cnt] at h
  exact ⟨_, rfl, h⟩

/-! ### what is risen by at numbers -/
def eP (p : Int × Int) : D := .tup [.int p.1, .int p.2]
def eK (p : Int × Int) : Key × D := (.inl p.1, .int p.2)
def val : List (Int × Int) → Int → Int
  | [], _ => 0
  | p :: r, k => if p.1 = k then p.2 else val r k
def sumTo : List (Int × Int) → Int → Int
  | [], _ => 0
  | p :: r, c => (if p.1 ≤ c then p.2 else 0) + sumTo r c
def up (f : Int → Int) : List Int → Int → Int
  | [], _ => 0
  | k :: r, c => (if k ≤ c then f k else 0) + up f r c
theorem up_perm {f : Int → Int} {c : Int} {a b : List Int} (h : a.Perm b) : up f a c = up f b c := by
  induction h with
  | nil => rfl
  | cons x _ ih => simp only [up, ih]
  | swap x y l => simp only [up]; omega
  | trans _ _ h1 h2 => exact h1.trans h2
theorem up_zero {f : Int → Int} {c : Int} : ∀ {ks : List Int}, (∀ k, k ∈ ks → c < k) → up f ks c = 0
  | [], _ => rfl
  | k :: r, h => by
    have h1 := h k List.mem_cons_self
    rw [up, if_neg (by omega), up_zero fun j hj => h j (List.mem_cons_of_mem _ hj)]; rfl
theorem val_no {k : Int} : ∀ {es : List (Int × Int)}, k ∉ es.map (·.1) → val es k = 0
  | [], _ => rfl
  | p :: r, h => by
    rw [List.map_cons, List.mem_cons, not_or] at h
    rw [val, if_neg (fun e => h.1 e.symm), val_no h.2]
theorem val_mem {p : Int × Int} : ∀ {es : List (Int × Int)}, (es.map (·.1)).Nodup → p ∈ es → val es p.1 = p.2
  | [], _, h => nomatch h
  | q :: r, nd, h => by
    rw [List.map_cons, List.nodup_cons] at nd
    rcases List.mem_cons.mp h with rfl | h
    · rw [val, if_pos rfl]
    · have hne : q.1 ≠ p.1 := fun e => nd.1 (by rw [e]; exact List.mem_map.mpr ⟨p, h, rfl⟩)
      rw [val, if_neg hne, val_mem nd.2 h]
theorem up_val {f : Int → Int} {c : Int} : ∀ {es : List (Int × Int)}, (∀ p, p ∈ es → f p.1 = p.2) → up f (es.map (·.1)) c = sumTo es c
  | [], _ => rfl
  | p :: r, h => by
    rw [List.map_cons, up, sumTo, h p List.mem_cons_self, up_val fun q hq => h q (List.mem_cons_of_mem _ hq)]
theorem get_val {k : Int} : ∀ {es : List (Int × Int)}, getK (es.map eK) (.inl k) = if k ∈ es.map (·.1) then some (.int (val es k)) else none
  | [] => rfl
  | p :: r => by
    have ih := get_val (k := k) (es := r)
    unfold getK at ih ⊢
    rw [List.map_cons, List.find?_cons]
    by_cases hp : p.1 = k
    · have : decide ((eK p).1 = Sum.inl k) = true := by simp [eK, hp]
      rw [this, if_pos (by rw [List.map_cons, hp]; exact List.mem_cons_self), val, if_pos hp]; rfl
    · have : decide ((eK p).1 = Sum.inl k) = false := by simp [eK, hp]
      rw [this]
      dsimp only
      rw [ih, val, if_neg hp]
      have hk : k ≠ p.1 := fun e => hp e.symm
      by_cases hr : k ∈ r.map (·.1)
      · rw [if_pos hr, if_pos (by rw [List.map_cons]; exact List.mem_cons_of_mem _ hr)]
      · rw [if_neg hr, if_neg (by rw [List.map_cons, List.mem_cons, not_or]; exact ⟨hk, hr⟩)]
theorem get_def {k : Int} {es : List (Int × Int)} : (getK (es.map eK) (.inl k)).getD (.int 0) = .int (val es k) := by
  rw [get_val]
  by_cases h : k ∈ es.map (·.1)
  · rw [if_pos h]; rfl
  · rw [if_neg h, val_no h]; rfl
def rep (es : List (Int × Int)) (k w : Int) : List (Int × Int) := es.map fun p => if p.1 = k then (p.1, w) else p
theorem rep_keys {es : List (Int × Int)} {k w : Int} : (rep es k w).map (·.1) = es.map (·.1) := by
  unfold rep
  rw [List.map_map]
  refine List.map_congr_left fun p _ => ?_
  show (if p.1 = k then (p.1, w) else p).1 = p.1
  split <;> rfl
theorem rep_no {k w : Int} : ∀ {es : List (Int × Int)}, k ∉ es.map (·.1) → rep es k w = es
  | [], _ => rfl
  | p :: r, h => by
    rw [List.map_cons, List.mem_cons, not_or] at h
    have ih := rep_no (k := k) (w := w) h.2
    unfold rep at ih ⊢
    rw [List.map_cons, if_neg (fun e => h.1 e.symm), ih]
theorem rep_sum {k w c : Int} : ∀ {es : List (Int × Int)}, (es.map (·.1)).Nodup → k ∈ es.map (·.1) → sumTo (rep es k w) c = sumTo es c + (if k ≤ c then w - val es k else 0)
  | [], _, h => nomatch h
  | p :: r, nd, h => by
    rw [List.map_cons, List.nodup_cons] at nd
    by_cases hp : p.1 = k
    · have hr : k ∉ r.map (·.1) := hp ▸ nd.1
      have e : rep (p :: r) k w = (p.1, w) :: r := by
        show (if p.1 = k then (p.1, w) else p) :: rep r k w = _
        rw [if_pos hp, rep_no hr]
      rw [e, sumTo, sumTo, val, if_pos hp]
      subst hp
      by_cases hc : p.1 ≤ c
      · simp only [if_pos hc]; omega
      · simp only [if_neg hc]; omega
    · have hr : k ∈ r.map (·.1) := by
        rw [List.map_cons] at h
        rcases List.mem_cons.mp h with e | e
        · exact absurd e.symm hp
        · exact e
      have e : rep (p :: r) k w = p :: rep r k w := by
        show (if p.1 = k then (p.1, w) else p) :: rep r k w = _
        rw [if_neg hp]
      rw [e, sumTo, sumTo, rep_sum nd.2 hr, val, if_neg hp]
      omega
def del (es : List (Int × Int)) (k : Int) : List (Int × Int) := es.filter fun p => decide (p.1 ≠ k)
theorem del_no {k : Int} : ∀ {es : List (Int × Int)}, k ∉ es.map (·.1) → del es k = es
  | [], _ => rfl
  | p :: r, h => by
    rw [List.map_cons, List.mem_cons, not_or] at h
    have ih := del_no (k := k) h.2
    unfold del at ih ⊢
    rw [List.filter_cons, if_pos (by simpa using fun e : p.1 = k => h.1 e.symm), ih]
theorem del_sum {k c : Int} : ∀ {es : List (Int × Int)}, (es.map (·.1)).Nodup → sumTo (del es k) c = sumTo es c - (if k ≤ c then val es k else 0)
  | [], _ => by simp [del, sumTo, val]
  | p :: r, nd => by
    rw [List.map_cons, List.nodup_cons] at nd
    have ih := del_sum (k := k) (c := c) nd.2
    by_cases hp : p.1 = k
    · have hr : k ∉ r.map (·.1) := hp ▸ nd.1
      have e : del (p :: r) k = r := by
        have := del_no hr
        unfold del at this ⊢
        rw [List.filter_cons, if_neg (by simp [hp]), this]
      rw [e, sumTo, val, if_pos hp]
      subst hp
      by_cases hc : p.1 ≤ c
      · simp only [if_pos hc]; omega
      · simp only [if_neg hc]; omega
    · have e : del (p :: r) k = p :: del r k := by
        unfold del
        rw [List.filter_cons, if_pos (by simpa using hp)]
      rw [e, sumTo, sumTo, ih, val, if_neg hp]
      omega
theorem del_map {es : List (Int × Int)} {k : Int} : delK (es.map eK) (.inl k) = (del es k).map eK := by
  unfold delK del
  rw [List.filter_map]
  congr 1
  refine List.filter_congr fun p _ => ?_
  show decide (¬ (Sum.inl p.1 : Key) = .inl k) = decide (¬ p.1 = k)
  by_cases h : p.1 = k <;> simp [h]
theorem any_key {es : List (Int × Int)} {k : Int} : ((es.map eK).any fun kv => decide (kv.1 = Sum.inl k)) = decide (k ∈ es.map (·.1)) := by
  rw [List.any_map, Bool.eq_iff_iff, List.any_eq_true, decide_eq_true_iff, List.mem_map]
  constructor
  · rintro ⟨p, hp, e⟩
    have e : (Sum.inl p.1 : Key) = .inl k := of_decide_eq_true e
    exact ⟨p, hp, by injection e⟩
  · rintro ⟨p, hp, rfl⟩
    exact ⟨p, hp, decide_eq_true rfl⟩
theorem put_map {es : List (Int × Int)} {k w : Int} : putD (es.map eK) (.inl k) (.int w) = (if k ∈ es.map (·.1) then rep es k w else es ++ [(k, w)]).map eK := by
  unfold putD
  rw [any_key]
  by_cases h : k ∈ es.map (·.1)
  · rw [if_pos (decide_eq_true h), if_pos h]
    unfold rep
    rw [List.map_map, List.map_map]
    refine List.map_congr_left fun p _ => ?_
    show (if (Sum.inl p.1 : Key) = .inl k then ((Sum.inl p.1 : Key), D.int w) else eK p) = eK (if p.1 = k then (p.1, w) else p)
    by_cases hp : p.1 = k
    · rw [if_pos hp, if_pos (by rw [hp])]; rfl
    · rw [if_neg hp, if_neg (fun e => hp (by injection e))]
  · rw [if_neg (by simpa using h), if_neg h, List.map_append]; rfl
theorem val_rep {k w : Int} : ∀ {es : List (Int × Int)}, k ∈ es.map (·.1) → val (rep es k w) k = w
  | [], h => nomatch h
  | p :: r, h => by
    by_cases hp : p.1 = k
    · show val ((if p.1 = k then (p.1, w) else p) :: rep r k w) k = w
      rw [if_pos hp, val, if_pos hp]
    · have hr : k ∈ r.map (·.1) := by
        rw [List.map_cons] at h
        rcases List.mem_cons.mp h with e | e
        · exact absurd e.symm hp
        · exact e
      show val ((if p.1 = k then (p.1, w) else p) :: rep r k w) k = w
      rw [if_neg hp, val, if_neg hp, val_rep hr]
theorem val_app {k w : Int} : ∀ {es : List (Int × Int)}, k ∉ es.map (·.1) → val (es ++ [(k, w)]) k = w
  | [], _ => by simp [val]
  | p :: r, h => by
    rw [List.map_cons, List.mem_cons, not_or] at h
    rw [List.cons_append, val, if_neg (fun e => h.1 e.symm), val_app h.2]
theorem sum_app {c : Int} {q : Int × Int} : ∀ {es : List (Int × Int)}, sumTo (es ++ [q]) c = sumTo es c + (if q.1 ≤ c then q.2 else 0)
  | [] => by simp [sumTo]
  | p :: r => by rw [List.cons_append, sumTo, sumTo, sum_app]; omega
/-- numbers from 0 on, each once, none of what is risen by there 0 -/
structure Ext (n : Nat) (es : List (Int × Int)) : Prop where
  nd : (es.map (·.1)).Nodup
  ok : ∀ p, p ∈ es → 0 ≤ p.1 ∧ p.2 ≠ 0
  len : es.length ≤ n
theorem nd_app {es : List (Int × Int)} {k w : Int} (nd : (es.map (·.1)).Nodup) (h : k ∉ es.map (·.1)) : ((es ++ [(k, w)]).map (·.1)).Nodup := by
  rw [List.map_append]
  refine List.nodup_append.mpr ⟨nd, by simp, fun a ha b hb => ?_⟩
  have hb : b = k := by simpa using hb
  subst hb
  exact fun e => h (e ▸ ha)
/-! ### the sorted keys, the least company of a total, the steps -/
theorem intK_e : ∀ {es : List (Int × Int)}, intK (es.map eK) = some (es.map (·.1))
  | [] => rfl
  | p :: r => by
    show (intK (r.map eK)).map (p.1 :: ·) = _
    rw [intK_e]; rfl
theorem sorted_ok {n : Nat} {es : List (Int × Int)} (X : Ext n es) (hn : n < 100000) : ∃ ks : List Int, srtT [.dic (es.map eK)] = some (ks.map D.int) ∧ ks.Perm (es.map (·.1)) ∧ ks.Pairwise (· < ·) := by
  refine ⟨srtI (es.map (·.1)), ?_, srtI_perm _, ?_⟩
  · show (if (es.map eK).length ≤ sizeLine then (intK (es.map eK)).map fun ns => (srtI ns).map D.int else none) = _
    have := X.len
    rw [if_pos (small_le (by rw [List.length_map]; omega)), intK_e]; rfl
  · exact lt_of_le_nodup _ (srtI_ord _) ((srtI_perm _).nodup_iff.mpr X.nd)
theorem dix_e {es : List (Int × Int)} {k : Int} (h : k ∈ es.map (·.1)) : dixD (.dic (es.map eK)) (.int k) = some (.int (val es k)) := by
  show getK _ (.inl k) = _
  rw [get_val, if_pos h]
theorem forF_nx {S R : Type} {f : D → S → Res (LFlow S R)} {d : D} {ds : List D} {s s' : S} (h : f d s = .ok (.nx s')) : forF (d :: ds) s f = forF ds s' f := by
  conv => lhs; unfold forF
  rw [h]
theorem forF_no {S R : Type} {f : D → S → Res (LFlow S R)} {s : S} : forF [] s f = .ok (.nx s) := by
  unfold forF; rfl
theorem forS_c {S : Type} {f : D → S → Res S} {d : D} {ds : List D} {s s' : S} (h : f d s = .ok s') : forS (d :: ds) s f = forS ds s' f := by
  conv => lhs; unfold forS
  rw [h]; rfl
theorem forS_no {S : Type} {f : D → S → Res S} {s : S} : forS [] s f = .ok s := by
  unfold forS; rfl
theorem fb_nx {S R : Type} {s : S} {k : S → Res R} : fbind (.ok (.nx s)) k = k s := rfl
/-- r is the least company of a total m by T -/
def Least (T : Int → Int) (m r : Int) : Prop := 0 ≤ r ∧ ∀ c, 0 ≤ c → (m ≤ T c ↔ r ≤ c)
theorem up_keys {n : Nat} {es : List (Int × Int)} (X : Ext n es) {ks : List Int} (p : ks.Perm (es.map (·.1))) {c : Int} : up (val es) ks c = sumTo es c := by
  rw [up_perm p, up_val fun q hq => val_mem X.nd hq]
/-- steps of a many by company -/
def stp (S : Int → Int) (ks : List Int) : List (Int × Int) := ks.map fun k => (k, S k)
theorem steps_loop {S : Int → Int} {w : Int → Int} {d : D} : ∀ {ks : List Int} {lo x : Int} {l : List (Int × Int)}, (∀ k, k ∈ ks → dixD d (.int k) = some (.int (w k))) → ks.Pairwise (· < ·) → (∀ k, k ∈ ks → lo < k) → 0 ≤ lo → l.length + ks.length < 900000 →
    (∀ c, lo ≤ c → S c = x + up w ks c) →
    forS (ks.map D.int) ((l ++ [(lo, x)]).map eP) (fun d7 s6 =>
      ((op (gtD d7 (D.int 0)) fun b9 =>
      if b9 = true then (op (negD (D.int 1)) fun t10 =>
      op (ixD (D.lst s6) t10) fun t11 =>
      op (ixD t11 (D.int 1)) fun t12 =>
      op (dixD d d7) fun t13 =>
      op (addD t12 t13) fun t14 =>
      op (appL s6 [(D.tup [d7, t14])]) fun a15 =>
      .ok a15.2) else (.ok s6) : Res (List D))).bind fun s8 =>
      .ok s8) = .ok ((l ++ [(lo, x)] ++ stp S ks).map eP)
  | [], lo, x, l, _, _, _, _, _, _ => by simp [forS, stp]
  | k :: r, lo, x, l, hd, pw, gt, l0, hl, hS => by
    obtain ⟨p1, p2⟩ := List.pairwise_cons.mp pw
    have gk := gt k List.mem_cons_self
    have eS : S k = x + w k := by
      rw [hS k (by omega), up, if_pos (Int.le_refl _), up_zero fun j hj => p1 j hj]
      omega
    have lst : ixD (.lst ((l ++ [(lo, x)]).map eP)) (.int (-1)) = some (eP (lo, x)) := by rw [List.map_append]; exact ix_last
    have i1 : ixD (eP (lo, x)) (.int 1) = some (.int x) := rfl
    rw [List.length_cons] at hl
    have ap : appL ((l ++ [(lo, x)]).map eP) [(D.tup [.int k, .int (x + w k)])] = some (.non, ((l ++ [(lo, x)]) ++ [(k, S k)]).map eP) := by
      rw [app1 (by rw [List.length_map, List.length_append, List.length_singleton]; omega), eS]; simp [eP]
    rw [List.map_cons]
    rw [forS_c (s' := ((l ++ [(lo, x)]) ++ [(k, S k)]).map eP) (by
      try dsimp only
      rw [gtI, op_s, if_pos (by simp; omega), negI, op_s, lst, op_s, i1, op_s, hd k List.mem_cons_self, op_s, addI, op_s, ap, op_s, bind_s])]
    rw [steps_loop (S := S) (w := w) (lo := k) (x := S k) (l := l ++ [(lo, x)]) (fun j hj => hd j (List.mem_cons_of_mem _ hj)) p2 p1 (by omega) (by rw [List.length_append, List.length_singleton]; omega) (fun c hc => by
      rw [hS c (by omega), up, if_pos hc, eS]; omega)]
    simp [stp]
theorem steps_ok {n : Nat} {es : List (Int × Int)} {S : Int → Int} (X : Ext n es) (hn : n < 100000) (hS : ∀ c, 0 ≤ c → S c = sumTo es c) : ∃ ks : List Int, d_t_steps_by [.dic (es.map eK)] = .ok ((stp S (0 :: ks)).map eP) ∧ ks.Pairwise (· < ·) ∧ (∀ k, k ∈ ks ↔ 0 < k ∧ S k ≠ S (k - 1)) ∧ ks.length ≤ n := by
  obtain ⟨ks, e1, pm, pw⟩ := sorted_ok X hn
  have e2 : asL (.lst (ks.map D.int)) = some (ks.map D.int) := rfl
  have e3 : asK (.dic (es.map eK)) = some (es.map eK) := rfl
  have e4 : dgetD (.dic (es.map eK)) (.int 0) (.int 0) = some (.int (val es 0)) := by
    show some ((getK (es.map eK) (.inl 0)).getD (.int 0)) = _
    rw [get_def]
  have mem : ∀ k, k ∈ ks → k ∈ es.map (·.1) := fun k hk => pm.mem_iff.mp hk
  have pos : ∀ k, k ∈ ks → 0 ≤ k ∧ val es k ≠ 0 := fun k hk => by
    obtain ⟨q, hq, rfl⟩ := List.mem_map.mp (mem k hk)
    rw [val_mem X.nd hq]
    exact X.ok q hq
  have lk : ks.length ≤ n := by
    rw [pm.length_eq, List.length_map]; exact X.len
  have upS : ∀ c, 0 ≤ c → S c = up (val es) ks c := fun c hc => by rw [hS c hc, up_keys X pm]
  have jump : ∀ k, 0 < k → S k = S (k - 1) + val es k := fun k hk => by
    rw [upS k (by omega), upS (k - 1) (by omega)]
    have key : ∀ {l : List Int}, l.Pairwise (· < ·) → up (val es) l k = up (val es) l (k - 1) + if k ∈ l then val es k else 0 := by
      intro l
      induction l with
      | nil => intro _; rfl
      | cons j r ih =>
        intro p
        obtain ⟨p1, p2⟩ := List.pairwise_cons.mp p
        rw [up, up, ih p2]
        by_cases hj : j = k
        · subst hj
          have nr : j ∉ r := fun h => by have := p1 j h; omega
          rw [if_pos (Int.le_refl _), if_neg nr, if_neg (by omega), if_pos List.mem_cons_self]; omega
        · have e : (k ∈ j :: r) ↔ k ∈ r := by
            rw [List.mem_cons]
            exact ⟨fun h => h.elim (fun z => absurd z.symm hj) id, .inr⟩
          have e5 : (j ≤ k) ↔ (j ≤ k - 1) := by omega
          simp only [e, e5]; omega
    rw [key pw]
    by_cases h : k ∈ ks
    · rw [if_pos h]
    · rw [if_neg h, val_no fun z => h (pm.mem_iff.mpr z)]
  have chg : ∀ k, 0 < k → (k ∈ ks ↔ S k ≠ S (k - 1)) := fun k hk => by
    rw [jump k hk]
    constructor
    · intro h
      have := (pos k h).2
      omega
    · intro h
      refine Decidable.byContradiction fun z => h ?_
      rw [val_no fun q => z (pm.mem_iff.mpr q)]; omega
  unfold d_t_steps_by
  dsimp only
  rw [e3, op_s, e4, op_s, e1, op_s, e2, op_s]
  match ks, pw, pos, lk, upS, chg, mem with
  | [], pw, pos, lk, upS, chg, mem =>
    have z : val es 0 = S 0 := by
      have := upS 0 (by omega)
      have e : sumTo es 0 = 0 := by rw [← hS 0 (by omega), this]; rfl
      rw [val_no fun q => nomatch (pm.mem_iff.mpr q)]
      rw [this]; rfl
    refine ⟨[], ?_, List.Pairwise.nil, fun k => ⟨fun h => (nomatch h), fun h => (chg k h.1).mpr h.2⟩, by simp⟩
    rw [z]; rfl
  | k0 :: r, pw, pos, lk, upS, chg, mem =>
    obtain ⟨p1, p2⟩ := List.pairwise_cons.mp pw
    rw [List.length_cons] at lk
    by_cases hk : k0 = 0
    · subst hk
      have z : S 0 = val es 0 := by
        rw [upS 0 (by omega), up, if_pos (Int.le_refl _), up_zero fun j hj => p1 j hj]; omega
      refine ⟨r, ?_, p2, fun k => ⟨fun h => ?_, fun h => ?_⟩, by omega⟩
      · rw [List.map_cons, forS_c (s' := [D.tup [.int 0, .int (val es 0)]]) (by
          try dsimp only
          rw [gtI, op_s, if_neg (by simp), bind_s])]
        have := steps_loop (S := S) (w := val es) (d := .dic (es.map eK)) (ks := r) (lo := 0) (x := S 0) (l := []) (fun j hj => dix_e (mem j (List.mem_cons_of_mem _ hj))) p2 p1 (by omega) (by simp; omega) (fun c hc => by
          rw [upS c hc, up, if_pos hc, z])
        rw [← z]
        show (forS (r.map D.int) (([] ++ [((0 : Int), S 0)]).map eP) _).bind _ = _
        rw [this]; rfl
      · have := p1 k h
        exact ⟨this, (chg k this).mp (List.mem_cons_of_mem _ h)⟩
      · rcases List.mem_cons.mp ((chg k h.1).mpr h.2) with q | q
        · omega
        · exact q
    · have k1 : 0 < k0 := by have := (pos k0 List.mem_cons_self).1; omega
      have gt : ∀ j, j ∈ k0 :: r → 0 < j := fun j hj => by
        rcases List.mem_cons.mp hj with rfl | hj
        · exact k1
        · exact Int.lt_trans k1 (p1 j hj)
      have v0 : val es 0 = 0 := val_no fun q => by have := gt 0 (pm.mem_iff.mpr q); omega
      have z : S 0 = 0 := by rw [upS 0 (by omega), up_zero gt]
      refine ⟨k0 :: r, ?_, pw, fun k => ⟨fun h => ⟨gt k h, (chg k (gt k h)).mp h⟩, fun h => (chg k h.1).mpr h.2⟩, by rw [List.length_cons]; omega⟩
      have := steps_loop (S := S) (w := val es) (d := .dic (es.map eK)) (ks := k0 :: r) (lo := 0) (x := S 0) (l := []) (fun j hj => dix_e (mem j hj)) pw gt (by omega) (by simp; omega) (fun c hc => by rw [upS c hc, z]; omega)
      rw [v0.trans z.symm]
      show (forS ((k0 :: r).map D.int) (([] ++ [((0 : Int), S 0)]).map eP) _).bind _ = _
      rw [this]; rfl

/-! ### walks that know their place -/
theorem Ok.forI {S : Type} {f : D → S → Res S} : ∀ {ds : List D} {s : S} (P : Nat → S → Prop), P 0 s → (∀ i d, ds[i]? = some d → ∀ s, P i s → Ok (f d s) (P (i + 1))) → Ok (forS ds s f) (P ds.length)
  | [], s, P, h, _ => by rw [forS_no]; exact Ok.ret h
  | d :: ds, s, P, h, hf => by
    obtain ⟨s', e, h'⟩ := hf 0 d rfl s h
    rw [forS_c e]
    exact Ok.forI (ds := ds) (fun i => P (i + 1)) h' fun i d hd s hs => hf (i + 1) d (by simpa using hd) s hs
theorem flat_at {S : Int → Int} {lo : Int} : ∀ {n : Nat}, (∀ c, lo < c → c ≤ lo + n → S c = S (c - 1)) → S (lo + n) = S lo
  | 0, _ => by simp
  | n + 1, h => by
    have h1 := h (lo + (n + 1 : Nat)) (by omega) (Int.le_refl _)
    rw [h1, show lo + ((n + 1 : Nat) : Int) - 1 = lo + n by omega]
    exact flat_at fun c a b => h c a (by omega)
def chg (S : Int → Int) (c : Int) : Bool := decide (S c ≠ S (c - 1))
theorem shp_eP {p : Int × Int} : Shp 1 (eP p) := shp_tup (mem2 shp_int shp_int)

/-! ### the table of a row: how many speak truly by a company -/
def mny (xs : List Say) (c : Int) : Int := tot xs c - c
/-! where how many speak truly turns -/
/-! ### steps, tables -/
def step : D → Bool
  | .tup [x, y] => cnt x && cnt y
  | _ => false
def unI : D → Int
  | .int i => i
  | _ => 0
def unP : D → Int × Int
  | .tup [x, y] => (unI x, unI y)
  | _ => (0, 0)
theorem step_eP {d : D} (h : step d = true) : eP (unP d) = d := by
  match d, h with
  | .tup [x, y], h =>
    have h' : (cnt x && cnt y) = true := h
    rw [Bool.and_eq_true] at h'
    obtain ⟨i, rfl, _⟩ := cnt_int h'.1
    obtain ⟨j, rfl, _⟩ := cnt_int h'.2
    rfl
theorem steps_eP : ∀ {ds : List D}, ds.all step = true → (ds.map unP).map eP = ds
  | [], _ => rfl
  | d :: ds, h => by
    rw [List.all_cons, Bool.and_eq_true] at h
    rw [List.map_cons, List.map_cons, step_eP h.1, steps_eP h.2]
theorem step_is (d : D) : d_t_is_step [d] = .ok (.bl (step d)) := by
  unfold d_t_is_step
  dsimp only
  by_cases ht : isTup d = true
  · match d, ht with
    | .tup ds, _ =>
      have e1 : lenD [.tup ds] = some (.int ds.length) := rfl
      have ht2 : isTup (.tup ds) = true := rfl
      rw [asB_ok, op_s, if_pos ht2, e1, op_s, eqI, op_s, asB_ok, op_s]
      match ds with
      | [] => rfl
      | [_] => rfl
      | [x, y] =>
        have i0 : ixD (.tup [x, y]) (.int 0) = some x := rfl
        have i1 : ixD (.tup [x, y]) (.int 1) = some y := rfl
        rw [if_pos (by simp), i0, op_s, number_ok, bind_s, asB_ok, op_s, i1, op_s, number_ok, bind_s]
        cases hx : cnt x <;> simp [step, hx, bind_s]
      | a :: b :: c :: r =>
        rw [if_neg (by simp; omega)]
        rfl
  · cases d <;> first | rfl | exact absurd rfl ht
def near (a b : Int × Int) : Bool := decide (a.1 < b.1) && !decide (a.2 = b.2)
def tab : List (Int × Int) → Bool
  | [] => false
  | p :: r => decide (p.1 = 0) && adj near (p :: r)
def tabD : D → Bool
  | .lst ds => ds.all step && tab (ds.map unP)
  | _ => false
def good : D → Prop
  | .lst ds => ds.length < 1000 ∧ Shp 60 (.lst ds)
  | .scr _ => False
  | _ => True
theorem i0P {p : Int × Int} : ixD (eP p) (.int 0) = some (.int p.1) := rfl
theorem i1P {p : Int × Int} : ixD (eP p) (.int 1) = some (.int p.2) := rfl
theorem table_is {d : D} (h : good d) : d_t_is_table [d] = .ok (.bl (tabD d)) := by
  unfold d_t_is_table
  cases d with
  | lst ds =>
    obtain ⟨hl, hs⟩ := h
    have e0 : asL (.lst ds) = some ds := rfl
    have key : (lcF ds (() : Unit) [] fun d5 s4 => (d_t_is_step [d5]).bind fun a6 => .ok (some a6, ())) = .ok (ds.map fun d => .bl (step d), ()) := by
      have := lc_map (f := fun (d5 : D) (s4 : Unit) => (d_t_is_step [d5]).bind fun a6 => .ok (some a6, ())) (e := id) (g := fun d => .bl (step d)) (s := ()) (xs := ds) (by omega) (fun d _ => by rw [id, step_is, bind_s])
      simpa using this
    have al : allD [.lst (ds.map fun d => .bl (step d))] = some (.bl (ds.all step)) := by
      show (bls _).map _ = _
      rw [bls_map]
      simp [List.all_map]
    simp only [isLst, Bool.not_true, eq_nil hs, op_s, e0, key, bind_s, al, tru_ok]
    rw [if_neg (by simp)]
    cases ds with
    | nil => rfl
    | cons d ds =>
      rw [if_neg (by simp)]
      cases hst : (d :: ds).all step with
      | false => simp [bind_s, tabD, hst]
      | true =>
        have ep := steps_eP hst
        rw [if_neg (by simp)]
        simp only [tabD, hst, Bool.true_and]
        generalize (d :: ds).map unP = xs at ep ⊢
        rw [← ep]
        cases xs with
        | nil => cases ep
        | cons p r =>
          have i00 : ixD (.lst ((p :: r).map eP)) (.int 0) = some (eP p) := ix_0
          rw [i00, op_s, i0P, op_s, neI, op_s, bind_s]
          by_cases hp : p.1 = 0
          · rw [if_neg (by simp [hp])]
            have ec : cutA (.lst ((p :: r).map eP)) (some 1) none = some (.lst (((p :: r).drop 1).map eP)) := by
              have := cut_back (ds := (p :: r).map eP) (i := 1) (by simp)
              show some (D.lst _) = _
              rw [show ((1 : Nat) : Int) = 1 from rfl] at this
              rw [this, List.map_drop]
            rw [ec, op_s, zip_lst, op_s]
            have len : ((p :: r).zip ((p :: r).drop 1)).length < 1000000 := by
              have l2 : (p :: r).length = (d :: ds).length := by rw [← ep]; simp
              rw [List.length_zip]
              omega
            rw [lc_map (e := fun z => .tup [eP z.1, eP z.2]) (g := fun z => .bl (near z.1 z.2)) len (fun z _ => by
              have eu : un2 (.tup [eP z.1, eP z.2]) = some (eP z.1, eP z.2) := rfl
              simp only [eu, op_s, i0P, i1P, ltI, asB_ok, neI, near]
              cases decide (z.1.1 < z.2.1) <;> simp [bind_s]), bind_s]
            have ea : allD [.lst (((p :: r).zip ((p :: r).drop 1)).map fun z => D.bl (near z.1 z.2))] = some (.bl (adj near (p :: r))) := by
              have := all_ok (ns := (((p :: r).zip ((p :: r).drop 1)).map fun z => near z.1 z.2))
              rw [List.map_map] at this
              rw [all_zip] at this
              exact this
            rw [ea, op_s]
            simp [tab, hp]
          · rw [if_pos (by simp [hp])]
            simp [tab, hp]
  | scr _ => exact h.elim
  | non => rfl
  | bl _ => rfl
  | int _ => rfl
  | str _ => rfl
  | tup _ => rfl
  | exc _ => rfl
  | obj _ _ => rfl
  | dic _ => rfl

/-! ### what a table tells of a company -/
def upon (ps : List (Int × Int)) (c : Int) : List (Int × Int) := ps.filter fun p => decide (p.1 ≤ c)
/-- a table: steps of numbers, rising from 0 on, each time another many -/
structure Tb (ps : List (Int × Int)) : Prop where
  tab : tab ps = true
  nn : ∀ p, p ∈ ps → 0 ≤ p.1 ∧ 0 ≤ p.2
  len : ps.length < 900
theorem Tb.good {ps : List (Int × Int)} (h : Tb ps) : good (.lst (ps.map eP)) ∧ tabD (.lst (ps.map eP)) = true := by
  have hl := h.len
  refine ⟨⟨by rw [List.length_map]; omega, (shp_lst (n := 1) fun x hx => ?_).mono (by omega)⟩, ?_⟩
  · obtain ⟨p, _, rfl⟩ := List.mem_map.mp hx
    exact shp_tup (mem2 shp_int shp_int)
  · have e1 : (ps.map eP).map unP = ps := by
      rw [List.map_map]
      have : (unP ∘ eP) = id := by funext p; rfl
      rw [this, List.map_id]
    have e2 : (ps.map eP).all step = true := List.all_eq_true.mpr fun x hx => by
      obtain ⟨p, hp, rfl⟩ := List.mem_map.mp hx
      obtain ⟨h1, h2⟩ := h.nn p hp
      simp [eP, step, cnt, h1, h2]
    show ((ps.map eP).all step && _root_.BR.tab ((ps.map eP).map unP)) = true
    rw [e1, e2, h.tab]; rfl
theorem Tb.last {ps : List (Int × Int)} (h : Tb ps) {c : Int} (hc : 0 ≤ c) : ∃ z, (upon ps c).getLast? = some z ∧ z ∈ ps := by
  have ht := h.tab
  cases ps with
  | nil => cases ht
  | cons p r =>
    have hp : p.1 = 0 := by
      have : (decide (p.1 = 0) && adj near (p :: r)) = true := ht
      rw [Bool.and_eq_true, decide_eq_true_iff] at this
      exact this.1
    have e : upon (p :: r) c = p :: r.filter (fun p => decide (p.1 ≤ c)) := by
      unfold upon
      rw [List.filter_cons, if_pos (by simp [hp, hc])]
    rw [e, List.getLast?_cons]
    refine ⟨_, rfl, ?_⟩
    cases q : (r.filter fun p => decide (p.1 ≤ c)).getLast? with
    | none => exact List.mem_cons_self
    | some z => exact List.mem_cons_of_mem _ (List.mem_filter.mp (List.mem_of_getLast? q)).1

/-! ### a row's table is a table, and tells its many -/
theorem flat_in {S : Int → Int} {a b : Int} (h : a ≤ b) (f : ∀ c, a < c → c ≤ b → S c = S (c - 1)) : S b = S a := by
  have := flat_at (S := S) (lo := a) (n := (b - a).toNat) fun c x y => f c x (by omega)
  rwa [show a + ((b - a).toNat : Int) = b by omega] at this
theorem adj_stp {S : Int → Int} : ∀ {ks : List Int} {lo : Int}, ks.Pairwise (· < ·) → (∀ k, k ∈ ks → lo < k) → (∀ c, lo < c → (c ∈ ks ↔ S c ≠ S (c - 1))) → adj near (stp S (lo :: ks)) = true
  | [], _, _, _, _ => rfl
  | k :: r, lo, pw, gt, mem => by
    obtain ⟨p1, p2⟩ := List.pairwise_cons.mp pw
    have gk := gt k List.mem_cons_self
    have e : S (k - 1) = S lo := flat_in (by omega) fun c a b => Decidable.byContradiction fun z => by
      rcases List.mem_cons.mp ((mem c a).mpr z) with rfl | q
      · omega
      · have := p1 c q; omega
    have ne := (mem k gk).mp List.mem_cons_self
    rw [e] at ne
    have ih := adj_stp (S := S) (ks := r) (lo := k) p2 p1 fun c hc => by
      rw [← mem c (by omega), List.mem_cons]
      exact ⟨.inr, fun h => h.elim (fun z => absurd z (by omega)) id⟩
    show (near (lo, S lo) (k, S k) && adj near (stp S (k :: r))) = true
    rw [ih]
    have : ¬ S lo = S k := fun z => ne z.symm
    simp [near, gk, this]
theorem last_stp {S : Int → Int} {c : Int} : ∀ {ks : List Int} {lo : Int}, ks.Pairwise (· < ·) → (∀ k, k ∈ ks → lo < k) → (∀ c, lo < c → (c ∈ ks ↔ S c ≠ S (c - 1))) → lo ≤ c → ∃ t, (upon (stp S (lo :: ks)) c).getLast? = some (t, S c)
  | [], lo, _, _, mem, hc => by
    have e : S c = S lo := flat_in hc fun c a _ => Decidable.byContradiction fun z => nomatch (mem c a).mpr z
    refine ⟨lo, ?_⟩
    show (List.filter _ [(lo, S lo)]).getLast? = _
    rw [List.filter_cons, if_pos (by simpa using hc), e]; rfl
  | k :: r, lo, pw, gt, mem, hc => by
    obtain ⟨p1, p2⟩ := List.pairwise_cons.mp pw
    have gk := gt k List.mem_cons_self
    have e0 : upon (stp S (lo :: k :: r)) c = (lo, S lo) :: upon (stp S (k :: r)) c := by
      show List.filter _ ((lo, S lo) :: stp S (k :: r)) = _
      rw [List.filter_cons, if_pos (by simpa using hc)]; rfl
    rw [e0, List.getLast?_cons]
    by_cases hk : k ≤ c
    · obtain ⟨t, e⟩ := last_stp (S := S) (c := c) (ks := r) (lo := k) p2 p1 (fun c hc => by
        rw [← mem c (by omega), List.mem_cons]
        exact ⟨.inr, fun h => h.elim (fun z => absurd z (by omega)) id⟩) hk
      exact ⟨t, by rw [e]; rfl⟩
    · have en : upon (stp S (k :: r)) c = [] := List.filter_eq_nil_iff.mpr fun p hp => by
        obtain ⟨j, hj, rfl⟩ := List.mem_map.mp hp
        have : k ≤ j := by
          rcases List.mem_cons.mp hj with rfl | q
          · exact Int.le_refl _
          · exact Int.le_of_lt (p1 j q)
        simp; omega
      have e : S c = S lo := flat_in hc fun x a b => Decidable.byContradiction fun z => by
        rcases List.mem_cons.mp ((mem x a).mpr z) with rfl | q
        · omega
        · have := p1 x q; omega
      exact ⟨lo, by rw [en, e]; rfl⟩
/-! ### steps of what turns at just these numbers -/
structure Cn (S : Int → Int) (ks : List Int) (n : Nat) : Prop where
  pw : ks.Pairwise (· < ·)
  mem : ∀ k, k ∈ ks ↔ 0 < k ∧ S k ≠ S (k - 1)
  len : ks.length ≤ n
theorem Cn.gt {S : Int → Int} {ks : List Int} {n : Nat} (h : Cn S ks n) : ∀ k, k ∈ ks → 0 < k := fun k hk => ((h.mem k).mp hk).1
theorem Cn.at {S : Int → Int} {ks : List Int} {n : Nat} (h : Cn S ks n) : ∀ c, 0 < c → (c ∈ ks ↔ S c ≠ S (c - 1)) := fun c hc => by
  rw [h.mem c]; exact ⟨fun z => z.2, fun z => ⟨hc, z⟩⟩
theorem Cn.last {S : Int → Int} {ks : List Int} {n : Nat} (h : Cn S ks n) {c : Int} (hc : 0 ≤ c) : ∃ t, (upon (stp S (0 :: ks)) c).getLast? = some (t, S c) := last_stp h.pw h.gt h.at hc
theorem Cn.uniq {S : Int → Int} {ks js : List Int} {n m : Nat} (h : Cn S ks n) (g : Cn S js m) : ks = js := rising_eq h.pw g.pw fun k => by rw [h.mem, g.mem]
theorem Cn.congr {S T : Int → Int} {ks : List Int} {n : Nat} (h : Cn S ks n) (e : ∀ c, 0 ≤ c → S c = T c) : Cn T ks n := ⟨h.pw, fun k => by
  rw [h.mem k]
  constructor
  · rintro ⟨a, b⟩; rw [e k (by omega), e (k - 1) (by omega)] at b; exact ⟨a, b⟩
  · rintro ⟨a, b⟩; rw [← e k (by omega), ← e (k - 1) (by omega)] at b; exact ⟨a, b⟩, h.len⟩
theorem stp_len {S : Int → Int} {ks : List Int} : (stp S ks).length = ks.length := List.length_map _
theorem Cn.pos {S : Int → Int} {ks : List Int} {n : Nat} (h : Cn S ks n) : ∀ k, k ∈ 0 :: ks → 0 ≤ k := fun k hk => by
  rcases List.mem_cons.mp hk with rfl | q
  · exact Int.le_refl _
  · exact Int.le_of_lt (h.gt k q)
theorem Cn.tb {S : Int → Int} {ks : List Int} {n : Nat} (h : Cn S ks n) (hn : n < 800) (nn : ∀ c, 0 ≤ c → 0 ≤ S c) : Tb (stp S (0 :: ks)) where
  tab := by
    have a := adj_stp (S := S) (ks := ks) (lo := 0) h.pw h.gt h.at
    show (decide ((0 : Int) = 0) && adj near (stp S (0 :: ks))) = true
    rw [a]; rfl
  nn := fun p hp => by
    obtain ⟨k, hk, rfl⟩ := List.mem_map.mp hp
    exact ⟨h.pos k hk, nn k (h.pos k hk)⟩
  len := by
    have := h.len
    rw [stp_len, List.length_cons]; omega
theorem fall_stp {S : Int → Int} : ∀ {ks : List Int} {lo : Int}, ks.Pairwise (· < ·) → (∀ k, k ∈ ks → lo < k) → (∀ c, lo < c → (c ∈ ks ↔ S c ≠ S (c - 1))) → (∀ c, lo < c → S (c - 1) - 1 ≤ S c) → adj (fun a b : Int × Int => decide (a.2 - 1 ≤ b.2)) (stp S (lo :: ks)) = true
  | [], _, _, _, _, _ => rfl
  | k :: r, lo, pw, gt, mem, fl => by
    obtain ⟨p1, p2⟩ := List.pairwise_cons.mp pw
    have gk := gt k List.mem_cons_self
    have e : S (k - 1) = S lo := flat_in (by omega) fun c a b => Decidable.byContradiction fun z => by
      rcases List.mem_cons.mp ((mem c a).mpr z) with rfl | q
      · omega
      · have := p1 c q; omega
    have f1 := fl k gk
    rw [e] at f1
    have ih := fall_stp (S := S) (ks := r) (lo := k) p2 p1 (fun c hc => by
      rw [← mem c (by omega), List.mem_cons]
      exact ⟨.inr, fun h => h.elim (fun z => absurd z (by omega)) id⟩) fun c hc => fl c (by omega)
    show (decide (S lo - 1 ≤ S k) && adj (fun a b : Int × Int => decide (a.2 - 1 ≤ b.2)) (stp S (k :: r))) = true
    rw [ih, decide_eq_true f1]; rfl
theorem isrows_cn {S : Int → Int} {ks : List Int} {n : Nat} (h : Cn S ks n) (hn : n < 800) (nn : ∀ c, 0 ≤ c → 0 ≤ S c) (fl : ∀ c, 0 < c → S (c - 1) - 1 ≤ S c) : d_t_is_rows [.lst ((stp S (0 :: ks)).map eP)] = .ok (.bl true) := by
  obtain ⟨g, t⟩ := (h.tb hn nn).good
  have hl := (h.tb hn nn).len
  have fs := fall_stp (S := S) h.pw h.gt h.at fl
  generalize stp S (0 :: ks) = ps at g t hl fs
  unfold d_t_is_rows
  dsimp only
  rw [table_is g, bind_s, t, asB_ok, op_s, if_pos rfl]
  have ec : cutA (.lst (ps.map eP)) (some 1) none = some (.lst ((ps.drop 1).map eP)) := by
    by_cases hz : ps = []
    · subst hz; rfl
    · have := cut_back (ds := ps.map eP) (i := 1) (by rw [List.length_map]; exact List.length_pos_iff.mpr hz)
      show some (D.lst _) = _
      rw [show ((1 : Nat) : Int) = 1 from rfl] at this
      rw [this, List.map_drop]
  have len : (ps.zip (ps.drop 1)).length < 1000000 := by rw [List.length_zip]; omega
  rw [ec, op_s, zip_lst, op_s, lc_map (e := fun z => .tup [eP z.1, eP z.2]) (g := fun z => .bl (decide (z.1.2 - 1 ≤ z.2.2))) len (fun z _ => by
    have eu : un2 (.tup [eP z.1, eP z.2]) = some (eP z.1, eP z.2) := rfl
    simp only [eu, op_s, i1P, subI, geI]), bind_s]
  have ea : allD [.lst ((ps.zip (ps.drop 1)).map fun z => D.bl (decide (z.1.2 - 1 ≤ z.2.2)))] = some (.bl (adj (fun a b : Int × Int => decide (a.2 - 1 ≤ b.2)) ps)) := by
    have := all_ok (ns := ((ps.zip (ps.drop 1)).map fun z => decide (z.1.2 - 1 ≤ z.2.2)))
    rw [List.map_map] at this
    rw [show ((ps.zip (ps.drop 1)).map fun z => decide (z.1.2 - 1 ≤ z.2.2)).all id = adj (fun a b : Int × Int => decide (a.2 - 1 ≤ b.2)) ps from all_zip (p := fun a b : Int × Int => decide (a.2 - 1 ≤ b.2))] at this
    exact this
  rw [ea, op_s, fs, bind_s]
theorem needrows_cn {S : Int → Int} {ks : List Int} {n : Nat} (h : Cn S ks n) (hn : n < 800) (nn : ∀ c, 0 ≤ c → 0 ≤ S c) (fl : ∀ c, 0 < c → S (c - 1) - 1 ≤ S c) : d_t_need_rows [.lst ((stp S (0 :: ks)).map eP)] = .ok .non := by
  unfold d_t_need_rows
  dsimp only
  rw [isrows_cn h hn nn fl, bind_s, tru_ok, op_s, if_neg (by simp)]
/-- the step that holds at a company -/
theorem held_stp {S : Int → Int} {c : Int} : ∀ {ks : List Int} {lo : Int}, ks.Pairwise (· < ·) → (∀ k, k ∈ ks → lo < k) → (∀ c, lo < c → (c ∈ ks ↔ S c ≠ S (c - 1))) → lo ≤ c → ∃ (j : Nat) (f : Int), (lo :: ks)[j]? = some f ∧ f ≤ c ∧ S f = S c ∧ ∀ e, (lo :: ks)[j + 1]? = some e → c < e
  | [], lo, _, _, mem, hc => by
    have e : S c = S lo := flat_in hc fun c a _ => Decidable.byContradiction fun z => nomatch (mem c a).mpr z
    exact ⟨0, lo, rfl, hc, e.symm, fun x hx => by simp at hx⟩
  | k :: r, lo, pw, gt, mem, hc => by
    obtain ⟨p1, p2⟩ := List.pairwise_cons.mp pw
    have gk := gt k List.mem_cons_self
    by_cases hk : k ≤ c
    · obtain ⟨j, f, e1, e2, e3, e4⟩ := held_stp (S := S) (c := c) (ks := r) (lo := k) p2 p1 (fun c hc => by
        rw [← mem c (by omega), List.mem_cons]
        exact ⟨.inr, fun h => h.elim (fun z => absurd z (by omega)) id⟩) hk
      exact ⟨j + 1, f, by simpa using e1, e2, e3, fun x hx => e4 x (by simpa using hx)⟩
    · have e : S c = S lo := flat_in hc fun x a b => Decidable.byContradiction fun z => by
        rcases List.mem_cons.mp ((mem x a).mpr z) with rfl | q
        · omega
        · have := p1 x q; omega
      exact ⟨0, lo, rfl, hc, e.symm, fun x hx => by
        have : k = x := by simpa using hx
        omega⟩
theorem Cn.held {S : Int → Int} {ks : List Int} {n : Nat} (h : Cn S ks n) {c : Int} (hc : 0 ≤ c) : ∃ (j : Nat) (f : Int), (0 :: ks)[j]? = some f ∧ f ≤ c ∧ S f = S c ∧ ∀ e, (0 :: ks)[j + 1]? = some e → c < e := held_stp h.pw h.gt h.at hc

/-! ### loops that end -/
theorem whileS_go {S : Type} {t : S → Res Bool} {f : S → Res S} {P Q : S → Prop} (μ : S → Nat) (ht : ∀ s, P s → ∃ b, t s = .ok b ∧ (b = true → Ok (f s) fun s' => P s' ∧ μ s' < μ s) ∧ (b = false → Q s)) : ∀ (n : Nat) (s : S), P s → μ s < n → Ok (whileS n s t f) Q
  | 0, _, _, h => by omega
  | n + 1, s, hp, h => by
    obtain ⟨b, e, h1, h2⟩ := ht s hp
    unfold whileS
    rw [e, bind_s]
    cases b with
    | true =>
      rw [if_pos rfl]
      exact Ok.bnd (h1 rfl) fun s' ⟨p, l⟩ => whileS_go μ ht n s' p (by omega)
    | false =>
      rw [if_neg (by simp)]
      exact Ok.ret (h2 rfl)
/-! ### the numbers at which a table has steps -/

/-! ### numbers_at: least companies, told in one going through -/
def sm (w : Int → Int) : List Int → Int
  | [] => 0
  | k :: r => w k + sm w r
theorem sm_snoc {w : Int → Int} {k : Int} : ∀ {l : List Int}, sm w (l ++ [k]) = sm w l + w k
  | [] => by simp [sm]
  | x :: r => by
    show w x + sm w (r ++ [k]) = w x + sm w r + w k
    rw [sm_snoc]; omega
theorem up_app {w : Int → Int} {c : Int} {b : List Int} : ∀ {a : List Int}, up w (a ++ b) c = up w a c + up w b c
  | [] => by rw [List.nil_append, up]; omega
  | x :: r => by rw [List.cons_append, up, up, up_app]; omega
theorem up_all {w : Int → Int} {c : Int} : ∀ {a : List Int}, (∀ k, k ∈ a → k ≤ c) → up w a c = sm w a
  | [], _ => rfl
  | x :: r, h => by rw [up, if_pos (h x List.mem_cons_self), up_all fun k hk => h k (List.mem_cons_of_mem _ hk), sm]
theorem Least.uniq {T : Int → Int} {m r s : Int} (h : Least T m r) (g : Least T m s) : r = s := by
  have a := (h.2 s g.1).mp ((g.2 s g.1).mpr (Int.le_refl _))
  have b := (g.2 r h.1).mp ((h.2 r h.1).mpr (Int.le_refl _))
  omega
section
variable {T : Int → Int} {w : Int → Int} {m : Int}
theorem least_here {as bs : List Int} (mono : ∀ a b, 0 ≤ a → a ≤ b → T a ≤ T b) (hT : ∀ c, 0 ≤ c → T c = c + up w (as ++ bs) c) (pw : (as ++ bs).Pairwise (· < ·)) (pos : ∀ k, k ∈ as ++ bs → 0 ≤ k) (m0 : 0 ≤ m) (hA : ∀ a, a ∈ as → T a < m) :
    (bs = [] → Least T m (m - sm w as)) ∧ ∀ b r, bs = b :: r → m ≤ T b → (m ≤ (if b - 1 > 0 then b - 1 else 0) + sm w as → Least T m (m - sm w as)) ∧ (¬ m ≤ (if b - 1 > 0 then b - 1 else 0) + sm w as → Least T m b) := by
  obtain ⟨pa, pb, pab⟩ := List.pairwise_append.mp pw
  have seg : ∀ c, 0 ≤ c → (∀ a, a ∈ as → a ≤ c) → (∀ b, b ∈ bs → c < b) → T c = c + sm w as := fun c c0 h1 h2 => by
    rw [hT c c0, up_app, up_all h1, up_zero h2]; omega
  have last : as = [] ∨ ∃ l, l ∈ as ∧ 0 ≤ l ∧ T l < m ∧ (∀ a, a ∈ as → a ≤ l) ∧ (∀ b, b ∈ bs → l < b) := by
    rcases List.eq_nil_or_concat as with e | ⟨k, l, e⟩
    · exact .inl e
    · rw [List.concat_eq_append] at e
      have ml : l ∈ as := by rw [e]; exact List.mem_append_right _ (List.mem_singleton.mpr rfl)
      refine .inr ⟨l, ml, pos l (List.mem_append_left _ ml), hA l ml, fun a ha => ?_, fun b hb => pab l ml b hb⟩
      rw [e] at ha pa
      rcases List.mem_append.mp ha with z | z
      · exact Int.le_of_lt ((List.pairwise_append.mp pa).2.2 a z l (List.mem_singleton.mpr rfl))
      · rw [List.mem_singleton.mp z]; exact Int.le_refl _
  refine ⟨fun e => ?_, fun b r e mb => ?_⟩
  · subst e
    rcases last with e | ⟨l, ml, l0, lm, la, _⟩
    · subst e
      refine ⟨by simp [sm]; exact m0, fun c c0 => ?_⟩
      have := seg c c0 (fun a ha => nomatch ha) (fun b hb => nomatch hb)
      simp only [sm] at this ⊢
      constructor <;> omega
    · have tl := seg l l0 la fun b hb => nomatch hb
      refine ⟨by omega, fun c c0 => ?_⟩
      by_cases z : l ≤ c
      · have := seg c c0 (fun a ha => by have := la a ha; omega) (fun b hb => nomatch hb)
        constructor <;> omega
      · have := mono c l c0 (by omega)
        constructor <;> omega
  · subst e
    have mem : b ∈ b :: r := List.mem_cons_self
    have b0 := pos b (List.mem_append_right _ mem)
    have first : ∀ x, x ∈ b :: r → b ≤ x := fun x hx => by
      rcases List.mem_cons.mp hx with rfl | hx
      · exact Int.le_refl _
      · exact Int.le_of_lt ((List.pairwise_cons.mp pb).1 x hx)
    have tb1 : 1 ≤ b → T (b - 1) = b - 1 + sm w as := fun h => seg (b - 1) (by omega) (fun a ha => by have := pab a ha b mem; omega) fun x hx => by have := first x hx; omega
    have nz : b = 0 → as = [] := fun h => by
      rcases last with e | ⟨l, ml, l0, _, _, lb⟩
      · exact e
      · have := lb b mem; omega
    refine ⟨fun h => ?_, fun h => ?_⟩
    · by_cases z : 1 ≤ b
      · have t1 := tb1 z
        have mx : m ≤ b - 1 + sm w as := by
          split at h <;> omega
        rcases last with e | ⟨l, ml, l0, lm, la, lb⟩
        · subst e
          simp only [sm] at mx t1 ⊢
          refine ⟨by omega, fun c c0 => ?_⟩
          by_cases y : c < b
          · have := seg c c0 (fun a ha => nomatch ha) fun x hx => by have := first x hx; omega
            simp only [sm] at this
            constructor <;> omega
          · have := mono (b - 1) c (by omega) (by omega)
            constructor <;> omega
        · have tl := seg l l0 la lb
          refine ⟨by omega, fun c c0 => ?_⟩
          by_cases y : c < b
          · by_cases x : l ≤ c
            · have := seg c c0 (fun a ha => by have := la a ha; omega) fun x hx => by have := first x hx; omega
              constructor <;> omega
            · have := mono c l c0 (by omega)
              constructor <;> omega
          · have := mono (b - 1) c (by omega) (by omega)
            constructor <;> omega
      · have e := nz (by omega)
        subst e
        simp only [sm] at h ⊢
        have m1 : m = 0 := by split at h <;> omega
        refine ⟨by omega, fun c c0 => ?_⟩
        have hb : b = 0 := by omega
        rw [hb] at mb
        have := mono 0 c (Int.le_refl _) c0
        constructor <;> omega
    · refine ⟨b0, fun c c0 => ?_⟩
      by_cases y : b ≤ c
      · have := mono b c b0 y
        constructor <;> omega
      · have t1 := tb1 (by omega)
        have := mono c (b - 1) c0 (by omega)
        have : b - 1 + sm w as < m := by split at h <;> omega
        constructor <;> omega
end
section
variable {T : Int → Int} {w : Int → Int} {ks : List Int} {d : D}
theorem num_at {as bs : List Int} {b : Int} {r : List Int} (e : ks = as ++ bs) (eb : bs = b :: r) : ixD (.lst (ks.map D.int)) (.int (as.length : Int)) = some (.int b) := by
  refine ix_at (i := as.length) ?_
  rw [e, eb, List.map_append, List.getElem?_append_right (by rw [List.length_map]; exact Nat.le_refl _), List.length_map, Nat.sub_self]; rfl
theorem num_while {m : Int} (hd : ∀ k, k ∈ ks → dixD d (.int k) = some (.int (w k))) (hT : ∀ c, 0 ≤ c → T c = c + up w ks c) (pw : ks.Pairwise (· < ·)) (pos : ∀ k, k ∈ ks → 0 ≤ k) (hl : ks.length < 900000) {as bs : List Int} (e : ks = as ++ bs) (hA : ∀ a, a ∈ as → T a < m) :
    Ok (whileS 1000000 ((.int (as.length : Int), .int (sm w as)) : D × D) (fun s7 => ((op (lenD [(D.lst (ks.map D.int))]) fun t9 =>
      op (ltD s7.1 t9) fun b10 =>
      if b10 = true then (op (ixD (D.lst (ks.map D.int)) s7.1) fun t11 =>
      op (addD t11 s7.2) fun t12 =>
      op (ixD (D.lst (ks.map D.int)) s7.1) fun t13 =>
      op (dixD d t13) fun t14 =>
      op (addD t12 t14) fun t15 =>
      op (gtD (.int m) t15) fun b16 =>
      .ok b16) else (.ok false) : Res (Bool))).bind fun a8 =>
      .ok a8) (fun s7 =>
      op (ixD (D.lst (ks.map D.int)) s7.1) fun t17 =>
      op (dixD d t17) fun t18 =>
      op (iaddD s7.2 t18) fun t19 =>
      op (iaddD s7.1 (D.int 1)) fun t20 =>
      .ok (t20, t19))) fun s => ∃ as' bs', s = (.int (as'.length : Int), .int (sm w as')) ∧ ks = as' ++ bs' ∧ (∀ a, a ∈ as' → T a < m) ∧ (bs' = [] ∨ ∃ b r, bs' = b :: r ∧ m ≤ T b) := by
  have ln : lenD [.lst (ks.map D.int)] = some (.int (ks.length : Int)) := by show some (D.int _) = _; rw [List.length_map]
  have tot : ∀ {as b r}, ks = as ++ b :: r → T b = b + sm w as + w b := fun {as b r} e => by
    have pw' := pw
    have pos' := pos
    rw [e] at pw' pos'
    obtain ⟨pa, pb, pab⟩ := List.pairwise_append.mp pw'
    have b0 := pos' b (List.mem_append_right _ List.mem_cons_self)
    rw [hT b b0, e, up_app, up_all fun k hk => Int.le_of_lt (pab k hk b List.mem_cons_self), up, if_pos (Int.le_refl _), up_zero fun j hj => (List.pairwise_cons.mp pb).1 j hj]
    omega
  refine whileS_go (P := fun s => ∃ as bs, s = (.int (as.length : Int), .int (sm w as)) ∧ ks = as ++ bs ∧ ∀ a, a ∈ as → T a < m) (μ := fun s => match s.1 with | .int x => ((ks.length : Int) - x).toNat | _ => 0) ?_ 1000000 _ ⟨as, bs, rfl, e, hA⟩ (by show ((ks.length : Int) - (as.length : Int)).toNat < 1000000; omega)
  rintro _ ⟨as, bs, rfl, e, hA⟩
  dsimp only
  rw [ln, op_s, ltI, op_s]
  cases bs with
  | nil =>
    have el : ks.length = as.length := by rw [e, List.append_nil]
    refine ⟨false, by rw [if_neg (by simp; omega), bind_s], fun h => (nomatch h), fun _ => ⟨as, [], rfl, e, hA, .inl rfl⟩⟩
  | cons b r =>
    have el : ks.length = as.length + (r.length + 1) := by rw [e, List.length_append, List.length_cons]
    have mk : b ∈ ks := by rw [e]; exact List.mem_append_right _ List.mem_cons_self
    have t := tot e
    refine ⟨decide (b + sm w as + w b < m), by rw [if_pos (by simp; omega), num_at e rfl, op_s, addI, op_s, op_s, hd b mk, op_s, addI, op_s, gtI, op_s, bind_s], fun h => ?_, fun h => ⟨as, b :: r, rfl, e, hA, .inr ⟨b, r, rfl, by have := of_decide_eq_false h; omega⟩⟩⟩
    have h := of_decide_eq_true h
    have ei : ∀ x y : Int, iaddD (.int x) (.int y) = some (.int (x + y)) := fun _ _ => rfl
    refine Ok.op (num_at e rfl) (Ok.op (hd b mk) (Ok.op (ei _ _) (Ok.op (ei _ _) (Ok.ret ⟨⟨as ++ [b], r, ?_, by rw [e, List.append_assoc]; rfl, fun a ha => ?_⟩, ?_⟩))))
    · rw [sm_snoc, List.length_append, List.length_singleton]; rfl
    · rcases List.mem_append.mp ha with z | z
      · exact hA a z
      · rw [List.mem_singleton.mp z]; omega
    · show ((ks.length : Int) - ((as.length : Int) + 1)).toNat < ((ks.length : Int) - (as.length : Int)).toNat
      omega
theorem numbers_ok {n : Nat} {es : List (Int × Int)} {g : Int → Int} (X : Ext n es) (hn : n < 100000) (mono : ∀ a b, 0 ≤ a → a ≤ b → T a ≤ T b) (hT : ∀ c, 0 ≤ c → T c = c + sumTo es c) (hg : ∀ m, 0 ≤ m → Least T m (g m)) {ms : List Int} (hm : ms.length < 100000) (rise : ms.Pairwise (· ≤ ·)) (m0 : ∀ m, m ∈ ms → 0 ≤ m) :
    d_t_numbers_at [.dic (es.map eK), .lst (ms.map D.int)] = .ok (.lst ((ms.map g).map D.int)) := by
  obtain ⟨ks, e1, pm, pw⟩ := sorted_ok X hn
  have mem : ∀ k, k ∈ ks → k ∈ es.map (·.1) := fun k hk => pm.mem_iff.mp hk
  have pos : ∀ k, k ∈ ks → 0 ≤ k := fun k hk => by
    obtain ⟨q, hq, rfl⟩ := List.mem_map.mp (mem k hk)
    exact (X.ok q hq).1
  have hd : ∀ k, k ∈ ks → dixD (.dic (es.map eK)) (.int k) = some (.int (val es k)) := fun k hk => dix_e (mem k hk)
  have hT2 : ∀ c, 0 ≤ c → T c = c + up (val es) ks c := fun c hc => by rw [hT c hc, up_keys X pm]
  have lk : ks.length < 900000 := by rw [pm.length_eq, List.length_map]; have := X.len; omega
  have aL : asL (.lst (ms.map D.int)) = some (ms.map D.int) := rfl
  have ln : lenD [.lst (ks.map D.int)] = some (.int (ks.length : Int)) := by show some (D.int _) = _; rw [List.length_map]
  refine Ok.eq ?_
  unfold d_t_numbers_at
  dsimp only
  refine Ok.op e1 (Ok.op aL (Ok.bnd (P := fun s : List D × D × D => s.1 = (ms.map g).map D.int) ?_ fun s hs => Ok.ret (by rw [hs])))
  refine (Ok.forI (fun i (s : List D × D × D) => ∃ as bs, s = ((ms.take i).map (fun m => D.int (g m)), .int (as.length : Int), .int (sm (val es) as)) ∧ ks = as ++ bs ∧ ∀ a, a ∈ as → ∀ m, m ∈ ms.drop i → T a < m) ⟨[], ks, rfl, rfl, fun a ha => nomatch ha⟩ ?_).mono ?_
  · rintro i d hi _ ⟨as, bs, rfl, e, hA⟩
    rw [List.getElem?_map] at hi
    obtain ⟨m, em, rfl⟩ := Option.map_eq_some_iff.mp hi
    have il := (List.getElem?_eq_some_iff.mp em).1
    have mi : m ∈ ms.drop i := by
      rw [List.drop_eq_getElem_cons il]
      have := (List.getElem?_eq_some_iff.mp em).2
      rw [this]; exact List.mem_cons_self
    have mm : m ∈ ms := List.mem_of_getElem? em
    have dr : ∀ x, x ∈ ms.drop (i + 1) → m ≤ x := fun x hx => by
      have p := rise.sublist (List.drop_sublist i ms)
      rw [List.drop_eq_getElem_cons il, (List.getElem?_eq_some_iff.mp em).2] at p
      exact (List.pairwise_cons.mp p).1 x hx
    refine Ok.bnd (num_while hd hT2 pw pos lk e fun a ha => hA a ha m mi) ?_
    rintro _ ⟨as', bs', rfl, e', hA', hB⟩
    have L := least_here (w := val es) (m := m) (as := as') (bs := bs') mono (by rw [← e']; exact hT2) (by rw [← e']; exact pw) (by rw [← e']; exact pos) (m0 m mm) hA'
    have G := hg m (m0 m mm)
    have el : ks.length = as'.length + bs'.length := by rw [e', List.length_append]
    have take : (ms.take (i + 1)).map (fun m => D.int (g m)) = (ms.take i).map (fun m => D.int (g m)) ++ [D.int (g m)] := by
      rw [List.take_add_one, em, List.map_append]; rfl
    have ap : appL ((ms.take i).map (fun m => D.int (g m))) [.int (g m)] = some (.non, (ms.take (i + 1)).map (fun m => D.int (g m))) := by
      rw [take, app1 (by rw [List.length_map, List.length_take]; omega)]
    have fin : Ok (op (appL ((ms.take i).map (fun m => D.int (g m))) [.int (g m)]) fun a35 => (.ok (a35.2, .int (as'.length : Int), .int (sm (val es) as')) : Res (List D × D × D))) fun s => ∃ as bs, s = ((ms.take (i + 1)).map (fun m => D.int (g m)), .int (as.length : Int), .int (sm (val es) as)) ∧ ks = as ++ bs ∧ ∀ a, a ∈ as → ∀ m, m ∈ ms.drop (i + 1) → T a < m :=
      Ok.op ap (Ok.ret ⟨as', bs', rfl, e', fun a ha x hx => by have := hA' a ha; have := dr x hx; omega⟩)
    dsimp only
    rcases hB with rfl | ⟨b, r, rfl, mb⟩
    · have l := L.1 rfl
      refine Ok.call (a := .bl true) ?_ ?_
      · rw [ln, op_s, eqI, op_s, asB_ok, op_s, if_pos (decide_eq_true (by rw [el]; simp))]
      · refine Ok.call (a := .int (g m)) ?_ fin
        rw [tru_ok, op_s, if_pos rfl, subI, op_s, l.uniq G]
    · obtain ⟨l1, l2⟩ := L.2 b r rfl mb
      refine Ok.call (a := .bl (decide (m ≤ (if b - 1 > 0 then b - 1 else 0) + sm (val es) as'))) ?_ ?_
      · rw [ln, op_s, eqI, op_s, asB_ok, op_s, if_neg (by rw [List.length_cons] at el; simp; omega), num_at e' rfl, op_s, subI, op_s, max2I, op_s, addI, op_s, leI, op_s]
      · refine Ok.call (a := .int (g m)) ?_ fin
        by_cases z : m ≤ (if b - 1 > 0 then b - 1 else 0) + sm (val es) as'
        · rw [decide_eq_true z, tru_ok, op_s, if_pos rfl, subI, op_s, (l1 z).uniq G]
        · rw [decide_eq_false z, tru_ok, op_s, if_neg (by simp), num_at e' rfl, op_s, (l2 z).uniq G]
  · rintro s ⟨as, bs, e, _, _⟩
    rw [e]
    dsimp only
    rw [List.length_map, List.take_length, List.map_map]; rfl
end

/-! ### put: by so many more at a number -/
theorem putS_ok {n : Nat} {es : List (Int × Int)} {k v : Int} (X : Ext n es) (hn : n < 100000) (hk : 0 ≤ k) (hv : v ≠ 0) : ∃ fs, d_t_put [.dic (es.map eK), .int k, .int v] = .ok (.non, fs.map eK) ∧ Ext (n + 1) fs ∧ ∀ c, sumTo fs c = sumTo es c + (if k ≤ c then v else 0) := by
  have e2 : asK (.dic (es.map eK)) = some (es.map eK) := rfl
  have e3 : dgetD (.dic (es.map eK)) (.int k) (.int 0) = some (.int (val es k)) := by
    show some ((getK (es.map eK) (.inl k)).getD (.int 0)) = _
    rw [get_def]
  have ln := X.len
  have e4 : ∀ w : Int, dputK (es.map eK) (.int k) (.int w) = some ((if k ∈ es.map (·.1) then rep es k w else es ++ [(k, w)]).map eK) := fun w => by
    show (if (es.map eK).length < sizeLine then some (putD (es.map eK) (.inl k) (.int w)) else none) = _
    rw [if_pos (small_lt (by rw [List.length_map]; omega)), put_map]
  unfold d_t_put
  dsimp only
  rw [e2, op_s, e3, op_s, addI, op_s, e4, op_s]
  by_cases h : k ∈ es.map (·.1)
  · rw [if_pos h]
    have e5 : dixD (.dic ((rep es k (val es k + v)).map eK)) (.int k) = some (.int (val es k + v)) := by
      show getK _ (.inl k) = _
      rw [get_val, if_pos (by rw [rep_keys]; exact h), val_rep h]
    rw [e5, op_s, eqI, op_s]
    by_cases hz : val es k + v = 0
    · have e6 : ddelK ((rep es k (val es k + v)).map eK) (.int k) = some ((del (rep es k (val es k + v)) k).map eK) := by
        show (if (getK _ (.inl k)).isSome = true then some (delK _ (.inl k)) else none) = _
        have hs : (getK ((rep es k (val es k + v)).map eK) (.inl k)).isSome = true := by
          rw [get_val, if_pos (by rw [rep_keys]; exact h)]; rfl
        rw [if_pos hs, del_map]
      rw [if_pos (by simp [hz]), e6, op_s, bind_s]
      refine ⟨_, rfl, ⟨?_, fun p hp => ?_, ?_⟩, fun c => ?_⟩
      · refine List.Nodup.sublist (List.Sublist.map _ List.filter_sublist) ?_
        rw [rep_keys]; exact X.nd
      · obtain ⟨hp1, hp2⟩ := List.mem_filter.mp hp
        obtain ⟨q, hq, e⟩ := List.mem_map.mp hp1
        by_cases hqk : q.1 = k
        · rw [if_pos hqk] at e
          subst e
          simp [hqk] at hp2
        · rw [if_neg hqk] at e
          subst e
          exact X.ok q hq
      · refine Nat.le_trans (List.length_filter_le _ _) ?_
        unfold rep
        rw [List.length_map]; omega
      · rw [del_sum (by rw [rep_keys]; exact X.nd), rep_sum X.nd h, val_rep h]
        by_cases hc : k ≤ c
        · simp only [if_pos hc]; omega
        · simp only [if_neg hc]; omega
    · rw [if_neg (by simpa using hz), bind_s]
      refine ⟨_, rfl, ⟨by rw [rep_keys]; exact X.nd, fun p hp => ?_, ?_⟩, fun c => ?_⟩
      · obtain ⟨q, hq, e⟩ := List.mem_map.mp hp
        by_cases hqk : q.1 = k
        · rw [if_pos hqk] at e
          subst e
          exact ⟨(X.ok q hq).1, hz⟩
        · rw [if_neg hqk] at e
          subst e
          exact X.ok q hq
      · unfold rep
        rw [List.length_map]; omega
      · rw [rep_sum X.nd h]
        by_cases hc : k ≤ c
        · simp only [if_pos hc]; omega
        · simp only [if_neg hc]
  · rw [if_neg h]
    have v0 := val_no h
    have e5 : dixD (.dic ((es ++ [(k, val es k + v)]).map eK)) (.int k) = some (.int (val es k + v)) := by
      show getK _ (.inl k) = _
      rw [get_val, if_pos (by simp), val_app h]
    rw [e5, op_s, eqI, op_s, if_neg (by simpa [v0] using hv), bind_s]
    refine ⟨_, rfl, ⟨nd_app X.nd h, fun p hp => ?_, by rw [List.length_append, List.length_singleton]; omega⟩, fun c => ?_⟩
    · rcases List.mem_append.mp hp with hp | hp
      · exact X.ok p hp
      · rw [List.mem_singleton.mp hp]; exact ⟨hk, by show val es k + v ≠ 0; omega⟩
    · rw [sum_app, v0, Int.zero_add]

/-! ### sets of stretches that don't touch -/
/-- rising from lo on, none touching the next one, the last one perhaps without bound -/
def Ris : Int → List Say → Prop
  | _, [] => True
  | lo, (a, none) :: r => lo ≤ a ∧ r = []
  | lo, (a, some b) :: r => lo ≤ a ∧ a ≤ b ∧ Ris (b + 2) r
def inL (c : Int) (s : Say) : Bool := decide (s.1 ≤ c) && (match s.2 with | none => true | some b => decide (c ≤ b))
/-- how many of these stretches hold a company -/
def hit (c : Int) : List Say → Int
  | [] => 0
  | s :: r => (if inL c s = true then 1 else 0) + hit c r
def shL (j : Int) (L : List Say) : List Say := L.map fun s => (s.1 + j, s.2.map (· + j))
/-- the ends of stretches, as totals of j more -/
def endsL (j : Int) : List Say → List Int
  | [] => []
  | (a, none) :: r => (a + j) :: endsL j r
  | (a, some b) :: r => (a + j) :: (b + j + 1) :: endsL j r
def numsL : List Say → List D
  | [] => []
  | (a, none) :: r => .int a :: numsL r
  | (a, some b) :: r => .int a :: .int (b + 1) :: numsL r
theorem Ris.mono : ∀ {L : List Say} {lo lo' : Int}, Ris lo L → lo' ≤ lo → Ris lo' L
  | [], _, _, _, _ => trivial
  | (a, none) :: r, _, _, h, l => ⟨by have := h.1; omega, h.2⟩
  | (a, some b) :: r, _, _, h, l => ⟨by have := h.1; omega, h.2⟩
theorem endsL_ge {j : Int} : ∀ {L : List Say} {lo : Int}, Ris lo L → ∀ m, m ∈ endsL j L → lo + j ≤ m
  | [], _, _, m, h => nomatch h
  | (a, none) :: r, lo, h, m, hm => by
    obtain ⟨h1, rfl⟩ := h
    rcases List.mem_cons.mp hm with rfl | hm
    · omega
    · cases hm
  | (a, some b) :: r, lo, h, m, hm => by
    obtain ⟨h1, h2, h3⟩ := h
    rcases List.mem_cons.mp hm with rfl | hm
    · omega
    · rcases List.mem_cons.mp hm with rfl | hm
      · omega
      · have := endsL_ge h3 m hm
        omega
theorem endsL_rise {j : Int} : ∀ {L : List Say} {lo : Int}, Ris lo L → (endsL j L).Pairwise (· ≤ ·)
  | [], _, _ => List.Pairwise.nil
  | (a, none) :: r, lo, h => by
    obtain ⟨h1, rfl⟩ := h
    exact List.pairwise_singleton _ _
  | (a, some b) :: r, lo, h => by
    obtain ⟨h1, h2, h3⟩ := h
    refine List.Pairwise.cons (fun m hm => ?_) (List.Pairwise.cons (fun m hm => ?_) (endsL_rise h3))
    · rcases List.mem_cons.mp hm with rfl | hm
      · omega
      · have := endsL_ge h3 m hm
        omega
    · have := endsL_ge h3 m hm
      omega
theorem endsL_len {j : Int} : ∀ {L : List Say}, (endsL j L).length ≤ 2 * L.length
  | [] => Nat.le_refl _
  | (a, none) :: r => by
    have := endsL_len (j := j) (L := r)
    show (endsL j r).length + 1 ≤ 2 * (r.length + 1)
    omega
  | (a, some b) :: r => by
    have := endsL_len (j := j) (L := r)
    show (endsL j r).length + 1 + 1 ≤ 2 * (r.length + 1)
    omega
/-- the least companies of a set's ends are the ends -/
def Meets (g : Int → Int) (j : Int) (L : List Say) : Prop := ∀ s, s ∈ L → g (s.1 + j) = s.1 ∧ ∀ b, s.2 = some b → g (b + j + 1) = b + 1
theorem ends_nums {g : Int → Int} {j : Int} : ∀ {L : List Say}, Meets g j L → ((endsL j L).map g).map D.int = numsL L
  | [], _ => rfl
  | (a, none) :: r, h => by
    have h0 := h (a, none) List.mem_cons_self
    show D.int (g (a + j)) :: ((endsL j r).map g).map D.int = .int a :: numsL r
    rw [h0.1, ends_nums fun s hs => h s (List.mem_cons_of_mem _ hs)]
  | (a, some b) :: r, h => by
    have h0 := h (a, some b) List.mem_cons_self
    show D.int (g (a + j)) :: D.int (g (b + j + 1)) :: ((endsL j r).map g).map D.int = .int a :: .int (b + 1) :: numsL r
    rw [h0.1, h0.2 b rfl, ends_nums fun s hs => h s (List.mem_cons_of_mem _ hs)]
def eE (o : Option Int) : D := match o with
  | none => .non
  | some b => .int (b + 1)
theorem nums_at : ∀ {L : List Say} {lo : Int} {i : Nat} {s : Say}, Ris lo L → L[i]? = some s → (numsL L ++ [D.non])[2 * i]? = some (.int s.1) ∧ (numsL L ++ [D.non])[2 * i + 1]? = some (eE s.2)
  | [], _, _, _, _, h => by simp at h
  | (a, none) :: r, lo, i, s, h, hi => by
    obtain ⟨h1, rfl⟩ := h
    cases i with
    | zero => cases hi; exact ⟨rfl, rfl⟩
    | succ i => simp at hi
  | (a, some b) :: r, lo, 0, s, h, hi => by cases hi; exact ⟨rfl, rfl⟩
  | (a, some b) :: r, lo, i + 1, s, h, hi => by
    obtain ⟨h1, h2, h3⟩ := h
    have := nums_at (i := i) (s := s) h3 (by simpa using hi)
    have e : numsL ((a, some b) :: r) ++ [D.non] = .int a :: .int (b + 1) :: (numsL r ++ [D.non]) := rfl
    rw [e, show 2 * (i + 1) = 2 * i + 1 + 1 by omega]
    exact this
theorem Ris.ok : ∀ {L : List Say} {lo : Int}, Ris lo L → ∀ s, s ∈ L → lo ≤ s.1 ∧ ∀ b, s.2 = some b → s.1 ≤ b
  | [], _, _, s, h => nomatch h
  | (a, none) :: r, lo, h, s, hs => by
    obtain ⟨h1, rfl⟩ := h
    rcases List.mem_cons.mp hs with rfl | hs
    · exact ⟨h1, fun b e => nomatch e⟩
    · cases hs
  | (a, some b) :: r, lo, h, s, hs => by
    obtain ⟨h1, h2, h3⟩ := h
    rcases List.mem_cons.mp hs with rfl | hs
    · exact ⟨h1, fun x e => by cases e; exact h2⟩
    · obtain ⟨k1, k2⟩ := h3.ok s hs
      exact ⟨by omega, k2⟩
theorem Ris.next : ∀ {L : List Say} {lo : Int} {i : Nat} {s u : Say}, Ris lo L → L[i]? = some s → L[i + 1]? = some u → ∃ b, s.2 = some b ∧ b + 2 ≤ u.1
  | [], _, _, _, _, _, h, _ => by simp at h
  | (a, none) :: r, lo, i, s, u, h, h1, h2 => by
    obtain ⟨_, rfl⟩ := h
    cases i <;> simp at h2
  | (a, some b) :: r, lo, 0, s, u, h, h1, h2 => by
    obtain ⟨_, _, h3⟩ := h
    cases h1
    have hm : u ∈ r := List.mem_of_getElem? (by simpa using h2)
    exact ⟨b, rfl, (h3.ok u hm).1⟩
  | (a, some b) :: r, lo, i + 1, s, u, h, h1, h2 => by
    obtain ⟨_, _, h3⟩ := h
    exact h3.next (i := i) (by simpa using h1) (by simpa using h2)
theorem btw_ok {s : Say} (h : ∀ b, s.2 = some b → s.1 ≤ b) : d_t_between_books [.tup [.int s.1, eE s.2]] = .ok (eS s) := by
  obtain ⟨a, o⟩ := s
  have u : un2 (.tup [.int a, eE o]) = some (.int a, eE o) := rfl
  cases o with
  | none =>
    have nn : isND (eE none) .non = some true := rfl
    unfold d_t_between_books
    dsimp only
    rw [u, op_s, nn, op_s, if_pos rfl]; rfl
  | some b =>
    have nn : isND (eE (some b)) .non = some false := rfl
    have hb : a ≤ b := h b rfl
    have e : eE (some b) = .int (b + 1) := rfl
    unfold d_t_between_books
    dsimp only
    rw [u, op_s, nn, op_s, if_neg (by simp), e, ltI, op_s, if_pos (by simp; omega), subI, op_s, bind_s, show b + 1 - 1 = b by omega]; rfl
theorem shp_eO {o : Option Int} : Shp 0 (eO o) := by
  cases o with
  | none => exact shp_non
  | some b => exact shp_int
theorem shp_says {l : List Say} : Shp 60 (.lst (l.map eS)) := (shp_lst (n := 1) fun x hx => by
  obtain ⟨s, _, rfl⟩ := List.mem_map.mp hx
  exact ⟨by simp only [toP, eS, PyData.canLay0]; exact (shp_all (n := 0) (mem2 shp_int shp_eO)).1, by
    have := (shp_all (n := 0) (mem2 (shp_int (i := s.1)) (shp_eO (o := s.2)))).2
    simp only [toP, eS, PyData.depth]
    omega⟩).mono (by omega)
theorem companies_ok {es : List (Int × Int)} {g : Int → Int} {n : Nat} {j : Int} {L : List Say} (j0 : 0 ≤ j) (hL : L.length < 40000) (ris : Ris 0 L) (me : Meets g j L)
    (nu : d_t_numbers_at [.dic (es.map eK), .lst ((endsL j L).map D.int)] = .ok (.lst (((endsL j L).map g).map D.int))) : d_t_companies_in [.dic (es.map eK), .lst ((shL j L).map eS)] = .ok (.lst (L.map eS)) := by
  have aL : ∀ ds : List D, asL (.lst ds) = some ds := fun _ => rfl
  have le := endsL_len (j := j) (L := L)
  have l1 : (shL j L).length = L.length := by unfold shL; rw [List.length_map]
  rw [ends_nums me] at nu
  have ln : (numsL L).length ≤ 2 * L.length := by rw [← ends_nums me, List.length_map, List.length_map]; exact le
  refine Ok.eq ?_
  unfold d_t_companies_in
  dsimp only
  have ends : ∀ {acc : List D} {K : List Say}, acc.length + 2 * K.length < 100000 → ∀ {f : D → List D → Res (List D)}, (∀ (s : Say) (x : List D), x.length < 100000 → f (eS (s.1 + j, s.2.map (· + j))) x = .ok (x ++ (endsL j [s]).map D.int)) → forS ((shL j K).map eS) acc f = .ok (acc ++ (endsL j K).map D.int) := fun {acc K} => by
    induction K generalizing acc with
    | nil => intro _ f _; rw [show (shL j []).map eS = [] from rfl, forS_no]; simp [endsL]
    | cons s r ih =>
      intro hl f hf
      rw [List.length_cons] at hl
      have e1 : (shL j (s :: r)).map eS = eS (s.1 + j, s.2.map (· + j)) :: (shL j r).map eS := rfl
      have el := endsL_len (j := j) (L := [s])
      rw [List.length_singleton] at el
      rw [e1, forS_c (hf s acc (by omega)), ih (by rw [List.length_append, List.length_map]; omega) hf, List.append_assoc]
      have e2 : endsL j (s :: r) = endsL j [s] ++ endsL j r := by
        obtain ⟨a, o⟩ := s
        cases o <;> rfl
      rw [e2, List.map_append]
  refine Ok.op (aL _) (Ok.call (ends (acc := []) (K := L) (by simp; omega) fun s x hx => ?_) ?_)
  · obtain ⟨a, o⟩ := s
    have u : un2 (eS (a + j, o.map (· + j))) = some (.int (a + j), eO (o.map (· + j))) := rfl
    cases o with
    | none =>
      have nn : isND (eO ((none : Option Int).map (· + j))) .non = some true := rfl
      have ex : extL x [.lst [.int (a + j)]] = some (.non, x ++ [.int (a + j)]) := if_pos (small_le (by rw [List.length_singleton]; omega))
      rw [u, op_s, nn, op_s, if_pos rfl, bind_s, ex, op_s]; rfl
    | some b =>
      have nn : isND (eO ((some b : Option Int).map (· + j))) .non = some false := rfl
      have e0 : eO ((some b : Option Int).map (· + j)) = .int (b + j) := rfl
      have ex : extL x [.lst [.int (a + j), .int (b + j + 1)]] = some (.non, x ++ [.int (a + j), .int (b + j + 1)]) := if_pos (small_le (by simp; omega))
      rw [u, op_s, nn, op_s, if_neg (by simp), e0, addI, op_s, bind_s, ex, op_s]; rfl
  rw [List.nil_append]
  have ad : addD (.lst (numsL L)) (.lst [D.non]) = some (.lst (numsL L ++ [D.non])) := addL (by rw [List.length_singleton]; omega)
  have lD : lenD [.lst ((shL j L).map eS)] = some (.int (L.length : Int)) := by show some (D.int _) = _; rw [List.length_map, l1]
  refine Ok.call nu (Ok.op ad (Ok.op lD (Ok.op (rng1 (by omega) (Int.lt_trans (show (L.length : Int) < 40000 by omega) (by decide))) ?_)))
  rw [Int.toNat_natCast]
  refine Ok.bnd (P := fun s => s = L.map eS) ((Ok.forI (fun i (s : List D) => s = (L.take i).map eS) rfl ?_).mono fun s hs => ?_) fun s hs => Ok.ret (by rw [hs])
  · rintro i d hi _ rfl
    have hil : i < L.length := by
      have := (List.getElem?_eq_some_iff.mp hi).1
      rwa [upto_len] at this
    have ed : d = .int (i : Int) := by
      unfold upto at hi
      rw [List.getElem?_map, List.getElem?_range hil] at hi
      have := Option.some.inj hi
      rw [← this]; show D.int (0 + (i : Int)) = _; rw [Int.zero_add]
    subst ed
    have es : L[i]? = some L[i] := List.getElem?_eq_getElem hil
    obtain ⟨n1, n2⟩ := nums_at ris es
    obtain ⟨o1, o2⟩ := ris.ok L[i] (List.getElem_mem hil)
    have m2 : mulD (.int 2) (.int (i : Int)) = some (.int (2 * (i : Int))) := mulI (by decide) (by decide) (by omega) (Int.lt_trans (show (i : Int) < 40000 by omega) (by decide))
    have x1 : ixD (.lst (numsL L ++ [D.non])) (.int (2 * (i : Int))) = some (.int L[i].1) := by
      have := ix_at (ds := numsL L ++ [D.non]) (i := 2 * i) n1
      rwa [show ((2 * i : Nat) : Int) = 2 * (i : Int) by omega] at this
    have x2 : ixD (.lst (numsL L ++ [D.non])) (.int (2 * (i : Int) + 1)) = some (eE L[i].2) := by
      have := ix_at (ds := numsL L ++ [D.non]) (i := 2 * i + 1) n2
      rwa [show ((2 * i + 1 : Nat) : Int) = 2 * (i : Int) + 1 by omega] at this
    have tk : (L.take (i + 1)).map eS = (L.take i).map eS ++ [eS L[i]] := by
      rw [List.take_add_one, es, List.map_append]; rfl
    have nn : notND (eS L[i]) .non = some true := rfl
    have lt : (L.take i).length ≤ i := by rw [List.length_take]; omega
    have fin : Ok (op (notND (eS L[i]) .non) fun b26 =>
      if b26 = true then (op (appL ((L.take i).map eS) [eS L[i]]) fun a27 =>
      .ok a27.2) else (.ok ((L.take i).map eS) : Res (List D))) fun s => s = (L.take (i + 1)).map eS := by
      refine Ok.op nn ?_
      rw [if_pos rfl]
      exact Ok.op (app1 (by rw [List.length_map]; omega)) (Ok.ret tk.symm)
    refine Ok.op m2 (Ok.op x1 (Ok.op m2 (Ok.op addI (Ok.op x2 (Ok.call (btw_ok o2) ?_)))))
    refine Ok.call (a := ((L.take i).map eS, eS L[i])) ?_ (Ok.bnd (P := fun s => s = (L.take (i + 1)).map eS) ?_ fun s hs => Ok.ret hs)
    · rw [nn, op_s, if_pos rfl]
      cases i with
      | zero =>
        have e0 : ((L.take 0).map eS) = ([] : List D) := rfl
        rw [e0, ne_nil (ds := []) (shp_says (l := [])), op_s]
        rfl
      | succ i =>
        obtain ⟨b, eb, hb⟩ := ris.next (i := i) (List.getElem?_eq_getElem (by omega)) es
        have tk2 : (L.take (i + 1)).map eS = (L.take i).map eS ++ [eS (L[i]'(by omega))] := by
          rw [List.take_add_one, List.getElem?_eq_getElem (by omega), List.map_append]; rfl
        have i1 : ixD (eS (L[i]'(by omega))) (.int 1) = some (.int b) := by
          show some (eO (L[i]'(by omega)).2) = _
          rw [eb]; rfl
        have i0 : ixD (eS L[i + 1]) (.int 0) = some (.int L[i + 1].1) := rfl
        have nb : b + 1 ≠ L[i + 1].1 := by omega
        rw [ne_nil shp_says, op_s, tk2, if_pos (by simp), negI, op_s, ix_last, op_s, i1, op_s, addI, op_s, i0, op_s, eqI, op_s, bind_s, if_neg (by simpa using nb)]
    · exact fin
  · rw [hs, upto_len, List.take_length]

/-! ### levels -/
def lvS (j : Int) (R : List Say) (a m : Int) (o : Option Int) : List Say :=
  if j ≤ m then (match R with
    | [] => [(a, o)]
    | s :: r => if s.2 = some (a - 1) then (s.1, o) :: r else (a, o) :: s :: r) else R
def nxt (ps : List (Int × Int)) (i : Nat) : Option Int := (ps[i + 1]?).map fun q => q.1 - 1
def lvN (ps : List (Int × Int)) (j : Int) : Nat → List Say
  | 0 => []
  | i + 1 => match ps[i]? with
    | none => lvN ps j i
    | some p => lvS j (lvN ps j i) p.1 p.2 (nxt ps i)
/-- where a table has at least so many: stretches, none touching the next -/
def lev (ps : List (Int × Int)) (j : Int) : List Say := (lvN ps j ps.length).reverse
theorem lvS_nil {j a m : Int} {o : Option Int} (h : j ≤ m) : lvS j [] a m o = [(a, o)] := if_pos h
theorem lvS_cons {j a m : Int} {o : Option Int} {s : Say} {r : List Say} (h : j ≤ m) : lvS j (s :: r) a m o = if s.2 = some (a - 1) then (s.1, o) :: r else (a, o) :: s :: r := if_pos h
theorem lvS_no {j a m : Int} {o : Option Int} {R : List Say} (h : ¬ j ≤ m) : lvS j R a m o = R := if_neg h
theorem lvS_len {j : Int} {R : List Say} {a m : Int} {o : Option Int} : (lvS j R a m o).length ≤ R.length + 1 := by
  unfold lvS
  split
  · cases R with
    | nil => exact Nat.le_refl _
    | cons s r =>
      dsimp only
      split
      · show r.length + 1 ≤ r.length + 1 + 1; omega
      · exact Nat.le_refl _
  · omega
theorem lvN_at {ps : List (Int × Int)} {j : Int} {i : Nat} {p : Int × Int} (e : ps[i]? = some p) : lvN ps j (i + 1) = lvS j (lvN ps j i) p.1 p.2 (nxt ps i) := by
  rw [lvN, e]
theorem lvN_len {ps : List (Int × Int)} {j : Int} : ∀ {i : Nat}, (lvN ps j i).length ≤ i
  | 0 => Nat.le_refl _
  | i + 1 => by
    have ih := lvN_len (ps := ps) (j := j) (i := i)
    cases e : ps[i]? with
    | none => rw [lvN, e]; dsimp only; omega
    | some p =>
      rw [lvN_at e]
      have := lvS_len (j := j) (R := lvN ps j i) (a := p.1) (m := p.2) (o := nxt ps i)
      omega
def RD (k : Int) (R : List Say) : List D := (shL k R.reverse).map eS
theorem RD_cons {k : Int} {s : Say} {r : List Say} : RD k (s :: r) = RD k r ++ [eS (s.1 + k, s.2.map (· + k))] := by
  unfold RD shL
  rw [List.reverse_cons, List.map_append, List.map_append]; rfl
theorem shL_0 {L : List Say} : shL 0 L = L := by
  unfold shL
  have : ∀ s : Say, s ∈ L → ((s.1 + 0, s.2.map (· + 0)) : Say) = s := fun s _ => by
    obtain ⟨a, o⟩ := s
    cases o <;> simp
  rw [List.map_congr_left this, List.map_id']
theorem RD_len {k : Int} {R : List Say} : (RD k R).length = R.length := by unfold RD shL; simp
theorem pop_last {ds : List D} {d : D} : popL (ds ++ [d]) [] = some (d, ds) := by
  show ((ds ++ [d])[(ds ++ [d]).length - 1]?).map (fun x => (x, (ds ++ [d]).dropLast)) = _
  simp
theorem at_up {n i : Nat} {d : D} (h : (upto 0 n)[i]? = some d) : d = .int (i : Int) ∧ i < n := by
  have hil := (List.getElem?_eq_some_iff.mp h).1
  rw [upto_len] at hil
  unfold upto at h
  rw [List.getElem?_map, List.getElem?_range hil] at h
  have := Option.some.inj h
  exact ⟨by rw [← this]; show D.int (0 + (i : Int)) = _; rw [Int.zero_add], hil⟩
theorem eqO {o : Option Int} {b : Int} : eqD (eO o) (.int b) = some (decide (o = some b)) := by
  cases o with
  | none => rfl
  | some x =>
    show eqD (.int x) (.int b) = _
    rw [eqI]
    by_cases h : x = b
    · rw [decide_eq_true h, decide_eq_true (by rw [h])]
    · rw [decide_eq_false h, decide_eq_false (by simpa using h)]
theorem RD_ne {k : Int} {R : List Say} : neD (.lst (RD k R)) (.lst ([] : List D)) = some (!(RD k R).isEmpty) := ne_nil shp_says
theorem nxt_some {ps : List (Int × Int)} {i : Nat} (h : i + 1 < ps.length) : nxt ps i = some (ps[i + 1].1 - 1) := by
  unfold nxt
  rw [List.getElem?_eq_getElem h]; rfl
theorem nxt_none {ps : List (Int × Int)} {i : Nat} (h : ¬ i + 1 < ps.length) : nxt ps i = none := by
  unfold nxt
  rw [List.getElem?_eq_none (by omega)]; rfl
theorem llev_ok {ps : List (Int × Int)} {j : Int} (hl : ps.length < 900) : d_l_level [.lst (ps.map eP), .int j] = .ok (.lst ((lev ps j).map eS)) := by
  have ln : lenD [.lst (ps.map eP)] = some (.int (ps.length : Int)) := by show some (D.int _) = _; rw [List.length_map]
  refine Ok.eq ?_
  unfold d_l_level
  dsimp only
  refine Ok.op ln (Ok.op (rng1 (by omega) (by omega)) ?_)
  rw [Int.toNat_natCast]
  refine Ok.bnd (P := fun s => s = (lev ps j).map eS) ((Ok.forI (fun i (s : List D) => s = RD 0 (lvN ps j i)) rfl ?_).mono fun s hs => ?_) fun s hs => Ok.ret (by rw [hs])
  · rintro i d hi _ rfl
    obtain ⟨rfl, hil⟩ := at_up hi
    have ep : ps[i]? = some ps[i] := List.getElem?_eq_getElem hil
    have x0 : ixD (.lst (ps.map eP)) (.int (i : Int)) = some (eP ps[i]) := ix_at (by rw [List.getElem?_map, ep]; rfl)
    have eu : un2 (eP ps[i]) = some (.int ps[i].1, .int ps[i].2) := rfl
    rw [x0, op_s, eu, op_s]
    refine Ok.call (a := eO (nxt ps i)) ?_ ?_
    · rw [addI, op_s, ln, op_s, ltI, op_s]
      by_cases z : i + 1 < ps.length
      · have x1 : ixD (.lst (ps.map eP)) (.int ((i : Int) + 1)) = some (eP ps[i + 1]) := by
          have := ix_at (ds := ps.map eP) (i := i + 1) (d := eP ps[i + 1]) (by rw [List.getElem?_map, List.getElem?_eq_getElem z]; rfl)
          rwa [show ((i + 1 : Nat) : Int) = (i : Int) + 1 by omega] at this
        have i0 : ixD (eP ps[i + 1]) (.int 0) = some (.int ps[i + 1].1) := rfl
        rw [if_pos (decide_eq_true (by omega)), op_s, x1, op_s, i0, op_s, subI, op_s, nxt_some z]; rfl
      · rw [if_neg (by simp; omega), nxt_none z]; rfl
    · rw [lvN_at ep]
      have hR := lvN_len (ps := ps) (j := j) (i := i)
      generalize lvN ps j i = R at hR
      generalize ps[i].1 = a
      generalize ps[i].2 = m
      generalize nxt ps i = o
      refine Ok.call (a := (RD 0 (lvS j R a m o), D.int (if j ≤ m then (match R with | [] => a | s :: _ => if s.2 = some (a - 1) then s.1 else a) else a))) ?_ (Ok.ret rfl)
      have z0 : ∀ o : Option Int, o.map (· + 0) = o := fun o => by cases o <;> simp
      by_cases hm : j ≤ m
      · rw [if_pos hm, geI, op_s, if_pos (decide_eq_true hm)]
        cases R with
        | nil =>
          rw [RD_ne, op_s, if_neg (by simp [RD, shL]), bind_s, if_neg (by simp), bind_s]
          dsimp only
          rw [app1 (by simp [RD, shL]), op_s]
          rw [lvS_nil hm]
          simp [RD, shL, eS]
        | cons s r =>
          rw [List.length_cons] at hR
          rw [lvS_cons hm]
          have i1 : ixD (eS (s.1 + 0, s.2.map (· + 0))) (.int 1) = some (eO s.2) := by rw [z0]; rfl
          have i0 : ixD (eS (s.1 + 0, s.2.map (· + 0))) (.int 0) = some (.int s.1) := by rw [Int.add_zero]; rfl
          rw [RD_ne, op_s, if_pos (by simp [RD_cons]), negI, op_s, RD_cons, ix_last, op_s, i1, op_s, subI, op_s, eqO, op_s, bind_s]
          dsimp only
          by_cases t : s.2 = some (a - 1)
          · rw [if_pos (decide_eq_true t), pop_last, op_s, i0, op_s, bind_s]
            dsimp only
            rw [app1 (by rw [RD_len]; omega), op_s, if_pos t, RD_cons, Int.add_zero, z0]
            rw [if_pos t]; rfl
          · rw [if_neg (by simpa using t), bind_s]
            dsimp only
            rw [app1 (by rw [List.length_append, RD_len, List.length_singleton]; omega), op_s, if_neg t, RD_cons, RD_cons, Int.add_zero, z0]
            rw [if_neg t, z0, Int.add_zero]; rfl
      · rw [geI, op_s, if_neg (by simpa using hm), if_neg hm]
        rw [lvS_no hm]
  · rw [hs, upto_len]
    unfold lev RD
    rw [shL_0]

/-! ### the program's levels: moved by one less than so many -/
theorem plev_ok {ps : List (Int × Int)} {j : Int} (hl : ps.length < 900) : d_t_level [.lst (ps.map eP), .int j] = .ok (.lst ((shL (j - 1) (lev ps j)).map eS)) := by
  have ln : lenD [.lst (ps.map eP)] = some (.int (ps.length : Int)) := by show some (D.int _) = _; rw [List.length_map]
  have en : enumD (.lst (ps.map eP)) = some (enumF 0 (ps.map eP)) := rfl
  refine Ok.eq ?_
  unfold d_t_level
  dsimp only
  refine Ok.op en ?_
  refine Ok.bnd (P := fun s => s = (shL (j - 1) (lev ps j)).map eS) ((Ok.forI (fun i (s : List D) => s = RD (j - 1) (lvN ps j i)) rfl ?_).mono fun s hs => ?_) fun s hs => Ok.ret (by rw [hs])
  · rintro i d hi _ rfl
    obtain ⟨x, hx, rfl⟩ := enumF_get hi
    rw [List.getElem?_map] at hx
    obtain ⟨p, ep, rfl⟩ := Option.map_eq_some_iff.mp hx
    have hil := (List.getElem?_eq_some_iff.mp ep).1
    rw [Nat.zero_add]
    have e1 : un2 (.tup [.int (i : Int), eP p]) = some (.int (i : Int), eP p) := rfl
    have eu : un2 (eP p) = some (.int p.1, .int p.2) := rfl
    rw [e1, op_s, eu, op_s]
    refine Ok.call (a := eO ((nxt ps i).map (· + (j - 1)))) ?_ ?_
    · rw [addI, op_s, ln, op_s, ltI, op_s]
      by_cases z : i + 1 < ps.length
      · have x1 : ixD (.lst (ps.map eP)) (.int ((i : Int) + 1)) = some (eP ps[i + 1]) := by
          have := ix_at (ds := ps.map eP) (i := i + 1) (d := eP ps[i + 1]) (by rw [List.getElem?_map, List.getElem?_eq_getElem z]; rfl)
          rwa [show ((i + 1 : Nat) : Int) = (i : Int) + 1 by omega] at this
        have i0 : ixD (eP ps[i + 1]) (.int 0) = some (.int ps[i + 1].1) := rfl
        rw [if_pos (decide_eq_true (by omega)), op_s, x1, op_s, i0, op_s, addI, op_s, subI, op_s, nxt_some z]
        show Res.ok (D.int _) = .ok (D.int (ps[i + 1].1 - 1 + (j - 1)))
        rw [show ps[i + 1].1 + j - 2 = ps[i + 1].1 - 1 + (j - 1) by omega]
      · rw [if_neg (by simp; omega), nxt_none z]; rfl
    · rw [lvN_at ep]
      have hR := lvN_len (ps := ps) (j := j) (i := i)
      generalize lvN ps j i = R at hR
      generalize nxt ps i = o
      obtain ⟨a, m⟩ := p
      dsimp only
      refine Ok.op addI (Ok.op subI ?_)
      have ea : a + j - 1 = a + (j - 1) := by omega
      rw [ea]
      by_cases hm : j ≤ m
      · cases R with
        | nil =>
          refine Ok.call (a := (([] : List D), D.int (a + (j - 1)))) ?_ (Ok.bnd (P := fun s => s = RD (j - 1) (lvS j [] a m o)) ?_ fun s hs => Ok.ret hs)
          · rw [geI, op_s, if_pos (decide_eq_true hm), RD_ne, op_s, if_neg (by simp [RD, shL]), bind_s, if_neg (by simp)]; rfl
          · rw [geI, op_s, if_pos (decide_eq_true hm)]
            refine Ok.op (app1 (by simp)) (Ok.ret ?_)
            rw [lvS_nil hm]; rfl
        | cons s r =>
          rw [List.length_cons] at hR
          have i1 : ixD (eS (s.1 + (j - 1), s.2.map (· + (j - 1)))) (.int 1) = some (eO (s.2.map (· + (j - 1)))) := rfl
          have i0 : ixD (eS (s.1 + (j - 1), s.2.map (· + (j - 1)))) (.int 0) = some (.int (s.1 + (j - 1))) := rfl
          have tt : (s.2.map (· + (j - 1)) = some (a + (j - 1) - 1)) ↔ s.2 = some (a - 1) := by
            cases s.2 with
            | none => simp
            | some b =>
              simp only [Option.map_some, Option.some.injEq]
              omega
          rw [lvS_cons hm]
          by_cases t : s.2 = some (a - 1)
          · refine Ok.call (a := (RD (j - 1) r, D.int (s.1 + (j - 1)))) ?_ (Ok.bnd (P := fun l => l = RD (j - 1) (if s.2 = some (a - 1) then (s.1, o) :: r else (a, o) :: s :: r)) ?_ fun s hs => Ok.ret hs)
            · rw [geI, op_s, if_pos (decide_eq_true hm), RD_ne, op_s, if_pos (by simp [RD_cons]), negI, op_s, RD_cons, ix_last, op_s, i1, op_s, subI, op_s, eqO, op_s, bind_s, if_pos (decide_eq_true (tt.mpr t)), pop_last, op_s, i0, op_s]
            · rw [geI, op_s, if_pos (decide_eq_true hm), if_pos t]
              refine Ok.op (app1 (by rw [RD_len]; omega)) (Ok.ret ?_)
              rw [RD_cons]; rfl
          · refine Ok.call (a := (RD (j - 1) (s :: r), D.int (a + (j - 1)))) ?_ (Ok.bnd (P := fun l => l = RD (j - 1) (if s.2 = some (a - 1) then (s.1, o) :: r else (a, o) :: s :: r)) ?_ fun s hs => Ok.ret hs)
            · rw [geI, op_s, if_pos (decide_eq_true hm), RD_ne, op_s, if_pos (by simp [RD_cons]), negI, op_s, RD_cons, ix_last, op_s, i1, op_s, subI, op_s, eqO, op_s, bind_s, if_neg (by simpa using fun e => t (tt.mp e))]
            · rw [geI, op_s, if_pos (decide_eq_true hm), if_neg t]
              refine Ok.op (app1 (by rw [RD_len, List.length_cons]; omega)) (Ok.ret ?_)
              rw [RD_cons (s := (a, o))]; rfl
      · rw [lvS_no hm]
        refine Ok.call (a := (RD (j - 1) R, D.int (a + (j - 1)))) ?_ (Ok.bnd (P := fun l => l = RD (j - 1) R) ?_ fun s hs => Ok.ret hs)
        · rw [geI, op_s, if_neg (by simpa using hm), bind_s, if_neg (by simp)]
        · rw [geI, op_s, if_neg (by simpa using hm)]
          exact Ok.ret rfl
  · rw [hs, enumF_len, List.length_map]; rfl
/-! ### what a level holds -/
/-- stretches told the other way round, all ended, the last by hi -/
def Desc : Int → List Say → Prop
  | _, [] => True
  | _, (_, none) :: _ => False
  | hi, (a, some b) :: r => 0 ≤ a ∧ a ≤ b ∧ b ≤ hi ∧ Desc (a - 2) r
theorem Desc.mono : ∀ {R : List Say} {hi hi' : Int}, Desc hi R → hi ≤ hi' → Desc hi' R
  | [], _, _, _, _ => trivial
  | (_, none) :: _, _, _, h, _ => h.elim
  | (a, some b) :: r, _, _, h, l => ⟨h.1, h.2.1, by have := h.2.2.1; omega, h.2.2.2⟩
theorem hit_app {c : Int} : ∀ {A B : List Say}, hit c (A ++ B) = hit c A + hit c B
  | [], B => by simp [hit]
  | s :: r, B => by
    show (if inL c s = true then 1 else 0) + hit c (r ++ B) = (if inL c s = true then 1 else 0) + hit c r + hit c B
    rw [hit_app]; omega
theorem hit_rev {c : Int} : ∀ {R : List Say}, hit c R.reverse = hit c R
  | [] => rfl
  | s :: r => by
    rw [List.reverse_cons, hit_app, hit_rev]
    simp only [hit]
    omega
theorem Desc.zero {c : Int} : ∀ {R : List Say} {hi : Int}, Desc hi R → hi < c → hit c R = 0
  | [], _, _, _ => rfl
  | (_, none) :: _, _, h, _ => h.elim
  | (a, some b) :: r, hi, h, l => by
    obtain ⟨h1, h2, h3, h4⟩ := h
    show (if inL c (a, some b) = true then 1 else 0) + hit c r = 0
    rw [h4.zero (by omega), if_neg (by simp [inL]; omega)]; rfl
theorem Ris.app {s : Say} : ∀ {L : List Say} {lo hi : Int}, (∀ x, x ∈ L → ∃ b, x.2 = some b ∧ b ≤ hi) → Ris lo L → Ris (hi + 2) [s] → lo ≤ s.1 → Ris lo (L ++ [s])
  | [], lo, hi, _, _, g, l => by
    obtain ⟨a, o⟩ := s
    cases o with
    | none => exact ⟨l, rfl⟩
    | some b => exact ⟨l, g.2.1, trivial⟩
  | (x, none) :: r, lo, hi, e, h, g, l => by
    obtain ⟨b, z, _⟩ := e (x, none) List.mem_cons_self
    cases z
  | (x, some y) :: r, lo, hi, e, h, g, l => by
    obtain ⟨h1, h2, h3⟩ := h
    obtain ⟨b, z, zb⟩ := e (x, some y) List.mem_cons_self
    cases z
    have g1 : hi + 2 ≤ s.1 := by
      obtain ⟨a, o⟩ := s
      cases o with
      | none => exact g.1
      | some b => exact g.1
    exact ⟨h1, h2, h3.app (fun x hx => e x (List.mem_cons_of_mem _ hx)) g (by omega)⟩
theorem Desc.ends : ∀ {R : List Say} {hi : Int}, Desc hi R → ∀ x, x ∈ R → ∃ b, x.2 = some b ∧ b ≤ hi
  | [], _, _, x, hx => nomatch hx
  | (_, none) :: _, _, h, _, _ => h.elim
  | (a, some b) :: r, hi, h, x, hx => by
    obtain ⟨h1, h2, h3, h4⟩ := h
    rcases List.mem_cons.mp hx with rfl | hx
    · exact ⟨b, rfl, h3⟩
    · obtain ⟨c, e, l⟩ := h4.ends x hx
      exact ⟨c, e, by omega⟩
theorem Desc.ris : ∀ {R : List Say} {hi : Int}, Desc hi R → Ris 0 R.reverse
  | [], _, _ => trivial
  | (_, none) :: _, _, h => h.elim
  | (a, some b) :: r, hi, h => by
    obtain ⟨h1, h2, h3, h4⟩ := h
    rw [List.reverse_cons]
    exact h4.ris.app (hi := a - 2) (fun x hx => h4.ends x (List.mem_reverse.mp hx)) ⟨by show a - 2 + 2 ≤ a; omega, h2, trivial⟩ h1
theorem Desc.open {r : List Say} {a : Int} (a0 : 0 ≤ a) (h : Desc (a - 2) r) : Ris 0 ((a, none) :: r).reverse := by
  rw [List.reverse_cons]
  exact h.ris.app (hi := a - 2) (fun x hx => h.ends x (List.mem_reverse.mp hx)) ⟨by show a - 2 + 2 ≤ a; omega, rfl⟩ a0

/-! ### a table's level is where it has so many -/
theorem lvS_hit {j k m c : Int} {o : Option Int} (hb : ∀ b, o = some b → k ≤ b) : ∀ {R : List Say}, Desc (k - 1) R → hit c (lvS j R k m o) = hit c R + (if j ≤ m ∧ inL c (k, o) = true then 1 else 0)
  | [], _ => by
    by_cases hm : j ≤ m
    · rw [lvS_nil hm]
      by_cases z : inL c (k, o) = true
      · rw [if_pos ⟨hm, z⟩]; show (if inL c (k, o) = true then (1 : Int) else 0) + 0 = 0 + 1; rw [if_pos z]; rfl
      · rw [if_neg fun h => z h.2]; show (if inL c (k, o) = true then (1 : Int) else 0) + 0 = 0 + 0; rw [if_neg z]
    · rw [lvS_no hm, if_neg fun h => hm h.1]; omega
  | (_, none) :: _, h => h.elim
  | (x, some b) :: r, h => by
    obtain ⟨h1, h2, h3, h4⟩ := h
    by_cases hm : j ≤ m
    · rw [lvS_cons hm]
      by_cases t : ((x, some b) : Say).2 = some (k - 1)
      · rw [if_pos t]
        have t' : b = k - 1 := Option.some.inj t
        subst t'
        show (if inL c (x, o) = true then (1 : Int) else 0) + hit c r = (if inL c (x, some (k - 1)) = true then (1 : Int) else 0) + hit c r + (if j ≤ m ∧ inL c (k, o) = true then (1 : Int) else 0)
        have e : (if inL c (x, o) = true then (1 : Int) else 0) = (if inL c (x, some (k - 1)) = true then (1 : Int) else 0) + (if j ≤ m ∧ inL c (k, o) = true then (1 : Int) else 0) := by
          simp only [hm, true_and]
          cases o with
          | none =>
            simp only [inL, Bool.and_true, Bool.and_eq_true, decide_eq_true_eq]
            split <;> split <;> split <;> omega
          | some y =>
            have := hb y rfl
            simp only [inL, Bool.and_eq_true, decide_eq_true_eq]
            split <;> split <;> split <;> omega
        omega
      · rw [if_neg t]
        show (if inL c (k, o) = true then (1 : Int) else 0) + hit c ((x, some b) :: r) = hit c ((x, some b) :: r) + (if j ≤ m ∧ inL c (k, o) = true then (1 : Int) else 0)
        simp only [hm, true_and]; omega
    · rw [lvS_no hm, if_neg fun h => hm h.1]; omega
theorem lvS_desc {j k m b : Int} (k0 : 0 ≤ k) (kb : k ≤ b) : ∀ {R : List Say}, Desc (k - 1) R → Desc b (lvS j R k m (some b))
  | [], _ => by
    by_cases hm : j ≤ m
    · rw [lvS_nil hm]; exact ⟨k0, kb, Int.le_refl _, trivial⟩
    · rw [lvS_no hm]; trivial
  | (_, none) :: _, h => h.elim
  | (x, some y) :: r, h => by
    by_cases hm : j ≤ m
    · rw [lvS_cons hm]
      by_cases t : ((x, some y) : Say).2 = some (k - 1)
      · rw [if_pos t]
        obtain ⟨h1, h2, h3, h4⟩ := h
        exact ⟨h1, by show x ≤ b; omega, Int.le_refl _, h4⟩
      · rw [if_neg t]
        have t' : y ≠ k - 1 := fun e => t (by show some y = _; rw [e])
        obtain ⟨h1, h2, h3, h4⟩ := h
        exact ⟨k0, kb, Int.le_refl _, h1, h2, by omega, h4⟩
    · rw [lvS_no hm]; exact h.mono (by omega)
theorem lvS_ris {j k m : Int} (k0 : 0 ≤ k) : ∀ {R : List Say}, Desc (k - 1) R → Ris 0 (lvS j R k m none).reverse
  | [], _ => by
    by_cases hm : j ≤ m
    · rw [lvS_nil hm]; exact ⟨k0, rfl⟩
    · rw [lvS_no hm]; trivial
  | (_, none) :: _, h => h.elim
  | (x, some y) :: r, h => by
    by_cases hm : j ≤ m
    · rw [lvS_cons hm]
      by_cases t : ((x, some y) : Say).2 = some (k - 1)
      · rw [if_pos t]
        exact Desc.open h.1 h.2.2.2
      · rw [if_neg t]
        have t' : y ≠ k - 1 := fun e => t (by show some y = _; rw [e])
        obtain ⟨h1, h2, h3, h4⟩ := h
        exact Desc.open k0 ⟨h1, h2, by omega, h4⟩
    · rw [lvS_no hm]; exact h.ris
/-- not more stretches than half the steps, or one more that ends just here -/
def Tch (n : Nat) (k : Int) (R : List Say) : Prop := 2 * R.length ≤ n ∨ (2 * R.length ≤ n + 1 ∧ ∃ x r, R = (x, some (k - 1)) :: r)
theorem lvS_two {j k m : Int} {o : Option Int} {n : Nat} {R : List Say} (h : Tch n k R) : 2 * (lvS j R k m o).length ≤ n + 2 := by
  by_cases hm : j ≤ m
  · rcases h with h | ⟨h, x, r, rfl⟩
    · have := lvS_len (j := j) (R := R) (a := k) (m := m) (o := o)
      omega
    · rw [lvS_cons hm, if_pos rfl]
      rw [List.length_cons] at h ⊢; omega
  · rw [lvS_no hm]
    rcases h with h | ⟨h, _⟩ <;> omega
theorem lvS_tch {j k m b : Int} {n : Nat} {R : List Say} (h : Tch n k R) : Tch (n + 1) (b + 1) (lvS j R k m (some b)) := by
  have two := lvS_two (j := j) (m := m) (o := some b) h
  by_cases hm : j ≤ m
  · refine .inr ⟨two, ?_⟩
    rw [show b + 1 - 1 = b by omega]
    cases R with
    | nil => exact ⟨k, [], lvS_nil hm⟩
    | cons s r =>
      rw [lvS_cons hm]
      split
      · exact ⟨s.1, r, rfl⟩
      · exact ⟨k, s :: r, rfl⟩
  · rw [lvS_no hm]
    rcases h with h | ⟨h, _⟩
    · exact .inl (by omega)
    · exact .inl h
section
variable {S : Int → Int} {ks : List Int} {n : Nat}
theorem Cn.pw0 (g : Cn S ks n) : (0 :: ks).Pairwise (· < ·) := List.Pairwise.cons g.gt g.pw
theorem Cn.seg (g : Cn S ks n) {i : Nat} {k c0 : Int} (e : (0 :: ks)[i]? = some k) (h : ∀ k', (0 :: ks)[i + 1]? = some k' → c0 < k') (l : k ≤ c0) : S c0 = S k := by
  refine flat_in l fun c h1 h2 => Decidable.byContradiction fun z => ?_
  obtain ⟨il, ek⟩ := List.getElem?_eq_some_iff.mp e
  have k0 : 0 ≤ k := g.pos k (List.mem_of_getElem? e)
  have mc : c ∈ 0 :: ks := List.mem_cons_of_mem _ ((g.mem c).mpr ⟨by omega, z⟩)
  obtain ⟨t, tl, et⟩ := List.getElem_of_mem mc
  have pw := List.pairwise_iff_getElem.mp g.pw0
  by_cases a : t ≤ i
  · by_cases b : t = i
    · subst b; omega
    · have := pw t i tl il (by omega); omega
  · have i1 : i + 1 < (0 :: ks).length := by omega
    have l1 := h _ (List.getElem?_eq_getElem i1)
    by_cases b : t = i + 1
    · subst b; omega
    · have := pw (i + 1) t i1 tl (by omega); omega
theorem stp_at {i : Nat} {k : Int} (e : (0 :: ks)[i]? = some k) : (stp S (0 :: ks))[i]? = some (k, S k) := by
  unfold stp
  rw [List.getElem?_map, e]; rfl
theorem stp_nxt {i : Nat} : nxt (stp S (0 :: ks)) i = ((0 :: ks)[i + 1]?).map (· - 1) := by
  unfold nxt stp
  rw [List.getElem?_map, Option.map_map]; rfl
theorem lvN_inv (g : Cn S ks n) {j : Int} : ∀ {i : Nat} {k : Int}, (0 :: ks)[i]? = some k → Desc (k - 1) (lvN (stp S (0 :: ks)) j i) ∧ (∀ c, 0 ≤ c → c < k → hit c (lvN (stp S (0 :: ks)) j i) = if j ≤ S c then 1 else 0) ∧ Tch i k (lvN (stp S (0 :: ks)) j i)
  | 0, k, e => by
    have : k = 0 := (Option.some.inj e).symm
    subst this
    exact ⟨trivial, fun c a b => by omega, .inl (Nat.le_refl _)⟩
  | i + 1, k', e => by
    obtain ⟨il, ek'⟩ := List.getElem?_eq_some_iff.mp e
    have e0 : (0 :: ks)[i]? = some ((0 :: ks)[i]'(by omega)) := List.getElem?_eq_getElem (by omega)
    generalize hk : (0 :: ks)[i]'(by omega) = k at e0
    have lt : k < k' := by
      have := List.pairwise_iff_getElem.mp g.pw0 i (i + 1) (by omega) il (by omega)
      rw [hk, ek'] at this; exact this
    have k0 := g.pos k (List.mem_of_getElem? e0)
    obtain ⟨h1, h2, h3⟩ := lvN_inv g (j := j) e0
    rw [lvN_at (stp_at e0), stp_nxt, e]
    show Desc (k' - 1) (lvS j _ k (S k) (some (k' - 1))) ∧ (∀ c, 0 ≤ c → c < k' → hit c (lvS j _ k (S k) (some (k' - 1))) = _) ∧ Tch (i + 1) k' (lvS j _ k (S k) (some (k' - 1)))
    refine ⟨lvS_desc k0 (by omega) h1, fun c c0 ck => ?_, ?_⟩
    · rw [lvS_hit (fun b e => by cases e; omega) h1]
      by_cases z : c < k
      · rw [h2 c c0 z, if_neg (c := j ≤ S k ∧ _) (fun h => by have := h.2; simp [inL] at this; omega)]; omega
      · have es : S c = S k := g.seg e0 (fun x hx => by rw [e] at hx; cases hx; exact ck) (by omega)
        rw [h1.zero (by omega), es]
        by_cases y : j ≤ S k
        · rw [if_pos y, if_pos ⟨y, by simp [inL]; omega⟩]; rfl
        · rw [if_neg y, if_neg fun h => y h.1]; rfl
    · have := lvS_tch (j := j) (m := S k) (b := k' - 1) h3
      rwa [show k' - 1 + 1 = k' by omega] at this
theorem lev_ok (g : Cn S ks n) {j : Int} : Ris 0 (lev (stp S (0 :: ks)) j) ∧ (∀ c, 0 ≤ c → hit c (lev (stp S (0 :: ks)) j) = if j ≤ S c then 1 else 0) ∧ 2 * (lev (stp S (0 :: ks)) j).length ≤ ks.length + 2 := by
  have e0 : (0 :: ks)[ks.length]? = some ((0 :: ks)[ks.length]'(by simp)) := List.getElem?_eq_getElem (by simp)
  generalize (0 :: ks)[ks.length]'(by simp) = k at e0
  have en : (0 :: ks)[ks.length + 1]? = none := List.getElem?_eq_none (by simp)
  have k0 := g.pos k (List.mem_of_getElem? e0)
  obtain ⟨h1, h2, h3⟩ := lvN_inv g (j := j) e0
  unfold lev
  rw [stp_len, List.length_cons, lvN_at (stp_at e0), stp_nxt, en]
  show Ris 0 (lvS j _ k (S k) none).reverse ∧ (∀ c, 0 ≤ c → hit c (lvS j _ k (S k) none).reverse = _) ∧ 2 * (lvS j _ k (S k) none).reverse.length ≤ ks.length + 2
  refine ⟨lvS_ris k0 h1, fun c c0 => ?_, by rw [List.length_reverse]; exact lvS_two h3⟩
  rw [hit_rev, lvS_hit (fun b e => by cases e) h1]
  by_cases z : c < k
  · rw [h2 c c0 z, if_neg (c := j ≤ S k ∧ _) (fun h => by have := h.2; simp [inL] at this; omega)]; omega
  · have es : S c = S k := g.seg e0 (fun x hx => by rw [en] at hx; cases hx) (by omega)
    rw [h1.zero (by omega), es]
    by_cases y : j ≤ S k
    · rw [if_pos y, if_pos ⟨y, by simp [inL]; omega⟩]; rfl
    · rw [if_neg y, if_neg fun h => y h.1]; rfl
end

/-! ### a row of sets gone through from the back -/
theorem Ris.below {c : Int} : ∀ {L : List Say} {lo : Int}, Ris lo L → c < lo → hit c L = 0
  | [], _, _, _ => rfl
  | (a, none) :: r, lo, h, l => by
    obtain ⟨h1, rfl⟩ := h
    show (if inL c (a, none) = true then (1 : Int) else 0) + 0 = 0
    rw [if_neg (by simp [inL]; omega)]; rfl
  | (a, some b) :: r, lo, h, l => by
    obtain ⟨h1, h2, h3⟩ := h
    show (if inL c (a, some b) = true then (1 : Int) else 0) + hit c r = 0
    rw [if_neg (by simp [inL]; omega), h3.below (by omega)]; rfl
theorem Ris.facts : ∀ {L : List Say} {lo : Int}, Ris lo L → ∀ s, s ∈ L → hit s.1 L = 1 ∧ ∀ b, s.2 = some b → hit b L = 1 ∧ hit (b + 1) L = 0
  | [], _, _, s, hs => nomatch hs
  | (a, none) :: r, lo, h, s, hs => by
    obtain ⟨h1, rfl⟩ := h
    rcases List.mem_cons.mp hs with rfl | hs
    · refine ⟨?_, fun b e => nomatch e⟩
      show (if inL a (a, none) = true then (1 : Int) else 0) + 0 = 1
      rw [if_pos (by simp [inL])]; rfl
    · cases hs
  | (a, some b) :: r, lo, h, s, hs => by
    obtain ⟨h1, h2, h3⟩ := h
    have e : ∀ c, hit c ((a, some b) :: r) = (if a ≤ c ∧ c ≤ b then 1 else 0) + hit c r := fun c => by
      show (if inL c (a, some b) = true then (1 : Int) else 0) + hit c r = _
      have : (inL c (a, some b) = true) ↔ (a ≤ c ∧ c ≤ b) := by simp [inL]
      simp only [this]
    rcases List.mem_cons.mp hs with rfl | hs
    · refine ⟨by rw [e, if_pos ⟨Int.le_refl _, h2⟩, h3.below (by show a < b + 2; omega)]; rfl, fun x ex => ?_⟩
      cases ex
      exact ⟨by rw [e, if_pos ⟨h2, Int.le_refl _⟩, h3.below (by omega)]; rfl, by rw [e, if_neg (by omega), h3.below (by omega)]; rfl⟩
    · obtain ⟨f1, f2⟩ := h3.facts s hs
      obtain ⟨o1, o2⟩ := h3.ok s hs
      refine ⟨by rw [e, if_neg (by omega), f1]; rfl, fun x ex => ?_⟩
      obtain ⟨g1, g2⟩ := f2 x ex
      have := o2 x ex
      exact ⟨by rw [e, if_neg (by omega), g1]; rfl, by rw [e, if_neg (by omega), g2]; rfl⟩
def cap (S : Int → Int) (j c : Int) : Int := if S c ≤ j then S c else j
theorem step_mono {T : Int → Int} (h : ∀ c, 0 < c → T (c - 1) ≤ T c) {a : Int} (a0 : 0 ≤ a) : ∀ n : Nat, T a ≤ T (a + n)
  | 0 => by simp
  | n + 1 => by
    have ih := step_mono h a0 n
    have := h (a + (n + 1 : Nat)) (by omega)
    rw [show a + (n + 1 : Nat) - 1 = a + n by omega] at this
    omega
theorem least_ex {T : Int → Int} (mono : ∀ a b, 0 ≤ a → a ≤ b → T a ≤ T b) {m : Int} : ∀ n : Nat, m ≤ T n → ∃ r, Least T m r
  | 0, h => ⟨0, Int.le_refl _, fun c c0 => ⟨fun _ => c0, fun _ => Int.le_trans h (mono 0 c (Int.le_refl _) c0)⟩⟩
  | n + 1, h => by
    by_cases z : m ≤ T n
    · exact least_ex mono n z
    · refine ⟨((n + 1 : Nat) : Int), by omega, fun c c0 => ⟨fun g => Decidable.byContradiction fun y => ?_, fun g => Int.le_trans h (mono _ c (by omega) g)⟩⟩
      have := mono c n c0 (by omega)
      omega
section
variable {S : Int → Int} {ks : List Int} {n : Nat}
theorem cap_mono (fl : ∀ c, 0 < c → S (c - 1) - 1 ≤ S c) {j : Int} {a b : Int} (a0 : 0 ≤ a) (ab : a ≤ b) : a + cap S j a ≤ b + cap S j b := by
  have := step_mono (T := fun c => c + cap S j c) (fun c hc => by
    have := fl c hc
    show c - 1 + cap S j (c - 1) ≤ c + cap S j c
    unfold cap
    split <;> split <;> omega) a0 (b - a).toNat
  rw [show a + ((b - a).toNat : Int) = b by omega] at this
  exact this
theorem cap_least (nn : ∀ c, 0 ≤ c → 0 ≤ S c) (fl : ∀ c, 0 < c → S (c - 1) - 1 ≤ S c) {j : Int} (j0 : 0 ≤ j) : ∃ g : Int → Int, ∀ m, 0 ≤ m → Least (fun c => c + cap S j c) m (g m) := by
  have h : ∀ m : Int, ∃ r, 0 ≤ m → Least (fun c => c + cap S j c) m r := fun m => by
    by_cases z : 0 ≤ m
    · obtain ⟨r, hr⟩ := least_ex (T := fun c => c + cap S j c) (m := m) (fun a b a0 ab => cap_mono fl a0 ab) m.toNat (by
        rw [show ((m.toNat : Nat) : Int) = m by omega]
        have := nn m z
        show m ≤ m + cap S j m
        unfold cap; split <;> omega)
      exact ⟨r, fun _ => hr⟩
    · exact ⟨0, fun y => absurd y z⟩
  exact ⟨fun m => (h m).choose, fun m hm => (h m).choose_spec hm⟩
theorem lev_meets (g : Cn S ks n) (fl : ∀ c, 0 < c → S (c - 1) - 1 ≤ S c) {j : Int} (j0 : 0 ≤ j) {f : Int → Int} (hf : ∀ m, 0 ≤ m → Least (fun c => c + cap S j c) m (f m)) : Meets f j (lev (stp S (0 :: ks)) (j + 1)) := by
  obtain ⟨r, h, _⟩ := lev_ok g (j := j + 1)
  intro s hs
  obtain ⟨o1, o2⟩ := r.ok s hs
  obtain ⟨f1, f2⟩ := r.facts s hs
  have key : ∀ a, 0 ≤ a → cap S j a = j → (0 < a → a - 1 + cap S j (a - 1) < a + j) → f (a + j) = a := fun a a0 e lo => by
    refine (hf (a + j) (by omega)).uniq ⟨a0, fun c c0 => ⟨fun y => Decidable.byContradiction fun z => ?_, fun y => ?_⟩⟩
    · have := cap_mono (S := S) fl (j := j) c0 (show c ≤ a - 1 by omega)
      have := lo (by omega)
      have y : a + j ≤ c + cap S j c := y
      omega
    · have := cap_mono (S := S) fl (j := j) a0 y
      show a + j ≤ c + cap S j c
      omega
  have cle : ∀ c, cap S j c ≤ j := fun c => by unfold cap; split <;> omega
  have up1 : ∀ c, 0 ≤ c → hit c (lev (stp S (0 :: ks)) (j + 1)) = 1 → j + 1 ≤ S c := fun c c0 e => by
    rw [h c c0] at e
    split at e
    · assumption
    · cases e
  refine ⟨key s.1 o1 ?_ fun _ => by have := cle (s.1 - 1); omega, fun b eb => ?_⟩
  · have := up1 s.1 o1 f1
    unfold cap; rw [if_neg (by omega)]
  · obtain ⟨g1, g2⟩ := f2 b eb
    have := o2 b eb
    have a1 := up1 b (by omega) g1
    rw [h (b + 1) (by omega)] at g2
    have a2 : ¬ j + 1 ≤ S (b + 1) := fun y => by rw [if_pos y] at g2; cases g2
    have a3 := fl (b + 1) (by omega)
    rw [show b + 1 - 1 = b by omega] at a3
    rw [show b + j + 1 = b + 1 + j by omega]
    refine key (b + 1) (by omega) (by unfold cap; split <;> omega) fun _ => ?_
    have := cle (b + 1 - 1)
    omega
def Putf (f : D → List (Key × D) → Res (List (Key × D))) : Prop := ∀ (s : Say) (es : List (Int × Int)) (n : Nat), Ext n es → n < 99000 → 0 ≤ s.1 → (∀ b, s.2 = some b → s.1 ≤ b) → ∃ fs, f (eS s) (es.map eK) = .ok (fs.map eK) ∧ Ext (n + 2) fs ∧ ∀ c, sumTo fs c = sumTo es c + (if inL c s = true then 1 else 0)
theorem puts_ok {f : D → List (Key × D) → Res (List (Key × D))} (hf : Putf f) :
    ∀ {L : List Say} {es : List (Int × Int)} {n : Nat}, Ext n es → n + 2 * L.length < 98000 → (∀ s, s ∈ L → 0 ≤ s.1 ∧ ∀ b, s.2 = some b → s.1 ≤ b) → ∃ fs, forS (L.map eS) (es.map eK) f = .ok (fs.map eK) ∧ Ext (n + 2 * L.length) fs ∧ ∀ c, sumTo fs c = sumTo es c + hit c L
  | [], es, n, X, _, _ => ⟨es, rfl, X, fun c => by simp [hit]⟩
  | s :: r, es, n, X, hn, h => by
    rw [List.length_cons] at hn
    obtain ⟨h1, h2⟩ := h s List.mem_cons_self
    obtain ⟨fs, e, Y, sm⟩ := hf s es n X (by omega) h1 h2
    obtain ⟨gs, e2, Z, sm2⟩ := puts_ok hf Y (by omega) fun x hx => h x (List.mem_cons_of_mem _ hx)
    refine ⟨gs, by rw [List.map_cons, forS_c e, e2], ⟨Z.nd, Z.ok, by have := Z.len; rw [List.length_cons]; omega⟩, fun c => ?_⟩
    rw [sm2, sm]
    show _ = sumTo es c + ((if inL c s = true then (1 : Int) else 0) + hit c r)
    omega
/-- the row of fewest sets of a table, from the back -/
def toldL (S : Int → Int) (ks : List Int) (M : Nat) : List D := (List.range M).map fun i : Nat => D.lst ((shL (i : Int) (lev (stp S (0 :: ks)) ((i : Int) + 1))).map eS)
def levL (S : Int → Int) (ks : List Int) (M : Nat) : List D := (List.range M).map fun i : Nat => D.lst ((lev (stp S (0 :: ks)) ((i : Int) + 1)).map eS)
theorem levL_len {M : Nat} : (levL S ks M).length = M := by unfold levL; simp
theorem gone_ok (g : Cn S ks n) (hn : n < 100) (nn : ∀ c, 0 ≤ c → 0 ≤ S c) (fl : ∀ c, 0 < c → S (c - 1) - 1 ≤ S c) {M : Nat} (hM : M ≤ 400) :
    ∃ es, d_t_gone_through [.lst (toldL S ks M).reverse] = .ok (.tup [.lst (levL S ks M), .dic (es.map eK)]) ∧ Ext 60000 es ∧ ∀ c, 0 ≤ c → sumTo es c = cap S M c := by
  have e1 : revD (.lst (toldL S ks M).reverse) = some (.lst (toldL S ks M)) := by
    show some (D.lst _) = _
    rw [List.reverse_reverse]
  have aL : ∀ ds : List D, asL (.lst ds) = some ds := fun _ => rfl
  have kl : ks.length ≤ n := g.len
  suffices Ok (d_t_gone_through [.lst (toldL S ks M).reverse]) fun a => ∃ es : List (Int × Int), a = .tup [.lst (levL S ks M), .dic (es.map eK)] ∧ Ext 60000 es ∧ ∀ c, 0 ≤ c → sumTo es c = cap S M c by
    obtain ⟨a, e, es, ea, X, sm⟩ := this
    exact ⟨es, by rw [e, ea], X, sm⟩
  unfold d_t_gone_through
  dsimp only
  refine Ok.op e1 (Ok.op (aL _) ?_)
  refine Ok.bnd (P := fun s : List (Key × D) × List D => ∃ es : List (Int × Int), s = (es.map eK, levL S ks M) ∧ Ext 60000 es ∧ ∀ c, 0 ≤ c → sumTo es c = cap S M c) ((Ok.forI (fun i (s : List (Key × D) × List D) => ∃ es : List (Int × Int), s = (es.map eK, levL S ks i) ∧ Ext (120 * i) es ∧ ∀ c, 0 ≤ c → sumTo es c = cap S i c) ⟨[], rfl, ⟨List.nodup_nil, fun p hp => (nomatch hp), Nat.zero_le _⟩, fun c c0 => ?_⟩ ?_).mono ?_) ?_
  · have := nn c c0
    show 0 = cap S 0 c
    unfold cap; split <;> omega
  · rintro i d hi _ ⟨es, rfl, X, sm⟩
    have il : i < M := by
      have := (List.getElem?_eq_some_iff.mp hi).1
      unfold toldL at this
      rwa [List.length_map, List.length_range] at this
    have ed : d = .lst ((shL (i : Int) (lev (stp S (0 :: ks)) ((i : Int) + 1))).map eS) := by
      unfold toldL at hi
      rw [List.getElem?_map, List.getElem?_range il] at hi
      exact (Option.some.inj hi).symm
    subst ed
    obtain ⟨r, h, two⟩ := lev_ok g (j := (i : Int) + 1)
    obtain ⟨f, hf⟩ := cap_least (S := S) nn fl (j := (i : Int)) (by omega)
    have me := lev_meets g fl (j := (i : Int)) (by omega) hf
    have le := endsL_len (j := (i : Int)) (L := lev (stp S (0 :: ks)) ((i : Int) + 1))
    have nu := numbers_ok (T := fun c => c + cap S i c) (g := f) X (by omega) (fun a b a0 ab => cap_mono fl a0 ab) (fun c c0 => by rw [sm c c0]) hf (ms := endsL (i : Int) (lev (stp S (0 :: ks)) ((i : Int) + 1))) (by omega) (endsL_rise r) fun m hm => by have := endsL_ge r m hm; omega
    have co := companies_ok (n := 0) (j := (i : Int)) (by omega) (by omega) r me nu
    have lL : levL S ks (i + 1) = levL S ks i ++ [.lst ((lev (stp S (0 :: ks)) ((i : Int) + 1)).map eS)] := by
      unfold levL
      rw [List.range_succ, List.map_append]; rfl
    dsimp only
    refine Ok.call co (Ok.op (app1 (by rw [levL_len]; omega)) ?_)
    dsimp only
    refine Ok.op negI (Ok.op ix_last (Ok.op (aL _) ?_))
    have pf : Putf (fun d13 s12 =>
      op (un2 d13) fun p14 =>
      (d_t_put [(D.dic s12), p14.1, (D.int 1)]).bind fun a15 =>
      ((op (notND p14.2 D.non) fun b17 =>
      if b17 = true then (op (addD p14.2 (D.int 1)) fun t18 =>
      op (negD (D.int 1)) fun t19 =>
      (d_t_put [(D.dic a15.2), t18, t19]).bind fun a20 =>
      .ok a20.2) else (.ok a15.2) : Res (List (Key × D)))).bind fun s16 =>
      .ok s16) := fun s es n X hn s0 sb => by
      obtain ⟨a, o⟩ := s
      have u : un2 (eS (a, o)) = some (.int a, eO o) := rfl
      obtain ⟨fs, ef, Y, sf⟩ := putS_ok (v := 1) X (by omega) s0 (by decide)
      dsimp only
      rw [u, op_s, ef, bind_s]
      dsimp only
      cases o with
      | none =>
        have nt : notND (eO none) .non = some false := rfl
        rw [nt, op_s, if_neg (by simp), bind_s]
        refine ⟨fs, rfl, ⟨Y.nd, Y.ok, by have := Y.len; omega⟩, fun c => ?_⟩
        rw [sf]
        simp only [inL, Bool.and_true, decide_eq_true_eq]
      | some b =>
        have nt : notND (eO (some b)) .non = some true := rfl
        have ab : a ≤ b := sb b rfl
        have e0 : eO (some b) = .int b := rfl
        have s0 : 0 ≤ a := s0
        obtain ⟨gs, eg, Z, sg⟩ := putS_ok (k := b + 1) (v := -1) Y (by omega) (by omega) (by decide)
        rw [nt, op_s, if_pos rfl, e0, addI, op_s, negI, op_s, eg, bind_s, bind_s]
        refine ⟨gs, rfl, Z, fun c => ?_⟩
        rw [sg, sf]
        simp only [inL, Bool.and_eq_true, decide_eq_true_eq]
        split <;> split <;> split <;> omega
    obtain ⟨fs, ef, Y, sf⟩ := puts_ok pf X (by omega) (fun s hs => r.ok s hs)
    refine Ok.call ef (Ok.ret ⟨fs, by rw [lL], ⟨Y.nd, Y.ok, by have := Y.len; omega⟩, fun c c0 => ?_⟩)
    rw [sf, sm c c0, h c c0]
    unfold cap
    push_cast
    split <;> split <;> split <;> omega
  · rintro s ⟨es, rfl, X, sm⟩
    have tl : (toldL S ks M).length = M := by unfold toldL; simp
    rw [tl] at X sm ⊢
    exact ⟨es, rfl, ⟨X.nd, X.ok, by have := X.len; omega⟩, sm⟩
  · rintro _ ⟨es, rfl, X, sm⟩
    exact Ok.ret ⟨es, rfl, X, sm⟩
end

/-! ### whether steps fall by one alone -/
def fallP (a b : Int × Int) : Bool := decide (a.2 - 1 ≤ b.2)
theorem adj_snoc {X : Type} {p : X → X → Bool} {q r : X} : ∀ {l : List X}, adj p (l ++ [q] ++ [r]) = (adj p (l ++ [q]) && p q r)
  | [] => by simp [adj]
  | [a] => by simp [adj]
  | a :: b :: l => by
    have ih := adj_snoc (p := p) (q := q) (r := r) (l := b :: l)
    show (p a b && adj p ((b :: l) ++ [q] ++ [r])) = ((p a b && adj p ((b :: l) ++ [q])) && p q r)
    rw [ih, Bool.and_assoc]
theorem tab_snoc {q r : Int × Int} {l : List (Int × Int)} : tab (l ++ [q] ++ [r]) = (tab (l ++ [q]) && near q r) := by
  cases l with
  | nil =>
    show (decide (q.1 = 0) && adj near [q, r]) = ((decide (q.1 = 0) && adj near [q]) && near q r)
    simp [adj]
  | cons a l =>
    show (decide (a.1 = 0) && adj near (a :: l ++ [q] ++ [r])) = ((decide (a.1 = 0) && adj near (a :: l ++ [q])) && near q r)
    rw [adj_snoc, Bool.and_assoc]
theorem Tb.snoc {q r : Int × Int} {l : List (Int × Int)} (h : Tb (l ++ [q])) (n : near q r = true) (r1 : 0 ≤ r.1) (r2 : 0 ≤ r.2) (hl : l.length < 800) : Tb (l ++ [q] ++ [r]) := ⟨by rw [tab_snoc, h.tab, n]; rfl, (fun p hp => by
  rcases List.mem_append.mp hp with hp | hp
  · exact h.nn p hp
  · rw [List.mem_singleton.mp hp]; exact ⟨r1, r2⟩), by simp; omega⟩
theorem near_of {a b : Int × Int} (h : a.1 < b.1) (g : a.2 ≠ b.2) : near a b = true := by
  unfold near
  rw [decide_eq_true h, decide_eq_false g]; rfl

/-! ### steps as a table (from P_ss) -/
structure Fw (S : Int → Int) : Prop where
  nn : ∀ c, 0 ≤ c → 0 ≤ S c
  fl : ∀ c, 0 < c → S (c - 1) - 1 ≤ S c
def SS : List (Int × Int) → Int → Int
  | [], _ => 0
  | [p], _ => p.2
  | p :: q :: r, c => if c < q.1 then p.2 else SS (q :: r) c
theorem near_lt {a b : Int × Int} (h : near a b = true) : a.1 < b.1 ∧ a.2 ≠ b.2 := by
  unfold near at h
  rw [Bool.and_eq_true, decide_eq_true_eq] at h
  refine ⟨h.1, fun e => ?_⟩
  have := h.2
  rw [decide_eq_true e] at this
  cases this
theorem adj2 {X : Type} {p : X → X → Bool} {a b : X} {r : List X} (h : adj p (a :: b :: r) = true) : p a b = true ∧ adj p (b :: r) = true := by
  have h : (p a b && adj p (b :: r)) = true := h
  exact Bool.and_eq_true_iff.mp h
theorem near_gt : ∀ {r : List (Int × Int)} {p : Int × Int}, adj near (p :: r) = true → (r.map (·.1)).Pairwise (· < ·) ∧ ∀ k, k ∈ r.map (·.1) → p.1 < k
  | [], _, _ => ⟨by simp, fun _ h => nomatch h⟩
  | q :: r, p, h => by
    obtain ⟨h1, h2⟩ := adj2 h
    obtain ⟨i1, i2⟩ := near_gt h2
    have := near_lt h1
    rw [List.map_cons]
    refine ⟨List.pairwise_cons.mpr ⟨i2, i1⟩, fun k hk => ?_⟩
    rcases List.mem_cons.mp hk with rfl | z
    · exact this.1
    · have := i2 k z; omega
theorem SS_at : ∀ {r : List (Int × Int)} {p : Int × Int}, adj near (p :: r) = true → ∀ q, q ∈ p :: r → SS (p :: r) q.1 = q.2
  | [], p, _, q, hq => by rw [List.mem_singleton.mp hq]; rfl
  | w :: r, p, h, q, hq => by
    obtain ⟨h1, h2⟩ := adj2 h
    have lt := near_lt h1
    show (if q.1 < w.1 then p.2 else SS (w :: r) q.1) = q.2
    rcases List.mem_cons.mp hq with rfl | z
    · rw [if_pos lt.1]
    · have hw : w.1 ≤ q.1 := by
        rcases List.mem_cons.mp z with rfl | z2
        · exact Int.le_refl _
        · have := (near_gt h2).2 q.1 (List.mem_map.mpr ⟨q, z2, rfl⟩); omega
      rw [if_neg (by omega), SS_at h2 q z]
theorem SS_turn : ∀ {r : List (Int × Int)} {p : Int × Int}, adj near (p :: r) = true → ∀ c, p.1 < c → (SS (p :: r) c ≠ SS (p :: r) (c - 1) ↔ c ∈ r.map (·.1))
  | [], p, _, c, _ => by simp [SS]
  | w :: r, p, h, c, hc => by
    obtain ⟨h1, h2⟩ := adj2 h
    have lt := near_lt h1
    have gt := (near_gt h2).2
    show ((if c < w.1 then p.2 else SS (w :: r) c) ≠ (if c - 1 < w.1 then p.2 else SS (w :: r) (c - 1))) ↔ _
    rw [List.map_cons, List.mem_cons]
    by_cases h3 : c < w.1
    · rw [if_pos h3, if_pos (by omega)]
      constructor
      · intro z; exact absurd rfl z
      · rintro (rfl | z)
        · omega
        · have := gt c z; omega
    · by_cases h4 : c = w.1
      · rw [if_neg h3, if_pos (by omega), h4, SS_at h2 w List.mem_cons_self]
        exact ⟨fun _ => .inl rfl, fun _ e => lt.2 e.symm⟩
      · rw [if_neg h3, if_neg (by omega), SS_turn h2 c (by omega)]
        exact ⟨.inr, fun z => z.elim (fun e => absurd e h4) id⟩
theorem SS_nn : ∀ {ps : List (Int × Int)} {c : Int}, (∀ p, p ∈ ps → 0 ≤ p.2) → 0 ≤ SS ps c
  | [], _, _ => Int.le_refl _
  | [p], _, h => h p (by simp)
  | p :: q :: r, c, h => by
    show 0 ≤ (if c < q.1 then p.2 else SS (q :: r) c)
    split
    · exact h p (by simp)
    · exact SS_nn fun x hx => h x (List.mem_cons_of_mem _ hx)
theorem SS_fl : ∀ {r : List (Int × Int)} {p : Int × Int}, adj near (p :: r) = true → adj fallP (p :: r) = true → ∀ c, SS (p :: r) (c - 1) - 1 ≤ SS (p :: r) c
  | [], p, _, _, c => by show p.2 - 1 ≤ p.2; omega
  | w :: r, p, h, g, c => by
    obtain ⟨h1, h2⟩ := adj2 h
    obtain ⟨g1, g2⟩ := adj2 g
    have g1 : decide (p.2 - 1 ≤ w.2) = true := g1
    have g1 : p.2 - 1 ≤ w.2 := of_decide_eq_true g1
    show (if c - 1 < w.1 then p.2 else SS (w :: r) (c - 1)) - 1 ≤ (if c < w.1 then p.2 else SS (w :: r) c)
    by_cases h3 : c < w.1
    · rw [if_pos h3, if_pos (by omega)]; omega
    · rw [if_neg h3]
      by_cases h4 : c = w.1
      · rw [if_pos (by omega), h4, SS_at h2 w List.mem_cons_self]; exact g1
      · rw [if_neg (by omega)]; exact SS_fl h2 g2 c
theorem tb_S {ps : List (Int × Int)} (h : Tb ps) (g : adj fallP ps = true) : ∃ ks, ps = stp (SS ps) (0 :: ks) ∧ Cn (SS ps) ks (ps.length - 1) ∧ Fw (SS ps) := by
  have ht := h.tab
  cases ps with
  | nil => cases ht
  | cons p r =>
    have ht : (decide (p.1 = 0) && adj near (p :: r)) = true := ht
    obtain ⟨t1, t2⟩ := Bool.and_eq_true_iff.mp ht
    have p0 := of_decide_eq_true t1
    obtain ⟨q1, q2⟩ := near_gt t2
    refine ⟨r.map (·.1), ?_, ⟨q1, fun k => ?_, by rw [List.length_map]; exact Nat.le_refl _⟩, ⟨fun c _ => SS_nn fun x hx => (h.nn x hx).2, fun c _ => SS_fl t2 g c⟩⟩
    · have e : (0 :: r.map (·.1)) = (p :: r).map (·.1) := by rw [List.map_cons, p0]
      rw [e]
      unfold stp
      rw [List.map_map]
      have : ∀ q, q ∈ p :: r → ((fun k => (k, SS (p :: r) k)) ∘ fun q : Int × Int => q.1) q = q := fun q hq => by
        show (q.1, SS (p :: r) q.1) = q
        rw [SS_at t2 q hq]
      rw [List.map_congr_left this, List.map_id']
    · constructor
      · intro hk
        have := q2 k hk
        exact ⟨by omega, (SS_turn t2 k this).mpr hk⟩
      · rintro ⟨k0, hk⟩
        exact (SS_turn t2 k (by omega)).mp hk

/-! ### drawn tables -/
def Gt (ps : List (Int × Int)) : Prop := Tb ps ∧ adj fallP ps = true
theorem mul_two {x r : Int} (x0 : 0 ≤ x) (x1 : x < 2) (r0 : 0 ≤ r) (r1 : r ≤ 10 ^ 28 + 9) : ∃ z : Int, mulD (.int x) (.int r) = some (.int z) ∧ 0 ≤ z ∧ z ≤ 10 ^ 28 + 9 := by
  have b : (10 : Int) ^ 28 + 9 < 2 ^ 250 := by decide
  refine ⟨x * r, mulI x0 (Int.lt_trans x1 (by decide)) r0 (by omega), Int.mul_nonneg x0 r0, ?_⟩
  have : x = 0 ∨ x = 1 := by omega
  rcases this with rfl | rfl
  · rw [Int.zero_mul]; decide
  · rw [Int.one_mul]; exact r1
theorem table_k {N : Nat} {t : List D} {w m : Int} (k0 : TinOk N t) (hN : N + 10000 < 2 ^ 60) (w0 : 0 < w) (w1 : w ≤ 10 ^ 28) (m0 : 3 ≤ m) (m1 : m ≤ 300) : Ok (d_l_table [.lst t, .int w, .int m]) fun a => ∃ (ps : List (Int × Int)) (t' : List D), a = (.lst (ps.map eP), t') ∧ Gt ps ∧ ps.length ≤ 60 ∧ (∀ p, p ∈ ps → p.1 ≤ 2 ^ 110 ∧ p.2 ≤ m) ∧ TinOk (N + 2000) t' := by
  have b : (10 : Int) ^ 28 + 12 < 2 ^ 100 := by decide
  have b1 : (2 : Int) ^ 100 < 2 ^ 200 := by decide
  have b2 : (60 : Int) * 2 ^ 100 ≤ 2 ^ 110 := by decide
  have b3 : (400 : Int) < 2 ^ 200 := by decide
  unfold d_l_table
  dsimp only
  refine Ok.op addI (Ok.bnd (number_k k0 (by omega) (by omega) (by omega)) ?_)
  rintro _ ⟨r, t1, rfl, r0, r1, k1⟩
  refine Ok.op min2I (Ok.bnd (pour_k k1 (by omega) (by decide) (by decide)) ?_)
  rintro _ ⟨x, t2, rfl, x0, x1, k2⟩
  obtain ⟨y, ey, y0, y1⟩ : ∃ y : Int, ixD (.lst [.int 9, .int 9, .int 9, .int 60]) (.int x) = some (.int y) ∧ 0 < y ∧ y ≤ 60 := by
    have : x = 0 ∨ x = 1 ∨ x = 2 ∨ x = 3 := by omega
    rcases this with rfl | rfl | rfl | rfl
    · exact ⟨9, rfl, by decide, by decide⟩
    · exact ⟨9, rfl, by decide, by decide⟩
    · exact ⟨9, rfl, by decide, by decide⟩
    · exact ⟨60, rfl, by decide, by decide⟩
  refine Ok.op ey (Ok.bnd (pour_k k2 (by omega) y0 (by omega)) ?_)
  rintro _ ⟨n, t3, rfl, n0, n1, k3⟩
  refine Ok.op (rng1 n0 (by omega)) ?_
  obtain ⟨u, eu0, u0, u1⟩ : ∃ u : Int, (if r < m then r else m) = u ∧ 0 ≤ u ∧ u ≤ m := ⟨_, rfl, by split <;> omega, by split <;> omega⟩
  dsimp only
  rw [eu0]
  refine Ok.bnd ((Ok.for (fun i (s : List D × List D) => ∃ (l : List (Int × Int)) (q : Int × Int), s.2 = (l ++ [q]).map eP ∧ Gt (l ++ [q]) ∧ l.length ≤ i ∧ (∀ p, p ∈ l ++ [q] → p.1 ≤ 2 ^ 100 * i ∧ p.2 ≤ m) ∧ TinOk (N + 6 + 20 * i) s.1) 59 ⟨[], (0, u), rfl, ⟨⟨rfl, (fun p hp => by rw [List.mem_singleton.mp hp]; exact ⟨Int.le_refl _, u0⟩), by simp⟩, rfl⟩, by simp, (fun p hp => by rw [List.mem_singleton.mp hp]; exact ⟨by simp, u1⟩), k3⟩ (by rw [upto_len]; omega) ?_).mono ?_) (P := fun s => ∃ ps : List (Int × Int), s.2 = ps.map eP ∧ Gt ps ∧ ps.length ≤ 60 ∧ (∀ p, p ∈ ps → p.1 ≤ 2 ^ 110 ∧ p.2 ≤ m) ∧ TinOk (N + 2000) s.1) ?_
  · rintro d hd ⟨t3, ld⟩ i hi ⟨l, q, e1, ⟨g1, g2⟩, ll, bl, k3⟩
    have e1 : ld = (l ++ [q]).map eP := e1
    subst e1
    have k3 : TinOk (N + 6 + 20 * i) t3 := k3
    have il : ixD (.lst ((l ++ [q]).map eP)) (.int (-1)) = some (eP q) := by rw [List.map_append]; exact ix_last
    have eu : un2 (eP q) = some (.int q.1, .int q.2) := rfl
    have mq : q ∈ l ++ [q] := List.mem_append_right _ (List.mem_singleton.mpr rfl)
    have nq := g1.nn q mq
    have bq := bl q mq
    dsimp only
    refine Ok.op negI (Ok.op il (Ok.op eu (Ok.op subI ?_)))
    dsimp only
    refine Ok.bnd (P := fun s : List D × D => ∃ v : Int, s.2 = .int v ∧ 0 ≤ v ∧ v ≠ q.2 ∧ q.2 - 1 ≤ v ∧ v ≤ m ∧ TinOk (N + 6 + 20 * i + 5) s.1) ?_ ?_
    · refine Ok.bnd (P := fun a : Bool × List D => (a.1 = true → q.2 < m) ∧ (a.1 = false → 0 < q.2) ∧ TinOk (N + 6 + 20 * i + 1) a.2) ?_ ?_
      · refine Ok.op eqI ?_
        by_cases z : q.2 = 0
        · rw [if_pos (decide_eq_true z)]
          exact Ok.ret ⟨fun _ => by omega, (fun e => by cases e), k3.mono (by omega)⟩
        · rw [if_neg (by simpa using z)]
          refine Ok.bnd (P := fun a : Bool × List D => (a.1 = true → q.2 < m) ∧ TinOk (N + 6 + 20 * i + 1) a.2) (Ok.op ltI ?_) ?_
          · by_cases y : q.2 < m
            · rw [if_pos (decide_eq_true y)]
              refine Ok.bnd (pour_k k3 (by omega) (by decide) (by decide)) ?_
              rintro _ ⟨x4, t6, rfl, _, _, k6⟩
              exact Ok.op eqI (Ok.ret (Q := fun a : Bool × List D => (a.1 = true → q.2 < m) ∧ TinOk (N + 6 + 20 * i + 1) a.2) ⟨fun _ => y, k6.mono (by omega)⟩)
            · rw [if_neg (by simpa using y)]
              exact Ok.ret ⟨(fun e => by cases e), k3.mono (by omega)⟩
          · rintro ⟨bb, t6⟩ ⟨hb, k6⟩
            exact Ok.ret ⟨hb, fun _ => by omega, k6⟩
      · rintro ⟨bb, t6⟩ ⟨hb, hc, k6⟩
        have k6 : TinOk (N + 6 + 20 * i + 1) t6 := k6
        cases bb with
        | true =>
          have y : q.2 < m := hb rfl
          dsimp only
          rw [if_pos rfl]
          refine Ok.op addI (Ok.bnd (number_k k6 (by omega) (by omega) (by omega)) ?_)
          rintro _ ⟨z, t7, rfl, z0, z1, k7⟩
          refine Ok.op addI (Ok.op min2I (Ok.ret ⟨_, rfl, ?_, ?_, ?_, ?_, k7⟩))
          all_goals split <;> omega
        | false =>
          have y : 0 < q.2 := hc rfl
          dsimp only
          rw [if_neg (by simp)]
          exact Ok.ret ⟨q.2 - 1, rfl, by omega, by omega, by omega, by omega, k6.mono (by omega)⟩
    · rintro ⟨t6, vd⟩ ⟨v, ev, v0, vn, vf, vb, k6⟩
      have ev : vd = .int v := ev
      subst ev
      have k6 : TinOk (N + 6 + 20 * i + 5) t6 := k6
      dsimp only
      refine Ok.op addI (Ok.bnd (pour_k k6 (by omega) (by decide) (by decide)) ?_)
      rintro _ ⟨x, t7, rfl, x0, x1, k7⟩
      refine Ok.bnd (number_k k7 (by omega) w0 (by omega)) ?_
      rintro _ ⟨y, t8, rfl, y0, y1, k8⟩
      obtain ⟨z, ez, z0, z1⟩ := mul_two x0 x1 y0 (by omega)
      have e2 : 2 ^ 100 * ((i + 1 : Nat) : Int) = 2 ^ 100 * (i : Int) + 2 ^ 100 := by rw [show ((i + 1 : Nat) : Int) = (i : Int) + 1 by omega, Int.mul_add, Int.mul_one]
      refine Ok.op ez (Ok.op addI (Ok.op (app1 (by rw [List.length_map, List.length_append, List.length_singleton]; omega)) (Ok.ret ⟨l ++ [q], (q.1 + 1 + z, v), ?_, ⟨g1.snoc (near_of (by show q.1 < q.1 + 1 + z; omega) (fun e => vn e.symm)) (by show 0 ≤ q.1 + 1 + z; omega) v0 (by omega), ?_⟩, by rw [List.length_append, List.length_singleton]; omega, ?_, k8.mono (by omega)⟩)))
      · rw [show (l ++ [q] ++ [(q.1 + 1 + z, v)]).map eP = (l ++ [q]).map eP ++ [eP (q.1 + 1 + z, v)] from List.map_append]; rfl
      · rw [adj_snoc, g2]
        exact decide_eq_true vf
      · intro p hp
        rw [e2]
        rcases List.mem_append.mp hp with hp | hp
        · have := bl p hp
          exact ⟨by omega, this.2⟩
        · rw [List.mem_singleton.mp hp]
          exact ⟨by show q.1 + 1 + z ≤ _; omega, vb⟩
  · rintro ⟨t3, ld⟩ ⟨l, q, e1, g, ll, bl, k3⟩
    rw [upto_len] at ll bl k3
    have bi : (2 ^ 100 : Int) * ((n.toNat : Nat) : Int) ≤ 2 ^ 100 * 60 := Int.mul_le_mul_of_nonneg_left (by omega) (by decide)
    exact ⟨l ++ [q], e1, g, by rw [List.length_append, List.length_singleton]; omega, (fun p hp => by
      have := bl p hp
      exact ⟨by omega, this.2⟩), k3.mono (by omega)⟩
  · rintro ⟨t3, ld⟩ ⟨ps, e1, g, ll, bl, k3⟩
    have e1 : ld = ps.map eP := e1
    subst e1
    exact Ok.ret ⟨ps, t3, rfl, g, ll, bl, k3⟩

/-! ### the row told: good sets, the same table, the same levels -/
theorem Ris.sh {j : Int} : ∀ {L : List Say} {lo : Int}, Ris lo L → Ris (lo + j) (shL j L)
  | [], _, _ => trivial
  | (a, none) :: r, lo, h => by
    obtain ⟨h1, rfl⟩ := h
    exact ⟨by omega, rfl⟩
  | (a, some b) :: r, lo, h => by
    obtain ⟨h1, h2, h3⟩ := h
    refine ⟨by show lo + j ≤ a + j; omega, by show a + j ≤ b + j; omega, ?_⟩
    have := h3.sh (j := j)
    rw [show b + 2 + j = b + j + 2 by omega] at this
    exact this
def gapS (s u : Say) : Bool := match s.2 with
  | none => false
  | some x => decide (u.1 > x + 1)
theorem Ris.gap : ∀ {L : List Say} {lo : Int}, Ris lo L → adj gapS L = true
  | [], _, _ => rfl
  | [_], _, _ => rfl
  | (a, none) :: u :: r, lo, h => by
    obtain ⟨_, h⟩ := h
    cases h
  | (a, some b) :: u :: r, lo, h => by
    obtain ⟨h1, h2, h3⟩ := h
    have l := (h3.ok u List.mem_cons_self).1
    show (gapS (a, some b) u && adj gapS (u :: r)) = true
    rw [h3.gap, show gapS (a, some b) u = true from decide_eq_true (by omega)]; rfl
theorem stretchS_ok {s : Say} (h0 : 0 ≤ s.1) (h1 : ∀ b, s.2 = some b → s.1 ≤ b) : d_t_is_stretch [eS s] = .ok (.bl true) := by
  obtain ⟨a, o⟩ := s
  have h0 : 0 ≤ a := h0
  have i0 : ixD (eS (a, o)) (.int 0) = some (.int a) := rfl
  have i1 : ixD (eS (a, o)) (.int 1) = some (eO o) := rfl
  have l2 : lenD [eS (a, o)] = some (.int 2) := rfl
  have ca : cnt (.int a) = true := decide_eq_true h0
  unfold d_t_is_stretch
  dsimp only
  rw [if_neg (by simp [eS, isTup]), l2, op_s, neI, op_s, if_neg (by simp), i0, op_s, number_ok, bind_s, ca, tru_ok, op_s, bind_s, if_neg (by simp), i1, op_s]
  cases o with
  | none =>
    have nn : isND (eO none) .non = some true := rfl
    rw [nn, op_s, asB_ok, op_s, if_pos rfl, bind_s]
  | some b =>
    have hb : a ≤ b := h1 b rfl
    have nn : isND (eO (some b)) .non = some false := rfl
    have e0 : eO (some b) = .int b := rfl
    have cb : cnt (.int b) = true := decide_eq_true (by omega)
    rw [nn, op_s, asB_ok, op_s, if_neg (by simp), e0, op_s, number_ok, bind_s, cb, asB_ok, op_s, if_pos rfl, op_s, op_s, geI, op_s, bind_s, bind_s]
    rw [decide_eq_true hb]
theorem stretchesS_ok {L : List Say} (hl : L.length < 700000) (r : Ris 0 L) : d_t_is_stretches [.lst (L.map eS)] = .ok (.bl true) := by
  have e0 : asL (.lst (L.map eS)) = some (L.map eS) := rfl
  have all1 : allD [.lst (L.map fun _ => D.bl true)] = some (.bl true) := by
    have := all_ok (ns := L.map fun _ => true)
    rw [List.map_map] at this
    rw [show (L.map fun _ => true).all id = true from List.all_eq_true.mpr fun x hx => by
      obtain ⟨_, _, rfl⟩ := List.mem_map.mp hx; rfl] at this
    exact this
  have ec : cutA (.lst (L.map eS)) (some 1) none = some (.lst ((L.drop 1).map eS)) := by
    by_cases hz : L = []
    · subst hz; rfl
    · have := cut_back (ds := L.map eS) (i := 1) (by rw [List.length_map]; exact List.length_pos_iff.mpr hz)
      show some (D.lst _) = _
      rw [show ((1 : Nat) : Int) = 1 from rfl] at this
      rw [this, List.map_drop]
  have len : (L.zip (L.drop 1)).length < 1000000 := by rw [List.length_zip]; omega
  unfold d_t_is_stretches
  dsimp only
  rw [if_neg (by simp [isLst]), e0, op_s, lc_map (e := eS) (g := fun _ => .bl true) (by omega) (fun p hp => by
    obtain ⟨h0, h1⟩ := r.ok p hp
    rw [stretchS_ok h0 h1, bind_s]), bind_s, all1, op_s, tru_ok, op_s, bind_s, if_neg (by simp), ec, op_s, zip_lst, op_s, lc_map (e := fun z => .tup [eS z.1, eS z.2]) (g := fun z => .bl (gapS z.1 z.2)) len (fun z _ => by
    obtain ⟨⟨a, o⟩, u⟩ := z
    have eu : un2 (.tup [eS (a, o), eS u]) = some (eS (a, o), eS u) := rfl
    have i1 : ixD (eS (a, o)) (.int 1) = some (eO o) := rfl
    have i0 : ixD (eS u) (.int 0) = some (.int u.1) := rfl
    dsimp only
    rw [eu, op_s, i1, op_s]
    cases o with
    | none =>
      have nt : notND (eO none) .non = some false := rfl
      rw [nt, op_s, asB_ok, op_s, if_neg (by simp), bind_s]; rfl
    | some b =>
      have nt : notND (eO (some b)) .non = some true := rfl
      have e0 : eO (some b) = .int b := rfl
      rw [nt, op_s, asB_ok, op_s, if_pos rfl, i0, op_s, op_s, e0, addI, op_s, gtI, op_s, bind_s]; rfl), bind_s]
  have ea : allD [.lst ((L.zip (L.drop 1)).map fun z => D.bl (gapS z.1 z.2))] = some (.bl (adj gapS L)) := by
    have := all_ok (ns := ((L.zip (L.drop 1)).map fun z => gapS z.1 z.2))
    rw [List.map_map] at this
    rw [show ((L.zip (L.drop 1)).map fun z => gapS z.1 z.2).all id = adj gapS L from all_zip (p := gapS)] at this
    exact this
  rw [ea, op_s, r.gap]
theorem rev_range {f : Int → D} {M : Nat} : ((List.range M).map fun i : Nat => f (i : Int)).reverse = (List.range M).map fun i : Nat => f ((M : Int) - 1 - (i : Int)) := by
  apply List.ext_getElem
  · simp
  · intro n h1 h2
    have hn : n < M := by simpa using h2
    rw [List.getElem_reverse]
    simp only [List.getElem_map, List.getElem_range, List.length_map, List.length_range]
    rw [show ((M - 1 - n : Nat) : Int) = (M : Int) - 1 - (n : Int) by omega]
section
variable {S : Int → Int} {ks : List Int} {n : Nat}
/-- the set of so many, told -/
def setF (S : Int → Int) (ks : List Int) (j : Int) : D := .lst ((shL j (lev (stp S (0 :: ks)) (j + 1))).map eS)
def levF (S : Int → Int) (ks : List Int) (j : Int) : D := .lst ((lev (stp S (0 :: ks)) (j + 1)).map eS)
def row (S : Int → Int) (ks : List Int) (M : Nat) : List D := (List.range M).map fun i : Nat => setF S ks ((M : Int) - 1 - (i : Int))
def lvs (S : Int → Int) (ks : List Int) (M : Nat) : List D := (List.range M).map fun i : Nat => levF S ks ((M : Int) - 1 - (i : Int))
theorem row_rev {M : Nat} : row S ks M = (toldL S ks M).reverse := (rev_range (f := setF S ks)).symm
theorem lvs_rev {M : Nat} : lvs S ks M = (levL S ks M).reverse := (rev_range (f := levF S ks)).symm
theorem lev_short (g : Cn S ks n) (hn : n < 100) {j : Int} : (lev (stp S (0 :: ks)) j).length ≤ 50 := by
  have := (lev_ok g (j := j)).2.2
  have := g.len
  omega
theorem needsets_ok (g : Cn S ks n) (hn : n < 100) {M : Nat} (hM : M ≤ 400) : d_t_need_sets [.lst (row S ks M)] = .ok .non := by
  have e0 : asL (.lst (row S ks M)) = some (row S ks M) := rfl
  have ea : allD [.lst ((List.range M).map fun _ => D.bl true)] = some (.bl true) := by
    have := all_ok (ns := (List.range M).map fun _ => true)
    rw [List.map_map] at this
    rw [show ((List.range M).map fun _ => true).all id = true from List.all_eq_true.mpr fun x hx => by
      obtain ⟨_, _, rfl⟩ := List.mem_map.mp hx; rfl] at this
    exact this
  have is : d_t_is_sets [.lst (row S ks M)] = .ok (.bl true) := by
    unfold d_t_is_sets
    dsimp only
    have il : (isLst (.lst (row S ks M)) || isTup (.lst (row S ks M))) = true := rfl
    rw [il, asB_ok, op_s, if_pos rfl, e0, op_s]
    unfold row
    rw [lc_map (e := fun i : Nat => setF S ks ((M : Int) - 1 - (i : Int))) (g := fun _ => .bl true) (by rw [List.length_range]; omega) (fun i hi => by
      have hi := List.mem_range.mp hi
      have sl := lev_short g hn (j := (M : Int) - 1 - (i : Int) + 1)
      have r := ((lev_ok g (j := (M : Int) - 1 - (i : Int) + 1)).1.sh (j := (M : Int) - 1 - (i : Int))).mono (lo' := 0) (by omega)
      show ((d_t_is_stretches [.lst _]).bind _) = _
      rw [stretchesS_ok (by unfold shL; rw [List.length_map]; omega) r, bind_s]), bind_s, ea, op_s, bind_s]
  unfold d_t_need_sets
  dsimp only
  rw [is, bind_s, tru_ok, op_s, if_neg (by simp)]
theorem trueat_ok (g : Cn S ks n) (hn : n < 100) (nn : ∀ c, 0 ≤ c → 0 ≤ S c) (fl : ∀ c, 0 < c → S (c - 1) - 1 ≤ S c) {M : Nat} (hM : M ≤ 400) : d_t_true_at [.lst (row S ks M)] = .ok (.lst (lvs S ks M)) := by
  obtain ⟨es, e, _, _⟩ := gone_ok g hn nn fl hM
  have ns := needsets_ok g hn hM
  have e1 : ∀ a b : D, ixD (.tup [a, b]) (.int 0) = some a := fun _ _ => rfl
  have e2 : ∀ l : List D, revT (.lst l) = some l.reverse := fun _ => rfl
  rw [← row_rev] at e
  unfold d_t_true_at
  dsimp only
  rw [ns, bind_s, e, bind_s, e1, op_s, e2, op_s, lvs_rev]
theorem settable_ok (g : Cn S ks n) (hn : n < 100) (nn : ∀ c, 0 ≤ c → 0 ≤ S c) (fl : ∀ c, 0 < c → S (c - 1) - 1 ≤ S c) {M : Nat} (hM : M ≤ 400) (top : ∀ c, 0 ≤ c → S c ≤ M) : d_t_set_table [.lst (row S ks M)] = .ok (.lst ((stp S (0 :: ks)).map eP)) := by
  obtain ⟨es, e, X, sm⟩ := gone_ok g hn nn fl hM
  have ns := needsets_ok g hn hM
  have e1 : ∀ a b : D, ixD (.tup [a, b]) (.int 1) = some b := fun _ _ => rfl
  obtain ⟨js, ej, pj, mj, lj⟩ := steps_ok (S := S) X (by decide) fun c c0 => by
    rw [sm c c0]
    unfold cap
    rw [if_pos (top c c0)]
  have := Cn.uniq g (⟨pj, mj, lj⟩ : Cn S js 60000)
  subst this
  rw [← row_rev] at e
  unfold d_t_set_table
  dsimp only
  rw [ns, bind_s, e, bind_s, e1, op_s, ej, bind_s]
theorem moved_ok {L : List Say} {j : Int} (hl : L.length < 100000) : d_l_moved [.lst (L.map eS), .int j] = .ok (.lst ((shL j L).map eS)) := by
  have e0 : asL (.lst (L.map eS)) = some (L.map eS) := rfl
  unfold d_l_moved
  dsimp only
  rw [e0, op_s, lc_map (e := eS) (g := fun s => eS (s.1 + j, s.2.map (· + j))) (by omega) (fun s _ => by
    obtain ⟨a, o⟩ := s
    have u : un2 (eS (a, o)) = some (.int a, eO o) := rfl
    rw [u, op_s, addI, op_s]
    cases o with
    | none =>
      have nn : isND (eO none) .non = some true := rfl
      rw [nn, op_s, if_pos rfl, bind_s]; rfl
    | some b =>
      have nn : isND (eO (some b)) .non = some false := rfl
      have e0 : eO (some b) = .int b := rfl
      rw [nn, op_s, if_neg (by simp), e0, addI, op_s, bind_s]; rfl), bind_s]
  unfold shL
  rw [List.map_map]; rfl
end

/-! ### flat things -/
theorem fl_eS {s : Say} : flD (eS s) = true := by
  obtain ⟨a, o⟩ := s
  cases o <;> rfl
theorem fl_all : ∀ {ds : List D}, (∀ d, d ∈ ds → flD d = true) → flDs ds = true
  | [], _ => rfl
  | d :: ds, h => by
    show (flD d && flDs ds) = true
    rw [h d List.mem_cons_self, fl_all fun x hx => h x (List.mem_cons_of_mem _ hx)]; rfl
theorem fl_row {xs : List Say} : flDs (xs.map eS) = true := fl_all fun d hd => by
  obtain ⟨s, _, rfl⟩ := List.mem_map.mp hd; exact fl_eS
theorem chk_ok {ds : List (Bool × D)} (h : ∀ z, z ∈ ds → flZ z = true) : chk ds = some () := if_pos (List.all_eq_true.mpr h)
theorem chkL_ok {ds : List D} (h : ∀ d, d ∈ ds → ∃ l, d = .lst l ∧ flDs l = true ∧ l.length < 1000) (hl : ds.length < 9000) : chkL (.lst ds) = some () := if_pos ⟨List.all_eq_true.mpr fun d hd => by
  obtain ⟨l, rfl, h1, h2⟩ := h d hd
  show (flDs l && decide (l.length < 1000)) = true
  rw [h1, decide_eq_true h2]; rfl, hl⟩

/-! ### greater texts, by what they hold -/
def Bk (n w : Nat) (d : D) : Prop := noS d = true ∧ (toP d).showable = true ∧ (toP d).leavesShort 62 = true ∧ (toP d).depth ≤ n ∧ (toP d).bulk ≤ w
theorem Bk.mono {n w n' w' : Nat} {d : D} (h : Bk n w d) (h1 : n ≤ n') (h2 : w ≤ w') : Bk n' w' d := ⟨h.1, h.2.1, h.2.2.1, Nat.le_trans h.2.2.2.1 h1, Nat.le_trans h.2.2.2.2 h2⟩
theorem bk_int {i : Int} (h0 : 0 ≤ i) (h : i < 2 ^ 200) : Bk 0 0 (.int i) := by
  obtain ⟨a1, a2, _, a4, _⟩ := sz_int h0 h
  refine ⟨a1, a2, ?_, a4, by simp [toP, PyData.bulk]⟩
  simp only [toP, PyData.leavesShort]
  exact decide_eq_true (Nat.le_trans (toString_length_le h0 (k := 61) (by decide) (Int.lt_trans h (by decide))) (by decide))
theorem bk_non : Bk 0 0 .non := ⟨rfl, rfl, rfl, by simp [toP, PyData.depth], by simp [toP, PyData.bulk]⟩
theorem bk_row : Bk 0 10 (.str "row") := ⟨by decide +kernel, by decide +kernel, by decide +kernel, by decide +kernel, by decide +kernel⟩
theorem bk_once : Bk 0 10 (.str "at once") := ⟨by decide +kernel, by decide +kernel, by decide +kernel, by decide +kernel, by decide +kernel⟩
theorem bk_all {n w : Nat} : ∀ {ds : List D}, (∀ x, x ∈ ds → Bk n w x) → noSs ds = true ∧ PyData.showableAll (toPs ds) = true ∧ PyData.leavesShortAll 62 (toPs ds) = true ∧ PyData.depthAll (toPs ds) ≤ n ∧ PyData.bulkAll (toPs ds) ≤ (w + 1) * ds.length
  | [], _ => ⟨rfl, rfl, rfl, Nat.zero_le _, Nat.zero_le _⟩
  | d :: ds, h => by
    obtain ⟨a1, a2, a3, a4, a5⟩ := h d List.mem_cons_self
    obtain ⟨b1, b2, b3, b4, b5⟩ := bk_all (ds := ds) fun x hx => h x (List.mem_cons_of_mem _ hx)
    refine ⟨by simp [noSs, a1, b1], by simp [toPs, PyData.showableAll, a2, b2], by simp [toPs, PyData.leavesShortAll, a3, b3], ?_, ?_⟩
    · simp only [toPs, PyData.depthAll]; omega
    · simp only [toPs, PyData.bulkAll, List.length_cons, Nat.mul_add]; omega
theorem bk_lst {n w : Nat} {ds : List D} (h : ∀ x, x ∈ ds → Bk n w x) : Bk (n + 1) ((w + 1) * ds.length) (.lst ds) := by
  obtain ⟨b1, b2, b3, b4, b5⟩ := bk_all h
  refine ⟨by simpa [noS] using b1, by simpa [toP, PyData.showable] using b2, by simpa [toP, PyData.leavesShort] using b3, ?_, by simpa [toP, PyData.bulk] using b5⟩
  simp only [toP, PyData.depth]; omega
theorem bk_tup {n w : Nat} {ds : List D} (h : ∀ x, x ∈ ds → Bk n w x) : Bk (n + 1) ((w + 1) * ds.length) (.tup ds) := by
  obtain ⟨b1, b2, b3, b4, b5⟩ := bk_all h
  refine ⟨by simpa [noS] using b1, by simpa [toP, PyData.showable] using b2, by simpa [toP, PyData.leavesShort] using b3, ?_, by simpa [toP, PyData.bulk] using b5⟩
  simp only [toP, PyData.depth]; omega
theorem bk_ok {d : D} (h : Bk 60 200000 d) : ∃ v, rprD [d] = some (.str v) := by
  obtain ⟨a1, a2, a3, a4, a5⟩ := h
  have := PyData.shown_le_bulk 62 (by decide) (toP d) a3
  have e : sizeLine = 16777216 := by decide
  exact ⟨_, if_pos ⟨a1, a2, a4, by omega⟩⟩
theorem lvN_bd {ps : List (Int × Int)} {j B : Int} (h : ∀ p, p ∈ ps → p.1 ≤ B) : ∀ {i : Nat} {s : Say}, s ∈ lvN ps j i → s.1 ≤ B ∧ ∀ b, s.2 = some b → b ≤ B
  | 0, s, hs => nomatch hs
  | i + 1, s, hs => by
    cases e : ps[i]? with
    | none =>
      rw [lvN, e] at hs
      exact lvN_bd h hs
    | some p =>
      rw [lvN_at e] at hs
      have hp := h p (List.mem_of_getElem? e)
      have ho : ∀ b, nxt ps i = some b → b ≤ B := fun b eb => by
        unfold nxt at eb
        obtain ⟨q, eq, z⟩ := Option.map_eq_some_iff.mp eb
        have := h q (List.mem_of_getElem? eq)
        omega
      have ih : ∀ x, x ∈ lvN ps j i → x.1 ≤ B ∧ ∀ b, x.2 = some b → b ≤ B := fun x hx => lvN_bd h hx
      generalize lvN ps j i = R at hs ih
      generalize nxt ps i = o at hs ho
      by_cases hm : j ≤ p.2
      · cases R with
        | nil =>
          rw [lvS_nil hm] at hs
          rw [List.mem_singleton.mp hs]
          exact ⟨hp, ho⟩
        | cons u r =>
          rw [lvS_cons hm] at hs
          split at hs
          · rcases List.mem_cons.mp hs with rfl | hs
            · exact ⟨(ih u List.mem_cons_self).1, ho⟩
            · exact ih s (List.mem_cons_of_mem _ hs)
          · rcases List.mem_cons.mp hs with rfl | hs
            · exact ⟨hp, ho⟩
            · exact ih s hs
      · rw [lvS_no hm] at hs
        exact ih s hs
section
variable {S : Int → Int} {ks : List Int} {n : Nat}
theorem bk_set (g : Cn S ks n) (hn : n < 100) (hb : ∀ k, k ∈ 0 :: ks → k ≤ 2 ^ 110) {j : Int} (j0 : 0 ≤ j) (j1 : j ≤ 400) : Bk 2 150 (setF S ks j) := by
  have b1 : (2 : Int) ^ 110 + 400 < 2 ^ 200 := by decide
  have sl := lev_short g hn (j := j + 1)
  have r := (lev_ok g (j := j + 1)).1
  have bd : ∀ s, s ∈ lev (stp S (0 :: ks)) (j + 1) → s.1 ≤ 2 ^ 110 ∧ ∀ b, s.2 = some b → b ≤ 2 ^ 110 := fun s hs => lvN_bd (fun p hp => by
    unfold stp at hp
    obtain ⟨k, hk, rfl⟩ := List.mem_map.mp hp
    exact hb k hk) (List.mem_reverse.mp hs)
  have one : ∀ x, x ∈ (shL j (lev (stp S (0 :: ks)) (j + 1))).map eS → Bk 1 2 x := fun x hx => by
    unfold shL at hx
    rw [List.map_map] at hx
    obtain ⟨s, hs, rfl⟩ := List.mem_map.mp hx
    obtain ⟨o1, o2⟩ := r.ok s hs
    obtain ⟨d1, d2⟩ := bd s hs
    obtain ⟨a, o⟩ := s
    have o1 : 0 ≤ a := o1
    have d1 : a ≤ 2 ^ 110 := d1
    show Bk 1 2 (.tup [.int (a + j), eO (o.map (· + j))])
    refine (bk_tup (n := 0) (w := 0) (mem2 (bk_int (by omega) (by omega)) ?_)).mono (Nat.le_refl _) (by simp)
    cases o with
    | none => exact bk_non
    | some b =>
      have := o2 b rfl
      have := d2 b rfl
      have : a ≤ b := o2 b rfl
      show Bk 0 0 (.int (b + j))
      exact bk_int (by omega) (by omega)
  refine (bk_lst one).mono (Nat.le_refl _) ?_
  unfold shL
  rw [List.length_map, List.length_map]
  omega
theorem rp_row (g : Cn S ks n) (hn : n < 100) (hb : ∀ k, k ∈ 0 :: ks → k ≤ 2 ^ 110) {M : Nat} (hM : M ≤ 300) : ∃ v, rprD [.tup [.str "row", .lst (row S ks M)]] = some (.str v) := by
  refine bk_ok ?_
  have one : ∀ x, x ∈ row S ks M → Bk 2 150 x := fun x hx => by
    unfold row at hx
    obtain ⟨i, hi, rfl⟩ := List.mem_map.mp hx
    have := List.mem_range.mp hi
    exact bk_set g hn hb (by omega) (by omega)
  have two := bk_lst one
  have l : (row S ks M).length = M := by unfold row; simp
  rw [l] at two
  exact (bk_tup (n := 3) (w := 45300) (mem2 (bk_row.mono (by omega) (by omega)) (two.mono (by omega) (by omega)))).mono (by omega) (by simp)
theorem rp_tbl (g : Cn S ks n) (hn : n < 100) (nn : ∀ c, 0 ≤ c → 0 ≤ S c) (hb : ∀ k, k ∈ 0 :: ks → k ≤ 2 ^ 110 ∧ S k ≤ 300) : ∃ v, rprD [.lst ((stp S (0 :: ks)).map eP)] = some (.str v) := by
  have b1 : (2 : Int) ^ 110 < 2 ^ 200 := by decide
  refine bk_ok ((bk_lst (n := 1) (w := 2) fun x hx => ?_).mono (by omega) ?_)
  · unfold stp at hx
    rw [List.map_map] at hx
    obtain ⟨k, hk, rfl⟩ := List.mem_map.mp hx
    have k0 := g.pos k hk
    have := nn k k0
    have := hb k hk
    exact (bk_tup (n := 0) (w := 0) (mem2 (bk_int k0 (by omega)) (bk_int (nn k k0) (by show S k < _; omega)))).mono (Nat.le_refl _) (by simp)
  · have := g.len
    rw [List.length_map, stp_len, List.length_cons]; omega
theorem chkl_ok (g : Cn S ks n) (hn : n < 100) {M : Nat} (hM : M ≤ 300) : chkL (.lst (row S ks M)) = some () := by
  have l : (row S ks M).length = M := by unfold row; simp
  refine chkL_ok (fun d hd => ?_) (by omega)
  unfold row at hd
  obtain ⟨i, hi, rfl⟩ := List.mem_map.mp hd
  have sl := lev_short g hn (j := (M : Int) - 1 - (i : Int) + 1)
  exact ⟨_, rfl, fl_row, by rw [List.length_map]; unfold shL; rw [List.length_map]; omega⟩
end

/-! ### the program's answers -/
theorem maxI_in {ns : List Int} {n : Int} : ∃ r : Int, max1D [.lst ((n :: ns).map D.int)] = some (.int r) ∧ (∀ x, x ∈ n :: ns → x ≤ r) ∧ r ∈ n :: ns := by
  refine ⟨ns.foldl max n, ?_, (foldl_max ns n).2, (foldl_max ns n).1⟩
  show (intsD ((n :: ns).map D.int)).bind _ = _
  rw [ints_ok]; rfl
section
variable {S : Int → Int} {ks : List Int} {n : Nat}
theorem vals_eq : (stp S (0 :: ks)).map (fun p => D.int p.2) = (S 0 :: ks.map S).map D.int := by
  unfold stp
  rw [List.map_map, List.map_cons, List.map_cons, List.map_map]; rfl
theorem manyby52 (g : Cn S ks n) (hn : n < 800) {c : Int} (hc : 0 ≤ c) : d_t_many_by [.lst ((stp S (0 :: ks)).map eP), .int c] = .ok (.int (S c)) := by
  obtain ⟨t, e⟩ := g.last hc
  have lk := g.len
  have e0 : asL (.lst ((stp S (0 :: ks)).map eP)) = some ((stp S (0 :: ks)).map eP) := rfl
  obtain ⟨l, el⟩ := List.getLast?_eq_some_iff.mp e
  have hl : (stp S (0 :: ks)).length < 900000 := by rw [stp_len, List.length_cons]; omega
  generalize stp S (0 :: ks) = ps at e0 el hl ⊢
  unfold d_t_many_by
  dsimp only
  rw [e0, op_s, lc_some (e := eP) (g := fun p => .int p.2) (p := fun p => decide (p.1 ≤ c)) (by omega) (fun p _ => by
    have eu : un2 (eP p) = some (.int p.1, .int p.2) := rfl
    rw [eu, op_s, leI, op_s]
    by_cases q : p.1 ≤ c
    · rw [if_pos (decide_eq_true q), if_pos (decide_eq_true q)]
    · rw [if_neg (by simpa using q), if_neg (by simpa using q)]), bind_s, negI, op_s]
  show op (ixD (.lst ((upon ps c).map fun p => D.int p.2)) (.int (-1))) _ = _
  rw [el, List.map_append]
  show op (ixD (.lst (l.map (fun p : Int × Int => D.int p.2) ++ [D.int (S c)])) (.int (-1))) _ = _
  rw [ix_last, op_s]
theorem lmany52 (g : Cn S ks n) (hn : n < 800) {c : Int} (hc : 0 ≤ c) : d_l_many [.lst ((stp S (0 :: ks)).map eP), .int c] = .ok (.int (S c)) := by
  obtain ⟨t, e⟩ := g.last hc
  have lk := g.len
  have e0 : asL (.lst ((stp S (0 :: ks)).map eP)) = some ((stp S (0 :: ks)).map eP) := rfl
  obtain ⟨l, el⟩ := List.getLast?_eq_some_iff.mp e
  have hl : (stp S (0 :: ks)).length < 900000 := by rw [stp_len, List.length_cons]; omega
  generalize stp S (0 :: ks) = ps at e0 el hl ⊢
  unfold d_l_many
  dsimp only
  rw [e0, op_s, lc_some (e := eP) (g := fun p => .int p.2) (p := fun p => decide (p.1 ≤ c)) (by omega) (fun p _ => by
    have eu : un2 (eP p) = some (.int p.1, .int p.2) := rfl
    rw [eu, op_s, leI, op_s]
    by_cases q : p.1 ≤ c
    · rw [if_pos (decide_eq_true q), if_pos (decide_eq_true q)]
    · rw [if_neg (by simpa using q), if_neg (by simpa using q)]), bind_s, negI, op_s]
  show op (ixD (.lst ((upon ps c).map fun p => D.int p.2)) (.int (-1))) _ = _
  rw [el, List.map_append]
  show op (ixD (.lst (l.map (fun p : Int × Int => D.int p.2) ++ [D.int (S c)])) (.int (-1))) _ = _
  rw [ix_last, op_s]
theorem vals_lc (hl : (stp S (0 :: ks)).length < 900000) : lcF ((stp S (0 :: ks)).map eP) (() : Unit) [] (fun d19 s18 => op (un2 d19) fun p20 => .ok (some p20.2, ())) = .ok ((S 0 :: ks.map S).map D.int, ()) := by
  rw [lc_map (e := eP) (g := fun p => .int p.2) (by omega) (fun p _ => rfl), vals_eq]
theorem pick_lc (hl : (stp S (0 :: ks)).length < 900000) {M : Int} : lcF ((stp S (0 :: ks)).map eP) (() : Unit) [] (fun d10 s9 => op (un2 d10) fun p11 => op (eqD p11.2 (D.int M)) fun b12 => if b12 = true then (.ok (some p11.1, ())) else (.ok (none, ()))) = .ok (((stp S (0 :: ks)).filter fun p => decide (p.2 = M)).map (fun p => D.int p.1), ()) := by
  rw [lc_some (e := eP) (g := fun p => .int p.1) (p := fun p => decide (p.2 = M)) (by omega) (fun p _ => by
    have eu : un2 (eP p) = some (.int p.1, .int p.2) := rfl
    rw [eu, op_s, eqI, op_s]
    by_cases q : p.2 = M
    · rw [if_pos (decide_eq_true q), if_pos (decide_eq_true q)]
    · rw [if_neg (by simpa using q), if_neg (by simpa using q)])]
theorem down_ok {M : Nat} (hM : M ≤ 1000) : rngdD [.int (M : Int), .int 0, .int (-1)] = some ((List.range M).map fun i : Nat => D.int ((M : Int) - (i : Int))) := by
  have hc : (-1 : Int) = -1 ∧ (-(2 ^ 62) ≤ (M : Int) ∧ (M : Int) < 2 ^ 62) ∧ -(2 ^ 62) ≤ (0 : Int) ∧ (0 : Int) < 2 ^ 62 := ⟨rfl, by omega, by decide⟩
  unfold rngdD
  dsimp only
  rw [if_pos hc, Int.sub_zero, Int.toNat_natCast]; rfl
theorem fewest_ok (g : Cn S ks n) (hn : n < 100) (nn : ∀ c, 0 ≤ c → 0 ≤ S c) (fl : ∀ c, 0 < c → S (c - 1) - 1 ≤ S c) {M : Nat} (hM : M ≤ 300) (mx : max1D [.lst ((S 0 :: ks.map S).map D.int)] = some (.int (M : Int))) : d_t_fewest_sets [.lst ((stp S (0 :: ks)).map eP)] = .ok (.tup [.str "row", .lst (row S ks M)]) := by
  have lk := g.len
  have hl : (stp S (0 :: ks)).length < 800 := by rw [stp_len, List.length_cons]; omega
  obtain ⟨gd, t⟩ := (g.tb (by omega) nn).good
  have nt : d_t_need_table [.lst ((stp S (0 :: ks)).map eP)] = .ok .non := by
    unfold d_t_need_table
    dsimp only
    rw [table_is gd, bind_s, t, tru_ok, op_s, if_neg (by simp)]
  have e0 : asL (.lst ((stp S (0 :: ks)).map eP)) = some ((stp S (0 :: ks)).map eP) := rfl
  unfold d_t_fewest_sets
  dsimp only
  rw [nt, bind_s, isrows_cn g (by omega) nn fl, bind_s, tru_ok, op_s, if_neg (by simp), e0, op_s, vals_lc (by omega), bind_s, mx, op_s, gtI, op_s, if_neg (by simp; omega), negI, op_s, down_ok (by omega), op_s]
  rw [lc_map (e := fun i : Nat => D.int ((M : Int) - (i : Int))) (g := fun i : Nat => setF S ks ((M : Int) - 1 - (i : Int))) (by rw [List.length_range]; omega) (fun i _ => by
    rw [plev_ok (by omega), bind_s]
    unfold setF
    rw [show (M : Int) - (i : Int) - 1 = (M : Int) - 1 - (i : Int) by omega, show (M : Int) - 1 - (i : Int) + 1 = (M : Int) - (i : Int) by omega]), bind_s]
  rfl
theorem top_pick {M : Int} (h : M ∈ S 0 :: ks.map S) : ∃ z r, ((stp S (0 :: ks)).filter fun p => decide (p.2 = M)) = z :: r ∧ z.1 ∈ 0 :: ks ∧ S z.1 = M := by
  have : M ∈ (0 :: ks).map S := by rw [List.map_cons]; exact h
  obtain ⟨k, hk, e⟩ := List.mem_map.mp this
  have mem : (k, S k) ∈ (stp S (0 :: ks)).filter fun p => decide (p.2 = M) := List.mem_filter.mpr ⟨List.mem_map.mpr ⟨k, hk, rfl⟩, decide_eq_true e⟩
  have all : ∀ z, z ∈ (stp S (0 :: ks)).filter (fun p => decide (p.2 = M)) → z.1 ∈ 0 :: ks ∧ S z.1 = M := fun z hz => by
    obtain ⟨h1, h2⟩ := List.mem_filter.mp hz
    unfold stp at h1
    obtain ⟨k, hk, rfl⟩ := List.mem_map.mp h1
    exact ⟨hk, of_decide_eq_true h2⟩
  cases e2 : (stp S (0 :: ks)).filter fun p => decide (p.2 = M) with
  | nil => rw [e2] at mem; cases mem
  | cons z r => exact ⟨z, r, rfl, all z (by rw [e2]; exact List.mem_cons_self)⟩
theorem atonce_ok (g : Cn S ks n) (hn : n < 100) (nn : ∀ c, 0 ≤ c → 0 ≤ S c) (fl : ∀ c, 0 < c → S (c - 1) - 1 ≤ S c) {M : Int} (mx : max1D [.lst ((S 0 :: ks.map S).map D.int)] = some (.int M)) {z : Int × Int} {r : List (Int × Int)} (e : ((stp S (0 :: ks)).filter fun p => decide (p.2 = M)) = z :: r) : d_t_at_once [.lst ((stp S (0 :: ks)).map eP)] = .ok (.tup [.str "at once", .int z.1]) := by
  have lk := g.len
  have hl : (stp S (0 :: ks)).length < 800 := by rw [stp_len, List.length_cons]; omega
  have e0 : asL (.lst ((stp S (0 :: ks)).map eP)) = some ((stp S (0 :: ks)).map eP) := rfl
  unfold d_t_at_once
  dsimp only
  rw [needrows_cn g (by omega) nn fl, bind_s, e0, op_s, vals_lc (by omega), bind_s, mx, op_s, op_s, pick_lc (by omega), bind_s, e, List.map_cons, ix_0, op_s]
theorem shown_ok (g : Cn S ks n) (hn : n < 100) (nn : ∀ c, 0 ≤ c → 0 ≤ S c) (fl : ∀ c, 0 < c → S (c - 1) - 1 ≤ S c) {c : Int} (c0 : 0 ≤ c) : d_t_shown_at_once [.lst ((stp S (0 :: ks)).map eP), .tup [.str "at once", .int c]] = .ok (.int (S c)) := by
  have i0 : ixD (.tup [.str "at once", .int c]) (.int 0) = some (.str "at once") := rfl
  have i1 : ixD (.tup [.str "at once", .int c]) (.int 1) = some (.int c) := rfl
  have l2 : lenD [.tup [.str "at once", .int c]] = some (.int 2) := rfl
  have cc : cnt (.int c) = true := decide_eq_true c0
  unfold d_t_shown_at_once
  dsimp only
  rw [needrows_cn g (by omega) nn fl, bind_s, if_neg (by simp [isTup]), l2, op_s, neI, op_s, if_neg (by simp), i0, op_s, if_neg (by simp [isStr]), op_s, neS, op_s, bind_s, if_neg (by simp), i1, op_s, number_ok, bind_s, cc, tru_ok, op_s, if_pos rfl, op_s, manyby52 g (by omega) c0, bind_s, bind_s]
end

/-! ### the law -/
section
variable {S : Int → Int} {ks : List Int} {n : Nat}
theorem shp_eS1 {s : Say} : Shp 1 (eS s) := ⟨by simp only [toP, eS, PyData.canLay0]; exact (shp_all (n := 0) (mem2 shp_int shp_eO)).1, by
    have := (shp_all (n := 0) (mem2 (shp_int (i := s.1)) (shp_eO (o := s.2)))).2
    simp only [toP, eS, PyData.depth]
    omega⟩
theorem shp_lvs {M : Nat} : Shp 60 (.lst (lvs S ks M)) := (shp_lst (n := 2) fun x hx => by
  unfold lvs at hx
  obtain ⟨i, _, rfl⟩ := List.mem_map.mp hx
  exact shp_lst (n := 1) fun y hy => by
    obtain ⟨s, _, rfl⟩ := List.mem_map.mp hy
    exact shp_eS1).mono (by omega)
theorem shp_tbl : Shp 60 (.lst ((stp S (0 :: ks)).map eP)) := (shp_lst (n := 1) fun x hx => by
  obtain ⟨p, _, rfl⟩ := List.mem_map.mp hx; exact shp_eP).mono (by omega)
theorem right_k {N : Nat} {t : List D} (k0 : TinOk N t) (hN : N + 3000 < 2 ^ 60) (g : Cn S ks n) (hn : n < 100) (nn : ∀ c, 0 ≤ c → 0 ≤ S c) (fl : ∀ c, 0 < c → S (c - 1) - 1 ≤ S c) (hb : ∀ k, k ∈ 0 :: ks → k ≤ 2 ^ 110 ∧ S k ≤ 300) : Ok (d_l_right [.lst t, .lst ((stp S (0 :: ks)).map eP)]) fun a => ∃ t', a = (.bl true, t') ∧ TinOk (N + 1000) t' := by
  have lk := g.len
  have hl : (stp S (0 :: ks)).length < 800 := by rw [stp_len, List.length_cons]; omega
  have p29 : powD (.int 10) (.int 29) = some (.int (10 ^ 29)) := powI (by decide)
  have b1 : (10 : Int) ^ 29 < 2 ^ 200 := by decide
  have b2 : (300 : Int) < 2 ^ 200 := by decide
  obtain ⟨m, mx, top, hm⟩ := maxI_in (ns := ks.map S) (n := S 0)
  have hm' : ∃ k, k ∈ 0 :: ks ∧ S k = m := by
    have : m ∈ (0 :: ks).map S := by rw [List.map_cons]; exact hm
    exact List.mem_map.mp this
  have m0 : 0 ≤ m := by
    obtain ⟨k, hk, e⟩ := hm'
    rw [← e]; exact nn k (g.pos k hk)
  have m1 : m ≤ 300 := by
    obtain ⟨k, hk, e⟩ := hm'
    rw [← e]; exact (hb k hk).2
  have topS : ∀ c, 0 ≤ c → S c ≤ m := fun c c0 => by
    obtain ⟨j, f, hf, _, e, _⟩ := g.held c0
    rw [← e]
    refine top (S f) ?_
    have := List.mem_of_getElem? hf
    have : S f ∈ (0 :: ks).map S := List.mem_map.mpr ⟨f, this, rfl⟩
    rwa [List.map_cons] at this
  obtain ⟨M, rfl⟩ : ∃ M : Nat, m = (M : Int) := ⟨m.toNat, by omega⟩
  have hM : M ≤ 300 := by omega
  obtain ⟨z, r, ez, zk, zS⟩ := top_pick (S := S) (ks := ks) hm
  have z0 := g.pos z.1 zk
  obtain ⟨v1, ev1⟩ := rp_tbl g hn nn hb
  obtain ⟨v2, ev2⟩ := rp_row g hn (fun k hk => (hb k hk).1) hM
  have fw := fewest_ok g hn nn fl hM mx
  have st := settable_ok g hn nn fl (M := M) (by omega) topS
  have ta := trueat_ok g hn nn fl (M := M) (by omega)
  have ao := atonce_ok g hn nn fl mx ez
  have cl := chkl_ok g hn hM
  have e0 : asL (.lst ((stp S (0 :: ks)).map eP)) = some ((stp S (0 :: ks)).map eP) := rfl
  have ck : chk [(false, .lst ((stp S (0 :: ks)).map eP))] = some () := chk_ok fun w hw => by
    rw [List.mem_singleton.mp hw]
    exact fl_all fun d hd => by
      obtain ⟨p, _, rfl⟩ := List.mem_map.mp hd; rfl
  have rpS : ∀ c, 0 ≤ c → ∃ v, rprD [.int (S c)] = some (.str v) := fun c c0 => bk_ok ((bk_int (nn c c0) (by have := topS c c0; omega)).mono (by omega) (by omega))
  obtain ⟨v3, ev3⟩ : ∃ v, rprD [.tup [.str "at once", .int z.1]] = some (.str v) := by
    have b3 : (2 : Int) ^ 110 < 2 ^ 200 := by decide
    have := (hb z.1 zk).1
    exact bk_ok ((bk_tup (n := 0) (w := 10) (mem2 bk_once ((bk_int z0 (by omega)).mono (by omega) (by omega)))).mono (by omega) (by simp))
  have r2 : rngD [.int 2] = some [.int 0, .int 1] := rfl
  unfold d_l_right
  dsimp only
  refine Ok.op ev1 (Ok.op e0 (Ok.call (vals_lc (by omega)) (Ok.op mx (Ok.op negI (Ok.op (down_ok (by omega)) ?_)))))
  refine Ok.call (a := (lvs S ks M, ())) (lc_map (e := fun i : Nat => D.int ((M : Int) - (i : Int))) (g := fun i : Nat => levF S ks ((M : Int) - 1 - (i : Int))) (by rw [List.length_range]; omega) (fun i _ => by
    rw [llev_ok (by omega), bind_s]
    unfold levF
    rw [show (M : Int) - 1 - (i : Int) + 1 = (M : Int) - (i : Int) by omega])) ?_
  dsimp only
  refine Ok.op (rng1 m0 (by omega)) ?_
  rw [Int.toNat_natCast]
  have eu : upto 0 M = (List.range M).map fun i : Nat => D.int (i : Int) := by
    unfold upto
    exact List.map_congr_left fun i _ => by rw [Int.zero_add]
  rw [eu]
  refine Ok.call (a := (row S ks M, ())) (lc_map (e := fun i : Nat => D.int (i : Int)) (g := fun i : Nat => setF S ks ((M : Int) - 1 - (i : Int))) (by rw [List.length_range]; omega) (fun i hi => by
    have hi := List.mem_range.mp hi
    have sl := lev_short g hn (j := (M : Int) - 1 - (i : Int) + 1)
    rw [ix_at (ds := lvs S ks M) (i := i) (d := levF S ks ((M : Int) - 1 - (i : Int))) (by unfold lvs; rw [List.getElem?_map, List.getElem?_range hi]; rfl), op_s, subI, op_s, subI, op_s]
    unfold levF
    rw [moved_ok (by omega), bind_s]; rfl)) ?_
  dsimp only
  refine Ok.op r2 ?_
  have ix1 : ixD (.tup [.str "row", .lst (row S ks M)]) (.int 1) = some (.lst (row S ks M)) := rfl
  have tx1 : tupIx (.tup [.str "row", .lst (row S ks M)]) 1 = some (.lst (row S ks M)) := rfl
  rw [forF_nx (s' := ()) (by rw [ck, op_s, fw, bind_s, ev2, op_s, op_s, neS, op_s, if_neg (by simp), ix1, op_s, st, bind_s, ne_same shp_tbl, op_s, if_neg (by simp), op_s, ta, bind_s, ne_same shp_lvs, op_s, bind_s, if_neg (by simp), tx1, op_s, cl, op_s]),
    forF_nx (s' := ()) (by rw [ck, op_s, fw, bind_s, ev2, op_s, op_s, neS, op_s, if_neg (by simp), ix1, op_s, st, bind_s, ne_same shp_tbl, op_s, if_neg (by simp), op_s, ta, bind_s, ne_same shp_lvs, op_s, bind_s, if_neg (by simp), tx1, op_s, cl, op_s]), forF_no, fb_nx]
  refine Ok.op e0 (Ok.call (pick_lc (by omega)) ?_)
  dsimp only
  rw [ez, List.map_cons]
  refine Ok.op ix_0 ?_
  refine Ok.call (a := false) ?_ ?_
  · rw [ao, bind_s, ev3, op_s, op_s, neS, op_s, if_neg (by simp), shown_ok g hn nn fl z0, bind_s, zS, neI, op_s]
    simp
  rw [if_neg (by simp)]
  refine Ok.op e0 ?_
  refine Ok.fbn (P := fun s : List D => TinOk (N + 1000) s) ((Ok.forN (fun i s => TinOk (N + 4 * i) s) 200 (by simpa using k0) (by rw [List.length_map]; rw [stp_len, List.length_cons]; omega) ?_).mono ?_) ?_
  · intro d hd t1 i hi k1
    obtain ⟨p, hp, rfl⟩ := List.mem_map.mp hd
    unfold stp at hp
    obtain ⟨k, hk, rfl⟩ := List.mem_map.mp hp
    have kp := g.pos k hk
    have eu : un2 (eP (k, S k)) = some (.int k, .int (S k)) := rfl
    refine Ok.op eu (Ok.op subI (Ok.op max2I (Ok.op p29 ?_)))
    refine Ok.bnd (number_k k1 (by omega) (by decide) (by omega)) ?_
    rintro _ ⟨y, t2, rfl, y0, y1, k2⟩
    obtain ⟨c1, ec1, c10⟩ : ∃ c1 : Int, (if k - 1 > 0 then k - 1 else 0) = c1 ∧ 0 ≤ c1 := ⟨_, rfl, by split <;> omega⟩
    dsimp only
    rw [ec1]
    refine Ok.op addI (Ok.op (a := [.int c1, .int k, .int (k + y)]) rfl ?_)
    have each : ∀ c : Int, 0 ≤ c → ((d_t_shown_at_once [.lst ((stp S (0 :: ks)).map eP), (D.tup [(D.str "at once"), .int c])]).bind fun a74 =>
      op (rprD [a74]) fun t75 =>
      (d_l_many [.lst ((stp S (0 :: ks)).map eP), .int c]).bind fun a76 =>
      op (rprD [a76]) fun t77 =>
      op (neD t75 t77) fun b78 =>
      if b78 = true then (.ok (.rt ((.rt (((D.bl false), t2)))))) else (.ok (.nx ())) : Res (LFlow Unit (LFlow (List D) (D × List D)))) = .ok (.nx ()) := fun c c0 => by
      obtain ⟨v, ev⟩ := rpS c c0
      rw [shown_ok g hn nn fl c0, bind_s, ev, op_s, lmany52 g (by omega) c0, bind_s, ev, op_s, neS, op_s, if_neg (by simp)]
    rw [forF_nx (each c1 c10), forF_nx (each k kp), forF_nx (each (k + y) (by omega)), forF_no, fb_nx]
    exact Ok.ret ⟨t2, rfl, k2.mono (by omega)⟩
  · rintro _ ⟨s, rfl, h⟩
    refine ⟨s, rfl, h.mono ?_⟩
    rw [List.length_map, stp_len, List.length_cons]; omega
  · intro s h
    refine Ok.op ev1 (Ok.op eqS (Ok.ret ⟨s, rfl, h⟩))
end
theorem pure_law (ns : List Int) (hl : ns.length ≤ 63) : d_law [.scr ns] = .ok (.bl true) := by
  refine Ok.eq ?_
  have p28 : powD (.int 10) (.int 28) = some (.int (10 ^ 28)) := powI (by decide)
  unfold d_law
  dsimp only
  refine Ok.op (a := .int ns.length) rfl (Ok.op min2I (Ok.op max2I ?_))
  obtain ⟨n, en, n0, n1⟩ := cells (ns := ns) (n := 5) (by decide) (by decide)
  rw [en]
  refine Ok.op (rng1 n0 (by omega)) (Ok.fbn (P := fun _ => True) (Ok.forN (fun _ _ => True) 5 trivial (by rw [upto_len]; omega) ?_) (fun _ _ => Ok.ret rfl))
  intro d hd s i hi _
  obtain ⟨j, hj, rfl⟩ := upto_mem hd
  obtain ⟨t, et, kt⟩ := jar_ok (ns := ns) (k := j) (by omega) (by omega)
  refine Ok.call et (Ok.op (rng1 (n := 3) (by decide) (by decide)) (Ok.fbn (P := fun _ => True) ((Ok.forN (fun i t => TinOk (10000 * i) t) 3 (by simpa using kt) (by rw [upto_len]; decide) ?_).mono ?_) (fun _ _ => Ok.ret ⟨(), rfl, trivial⟩)))
  · intro d2 hd2 t0 i2 hi2 k0
    refine Ok.bnd (pour_k k0 (by omega) (by decide) (by decide)) ?_
    rintro _ ⟨x1, t1, rfl, a0, a1, k1⟩
    obtain ⟨y1, ey1, b0, b1⟩ : ∃ y : Int, ixD (.lst [.int 30, .int 30, .int 30, .int 300]) (.int x1) = some (.int y) ∧ 3 ≤ y ∧ y ≤ 300 := by
      have : x1 = 0 ∨ x1 = 1 ∨ x1 = 2 ∨ x1 = 3 := by omega
      rcases this with rfl | rfl | rfl | rfl
      · exact ⟨30, rfl, by decide, by decide⟩
      · exact ⟨30, rfl, by decide, by decide⟩
      · exact ⟨30, rfl, by decide, by decide⟩
      · exact ⟨300, rfl, by decide, by decide⟩
    refine Ok.op ey1 (Ok.bnd (pour_k k1 (by omega) (by decide) (by decide)) ?_)
    rintro _ ⟨x2, t2, rfl, c0, c1, k2⟩
    obtain ⟨m, em, m0, m1⟩ : ∃ y : Int, ixD (.lst [.int 3, .int 9, .int 30, .int y1]) (.int x2) = some (.int y) ∧ 3 ≤ y ∧ y ≤ 300 := by
      have : x2 = 0 ∨ x2 = 1 ∨ x2 = 2 ∨ x2 = 3 := by omega
      rcases this with rfl | rfl | rfl | rfl
      · exact ⟨3, rfl, by decide, by decide⟩
      · exact ⟨9, rfl, by decide, by decide⟩
      · exact ⟨30, rfl, by decide, by decide⟩
      · exact ⟨y1, rfl, b0, b1⟩
    refine Ok.op em (Ok.op p28 (Ok.bnd (pour_k k2 (by omega) (by decide) (by decide)) ?_))
    rintro _ ⟨x3, t3, rfl, d0, d1, k3⟩
    obtain ⟨w, ew, w0, w1⟩ : ∃ w : Int, ixD (.lst [.int 9, .int (10 ^ 28)]) (.int x3) = some (.int w) ∧ 0 < w ∧ w ≤ 10 ^ 28 := by
      have : x3 = 0 ∨ x3 = 1 := by omega
      rcases this with rfl | rfl
      · exact ⟨9, rfl, by decide, by decide⟩
      · exact ⟨10 ^ 28, rfl, by decide, by decide⟩
    refine Ok.op ew (Ok.bnd (table_k k3 (by omega) w0 w1 m0 m1) ?_)
    rintro _ ⟨ps, t4, rfl, G, lp, bp, k4⟩
    obtain ⟨ks, e, g, fw⟩ := tb_S G.1 G.2
    have g' : Cn (SS ps) ks 60 := ⟨g.pw, g.mem, by have := g.len; omega⟩
    generalize SS ps = S at e g' fw
    have hb : ∀ k, k ∈ 0 :: ks → k ≤ 2 ^ 110 ∧ S k ≤ 300 := fun k hk => by
      have := bp (k, S k) (by rw [e]; exact List.mem_map.mpr ⟨k, hk, rfl⟩)
      exact ⟨this.1, by have := this.2; show S k ≤ 300; omega⟩
    rw [e]
    refine Ok.bnd (right_k k4 (by omega) g' (by omega) fw.nn fw.fl hb) ?_
    rintro _ ⟨t5, rfl, k5⟩
    dsimp only
    refine Ok.op (tru_ok true) ?_
    rw [if_neg (by simp)]
    exact Ok.ret ⟨t5, rfl, k5.mono (by omega)⟩
  · rintro _ ⟨s, rfl, h⟩
    exact ⟨s, rfl, trivial⟩
theorem all_mk {l : PySem.W.OpenLaw} {w : World} {K : PySem.W.Frag} {h : Heap} {mg : Str → Option Value} {fa f1 f2 f3 f4 f5 f6 f7 f8 f9 f10 f11 f12 f13 f14 f15 f16 f17 f18 f19 f20 f21 f22 f23 f24 f25 f26 f27 f28 f29 f30 f31 f32 : Addr} (X : K.In h) (G : h.Ns mainGlobals mg) (hfa : mg "law" = some (.ref fa))
    {od1 an1 od2 an2 od3 an3 od4 an4 od5 an5 od6 an6 od7 an7 od8 an8 od9 an9 od10 an10 od11 an11 od12 an12 od13 an13 od14 an14 od15 an15 od16 an16 od17 an17 od18 an18 od19 an19 od20 an20 od21 an21 od22 an22 od23 an23 od24 an24 od25 an25 od26 an26 od27 an27 od28 an28 od29 an29 od30 an30 od31 an31 od32 an32 : Option Addr} {sl1 sl2 sl3 sl4 sl5 sl6 sl7 sl8 sl9 sl10 sl11 sl12 sl13 sl14 sl15 sl16 sl17 sl18 sl19 sl20 sl21 sl22 sl23 sl24 sl25 sl26 sl27 sl28 sl29 sl30 sl31 sl32 : Array (Option Value)} {oc1 dc1 pm1 cd1 ct1 kV1 oc2 dc2 pm2 cd2 ct2 kV2 oc3 dc3 pm3 cd3 ct3 kV3 oc4 dc4 pm4 cd4 ct4 kV4 oc5 dc5 pm5 cd5 ct5 kV5 oc6 dc6 pm6 cd6 ct6 kV6 oc7 dc7 pm7 cd7 ct7 kV7 oc8 dc8 pm8 cd8 ct8 kV8 oc9 dc9 pm9 cd9 ct9 kV9 oc10 dc10 pm10 cd10 ct10 kV10 oc11 dc11 pm11 cd11 ct11 kV11 oc12 dc12 pm12 cd12 ct12 kV12 oc13 dc13 pm13 cd13 ct13 kV13 oc14 dc14 pm14 cd14 ct14 kV14 oc15 dc15 pm15 cd15 ct15 kV15 oc16 dc16 pm16 cd16 ct16 kV16 oc17 dc17 pm17 cd17 ct17 kV17 oc18 dc18 pm18 cd18 ct18 kV18 oc19 dc19 pm19 cd19 ct19 kV19 oc20 dc20 pm20 cd20 ct20 kV20 oc21 dc21 pm21 cd21 ct21 kV21 oc22 dc22 pm22 cd22 ct22 kV22 oc23 dc23 pm23 cd23 ct23 kV23 oc24 dc24 pm24 cd24 ct24 kV24 oc25 dc25 pm25 cd25 ct25 kV25 oc26 dc26 pm26 cd26 ct26 kV26 oc27 dc27 pm27 cd27 ct27 kV27 oc28 dc28 pm28 cd28 ct28 kV28 oc29 dc29 pm29 cd29 ct29 kV29 oc30 dc30 pm30 cd30 ct30 kV30 oc31 dc31 pm31 cd31 ct31 kV31 oc32 dc32 pm32 cd32 ct32 kV32 : Value}
    (a1 : PySem.W.nsIn K mainGlobals "_law_jar" = some (some (.ref f1))) (l1 : K.lookup f1 = some ⟨oc1, od1, .func (PySem.W.fnOf "_law_jar" "_law_jar" (defArgs (topS 35)) (defBody (topS 35)) (defScope (topS 35)) .none kV1 dc1 pm1 an1 cd1 ct1), sl1⟩) (c1 : PySem.W.codeIn K cd1 "_law_jar" = true) (k1 : PySem.W.keepIn K (.ref f1) = true)
    (a2 : PySem.W.nsIn K mainGlobals "_law_pour" = some (some (.ref f2))) (l2 : K.lookup f2 = some ⟨oc2, od2, .func (PySem.W.fnOf "_law_pour" "_law_pour" (defArgs (topS 36)) (defBody (topS 36)) (defScope (topS 36)) .none kV2 dc2 pm2 an2 cd2 ct2), sl2⟩) (c2 : PySem.W.codeIn K cd2 "_law_pour" = true) (k2 : PySem.W.keepIn K (.ref f2) = true)
    (a3 : PySem.W.nsIn K mainGlobals "_law_number" = some (some (.ref f3))) (l3 : K.lookup f3 = some ⟨oc3, od3, .func (PySem.W.fnOf "_law_number" "_law_number" (defArgs (topS 37)) (defBody (topS 37)) (defScope (topS 37)) .none kV3 dc3 pm3 an3 cd3 ct3), sl3⟩) (c3 : PySem.W.codeIn K cd3 "_law_number" = true) (k3 : PySem.W.keepIn K (.ref f3) = true)
    (a4 : PySem.W.nsIn K mainGlobals "_law_table" = some (some (.ref f4))) (l4 : K.lookup f4 = some ⟨oc4, od4, .func (PySem.W.fnOf "_law_table" "_law_table" (defArgs (topS 38)) (defBody (topS 38)) (defScope (topS 38)) .none kV4 dc4 pm4 an4 cd4 ct4), sl4⟩) (c4 : PySem.W.codeIn K cd4 "_law_table" = true) (k4 : PySem.W.keepIn K (.ref f4) = true)
    (a5 : PySem.W.nsIn K mainGlobals "is_number" = some (some (.ref f5))) (l5 : K.lookup f5 = some ⟨oc5, od5, .func (PySem.W.fnOf "is_number" "is_number" (defArgs (topS 6)) (defBody (topS 6)) (defScope (topS 6)) .none kV5 dc5 pm5 an5 cd5 ct5), sl5⟩) (c5 : PySem.W.codeIn K cd5 "is_number" = true) (k5 : PySem.W.keepIn K (.ref f5) = true)
    (a6 : PySem.W.nsIn K mainGlobals "is_stretch" = some (some (.ref f6))) (l6 : K.lookup f6 = some ⟨oc6, od6, .func (PySem.W.fnOf "is_stretch" "is_stretch" (defArgs (topS 13)) (defBody (topS 13)) (defScope (topS 13)) .none kV6 dc6 pm6 an6 cd6 ct6), sl6⟩) (c6 : PySem.W.codeIn K cd6 "is_stretch" = true) (k6 : PySem.W.keepIn K (.ref f6) = true)
    (a7 : PySem.W.nsIn K mainGlobals "is_stretches" = some (some (.ref f7))) (l7 : K.lookup f7 = some ⟨oc7, od7, .func (PySem.W.fnOf "is_stretches" "is_stretches" (defArgs (topS 14)) (defBody (topS 14)) (defScope (topS 14)) .none kV7 dc7 pm7 an7 cd7 ct7), sl7⟩) (c7 : PySem.W.codeIn K cd7 "is_stretches" = true) (k7 : PySem.W.keepIn K (.ref f7) = true)
    (a8 : PySem.W.nsIn K mainGlobals "is_sets" = some (some (.ref f8))) (l8 : K.lookup f8 = some ⟨oc8, od8, .func (PySem.W.fnOf "is_sets" "is_sets" (defArgs (topS 23)) (defBody (topS 23)) (defScope (topS 23)) .none kV8 dc8 pm8 an8 cd8 ct8), sl8⟩) (c8 : PySem.W.codeIn K cd8 "is_sets" = true) (k8 : PySem.W.keepIn K (.ref f8) = true)
    (a9 : PySem.W.nsIn K mainGlobals "need_sets" = some (some (.ref f9))) (l9 : K.lookup f9 = some ⟨oc9, od9, .func (PySem.W.fnOf "need_sets" "need_sets" (defArgs (topS 24)) (defBody (topS 24)) (defScope (topS 24)) .none kV9 dc9 pm9 an9 cd9 ct9), sl9⟩) (c9 : PySem.W.codeIn K cd9 "need_sets" = true) (k9 : PySem.W.keepIn K (.ref f9) = true)
    (a10 : PySem.W.nsIn K mainGlobals "put" = some (some (.ref f10))) (l10 : K.lookup f10 = some ⟨oc10, od10, .func (PySem.W.fnOf "put" "put" (defArgs (topS 18)) (defBody (topS 18)) (defScope (topS 18)) .none kV10 dc10 pm10 an10 cd10 ct10), sl10⟩) (c10 : PySem.W.codeIn K cd10 "put" = true) (k10 : PySem.W.keepIn K (.ref f10) = true)
    (a11 : PySem.W.nsIn K mainGlobals "between_books" = some (some (.ref f11))) (l11 : K.lookup f11 = some ⟨oc11, od11, .func (PySem.W.fnOf "between_books" "between_books" (defArgs (topS 19)) (defBody (topS 19)) (defScope (topS 19)) .none kV11 dc11 pm11 an11 cd11 ct11), sl11⟩) (c11 : PySem.W.codeIn K cd11 "between_books" = true) (k11 : PySem.W.keepIn K (.ref f11) = true)
    (a12 : PySem.W.nsIn K mainGlobals "numbers_at" = some (some (.ref f12))) (l12 : K.lookup f12 = some ⟨oc12, od12, .func (PySem.W.fnOf "numbers_at" "numbers_at" (defArgs (topS 25)) (defBody (topS 25)) (defScope (topS 25)) .none kV12 dc12 pm12 an12 cd12 ct12), sl12⟩) (c12 : PySem.W.codeIn K cd12 "numbers_at" = true) (k12 : PySem.W.keepIn K (.ref f12) = true)
    (a13 : PySem.W.nsIn K mainGlobals "companies_in" = some (some (.ref f13))) (l13 : K.lookup f13 = some ⟨oc13, od13, .func (PySem.W.fnOf "companies_in" "companies_in" (defArgs (topS 26)) (defBody (topS 26)) (defScope (topS 26)) .none kV13 dc13 pm13 an13 cd13 ct13), sl13⟩) (c13 : PySem.W.codeIn K cd13 "companies_in" = true) (k13 : PySem.W.keepIn K (.ref f13) = true)
    (a14 : PySem.W.nsIn K mainGlobals "gone_through" = some (some (.ref f14))) (l14 : K.lookup f14 = some ⟨oc14, od14, .func (PySem.W.fnOf "gone_through" "gone_through" (defArgs (topS 27)) (defBody (topS 27)) (defScope (topS 27)) .none kV14 dc14 pm14 an14 cd14 ct14), sl14⟩) (c14 : PySem.W.codeIn K cd14 "gone_through" = true) (k14 : PySem.W.keepIn K (.ref f14) = true)
    (a15 : PySem.W.nsIn K mainGlobals "true_at" = some (some (.ref f15))) (l15 : K.lookup f15 = some ⟨oc15, od15, .func (PySem.W.fnOf "true_at" "true_at" (defArgs (topS 28)) (defBody (topS 28)) (defScope (topS 28)) .none kV15 dc15 pm15 an15 cd15 ct15), sl15⟩) (c15 : PySem.W.codeIn K cd15 "true_at" = true) (k15 : PySem.W.keepIn K (.ref f15) = true)
    (a16 : PySem.W.nsIn K mainGlobals "steps_by" = some (some (.ref f16))) (l16 : K.lookup f16 = some ⟨oc16, od16, .func (PySem.W.fnOf "steps_by" "steps_by" (defArgs (topS 15)) (defBody (topS 15)) (defScope (topS 15)) .none kV16 dc16 pm16 an16 cd16 ct16), sl16⟩) (c16 : PySem.W.codeIn K cd16 "steps_by" = true) (k16 : PySem.W.keepIn K (.ref f16) = true)
    (a17 : PySem.W.nsIn K mainGlobals "set_table" = some (some (.ref f17))) (l17 : K.lookup f17 = some ⟨oc17, od17, .func (PySem.W.fnOf "set_table" "set_table" (defArgs (topS 29)) (defBody (topS 29)) (defScope (topS 29)) .none kV17 dc17 pm17 an17 cd17 ct17), sl17⟩) (c17 : PySem.W.codeIn K cd17 "set_table" = true) (k17 : PySem.W.keepIn K (.ref f17) = true)
    (a18 : PySem.W.nsIn K mainGlobals "is_step" = some (some (.ref f18))) (l18 : K.lookup f18 = some ⟨oc18, od18, .func (PySem.W.fnOf "is_step" "is_step" (defArgs (topS 8)) (defBody (topS 8)) (defScope (topS 8)) .none kV18 dc18 pm18 an18 cd18 ct18), sl18⟩) (c18 : PySem.W.codeIn K cd18 "is_step" = true) (k18 : PySem.W.keepIn K (.ref f18) = true)
    (a19 : PySem.W.nsIn K mainGlobals "is_table" = some (some (.ref f19))) (l19 : K.lookup f19 = some ⟨oc19, od19, .func (PySem.W.fnOf "is_table" "is_table" (defArgs (topS 9)) (defBody (topS 9)) (defScope (topS 9)) .none kV19 dc19 pm19 an19 cd19 ct19), sl19⟩) (c19 : PySem.W.codeIn K cd19 "is_table" = true) (k19 : PySem.W.keepIn K (.ref f19) = true)
    (a20 : PySem.W.nsIn K mainGlobals "is_rows" = some (some (.ref f20))) (l20 : K.lookup f20 = some ⟨oc20, od20, .func (PySem.W.fnOf "is_rows" "is_rows" (defArgs (topS 10)) (defBody (topS 10)) (defScope (topS 10)) .none kV20 dc20 pm20 an20 cd20 ct20), sl20⟩) (c20 : PySem.W.codeIn K cd20 "is_rows" = true) (k20 : PySem.W.keepIn K (.ref f20) = true)
    (a21 : PySem.W.nsIn K mainGlobals "need_table" = some (some (.ref f21))) (l21 : K.lookup f21 = some ⟨oc21, od21, .func (PySem.W.fnOf "need_table" "need_table" (defArgs (topS 11)) (defBody (topS 11)) (defScope (topS 11)) .none kV21 dc21 pm21 an21 cd21 ct21), sl21⟩) (c21 : PySem.W.codeIn K cd21 "need_table" = true) (k21 : PySem.W.keepIn K (.ref f21) = true)
    (a22 : PySem.W.nsIn K mainGlobals "level" = some (some (.ref f22))) (l22 : K.lookup f22 = some ⟨oc22, od22, .func (PySem.W.fnOf "level" "level" (defArgs (topS 30)) (defBody (topS 30)) (defScope (topS 30)) .none kV22 dc22 pm22 an22 cd22 ct22), sl22⟩) (c22 : PySem.W.codeIn K cd22 "level" = true) (k22 : PySem.W.keepIn K (.ref f22) = true)
    (a23 : PySem.W.nsIn K mainGlobals "fewest_sets" = some (some (.ref f23))) (l23 : K.lookup f23 = some ⟨oc23, od23, .func (PySem.W.fnOf "fewest_sets" "fewest_sets" (defArgs (topS 31)) (defBody (topS 31)) (defScope (topS 31)) .none kV23 dc23 pm23 an23 cd23 ct23), sl23⟩) (c23 : PySem.W.codeIn K cd23 "fewest_sets" = true) (k23 : PySem.W.keepIn K (.ref f23) = true)
    (a24 : PySem.W.nsIn K mainGlobals "need_rows" = some (some (.ref f24))) (l24 : K.lookup f24 = some ⟨oc24, od24, .func (PySem.W.fnOf "need_rows" "need_rows" (defArgs (topS 12)) (defBody (topS 12)) (defScope (topS 12)) .none kV24 dc24 pm24 an24 cd24 ct24), sl24⟩) (c24 : PySem.W.codeIn K cd24 "need_rows" = true) (k24 : PySem.W.keepIn K (.ref f24) = true)
    (a25 : PySem.W.nsIn K mainGlobals "many_by" = some (some (.ref f25))) (l25 : K.lookup f25 = some ⟨oc25, od25, .func (PySem.W.fnOf "many_by" "many_by" (defArgs (topS 16)) (defBody (topS 16)) (defScope (topS 16)) .none kV25 dc25 pm25 an25 cd25 ct25), sl25⟩) (c25 : PySem.W.codeIn K cd25 "many_by" = true) (k25 : PySem.W.keepIn K (.ref f25) = true)
    (a26 : PySem.W.nsIn K mainGlobals "shown_at_once" = some (some (.ref f26))) (l26 : K.lookup f26 = some ⟨oc26, od26, .func (PySem.W.fnOf "shown_at_once" "shown_at_once" (defArgs (topS 32)) (defBody (topS 32)) (defScope (topS 32)) .none kV26 dc26 pm26 an26 cd26 ct26), sl26⟩) (c26 : PySem.W.codeIn K cd26 "shown_at_once" = true) (k26 : PySem.W.keepIn K (.ref f26) = true)
    (a27 : PySem.W.nsIn K mainGlobals "at_once" = some (some (.ref f27))) (l27 : K.lookup f27 = some ⟨oc27, od27, .func (PySem.W.fnOf "at_once" "at_once" (defArgs (topS 33)) (defBody (topS 33)) (defScope (topS 33)) .none kV27 dc27 pm27 an27 cd27 ct27), sl27⟩) (c27 : PySem.W.codeIn K cd27 "at_once" = true) (k27 : PySem.W.keepIn K (.ref f27) = true)
    (a28 : PySem.W.nsIn K mainGlobals "_law_level" = some (some (.ref f28))) (l28 : K.lookup f28 = some ⟨oc28, od28, .func (PySem.W.fnOf "_law_level" "_law_level" (defArgs (topS 39)) (defBody (topS 39)) (defScope (topS 39)) .none kV28 dc28 pm28 an28 cd28 ct28), sl28⟩) (c28 : PySem.W.codeIn K cd28 "_law_level" = true) (k28 : PySem.W.keepIn K (.ref f28) = true)
    (a29 : PySem.W.nsIn K mainGlobals "_law_moved" = some (some (.ref f29))) (l29 : K.lookup f29 = some ⟨oc29, od29, .func (PySem.W.fnOf "_law_moved" "_law_moved" (defArgs (topS 40)) (defBody (topS 40)) (defScope (topS 40)) .none kV29 dc29 pm29 an29 cd29 ct29), sl29⟩) (c29 : PySem.W.codeIn K cd29 "_law_moved" = true) (k29 : PySem.W.keepIn K (.ref f29) = true)
    (a30 : PySem.W.nsIn K mainGlobals "_law_many" = some (some (.ref f30))) (l30 : K.lookup f30 = some ⟨oc30, od30, .func (PySem.W.fnOf "_law_many" "_law_many" (defArgs (topS 41)) (defBody (topS 41)) (defScope (topS 41)) .none kV30 dc30 pm30 an30 cd30 ct30), sl30⟩) (c30 : PySem.W.codeIn K cd30 "_law_many" = true) (k30 : PySem.W.keepIn K (.ref f30) = true)
    (a31 : PySem.W.nsIn K mainGlobals "_law_right" = some (some (.ref f31))) (l31 : K.lookup f31 = some ⟨oc31, od31, .func (PySem.W.fnOf "_law_right" "_law_right" (defArgs (topS 42)) (defBody (topS 42)) (defScope (topS 42)) .none kV31 dc31 pm31 an31 cd31 ct31), sl31⟩) (c31 : PySem.W.codeIn K cd31 "_law_right" = true) (k31 : PySem.W.keepIn K (.ref f31) = true)
    (a32 : PySem.W.nsIn K mainGlobals "law" = some (some (.ref f32))) (l32 : K.lookup f32 = some ⟨oc32, od32, .func (PySem.W.fnOf "law" "law" (defArgs (topS 43)) (defBody (topS 43)) (defScope (topS 43)) .none kV32 dc32 pm32 an32 cd32 ct32), sl32⟩) (c32 : PySem.W.codeIn K cd32 "law" = true) (k32 : PySem.W.keepIn K (.ref f32) = true)
    (z_all : PySem.W.nsIn K mainGlobals "all" = some none)
    (z_bool : PySem.W.nsIn K mainGlobals "bool" = some none)
    (z_enumerate : PySem.W.nsIn K mainGlobals "enumerate" = some none)
    (z_int : PySem.W.nsIn K mainGlobals "int" = some none)
    (z_isinstance : PySem.W.nsIn K mainGlobals "isinstance" = some none)
    (z_len : PySem.W.nsIn K mainGlobals "len" = some none)
    (z_list : PySem.W.nsIn K mainGlobals "list" = some none)
    (z_max : PySem.W.nsIn K mainGlobals "max" = some none)
    (z_min : PySem.W.nsIn K mainGlobals "min" = some none)
    (z_range : PySem.W.nsIn K mainGlobals "range" = some none)
    (z_repr : PySem.W.nsIn K mainGlobals "repr" = some none)
    (z_reversed : PySem.W.nsIn K mainGlobals "reversed" = some none)
    (z_sorted : PySem.W.nsIn K mainGlobals "sorted" = some none)
    (z_str : PySem.W.nsIn K mainGlobals "str" = some none)
    (z_tuple : PySem.W.nsIn K mainGlobals "tuple" = some none)
    (z_zip : PySem.W.nsIn K mainGlobals "zip" = some none)
    {t_MOST_MADE : Tok} (g_MOST_MADE : PySem.W.nsIn K mainGlobals "MOST_MADE" = some (some (.int 300 t_MOST_MADE)))
    {t_AT_ONCE : Tok} (g_AT_ONCE : PySem.W.nsIn K mainGlobals "AT_ONCE" = some (some (.str "at once" t_AT_ONCE)))
    (pure : ∀ ns : List Int, ns.length ≤ 63 → d_law [.scr ns] = .ok (.bl true)) :
    ∃ fd : FuncData, (∀ (s : Shared) (v : Value), BindsTo s fd ⟨[v], []⟩ [("_law_script", v)]) ∧ ∀ base : Heap, K.In base → base.Ns mainGlobals mg → FnG l.prog w K mg base 8 fa fd ["_law_script"] (spLaw 63 K) := by
  have e := hfa.symm.trans (PySem.W.mg_of X G a32)
  cases e
  have T : Txt K mg := ⟨PySem.W.mg_none_of X G z_all, PySem.W.mg_none_of X G z_bool, PySem.W.mg_none_of X G z_enumerate, PySem.W.mg_none_of X G z_int, PySem.W.mg_none_of X G z_isinstance, PySem.W.mg_none_of X G z_len, PySem.W.mg_none_of X G z_list, PySem.W.mg_none_of X G z_max, PySem.W.mg_none_of X G z_min, PySem.W.mg_none_of X G z_range, PySem.W.mg_none_of X G z_repr, PySem.W.mg_none_of X G z_reversed, PySem.W.mg_none_of X G z_sorted, PySem.W.mg_none_of X G z_str, PySem.W.mg_none_of X G z_tuple, PySem.W.mg_none_of X G z_zip, gi_mk X G g_MOST_MADE, gs_mk X G g_AT_ONCE,
    fn_fact X G a1 l1 c1 k1 (fun _ _ _ _ _ _ us hl => match us, hl with | [_, _], _ => rfl),
    fn_fact X G a2 l2 c2 k2 (fun _ _ _ _ _ _ us hl => match us, hl with | [_, _], _ => rfl),
    fn_fact X G a3 l3 c3 k3 (fun _ _ _ _ _ _ us hl => match us, hl with | [_, _], _ => rfl),
    fn_fact X G a4 l4 c4 k4 (fun _ _ _ _ _ _ us hl => match us, hl with | [_, _, _], _ => rfl),
    fn_fact X G a5 l5 c5 k5 (fun _ _ _ _ _ _ us hl => match us, hl with | [_], _ => rfl),
    fn_fact X G a6 l6 c6 k6 (fun _ _ _ _ _ _ us hl => match us, hl with | [_], _ => rfl),
    fn_fact X G a7 l7 c7 k7 (fun _ _ _ _ _ _ us hl => match us, hl with | [_], _ => rfl),
    fn_fact X G a8 l8 c8 k8 (fun _ _ _ _ _ _ us hl => match us, hl with | [_], _ => rfl),
    fn_fact X G a9 l9 c9 k9 (fun _ _ _ _ _ _ us hl => match us, hl with | [_], _ => rfl),
    fn_fact X G a10 l10 c10 k10 (fun _ _ _ _ _ _ us hl => match us, hl with | [_, _, _], _ => rfl),
    fn_fact X G a11 l11 c11 k11 (fun _ _ _ _ _ _ us hl => match us, hl with | [_], _ => rfl),
    fn_fact X G a12 l12 c12 k12 (fun _ _ _ _ _ _ us hl => match us, hl with | [_, _], _ => rfl),
    fn_fact X G a13 l13 c13 k13 (fun _ _ _ _ _ _ us hl => match us, hl with | [_, _], _ => rfl),
    fn_fact X G a14 l14 c14 k14 (fun _ _ _ _ _ _ us hl => match us, hl with | [_], _ => rfl),
    fn_fact X G a15 l15 c15 k15 (fun _ _ _ _ _ _ us hl => match us, hl with | [_], _ => rfl),
    fn_fact X G a16 l16 c16 k16 (fun _ _ _ _ _ _ us hl => match us, hl with | [_], _ => rfl),
    fn_fact X G a17 l17 c17 k17 (fun _ _ _ _ _ _ us hl => match us, hl with | [_], _ => rfl),
    fn_fact X G a18 l18 c18 k18 (fun _ _ _ _ _ _ us hl => match us, hl with | [_], _ => rfl),
    fn_fact X G a19 l19 c19 k19 (fun _ _ _ _ _ _ us hl => match us, hl with | [_], _ => rfl),
    fn_fact X G a20 l20 c20 k20 (fun _ _ _ _ _ _ us hl => match us, hl with | [_], _ => rfl),
    fn_fact X G a21 l21 c21 k21 (fun _ _ _ _ _ _ us hl => match us, hl with | [_], _ => rfl),
    fn_fact X G a22 l22 c22 k22 (fun _ _ _ _ _ _ us hl => match us, hl with | [_, _], _ => rfl),
    fn_fact X G a23 l23 c23 k23 (fun _ _ _ _ _ _ us hl => match us, hl with | [_], _ => rfl),
    fn_fact X G a24 l24 c24 k24 (fun _ _ _ _ _ _ us hl => match us, hl with | [_], _ => rfl),
    fn_fact X G a25 l25 c25 k25 (fun _ _ _ _ _ _ us hl => match us, hl with | [_, _], _ => rfl),
    fn_fact X G a26 l26 c26 k26 (fun _ _ _ _ _ _ us hl => match us, hl with | [_, _], _ => rfl),
    fn_fact X G a27 l27 c27 k27 (fun _ _ _ _ _ _ us hl => match us, hl with | [_], _ => rfl),
    fn_fact X G a28 l28 c28 k28 (fun _ _ _ _ _ _ us hl => match us, hl with | [_, _], _ => rfl),
    fn_fact X G a29 l29 c29 k29 (fun _ _ _ _ _ _ us hl => match us, hl with | [_, _], _ => rfl),
    fn_fact X G a30 l30 c30 k30 (fun _ _ _ _ _ _ us hl => match us, hl with | [_, _], _ => rfl),
    fn_fact X G a31 l31 c31 k31 (fun _ _ _ _ _ _ us hl => match us, hl with | [_, _], _ => rfl),
    fn_fact X G a32 l32 c32 k32 (fun _ _ _ _ _ _ us hl => match us, hl with | [_], _ => rfl)⟩
  exact ⟨PySem.W.fnOf "law" "law" (defArgs (topS 43)) (defBody (topS 43)) (defScope (topS 43)) .none kV32 dc32 pm32 an32 cd32 ct32, fun s v => .of_eq rfl, fun base _ _ => law_spec (fn_law T (fun_mk (st := topS 43) l32 c32 k32)) pure⟩
end BR
open PySem PySem.W PyProof.Rows
set_option maxHeartbeats 0 in
theorem PySem.Challenge.cw_boastrow_k52_fewest_sets_holds : PySem.Challenge.rw_boastrow_k52_fewest_sets.Holds := by
  w_on; o_law; k_head; (case hw => w_witness2)
  k_fill
  refine BR.walk_G (l := PySem.Challenge.rw_boastrow_k52_fewest_sets) (n := 63) (k := 8) (x := "_law_script") (sp := fun w => BR.spLaw 63 _) rfl (by decide) rfl ⟨⟨rfl, by decide, by decide⟩, rfl⟩ (fun w h Y => PySem.W.kIn_of Y) ?F (fun _ _ a ns hl _ hS => ⟨a, ns, rfl, hS, hl, fun _ => rfl⟩)
  case F =>
    intro w mg fa h KX G hmg
    refine' BR.all_mk KX G hmg ?a1 ?l1 ?c1 ?k1 ?a2 ?l2 ?c2 ?k2 ?a3 ?l3 ?c3 ?k3 ?a4 ?l4 ?c4 ?k4 ?a5 ?l5 ?c5 ?k5 ?a6 ?l6 ?c6 ?k6 ?a7 ?l7 ?c7 ?k7 ?a8 ?l8 ?c8 ?k8 ?a9 ?l9 ?c9 ?k9 ?a10 ?l10 ?c10 ?k10 ?a11 ?l11 ?c11 ?k11 ?a12 ?l12 ?c12 ?k12 ?a13 ?l13 ?c13 ?k13 ?a14 ?l14 ?c14 ?k14 ?a15 ?l15 ?c15 ?k15 ?a16 ?l16 ?c16 ?k16 ?a17 ?l17 ?c17 ?k17 ?a18 ?l18 ?c18 ?k18 ?a19 ?l19 ?c19 ?k19 ?a20 ?l20 ?c20 ?k20 ?a21 ?l21 ?c21 ?k21 ?a22 ?l22 ?c22 ?k22 ?a23 ?l23 ?c23 ?k23 ?a24 ?l24 ?c24 ?k24 ?a25 ?l25 ?c25 ?k25 ?a26 ?l26 ?c26 ?k26 ?a27 ?l27 ?c27 ?k27 ?a28 ?l28 ?c28 ?k28 ?a29 ?l29 ?c29 ?k29 ?a30 ?l30 ?c30 ?k30 ?a31 ?l31 ?c31 ?k31 ?a32 ?l32 ?c32 ?k32 ?z_all ?z_bool ?z_enumerate ?z_int ?z_isinstance ?z_len ?z_list ?z_max ?z_min ?z_range ?z_repr ?z_reversed ?z_sorted ?z_str ?z_tuple ?z_zip ?g_MOST_MADE ?g_AT_ONCE BR.pure_law
    (case a1 => k_is); (case l1 => k_is); (case c1 => k_is); (case k1 => k_is); (case a2 => k_is); (case l2 => k_is); (case c2 => k_is); (case k2 => k_is); (case a3 => k_is); (case l3 => k_is); (case c3 => k_is); (case k3 => k_is); (case a4 => k_is); (case l4 => k_is); (case c4 => k_is); (case k4 => k_is); (case a5 => k_is); (case l5 => k_is); (case c5 => k_is); (case k5 => k_is); (case a6 => k_is); (case l6 => k_is); (case c6 => k_is); (case k6 => k_is); (case a7 => k_is); (case l7 => k_is); (case c7 => k_is); (case k7 => k_is); (case a8 => k_is); (case l8 => k_is); (case c8 => k_is); (case k8 => k_is); (case a9 => k_is); (case l9 => k_is); (case c9 => k_is); (case k9 => k_is); (case a10 => k_is); (case l10 => k_is); (case c10 => k_is); (case k10 => k_is); (case a11 => k_is); (case l11 => k_is); (case c11 => k_is); (case k11 => k_is); (case a12 => k_is); (case l12 => k_is); (case c12 => k_is); (case k12 => k_is); (case a13 => k_is); (case l13 => k_is); (case c13 => k_is); (case k13 => k_is); (case a14 => k_is); (case l14 => k_is); (case c14 => k_is); (case k14 => k_is); (case a15 => k_is); (case l15 => k_is); (case c15 => k_is); (case k15 => k_is); (case a16 => k_is); (case l16 => k_is); (case c16 => k_is); (case k16 => k_is); (case a17 => k_is); (case l17 => k_is); (case c17 => k_is); (case k17 => k_is); (case a18 => k_is); (case l18 => k_is); (case c18 => k_is); (case k18 => k_is); (case a19 => k_is); (case l19 => k_is); (case c19 => k_is); (case k19 => k_is); (case a20 => k_is); (case l20 => k_is); (case c20 => k_is); (case k20 => k_is); (case a21 => k_is); (case l21 => k_is); (case c21 => k_is); (case k21 => k_is); (case a22 => k_is); (case l22 => k_is); (case c22 => k_is); (case k22 => k_is); (case a23 => k_is); (case l23 => k_is); (case c23 => k_is); (case k23 => k_is); (case a24 => k_is); (case l24 => k_is); (case c24 => k_is); (case k24 => k_is); (case a25 => k_is); (case l25 => k_is); (case c25 => k_is); (case k25 => k_is); (case a26 => k_is); (case l26 => k_is); (case c26 => k_is); (case k26 => k_is); (case a27 => k_is); (case l27 => k_is); (case c27 => k_is); (case k27 => k_is); (case a28 => k_is); (case l28 => k_is); (case c28 => k_is); (case k28 => k_is); (case a29 => k_is); (case l29 => k_is); (case c29 => k_is); (case k29 => k_is); (case a30 => k_is); (case l30 => k_is); (case c30 => k_is); (case k30 => k_is); (case a31 => k_is); (case l31 => k_is); (case c31 => k_is); (case k31 => k_is); (case a32 => k_is); (case l32 => k_is); (case c32 => k_is); (case k32 => k_is); (case z_all => k_is); (case z_bool => k_is); (case z_enumerate => k_is); (case z_int => k_is); (case z_isinstance => k_is); (case z_len => k_is); (case z_list => k_is); (case z_max => k_is); (case z_min => k_is); (case z_range => k_is); (case z_repr => k_is); (case z_reversed => k_is); (case z_sorted => k_is); (case z_str => k_is); (case z_tuple => k_is); (case z_zip => k_is); (case g_MOST_MADE => k_is); (case g_AT_ONCE => k_is)

