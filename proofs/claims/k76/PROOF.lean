import PyProof.Rows.All
import Wide.All
import OpenK.AllK
import Wide.FinOn
import HandS.ForMost
import HandS.Defaults
import HandS.Codes
import HandS.HeadEnd
import HandS.Gcd
import HandS.Wide
import HandS.Deep
import HandS.TupAny
import HandS.IsInst
import HandS.Zip
import HandS.Conv
import HandS.SortRule
import HandS.SortInts
import HandS.List
import PyProof.TupleOfSeq
import HandS.Dict
import HandS.More
import HandS.HeadHook3
import PyProof.WalksMore
import PyProof.Rows.RuleU_int
import HandS.Head0
import HandS.Head1
import HandS.Head2
import HandS.HeadHook1
import HandS.TupMul
import HandS.FStrTup
import PyProof.ReprRoads
import HandS.TupLen
import KE.KDictSum
import HandS.NoneIn
import HandS.Star
import HandS.SetFor
import HandS.TupSets
import HandS.Iter
import KE.GoesEnum
import KE.GoesMore
import KE.GoesZip
import HandS.Style
import HandS.HeadHook2
import HandS.HeadHook4
import PySem.Challenge.RW_flatviews_k76_whole_curve_ratios_from_al
import HandS.Head3
import PyProof.Rows.Walk
set_option Elab.async false
set_option linter.all false
set_option maxRecDepth 100000
set_option maxHeartbeats 2000000
/-! Grd: a def's promise where nothing is being shown around it (so that repr shows all). -/
namespace FV
open PySem PySem.Spec PyProof.Rows L2
/-- what is wanted of an exception: there is none -/
abbrev NoX : XK := fun _ _ _ => False
structure FnG (P : Program) (w : World) (K : PySem.W.Frag) (mg : Str → Option Value) (base : Heap) (k : Nat) (f : Addr) (fd : FuncData) (ps : List Str) (sp : Sp) : Prop where
  len : ∀ vs H Q, sp vs H Q NoX → vs.length = ps.length
  run : ∀ (A : Around) (outer : List Env) (s : Shared) (H : Hp) (args : Args) (us : List Value) (vs : List V) (Q : VK), Room k A → A.guards = some [] → Env0 P w K mg base A outer s H → BindsTo s fd args (ps.zip us) →
    Vals vs us → sp vs H Q NoX → codeAny (model P w) A (.call (.ref f) args) (CR CX0 outer P w H s Q NoX) s
section
variable {X : Cx} {k : Nat} {f : Addr} {fd : FuncData} {ps : List Str} {sp : Sp}
/-- the callee runs, its arguments bound -/
theorem FnG.go (F : FnG X.prog X.w X.K X.mg X.base k f fd ps sp) (hr : Room k X.A) (hg : X.A.guards = some []) {pins : List (Addr × Obj)} {σ : L2.St} {H : Hp} {s : Shared} {Q : VK} {us ws : List Value} {kw : List (Str × Value)} {vs : List V}
    (I : Inv X pins σ H s) (hb : BindsTo s fd ⟨us, kw⟩ (ps.zip ws)) (r : Vals vs ws) (h : sp vs H Q NoX) : wpAny (model X.prog X.w) X.A (call (.ref f) us kw) (EP X pins σ Q) X.xe s := by
  have g := F.run X.A X.stack s H ⟨us, kw⟩ ws vs Q hr hg I.env0 hb r h
  refine wpAny_call (codeAny_mono g ?_)
  intro r s' q
  rcases r with e | fl
  · exact False.elim q
  · cases fl <;> first
      | exact I.after q
      | exact False.elim q
variable {x : Str} {p pos : Pos} {e : Expr} {es : List Expr} {t : TA}
theorem pe_g (F : FnG X.prog X.w X.K X.mg X.base k f fd ps sp) (hr : Room k X.A) (gd : X.A.guards = some []) (hx : Gl X x) (hm : X.mg x = some (.ref f)) (hk : PySem.W.keepIn X.K (.ref f) = true) (hb : Binds X.K fd ps []) (ha : PA X (e :: es) t)
    (hdb : (x == ("__debug__" : Str)) = false) (he : starEach (e :: es) X.env = (false, eval e X.env) :: starEach es X.env) (hpl : (backTo pos (starEach es X.env)).any (·.1) = false) :
    PE X (.Call (.Name x p) (e :: es) [] pos) (fun σ H Q => t σ H fun vs H1 => sp vs H1 Q NoX) := by
  refine ⟨fun pins s σ H Q I h => wpAny_Call_Name_kw (ld_glob I hx hm ?_ hdb)⟩
  have g := thn (Q' := fun us s1 => X.K.In s1.heap ∧ wpAny (model X.prog X.w) X.A (call (.ref f) us) (EP X pins σ Q) X.xe s1) (ha.run pos pins s σ H _ I h) fun us s1 ⟨vs, H1, I1, r, q⟩ => ⟨I1.kIn, by
    have hl : (us ++ []).length = ps.length := by rw [List.append_nil, ← r.length]; exact F.len _ _ _ q
    have hb2 := hb s1 us I1.kIn hl
    rw [List.append_nil] at hb2
    exact F.go hr gd I1 hb2 r q⟩
  exact PySem.W.callWith_K (h₀ := X.base) I.ok.mod.kin hk g he hpl
theorem pe_g0 (F : FnG X.prog X.w X.K X.mg X.base k f fd ps sp) (hr : Room k X.A) (gd : X.A.guards = some []) (hx : Gl X x) (hm : X.mg x = some (.ref f)) (hk : PySem.W.keepIn X.K (.ref f) = true) (hb : Binds X.K fd ps [])
    (hdb : (x == ("__debug__" : Str)) = false) : PE X (.Call (.Name x p) [] [] pos) (fun σ H Q => sp [] H Q NoX) := by
  refine ⟨fun pins s σ H Q I h => wpAny_Call_Name_kw (ld_glob I hx hm ?_ hdb)⟩
  have hl : (([] : List Value) ++ []).length = ps.length := F.len _ _ _ h
  exact PySem.W.callWith_K0 I.kIn hk (F.go (us := []) hr gd I (hb s [] I.kIn hl) .nil h)
end
section
variable {P : Program} {w : World} {K : PySem.W.Frag} {mg : Str → Option Value} {base : Heap} {x qual : Str} {params : Arguments} {body : List Stmt} {scope : Scope} {dvs : List V} {kws : List (Str × V)} {f : Addr} {fd : FuncData}
/-- a def, by its body -/
theorem okG {N ps : List Str} {k : Nat} {sp : Sp} (F : FunD K x qual params body scope dvs kws f fd) (S : FnScope N ps scope) (len : ∀ vs H Q, sp vs H Q NoX → vs.length = ps.length)
    (hbody : ∀ (cdv : Value) (A : Around) (outer : List Env) (s : Shared) (H : Hp) (vs : List V) (Q : VK), A.guards = some [] → Room k (A.deeper (envOfC qual scope s.heap.objs.size f cdv)) → sp vs H Q NoX →
      ∃ t, PSs (cxOf CX0 P w K mg base N qual scope f cdv A outer s H NoX) body t ∧ t { nx := fun _ H' => Q .non H', rt := Q } (L2.start N vs) H) : FnG P w K mg base (k + 1) f fd ps sp := by
  obtain ⟨oc, od, dV, kV, doc, pm, an, cdv, ct, osl, e, lk, hcd, _, _⟩ := F.ex
  subst e
  constructor
  · exact len
  intro A outer s H args us vs Q hr gd e0 hb r hsp
  have hl := len _ _ _ hsp
  have kin : K.In s.heap := PySem.W.Frag.In.keeps e0.mod.kin fun a o z => (e0.bs a o z).1
  have nolim : s.heap.NoLimit := Heap.NoLimit.keeps e0.mod.nolimit fun a o z => (e0.bs a o z).1
  have kinds : ∀ y ∈ ps.zip us, scope.names.lookup y.1 = some .local ∨ (scope.names.lookup y.1 = some .cell ∧ ((cellsFrom (s.heap.objs.size + 1) scope.names []).lookup y.1).isSome = true) := by
    rintro ⟨n, v⟩ hy
    rcases S.par n (List.of_mem_zip hy).1 with q | q
    · exact Or.inl q
    · exact Or.inr ⟨q, PySem.W.cellsFrom_some _ _ _ (Or.inl q)⟩
  refine codeAny_call_function hr.depth (kin _ _ lk) rfl S.co S.gen rfl (PySem.W.codeRec_of kin hcd) (hb _ _ _ _ ?_)
  refine wpAny_newFunctionEnv_cells S.kind kinds ?_
  intro env he s1 x1
  subst he
  refine ⟨nolim.keeps x1.toInCall.keep, codeAny_func ?_⟩
  obtain ⟨t, ht, q⟩ := hbody cdv A outer s H vs Q gd (hr.deeper _) hsp
  have I := inv_start (CX := CX0) (E := NoX) (mg := mg) (base := base) (f := f) S hr.hd e0 hl r x1
  refine wpAny_mono (ht.run [] s1 (L2.start N vs) H _ I q) ?_ fun _ _ z => z
  intro fl s' z
  cases fl with
  | ret u =>
    obtain ⟨v, σ', H', J, rv, q⟩ := z
    exact ⟨v, H', J.os, J.bare, J.base, J.hok, rv, q⟩
  | next =>
    obtain ⟨σ', H', J, q⟩ := z
    exact ⟨V.non, H', J.os, J.bare, J.base, J.hok, rfl, q⟩
  | brk =>
    obtain ⟨_, _, _, q⟩ := z
    exact q.elim
  | cont =>
    obtain ⟨_, _, _, q⟩ := z
    exact q.elim
end
/-- the law's own call, with nothing shown around it -/
theorem law_callG {P : Program} {w : World} {K : PySem.W.Frag} {mg mb : Str → Option Value} {k : Nat} {fa a : Addr} {fd : FuncData} {x : Str} {sp : Sp} {s1 : Shared} {vs : List Value} {ns : List Int}
    (hK : K.In s1.heap) (hm : s1.heap.Ns mainGlobals mg) (hB : s1.heap.Ns builtinsNs mb) (hBB : ∀ x : Str, x ≠ "__name__" → mb x = bootBuiltins x) (hL : s1.heap.NoLimit) (hgen : s1.gens = #[])
    (ha : s1.heap.get? a = some { cls := .type "list", data := .seq vs.toArray }) (hi : IntsAre vs ns) (hz : ns.length ≤ sizeLine) (hr : Room k callerA)
    (F : ∀ base : Heap, K.In base → base.Ns mainGlobals mg → FnG P w K mg base k fa fd [x] sp) (hbind : ∀ (s : Shared) (u : Value), BindsTo s fd ⟨[u], []⟩ [(x, u)])
    (hsp : ∀ H : Hp, Only H → SqL K H a (ns.map V.int) → sp [.ref a] H (fun v _ => v = .bl true) NoX) :
    codeAny (model P w) callerA (.call (.ref fa) ⟨[.ref a], []⟩) (fun r s' => r = .ok (.ret (.bool true)) ∧ OldK s1.heap s'.heap ∧ s'.os = s1.os ∧ AllBare s'.gens) s1 := by
  have rv := vals_ints hi
  have hlen := hi.length
  have main : ∀ H : Hp, Only H → SqL K H a (ns.map V.int) → HOk P w H s1.heap → (∀ b, H b ≠ none → b = a) → (H a ≠ none → K.lookup a = none) →
      codeAny (model P w) callerA (.call (.ref fa) ⟨[.ref a], []⟩) (fun r s' => r = .ok (.ret (.bool true)) ∧ OldK s1.heap s'.heap ∧ s'.os = s1.os ∧ AllBare s'.gens) s1 := by
    intro H hO hS hok hA hN
    have out : ∀ {b : Addr} {o : Obj}, s1.heap.get? b = some o → (b = a → H b = none) → H b = none := by
      intro b o _ h
      by_cases e : b = a
      · exact h e
      · by_cases q : H b = none
        · exact q
        · exact absurd (hA b q) e
    have hid : ∀ {b : Addr} {o : Obj}, s1.heap.get? b = some o → H b = none → (hidT s1.heap H).get? b = some o := fun e n => hidT_get e n
    have dct : ∀ {b : Addr} {m : Str → Option Value}, s1.heap.Ns b m → (hidT s1.heap H).Ns b m := by
      rintro b m ⟨o, es, ep, e, d, r⟩
      refine ⟨o, es, ep, hid e (out e fun z => ?_), d, r⟩
      subst z
      rw [ha] at e
      cases e
      exact absurd (show Data.seq vs.toArray _ = Data.dict es ep from d) (fun z => by cases z)
    have kin : K.In (hidT s1.heap H) := by
      intro b o e
      refine hid (hK b o e) (out (hK b o e) fun z => ?_)
      subst z
      by_cases q : H b = none
      · exact q
      · rw [hN q] at e
        cases e
    have nol : (hidT s1.heap H).NoLimit := by
      obtain ⟨mc, l1, l2⟩ := hL
      exact ⟨mc, dct l1, l2⟩
    have md : Mod K mg (hidT s1.heap H) := ⟨kin, dct hm, ⟨mb, dct hB, hBB⟩, nol⟩
    have nofr : ∀ b ∈ frs ([] : List Env), H b = none := fun b z => by cases z
    have env0 : Env0 P w K mg (hidT s1.heap H) callerA [] s1 H := ⟨rfl, md, fun b o z => of_hidT z, Nat.le_of_eq (hidT_size _ _), trivial, nofr, hok, .of_eq hgen⟩
    have run := (F _ kin (dct hm)).run callerA [] s1 H ⟨[.ref a], []⟩ [.ref a] [.ref a] _ hr rfl env0 (hbind s1 (.ref a)) (.cons rfl .nil) (hsp H hO hS)
    refine codeAny_mono run ?_
    intro r s' z
    rcases r with e | fl
    · exact False.elim z
    cases fl <;> try (exact False.elim z)
    rename_i u
    obtain ⟨v, H', z1, z2, z3, z4, z5, z6⟩ := z
    have z6 : v = .bl true := z6
    subst z6
    cases z5
    refine ⟨rfl, OldK.of_keep ?_, z1, z2⟩
    intro b o e
    cases q : H b with
    | none => exact z3.keep b o e q (fun z => by cases z) (by simp)
    | some y =>
      rcases hO b with g | ⟨ob, xs, g⟩
      · rw [q] at g
        cases g
      · have g2 := z3.frzs b ob _ g
        obtain ⟨e1, _⟩ := hok b _ g
        obtain ⟨e2, _⟩ := z4 b _ g2
        rw [e] at e1
        cases e1
        exact e2
  cases hk : K.lookup a with
  | some o =>
    have e := hK a o hk
    rw [ha] at e
    cases e
    refine main (fun _ => none) (fun _ => Or.inl rfl) (Or.inr ?_) (fun b u z => absurd (show (none : Option HO) = some u from z) (fun z => by cases z)) (fun b z => absurd rfl z) (fun z => absurd rfl z)
    exact ⟨_, vs.toArray, _, hk, rfl, rfl, rfl, by rw [List.size_toArray, hlen]; exact hz, by simpa using rv⟩
  | none =>
    have at_ : ∀ b : Addr, (if b = a then some (HO.frz { cls := .type "list", data := .seq vs.toArray } (.lst (ns.map V.int))) else none) ≠ none → b = a := by
      intro b z
      by_cases e : b = a
      · exact e
      · rw [if_neg e] at z
        exact absurd rfl z
    refine main (fun b => if b = a then some (.frz { cls := .type "list", data := .seq vs.toArray } (.lst (ns.map V.int))) else none) ?_ (.inl (.inr ⟨_, if_pos rfl⟩)) ?_ at_ (fun _ => hk)
    · intro b
      by_cases e : b = a
      · exact Or.inr ⟨_, _, if_pos e⟩
      · exact Or.inl (if_neg e)
    · intro b u z
      have e := at_ b (by show (if b = a then _ else _) ≠ none; rw [show (if b = a then some (HO.frz { cls := .type "list", data := .seq vs.toArray } (.lst (ns.map V.int))) else none) = some u from z]; simp)
      have z2 := (if_pos e).symm.trans z
      cases z2
      subst e
      exact ⟨ha, by rw [List.length_map]; exact hz, vs, _, rv, ha⟩
/-- the head's end, by a promise that holds where nothing is shown -/
theorem walk_g {l : PySem.W.OpenLaw} {n k : Nat} {q : Program} {loose : List Str} {XP : (Str → Option Value) → Heap → Prop} {YP : World → Heap → Prop} {d : DefRec} {x : Str} (hn : l.most = some n) (hn2 : n ≤ sizeLine) (hdf : d.params.defaults = []) (hr : Room k callerA)
    (F : ∀ (w : World) (mg : Str → Option Value) (fa : Addr) (h : Heap), YP w h → h.Ns mainGlobals mg → mg d.name = some (.ref fa) → ∃ (K : PySem.W.Frag) (fd : FuncData) (sp : Sp), K.In h ∧ (∀ (s : Shared) (u : Value), BindsTo s fd ⟨[u], []⟩ [(x, u)]) ∧
        (∀ (H : Hp) (a : Addr) (ns : List Int), ns.length ≤ n → Only H → SqL K H a (ns.map V.int) → sp [.ref a] H (fun v _ => v = .bl true) NoX) ∧ ∀ base : Heap, K.In base → base.Ns mainGlobals mg → FnG l.prog w K mg base k fa fd [x] sp) :
    PySem.W.WalkO q loose XP YP l.row.toRowW d [] (fun f vs => PySem.call f vs) := by
  refine Att.attach_call hn hdf ?_
  intro w s0 s1 mg mb fa o pm cd doc a vs ns G Y ho hd hcd hmg hobj hints hlen hg
  obtain ⟨K, fd, sp, KX, hb, hsp, hF⟩ := F w mg fa _ Y G.T.g hmg
  exact law_callG KX G.T.g G.T.b G.T.builtins G.T.nolimit hg hobj hints (Nat.le_trans hlen hn2) hr hF hb fun H hO hS => hsp H a ns hlen hO hS
end FV
set_option Elab.async false
set_option linter.all false
set_option maxRecDepth 100000
/-! Ev: pure data values, a small syntax, its evaluator as a predicate transformer. -/
namespace FV
abbrev Str := PySem.Str
/-- a value: data as a whole; ref: a list that changes; itr: what a loop walks (no value of the program); rep: the text that shows a datum; dic: a dict with nothing in it -/
inductive D where
  | non | bl (b : Bool) | int (i : Int) | str (s : Str) | tup (ds : List D) | lst (ds : List D)
  | frz (ds : List D) | ref (l : Nat) | fn (x : Str) | exc (c : Nat) (d : D) | itr (ds : List D) | rep (d : D) | dic | dss (kvs : List (Str × Str)) | itg (l : Nat) (es ds : List D) | itg2 (l : Nat) (es : List D) (l' : Nat) (es' ds : List D) | dre (l : Nat)
abbrev Env := List (Option D)
abbrev Store := List (List D)
def lk : Env → Nat → Option D
  | [], _ => none
  | x :: _, 0 => x
  | _ :: r, i + 1 => lk r i
def st : Env → Nat → D → Env
  | [], _, _ => []
  | _ :: r, 0, d => some d :: r
  | x :: r, i + 1, d => x :: st r i d
def wp0 : Env → List Nat → Env
  | σ, [] => σ
  | σ, i :: r => (wp0 σ r).set i none
/-- the cell l -/
def cl : Store → Nat → Option (List D)
  | [], _ => none
  | x :: _, 0 => some x
  | _ :: r, i + 1 => cl r i
/-- a fork: by the test's answer -/
def brk (b : Bool) (p q : Prop) : Prop := match b with
  | true => p
  | false => q
theorem brk_t {b : Bool} {p q : Prop} (e : b = true) (h : p) : brk b p q := by subst e; exact h
theorem brk_f {b : Bool} {p q : Prop} (e : b = false) (h : q) : brk b p q := by subst e; exact h
theorem brk_i {b : Bool} {p q : Prop} (h : b = true → p) (h' : b = false → q) : brk b p q := by
  cases b
  · exact h' rfl
  · exact h rfl
theorem brk_c {b : Bool} {p q : Prop} (h : brk b p q) : if b = true then p else q := by
  cases b <;> exact h
def SZ : Nat := 1000000
/-- a product that the machine takes -/
def mulOk (a b : Int) : Prop := (-(2 ^ 64) < a ∧ a < 2 ^ 64) ∨ (-(2 ^ 64) < b ∧ b < 2 ^ 64) ∨ (a.natAbs < 2 ^ 400000 ∧ b.natAbs < 2 ^ 400000)
def divOk (b : Int) : Prop := b ≠ 0 ∧ b.natAbs < 2 ^ 8000
inductive Bop where
  | add | sub | mul | fdiv | mod | pow
inductive Cop where
  | eq | ne | lt | le | gt | ge | is | isnot | isin | notin
inductive Ty where
  | int | bool | str | tup | lst | dict
inductive Bi where
  | len | abs | max2 | min2 | int | divmod | gcd | all | any | sum | tuple | list | repr | str | sorted | maxl
/-- a pattern that a value is taken apart by -/
inductive Pt where
  | nm (i : Nat) | tp (ps : List Pt)
inductive E where
  | var (i : Nat) | cst (d : D) | glb (x : Str) (d : D)
  | bin (op : Bop) (a b : E) | neg (a : E) | not (a : E)
  | cmp (op : Cop) (a b : E) | cmp2 (op op' : Cop) (a b c : E)
  | and (a b : E) | or (a b : E) | ite (c a b : E)
  | tup (es : List E) | lst (fresh : Bool) (es : List E)
  | idx (a i : E) | slc (a : E) (lo hi : Option E) | rev (a : E)
  | call (f : Nat) (es : List E) | callk (f : Nat) (ord : List Nat) (es : List E) | bi (b : Bi) (es : List E) | isi (e : E) (t : Ty) | isi2 (e : E) (ts : List Ty)
  | lc (fresh : Bool) (own : List Nat) (p : Pt) (it : E) (cond : Option E) (elt : E)
  | lc2 (fresh : Bool) (own : List Nat) (p : Pt) (it : E) (cond : Option E) (own2 : List Nat) (p2 : Pt) (it2 : E) (cond2 : Option E) (elt : E)
  | rng (a b : E) | rng1 (b : E) | zip (a b : E) | enm (a : E)
  | app (a e : E)
  | cnt (es : List E) (e : E)
  | nset (a : E)
  | isn (neg : Bool) (a b : E)
  | dct | cat (fresh : Bool) (a b : E)
  | lrg1 (tp : Bool) (b : E) | lrg2 (tp : Bool) (a b : E) | rngd (es : List E) | eqm (neg : Bool) (a b : E) | lstf (a : E) | cntl (a e : E)
  | tcat (fl : List Bool) (es : List E)
  | tget (x : Str) (kvs : List (Str × D)) (e : E) | tin (neg : Bool) (x : Str) (kvs : List (Str × D)) (e : E) | tls (x : Str) (kvs : List (Str × D)) | dsp (kvs : List (Str × Str)) | dget (a e : E) | rpt (a b : E)
  | dnew | dlen (a : E) | dsrt (a : E) | pop (a i : E) | fnv (x : Str) | callv (tbl : List (Str × Nat)) (a : E) (es : List E)
inductive Tg where
  | pt (p : Pt) | sub (o i : E) | tp (ts : List Tg) | dsub (o i : E)
inductive Sm where
  | set (t : Tg) (e : E) | par (is : List Nat) (es : List E) | expr (e : E) | ret (e : E) | retN
  | iff (c : E) (a b : List Sm) | for_ (p : Pt) (it : E) (body : List Sm) | whl (c : E) (body : List Sm)
  | raise | pass | brk | cont
  | raisx (c : Str) (e : Option E) | tryx (body : List Sm) (hs : List (List Str × List Sm))
/-! ### operations on values -/
def bop : Bop → D → D → (D → Prop) → Prop
  | .add, .int a, .int b, k => k (.int (a + b))
  | .add, .tup xs, .tup ys, k => xs.length + ys.length ≤ SZ ∧ k (.tup (xs ++ ys))
  | .add, .lst xs, .lst ys, k => xs.length + ys.length ≤ SZ ∧ k (.lst (xs ++ ys))
  | .sub, .int a, .int b, k => k (.int (a - b))
  | .sub, .bl a, .bl b, k => k (.int ((if a then 1 else 0) - (if b then 1 else 0)))
  | .mul, .int a, .int b, k => mulOk a b ∧ k (.int (a * b))
  | .mul, .tup xs, .int b, k => (xs ≠ [] ∧ 2 ≤ b ∧ b ≤ 1000 ∧ xs.length ≤ 1000) ∧ k (.tup (List.replicate b.toNat xs).flatten)
  | .mul, .lst xs, .int b, k => (0 ≤ b ∧ b ≤ SZ ∧ xs.length * b.toNat ≤ SZ) ∧ k (.lst (List.replicate b.toNat xs).flatten)
  | .fdiv, .int a, .int b, k => divOk b ∧ k (.int (a.fdiv b))
  | .mod, .int a, .int b, k => b ≠ 0 ∧ k (.int (a.fmod b))
  | .pow, .int a, .int b, k => (0 ≤ b ∧ b ≤ 1000000 ∧ a.natAbs < 2 ^ 64) ∧ k (.int (a ^ b.toNat))
  | _, _, _, _ => False
mutual
/-- equality of data, as == tells it -/
def eqD : D → D → Bool
  | .non, .non => true
  | .bl a, .bl b => a == b
  | .bl a, .int j => decide ((if a then 1 else 0) = j)
  | .int i, .bl b => decide (i = (if b then 1 else 0))
  | .int i, .int j => decide (i = j)
  | .str x, .str y => x == y
  | .tup xs, .tup ys => eqDs xs ys
  | .lst xs, .lst ys => eqDs xs ys
  | _, _ => false
def eqDs : List D → List D → Bool
  | [], [] => true
  | x :: xs, y :: ys => eqD x y && eqDs xs ys
  | _, _ => false
end
mutual
/-- data through and through, at most n deep -/
def pure? : Nat → D → Bool
  | _, .non => true
  | _, .bl _ => true
  | _, .int _ => true
  | _, .str x => PySem.PyData.strOk x
  | 0, _ => false
  | n + 1, .tup ds => pures? n ds
  | n + 1, .lst ds => pures? n ds
  | _, _ => false
def pures? : Nat → List D → Bool
  | _, [] => true
  | n, d :: ds => pure? n d && pures? n ds
end
def DEEP : Nat := 40
mutual
/-- numbers of few figures alone -/
def smD : D → Prop
  | .int i => i.natAbs < 2 ^ 990
  | .non => True
  | .bl _ => True
  | .tup ds => smDs ds
  | .lst ds => smDs ds
  | _ => False
def smDs : List D → Prop
  | [] => True
  | d :: ds => smD d ∧ smDs ds
end
mutual
/-- how many parts -/
def nod : D → Nat
  | .tup ds => nods ds + 1
  | .lst ds => nods ds + 1
  | _ => 1
def nods : List D → Nat
  | [] => 0
  | d :: ds => nod d + nods ds
end
/-- the text of a row -/
def repD : D → (D → Prop) → Prop
  | .tup ds, k => (pure? DEEP (.tup ds) = true ∧ smDs ds ∧ nods ds ≤ 20000) ∧ k (.rep (.tup ds))
  | .lst ds, k => (pure? DEEP (.lst ds) = true ∧ smDs ds ∧ nods ds ≤ 20000) ∧ k (.rep (.lst ds))
  | _, _ => False
def isNon : D → Bool
  | .non => true
  | _ => false
def isBl (b : Bool) : D → Bool
  | .bl c => c == b
  | _ => false
def inD (x : D) (ys : List D) : Bool := ys.any fun y => eqD y x
def cop : Cop → D → D → (Bool → Prop) → Prop
  | .eq, .int a, .int b, k => k (decide (a = b))
  | .eq, .rep a, .rep b, k => a = b ∧ k true
  | .eq, x, y, k => (pure? DEEP x = true ∧ pure? DEEP y = true) ∧ k (eqD x y)
  | .ne, .int a, .int b, k => k (!decide (a = b))
  | .ne, .rep a, .rep b, k => a = b ∧ k false
  | .ne, x, y, k => (pure? DEEP x = true ∧ pure? DEEP y = true) ∧ k (!eqD x y)
  | .lt, .int a, .int b, k => k (decide (a < b))
  | .le, .int a, .int b, k => k (decide (a ≤ b))
  | .gt, .int a, .int b, k => k (decide (b < a))
  | .ge, .int a, .int b, k => k (decide (b ≤ a))
  | .is, x, .non, k => k (isNon x)
  | .isnot, x, .non, k => k (!isNon x)
  | .is, .bl c, .bl b, k => k (c == b)
  | .isnot, .bl c, .bl b, k => k (!(c == b))
  | .isin, x, .lst ys, k => (pure? DEEP x = true ∧ pures? DEEP ys = true) ∧ k (inD x ys)
  | .notin, x, .lst ys, k => (pure? DEEP x = true ∧ pures? DEEP ys = true) ∧ k (!inD x ys)
  | .isin, x, .tup ys, k => (pure? DEEP x = true ∧ pures? DEEP ys = true) ∧ k (inD x ys)
  | .notin, x, .tup ys, k => (pure? DEEP x = true ∧ pures? DEEP ys = true) ∧ k (!inD x ys)
  | _, _, _, _ => False
def tru : D → (Bool → Prop) → Prop
  | .non, k => k false
  | .bl b, k => k b
  | .int i, k => k (!decide (i = 0))
  | .tup ds, k => k (!ds.isEmpty)
  | .lst ds, k => k (!ds.isEmpty)
  | _, _ => False
/-- an item at an index, from either end -/
def nth (ds : List D) (i : Int) : Option D := L2.atI ds i
def slice (ds : List D) (lo hi : Option Int) : List D := (ds.drop (HT.sIx ds.length 0 lo)).take (HT.sIx ds.length ds.length hi - HT.sIx ds.length 0 lo)
def tyIs : Ty → D → Option Bool
  | t, .int _ => some (match t with | .int => true | _ => false)
  | t, .bl _ => some (match t with | .int => true | .bool => true | _ => false)
  | t, .str _ => some (match t with | .str => true | _ => false)
  | t, .tup _ => some (match t with | .tup => true | _ => false)
  | t, .lst _ => some (match t with | .lst => true | _ => false)
  | t, .ref _ => some (match t with | .lst => true | _ => false)
  | t, .frz _ => some (match t with | .lst => true | _ => false)
  | t, .rep _ => some (match t with | .str => true | _ => false)
  | t, .dic => some (match t with | .dict => true | _ => false)
  | t, .dss _ => some (match t with | .dict => true | _ => false)
  | _, .non => some false
  | _, _ => none
/-- of one of the types -/
def tyAny (ts : List Ty) (d : D) : Option Bool := match tyIs .int d with
  | none => none
  | some _ => some (ts.any fun t => match tyIs t d with
    | some b => b
    | none => false)
def ints? : List D → Option (List Int)
  | [] => some []
  | .int i :: r => (ints? r).map (i :: ·)
  | _ => none
def bls? : List D → Option (List Bool)
  | [] => some []
  | .bl b :: r => (bls? r).map (b :: ·)
  | _ => none
/-- the value of a sequence, as it stands -/
def seq : D → Store → (List D → Prop) → Prop
  | .tup ds, _, k => k ds
  | .lst ds, _, k => k ds
  | .frz ds, _, k => k ds
  | .ref l, S, k => (match cl S l with | some ds => k ds | none => False)
  | _, _, _ => False
def on1 (f : D → Store → (D → Prop) → Prop) : List D → Store → (D → Prop) → Prop
  | [d], S, k => f d S k
  | _, _, _ => False
def on2 (f : D → D → (D → Prop) → Prop) : List D → Store → (D → Prop) → Prop
  | [d, e], _, k => f d e k
  | _, _, _ => False
def onI (f : Int → D) (d : D) (k : D → Prop) : Prop := match d with
  | .int a => k (f a)
  | _ => False
def onII (c : Int → Int → Prop) (f : Int → Int → D) (d e : D) (k : D → Prop) : Prop := match d, e with
  | .int a, .int b => c a b ∧ k (f a b)
  | _, _ => False
def onBs (f : List Bool → D) (d : D) (k : D → Prop) : Prop := match d with
  | .lst ds => (match bls? ds with | some bs => k (f bs) | none => False)
  | _ => False
def onIs (f : List Int → D) (d : D) (k : D → Prop) : Prop := match d with
  | .lst ds => (match ints? ds with | some bs => k (f bs) | none => False)
  | _ => False
/-- what a list that changes holds now -/
def und (d : D) (S : Store) : D := match d with
  | .ref l => (match cl S l with | some ds => .lst ds | none => .non)
  | d => d
/-- any: truths in a list, whole numbers in a tuple -/
def anyD (d : D) (k : D → Prop) : Prop := match d with
  | .tup ds => (match ints? ds with | some is => k (.bl (is.any fun i => i != 0)) | none => False)
  | d => onBs (fun bs => .bl (bs.any id)) d k
def maxL (d : D) (k : D → Prop) : Prop := match d with
  | .lst ds => (match ints? ds with | some is => 0 < is.length ∧ ∀ m, m ∈ is → (∀ y, y ∈ is → y ≤ m) → k (.int m) | none => False)
  | _ => False
abbrev I3 := Int × Int × Int
/-- a three of whole numbers -/
def tI3 (t : I3) : D := .tup [.int t.1, .int t.2.1, .int t.2.2]
def tris? : List D → Option (List I3)
  | [] => some []
  | .tup [.int a, .int b, .int c] :: r => (tris? r).map ((a, b, c) :: ·)
  | _ => none
def le3 (p q : I3) : Prop := p.1 < q.1 ∨ (p.1 = q.1 ∧ (p.2.1 < q.2.1 ∨ (p.2.1 = q.2.1 ∧ p.2.2 ≤ q.2.2)))
/-- rows of whole numbers -/
def rws? : List D → Option (List (List Int))
  | [] => some []
  | .tup ds :: r => (match ints? ds with | some is => (rws? r).map (is :: ·) | none => none)
  | _ => none
/-- rows of whole numbers, in order as words are -/
def ltL : List Int → List Int → Bool
  | [], [] => false
  | [], _ :: _ => true
  | _ :: _, [] => false
  | a :: x, b :: y => if a = b then ltL x y else decide (a < b)
def leL (x y : List Int) : Prop := ltL y x = false
def sameN : List (List Int) → Bool
  | [] => true
  | r :: rs => decide (r.length ≠ 0) && rs.all fun q => decide (q.length = r.length)
def sortR (ds : List D) (k : D → Prop) : Prop := match rws? ds with
  | some rs => sameN rs = true ∧ ∀ rs' : List (List Int), rs'.Perm rs → rs'.Pairwise leL → k (.lst (rs'.map fun r => .tup (r.map D.int)))
  | none => False
/-- sorted: threes of whole numbers; any rearrangement that is in order may come -/
def sort3 (ds : List D) (k : D → Prop) : Prop := match tris? ds with
  | some ts => ∀ ts' : List I3, ts'.Perm ts → ts'.Pairwise le3 → k (.lst (ts'.map tI3))
  | none => sortR ds k
def sortL (ds : List D) (k : D → Prop) : Prop := match ints? ds with
  | some ns => ∀ ns' : List Int, ns'.Perm ns → ns'.Pairwise (· ≤ ·) → k (.lst (ns'.map D.int))
  | none => sort3 ds k
def bfn : Bi → List D → Store → (D → Prop) → Prop
  | .len => on1 fun d S k => seq d S fun ds => k (.int ds.length)
  | .abs => on1 fun d _ k => onI (fun a => .int (if a < 0 then -a else a)) d k
  | .max2 => on2 (onII (fun _ _ => True) fun a b => .int (if b > a then b else a))
  | .min2 => on2 (onII (fun _ _ => True) fun a b => .int (if b < a then b else a))
  | .int => on1 fun d _ k => (match d with
    | .int a => k (.int a)
    | .bl b => k (.int (if b then 1 else 0))
    | _ => False)
  | .divmod => on2 (onII (fun _ b => 0 < b ∧ divOk b) fun a b => .tup [.int (a / b), .int (a % b)])
  | .gcd => on2 (onII (fun _ _ => True) fun a b => .int ((Nat.gcd a.natAbs b.natAbs : Nat) : Int))
  | .all => on1 fun d _ k => onBs (fun bs => .bl (bs.all id)) d k
  | .any => on1 fun d _ k => anyD d k
  | .sum => on1 fun d S k => onIs (fun is => .int is.sum) (und d S) k
  | .maxl => on1 fun d S k => maxL (und d S) k
  | .tuple => on1 fun d S k => seq d S fun ds => k (.tup ds)
  | .list => on1 fun d S k => seq d S fun ds => k (.lst ds)
  | .repr => on1 fun d _ k => repD d k
  | .str => on1 fun d _ k => (match d with
    | .int a => a.natAbs < 2 ^ 990 ∧ k (.rep (.int a))
    | _ => False)
  | .sorted => on1 fun d _ k => (match d with
    | .lst ds => sortL ds k
    | .tup ds => sort3 ds k
    | _ => False)
mutual
def bindP : Pt → D → Env → Option Env
  | .nm i, d, σ => some (st σ i d)
  | .tp ps, .tup ds, σ => bindPs ps ds σ
  | .tp ps, .lst ds, σ => bindPs ps ds σ
  | .tp _, _, _ => none
def bindPs : List Pt → List D → Env → Option Env
  | [], [], σ => some σ
  | p :: ps, d :: ds, σ => (match bindP p d σ with | some σ' => bindPs ps ds σ' | none => none)
  | _, _, _ => none
end
/-- what a loop walks stands still: none, or the cell l with these items, or two such -/
abbrev Gd := Option (Nat × List D × Option (Nat × List D))
def gdo (g : Gd) (S : Store) (p : Prop) : Prop := match g with
  | none => p
  | some (l, ds, none) => cl S l = some ds ∧ p
  | some (l, ds, some (l', es)) => (cl S l = some ds ∧ cl S l' = some es) ∧ p
/-- the items of what is walked -/
def itm : D → Store → (Gd → List D → Prop) → Prop
  | .tup ds, _, k => k none ds
  | .lst ds, _, k => k none ds
  | .frz ds, _, k => k none ds
  | .itr ds, _, k => k none ds
  | .itg l es ds, _, k => k (some (l, es, none)) ds
  | .itg2 l es l' es' ds, _, k => k (some (l, es, some (l', es'))) ds
  | .ref l, S, k => (match cl S l with | some ds => k (some (l, ds, none)) ds | none => False)
  | _, _, _ => False
def forC (g : Gd) (one : D → Store → (List D → Store → Prop) → Prop) : List D → Store → (List D → Store → Prop) → Prop
  | [], S, k => gdo g S (k [] S)
  | x :: xs, S, k => gdo g S (one x S fun ys S1 => forC g one xs S1 fun zs S2 => k (ys ++ zs) S2)
def mk (fresh : Bool) (ds : List D) (S : Store) (k : D → Store → Prop) : Prop := match fresh with
  | true => k (.ref S.length) (S ++ [ds])
  | false => k (.lst ds) S
def rngI (lo : Int) : Nat → List D
  | 0 => []
  | n + 1 => .int lo :: rngI (lo + 1) n
/-- downwards, step by step -/
def rngD (hi : Int) : Nat → List D
  | 0 => []
  | n + 1 => .int hi :: rngD (hi - 1) n
def dn3 : List D → (Int → Int → Prop) → Prop
  | [.int i, .int j, .int c], k => (c = -1 ∧ i.natAbs < 2 ^ 60 ∧ j.natAbs < 2 ^ 60) ∧ k i j
  | _, _ => False
/-- a range as a tuple or as a list -/
def mkR (tp : Bool) (ds : List D) : D := match tp with
  | true => .tup ds
  | false => .lst ds
def zipD : List D → List D → List D
  | x :: xs, y :: ys => .tup [x, y] :: zipD xs ys
  | _, _ => []
def enmD : Int → List D → List D
  | _, [] => []
  | i, x :: xs => .tup [.int i, x] :: enmD (i + 1) xs
/-- two sequences that stand still -/
def tgt (kvs : List (Str × D)) (d : D) (k : D → Prop) : Prop := match d with
  | .str z => (match kvs.lookup z with | some v => k v | none => False)
  | _ => False
def tisin (neg : Bool) (kvs : List (Str × D)) (d : D) (k : Bool → Prop) : Prop := match d with
  | .str z => k (neg != (kvs.lookup z).isSome)
  | _ => False
def dsgt (a d : D) (k : D → Prop) : Prop := match a, d with
  | .dss kvs, .str z => (match kvs.lookup z with | some v => k (.str v) | none => False)
  | _, _ => False
def rptD (a b : D) (k : List D → Prop) : Prop := match a, b with
  | .lst xs, .int i => (0 ≤ i ∧ i ≤ SZ ∧ xs.length * i.toNat ≤ SZ) ∧ k (List.replicate i.toNat xs).flatten
  | _, _ => False
/-- what is walked beside numbers, beside another one -/
def enS (x : D) (S : Store) (f : List D → List D) (k : D → Prop) : Prop := match x with
  | .lst xs => k (.itr (f xs))
  | .tup xs => k (.itr (f xs))
  | .ref l => (match cl S l with | some xs => k (.itg l xs (f xs)) | none => False)
  | _ => False
def zpS (x y : D) (S : Store) (k : D → Prop) : Prop := match x, y with
  | .tup xs, .tup ys => k (.itr (zipD xs ys))
  | .lst xs, .lst ys => k (.itr (zipD xs ys))
  | .tup xs, .lst ys => k (.itr (zipD xs ys))
  | .lst xs, .tup ys => k (.itr (zipD xs ys))
  | .lst xs, .ref l => (match cl S l with | some ys => k (.itg l ys (zipD xs ys)) | none => False)
  | .ref l, .tup ys => (match cl S l with | some xs => k (.itg l xs (zipD xs ys)) | none => False)
  | .ref l, .lst ys => (match cl S l with | some xs => k (.itg l xs (zipD xs ys)) | none => False)
  | .tup xs, .ref l => (match cl S l with | some ys => k (.itg l ys (zipD xs ys)) | none => False)
  | .ref l, .ref l' => (match cl S l with
    | some xs => (match cl S l' with | some ys => k (.itg2 l xs l' ys (zipD xs ys)) | none => False)
    | none => False)
  | _, _ => False
def two : D → D → (List D → List D → Prop) → Prop
  | .tup xs, .tup ys, k => k xs ys
  | .lst xs, .lst ys, k => k xs ys
  | .tup xs, .lst ys, k => k xs ys
  | _, _, _ => False
def still : D → (List D → Prop) → Prop
  | .lst xs, k => k xs
  | .tup xs, k => k xs
  | _, _ => False
/-- each once -/
def ddl : List (List Int) → List (List Int)
  | [] => []
  | x :: xs => if x ∈ xs then ddl xs else x :: ddl xs
def nsetD (ds : List D) (k : Int → Prop) : Prop := match rws? ds with
  | some ks => ks.length < 64 ∧ k ((ddl ks).length : Nat)
  | none => False
/-- how many there are, each counted once -/
def setN (x : D) (S : Store) (k : Int → Prop) : Prop := match x with
  | .lst ds => nsetD ds k
  | .ref l => (match cl S l with | some ds => nsetD ds k | none => False)
  | _ => False
def inrD (neg : Bool) (x : D) (ys : List D) (k : Bool → Prop) : Prop := (pure? DEEP x = true ∧ pures? DEEP ys = true) ∧ k (if neg then !inD x ys else inD x ys)
/-- in or not in a row, or a list that changes -/
def isnD (neg : Bool) (x y : D) (S : Store) (k : Bool → Prop) : Prop := match y with
  | .lst ys => inrD neg x ys k
  | .tup ys => inrD neg x ys k
  | .ref l => (match cl S l with | some ys => inrD neg x ys k | none => False)
  | _ => False
/-- a list, one that changes too -/
def rowR (x : D) (S : Store) : Option (List D) := match x with
  | .lst ds => some ds
  | .ref l => cl S l
  | _ => none
/-- lists, changing ones too, compared by == -/
def eqmD (neg : Bool) (x y : D) (S : Store) (k : Bool → Prop) : Prop := match rowR x S with
  | some a => (match rowR y S with
    | some b => (pure? DEEP (.lst a) = true ∧ pure? DEEP (.lst b) = true) ∧ k (neg != eqD (.lst a) (.lst b))
    | none => cop (if neg then .ne else .eq) x y k)
  | none => cop (if neg then .ne else .eq) x y k
/-- two lists, one behind the other -/
def catD (x y : D) (S : Store) (k : List D → Prop) : Prop := match rowR x S with
  | some a => (match rowR y S with
    | some b => a.length + b.length ≤ SZ ∧ k (a ++ b)
    | none => False)
  | none => False
/-- how often a whole number stands in a row of whole numbers -/
def cntD : List D → D → (Int → Prop) → Prop
  | ds, .int i, k => (match ints? ds with | some is => k (is.count i : Nat) | none => False)
  | _, _, _ => False
def cntL (x : D) (k : List D → Prop) : Prop := match x with
  | .lst ds => k ds
  | _ => False
def onRef (d : D) (k : Nat → Prop) : Prop := match d with
  | .ref l => k l
  | _ => False
/-- the dict's cell -/
def onDre (d : D) (k : Nat → Prop) : Prop := match d with
  | .dre l => k l
  | _ => False
/-- a def as a value: which of these -/
def onFn (tbl : List (Str × Nat)) (d : D) (k : Nat → Prop) : Prop := match d with
  | .fn x => (match tbl.lookup x with | some f => k f | none => False)
  | _ => False
/-- rows in order -/
def rowsS (ds : List D) (k : List D → Prop) : Prop := match rws? ds with
  | some rs => sameN rs = true ∧ ∀ rs' : List (List Int), rs'.Perm rs → rs'.Pairwise leL → k (rs'.map fun r => .tup (r.map D.int))
  | none => False
/-- a row is put in, if it is not there -/
def putD (ds : List D) (y : D) (k : List D → Prop) : Prop := match rws? ds with
  | some rs => (match y with
    | .tup es => (match ints? es with | some r => rs.length < SZ ∧ k (if r ∈ rs then ds else ds ++ [.tup es]) | none => False)
    | _ => False)
  | none => False
/-- an item taken out -/
def popD (ds : List D) (j : Int) (k : D → List D → Prop) : Prop := (0 ≤ j ∧ j.natAbs < 2 ^ 60) ∧ match ds[j.toNat]? with
  | some d => k d (ds.eraseIdx j.toNat)
  | none => False
def tv (t : Bool) (d : D) (S : Store) (k : D → Store → Prop) : Prop := match t with
  | true => tru d fun b => k (.bl b) S
  | false => k d S
def asB (k : Bool → Store → Prop) : D → Store → Prop
  | .bl b, S => k b S
  | _, _ => False
def asI (k : Int → Store → Prop) : D → Store → Prop
  | .int i, S => k i S
  | _, _ => False
/-- keyword values in the parameters' order -/
def pick (ord : List Nat) (ds : List D) : List D := ord.map fun i => ds.getD i .non
/-- a def's call: its number, arguments, store, what is wanted of the answer, of an error -/
abbrev Hd := Nat → List D → Store → (D → Store → Prop) → (D → Store → Prop) → Prop
/-- a sequence that is spread out: one that stands -/
def spr : D → (List D → Prop) → Prop
  | .tup xs, k => k xs
  | .lst xs, k => k xs
  | .frz xs, k => k xs
  | _, _ => False
mutual
/-- the value of an expression (t: as a test) -/
def ev (C : Hd) (X : D → Store → Prop) : E → Bool → Env → Store → (D → Store → Prop) → Prop
  | .var i, t, σ, S, k => (match lk σ i with | some d => tv t d S k | none => False)
  | .cst d, t, _, S, k => tv t d S k
  | .glb _ d, t, _, S, k => tv t d S k
  | .bin op a b, t, σ, S, k => ev C X a false σ S fun x S1 => ev C X b false σ S1 fun y S2 => bop op x y fun z => tv t z S2 k
  | .neg a, t, σ, S, k => ev C X a false σ S (asI fun i S1 => tv t (.int (-i)) S1 k)
  | .not a, t, σ, S, k => ev C X a t σ S (asB fun b S1 => k (.bl (!b)) S1)
  | .cmp op a b, _, σ, S, k => ev C X a false σ S fun x S1 => ev C X b false σ S1 fun y S2 => cop op x y fun z => k (.bl z) S2
  | .cmp2 op op' a b c, _, σ, S, k => ev C X a false σ S fun x S1 => ev C X b false σ S1 fun y S2 => cop op x y fun z =>
      brk z (ev C X c false σ S2 fun w S3 => cop op' y w fun z' => k (.bl z') S3) (k (.bl false) S2)
  | .and a b, t, σ, S, k => ev C X a t σ S (asB fun c S1 => brk c (ev C X b t σ S1 k) (k (.bl false) S1))
  | .or a b, t, σ, S, k => ev C X a t σ S (asB fun c S1 => brk c (k (.bl true) S1) (ev C X b t σ S1 k))
  | .ite c a b, t, σ, S, k => ev C X c true σ S (asB fun z S1 => brk z (ev C X a false σ S1 fun x S2 => tv t x S2 k) (ev C X b false σ S1 fun x S2 => tv t x S2 k))
  | .tup es, t, σ, S, k => evs C X es σ S fun ds S1 => tv t (.tup ds) S1 k
  | .lst fr es, t, σ, S, k => evs C X es σ S fun ds S1 => mk fr ds S1 fun d S2 => tv t d S2 k
  | .idx a i, t, σ, S, k => ev C X a false σ S fun x S1 => ev C X i false σ S1 (asI fun j S2 => seq x S2 fun ds => (match nth ds j with | some d => tv t d S2 k | none => False))
  | .slc a lo hi, t, σ, S, k => ev C X a false σ S fun x S1 => evo C X lo σ S1 fun l S2 => evo C X hi σ S2 fun h S3 =>
      (match x with
        | .tup ds => tv t (.tup (slice ds l h)) S3 k
        | .lst ds => tv t (.lst (slice ds l h)) S3 k
        | .frz ds => tv t (.lst (slice ds l h)) S3 k
        | .ref c => (match cl S3 c with | some ds => tv t (.lst (slice ds l h)) S3 k | none => False)
        | _ => False)
  | .rev a, t, σ, S, k => ev C X a false σ S fun x S1 => (match x with
        | .tup ds => tv t (.tup ds.reverse) S1 k
        | .lst ds => tv t (.lst ds.reverse) S1 k
        | _ => False)
  | .call f es, t, σ, S, k => evs C X es σ S fun ds S1 => C f ds S1 (fun d S2 => tv t d S2 k) X
  | .callk f ord es, t, σ, S, k => evs C X es σ S fun ds S1 => C f (pick ord ds) S1 (fun d S2 => tv t d S2 k) X
  | .bi b es, t, σ, S, k => evs C X es σ S fun ds S1 => bfn b ds S1 fun d => tv t d S1 k
  | .isi e ty, _, σ, S, k => ev C X e false σ S fun x S1 => (match tyIs ty x with | some b => k (.bl b) S1 | none => False)
  | .isi2 e ts, _, σ, S, k => ev C X e false σ S fun x S1 => (match tyAny ts x with | some b => k (.bl b) S1 | none => False)
  | .lc fr own p it cond elt, t, σ, S, k => ev C X it false σ S fun x S1 => itm x S1 fun g ds => ds.length ≤ SZ ∧
      forC g (fun y S2 k2 => (match bindP p y (wp0 σ own) with
        | some σ' => evt C X cond σ' S2 fun b S3 => brk b (ev C X elt false σ' S3 fun z S4 => k2 [z] S4) (k2 [] S3)
        | none => False)) ds S1 fun zs S5 => mk fr zs S5 fun d S6 => tv t d S6 k
  | .lc2 fr own p it cond own2 p2 it2 cond2 elt, t, σ, S, k => ev C X it false σ S fun x S1 => itm x S1 fun g ds => ds.length ≤ 1000 ∧
      forC g (fun y S2 k2 => (match bindP p y (wp0 σ own) with
        | some σ' => evt C X cond σ' S2 fun b S3 => brk b (ev C X it2 false σ' S3 fun x2 S4 => itm x2 S4 fun g2 ds2 => ds2.length ≤ 1000 ∧
            forC g2 (fun y2 S5 k3 => (match bindP p2 y2 (wp0 σ' own2) with
              | some σ'' => evt C X cond2 σ'' S5 fun b2 S6 => brk b2 (ev C X elt false σ'' S6 fun z S7 => k3 [z] S7) (k3 [] S6)
              | none => False)) ds2 S4 k2) (k2 [] S3)
        | none => False)) ds S1 fun zs S5 => mk fr zs S5 fun d S6 => tv t d S6 k
  | .rng a b, _, σ, S, k => ev C X a false σ S (asI fun i S1 => ev C X b false σ S1 (asI fun j S2 => (i.natAbs < 2 ^ 60 ∧ j.natAbs < 2 ^ 60) ∧ k (.itr (rngI i (j - i).toNat)) S2))
  | .rng1 b, _, σ, S, k => ev C X b false σ S (asI fun j S2 => j.natAbs < 2 ^ 60 ∧ k (.itr (rngI 0 j.toNat)) S2)
  | .zip a b, _, σ, S, k => ev C X a false σ S fun x S1 => ev C X b false σ S1 fun y S2 => zpS x y S2 fun d => k d S2
  | .enm a, _, σ, S, k => ev C X a false σ S fun x S1 => enS x S1 (enmD 0) fun d => k d S1
  | .app a e, _, σ, S, k => ev C X a false σ S fun x S1 => onRef x fun l => ev C X e false σ S1 fun y S2 => (match cl S2 l with | some ds => ds.length < SZ ∧ k .non (S2.set l (ds ++ [y])) | none => False)
  | .cnt es e, t, σ, S, k => evs C X es σ S fun ds S1 => ev C X e false σ S1 fun y S2 => cntD ds y fun n => tv t (.int n) S2 k
  | .nset a, t, σ, S, k => ev C X a false σ S fun x S1 => setN x S1 fun n => tv t (.int n) S1 k
  | .isn neg a b, _, σ, S, k => ev C X a false σ S fun x S1 => ev C X b false σ S1 fun y S2 => isnD neg x y S2 fun z => k (.bl z) S2
  | .dct, t, _, S, k => tv t .dic S k
  | .cat fr a b, _, σ, S, k => ev C X a false σ S fun x S1 => ev C X b false σ S1 fun y S2 => catD x y S2 fun zs => mk fr zs S2 k
  | .lrg1 tp b, _, σ, S, k => ev C X b false σ S (asI fun j S2 => j.natAbs ≤ 100000 ∧ k (mkR tp (rngI 0 j.toNat)) S2)
  | .lrg2 tp a b, _, σ, S, k => ev C X a false σ S (asI fun i S1 => ev C X b false σ S1 (asI fun j S2 => (i.natAbs ≤ 100000 ∧ j.natAbs ≤ 100000) ∧ k (mkR tp (rngI i (j - i).toNat)) S2))
  | .rngd es, _, σ, S, k => evs C X es σ S fun ds S1 => dn3 ds fun i j => k (.itr (rngD i (i - j).toNat)) S1
  | .eqm neg a b, _, σ, S, k => ev C X a false σ S fun x S1 => ev C X b false σ S1 fun y S2 => eqmD neg x y S2 fun z => k (.bl z) S2
  | .lstf a, _, σ, S, k => ev C X a false σ S fun x S1 => seq x S1 fun ds => k (.ref S1.length) (S1 ++ [ds])
  | .cntl a e, t, σ, S, k => ev C X a false σ S fun x S1 => cntL x fun ds => ev C X e false σ S1 fun y S2 => cntD ds y fun n => tv t (.int n) S2 k
  | .tget _ kvs e, t, σ, S, k => ev C X e false σ S fun x S1 => tgt kvs x fun v => tv t v S1 k
  | .tin neg _ kvs e, t, σ, S, k => ev C X e false σ S fun x S1 => tisin neg kvs x fun b => tv t (.bl b) S1 k
  | .tls _ kvs, t, _, S, k => kvs.length ≤ 1000 ∧ tv t (.lst (kvs.map fun p => .str p.1)) S k
  | .dsp kvs, t, _, S, k => tv t (.dss kvs) S k
  | .dget a e, t, σ, S, k => ev C X a false σ S fun x S1 => ev C X e false σ S1 fun y S2 => dsgt x y fun v => tv t v S2 k
  | .rpt a b, _, σ, S, k => ev C X a false σ S fun x S1 => ev C X b false σ S1 fun y S2 => rptD x y fun zs => k (.ref S2.length) (S2 ++ [zs])
  | .dnew, _, _, S, k => k (.dre S.length) (S ++ [[]])
  | .dlen a, t, σ, S, k => ev C X a false σ S fun x S1 => onDre x fun l => (match cl S1 l with | some ds => tv t (.int ds.length) S1 k | none => False)
  | .dsrt a, _, σ, S, k => ev C X a false σ S fun x S1 => onDre x fun l => (match cl S1 l with | some ds => rowsS ds fun zs => k (.ref S1.length) (S1 ++ [zs]) | none => False)
  | .pop a i, t, σ, S, k => ev C X a false σ S fun x S1 => onRef x fun l => ev C X i false σ S1 (asI fun j S2 => (match cl S2 l with | some ds => popD ds j fun d ds' => tv t d (S2.set l ds') k | none => False))
  | .fnv x, _, _, S, k => k (.fn x) S
  | .callv tbl a es, t, σ, S, k => ev C X a false σ S fun x S1 => onFn tbl x fun f => evs C X es σ S1 fun ds S2 => C f ds S2 (fun d S3 => tv t d S3 k) X
  | .tcat fl es, t, σ, S, k => evss C X es fl σ S fun zs S1 => zs.length ≤ SZ ∧ tv t (.tup zs) S1 k
def evs (C : Hd) (X : D → Store → Prop) : List E → Env → Store → (List D → Store → Prop) → Prop
  | [], _, S, k => k [] S
  | e :: es, σ, S, k => ev C X e false σ S fun d S1 => evs C X es σ S1 fun ds S2 => k (d :: ds) S2
def evss (C : Hd) (X : D → Store → Prop) : List E → List Bool → Env → Store → (List D → Store → Prop) → Prop
  | [], [], _, S, k => k [] S
  | e :: es, false :: fl, σ, S, k => ev C X e false σ S fun d S1 => evss C X es fl σ S1 fun ds S2 => k (d :: ds) S2
  | e :: es, true :: fl, σ, S, k => ev C X e false σ S fun d S1 => spr d fun xs => evss C X es fl σ S1 fun ds S2 => k (xs ++ ds) S2
  | _, _, _, _, _ => False
def evo (C : Hd) (X : D → Store → Prop) : Option E → Env → Store → (Option Int → Store → Prop) → Prop
  | none, _, S, k => k none S
  | some e, σ, S, k => ev C X e false σ S (asI fun i S1 => k (some i) S1)
def evt (C : Hd) (X : D → Store → Prop) : Option E → Env → Store → (Bool → Store → Prop) → Prop
  | none, _, S, k => k true S
  | some e, σ, S, k => ev C X e true σ S (asB k)
end
/-! ### statements -/
structure Ends where
  nx : Env → Store → Prop
  rt : D → Store → Prop
  bk : Env → Store → Prop
  ct : Env → Store → Prop
mutual
def asg (C : Hd) (X : D → Store → Prop) : Tg → D → Env → Store → (Env → Store → Prop) → Prop
  | .pt p, d, σ, S, k => (match bindP p d σ with | some σ' => k σ' S | none => False)
  | .sub o i, d, σ, S, k => ev C X o false σ S fun x S1 => ev C X i false σ S1 (asI fun j S2 => (match x with
        | .ref l => (match cl S2 l with | some ds => (0 ≤ j ∧ j < ds.length) ∧ k σ (S2.set l (ds.set j.toNat d)) | none => False)
        | _ => False))
  | .dsub o i, d, σ, S, k => d = .bl true ∧ ev C X o false σ S fun x S1 => onDre x fun l => ev C X i false σ S1 fun y S2 => (match cl S2 l with | some ds => putD ds y fun ds' => k σ (S2.set l ds') | none => False)
  | .tp ts, d, σ, S, k => (match d with | .tup ds => ds.length = ts.length ∧ asgs C X ts ds σ S k | _ => False)
def asgs (C : Hd) (X : D → Store → Prop) : List Tg → List D → Env → Store → (Env → Store → Prop) → Prop
  | [], [], σ, S, k => k σ S
  | t :: ts, d :: ds, σ, S, k => asg C X t d σ S fun σ1 S1 => asgs C X ts ds σ1 S1 k
  | _, _, _, _, _ => False
end
def sts : List Nat → List D → Env → Env
  | i :: is, d :: ds, σ => sts is ds (st σ i d)
  | _, _, σ => σ
def forW (g : Gd) (body : Env → Store → Ends → Prop) (p : Pt) (N : Ends) : List D → Env → Store → Prop
  | [], σ, S => gdo g S (N.nx σ S)
  | x :: xs, σ, S => gdo g S (match bindP p x σ with
    | some σ' => body σ' S { N with nx := fun σ2 S2 => forW g body p N xs σ2 S2, ct := fun σ2 S2 => forW g body p N xs σ2 S2, bk := N.nx }
    | none => False)
def whlW (c : Env → Store → (Bool → Store → Prop) → Prop) (body : Env → Store → Ends → Prop) (D : Ends) : Nat → Env → Store → Prop
  | 0, _, _ => False
  | n + 1, σ, S => c σ S fun b S1 => brk b (body σ S1 { D with nx := fun σ2 S2 => whlW c body D n σ2 S2, ct := fun σ2 S2 => whlW c body D n σ2 S2, bk := D.nx }) (D.nx σ S1)
mutual
def ex (C : Hd) (X : D → Store → Prop) : Sm → Env → Store → Ends → Prop
  | .set t e, σ, S, D => ev C X e false σ S fun d S1 => asg C X t d σ S1 D.nx
  | .par is es, σ, S, D => evs C X es σ S fun ds S1 => D.nx (sts is ds σ) S1
  | .expr e, σ, S, D => ev C X e false σ S fun _ S1 => D.nx σ S1
  | .ret e, σ, S, D => ev C X e false σ S D.rt
  | .retN, _, S, D => D.rt .non S
  | .iff c a b, σ, S, D => ev C X c true σ S (asB fun z S1 => brk z (exs C X a σ S1 D) (exs C X b σ S1 D))
  | .for_ p it body, σ, S, D => ev C X it false σ S fun x S1 => itm x S1 fun g ds => forW g (exs C X body) p D ds σ S1
  | .whl c body, σ, S, D => ∃ n, whlW (fun σ S k => ev C X c true σ S (asB k)) (exs C X body) D n σ S
  | .raise, _, _, _ => False
  | .raisx _ _, _, _, _ => False
  | .tryx _ _, _, _, _ => False
  | .pass, σ, S, D => D.nx σ S
  | .brk, σ, S, D => D.bk σ S
  | .cont, σ, S, D => D.ct σ S
def exs (C : Hd) (X : D → Store → Prop) : List Sm → Env → Store → Ends → Prop
  | [], σ, S, D => D.nx σ S
  | s :: r, σ, S, D => ex C X s σ S { D with nx := fun σ1 S1 => exs C X r σ1 S1 D }
end
/-- a def: how many parameters, how many slots, its body -/
structure Fn where
  np : Nat
  ns : Nat
  body : List Sm
def start (ds : List D) (n : Nat) : Env := ds.map some ++ List.replicate (n - ds.length) none
def callw (T : Nat → Option Fn) : Nat → Hd
  | 0 => fun _ _ _ _ _ => False
  | n + 1 => fun f ds S k X => match T f with
    | none => False
    | some d => ds.length = d.np ∧ exs (callw T n) X d.body (start ds d.ns) S { nx := fun _ S1 => k .non S1, rt := k, bk := fun _ _ => False, ct := fun _ _ => False }
end FV
set_option Elab.async false
set_option linter.all false
set_option maxRecDepth 100000
set_option maxHeartbeats 4000000
/-! Sort3: sorted of a list or a tuple of threes of ints, of any length. -/
namespace FV
open PySem PySem.Spec PyProof.Rows SrtO L2
def lt3 (p q : I3) : Bool := if p.1 = q.1 then SrtO.lexB p.2 q.2 else decide (p.1 < q.1)
theorem lt3_iff {p q : I3} : lt3 p q = true ↔ p.1 < q.1 ∨ (p.1 = q.1 ∧ (p.2.1 < q.2.1 ∨ (p.2.1 = q.2.1 ∧ p.2.2 < q.2.2))) := by
  unfold lt3
  by_cases e : p.1 = q.1
  · rw [if_pos e, SrtO.lexB_iff]
    omega
  · rw [if_neg e, decide_eq_true_eq]
    omega
theorem lt3_no {p q : I3} : lt3 p q = false ↔ ¬ (p.1 < q.1 ∨ (p.1 = q.1 ∧ (p.2.1 < q.2.1 ∨ (p.2.1 = q.2.1 ∧ p.2.2 < q.2.2)))) := by
  rw [← lt3_iff]
  cases lt3 p q <;> simp
theorem swo3 {α : Type} (k : α → I3) : Swo fun v u => lt3 (k v) (k u) := by
  refine ⟨fun x y h => ?_, fun x y z h1 h2 => ?_⟩
  · have a := lt3_iff.mp h
    refine lt3_no.mpr ?_
    omega
  · have a := lt3_no.mp h1
    have b := lt3_no.mp h2
    refine lt3_no.mpr ?_
    omega
/-- v is a tuple of three ints in the heap -/
def IsTri (h : Heap) (v : Value) (x y z : Int) : Prop := ∃ a o t u r n, v = .ref a ∧ h.get? a = some o ∧ o.cls = .type "tuple" ∧ o.data = .seq #[.int x t, .int y u, .int z r] n
theorem IsTri.keeps {h h' : Heap} {v : Value} {x y z : Int} (p : IsTri h v x y z) (k : ∀ b o, h.get? b = some o → o.cls = .type "tuple" → h'.get? b = some o) : IsTri h' v x y z := by
  obtain ⟨a, o, t, u, r, n, e, ho, hc, hd⟩ := p
  exact ⟨a, o, t, u, r, n, e, k _ _ ho hc, hc, hd⟩
theorem firsts3 {h : Heap} : ∀ {vs : List Value}, (∀ v ∈ vs, ∃ x y z, IsTri h v x y z) → ∃ fs : List Value, PySem.W.KatTups h vs fs ∧ fs.length = vs.length ∧ ∀ f ∈ fs, ∃ x t, f = Value.int x t
  | [], _ => ⟨[], PySem.W.KatTups.nil, rfl, fun _ hm => by simp at hm⟩
  | v :: vs, hp => by
    obtain ⟨fs, h1, h2, h3⟩ := firsts3 (vs := vs) fun v' hm => hp v' (List.mem_cons_of_mem _ hm)
    obtain ⟨x, y, z, a, o, t, u, r, n, e, ho, hc, hd⟩ := hp v (List.mem_cons_self ..)
    subst e
    refine ⟨.int x t :: fs, PySem.W.KatTups.cons ho hc hd rfl h1, by rw [List.length_cons, List.length_cons, h2], fun f hm => ?_⟩
    rcases List.mem_cons.mp hm with rfl | hm
    · exact ⟨x, t, rfl⟩
    · exact h3 f hm
section
variable {prog : Program} {w : World} {A : Around} {E : Value → Shared → Prop} {s : Shared}
theorem tri_cmp {vs : List Value} {k : Value → I3} (hp : ∀ v ∈ vs, IsTri s.heap v (k v).1 (k v).2.1 (k v).2.2) : Cmp prog w A s (tuples' true) (fun p => p.1 ∈ vs) (lt2 fun v u => lt3 (k v) (k u)) := by
  intro p q hm hm'
  have h1 := hp _ hm
  have h2 := hp _ hm'
  show wpAny (model prog w) A (keyLt' (tuples' true) p.1 q.1) (fun r s' => s' = s ∧ r = lt3 (k p.1) (k q.1)) (fun _ _ => False) s
  unfold lt3 SrtO.lexB
  generalize (k p.1).1 = x at h1 ⊢
  generalize (k p.1).2.1 = y at h1 ⊢
  generalize (k p.1).2.2 = z at h1 ⊢
  generalize (k q.1).1 = x' at h2 ⊢
  generalize (k q.1).2.1 = y' at h2 ⊢
  generalize (k q.1).2.2 = z' at h2 ⊢
  obtain ⟨a, o, t, u, r, n, e, ho, hc, hd⟩ := h1
  obtain ⟨a', o', t', u', r', n', e', ho', hc', hd'⟩ := h2
  rw [e, e']
  refine PySem.W.kat_lt ho hd ho' hd' ?_
  show PySem.W.KatLex prog w A true (decide (3 < 3)) _ [(.int x t, .int x' t'), (.int y u, .int y' u'), (.int z r, .int z' r')] 0 s
  refine PySem.W.kat_cons (SeqAt.EqAt.int_int x t x' t' prog w _ _ ?_)
  refine PySem.W.kat_go (fun e1 => ?_) (fun e1 => ?_)
  · have ex : x = x' := by simpa using e1
    refine PySem.W.kat_yes (PySem.W.kat_cons (SeqAt.EqAt.int_int y u y' u' prog w _ _ ?_))
    refine PySem.W.kat_go (fun e2 => ?_) (fun e2 => ?_)
    · have ey : y = y' := by simpa using e2
      refine PySem.W.kat_yes (PySem.W.kat_cons (SeqAt.EqAt.int_int z r z' r' prog w _ _ ?_))
      have e4 : (if x = x' then (if y = y' then decide (z < z') else decide (y < y')) else decide (x < x')) = decide (z < z') := by rw [if_pos ex, if_pos ey]
      refine PySem.W.kat_go (fun e3 => ?_) (fun e3 => ?_)
      · have ez : z = z' := by simpa using e3
        have e5 : decide (z < z') = false := by rw [ez]; exact decide_eq_false (Int.lt_irrefl _)
        exact PySem.W.kat_yes (PySem.W.kat_nil ⟨rfl, (e4.trans e5).symm⟩)
      · refine PySem.W.kat_no (PySem.W.kat_one _ _ (PyProof.Rows.lt_int ?_))
        exact (show s = s ∧ decide (z < z') = (if x = x' then (if y = y' then decide (z < z') else decide (y < y')) else decide (x < x')) from ⟨rfl, e4.symm⟩)
    · have ey : ¬ y = y' := by simpa using e2
      have e4 : (if x = x' then (if y = y' then decide (z < z') else decide (y < y')) else decide (x < x')) = decide (y < y') := by rw [if_pos ex, if_neg ey]
      refine PySem.W.kat_no (PySem.W.kat_one _ _ (PyProof.Rows.lt_int ?_))
      exact (show s = s ∧ decide (y < y') = (if x = x' then (if y = y' then decide (z < z') else decide (y < y')) else decide (x < x')) from ⟨rfl, e4.symm⟩)
  · have ex : ¬ x = x' := by simpa using e1
    have e3 : (if x = x' then (if y = y' then decide (z < z') else decide (y < y')) else decide (x < x')) = decide (x < x') := if_neg ex
    exact PySem.W.kat_no (oneLt_int ⟨rfl, e3.symm⟩)
theorem tris_sortableO {a : Addr} {vs : List Value} {k : Value → I3} (h0 : 0 < vs.length) (hp : ∀ v ∈ vs, IsTri s.heap v (k v).1 (k v).2.1 (k v).2.2) (ha : ∀ o, s.heap.get? a = some o → o.cls ≠ .type "tuple") : SortableO prog w A s a vs fun v u => lt3 (k v) (k u) := by
  intro h' keep
  have hp' : ∀ v ∈ vs, IsTri h' v (k v).1 (k v).2.1 (k v).2.2 := fun v hm => (hp v hm).keeps fun b o e c => keep b o (fun z => by subst z; exact ha o e c) e
  obtain ⟨fs, h1, h2, h3⟩ := firsts3 fun v hm => ⟨_, _, _, hp' v hm⟩
  refine ⟨tuples' true, fun Q E hq => ?_, tri_cmp hp'⟩
  refine PySem.W.kat_kind (T := .type "int") h1 (by omega) (fun f hm => ?_) (by rfl) ?_
  · obtain ⟨x, t, rfl⟩ := h3 f hm
    exact PySem.W.Looks.now
  · have e : (Value.type "int" != Value.type "tuple") = true := by first | decide +kernel | rfl | decide
    rw [e]
    exact hq
/-- what collect makes of a list or a tuple: where the heap stands behind it -/
theorem collect_tl {Q : List Value → Shared → Prop} (it : Addr) {T : String} {o : Obj} {items : Array Value} {n : Nat} (hT : T = "list" ∨ T = "tuple")
    (ho : s.heap.get? it = some o) (hc : o.cls = .type T) (hd : o.data = .seq items n) (hsz : items.size ≤ sizeLine)
    (hQ : ∀ h', (∀ b o', s.heap.get? b = some o' → h'.get? b = some o') → s.heap.objs.size ≤ h'.objs.size → Q items.toList { s with heap := h' }) :
    wpAny (model prog w) A (collect (.ref it)) Q E s := by
  unfold collect
  refine wpAny_bind (wpAny_runValue (codeAny_builtin F.entry_proto_collect ?_))
  rw [Around.under_plainId F.plain_proto_collect _]
  show wpAny _ A.in1 (newList [] >>= fun l => again (.builtin "list.__iadd__" ⟨[l, .ref it], []⟩)) _ _ s
  refine wpAny_bind (wpAny_newObj_type ?_)
  refine wpAny_pure ⟨plainId_quiet F.plain_list_iadd _, codeAny_builtin F.entry_list_iadd ?_⟩
  rw [Around.under_plainId F.plain_list_iadd _]
  have h1 : (s.heap.push { cls := .type "list", data := .seq ([] : List Value).toArray }).get? s.heap.objs.size = some { cls := .type "list", data := .seq #[] 0 } := Heap.get?_push_size _ rfl
  have h2 := Heap.get?_update_self (Obj.mapSeq (· ++ items)) h1 rfl
  refine wpAny_mono (wpAny_extend_seq (hsz := hsz) (A := A) (R := fun r s' => r = .ok (.ret (.ref s.heap.objs.size)) ∧ s' = { s with heap := (s.heap.push { cls := .type "list", data := .seq ([] : List Value).toArray }).update s.heap.objs.size (Obj.mapSeq (· ++ items)) })
    (s := { s with heap := s.heap.push { cls := .type "list", data := .seq ([] : List Value).toArray } }) _ it _ 0 hT h1 (Heap.get?_push_of_some _ ho) hc hd ⟨rfl, rfl⟩) (fun fin s' h => ?_) (fun e s' h => absurd h.1 (by simp))
  have fin' : wpAny (model prog w) A (match Value.ref s.heap.objs.size with
      | Value.ref a => do
        match (← load a).data with
          | Data.seq xs _ => pure xs.toList
          | _ => unsupported "internal:collect"
      | _ => unsupported "internal:collect") Q E { s with heap := (s.heap.push { cls := .type "list", data := .seq ([] : List Value).toArray }).update s.heap.objs.size (Obj.mapSeq (· ++ items)) } := by
    show wpAny _ A (load s.heap.objs.size >>= _) _ _ _
    refine wpAny_bind (wpAny_load h2 (wpAny_pure ?_))
    show Q ((#[] : Array Value) ++ items).toList _
    rw [show ((#[] : Array Value) ++ items).toList = items.toList by simp]
    refine hQ _ (fun b o' hb => (Heap.get?_update_other _ _ (Nat.ne_of_gt (Heap.lt_size hb))).trans (Heap.get?_push_of_some _ hb)) ?_
    rw [Heap.size_update, size_push']
    exact Nat.le_succ _
  cases fin with
  | done f =>
    obtain ⟨e, rfl⟩ := h
    cases e
    exact fin'
  | again c' => exact ⟨h.1, codeAny_mono h.2 fun r s'' hr => by obtain ⟨rfl, rfl⟩ := hr; exact fin'⟩
/-- sorted(l), l a list or a tuple of threes of ints -/
theorem sorted_tris {l : Addr} {T : String} {vs : List Value} {n : Nat} {o : Obj} {k : Value → I3} {Q : Value → Shared → Prop} (hT : T = "list" ∨ T = "tuple") (ho : s.heap.get? l = some o) (hc : o.cls = .type T) (hd : o.data = .seq vs.toArray n)
    (hz : vs.length ≤ sizeLine) (hp : ∀ v ∈ vs, IsTri s.heap v (k v).1 (k v).2.1 (k v).2.2)
    (h : ∀ (h' : Heap) (d : Addr) (out : List Value), Srtd (fun v u => lt3 (k v) (k u)) out → Stb (fun v u => lt3 (k v) (k u)) out vs → (∀ b o, s.heap.get? b = some o → h'.get? b = some o) → s.heap.objs.size ≤ d → (∃ n, h'.get? d = some (seqObj "list" out.toArray n)) → Q (.ref d) { s with heap := h' }) :
    wpAny (model prog w) A (call (.builtin "sorted") [.ref l]) Q E s := by
  refine Calls.call_function_entry kind_sorted plain_sorted entry_sorted (args_sorted1 _) ?_
  unfold Builtin.«sorted»
  refine wpAny_bind (m := checkCount "sorted" 1 1 _) (wpAny_pure ?_)
  refine wpAny_bind (collect_tl l hT ho hc hd (by rw [List.size_toArray]; exact hz) fun h₁ kp le => ?_)
  have hz' : vs.toArray.toList.length ≤ sizeLine := hz
  refine wpAny_bind (wpAny_newList ?_ hz')
  have hoL : (h₁.push (seqObj "list" vs.toArray 0)).get? h₁.objs.size = some (seqObj "list" vs.toArray 0) := Heap.get?_push_size _ rfl
  have keep : ∀ b o, s.heap.get? b = some o → b ≠ h₁.objs.size ∧ (h₁.push (seqObj "list" vs.toArray 0)).get? b = some o := fun b o q => by
    have q1 := kp b o q
    exact ⟨Nat.ne_of_lt (Heap.lt_size q1), Heap.get?_push_of_some _ q1⟩
  show wpAny _ _ _ _ _ { s with heap := h₁.push (seqObj "list" vs.toArray 0) }
  refine wpAny_bind (wpAny_holding (wpAny_call_entry slot_list_sort ⟨_, hoL, rfl⟩ entry_list_sort (list_sort_ord (swo3 k) hoL hz (fun h2 => tris_sortableO (by omega) (fun v hv => (hp v hv).keeps fun b o e _ => (keep b o e).2) fun o e => ?_) fun out hs hb => ⟨_, rfl, ?_⟩) (args_list_sort _)))
  · have e' : some o = some (seqObj "list" vs.toArray 0) := e.symm.trans hoL
    cases e'
    intro c
    exact absurd (Value.type.inj c) (by decide)
  · refine wpAny_pure ⟨_, rfl, ?_⟩
    refine h _ h₁.objs.size out hs hb (fun b o e => ?_) ?_ (sortedHeap_at hoL)
    · obtain ⟨k1, k2⟩ := keep b o e
      rw [sortedHeap_old k1 (Heap.lt_size k2)]; exact k2
    · exact le
end
end FV
set_option Elab.async false
set_option linter.all false
set_option maxRecDepth 100000
set_option maxHeartbeats 4000000
/-! SortR: sorted of a list or a tuple of rows of ints, all of one length. -/
namespace FV
open PySem PySem.Spec PyProof.Rows SrtO L2
theorem ltL_asym : ∀ x y : List Int, ltL x y = true → ltL y x = false
  | [], [], h => by cases h
  | [], _ :: _, _ => rfl
  | _ :: _, [], h => by cases h
  | a :: x, b :: y, h => by
    unfold ltL at h ⊢
    by_cases e : a = b
    · rw [if_pos e] at h
      rw [if_pos e.symm]
      exact ltL_asym x y h
    · rw [if_neg e] at h
      rw [if_neg fun z => e z.symm]
      have := of_decide_eq_true h
      exact decide_eq_false (by omega)
theorem ltL_tr : ∀ x y z : List Int, ltL y x = false → ltL z y = false → ltL z x = false
  | [], [], [], _, _ => rfl
  | [], [], _ :: _, _, _ => rfl
  | [], _ :: _, [], _, h => rfl
  | [], _ :: _, _ :: _, _, _ => rfl
  | _ :: _, [], _, h, _ => by cases h
  | _ :: _, _ :: _, [], _, h => by cases h
  | a :: x, b :: y, c :: z, h1, h2 => by
    unfold ltL at h1 h2 ⊢
    by_cases e1 : b = a
    · subst e1
      rw [if_pos rfl] at h1
      by_cases e2 : c = b
      · subst e2
        rw [if_pos rfl] at h2 ⊢
        exact ltL_tr x y z h1 h2
      · rw [if_neg e2] at h2 ⊢
        exact h2
    · rw [if_neg e1] at h1
      have h1 := of_decide_eq_false h1
      by_cases e2 : c = b
      · subst e2
        rw [if_neg e1]
        exact decide_eq_false h1
      · rw [if_neg e2] at h2
        have h2 := of_decide_eq_false h2
        have e3 : ¬ c = a := by omega
        rw [if_neg e3]
        exact decide_eq_false (by omega)
theorem swoL {α : Type} (k : α → List Int) : Swo fun v u => ltL (k v) (k u) := ⟨fun x y h => ltL_asym _ _ h, fun x y z h1 h2 => ltL_tr _ _ _ h1 h2⟩
/-- v is a tuple of these ints in the heap -/
def IsRow (h : Heap) (v : Value) (ns : List Int) : Prop := ∃ a o its n, v = .ref a ∧ h.get? a = some o ∧ o.cls = .type "tuple" ∧ o.data = .seq its n ∧ IntsAre its.toList ns
theorem IsRow.keeps {h h' : Heap} {v : Value} {ns : List Int} (p : IsRow h v ns) (k : ∀ b o, h.get? b = some o → o.cls = .type "tuple" → h'.get? b = some o) : IsRow h' v ns := by
  obtain ⟨a, o, its, n, e, ho, hc, hd⟩ := p
  exact ⟨a, o, its, n, e, k _ _ ho hc, hc, hd⟩
theorem firstsR {h : Heap} {k : Value → List Int} : ∀ {vs : List Value}, (∀ v ∈ vs, IsRow h v (k v) ∧ k v ≠ []) → ∃ fs : List Value, PySem.W.KatTups h vs fs ∧ fs.length = vs.length ∧ ∀ f ∈ fs, ∃ x t, f = Value.int x t
  | [], _ => ⟨[], PySem.W.KatTups.nil, rfl, fun _ hm => by simp at hm⟩
  | v :: vs, hp => by
    obtain ⟨fs, h1, h2, h3⟩ := firstsR (vs := vs) fun v' hm => hp v' (List.mem_cons_of_mem _ hm)
    obtain ⟨⟨a, o, its, n, e, ho, hc, hd, hi⟩, hne⟩ := hp v (List.mem_cons_self ..)
    subst e
    generalize k (.ref a) = ns at hi hne
    obtain ⟨l⟩ := its
    cases ns with
    | nil => exact absurd rfl hne
    | cons m ns =>
      cases hi with
      | cons m t hi =>
        refine ⟨.int m t :: fs, PySem.W.KatTups.cons ho hc hd rfl h1, by rw [List.length_cons, List.length_cons, h2], fun f hm => ?_⟩
        rcases List.mem_cons.mp hm with rfl | hm
        · exact ⟨m, t, rfl⟩
        · exact h3 f hm
section
variable {prog : Program} {w : World} {A : Around} {E : Value → Shared → Prop} {s : Shared}
theorem kat_rows {Q : Bool → Shared → Prop} {b : Bool} : ∀ {xs ys : List Int} {us vs : List Value} {i : Nat}, IntsAre us xs → IntsAre vs ys → xs.length = ys.length → Q (ltL xs ys) s → PySem.W.KatLex prog w A b false Q (us.zip vs) i s
  | [], [], _, _, _, .nil, .nil, _, h => PySem.W.kat_nil h
  | [], _ :: _, _, _, _, _, _, hl, _ => by simp at hl
  | _ :: _, [], _, _, _, _, _, hl, _ => by simp at hl
  | x :: xs, y :: ys, _, _, i, .cons _ t hu, .cons _ r hv, hl, h => by
    rw [List.zip_cons_cons]
    refine PySem.W.kat_cons (SeqAt.EqAt.int_int x t y r prog w _ _ ?_)
    refine PySem.W.kat_go (fun e1 => ?_) (fun e1 => ?_)
    · have ex : x = y := by simpa using e1
      refine PySem.W.kat_yes (kat_rows hu hv (by simpa using hl) ?_)
      have e2 : ltL (x :: xs) (y :: ys) = ltL xs ys := by unfold ltL; rw [if_pos ex]; cases xs <;> cases ys <;> rfl
      rw [← e2]
      exact h
    · have ex : ¬ x = y := by simpa using e1
      have e2 : ltL (x :: xs) (y :: ys) = decide (x < y) := by unfold ltL; rw [if_neg ex]
      rw [e2] at h
      refine PySem.W.kat_no ?_
      cases (b && i == 0) with
      | true => exact oneLt_int h
      | false => exact PySem.W.kat_one _ _ (PyProof.Rows.lt_int h)
theorem row_cmp {vs : List Value} {d : Nat} {k : Value → List Int} (hp : ∀ v ∈ vs, IsRow s.heap v (k v) ∧ (k v).length = d) : Cmp prog w A s (tuples' true) (fun p => p.1 ∈ vs) (lt2 fun v u => ltL (k v) (k u)) := by
  intro p q hm hm'
  obtain ⟨h1, l1⟩ := hp _ hm
  obtain ⟨h2, l2⟩ := hp _ hm'
  show wpAny (model prog w) A (keyLt' (tuples' true) p.1 q.1) (fun r s' => s' = s ∧ r = ltL (k p.1) (k q.1)) (fun _ _ => False) s
  generalize k p.1 = xs at h1 l1 ⊢
  generalize k q.1 = ys at h2 l2 ⊢
  obtain ⟨a, o, its, n, e, ho, hc, hd, hi⟩ := h1
  obtain ⟨a', o', its', n', e', ho', hc', hd', hi'⟩ := h2
  rw [e, e']
  refine PySem.W.kat_lt ho hd ho' hd' ?_
  have e1 : decide (its.size < its'.size) = false := by
    rw [← Array.length_toList, ← Array.length_toList, hi.length, hi'.length, l1, l2]
    exact decide_eq_false (by omega)
  rw [e1]
  exact kat_rows hi hi' (by omega) ⟨rfl, rfl⟩
theorem rows_sortableO {a : Addr} {vs : List Value} {d : Nat} {k : Value → List Int} (h0 : 0 < vs.length) (hd : d ≠ 0) (hp : ∀ v ∈ vs, IsRow s.heap v (k v) ∧ (k v).length = d) (ha : ∀ o, s.heap.get? a = some o → o.cls ≠ .type "tuple") : SortableO prog w A s a vs fun v u => ltL (k v) (k u) := by
  intro h' keep
  have hp' : ∀ v ∈ vs, IsRow h' v (k v) ∧ (k v).length = d := fun v hm => ⟨(hp v hm).1.keeps fun b o e c => keep b o (fun z => by subst z; exact ha o e c) e, (hp v hm).2⟩
  obtain ⟨fs, h1, h2, h3⟩ := firstsR fun v hm => ⟨(hp' v hm).1, fun z => hd (by rw [← (hp' v hm).2, z]; rfl)⟩
  refine ⟨tuples' true, fun Q E hq => ?_, row_cmp hp'⟩
  refine PySem.W.kat_kind (T := .type "int") h1 (by omega) (fun f hm => ?_) (by rfl) ?_
  · obtain ⟨x, t, rfl⟩ := h3 f hm
    exact PySem.W.Looks.now
  · have e : (Value.type "int" != Value.type "tuple") = true := by first | decide +kernel | rfl | decide
    rw [e]
    exact hq
/-- sorted(l), l a list or a tuple of rows -/
theorem sorted_rows {l : Addr} {T : String} {vs : List Value} {n d : Nat} {o : Obj} {k : Value → List Int} {Q : Value → Shared → Prop} (hT : T = "list" ∨ T = "tuple") (ho : s.heap.get? l = some o) (hc : o.cls = .type T) (hd : o.data = .seq vs.toArray n)
    (hz : vs.length ≤ sizeLine) (h0 : d ≠ 0) (hp : ∀ v ∈ vs, IsRow s.heap v (k v) ∧ (k v).length = d)
    (h : ∀ (h' : Heap) (d : Addr) (out : List Value), Srtd (fun v u => ltL (k v) (k u)) out → Stb (fun v u => ltL (k v) (k u)) out vs → (∀ b o, s.heap.get? b = some o → h'.get? b = some o) → s.heap.objs.size ≤ d → (∃ n, h'.get? d = some (seqObj "list" out.toArray n)) → Q (.ref d) { s with heap := h' }) :
    wpAny (model prog w) A (call (.builtin "sorted") [.ref l]) Q E s := by
  refine Calls.call_function_entry kind_sorted plain_sorted entry_sorted (args_sorted1 _) ?_
  unfold Builtin.«sorted»
  refine wpAny_bind (m := checkCount "sorted" 1 1 _) (wpAny_pure ?_)
  refine wpAny_bind (collect_tl l hT ho hc hd (by rw [List.size_toArray]; exact hz) fun h₁ kp le => ?_)
  have hz' : vs.toArray.toList.length ≤ sizeLine := hz
  refine wpAny_bind (wpAny_newList ?_ hz')
  have hoL : (h₁.push (seqObj "list" vs.toArray 0)).get? h₁.objs.size = some (seqObj "list" vs.toArray 0) := Heap.get?_push_size _ rfl
  have keep : ∀ b o, s.heap.get? b = some o → b ≠ h₁.objs.size ∧ (h₁.push (seqObj "list" vs.toArray 0)).get? b = some o := fun b o q => by
    have q1 := kp b o q
    exact ⟨Nat.ne_of_lt (Heap.lt_size q1), Heap.get?_push_of_some _ q1⟩
  show wpAny _ _ _ _ _ { s with heap := h₁.push (seqObj "list" vs.toArray 0) }
  refine wpAny_bind (wpAny_holding (wpAny_call_entry slot_list_sort ⟨_, hoL, rfl⟩ entry_list_sort (list_sort_ord (swoL k) hoL hz (fun h2 => rows_sortableO (by omega) h0 (fun v hv => ⟨(hp v hv).1.keeps fun b o e _ => (keep b o e).2, (hp v hv).2⟩) fun o e => ?_) fun out hs hb => ⟨_, rfl, ?_⟩) (args_list_sort _)))
  · have e' : some o = some (seqObj "list" vs.toArray 0) := e.symm.trans hoL
    cases e'
    intro c
    exact absurd (Value.type.inj c) (by decide)
  · refine wpAny_pure ⟨_, rfl, ?_⟩
    refine h _ h₁.objs.size out hs hb (fun b o e => ?_) le (sortedHeap_at hoL)
    obtain ⟨k1, k2⟩ := keep b o e
    rw [sortedHeap_old k1 (Heap.lt_size k2)]; exact k2
/-- sorted(l), whatever l is, if its items are told -/
theorem sorted_rowsC {l : Addr} {vs : List Value} {d : Nat} {k : Value → List Int} {Q : Value → Shared → Prop} (hcol : ∀ (R : List Value → Shared → Prop) (E' : Value → Shared → Prop), (∀ (h₁ : Heap) (tk : Nat), (∀ b o, s.heap.get? b = some o → h₁.get? b = some o) → R vs { s with heap := h₁, toks := tk }) → wpAny (model prog w) A.in1 (collect (.ref l)) R E' s)
    (hz : vs.length ≤ sizeLine) (h0 : d ≠ 0) (hp : ∀ v ∈ vs, IsRow s.heap v (k v) ∧ (k v).length = d)
    (h : ∀ (h₁ h' : Heap) (tk : Nat) (d : Addr) (out : List Value), Srtd (fun v u => ltL (k v) (k u)) out → Stb (fun v u => ltL (k v) (k u)) out vs → (∀ b o, s.heap.get? b = some o → h₁.get? b = some o) → (∀ b o, h₁.get? b = some o → h'.get? b = some o) → h₁.objs.size ≤ d → (∃ n, h'.get? d = some (seqObj "list" out.toArray n)) → Q (.ref d) { s with heap := h', toks := tk }) :
    wpAny (model prog w) A (call (.builtin "sorted") [.ref l]) Q E s := by
  refine Calls.call_function_entry kind_sorted plain_sorted entry_sorted (args_sorted1 _) ?_
  unfold Builtin.«sorted»
  refine wpAny_bind (m := checkCount "sorted" 1 1 _) (wpAny_pure ?_)
  refine wpAny_bind (hcol _ _ fun h₁ tk kp => ?_)
  refine wpAny_bind (wpAny_newList ?_ hz)
  have hoL : (h₁.push (seqObj "list" vs.toArray 0)).get? h₁.objs.size = some (seqObj "list" vs.toArray 0) := Heap.get?_push_size _ rfl
  have keep : ∀ b o, s.heap.get? b = some o → b ≠ h₁.objs.size ∧ (h₁.push (seqObj "list" vs.toArray 0)).get? b = some o := fun b o q => by
    have q1 := kp b o q
    exact ⟨Nat.ne_of_lt (Heap.lt_size q1), Heap.get?_push_of_some _ q1⟩
  show wpAny _ _ _ _ _ { s with heap := h₁.push (seqObj "list" vs.toArray 0), toks := tk }
  refine wpAny_bind (wpAny_holding (wpAny_call_entry slot_list_sort ⟨_, hoL, rfl⟩ entry_list_sort (list_sort_ord (swoL k) hoL hz (fun h2 => rows_sortableO (by omega) h0 (fun v hv => ⟨(hp v hv).1.keeps fun b o e _ => (keep b o e).2, (hp v hv).2⟩) fun o e => ?_) fun out hs hb => ⟨_, rfl, ?_⟩) (args_list_sort _)))
  · have e' : some o = some (seqObj "list" vs.toArray 0) := e.symm.trans hoL
    cases e'
    intro c
    exact absurd (Value.type.inj c) (by decide)
  · refine wpAny_pure ⟨_, rfl, ?_⟩
    refine h h₁ _ tk h₁.objs.size out hs hb kp (fun b o e => ?_) (Nat.le_refl _) (sortedHeap_at hoL)
    have k2 : (h₁.push (seqObj "list" vs.toArray 0)).get? b = some o := Heap.get?_push_of_some _ e
    rw [sortedHeap_old (Nat.ne_of_lt (Heap.lt_size e)) (Heap.lt_size k2)]; exact k2
end
end FV
set_option Elab.async false
set_option linter.all false
set_option maxRecDepth 100000
set_option maxHeartbeats 2000000
/-! TabR: dicts of the module with text keys that nobody changes. -/
namespace FV
open PySem PySem.Spec PyProof.Rows L2
/-- at a: a written dict of the module with these keys -/
def KTab (K : PySem.W.Frag) (w : World) (a : Addr) (ks : List Str) : Prop := ∃ es n, KDict K w a es n ∧ es.toList.map He.keyOf = He.keysIn w.params ks
theorem ktab_of {K : PySem.W.Frag} {w : World} {a : Addr} {ks : List Str} (h : He.dicW K a = some (He.keysIn w.params ks)) : KTab K w a ks := by
  obtain ⟨es, n, D⟩ := He.dicW_ok h
  refine ⟨es, n, D, ?_⟩
  have e := D.at_
  unfold He.dicW at h
  rw [e] at h
  have h1 : (match decide (("dict" : String) = "dict") && ((#[] : Array (Option Value)).isEmpty && !(a == sysModules)) with
    | true => some (es.toList.map He.keyOf)
    | false => none) = some (He.keysIn w.params ks) := h
  rw [D.low] at h1
  exact Option.some.inj h1
theorem keyOf_str {e : DictEntry} {x : Str} {i : Int} (h : He.keyOf e = some (x, i)) : ∃ t, e.key = .str x t := by
  unfold He.keyOf at h
  split at h
  · rename_i y t q
    cases h
    exact ⟨t, q⟩
  · cases h
theorem keys_str {P : Params} : ∀ {es : List DictEntry} {ks : List Str}, es.map He.keyOf = He.keysIn P ks → Vals (ks.map V.str) (es.map (·.key)) ∧ ∀ e ∈ es, ∃ x ∈ ks, ∃ t, e.key = .str x t
  | [], [], _ => ⟨.nil, fun e h => by cases h⟩
  | [], _ :: _, h => by cases h
  | _ :: _, [], h => by cases h
  | e :: es, k :: ks, h => by
    have h : He.keyOf e :: es.map He.keyOf = some (k, PyData.keyHash P k) :: He.keysIn P ks := h
    injection h with h1 h2
    obtain ⟨t, q⟩ := keyOf_str h1
    obtain ⟨r1, r2⟩ := keys_str (P := P) (es := es) (ks := ks) h2
    refine ⟨.cons (show L2.RelV (V.str k) e.key by rw [q]; exact ⟨t, rfl⟩) r1, fun e' h' => ?_⟩
    rcases List.mem_cons.mp h' with z | z
    · subst z; exact ⟨k, List.mem_cons_self, t, q⟩
    · obtain ⟨x, hx, r⟩ := r2 e' z
      exact ⟨x, List.mem_cons_of_mem _ hx, r⟩
theorem ktab_none {K : PySem.W.Frag} {w : World} {a : Addr} {ks : List Str} (h : KTab K w a ks) {z : Str} (hz : z ∉ ks) : PySem.W.nsIn K a z = some none := by
  obtain ⟨es, n, D, hk⟩ := h
  have q := (keys_str hk).2
  unfold PySem.W.nsIn
  rw [D.at_]
  have e1 : es.toList.find? (·.key.isStr z) = none := by
    rw [List.find?_eq_none]
    intro e he
    obtain ⟨x, hx, t, ek⟩ := q e he
    rw [ek]
    intro hh
    have : x = z := by
      have hh : decide (x = z) = true := by
        first
          | exact hh
          | simpa [Value.isStr] using hh
      exact of_decide_eq_true hh
    exact hz (this ▸ hx)
  have e2 : es.toList.any (·.refKey) = false := by
    rw [List.any_eq_false]
    intro e he
    obtain ⟨x, hx, t, ek⟩ := q e he
    unfold DictEntry.refKey
    rw [ek]
    exact Bool.false_ne_true
  show (match es.toList.find? (·.key.isStr z) with
    | some e => some (some e.val)
    | none => if es.toList.any (·.refKey) then none else some none) = some none
  rw [e1, e2]
  rfl
section
variable {X : Cx} {a : Addr} {es : Array DictEntry} {n : Nat} {ks : List Str}
/-- d[key] -/
theorem ix_kd (D : KDict X.K X.w a es n) : IxR X (fun x y H Q => ∃ (z : Str) (u0 : Value) (v0 : V), x = .ref a ∧ y = .str z ∧ PySem.W.nsIn X.K a z = some (some u0) ∧ RelV v0 u0 ∧ Q v0 H) := by
  intro value slice pins s σ H x y v u Q I rx ry h hs
  have g := op_item_kd D pins s σ H x y v u Q I rx ry h
  obtain ⟨z, u0, v0, rfl, rfl, e, r, q⟩ := h
  cases rx
  have hT := kd_type D I
  unfold subscriptTail
  refine wpAny_bind ?_
  rw [getitemInPython_of_ne hT.not_modules]
  refine wpAny_bind (wpAny_specialOf hT PySem.F.slot_dict_getitem.lookup ?_)
  have fin : wpAny (model X.prog X.w) X.A (subscripted slice false (.ref a) u) (fun r s₃ => wpAny (model X.prog X.w) X.A (letTemporaryGo value (.ref a) r >>= fun _ => pure r) (EP X pins σ Q) X.xe s₃) X.xe s := by
    rw [hs]
    exact wpAny_operating (wpAny_mono g (fun r s₃ h₃ => wpAny_bind (wpAny_letTemporaryGo (wpAny_pure h₃))) fun _ _ x => x)
  first
    | exact wpAny_pure (wpAny_bind fin)
    | exact wpAny_bind (wpAny_pure (wpAny_bind fin))
    | exact wpAny_bind fin
/-- list(d): its keys -/
theorem cr_list_kd (hc : X.calm = true) (D : KTab X.K X.w a ks) (hn : ks.length ≤ 1000) : CallR X (.type "list") (fun xs H Q => xs = [V.ref a] ∧ ∀ p, H p = none → Q (.ref p) (upd H p (.lst (ks.map V.str)))) := by
  intro pins s σ H xs us Q I r h
  obtain ⟨rfl, q⟩ := h
  obtain ⟨u, rfl, rx⟩ := r.one
  cases rx
  obtain ⟨es, n, D, hk⟩ := D
  obtain ⟨rk, _⟩ := keys_str hk
  have ho := I.kIn _ _ D.at_
  have hz : es.size ≤ sizeLine := by
    have e := congrArg List.length hk
    rw [List.length_map, Array.length_toList] at e
    have e2 : (He.keysIn X.w.params ks).length = ks.length := List.length_map _
    rw [sizeLine_eq]
    omega
  refine PySem.W.kdl_call (kdl_raw (o := ⟨.type "dict", none, .dict es n, #[]⟩) (es := es) (ep := n) D.low ⟨rfl, rfl, rfl⟩ rfl) (I.ok.hd hc) ho hz fun h' tk acc' c' kp e it => ?_
  have ea : acc'.toList = es.toList.map (·.key) := by
    have hl : acc'.toList.length = es.toList.length := by rw [Array.length_toList, it.1, Array.length_toList]
    apply List.ext_getElem?
    intro j
    rw [List.getElem?_map]
    cases hj : acc'.toList[j]? with
    | none =>
      have h1 := List.getElem?_eq_none_iff.mp hj
      rw [List.getElem?_eq_none (by omega)]
      all_goals rfl
    | some v =>
      obtain ⟨en, hen, hv⟩ := it.2 j v (by rw [← Array.getElem?_toList]; exact hj)
      rw [Array.getElem?_toList, hen, hv]
      rfl
  rw [← ea] at rk
  have hl : (ks.map V.str).length ≤ sizeLine := by rw [rk.length, Array.length_toList, it.1]; exact hz
  refine ⟨.ref s.heap.objs.size, _, I.laid (t' := tk) (o := .lst (ks.map V.str)) kp (Nat.le_refl _) ?_, rfl, q _ (I.hok.fresh (Nat.le_refl _))⟩
  exact ⟨hl, acc'.toList, c', rk, by rw [Array.toArray_toList]; exact e⟩
end
end FV
set_option Elab.async false
set_option linter.all false
set_option maxRecDepth 100000
set_option maxHeartbeats 2000000
/-! AnyT: any(x), x a tuple of whole numbers. -/
namespace FV
open PySem PySem.Spec PyProof.Rows L2
theorem truth_ints {prog : Program} {w : World} {A : Around} {ns : List Int} {its : List Value} (e : IntsAre its ns) :
    TruthOf prog w A (fun i v => its.toArray[i]? = some v) (fun i => ns.getD i 0 != 0) := fun i v s Q E hv hq => by
  have hv' : its[i]? = some v := by simpa using hv
  have key : ∀ {its : List Value} {ns : List Int} {i : Nat}, IntsAre its ns → its[i]? = some v → ∃ t, v = .int (ns.getD i 0) t := by
    intro its ns i h
    induction h generalizing i with
    | nil => intro h; simp at h
    | cons _ _ _ ih =>
      intro h
      cases i with
      | zero => simp at h; exact ⟨_, h.symm⟩
      | succ i => exact ih (by simpa using h)
  obtain ⟨t, rfl⟩ := key e hv'
  exact PyProof.Rows.truthy_int hq
theorem any_rangeI : ∀ ns : List Int, (List.range ns.length).any (fun i => ns.getD i 0 != 0) = ns.any fun i => i != 0
  | [] => rfl
  | b :: bs => by
    rw [List.length_cons, List.range_succ_eq_map, List.any_cons, List.any_map, List.any_cons, ← any_rangeI bs]
    all_goals rfl
section
variable {X : Cx}
theorem cr_anyT (hc : X.calm = true) : CallR X (.builtin "any") (fun vs H Q => ∃ (a : Addr) (ns : List Int), vs = [V.ref a] ∧ SqT X.K H a (ns.map V.int) ∧ Q (.bl (ns.any fun i => i != 0)) H) := by
  intro pins s σ H vs us Q I r h
  obtain ⟨a, ns, rfl, hs, q⟩ := h
  obtain ⟨its, rv, hl, _⟩ := I.tuple hs
  rw [Vals.ref1 r]
  have hb := rv.ints
  have hlt : a < s.heap.objs.size := by obtain ⟨_, e, _⟩ := hl; exact Heap.lt_size e
  have hne : a ≠ s.heap.objs.size := Nat.ne_of_lt hlt
  refine call_any_walk (wpAny_pyIter_tuple hl ?_)
  have st : Heap.IsTupleIter (s.heap.push { cls := .type "tuple_iterator", data := .fields #[.ref a, .int 0 0] }) s.heap.objs.size a 0 ∧ Heap.IsTuple (s.heap.push { cls := .type "tuple_iterator", data := .fields #[.ref a, .int 0 0] }) a its.toArray := by
    refine ⟨⟨_, Heap.get?_push_size _ rfl, rfl, rfl⟩, ?_⟩
    obtain ⟨o, e1, e2⟩ := hl
    exact ⟨o, Heap.get?_push_of_some _ e1, e2⟩
  refine ⟨_, _, _, _, _, _, _, rfl, Walks.tuple (A := X.A.in1) (I.ok.hd hc) _ a hne its.toArray, st, truth_ints hb, fun h' tk hk => ?_⟩
  refine ⟨.bl _, H, I.kept fun b o eo => hk b o (fun hmem => ?_) (Heap.get?_push_of_some _ eo), ?_, q⟩
  · rcases List.mem_cons.mp hmem with e1 | hmem
    · exact absurd (e1 ▸ Heap.lt_size eo) (Nat.lt_irrefl _)
    · cases hmem
  · show Value.bool _ = Value.bool _
    rw [← any_rangeI, List.size_toArray, hb.length]
end
end FV
set_option Elab.async false
set_option linter.all false
set_option maxRecDepth 100000
set_option maxHeartbeats 2000000
/-! Rel: how pure data stand in the layer's heap; the operators. -/
namespace FV
open PySem L2
/-- the cells' addresses; hidden lists: under construction, no value of the program -/
structure Ms where
  c : List Addr
  x : List Addr
  k : List Bool
/-- the cell l lies at a: a list; a dict -/
abbrev CR (m : Ms) (l : Nat) (a : Addr) : Prop := m.c[l]? = some a ∧ m.k[l]? = some false
abbrev DR (m : Ms) (l : Nat) (a : Addr) : Prop := m.c[l]? = some a ∧ m.k[l]? = some true
/-- what may change -/
def Mu (o : HO) : Prop := (∃ vs, o = .lst vs) ∨ ∃ φ, o = .ext φ
theorem mu_tup {vs : List V} : ¬ Mu (.tup vs) := by rintro (⟨_, z⟩ | ⟨_, z⟩) <;> cases z
theorem mu_frz {o : Obj} {u : HO} : ¬ Mu (.frz o u) := by rintro (⟨_, z⟩ | ⟨_, z⟩) <;> cases z
theorem mu_dK {kvs : List (Key × V)} : ¬ Mu (.dK kvs) := by rintro (⟨_, z⟩ | ⟨_, z⟩) <;> cases z
/-- rows of whole numbers -/
def rwI (r : List Int) : D := .tup (r.map D.int)
/-- an entry of a dict that says True of each row -/
def rowHash (ks : List Int) : Int := reduceHash (Builtin.Tuple.tupleHashOf (ks.map hashInt))
def rowEnt (x : List Int × Addr) : DictEntry := ⟨rowHash x.1, .ref x.2, .bool true⟩
/-- such a dict, its keys by their rows and addresses -/
def dctO (a : Addr) (xs : List (List Int × Addr)) : HO := .ext fun h => (a == sysModules) = false ∧ xs.length ≤ sizeLine ∧ ∃ o es ep, h.get? a = some o ∧ o.ExactDict ∧ o.data = .dict es ep ∧ es.toList = xs.map rowEnt
/-- a list that stands: frozen, or of the text's own objects -/
def SqF (K : PySem.W.Frag) (H : Hp) (a : Addr) (xs : List V) : Prop := (∃ o, H a = some (.frz o (.lst xs))) ∨
    ∃ (o : Obj) (its : Array Value) (n : Nat), K.lookup a = some o ∧ o.cls = .type "list" ∧ o.dict = none ∧ o.data = .seq its n ∧ its.size ≤ sizeLine ∧ Vals xs its.toList
theorem SqF.sql {K : PySem.W.Frag} {H : Hp} {a : Addr} {xs : List V} (h : SqF K H a xs) : SqL K H a xs := h.elim (fun z => .inl (.inr z)) .inr
mutual
def py : D → PyData
  | .non => .none
  | .bl b => .bool b
  | .int i => .int i
  | .str s => .str s
  | .tup ds => .tuple (pys ds)
  | .lst ds => .list (pys ds)
  | _ => .none
def pys : List D → List PyData
  | [] => []
  | d :: ds => py d :: pys ds
end
mutual
inductive RelD (K : PySem.W.Frag) (m : Ms) (H : Hp) : D → V → Prop
  | non : RelD K m H .non .non
  | bl (b : Bool) : RelD K m H (.bl b) (.bl b)
  | int (i : Int) : RelD K m H (.int i) (.int i)
  | str (s : Str) : RelD K m H (.str s) (.str s)
  | tup {ds : List D} {a : Addr} {vs : List V} : SqT K H a vs → RelDs K m H ds vs → RelD K m H (.tup ds) (.ref a)
  | lst {ds : List D} {a : Addr} {vs : List V} : H a = some (.lst vs) → (a ∉ m.c ∧ a ∉ m.x) → RelDs K m H ds vs → RelD K m H (.lst ds) (.ref a)
  | frz {ds : List D} {a : Addr} {vs : List V} : SqF K H a vs → RelDs K m H ds vs → RelD K m H (.frz ds) (.ref a)
  | ref {l : Nat} {a : Addr} : CR m l a → RelD K m H (.ref l) (.ref a)
  | dre {l : Nat} {a : Addr} : DR m l a → RelD K m H (.dre l) (.ref a)
  | fn (x : Str) : RelD K m H (.fn x) (.ref (He.ga K x))
  | rep (d : D) : RelD K m H (.rep d) (.str (py d).shown)
  | dic {a : Addr} : H a = some (.dK []) → RelD K m H .dic (.ref a)
  | dss {kvs : List (Str × Str)} {a : Addr} : H a = some (.dK (kvs.map fun p => (.inr p.1, .str p.2))) → RelD K m H (.dss kvs) (.ref a)
inductive RelDs (K : PySem.W.Frag) (m : Ms) (H : Hp) : List D → List V → Prop
  | nil : RelDs K m H [] []
  | cons {d : D} {v : V} {ds : List D} {vs : List V} : RelD K m H d v → RelDs K m H ds vs → RelDs K m H (d :: ds) (v :: vs)
end
/-- the heap has grown: what was there stands, but for the cells -/
structure Ext (m : Ms) (H : Hp) (m' : Ms) (H' : Hp) : Prop where
  keep : ∀ a o, H a = some o → (Mu o → a ∉ m.c) → H' a = some o
  grow : ∃ t, m'.c = m.c ++ t ∧ ∀ p ∈ t, H p = none
  kin : ∃ t, m'.k = m.k ++ t
  hid : m'.x = m.x
  dom : ∀ a, H a ≠ none → H' a ≠ none
theorem Ext.refl {m : Ms} {H : Hp} : Ext m H m H := ⟨fun _ _ e _ => e, ⟨[], by simp, fun _ h => absurd h (by simp)⟩, ⟨[], by simp⟩, rfl, fun _ h => h⟩
theorem kin_tr {a b c : List Bool} (h : ∃ t, b = a ++ t) (g : ∃ t, c = b ++ t) : ∃ t, c = a ++ t := by
  obtain ⟨t, rfl⟩ := h
  obtain ⟨u, rfl⟩ := g
  exact ⟨t ++ u, List.append_assoc ..⟩
theorem Ext.trans {m m1 m2 : Ms} {H H1 H2 : Hp} (a : Ext m H m1 H1) (b : Ext m1 H1 m2 H2) : Ext m H m2 H2 := by
  obtain ⟨t1, e1, f1⟩ := a.grow
  obtain ⟨t2, e2, f2⟩ := b.grow
  refine ⟨fun x o e c => b.keep x o (a.keep x o e c) fun l hm => ?_, ⟨t1 ++ t2, by rw [e2, e1, List.append_assoc], fun p hp => ?_⟩, kin_tr a.kin b.kin, b.hid.trans a.hid, fun x h => b.dom x (a.dom x h)⟩
  · rw [e1] at hm
    rcases List.mem_append.mp hm with z | z
    · exact c l z
    · rw [f1 x z] at e; cases e
  · rcases List.mem_append.mp hp with z | z
    · exact f1 p z
    · cases q : H p with
      | none => rfl
      | some o => exact absurd (f2 p z) (a.dom p (by rw [q]; simp))
/-- a list that is no cell stays, and becomes none -/
theorem Ext.fix {m m' : Ms} {H H' : Hp} (x : Ext m H m' H') {a : Addr} {vs : List V} (h : H a = some (.lst vs)) (n : a ∉ m.c) : H' a = some (.lst vs) ∧ a ∉ m'.c := by
  refine ⟨x.keep _ _ h fun _ => n, ?_⟩
  obtain ⟨t, e, f⟩ := x.grow
  rw [e]
  intro hm
  rcases List.mem_append.mp hm with z | z
  · exact n z
  · rw [f a z] at h; cases h
/-- .. where lists may have begun to be built -/
structure Gr (m : Ms) (H : Hp) (m' : Ms) (H' : Hp) : Prop where
  keep : ∀ a o, H a = some o → (Mu o → a ∉ m.c) → H' a = some o
  grow : ∃ t, m'.c = m.c ++ t ∧ ∀ p ∈ t, H p = none
  kin : ∃ t, m'.k = m.k ++ t
  hid : ∃ t, m'.x = t ++ m.x ∧ ∀ p ∈ t, H p = none
  dom : ∀ a, H a ≠ none → H' a ≠ none
theorem Ext.gr {m m' : Ms} {H H' : Hp} (x : Ext m H m' H') : Gr m H m' H' := ⟨x.keep, x.grow, x.kin, ⟨[], x.hid, fun _ h => absurd h (by simp)⟩, x.dom⟩
theorem Gr.trans {m m1 m2 : Ms} {H H1 H2 : Hp} (a : Gr m H m1 H1) (b : Gr m1 H1 m2 H2) : Gr m H m2 H2 := by
  obtain ⟨t1, e1, f1⟩ := a.grow
  obtain ⟨t2, e2, f2⟩ := b.grow
  obtain ⟨u1, d1, g1⟩ := a.hid
  obtain ⟨u2, d2, g2⟩ := b.hid
  have back : ∀ p, H1 p = none → H p = none := fun p hp => by
    cases q : H p with
    | none => rfl
    | some o => exact absurd hp (a.dom p (by rw [q]; simp))
  refine ⟨fun x o e c => b.keep x o (a.keep x o e c) fun l hm => ?_, ⟨t1 ++ t2, by rw [e2, e1, List.append_assoc], fun p hp => ?_⟩, kin_tr a.kin b.kin, ⟨u2 ++ u1, by rw [d2, d1, List.append_assoc], fun p hp => ?_⟩, fun x h => b.dom x (a.dom x h)⟩
  · rw [e1] at hm
    rcases List.mem_append.mp hm with z | z
    · exact c l z
    · rw [f1 x z] at e; cases e
  · exact (List.mem_append.mp hp).elim (f1 p) fun z => back p (f2 p z)
  · exact (List.mem_append.mp hp).elim (fun z => back p (g2 p z)) (g1 p)
theorem Gr.fix {m m' : Ms} {H H' : Hp} (x : Gr m H m' H') {a : Addr} {vs : List V} (h : H a = some (.lst vs)) (n : a ∉ m.c) : H' a = some (.lst vs) ∧ a ∉ m'.c := by
  refine ⟨x.keep _ _ h fun _ => n, ?_⟩
  obtain ⟨t, e, f⟩ := x.grow
  rw [e]
  intro hm
  rcases List.mem_append.mp hm with z | z
  · exact n z
  · rw [f a z] at h; cases h
/-- .. and where hidden lists may have changed -/
structure Gh (m : Ms) (H : Hp) (m' : Ms) (H' : Hp) : Prop where
  keep : ∀ a o, H a = some o → (Mu o → a ∉ m.c ∧ a ∉ m.x) → H' a = some o
  grow : ∃ t, m'.c = m.c ++ t ∧ ∀ p ∈ t, H p = none
  kin : ∃ t, m'.k = m.k ++ t
  hid : ∃ t, m'.x = t ++ m.x ∧ ∀ p ∈ t, H p = none
  dom : ∀ a, H a ≠ none → H' a ≠ none
theorem Gr.gh {m m' : Ms} {H H' : Hp} (x : Gr m H m' H') : Gh m H m' H' := ⟨fun a o e c => x.keep a o e fun l => (c l).1, x.grow, x.kin, x.hid, x.dom⟩
theorem Gh.trans {m m1 m2 : Ms} {H H1 H2 : Hp} (a : Gh m H m1 H1) (b : Gh m1 H1 m2 H2) : Gh m H m2 H2 := by
  obtain ⟨t1, e1, f1⟩ := a.grow
  obtain ⟨t2, e2, f2⟩ := b.grow
  obtain ⟨u1, d1, g1⟩ := a.hid
  obtain ⟨u2, d2, g2⟩ := b.hid
  have back : ∀ p, H1 p = none → H p = none := fun p hp => by
    cases q : H p with
    | none => rfl
    | some o => exact absurd hp (a.dom p (by rw [q]; simp))
  refine ⟨fun x o e c => b.keep x o (a.keep x o e c) fun l => ⟨fun hm => ?_, fun hm => ?_⟩, ⟨t1 ++ t2, by rw [e2, e1, List.append_assoc], fun p hp => ?_⟩, kin_tr a.kin b.kin, ⟨u2 ++ u1, by rw [d2, d1, List.append_assoc], fun p hp => ?_⟩, fun x h => b.dom x (a.dom x h)⟩
  · rw [e1] at hm
    rcases List.mem_append.mp hm with z | z
    · exact (c l).1 z
    · rw [f1 x z] at e; cases e
  · rw [d1] at hm
    rcases List.mem_append.mp hm with z | z
    · rw [g1 x z] at e; cases e
    · exact (c l).2 z
  · exact (List.mem_append.mp hp).elim (f1 p) fun z => back p (f2 p z)
  · exact (List.mem_append.mp hp).elim (fun z => back p (g2 p z)) (g1 p)
theorem Gh.fix {m m' : Ms} {H H' : Hp} (x : Gh m H m' H') {a : Addr} {vs : List V} (h : H a = some (.lst vs)) (n : a ∉ m.c ∧ a ∉ m.x) : H' a = some (.lst vs) ∧ a ∉ m'.c := by
  refine ⟨x.keep _ _ h fun _ => n, ?_⟩
  obtain ⟨t, e, f⟩ := x.grow
  rw [e]
  intro hm
  rcases List.mem_append.mp hm with z | z
  · exact n.1 z
  · rw [f a z] at h; cases h
/-- a hidden list changes -/
theorem Gh.upd {m m' : Ms} {H H' : Hp} (x : Gh m H m' H') {p : Addr} {o : HO} (hp : p ∈ m.x) (hl : ∃ vs, H p = some (.lst vs)) : Gh m H m' (upd H' p o) := by
  refine ⟨fun a q e c => ?_, x.grow, x.kin, x.hid, fun a h => ?_⟩
  · have : a ≠ p := fun z => by
      subst z
      obtain ⟨vs, hv⟩ := hl
      rw [hv] at e
      cases e
      exact (c (.inl ⟨_, rfl⟩)).2 hp
    rw [upd_ne this]
    exact x.keep a q e c
  · by_cases q : a = p
    · subst q; rw [upd_same]; simp
    · rw [upd_ne q]; exact x.dom a h
section
variable {K : PySem.W.Frag} {m m' : Ms} {H H' : Hp}
theorem Gh.cr {l : Nat} {a : Addr} {b : Bool} (x : Gh m H m' H') (h : m.c[l]? = some a ∧ m.k[l]? = some b) : m'.c[l]? = some a ∧ m'.k[l]? = some b := by
  obtain ⟨t, e, f⟩ := x.grow
  obtain ⟨u, e2⟩ := x.kin
  rw [e, e2, List.getElem?_append_left (List.getElem?_eq_some_iff.mp h.1).1, List.getElem?_append_left (List.getElem?_eq_some_iff.mp h.2).1]
  exact h
theorem Gh.sqt {a : Addr} {vs : List V} (x : Gh m H m' H') (h : SqT K H a vs) : SqT K H' a vs := by
  rcases h with (h | ⟨o, h⟩) | h
  · exact .inl (.inl (x.keep _ _ h fun z => (mu_tup z).elim))
  · exact .inl (.inr ⟨o, x.keep _ _ h fun z => (mu_frz z).elim⟩)
  · exact .inr h
theorem Gh.sqf {a : Addr} {vs : List V} (x : Gh m H m' H') (h : SqF K H a vs) : SqF K H' a vs := h.elim (fun ⟨o, e⟩ => .inl ⟨o, x.keep _ _ e fun z => (mu_frz z).elim⟩) .inr
mutual
theorem RelD.monoH (x : Gh m H m' H') : ∀ {d : D} {v : V}, RelD K m H d v → RelD K m' H' d v
  | _, _, .non => .non
  | _, _, .bl b => .bl b
  | _, _, .int i => .int i
  | _, _, .str s => .str s
  | _, _, .rep d => .rep d
  | _, _, .fn x => .fn x
  | _, _, .dic h => .dic (x.keep _ _ h fun z => (mu_dK z).elim)
  | _, _, .dss h => .dss (x.keep _ _ h fun z => (mu_dK z).elim)
  | _, _, .tup h r => .tup (x.sqt h) (RelDs.monoH x r)
  | _, _, .lst (a := a) h n r => .lst (x.fix h n).1 ⟨(x.fix h n).2, by
      obtain ⟨t, e, f⟩ := x.hid
      rw [e]
      intro hm
      rcases List.mem_append.mp hm with z | z
      · rw [f a z] at h; cases h
      · exact n.2 z⟩ (RelDs.monoH x r)
  | _, _, .frz h r => .frz (x.sqf h) (RelDs.monoH x r)
  | _, _, .ref h => .ref (x.cr h)
  | _, _, .dre h => .dre (x.cr h)
theorem RelDs.monoH (x : Gh m H m' H') : ∀ {ds : List D} {vs : List V}, RelDs K m H ds vs → RelDs K m' H' ds vs
  | _, _, .nil => .nil
  | _, _, .cons a b => .cons (RelD.monoH x a) (RelDs.monoH x b)
end
theorem Gr.sqt {a : Addr} {vs : List V} (x : Gr m H m' H') (h : SqT K H a vs) : SqT K H' a vs := x.gh.sqt h
theorem Gr.sqf {a : Addr} {vs : List V} (x : Gr m H m' H') (h : SqF K H a vs) : SqF K H' a vs := x.gh.sqf h
theorem RelD.monoG (x : Gr m H m' H') {d : D} {v : V} (r : RelD K m H d v) : RelD K m' H' d v := r.monoH x.gh
theorem RelDs.monoG (x : Gr m H m' H') {ds : List D} {vs : List V} (r : RelDs K m H ds vs) : RelDs K m' H' ds vs := r.monoH x.gh
theorem Ext.sqt {a : Addr} {vs : List V} (x : Ext m H m' H') (h : SqT K H a vs) : SqT K H' a vs := x.gr.sqt h
theorem RelD.mono (x : Ext m H m' H') {d : D} {v : V} (r : RelD K m H d v) : RelD K m' H' d v := r.monoG x.gr
theorem RelDs.mono (x : Ext m H m' H') {d : List D} {v : List V} (r : RelDs K m H d v) : RelDs K m' H' d v := r.monoG x.gr
theorem RelDs.length : ∀ {ds : List D} {vs : List V}, RelDs K m H ds vs → ds.length = vs.length
  | _, _, .nil => rfl
  | _, _, .cons _ b => by rw [List.length_cons, List.length_cons, RelDs.length b]
theorem RelDs.get : ∀ {ds : List D} {vs : List V} {i : Nat} {d : D}, RelDs K m H ds vs → ds[i]? = some d → ∃ v, vs[i]? = some v ∧ RelD K m H d v
  | _, _, i, _, .nil, e => by simp at e
  | _, _, 0, d, .cons a b, e => by
    simp at e; subst e; exact ⟨_, rfl, a⟩
  | _, _, i + 1, d, .cons a b, e => by
    obtain ⟨v, h1, h2⟩ := RelDs.get (i := i) b (by simpa using e)
    exact ⟨v, by simpa using h1, h2⟩
theorem RelDs.append : ∀ {ds es : List D} {vs ws : List V}, RelDs K m H ds vs → RelDs K m H es ws → RelDs K m H (ds ++ es) (vs ++ ws)
  | _, _, _, _, .nil, s => s
  | _, _, _, _, .cons r t, s => .cons r (RelDs.append t s)
theorem RelDs.take : ∀ {ds : List D} {vs : List V} (n : Nat), RelDs K m H ds vs → RelDs K m H (ds.take n) (vs.take n)
  | _, _, 0, _ => .nil
  | _, _, _ + 1, .nil => .nil
  | _, _, n + 1, .cons r t => .cons r (RelDs.take n t)
theorem RelDs.drop : ∀ {ds : List D} {vs : List V} (n : Nat), RelDs K m H ds vs → RelDs K m H (ds.drop n) (vs.drop n)
  | _, _, 0, r => r
  | _, _, _ + 1, .nil => .nil
  | _, _, n + 1, .cons _ t => RelDs.drop n t
theorem RelDs.rev : ∀ {ds : List D} {vs : List V}, RelDs K m H ds vs → RelDs K m H ds.reverse vs.reverse
  | _, _, .nil => .nil
  | _, _, .cons r t => by
    rw [List.reverse_cons, List.reverse_cons]
    exact RelDs.append (RelDs.rev t) (.cons r .nil)
theorem RelDs.rep {ds : List D} {vs : List V} (r : RelDs K m H ds vs) : ∀ n : Nat, RelDs K m H (List.replicate n ds).flatten (List.replicate n vs).flatten
  | 0 => .nil
  | n + 1 => by
    rw [List.replicate_succ, List.replicate_succ, List.flatten_cons, List.flatten_cons]
    exact RelDs.append r (RelDs.rep r n)
theorem RelDs.set : ∀ {ds : List D} {vs : List V} (i : Nat) {d : D} {v : V}, RelDs K m H ds vs → RelD K m H d v → RelDs K m H (ds.set i d) (vs.set i v)
  | _, _, _, _, _, .nil, _ => .nil
  | _, _, 0, _, _, .cons _ t, r => .cons r t
  | _, _, i + 1, _, _, .cons q t, r => .cons q (RelDs.set i t r)
theorem RelDs.ints : ∀ {ds : List D} {vs : List V} {is : List Int}, RelDs K m H ds vs → ints? ds = some is → vs = is.map V.int
  | _, _, is, .nil, e => by
    have : is = [] := (Option.some.inj e).symm
    subst this; rfl
  | _, _, is, .cons (d := d) r t, e => by
    cases r <;> try (cases e)
    rename_i i
    rename_i ds vs
    unfold ints? at e
    cases q : ints? ds with
    | none => rw [q] at e; cases e
    | some js =>
      rw [q] at e
      have : is = i :: js := (Option.some.inj e).symm
      subst this
      rw [List.map_cons, ← RelDs.ints t q]
theorem RelDs.bls : ∀ {ds : List D} {vs : List V} {is : List Bool}, RelDs K m H ds vs → bls? ds = some is → vs = is.map V.bl
  | _, _, is, .nil, e => by
    have : is = [] := (Option.some.inj e).symm
    subst this; rfl
  | _, _, is, .cons (d := d) r t, e => by
    cases r <;> try (cases e)
    rename_i i
    rename_i ds vs
    unfold bls? at e
    cases q : bls? ds with
    | none => rw [q] at e; cases e
    | some js =>
      rw [q] at e
      have : is = i :: js := (Option.some.inj e).symm
      subst this
      rw [List.map_cons, ← RelDs.bls t q]
end
/-- the cells stand as the store says -/
structure HR (K : PySem.W.Frag) (m : Ms) (S : Store) (H : Hp) : Prop where
  len : m.c.length = S.length
  nd : m.c.Nodup
  kln : m.k.length = S.length
  at_ : ∀ (l : Nat) (ds : List D) (a : Addr), cl S l = some ds → CR m l a → ∃ vs, H a = some (.lst vs) ∧ RelDs K m H ds vs
  dat : ∀ (l : Nat) (ds : List D) (a : Addr), cl S l = some ds → DR m l a → ∃ xs : List (List Int × Addr), ds = xs.map (fun x => rwI x.1) ∧ (xs.map (·.1)).Nodup ∧ H a = some (dctO a xs) ∧ RelDs K m H ds (xs.map fun x => V.ref x.2)
  hid : ∀ a ∈ m.x, a ∉ m.c ∧ ∃ vs, H a = some (.lst vs)
theorem cl_get : ∀ (S : Store) (l : Nat), cl S l = S[l]?
  | [], l => by simp [cl]
  | x :: r, 0 => by simp [cl]
  | x :: r, l + 1 => by simp [cl, cl_get r l]
section
variable {K : PySem.W.Frag} {m m' : Ms} {H H' : Hp} {S : Store}
theorem HR.addr (h : HR K m S H) {l : Nat} {ds : List D} (e : cl S l = some ds) : ∃ a, m.c[l]? = some a := by
  rw [cl_get] at e
  have hl := (List.getElem?_eq_some_iff.mp e).1
  rw [← h.len] at hl
  exact ⟨_, List.getElem?_eq_getElem hl⟩
theorem HR.some_ (h : HR K m S H) {l : Nat} {a : Addr} {b : Bool} (e : m.c[l]? = some a ∧ m.k[l]? = some b) : ∃ ds, cl S l = some ds := by
  have hl := (List.getElem?_eq_some_iff.mp e.1).1
  rw [h.len] at hl
  exact ⟨_, by rw [cl_get]; exact List.getElem?_eq_getElem hl⟩
theorem HR.there (h : HR K m S H) {l : Nat} {a : Addr} (e : CR m l a) : ∃ vs, H a = some (.lst vs) := by
  obtain ⟨ds, hc⟩ := h.some_ e
  obtain ⟨vs, q, _⟩ := h.at_ l _ a hc e
  exact ⟨vs, q⟩
theorem HR.kind (h : HR K m S H) {l : Nat} {a : Addr} (e : m.c[l]? = some a) : CR m l a ∨ DR m l a := by
  have hl := (List.getElem?_eq_some_iff.mp e).1
  rw [h.len, ← h.kln] at hl
  have e2 : m.k[l]? = some m.k[l] := List.getElem?_eq_getElem hl
  cases q : m.k[l] with
  | false => exact .inl ⟨e, by rw [e2, q]⟩
  | true => exact .inr ⟨e, by rw [e2, q]⟩
/-- a cell is there, and may change -/
theorem HR.mu (h : HR K m S H) {a : Addr} (hm : a ∈ m.c) : ∃ o, H a = some o ∧ Mu o := by
  obtain ⟨l, e⟩ := List.mem_iff_getElem?.mp hm
  rcases h.kind e with e | e
  · obtain ⟨vs, q⟩ := h.there e
    exact ⟨_, q, .inl ⟨_, rfl⟩⟩
  · obtain ⟨ds, hc⟩ := h.some_ e
    obtain ⟨ks, _, _, q, _⟩ := h.dat l _ a hc e
    exact ⟨_, q, .inr ⟨_, rfl⟩⟩
theorem HR.out (h : HR K m S H) {p : Addr} (hp : H p = none) : p ∉ m.c ∧ p ∉ m.x := by
  refine ⟨fun hm => ?_, fun hm => ?_⟩
  · obtain ⟨_, e, _⟩ := h.mu hm
    rw [hp] at e; cases e
  · obtain ⟨_, vs, e⟩ := h.hid p hm
    rw [hp] at e; cases e
/-- a new object that is no cell -/
theorem ext_new {p : Addr} {o : HO} (hp : H p = none) : Ext m H m (upd H p o) :=
  ⟨fun a o e _ => by rw [upd_ne (ne_of_none e hp)]; exact e, ⟨[], by simp, fun _ h => absurd h (by simp)⟩, ⟨[], by simp⟩, rfl, fun a h => by
    by_cases q : a = p
    · subst q; exact absurd hp h
    · rw [upd_ne q]; exact h⟩
theorem HR.new {p : Addr} {o : HO} (h : HR K m S H) (hp : H p = none) : HR K m S (upd H p o) := by
  refine ⟨h.len, h.nd, h.kln, fun l ds a e1 e2 => ?_, fun l ds a e1 e2 => ?_, fun a ha => ?_⟩
  · obtain ⟨vs, q, r⟩ := h.at_ l ds a e1 e2
    exact ⟨vs, by rw [upd_ne (ne_of_none q hp)]; exact q, r.mono (ext_new hp)⟩
  · obtain ⟨ks, d1, d2, q, r⟩ := h.dat l ds a e1 e2
    exact ⟨ks, d1, d2, by rw [upd_ne (ne_of_none q hp)]; exact q, r.mono (ext_new hp)⟩
  · obtain ⟨n, vs, q⟩ := h.hid a ha
    exact ⟨n, vs, by rw [upd_ne (ne_of_none q hp)]; exact q⟩
/-- a new cell -/
theorem ext_cell {p : Addr} {o : HO} (b : Bool) (hp : H p = none) : Ext m H ⟨m.c ++ [p], m.x, m.k ++ [b]⟩ (upd H p o) :=
  ⟨(ext_new (m := m) hp).keep, ⟨[p], rfl, fun q hq => by simp at hq; rw [hq]; exact hp⟩, ⟨[b], rfl⟩, rfl, (ext_new (m := m) hp).dom⟩
theorem HR.cells {p : Addr} {o : HO} {b : Bool} {ds : List D} (h : HR K m S H) (hp : H p = none) (r : b = false → ∃ vs, o = .lst vs ∧ RelDs K m H ds vs) (r2 : b = true → ∃ xs : List (List Int × Addr), ds = xs.map (fun x => rwI x.1) ∧ (xs.map (·.1)).Nodup ∧ o = dctO p xs ∧ RelDs K m H ds (xs.map fun x => V.ref x.2)) :
    HR K ⟨m.c ++ [p], m.x, m.k ++ [b]⟩ (S ++ [ds]) (upd H p o) := by
  have hx : Ext m H ⟨m.c ++ [p], m.x, m.k ++ [b]⟩ (upd H p o) := ext_cell b hp
  have old : ∀ {l : Nat} {es : List D} {a : Addr} {c : Bool}, cl (S ++ [ds]) l = some es → (m.c ++ [p])[l]? = some a → (m.k ++ [b])[l]? = some c → (cl S l = some es ∧ m.c[l]? = some a ∧ m.k[l]? = some c) ∨ (es = ds ∧ a = p ∧ c = b) := by
    intro l es a c e1 e2 e3
    rw [cl_get] at e1
    by_cases hl : l < S.length
    · left
      rw [List.getElem?_append_left hl] at e1
      rw [List.getElem?_append_left (by rw [h.len]; exact hl)] at e2
      rw [List.getElem?_append_left (by rw [h.kln]; exact hl)] at e3
      exact ⟨by rw [cl_get]; exact e1, e2, e3⟩
    · have hl2 : l = S.length := by
        have := (List.getElem?_eq_some_iff.mp e1).1
        rw [List.length_append] at this
        simp at this
        omega
      subst hl2
      right
      rw [List.getElem?_append_right (Nat.le_refl _)] at e1
      rw [← h.len, List.getElem?_append_right (Nat.le_refl _)] at e2
      rw [← h.kln, List.getElem?_append_right (Nat.le_refl _)] at e3
      simp at e1 e2 e3
      exact ⟨e1.symm, e2.symm, e3.symm⟩
  refine ⟨by show (m.c ++ [p]).length = _; rw [List.length_append, List.length_append, h.len]; rfl, ?_, by show (m.k ++ [b]).length = _; rw [List.length_append, List.length_append, h.kln]; rfl, fun l es a e1 e2 => ?_, fun l es a e1 e2 => ?_, fun a ha => ?_⟩
  · show (m.c ++ [p]).Nodup
    rw [List.nodup_append]
    refine ⟨h.nd, by simp, fun a ha b hb => ?_⟩
    simp at hb
    intro z
    subst hb z
    exact (h.out hp).1 ha
  · rcases old e1 e2.1 e2.2 with ⟨f1, f2, f3⟩ | ⟨f1, f2, f3⟩
    · obtain ⟨ws, q, r'⟩ := h.at_ l es a f1 ⟨f2, f3⟩
      exact ⟨ws, by rw [upd_ne (ne_of_none q hp)]; exact q, r'.mono hx⟩
    · subst f1 f2
      obtain ⟨vs, rfl, rr⟩ := r f3.symm
      exact ⟨vs, upd_same, rr.mono hx⟩
  · rcases old e1 e2.1 e2.2 with ⟨f1, f2, f3⟩ | ⟨f1, f2, f3⟩
    · obtain ⟨ks, d1, d2, q, rr⟩ := h.dat l es a f1 ⟨f2, f3⟩
      exact ⟨ks, d1, d2, by rw [upd_ne (ne_of_none q hp)]; exact q, rr.mono hx⟩
    · subst f1 f2
      obtain ⟨ks, d1, d2, rfl, rr⟩ := r2 f3.symm
      exact ⟨ks, d1, d2, upd_same, rr.mono hx⟩
  · obtain ⟨n, ws, q⟩ := h.hid a ha
    refine ⟨?_, ws, by rw [upd_ne (ne_of_none q hp)]; exact q⟩
    show a ∉ m.c ++ [p]
    intro z
    rcases List.mem_append.mp z with z | z
    · exact n z
    · simp at z
      exact ne_of_none q hp z
theorem HR.new_at {p : Addr} (h : HR K m S H) (b : Bool) : (m.c ++ [p])[S.length]? = some p ∧ (m.k ++ [b])[S.length]? = some b := by
  constructor
  · rw [← h.len, List.getElem?_append_right (Nat.le_refl _)]; simp
  · rw [← h.kln, List.getElem?_append_right (Nat.le_refl _)]; simp
theorem HR.cell {p : Addr} {ds : List D} {vs : List V} (h : HR K m S H) (hp : H p = none) (r : RelDs K m H ds vs) : HR K ⟨m.c ++ [p], m.x, m.k ++ [false]⟩ (S ++ [ds]) (upd H p (.lst vs)) :=
  h.cells hp (fun _ => ⟨vs, rfl, r⟩) (fun z => by cases z)
theorem HR.dcell {p : Addr} (h : HR K m S H) (hp : H p = none) : HR K ⟨m.c ++ [p], m.x, m.k ++ [true]⟩ (S ++ [[]]) (upd H p (dctO p [])) :=
  h.cells hp (fun z => by cases z) fun _ => ⟨[], rfl, List.nodup_nil, rfl, .nil⟩
/-- a cell is changed -/
theorem ext_set {a : Addr} {o : HO} (hm : a ∈ m.c) (h : ∃ o, H a = some o ∧ Mu o) : Ext m H m (upd H a o) :=
  ⟨fun b o e c => by
    by_cases q : b = a
    · subst q
      obtain ⟨o', e', mu⟩ := h
      rw [e'] at e; cases e
      exact absurd hm (c mu)
    · rw [upd_ne q]; exact e, ⟨[], by simp, fun _ h => absurd h (by simp)⟩, ⟨[], by simp⟩, rfl, fun b hb => by
    by_cases q : b = a
    · subst q; rw [upd_same]; simp
    · rw [upd_ne q]; exact hb⟩
theorem HR.sets {a : Addr} {o : HO} {b : Bool} {l : Nat} {ds : List D} (h : HR K m S H) (hl : m.c[l]? = some a ∧ m.k[l]? = some b) (r : b = false → ∃ vs, o = .lst vs ∧ RelDs K m H ds vs) (r2 : b = true → ∃ xs : List (List Int × Addr), ds = xs.map (fun x => rwI x.1) ∧ (xs.map (·.1)).Nodup ∧ o = dctO a xs ∧ RelDs K m H ds (xs.map fun x => V.ref x.2)) :
    HR K m (S.set l ds) (upd H a o) := by
  have hm : a ∈ m.c := List.mem_of_getElem? hl.1
  have hx : Ext m H m (upd H a o) := ext_set hm (h.mu hm)
  have old : ∀ {k : Nat} {es : List D} {e : Addr} {c : Bool}, cl (S.set l ds) k = some es → m.c[k]? = some e → m.k[k]? = some c → (cl S k = some es ∧ e ≠ a) ∨ (es = ds ∧ e = a ∧ c = b) := by
    intro k es e c e1 e2 e3
    rw [cl_get] at e1
    by_cases q : k = l
    · subst q
      right
      have hlt : k < S.length := by
        have := (List.getElem?_eq_some_iff.mp hl.1).1
        rw [h.len] at this
        exact this
      rw [List.getElem?_set_self hlt] at e1
      rw [hl.1] at e2
      rw [hl.2] at e3
      cases e1; cases e2; cases e3
      exact ⟨rfl, rfl, rfl⟩
    · left
      rw [List.getElem?_set_ne (Ne.symm q)] at e1
      refine ⟨by rw [cl_get]; exact e1, fun z => ?_⟩
      subst z
      obtain ⟨l1, g1⟩ := List.getElem?_eq_some_iff.mp hl.1
      obtain ⟨l2, g2⟩ := List.getElem?_eq_some_iff.mp e2
      exact q ((List.getElem_inj h.nd).mp (g2.trans g1.symm))
  refine ⟨by rw [List.length_set]; exact h.len, h.nd, by rw [List.length_set]; exact h.kln, fun k es e e1 e2 => ?_, fun k es e e1 e2 => ?_, fun e hb => ?_⟩
  · rcases old e1 e2.1 e2.2 with ⟨f1, ne⟩ | ⟨f1, f2, f3⟩
    · obtain ⟨ws, q1, r1⟩ := h.at_ k es e f1 e2
      exact ⟨ws, by rw [upd_ne ne]; exact q1, r1.mono hx⟩
    · subst f1 f2
      obtain ⟨vs, rfl, rr⟩ := r f3.symm
      exact ⟨vs, upd_same, rr.mono hx⟩
  · rcases old e1 e2.1 e2.2 with ⟨f1, ne⟩ | ⟨f1, f2, f3⟩
    · obtain ⟨ks, d1, d2, q, rr⟩ := h.dat k es e f1 e2
      exact ⟨ks, d1, d2, by rw [upd_ne ne]; exact q, rr.mono hx⟩
    · subst f1 f2
      obtain ⟨ks, d1, d2, rfl, rr⟩ := r2 f3.symm
      exact ⟨ks, d1, d2, upd_same, rr.mono hx⟩
  · obtain ⟨n, ws, q⟩ := h.hid e hb
    exact ⟨n, ws, by rw [upd_ne (fun z => n (by rw [z]; exact hm))]; exact q⟩
theorem HR.set {a : Addr} {l : Nat} {ds : List D} {vs : List V} (h : HR K m S H) (hl : CR m l a) (r : RelDs K m H ds vs) : HR K m (S.set l ds) (upd H a (.lst vs)) :=
  h.sets hl (fun _ => ⟨vs, rfl, r⟩) (fun z => by cases z)
theorem HR.dset {a : Addr} {l : Nat} {xs : List (List Int × Addr)} (h : HR K m S H) (hl : DR m l a) (nd : (xs.map (·.1)).Nodup) (r : RelDs K m H (xs.map fun x => rwI x.1) (xs.map fun x => V.ref x.2)) : HR K m (S.set l (xs.map fun x => rwI x.1)) (upd H a (dctO a xs)) :=
  h.sets hl (fun z => by cases z) fun _ => ⟨xs, rfl, nd, rfl, r⟩
/-! ### a list under construction -/
mutual
theorem RelD.hide {p : Addr} {vs : List V} (hp : H p = some (.lst vs)) (hx : p ∈ m.x) (ws : List V) : ∀ {d : D} {v : V}, RelD K m H d v → RelD K m (upd H p (.lst ws)) d v
  | _, _, .non => .non
  | _, _, .bl b => .bl b
  | _, _, .int i => .int i
  | _, _, .str s => .str s
  | _, _, .rep d => .rep d
  | _, _, .fn x => .fn x
  | _, _, .dic h => .dic (by rw [upd_ne (fun z => by subst z; rw [hp] at h; cases h)]; exact h)
  | _, _, .dss h => .dss (by rw [upd_ne (fun z => by subst z; rw [hp] at h; cases h)]; exact h)
  | _, _, .tup h r => .tup (by
      have ne : ∀ {a o}, H a = some o → (∀ zs, o ≠ .lst zs) → a ≠ p := fun e n z => by subst z; rw [hp] at e; exact n _ (Option.some.inj e).symm
      rcases h with (h | ⟨o, h⟩) | h
      · exact .inl (.inl (by rw [upd_ne (ne h fun zs z => by cases z)]; exact h))
      · exact .inl (.inr ⟨o, by rw [upd_ne (ne h fun zs z => by cases z)]; exact h⟩)
      · exact .inr h) (RelDs.hide hp hx ws r)
  | _, _, .lst (a := a) h n r => .lst (by rw [upd_ne (fun z => n.2 (by rw [z]; exact hx))]; exact h) n (RelDs.hide hp hx ws r)
  | _, _, .frz h r => .frz (h.elim (fun ⟨o, e⟩ => .inl ⟨o, by rw [upd_ne (fun z => by subst z; rw [hp] at e; cases e)]; exact e⟩) .inr) (RelDs.hide hp hx ws r)
  | _, _, .ref h => .ref h
  | _, _, .dre h => .dre h
theorem RelDs.hide {p : Addr} {vs : List V} (hp : H p = some (.lst vs)) (hx : p ∈ m.x) (ws : List V) : ∀ {ds : List D} {vs' : List V}, RelDs K m H ds vs' → RelDs K m (upd H p (.lst ws)) ds vs'
  | _, _, .nil => .nil
  | _, _, .cons a b => .cons (RelD.hide hp hx ws a) (RelDs.hide hp hx ws b)
end
theorem HR.hide {p : Addr} {vs : List V} (h : HR K m S H) (hp : H p = some (.lst vs)) (hx : p ∈ m.x) (ws : List V) : HR K m S (upd H p (.lst ws)) := by
  have np : p ∉ m.c := (h.hid p hx).1
  refine ⟨h.len, h.nd, h.kln, fun l ds a e1 e2 => ?_, fun l ds a e1 e2 => ?_, fun a ha => ?_⟩
  · obtain ⟨us, q, r⟩ := h.at_ l ds a e1 e2
    have ne : a ≠ p := fun z => np (by rw [← z]; exact List.mem_of_getElem? e2.1)
    exact ⟨us, by rw [upd_ne ne]; exact q, r.hide hp hx ws⟩
  · obtain ⟨ks, d1, d2, q, r⟩ := h.dat l ds a e1 e2
    have ne : a ≠ p := fun z => np (by rw [← z]; exact List.mem_of_getElem? e2.1)
    exact ⟨ks, d1, d2, by rw [upd_ne ne]; exact q, r.hide hp hx ws⟩
  · obtain ⟨n, us, q⟩ := h.hid a ha
    by_cases z : a = p
    · subst z; exact ⟨n, ws, upd_same⟩
    · exact ⟨n, us, by rw [upd_ne z]; exact q⟩
mutual
theorem RelD.move {n : Ms} (hc : ∀ (l : Nat) (a : Addr) (b : Bool), m.c[l]? = some a ∧ m.k[l]? = some b → n.c[l]? = some a ∧ n.k[l]? = some b) (hn : ∀ a vs, H a = some (.lst vs) → (a ∉ m.c ∧ a ∉ m.x) → (a ∉ n.c ∧ a ∉ n.x)) : ∀ {d : D} {v : V}, RelD K m H d v → RelD K n H d v
  | _, _, .non => .non
  | _, _, .bl b => .bl b
  | _, _, .int i => .int i
  | _, _, .str s => .str s
  | _, _, .rep d => .rep d
  | _, _, .fn x => .fn x
  | _, _, .dic h => .dic h
  | _, _, .dss h => .dss h
  | _, _, .tup h r => .tup h (RelDs.move hc hn r)
  | _, _, .lst h q r => .lst h (hn _ _ h q) (RelDs.move hc hn r)
  | _, _, .frz h r => .frz h (RelDs.move hc hn r)
  | _, _, .ref h => .ref (hc _ _ _ h)
  | _, _, .dre h => .dre (hc _ _ _ h)
theorem RelDs.move {n : Ms} (hc : ∀ (l : Nat) (a : Addr) (b : Bool), m.c[l]? = some a ∧ m.k[l]? = some b → n.c[l]? = some a ∧ n.k[l]? = some b) (hn : ∀ a vs, H a = some (.lst vs) → (a ∉ m.c ∧ a ∉ m.x) → (a ∉ n.c ∧ a ∉ n.x)) : ∀ {ds : List D} {vs : List V}, RelDs K m H ds vs → RelDs K n H ds vs
  | _, _, .nil => .nil
  | _, _, .cons a b => .cons (RelD.move hc hn a) (RelDs.move hc hn b)
end
theorem gr_begin {p : Addr} {vs : List V} (hp : H p = none) : Gr m H ⟨m.c, p :: m.x, m.k⟩ (upd H p (.lst vs)) :=
  ⟨(ext_new (m := m) hp).keep, (ext_new (m := m) (o := .lst vs) hp).grow, ⟨[], by simp⟩, ⟨[p], rfl, fun q hq => by simp at hq; rw [hq]; exact hp⟩, (ext_new (m := m) hp).dom⟩
theorem HR.begin {p : Addr} {vs : List V} (h : HR K m S H) (hp : H p = none) : HR K ⟨m.c, p :: m.x, m.k⟩ S (upd H p (.lst vs)) := by
  have h1 := h.new (o := .lst vs) hp
  refine ⟨h.len, h.nd, h.kln, fun l ds a e1 e2 => ?_, fun l ds a e1 e2 => ?_, fun a ha => ?_⟩
  · obtain ⟨us, q, r⟩ := h.at_ l ds a e1 e2
    have ne : a ≠ p := ne_of_none q hp
    refine ⟨us, by rw [upd_ne ne]; exact q, ?_⟩
    -- the items were there before the new list
    exact r.monoG (gr_begin hp)
  · obtain ⟨ks, d1, d2, q, r⟩ := h.dat l ds a e1 e2
    exact ⟨ks, d1, d2, by rw [upd_ne (ne_of_none q hp)]; exact q, r.monoG (gr_begin hp)⟩
  · rcases List.mem_cons.mp ha with z | z
    · subst z; exact ⟨(h.out hp).1, vs, upd_same⟩
    · obtain ⟨n, us, q⟩ := h.hid a z
      exact ⟨n, us, by rw [upd_ne (ne_of_none q hp)]; exact q⟩
end
/-- a def's slots -/
structure RS (K : PySem.W.Frag) (m : Ms) (H : Hp) (σ : Env) (vσ : L2.St) : Prop where
  len : σ.length = vσ.length
  at_ : ∀ i d, lk σ i = some d → ∃ v, vσ[i]? = some (some v) ∧ RelD K m H d v
section
variable {K : PySem.W.Frag} {m m' : Ms} {H H' : Hp} {σ : Env} {vσ : L2.St}
theorem RS.mono (x : Ext m H m' H') (r : RS K m H σ vσ) : RS K m' H' σ vσ := ⟨r.len, fun i d e => let ⟨v, h1, h2⟩ := r.at_ i d e; ⟨v, h1, h2.mono x⟩⟩
theorem lk_get : ∀ (σ : Env) (i : Nat), lk σ i = (σ[i]?).join
  | [], i => by simp [lk]
  | x :: r, 0 => by simp [lk]
  | x :: r, i + 1 => by simp [lk, lk_get r i]
theorem st_set : ∀ (σ : Env) (i : Nat) (d : D), st σ i d = σ.set i (some d)
  | [], i, d => by simp [st]
  | x :: r, 0, d => by simp [st]
  | x :: r, i + 1, d => by simp [st, st_set r i d]
theorem RS.set {i : Nat} {d : D} {v : V} (r : RS K m H σ vσ) (h : RelD K m H d v) : RS K m H (st σ i d) (vσ.set i (some v)) := by
  refine ⟨by rw [st_set, List.length_set, List.length_set]; exact r.len, fun j e q => ?_⟩
  rw [st_set, lk_get] at q
  by_cases hj : i = j
  · subst hj
    by_cases hl : i < σ.length
    · rw [List.getElem?_set_self hl] at q
      simp at q
      subst q
      exact ⟨v, by rw [List.getElem?_set_self (by rw [← r.len]; exact hl)], h⟩
    · rw [List.getElem?_eq_none (by rw [List.length_set]; omega)] at q
      simp at q
  · rw [List.getElem?_set_ne hj] at q
    rw [List.getElem?_set_ne hj]
    exact r.at_ j e (by rw [lk_get]; exact q)
theorem RS.none {i : Nat} (r : RS K m H σ vσ) (w : Option V) : RS K m H (σ.set i none) (vσ.set i w) := by
  refine ⟨by rw [List.length_set, List.length_set]; exact r.len, fun j e q => ?_⟩
  rw [lk_get] at q
  by_cases hj : i = j
  · subst hj
    by_cases hl : i < σ.length
    · rw [List.getElem?_set_self hl] at q
      simp at q
    · rw [List.getElem?_eq_none (by rw [List.length_set]; omega)] at q
      simp at q
  · rw [List.getElem?_set_ne hj] at q
    rw [List.getElem?_set_ne hj]
    exact r.at_ j e (by rw [lk_get]; exact q)
theorem RS.wipe (r : RS K m H σ vσ) : ∀ own : List Nat, RS K m H (wp0 σ own) (L2.wipe vσ own)
  | [] => r
  | i :: is => (RS.wipe r is).none .none
end
end FV
set_option Elab.async false
set_option linter.all false
set_option maxRecDepth 100000
set_option maxHeartbeats 2000000
/-! Ops: the operators by values. -/
namespace FV
open PySem L2
/-- what is wanted behind an evaluation -/
def Po (K : PySem.W.Frag) (m : Ms) (H : Hp) (k : D → Store → Prop) (Q : VK) : Prop :=
  ∀ (d : D) (S' : Store) (m' : Ms) (v : V) (H' : Hp), Ext m H m' H' → HR K m' S' H' → RelD K m' H' d v → k d S' → Q v H'
section
variable {K : PySem.W.Frag} {m m' : Ms} {H H' : Hp} {k : D → Store → Prop} {Q : VK} {S : Store}
theorem Po.ext (p : Po K m H k Q) (x : Ext m H m' H') : Po K m' H' k Q := fun d S2 m2 v H2 x2 hr r hk => p d S2 m2 v H2 (x.trans x2) hr r hk
theorem Po.done (p : Po K m H k Q) (hr : HR K m S H) {d : D} {v : V} (r : RelD K m H d v) (hk : k d S) : Q v H := p d S m v H .refl hr r hk
theorem Po.tup (p : Po K m H k Q) (hr : HR K m S H) {ds : List D} {vs : List V} (r : RelDs K m H ds vs) (hk : k (.tup ds) S) {a : Addr} (ha : H a = none) : Q (.ref a) (upd H a (.tup vs)) :=
  p (.tup ds) S m (.ref a) _ (ext_new ha) (hr.new ha) (.tup (.inl (.inl upd_same)) (r.mono (ext_new ha))) hk
theorem Po.dic (p : Po K m H k Q) (hr : HR K m S H) (hk : k .dic S) {a : Addr} (ha : H a = none) : Q (.ref a) (upd H a (.dK [])) :=
  p .dic S m (.ref a) _ (ext_new ha) (hr.new ha) (.dic upd_same) hk
theorem Po.lst (p : Po K m H k Q) (hr : HR K m S H) {ds : List D} {vs : List V} (r : RelDs K m H ds vs) (hk : k (.lst ds) S) {a : Addr} (ha : H a = none) : Q (.ref a) (upd H a (.lst vs)) :=
  p (.lst ds) S m (.ref a) _ (ext_new ha) (hr.new ha) (.lst upd_same (hr.out ha) (r.mono (ext_new ha))) hk
theorem Po.cell (p : Po K m H k Q) (hr : HR K m S H) {ds : List D} {vs : List V} (r : RelDs K m H ds vs) (hk : k (.ref S.length) (S ++ [ds])) {a : Addr} (ha : H a = none) : Q (.ref a) (upd H a (.lst vs)) :=
  p (.ref S.length) (S ++ [ds]) ⟨m.c ++ [a], m.x, m.k ++ [false]⟩ (.ref a) _ (ext_cell _ ha) (hr.cell ha r) (.ref (hr.new_at false)) hk
theorem Po.mk (p : Po K m H k Q) (hr : HR K m S H) {fr : Bool} {ds : List D} {vs : List V} (r : RelDs K m H ds vs) (hk : mk fr ds S k) {a : Addr} (ha : H a = none) : Q (.ref a) (upd H a (.lst vs)) := by
  cases fr
  · exact p.lst hr r hk ha
  · exact p.cell hr r hk ha
end
theorem sz_line {n : Nat} (h : n ≤ SZ) : n ≤ sizeLine := by
  rw [sizeLine_eq]; unfold SZ at h; omega
theorem sz_lt {n : Nat} (h : n < SZ) : n < sizeLine := by
  rw [sizeLine_eq]; unfold SZ at h; omega
theorem mulOk_ok {i j : Int} (h : mulOk i j) : IntMulOk i j := by
  rcases h with ⟨h1, h2⟩ | ⟨h1, h2⟩ | ⟨h1, h2⟩
  · exact .of_left (intBits_le_64 h1 h2)
  · exact .of_right (intBits_le_64 h1 h2)
  · exact (wide_mul h1 h2 (by omega) (by omega) (by omega)).ok
theorem divOk_py {x b : Int} (h : divOk b) : Builtin.divisionGoesByPylong x b = false :=
  PyProof.noPylong_of_log2 (Nat.lt_of_lt_of_le (PySem.Flt.log2_lt_of (by omega : 0 < 8000) h.2) (by omega))
/-- a // b, the divisor of any sign -/
theorem op_fdivA {X : Cx} : OpR X (binaryOp .FloorDiv) (rI (fun _ j => divOk j) fun i j => .int (i.fdiv j)) := opI fun _ _ _ _ _ _ _ hc q => PyProof.Rows.floordiv_int hc.1 q (.inl (divOk_py hc))
theorem call_divmodA {X : Cx} : CallR X (.builtin "divmod") (fun xs H Q => ∃ i j, xs = [.int i, .int j] ∧ (0 < j ∧ divOk j) ∧ ∀ p, H p = none → Q (.ref p) (upd H p (.tup [.int (i / j), .int (i % j)]))) := by
  intro pins s σ H xs us Q I r h
  obtain ⟨i, j, rfl, ⟨h1, h2⟩, q⟩ := h
  obtain ⟨u, w', rfl, ⟨t, rfl⟩, ⟨t', rfl⟩⟩ := vals2 r
  refine PyProof.Rows.divmod_int h2.1 ?_ (.inl (divOk_py h2))
  rw [Int.fdiv_eq_ediv_of_nonneg i (by omega), Int.fmod_eq_emod_of_nonneg i (by omega)]
  have hn : H s.heap.objs.size = none := I.hok.fresh (Nat.le_refl _)
  refine ⟨.ref s.heap.objs.size, _, ?_, rfl, q _ hn⟩
  refine I.laid (fun b o e => Heap.get?_push_of_some _ e) (Nat.le_refl _) ⟨by simp only [List.length_cons, List.length_nil]; rw [sizeLine_eq]; decide, [.int (i / j) s.toks, .int (i % j) (s.toks + 1)], .cons ⟨_, rfl⟩ (.cons ⟨_, rfl⟩ .nil), ?_⟩
  exact ⟨_, Heap.get?_push_size s.heap rfl, rfl, 0, rfl⟩
/-! ### data -/
mutual
theorem py_dp {K : PySem.W.Frag} {m : Ms} {H : Hp} : ∀ {n : Nat} {d : D} {v : V}, pure? n d = true → RelD K m H d v → Dp K H v (py d)
  | _, _, _, _, .non => .non
  | _, _, _, _, .bl b => .bl b
  | _, _, _, _, .int i => .int i
  | _, _, _, _, .str s => .str s
  | 0, _, _, h, .tup hs r => by cases h
  | n + 1, _, _, h, .tup hs r => .tup hs (pys_dp (n := n) h r)
  | 0, _, _, h, .lst hs _ r => by cases h
  | n + 1, _, _, h, .lst hs _ r => .lst (.inl (.inl hs)) (pys_dp (n := n) h r)
  | 0, _, _, h, .frz hs r => by cases h
  | n + 1, _, _, h, .frz hs r => by cases h
  | 0, _, _, h, .ref _ => by cases h
  | 0, _, _, h, .dre _ => by cases h
  | n + 1, _, _, h, .ref _ => by cases h
  | n + 1, _, _, h, .dre _ => by cases h
  | 0, _, _, h, .fn _ => by cases h
  | n + 1, _, _, h, .fn _ => by cases h
  | 0, _, _, h, .rep _ => by cases h
  | 0, _, _, h, .dic _ => by cases h
  | 0, _, _, h, .dss _ => by cases h
  | n + 1, _, _, h, .rep _ => by cases h
  | n + 1, _, _, h, .dic _ => by cases h
  | n + 1, _, _, h, .dss _ => by cases h
theorem pys_dp {K : PySem.W.Frag} {m : Ms} {H : Hp} : ∀ {n : Nat} {ds : List D} {vs : List V}, pures? n ds = true → RelDs K m H ds vs → DpAll K H vs (pys ds)
  | _, _, _, _, .nil => .nil
  | n, _, _, h, .cons r t => by
    unfold pures? at h
    rw [Bool.and_eq_true] at h
    exact .cons (py_dp (n := n) h.1 r) (pys_dp (n := n) h.2 t)
end
mutual
theorem py_ok : ∀ {n : Nat} {d : D}, pure? n d = true → (py d).canLay0 = true ∧ (py d).depth ≤ n
  | n, .non, _ => ⟨rfl, Nat.zero_le _⟩
  | n, .bl _, _ => ⟨rfl, Nat.zero_le _⟩
  | n, .int _, _ => ⟨rfl, Nat.zero_le _⟩
  | n, .str s, h => ⟨by
      have h' : PyData.strOk s = true := by cases n <;> exact h
      exact h', Nat.zero_le _⟩
  | 0, .tup ds, h => by cases h
  | n + 1, .tup ds, h => by
    obtain ⟨a, b⟩ := pys_ok (n := n) (ds := ds) h
    exact ⟨a, Nat.succ_le_succ b⟩
  | 0, .lst ds, h => by cases h
  | n + 1, .lst ds, h => by
    obtain ⟨a, b⟩ := pys_ok (n := n) (ds := ds) h
    exact ⟨a, Nat.succ_le_succ b⟩
  | 0, .frz _, h => by cases h
  | n + 1, .frz _, h => by cases h
  | 0, .ref _, h => by cases h
  | 0, .dre _, h => by cases h
  | n + 1, .ref _, h => by cases h
  | n + 1, .dre _, h => by cases h
  | 0, .fn _, h => by cases h
  | n + 1, .fn _, h => by cases h
  | 0, .exc _ _, h => by cases h
  | n + 1, .exc _ _, h => by cases h
  | 0, .itr _, h => by cases h
  | n + 1, .itr _, h => by cases h
  | 0, .rep _, h => by cases h
  | 0, .dic, h => by cases h
  | 0, .dss _, h => by cases h
  | 0, .itg _ _ _, h => by cases h
  | 0, .itg2 .., h => by cases h
  | n + 1, .rep _, h => by cases h
  | n + 1, .dic, h => by cases h
  | n + 1, .dss _, h => by cases h
  | n + 1, .itg _ _ _, h => by cases h
  | n + 1, .itg2 .., h => by cases h
theorem pys_ok : ∀ {n : Nat} {ds : List D}, pures? n ds = true → PyData.canLayAll0 (pys ds) = true ∧ PyData.depthAll (pys ds) ≤ n
  | n, [], _ => ⟨rfl, Nat.zero_le _⟩
  | n, d :: ds, h => by
    unfold pures? at h
    rw [Bool.and_eq_true] at h
    obtain ⟨a1, b1⟩ := py_ok (n := n) h.1
    obtain ⟨a2, b2⟩ := pys_ok (n := n) h.2
    refine ⟨?_, Nat.max_le.mpr ⟨b1, b2⟩⟩
    show (PyData.canLay0 (py d) && PyData.canLayAll0 (pys ds)) = true
    rw [a1, a2]; rfl
end
theorem py_shaped {d : D} (h : pure? DEEP d = true) : SeqAt.shaped (py d) = true := by
  obtain ⟨a, b⟩ := py_ok h
  unfold SeqAt.shaped
  rw [a]
  have : (py d).depth ≤ 64 := by unfold DEEP at b; omega
  simp [this]
theorem pys_shaped {ds : List D} (h : pures? DEEP ds = true) : SeqAt.shaped (.list (pys ds)) = true := by
  obtain ⟨a, b⟩ := pys_ok h
  unfold SeqAt.shaped
  show (PyData.canLayAll0 (pys ds) && decide (PyData.depthAll (pys ds) + 1 ≤ 64)) = true
  rw [a]
  have : PyData.depthAll (pys ds) + 1 ≤ 64 := by unfold DEEP at b; omega
  simp [this]
theorem pure_succ_tup {n : Nat} {ds : List D} : pure? (n + 1) (.tup ds) = pures? n ds := rfl
mutual
theorem eqv_eq : ∀ {n : Nat} (d e : D), pure? n d = true → pure? n e = true → PyData.eqv (py d) (py e) = eqD d e
  | n, .non, e, _, he => by cases e <;> first | rfl | (cases n <;> cases he)
  | n, .bl a, e, _, he => by
    cases e <;> first
      | rfl
      | (cases n <;> cases he)
      | (rename_i j; show ((if a then 1 else 0) == j) = decide ((if a then 1 else 0) = j); rw [Bool.beq_eq_decide_eq])
  | n, .int i, e, _, he => by
    cases e <;> first
      | rfl
      | (cases n <;> cases he)
      | (rename_i j; show (i == _) = decide (i = _); rw [Bool.beq_eq_decide_eq])
  | n, .str s, e, _, he => by cases e <;> first | rfl | (cases n <;> cases he)
  | 0, .tup ds, e, hd, he => by cases hd
  | n + 1, .tup ds, .tup es, hd, he => eqvs_eq (n := n) ds es hd he
  | n + 1, .tup ds, .non, hd, he => rfl
  | n + 1, .tup ds, .bl _, hd, he => rfl
  | n + 1, .tup ds, .int _, hd, he => rfl
  | n + 1, .tup ds, .str _, hd, he => rfl
  | n + 1, .tup ds, .lst _, hd, he => rfl
  | n + 1, .tup ds, .frz _, hd, he => by cases he
  | n + 1, .tup ds, .ref _, hd, he => by cases he
  | n + 1, .tup ds, .dre _, hd, he => by cases he
  | n + 1, .tup ds, .fn _, hd, he => by cases he
  | n + 1, .tup ds, .exc _ _, hd, he => by cases he
  | n + 1, .tup ds, .itr _, hd, he => by cases he
  | n + 1, .tup ds, .rep _, hd, he => by cases he
  | n + 1, .tup ds, .dic, hd, he => by cases he
  | n + 1, .tup ds, .dss _, hd, he => by cases he
  | n + 1, .tup ds, .itg _ _ _, hd, he => by cases he
  | n + 1, .tup ds, .itg2 .., hd, he => by cases he
  | 0, .lst ds, e, hd, he => by cases hd
  | n + 1, .lst ds, .lst es, hd, he => eqvs_eq (n := n) ds es hd he
  | n + 1, .lst ds, .non, hd, he => rfl
  | n + 1, .lst ds, .bl _, hd, he => rfl
  | n + 1, .lst ds, .int _, hd, he => rfl
  | n + 1, .lst ds, .str _, hd, he => rfl
  | n + 1, .lst ds, .tup _, hd, he => rfl
  | n + 1, .lst ds, .frz _, hd, he => by cases he
  | n + 1, .lst ds, .ref _, hd, he => by cases he
  | n + 1, .lst ds, .dre _, hd, he => by cases he
  | n + 1, .lst ds, .fn _, hd, he => by cases he
  | n + 1, .lst ds, .exc _ _, hd, he => by cases he
  | n + 1, .lst ds, .itr _, hd, he => by cases he
  | n + 1, .lst ds, .rep _, hd, he => by cases he
  | n + 1, .lst ds, .dic, hd, he => by cases he
  | n + 1, .lst ds, .dss _, hd, he => by cases he
  | n + 1, .lst ds, .itg _ _ _, hd, he => by cases he
  | n + 1, .lst ds, .itg2 .., hd, he => by cases he
  | n, .frz _, e, hd, he => by cases n <;> cases hd
  | n, .ref _, e, hd, he => by cases n <;> cases hd
  | n, .dre _, e, hd, he => by cases n <;> cases hd
  | n, .fn _, e, hd, he => by cases n <;> cases hd
  | n, .exc _ _, e, hd, he => by cases n <;> cases hd
  | n, .itr _, e, hd, he => by cases n <;> cases hd
  | n, .rep _, e, hd, he => by cases n <;> cases hd
  | n, .dic, e, hd, he => by cases n <;> cases hd
  | n, .dss _, e, hd, he => by cases n <;> cases hd
  | n, .itg _ _ _, e, hd, he => by cases n <;> cases hd
  | n, .itg2 .., e, hd, he => by cases n <;> cases hd
theorem eqvs_eq : ∀ {n : Nat} (ds es : List D), pures? n ds = true → pures? n es = true → PyData.eqvAll (pys ds) (pys es) = eqDs ds es
  | n, [], [], _, _ => rfl
  | n, [], _ :: _, _, _ => rfl
  | n, _ :: _, [], _, _ => rfl
  | n, d :: ds, e :: es, hd, he => by
    unfold pures? at hd he
    rw [Bool.and_eq_true] at hd he
    show (PyData.eqv (py d) (py e) && PyData.eqvAll (pys ds) (pys es)) = (eqD d e && eqDs ds es)
    rw [eqv_eq (n := n) d e hd.1 he.1, eqvs_eq (n := n) ds es hd.2 he.2]
end
theorem any_eq (x : D) (hx : pure? DEEP x = true) : ∀ ys : List D, pures? DEEP ys = true → ((pys ys).any fun z => PyData.eqv z (py x)) = inD x ys
  | [], _ => rfl
  | y :: ys, h => by
    unfold pures? at h
    rw [Bool.and_eq_true] at h
    show (PyData.eqv (py y) (py x) || (pys ys).any fun z => PyData.eqv z (py x)) = (eqD y x || inD x ys)
    rw [eqv_eq (n := DEEP) y x h.1 hx, any_eq x hx ys h.2]
def rInT (K : PySem.W.Frag) (neg : Bool) : R2 := fun x y H Q => ∃ d ds, Dp K H x d ∧ Dp K H y (.tuple ds) ∧ SeqAt.shaped d = true ∧ SeqAt.shaped (.list ds) = true ∧ Q (.bl (if neg then !(ds.any fun z => PyData.eqv z d) else ds.any fun z => PyData.eqv z d)) H
theorem op_inDT {X : Cx} (hu : X.A.units + 65 < cLine) : OpR X (compareOp .In) (rInT X.K false) := by
  intro pins s σ H x y v u Q I rx ry h
  obtain ⟨d, ds, hd, he, sd, se, q⟩ := h
  obtain ⟨as, r1⟩ := Dp.reads I d x v hd rx
  obtain ⟨bs, r2⟩ := Dp.reads I (.tuple ds) y u he ry
  exact SeqAt.in_tuple_reads r2 r1 (SeqAt.canLay_of_shaped se) (SeqAt.canLay_of_shaped sd) (PyProof.Rows.room_in_shaped sd hu) ⟨.bl _, H, I, rfl, q⟩
theorem op_notInDT {X : Cx} (hu : X.A.units + 65 < cLine) : OpR X (compareOp .NotIn) (rInT X.K true) := by
  intro pins s σ H x y v u Q I rx ry h
  obtain ⟨d, ds, hd, he, sd, se, q⟩ := h
  obtain ⟨as, r1⟩ := Dp.reads I d x v hd rx
  obtain ⟨bs, r2⟩ := Dp.reads I (.tuple ds) y u he ry
  exact SeqAt.notIn_tuple_reads r2 r1 (SeqAt.canLay_of_shaped se) (SeqAt.canLay_of_shaped sd) (PyProof.Rows.room_in_shaped sd hu) ⟨.bl _, H, I, rfl, q⟩
end FV
set_option Elab.async false
set_option linter.all false
set_option maxRecDepth 100000
set_option maxHeartbeats 2000000
/-! Ops2: binary operators, comparisons, truth, by data. -/
namespace FV
open PySem L2
def opOf : Bop → Operator
  | .add => .Add | .sub => .Sub | .mul => .Mult | .fdiv => .FloorDiv | .mod => .Mod | .pow => .Pow
def copOf : Cop → CmpOp
  | .eq => .Eq | .ne => .NotEq | .lt => .Lt | .le => .LtE | .gt => .Gt | .ge => .GtE | .is => .Is | .isnot => .IsNot | .isin => .In | .notin => .NotIn
def rB (K : PySem.W.Frag) (op : Bop) : R2 := fun x y H Q => ∃ m S k a b, HR K m S H ∧ RelD K m H a x ∧ RelD K m H b y ∧ Po K m H k Q ∧ bop op a b (fun z => k z S)
def rC (K : PySem.W.Frag) (op : Cop) : R2 := fun x y H Q => ∃ m S k a b, HR K m S H ∧ RelD K m H a x ∧ RelD K m H b y ∧ Po K m H k Q ∧ cop op a b (fun z => k (.bl z) S)
theorem RelDs.nil_iff {K : PySem.W.Frag} {m : Ms} {H : Hp} {ds : List D} {vs : List V} (r : RelDs K m H ds vs) : ds = [] ↔ vs = [] := by
  cases r <;> simp
section
variable {X : Cx}
theorem bop_ok (op : Bop) : OpR X (binaryOp (opOf op)) (rB X.K op) := by
  intro pins s σ H x y v u Q I rx ry h
  obtain ⟨m, S, k, a, b, hr, ra, rb, po, h⟩ := h
  cases op with
  | add =>
    cases ra <;> cases rb <;> try (exact h.elim)
    · exact op_add pins s σ H _ _ v u Q I rx ry ⟨_, _, rfl, rfl, po.done hr (.int _) h⟩
    · rename_i ds a' vs hs rs es b' ws ht rt
      obtain ⟨hz, h⟩ := h
      refine op_catA pins s σ H _ _ v u Q I rx ry ⟨_, _, _, _, rfl, rfl, hs, ht, by rw [← rs.length, ← rt.length]; exact sz_line hz, fun e => ?_, fun e e2 => ?_, fun _ _ p hp => ?_⟩
      · have e' := rs.nil_iff.mpr e
        subst e'
        exact po.done hr (.tup ht rt) h
      · have e' := rt.nil_iff.mpr e2
        subst e'
        rw [List.append_nil] at h
        exact po.done hr (.tup hs rs) h
      · exact po.tup hr (rs.append rt) h hp
    · rename_i ds a' vs hs na rs es b' ws ht nb rt
      obtain ⟨hz, h⟩ := h
      exact op_cat pins s σ H _ _ v u Q I rx ry ⟨_, _, _, _, rfl, rfl, hs, ht, by rw [← rs.length, ← rt.length]; exact sz_line hz, fun p hp => po.lst hr (rs.append rt) h hp⟩
  | sub =>
    cases ra <;> cases rb <;> try (exact h.elim)
    · obtain rfl := rx
      obtain rfl := ry
      exact PyProof.Rows.sub_bool ⟨.int _, H, I.tok _, ⟨_, rfl⟩, po.done hr (.int _) h⟩
    · exact op_sub pins s σ H _ _ v u Q I rx ry ⟨_, _, rfl, rfl, po.done hr (.int _) h⟩
  | mul =>
    cases ra <;> cases rb <;> try (exact h.elim)
    · rename_i i j
      obtain ⟨t, rfl⟩ := rx
      obtain ⟨t', rfl⟩ := ry
      exact PyProof.Rows.mul_int ⟨.int (i * j), H, I.tok _, ⟨_, rfl⟩, po.done hr (.int _) h.2⟩ (mulOk_ok h.1)
    · rename_i ds a' vs hs rs j
      obtain ⟨⟨h0, h1, h2, h3⟩, h⟩ := h
      exact op_repT pins s σ H _ _ v u Q I rx ry ⟨_, _, _, rfl, rfl, hs, fun e => h0 (List.eq_nil_of_length_eq_zero (by rw [rs.length, e]; rfl)), h1, h2, by rw [← rs.length]; exact h3, fun p hp => po.tup hr (rs.rep _) h hp⟩
    · rename_i ds a' vs hs na rs j
      obtain ⟨⟨h1, h2, h3⟩, h⟩ := h
      unfold SZ at h2
      exact op_rep pins s σ H _ _ v u Q I rx ry ⟨_, _, _, rfl, rfl, hs, by omega, by omega, by rw [← rs.length]; exact sz_line h3, fun p hp => po.lst hr (rs.rep _) h hp⟩
  | fdiv =>
    cases ra <;> cases rb <;> try (exact h.elim)
    exact op_fdivA pins s σ H _ _ v u Q I rx ry ⟨_, _, rfl, rfl, h.1, po.done hr (.int _) h.2⟩
  | mod =>
    cases ra <;> cases rb <;> try (exact h.elim)
    exact op_modN pins s σ H _ _ v u Q I rx ry ⟨_, _, rfl, rfl, h.1, po.done hr (.int _) h.2⟩
  | pow =>
    cases ra <;> cases rb <;> try (exact h.elim)
    exact op_pow pins s σ H _ _ v u Q I rx ry ⟨_, _, rfl, rfl, h.1, po.done hr (.int _) h.2⟩
theorem eq_data (hu : X.A.units + 64 < cLine) {pins : List (Addr × Obj)} {s : Shared} {σ : L2.St} {H : Hp} {x y : V} {v u : Value} {Q : VK} {m : Ms} {S : Store} {k : D → Store → Prop} {a b : D} (I : Inv X pins σ H s) (rx : RelV x v) (ry : RelV y u) (hr : HR X.K m S H) (ra : RelD X.K m H a x) (rb : RelD X.K m H b y) (po : Po X.K m H k Q)
    (h : (pure? DEEP a = true ∧ pure? DEEP b = true) ∧ k (.bl (eqD a b)) S) : wpAny (model X.prog X.w) X.A (compareOp .Eq v u) (EP X pins σ Q) X.xe s := by
  obtain ⟨⟨h1, h2⟩, h⟩ := h
  refine op_eqD hu pins s σ H x y v u Q I rx ry ⟨py a, py b, py_dp h1 ra, py_dp h2 rb, py_shaped h1, py_shaped h2, ?_⟩
  rw [eqv_eq a b h1 h2]
  exact po.done hr (.bl _) h
theorem ne_data (hu : X.A.units + 64 < cLine) {pins : List (Addr × Obj)} {s : Shared} {σ : L2.St} {H : Hp} {x y : V} {v u : Value} {Q : VK} {m : Ms} {S : Store} {k : D → Store → Prop} {a b : D} (I : Inv X pins σ H s) (rx : RelV x v) (ry : RelV y u) (hr : HR X.K m S H) (ra : RelD X.K m H a x) (rb : RelD X.K m H b y) (po : Po X.K m H k Q)
    (h : (pure? DEEP a = true ∧ pure? DEEP b = true) ∧ k (.bl (!eqD a b)) S) : wpAny (model X.prog X.w) X.A (compareOp .NotEq v u) (EP X pins σ Q) X.xe s := by
  obtain ⟨⟨h1, h2⟩, h⟩ := h
  refine op_neD hu pins s σ H x y v u Q I rx ry ⟨py a, py b, py_dp h1 ra, py_dp h2 rb, py_shaped h1, py_shaped h2, ?_⟩
  rw [eqv_eq a b h1 h2]
  exact po.done hr (.bl _) h
theorem dec_V {i j : Int} : decide (V.int i = V.int j) = decide (i = j) := by
  by_cases e : i = j
  · subst e; simp
  · simp [e]
theorem cop_ok (hu : X.A.units + 65 < cLine) (op : Cop) : OpR X (compareOp (copOf op)) (rC X.K op) := by
  intro pins s σ H x y v u Q I rx ry h
  obtain ⟨m, S, k, a, b, hr, ra, rb, po, h⟩ := h
  have hu' : X.A.units + 64 < cLine := by omega
  cases op with
  | eq =>
    have gen : ((pure? DEEP a = true ∧ pure? DEEP b = true) ∧ k (.bl (eqD a b)) S) → wpAny (model X.prog X.w) X.A (compareOp .Eq v u) (EP X pins σ Q) X.xe s := eq_data hu' I rx ry hr ra rb po
    cases ra <;> cases rb <;> first
      | exact gen h
      | (refine op_eq pins s σ H _ _ v u Q I rx ry ⟨rfl, ?_⟩
         rw [dec_V]
         exact po.done hr (.bl _) h)
      | (obtain ⟨e, h⟩ := h
         subst e
         refine op_eq pins s σ H _ _ v u Q I rx ry ⟨rfl, ?_⟩
         rw [decide_eq_true rfl]
         exact po.done hr (.bl _) h)
  | ne =>
    have gen : ((pure? DEEP a = true ∧ pure? DEEP b = true) ∧ k (.bl (!eqD a b)) S) → wpAny (model X.prog X.w) X.A (compareOp .NotEq v u) (EP X pins σ Q) X.xe s := ne_data hu' I rx ry hr ra rb po
    cases ra <;> cases rb <;> first
      | exact gen h
      | (refine op_ne pins s σ H _ _ v u Q I rx ry ⟨rfl, ?_⟩
         rw [dec_V]
         exact po.done hr (.bl _) h)
      | (obtain ⟨e, h⟩ := h
         subst e
         refine op_ne pins s σ H _ _ v u Q I rx ry ⟨rfl, ?_⟩
         rw [decide_eq_true rfl]
         exact po.done hr (.bl _) h)
  | lt =>
    cases ra <;> cases rb <;> try (exact h.elim)
    exact op_lt pins s σ H _ _ v u Q I rx ry ⟨_, _, rfl, rfl, po.done hr (.bl _) h⟩
  | le =>
    cases ra <;> cases rb <;> try (exact h.elim)
    exact op_le pins s σ H _ _ v u Q I rx ry ⟨_, _, rfl, rfl, po.done hr (.bl _) h⟩
  | gt =>
    cases ra <;> cases rb <;> try (exact h.elim)
    exact op_gt pins s σ H _ _ v u Q I rx ry ⟨_, _, rfl, rfl, po.done hr (.bl _) h⟩
  | ge =>
    cases ra <;> cases rb <;> try (exact h.elim)
    exact op_ge pins s σ H _ _ v u Q I rx ry ⟨_, _, rfl, rfl, po.done hr (.bl _) h⟩
  | is =>
    cases rb <;> try (cases ra <;> exact h.elim)
    · refine op_isN pins s σ H _ _ v u Q I rx ry ⟨rfl, ?_⟩
      have e : decide (x = V.non) = isNon a := by cases ra <;> simp [isNon]
      rw [e]
      exact po.done hr (.bl _) (by cases ra <;> exact h)
    · cases ra <;> try (exact h.elim)
      cases rx
      cases ry
      exact PyProof.Rows.is_bool ⟨.bl _, H, I, rfl, po.done hr (.bl _) h⟩
  | isnot =>
    cases rb <;> try (cases ra <;> exact h.elim)
    · refine op_notN pins s σ H _ _ v u Q I rx ry ⟨rfl, ?_⟩
      have e : decide (x = V.non) = isNon a := by cases ra <;> simp [isNon]
      rw [e]
      exact po.done hr (.bl _) (by cases ra <;> exact h)
    · cases ra <;> try (exact h.elim)
      cases rx
      cases ry
      exact PyProof.Rows.isnot_bool ⟨.bl _, H, I, rfl, po.done hr (.bl _) h⟩
  | isin =>
    cases rb <;> try (cases ra <;> exact h.elim)
    · rename_i ds a' vs hs rs
      have h' : (pure? DEEP a = true ∧ pures? DEEP ds = true) ∧ k (.bl (inD a ds)) S := by cases ra <;> exact h
      obtain ⟨⟨h1, h2⟩, h3⟩ := h'
      refine op_inDT hu pins s σ H _ _ v u Q I rx ry ⟨py a, pys ds, py_dp h1 ra, .tup hs (pys_dp h2 rs), py_shaped h1, pys_shaped h2, ?_⟩
      show Q (.bl ((pys ds).any fun z => PyData.eqv z (py a))) H
      rw [any_eq a h1 ds h2]
      exact po.done hr (.bl _) h3
    · rename_i ds a' vs hs na rs
      have h' : (pure? DEEP a = true ∧ pures? DEEP ds = true) ∧ k (.bl (inD a ds)) S := by cases ra <;> exact h
      obtain ⟨⟨h1, h2⟩, h3⟩ := h'
      refine op_inD hu pins s σ H _ _ v u Q I rx ry ⟨py a, pys ds, py_dp h1 ra, .lst (.inl (.inl hs)) (pys_dp h2 rs), py_shaped h1, pys_shaped h2, ?_⟩
      rw [any_eq a h1 ds h2]
      exact po.done hr (.bl _) h3
  | notin =>
    cases rb <;> try (cases ra <;> exact h.elim)
    · rename_i ds a' vs hs rs
      have h' : (pure? DEEP a = true ∧ pures? DEEP ds = true) ∧ k (.bl (!inD a ds)) S := by cases ra <;> exact h
      obtain ⟨⟨h1, h2⟩, h3⟩ := h'
      refine op_notInDT hu pins s σ H _ _ v u Q I rx ry ⟨py a, pys ds, py_dp h1 ra, .tup hs (pys_dp h2 rs), py_shaped h1, pys_shaped h2, ?_⟩
      show Q (.bl (!(pys ds).any fun z => PyData.eqv z (py a))) H
      rw [any_eq a h1 ds h2]
      exact po.done hr (.bl _) h3
    · rename_i ds a' vs hs na rs
      have h' : (pure? DEEP a = true ∧ pures? DEEP ds = true) ∧ k (.bl (!inD a ds)) S := by cases ra <;> exact h
      obtain ⟨⟨h1, h2⟩, h3⟩ := h'
      refine op_notInD hu pins s σ H _ _ v u Q I rx ry ⟨py a, pys ds, py_dp h1 ra, .lst (.inl (.inl hs)) (pys_dp h2 rs), py_shaped h1, pys_shaped h2, ?_⟩
      rw [any_eq a h1 ds h2]
      exact po.done hr (.bl _) h3
/-! ### in, not in: of a row, or of a list that changes -/
def inOp (neg : Bool) : CmpOp := if neg then .NotIn else .In
def rN (K : PySem.W.Frag) (neg : Bool) : R2 := fun x y H Q => ∃ m S k a b, HR K m S H ∧ RelD K m H a x ∧ RelD K m H b y ∧ Po K m H k Q ∧ isnD neg a b S (fun z => k (.bl z) S)
theorem isn_ok (hu : X.A.units + 65 < cLine) (neg : Bool) : OpR X (compareOp (inOp neg)) (rN X.K neg) := by
  intro pins s σ H x y v u Q I rx ry h
  obtain ⟨m, S, k, a, b, hr, ra, rb, po, h⟩ := h
  cases rb <;> try (exact h.elim)
  · rename_i ds p vs hs rs
    obtain ⟨⟨h1, h2⟩, h3⟩ := h
    cases neg
    · refine op_inDT hu pins s σ H _ _ v u Q I rx ry ⟨py a, pys ds, py_dp h1 ra, .tup hs (pys_dp h2 rs), py_shaped h1, pys_shaped h2, ?_⟩
      show Q (.bl ((pys ds).any fun z => PyData.eqv z (py a))) H
      rw [any_eq a h1 ds h2]
      exact po.done hr (.bl _) h3
    · refine op_notInDT hu pins s σ H _ _ v u Q I rx ry ⟨py a, pys ds, py_dp h1 ra, .tup hs (pys_dp h2 rs), py_shaped h1, pys_shaped h2, ?_⟩
      show Q (.bl (!(pys ds).any fun z => PyData.eqv z (py a))) H
      rw [any_eq a h1 ds h2]
      exact po.done hr (.bl _) h3
  · rename_i ds p vs hs na rs
    obtain ⟨⟨h1, h2⟩, h3⟩ := h
    cases neg
    · refine op_inD hu pins s σ H _ _ v u Q I rx ry ⟨py a, pys ds, py_dp h1 ra, .lst (.inl (.inl hs)) (pys_dp h2 rs), py_shaped h1, pys_shaped h2, ?_⟩
      rw [any_eq a h1 ds h2]
      exact po.done hr (.bl _) h3
    · refine op_notInD hu pins s σ H _ _ v u Q I rx ry ⟨py a, pys ds, py_dp h1 ra, .lst (.inl (.inl hs)) (pys_dp h2 rs), py_shaped h1, pys_shaped h2, ?_⟩
      rw [any_eq a h1 ds h2]
      exact po.done hr (.bl _) h3
  · rename_i l p hl
    have h : (match cl S l with | some ys => inrD neg a ys (fun z => k (.bl z) S) | none => False) := h
    split at h
    · rename_i ds e
      obtain ⟨vs, hs, rs⟩ := hr.at_ l ds p e hl
      obtain ⟨⟨h1, h2⟩, h3⟩ := h
      cases neg
      · refine op_inD hu pins s σ H _ _ v u Q I rx ry ⟨py a, pys ds, py_dp h1 ra, .lst (.inl (.inl hs)) (pys_dp h2 rs), py_shaped h1, pys_shaped h2, ?_⟩
        rw [any_eq a h1 ds h2]
        exact po.done hr (.bl _) h3
      · refine op_notInD hu pins s σ H _ _ v u Q I rx ry ⟨py a, pys ds, py_dp h1 ra, .lst (.inl (.inl hs)) (pys_dp h2 rs), py_shaped h1, pys_shaped h2, ?_⟩
        rw [any_eq a h1 ds h2]
        exact po.done hr (.bl _) h3
    · exact h.elim
/-- one behind the other, lists that change too -/
def rCat (K : PySem.W.Frag) (fr : Bool) : R2 := fun x y H Q => ∃ m S k a b, HR K m S H ∧ RelD K m H a x ∧ RelD K m H b y ∧ Po K m H k Q ∧ catD a b S (fun zs => mk fr zs S k)
theorem row_rel {K : PySem.W.Frag} {m : Ms} {H : Hp} {S : Store} {a : D} {x : V} {ds : List D} (hr : HR K m S H) (ra : RelD K m H a x) (e : rowR a S = some ds) : ∃ p vs, x = .ref p ∧ H p = some (.lst vs) ∧ RelDs K m H ds vs := by
  cases ra <;> try (cases e; done)
  · rename_i ds' p vs hs na rs
    cases e
    exact ⟨_, _, rfl, hs, rs⟩
  · rename_i l p hl
    obtain ⟨vs, hs, rs⟩ := hr.at_ l ds p e hl
    exact ⟨_, _, rfl, hs, rs⟩
/-- ==, != of lists, changing ones too -/
def eqOp (neg : Bool) : CmpOp := if neg then .NotEq else .Eq
def rEm (K : PySem.W.Frag) (neg : Bool) : R2 := fun x y H Q => ∃ m S k a b, HR K m S H ∧ RelD K m H a x ∧ RelD K m H b y ∧ Po K m H k Q ∧ eqmD neg a b S (fun z => k (.bl z) S)
theorem eqm_ok (hu : X.A.units + 65 < cLine) (neg : Bool) : OpR X (compareOp (eqOp neg)) (rEm X.K neg) := by
  intro pins s σ H x y v u Q I rx ry h
  obtain ⟨m, S, k, a, b, hr, ra, rb, po, h⟩ := h
  have hu' : X.A.units + 64 < cLine := by omega
  unfold eqmD at h
  split at h
  · rename_i as ea
    split at h
    · rename_i bs eb
      obtain ⟨⟨h1, h2⟩, h3⟩ := h
      obtain ⟨p, vs, rfl, hp, rs⟩ := row_rel hr ra ea
      obtain ⟨p', vs', rfl, hp', rs'⟩ := row_rel hr rb eb
      have d1 : Dp X.K H (.ref p) (py (.lst as)) := .lst (.inl (.inl hp)) (pys_dp (n := 39) h1 rs)
      have d2 : Dp X.K H (.ref p') (py (.lst bs)) := .lst (.inl (.inl hp')) (pys_dp (n := 39) h2 rs')
      cases neg
      · refine op_eqD hu' pins s σ H _ _ v u Q I rx ry ⟨py (.lst as), py (.lst bs), d1, d2, py_shaped h1, py_shaped h2, ?_⟩
        rw [eqv_eq _ _ h1 h2]
        exact po.done hr (.bl _) (by rw [Bool.false_bne] at h3; exact h3)
      · refine op_neD hu' pins s σ H _ _ v u Q I rx ry ⟨py (.lst as), py (.lst bs), d1, d2, py_shaped h1, py_shaped h2, ?_⟩
        rw [eqv_eq _ _ h1 h2]
        exact po.done hr (.bl _) (by rw [Bool.true_bne] at h3; exact h3)
    · cases neg
      · exact cop_ok hu .eq pins s σ H _ _ v u Q I rx ry ⟨m, S, k, a, b, hr, ra, rb, po, h⟩
      · exact cop_ok hu .ne pins s σ H _ _ v u Q I rx ry ⟨m, S, k, a, b, hr, ra, rb, po, h⟩
  · cases neg
    · exact cop_ok hu .eq pins s σ H _ _ v u Q I rx ry ⟨m, S, k, a, b, hr, ra, rb, po, h⟩
    · exact cop_ok hu .ne pins s σ H _ _ v u Q I rx ry ⟨m, S, k, a, b, hr, ra, rb, po, h⟩
theorem cat_op (fr : Bool) : OpR X (binaryOp .Add) (rCat X.K fr) := by
  intro pins s σ H x y v u Q I rx ry h
  obtain ⟨m, S, k, a, b, hr, ra, rb, po, h⟩ := h
  unfold catD at h
  split at h
  · rename_i ds e1
    split at h
    · rename_i es e2
      obtain ⟨p, vs, rfl, hs, rs⟩ := row_rel hr ra e1
      obtain ⟨q, ws, rfl, ht, rt⟩ := row_rel hr rb e2
      exact op_cat pins s σ H _ _ v u Q I rx ry ⟨_, _, _, _, rfl, rfl, hs, ht, by rw [← rs.length, ← rt.length]; exact sz_line h.1, fun p hp => po.mk hr (rs.append rt) h.2 hp⟩
    · exact h.elim
  · exact h.elim
/-- truth -/
def rRpt (K : PySem.W.Frag) : R2 := fun v w H Q => ∃ m S k a b, HR K m S H ∧ RelD K m H a v ∧ RelD K m H b w ∧ Po K m H k Q ∧ rptD a b fun zs => k (.ref S.length) (S ++ [zs])
theorem rpt_op : OpR X (binaryOp .Mult) (rRpt X.K) := by
  intro pins s σ H x y v u Q I rx ry h
  obtain ⟨m, S, k, a, b, hr, ra, rb, po, h⟩ := h
  unfold rptD at h
  split at h
  · rename_i ds j
    cases ra
    cases rb
    rename_i a' vs hs na rs
    obtain ⟨⟨h1, h2, h3⟩, h⟩ := h
    unfold SZ at h2
    exact op_rep pins s σ H _ _ v u Q I rx ry ⟨_, _, _, rfl, rfl, hs, by omega, by omega, by rw [← rs.length]; exact sz_line h3, fun p hp => po.cell hr (rs.rep _) h hp⟩
  · exact h.elim
theorem tru_pure {K : PySem.W.Frag} {m : Ms} {H : Hp} {d : D} {x : V} {p : Bool → Prop} (r : RelD K m H d x) (h : tru d p) : ∃ b, TruV K x H b ∧ p b := by
  cases r <;> try (exact h.elim)
  · exact ⟨false, rfl, h⟩
  · rename_i b; exact ⟨b, rfl, h⟩
  · rename_i i
    refine ⟨_, rfl, ?_⟩
    have e : (i != 0) = !decide (i = 0) := by rw [bne, Bool.beq_eq_decide_eq]
    rw [e]; exact h
  · rename_i ds a vs hs rs
    refine ⟨!vs.isEmpty, .inr (.inl ⟨vs, hs, rfl⟩), ?_⟩
    have e : ds.isEmpty = vs.isEmpty := by cases rs <;> rfl
    rw [← e]; exact h
  · rename_i ds a vs hs na rs
    refine ⟨!vs.isEmpty, .inl ⟨vs, .inl (.inl hs), rfl⟩, ?_⟩
    have e : ds.isEmpty = vs.isEmpty := by cases rs <;> rfl
    rw [← e]; exact h
end
end FV
set_option Elab.async false
set_option linter.all false
set_option maxRecDepth 100000
set_option maxHeartbeats 2000000
/-! Calls: built-ins, isinstance, items, slices, by data. -/
namespace FV
open PySem L2
def rF (K : PySem.W.Frag) (b : Bi) : List V → Hp → VK → Prop := fun xs H Q => ∃ m S k ds, HR K m S H ∧ RelDs K m H ds xs ∧ Po K m H k Q ∧ bfn b ds S (fun z => k z S)
section
variable {K : PySem.W.Frag} {m : Ms} {H : Hp} {S : Store}
theorem rel0 {vs : List V} (r : RelDs K m H [] vs) : vs = [] := by cases r; rfl
theorem rel1 {d : D} {vs : List V} (r : RelDs K m H [d] vs) : ∃ v, vs = [v] ∧ RelD K m H d v := by
  cases r with
  | cons a t => cases t; exact ⟨_, rfl, a⟩
theorem rel2 {d e : D} {vs : List V} (r : RelDs K m H [d, e] vs) : ∃ v w, vs = [v, w] ∧ RelD K m H d v ∧ RelD K m H e w := by
  cases r with
  | cons a t => cases t with
    | cons b t => cases t; exact ⟨_, _, rfl, a, b⟩
theorem on1_of {f : D → Store → (D → Prop) → Prop} {ds : List D} {k : D → Prop} (h : on1 f ds S k) : ∃ d, ds = [d] ∧ f d S k := by
  match ds, h with
  | [d], h => exact ⟨d, rfl, h⟩
theorem on2_of {f : D → D → (D → Prop) → Prop} {ds : List D} {k : D → Prop} (h : on2 f ds S k) : ∃ d e, ds = [d, e] ∧ f d e k := by
  match ds, h with
  | [d, e], h => exact ⟨d, e, rfl, h⟩
theorem onI_of {f : Int → D} {d : D} {k : D → Prop} (h : onI f d k) : ∃ a, d = .int a ∧ k (f a) := by
  match d, h with
  | .int a, h => exact ⟨a, rfl, h⟩
theorem onII_of {c : Int → Int → Prop} {f : Int → Int → D} {d e : D} {k : D → Prop} (h : onII c f d e k) : ∃ a b, d = .int a ∧ e = .int b ∧ c a b ∧ k (f a b) := by
  match d, e, h with
  | .int a, .int b, h => exact ⟨a, b, rfl, rfl, h⟩
theorem relI {a : Int} {v : V} (r : RelD K m H (.int a) v) : v = .int a := by cases r; rfl
theorem onBs_of {f : List Bool → D} {d : D} {k : D → Prop} (h : onBs f d k) : ∃ ds bs, d = .lst ds ∧ bls? ds = some bs ∧ k (f bs) := by
  match d, h with
  | .lst ds, h =>
    simp only [onBs] at h
    split at h
    · rename_i bs q; exact ⟨ds, bs, rfl, q, h⟩
    · exact h.elim
theorem onIs_of {f : List Int → D} {d : D} {k : D → Prop} (h : onIs f d k) : ∃ ds bs, d = .lst ds ∧ ints? ds = some bs ∧ k (f bs) := by
  match d, h with
  | .lst ds, h =>
    simp only [onIs] at h
    split at h
    · rename_i bs q; exact ⟨ds, bs, rfl, q, h⟩
    · exact h.elim
/-- what can be read as a sequence of items -/
theorem seq_rel {d : D} {x : V} {p : List D → Prop} (hr : HR K m S H) (r : RelD K m H d x) (h : seq d S p) :
    ∃ (ds : List D) (vs : List V) (a : Addr), x = .ref a ∧ (SqL K H a vs ∨ SqT K H a vs) ∧ RelDs K m H ds vs ∧ p ds := by
  cases r <;> try (exact h.elim)
  · rename_i ds a vs hs rs; exact ⟨ds, vs, a, rfl, .inr hs, rs, h⟩
  · rename_i ds a vs hs na rs; exact ⟨ds, vs, a, rfl, .inl (.inl (.inl hs)), rs, h⟩
  · rename_i ds a vs hs rs; exact ⟨ds, vs, a, rfl, .inl hs.sql, rs, h⟩
  · rename_i l a hl
    simp only [seq] at h
    split at h
    · rename_i ds q
      obtain ⟨vs, e, rs⟩ := hr.at_ l ds a q hl
      exact ⟨ds, vs, a, rfl, .inl (.inl (.inl e)), rs, h⟩
    · exact h.elim
theorem atI_rel {ds : List D} {vs : List V} {i : Int} {d : D} (r : RelDs K m H ds vs) (h : nth ds i = some d) : ∃ v, atI vs i = some v ∧ RelD K m H d v := by
  unfold nth atI at h
  cases q : ixN ds.length i with
  | none => rw [q] at h; cases h
  | some j =>
    rw [q] at h
    obtain ⟨v, h1, h2⟩ := r.get (i := j) h
    refine ⟨v, ?_, h2⟩
    unfold atI
    rw [← r.length, q]
    exact h1
end
/-! ### texts -/
theorem from_len : ∀ (ts : List Str) (k : Nat) (acc : Str), (textFrom k acc ts).length ≤ acc.length + piled ts
  | [], k, acc => by show acc.length ≤ _; omega
  | t :: r, k, acc => by
    have h := from_len r (k + 1) (acc ++ (if k > 0 then ", " else "" : String) ++ t)
    have e : (((if k > 0 then ", " else "" : String) : Str)).length ≤ 2 := by split <;> decide +kernel
    rw [strLen_append, strLen_append] at h
    rw [piled_cons]
    show (textFrom (k + 1) _ r).length ≤ _
    omega
theorem list_len (ts : List Str) : (listText ts).length ≤ piled ts + 2 := by
  have h := from_len ts 0 "["
  have e1 : (("[" : Str)).length = 1 := rfl
  have e2 : (("]" : Str)).length = 1 := rfl
  unfold listText
  rw [strLen_append]
  omega
theorem int_len {i : Int} (h : i.natAbs < 2 ^ 990) : ((PyData.int i).shown).length + 2 ≤ 310 ∧ (PyData.int i).showable = true := by
  have h10 : i.natAbs < 10 ^ 300 := Nat.lt_of_lt_of_le h (by decide +kernel)
  have e := int_text_length_le10 (k := 300) (by decide) h10
  have e2 : ((PyData.int i).shown).length = (toString i).length := by
    show (Str.ofString (toString i)).length = _
    rw [ofString_length]
  refine ⟨by omega, ?_⟩
  simp only [PyData.showable, decide_eq_true_eq]
  exact Nat.lt_of_lt_of_le (PySem.Flt.log2_lt_of (by omega : 0 < 990) h) (by omega)
mutual
theorem shw_ok : ∀ {n : Nat} {d : D}, pure? n d = true → smD d → (py d).showable = true ∧ (py d).hasDict = false ∧ (py d).shown.length + 2 ≤ 310 * nod d
  | n, .non, _, _ => ⟨rfl, rfl, by decide +kernel⟩
  | n, .bl b, _, _ => ⟨rfl, rfl, by cases b <;> decide +kernel⟩
  | n, .int i, _, h => ⟨(int_len h).2, rfl, (int_len h).1⟩
  | n, .str s, _, h => h.elim
  | 0, .tup ds, h, _ => by cases h
  | n + 1, .tup ds, h, g => by
    obtain ⟨a, b, c⟩ := shws_ok (n := n) (ds := ds) h g
    refine ⟨a, b, ?_⟩
    have := fmt_text (PyData.shownAll (pys ds))
    show (tupleText (PyData.shownAll (pys ds))).length + 2 ≤ 310 * (nods ds + 1)
    omega
  | 0, .lst ds, h, _ => by cases h
  | n + 1, .lst ds, h, g => by
    obtain ⟨a, b, c⟩ := shws_ok (n := n) (ds := ds) h g
    refine ⟨a, b, ?_⟩
    have := list_len (PyData.shownAll (pys ds))
    show (listText (PyData.shownAll (pys ds))).length + 2 ≤ 310 * (nods ds + 1)
    omega
  | _, .frz _, _, h => h.elim
  | _, .ref _, _, h => h.elim
  | _, .dre _, _, h => h.elim
  | _, .fn _, _, h => h.elim
  | _, .exc _ _, _, h => h.elim
  | _, .itr _, _, h => h.elim
  | _, .rep _, _, h => h.elim
  | _, .dic, _, h => h.elim
theorem shws_ok : ∀ {n : Nat} {ds : List D}, pures? n ds = true → smDs ds → PyData.showableAll (pys ds) = true ∧ PyData.hasDictAll (pys ds) = false ∧ piled (PyData.shownAll (pys ds)) ≤ 310 * nods ds
  | n, [], _, _ => ⟨rfl, rfl, Nat.zero_le _⟩
  | n, d :: ds, h, g => by
    unfold pures? at h
    rw [Bool.and_eq_true] at h
    obtain ⟨a1, b1, c1⟩ := shw_ok (n := n) h.1 g.1
    obtain ⟨a2, b2, c2⟩ := shws_ok (n := n) h.2 g.2
    refine ⟨?_, ?_, ?_⟩
    · show (PyData.showable (py d) && PyData.showableAll (pys ds)) = true
      rw [a1, a2]; rfl
    · show (PyData.hasDict (py d) || PyData.hasDictAll (pys ds)) = false
      rw [b1, b2]; rfl
    · show piled ((py d).shown :: PyData.shownAll (pys ds)) ≤ 310 * (nod d + nods ds)
      rw [piled_cons]
      omega
end
/-- repr of a row -/
theorem repr_row {X : Cx} (hg : X.A.guards = some []) (hu : X.A.units + 64 < cLine) {pins : List (Addr × Obj)} {s : Shared} {σ : L2.St} {H : Hp} {a : Addr} {Q : VK} {m : Ms} {S : Store} {k : D → Store → Prop} {d : D} (I : Inv X pins σ H s) (hr : HR X.K m S H) (r : RelD X.K m H d (.ref a)) (po : Po X.K m H k Q)
    (h1 : pure? DEEP d = true) (h2 : smD d) (h3 : nod d ≤ 20001) (h : k (.rep d) S) : wpAny (model X.prog X.w) X.A (call (.builtin "repr") [.ref a]) (EP X pins σ Q) X.xe s := by
  obtain ⟨as, rd⟩ := Dp.reads I (py d) (.ref a) (.ref a) (py_dp h1 r) rfl
  obtain ⟨g1, g2, g3⟩ := shw_ok h1 h2
  have hd := (py_ok h1).2
  unfold DEEP at hd
  refine repr_of_reads' rd g1 (fun z => by rw [g2] at z; cases z) hg (by omega) (fun _ _ z => z) (fun h' u tk keep => ?_) (by rw [sizeLine_eq]; omega)
  have J : Inv X pins σ H { s with heap := h', toks := tk } := I.kept (t' := tk) keep
  exact ⟨.str (py d).shown, H, J, ⟨u, rfl⟩, po.done hr (.rep d) h⟩
theorem log_lt {a : Int} (h : a.natAbs < 2 ^ 990) : a.natAbs.log2 < 1920 := by
  by_cases z : a.natAbs = 0
  · rw [z]; decide
  · have := (Nat.log2_lt z).mpr h
    omega
theorem rel_ints {K : PySem.W.Frag} {m : Ms} {H : Hp} : ∀ ns : List Int, RelDs K m H (ns.map FV.D.int) (ns.map V.int)
  | [] => .nil
  | n :: ns => .cons (.int n) (rel_ints ns)
theorem tris_eq : ∀ {ds : List FV.D} {ts : List I3}, tris? ds = some ts → ds = ts.map tI3
  | [], _, h => by cases h; rfl
  | d :: ds, ts, h => by
    unfold tris? at h
    split at h
    · rename_i e; cases e
    · rename_i a b c r e
      cases e
      cases e2 : tris? ds with
      | none => rw [e2] at h; cases h
      | some us =>
        rw [e2] at h
        cases h
        rw [tris_eq e2]; rfl
    · cases h
theorem rws_eqC : ∀ {ds : List FV.D} {ks : List (List Int)}, rws? ds = some ks → ds = ks.map fun is => FV.D.tup (is.map FV.D.int)
  | [], _, h => by cases h; rfl
  | d :: ds, ks, h => by
    cases d <;> try (cases h; done)
    rename_i es
    have h : (match ints? es with | some is => (rws? ds).map (is :: ·) | none => none) = some ks := h
    cases e1 : ints? es with
    | none => rw [e1] at h; cases h
    | some is =>
      rw [e1] at h
      have h : (rws? ds).map (is :: ·) = some ks := h
      cases e2 : rws? ds with
      | none => rw [e2] at h; cases h
      | some qs =>
        rw [e2] at h
        cases h
        rw [rws_eqC e2, List.map_cons, ints_eqC e1]
  where ints_eqC : ∀ {ds : List FV.D} {is : List Int}, ints? ds = some is → ds = is.map FV.D.int
    | [], _, h => by cases h; rfl
    | d :: ds, is, h => by
      cases d <;> try (cases h; done)
      rename_i i
      have h : (ints? ds).map (i :: ·) = some is := h
      cases e : ints? ds with
      | none => rw [e] at h; cases h
      | some js =>
        rw [e] at h
        cases h
        rw [ints_eqC e]; rfl
theorem sort3_of {ds : List FV.D} {k : FV.D → Prop} (h : sort3 ds k) : (∃ ts, ds = ts.map tI3 ∧ ∀ ts' : List I3, ts'.Perm ts → ts'.Pairwise le3 → k (.lst (ts'.map tI3))) ∨
    ∃ rs : List (List Int), ds = rs.map (fun r => FV.D.tup (r.map FV.D.int)) ∧ sameN rs = true ∧ ∀ rs' : List (List Int), rs'.Perm rs → rs'.Pairwise leL → k (.lst (rs'.map fun r => FV.D.tup (r.map FV.D.int))) := by
  unfold sort3 at h
  split at h
  · rename_i ts e
    exact .inl ⟨ts, tris_eq e, h⟩
  · unfold sortR at h
    split at h
    · rename_i rs e
      exact .inr ⟨rs, rws_eqC e, h.1, h.2⟩
    · exact h.elim
section
variable {X : Cx} {m : Ms}
abbrev V3 (t : I3) : List V := [.int t.1, .int t.2.1, .int t.2.2]
theorem relD3 {K : PySem.W.Frag} {H : Hp} {t : I3} {v : V} (r : RelD K m H (tI3 t) v) : ∃ a, v = .ref a ∧ SqT K H a (V3 t) := by
  unfold tI3 at r
  cases r with
  | tup hs rs =>
    cases rs with
    | cons r1 rs =>
      cases r1
      cases rs with
      | cons r2 rs =>
        cases r2
        cases rs with
        | cons r3 rs =>
          cases r3
          cases rs
          exact ⟨_, rfl, hs⟩
theorem rel3 {K : PySem.W.Frag} {H : Hp} {t : I3} {a : Addr} (h : SqT K H a (V3 t)) : RelD K m H (tI3 t) (.ref a) := .tup h (.cons (.int _) (.cons (.int _) (.cons (.int _) .nil)))
theorem v3_inj {t u : I3} (e : V3 t = V3 u) : t = u := by
  obtain ⟨x0, y0, z0⟩ := t
  obtain ⟨x, y, z⟩ := u
  injection e with e1 e
  injection e with e2 e
  injection e with e3 _
  cases e1; cases e2; cases e3; rfl
theorem tri_mem {K : PySem.W.Frag} {H : Hp} : ∀ {ts : List I3} {xs : List V}, RelDs K m H (ts.map tI3) xs → ∀ x ∈ xs, ∃ t b, x = V.ref b ∧ SqT K H b (V3 t)
  | [], _, .nil, _, hx => by cases hx
  | t :: ts, _, .cons r1 rs, x, hx => by
    rcases List.mem_cons.mp hx with rfl | hx
    · obtain ⟨b, rfl, hb⟩ := relD3 r1
      exact ⟨t, b, rfl, hb⟩
    · exact tri_mem rs x hx
theorem tri_map {K : PySem.W.Frag} {H : Hp} {k : V → I3} (hk : ∀ (b : Addr) (t : I3), SqT K H b (V3 t) → k (.ref b) = t) : ∀ {ts : List I3} {xs : List V}, RelDs K m H (ts.map tI3) xs → xs.map k = ts
  | [], _, .nil => rfl
  | t :: ts, _, .cons r1 rs => by
    obtain ⟨b, rfl, hb⟩ := relD3 r1
    rw [List.map_cons, hk b t hb, tri_map hk rs]
/-- sorted: a list or a tuple of threes -/
def rSort3 (K : PySem.W.Frag) (m : Ms) : List V → Hp → VK → Prop := fun vs H Q => ∃ (a : Addr) (xs : List V) (ts : List I3), vs = [V.ref a] ∧ (SqL K H a xs ∨ SqT K H a xs) ∧ RelDs K m H (ts.map tI3) xs ∧
  ∀ (ys : List V) (ts' : List I3) p, RelDs K m H (ts'.map tI3) ys → ts'.Perm ts → ts'.Pairwise le3 → H p = none → Q (.ref p) (upd H p (.lst ys))
theorem cr_sorted3 : CallR X (.builtin "sorted") (rSort3 X.K m) := by
  intro pins s σ H vs us Q I r h
  obtain ⟨a, xs, ts, rfl, hs, rx, q⟩ := h
  obtain ⟨u, rfl, ru⟩ := vals1 r
  obtain rfl : u = Value.ref a := ru
  obtain ⟨its, T, o, n, rv, hz, hT, ho, hcl, hd⟩ : ∃ (its : List Value) (T : String) (o : Obj) (n : Nat), Vals xs its ∧ xs.length ≤ sizeLine ∧ (T = "list" ∨ T = "tuple") ∧ s.heap.get? a = some o ∧ o.cls = .type T ∧ o.data = .seq its.toArray n := by
    rcases hs with hs | hs
    · obtain ⟨its, rv, hl, hz⟩ := I.list hs
      obtain ⟨o, ho, hcl, n, hd⟩ := hl.isList
      exact ⟨its, _, o, n, rv, hz, .inl rfl, ho, hcl, hd⟩
    · obtain ⟨its, rv, ⟨o, ho, hcl, n, hd⟩, hz⟩ := I.tuple hs
      exact ⟨its, _, o, n, rv, hz, .inr rfl, ho, hcl, hd⟩
  obtain ⟨k, hk⟩ : ∃ k : V → I3, ∀ (b : Addr) (t : I3), SqT X.K H b (V3 t) → k (.ref b) = t := by
    refine ⟨fun x => Classical.epsilon fun t => ∃ b, x = V.ref b ∧ SqT X.K H b (V3 t), fun b t hb => ?_⟩
    have sp := Classical.epsilon_spec (p := fun t => ∃ b', V.ref b = V.ref b' ∧ SqT X.K H b' (V3 t)) ⟨t, b, rfl, hb⟩
    show (Classical.epsilon fun t => ∃ b', V.ref b = V.ref b' ∧ SqT X.K H b' (V3 t)) = t
    generalize (Classical.epsilon fun t => ∃ b', V.ref b = V.ref b' ∧ SqT X.K H b' (V3 t)) = t0 at sp ⊢
    obtain ⟨b', e, hb'⟩ := sp
    cases e
    exact v3_inj (I.tuple_inj hb' hb)
  have mem : ∀ x ∈ xs, ∃ b, x = V.ref b ∧ SqT X.K H b (V3 (k x)) := fun x hx => by
    obtain ⟨t, b, rfl, hb⟩ := tri_mem rx x hx
    exact ⟨b, rfl, by rw [hk b t hb]; exact hb⟩
  have kts : xs.map k = ts := tri_map hk rx
  obtain ⟨e1, e2⟩ := refs_back rv fun x hx => by
    obtain ⟨b, e, _⟩ := mem x hx
    exact ⟨b, e⟩
  refine sorted_tris (k := fun u => k (backV u)) hT ho hcl hd (by rw [← rv.length]; exact hz) (fun v hv => ?_) fun h' d out h1 h2 kp hdz hn => ?_
  · obtain ⟨t, rfl⟩ := e2 v hv
    have hm : V.ref t ∈ xs := by rw [e1]; exact List.mem_map.mpr ⟨_, hv, rfl⟩
    obtain ⟨t', e, ht⟩ := mem _ hm
    cases e
    obtain ⟨its2, r2, ⟨o2, ho2, hc2, n2, hd2⟩, _⟩ := I.tuple ht
    cases r2 with
    | cons a1 r2 => cases r2 with
      | cons a2 r2 => cases r2 with
        | cons a3 r2 =>
          cases r2
          obtain ⟨t1, rfl⟩ := a1
          obtain ⟨t2, rfl⟩ := a2
          obtain ⟨t3, rfl⟩ := a3
          exact ⟨t, o2, t1, t2, t3, n2, rfl, ho2, hc2, hd2⟩
  · have h3 : ∀ u ∈ out, ∃ a, u = Value.ref a := fun u hu => e2 u (h2.perm.mem_iff.mp hu)
    obtain ⟨n, hn⟩ := hn
    have hp : (out.map backV).Perm xs := by rw [e1]; exact h2.perm.map backV
    have hb : ∀ ys : List V, (∀ y ∈ ys, y ∈ xs) → RelDs X.K m H ((ys.map k).map tI3) ys := by
      intro ys
      induction ys with
      | nil => intro _; exact .nil
      | cons y ys ih =>
        intro hy
        obtain ⟨b, e, hb⟩ := mem y (hy y List.mem_cons_self)
        refine .cons ?_ (ih fun z hz => hy z (List.mem_cons_of_mem _ hz))
        subst e
        exact rel3 hb
    have hso : ((out.map backV).map k).Pairwise le3 := by
      rw [List.pairwise_map, List.pairwise_map]
      refine List.Pairwise.imp (fun {u v} huv => ?_) h1
      have := lt3_no.mp huv
      unfold le3
      omega
    refine ⟨.ref d, upd H d (.lst (out.map backV)), I.laid (t' := s.toks) kp hdz ⟨?_, out, n, vals_back h3, hn⟩, rfl, q _ ((out.map backV).map k) d (hb _ fun y hy => hp.mem_iff.mp hy) (by rw [← kts]; exact hp.map k) hso (I.hok.fresh hdz)⟩
    rw [hp.length_eq]
    exact hz
/-! rows -/
abbrev rwE (r : List Int) : FV.D := .tup (r.map FV.D.int)
theorem relDR {K : PySem.W.Frag} {H : Hp} {t : List Int} {v : V} (r : RelD K m H (rwE t) v) : ∃ a, v = .ref a ∧ SqT K H a (t.map V.int) := by
  cases r with
  | tup hs rs =>
    cases rs.ints (ints_mC t)
    exact ⟨_, rfl, hs⟩
  where ints_mC : ∀ t : List Int, ints? (t.map FV.D.int) = some t
    | [] => rfl
    | a :: t => by
      show (ints? (t.map FV.D.int)).map (a :: ·) = _
      rw [ints_mC t]; rfl
theorem relR {K : PySem.W.Frag} {H : Hp} {t : List Int} {a : Addr} (h : SqT K H a (t.map V.int)) : RelD K m H (rwE t) (.ref a) := .tup h (rel_ints t)
theorem vint_inj : ∀ {t u : List Int}, t.map V.int = u.map V.int → t = u
  | [], [], _ => rfl
  | [], _ :: _, e => by cases e
  | _ :: _, [], e => by cases e
  | a :: t, b :: u, e => by
    injection e with e1 e2
    cases e1
    rw [vint_inj e2]
theorem row_mem {K : PySem.W.Frag} {H : Hp} : ∀ {ts : List (List Int)} {xs : List V}, RelDs K m H (ts.map rwE) xs → ∀ x ∈ xs, ∃ t ∈ ts, ∃ b, x = V.ref b ∧ SqT K H b (t.map V.int)
  | [], _, .nil, _, hx => by cases hx
  | t :: ts, _, .cons r1 rs, x, hx => by
    rcases List.mem_cons.mp hx with rfl | hx
    · obtain ⟨b, rfl, hb⟩ := relDR r1
      exact ⟨t, List.mem_cons_self, b, rfl, hb⟩
    · obtain ⟨t', h1, h2⟩ := row_mem rs x hx
      exact ⟨t', List.mem_cons_of_mem _ h1, h2⟩
theorem row_map {K : PySem.W.Frag} {H : Hp} {k : V → List Int} (hk : ∀ (b : Addr) (t : List Int), SqT K H b (t.map V.int) → k (.ref b) = t) : ∀ {ts : List (List Int)} {xs : List V}, RelDs K m H (ts.map rwE) xs → xs.map k = ts
  | [], _, .nil => rfl
  | t :: ts, _, .cons r1 rs => by
    obtain ⟨b, rfl, hb⟩ := relDR r1
    rw [List.map_cons, hk b t hb, row_map hk rs]
theorem sameN_ok {rs : List (List Int)} (h : sameN rs = true) : ∃ d, d ≠ 0 ∧ ∀ r ∈ rs, r.length = d := by
  cases rs with
  | nil => exact ⟨1, by decide, fun r hr => by cases hr⟩
  | cons q qs =>
    have h : (decide (q.length ≠ 0) && qs.all fun z => decide (z.length = q.length)) = true := h
    rw [Bool.and_eq_true] at h
    refine ⟨q.length, of_decide_eq_true h.1, fun r hr => ?_⟩
    rcases List.mem_cons.mp hr with rfl | hr
    · rfl
    · exact of_decide_eq_true (List.all_eq_true.mp h.2 r hr)
/-- sorted: a list or a tuple of rows -/
def rSortRw (K : PySem.W.Frag) (m : Ms) : List V → Hp → VK → Prop := fun vs H Q => ∃ (a : Addr) (xs : List V) (ts : List (List Int)), vs = [V.ref a] ∧ (SqL K H a xs ∨ SqT K H a xs) ∧ sameN ts = true ∧ RelDs K m H (ts.map rwE) xs ∧
  ∀ (ys : List V) (ts' : List (List Int)) p, RelDs K m H (ts'.map rwE) ys → ts'.Perm ts → ts'.Pairwise leL → H p = none → Q (.ref p) (upd H p (.lst ys))
theorem cr_sortedRw : CallR X (.builtin "sorted") (rSortRw X.K m) := by
  intro pins s σ H vs us Q I r h
  obtain ⟨a, xs, ts, rfl, hs, hsame, rx, q⟩ := h
  obtain ⟨u, rfl, ru⟩ := vals1 r
  obtain rfl : u = Value.ref a := ru
  obtain ⟨its, T, o, n, rv, hz, hT, ho, hcl, hd⟩ : ∃ (its : List Value) (T : String) (o : Obj) (n : Nat), Vals xs its ∧ xs.length ≤ sizeLine ∧ (T = "list" ∨ T = "tuple") ∧ s.heap.get? a = some o ∧ o.cls = .type T ∧ o.data = .seq its.toArray n := by
    rcases hs with hs | hs
    · obtain ⟨its, rv, hl, hz⟩ := I.list hs
      obtain ⟨o, ho, hcl, n, hd⟩ := hl.isList
      exact ⟨its, _, o, n, rv, hz, .inl rfl, ho, hcl, hd⟩
    · obtain ⟨its, rv, ⟨o, ho, hcl, n, hd⟩, hz⟩ := I.tuple hs
      exact ⟨its, _, o, n, rv, hz, .inr rfl, ho, hcl, hd⟩
  obtain ⟨k, hk⟩ : ∃ k : V → List Int, ∀ (b : Addr) (t : List Int), SqT X.K H b (t.map V.int) → k (.ref b) = t := by
    refine ⟨fun x => Classical.epsilon fun t => ∃ b, x = V.ref b ∧ SqT X.K H b (t.map V.int), fun b t hb => ?_⟩
    have sp := Classical.epsilon_spec (p := fun t : List Int => ∃ b', V.ref b = V.ref b' ∧ SqT X.K H b' (t.map V.int)) ⟨t, b, rfl, hb⟩
    show (Classical.epsilon fun t : List Int => ∃ b', V.ref b = V.ref b' ∧ SqT X.K H b' (t.map V.int)) = t
    generalize (Classical.epsilon fun t : List Int => ∃ b', V.ref b = V.ref b' ∧ SqT X.K H b' (t.map V.int)) = t0 at sp ⊢
    obtain ⟨b', e, hb'⟩ := sp
    cases e
    exact vint_inj (I.tuple_inj hb' hb)
  obtain ⟨dd, hd0, hdd⟩ := sameN_ok hsame
  have mem : ∀ x ∈ xs, ∃ b, x = V.ref b ∧ SqT X.K H b ((k x).map V.int) ∧ (k x).length = dd := fun x hx => by
    obtain ⟨t, ht, b, rfl, hb⟩ := row_mem rx x hx
    exact ⟨b, rfl, by rw [hk b t hb]; exact hb, by rw [hk b t hb]; exact hdd t ht⟩
  have kts : xs.map k = ts := row_map hk rx
  obtain ⟨e1, e2⟩ := refs_back rv fun x hx => by
    obtain ⟨b, e, _⟩ := mem x hx
    exact ⟨b, e⟩
  refine sorted_rows (d := dd) (k := fun u => k (backV u)) hT ho hcl hd (by rw [← rv.length]; exact hz) hd0 (fun v hv => ?_) fun h' d out h1 h2 kp hdz hn => ?_
  · obtain ⟨t, rfl⟩ := e2 v hv
    have hm : V.ref t ∈ xs := by rw [e1]; exact List.mem_map.mpr ⟨_, hv, rfl⟩
    obtain ⟨t', e, ht, hlen⟩ := mem _ hm
    cases e
    obtain ⟨its2, r2, ⟨o2, ho2, hc2, n2, hd2⟩, _⟩ := I.tuple ht
    exact ⟨⟨t, o2, its2.toArray, n2, rfl, ho2, hc2, hd2, by have q := r2.ints; exact (show PyProof.Rows.IntsAre its2.toArray.toList (k (V.ref t)) by simpa using q)⟩, hlen⟩
  · have h3 : ∀ u ∈ out, ∃ a, u = Value.ref a := fun u hu => e2 u (h2.perm.mem_iff.mp hu)
    obtain ⟨n, hn⟩ := hn
    have hp : (out.map backV).Perm xs := by rw [e1]; exact h2.perm.map backV
    have hb : ∀ ys : List V, (∀ y ∈ ys, y ∈ xs) → RelDs X.K m H ((ys.map k).map rwE) ys := by
      intro ys
      induction ys with
      | nil => intro _; exact .nil
      | cons y ys ih =>
        intro hy
        obtain ⟨b, e, hb, _⟩ := mem y (hy y List.mem_cons_self)
        refine .cons ?_ (ih fun z hz => hy z (List.mem_cons_of_mem _ hz))
        subst e
        exact relR hb
    have hso : ((out.map backV).map k).Pairwise leL := by
      rw [List.pairwise_map, List.pairwise_map]
      exact List.Pairwise.imp (fun {u v} huv => huv) h1
    refine ⟨.ref d, upd H d (.lst (out.map backV)), I.laid (t' := s.toks) kp hdz ⟨?_, out, n, vals_back h3, hn⟩, rfl, q _ ((out.map backV).map k) d (hb _ fun y hy => hp.mem_iff.mp hy) (by rw [← kts]; exact hp.map k) hso (I.hok.fresh hdz)⟩
    rw [hp.length_eq]
    exact hz
end
theorem und_rel {K : PySem.W.Frag} {m : Ms} {H : Hp} {S : Store} {d : D} {x : V} {es : List D} (hr : HR K m S H) (r : RelD K m H d x) (e : und d S = .lst es) : ∃ a vs, x = .ref a ∧ H a = some (.lst vs) ∧ RelDs K m H es vs := by
  cases r <;> try (cases e; done)
  · rename_i ds a vs hs na rs
    cases e
    exact ⟨_, _, rfl, hs, rs⟩
  · rename_i l a hl
    simp only [und] at e
    split at e
    · rename_i ds q
      cases e
      obtain ⟨vs, e0, rs⟩ := hr.at_ l _ a q hl
      exact ⟨_, _, rfl, e0, rs⟩
    · cases e
/-- a built-in as a value -/
def biVal : Bi → Value
  | .len => .builtin "len" | .abs => .builtin "abs" | .max2 => .builtin "max" | .min2 => .builtin "min" | .int => .type "int" | .divmod => .builtin "divmod" | .gcd => .builtin "math.gcd"
  | .all => .builtin "all" | .any => .builtin "any" | .sum => .builtin "sum" | .tuple => .type "tuple" | .list => .type "list" | .repr => .builtin "repr" | .str => .type "str" | .sorted => .builtin "sorted" | .maxl => .builtin "max"
section
variable {X : Cx}
theorem bfn_ok (hc : X.calm = true) (hg : X.A.guards = some []) (hu : X.A.units + 64 < cLine) (b : Bi) : CallR X (biVal b) (rF X.K b) := by
  intro pins s σ H xs us Q I r h
  obtain ⟨m, S, k, ds, hr, rs, po, h⟩ := h
  cases b with
  | len =>
    obtain ⟨d, e0, g⟩ := on1_of h
    clear h
    subst e0
    obtain ⟨x, rfl, r1⟩ := rel1 rs
    obtain ⟨es, vs, a, rfl, hs, rs', h⟩ := seq_rel hr r1 g
    exact call_len pins s σ H _ us Q I r ⟨_, _, rfl, hs.imp (fun z => ⟨vs, z, rs'.length⟩) fun z => ⟨vs, z, rs'.length⟩, po.done hr (.int _) h⟩
  | abs =>
    obtain ⟨d, e0, g⟩ := on1_of h
    clear h
    subst e0
    obtain ⟨x, rfl, r1⟩ := rel1 rs
    obtain ⟨a, rfl, h⟩ := onI_of g
    cases relI r1
    exact call_abs pins s σ H _ us Q I r ⟨_, rfl, po.done hr (.int _) h⟩
  | max2 =>
    obtain ⟨d, e, e0, g⟩ := on2_of h
    clear h
    subst e0
    obtain ⟨x, y, rfl, r1, r2⟩ := rel2 rs
    obtain ⟨a, b, rfl, rfl, _, h⟩ := onII_of g
    cases relI r1; cases relI r2
    exact call_max2 hc pins s σ H _ us Q I r ⟨_, _, rfl, po.done hr (.int _) h⟩
  | min2 =>
    obtain ⟨d, e, e0, g⟩ := on2_of h
    clear h
    subst e0
    obtain ⟨x, y, rfl, r1, r2⟩ := rel2 rs
    obtain ⟨a, b, rfl, rfl, _, h⟩ := onII_of g
    cases relI r1; cases relI r2
    exact call_min2 hc pins s σ H _ us Q I r ⟨_, _, rfl, po.done hr (.int _) h⟩
  | int =>
    obtain ⟨d, e0, g⟩ := on1_of h
    clear h
    subst e0
    obtain ⟨x, rfl, r1⟩ := rel1 rs
    cases r1 <;> try (exact g.elim)
    · exact call_int1 pins s σ H _ us Q I r (.inr ⟨_, rfl, po.done hr (.int _) g⟩)
    · exact call_int1 pins s σ H _ us Q I r (.inl ⟨_, rfl, po.done hr (.int _) g⟩)
  | divmod =>
    obtain ⟨d, e, e0, g⟩ := on2_of h
    clear h
    subst e0
    obtain ⟨x, y, rfl, r1, r2⟩ := rel2 rs
    obtain ⟨a, b, rfl, rfl, hc, h⟩ := onII_of g
    cases relI r1; cases relI r2
    exact call_divmodA pins s σ H _ us Q I r ⟨_, _, rfl, hc, fun p hp => po.tup hr (.cons (.int _) (.cons (.int _) .nil)) h hp⟩
  | gcd =>
    obtain ⟨d, e, e0, g⟩ := on2_of h
    clear h
    subst e0
    obtain ⟨x, y, rfl, r1, r2⟩ := rel2 rs
    obtain ⟨a, b, rfl, rfl, _, h⟩ := onII_of g
    cases relI r1; cases relI r2
    exact cr_gcd pins s σ H _ us Q I r ⟨_, _, rfl, po.done hr (.int _) h⟩
  | all =>
    obtain ⟨d, e0, g⟩ := on1_of h
    clear h
    subst e0
    obtain ⟨x, rfl, r1⟩ := rel1 rs
    obtain ⟨es, bs, rfl, e, h⟩ := onBs_of g
    cases r1
    rename_i a vs hs na rs'
    cases rs'.bls e
    exact cr_all hc pins s σ H _ us Q I r ⟨_, _, rfl, .inl (.inl hs), po.done hr (.bl _) h⟩
  | any =>
    obtain ⟨d, e0, g⟩ := on1_of h
    clear h
    subst e0
    obtain ⟨x, rfl, r1⟩ := rel1 rs
    have g : anyD d (fun d => k d S) := g
    unfold anyD at g
    split at g
    · split at g
      · rename_i is e
        cases r1
        rename_i a vs hs rs'
        cases rs'.ints e
        exact cr_anyT hc pins s σ H _ us Q I r ⟨_, _, rfl, hs, po.done hr (.bl _) g⟩
      · exact g.elim
    obtain ⟨es, bs, rfl, e, h⟩ := onBs_of g
    cases r1
    rename_i a vs hs na rs'
    cases rs'.bls e
    exact cr_any hc pins s σ H _ us Q I r ⟨_, _, rfl, .inl (.inl hs), po.done hr (.bl _) h⟩
  | sum =>
    obtain ⟨d, e0, g⟩ := on1_of h
    clear h
    subst e0
    obtain ⟨x, rfl, r1⟩ := rel1 rs
    obtain ⟨es, bs, e1, e, h⟩ := onIs_of g
    obtain ⟨a, vs, rfl, hs, rs'⟩ := und_rel hr r1 e1
    cases rs'.ints e
    exact cr_sum hc pins s σ H _ us Q I r ⟨_, _, rfl, .inl (.inl hs), po.done hr (.int _) h⟩
  | maxl =>
    obtain ⟨d, e0, g⟩ := on1_of h
    clear h
    subst e0
    obtain ⟨x, rfl, r1⟩ := rel1 rs
    have g : maxL (und d S) (fun d => k d S) := g
    unfold maxL at g
    split at g
    · rename_i ds e1
      split at g
      · rename_i is e
        obtain ⟨a, vs, rfl, hs, rs'⟩ := und_rel hr r1 e1
        cases rs'.ints e
        exact cr_max hc pins s σ H _ us Q I r ⟨_, _, rfl, .inl (.inl hs), g.1, fun m h1 h2 => po.done hr (.int _) (g.2 m h1 h2)⟩
      · exact g.elim
    · exact g.elim
  | tuple =>
    obtain ⟨d, e0, g⟩ := on1_of h
    clear h
    subst e0
    obtain ⟨x, rfl, r1⟩ := rel1 rs
    obtain ⟨es, vs, a, rfl, hs, rs', h⟩ := seq_rel hr r1 g
    exact call_tuple_of pins s σ H _ us Q I r ⟨_, _, rfl, hs.imp (fun z => ⟨z, fun l hl => po.tup hr rs' h hl⟩) fun z => ⟨z, po.done hr (.tup z rs') h⟩⟩
  | list =>
    obtain ⟨d, e0, g⟩ := on1_of h
    clear h
    subst e0
    obtain ⟨x, rfl, r1⟩ := rel1 rs
    obtain ⟨es, vs, a, rfl, hs, rs', h⟩ := seq_rel hr r1 g
    exact call_list_of pins s σ H _ us Q I r ⟨_, _, rfl, hs, fun l hl => po.lst hr rs' h hl⟩
  | repr =>
    obtain ⟨d, e0, g⟩ := on1_of h
    clear h
    subst e0
    obtain ⟨x, rfl, r1⟩ := rel1 rs
    obtain ⟨u, rfl, ru⟩ := vals1 r
    cases d <;> try (exact g.elim)
    · obtain ⟨⟨h1, h2, h3⟩, g⟩ := g
      cases r1
      cases ru
      rename_i hs rs'
      exact repr_row hg hu I hr (.tup hs rs') po h1 h2 (by show nods _ + 1 ≤ _; omega) g
    · obtain ⟨⟨h1, h2, h3⟩, g⟩ := g
      cases r1
      cases ru
      rename_i hs na rs'
      exact repr_row hg hu I hr (.lst hs na rs') po h1 h2 (by show nods _ + 1 ≤ _; omega) g
  | str =>
    obtain ⟨d, e0, g⟩ := on1_of h
    clear h
    subst e0
    obtain ⟨x, rfl, r1⟩ := rel1 rs
    cases r1 <;> try (exact g.elim)
    exact call_str_int pins s σ H _ us Q I r ⟨_, rfl, log_lt g.1, po.done hr (.rep (.int _)) g.2⟩
  | sorted =>
    obtain ⟨d, e0, g⟩ := on1_of h
    clear h
    subst e0
    obtain ⟨x, rfl, r1⟩ := rel1 rs
    cases r1 <;> try (exact g.elim)
    · rename_i ds a vs hs rs'
      rcases sort3_of (show sort3 ds (fun d => k d S) from g) with ⟨ts, e, g2⟩ | ⟨ts, e, hz, g2⟩
      · subst e
        exact cr_sorted3 (m := m) pins s σ H _ us Q I r ⟨_, _, ts, rfl, .inr hs, rs', fun ys ts' p h1 h2 h3 hp => po.lst hr h1 (g2 ts' h2 h3) hp⟩
      · subst e
        exact cr_sortedRw (m := m) pins s σ H _ us Q I r ⟨_, _, ts, rfl, .inr hs, hz, rs', fun ys ts' p h1 h2 h3 hp => po.lst hr h1 (g2 ts' h2 h3) hp⟩
    · rename_i ds a vs hs na rs'
      have g : sortL ds (fun d => k d S) := g
      unfold sortL at g
      split at g
      · rename_i ns e
        cases rs'.ints e
        exact cr_sortedI pins s σ H _ us Q I r ⟨_, _, rfl, .inl (.inl hs), fun ns' p h1 h2 hp => po.lst hr (rel_ints ns') (g ns' h1 h2) hp⟩
      · rcases sort3_of g with ⟨ts, e, g2⟩ | ⟨ts, e, hz, g2⟩
        · subst e
          exact cr_sorted3 (m := m) pins s σ H _ us Q I r ⟨_, _, ts, rfl, .inl (.inl (.inl hs)), rs', fun ys ts' p h1 h2 h3 hp => po.lst hr h1 (g2 ts' h2 h3) hp⟩
        · subst e
          exact cr_sortedRw (m := m) pins s σ H _ us Q I r ⟨_, _, ts, rfl, .inl (.inl (.inl hs)), hz, rs', fun ys ts' p h1 h2 h3 hp => po.lst hr h1 (g2 ts' h2 h3) hp⟩
/-- list(x), a list that changes -/
def rLf (K : PySem.W.Frag) : List V → Hp → VK → Prop := fun xs H Q => ∃ m S k d, HR K m S H ∧ RelDs K m H [d] xs ∧ Po K m H k Q ∧ seq d S fun ds => k (.ref S.length) (S ++ [ds])
theorem lstf_ok : CallR X (.type "list") (rLf X.K) := by
  intro pins s σ H xs us Q I r h
  obtain ⟨m, S, k, d, hr, rs, po, h⟩ := h
  obtain ⟨x, rfl, r1⟩ := rel1 rs
  obtain ⟨es, vs, a, rfl, hs, rs', h⟩ := seq_rel hr r1 h
  exact call_list_of pins s σ H _ us Q I r ⟨_, _, rfl, hs, fun l hl => po.cell hr rs' h hl⟩
/-! ### isinstance -/
def tyName : Ty → String
  | .int => "int" | .bool => "bool" | .str => "str" | .tup => "tuple" | .lst => "list" | .dict => "dict"
theorem tyIs_all {K : PySem.W.Frag} {m : Ms} {H : Hp} {S : Store} {d : D} {x : V} {c : Bool} (hr : HR K m S H) (r : RelD K m H d x) (h : tyIs .int d = some c) : ∃ Tn : String, TyX K H x (.type Tn) ∧ ∀ t, ∃ b, tyIs t d = some b ∧ kitB Tn (tyName t) = some b := by
  cases r with
  | non => exact ⟨_, .base .non, fun t => ⟨_, by cases t <;> rfl, by cases t <;> decide +kernel⟩⟩
  | bl c => exact ⟨_, .base (.bl c), fun t => ⟨_, rfl, by cases t <;> decide +kernel⟩⟩
  | int i => exact ⟨_, .base (.int i), fun t => ⟨_, rfl, by cases t <;> decide +kernel⟩⟩
  | str z => exact ⟨_, .base (.str z), fun t => ⟨_, rfl, by cases t <;> decide +kernel⟩⟩
  | rep d => exact ⟨_, .base (.str _), fun t => ⟨_, rfl, by cases t <;> decide +kernel⟩⟩
  | dic hd => exact ⟨_, .base (.dK hd), fun t => ⟨_, rfl, by cases t <;> decide +kernel⟩⟩
  | dss hd => exact ⟨_, .base (.dK hd), fun t => ⟨_, rfl, by cases t <;> decide +kernel⟩⟩
  | tup hs rs =>
    refine ⟨"tuple", ?_, fun t => ⟨_, rfl, by cases t <;> decide +kernel⟩⟩
    rcases hs with (hs | ⟨o, hs⟩) | ⟨o, its, n, hk, hcls, _⟩
    · exact .base (.tup hs)
    · exact .fTuple hs
    · exact .kTuple hk hcls
  | lst hs na rs => exact ⟨_, .base (.lst hs), fun t => ⟨_, rfl, by cases t <;> decide +kernel⟩⟩
  | frz hs rs =>
    rcases hs with ⟨o, hs⟩ | ⟨o, its, n, hk, hcls, _⟩
    · exact ⟨_, .base (.frz hs), fun t => ⟨_, rfl, by cases t <;> decide +kernel⟩⟩
    · exact ⟨_, .kList hk hcls, fun t => ⟨_, rfl, by cases t <;> decide +kernel⟩⟩
  | dre hl => cases h
  | fn x => cases h
  | ref hl =>
    obtain ⟨vs, e⟩ := hr.there hl
    exact ⟨_, .base (.lst e), fun t => ⟨_, rfl, by cases t <;> decide +kernel⟩⟩
theorem tyIs_rel {K : PySem.W.Frag} {m : Ms} {H : Hp} {S : Store} {t : Ty} {d : D} {x : V} {b : Bool} (hr : HR K m S H) (r : RelD K m H d x) (h : tyIs t d = some b) : ∃ T : String, TyX K H x (.type T) ∧ kitB T (tyName t) = some b := by
  cases r with
  | non => exact ⟨_, .base .non, by cases h; cases t <;> decide +kernel⟩
  | bl c => exact ⟨_, .base (.bl c), by cases h; cases t <;> decide +kernel⟩
  | int i => exact ⟨_, .base (.int i), by cases h; cases t <;> decide +kernel⟩
  | str z => exact ⟨_, .base (.str z), by cases h; cases t <;> decide +kernel⟩
  | rep d => exact ⟨_, .base (.str _), by cases h; cases t <;> decide +kernel⟩
  | dic hd => exact ⟨_, .base (.dK hd), by cases h; cases t <;> decide +kernel⟩
  | dss hd => exact ⟨_, .base (.dK hd), by cases h; cases t <;> decide +kernel⟩
  | tup hs rs =>
    refine ⟨"tuple", ?_, by cases h; cases t <;> decide +kernel⟩
    rcases hs with (hs | ⟨o, hs⟩) | ⟨o, its, n, hk, hcls, _⟩
    · exact .base (.tup hs)
    · exact .fTuple hs
    · exact .kTuple hk hcls
  | lst hs na rs => exact ⟨_, .base (.lst hs), by cases h; cases t <;> decide +kernel⟩
  | frz hs rs =>
    rcases hs with ⟨o, hs⟩ | ⟨o, its, n, hk, hcls, _⟩
    · exact ⟨_, .base (.frz hs), by cases h; cases t <;> decide +kernel⟩
    · exact ⟨_, .kList hk hcls, by cases h; cases t <;> decide +kernel⟩
  | dre hl => cases t <;> cases h
  | fn x => cases t <;> cases h
  | ref hl =>
    obtain ⟨vs, e⟩ := hr.there hl
    exact ⟨_, .base (.lst e), by cases h; cases t <;> decide +kernel⟩
end
end FV
set_option Elab.async false
set_option linter.all false
set_option maxRecDepth 100000
set_option maxHeartbeats 2000000
/-! DicR: dicts that say True of rows of whole numbers. -/
namespace FV
open PySem PySem.Spec PyProof.Rows L2
theorem items_rows : ∀ {ks : List Int} {its : List Value} {P : Program} {w : World}, Vals (ks.map V.int) its → ItemsAre (PySem.intKind P w) ks its
  | [], _, _, _, .nil => .nil
  | k :: ks, _, P, w, .cons h t => by
    obtain ⟨t', rfl⟩ := h
    exact .cons (by show Value.isInt k (.int k t') = true; simp [Value.isInt]) (items_rows t)
theorem ent_eq {P : Program} {w : World} (x : List Int × Addr) : entryOfKey (tupleKind (PySem.intKind P w)) (x.1, x.2, Value.bool true) = rowEnt x := rfl
/-- the entries as the library has them -/
def ents (xs : List (List Int × Addr)) : List (List Int × Addr × Value) := xs.map fun x => (x.1, x.2, Value.bool true)
theorem ents_eq {P : Program} {w : World} (xs : List (List Int × Addr)) : (ents xs).map (entryOfKey (tupleKind (PySem.intKind P w))) = xs.map rowEnt := by
  unfold ents
  rw [List.map_map]
  exact List.map_congr_left fun x _ => ent_eq x
theorem ents_keys (xs : List (List Int × Addr)) : (ents xs).map (·.1) = xs.map (·.1) := by unfold ents; rw [List.map_map]; rfl
theorem ents_len (xs : List (List Int × Addr)) : (ents xs).length = xs.length := by unfold ents; rw [List.length_map]
theorem rows_get {K : PySem.W.Frag} {m : Ms} {H : Hp} : ∀ {xs : List (List Int × Addr)}, RelDs K m H (xs.map fun x => rwI x.1) (xs.map fun x => V.ref x.2) → ∀ x ∈ xs, RelD K m H (rwI x.1) (.ref x.2)
  | [], _, x, h => by cases h
  | y :: ys, .cons r rs, x, h => by
    rcases List.mem_cons.mp h with z | z
    · rw [z]; exact r
    · exact rows_get rs x z
section
variable {X : Cx} {m : Ms} {pins : List (Addr × Obj)} {σ : L2.St} {H : Hp} {s : Shared} {a b : Addr} {xs : List (List Int × Addr)} {ks : List Int}
theorem key_row (I : Inv X pins σ H s) (r : RelD X.K m H (rwI ks) (.ref b)) : IsTupleKey (PySem.intKind X.prog X.w) s.heap ks b := by
  obtain ⟨b', e, hs⟩ := relDR r
  cases e
  obtain ⟨its, rv, ⟨o, ho, hc, n, hd⟩, _⟩ := I.tuple hs
  exact ⟨o, its.toArray, n, ho, hc, hd, by simpa using items_rows rv⟩
theorem dct_at (I : Inv X pins σ H s) (e : H a = some (dctO a xs)) : (a == sysModules) = false ∧ xs.length ≤ sizeLine ∧ ∃ o es ep, s.heap.get? a = some o ∧ o.ExactDict ∧ o.data = .dict es ep ∧ es.toList = xs.map rowEnt :=
  (show ObjOk X.prog X.w H s.heap a (dctO a xs) from I.hok a _ e).1
theorem dctX_of (I : Inv X pins σ H s) (e : H a = some (dctO a xs)) (nd : (xs.map (·.1)).Nodup) (r : RelDs X.K m H (xs.map fun x => rwI x.1) (xs.map fun x => V.ref x.2)) :
    s.heap.DictOfH (tupleKind (PySem.intKind X.prog X.w)) a (ents xs) := by
  obtain ⟨_, _, o, es, ep, h1, h2, h3, h4⟩ := dct_at I e
  refine ⟨o, es, ep, h1, h2, h3, by rw [h4, ents_eq], fun x hx => ?_, by rw [ents_keys]; exact nd⟩
  unfold ents at hx
  obtain ⟨y, hy, rfl⟩ := List.mem_map.mp hx
  exact key_row I (rows_get r y hy)
theorem dct_ok {P : Program} {w : World} {H' : Hp} {h' : Heap} {o : Obj} {es : Array DictEntry} {ep : Nat} (h0 : (a == sysModules) = false) (hz : xs.length ≤ sizeLine) (h1 : h'.get? a = some o) (h2 : o.ExactDict) (h3 : o.data = .dict es ep) (h4 : es.toList = xs.map rowEnt) :
    ObjOk P w H' h' a (dctO a xs) := by
  refine ⟨⟨h0, hz, o, es, ep, h1, h2, h3, h4⟩, ⟨o, h1⟩, ?_⟩
  rintro g1 g2 ⟨k0, k1, o', es', ep', q1, q2⟩ kp
  exact ⟨k0, k1, o', es', ep', kp _ q1, q2⟩
/-- {} -/
theorem pe_dnewX {pos : Pos} : PE X (.Dict [] [] pos) (fun _ H Q => ∀ p, H p = none → Q (.ref p) (upd H p (dctO p []))) := ⟨fun pins s σ H Q I h =>
  wpAny_Dict_empty ⟨.ref s.heap.objs.size, _, I.laid (a := s.heap.objs.size) (o := dctO s.heap.objs.size []) (t' := s.toks) (fun _ _ q => Heap.get?_push_of_some _ q) (Nat.le_refl _)
    (dct_ok (beq_eq_false_iff_ne.mpr (Ne.symm (Nat.ne_of_lt I.big))) (Nat.zero_le _) (Heap.get?_push_size _ rfl) ⟨rfl, rfl, rfl⟩ rfl rfl), rfl, h _ (I.hok.fresh (Nat.le_refl _))⟩⟩
/-- a row is put in -/
def putR (xs : List (List Int × Addr)) (ks : List Int) (b : Addr) : List (List Int × Addr) := if ks ∈ xs.map (·.1) then xs else xs ++ [(ks, b)]
theorem put_ents : storedH (ents xs) ks b (.bool true) = ents (putR xs ks b) := by
  unfold putR
  have hm : (atKey (ents xs) ks).isSome = decide (ks ∈ xs.map (·.1)) := by
    rw [← ents_keys]
    generalize ents xs = ys
    induction ys with
    | nil => rfl
    | cons y ys ih =>
      unfold atKey at ih ⊢
      rw [List.find?_cons]
      by_cases q : y.1 = ks
      · simp [q]
      · have q' : ¬ ks = y.1 := fun z => q z.symm
        simp only [List.map_cons, List.mem_cons, q', false_or, q, decide_false]
        exact ih
  unfold storedH
  rw [hm]
  by_cases q : ks ∈ xs.map (·.1)
  · rw [if_pos (decide_eq_true q), if_pos q]
    unfold ents
    rw [List.map_map]
    refine List.map_congr_left fun x _ => ?_
    show putAt ks (.bool true) (x.1, x.2, Value.bool true) = _
    unfold putAt
    split <;> rfl
  · rw [if_neg (by simpa using q), if_neg q]
    unfold ents
    rw [List.map_append]; rfl
theorem put_nodup (nd : (xs.map (·.1)).Nodup) : ((putR xs ks b).map (·.1)).Nodup := by
  unfold putR
  split
  · exact nd
  · rename_i q
    rw [List.map_append, List.nodup_append]
    refine ⟨nd, by simp, fun x hx y hy z => ?_⟩
    rw [List.map_cons, List.map_nil, List.mem_singleton] at hy
    subst hy z
    exact q hx
theorem put_len : (putR xs ks b).length ≤ xs.length + 1 := by
  unfold putR
  split
  · omega
  · rw [List.length_append]; simp
theorem put_rel {K : PySem.W.Frag} {m : Ms} {H : Hp} (r : RelDs K m H (xs.map fun x => rwI x.1) (xs.map fun x => V.ref x.2)) (rk : RelD K m H (rwI ks) (.ref b)) : RelDs K m H ((putR xs ks b).map fun x => rwI x.1) ((putR xs ks b).map fun x => V.ref x.2) := by
  unfold putR
  split
  · exact r
  · rw [List.map_append, List.map_append]
    exact r.append (.cons rk .nil)
theorem d_setX {A : Around} {E : Value → Shared → Prop} {Q : Unit → Shared → Prop} (hu : A.units + 1 < cLine) (I : Inv X pins σ H s) (e : H a = some (dctO a xs)) (nd : (xs.map (·.1)).Nodup) (r : RelDs X.K m H (xs.map fun x => rwI x.1) (xs.map fun x => V.ref x.2)) (rk : RelD X.K m H (rwI ks) (.ref b)) (hl : xs.length < sizeLine)
    (h : ∀ s', Inv X pins σ (upd H a (dctO a (putR xs ks b))) s' → Q () s') : wpAny (model X.prog X.w) A (setItem (.ref a) (.ref b) (.bool true)) Q E s := by
  have dd := dctX_of I e nd r
  have h0 := (dct_at I e).1
  refine wpAny_setItem_heap (hsz := by rw [ents_len]; omega) (tupleKind_room_in1 hu) (key_row I rk) dd fun h' dd' hs => h _ ?_
  rw [put_ents] at dd'
  obtain ⟨q, es, ep, hq, h2, h3, h4, _, h5⟩ := dd'
  rw [ents_eq] at h4
  exact d_write I (by rw [e]; exact True.intro) hs ⟨q, hq⟩ (dct_ok h0 (by have := put_len (xs := xs) (ks := ks) (b := b); omega) hq h2 h3 h4)
/-- len(d) -/
theorem cr_lenX : CallR X (.builtin "len") (fun vs H Q => ∃ (m : Ms) (a : Addr) (xs : List (List Int × Addr)), vs = [.ref a] ∧ H a = some (dctO a xs) ∧ (xs.map (·.1)).Nodup ∧ RelDs X.K m H (xs.map fun x => rwI x.1) (xs.map fun x => V.ref x.2) ∧ Q (.int (xs.length : Nat)) H) := by
  intro pins s σ H vs us Q I rv h
  obtain ⟨m, a, xs, rfl, e, nd, r, q⟩ := h
  obtain ⟨u, rfl, rx⟩ := vals1 rv
  obtain rfl : u = .ref a := rx
  have dd := dctX_of I e nd r
  have h0 := dct_at I e
  refine call_len_dictH h0.1 dd (by rw [ents_len]; have := h0.2.1; rw [sizeLine_eq] at this; omega) ?_
  rw [ents_len]
  exact ⟨.int (xs.length : Nat), H, I.tok _, ⟨_, rfl⟩, q⟩
/-- sorted(d) -/
theorem cr_sortedX (hc : X.calm = true) : CallR X (.builtin "sorted") (fun vs H Q => ∃ (m : Ms) (a : Addr) (xs : List (List Int × Addr)), vs = [.ref a] ∧ H a = some (dctO a xs) ∧ sameN (xs.map (·.1)) = true ∧ RelDs X.K m H (xs.map fun x => rwI x.1) (xs.map fun x => V.ref x.2) ∧
    ∀ (ys : List V) (ts' : List (List Int)) p, RelDs X.K m H (ts'.map rwI) ys → ts'.Perm (xs.map (·.1)) → ts'.Pairwise leL → H p = none → Q (.ref p) (upd H p (.lst ys))) := by
  intro pins s σ H vs us Q I rv h
  obtain ⟨m, a, xs, rfl, e, hsame, rx, q⟩ := h
  obtain ⟨u, rfl, ru⟩ := vals1 rv
  obtain rfl : u = .ref a := ru
  obtain ⟨h0, hz, o, es, ep, h1, h2, h3, h4⟩ := dct_at I e
  have l1 : es.size = xs.length := by rw [← Array.length_toList, h4, List.length_map]
  obtain ⟨k, hk⟩ : ∃ k : V → List Int, ∀ (b : Addr) (t : List Int), SqT X.K H b (t.map V.int) → k (.ref b) = t := by
    refine ⟨fun x => Classical.epsilon fun t => ∃ b, x = V.ref b ∧ SqT X.K H b (t.map V.int), fun b t hb => ?_⟩
    have sp := Classical.epsilon_spec (p := fun t : List Int => ∃ b', V.ref b = V.ref b' ∧ SqT X.K H b' (t.map V.int)) ⟨t, b, rfl, hb⟩
    show (Classical.epsilon fun t : List Int => ∃ b', V.ref b = V.ref b' ∧ SqT X.K H b' (t.map V.int)) = t
    generalize (Classical.epsilon fun t : List Int => ∃ b', V.ref b = V.ref b' ∧ SqT X.K H b' (t.map V.int)) = t0 at sp ⊢
    obtain ⟨b', e, hb'⟩ := sp
    cases e
    exact vint_inj (I.tuple_inj hb' hb)
  obtain ⟨dd, hd0, hdd⟩ := sameN_ok hsame
  have rx' : RelDs X.K m H ((xs.map (·.1)).map rwE) (xs.map fun x => V.ref x.2) := by rw [List.map_map]; exact rx
  have mem : ∀ x ∈ (xs.map fun x => V.ref x.2), ∃ b, x = V.ref b ∧ SqT X.K H b ((k x).map V.int) ∧ (k x).length = dd := fun x hx => by
    obtain ⟨t, ht, b, rfl, hb⟩ := row_mem rx' x hx
    exact ⟨b, rfl, by rw [hk b t hb]; exact hb, by rw [hk b t hb]; exact hdd t ht⟩
  have kts : (xs.map fun x => V.ref x.2).map k = xs.map (·.1) := row_map hk rx'
  have rvv : Vals (xs.map fun x => V.ref x.2) (xs.map fun x => Value.ref x.2) := by
    clear rx rx' mem kts hsame h4 e q hdd l1 hz
    induction xs with
    | nil => exact .nil
    | cons x xs ih => exact .cons rfl ih
  have e1 : (xs.map fun x => V.ref x.2) = (xs.map fun x => Value.ref x.2).map backV := by rw [List.map_map]; rfl
  have e2 : ∀ v ∈ (xs.map fun x => Value.ref x.2), ∃ a, v = Value.ref a := fun v hv => by
    obtain ⟨x, _, rfl⟩ := List.mem_map.mp hv
    exact ⟨_, rfl⟩
  refine sorted_rowsC (vs := xs.map fun x => Value.ref x.2) (d := dd) (k := fun u => k (backV u)) (fun R E' hR => ?_) (by rw [List.length_map]; exact hz) hd0 (fun v hv => ?_) fun h₁ h' tk d out g1 g2 kp kp2 hdz hn => ?_
  · refine PySem.W.kdu_collect (kdl_raw h0 h2 h3) (I.ok.hd hc) h1 (by omega) fun h' tk acc kp it => ?_
    have ea : acc.toList = xs.map fun x => Value.ref x.2 := by
      have hl : acc.toList.length = xs.length := by rw [Array.length_toList, it.1]; exact l1
      apply List.ext_getElem?
      intro j
      rw [List.getElem?_map]
      cases hj : acc.toList[j]? with
      | none =>
        have h1 := List.getElem?_eq_none_iff.mp hj
        rw [List.getElem?_eq_none (by omega)]; rfl
      | some v =>
        obtain ⟨en, hen, hv⟩ := it.2 j v (by rw [← Array.getElem?_toList]; exact hj)
        have qe : es.toList[j]? = _ := congrArg (fun z : List DictEntry => z[j]?) h4
        rw [Array.getElem?_toList, hen, List.getElem?_map] at qe
        cases hb : xs[j]? with
        | none => rw [hb] at qe; cases qe
        | some b =>
          rw [hb] at qe
          have e2 : en = rowEnt b := Option.some.inj qe
          rw [hv, e2]; rfl
    rw [ea]
    exact hR h' tk kp
  · obtain ⟨t, rfl⟩ := e2 v hv
    have hm : V.ref t ∈ (xs.map fun x => V.ref x.2) := by rw [e1]; exact List.mem_map.mpr ⟨_, hv, rfl⟩
    obtain ⟨t', e, ht, hlen⟩ := mem _ hm
    cases e
    obtain ⟨its2, r2, ⟨o2, ho2, hc2, n2, hd2⟩, _⟩ := I.tuple ht
    exact ⟨⟨t, o2, its2.toArray, n2, rfl, ho2, hc2, hd2, by have q := r2.ints; exact (show PyProof.Rows.IntsAre its2.toArray.toList (k (V.ref t)) by simpa using q)⟩, hlen⟩
  · have h3 : ∀ u ∈ out, ∃ a, u = Value.ref a := fun u hu => e2 u (g2.perm.mem_iff.mp hu)
    obtain ⟨n, hn⟩ := hn
    have hp : (out.map backV).Perm (xs.map fun x => V.ref x.2) := by rw [e1]; exact g2.perm.map backV
    have hb : ∀ ys : List V, (∀ y ∈ ys, y ∈ (xs.map fun x => V.ref x.2)) → RelDs X.K m H ((ys.map k).map rwI) ys := by
      intro ys
      induction ys with
      | nil => intro _; exact .nil
      | cons y ys ih =>
        intro hy
        obtain ⟨b, e, hb, _⟩ := mem y (hy y List.mem_cons_self)
        refine .cons ?_ (ih fun z hz => hy z (List.mem_cons_of_mem _ hz))
        subst e
        exact relR hb
    have hso : ((out.map backV).map k).Pairwise leL := by
      rw [List.pairwise_map, List.pairwise_map]
      exact List.Pairwise.imp (fun {u v} huv => huv) g1
    have I1 : Inv X pins σ H { s with heap := h₁, toks := tk } := I.kept kp
    refine ⟨.ref d, upd H d (.lst (out.map backV)), I1.laid (t' := tk) kp2 hdz ⟨?_, out, n, vals_back h3, hn⟩, rfl, q _ ((out.map backV).map k) d (hb _ fun y hy => hp.mem_iff.mp hy) (by rw [← kts]; exact hp.map k) hso (I1.hok.fresh hdz)⟩
    rw [hp.length_eq, List.length_map]
    exact hz
/-- d[y] = True -/
theorem set_dct (hu : X.A.units + 1 < cLine) : PSet X (fun o i v H Q => ∃ (m : Ms) (a b : Addr) (xs : List (List Int × Addr)) (ks : List Int), o = .ref a ∧ i = .ref b ∧ v = .bl true ∧ H a = some (dctO a xs) ∧ (xs.map (·.1)).Nodup ∧
    RelDs X.K m H (xs.map fun x => rwI x.1) (xs.map fun x => V.ref x.2) ∧ RelD X.K m H (rwI ks) (.ref b) ∧ xs.length < sizeLine ∧ Q (upd H a (dctO a (putR xs ks b)))) := by
  intro pins s σ H o i v ov iv u Q I ro ri rv h
  obtain ⟨m, a, b, xs, ks, rfl, rfl, rfl, e, nd, r, rk, hl, q⟩ := h
  cases ro
  cases ri
  obtain rfl : u = Value.bool true := rv
  exact d_setX hu I e nd r rk hl fun s' I' => ⟨_, I', q⟩
end
end FV
set_option Elab.async false
set_option linter.all false
set_option maxRecDepth 100000
set_option maxHeartbeats 2000000
/-! Sound1: where code stands, patterns, what a loop walks. -/
namespace FV
open PySem L2
/-- where code stands: the slots' names, the block's scope, the scope that has the block's own cells (none: all) -/
structure Ck where
  N : List Str
  sc : Scope
  fs : Option Scope
def isG (c : Ck) (x : Str) : Bool := decide (c.sc.names.lookup x = some .globalImplicit) && !(x == ("__debug__" : Str))
def isV (c : Ck) (x : Str) (i : Nat) : Bool := decide (c.N[i]? = some x) && (decide (c.sc.names.lookup x = some .local) || decide (c.sc.names.lookup x = some .cell) || decide (c.sc.names.lookup x = some .free)) && !(x == ("__debug__" : Str)) && !(x == ("__classdict__" : Str))
def ownCell (c : Ck) (x : Str) : Bool := match c.fs with
  | none => true
  | some s0 => s0.names.lookup x == some .cell
def isSt (c : Ck) (x : Str) (i : Nat) : Bool := decide (c.N[i]? = some x) && (decide (c.sc.names.lookup x = some .local) || (decide (c.sc.names.lookup x = some .cell) && ownCell c x))
/-- what all code of the law leans on -/
structure Wd where
  P : Program
  w : World
  K : PySem.W.Frag
  mg : Str → Option Value
  base : Heap
  n : Nat
structure At (W : Wd) (c : Ck) (X : Cx) : Prop where
  prog : X.prog = W.P
  wd : X.w = W.w
  k : X.K = W.K
  mg : X.mg = W.mg
  bs : X.base = W.base
  N : X.N = c.N
  nd : c.N.Nodup
  sc : X.env.scope = c.sc
  fn : ∀ x, ownCell c x = true → c.sc.names.lookup x = some .cell → X.fn x = true
  calm : X.calm = true
  room : Room W.n X.A
  gd : X.A.guards = some []
  xe : X.xe = fun _ _ => False
section
variable {W : Wd} {c : Ck} {X : Cx}
theorem At.gl (a : At W c X) {x : Str} (h : isG c x = true) : Gl X x ∧ (x == ("__debug__" : Str)) = false := by
  unfold isG at h
  rw [Bool.and_eq_true, Bool.not_eq_true', decide_eq_true_eq] at h
  refine ⟨?_, h.2⟩
  show X.env.scope.names.lookup x = _
  rw [a.sc]
  exact h.1
theorem At.st (a : At W c X) {x : Str} {i : Nat} (h : isSt c x i = true) : X.N[i]? = some x ∧ Loc X.env.scope x ∧ (X.fn x = true ∨ X.env.scope.names.lookup x = some .local) := by
  unfold isSt at h
  simp only [Bool.and_eq_true, Bool.or_eq_true, decide_eq_true_eq] at h
  obtain ⟨h1, h2⟩ := h
  refine ⟨by rw [a.N]; exact h1, ?_, ?_⟩
  · unfold L2.Loc
    rw [a.sc]
    exact h2.imp id fun z => z.1
  · rw [a.sc]
    rcases h2 with z | ⟨z1, z2⟩
    · exact .inr z
    · exact .inl (a.fn x z2 z1)
theorem At.vis (a : At W c X) {x : Str} {i : Nat} (h : isV c x i = true) : X.N[i]? = some x ∧ Vis X.env.scope x ∧ (x == ("__debug__" : Str)) = false ∧ (x == ("__classdict__" : Str)) = false := by
  unfold isV at h
  simp only [Bool.and_eq_true, Bool.or_eq_true, decide_eq_true_eq, Bool.not_eq_true'] at h
  obtain ⟨⟨⟨h1, h2⟩, h3⟩, h4⟩ := h
  refine ⟨by rw [a.N]; exact h1, ?_, h3, h4⟩
  unfold L2.Vis
  rw [a.sc]
  rcases h2 with (z | z) | z
  · exact .inl z
  · exact .inr (.inl z)
  · exact .inr (.inr z)
end
/-! ### patterns -/
mutual
def chkP (c : Ck) : Pt → Expr → Bool
  | .nm i, .Name x _ => isSt c x i
  | .tp ps, .Tuple ys _ _ => chkPs c ps ys
  | _, _ => false
def chkPs (c : Ck) : List Pt → List Expr → Bool
  | [], [] => true
  | p :: ps, y :: ys => chkP c p y && chkPs c ps ys
  | _, _ => false
end
mutual
def varsP : Pt → List Nat
  | .nm i => [i]
  | .tp ps => varsPs ps
def varsPs : List Pt → List Nat
  | [] => []
  | p :: ps => varsP p ++ varsPs ps
end
/-- only these slots differ -/
def SetIn (is : List Nat) (a b : L2.St) : Prop := a.length = b.length ∧ ∀ i, i ∉ is → b[i]? = a[i]?
theorem SetIn.refl {is : List Nat} {a : L2.St} : SetIn is a a := ⟨rfl, fun _ _ => rfl⟩
theorem SetIn.mono {is js : List Nat} {a b : L2.St} (h : SetIn is a b) (s : ∀ i ∈ is, i ∈ js) : SetIn js a b := ⟨h.1, fun i hi => h.2 i fun z => hi (s i z)⟩
theorem SetIn.trans {is : List Nat} {a b d : L2.St} (h : SetIn is a b) (g : SetIn is b d) : SetIn is a d := ⟨h.1.trans g.1, fun i hi => (g.2 i hi).trans (h.2 i hi)⟩
theorem wipe_get (σ : L2.St) (i : Nat) : ∀ vs : List Nat, (L2.wipe σ vs)[i]? = if i ∈ vs ∧ i < σ.length then some none else σ[i]?
  | [] => by simp [L2.wipe]
  | v :: vs => by
    unfold L2.wipe
    by_cases h : v = i
    · subst h
      by_cases hl : v < σ.length
      · rw [List.getElem?_set_self (by rw [L2.wipe_length]; exact hl)]
        simp [hl]
      · rw [List.getElem?_eq_none (by rw [List.length_set, L2.wipe_length]; omega), List.getElem?_eq_none (by omega)]
        simp [hl]
    · rw [List.getElem?_set_ne h, wipe_get σ i vs]
      have : ¬ i = v := fun z => h z.symm
      simp [this]
theorem SetIn.wipe {is own : List Nat} {a b : L2.St} (h : SetIn is a b) (s : ∀ i ∈ is, i ∈ own) : L2.wipe b own = L2.wipe a own := by
  apply List.ext_getElem?
  intro i
  rw [wipe_get, wipe_get, ← h.1]
  by_cases hi : i ∈ own
  · by_cases hl : i < a.length
    · simp [hi, hl]
    · simp [hi, hl]
      rw [← h.1]; omega
  · simp [hi]
    exact h.2 i fun z => hi (s i z)
/-- a pattern's reading -/
def tP (K : PySem.W.Frag) (p : Pt) : TG := fun v vσ H Q => ∃ m σ d σ', RS K m H σ vσ ∧ RelD K m H d v ∧ bindP p d σ = some σ' ∧ ∀ vσ', RS K m H σ' vσ' → SetIn (varsP p) vσ vσ' → Q vσ' H
def tPs (K : PySem.W.Frag) (ps : List Pt) : TGs := fun vs vσ H Q => ∃ m σ ds σ', RS K m H σ vσ ∧ RelDs K m H ds vs ∧ bindPs ps ds σ = some σ' ∧ ∀ vσ', RS K m H σ' vσ' → SetIn (varsPs ps) vσ vσ' → Q vσ' H
theorem pg_imp {X : Cx} {e : Expr} {t t' : TG} (h : PG X e t) (w : ∀ v σ H Q, t' v σ H Q → t v σ H Q) : PG X e t' := ⟨fun pins s σ H v u Q I r q => h.run pins s σ H v u Q I r (w _ _ _ _ q)⟩
theorem pgs_imp {X : Cx} {e : List Expr} {t t' : TGs} (h : PGs X e t) (w : ∀ v σ H Q, t' v σ H Q → t v σ H Q) : PGs X e t' := ⟨fun pins s σ H v u Q I r q => h.run pins s σ H v u Q I r (w _ _ _ _ q)⟩
theorem assign_cons {e : Expr} {es : List Expr} {env : PySem.Env} (h : ∀ x p, e ≠ .Starred x p) : (assignEach (e :: es) env) = (false, assign e env) :: assignEach es env := by
  cases e <;> first | rfl | exact absurd rfl (h _ _)
theorem chkP_star {c : Ck} {p : Pt} {e : Expr} (h : chkP c p e = true) : ∀ x q, e ≠ .Starred x q := by
  intro x q z
  subst z
  cases p <;> (simp only [chkP] at h; cases h)
theorem chkPs_len {c : Ck} {env : PySem.Env} : ∀ {ps : List Pt} {es : List Expr}, chkPs c ps es = true → (assignEach es env).length = ps.length ∧ (assignEach es env).findIdx? (·.1) = none ∧ es.length = ps.length
  | [], [], _ => ⟨rfl, rfl, rfl⟩
  | [], _ :: _, h => by simp only [chkPs] at h; cases h
  | _ :: _, [], h => by simp only [chkPs] at h; cases h
  | p :: ps, e :: es, h => by
    simp only [chkPs, Bool.and_eq_true] at h
    obtain ⟨h1, h2, h3⟩ := chkPs_len (env := env) h.2
    rw [assign_cons (chkP_star h.1)]
    refine ⟨by rw [List.length_cons, List.length_cons, h1], ?_, by rw [List.length_cons, List.length_cons, h3]⟩
    rw [List.findIdx?_cons]
    simp [h2]
theorem bindPs_len : ∀ {ps : List Pt} {ds : List D} {σ σ' : Env}, bindPs ps ds σ = some σ' → ds.length = ps.length
  | [], [], _, _, _ => rfl
  | [], _ :: _, _, _, h => by simp only [bindPs] at h; cases h
  | _ :: _, [], _, _, h => by simp only [bindPs] at h; cases h
  | p :: ps, d :: ds, σ, σ', h => by
    simp only [bindPs] at h
    split at h
    · rw [List.length_cons, List.length_cons, bindPs_len h]
    · cases h
section
variable {W : Wd} {c : Ck} {X : Cx}
mutual
theorem pgP (a : At W c X) : ∀ (p : Pt) (e : Expr), chkP c p e = true → PG X e (tP W.K p)
  | .nm i, e, h => by
    cases e <;> try (simp only [chkP] at h; cases h)
    rename_i x pos
    obtain ⟨h1, h2, h3⟩ := a.st h
    refine pg_imp (pg_name (by rw [a.N]; exact a.nd) h1 h2 h3) fun v vσ H Q q => ?_
    obtain ⟨m, σ, d, σ', rs, rd, e, k⟩ := q
    have e' : st σ i d = σ' := Option.some.inj e
    subst e'
    refine k _ (rs.set rd) ⟨by rw [List.length_set], fun j hj => ?_⟩
    rw [List.getElem?_set_ne]
    intro z
    exact hj (by simp [varsP, z])
  | .tp ps, e, h => by
    cases e <;> try (simp only [chkP] at h; cases h)
    rename_i es k pos
    obtain ⟨h1, h2, h3⟩ := chkPs_len (env := X.env) h
    refine ⟨fun pins s vσ H v u Q I r q => ?_⟩
    obtain ⟨m, σ, d, σ', rs, rd, e, k⟩ := q
    cases rd <;> try (simp only [bindP] at e; cases e)
    · rename_i ds ad vs hs rs'
      simp only [bindP] at e
      exact (pg_tup a.calm (pgPs a ps es h) h1 h2).run pins s vσ H _ u Q I r ⟨_, _, rfl, by rw [a.k]; exact hs, by rw [← rs'.length]; exact bindPs_len e, m, σ, ds, σ', rs, rs', e, k⟩
    · rename_i ds ad vs hs na rs'
      simp only [bindP] at e
      exact (pg_unl a.calm (pgPs a ps es h) h1 h2).run pins s vσ H _ u Q I r ⟨_, _, rfl, .inl (.inl hs), by rw [← rs'.length]; exact bindPs_len e, m, σ, ds, σ', rs, rs', e, k⟩
theorem pgPs (a : At W c X) : ∀ (ps : List Pt) (es : List Expr), chkPs c ps es = true → PGs X es (tPs W.K ps)
  | [], [], _ => by
    refine pgs_imp pgs_nil fun v vσ H Q q => ?_
    obtain ⟨m, σ, ds, σ', rs, rd, e, k⟩ := q
    have hl := bindPs_len e
    cases rd with
    | nil =>
      simp only [bindPs] at e
      cases e
      exact ⟨rfl, k _ rs .refl⟩
    | cons _ _ => cases hl
  | [], _ :: _, h => by simp only [chkPs] at h; cases h
  | _ :: _, [], h => by simp only [chkPs] at h; cases h
  | p :: ps, e :: es, h => by
    simp only [chkPs, Bool.and_eq_true] at h
    refine pgs_imp (pgs_cons (pgP a p e h.1) (pgPs a ps es h.2) (by rw [assign_cons (chkP_star h.1)]; rfl)) fun v vσ H Q q => ?_
    obtain ⟨m, σ, ds, σ', rs, rd, e, k⟩ := q
    have hl := bindPs_len e
    cases rd with
    | nil => cases hl
    | cons r1 r2 =>
      rename_i d v ds vs
      simp only [bindPs] at e
      split at e
      · rename_i σ1 e1
        refine ⟨_, _, rfl, m, σ, d, σ1, rs, r1, e1, fun vσ1 rs1 s1 => ⟨m, σ1, ds, σ', rs1, r2, e, fun vσ2 rs2 s2 => ?_⟩⟩
        refine k _ rs2 ((s1.mono ?_).trans (s2.mono ?_))
        · intro i hi; simp only [varsPs, List.mem_append]; exact .inl hi
        · intro i hi; simp only [varsPs, List.mem_append]; exact .inr hi
      · cases e
end
end
/-! ### what is walked -/
def gdP (g : Gd) (S : Store) : Prop := match g with
  | none => True
  | some (l, ds, none) => cl S l = some ds
  | some (l, ds, some (l', es)) => cl S l = some ds ∧ cl S l' = some es
theorem gdo_of {g : Gd} {S : Store} {p : Prop} (h : gdo g S p) : gdP g S ∧ p := by
  cases g with
  | none => exact ⟨trivial, h⟩
  | some q =>
    obtain ⟨l, ds, q⟩ := q
    cases q with
    | none => exact h
    | some q => exact h
/-- J hands out the items ds, one by one -/
def Src (K : PySem.W.Frag) (m : Ms) (H : Hp) (J : It) (g : Gd) (ds : List D) : Prop :=
  ∀ m2 S2 H2, Gh m H m2 H2 → HR K m2 S2 H2 → gdP g S2 →
    (∀ i d, ds[i]? = some d → J.go i H2 ∧ ∀ x H3, J.yld i H2 x H3 → Ext m2 H2 m2 H3 ∧ HR K m2 S2 H3 ∧ RelD K m2 H3 d x) ∧ ∀ i, ds.length ≤ i → J.stop i H2
theorem Src.ext {K : PySem.W.Frag} {m m' : Ms} {H H' : Hp} {J : It} {g : Gd} {ds : List D} (s : Src K m H J g ds) (x : Ext m H m' H') : Src K m' H' J g ds := fun m2 S2 H2 x2 hr hg => s m2 S2 H2 (x.gr.gh.trans x2) hr hg
/-- an item of a source that stands as it is -/
theorem item_ok {K : PySem.W.Frag} {m : Ms} {S : Store} {H : Hp} {ds : List D} {vs : List V} {i : Nat} {d : D} (hr : HR K m S H) (r : RelDs K m H ds vs) (e : ds[i]? = some d) :
    ∃ v, vs[i]? = some v ∧ ∀ x H3, H3 = H → vs[i]? = some x → Ext m H m H3 ∧ HR K m S H3 ∧ RelD K m H3 d x := by
  obtain ⟨v, h1, h2⟩ := r.get e
  refine ⟨v, h1, fun x H3 e1 e2 => ?_⟩
  subst e1
  rw [h1] at e2
  cases e2
  exact ⟨.refl, hr, h2⟩
theorem src_of {K : PySem.W.Frag} {m : Ms} {S : Store} {H : Hp} {d : D} {x : V} {k : Gd → List D → Prop} (hr : HR K m S H) (r : RelD K m H d x) (h : itm d S k) :
    ∃ (a : Addr) (g : Gd) (ds : List D), x = .ref a ∧ gdP g S ∧ k g ds ∧ ((∃ vs, SqL K H a vs) ∧ Src K m H (Itl K a) g ds ∨ (∃ vs, SqT K H a vs) ∧ Src K m H (Itt K a) g ds) := by
  cases r <;> try (exact h.elim)
  · rename_i ds a vs hs rs
    refine ⟨a, none, ds, rfl, trivial, h, .inr ⟨⟨vs, hs⟩, fun m2 S2 H2 x2 hr2 _ => ⟨fun i e he => ?_, fun i hi => ⟨vs, x2.sqt hs, by rw [← rs.length]; exact hi⟩⟩⟩⟩
    obtain ⟨v, h1, h2⟩ := item_ok hr2 (rs.monoH x2) he
    exact ⟨⟨vs, v, x2.sqt hs, h1⟩, fun x H3 y => h2 x H3 y.1 (y.2 vs (x2.sqt hs))⟩
  · rename_i ds a vs hs na rs
    have hl : ∀ {m2 H2}, Gh m H m2 H2 → SqL K H2 a vs := fun x2 => .inl (.inl (x2.keep _ _ hs fun _ => na))
    refine ⟨a, none, ds, rfl, trivial, h, .inl ⟨⟨vs, hl Ext.refl.gr.gh⟩, fun m2 S2 H2 x2 hr2 _ => ⟨fun i e he => ?_, fun i hi => ⟨vs, hl x2, by rw [← rs.length]; exact hi⟩⟩⟩⟩
    obtain ⟨v, h1, h2⟩ := item_ok hr2 (rs.monoH x2) he
    exact ⟨⟨vs, v, hl x2, h1⟩, fun x H3 y => h2 x H3 y.1 (y.2 vs (hl x2))⟩
  · rename_i ds a vs hs rs
    have hl : ∀ {m2 H2}, Gh m H m2 H2 → SqL K H2 a vs := fun x2 => (x2.sqf hs).sql
    refine ⟨a, none, ds, rfl, trivial, h, .inl ⟨⟨vs, hl Ext.refl.gr.gh⟩, fun m2 S2 H2 x2 hr2 _ => ⟨fun i e he => ?_, fun i hi => ⟨vs, hl x2, by rw [← rs.length]; exact hi⟩⟩⟩⟩
    obtain ⟨v, h1, h2⟩ := item_ok hr2 (rs.monoH x2) he
    exact ⟨⟨vs, v, hl x2, h1⟩, fun x H3 y => h2 x H3 y.1 (y.2 vs (hl x2))⟩
  · rename_i l a hl
    simp only [itm] at h
    split at h
    · rename_i ds q
      obtain ⟨vs0, e0, _⟩ := hr.at_ l ds a q hl
      refine ⟨a, some (l, ds, none), ds, rfl, q, h, .inl ⟨⟨vs0, .inl (.inl e0)⟩, fun m2 S2 H2 x2 hr2 hg => ?_⟩⟩
      have hl2 := x2.cr hl
      obtain ⟨vs, e2, rs⟩ := hr2.at_ l ds a hg hl2
      refine ⟨fun i e he => ?_, fun i hi => ⟨vs, .inl (.inl e2), by rw [← rs.length]; exact hi⟩⟩
      obtain ⟨v, h1, h2⟩ := item_ok hr2 rs he
      exact ⟨⟨vs, v, .inl (.inl e2), h1⟩, fun x H3 y => h2 x H3 y.1 (y.2 vs (.inl (.inl e2)))⟩
    · exact h.elim
end FV
set_option Elab.async false
set_option linter.all false
set_option maxRecDepth 100000
set_option maxHeartbeats 4000000
/-! Sound2: expressions. -/
namespace FV
open PySem L2
/-- the names of the text: defs by their numbers, constants by their data -/
structure Tb where
  fid : List (Str × Nat)
  glb : List (Str × D)
  ps : Nat → List Str
  gcd : Bool
  tabs : List (Str × List (Str × D))
mutual
/-- the same datum, letter by letter -/
def sameD : D → D → Bool
  | .non, .non => true
  | .bl a, .bl b => a == b
  | .int i, .int j => decide (i = j)
  | .str x, .str y => decide (x = y)
  | .tup xs, .tup ys => sameDs xs ys
  | _, _ => false
def sameDs : List D → List D → Bool
  | [], [] => true
  | x :: xs, y :: ys => sameD x y && sameDs xs ys
  | _, _ => false
end
mutual
theorem sameD_eq : ∀ (a b : D), sameD a b = true → a = b
  | .non, b, h => by cases b <;> first | rfl | (cases h)
  | .bl a, b, h => by
    cases b <;> first
      | (cases h; done)
      | (have e : (a == _) = true := h
         rw [eq_of_beq e])
  | .int i, b, h => by
    cases b <;> first
      | (cases h; done)
      | (have e := of_decide_eq_true (show decide (i = _) = true from h)
         rw [e])
  | .str x, b, h => by
    cases b <;> first
      | (cases h; done)
      | (have e := of_decide_eq_true (show decide (x = _) = true from h)
         rw [e])
  | .tup xs, b, h => by
    cases b <;> first
      | (cases h; done)
      | (have e := sameDs_eq xs _ h
         rw [e])
  | .lst _, b, h => by cases b <;> cases h
  | .frz _, b, h => by cases b <;> cases h
  | .ref _, b, h => by cases b <;> cases h
  | .dre _, b, h => by cases b <;> cases h
  | .fn _, b, h => by cases b <;> cases h
  | .exc _ _, b, h => by cases b <;> cases h
  | .itr _, b, h => by cases b <;> cases h
  | .rep _, b, h => by cases b <;> cases h
  | .dic, b, h => by cases b <;> cases h
  | .dss _, b, h => by cases b <;> cases h
  | .itg _ _ _, b, h => by cases b <;> cases h
  | .itg2 .., b, h => by cases b <;> cases h
theorem sameDs_eq : ∀ (a b : List D), sameDs a b = true → a = b
  | [], [], _ => rfl
  | [], _ :: _, h => by cases h
  | _ :: _, [], h => by cases h
  | x :: xs, y :: ys, h => by
    have h' : (sameD x y && sameDs xs ys) = true := h
    rw [Bool.and_eq_true] at h'
    rw [sameD_eq x y h'.1, sameDs_eq xs ys h'.2]
end
/-- keywords: all parameters, each once; ord: their places by the parameters -/
def kwOk (ps : List Str) (ord : List Nat) (ks : List Str) : Bool := decide ks.Nodup && decide (ks.length = ps.length) && decide (ord.map (fun i => ks[i]?) = ps.map some) && (List.range ks.length).all (fun i => ord.contains i) && !ps.isEmpty
def gcOk (B : Tb) : Bi → Bool
  | .gcd => B.gcd
  | _ => true
def opEq : Bop → Operator → Bool
  | .add, .Add => true | .sub, .Sub => true | .mul, .Mult => true | .fdiv, .FloorDiv => true | .mod, .Mod => true | .pow, .Pow => true
  | _, _ => false
theorem opEq_ok {b : Bop} {o : Operator} (h : opEq b o = true) : o = opOf b := by cases b <;> cases o <;> first | rfl | cases h
def copEq : Cop → CmpOp → Bool
  | .eq, .Eq => true | .ne, .NotEq => true | .lt, .Lt => true | .le, .LtE => true | .gt, .Gt => true | .ge, .GtE => true | .is, .Is => true | .isnot, .IsNot => true | .isin, .In => true | .notin, .NotIn => true
  | _, _ => false
theorem copEq_ok {b : Cop} {o : CmpOp} (h : copEq b o = true) : o = copOf b := by cases b <;> cases o <;> first | rfl | cases h
def cstB : D → Const → Bool
  | .non, .none => true
  | .bl b, .bool c => b == c
  | .int i, .int j => decide (i = j)
  | .str s, .str t => decide (s = t)
  | _, _ => false
def biName : Bi → Str
  | .len => "len" | .abs => "abs" | .max2 => "max" | .min2 => "min" | .int => "int" | .divmod => "divmod" | .gcd => "gcd"
  | .all => "all" | .any => "any" | .sum => "sum" | .tuple => "tuple" | .list => "list" | .repr => "repr" | .str => "str" | .sorted => "sorted" | .maxl => "max"
def rgName : Bool → Str
  | true => "tuple"
  | false => "list"
def isSet : Expr → Bool
  | .Set .. => true
  | _ => false
theorem marks {op : CmpOp} {b : Expr} (h : isSet b = false) : behindInMarks op b = false := by
  cases b <;> first | rfl | (cases h)
def plainIx : Expr → Bool
  | .Slice .. => false
  | _ => true
theorem plainIx_ok {b : Expr} (h : plainIx b = true) : PlainIx b := by
  intro o i
  cases b <;> first | rfl | (cases h)
/-- no test of its own kind -/
def leafX : Expr → Bool
  | .Name .. => true
  | .Call .. => true
  | .Subscript .. => true
  | _ => false
theorem leafX_ok {e : Expr} {env : PySem.Env} (h : leafX e = true) : ∀ whole, isTrue e env whole = (do let v ← whole; standAt e.pos; holding [v] (truthy v)) := by
  intro w
  cases e <;> first | rfl | (cases h)
def leafE : E → Bool
  | .rng .. => false
  | .rng1 .. => false
  | .zip .. => false
  | .enm .. => false
  | .app .. => false
  | .cat .. => false
  | .lrg1 .. => false
  | .lrg2 .. => false
  | .rngd .. => false
  | .lstf .. => false
  | .cntl .. => false
  | .tget .. => false
  | .tin .. => false
  | .tls .. => false
  | .dsp .. => false
  | .dget .. => false
  | .rpt .. => false
  | .dnew => false
  | .dlen .. => false
  | .dsrt .. => false
  | .pop .. => false
  | .fnv .. => false
  | .callv .. => false
  | .not .. => false
  | .and .. => false
  | .or .. => false
  | _ => true
def ownN (c : Ck) (own : List Nat) : List (Str × Nat) := own.map fun i => (c.N.getD i "", i)
def inC (c : Ck) (s : Scope) : Ck := ⟨c.N, relS s c.sc, some s⟩
def fewT : List Ty → Bool
  | [] => true
  | [_] => true
  | [_, _] => true
  | [_, _, _] => true
  | _ => false
/-- the names of these types -/
def tysOk (c : Ck) : List Ty → List Expr → Bool
  | [], [] => true
  | t :: ts, .Name z _ :: zs => isG c z && decide (z = Str.ofString (tyName t)) && tysOk c ts zs
  | _, _ => false
/-- the same table -/
def sameT : List (Str × D) → List (Str × D) → Bool
  | [], [] => true
  | p :: r, q :: s => decide (p.1 = q.1) && sameD p.2 q.2 && sameT r s
  | _, _ => false
theorem sameT_eq : ∀ {a b : List (Str × D)}, sameT a b = true → a = b
  | [], [], _ => rfl
  | [], _ :: _, h => by cases h
  | _ :: _, [], h => by cases h
  | (x, d) :: r, (y, e) :: s, h => by
    have h' : (decide (x = y) && sameD d e && sameT r s) = true := h
    simp only [Bool.and_eq_true, decide_eq_true_eq] at h'
    rw [h'.1.1, sameD_eq _ _ h'.1.2, sameT_eq h'.2]
def tabB (B : Tb) (x : Str) (kvs : List (Str × D)) : Bool := B.tabs.any fun p => decide (p.1 = x) && sameT p.2 kvs
/-- a display of texts -/
def dspB : List (Str × Str) → List (Option Expr) → List Expr → Bool
  | [], [], [] => true
  | p :: r, some (.Constant (.str k) _ _) :: ks, .Constant (.str v) _ _ :: vs => decide (p.1 = k) && decide (p.2 = v) && dspB r ks vs
  | _, _, _ => false
def isVE (c : Ck) (x : Str) (a : E) : Bool := match a with
  | .var i => isV c x i
  | _ => false
mutual
/-- the tree e says what the text x says -/
def chk (B : Tb) (c : Ck) : E → Expr → Bool
  | .var i, .Name x _ => isV c x i
  | .cst d, .Constant k _ _ => cstB d k
  | .glb y d, .Name x _ => decide (y = x) && isG c x && (B.glb.any fun p => decide (p.1 = x) && sameD p.2 d)
  | .bin op a b, .BinOp x o y _ => opEq op o && chk B c a x && chk B c b y
  | .neg a, .UnaryOp .USub x _ => chk B c a x
  | .not a, .UnaryOp .Not x _ => chk B c a x
  | .cmp op a b, .Compare x [o] [y] _ => copEq op o && !isSet y && chk B c a x && chk B c b y
  | .cmp2 op op' a b d, .Compare x [o, o'] [y, z] _ => copEq op o && copEq op' o' && !isSet z && chk B c a x && chk B c b y && chk B c d z
  | .and a b, .BoolOp .And [x, y] _ => chk B c a x && chk B c b y
  | .and a b, .BoolOp .And (x :: y :: z :: r) p => chk B c a x && chk B c b (.BoolOp .And (y :: z :: r) p)
  | .or a b, .BoolOp .Or [x, y] _ => chk B c a x && chk B c b y
  | .or a b, .BoolOp .Or (x :: y :: z :: r) p => chk B c a x && chk B c b (.BoolOp .Or (y :: z :: r) p)
  | .ite t a b, .IfExp z x y _ => chkT B c t z && chk B c a x && chk B c b y
  | .tup es, .Tuple xs _ _ => decide (es.length ≤ SZ) && chks B c es xs
  | .lst _ es, .List xs _ => decide (es.length ≤ SZ) && chks B c es xs
  | .slc a lo hi, .Subscript x (.Slice l h none _) _ => chk B c a x && chko B c lo l && chko B c hi h
  | .idx a i, .Subscript x y _ => plainIx y && chk B c a x && chk B c i y
  | .call f es, .Call (.Name x _) xs [] _ => isG c x && decide (B.fid.lookup x = some f) && chks B c es xs
  | .callk f ord es, .Call (.Name x _) [] ks _ => isG c x && decide (B.fid.lookup x = some f) && ks.all (·.arg.isSome) && kwOk (B.ps f) ord (ks.filterMap (·.arg)) && decide (es.length ≤ SZ) && chks B c es (ks.map (·.value))
  | .bi b es, .Call (.Name x _) xs [] _ => isG c x && decide (x = biName b) && gcOk B b && !xs.isEmpty && chks B c es xs
  | .isi e t, .Call (.Name x _) [y, .Name z _] [] _ => isG c x && isG c z && decide (x = "isinstance") && decide (z = Str.ofString (tyName t)) && chk B c e y
  | .isi2 e ts, .Call (.Name x _) [y, .Tuple zs _ _] [] _ => isG c x && decide (x = "isinstance") && fewT ts && tysOk c ts zs && chk B c e y
  | .lc _ own p it cond elt, .ListComp x [⟨t, i, ifs, 0⟩] s _ => blkC c.N c.sc s (ownN c own) && !isSet i && chkP (inC c s) p t && (varsP p).all (fun j => own.contains j) && chkI B c it i t && chkc B (inC c s) cond ifs && chk B (inC c s) elt x
  | .lc2 _ own p it cond own2 p2 it2 cond2 elt, .ListComp x [⟨t, i, ifs, 0⟩, ⟨t2, i2, ifs2, 0⟩] s _ => (blkC c.N c.sc s (ownN c own) && !isSet i && !isSet i2 && chkP (inC c s) p t && (varsP p).all (fun j => own.contains j) && chkP (inC c s) p2 t2 && (varsP p2).all (fun j => own2.contains j) && own2.all (fun j => own.contains j)) && (chkI B c it i t && chkc B (inC c s) cond ifs && chkI B (inC c s) it2 i2 t2 && chkc B (inC c s) cond2 ifs2 && chk B (inC c s) elt x)
  | .cnt es e, .Call (.Attribute (.Tuple xs _ _) nm apos) [y] [] cpos => decide (nm = "count") && (apos.endLine == cpos.line) && decide (es.length ≤ SZ) && chks B c es xs && chk B c e y
  | .rev a, .Subscript x (.Slice none none (some (.UnaryOp .USub (.Constant (.int i) _ _) _)) _) _ => decide (i = 1) && chk B c a x
  | .nset a, .Call (.Name x1 _) [.Call (.Name x2 _) [y] [] _] [] _ => isG c x1 && isG c x2 && decide (x1 = "len") && decide (x2 = "set") && chk B c a y
  | .isn neg a b, .Compare x [o] [y] _ => decide (o = inOp neg) && !isSet y && chk B c a x && chk B c b y
  | .eqm neg a b, .Compare x [o] [y] _ => decide (o = eqOp neg) && !isSet y && chk B c a x && chk B c b y
  | .dct, .Dict [] [] _ => true
  | .lstf a, .Call (.Name x _) [y] [] _ => isG c x && decide (x = "list") && chk B c a y
  | .cntl a e, .Call (.Attribute (.Name x np) nm apos) [y] [] cpos => decide (nm = "count") && (apos.endLine == cpos.line) && chk B c a (.Name x np) && chk B c e y
  | .lrg1 tp b, .Call (.Name x _) [.Call (.Name r _) [y] [] _] [] _ => isG c x && decide (x = rgName tp) && isG c r && decide (r = "range") && chk B c b y
  | .lrg2 tp a b, .Call (.Name x _) [.Call (.Name r _) [y, z] [] _] [] _ => isG c x && decide (x = rgName tp) && isG c r && decide (r = "range") && chk B c a y && chk B c b z
  | .cat _ a b, .BinOp x o y _ => opEq .add o && chk B c a x && chk B c b y
  | .tcat fl es, .Tuple xs _ _ => decide (es.length ≤ SZ) && chkss B c es fl xs
  | .tget n kvs e, .Subscript (.Name x _) y _ => decide (n = x) && isG c x && tabB B x kvs && plainIx y && chk B c e y
  | .tin neg n kvs e, .Compare y [o] [.Name x _] _ => decide (o = inOp neg) && decide (n = x) && isG c x && tabB B x kvs && chk B c e y
  | .tls n kvs, .Call (.Name f _) [.Name x _] [] _ => isG c f && decide (f = "list") && decide (n = x) && isG c x && tabB B x kvs
  | .dsp kvs, .Dict ks vs _ => decide (kvs.length ≤ 15) && !kvs.isEmpty && decide ((kvs.map (·.1)).Nodup) && dspB kvs ks vs
  | .dget a e, .Subscript x y _ => plainIx y && chk B c a x && chk B c e y
  | .rpt a b, .BinOp x o y _ => opEq .mul o && chk B c a x && chk B c b y
  | .dnew, .Dict [] [] _ => true
  | .dlen a, .Call (.Name x _) [y] [] _ => isG c x && decide (x = "len") && chk B c a y
  | .dsrt a, .Call (.Name x _) [y] [] _ => isG c x && decide (x = "sorted") && chk B c a y
  | .pop a e, .Call (.Attribute (.Name x np) nm apos) [y] [] cpos => decide (nm = "pop") && (apos.endLine == cpos.line) && chk B c a (.Name x np) && chk B c e y
  | .fnv y, .Name x _ => decide (y = x) && isG c x && (B.fid.lookup x).isSome
  | .callv tbl a es, .Call (.Name x _) xs [] _ => isVE c x a && tbl.all (fun p => decide (B.fid.lookup p.1 = some p.2)) && !xs.isEmpty && chks B c es xs
  | _, _ => false
termination_by structural e => e
/-- .. as a test -/
def chkT (B : Tb) (c : Ck) : E → Expr → Bool
  | .not a, .UnaryOp .Not x _ => chkT B c a x
  | .and a b, .BoolOp .And [x, y] _ => chkT B c a x && chkT B c b y
  | .and a b, .BoolOp .And (x :: y :: z :: r) p => chkT B c a x && chkT B c b (.BoolOp .And (y :: z :: r) p)
  | .or a b, .BoolOp .Or [x, y] _ => chkT B c a x && chkT B c b y
  | .or a b, .BoolOp .Or (x :: y :: z :: r) p => chkT B c a x && chkT B c b (.BoolOp .Or (y :: z :: r) p)
  | .cmp op a b, .Compare x [o] [y] _ => copEq op o && !isSet y && chk B c a x && chk B c b y
  | .cmp2 op op' a b d, .Compare x [o, o'] [y, z] _ => copEq op o && copEq op' o' && !isSet z && chk B c a x && chk B c b y && chk B c d z
  | .isn neg a b, .Compare x [o] [y] _ => decide (o = inOp neg) && !isSet y && chk B c a x && chk B c b y
  | .eqm neg a b, .Compare x [o] [y] _ => decide (o = eqOp neg) && !isSet y && chk B c a x && chk B c b y
  | .var i, .Name x _ => isV c x i
  | .idx a i, .Subscript x y _ => plainIx y && chk B c a x && chk B c i y
  | .call f es, .Call (.Name x _) xs [] _ => isG c x && decide (B.fid.lookup x = some f) && chks B c es xs
  | .callk f ord es, .Call (.Name x _) [] ks _ => isG c x && decide (B.fid.lookup x = some f) && ks.all (·.arg.isSome) && kwOk (B.ps f) ord (ks.filterMap (·.arg)) && decide (es.length ≤ SZ) && chks B c es (ks.map (·.value))
  | .bi b es, .Call (.Name x _) xs [] _ => isG c x && decide (x = biName b) && gcOk B b && !xs.isEmpty && chks B c es xs
  | .isi e t, .Call (.Name x _) [y, .Name z _] [] _ => isG c x && isG c z && decide (x = "isinstance") && decide (z = Str.ofString (tyName t)) && chk B c e y
  | .isi2 e ts, .Call (.Name x _) [y, .Tuple zs _ _] [] _ => isG c x && decide (x = "isinstance") && fewT ts && tysOk c ts zs && chk B c e y
  | _, _ => false
termination_by structural e => e
def chks (B : Tb) (c : Ck) : List E → List Expr → Bool
  | [], [] => true
  | e :: es, x :: xs => chk B c e x && chks B c es xs
  | _, _ => false
termination_by structural e => e
/-- .. some of them spread out -/
def chkss (B : Tb) (c : Ck) : List E → List Bool → List Expr → Bool
  | [], [], [] => true
  | e :: es, false :: fl, x :: xs => chk B c e x && chkss B c es fl xs
  | e :: es, true :: fl, .Starred x _ :: xs => chk B c e x && chkss B c es fl xs
  | _, _, _ => false
termination_by structural e => e
def chko (B : Tb) (c : Ck) : Option E → Option Expr → Bool
  | none, none => true
  | some e, some x => chk B c e x
  | _, _ => false
termination_by structural e => e
def chkc (B : Tb) (c : Ck) : Option E → List Expr → Bool
  | none, [] => true
  | some e, [x] => chkT B c e x
  | _, _ => false
termination_by structural e => e
/-- .. as what a loop with the target t walks -/
def chkI (B : Tb) (c : Ck) : E → Expr → Expr → Bool
  | .rng1 b, .Call (.Name x _) [y] [] _, _ => isG c x && decide (x = "range") && chk B c b y
  | .rng a b, .Call (.Name x _) [y, z] [] _, _ => isG c x && decide (x = "range") && chk B c a y && chk B c b z
  | .rngd es, .Call (.Name x _) [y, z, u] [] _, _ => isG c x && decide (x = "range") && chks B c es [y, z, u]
  | .zip a b, .Call (.Name x _) [y, z] [] _, .Tuple _ _ _ => isG c x && decide (x = "zip") && chk B c a y && chk B c b z
  | .enm a, .Call (.Name x _) [y] [] _, .Tuple _ _ _ => isG c x && decide (x = "enumerate") && chk B c a y
  | .var i, .Name x _, _ => isV c x i
  | .glb y d, .Name x _, _ => decide (y = x) && isG c x && (B.glb.any fun p => decide (p.1 = x) && sameD p.2 d)
  | .tup es, .Tuple xs _ _, _ => decide (es.length ≤ SZ) && chks B c es xs
  | .lst _ es, .List xs _, _ => decide (es.length ≤ SZ) && chks B c es xs
  | .call f es, .Call (.Name x _) xs [] _, _ => isG c x && decide (B.fid.lookup x = some f) && chks B c es xs
  | .callk f ord es, .Call (.Name x _) [] ks _, _ => isG c x && decide (B.fid.lookup x = some f) && ks.all (·.arg.isSome) && kwOk (B.ps f) ord (ks.filterMap (·.arg)) && decide (es.length ≤ SZ) && chks B c es (ks.map (·.value))
  | .idx a i, .Subscript x y _, _ => plainIx y && chk B c a x && chk B c i y
  | .slc a lo hi, .Subscript x (.Slice l h none _) _, _ => chk B c a x && chko B c lo l && chko B c hi h
  | .bin op a b, .BinOp x o y _, _ => opEq op o && chk B c a x && chk B c b y
  | .cat _ a b, .BinOp x o y _, _ => opEq .add o && chk B c a x && chk B c b y
  | _, _, _ => false
termination_by structural e => e
end
end FV
set_option Elab.async false
set_option linter.all false
set_option maxRecDepth 100000
set_option maxHeartbeats 4000000
/-! Sound3: an expression that is checked does what its tree says. -/
namespace FV
open PySem L2
abbrev XF : D → Store → Prop := fun _ _ => False
/-- a def's promise by the evaluator -/
def spE (K : PySem.W.Frag) (T : Nat → Option Fn) (n f : Nat) : Sp := fun vs H Q _ => ∃ m S k ds, HR K m S H ∧ RelDs K m H ds vs ∧ callw T n f ds S k XF ∧ Po K m H k Q
/-- keyword values, put in the parameters' order (no positional ones) -/
def gk {α : Type} (ord : List Nat) (us ws : List α) : List α := match us with
  | [] => ord.filterMap fun i => ws[i]?
  | _ => []
structure WOk (W : Wd) (T : Nat → Option Fn) (B : Tb) : Prop where
  fn : ∀ x f, B.fid.lookup x = some f → ∃ a fd, W.mg x = some (.ref a) ∧ (a = He.ga W.K x ∧ PySem.W.keepIn W.K (.ref a) = true) ∧ Binds W.K fd (B.ps f) [] ∧ (∀ ks ord, kwOk (B.ps f) ord ks = true → KBinds W.K fd (B.ps f) ks (gk ord) (gk ord)) ∧ FnG W.P W.w W.K W.mg W.base W.n a fd (B.ps f) (spE W.K T W.n f)
  bi : ∀ b, b ≠ Bi.gcd → W.mg (biName b) = none
  isi : W.mg "isinstance" = none
  set : W.mg "set" = none
  ty : ∀ t, W.mg (Str.ofString (tyName t)) = none
  range : W.mg "range" = none
  zip : W.mg "zip" = none
  enum : W.mg "enumerate" = none
  gcd : B.gcd = true → W.mg "gcd" = some (.builtin "math.gcd")
  glb : ∀ p ∈ B.glb, ∃ u v, W.mg p.1 = some u ∧ RelV v u ∧ ∀ m H, RelD W.K m H p.2 v
  tab : ∀ p ∈ B.tabs, ∃ a, W.mg p.1 = some (.ref a) ∧ KTab W.K W.w a (p.2.map (·.1)) ∧ ∀ q ∈ p.2, ∃ u v, PySem.W.nsIn W.K a q.1 = some (some u) ∧ RelV v u ∧ ∀ m H, RelD W.K m H q.2 v
def tE (W : Wd) (T : Nat → Option Fn) (e : E) : TE := fun vσ H Q => ∃ m σ S k, HR W.K m S H ∧ RS W.K m H σ vσ ∧ ev (callw T W.n) XF e false σ S k ∧ Po W.K m H k Q
def PoT (K : PySem.W.Frag) (m : Ms) (H : Hp) (k : D → Store → Prop) (Q : Bool → Hp → Prop) : Prop :=
  ∀ (d : D) (S' : Store) (m' : Ms) (H' : Hp), Ext m H m' H' → HR K m' S' H' → k d S' → ∃ b, d = .bl b ∧ Q b H'
def tT (W : Wd) (T : Nat → Option Fn) (e : E) : TT := fun vσ H Q => ∃ m σ S k, HR W.K m S H ∧ RS W.K m H σ vσ ∧ ev (callw T W.n) XF e true σ S k ∧ PoT W.K m H k Q
def PoS (n : Nat) (K : PySem.W.Frag) (m : Ms) (H : Hp) (k : List D → Store → Prop) (Q : List V → Hp → Prop) : Prop :=
  ∀ (ds : List D) (S' : Store) (m' : Ms) (vs : List V) (H' : Hp), Ext m H m' H' → HR K m' S' H' → RelDs K m' H' ds vs → ds.length = n → k ds S' → Q vs H'
def tA (W : Wd) (T : Nat → Option Fn) (es : List E) : TA := fun vσ H Q => ∃ m σ S k, HR W.K m S H ∧ RS W.K m H σ vσ ∧ evs (callw T W.n) XF es σ S k ∧ PoS es.length W.K m H k Q
def tO (W : Wd) (T : Nat → Option Fn) (e : Option E) : TO := fun vσ H Q => ∃ m σ S k, HR W.K m S H ∧ RS W.K m H σ vσ ∧ evo (callw T W.n) XF e σ S k ∧ ∀ o S' m' H', Ext m H m' H' → HR W.K m' S' H' → k o S' → Q o H'
def tI (W : Wd) (T : Nat → Option Fn) (e : E) : TI := fun vσ H R => ∃ (m : Ms) (σ : Env) (S : Store) (k : Gd → List D → Store → Prop), HR W.K m S H ∧ RS W.K m H σ vσ ∧ ev (callw T W.n) XF e false σ S (fun x S1 => itm x S1 fun g ds => k g ds S1) ∧
  ∀ g ds S' m' H' J, Ext m H m' H' → HR W.K m' S' H' → Src W.K m' H' J g ds → gdP g S' → k g ds S' → R J H'
theorem pe_imp {X : Cx} {e : Expr} {t t' : TE} (h : PE X e t) (w : ∀ σ H Q, t' σ H Q → t σ H Q) : PE X e t' := ⟨fun pins s σ H Q I q => h.run pins s σ H Q I (w _ _ _ q)⟩
theorem pt_imp {X : Cx} {e : Expr} {t t' : TT} (h : PT X e t) (w : ∀ σ H Q, t' σ H Q → t σ H Q) : PT X e t' := ⟨fun pins s σ H Q I q => h.run pins s σ H Q I (w _ _ _ q)⟩
theorem pw_imp {X : Cx} {e : Expr} {t t' : TT} (h : PW X e t) (w : ∀ σ H Q, t' σ H Q → t σ H Q) : PW X e t' := ⟨fun wh pins s σ H Q I q => h.run wh pins s σ H Q I (w _ _ _ q)⟩
theorem pa_imp {X : Cx} {e : List Expr} {t t' : TA} (h : PA X e t) (w : ∀ σ H Q, t' σ H Q → t σ H Q) : PA X e t' := ⟨fun pos pins s σ H Q I q => h.run pos pins s σ H Q I (w _ _ _ q)⟩
theorem po_imp {X : Cx} {e : Option Expr} {t t' : TO} (h : PO X e t) (w : ∀ σ H Q, t' σ H Q → t σ H Q) : PO X e t' := ⟨fun pins s σ H Q I q => h.run pins s σ H Q I (w _ _ _ q)⟩
theorem pi_imp {X : Cx} {tg e : Expr} {t t' : TI} (h : PI X tg e t) (w : ∀ σ H Q, t' σ H Q → t σ H Q) : PI X tg e t' := ⟨fun pins s σ H Q I q => h.run pins s σ H Q I (w _ _ _ q)⟩
theorem asB_of {k : Bool → Store → Prop} {d : D} {S : Store} (h : asB k d S) : ∃ b, d = .bl b ∧ k b S := by
  match d, h with
  | .bl b, h => exact ⟨b, rfl, h⟩
theorem asI_of {k : Int → Store → Prop} {d : D} {S : Store} (h : asI k d S) : ∃ b, d = .int b ∧ k b S := by
  match d, h with
  | .int b, h => exact ⟨b, rfl, h⟩
theorem relB {K : PySem.W.Frag} {m : Ms} {H : Hp} {b : Bool} {v : V} (r : RelD K m H (.bl b) v) : v = .bl b := by cases r; rfl
section
variable {W : Wd} {T : Nat → Option Fn} {B : Tb} {c : Ck} {X : Cx}
theorem At.hu (a : At W c X) : X.A.units + 65 < cLine := by
  have := a.room.un
  omega
theorem At.inC (a : At W c X) (s : Scope) (s0 : Shared) (H : Hp) (C : Addr) (cl : List (Str × Addr)) (fp : List Addr) : At W (inC c s) (X.blk s0 H s (compEnvC s cl C X.env) fp) := by
  refine ⟨a.prog, a.wd, a.k, a.mg, a.bs, a.N, a.nd, ?_, fun x h1 h2 => h1, a.calm, a.room, a.gd, rfl⟩
  show relS s X.env.scope = relS s c.sc
  rw [a.sc]
theorem chk_star {e : E} {x : Expr} {p : Pos} : chk B c e (.Starred x p) = false := by
  cases e <;> simp only [chk]
theorem star_cons {e : E} {x : Expr} {xs : List Expr} {env : PySem.Env} (h : chk B c e x = true) : starEach (x :: xs) env = (false, eval x env) :: starEach xs env := by
  cases x <;> first | rfl | (rw [chk_star] at h; cases h)
theorem star_any {pos : Pos} {env : PySem.Env} : ∀ {es : List E} {xs : List Expr}, chks B c es xs = true → (backTo pos (starEach xs env)).any (·.1) = false
  | [], [], _ => rfl
  | [], _ :: _, h => by simp only [chks] at h; cases h
  | _ :: _, [], h => by simp only [chks] at h; cases h
  | e :: es, x :: xs, h => by
    simp only [chks, Bool.and_eq_true] at h
    rw [star_cons h.1]
    show (false || (backTo pos (starEach xs env)).any (·.1)) = false
    rw [star_any h.2]
    rfl
theorem ev_leaf {C : Hd} {Y : D → Store → Prop} {e : E} {σ : Env} {S : Store} {k : D → Store → Prop} (h : leafE e = true) : ev C Y e true σ S k → ev C Y e false σ S (fun d S' => tv true d S' k) := by
  cases e <;> first | exact id | (cases h)
/-- a plain text as a test: its value's truth -/
theorem pt_leaf (a : At W c X) {e : E} {x : Expr} (hl : leafE e = true) (hx : leafX x = true) (he : PE X x (tE W T e)) : PT X x (tT W T e) := by
  refine pt_imp (pt_truth he (leafX_ok hx)) fun vσ H Q q => ?_
  obtain ⟨m, σ, S, k, hr, rs, he, po⟩ := q
  refine ⟨m, σ, S, _, hr, rs, ev_leaf hl he, fun d S' m' v H' x2 hr2 r2 h => ?_⟩
  obtain ⟨b, h1, h2⟩ := tru_pure (p := fun b => k (.bl b) S') r2 h
  obtain ⟨b', e, q⟩ := po _ _ _ _ x2 hr2 h2
  cases e
  rw [a.k]
  exact ⟨b, h1, q⟩
/-- two parts -/
theorem tOp_of {op : R2} {e1 e2 : E} {vσ : L2.St} {H : Hp} {Q : VK} {m : Ms} {σ : Env} {S : Store} {k : D → D → Store → Prop} (hr : HR W.K m S H) (rs : RS W.K m H σ vσ)
    (h : ev (callw T W.n) XF e1 false σ S fun x S1 => ev (callw T W.n) XF e2 false σ S1 fun y S2 => k x y S2)
    (q : ∀ x y S2 m2 H2 v w, Ext m H m2 H2 → HR W.K m2 S2 H2 → RelD W.K m2 H2 x v → RelD W.K m2 H2 y w → k x y S2 → op v w H2 Q) : tOp op (tE W T e1) (tE W T e2) vσ H Q :=
  ⟨m, σ, S, _, hr, rs, h, fun x S1 m1 v H1 x1 hr1 r1 h1 => ⟨m1, σ, S1, _, hr1, rs.mono x1, h1, fun y S2 m2 w H2 x2 hr2 r2 h2 => q x y S2 m2 H2 v w (x1.trans x2) hr2 (r1.mono x2) r2 h2⟩⟩
end
end FV
set_option Elab.async false
set_option linter.all false
set_option maxRecDepth 100000
set_option maxHeartbeats 4000000
/-! Sound4: comprehensions. -/
namespace FV
open PySem L2
def tC (W : Wd) (T : Nat → Option Fn) (e : Option E) : TT := fun vσ H Q => ∃ m σ S k, HR W.K m S H ∧ RS W.K m H σ vσ ∧ evt (callw T W.n) XF e σ S k ∧ ∀ b S' m' H', Ext m H m' H' → HR W.K m' S' H' → k b S' → Q b H'
section
variable {K : PySem.W.Frag} {m m' : Ms} {H H' : Hp} {S : Store}
theorem RS.monoG {σ : Env} {vσ : L2.St} (x : Gr m H m' H') (r : RS K m H σ vσ) : RS K m' H' σ vσ := ⟨r.len, fun i d e => let ⟨v, h1, h2⟩ := r.at_ i d e; ⟨v, h1, h2.monoG x⟩⟩
/-- a list has been built: it is hidden no longer -/
theorem HR.out_of {n : Ms} {p : Addr} {x : List Addr} (h : HR K n S H) (e : n.x = p :: x) : HR K ⟨n.c, x, n.k⟩ S H ∧ ∀ {ds vs}, RelDs K n H ds vs → RelDs K ⟨n.c, x, n.k⟩ H ds vs := by
  have mv : ∀ {ds vs}, RelDs K n H ds vs → RelDs K ⟨n.c, x, n.k⟩ H ds vs := fun r => RelDs.move (m := n) (n := ⟨n.c, x, n.k⟩) (fun _ _ _ z => z) (fun a vs _ z => ⟨z.1, fun q => z.2 (by rw [e]; exact List.mem_cons_of_mem _ q)⟩) r
  refine ⟨⟨h.len, h.nd, h.kln, fun l ds a e1 e2 => ?_, fun l ds a e1 e2 => let ⟨xs, d1, d2, q, r⟩ := h.dat l ds a e1 e2; ⟨xs, d1, d2, q, mv r⟩, fun a ha => h.hid a (by rw [e]; exact List.mem_cons_of_mem _ ha)⟩, mv⟩
  obtain ⟨vs, q, r⟩ := h.at_ l ds a e1 e2
  exact ⟨vs, q, mv r⟩
theorem HR.cell_of {n : Ms} {p : Addr} {x : List Addr} (h : HR K n S H) (e : n.x = p :: x) (hx : p ∉ x) {ds : List D} {vs : List V} (hp : H p = some (.lst vs)) (r : RelDs K n H ds vs) :
    HR K ⟨n.c ++ [p], x, n.k ++ [false]⟩ (S ++ [ds]) H := by
  have np : p ∉ n.c := (h.hid p (by rw [e]; exact List.mem_cons_self)).1
  have mv : ∀ {ds vs}, RelDs K n H ds vs → RelDs K ⟨n.c ++ [p], x, n.k ++ [false]⟩ H ds vs := fun r => r.move (fun l a b z => by
      show (n.c ++ [p])[l]? = some a ∧ (n.k ++ [false])[l]? = some b
      rw [List.getElem?_append_left (List.getElem?_eq_some_iff.mp z.1).1, List.getElem?_append_left (List.getElem?_eq_some_iff.mp z.2).1]; exact z) fun a vs _ z => ⟨fun q => by
        rcases List.mem_append.mp q with q | q
        · exact z.1 q
        · simp at q
          exact z.2 (by rw [e, q]; exact List.mem_cons_self), fun q => z.2 (by rw [e]; exact List.mem_cons_of_mem _ q)⟩
  have old : ∀ {l : Nat} {es : List D} {a : Addr} {c : Bool}, cl (S ++ [ds]) l = some es → (n.c ++ [p])[l]? = some a → (n.k ++ [false])[l]? = some c → (cl S l = some es ∧ n.c[l]? = some a ∧ n.k[l]? = some c) ∨ (es = ds ∧ a = p ∧ c = false) := by
    intro l es a c e1 e2 e3
    rw [cl_get] at e1
    by_cases hl : l < S.length
    · left
      rw [List.getElem?_append_left hl] at e1
      rw [List.getElem?_append_left (by rw [h.len]; exact hl)] at e2
      rw [List.getElem?_append_left (by rw [h.kln]; exact hl)] at e3
      exact ⟨by rw [cl_get]; exact e1, e2, e3⟩
    · have hl2 : l = S.length := by
        have := (List.getElem?_eq_some_iff.mp e1).1
        rw [List.length_append] at this
        simp at this
        omega
      subst hl2
      right
      rw [List.getElem?_append_right (Nat.le_refl _)] at e1
      rw [← h.len, List.getElem?_append_right (Nat.le_refl _)] at e2
      rw [← h.kln, List.getElem?_append_right (Nat.le_refl _)] at e3
      simp at e1 e2 e3
      exact ⟨e1.symm, e2.symm, by simpa using e3⟩
  refine ⟨?_, ?_, ?_, fun l es a e1 e2 => ?_, fun l es a e1 e2 => ?_, fun a ha => ?_⟩
  · show (n.c ++ [p]).length = _
    rw [List.length_append, List.length_append, h.len]; rfl
  · show (n.c ++ [p]).Nodup
    rw [List.nodup_append]
    refine ⟨h.nd, by simp, fun a ha b hb => ?_⟩
    simp at hb
    intro z
    subst hb z
    exact np ha
  · show (n.k ++ [false]).length = _
    rw [List.length_append, List.length_append, h.kln]; rfl
  · rcases old e1 e2.1 e2.2 with ⟨f1, f2, f3⟩ | ⟨f1, f2, f3⟩
    · obtain ⟨ws, q, r'⟩ := h.at_ l es a f1 ⟨f2, f3⟩
      exact ⟨ws, q, mv r'⟩
    · subst f1 f2
      exact ⟨vs, hp, mv r⟩
  · rcases old e1 e2.1 e2.2 with ⟨f1, f2, f3⟩ | ⟨f1, f2, f3⟩
    · obtain ⟨xs, d1, d2, q, rr⟩ := h.dat l es a f1 ⟨f2, f3⟩
      exact ⟨xs, d1, d2, q, mv rr⟩
    · cases f3
  · obtain ⟨z1, z2⟩ := h.hid a (by rw [e]; exact List.mem_cons_of_mem _ ha)
    refine ⟨fun q => ?_, z2⟩
    rcases List.mem_append.mp (show a ∈ n.c ++ [p] from q) with q | q
    · exact z1 q
    · simp at q
      subst q
      exact hx ha
end
theorem folded {i : Expr} {env : PySem.Env} (h : isSet i = false) : ∀ x, foldedSetIterable i env x = pure x := by
  intro x
  cases i <;> first | rfl | (cases h)
/-- a comprehension at its i-th turn -/
def LcW (K : PySem.W.Frag) (m1 : Ms) (H1 : Hp) (p : Addr) (g : Gd) (one : D → Store → (List D → Store → Prop) → Prop) (ds : List D) (KK : List D → Store → Prop) (i μ : Nat) (H2 : Hp) : Prop :=
  μ = ds.length - i ∧ i ≤ ds.length ∧ ∃ (n : Ms) (S : Store) (ad : List D) (av : List V), Gr m1 H1 n H2 ∧ n.x = p :: m1.x ∧ HR K n S H2 ∧ H2 p = some (.lst av) ∧ RelDs K n H2 ad av ∧ ad.length ≤ i ∧
    forC g one (ds.drop i) S (fun zs S => KK (ad ++ zs) S)
section
variable {W : Wd} {T : Nat → Option Fn} {B : Tb} {c : Ck} {X : Cx}
theorem own_snd (own : List Nat) : (ownN c own).map (·.2) = own := by
  unfold ownN
  rw [List.map_map]
  exact List.map_id _
/-- the end of a comprehension -/
theorem lc_end {K : PySem.W.Frag} {m1 n : Ms} {H1 H2 : Hp} {S1 S : Store} {p : Addr} {fr : Bool} {ad : List D} {av : List V} {k : D → Store → Prop} {Q : VK} (hr1 : HR K m1 S1 H1) (hp : H1 p = none) (gr : Gr m1 H1 n H2) (e : n.x = p :: m1.x) (hr : HR K n S H2)
    (hp2 : H2 p = some (.lst av)) (r : RelDs K n H2 ad av) (h : mk fr ad S k) (po : Po K m1 H1 k Q) : Q (.ref p) H2 := by
  obtain ⟨hr', mv⟩ := hr.out_of e
  have np : p ∉ n.c := (hr.hid p (by rw [e]; exact List.mem_cons_self)).1
  have nx : p ∉ m1.x := (hr1.out hp).2
  cases fr with
  | false => exact po (.lst ad) S ⟨n.c, m1.x, n.k⟩ _ _ ⟨gr.keep, gr.grow, gr.kin, rfl, gr.dom⟩ hr' (.lst hp2 ⟨np, nx⟩ (mv r)) h
  | true =>
    obtain ⟨t, et, ft⟩ := gr.grow
    refine po (.ref S.length) (S ++ [ad]) ⟨n.c ++ [p], m1.x, n.k ++ [false]⟩ _ _ ⟨gr.keep, ⟨t ++ [p], by rw [← List.append_assoc, ← et], fun q hq => ?_⟩, kin_tr gr.kin ⟨[false], rfl⟩, rfl, gr.dom⟩ (hr.cell_of e nx hp2 r) (.ref (hr.new_at false)) h
    · rcases List.mem_append.mp hq with z | z
      · exact ft q z
      · simp at z; rw [z]; exact hp
/-- an item has been made -/
theorem lc_app {K : PySem.W.Frag} {m1 n n4 : Ms} {H1 H2 H4 : Hp} {S S4 : Store} {p : Addr} {ad : List D} {av : List V} {z : D} {v : V} (hp : H1 p = none) (gr : Gr m1 H1 n H2) (e : n.x = p :: m1.x) (hr : HR K n S H2) (hp2 : H2 p = some (.lst av)) (r : RelDs K n H2 ad av)
    (x4 : Ext n H2 n4 H4) (hr4 : HR K n4 S4 H4) (r4 : RelD K n4 H4 z v) :
    H4 p = some (.lst av) ∧ Gr m1 H1 n4 (upd H4 p (.lst (av ++ [v]))) ∧ n4.x = p :: m1.x ∧ HR K n4 S4 (upd H4 p (.lst (av ++ [v]))) ∧ RelDs K n4 (upd H4 p (.lst (av ++ [v]))) (ad ++ [z]) (av ++ [v]) := by
  have np : p ∉ n.c := (hr.hid p (by rw [e]; exact List.mem_cons_self)).1
  obtain ⟨h4, _⟩ := x4.fix hp2 np
  have e4 : n4.x = p :: m1.x := x4.hid.trans e
  have px : p ∈ n4.x := by rw [e4]; exact List.mem_cons_self
  have g4 := gr.trans x4.gr
  refine ⟨h4, ⟨fun a o ea c => ?_, g4.grow, g4.kin, g4.hid, fun a ha => ?_⟩, e4, hr4.hide h4 px _, (((r.mono x4).append (.cons r4 .nil)).hide h4 px _)⟩
  · rw [upd_ne (ne_of_none ea hp)]; exact g4.keep a o ea c
  · by_cases q : a = p
    · subst q; rw [upd_same]; simp
    · rw [upd_ne q]; exact g4.dom a ha
theorem pts_none {X' : Cx} : PTs X' [] (tC W T none) := by
  refine ⟨fun pins s σ H Q I q => pts_nil.run pins s σ H Q I ?_⟩
  obtain ⟨m, σ', S, k, hr, rs, h, po⟩ := q
  exact po _ _ _ _ .refl hr h
theorem pts_some {X' : Cx} {e : E} {y : Expr} (ht : PT X' y (tT W T e)) : PTs X' [y] (tC W T (some e)) := by
  refine ⟨fun pins s σ H Q I q => (pts_one ht).run pins s σ H Q I ?_⟩
  obtain ⟨m, σ', S, k, hr, rs, h, po⟩ := q
  refine ⟨m, σ', S, _, hr, rs, h, fun d S' m' H' x2 hr2 h2 => ?_⟩
  obtain ⟨b, e, h3⟩ := asB_of h2
  exact ⟨b, e, po b _ _ _ x2 hr2 h3⟩
theorem lc_read (hA : At W c X) {fr : Bool} {own : List Nat} {p : Pt} {it elt : E} {cond : Option E} (hv : ∀ j ∈ varsP p, j ∈ own) {vσ : L2.St} {H : Hp} {Q : VK} (q : tE W T (.lc fr own p it cond elt) vσ H Q) :
    tLc (tI W T it) (tP W.K p) (tC W T cond) (tE W T elt) ((ownN c own).map (·.2)) vσ H Q := by
  rw [own_snd]
  obtain ⟨m, σ, S, k, hr, rs, hev, po⟩ := q
  refine ⟨m, σ, S, _, hr, rs, hev, fun g ds S1 m1 H1 J x1 hr1 src hg h D hD => ?_⟩
  obtain ⟨hsz, h⟩ := h
  generalize hone : (fun (y : FV.D) (S2 : Store) (k2 : List FV.D → Store → Prop) => (match bindP p y (wp0 σ own) with
        | some σ' => evt (callw T W.n) XF cond σ' S2 fun b S3 => brk b (ev (callw T W.n) XF elt false σ' S3 fun z S4 => k2 [z] S4) (k2 [] S3)
        | none => False)) = one at h
  generalize hKK : (fun (zs : List FV.D) (S5 : Store) => mk fr zs S5 fun d S6 => tv false d S6 k) = KK at h
  refine ⟨LcW W.K m1 H1 D g one ds KK, ⟨ds.length, by omega, Nat.zero_le _, ⟨m1.c, D :: m1.x, m1.k⟩, S1, [], [], gr_begin hD, rfl, hr1.begin hD, upd_same, .nil, Nat.le_refl _, h⟩, fun j μ H2 hw => ?_⟩
  obtain ⟨eμ, hj, n, S2, ad, av, gr, ex, hr2, hp2, r2, hl2, h2⟩ := hw
  by_cases hlt : j < ds.length
  · right
    rw [List.drop_eq_getElem_cons hlt] at h2
    obtain ⟨hg2, h2⟩ := gdo_of h2
    obtain ⟨go, yl⟩ := (src n S2 H2 gr.gh hr2 hg2).1 j _ (List.getElem?_eq_getElem hlt)
    refine ⟨go, LcW W.K m1 H1 D g one ds KK (j + 1) (ds.length - (j + 1)), fun H' hn => ⟨_, by omega, hn⟩, fun y H3 hy => ?_⟩
    obtain ⟨x3, hr3, r3⟩ := yl y H3 hy
    rw [← hone] at h2
    dsimp only at h2
    split at h2
    · rename_i σ' eb
      have rs3 : RS W.K n H3 (wp0 σ own) (L2.wipe vσ own) := (rs.monoG ((x1.gr.trans gr).trans x3.gr)).wipe own
      refine ⟨n, wp0 σ own, _, σ', rs3, r3, eb, fun vσ' rs' si => ⟨?_, ?_⟩⟩
      · rw [si.wipe hv]
        apply List.ext_getElem?
        intro i
        rw [wipe_get, wipe_get, L2.wipe_length]
        split
        · rfl
        · rfl
      · refine ⟨n, σ', S2, _, hr3, rs', h2, fun b S4 n4 H4 x4 hr4 h4 => ?_⟩
        have h4 := brk_c h4
        cases b with
        | true =>
          simp only [if_true] at h4 ⊢
          refine ⟨n4, σ', S4, _, hr4, rs'.mono x4, h4, fun z S5 n5 v H5 x5 hr5 r5 h5 => ?_⟩
          obtain ⟨q1, q2, q3, q4, q5⟩ := lc_app hD gr ex hr2 hp2 r2 ((x3.trans x4).trans x5) hr5 r5
          refine ⟨av, q1, ?_, rfl, hlt, n5, S5, ad ++ [z], av ++ [v], q2, q3, q4, upd_same, q5, by rw [List.length_append]; simp; omega, ?_⟩
          · rw [← r2.length]; exact sz_lt (by omega)
          · rw [hone] at h5
            simp only [List.append_assoc]
            exact h5
        | false =>
          simp only [Bool.false_eq_true, if_false] at h4 ⊢
          have x24 := x3.trans x4
          have np : D ∉ n.c := (hr2.hid D (by rw [ex]; exact List.mem_cons_self)).1
          refine ⟨rfl, hlt, n4, S4, ad, av, gr.trans x24.gr, x24.hid.trans ex, hr4, (x24.fix hp2 np).1, r2.mono x24, by omega, ?_⟩
          rw [hone] at h4
          exact h4
    · exact h2.elim
  · left
    have ej : j = ds.length := by omega
    rw [ej, List.drop_length] at h2
    obtain ⟨hg2, h2⟩ := gdo_of h2
    refine ⟨(src n S2 H2 gr.gh hr2 hg2).2 j (by omega), ?_⟩
    rw [← hKK] at h2
    rw [List.append_nil] at h2
    exact lc_end hr1 hD gr ex hr2 hp2 r2 h2 (po.ext x1)
theorem lc_ok (a : At W c X) {fr : Bool} {own : List Nat} {p : Pt} {it elt : E} {cond : Option E} {x t i : Expr} {ifs : List Expr} {s : Scope} {pos : Pos} (hb : blkC c.N c.sc s (ownN c own) = true) (hset : isSet i = false)
    (hp : chkP (inC c s) p t = true) (hv : ∀ j ∈ varsP p, j ∈ own) (hi : PI X t i (tI W T it)) (hc : ∀ X', At W (inC c s) X' → PTs X' ifs (tC W T cond)) (he : ∀ X', At W (inC c s) X' → PE X' x (tE W T elt)) :
    PE X (.ListComp x [⟨t, i, ifs, 0⟩] s pos) (tE W T (.lc fr own p it cond elt)) := by
  refine pe_imp (pe_lc (own := ownN c own) a.calm (by rw [a.N]; exact a.nd) hi (blkOk_by (by rw [a.N, a.sc]; exact hb)) (fun s0 H C cl fp => pgP (a.inC s s0 H C cl fp) p t hp) (fun s0 H C cl fp => hc _ (a.inC s s0 H C cl fp)) (fun s0 H C cl fp => he _ (a.inC s s0 H C cl fp)) (folded hset)) fun vσ H Q q => lc_read a hv q
/-- a comprehension of two loops at the i-th turn of one of them -/
def LcV (K : PySem.W.Frag) (m1 : Ms) (H1 : Hp) (nb : Ms) (Hb : Hp) (p : Addr) (g : Gd) (one : D → Store → (List D → Store → Prop) → Prop) (ds : List D) (KK : List D → Store → Prop) (b c i μ : Nat) (H2 : Hp) : Prop :=
  μ = ds.length - i ∧ i ≤ ds.length ∧ ∃ (n : Ms) (S : Store) (ad : List D) (av : List V), Gr m1 H1 n H2 ∧ Gh nb Hb n H2 ∧ n.x = p :: m1.x ∧ HR K n S H2 ∧ H2 p = some (.lst av) ∧ RelDs K n H2 ad av ∧ ad.length ≤ b + c * i ∧
    forC g one (ds.drop i) S (fun zs S => KK (ad ++ zs) S)
theorem RS.monoH {K : PySem.W.Frag} {m m' : Ms} {H H' : Hp} {σ : Env} {vσ : L2.St} (x : Gh m H m' H') (r : RS K m H σ vσ) : RS K m' H' σ vσ := ⟨r.len, fun i d e => let ⟨v, h1, h2⟩ := r.at_ i d e; ⟨v, h1, h2.monoH x⟩⟩
theorem wipe_idem (vσ : L2.St) (own : List Nat) : L2.wipe (L2.wipe vσ own) own = L2.wipe vσ own := by
  apply List.ext_getElem?
  intro i
  rw [wipe_get, wipe_get, L2.wipe_length]
  split
  · rfl
  · rfl
theorem lc2_read (hA : At W c X) {fr : Bool} {own own2 : List Nat} {p p2 : Pt} {it it2 elt : E} {cond cond2 : Option E} (hv : ∀ j ∈ varsP p, j ∈ own) (hv2 : ∀ j ∈ varsP p2, j ∈ own2) {vσ : L2.St} {H : Hp} {Q : VK} (q : tE W T (.lc2 fr own p it cond own2 p2 it2 cond2 elt) vσ H Q) :
    tLc2 (tI W T it) (tP W.K p) (tC W T cond) (tI W T it2) (tP W.K p2) (tC W T cond2) (tE W T elt) ((ownN c own).map (·.2)) own2 vσ H Q := by
  rw [own_snd]
  obtain ⟨m, σ, S, k, hr, rs, hev, po⟩ := q
  refine ⟨m, σ, S, _, hr, rs, hev, fun g ds S1 m1 H1 J x1 hr1 src hg h D hD => ?_⟩
  obtain ⟨hsz, h⟩ := h
  generalize hone : (fun (y : FV.D) (S2 : Store) (k2 : List FV.D → Store → Prop) => (match bindP p y (wp0 σ own) with
        | some σ' => evt (callw T W.n) XF cond σ' S2 fun b S3 => brk b (ev (callw T W.n) XF it2 false σ' S3 fun x2 S4 => itm x2 S4 fun g2 ds2 => ds2.length ≤ 1000 ∧
            forC g2 (fun y2 S5 k3 => (match bindP p2 y2 (wp0 σ' own2) with
              | some σ'' => evt (callw T W.n) XF cond2 σ'' S5 fun b2 S6 => brk b2 (ev (callw T W.n) XF elt false σ'' S6 fun z S7 => k3 [z] S7) (k3 [] S6)
              | none => False)) ds2 S4 k2) (k2 [] S3)
        | none => False)) = one at h
  generalize hKK : (fun (zs : List FV.D) (S5 : Store) => mk fr zs S5 fun d S6 => tv false d S6 k) = KK at h
  refine ⟨LcV W.K m1 H1 m1 H1 D g one ds KK 0 1000, ⟨ds.length, by omega, Nat.zero_le _, ⟨m1.c, D :: m1.x, m1.k⟩, S1, [], [], gr_begin hD, (gr_begin hD).gh, rfl, hr1.begin hD, upd_same, .nil, Nat.zero_le _, h⟩, fun j μ H2 hw => ?_⟩
  obtain ⟨eμ, hj, n, S2, ad, av, gr, _, ex, hr2, hp2, r2, hl2, h2⟩ := hw
  have np : D ∉ n.c := (hr2.hid D (by rw [ex]; exact List.mem_cons_self)).1
  by_cases hlt : j < ds.length
  · right
    rw [List.drop_eq_getElem_cons hlt] at h2
    obtain ⟨hg2, h2⟩ := gdo_of h2
    obtain ⟨go, yl⟩ := (src n S2 H2 gr.gh hr2 hg2).1 j _ (List.getElem?_eq_getElem hlt)
    refine ⟨go, LcV W.K m1 H1 m1 H1 D g one ds KK 0 1000 (j + 1) (ds.length - (j + 1)), fun H' hn => ⟨_, by omega, hn⟩, fun y H3 hy => ?_⟩
    obtain ⟨x3, hr3, r3⟩ := yl y H3 hy
    rw [← hone] at h2
    dsimp only at h2
    split at h2
    · rename_i σ' eb
      have rs3 : RS W.K n H3 (wp0 σ own) (L2.wipe vσ own) := (rs.monoG ((x1.gr.trans gr).trans x3.gr)).wipe own
      refine ⟨n, wp0 σ own, _, σ', rs3, r3, eb, fun vσ' rs' si => ⟨by rw [si.wipe hv]; exact wipe_idem _ _, ?_⟩⟩
      refine ⟨n, σ', S2, _, hr3, rs', h2, fun b S4 n4 H4 x4 hr4 h4 => ?_⟩
      have h4 := brk_c h4
      cases b with
      | true =>
        simp only [if_true] at h4 ⊢
        refine ⟨n4, σ', S4, _, hr4, rs'.mono x4, h4, fun g2 ds2 S5 n5 H5 J1 x5 hr5 src2 hgd2 h5 => ?_⟩
        obtain ⟨hsz2, h5⟩ := h5
        rw [hone] at h5
        generalize hone2 : (fun (y2 : FV.D) (S5 : Store) (k3 : List FV.D → Store → Prop) => (match bindP p2 y2 (wp0 σ' own2) with
              | some σ'' => evt (callw T W.n) XF cond2 σ'' S5 fun b2 S6 => brk b2 (ev (callw T W.n) XF elt false σ'' S6 fun z S7 => k3 [z] S7) (k3 [] S6)
              | none => False)) = one2 at h5
        have x25 := (x3.trans x4).trans x5
        have hp5 := (x25.fix hp2 np).1
        have ex5 : n5.x = D :: m1.x := x25.hid.trans ex
        have mem5 : D ∈ n5.x := by rw [ex5]; exact List.mem_cons_self
        have rs5 : RS W.K n5 H5 σ' vσ' := rs'.mono (x4.trans x5)
        simp only [← List.append_assoc] at h5
        refine ⟨LcV W.K m1 H1 n5 H5 D g2 one2 ds2 (fun L S => forC g one (ds.drop (j + 1)) S fun zs S2 => KK (L ++ zs) S2) (1000 * j) 1, ⟨ds2.length, by omega, Nat.zero_le _, n5, S5, ad, av, gr.trans x25.gr, (Ext.refl).gr.gh, ex5, hr5, hp5, r2.mono x25, by omega, h5⟩, fun i2 μ2 H6 hw6 => ?_⟩
        obtain ⟨eμ6, hj6, n6, S6, ad6, av6, gr6, gh6, ex6, hr6, hp6, r6, hl6, h6⟩ := hw6
        have np6 : D ∉ n6.c := (hr6.hid D (by rw [ex6]; exact List.mem_cons_self)).1
        by_cases hlt2 : i2 < ds2.length
        · right
          rw [List.drop_eq_getElem_cons hlt2] at h6
          obtain ⟨hg6, h6⟩ := gdo_of h6
          obtain ⟨go2, yl2⟩ := (src2 n6 S6 H6 gh6 hr6 hg6).1 i2 _ (List.getElem?_eq_getElem hlt2)
          refine ⟨go2, LcV W.K m1 H1 n5 H5 D g2 one2 ds2 (fun L S => forC g one (ds.drop (j + 1)) S fun zs S2 => KK (L ++ zs) S2) (1000 * j) 1 (i2 + 1) (ds2.length - (i2 + 1)), fun H' hn => ⟨_, by omega, hn⟩, fun y2 H7 hy2 => ?_⟩
          obtain ⟨x7, hr7, r7⟩ := yl2 y2 H7 hy2
          rw [← hone2] at h6
          dsimp only at h6
          split at h6
          · rename_i σ'' eb2
            have rs7 : RS W.K n6 H7 (wp0 σ' own2) (L2.wipe vσ' own2) := (rs5.monoH (gh6.trans x7.gr.gh)).wipe own2
            refine ⟨n6, wp0 σ' own2, _, σ'', rs7, r7, eb2, fun vσ'' rs'' si2 => ⟨by rw [si2.wipe hv2]; exact wipe_idem _ _, ?_⟩⟩
            refine ⟨n6, σ'', S6, _, hr7, rs'', h6, fun b2 S8 n8 H8 x8 hr8 h8 => ?_⟩
            have h8 := brk_c h8
            cases b2 with
            | true =>
              simp only [if_true] at h8 ⊢
              refine ⟨n8, σ'', S8, _, hr8, rs''.mono x8, h8, fun z S9 n9 v H9 x9 hr9 r9 h9 => ?_⟩
              have x69 := (x7.trans x8).trans x9
              obtain ⟨q1, q2, q3, q4, q5⟩ := lc_app hD gr6 ex6 hr6 hp6 r6 x69 hr9 r9
              refine ⟨av6, q1, ?_, rfl, hlt2, n9, S9, ad6 ++ [z], av6 ++ [v], q2, (gh6.trans x69.gr.gh).upd mem5 ⟨_, hp5⟩, q3, q4, upd_same, q5, by rw [List.length_append]; simp; omega, ?_⟩
              · rw [← r6.length]; exact sz_lt (by unfold SZ; omega)
              · rw [hone2] at h9
                simp only [List.append_assoc] at h9 ⊢
                exact h9
            | false =>
              simp only [Bool.false_eq_true, if_false] at h8 ⊢
              have x68 := x7.trans x8
              refine ⟨rfl, hlt2, n8, S8, ad6, av6, gr6.trans x68.gr, gh6.trans x68.gr.gh, x68.hid.trans ex6, hr8, (x68.fix hp6 np6).1, r6.mono x68, by omega, ?_⟩
              rw [hone2] at h8
              exact h8
          · exact h6.elim
        · left
          have ej2 : i2 = ds2.length := by omega
          rw [ej2, List.drop_length] at h6
          obtain ⟨hg6, h6⟩ := gdo_of h6
          refine ⟨(src2 n6 S6 H6 gh6 hr6 hg6).2 i2 (by omega), rfl, hlt, n6, S6, ad6, av6, gr6, gr6.gh, ex6, hr6, hp6, r6, by omega, ?_⟩
          rw [List.append_nil] at h6
          exact h6
      | false =>
        simp only [Bool.false_eq_true, if_false] at h4 ⊢
        have x24 := x3.trans x4
        refine ⟨rfl, hlt, n4, S4, ad, av, gr.trans x24.gr, (gr.trans x24.gr).gh, x24.hid.trans ex, hr4, (x24.fix hp2 np).1, r2.mono x24, by omega, ?_⟩
        rw [hone] at h4
        exact h4
    · exact h2.elim
  · left
    have ej : j = ds.length := by omega
    rw [ej, List.drop_length] at h2
    obtain ⟨hg2, h2⟩ := gdo_of h2
    refine ⟨(src n S2 H2 gr.gh hr2 hg2).2 j (by omega), ?_⟩
    rw [← hKK] at h2
    rw [List.append_nil] at h2
    exact lc_end hr1 hD gr ex hr2 hp2 r2 h2 (po.ext x1)
theorem lc2_ok (a : At W c X) {fr : Bool} {own own2 : List Nat} {p p2 : Pt} {it it2 elt : E} {cond cond2 : Option E} {x t i t2 i2 : Expr} {ifs ifs2 : List Expr} {s : Scope} {pos : Pos} (hb : blkC c.N c.sc s (ownN c own) = true) (hset : isSet i = false) (hset2 : isSet i2 = false)
    (hp : chkP (inC c s) p t = true) (hv : ∀ j ∈ varsP p, j ∈ own) (hp2 : chkP (inC c s) p2 t2 = true) (hv2 : ∀ j ∈ varsP p2, j ∈ own2) (ho : ∀ j ∈ own2, j ∈ own) (hi : PI X t i (tI W T it)) (hc : ∀ X', At W (inC c s) X' → PTs X' ifs (tC W T cond)) (hi2 : ∀ X', At W (inC c s) X' → PI X' t2 i2 (tI W T it2)) (hc2 : ∀ X', At W (inC c s) X' → PTs X' ifs2 (tC W T cond2)) (he : ∀ X', At W (inC c s) X' → PE X' x (tE W T elt)) :
    PE X (.ListComp x [⟨t, i, ifs, 0⟩, ⟨t2, i2, ifs2, 0⟩] s pos) (tE W T (.lc2 fr own p it cond own2 p2 it2 cond2 elt)) := by
  refine pe_imp (pe_lc2 (own := ownN c own) (vs1 := own2) a.calm (by rw [a.N]; exact a.nd) hi (blkOk_by (by rw [a.N, a.sc]; exact hb)) (by rw [own_snd]; exact ho) (fun s0 H C cl fp => pgP (a.inC s s0 H C cl fp) p t hp) (fun s0 H C cl fp => hc _ (a.inC s s0 H C cl fp)) (fun s0 H C cl fp => hi2 _ (a.inC s s0 H C cl fp)) (fun s0 H C cl fp => pgP (a.inC s s0 H C cl fp) p2 t2 hp2) (fun s0 H C cl fp => hc2 _ (a.inC s s0 H C cl fp)) (fun s0 H C cl fp => he _ (a.inC s s0 H C cl fp)) (folded hset) (fun env x => folded (env := env) hset2 x)) fun vσ H Q q => lc2_read a hv hv2 q
end
end FV
set_option Elab.async false
set_option linter.all false
set_option maxRecDepth 100000
set_option maxHeartbeats 4000000
/-! Sound5: expressions, one form at a time. -/
namespace FV
open PySem L2
section
variable {W : Wd} {T : Nat → Option Fn} {B : Tb} {c : Ck} {X : Cx} {x y z : Expr} {a b e : E} {pos : Pos}
theorem var_ok (hA : At W c X) {i : Nat} {n : Str} (h : isV c n i = true) : PE X (.Name n pos) (tE W T (.var i)) := by
  obtain ⟨h1, h2, h3, h4⟩ := hA.vis h
  refine pe_imp (pe_var h1 h2 h3 h4) fun vσ H Q q => ?_
  obtain ⟨m, σ, S, k, hr, rs, h, po⟩ := q
  have h : (match lk σ i with | some d => tv false d S k | none => False) := h
  split at h
  · rename_i d e
    obtain ⟨v, g1, g2⟩ := rs.at_ i d e
    exact ⟨v, g1, po.done hr g2 h⟩
  · exact h.elim
theorem cst_ok {d : D} {k : Const} {j : Nat} (h : cstB d k = true) : PE X (.Constant k j pos) (tE W T (.cst d)) := by
  cases d <;> cases k <;> try (exact absurd (show false = true from h) Bool.false_ne_true)
  · exact pe_imp pe_non fun vσ H Q ⟨m, σ, S, k, hr, rs, h, po⟩ => po.done hr .non h
  · rename_i b b'
    have e : b = b' := eq_of_beq h
    subst e
    exact pe_imp pe_bl fun vσ H Q ⟨m, σ, S, k, hr, rs, h, po⟩ => po.done hr (.bl _) h
  · rename_i i j
    have e : i = j := of_decide_eq_true h
    subst e
    exact pe_imp pe_int fun vσ H Q ⟨m, σ, S, k, hr, rs, h, po⟩ => po.done hr (.int _) h
  · rename_i i j
    have e : i = j := of_decide_eq_true h
    subst e
    exact pe_imp pe_str fun vσ H Q ⟨m, σ, S, k, hr, rs, h, po⟩ => po.done hr (.str _) h
theorem glb_ok (w : WOk W T B) (hA : At W c X) {n n' : Str} {d : D} (h : (decide (n' = n) && isG c n && (B.glb.any fun p => decide (p.1 = n) && sameD p.2 d)) = true) : PE X (.Name n pos) (tE W T (.glb n' d)) := by
  simp only [Bool.and_eq_true] at h
  obtain ⟨⟨_, h1⟩, h2⟩ := h
  obtain ⟨p, hp, h3⟩ := List.any_eq_true.mp h2
  simp only [Bool.and_eq_true, decide_eq_true_eq] at h3
  obtain ⟨u, v, g1, g2, g3⟩ := w.glb p hp
  obtain ⟨G1, G2⟩ := hA.gl h1
  have ed := sameD_eq _ _ h3.2
  refine pe_imp (pe_glob G1 (by rw [hA.mg, ← h3.1]; exact g1) g2 G2) fun vσ H Q ⟨m, σ, S, k, hr, rs, h, po⟩ => ?_
  exact po.done hr (by rw [← ed]; exact g3 m H) h
theorem bin_ok (hA : At W c X) {op : Bop} {o : Operator} (ho : opEq op o = true) (h1 : PE X x (tE W T a)) (h2 : PE X y (tE W T b)) : PE X (.BinOp x o y pos) (tE W T (.bin op a b)) := by
  rw [opEq_ok ho]
  refine pe_imp (pe_op (bop_ok op) h1 h2) fun vσ H Q ⟨m, σ, S, k, hr, rs, h, po⟩ => ?_
  refine tOp_of hr rs h fun d e S2 m2 H2 v w x2 hr2 r1 r2 h2 => ?_
  rw [hA.k]
  exact ⟨m2, S2, k, d, e, hr2, r1, r2, po.ext x2, h2⟩
theorem neg_ok (h1 : PE X x (tE W T a)) : PE X (.UnaryOp .USub x pos) (tE W T (.neg a)) := by
  refine pe_imp (pe_un un_neg h1) fun vσ H Q ⟨m, σ, S, k, hr, rs, h, po⟩ => ?_
  refine ⟨m, σ, S, _, hr, rs, h, fun d S2 m2 v H2 x2 hr2 r2 h2 => ?_⟩
  obtain ⟨i, e, h3⟩ := asI_of h2
  subst e
  cases r2
  exact ⟨i, rfl, (po.ext x2).done hr2 (.int _) h3⟩
/-- a truth as a value -/
theorem cmpv_ok (hA : At W c X) {op : Cop} {o : CmpOp} (ho : copEq op o = true) (hs : isSet y = false) (h1 : PE X x (tE W T a)) (h2 : PE X y (tE W T b)) : PE X (.Compare x [o] [y] pos) (tE W T (.cmp op a b)) := by
  rw [copEq_ok ho]
  refine pe_imp (pe_cmpR (cop_ok hA.hu op) h1 h2 (marks hs)) fun vσ H Q ⟨m, σ, S, k, hr, rs, h, po⟩ => ?_
  refine tOp_of hr rs h fun d e S2 m2 H2 v w x2 hr2 r1 r2 h2 => ?_
  rw [hA.k]
  exact ⟨m2, S2, k, d, e, hr2, r1, r2, po.ext x2, h2⟩
theorem cmpt_ok (hA : At W c X) {op : Cop} {o : CmpOp} (ho : copEq op o = true) (hs : isSet y = false) (h1 : PE X x (tE W T a)) (h2 : PE X y (tE W T b)) : PT X (.Compare x [o] [y] pos) (tT W T (.cmp op a b)) := by
  rw [copEq_ok ho]
  refine pt_imp (pt_cmpR (cop_ok hA.hu op) h1 h2 (marks hs)) fun vσ H Q ⟨m, σ, S, k, hr, rs, h, po⟩ => ?_
  refine tOp_of hr rs h fun d e S2 m2 H2 v w x2 hr2 r1 r2 h2 => ?_
  rw [hA.k]
  refine ⟨m2, S2, k, d, e, hr2, r1, r2, fun d' S' m' v' H' x3 hr3 r3 h3 => ?_, h2⟩
  obtain ⟨z, e, q⟩ := po d' S' m' H' (x2.trans x3) hr3 h3
  subst e
  exact ⟨z, relB r3, q⟩
theorem isnv_ok (hA : At W c X) {neg : Bool} (hs : isSet y = false) (h1 : PE X x (tE W T a)) (h2 : PE X y (tE W T b)) : PE X (.Compare x [inOp neg] [y] pos) (tE W T (.isn neg a b)) := by
  refine pe_imp (pe_cmpR (isn_ok hA.hu neg) h1 h2 (marks hs)) fun vσ H Q ⟨m, σ, S, k, hr, rs, h, po⟩ => ?_
  refine tOp_of hr rs h fun d e S2 m2 H2 v w x2 hr2 r1 r2 h2 => ?_
  rw [hA.k]
  exact ⟨m2, S2, k, d, e, hr2, r1, r2, po.ext x2, h2⟩
theorem isnt_ok (hA : At W c X) {neg : Bool} (hs : isSet y = false) (h1 : PE X x (tE W T a)) (h2 : PE X y (tE W T b)) : PT X (.Compare x [inOp neg] [y] pos) (tT W T (.isn neg a b)) := by
  refine pt_imp (pt_cmpR (isn_ok hA.hu neg) h1 h2 (marks hs)) fun vσ H Q ⟨m, σ, S, k, hr, rs, h, po⟩ => ?_
  refine tOp_of hr rs h fun d e S2 m2 H2 v w x2 hr2 r1 r2 h2 => ?_
  rw [hA.k]
  refine ⟨m2, S2, k, d, e, hr2, r1, r2, fun d' S' m' v' H' x3 hr3 r3 h3 => ?_, h2⟩
  obtain ⟨z, e, q⟩ := po d' S' m' H' (x2.trans x3) hr3 h3
  subst e
  exact ⟨z, relB r3, q⟩
theorem eqmv_ok (hA : At W c X) {neg : Bool} (hs : isSet y = false) (h1 : PE X x (tE W T a)) (h2 : PE X y (tE W T b)) : PE X (.Compare x [eqOp neg] [y] pos) (tE W T (.eqm neg a b)) := by
  refine pe_imp (pe_cmpR (eqm_ok hA.hu neg) h1 h2 (marks hs)) fun vσ H Q ⟨m, σ, S, k, hr, rs, h, po⟩ => ?_
  refine tOp_of hr rs h fun d e S2 m2 H2 v w x2 hr2 r1 r2 h2 => ?_
  rw [hA.k]
  exact ⟨m2, S2, k, d, e, hr2, r1, r2, po.ext x2, h2⟩
theorem eqmt_ok (hA : At W c X) {neg : Bool} (hs : isSet y = false) (h1 : PE X x (tE W T a)) (h2 : PE X y (tE W T b)) : PT X (.Compare x [eqOp neg] [y] pos) (tT W T (.eqm neg a b)) := by
  refine pt_imp (pt_cmpR (eqm_ok hA.hu neg) h1 h2 (marks hs)) fun vσ H Q ⟨m, σ, S, k, hr, rs, h, po⟩ => ?_
  refine tOp_of hr rs h fun d e S2 m2 H2 v w x2 hr2 r1 r2 h2 => ?_
  rw [hA.k]
  refine ⟨m2, S2, k, d, e, hr2, r1, r2, fun d' S' m' v' H' x3 hr3 r3 h3 => ?_, h2⟩
  obtain ⟨z, e, q⟩ := po d' S' m' H' (x2.trans x3) hr3 h3
  subst e
  exact ⟨z, relB r3, q⟩
theorem chain_of (hA : At W c X) {op op' : Cop} {d : E} {vσ : L2.St} {H : Hp} {Q : VK} {m : Ms} {σ : Env} {S : Store} {k : D → Store → Prop} (hr : HR W.K m S H) (rs : RS W.K m H σ vσ) (h : ev (callw T W.n) XF (.cmp2 op op' a b d) false σ S k)
    (po : Po W.K m H k Q) : tChain (rC X.K op) (rC X.K op') (tE W T a) (tE W T b) (tE W T d) vσ H Q := by
  rw [hA.k]
  refine ⟨m, σ, S, _, hr, rs, h, fun d1 S1 m1 v1 H1 x1 hr1 r1 h1 => ⟨m1, σ, S1, _, hr1, rs.mono x1, h1, fun d2 S2 m2 v2 H2 x2 hr2 r2 h2 => ?_⟩⟩
  refine ⟨m2, S2, asB (fun z S' => brk z (ev (callw T W.n) XF d false σ S' fun w S4 => cop op' d2 w fun z' => k (.bl z') S4) (k (.bl false) S')), d1, d2, hr2, r1.mono x2, r2, fun d3 S3 m3 v3 H3 x3 hr3 r3 h3 => ?_, h2⟩
  obtain ⟨z, e, h4⟩ := asB_of h3
  subst e
  refine ⟨z, relB r3, ?_⟩
  have x13 := (x1.trans x2).trans x3
  cases z with
  | true =>
    simp only [if_true]
    exact ⟨m3, σ, S3, _, hr3, rs.mono x13, h4, fun d4 S4 m4 v4 H4 x4 hr4 r4 h5 => ⟨m4, S4, k, d2, d4, hr4, r2.mono (x3.trans x4), r4, po.ext (x13.trans x4), h5⟩⟩
  | false =>
    simp only [Bool.false_eq_true, if_false]
    exact (po.ext x13).done hr3 (.bl _) h4
theorem cmp2v_ok (hA : At W c X) {op op' : Cop} {o o' : CmpOp} {d : E} (ho : copEq op o = true) (ho' : copEq op' o' = true) (hs : isSet z = false) (h1 : PE X x (tE W T a)) (h2 : PE X y (tE W T b)) (h3 : PE X z (tE W T d)) :
    PE X (.Compare x [o, o'] [y, z] pos) (tE W T (.cmp2 op op' a b d)) := by
  rw [copEq_ok ho, copEq_ok ho']
  exact pe_imp (pe_chain (cop_ok hA.hu op) (cop_ok hA.hu op') h1 h2 h3 (marks hs)) fun vσ H Q ⟨m, σ, S, k, hr, rs, h, po⟩ => chain_of hA hr rs h po
theorem cmp2t_ok (hA : At W c X) {op op' : Cop} {o o' : CmpOp} {d : E} (ho : copEq op o = true) (ho' : copEq op' o' = true) (hs : isSet z = false) (h1 : PE X x (tE W T a)) (h2 : PE X y (tE W T b)) (h3 : PE X z (tE W T d)) :
    PT X (.Compare x [o, o'] [y, z] pos) (tT W T (.cmp2 op op' a b d)) := by
  rw [copEq_ok ho, copEq_ok ho']
  refine pt_imp (pt_chain (cop_ok hA.hu op) (cop_ok hA.hu op') h1 h2 h3 (marks hs)) fun vσ H Q ⟨m, σ, S, k, hr, rs, h, po⟩ => ?_
  refine chain_of hA hr rs h fun d' S' m' v' H' x3 hr3 r3 h3 => ?_
  obtain ⟨z, e, q⟩ := po d' S' m' H' x3 hr3 h3
  subst e
  exact ⟨z, relB r3, q⟩
/-! ### and, or, not -/
theorem andv_of {ys : List Expr} (h1 : PE X x (tE W T a)) (h2 : PE X (.BoolOp .And (y :: ys) pos) (tE W T b)) : PE X (.BoolOp .And (x :: y :: ys) pos) (tE W T (.and a b)) := by
  refine pe_imp (pe_and h1 h2) fun vσ H Q ⟨m, σ, S, k, hr, rs, h, po⟩ => ?_
  refine ⟨m, σ, S, _, hr, rs, h, fun d S2 m2 v H2 x2 hr2 r2 h2 => ?_⟩
  obtain ⟨z, e, h3⟩ := asB_of h2
  subst e
  refine ⟨z, relB r2, ?_⟩
  cases z with
  | true => simp only [if_true]; exact ⟨m2, σ, S2, k, hr2, rs.mono x2, h3, po.ext x2⟩
  | false => simp only [Bool.false_eq_true, if_false]; exact (po.ext x2).done hr2 (.bl _) h3
theorem orv_of {ys : List Expr} (h1 : PE X x (tE W T a)) (h2 : PE X (.BoolOp .Or (y :: ys) pos) (tE W T b)) : PE X (.BoolOp .Or (x :: y :: ys) pos) (tE W T (.or a b)) := by
  refine pe_imp (pe_or h1 h2) fun vσ H Q ⟨m, σ, S, k, hr, rs, h, po⟩ => ?_
  refine ⟨m, σ, S, _, hr, rs, h, fun d S2 m2 v H2 x2 hr2 r2 h2 => ?_⟩
  obtain ⟨z, e, h3⟩ := asB_of h2
  subst e
  refine ⟨z, relB r2, ?_⟩
  cases z with
  | true => simp only [if_true]; exact (po.ext x2).done hr2 (.bl _) h3
  | false => simp only [Bool.false_eq_true, if_false]; exact ⟨m2, σ, S2, k, hr2, rs.mono x2, h3, po.ext x2⟩
theorem PoT.ext {K : PySem.W.Frag} {m m' : Ms} {H H' : Hp} {k : D → Store → Prop} {Q : Bool → Hp → Prop} (p : PoT K m H k Q) (x : Ext m H m' H') : PoT K m' H' k Q := fun d S2 m2 H2 x2 hr hk => p d S2 m2 H2 (x.trans x2) hr hk
theorem PoT.done {K : PySem.W.Frag} {m : Ms} {H : Hp} {S : Store} {k : D → Store → Prop} {Q : Bool → Hp → Prop} (p : PoT K m H k Q) (hr : HR K m S H) {b : Bool} (hk : k (.bl b) S) : Q b H := by
  obtain ⟨b', e, q⟩ := p _ _ _ _ .refl hr hk
  cases e
  exact q
theorem andw_of {ys : List Expr} (h1 : PT X x (tT W T a)) (h2 : PW X (.BoolOp .And (y :: ys) pos) (tT W T b)) : PW X (.BoolOp .And (x :: y :: ys) pos) (tT W T (.and a b)) := by
  refine pw_imp (pw_and h1 h2) fun vσ H Q ⟨m, σ, S, k, hr, rs, h, po⟩ => ?_
  refine ⟨m, σ, S, _, hr, rs, h, fun d S2 m2 H2 x2 hr2 h2 => ?_⟩
  obtain ⟨z, e, h3⟩ := asB_of h2
  refine ⟨z, e, ?_⟩
  cases z with
  | true => simp only [if_true]; exact ⟨m2, σ, S2, k, hr2, rs.mono x2, h3, po.ext x2⟩
  | false => simp only [Bool.false_eq_true, if_false]; exact (po.ext x2).done hr2 h3
theorem orw_of {ys : List Expr} (h1 : PT X x (tT W T a)) (h2 : PW X (.BoolOp .Or (y :: ys) pos) (tT W T b)) : PW X (.BoolOp .Or (x :: y :: ys) pos) (tT W T (.or a b)) := by
  refine pw_imp (pw_or h1 h2) fun vσ H Q ⟨m, σ, S, k, hr, rs, h, po⟩ => ?_
  refine ⟨m, σ, S, _, hr, rs, h, fun d S2 m2 H2 x2 hr2 h2 => ?_⟩
  obtain ⟨z, e, h3⟩ := asB_of h2
  refine ⟨z, e, ?_⟩
  cases z with
  | true => simp only [if_true]; exact (po.ext x2).done hr2 h3
  | false => simp only [Bool.false_eq_true, if_false]; exact ⟨m2, σ, S2, k, hr2, rs.mono x2, h3, po.ext x2⟩
theorem nott_of (h1 : PT X x (tT W T a)) : PT X (.UnaryOp .Not x pos) (tT W T (.not a)) := by
  refine pt_imp (pt_not h1) fun vσ H Q ⟨m, σ, S, k, hr, rs, h, po⟩ => ?_
  refine ⟨m, σ, S, _, hr, rs, h, fun d S2 m2 H2 x2 hr2 h2 => ?_⟩
  obtain ⟨z, e, h3⟩ := asB_of h2
  exact ⟨z, e, (po.ext x2).done hr2 h3⟩
theorem notv_of (h1 : PE X x (tE W T a)) : PE X (.UnaryOp .Not x pos) (tE W T (.not a)) := by
  refine pe_imp (pe_not h1) fun vσ H Q ⟨m, σ, S, k, hr, rs, h, po⟩ => ?_
  refine ⟨m, σ, S, _, hr, rs, h, fun d S2 m2 v H2 x2 hr2 r2 h2 => ?_⟩
  obtain ⟨z, e, h3⟩ := asB_of h2
  subst e
  exact ⟨z, relB r2, (po.ext x2).done hr2 (.bl _) h3⟩
theorem ite_of (hc : PT X z (tT W T e)) (h1 : PE X x (tE W T a)) (h2 : PE X y (tE W T b)) : PE X (.IfExp z x y pos) (tE W T (.ite e a b)) := by
  refine pe_imp (pe_ifExp hc h1 h2) fun vσ H Q ⟨m, σ, S, k, hr, rs, h, po⟩ => ?_
  refine ⟨m, σ, S, _, hr, rs, h, fun d S2 m2 H2 x2 hr2 h2 => ?_⟩
  obtain ⟨z, e, h3⟩ := asB_of h2
  refine ⟨z, e, ?_⟩
  cases z with
  | true => simp only [if_true]; exact ⟨m2, σ, S2, k, hr2, rs.mono x2, h3, po.ext x2⟩
  | false => simp only [Bool.false_eq_true, if_false]; exact ⟨m2, σ, S2, k, hr2, rs.mono x2, h3, po.ext x2⟩
/-! ### displays, items, slices -/
theorem PoS.ext {n : Nat} {K : PySem.W.Frag} {m m' : Ms} {H H' : Hp} {k : List D → Store → Prop} {Q : List V → Hp → Prop} (p : PoS n K m H k Q) (x : Ext m H m' H') : PoS n K m' H' k Q := fun d S2 m2 v H2 x2 hr r hl hk => p d S2 m2 v H2 (x.trans x2) hr r hl hk
theorem nil_ok : PA X [] (tA W T []) := pa_imp pa_nil fun vσ H Q ⟨m, σ, S, k, hr, rs, h, po⟩ => po [] S m [] H .refl hr .nil rfl h
theorem cons_ok {es : List E} {xs : List Expr} (hs : ∀ env, starEach (x :: xs) env = (false, eval x env) :: starEach xs env) (h1 : PE X x (tE W T e)) (h2 : PA X xs (tA W T es)) : PA X (x :: xs) (tA W T (e :: es)) := by
  refine pa_imp (pa_cons h1 h2 (hs _)) fun vσ H Q ⟨m, σ, S, k, hr, rs, h, po⟩ => ?_
  exact ⟨m, σ, S, _, hr, rs, h, fun d S1 m1 v H1 x1 hr1 r1 h1 => ⟨m1, σ, S1, _, hr1, rs.mono x1, h1, fun ds S2 m2 vs H2 x2 hr2 r2 hl h2 => po (d :: ds) S2 m2 (v :: vs) H2 (x1.trans x2) hr2 (.cons (r1.mono x2) r2) (by rw [List.length_cons, List.length_cons, hl]) h2⟩⟩
theorem nilk_ok : PK X [] (tA W T []) := ⟨fun pos pins s σ H Q I q => pk_nil.run pos pins s σ H Q I (let ⟨m, _, S, _, hr, _, h, po⟩ := q; po [] S m [] H .refl hr .nil rfl h)⟩
theorem consk_ok {es : List E} {kws : List Keyword} {nm : Option Str} {kp : Pos} (h1 : PE X x (tE W T e)) (h2 : PK X kws (tA W T es)) : PK X (⟨nm, x, kp⟩ :: kws) (tA W T (e :: es)) := by
  refine ⟨fun pos pins s vσ H Q I ⟨m, σ, S, k, hr, rs, h, po⟩ => (pk_cons h1 h2).run pos pins s vσ H Q I ?_⟩
  exact ⟨m, σ, S, _, hr, rs, h, fun d S1 m1 v H1 x1 hr1 r1 h1 => ⟨m1, σ, S1, _, hr1, rs.mono x1, h1, fun ds S2 m2 vs H2 x2 hr2 r2 hl h2 => po (d :: ds) S2 m2 (v :: vs) H2 (x1.trans x2) hr2 (.cons (r1.mono x2) r2) (by rw [List.length_cons, List.length_cons, hl]) h2⟩⟩
theorem tup_ok {es : List E} {xs : List Expr} {j : Nat} (hl : es.length ≤ SZ) (h1 : PA X xs (tA W T es)) : PE X (.Tuple xs j pos) (tE W T (.tup es)) := by
  refine pe_imp (pe_tup h1) fun vσ H Q ⟨m, σ, S, k, hr, rs, h, po⟩ => ?_
  refine ⟨m, σ, S, _, hr, rs, h, fun ds S1 m1 vs H1 x1 hr1 r1 hd h1 => ⟨?_, fun p hp => (po.ext x1).tup hr1 r1 h1 hp⟩⟩
  rw [← r1.length, hd]
  exact sz_line hl
/-- some items spread out -/
def tAS (W : Wd) (T : Nat → Option Fn) (fl : List Bool) (es : List E) : TA := fun vσ H Q => ∃ (m : Ms) (σ : Env) (S : Store) (k : List FV.D → Store → Prop), HR W.K m S H ∧ RS W.K m H σ vσ ∧ evss (callw T W.n) XF es fl σ S k ∧
  ∀ (zs : List FV.D) (S' : Store) (m' : Ms) (vs : List V) (H' : Hp), Ext m H m' H' → HR W.K m' S' H' → RelDs W.K m' H' zs vs → k zs S' → Q vs H'
theorem nils_ok : PA X [] (tAS W T [] []) := pa_imp pa_nil fun vσ H Q ⟨m, σ, S, k, hr, rs, h, po⟩ => po [] S m [] H .refl hr .nil h
theorem conss_ok {es : List E} {xs : List Expr} {fl : List Bool} (hs : ∀ env, starEach (x :: xs) env = (false, eval x env) :: starEach xs env) (h1 : PE X x (tE W T e)) (h2 : PA X xs (tAS W T fl es)) : PA X (x :: xs) (tAS W T (false :: fl) (e :: es)) := by
  refine pa_imp (pa_cons h1 h2 (hs _)) fun vσ H Q ⟨m, σ, S, k, hr, rs, h, po⟩ => ?_
  exact ⟨m, σ, S, _, hr, rs, h, fun d S1 m1 v H1 x1 hr1 r1 h1 => ⟨m1, σ, S1, _, hr1, rs.mono x1, h1, fun ds S2 m2 vs H2 x2 hr2 r2 h2 => po (d :: ds) S2 m2 (v :: vs) H2 (x1.trans x2) hr2 (.cons (r1.mono x2) r2) h2⟩⟩
theorem starc_ok (hA : At W c X) {es : List E} {xs : List Expr} {fl : List Bool} {sp : Pos} (h1 : PE X x (tE W T e)) (h2 : PA X xs (tAS W T fl es)) : PA X (.Starred x sp :: xs) (tAS W T (true :: fl) (e :: es)) := by
  refine pa_imp (StX.pa_star h1 h2 rfl) fun vσ H Q ⟨m, σ, S, k, hr, rs, h, po⟩ => ?_
  refine ⟨m, σ, S, _, hr, rs, h, fun d S1 m1 v H1 x1 hr1 r1 h1 => ?_⟩
  have go : ∀ (a : Addr) (ys : List FV.D) (ws : List V), v = .ref a → (SqT X.K H1 a ws ∨ SqL X.K H1 a ws) → RelDs W.K m1 H1 ys ws → evss (callw T W.n) XF es fl σ S1 (fun r S2 => k (ys ++ r) S2) → ∃ p xs_1, v = V.ref p ∧ (SqT X.K H1 p xs_1 ∨ SqL X.K H1 p xs_1) ∧ tAS W T fl es vσ H1 fun ys H2 => Q (xs_1 ++ ys) H2 := fun a ys ws e1 e2 r h2 =>
    ⟨a, ws, e1, e2, m1, σ, S1, fun r S2 => k (ys ++ r) S2, hr1, rs.mono x1, h2, fun zs S2 m2 vs H2 x2 hr2 r2 h3 => po (ys ++ zs) S2 m2 (ws ++ vs) H2 (x1.trans x2) hr2 ((r.mono x2).append r2) h3⟩
  cases r1 with
  | tup hs r => exact go _ _ _ rfl (.inl (by rw [hA.k]; exact hs)) r h1
  | lst hs na r => exact go _ _ _ rfl (.inr (.inl (.inl hs))) r h1
  | frz hs r => exact go _ _ _ rfl (.inr (by rw [hA.k]; exact hs.sql)) r h1
  | _ => exact h1.elim
theorem tcat_ok {es : List E} {fl : List Bool} {xs : List Expr} {j : Nat} (h1 : PA X xs (tAS W T fl es)) : PE X (.Tuple xs j pos) (tE W T (.tcat fl es)) := by
  refine pe_imp (pe_tup h1) fun vσ H Q ⟨m, σ, S, k, hr, rs, h, po⟩ => ?_
  refine ⟨m, σ, S, _, hr, rs, h, fun ds S1 m1 vs H1 x1 hr1 r1 ⟨hz, h1⟩ => ⟨?_, fun p hp => (po.ext x1).tup hr1 r1 h1 hp⟩⟩
  rw [← r1.length]
  exact sz_line hz
theorem lst_ok {es : List E} {xs : List Expr} {fr : Bool} (hl : es.length ≤ SZ) (h1 : PA X xs (tA W T es)) : PE X (.List xs pos) (tE W T (.lst fr es)) := by
  refine pe_imp (pe_lst h1) fun vσ H Q ⟨m, σ, S, k, hr, rs, h, po⟩ => ?_
  refine ⟨m, σ, S, _, hr, rs, h, fun ds S1 m1 vs H1 x1 hr1 r1 hd h1 => ⟨?_, fun p hp => (po.ext x1).mk hr1 r1 h1 hp⟩⟩
  rw [← r1.length, hd]
  exact sz_line hl
/-- an item, from either end -/
def rX (K : PySem.W.Frag) : R2 := fun v w H Q => ∃ m S k a b, HR K m S H ∧ RelD K m H a v ∧ RelD K m H b w ∧ Po K m H k Q ∧ asI (fun j S2 => seq a S2 fun ds => (match nth ds j with | some d => k d S2 | none => False)) b S
theorem ix_ok : IxR X (rX X.K) := by
  intro va sl pins s σ H v w u u' Q I rv rw' h hs
  obtain ⟨m, S, k, a, b, hr, ra, rb, po, h⟩ := h
  obtain ⟨j, e, h2⟩ := asI_of h
  subst e
  cases rb
  obtain ⟨ds, vs, p, rfl, hq, rs, h3⟩ := seq_rel hr ra h2
  split at h3
  · rename_i d e
    obtain ⟨z, g1, g2⟩ := atI_rel rs e
    rcases hq with hq | hq
    · exact ix_list va sl pins s σ H _ _ u u' Q I rv rw' ⟨p, vs, j, z, rfl, rfl, hq, g1, po.done hr g2 h3⟩ hs
    · exact ix_tup va sl pins s σ H _ _ u u' Q I rv rw' ⟨p, vs, j, z, rfl, rfl, hq, g1, po.done hr g2 h3⟩ hs
  · exact h3.elim
theorem idx_of (hA : At W c X) (hp : plainIx y = true) (h1 : PE X x (tE W T a)) (h2 : PE X y (tE W T b)) : PE X (.Subscript x y pos) (tE W T (.idx a b)) := by
  refine pe_imp (pe_ix ix_ok h1 h2 (plainIx_ok hp)) fun vσ H Q ⟨m, σ, S, k, hr, rs, h, po⟩ => ?_
  refine tOp_of hr rs h fun d e S2 m2 H2 v w x2 hr2 r1 r2 h2 => ?_
  rw [hA.k]
  exact ⟨m2, S2, k, d, e, hr2, r1, r2, po.ext x2, h2⟩
/-- a slice -/
def rS (K : PySem.W.Frag) : V → Option Int → Option Int → Hp → VK → Prop := fun v lo hi H Q => ∃ m S k a, HR K m S H ∧ RelD K m H a v ∧ Po K m H k Q ∧ (match a with
        | .tup ds => k (.tup (slice ds lo hi)) S
        | .lst ds => k (.lst (slice ds lo hi)) S
        | .frz ds => k (.lst (slice ds lo hi)) S
        | .ref c => (match cl S c with | some ds => k (.lst (slice ds lo hi)) S | none => False)
        | _ => False)
theorem rel_slice {K : PySem.W.Frag} {m : Ms} {H : Hp} {ds : List D} {vs : List V} (r : RelDs K m H ds vs) (lo hi : Option Int) : RelDs K m H (slice ds lo hi) (cutV vs lo hi) := by
  unfold slice cutV
  rw [r.length]
  exact (r.drop _).take _
theorem sl_ok : SlR X (rS X.K) := by
  intro pins s σ H v u vl vu lo hi sl Q I rv hs pl pu h
  obtain ⟨m, S, k, a, hr, ra, po, h⟩ := h
  cases ra <;> try (exact h.elim)
  · rename_i ds p vs hq rs
    refine sl_tupA pins s σ H _ u vl vu lo hi sl Q I rv hs pl pu ⟨p, vs, rfl, hq, fun e => ?_, fun e q hn => ?_⟩
    · refine po.done hr (.tup hq rs) ?_
      have es : slice ds lo hi = ds := by
        unfold slice
        rw [rs.length, e.1, e.2, List.drop_zero, Nat.sub_zero, ← rs.length]
        exact List.take_length
      have h : k (.tup (slice ds lo hi)) S := h
      rw [es] at h
      exact h
    · exact po.tup hr (rel_slice rs lo hi) h hn
  · rename_i ds p vs hq na rs
    exact sl_list pins s σ H _ u vl vu lo hi sl Q I rv hs pl pu ⟨p, vs, rfl, .inl (.inl hq), fun q hn => po.lst hr (rel_slice rs lo hi) h hn⟩
  · rename_i ds p vs hq rs
    exact sl_list pins s σ H _ u vl vu lo hi sl Q I rv hs pl pu ⟨p, vs, rfl, hq.sql, fun q hn => po.lst hr (rel_slice rs lo hi) h hn⟩
  · rename_i l p hl
    have h : (match cl S l with | some ds => k (.lst (slice ds lo hi)) S | none => False) := h
    split at h
    · rename_i ds e
      obtain ⟨vs, hq, rs⟩ := hr.at_ l ds p e hl
      exact sl_list pins s σ H _ u vl vu lo hi sl Q I rv hs pl pu ⟨p, vs, rfl, .inl (.inl hq), fun q hn => po.lst hr (rel_slice rs lo hi) h hn⟩
    · exact h.elim
theorem slc_of (hA : At W c X) {lo hi : Option E} {l h : Option Expr} {p2 : Pos} (h1 : PE X x (tE W T a)) (h2 : PO X l (tO W T lo)) (h3 : PO X h (tO W T hi)) : PE X (.Subscript x (.Slice l h none p2) pos) (tE W T (.slc a lo hi)) := by
  refine pe_imp (pe_slice sl_ok h1 h2 h3) fun vσ H Q ⟨m, σ, S, k, hr, rs, h, po⟩ => ?_
  rw [hA.k]
  exact ⟨m, σ, S, _, hr, rs, h, fun d S1 m1 v H1 x1 hr1 r1 h1 => ⟨m1, σ, S1, _, hr1, rs.mono x1, h1, fun o S2 m2 H2 x2 hr2 h2 => ⟨m2, σ, S2, _, hr2, rs.mono (x1.trans x2), h2, fun o3 S3 m3 H3 x3 hr3 h3 =>
    ⟨m3, S3, k, d, hr3, r1.mono (x2.trans x3), po.ext ((x1.trans x2).trans x3), h3⟩⟩⟩⟩
theorem none_ok : PO X none (tO W T none) := po_imp po_none fun vσ H Q ⟨m, σ, S, k, hr, rs, h, po⟩ => po none S m H .refl hr h
theorem some_ok (h1 : PE X x (tE W T a)) : PO X (some x) (tO W T (some a)) := po_imp (po_some h1) fun vσ H Q ⟨m, σ, S, k, hr, rs, h, po⟩ => ⟨m, σ, S, _, hr, rs, h, fun d S1 m1 v H1 x1 hr1 r1 h1 => by
  obtain ⟨i, e, h2⟩ := asI_of h1
  subst e
  cases r1
  exact ⟨i, rfl, po (some i) S1 m1 H1 x1 hr1 h2⟩⟩
/-! ### calls -/
theorem call_of (w : WOk W T B) (hA : At W c X) {f : Nat} {n : Str} {p : Pos} {es : List E} {xs : List Expr} (hg : isG c n = true) (hf : B.fid.lookup n = some f) (hs : starEach (x :: xs) X.env = (false, eval x X.env) :: starEach xs X.env)
    (hp : (backTo pos (starEach xs X.env)).any (·.1) = false) (h : PA X (x :: xs) (tA W T es)) : PE X (.Call (.Name n p) (x :: xs) [] pos) (tE W T (.call f es)) := by
  obtain ⟨ad, fd, g1, ⟨_, g2⟩, g3, _, g4⟩ := w.fn n f hf
  obtain ⟨G1, G2⟩ := hA.gl hg
  refine pe_imp (pe_g (sp := spE W.K T W.n f) (k := W.n) (f := ad) (fd := fd) (ps := B.ps f) (by rw [hA.prog, hA.wd, hA.k, hA.mg, hA.bs]; exact g4) hA.room hA.gd G1 (by rw [hA.mg]; exact g1) (by rw [hA.k]; exact g2) (by rw [hA.k]; exact g3) h G2 hs hp) fun vσ H Q ⟨m, σ, S, k, hr, rs, h, po⟩ => ?_
  refine ⟨m, σ, S, _, hr, rs, h, fun ds S1 m1 vs H1 x1 hr1 r1 hl h1 => ?_⟩
  exact ⟨m1, S1, _, ds, hr1, r1, h1, po.ext x1⟩
theorem call0_of (w : WOk W T B) (hA : At W c X) {f : Nat} {n : Str} {p : Pos} (hg : isG c n = true) (hf : B.fid.lookup n = some f) : PE X (.Call (.Name n p) [] [] pos) (tE W T (.call f [])) := by
  obtain ⟨ad, fd, g1, ⟨_, g2⟩, g3, _, g4⟩ := w.fn n f hf
  obtain ⟨G1, G2⟩ := hA.gl hg
  refine pe_imp (pe_g0 (sp := spE W.K T W.n f) (k := W.n) (f := ad) (fd := fd) (ps := B.ps f) (by rw [hA.prog, hA.wd, hA.k, hA.mg, hA.bs]; exact g4) hA.room hA.gd G1 (by rw [hA.mg]; exact g1) (by rw [hA.k]; exact g2) (by rw [hA.k]; exact g3) G2) fun vσ H Q ⟨m, σ, S, k, hr, rs, h, po⟩ => ?_
  exact ⟨m, S, _, [], hr, .nil, h, po⟩
/-! ### keywords -/
theorem kw_each {pos : Pos} {env : PySem.Env} : ∀ {kws : List Keyword}, kws.all (·.arg.isSome) = true → (backToKw pos (keywordEach kws env)).all (·.1.isSome) = true ∧ (backToKw pos (keywordEach kws env)).filterMap (·.1) = kws.filterMap (·.arg) ∧ (backToKw pos (keywordEach kws env)).any (·.1.isNone) = false
  | [], _ => ⟨rfl, rfl, rfl⟩
  | ⟨none, v, p⟩ :: r, h => by cases h
  | ⟨some n, v, p⟩ :: r, h => by
    obtain ⟨h1, h2, h3⟩ := kw_each (pos := pos) (env := env) (kws := r) h
    refine ⟨h1, ?_, h3⟩
    show n :: (backToKw pos (keywordEach r env)).filterMap (·.1) = n :: r.filterMap (·.arg)
    rw [h2]
theorem pick_gk {K : PySem.W.Frag} {m : Ms} {H : Hp} {ds : List D} {zs : List V} (r : RelDs K m H ds zs) : ∀ {ord : List Nat}, (∀ i ∈ ord, i < ds.length) → RelDs K m H (pick ord ds) (gk ord [] zs)
  | [], _ => .nil
  | i :: ord, h => by
    have hi := h i List.mem_cons_self
    have ih := pick_gk r (ord := ord) fun j hj => h j (List.mem_cons_of_mem _ hj)
    obtain ⟨v, e, rv⟩ := r.get (List.getElem?_eq_getElem hi)
    have e2 : gk (i :: ord) [] zs = v :: gk ord [] zs := by
      show (i :: ord).filterMap (fun i => zs[i]?) = _
      rw [List.filterMap_cons, e]
      rfl
    have e3 : pick (i :: ord) ds = ds[i] :: pick ord ds := by
      show ds.getD i .non :: _ = _
      rw [List.getD_eq_getElem?_getD, List.getElem?_eq_getElem hi]
      rfl
    rw [e2, e3]
    exact .cons rv ih
theorem kwOk_lt {ps : List Str} {ord : List Nat} {ks : List Str} (h : kwOk ps ord ks = true) : ∀ i ∈ ord, i < ks.length := by
  intro i hi
  simp only [kwOk, Bool.and_eq_true, decide_eq_true_eq] at h
  have e := h.1.1.2
  have : ks[i]? ∈ ord.map fun i => ks[i]? := List.mem_map_of_mem hi
  rw [e] at this
  obtain ⟨p, _, hp⟩ := List.mem_map.mp this
  exact (List.getElem?_eq_some_iff.mp hp.symm).1
theorem callk_of (w : WOk W T B) (hA : At W c X) {f : Nat} {ord : List Nat} {n : Str} {p : Pos} {es : List E} {kws : List Keyword} (hg : isG c n = true) (hf : B.fid.lookup n = some f) (hall : kws.all (·.arg.isSome) = true) (hk : kwOk (B.ps f) ord (kws.filterMap (·.arg)) = true)
    (hl : es.length = (kws.filterMap (·.arg)).length) (h : PK X kws (tA W T es)) : PE X (.Call (.Name n p) [] kws pos) (tE W T (.callk f ord es)) := by
  obtain ⟨ad, fd, g1, ⟨_, g2⟩, _, g3, g4⟩ := w.fn n f hf
  obtain ⟨G1, G2⟩ := hA.gl hg
  obtain ⟨k1, k2, k3⟩ := kw_each (pos := pos) (env := X.env) hall
  refine ⟨fun pins s vσ H Q I ⟨m, σ, S, k, hr, rs, hev, po⟩ => ?_⟩
  refine wpAny_Call_Name_kw (ld_glob I G1 (by rw [hA.mg]; exact g1) ?_ G2)
  have kp : PySem.W.keepIn X.K (.ref ad) = true := by rw [hA.k]; exact g2
  refine PySem.W.callWith_KW0 (h₀ := X.base) I.ok.mod.kin kp k1 ?_ (by rw [k3]; rfl)
  refine thn (h.run pos pins s vσ H _ I (show tA W T es vσ H (fun zs H2 => spE W.K T W.n f (gk ord [] zs) H2 Q fun _ _ _ => False) from ⟨m, σ, S, _, hr, rs, hev, fun ds S1 m1 vs H1 x1 hr1 r1 hl1 h1 => ?_⟩)) fun ws s2 ⟨zs, H2, I2, rz, q2⟩ => ⟨I2.kIn, ?_⟩
  · refine ⟨m1, S1, _, _, hr1, pick_gk r1 fun i hi => ?_, h1, po.ext x1⟩
    rw [hl1, hl]
    exact kwOk_lt hk i hi
  · rw [k2]
    have F : FnG X.prog X.w X.K X.mg X.base W.n ad fd (B.ps f) (spE W.K T W.n f) := by rw [hA.prog, hA.wd, hA.k, hA.mg, hA.bs]; exact g4
    have KB : KBinds X.K fd (B.ps f) (kws.filterMap (·.arg)) (gk ord) (gk ord) := by rw [hA.k]; exact g3 _ _ hk
    have r2 := KB.rel .nil rz
    have hl : (gk ord ([] : List Value) ws).length = (B.ps f).length := by rw [← r2.length]; exact F.len _ _ _ q2
    exact F.go hA.room hA.gd I2 (KB.to s2 [] ws I2.kIn hl) r2 q2
theorem bi_of (w : WOk W T B) (hA : At W c X) {b : Bi} {n : Str} {p : Pos} {es : List E} {xs : List Expr} (hg : isG c n = true) (hn : n = biName b) (hgc : gcOk B b = true) (hs : starEach (x :: xs) X.env = (false, eval x X.env) :: starEach xs X.env)
    (hp : (backTo pos (starEach xs X.env)).any (·.1) = false) (h : PA X (x :: xs) (tA W T es)) : PE X (.Call (.Name n p) (x :: xs) [] pos) (tE W T (.bi b es)) := by
  obtain ⟨G1, G2⟩ := hA.gl hg
  have fin : ∀ vσ H Q, tE W T (.bi b es) vσ H Q → tCB (rF X.K b) (tA W T es) vσ H Q := fun vσ H Q ⟨m, σ, S, k, hr, rs, h, po⟩ => by
    rw [hA.k]
    exact ⟨m, σ, S, _, hr, rs, h, fun ds S1 m1 vs H1 x1 hr1 r1 hl h1 => ⟨m1, S1, k, ds, hr1, r1, po.ext x1, h1⟩⟩
  subst hn
  have hb : b ≠ .gcd → X.mg (biName b) = none := fun z => by rw [hA.mg]; exact w.bi b z
  cases b with
  | len => exact pe_imp (pe_callB (bfn_ok hA.calm hA.gd hA.room.units .len) G1 (hb (fun z => by cases z)) (by decide +kernel) h (by decide) G2 hs hp) fin
  | abs => exact pe_imp (pe_callB (bfn_ok hA.calm hA.gd hA.room.units .abs) G1 (hb (fun z => by cases z)) (by decide +kernel) h (by decide) G2 hs hp) fin
  | max2 => exact pe_imp (pe_callB (bfn_ok hA.calm hA.gd hA.room.units .max2) G1 (hb (fun z => by cases z)) (by decide +kernel) h (by decide) G2 hs hp) fin
  | min2 => exact pe_imp (pe_callB (bfn_ok hA.calm hA.gd hA.room.units .min2) G1 (hb (fun z => by cases z)) (by decide +kernel) h (by decide) G2 hs hp) fin
  | int => exact pe_imp (pe_callTy (bfn_ok hA.calm hA.gd hA.room.units .int) G1 (hb (fun z => by cases z)) (by decide +kernel) h (by decide) G2 hs hp) fin
  | divmod => exact pe_imp (pe_callB (bfn_ok hA.calm hA.gd hA.room.units .divmod) G1 (hb (fun z => by cases z)) (by decide +kernel) h (by decide) G2 hs hp) fin
  | gcd => exact pe_imp (pe_callBfun (bfn_ok hA.calm hA.gd hA.room.units .gcd) G1 (by rw [hA.mg]; exact w.gcd hgc) h G2 hs hp) fin
  | all => exact pe_imp (pe_callB (bfn_ok hA.calm hA.gd hA.room.units .all) G1 (hb (fun z => by cases z)) (by decide +kernel) h (by decide) G2 hs hp) fin
  | any => exact pe_imp (pe_callB (bfn_ok hA.calm hA.gd hA.room.units .any) G1 (hb (fun z => by cases z)) (by decide +kernel) h (by decide) G2 hs hp) fin
  | sum => exact pe_imp (pe_callB (bfn_ok hA.calm hA.gd hA.room.units .sum) G1 (hb (fun z => by cases z)) (by decide +kernel) h (by decide) G2 hs hp) fin
  | tuple => exact pe_imp (pe_callTy (bfn_ok hA.calm hA.gd hA.room.units .tuple) G1 (hb (fun z => by cases z)) (by decide +kernel) h (by decide) G2 hs hp) fin
  | list => exact pe_imp (pe_callTy (bfn_ok hA.calm hA.gd hA.room.units .list) G1 (hb (fun z => by cases z)) (by decide +kernel) h (by decide) G2 hs hp) fin
  | repr => exact pe_imp (pe_callB (bfn_ok hA.calm hA.gd hA.room.units .repr) G1 (hb (fun z => by cases z)) (by decide +kernel) h (by decide) G2 hs hp) fin
  | str => exact pe_imp (pe_callTy (bfn_ok hA.calm hA.gd hA.room.units .str) G1 (hb (fun z => by cases z)) (by decide +kernel) h (by decide) G2 hs hp) fin
  | maxl => exact pe_imp (pe_callB (bfn_ok hA.calm hA.gd hA.room.units .maxl) G1 (hb (fun z => by cases z)) (by decide +kernel) h (by decide) G2 hs hp) fin
  | sorted => exact pe_imp (pe_callB (bfn_ok hA.calm hA.gd hA.room.units .sorted) G1 (hb (fun z => by cases z)) (by decide +kernel) h (by decide) G2 hs hp) fin
theorem rgI_map : ∀ (n : Nat) (a : Int), rngI a n = ((List.range n).map fun i : Nat => a + (i : Int)).map D.int
  | 0, _ => rfl
  | n + 1, a => by
    rw [rngI, rgI_map n, List.range_succ_eq_map, List.map_cons, List.map_cons, List.map_map, List.map_map, List.map_map]
    congr 1
    · simp
    · refine List.map_congr_left fun i _ => ?_
      show D.int (a + 1 + (i : Int)) = D.int (a + ((i + 1 : Nat) : Int))
      congr 1
      omega
theorem rel_rg {K : PySem.W.Frag} {m : Ms} {H : Hp} (i j : Int) : RelDs K m H (rngI i (j - i).toNat) (rgV i j) := by
  rw [rgI_map]
  unfold rgV
  have e : (List.range (j - i).toNat).map (fun k => V.int (i + (k : Nat))) = ((List.range (j - i).toNat).map fun k : Nat => i + (k : Int)).map V.int := by rw [List.map_map]; rfl
  rw [e]
  exact rel_ints _
def rgQ (tp : Bool) (Q : V → Hp → Prop) (i j : Int) (H1 : Hp) : Prop := match tp with
    | true => RgOk i j ∧ ∀ q, H1 q = none → Q (.ref q) (upd H1 q (.tup (rgV i j)))
    | false => RgOk i j ∧ ∀ q, H1 q = none → Q (.ref q) (upd H1 q (.lst (rgV i j)))
theorem rg_end {K : PySem.W.Frag} {m m1 : Ms} {H H1 : Hp} {S1 : Store} {k : D → Store → Prop} {Q : V → Hp → Prop} (po : Po K m H k Q) (x1 : Ext m H m1 H1) (hr : HR K m1 S1 H1) {i j : Int} (tp : Bool) (b1 : i.natAbs ≤ 100000) (b2 : j.natAbs ≤ 100000) (h : k (mkR tp (rngI i (j - i).toNat)) S1) : rgQ tp Q i j H1 := by
  have ok : RgOk i j := by unfold RgOk; omega
  cases tp with
  | true => exact ⟨ok, fun q hq => (po.ext x1).tup hr (rel_rg i j) h hq⟩
  | false => exact ⟨ok, fun q hq => (po.ext x1).lst hr (rel_rg i j) h hq⟩
theorem lrg1_of (w : WOk W T B) (hA : At W c X) {tp : Bool} {n r : Str} {p p2 pos2 : Pos} (hg : isG c n = true) (hn : n = rgName tp) (hg2 : isG c r = true) (hn2 : r = "range") (hs : ∀ xs, starEach (x :: xs) X.env = (false, eval x X.env) :: starEach xs X.env)
    (h : PE X x (tE W T a)) : PE X (.Call (.Name n p) [.Call (.Name r p2) [x] [] pos2] [] pos) (tE W T (.lrg1 tp a)) := by
  obtain ⟨G1, G2⟩ := hA.gl hg
  obtain ⟨G3, G4⟩ := hA.gl hg2
  subst hn hn2
  have hr' : X.mg "range" = none := by rw [hA.mg]; exact w.range
  cases tp with
  | true =>
    refine pe_imp (pe_tupRg hA.calm G1 (by rw [hA.mg]; exact w.bi .tuple (fun z => by cases z)) (prg_1 G3 hr' h (hs _)) (by rfl)) fun vσ H Q ⟨m, σ, S, k, hr, rs, hev, po⟩ => ?_
    refine ⟨m, σ, S, asI fun j S2 => j.natAbs ≤ 100000 ∧ k (mkR true (rngI 0 j.toNat)) S2, hr, rs, hev, fun d S1 m1 v H1 x1 hr1 r1 h1 => ?_⟩
    obtain ⟨j, e, h2⟩ := asI_of h1
    subst e
    cases r1
    have q := rg_end (i := 0) (j := j) po x1 hr1 true (by decide) h2.1 (by rw [show j - 0 = j by omega]; exact h2.2)
    exact ⟨j, rfl, q⟩
  | false =>
    refine pe_imp (pe_listRg hA.calm G1 (by rw [hA.mg]; exact w.bi .list (fun z => by cases z)) (prg_1 G3 hr' h (hs _)) (by rfl)) fun vσ H Q ⟨m, σ, S, k, hr, rs, hev, po⟩ => ?_
    refine ⟨m, σ, S, asI fun j S2 => j.natAbs ≤ 100000 ∧ k (mkR false (rngI 0 j.toNat)) S2, hr, rs, hev, fun d S1 m1 v H1 x1 hr1 r1 h1 => ?_⟩
    obtain ⟨j, e, h2⟩ := asI_of h1
    subst e
    cases r1
    have q := rg_end (i := 0) (j := j) po x1 hr1 false (by decide) h2.1 (by rw [show j - 0 = j by omega]; exact h2.2)
    exact ⟨j, rfl, q⟩
theorem lrg2_of (w : WOk W T B) (hA : At W c X) {tp : Bool} {n r : Str} {p p2 pos2 : Pos} (hg : isG c n = true) (hn : n = rgName tp) (hg2 : isG c r = true) (hn2 : r = "range") (hs : ∀ xs, starEach (x :: xs) X.env = (false, eval x X.env) :: starEach xs X.env) (hs2 : ∀ xs, starEach (y :: xs) X.env = (false, eval y X.env) :: starEach xs X.env)
    (h : PE X x (tE W T a)) (h' : PE X y (tE W T b)) : PE X (.Call (.Name n p) [.Call (.Name r p2) [x, y] [] pos2] [] pos) (tE W T (.lrg2 tp a b)) := by
  obtain ⟨G1, G2⟩ := hA.gl hg
  obtain ⟨G3, G4⟩ := hA.gl hg2
  subst hn hn2
  have hr' : X.mg "range" = none := by rw [hA.mg]; exact w.range
  have fin : ∀ vσ H Q, tE W T (.lrg2 tp a b) vσ H Q → tRg2 (tE W T a) (tE W T b) vσ H (rgQ tp Q) := fun vσ H Q ⟨m, σ, S, k, hr, rs, hev, po⟩ => by
    refine ⟨m, σ, S, asI fun i S1 => ev (callw T W.n) XF b false σ S1 (asI fun j S2 => (i.natAbs ≤ 100000 ∧ j.natAbs ≤ 100000) ∧ k (mkR tp (rngI i (j - i).toNat)) S2), hr, rs, hev, fun d S1 m1 v H1 x1 hr1 r1 h1 => ?_⟩
    obtain ⟨i, e, h2⟩ := asI_of h1
    subst e
    cases r1
    refine ⟨m1, σ, S1, asI fun j S2 => (i.natAbs ≤ 100000 ∧ j.natAbs ≤ 100000) ∧ k (mkR tp (rngI i (j - i).toNat)) S2, hr1, rs.mono x1, h2, fun d S2 m2 v H2 x2 hr2 r2 h3 => ?_⟩
    obtain ⟨j, e, h4⟩ := asI_of h3
    subst e
    cases r2
    have q := rg_end po (x1.trans x2) hr2 tp h4.1.1 h4.1.2 h4.2
    exact ⟨i, j, rfl, rfl, q⟩
  cases tp with
  | true => exact pe_imp (pe_tupRg hA.calm G1 (by rw [hA.mg]; exact w.bi .tuple (fun z => by cases z)) (prg_2 G3 hr' h h' (hs _) (hs2 _) (by rw [hs2]; rfl)) (by rfl)) fin
  | false => exact pe_imp (pe_listRg hA.calm G1 (by rw [hA.mg]; exact w.bi .list (fun z => by cases z)) (prg_2 G3 hr' h h' (hs _) (hs2 _) (by rw [hs2]; rfl)) (by rfl)) fin
theorem lstf_of (w : WOk W T B) (hA : At W c X) {n : Str} {p : Pos} (hg : isG c n = true) (hn : n = "list") (hs : ∀ xs, starEach (x :: xs) X.env = (false, eval x X.env) :: starEach xs X.env)
    (h : PE X x (tE W T a)) : PE X (.Call (.Name n p) [x] [] pos) (tE W T (.lstf a)) := by
  obtain ⟨G1, G2⟩ := hA.gl hg
  subst hn
  refine pe_imp (pe_callTy (lstf_ok (X := X)) G1 (by rw [hA.mg]; exact w.bi .list (fun z => by cases z)) (by decide +kernel) (pa_cons h pa_nil (hs _)) (by decide) G2 (hs _) (by rfl)) fun vσ H Q ⟨m, σ, S, k, hr, rs, hev, po⟩ => ?_
  rw [hA.k]
  refine ⟨m, σ, S, fun x S1 => seq x S1 fun ds => k (.ref S1.length) (S1 ++ [ds]), hr, rs, hev, fun d S1 m1 v H1 x1 hr1 r1 h1 => ?_⟩
  exact ⟨m1, S1, k, d, hr1, .cons r1 .nil, po.ext x1, h1⟩
theorem dct_of (hA : At W c X) : PE X (.Dict [] [] pos) (tE W T .dct) :=
  pe_imp pe_dnewK fun vσ H Q ⟨m, σ, S, k, hr, rs, h, po⟩ => fun p hp => po.dic hr h hp
theorem tab_of (w : WOk W T B) {x : Str} {kvs : List (Str × D)} (h : tabB B x kvs = true) : ∃ ad, W.mg x = some (.ref ad) ∧ KTab W.K W.w ad (kvs.map (·.1)) ∧ ∀ q ∈ kvs, ∃ u v, PySem.W.nsIn W.K ad q.1 = some (some u) ∧ RelV v u ∧ ∀ m H, RelD W.K m H q.2 v := by
  obtain ⟨p, hp, h1⟩ := List.any_eq_true.mp h
  simp only [Bool.and_eq_true, decide_eq_true_eq] at h1
  have g := w.tab p hp
  rw [h1.1, sameT_eq h1.2] at g
  exact g
theorem tget_of (w : WOk W T B) (hA : At W c X) {n n' : Str} {p : Pos} {kvs : List (Str × D)} (hg : isG c n = true) (ht : tabB B n kvs = true) (hp : plainIx y = true) (h : PE X y (tE W T a)) : PE X (.Subscript (.Name n p) y pos) (tE W T (.tget n' kvs a)) := by
  obtain ⟨G1, G2⟩ := hA.gl hg
  obtain ⟨ad, g1, ⟨es, k0, D0, hk⟩, g3⟩ := tab_of w ht
  have D' : KDict X.K X.w ad es k0 := by rw [hA.k, hA.wd]; exact D0
  refine pe_imp (pe_ix (ix_kd D') (pe_glob (v := .ref ad) G1 (by rw [hA.mg]; exact g1) rfl G2) h (plainIx_ok hp)) fun vσ H Q ⟨m, σ, S, k, hr, rs, hev, po⟩ => ?_
  refine ⟨m, σ, S, _, hr, rs, hev, fun d S1 m1 v H1 x1 hr1 r1 h1 => ?_⟩
  cases d <;> try (exact h1.elim)
  rename_i z
  cases r1
  have h1 : (match kvs.lookup z with | some v => k v S1 | none => False) := h1
  cases e : kvs.lookup z with
  | none => rw [e] at h1; exact h1.elim
  | some dv =>
    rw [e] at h1
    obtain ⟨u, v, e1, e2, e3⟩ := g3 _ (PySem.mem_of_lookup e)
    exact ⟨z, u, v, rfl, rfl, by rw [hA.k]; exact e1, e2, po _ _ _ _ _ x1 hr1 (e3 _ _) h1⟩
theorem lookup_none {α : Type} {z : Str} : ∀ {kvs : List (Str × α)}, kvs.lookup z = none → z ∉ kvs.map (·.1)
  | [], _, h => by cases h
  | p :: r, e, h => by
    rw [List.lookup_cons] at e
    split at e
    · cases e
    · rename_i hz
      rcases List.mem_cons.mp h with q | q
      · rw [q] at hz; simp at hz
      · exact lookup_none e q
theorem tin_of (w : WOk W T B) (hA : At W c X) {neg : Bool} {n n' : Str} {p : Pos} {kvs : List (Str × D)} (hg : isG c n = true) (ht : tabB B n kvs = true) (h : PE X y (tE W T a)) : PE X (.Compare y [inOp neg] [.Name n p] pos) (tE W T (.tin neg n' kvs a)) := by
  obtain ⟨G1, G2⟩ := hA.gl hg
  obtain ⟨ad, g1, ⟨es, k0, D0, hk⟩, g3⟩ := tab_of w ht
  have D' : KDict X.K X.w ad es k0 := by rw [hA.k, hA.wd]; exact D0
  have key : ∀ z : Str, ∃ r, PySem.W.nsIn X.K ad z = some r ∧ r.isSome = (kvs.lookup z).isSome := fun z => by
    rw [hA.k]
    cases e : kvs.lookup z with
    | none => exact ⟨none, ktab_none ⟨es, k0, D0, hk⟩ (lookup_none e), rfl⟩
    | some dv =>
      obtain ⟨u, v, e1, _, _⟩ := g3 _ (PySem.mem_of_lookup e)
      exact ⟨some u, e1, rfl⟩
  cases neg with
  | false =>
    refine pe_imp (pe_cmpR (op_in_kd D') h (pe_glob (v := .ref ad) G1 (by rw [hA.mg]; exact g1) rfl G2) (marks rfl)) fun vσ H Q ⟨m, σ, S, k, hr, rs, hev, po⟩ => ?_
    refine ⟨m, σ, S, _, hr, rs, hev, fun d S1 m1 v H1 x1 hr1 r1 h1 => ?_⟩
    cases d <;> try (exact h1.elim)
    rename_i z
    cases r1
    obtain ⟨r, e1, e2⟩ := key z
    refine ⟨z, r, rfl, rfl, e1, ?_⟩
    rw [e2]
    exact po _ _ _ _ _ x1 hr1 (.bl _) (by have h1 : k (.bl (false != (kvs.lookup z).isSome)) S1 := h1; simpa using h1)
  | true =>
    refine pe_imp (pe_cmpR (op_notIn_kd D') h (pe_glob (v := .ref ad) G1 (by rw [hA.mg]; exact g1) rfl G2) (marks rfl)) fun vσ H Q ⟨m, σ, S, k, hr, rs, hev, po⟩ => ?_
    refine ⟨m, σ, S, _, hr, rs, hev, fun d S1 m1 v H1 x1 hr1 r1 h1 => ?_⟩
    cases d <;> try (exact h1.elim)
    rename_i z
    cases r1
    obtain ⟨r, e1, e2⟩ := key z
    refine ⟨z, r, rfl, rfl, e1, ?_⟩
    rw [e2]
    exact po _ _ _ _ _ x1 hr1 (.bl _) (by have h1 : k (.bl (true != (kvs.lookup z).isSome)) S1 := h1; simpa using h1)
theorem strs_rel {K : PySem.W.Frag} {m : Ms} {H : Hp} : ∀ kvs : List (Str × D), RelDs K m H (kvs.map fun p => D.str p.1) ((kvs.map (·.1)).map V.str)
  | [] => .nil
  | p :: r => .cons (.str _) (strs_rel r)
theorem tls_of (w : WOk W T B) (hA : At W c X) {f n n' : Str} {p q : Pos} {kvs : List (Str × D)} (hf : isG c f = true) (hn : f = "list") (hg : isG c n = true) (ht : tabB B n kvs = true) : PE X (.Call (.Name f q) [.Name n p] [] pos) (tE W T (.tls n' kvs)) := by
  obtain ⟨G1, G2⟩ := hA.gl hg
  obtain ⟨F1, F2⟩ := hA.gl hf
  obtain ⟨ad, g1, D0, _⟩ := tab_of w ht
  have D' : KTab X.K X.w ad (kvs.map (·.1)) := by rw [hA.k, hA.wd]; exact D0
  by_cases hl : kvs.length ≤ 1000
  · subst hn
    refine pe_imp (pe_callTy (cr_list_kd hA.calm D' (by rw [List.length_map]; exact hl)) F1 (by rw [hA.mg]; exact w.bi .list (fun z => by cases z)) (by decide +kernel) (pa_cons (pe_glob (v := .ref ad) G1 (by rw [hA.mg]; exact g1) rfl G2) pa_nil (by rfl)) (by decide) F2 (by rfl) (by rfl)) fun vσ H Q ⟨m, σ, S, k, hr, rs, hev, po⟩ => ?_
    exact ⟨rfl, fun p hp => po.lst hr (strs_rel kvs) hev.2 hp⟩
  · exact ⟨fun pins s σ H Q I ⟨m, σ', S, k, hr, rs, hev, po⟩ => absurd hev.1 hl⟩
/-! ### displays of texts -/
theorem pps_dsp {X : Cx} {pos : Pos} : ∀ {kvs : List (Str × Str)} {ks : List (Option Expr)} {vs : List Expr}, dspB kvs ks vs = true → PPs X pos ks vs (kvs.map fun p => (L2.tC (V.str p.1), L2.tC (V.str p.2))) ∧ ks.all (·.isSome) = true ∧ ks.length = vs.length ∧ ks.length = kvs.length
  | [], [], [], _ => ⟨pps_nil, rfl, rfl, rfl⟩
  | p :: r, some (.Constant (.str k) _ _) :: ks, .Constant (.str v) _ _ :: vs, h => by
    simp only [dspB, Bool.and_eq_true, decide_eq_true_eq] at h
    obtain ⟨h1, h2, h3, h4⟩ := pps_dsp h.2
    obtain ⟨p1, p2⟩ := p
    obtain ⟨⟨e1, e2⟩, _⟩ := h
    have e1 : p1 = k := e1
    have e2 : p2 = v := e2
    subst e1 e2
    exact ⟨pps_cons pe_str pe_str h1, by rw [List.all_cons, h2]; rfl, by rw [List.length_cons, List.length_cons, h3], by rw [List.length_cons, List.length_cons, h4]⟩
theorem tPairs_c {σ : St} {H : Hp} : ∀ {kvs : List (Str × Str)} {Q : List (V × V) → Hp → Prop}, Q (kvs.map fun p => (V.str p.1, V.str p.2)) H → tPairs (kvs.map fun p => (L2.tC (V.str p.1), L2.tC (V.str p.2))) σ H Q
  | [], _, h => h
  | p :: r, Q, h => tPairs_c (kvs := r) (Q := fun ps H3 => Q ((V.str p.1, V.str p.2) :: ps) H3) h
theorem merge_nodup : ∀ {more kvs : List (Key × V)}, (∀ p ∈ more, valV kvs p.1 = none) → (more.map (·.1)).Nodup → mergeK kvs more = kvs ++ more
  | [], kvs, _, _ => (List.append_nil kvs).symm
  | p :: r, kvs, h, nd => by
    rw [List.map_cons, List.nodup_cons] at nd
    have e1 : putK kvs p.1 p.2 = kvs ++ [(p.1, p.2)] := putK_new p.2 (h p List.mem_cons_self)
    show mergeK (putK kvs p.1 p.2) r = _
    rw [e1, merge_nodup (fun q hq => ?_) nd.2, List.append_assoc]
    · rfl
    · rw [valV_snoc _ _ _ _ (h p List.mem_cons_self), if_neg (fun e => nd.1 (by rw [← e]; exact List.mem_map_of_mem hq))]
      exact h q (List.mem_cons_of_mem _ hq)
theorem dsp_of (hA : At W c X) {kvs : List (Str × Str)} {ks : List (Option Expr)} {vs : List Expr} (h15 : kvs.length ≤ 15) (h0 : kvs.isEmpty = false) (nd : (kvs.map (·.1)).Nodup) (h : dspB kvs ks vs = true) : PE X (.Dict ks vs pos) (tE W T (.dsp kvs)) := by
  obtain ⟨h1, h2, h3, h4⟩ := pps_dsp (X := X) (pos := pos) h
  refine pe_imp (pe_disp h1 h2 h3 (fun e => by rw [e] at h4; cases kvs <;> cases h4; cases h0) (by omega)) fun vσ H Q ⟨m, σ, S, k, hr, rs, hev, po⟩ => fun p hp => ?_
  refine tPairs_c ⟨upd_same, kvs.map (fun p => (.inr p.1, .str p.2)), by rw [List.map_map]; rfl, by rw [List.length_map]; exact h15, ?_⟩
  have nd2 : ((kvs.map (fun p => ((.inr p.1 : Key), V.str p.2))).map (·.1)).Nodup := by
    rw [List.map_map]
    have : (kvs.map (·.1)).map (Sum.inr : Str → Key) = kvs.map ((·.1) ∘ fun p => ((.inr p.1 : Key), V.str p.2)) := by rw [List.map_map]; rfl
    rw [← this]
    exact List.Pairwise.map _ (fun _ _ hne e => hne (Sum.inr.inj e)) nd
  rw [merge_nodup (fun _ _ => valV_nil) nd2, List.nil_append, upd_upd]
  exact po (.dss kvs) S m (.ref p) _ (ext_new hp) (hr.new hp) (.dss upd_same) hev
theorem valV_look {z : Str} : ∀ {kvs : List (Str × Str)} {v : Str}, kvs.lookup z = some v → valV (kvs.map fun p => ((.inr p.1 : Key), V.str p.2)) (.inr z) = some (V.str v)
  | p :: r, v, e => by
    rw [List.lookup_cons] at e
    split at e
    · rename_i hz
      have hz : z = p.1 := by simpa using hz
      rw [List.map_cons, valV_pos (by rw [hz])]
      cases e; rfl
    · rename_i hz
      have hz : z ≠ p.1 := by simpa using hz
      rw [List.map_cons, valV_neg (fun e => hz (Sum.inr.inj e).symm)]
      exact valV_look e
theorem dget_of (hA : At W c X) (hp : plainIx y = true) (h1 : PE X x (tE W T a)) (h2 : PE X y (tE W T b)) : PE X (.Subscript x y pos) (tE W T (.dget a b)) := by
  refine pe_imp (pe_dget (by have := hA.hu; omega) h1 h2 (plainIx_ok hp)) fun vσ H Q ⟨m, σ, S, k, hr, rs, h, po⟩ => ?_
  refine tOp_of (op := fun x y H Q => ∃ a v, x = V.ref a ∧ DGet H a y (some v) ∧ Q v H) hr rs h fun d e S2 m2 H2 v w x2 hr2 r1 r2 h2 => ?_
  cases d <;> try (exact h2.elim)
  cases e <;> try (exact h2.elim)
  rename_i kvs z
  cases r1
  cases r2
  rename_i ad hd
  have h2 : (match kvs.lookup z with | some v => k (.str v) S2 | none => False) := h2
  cases e : kvs.lookup z with
  | none => rw [e] at h2; exact h2.elim
  | some v =>
    rw [e] at h2
    refine ⟨ad, .str v, rfl, ?_, po _ _ _ _ _ x2 hr2 (.str _) h2⟩
    have g := DGet.k (k := .inr z) hd
    rw [valV_look e] at g
    exact g
theorem rpt_of (hA : At W c X) {o : Operator} (ho : opEq .mul o = true) (h1 : PE X x (tE W T a)) (h2 : PE X y (tE W T b)) : PE X (.BinOp x o y pos) (tE W T (.rpt a b)) := by
  rw [opEq_ok ho]
  refine pe_imp (pe_op rpt_op h1 h2) fun vσ H Q ⟨m, σ, S, k, hr, rs, h, po⟩ => ?_
  refine tOp_of hr rs h fun d e S2 m2 H2 v w x2 hr2 r1 r2 h2 => ?_
  rw [hA.k]
  exact ⟨m2, S2, k, d, e, hr2, r1, r2, po.ext x2, h2⟩
theorem catv_of (hA : At W c X) {fr : Bool} {o : Operator} (ho : opEq .add o = true) (h1 : PE X x (tE W T a)) (h2 : PE X y (tE W T b)) : PE X (.BinOp x o y pos) (tE W T (.cat fr a b)) := by
  rw [opEq_ok ho]
  refine pe_imp (pe_op (cat_op fr) h1 h2) fun vσ H Q ⟨m, σ, S, k, hr, rs, h, po⟩ => ?_
  refine tOp_of hr rs h fun d e S2 m2 H2 v w x2 hr2 r1 r2 h2 => ?_
  rw [hA.k]
  exact ⟨m2, S2, k, d, e, hr2, r1, r2, po.ext x2, h2⟩
theorem tyName_ok (t : Ty) : bootBuiltins (Str.ofString (tyName t)) = some (.type (tyName t)) ∧ Str.ofString (tyName t) ≠ "__name__" := by
  cases t <;> exact ⟨by decide +kernel, by decide +kernel⟩
theorem isi_of (w : WOk W T B) (hA : At W c X) {t : Ty} {n n' : Str} {p p' : Pos} (hg : isG c n = true) (hg' : isG c n' = true) (hn : n = "isinstance") (hn' : n' = Str.ofString (tyName t)) (hs : ∀ xs, starEach (x :: xs) X.env = (false, eval x X.env) :: starEach xs X.env)
    (h : PE X x (tE W T a)) : PE X (.Call (.Name n p) [x, .Name n' p'] [] pos) (tE W T (.isi a t)) := by
  obtain ⟨G1, G2⟩ := hA.gl hg
  obtain ⟨G3, G4⟩ := hA.gl hg'
  subst hn hn'
  obtain ⟨b1, b2⟩ := tyName_ok t
  refine pe_imp (pe_callB call_isi G1 (by rw [hA.mg]; exact w.isi) (by decide +kernel) (pa_cons h (pa_cons (pe_bltn (v := .ty (tyName t)) G3 (by rw [hA.mg]; exact w.ty t) b1 rfl b2 G4) pa_nil) (hs _)) (by decide) G2 (hs _) (by rfl)) fun vσ H Q ⟨m, σ, S, k, hr, rs, h, po⟩ => ?_
  refine ⟨m, σ, S, _, hr, rs, h, fun d S1 m1 v H1 x1 hr1 r1 h1 => ?_⟩
  have h1 : (match tyIs t d with | some b => k (.bl b) S1 | none => False) := h1
  split at h1
  · rename_i b e
    obtain ⟨Tn, g1, g2⟩ := tyIs_rel hr1 r1 e
    exact ⟨v, .ty (tyName t), _, _, b, rfl, .ty _, by rw [hA.k]; exact g1, kit_ty g2, (po.ext x1).done hr1 (.bl _) h1⟩
  · exact h1.elim
def tTys (ts : List Ty) : TA := fun _ H Q => Q (ts.map fun t => V.ty (tyName t)) H
theorem tys_ok (w : WOk W T B) (hA : At W c X) : ∀ {ts : List Ty} {zs : List Expr}, tysOk c ts zs = true → PA X zs (tTys ts)
  | [], [], _ => pa_imp pa_nil fun _ _ _ q => q
  | [], _ :: _, h => by cases h
  | t :: ts, zs, h => by
    rcases zs with _ | ⟨z, zs⟩
    · cases h
    · cases z <;> try (cases h; done)
      rename_i z p
      simp only [tysOk, Bool.and_eq_true, decide_eq_true_eq] at h
      obtain ⟨⟨h1, h2⟩, h3⟩ := h
      obtain ⟨G3, G4⟩ := hA.gl h1
      subst h2
      obtain ⟨b1, b2⟩ := tyName_ok t
      exact pa_imp (pa_cons (pe_bltn (v := .ty (tyName t)) G3 (by rw [hA.mg]; exact w.ty t) b1 rfl b2 G4) (tys_ok w hA h3)) fun _ _ _ q => q
theorem pair_tys : ∀ ts : List Ty, Paired ClsV (ts.map fun t => V.ty (tyName t)) (ts.map fun t => Value.type (tyName t))
  | [] => .nil
  | t :: ts => .cons (.ty _) (pair_tys ts)
theorem kit_any {K : PySem.W.Frag} {Tn : String} {d : D} (h : ∀ t, ∃ b, tyIs t d = some b ∧ kitB Tn (tyName t) = some b) : ∀ ts : List Ty, PySem.W.kitAny K (.type Tn) (ts.map fun t => Value.type (tyName t)) = some (ts.any fun t => match tyIs t d with
    | some b => b
    | none => false)
  | [] => kitAny_nil
  | t :: ts => by
    obtain ⟨b, h1, h2⟩ := h t
    refine kitAny_cons (b := b) (kit_ty h2) (fun e => ?_) fun e => ?_
    · rw [List.any_cons, h1, kit_any h ts]
      simp only [e, Bool.false_or]
    · rw [List.any_cons, h1]
      simp only [e, Bool.true_or]
theorem few_len : ∀ {ts : List Ty}, fewT ts = true → ts.length ≤ SZ
  | [], _ => by simp [SZ]
  | [_], _ => by simp [SZ]
  | [_, _], _ => by simp [SZ]
  | [_, _, _], _ => by simp [SZ]
  | _ :: _ :: _ :: _ :: _, h => by cases h
theorem isi2_of (w : WOk W T B) (hA : At W c X) {ts : List Ty} {n : Str} {p p' : Pos} {zs : List Expr} {j : Nat} (hg : isG c n = true) (hn : n = "isinstance") (hl : fewT ts = true) (ht : tysOk c ts zs = true) (hs : ∀ xs, starEach (x :: xs) X.env = (false, eval x X.env) :: starEach xs X.env)
    (h : PE X x (tE W T a)) : PE X (.Call (.Name n p) [x, .Tuple zs j p'] [] pos) (tE W T (.isi2 a ts)) := by
  obtain ⟨G1, G2⟩ := hA.gl hg
  subst hn
  refine pe_imp (pe_callB call_isiT G1 (by rw [hA.mg]; exact w.isi) (by decide +kernel) (pa_cons h (pa_cons (pe_tup (tys_ok w hA ht)) pa_nil) (hs _)) (by decide) G2 (hs _) (by rfl)) fun vσ H Q ⟨m, σ, S, k, hr, rs, h, po⟩ => ?_
  refine ⟨m, σ, S, _, hr, rs, h, fun d S1 m1 v H1 x1 hr1 r1 h1 => ?_⟩
  have h1 : (match tyAny ts d with | some b => k (.bl b) S1 | none => False) := h1
  split at h1
  · rename_i b e
    refine ⟨?_, fun q hq => ?_⟩
    · rw [List.length_map]; exact sz_line (few_len hl)
    have x2 := ext_new (m := m1) (o := .tup (ts.map fun t => V.ty (tyName t))) hq
    have hr2 := hr1.new (o := .tup (ts.map fun t => V.ty (tyName t))) hq
    unfold tyAny at e
    split at e
    · cases e
    · rename_i c0 e0
      obtain ⟨Tn, g1, g2⟩ := tyIs_all hr2 (r1.mono x2) e0
      refine ⟨v, q, _, _, _, b, rfl, upd_same, pair_tys ts, by rw [hA.k]; exact g1, ?_, (po.ext (x1.trans x2)).done hr2 (.bl _) h1⟩
      rw [kit_any g2 ts]
      exact e
  · exact h1.elim
end
end FV
set_option Elab.async false
set_option linter.all false
set_option maxRecDepth 100000
set_option maxHeartbeats 2000000
/-! SeqR: counting in a tuple of whole numbers; a tuple or a list turned round. -/
namespace FV
open PySem PySem.Spec PyProof.Rows L2 HT
section
variable {X : Cx}
/-- how often a whole number stands in a tuple of whole numbers -/
def rCntT (K : PySem.W.Frag) : V → List V → Hp → VK → Prop := fun x xs H Q => ∃ (p : Addr) (ns : List Int) (k : Int), x = .ref p ∧ xs = [.int k] ∧ SqT K H p (ns.map V.int) ∧ Q (.int (ns.count k : Nat)) H
theorem mt_tcount : MtR X "tuple.count" (rCntT X.K) := by
  intro pins s σ H x xs v us Q I rx rxs h
  rcases h with ⟨p, ns, k, e1, e2, hs, q⟩
  subst e1 e2
  cases rx
  obtain ⟨u, e3, t, e4⟩ := vals1 rxs
  subst e3 e4
  obtain ⟨its, rv, ht, hlen⟩ := I.tuple hs
  obtain ⟨o, ho, hc, n, hd⟩ := ht
  obtain ⟨oc, od, odt, osl⟩ := o
  simp only at hc hd
  subst hc hd
  have hi := ints_of_vals rv
  refine call_meets F.slot_tuple_count ⟨_, ho, rfl⟩ F.entry_tuple_count (F.args_tuple_count_2 _ _) (SeqAt.tuple_countAt p its.toArray n od osl (.int k t) (eqk k)) ⟨ho, ?_, ?_⟩
  · intro y hy
    exact (eqk_gives hi y (by simpa using hy)).at _ _
  · have ec : its.toArray.toList.countP (eqk k) = ns.count k := eqk_count hi
    rw [ec]
    exact ⟨.int (ns.count k : Nat), H, I.tok _, ⟨_, rfl⟩, q⟩
/-- how often a whole number stands in a list of whole numbers -/
def rCntL (K : PySem.W.Frag) : V → List V → Hp → VK → Prop := fun x xs H Q => ∃ (p : Addr) (ns : List Int) (k : Int), x = .ref p ∧ xs = [.int k] ∧ H p = some (.lst (ns.map V.int)) ∧ Q (.int (ns.count k : Nat)) H
theorem mt_lcount : MtR X "list.count" (rCntL X.K) := by
  intro pins s σ H x xs v us Q I rx rxs h
  rcases h with ⟨p, ns, k, e1, e2, hs, q⟩
  subst e1 e2
  cases rx
  obtain ⟨u, e3, t, e4⟩ := vals1 rxs
  subst e3 e4
  obtain ⟨its, rv, ht, hlen⟩ := I.list (.inl (.inl hs))
  obtain ⟨o, n, ho, hc, hdd, hd⟩ := ht
  obtain ⟨oc, od, odt, osl⟩ := o
  simp only at hc hd
  subst hc hd
  have hi := ints_of_vals rv
  refine call_meets F.slot_list_count ⟨_, ho, rfl⟩ F.entry_list_count (F.args_list_count_2 _ _) (SeqAt.list_countAt p its.toArray n od osl (.int k t) (eqk k)) ⟨ho, ?_, ?_⟩
  · intro y hy
    exact (eqk_gives hi y (by simpa using hy)).at _ _
  · have ec : its.toArray.toList.countP (eqk k) = ns.count k := eqk_count hi
    rw [ec]
    exact ⟨.int (ns.count k : Nat), H, I.tok _, ⟨_, rfl⟩, q⟩
end
section
variable {prog : Program} {w : World} {A : Around} {E : Value → Shared → Prop} {s : Shared}
theorem rev_adjust (n : Nat) : Builtin.Slice.sliceAdjust none none (-1) (n : Int) = ((n : Int) - 1, -1) := rfl
theorem rev_places (n : Nat) : Builtin.Slice.slicePlaces ((n : Int) - 1) (-1) (-1) = n := by
  unfold Builtin.Slice.slicePlaces
  have h1 : ¬ ((-1 : Int) > 0) := by omega
  simp only [h1, if_false]
  by_cases h : (n : Int) - 1 > -1
  · rw [if_pos h]
    have e : ((n : Int) - 1 - -1 - 1) / (- -1) + 1 = n := by
      have : (- -1 : Int) = 1 := rfl
      rw [this, Int.ediv_one]; omega
    rw [e, Int.toNat_natCast]
  · rw [if_neg h]; omega
theorem rev_pick (xs : List Value) : (List.range xs.length).filterMap (fun (k : Nat) => xs.toArray[(((xs.length : Int) - 1) + (k : Int) * (-1)).toNat]?) = xs.reverse := by
  refine List.ext_getElem? fun i => ?_
  have e : (List.range xs.length).filterMap (fun (k : Nat) => xs.toArray[(((xs.length : Int) - 1) + (k : Int) * (-1)).toNat]?) = (List.range xs.length).map fun k => (xs[xs.length - 1 - k]?).getD .none := by
    have gen : ∀ l : List Nat, (∀ k ∈ l, k < xs.length) → l.filterMap (fun (k : Nat) => xs.toArray[(((xs.length : Int) - 1) + (k : Int) * (-1)).toNat]?) = l.map fun k => (xs[xs.length - 1 - k]?).getD .none := by
      intro l
      induction l with
      | nil => intro _; rfl
      | cons k l ih =>
        intro hl
        have hk := hl k List.mem_cons_self
        have e1 : (((xs.length : Int) - 1) + (k : Int) * (-1)).toNat = xs.length - 1 - k := by omega
        rw [List.filterMap_cons, List.map_cons, ih fun j hj => hl j (List.mem_cons_of_mem _ hj), e1, List.getElem?_toArray, List.getElem?_eq_getElem (show xs.length - 1 - k < xs.length by omega)]
        rfl
    exact gen _ fun k hk => List.mem_range.mp hk
  rw [e, List.getElem?_map]
  by_cases hi : i < xs.length
  · rw [List.getElem?_range hi, List.getElem?_reverse hi]
    show some ((xs[xs.length - 1 - i]?).getD .none) = _
    rw [List.getElem?_eq_getElem (by omega)]
    rfl
  · rw [List.getElem?_eq_none (by rw [List.length_range]; omega), List.getElem?_eq_none (by rw [List.length_reverse]; omega)]
    rfl
theorem rev_applied {sl : Addr} {u : Tok} {n : Nat} {Q : Int × Int × Nat → Shared → Prop} (hs : s.heap.IsSliceOf sl .none .none (.int (-1) u)) (h : Q ((n : Int) - 1, -1, n) s) :
    wpAny (model prog w) A (Builtin.Slice.sliceApplied (.ref sl) (pure (n : Int))) Q E s := by
  obtain ⟨ob, g1, g2, g3⟩ := hs
  unfold Builtin.Slice.sliceApplied Builtin.Slice.sliceFields
  refine wpAny_bind (wpAny_bind ?_)
  refine wpAny_field g1 g3 (x := .none) rfl (wpAny_bind ?_)
  refine wpAny_field g1 g3 (x := .none) rfl (wpAny_bind ?_)
  refine wpAny_field g1 g3 (x := .int (-1) u) rfl (wpAny_pure ?_)
  refine wpAny_bind (slicePart_ (.int (-1) u) ?_)
  show wpAny _ _ (if ((-1 : Int) == 0) = true then _ else _) _ _ s
  rw [if_neg (by decide)]
  refine wpAny_bind (slicePart_ .none ?_)
  refine wpAny_bind (slicePart_ .none ?_)
  refine wpAny_bind (wpAny_pure ?_)
  show wpAny _ _ (pure ((n : Int) - 1, (-1 : Int), Builtin.Slice.slicePlaces ((n : Int) - 1) (-1) (-1))) _ _ s
  rw [rev_places]
  exact wpAny_pure h
theorem rev_item {t sl : Addr} {xs : List Value} {u : Tok} {Q : Value → Shared → Prop} (ht : IsTup s.heap t xs.toArray) (hs : s.heap.IsSliceOf sl .none .none (.int (-1) u)) (hz : xs.length ≤ sizeLine)
    (h : Q (.ref s.heap.objs.size) { s with heap := s.heap.push { cls := .type "tuple", data := .seq xs.reverse.toArray } }) : wpAny (model prog w) A (getItem (.ref t) (.ref sl)) Q E s := by
  have hS : s.TypeIs (.ref sl) "slice" := by
    obtain ⟨ob, g1, g2, _⟩ := hs
    exact ⟨ob, g1, g2⟩
  have hT := ht.typeIs
  unfold getItem
  with_reducible refine wpAny_holding ?_
  refine wpAny_bind (wpAny_sequenceKey hT (by decide) ?_)
  refine wpAny_bind (wpAny_callSpecial?_slot hT PyProof.Rows.slot_tuple_getitem (name := Str.ofString "__getitem__") (wpAny_call_entry PyProof.Rows.slot_tuple_getitem hT entry_tuple_getitem ?_ (args_tuple_getitem _ _)))
  show wpAny _ _ (Builtin.Tuple.tupleItemsOf (.ref t) >>= _) _ _ s
  refine wpAny_bind (tupleItemsOf_ ht (wpAny_bind (wpAny_typeOf hS ?_)))
  refine PySem.W.KFB.if_so (by decide) ?_
  refine wpAny_bind (rev_applied (n := xs.length) hs ?_)
  have no : ¬ ((((xs.length : Int) - 1) == 0 && (-1 : Int) == 1 && xs.length == xs.toArray.size) = true) := by simp
  show wpAny _ _ (if (((xs.length : Int) - 1) == 0 && (-1 : Int) == 1 && xs.length == xs.toArray.size) = true then _ else _) _ _ s
  rw [if_neg no, rev_pick]
  have zz : sizeOk (.seq xs.reverse.toArray) := by
    show xs.reverse.toArray.size ≤ sizeLine
    rw [List.size_toArray, List.length_reverse]
    exact hz
  first
    | exact wpAny_bind (m := Builtin.Tuple.tupleExact _) (wpAny_newObj_type (wpAny_pure ⟨_, rfl, wpAny_pure h⟩) zz)
    | exact wpAny_bind (wpAny_bind (m := Builtin.Tuple.tupleExact _) (wpAny_newObj_type (wpAny_pure (wpAny_pure ⟨_, rfl, wpAny_pure h⟩)) zz))
end
section
variable {X : Cx}
/-- e[::-1] of a list or a tuple -/
def tRev (K : PySem.W.Frag) (te : TE) : TE := fun σ H Q => te σ H fun x H1 => ∃ a xs, x = .ref a ∧
  ((SqL K H1 a xs ∧ ∀ p, H1 p = none → Q (.ref p) (upd H1 p (.lst xs.reverse))) ∨ (SqT K H1 a xs ∧ ∀ p, H1 p = none → Q (.ref p) (upd H1 p (.tup xs.reverse))))
theorem pe_rev {e : Expr} {te : TE} {k : Nat} {a1 a2 a3 pos : Pos} (he : PE X e te) :
    PE X (.Subscript e (.Slice none none (some (.UnaryOp .USub (.Constant (.int 1) k a1) a2)) a3) pos) (tRev X.K te) := by
  refine ⟨fun pins s σ H Q I h => Subscript_ (thn (he.run pins s σ H _ I h) fun v s1 g => ?_)⟩
  obtain ⟨x, H1, I1, r1, a, xs, ex, q⟩ := g
  subst ex
  cases r1
  have hst : PO X (some (.UnaryOp .USub (.Constant (.int 1) k a1) a2)) (tPart (tUn (rU fun i => V.int (-i)) (L2.tC (V.int 1)))) := po_some (pe_un un_neg pe_int)
  refine wpAny_Slice (thn (po_none.run pins s1 σ H1 (fun o G => o = none ∧ G = H1) I1 ⟨rfl, rfl⟩) fun u1 s2 g1 => ?_)
  obtain ⟨o1, G1, J1, c1, d1, d2⟩ := g1
  subst d1 d2
  refine thn (po_none.run pins s2 σ G1 (fun o G => o = none ∧ G = G1) J1 ⟨rfl, rfl⟩) fun u2 s3 g2 => ?_
  obtain ⟨o2, G2, J2, c2, d3, d4⟩ := g2
  subst d3 d4
  refine thn (hst.run pins s3 σ G2 (fun o G => o = some (-1) ∧ G = G2) J2 ⟨1, rfl, -1, rfl, rfl, rfl⟩) fun u3 s4 g3 => ?_
  obtain ⟨o3, G3, J3, c3, d5, d6⟩ := g3
  subst d5 d6
  cases c1
  cases c2
  cases c3
  rename_i tk
  have J : Inv X pins σ G3 { s4 with heap := s4.heap.push { cls := .type "slice", data := .fields #[Value.none, Value.none, .int (-1) tk] } } := J3.kept (t' := s4.toks) fun b ob z => Heap.get?_push_of_some _ z
  show wpAny (model X.prog X.w) X.A (subscriptTail e (.Slice none none (some (.UnaryOp .USub (.Constant (.int 1) k a1) a2)) a3) (.ref a) (.ref s4.heap.objs.size)) (EP X pins σ Q) X.xe { s4 with heap := s4.heap.push { cls := .type "slice", data := .fields #[Value.none, Value.none, .int (-1) tk] } }
  rcases q with ⟨hx, q⟩ | ⟨hx, q⟩
  · obtain ⟨its, r, ht, hz⟩ := J.list hx
    have hl := r.length
    refine tail_any (ops := [.ref a, .ref s4.heap.objs.size]) ht.isList.typeIs (PySem.slot_list_getitem.lookup) ?_ (by with_unfolding_all rfl)
    refine wpAny_getItem_list_slice ht.isList (Heap.IsSliceOf.new _ .none .none (.int (-1) tk)) .none .none (.int _ _) (by decide) ?_ (by rw [List.size_toArray]; omega)
    rw [PySem.W.krv_pick]
    refine ⟨.ref _, _, J.laid (t' := s4.toks) (o := .lst xs.reverse) (fun b ob z => Heap.get?_push_of_some _ z) (Nat.le_refl _) ⟨?_, _, 0, r.reverse, ?_⟩, rfl, q _ (J.hok.fresh (Nat.le_refl _))⟩
    · rw [List.length_reverse]; exact hz
    · exact Heap.get?_push_size _ rfl
  · obtain ⟨its, r, ht, hz⟩ := J.tuple hx
    have hl := r.length
    refine tail_any (ops := [.ref a, .ref s4.heap.objs.size]) ht.typeIs (PyProof.Rows.slot_tuple_getitem.lookup) ?_ (by with_unfolding_all rfl)
    refine rev_item ht (Heap.IsSliceOf.new _ .none .none (.int (-1) tk)) (by omega) ?_
    refine ⟨.ref _, _, J.laid (t' := s4.toks) (o := .tup xs.reverse) (fun b ob z => Heap.get?_push_of_some _ z) (Nat.le_refl _) ⟨?_, _, r.reverse, ?_⟩, rfl, q _ (J.hok.fresh (Nat.le_refl _))⟩
    · rw [List.length_reverse]; exact hz
    · exact ⟨_, Heap.get?_push_size _ rfl, rfl, _, rfl⟩
end
section
variable {W : Wd} {T : Nat → Option Fn} {B : Tb} {c : Ck} {X : Cx} {a e : E} {x y : Expr} {pos apos cpos : Pos}
theorem rev_of (hA : At W c X) {k : Nat} {a1 a2 a3 : Pos} (h1 : PE X x (tE W T a)) : PE X (.Subscript x (.Slice none none (some (.UnaryOp .USub (.Constant (.int 1) k a1) a2)) a3) pos) (tE W T (.rev a)) := by
  refine pe_imp (pe_rev h1) fun vσ H Q ⟨m, σ, S, k, hr, rs, h, po⟩ => ?_
  simp only [ev] at h
  rw [hA.k]
  refine ⟨m, σ, S, _, hr, rs, h, fun d S1 m1 v H1 x1 hr1 r1 h1 => ?_⟩
  cases r1 <;> try (exact h1.elim)
  · rename_i ds p vs hq rs1
    exact ⟨p, vs, rfl, .inr ⟨hq, fun q hn => (po.ext x1).tup hr1 rs1.rev h1 hn⟩⟩
  · rename_i ds p vs hq na rs1
    exact ⟨p, vs, rfl, .inl ⟨.inl (.inl hq), fun q hn => (po.ext x1).lst hr1 rs1.rev h1 hn⟩⟩
/-- (a, b, ..).count(e): the tuple is new, and it keeps its items while e is told -/
def tCnt (K : PySem.W.Frag) (t : TA) (te : TE) : TE := fun σ H Q => t σ H fun xs H1 => xs.length ≤ sizeLine ∧ ∀ p, H1 p = none → te σ (upd H1 p (.tup xs)) fun y H2 => rCntT K (.ref p) [y] H2 Q
theorem pe_cnt {X : Cx} {es : List Expr} {y : Expr} {t : TA} {te : TE} {k : Nat} {tp apos cpos : Pos} (h1 : PA X es t) (h2 : PE X y te) (hs : starEach [y] X.env = [(false, eval y X.env)]) (hl : (apos.endLine == cpos.line) = true) :
    PE X (.Call (.Attribute (.Tuple es k tp) "count" apos) [y] [] cpos) (tCnt X.K t te) := by
  refine ⟨fun pins s σ H Q I h => wpAny_Call_method_late rfl (by rw [hs]; rfl) hl rfl ?_⟩
  refine wpAny_Tuple_spliced (thn (h1.run tp pins s σ H _ I h) fun us s1 g => ?_)
  obtain ⟨xs, H1, I1, r, z, q⟩ := g
  refine ⟨by rw [← r.length]; exact z, ?_⟩
  have hf := I1.hok.fresh (Nat.le_refl s1.heap.objs.size)
  have hg := q _ hf
  have I2 : Inv X pins σ (upd H1 s1.heap.objs.size (.tup xs)) { s1 with heap := s1.heap.push { cls := .type "tuple", data := .seq us.toArray } } := I1.laid (t' := s1.toks) (fun b u e => Heap.get?_push_of_some _ e) (Nat.le_refl _) ⟨z, us, r, ⟨_, Heap.get?_push_size _ rfl, rfl, _, rfl⟩⟩
  refine ⟨"tuple", "tuple.count", F.plainAttrs_tuple, F.slot_tuple_count, F.type_tuple_count, ⟨_, Heap.get?_push_size _ rfl, rfl⟩, fun a e => ?_, ?_⟩
  · cases e
    exact ⟨_, Heap.get?_push_size _ rfl, rfl⟩
  · have ha := (pa_cons h2 pa_nil hs).run cpos pins _ σ _ (fun zs H2 => rCntT X.K (.ref s1.heap.objs.size) zs H2 Q) I2 hg
    rw [hs] at ha ⊢
    refine Calls.callWith_builtin (by rfl) (Calls.evalArgs_plain ?_)
    exact thn ha fun us s2 ⟨vs, H2, J, r2, q2⟩ => mt_tcount pins s2 σ H2 (.ref s1.heap.objs.size) vs _ us Q J rfl r2 q2
theorem cntl_of (hA : At W c X) {nm : Str} {np : Pos} (hl : (apos.endLine == cpos.line) = true) (h1 : PE X (.Name nm np) (tE W T a)) (h2 : PE X y (tE W T e)) (hs : ∀ xs, starEach (y :: xs) X.env = (false, eval y X.env) :: starEach xs X.env) :
    PE X (.Call (.Attribute (.Name nm np) "count" apos) [y] [] cpos) (tE W T (.cntl a e)) := by
  have hs1 : starEach [y] X.env = [(false, eval y X.env)] := by rw [hs]; rfl
  refine pe_imp (pe_bm F.plainAttrs_list F.slot_list_count F.type_list_count mt_lcount h1 (pa_cons h2 pa_nil hs1) rfl (by rw [hs1]; rfl) hl (hs []) (by rfl)) fun vσ H Q q => ?_
  obtain ⟨m, σ, S, k, hr, rs, hev, po⟩ := q
  simp only [ev] at hev
  refine ⟨m, σ, S, _, hr, rs, hev, fun d S1 m1 v H1 x1 hr1 r1 h1 => ?_⟩
  cases r1 <;> try (exact h1.elim)
  rename_i ds p vs hq na rs1
  refine ⟨.inl ⟨rfl, vs, .inl (.inl hq)⟩, ?_⟩
  refine ⟨m1, σ, S1, _, hr1, rs.mono x1, h1, fun y S2 m2 u H3 x3 hr3 r3 h3 => ?_⟩
  cases r3 <;> try (exact h3.elim)
  rename_i i
  have r4 := RelD.mono x3 (RelD.lst hq na rs1)
  cases r4
  rename_i rs1' hq' na'
  dsimp only [cntD] at h3
  split at h3
  · rename_i is e
    have ev := rs1'.ints e
    subst ev
    exact ⟨p, is, i, rfl, rfl, hq', ((po.ext x1).ext x3).done hr3 (.int _) h3⟩
  · exact h3.elim
theorem cnt_of (hA : At W c X) {es : List E} {xs : List Expr} {k : Nat} {tp : Pos} (hl : (apos.endLine == cpos.line) = true) (hz : es.length ≤ SZ) (h1 : PA X xs (tA W T es)) (h2 : PE X y (tE W T e)) (hs : starEach [y] X.env = [(false, eval y X.env)]) :
    PE X (.Call (.Attribute (.Tuple xs k tp) "count" apos) [y] [] cpos) (tE W T (.cnt es e)) := by
  refine pe_imp (pe_cnt h1 h2 hs hl) fun vσ H Q q => ?_
  obtain ⟨m, σ, S, k, hr, rs, ha, po⟩ := q
  simp only [ev] at ha
  refine ⟨m, σ, S, _, hr, rs, ha, fun ds S1 m1 vs H1 x1 hr1 r1 hl h1 => ⟨?_, fun p hp => ?_⟩⟩
  · rw [← r1.length, hl]
    exact sz_line hz
  · have x2 := ext_new (m := m1) (o := .tup vs) hp
    refine ⟨m1, σ, S1, _, hr1.new hp, rs.mono (x1.trans x2), h1, fun y S2 m2 u H3 x3 hr3 r3 h3 => ?_⟩
    cases r3 <;> try (exact h3.elim)
    rename_i i
    dsimp only [cntD] at h3
    split at h3
    · rename_i is e
      have ev := r1.ints e
      subst ev
      refine ⟨p, is, i, rfl, rfl, ?_, (po.ext ((x1.trans x2).trans x3)).done hr3 (.int _) h3⟩
      rw [hA.k]
      exact x3.sqt (.inl (.inl upd_same))
    · exact h3.elim
end
/-! ### len(set(xs)) -/
theorem ddl_mem : ∀ {ks : List (List Int)} {x : List Int}, x ∈ ddl ks ↔ x ∈ ks
  | [], x => Iff.rfl
  | y :: ys, x => by
    unfold ddl
    split
    · rename_i h
      rw [ddl_mem (ks := ys), List.mem_cons]
      exact ⟨.inr, fun z => z.elim (fun e => e ▸ h) id⟩
    · rw [List.mem_cons, List.mem_cons, ddl_mem (ks := ys)]
theorem ddl_nd : ∀ ks : List (List Int), (ddl ks).Nodup
  | [] => List.nodup_nil
  | y :: ys => by
    unfold ddl
    split
    · exact ddl_nd ys
    · rename_i h
      exact List.nodup_cons.mpr ⟨fun z => h (ddl_mem.mp z), ddl_nd ys⟩
theorem ddl_len {ks L : List (List Int)} (nd : L.Nodup) (h : ∀ x, x ∈ L ↔ x ∈ ks) : L.length = (ddl ks).length :=
  ((List.perm_ext_iff_of_nodup nd (ddl_nd ks)).mpr fun x => (h x).trans ddl_mem.symm).length_eq
theorem rws_rel {K : PySem.W.Frag} {m : Ms} {H : Hp} : ∀ {ds : List D} {vs : List V} {ks : List (List Int)}, RelDs K m H ds vs → rws? ds = some ks → ∃ ps : List (Addr × List Int), vs = (ps.map fun p => V.ref p.1) ∧ ps.map (·.2) = ks ∧ ∀ p ∈ ps, SqT K H p.1 (p.2.map V.int)
  | _, _, ks, .nil, e => by
    have : ks = [] := (Option.some.inj e).symm
    subst this
    exact ⟨[], rfl, rfl, fun p hp => by cases hp⟩
  | _, _, ks, .cons r t, e => by
    cases r <;> try (cases e; done)
    rename_i ds vs xs a ws hs rs
    simp only [rws?] at e
    split at e
    · rename_i is ei
      cases q : rws? ds with
      | none => rw [q] at e; cases e
      | some js =>
        rw [q] at e
        have : ks = is :: js := (Option.some.inj e).symm
        subst this
        obtain ⟨ps, e1, e2, e3⟩ := rws_rel t q
        have ew := rs.ints ei
        subst ew
        refine ⟨(a, is) :: ps, by rw [e1]; rfl, by rw [← e2]; rfl, fun p hp => ?_⟩
        rcases List.mem_cons.mp hp with z | z
        · rw [z]; exact hs
        · exact e3 p z
    · cases e
/-- len(set(e)), e a list of rows of whole numbers -/
def tNset (K : PySem.W.Frag) (te : TE) : TE := fun σ H Q => te σ H fun x H1 => ∃ (l : Addr) (ps : List (Addr × List Int)), x = .ref l ∧ SqL K H1 l (ps.map fun p => V.ref p.1) ∧ (∀ p ∈ ps, SqT K H1 p.1 (p.2.map V.int)) ∧ ps.length < 64 ∧ Q (.int (ddl (ps.map (·.2))).length) H1
theorem pe_nset {X : Cx} {y : Expr} {te : TE} {p p2 pos pos2 : Pos} (hc : X.calm = true) (hu : X.A.units + 64 < cLine) (hg : Gl X "len") (hm : X.mg "len" = none) (hg2 : Gl X "set") (hm2 : X.mg "set" = none) (hy : PE X y te)
    (na : starEach [y] X.env = (false, eval y X.env) :: starEach [] X.env) : PE X (.Call (.Name "len" p) [.Call (.Name "set" p2) [y] [] pos2] [] pos) (tNset X.K te) := by
  refine ⟨fun pins s σ H Q I h => Call_ (ld_blt I hg hm PySem.boot_len ?_)⟩
  refine PyProof.Rows.callWith_builtin1 (PyProof.Rows.args_cons (Call_ (ld_blt I hg2 hm2 PyProof.Rows.boot_set ?_)) rfl) rfl rfl
  refine PyProof.Rows.callWith_type1 (PyProof.Rows.args_cons (thn (hy.run pins s σ H _ I h) fun v s1 g => PyProof.Rows.args_nil ?_) na) na rfl
  obtain ⟨x, H1, I1, r1, l, ps, ex, hq, hk, hf, q⟩ := g
  subst ex
  cases r1
  obtain ⟨its, rv, pl, hz⟩ := I1.list hq
  refine call_set_tups (P := X.prog) (w := X.w) ps (I1.ok.hd hc) pl.isList (by simpa using refs_of_vals rv) (fun p hp => I1.isT (hk p hp)) hf (by omega) fun h' tk L es ep t R G keep => ?_
  refine PyProof.Rows.args_nil ?_
  have J : Inv X pins σ H1 { s1 with heap := h', toks := tk } := I1.kept (t' := tk) keep
  obtain ⟨o, ho, hex, hd⟩ := R.ob
  have el : L.length = (ddl (ps.map (·.2))).length := by
    rw [← List.length_map (f := (·.2))]
    refine ddl_len R.nd fun z => ⟨fun hz => ?_, fun hz => ?_⟩
    · obtain ⟨p, hp, e⟩ := List.mem_map.mp hz
      exact List.mem_map.mpr ⟨p, List.mem_of_mem_take (G.sub p hp), e⟩
    · obtain ⟨p, hp, e⟩ := List.mem_map.mp hz
      rw [← e]
      exact G.all p (by rw [List.take_length]; exact hp)
  have es' : es.size = L.length := R.size (s := { s1 with heap := h', toks := tk })
  have hfew := R.few
  refine call_len_set ho hex hd (R.fits (s := { s1 with heap := h', toks := tk })) (by omega) ?_
  rw [es', el]
  exact ⟨.int (ddl (ps.map (·.2))).length, H1, J.tok _, ⟨_, rfl⟩, q⟩
section
variable {W : Wd} {T : Nat → Option Fn} {B : Tb} {c : Ck} {X : Cx} {a : E} {y : Expr}
theorem nset_of (w : WOk W T B) (hA : At W c X) {x1 x2 : Str} {p p2 pos pos2 : Pos} (g1 : isG c x1 = true) (g2 : isG c x2 = true) (e1 : x1 = "len") (e2 : x2 = "set") (h1 : PE X y (tE W T a)) (na : starEach [y] X.env = (false, eval y X.env) :: starEach [] X.env) :
    PE X (.Call (.Name x1 p) [.Call (.Name x2 p2) [y] [] pos2] [] pos) (tE W T (.nset a)) := by
  subst e1 e2
  refine pe_imp (pe_nset hA.calm hA.room.units (hA.gl g1).1 (by rw [hA.mg]; exact w.bi .len (fun z => by cases z)) (hA.gl g2).1 (by rw [hA.mg]; exact w.set) h1 na) fun vσ H Q ⟨m, σ, S, k, hr, rs, h, po⟩ => ?_
  simp only [ev] at h
  rw [hA.k]
  have fin : ∀ (ds : List FV.D) (vs : List V) (m1 : Ms) (S1 : Store) (H1 : Hp) (l : Addr), Ext m H m1 H1 → HR W.K m1 S1 H1 → SqL W.K H1 l vs → RelDs W.K m1 H1 ds vs → nsetD ds (fun n => k (.int n) S1) →
      ∃ (l' : Addr) (ps : List (Addr × List Int)), V.ref l = .ref l' ∧ SqL W.K H1 l' (ps.map fun p => V.ref p.1) ∧ (∀ p ∈ ps, SqT W.K H1 p.1 (p.2.map V.int)) ∧ ps.length < 64 ∧ Q (.int (ddl (ps.map (·.2))).length) H1 := by
    intro ds vs m1 S1 H1 l x1 hr1 hs rd hn
    unfold nsetD at hn
    split at hn
    · rename_i ks ek
      obtain ⟨ps, q1, q2, q3⟩ := rws_rel rd ek
      subst q1 q2
      refine ⟨l, ps, rfl, hs, q3, by rw [← List.length_map (f := (·.2))]; exact hn.1, (po.ext x1).done hr1 (.int _) hn.2⟩
    · exact hn.elim
  refine ⟨m, σ, S, _, hr, rs, h, fun d S1 m1 v H1 x1 hr1 r1 h1 => ?_⟩
  cases r1 <;> try (exact h1.elim)
  · rename_i ds p vs hs n rd
    exact fin ds vs m1 S1 H1 _ x1 hr1 (.inl (.inl hs)) rd h1
  · rename_i l p hl
    have h1 : (match cl S1 l with | some ds => nsetD ds (fun n => k (.int n) S1) | none => False) := h1
    split at h1
    · rename_i ds e
      obtain ⟨vs, q, rd⟩ := hr1.at_ l ds p e hl
      exact fin ds vs m1 S1 H1 _ x1 hr1 (.inl (.inl q)) rd h1
    · exact h1.elim
end
end FV
set_option Elab.async false
set_option linter.all false
set_option maxRecDepth 100000
set_option maxHeartbeats 4000000
/-! TupEnum: enumerate over a tuple. -/
namespace FV
open PySem PySem.Spec PySem.W PyProof.Rows L2
theorem meets_en1 {v : Value} {o : Obj} {G : Heap → Prop} (B : Begins v o G) :
    Meets (Builtin.«enumerate.__new__» ⟨[.type "enumerate", v], []⟩) (fun _ R s => G s.heap ∧
      R (.ok (.ret (.ref (s.heap.push o).objs.size))) { s with heap := (s.heap.push o).push { cls := .type "enumerate", data := .fields #[.none, .bool false, .ref s.heap.objs.size, rawInt 0, .none, .none] } }) :=
  .of_wp fun prog w A R s h => by
    obtain ⟨hp, g, d, tk, os⟩ := s
    obtain ⟨h1, h⟩ := h
    have hsub := sub_enumerate
    have q1 : ∀ {A' : Around} {E : Value → Shared → Prop} {Q : Value → Shared → Prop}, Q (.ref hp.objs.size) ⟨hp.push o, g, d, tk, os⟩ → wpAny (model prog w) A' (pyIter v) Q E ⟨hp, g, d, tk, os⟩ := fun q => B.iter prog w _ _ ⟨hp, g, d, tk, os⟩ _ h1 q
    wp_walk using q1
    refine wpAny_stack_any fun st => wpAny_pure ?_
    split
    · rename_i c _ _ _ _ _
      cases (c == Value.type "enumerate")
      · wp_walk using q1
        exact ⟨_, rfl, h⟩
      · wp_walk using q1
        exact ⟨_, rfl, h⟩
    · wp_walk using q1
      exact ⟨_, rfl, h⟩
section
variable {prog : Program} {w : World} {A : Around} {E : Value → Shared → Prop} {s : Shared}
/-- enumerate(v): its two new objects -/
theorem en1_begins {v : Value} {o : Obj} {G : Heap → Prop} {Q : Value → Shared → Prop} (B : Begins v o G) (h1 : G s.heap)
    (h : ∀ h', IsEnum h' (s.heap.objs.size + 1) s.heap.objs.size 0 .none → h'.get? s.heap.objs.size = some o → (∀ b u, s.heap.get? b = some u → h'.get? b = some u) → Q (.ref (s.heap.objs.size + 1)) { s with heap := h' }) :
    wpAny (model prog w) A (call (.type "enumerate") [v]) Q E s := by
  refine callType_new F.called_enumerate (by decide) (F.typeCall_enumerate_1 _) (F.newCall_enumerate_1 _) (fun obj => F.args_object_init_2 obj _) F.entry_enumerate_new (meets_en1 B) ⟨h1, ?_⟩
  have sz : (s.heap.push o).objs.size = s.heap.objs.size + 1 := Heap.size_push ..
  show _ ∧ _
  rw [sz]
  have en : IsEnum ((s.heap.push o).push { cls := .type "enumerate", data := .fields #[.none, .bool false, .ref s.heap.objs.size, rawInt 0, .none, .none] }) (s.heap.objs.size + 1) s.heap.objs.size 0 .none := by
    have q := Heap.get?_push_size (s.heap.push o) (o := { cls := .type "enumerate", data := .fields #[.none, .bool false, .ref s.heap.objs.size, rawInt 0, .none, .none] }) rfl
    rw [sz] at q
    exact q
  exact ⟨⟨_, en, rfl⟩, h _ en (Heap.get?_push_of_some _ (Heap.get?_push_size _ B.free)) fun b u x => Heap.get?_push_of_some _ (Heap.get?_push_of_some _ x)⟩
end
/-- the tuple at a, each item in a new pair -/
def Iet (K : PySem.W.Frag) (a : Addr) : It :=
  ⟨fun i H => ∃ (xs : List V) (x : V), SqT K H a xs ∧ xs[i]? = some x,
    fun i H v H' => ∃ p x, v = .ref p ∧ H p = none ∧ H' = upd H p (.tup [.int (i : Nat), x]) ∧ ∀ xs, SqT K H a xs → xs[i]? = some x,
    fun i H => ∃ xs : List V, SqT K H a xs ∧ xs.length ≤ i⟩
theorem turn_et {P : Program} {w : World} {K : PySem.W.Frag} {elts : List Expr} {kk : Nat} {tpos : Pos} (a e it : Addr) :
    Turn P w K (.Tuple elts kk tpos) (Iet K a) [e, it] e (fun i h => (∃ old, IsEnum h e it ((i : Nat) : Int) old) ∧ h.IsTupleIter it a i ∧ e ≠ it ∧ a ≠ e ∧ a ≠ it) where
  mem := by simp
  obj := fun i h st b hb => by
    obtain ⟨⟨old, he⟩, ⟨o, ho, hc, hd⟩, _⟩ := st
    have eb : b = e ∨ b = it := by simpa using hb
    rcases eb with rfl | rfl
    · exact ⟨_, he, fun v q => nomatch q⟩
    · exact ⟨o, ho, fun v q => by rw [hd] at q; cases q⟩
  keep := fun i h h' st k => let ⟨⟨old, he⟩, hi, hne⟩ := st; ⟨⟨old, k e (by simp) _ he⟩, hi.at fun o q => k it (by simp) o q, hne⟩
  item := by
    intro X hP hw hK hc i pins s σ H E I hf st hg
    subst hP hw hK
    obtain ⟨⟨old, he⟩, hit, hne, hae, hai⟩ := st
    obtain ⟨xs, x, hq, hx⟩ := hg
    obtain ⟨its, rv, p, hz⟩ := I.tuple hq
    obtain ⟨u, hu, ru⟩ := rv.get hx
    have hel : e < s.heap.objs.size := Heap.lt_size he
    have hil : it < s.heap.objs.size := by obtain ⟨_, q, _⟩ := hit; exact Heap.lt_size q
    have hsz : i < its.toArray.size := by
      have := (List.getElem?_eq_some_iff.mp hu).1
      simpa using this
    have D := Draws.tuple (prog := X.prog) (w := X.w) (A := X.A.in1) (I.ok.hd hc) it a hai its.toArray
    refine wpAny_pyNext_enum_itemD D he ⟨hit, show s.heap.IsTuple a its.toArray from p⟩ hsz hne (by simp [hne, Ne.symm hae]) fun y h' tk hy ho hst hT hs2 hk => ?_
    have ey : y = u := by
      have q : its.toArray[i]? = some u := by simpa using hu
      rw [q] at hy
      exact (Option.some.inj hy).symm
    subst ey
    refine ⟨_, rfl, wpAny_letOwnedTupleGo_enum (s := { s with heap := h', toks := tk + 1 }) ho fun h2 he2 sb => ?_⟩
    have hT2 : h2.get? s.heap.objs.size = some { cls := .type "tuple", data := .seq #[.int i tk, y] } := (sb.2 _ (Nat.ne_of_gt hel)).trans hT
    have fresh : ObjOk X.prog X.w (upd H s.heap.objs.size (.tup [.int (i : Nat), x])) h2 s.heap.objs.size (.tup [.int (i : Nat), x]) :=
      ⟨by show 2 ≤ sizeLine; decide, [.int i tk, y], .cons ⟨_, rfl⟩ (.cons ru .nil), ⟨_, hT2, rfl, _, rfl⟩⟩
    have J : Inv X pins σ (upd H s.heap.objs.size (.tup [.int (i : Nat), x])) { s with heap := h2, toks := tk + 1 } :=
      I.turnedNew (ch := [e, it]) (fun b ob hb q => (sb.2 b (fun z => hb (by simp [z]))).trans (hk b ob (fun z => hb (by simp [z])) (fun z => hb (by simp [z])) q)) hf (Nat.le_refl _) fresh
    refine ⟨.ref s.heap.objs.size, _, J, rfl, ⟨_, x, rfl, I.hok.fresh (Nat.le_refl _), rfl, fun ys hy => by rw [I.tuple_inj hy hq]; exact hx⟩, ⟨⟨y, ?_⟩, hst.1.at fun o q => (sb.2 it (Ne.symm hne)).trans q, hne, hae, hai⟩, fun b hb => ?_⟩
    · have e1 : ((i + 1 : Nat) : Int) = (i : Int) + 1 := by omega
      rw [e1]
      exact he2
    · have eb : b = e ∨ b = it := by simpa using hb
      have lt : b < s.heap.objs.size := by rcases eb with z | z <;> rw [z] <;> assumption
      rw [upd_ne (Nat.ne_of_lt lt)]
      exact (hf b hb).1
  done := by
    intro X hP hw hK hc i pins s σ H E I hf st hg
    subst hP hw hK
    obtain ⟨⟨old, he⟩, hit, hne, hae, hai⟩ := st
    obtain ⟨xs, hq, hx⟩ := hg
    obtain ⟨its, rv, p, hz⟩ := I.tuple hq
    obtain ⟨f0, f1, f2, f3, f4, f5⟩ := hf it (by simp)
    have hl := rv.length
    have D : Draws X.prog X.w X.A.in1 it [it, a] i (fun _ _ => False) (fun j h => j = i ∧ h.IsTupleIter it a i ∧ h.IsTuple a its.toArray) := by
      refine ⟨fun _ _ z => ?_, fun _ _ _ z hk => ?_, fun j s Q E hj z => ?_, fun s Q E z hE => ?_⟩
      · obtain ⟨_, ⟨o, ho, _⟩, _⟩ := z
        exact ⟨o, ho⟩
      · exact ⟨z.1, z.2.1.at fun o e => hk it (by simp) o e, z.2.2.at fun o e => hk a (by simp) o e⟩
      · exact absurd z.1 (Nat.ne_of_lt hj)
      · exact wpAny_nextOf_tuple_end (I.ok.hd hc) z.2.1 z.2.2 (by simp; omega) hE
    exact wpAny_pyNext_enum_endD D he ⟨rfl, hit, show s.heap.IsTuple a its.toArray from p⟩ fun h' eb => ⟨rfl, I.turned (t' := s.toks) (fun b o hb q => eb b o hb q) f0 f1 f3 f4 f5⟩
  self := fun A i s Q E st h => let ⟨⟨_, he⟩, _⟩ := st; wpAny_pyIter_enum he h
/-- a list, or a tuple -/
def iEn (K : PySem.W.Frag) (ta : TA) : TI := fun σ H R => ta σ H fun vs H1 => ∃ a xs, vs = [.ref a] ∧ ((SqL K H1 a xs ∧ R (Ite K a) H1) ∨ (SqT K H1 a xs ∧ R (Iet K a) H1))
theorem pi_en {X : Cx} {e : Expr} {ta : TA} {p pos tpos : Pos} {elts : List Expr} {kk : Nat} (hg : Gl X "enumerate") (hm : X.mg "enumerate" = none) (ha : PA X [e] ta) (hs : starEach [e] X.env = [(false, eval e X.env)] := by rfl) :
    PI X (.Tuple elts kk tpos) (.Call (.Name "enumerate" p) [e] [] pos) (iEn X.K ta) := by
  refine ⟨fun pins s σ H R I h => ?_⟩
  refine Call_ (ld_blt I hg hm boot_enumerate (PyProof.Rows.callWith_type1 (thn (ha.run pos pins s σ H _ I h) fun us s1 ⟨vs, H1, I1, r1, q1⟩ => ?_) hs rfl))
  obtain ⟨a, xs, ex, hd⟩ := q1
  subst ex
  cases r1 with
  | cons r rr =>
    cases rr
    cases r
    rcases hd with ⟨hq, q⟩ | ⟨hq, q⟩
    · obtain ⟨its, rv, p', hz⟩ := I1.list hq
      refine call_enumerate_list p'.isList fun h' he hit hsz hk => wpAny_pyIter_enum he ?_
      have J : Inv X pins σ H1 { s1 with heap := h' } := I1.kept (t' := s1.toks) hk
      refine ⟨s1.heap.objs.size + 1, [s1.heap.objs.size + 1, s1.heap.objs.size], _, _, H1, rfl, J, turn_enum a (s1.heap.objs.size + 1) s1.heap.objs.size, ⟨⟨.none, he⟩, hit, Nat.succ_ne_self _⟩, fun b hb => ?_, q⟩
      have eb : b = s1.heap.objs.size + 1 ∨ b = s1.heap.objs.size := by simpa using hb
      have le : s1.heap.objs.size ≤ b := by rcases eb with z | z <;> rw [z] <;> omega
      exact I1.fpOk le (I1.hok.fresh le)
    · obtain ⟨its, rv, p', hz⟩ := I1.tuple hq
      have pt : s1.heap.IsTuple a its.toArray := p'
      have hal : a < s1.heap.objs.size := by obtain ⟨_, q, _⟩ := pt; exact Heap.lt_size q
      refine en1_begins (begins_tuple a its.toArray) pt fun h' he hit hk => wpAny_pyIter_enum he ?_
      have J : Inv X pins σ H1 { s1 with heap := h' } := I1.kept (t' := s1.toks) hk
      refine ⟨s1.heap.objs.size + 1, [s1.heap.objs.size + 1, s1.heap.objs.size], _, _, H1, rfl, J, turn_et a (s1.heap.objs.size + 1) s1.heap.objs.size, ⟨⟨.none, he⟩, ⟨_, hit, rfl, rfl⟩, Nat.succ_ne_self _, Nat.ne_of_lt (Nat.lt_succ_of_lt hal), Nat.ne_of_lt hal⟩, fun b hb => ?_, q⟩
      have eb : b = s1.heap.objs.size + 1 ∨ b = s1.heap.objs.size := by simpa using hb
      have le : s1.heap.objs.size ≤ b := by rcases eb with z | z <;> rw [z] <;> omega
      exact I1.fpOk le (I1.hok.fresh le)
end FV
set_option Elab.async false
set_option linter.all false
set_option maxRecDepth 100000
set_option maxHeartbeats 4000000
/-! TupZip: zip of a tuple with a list. -/
namespace FV
open PySem PySem.Spec PySem.W PyProof.Rows L2
/-- a tuple's iterator from where it stands -/
theorem drawsT_from {prog : Program} {w : World} {A : Around} (hh : A.handled = none) (it t : Addr) (hne : t ≠ it) (items : Array Value) (i : Nat) :
    Draws prog w A it [it, t] (max i items.size) (fun j v => items[j]? = some v) (fun j h => i ≤ j ∧ h.IsTupleIter it t j ∧ h.IsTuple t items) where
  live := fun _ _ st => let ⟨o, ho, _⟩ := st.2.1; ⟨o, ho⟩
  frame := fun _ _ _ st hk => ⟨st.1, st.2.1.at fun o e => hk it (by simp) o e, st.2.2.at fun o e => hk t (by simp) o e⟩
  item := fun j s Q E hj st hQ => by
    have hi : j < items.size := by have := st.1; omega
    refine wpAny_nextOf_tuple_item st.2.1 st.2.2 (x := items[j]) (by simp [hi]) fun h' hit' hs' => ?_
    exact hQ _ h' s.toks (by simp [hi]) ⟨Nat.le_succ_of_le st.1, hit', st.2.2.extBut hs'.extBut hne⟩ hs'
  done := fun s Q E st hE => wpAny_nextOf_tuple_end hh st.2.1 st.2.2 (by simp; omega) hE
theorem drawsL_from {prog : Program} {w : World} {A : Around} (hh : A.handled = none) (it l : Addr) (hne : l ≠ it) (items : Array Value) (i : Nat) :
    Draws prog w A it [it, l] (max i items.size) (fun j v => items[j]? = some v) (fun j h => i ≤ j ∧ h.IsListIter it l j ∧ h.IsList l items) where
  live := fun _ _ st => let ⟨o, ho, _⟩ := st.2.1; ⟨o, ho⟩
  frame := fun _ _ _ st hk => ⟨st.1, st.2.1.at fun o e => hk it (by simp) o e, st.2.2.at fun o e => hk l (by simp) o e⟩
  item := fun j s Q E hj st hQ => by
    have hi : j < items.size := by have := st.1; omega
    refine wpAny_nextOf_list_item st.2.1 st.2.2 (x := items[j]) (by simp [hi]) fun h' hit' hs' => ?_
    exact hQ _ h' s.toks (by simp [hi]) ⟨Nat.le_succ_of_le st.1, hit', st.2.2.extBut hs'.extBut hne⟩ hs'
  done := fun s Q E st hE => wpAny_nextOf_list_end hh st.2.1 st.2.2 (by simp; omega) hE
/-- the tuple at a and the list at b, the items in new pairs -/
def Itm (K : PySem.W.Frag) (a b : Addr) : It :=
  ⟨fun i H => ∃ (xs ys : List V) (x y : V), SqT K H a xs ∧ SqL K H b ys ∧ xs[i]? = some x ∧ ys[i]? = some y,
    fun i H v H' => ∃ T x y, v = .ref T ∧ H T = none ∧ H' = upd H T (.tup [x, y]) ∧ (∀ xs, SqT K H a xs → xs[i]? = some x) ∧ ∀ ys, SqL K H b ys → ys[i]? = some y,
    fun i H => ∃ xs ys : List V, SqT K H a xs ∧ SqL K H b ys ∧ (xs.length ≤ i ∨ ys.length ≤ i)⟩
theorem sep_of {z TI TO i1 i2 l1 l2 : Addr} (D : ZipApart z TI TO i1 i2 l1 l2) : ZipSep2 z TI TO i1 i2 [i1, l1] [i2, l2] where
  TIz := D.TIz
  TOz := D.TOz
  TITO := D.TITO
  TIi1 := D.TIi1
  mem1 := by simp
  zf1 := by simp [D.i1z.symm, D.l1z.symm]
  Tf1 := by simp [D.TOi1, D.l1TO.symm]
  TIi2 := D.TIi2
  mem2 := by simp
  zf2 := by simp [D.i2z.symm, D.l2z.symm]
  Tf2 := by simp [D.TOi2, D.l2TO.symm]
  sep1_2 := by simp [D.i12, D.l2i1.symm]
  sep2_1 := by simp [D.i12.symm, D.l1i2.symm]
theorem turn_zm {P : Program} {w : World} {K : PySem.W.Frag} {elts : List Expr} {kk : Nat} {tpos : Pos} {a b z TI TO i1 i2 : Addr} (D : ZipApart z TI TO i1 i2 a b) :
    Turn P w K (.Tuple elts kk tpos) (Itm K a b) [z, TI, TO, i1, i2] z (fun i h => IsZip h z TI TO .none ∧ IsPair h TI (.ref i1) (.ref i2) ∧ (∃ x y, IsPair h TO x y) ∧ h.IsTupleIter i1 a i ∧ h.IsListIter i2 b i) where
  mem := by simp
  obj := fun i h st c hc => by
    obtain ⟨hz, hTI, ⟨x, y, hTO⟩, ⟨o1, e1, _, d1⟩, ⟨o2, e2, _, d2⟩⟩ := st
    have e' : c = z ∨ c = TI ∨ c = TO ∨ c = i1 ∨ c = i2 := by simpa using hc
    rcases e' with q | q | q | q | q
    · rw [q]; exact ⟨_, hz, fun v q => nomatch q⟩
    · rw [q]; exact ⟨_, hTI, fun v q => nomatch q⟩
    · rw [q]; exact ⟨_, hTO, fun v q => nomatch q⟩
    · rw [q]; exact ⟨o1, e1, fun v q => by rw [d1] at q; cases q⟩
    · rw [q]; exact ⟨o2, e2, fun v q => by rw [d2] at q; cases q⟩
  keep := fun i h h' st k => by
    obtain ⟨hz, hTI, ⟨x, y, hTO⟩, h1, h2⟩ := st
    exact ⟨k z (by simp) _ hz, k TI (by simp) _ hTI, ⟨x, y, k TO (by simp) _ hTO⟩, h1.at fun o q => k i1 (by simp) o q, h2.at fun o q => k i2 (by simp) o q⟩
  item := by
    intro X hP hw hK hc i pins s σ H E I hf st hg
    subst hP hw hK
    obtain ⟨hz, hTI, ⟨x0, y0, hTO⟩, h1, h2⟩ := st
    obtain ⟨xs, ys, x, y, hqx, hqy, hx, hy⟩ := hg
    obtain ⟨its, rv, p, _⟩ := I.tuple hqx
    obtain ⟨its2, rv2, p2, _⟩ := I.list hqy
    obtain ⟨u, hu, ru⟩ := rv.get hx
    obtain ⟨u2, hu2, ru2⟩ := rv2.get hy
    have hzl : z < s.heap.objs.size := Heap.lt_size hz
    have l1 : i < its.toArray.size := by
      have := (List.getElem?_eq_some_iff.mp hu).1
      simpa using this
    have l2 : i < its2.toArray.size := by
      have := (List.getElem?_eq_some_iff.mp hu2).1
      simpa using this
    have D1 := drawsT_from (prog := X.prog) (w := X.w) (A := X.A.in1) (I.ok.hd hc) i1 a D.l1i1 its.toArray i
    have D2 := drawsL_from (prog := X.prog) (w := X.w) (A := X.A.in1) (I.ok.hd hc) i2 b D.l2i2 its2.toArray i
    refine wpAny_pyNext_zipD2_item (sep_of D) D1 D2 hz hTI hTO ⟨Nat.le_refl _, h1, show s.heap.IsTuple a its.toArray from p⟩ ⟨Nat.le_refl _, h2, p2.isList⟩ (by omega) (by omega) fun y1 y2 h' tk hy1 hy2 z' TO' st1 st2 hT hsz hk => ?_
    have ey1 : y1 = u := by
      have q : its.toArray[i]? = some u := by simpa using hu
      rw [q] at hy1
      exact (Option.some.inj hy1).symm
    have ey2 : y2 = u2 := by
      have q : its2.toArray[i]? = some u2 := by simpa using hu2
      rw [q] at hy2
      exact (Option.some.inj hy2).symm
    subst ey1 ey2
    have h1' := st1.2.1
    have h2' := st2.2.1
    refine ⟨_, rfl, wpAny_letOwnedTupleGo_zip (s := { s with heap := h', toks := tk }) z' fun h'' z'' sb => ?_⟩
    have hT2 : h''.get? s.heap.objs.size = some { cls := .type "tuple", data := .seq #[y1, y2] } := (sb.2 _ (Nat.ne_of_gt hzl)).trans hT
    have new : ObjOk X.prog X.w (upd H s.heap.objs.size (.tup [x, y])) h'' s.heap.objs.size (.tup [x, y]) :=
      ⟨by show 2 ≤ sizeLine; decide, [y1, y2], .cons ru (.cons ru2 .nil), ⟨_, hT2, rfl, _, rfl⟩⟩
    have I1 : Inv X pins σ (upd H s.heap.objs.size (.tup [x, y])) { s with heap := h'', toks := tk } :=
      I.turnedNew (t' := tk) (ch := [z, TI, TO, i1, i2]) (fun c o hb q => (sb.2 c (fun q' => hb (by simp [q']))).trans (hk c o (fun q' => hb (by simp [q'])) (fun q' => hb (by simp [q'])) (fun q' => hb (by simp [q'])) (fun q' => hb (by simp [q'])) q)) hf (Nat.le_refl _) new
    refine ⟨.ref s.heap.objs.size, _, I1, rfl, ⟨_, x, y, rfl, I.hok.fresh (Nat.le_refl _), rfl, fun l hl => by rw [I.tuple_inj hl hqx]; exact hx, fun l hl => by rw [I.list_inj hl hqy]; exact hy⟩, ⟨z'', ?_, ⟨y1, y2, ?_⟩, ?_, ?_⟩, fun c hcm => ?_⟩
    · exact (sb.2 _ D.TIz).trans (hk _ _ D.TIz D.TITO D.TIi1 D.TIi2 hTI)
    · exact (sb.2 _ D.TOz).trans TO'
    · exact h1'.at fun o q => (sb.2 _ D.i1z).trans q
    · exact h2'.at fun o q => (sb.2 _ D.i2z).trans q
    · have hlt : c < s.heap.objs.size := by
        have e' : c = z ∨ c = TI ∨ c = TO ∨ c = i1 ∨ c = i2 := by simpa using hcm
        rcases e' with q | q | q | q | q
        · rw [q]; exact hzl
        · rw [q]; exact Heap.lt_size hTI
        · rw [q]; exact Heap.lt_size hTO
        · rw [q]; obtain ⟨_, e1, _⟩ := h1; exact Heap.lt_size e1
        · rw [q]; obtain ⟨_, e2, _⟩ := h2; exact Heap.lt_size e2
      rw [upd_ne (Nat.ne_of_lt hlt)]
      exact (hf c hcm).1
  done := by
    intro X hP hw hK hc i pins s σ H E I hf st hg
    subst hP hw hK
    obtain ⟨hz, hTI, ⟨x0, y0, hTO⟩, h1, h2⟩ := st
    obtain ⟨xs, ys, hqx, hqy, hend⟩ := hg
    obtain ⟨its, rv, p, _⟩ := I.tuple hqx
    obtain ⟨its2, rv2, p2, _⟩ := I.list hqy
    have l1 := rv.length
    have l2 := rv2.length
    have z1 : its.toArray.size = its.length := by simp
    have z2 : its2.toArray.size = its2.length := by simp
    have D1 := drawsT_from (prog := X.prog) (w := X.w) (A := X.A.in1) (I.ok.hd hc) i1 a D.l1i1 its.toArray i
    have D2 := drawsL_from (prog := X.prog) (w := X.w) (A := X.A.in1) (I.ok.hd hc) i2 b D.l2i2 its2.toArray i
    exact wpAny_pyNext_zipD2_end (sep_of D) D1 D2 hz hTI hTO ⟨Nat.le_refl _, h1, show s.heap.IsTuple a its.toArray from p⟩ ⟨Nat.le_refl _, h2, p2.isList⟩ (by omega) (by omega) (by omega) fun h' tk hk => ⟨rfl, I.turnedL (t' := tk) (ch := [z, TI, TO, i1, i2]) (fun c o hb q =>
      hk c o (fun q' => hb (by simp [q'])) (fun q' => hb (by simp [q'])) (fun q' => hb (by simp [q'])) (fun q' => hb (by simp [q'])) q) hf⟩
  self := fun A i s Q E st h => wpAny_pyIter_zip st.1 h
/-- the list at a and the tuple at b, the items in new pairs -/
def Itn (K : PySem.W.Frag) (a b : Addr) : It :=
  ⟨fun i H => ∃ (xs ys : List V) (x y : V), SqL K H a xs ∧ SqT K H b ys ∧ xs[i]? = some x ∧ ys[i]? = some y,
    fun i H v H' => ∃ T x y, v = .ref T ∧ H T = none ∧ H' = upd H T (.tup [x, y]) ∧ (∀ xs, SqL K H a xs → xs[i]? = some x) ∧ ∀ ys, SqT K H b ys → ys[i]? = some y,
    fun i H => ∃ xs ys : List V, SqL K H a xs ∧ SqT K H b ys ∧ (xs.length ≤ i ∨ ys.length ≤ i)⟩
theorem turn_zn {P : Program} {w : World} {K : PySem.W.Frag} {elts : List Expr} {kk : Nat} {tpos : Pos} {a b z TI TO i1 i2 : Addr} (D : ZipApart z TI TO i1 i2 a b) :
    Turn P w K (.Tuple elts kk tpos) (Itn K a b) [z, TI, TO, i1, i2] z (fun i h => IsZip h z TI TO .none ∧ IsPair h TI (.ref i1) (.ref i2) ∧ (∃ x y, IsPair h TO x y) ∧ h.IsListIter i1 a i ∧ h.IsTupleIter i2 b i) where
  mem := by simp
  obj := fun i h st c hc => by
    obtain ⟨hz, hTI, ⟨x, y, hTO⟩, ⟨o1, e1, _, d1⟩, ⟨o2, e2, _, d2⟩⟩ := st
    have e' : c = z ∨ c = TI ∨ c = TO ∨ c = i1 ∨ c = i2 := by simpa using hc
    rcases e' with q | q | q | q | q
    · rw [q]; exact ⟨_, hz, fun v q => nomatch q⟩
    · rw [q]; exact ⟨_, hTI, fun v q => nomatch q⟩
    · rw [q]; exact ⟨_, hTO, fun v q => nomatch q⟩
    · rw [q]; exact ⟨o1, e1, fun v q => by rw [d1] at q; cases q⟩
    · rw [q]; exact ⟨o2, e2, fun v q => by rw [d2] at q; cases q⟩
  keep := fun i h h' st k => by
    obtain ⟨hz, hTI, ⟨x, y, hTO⟩, h1, h2⟩ := st
    exact ⟨k z (by simp) _ hz, k TI (by simp) _ hTI, ⟨x, y, k TO (by simp) _ hTO⟩, h1.at fun o q => k i1 (by simp) o q, h2.at fun o q => k i2 (by simp) o q⟩
  item := by
    intro X hP hw hK hc i pins s σ H E I hf st hg
    subst hP hw hK
    obtain ⟨hz, hTI, ⟨x0, y0, hTO⟩, h1, h2⟩ := st
    obtain ⟨xs, ys, x, y, hqx, hqy, hx, hy⟩ := hg
    obtain ⟨its, rv, p, _⟩ := I.list hqx
    obtain ⟨its2, rv2, p2, _⟩ := I.tuple hqy
    obtain ⟨u, hu, ru⟩ := rv.get hx
    obtain ⟨u2, hu2, ru2⟩ := rv2.get hy
    have hzl : z < s.heap.objs.size := Heap.lt_size hz
    have l1 : i < its.toArray.size := by
      have := (List.getElem?_eq_some_iff.mp hu).1
      simpa using this
    have l2 : i < its2.toArray.size := by
      have := (List.getElem?_eq_some_iff.mp hu2).1
      simpa using this
    have D1 := drawsL_from (prog := X.prog) (w := X.w) (A := X.A.in1) (I.ok.hd hc) i1 a D.l1i1 its.toArray i
    have D2 := drawsT_from (prog := X.prog) (w := X.w) (A := X.A.in1) (I.ok.hd hc) i2 b D.l2i2 its2.toArray i
    refine wpAny_pyNext_zipD2_item (sep_of D) D1 D2 hz hTI hTO ⟨Nat.le_refl _, h1, p.isList⟩ ⟨Nat.le_refl _, h2, show s.heap.IsTuple b its2.toArray from p2⟩ (by omega) (by omega) fun y1 y2 h' tk hy1 hy2 z' TO' st1 st2 hT hsz hk => ?_
    have ey1 : y1 = u := by
      have q : its.toArray[i]? = some u := by simpa using hu
      rw [q] at hy1
      exact (Option.some.inj hy1).symm
    have ey2 : y2 = u2 := by
      have q : its2.toArray[i]? = some u2 := by simpa using hu2
      rw [q] at hy2
      exact (Option.some.inj hy2).symm
    subst ey1 ey2
    have h1' := st1.2.1
    have h2' := st2.2.1
    refine ⟨_, rfl, wpAny_letOwnedTupleGo_zip (s := { s with heap := h', toks := tk }) z' fun h'' z'' sb => ?_⟩
    have hT2 : h''.get? s.heap.objs.size = some { cls := .type "tuple", data := .seq #[y1, y2] } := (sb.2 _ (Nat.ne_of_gt hzl)).trans hT
    have new : ObjOk X.prog X.w (upd H s.heap.objs.size (.tup [x, y])) h'' s.heap.objs.size (.tup [x, y]) :=
      ⟨by show 2 ≤ sizeLine; decide, [y1, y2], .cons ru (.cons ru2 .nil), ⟨_, hT2, rfl, _, rfl⟩⟩
    have I1 : Inv X pins σ (upd H s.heap.objs.size (.tup [x, y])) { s with heap := h'', toks := tk } :=
      I.turnedNew (t' := tk) (ch := [z, TI, TO, i1, i2]) (fun c o hb q => (sb.2 c (fun q' => hb (by simp [q']))).trans (hk c o (fun q' => hb (by simp [q'])) (fun q' => hb (by simp [q'])) (fun q' => hb (by simp [q'])) (fun q' => hb (by simp [q'])) q)) hf (Nat.le_refl _) new
    refine ⟨.ref s.heap.objs.size, _, I1, rfl, ⟨_, x, y, rfl, I.hok.fresh (Nat.le_refl _), rfl, fun l hl => by rw [I.list_inj hl hqx]; exact hx, fun l hl => by rw [I.tuple_inj hl hqy]; exact hy⟩, ⟨z'', ?_, ⟨y1, y2, ?_⟩, ?_, ?_⟩, fun c hcm => ?_⟩
    · exact (sb.2 _ D.TIz).trans (hk _ _ D.TIz D.TITO D.TIi1 D.TIi2 hTI)
    · exact (sb.2 _ D.TOz).trans TO'
    · exact h1'.at fun o q => (sb.2 _ D.i1z).trans q
    · exact h2'.at fun o q => (sb.2 _ D.i2z).trans q
    · have hlt : c < s.heap.objs.size := by
        have e' : c = z ∨ c = TI ∨ c = TO ∨ c = i1 ∨ c = i2 := by simpa using hcm
        rcases e' with q | q | q | q | q
        · rw [q]; exact hzl
        · rw [q]; exact Heap.lt_size hTI
        · rw [q]; exact Heap.lt_size hTO
        · rw [q]; obtain ⟨_, e1, _⟩ := h1; exact Heap.lt_size e1
        · rw [q]; obtain ⟨_, e2, _⟩ := h2; exact Heap.lt_size e2
      rw [upd_ne (Nat.ne_of_lt hlt)]
      exact (hf c hcm).1
  done := by
    intro X hP hw hK hc i pins s σ H E I hf st hg
    subst hP hw hK
    obtain ⟨hz, hTI, ⟨x0, y0, hTO⟩, h1, h2⟩ := st
    obtain ⟨xs, ys, hqx, hqy, hend⟩ := hg
    obtain ⟨its, rv, p, _⟩ := I.list hqx
    obtain ⟨its2, rv2, p2, _⟩ := I.tuple hqy
    have l1 := rv.length
    have l2 := rv2.length
    have z1 : its.toArray.size = its.length := by simp
    have z2 : its2.toArray.size = its2.length := by simp
    have D1 := drawsL_from (prog := X.prog) (w := X.w) (A := X.A.in1) (I.ok.hd hc) i1 a D.l1i1 its.toArray i
    have D2 := drawsT_from (prog := X.prog) (w := X.w) (A := X.A.in1) (I.ok.hd hc) i2 b D.l2i2 its2.toArray i
    exact wpAny_pyNext_zipD2_end (sep_of D) D1 D2 hz hTI hTO ⟨Nat.le_refl _, h1, p.isList⟩ ⟨Nat.le_refl _, h2, show s.heap.IsTuple b its2.toArray from p2⟩ (by omega) (by omega) (by omega) fun h' tk hk => ⟨rfl, I.turnedL (t' := tk) (ch := [z, TI, TO, i1, i2]) (fun c o hb q =>
      hk c o (fun q' => hb (by simp [q'])) (fun q' => hb (by simp [q'])) (fun q' => hb (by simp [q'])) (fun q' => hb (by simp [q'])) q) hf⟩
  self := fun A i s Q E st h => wpAny_pyIter_zip st.1 h
/-- zip of two lists, two tuples, or a tuple with a list -/
def iZm (K : PySem.W.Frag) (ta : TA) : TI := fun σ H R => ta σ H fun vs H1 => ∃ a b xs ys, vs = [.ref a, .ref b] ∧ ((SqL K H1 a xs ∧ SqL K H1 b ys ∧ R (Itz K a b) H1) ∨ (SqT K H1 a xs ∧ SqT K H1 b ys ∧ R (RZ.ItzT K a b) H1) ∨ (SqT K H1 a xs ∧ SqL K H1 b ys ∧ R (Itm K a b) H1) ∨ (SqL K H1 a xs ∧ SqT K H1 b ys ∧ R (Itn K a b) H1))
theorem pi_zm {X : Cx} {e e2 : Expr} {ta : TA} {p pos tpos : Pos} {elts : List Expr} {kk : Nat} (hg : Gl X "zip") (hm : X.mg "zip" = none) (ha : PA X [e, e2] ta)
    (hs : starEach [e, e2] X.env = (false, eval e X.env) :: starEach [e2] X.env := by rfl) (hpl : (backTo pos (starEach [e2] X.env)).any (·.1) = false := by rfl) :
    PI X (.Tuple elts kk tpos) (.Call (.Name "zip" p) [e, e2] [] pos) (iZm X.K ta) := by
  refine ⟨fun pins s σ H R I h => ?_⟩
  refine Call_ (ld_blt I hg hm PyProof.Rows.boot_zip (PyProof.Rows.callWith_type1 (thn (ha.run pos pins s σ H _ I h) fun us s1 ⟨vs, H1, I1, r1, q1⟩ => ?_) hs hpl))
  obtain ⟨a, b, xs, ys, ex, q1⟩ := q1
  subst ex
  cases r1 with
  | cons r rr =>
    cases rr with
    | cons r' rr =>
      cases rr
      cases r
      cases r'
      have fresh5 : ∀ c, c ∈ [s1.heap.objs.size + 4, s1.heap.objs.size + 2, s1.heap.objs.size + 3, s1.heap.objs.size, s1.heap.objs.size + 1] → FpOk X pins H1 c := fun c hcm => by
        have e' : c = s1.heap.objs.size + 4 ∨ c = s1.heap.objs.size + 2 ∨ c = s1.heap.objs.size + 3 ∨ c = s1.heap.objs.size ∨ c = s1.heap.objs.size + 1 := by simpa using hcm
        have hle : s1.heap.objs.size ≤ c := by
          rcases e' with z | z | z | z | z
          · rw [z]; exact Nat.le_add_right _ _
          · rw [z]; exact Nat.le_add_right _ _
          · rw [z]; exact Nat.le_add_right _ _
          · rw [z]; exact Nat.le_refl _
          · rw [z]; exact Nat.le_add_right _ _
        exact I1.fpOk hle (I1.hok.fresh hle)
      rcases q1 with ⟨hqx, hqy, q⟩ | ⟨hqx, hqy, q⟩ | ⟨hqx, hqy, q⟩ | ⟨hqx, hqy, q⟩
      · obtain ⟨its, rv, p1, _⟩ := I1.list hqx
        obtain ⟨its2, rv2, p2, _⟩ := I1.list hqy
        refine call_zip_2 p1.isList p2.isList fun h' hz hTI hTO h1 h2 hsz hk => wpAny_pyIter_zip hz ?_
        have I2 : Inv X pins σ H1 { s1 with heap := h' } := I1.kept (t' := s1.toks) hk
        exact ⟨s1.heap.objs.size + 4, [s1.heap.objs.size + 4, s1.heap.objs.size + 2, s1.heap.objs.size + 3, s1.heap.objs.size, s1.heap.objs.size + 1], _, _, H1, rfl, I2, turn_zip (PySem.W.ktu_apart s1.heap.objs.size a b p1.lt p2.lt), ⟨hz, hTI, ⟨_, _, hTO⟩, h1, h2⟩, fresh5, q⟩
      · obtain ⟨its, rv, p1, _⟩ := I1.tuple hqx
        obtain ⟨its2, rv2, p2, _⟩ := I1.tuple hqy
        obtain ⟨o1, ho1, _⟩ := id p1
        obtain ⟨o2, ho2, _⟩ := id p2
        refine RZ.call_zipT (show s1.heap.IsTuple a its.toArray from p1) (show s1.heap.IsTuple b its2.toArray from p2) fun h' hz hTI hTO h1 h2 hsz hk => wpAny_pyIter_zip hz ?_
        have I2 : Inv X pins σ H1 { s1 with heap := h' } := I1.kept (t' := s1.toks) hk
        exact ⟨s1.heap.objs.size + 4, [s1.heap.objs.size + 4, s1.heap.objs.size + 2, s1.heap.objs.size + 3, s1.heap.objs.size, s1.heap.objs.size + 1], _, _, H1, rfl, I2, RZ.turn_zipT (PySem.W.ktu_apart s1.heap.objs.size a b (Heap.lt_size ho1) (Heap.lt_size ho2)), ⟨hz, hTI, ⟨_, _, hTO⟩, h1, h2⟩, fresh5, q⟩
      · obtain ⟨its, rv, p1, _⟩ := I1.tuple hqx
        obtain ⟨its2, rv2, p2, _⟩ := I1.list hqy
        obtain ⟨o1, ho1, _⟩ := id p1
        refine zip_begins2 (begins_tuple a its.toArray) (begins_list b its2.toArray) (show s1.heap.IsTuple a its.toArray from p1) p2.isList fun h' hz hTI hTO h1 h2 hsz hk => wpAny_pyIter_zip hz ?_
        have I2 : Inv X pins σ H1 { s1 with heap := h' } := I1.kept (t' := s1.toks) hk
        exact ⟨s1.heap.objs.size + 4, [s1.heap.objs.size + 4, s1.heap.objs.size + 2, s1.heap.objs.size + 3, s1.heap.objs.size, s1.heap.objs.size + 1], _, _, H1, rfl, I2, turn_zm (PySem.W.ktu_apart s1.heap.objs.size a b (Heap.lt_size ho1) p2.lt), ⟨hz, hTI, ⟨_, _, hTO⟩, ⟨_, h1, rfl, rfl⟩, ⟨_, h2, rfl, rfl⟩⟩, fresh5, q⟩
      · obtain ⟨its, rv, p1, _⟩ := I1.list hqx
        obtain ⟨its2, rv2, p2, _⟩ := I1.tuple hqy
        obtain ⟨o2, ho2, _⟩ := id p2
        refine zip_begins2 (begins_list a its.toArray) (begins_tuple b its2.toArray) p1.isList (show s1.heap.IsTuple b its2.toArray from p2) fun h' hz hTI hTO h1 h2 hsz hk => wpAny_pyIter_zip hz ?_
        have I2 : Inv X pins σ H1 { s1 with heap := h' } := I1.kept (t' := s1.toks) hk
        exact ⟨s1.heap.objs.size + 4, [s1.heap.objs.size + 4, s1.heap.objs.size + 2, s1.heap.objs.size + 3, s1.heap.objs.size, s1.heap.objs.size + 1], _, _, H1, rfl, I2, turn_zn (PySem.W.ktu_apart s1.heap.objs.size a b p1.lt (Heap.lt_size ho2)), ⟨hz, hTI, ⟨_, _, hTO⟩, ⟨_, h1, rfl, rfl⟩, ⟨_, h2, rfl, rfl⟩⟩, fresh5, q⟩
end FV
set_option Elab.async false
set_option linter.all false
set_option maxRecDepth 100000
set_option maxHeartbeats 8000000
/-! Sound6: what is walked; all expressions. -/
namespace FV
open PySem L2
section
variable {W : Wd} {T : Nat → Option Fn} {B : Tb} {c : Ck} {X : Cx} {x y z t : Expr} {a b e : E} {pos : Pos}
theorem seq_pi (hA : At W c X) (h : PE X x (tE W T a)) : PI X t x (tI W T a) := by
  refine ⟨fun pins s σ H R I q => ?_⟩
  obtain ⟨m, σ', S, k, hr, rs, hev, po⟩ := q
  have run := h.run pins s σ H (fun v H1 => ∃ ad, v = .ref ad ∧ ((∃ vs, SqL W.K H1 ad vs) ∧ R (Itl W.K ad) H1 ∨ (∃ vs, SqT W.K H1 ad vs) ∧ R (Itt W.K ad) H1)) I
    ⟨m, σ', S, _, hr, rs, hev, fun d S2 m2 v H2 x2 hr2 r2 h2 => by
      obtain ⟨ad, g, ds, ev, hg, hk, hs⟩ := src_of hr2 r2 h2
      exact ⟨ad, ev, hs.imp (fun z => ⟨z.1, po g ds S2 m2 H2 _ x2 hr2 z.2 hg hk⟩) fun z => ⟨z.1, po g ds S2 m2 H2 _ x2 hr2 z.2 hg hk⟩⟩⟩
  rw [← hA.k] at run
  refine thn run fun v s1 ⟨w, H1, I1, r1, ad, e, q⟩ => ?_
  subst e
  cases r1
  have fp : ∀ bb ∈ [s1.heap.objs.size], FpOk X pins H1 bb := fun bb hbb => by
    rw [List.mem_singleton] at hbb
    rw [hbb]
    exact I1.fpOk (Nat.le_refl _) (I1.hok.fresh (Nat.le_refl _))
  rcases q with ⟨⟨vs, hq⟩, q⟩ | ⟨⟨vs, hq⟩, q⟩
  · obtain ⟨us, _, pl, _⟩ := I1.list hq
    exact wpAny_pyIter_list pl.isList ⟨s1.heap.objs.size, [s1.heap.objs.size], _, _, H1, rfl, I1.kept (t' := s1.toks) (fun _ _ e => Heap.get?_push_of_some _ e), turn_list ad _, ⟨_, Heap.get?_push_size _ rfl, rfl, rfl⟩, fp, q⟩
  · obtain ⟨us, _, pl, _⟩ := I1.tuple hq
    exact wpAny_pyIter_tuple (items := us.toArray) pl ⟨s1.heap.objs.size, [s1.heap.objs.size], _, _, H1, rfl, I1.kept (t' := s1.toks) (fun _ _ e => Heap.get?_push_of_some _ e), turn_tuple ad _, ⟨_, Heap.get?_push_size _ rfl, rfl, rfl⟩, fp, q⟩
theorem rngI_get : ∀ (n i : Nat) (lo : Int), (rngI lo n)[i]? = if i < n then some (.int (lo + i)) else none
  | 0, i, lo => by simp [rngI]
  | n + 1, 0, lo => by simp [rngI]
  | n + 1, i + 1, lo => by
    have ih := rngI_get n i (lo + 1)
    simp only [rngI, List.getElem?_cons_succ, ih]
    by_cases h : i < n
    · rw [if_pos h, if_pos (by omega)]
      congr 2
      push_cast
      omega
    · rw [if_neg h, if_neg (by omega)]
theorem rngI_len : ∀ (n : Nat) (lo : Int), (rngI lo n).length = n
  | 0, _ => rfl
  | n + 1, lo => by rw [rngI, List.length_cons, rngI_len n]
theorem src_rng {K : PySem.W.Frag} {m : Ms} {H : Hp} (lo : Int) (n : Nat) : Src K m H (Itr lo n) none (rngI lo n) := by
  intro m2 S2 H2 x2 hr hg
  refine ⟨fun i d e => ?_, fun i hi => by rw [rngI_len] at hi; exact hi⟩
  rw [rngI_get] at e
  split at e
  · rename_i hi
    cases e
    refine ⟨hi, fun x H3 ⟨e1, e2⟩ => ?_⟩
    subst e1 e2
    exact ⟨.refl, hr, .int _⟩
  · cases e
theorem nat60 {i : Int} (h : i.natAbs < 2 ^ 60) : -(2 ^ 62) ≤ i ∧ i < 2 ^ 62 := by omega
theorem rng1_pi (w : WOk W T B) (hA : At W c X) {n : Str} {p : Pos} (hg : isG c n = true) (hn : n = "range") (hs : ∀ xs, starEach (x :: xs) X.env = (false, eval x X.env) :: starEach xs X.env) (h : PE X x (tE W T a)) : PI X t (.Call (.Name n p) [x] [] pos) (tI W T (.rng1 a)) := by
  obtain ⟨G1, G2⟩ := hA.gl hg
  subst hn
  refine pi_imp (pi_range1 G1 (by rw [hA.mg]; exact w.range) (pa_cons h pa_nil (hs _)) (by rw [hs]; rfl)) fun vσ H R ⟨m, σ, S, k, hr, rs, hev, po⟩ => ?_
  refine ⟨m, σ, S, _, hr, rs, hev, fun d S1 m1 v H1 x1 hr1 r1 h1 => ?_⟩
  obtain ⟨j, e, h2⟩ := asI_of h1
  subst e
  cases r1
  obtain ⟨b1, b2⟩ := nat60 h2.1
  exact ⟨j, rfl, b1, b2, po none _ S1 m1 H1 _ x1 hr1 (src_rng 0 _) trivial h2.2⟩
theorem rng_pi (w : WOk W T B) (hA : At W c X) {n : Str} {p : Pos} (hg : isG c n = true) (hn : n = "range") (hs : ∀ xs, starEach (x :: xs) X.env = (false, eval x X.env) :: starEach xs X.env) (hs2 : ∀ xs, starEach (y :: xs) X.env = (false, eval y X.env) :: starEach xs X.env)
    (h : PE X x (tE W T a)) (h' : PE X y (tE W T b)) : PI X t (.Call (.Name n p) [x, y] [] pos) (tI W T (.rng a b)) := by
  obtain ⟨G1, G2⟩ := hA.gl hg
  subst hn
  refine pi_imp (pi_range2 G1 (by rw [hA.mg]; exact w.range) (pa_cons h (pa_cons h' pa_nil (hs2 _)) (hs _)) (by rw [hs, hs2]; rfl) (by rw [hs2]; rfl)) fun vσ H R ⟨m, σ, S, k, hr, rs, hev, po⟩ => ?_
  refine ⟨m, σ, S, _, hr, rs, hev, fun d S1 m1 v H1 x1 hr1 r1 h1 => ?_⟩
  obtain ⟨i, e, h2⟩ := asI_of h1
  subst e
  cases r1
  refine ⟨m1, σ, S1, _, hr1, rs.mono x1, h2, fun d S2 m2 v H2 x2 hr2 r2 h3 => ?_⟩
  obtain ⟨j, e, h4⟩ := asI_of h3
  subst e
  cases r2
  obtain ⟨b1, b2⟩ := nat60 h4.1.1
  obtain ⟨b3, b4⟩ := nat60 h4.1.2
  exact ⟨i, j, rfl, ⟨b1, b2, b3, b4⟩, po none _ S2 m2 H2 _ (x1.trans x2) hr2 (src_rng i _) trivial h4.2⟩
theorem rngD_get : ∀ (n i : Nat) (hi : Int), (rngD hi n)[i]? = if i < n then some (.int (hi + (i : Nat) * (-1))) else none
  | 0, i, hi => by simp [rngD]
  | n + 1, 0, hi => by simp [rngD]
  | n + 1, i + 1, hi => by
    have ih := rngD_get n i (hi - 1)
    simp only [rngD, List.getElem?_cons_succ, ih]
    by_cases h : i < n
    · rw [if_pos h, if_pos (by omega)]
      congr 2
      push_cast
      omega
    · rw [if_neg h, if_neg (by omega)]
theorem rngD_len : ∀ (n : Nat) (hi : Int), (rngD hi n).length = n
  | 0, _ => rfl
  | n + 1, hi => by rw [rngD, List.length_cons, rngD_len n]
theorem src_rngD {K : PySem.W.Frag} {m : Ms} {H : Hp} (hi : Int) (n : Nat) : Src K m H (Itc hi (-1) n) none (rngD hi n) := by
  intro m2 S2 H2 x2 hr hg
  refine ⟨fun i d e => ?_, fun i hi' => by rw [rngD_len] at hi'; exact hi'⟩
  rw [rngD_get] at e
  split at e
  · rename_i hi
    cases e
    refine ⟨hi, fun x H3 ⟨e1, e2⟩ => ?_⟩
    subst e1 e2
    exact ⟨.refl, hr, .int _⟩
  · cases e
theorem dn3_of {ds : List D} {k : Int → Int → Prop} (h : dn3 ds k) : ∃ i j, ds = [.int i, .int j, .int (-1)] ∧ i.natAbs < 2 ^ 60 ∧ j.natAbs < 2 ^ 60 ∧ k i j := by
  unfold dn3 at h
  split at h
  · obtain ⟨⟨e, h1, h2⟩, h3⟩ := h
    subst e
    exact ⟨_, _, rfl, h1, h2, h3⟩
  · exact h.elim
theorem rngd_pi (w : WOk W T B) (hA : At W c X) {n : Str} {p : Pos} {es : List E} {u : Expr} (hg : isG c n = true) (hn : n = "range") (hs : starEach [x, y, u] X.env = (false, eval x X.env) :: starEach [y, u] X.env) (hp : (backTo pos (starEach [y, u] X.env)).any (·.1) = false)
    (h : PA X [x, y, u] (tA W T es)) : PI X t (.Call (.Name n p) [x, y, u] [] pos) (tI W T (.rngd es)) := by
  obtain ⟨G1, G2⟩ := hA.gl hg
  subst hn
  refine pi_imp (pi_range3 G1 (by rw [hA.mg]; exact w.range) h hs hp) fun vσ H R ⟨m, σ, S, k, hr, rs, hev, po⟩ => ?_
  refine ⟨m, σ, S, fun ds S1 => dn3 ds fun i j => itm (.itr (rngD i (i - j).toNat)) S1 fun g ds => k g ds S1, hr, rs, hev, fun ds S1 m1 vs H1 x1 hr1 r1 hl h1 => ?_⟩
  obtain ⟨i, j, e, b1, b2, h2⟩ := dn3_of h1
  subst e
  cases r1 with
  | cons a1 r1 => cases r1 with
    | cons a2 r1 => cases r1 with
      | cons a3 r1 =>
        cases r1; cases a1; cases a2; cases a3
        obtain ⟨c1, c2⟩ := nat60 b1
        obtain ⟨c3, c4⟩ := nat60 b2
        exact ⟨i, j, -1, _, rfl, RgC.neg c1 c2 c3 c4, po none _ S1 m1 H1 _ x1 hr1 (src_rngD i _) trivial h2⟩
/-! ### zip, enumerate -/
theorem zipD_get : ∀ (xs ys : List D) (i : Nat), (zipD xs ys)[i]? = match xs[i]?, ys[i]? with
    | some x, some y => some (.tup [x, y])
    | _, _ => none
  | [], ys, i => by simp [zipD]
  | x :: xs, [], i => by cases h : (x :: xs)[i]? <;> simp [zipD, h]
  | x :: xs, y :: ys, 0 => by simp [zipD]
  | x :: xs, y :: ys, i + 1 => by simp [zipD, zipD_get xs ys i]
theorem zipD_len : ∀ (xs ys : List D), (zipD xs ys).length = min xs.length ys.length
  | [], ys => by simp [zipD]
  | x :: xs, [] => by simp [zipD]
  | x :: xs, y :: ys => by simp [zipD, zipD_len xs ys]
theorem enmD_get : ∀ (xs : List D) (i : Nat) (n : Int), (enmD n xs)[i]? = (xs[i]?).map fun x => .tup [.int (n + i), x]
  | [], i, n => by simp [enmD]
  | x :: xs, 0, n => by simp [enmD]
  | x :: xs, i + 1, n => by
    simp only [enmD, List.getElem?_cons_succ, enmD_get xs i (n + 1)]
    congr 1
    funext x
    congr 3
    push_cast
    omega
theorem enmD_len : ∀ (xs : List D) (n : Int), (enmD n xs).length = xs.length
  | [], _ => rfl
  | x :: xs, n => by rw [enmD, List.length_cons, List.length_cons, enmD_len xs]
/-- a pair that has just been laid -/
theorem pair_ok {K : PySem.W.Frag} {m : Ms} {S : Store} {H H3 : Hp} {d e : D} {v w x : V} {p : Addr} (hr : HR K m S H) (r1 : RelD K m H d v) (r2 : RelD K m H e w) (hn : H p = none) (e1 : x = .ref p) (e2 : H3 = upd H p (.tup [v, w])) :
    Ext m H m H3 ∧ HR K m S H3 ∧ RelD K m H3 (.tup [d, e]) x := by
  subst e1 e2
  have hx : Ext m H m (upd H p (.tup [v, w])) := ext_new hn
  exact ⟨hx, hr.new hn, .tup (.inl (.inl upd_same)) (.cons (r1.mono hx) (.cons (r2.mono hx) .nil))⟩
theorem zip_pi (w : WOk W T B) (hA : At W c X) {n : Str} {p tp : Pos} {es : List Expr} {kk : Nat} (hg : isG c n = true) (hn : n = "zip") (hs : ∀ xs, starEach (x :: xs) X.env = (false, eval x X.env) :: starEach xs X.env) (hs2 : ∀ xs, starEach (y :: xs) X.env = (false, eval y X.env) :: starEach xs X.env)
    (h : PE X x (tE W T a)) (h' : PE X y (tE W T b)) : PI X (.Tuple es kk tp) (.Call (.Name n p) [x, y] [] pos) (tI W T (.zip a b)) := by
  obtain ⟨G1, G2⟩ := hA.gl hg
  subst hn
  refine pi_imp (pi_zm G1 (by rw [hA.mg]; exact w.zip) (pa_cons h (pa_cons h' pa_nil (hs2 _)) (hs _)) (hs _) (by rw [hs2]; rfl)) fun vσ H R ⟨m, σ, S, k, hr, rs, hev, po⟩ => ?_
  refine ⟨m, σ, S, _, hr, rs, hev, fun d S1 m1 v H1 x1 hr1 r1 h1 => ⟨m1, σ, S1, _, hr1, rs.mono x1, h1, fun d' S2 m2 v' H2 x2 hr2 r2 h2 => ?_⟩⟩
  have r1 := r1.mono x2
  rw [hA.k]
  cases r1 <;> try (exact h2.elim)
  · cases r2 <;> try (exact h2.elim)
    · rename_i ds p1 vs q1 rs1 es p2 ws q2 rs2
      refine ⟨p1, p2, vs, ws, rfl, .inr (.inl ⟨q1, q2, po none _ S2 m2 H2 _ (x1.trans x2) hr2 (fun m3 S3 H3 x3 hr3 _ => ⟨fun i d e => ?_, fun i hi => ⟨vs, ws, x3.sqt q1, x3.sqt q2, by rw [zipD_len] at hi; rw [← rs1.length, ← rs2.length]; omega⟩⟩) trivial h2⟩)⟩
      rw [zipD_get] at e
      split at e
      · rename_i d1 d2 e1 e2
        cases e
        obtain ⟨v1, f1, g1⟩ := (rs1.monoH x3).get e1
        obtain ⟨v2, f2, g2⟩ := (rs2.monoH x3).get e2
        refine ⟨⟨vs, ws, v1, v2, x3.sqt q1, x3.sqt q2, f1, f2⟩, fun u H4 ⟨P, a1, a2, eu, hP, eH, k1, k2⟩ => ?_⟩
        have z1 := (k1 vs (x3.sqt q1)).symm.trans f1
        have z2 := (k2 ws (x3.sqt q2)).symm.trans f2
        cases z1; cases z2
        exact pair_ok hr3 g1 g2 hP eu eH
      · cases e
    · rename_i ds p1 vs q1 rs1 es p2 ws q2 na2 rs2
      have l2 : ∀ {m3 H3}, Gh m2 H2 m3 H3 → SqL W.K H3 p2 ws := fun x3 => .inl (.inl (x3.keep _ _ q2 fun _ => na2))
      refine ⟨p1, p2, vs, ws, rfl, .inr (.inr (.inl ⟨q1, .inl (.inl q2), po none _ S2 m2 H2 _ (x1.trans x2) hr2 (fun m3 S3 H3 x3 hr3 _ => ⟨fun i d e => ?_, fun i hi => ⟨vs, ws, x3.sqt q1, l2 x3, by rw [zipD_len] at hi; rw [← rs1.length, ← rs2.length]; omega⟩⟩) trivial h2⟩))⟩
      rw [zipD_get] at e
      split at e
      · rename_i d1 d2 e1 e2
        cases e
        obtain ⟨v1, f1, g1⟩ := (rs1.monoH x3).get e1
        obtain ⟨v2, f2, g2⟩ := (rs2.monoH x3).get e2
        refine ⟨⟨vs, ws, v1, v2, x3.sqt q1, l2 x3, f1, f2⟩, fun u H4 ⟨P, a1, a2, eu, hP, eH, k1, k2⟩ => ?_⟩
        have z1 := (k1 vs (x3.sqt q1)).symm.trans f1
        have z2 := (k2 ws (l2 x3)).symm.trans f2
        cases z1; cases z2
        exact pair_ok hr3 g1 g2 hP eu eH
      · cases e
    · rename_i ds p1 vs q1 rs1 l p2 hl
      dsimp only [zpS] at h2
      split at h2
      · rename_i es e0
        obtain ⟨ws0, g0, _⟩ := hr2.at_ l es p2 e0 hl
        refine ⟨p1, p2, vs, ws0, rfl, .inr (.inr (.inl ⟨q1, .inl (.inl g0), po (some (l, es, none)) _ S2 m2 H2 _ (x1.trans x2) hr2 (fun m3 S3 H3 x3 hr3 hg3 => ?_) e0 h2⟩))⟩
        have hl2 := x3.cr hl
        obtain ⟨ws, e2, rs2⟩ := hr3.at_ l es p2 hg3 hl2
        have l2 : SqL W.K H3 p2 ws := .inl (.inl e2)
        refine ⟨fun i d e => ?_, fun i hi => ⟨vs, ws, x3.sqt q1, l2, by rw [zipD_len] at hi; rw [← rs1.length, ← rs2.length]; omega⟩⟩
        rw [zipD_get] at e
        split at e
        · rename_i d1 d2 e1 e2
          cases e
          obtain ⟨v1, f1, g1⟩ := (rs1.monoH x3).get e1
          obtain ⟨v2, f2, g2⟩ := rs2.get e2
          refine ⟨⟨vs, ws, v1, v2, x3.sqt q1, l2, f1, f2⟩, fun u H4 ⟨P, a1, a2, eu, hP, eH, k1, k2⟩ => ?_⟩
          have z1 := (k1 vs (x3.sqt q1)).symm.trans f1
          have z2 := (k2 ws l2).symm.trans f2
          cases z1; cases z2
          exact pair_ok hr3 g1 g2 hP eu eH
        · cases e
      · exact h2.elim
  · cases r2 <;> try (exact h2.elim)
    · rename_i ds p1 vs q1 na1 rs1 es p2 ws q2 rs2
      have l1 : ∀ {m3 H3}, Gh m2 H2 m3 H3 → SqL W.K H3 p1 vs := fun x3 => .inl (.inl (x3.keep _ _ q1 fun _ => na1))
      refine ⟨p1, p2, vs, ws, rfl, .inr (.inr (.inr ⟨.inl (.inl q1), q2, po none _ S2 m2 H2 _ (x1.trans x2) hr2 (fun m3 S3 H3 x3 hr3 _ => ?_) trivial h2⟩))⟩
      refine ⟨fun i d e => ?_, fun i hi => ⟨vs, ws, l1 x3, x3.sqt q2, by rw [zipD_len] at hi; rw [← rs1.length, ← rs2.length]; omega⟩⟩
      rw [zipD_get] at e
      split at e
      · rename_i d1 d2 e1 e2
        cases e
        obtain ⟨v1, f1, g1⟩ := (rs1.monoH x3).get e1
        obtain ⟨v2, f2, g2⟩ := (rs2.monoH x3).get e2
        refine ⟨⟨vs, ws, v1, v2, l1 x3, x3.sqt q2, f1, f2⟩, fun u H4 ⟨P, a1, a2, eu, hP, eH, k1, k2⟩ => ?_⟩
        have z1 := (k1 vs (l1 x3)).symm.trans f1
        have z2 := (k2 ws (x3.sqt q2)).symm.trans f2
        cases z1; cases z2
        exact pair_ok hr3 g1 g2 hP eu eH
      · cases e
    · rename_i ds p1 vs q1 na1 rs1 es p2 ws q2 na2 rs2
      have l1 : ∀ {m3 H3}, Gh m2 H2 m3 H3 → SqL W.K H3 p1 vs := fun x3 => .inl (.inl (x3.keep _ _ q1 fun _ => na1))
      have l2 : ∀ {m3 H3}, Gh m2 H2 m3 H3 → SqL W.K H3 p2 ws := fun x3 => .inl (.inl (x3.keep _ _ q2 fun _ => na2))
      refine ⟨p1, p2, vs, ws, rfl, .inl ⟨.inl (.inl q1), .inl (.inl q2), po none _ S2 m2 H2 _ (x1.trans x2) hr2 (fun m3 S3 H3 x3 hr3 _ => ⟨fun i d e => ?_, fun i hi => ⟨vs, ws, l1 x3, l2 x3, by rw [zipD_len] at hi; rw [← rs1.length, ← rs2.length]; omega⟩⟩) trivial h2⟩⟩
      rw [zipD_get] at e
      split at e
      · rename_i d1 d2 e1 e2
        cases e
        obtain ⟨v1, f1, g1⟩ := (rs1.monoH x3).get e1
        obtain ⟨v2, f2, g2⟩ := (rs2.monoH x3).get e2
        refine ⟨⟨vs, ws, v1, v2, l1 x3, l2 x3, f1, f2⟩, fun u H4 ⟨P, a1, a2, eu, hP, eH, k1, k2⟩ => ?_⟩
        have z1 := (k1 vs (l1 x3)).symm.trans f1
        have z2 := (k2 ws (l2 x3)).symm.trans f2
        cases z1; cases z2
        exact pair_ok hr3 g1 g2 hP eu eH
      · cases e
    · rename_i ds p1 vs q1 na1 rs1 l p2 hl
      dsimp only [zpS] at h2
      split at h2
      · rename_i ys e0
        obtain ⟨ws0, g0, _⟩ := hr2.at_ l ys p2 e0 hl
        refine ⟨p1, p2, vs, ws0, rfl, .inl ⟨.inl (.inl q1), .inl (.inl g0), po (some (l, ys, none)) _ S2 m2 H2 _ (x1.trans x2) hr2 (fun m3 S3 H3 x3 hr3 hg3 => ?_) e0 h2⟩⟩
        have hl2 := x3.cr hl
        obtain ⟨ws, k2, rs2⟩ := hr3.at_ l ys p2 hg3 hl2
        have l1 : SqL W.K H3 p1 vs := .inl (.inl (x3.keep _ _ q1 fun _ => na1))
        have l2 : SqL W.K H3 p2 ws := .inl (.inl k2)
        refine ⟨fun i d e => ?_, fun i hi => ⟨vs, ws, l1, l2, by rw [zipD_len] at hi; rw [← rs1.length, ← rs2.length]; omega⟩⟩
        rw [zipD_get] at e
        split at e
        · rename_i d1 d2 e1 e2
          cases e
          obtain ⟨v1, f1, g1⟩ := (rs1.monoH x3).get e1
          obtain ⟨v2, f2, g2⟩ := rs2.get e2
          refine ⟨⟨vs, ws, v1, v2, l1, l2, f1, f2⟩, fun u H4 ⟨P, a1, a2, eu, hP, eH, k1, k2⟩ => ?_⟩
          have z1 := (k1 vs (l1)).symm.trans f1
          have z2 := (k2 ws (l2)).symm.trans f2
          cases z1; cases z2
          exact pair_ok hr3 g1 g2 hP eu eH
        · cases e
      · exact h2.elim
  · cases r2 <;> try (exact h2.elim)
    · rename_i l p1 hl es p2 ws q2 rs2
      dsimp only [zpS] at h2
      split at h2
      · rename_i xs e0
        obtain ⟨vs0, g0, _⟩ := hr2.at_ l xs p1 e0 hl
        refine ⟨p1, p2, vs0, ws, rfl, .inr (.inr (.inr ⟨.inl (.inl g0), q2, po (some (l, xs, none)) _ S2 m2 H2 _ (x1.trans x2) hr2 (fun m3 S3 H3 x3 hr3 hg3 => ?_) e0 h2⟩))⟩
        have hl2 := x3.cr hl
        obtain ⟨vs, k1, rs1⟩ := hr3.at_ l xs p1 hg3 hl2
        have l1 : SqL W.K H3 p1 vs := .inl (.inl k1)
        refine ⟨fun i d e => ?_, fun i hi => ⟨vs, ws, l1, x3.sqt q2, by rw [zipD_len] at hi; rw [← rs1.length, ← rs2.length]; omega⟩⟩
        rw [zipD_get] at e
        split at e
        · rename_i d1 d2 e1 e2
          cases e
          obtain ⟨v1, f1, g1⟩ := rs1.get e1
          obtain ⟨v2, f2, g2⟩ := (rs2.monoH x3).get e2
          refine ⟨⟨vs, ws, v1, v2, l1, x3.sqt q2, f1, f2⟩, fun u H4 ⟨P, a1, a2, eu, hP, eH, k1, k2⟩ => ?_⟩
          have z1 := (k1 vs (l1)).symm.trans f1
          have z2 := (k2 ws (x3.sqt q2)).symm.trans f2
          cases z1; cases z2
          exact pair_ok hr3 g1 g2 hP eu eH
        · cases e
      · exact h2.elim
    · rename_i l p1 hl es p2 ws q2 na2 rs2
      dsimp only [zpS] at h2
      split at h2
      · rename_i xs e0
        obtain ⟨vs0, g0, _⟩ := hr2.at_ l xs p1 e0 hl
        refine ⟨p1, p2, vs0, ws, rfl, .inl ⟨.inl (.inl g0), .inl (.inl q2), po (some (l, xs, none)) _ S2 m2 H2 _ (x1.trans x2) hr2 (fun m3 S3 H3 x3 hr3 hg3 => ?_) e0 h2⟩⟩
        have hl2 := x3.cr hl
        obtain ⟨vs, k1, rs1⟩ := hr3.at_ l xs p1 hg3 hl2
        have l1 : SqL W.K H3 p1 vs := .inl (.inl k1)
        have l2 : SqL W.K H3 p2 ws := .inl (.inl (x3.keep _ _ q2 fun _ => na2))
        refine ⟨fun i d e => ?_, fun i hi => ⟨vs, ws, l1, l2, by rw [zipD_len] at hi; rw [← rs1.length, ← rs2.length]; omega⟩⟩
        rw [zipD_get] at e
        split at e
        · rename_i d1 d2 e1 e2
          cases e
          obtain ⟨v1, f1, g1⟩ := rs1.get e1
          obtain ⟨v2, f2, g2⟩ := (rs2.monoH x3).get e2
          refine ⟨⟨vs, ws, v1, v2, l1, l2, f1, f2⟩, fun u H4 ⟨P, a1, a2, eu, hP, eH, k1, k2⟩ => ?_⟩
          have z1 := (k1 vs (l1)).symm.trans f1
          have z2 := (k2 ws (l2)).symm.trans f2
          cases z1; cases z2
          exact pair_ok hr3 g1 g2 hP eu eH
        · cases e
      · exact h2.elim
    · rename_i l p1 hl1 l' p2 hl2
      dsimp only [zpS] at h2
      split at h2
      · rename_i xs e1
        split at h2
        · rename_i ys e2
          obtain ⟨vs0, g1, _⟩ := hr2.at_ l xs p1 e1 hl1
          obtain ⟨ws0, g2, _⟩ := hr2.at_ l' ys p2 e2 hl2
          refine ⟨p1, p2, vs0, ws0, rfl, .inl ⟨.inl (.inl g1), .inl (.inl g2), po (some (l, xs, some (l', ys))) _ S2 m2 H2 _ (x1.trans x2) hr2 (fun m3 S3 H3 x3 hr3 hg3 => ?_) ⟨e1, e2⟩ h2⟩⟩
          have up : ∀ {l : Nat} {p : Addr}, CR m2 l p → CR m3 l p := fun {l p} h => x3.cr h
          obtain ⟨vs, k1, rs1⟩ := hr3.at_ l xs p1 hg3.1 (up hl1)
          obtain ⟨ws, k2, rs2⟩ := hr3.at_ l' ys p2 hg3.2 (up hl2)
          have l1 : SqL W.K H3 p1 vs := .inl (.inl k1)
          have l2 : SqL W.K H3 p2 ws := .inl (.inl k2)
          refine ⟨fun i d e => ?_, fun i hi => ⟨vs, ws, l1, l2, by rw [zipD_len] at hi; rw [← rs1.length, ← rs2.length]; omega⟩⟩
          rw [zipD_get] at e
          split at e
          · rename_i d1 d2 e1 e2
            cases e
            obtain ⟨v1, f1, g1⟩ := rs1.get e1
            obtain ⟨v2, f2, g2⟩ := rs2.get e2
            refine ⟨⟨vs, ws, v1, v2, l1, l2, f1, f2⟩, fun u H4 ⟨P, a1, a2, eu, hP, eH, k1, k2⟩ => ?_⟩
            have z1 := (k1 vs l1).symm.trans f1
            have z2 := (k2 ws l2).symm.trans f2
            cases z1; cases z2
            exact pair_ok hr3 g1 g2 hP eu eH
          · cases e
        · exact h2.elim
      · exact h2.elim
theorem enm_pi (w : WOk W T B) (hA : At W c X) {n : Str} {p tp : Pos} {es : List Expr} {kk : Nat} (hg : isG c n = true) (hn : n = "enumerate") (hs : ∀ xs, starEach (x :: xs) X.env = (false, eval x X.env) :: starEach xs X.env)
    (h : PE X x (tE W T a)) : PI X (.Tuple es kk tp) (.Call (.Name n p) [x] [] pos) (tI W T (.enm a)) := by
  obtain ⟨G1, G2⟩ := hA.gl hg
  subst hn
  refine pi_imp (pi_en G1 (by rw [hA.mg]; exact w.enum) (pa_cons h pa_nil (hs _)) (by rw [hs]; rfl)) fun vσ H R ⟨m, σ, S, k, hr, rs, hev, po⟩ => ?_
  refine ⟨m, σ, S, _, hr, rs, hev, fun d S1 m1 v H1 x1 hr1 r1 h1 => ?_⟩
  rw [hA.k]
  cases r1 <;> try (exact h1.elim)
  · rename_i ds p1 vs q1 rs1
    refine ⟨p1, vs, rfl, .inr ⟨q1, po none _ S1 m1 H1 _ x1 hr1 (fun m3 S3 H3 x3 hr3 _ => ⟨fun i d e => ?_, fun i hi => ⟨vs, x3.sqt q1, by rw [enmD_len] at hi; rw [← rs1.length]; exact hi⟩⟩) trivial h1⟩⟩
    rw [enmD_get] at e
    cases e1 : ds[i]? with
    | none => rw [e1] at e; cases e
    | some d1 =>
      rw [e1] at e
      cases e
      obtain ⟨v1, f1, g1⟩ := (rs1.monoH x3).get e1
      refine ⟨⟨vs, v1, x3.sqt q1, f1⟩, fun u H4 ⟨P, a2, eu, hP, eH, k1⟩ => ?_⟩
      have z1 := (k1 vs (x3.sqt q1)).symm.trans f1
      cases z1
      have g0 : RelD W.K m3 H3 (.int (0 + (i : Int))) (.int (i : Int)) := by rw [Int.zero_add]; exact .int _
      exact pair_ok hr3 g0 g1 hP eu eH
  · rename_i ds p1 vs q1 na1 rs1
    have l1 : ∀ {m3 H3}, Gh m1 H1 m3 H3 → SqL W.K H3 p1 vs := fun x3 => .inl (.inl (x3.keep _ _ q1 fun _ => na1))
    refine ⟨p1, vs, rfl, .inl ⟨.inl (.inl q1), po none _ S1 m1 H1 _ x1 hr1 (fun m3 S3 H3 x3 hr3 _ => ⟨fun i d e => ?_, fun i hi => ⟨vs, l1 x3, by rw [enmD_len] at hi; rw [← rs1.length]; exact hi⟩⟩) trivial h1⟩⟩
    rw [enmD_get] at e
    cases e1 : ds[i]? with
    | none => rw [e1] at e; cases e
    | some d1 =>
      rw [e1] at e
      cases e
      obtain ⟨v1, f1, g1⟩ := (rs1.monoH x3).get e1
      refine ⟨⟨vs, v1, l1 x3, f1⟩, fun u H4 ⟨P, a2, eu, hP, eH, k1⟩ => ?_⟩
      have z1 := (k1 vs (l1 x3)).symm.trans f1
      cases z1
      have g0 : RelD W.K m3 H3 (.int (0 + (i : Int))) (.int (i : Int)) := by rw [Int.zero_add]; exact .int _
      exact pair_ok hr3 g0 g1 hP eu eH
  · rename_i l p1 hl
    dsimp only [enS] at h1
    split at h1
    · rename_i es e0
      obtain ⟨ws0, g0, _⟩ := hr1.at_ l es p1 e0 hl
      refine ⟨p1, ws0, rfl, .inl ⟨.inl (.inl g0), po (some (l, es, none)) _ S1 m1 H1 _ x1 hr1 (fun m3 S3 H3 x3 hr3 hg3 => ?_) e0 h1⟩⟩
      have hl2 := x3.cr hl
      obtain ⟨vs, e2, rs1⟩ := hr3.at_ l es p1 hg3 hl2
      have l1 : SqL W.K H3 p1 vs := .inl (.inl e2)
      refine ⟨fun i d e => ?_, fun i hi => ⟨vs, l1, by rw [enmD_len] at hi; rw [← rs1.length]; exact hi⟩⟩
      rw [enmD_get] at e
      cases e1 : es[i]? with
      | none => rw [e1] at e; cases e
      | some d1 =>
        rw [e1] at e
        cases e
        obtain ⟨v1, f1, g1⟩ := rs1.get e1
        refine ⟨⟨vs, v1, l1, f1⟩, fun u H4 ⟨P, a2, eu, hP, eH, k1⟩ => ?_⟩
        have z1 := (k1 vs l1).symm.trans f1
        cases z1
        have g0 : RelD W.K m3 H3 (.int (0 + (i : Int))) (.int (i : Int)) := by rw [Int.zero_add]; exact .int _
        exact pair_ok hr3 g0 g1 hP eu eH
    · exact h1.elim
end
end FV
set_option Elab.async false
set_option linter.all false
set_option maxRecDepth 100000
set_option maxHeartbeats 8000000
/-! DicS: dicts of rows, pop, defs as values: the expressions. -/
namespace FV
open PySem L2
section
variable {W : Wd} {T : Nat → Option Fn} {B : Tb} {c : Ck} {X : Cx} {a e : E} {x y : Expr} {pos apos cpos : Pos}
theorem dnew_of (hA : At W c X) : PE X (.Dict [] [] pos) (tE W T .dnew) :=
  pe_imp pe_dnewX fun vσ H Q ⟨m, σ, S, k, hr, rs, h, po⟩ => fun p hp => po (.dre S.length) (S ++ [[]]) ⟨m.c ++ [p], m.x, m.k ++ [true]⟩ _ _ (ext_cell _ hp) (hr.dcell hp) (.dre (hr.new_at true)) h
/-- a dict's cell, and what stands in it -/
theorem dre_of {K : PySem.W.Frag} {m : Ms} {S : Store} {H : Hp} {l : Nat} {v : V} {ds : List D} (hr : HR K m S H) (r : RelD K m H (.dre l) v) (e : cl S l = some ds) :
    ∃ (a : Addr) (xs : List (List Int × Addr)), v = .ref a ∧ DR m l a ∧ ds = xs.map (fun x => rwI x.1) ∧ (xs.map (·.1)).Nodup ∧ H a = some (dctO a xs) ∧ RelDs K m H (xs.map fun x => rwI x.1) (xs.map fun x => V.ref x.2) := by
  cases r with
  | dre hl =>
    obtain ⟨xs, e1, nd, q, rs⟩ := hr.dat l ds _ e hl
    exact ⟨_, xs, rfl, hl, e1, nd, q, by rw [← e1]; exact rs⟩
theorem onDre_of {d : D} {k : Nat → Prop} (h : onDre d k) : ∃ l, d = .dre l ∧ k l := by
  match d, h with
  | .dre l, h => exact ⟨l, rfl, h⟩
theorem rws_rows : ∀ {rs : List (List Int)}, rws? (rs.map rwI) = some rs
  | [] => rfl
  | r :: rs => by
    have hi : ints? (r.map D.int) = some r := by
      clear rs
      induction r with
      | nil => rfl
      | cons i r ih =>
        show (ints? (r.map D.int)).map (i :: ·) = _
        rw [ih]; rfl
    show (match ints? (r.map D.int) with | some is => (rws? (rs.map rwI)).map (is :: ·) | none => none) = _
    rw [hi, rws_rows]; rfl
theorem dlen_of (w : WOk W T B) (hA : At W c X) {n : Str} {p : Pos} (hg : isG c n = true) (hn : n = "len") (hs : ∀ xs, starEach (x :: xs) X.env = (false, eval x X.env) :: starEach xs X.env)
    (h : PE X x (tE W T a)) : PE X (.Call (.Name n p) [x] [] pos) (tE W T (.dlen a)) := by
  obtain ⟨G1, G2⟩ := hA.gl hg
  subst hn
  refine pe_imp (pe_callB (cr_lenX (X := X)) G1 (by rw [hA.mg]; exact w.bi .len (fun z => by cases z)) (by decide +kernel) (pa_cons h pa_nil (hs _)) (by decide) G2 (hs _) (by rfl)) fun vσ H Q ⟨m, σ, S, k, hr, rs, hev, po⟩ => ?_
  simp only [ev] at hev
  refine ⟨m, σ, S, _, hr, rs, hev, fun d S1 m1 v H1 x1 hr1 r1 h1 => ?_⟩
  obtain ⟨l, rfl, h3⟩ := onDre_of h1
  clear h1
  have h1 := h3
  clear h3
  split at h1
  · rename_i ds ec
    obtain ⟨b, xs, rfl, hl, e1, nd, q, rr⟩ := dre_of hr1 r1 ec
    rw [hA.k]
    refine ⟨m1, b, xs, rfl, q, nd, rr, ?_⟩
    have h1 : k (.int (ds.length : Nat)) S1 := h1
    rw [e1, List.length_map] at h1
    exact (po.ext x1).done hr1 (.int _) h1
  · exact h1.elim
theorem dsrt_of (w : WOk W T B) (hA : At W c X) {n : Str} {p : Pos} (hg : isG c n = true) (hn : n = "sorted") (hs : ∀ xs, starEach (x :: xs) X.env = (false, eval x X.env) :: starEach xs X.env)
    (h : PE X x (tE W T a)) : PE X (.Call (.Name n p) [x] [] pos) (tE W T (.dsrt a)) := by
  obtain ⟨G1, G2⟩ := hA.gl hg
  subst hn
  refine pe_imp (pe_callB (cr_sortedX (X := X) hA.calm) G1 (by rw [hA.mg]; exact w.bi .sorted (fun z => by cases z)) (by decide +kernel) (pa_cons h pa_nil (hs _)) (by decide) G2 (hs _) (by rfl)) fun vσ H Q ⟨m, σ, S, k, hr, rs, hev, po⟩ => ?_
  simp only [ev] at hev
  refine ⟨m, σ, S, _, hr, rs, hev, fun d S1 m1 v H1 x1 hr1 r1 h1 => ?_⟩
  obtain ⟨l, rfl, h3⟩ := onDre_of h1
  clear h1
  have h1 := h3
  clear h3
  split at h1
  · rename_i ds ec
    obtain ⟨b, xs, rfl, hl, e1, nd, q, rr⟩ := dre_of hr1 r1 ec
    rw [hA.k]
    have er : rws? ds = some (xs.map (·.1)) := by
      rw [e1, show (xs.map fun x => rwI x.1) = (xs.map (·.1)).map rwI by rw [List.map_map]; rfl]
      exact rws_rows
    unfold rowsS at h1
    rw [er] at h1
    refine ⟨m1, b, xs, rfl, q, h1.1, rr, fun ys ts' p' rel pm so hp => ?_⟩
    exact (po.ext x1).cell hr1 rel (h1.2 ts' pm so) hp
  · exact h1.elim
theorem eraseR {K : PySem.W.Frag} {m : Ms} {H : Hp} : ∀ {ds : List D} {vs : List V} (i : Nat), RelDs K m H ds vs → RelDs K m H (ds.eraseIdx i) (vs.eraseIdx i)
  | _, _, _, .nil => .nil
  | _, _, 0, .cons _ t => t
  | _, _, i + 1, .cons r t => .cons r (eraseR i t)
theorem pop_of (hA : At W c X) {nm : Str} {np : Pos} (hl : (apos.endLine == cpos.line) = true) (h1 : PE X (.Name nm np) (tE W T a)) (h2 : PE X y (tE W T e)) (hs : ∀ xs, starEach (y :: xs) X.env = (false, eval y X.env) :: starEach xs X.env) :
    PE X (.Call (.Attribute (.Name nm np) "pop" apos) [y] [] cpos) (tE W T (.pop a e)) := by
  have hs1 : starEach [y] X.env = [(false, eval y X.env)] := by rw [hs]; rfl
  refine pe_imp (pe_bm F.plainAttrs_list F.slot_list_pop rfl mt_popAt h1 (pa_cons h2 pa_nil hs1) rfl (by rw [hs1]; rfl) hl hs1 rfl) fun vσ H Q q => ?_
  obtain ⟨m, σ, S, k, hr, rs, hev, po⟩ := q
  simp only [ev] at hev
  refine ⟨m, σ, S, _, hr, rs, hev, fun d S1 m1 v H1 x1 hr1 r1 h1 => ?_⟩
  cases d <;> try (exact h1.elim)
  rename_i l
  dsimp only [onRef] at h1
  cases r1 with
  | ref hl =>
    rename_i b
    obtain ⟨vs0, e0⟩ := hr1.there hl
    refine ⟨.inl ⟨rfl, vs0, .inl (.inl e0)⟩, m1, σ, S1, _, hr1, rs.mono x1, h1, fun y S2 m2 u H2 x2 hr2 r2 h2 => ?_⟩
    obtain ⟨j, rfl, h3⟩ := asI_of h2
    clear h2
    have h2 := h3
    clear h3
    cases r2
    split at h2
    · rename_i ds ec
      have hl2 : CR m2 l b := by
        have r : RelD W.K m2 H2 (.ref l) (.ref b) := (RelD.ref hl : RelD W.K m1 H1 (.ref l) (.ref b)).mono x2
        cases r with
        | ref h => exact h
      obtain ⟨vs, eb, rds⟩ := hr2.at_ l ds b ec hl2
      obtain ⟨⟨j0, j1⟩, h2⟩ := h2
      split at h2
      · rename_i dd ed
        obtain ⟨u, hu, ru⟩ := rds.get ed
        have hlt : j.toNat < vs.length := (List.getElem?_eq_some_iff.mp hu).1
        have hm2 : b ∈ m2.c := List.mem_of_getElem? hl2.1
        have xs := ext_set (o := .lst (vs.eraseIdx j.toNat)) hm2 (hr2.mu hm2)
        refine ⟨b, vs, j, j.toNat, u, rfl, rfl, eb, by omega, by omega, ?_, hu, ?_⟩
        · unfold seqIndex?
          have q1 : ¬ j < 0 := by omega
          have q2 : (j : Int) < (vs.length : Int) := by omega
          simp [q1, q2, j0]
        · exact po _ _ _ _ _ ((x1.trans x2).trans xs) (hr2.set hl2 (eraseR _ rds)) (ru.mono xs) h2
      · exact h2.elim
    · exact h2.elim
theorem fnv_of (w : WOk W T B) (hA : At W c X) {n : Str} {p : Pos} (hg : isG c n = true) (hf : (B.fid.lookup n).isSome = true) : PE X (.Name n p) (tE W T (.fnv n)) := by
  obtain ⟨f, hf⟩ := Option.isSome_iff_exists.mp hf
  obtain ⟨ad, fd, g1, ⟨ga, _⟩, _, _, _⟩ := w.fn n f hf
  obtain ⟨G1, G2⟩ := hA.gl hg
  subst ga
  refine pe_imp (pe_glob (v := .ref (He.ga W.K n)) G1 (by rw [hA.mg]; exact g1) rfl G2) fun vσ H Q ⟨m, σ, S, k, hr, rs, h, po⟩ => ?_
  exact po.done hr (.fn n) h
theorem onFn_of {tbl : List (Str × Nat)} {d : D} {k : Nat → Prop} (h : onFn tbl d k) : ∃ x f, d = .fn x ∧ tbl.lookup x = some f ∧ k f := by
  match d, h with
  | .fn x, h =>
    dsimp only [onFn] at h
    split at h
    · rename_i f e
      exact ⟨x, f, rfl, e, h⟩
    · exact h.elim
theorem callv_of (w : WOk W T B) (hA : At W c X) {tbl : List (Str × Nat)} {i : Nat} {n : Str} {p : Pos} {es : List E} {xs : List Expr} (hv : isV c n i = true) (ht : ∀ q ∈ tbl, B.fid.lookup q.1 = some q.2) (hs : starEach (x :: xs) X.env = (false, eval x X.env) :: starEach xs X.env)
    (hp : (backTo pos (starEach xs X.env)).any (·.1) = false) (h : PA X (x :: xs) (tA W T es)) : PE X (.Call (.Name n p) (x :: xs) [] pos) (tE W T (.callv tbl (.var i) es)) := by
  obtain ⟨v1, v2, v3, v4⟩ := hA.vis hv
  refine ⟨fun pins s vσ H Q I q => ?_⟩
  obtain ⟨m, σ, S, k, hr, rs, hev, po⟩ := q
  simp only [ev] at hev
  split at hev
  · rename_i d ed
    obtain ⟨y, f, rfl, et, hev⟩ := onFn_of (show onFn tbl d _ from hev)
    have hf := ht _ (PySem.mem_of_lookup et)
    obtain ⟨ad, fd, g1, ⟨ga, g2⟩, g3, _, g4⟩ := w.fn y f hf
    subst ga
    obtain ⟨v, e1, r1⟩ := rs.at_ i _ ed
    cases r1
    have F : FnG X.prog X.w X.K X.mg X.base W.n (He.ga W.K y) fd (B.ps f) (spE W.K T W.n f) := by rw [hA.prog, hA.wd, hA.k, hA.mg, hA.bs]; exact g4
    have kp : PySem.W.keepIn X.K (.ref (He.ga W.K y)) = true := by rw [hA.k]; exact g2
    have KB : Binds X.K fd (B.ps f) [] := by rw [hA.k]; exact g3
    refine wpAny_Call_Name_kw (thn ((pe_var v1 v2 v3 v4).run pins s vσ H (fun z H1 => z = V.ref (He.ga W.K y) ∧ H1 = H) I ⟨_, e1, rfl, rfl⟩) fun u s0 ⟨z, H1, I1, ru, ez, eH⟩ => ?_)
    subst ez eH
    obtain rfl : u = Value.ref (He.ga W.K y) := ru
    refine PySem.W.callWith_K (h₀ := X.base) I1.ok.mod.kin kp (thn (h.run pos pins s0 vσ H1 (fun zs H2 => spE W.K T W.n f zs H2 Q NoX) I1 ⟨m, σ, S, _, hr, rs, hev, fun ds S1 m1 vs H2 x1 hr1 r1 hl h1 => ⟨m1, S1, _, ds, hr1, r1, h1, po.ext x1⟩⟩) fun us s1 ⟨vs, H2, I2, r, q⟩ => ⟨I2.kIn, ?_⟩) hs hp
    have hl : (us ++ []).length = (B.ps f).length := by rw [List.append_nil, ← r.length]; exact F.len _ _ _ q
    have hb2 := KB s1 us I2.kIn hl
    rw [List.append_nil] at hb2
    exact F.go hA.room hA.gd I2 hb2 r q
  · exact hev.elim
end
end FV
set_option Elab.async false
set_option linter.all false
set_option maxRecDepth 100000
set_option maxHeartbeats 8000000
/-! Sound7: all expressions. -/
namespace FV
open PySem L2
theorem nopeT {P : Prop} (h : false = true) : P := absurd h Bool.false_ne_true
section
variable {W : Wd} {T : Nat → Option Fn} {B : Tb}
theorem ne_nil {xs : List Expr} (h : (!xs.isEmpty) = true) : ∃ y ys, xs = y :: ys := by
  cases xs with
  | nil => cases h
  | cons y ys => exact ⟨y, ys, rfl⟩
theorem pw_bool {X : Cx} {op : BoolOp} {xs : List Expr} {p : Pos} {t : TT} (h : PT X (.BoolOp op xs p) t) : PW X (.BoolOp op xs p) t := ⟨fun wh pins s σ H Q I q => h.run pins s σ H Q I q⟩
theorem chks_len {c : Ck} : ∀ {es : List E} {xs : List Expr}, chks B c es xs = true → es.length = xs.length
  | [], [], _ => rfl
  | [], _ :: _, h => nopeT h
  | _ :: _, [], h => nopeT h
  | e :: es, y :: ys, h => by
    have h : (chk B c e y && chks B c es ys) = true := h
    rw [Bool.and_eq_true] at h
    rw [List.length_cons, List.length_cons, chks_len h.2]
theorem kws_len {n : Nat} : ∀ {ks : List Keyword}, ks.all (·.arg.isSome) = true → n = (ks.map (·.value)).length → n = (ks.filterMap (·.arg)).length := by
  intro ks h e
  rw [e, List.length_map]
  clear e
  induction ks with
  | nil => rfl
  | cons k ks ih =>
    obtain ⟨a, v, p⟩ := k
    cases a with
    | none => cases h
    | some a => rw [List.filterMap_cons]; exact congrArg (· + 1) (ih h)
mutual
theorem pe_ok (w : WOk W T B) : ∀ (e : E) (c : Ck) (X : Cx) (x : Expr), At W c X → chk B c e x = true → PE X x (tE W T e)
  | .var i, c, X, x, hA, h => by
    cases x <;> try (exact nopeT h)
    exact var_ok hA h
  | .cst d, c, X, x, hA, h => by
    cases x <;> try (exact nopeT h)
    exact cst_ok h
  | .glb n d, c, X, x, hA, h => by
    cases x <;> try (exact nopeT h)
    exact glb_ok w hA h
  | .bin op a b, c, X, x, hA, h => by
    cases x <;> try (exact nopeT h)
    simp only [chk, Bool.and_eq_true] at h
    exact bin_ok hA h.1.1 (pe_ok w a c X _ hA h.1.2) (pe_ok w b c X _ hA h.2)
  | .neg a, c, X, x, hA, h => by
    cases x <;> try (exact nopeT h)
    rename_i op x p
    cases op <;> try (exact nopeT h)
    exact neg_ok (pe_ok w a c X _ hA h)
  | .not a, c, X, x, hA, h => by
    cases x <;> try (exact nopeT h)
    rename_i op x p
    cases op <;> try (exact nopeT h)
    exact notv_of (pe_ok w a c X _ hA h)
  | .cmp op a b, c, X, x, hA, h => by
    cases x <;> try (exact nopeT h)
    rename_i x os ys p
    rcases os with _ | ⟨o, _ | ⟨o', os⟩⟩ <;> rcases ys with _ | ⟨y, _ | ⟨y', ys⟩⟩ <;> try (exact nopeT h)
    simp only [chk, Bool.and_eq_true, Bool.not_eq_true'] at h
    exact cmpv_ok hA h.1.1.1 h.1.1.2 (pe_ok w a c X _ hA h.1.2) (pe_ok w b c X _ hA h.2)
  | .cmp2 op op' a b d, c, X, x, hA, h => by
    cases x <;> try (exact nopeT h)
    rename_i x os ys p
    rcases os with _ | ⟨o, _ | ⟨o', _ | ⟨o2, os⟩⟩⟩ <;> rcases ys with _ | ⟨y, _ | ⟨y', _ | ⟨y2, ys⟩⟩⟩ <;> try (exact nopeT h)
    simp only [chk, Bool.and_eq_true, Bool.not_eq_true'] at h
    exact cmp2v_ok hA h.1.1.1.1.1 h.1.1.1.1.2 h.1.1.1.2 (pe_ok w a c X _ hA h.1.1.2) (pe_ok w b c X _ hA h.1.2) (pe_ok w d c X _ hA h.2)
  | .and a b, c, X, x, hA, h => by
    cases x <;> try (exact nopeT h)
    rename_i op xs p
    cases op
    · rcases xs with _ | ⟨x, _ | ⟨y, _ | ⟨z, r⟩⟩⟩ <;> try (exact nopeT h)
      · simp only [chk, Bool.and_eq_true] at h
        exact andv_of (pe_ok w a c X _ hA h.1) (pe_one (pe_ok w b c X _ hA h.2))
      · simp only [chk, Bool.and_eq_true] at h
        exact andv_of (pe_ok w a c X _ hA h.1) (pe_ok w b c X _ hA h.2)
    · rcases xs with _ | ⟨x, _ | ⟨y, _ | ⟨z, r⟩⟩⟩ <;> (exact nopeT h)
  | .or a b, c, X, x, hA, h => by
    cases x <;> try (exact nopeT h)
    rename_i op xs p
    cases op
    · rcases xs with _ | ⟨x, _ | ⟨y, _ | ⟨z, r⟩⟩⟩ <;> (exact nopeT h)
    · rcases xs with _ | ⟨x, _ | ⟨y, _ | ⟨z, r⟩⟩⟩ <;> try (exact nopeT h)
      · simp only [chk, Bool.and_eq_true] at h
        exact orv_of (pe_ok w a c X _ hA h.1) (pe_one (pe_ok w b c X _ hA h.2))
      · simp only [chk, Bool.and_eq_true] at h
        exact orv_of (pe_ok w a c X _ hA h.1) (pe_ok w b c X _ hA h.2)
  | .ite t a b, c, X, x, hA, h => by
    cases x <;> try (exact nopeT h)
    simp only [chk, Bool.and_eq_true] at h
    exact ite_of (pt_ok w t c X _ hA h.1.1) (pe_ok w a c X _ hA h.1.2) (pe_ok w b c X _ hA h.2)
  | .tup es, c, X, x, hA, h => by
    cases x <;> try (exact nopeT h)
    simp only [chk, Bool.and_eq_true, decide_eq_true_eq] at h
    exact tup_ok h.1 (pas_ok w es c X _ hA h.2)
  | .lst fr es, c, X, x, hA, h => by
    cases x <;> try (exact nopeT h)
    simp only [chk, Bool.and_eq_true, decide_eq_true_eq] at h
    exact lst_ok h.1 (pas_ok w es c X _ hA h.2)
  | .idx a i, c, X, x, hA, h => by
    cases x <;> try (exact nopeT h)
    simp only [chk, Bool.and_eq_true] at h
    exact idx_of hA h.1.1 (pe_ok w a c X _ hA h.1.2) (pe_ok w i c X _ hA h.2)
  | .slc a lo hi, c, X, x, hA, h => by
    cases x <;> try (exact nopeT h)
    rename_i x y p
    cases y <;> try (exact nopeT h)
    rename_i l h' st p2
    cases st <;> try (exact nopeT h)
    simp only [chk, Bool.and_eq_true] at h
    exact slc_of hA (pe_ok w a c X _ hA h.1.1) (pos_ok w lo c X _ hA h.1.2) (pos_ok w hi c X _ hA h.2)
  | .rev a, c, X, x, hA, h => by
    cases x <;> try (exact nopeT h)
    rename_i x y p
    cases y <;> try (exact nopeT h)
    rename_i l h' st p2
    rcases l with _ | l <;> rcases h' with _ | h' <;> rcases st with _ | st <;> try (exact nopeT h)
    cases st <;> try (exact nopeT h)
    rename_i o z p3
    cases o <;> try (exact nopeT h)
    cases z <;> try (exact nopeT h)
    rename_i z k p4
    cases z <;> try (exact nopeT h)
    simp only [chk, Bool.and_eq_true, decide_eq_true_eq] at h
    obtain ⟨h1, h2⟩ := h
    subst h1
    exact rev_of hA (pe_ok w a c X _ hA h2)
  | .dct, c, X, x, hA, h => by
    cases x <;> try (exact nopeT h)
    rename_i ks vs p
    cases ks <;> cases vs <;> first | exact dct_of hA | exact nopeT h
  | .tget n kvs e, c, X, x, hA, h => by
    cases x <;> try (exact nopeT h)
    rename_i x y p
    cases x <;> try (exact nopeT h)
    simp only [chk, Bool.and_eq_true, decide_eq_true_eq] at h
    exact tget_of w hA h.1.1.1.2 h.1.1.2 h.1.2 (pe_ok w e c X _ hA h.2)
  | .tin neg n kvs e, c, X, x, hA, h => by
    cases x <;> try (exact nopeT h)
    rename_i x os ys p
    rcases os with _ | ⟨o, _ | ⟨o', os⟩⟩ <;> try (exact nopeT h)
    · rcases ys with _ | ⟨y, ys⟩ <;> try (exact nopeT h)
      cases y <;> try (cases ys <;> exact nopeT h)
      cases ys <;> try (exact nopeT h)
      simp only [chk, Bool.and_eq_true, decide_eq_true_eq] at h
      obtain ⟨⟨⟨⟨h0, _⟩, h2⟩, h3⟩, h4⟩ := h
      subst h0
      exact tin_of w hA h2 h3 (pe_ok w e c X _ hA h4)
  | .tls n kvs, c, X, x, hA, h => by
    cases x <;> try (exact nopeT h)
    rename_i g xs ks p
    cases g <;> try (exact nopeT h)
    rcases xs with _ | ⟨u, us⟩ <;> try (exact nopeT h)
    cases u <;> try (cases us <;> cases ks <;> exact nopeT h)
    cases us <;> try (cases ks <;> exact nopeT h)
    cases ks <;> try (exact nopeT h)
    simp only [chk, Bool.and_eq_true, decide_eq_true_eq] at h
    exact tls_of w hA h.1.1.1.1 h.1.1.1.2 h.1.2 h.2
  | .dsp kvs, c, X, x, hA, h => by
    cases x <;> try (exact nopeT h)
    simp only [chk, Bool.and_eq_true, decide_eq_true_eq, Bool.not_eq_true'] at h
    exact dsp_of hA h.1.1.1 h.1.1.2 h.1.2 h.2
  | .dget a e, c, X, x, hA, h => by
    cases x <;> try (exact nopeT h)
    simp only [chk, Bool.and_eq_true] at h
    exact dget_of hA h.1.1 (pe_ok w a c X _ hA h.1.2) (pe_ok w e c X _ hA h.2)
  | .rpt a b, c, X, x, hA, h => by
    cases x <;> try (exact nopeT h)
    simp only [chk, Bool.and_eq_true] at h
    exact rpt_of hA h.1.1 (pe_ok w a c X _ hA h.1.2) (pe_ok w b c X _ hA h.2)
  | .dnew, c, X, x, hA, h => by
    cases x <;> try (exact nopeT h)
    rename_i ks vs p
    rcases ks with _ | ⟨k, ks⟩ <;> rcases vs with _ | ⟨v, vs⟩ <;> first
      | exact dnew_of hA
      | exact nopeT h
  | .dlen a, c, X, x, hA, h => by
    cases x <;> try (exact nopeT h)
    rename_i g xs ks p
    cases g <;> try (exact nopeT h)
    rcases xs with _ | ⟨y, _ | ⟨z, zs⟩⟩ <;> try (exact nopeT h)
    cases ks <;> try (exact nopeT h)
    simp only [chk, Bool.and_eq_true, decide_eq_true_eq] at h
    exact dlen_of w hA h.1.1 h.1.2 (fun xs => star_cons h.2) (pe_ok w a c X _ hA h.2)
  | .dsrt a, c, X, x, hA, h => by
    cases x <;> try (exact nopeT h)
    rename_i g xs ks p
    cases g <;> try (exact nopeT h)
    rcases xs with _ | ⟨y, _ | ⟨z, zs⟩⟩ <;> try (exact nopeT h)
    cases ks <;> try (exact nopeT h)
    simp only [chk, Bool.and_eq_true, decide_eq_true_eq] at h
    exact dsrt_of w hA h.1.1 h.1.2 (fun xs => star_cons h.2) (pe_ok w a c X _ hA h.2)
  | .pop a e, c, X, x, hA, h => by
    cases x <;> try (exact nopeT h)
    rename_i g xs ks p
    cases g <;> try (exact nopeT h)
    rename_i o nm ap
    cases o <;> try (exact nopeT h)
    rcases xs with _ | ⟨y, _ | ⟨z, zs⟩⟩ <;> try (exact nopeT h)
    cases ks <;> try (exact nopeT h)
    simp only [chk, Bool.and_eq_true, decide_eq_true_eq] at h
    obtain ⟨⟨⟨h0, h1⟩, h3⟩, h4⟩ := h
    subst h0
    exact pop_of hA h1 (pe_ok w a c X _ hA h3) (pe_ok w e c X _ hA h4) (fun xs => star_cons h4)
  | .fnv y, c, X, x, hA, h => by
    cases x <;> try (exact nopeT h)
    simp only [chk, Bool.and_eq_true, decide_eq_true_eq] at h
    obtain ⟨⟨h0, h1⟩, h2⟩ := h
    subst h0
    exact fnv_of w hA h1 h2
  | .callv tbl a es, c, X, x, hA, h => by
    cases x <;> try (exact nopeT h)
    rename_i g xs ks p
    cases g <;> try (exact nopeT h)
    cases ks <;> try (exact nopeT h)
    simp only [chk, Bool.and_eq_true, Bool.not_eq_true', List.all_eq_true, decide_eq_true_eq] at h
    obtain ⟨⟨⟨h0, h1⟩, h2⟩, h3⟩ := h
    cases a <;> try (exact nopeT h0)
    cases xs with
    | nil => cases h2
    | cons x xs =>
      have h3' := h3
      cases es with
      | nil => simp only [chks] at h3'; cases h3'
      | cons e es =>
        simp only [chks, Bool.and_eq_true] at h3'
        exact callv_of w hA h0 h1 (star_cons h3'.1) (star_any h3'.2) (pas_ok w (e :: es) c X _ hA h3)
  | .lstf a, c, X, x, hA, h => by
    cases x <;> try (exact nopeT h)
    rename_i g xs ks p
    cases g <;> try (exact nopeT h)
    rcases xs with _ | ⟨y, _ | ⟨z, zs⟩⟩ <;> try (exact nopeT h)
    cases ks <;> try (exact nopeT h)
    simp only [chk, Bool.and_eq_true, decide_eq_true_eq] at h
    exact lstf_of w hA h.1.1 h.1.2 (fun xs => star_cons h.2) (pe_ok w a c X _ hA h.2)
  | .rngd _, c, X, x, hA, h => by cases x <;> (exact nopeT h)
  | .lrg1 tp b, c, X, x, hA, h => by
    cases x <;> try (exact nopeT h)
    rename_i g xs ks p
    cases g <;> try (exact nopeT h)
    rcases xs with _ | ⟨u, us⟩ <;> try (exact nopeT h)
    cases u <;> try (cases us <;> cases ks <;> exact nopeT h)
    rename_i g2 ys ks2 p2
    cases g2 <;> try (cases us <;> cases ks <;> exact nopeT h)
    rcases ys with _ | ⟨y, ys⟩ <;> try (cases us <;> cases ks <;> exact nopeT h)
    cases ys <;> try (cases us <;> cases ks <;> cases ks2 <;> exact nopeT h)
    cases ks2 <;> try (cases us <;> cases ks <;> exact nopeT h)
    cases us <;> try (cases ks <;> exact nopeT h)
    cases ks <;> try (exact nopeT h)
    simp only [chk, Bool.and_eq_true, decide_eq_true_eq] at h
    exact lrg1_of w hA h.1.1.1.1 h.1.1.1.2 h.1.1.2 h.1.2 (fun xs => star_cons h.2) (pe_ok w b c X _ hA h.2)
  | .lrg2 tp a b, c, X, x, hA, h => by
    cases x <;> try (exact nopeT h)
    rename_i g xs ks p
    cases g <;> try (exact nopeT h)
    rcases xs with _ | ⟨u, us⟩ <;> try (exact nopeT h)
    cases u <;> try (cases us <;> cases ks <;> exact nopeT h)
    rename_i g2 ys ks2 p2
    cases g2 <;> try (cases us <;> cases ks <;> exact nopeT h)
    rcases ys with _ | ⟨y, ys⟩ <;> try (cases us <;> cases ks <;> exact nopeT h)
    rcases ys with _ | ⟨z, ys⟩ <;> try (cases us <;> cases ks <;> cases ks2 <;> exact nopeT h)
    cases ys <;> try (cases us <;> cases ks <;> cases ks2 <;> exact nopeT h)
    cases ks2 <;> try (cases us <;> cases ks <;> exact nopeT h)
    cases us <;> try (cases ks <;> exact nopeT h)
    cases ks <;> try (exact nopeT h)
    simp only [chk, Bool.and_eq_true, decide_eq_true_eq] at h
    exact lrg2_of w hA h.1.1.1.1.1 h.1.1.1.1.2 h.1.1.1.2 h.1.1.2 (fun xs => star_cons h.1.2) (fun xs => star_cons h.2) (pe_ok w a c X _ hA h.1.2) (pe_ok w b c X _ hA h.2)
  | .cat fr a b, c, X, x, hA, h => by
    cases x <;> try (exact nopeT h)
    simp only [chk, Bool.and_eq_true] at h
    exact catv_of hA h.1.1 (pe_ok w a c X _ hA h.1.2) (pe_ok w b c X _ hA h.2)
  | .isn neg a b, c, X, x, hA, h => by
    cases x <;> try (exact nopeT h)
    rename_i x os ys p
    rcases os with _ | ⟨o, _ | ⟨o', os⟩⟩ <;> rcases ys with _ | ⟨y, _ | ⟨y', ys⟩⟩ <;> try (exact nopeT h)
    simp only [chk, Bool.and_eq_true, Bool.not_eq_true', decide_eq_true_eq] at h
    obtain ⟨⟨⟨h0, h1⟩, h2⟩, h3⟩ := h
    subst h0
    exact isnv_ok hA h1 (pe_ok w a c X _ hA h2) (pe_ok w b c X _ hA h3)
  | .eqm neg a b, c, X, x, hA, h => by
    cases x <;> try (exact nopeT h)
    rename_i x os ys p
    rcases os with _ | ⟨o, _ | ⟨o', os⟩⟩ <;> rcases ys with _ | ⟨y, _ | ⟨y', ys⟩⟩ <;> try (exact nopeT h)
    simp only [chk, Bool.and_eq_true, Bool.not_eq_true', decide_eq_true_eq] at h
    obtain ⟨⟨⟨h0, h1⟩, h2⟩, h3⟩ := h
    subst h0
    exact eqmv_ok hA h1 (pe_ok w a c X _ hA h2) (pe_ok w b c X _ hA h3)
  | .nset a, c, X, x, hA, h => by
    cases x <;> try (exact nopeT h)
    rename_i g xs ks p
    cases g <;> try (exact nopeT h)
    rcases xs with _ | ⟨y, _ | ⟨z, zs⟩⟩
    · exact nopeT h
    · cases y <;> try (exact nopeT h)
      rename_i g2 ys ks2 p2
      cases g2 <;> try (exact nopeT h)
      rcases ys with _ | ⟨y, _ | ⟨z, zs⟩⟩
      · exact nopeT h
      · cases ks2 <;> try (exact nopeT h)
        cases ks <;> try (exact nopeT h)
        simp only [chk, Bool.and_eq_true, decide_eq_true_eq] at h
        obtain ⟨⟨⟨⟨h0, h1⟩, h2⟩, h3⟩, h4⟩ := h
        exact nset_of w hA h0 h1 h2 h3 (pe_ok w a c X _ hA h4) (star_cons h4)
      · cases ks2 <;> exact nopeT h
    · cases y <;> first
        | exact nopeT h
        | (rename_i g2 ys ks2 p2
           cases g2 <;> first
             | exact nopeT h
             | (rcases ys with _ | ⟨y2, _ | ⟨y3, ys⟩⟩ <;> first
                 | exact nopeT h
                 | (cases ks2 <;> exact nopeT h)))
  | .cntl a e, c, X, x, hA, h => by
    cases x <;> try (exact nopeT h)
    rename_i g xs ks p
    cases g <;> try (exact nopeT h)
    rename_i o nm ap
    cases o <;> try (exact nopeT h)
    rcases xs with _ | ⟨y, _ | ⟨z, zs⟩⟩ <;> try (exact nopeT h)
    cases ks <;> try (exact nopeT h)
    simp only [chk, Bool.and_eq_true, decide_eq_true_eq] at h
    obtain ⟨⟨⟨h0, h1⟩, h3⟩, h4⟩ := h
    subst h0
    exact cntl_of hA h1 (pe_ok w a c X _ hA h3) (pe_ok w e c X _ hA h4) (fun xs => star_cons h4)
  | .cnt es e, c, X, x, hA, h => by
    cases x <;> try (exact nopeT h)
    rename_i g xs ks p
    cases g <;> try (exact nopeT h)
    rename_i o nm ap
    cases o <;> try (exact nopeT h)
    rcases xs with _ | ⟨y, _ | ⟨z, zs⟩⟩ <;> try (exact nopeT h)
    cases ks <;> try (exact nopeT h)
    simp only [chk, Bool.and_eq_true, decide_eq_true_eq] at h
    obtain ⟨⟨⟨⟨h0, h1⟩, h2⟩, h3⟩, h4⟩ := h
    subst h0
    exact cnt_of hA h1 h2 (pas_ok w es c X _ hA h3) (pe_ok w e c X _ hA h4) (star_cons h4)
  | .call f es, c, X, x, hA, h => by
    cases x <;> try (exact nopeT h)
    rename_i g xs ks p
    cases g <;> try (exact nopeT h)
    cases ks <;> try (exact nopeT h)
    simp only [chk, Bool.and_eq_true, decide_eq_true_eq] at h
    obtain ⟨⟨h0, h1⟩, h2⟩ := h
    cases es with
    | nil =>
      cases xs with
      | nil => exact call0_of w hA h0 h1
      | cons _ _ => exact nopeT h2
    | cons e es =>
      cases xs with
      | nil => exact nopeT h2
      | cons y ys =>
        have h3 := h2
        simp only [chks, Bool.and_eq_true] at h3
        exact call_of w hA h0 h1 (star_cons h3.1) (star_any h3.2) (pas_ok w (e :: es) c X _ hA h2)
  | .callk f ord es, c, X, x, hA, h => by
    cases x <;> try (exact nopeT h)
    rename_i g xs ks p
    cases g <;> try (exact nopeT h)
    cases xs <;> try (exact nopeT h)
    simp only [chk, Bool.and_eq_true, decide_eq_true_eq] at h
    obtain ⟨⟨⟨⟨⟨h0, h1⟩, h2⟩, h3⟩, h4⟩, h5⟩ := h
    exact callk_of w hA h0 h1 h2 h3 (kws_len h2 (chks_len h5)) (pks_ok w es c X ks hA h5)
  | .bi b es, c, X, x, hA, h => by
    cases x <;> try (exact nopeT h)
    rename_i g xs ks p
    cases g <;> try (exact nopeT h)
    cases ks <;> try (exact nopeT h)
    simp only [chk, Bool.and_eq_true, decide_eq_true_eq] at h
    obtain ⟨y, ys, rfl⟩ := ne_nil h.1.2
    cases es with
    | nil => simp only [chks] at h; cases h.2
    | cons e es =>
      have h2 := h.2
      simp only [chks, Bool.and_eq_true] at h2
      exact bi_of w hA h.1.1.1.1 h.1.1.1.2 h.1.1.2 (star_cons h2.1) (star_any h2.2) (pas_ok w (e :: es) c X _ hA h.2)
  | .isi e t, c, X, x, hA, h => by
    cases x <;> try (exact nopeT h)
    rename_i g xs ks p
    cases g <;> try (exact nopeT h)
    rcases xs with _ | ⟨y, _ | ⟨z, _ | ⟨z2, zs⟩⟩⟩ <;> try (exact nopeT h)
    · cases z <;> try (exact nopeT h)
      cases ks <;> try (exact nopeT h)
      simp only [chk, Bool.and_eq_true, decide_eq_true_eq] at h
      exact isi_of w hA h.1.1.1.1 h.1.1.1.2 h.1.1.2 h.1.2 (fun xs => star_cons h.2) (pe_ok w e c X _ hA h.2)
    · cases z <;> exact nopeT h
  | .isi2 e ts, c, X, x, hA, h => by
    cases x <;> try (exact nopeT h)
    rename_i g xs ks p
    cases g <;> try (exact nopeT h)
    rcases xs with _ | ⟨y, _ | ⟨z, _ | ⟨z2, zs⟩⟩⟩ <;> try (exact nopeT h)
    · cases z <;> try (exact nopeT h)
      cases ks <;> try (exact nopeT h)
      simp only [chk, Bool.and_eq_true, decide_eq_true_eq] at h
      exact isi2_of w hA h.1.1.1.1 h.1.1.1.2 h.1.1.2 h.1.2 (fun xs => star_cons h.2) (pe_ok w e c X _ hA h.2)
    · cases z <;> exact nopeT h
  | .lc fr own p it cond elt, c, X, x, hA, h => by
    cases x <;> try (exact nopeT h)
    rename_i x gs s pos
    rcases gs with _ | ⟨⟨t, i, ifs, a⟩, _ | ⟨g2, gs⟩⟩ <;> try (exact nopeT h)
    · rcases a with (_ | a) | a <;> try (exact nopeT h)
      have h : (blkC c.N c.sc s (ownN c own) && !isSet i && chkP (inC c s) p t && (varsP p).all (fun j => own.contains j) && chkI B c it i t && chkc B (inC c s) cond ifs && chk B (inC c s) elt x) = true := h
      simp only [Bool.and_eq_true, Bool.not_eq_true', List.all_eq_true] at h
      obtain ⟨⟨⟨⟨⟨⟨h1, h2⟩, h3⟩, h4⟩, h5⟩, h6⟩, h7⟩ := h
      refine lc_ok hA h1 h2 h3 (fun j hj => by simpa using h4 j hj) (pi_ok w it c X _ _ hA h5) (fun X' hA' => ptc_ok w cond _ X' _ hA' h6) fun X' hA' => pe_ok w elt _ X' _ hA' h7
    · rcases a with (_ | a) | a <;> exact nopeT h
  | .lc2 fr own p it cond own2 p2 it2 cond2 elt, c, X, x, hA, h => by
    cases x <;> try (exact nopeT h)
    rename_i x gs s pos
    rcases gs with _ | ⟨⟨t, i, ifs, a⟩, _ | ⟨⟨t2, i2, ifs2, a2⟩, _ | ⟨g3, gs⟩⟩⟩ <;> try (exact nopeT h)
    · rcases a with (_ | a) | a <;> exact nopeT h
    · rcases a with (_ | a) | a <;> try (exact nopeT h)
      rcases a2 with (_ | a2) | a2 <;> try (exact nopeT h)
      have h : ((blkC c.N c.sc s (ownN c own) && !isSet i && !isSet i2 && chkP (inC c s) p t && (varsP p).all (fun j => own.contains j) && chkP (inC c s) p2 t2 && (varsP p2).all (fun j => own2.contains j) && own2.all (fun j => own.contains j)) && (chkI B c it i t && chkc B (inC c s) cond ifs && chkI B (inC c s) it2 i2 t2 && chkc B (inC c s) cond2 ifs2 && chk B (inC c s) elt x)) = true := h
      simp only [Bool.and_eq_true, Bool.not_eq_true', List.all_eq_true] at h
      obtain ⟨⟨⟨⟨⟨⟨⟨⟨h1, h2⟩, h2'⟩, h3⟩, h4⟩, h3'⟩, h4'⟩, h8⟩, ⟨⟨⟨h5, h6⟩, h5'⟩, h6'⟩, h7⟩ := h
      exact lc2_ok hA h1 h2 h2' h3 (fun j hj => by simpa using h4 j hj) h3' (fun j hj => by simpa using h4' j hj) (fun j hj => by simpa using h8 j hj) (pi_ok w it c X _ _ hA h5) (fun X' hA' => ptc_ok w cond _ X' _ hA' h6) (fun X' hA' => pi_ok w it2 _ X' _ _ hA' h5') (fun X' hA' => ptc_ok w cond2 _ X' _ hA' h6') fun X' hA' => pe_ok w elt _ X' _ hA' h7
    · rcases a with (_ | a) | a <;> rcases a2 with (_ | a2) | a2 <;> exact nopeT h
  | .tcat fl es, c, X, x, hA, h => by
    cases x <;> try (exact nopeT h)
    rename_i xs j pos
    have h : (decide (es.length ≤ SZ) && chkss B c es fl xs) = true := h
    simp only [Bool.and_eq_true, decide_eq_true_eq] at h
    exact tcat_ok (pstar_ok w es fl c X _ hA h.2)
  | .rng _ _, c, X, x, hA, h => by cases x <;> (exact nopeT h)
  | .rng1 _, c, X, x, hA, h => by cases x <;> (exact nopeT h)
  | .zip _ _, c, X, x, hA, h => by cases x <;> (exact nopeT h)
  | .enm _, c, X, x, hA, h => by cases x <;> (exact nopeT h)
  | .app _ _, c, X, x, hA, h => by cases x <;> (exact nopeT h)
theorem pt_ok (w : WOk W T B) : ∀ (e : E) (c : Ck) (X : Cx) (x : Expr), At W c X → chkT B c e x = true → PT X x (tT W T e)
  | .not a, c, X, x, hA, h => by
    cases x <;> try (exact nopeT h)
    rename_i op x p
    cases op <;> try (exact nopeT h)
    exact nott_of (pt_ok w a c X _ hA h)
  | .and a b, c, X, x, hA, h => by
    cases x <;> try (exact nopeT h)
    rename_i op xs p
    cases op
    · rcases xs with _ | ⟨x, _ | ⟨y, _ | ⟨z, r⟩⟩⟩ <;> try (exact nopeT h)
      · simp only [chkT, Bool.and_eq_true] at h
        exact (andw_of (pt_ok w a c X _ hA h.1) (pw_and1 (pt_ok w b c X _ hA h.2))).pt
      · simp only [chkT, Bool.and_eq_true] at h
        exact (andw_of (pt_ok w a c X _ hA h.1) (pw_bool (pt_ok w b c X _ hA h.2))).pt
    · rcases xs with _ | ⟨x, _ | ⟨y, _ | ⟨z, r⟩⟩⟩ <;> (exact nopeT h)
  | .or a b, c, X, x, hA, h => by
    cases x <;> try (exact nopeT h)
    rename_i op xs p
    cases op
    · rcases xs with _ | ⟨x, _ | ⟨y, _ | ⟨z, r⟩⟩⟩ <;> (exact nopeT h)
    · rcases xs with _ | ⟨x, _ | ⟨y, _ | ⟨z, r⟩⟩⟩ <;> try (exact nopeT h)
      · simp only [chkT, Bool.and_eq_true] at h
        exact (orw_of (pt_ok w a c X _ hA h.1) (pw_or1 (pt_ok w b c X _ hA h.2))).pt
      · simp only [chkT, Bool.and_eq_true] at h
        exact (orw_of (pt_ok w a c X _ hA h.1) (pw_bool (pt_ok w b c X _ hA h.2))).pt
  | .cmp op a b, c, X, x, hA, h => by
    cases x <;> try (exact nopeT h)
    rename_i x os ys p
    rcases os with _ | ⟨o, _ | ⟨o', os⟩⟩ <;> rcases ys with _ | ⟨y, _ | ⟨y', ys⟩⟩ <;> try (exact nopeT h)
    simp only [chkT, Bool.and_eq_true, Bool.not_eq_true'] at h
    exact cmpt_ok hA h.1.1.1 h.1.1.2 (pe_ok w a c X _ hA h.1.2) (pe_ok w b c X _ hA h.2)
  | .cmp2 op op' a b d, c, X, x, hA, h => by
    cases x <;> try (exact nopeT h)
    rename_i x os ys p
    rcases os with _ | ⟨o, _ | ⟨o', _ | ⟨o2, os⟩⟩⟩ <;> rcases ys with _ | ⟨y, _ | ⟨y', _ | ⟨y2, ys⟩⟩⟩ <;> try (exact nopeT h)
    simp only [chkT, Bool.and_eq_true, Bool.not_eq_true'] at h
    exact cmp2t_ok hA h.1.1.1.1.1 h.1.1.1.1.2 h.1.1.1.2 (pe_ok w a c X _ hA h.1.1.2) (pe_ok w b c X _ hA h.1.2) (pe_ok w d c X _ hA h.2)
  | .isn neg a b, c, X, x, hA, h => by
    cases x <;> try (exact nopeT h)
    rename_i x os ys p
    rcases os with _ | ⟨o, _ | ⟨o', os⟩⟩ <;> rcases ys with _ | ⟨y, _ | ⟨y', ys⟩⟩ <;> try (exact nopeT h)
    simp only [chkT, Bool.and_eq_true, Bool.not_eq_true', decide_eq_true_eq] at h
    obtain ⟨⟨⟨h0, h1⟩, h2⟩, h3⟩ := h
    subst h0
    exact isnt_ok hA h1 (pe_ok w a c X _ hA h2) (pe_ok w b c X _ hA h3)
  | .eqm neg a b, c, X, x, hA, h => by
    cases x <;> try (exact nopeT h)
    rename_i x os ys p
    rcases os with _ | ⟨o, _ | ⟨o', os⟩⟩ <;> rcases ys with _ | ⟨y, _ | ⟨y', ys⟩⟩ <;> try (exact nopeT h)
    simp only [chkT, Bool.and_eq_true, Bool.not_eq_true', decide_eq_true_eq] at h
    obtain ⟨⟨⟨h0, h1⟩, h2⟩, h3⟩ := h
    subst h0
    exact eqmt_ok hA h1 (pe_ok w a c X _ hA h2) (pe_ok w b c X _ hA h3)
  | .var i, c, X, x, hA, h => by
    cases x <;> try (exact nopeT h)
    exact pt_leaf hA rfl rfl (var_ok hA h)
  | .idx a i, c, X, x, hA, h => by
    cases x <;> try (exact nopeT h)
    simp only [chkT, Bool.and_eq_true] at h
    exact pt_leaf hA rfl rfl (idx_of hA h.1.1 (pe_ok w a c X _ hA h.1.2) (pe_ok w i c X _ hA h.2))
  | .call f es, c, X, x, hA, h => by
    cases x <;> try (exact nopeT h)
    rename_i g xs ks p
    cases g <;> try (exact nopeT h)
    cases ks <;> try (exact nopeT h)
    simp only [chkT, Bool.and_eq_true, decide_eq_true_eq] at h
    obtain ⟨⟨h0, h1⟩, h2⟩ := h
    cases es with
    | nil =>
      cases xs with
      | nil => exact pt_leaf hA rfl rfl (call0_of w hA h0 h1)
      | cons _ _ => exact nopeT h2
    | cons e es =>
      cases xs with
      | nil => exact nopeT h2
      | cons y ys =>
        have h3 := h2
        simp only [chks, Bool.and_eq_true] at h3
        exact pt_leaf hA rfl rfl (call_of w hA h0 h1 (star_cons h3.1) (star_any h3.2) (pas_ok w (e :: es) c X _ hA h2))
  | .callk f ord es, c, X, x, hA, h => by
    cases x <;> try (exact nopeT h)
    rename_i g xs ks p
    cases g <;> try (exact nopeT h)
    cases xs <;> try (exact nopeT h)
    simp only [chkT, Bool.and_eq_true, decide_eq_true_eq] at h
    obtain ⟨⟨⟨⟨⟨h0, h1⟩, h2⟩, h3⟩, h4⟩, h5⟩ := h
    exact pt_leaf hA rfl rfl (callk_of w hA h0 h1 h2 h3 (kws_len h2 (chks_len h5)) (pks_ok w es c X ks hA h5))
  | .bi b es, c, X, x, hA, h => by
    cases x <;> try (exact nopeT h)
    rename_i g xs ks p
    cases g <;> try (exact nopeT h)
    cases ks <;> try (exact nopeT h)
    simp only [chkT, Bool.and_eq_true, decide_eq_true_eq] at h
    obtain ⟨y, ys, rfl⟩ := ne_nil h.1.2
    cases es with
    | nil => simp only [chks] at h; cases h.2
    | cons e es =>
      have h2 := h.2
      simp only [chks, Bool.and_eq_true] at h2
      exact pt_leaf hA rfl rfl (bi_of w hA h.1.1.1.1 h.1.1.1.2 h.1.1.2 (star_cons h2.1) (star_any h2.2) (pas_ok w (e :: es) c X _ hA h.2))
  | .isi e t, c, X, x, hA, h => by
    cases x <;> try (exact nopeT h)
    rename_i g xs ks p
    cases g <;> try (exact nopeT h)
    rcases xs with _ | ⟨y, _ | ⟨z, _ | ⟨z2, zs⟩⟩⟩ <;> try (exact nopeT h)
    · cases z <;> try (exact nopeT h)
      cases ks <;> try (exact nopeT h)
      simp only [chkT, Bool.and_eq_true, decide_eq_true_eq] at h
      exact pt_leaf hA rfl rfl (isi_of w hA h.1.1.1.1 h.1.1.1.2 h.1.1.2 h.1.2 (fun xs => star_cons h.2) (pe_ok w e c X _ hA h.2))
    · cases z <;> exact nopeT h
  | .isi2 e ts, c, X, x, hA, h => by
    cases x <;> try (exact nopeT h)
    rename_i g xs ks p
    cases g <;> try (exact nopeT h)
    rcases xs with _ | ⟨y, _ | ⟨z, _ | ⟨z2, zs⟩⟩⟩ <;> try (exact nopeT h)
    · cases z <;> try (exact nopeT h)
      cases ks <;> try (exact nopeT h)
      simp only [chkT, Bool.and_eq_true, decide_eq_true_eq] at h
      exact pt_leaf hA rfl rfl (isi2_of w hA h.1.1.1.1 h.1.1.1.2 h.1.1.2 h.1.2 (fun xs => star_cons h.2) (pe_ok w e c X _ hA h.2))
    · cases z <;> exact nopeT h
  | .cst _, c, X, x, hA, h => by cases x <;> (exact nopeT h)
  | .glb _ _, c, X, x, hA, h => by cases x <;> (exact nopeT h)
  | .bin _ _ _, c, X, x, hA, h => by cases x <;> (exact nopeT h)
  | .neg _, c, X, x, hA, h => by cases x <;> (exact nopeT h)
  | .ite _ _ _, c, X, x, hA, h => by cases x <;> (exact nopeT h)
  | .tup _, c, X, x, hA, h => by cases x <;> (exact nopeT h)
  | .lst _ _, c, X, x, hA, h => by cases x <;> (exact nopeT h)
  | .slc _ _ _, c, X, x, hA, h => by cases x <;> (exact nopeT h)
  | .rev _, c, X, x, hA, h => by cases x <;> (exact nopeT h)
  | .lc .., c, X, x, hA, h => by cases x <;> (exact nopeT h)
  | .lc2 .., c, X, x, hA, h => by cases x <;> (exact nopeT h)
  | .tcat .., c, X, x, hA, h => by cases x <;> (exact nopeT h)
  | .rng _ _, c, X, x, hA, h => by cases x <;> (exact nopeT h)
  | .rng1 _, c, X, x, hA, h => by cases x <;> (exact nopeT h)
  | .zip _ _, c, X, x, hA, h => by cases x <;> (exact nopeT h)
  | .enm _, c, X, x, hA, h => by cases x <;> (exact nopeT h)
  | .app _ _, c, X, x, hA, h => by cases x <;> (exact nopeT h)
  | .cnt _ _, c, X, x, hA, h => by cases x <;> (exact nopeT h)
  | .nset _, c, X, x, hA, h => by cases x <;> (exact nopeT h)
  | .dct, c, X, x, hA, h => by cases x <;> (exact nopeT h)
  | .tget .., c, X, x, hA, h => by cases x <;> (exact nopeT h)
  | .tin .., c, X, x, hA, h => by cases x <;> (exact nopeT h)
  | .tls .., c, X, x, hA, h => by cases x <;> (exact nopeT h)
  | .dsp .., c, X, x, hA, h => by cases x <;> (exact nopeT h)
  | .dget .., c, X, x, hA, h => by cases x <;> (exact nopeT h)
  | .rpt .., c, X, x, hA, h => by cases x <;> (exact nopeT h)
  | .dnew, c, X, x, hA, h => by cases x <;> (exact nopeT h)
  | .dlen _, c, X, x, hA, h => by cases x <;> (exact nopeT h)
  | .dsrt _, c, X, x, hA, h => by cases x <;> (exact nopeT h)
  | .pop _ _, c, X, x, hA, h => by cases x <;> (exact nopeT h)
  | .fnv _, c, X, x, hA, h => by cases x <;> (exact nopeT h)
  | .callv .., c, X, x, hA, h => by cases x <;> (exact nopeT h)
  | .lstf _, c, X, x, hA, h => by cases x <;> (exact nopeT h)
  | .cntl _ _, c, X, x, hA, h => by cases x <;> (exact nopeT h)
  | .rngd _, c, X, x, hA, h => by cases x <;> (exact nopeT h)
  | .lrg1 .., c, X, x, hA, h => by cases x <;> (exact nopeT h)
  | .lrg2 .., c, X, x, hA, h => by cases x <;> (exact nopeT h)
  | .cat _ _ _, c, X, x, hA, h => by cases x <;> (exact nopeT h)
theorem pas_ok (w : WOk W T B) : ∀ (es : List E) (c : Ck) (X : Cx) (xs : List Expr), At W c X → chks B c es xs = true → PA X xs (tA W T es)
  | [], c, X, xs, hA, h => by
    cases xs with
    | nil => exact nil_ok
    | cons _ _ => simp only [chks] at h; cases h
  | e :: es, c, X, xs, hA, h => by
    cases xs with
    | nil => simp only [chks] at h; cases h
    | cons x xs =>
      simp only [chks, Bool.and_eq_true] at h
      exact cons_ok (fun env => star_cons h.1) (pe_ok w e c X x hA h.1) (pas_ok w es c X xs hA h.2)
theorem pstar_ok (w : WOk W T B) : ∀ (es : List E) (fl : List Bool) (c : Ck) (X : Cx) (xs : List Expr), At W c X → chkss B c es fl xs = true → PA X xs (tAS W T fl es)
  | [], fl, c, X, xs, hA, h => by
    cases fl with
    | nil =>
      cases xs with
      | nil => exact nils_ok
      | cons _ _ => exact nopeT h
    | cons _ _ => exact nopeT h
  | e :: es, fl, c, X, xs, hA, h => by
    cases fl with
    | nil => exact nopeT h
    | cons f fl =>
      cases xs with
      | nil => cases f <;> exact nopeT h
      | cons x xs =>
        cases f with
        | false =>
          have h : (chk B c e x && chkss B c es fl xs) = true := h
          rw [Bool.and_eq_true] at h
          exact conss_ok (fun env => star_cons h.1) (pe_ok w e c X x hA h.1) (pstar_ok w es fl c X xs hA h.2)
        | true =>
          cases x <;> try (exact nopeT h)
          rename_i y sp
          have h : (chk B c e y && chkss B c es fl xs) = true := h
          rw [Bool.and_eq_true] at h
          exact starc_ok hA (pe_ok w e c X y hA h.1) (pstar_ok w es fl c X xs hA h.2)
theorem pks_ok (w : WOk W T B) : ∀ (es : List E) (c : Ck) (X : Cx) (ks : List Keyword), At W c X → chks B c es (ks.map (·.value)) = true → PK X ks (tA W T es)
  | [], c, X, ks, hA, h => by
    cases ks with
    | nil => exact nilk_ok
    | cons _ _ => exact nopeT h
  | e :: es, c, X, ks, hA, h => by
    cases ks with
    | nil => exact nopeT h
    | cons k ks =>
      obtain ⟨nm, x, kp⟩ := k
      have h : (chk B c e x && chks B c es (ks.map (·.value))) = true := h
      rw [Bool.and_eq_true] at h
      exact consk_ok (pe_ok w e c X x hA h.1) (pks_ok w es c X ks hA h.2)
theorem pos_ok (w : WOk W T B) : ∀ (e : Option E) (c : Ck) (X : Cx) (x : Option Expr), At W c X → chko B c e x = true → PO X x (tO W T e)
  | none, c, X, x, hA, h => by
    cases x with
    | none => exact none_ok
    | some _ => simp only [chko] at h; cases h
  | some e, c, X, x, hA, h => by
    cases x with
    | none => simp only [chko] at h; cases h
    | some x => exact some_ok (pe_ok w e c X x hA h)
theorem ptc_ok (w : WOk W T B) : ∀ (e : Option E) (c : Ck) (X : Cx) (xs : List Expr), At W c X → chkc B c e xs = true → PTs X xs (tC W T e)
  | none, c, X, xs, hA, h => by
    rcases xs with _ | ⟨y, _ | ⟨z, ys⟩⟩ <;> try (exact nopeT h)
    exact pts_none
  | some e, c, X, xs, hA, h => by
    rcases xs with _ | ⟨y, _ | ⟨z, ys⟩⟩ <;> try (exact nopeT h)
    exact pts_some (pt_ok w e c X y hA h)
theorem pi_ok (w : WOk W T B) : ∀ (e : E) (c : Ck) (X : Cx) (x t : Expr), At W c X → chkI B c e x t = true → PI X t x (tI W T e)
  | .rng1 b, c, X, x, t, hA, h => by
    cases x <;> try (exact nopeT h)
    rename_i g xs ks p
    cases g <;> try (exact nopeT h)
    rcases xs with _ | ⟨y, _ | ⟨z, zs⟩⟩ <;> try (exact nopeT h)
    cases ks <;> try (exact nopeT h)
    simp only [chkI, Bool.and_eq_true, decide_eq_true_eq] at h
    exact rng1_pi w hA h.1.1 h.1.2 (fun xs => star_cons h.2) (pe_ok w b c X _ hA h.2)
  | .rng a b, c, X, x, t, hA, h => by
    cases x <;> try (exact nopeT h)
    rename_i g xs ks p
    cases g <;> try (exact nopeT h)
    rcases xs with _ | ⟨y, _ | ⟨z, _ | ⟨z2, zs⟩⟩⟩ <;> try (exact nopeT h)
    cases ks <;> try (exact nopeT h)
    simp only [chkI, Bool.and_eq_true, decide_eq_true_eq] at h
    exact rng_pi w hA h.1.1.1 h.1.1.2 (fun xs => star_cons h.1.2) (fun xs => star_cons h.2) (pe_ok w a c X _ hA h.1.2) (pe_ok w b c X _ hA h.2)
  | .zip a b, c, X, x, t, hA, h => by
    cases x <;> try (exact nopeT h)
    rename_i g xs ks p
    cases g <;> try (exact nopeT h)
    rcases xs with _ | ⟨y, _ | ⟨z, _ | ⟨z2, zs⟩⟩⟩ <;> try (exact nopeT h)
    cases ks <;> try (exact nopeT h)
    cases t <;> try (exact nopeT h)
    simp only [chkI, Bool.and_eq_true, decide_eq_true_eq] at h
    exact zip_pi w hA h.1.1.1 h.1.1.2 (fun xs => star_cons h.1.2) (fun xs => star_cons h.2) (pe_ok w a c X _ hA h.1.2) (pe_ok w b c X _ hA h.2)
  | .enm a, c, X, x, t, hA, h => by
    cases x <;> try (exact nopeT h)
    rename_i g xs ks p
    cases g <;> try (exact nopeT h)
    rcases xs with _ | ⟨y, _ | ⟨z, zs⟩⟩ <;> try (exact nopeT h)
    cases ks <;> try (exact nopeT h)
    cases t <;> try (exact nopeT h)
    simp only [chkI, Bool.and_eq_true, decide_eq_true_eq] at h
    exact enm_pi w hA h.1.1 h.1.2 (fun xs => star_cons h.2) (pe_ok w a c X _ hA h.2)
  | .var i, c, X, x, t, hA, h => by
    cases x <;> try (exact nopeT h)
    exact seq_pi hA (var_ok hA h)
  | .glb n d, c, X, x, t, hA, h => by
    cases x <;> try (exact nopeT h)
    exact seq_pi hA (glb_ok w hA h)
  | .tup es, c, X, x, t, hA, h => by
    cases x <;> try (exact nopeT h)
    simp only [chkI, Bool.and_eq_true, decide_eq_true_eq] at h
    exact seq_pi hA (tup_ok h.1 (pas_ok w es c X _ hA h.2))
  | .lst fr es, c, X, x, t, hA, h => by
    cases x <;> try (exact nopeT h)
    simp only [chkI, Bool.and_eq_true, decide_eq_true_eq] at h
    exact seq_pi hA (lst_ok h.1 (pas_ok w es c X _ hA h.2))
  | .call f es, c, X, x, t, hA, h => by
    cases x <;> try (exact nopeT h)
    rename_i g xs ks p
    cases g <;> try (exact nopeT h)
    cases ks <;> try (exact nopeT h)
    simp only [chkI, Bool.and_eq_true, decide_eq_true_eq] at h
    obtain ⟨⟨h0, h1⟩, h2⟩ := h
    cases es with
    | nil =>
      cases xs with
      | nil => exact seq_pi hA (call0_of w hA h0 h1)
      | cons _ _ => exact nopeT h2
    | cons e es =>
      cases xs with
      | nil => exact nopeT h2
      | cons y ys =>
        have h3 := h2
        simp only [chks, Bool.and_eq_true] at h3
        exact seq_pi hA (call_of w hA h0 h1 (star_cons h3.1) (star_any h3.2) (pas_ok w (e :: es) c X _ hA h2))
  | .callk f ord es, c, X, x, t, hA, h => by
    cases x <;> try (exact nopeT h)
    rename_i g xs ks p
    cases g <;> try (exact nopeT h)
    cases xs <;> try (exact nopeT h)
    simp only [chkI, Bool.and_eq_true, decide_eq_true_eq] at h
    obtain ⟨⟨⟨⟨⟨h0, h1⟩, h2⟩, h3⟩, h4⟩, h5⟩ := h
    exact seq_pi hA (callk_of w hA h0 h1 h2 h3 (kws_len h2 (chks_len h5)) (pks_ok w es c X ks hA h5))
  | .idx a i, c, X, x, t, hA, h => by
    cases x <;> try (exact nopeT h)
    simp only [chkI, Bool.and_eq_true] at h
    exact seq_pi hA (idx_of hA h.1.1 (pe_ok w a c X _ hA h.1.2) (pe_ok w i c X _ hA h.2))
  | .slc a lo hi, c, X, x, t, hA, h => by
    cases x <;> try (exact nopeT h)
    rename_i x y p
    cases y <;> try (exact nopeT h)
    rename_i l h' st p2
    cases st <;> try (exact nopeT h)
    simp only [chkI, Bool.and_eq_true] at h
    exact seq_pi hA (slc_of hA (pe_ok w a c X _ hA h.1.1) (pos_ok w lo c X _ hA h.1.2) (pos_ok w hi c X _ hA h.2))
  | .cst _, c, X, x, t, hA, h => by cases x <;> (exact nopeT h)
  | .bin op a b, c, X, x, t, hA, h => by
    cases x <;> try (exact nopeT h)
    simp only [chkI, Bool.and_eq_true] at h
    exact seq_pi hA (bin_ok hA h.1.1 (pe_ok w a c X _ hA h.1.2) (pe_ok w b c X _ hA h.2))
  | .neg _, c, X, x, t, hA, h => by cases x <;> (exact nopeT h)
  | .not _, c, X, x, t, hA, h => by cases x <;> (exact nopeT h)
  | .cmp _ _ _, c, X, x, t, hA, h => by cases x <;> (exact nopeT h)
  | .cmp2 _ _ _ _ _, c, X, x, t, hA, h => by cases x <;> (exact nopeT h)
  | .and _ _, c, X, x, t, hA, h => by cases x <;> (exact nopeT h)
  | .or _ _, c, X, x, t, hA, h => by cases x <;> (exact nopeT h)
  | .ite _ _ _, c, X, x, t, hA, h => by cases x <;> (exact nopeT h)
  | .rev _, c, X, x, t, hA, h => by cases x <;> (exact nopeT h)
  | .bi _ _, c, X, x, t, hA, h => by cases x <;> (exact nopeT h)
  | .isi _ _, c, X, x, t, hA, h => by cases x <;> (exact nopeT h)
  | .isi2 _ _, c, X, x, t, hA, h => by cases x <;> (exact nopeT h)
  | .lc .., c, X, x, t, hA, h => by cases x <;> (exact nopeT h)
  | .lc2 .., c, X, x, t, hA, h => by cases x <;> (exact nopeT h)
  | .tcat .., c, X, x, t, hA, h => by cases x <;> (exact nopeT h)
  | .app _ _, c, X, x, t, hA, h => by cases x <;> (exact nopeT h)
  | .cnt _ _, c, X, x, t, hA, h => by cases x <;> (exact nopeT h)
  | .nset _, c, X, x, t, hA, h => by cases x <;> (exact nopeT h)
  | .dct, c, X, x, t, hA, h => by cases x <;> (exact nopeT h)
  | .tget .., c, X, x, t, hA, h => by cases x <;> (exact nopeT h)
  | .tin .., c, X, x, t, hA, h => by cases x <;> (exact nopeT h)
  | .tls .., c, X, x, t, hA, h => by cases x <;> (exact nopeT h)
  | .dsp .., c, X, x, t, hA, h => by cases x <;> (exact nopeT h)
  | .dget .., c, X, x, t, hA, h => by cases x <;> (exact nopeT h)
  | .rpt .., c, X, x, t, hA, h => by cases x <;> (exact nopeT h)
  | .dnew, c, X, x, t, hA, h => by cases x <;> (exact nopeT h)
  | .dlen _, c, X, x, t, hA, h => by cases x <;> (exact nopeT h)
  | .dsrt _, c, X, x, t, hA, h => by cases x <;> (exact nopeT h)
  | .pop _ _, c, X, x, t, hA, h => by cases x <;> (exact nopeT h)
  | .fnv _, c, X, x, t, hA, h => by cases x <;> (exact nopeT h)
  | .callv .., c, X, x, t, hA, h => by cases x <;> (exact nopeT h)
  | .rngd es, c, X, x, t, hA, h => by
    cases x <;> try (exact nopeT h)
    rename_i g xs ks p
    cases g <;> try (exact nopeT h)
    rcases xs with _ | ⟨y, _ | ⟨z, _ | ⟨u, _ | ⟨v, zs⟩⟩⟩⟩ <;> try (exact nopeT h)
    cases ks <;> try (exact nopeT h)
    simp only [chkI, Bool.and_eq_true, decide_eq_true_eq] at h
    have h3 := h.2
    cases es with
    | nil => simp only [chks] at h3; cases h3
    | cons e es =>
      simp only [chks, Bool.and_eq_true] at h3
      exact rngd_pi w hA h.1.1 h.1.2 (star_cons h3.1) (star_any h3.2) (pas_ok w (e :: es) c X _ hA h.2)
  | .lstf _, c, X, x, t, hA, h => by cases x <;> (exact nopeT h)
  | .cntl _ _, c, X, x, t, hA, h => by cases x <;> (exact nopeT h)
  | .lrg1 .., c, X, x, t, hA, h => by cases x <;> (exact nopeT h)
  | .lrg2 .., c, X, x, t, hA, h => by cases x <;> (exact nopeT h)
  | .cat fr a b, c, X, x, t, hA, h => by
    cases x <;> try (exact nopeT h)
    simp only [chkI, Bool.and_eq_true] at h
    exact seq_pi hA (catv_of hA h.1.1 (pe_ok w a c X _ hA h.1.2) (pe_ok w b c X _ hA h.2))
  | .isn _ _ _, c, X, x, t, hA, h => by cases x <;> (exact nopeT h)
  | .eqm _ _ _, c, X, x, t, hA, h => by cases x <;> (exact nopeT h)
end
end
end FV
set_option Elab.async false
set_option linter.all false
set_option maxRecDepth 100000
set_option maxHeartbeats 8000000
/-! Sound8: statements, one by one. -/
namespace FV
open PySem L2
/-! ### what is wanted behind a statement -/
structure PoN (K : PySem.W.Frag) (m : Ms) (H : Hp) (N : FV.Ends) (D : L2.Ends) : Prop where
  nx : ∀ σ S' m' vσ H', Ext m H m' H' → HR K m' S' H' → RS K m' H' σ vσ → N.nx σ S' → D.nx vσ H'
  rt : Po K m H N.rt D.rt
  bk : ∀ σ S' m' vσ H', Ext m H m' H' → HR K m' S' H' → RS K m' H' σ vσ → N.bk σ S' → D.bk vσ H'
  ct : ∀ σ S' m' vσ H', Ext m H m' H' → HR K m' S' H' → RS K m' H' σ vσ → N.ct σ S' → D.ct vσ H'
def tS (W : Wd) (T : Nat → Option Fn) (s : Sm) : L2.TS := fun D vσ H => ∃ m σ S N, HR W.K m S H ∧ RS W.K m H σ vσ ∧ ex (callw T W.n) XF s σ S N ∧ PoN W.K m H N D
def tSs (W : Wd) (T : Nat → Option Fn) (s : List Sm) : L2.TS := fun D vσ H => ∃ m σ S N, HR W.K m S H ∧ RS W.K m H σ vσ ∧ exs (callw T W.n) XF s σ S N ∧ PoN W.K m H N D
theorem ps_imp {X : Cx} {e : Stmt} {t t' : L2.TS} (h : PS X e t) (w : ∀ D σ H, t' D σ H → t D σ H) : PS X e t' := ⟨fun pins s σ H D I q => h.run pins s σ H D I (w _ _ _ q)⟩
theorem pss_imp {X : Cx} {e : List Stmt} {t t' : L2.TS} (h : PSs X e t) (w : ∀ D σ H, t' D σ H → t D σ H) : PSs X e t' := ⟨fun pins s σ H D I q => h.run pins s σ H D I (w _ _ _ q)⟩
section
variable {K : PySem.W.Frag} {m m' : Ms} {H H' : Hp} {N : FV.Ends} {D : L2.Ends}
theorem PoN.ext (p : PoN K m H N D) (x : Ext m H m' H') : PoN K m' H' N D :=
  ⟨fun σ S2 m2 vσ H2 y => p.nx σ S2 m2 vσ H2 (x.trans y), p.rt.ext x, fun σ S2 m2 vσ H2 y => p.bk σ S2 m2 vσ H2 (x.trans y), fun σ S2 m2 vσ H2 y => p.ct σ S2 m2 vσ H2 (x.trans y)⟩
end
/-! ### stores that are swapped -/
def isStar : Expr → Bool
  | .Starred .. => true
  | _ => false
def lnOf (ts : List Expr) : Nat := (ts.head?.map (·.pos.line)).getD 0
def nmOf (sc : Scope) (l : Nat) : Expr → Option Str
  | .Name id pos => if sc.names.lookup id == some .local && pos.line == l then some id else none
  | _ => none
theorem sw_eq {env : PySem.Env} {ts vs : List Expr} {k k2 p p2} (hk : env.scope.kind = .function) : ∃ u, swappedStores [.Tuple ts k p] (.Tuple vs k2 p2) env =
    (if (!(ts.length == 2 || ts.length == 3) || vs.length != ts.length || ScopeKind.function != ScopeKind.function) = true then pure none else if vs.any isStar = true then pure none
     else if ((ts.filterMap (nmOf env.scope (lnOf ts))).length != ts.length || (ts.filterMap (nmOf env.scope (lnOf ts))).eraseDups.length != (ts.filterMap (nmOf env.scope (lnOf ts))).length) = true then pure none
     else if vs.all (foldedForSure 8) = true then pure none else if vs.all (constantsAlone 8) = true then u else pure (some (ts.filterMap (nmOf env.scope (lnOf ts))))) := by
  have hb : env.blockKind = .function := by unfold Env.blockKind; rw [hk]; rfl
  refine ⟨?u, ?_⟩
  rotate_left
  · unfold swappedStores
    simp only [hb]
    rfl
/-- no store of names alone -/
def noSw (sc : Scope) (tg v : Expr) : Bool := match tg, v with
  | .Tuple ts _ _, .Tuple vs _ _ => !(ts.length == 2 || ts.length == 3) || vs.length != ts.length || (ts.filterMap (nmOf sc (lnOf ts))).length != ts.length || vs.all (foldedForSure 8)
  | .List .., _ => false
  | _, _ => true
theorem sw_none {env : PySem.Env} {tg v : Expr} (hk : env.scope.kind = .function) (h : noSw env.scope tg v = true) : swappedStores [tg] v env = pure none := by
  cases tg <;> cases v <;> first
    | rfl
    | (cases h; done)
    | skip
  rename_i ts k p vs k2 p2
  obtain ⟨u, e⟩ := sw_eq (k := k) (k2 := k2) (p := p) (p2 := p2) (ts := ts) (vs := vs) hk
  rw [e]
  have h : (!(ts.length == 2 || ts.length == 3) || vs.length != ts.length || (ts.filterMap (nmOf env.scope (lnOf ts))).length != ts.length || vs.all (foldedForSure 8)) = true := h
  rw [Bool.or_eq_true] at h
  rcases h with h | h
  · rw [Bool.or_eq_true] at h
    rcases h with h | h
    · rw [if_pos]
      rw [Bool.or_eq_true]
      exact .inl h
    · split
      · rfl
      · split
        · rfl
        · rw [if_pos (by simp [h])]
  · split
    · rfl
    · split
      · rfl
      · split
        · rfl
        · first | rfl | rw [if_pos h]
/-- two or three names, one line -/
def parN (sc : Scope) (l : Nat) (x : Str) (p : Pos) : Bool := decide (sc.names.lookup x = some .local) && p.line == l
theorem parN_ok {sc : Scope} {l : Nat} {x : Str} {p : Pos} (h : parN sc l x p = true) : nmOf sc l (.Name x p) = some x ∧ sc.names.lookup x = some .local := by
  simp only [parN, Bool.and_eq_true, decide_eq_true_eq] at h
  refine ⟨?_, h.1⟩
  simp [nmOf, h.1, h.2]
theorem sw_two {env : PySem.Env} {x y : Str} {px py p p2 : Pos} {a b : Expr} {k k2} (hk : env.scope.kind = .function) (hx : parN env.scope px.line x px = true) (hy : parN env.scope px.line y py = true) (hne : x ≠ y)
    (hs : isStar a = false ∧ isStar b = false) (h1 : [a, b].all (foldedForSure 8) = false) (h2 : [a, b].all (constantsAlone 8) = false) :
    swappedStores [.Tuple [.Name x px, .Name y py] k p] (.Tuple [a, b] k2 p2) env = pure (some [x, y]) := by
  obtain ⟨u, e⟩ := sw_eq (ts := [.Name x px, .Name y py]) (vs := [a, b]) (k := k) (k2 := k2) (p := p) (p2 := p2) hk
  rw [e]
  have hl : lnOf [Expr.Name x px, Expr.Name y py] = px.line := rfl
  have hf : [Expr.Name x px, Expr.Name y py].filterMap (nmOf env.scope px.line) = [x, y] := by
    simp [(parN_ok hx).1, (parN_ok hy).1]
  rw [hl, hf, if_neg (by simp), if_neg (by simp [hs.1, hs.2]), if_neg, if_neg (by rw [h1]; decide), if_neg (by rw [h2]; decide)]
  simp [List.eraseDups_cons, hne, Ne.symm hne]
theorem sw_three {env : PySem.Env} {x y z : Str} {px py pz p p2 : Pos} {a b d : Expr} {k k2} (hk : env.scope.kind = .function) (hx : parN env.scope px.line x px = true) (hy : parN env.scope px.line y py = true) (hz : parN env.scope px.line z pz = true) (hne : x ≠ y ∧ x ≠ z ∧ y ≠ z)
    (hs : isStar a = false ∧ isStar b = false ∧ isStar d = false) (h1 : [a, b, d].all (foldedForSure 8) = false) (h2 : [a, b, d].all (constantsAlone 8) = false) :
    swappedStores [.Tuple [.Name x px, .Name y py, .Name z pz] k p] (.Tuple [a, b, d] k2 p2) env = pure (some [x, y, z]) := by
  obtain ⟨u, e⟩ := sw_eq (ts := [.Name x px, .Name y py, .Name z pz]) (vs := [a, b, d]) (k := k) (k2 := k2) (p := p) (p2 := p2) hk
  rw [e]
  have hl : lnOf [Expr.Name x px, Expr.Name y py, Expr.Name z pz] = px.line := rfl
  have hf : [Expr.Name x px, Expr.Name y py, Expr.Name z pz].filterMap (nmOf env.scope px.line) = [x, y, z] := by
    simp [(parN_ok hx).1, (parN_ok hy).1, (parN_ok hz).1]
  rw [hl, hf, if_neg (by simp), if_neg (by simp [hs.1, hs.2.1, hs.2.2]), if_neg, if_neg (by rw [h1]; decide), if_neg (by rw [h2]; decide)]
  simp [List.eraseDups_cons, hne.1, hne.2.1, hne.2.2, Ne.symm hne.1, Ne.symm hne.2.1, Ne.symm hne.2.2]
/-! ### a comprehension stored -/
def isLc : Expr → Bool
  | .ListComp .. => true
  | .SetComp .. => true
  | .DictComp .. => true
  | _ => false
theorem sw_leaf {v : Expr} {t : Option Expr} {l : Nat} {env : PySem.Env} (h : isLc v = false) : swapsWith v t l env = pure false := by
  cases v <;> first | rfl | (cases h)
theorem sw_lc {elt : Expr} {gs : List Comprehension} {scope : Scope} {pos py : Pos} {y : Str} {l : Nat} {env : PySem.Env} (hk : env.scope.kind = .function) :
    swapsWith (.ListComp elt gs scope pos) (some (.Name y py)) l env = pure (env.scope.names.lookup y == some .local && py.line == pos.line && !(scope.names.any fun (n, k) => n == y && (k == .local || k == .cell))) := by
  have hb : env.blockKind = .function := by unfold Env.blockKind; rw [hk]; rfl
  unfold swapsWith
  simp only [hb, Expr.pos]
  rfl
end FV
set_option Elab.async false
set_option linter.all false
set_option maxRecDepth 100000
set_option maxHeartbeats 8000000
/-! Sound9: targets, stores, expressions as statements. -/
namespace FV
open PySem L2
section
variable {W : Wd} {T : Nat → Option Fn} {B : Tb}
mutual
/-- the target t is the text x -/
def chkG (B : Tb) (c : Ck) : Tg → Expr → Bool
  | .pt p, x => chkP c p x
  | .sub o i, .Subscript x y _ => plainIx y && chk B c o x && chk B c i y
  | .dsub o i, .Subscript x y _ => plainIx y && chk B c o x && chk B c i y
  | .tp ts, .Tuple ys _ _ => chkGs B c ts ys
  | _, _ => false
def chkGs (B : Tb) (c : Ck) : List Tg → List Expr → Bool
  | [], [] => true
  | t :: ts, x :: xs => chkG B c t x && chkGs B c ts xs
  | _, _ => false
end
def PoG (K : PySem.W.Frag) (m : Ms) (H : Hp) (k : Env → Store → Prop) (Q : L2.St → Hp → Prop) : Prop := ∀ σ S' m' vσ H', Ext m H m' H' → HR K m' S' H' → RS K m' H' σ vσ → k σ S' → Q vσ H'
def tG (W : Wd) (T : Nat → Option Fn) (t : Tg) : TG := fun v vσ H Q => ∃ m σ d S k, HR W.K m S H ∧ RS W.K m H σ vσ ∧ RelD W.K m H d v ∧ asg (callw T W.n) XF t d σ S k ∧ PoG W.K m H k Q
def tGs (W : Wd) (T : Nat → Option Fn) (t : List Tg) : TGs := fun v vσ H Q => ∃ m σ d S k, HR W.K m S H ∧ RS W.K m H σ vσ ∧ RelDs W.K m H d v ∧ asgs (callw T W.n) XF t d σ S k ∧ PoG W.K m H k Q
theorem chkG_star {c : Ck} {t : Tg} {e : Expr} (h : chkG B c t e = true) : ∀ x q, e ≠ .Starred x q := by
  intro x q z
  subst z
  cases t with
  | pt p => exact chkP_star (show chkP c p _ = true from h) _ _ rfl
  | sub o i => exact nopeT h
  | dsub o i => exact nopeT h
  | tp ts => exact nopeT h
theorem chkGs_len {c : Ck} {env : PySem.Env} : ∀ {ps : List Tg} {es : List Expr}, chkGs B c ps es = true → (assignEach es env).length = ps.length ∧ (assignEach es env).findIdx? (·.1) = none
  | [], [], _ => ⟨rfl, rfl⟩
  | [], _ :: _, h => nopeT h
  | _ :: _, [], h => nopeT h
  | p :: ps, e :: es, h => by
    simp only [chkGs, Bool.and_eq_true] at h
    obtain ⟨h1, h2⟩ := chkGs_len (env := env) h.2
    rw [assign_cons (chkG_star h.1)]
    refine ⟨by rw [List.length_cons, List.length_cons, h1], ?_⟩
    rw [List.findIdx?_cons]
    simp [h2]
theorem ixN_in {n : Nat} {j : Int} (h0 : 0 ≤ j) (h1 : j < n) : ixN n j = some j.toNat := by
  unfold ixN
  rw [if_pos h0, if_pos h1]
theorem sub_assign {o i : Expr} {pos : Pos} {env : PySem.Env} (h : plainIx i = true) (v : Value) : assign (.Subscript o i pos) env v = (do
      let ov ← holding [v] (eval o env)
      let iv ← holding [v, ov] (eval i env)
      standAt pos
      holding [v, ov, iv] (setItem ov iv v)
      release [v, ov, iv] []) := by
  cases i <;> first | rfl | (cases h)
theorem pg_pt {c : Ck} {X : Cx} {p : Pt} {x : Expr} (hA : At W c X) (h : chkP c p x = true) : PG X x (tG W T (.pt p)) := by
  refine pg_imp (pgP hA p x h) fun v vσ H Q q => ?_
  obtain ⟨m, σ, d, S, k, hr, rs, rd, ha, po⟩ := q
  simp only [asg] at ha
  split at ha
  · rename_i σ' e
    exact ⟨m, σ, d, σ', rs, rd, e, fun vσ' rs' _ => po _ _ _ _ _ .refl hr rs' ha⟩
  · exact ha.elim
theorem pg_sub' {c : Ck} {X : Cx} {o i : E} {x y : Expr} {p : Pos} (hA : At W c X) (hi : plainIx y = true) (ho : PE X x (tE W T o)) (hy : PE X y (tE W T i)) : PG X (.Subscript x y p) (tG W T (.sub o i)) := by
  refine pg_imp (pg_sub ho hy set_list (sub_assign hi)) fun v vσ H Q q => ?_
  obtain ⟨m, σ, d, S, k, hr, rs, rd, ha, po⟩ := q
  simp only [asg] at ha
  refine ⟨m, σ, S, _, hr, rs, ha, fun x S1 m1 w H1 x1 hr1 r1 h1 => ⟨m1, σ, S1, _, hr1, rs.mono x1, h1, fun y S2 m2 u H2 x2 hr2 r2 h2 => ?_⟩⟩
  obtain ⟨j, ej, h3⟩ := asI_of h2
  subst ej
  clear ha h1 h2
  cases x <;> try (exact h3.elim)
  rename_i l
  have h2 : (match cl S2 l with | some ds => (0 ≤ j ∧ j < ds.length) ∧ k σ (S2.set l (ds.set j.toNat d)) | none => False) := h3
  split at h2
  · rename_i ds ecl
    obtain ⟨⟨j0, j1⟩, h2⟩ := h2
    cases r2
    have r1' := r1.mono x2
    cases r1' with
    | ref hl =>
      rename_i a
      obtain ⟨vs, ea, rds⟩ := hr2.at_ l ds a ecl hl
      have hm : a ∈ m2.c := List.mem_of_getElem? hl.1
      have xs := ext_set (o := .lst (vs.set j.toNat v)) hm (hr2.mu hm)
      refine ⟨a, vs, j, j.toNat, rfl, rfl, ea, ixN_in j0 (by rw [← rds.length]; exact j1), ?_⟩
      have rd2 := (rd.mono x1).mono x2
      exact po _ _ _ _ _ ((x1.trans x2).trans xs) (hr2.set hl (rds.set j.toNat rd2)) ((rs.mono (x1.trans x2)).mono xs) h2
  · exact h2.elim
theorem putD_of {ds : List D} {y : D} {k : List D → Prop} (h : putD ds y k) : ∃ (rs : List (List Int)) (es : List D) (r : List Int), rws? ds = some rs ∧ y = .tup es ∧ ints? es = some r ∧ rs.length < SZ ∧ k (if r ∈ rs then ds else ds ++ [.tup es]) := by
  unfold putD at h
  split at h
  · rename_i rs e
    split at h
    · rename_i es
      split at h
      · rename_i r e2
        exact ⟨rs, es, r, e, rfl, e2, h.1, h.2⟩
      · exact h.elim
    · exact h.elim
  · exact h.elim
theorem ints_row : ∀ {es : List D} {r : List Int}, ints? es = some r → es = r.map D.int
  | [], r, h => by cases h; rfl
  | e :: es, r, h => by
    cases e <;> try (cases h; done)
    rename_i i
    unfold ints? at h
    cases q : ints? es with
    | none => rw [q] at h; cases h
    | some r' =>
      rw [q] at h
      cases h
      rw [ints_row q]; rfl
theorem pg_dsub {c : Ck} {X : Cx} {o i : E} {x y : Expr} {p : Pos} (hA : At W c X) (hi : plainIx y = true) (ho : PE X x (tE W T o)) (hy : PE X y (tE W T i)) : PG X (.Subscript x y p) (tG W T (.dsub o i)) := by
  refine pg_imp (pg_sub ho hy (set_dct (by have := hA.hu; omega)) (sub_assign hi)) fun v vσ H Q q => ?_
  obtain ⟨m, σ, d, S, k, hr, rs, rd, ha, po⟩ := q
  simp only [asg] at ha
  obtain ⟨ed, ha⟩ := ha
  subst ed
  obtain rfl := relB rd
  refine ⟨m, σ, S, _, hr, rs, ha, fun x S1 m1 w H1 x1 hr1 r1 h1 => ?_⟩
  obtain ⟨l, rfl, h2⟩ := onDre_of h1
  clear h1
  refine ⟨m1, σ, S1, _, hr1, rs.mono x1, h2, fun y S2 m2 u H2 x2 hr2 r2 h3 => ?_⟩
  split at h3
  · rename_i ds ec
    obtain ⟨b, xs, rfl, hl, e1, nd, q, rr⟩ := dre_of hr2 (r1.mono x2) ec
    obtain ⟨rs2, es, ks, er, rfl, ei, hz, h4⟩ := putD_of h3
    have e3 := ints_row ei
    subst e3
    cases r2 with
    | tup hs rv =>
      rename_i kb vs
      have er2 : rws? ds = some (xs.map (·.1)) := by
        rw [e1, show (xs.map fun x => rwI x.1) = (xs.map (·.1)).map rwI by rw [List.map_map]; rfl]
        exact rws_rows
      rw [er] at er2
      cases er2
      have rk : RelD W.K m2 H2 (rwI ks) (.ref kb) := .tup hs rv
      rw [List.length_map] at hz
      have hm : b ∈ m2.c := List.mem_of_getElem? hl.1
      have xt := ext_set (o := dctO b (putR xs ks kb)) hm (hr2.mu hm)
      rw [hA.k]
      refine ⟨m2, b, kb, xs, ks, rfl, rfl, rfl, q, nd, rr, rk, sz_lt hz, ?_⟩
      have hr3 := hr2.dset (xs := putR xs ks kb) hl (put_nodup nd) (put_rel rr rk)
      refine po _ _ _ _ _ ((x1.trans x2).trans xt) hr3 ((rs.mono (x1.trans x2)).mono xt) ?_
      have e5 : ((putR xs ks kb).map fun x => rwI x.1) = if ks ∈ xs.map (·.1) then ds else ds ++ [.tup (ks.map D.int)] := by
        unfold putR
        split
        · exact e1.symm
        · rw [List.map_append, ← e1]; rfl
      rw [e5]
      exact h4
  · exact h3.elim
mutual
theorem pgG (w : WOk W T B) : ∀ (t : Tg) (c : Ck) (X : Cx) (x : Expr), At W c X → chkG B c t x = true → PG X x (tG W T t)
  | .pt p, c, X, x, hA, h => pg_pt hA h
  | .sub o i, c, X, x, hA, h => by
    cases x <;> try (exact nopeT h)
    simp only [chkG, Bool.and_eq_true] at h
    exact pg_sub' hA h.1.1 (pe_ok w o c X _ hA h.1.2) (pe_ok w i c X _ hA h.2)
  | .dsub o i, c, X, x, hA, h => by
    cases x <;> try (exact nopeT h)
    simp only [chkG, Bool.and_eq_true] at h
    exact pg_dsub hA h.1.1 (pe_ok w o c X _ hA h.1.2) (pe_ok w i c X _ hA h.2)
  | .tp ts, c, X, x, hA, h => by
    cases x <;> try (exact nopeT h)
    rename_i es k pos
    have h : chkGs B c ts es = true := h
    obtain ⟨h1, h2⟩ := chkGs_len (env := X.env) h
    refine pg_imp (pg_tup hA.calm (pgGs w ts c X es hA h) h1 h2) fun v vσ H Q q => ?_
    obtain ⟨m, σ, d, S, k, hr, rs, rd, ha, po⟩ := q
    simp only [asg] at ha
    split at ha
    · rename_i ds
      obtain ⟨hl, ha⟩ := ha
      cases rd with
      | tup hs rds =>
        rename_i a vs
        exact ⟨_, _, rfl, by rw [hA.k]; exact hs, by rw [← rds.length]; exact hl, m, σ, ds, S, k, hr, rs, rds, ha, po⟩
    · exact ha.elim
theorem pgGs (w : WOk W T B) : ∀ (ts : List Tg) (c : Ck) (X : Cx) (xs : List Expr), At W c X → chkGs B c ts xs = true → PGs X xs (tGs W T ts)
  | [], c, X, xs, hA, h => by
    cases xs with
    | nil =>
      refine pgs_imp pgs_nil fun v vσ H Q q => ?_
      obtain ⟨m, σ, d, S, k, hr, rs, rd, ha, po⟩ := q
      cases rd with
      | nil => exact ⟨rfl, po _ _ _ _ _ .refl hr rs ha⟩
      | cons _ _ => exact ha.elim
    | cons _ _ => exact nopeT h
  | t :: ts, c, X, xs, hA, h => by
    cases xs with
    | nil => exact nopeT h
    | cons x xs =>
      simp only [chkGs, Bool.and_eq_true] at h
      refine pgs_imp (pgs_cons (pgG w t c X x hA h.1) (pgGs w ts c X xs hA h.2) (by rw [assign_cons (chkG_star h.1)]; rfl)) fun v vσ H Q q => ?_
      obtain ⟨m, σ, d, S, k, hr, rs, rd, ha, po⟩ := q
      cases rd with
      | nil => exact ha.elim
      | cons r1 r2 =>
        rename_i d v ds vs
        exact ⟨_, _, rfl, m, σ, d, S, _, hr, rs, r1, ha, fun σ1 S1 m1 vσ1 H1 x1 hr1 rs1 h1 => ⟨m1, σ1, ds, S1, k, hr1, rs1, r2.mono x1, h1, fun σ2 S2 m2 vσ2 H2 x2 => po σ2 S2 m2 vσ2 H2 (x1.trans x2)⟩⟩
end
/-! ### x.append(e) -/
theorem attr_name {x : Str} {p : Pos} {nm : Str} {env : PySem.Env} {wh : Sem Value} : attributeBase (.Name x p) nm env wh = wh := rfl
theorem app_of {c : Ck} {X : Cx} {a e : E} {x : Str} {p apos cpos : Pos} {y : Expr} (hA : At W c X) (hx : PE X (.Name x p) (tE W T a)) (hy : PE X y (tE W T e)) (hs : starEach [y] X.env = [(false, eval y X.env)]) (hl : (apos.endLine == cpos.line) = true) :
    PE X (.Call (.Attribute (.Name x p) "append" apos) [y] [] cpos) (tE W T (.app a e)) := by
  refine pe_imp (pe_bm F.plainAttrs_list F.slot_list_append rfl mt_append hx (pa_cons hy pa_nil hs) rfl (by rw [hs]; rfl) hl hs rfl) fun vσ H Q q => ?_
  obtain ⟨m, σ, S, k, hr, rs, ha, po⟩ := q
  simp only [ev] at ha
  refine ⟨m, σ, S, _, hr, rs, ha, fun x S1 m1 v H1 x1 hr1 r1 h1 => ?_⟩
  cases x <;> try (exact h1.elim)
  rename_i l
  dsimp only [onRef] at h1
  cases r1 with
  | ref hl =>
    rename_i a
    obtain ⟨vs0, e0⟩ := hr1.there hl
    refine ⟨.inl ⟨rfl, vs0, .inl (.inl e0)⟩, m1, σ, S1, _, hr1, rs.mono x1, h1, fun y S2 m2 u H2 x2 hr2 r2 h2 => ?_⟩
    split at h2
    · rename_i ds ecl
      obtain ⟨hz, h2⟩ := h2
      have hl2 : CR m2 l a := by
        have r : RelD W.K m2 H2 (.ref l) (.ref a) := (RelD.ref hl : RelD W.K m1 H1 (.ref l) (.ref a)).mono x2
        cases r with
        | ref h => exact h
      obtain ⟨vs, ea, rds⟩ := hr2.at_ l ds a ecl hl2
      have hm2 : a ∈ m2.c := List.mem_of_getElem? hl2.1
      have xs := ext_set (o := .lst (vs ++ [u])) hm2 (hr2.mu hm2)
      refine ⟨a, vs, u, rfl, rfl, ea, by rw [← rds.length]; exact sz_lt hz, ?_⟩
      exact po _ _ _ _ _ ((x1.trans x2).trans xs) (hr2.set hl2 (rds.append (.cons r2 .nil))) .non h2
    · exact h2.elim
end
end FV
set_option Elab.async false
set_option linter.all false
set_option maxRecDepth 100000
set_option maxHeartbeats 8000000
/-! Sound10: all statements. -/
namespace FV
open PySem L2
def isNm : Expr → Bool
  | .Name .. => true
  | _ => false
/-- a value dropped -/
def chkX (B : Tb) (c : Ck) (e : E) (v : Expr) : Bool := match e, v with
  | .app (.var i) e, .Call (.Attribute (.Name x _) nm apos) [y] [] cpos => isV c x i && decide (nm = "append") && (apos.endLine == cpos.line) && chk B c e y
  | e, v => chk B c e v && !isLc v
/-- names stored from the right -/
def chkPar (B : Tb) (c : Ck) (is : List Nat) (es : List E) (ts vs : List Expr) : Bool := match is, ts, vs with
  | [i, j], [.Name x px, .Name y py], [a, b] => decide (c.N[i]? = some x) && decide (c.N[j]? = some y) && decide (i ≠ j ∧ x ≠ y) && parN c.sc px.line x px && parN c.sc px.line y py && !([a, b].all (foldedForSure 8)) && !([a, b].all (constantsAlone 8)) && chks B c es [a, b]
  | [i, j, l], [.Name x px, .Name y py, .Name z pz], [a, b, d] => decide (c.N[i]? = some x) && decide (c.N[j]? = some y) && decide (c.N[l]? = some z) && decide ((i ≠ j ∧ i ≠ l ∧ j ≠ l) ∧ x ≠ y ∧ x ≠ z ∧ y ≠ z) && parN c.sc px.line x px && parN c.sc px.line y py && parN c.sc px.line z pz && !([a, b, d].all (foldedForSure 8)) && !([a, b, d].all (constantsAlone 8)) && chks B c es [a, b, d]
  | _, _, _ => false
mutual
/-- the statement s is the text x -/
def chkS (B : Tb) (c : Ck) : Sm → Stmt → Bool
  | .set t e, .Assign [tg] v _ => chkG B c t tg && chk B c e v && (isNm tg || noSw c.sc tg v)
  | .par is es, .Assign [.Tuple ts _ _] (.Tuple vs _ _) _ => chkPar B c is es ts vs
  | .expr e, .Expr v _ => chkX B c e v
  | .ret e, .Return (some v) _ => chk B c e v
  | .retN, .Return none _ => true
  | .iff t a b, .If x p q _ => chkT B c t x && chkSs B c a p && chkSs B c b q
  | .for_ p it a, .For tg x q [] _ => !isSet x && chkP c p tg && chkI B c it x tg && chkSs B c a q
  | .whl t a, .While x q [] _ => chkT B c t x && chkSs B c a q
  | .raise, .Raise _ _ _ => true
  | .pass, .Pass _ => true
  | .brk, .Break _ => true
  | .cont, .Continue _ => true
  | _, _ => false
termination_by structural s => s
def chkSs (B : Tb) (c : Ck) : List Sm → List Stmt → Bool
  | [], [] => true
  | s :: ss, x :: xs => chkS B c s x && chkSs B c ss xs
  | _, _ => false
termination_by structural s => s
end
section
variable {W : Wd} {T : Nat → Option Fn} {B : Tb}
theorem At.pas {c : Ck} {X : Cx} (a : At W c X) : PassesOwn (model X.prog X.w) X.A X.env X.xe := by
  rw [a.xe]
  exact .never
/-! ### the single forms -/
theorem set_of {X : Cx} {t : Tg} {e : E} {tg v : Expr} {pos : Pos} (hk : X.env.scope.kind = .function) (hn : isNm tg = false) (hsw : noSw X.env.scope tg v = true) (hst : ∀ x q, tg ≠ .Starred x q) (he : PE X v (tE W T e)) (hg : PG X tg (tG W T t)) : PS X (.Assign [tg] v pos) (tS W T (.set t e)) := by
  have h1 : swapsWithSole [tg] v pos.line X.env = pure false := by
    cases tg <;> first
      | (cases hn; done)
      | (cases v <;> rfl)
  have h3 : (assignEach [tg] X.env).map (·.2) = [assign tg X.env] := by
    rw [assign_cons hst]
    rfl
  refine ps_imp (ps_asg he hg h1 (sw_none hk hsw) h3) fun D vσ H q => ?_
  obtain ⟨m, σ, S, N, hr, rs, hx, po⟩ := q
  exact ⟨m, σ, S, _, hr, rs, hx, fun d S1 m1 v H1 x1 hr1 r1 h1 => ⟨m1, σ, d, S1, N.nx, hr1, rs.mono x1, r1, h1, fun σ2 S2 m2 vσ2 H2 x2 => po.nx σ2 S2 m2 vσ2 H2 (x1.trans x2)⟩⟩
theorem setN_read {i : Nat} {e : E} {D : L2.Ends} {vσ : L2.St} {H : Hp} (q : tS W T (.set (.pt (.nm i)) e) D vσ H) : tE W T e vσ H fun x H1 => gName i x vσ H1 D.nx := by
  obtain ⟨m, σ, S, N, hr, rs, hx, po⟩ := q
  refine ⟨m, σ, S, _, hr, rs, hx, fun d S1 m1 v H1 x1 hr1 r1 h1 => ?_⟩
  exact po.nx _ _ _ _ _ x1 hr1 ((rs.mono x1).set r1) h1
theorem setN_of {c : Ck} {X : Cx} {i : Nat} {e : E} {x : Str} {p : Pos} {v : Expr} {pos : Pos} (hA : At W c X) (hi : isSt c x i = true) (hsw : swapsWith v (some (.Name x p)) pos.line X.env = pure false) (he : PE X v (tE W T e)) : PS X (.Assign [.Name x p] v pos) (tS W T (.set (.pt (.nm i)) e)) := by
  obtain ⟨h1, h2, h3⟩ := hA.st hi
  exact ps_imp (ps_set (by rw [hA.N]; exact hA.nd) h1 h2 he hsw h3) fun D vσ H q => setN_read q
theorem lcN_of {c : Ck} {X : Cx} {i : Nat} {y : Str} {py : Pos} {spos : Pos} (hA : At W c X) (hy : isSt c y i = true) (hyl : X.env.scope.names.lookup y = some .local) {fr : Bool} {own : List Nat} {p : Pt} {it elt : E} {cond : Option E} {x t j : Expr} {ifs : List Expr} {s : Scope} {pos : Pos}
    (hsw : swapsWith (.ListComp x [⟨t, j, ifs, 0⟩] s pos) (some (.Name y py)) spos.line X.env = pure true) (hb : blkC c.N c.sc s (ownN c own) = true) (hset : isSet j = false)
    (hp : chkP (inC c s) p t = true) (hv : ∀ j ∈ varsP p, j ∈ own) (hi : PI X t j (tI W T it)) (hc : ∀ X', At W (inC c s) X' → PTs X' ifs (tC W T cond)) (he : ∀ X', At W (inC c s) X' → PE X' x (tE W T elt)) :
    PS X (.Assign [.Name y py] (.ListComp x [⟨t, j, ifs, 0⟩] s pos) spos) (tS W T (.set (.pt (.nm i)) (.lc fr own p it cond elt))) := by
  obtain ⟨h1, h2, h3⟩ := hA.st hy
  exact ps_imp (ps_setLc (own := ownN c own) hA.calm (by rw [hA.N]; exact hA.nd) h1 hyl hsw hi (blkOk_by (by rw [hA.N, hA.sc]; exact hb)) (fun s0 H C cl fp => pgP (hA.inC s s0 H C cl fp) p t hp) (fun s0 H C cl fp => hc _ (hA.inC s s0 H C cl fp)) (fun s0 H C cl fp => he _ (hA.inC s s0 H C cl fp)) (folded hset))
    fun D vσ H q => lc_read hA hv (setN_read q)
theorem lc2N_of {c : Ck} {X : Cx} {i : Nat} {y : Str} {py : Pos} {spos : Pos} (hA : At W c X) (hy : isSt c y i = true) (hyl : X.env.scope.names.lookup y = some .local) {fr : Bool} {own own2 : List Nat} {p p2 : Pt} {it it2 elt : E} {cond cond2 : Option E} {x t j t2 j2 : Expr} {ifs ifs2 : List Expr} {s : Scope} {pos : Pos}
    (hsw : swapsWith (.ListComp x [⟨t, j, ifs, 0⟩, ⟨t2, j2, ifs2, 0⟩] s pos) (some (.Name y py)) spos.line X.env = pure true) (hb : blkC c.N c.sc s (ownN c own) = true) (hset : isSet j = false) (hset2 : isSet j2 = false)
    (hp : chkP (inC c s) p t = true) (hv : ∀ j ∈ varsP p, j ∈ own) (hp2 : chkP (inC c s) p2 t2 = true) (hv2 : ∀ j ∈ varsP p2, j ∈ own2) (ho : ∀ j ∈ own2, j ∈ own) (hi : PI X t j (tI W T it)) (hc : ∀ X', At W (inC c s) X' → PTs X' ifs (tC W T cond)) (hi2 : ∀ X', At W (inC c s) X' → PI X' t2 j2 (tI W T it2)) (hc2 : ∀ X', At W (inC c s) X' → PTs X' ifs2 (tC W T cond2)) (he : ∀ X', At W (inC c s) X' → PE X' x (tE W T elt)) :
    PS X (.Assign [.Name y py] (.ListComp x [⟨t, j, ifs, 0⟩, ⟨t2, j2, ifs2, 0⟩] s pos) spos) (tS W T (.set (.pt (.nm i)) (.lc2 fr own p it cond own2 p2 it2 cond2 elt))) := by
  obtain ⟨h1, h2, h3⟩ := hA.st hy
  exact ps_imp (ps_setLc2 (own := ownN c own) (vs1 := own2) hA.calm (by rw [hA.N]; exact hA.nd) h1 hyl hsw hi (blkOk_by (by rw [hA.N, hA.sc]; exact hb)) (by rw [own_snd]; exact ho) (fun s0 H C cl fp => pgP (hA.inC s s0 H C cl fp) p t hp) (fun s0 H C cl fp => hc _ (hA.inC s s0 H C cl fp)) (fun s0 H C cl fp => hi2 _ (hA.inC s s0 H C cl fp)) (fun s0 H C cl fp => pgP (hA.inC s s0 H C cl fp) p2 t2 hp2) (fun s0 H C cl fp => hc2 _ (hA.inC s s0 H C cl fp)) (fun s0 H C cl fp => he _ (hA.inC s s0 H C cl fp)) (folded hset) (fun env x => folded (env := env) hset2 x))
    fun D vσ H q => lc2_read hA hv hv2 (setN_read q)
theorem chks_stars {c : Ck} {env : PySem.Env} : ∀ {es : List E} {xs : List Expr}, chks B c es xs = true → ∀ x ∈ xs, isStar x = false
  | [], [], _, x, hx => by cases hx
  | [], _ :: _, h, _, _ => nopeT h
  | _ :: _, [], h, _, _ => nopeT h
  | e :: es, y :: ys, h, x, hx => by
    have h : (chk B c e y && chks B c es ys) = true := h
    rw [Bool.and_eq_true] at h
    rcases List.mem_cons.mp hx with z | z
    · subst z
      cases x <;> first
        | rfl
        | (rw [chk_star] at h; cases h.1)
    · exact chks_stars (env := env) h.2 x z
theorem par2_of {c : Ck} {X : Cx} {i j : Nat} {x y : Str} {px py : Pos} {a b : Expr} {es : List E} {k k2 p p2 pos} (hA : At W c X) (hk : X.env.scope.kind = .function) (hi : c.N[i]? = some x) (hj : c.N[j]? = some y) (hne : i ≠ j ∧ x ≠ y)
    (hx : parN c.sc px.line x px = true) (hy : parN c.sc px.line y py = true) (h1 : [a, b].all (foldedForSure 8) = false) (h2 : [a, b].all (constantsAlone 8) = false) (hs : chks B c es [a, b] = true) (he : PA X [a, b] (tA W T es)) (hlen : es.length = 2) :
    PS X (.Assign [.Tuple [.Name x px, .Name y py] k p] (.Tuple [a, b] k2 p2) pos) (tS W T (.par [i, j] es)) := by
  rw [← hA.sc] at hx hy
  have st := chks_stars (env := X.env) hs
  refine ps_imp (ps_par hA.calm (by rw [hA.N]; exact hA.nd) (by rw [hA.N]; exact hi) (by rw [hA.N]; exact hj) hne.1 (parN_ok hx).2 (parN_ok hy).2 he (sw_two hk hx hy hne.2 ⟨st a (by simp), st b (by simp)⟩ h1 h2)) fun D vσ H q => ?_
  obtain ⟨m, σ, S, N, hr, rs, hx, po⟩ := q
  refine ⟨m, σ, S, _, hr, rs, hx, fun ds S1 m1 vs H1 x1 hr1 r1 hl h1 => ?_⟩
  rw [hlen] at hl
  cases r1 with
  | nil => cases hl
  | cons ra r1 =>
    cases r1 with
    | nil => cases hl
    | cons rb r1 =>
      cases r1 with
      | cons _ _ => cases hl
      | nil => exact ⟨_, _, rfl, po.nx _ _ _ _ _ x1 hr1 (((rs.mono x1).set ra).set rb) h1⟩
theorem par3_of {c : Ck} {X : Cx} {i j l : Nat} {x y z : Str} {px py pz : Pos} {a b d : Expr} {es : List E} {k k2 p p2 pos} (hA : At W c X) (hk : X.env.scope.kind = .function) (hi : c.N[i]? = some x) (hj : c.N[j]? = some y) (hl : c.N[l]? = some z) (hne : (i ≠ j ∧ i ≠ l ∧ j ≠ l) ∧ x ≠ y ∧ x ≠ z ∧ y ≠ z)
    (hx : parN c.sc px.line x px = true) (hy : parN c.sc px.line y py = true) (hz : parN c.sc px.line z pz = true) (h1 : [a, b, d].all (foldedForSure 8) = false) (h2 : [a, b, d].all (constantsAlone 8) = false) (hs : chks B c es [a, b, d] = true) (he : PA X [a, b, d] (tA W T es)) (hlen : es.length = 3) :
    PS X (.Assign [.Tuple [.Name x px, .Name y py, .Name z pz] k p] (.Tuple [a, b, d] k2 p2) pos) (tS W T (.par [i, j, l] es)) := by
  rw [← hA.sc] at hx hy hz
  have st := chks_stars (env := X.env) hs
  refine ps_imp (ps_par3 hA.calm (by rw [hA.N]; exact hA.nd) (by rw [hA.N]; exact hi) (by rw [hA.N]; exact hj) (by rw [hA.N]; exact hl) hne.1.1 hne.1.2.1 hne.1.2.2 (parN_ok hx).2 (parN_ok hy).2 (parN_ok hz).2 he (sw_three hk hx hy hz hne.2 ⟨st a (by simp), st b (by simp), st d (by simp)⟩ h1 h2)) fun D vσ H q => ?_
  obtain ⟨m, σ, S, N, hr, rs, hx, po⟩ := q
  refine ⟨m, σ, S, _, hr, rs, hx, fun ds S1 m1 vs H1 x1 hr1 r1 hl h1 => ?_⟩
  rw [hlen] at hl
  cases r1 with
  | nil => cases hl
  | cons ra r1 =>
    cases r1 with
    | nil => cases hl
    | cons rb r1 =>
      cases r1 with
      | nil => cases hl
      | cons rc r1 =>
        cases r1 with
        | cons _ _ => cases hl
        | nil => exact ⟨_, _, _, rfl, po.nx _ _ _ _ _ x1 hr1 ((((rs.mono x1).set ra).set rb).set rc) h1⟩
theorem iff_of {X : Cx} {t : E} {a b : List Sm} {x : Expr} {p q : List Stmt} {pos : Pos} (ht : PT X x (tT W T t)) (ha : PSs X p (tSs W T a)) (hb : PSs X q (tSs W T b)) : PS X (.If x p q pos) (tS W T (.iff t a b)) := by
  refine ps_imp (ps_if ht ha hb) fun D vσ H q => ?_
  obtain ⟨m, σ, S, N, hr, rs, hx, po⟩ := q
  refine ⟨m, σ, S, _, hr, rs, hx, fun d S1 m1 H1 x1 hr1 h1 => ?_⟩
  obtain ⟨b, e, h1⟩ := asB_of h1
  refine ⟨b, e, ?_⟩
  have h1 := brk_c h1
  cases b with
  | true => exact ⟨m1, σ, S1, N, hr1, rs.mono x1, h1, po.ext x1⟩
  | false => exact ⟨m1, σ, S1, N, hr1, rs.mono x1, h1, po.ext x1⟩
theorem for_of {c : Ck} {X : Cx} {p : Pt} {it : E} {a : List Sm} {tg x : Expr} {q : List Stmt} {pos : Pos} (hA : At W c X) (hset : isSet x = false) (hp : chkP c p tg = true) (hi : PI X tg x (tI W T it)) (ha : PSs X q (tSs W T a)) : PS X (.For tg x q [] pos) (tS W T (.for_ p it a)) := by
  refine ps_imp (ps_for hA.pas hA.calm hi (pgP hA p tg hp) ha (folded hset)) fun D vσ H q => ?_
  obtain ⟨m, σ, S, N, hr, rs, hx, po⟩ := q
  refine ⟨m, σ, S, _, hr, rs, hx, fun g ds S1 m1 H1 J x1 hr1 src hg h => ?_⟩
  generalize hb : exs (callw T W.n) XF a = body at h
  refine ⟨fun i μ vσ' H' => μ = ds.length - i ∧ i ≤ ds.length ∧ ∃ m' σ' S', Ext m1 H1 m' H' ∧ HR W.K m' S' H' ∧ RS W.K m' H' σ' vσ' ∧ forW g body p N (ds.drop i) σ' S', ⟨ds.length, by omega, Nat.zero_le _, m1, σ, S1, .refl, hr1, rs.mono x1, h⟩, ?_⟩
  rintro i μ vσ2 H2 ⟨eμ, hle, m2, σ2, S2, x2, hr2, rs2, h2⟩
  by_cases hlt : i < ds.length
  · right
    rw [List.drop_eq_getElem_cons hlt] at h2
    obtain ⟨hg2, h2⟩ := gdo_of h2
    obtain ⟨go, yl⟩ := (src m2 S2 H2 x2.gr.gh hr2 hg2).1 i _ (List.getElem?_eq_getElem hlt)
    refine ⟨go, fun vσ' H' => (ds.length - (i + 1) = ds.length - (i + 1) ∧ i + 1 ≤ ds.length ∧ ∃ m' σ' S', Ext m1 H1 m' H' ∧ HR W.K m' S' H' ∧ RS W.K m' H' σ' vσ' ∧ forW g body p N (ds.drop (i + 1)) σ' S'), fun vσ' H' hn => ⟨ds.length - (i + 1), by omega, hn⟩, fun y H3 hy => ?_⟩
    obtain ⟨x3, hr3, r3⟩ := yl y H3 hy
    split at h2
    · rename_i σ' eb
      refine ⟨m2, σ2, _, σ', rs2.mono x3, r3, eb, fun vσ' rs' _ => ⟨m2, σ', S2, _, hr3, rs', by rw [hb]; exact h2, ?_⟩⟩
      have x23 := x2.trans x3
      have po2 := po.ext (x1.trans x23)
      exact ⟨fun σ4 S4 m4 vσ4 H4 x4 hr4 rs4 h4 => ⟨rfl, hlt, m4, σ4, S4, x23.trans x4, hr4, rs4, h4⟩, po2.rt, po2.nx, fun σ4 S4 m4 vσ4 H4 x4 hr4 rs4 h4 => ⟨rfl, hlt, m4, σ4, S4, x23.trans x4, hr4, rs4, h4⟩⟩
    · exact h2.elim
  · left
    have ej : i = ds.length := by omega
    rw [ej, List.drop_length] at h2
    obtain ⟨hg2, h2⟩ := gdo_of h2
    exact ⟨(src m2 S2 H2 x2.gr.gh hr2 hg2).2 i (by omega), po.nx _ _ _ _ _ (x1.trans x2) hr2 rs2 h2⟩
theorem whl_of {c : Ck} {X : Cx} {t : E} {a : List Sm} {x : Expr} {q : List Stmt} {pos : Pos} (hA : At W c X) (ht : PT X x (tT W T t)) (ha : PSs X q (tSs W T a)) : PS X (.While x q [] pos) (tS W T (.whl t a)) := by
  refine ps_imp (ps_while hA.pas ht ha) fun D vσ H q => ?_
  obtain ⟨m, σ, S, N, hr, rs, ⟨n, hx⟩, po⟩ := q
  generalize hb : exs (callw T W.n) XF a = body at hx
  generalize hc : (fun (σ : Env) (S : Store) (k : Bool → Store → Prop) => ev (callw T W.n) XF t true σ S (asB k)) = test at hx
  refine ⟨fun μ vσ' H' => ∃ m' σ' S', Ext m H m' H' ∧ HR W.K m' S' H' ∧ RS W.K m' H' σ' vσ' ∧ whlW test body N μ σ' S', ⟨n, m, σ, S, .refl, hr, rs, hx⟩, ?_⟩
  rintro μ vσ2 H2 ⟨m2, σ2, S2, x2, hr2, rs2, h2⟩
  cases μ with
  | zero => exact h2.elim
  | succ μ =>
    simp only [whlW] at h2
    rw [← hc] at h2
    refine ⟨m2, σ2, S2, _, hr2, rs2, h2, fun d S3 m3 H3 x3 hr3 h3 => ?_⟩
    obtain ⟨b, e, h3⟩ := asB_of h3
    refine ⟨b, e, ?_⟩
    have h3 := brk_c h3
    have x23 := x2.trans x3
    have po2 := po.ext x23
    cases b with
    | true =>
      rw [hc] at h3
      refine ⟨fun vσ' H' => ∃ m' σ' S', Ext m H m' H' ∧ HR W.K m' S' H' ∧ RS W.K m' H' σ' vσ' ∧ whlW test body N μ σ' S', fun vσ' H' hn => ⟨μ, by omega, hn⟩, m3, σ2, S3, _, hr3, rs2.mono x3, by rw [hb]; exact h3, ?_⟩
      exact ⟨fun σ4 S4 m4 vσ4 H4 x4 hr4 rs4 h4 => ⟨m4, σ4, S4, x23.trans x4, hr4, rs4, h4⟩, po2.rt, po2.nx, fun σ4 S4 m4 vσ4 H4 x4 hr4 rs4 h4 => ⟨m4, σ4, S4, x23.trans x4, hr4, rs4, h4⟩⟩
    | false => exact po2.nx _ _ _ _ _ .refl hr3 (rs2.mono x3) h3
mutual
theorem ps_ok (w : WOk W T B) : ∀ (s : Sm) (c : Ck) (X : Cx) (x : Stmt), At W c X → c.sc.kind = .function → chkS B c s x = true → PS X x (tS W T s)
  | .set t e, c, X, x, hA, hk, h => by
    have hk' : X.env.scope.kind = .function := by rw [hA.sc]; exact hk
    cases x <;> try (exact nopeT h)
    rename_i tgs v p
    rcases tgs with _ | ⟨tg, _ | ⟨tg2, tgs⟩⟩ <;> try (exact nopeT h)
    have h : (chkG B c t tg && chk B c e v && (isNm tg || noSw c.sc tg v)) = true := h
    simp only [Bool.and_eq_true, Bool.or_eq_true] at h
    obtain ⟨⟨h1, h2⟩, h3⟩ := h
    have he := pe_ok w e c X v hA h2
    cases hn : isNm tg with
    | false =>
      rw [hn] at h3
      exact set_of hk' hn (by rw [hA.sc]; exact h3.resolve_left (fun z => Bool.false_ne_true z)) (chkG_star h1) he (pgG w t c X tg hA h1)
    | true =>
      cases tg <;> try (exact nopeT hn)
      rename_i y py
      cases t with
      | sub _ _ => exact nopeT h1
      | dsub _ _ => exact nopeT h1
      | tp _ => exact nopeT h1
      | pt q =>
        cases q with
        | tp _ => exact nopeT h1
        | nm i =>
          have h1 : isSt c y i = true := h1
          cases hl : isLc v with
          | false => exact setN_of hA h1 (sw_leaf hl) he
          | true =>
            cases v <;> try (exact nopeT hl)
            · rename_i elt gs sc lp
              have sw := sw_lc (elt := elt) (gs := gs) (scope := sc) (pos := lp) (py := py) (y := y) (l := p.line) hk'
              cases hb : (X.env.scope.names.lookup y == some .local && py.line == lp.line && !(sc.names.any fun (n, k) => n == y && (k == .local || k == .cell))) with
              | false =>
                rw [hb] at sw
                exact setN_of hA h1 sw he
              | true =>
                rw [hb] at sw
                simp only [Bool.and_eq_true] at hb
                have hyl : X.env.scope.names.lookup y = some .local := eq_of_beq hb.1.1
                cases e <;> try (exact nopeT h2)
                · rename_i fr own p it cond elt'
                  rcases gs with _ | ⟨⟨t, i, ifs, a⟩, _ | ⟨g2, gs⟩⟩ <;> try (exact nopeT h2)
                  · rcases a with (_ | a) | a <;> try (exact nopeT h2)
                    have h2 : (blkC c.N c.sc sc (ownN c own) && !isSet i && chkP (inC c sc) p t && (varsP p).all (fun j => own.contains j) && chkI B c it i t && chkc B (inC c sc) cond ifs && chk B (inC c sc) elt' elt) = true := h2
                    simp only [Bool.and_eq_true, Bool.not_eq_true', List.all_eq_true] at h2
                    obtain ⟨⟨⟨⟨⟨⟨h1', h2⟩, h3⟩, h4⟩, h5⟩, h6⟩, h7⟩ := h2
                    exact lcN_of hA h1 hyl sw h1' h2 h3 (fun j hj => by simpa using h4 j hj) (pi_ok w it c X _ _ hA h5) (fun X' hA' => ptc_ok w cond _ X' _ hA' h6) fun X' hA' => pe_ok w elt' _ X' _ hA' h7
                  · rcases a with (_ | a) | a <;> exact nopeT h2
                · rename_i fr own p it cond own2 p2 it2 cond2 elt'
                  rcases gs with _ | ⟨⟨t, i, ifs, a⟩, _ | ⟨⟨t2, i2, ifs2, a2⟩, _ | ⟨g3, gs⟩⟩⟩ <;> try (exact nopeT h2)
                  · rcases a with (_ | a) | a <;> exact nopeT h2
                  · rcases a with (_ | a) | a <;> try (exact nopeT h2)
                    rcases a2 with (_ | a2) | a2 <;> try (exact nopeT h2)
                    have h2 : ((blkC c.N c.sc sc (ownN c own) && !isSet i && !isSet i2 && chkP (inC c sc) p t && (varsP p).all (fun j => own.contains j) && chkP (inC c sc) p2 t2 && (varsP p2).all (fun j => own2.contains j) && own2.all (fun j => own.contains j)) && (chkI B c it i t && chkc B (inC c sc) cond ifs && chkI B (inC c sc) it2 i2 t2 && chkc B (inC c sc) cond2 ifs2 && chk B (inC c sc) elt' elt)) = true := h2
                    simp only [Bool.and_eq_true, Bool.not_eq_true', List.all_eq_true] at h2
                    obtain ⟨⟨⟨⟨⟨⟨⟨⟨h1', h2⟩, h2'⟩, h3⟩, h4⟩, h3'⟩, h4'⟩, h8⟩, ⟨⟨⟨h5, h6⟩, h5'⟩, h6'⟩, h7⟩ := h2
                    exact lc2N_of hA h1 hyl sw h1' h2 h2' h3 (fun j hj => by simpa using h4 j hj) h3' (fun j hj => by simpa using h4' j hj) (fun j hj => by simpa using h8 j hj) (pi_ok w it c X _ _ hA h5) (fun X' hA' => ptc_ok w cond _ X' _ hA' h6) (fun X' hA' => pi_ok w it2 _ X' _ _ hA' h5') (fun X' hA' => ptc_ok w cond2 _ X' _ hA' h6') fun X' hA' => pe_ok w elt' _ X' _ hA' h7
                  · rcases a with (_ | a) | a <;> rcases a2 with (_ | a2) | a2 <;> exact nopeT h2
            · cases e <;> exact nopeT h2
            · cases e <;> exact nopeT h2
  | .par is es, c, X, x, hA, hk, h => by
    have hk' : X.env.scope.kind = .function := by rw [hA.sc]; exact hk
    cases x <;> try (exact nopeT h)
    rename_i tgs v p
    rcases tgs with _ | ⟨tg, _ | ⟨tg2, tgs⟩⟩ <;> try (exact nopeT h)
    · cases tg <;> try (exact nopeT h)
      cases v <;> try (exact nopeT h)
      rename_i ts k pt vs k2 pt2
      have h : chkPar B c is es ts vs = true := h
      unfold chkPar at h
      split at h
      · simp only [Bool.and_eq_true, decide_eq_true_eq, Bool.not_eq_true'] at h
        obtain ⟨⟨⟨⟨⟨⟨⟨a1, a2⟩, a3⟩, a4⟩, a5⟩, a6⟩, a7⟩, a8⟩ := h
        exact par2_of hA hk' a1 a2 a3 a4 a5 a6 a7 a8 (pas_ok w es c X _ hA a8) (chks_len a8)
      · simp only [Bool.and_eq_true, decide_eq_true_eq, Bool.not_eq_true'] at h
        obtain ⟨⟨⟨⟨⟨⟨⟨⟨⟨a1, a2⟩, a3⟩, a4⟩, a5⟩, a6⟩, a7⟩, a8⟩, a9⟩, a10⟩ := h
        exact par3_of hA hk' a1 a2 a3 a4 a5 a6 a7 a8 a9 a10 (pas_ok w es c X _ hA a10) (chks_len a10)
      · cases h
    · cases tg <;> exact nopeT h
  | .expr e, c, X, x, hA, hk, h => by
    cases x <;> try (exact nopeT h)
    rename_i v p
    have h : chkX B c e v = true := h
    have go : ∀ {e : E} {v : Expr}, PE X v (tE W T e) → isLc v = false → PS X (.Expr v p) (tS W T (.expr e)) := fun {e v} he hl => by
      refine ps_imp (ps_expr he (sw_leaf hl)) fun D vσ H q => ?_
      obtain ⟨m, σ, S, N, hr, rs, hx, po⟩ := q
      exact ⟨m, σ, S, _, hr, rs, hx, fun d S1 m1 v H1 x1 hr1 r1 h1 => po.nx _ _ _ _ _ x1 hr1 (rs.mono x1) h1⟩
    unfold chkX at h
    split at h
    · simp only [Bool.and_eq_true, decide_eq_true_eq] at h
      obtain ⟨⟨⟨a1, a2⟩, a3⟩, a4⟩ := h
      subst a2
      exact go (app_of hA (var_ok hA a1) (pe_ok w _ c X _ hA a4) (star_cons a4) a3) rfl
    · simp only [Bool.and_eq_true, Bool.not_eq_true'] at h
      exact go (pe_ok w _ c X _ hA h.1) h.2
  | .ret e, c, X, x, hA, hk, h => by
    cases x <;> try (exact nopeT h)
    rename_i v p
    cases v with
    | none => exact nopeT h
    | some v =>
      refine ps_imp (ps_ret (pe_ok w e c X v hA h)) fun D vσ H q => ?_
      obtain ⟨m, σ, S, N, hr, rs, hx, po⟩ := q
      exact ⟨m, σ, S, _, hr, rs, hx, po.rt⟩
  | .retN, c, X, x, hA, hk, h => by
    cases x <;> try (exact nopeT h)
    rename_i v p
    cases v with
    | some v => exact nopeT h
    | none =>
      refine ps_imp ps_retN fun D vσ H q => ?_
      obtain ⟨m, σ, S, N, hr, rs, hx, po⟩ := q
      exact po.rt.done hr .non hx
  | .iff t a b, c, X, x, hA, hk, h => by
    cases x <;> try (exact nopeT h)
    rename_i v p q pos
    have h : (chkT B c t v && chkSs B c a p && chkSs B c b q) = true := h
    simp only [Bool.and_eq_true] at h
    exact iff_of (pt_ok w t c X v hA h.1.1) (pss_ok w a c X p hA hk h.1.2) (pss_ok w b c X q hA hk h.2)
  | .for_ p it a, c, X, x, hA, hk, h => by
    cases x <;> try (exact nopeT h)
    rename_i tg x q o pos
    cases o with
    | cons _ _ => exact nopeT h
    | nil =>
      have h : (!isSet x && chkP c p tg && chkI B c it x tg && chkSs B c a q) = true := h
      simp only [Bool.and_eq_true, Bool.not_eq_true'] at h
      exact for_of hA h.1.1.1 h.1.1.2 (pi_ok w it c X _ _ hA h.1.2) (pss_ok w a c X q hA hk h.2)
  | .whl t a, c, X, x, hA, hk, h => by
    cases x <;> try (exact nopeT h)
    rename_i x q o pos
    cases o with
    | cons _ _ => exact nopeT h
    | nil =>
      have h : (chkT B c t x && chkSs B c a q) = true := h
      simp only [Bool.and_eq_true] at h
      exact whl_of hA (pt_ok w t c X x hA h.1) (pss_ok w a c X q hA hk h.2)
  | .raise, c, X, x, hA, hk, h => ps_imp ps_never fun D vσ H q => by
      obtain ⟨m, σ, S, N, hr, rs, hx, po⟩ := q
      exact hx
  | .raisx _ _, c, X, x, hA, hk, h => by cases x <;> exact nopeT h
  | .tryx _ _, c, X, x, hA, hk, h => by cases x <;> exact nopeT h
  | .pass, c, X, x, hA, hk, h => by
    cases x <;> try (exact nopeT h)
    refine ps_imp ps_pass fun D vσ H q => ?_
    obtain ⟨m, σ, S, N, hr, rs, hx, po⟩ := q
    exact po.nx _ _ _ _ _ .refl hr rs hx
  | .brk, c, X, x, hA, hk, h => by
    cases x <;> try (exact nopeT h)
    refine ps_imp ps_break fun D vσ H q => ?_
    obtain ⟨m, σ, S, N, hr, rs, hx, po⟩ := q
    exact po.bk _ _ _ _ _ .refl hr rs hx
  | .cont, c, X, x, hA, hk, h => by
    cases x <;> try (exact nopeT h)
    refine ps_imp ps_continue fun D vσ H q => ?_
    obtain ⟨m, σ, S, N, hr, rs, hx, po⟩ := q
    exact po.ct _ _ _ _ _ .refl hr rs hx
theorem pss_ok (w : WOk W T B) : ∀ (s : List Sm) (c : Ck) (X : Cx) (x : List Stmt), At W c X → c.sc.kind = .function → chkSs B c s x = true → PSs X x (tSs W T s)
  | [], c, X, x, hA, hk, h => by
    cases x with
    | cons _ _ => exact nopeT h
    | nil =>
      refine pss_imp pss_nil fun D vσ H q => ?_
      obtain ⟨m, σ, S, N, hr, rs, hx, po⟩ := q
      exact po.nx _ _ _ _ _ .refl hr rs hx
  | s :: ss, c, X, x, hA, hk, h => by
    cases x with
    | nil => exact nopeT h
    | cons x xs =>
      have h : (chkS B c s x && chkSs B c ss xs) = true := h
      rw [Bool.and_eq_true] at h
      refine pss_imp (pss_cons (ps_ok w s c X x hA hk h.1) (pss_ok w ss c X xs hA hk h.2)) fun D vσ H q => ?_
      obtain ⟨m, σ, S, N, hr, rs, hx, po⟩ := q
      exact ⟨m, σ, S, _, hr, rs, hx, ⟨fun σ1 S1 m1 vσ1 H1 x1 hr1 rs1 h1 => ⟨m1, σ1, S1, N, hr1, rs1, h1, po.ext x1⟩, po.rt, po.bk, po.ct⟩⟩
end
end
end FV
set_option Elab.async false
set_option linter.all false
set_option maxRecDepth 100000
set_option maxHeartbeats 2000000
/-! Sound11: how arguments are bound; all defs keep their promises. -/
namespace FV
open PySem L2
theorem zip_lookup : ∀ {ps : List Str} {us : List Value}, us.length = ps.length → ∀ n ∈ ps, ((ps.zip us).lookup n).isNone = false
  | [], _, _, n, h => by cases h
  | p :: ps, [], hl, _, _ => by cases hl
  | p :: ps, u :: us, hl, n, h => by
    rw [List.zip_cons_cons, List.lookup_cons]
    cases q : n == p with
    | true => rfl
    | false =>
      rcases List.mem_cons.mp h with z | z
      · subst z; simp at q
      · exact zip_lookup (by simpa using hl) n z
theorem zip_mem : ∀ {ps : List Str} {us : List Value}, us.length = ps.length → ∀ n ∈ ps, ∃ v, (n, v) ∈ ps.zip us
  | [], _, _, n, h => by cases h
  | p :: ps, [], hl, _, _ => by cases hl
  | p :: ps, u :: us, hl, n, h => by
    rcases List.mem_cons.mp h with z | z
    · subst z
      exact ⟨u, List.mem_cons_self⟩
    · obtain ⟨v, hv⟩ := zip_mem (ps := ps) (us := us) (by simpa using hl) n z
      exact ⟨v, List.mem_cons_of_mem _ hv⟩
theorem fm_congr {α β : Type} {f g : α → Option β} : ∀ {l : List α}, (∀ x ∈ l, f x = g x) → l.filterMap f = l.filterMap g
  | [], _ => rfl
  | x :: l, h => by
    rw [List.filterMap_cons, List.filterMap_cons, h x List.mem_cons_self, fm_congr fun y hy => h y (List.mem_cons_of_mem _ hy)]
theorem zip_out : ∀ {ps : List Str} {us : List Value}, us.length = ps.length → ps.Nodup → ps.filterMap (fun n => ((ps.zip us).lookup n).map (n, ·)) = ps.zip us
  | [], _, _, _ => rfl
  | p :: ps, [], hl, _ => by cases hl
  | p :: ps, u :: us, hl, nd => by
    have hl' : us.length = ps.length := by simpa using hl
    rw [List.nodup_cons] at nd
    have e : ps.filterMap (fun n => (((p :: ps).zip (u :: us)).lookup n).map (n, ·)) = ps.filterMap (fun n => ((ps.zip us).lookup n).map (n, ·)) := by
      apply fm_congr
      intro n hn
      rw [List.zip_cons_cons, List.lookup_cons]
      have : (n == p) = false := by
        cases q : n == p with
        | false => rfl
        | true => rw [eq_of_beq q] at hn; exact absurd hn nd.1
      rw [this]
    rw [List.filterMap_cons, e, zip_out hl' nd.2]
    simp
theorem bind_plain {x qual : Str} {as : List Arg} {kd : List (Option Expr)} {df : List Expr} {body : List Stmt} {sc : Scope} {kV doc pm : Value} {an : Option Addr} {cdv ct : Value} {ps : List Str} {us : List Value} (hp : as.map (·.arg) = ps) (nd : ps.Nodup) (hl : us.length = ps.length) :
    bindArgs (PySem.W.fnOf x qual ⟨[], as, none, [], kd, none, df⟩ body sc .none kV doc pm an cdv ct) ⟨us, []⟩ = pure (ps.zip us) := by
  have h1 : seqItems? (.none) = pure none := rfl
  have hg : ¬ us.length > ps.length := by omega
  unfold bindArgs PySem.W.fnOf
  simp only [List.map_nil, List.nil_append, List.append_nil, hp, h1, pure_bind, bind_pure, List.forIn_nil, Option.getD_none, hg, decide_false, Bool.false_and, Option.isNone_none, Bool.and_true, Bool.false_eq_true, if_false]
  have hm : ((ps.take (ps.length - 0)).filter fun n => ((ps.zip us).lookup n).isNone) = [] := by
    rw [List.filter_eq_nil_iff]
    intro n hn
    rw [zip_lookup hl n (List.mem_of_mem_take hn)]
    decide
  have ha : ([] : List Value).drop (([] : List Value).length - ps.length) = [] := by simp
  simp only [ha, List.length_nil, hm, List.isEmpty_nil, Bool.not_true, Bool.false_eq_true, if_false, pure_bind]
  simp [zip_out hl nd]
  intro n hn hno
  obtain ⟨v, hv⟩ := zip_mem hl n hn
  exact absurd hv (hno v)
theorem kv_loop {ps : List Str} {f : Str × Value → List (Str × Value) × List (Str × Value) → Sem (ForInStep (List (Str × Value) × List (Str × Value)))}
    (hf : ∀ (q : Str × Value) (sl ex : List (Str × Value)), q.1 ∈ ps → (sl.lookup q.1).isSome = false → f q (sl, ex) = pure (ForInStep.yield (sl ++ [(q.1, q.2)], ex))) :
    ∀ (kv sl ex : List (Str × Value)), (kv.map (·.1)).Nodup → (∀ q ∈ kv, q.1 ∈ ps ∧ (sl.lookup q.1).isSome = false) → forIn kv (sl, ex) f = pure (sl ++ kv, ex)
  | [], sl, ex, _, _ => by rw [List.append_nil]; rfl
  | q :: kv, sl, ex, nd, h => by
    rw [List.map_cons, List.nodup_cons] at nd
    obtain ⟨h1, h2⟩ := h q List.mem_cons_self
    rw [List.forIn_cons, hf q sl ex h1 h2, pure_bind]
    show forIn kv (sl ++ [(q.1, q.2)], ex) f = _
    rw [kv_loop hf kv _ ex nd.2 fun p hp => ⟨(h p (List.mem_cons_of_mem _ hp)).1, ?_⟩, List.append_assoc]
    · rfl
    · have h3 := (h p (List.mem_cons_of_mem _ hp)).2
      have hne : (p.1 == q.1) = false := by
        cases e : p.1 == q.1 with
        | false => rfl
        | true => exact absurd (List.mem_map_of_mem (f := (·.1)) hp) (by rw [eq_of_beq e]; exact nd.1)
      rw [List.lookup_append]
      cases e : sl.lookup p.1 with
      | some v => rw [e] at h3; cases h3
      | none => simp [List.lookup_cons, hne]
theorem bind_kw {x qual : Str} {as : List Arg} {kd : List (Option Expr)} {df : List Expr} {body : List Stmt} {sc : Scope} {kV doc pm : Value} {an : Option Addr} {cdv ct : Value} {ps : List Str} {kv : List (Str × Value)} (hp : as.map (·.arg) = ps) (nd : ps.Nodup) (hk : (kv.map (·.1)).Nodup) (hin : ∀ q ∈ kv, q.1 ∈ ps) (hall : ∀ p ∈ ps, (kv.lookup p).isNone = false) :
    bindArgs (PySem.W.fnOf x qual ⟨[], as, none, [], kd, none, df⟩ body sc .none kV doc pm an cdv ct) ⟨[], kv⟩ = pure (ps.filterMap fun n => (kv.lookup n).map (n, ·)) := by
  have h1 : seqItems? (.none) = pure none := rfl
  unfold bindArgs PySem.W.fnOf
  simp only [List.map_nil, List.nil_append, List.append_nil, hp, h1, pure_bind, bind_pure, List.forIn_nil, Option.getD_none, List.zip_nil_right, List.length_nil]
  rw [kv_loop (ps := ps) (fun q sl ex h1 h2 => by
    rw [if_pos (by simp [h1]), if_neg (by rw [h2]; decide)]) kv [] [] hk fun q hq => ⟨hin q hq, rfl⟩]
  simp only [pure_bind, List.nil_append]
  have hm : ((ps.take (ps.length - ([] : List Value).length)).filter fun n => (kv.lookup n).isNone) = [] := by
    rw [List.filter_eq_nil_iff]
    intro n hn
    rw [hall n (List.mem_of_mem_take hn)]
    decide
  have ha : ([] : List Value).drop (([] : List Value).length - ps.length) = [] := by simp
  have hg : ¬ (0 : Nat) > ps.length := by omega
  simp only [ha, hg, hm, decide_false, Bool.false_and, List.isEmpty_nil, Bool.not_true, Bool.false_eq_true, if_false, pure_bind]
  simp
  intro n hn hno
  cases e : kv.lookup n with
  | none =>
    have := hall n hn
    rw [e] at this
    cases this
  | some v => exact absurd (PySem.mem_of_lookup e) (hno v)
theorem zip_get : ∀ {ks : List Str} {ws : List Value} {i : Nat} {p : Str}, ks.Nodup → ks[i]? = some p → (ks.zip ws).lookup p = ws[i]?
  | [], _, i, p, _, h => by simp at h
  | k :: ks, [], i, p, _, _ => by simp
  | k :: ks, w :: ws, 0, p, _, h => by
    have e : k = p := by simpa using h
    subst e
    simp
  | k :: ks, w :: ws, i + 1, p, nd, h => by
    rw [List.nodup_cons] at nd
    have h' : ks[i]? = some p := by simpa using h
    have hne : (p == k) = false := by
      cases e : p == k with
      | false => rfl
      | true => exact absurd (List.mem_of_getElem? h') (by rw [eq_of_beq e]; exact nd.1)
    rw [List.zip_cons_cons, List.lookup_cons, hne, List.getElem?_cons_succ]
    exact zip_get nd.2 h'
theorem zip_nodup : ∀ {ks : List Str} {ws : List Value}, ks.Nodup → ((ks.zip ws).map (·.1)).Nodup
  | [], _, _ => by simp
  | k :: ks, [], _ => by simp
  | k :: ks, w :: ws, nd => by
    rw [List.nodup_cons] at nd
    rw [List.zip_cons_cons, List.map_cons, List.nodup_cons]
    refine ⟨fun h => ?_, zip_nodup nd.2⟩
    obtain ⟨q, hq, e⟩ := List.mem_map.mp h
    have := (List.of_mem_zip (a := q.1) (b := q.2) hq).1
    rw [e] at this
    exact nd.1 this
theorem fm_len {ws : List Value} : ∀ {ord : List Nat}, (ord.filterMap fun i => ws[i]?).length ≤ ord.length
  | [] => Nat.le_refl _
  | i :: ord => by
    rw [List.filterMap_cons]
    have ih := fm_len (ws := ws) (ord := ord)
    split <;> simp only [List.length_cons] <;> omega
theorem fm_all {ws : List Value} : ∀ {ord : List Nat}, (ord.filterMap fun i => ws[i]?).length = ord.length → ∀ i ∈ ord, ∃ v, ws[i]? = some v
  | [], _, i, h => by cases h
  | j :: ord, hl, i, h => by
    rw [List.filterMap_cons] at hl
    have ih := fm_len (ws := ws) (ord := ord)
    cases e : ws[j]? with
    | none =>
      rw [e] at hl
      simp only [List.length_cons] at hl
      omega
    | some v =>
      rw [e] at hl
      rcases List.mem_cons.mp h with z | z
      · subst z; exact ⟨v, e⟩
      · exact fm_all (by simpa using hl) i z
theorem fm_zip {ks : List Str} {ws : List Value} (nd : ks.Nodup) : ∀ {ord : List Nat} {ps : List Str}, ord.map (fun i => ks[i]?) = ps.map some → (∀ i ∈ ord, ∃ v, ws[i]? = some v) → ps.filterMap (fun n => ((ks.zip ws).lookup n).map (n, ·)) = ps.zip (ord.filterMap fun i => ws[i]?)
  | [], [], _, _ => rfl
  | [], _ :: _, h, _ => by cases h
  | _ :: _, [], h, _ => by cases h
  | i :: ord, p :: ps, h, hw => by
    rw [List.map_cons, List.map_cons, List.cons.injEq] at h
    obtain ⟨v, e⟩ := hw i List.mem_cons_self
    rw [List.filterMap_cons, zip_get nd h.1, e, List.filterMap_cons, e, fm_zip nd h.2 fun j hj => hw j (List.mem_cons_of_mem _ hj)]
    rfl
theorem rel_fm : ∀ {zs : List V} {ws : List Value} {i : Nat}, Vals zs ws → (zs[i]? = none ∧ ws[i]? = none) ∨ ∃ z w, zs[i]? = some z ∧ ws[i]? = some w ∧ RelV z w
  | _, _, _, .nil => .inl ⟨rfl, rfl⟩
  | _, _, 0, .cons r _ => .inr ⟨_, _, rfl, rfl, r⟩
  | _, _, i + 1, .cons _ t => by
    rw [List.getElem?_cons_succ, List.getElem?_cons_succ]
    exact rel_fm t
theorem rel_gk {zs : List V} {ws : List Value} (r : Vals zs ws) : ∀ {ord : List Nat}, Vals (ord.filterMap fun i => zs[i]?) (ord.filterMap fun i => ws[i]?)
  | [] => .nil
  | i :: ord => by
    rw [List.filterMap_cons, List.filterMap_cons]
    rcases rel_fm (i := i) r with ⟨h1, h2⟩ | ⟨z, w, h1, h2, h3⟩
    · rw [h1, h2]; exact rel_gk r
    · rw [h1, h2]; exact .cons h3 (rel_gk r)
/-! ### a def's text -/
structure De where
  x : Str
  id : Nat
  N : List Str
  ps : List Str
  fn : Fn
/-- parameters by place alone -/
def plainA : Arguments → List Str → Bool
  | ⟨[], as, none, [], _, none, _⟩, ps => decide (as.map (·.arg) = ps)
  | _, _ => false
def chkD (B : Tb) (d : De) (st : Stmt) : Bool := C8.scC d.N d.ps (defScope st) && plainA (defArgs st) d.ps && decide (d.fn.np = d.ps.length) && decide (d.fn.ns = d.N.length) && chkSs B ⟨d.N, defScope st, none⟩ d.fn.body (defBody st)
abbrev FnP (K : PySem.W.Frag) (x : Str) (st : Stmt) (f : Addr) (fd : FuncData) : Prop := FunD K x x (defArgs st) (defBody st) (defScope st) [] [] f fd
section
variable {K : PySem.W.Frag} {x : Str} {st : Stmt} {f : Addr} {fd : FuncData} {ps : List Str}
theorem plainA_of {a : Arguments} (h : plainA a ps = true) : ∃ as kd df, a = ⟨[], as, none, [], kd, none, df⟩ ∧ as.map (·.arg) = ps := by
  obtain ⟨po, as, va, ko, kd, kw, df⟩ := a
  cases po <;> cases va <;> cases ko <;> cases kw <;> first
    | exact ⟨as, kd, df, rfl, of_decide_eq_true h⟩
    | exact nopeT h
theorem bindsP (F : FnP K x st f fd) (h : plainA (defArgs st) ps = true) (nd : ps.Nodup) : Binds K fd ps [] := by
  obtain ⟨as, kd, df, e, hp⟩ := plainA_of h
  unfold FnP at F
  rw [e] at F
  exact F.bindsN fun kV doc pm an cdv ct us hl => bind_plain hp nd hl
theorem bindsK (F : FnP K x st f fd) (h : plainA (defArgs st) ps = true) (nd : ps.Nodup) {ks : List Str} {ord : List Nat} (hk : kwOk ps ord ks = true) : KBinds K fd ps ks (gk ord) (gk ord) := by
  obtain ⟨as, kd, df, e, hp⟩ := plainA_of h
  unfold FnP at F
  rw [e] at F
  obtain ⟨oc, od, dV, kV, doc, pm, an, cdv, ct, osl, rfl, lk, hcd, hD, hK⟩ := F.ex
  simp only [kwOk, Bool.and_eq_true, decide_eq_true_eq, Bool.not_eq_true', List.all_eq_true] at hk
  obtain ⟨⟨⟨⟨k1, k2⟩, k3⟩, k4⟩, k5⟩ := hk
  have hol : ord.length = ps.length := by
    have := congrArg List.length k3
    simpa using this
  rcases hD with ⟨_, rfl⟩ | ⟨z, _⟩
  · refine ⟨fun s us ws _ hl => ?_, fun {vs us zs ws} r1 r2 => ?_⟩
    · cases us with
      | cons _ _ =>
        have hl : ([] : List Value).length = ps.length := hl
        cases ps with
        | nil => cases k5
        | cons _ _ => cases hl
      | nil =>
        have hl : (ord.filterMap fun i => ws[i]?).length = ps.length := hl
        have hw := fm_all (hl.trans hol.symm)
        refine .of_eq ?_
        rw [bind_kw hp nd (zip_nodup k1) (fun q hq => ?_) (fun p hp => ?_)]
        · rw [fm_zip k1 k3 hw]
          rfl
        · have hq := (List.of_mem_zip (a := q.1) (b := q.2) hq).1
          obtain ⟨j, hj, ej⟩ := List.mem_iff_getElem.mp hq
          have hm : j ∈ ord := by simpa using k4 j (List.mem_range.mpr hj)
          have h2 : ks[j]? ∈ ord.map fun i => ks[i]? := List.mem_map_of_mem hm
          rw [k3, List.getElem?_eq_getElem hj, ej] at h2
          simpa using h2
        · have h2 : some p ∈ ps.map some := List.mem_map_of_mem hp
          rw [← k3] at h2
          obtain ⟨i, hi, ei⟩ := List.mem_map.mp h2
          obtain ⟨v, ev⟩ := hw i hi
          rw [zip_get k1 ei, ev]
          rfl
    · cases r1 with
      | nil => exact rel_gk r2
      | cons _ _ => exact .nil
  · exact absurd rfl z
end
def nameOf : Stmt → Str
  | .FunctionDef n .. => n
  | _ => "?"
/-! ### all defs -/
theorem rs_start {K : PySem.W.Frag} {m : Ms} {H : Hp} : ∀ {ds : List D} {vs : List V} {N : List Str}, RelDs K m H ds vs → RS K m H (FV.start ds N.length) (L2.start N vs) := by
  intro ds vs N r
  have hl := r.length
  refine ⟨by simp [FV.start, L2.start, hl], fun i d e => ?_⟩
  rw [lk_get] at e
  unfold FV.start at e
  by_cases hi : i < ds.length
  · rw [List.getElem?_append_left (by simpa using hi)] at e
    rw [List.getElem?_map, List.getElem?_eq_getElem hi] at e
    have e' : ds[i]? = some d := by
      rw [List.getElem?_eq_getElem hi]
      simpa using e
    obtain ⟨v, h1, h2⟩ := r.get e'
    refine ⟨v, ?_, h2⟩
    unfold L2.start
    rw [List.getElem?_append_left (by rw [List.length_map, ← hl]; exact hi), List.getElem?_map, h1]
    rfl
  · rw [List.getElem?_append_right (by simpa using Nat.le_of_not_lt hi), List.getElem?_replicate] at e
    split at e <;> cases e
/-- what is to be known of the defs -/
structure Defs (K : PySem.W.Frag) (mg : Str → Option Value) (T : Nat → Option Fn) (B : Tb) : Prop where
  all : ∀ x f, B.fid.lookup x = some f → ∃ (d : De) (st : Stmt) (a : Addr) (fd : FuncData), chkD B d st = true ∧ T f = some d.fn ∧ B.ps f = d.ps ∧ FnP K (nameOf st) st a fd ∧ mg x = some (.ref a) ∧ a = He.ga K x
theorem fn_step {W : Wd} {T : Nat → Option Fn} {B : Tb} (w : WOk W T B) {d : De} {st : Stmt} {f : Nat} {x : Str} {a : Addr} {fd : FuncData} (hc : chkD B d st = true) (hT : T f = some d.fn) (F : FnP W.K x st a fd) :
    FnG W.P W.w W.K W.mg W.base (W.n + 1) a fd d.ps (spE W.K T (W.n + 1) f) := by
  unfold chkD at hc
  simp only [Bool.and_eq_true, decide_eq_true_eq] at hc
  obtain ⟨⟨⟨⟨c1, c2⟩, c3⟩, c4⟩, c5⟩ := hc
  have S := C8.fnScope_by c1
  refine okG F S (fun vs H Q h => ?_) fun cdv A outer s H vs Q gd hr h => ⟨tSs W T d.fn.body, PSs.nox (pss_ok w _ ⟨d.N, defScope st, none⟩ _ _ ⟨rfl, rfl, rfl, rfl, rfl, rfl, S.nd, rfl, fun _ _ _ => rfl, rfl, hr, gd, rfl⟩ S.kind c5), ?_⟩
  · obtain ⟨m, S', k, ds, hr, r, h, _⟩ := h
    simp only [callw, hT] at h
    rw [← r.length, h.1, c3]
  · obtain ⟨m, S', k, ds, hr, r, h, po⟩ := h
    simp only [callw, hT] at h
    refine ⟨m, _, S', _, hr, ?_, h.2, ⟨fun σ S2 m2 vσ H2 x2 hr2 rs2 h2 => po _ _ _ _ _ x2 hr2 .non h2, po, fun _ _ _ _ _ _ _ _ z => z.elim, fun _ _ _ _ _ _ _ _ z => z.elim⟩⟩
    rw [c4]
    exact rs_start r
theorem defs_ok {P : Program} {w : World} {K : PySem.W.Frag} {mg : Str → Option Value} {base : Heap} {T : Nat → Option Fn} {B : Tb} (D : Defs K mg T B)
    (mk : ∀ n, (∀ x f, B.fid.lookup x = some f → ∃ a fd, mg x = some (.ref a) ∧ (a = He.ga K x ∧ PySem.W.keepIn K (.ref a) = true) ∧ Binds K fd (B.ps f) [] ∧ (∀ ks ord, kwOk (B.ps f) ord ks = true → KBinds K fd (B.ps f) ks (gk ord) (gk ord)) ∧ FnG P w K mg base n a fd (B.ps f) (spE K T n f)) → WOk ⟨P, w, K, mg, base, n⟩ T B) :
    ∀ n, WOk ⟨P, w, K, mg, base, n⟩ T B := by
  intro n
  induction n with
  | zero =>
    refine mk 0 fun x f e => ?_
    obtain ⟨d, st, a, fd, hc, hT, hp, F, hm, hga⟩ := D.all x f e
    have hc' := hc
    unfold chkD at hc'
    simp only [Bool.and_eq_true, decide_eq_true_eq] at hc'
    have nd : d.ps.Nodup := by
      have S := C8.fnScope_by hc'.1.1.1.1
      rw [← S.pre]
      exact S.nd.sublist (List.take_sublist _ _)
    rw [hp]
    exact ⟨a, fd, hm, ⟨hga, F.kp⟩, bindsP F hc'.1.1.1.2 nd, fun ks ord hk => bindsK F hc'.1.1.1.2 nd hk, ⟨fun vs H Q ⟨_, _, _, _, _, _, z, _⟩ => z.elim, fun _ _ _ _ _ _ _ _ _ _ _ _ _ ⟨_, _, _, _, _, _, z, _⟩ => z.elim⟩⟩
  | succ n ih =>
    refine mk (n + 1) fun x f e => ?_
    obtain ⟨d, st, a, fd, hc, hT, hp, F, hm, hga⟩ := D.all x f e
    have hc' := hc
    unfold chkD at hc'
    simp only [Bool.and_eq_true, decide_eq_true_eq] at hc'
    have nd : d.ps.Nodup := by
      have S := C8.fnScope_by hc'.1.1.1.1
      rw [← S.pre]
      exact S.nd.sublist (List.take_sublist _ _)
    rw [hp]
    exact ⟨a, fd, hm, ⟨hga, F.kp⟩, bindsP F hc'.1.1.1.2 nd, fun ks ord hk => bindsK F hc'.1.1.1.2 nd hk, fn_step ih hc hT F⟩
end FV
set_option Elab.async false
set_option linter.all false
set_option maxRecDepth 100000
set_option maxHeartbeats 2000000
/-! Sound12: what the head tells; the law's promise. -/
namespace FV
open PySem L2
/-! ### constants of the text -/
mutual
def kD (K : PySem.W.Frag) : D → Value → Bool
  | .non, .none => true
  | .bl b, .bool c => b == c
  | .int i, .int j _ => decide (i = j)
  | .str x, .str y _ => decide (x = y)
  | .tup ds, .ref a => (match K.lookup a with
    | some ⟨.type c, _, .seq its _, _⟩ => decide (c = "tuple") && decide (its.size ≤ sizeLine) && kDs K ds its.toList
    | _ => false)
  | .frz ds, .ref a => (match K.lookup a with
    | some ⟨.type c, none, .seq its _, _⟩ => decide (c = "list") && decide (its.size ≤ sizeLine) && kDs K ds its.toList
    | _ => false)
  | _, _ => false
def kDs (K : PySem.W.Frag) : List D → List Value → Bool
  | [], [] => true
  | d :: ds, v :: vs => kD K d v && kDs K ds vs
  | _, _ => false
end
mutual
theorem kD_ok {K : PySem.W.Frag} : ∀ (d : D) (u : Value), kD K d u = true → ∃ v, RelV v u ∧ ∀ m H, RelD K m H d v
  | .non, u, h => by cases u <;> first | exact ⟨.non, rfl, fun _ _ => .non⟩ | exact nopeT h
  | .bl b, u, h => by
    cases u <;> try (exact nopeT h)
    rename_i c
    have e : b = c := eq_of_beq h
    subst e
    exact ⟨.bl b, rfl, fun _ _ => .bl b⟩
  | .int i, u, h => by
    cases u <;> try (exact nopeT h)
    rename_i j t
    have e : i = j := of_decide_eq_true h
    subst e
    exact ⟨.int i, ⟨t, rfl⟩, fun _ _ => .int i⟩
  | .str x, u, h => by
    cases u <;> try (exact nopeT h)
    rename_i y t
    have e : x = y := of_decide_eq_true h
    subst e
    exact ⟨.str x, ⟨t, rfl⟩, fun _ _ => .str x⟩
  | .tup ds, u, h => by
    cases u <;> try (exact nopeT h)
    rename_i a
    simp only [kD] at h
    split at h
    · rename_i c od its n sl e
      simp only [Bool.and_eq_true, decide_eq_true_eq] at h
      obtain ⟨⟨h1, h2⟩, h3⟩ := h
      obtain ⟨vs, r, q⟩ := kDs_ok ds its.toList h3
      exact ⟨.ref a, rfl, fun m H => .tup (.inr ⟨_, its, n, e, by rw [h1], rfl, h2, r⟩) (q m H)⟩
    · cases h
  | .frz ds, u, h => by
    cases u <;> try (exact nopeT h)
    rename_i a
    simp only [kD] at h
    split at h
    · rename_i c its n sl e
      simp only [Bool.and_eq_true, decide_eq_true_eq] at h
      obtain ⟨⟨h1, h2⟩, h3⟩ := h
      obtain ⟨vs, r, q⟩ := kDs_ok ds its.toList h3
      exact ⟨.ref a, rfl, fun m H => .frz (.inr ⟨_, its, n, e, by rw [h1], rfl, rfl, h2, r⟩) (q m H)⟩
    · cases h
  | .lst _, u, h => nopeT h
  | .ref _, u, h => nopeT h
  | .dre _, u, h => nopeT h
  | .fn _, u, h => nopeT h
  | .exc _ _, u, h => nopeT h
  | .itr _, u, h => nopeT h
  | .rep _, u, h => nopeT h
  | .dic, u, h => nopeT h
  | .dss _, u, h => nopeT h
  | .itg _ _ _, u, h => nopeT h
  | .itg2 .., u, h => nopeT h
theorem kDs_ok {K : PySem.W.Frag} : ∀ (ds : List D) (us : List Value), kDs K ds us = true → ∃ vs, Vals vs us ∧ ∀ m H, RelDs K m H ds vs
  | [], [], _ => ⟨[], .nil, fun _ _ => .nil⟩
  | [], _ :: _, h => nopeT h
  | _ :: _, [], h => nopeT h
  | d :: ds, u :: us, h => by
    have h : (kD K d u && kDs K ds us) = true := h
    rw [Bool.and_eq_true] at h
    obtain ⟨v, r, q⟩ := kD_ok d u h.1
    obtain ⟨vs, rs, qs⟩ := kDs_ok ds us h.2
    exact ⟨v :: vs, .cons r rs, fun m H => .cons (q m H) (qs m H)⟩
end
/-! ### the head's facts -/
def dOf (d : De) (st : Stmt) : He.DefD := ⟨(d.x, none), nameOf st, nameOf st, defArgs st, defBody st, defScope st, [], []⟩
def dOfs (des : List De) (sts : List Stmt) : List He.DefD := (des.zip sts).map fun q => dOf q.1 q.2
def FREE : List Str := ["len", "abs", "max", "min", "int", "divmod", "all", "any", "sum", "tuple", "list", "repr", "isinstance", "bool", "str", "dict", "range", "zip", "enumerate", "set", "sorted"]
def tbOf (des : List De) (glb : List (Str × D)) (gcd : Bool) (tabs : List (Str × List (Str × D))) : Tb := ⟨des.map fun d => (d.x, d.id), glb, fun f => ((des.find? fun d => d.id == f).map (·.ps)).getD [], gcd, tabs⟩
def tsOf (tabs : List (Str × List (Str × D))) : List He.Tab := tabs.map fun p => (fun K => He.ga K p.1, p.2.map (·.1))
/-- a table of the module -/
def tabX (K : PySem.W.Frag) (p : Str × List (Str × D)) : Bool := match PySem.W.nsIn K mainGlobals p.1 with
  | some (some (.ref a)) => p.2.all fun q => match PySem.W.nsIn K a q.1 with
    | some (some v) => kD K q.2 v
    | _ => false
  | _ => false
def faOf (des : List De) : List He.Fa := des.map (fun d => He.Fa.glo d.x) ++ FREE.map He.Fa.free
def exOf (glb : List (Str × D)) (gcd : Bool) (tabs : List (Str × List (Str × D))) (K : PySem.W.Frag) : Bool := ((glb.all fun p => match PySem.W.nsIn K mainGlobals p.1 with
    | some (some v) => kD K p.2 v
    | _ => false) && (!gcd || He.eqO (PySem.W.nsIn K mainGlobals "gcd") (some (some (.builtin "math.gcd"))))) && tabs.all (tabX K)
def okOf (des : List De) (sts : List Stmt) (B : Tb) : Bool := ((des.zip sts).all fun q => chkD B q.1 q.2) && decide (des.length = sts.length) && decide ((des.map (·.id)).Nodup)
theorem find_id : ∀ {des : List De} {d : De}, (des.map (·.id)).Nodup → d ∈ des → (des.find? fun e => e.id == d.id) = some d
  | [], _, _, h => by cases h
  | e :: des, d, nd, h => by
    rw [List.map_cons, List.nodup_cons] at nd
    rw [List.find?_cons]
    rcases List.mem_cons.mp h with z | z
    · subst z; simp
    · have hne : (e.id == d.id) = false := by
        cases q : e.id == d.id with
        | false => rfl
        | true => exact absurd (List.mem_map_of_mem (f := (·.id)) z) (by rw [← eq_of_beq q]; exact nd.1)
      rw [hne]
      exact find_id nd.2 z
section
variable {des : List De} {sts : List Stmt} {glb : List (Str × D)} {gcd : Bool} {tabs : List (Str × List (Str × D))} {T : Nat → Option Fn} {w : World} {K : PySem.W.Frag} {h : Heap} {mg : Str → Option Value}
theorem defs_of (hok : okOf des sts (tbOf des glb gcd tabs) = true) (hT : des.map (fun d => T d.id) = des.map (fun d => some d.fn)) (X : K.In h) (G : h.Ns mainGlobals mg) (c : He.SaysX (faOf des) (dOfs des sts) (tsOf tabs) [] (exOf glb gcd tabs) w h K) : Defs K mg T (tbOf des glb gcd tabs) := by
  unfold okOf at hok
  simp only [Bool.and_eq_true, decide_eq_true_eq, List.all_eq_true] at hok
  obtain ⟨⟨h1, h2⟩, h3⟩ := hok
  refine ⟨fun x f e => ?_⟩
  obtain ⟨d, hd, e2⟩ := List.mem_map.mp (PySem.mem_of_lookup (show (des.map fun d => (d.x, d.id)).lookup x = some f from e))
  cases e2
  obtain ⟨i, hi, ei⟩ := List.mem_iff_getElem.mp hd
  have hj : i < sts.length := by rw [← h2]; exact hi
  have hz : (d, sts[i]) ∈ des.zip sts := by
    refine List.mem_iff_getElem.mpr ⟨i, by rw [List.length_zip]; omega, ?_⟩
    rw [List.getElem_zip, ei]
  have q1 := h1 _ hz
  have hm : (He.Fa.glo d.x).ok K = true := He.SaysD.facts (c.t.d) (by unfold faOf; exact List.mem_append_left _ (List.mem_map_of_mem hd))
  obtain ⟨fd, F⟩ := He.SaysD.def_ (c.t.d) i (d := dOf d sts[i]) (by unfold dOfs; rw [List.getElem?_map, List.getElem?_eq_getElem (by rw [List.length_zip]; omega), List.getElem_zip, ei]; rfl)
  refine ⟨d, sts[i], _, fd, q1, List.map_inj_left.mp hT d hd, ?_, ?_, He.glo_ok X G hm, rfl⟩
  · show ((des.find? fun e => e.id == d.id).map (·.ps)).getD [] = d.ps
    rw [find_id h3 hd]
    rfl
  · exact F
theorem wok_of (X : K.In h) (G : h.Ns mainGlobals mg) (c : He.SaysX (faOf des) (dOfs des sts) (tsOf tabs) [] (exOf glb gcd tabs) w h K) {P : Program} {base : Heap} {n : Nat}
    (hf : ∀ x f, (tbOf des glb gcd tabs).fid.lookup x = some f → ∃ a fd, mg x = some (.ref a) ∧ (a = He.ga K x ∧ PySem.W.keepIn K (.ref a) = true) ∧ Binds K fd ((tbOf des glb gcd tabs).ps f) [] ∧ (∀ ks ord, kwOk ((tbOf des glb gcd tabs).ps f) ord ks = true → KBinds K fd ((tbOf des glb gcd tabs).ps f) ks (gk ord) (gk ord)) ∧ FnG P w K mg base n a fd ((tbOf des glb gcd tabs).ps f) (spE K T n f)) :
    WOk ⟨P, w, K, mg, base, n⟩ T (tbOf des glb gcd tabs) := by
  have fr : ∀ x ∈ FREE, mg x = none := fun x hx => He.free_ok X G (He.SaysD.facts (c.t.d) (f := .free x) (by unfold faOf; exact List.mem_append_right _ (List.mem_map_of_mem hx)))
  have hex := c.more
  unfold exOf at hex
  rw [Bool.and_eq_true, Bool.and_eq_true] at hex
  obtain ⟨hex, htab⟩ := hex
  refine ⟨hf, fun b hb => ?_, fr _ (by decide), fr _ (by decide), fun t => ?_, fr _ (by decide), fr _ (by decide), fr _ (by decide), fun hg => ?_, fun p hp => ?_, fun p hp => ?_⟩
  · cases b <;> first | exact absurd rfl hb | exact fr _ (by decide)
  · cases t <;> exact fr _ (by decide +kernel)
  · have hg : gcd = true := hg
    have h2 := hex.2
    rw [hg] at h2
    exact PySem.W.mg_of X G (He.eqO_ok h2)
  · have h1 := List.all_eq_true.mp hex.1 p hp
    split at h1
    · rename_i v e
      obtain ⟨v', r, q⟩ := kD_ok _ _ h1
      exact ⟨v, v', PySem.W.mg_of X G e, r, q⟩
    · cases h1
  · have h1 := List.all_eq_true.mp htab p hp
    unfold tabX at h1
    split at h1
    · rename_i ad e
      have ega : He.ga K p.1 = ad := by unfold He.ga; rw [e]
      have es : (tsOf tabs).map (fun t => He.dicW K (t.1 K)) = (tsOf tabs).map fun t => some (He.keysIn w.params t.2) := congrArg (fun z : He.AlT => z.2) c.t
      have e2 := List.map_inj_left.mp es _ (show ((fun K => He.ga K p.1, p.2.map (·.1)) : He.Tab) ∈ tsOf tabs from List.mem_map_of_mem hp)
      refine ⟨ad, PySem.W.mg_of X G e, ktab_of (by rw [← ega]; exact e2), fun q hq => ?_⟩
      have h2 := List.all_eq_true.mp h1 q hq
      split at h2
      · rename_i v e3
        obtain ⟨v', r, g⟩ := kD_ok _ _ h2
        exact ⟨v, v', e3, r, g⟩
      · cases h2
    · cases h1
/-- the law's call keeps its promise -/
theorem law_ok {P : Program} {k lid : Nat} (hok : okOf des sts (tbOf des glb gcd tabs) = true) (hT : des.map (fun d => T d.id) = des.map (fun d => some d.fn)) (hl : (tbOf des glb gcd tabs).fid.lookup ("law" : Str) = some lid) (hps : (tbOf des glb gcd tabs).ps lid = [("script" : Str)])
    (law : ∀ ns : List Int, ns.length ≤ 63 → callw T (k + 1) lid [.frz (ns.map D.int)] [] (fun d _ => d = .bl true) XF) (X : K.In h) (G : h.Ns mainGlobals mg) {fa : Addr} (hfa : mg ("law" : Str) = some (.ref fa)) (c : He.SaysX (faOf des) (dOfs des sts) (tsOf tabs) [] (exOf glb gcd tabs) w h K) :
    ∃ (fd : FuncData) (sp : Sp), (∀ (s : Shared) (u : Value), BindsTo s fd ⟨[u], []⟩ [("script", u)]) ∧
        (∀ (H : Hp) (a : Addr) (ns : List Int), ns.length ≤ 63 → Only H → SqL K H a (ns.map V.int) → sp [.ref a] H (fun v _ => v = .bl true) NoX) ∧
        ∀ base : Heap, K.In base → base.Ns mainGlobals mg → FnG P w K mg base (k + 1) fa fd ["script"] sp := by
  have D := defs_of hok hT X G c
  obtain ⟨d, st, a, fd, hc, hTd, hp, F, hm, _⟩ := D.all _ _ hl
  rw [hfa] at hm
  cases hm
  have hc' := hc
  unfold chkD at hc'
  simp only [Bool.and_eq_true, decide_eq_true_eq] at hc'
  have hps' : d.ps = [("script" : Str)] := hp.symm.trans hps
  refine ⟨fd, spE K T (k + 1) lid, fun s u => ?_, fun H a ns hn ho hs => ?_, fun base _ _ => ?_⟩
  · obtain ⟨as, kd, df, e, hpp⟩ := plainA_of hc'.1.1.1.2
    have F := F
    unfold FnP at F
    rw [e] at F
    exact F.bindsA (ps := ["script"]) (fun kV doc pm an cdv ct us hl => bind_plain (hpp.trans hps') (by decide) hl) s [u] rfl
  · refine ⟨⟨[], [], []⟩, [], _, _, ⟨rfl, List.nodup_nil, rfl, fun l ds a e => (by cases l <;> cases e), fun l ds a e => (by cases l <;> cases e), fun a h => (by cases h)⟩, .cons (.frz ?_ (vs := ns.map V.int) ?_) .nil, law ns hn, fun d S' m' v H' _ _ r e => ?_⟩
    · rcases hs with (z | z) | z
      · rcases ho a with q | ⟨o, xs, q⟩
        · rw [z] at q; cases q
        · rw [z] at q; cases q
      · exact .inl z
      · exact .inr z
    · clear hn hs law
      induction ns with
      | nil => exact .nil
      | cons i ns ih => exact .cons (.int i) ih
    · subst e; exact relB r
  · have W := defs_ok (P := P) (w := w) (base := base) D (fun n hf => wok_of X G c hf)
    have := fn_step (W k) hc hTd F
    rw [hps'] at this
    exact this
end
end FV
set_option Elab.async false
set_option linter.all false
set_option maxRecDepth 100000
/-! Fns: the defs as syntax trees. -/
namespace FV
abbrev i_divisor_of : Nat := 3
def f_divisor_of : Fn := ⟨1, 3, [.set (.pt (.nm 1)) (.cst (.int 0)), .for_ (.nm 2) (.var 0) [.set (.pt (.nm 1)) (.bi .gcd [(.var 1), (.var 2)])], .ret (.var 1)]⟩
abbrev i_first_live : Nat := 4
def f_first_live : Fn := ⟨1, 2, [.for_ (.nm 1) (.var 0) [.iff (.cmp .ne (.var 1) (.cst (.int 0))) [.ret (.var 1)] []], .ret (.cst (.int 0))]⟩
abbrev i_plain_of : Nat := 5
def f_plain_of : Fn := ⟨1, 3, [.set (.pt (.nm 1)) (.call 3 [(.var 0)]), .set (.pt (.nm 1)) (.ite (.cmp .gt (.call 4 [(.var 0)]) (.cst (.int 0))) (.var 1) (.neg (.var 1))), .ret (.bi .tuple [(.lc false [2] (.nm 2) (.var 0) none (.bin .fdiv (.var 2) (.var 1)))])]⟩
abbrev i_is_tuple_up_to : Nat := 7
def f_is_tuple_up_to : Fn := ⟨3, 3, [.ret (.and (.isi (.var 0) .tup) (.cmp2 .le .le (.var 1) (.bi .len [(.var 0)]) (.var 2)))]⟩
abbrev i_is_tuple_of : Nat := 8
def f_is_tuple_of : Fn := ⟨2, 2, [.ret (.call 7 [(.var 0), (.var 1), (.var 1)])]⟩
abbrev i_is_whole : Nat := 9
def f_is_whole : Fn := ⟨1, 1, [.ret (.and (.isi (.var 0) .int) (.not (.isi (.var 0) .bool)))]⟩
abbrev i_are_whole : Nat := 10
def f_are_whole : Fn := ⟨2, 3, [.ret (.and (.call 8 [(.var 0), (.var 1)]) (.bi .all [(.lc false [2] (.nm 2) (.var 0) none (.call 9 [(.var 2)]))]))]⟩
abbrev i_is_plain : Nat := 15
def f_is_plain : Fn := ⟨2, 2, [.ret (.and (.call 10 [(.var 0), (.var 1)]) (.and (.cmp .eq (.call 3 [(.var 0)]) (.cst (.int 1))) (.cmp .gt (.call 4 [(.var 0)]) (.cst (.int 0)))))]⟩
abbrev i_is_triple : Nat := 16
def f_is_triple : Fn := ⟨1, 1, [.ret (.call 15 [(.var 0), (.cst (.int 3))])]⟩
abbrev i_cross : Nat := 35
def f_cross : Fn := ⟨2, 2, [.ret (.tup [(.bin .sub (.bin .mul (.idx (.var 0) (.cst (.int 1))) (.idx (.var 1) (.cst (.int 2)))) (.bin .mul (.idx (.var 0) (.cst (.int 2))) (.idx (.var 1) (.cst (.int 1))))), (.bin .sub (.bin .mul (.idx (.var 0) (.cst (.int 2))) (.idx (.var 1) (.cst (.int 0)))) (.bin .mul (.idx (.var 0) (.cst (.int 0))) (.idx (.var 1) (.cst (.int 2))))), (.bin .sub (.bin .mul (.idx (.var 0) (.cst (.int 0))) (.idx (.var 1) (.cst (.int 1)))) (.bin .mul (.idx (.var 0) (.cst (.int 1))) (.idx (.var 1) (.cst (.int 0)))))])]⟩
abbrev i_check_point : Nat := 37
def f_check_point : Fn := ⟨1, 1, [.iff (.not (.call 16 [(.var 0)])) [.raise] []]⟩
abbrev i_check_points : Nat := 42
def f_check_points : Fn := ⟨1, 2, [.for_ (.nm 1) (.var 0) [.expr (.call 37 [(.var 1)])]]⟩
abbrev i_dot : Nat := 43
def f_dot : Fn := ⟨2, 4, [.ret (.bi .sum [(.lc false [2, 3] (.tp [(.nm 2), (.nm 3)]) (.zip (.var 0) (.var 1)) none (.bin .mul (.var 2) (.var 3)))])]⟩
abbrev i_block : Nat := 44
def f_block : Fn := ⟨3, 3, [.ret (.call 43 [(.var 0), (.call 35 [(.var 1), (.var 2)])])]⟩
abbrev i_place_for : Nat := 47
def f_place_for : Fn := ⟨2, 5, [.set (.pt (.nm 2)) (.lc false [3, 4] (.tp [(.nm 3), (.nm 4)]) (.enm (.call 35 [(.var 0), (.var 1)])) (some (.cmp .ne (.var 4) (.cst (.int 0)))) (.var 3)), .ret (.idx (.glb "PLACES" (.tup [(.tup [(.int 1), (.int 2)]), (.tup [(.int 2), (.int 0)]), (.tup [(.int 0), (.int 1)])])) (.idx (.var 2) (.cst (.int 0))))]⟩
abbrev i_minor : Nat := 48
def f_minor : Fn := ⟨3, 3, [.ret (.bin .sub (.bin .mul (.idx (.var 0) (.idx (.var 2) (.cst (.int 0)))) (.idx (.var 1) (.idx (.var 2) (.cst (.int 1))))) (.bin .mul (.idx (.var 0) (.idx (.var 2) (.cst (.int 1)))) (.idx (.var 1) (.idx (.var 2) (.cst (.int 0))))))]⟩
abbrev i_parts_by : Nat := 49
def f_parts_by : Fn := ⟨3, 4, [.set (.pt (.nm 3)) (.call 47 [(.var 0), (.var 1)]), .ret (.tup [(.call 48 [(.var 2), (.var 1), (.var 3)]), (.call 48 [(.var 0), (.var 2), (.var 3)])])]⟩
abbrev i_added : Nat := 50
def f_added : Fn := ⟨2, 4, [.ret (.bi .tuple [(.lc false [2, 3] (.tp [(.nm 2), (.nm 3)]) (.zip (.var 0) (.var 1)) none (.bin .add (.var 2) (.var 3)))])]⟩
abbrev i_scaled : Nat := 51
def f_scaled : Fn := ⟨2, 3, [.ret (.bi .tuple [(.lc false [2] (.nm 2) (.var 0) none (.bin .mul (.var 1) (.var 2)))])]⟩
abbrev i_fourth_by : Nat := 52
def f_fourth_by : Fn := ⟨4, 5, [.set (.pt (.nm 4)) (.call 49 [(.var 0), (.var 1), (.var 2)]), .ret (.call 5 [(.call 50 [(.call 51 [(.var 0), (.bin .mul (.idx (.var 3) (.cst (.int 0))) (.idx (.var 4) (.cst (.int 0))))]), (.call 51 [(.var 1), (.bin .mul (.idx (.var 3) (.cst (.int 1))) (.idx (.var 4) (.cst (.int 1))))])])])]⟩
abbrev i_ratio_by : Nat := 56
def f_ratio_by : Fn := ⟨4, 6, [.par [4, 5] [(.call 49 [(.var 0), (.var 1), (.var 2)]), (.call 49 [(.var 0), (.var 1), (.var 3)])], .ret (.call 5 [(.tup [(.bin .mul (.idx (.var 5) (.cst (.int 0))) (.idx (.var 4) (.cst (.int 1)))), (.bin .mul (.idx (.var 5) (.cst (.int 1))) (.idx (.var 4) (.cst (.int 0))))])])]⟩
abbrev i_is_view_of : Nat := 60
def f_is_view_of : Fn := ⟨1, 2, [.iff (.or (.not (.call 8 [(.var 0), (.cst (.int 3))])) (.not (.bi .all [(.lc false [1] (.nm 1) (.var 0) none (.call 10 [(.var 1), (.cst (.int 3))]))]))) [.ret (.cst (.bl false))] [], .ret (.and (.call 15 [(.bin .add (.bin .add (.idx (.var 0) (.cst (.int 0))) (.idx (.var 0) (.cst (.int 1)))) (.idx (.var 0) (.cst (.int 2)))), (.cst (.int 9))]) (.cmp .ne (.call 44 [(.idx (.var 0) (.cst (.int 0))), (.idx (.var 0) (.cst (.int 1))), (.idx (.var 0) (.cst (.int 2)))]) (.cst (.int 0))))]⟩
abbrev i_check_view : Nat := 61
def f_check_view : Fn := ⟨1, 1, [.iff (.not (.call 60 [(.var 0)])) [.raise] []]⟩
abbrev i_table_times : Nat := 62
def f_table_times : Fn := ⟨2, 3, [.ret (.bi .tuple [(.lc false [2] (.nm 2) (.var 0) none (.call 43 [(.var 2), (.var 1)]))])]⟩
abbrev i_turned_table : Nat := 63
def f_turned_table : Fn := ⟨1, 3, [.ret (.bi .tuple [(.lc false [2] (.nm 2) (.rng1 (.cst (.int 3))) none (.bi .tuple [(.lc false [1] (.nm 1) (.var 0) none (.idx (.var 1) (.var 2)))]))])]⟩
abbrev i_adjugate : Nat := 64
def f_adjugate : Fn := ⟨1, 4, [.set (.pt (.tp [(.nm 1), (.nm 2), (.nm 3)])) (.var 0), .ret (.call 63 [(.tup [(.call 35 [(.var 2), (.var 3)]), (.call 35 [(.var 3), (.var 1)]), (.call 35 [(.var 1), (.var 2)])])])]⟩
abbrev i_law_cross_v2 : Nat := 79
def f_law_cross_v2 : Fn := ⟨2, 2, [.ret (.tup [(.bin .sub (.bin .mul (.idx (.var 0) (.cst (.int 1))) (.idx (.var 1) (.cst (.int 2)))) (.bin .mul (.idx (.var 0) (.cst (.int 2))) (.idx (.var 1) (.cst (.int 1))))), (.bin .sub (.bin .mul (.idx (.var 0) (.cst (.int 2))) (.idx (.var 1) (.cst (.int 0)))) (.bin .mul (.idx (.var 0) (.cst (.int 0))) (.idx (.var 1) (.cst (.int 2))))), (.bin .sub (.bin .mul (.idx (.var 0) (.cst (.int 0))) (.idx (.var 1) (.cst (.int 1)))) (.bin .mul (.idx (.var 0) (.cst (.int 1))) (.idx (.var 1) (.cst (.int 0)))))])]⟩
abbrev i_table_of : Nat := 160
def f_table_of : Fn := ⟨2, 5, [.set (.pt (.nm 2)) (.call 63 [(.var 1)]), .ret (.bi .tuple [(.lc false [4] (.nm 4) (.var 0) none (.bi .tuple [(.lc false [3] (.nm 3) (.var 2) none (.call 43 [(.var 4), (.var 3)]))]))])]⟩
abbrev i_curve_of_table : Nat := 214
def f_curve_of_table : Fn := ⟨1, 3, [.set (.pt (.nm 1)) (.lc false [2] (.nm 2) (.rng1 (.cst (.int 3))) none (.bin .fdiv (.idx (.idx (.var 0) (.var 2)) (.var 2)) (.cst (.int 2)))), .ret (.call 5 [(.tcat [true, false, false, false] [(.var 1), (.idx (.idx (.var 0) (.cst (.int 1))) (.cst (.int 2))), (.idx (.idx (.var 0) (.cst (.int 0))) (.cst (.int 2))), (.idx (.idx (.var 0) (.cst (.int 0))) (.cst (.int 1)))])])]⟩
abbrev i_table_by : Nat := 215
def f_table_by : Fn := ⟨1, 7, [.set (.pt (.tp [(.nm 1), (.nm 2), (.nm 3), (.nm 4), (.nm 5), (.nm 6)])) (.var 0), .ret (.tup [(.tup [(.bin .mul (.cst (.int 2)) (.var 1)), (.var 6), (.var 5)]), (.tup [(.var 6), (.bin .mul (.cst (.int 2)) (.var 2)), (.var 4)]), (.tup [(.var 5), (.var 4), (.bin .mul (.cst (.int 2)) (.var 3))])])]⟩
abbrev i_turned_by : Nat := 216
def f_turned_by : Fn := ⟨2, 3, [.set (.pt (.nm 2)) (.call 64 [(.var 0)]), .ret (.call 214 [(.call 160 [(.call 160 [(.call 63 [(.var 2)]), (.call 215 [(.var 1)])]), (.var 2)])])]⟩
abbrev i_is_curve_of : Nat := 223
def f_is_curve_of : Fn := ⟨1, 1, [.ret (.call 15 [(.var 0), (.glb "SIZE" (.int 6))])]⟩
abbrev i_check_curve : Nat := 224
def f_check_curve : Fn := ⟨1, 1, [.iff (.not (.call 223 [(.var 0)])) [.raise] []]⟩
abbrev i_turned_curve : Nat := 225
def f_turned_curve : Fn := ⟨2, 2, [.expr (.call 61 [(.var 0)]), .expr (.call 224 [(.var 1)]), .ret (.call 216 [(.var 0), (.var 1)])]⟩
abbrev i_is_full_by : Nat := 226
def f_is_full_by : Fn := ⟨1, 4, [.set (.pt (.tp [(.nm 1), (.nm 2), (.nm 3)])) (.call 215 [(.var 0)]), .ret (.cmp .ne (.call 44 [(.var 1), (.var 2), (.var 3)]) (.cst (.int 0)))]⟩
abbrev i_polar_by : Nat := 229
def f_polar_by : Fn := ⟨2, 2, [.ret (.call 5 [(.call 62 [(.call 215 [(.var 0)]), (.var 1)])])]⟩
abbrev i_sign_of : Nat := 234
def f_sign_of : Fn := ⟨1, 1, [.ret (.bin .sub (.cmp .gt (.var 0) (.cst (.int 0))) (.cmp .lt (.var 0) (.cst (.int 0))))]⟩
abbrev i_is_empty_by : Nat := 235
def f_is_empty_by : Fn := ⟨1, 10, [.set (.pt (.tp [(.nm 1), (.nm 2), (.nm 3), (.nm 4), (.nm 4), (.nm 5)])) (.var 0), .set (.pt (.nm 6)) (.call 234 [(.var 1)]), .iff (.or (.cmp .eq (.var 6) (.cst (.int 0))) (.or (.cmp .ne (.call 234 [(.var 2)]) (.var 6)) (.cmp .ne (.call 234 [(.var 3)]) (.var 6)))) [.ret (.cst (.bl false))] [], .set (.pt (.tp [(.nm 7), (.nm 8), (.nm 9)])) (.call 215 [(.var 0)]), .ret (.and (.cmp .gt (.bin .sub (.bin .mul (.bin .mul (.cst (.int 4)) (.var 1)) (.var 2)) (.bin .mul (.var 5) (.var 5))) (.cst (.int 0))) (.cmp .gt (.bin .mul (.call 44 [(.var 7), (.var 8), (.var 9)]) (.var 6)) (.cst (.int 0))))]⟩
abbrev i_products_of : Nat := 242
def f_products_of : Fn := ⟨1, 4, [.set (.pt (.tp [(.nm 1), (.nm 2), (.nm 3)])) (.var 0), .ret (.tup [(.bin .mul (.var 1) (.var 1)), (.bin .mul (.var 2) (.var 2)), (.bin .mul (.var 3) (.var 3)), (.bin .mul (.var 2) (.var 3)), (.bin .mul (.var 1) (.var 3)), (.bin .mul (.var 1) (.var 2))])]⟩
abbrev i_law_same_v2 : Nat := 319
def f_law_same_v2 : Fn := ⟨2, 4, [.iff (.cmp .is (.var 1) (.cst .non)) [.ret (.cmp .is (.var 0) (.cst .non))] [], .iff (.isi (.var 1) .bool) [.ret (.and (.isi (.var 0) .bool) (.cmp .eq (.var 0) (.var 1)))] [], .iff (.isi (.var 1) .int) [.ret (.and (.isi (.var 0) .int) (.and (.not (.isi (.var 0) .bool)) (.cmp .eq (.var 0) (.var 1))))] [], .iff (.isi (.var 1) .str) [.ret (.and (.isi (.var 0) .str) (.cmp .eq (.var 0) (.var 1)))] [], .iff (.or (.not (.isi (.var 0) .tup)) (.cmp .ne (.bi .len [(.var 0)]) (.bi .len [(.var 1)]))) [.ret (.cst (.bl false))] [], .ret (.bi .all [(.lc false [2, 3] (.tp [(.nm 2), (.nm 3)]) (.zip (.var 0) (.var 1)) none (.call 319 [(.var 2), (.var 3)]))])]⟩
abbrev i_law_dot_v3 : Nat := 340
def f_law_dot_v3 : Fn := ⟨2, 4, [.ret (.bi .sum [(.lc false [2, 3] (.tp [(.nm 2), (.nm 3)]) (.zip (.var 0) (.var 1)) none (.bin .mul (.var 2) (.var 3)))])]⟩
abbrev i_law_block_v3 : Nat := 341
def f_law_block_v3 : Fn := ⟨3, 3, [.ret (.call 340 [(.var 0), (.call 79 [(.var 1), (.var 2)])])]⟩
abbrev i_law_common_v2 : Nat := 629
def f_law_common_v2 : Fn := ⟨1, 5, [.set (.pt (.nm 1)) (.cst (.int 0)), .for_ (.nm 2) (.var 0) [.par [3, 4] [(.var 1), (.bi .abs [(.var 2)])], .whl (.cmp .gt (.var 4) (.cst (.int 0))) [.par [3, 4] [(.var 4), (.bin .mod (.bi .int [(.var 3)]) (.var 4))]], .set (.pt (.nm 1)) (.var 3)], .ret (.var 1)]⟩
abbrev i_law_plain_v5 : Nat := 630
def f_law_plain_v5 : Fn := ⟨1, 4, [.set (.pt (.nm 1)) (.call 629 [(.var 0)]), .set (.pt (.nm 2)) (.idx (.lc false [3] (.nm 3) (.var 0) (some (.cmp .ne (.var 3) (.cst (.int 0)))) (.var 3)) (.cst (.int 0))), .set (.pt (.nm 1)) (.ite (.cmp .gt (.var 2) (.cst (.int 0))) (.var 1) (.bin .sub (.cst (.int 0)) (.var 1))), .ret (.bi .tuple [(.lc false [3] (.nm 3) (.var 0) none (.bin .fdiv (.var 3) (.var 1)))])]⟩
abbrev i_law_adjugate_v2 : Nat := 651
def f_law_adjugate_v2 : Fn := ⟨1, 7, [.set (.pt (.tp [(.nm 1), (.nm 2), (.nm 3)])) (.var 0), .set (.pt (.nm 4)) (.tup [(.call 79 [(.var 2), (.var 3)]), (.call 79 [(.var 3), (.var 1)]), (.call 79 [(.var 1), (.var 2)])]), .ret (.bi .tuple [(.lc false [6] (.nm 6) (.rng1 (.cst (.int 3))) none (.bi .tuple [(.lc false [5] (.nm 5) (.var 4) none (.idx (.var 5) (.var 6)))]))])]⟩
abbrev i_law_table : Nat := 652
def f_law_table : Fn := ⟨1, 7, [.set (.pt (.tp [(.nm 1), (.nm 2), (.nm 3), (.nm 4), (.nm 5), (.nm 6)])) (.var 0), .ret (.tup [(.tup [(.bin .mul (.cst (.int 2)) (.var 1)), (.var 6), (.var 5)]), (.tup [(.var 6), (.bin .mul (.cst (.int 2)) (.var 2)), (.var 4)]), (.tup [(.var 5), (.var 4), (.bin .mul (.cst (.int 2)) (.var 3))])])]⟩
abbrev i_law_times_v2 : Nat := 653
def f_law_times_v2 : Fn := ⟨2, 3, [.ret (.bi .tuple [(.lc false [2] (.nm 2) (.var 0) none (.call 340 [(.var 2), (.var 1)]))])]⟩
abbrev i_law_turned_curve : Nat := 654
def f_law_turned_curve : Fn := ⟨2, 10, [.set (.pt (.tp [(.nm 2), (.nm 3)])) (.tup [(.call 651 [(.var 0)]), (.call 652 [(.var 1)])]), .set (.pt (.nm 4)) (.bi .tuple [(.lc false [6] (.nm 6) (.rng1 (.cst (.int 3))) none (.bi .tuple [(.lc false [5] (.nm 5) (.var 2) none (.idx (.var 5) (.var 6)))]))]), .set (.pt (.nm 7)) (.lc false [9] (.nm 9) (.var 4) none (.lc false [8] (.nm 8) (.var 4) none (.call 340 [(.var 9), (.call 653 [(.var 3), (.var 8)])]))), .ret (.call 630 [(.tup [(.idx (.idx (.var 7) (.cst (.int 0))) (.cst (.int 0))), (.idx (.idx (.var 7) (.cst (.int 1))) (.cst (.int 1))), (.idx (.idx (.var 7) (.cst (.int 2))) (.cst (.int 2))), (.bin .mul (.cst (.int 2)) (.idx (.idx (.var 7) (.cst (.int 1))) (.cst (.int 2)))), (.bin .mul (.cst (.int 2)) (.idx (.idx (.var 7) (.cst (.int 0))) (.cst (.int 2)))), (.bin .mul (.cst (.int 2)) (.idx (.idx (.var 7) (.cst (.int 0))) (.cst (.int 1))))])])]⟩
abbrev i_law_turn_v4 : Nat := 656
def f_law_turn_v4 : Fn := ⟨2, 2, [.ret (.call 630 [(.call 653 [(.var 0), (.var 1)])])]⟩
abbrev i_is_live_by : Nat := 670
def f_is_live_by : Fn := ⟨1, 1, [.ret (.and (.call 226 [(.var 0)]) (.not (.call 235 [(.var 0)])))]⟩
abbrev i_value_by_curvepointwork : Nat := 671
def f_value_by_curvepointwork : Fn := ⟨2, 2, [.ret (.call 43 [(.var 0), (.call 242 [(.var 1)])])]⟩
abbrev i_are_on_by : Nat := 672
def f_are_on_by : Fn := ⟨2, 3, [.ret (.bi .all [(.lc false [2] (.nm 2) (.var 1) none (.cmp .eq (.call 671 [(.var 0), (.var 2)]) (.cst (.int 0))))])]⟩
abbrev i_check_on : Nat := 673
def f_check_on : Fn := ⟨2, 2, [.iff (.or (.not (.call 670 [(.var 0)])) (.not (.call 672 [(.var 0), (.var 1)]))) [.raise] []]⟩
abbrev i_other_on : Nat := 674
def f_other_on : Fn := ⟨2, 4, [.set (.pt (.nm 2)) (.lc false [3] (.nm 3) (.tup [(.tup [(.cst (.int 1)), (.cst (.int 0)), (.cst (.int 0))]), (.tup [(.cst (.int 0)), (.cst (.int 1)), (.cst (.int 0))]), (.tup [(.cst (.int 0)), (.cst (.int 0)), (.cst (.int 1))])]) none (.call 35 [(.var 0), (.var 3)])), .ret (.idx (.lc false [3] (.nm 3) (.var 2) (some (.bi .any [(.call 35 [(.var 3), (.var 1)])])) (.call 5 [(.var 3)])) (.cst (.int 0)))]⟩
abbrev i_second_of : Nat := 675
def f_second_of : Fn := ⟨3, 4, [.set (.pt (.nm 3)) (.bin .sub (.bin .sub (.call 671 [(.var 0), (.call 50 [(.var 1), (.var 2)])]) (.call 671 [(.var 0), (.var 1)])) (.call 671 [(.var 0), (.var 2)])), .ret (.call 5 [(.call 50 [(.call 51 [(.var 1), (.call 671 [(.var 0), (.var 2)])]), (.call 51 [(.var 2), (.neg (.var 3))])])])]⟩
abbrev i_second_by : Nat := 676
def f_second_by : Fn := ⟨3, 5, [.set (.pt (.nm 3)) (.call 674 [(.var 2), (.var 1)]), .set (.pt (.nm 4)) (.call 43 [(.call 229 [(.var 0), (.var 1)]), (.var 3)]), .iff (.cmp .eq (.var 4) (.cst (.int 0))) [.ret (.var 1)] [], .ret (.call 675 [(.var 0), (.var 1), (.var 3)])]⟩
abbrev i_value_by_curvework : Nat := 678
def f_value_by_curvework : Fn := ⟨2, 2, [.ret (.call 43 [(.var 0), (.call 242 [(.var 1)])])]⟩
abbrev i_is_on_by_v2 : Nat := 679
def f_is_on_by_v2 : Fn := ⟨2, 2, [.ret (.cmp .eq (.call 678 [(.var 0), (.var 1)]) (.cst (.int 0)))]⟩
abbrev i_is_on_curve_v2 : Nat := 680
def f_is_on_curve_v2 : Fn := ⟨2, 2, [.expr (.call 224 [(.var 0)]), .expr (.call 37 [(.var 1)]), .ret (.call 679 [(.var 0), (.var 1)])]⟩
abbrev i_law_below_v10 : Nat := 687
def f_law_below_v10 : Fn := ⟨2, 4, [.iff (.cmp .gt (.idx (.var 0) (.cst (.int 0))) (.cst (.int 0))) [.set (.tp [(.sub (.var 0) (.cst (.int 0))), (.pt (.nm 2))]) (.bi .divmod [(.idx (.var 0) (.cst (.int 0))), (.var 1)]), .ret (.var 2)] [], .set (.sub (.var 0) (.cst (.int 2))) (.bin .add (.idx (.var 0) (.cst (.int 2))) (.cst (.int 1))), .set (.pt (.nm 3)) (.bin .mod (.bi .int [(.bin .add (.bin .add (.bin .mul (.idx (.var 0) (.cst (.int 1))) (.cst (.int 47117))) (.bin .mul (.cst (.int 8175)) (.idx (.var 0) (.cst (.int 2))))) (.cst (.int 71)))]) (.cst (.int 2147483563))), .set (.sub (.var 0) (.cst (.int 1))) (.bin .mod (.bi .int [(.bin .add (.bin .mul (.var 3) (.bin .add (.bin .mod (.bi .int [(.var 3)]) (.cst (.int 3989))) (.cst (.int 13093)))) (.idx (.var 0) (.cst (.int 2))))]) (.cst (.int 2147483563))), .ret (.bin .mod (.bi .int [(.bin .fdiv (.idx (.var 0) (.cst (.int 1))) (.cst (.int 359)))]) (.var 1))]⟩
abbrev i_law_point_v8 : Nat := 688
def f_law_point_v8 : Fn := ⟨2, 4, [.set (.pt (.nm 2)) (.bi .tuple [(.lc false [3] (.nm 3) (.rng1 (.cst (.int 3))) none (.bin .sub (.call 687 [(.var 0), (.bin .add (.bin .mul (.cst (.int 2)) (.var 1)) (.cst (.int 1)))]) (.var 1)))]), .ret (.ite (.bi .any [(.var 2)]) (.call 630 [(.var 2)]) (.tup [(.cst (.int 1)), (.cst (.int 0)), (.cst (.int 0))]))]⟩
abbrev i_law_view_v10 : Nat := 689
def f_law_view_v10 : Fn := ⟨2, 6, [.for_ (.nm 2) (.rng1 (.cst (.int 6))) [.set (.pt (.nm 3)) (.lc false [4] (.nm 4) (.rng1 (.cst (.int 3))) none (.call 688 [(.var 0), (.var 1)])), .iff (.cmp .ne (.call 341 [(.idx (.var 3) (.cst (.int 0))), (.idx (.var 3) (.cst (.int 1))), (.idx (.var 3) (.cst (.int 2)))]) (.cst (.int 0))) [.set (.pt (.nm 5)) (.call 630 [(.bin .add (.bin .add (.idx (.var 3) (.cst (.int 0))) (.idx (.var 3) (.cst (.int 1)))) (.idx (.var 3) (.cst (.int 2))))]), .ret (.tup [(.slc (.var 5) none (some (.cst (.int 3)))), (.slc (.var 5) (some (.cst (.int 3))) (some (.cst (.int 6)))), (.slc (.var 5) (some (.cst (.int 6))) none)])] []], .ret (.tup [(.tup [(.cst (.int 1)), (.cst (.int 0)), (.cst (.int 0))]), (.tup [(.cst (.int 0)), (.cst (.int 1)), (.cst (.int 0))]), (.tup [(.cst (.int 0)), (.cst (.int 0)), (.cst (.int 1))])])]⟩
abbrev i_law_one_v10 : Nat := 690
def f_law_one_v10 : Fn := ⟨2, 2, [.ret (.idx (.var 1) (.call 687 [(.var 0), (.bi .len [(.var 1)])]))]⟩
abbrev i_law_round_v4 : Nat := 691
def f_law_round_v4 : Fn := ⟨3, 10, [.par [3, 4] [(.call 689 [(.var 0), (.var 2)]), .dnew], .for_ (.nm 5) (.rng1 (.bin .mul (.cst (.int 4)) (.var 1))) [.par [6, 7] [(.bin .sub (.call 687 [(.var 0), (.bin .add (.bin .mul (.cst (.int 2)) (.var 1)) (.cst (.int 5)))]) (.var 1)), (.call 690 [(.var 0), (.tup [(.cst (.int 1)), (.cst (.int 1)), (.cst (.int 1)), (.cst (.int 2)), (.cst (.int 3))])])], .iff (.cmp .lt (.dlen (.var 4)) (.var 1)) [.set (.dsub (.var 4) (.call 656 [(.var 3), (.tup [(.bin .mul (.var 6) (.var 6)), (.bin .mul (.var 6) (.var 7)), (.bin .mul (.var 7) (.var 7))])])) (.cst (.bl true))] []], .for_ (.nm 6) (.rng (.cst (.int 20)) (.bin .sub (.bin .add (.cst (.int 20)) (.var 1)) (.dlen (.var 4)))) [.set (.dsub (.var 4) (.call 656 [(.var 3), (.tup [(.bin .mul (.var 6) (.var 6)), (.var 6), (.cst (.int 1))])])) (.cst (.bl true))], .par [8, 9] [(.lst true []), (.dsrt (.var 4))], .for_ (.nm 5) (.rng1 (.var 1)) [.expr (.app (.var 8) (.pop (.var 9) (.call 687 [(.var 0), (.bi .len [(.var 9)])])))], .ret (.tup [(.call 654 [(.var 3), (.tup [(.cst (.int 0)), (.cst (.int 1)), (.cst (.int 0)), (.cst (.int 0)), (.neg (.cst (.int 1))), (.cst (.int 0))])]), (.bi .tuple [(.var 8)])])]⟩
abbrev i_are_unlike : Nat := 692
def f_are_unlike : Fn := ⟨1, 3, [.ret (.bi .all [(.lc false [1, 2] (.tp [(.nm 1), (.nm 2)]) (.enm (.var 0)) none (.cmp .notin (.var 2) (.slc (.var 0) none (some (.var 1)))))])]⟩
abbrev i_check_three : Nat := 693
def f_check_three : Fn := ⟨2, 2, [.expr (.call 673 [(.var 0), (.var 1)]), .iff (.not (.call 692 [(.slc (.var 1) none (some (.cst (.int 3))))])) [.raise] []]⟩
abbrev i_line_to : Nat := 694
def f_line_to : Fn := ⟨3, 3, [.ret (.ite (.cmp .eq (.var 1) (.var 2)) (.call 229 [(.var 0), (.var 1)]) (.call 5 [(.call 35 [(.var 1), (.var 2)])]))]⟩
abbrev i_curve_fourth_by : Nat := 695
def f_curve_fourth_by : Fn := ⟨3, 5, [.set (.pt (.nm 3)) (.lc false [4] (.nm 4) (.var 1) none (.call 694 [(.var 0), (.idx (.var 1) (.cst (.int 0))), (.var 4)])), .ret (.call 676 [(.var 0), (.idx (.var 1) (.cst (.int 0))), (.call 52 [(.idx (.var 3) (.cst (.int 0))), (.idx (.var 3) (.cst (.int 1))), (.idx (.var 3) (.cst (.int 2))), (.var 2)])])]⟩
abbrev i_curve_fourth : Nat := 696
def f_curve_fourth : Fn := ⟨5, 6, [.expr (.call 224 [(.var 0)]), .set (.pt (.nm 5)) (.tup [(.var 1), (.var 2), (.var 3)]), .expr (.call 42 [(.var 5)]), .iff (.not (.call 15 [(.var 4), (.cst (.int 2))])) [.raise] [], .expr (.call 693 [(.var 0), (.var 5)]), .ret (.call 695 [(.var 0), (.var 5), (.var 4)])]⟩
abbrev i_curve_ratio_by : Nat := 697
def f_curve_ratio_by : Fn := ⟨2, 4, [.set (.pt (.nm 2)) (.lc false [3] (.nm 3) (.var 1) none (.call 694 [(.var 0), (.idx (.var 1) (.cst (.int 0))), (.var 3)])), .ret (.call 56 [(.idx (.var 2) (.cst (.int 0))), (.idx (.var 2) (.cst (.int 1))), (.idx (.var 2) (.cst (.int 2))), (.idx (.var 2) (.cst (.int 3)))])]⟩
abbrev i_curve_ratio : Nat := 698
def f_curve_ratio : Fn := ⟨5, 6, [.expr (.call 224 [(.var 0)]), .set (.pt (.nm 5)) (.tup [(.var 1), (.var 2), (.var 3), (.var 4)]), .expr (.call 42 [(.var 5)]), .expr (.call 693 [(.var 0), (.var 5)]), .ret (.call 697 [(.var 0), (.var 5)])]⟩
abbrev i_law_multiples_v2 : Nat := 699
def f_law_multiples_v2 : Fn := ⟨3, 6, [.set (.pt (.nm 3)) (.call 79 [(.var 0), (.var 1)]), .set (.pt (.nm 4)) (.idx (.lc false [5] (.nm 5) (.rng1 (.cst (.int 3))) (some (.cmp .ne (.idx (.var 3) (.var 5)) (.cst (.int 0)))) (.var 5)) (.cst (.int 0))), .ret (.tup [(.idx (.call 79 [(.var 2), (.var 1)]) (.var 4)), (.idx (.call 79 [(.var 0), (.var 2)]) (.var 4)), (.idx (.var 3) (.var 4))])]⟩
abbrev i_law_double : Nat := 700
def f_law_double : Fn := ⟨4, 9, [.set (.pt (.tp [(.nm 4), (.nm 5), (.nm 6)])) (.call 699 [(.var 0), (.var 1), (.var 2)]), .set (.pt (.tp [(.nm 7), (.nm 8), (.nm 6)])) (.call 699 [(.var 0), (.var 1), (.var 3)]), .ret (.call 630 [(.tup [(.bin .mul (.var 7) (.var 5)), (.bin .mul (.var 8) (.var 4))])])]⟩
abbrev i_law_line_v2 : Nat := 701
def f_law_line_v2 : Fn := ⟨3, 3, [.ret (.call 630 [(.ite (.cmp .ne (.var 1) (.var 2)) (.call 79 [(.var 1), (.var 2)]) (.call 653 [(.call 652 [(.var 0)]), (.var 1)]))])]⟩
abbrev i_law_curve_ratio : Nat := 702
def f_law_curve_ratio : Fn := ⟨3, 5, [.set (.pt (.nm 3)) (.lc false [4] (.nm 4) (.var 1) none (.call 701 [(.var 0), (.var 2), (.var 4)])), .ret (.call 700 [(.idx (.var 3) (.cst (.int 0))), (.idx (.var 3) (.cst (.int 1))), (.idx (.var 3) (.cst (.int 2))), (.idx (.var 3) (.cst (.int 3)))])]⟩
abbrev i_law_is_right_v5 : Nat := 703
def f_law_is_right_v5 : Fn := ⟨4, 16, [.set (.pt (.tp [(.nm 4), (.nm 5), (.nm 6), (.nm 7)])) (.slc (.var 2) none (some (.cst (.int 4)))), .set (.pt (.nm 8)) (.ite (.var 3) (.callk 698 [4, 3, 2, 1, 0] [(.var 7), (.var 6), (.var 5), (.var 4), (.var 1)]) (.call 698 [(.var 1), (.var 4), (.var 5), (.var 6), (.var 7)])), .iff (.not (.bi .all [(.lc false [9] (.nm 9) (.var 2) none (.call 319 [(.var 8), (.call 702 [(.var 1), (.tup [(.var 4), (.var 5), (.var 6), (.var 7)]), (.var 9)])]))])) [.ret (.cst (.bl false))] [], .set (.pt (.nm 10)) (.ite (.var 3) (.callk 696 [4, 3, 2, 1, 0] [(.var 8), (.var 6), (.var 5), (.var 4), (.var 1)]) (.call 696 [(.var 1), (.var 4), (.var 5), (.var 6), (.var 8)])), .iff (.or (.not (.call 319 [(.var 10), (.var 7)])) (.not (.call 319 [(.bi .tuple [(.lc false [11] (.nm 11) (.tup [(.var 4), (.var 5), (.var 6)]) none (.call 698 [(.var 1), (.var 4), (.var 5), (.var 6), (.var 11)]))]), (.tup [(.tup [(.cst (.int 1)), (.cst (.int 0))]), (.tup [(.cst (.int 0)), (.cst (.int 1))]), (.tup [(.cst (.int 1)), (.cst (.int 1))])])]))) [.ret (.cst (.bl false))] [], .set (.pt (.nm 12)) (.call 630 [(.tup [(.bin .sub (.call 687 [(.var 0), (.cst (.int 9))]) (.cst (.int 4))), (.bin .add (.cst (.int 1)) (.call 687 [(.var 0), (.cst (.int 4))]))])]), .set (.pt (.nm 13)) (.call 696 [(.var 1), (.var 4), (.var 5), (.var 6), (.var 12)]), .iff (.or (.cmp .isnot (.call 680 [(.var 1), (.var 13)]) (.cst (.bl true))) (.or (.cmp .ne (.call 702 [(.var 1), (.tup [(.var 4), (.var 5), (.var 6), (.var 13)]), (.var 4)]) (.var 12)) (.not (.call 319 [(.call 698 [(.var 1), (.var 4), (.var 5), (.var 6), (.var 13)]), (.var 12)])))) [.ret (.cst (.bl false))] [], .set (.pt (.nm 14)) (.call 689 [(.var 0), (.cst (.int 3))]), .set (.pt (.nm 15)) (.lc false [11] (.nm 11) (.tup [(.var 4), (.var 5), (.var 6), (.var 7)]) none (.call 656 [(.var 14), (.var 11)])), .ret (.call 319 [(.call 698 [(.call 225 [(.var 14), (.var 1)]), (.idx (.var 15) (.cst (.int 0))), (.idx (.var 15) (.cst (.int 1))), (.idx (.var 15) (.cst (.int 2))), (.idx (.var 15) (.cst (.int 3)))]), (.var 8)])]⟩
abbrev i_law_right_v37 : Nat := 704
def f_law_right_v37 : Fn := ⟨1, 5, [.for_ (.nm 1) (.rng1 (.cst (.int 16))) [.set (.pt (.tp [(.nm 2), (.nm 3)])) (.call 691 [(.var 0), (.cst (.int 6)), (.call 690 [(.var 0), (.tup [(.cst (.int 3)), (.cst (.int 3)), (.cst (.int 40))])])]), .iff (.not (.call 703 [(.var 0), (.var 2), (.var 3), (.cmp .eq (.var 1) (.cst (.int 1)))])) [.ret (.cst (.bl false))] [], .set (.pt (.nm 4)) (.call 687 [(.var 0), (.cst (.int 3))]), .iff (.not (.call 319 [(.call 696 [(.var 2), (.idx (.var 3) (.cst (.int 0))), (.idx (.var 3) (.cst (.int 1))), (.idx (.var 3) (.cst (.int 2))), (.idx (.tup [(.tup [(.cst (.int 1)), (.cst (.int 0))]), (.tup [(.cst (.int 0)), (.cst (.int 1))]), (.tup [(.cst (.int 1)), (.cst (.int 1))])]) (.var 4))]), (.idx (.var 3) (.var 4))])) [.ret (.cst (.bl false))] []], .ret (.cst (.bl true))]⟩
abbrev i_law_pool_v22 : Nat := 705
def f_law_pool_v22 : Fn := ⟨2, 5, [.set (.pt (.nm 2)) (.ite (.cmp .lt (.var 1) (.bi .len [(.var 0)])) (.bi .int [(.idx (.var 0) (.var 1))]) (.bin .add (.bin .mul (.cst (.int 9315)) (.var 1)) (.cst (.int 619)))), .set (.pt (.nm 3)) (.bin .add (.cst (.int 27079)) (.bin .mul (.cst (.int 7439)) (.var 1))), .for_ (.nm 4) (.slc (.var 0) none (some (.cst (.int 12)))) [.set (.pt (.nm 3)) (.bin .mod (.bi .int [(.bin .add (.bin .add (.bin .mul (.var 3) (.cst (.int 52929))) (.bin .mod (.bi .int [(.var 4)]) (.cst (.int 2147483587)))) (.cst (.int 13)))]) (.cst (.int 2147483647)))], .set (.pt (.nm 3)) (.bin .mod (.bi .int [(.bin .add (.bin .add (.bin .mul (.var 3) (.cst (.int 85))) (.bin .mul (.bin .mod (.bi .int [(.var 2)]) (.cst (.int 2147483587))) (.cst (.int 26357)))) (.cst (.int 11)))]) (.cst (.int 2147483647))), .ret (.lst true [(.ite (.or (.cmp .lt (.var 2) (.cst (.int 0))) (.cmp .ge (.var 2) (.bin .pow (.cst (.int 10)) (.cst (.int 15))))) (.bin .mod (.bi .int [(.bi .abs [(.var 2)])]) (.bin .pow (.cst (.int 10)) (.cst (.int 60)))) (.cst (.int 0))), (.var 3), (.cst (.int 0))])]⟩
abbrev i_law_v53 : Nat := 706
def f_law_v53 : Fn := ⟨1, 2, [.ret (.bi .all [(.lc false [1] (.nm 1) (.rng1 (.bi .max2 [(.cst (.int 1)), (.bi .min2 [(.bi .len [(.var 0)]), (.cst (.int 2))])])) none (.call 704 [(.call 705 [(.var 0), (.var 1)])]))])]⟩
def tgl : List (Nat × Fn) := [(3, f_divisor_of), (4, f_first_live), (5, f_plain_of), (7, f_is_tuple_up_to), (8, f_is_tuple_of), (9, f_is_whole), (10, f_are_whole), (15, f_is_plain), (16, f_is_triple), (35, f_cross), (37, f_check_point), (42, f_check_points), (43, f_dot), (44, f_block), (47, f_place_for), (48, f_minor), (49, f_parts_by), (50, f_added), (51, f_scaled), (52, f_fourth_by), (56, f_ratio_by), (60, f_is_view_of), (61, f_check_view), (62, f_table_times), (63, f_turned_table), (64, f_adjugate), (79, f_law_cross_v2), (160, f_table_of), (214, f_curve_of_table), (215, f_table_by), (216, f_turned_by), (223, f_is_curve_of), (224, f_check_curve), (225, f_turned_curve), (226, f_is_full_by), (229, f_polar_by), (234, f_sign_of), (235, f_is_empty_by), (242, f_products_of), (319, f_law_same_v2), (340, f_law_dot_v3), (341, f_law_block_v3), (629, f_law_common_v2), (630, f_law_plain_v5), (651, f_law_adjugate_v2), (652, f_law_table), (653, f_law_times_v2), (654, f_law_turned_curve), (656, f_law_turn_v4), (670, f_is_live_by), (671, f_value_by_curvepointwork), (672, f_are_on_by), (673, f_check_on), (674, f_other_on), (675, f_second_of), (676, f_second_by), (678, f_value_by_curvework), (679, f_is_on_by_v2), (680, f_is_on_curve_v2), (687, f_law_below_v10), (688, f_law_point_v8), (689, f_law_view_v10), (690, f_law_one_v10), (691, f_law_round_v4), (692, f_are_unlike), (693, f_check_three), (694, f_line_to), (695, f_curve_fourth_by), (696, f_curve_fourth), (697, f_curve_ratio_by), (698, f_curve_ratio), (699, f_law_multiples_v2), (700, f_law_double), (701, f_law_line_v2), (702, f_law_curve_ratio), (703, f_law_is_right_v5), (704, f_law_right_v37), (705, f_law_pool_v22), (706, f_law_v53)]
def TG (f : Nat) : Option Fn := (tgl.find? fun p => p.1 == f).map (·.2)
@[irreducible] def CT (n : Nat) : Hd := callw TG n
theorem CT_eq (n : Nat) : CT n = callw TG n := by unfold CT; rfl
theorem cw {n f : Nat} {ds : List D} {S : Store} {k X : D → Store → Prop} {d : Fn} (e : TG f = some d) (h : ds.length = d.np ∧ exs (CT n) X d.body (start ds d.ns) S { nx := fun _ S1 => k .non S1, rt := k, bk := fun _ _ => False, ct := fun _ _ => False }) : CT (n + 1) f ds S k X := by
  rw [CT_eq] at h ⊢
  simp only [callw, e]
  exact h
theorem c_divisor_of {n : Nat} {a0 : D} {S : Store} {k X : D → Store → Prop} (h : exs (CT n) X f_divisor_of.body [some a0, none, none] S { nx := fun _ S1 => k .non S1, rt := k, bk := fun _ _ => False, ct := fun _ _ => False }) : CT (n + 1) i_divisor_of [a0] S k X := cw rfl ⟨rfl, h⟩
theorem c_first_live {n : Nat} {a0 : D} {S : Store} {k X : D → Store → Prop} (h : exs (CT n) X f_first_live.body [some a0, none] S { nx := fun _ S1 => k .non S1, rt := k, bk := fun _ _ => False, ct := fun _ _ => False }) : CT (n + 1) i_first_live [a0] S k X := cw rfl ⟨rfl, h⟩
theorem c_plain_of {n : Nat} {a0 : D} {S : Store} {k X : D → Store → Prop} (h : exs (CT n) X f_plain_of.body [some a0, none, none] S { nx := fun _ S1 => k .non S1, rt := k, bk := fun _ _ => False, ct := fun _ _ => False }) : CT (n + 1) i_plain_of [a0] S k X := cw rfl ⟨rfl, h⟩
theorem c_is_tuple_up_to {n : Nat} {a0 a1 a2 : D} {S : Store} {k X : D → Store → Prop} (h : exs (CT n) X f_is_tuple_up_to.body [some a0, some a1, some a2] S { nx := fun _ S1 => k .non S1, rt := k, bk := fun _ _ => False, ct := fun _ _ => False }) : CT (n + 1) i_is_tuple_up_to [a0, a1, a2] S k X := cw rfl ⟨rfl, h⟩
theorem c_is_tuple_of {n : Nat} {a0 a1 : D} {S : Store} {k X : D → Store → Prop} (h : exs (CT n) X f_is_tuple_of.body [some a0, some a1] S { nx := fun _ S1 => k .non S1, rt := k, bk := fun _ _ => False, ct := fun _ _ => False }) : CT (n + 1) i_is_tuple_of [a0, a1] S k X := cw rfl ⟨rfl, h⟩
theorem c_is_whole {n : Nat} {a0 : D} {S : Store} {k X : D → Store → Prop} (h : exs (CT n) X f_is_whole.body [some a0] S { nx := fun _ S1 => k .non S1, rt := k, bk := fun _ _ => False, ct := fun _ _ => False }) : CT (n + 1) i_is_whole [a0] S k X := cw rfl ⟨rfl, h⟩
theorem c_are_whole {n : Nat} {a0 a1 : D} {S : Store} {k X : D → Store → Prop} (h : exs (CT n) X f_are_whole.body [some a0, some a1, none] S { nx := fun _ S1 => k .non S1, rt := k, bk := fun _ _ => False, ct := fun _ _ => False }) : CT (n + 1) i_are_whole [a0, a1] S k X := cw rfl ⟨rfl, h⟩
theorem c_is_plain {n : Nat} {a0 a1 : D} {S : Store} {k X : D → Store → Prop} (h : exs (CT n) X f_is_plain.body [some a0, some a1] S { nx := fun _ S1 => k .non S1, rt := k, bk := fun _ _ => False, ct := fun _ _ => False }) : CT (n + 1) i_is_plain [a0, a1] S k X := cw rfl ⟨rfl, h⟩
theorem c_is_triple {n : Nat} {a0 : D} {S : Store} {k X : D → Store → Prop} (h : exs (CT n) X f_is_triple.body [some a0] S { nx := fun _ S1 => k .non S1, rt := k, bk := fun _ _ => False, ct := fun _ _ => False }) : CT (n + 1) i_is_triple [a0] S k X := cw rfl ⟨rfl, h⟩
theorem c_cross {n : Nat} {a0 a1 : D} {S : Store} {k X : D → Store → Prop} (h : exs (CT n) X f_cross.body [some a0, some a1] S { nx := fun _ S1 => k .non S1, rt := k, bk := fun _ _ => False, ct := fun _ _ => False }) : CT (n + 1) i_cross [a0, a1] S k X := cw rfl ⟨rfl, h⟩
theorem c_check_point {n : Nat} {a0 : D} {S : Store} {k X : D → Store → Prop} (h : exs (CT n) X f_check_point.body [some a0] S { nx := fun _ S1 => k .non S1, rt := k, bk := fun _ _ => False, ct := fun _ _ => False }) : CT (n + 1) i_check_point [a0] S k X := cw rfl ⟨rfl, h⟩
theorem c_check_points {n : Nat} {a0 : D} {S : Store} {k X : D → Store → Prop} (h : exs (CT n) X f_check_points.body [some a0, none] S { nx := fun _ S1 => k .non S1, rt := k, bk := fun _ _ => False, ct := fun _ _ => False }) : CT (n + 1) i_check_points [a0] S k X := cw rfl ⟨rfl, h⟩
theorem c_dot {n : Nat} {a0 a1 : D} {S : Store} {k X : D → Store → Prop} (h : exs (CT n) X f_dot.body [some a0, some a1, none, none] S { nx := fun _ S1 => k .non S1, rt := k, bk := fun _ _ => False, ct := fun _ _ => False }) : CT (n + 1) i_dot [a0, a1] S k X := cw rfl ⟨rfl, h⟩
theorem c_block {n : Nat} {a0 a1 a2 : D} {S : Store} {k X : D → Store → Prop} (h : exs (CT n) X f_block.body [some a0, some a1, some a2] S { nx := fun _ S1 => k .non S1, rt := k, bk := fun _ _ => False, ct := fun _ _ => False }) : CT (n + 1) i_block [a0, a1, a2] S k X := cw rfl ⟨rfl, h⟩
theorem c_place_for {n : Nat} {a0 a1 : D} {S : Store} {k X : D → Store → Prop} (h : exs (CT n) X f_place_for.body [some a0, some a1, none, none, none] S { nx := fun _ S1 => k .non S1, rt := k, bk := fun _ _ => False, ct := fun _ _ => False }) : CT (n + 1) i_place_for [a0, a1] S k X := cw rfl ⟨rfl, h⟩
theorem c_minor {n : Nat} {a0 a1 a2 : D} {S : Store} {k X : D → Store → Prop} (h : exs (CT n) X f_minor.body [some a0, some a1, some a2] S { nx := fun _ S1 => k .non S1, rt := k, bk := fun _ _ => False, ct := fun _ _ => False }) : CT (n + 1) i_minor [a0, a1, a2] S k X := cw rfl ⟨rfl, h⟩
theorem c_parts_by {n : Nat} {a0 a1 a2 : D} {S : Store} {k X : D → Store → Prop} (h : exs (CT n) X f_parts_by.body [some a0, some a1, some a2, none] S { nx := fun _ S1 => k .non S1, rt := k, bk := fun _ _ => False, ct := fun _ _ => False }) : CT (n + 1) i_parts_by [a0, a1, a2] S k X := cw rfl ⟨rfl, h⟩
theorem c_added {n : Nat} {a0 a1 : D} {S : Store} {k X : D → Store → Prop} (h : exs (CT n) X f_added.body [some a0, some a1, none, none] S { nx := fun _ S1 => k .non S1, rt := k, bk := fun _ _ => False, ct := fun _ _ => False }) : CT (n + 1) i_added [a0, a1] S k X := cw rfl ⟨rfl, h⟩
theorem c_scaled {n : Nat} {a0 a1 : D} {S : Store} {k X : D → Store → Prop} (h : exs (CT n) X f_scaled.body [some a0, some a1, none] S { nx := fun _ S1 => k .non S1, rt := k, bk := fun _ _ => False, ct := fun _ _ => False }) : CT (n + 1) i_scaled [a0, a1] S k X := cw rfl ⟨rfl, h⟩
theorem c_fourth_by {n : Nat} {a0 a1 a2 a3 : D} {S : Store} {k X : D → Store → Prop} (h : exs (CT n) X f_fourth_by.body [some a0, some a1, some a2, some a3, none] S { nx := fun _ S1 => k .non S1, rt := k, bk := fun _ _ => False, ct := fun _ _ => False }) : CT (n + 1) i_fourth_by [a0, a1, a2, a3] S k X := cw rfl ⟨rfl, h⟩
theorem c_ratio_by {n : Nat} {a0 a1 a2 a3 : D} {S : Store} {k X : D → Store → Prop} (h : exs (CT n) X f_ratio_by.body [some a0, some a1, some a2, some a3, none, none] S { nx := fun _ S1 => k .non S1, rt := k, bk := fun _ _ => False, ct := fun _ _ => False }) : CT (n + 1) i_ratio_by [a0, a1, a2, a3] S k X := cw rfl ⟨rfl, h⟩
theorem c_is_view_of {n : Nat} {a0 : D} {S : Store} {k X : D → Store → Prop} (h : exs (CT n) X f_is_view_of.body [some a0, none] S { nx := fun _ S1 => k .non S1, rt := k, bk := fun _ _ => False, ct := fun _ _ => False }) : CT (n + 1) i_is_view_of [a0] S k X := cw rfl ⟨rfl, h⟩
theorem c_check_view {n : Nat} {a0 : D} {S : Store} {k X : D → Store → Prop} (h : exs (CT n) X f_check_view.body [some a0] S { nx := fun _ S1 => k .non S1, rt := k, bk := fun _ _ => False, ct := fun _ _ => False }) : CT (n + 1) i_check_view [a0] S k X := cw rfl ⟨rfl, h⟩
theorem c_table_times {n : Nat} {a0 a1 : D} {S : Store} {k X : D → Store → Prop} (h : exs (CT n) X f_table_times.body [some a0, some a1, none] S { nx := fun _ S1 => k .non S1, rt := k, bk := fun _ _ => False, ct := fun _ _ => False }) : CT (n + 1) i_table_times [a0, a1] S k X := cw rfl ⟨rfl, h⟩
theorem c_turned_table {n : Nat} {a0 : D} {S : Store} {k X : D → Store → Prop} (h : exs (CT n) X f_turned_table.body [some a0, none, none] S { nx := fun _ S1 => k .non S1, rt := k, bk := fun _ _ => False, ct := fun _ _ => False }) : CT (n + 1) i_turned_table [a0] S k X := cw rfl ⟨rfl, h⟩
theorem c_adjugate {n : Nat} {a0 : D} {S : Store} {k X : D → Store → Prop} (h : exs (CT n) X f_adjugate.body [some a0, none, none, none] S { nx := fun _ S1 => k .non S1, rt := k, bk := fun _ _ => False, ct := fun _ _ => False }) : CT (n + 1) i_adjugate [a0] S k X := cw rfl ⟨rfl, h⟩
theorem c_law_cross_v2 {n : Nat} {a0 a1 : D} {S : Store} {k X : D → Store → Prop} (h : exs (CT n) X f_law_cross_v2.body [some a0, some a1] S { nx := fun _ S1 => k .non S1, rt := k, bk := fun _ _ => False, ct := fun _ _ => False }) : CT (n + 1) i_law_cross_v2 [a0, a1] S k X := cw rfl ⟨rfl, h⟩
theorem c_table_of {n : Nat} {a0 a1 : D} {S : Store} {k X : D → Store → Prop} (h : exs (CT n) X f_table_of.body [some a0, some a1, none, none, none] S { nx := fun _ S1 => k .non S1, rt := k, bk := fun _ _ => False, ct := fun _ _ => False }) : CT (n + 1) i_table_of [a0, a1] S k X := cw rfl ⟨rfl, h⟩
theorem c_curve_of_table {n : Nat} {a0 : D} {S : Store} {k X : D → Store → Prop} (h : exs (CT n) X f_curve_of_table.body [some a0, none, none] S { nx := fun _ S1 => k .non S1, rt := k, bk := fun _ _ => False, ct := fun _ _ => False }) : CT (n + 1) i_curve_of_table [a0] S k X := cw rfl ⟨rfl, h⟩
theorem c_table_by {n : Nat} {a0 : D} {S : Store} {k X : D → Store → Prop} (h : exs (CT n) X f_table_by.body [some a0, none, none, none, none, none, none] S { nx := fun _ S1 => k .non S1, rt := k, bk := fun _ _ => False, ct := fun _ _ => False }) : CT (n + 1) i_table_by [a0] S k X := cw rfl ⟨rfl, h⟩
theorem c_turned_by {n : Nat} {a0 a1 : D} {S : Store} {k X : D → Store → Prop} (h : exs (CT n) X f_turned_by.body [some a0, some a1, none] S { nx := fun _ S1 => k .non S1, rt := k, bk := fun _ _ => False, ct := fun _ _ => False }) : CT (n + 1) i_turned_by [a0, a1] S k X := cw rfl ⟨rfl, h⟩
theorem c_is_curve_of {n : Nat} {a0 : D} {S : Store} {k X : D → Store → Prop} (h : exs (CT n) X f_is_curve_of.body [some a0] S { nx := fun _ S1 => k .non S1, rt := k, bk := fun _ _ => False, ct := fun _ _ => False }) : CT (n + 1) i_is_curve_of [a0] S k X := cw rfl ⟨rfl, h⟩
theorem c_check_curve {n : Nat} {a0 : D} {S : Store} {k X : D → Store → Prop} (h : exs (CT n) X f_check_curve.body [some a0] S { nx := fun _ S1 => k .non S1, rt := k, bk := fun _ _ => False, ct := fun _ _ => False }) : CT (n + 1) i_check_curve [a0] S k X := cw rfl ⟨rfl, h⟩
theorem c_turned_curve {n : Nat} {a0 a1 : D} {S : Store} {k X : D → Store → Prop} (h : exs (CT n) X f_turned_curve.body [some a0, some a1] S { nx := fun _ S1 => k .non S1, rt := k, bk := fun _ _ => False, ct := fun _ _ => False }) : CT (n + 1) i_turned_curve [a0, a1] S k X := cw rfl ⟨rfl, h⟩
theorem c_is_full_by {n : Nat} {a0 : D} {S : Store} {k X : D → Store → Prop} (h : exs (CT n) X f_is_full_by.body [some a0, none, none, none] S { nx := fun _ S1 => k .non S1, rt := k, bk := fun _ _ => False, ct := fun _ _ => False }) : CT (n + 1) i_is_full_by [a0] S k X := cw rfl ⟨rfl, h⟩
theorem c_polar_by {n : Nat} {a0 a1 : D} {S : Store} {k X : D → Store → Prop} (h : exs (CT n) X f_polar_by.body [some a0, some a1] S { nx := fun _ S1 => k .non S1, rt := k, bk := fun _ _ => False, ct := fun _ _ => False }) : CT (n + 1) i_polar_by [a0, a1] S k X := cw rfl ⟨rfl, h⟩
theorem c_sign_of {n : Nat} {a0 : D} {S : Store} {k X : D → Store → Prop} (h : exs (CT n) X f_sign_of.body [some a0] S { nx := fun _ S1 => k .non S1, rt := k, bk := fun _ _ => False, ct := fun _ _ => False }) : CT (n + 1) i_sign_of [a0] S k X := cw rfl ⟨rfl, h⟩
theorem c_is_empty_by {n : Nat} {a0 : D} {S : Store} {k X : D → Store → Prop} (h : exs (CT n) X f_is_empty_by.body [some a0, none, none, none, none, none, none, none, none, none] S { nx := fun _ S1 => k .non S1, rt := k, bk := fun _ _ => False, ct := fun _ _ => False }) : CT (n + 1) i_is_empty_by [a0] S k X := cw rfl ⟨rfl, h⟩
theorem c_products_of {n : Nat} {a0 : D} {S : Store} {k X : D → Store → Prop} (h : exs (CT n) X f_products_of.body [some a0, none, none, none] S { nx := fun _ S1 => k .non S1, rt := k, bk := fun _ _ => False, ct := fun _ _ => False }) : CT (n + 1) i_products_of [a0] S k X := cw rfl ⟨rfl, h⟩
theorem c_law_same_v2 {n : Nat} {a0 a1 : D} {S : Store} {k X : D → Store → Prop} (h : exs (CT n) X f_law_same_v2.body [some a0, some a1, none, none] S { nx := fun _ S1 => k .non S1, rt := k, bk := fun _ _ => False, ct := fun _ _ => False }) : CT (n + 1) i_law_same_v2 [a0, a1] S k X := cw rfl ⟨rfl, h⟩
theorem c_law_dot_v3 {n : Nat} {a0 a1 : D} {S : Store} {k X : D → Store → Prop} (h : exs (CT n) X f_law_dot_v3.body [some a0, some a1, none, none] S { nx := fun _ S1 => k .non S1, rt := k, bk := fun _ _ => False, ct := fun _ _ => False }) : CT (n + 1) i_law_dot_v3 [a0, a1] S k X := cw rfl ⟨rfl, h⟩
theorem c_law_block_v3 {n : Nat} {a0 a1 a2 : D} {S : Store} {k X : D → Store → Prop} (h : exs (CT n) X f_law_block_v3.body [some a0, some a1, some a2] S { nx := fun _ S1 => k .non S1, rt := k, bk := fun _ _ => False, ct := fun _ _ => False }) : CT (n + 1) i_law_block_v3 [a0, a1, a2] S k X := cw rfl ⟨rfl, h⟩
theorem c_law_common_v2 {n : Nat} {a0 : D} {S : Store} {k X : D → Store → Prop} (h : exs (CT n) X f_law_common_v2.body [some a0, none, none, none, none] S { nx := fun _ S1 => k .non S1, rt := k, bk := fun _ _ => False, ct := fun _ _ => False }) : CT (n + 1) i_law_common_v2 [a0] S k X := cw rfl ⟨rfl, h⟩
theorem c_law_plain_v5 {n : Nat} {a0 : D} {S : Store} {k X : D → Store → Prop} (h : exs (CT n) X f_law_plain_v5.body [some a0, none, none, none] S { nx := fun _ S1 => k .non S1, rt := k, bk := fun _ _ => False, ct := fun _ _ => False }) : CT (n + 1) i_law_plain_v5 [a0] S k X := cw rfl ⟨rfl, h⟩
theorem c_law_adjugate_v2 {n : Nat} {a0 : D} {S : Store} {k X : D → Store → Prop} (h : exs (CT n) X f_law_adjugate_v2.body [some a0, none, none, none, none, none, none] S { nx := fun _ S1 => k .non S1, rt := k, bk := fun _ _ => False, ct := fun _ _ => False }) : CT (n + 1) i_law_adjugate_v2 [a0] S k X := cw rfl ⟨rfl, h⟩
theorem c_law_table {n : Nat} {a0 : D} {S : Store} {k X : D → Store → Prop} (h : exs (CT n) X f_law_table.body [some a0, none, none, none, none, none, none] S { nx := fun _ S1 => k .non S1, rt := k, bk := fun _ _ => False, ct := fun _ _ => False }) : CT (n + 1) i_law_table [a0] S k X := cw rfl ⟨rfl, h⟩
theorem c_law_times_v2 {n : Nat} {a0 a1 : D} {S : Store} {k X : D → Store → Prop} (h : exs (CT n) X f_law_times_v2.body [some a0, some a1, none] S { nx := fun _ S1 => k .non S1, rt := k, bk := fun _ _ => False, ct := fun _ _ => False }) : CT (n + 1) i_law_times_v2 [a0, a1] S k X := cw rfl ⟨rfl, h⟩
theorem c_law_turned_curve {n : Nat} {a0 a1 : D} {S : Store} {k X : D → Store → Prop} (h : exs (CT n) X f_law_turned_curve.body [some a0, some a1, none, none, none, none, none, none, none, none] S { nx := fun _ S1 => k .non S1, rt := k, bk := fun _ _ => False, ct := fun _ _ => False }) : CT (n + 1) i_law_turned_curve [a0, a1] S k X := cw rfl ⟨rfl, h⟩
theorem c_law_turn_v4 {n : Nat} {a0 a1 : D} {S : Store} {k X : D → Store → Prop} (h : exs (CT n) X f_law_turn_v4.body [some a0, some a1] S { nx := fun _ S1 => k .non S1, rt := k, bk := fun _ _ => False, ct := fun _ _ => False }) : CT (n + 1) i_law_turn_v4 [a0, a1] S k X := cw rfl ⟨rfl, h⟩
theorem c_is_live_by {n : Nat} {a0 : D} {S : Store} {k X : D → Store → Prop} (h : exs (CT n) X f_is_live_by.body [some a0] S { nx := fun _ S1 => k .non S1, rt := k, bk := fun _ _ => False, ct := fun _ _ => False }) : CT (n + 1) i_is_live_by [a0] S k X := cw rfl ⟨rfl, h⟩
theorem c_value_by_curvepointwork {n : Nat} {a0 a1 : D} {S : Store} {k X : D → Store → Prop} (h : exs (CT n) X f_value_by_curvepointwork.body [some a0, some a1] S { nx := fun _ S1 => k .non S1, rt := k, bk := fun _ _ => False, ct := fun _ _ => False }) : CT (n + 1) i_value_by_curvepointwork [a0, a1] S k X := cw rfl ⟨rfl, h⟩
theorem c_are_on_by {n : Nat} {a0 a1 : D} {S : Store} {k X : D → Store → Prop} (h : exs (CT n) X f_are_on_by.body [some a0, some a1, none] S { nx := fun _ S1 => k .non S1, rt := k, bk := fun _ _ => False, ct := fun _ _ => False }) : CT (n + 1) i_are_on_by [a0, a1] S k X := cw rfl ⟨rfl, h⟩
theorem c_check_on {n : Nat} {a0 a1 : D} {S : Store} {k X : D → Store → Prop} (h : exs (CT n) X f_check_on.body [some a0, some a1] S { nx := fun _ S1 => k .non S1, rt := k, bk := fun _ _ => False, ct := fun _ _ => False }) : CT (n + 1) i_check_on [a0, a1] S k X := cw rfl ⟨rfl, h⟩
theorem c_other_on {n : Nat} {a0 a1 : D} {S : Store} {k X : D → Store → Prop} (h : exs (CT n) X f_other_on.body [some a0, some a1, none, none] S { nx := fun _ S1 => k .non S1, rt := k, bk := fun _ _ => False, ct := fun _ _ => False }) : CT (n + 1) i_other_on [a0, a1] S k X := cw rfl ⟨rfl, h⟩
theorem c_second_of {n : Nat} {a0 a1 a2 : D} {S : Store} {k X : D → Store → Prop} (h : exs (CT n) X f_second_of.body [some a0, some a1, some a2, none] S { nx := fun _ S1 => k .non S1, rt := k, bk := fun _ _ => False, ct := fun _ _ => False }) : CT (n + 1) i_second_of [a0, a1, a2] S k X := cw rfl ⟨rfl, h⟩
theorem c_second_by {n : Nat} {a0 a1 a2 : D} {S : Store} {k X : D → Store → Prop} (h : exs (CT n) X f_second_by.body [some a0, some a1, some a2, none, none] S { nx := fun _ S1 => k .non S1, rt := k, bk := fun _ _ => False, ct := fun _ _ => False }) : CT (n + 1) i_second_by [a0, a1, a2] S k X := cw rfl ⟨rfl, h⟩
theorem c_value_by_curvework {n : Nat} {a0 a1 : D} {S : Store} {k X : D → Store → Prop} (h : exs (CT n) X f_value_by_curvework.body [some a0, some a1] S { nx := fun _ S1 => k .non S1, rt := k, bk := fun _ _ => False, ct := fun _ _ => False }) : CT (n + 1) i_value_by_curvework [a0, a1] S k X := cw rfl ⟨rfl, h⟩
theorem c_is_on_by_v2 {n : Nat} {a0 a1 : D} {S : Store} {k X : D → Store → Prop} (h : exs (CT n) X f_is_on_by_v2.body [some a0, some a1] S { nx := fun _ S1 => k .non S1, rt := k, bk := fun _ _ => False, ct := fun _ _ => False }) : CT (n + 1) i_is_on_by_v2 [a0, a1] S k X := cw rfl ⟨rfl, h⟩
theorem c_is_on_curve_v2 {n : Nat} {a0 a1 : D} {S : Store} {k X : D → Store → Prop} (h : exs (CT n) X f_is_on_curve_v2.body [some a0, some a1] S { nx := fun _ S1 => k .non S1, rt := k, bk := fun _ _ => False, ct := fun _ _ => False }) : CT (n + 1) i_is_on_curve_v2 [a0, a1] S k X := cw rfl ⟨rfl, h⟩
theorem c_law_below_v10 {n : Nat} {a0 a1 : D} {S : Store} {k X : D → Store → Prop} (h : exs (CT n) X f_law_below_v10.body [some a0, some a1, none, none] S { nx := fun _ S1 => k .non S1, rt := k, bk := fun _ _ => False, ct := fun _ _ => False }) : CT (n + 1) i_law_below_v10 [a0, a1] S k X := cw rfl ⟨rfl, h⟩
theorem c_law_point_v8 {n : Nat} {a0 a1 : D} {S : Store} {k X : D → Store → Prop} (h : exs (CT n) X f_law_point_v8.body [some a0, some a1, none, none] S { nx := fun _ S1 => k .non S1, rt := k, bk := fun _ _ => False, ct := fun _ _ => False }) : CT (n + 1) i_law_point_v8 [a0, a1] S k X := cw rfl ⟨rfl, h⟩
theorem c_law_view_v10 {n : Nat} {a0 a1 : D} {S : Store} {k X : D → Store → Prop} (h : exs (CT n) X f_law_view_v10.body [some a0, some a1, none, none, none, none] S { nx := fun _ S1 => k .non S1, rt := k, bk := fun _ _ => False, ct := fun _ _ => False }) : CT (n + 1) i_law_view_v10 [a0, a1] S k X := cw rfl ⟨rfl, h⟩
theorem c_law_one_v10 {n : Nat} {a0 a1 : D} {S : Store} {k X : D → Store → Prop} (h : exs (CT n) X f_law_one_v10.body [some a0, some a1] S { nx := fun _ S1 => k .non S1, rt := k, bk := fun _ _ => False, ct := fun _ _ => False }) : CT (n + 1) i_law_one_v10 [a0, a1] S k X := cw rfl ⟨rfl, h⟩
theorem c_law_round_v4 {n : Nat} {a0 a1 a2 : D} {S : Store} {k X : D → Store → Prop} (h : exs (CT n) X f_law_round_v4.body [some a0, some a1, some a2, none, none, none, none, none, none, none] S { nx := fun _ S1 => k .non S1, rt := k, bk := fun _ _ => False, ct := fun _ _ => False }) : CT (n + 1) i_law_round_v4 [a0, a1, a2] S k X := cw rfl ⟨rfl, h⟩
theorem c_are_unlike {n : Nat} {a0 : D} {S : Store} {k X : D → Store → Prop} (h : exs (CT n) X f_are_unlike.body [some a0, none, none] S { nx := fun _ S1 => k .non S1, rt := k, bk := fun _ _ => False, ct := fun _ _ => False }) : CT (n + 1) i_are_unlike [a0] S k X := cw rfl ⟨rfl, h⟩
theorem c_check_three {n : Nat} {a0 a1 : D} {S : Store} {k X : D → Store → Prop} (h : exs (CT n) X f_check_three.body [some a0, some a1] S { nx := fun _ S1 => k .non S1, rt := k, bk := fun _ _ => False, ct := fun _ _ => False }) : CT (n + 1) i_check_three [a0, a1] S k X := cw rfl ⟨rfl, h⟩
theorem c_line_to {n : Nat} {a0 a1 a2 : D} {S : Store} {k X : D → Store → Prop} (h : exs (CT n) X f_line_to.body [some a0, some a1, some a2] S { nx := fun _ S1 => k .non S1, rt := k, bk := fun _ _ => False, ct := fun _ _ => False }) : CT (n + 1) i_line_to [a0, a1, a2] S k X := cw rfl ⟨rfl, h⟩
theorem c_curve_fourth_by {n : Nat} {a0 a1 a2 : D} {S : Store} {k X : D → Store → Prop} (h : exs (CT n) X f_curve_fourth_by.body [some a0, some a1, some a2, none, none] S { nx := fun _ S1 => k .non S1, rt := k, bk := fun _ _ => False, ct := fun _ _ => False }) : CT (n + 1) i_curve_fourth_by [a0, a1, a2] S k X := cw rfl ⟨rfl, h⟩
theorem c_curve_fourth {n : Nat} {a0 a1 a2 a3 a4 : D} {S : Store} {k X : D → Store → Prop} (h : exs (CT n) X f_curve_fourth.body [some a0, some a1, some a2, some a3, some a4, none] S { nx := fun _ S1 => k .non S1, rt := k, bk := fun _ _ => False, ct := fun _ _ => False }) : CT (n + 1) i_curve_fourth [a0, a1, a2, a3, a4] S k X := cw rfl ⟨rfl, h⟩
theorem c_curve_ratio_by {n : Nat} {a0 a1 : D} {S : Store} {k X : D → Store → Prop} (h : exs (CT n) X f_curve_ratio_by.body [some a0, some a1, none, none] S { nx := fun _ S1 => k .non S1, rt := k, bk := fun _ _ => False, ct := fun _ _ => False }) : CT (n + 1) i_curve_ratio_by [a0, a1] S k X := cw rfl ⟨rfl, h⟩
theorem c_curve_ratio {n : Nat} {a0 a1 a2 a3 a4 : D} {S : Store} {k X : D → Store → Prop} (h : exs (CT n) X f_curve_ratio.body [some a0, some a1, some a2, some a3, some a4, none] S { nx := fun _ S1 => k .non S1, rt := k, bk := fun _ _ => False, ct := fun _ _ => False }) : CT (n + 1) i_curve_ratio [a0, a1, a2, a3, a4] S k X := cw rfl ⟨rfl, h⟩
theorem c_law_multiples_v2 {n : Nat} {a0 a1 a2 : D} {S : Store} {k X : D → Store → Prop} (h : exs (CT n) X f_law_multiples_v2.body [some a0, some a1, some a2, none, none, none] S { nx := fun _ S1 => k .non S1, rt := k, bk := fun _ _ => False, ct := fun _ _ => False }) : CT (n + 1) i_law_multiples_v2 [a0, a1, a2] S k X := cw rfl ⟨rfl, h⟩
theorem c_law_double {n : Nat} {a0 a1 a2 a3 : D} {S : Store} {k X : D → Store → Prop} (h : exs (CT n) X f_law_double.body [some a0, some a1, some a2, some a3, none, none, none, none, none] S { nx := fun _ S1 => k .non S1, rt := k, bk := fun _ _ => False, ct := fun _ _ => False }) : CT (n + 1) i_law_double [a0, a1, a2, a3] S k X := cw rfl ⟨rfl, h⟩
theorem c_law_line_v2 {n : Nat} {a0 a1 a2 : D} {S : Store} {k X : D → Store → Prop} (h : exs (CT n) X f_law_line_v2.body [some a0, some a1, some a2] S { nx := fun _ S1 => k .non S1, rt := k, bk := fun _ _ => False, ct := fun _ _ => False }) : CT (n + 1) i_law_line_v2 [a0, a1, a2] S k X := cw rfl ⟨rfl, h⟩
theorem c_law_curve_ratio {n : Nat} {a0 a1 a2 : D} {S : Store} {k X : D → Store → Prop} (h : exs (CT n) X f_law_curve_ratio.body [some a0, some a1, some a2, none, none] S { nx := fun _ S1 => k .non S1, rt := k, bk := fun _ _ => False, ct := fun _ _ => False }) : CT (n + 1) i_law_curve_ratio [a0, a1, a2] S k X := cw rfl ⟨rfl, h⟩
theorem c_law_is_right_v5 {n : Nat} {a0 a1 a2 a3 : D} {S : Store} {k X : D → Store → Prop} (h : exs (CT n) X f_law_is_right_v5.body [some a0, some a1, some a2, some a3, none, none, none, none, none, none, none, none, none, none, none, none] S { nx := fun _ S1 => k .non S1, rt := k, bk := fun _ _ => False, ct := fun _ _ => False }) : CT (n + 1) i_law_is_right_v5 [a0, a1, a2, a3] S k X := cw rfl ⟨rfl, h⟩
theorem c_law_right_v37 {n : Nat} {a0 : D} {S : Store} {k X : D → Store → Prop} (h : exs (CT n) X f_law_right_v37.body [some a0, none, none, none, none] S { nx := fun _ S1 => k .non S1, rt := k, bk := fun _ _ => False, ct := fun _ _ => False }) : CT (n + 1) i_law_right_v37 [a0] S k X := cw rfl ⟨rfl, h⟩
theorem c_law_pool_v22 {n : Nat} {a0 a1 : D} {S : Store} {k X : D → Store → Prop} (h : exs (CT n) X f_law_pool_v22.body [some a0, some a1, none, none, none] S { nx := fun _ S1 => k .non S1, rt := k, bk := fun _ _ => False, ct := fun _ _ => False }) : CT (n + 1) i_law_pool_v22 [a0, a1] S k X := cw rfl ⟨rfl, h⟩
theorem c_law_v53 {n : Nat} {a0 : D} {S : Store} {k X : D → Store → Prop} (h : exs (CT n) X f_law_v53.body [some a0, none] S { nx := fun _ S1 => k .non S1, rt := k, bk := fun _ _ => False, ct := fun _ _ => False }) : CT (n + 1) i_law_v53 [a0] S k X := cw rfl ⟨rfl, h⟩
end FV
set_option Elab.async false
set_option linter.all false
set_option maxRecDepth 100000
set_option maxHeartbeats 0
/-! C_k76: the head and the close. -/
namespace FV
open PySem PySem.Spec PyProof.Rows L2
abbrev RW := PySem.Challenge.rw_flatviews_k76_whole_curve_ratios_from_al
def top (i : Nat) : Stmt := PySem.Challenge.pw_flatviews_k76_whole_curve_ratios_from_al.main.body.getD i (.Pass ⟨0, 0, 0, 0⟩)
def names_0 : List Str := ["FlatError", "InvalidPoint", "InvalidView", "InvalidPair", "InvalidCurve", "Unfit", "is_whole", "is_tuple_up_to", "is_tuple_of", "are_unlike", "are_whole", "divisor_of", "first_live", "plain_of", "is_plain", "dot", "cross", "block", "scaled", "added", "table_times", "turned_table", "adjugate", "table_of", "is_triple", "is_view_of", "check_point", "check_view", "SIZE", "table_by"]
def names_1 : List Str := ["curve_of_table", "is_full_by", "products_of", "value_by", "value_by_curvework", "is_on_by", "sign_of", "is_empty_by", "polar_by", "turned_by", "is_curve_of", "check_curve", "PLACES", "place_for", "minor", "parts_by", "ratio_by", "fourth_by", "is_live_by", "value_by_curvepointwork", "are_on_by", "other_on", "second_by", "second_of", "line_to", "curve_ratio_by", "curve_fourth_by", "check_points", "check_on", "check_three"]
def names_2 : List Str := ["curve_ratio", "curve_fourth", "is_on_curve", "turned_curve", "_law_pool", "_law_below", "_law_one", "_law_common", "_law_plain", "_law_cross", "_law_dot", "_law_block", "_law_times", "_law_point", "_law_view", "_law_turn", "_law_adjugate", "_law_table", "_law_turned_curve", "_law_round", "_law_multiples", "_law_double", "_law_line", "_law_curve_ratio", "_law_same", "_law_is_right", "_law_right"]
def names : List Str := names_0 ++ names_1 ++ names_2
def d_law_common_v2 : De := ⟨"_law_common", 629, ["numbers", "found", "each", "one", "two"], ["numbers"], f_law_common_v2⟩
def d_law_plain_v5 : De := ⟨"_law_plain", 630, ["numbers", "by", "first", "each"], ["numbers"], f_law_plain_v5⟩
def d_law_below_v10 : De := ⟨"_law_below", 687, ["pool", "many", "figure", "stirred"], ["pool", "many"], f_law_below_v10⟩
def d_law_point_v8 : De := ⟨"_law_point", 688, ["pool", "wide", "found", "spot"], ["pool", "wide"], f_law_point_v8⟩
def d_law_dot_v3 : De := ⟨"_law_dot", 340, ["one", "two", "x", "y"], ["one", "two"], f_law_dot_v3⟩
def d_law_cross_v2 : De := ⟨"_law_cross", 79, ["one", "two"], ["one", "two"], f_law_cross_v2⟩
def d_law_block_v3 : De := ⟨"_law_block", 341, ["one", "two", "three"], ["one", "two", "three"], f_law_block_v3⟩
def d_law_view_v10 : De := ⟨"_law_view", 689, ["pool", "wide", "lap", "rows", "spot", "flat"], ["pool", "wide"], f_law_view_v10⟩
def d_law_adjugate_v2 : De := ⟨"_law_adjugate", 651, ["rows", "one", "two", "three", "cols", "col", "spot"], ["rows"], f_law_adjugate_v2⟩
def d_law_table : De := ⟨"_law_table", 652, ["curve", "a", "b", "c", "d", "e", "f"], ["curve"], f_law_table⟩
def d_law_times_v2 : De := ⟨"_law_times", 653, ["rows", "point", "row"], ["rows", "point"], f_law_times_v2⟩
def d_law_turned_curve : De := ⟨"_law_turned_curve", 654, ["view_there", "curve", "back", "rows", "cols", "row", "spot", "new", "two", "one"], ["view_there", "curve"], f_law_turned_curve⟩
def d_law_one_v10 : De := ⟨"_law_one", 690, ["pool", "some"], ["pool", "some"], f_law_one_v10⟩
def d_law_turn_v4 : De := ⟨"_law_turn", 656, ["view_there", "point"], ["view_there", "point"], f_law_turn_v4⟩
def d_law_round_v4 : De := ⟨"_law_round", 691, ["pool", "many", "wide", "view_there", "found", "lap", "s", "t", "some", "left"], ["pool", "many", "wide"], f_law_round_v4⟩
def d_is_tuple_up_to : De := ⟨"is_tuple_up_to", 7, ["value", "low", "high"], ["value", "low", "high"], f_is_tuple_up_to⟩
def d_is_tuple_of : De := ⟨"is_tuple_of", 8, ["value", "many"], ["value", "many"], f_is_tuple_of⟩
def d_is_whole : De := ⟨"is_whole", 9, ["value"], ["value"], f_is_whole⟩
def d_are_whole : De := ⟨"are_whole", 10, ["value", "many", "each"], ["value", "many"], f_are_whole⟩
def d_divisor_of : De := ⟨"divisor_of", 3, ["numbers", "found", "number"], ["numbers"], f_divisor_of⟩
def d_first_live : De := ⟨"first_live", 4, ["numbers", "number"], ["numbers"], f_first_live⟩
def d_is_plain : De := ⟨"is_plain", 15, ["value", "many"], ["value", "many"], f_is_plain⟩
def d_is_curve_of : De := ⟨"is_curve_of", 223, ["value"], ["value"], f_is_curve_of⟩
def d_check_curve : De := ⟨"check_curve", 224, ["curve"], ["curve"], f_check_curve⟩
def d_is_triple : De := ⟨"is_triple", 16, ["value"], ["value"], f_is_triple⟩
def d_check_point : De := ⟨"check_point", 37, ["point"], ["point"], f_check_point⟩
def d_check_points : De := ⟨"check_points", 42, ["points", "point"], ["points"], f_check_points⟩
def d_table_by : De := ⟨"table_by", 215, ["curve", "one", "two", "three", "yz", "xz", "xy"], ["curve"], f_table_by⟩
def d_dot : De := ⟨"dot", 43, ["one", "two", "first", "second"], ["one", "two"], f_dot⟩
def d_cross : De := ⟨"cross", 35, ["one", "two"], ["one", "two"], f_cross⟩
def d_block : De := ⟨"block", 44, ["one", "two", "three"], ["one", "two", "three"], f_block⟩
def d_is_full_by : De := ⟨"is_full_by", 226, ["curve", "one", "two", "three"], ["curve"], f_is_full_by⟩
def d_sign_of : De := ⟨"sign_of", 234, ["number"], ["number"], f_sign_of⟩
def d_is_empty_by : De := ⟨"is_empty_by", 235, ["curve", "one", "two", "three", "_", "xy", "sign", "first", "second", "third"], ["curve"], f_is_empty_by⟩
def d_is_live_by : De := ⟨"is_live_by", 670, ["curve"], ["curve"], f_is_live_by⟩
def d_products_of : De := ⟨"products_of", 242, ["point", "one", "two", "three"], ["point"], f_products_of⟩
def d_value_by_curvepointwork : De := ⟨"value_by_curvepointwork", 671, ["curve", "point"], ["curve", "point"], f_value_by_curvepointwork⟩
def d_are_on_by : De := ⟨"are_on_by", 672, ["curve", "points", "point"], ["curve", "points"], f_are_on_by⟩
def d_check_on : De := ⟨"check_on", 673, ["curve", "points"], ["curve", "points"], f_check_on⟩
def d_are_unlike : De := ⟨"are_unlike", 692, ["values", "at", "value"], ["values"], f_are_unlike⟩
def d_check_three : De := ⟨"check_three", 693, ["curve", "points"], ["curve", "points"], f_check_three⟩
def d_plain_of : De := ⟨"plain_of", 5, ["numbers", "divisor", "number"], ["numbers"], f_plain_of⟩
def d_other_on : De := ⟨"other_on", 674, ["line", "point", "found", "each"], ["line", "point"], f_other_on⟩
def d_added : De := ⟨"added", 50, ["one", "two", "first", "second"], ["one", "two"], f_added⟩
def d_scaled : De := ⟨"scaled", 51, ["triple", "number", "each"], ["triple", "number"], f_scaled⟩
def d_second_of : De := ⟨"second_of", 675, ["curve", "point", "other", "both"], ["curve", "point", "other"], f_second_of⟩
def d_table_times : De := ⟨"table_times", 62, ["rows", "triple", "row"], ["rows", "triple"], f_table_times⟩
def d_polar_by : De := ⟨"polar_by", 229, ["curve", "point"], ["curve", "point"], f_polar_by⟩
def d_second_by : De := ⟨"second_by", 676, ["curve", "point", "line", "other", "pull"], ["curve", "point", "line"], f_second_by⟩
def d_line_to : De := ⟨"line_to", 694, ["curve", "point", "other"], ["curve", "point", "other"], f_line_to⟩
def d_place_for : De := ⟨"place_for", 47, ["one", "two", "live", "at", "number"], ["one", "two"], f_place_for⟩
def d_minor : De := ⟨"minor", 48, ["one", "two", "places"], ["one", "two", "places"], f_minor⟩
def d_parts_by : De := ⟨"parts_by", 49, ["one", "two", "triple", "places"], ["one", "two", "triple"], f_parts_by⟩
def d_fourth_by : De := ⟨"fourth_by", 52, ["one", "two", "three", "pair", "whole"], ["one", "two", "three", "pair"], f_fourth_by⟩
def d_curve_fourth_by : De := ⟨"curve_fourth_by", 695, ["curve", "points", "pair", "lines", "each"], ["curve", "points", "pair"], f_curve_fourth_by⟩
def d_curve_fourth : De := ⟨"curve_fourth", 696, ["curve", "point", "other", "third", "pair", "points"], ["curve", "point", "other", "third", "pair"], f_curve_fourth⟩
def d_law_same_v2 : De := ⟨"_law_same", 319, ["told", "due", "x", "y"], ["told", "due"], f_law_same_v2⟩
def d_ratio_by : De := ⟨"ratio_by", 56, ["one", "two", "three", "four", "whole", "own"], ["one", "two", "three", "four"], f_ratio_by⟩
def d_curve_ratio_by : De := ⟨"curve_ratio_by", 697, ["curve", "points", "lines", "each"], ["curve", "points"], f_curve_ratio_by⟩
def d_curve_ratio : De := ⟨"curve_ratio", 698, ["curve", "point", "other", "third", "fourth", "points"], ["curve", "point", "other", "third", "fourth"], f_curve_ratio⟩
def d_value_by_curvework : De := ⟨"value_by_curvework", 678, ["curve", "point"], ["curve", "point"], f_value_by_curvework⟩
def d_is_on_by_v2 : De := ⟨"is_on_by", 679, ["curve", "point"], ["curve", "point"], f_is_on_by_v2⟩
def d_is_on_curve_v2 : De := ⟨"is_on_curve", 680, ["curve", "point"], ["curve", "point"], f_is_on_curve_v2⟩
def d_law_multiples_v2 : De := ⟨"_law_multiples", 699, ["one", "two", "three", "whole", "at", "spot"], ["one", "two", "three"], f_law_multiples_v2⟩
def d_law_double : De := ⟨"_law_double", 700, ["one", "two", "three", "four", "m", "n", "k", "s", "t"], ["one", "two", "three", "four"], f_law_double⟩
def d_law_line_v2 : De := ⟨"_law_line", 701, ["curve", "point", "other"], ["curve", "point", "other"], f_law_line_v2⟩
def d_law_curve_ratio : De := ⟨"_law_curve_ratio", 702, ["curve", "four", "eye", "rows", "each"], ["curve", "four", "eye"], f_law_curve_ratio⟩
def d_is_view_of : De := ⟨"is_view_of", 60, ["value", "row"], ["value"], f_is_view_of⟩
def d_check_view : De := ⟨"check_view", 61, ["view"], ["view"], f_check_view⟩
def d_turned_table : De := ⟨"turned_table", 63, ["rows", "row", "at"], ["rows"], f_turned_table⟩
def d_adjugate : De := ⟨"adjugate", 64, ["rows", "one", "two", "three"], ["rows"], f_adjugate⟩
def d_curve_of_table : De := ⟨"curve_of_table", 214, ["table", "slope", "at"], ["table"], f_curve_of_table⟩
def d_table_of : De := ⟨"table_of", 160, ["rows", "other", "columns", "column", "row"], ["rows", "other"], f_table_of⟩
def d_turned_by : De := ⟨"turned_by", 216, ["view", "curve", "back"], ["view", "curve"], f_turned_by⟩
def d_turned_curve : De := ⟨"turned_curve", 225, ["view", "curve"], ["view", "curve"], f_turned_curve⟩
def d_law_is_right_v5 : De := ⟨"_law_is_right", 703, ["pool", "curve", "points", "is_named", "a", "b", "c", "d", "told", "eye", "back", "each", "pair", "new", "view_there", "some"], ["pool", "curve", "points", "is_named"], f_law_is_right_v5⟩
def d_law_right_v37 : De := ⟨"_law_right", 704, ["pool", "lap", "curve", "points", "at"], ["pool"], f_law_right_v37⟩
def d_law_pool_v22 : De := ⟨"_law_pool", 705, ["script", "lap", "cell", "stirred", "each"], ["script", "lap"], f_law_pool_v22⟩
def d_law_v53 : De := ⟨"law", 706, ["script", "lap"], ["script"], f_law_v53⟩
def des : List De := [d_law_common_v2, d_law_plain_v5, d_law_below_v10, d_law_point_v8, d_law_dot_v3, d_law_cross_v2, d_law_block_v3, d_law_view_v10, d_law_adjugate_v2, d_law_table, d_law_times_v2, d_law_turned_curve, d_law_one_v10, d_law_turn_v4, d_law_round_v4, d_is_tuple_up_to, d_is_tuple_of, d_is_whole, d_are_whole, d_divisor_of, d_first_live, d_is_plain, d_is_curve_of, d_check_curve, d_is_triple, d_check_point, d_check_points, d_table_by, d_dot, d_cross, d_block, d_is_full_by, d_sign_of, d_is_empty_by, d_is_live_by, d_products_of, d_value_by_curvepointwork, d_are_on_by, d_check_on, d_are_unlike, d_check_three, d_plain_of, d_other_on, d_added, d_scaled, d_second_of, d_table_times, d_polar_by, d_second_by, d_line_to, d_place_for, d_minor, d_parts_by, d_fourth_by, d_curve_fourth_by, d_curve_fourth, d_law_same_v2, d_ratio_by, d_curve_ratio_by, d_curve_ratio, d_value_by_curvework, d_is_on_by_v2, d_is_on_curve_v2, d_law_multiples_v2, d_law_double, d_law_line_v2, d_law_curve_ratio, d_is_view_of, d_check_view, d_turned_table, d_adjugate, d_curve_of_table, d_table_of, d_turned_by, d_turned_curve, d_law_is_right_v5, d_law_right_v37, d_law_pool_v22, d_law_v53]
def stms : List Stmt := ([81, 82, 79, 87, 84, 83, 85, 88, 90, 91, 86, 92, 80, 89, 93, 10, 11, 9, 14, 15, 16, 18, 47, 48, 29, 31, 68, 35, 19, 20, 21, 37, 42, 43, 57, 38, 58, 60, 70, 12, 71, 17, 61, 23, 22, 63, 24, 44, 62, 64, 51, 52, 53, 55, 66, 73, 98, 54, 65, 72, 39, 41, 75, 94, 95, 96, 97, 30, 32, 25, 26, 36, 27, 45, 76, 99, 100, 78, 101] : List Nat).map top
def glb : List (Str × D) := [("SIZE", (.int 6)), ("PLACES", (.tup [(.tup [(.int 1), (.int 2)]), (.tup [(.int 2), (.int 0)]), (.tup [(.int 0), (.int 1)])]))]
def tabs : List (Str × List (Str × D)) := []
abbrev hk : PySem.W.Hook := He.hookX 3 (faOf des) (dOfs des stms) (tsOf tabs) [] (exOf glb true tabs)
def ob (s : PySem.W.SharedT) : He.AlX := He.obsX 3 (faOf des) (dOfs des stms) (tsOf tabs) [] (exOf glb true tabs) (HandSHeadRun.getT s)
theorem ob_eq (s : PySem.W.SharedT) : ob s = hk.obs s.abs := He.obsX_eq (HandSHeadRun.getT_eq s)
abbrev R : PySem.W.OpenRow := PySem.W.OpenLaw.row RW
theorem opt3 {α β γ δ : Type} {o : Option α} {f : α → β} {g : α → γ} {h : α → δ} {a : β} {b : γ} {c : δ} (h1 : o.map f = some a) (h2 : o.map g = some b) (h3 : o.map h = some c) : o.map (fun x => (f x, g x, h x)) = some (a, b, c) := by
  cases o with
  | none => cases h1
  | some x => rw [Option.map_some, Option.some.injEq] at h1 h2 h3; rw [Option.map_some, h1, h2, h3]
theorem run_a (w : World) : (HandSHeadRun.wholeF (fun p => HandSHeadRun.stepQ (HandSHeadRun.denQ HandSHeadRun.tabQ) p w) HandSHeadRun.fenceQ 20000 R.prog).map (fun x => HandSHeadRun.looksF R.prog x.1.heap x.2.abs) = some true := by
  kernel_rfl
theorem run_b (w : World) : (HandSHeadRun.wholeF (fun p => HandSHeadRun.stepQ (HandSHeadRun.denQ HandSHeadRun.tabQ) p w) HandSHeadRun.fenceQ 20000 R.prog).map (fun x => HandSHeadRun.seenQ (PySem.W.view R.prog [0, 101]) names (importedModules R.prog.main.body) (fun s => PySem.W.xlAt (PySem.W.view R.prog [0, 101]) [] s && PySem.W.recOk R.toRowW.records s) x.2.abs) = some (PySem.W.openGood (PySem.W.view R.prog [0, 101]) names) := by
  kernel_rfl
theorem run_c (w : World) : (HandSHeadRun.wholeF (fun p => HandSHeadRun.stepQ (HandSHeadRun.denQ HandSHeadRun.tabQ) p w) HandSHeadRun.fenceQ 20000 R.prog).map (fun x => ob x.2) = some (hk.val w) := by
  kernel_rfl
theorem run (w : World) : HandSHeadRun.RunEqI R (PySem.W.view R.prog [0, 101]) hk ob 20000 names w := by
  unfold HandSHeadRun.RunEqI
  exact opt3 (run_a w) (run_b w) (run_c w)
theorem okd : okOf des stms (tbOf des glb true tabs) = true := by kernel_rfl
theorem hT : des.map (fun d => TG d.id) = des.map (fun d => some d.fn) := rfl
end FV
set_option Elab.async false
set_option linter.all false
/-! Mt: whole numbers: what divides a row of them; the plain row. -/
namespace FV
/-- what divides them all -/
def Gg : List Int → Nat
  | [] => 0
  | x :: xs => Nat.gcd x.natAbs (Gg xs)
/-- the first that is not zero -/
def fl : List Int → Int
  | [] => 0
  | x :: xs => if x ≠ 0 then x else fl xs
def gstep (g x : Int) : Int := ((Nat.gcd g.natAbs x.natAbs : Nat) : Int)
theorem gfold : ∀ (ns : List Int) (m : Nat), ns.foldl gstep (m : Int) = ((Nat.gcd m (Gg ns) : Nat) : Int)
  | [], m => by simp [Gg]
  | x :: xs, m => by
    rw [List.foldl_cons]
    show xs.foldl gstep (((Nat.gcd (m : Int).natAbs x.natAbs : Nat)) : Int) = _
    rw [gfold xs, Int.natAbs_natCast, Nat.gcd_assoc]
    rfl
theorem gfold0 (ns : List Int) : ns.foldl gstep 0 = ((Gg ns : Nat) : Int) := by
  have := gfold ns 0
  rw [Nat.gcd_zero_left] at this
  exact this
theorem Gg_dvd : ∀ {ns : List Int} {x : Int}, x ∈ ns → ((Gg ns : Nat) : Int) ∣ x
  | y :: ns, x, h => by
    rw [← Int.dvd_natAbs, Int.natCast_dvd_natCast]
    rcases List.mem_cons.mp h with z | z
    · subst z; exact Nat.gcd_dvd_left _ _
    · have := Gg_dvd z
      rw [← Int.dvd_natAbs, Int.natCast_dvd_natCast] at this
      exact Nat.dvd_trans (Nat.gcd_dvd_right _ _) this
theorem Gg_mul (c : Int) : ∀ (ns : List Int), Gg (ns.map (c * ·)) = c.natAbs * Gg ns
  | [] => by simp [Gg]
  | x :: xs => by
    show Nat.gcd (c * x).natAbs (Gg (xs.map (c * ·))) = c.natAbs * Nat.gcd x.natAbs (Gg xs)
    rw [Gg_mul c xs, Int.natAbs_mul, Nat.gcd_mul_left]
theorem fl_mul {c : Int} (hc : c ≠ 0) : ∀ (ns : List Int), fl (ns.map (c * ·)) = c * fl ns
  | [] => by simp [fl]
  | x :: xs => by
    show (if c * x ≠ 0 then c * x else fl (xs.map (c * ·))) = c * (if x ≠ 0 then x else fl xs)
    rw [fl_mul hc xs]
    by_cases h : x = 0
    · simp [h]
    · simp [h, hc]
theorem fl_zero : ∀ {ns : List Int}, fl ns = 0 ↔ ∀ x ∈ ns, x = 0
  | [] => by simp [fl]
  | x :: xs => by
    show (if x ≠ 0 then x else fl xs) = 0 ↔ _
    by_cases h : x = 0
    · subst h; simp [fl_zero (ns := xs)]
    · simp [h]
theorem Gg_zero : ∀ {ns : List Int}, Gg ns = 0 ↔ ∀ x ∈ ns, x = 0
  | [] => by simp [Gg]
  | x :: xs => by
    show Nat.gcd x.natAbs (Gg xs) = 0 ↔ _
    rw [Nat.gcd_eq_zero_iff, Gg_zero (ns := xs)]
    simp
theorem Gg_fl {ns : List Int} (h : fl ns ≠ 0) : Gg ns ≠ 0 := fun z => h (fl_zero.mpr (Gg_zero.mp z))
/-- what all are divided by: the sign of the first live one -/
def dv (ns : List Int) : Int := if fl ns > 0 then (Gg ns : Int) else -(Gg ns : Int)
def pn (ns : List Int) : List Int := ns.map fun x => x.fdiv (dv ns)
theorem dv_ne {ns : List Int} (h : fl ns ≠ 0) : dv ns ≠ 0 := by
  have := Gg_fl h
  unfold dv
  split <;> omega
theorem dv_abs {ns : List Int} : (dv ns).natAbs = Gg ns := by
  unfold dv
  split <;> omega
theorem dv_dvd {ns : List Int} {x : Int} (h : x ∈ ns) : dv ns ∣ x := by
  have := Gg_dvd h
  unfold dv
  split
  · exact this
  · exact Int.neg_dvd.mpr this
theorem pn_mul {ns : List Int} (h : fl ns ≠ 0) : ns = (pn ns).map (dv ns * ·) := by
  unfold pn
  rw [List.map_map]
  conv => lhs; rw [← List.map_id ns]
  apply List.map_congr_left
  intro x hx
  obtain ⟨q, e⟩ := dv_dvd hx
  show x = dv ns * x.fdiv (dv ns)
  conv => rhs; rw [e]
  rw [Int.mul_fdiv_cancel_left _ (dv_ne h)]
  exact e
/-- plain: no common divisor, the first live one positive -/
def Prim (ns : List Int) : Prop := Gg ns = 1 ∧ fl ns > 0
theorem pn_prim {ns : List Int} (h : fl ns ≠ 0) : Prim (pn ns) := by
  have e := pn_mul h
  have g := Gg_mul (dv ns) (pn ns)
  have f := fl_mul (dv_ne h) (pn ns)
  rw [← e] at g f
  rw [dv_abs] at g
  have g0 := Gg_fl h
  refine ⟨?_, ?_⟩
  · have : Gg ns * 1 = Gg ns * Gg (pn ns) := by omega
    exact (Nat.eq_of_mul_eq_mul_left (by omega) this).symm
  · unfold dv at f
    split at f
    · rename_i hp
      have : 0 < (Gg ns : Int) * fl (pn ns) := by rw [← f]; exact hp
      exact Int.pos_of_mul_pos_right this (by omega)
    · rename_i hp
      have h1 : 0 < (Gg ns : Int) * fl (pn ns) := by
        have : fl ns < 0 := by omega
        rw [f, Int.neg_mul] at this
        omega
      exact Int.pos_of_mul_pos_right h1 (by omega)
theorem dv_prim {ns : List Int} (h : Prim ns) : dv ns = 1 := by
  unfold dv
  rw [if_pos h.2, h.1]
  rfl
theorem pn_of {ns : List Int} (h : Prim ns) : pn ns = ns := by
  unfold pn
  rw [dv_prim h]
  simp
theorem fl_of_prim {ns : List Int} (h : Prim ns) : fl ns ≠ 0 := by have := h.2; omega
theorem uniq {xs ys : List Int} {c e : Int} (hx : Prim xs) (hy : Prim ys) (hc : c ≠ 0) (he : e ≠ 0) (h : xs.map (c * ·) = ys.map (e * ·)) : xs = ys := by
  have g1 := Gg_mul c xs
  have g2 := Gg_mul e ys
  have f1 := fl_mul hc xs
  have f2 := fl_mul he ys
  rw [h, g2, hx.1, hy.1] at g1
  rw [h, f2] at f1
  have hx2 := hx.2
  have hy2 := hy.2
  have ce : c = e := by
    by_cases c0 : 0 < c
    · have : 0 < c * fl xs := Int.mul_pos c0 hx2
      rw [← f1] at this
      have e0 : 0 < e := Int.pos_of_mul_pos_left this hy2
      omega
    · have : c * fl xs < 0 := Int.mul_neg_of_neg_of_pos (by omega) hx2
      rw [← f1] at this
      have e0 : ¬ 0 < e := fun e0 => by
        have := Int.mul_pos e0 hy2
        omega
      omega
  subst ce
  have inj : Function.Injective fun x : Int => c * x := fun a b hab => Int.eq_of_mul_eq_mul_left hc hab
  exact (List.map_inj_right fun a b hab => inj hab).mp h
theorem pn_scale {xs : List Int} {c : Int} (hx : Prim xs) (hc : c ≠ 0) : pn (xs.map (c * ·)) = xs := by
  have hf : fl (xs.map (c * ·)) ≠ 0 := by
    rw [fl_mul hc]
    exact Int.mul_ne_zero hc (fl_of_prim hx)
  exact uniq (pn_prim hf) hx (dv_ne hf) hc (pn_mul hf).symm
theorem pn_smul {ns : List Int} {c : Int} (h : fl ns ≠ 0) (hc : c ≠ 0) : pn (ns.map (c * ·)) = pn ns := by
  have e := pn_mul h
  have : ns.map (c * ·) = (pn ns).map ((c * dv ns) * ·) := by
    conv => lhs; rw [e]
    rw [List.map_map]
    apply List.map_congr_left
    intro x _
    show c * (dv ns * x) = c * dv ns * x
    rw [Int.mul_assoc]
  rw [this]
  exact pn_scale (pn_prim h) (Int.mul_ne_zero hc (dv_ne h))
end FV
set_option Elab.async false
set_option linter.all false
set_option maxRecDepth 100000
/-! Sx: the evaluator, form by form (loops stay closed). -/
namespace FV
/-- no rule by computing alone: the checker would compute again -/
theorem nr {α : Sort _} {a b : α} (h : a = b) : a = b := h
def onO {α : Type} (o : Option α) (p : α → Prop) : Prop := match o with
  | some a => p a
  | none => False
def cut (x : D) (l h : Option Int) (S : Store) (k : D → Prop) : Prop := match x with
        | .tup ds => k (.tup (slice ds l h))
        | .lst ds => k (.lst (slice ds l h))
        | .frz ds => k (.lst (slice ds l h))
        | .ref c => onO (cl S c) fun ds => k (.lst (slice ds l h))
        | _ => False
def revD (x : D) (k : D → Prop) : Prop := match x with
        | .tup ds => k (.tup ds.reverse)
        | .lst ds => k (.lst ds.reverse)
        | _ => False
def blk (C : Hd) (X : D → Store → Prop) (b : List Sm) : Env → Store → Ends → Prop := exs C X b
def tst (C : Hd) (X : D → Store → Prop) (c : E) : Env → Store → (Bool → Store → Prop) → Prop := fun σ S k => ev C X c true σ S (asB k)
def lcOne (C : Hd) (X : D → Store → Prop) (own : List Nat) (p : Pt) (cond : Option E) (elt : E) (σ : Env) : D → Store → (List D → Store → Prop) → Prop := fun y S2 k2 => (match bindP p y (wp0 σ own) with
        | some σ' => evt C X cond σ' S2 fun b S3 => brk b (ev C X elt false σ' S3 fun z S4 => k2 [z] S4) (k2 [] S3)
        | none => False)
def lcTwo (C : Hd) (X : D → Store → Prop) (own : List Nat) (p : Pt) (cond : Option E) (own2 : List Nat) (p2 : Pt) (it2 : E) (cond2 : Option E) (elt : E) (σ : Env) : D → Store → (List D → Store → Prop) → Prop := fun y S2 k2 => (match bindP p y (wp0 σ own) with
        | some σ' => evt C X cond σ' S2 fun b S3 => brk b (ev C X it2 false σ' S3 fun x2 S4 => itm x2 S4 fun g2 ds2 => ds2.length ≤ 1000 ∧ forC g2 (lcOne C X own2 p2 cond2 elt σ') ds2 S4 k2) (k2 [] S3)
        | none => False)
/-! ### rows of whole numbers -/
theorem ints_mapT : ∀ {ns : List Int}, ints? (ns.map D.int) = some ns
  | [] => rfl
  | n :: ns => by
    show (ints? (ns.map D.int)).map (n :: ·) = _
    rw [ints_mapT]; rfl
theorem eqDs_ints : ∀ {xs ys : List Int}, eqDs (xs.map D.int) (ys.map D.int) = decide (xs = ys)
  | [], [] => rfl
  | [], _ :: _ => by simp [eqDs]
  | _ :: _, [] => by simp [eqDs]
  | x :: xs, y :: ys => by
    simp only [List.map_cons, eqDs, eqD, eqDs_ints]
    by_cases h : x = y <;> by_cases g : xs = ys <;> simp [h, g]
theorem pures_ints {n : Nat} : ∀ {xs : List Int}, pures? n (xs.map D.int) = true
  | [] => rfl
  | x :: xs => by
    show (pure? n (.int x) && pures? n (xs.map D.int)) = true
    rw [pures_ints]
    cases n <;> rfl
def ti (ns : List Int) : D := .tup (ns.map .int)
theorem pure_ti {ns : List Int} : pure? DEEP (ti ns) = true := pures_ints
theorem eq_ti {xs ys : List Int} : eqD (ti xs) (ti ys) = decide (xs = ys) := eqDs_ints
theorem ti1 {a : Int} : D.tup [.int a] = ti [a] := nr rfl
theorem ti2 {a b : Int} : D.tup [.int a, .int b] = ti [a, b] := nr rfl
theorem ti3 {a b c : Int} : D.tup [.int a, .int b, .int c] = ti [a, b, c] := nr rfl
theorem ti4 {a b c d : Int} : D.tup [.int a, .int b, .int c, .int d] = ti [a, b, c, d] := nr rfl
theorem ti5 {a b c d e : Int} : D.tup [.int a, .int b, .int c, .int d, .int e] = ti [a, b, c, d, e] := nr rfl
theorem ti6 {a b c d e f : Int} : D.tup [.int a, .int b, .int c, .int d, .int e, .int f] = ti [a, b, c, d, e, f] := nr rfl
theorem ti_map {ns : List Int} : D.tup (ns.map D.int) = ti ns := nr rfl
theorem nth_lit {ds : List D} {i : Nat} {d : D} (h : ds[i]? = some d) : nth ds (i : Int) = some d := by
  show L2.atI ds (i : Int) = _
  unfold L2.atI
  have hi := (List.getElem?_eq_some_iff.mp h).1
  rw [ixN_in (by omega) (by omega)]
  exact h
section
variable {C : Hd} {X : D → Store → Prop} {t : Bool} {σ : Env} {S : Store} {k : D → Store → Prop}
theorem blk_app {b : List Sm} {N : Ends} : blk C X b σ S N = exs C X b σ S N := by unfold blk <;> rfl
theorem tst_app {c : E} {k : Bool → Store → Prop} : tst C X c σ S k = ev C X c true σ S (asB k) := by unfold tst <;> rfl
theorem lc_app' {own : List Nat} {p : Pt} {cond : Option E} {elt : E} {y : D} {k2 : List D → Store → Prop} : lcOne C X own p cond elt σ y S k2 = onO (bindP p y (wp0 σ own)) fun σ' => evt C X cond σ' S fun b S3 => brk b (ev C X elt false σ' S3 fun z S4 => k2 [z] S4) (k2 [] S3) := by unfold lcOne; cases bindP p y (wp0 σ own) <;> rfl
theorem fw_nil {body : Env → Store → Ends → Prop} {p : Pt} {N : Ends} : forW none body p N [] σ S = N.nx σ S := nr rfl
theorem fw_cons {body : Env → Store → Ends → Prop} {p : Pt} {N : Ends} {x : D} {xs : List D} : forW none body p N (x :: xs) σ S = onO (bindP p x σ) fun σ' => body σ' S { N with nx := fun σ2 S2 => forW none body p N xs σ2 S2, ct := fun σ2 S2 => forW none body p N xs σ2 S2, bk := N.nx } := by
  simp only [forW, gdo]
  cases bindP p x σ <;> rfl
theorem ww_s {c : Env → Store → (Bool → Store → Prop) → Prop} {body : Env → Store → Ends → Prop} {N : Ends} {n : Nat} : whlW c body N (n + 1) σ S = c σ S fun b S1 => brk b (body σ S1 { N with nx := fun σ2 S2 => whlW c body N n σ2 S2, ct := fun σ2 S2 => whlW c body N n σ2 S2, bk := N.nx }) (N.nx σ S1) := nr rfl
theorem ev_v0 {d : D} {r : Env} : ev C X (.var 0) t (some d :: r) S k = (tv t d S k) := by simp only [ev] <;> rfl
theorem ev_v1 {x0 : Option D} {d : D} {r : Env} : ev C X (.var 1) t (x0 :: some d :: r) S k = (tv t d S k) := by simp only [ev] <;> rfl
theorem ev_v2 {x0 x1 : Option D} {d : D} {r : Env} : ev C X (.var 2) t (x0 :: x1 :: some d :: r) S k = (tv t d S k) := by simp only [ev] <;> rfl
theorem ev_v3 {x0 x1 x2 : Option D} {d : D} {r : Env} : ev C X (.var 3) t (x0 :: x1 :: x2 :: some d :: r) S k = (tv t d S k) := by simp only [ev] <;> rfl
theorem ev_v4 {x0 x1 x2 x3 : Option D} {d : D} {r : Env} : ev C X (.var 4) t (x0 :: x1 :: x2 :: x3 :: some d :: r) S k = (tv t d S k) := by simp only [ev] <;> rfl
theorem ev_v5 {x0 x1 x2 x3 x4 : Option D} {d : D} {r : Env} : ev C X (.var 5) t (x0 :: x1 :: x2 :: x3 :: x4 :: some d :: r) S k = (tv t d S k) := by simp only [ev] <;> rfl
theorem ev_v6 {x0 x1 x2 x3 x4 x5 : Option D} {d : D} {r : Env} : ev C X (.var 6) t (x0 :: x1 :: x2 :: x3 :: x4 :: x5 :: some d :: r) S k = (tv t d S k) := by simp only [ev] <;> rfl
theorem ev_v7 {x0 x1 x2 x3 x4 x5 x6 : Option D} {d : D} {r : Env} : ev C X (.var 7) t (x0 :: x1 :: x2 :: x3 :: x4 :: x5 :: x6 :: some d :: r) S k = (tv t d S k) := by simp only [ev] <;> rfl
theorem ev_v8 {x0 x1 x2 x3 x4 x5 x6 x7 : Option D} {d : D} {r : Env} : ev C X (.var 8) t (x0 :: x1 :: x2 :: x3 :: x4 :: x5 :: x6 :: x7 :: some d :: r) S k = (tv t d S k) := by simp only [ev] <;> rfl
theorem ev_v9 {x0 x1 x2 x3 x4 x5 x6 x7 x8 : Option D} {d : D} {r : Env} : ev C X (.var 9) t (x0 :: x1 :: x2 :: x3 :: x4 :: x5 :: x6 :: x7 :: x8 :: some d :: r) S k = (tv t d S k) := by simp only [ev] <;> rfl
theorem ev_v10 {x0 x1 x2 x3 x4 x5 x6 x7 x8 x9 : Option D} {d : D} {r : Env} : ev C X (.var 10) t (x0 :: x1 :: x2 :: x3 :: x4 :: x5 :: x6 :: x7 :: x8 :: x9 :: some d :: r) S k = (tv t d S k) := by simp only [ev] <;> rfl
theorem ev_v11 {x0 x1 x2 x3 x4 x5 x6 x7 x8 x9 x10 : Option D} {d : D} {r : Env} : ev C X (.var 11) t (x0 :: x1 :: x2 :: x3 :: x4 :: x5 :: x6 :: x7 :: x8 :: x9 :: x10 :: some d :: r) S k = (tv t d S k) := by simp only [ev] <;> rfl
theorem ev_v12 {x0 x1 x2 x3 x4 x5 x6 x7 x8 x9 x10 x11 : Option D} {d : D} {r : Env} : ev C X (.var 12) t (x0 :: x1 :: x2 :: x3 :: x4 :: x5 :: x6 :: x7 :: x8 :: x9 :: x10 :: x11 :: some d :: r) S k = (tv t d S k) := by simp only [ev] <;> rfl
theorem ev_v13 {x0 x1 x2 x3 x4 x5 x6 x7 x8 x9 x10 x11 x12 : Option D} {d : D} {r : Env} : ev C X (.var 13) t (x0 :: x1 :: x2 :: x3 :: x4 :: x5 :: x6 :: x7 :: x8 :: x9 :: x10 :: x11 :: x12 :: some d :: r) S k = (tv t d S k) := by simp only [ev] <;> rfl
theorem ev_v14 {x0 x1 x2 x3 x4 x5 x6 x7 x8 x9 x10 x11 x12 x13 : Option D} {d : D} {r : Env} : ev C X (.var 14) t (x0 :: x1 :: x2 :: x3 :: x4 :: x5 :: x6 :: x7 :: x8 :: x9 :: x10 :: x11 :: x12 :: x13 :: some d :: r) S k = (tv t d S k) := by simp only [ev] <;> rfl
theorem ev_v15 {x0 x1 x2 x3 x4 x5 x6 x7 x8 x9 x10 x11 x12 x13 x14 : Option D} {d : D} {r : Env} : ev C X (.var 15) t (x0 :: x1 :: x2 :: x3 :: x4 :: x5 :: x6 :: x7 :: x8 :: x9 :: x10 :: x11 :: x12 :: x13 :: x14 :: some d :: r) S k = (tv t d S k) := by simp only [ev] <;> rfl
theorem ev_v16 {x0 x1 x2 x3 x4 x5 x6 x7 x8 x9 x10 x11 x12 x13 x14 x15 : Option D} {d : D} {r : Env} : ev C X (.var 16) t (x0 :: x1 :: x2 :: x3 :: x4 :: x5 :: x6 :: x7 :: x8 :: x9 :: x10 :: x11 :: x12 :: x13 :: x14 :: x15 :: some d :: r) S k = (tv t d S k) := by simp only [ev] <;> rfl
theorem ev_v17 {x0 x1 x2 x3 x4 x5 x6 x7 x8 x9 x10 x11 x12 x13 x14 x15 x16 : Option D} {d : D} {r : Env} : ev C X (.var 17) t (x0 :: x1 :: x2 :: x3 :: x4 :: x5 :: x6 :: x7 :: x8 :: x9 :: x10 :: x11 :: x12 :: x13 :: x14 :: x15 :: x16 :: some d :: r) S k = (tv t d S k) := by simp only [ev] <;> rfl
theorem ev_v18 {x0 x1 x2 x3 x4 x5 x6 x7 x8 x9 x10 x11 x12 x13 x14 x15 x16 x17 : Option D} {d : D} {r : Env} : ev C X (.var 18) t (x0 :: x1 :: x2 :: x3 :: x4 :: x5 :: x6 :: x7 :: x8 :: x9 :: x10 :: x11 :: x12 :: x13 :: x14 :: x15 :: x16 :: x17 :: some d :: r) S k = (tv t d S k) := by simp only [ev] <;> rfl
theorem ev_v19 {x0 x1 x2 x3 x4 x5 x6 x7 x8 x9 x10 x11 x12 x13 x14 x15 x16 x17 x18 : Option D} {d : D} {r : Env} : ev C X (.var 19) t (x0 :: x1 :: x2 :: x3 :: x4 :: x5 :: x6 :: x7 :: x8 :: x9 :: x10 :: x11 :: x12 :: x13 :: x14 :: x15 :: x16 :: x17 :: x18 :: some d :: r) S k = (tv t d S k) := by simp only [ev] <;> rfl
theorem ev_v20 {x0 x1 x2 x3 x4 x5 x6 x7 x8 x9 x10 x11 x12 x13 x14 x15 x16 x17 x18 x19 : Option D} {d : D} {r : Env} : ev C X (.var 20) t (x0 :: x1 :: x2 :: x3 :: x4 :: x5 :: x6 :: x7 :: x8 :: x9 :: x10 :: x11 :: x12 :: x13 :: x14 :: x15 :: x16 :: x17 :: x18 :: x19 :: some d :: r) S k = (tv t d S k) := by simp only [ev] <;> rfl
theorem ev_v21 {x0 x1 x2 x3 x4 x5 x6 x7 x8 x9 x10 x11 x12 x13 x14 x15 x16 x17 x18 x19 x20 : Option D} {d : D} {r : Env} : ev C X (.var 21) t (x0 :: x1 :: x2 :: x3 :: x4 :: x5 :: x6 :: x7 :: x8 :: x9 :: x10 :: x11 :: x12 :: x13 :: x14 :: x15 :: x16 :: x17 :: x18 :: x19 :: x20 :: some d :: r) S k = (tv t d S k) := by simp only [ev] <;> rfl
theorem ev_v22 {x0 x1 x2 x3 x4 x5 x6 x7 x8 x9 x10 x11 x12 x13 x14 x15 x16 x17 x18 x19 x20 x21 : Option D} {d : D} {r : Env} : ev C X (.var 22) t (x0 :: x1 :: x2 :: x3 :: x4 :: x5 :: x6 :: x7 :: x8 :: x9 :: x10 :: x11 :: x12 :: x13 :: x14 :: x15 :: x16 :: x17 :: x18 :: x19 :: x20 :: x21 :: some d :: r) S k = (tv t d S k) := by simp only [ev] <;> rfl
theorem ev_v23 {x0 x1 x2 x3 x4 x5 x6 x7 x8 x9 x10 x11 x12 x13 x14 x15 x16 x17 x18 x19 x20 x21 x22 : Option D} {d : D} {r : Env} : ev C X (.var 23) t (x0 :: x1 :: x2 :: x3 :: x4 :: x5 :: x6 :: x7 :: x8 :: x9 :: x10 :: x11 :: x12 :: x13 :: x14 :: x15 :: x16 :: x17 :: x18 :: x19 :: x20 :: x21 :: x22 :: some d :: r) S k = (tv t d S k) := by simp only [ev] <;> rfl
theorem ev_cst {d : D} : ev C X (.cst d) t σ S k = (tv t d S k) := by simp only [ev] <;> rfl
theorem ev_glb {x : Str} {d : D} : ev C X (.glb x d) t σ S k = (tv t d S k) := by simp only [ev] <;> rfl
theorem ev_bin {op : Bop} {a b : E} : ev C X (.bin op a b) t σ S k = (ev C X a false σ S fun x S1 => ev C X b false σ S1 fun y S2 => bop op x y fun z => tv t z S2 k) := by simp only [ev] <;> rfl
theorem ev_neg {a : E} : ev C X (.neg a) t σ S k = (ev C X a false σ S (asI fun i S1 => tv t (.int (-i)) S1 k)) := by simp only [ev] <;> rfl
theorem ev_not {a : E} : ev C X (.not a) t σ S k = (ev C X a t σ S (asB fun b S1 => k (.bl (!b)) S1)) := by simp only [ev] <;> rfl
theorem ev_cmp {op : Cop} {a b : E} : ev C X (.cmp op a b) t σ S k = (ev C X a false σ S fun x S1 => ev C X b false σ S1 fun y S2 => cop op x y fun z => k (.bl z) S2) := by simp only [ev] <;> rfl
theorem ev_cmp2 {op op' : Cop} {a b c : E} : ev C X (.cmp2 op op' a b c) t σ S k = (ev C X a false σ S fun x S1 => ev C X b false σ S1 fun y S2 => cop op x y fun z => brk z (ev C X c false σ S2 fun w S3 => cop op' y w fun z' => k (.bl z') S3) (k (.bl false) S2)) := by simp only [ev] <;> rfl
theorem ev_and {a b : E} : ev C X (.and a b) t σ S k = (ev C X a t σ S (asB fun c S1 => brk c (ev C X b t σ S1 k) (k (.bl false) S1))) := by simp only [ev] <;> rfl
theorem ev_or {a b : E} : ev C X (.or a b) t σ S k = (ev C X a t σ S (asB fun c S1 => brk c (k (.bl true) S1) (ev C X b t σ S1 k))) := by simp only [ev] <;> rfl
theorem ev_ite {c a b : E} : ev C X (.ite c a b) t σ S k = (ev C X c true σ S (asB fun z S1 => brk z (ev C X a false σ S1 fun x S2 => tv t x S2 k) (ev C X b false σ S1 fun x S2 => tv t x S2 k))) := by simp only [ev] <;> rfl
theorem ev_tup {es : List E} : ev C X (.tup es) t σ S k = (evs C X es σ S fun ds S1 => tv t (.tup ds) S1 k) := by simp only [ev] <;> rfl
theorem ev_lst {fr : Bool} {es : List E} : ev C X (.lst fr es) t σ S k = (evs C X es σ S fun ds S1 => mk fr ds S1 fun d S2 => tv t d S2 k) := by simp only [ev] <;> rfl
theorem ev_idx {a i : E} : ev C X (.idx a i) t σ S k = (ev C X a false σ S fun x S1 => ev C X i false σ S1 (asI fun j S2 => seq x S2 fun ds => onO (nth ds j) fun d => tv t d S2 k)) := by
  simp only [ev]
  congr 1; funext x S1; congr 1; congr 1; funext j S2; congr 1; funext ds
  cases nth ds j <;> rfl
theorem ev_slc {a : E} {lo hi : Option E} : ev C X (.slc a lo hi) t σ S k = (ev C X a false σ S fun x S1 => evo C X lo σ S1 fun l S2 => evo C X hi σ S2 fun h S3 => cut x l h S3 fun d => tv t d S3 k) := by
  simp only [ev, cut]
  congr 1; funext x S1; congr 1; funext l S2; congr 1; funext h S3
  cases x <;> try rfl
  rename_i c
  simp only
  cases cl S3 c <;> rfl
theorem ev_call {f : Nat} {es : List E} : ev C X (.call f es) t σ S k = (evs C X es σ S fun ds S1 => C f ds S1 (fun d S2 => tv t d S2 k) X) := by simp only [ev] <;> rfl
theorem ev_callk {f : Nat} {ord : List Nat} {es : List E} : ev C X (.callk f ord es) t σ S k = (evs C X es σ S fun ds S1 => C f (pick ord ds) S1 (fun d S2 => tv t d S2 k) X) := by simp only [ev] <;> rfl
theorem ev_bi {b : Bi} {es : List E} : ev C X (.bi b es) t σ S k = (evs C X es σ S fun ds S1 => bfn b ds S1 fun d => tv t d S1 k) := by simp only [ev] <;> rfl
theorem ev_isi {e : E} {ty : Ty} : ev C X (.isi e ty) t σ S k = (ev C X e false σ S fun x S1 => onO (tyIs ty x) fun b => k (.bl b) S1) := by
  simp only [ev]
  congr 1; funext x S1
  cases tyIs ty x <;> rfl
theorem ev_isi2 {e : E} {ts : List Ty} : ev C X (.isi2 e ts) t σ S k = (ev C X e false σ S fun x S1 => onO (tyAny ts x) fun b => k (.bl b) S1) := by
  simp only [ev]
  congr 1; funext x S1
  cases tyAny ts x <;> rfl
theorem ev_lc {fr : Bool} {own : List Nat} {p : Pt} {it : E} {cond : Option E} {elt : E} : ev C X (.lc fr own p it cond elt) t σ S k = (ev C X it false σ S fun x S1 => itm x S1 fun g ds => ds.length ≤ SZ ∧ forC g (lcOne C X own p cond elt σ) ds S1 fun zs S5 => mk fr zs S5 fun d S6 => tv t d S6 k) := nr rfl
theorem ev_lc2 {fr : Bool} {own own2 : List Nat} {p p2 : Pt} {it it2 : E} {cond cond2 : Option E} {elt : E} : ev C X (.lc2 fr own p it cond own2 p2 it2 cond2 elt) t σ S k = (ev C X it false σ S fun x S1 => itm x S1 fun g ds => ds.length ≤ 1000 ∧ forC g (lcTwo C X own p cond own2 p2 it2 cond2 elt σ) ds S1 fun zs S5 => mk fr zs S5 fun d S6 => tv t d S6 k) := nr rfl
theorem ev_tcat {fl : List Bool} {es : List E} : ev C X (.tcat fl es) t σ S k = (evss C X es fl σ S fun zs S1 => zs.length ≤ SZ ∧ tv t (.tup zs) S1 k) := by simp only [ev] <;> rfl
theorem ev_rng {a b : E} : ev C X (.rng a b) t σ S k = (ev C X a false σ S (asI fun i S1 => ev C X b false σ S1 (asI fun j S2 => (i.natAbs < 2 ^ 60 ∧ j.natAbs < 2 ^ 60) ∧ k (.itr (rngI i (j - i).toNat)) S2))) := by simp only [ev] <;> rfl
theorem ev_rng1 {b : E} : ev C X (.rng1 b) t σ S k = (ev C X b false σ S (asI fun j S2 => j.natAbs < 2 ^ 60 ∧ k (.itr (rngI 0 j.toNat)) S2)) := by simp only [ev] <;> rfl
theorem ev_zip {a b : E} : ev C X (.zip a b) t σ S k = (ev C X a false σ S fun x S1 => ev C X b false σ S1 fun y S2 => zpS x y S2 fun d => k d S2) := by simp only [ev] <;> rfl
theorem ev_enm {a : E} : ev C X (.enm a) t σ S k = (ev C X a false σ S fun x S1 => enS x S1 (enmD 0) fun d => k d S1) := by simp only [ev] <;> rfl
theorem ev_cnt {es : List E} {e : E} : ev C X (.cnt es e) t σ S k = (evs C X es σ S fun ds S1 => ev C X e false σ S1 fun y S2 => cntD ds y fun n => tv t (.int n) S2 k) := by simp only [ev] <;> rfl
theorem ev_nset {a : E} : ev C X (.nset a) t σ S k = (ev C X a false σ S fun x S1 => setN x S1 fun n => tv t (.int n) S1 k) := by simp only [ev] <;> rfl
theorem ev_rngd {es : List E} : ev C X (.rngd es) t σ S k = (evs C X es σ S fun ds S1 => dn3 ds fun i j => k (.itr (rngD i (i - j).toNat)) S1) := by simp only [ev] <;> rfl
theorem ev_eqm {neg : Bool} {a b : E} : ev C X (.eqm neg a b) t σ S k = (ev C X a false σ S fun x S1 => ev C X b false σ S1 fun y S2 => eqmD neg x y S2 fun z => k (.bl z) S2) := by simp only [ev] <;> rfl
theorem ev_cntl {a e : E} : ev C X (.cntl a e) t σ S k = (ev C X a false σ S fun x S1 => cntL x fun ds => ev C X e false σ S1 fun y S2 => cntD ds y fun n => tv t (.int n) S2 k) := by simp only [ev] <;> rfl
theorem ev_lstf {a : E} : ev C X (.lstf a) t σ S k = (ev C X a false σ S fun x S1 => seq x S1 fun ds => k (.ref S1.length) (S1 ++ [ds])) := by simp only [ev] <;> rfl
theorem ev_lrg1 {tp : Bool} {b : E} : ev C X (.lrg1 tp b) t σ S k = (ev C X b false σ S (asI fun j S2 => j.natAbs ≤ 100000 ∧ k (mkR tp (rngI 0 j.toNat)) S2)) := by simp only [ev] <;> rfl
theorem ev_lrg2 {tp : Bool} {a b : E} : ev C X (.lrg2 tp a b) t σ S k = (ev C X a false σ S (asI fun i S1 => ev C X b false σ S1 (asI fun j S2 => (i.natAbs ≤ 100000 ∧ j.natAbs ≤ 100000) ∧ k (mkR tp (rngI i (j - i).toNat)) S2))) := by simp only [ev] <;> rfl
theorem ev_dct  : ev C X .dct t σ S k = (tv t .dic S k) := by simp only [ev] <;> rfl
theorem ev_tget {x : Str} {kvs : List (Str × D)} {e : E} : ev C X (.tget x kvs e) t σ S k = (ev C X e false σ S fun y S1 => tgt kvs y fun v => tv t v S1 k) := by simp only [ev] <;> rfl
theorem ev_tin {ng : Bool} {x : Str} {kvs : List (Str × D)} {e : E} : ev C X (.tin ng x kvs e) t σ S k = (ev C X e false σ S fun y S1 => tisin ng kvs y fun b => tv t (.bl b) S1 k) := by simp only [ev] <;> rfl
theorem ev_tls {x : Str} {kvs : List (Str × D)} : ev C X (.tls x kvs) t σ S k = (kvs.length ≤ 1000 ∧ tv t (.lst (kvs.map fun p => .str p.1)) S k) := by simp only [ev] <;> rfl
theorem ev_dsp {kvs : List (Str × Str)} : ev C X (.dsp kvs) t σ S k = (tv t (.dss kvs) S k) := by simp only [ev] <;> rfl
theorem ev_dget {a e : E} : ev C X (.dget a e) t σ S k = (ev C X a false σ S fun x S1 => ev C X e false σ S1 fun y S2 => dsgt x y fun v => tv t v S2 k) := by simp only [ev] <;> rfl
theorem ev_rpt {a b : E} : ev C X (.rpt a b) t σ S k = (ev C X a false σ S fun x S1 => ev C X b false σ S1 fun y S2 => rptD x y fun zs => k (.ref S2.length) (S2 ++ [zs])) := by simp only [ev] <;> rfl
theorem ev_dnew  : ev C X .dnew t σ S k = (k (.dre S.length) (S ++ [[]])) := by simp only [ev] <;> rfl
theorem ev_dlen {a : E} : ev C X (.dlen a) t σ S k = (ev C X a false σ S fun x S1 => onDre x fun l => onO (cl S1 l) fun ds => tv t (.int ds.length) S1 k) := by
  simp only [ev]
  congr 1; funext x S1; congr 1; funext l
  cases cl S1 l <;> rfl
theorem ev_dsrt {a : E} : ev C X (.dsrt a) t σ S k = (ev C X a false σ S fun x S1 => onDre x fun l => onO (cl S1 l) fun ds => rowsS ds fun zs => k (.ref S1.length) (S1 ++ [zs])) := by
  simp only [ev]
  congr 1; funext x S1; congr 1; funext l
  cases cl S1 l <;> rfl
theorem ev_pop {a i : E} : ev C X (.pop a i) t σ S k = (ev C X a false σ S fun x S1 => onRef x fun l => ev C X i false σ S1 (asI fun j S2 => onO (cl S2 l) fun ds => popD ds j fun d ds2 => tv t d (S2.set l ds2) k)) := by
  simp only [ev]
  congr 1; funext x S1; congr 1; funext l; congr 1; congr 1; funext j S2
  cases cl S2 l <;> rfl
theorem ev_fnv {x : Str} : ev C X (.fnv x) t σ S k = (k (.fn x) S) := by simp only [ev] <;> rfl
theorem ev_callv {tbl : List (Str × Nat)} {a : E} {es : List E} : ev C X (.callv tbl a es) t σ S k = (ev C X a false σ S fun x S1 => onFn tbl x fun f => evs C X es σ S1 fun ds S2 => C f ds S2 (fun d S3 => tv t d S3 k) X) := by simp only [ev] <;> rfl
theorem ev_cat {fr : Bool} {a b : E} : ev C X (.cat fr a b) t σ S k = (ev C X a false σ S fun x S1 => ev C X b false σ S1 fun y S2 => catD x y S2 fun zs => mk fr zs S2 k) := by simp only [ev] <;> rfl
theorem ev_isn {neg : Bool} {a b : E} : ev C X (.isn neg a b) t σ S k = (ev C X a false σ S fun x S1 => ev C X b false σ S1 fun y S2 => isnD neg x y S2 fun z => k (.bl z) S2) := by simp only [ev] <;> rfl
theorem ev_rev {a : E} : ev C X (.rev a) t σ S k = (ev C X a false σ S fun x S1 => revD x fun d => tv t d S1 k) := by
  first
    | (simp only [ev, revD]; done)
    | (simp only [ev, revD]; congr 1 <;> (funext x S1; cases x <;> rfl))
theorem ev_app {a e : E} : ev C X (.app a e) t σ S k = (ev C X a false σ S fun x S1 => onRef x fun l => ev C X e false σ S1 fun y S2 => onO (cl S2 l) fun ds => ds.length < SZ ∧ k .non (S2.set l (ds ++ [y]))) := by
  simp only [ev]
  congr 1; funext x S1; congr 1; funext l; congr 1; funext y S2
  cases cl S2 l <;> rfl
theorem evs_nil {k : List D → Store → Prop} : evs C X [] σ S k = (k [] S) := by simp only [evs]
theorem evs_cons {e : E} {es : List E} {k : List D → Store → Prop} : evs C X (e :: es) σ S k = (ev C X e false σ S fun d S1 => evs C X es σ S1 fun ds S2 => k (d :: ds) S2) := by simp only [evs]
theorem evss_nil {k : List D → Store → Prop} : evss C X [] [] σ S k = (k [] S) := by simp only [evss]
theorem evss_f {e : E} {es : List E} {fl : List Bool} {k : List D → Store → Prop} : evss C X (e :: es) (false :: fl) σ S k = (ev C X e false σ S fun d S1 => evss C X es fl σ S1 fun ds S2 => k (d :: ds) S2) := by simp only [evss]
theorem evss_t {e : E} {es : List E} {fl : List Bool} {k : List D → Store → Prop} : evss C X (e :: es) (true :: fl) σ S k = (ev C X e false σ S fun d S1 => spr d fun xs => evss C X es fl σ S1 fun ds S2 => k (xs ++ ds) S2) := by simp only [evss]
theorem spr_tup {ds : List D} {p : List D → Prop} : spr (.tup ds) p = (p ds) := nr rfl
theorem spr_lst {ds : List D} {p : List D → Prop} : spr (.lst ds) p = (p ds) := nr rfl
theorem spr_frz {ds : List D} {p : List D → Prop} : spr (.frz ds) p = (p ds) := nr rfl
theorem spr_ti {ns : List Int} {p : List D → Prop} : spr (ti ns) p = (p (ns.map D.int)) := nr rfl
theorem evo_n {k : Option Int → Store → Prop} : evo C X none σ S k = (k none S) := by simp only [evo]
theorem evo_s {e : E} {k : Option Int → Store → Prop} : evo C X (some e) σ S k = (ev C X e false σ S (asI fun i S1 => k (some i) S1)) := by simp only [evo]
theorem evt_n {k : Bool → Store → Prop} : evt C X none σ S k = (k true S) := by simp only [evt]
theorem evt_s {e : E} {k : Bool → Store → Prop} : evt C X (some e) σ S k = (ev C X e true σ S (asB k)) := by simp only [evt]
theorem ex_set {g : Tg} {e : E} {N : Ends} : ex C X (.set g e) σ S N = (ev C X e false σ S fun d S1 => asg C X g d σ S1 N.nx) := by simp only [ex] <;> rfl
theorem ex_par {is : List Nat} {es : List E} {N : Ends} : ex C X (.par is es) σ S N = (evs C X es σ S fun ds S1 => N.nx (sts is ds σ) S1) := by simp only [ex] <;> rfl
theorem ex_expr {e : E} {N : Ends} : ex C X (.expr e) σ S N = (ev C X e false σ S fun _ S1 => N.nx σ S1) := by simp only [ex] <;> rfl
theorem ex_ret {e : E} {N : Ends} : ex C X (.ret e) σ S N = (ev C X e false σ S N.rt) := by simp only [ex] <;> rfl
theorem ex_retN  {N : Ends} : ex C X .retN σ S N = (N.rt .non S) := by simp only [ex] <;> rfl
theorem ex_iff {c : E} {a b : List Sm} {N : Ends} : ex C X (.iff c a b) σ S N = (ev C X c true σ S (asB fun z S1 => brk z (exs C X a σ S1 N) (exs C X b σ S1 N))) := by simp only [ex] <;> rfl
theorem ex_for {p : Pt} {it : E} {body : List Sm} {N : Ends} : ex C X (.for_ p it body) σ S N = (ev C X it false σ S fun x S1 => itm x S1 fun g ds => forW g (blk C X body) p N ds σ S1) := nr rfl
theorem ex_whl {c : E} {body : List Sm} {N : Ends} : ex C X (.whl c body) σ S N = (∃ n, whlW (tst C X c) (blk C X body) N n σ S) := nr rfl
theorem ex_raise  {N : Ends} : ex C X .raise σ S N = (False) := by simp only [ex] <;> rfl
theorem ex_pass  {N : Ends} : ex C X .pass σ S N = (N.nx σ S) := by simp only [ex] <;> rfl
theorem ex_brk  {N : Ends} : ex C X .brk σ S N = (N.bk σ S) := by simp only [ex] <;> rfl
theorem ex_cont  {N : Ends} : ex C X .cont σ S N = (N.ct σ S) := by simp only [ex] <;> rfl
theorem exs_nil {N : Ends} : exs C X [] σ S N = (N.nx σ S) := by simp only [exs]
theorem exs_cons {s : Sm} {r : List Sm} {N : Ends} : exs C X (s :: r) σ S N = (ex C X s σ S { N with nx := fun σ1 S1 => exs C X r σ1 S1 N }) := by simp only [exs]
theorem tvf {d : D} : tv false d S k = (k d S) := nr rfl
theorem tvt {d : D} : tv true d S k = (tru d fun b => k (.bl b) S) := nr rfl
theorem asB_bl {b : Bool} {k : Bool → Store → Prop} : asB k (.bl b) S = (k b S) := nr rfl
theorem asI_i {i : Int} {k : Int → Store → Prop} : asI k (.int i) S = (k i S) := nr rfl
theorem bop_add {a b : Int} {k : D → Prop} : bop .add (.int a) (.int b) k = (k (.int (a + b))) := nr rfl
theorem bop_sub {a b : Int} {k : D → Prop} : bop .sub (.int a) (.int b) k = (k (.int (a - b))) := nr rfl
theorem bop_mul {a b : Int} {k : D → Prop} : bop .mul (.int a) (.int b) k = (mulOk a b ∧ k (.int (a * b))) := nr rfl
theorem bop_fdv {a b : Int} {k : D → Prop} : bop .fdiv (.int a) (.int b) k = (divOk b ∧ k (.int (a.fdiv b))) := nr rfl
theorem bop_mod {a b : Int} {k : D → Prop} : bop .mod (.int a) (.int b) k = (b ≠ 0 ∧ k (.int (a.fmod b))) := nr rfl
theorem bop_pow {a b : Int} {k : D → Prop} : bop .pow (.int a) (.int b) k = ((0 ≤ b ∧ b ≤ 1000000 ∧ a.natAbs < 2 ^ 64) ∧ k (.int (a ^ b.toNat))) := nr rfl
theorem bop_sbb {a b : Bool} {k : D → Prop} : bop .sub (.bl a) (.bl b) k = (k (.int ((if a then 1 else 0) - (if b then 1 else 0)))) := nr rfl
theorem bop_tt {a b : List D} {k : D → Prop} : bop .add (.tup a) (.tup b) k = (a.length + b.length ≤ SZ ∧ k (.tup (a ++ b))) := nr rfl
theorem bop_ll {a b : List D} {k : D → Prop} : bop .add (.lst a) (.lst b) k = (a.length + b.length ≤ SZ ∧ k (.lst (a ++ b))) := nr rfl
theorem bop_lm {a : List D} {b : Int} {k : D → Prop} : bop .mul (.lst a) (.int b) k = ((0 ≤ b ∧ b ≤ SZ ∧ a.length * b.toNat ≤ SZ) ∧ k (.lst (List.replicate b.toNat a).flatten)) := nr rfl
theorem cop_eq {a b : Int} {k : Bool → Prop} : cop .eq (.int a) (.int b) k = (k (decide (a = b))) := nr rfl
theorem cop_ne {a b : Int} {k : Bool → Prop} : cop .ne (.int a) (.int b) k = (k (!decide (a = b))) := nr rfl
theorem cop_lt {a b : Int} {k : Bool → Prop} : cop .lt (.int a) (.int b) k = (k (decide (a < b))) := nr rfl
theorem cop_le {a b : Int} {k : Bool → Prop} : cop .le (.int a) (.int b) k = (k (decide (a ≤ b))) := nr rfl
theorem cop_gt {a b : Int} {k : Bool → Prop} : cop .gt (.int a) (.int b) k = (k (decide (b < a))) := nr rfl
theorem cop_ge {a b : Int} {k : Bool → Prop} : cop .ge (.int a) (.int b) k = (k (decide (b ≤ a))) := nr rfl
theorem cop_eq_rep {a b : D} {k : Bool → Prop} : cop .eq (.rep a) (.rep b) k = (a = b ∧ k true) := nr rfl
theorem cop_ne_rep {a b : D} {k : Bool → Prop} : cop .ne (.rep a) (.rep b) k = (a = b ∧ k false) := nr rfl
theorem cop_eq_tup {xs : List D} {y : D} {k : Bool → Prop} : cop .eq (.tup xs) y k = ((pure? DEEP (.tup xs) = true ∧ pure? DEEP y = true) ∧ k (eqD (.tup xs) y)) := by cases y <;> rfl
theorem cop_ne_tup {xs : List D} {y : D} {k : Bool → Prop} : cop .ne (.tup xs) y k = ((pure? DEEP (.tup xs) = true ∧ pure? DEEP y = true) ∧ k (!eqD (.tup xs) y)) := by cases y <;> rfl
theorem cop_eq_lst {xs : List D} {y : D} {k : Bool → Prop} : cop .eq (.lst xs) y k = ((pure? DEEP (.lst xs) = true ∧ pure? DEEP y = true) ∧ k (eqD (.lst xs) y)) := by cases y <;> rfl
theorem cop_ne_lst {xs : List D} {y : D} {k : Bool → Prop} : cop .ne (.lst xs) y k = ((pure? DEEP (.lst xs) = true ∧ pure? DEEP y = true) ∧ k (!eqD (.lst xs) y)) := by cases y <;> rfl
theorem cop_eq_str {x : Str} {y : D} {k : Bool → Prop} : cop .eq (.str x) y k = ((pure? DEEP (.str x) = true ∧ pure? DEEP y = true) ∧ k (eqD (.str x) y)) := by cases y <;> rfl
theorem cop_ne_str {x : Str} {y : D} {k : Bool → Prop} : cop .ne (.str x) y k = ((pure? DEEP (.str x) = true ∧ pure? DEEP y = true) ∧ k (!eqD (.str x) y)) := by cases y <;> rfl
theorem cop_eq_bl {x : Bool} {y : D} {k : Bool → Prop} : cop .eq (.bl x) y k = ((pure? DEEP (.bl x) = true ∧ pure? DEEP y = true) ∧ k (eqD (.bl x) y)) := by cases y <;> rfl
theorem cop_ne_bl {x : Bool} {y : D} {k : Bool → Prop} : cop .ne (.bl x) y k = ((pure? DEEP (.bl x) = true ∧ pure? DEEP y = true) ∧ k (!eqD (.bl x) y)) := by cases y <;> rfl
theorem cop_eq_non  {y : D} {k : Bool → Prop} : cop .eq .non y k = ((pure? DEEP .non = true ∧ pure? DEEP y = true) ∧ k (eqD .non y)) := by cases y <;> rfl
theorem cop_ne_non  {y : D} {k : Bool → Prop} : cop .ne .non y k = ((pure? DEEP .non = true ∧ pure? DEEP y = true) ∧ k (!eqD .non y)) := by cases y <;> rfl
theorem cop_is_n {x : D} {k : Bool → Prop} : cop .is x .non k = (k (isNon x)) := nr rfl
theorem cop_is_b {x b : Bool} {k : Bool → Prop} : cop .is (.bl x) (.bl b) k = (k (x == b)) := nr rfl
theorem cop_isnot_n {x : D} {k : Bool → Prop} : cop .isnot x .non k = (k (!isNon x)) := nr rfl
theorem cop_isnot_b {x b : Bool} {k : Bool → Prop} : cop .isnot (.bl x) (.bl b) k = (k (!(x == b))) := nr rfl
theorem cop_isin_lst {x : D} {ys : List D} {k : Bool → Prop} : cop .isin x (.lst ys) k = ((pure? DEEP x = true ∧ pures? DEEP ys = true) ∧ k (inD x ys)) := nr rfl
theorem cop_isin_tup {x : D} {ys : List D} {k : Bool → Prop} : cop .isin x (.tup ys) k = ((pure? DEEP x = true ∧ pures? DEEP ys = true) ∧ k (inD x ys)) := nr rfl
theorem cop_notin_lst {x : D} {ys : List D} {k : Bool → Prop} : cop .notin x (.lst ys) k = ((pure? DEEP x = true ∧ pures? DEEP ys = true) ∧ k (!inD x ys)) := nr rfl
theorem cop_notin_tup {x : D} {ys : List D} {k : Bool → Prop} : cop .notin x (.tup ys) k = ((pure? DEEP x = true ∧ pures? DEEP ys = true) ∧ k (!inD x ys)) := nr rfl
theorem tru_non  {k : Bool → Prop} : tru .non k = (k false) := nr rfl
theorem tru_bl {b : Bool} {k : Bool → Prop} : tru (.bl b) k = (k b) := nr rfl
theorem tru_int {i : Int} {k : Bool → Prop} : tru (.int i) k = (k (!decide (i = 0))) := nr rfl
theorem tru_tup {ds : List D} {k : Bool → Prop} : tru (.tup ds) k = (k (!ds.isEmpty)) := nr rfl
theorem tru_lst {ds : List D} {k : Bool → Prop} : tru (.lst ds) k = (k (!ds.isEmpty)) := nr rfl
theorem non_non  : isNon .non = (true) := nr rfl
theorem non_int {i : Int} : isNon (.int i) = (false) := nr rfl
theorem ty_int_int {i : Int} : tyIs .int (.int i) = (some true) := nr rfl
theorem ty_bool_int {i : Int} : tyIs .bool (.int i) = (some false) := nr rfl
theorem ty_str_int {i : Int} : tyIs .str (.int i) = (some false) := nr rfl
theorem ty_tup_int {i : Int} : tyIs .tup (.int i) = (some false) := nr rfl
theorem ty_lst_int {i : Int} : tyIs .lst (.int i) = (some false) := nr rfl
theorem ty_dict_int {i : Int} : tyIs .dict (.int i) = (some false) := nr rfl
theorem non_bl {i : Bool} : isNon (.bl i) = (false) := nr rfl
theorem ty_int_bl {i : Bool} : tyIs .int (.bl i) = (some true) := nr rfl
theorem ty_bool_bl {i : Bool} : tyIs .bool (.bl i) = (some true) := nr rfl
theorem ty_str_bl {i : Bool} : tyIs .str (.bl i) = (some false) := nr rfl
theorem ty_tup_bl {i : Bool} : tyIs .tup (.bl i) = (some false) := nr rfl
theorem ty_lst_bl {i : Bool} : tyIs .lst (.bl i) = (some false) := nr rfl
theorem ty_dict_bl {i : Bool} : tyIs .dict (.bl i) = (some false) := nr rfl
theorem non_str {i : Str} : isNon (.str i) = (false) := nr rfl
theorem ty_int_str {i : Str} : tyIs .int (.str i) = (some false) := nr rfl
theorem ty_bool_str {i : Str} : tyIs .bool (.str i) = (some false) := nr rfl
theorem ty_str_str {i : Str} : tyIs .str (.str i) = (some true) := nr rfl
theorem ty_tup_str {i : Str} : tyIs .tup (.str i) = (some false) := nr rfl
theorem ty_lst_str {i : Str} : tyIs .lst (.str i) = (some false) := nr rfl
theorem ty_dict_str {i : Str} : tyIs .dict (.str i) = (some false) := nr rfl
theorem non_tup {i : List D} : isNon (.tup i) = (false) := nr rfl
theorem ty_int_tup {i : List D} : tyIs .int (.tup i) = (some false) := nr rfl
theorem ty_bool_tup {i : List D} : tyIs .bool (.tup i) = (some false) := nr rfl
theorem ty_str_tup {i : List D} : tyIs .str (.tup i) = (some false) := nr rfl
theorem ty_tup_tup {i : List D} : tyIs .tup (.tup i) = (some true) := nr rfl
theorem ty_lst_tup {i : List D} : tyIs .lst (.tup i) = (some false) := nr rfl
theorem ty_dict_tup {i : List D} : tyIs .dict (.tup i) = (some false) := nr rfl
theorem non_lst {i : List D} : isNon (.lst i) = (false) := nr rfl
theorem ty_int_lst {i : List D} : tyIs .int (.lst i) = (some false) := nr rfl
theorem ty_bool_lst {i : List D} : tyIs .bool (.lst i) = (some false) := nr rfl
theorem ty_str_lst {i : List D} : tyIs .str (.lst i) = (some false) := nr rfl
theorem ty_tup_lst {i : List D} : tyIs .tup (.lst i) = (some false) := nr rfl
theorem ty_lst_lst {i : List D} : tyIs .lst (.lst i) = (some true) := nr rfl
theorem ty_dict_lst {i : List D} : tyIs .dict (.lst i) = (some false) := nr rfl
theorem ty_int_non  : tyIs .int .non = (some false) := nr rfl
theorem ty_int_ti {ns : List Int} : tyIs .int (ti ns) = (some false) := nr rfl
theorem ty_bool_non  : tyIs .bool .non = (some false) := nr rfl
theorem ty_bool_ti {ns : List Int} : tyIs .bool (ti ns) = (some false) := nr rfl
theorem ty_str_non  : tyIs .str .non = (some false) := nr rfl
theorem ty_str_ti {ns : List Int} : tyIs .str (ti ns) = (some false) := nr rfl
theorem ty_tup_non  : tyIs .tup .non = (some false) := nr rfl
theorem ty_tup_ti {ns : List Int} : tyIs .tup (ti ns) = (some true) := nr rfl
theorem ty_lst_non  : tyIs .lst .non = (some false) := nr rfl
theorem ty_lst_ti {ns : List Int} : tyIs .lst (ti ns) = (some false) := nr rfl
theorem ty_dict_non  : tyIs .dict .non = (some false) := nr rfl
theorem ty_dict_ti {ns : List Int} : tyIs .dict (ti ns) = (some false) := nr rfl
theorem ty_int_rep {d : D} : tyIs .int (.rep d) = (some false) := nr rfl
theorem ty_int_dic  : tyIs .int .dic = (some false) := nr rfl
theorem ty_bool_rep {d : D} : tyIs .bool (.rep d) = (some false) := nr rfl
theorem ty_bool_dic  : tyIs .bool .dic = (some false) := nr rfl
theorem ty_str_rep {d : D} : tyIs .str (.rep d) = (some true) := nr rfl
theorem ty_str_dic  : tyIs .str .dic = (some false) := nr rfl
theorem ty_tup_rep {d : D} : tyIs .tup (.rep d) = (some false) := nr rfl
theorem ty_tup_dic  : tyIs .tup .dic = (some false) := nr rfl
theorem ty_lst_rep {d : D} : tyIs .lst (.rep d) = (some false) := nr rfl
theorem ty_lst_dic  : tyIs .lst .dic = (some false) := nr rfl
theorem ty_dict_rep {d : D} : tyIs .dict (.rep d) = (some false) := nr rfl
theorem ty_dict_dic  : tyIs .dict .dic = (some true) := nr rfl
theorem ta_tup {ds : List D} : tyAny [.tup, .lst] (.tup ds) = (some true) := nr rfl
theorem ta_lst {ds : List D} : tyAny [.tup, .lst] (.lst ds) = (some true) := nr rfl
theorem ta_ti {ns : List Int} : tyAny [.tup, .lst] (ti ns) = (some true) := nr rfl
theorem ta_int {i : Int} : tyAny [.tup, .lst] (.int i) = (some false) := nr rfl
theorem ta_bl {i : Bool} : tyAny [.tup, .lst] (.bl i) = (some false) := nr rfl
theorem ta_str {i : Str} : tyAny [.tup, .lst] (.str i) = (some false) := nr rfl
theorem ta_non  : tyAny [.tup, .lst] .non = (some false) := nr rfl
theorem seq_tup {ds : List D} {p : List D → Prop} : seq (.tup ds) S p = (p ds) := nr rfl
theorem itm_tup {ds : List D} {p : Gd → List D → Prop} : itm (.tup ds) S p = (p none ds) := nr rfl
theorem seq_lst {ds : List D} {p : List D → Prop} : seq (.lst ds) S p = (p ds) := nr rfl
theorem itm_lst {ds : List D} {p : Gd → List D → Prop} : itm (.lst ds) S p = (p none ds) := nr rfl
theorem seq_frz {ds : List D} {p : List D → Prop} : seq (.frz ds) S p = (p ds) := nr rfl
theorem itm_frz {ds : List D} {p : Gd → List D → Prop} : itm (.frz ds) S p = (p none ds) := nr rfl
theorem itm_itr {ds : List D} {p : Gd → List D → Prop} : itm (.itr ds) S p = (p none ds) := nr rfl
theorem seq_ref {l : Nat} {p : List D → Prop} : seq (.ref l) S p = (onO (cl S l) p) := by simp only [seq]; cases cl S l <;> rfl
theorem itm_ref {l : Nat} {p : Gd → List D → Prop} : itm (.ref l) S p = (onO (cl S l) fun ds => p (some (l, ds, none)) ds) := by simp only [itm]; cases cl S l <;> rfl
theorem seq_ti {ns : List Int} {p : List D → Prop} : seq (ti ns) S p = (p (ns.map D.int)) := nr rfl
theorem itm_ti {ns : List Int} {p : Gd → List D → Prop} : itm (ti ns) S p = (p none (ns.map D.int)) := nr rfl
theorem onO_s {α : Type} {a : α} {p : α → Prop} : onO (some a) p = (p a) := nr rfl
theorem nth_0 {d : D} {r : List D} {p : D → Prop} : onO (nth (d :: r) 0) p = (p d) := by rw [show nth (d :: r) 0 = some d from nth_lit (i := 0) rfl] <;> rfl
theorem nth_1 {x0 : D} {d : D} {r : List D} {p : D → Prop} : onO (nth (x0 :: d :: r) 1) p = (p d) := by rw [show nth (x0 :: d :: r) 1 = some d from nth_lit (i := 1) rfl] <;> rfl
theorem nth_2 {x0 x1 : D} {d : D} {r : List D} {p : D → Prop} : onO (nth (x0 :: x1 :: d :: r) 2) p = (p d) := by rw [show nth (x0 :: x1 :: d :: r) 2 = some d from nth_lit (i := 2) rfl] <;> rfl
theorem nth_3 {x0 x1 x2 : D} {d : D} {r : List D} {p : D → Prop} : onO (nth (x0 :: x1 :: x2 :: d :: r) 3) p = (p d) := by rw [show nth (x0 :: x1 :: x2 :: d :: r) 3 = some d from nth_lit (i := 3) rfl] <;> rfl
theorem nth_4 {x0 x1 x2 x3 : D} {d : D} {r : List D} {p : D → Prop} : onO (nth (x0 :: x1 :: x2 :: x3 :: d :: r) 4) p = (p d) := by rw [show nth (x0 :: x1 :: x2 :: x3 :: d :: r) 4 = some d from nth_lit (i := 4) rfl] <;> rfl
theorem nth_5 {x0 x1 x2 x3 x4 : D} {d : D} {r : List D} {p : D → Prop} : onO (nth (x0 :: x1 :: x2 :: x3 :: x4 :: d :: r) 5) p = (p d) := by rw [show nth (x0 :: x1 :: x2 :: x3 :: x4 :: d :: r) 5 = some d from nth_lit (i := 5) rfl] <;> rfl
theorem nth_6 {x0 x1 x2 x3 x4 x5 : D} {d : D} {r : List D} {p : D → Prop} : onO (nth (x0 :: x1 :: x2 :: x3 :: x4 :: x5 :: d :: r) 6) p = (p d) := by rw [show nth (x0 :: x1 :: x2 :: x3 :: x4 :: x5 :: d :: r) 6 = some d from nth_lit (i := 6) rfl] <;> rfl
theorem nth_7 {x0 x1 x2 x3 x4 x5 x6 : D} {d : D} {r : List D} {p : D → Prop} : onO (nth (x0 :: x1 :: x2 :: x3 :: x4 :: x5 :: x6 :: d :: r) 7) p = (p d) := by rw [show nth (x0 :: x1 :: x2 :: x3 :: x4 :: x5 :: x6 :: d :: r) 7 = some d from nth_lit (i := 7) rfl] <;> rfl
theorem nth_8 {x0 x1 x2 x3 x4 x5 x6 x7 : D} {d : D} {r : List D} {p : D → Prop} : onO (nth (x0 :: x1 :: x2 :: x3 :: x4 :: x5 :: x6 :: x7 :: d :: r) 8) p = (p d) := by rw [show nth (x0 :: x1 :: x2 :: x3 :: x4 :: x5 :: x6 :: x7 :: d :: r) 8 = some d from nth_lit (i := 8) rfl] <;> rfl
theorem nth_9 {x0 x1 x2 x3 x4 x5 x6 x7 x8 : D} {d : D} {r : List D} {p : D → Prop} : onO (nth (x0 :: x1 :: x2 :: x3 :: x4 :: x5 :: x6 :: x7 :: x8 :: d :: r) 9) p = (p d) := by rw [show nth (x0 :: x1 :: x2 :: x3 :: x4 :: x5 :: x6 :: x7 :: x8 :: d :: r) 9 = some d from nth_lit (i := 9) rfl] <;> rfl
theorem nth_10 {x0 x1 x2 x3 x4 x5 x6 x7 x8 x9 : D} {d : D} {r : List D} {p : D → Prop} : onO (nth (x0 :: x1 :: x2 :: x3 :: x4 :: x5 :: x6 :: x7 :: x8 :: x9 :: d :: r) 10) p = (p d) := by rw [show nth (x0 :: x1 :: x2 :: x3 :: x4 :: x5 :: x6 :: x7 :: x8 :: x9 :: d :: r) 10 = some d from nth_lit (i := 10) rfl] <;> rfl
theorem nth_11 {x0 x1 x2 x3 x4 x5 x6 x7 x8 x9 x10 : D} {d : D} {r : List D} {p : D → Prop} : onO (nth (x0 :: x1 :: x2 :: x3 :: x4 :: x5 :: x6 :: x7 :: x8 :: x9 :: x10 :: d :: r) 11) p = (p d) := by rw [show nth (x0 :: x1 :: x2 :: x3 :: x4 :: x5 :: x6 :: x7 :: x8 :: x9 :: x10 :: d :: r) 11 = some d from nth_lit (i := 11) rfl] <;> rfl
theorem nth_12 {x0 x1 x2 x3 x4 x5 x6 x7 x8 x9 x10 x11 : D} {d : D} {r : List D} {p : D → Prop} : onO (nth (x0 :: x1 :: x2 :: x3 :: x4 :: x5 :: x6 :: x7 :: x8 :: x9 :: x10 :: x11 :: d :: r) 12) p = (p d) := by rw [show nth (x0 :: x1 :: x2 :: x3 :: x4 :: x5 :: x6 :: x7 :: x8 :: x9 :: x10 :: x11 :: d :: r) 12 = some d from nth_lit (i := 12) rfl] <;> rfl
theorem bf_len {d : D} {k : D → Prop} : bfn .len [d] S k = (seq d S fun ds => k (.int ds.length)) := nr rfl
theorem bf_abs {a : Int} {k : D → Prop} : bfn .abs [.int a] S k = (k (.int (if a < 0 then -a else a))) := nr rfl
theorem bf_max {a b : Int} {k : D → Prop} : bfn .max2 [.int a, .int b] S k = (k (.int (if b > a then b else a))) := by show (True ∧ _) = _; rw [true_and]
theorem bf_min {a b : Int} {k : D → Prop} : bfn .min2 [.int a, .int b] S k = (k (.int (if b < a then b else a))) := by show (True ∧ _) = _; rw [true_and]
theorem bf_int {a : Int} {k : D → Prop} : bfn .int [.int a] S k = (k (.int a)) := nr rfl
theorem bf_intb {a : Bool} {k : D → Prop} : bfn .int [.bl a] S k = (k (.int (if a then 1 else 0))) := nr rfl
theorem bf_dm {a b : Int} {k : D → Prop} : bfn .divmod [.int a, .int b] S k = ((0 < b ∧ divOk b) ∧ k (.tup [.int (a / b), .int (a % b)])) := nr rfl
theorem bf_gcd {a b : Int} {k : D → Prop} : bfn .gcd [.int a, .int b] S k = (k (.int (gstep a b))) := by show (True ∧ _) = _; rw [true_and] <;> rfl
theorem bf_all {ds : List D} {k : D → Prop} : bfn .all [.lst ds] S k = (onO (bls? ds) fun bs => k (.bl (bs.all id))) := by
  show onBs _ (.lst ds) k = _
  unfold onBs
  simp only
  cases bls? ds <;> rfl
theorem bf_any {ds : List D} {k : D → Prop} : bfn .any [.lst ds] S k = (onO (bls? ds) fun bs => k (.bl (bs.any id))) := by
  show onBs _ (.lst ds) k = _
  unfold onBs
  simp only
  cases bls? ds <;> rfl
theorem bf_anyt {ns : List Int} {k : D → Prop} : bfn .any [ti ns] S k = (k (.bl (ns.any fun i => i != 0))) := by
  show anyD (.tup (ns.map D.int)) k = _
  simp only [anyD, ints_mapT]
theorem bf_sum {ds : List D} {k : D → Prop} : bfn .sum [.lst ds] S k = (onO (ints? ds) fun is => k (.int is.sum)) := by
  show onIs _ (.lst ds) k = _
  unfold onIs
  simp only
  cases ints? ds <;> rfl
theorem bf_tup {d : D} {k : D → Prop} : bfn .tuple [d] S k = (seq d S fun ds => k (.tup ds)) := nr rfl
theorem bf_repl {ds : List D} {k : D → Prop} : bfn .repr [.lst ds] S k = ((pure? DEEP (.lst ds) = true ∧ smDs ds ∧ nods ds ≤ 20000) ∧ k (.rep (.lst ds))) := nr rfl
theorem bf_stri {i : Int} {k : D → Prop} : bfn .str [.int i] S k = (i.natAbs < 2 ^ 990 ∧ k (.rep (.int i))) := nr rfl
theorem bf_sumr {l : Nat} {k : D → Prop} : bfn .sum [.ref l] S k = (onO (cl S l) fun ds => onO (ints? ds) fun is => k (.int is.sum)) := by
  show onIs _ (und (.ref l) S) k = _
  simp only [und]
  cases cl S l with
  | none => rfl
  | some ds =>
    show (match ints? ds with | some bs => k (D.int bs.sum) | none => False) = onO (ints? ds) fun is => k (.int is.sum)
    cases ints? ds <;> rfl
theorem bf_maxl {ds : List D} {k : D → Prop} : bfn .maxl [.lst ds] S k = (onO (ints? ds) fun is => 0 < is.length ∧ ∀ m, m ∈ is → (∀ y, y ∈ is → y ≤ m) → k (.int m)) := by
  show maxL (.lst ds) k = _
  simp only [maxL]
  cases ints? ds <;> rfl
theorem bf_sort {ds : List D} {k : D → Prop} : bfn .sorted [.lst ds] S k = (sortL ds k) := nr rfl
theorem bf_sortt {ds : List D} {k : D → Prop} : bfn .sorted [.tup ds] S k = (sort3 ds k) := nr rfl
theorem bf_rept {ds : List D} {k : D → Prop} : bfn .repr [.tup ds] S k = ((pure? DEEP (.tup ds) = true ∧ smDs ds ∧ nods ds ≤ 20000) ∧ k (.rep (.tup ds))) := nr rfl
theorem bf_lst {d : D} {k : D → Prop} : bfn .list [d] S k = (seq d S fun ds => k (.lst ds)) := nr rfl
theorem st_0 {x0 : Option D} {r : Env} {d : D} : st (x0 :: r) 0 d = (some d :: r) := nr rfl
theorem st_1 {x0 x1 : Option D} {r : Env} {d : D} : st (x0 :: x1 :: r) 1 d = (x0 :: some d :: r) := nr rfl
theorem st_2 {x0 x1 x2 : Option D} {r : Env} {d : D} : st (x0 :: x1 :: x2 :: r) 2 d = (x0 :: x1 :: some d :: r) := nr rfl
theorem st_3 {x0 x1 x2 x3 : Option D} {r : Env} {d : D} : st (x0 :: x1 :: x2 :: x3 :: r) 3 d = (x0 :: x1 :: x2 :: some d :: r) := nr rfl
theorem st_4 {x0 x1 x2 x3 x4 : Option D} {r : Env} {d : D} : st (x0 :: x1 :: x2 :: x3 :: x4 :: r) 4 d = (x0 :: x1 :: x2 :: x3 :: some d :: r) := nr rfl
theorem st_5 {x0 x1 x2 x3 x4 x5 : Option D} {r : Env} {d : D} : st (x0 :: x1 :: x2 :: x3 :: x4 :: x5 :: r) 5 d = (x0 :: x1 :: x2 :: x3 :: x4 :: some d :: r) := nr rfl
theorem st_6 {x0 x1 x2 x3 x4 x5 x6 : Option D} {r : Env} {d : D} : st (x0 :: x1 :: x2 :: x3 :: x4 :: x5 :: x6 :: r) 6 d = (x0 :: x1 :: x2 :: x3 :: x4 :: x5 :: some d :: r) := nr rfl
theorem st_7 {x0 x1 x2 x3 x4 x5 x6 x7 : Option D} {r : Env} {d : D} : st (x0 :: x1 :: x2 :: x3 :: x4 :: x5 :: x6 :: x7 :: r) 7 d = (x0 :: x1 :: x2 :: x3 :: x4 :: x5 :: x6 :: some d :: r) := nr rfl
theorem st_8 {x0 x1 x2 x3 x4 x5 x6 x7 x8 : Option D} {r : Env} {d : D} : st (x0 :: x1 :: x2 :: x3 :: x4 :: x5 :: x6 :: x7 :: x8 :: r) 8 d = (x0 :: x1 :: x2 :: x3 :: x4 :: x5 :: x6 :: x7 :: some d :: r) := nr rfl
theorem st_9 {x0 x1 x2 x3 x4 x5 x6 x7 x8 x9 : Option D} {r : Env} {d : D} : st (x0 :: x1 :: x2 :: x3 :: x4 :: x5 :: x6 :: x7 :: x8 :: x9 :: r) 9 d = (x0 :: x1 :: x2 :: x3 :: x4 :: x5 :: x6 :: x7 :: x8 :: some d :: r) := nr rfl
theorem st_10 {x0 x1 x2 x3 x4 x5 x6 x7 x8 x9 x10 : Option D} {r : Env} {d : D} : st (x0 :: x1 :: x2 :: x3 :: x4 :: x5 :: x6 :: x7 :: x8 :: x9 :: x10 :: r) 10 d = (x0 :: x1 :: x2 :: x3 :: x4 :: x5 :: x6 :: x7 :: x8 :: x9 :: some d :: r) := nr rfl
theorem st_11 {x0 x1 x2 x3 x4 x5 x6 x7 x8 x9 x10 x11 : Option D} {r : Env} {d : D} : st (x0 :: x1 :: x2 :: x3 :: x4 :: x5 :: x6 :: x7 :: x8 :: x9 :: x10 :: x11 :: r) 11 d = (x0 :: x1 :: x2 :: x3 :: x4 :: x5 :: x6 :: x7 :: x8 :: x9 :: x10 :: some d :: r) := nr rfl
theorem st_12 {x0 x1 x2 x3 x4 x5 x6 x7 x8 x9 x10 x11 x12 : Option D} {r : Env} {d : D} : st (x0 :: x1 :: x2 :: x3 :: x4 :: x5 :: x6 :: x7 :: x8 :: x9 :: x10 :: x11 :: x12 :: r) 12 d = (x0 :: x1 :: x2 :: x3 :: x4 :: x5 :: x6 :: x7 :: x8 :: x9 :: x10 :: x11 :: some d :: r) := nr rfl
theorem st_13 {x0 x1 x2 x3 x4 x5 x6 x7 x8 x9 x10 x11 x12 x13 : Option D} {r : Env} {d : D} : st (x0 :: x1 :: x2 :: x3 :: x4 :: x5 :: x6 :: x7 :: x8 :: x9 :: x10 :: x11 :: x12 :: x13 :: r) 13 d = (x0 :: x1 :: x2 :: x3 :: x4 :: x5 :: x6 :: x7 :: x8 :: x9 :: x10 :: x11 :: x12 :: some d :: r) := nr rfl
theorem st_14 {x0 x1 x2 x3 x4 x5 x6 x7 x8 x9 x10 x11 x12 x13 x14 : Option D} {r : Env} {d : D} : st (x0 :: x1 :: x2 :: x3 :: x4 :: x5 :: x6 :: x7 :: x8 :: x9 :: x10 :: x11 :: x12 :: x13 :: x14 :: r) 14 d = (x0 :: x1 :: x2 :: x3 :: x4 :: x5 :: x6 :: x7 :: x8 :: x9 :: x10 :: x11 :: x12 :: x13 :: some d :: r) := nr rfl
theorem st_15 {x0 x1 x2 x3 x4 x5 x6 x7 x8 x9 x10 x11 x12 x13 x14 x15 : Option D} {r : Env} {d : D} : st (x0 :: x1 :: x2 :: x3 :: x4 :: x5 :: x6 :: x7 :: x8 :: x9 :: x10 :: x11 :: x12 :: x13 :: x14 :: x15 :: r) 15 d = (x0 :: x1 :: x2 :: x3 :: x4 :: x5 :: x6 :: x7 :: x8 :: x9 :: x10 :: x11 :: x12 :: x13 :: x14 :: some d :: r) := nr rfl
theorem st_16 {x0 x1 x2 x3 x4 x5 x6 x7 x8 x9 x10 x11 x12 x13 x14 x15 x16 : Option D} {r : Env} {d : D} : st (x0 :: x1 :: x2 :: x3 :: x4 :: x5 :: x6 :: x7 :: x8 :: x9 :: x10 :: x11 :: x12 :: x13 :: x14 :: x15 :: x16 :: r) 16 d = (x0 :: x1 :: x2 :: x3 :: x4 :: x5 :: x6 :: x7 :: x8 :: x9 :: x10 :: x11 :: x12 :: x13 :: x14 :: x15 :: some d :: r) := nr rfl
theorem st_17 {x0 x1 x2 x3 x4 x5 x6 x7 x8 x9 x10 x11 x12 x13 x14 x15 x16 x17 : Option D} {r : Env} {d : D} : st (x0 :: x1 :: x2 :: x3 :: x4 :: x5 :: x6 :: x7 :: x8 :: x9 :: x10 :: x11 :: x12 :: x13 :: x14 :: x15 :: x16 :: x17 :: r) 17 d = (x0 :: x1 :: x2 :: x3 :: x4 :: x5 :: x6 :: x7 :: x8 :: x9 :: x10 :: x11 :: x12 :: x13 :: x14 :: x15 :: x16 :: some d :: r) := nr rfl
theorem st_18 {x0 x1 x2 x3 x4 x5 x6 x7 x8 x9 x10 x11 x12 x13 x14 x15 x16 x17 x18 : Option D} {r : Env} {d : D} : st (x0 :: x1 :: x2 :: x3 :: x4 :: x5 :: x6 :: x7 :: x8 :: x9 :: x10 :: x11 :: x12 :: x13 :: x14 :: x15 :: x16 :: x17 :: x18 :: r) 18 d = (x0 :: x1 :: x2 :: x3 :: x4 :: x5 :: x6 :: x7 :: x8 :: x9 :: x10 :: x11 :: x12 :: x13 :: x14 :: x15 :: x16 :: x17 :: some d :: r) := nr rfl
theorem st_19 {x0 x1 x2 x3 x4 x5 x6 x7 x8 x9 x10 x11 x12 x13 x14 x15 x16 x17 x18 x19 : Option D} {r : Env} {d : D} : st (x0 :: x1 :: x2 :: x3 :: x4 :: x5 :: x6 :: x7 :: x8 :: x9 :: x10 :: x11 :: x12 :: x13 :: x14 :: x15 :: x16 :: x17 :: x18 :: x19 :: r) 19 d = (x0 :: x1 :: x2 :: x3 :: x4 :: x5 :: x6 :: x7 :: x8 :: x9 :: x10 :: x11 :: x12 :: x13 :: x14 :: x15 :: x16 :: x17 :: x18 :: some d :: r) := nr rfl
theorem st_20 {x0 x1 x2 x3 x4 x5 x6 x7 x8 x9 x10 x11 x12 x13 x14 x15 x16 x17 x18 x19 x20 : Option D} {r : Env} {d : D} : st (x0 :: x1 :: x2 :: x3 :: x4 :: x5 :: x6 :: x7 :: x8 :: x9 :: x10 :: x11 :: x12 :: x13 :: x14 :: x15 :: x16 :: x17 :: x18 :: x19 :: x20 :: r) 20 d = (x0 :: x1 :: x2 :: x3 :: x4 :: x5 :: x6 :: x7 :: x8 :: x9 :: x10 :: x11 :: x12 :: x13 :: x14 :: x15 :: x16 :: x17 :: x18 :: x19 :: some d :: r) := nr rfl
theorem st_21 {x0 x1 x2 x3 x4 x5 x6 x7 x8 x9 x10 x11 x12 x13 x14 x15 x16 x17 x18 x19 x20 x21 : Option D} {r : Env} {d : D} : st (x0 :: x1 :: x2 :: x3 :: x4 :: x5 :: x6 :: x7 :: x8 :: x9 :: x10 :: x11 :: x12 :: x13 :: x14 :: x15 :: x16 :: x17 :: x18 :: x19 :: x20 :: x21 :: r) 21 d = (x0 :: x1 :: x2 :: x3 :: x4 :: x5 :: x6 :: x7 :: x8 :: x9 :: x10 :: x11 :: x12 :: x13 :: x14 :: x15 :: x16 :: x17 :: x18 :: x19 :: x20 :: some d :: r) := nr rfl
theorem st_22 {x0 x1 x2 x3 x4 x5 x6 x7 x8 x9 x10 x11 x12 x13 x14 x15 x16 x17 x18 x19 x20 x21 x22 : Option D} {r : Env} {d : D} : st (x0 :: x1 :: x2 :: x3 :: x4 :: x5 :: x6 :: x7 :: x8 :: x9 :: x10 :: x11 :: x12 :: x13 :: x14 :: x15 :: x16 :: x17 :: x18 :: x19 :: x20 :: x21 :: x22 :: r) 22 d = (x0 :: x1 :: x2 :: x3 :: x4 :: x5 :: x6 :: x7 :: x8 :: x9 :: x10 :: x11 :: x12 :: x13 :: x14 :: x15 :: x16 :: x17 :: x18 :: x19 :: x20 :: x21 :: some d :: r) := nr rfl
theorem st_23 {x0 x1 x2 x3 x4 x5 x6 x7 x8 x9 x10 x11 x12 x13 x14 x15 x16 x17 x18 x19 x20 x21 x22 x23 : Option D} {r : Env} {d : D} : st (x0 :: x1 :: x2 :: x3 :: x4 :: x5 :: x6 :: x7 :: x8 :: x9 :: x10 :: x11 :: x12 :: x13 :: x14 :: x15 :: x16 :: x17 :: x18 :: x19 :: x20 :: x21 :: x22 :: x23 :: r) 23 d = (x0 :: x1 :: x2 :: x3 :: x4 :: x5 :: x6 :: x7 :: x8 :: x9 :: x10 :: x11 :: x12 :: x13 :: x14 :: x15 :: x16 :: x17 :: x18 :: x19 :: x20 :: x21 :: x22 :: some d :: r) := nr rfl
theorem asg_nm {i : Nat} {d : D} {k : Env → Store → Prop} : asg C X (.pt (.nm i)) d σ S k = (k (st σ i d) S) := by simp only [asg] <;> rfl
theorem asg_tp {ps : List Pt} {ds : List D} {k : Env → Store → Prop} : asg C X (.pt (.tp ps)) (.tup ds) σ S k = (onO (bindPs ps ds σ) fun σ1 => k σ1 S) := by
  simp only [asg, bindP]
  cases bindPs ps ds σ <;> rfl
theorem asg_ls {ps : List Pt} {ds : List D} {k : Env → Store → Prop} : asg C X (.pt (.tp ps)) (.lst ds) σ S k = (onO (bindPs ps ds σ) fun σ1 => k σ1 S) := by
  simp only [asg, bindP]
  cases bindPs ps ds σ <;> rfl
theorem asg_sub {o i : E} {d : D} {k : Env → Store → Prop} : asg C X (.sub o i) d σ S k = (ev C X o false σ S fun x S1 => ev C X i false σ S1 (asI fun j S2 => onRef x fun l => onO (cl S2 l) fun ds => (0 ≤ j ∧ j < ds.length) ∧ k σ (S2.set l (ds.set j.toNat d)))) := by
  simp only [asg]
  congr 1; funext x S1; congr 1; congr 1; funext j S2
  cases x <;> try rfl
  rename_i l
  simp only [onRef]
  cases cl S2 l <;> rfl
theorem asg_dsub {o i : E} {d : D} {k : Env → Store → Prop} : asg C X (.dsub o i) d σ S k = (d = .bl true ∧ ev C X o false σ S fun x S1 => onDre x fun l => ev C X i false σ S1 fun y S2 => onO (cl S2 l) fun ds => putD ds y fun ds2 => k σ (S2.set l ds2)) := by
  simp only [asg]
  congr 1; congr 1; funext x S1; congr 1; funext l; congr 1; funext y S2
  cases cl S2 l <;> rfl
theorem asg_tg {ts : List Tg} {ds : List D} {k : Env → Store → Prop} : asg C X (.tp ts) (.tup ds) σ S k = (ds.length = ts.length ∧ asgs C X ts ds σ S k) := by simp only [asg] <;> rfl
theorem asg_ti {ps : List Pt} {ns : List Int} {k : Env → Store → Prop} : asg C X (.pt (.tp ps)) (ti ns) σ S k = (onO (bindPs ps (ns.map D.int) σ) fun σ1 => k σ1 S) := asg_tp
theorem asgs_nil {k : Env → Store → Prop} : asgs C X [] [] σ S k = (k σ S) := by simp only [asgs]
theorem asgs_cons {t : Tg} {ts : List Tg} {d : D} {ds : List D} {k : Env → Store → Prop} : asgs C X (t :: ts) (d :: ds) σ S k = (asg C X t d σ S fun σ1 S1 => asgs C X ts ds σ1 S1 k) := by simp only [asgs]
theorem bp_nm {i : Nat} {d : D} : bindP (.nm i) d σ = (some (st σ i d)) := by simp only [bindP]
theorem bp_tp {ps : List Pt} {ds : List D} : bindP (.tp ps) (.tup ds) σ = (bindPs ps ds σ) := by simp only [bindP]
theorem bp_ls {ps : List Pt} {ds : List D} : bindP (.tp ps) (.lst ds) σ = (bindPs ps ds σ) := by simp only [bindP]
theorem bp_ti {ps : List Pt} {ns : List Int} : bindP (.tp ps) (ti ns) σ = (bindPs ps (ns.map D.int) σ) := bp_tp
theorem bps_nil  : bindPs [] [] σ = (some σ) := by simp only [bindPs]
theorem bps_nm {i : Nat} {ps : List Pt} {d : D} {ds : List D} : bindPs (.nm i :: ps) (d :: ds) σ = (bindPs ps ds (st σ i d)) := by simp only [bindPs, bindP]
theorem sts_nil  : sts [] [] σ = (σ) := nr rfl
theorem sts_cons {i : Nat} {is : List Nat} {d : D} {ds : List D} : sts (i :: is) (d :: ds) σ = (sts is ds (st σ i d)) := nr rfl
theorem mk_f {ds : List D} {k : D → Store → Prop} : mk false ds S k = (k (.lst ds) S) := nr rfl
theorem mk_t {ds : List D} {k : D → Store → Prop} : mk true ds S k = (k (.ref S.length) (S ++ [ds])) := nr rfl
theorem rowr_l {ds : List D} : rowR (.lst ds) S = (some ds) := nr rfl
theorem rowr_r {l : Nat} : rowR (.ref l) S = (cl S l) := nr rfl
theorem cat_d {x y : D} {k : List D → Prop} : catD x y S k = (onO (rowR x S) fun a => onO (rowR y S) fun b => a.length + b.length ≤ SZ ∧ k (a ++ b)) := by
  unfold catD
  cases rowR x S <;> (try rfl)
  cases rowR y S <;> rfl
theorem setn_l {ds : List D} {k : Int → Prop} : setN (.lst ds) S k = (onO (rws? ds) fun ks => ks.length < 64 ∧ k ((ddl ks).length : Nat)) := by
  unfold setN nsetD
  simp only
  cases rws? ds <;> rfl
theorem setn_r {l : Nat} {k : Int → Prop} : setN (.ref l) S k = (onO (cl S l) fun ds => onO (rws? ds) fun ks => ks.length < 64 ∧ k ((ddl ks).length : Nat)) := by
  simp only [setN]
  cases cl S l
  · rfl
  · rename_i ds
    simp only [onO, nsetD]
    cases rws? ds <;> rfl
theorem isn_lst_true {x : D} {ys : List D} {k : Bool → Prop} : isnD true x (.lst ys) S k = ((pure? DEEP x = true ∧ pures? DEEP ys = true) ∧ k (!inD x ys)) := nr rfl
theorem isn_lst_false {x : D} {ys : List D} {k : Bool → Prop} : isnD false x (.lst ys) S k = ((pure? DEEP x = true ∧ pures? DEEP ys = true) ∧ k (inD x ys)) := nr rfl
theorem isn_tup_true {x : D} {ys : List D} {k : Bool → Prop} : isnD true x (.tup ys) S k = ((pure? DEEP x = true ∧ pures? DEEP ys = true) ∧ k (!inD x ys)) := nr rfl
theorem isn_tup_false {x : D} {ys : List D} {k : Bool → Prop} : isnD false x (.tup ys) S k = ((pure? DEEP x = true ∧ pures? DEEP ys = true) ∧ k (inD x ys)) := nr rfl
theorem isn_ref_true {x : D} {l : Nat} {k : Bool → Prop} : isnD true x (.ref l) S k = (onO (cl S l) fun ys => (pure? DEEP x = true ∧ pures? DEEP ys = true) ∧ k (!inD x ys)) := by
  simp only [isnD]
  cases cl S l <;> rfl
theorem isn_ref_false {x : D} {l : Nat} {k : Bool → Prop} : isnD false x (.ref l) S k = (onO (cl S l) fun ys => (pure? DEEP x = true ∧ pures? DEEP ys = true) ∧ k (inD x ys)) := by
  simp only [isnD]
  cases cl S l <;> rfl
theorem cntL_l {ds : List D} {k : List D → Prop} : cntL (.lst ds) k = (k ds) := nr rfl
theorem cnt_t {ds : List D} {i : Int} {k : Int → Prop} : cntD ds (.int i) k = (onO (ints? ds) fun is => k (is.count i : Nat)) := by
  unfold cntD
  simp only
  cases ints? ds <;> rfl
theorem rev_t {ds : List D} {k : D → Prop} : revD (.tup ds) k = (k (.tup ds.reverse)) := nr rfl
theorem rev_l {ds : List D} {k : D → Prop} : revD (.lst ds) k = (k (.lst ds.reverse)) := nr rfl
theorem rev_ti {ns : List Int} {k : D → Prop} : revD (ti ns) k = (k (ti ns.reverse)) := by
  show k (.tup (ns.map D.int).reverse) = _
  rw [← List.map_reverse] <;> rfl
theorem onDre_d {l : Nat} {k : Nat → Prop} : onDre (.dre l) k = (k l) := nr rfl
theorem onFn_f {tbl : List (Str × Nat)} {x : Str} {k : Nat → Prop} : onFn tbl (.fn x) k = (onO (tbl.lookup x) k) := by
  simp only [onFn]
  cases tbl.lookup x <;> rfl
theorem onRef_r {l : Nat} {k : Nat → Prop} : onRef (.ref l) k = (k l) := nr rfl
theorem two_tt {xs ys : List D} {k : D → Prop} : zpS (.tup xs) (.tup ys) S k = (k (.itr (zipD xs ys))) := nr rfl
theorem two_ll {xs ys : List D} {k : D → Prop} : zpS (.lst xs) (.lst ys) S k = (k (.itr (zipD xs ys))) := nr rfl
theorem two_tl {xs ys : List D} {k : D → Prop} : zpS (.tup xs) (.lst ys) S k = (k (.itr (zipD xs ys))) := nr rfl
theorem two_ti {xs ys : List Int} {k : D → Prop} : zpS (ti xs) (ti ys) S k = (k (.itr (zipD (xs.map D.int) (ys.map D.int)))) := nr rfl
theorem two_tr {xs : List D} {l : Nat} {k : D → Prop} : zpS (.tup xs) (.ref l) S k = (onO (cl S l) fun ys => k (.itg l ys (zipD xs ys))) := by
  simp only [zpS]
  cases cl S l <;> rfl
theorem still_t {xs : List D} {f : List D → List D} {k : D → Prop} : enS (.tup xs) S f k = (k (.itr (f xs))) := nr rfl
theorem still_ti {xs : List Int} {f : List D → List D} {k : D → Prop} : enS (ti xs) S f k = (k (.itr (f (xs.map D.int)))) := nr rfl
theorem still_r {l : Nat} {f : List D → List D} {k : D → Prop} : enS (.ref l) S f k = (onO (cl S l) fun xs => k (.itg l xs (f xs))) := by
  simp only [enS]
  cases cl S l <;> rfl
theorem itm_itg {l : Nat} {es ds : List D} {p : Gd → List D → Prop} : itm (.itg l es ds) S p = (p (some (l, es, none)) ds) := nr rfl
theorem itm_itg2 {l l' : Nat} {es es' ds : List D} {p : Gd → List D → Prop} : itm (.itg2 l es l' es' ds) S p = (p (some (l, es, some (l', es'))) ds) := nr rfl
theorem two_rr {l l' : Nat} {k : D → Prop} : zpS (.ref l) (.ref l') S k = (onO (cl S l) fun xs => onO (cl S l') fun ys => k (.itg2 l xs l' ys (zipD xs ys))) := by
  simp only [zpS]
  cases cl S l <;> try rfl
  cases cl S l' <;> rfl
theorem two_lt {xs ys : List D} {k : D → Prop} : zpS (.lst xs) (.tup ys) S k = (k (.itr (zipD xs ys))) := nr rfl
theorem two_lr {xs : List D} {l : Nat} {k : D → Prop} : zpS (.lst xs) (.ref l) S k = (onO (cl S l) fun ys => k (.itg l ys (zipD xs ys))) := by
  simp only [zpS]
  cases cl S l <;> rfl
theorem two_rt {ys : List D} {l : Nat} {k : D → Prop} : zpS (.ref l) (.tup ys) S k = (onO (cl S l) fun xs => k (.itg l xs (zipD xs ys))) := by
  simp only [zpS]
  cases cl S l <;> rfl
theorem two_rl {ys : List D} {l : Nat} {k : D → Prop} : zpS (.ref l) (.lst ys) S k = (onO (cl S l) fun xs => k (.itg l xs (zipD xs ys))) := by
  simp only [zpS]
  cases cl S l <;> rfl
theorem rpt_l {xs : List D} {i : Int} {k : List D → Prop} : rptD (.lst xs) (.int i) k = ((0 ≤ i ∧ i ≤ SZ ∧ xs.length * i.toNat ≤ SZ) ∧ k (List.replicate i.toNat xs).flatten) := nr rfl
theorem still_l {xs : List D} {f : List D → List D} {k : D → Prop} : enS (.lst xs) S f k = (k (.itr (f xs))) := nr rfl
theorem cut_tup {ds : List D} {lo hi : Option Int} {k : D → Prop} : cut (.tup ds) lo hi S k = (k (.tup (slice ds lo hi))) := nr rfl
theorem cut_lst {ds : List D} {lo hi : Option Int} {k : D → Prop} : cut (.lst ds) lo hi S k = (k (.lst (slice ds lo hi))) := nr rfl
theorem cut_frz {ds : List D} {lo hi : Option Int} {k : D → Prop} : cut (.frz ds) lo hi S k = (k (.lst (slice ds lo hi))) := nr rfl
theorem cut_ti {ns : List Int} {lo hi : Option Int} {k : D → Prop} : cut (ti ns) lo hi S k = (k (.tup (slice (ns.map D.int) lo hi))) := nr rfl
theorem bop_titi {xs ys : List Int} {k : D → Prop} : bop .add (ti xs) (ti ys) k = ((xs.map D.int).length + (ys.map D.int).length ≤ SZ ∧ k (.tup (xs.map D.int ++ ys.map D.int))) := nr rfl
theorem cop_eq_ti {xs ys : List Int} {k : Bool → Prop} : cop .eq (ti xs) (ti ys) k = (k (decide (xs = ys))) := by
  show ((_ ∧ _) ∧ k (eqD (ti xs) (ti ys))) = _
  rw [eq_ti, pure_ti, pure_ti]; simp
theorem cop_ne_ti {xs ys : List Int} {k : Bool → Prop} : cop .ne (ti xs) (ti ys) k = (k (!decide (xs = ys))) := by
  show ((_ ∧ _) ∧ k (!eqD (ti xs) (ti ys))) = _
  rw [eq_ti, pure_ti, pure_ti]; simp
theorem wp0_nil  : wp0 σ [] = (σ) := nr rfl
theorem wp_0 {x0 : Option D} {r : Env} : wp0 (x0 :: r) [0] = (none :: r) := nr rfl
theorem wp_1 {x0 x1 : Option D} {r : Env} : wp0 (x0 :: x1 :: r) [1] = (x0 :: none :: r) := nr rfl
theorem wp_2 {x0 x1 x2 : Option D} {r : Env} : wp0 (x0 :: x1 :: x2 :: r) [2] = (x0 :: x1 :: none :: r) := nr rfl
theorem wp_3 {x0 x1 x2 x3 : Option D} {r : Env} : wp0 (x0 :: x1 :: x2 :: x3 :: r) [3] = (x0 :: x1 :: x2 :: none :: r) := nr rfl
theorem wp_4 {x0 x1 x2 x3 x4 : Option D} {r : Env} : wp0 (x0 :: x1 :: x2 :: x3 :: x4 :: r) [4] = (x0 :: x1 :: x2 :: x3 :: none :: r) := nr rfl
theorem wp_5 {x0 x1 x2 x3 x4 x5 : Option D} {r : Env} : wp0 (x0 :: x1 :: x2 :: x3 :: x4 :: x5 :: r) [5] = (x0 :: x1 :: x2 :: x3 :: x4 :: none :: r) := nr rfl
theorem wp_6 {x0 x1 x2 x3 x4 x5 x6 : Option D} {r : Env} : wp0 (x0 :: x1 :: x2 :: x3 :: x4 :: x5 :: x6 :: r) [6] = (x0 :: x1 :: x2 :: x3 :: x4 :: x5 :: none :: r) := nr rfl
theorem wp_7 {x0 x1 x2 x3 x4 x5 x6 x7 : Option D} {r : Env} : wp0 (x0 :: x1 :: x2 :: x3 :: x4 :: x5 :: x6 :: x7 :: r) [7] = (x0 :: x1 :: x2 :: x3 :: x4 :: x5 :: x6 :: none :: r) := nr rfl
theorem wp_8 {x0 x1 x2 x3 x4 x5 x6 x7 x8 : Option D} {r : Env} : wp0 (x0 :: x1 :: x2 :: x3 :: x4 :: x5 :: x6 :: x7 :: x8 :: r) [8] = (x0 :: x1 :: x2 :: x3 :: x4 :: x5 :: x6 :: x7 :: none :: r) := nr rfl
theorem wp_9 {x0 x1 x2 x3 x4 x5 x6 x7 x8 x9 : Option D} {r : Env} : wp0 (x0 :: x1 :: x2 :: x3 :: x4 :: x5 :: x6 :: x7 :: x8 :: x9 :: r) [9] = (x0 :: x1 :: x2 :: x3 :: x4 :: x5 :: x6 :: x7 :: x8 :: none :: r) := nr rfl
theorem wp_10 {x0 x1 x2 x3 x4 x5 x6 x7 x8 x9 x10 : Option D} {r : Env} : wp0 (x0 :: x1 :: x2 :: x3 :: x4 :: x5 :: x6 :: x7 :: x8 :: x9 :: x10 :: r) [10] = (x0 :: x1 :: x2 :: x3 :: x4 :: x5 :: x6 :: x7 :: x8 :: x9 :: none :: r) := nr rfl
theorem wp_11 {x0 x1 x2 x3 x4 x5 x6 x7 x8 x9 x10 x11 : Option D} {r : Env} : wp0 (x0 :: x1 :: x2 :: x3 :: x4 :: x5 :: x6 :: x7 :: x8 :: x9 :: x10 :: x11 :: r) [11] = (x0 :: x1 :: x2 :: x3 :: x4 :: x5 :: x6 :: x7 :: x8 :: x9 :: x10 :: none :: r) := nr rfl
theorem wp_12 {x0 x1 x2 x3 x4 x5 x6 x7 x8 x9 x10 x11 x12 : Option D} {r : Env} : wp0 (x0 :: x1 :: x2 :: x3 :: x4 :: x5 :: x6 :: x7 :: x8 :: x9 :: x10 :: x11 :: x12 :: r) [12] = (x0 :: x1 :: x2 :: x3 :: x4 :: x5 :: x6 :: x7 :: x8 :: x9 :: x10 :: x11 :: none :: r) := nr rfl
theorem wp_13 {x0 x1 x2 x3 x4 x5 x6 x7 x8 x9 x10 x11 x12 x13 : Option D} {r : Env} : wp0 (x0 :: x1 :: x2 :: x3 :: x4 :: x5 :: x6 :: x7 :: x8 :: x9 :: x10 :: x11 :: x12 :: x13 :: r) [13] = (x0 :: x1 :: x2 :: x3 :: x4 :: x5 :: x6 :: x7 :: x8 :: x9 :: x10 :: x11 :: x12 :: none :: r) := nr rfl
theorem wp_14 {x0 x1 x2 x3 x4 x5 x6 x7 x8 x9 x10 x11 x12 x13 x14 : Option D} {r : Env} : wp0 (x0 :: x1 :: x2 :: x3 :: x4 :: x5 :: x6 :: x7 :: x8 :: x9 :: x10 :: x11 :: x12 :: x13 :: x14 :: r) [14] = (x0 :: x1 :: x2 :: x3 :: x4 :: x5 :: x6 :: x7 :: x8 :: x9 :: x10 :: x11 :: x12 :: x13 :: none :: r) := nr rfl
theorem wp_15 {x0 x1 x2 x3 x4 x5 x6 x7 x8 x9 x10 x11 x12 x13 x14 x15 : Option D} {r : Env} : wp0 (x0 :: x1 :: x2 :: x3 :: x4 :: x5 :: x6 :: x7 :: x8 :: x9 :: x10 :: x11 :: x12 :: x13 :: x14 :: x15 :: r) [15] = (x0 :: x1 :: x2 :: x3 :: x4 :: x5 :: x6 :: x7 :: x8 :: x9 :: x10 :: x11 :: x12 :: x13 :: x14 :: none :: r) := nr rfl
theorem wp_16 {x0 x1 x2 x3 x4 x5 x6 x7 x8 x9 x10 x11 x12 x13 x14 x15 x16 : Option D} {r : Env} : wp0 (x0 :: x1 :: x2 :: x3 :: x4 :: x5 :: x6 :: x7 :: x8 :: x9 :: x10 :: x11 :: x12 :: x13 :: x14 :: x15 :: x16 :: r) [16] = (x0 :: x1 :: x2 :: x3 :: x4 :: x5 :: x6 :: x7 :: x8 :: x9 :: x10 :: x11 :: x12 :: x13 :: x14 :: x15 :: none :: r) := nr rfl
theorem wp_17 {x0 x1 x2 x3 x4 x5 x6 x7 x8 x9 x10 x11 x12 x13 x14 x15 x16 x17 : Option D} {r : Env} : wp0 (x0 :: x1 :: x2 :: x3 :: x4 :: x5 :: x6 :: x7 :: x8 :: x9 :: x10 :: x11 :: x12 :: x13 :: x14 :: x15 :: x16 :: x17 :: r) [17] = (x0 :: x1 :: x2 :: x3 :: x4 :: x5 :: x6 :: x7 :: x8 :: x9 :: x10 :: x11 :: x12 :: x13 :: x14 :: x15 :: x16 :: none :: r) := nr rfl
theorem wp_18 {x0 x1 x2 x3 x4 x5 x6 x7 x8 x9 x10 x11 x12 x13 x14 x15 x16 x17 x18 : Option D} {r : Env} : wp0 (x0 :: x1 :: x2 :: x3 :: x4 :: x5 :: x6 :: x7 :: x8 :: x9 :: x10 :: x11 :: x12 :: x13 :: x14 :: x15 :: x16 :: x17 :: x18 :: r) [18] = (x0 :: x1 :: x2 :: x3 :: x4 :: x5 :: x6 :: x7 :: x8 :: x9 :: x10 :: x11 :: x12 :: x13 :: x14 :: x15 :: x16 :: x17 :: none :: r) := nr rfl
theorem wp_19 {x0 x1 x2 x3 x4 x5 x6 x7 x8 x9 x10 x11 x12 x13 x14 x15 x16 x17 x18 x19 : Option D} {r : Env} : wp0 (x0 :: x1 :: x2 :: x3 :: x4 :: x5 :: x6 :: x7 :: x8 :: x9 :: x10 :: x11 :: x12 :: x13 :: x14 :: x15 :: x16 :: x17 :: x18 :: x19 :: r) [19] = (x0 :: x1 :: x2 :: x3 :: x4 :: x5 :: x6 :: x7 :: x8 :: x9 :: x10 :: x11 :: x12 :: x13 :: x14 :: x15 :: x16 :: x17 :: x18 :: none :: r) := nr rfl
theorem wp_20 {x0 x1 x2 x3 x4 x5 x6 x7 x8 x9 x10 x11 x12 x13 x14 x15 x16 x17 x18 x19 x20 : Option D} {r : Env} : wp0 (x0 :: x1 :: x2 :: x3 :: x4 :: x5 :: x6 :: x7 :: x8 :: x9 :: x10 :: x11 :: x12 :: x13 :: x14 :: x15 :: x16 :: x17 :: x18 :: x19 :: x20 :: r) [20] = (x0 :: x1 :: x2 :: x3 :: x4 :: x5 :: x6 :: x7 :: x8 :: x9 :: x10 :: x11 :: x12 :: x13 :: x14 :: x15 :: x16 :: x17 :: x18 :: x19 :: none :: r) := nr rfl
theorem wp_21 {x0 x1 x2 x3 x4 x5 x6 x7 x8 x9 x10 x11 x12 x13 x14 x15 x16 x17 x18 x19 x20 x21 : Option D} {r : Env} : wp0 (x0 :: x1 :: x2 :: x3 :: x4 :: x5 :: x6 :: x7 :: x8 :: x9 :: x10 :: x11 :: x12 :: x13 :: x14 :: x15 :: x16 :: x17 :: x18 :: x19 :: x20 :: x21 :: r) [21] = (x0 :: x1 :: x2 :: x3 :: x4 :: x5 :: x6 :: x7 :: x8 :: x9 :: x10 :: x11 :: x12 :: x13 :: x14 :: x15 :: x16 :: x17 :: x18 :: x19 :: x20 :: none :: r) := nr rfl
theorem wp_22 {x0 x1 x2 x3 x4 x5 x6 x7 x8 x9 x10 x11 x12 x13 x14 x15 x16 x17 x18 x19 x20 x21 x22 : Option D} {r : Env} : wp0 (x0 :: x1 :: x2 :: x3 :: x4 :: x5 :: x6 :: x7 :: x8 :: x9 :: x10 :: x11 :: x12 :: x13 :: x14 :: x15 :: x16 :: x17 :: x18 :: x19 :: x20 :: x21 :: x22 :: r) [22] = (x0 :: x1 :: x2 :: x3 :: x4 :: x5 :: x6 :: x7 :: x8 :: x9 :: x10 :: x11 :: x12 :: x13 :: x14 :: x15 :: x16 :: x17 :: x18 :: x19 :: x20 :: x21 :: none :: r) := nr rfl
theorem wp_23 {x0 x1 x2 x3 x4 x5 x6 x7 x8 x9 x10 x11 x12 x13 x14 x15 x16 x17 x18 x19 x20 x21 x22 x23 : Option D} {r : Env} : wp0 (x0 :: x1 :: x2 :: x3 :: x4 :: x5 :: x6 :: x7 :: x8 :: x9 :: x10 :: x11 :: x12 :: x13 :: x14 :: x15 :: x16 :: x17 :: x18 :: x19 :: x20 :: x21 :: x22 :: x23 :: r) [23] = (x0 :: x1 :: x2 :: x3 :: x4 :: x5 :: x6 :: x7 :: x8 :: x9 :: x10 :: x11 :: x12 :: x13 :: x14 :: x15 :: x16 :: x17 :: x18 :: x19 :: x20 :: x21 :: x22 :: none :: r) := nr rfl
theorem rng_1  : rngI 0 ((1 : Int)).toNat = ([.int 0]) := nr rfl
theorem rng_2  : rngI 0 ((2 : Int)).toNat = ([.int 0, .int 1]) := nr rfl
theorem rng_3  : rngI 0 ((3 : Int)).toNat = ([.int 0, .int 1, .int 2]) := nr rfl
theorem rng_4  : rngI 0 ((4 : Int)).toNat = ([.int 0, .int 1, .int 2, .int 3]) := nr rfl
theorem rng_5  : rngI 0 ((5 : Int)).toNat = ([.int 0, .int 1, .int 2, .int 3, .int 4]) := nr rfl
theorem rng_6  : rngI 0 ((6 : Int)).toNat = ([.int 0, .int 1, .int 2, .int 3, .int 4, .int 5]) := nr rfl
theorem rng_7  : rngI 0 ((7 : Int)).toNat = ([.int 0, .int 1, .int 2, .int 3, .int 4, .int 5, .int 6]) := nr rfl
theorem fc_cons {one : D → Store → (List D → Store → Prop) → Prop} {x : D} {xs : List D} {k : List D → Store → Prop} : forC none one (x :: xs) S k = (one x S fun ys S1 => forC none one xs S1 fun zs S2 => k (ys ++ zs) S2) := nr rfl
theorem fc_nil {one : D → Store → (List D → Store → Prop) → Prop} {k : List D → Store → Prop} : forC none one [] S k = (k [] S) := nr rfl
theorem brkT {p q : Prop} : brk true p q = (p) := nr rfl
theorem brkF {p q : Prop} : brk false p q = (q) := nr rfl
end
end FV
local macro_rules | `(tactic| simp! only [$xs,*] $[$l]?) => `(tactic| simp only [$xs,*, ↓FV.ev_v0, ↓FV.ev_v1, ↓FV.ev_v2, ↓FV.ev_v3, ↓FV.ev_v4, ↓FV.ev_v5, ↓FV.ev_v6, ↓FV.ev_v7, ↓FV.ev_v8, ↓FV.ev_v9, ↓FV.ev_v10, ↓FV.ev_v11, ↓FV.ev_v12, ↓FV.ev_v13, ↓FV.ev_v14, ↓FV.ev_v15, ↓FV.ev_v16, ↓FV.ev_v17, ↓FV.ev_v18, ↓FV.ev_v19, ↓FV.ev_v20, ↓FV.ev_v21, ↓FV.ev_v22, ↓FV.ev_v23, ↓FV.ev_cst, ↓FV.ev_glb, ↓FV.ev_bin, ↓FV.ev_neg, ↓FV.ev_not, ↓FV.ev_cmp, ↓FV.ev_cmp2, ↓FV.ev_and, ↓FV.ev_or, ↓FV.ev_ite, ↓FV.ev_tup, ↓FV.ev_lst, ↓FV.ev_idx, ↓FV.ev_slc, ↓FV.ev_call, ↓FV.ev_callk, ↓FV.ev_bi, ↓FV.ev_isi, ↓FV.ev_isi2, ↓FV.ev_lc, ↓FV.ev_lc2, ↓FV.ev_tcat, ↓FV.ev_rng, ↓FV.ev_rng1, ↓FV.ev_zip, ↓FV.ev_enm, ↓FV.ev_cnt, ↓FV.ev_nset, ↓FV.ev_rngd, ↓FV.ev_eqm, ↓FV.ev_cntl, ↓FV.ev_lstf, ↓FV.ev_lrg1, ↓FV.ev_lrg2, ↓FV.ev_dct, ↓FV.ev_tget, ↓FV.ev_tin, ↓FV.ev_tls, ↓FV.ev_dsp, ↓FV.ev_dget, ↓FV.ev_rpt, ↓FV.ev_dnew, ↓FV.ev_dlen, ↓FV.ev_dsrt, ↓FV.ev_pop, ↓FV.ev_fnv, ↓FV.ev_callv, ↓FV.ev_cat, ↓FV.ev_isn, ↓FV.ev_rev, ↓FV.ev_app, ↓FV.evs_nil, ↓FV.evs_cons, ↓FV.evss_nil, ↓FV.evss_f, ↓FV.evss_t, ↓FV.spr_tup, ↓FV.spr_lst, ↓FV.spr_frz, ↓FV.spr_ti, ↓FV.evo_n, ↓FV.evo_s, ↓FV.evt_n, ↓FV.evt_s, ↓FV.ex_set, ↓FV.ex_par, ↓FV.ex_expr, ↓FV.ex_ret, ↓FV.ex_retN, ↓FV.ex_iff, ↓FV.ex_for, ↓FV.ex_whl, ↓FV.ex_raise, ↓FV.ex_pass, ↓FV.ex_brk, ↓FV.ex_cont, ↓FV.exs_nil, ↓FV.exs_cons, ↓FV.tvf, ↓FV.tvt, ↓FV.asB_bl, ↓FV.asI_i, ↓FV.bop_add, ↓FV.bop_sub, ↓FV.bop_mul, ↓FV.bop_fdv, ↓FV.bop_mod, ↓FV.bop_pow, ↓FV.bop_sbb, ↓FV.bop_tt, ↓FV.bop_ll, ↓FV.bop_lm, ↓FV.cop_eq, ↓FV.cop_ne, ↓FV.cop_lt, ↓FV.cop_le, ↓FV.cop_gt, ↓FV.cop_ge, ↓FV.cop_eq_rep, ↓FV.cop_ne_rep, ↓FV.cop_eq_tup, ↓FV.cop_ne_tup, ↓FV.cop_eq_lst, ↓FV.cop_ne_lst, ↓FV.cop_eq_str, ↓FV.cop_ne_str, ↓FV.cop_eq_bl, ↓FV.cop_ne_bl, ↓FV.cop_eq_non, ↓FV.cop_ne_non, ↓FV.cop_is_n, ↓FV.cop_is_b, ↓FV.cop_isnot_n, ↓FV.cop_isnot_b, ↓FV.cop_isin_lst, ↓FV.cop_isin_tup, ↓FV.cop_notin_lst, ↓FV.cop_notin_tup, ↓FV.tru_non, ↓FV.tru_bl, ↓FV.tru_int, ↓FV.tru_tup, ↓FV.tru_lst, ↓FV.seq_tup, ↓FV.itm_tup, ↓FV.seq_lst, ↓FV.itm_lst, ↓FV.seq_frz, ↓FV.itm_frz, ↓FV.itm_itr, ↓FV.seq_ref, ↓FV.itm_ref, ↓FV.seq_ti, ↓FV.itm_ti, ↓FV.onO_s, ↓FV.nth_0, ↓FV.nth_1, ↓FV.nth_2, ↓FV.nth_3, ↓FV.nth_4, ↓FV.nth_5, ↓FV.nth_6, ↓FV.nth_7, ↓FV.nth_8, ↓FV.nth_9, ↓FV.nth_10, ↓FV.nth_11, ↓FV.nth_12, ↓FV.bf_len, ↓FV.bf_abs, ↓FV.bf_max, ↓FV.bf_min, ↓FV.bf_int, ↓FV.bf_intb, ↓FV.bf_dm, ↓FV.bf_gcd, ↓FV.bf_all, ↓FV.bf_any, ↓FV.bf_anyt, ↓FV.bf_sum, ↓FV.bf_tup, ↓FV.bf_repl, ↓FV.bf_stri, ↓FV.bf_sumr, ↓FV.bf_maxl, ↓FV.bf_sort, ↓FV.bf_sortt, ↓FV.bf_rept, ↓FV.bf_lst, ↓FV.asg_nm, ↓FV.asg_tp, ↓FV.asg_ls, ↓FV.asg_sub, ↓FV.asg_dsub, ↓FV.asg_tg, ↓FV.asg_ti, ↓FV.asgs_nil, ↓FV.asgs_cons, ↓FV.mk_f, ↓FV.mk_t, ↓FV.setn_l, ↓FV.setn_r, ↓FV.isn_lst_true, ↓FV.isn_lst_false, ↓FV.isn_tup_true, ↓FV.isn_tup_false, ↓FV.isn_ref_true, ↓FV.isn_ref_false, ↓FV.cnt_t, ↓FV.rev_t, ↓FV.rev_l, ↓FV.rev_ti, ↓FV.onDre_d, ↓FV.onFn_f, ↓FV.onRef_r, ↓FV.two_tt, ↓FV.two_ll, ↓FV.two_tl, ↓FV.two_ti, ↓FV.two_tr, ↓FV.still_t, ↓FV.still_ti, ↓FV.still_r, ↓FV.itm_itg, ↓FV.itm_itg2, ↓FV.two_rr, ↓FV.two_lt, ↓FV.two_lr, ↓FV.two_rt, ↓FV.two_rl, ↓FV.rpt_l, ↓FV.still_l, ↓FV.cut_tup, ↓FV.cut_lst, ↓FV.cut_frz, ↓FV.cut_ti, ↓FV.bop_titi, ↓FV.cop_eq_ti, ↓FV.cop_ne_ti, FV.non_non, FV.non_int, FV.ty_int_int, FV.ty_bool_int, FV.ty_str_int, FV.ty_tup_int, FV.ty_lst_int, FV.ty_dict_int, FV.non_bl, FV.ty_int_bl, FV.ty_bool_bl, FV.ty_str_bl, FV.ty_tup_bl, FV.ty_lst_bl, FV.ty_dict_bl, FV.non_str, FV.ty_int_str, FV.ty_bool_str, FV.ty_str_str, FV.ty_tup_str, FV.ty_lst_str, FV.ty_dict_str, FV.non_tup, FV.ty_int_tup, FV.ty_bool_tup, FV.ty_str_tup, FV.ty_tup_tup, FV.ty_lst_tup, FV.ty_dict_tup, FV.non_lst, FV.ty_int_lst, FV.ty_bool_lst, FV.ty_str_lst, FV.ty_tup_lst, FV.ty_lst_lst, FV.ty_dict_lst, FV.ty_int_non, FV.ty_int_ti, FV.ty_bool_non, FV.ty_bool_ti, FV.ty_str_non, FV.ty_str_ti, FV.ty_tup_non, FV.ty_tup_ti, FV.ty_lst_non, FV.ty_lst_ti, FV.ty_dict_non, FV.ty_dict_ti, FV.ty_int_rep, FV.ty_int_dic, FV.ty_bool_rep, FV.ty_bool_dic, FV.ty_str_rep, FV.ty_str_dic, FV.ty_tup_rep, FV.ty_tup_dic, FV.ty_lst_rep, FV.ty_lst_dic, FV.ty_dict_rep, FV.ty_dict_dic, FV.ta_tup, FV.ta_lst, FV.ta_ti, FV.ta_int, FV.ta_bl, FV.ta_str, FV.ta_non, FV.st_0, FV.st_1, FV.st_2, FV.st_3, FV.st_4, FV.st_5, FV.st_6, FV.st_7, FV.st_8, FV.st_9, FV.st_10, FV.st_11, FV.st_12, FV.st_13, FV.st_14, FV.st_15, FV.st_16, FV.st_17, FV.st_18, FV.st_19, FV.st_20, FV.st_21, FV.st_22, FV.st_23, FV.bp_nm, FV.bp_tp, FV.bp_ls, FV.bp_ti, FV.bps_nil, FV.bps_nm, FV.sts_nil, FV.sts_cons, FV.rowr_l, FV.rowr_r, FV.cat_d, FV.cntL_l, FV.wp0_nil, FV.wp_0, FV.wp_1, FV.wp_2, FV.wp_3, FV.wp_4, FV.wp_5, FV.wp_6, FV.wp_7, FV.wp_8, FV.wp_9, FV.wp_10, FV.wp_11, FV.wp_12, FV.wp_13, FV.wp_14, FV.wp_15, FV.wp_16, FV.wp_17, FV.wp_18, FV.wp_19, FV.wp_20, FV.wp_21, FV.wp_22, FV.wp_23, FV.rng_1, FV.rng_2, FV.rng_3, FV.rng_4, FV.rng_5, FV.rng_6, FV.rng_7, FV.brkT, FV.brkF, FV.ti1, FV.ti2, FV.ti3, FV.ti4, FV.ti5, FV.ti6, FV.ti_map, FV.eq_ti, FV.pick, List.cons_append, List.nil_append, List.map_cons, List.map_nil, List.getD_cons_zero, List.getD_cons_succ, Bool.not_true, Bool.not_false] $[$l]?)
set_option Elab.async false
set_option linter.all false
set_option maxRecDepth 100000
/-! Lb: loops; what the small defs do. -/
namespace FV
theorem brk_same {b : Bool} {p : Prop} (h : p) : brk b p p := by cases b <;> exact h
theorem brk_bl {b c : Bool} {S : Store} {k : D → Store → Prop} (h : k (.bl (b && c)) S) : brk b (k (.bl c) S) (k (.bl false) S) := by cases b <;> exact h
/-! ### loops -/
theorem forC_ints {one : D → Store → (List D → Store → Prop) → Prop} {f : Int → D} : ∀ {ns : List Int} {S : Store} {k : List D → Store → Prop}, (∀ i ∈ ns, ∀ k2 : List D → Store → Prop, k2 [f i] S → one (.int i) S k2) → k (ns.map f) S → forC none one (ns.map D.int) S k
  | [], S, k, _, h => h
  | i :: ns, S, k, w, h => w i List.mem_cons_self _ (forC_ints (fun j hj => w j (List.mem_cons_of_mem _ hj)) h)
theorem forC_filt {one : D → Store → (List D → Store → Prop) → Prop} {f : Int → D} {p : Int → Bool} : ∀ {ns : List Int} {S : Store} {k : List D → Store → Prop}, (∀ i ∈ ns, ∀ k2 : List D → Store → Prop, k2 (if p i = true then [f i] else []) S → one (.int i) S k2) → k ((ns.filter p).map f) S → forC none one (ns.map D.int) S k
  | [], S, k, _, h => h
  | i :: ns, S, k, w, h => w i List.mem_cons_self _ (forC_filt (fun j hj => w j (List.mem_cons_of_mem _ hj)) (by
      rw [List.filter_cons] at h
      cases e : p i with
      | true => rw [e] at h; exact h
      | false => rw [e] at h; exact h))
theorem forW_inv {body : Env → Store → Ends → Prop} {p : Pt} {N : Ends} {I : List D → Env → Store → Prop} : ∀ {ds : List D} {σ : Env} {S : Store}, I ds σ S →
    (∀ x xs σ S, I (x :: xs) σ S → ∃ σ', bindP p x σ = some σ' ∧ ∀ k : Env → Store → Prop, (∀ σ2 S2, I xs σ2 S2 → k σ2 S2) → body σ' S { N with nx := k, ct := k, bk := N.nx }) → (∀ σ S, I [] σ S → N.nx σ S) → forW none body p N ds σ S
  | [], σ, S, h0, _, h => h σ S h0
  | x :: xs, σ, S, h0, w, h => by
    obtain ⟨σ', e, w1⟩ := w x xs σ S h0
    show (match bindP p x σ with
      | some σ' => body σ' S { N with nx := fun σ2 S2 => forW none body p N xs σ2 S2, ct := fun σ2 S2 => forW none body p N xs σ2 S2, bk := N.nx }
      | none => False)
    rw [e]
    exact w1 _ fun σ2 S2 h2 => forW_inv h2 w h
section
variable {n : Nat} {S : Store} {k X : D → Store → Prop}
theorem s_is_whole {i : Int} (h : k (.bl true) S) : CT (n + 1) i_is_whole [.int i] S k X := c_is_whole h
theorem s_is_tuple_up_to {ds : List D} {a b : Int} (h : k (.bl (decide (a ≤ ds.length) && decide ((ds.length : Int) ≤ b))) S) : CT (n + 1) i_is_tuple_up_to [.tup ds, .int a, .int b] S k X := by
  refine c_is_tuple_up_to ?_
  simp! only [f_is_tuple_up_to]
  exact brk_bl h
theorem s_is_tuple_of {ds : List D} {a : Int} (h : k (.bl (decide ((ds.length : Int) = a))) S) : CT (n + 2) i_is_tuple_of [.tup ds, .int a] S k X := by
  refine c_is_tuple_of ?_
  simp! only [f_is_tuple_of]
  refine s_is_tuple_up_to ?_
  have e : (decide (a ≤ ds.length) && decide ((ds.length : Int) ≤ a)) = decide ((ds.length : Int) = a) := by
    by_cases q : (ds.length : Int) = a
    · simp [q]
    · simp only [q, decide_false]; simp; omega
  rw [e]
  exact h
theorem all_true : ∀ {ns : List Int}, bls? (ns.map fun _ => D.bl true) = some (ns.map fun _ => true)
  | [] => rfl
  | _ :: ns => by simp only [List.map_cons, bls?, all_true, Option.map_some]
theorem s_are_whole {ns : List Int} {a : Int} (hz : ns.length ≤ SZ) (h : k (.bl (decide ((ns.length : Int) = a))) S) : CT (n + 3) i_are_whole [ti ns, .int a] S k X := by
  refine c_are_whole ?_
  simp! only [f_are_whole]
  refine s_is_tuple_of ?_
  rw [List.length_map]
  by_cases q : (ns.length : Int) = a
  · simp! only [q, decide_true] at h ⊢
    refine ⟨by simpa using hz, forC_ints (f := fun _ => .bl true) (fun i hi k2 h2 => ?_) ?_⟩
    · simp! only [lc_app']
      exact s_is_whole h2
    · rw [all_true, onO_s]
      have e : (ns.map fun _ => true).all id = true := by simp
      rw [e]
      exact h
  · simp! only [q, decide_false] at h ⊢
    exact h
end
end FV
set_option Elab.async false
set_option linter.all false
set_option maxRecDepth 100000
/-! Lb2: draws. -/
namespace FV
/-! ### the store -/
theorem cl_set {S : Store} {l : Nat} {ds es : List D} (h : cl S l = some es) : cl (S.set l ds) l = some ds := by
  rw [cl_get] at h ⊢
  rw [List.getElem?_set_self (List.getElem?_eq_some_iff.mp h).1]
theorem cl_ne {S : Store} {l j : Nat} {ds : List D} (h : j ≠ l) : cl (S.set l ds) j = cl S j := by
  rw [cl_get, cl_get, List.getElem?_set_ne (Ne.symm h)]
theorem cl_new {S : Store} {ds : List D} : cl (S ++ [ds]) S.length = some ds := by
  rw [cl_get, List.getElem?_append_right (Nat.le_refl _), Nat.sub_self]
  rfl
theorem cl_old {S : Store} {l : Nat} {ds es : List D} (h : cl S l = some es) : cl (S ++ [ds]) l = some es := by
  rw [cl_get] at h ⊢
  rw [List.getElem?_append_left (List.getElem?_eq_some_iff.mp h).1]
  exact h
/-- a pool of draws in the cell l -/
def Pl (S : Store) (l : Nat) : Prop := ∃ a b c : Int, cl S l = some [.int a, .int b, .int c]
/-- .. drawn from -/
structure Dr (l : Nat) (S S' : Store) : Prop where
  len : S'.length = S.length
  pl : Pl S' l
  fr : ∀ j, j ≠ l → cl S' j = cl S j
theorem Dr.trans {l : Nat} {S S1 S2 : Store} (a : Dr l S S1) (b : Dr l S1 S2) : Dr l S S2 := ⟨b.len.trans a.len, b.pl, fun j hj => (b.fr j hj).trans (a.fr j hj)⟩
theorem Dr.refl {l : Nat} {S : Store} (h : Pl S l) : Dr l S S := ⟨rfl, h, fun _ _ => rfl⟩
theorem nth3_0 {a b c : D} : nth [a, b, c] 0 = some a := rfl
theorem nth3_1 {a b c : D} : nth [a, b, c] 1 = some b := rfl
theorem nth3_2 {a b c : D} : nth [a, b, c] 2 = some c := rfl
theorem set3_0 {a b c d : D} : [a, b, c].set (0 : Int).toNat d = [d, b, c] := rfl
theorem set3_1 {a b c d : D} : [a, b, c].set (1 : Int).toNat d = [a, d, c] := rfl
theorem set3_2 {a b c d : D} : [a, b, c].set (2 : Int).toNat d = [a, b, d] := rfl
theorem in3 {a b c : D} {j : Int} (h0 : 0 ≤ j) (h1 : j < 3) : 0 ≤ j ∧ j < (([a, b, c] : List D).length : Int) := ⟨h0, h1⟩
theorem fmod_lt {a b : Int} (h : 0 < b) : 0 ≤ a.fmod b ∧ a.fmod b < b := by
  rw [Int.fmod_eq_emod_of_nonneg _ (by omega)]
  exact ⟨Int.emod_nonneg _ (by omega), Int.emod_lt_of_pos _ h⟩
theorem mulOk_l {a b : Int} (h : -(2 ^ 64) < a) (h' : a < 2 ^ 64) : mulOk a b := .inl ⟨h, h'⟩
theorem mulOk_r {a b : Int} (h : -(2 ^ 64) < b) (h' : b < 2 ^ 64) : mulOk a b := .inr (.inl ⟨h, h'⟩)
section
variable {n : Nat} {S : Store} {k X : D → Store → Prop}
theorem nth_mem {ds : List D} {r : Int} (h0 : 0 ≤ r) (h1 : r < ds.length) : ∃ d, nth ds r = some d ∧ d ∈ ds := by
  have hi : r.toNat < ds.length := by omega
  refine ⟨ds[r.toNat], ?_, List.getElem_mem hi⟩
  show L2.atI ds r = _
  unfold L2.atI
  rw [ixN_in h0 h1]
  exact List.getElem?_eq_getElem hi
end
end FV
set_option Elab.async false
set_option linter.all false
set_option maxRecDepth 100000
/-! Lb3: divisors, plain rows. -/
namespace FV
def BIG : Nat := 2 ^ 8000
def Bd (ns : List Int) : Prop := ∀ x ∈ ns, x.natAbs < BIG
theorem Gg_le {ns : List Int} (h : fl ns ≠ 0) (b : Bd ns) : Gg ns < BIG := by
  have : ¬ ∀ x ∈ ns, x = 0 := fun z => h (fl_zero.mpr z)
  obtain ⟨x, hx⟩ := Classical.not_forall.mp this
  obtain ⟨hm, h0⟩ := Classical.not_imp.mp hx
  have d := Gg_dvd hm
  rw [← Int.dvd_natAbs, Int.natCast_dvd_natCast] at d
  exact Nat.lt_of_le_of_lt (Nat.le_of_dvd (by omega) d) (b x hm)
theorem dv_ok {ns : List Int} (h : fl ns ≠ 0) (b : Bd ns) : divOk (dv ns) := ⟨dv_ne h, by rw [dv_abs]; exact Gg_le h b⟩
section
variable {n : Nat} {S : Store} {k X : D → Store → Prop}
theorem loop_gcd {C : Hd} {N : Ends} {a : Option D} : ∀ {ns : List Int} {g : Int} {z : Option D}, (∀ z, N.nx [a, some (.int (ns.foldl gstep g)), z] S) →
    forW none (blk C X [.set (.pt (.nm 1)) (.bi .gcd [(.var 1), (.var 2)])]) (.nm 2) N (ns.map D.int) [a, some (.int g), z] S
  | [], g, z, h => h z
  | x :: xs, g, z, h => by
    simp! only [List.map_cons, fw_cons, blk_app]
    exact loop_gcd (ns := xs) (g := gstep g x) (z := some (.int x)) h
theorem s_divisor_of {ns : List Int} (h : k (.int (Gg ns : Int)) S) : CT (n + 1) i_divisor_of [ti ns] S k X := by
  refine c_divisor_of ?_
  simp! only [f_divisor_of]
  refine loop_gcd fun z => ?_
  simp! only [gfold0]
  exact h
theorem loop_first {C : Hd} {N : Ends} {a : Option D} : ∀ {ns : List Int} {z : Option D}, (fl ns ≠ 0 → N.rt (.int (fl ns)) S) → (fl ns = 0 → ∀ z, N.nx [a, z] S) →
    forW none (blk C X [.iff (.cmp .ne (.var 1) (.cst (.int 0))) [.ret (.var 1)] []]) (.nm 1) N (ns.map D.int) [a, z] S
  | [], z, _, h => h rfl z
  | x :: xs, z, h1, h2 => by
    simp! only [List.map_cons, fw_cons, blk_app]
    by_cases hx : x = 0
    · subst hx
      exact loop_first (ns := xs) (z := some (.int 0)) h1 h2
    · have e : fl (x :: xs) = x := by simp [fl, hx]
      rw [e] at h1
      simp! only [hx, decide_false, Bool.not_false]
      exact h1 hx
theorem s_first_live {ns : List Int} (h : k (.int (fl ns)) S) : CT (n + 1) i_first_live [ti ns] S k X := by
  refine c_first_live ?_
  simp! only [f_first_live]
  refine loop_first (fun _ => h) fun e z => ?_
  simp! only [↓ev_v0]
  rw [e] at h
  exact h
theorem s_plain_of {ns : List Int} (hf : fl ns ≠ 0) (hb : Bd ns) (hz : ns.length ≤ SZ) (h : k (ti (pn ns)) S) : CT (n + 2) i_plain_of [ti ns] S k X := by
  refine c_plain_of ?_
  simp! only [f_plain_of]
  refine s_divisor_of ?_
  simp! only [↓ev_v0]
  refine s_first_live ?_
  simp! only [↓ev_v0]
  have fin : forC none (lcOne (CT (n + 1)) X [2] (.nm 2) none (.bin .fdiv (.var 2) (.var 1)) [some (ti ns), some (.int (dv ns)), none]) (ns.map D.int) S fun zs S5 => k (.tup zs) S5 := by
    refine forC_ints (f := fun x => .int (x.fdiv (dv ns))) (fun i hi k2 h2 => ?_) ?_
    · simp! only [lc_app']
      exact ⟨dv_ok hf hb, h2⟩
    · have e : (ns.map fun x => D.int (x.fdiv (dv ns))) = (pn ns).map D.int := by unfold pn; rw [List.map_map]; rfl
      rw [e]
      exact h
  refine brk_i (fun e => ?_) fun e => ?_
  · have d1 : dv ns = (Gg ns : Int) := by unfold dv; rw [if_pos (of_decide_eq_true e)]
    refine ⟨by simpa using hz, ?_⟩
    rw [d1] at fin
    exact fin
  · have d1 : dv ns = -(Gg ns : Int) := by unfold dv; rw [if_neg (of_decide_eq_false e)]
    refine ⟨by simpa using hz, ?_⟩
    rw [d1] at fin
    exact fin
theorem s_is_plain {ns : List Int} {a : Int} (hz : ns.length ≤ SZ) (hl : (ns.length : Int) = a) (hp : Prim ns) (h : k (.bl true) S) : CT (n + 4) i_is_plain [ti ns, .int a] S k X := by
  refine c_is_plain ?_
  simp! only [f_is_plain]
  refine s_are_whole hz ?_
  simp! only [hl, decide_true]
  refine s_divisor_of ?_
  simp! only [hp.1]
  refine brk_t rfl ?_
  refine s_first_live ?_
  simp! only [↓ev_v0]
  rw [decide_eq_true hp.2]
  exact h
theorem s_is_triple {ns : List Int} (hl : ns.length = 3) (hp : Prim ns) (h : k (.bl true) S) : CT (n + 5) i_is_triple [ti ns] S k X := by
  refine c_is_triple ?_
  simp! only [f_is_triple]
  exact s_is_plain (by rw [hl]; decide) (by rw [hl]; rfl) hp h
/-! ### the law's own -/
theorem abs_cast (a : Int) : (if a < 0 then -a else a) = (a.natAbs : Int) := by split <;> omega
theorem fl_filter : ∀ {ns : List Int}, fl ns ≠ 0 → ∃ r, ns.filter (fun x => !decide (x = 0)) = fl ns :: r
  | [], h => absurd rfl h
  | x :: xs, h => by
    by_cases hx : x = 0
    · subst hx
      obtain ⟨r, e⟩ := fl_filter (ns := xs) h
      exact ⟨r, by rw [List.filter_cons]; exact e⟩
    · refine ⟨xs.filter fun x => !decide (x = 0), ?_⟩
      rw [List.filter_cons]
      simp [hx, fl]
theorem nth_hd {d : D} {ds : List D} : nth (d :: ds) 0 = some d := by
  show L2.atI (d :: ds) 0 = _
  unfold L2.atI
  rw [ixN_in (by decide) (by simp only [List.length_cons]; omega)]
  rfl
end
end FV
set_option Elab.async false
set_option linter.all false
/-! Mt2: three whole numbers. -/
namespace FV
theorem prim_cross {a b c d e f : Int} (h1 : Prim [a, b, c]) (h2 : Prim [d, e, f]) : [a, b, c] = [d, e, f] ↔ (b * f - c * e = 0 ∧ c * d - a * f = 0 ∧ a * e - b * d = 0) := by
  constructor
  · intro h
    simp only [List.cons.injEq, and_true] at h
    obtain ⟨rfl, rfl, rfl⟩ := h
    refine ⟨by grind, by grind, by grind⟩
  · rintro ⟨x1, x2, x3⟩
    have z1 : ¬ (a = 0 ∧ b = 0 ∧ c = 0) := fun z => fl_of_prim h1 (fl_zero.mpr (by simp [z.1, z.2.1, z.2.2]))
    have z2 : ¬ (d = 0 ∧ e = 0 ∧ f = 0) := fun z => fl_of_prim h2 (fl_zero.mpr (by simp [z.1, z.2.1, z.2.2]))
    by_cases hd : d = 0
    · by_cases he : e = 0
      · have hf : f ≠ 0 := fun z => z2 ⟨hd, he, z⟩
        subst hd; subst he
        have b0 : b = 0 := by
          have : b * f = 0 := by grind
          exact (Int.mul_eq_zero.mp this).resolve_right hf
        have a0 : a = 0 := by
          have : a * f = 0 := by grind
          exact (Int.mul_eq_zero.mp this).resolve_right hf
        have c0 : c ≠ 0 := fun z => z1 ⟨a0, b0, z⟩
        exact uniq h1 h2 hf c0 (by simp only [List.map_cons, List.map_nil, List.cons.injEq, and_true]; refine ⟨by grind, by grind, by grind⟩)
      · have b0 : b ≠ 0 := fun z => by
          have c0 : c = 0 := (Int.mul_eq_zero.mp (show c * e = 0 by grind)).resolve_right he
          have a0 : a = 0 := (Int.mul_eq_zero.mp (show a * e = 0 by grind)).resolve_right he
          exact z1 ⟨a0, z, c0⟩
        exact uniq h1 h2 he b0 (by simp only [List.map_cons, List.map_nil, List.cons.injEq, and_true]; refine ⟨by grind, by grind, by grind⟩)
    · have a0 : a ≠ 0 := fun z => by
        have c0 : c = 0 := (Int.mul_eq_zero.mp (show c * d = 0 by grind)).resolve_right hd
        have b0 : b = 0 := (Int.mul_eq_zero.mp (show b * d = 0 by grind)).resolve_right hd
        exact z1 ⟨z, b0, c0⟩
      exact uniq h1 h2 hd a0 (by simp only [List.map_cons, List.map_nil, List.cons.injEq, and_true]; refine ⟨by grind, by grind, by grind⟩)
theorem three {ns : List Int} (h : ns.length = 3) : ∃ a b c, ns = [a, b, c] := by
  match ns, h with
  | [a, b, c], _ => exact ⟨a, b, c, rfl⟩
end FV
set_option Elab.async false
set_option linter.all false
set_option maxRecDepth 100000
/-! Lb4: the pool; what all laws begin with. -/
namespace FV
section
variable {n : Nat} {S : Store} {k X : D → Store → Prop}
theorem nth_ints {ns : List Int} {t : Int} (h0 : 0 ≤ t) (h1 : t < ns.length) : ∃ i, nth (ns.map D.int) t = some (.int i) := by
  have h2 : t.toNat < (ns.map D.int).length := by rw [List.length_map]; omega
  refine ⟨ns[t.toNat]'(by omega), ?_⟩
  show L2.atI _ t = _
  unfold L2.atI
  rw [ixN_in h0 (by rw [List.length_map]; exact h1)]
  show (ns.map D.int)[t.toNat]? = _
  rw [List.getElem?_map, List.getElem?_eq_getElem (by omega)]
  rfl
theorem Dr.new {S : Store} {a b c : Int} : Pl (S ++ [[.int a, .int b, .int c]]) S.length := ⟨a, b, c, cl_new⟩
end
end FV
set_option Elab.async false
set_option linter.all false
set_option maxRecDepth 100000
/-! Lc: draws of the family k20 to k39. -/
namespace FV
/-- a pool of two numbers in the cell l -/
def P2 (S : Store) (l : Nat) : Prop := ∃ a b : Int, cl S l = some [.int a, .int b]
structure D2 (l : Nat) (S S' : Store) : Prop where
  len : S'.length = S.length
  pl : P2 S' l
  fr : ∀ j, j ≠ l → cl S' j = cl S j
theorem D2.trans {l : Nat} {S S1 S2 : Store} (a : D2 l S S1) (b : D2 l S1 S2) : D2 l S S2 := ⟨b.len.trans a.len, b.pl, fun j hj => (b.fr j hj).trans (a.fr j hj)⟩
theorem D2.refl {l : Nat} {S : Store} (h : P2 S l) : D2 l S S := ⟨rfl, h, fun _ _ => rfl⟩
section
variable {n : Nat} {S : Store} {k X : D → Store → Prop}
end
end FV
set_option Elab.async false
set_option linter.all false
set_option maxRecDepth 100000
/-! Ld: the program's sums and products of triples. -/
namespace FV
theorem zip3 {a b c d e f : D} : zipD [a, b, c] [d, e, f] = [.tup [a, d], .tup [b, e], .tup [c, f]] := rfl
section
variable {n : Nat} {S : Store} {k X : D → Store → Prop}
theorem s_dot {a b c d e f : Int} (h1 : mulOk a d) (h2 : mulOk b e) (h3 : mulOk c f) (h : k (.int (a * d + b * e + c * f)) S) : CT (n + 1) i_dot [ti [a, b, c], ti [d, e, f]] S k X := by
  refine c_dot ?_
  simp! only [f_dot, zip3, lc_app', fc_cons, fc_nil]
  refine ⟨by simp [SZ], h1, h2, h3, ?_⟩
  have e1 : ints? [D.int (a * d), .int (b * e), .int (c * f)] = some [a * d, b * e, c * f] := rfl
  show onO (ints? [D.int (a * d), .int (b * e), .int (c * f)]) (fun is => k (.int is.sum) S)
  rw [e1]
  have e2 : ([a * d, b * e, c * f] : List Int).sum = a * d + b * e + c * f := by simp [Int.add_assoc]
  show k (.int ([a * d, b * e, c * f] : List Int).sum) S
  rw [e2]
  exact h
theorem s_added {a b c d e f : Int} (h : k (ti [a + d, b + e, c + f]) S) : CT (n + 1) i_added [ti [a, b, c], ti [d, e, f]] S k X := by
  refine c_added ?_
  simp! only [f_added, zip3, lc_app', fc_cons, fc_nil]
  exact ⟨by simp [SZ], h⟩
theorem s_scaled {ns : List Int} {t : Int} (hz : ns.length ≤ SZ) (hm : ∀ x ∈ ns, mulOk t x) (h : k (ti (ns.map (t * ·))) S) : CT (n + 1) i_scaled [ti ns, .int t] S k X := by
  refine c_scaled ?_
  simp! only [f_scaled]
  refine ⟨by simpa using hz, forC_ints (f := fun x => .int (t * x)) (fun i hi k2 h2 => ?_) ?_⟩
  · simp! only [lc_app']
    exact ⟨hm i hi, h2⟩
  · have e : (ns.map fun x => D.int (t * x)) = (ns.map (t * ·)).map D.int := by rw [List.map_map]; rfl
    rw [e]
    exact h
end
end FV
set_option Elab.async false
set_option linter.all false
/-! Vm: triples, tables, up to factors. -/
namespace FV
structure T3 where
  x : Int
  y : Int
  z : Int
deriving DecidableEq
namespace T3
def l (u : T3) : List Int := [u.x, u.y, u.z]
end T3
theorem T3.ext' {u v : T3} (h1 : u.x = v.x) (h2 : u.y = v.y) (h3 : u.z = v.z) : u = v := by
  cases u; cases v; simp_all
def V0 : T3 := ⟨0, 0, 0⟩
def cr (u v : T3) : T3 := ⟨u.y * v.z - u.z * v.y, u.z * v.x - u.x * v.z, u.x * v.y - u.y * v.x⟩
def dt (u v : T3) : Int := u.x * v.x + u.y * v.y + u.z * v.z
def bk (u v w : T3) : Int := dt u (cr v w)
def sm (c : Int) (u : T3) : T3 := ⟨c * u.x, c * u.y, c * u.z⟩
def ad (u v : T3) : T3 := ⟨u.x + v.x, u.y + v.y, u.z + v.z⟩
/-- made plain -/
def pv (u : T3) : T3 := ⟨u.x.fdiv (dv u.l), u.y.fdiv (dv u.l), u.z.fdiv (dv u.l)⟩
theorem pv_l (u : T3) : pn u.l = (pv u).l := rfl
def Pr (u : T3) : Prop := Prim u.l
theorem l_inj {u v : T3} (h : u.l = v.l) : u = v := by
  simp only [T3.l, List.cons.injEq, and_true] at h
  exact T3.ext' h.1 h.2.1 h.2.2
theorem fl_V0 {u : T3} : fl u.l ≠ 0 ↔ u ≠ V0 := by
  refine not_congr ⟨fun h => ?_, fun h => by subst h; decide⟩
  have := fl_zero.mp h
  exact T3.ext' (this _ (by simp [T3.l])) (this _ (by simp [T3.l])) (this _ (by simp [T3.l]))
theorem sm_l {c : Int} {u : T3} : (sm c u).l = u.l.map (c * ·) := rfl
theorem pv_mul {u : T3} (h : u ≠ V0) : u = sm (dv u.l) (pv u) := l_inj (pn_mul (fl_V0.mpr h))
theorem dv0 {u : T3} (h : u ≠ V0) : dv u.l ≠ 0 := dv_ne (fl_V0.mpr h)
theorem pv_pr {u : T3} (h : u ≠ V0) : Pr (pv u) := pn_prim (fl_V0.mpr h)
theorem pv_of {u : T3} (h : Pr u) : pv u = u := l_inj (pn_of h)
theorem pr_ne {u : T3} (h : Pr u) : u ≠ V0 := fl_V0.mp (fl_of_prim h)
theorem pv_sm {u : T3} {c : Int} (h : u ≠ V0) (hc : c ≠ 0) : pv (sm c u) = pv u := l_inj (by rw [← pv_l, sm_l, pn_smul (fl_V0.mpr h) hc]; rfl)
theorem pr_eq {u v : T3} (h : Pr u) (g : Pr v) : u = v ↔ cr u v = V0 := by
  have := prim_cross h g
  constructor
  · rintro rfl
    exact T3.ext' (by simp only [cr, V0]; grind) (by simp only [cr, V0]; grind) (by simp only [cr, V0]; grind)
  · intro e
    have e' : cr u v = ⟨0, 0, 0⟩ := e
    simp only [cr, T3.mk.injEq] at e'
    exact l_inj (this.mpr e')
/-- the same up to a factor -/
def Sim (u v : T3) : Prop := ∃ a b : Int, a ≠ 0 ∧ b ≠ 0 ∧ sm a u = sm b v
theorem sm_sm {a b : Int} {u : T3} : sm a (sm b u) = sm (a * b) u := by simp only [sm, Int.mul_assoc]
theorem sm_one {u : T3} : sm 1 u = u := by simp only [sm, Int.one_mul]
theorem Sim.refl (u : T3) : Sim u u := ⟨1, 1, by decide, by decide, rfl⟩
theorem Sim.symm {u v : T3} : Sim u v → Sim v u := fun ⟨a, b, h, g, e⟩ => ⟨b, a, g, h, e.symm⟩
theorem Sim.trans {u v w : T3} : Sim u v → Sim v w → Sim u w := fun ⟨a, b, h, g, e⟩ ⟨c, d, h', g', e'⟩ => ⟨c * a, b * d, Int.mul_ne_zero h' h, Int.mul_ne_zero g g', by
  rw [← sm_sm, e, sm_sm, Int.mul_comm c b, ← sm_sm, e', sm_sm]⟩
theorem sim_sm {u : T3} {c : Int} (hc : c ≠ 0) : Sim (sm c u) u := ⟨1, c, by decide, hc, by rw [sm_one]⟩
theorem pv_sim {u : T3} (h : u ≠ V0) : Sim (pv u) u := ⟨dv u.l, 1, dv0 h, by decide, by rw [sm_one]; exact (pv_mul h).symm⟩
theorem sm0 {a : Int} {u : T3} (ha : a ≠ 0) : sm a u = V0 ↔ u = V0 := by
  constructor
  · intro h
    simp only [sm, V0, T3.mk.injEq] at h
    exact T3.ext' ((Int.mul_eq_zero.mp h.1).resolve_left ha) ((Int.mul_eq_zero.mp h.2.1).resolve_left ha) ((Int.mul_eq_zero.mp h.2.2).resolve_left ha)
  · rintro rfl
    simp [sm, V0]
theorem Sim.zero {u v : T3} : Sim u v → (u = V0 ↔ v = V0) := fun ⟨a, b, h, g, e⟩ => by rw [← sm0 h, e, sm0 g]
theorem cr_sm {a b : Int} {u v : T3} : cr (sm a u) (sm b v) = sm (a * b) (cr u v) := by
  simp only [cr, sm, T3.mk.injEq]
  refine ⟨?_, ?_, ?_⟩ <;> grind
theorem dt_sm {a b : Int} {u v : T3} : dt (sm a u) (sm b v) = (a * b) * dt u v := by
  simp only [dt, sm]
  grind
theorem Sim.cr {u u' v v' : T3} : Sim u u' → Sim v v' → Sim (cr u v) (cr u' v') := fun ⟨a, b, h, g, e⟩ ⟨c, d, h', g', e'⟩ => ⟨a * c, b * d, Int.mul_ne_zero h h', Int.mul_ne_zero g g', by rw [← cr_sm, ← cr_sm, e, e']⟩
theorem Sim.dt {u u' v v' : T3} : Sim u u' → Sim v v' → (dt u v = 0 ↔ dt u' v' = 0) := fun ⟨a, b, h, g, e⟩ ⟨c, d, h', g', e'⟩ => by
  have : (a * c) * FV.dt u v = (b * d) * FV.dt u' v' := by rw [← dt_sm, ← dt_sm, e, e']
  constructor
  · intro z
    rw [z, Int.mul_zero] at this
    exact (Int.mul_eq_zero.mp this.symm).resolve_left (Int.mul_ne_zero g g')
  · intro z
    rw [z, Int.mul_zero] at this
    exact (Int.mul_eq_zero.mp this).resolve_left (Int.mul_ne_zero h h')
theorem Sim.pv {u v : T3} (h : u ≠ V0) : Sim u v → pv u = pv v := fun ⟨a, b, ha, hb, e⟩ => by
  have hv : v ≠ V0 := fun z => h ((Sim.zero ⟨a, b, ha, hb, e⟩).mpr z)
  rw [← pv_sm h ha, e, pv_sm hv hb]
theorem Sim.of_cr {u v : T3} (h : u ≠ V0) (g : v ≠ V0) (e : FV.cr u v = V0) : Sim u v := by
  have e2 : FV.cr (FV.pv u) (FV.pv v) = V0 := (Sim.zero (Sim.cr (pv_sim h) (pv_sim g))).mpr e
  have : FV.pv u = FV.pv v := (pr_eq (pv_pr h) (pv_pr g)).mpr e2
  exact (pv_sim h).symm.trans (this ▸ pv_sim g)
theorem cr_self {u : T3} : cr u u = V0 := by
  refine T3.ext' ?_ ?_ ?_ <;> (simp only [cr, V0]; grind)
theorem Sim.cr0 {u v : T3} : Sim u v → FV.cr u v = V0 := fun ⟨a, b, h, g, e⟩ => by
  have : FV.cr (sm a u) (sm b v) = V0 := by rw [e]; exact cr_self
  rw [cr_sm] at this
  exact (sm0 (Int.mul_ne_zero h g)).mp this
theorem pv_eq {u v : T3} (h : u ≠ V0) (g : v ≠ V0) : pv u = pv v ↔ cr u v = V0 :=
  ⟨fun e => ((pv_sim h).symm.trans (e ▸ pv_sim g)).cr0, fun e => (Sim.of_cr h g e).pv h⟩
/-! ### tables -/
structure M3 where
  a : T3
  b : T3
  c : T3
deriving DecidableEq
def mv (m : M3) (u : T3) : T3 := ⟨dt m.a u, dt m.b u, dt m.c u⟩
def det (m : M3) : Int := bk m.a m.b m.c
def cof (m : M3) : M3 := ⟨cr m.b m.c, cr m.c m.a, cr m.a m.b⟩
def trp (m : M3) : M3 := ⟨⟨m.a.x, m.b.x, m.c.x⟩, ⟨m.a.y, m.b.y, m.c.y⟩, ⟨m.a.z, m.b.z, m.c.z⟩⟩
theorem mv_back {m : M3} {u : T3} : mv (trp (cof m)) (mv m u) = sm (det m) u := by
  refine T3.ext' ?_ ?_ ?_ <;> (simp only [mv, trp, cof, det, bk, dt, cr, sm]; grind)
theorem mv_ne {m : M3} {u : T3} (hm : det m ≠ 0) (h : u ≠ V0) : mv m u ≠ V0 := fun e => by
  have := mv_back (m := m) (u := u)
  rw [e] at this
  exact h ((sm0 hm).mp (by rw [← this]; simp [mv, dt, V0]))
theorem mv_cr {m : M3} {u v : T3} : cr (mv m u) (mv m v) = mv (cof m) (cr u v) := by
  refine T3.ext' ?_ ?_ ?_ <;> (simp only [mv, cof, dt, cr]; grind)
theorem mv_sm {m : M3} {c : Int} {u : T3} : mv m (sm c u) = sm c (mv m u) := by
  refine T3.ext' ?_ ?_ ?_ <;> (simp only [mv, dt, sm]; grind)
theorem Sim.mv {m : M3} {u v : T3} : Sim u v → Sim (mv m u) (mv m v) := fun ⟨a, b, h, g, e⟩ => ⟨a, b, h, g, by rw [← mv_sm, ← mv_sm, e]⟩
theorem det_cof {m : M3} : det (cof m) = det m * det m := by
  simp only [det, cof, bk, dt, cr]; grind
theorem mv_dt {m : M3} {u v : T3} : dt (mv (cof m) u) (mv m v) = det m * dt u v := by
  simp only [mv, det, cof, bk, dt, cr]; grind
/-! ### pairs -/
structure F2 where
  n : Int
  d : Int
deriving DecidableEq
def F2.l (f : F2) : List Int := [f.n, f.d]
def F0 : F2 := ⟨0, 0⟩
def t2 (f : F2) : T3 := ⟨f.n, f.d, 0⟩
/-- a pair made plain -/
def pf (f : F2) : F2 := ⟨f.n.fdiv (dv f.l), f.d.fdiv (dv f.l)⟩
def Pq (f : F2) : Prop := Prim f.l
theorem pf_l (f : F2) : pn f.l = (pf f).l := rfl
theorem Gg_t2 {f : F2} : Gg (t2 f).l = Gg f.l := by simp [t2, T3.l, F2.l, Gg]
theorem fl_t2 {f : F2} : fl (t2 f).l = fl f.l := by simp [t2, T3.l, F2.l, fl]
theorem dv_t2 {f : F2} : dv (t2 f).l = dv f.l := by unfold dv; rw [Gg_t2, fl_t2]
theorem t2_ne {f : F2} : t2 f ≠ V0 ↔ f ≠ F0 := by
  cases f; simp [t2, V0, F0]
theorem t2_inj {f g : F2} (h : t2 f = t2 g) : f = g := by
  cases f; cases g
  simp only [t2, T3.mk.injEq] at h
  simp [h.1, h.2.1]
theorem pf_t2 {f : F2} : t2 (pf f) = pv (t2 f) := by
  unfold pv
  rw [dv_t2]
  simp [pf, t2]
theorem Pq_t2 {f : F2} : Pq f ↔ Pr (t2 f) := by
  unfold Pq Pr Prim
  rw [Gg_t2, fl_t2]
theorem pf_pq {f : F2} (h : f ≠ F0) : Pq (pf f) := by
  rw [Pq_t2, pf_t2]
  exact pv_pr (t2_ne.mpr h)
theorem pf_of {f : F2} (h : Pq f) : pf f = f := t2_inj (by rw [pf_t2]; exact pv_of (Pq_t2.mp h))
theorem pq_ne {f : F2} (h : Pq f) : f ≠ F0 := t2_ne.mp (pr_ne (Pq_t2.mp h))
/-- the cross of two pairs -/
def cf (f g : F2) : Int := f.n * g.d - f.d * g.n
theorem cr_t2 {f g : F2} : cr (t2 f) (t2 g) = V0 ↔ cf f g = 0 := by
  simp only [cr, t2, V0, T3.mk.injEq, cf]
  constructor
  · intro h; exact h.2.2
  · intro h; exact ⟨by simp, by simp, h⟩
theorem pf_eq {f g : F2} (h : f ≠ F0) (k : g ≠ F0) : pf f = pf g ↔ cf f g = 0 := by
  rw [← cr_t2, ← pv_eq (t2_ne.mpr h) (t2_ne.mpr k), ← pf_t2, ← pf_t2]
  exact ⟨fun e => by rw [e], t2_inj⟩
theorem pf_mul {f : F2} (h : f ≠ F0) : f.n = dv f.l * (pf f).n ∧ f.d = dv f.l * (pf f).d := by
  have e := pv_mul (t2_ne.mpr h)
  rw [← pf_t2, dv_t2] at e
  exact ⟨congrArg T3.x e, congrArg T3.y e⟩
theorem dvf0 {f : F2} (h : f ≠ F0) : dv f.l ≠ 0 := by
  rw [← dv_t2]
  exact dv0 (t2_ne.mpr h)
theorem pf_sm {f : F2} {c : Int} (h : f ≠ F0) (hc : c ≠ 0) : pf ⟨c * f.n, c * f.d⟩ = pf f := by
  have hn : (⟨c * f.n, c * f.d⟩ : F2) ≠ F0 := fun e => by
    simp only [F0, F2.mk.injEq] at e
    obtain ⟨a, b⟩ := f
    have ea : a = 0 := (Int.mul_eq_zero.mp e.1).resolve_left hc
    have eb : b = 0 := (Int.mul_eq_zero.mp e.2).resolve_left hc
    refine h ?_
    rw [ea, eb]
    rfl
  rw [pf_eq hn h]
  simp only [cf]
  grind
end FV
set_option Elab.async false
set_option linter.all false
set_option maxRecDepth 100000
/-! Vx: triples and pairs as values; sizes. -/
namespace FV
def vD (u : T3) : D := ti [u.x, u.y, u.z]
def fD (f : F2) : D := ti [f.n, f.d]
theorem tup3 {a b c : Int} : D.tup [.int a, .int b, .int c] = vD ⟨a, b, c⟩ := rfl
theorem tup2 {a b : Int} : D.tup [.int a, .int b] = fD ⟨a, b⟩ := rfl
theorem v_ti {a b c : Int} : ti [a, b, c] = vD ⟨a, b, c⟩ := rfl
theorem f_ti {a b : Int} : ti [a, b] = fD ⟨a, b⟩ := rfl
theorem eq_v {u v : T3} : eqD (vD u) (vD v) = decide (u = v) := by
  rw [vD, vD, eq_ti]
  exact decide_eq_decide.mpr ⟨fun h => l_inj h, fun h => by rw [h]⟩
theorem eq_f {u v : F2} : eqD (fD u) (fD v) = decide (u = v) := by
  rw [fD, fD, eq_ti]
  cases u; cases v
  simp
theorem pure_v {u : T3} {n : Nat} : pure? (n + 1) (vD u) = true := pures_ints (n := n) (xs := u.l)
theorem pure_f {u : F2} {n : Nat} : pure? (n + 1) (fD u) = true := pures_ints (n := n) (xs := [u.n, u.d])
section
variable {C : Hd} {X : D → Store → Prop} {t : Bool} {σ : Env} {S : Store} {k : D → Store → Prop} {u v : T3} {f g : F2}
theorem seq_v {p : List D → Prop} : seq (vD u) S p = p [.int u.x, .int u.y, .int u.z] := nr rfl
theorem seq_f {p : List D → Prop} : seq (fD f) S p = p [.int f.n, .int f.d] := nr rfl
theorem itm_v {p : Gd → List D → Prop} : itm (vD u) S p = p none [.int u.x, .int u.y, .int u.z] := nr rfl
theorem itm_f {p : Gd → List D → Prop} : itm (fD f) S p = p none [.int f.n, .int f.d] := nr rfl
theorem asg_v {ps : List Pt} {k : Env → Store → Prop} : asg C X (.pt (.tp ps)) (vD u) σ S k = onO (bindPs ps [.int u.x, .int u.y, .int u.z] σ) fun σ1 => k σ1 S := asg_tp
theorem asg_f {ps : List Pt} {k : Env → Store → Prop} : asg C X (.pt (.tp ps)) (fD f) σ S k = onO (bindPs ps [.int f.n, .int f.d] σ) fun σ1 => k σ1 S := asg_tp
theorem bp_v {ps : List Pt} : bindP (.tp ps) (vD u) σ = bindPs ps [.int u.x, .int u.y, .int u.z] σ := bp_tp
theorem bp_f {ps : List Pt} : bindP (.tp ps) (fD f) σ = bindPs ps [.int f.n, .int f.d] σ := bp_tp
theorem bps_tv {ps qs : List Pt} {ds : List D} : bindPs (.tp qs :: ps) (vD u :: ds) σ = (match bindPs qs [.int u.x, .int u.y, .int u.z] σ with | some σ' => bindPs ps ds σ' | none => none) := by
  simp only [bindPs, bp_v]
  all_goals (cases bindPs qs [.int u.x, .int u.y, .int u.z] σ <;> rfl)
theorem bps_tf {ps qs : List Pt} {ds : List D} : bindPs (.tp qs :: ps) (fD f :: ds) σ = (match bindPs qs [.int f.n, .int f.d] σ with | some σ' => bindPs ps ds σ' | none => none) := by
  simp only [bindPs, bp_f]
  all_goals (cases bindPs qs [.int f.n, .int f.d] σ <;> rfl)
theorem two_vv {S : Store} {k : D → Prop} : zpS (vD u) (vD v) S k = k (.itr (zipD [.int u.x, .int u.y, .int u.z] [.int v.x, .int v.y, .int v.z])) := nr rfl
theorem two_vt {S : Store} {ys : List D} {k : D → Prop} : zpS (vD u) (.tup ys) S k = k (.itr (zipD [.int u.x, .int u.y, .int u.z] ys)) := nr rfl
theorem two_tv {S : Store} {ys : List D} {k : D → Prop} : zpS (.tup ys) (vD u) S k = k (.itr (zipD ys [.int u.x, .int u.y, .int u.z])) := nr rfl
theorem two_ff {S : Store} {k : D → Prop} : zpS (fD f) (fD g) S k = k (.itr (zipD [.int f.n, .int f.d] [.int g.n, .int g.d])) := nr rfl
theorem still_v {S : Store} {f : List D → List D} {k : D → Prop} : enS (vD u) S f k = k (.itr (f [.int u.x, .int u.y, .int u.z])) := nr rfl
theorem cut_v {lo hi : Option Int} {k : D → Prop} : cut (vD u) lo hi S k = k (.tup (slice [.int u.x, .int u.y, .int u.z] lo hi)) := nr rfl
theorem cop_eq_v {k : Bool → Prop} : cop .eq (vD u) (vD v) k = k (decide (u = v)) := by
  show ((_ ∧ _) ∧ k (eqD (vD u) (vD v))) = _
  rw [eq_v, DEEP, pure_v, pure_v]; simp
theorem cop_ne_v {k : Bool → Prop} : cop .ne (vD u) (vD v) k = k (!decide (u = v)) := by
  show ((_ ∧ _) ∧ k (!eqD (vD u) (vD v))) = _
  rw [eq_v, DEEP, pure_v, pure_v]; simp
theorem cop_eq_f {k : Bool → Prop} : cop .eq (fD f) (fD g) k = k (decide (f = g)) := by
  show ((_ ∧ _) ∧ k (eqD (fD f) (fD g))) = _
  rw [eq_f, DEEP, pure_f, pure_f]; simp
theorem cop_ne_f {k : Bool → Prop} : cop .ne (fD f) (fD g) k = k (!decide (f = g)) := by
  show ((_ ∧ _) ∧ k (!eqD (fD f) (fD g))) = _
  rw [eq_f, DEEP, pure_f, pure_f]; simp
theorem tru_v {k : Bool → Prop} : tru (vD u) k = k true := nr rfl
theorem non_v : isNon (vD u) = false := nr rfl
theorem non_f : isNon (fD f) = false := nr rfl
theorem ty_v {y : Ty} : tyIs y (vD u) = some (match y with | .tup => true | _ => false) := nr rfl
theorem ty_f {y : Ty} : tyIs y (fD f) = some (match y with | .tup => true | _ => false) := nr rfl
theorem ta_v : tyAny [.tup, .lst] (vD u) = some true := nr rfl
theorem ta_f : tyAny [.tup, .lst] (fD f) = some true := nr rfl
theorem bop_vv {k : D → Prop} : bop .add (vD u) (vD v) k = k (ti [u.x, u.y, u.z, v.x, v.y, v.z]) := by
  show (_ ∧ k (ti [u.x, u.y, u.z, v.x, v.y, v.z])) = _
  simp [SZ]
theorem bop_6v {a b c d e f : Int} {k : D → Prop} : bop .add (ti [a, b, c, d, e, f]) (vD v) k = k (ti [a, b, c, d, e, f, v.x, v.y, v.z]) := by
  show (_ ∧ k (ti [a, b, c, d, e, f, v.x, v.y, v.z])) = _
  simp [SZ]
theorem cut_9a {a b c d e f g h i : Int} {k : D → Prop} : cut (ti [a, b, c, d, e, f, g, h, i]) none (some 3) S k = k (vD ⟨a, b, c⟩) := nr rfl
theorem cut_9b {a b c d e f g h i : Int} {k : D → Prop} : cut (ti [a, b, c, d, e, f, g, h, i]) (some 3) (some 6) S k = k (vD ⟨d, e, f⟩) := nr rfl
theorem cut_9c {a b c d e f g h i : Int} {k : D → Prop} : cut (ti [a, b, c, d, e, f, g, h, i]) (some 6) none S k = k (vD ⟨g, h, i⟩) := nr rfl
end
theorem sz_0 : (([] : List D).length ≤ SZ) = True := by simp [SZ]
theorem sz_1 {x0 : D} : (([x0] : List D).length ≤ SZ) = True := by simp [SZ]
theorem sz_2 {x0 x1 : D} : (([x0, x1] : List D).length ≤ SZ) = True := by simp [SZ]
theorem sz_3 {x0 x1 x2 : D} : (([x0, x1, x2] : List D).length ≤ SZ) = True := by simp [SZ]
theorem sz_4 {x0 x1 x2 x3 : D} : (([x0, x1, x2, x3] : List D).length ≤ SZ) = True := by simp [SZ]
theorem sz_5 {x0 x1 x2 x3 x4 : D} : (([x0, x1, x2, x3, x4] : List D).length ≤ SZ) = True := by simp [SZ]
theorem sz_6 {x0 x1 x2 x3 x4 x5 : D} : (([x0, x1, x2, x3, x4, x5] : List D).length ≤ SZ) = True := by simp [SZ]
theorem sz_7 {x0 x1 x2 x3 x4 x5 x6 : D} : (([x0, x1, x2, x3, x4, x5, x6] : List D).length ≤ SZ) = True := by simp [SZ]
theorem sz_8 {x0 x1 x2 x3 x4 x5 x6 x7 : D} : (([x0, x1, x2, x3, x4, x5, x6, x7] : List D).length ≤ SZ) = True := by simp [SZ]
theorem sz_9 {x0 x1 x2 x3 x4 x5 x6 x7 x8 : D} : (([x0, x1, x2, x3, x4, x5, x6, x7, x8] : List D).length ≤ SZ) = True := by simp [SZ]
theorem sz_10 {x0 x1 x2 x3 x4 x5 x6 x7 x8 x9 : D} : (([x0, x1, x2, x3, x4, x5, x6, x7, x8, x9] : List D).length ≤ SZ) = True := by simp [SZ]
theorem sz_11 {x0 x1 x2 x3 x4 x5 x6 x7 x8 x9 x10 : D} : (([x0, x1, x2, x3, x4, x5, x6, x7, x8, x9, x10] : List D).length ≤ SZ) = True := by simp [SZ]
theorem sz_12 {x0 x1 x2 x3 x4 x5 x6 x7 x8 x9 x10 x11 : D} : (([x0, x1, x2, x3, x4, x5, x6, x7, x8, x9, x10, x11] : List D).length ≤ SZ) = True := by simp [SZ]
theorem wp_cc {σ : Env} {i j : Nat} {r : List Nat} : wp0 σ (i :: j :: r) = wp0 (wp0 σ (j :: r)) [i] := nr rfl
theorem inD_n {x : D} : inD x [] = false := nr rfl
theorem inD_c {x y : D} {ys : List D} : inD x (y :: ys) = (eqD y x || inD x ys) := nr rfl
theorem pures_c {x : D} {ys : List D} : (pures? DEEP (x :: ys) = true) = (pure? DEEP x = true ∧ pures? DEEP ys = true) := by
  show ((pure? DEEP x && pures? DEEP ys) = true) = _
  rw [Bool.and_eq_true]
theorem pures_n : (pures? DEEP [] = true) = True := by simp [pures?]
theorem pure_vT {u : T3} : (pure? DEEP (vD u) = true) = True := by rw [DEEP, pure_v]; simp
theorem pure_fT {f : F2} : (pure? DEEP (fD f) = true) = True := by rw [DEEP, pure_f]; simp
theorem pure_iT {i : Int} : (pure? DEEP (.int i) = true) = True := by simp [pure?]
theorem pure_bT {i : Bool} : (pure? DEEP (.bl i) = true) = True := by simp [pure?]
theorem pure_nT : (pure? DEEP .non = true) = True := by simp [pure?]
theorem enm_1 {x0 : D} : enmD 0 [x0] = [.tup [.int 0, x0]] := nr rfl
theorem enm_2 {x0 x1 : D} : enmD 0 [x0, x1] = [.tup [.int 0, x0], .tup [.int 1, x1]] := nr rfl
theorem enm_3 {x0 x1 x2 : D} : enmD 0 [x0, x1, x2] = [.tup [.int 0, x0], .tup [.int 1, x1], .tup [.int 2, x2]] := nr rfl
theorem enm_4 {x0 x1 x2 x3 : D} : enmD 0 [x0, x1, x2, x3] = [.tup [.int 0, x0], .tup [.int 1, x1], .tup [.int 2, x2], .tup [.int 3, x3]] := nr rfl
theorem enm_5 {x0 x1 x2 x3 x4 : D} : enmD 0 [x0, x1, x2, x3, x4] = [.tup [.int 0, x0], .tup [.int 1, x1], .tup [.int 2, x2], .tup [.int 3, x3], .tup [.int 4, x4]] := nr rfl
theorem enm_6 {x0 x1 x2 x3 x4 x5 : D} : enmD 0 [x0, x1, x2, x3, x4, x5] = [.tup [.int 0, x0], .tup [.int 1, x1], .tup [.int 2, x2], .tup [.int 3, x3], .tup [.int 4, x4], .tup [.int 5, x5]] := nr rfl
theorem enm_7 {x0 x1 x2 x3 x4 x5 x6 : D} : enmD 0 [x0, x1, x2, x3, x4, x5, x6] = [.tup [.int 0, x0], .tup [.int 1, x1], .tup [.int 2, x2], .tup [.int 3, x3], .tup [.int 4, x4], .tup [.int 5, x5], .tup [.int 6, x6]] := nr rfl
theorem enm_8 {x0 x1 x2 x3 x4 x5 x6 x7 : D} : enmD 0 [x0, x1, x2, x3, x4, x5, x6, x7] = [.tup [.int 0, x0], .tup [.int 1, x1], .tup [.int 2, x2], .tup [.int 3, x3], .tup [.int 4, x4], .tup [.int 5, x5], .tup [.int 6, x6], .tup [.int 7, x7]] := nr rfl
theorem enm_9 {x0 x1 x2 x3 x4 x5 x6 x7 x8 : D} : enmD 0 [x0, x1, x2, x3, x4, x5, x6, x7, x8] = [.tup [.int 0, x0], .tup [.int 1, x1], .tup [.int 2, x2], .tup [.int 3, x3], .tup [.int 4, x4], .tup [.int 5, x5], .tup [.int 6, x6], .tup [.int 7, x7], .tup [.int 8, x8]] := nr rfl
theorem enm_10 {x0 x1 x2 x3 x4 x5 x6 x7 x8 x9 : D} : enmD 0 [x0, x1, x2, x3, x4, x5, x6, x7, x8, x9] = [.tup [.int 0, x0], .tup [.int 1, x1], .tup [.int 2, x2], .tup [.int 3, x3], .tup [.int 4, x4], .tup [.int 5, x5], .tup [.int 6, x6], .tup [.int 7, x7], .tup [.int 8, x8], .tup [.int 9, x9]] := nr rfl
theorem len_1 {x0 : D} : (([x0] : List D).length : Int) = 1 := nr rfl
theorem len_2 {x0 x1 : D} : (([x0, x1] : List D).length : Int) = 2 := nr rfl
theorem len_3 {x0 x1 x2 : D} : (([x0, x1, x2] : List D).length : Int) = 3 := nr rfl
theorem len_4 {x0 x1 x2 x3 : D} : (([x0, x1, x2, x3] : List D).length : Int) = 4 := nr rfl
theorem len_5 {x0 x1 x2 x3 x4 : D} : (([x0, x1, x2, x3, x4] : List D).length : Int) = 5 := nr rfl
theorem len_6 {x0 x1 x2 x3 x4 x5 : D} : (([x0, x1, x2, x3, x4, x5] : List D).length : Int) = 6 := nr rfl
theorem len_7 {x0 x1 x2 x3 x4 x5 x6 : D} : (([x0, x1, x2, x3, x4, x5, x6] : List D).length : Int) = 7 := nr rfl
theorem len_8 {x0 x1 x2 x3 x4 x5 x6 x7 : D} : (([x0, x1, x2, x3, x4, x5, x6, x7] : List D).length : Int) = 8 := nr rfl
theorem len_9 {x0 x1 x2 x3 x4 x5 x6 x7 x8 : D} : (([x0, x1, x2, x3, x4, x5, x6, x7, x8] : List D).length : Int) = 9 := nr rfl
theorem len_10 {x0 x1 x2 x3 x4 x5 x6 x7 x8 x9 : D} : (([x0, x1, x2, x3, x4, x5, x6, x7, x8, x9] : List D).length : Int) = 10 := nr rfl
/-! ### sizes -/
def bt (n : Nat) (x : Int) : Prop := x.natAbs < 2 ^ n
theorem bt_mono {n m : Nat} {x : Int} (h : bt n x) (l : n ≤ m) : bt m x := Nat.lt_of_lt_of_le h (Nat.pow_le_pow_right (by decide) l)
theorem bt_add {n m : Nat} {x y : Int} (h : bt n x) (g : bt m y) : bt (max n m + 1) (x + y) := by
  have h1 : bt (max n m) x := bt_mono h (Nat.le_max_left _ _)
  have h2 : bt (max n m) y := bt_mono g (Nat.le_max_right _ _)
  unfold bt at *
  rw [Nat.pow_succ]
  omega
theorem bt_neg {n : Nat} {x : Int} (h : bt n x) : bt n (-x) := by unfold bt at *; omega
theorem bt_sub {n m : Nat} {x y : Int} (h : bt n x) (g : bt m y) : bt (max n m + 1) (x - y) := by
  rw [Int.sub_eq_add_neg]
  exact bt_add h (bt_neg g)
theorem bt_mul {n m : Nat} {x y : Int} (h : bt n x) (g : bt m y) : bt (n + m) (x * y) := by
  unfold bt at *
  rw [Int.natAbs_mul, Nat.pow_add]
  exact Nat.mul_lt_mul'' h g
theorem bt_lt {n : Nat} {x : Int} (h : -(2 ^ n) < x) (g : x < 2 ^ n) : bt n x := by
  unfold bt
  have : ((2 ^ n : Nat) : Int) = 2 ^ n := by simp
  omega
theorem bt_dvd {n : Nat} {x y : Int} (h : bt n x) (d : y ∣ x) (hx : x ≠ 0) : bt n y := by
  unfold bt at *
  exact Nat.lt_of_le_of_lt (Nat.le_of_dvd (by omega) (Int.natAbs_dvd_natAbs.mpr d)) h
theorem mulOk_bt {n m : Nat} {x y : Int} (h : bt n x) (g : bt m y) (l : n ≤ 400000 ∧ m ≤ 400000) : mulOk x y :=
  .inr (.inr ⟨Nat.lt_of_lt_of_le h (Nat.pow_le_pow_right (by decide) l.1), Nat.lt_of_lt_of_le g (Nat.pow_le_pow_right (by decide) l.2)⟩)
def bv (n : Nat) (u : T3) : Prop := bt n u.x ∧ bt n u.y ∧ bt n u.z
theorem bv_x {n : Nat} {u : T3} (h : bv n u) : bt n u.x := h.1
theorem bv_y {n : Nat} {u : T3} (h : bv n u) : bt n u.y := h.2.1
theorem bv_z {n : Nat} {u : T3} (h : bv n u) : bt n u.z := h.2.2
theorem bv_mono {n m : Nat} {u : T3} (h : bv n u) (l : n ≤ m) : bv m u := ⟨bt_mono h.1 l, bt_mono h.2.1 l, bt_mono h.2.2 l⟩
theorem bv_mk {n m q : Nat} {a b c : Int} (h1 : bt n a) (h2 : bt m b) (h3 : bt q c) : bv (max n (max m q)) ⟨a, b, c⟩ :=
  ⟨bt_mono h1 (by omega), bt_mono h2 (by omega), bt_mono h3 (by omega)⟩
theorem bv_cr {n m : Nat} {u v : T3} (h : bv n u) (g : bv m v) : bv (n + m + 1) (cr u v) := by
  obtain ⟨a, b, c⟩ := h
  obtain ⟨d, e, f⟩ := g
  have w : ∀ {p q r s : Int}, bt n p → bt m q → bt n r → bt m s → bt (n + m + 1) (p * q - r * s) := fun h1 h2 h3 h4 => bt_mono (bt_sub (bt_mul h1 h2) (bt_mul h3 h4)) (by omega)
  exact ⟨w b f c e, w c d a f, w a e b d⟩
theorem bt_dt {n m : Nat} {u v : T3} (h : bv n u) (g : bv m v) : bt (n + m + 2) (dt u v) :=
  bt_mono (bt_add (bt_add (bt_mul h.1 g.1) (bt_mul h.2.1 g.2.1)) (bt_mul h.2.2 g.2.2)) (by omega)
theorem bt_bk {n m q : Nat} {u v w : T3} (h : bv n u) (g : bv m v) (i : bv q w) : bt (n + (m + q + 1) + 2) (bk u v w) := bt_dt h (bv_cr g i)
theorem bv_sm {n m : Nat} {c : Int} {u : T3} (h : bt n c) (g : bv m u) : bv (n + m) (sm c u) := ⟨bt_mul h g.1, bt_mul h g.2.1, bt_mul h g.2.2⟩
theorem bv_ad {n m : Nat} {u v : T3} (h : bv n u) (g : bv m v) : bv (max n m + 1) (ad u v) := ⟨bt_add h.1 g.1, bt_add h.2.1 g.2.1, bt_add h.2.2 g.2.2⟩
theorem bv_pv {n : Nat} {u : T3} (h : bv n u) : bv n (pv u) := by
  by_cases h0 : u = V0
  · subst h0
    have e0 : pv V0 = V0 := rfl
    rw [e0]; exact h
  have e := pv_mul h0
  have hd := dv0 h0
  have w : ∀ {x y : Int}, x = dv u.l * y → bt n x → bt n y := fun {x y} e h => by
    by_cases hx : x = 0
    · have : y = 0 := (Int.mul_eq_zero.mp (e.symm.trans hx)).resolve_left hd
      rw [this]; rw [hx] at h; exact h
    · exact bt_dvd h ⟨dv u.l, by rw [e, Int.mul_comm]⟩ hx
  have e1 : u.x = dv u.l * (pv u).x := congrArg T3.x e
  have e2 : u.y = dv u.l * (pv u).y := congrArg T3.y e
  have e3 : u.z = dv u.l * (pv u).z := congrArg T3.z e
  exact ⟨w e1 h.1, w e2 h.2.1, w e3 h.2.2⟩
theorem bt_pf {n : Nat} {f : F2} (h : bt n f.n ∧ bt n f.d) : bt n (pf f).n ∧ bt n (pf f).d := by
  have hv : bv n (t2 f) := ⟨h.1, h.2, by unfold bt; exact Nat.two_pow_pos n⟩
  have := bv_pv hv
  rw [← pf_t2] at this
  exact ⟨this.1, this.2.1⟩
instance dec_bt {n : Nat} {x : Int} : Decidable (bt n x) := inferInstanceAs (Decidable (x.natAbs < 2 ^ n))
instance dec_bv {n : Nat} {u : T3} : Decidable (bv n u) := inferInstanceAs (Decidable (_ ∧ _ ∧ _))
instance dec_prim {ns : List Int} : Decidable (Prim ns) := inferInstanceAs (Decidable (_ ∧ _))
instance dec_pr {u : T3} : Decidable (Pr u) := inferInstanceAs (Decidable (Prim u.l))
instance dec_pq {f : F2} : Decidable (Pq f) := inferInstanceAs (Decidable (Prim f.l))
end FV
set_option Elab.async false
set_option linter.all false
/-! Vr: double ratios of triples. -/
namespace FV
/-- the component of u at the first live place of w -/
def pk (w u : T3) : Int := if w.x ≠ 0 then u.x else if w.y ≠ 0 then u.y else u.z
theorem pk_ne {w : T3} (h : w ≠ V0) : pk w w ≠ 0 := by
  unfold pk
  split
  · assumption
  · split
    · assumption
    · intro hz
      rename_i hx hy
      exact h (T3.ext' (Classical.not_not.mp hx) (Classical.not_not.mp hy) hz)
theorem pk_sm {w u : T3} {c : Int} : pk w (sm c u) = c * pk w u := by
  unfold pk
  split
  · rfl
  · split <;> rfl
/-- the multiples of p and q that make a multiple of x -/
def pts (p q x : T3) : F2 := ⟨pk (cr p q) (cr x q), pk (cr p q) (cr p x)⟩
/-- the double ratio's two numbers -/
def rt (p q x y : T3) : F2 := ⟨(pts p q y).n * (pts p q x).d, (pts p q y).d * (pts p q x).n⟩
theorem cramer {x y z : T3} (h : bk x y z = 0) : sm (pk (cr x y) (cr x y)) z = ad (sm (pts x y z).n x) (sm (pts x y z).d y) := by
  have h' := h
  simp only [bk, dt, cr] at h'
  simp only [pts, pk]
  split
  · simp only [sm, ad, cr, T3.mk.injEq]
    refine ⟨?_, ?_, ?_⟩ <;> grind
  · split
    · simp only [sm, ad, cr, T3.mk.injEq]
      refine ⟨?_, ?_, ?_⟩ <;> grind
    · simp only [sm, ad, cr, T3.mk.injEq]
      refine ⟨?_, ?_, ?_⟩ <;> grind
theorem cr_adl {a b : Int} {u v w : T3} : cr (ad (sm a u) (sm b v)) w = ad (sm a (cr u w)) (sm b (cr v w)) := by
  simp only [cr, ad, sm, T3.mk.injEq]
  refine ⟨?_, ?_, ?_⟩ <;> grind
theorem cr_adr {a b : Int} {u v w : T3} : cr w (ad (sm a u) (sm b v)) = ad (sm a (cr w u)) (sm b (cr w v)) := by
  simp only [cr, ad, sm, T3.mk.injEq]
  refine ⟨?_, ?_, ?_⟩ <;> grind
theorem ad_0 {u : T3} : ad u V0 = u := by simp [ad, V0]
theorem ad_0l {u : T3} : ad V0 u = u := by simp [ad, V0]
theorem sm_V0 {a : Int} : sm a V0 = V0 := by simp [sm, V0]
theorem sm_0 {u : T3} : sm 0 u = V0 := by simp [sm, V0]
theorem cr_sml {a : Int} {u v : T3} : cr (sm a u) v = sm a (cr u v) := by
  have := cr_sm (a := a) (b := 1) (u := u) (v := v)
  rwa [sm_one, Int.mul_one] at this
theorem cr_smr {a : Int} {u v : T3} : cr u (sm a v) = sm a (cr u v) := by
  have := cr_sm (a := 1) (b := a) (u := u) (v := v)
  rwa [sm_one, Int.one_mul] at this
theorem pts_of {x y z : T3} {s a b : Int} (h : sm s z = ad (sm a x) (sm b y)) : s * (pts x y z).n = a * pk (cr x y) (cr x y) ∧ s * (pts x y z).d = b * pk (cr x y) (cr x y) := by
  constructor
  · show s * pk (cr x y) (cr z y) = _
    rw [← pk_sm, ← pk_sm, ← cr_sml, h, cr_adl, cr_self, sm_V0, ad_0]
  · show s * pk (cr x y) (cr x z) = _
    rw [← pk_sm, ← pk_sm, ← cr_smr, h, cr_adr, cr_self, sm_V0, ad_0l]
theorem rt_par {x y z w : T3} {s t g1 g2 d1 d2 : Int} (hs : s ≠ 0) (ht : t ≠ 0) (hz : sm s z = ad (sm g1 x) (sm g2 y)) (hw : sm t w = ad (sm d1 x) (sm d2 y)) : cf (rt x y z w) ⟨d1 * g2, d2 * g1⟩ = 0 := by
  obtain ⟨e1, e2⟩ := pts_of hz
  obtain ⟨e3, e4⟩ := pts_of hw
  have st : s * t ≠ 0 := Int.mul_ne_zero hs ht
  refine (Int.mul_eq_zero.mp (show s * t * _ = 0 from ?_)).resolve_left st
  simp only [cf, rt]
  generalize pk (cr x y) (cr x y) = p at *
  generalize (pts x y z).n = a at *
  generalize (pts x y z).d = b at *
  generalize (pts x y w).n = c at *
  generalize (pts x y w).d = d at *
  have r1 : s * t * (c * b * (d2 * g1) - d * a * (d1 * g2)) = (t * c) * (s * b) * (d2 * g1) - (t * d) * (s * a) * (d1 * g2) := by grind
  rw [r1, e1, e2, e3, e4]
  grind
/-- four in line, the first three unlike -/
structure Four (x y z w : T3) : Prop where
  p1 : Pr x
  p2 : Pr y
  p3 : Pr z
  p4 : Pr w
  n1 : y ≠ x
  n2 : z ≠ x
  n3 : y ≠ z
  k1 : bk x y z = 0
  k2 : bk x y w = 0
theorem sim_eq {u v : T3} (h : Pr u) (g : Pr v) (s : Sim u v) : u = v := (pr_eq h g).mpr s.cr0
theorem cr_ne (hu : Pr u) (hv : Pr v) (h : u ≠ v) : cr u v ≠ V0 := fun e => h ((pr_eq hu hv).mpr e)
theorem pts_ne {x y z : T3} (px : Pr x) (py : Pr y) (pz : Pr z) (n1 : y ≠ x) (n2 : z ≠ x) (n3 : y ≠ z) (k1 : bk x y z = 0) : (pts x y z).n ≠ 0 ∧ (pts x y z).d ≠ 0 := by
  have hp := pk_ne (cr_ne px py n1.symm)
  have e := cramer k1
  have zz : sm (pk (cr x y) (cr x y)) z ≠ V0 := fun q => pr_ne pz ((sm0 hp).mp q)
  constructor
  · intro q
    rw [q, sm_0, ad_0l] at e
    have hd : (pts x y z).d ≠ 0 := fun r => by rw [r, sm_0] at e; exact zz e
    exact n3 (sim_eq py pz ⟨_, _, hd, hp, e.symm⟩)
  · intro q
    rw [q, sm_0, ad_0] at e
    have hd : (pts x y z).n ≠ 0 := fun r => by rw [r, sm_0] at e; exact zz e
    exact n2 (sim_eq pz px ⟨_, _, hp, hd, e⟩)
theorem pts_n0 {x y z : T3} (px : Pr x) (py : Pr y) (pz : Pr z) (n1 : y ≠ x) (k1 : bk x y z = 0) : (pts x y z).n ≠ 0 ∨ (pts x y z).d ≠ 0 := by
  have hp := pk_ne (cr_ne px py n1.symm)
  have e := cramer k1
  by_cases q : (pts x y z).n = 0
  · right
    intro r
    rw [q, r, sm_0, sm_0, ad_0] at e
    exact pr_ne pz ((sm0 hp).mp e)
  · exact .inl q
theorem rt_ne {x y z w : T3} (F : Four x y z w) : rt x y z w ≠ F0 := by
  obtain ⟨h1, h2⟩ := pts_ne F.p1 F.p2 F.p3 F.n1 F.n2 F.n3 F.k1
  intro e
  simp only [rt, F0, F2.mk.injEq] at e
  rcases pts_n0 F.p1 F.p2 F.p4 F.n1 F.k2 with h | h
  · exact Int.mul_ne_zero h h2 e.1
  · exact Int.mul_ne_zero h h1 e.2
theorem cf_pf {f g : F2} (hf : f ≠ F0) (hg : g ≠ F0) (h : cf f g = 0) : pf f = pf g := (pf_eq hf hg).mpr h
theorem mv_lin {m : M3} : ∀ a b u v, mv m (ad (sm a u) (sm b v)) = ad (sm a (mv m u)) (sm b (mv m v)) := fun a b u v => by
  simp only [mv, dt, ad, sm, T3.mk.injEq]
  refine ⟨?_, ?_, ?_⟩ <;> grind
/-- in line, by sums -/
theorem bk_lin {x y : T3} {a b : Int} : bk x y (ad (sm a x) (sm b y)) = 0 := by
  simp only [bk, dt, cr, ad, sm]
  grind
theorem bk_sm {x y z : T3} {a b c : Int} : bk (sm a x) (sm b y) (sm c z) = a * b * c * bk x y z := by
  simp only [bk, dt, cr, sm]
  grind
theorem lin_ne {x y : T3} {a b : Int} (h : cr x y ≠ V0) (hb : b ≠ 0) : ad (sm a x) (sm b y) ≠ V0 := fun e => by
  have := cr_adr (a := a) (b := b) (u := x) (v := y) (w := x)
  rw [e, cr_self, sm_V0, ad_0l] at this
  have z : cr x V0 = V0 := by simp [cr, V0]
  rw [z] at this
  exact h ((sm0 hb).mp this.symm)
/-! ### tables made plain -/
def M3.l (m : M3) : List Int := [m.a.x, m.a.y, m.a.z, m.b.x, m.b.y, m.b.z, m.c.x, m.c.y, m.c.z]
def Vw (m : M3) : Prop := Prim m.l ∧ det m ≠ 0
def ms (c : Int) (m : M3) : M3 := ⟨sm c m.a, sm c m.b, sm c m.c⟩
def pm (m : M3) : M3 := ⟨⟨m.a.x.fdiv (dv m.l), m.a.y.fdiv (dv m.l), m.a.z.fdiv (dv m.l)⟩, ⟨m.b.x.fdiv (dv m.l), m.b.y.fdiv (dv m.l), m.b.z.fdiv (dv m.l)⟩, ⟨m.c.x.fdiv (dv m.l), m.c.y.fdiv (dv m.l), m.c.z.fdiv (dv m.l)⟩⟩
theorem pm_l (m : M3) : pn m.l = (pm m).l := rfl
theorem m_inj {m q : M3} (h : m.l = q.l) : m = q := by
  obtain ⟨⟨a, b, c⟩, ⟨d, e, f⟩, ⟨g, i, j⟩⟩ := m
  obtain ⟨⟨a', b', c'⟩, ⟨d', e', f'⟩, ⟨g', i', j'⟩⟩ := q
  simp only [M3.l, List.cons.injEq, and_true] at h
  simp [h]
theorem fl_det {m : M3} (h : det m ≠ 0) : fl m.l ≠ 0 := fun e => by
  have := fl_zero.mp e
  have a1 := this m.a.x (by simp [M3.l])
  have a2 := this m.a.y (by simp [M3.l])
  have a3 := this m.a.z (by simp [M3.l])
  exact h (by simp [det, bk, dt, a1, a2, a3])
theorem pm_mul {m : M3} (h : det m ≠ 0) : m = ms (dv m.l) (pm m) := m_inj (pn_mul (fl_det h))
theorem dvm {m : M3} (h : det m ≠ 0) : dv m.l ≠ 0 := dv_ne (fl_det h)
theorem det_ms {c : Int} {m : M3} : det (ms c m) = c * c * c * det m := by
  simp only [det, ms, bk, dt, cr, sm]
  grind
theorem pm_vw {m : M3} (h : det m ≠ 0) : Vw (pm m) := by
  refine ⟨pn_prim (fl_det h), fun e => h ?_⟩
  rw [pm_mul h, det_ms, e, Int.mul_zero]
end FV
set_option Elab.async false
set_option linter.all false
set_option maxRecDepth 100000
/-! Le: the program's small defs over triples. -/
namespace FV
local macro_rules | `(tactic| walk_at "fbt") => `(tactic| first
  | assumption
  | exact bv_x (by assumption)
  | exact bv_y (by assumption)
  | exact bv_z (by assumption)
  | (apply bt_add <;> walk_at "fbt")
  | (apply bt_sub <;> walk_at "fbt")
  | (apply bt_mul <;> walk_at "fbt")
  | (apply bt_neg <;> walk_at "fbt")
  | (apply bt_dt <;> walk_at "fbt")
  | (apply bt_bk <;> walk_at "fbt")
  | (apply bv_cr <;> walk_at "fbt")
  | (apply bv_pv <;> walk_at "fbt")
  | (apply bv_sm <;> walk_at "fbt")
  | (apply bv_ad <;> walk_at "fbt")
  | exact bt_lt (n := 64) (by decide) (by decide)
  | (apply bv_mk <;> walk_at "fbt"))
local macro_rules | `(tactic| walk_at "fs") => `(tactic| first
  | assumption
  | (apply mulOk_bt; walk_at "fbt"; walk_at "fbt"; first | decide | assumption | omega)
  | (refine mulOk_l ?_ ?_ <;> omega)
  | (refine mulOk_r ?_ ?_ <;> omega)
  | walk_at "fbt"
  | omega
  | decide
  | (simp [SZ]; done))
local macro_rules | `(tactic| walk_at "fd") => `(tactic| first
  | rfl
  | exact decide_eq_true (by assumption)
  | exact decide_eq_false (by assumption)
  | decide
  | exact decide_eq_true (by omega)
  | exact decide_eq_false (by omega)
  | (simp [*]; done))
local macro_rules | `(tactic| walk_at "fx") => `(tactic| simp! only [lc_app', fc_cons, fc_nil, blk_app, ↓seq_v, ↓seq_f, ↓itm_v, ↓itm_f, ↓asg_v, ↓asg_f, bp_v, bp_f, bps_tv, bps_tf, ↓two_vv, ↓two_vt, ↓two_tv, ↓two_ff, ↓still_v, ↓cut_v, ↓cop_eq_v, ↓cop_ne_v, ↓cop_eq_f, ↓cop_ne_f, inD_n, inD_c, pures_c, pures_n, pure_vT, pure_fT, pure_iT, pure_bT, pure_nT, eq_v, eq_f, Bool.or_false, and_self, ↓tru_v, non_v, non_f, ty_v, ty_f, ta_v, ta_f, ↓bop_vv, ↓bop_6v, ↓cut_9a, ↓cut_9b, ↓cut_9c, tup3, tup2, v_ti, f_ti, zipD, wp_cc, true_and, decide_true, decide_false, eq_self, sz_0, sz_1, sz_2, sz_3, sz_4, sz_5, sz_6, sz_7, sz_8, sz_9, sz_10, sz_11, sz_12, enm_1, enm_2, enm_3, enm_4, enm_5, enm_6, enm_7, enm_8, enm_9, enm_10, len_1, len_2, len_3, len_4, len_5, len_6, len_7, len_8, len_9, len_10])
local macro_rules | `(tactic| walk_at "fw") => `(tactic| simp! only [lc_app', fc_cons, fc_nil, fw_cons, fw_nil, blk_app, ↓seq_v, ↓seq_f, ↓itm_v, ↓itm_f, ↓asg_v, ↓asg_f, bp_v, bp_f, bps_tv, bps_tf, ↓two_vv, ↓two_vt, ↓two_tv, ↓two_ff, ↓still_v, ↓cut_v, ↓cop_eq_v, ↓cop_ne_v, ↓cop_eq_f, ↓cop_ne_f, inD_n, inD_c, pures_c, pures_n, pure_vT, pure_fT, pure_iT, pure_bT, pure_nT, eq_v, eq_f, Bool.or_false, and_self, ↓tru_v, non_v, non_f, ty_v, ty_f, ta_v, ta_f, ↓bop_vv, ↓bop_6v, ↓cut_9a, ↓cut_9b, ↓cut_9c, tup3, tup2, v_ti, f_ti, zipD, wp_cc, true_and, decide_true, decide_false, eq_self, sz_0, sz_1, sz_2, sz_3, sz_4, sz_5, sz_6, sz_7, sz_8, sz_9, sz_10, sz_11, sz_12, enm_1, enm_2, enm_3, enm_4, enm_5, enm_6, enm_7, enm_8, enm_9, enm_10, len_1, len_2, len_3, len_4, len_5, len_6, len_7, len_8, len_9, len_10])
local macro_rules | `(tactic| walk_at "f1") => `(tactic| first
  | assumption
  | (with_reducible apply And.intro; walk_at "fs")
  | (with_reducible apply brk_t; walk_at "fd")
  | (with_reducible apply brk_f; walk_at "fd")
  | (with_reducible apply s_cross; walk_at "fs"; walk_at "fs"; walk_at "fs")
  | (with_reducible apply s_dot; walk_at "fs"; walk_at "fs"; walk_at "fs")
  | (with_reducible apply s_block; walk_at "fs"; walk_at "fs"; walk_at "fs"; walk_at "fs"; walk_at "fs"; walk_at "fs")
  | (with_reducible apply s_added)
  | (with_reducible apply s_scaled; walk_at "fs"; walk_at "fs")
  | (with_reducible apply s_law_dot; walk_at "fs"; walk_at "fs"; walk_at "fs")
  | (with_reducible apply s_law_plain_v2; walk_at "fs"; walk_at "fs"; walk_at "fs")
  | (with_reducible apply s_divisor_of)
  | (with_reducible apply s_first_live)
  | (with_reducible apply s_plain_of; walk_at "fs"; walk_at "fs"; walk_at "fs")
  | (with_reducible apply s_is_zero)
  | (with_reducible apply s_made_plain; walk_at "fs"; walk_at "fs"; walk_at "fs")
  | (with_reducible apply s_is_plain; walk_at "fs"; walk_at "fs"; walk_at "fs")
  | (with_reducible apply s_is_triple; walk_at "fs"; walk_at "fs")
  | (with_reducible apply s_is_point; walk_at "fs"; walk_at "fs")
  | (with_reducible apply s_law_divisor)
  | (with_reducible apply s_law_plain; walk_at "fs"; walk_at "fs"; walk_at "fs")
  | (with_reducible apply s_law_is_triple; walk_at "fs"; walk_at "fs"; walk_at "fs")
  | (with_reducible apply s_is_whole)
  | (with_reducible apply s_is_tuple_up_to)
  | (with_reducible apply s_is_tuple_of)
  | (with_reducible apply s_are_whole; walk_at "fs")
  | (with_reducible apply s_law_cross; walk_at "fs"; walk_at "fs"; walk_at "fs"))
local macro_rules | `(tactic| walk_at "go") => `(tactic| repeat (first | walk_at "f1" | walk_at "fw"))
local macro_rules | `(tactic| walk_at "g0") => `(tactic| repeat (first | walk_at "f1" | walk_at "fx"))
theorem bd_of {n : Nat} {u : T3} (h : bv n u) (l : n ≤ 8000) : Bd u.l := by
  have := bv_mono h l
  intro x hx
  simp only [T3.l, List.mem_cons, List.not_mem_nil, or_false] at hx
  rcases hx with rfl | rfl | rfl
  · exact this.1
  · exact this.2.1
  · exact this.2.2
theorem bd2_of {n m : Nat} {f : F2} (h : bt n f.n) (g : bt m f.d) (l : n ≤ 8000 ∧ m ≤ 8000) : Bd f.l := by
  intro x hx
  simp only [F2.l, List.mem_cons, List.not_mem_nil, or_false] at hx
  rcases hx with rfl | rfl
  · exact bt_mono h l.1
  · exact bt_mono g l.2
theorem fl2 {f : F2} : fl f.l ≠ 0 ↔ f ≠ F0 := by
  rw [← fl_t2, fl_V0, t2_ne]
def mD (m : M3) : D := .tup [vD m.a, vD m.b, vD m.c]
def bm (n : Nat) (m : M3) : Prop := bv n m.a ∧ bv n m.b ∧ bv n m.c
instance dec_vw {m : M3} : Decidable (Vw m) := inferInstanceAs (Decidable (_ ∧ _))
instance dec_bm {n : Nat} {m : M3} : Decidable (bm n m) := inferInstanceAs (Decidable (_ ∧ _ ∧ _))
theorem bm_pm {n : Nat} {m : M3} (h : bm n m) (hd : det m ≠ 0) : bm n (pm m) := by
  have e := pm_mul hd
  have hc := dvm hd
  have w : ∀ {x y : Int}, x = dv m.l * y → bt n x → bt n y := fun {x y} e h => by
    by_cases hx : x = 0
    · have : y = 0 := (Int.mul_eq_zero.mp (e.symm.trans hx)).resolve_left hc
      rw [this]; rw [hx] at h; exact h
    · exact bt_dvd h ⟨dv m.l, by rw [e, Int.mul_comm]⟩ hx
  have ea : m.a = sm (dv m.l) (pm m).a := congrArg M3.a e
  have eb : m.b = sm (dv m.l) (pm m).b := congrArg M3.b e
  have ec : m.c = sm (dv m.l) (pm m).c := congrArg M3.c e
  exact ⟨⟨w (congrArg T3.x ea) h.1.1, w (congrArg T3.y ea) h.1.2.1, w (congrArg T3.z ea) h.1.2.2⟩, ⟨w (congrArg T3.x eb) h.2.1.1, w (congrArg T3.y eb) h.2.1.2.1, w (congrArg T3.z eb) h.2.1.2.2⟩, ⟨w (congrArg T3.x ec) h.2.2.1, w (congrArg T3.y ec) h.2.2.2.1, w (congrArg T3.z ec) h.2.2.2.2⟩⟩
theorem bd9_of {n : Nat} {m : M3} (h : bm n m) (l : n ≤ 8000) : Bd m.l := by
  have w : ∀ {x : Int}, bt n x → x.natAbs < BIG := fun h => bt_mono h l
  intro x hx
  simp only [M3.l, List.mem_cons, List.not_mem_nil, or_false] at hx
  rcases hx with rfl | rfl | rfl | rfl | rfl | rfl | rfl | rfl | rfl
  · exact w h.1.1
  · exact w h.1.2.1
  · exact w h.1.2.2
  · exact w h.2.1.1
  · exact w h.2.1.2.1
  · exact w h.2.1.2.2
  · exact w h.2.2.1
  · exact w h.2.2.2.1
  · exact w h.2.2.2.2
theorem bv_mv {n q : Nat} {m : M3} {u : T3} (h : bm n m) (g : bv q u) : bv (n + q + 2) (mv m u) := ⟨bt_dt h.1 g, bt_dt h.2.1 g, bt_dt h.2.2 g⟩
theorem bm_cof {n : Nat} {m : M3} (h : bm n m) : bm (n + n + 1) (cof m) := ⟨bv_cr h.2.1 h.2.2, bv_cr h.2.2 h.1, bv_cr h.1 h.2.1⟩
section
variable {n : Nat} {S : Store} {k X : D → Store → Prop} {u v w : T3} {a b c : Nat} {m : M3} {f : F2}
theorem s_cross_v (hu : bv a u) (hv : bv b v) (l : a ≤ 400000 ∧ b ≤ 400000) (h : k (vD (cr u v)) S) : CT (n + 1) i_cross [vD u, vD v] S k X := by
  refine c_cross ?_
  unfold f_cross
  walk_at "go"
theorem s_dot_v (hu : bv a u) (hv : bv b v) (l : a ≤ 400000 ∧ b ≤ 400000) (h : k (.int (dt u v)) S) : CT (n + 1) i_dot [vD u, vD v] S k X :=
  s_dot (by walk_at "fs") (by walk_at "fs") (by walk_at "fs") h
theorem s_block_v (hu : bv a u) (hv : bv b v) (hw : bv c w) (l : a ≤ 100000 ∧ b ≤ 100000 ∧ c ≤ 100000) (h : k (.int (bk u v w)) S) : CT (n + 2) i_block [vD u, vD v, vD w] S k X := by
  refine c_block ?_
  unfold f_block
  try walk_at "fx"
  refine s_cross_v hv hw (by omega) ?_
  exact s_dot_v hu (bv_cr hv hw) (by omega) h
theorem s_added_v (h : k (vD (ad u v)) S) : CT (n + 1) i_added [vD u, vD v] S k X := s_added h
theorem s_scaled_v {t : Int} (hu : bv a u) (ht : bt b t) (l : a ≤ 400000 ∧ b ≤ 400000) (h : k (vD (sm t u)) S) : CT (n + 1) i_scaled [vD u, .int t] S k X :=
  s_scaled (ns := u.l) (by simp [T3.l, SZ]) (by
    intro x hx
    simp only [T3.l, List.mem_cons, List.not_mem_nil, or_false] at hx
    rcases hx with rfl | rfl | rfl <;> walk_at "fs") h
theorem s_plain_of_v (h0 : u ≠ V0) (hu : bv a u) (l : a ≤ 8000) (h : k (vD (pv u)) S) : CT (n + 2) i_plain_of [vD u] S k X :=
  s_plain_of (ns := u.l) (fl_V0.mpr h0) (bd_of hu l) (by simp [T3.l, SZ]) (by rw [pv_l]; exact h)
theorem s_plain_of_f (h0 : f ≠ F0) (hu : bt a f.n) (hv : bt b f.d) (l : a ≤ 8000 ∧ b ≤ 8000) (h : k (fD (pf f)) S) : CT (n + 2) i_plain_of [fD f] S k X :=
  s_plain_of (ns := f.l) (fl2.mpr h0) (bd2_of hu hv l) (by simp [F2.l, SZ]) (by rw [pf_l]; exact h)
theorem s_is_triple_v (hp : Pr u) (h : k (.bl true) S) : CT (n + 5) i_is_triple [vD u] S k X := s_is_triple (ns := u.l) rfl hp h
theorem s_check_point_v (hp : Pr u) (h : k .non S) : CT (n + 6) i_check_point [vD u] S k X := by
  refine c_check_point ?_
  unfold f_check_point
  try walk_at "fx"
  refine s_is_triple_v hp ?_
  try walk_at "fx"
  exact h
end
end FV
set_option Elab.async false
set_option linter.all false
set_option maxRecDepth 100000
/-! Ta: steps of joins and meets, plainly; words. -/
namespace FV
/-! ### steps -/
inductive Sk where
  | fr | ln | on (i : Nat) | th (i : Nat) | jn (i j : Nat) | mt (i j : Nat)
deriving DecidableEq
def Sk.pt : Sk → Bool
  | .fr => true | .on _ => true | .mt _ _ => true | _ => false
def Sk.wd : Sk → D
  | .fr => .str "free" | .ln => .str "line" | .on _ => .str "on" | .th _ => .str "through" | .jn _ _ => .str "join" | .mt _ _ => .str "meet"
/-- what a step gives -/
def kW : Bool → D
  | true => .str "point" | false => .str "line"
/-- a step behind steps of these kinds -/
def fit (ks : List Bool) : Sk → Bool
  | .fr => true | .ln => true
  | .on i => decide (ks[i]? = some false) | .th i => decide (ks[i]? = some true)
  | .jn i j => decide (ks[i]? = some true) && decide (ks[j]? = some true)
  | .mt i j => decide (ks[i]? = some false) && decide (ks[j]? = some false)
def fits : List Bool → List Sk → Bool
  | _, [] => true
  | ks, s :: r => fit ks s && fits (ks ++ [s.pt]) r
theorem fits_app {s : Sk} : ∀ {r : List Sk} {ks : List Bool}, fits ks (r ++ [s]) = (fits ks r && fit (ks ++ r.map Sk.pt) s)
  | [], ks => by simp [fits]
  | x :: r, ks => by
    show (fit ks x && fits (ks ++ [x.pt]) (r ++ [s])) = _
    rw [fits_app]
    simp [fits, Bool.and_assoc]
def isF : Sk → Bool
  | .fr => true | _ => false
def isL : Sk → Bool
  | .ln => true | _ => false
/-- how many numbers a step has of its own -/
def c1 (hf : Bool) (f l : Nat) : Sk → Nat
  | .fr => if f > 3 then 2 else 0
  | .ln => if hf || decide (l > 3) then 2 else 0
  | .on _ => 1 | .th _ => 1 | _ => 0
def nF (f : Nat) (s : Sk) : Nat := if isF s then f + 1 else f
def nL (l : Nat) (s : Sk) : Nat := if isL s then l + 1 else l
def cts (hf : Bool) : Nat → Nat → List Sk → List Nat
  | _, _, [] => []
  | f, l, s :: r => c1 hf f l s :: cts hf (nF f s) (nL l s) r
def hasF (ss : List Sk) : Bool := ss.any isF
def cnt (ss : List Sk) : Nat := (cts (hasF ss) 0 0 ss).sum
/-! ### where the steps lead -/
def corn : Nat → T3
  | 0 => ⟨1, 0, 0⟩ | 1 => ⟨0, 1, 0⟩ | 2 => ⟨0, 0, 1⟩ | _ => ⟨1, 1, 1⟩
def p1 (tr : List T3) (own : List Int) (cor : T3) : Sk → T3
  | .fr => (match own with | [a, b] => ⟨a, b, 1⟩ | _ => cor)
  | .ln => (match own with | [a, b] => ⟨a, b, 1⟩ | _ => cor)
  | .on i => cr (tr.getD i V0) ⟨1, own.headD 0, own.headD 0 * own.headD 0⟩
  | .th i => cr (tr.getD i V0) ⟨1, own.headD 0, own.headD 0 * own.headD 0⟩
  | .jn i j => cr (tr.getD i V0) (tr.getD j V0)
  | .mt i j => cr (tr.getD i V0) (tr.getD j V0)
/-- the corners seen -/
def nC (hf : Bool) (f l : Nat) : Nat := if hf then min f 4 else min l 4
def pls (hf : Bool) : Nat → Nat → List Int → List T3 → List Sk → List T3
  | _, _, _, tr, [] => tr
  | f, l, ps, tr, s :: r => pls hf (nF f s) (nL l s) (ps.drop (c1 hf f l s)) (tr ++ [p1 tr (ps.take (c1 hf f l s)) (corn (nC hf f l)) s]) r
def pl (ss : List Sk) (ps : List Int) : List T3 := pls (hasF ss) 0 0 ps [] ss
/-! ### how deep -/
def dp (ds : List Nat) : Sk → Nat
  | .fr => 0 | .ln => 0 | .on i => ds.getD i 0 + 1 | .th i => ds.getD i 0 + 1
  | .jn i j => max (ds.getD i 0) (ds.getD j 0) + 1 | .mt i j => max (ds.getD i 0) (ds.getD j 0) + 1
def deps : List Nat → List Sk → List Nat
  | ds, [] => ds
  | ds, s :: r => deps (ds ++ [dp ds s]) r
theorem deps_app {s : Sk} : ∀ {r : List Sk} {ds : List Nat}, deps ds (r ++ [s]) = deps ds r ++ [dp (deps ds r) s]
  | [], ds => rfl
  | x :: r, ds => by
    show deps (ds ++ [dp ds x]) (r ++ [s]) = _
    rw [deps_app]; rfl
theorem getD_le {b : Nat} : ∀ {ds : List Nat} {i : Nat}, (∀ x ∈ ds, x ≤ b) → ds.getD i 0 ≤ b := by
  intro ds i h
  rw [List.getD_eq_getElem?_getD]
  cases e : ds[i]? with
  | none => exact Nat.zero_le _
  | some x => exact h x (List.mem_of_getElem? e)
theorem dp_le {b : Nat} {ds : List Nat} {s : Sk} (h : ∀ x ∈ ds, x ≤ b) : dp ds s ≤ b + 1 := by
  have g : ∀ i, ds.getD i 0 ≤ b := fun i => getD_le h
  cases s with
  | fr => exact Nat.zero_le _
  | ln => exact Nat.zero_le _
  | on i => exact Nat.succ_le_succ (g i)
  | th i => exact Nat.succ_le_succ (g i)
  | jn i j => exact Nat.succ_le_succ (Nat.max_le.mpr ⟨g i, g j⟩)
  | mt i j => exact Nat.succ_le_succ (Nat.max_le.mpr ⟨g i, g j⟩)
theorem deps_le {b : Nat} {ss : List Sk} {s : Sk} (h : ∀ x ∈ deps [] ss, x ≤ b) : ∀ x ∈ deps [] (ss ++ [s]), x ≤ b + 1 := by
  intro x hx
  rw [deps_app] at hx
  rcases List.mem_append.mp hx with z | z
  · exact Nat.le_succ_of_le (h x z)
  · rw [List.mem_singleton.mp z]; exact dp_le h
def M (d : Nat) : Nat := 65 * 2 ^ d - 1
/-! ### sequences of the evaluator -/
theorem fcF3 {α : Type} {one : D → Store → (List D → Store → Prop) → Prop} {g f : α → D} : ∀ {xs : List α} {S : Store} {k : List D → Store → Prop}, (∀ x ∈ xs, ∀ k2 : List D → Store → Prop, k2 [f x] S → one (g x) S k2) → k (xs.map f) S → forC none one (xs.map g) S k
  | [], S, k, _, h => h
  | x :: xs, S, k, w, h => w x List.mem_cons_self _ (fcF3 (fun e he => w e (List.mem_cons_of_mem _ he)) h)
/-- the store grows -/
def Gw (S S' : Store) : Prop := ∃ t, S' = S ++ t
theorem Gw.refl {S : Store} : Gw S S := ⟨[], (List.append_nil S).symm⟩
theorem Gw.one {S : Store} {es : List D} : Gw S (S ++ [es]) := ⟨[es], rfl⟩
theorem Gw.trans {S S1 S2 : Store} (a : Gw S S1) (b : Gw S1 S2) : Gw S S2 := by
  obtain ⟨t, rfl⟩ := a
  obtain ⟨t2, rfl⟩ := b
  exact ⟨t ++ t2, List.append_assoc _ _ _⟩
theorem Gw.cl {S S1 : Store} (a : Gw S S1) {l : Nat} {es : List D} (h : cl S l = some es) : cl S1 l = some es := by
  obtain ⟨t, rfl⟩ := a
  rw [cl_get] at h ⊢
  rw [List.getElem?_append_left (List.getElem?_eq_some_iff.mp h).1]
  exact h
end FV
set_option Elab.async false
set_option linter.all false
set_option maxRecDepth 100000
/-! Tb: the program's steps. -/
namespace FV
theorem bls_c {α : Type} : ∀ {xs : List α}, bls? (xs.map fun _ => D.bl true) = some (xs.map fun _ => true)
  | [] => rfl
  | x :: xs => by
    show (bls? (xs.map fun _ => D.bl true)).map (true :: ·) = _
    rw [bls_c]; rfl
theorem all_c {α : Type} {xs : List α} : (xs.map fun _ => true).all id = true := by simp
section
variable {n : Nat} {S : Store} {k X : D → Store → Prop}
end
end FV
set_option Elab.async false
set_option linter.all false
set_option maxRecDepth 100000
/-! Tc: where the program's steps lead. -/
namespace FV
/-- the triples so far are not too great -/
structure Low (tr : List T3) (ds : List Nat) : Prop where
  len : ds.length = tr.length
  le : ∀ x ∈ ds, x ≤ 12
  bv : ∀ i, i < tr.length → bv (M (ds.getD i 0)) (tr.getD i V0)
theorem getD_app {α : Type} {xs : List α} {x d : α} {i : Nat} : (xs ++ [x]).getD i d = if i < xs.length then xs.getD i d else if i = xs.length then x else d := by
  rw [List.getD_eq_getElem?_getD, List.getElem?_append]
  by_cases h : i < xs.length
  · rw [if_pos h, if_pos h, List.getD_eq_getElem?_getD]
  · rw [if_neg h, if_neg h]
    by_cases e : i = xs.length
    · rw [if_pos e, e, Nat.sub_self]; rfl
    · rw [if_neg e]
      have : [x][i - xs.length]? = none := List.getElem?_eq_none (by rw [List.length_singleton]; omega)
      rw [this]; rfl
theorem Low.app {tr : List T3} {ds : List Nat} {t : T3} {d : Nat} (L : Low tr ds) (hd : d ≤ 12) (h : FV.bv (M d) t) : Low (tr ++ [t]) (ds ++ [d]) := by
  refine ⟨by rw [List.length_append, List.length_append, L.len]; rfl, fun x hx => ?_, fun i hi => ?_⟩
  · rcases List.mem_append.mp hx with z | z
    · exact L.le x z
    · rw [List.mem_singleton.mp z]; exact hd
  · rw [getD_app, getD_app, L.len]
    rw [List.length_append, List.length_singleton] at hi
    by_cases q : i < tr.length
    · rw [if_pos q, if_pos q]; exact L.bv i q
    · have e : i = tr.length := by omega
      rw [if_neg q, if_neg q, if_pos e, if_pos e]; exact h
section
variable {n : Nat} {S : Store} {k X : D → Store → Prop}
end
end FV
set_option Elab.async false
set_option linter.all false
set_option maxRecDepth 100000
/-! Td: the law's own things and placings. -/
namespace FV
/-- the law's things -/
def tls (hf : Bool) : Nat → Nat → Nat → List Sk → List D
  | _, _, _, [] => []
  | f, l, a, s :: r => .tup [kW s.pt, .tup (rngI a (c1 hf f l s))] :: tls hf (nF f s) (nL l s) (a + c1 hf f l s) r
section
variable {n : Nat} {S : Store} {k X : D → Store → Prop}
theorem s_law_cross68 {u v : T3} {a b : Nat} (hu : bv a u) (hv : bv b v) (l : a ≤ 400000 ∧ b ≤ 400000) (h : k (vD (cr u v)) S) : CT (n + 1) i_law_cross_v2 [vD u, vD v] S k X := by
  refine c_law_cross_v2 ?_
  simp! only [f_law_cross_v2, ↓seq_v, ↓seq_f, ↓itm_v, ↓itm_f, ↓asg_v, ↓asg_f, bp_v, bp_f, bps_tv, bps_tf, ↓two_vv, ↓two_vt, ↓two_tv, ↓two_ff, ↓still_v, ↓cut_v, ↓cop_eq_v, ↓cop_ne_v, ↓cop_eq_f, ↓cop_ne_f, inD_n, inD_c, pures_c, pures_n, pure_vT, pure_fT, pure_iT, pure_bT, pure_nT, eq_v, eq_f, Bool.or_false, and_self, ↓tru_v, non_v, non_f, ty_v, ty_f, ta_v, ta_f, ↓bop_vv, ↓bop_6v, ↓cut_9a, ↓cut_9b, ↓cut_9c, tup3, tup2, v_ti, f_ti, zipD, wp_cc, true_and, decide_true, decide_false, eq_self, sz_0, sz_1, sz_2, sz_3, sz_4, sz_5, sz_6, sz_7, sz_8, sz_9, sz_10, sz_11, sz_12, enm_1, enm_2, enm_3, enm_4, enm_5, enm_6, enm_7, enm_8, enm_9, enm_10, len_1, len_2, len_3, len_4, len_5, len_6, len_7, len_8, len_9, len_10]
  have m : ∀ {x y : Int}, bt a x → bt b y → mulOk x y := fun hx hy => mulOk_bt hx hy l
  exact ⟨m hu.2.1 hv.2.2, m hu.2.2 hv.2.1, m hu.2.2 hv.1, m hu.1 hv.2.2, m hu.1 hv.2.1, m hu.2.1 hv.1, h⟩
end
end FV
set_option Elab.async false
set_option linter.all false
set_option maxRecDepth 100000
/-! Te: what the laws of steps draw with. -/
namespace FV
/-- the pool drawn from, cells new, all others as they were -/
structure G3 (l : Nat) (S S' : Store) : Prop where
  le : S.length ≤ S'.length
  pl : Pl S' l
  fr : ∀ j, j < S.length → j ≠ l → cl S' j = cl S j
theorem G3.refl {l : Nat} {S : Store} (h : Pl S l) : G3 l S S := ⟨Nat.le_refl _, h, fun _ _ _ => rfl⟩
theorem G3.trans {l : Nat} {S S1 S2 : Store} (a : G3 l S S1) (b : G3 l S1 S2) : G3 l S S2 := ⟨Nat.le_trans a.le b.le, b.pl, fun j hj hn => (b.fr j (Nat.lt_of_lt_of_le hj a.le) hn).trans (a.fr j hj hn)⟩
theorem cl_lt {S : Store} {l : Nat} {es : List D} (h : cl S l = some es) : l < S.length := by
  rw [cl_get] at h
  exact (List.getElem?_eq_some_iff.mp h).1
theorem G3.of {l : Nat} {S S' : Store} (a : Dr l S S') : G3 l S S' := ⟨Nat.le_of_eq a.len.symm, a.pl, fun j _ hn => a.fr j hn⟩
theorem Pl.gw {l : Nat} {S S' : Store} (h : Pl S l) (g : Gw S S') : Pl S' l := by
  obtain ⟨a, b, c, e⟩ := h
  exact ⟨a, b, c, g.cl e⟩
theorem G3.gw {l : Nat} {S S' : Store} (h : Pl S l) (g : Gw S S') : G3 l S S' := by
  refine ⟨?_, h.gw g, fun j hj _ => ?_⟩
  · obtain ⟨t, rfl⟩ := g; rw [List.length_append]; omega
  · obtain ⟨t, rfl⟩ := g
    rw [cl_get, cl_get, List.getElem?_append_left hj]
theorem G3.cl {l c : Nat} {S S' : Store} {es : List D} (a : G3 l S S') (hn : c ≠ l) (h : cl S c = some es) : cl S' c = some es := by
  rw [a.fr c (cl_lt h) hn]; exact h
theorem G3.set {l c : Nat} {S S' : Store} {es : List D} (a : G3 l S S') (hc : S.length ≤ c) (hn : c ≠ l) : G3 l S (S'.set c es) := by
  obtain ⟨x, y, z, e⟩ := a.pl
  exact ⟨by rw [List.length_set]; exact a.le, ⟨x, y, z, by rw [cl_ne (Ne.symm hn)]; exact e⟩, fun j hj h => by rw [cl_ne (by omega)]; exact a.fr j hj h⟩
/-- steps drawn -/
structure Dsk (b : Nat) (ss : List Sk) : Prop where
  fit : fits [] ss = true
  dep : ∀ x ∈ deps [] ss, x ≤ b
theorem Dsk.app {b : Nat} {ss : List Sk} {s : Sk} (d : Dsk b ss) (h : FV.fit (ss.map Sk.pt) s = true) : Dsk (b + 1) (ss ++ [s]) :=
  ⟨by rw [fits_app, d.fit, List.nil_append, h]; rfl, deps_le d.dep⟩
/-- what may be looked at as the same -/
def alm : Nat → D → Bool
  | 0, _ => false
  | _ + 1, .int _ => true
  | _ + 1, .bl _ => true
  | _ + 1, .str x => pure? DEEP (.str x)
  | m + 1, .tup ds => decide (ds.length ≤ 1000) && ds.all (alm m)
  | _ + 1, _ => false
theorem zip_self : ∀ {ds : List D}, zipD ds ds = ds.map fun d => .tup [d, d]
  | [] => rfl
  | d :: ds => by
    show _ :: zipD ds ds = _ :: _
    rw [zip_self]
theorem eqm_i {i j : Int} {S : Store} {k : Bool → Prop} : eqmD false (.int i) (.int j) S k = k (decide (i = j)) := nr rfl
theorem eqm_b {i j : Bool} {S : Store} {k : Bool → Prop} : eqmD false (.bl i) (.bl j) S k = ((pure? DEEP (.bl i) = true ∧ pure? DEEP (.bl j) = true) ∧ k (eqD (.bl i) (.bl j))) := nr rfl
theorem eqm_s {i j : Str} {S : Store} {k : Bool → Prop} : eqmD false (.str i) (.str j) S k = ((pure? DEEP (.str i) = true ∧ pure? DEEP (.str j) = true) ∧ k (eqD (.str i) (.str j))) := nr rfl
theorem eqb_self {b : Bool} : eqD (.bl b) (.bl b) = true := by simp [eqD]
theorem eqs_self {s : Str} : eqD (.str s) (.str s) = true := by simp [eqD]
theorem alm_v {m : Nat} {u : T3} : alm (m + 2) (vD u) = true := rfl
theorem fc_tr {one : D → Store → (List D → Store → Prop) → Prop} : ∀ {n : Nat} {lo : Int} {S : Store} {k : List D → Store → Prop}, 0 ≤ lo → (∀ i S k2, 0 ≤ i → (∀ S', k2 [.bl true] S') → one (.int i) S k2) → (∀ S', k (List.replicate n (.bl true)) S') → forC none one (rngI lo n) S k
  | 0, lo, S, k, _, _, h => h S
  | n + 1, lo, S, k, h0, w, h => w _ S _ h0 fun S' => fc_tr (n := n) (by omega) w fun S2 => h S2
theorem bls_r : ∀ {n : Nat}, bls? (List.replicate n (D.bl true)) = some (List.replicate n true)
  | 0 => rfl
  | n + 1 => by
    show (bls? (List.replicate n (D.bl true))).map (true :: ·) = _
    rw [bls_r]; rfl
theorem all_r {n : Nat} : (List.replicate n true).all id = true := by simp
end FV
set_option Elab.async false
set_option linter.all false
set_option maxRecDepth 100000
/-! Lf: the program's views, double ratios. -/
namespace FV
section
variable {C : Hd} {X : D → Store → Prop} {σ : Env} {S : Store} {k : D → Store → Prop} {m : M3}
theorem seq_m {p : List D → Prop} : seq (mD m) S p = p [vD m.a, vD m.b, vD m.c] := nr rfl
theorem itm_m {p : Gd → List D → Prop} : itm (mD m) S p = p none [vD m.a, vD m.b, vD m.c] := nr rfl
theorem asg_m {ps : List Pt} {k : Env → Store → Prop} : asg C X (.pt (.tp ps)) (mD m) σ S k = onO (bindPs ps [vD m.a, vD m.b, vD m.c] σ) fun σ1 => k σ1 S := asg_tp
theorem sl_3 {a b c : D} {r : List D} : slice (a :: b :: c :: r) none (some 3) = [a, b, c] := by
  have : HT.sIx (r.length + 3) (r.length + 3) (some 3) = 3 := by unfold HT.sIx; simp
  have h0 : HT.sIx (r.length + 3) 0 none = 0 := rfl
  simp only [slice, List.length_cons]
  rw [h0, this]
  rfl
end
local macro_rules | `(tactic| walk_at "fbt") => `(tactic| first
  | assumption
  | exact bv_x (by assumption)
  | exact bv_y (by assumption)
  | exact bv_z (by assumption)
  | (apply bt_add <;> walk_at "fbt")
  | (apply bt_sub <;> walk_at "fbt")
  | (apply bt_mul <;> walk_at "fbt")
  | (apply bt_neg <;> walk_at "fbt")
  | (apply bt_dt <;> walk_at "fbt")
  | (apply bt_bk <;> walk_at "fbt")
  | (apply bv_cr <;> walk_at "fbt")
  | (apply bv_pv <;> walk_at "fbt")
  | (apply bv_sm <;> walk_at "fbt")
  | (apply bv_ad <;> walk_at "fbt")
  | exact bt_lt (n := 64) (by decide) (by decide)
  | (apply bv_mk <;> walk_at "fbt"))
local macro_rules | `(tactic| walk_at "fs") => `(tactic| first
  | assumption
  | (apply mulOk_bt; walk_at "fbt"; walk_at "fbt"; first | decide | assumption | omega)
  | (refine mulOk_l ?_ ?_ <;> omega)
  | (refine mulOk_r ?_ ?_ <;> omega)
  | walk_at "fbt"
  | omega
  | decide
  | (simp [SZ]; done))
local macro_rules | `(tactic| walk_at "fd") => `(tactic| first
  | rfl
  | exact decide_eq_true (by assumption)
  | exact decide_eq_false (by assumption)
  | decide
  | exact decide_eq_true (by omega)
  | exact decide_eq_false (by omega)
  | (simp [*]; done))
local macro_rules | `(tactic| walk_at "fx") => `(tactic| simp! only [lc_app', fc_cons, fc_nil, blk_app, ↓seq_v, ↓seq_f, ↓itm_v, ↓itm_f, ↓asg_v, ↓asg_f, bp_v, bp_f, bps_tv, bps_tf, ↓two_vv, ↓two_vt, ↓two_tv, ↓two_ff, ↓still_v, ↓cut_v, ↓cop_eq_v, ↓cop_ne_v, ↓cop_eq_f, ↓cop_ne_f, inD_n, inD_c, pures_c, pures_n, pure_vT, pure_fT, pure_iT, pure_bT, pure_nT, eq_v, eq_f, Bool.or_false, and_self, ↓tru_v, non_v, non_f, ty_v, ty_f, ta_v, ta_f, ↓bop_vv, ↓bop_6v, ↓cut_9a, ↓cut_9b, ↓cut_9c, tup3, tup2, v_ti, f_ti, zipD, wp_cc, true_and, decide_true, decide_false, eq_self, sz_0, sz_1, sz_2, sz_3, sz_4, sz_5, sz_6, sz_7, sz_8, sz_9, sz_10, sz_11, sz_12, enm_1, enm_2, enm_3, enm_4, enm_5, enm_6, enm_7, enm_8, enm_9, enm_10, len_1, len_2, len_3, len_4, len_5, len_6, len_7, len_8, len_9, len_10])
local macro_rules | `(tactic| walk_at "fw") => `(tactic| simp! only [lc_app', fc_cons, fc_nil, fw_cons, fw_nil, blk_app, ↓seq_v, ↓seq_f, ↓itm_v, ↓itm_f, ↓asg_v, ↓asg_f, bp_v, bp_f, bps_tv, bps_tf, ↓two_vv, ↓two_vt, ↓two_tv, ↓two_ff, ↓still_v, ↓cut_v, ↓cop_eq_v, ↓cop_ne_v, ↓cop_eq_f, ↓cop_ne_f, inD_n, inD_c, pures_c, pures_n, pure_vT, pure_fT, pure_iT, pure_bT, pure_nT, eq_v, eq_f, Bool.or_false, and_self, ↓tru_v, non_v, non_f, ty_v, ty_f, ta_v, ta_f, ↓bop_vv, ↓bop_6v, ↓cut_9a, ↓cut_9b, ↓cut_9c, tup3, tup2, v_ti, f_ti, zipD, wp_cc, true_and, decide_true, decide_false, eq_self, sz_0, sz_1, sz_2, sz_3, sz_4, sz_5, sz_6, sz_7, sz_8, sz_9, sz_10, sz_11, sz_12, enm_1, enm_2, enm_3, enm_4, enm_5, enm_6, enm_7, enm_8, enm_9, enm_10, len_1, len_2, len_3, len_4, len_5, len_6, len_7, len_8, len_9, len_10])
local macro_rules | `(tactic| walk_at "f1") => `(tactic| first
  | assumption
  | (with_reducible apply And.intro; walk_at "fs")
  | (with_reducible apply brk_t; walk_at "fd")
  | (with_reducible apply brk_f; walk_at "fd")
  | (with_reducible apply s_cross_v; walk_at "fs"; walk_at "fs"; walk_at "fs")
  | (with_reducible apply s_dot_v; walk_at "fs"; walk_at "fs"; walk_at "fs")
  | (with_reducible apply s_block_v; walk_at "fs"; walk_at "fs"; walk_at "fs"; walk_at "fs")
  | (with_reducible apply s_added_v)
  | (with_reducible apply s_scaled_v; walk_at "fs"; walk_at "fs"; walk_at "fs")
  | (with_reducible apply s_plain_of_v; walk_at "fs"; walk_at "fs"; walk_at "fs")
  | (with_reducible apply s_plain_of_f; walk_at "fs"; walk_at "fs"; walk_at "fs"; walk_at "fs")
  | (with_reducible apply s_is_zero_v)
  | (with_reducible apply s_is_triple_v; walk_at "fs")
  | (with_reducible apply s_check_point_v; walk_at "fs")
  | (with_reducible apply s_check_straight_v; walk_at "fs")
  | (with_reducible apply s_check_other_point_v; walk_at "fs"; walk_at "fs")
  | (with_reducible apply s_check_other_straight_v; walk_at "fs"; walk_at "fs")
  | (with_reducible apply s_join_v; walk_at "fs"; walk_at "fs"; walk_at "fs"; walk_at "fs"; walk_at "fs"; walk_at "fs")
  | (with_reducible apply s_meet_v; walk_at "fs"; walk_at "fs"; walk_at "fs"; walk_at "fs"; walk_at "fs"; walk_at "fs")
  | (with_reducible apply s_cross; walk_at "fs"; walk_at "fs"; walk_at "fs")
  | (with_reducible apply s_dot; walk_at "fs"; walk_at "fs"; walk_at "fs")
  | (with_reducible apply s_block; walk_at "fs"; walk_at "fs"; walk_at "fs"; walk_at "fs"; walk_at "fs"; walk_at "fs")
  | (with_reducible apply s_added)
  | (with_reducible apply s_scaled; walk_at "fs"; walk_at "fs")
  | (with_reducible apply s_law_dot; walk_at "fs"; walk_at "fs"; walk_at "fs")
  | (with_reducible apply s_law_plain_v2; walk_at "fs"; walk_at "fs"; walk_at "fs")
  | (with_reducible apply s_divisor_of)
  | (with_reducible apply s_first_live)
  | (with_reducible apply s_plain_of; walk_at "fs"; walk_at "fs"; walk_at "fs")
  | (with_reducible apply s_is_zero)
  | (with_reducible apply s_made_plain; walk_at "fs"; walk_at "fs"; walk_at "fs")
  | (with_reducible apply s_is_plain; walk_at "fs"; walk_at "fs"; walk_at "fs")
  | (with_reducible apply s_is_triple; walk_at "fs"; walk_at "fs")
  | (with_reducible apply s_is_point; walk_at "fs"; walk_at "fs")
  | (with_reducible apply s_law_divisor)
  | (with_reducible apply s_law_plain; walk_at "fs"; walk_at "fs"; walk_at "fs")
  | (with_reducible apply s_law_is_triple; walk_at "fs"; walk_at "fs"; walk_at "fs")
  | (with_reducible apply s_is_whole)
  | (with_reducible apply s_is_tuple_up_to)
  | (with_reducible apply s_is_tuple_of)
  | (with_reducible apply s_are_whole; walk_at "fs")
  | (with_reducible apply s_law_cross; walk_at "fs"; walk_at "fs"; walk_at "fs"))
local macro_rules | `(tactic| walk_at "go") => `(tactic| repeat (first | walk_at "f1" | walk_at "fw"))
local macro_rules | `(tactic| walk_at "g0") => `(tactic| repeat (first | walk_at "f1" | walk_at "fx"))
section
variable {n : Nat} {S : Store} {k X : D → Store → Prop} {u v w x y z p q : T3} {a b c d : Nat} {m : M3} {f : F2}
theorem s_is_view_of_v (hm : Vw m) (bb : bm a m) (l : a ≤ 1000) (h : k (.bl true) S) : CT (n + 6) i_is_view_of [mD m] S k X := by
  have h1 := bb.1
  have h2 := bb.2.1
  have h3 := bb.2.2
  refine c_is_view_of ?_
  simp! only [f_is_view_of, seq_m, itm_m, mD, ↓seq_v, ↓seq_f, ↓itm_v, ↓itm_f, ↓asg_v, ↓asg_f, bp_v, bp_f, bps_tv, bps_tf, ↓two_vv, ↓two_vt, ↓two_tv, ↓two_ff, ↓still_v, ↓cut_v, ↓cop_eq_v, ↓cop_ne_v, ↓cop_eq_f, ↓cop_ne_f, inD_n, inD_c, pures_c, pures_n, pure_vT, pure_fT, pure_iT, pure_bT, pure_nT, eq_v, eq_f, Bool.or_false, and_self, ↓tru_v, non_v, non_f, ty_v, ty_f, ta_v, ta_f, ↓bop_vv, ↓bop_6v, ↓cut_9a, ↓cut_9b, ↓cut_9c, tup3, tup2, v_ti, f_ti, zipD, wp_cc, true_and, decide_true, decide_false, eq_self, sz_0, sz_1, sz_2, sz_3, sz_4, sz_5, sz_6, sz_7, sz_8, sz_9, sz_10, sz_11, sz_12, enm_1, enm_2, enm_3, enm_4, enm_5, enm_6, enm_7, enm_8, enm_9, enm_10, len_1, len_2, len_3, len_4, len_5, len_6, len_7, len_8, len_9, len_10]
  refine s_is_tuple_of ?_
  simp! only [lc_app', fc_cons, fc_nil, brkF, ↓seq_v, ↓seq_f, ↓itm_v, ↓itm_f, ↓asg_v, ↓asg_f, bp_v, bp_f, bps_tv, bps_tf, ↓two_vv, ↓two_vt, ↓two_tv, ↓two_ff, ↓still_v, ↓cut_v, ↓cop_eq_v, ↓cop_ne_v, ↓cop_eq_f, ↓cop_ne_f, inD_n, inD_c, pures_c, pures_n, pure_vT, pure_fT, pure_iT, pure_bT, pure_nT, eq_v, eq_f, Bool.or_false, and_self, ↓tru_v, non_v, non_f, ty_v, ty_f, ta_v, ta_f, ↓bop_vv, ↓bop_6v, ↓cut_9a, ↓cut_9b, ↓cut_9c, tup3, tup2, v_ti, f_ti, zipD, wp_cc, true_and, decide_true, decide_false, eq_self, sz_0, sz_1, sz_2, sz_3, sz_4, sz_5, sz_6, sz_7, sz_8, sz_9, sz_10, sz_11, sz_12, enm_1, enm_2, enm_3, enm_4, enm_5, enm_6, enm_7, enm_8, enm_9, enm_10, len_1, len_2, len_3, len_4, len_5, len_6, len_7, len_8, len_9, len_10]
  refine s_are_whole (ns := m.a.l) (by simp [T3.l, SZ]) ?_
  refine s_are_whole (ns := m.b.l) (by simp [T3.l, SZ]) ?_
  refine s_are_whole (ns := m.c.l) (by simp [T3.l, SZ]) ?_
  have e : ∀ u : T3, decide ((u.l.length : Int) = 3) = true := fun u => rfl
  rw [e, e, e]
  have eb : bls? [D.bl true, D.bl true, D.bl true] = some [true, true, true] := rfl
  rw [eb]
  simp! only [↓seq_v, ↓seq_f, ↓itm_v, ↓itm_f, ↓asg_v, ↓asg_f, bp_v, bp_f, bps_tv, bps_tf, ↓two_vv, ↓two_vt, ↓two_tv, ↓two_ff, ↓still_v, ↓cut_v, ↓cop_eq_v, ↓cop_ne_v, ↓cop_eq_f, ↓cop_ne_f, inD_n, inD_c, pures_c, pures_n, pure_vT, pure_fT, pure_iT, pure_bT, pure_nT, eq_v, eq_f, Bool.or_false, and_self, ↓tru_v, non_v, non_f, ty_v, ty_f, ta_v, ta_f, ↓bop_vv, ↓bop_6v, ↓cut_9a, ↓cut_9b, ↓cut_9c, tup3, tup2, v_ti, f_ti, zipD, wp_cc, true_and, decide_true, decide_false, eq_self, sz_0, sz_1, sz_2, sz_3, sz_4, sz_5, sz_6, sz_7, sz_8, sz_9, sz_10, sz_11, sz_12, enm_1, enm_2, enm_3, enm_4, enm_5, enm_6, enm_7, enm_8, enm_9, enm_10, len_1, len_2, len_3, len_4, len_5, len_6, len_7, len_8, len_9, len_10]
  refine brk_f rfl ?_
  refine s_is_plain (ns := m.l) (by simp [M3.l, SZ]) rfl hm.1 ?_
  simp! only [↓seq_v, ↓seq_f, ↓itm_v, ↓itm_f, ↓asg_v, ↓asg_f, bp_v, bp_f, bps_tv, bps_tf, ↓two_vv, ↓two_vt, ↓two_tv, ↓two_ff, ↓still_v, ↓cut_v, ↓cop_eq_v, ↓cop_ne_v, ↓cop_eq_f, ↓cop_ne_f, inD_n, inD_c, pures_c, pures_n, pure_vT, pure_fT, pure_iT, pure_bT, pure_nT, eq_v, eq_f, Bool.or_false, and_self, ↓tru_v, non_v, non_f, ty_v, ty_f, ta_v, ta_f, ↓bop_vv, ↓bop_6v, ↓cut_9a, ↓cut_9b, ↓cut_9c, tup3, tup2, v_ti, f_ti, zipD, wp_cc, true_and, decide_true, decide_false, eq_self, sz_0, sz_1, sz_2, sz_3, sz_4, sz_5, sz_6, sz_7, sz_8, sz_9, sz_10, sz_11, sz_12, enm_1, enm_2, enm_3, enm_4, enm_5, enm_6, enm_7, enm_8, enm_9, enm_10, len_1, len_2, len_3, len_4, len_5, len_6, len_7, len_8, len_9, len_10]
  refine s_block_v h1 h2 h3 (by omega) ?_
  try walk_at "fx"
  rw [decide_eq_false (show ¬ bk m.a m.b m.c = 0 from hm.2)]
  exact h
theorem s_check_view_v (hm : Vw m) (bb : bm a m) (l : a ≤ 1000) (h : k .non S) : CT (n + 7) i_check_view [mD m] S k X := by
  refine c_check_view ?_
  unfold f_check_view
  try walk_at "fx"
  refine s_is_view_of_v hm bb l ?_
  try walk_at "fx"
  exact h
theorem s_table_times_v (bb : bm a m) (bu : bv b u) (l : a ≤ 100000 ∧ b ≤ 100000) (h : k (vD (mv m u)) S) : CT (n + 2) i_table_times [mD m, vD u] S k X := by
  have h1 := bb.1
  have h2 := bb.2.1
  have h3 := bb.2.2
  refine c_table_times ?_
  simp! only [f_table_times, itm_m, lc_app', fc_cons, fc_nil, ↓seq_v, ↓seq_f, ↓itm_v, ↓itm_f, ↓asg_v, ↓asg_f, bp_v, bp_f, bps_tv, bps_tf, ↓two_vv, ↓two_vt, ↓two_tv, ↓two_ff, ↓still_v, ↓cut_v, ↓cop_eq_v, ↓cop_ne_v, ↓cop_eq_f, ↓cop_ne_f, inD_n, inD_c, pures_c, pures_n, pure_vT, pure_fT, pure_iT, pure_bT, pure_nT, eq_v, eq_f, Bool.or_false, and_self, ↓tru_v, non_v, non_f, ty_v, ty_f, ta_v, ta_f, ↓bop_vv, ↓bop_6v, ↓cut_9a, ↓cut_9b, ↓cut_9c, tup3, tup2, v_ti, f_ti, zipD, wp_cc, true_and, decide_true, decide_false, eq_self, sz_0, sz_1, sz_2, sz_3, sz_4, sz_5, sz_6, sz_7, sz_8, sz_9, sz_10, sz_11, sz_12, enm_1, enm_2, enm_3, enm_4, enm_5, enm_6, enm_7, enm_8, enm_9, enm_10, len_1, len_2, len_3, len_4, len_5, len_6, len_7, len_8, len_9, len_10]
  refine s_dot_v h1 bu (by omega) ?_
  refine s_dot_v h2 bu (by omega) ?_
  refine s_dot_v h3 bu (by omega) ?_
  try walk_at "fx"
  exact h
theorem s_turned_table_v (h : k (mD (trp m)) S) : CT (n + 2) i_turned_table [mD m] S k X := by
  refine c_turned_table ?_
  simp! only [f_turned_table, itm_m, lc_app', fc_cons, fc_nil, ↓seq_v, ↓seq_f, ↓itm_v, ↓itm_f, ↓asg_v, ↓asg_f, bp_v, bp_f, bps_tv, bps_tf, ↓two_vv, ↓two_vt, ↓two_tv, ↓two_ff, ↓still_v, ↓cut_v, ↓cop_eq_v, ↓cop_ne_v, ↓cop_eq_f, ↓cop_ne_f, inD_n, inD_c, pures_c, pures_n, pure_vT, pure_fT, pure_iT, pure_bT, pure_nT, eq_v, eq_f, Bool.or_false, and_self, ↓tru_v, non_v, non_f, ty_v, ty_f, ta_v, ta_f, ↓bop_vv, ↓bop_6v, ↓cut_9a, ↓cut_9b, ↓cut_9c, tup3, tup2, v_ti, f_ti, zipD, wp_cc, true_and, decide_true, decide_false, eq_self, sz_0, sz_1, sz_2, sz_3, sz_4, sz_5, sz_6, sz_7, sz_8, sz_9, sz_10, sz_11, sz_12, enm_1, enm_2, enm_3, enm_4, enm_5, enm_6, enm_7, enm_8, enm_9, enm_10, len_1, len_2, len_3, len_4, len_5, len_6, len_7, len_8, len_9, len_10]
  exact ⟨by decide, h⟩
theorem s_adjugate_v (bb : bm a m) (l : a ≤ 100000) (h : k (mD (trp (cof m))) S) : CT (n + 3) i_adjugate [mD m] S k X := by
  have h1 := bb.1
  have h2 := bb.2.1
  have h3 := bb.2.2
  refine c_adjugate ?_
  simp! only [f_adjugate, asg_m, ↓seq_v, ↓seq_f, ↓itm_v, ↓itm_f, ↓asg_v, ↓asg_f, bp_v, bp_f, bps_tv, bps_tf, ↓two_vv, ↓two_vt, ↓two_tv, ↓two_ff, ↓still_v, ↓cut_v, ↓cop_eq_v, ↓cop_ne_v, ↓cop_eq_f, ↓cop_ne_f, inD_n, inD_c, pures_c, pures_n, pure_vT, pure_fT, pure_iT, pure_bT, pure_nT, eq_v, eq_f, Bool.or_false, and_self, ↓tru_v, non_v, non_f, ty_v, ty_f, ta_v, ta_f, ↓bop_vv, ↓bop_6v, ↓cut_9a, ↓cut_9b, ↓cut_9c, tup3, tup2, v_ti, f_ti, zipD, wp_cc, true_and, decide_true, decide_false, eq_self, sz_0, sz_1, sz_2, sz_3, sz_4, sz_5, sz_6, sz_7, sz_8, sz_9, sz_10, sz_11, sz_12, enm_1, enm_2, enm_3, enm_4, enm_5, enm_6, enm_7, enm_8, enm_9, enm_10, len_1, len_2, len_3, len_4, len_5, len_6, len_7, len_8, len_9, len_10]
  refine s_cross_v h2 h3 (by omega) ?_
  refine s_cross_v h3 h1 (by omega) ?_
  refine s_cross_v h1 h2 (by omega) ?_
  exact s_turned_table_v (m := cof m) h
/-! ### double ratios -/
theorem bt_pk (h : bv a u) : bt a (pk w u) := by
  unfold pk
  split
  · exact h.1
  · split
    · exact h.2.1
    · exact h.2.2
def plD (w : T3) : D := if w.x ≠ 0 then fD ⟨1, 2⟩ else if w.y ≠ 0 then fD ⟨2, 0⟩ else fD ⟨0, 1⟩
theorem s_place_for_v (hu : bv a u) (hv : bv b v) (l : a ≤ 1000 ∧ b ≤ 1000) (hw : cr u v ≠ V0) (h : k (plD (cr u v)) S) : CT (n + 2) i_place_for [vD u, vD v] S k X := by
  refine c_place_for ?_
  simp! only [f_place_for, ↓seq_v, ↓seq_f, ↓itm_v, ↓itm_f, ↓asg_v, ↓asg_f, bp_v, bp_f, bps_tv, bps_tf, ↓two_vv, ↓two_vt, ↓two_tv, ↓two_ff, ↓still_v, ↓cut_v, ↓cop_eq_v, ↓cop_ne_v, ↓cop_eq_f, ↓cop_ne_f, inD_n, inD_c, pures_c, pures_n, pure_vT, pure_fT, pure_iT, pure_bT, pure_nT, eq_v, eq_f, Bool.or_false, and_self, ↓tru_v, non_v, non_f, ty_v, ty_f, ta_v, ta_f, ↓bop_vv, ↓bop_6v, ↓cut_9a, ↓cut_9b, ↓cut_9c, tup3, tup2, v_ti, f_ti, zipD, wp_cc, true_and, decide_true, decide_false, eq_self, sz_0, sz_1, sz_2, sz_3, sz_4, sz_5, sz_6, sz_7, sz_8, sz_9, sz_10, sz_11, sz_12, enm_1, enm_2, enm_3, enm_4, enm_5, enm_6, enm_7, enm_8, enm_9, enm_10, len_1, len_2, len_3, len_4, len_5, len_6, len_7, len_8, len_9, len_10]
  refine s_cross_v hu hv (by omega) ?_
  generalize cr u v = w at *
  simp! only [lc_app', fc_cons, fc_nil, ↓seq_v, ↓seq_f, ↓itm_v, ↓itm_f, ↓asg_v, ↓asg_f, bp_v, bp_f, bps_tv, bps_tf, ↓two_vv, ↓two_vt, ↓two_tv, ↓two_ff, ↓still_v, ↓cut_v, ↓cop_eq_v, ↓cop_ne_v, ↓cop_eq_f, ↓cop_ne_f, inD_n, inD_c, pures_c, pures_n, pure_vT, pure_fT, pure_iT, pure_bT, pure_nT, eq_v, eq_f, Bool.or_false, and_self, ↓tru_v, non_v, non_f, ty_v, ty_f, ta_v, ta_f, ↓bop_vv, ↓bop_6v, ↓cut_9a, ↓cut_9b, ↓cut_9c, tup3, tup2, v_ti, f_ti, zipD, wp_cc, true_and, decide_true, decide_false, eq_self, sz_0, sz_1, sz_2, sz_3, sz_4, sz_5, sz_6, sz_7, sz_8, sz_9, sz_10, sz_11, sz_12, enm_1, enm_2, enm_3, enm_4, enm_5, enm_6, enm_7, enm_8, enm_9, enm_10, len_1, len_2, len_3, len_4, len_5, len_6, len_7, len_8, len_9, len_10]
  unfold plD at h
  by_cases hx : w.x = 0
  · rw [if_neg (by simp [hx])] at h
    refine brk_f (by simp [hx]) ?_
    by_cases hy : w.y = 0
    · rw [if_neg (by simp [hy])] at h
      have hz : w.z ≠ 0 := fun hz => hw (T3.ext' hx hy hz)
      refine brk_f (by simp [hy]) (brk_t (by simp [hz]) ?_)
      exact h
    · rw [if_pos hy] at h
      refine brk_t (by simp [hy]) (brk_same ?_)
      exact h
  · rw [if_pos hx] at h
    refine brk_t (by simp [hx]) ?_
    refine brk_i (fun _ => brk_i (fun _ => h) fun _ => h) fun _ => brk_i (fun _ => h) fun _ => h
theorem s_minor_v (hu : bv a u) (hv : bv b v) (l : a ≤ 400000 ∧ b ≤ 400000) (h : k (.int (pk w (cr u v))) S) : CT (n + 1) i_minor [vD u, vD v, plD w] S k X := by
  refine c_minor ?_
  unfold plD
  unfold pk at h
  by_cases hx : w.x = 0
  · by_cases hy : w.y = 0
    · simp only [hx, hy, ne_eq, not_true_eq_false, if_false] at h ⊢
      unfold f_minor
      walk_at "go"
    · simp only [hx, hy, ne_eq, not_true_eq_false, not_false_eq_true, if_true, if_false] at h ⊢
      unfold f_minor
      walk_at "go"
  · simp only [hx, ne_eq, not_false_eq_true, if_true] at h ⊢
    unfold f_minor
    walk_at "go"
theorem s_parts_by_v (hu : bv a u) (hv : bv b v) (hx : bv c x) (l : a ≤ 1000 ∧ b ≤ 1000 ∧ c ≤ 1000) (hw : cr u v ≠ V0) (h : k (fD (pts u v x)) S) : CT (n + 3) i_parts_by [vD u, vD v, vD x] S k X := by
  refine c_parts_by ?_
  unfold f_parts_by
  try walk_at "fx"
  refine s_place_for_v hu hv (by omega) hw ?_
  refine s_minor_v hx hv (by omega) ?_
  refine s_minor_v hu hx (by omega) ?_
  try walk_at "fx"
  exact h
theorem s_ratio_by_v (hu : bv a u) (hv : bv b v) (hx : bv c x) (hy : bv d y) (l : a ≤ 1000 ∧ b ≤ 1000 ∧ c ≤ 1000 ∧ d ≤ 1000) (hw : cr u v ≠ V0) (h0 : rt u v x y ≠ F0) (h : k (fD (pf (rt u v x y))) S) : CT (n + 4) i_ratio_by [vD u, vD v, vD x, vD y] S k X := by
  refine c_ratio_by ?_
  unfold f_ratio_by
  try walk_at "fx"
  refine s_parts_by_v hu hv hx (by omega) hw ?_
  refine s_parts_by_v hu hv hy (by omega) hw ?_
  try walk_at "fx"
  have b1 : bt (a + c + 1) (pts u v x).d := bt_pk (bv_cr hu hx)
  have b2 : bt (c + b + 1) (pts u v x).n := bt_pk (bv_cr hx hv)
  have b3 : bt (a + d + 1) (pts u v y).d := bt_pk (bv_cr hu hy)
  have b4 : bt (d + b + 1) (pts u v y).n := bt_pk (bv_cr hy hv)
  refine ⟨by walk_at "fs", by walk_at "fs", ?_⟩
  exact s_plain_of_f (f := rt u v x y) h0 (bt_mul b4 b1) (bt_mul b3 b2) (by omega) h
theorem s_check_points4 (h1 : Pr x) (h2 : Pr y) (h3 : Pr z) (h4 : Pr w) (h : k .non S) : CT (n + 7) i_check_points [.tup [vD x, vD y, vD z, vD w]] S k X := by
  refine c_check_points ?_
  unfold f_check_points
  try walk_at "fw"
  refine s_check_point_v h1 ?_
  refine s_check_point_v h2 ?_
  refine s_check_point_v h3 ?_
  refine s_check_point_v h4 ?_
  exact h
theorem s_check_points3 (h1 : Pr x) (h2 : Pr y) (h3 : Pr z) (h : k .non S) : CT (n + 7) i_check_points [.tup [vD x, vD y, vD z]] S k X := by
  refine c_check_points ?_
  unfold f_check_points
  try walk_at "fw"
  refine s_check_point_v h1 ?_
  refine s_check_point_v h2 ?_
  refine s_check_point_v h3 ?_
  exact h
end
end FV
set_option Elab.async false
set_option linter.all false
set_option maxRecDepth 100000
/-! Lg: what the laws k20 to k39 draw and compare. -/
namespace FV
local macro_rules | `(tactic| walk_at "fbt") => `(tactic| first
  | assumption
  | exact bv_x (by assumption)
  | exact bv_y (by assumption)
  | exact bv_z (by assumption)
  | (apply bt_add <;> walk_at "fbt")
  | (apply bt_sub <;> walk_at "fbt")
  | (apply bt_mul <;> walk_at "fbt")
  | (apply bt_neg <;> walk_at "fbt")
  | (apply bt_dt <;> walk_at "fbt")
  | (apply bt_bk <;> walk_at "fbt")
  | (apply bv_cr <;> walk_at "fbt")
  | (apply bv_pv <;> walk_at "fbt")
  | (apply bv_sm <;> walk_at "fbt")
  | (apply bv_ad <;> walk_at "fbt")
  | exact bt_lt (n := 64) (by decide) (by decide)
  | (apply bv_mk <;> walk_at "fbt"))
local macro_rules | `(tactic| walk_at "fs") => `(tactic| first
  | assumption
  | (apply mulOk_bt; walk_at "fbt"; walk_at "fbt"; first | decide | assumption | omega)
  | (refine mulOk_l ?_ ?_ <;> omega)
  | (refine mulOk_r ?_ ?_ <;> omega)
  | walk_at "fbt"
  | omega
  | decide
  | (simp [SZ]; done))
local macro_rules | `(tactic| walk_at "fd") => `(tactic| first
  | rfl
  | exact decide_eq_true (by assumption)
  | exact decide_eq_false (by assumption)
  | decide
  | exact decide_eq_true (by omega)
  | exact decide_eq_false (by omega)
  | (simp [*]; done))
local macro_rules | `(tactic| walk_at "fx") => `(tactic| simp! only [lc_app', fc_cons, fc_nil, blk_app, ↓seq_v, ↓seq_f, ↓itm_v, ↓itm_f, ↓asg_v, ↓asg_f, bp_v, bp_f, bps_tv, bps_tf, ↓two_vv, ↓two_vt, ↓two_tv, ↓two_ff, ↓still_v, ↓cut_v, ↓cop_eq_v, ↓cop_ne_v, ↓cop_eq_f, ↓cop_ne_f, inD_n, inD_c, pures_c, pures_n, pure_vT, pure_fT, pure_iT, pure_bT, pure_nT, eq_v, eq_f, Bool.or_false, and_self, ↓tru_v, non_v, non_f, ty_v, ty_f, ta_v, ta_f, ↓bop_vv, ↓bop_6v, ↓cut_9a, ↓cut_9b, ↓cut_9c, tup3, tup2, v_ti, f_ti, zipD, wp_cc, true_and, decide_true, decide_false, eq_self, sz_0, sz_1, sz_2, sz_3, sz_4, sz_5, sz_6, sz_7, sz_8, sz_9, sz_10, sz_11, sz_12, enm_1, enm_2, enm_3, enm_4, enm_5, enm_6, enm_7, enm_8, enm_9, enm_10, len_1, len_2, len_3, len_4, len_5, len_6, len_7, len_8, len_9, len_10])
local macro_rules | `(tactic| walk_at "fw") => `(tactic| simp! only [lc_app', fc_cons, fc_nil, fw_cons, fw_nil, blk_app, ↓seq_v, ↓seq_f, ↓itm_v, ↓itm_f, ↓asg_v, ↓asg_f, bp_v, bp_f, bps_tv, bps_tf, ↓two_vv, ↓two_vt, ↓two_tv, ↓two_ff, ↓still_v, ↓cut_v, ↓cop_eq_v, ↓cop_ne_v, ↓cop_eq_f, ↓cop_ne_f, inD_n, inD_c, pures_c, pures_n, pure_vT, pure_fT, pure_iT, pure_bT, pure_nT, eq_v, eq_f, Bool.or_false, and_self, ↓tru_v, non_v, non_f, ty_v, ty_f, ta_v, ta_f, ↓bop_vv, ↓bop_6v, ↓cut_9a, ↓cut_9b, ↓cut_9c, tup3, tup2, v_ti, f_ti, zipD, wp_cc, true_and, decide_true, decide_false, eq_self, sz_0, sz_1, sz_2, sz_3, sz_4, sz_5, sz_6, sz_7, sz_8, sz_9, sz_10, sz_11, sz_12, enm_1, enm_2, enm_3, enm_4, enm_5, enm_6, enm_7, enm_8, enm_9, enm_10, len_1, len_2, len_3, len_4, len_5, len_6, len_7, len_8, len_9, len_10])
local macro_rules | `(tactic| walk_at "f1") => `(tactic| first
  | assumption
  | (with_reducible apply And.intro; walk_at "fs")
  | (with_reducible apply brk_t; walk_at "fd")
  | (with_reducible apply brk_f; walk_at "fd")
  | (with_reducible apply s_is_view_of_v; walk_at "fs"; walk_at "fs"; walk_at "fs")
  | (with_reducible apply s_check_view_v; walk_at "fs"; walk_at "fs"; walk_at "fs")
  | (with_reducible apply s_table_times_v; walk_at "fs"; walk_at "fs"; walk_at "fs")
  | (with_reducible apply s_turned_table_v)
  | (with_reducible apply s_adjugate_v; walk_at "fs"; walk_at "fs")
  | (with_reducible apply s_turn_line_v; walk_at "fs"; walk_at "fs"; walk_at "fs"; walk_at "fs"; walk_at "fs")
  | (with_reducible apply s_turned_line_v; walk_at "fs"; walk_at "fs"; walk_at "fs"; walk_at "fs"; walk_at "fs")
  | (with_reducible apply s_place_for_v; walk_at "fs"; walk_at "fs"; walk_at "fs"; walk_at "fs")
  | (with_reducible apply s_minor_v; walk_at "fs"; walk_at "fs"; walk_at "fs")
  | (with_reducible apply s_parts_by_v; walk_at "fs"; walk_at "fs"; walk_at "fs"; walk_at "fs"; walk_at "fs")
  | (with_reducible apply s_ratio_by_v; walk_at "fs"; walk_at "fs"; walk_at "fs"; walk_at "fs"; walk_at "fs"; walk_at "fs"; walk_at "fs")
  | (with_reducible apply s_check_points4; walk_at "fs"; walk_at "fs"; walk_at "fs"; walk_at "fs")
  | (with_reducible apply s_check_points3; walk_at "fs"; walk_at "fs"; walk_at "fs")
  | (with_reducible apply s_do_fit4; walk_at "fs"; walk_at "fs"; walk_at "fs"; walk_at "fs"; walk_at "fs"; walk_at "fs"; walk_at "fs"; walk_at "fs"; walk_at "fs"; walk_at "fs")
  | (with_reducible apply s_do_fit3; walk_at "fs"; walk_at "fs"; walk_at "fs"; walk_at "fs"; walk_at "fs"; walk_at "fs"; walk_at "fs"; walk_at "fs")
  | (with_reducible apply s_check_fit4; walk_at "fs"; walk_at "fs"; walk_at "fs"; walk_at "fs"; walk_at "fs"; walk_at "fs"; walk_at "fs"; walk_at "fs"; walk_at "fs"; walk_at "fs")
  | (with_reducible apply s_check_fit3; walk_at "fs"; walk_at "fs"; walk_at "fs"; walk_at "fs"; walk_at "fs"; walk_at "fs"; walk_at "fs"; walk_at "fs")
  | (with_reducible apply s_double_ratio_v; walk_at "fs"; walk_at "fs"; walk_at "fs"; walk_at "fs"; walk_at "fs"; walk_at "fs"; walk_at "fs")
  | (with_reducible apply s_line_ratio_v; walk_at "fs"; walk_at "fs"; walk_at "fs"; walk_at "fs"; walk_at "fs"; walk_at "fs"; walk_at "fs")
  | (with_reducible apply s_cross_v; walk_at "fs"; walk_at "fs"; walk_at "fs")
  | (with_reducible apply s_dot_v; walk_at "fs"; walk_at "fs"; walk_at "fs")
  | (with_reducible apply s_block_v; walk_at "fs"; walk_at "fs"; walk_at "fs"; walk_at "fs")
  | (with_reducible apply s_added_v)
  | (with_reducible apply s_scaled_v; walk_at "fs"; walk_at "fs"; walk_at "fs")
  | (with_reducible apply s_plain_of_v; walk_at "fs"; walk_at "fs"; walk_at "fs")
  | (with_reducible apply s_plain_of_f; walk_at "fs"; walk_at "fs"; walk_at "fs"; walk_at "fs")
  | (with_reducible apply s_is_zero_v)
  | (with_reducible apply s_is_triple_v; walk_at "fs")
  | (with_reducible apply s_check_point_v; walk_at "fs")
  | (with_reducible apply s_check_straight_v; walk_at "fs")
  | (with_reducible apply s_check_other_point_v; walk_at "fs"; walk_at "fs")
  | (with_reducible apply s_check_other_straight_v; walk_at "fs"; walk_at "fs")
  | (with_reducible apply s_join_v; walk_at "fs"; walk_at "fs"; walk_at "fs"; walk_at "fs"; walk_at "fs"; walk_at "fs")
  | (with_reducible apply s_meet_v; walk_at "fs"; walk_at "fs"; walk_at "fs"; walk_at "fs"; walk_at "fs"; walk_at "fs")
  | (with_reducible apply s_cross; walk_at "fs"; walk_at "fs"; walk_at "fs")
  | (with_reducible apply s_dot; walk_at "fs"; walk_at "fs"; walk_at "fs")
  | (with_reducible apply s_block; walk_at "fs"; walk_at "fs"; walk_at "fs"; walk_at "fs"; walk_at "fs"; walk_at "fs")
  | (with_reducible apply s_added)
  | (with_reducible apply s_scaled; walk_at "fs"; walk_at "fs")
  | (with_reducible apply s_law_dot; walk_at "fs"; walk_at "fs"; walk_at "fs")
  | (with_reducible apply s_law_plain_v2; walk_at "fs"; walk_at "fs"; walk_at "fs")
  | (with_reducible apply s_divisor_of)
  | (with_reducible apply s_first_live)
  | (with_reducible apply s_plain_of; walk_at "fs"; walk_at "fs"; walk_at "fs")
  | (with_reducible apply s_is_zero)
  | (with_reducible apply s_made_plain; walk_at "fs"; walk_at "fs"; walk_at "fs")
  | (with_reducible apply s_is_plain; walk_at "fs"; walk_at "fs"; walk_at "fs")
  | (with_reducible apply s_is_triple; walk_at "fs"; walk_at "fs")
  | (with_reducible apply s_is_point; walk_at "fs"; walk_at "fs")
  | (with_reducible apply s_law_divisor)
  | (with_reducible apply s_law_plain; walk_at "fs"; walk_at "fs"; walk_at "fs")
  | (with_reducible apply s_law_is_triple; walk_at "fs"; walk_at "fs"; walk_at "fs")
  | (with_reducible apply s_is_whole)
  | (with_reducible apply s_is_tuple_up_to)
  | (with_reducible apply s_is_tuple_of)
  | (with_reducible apply s_are_whole; walk_at "fs")
  | (with_reducible apply s_law_cross; walk_at "fs"; walk_at "fs"; walk_at "fs"))
local macro_rules | `(tactic| walk_at "go") => `(tactic| repeat (first | walk_at "f1" | walk_at "fw"))
local macro_rules | `(tactic| walk_at "g0") => `(tactic| repeat (first | walk_at "f1" | walk_at "fx"))
section
variable {n : Nat} {S : Store} {k X : D → Store → Prop} {u v w x y z p q : T3} {a b c d : Nat} {m : M3} {f : F2} {l : Nat}
end
end FV
set_option Elab.async false
set_option linter.all false
/-! Vs: lines, their points, turned. -/
namespace FV
def e0 : T3 := ⟨1, 0, 0⟩
def e1 : T3 := ⟨0, 1, 0⟩
def e2 : T3 := ⟨0, 0, 1⟩
/-- points of a line, turned -/
def gt (m : M3) (u : T3) : T3 := pv (mv m (pv u))
theorem cr_zl {u v : T3} (h : cr u v ≠ V0) : u ≠ V0 := fun e => h (by rw [e]; simp [cr, V0])
end FV
set_option Elab.async false
set_option linter.all false
/-! Vt: fourth points. -/
namespace FV
theorem lin_ne2 {x y : T3} {a b : Int} (h : cr x y ≠ V0) (hab : a ≠ 0 ∨ b ≠ 0) : ad (sm a x) (sm b y) ≠ V0 := fun e => by
  by_cases hb : b = 0
  · have ha : a ≠ 0 := hab.resolve_right (by simp [hb])
    rw [hb, sm_0, ad_0] at e
    exact cr_zl h ((sm0 ha).mp e)
  · exact lin_ne h hb e
/-- three in line, unlike -/
structure Thr (x y z : T3) : Prop where
  p1 : Pr x
  p2 : Pr y
  p3 : Pr z
  n1 : y ≠ x
  n2 : z ≠ x
  n3 : y ≠ z
  k1 : bk x y z = 0
theorem Four.thr {x y z w : T3} (F : Four x y z w) : Thr x y z := ⟨F.p1, F.p2, F.p3, F.n1, F.n2, F.n3, F.k1⟩
/-- the fourth one, not made plain -/
def ft (x y z : T3) (p : F2) : T3 := ad (sm (p.n * (pts x y z).n) x) (sm (p.d * (pts x y z).d) y)
theorem pq_or {p : F2} (h : Pq p) : p.n ≠ 0 ∨ p.d ≠ 0 := by
  have := pq_ne h
  by_cases e : p.n = 0
  · right
    intro g
    obtain ⟨a, b⟩ := p
    simp only at e g
    subst e; subst g
    exact this rfl
  · exact .inl e
theorem ft_ne {x y z : T3} {p : F2} (T : Thr x y z) (hp : Pq p) : ft x y z p ≠ V0 := by
  obtain ⟨g1, g2⟩ := pts_ne T.p1 T.p2 T.p3 T.n1 T.n2 T.n3 T.k1
  exact lin_ne2 (cr_ne T.p1 T.p2 T.n1.symm) ((pq_or hp).imp (fun h => Int.mul_ne_zero h g1) (fun h => Int.mul_ne_zero h g2))
theorem bk_lin2 {x y w : T3} {t a b : Int} (ht : t ≠ 0) (h : sm t w = ad (sm a x) (sm b y)) : bk x y w = 0 := by
  have e := bk_lin (x := x) (y := y) (a := a) (b := b)
  rw [← h] at e
  have := bk_sm (a := 1) (b := 1) (c := t) (x := x) (y := y) (z := w)
  rw [sm_one, sm_one, e] at this
  exact (Int.mul_eq_zero.mp this.symm).resolve_left (by simpa using ht)
theorem pf_one {f g : F2} (hf : f ≠ F0) (hg : Pq g) (h : cf f g = 0) : pf f = g := by
  rw [(pf_eq hf (pq_ne hg)).mpr h, pf_of hg]
theorem pf_via {f g p : F2} (hf : f ≠ F0) (hg : g ≠ F0) (hp : Pq p) (h : cf f g = 0) (h2 : cf g p = 0) : pf f = p := by
  rw [(pf_eq hf hg).mpr h]
  exact pf_one hg hp h2
/-- by sums: the double ratio -/
theorem rt_sum {x y z w : T3} {p : F2} {s t g1 g2 d1 d2 : Int} (F : Four x y z w) (hp : Pq p) (hs : s ≠ 0) (ht : t ≠ 0) (hz : sm s z = ad (sm g1 x) (sm g2 y)) (hw : sm t w = ad (sm d1 x) (sm d2 y)) (h : cf ⟨d1 * g2, d2 * g1⟩ p = 0) : pf (rt x y z w) = p := by
  have c := rt_par hs ht hz hw
  refine pf_via (rt_ne F) ?_ hp c h
  intro e
  simp only [F0, F2.mk.injEq] at e
  have hxy := cr_ne F.p1 F.p2 F.n1.symm
  obtain ⟨e1, e2⟩ := pts_of hz
  obtain ⟨n1, n2⟩ := pts_ne F.p1 F.p2 F.p3 F.n1 F.n2 F.n3 F.k1
  have hg1 : g1 ≠ 0 := fun q => Int.mul_ne_zero hs n1 (by rw [e1, q, Int.zero_mul])
  have hg2 : g2 ≠ 0 := fun q => Int.mul_ne_zero hs n2 (by rw [e2, q, Int.zero_mul])
  have h1 : d1 = 0 := (Int.mul_eq_zero.mp e.1).resolve_right hg2
  have h2 : d2 = 0 := (Int.mul_eq_zero.mp e.2).resolve_right hg1
  rw [h1, h2, sm_0, sm_0, ad_0] at hw
  exact pr_ne F.p4 ((sm0 ht).mp hw)
/-- .. and it is the only one -/
theorem ft_uni {x y z w : T3} {p : F2} (F : Four x y z w) (h : pf (rt x y z w) = p) : pv (ft x y z p) = w := by
  have hr := rt_ne F
  obtain ⟨e1, e2⟩ := pf_mul hr
  rw [h] at e1 e2
  have hd := dvf0 hr
  obtain ⟨g1, g2⟩ := pts_ne F.p1 F.p2 F.p3 F.n1 F.n2 F.n3 F.k1
  have c := cramer F.k2
  have hk := pk_ne (cr_ne F.p1 F.p2 F.n1.symm)
  have hp : Pq p := h ▸ pf_pq hr
  have h0 := ft_ne F.thr hp
  have s : Sim (ft x y z p) w := by
    refine ⟨dv (rt x y z w).l, (pts x y z).n * (pts x y z).d * pk (cr x y) (cr x y), hd, Int.mul_ne_zero (Int.mul_ne_zero g1 g2) hk, ?_⟩
    rw [← sm_sm, c]
    have q1 : (rt x y z w).n = (pts x y w).n * (pts x y z).d := rfl
    have q2 : (rt x y z w).d = (pts x y w).d * (pts x y z).n := rfl
    rw [q1] at e1
    rw [q2] at e2
    generalize dv (rt x y z w).l = D at *
    unfold ft
    generalize (pts x y z).n = c1 at *
    generalize (pts x y z).d = c2 at *
    generalize (pts x y w).n = d1 at *
    generalize (pts x y w).d = d2 at *
    simp only [ad, sm, T3.mk.injEq]
    have r1 : D * (p.n * c1) = c1 * c2 * d1 := by grind
    have r2 : D * (p.d * c2) = c1 * c2 * d2 := by grind
    have go : ∀ a b : Int, D * (p.n * c1 * a + p.d * c2 * b) = c1 * c2 * (d1 * a + d2 * b) := fun a b => by
      have : D * (p.n * c1 * a + p.d * c2 * b) = D * (p.n * c1) * a + D * (p.d * c2) * b := by grind
      rw [this, r1, r2]
      grind
    exact ⟨go _ _, go _ _, go _ _⟩
  rw [s.pv h0, pv_of F.p4]
/-- three and a fourth with a double ratio -/
structure Hm (x y z w : T3) (p : F2) : Prop where
  f : Four x y z w
  r : pf (rt x y z w) = p
theorem Hm.pq {x y z w : T3} {p : F2} (h : Hm x y z w p) : Pq p := h.r ▸ pf_pq (rt_ne h.f)
theorem hm_sum {x y z w : T3} {p : F2} {s t g1 g2 d1 d2 : Int} (T : Thr x y z) (pw : Pr w) (hp : Pq p) (hs : s ≠ 0) (ht : t ≠ 0) (hz : sm s z = ad (sm g1 x) (sm g2 y)) (hw : sm t w = ad (sm d1 x) (sm d2 y)) (h : cf ⟨d1 * g2, d2 * g1⟩ p = 0) : Hm x y z w p := by
  have F : Four x y z w := ⟨T.p1, T.p2, T.p3, pw, T.n1, T.n2, T.n3, T.k1, bk_lin2 ht hw⟩
  exact ⟨F, rt_sum F hp hs ht hz hw h⟩
/-- live coefficients: unlike -/
theorem thr_sum {x y z : T3} {s g1 g2 : Int} (p1 : Pr x) (p2 : Pr y) (p3 : Pr z) (n : x ≠ y) (h1 : g1 ≠ 0) (h2 : g2 ≠ 0) (hs : s ≠ 0) (hz : sm s z = ad (sm g1 x) (sm g2 y)) : Thr x y z := by
  have hc := cr_ne p1 p2 n
  refine ⟨p1, p2, p3, n.symm, fun q => ?_, fun q => ?_, bk_lin2 hs hz⟩
  · subst q
    have := congrArg (fun u => cr z u) hz
    simp only [cr_smr, cr_adr, cr_self, sm_V0, ad_0l] at this
    exact hc ((sm0 h2).mp this.symm)
  · subst q
    have := congrArg (fun u => cr u y) hz
    simp only [cr_sml, cr_adl, cr_self, sm_V0, ad_0] at this
    exact hc ((sm0 h1).mp this.symm)
end FV
set_option Elab.async false
set_option linter.all false
set_option maxRecDepth 100000
/-! Lh: what the laws k20 to k39 draw. -/
namespace FV
local macro_rules | `(tactic| walk_at "fbt") => `(tactic| first
  | assumption
  | exact bv_x (by assumption)
  | exact bv_y (by assumption)
  | exact bv_z (by assumption)
  | (apply bt_add <;> walk_at "fbt")
  | (apply bt_sub <;> walk_at "fbt")
  | (apply bt_mul <;> walk_at "fbt")
  | (apply bt_neg <;> walk_at "fbt")
  | (apply bt_dt <;> walk_at "fbt")
  | (apply bt_bk <;> walk_at "fbt")
  | (apply bv_cr <;> walk_at "fbt")
  | (apply bv_pv <;> walk_at "fbt")
  | (apply bv_sm <;> walk_at "fbt")
  | (apply bv_ad <;> walk_at "fbt")
  | exact bt_lt (n := 64) (by decide) (by decide)
  | (apply bv_mk <;> walk_at "fbt"))
local macro_rules | `(tactic| walk_at "fs") => `(tactic| first
  | assumption
  | (apply mulOk_bt; walk_at "fbt"; walk_at "fbt"; first | decide | assumption | omega)
  | (refine mulOk_l ?_ ?_ <;> omega)
  | (refine mulOk_r ?_ ?_ <;> omega)
  | walk_at "fbt"
  | omega
  | decide
  | (simp [SZ]; done))
local macro_rules | `(tactic| walk_at "fd") => `(tactic| first
  | rfl
  | exact decide_eq_true (by assumption)
  | exact decide_eq_false (by assumption)
  | decide
  | exact decide_eq_true (by omega)
  | exact decide_eq_false (by omega)
  | (simp [*]; done))
local macro_rules | `(tactic| walk_at "fx") => `(tactic| simp! only [lc_app', fc_cons, fc_nil, blk_app, ↓seq_v, ↓seq_f, ↓itm_v, ↓itm_f, ↓asg_v, ↓asg_f, bp_v, bp_f, bps_tv, bps_tf, ↓two_vv, ↓two_vt, ↓two_tv, ↓two_ff, ↓still_v, ↓cut_v, ↓cop_eq_v, ↓cop_ne_v, ↓cop_eq_f, ↓cop_ne_f, inD_n, inD_c, pures_c, pures_n, pure_vT, pure_fT, pure_iT, pure_bT, pure_nT, eq_v, eq_f, Bool.or_false, and_self, ↓tru_v, non_v, non_f, ty_v, ty_f, ta_v, ta_f, ↓bop_vv, ↓bop_6v, ↓cut_9a, ↓cut_9b, ↓cut_9c, tup3, tup2, v_ti, f_ti, zipD, wp_cc, true_and, decide_true, decide_false, eq_self, sz_0, sz_1, sz_2, sz_3, sz_4, sz_5, sz_6, sz_7, sz_8, sz_9, sz_10, sz_11, sz_12, enm_1, enm_2, enm_3, enm_4, enm_5, enm_6, enm_7, enm_8, enm_9, enm_10, len_1, len_2, len_3, len_4, len_5, len_6, len_7, len_8, len_9, len_10])
local macro_rules | `(tactic| walk_at "fw") => `(tactic| simp! only [lc_app', fc_cons, fc_nil, fw_cons, fw_nil, blk_app, ↓seq_v, ↓seq_f, ↓itm_v, ↓itm_f, ↓asg_v, ↓asg_f, bp_v, bp_f, bps_tv, bps_tf, ↓two_vv, ↓two_vt, ↓two_tv, ↓two_ff, ↓still_v, ↓cut_v, ↓cop_eq_v, ↓cop_ne_v, ↓cop_eq_f, ↓cop_ne_f, inD_n, inD_c, pures_c, pures_n, pure_vT, pure_fT, pure_iT, pure_bT, pure_nT, eq_v, eq_f, Bool.or_false, and_self, ↓tru_v, non_v, non_f, ty_v, ty_f, ta_v, ta_f, ↓bop_vv, ↓bop_6v, ↓cut_9a, ↓cut_9b, ↓cut_9c, tup3, tup2, v_ti, f_ti, zipD, wp_cc, true_and, decide_true, decide_false, eq_self, sz_0, sz_1, sz_2, sz_3, sz_4, sz_5, sz_6, sz_7, sz_8, sz_9, sz_10, sz_11, sz_12, enm_1, enm_2, enm_3, enm_4, enm_5, enm_6, enm_7, enm_8, enm_9, enm_10, len_1, len_2, len_3, len_4, len_5, len_6, len_7, len_8, len_9, len_10])
local macro_rules | `(tactic| walk_at "f1") => `(tactic| first
  | assumption
  | (with_reducible apply And.intro; walk_at "fs")
  | (with_reducible apply brk_t; walk_at "fd")
  | (with_reducible apply brk_f; walk_at "fd")
  | (with_reducible apply s_law_alike_same; walk_at "fs"; walk_at "fs"; walk_at "fs"; walk_at "fs"; walk_at "fs"; walk_at "fs"; walk_at "fs"; walk_at "fs"; walk_at "fs"; walk_at "fs"; walk_at "fs"; walk_at "fs"; walk_at "fs"; walk_at "fs"; walk_at "fs"; walk_at "fs"; walk_at "fs"; walk_at "fs"; walk_at "fs"; walk_at "fs"; walk_at "fs"; walk_at "fs"; walk_at "fs"; walk_at "fs"; walk_at "fs"; walk_at "fs"; walk_at "fs"; walk_at "fs"; walk_at "fs"; walk_at "fs"; walk_at "fs"; walk_at "fs"; walk_at "fs"; walk_at "fs")
  | (with_reducible apply s_law_cross_v; walk_at "fs"; walk_at "fs"; walk_at "fs")
  | (with_reducible apply s_law_dot_v; walk_at "fs"; walk_at "fs"; walk_at "fs")
  | (with_reducible apply s_law_block_v; walk_at "fs"; walk_at "fs"; walk_at "fs"; walk_at "fs")
  | (with_reducible apply s_law_plain_v; walk_at "fs"; walk_at "fs"; walk_at "fs")
  | (with_reducible apply s_law_plain_f; walk_at "fs"; walk_at "fs"; walk_at "fs"; walk_at "fs")
  | (with_reducible apply s_law_turn_v; walk_at "fs"; walk_at "fs"; walk_at "fs"; walk_at "fs"; walk_at "fs")
  | (with_reducible apply s_law_ratio_v; walk_at "fs"; walk_at "fs"; walk_at "fs"; walk_at "fs"; walk_at "fs"; walk_at "fs"; walk_at "fs")
  | (with_reducible apply s_is_view_of_v; walk_at "fs"; walk_at "fs"; walk_at "fs")
  | (with_reducible apply s_check_view_v; walk_at "fs"; walk_at "fs"; walk_at "fs")
  | (with_reducible apply s_table_times_v; walk_at "fs"; walk_at "fs"; walk_at "fs")
  | (with_reducible apply s_turned_table_v)
  | (with_reducible apply s_adjugate_v; walk_at "fs"; walk_at "fs")
  | (with_reducible apply s_turn_line_v; walk_at "fs"; walk_at "fs"; walk_at "fs"; walk_at "fs"; walk_at "fs")
  | (with_reducible apply s_turned_line_v; walk_at "fs"; walk_at "fs"; walk_at "fs"; walk_at "fs"; walk_at "fs")
  | (with_reducible apply s_place_for_v; walk_at "fs"; walk_at "fs"; walk_at "fs"; walk_at "fs")
  | (with_reducible apply s_minor_v; walk_at "fs"; walk_at "fs"; walk_at "fs")
  | (with_reducible apply s_parts_by_v; walk_at "fs"; walk_at "fs"; walk_at "fs"; walk_at "fs"; walk_at "fs")
  | (with_reducible apply s_ratio_by_v; walk_at "fs"; walk_at "fs"; walk_at "fs"; walk_at "fs"; walk_at "fs"; walk_at "fs"; walk_at "fs")
  | (with_reducible apply s_check_points4; walk_at "fs"; walk_at "fs"; walk_at "fs"; walk_at "fs")
  | (with_reducible apply s_check_points3; walk_at "fs"; walk_at "fs"; walk_at "fs")
  | (with_reducible apply s_do_fit4; walk_at "fs"; walk_at "fs"; walk_at "fs"; walk_at "fs"; walk_at "fs"; walk_at "fs"; walk_at "fs"; walk_at "fs"; walk_at "fs"; walk_at "fs")
  | (with_reducible apply s_do_fit3; walk_at "fs"; walk_at "fs"; walk_at "fs"; walk_at "fs"; walk_at "fs"; walk_at "fs"; walk_at "fs"; walk_at "fs")
  | (with_reducible apply s_check_fit4; walk_at "fs"; walk_at "fs"; walk_at "fs"; walk_at "fs"; walk_at "fs"; walk_at "fs"; walk_at "fs"; walk_at "fs"; walk_at "fs"; walk_at "fs")
  | (with_reducible apply s_check_fit3; walk_at "fs"; walk_at "fs"; walk_at "fs"; walk_at "fs"; walk_at "fs"; walk_at "fs"; walk_at "fs"; walk_at "fs")
  | (with_reducible apply s_double_ratio_v; walk_at "fs"; walk_at "fs"; walk_at "fs"; walk_at "fs"; walk_at "fs"; walk_at "fs"; walk_at "fs")
  | (with_reducible apply s_line_ratio_v; walk_at "fs"; walk_at "fs"; walk_at "fs"; walk_at "fs"; walk_at "fs"; walk_at "fs"; walk_at "fs")
  | (with_reducible apply s_cross_v; walk_at "fs"; walk_at "fs"; walk_at "fs")
  | (with_reducible apply s_dot_v; walk_at "fs"; walk_at "fs"; walk_at "fs")
  | (with_reducible apply s_block_v; walk_at "fs"; walk_at "fs"; walk_at "fs"; walk_at "fs")
  | (with_reducible apply s_added_v)
  | (with_reducible apply s_scaled_v; walk_at "fs"; walk_at "fs"; walk_at "fs")
  | (with_reducible apply s_plain_of_v; walk_at "fs"; walk_at "fs"; walk_at "fs")
  | (with_reducible apply s_plain_of_f; walk_at "fs"; walk_at "fs"; walk_at "fs"; walk_at "fs")
  | (with_reducible apply s_is_zero_v)
  | (with_reducible apply s_is_triple_v; walk_at "fs")
  | (with_reducible apply s_check_point_v; walk_at "fs")
  | (with_reducible apply s_check_straight_v; walk_at "fs")
  | (with_reducible apply s_check_other_point_v; walk_at "fs"; walk_at "fs")
  | (with_reducible apply s_check_other_straight_v; walk_at "fs"; walk_at "fs")
  | (with_reducible apply s_join_v; walk_at "fs"; walk_at "fs"; walk_at "fs"; walk_at "fs"; walk_at "fs"; walk_at "fs")
  | (with_reducible apply s_meet_v; walk_at "fs"; walk_at "fs"; walk_at "fs"; walk_at "fs"; walk_at "fs"; walk_at "fs")
  | (with_reducible apply s_cross; walk_at "fs"; walk_at "fs"; walk_at "fs")
  | (with_reducible apply s_dot; walk_at "fs"; walk_at "fs"; walk_at "fs")
  | (with_reducible apply s_block; walk_at "fs"; walk_at "fs"; walk_at "fs"; walk_at "fs"; walk_at "fs"; walk_at "fs")
  | (with_reducible apply s_added)
  | (with_reducible apply s_scaled; walk_at "fs"; walk_at "fs")
  | (with_reducible apply s_law_dot; walk_at "fs"; walk_at "fs"; walk_at "fs")
  | (with_reducible apply s_law_plain_v2; walk_at "fs"; walk_at "fs"; walk_at "fs")
  | (with_reducible apply s_divisor_of)
  | (with_reducible apply s_first_live)
  | (with_reducible apply s_plain_of; walk_at "fs"; walk_at "fs"; walk_at "fs")
  | (with_reducible apply s_is_zero)
  | (with_reducible apply s_made_plain; walk_at "fs"; walk_at "fs"; walk_at "fs")
  | (with_reducible apply s_is_plain; walk_at "fs"; walk_at "fs"; walk_at "fs")
  | (with_reducible apply s_is_triple; walk_at "fs"; walk_at "fs")
  | (with_reducible apply s_is_point; walk_at "fs"; walk_at "fs")
  | (with_reducible apply s_law_divisor)
  | (with_reducible apply s_law_plain; walk_at "fs"; walk_at "fs"; walk_at "fs")
  | (with_reducible apply s_law_is_triple; walk_at "fs"; walk_at "fs"; walk_at "fs")
  | (with_reducible apply s_is_whole)
  | (with_reducible apply s_is_tuple_up_to)
  | (with_reducible apply s_is_tuple_of)
  | (with_reducible apply s_are_whole; walk_at "fs")
  | (with_reducible apply s_law_cross; walk_at "fs"; walk_at "fs"; walk_at "fs"))
local macro_rules | `(tactic| walk_at "go") => `(tactic| repeat (first | walk_at "f1" | walk_at "fw"))
local macro_rules | `(tactic| walk_at "g0") => `(tactic| repeat (first | walk_at "f1" | walk_at "fx"))
section
variable {n : Nat} {S : Store} {k X : D → Store → Prop} {u v w x y z p q : T3} {a b c d : Nat} {m : M3} {f : F2} {l : Nat}
end
end FV
set_option Elab.async false
set_option linter.all false
set_option maxRecDepth 100000
/-! Li: a line turned by its own points. -/
namespace FV
local macro_rules | `(tactic| walk_at "fbt") => `(tactic| first
  | assumption
  | exact bv_x (by assumption)
  | exact bv_y (by assumption)
  | exact bv_z (by assumption)
  | (apply bt_add <;> walk_at "fbt")
  | (apply bt_sub <;> walk_at "fbt")
  | (apply bt_mul <;> walk_at "fbt")
  | (apply bt_neg <;> walk_at "fbt")
  | (apply bt_dt <;> walk_at "fbt")
  | (apply bt_bk <;> walk_at "fbt")
  | (apply bv_cr <;> walk_at "fbt")
  | (apply bv_pv <;> walk_at "fbt")
  | (apply bv_sm <;> walk_at "fbt")
  | (apply bv_ad <;> walk_at "fbt")
  | exact bt_lt (n := 64) (by decide) (by decide)
  | (apply bv_mk <;> walk_at "fbt"))
local macro_rules | `(tactic| walk_at "fs") => `(tactic| first
  | assumption
  | (apply mulOk_bt; walk_at "fbt"; walk_at "fbt"; first | decide | assumption | omega)
  | (refine mulOk_l ?_ ?_ <;> omega)
  | (refine mulOk_r ?_ ?_ <;> omega)
  | walk_at "fbt"
  | omega
  | decide
  | (simp [SZ]; done))
local macro_rules | `(tactic| walk_at "fd") => `(tactic| first
  | rfl
  | exact decide_eq_true (by assumption)
  | exact decide_eq_false (by assumption)
  | decide
  | exact decide_eq_true (by omega)
  | exact decide_eq_false (by omega)
  | (simp [*]; done))
local macro_rules | `(tactic| walk_at "fx") => `(tactic| simp! only [lc_app', fc_cons, fc_nil, blk_app, ↓seq_v, ↓seq_f, ↓itm_v, ↓itm_f, ↓asg_v, ↓asg_f, bp_v, bp_f, bps_tv, bps_tf, ↓two_vv, ↓two_vt, ↓two_tv, ↓two_ff, ↓still_v, ↓cut_v, ↓cop_eq_v, ↓cop_ne_v, ↓cop_eq_f, ↓cop_ne_f, inD_n, inD_c, pures_c, pures_n, pure_vT, pure_fT, pure_iT, pure_bT, pure_nT, eq_v, eq_f, Bool.or_false, and_self, ↓tru_v, non_v, non_f, ty_v, ty_f, ta_v, ta_f, ↓bop_vv, ↓bop_6v, ↓cut_9a, ↓cut_9b, ↓cut_9c, tup3, tup2, v_ti, f_ti, zipD, wp_cc, true_and, decide_true, decide_false, eq_self, sz_0, sz_1, sz_2, sz_3, sz_4, sz_5, sz_6, sz_7, sz_8, sz_9, sz_10, sz_11, sz_12, enm_1, enm_2, enm_3, enm_4, enm_5, enm_6, enm_7, enm_8, enm_9, enm_10, len_1, len_2, len_3, len_4, len_5, len_6, len_7, len_8, len_9, len_10])
local macro_rules | `(tactic| walk_at "fw") => `(tactic| simp! only [lc_app', fc_cons, fc_nil, fw_cons, fw_nil, blk_app, ↓seq_v, ↓seq_f, ↓itm_v, ↓itm_f, ↓asg_v, ↓asg_f, bp_v, bp_f, bps_tv, bps_tf, ↓two_vv, ↓two_vt, ↓two_tv, ↓two_ff, ↓still_v, ↓cut_v, ↓cop_eq_v, ↓cop_ne_v, ↓cop_eq_f, ↓cop_ne_f, inD_n, inD_c, pures_c, pures_n, pure_vT, pure_fT, pure_iT, pure_bT, pure_nT, eq_v, eq_f, Bool.or_false, and_self, ↓tru_v, non_v, non_f, ty_v, ty_f, ta_v, ta_f, ↓bop_vv, ↓bop_6v, ↓cut_9a, ↓cut_9b, ↓cut_9c, tup3, tup2, v_ti, f_ti, zipD, wp_cc, true_and, decide_true, decide_false, eq_self, sz_0, sz_1, sz_2, sz_3, sz_4, sz_5, sz_6, sz_7, sz_8, sz_9, sz_10, sz_11, sz_12, enm_1, enm_2, enm_3, enm_4, enm_5, enm_6, enm_7, enm_8, enm_9, enm_10, len_1, len_2, len_3, len_4, len_5, len_6, len_7, len_8, len_9, len_10])
local macro_rules | `(tactic| walk_at "f1") => `(tactic| first
  | assumption
  | (with_reducible apply And.intro; walk_at "fs")
  | (with_reducible apply brk_t; walk_at "fd")
  | (with_reducible apply brk_f; walk_at "fd")
  | (with_reducible apply s_law_alike_same; walk_at "fs"; walk_at "fs"; walk_at "fs"; walk_at "fs"; walk_at "fs"; walk_at "fs"; walk_at "fs"; walk_at "fs"; walk_at "fs"; walk_at "fs"; walk_at "fs"; walk_at "fs"; walk_at "fs"; walk_at "fs"; walk_at "fs"; walk_at "fs"; walk_at "fs"; walk_at "fs"; walk_at "fs"; walk_at "fs"; walk_at "fs"; walk_at "fs"; walk_at "fs"; walk_at "fs"; walk_at "fs"; walk_at "fs"; walk_at "fs"; walk_at "fs"; walk_at "fs"; walk_at "fs"; walk_at "fs"; walk_at "fs"; walk_at "fs"; walk_at "fs")
  | (with_reducible apply s_law_cross_v; walk_at "fs"; walk_at "fs"; walk_at "fs")
  | (with_reducible apply s_law_dot_v; walk_at "fs"; walk_at "fs"; walk_at "fs")
  | (with_reducible apply s_law_block_v; walk_at "fs"; walk_at "fs"; walk_at "fs"; walk_at "fs")
  | (with_reducible apply s_law_plain_v; walk_at "fs"; walk_at "fs"; walk_at "fs")
  | (with_reducible apply s_law_plain_f; walk_at "fs"; walk_at "fs"; walk_at "fs"; walk_at "fs")
  | (with_reducible apply s_law_turn_v; walk_at "fs"; walk_at "fs"; walk_at "fs"; walk_at "fs"; walk_at "fs")
  | (with_reducible apply s_law_ratio_v; walk_at "fs"; walk_at "fs"; walk_at "fs"; walk_at "fs"; walk_at "fs"; walk_at "fs"; walk_at "fs")
  | (with_reducible apply s_is_view_of_v; walk_at "fs"; walk_at "fs"; walk_at "fs")
  | (with_reducible apply s_check_view_v; walk_at "fs"; walk_at "fs"; walk_at "fs")
  | (with_reducible apply s_table_times_v; walk_at "fs"; walk_at "fs"; walk_at "fs")
  | (with_reducible apply s_turned_table_v)
  | (with_reducible apply s_adjugate_v; walk_at "fs"; walk_at "fs")
  | (with_reducible apply s_turn_line_v; walk_at "fs"; walk_at "fs"; walk_at "fs"; walk_at "fs"; walk_at "fs")
  | (with_reducible apply s_turned_line_v; walk_at "fs"; walk_at "fs"; walk_at "fs"; walk_at "fs"; walk_at "fs")
  | (with_reducible apply s_place_for_v; walk_at "fs"; walk_at "fs"; walk_at "fs"; walk_at "fs")
  | (with_reducible apply s_minor_v; walk_at "fs"; walk_at "fs"; walk_at "fs")
  | (with_reducible apply s_parts_by_v; walk_at "fs"; walk_at "fs"; walk_at "fs"; walk_at "fs"; walk_at "fs")
  | (with_reducible apply s_ratio_by_v; walk_at "fs"; walk_at "fs"; walk_at "fs"; walk_at "fs"; walk_at "fs"; walk_at "fs"; walk_at "fs")
  | (with_reducible apply s_check_points4; walk_at "fs"; walk_at "fs"; walk_at "fs"; walk_at "fs")
  | (with_reducible apply s_check_points3; walk_at "fs"; walk_at "fs"; walk_at "fs")
  | (with_reducible apply s_do_fit4; walk_at "fs"; walk_at "fs"; walk_at "fs"; walk_at "fs"; walk_at "fs"; walk_at "fs"; walk_at "fs"; walk_at "fs"; walk_at "fs"; walk_at "fs")
  | (with_reducible apply s_do_fit3; walk_at "fs"; walk_at "fs"; walk_at "fs"; walk_at "fs"; walk_at "fs"; walk_at "fs"; walk_at "fs"; walk_at "fs")
  | (with_reducible apply s_check_fit4; walk_at "fs"; walk_at "fs"; walk_at "fs"; walk_at "fs"; walk_at "fs"; walk_at "fs"; walk_at "fs"; walk_at "fs"; walk_at "fs"; walk_at "fs")
  | (with_reducible apply s_check_fit3; walk_at "fs"; walk_at "fs"; walk_at "fs"; walk_at "fs"; walk_at "fs"; walk_at "fs"; walk_at "fs"; walk_at "fs")
  | (with_reducible apply s_double_ratio_v; walk_at "fs"; walk_at "fs"; walk_at "fs"; walk_at "fs"; walk_at "fs"; walk_at "fs"; walk_at "fs")
  | (with_reducible apply s_line_ratio_v; walk_at "fs"; walk_at "fs"; walk_at "fs"; walk_at "fs"; walk_at "fs"; walk_at "fs"; walk_at "fs")
  | (with_reducible apply s_cross_v; walk_at "fs"; walk_at "fs"; walk_at "fs")
  | (with_reducible apply s_dot_v; walk_at "fs"; walk_at "fs"; walk_at "fs")
  | (with_reducible apply s_block_v; walk_at "fs"; walk_at "fs"; walk_at "fs"; walk_at "fs")
  | (with_reducible apply s_added_v)
  | (with_reducible apply s_scaled_v; walk_at "fs"; walk_at "fs"; walk_at "fs")
  | (with_reducible apply s_plain_of_v; walk_at "fs"; walk_at "fs"; walk_at "fs")
  | (with_reducible apply s_plain_of_f; walk_at "fs"; walk_at "fs"; walk_at "fs"; walk_at "fs")
  | (with_reducible apply s_is_zero_v)
  | (with_reducible apply s_is_triple_v; walk_at "fs")
  | (with_reducible apply s_check_point_v; walk_at "fs")
  | (with_reducible apply s_check_straight_v; walk_at "fs")
  | (with_reducible apply s_check_other_point_v; walk_at "fs"; walk_at "fs")
  | (with_reducible apply s_check_other_straight_v; walk_at "fs"; walk_at "fs")
  | (with_reducible apply s_join_v; walk_at "fs"; walk_at "fs"; walk_at "fs"; walk_at "fs"; walk_at "fs"; walk_at "fs")
  | (with_reducible apply s_meet_v; walk_at "fs"; walk_at "fs"; walk_at "fs"; walk_at "fs"; walk_at "fs"; walk_at "fs")
  | (with_reducible apply s_cross; walk_at "fs"; walk_at "fs"; walk_at "fs")
  | (with_reducible apply s_dot; walk_at "fs"; walk_at "fs"; walk_at "fs")
  | (with_reducible apply s_block; walk_at "fs"; walk_at "fs"; walk_at "fs"; walk_at "fs"; walk_at "fs"; walk_at "fs")
  | (with_reducible apply s_added)
  | (with_reducible apply s_scaled; walk_at "fs"; walk_at "fs")
  | (with_reducible apply s_law_dot; walk_at "fs"; walk_at "fs"; walk_at "fs")
  | (with_reducible apply s_law_plain_v2; walk_at "fs"; walk_at "fs"; walk_at "fs")
  | (with_reducible apply s_divisor_of)
  | (with_reducible apply s_first_live)
  | (with_reducible apply s_plain_of; walk_at "fs"; walk_at "fs"; walk_at "fs")
  | (with_reducible apply s_is_zero)
  | (with_reducible apply s_made_plain; walk_at "fs"; walk_at "fs"; walk_at "fs")
  | (with_reducible apply s_is_plain; walk_at "fs"; walk_at "fs"; walk_at "fs")
  | (with_reducible apply s_is_triple; walk_at "fs"; walk_at "fs")
  | (with_reducible apply s_is_point; walk_at "fs"; walk_at "fs")
  | (with_reducible apply s_law_divisor)
  | (with_reducible apply s_law_plain; walk_at "fs"; walk_at "fs"; walk_at "fs")
  | (with_reducible apply s_law_is_triple; walk_at "fs"; walk_at "fs"; walk_at "fs")
  | (with_reducible apply s_is_whole)
  | (with_reducible apply s_is_tuple_up_to)
  | (with_reducible apply s_is_tuple_of)
  | (with_reducible apply s_are_whole; walk_at "fs")
  | (with_reducible apply s_law_cross; walk_at "fs"; walk_at "fs"; walk_at "fs"))
local macro_rules | `(tactic| walk_at "go") => `(tactic| repeat (first | walk_at "f1" | walk_at "fw"))
local macro_rules | `(tactic| walk_at "g0") => `(tactic| repeat (first | walk_at "f1" | walk_at "fx"))
section
variable {n : Nat} {S : Store} {k X : D → Store → Prop} {u v w x y z p q : T3} {a b c d : Nat} {m : M3} {f : F2} {l : Nat}
end
end FV
set_option Elab.async false
set_option linter.all false
set_option maxRecDepth 100000
/-! Lj: fourth and harmonic points. -/
namespace FV
local macro_rules | `(tactic| walk_at "fbt") => `(tactic| first
  | assumption
  | exact bv_x (by assumption)
  | exact bv_y (by assumption)
  | exact bv_z (by assumption)
  | (apply bt_add <;> walk_at "fbt")
  | (apply bt_sub <;> walk_at "fbt")
  | (apply bt_mul <;> walk_at "fbt")
  | (apply bt_neg <;> walk_at "fbt")
  | (apply bt_dt <;> walk_at "fbt")
  | (apply bt_bk <;> walk_at "fbt")
  | (apply bv_cr <;> walk_at "fbt")
  | (apply bv_pv <;> walk_at "fbt")
  | (apply bv_sm <;> walk_at "fbt")
  | (apply bv_ad <;> walk_at "fbt")
  | exact bt_lt (n := 64) (by decide) (by decide)
  | (apply bv_mk <;> walk_at "fbt"))
local macro_rules | `(tactic| walk_at "fs") => `(tactic| first
  | assumption
  | (apply mulOk_bt; walk_at "fbt"; walk_at "fbt"; first | decide | assumption | omega)
  | (refine mulOk_l ?_ ?_ <;> omega)
  | (refine mulOk_r ?_ ?_ <;> omega)
  | walk_at "fbt"
  | omega
  | decide
  | (simp [SZ]; done))
local macro_rules | `(tactic| walk_at "fd") => `(tactic| first
  | rfl
  | exact decide_eq_true (by assumption)
  | exact decide_eq_false (by assumption)
  | decide
  | exact decide_eq_true (by omega)
  | exact decide_eq_false (by omega)
  | (simp [*]; done))
local macro_rules | `(tactic| walk_at "fx") => `(tactic| simp! only [lc_app', fc_cons, fc_nil, blk_app, ↓seq_v, ↓seq_f, ↓itm_v, ↓itm_f, ↓asg_v, ↓asg_f, bp_v, bp_f, bps_tv, bps_tf, ↓two_vv, ↓two_vt, ↓two_tv, ↓two_ff, ↓still_v, ↓cut_v, ↓cop_eq_v, ↓cop_ne_v, ↓cop_eq_f, ↓cop_ne_f, inD_n, inD_c, pures_c, pures_n, pure_vT, pure_fT, pure_iT, pure_bT, pure_nT, eq_v, eq_f, Bool.or_false, and_self, ↓tru_v, non_v, non_f, ty_v, ty_f, ta_v, ta_f, ↓bop_vv, ↓bop_6v, ↓cut_9a, ↓cut_9b, ↓cut_9c, tup3, tup2, v_ti, f_ti, zipD, wp_cc, true_and, decide_true, decide_false, eq_self, sz_0, sz_1, sz_2, sz_3, sz_4, sz_5, sz_6, sz_7, sz_8, sz_9, sz_10, sz_11, sz_12, enm_1, enm_2, enm_3, enm_4, enm_5, enm_6, enm_7, enm_8, enm_9, enm_10, len_1, len_2, len_3, len_4, len_5, len_6, len_7, len_8, len_9, len_10])
local macro_rules | `(tactic| walk_at "fw") => `(tactic| simp! only [lc_app', fc_cons, fc_nil, fw_cons, fw_nil, blk_app, ↓seq_v, ↓seq_f, ↓itm_v, ↓itm_f, ↓asg_v, ↓asg_f, bp_v, bp_f, bps_tv, bps_tf, ↓two_vv, ↓two_vt, ↓two_tv, ↓two_ff, ↓still_v, ↓cut_v, ↓cop_eq_v, ↓cop_ne_v, ↓cop_eq_f, ↓cop_ne_f, inD_n, inD_c, pures_c, pures_n, pure_vT, pure_fT, pure_iT, pure_bT, pure_nT, eq_v, eq_f, Bool.or_false, and_self, ↓tru_v, non_v, non_f, ty_v, ty_f, ta_v, ta_f, ↓bop_vv, ↓bop_6v, ↓cut_9a, ↓cut_9b, ↓cut_9c, tup3, tup2, v_ti, f_ti, zipD, wp_cc, true_and, decide_true, decide_false, eq_self, sz_0, sz_1, sz_2, sz_3, sz_4, sz_5, sz_6, sz_7, sz_8, sz_9, sz_10, sz_11, sz_12, enm_1, enm_2, enm_3, enm_4, enm_5, enm_6, enm_7, enm_8, enm_9, enm_10, len_1, len_2, len_3, len_4, len_5, len_6, len_7, len_8, len_9, len_10])
local macro_rules | `(tactic| walk_at "f1") => `(tactic| first
  | assumption
  | (with_reducible apply And.intro; walk_at "fs")
  | (with_reducible apply brk_t; walk_at "fd")
  | (with_reducible apply brk_f; walk_at "fd")
  | (with_reducible apply s_law_turn_line_v; walk_at "fs"; walk_at "fs"; walk_at "fs"; walk_at "fs"; walk_at "fs")
  | (with_reducible apply s_law_alike_same; walk_at "fs"; walk_at "fs"; walk_at "fs"; walk_at "fs"; walk_at "fs"; walk_at "fs"; walk_at "fs"; walk_at "fs"; walk_at "fs"; walk_at "fs"; walk_at "fs"; walk_at "fs"; walk_at "fs"; walk_at "fs"; walk_at "fs"; walk_at "fs"; walk_at "fs"; walk_at "fs"; walk_at "fs"; walk_at "fs"; walk_at "fs"; walk_at "fs"; walk_at "fs"; walk_at "fs"; walk_at "fs"; walk_at "fs"; walk_at "fs"; walk_at "fs"; walk_at "fs"; walk_at "fs"; walk_at "fs"; walk_at "fs"; walk_at "fs"; walk_at "fs")
  | (with_reducible apply s_law_cross_v; walk_at "fs"; walk_at "fs"; walk_at "fs")
  | (with_reducible apply s_law_dot_v; walk_at "fs"; walk_at "fs"; walk_at "fs")
  | (with_reducible apply s_law_block_v; walk_at "fs"; walk_at "fs"; walk_at "fs"; walk_at "fs")
  | (with_reducible apply s_law_plain_v; walk_at "fs"; walk_at "fs"; walk_at "fs")
  | (with_reducible apply s_law_plain_f; walk_at "fs"; walk_at "fs"; walk_at "fs"; walk_at "fs")
  | (with_reducible apply s_law_turn_v; walk_at "fs"; walk_at "fs"; walk_at "fs"; walk_at "fs"; walk_at "fs")
  | (with_reducible apply s_law_ratio_v; walk_at "fs"; walk_at "fs"; walk_at "fs"; walk_at "fs"; walk_at "fs"; walk_at "fs"; walk_at "fs")
  | (with_reducible apply s_is_view_of_v; walk_at "fs"; walk_at "fs"; walk_at "fs")
  | (with_reducible apply s_check_view_v; walk_at "fs"; walk_at "fs"; walk_at "fs")
  | (with_reducible apply s_table_times_v; walk_at "fs"; walk_at "fs"; walk_at "fs")
  | (with_reducible apply s_turned_table_v)
  | (with_reducible apply s_adjugate_v; walk_at "fs"; walk_at "fs")
  | (with_reducible apply s_turn_line_v; walk_at "fs"; walk_at "fs"; walk_at "fs"; walk_at "fs"; walk_at "fs")
  | (with_reducible apply s_turned_line_v; walk_at "fs"; walk_at "fs"; walk_at "fs"; walk_at "fs"; walk_at "fs")
  | (with_reducible apply s_place_for_v; walk_at "fs"; walk_at "fs"; walk_at "fs"; walk_at "fs")
  | (with_reducible apply s_minor_v; walk_at "fs"; walk_at "fs"; walk_at "fs")
  | (with_reducible apply s_parts_by_v; walk_at "fs"; walk_at "fs"; walk_at "fs"; walk_at "fs"; walk_at "fs")
  | (with_reducible apply s_ratio_by_v; walk_at "fs"; walk_at "fs"; walk_at "fs"; walk_at "fs"; walk_at "fs"; walk_at "fs"; walk_at "fs")
  | (with_reducible apply s_check_points4; walk_at "fs"; walk_at "fs"; walk_at "fs"; walk_at "fs")
  | (with_reducible apply s_check_points3; walk_at "fs"; walk_at "fs"; walk_at "fs")
  | (with_reducible apply s_do_fit4; walk_at "fs"; walk_at "fs"; walk_at "fs"; walk_at "fs"; walk_at "fs"; walk_at "fs"; walk_at "fs"; walk_at "fs"; walk_at "fs"; walk_at "fs")
  | (with_reducible apply s_do_fit3; walk_at "fs"; walk_at "fs"; walk_at "fs"; walk_at "fs"; walk_at "fs"; walk_at "fs"; walk_at "fs"; walk_at "fs")
  | (with_reducible apply s_check_fit4; walk_at "fs"; walk_at "fs"; walk_at "fs"; walk_at "fs"; walk_at "fs"; walk_at "fs"; walk_at "fs"; walk_at "fs"; walk_at "fs"; walk_at "fs")
  | (with_reducible apply s_check_fit3; walk_at "fs"; walk_at "fs"; walk_at "fs"; walk_at "fs"; walk_at "fs"; walk_at "fs"; walk_at "fs"; walk_at "fs")
  | (with_reducible apply s_double_ratio_v; walk_at "fs"; walk_at "fs"; walk_at "fs"; walk_at "fs"; walk_at "fs"; walk_at "fs"; walk_at "fs")
  | (with_reducible apply s_line_ratio_v; walk_at "fs"; walk_at "fs"; walk_at "fs"; walk_at "fs"; walk_at "fs"; walk_at "fs"; walk_at "fs")
  | (with_reducible apply s_cross_v; walk_at "fs"; walk_at "fs"; walk_at "fs")
  | (with_reducible apply s_dot_v; walk_at "fs"; walk_at "fs"; walk_at "fs")
  | (with_reducible apply s_block_v; walk_at "fs"; walk_at "fs"; walk_at "fs"; walk_at "fs")
  | (with_reducible apply s_added_v)
  | (with_reducible apply s_scaled_v; walk_at "fs"; walk_at "fs"; walk_at "fs")
  | (with_reducible apply s_plain_of_v; walk_at "fs"; walk_at "fs"; walk_at "fs")
  | (with_reducible apply s_plain_of_f; walk_at "fs"; walk_at "fs"; walk_at "fs"; walk_at "fs")
  | (with_reducible apply s_is_zero_v)
  | (with_reducible apply s_is_triple_v; walk_at "fs")
  | (with_reducible apply s_check_point_v; walk_at "fs")
  | (with_reducible apply s_check_straight_v; walk_at "fs")
  | (with_reducible apply s_check_other_point_v; walk_at "fs"; walk_at "fs")
  | (with_reducible apply s_check_other_straight_v; walk_at "fs"; walk_at "fs")
  | (with_reducible apply s_join_v; walk_at "fs"; walk_at "fs"; walk_at "fs"; walk_at "fs"; walk_at "fs"; walk_at "fs")
  | (with_reducible apply s_meet_v; walk_at "fs"; walk_at "fs"; walk_at "fs"; walk_at "fs"; walk_at "fs"; walk_at "fs")
  | (with_reducible apply s_cross; walk_at "fs"; walk_at "fs"; walk_at "fs")
  | (with_reducible apply s_dot; walk_at "fs"; walk_at "fs"; walk_at "fs")
  | (with_reducible apply s_block; walk_at "fs"; walk_at "fs"; walk_at "fs"; walk_at "fs"; walk_at "fs"; walk_at "fs")
  | (with_reducible apply s_added)
  | (with_reducible apply s_scaled; walk_at "fs"; walk_at "fs")
  | (with_reducible apply s_law_dot; walk_at "fs"; walk_at "fs"; walk_at "fs")
  | (with_reducible apply s_law_plain_v2; walk_at "fs"; walk_at "fs"; walk_at "fs")
  | (with_reducible apply s_divisor_of)
  | (with_reducible apply s_first_live)
  | (with_reducible apply s_plain_of; walk_at "fs"; walk_at "fs"; walk_at "fs")
  | (with_reducible apply s_is_zero)
  | (with_reducible apply s_made_plain; walk_at "fs"; walk_at "fs"; walk_at "fs")
  | (with_reducible apply s_is_plain; walk_at "fs"; walk_at "fs"; walk_at "fs")
  | (with_reducible apply s_is_triple; walk_at "fs"; walk_at "fs")
  | (with_reducible apply s_is_point; walk_at "fs"; walk_at "fs")
  | (with_reducible apply s_law_divisor)
  | (with_reducible apply s_law_plain; walk_at "fs"; walk_at "fs"; walk_at "fs")
  | (with_reducible apply s_law_is_triple; walk_at "fs"; walk_at "fs"; walk_at "fs")
  | (with_reducible apply s_is_whole)
  | (with_reducible apply s_is_tuple_up_to)
  | (with_reducible apply s_is_tuple_of)
  | (with_reducible apply s_are_whole; walk_at "fs")
  | (with_reducible apply s_law_cross; walk_at "fs"; walk_at "fs"; walk_at "fs"))
local macro_rules | `(tactic| walk_at "go") => `(tactic| repeat (first | walk_at "f1" | walk_at "fw"))
local macro_rules | `(tactic| walk_at "g0") => `(tactic| repeat (first | walk_at "f1" | walk_at "fx"))
section
variable {n : Nat} {S : Store} {k X : D → Store → Prop} {u v w x y z q : T3} {a b c d : Nat} {m : M3} {f p : F2} {l : Nat}
theorem bt_ptn (hu : bv a u) (hv : bv b v) (hx : bv c x) : bt (c + b + 1) (pts u v x).n := bt_pk (bv_cr hx hv)
theorem bt_ptd (hu : bv a u) (hv : bv b v) (hx : bv c x) : bt (a + c + 1) (pts u v x).d := bt_pk (bv_cr hu hx)
theorem bv_ft {e : Nat} (hu : bv a u) (hv : bv b v) (hx : bv c x) (h1 : bt d p.n) (h2 : bt e p.d) : bv (max (d + (c + b + 1) + a) (e + (a + c + 1) + b) + 1) (ft u v x p) :=
  bv_ad (bv_sm (bt_mul h1 (bt_ptn hu hv hx)) hu) (bv_sm (bt_mul h2 (bt_ptd hu hv hx)) hv)
theorem s_fourth_by_v {e : Nat} (H : Hm x y z w p) (b1 : bv a x) (b2 : bv b y) (b3 : bv c z) (h1 : bt d p.n) (h2 : bt e p.d) (l : a ≤ 500 ∧ b ≤ 500 ∧ c ≤ 500 ∧ d ≤ 500 ∧ e ≤ 500) (h : k (vD w) S) : CT (n + 4) i_fourth_by [vD x, vD y, vD z, fD p] S k X := by
  have hc := cr_ne H.f.p1 H.f.p2 H.f.n1.symm
  refine c_fourth_by ?_
  simp! only [f_fourth_by, ↓seq_v, ↓seq_f, ↓itm_v, ↓itm_f, ↓asg_v, ↓asg_f, bp_v, bp_f, bps_tv, bps_tf, ↓two_vv, ↓two_vt, ↓two_tv, ↓two_ff, ↓still_v, ↓cut_v, ↓cop_eq_v, ↓cop_ne_v, ↓cop_eq_f, ↓cop_ne_f, inD_n, inD_c, pures_c, pures_n, pure_vT, pure_fT, pure_iT, pure_bT, pure_nT, eq_v, eq_f, Bool.or_false, and_self, ↓tru_v, non_v, non_f, ty_v, ty_f, ta_v, ta_f, ↓bop_vv, ↓bop_6v, ↓cut_9a, ↓cut_9b, ↓cut_9c, tup3, tup2, v_ti, f_ti, zipD, wp_cc, true_and, decide_true, decide_false, eq_self, sz_0, sz_1, sz_2, sz_3, sz_4, sz_5, sz_6, sz_7, sz_8, sz_9, sz_10, sz_11, sz_12, enm_1, enm_2, enm_3, enm_4, enm_5, enm_6, enm_7, enm_8, enm_9, enm_10, len_1, len_2, len_3, len_4, len_5, len_6, len_7, len_8, len_9, len_10]
  refine s_parts_by_v b1 b2 b3 (by omega) hc ?_
  try walk_at "fx"
  have g1 := bt_ptn b1 b2 b3
  have g2 := bt_ptd b1 b2 b3
  refine ⟨by walk_at "fs", ?_⟩
  refine s_scaled_v b1 (bt_mul h1 g1) (by omega) ?_
  try walk_at "fx"
  refine ⟨by walk_at "fs", ?_⟩
  refine s_scaled_v b2 (bt_mul h2 g2) (by omega) ?_
  refine s_added_v ?_
  refine s_plain_of_v (u := ft x y z p) (ft_ne H.f.thr H.pq) (bv_ft b1 b2 b3 h1 h2) (by omega) ?_
  rw [ft_uni H.f H.r]
  exact h
end
end FV
set_option Elab.async false
set_option linter.all false
/-! Vu: three points off a line. -/
namespace FV
end FV
set_option Elab.async false
set_option linter.all false
set_option maxRecDepth 100000
/-! Ra: views made of views (k31 and others): the program's chain and back, what stays. -/
namespace FV
local macro_rules | `(tactic| walk_at "fbt") => `(tactic| first
  | assumption
  | exact bv_x (by assumption)
  | exact bv_y (by assumption)
  | exact bv_z (by assumption)
  | (apply bt_add <;> walk_at "fbt")
  | (apply bt_sub <;> walk_at "fbt")
  | (apply bt_mul <;> walk_at "fbt")
  | (apply bt_neg <;> walk_at "fbt")
  | (apply bt_dt <;> walk_at "fbt")
  | (apply bt_bk <;> walk_at "fbt")
  | (apply bv_cr <;> walk_at "fbt")
  | (apply bv_pv <;> walk_at "fbt")
  | (apply bv_sm <;> walk_at "fbt")
  | (apply bv_ad <;> walk_at "fbt")
  | exact bt_lt (n := 64) (by decide) (by decide)
  | (apply bv_mk <;> walk_at "fbt"))
local macro_rules | `(tactic| walk_at "fs") => `(tactic| first
  | assumption
  | (apply mulOk_bt; walk_at "fbt"; walk_at "fbt"; first | decide | assumption | omega)
  | (refine mulOk_l ?_ ?_ <;> omega)
  | (refine mulOk_r ?_ ?_ <;> omega)
  | walk_at "fbt"
  | omega
  | decide
  | (simp [SZ]; done))
local macro_rules | `(tactic| walk_at "fd") => `(tactic| first
  | rfl
  | exact decide_eq_true (by assumption)
  | exact decide_eq_false (by assumption)
  | decide
  | exact decide_eq_true (by omega)
  | exact decide_eq_false (by omega)
  | (simp [*]; done))
local macro_rules | `(tactic| walk_at "fx") => `(tactic| simp! only [lc_app', fc_cons, fc_nil, blk_app, ↓seq_v, ↓seq_f, ↓itm_v, ↓itm_f, ↓asg_v, ↓asg_f, bp_v, bp_f, bps_tv, bps_tf, ↓two_vv, ↓two_vt, ↓two_tv, ↓two_ff, ↓still_v, ↓cut_v, ↓cop_eq_v, ↓cop_ne_v, ↓cop_eq_f, ↓cop_ne_f, inD_n, inD_c, pures_c, pures_n, pure_vT, pure_fT, pure_iT, pure_bT, pure_nT, eq_v, eq_f, Bool.or_false, and_self, ↓tru_v, non_v, non_f, ty_v, ty_f, ta_v, ta_f, ↓bop_vv, ↓bop_6v, ↓cut_9a, ↓cut_9b, ↓cut_9c, tup3, tup2, v_ti, f_ti, zipD, wp_cc, true_and, decide_true, decide_false, eq_self, sz_0, sz_1, sz_2, sz_3, sz_4, sz_5, sz_6, sz_7, sz_8, sz_9, sz_10, sz_11, sz_12, enm_1, enm_2, enm_3, enm_4, enm_5, enm_6, enm_7, enm_8, enm_9, enm_10, len_1, len_2, len_3, len_4, len_5, len_6, len_7, len_8, len_9, len_10])
local macro_rules | `(tactic| walk_at "fw") => `(tactic| simp! only [lc_app', fc_cons, fc_nil, fw_cons, fw_nil, blk_app, ↓seq_v, ↓seq_f, ↓itm_v, ↓itm_f, ↓asg_v, ↓asg_f, bp_v, bp_f, bps_tv, bps_tf, ↓two_vv, ↓two_vt, ↓two_tv, ↓two_ff, ↓still_v, ↓cut_v, ↓cop_eq_v, ↓cop_ne_v, ↓cop_eq_f, ↓cop_ne_f, inD_n, inD_c, pures_c, pures_n, pure_vT, pure_fT, pure_iT, pure_bT, pure_nT, eq_v, eq_f, Bool.or_false, and_self, ↓tru_v, non_v, non_f, ty_v, ty_f, ta_v, ta_f, ↓bop_vv, ↓bop_6v, ↓cut_9a, ↓cut_9b, ↓cut_9c, tup3, tup2, v_ti, f_ti, zipD, wp_cc, true_and, decide_true, decide_false, eq_self, sz_0, sz_1, sz_2, sz_3, sz_4, sz_5, sz_6, sz_7, sz_8, sz_9, sz_10, sz_11, sz_12, enm_1, enm_2, enm_3, enm_4, enm_5, enm_6, enm_7, enm_8, enm_9, enm_10, len_1, len_2, len_3, len_4, len_5, len_6, len_7, len_8, len_9, len_10])
local macro_rules | `(tactic| walk_at "f1") => `(tactic| first
  | assumption
  | (with_reducible apply And.intro; walk_at "fs")
  | (with_reducible apply brk_t; walk_at "fd")
  | (with_reducible apply brk_f; walk_at "fd")
  | (with_reducible apply s_fourth_by_v; walk_at "fs"; walk_at "fs"; walk_at "fs"; walk_at "fs"; walk_at "fs"; walk_at "fs"; walk_at "fs")
  | (with_reducible apply s_fourth_point_v; walk_at "fs"; walk_at "fs"; walk_at "fs"; walk_at "fs"; walk_at "fs"; walk_at "fs"; walk_at "fs")
  | (with_reducible apply s_harmonic_v; walk_at "fs"; walk_at "fs"; walk_at "fs"; walk_at "fs"; walk_at "fs")
  | (with_reducible apply s_law_fourth_v; walk_at "fs"; walk_at "fs"; walk_at "fs"; walk_at "fs"; walk_at "fs"; walk_at "fs"; walk_at "fs")
  | (with_reducible apply s_law_turn_line_v; walk_at "fs"; walk_at "fs"; walk_at "fs"; walk_at "fs"; walk_at "fs")
  | (with_reducible apply s_law_alike_same; walk_at "fs"; walk_at "fs"; walk_at "fs"; walk_at "fs"; walk_at "fs"; walk_at "fs"; walk_at "fs"; walk_at "fs"; walk_at "fs"; walk_at "fs"; walk_at "fs"; walk_at "fs"; walk_at "fs"; walk_at "fs"; walk_at "fs"; walk_at "fs"; walk_at "fs"; walk_at "fs"; walk_at "fs"; walk_at "fs"; walk_at "fs"; walk_at "fs"; walk_at "fs"; walk_at "fs"; walk_at "fs"; walk_at "fs"; walk_at "fs"; walk_at "fs"; walk_at "fs"; walk_at "fs"; walk_at "fs"; walk_at "fs"; walk_at "fs"; walk_at "fs")
  | (with_reducible apply s_law_cross_v; walk_at "fs"; walk_at "fs"; walk_at "fs")
  | (with_reducible apply s_law_dot_v; walk_at "fs"; walk_at "fs"; walk_at "fs")
  | (with_reducible apply s_law_block_v; walk_at "fs"; walk_at "fs"; walk_at "fs"; walk_at "fs")
  | (with_reducible apply s_law_plain_v; walk_at "fs"; walk_at "fs"; walk_at "fs")
  | (with_reducible apply s_law_plain_f; walk_at "fs"; walk_at "fs"; walk_at "fs"; walk_at "fs")
  | (with_reducible apply s_law_turn_v; walk_at "fs"; walk_at "fs"; walk_at "fs"; walk_at "fs"; walk_at "fs")
  | (with_reducible apply s_law_ratio_v; walk_at "fs"; walk_at "fs"; walk_at "fs"; walk_at "fs"; walk_at "fs"; walk_at "fs"; walk_at "fs")
  | (with_reducible apply s_is_view_of_v; walk_at "fs"; walk_at "fs"; walk_at "fs")
  | (with_reducible apply s_check_view_v; walk_at "fs"; walk_at "fs"; walk_at "fs")
  | (with_reducible apply s_table_times_v; walk_at "fs"; walk_at "fs"; walk_at "fs")
  | (with_reducible apply s_turned_table_v)
  | (with_reducible apply s_adjugate_v; walk_at "fs"; walk_at "fs")
  | (with_reducible apply s_turn_line_v; walk_at "fs"; walk_at "fs"; walk_at "fs"; walk_at "fs"; walk_at "fs")
  | (with_reducible apply s_turned_line_v; walk_at "fs"; walk_at "fs"; walk_at "fs"; walk_at "fs"; walk_at "fs")
  | (with_reducible apply s_place_for_v; walk_at "fs"; walk_at "fs"; walk_at "fs"; walk_at "fs")
  | (with_reducible apply s_minor_v; walk_at "fs"; walk_at "fs"; walk_at "fs")
  | (with_reducible apply s_parts_by_v; walk_at "fs"; walk_at "fs"; walk_at "fs"; walk_at "fs"; walk_at "fs")
  | (with_reducible apply s_ratio_by_v; walk_at "fs"; walk_at "fs"; walk_at "fs"; walk_at "fs"; walk_at "fs"; walk_at "fs"; walk_at "fs")
  | (with_reducible apply s_check_points4; walk_at "fs"; walk_at "fs"; walk_at "fs"; walk_at "fs")
  | (with_reducible apply s_check_points3; walk_at "fs"; walk_at "fs"; walk_at "fs")
  | (with_reducible apply s_do_fit4; walk_at "fs"; walk_at "fs"; walk_at "fs"; walk_at "fs"; walk_at "fs"; walk_at "fs"; walk_at "fs"; walk_at "fs"; walk_at "fs"; walk_at "fs")
  | (with_reducible apply s_do_fit3; walk_at "fs"; walk_at "fs"; walk_at "fs"; walk_at "fs"; walk_at "fs"; walk_at "fs"; walk_at "fs"; walk_at "fs")
  | (with_reducible apply s_check_fit4; walk_at "fs"; walk_at "fs"; walk_at "fs"; walk_at "fs"; walk_at "fs"; walk_at "fs"; walk_at "fs"; walk_at "fs"; walk_at "fs"; walk_at "fs")
  | (with_reducible apply s_check_fit3; walk_at "fs"; walk_at "fs"; walk_at "fs"; walk_at "fs"; walk_at "fs"; walk_at "fs"; walk_at "fs"; walk_at "fs")
  | (with_reducible apply s_double_ratio_v; walk_at "fs"; walk_at "fs"; walk_at "fs"; walk_at "fs"; walk_at "fs"; walk_at "fs"; walk_at "fs")
  | (with_reducible apply s_line_ratio_v; walk_at "fs"; walk_at "fs"; walk_at "fs"; walk_at "fs"; walk_at "fs"; walk_at "fs"; walk_at "fs")
  | (with_reducible apply s_cross_v; walk_at "fs"; walk_at "fs"; walk_at "fs")
  | (with_reducible apply s_dot_v; walk_at "fs"; walk_at "fs"; walk_at "fs")
  | (with_reducible apply s_block_v; walk_at "fs"; walk_at "fs"; walk_at "fs"; walk_at "fs")
  | (with_reducible apply s_added_v)
  | (with_reducible apply s_scaled_v; walk_at "fs"; walk_at "fs"; walk_at "fs")
  | (with_reducible apply s_plain_of_v; walk_at "fs"; walk_at "fs"; walk_at "fs")
  | (with_reducible apply s_plain_of_f; walk_at "fs"; walk_at "fs"; walk_at "fs"; walk_at "fs")
  | (with_reducible apply s_is_zero_v)
  | (with_reducible apply s_is_triple_v; walk_at "fs")
  | (with_reducible apply s_check_point_v; walk_at "fs")
  | (with_reducible apply s_check_straight_v; walk_at "fs")
  | (with_reducible apply s_check_other_point_v; walk_at "fs"; walk_at "fs")
  | (with_reducible apply s_check_other_straight_v; walk_at "fs"; walk_at "fs")
  | (with_reducible apply s_join_v; walk_at "fs"; walk_at "fs"; walk_at "fs"; walk_at "fs"; walk_at "fs"; walk_at "fs")
  | (with_reducible apply s_meet_v; walk_at "fs"; walk_at "fs"; walk_at "fs"; walk_at "fs"; walk_at "fs"; walk_at "fs")
  | (with_reducible apply s_cross; walk_at "fs"; walk_at "fs"; walk_at "fs")
  | (with_reducible apply s_dot; walk_at "fs"; walk_at "fs"; walk_at "fs")
  | (with_reducible apply s_block; walk_at "fs"; walk_at "fs"; walk_at "fs"; walk_at "fs"; walk_at "fs"; walk_at "fs")
  | (with_reducible apply s_added)
  | (with_reducible apply s_scaled; walk_at "fs"; walk_at "fs")
  | (with_reducible apply s_law_dot; walk_at "fs"; walk_at "fs"; walk_at "fs")
  | (with_reducible apply s_law_plain_v2; walk_at "fs"; walk_at "fs"; walk_at "fs")
  | (with_reducible apply s_divisor_of)
  | (with_reducible apply s_first_live)
  | (with_reducible apply s_plain_of; walk_at "fs"; walk_at "fs"; walk_at "fs")
  | (with_reducible apply s_is_zero)
  | (with_reducible apply s_made_plain; walk_at "fs"; walk_at "fs"; walk_at "fs")
  | (with_reducible apply s_is_plain; walk_at "fs"; walk_at "fs"; walk_at "fs")
  | (with_reducible apply s_is_triple; walk_at "fs"; walk_at "fs")
  | (with_reducible apply s_is_point; walk_at "fs"; walk_at "fs")
  | (with_reducible apply s_law_divisor)
  | (with_reducible apply s_law_plain; walk_at "fs"; walk_at "fs"; walk_at "fs")
  | (with_reducible apply s_law_is_triple; walk_at "fs"; walk_at "fs"; walk_at "fs")
  | (with_reducible apply s_is_whole)
  | (with_reducible apply s_is_tuple_up_to)
  | (with_reducible apply s_is_tuple_of)
  | (with_reducible apply s_are_whole; walk_at "fs")
  | (with_reducible apply s_law_cross; walk_at "fs"; walk_at "fs"; walk_at "fs"))
local macro_rules | `(tactic| walk_at "go") => `(tactic| repeat (first | walk_at "f1" | walk_at "fw"))
local macro_rules | `(tactic| walk_at "g0") => `(tactic| repeat (first | walk_at "f1" | walk_at "fx"))
def mm (p q : M3) : M3 := ⟨⟨dt p.a (trp q).a, dt p.a (trp q).b, dt p.a (trp q).c⟩, ⟨dt p.b (trp q).a, dt p.b (trp q).b, dt p.b (trp q).c⟩, ⟨dt p.c (trp q).a, dt p.c (trp q).b, dt p.c (trp q).c⟩⟩
theorem mv_mm {p q : M3} {u : T3} : mv (mm p q) u = mv p (mv q u) := by
  simp only [mm, mv, trp, dt, T3.mk.injEq]
  refine ⟨?_, ?_, ?_⟩ <;> grind
theorem det_mm {p q : M3} : det (mm p q) = det p * det q := by
  simp only [det, mm, mv, trp, bk, dt, cr]
  grind
theorem det_adj {m : M3} : det (trp (cof m)) = det m * det m := by
  simp only [det, trp, cof, bk, dt, cr]
  grind
theorem bm_trp {n : Nat} {m : M3} (h : bm n m) : bm n (trp m) := ⟨⟨h.1.1, h.2.1.1, h.2.2.1⟩, ⟨h.1.2.1, h.2.1.2.1, h.2.2.2.1⟩, ⟨h.1.2.2, h.2.1.2.2, h.2.2.2.2⟩⟩
theorem bm_mm {p q : M3} {a b : Nat} (hp : bm a p) (hq : bm b q) : bm (a + b + 2) (mm p q) := by
  have ht := bm_trp hq
  exact ⟨⟨bt_dt hp.1 ht.1, bt_dt hp.1 ht.2.1, bt_dt hp.1 ht.2.2⟩, ⟨bt_dt hp.2.1 ht.1, bt_dt hp.2.1 ht.2.1, bt_dt hp.2.1 ht.2.2⟩, ⟨bt_dt hp.2.2 ht.1, bt_dt hp.2.2 ht.2.1, bt_dt hp.2.2 ht.2.2⟩⟩
section
variable {n : Nat} {S : Store} {k X : D → Store → Prop} {u v w x y z : T3} {a b c d : Nat} {m q : M3} {l : Nat}
theorem s_table_of (bb : bm a m) (bq : bm b q) (l : a ≤ 1000 ∧ b ≤ 1000) (h : k (mD (mm m q)) S) : CT (n + 3) i_table_of [mD m, mD q] S k X := by
  have h1 := bb.1
  have h2 := bb.2.1
  have h3 := bb.2.2
  obtain ⟨t1, t2, t3⟩ := bm_trp bq
  refine c_table_of ?_
  simp! only [f_table_of, itm_m, ↓seq_v, ↓seq_f, ↓itm_v, ↓itm_f, ↓asg_v, ↓asg_f, bp_v, bp_f, bps_tv, bps_tf, ↓two_vv, ↓two_vt, ↓two_tv, ↓two_ff, ↓still_v, ↓cut_v, ↓cop_eq_v, ↓cop_ne_v, ↓cop_eq_f, ↓cop_ne_f, inD_n, inD_c, pures_c, pures_n, pure_vT, pure_fT, pure_iT, pure_bT, pure_nT, eq_v, eq_f, Bool.or_false, and_self, ↓tru_v, non_v, non_f, ty_v, ty_f, ta_v, ta_f, ↓bop_vv, ↓bop_6v, ↓cut_9a, ↓cut_9b, ↓cut_9c, tup3, tup2, v_ti, f_ti, zipD, wp_cc, true_and, decide_true, decide_false, eq_self, sz_0, sz_1, sz_2, sz_3, sz_4, sz_5, sz_6, sz_7, sz_8, sz_9, sz_10, sz_11, sz_12, enm_1, enm_2, enm_3, enm_4, enm_5, enm_6, enm_7, enm_8, enm_9, enm_10, len_1, len_2, len_3, len_4, len_5, len_6, len_7, len_8, len_9, len_10]
  refine s_turned_table_v ?_
  simp! only [itm_m, lc_app', fc_cons, fc_nil, ↓seq_v, ↓seq_f, ↓itm_v, ↓itm_f, ↓asg_v, ↓asg_f, bp_v, bp_f, bps_tv, bps_tf, ↓two_vv, ↓two_vt, ↓two_tv, ↓two_ff, ↓still_v, ↓cut_v, ↓cop_eq_v, ↓cop_ne_v, ↓cop_eq_f, ↓cop_ne_f, inD_n, inD_c, pures_c, pures_n, pure_vT, pure_fT, pure_iT, pure_bT, pure_nT, eq_v, eq_f, Bool.or_false, and_self, ↓tru_v, non_v, non_f, ty_v, ty_f, ta_v, ta_f, ↓bop_vv, ↓bop_6v, ↓cut_9a, ↓cut_9b, ↓cut_9c, tup3, tup2, v_ti, f_ti, zipD, wp_cc, true_and, decide_true, decide_false, eq_self, sz_0, sz_1, sz_2, sz_3, sz_4, sz_5, sz_6, sz_7, sz_8, sz_9, sz_10, sz_11, sz_12, enm_1, enm_2, enm_3, enm_4, enm_5, enm_6, enm_7, enm_8, enm_9, enm_10, len_1, len_2, len_3, len_4, len_5, len_6, len_7, len_8, len_9, len_10]
  refine s_dot_v h1 t1 (by omega) ?_
  refine s_dot_v h1 t2 (by omega) ?_
  refine s_dot_v h1 t3 (by omega) ?_
  try walk_at "fx"
  refine s_dot_v h2 t1 (by omega) ?_
  refine s_dot_v h2 t2 (by omega) ?_
  refine s_dot_v h2 t3 (by omega) ?_
  try walk_at "fx"
  refine s_dot_v h3 t1 (by omega) ?_
  refine s_dot_v h3 t2 (by omega) ?_
  refine s_dot_v h3 t3 (by omega) ?_
  try walk_at "fx"
  exact h
end
end FV
set_option Elab.async false
set_option linter.all false
set_option maxRecDepth 100000
/-! Wa: curves of the second degree: six numbers, their tables, turned ones. -/
namespace FV
structure C6 where
  a : Int
  b : Int
  c : Int
  d : Int
  e : Int
  f : Int
deriving DecidableEq
def C6.l (q : C6) : List Int := [q.a, q.b, q.c, q.d, q.e, q.f]
theorem c6_inj {q r : C6} (h : q.l = r.l) : q = r := by
  cases q; cases r
  simp only [C6.l, List.cons.injEq, and_true] at h
  simp [h]
theorem C6.ext' {q r : C6} (h1 : q.a = r.a) (h2 : q.b = r.b) (h3 : q.c = r.c) (h4 : q.d = r.d) (h5 : q.e = r.e) (h6 : q.f = r.f) : q = r := by
  cases q; cases r; simp_all
def cs (k : Int) (q : C6) : C6 := ⟨k * q.a, k * q.b, k * q.c, k * q.d, k * q.e, k * q.f⟩
/-- made plain -/
def pc (q : C6) : C6 := ⟨q.a.fdiv (dv q.l), q.b.fdiv (dv q.l), q.c.fdiv (dv q.l), q.d.fdiv (dv q.l), q.e.fdiv (dv q.l), q.f.fdiv (dv q.l)⟩
theorem pc_l (q : C6) : pn q.l = (pc q).l := rfl
theorem cs_l {k : Int} {q : C6} : (cs k q).l = q.l.map (k * ·) := rfl
def Pc (q : C6) : Prop := Prim q.l
def N6 (q : C6) : Prop := fl q.l ≠ 0
theorem pc_mul {q : C6} (h : N6 q) : q = cs (dv q.l) (pc q) := c6_inj (pn_mul h)
theorem pc_pr {q : C6} (h : N6 q) : Pc (pc q) := pn_prim h
theorem pc_n {q : C6} (h : Pc q) : N6 q := fl_of_prim h
theorem pc_cs {q : C6} {k : Int} (h : N6 q) (hk : k ≠ 0) : pc (cs k q) = pc q := c6_inj (by rw [← pc_l, cs_l, pn_smul h hk]; rfl)
theorem dv6 {q : C6} (h : N6 q) : dv q.l ≠ 0 := dv_ne h
theorem n6_cs {q : C6} {k : Int} (h : N6 q) (hk : k ≠ 0) : N6 (cs k q) := by
  unfold N6
  rw [cs_l, fl_mul hk]
  exact Int.mul_ne_zero hk h
theorem n6_zero {q : C6} : ¬ N6 q ↔ q = ⟨0, 0, 0, 0, 0, 0⟩ := by
  unfold N6
  rw [Classical.not_not]
  constructor
  · intro h
    have := fl_zero.mp h
    exact C6.ext' (this _ (by simp [C6.l])) (this _ (by simp [C6.l])) (this _ (by simp [C6.l])) (this _ (by simp [C6.l])) (this _ (by simp [C6.l])) (this _ (by simp [C6.l]))
  · rintro rfl; decide
theorem n6_of_cs {q : C6} {k : Int} (h : N6 (cs k q)) : N6 q := fun e => by
  have e2 := n6_zero.mp (fun n : N6 q => n e)
  subst e2
  refine h ?_
  simp [cs, C6.l, fl]
theorem cs_cs {i j : Int} {q : C6} : cs i (cs j q) = cs (i * j) q := by simp only [cs, Int.mul_assoc]
theorem cs_one {q : C6} : cs 1 q = q := by simp only [cs, Int.one_mul]
/-- the table -/
def tb (q : C6) : M3 := ⟨⟨2 * q.a, q.f, q.e⟩, ⟨q.f, 2 * q.b, q.d⟩, ⟨q.e, q.d, 2 * q.c⟩⟩
/-- the value -/
def qv (q : C6) (p : T3) : Int := q.a * (p.x * p.x) + q.b * (p.y * p.y) + q.c * (p.z * p.z) + q.d * (p.y * p.z) + q.e * (p.x * p.z) + q.f * (p.x * p.y)
/-- between two points -/
def bi (q : C6) (u v : T3) : Int := dt u (mv (tb q) v)
theorem bi_self {q : C6} {u : T3} : bi q u u = 2 * qv q u := by simp only [bi, qv, dt, mv, tb]; grind
theorem bi_comm {q : C6} {u v : T3} : bi q u v = bi q v u := by simp only [bi, dt, mv, tb]; grind
theorem qv_cs {k : Int} {q : C6} {p : T3} : qv (cs k q) p = k * qv q p := by simp only [qv, cs]; grind
theorem qv_sm {k : Int} {q : C6} {p : T3} : qv q (sm k p) = k * k * qv q p := by simp only [qv, sm]; grind
theorem bi_cs {k : Int} {q : C6} {u v : T3} : bi (cs k q) u v = k * bi q u v := by simp only [bi, cs, dt, mv, tb]; grind
/-- taken back by a table -/
def tq (m : M3) (q : C6) : C6 := ⟨qv q (trp m).a, qv q (trp m).b, qv q (trp m).c, bi q (trp m).b (trp m).c, bi q (trp m).a (trp m).c, bi q (trp m).a (trp m).b⟩
theorem qv_lin {q : C6} {u v w : T3} {x y z : Int} : qv q (ad (ad (sm x u) (sm y v)) (sm z w)) = qv q u * (x * x) + qv q v * (y * y) + qv q w * (z * z) + bi q v w * (y * z) + bi q u w * (x * z) + bi q u v * (x * y) := by
  simp only [qv, bi, ad, sm, dt, mv, tb]; grind
theorem mv_cols {m : M3} {p : T3} : mv m p = ad (ad (sm p.x (trp m).a) (sm p.y (trp m).b)) (sm p.z (trp m).c) := by
  refine T3.ext' ?_ ?_ ?_ <;> (simp only [mv, trp, ad, sm, dt]; grind)
theorem qv_tq {m : M3} {q : C6} {p : T3} : qv (tq m q) p = qv q (mv m p) := by
  rw [mv_cols, qv_lin]
  rfl
theorem bi_qv {q : C6} {u v : T3} : bi q u v = qv q (ad u v) - qv q u - qv q v := by
  simp only [bi, qv, ad, dt, mv, tb]; grind
theorem mv_ad {m : M3} {u v : T3} : mv m (ad u v) = ad (mv m u) (mv m v) := by
  refine T3.ext' ?_ ?_ ?_ <;> (simp only [mv, ad, dt]; grind)
theorem bi_tq {m : M3} {q : C6} {u v : T3} : bi (tq m q) u v = bi q (mv m u) (mv m v) := by
  rw [bi_qv, bi_qv, qv_tq, qv_tq, qv_tq, mv_ad]
theorem trp_mm {p r : M3} : trp (mm r p) = ⟨mv r (trp p).a, mv r (trp p).b, mv r (trp p).c⟩ := rfl
theorem tq_mm {p r : M3} {q : C6} : tq p (tq r q) = tq (mm r p) q := by
  unfold tq
  rw [trp_mm]
  have e : (⟨qv q (trp r).a, qv q (trp r).b, qv q (trp r).c, bi q (trp r).b (trp r).c, bi q (trp r).a (trp r).c, bi q (trp r).a (trp r).b⟩ : C6) = tq r q := rfl
  rw [e]
  simp only [qv_tq, bi_tq]
theorem bi_sm {q : C6} {u v : T3} {i j : Int} : bi q (sm i u) (sm j v) = i * j * bi q u v := by
  simp only [bi, sm, dt, mv, tb]; grind
theorem tq_ms {k : Int} {m : M3} {q : C6} : tq (ms k m) q = cs (k * k) (tq m q) := by
  have e : trp (ms k m) = ⟨sm k (trp m).a, sm k (trp m).b, sm k (trp m).c⟩ := rfl
  unfold tq
  rw [e]
  simp only [cs, qv_sm, bi_sm]
theorem tq_cs {k : Int} {m : M3} {q : C6} : tq m (cs k q) = cs k (tq m q) := by
  unfold tq
  simp only [cs, qv_cs, bi_cs]
  rw [← cs]
  simp only [qv_cs, bi_cs]
def Id3 : M3 := ⟨⟨1, 0, 0⟩, ⟨0, 1, 0⟩, ⟨0, 0, 1⟩⟩
theorem tq_id {q : C6} : tq Id3 q = q := by
  refine C6.ext' ?_ ?_ ?_ ?_ ?_ ?_ <;> (simp only [tq, Id3, trp, qv, bi, dt, mv, tb]; grind)
abbrev aj (m : M3) : M3 := trp (cof m)
theorem mm_aj {m : M3} : mm m (aj m) = ms (det m) Id3 := by
  obtain ⟨⟨a, b, c⟩, ⟨d, e, f⟩, ⟨g, h, i⟩⟩ := m
  simp only [mm, aj, trp, cof, det, bk, dt, cr, ms, sm, Id3, M3.mk.injEq, T3.mk.injEq]
  refine ⟨⟨?_, ?_, ?_⟩, ⟨?_, ?_, ?_⟩, ⟨?_, ?_, ?_⟩⟩ <;> grind
theorem aj_ms {k : Int} {m : M3} : aj (ms k m) = ms (k * k) (aj m) := by
  obtain ⟨⟨a, b, c⟩, ⟨d, e, f⟩, ⟨g, h, i⟩⟩ := m
  simp only [aj, trp, cof, cr, ms, sm, M3.mk.injEq, T3.mk.injEq]
  refine ⟨⟨?_, ?_, ?_⟩, ⟨?_, ?_, ?_⟩, ⟨?_, ?_, ?_⟩⟩ <;> grind
theorem ms_ms {i j : Int} {m : M3} : ms i (ms j m) = ms (i * j) m := by simp only [ms, sm_sm]
theorem cr_mm {p r : M3} : cof (mm p r) = mm (cof p) (cof r) := by
  obtain ⟨⟨a, b, c⟩, ⟨d, e, f⟩, ⟨g, h, i⟩⟩ := p
  obtain ⟨⟨a', b', c'⟩, ⟨d', e', f'⟩, ⟨g', h', i'⟩⟩ := r
  simp only [mm, trp, cof, dt, cr, M3.mk.injEq, T3.mk.injEq]
  refine ⟨⟨?_, ?_, ?_⟩, ⟨?_, ?_, ?_⟩, ⟨?_, ?_, ?_⟩⟩ <;> grind
theorem tr_mm {p r : M3} : trp (mm p r) = mm (trp r) (trp p) := by
  simp only [mm, trp, dt, M3.mk.injEq, T3.mk.injEq]
  refine ⟨⟨?_, ?_, ?_⟩, ⟨?_, ?_, ?_⟩, ⟨?_, ?_, ?_⟩⟩ <;> grind
theorem aj_mm {p r : M3} : aj (mm p r) = mm (aj r) (aj p) := by
  unfold aj
  rw [cr_mm, tr_mm]
theorem tq_ne {m : M3} {q : C6} (hm : det m ≠ 0) (h : N6 q) : N6 (tq m q) := Classical.byContradiction fun z => by
  have z1 := n6_zero.mp z
  have e : tq (aj m) (tq m q) = cs (det m * det m) q := by rw [tq_mm, mm_aj, tq_ms, tq_id]
  rw [z1] at e
  have n := n6_cs h (Int.mul_ne_zero hm hm)
  rw [← e] at n
  exact n (by simp [tq, qv, bi, dt, mv, tb, C6.l, fl])
/-! ### the same up to factors -/
def S6 (q r : C6) : Prop := ∃ i j : Int, i ≠ 0 ∧ j ≠ 0 ∧ cs i q = cs j r
def S9 (m r : M3) : Prop := ∃ i j : Int, i ≠ 0 ∧ j ≠ 0 ∧ ms i m = ms j r
theorem S6.refl (q : C6) : S6 q q := ⟨1, 1, by decide, by decide, rfl⟩
theorem S9.refl (m : M3) : S9 m m := ⟨1, 1, by decide, by decide, rfl⟩
theorem S6.symm {q r : C6} : S6 q r → S6 r q := fun ⟨i, j, h, g, e⟩ => ⟨j, i, g, h, e.symm⟩
theorem S9.symm {q r : M3} : S9 q r → S9 r q := fun ⟨i, j, h, g, e⟩ => ⟨j, i, g, h, e.symm⟩
theorem S6.trans {q r s : C6} : S6 q r → S6 r s → S6 q s := fun ⟨a, b, h, g, e⟩ ⟨c, d, h', g', e'⟩ => ⟨c * a, b * d, Int.mul_ne_zero h' h, Int.mul_ne_zero g g', by
  rw [← cs_cs, e, cs_cs, Int.mul_comm c b, ← cs_cs, e', cs_cs]⟩
theorem S9.trans {q r s : M3} : S9 q r → S9 r s → S9 q s := fun ⟨a, b, h, g, e⟩ ⟨c, d, h', g', e'⟩ => ⟨c * a, b * d, Int.mul_ne_zero h' h, Int.mul_ne_zero g g', by
  rw [← ms_ms, e, ms_ms, Int.mul_comm c b, ← ms_ms, e', ms_ms]⟩
theorem s6_pc {q : C6} (h : N6 q) : S6 (pc q) q := ⟨dv q.l, 1, dv6 h, by decide, by rw [cs_one]; exact (pc_mul h).symm⟩
theorem S6.pc {q r : C6} (h : N6 q) : S6 q r → pc q = pc r := fun ⟨i, j, hi, hj, e⟩ => by
  have hr : N6 r := n6_of_cs (e ▸ n6_cs h hi)
  rw [← pc_cs h hi, e, pc_cs hr hj]
theorem S6.qv {q r : C6} (s : S6 q r) {p : T3} : FV.qv q p = 0 ↔ FV.qv r p = 0 := by
  obtain ⟨i, j, hi, hj, e⟩ := s
  have : i * FV.qv q p = j * FV.qv r p := by rw [← qv_cs, ← qv_cs, e]
  constructor
  · intro z
    rw [z, Int.mul_zero] at this
    exact (Int.mul_eq_zero.mp this.symm).resolve_left hj
  · intro z
    rw [z, Int.mul_zero] at this
    exact (Int.mul_eq_zero.mp this).resolve_left hi
theorem sim_qv {q : C6} {u v : T3} (s : Sim u v) : qv q u = 0 ↔ qv q v = 0 := by
  obtain ⟨i, j, hi, hj, e⟩ := s
  have : i * i * FV.qv q u = j * j * FV.qv q v := by rw [← qv_sm, ← qv_sm, e]
  have hi2 := Int.mul_ne_zero hi hi
  have hj2 := Int.mul_ne_zero hj hj
  constructor
  · intro z
    rw [z, Int.mul_zero] at this
    exact (Int.mul_eq_zero.mp this.symm).resolve_left hj2
  · intro z
    rw [z, Int.mul_zero] at this
    exact (Int.mul_eq_zero.mp this).resolve_left hi2
theorem S6.tq {m n : M3} {q r : C6} : S9 m n → S6 q r → S6 (tq m q) (tq n r) := fun ⟨a, b, h, g, e⟩ ⟨c, d, h', g', e'⟩ => ⟨a * a * c, b * b * d, Int.mul_ne_zero (Int.mul_ne_zero h h) h', Int.mul_ne_zero (Int.mul_ne_zero g g) g', by
  have w : ∀ (i j : Int) (m : M3) (q : C6), cs (i * i * j) (FV.tq m q) = FV.tq (ms i m) (cs j q) := fun i j m q => by rw [tq_ms, tq_cs, cs_cs]
  rw [w, w, e, e']⟩
theorem S9.aj {m n : M3} : S9 m n → S9 (aj m) (aj n) := fun ⟨a, b, h, g, e⟩ => ⟨a * a, b * b, Int.mul_ne_zero h h, Int.mul_ne_zero g g, by rw [← aj_ms, ← aj_ms, e]⟩
theorem det_cs {k : Int} {q : C6} : det (tb (cs k q)) = k * k * k * det (tb q) := by
  simp only [det, tb, cs, bk, dt, cr]; grind
theorem S6.full {q r : C6} (s : S6 q r) : det (tb q) = 0 ↔ det (tb r) = 0 := by
  obtain ⟨i, j, hi, hj, e⟩ := s
  have : i * i * i * det (FV.tb q) = j * j * j * det (FV.tb r) := by rw [← det_cs, ← det_cs, e]
  have hi3 := Int.mul_ne_zero (Int.mul_ne_zero hi hi) hi
  have hj3 := Int.mul_ne_zero (Int.mul_ne_zero hj hj) hj
  constructor
  · intro z
    rw [z, Int.mul_zero] at this
    exact (Int.mul_eq_zero.mp this.symm).resolve_left hj3
  · intro z
    rw [z, Int.mul_zero] at this
    exact (Int.mul_eq_zero.mp this).resolve_left hi3
theorem mv_trp_mm {m : M3} {q : C6} : mm (mm (trp m) (tb q)) m = tb (tq m q) := by
  have sb : ∀ u v : T3, dt u (mv (tb q) v) = bi q u v := fun _ _ => rfl
  obtain ⟨⟨a, b, c⟩, ⟨d, e, f⟩, ⟨g, h, i⟩⟩ := m
  simp only [mm, tb, tq, trp, qv, bi, mv, dt, M3.mk.injEq, T3.mk.injEq]
  refine ⟨⟨?_, ?_, ?_⟩, ⟨?_, ?_, ?_⟩, ⟨?_, ?_, ?_⟩⟩ <;> grind
theorem det_trp {m : M3} : det (trp m) = det m := by
  simp only [det, trp, bk, dt, cr]; grind
theorem det_tq {m : M3} {q : C6} : det (tb (tq m q)) = det m * det m * det (tb q) := by
  rw [← mv_trp_mm, det_mm, det_mm, det_trp]; grind
/-! ### turned -/
def tn (m : M3) (q : C6) : C6 := pc (tq (aj m) q)
theorem aj0 {m : M3} (h : det m ≠ 0) : det (aj m) ≠ 0 := by
  rw [det_adj]; exact Int.mul_ne_zero h h
theorem tn_n {m : M3} {q : C6} (h : det m ≠ 0) (hq : N6 q) : N6 (tq (aj m) q) := tq_ne (aj0 h) hq
theorem tn_pc {m : M3} {q : C6} (h : det m ≠ 0) (hq : N6 q) : Pc (tn m q) := pc_pr (tn_n h hq)
theorem tn_s {m : M3} {q : C6} (h : det m ≠ 0) (hq : N6 q) : S6 (tn m q) (tq (aj m) q) := s6_pc (tn_n h hq)
theorem tn_sim {m n : M3} {q r : C6} (h : det m ≠ 0) (hq : N6 q) (s : S9 m n) (t : S6 q r) : tn m q = tn n r := (S6.tq s.aj t).pc (tn_n h hq)
theorem tn_tn {m n : M3} {q : C6} (h : det m ≠ 0) (g : det n ≠ 0) (hq : N6 q) : tn n (tn m q) = tn (mm n m) q := by
  rw [tn_sim g (pc_n (tn_pc h hq)) (.refl n) (tn_s h hq)]
  unfold tn
  rw [tq_mm, aj_mm]
theorem tn_full {m : M3} {q : C6} (h : det m ≠ 0) (hq : N6 q) : det (tb (tn m q)) = 0 ↔ det (tb q) = 0 := by
  rw [(tn_s h hq).full, det_tq]
  have := aj0 h
  constructor
  · intro z; exact (Int.mul_eq_zero.mp z).resolve_left (Int.mul_ne_zero this this)
  · intro z; rw [z, Int.mul_zero]
theorem tn_on {m : M3} {q : C6} {p : T3} (h : det m ≠ 0) (hq : N6 q) (hp : p ≠ V0) : qv (tn m q) (pv (mv m p)) = 0 ↔ qv q p = 0 := by
  rw [sim_qv (pv_sim (mv_ne h hp)), (tn_s h hq).qv, qv_tq, mv_back, qv_sm]
  constructor
  · intro z; exact (Int.mul_eq_zero.mp z).resolve_left (Int.mul_ne_zero h h)
  · intro z; rw [z, Int.mul_zero]
/-! ### sizes -/
def bc (n : Nat) (q : C6) : Prop := bt n q.a ∧ bt n q.b ∧ bt n q.c ∧ bt n q.d ∧ bt n q.e ∧ bt n q.f
theorem bc_mono {n m : Nat} {q : C6} (h : bc n q) (l : n ≤ m) : bc m q := ⟨bt_mono h.1 l, bt_mono h.2.1 l, bt_mono h.2.2.1 l, bt_mono h.2.2.2.1 l, bt_mono h.2.2.2.2.1 l, bt_mono h.2.2.2.2.2 l⟩
theorem bt_dbl {n : Nat} {x : Int} (h : bt n x) : bt (n + 1) (2 * x) := by
  have : (2 * x) = x + x := by omega
  rw [this]
  exact bt_mono (bt_add h h) (by omega)
theorem bm_tb {n : Nat} {q : C6} (h : bc n q) : bm (n + 1) (tb q) := by
  obtain ⟨ha, hb, hc, hd, he, hf⟩ := h
  have w : ∀ {x : Int}, bt n x → bt (n + 1) x := fun h => bt_mono h (by omega)
  exact ⟨⟨bt_dbl ha, w hf, w he⟩, ⟨w hf, bt_dbl hb, w hd⟩, ⟨w he, w hd, bt_dbl hc⟩⟩
theorem bt_bi {n a b : Nat} {q : C6} {u v : T3} (h : bc n q) (hu : bv a u) (hv : bv b v) : bt (a + b + n + 5) (bi q u v) := by
  have := bt_dt hu (bv_mv (bm_tb h) hv)
  exact bt_mono this (by omega)
theorem bt_half {n : Nat} {x : Int} (h : bt n (2 * x)) : bt n x := by unfold bt at *; omega
theorem bt_qv {n a : Nat} {q : C6} {u : T3} (h : bc n q) (hu : bv a u) : bt (a + a + n + 5) (qv q u) := by
  have := bt_bi h hu hu
  rw [bi_self] at this
  exact bt_half this
theorem bc_tq {n a : Nat} {m : M3} {q : C6} (h : bc n q) (hm : bm a m) : bc (a + a + n + 5) (tq m q) := by
  obtain ⟨h1, h2, h3⟩ := bm_trp hm
  exact ⟨bt_qv h h1, bt_qv h h2, bt_qv h h3, bt_bi h h2 h3, bt_bi h h1 h3, bt_bi h h1 h2⟩
theorem bc_pc {n : Nat} {q : C6} (h : bc n q) (h0 : N6 q) : bc n (pc q) := by
  have e := pc_mul h0
  have hd := dv6 h0
  have w : ∀ {x y : Int}, x = dv q.l * y → bt n x → bt n y := fun {x y} e h => by
    by_cases hx : x = 0
    · have : y = 0 := (Int.mul_eq_zero.mp (e.symm.trans hx)).resolve_left hd
      rw [this]; rw [hx] at h; exact h
    · exact bt_dvd h ⟨dv q.l, by rw [e, Int.mul_comm]⟩ hx
  exact ⟨w (congrArg C6.a e) h.1, w (congrArg C6.b e) h.2.1, w (congrArg C6.c e) h.2.2.1, w (congrArg C6.d e) h.2.2.2.1, w (congrArg C6.e e) h.2.2.2.2.1, w (congrArg C6.f e) h.2.2.2.2.2⟩
theorem bc_tn {n a : Nat} {m : M3} {q : C6} (h : bc n q) (hm : bm a m) (h0 : det m ≠ 0) (hq : N6 q) : bc (4 * a + n + 7) (tn m q) :=
  bc_mono (bc_pc (bc_tq h (bm_trp (bm_cof hm))) (tn_n h0 hq)) (by omega)
theorem bd6_of {n : Nat} {q : C6} (h : bc n q) (l : n ≤ 8000) : Bd q.l := by
  have := bc_mono h l
  intro x hx
  simp only [C6.l, List.mem_cons, List.not_mem_nil, or_false] at hx
  rcases hx with rfl | rfl | rfl | rfl | rfl | rfl
  · exact this.1
  · exact this.2.1
  · exact this.2.2.1
  · exact this.2.2.2.1
  · exact this.2.2.2.2.1
  · exact this.2.2.2.2.2
end FV
set_option Elab.async false
set_option linter.all false
set_option maxRecDepth 100000
/-! Wb: curves: the laws' shared small defs, the program's own. -/
namespace FV
def qD (q : C6) : D := ti q.l
section
variable {C : Hd} {X : D → Store → Prop} {σ : Env} {S : Store} {k : D → Store → Prop} {q : C6}
theorem asg_q {ps : List Pt} {k : Env → Store → Prop} : asg C X (.pt (.tp ps)) (qD q) σ S k = onO (bindPs ps [.int q.a, .int q.b, .int q.c, .int q.d, .int q.e, .int q.f] σ) fun σ1 => k σ1 S := asg_tp
theorem sum6 {a b c d e f : Int} : ([a, b, c, d, e, f] : List Int).sum = a + b + c + d + e + f := by
  simp [Int.add_assoc]
theorem any_vw {u : T3} {S : Store} {k : D → Prop} : bfn .any [vD u] S k = k (.bl (!decide (u = V0))) := by
  obtain ⟨x, y, z⟩ := u
  show k (.bl (!decide (x = 0) || (!decide (y = 0) || (!decide (z = 0) || false)))) = _
  congr 2
  simp only [V0, T3.mk.injEq]
  by_cases h1 : x = 0 <;> by_cases h2 : y = 0 <;> by_cases h3 : z = 0 <;> simp [h1, h2, h3]
end
/-! ### the law's small defs -/
theorem euclid5 {C : Hd} {X : D → Store → Prop} {S : Store} {N : Ends} {x0 x1 x2 : Option D} : ∀ (b a : Nat), N.nx [x0, x1, x2, some (.int ((Nat.gcd a b : Nat) : Int)), some (.int 0)] S → ∃ f, whlW (tst C X (.cmp .gt (.var 4) (.cst (.int 0)))) (blk C X [.par [3, 4] [(.var 4), (.bin .mod (.bi .int [(.var 3)]) (.var 4))]]) N f [x0, x1, x2, some (.int (a : Int)), some (.int (b : Int))] S := by
  intro b
  induction b using Nat.strongRecOn with
  | ind b ih =>
    intro a h
    by_cases hb : b = 0
    · subst hb
      refine ⟨1, ?_⟩
      simp! only [ww_s, blk_app, tst_app]
      rw [Nat.gcd_zero_right] at h
      exact h
    · obtain ⟨f, hf⟩ := ih (a % b) (Nat.mod_lt _ (by omega)) b (by rw [show Nat.gcd b (a % b) = Nat.gcd a b from by rw [Nat.gcd_comm b (a % b), ← Nat.gcd_rec, Nat.gcd_comm]]; exact h)
      refine ⟨f + 1, ?_⟩
      simp! only [ww_s, blk_app, tst_app]
      refine brk_t (decide_eq_true (by omega)) ⟨by omega, ?_⟩
      have e : Int.fmod (a : Int) (b : Int) = ((a % b : Nat) : Int) := by
        rw [Int.fmod_eq_emod_of_nonneg _ (by omega)]
        rfl
      rw [e]
      exact hf
theorem lgcd5 {C : Hd} {X : D → Store → Prop} {S : Store} {N : Ends} {a : Option D} : ∀ {ns : List Int} {m : Nat} {z c d : Option D}, (∀ z c d, N.nx [a, some (.int (ns.foldl gstep (m : Int))), z, c, d] S) →
    forW none (blk C X [.par [3, 4] [(.var 1), (.bi .abs [(.var 2)])], .whl (.cmp .gt (.var 4) (.cst (.int 0))) [.par [3, 4] [(.var 4), (.bin .mod (.bi .int [(.var 3)]) (.var 4))]], .set (.pt (.nm 1)) (.var 3)]) (.nm 2) N (ns.map D.int) [a, some (.int (m : Int)), z, c, d] S
  | [], m, z, c, d, h => h z c d
  | x :: xs, m, z, c, d, h => by
    simp! only [List.map_cons, fw_cons, blk_app, abs_cast]
    refine euclid5 _ _ ?_
    simp! only [↓ev_v0]
    have g : gstep (m : Int) x = ((Nat.gcd m x.natAbs : Nat) : Int) := by
      unfold gstep
      rw [Int.natAbs_natCast]
    exact lgcd5 (ns := xs) (m := Nat.gcd m x.natAbs) fun z c d => by
      have := h z c d
      rw [List.foldl_cons, g] at this
      exact this
section
variable {n : Nat} {S : Store} {k X : D → Store → Prop} {u v w x y z : T3} {a b c d : Nat} {m r : M3} {q : C6}
theorem s_law_common_w {ns : List Int} (h : k (.int (Gg ns : Int)) S) : CT (n + 1) i_law_common_v2 [ti ns] S k X := by
  refine c_law_common_v2 ?_
  simp! only [f_law_common_v2]
  refine lgcd5 (m := 0) fun z c d => ?_
  have g0 := gfold ns 0
  rw [Nat.gcd_zero_left] at g0
  rw [g0]
  simp! only [↓ev_v0]
  exact h
theorem s_law_plain_w {ns : List Int} (hf : fl ns ≠ 0) (hb : Bd ns) (hz : ns.length ≤ SZ) (h : k (ti (pn ns)) S) : CT (n + 2) i_law_plain_v5 [ti ns] S k X := by
  refine c_law_plain_v5 ?_
  simp! only [f_law_plain_v5]
  refine s_law_common_w ?_
  simp! only [↓ev_v0]
  refine ⟨by simpa using hz, forC_filt (f := fun x => .int x) (p := fun x => !decide (x = 0)) (fun i hi k2 h2 => ?_) ?_⟩
  · simp! only [lc_app']
    refine brk_i (fun e => ?_) fun e => ?_
    · rw [if_pos e] at h2; exact h2
    · rw [if_neg (by rw [e]; decide)] at h2; exact h2
  obtain ⟨r, er⟩ := fl_filter hf
  rw [er]
  simp! only [List.map_cons, nth_hd]
  have fin : ∀ v : Int, v = dv ns → ns.length ≤ SZ ∧ forC none (lcOne (CT (n + 1)) X [3] (.nm 3) none (.bin .fdiv (.var 3) (.var 1)) [some (ti ns), some (.int v), some (.int (fl ns)), none]) (ns.map D.int) S fun zs S5 => k (.tup zs) S5 := by
    intro v hv
    subst hv
    refine ⟨hz, forC_ints (f := fun x => .int (x.fdiv (dv ns))) (fun i hi k2 h2 => ?_) ?_⟩
    · simp! only [lc_app']
      exact ⟨dv_ok hf hb, h2⟩
    · have e : (ns.map fun x => D.int (x.fdiv (dv ns))) = (pn ns).map D.int := by unfold pn; rw [List.map_map]; rfl
      rw [e]
      exact h
  refine brk_i (fun e => ?_) fun e => ?_
  · have q := of_decide_eq_true e
    have r := fin (Gg ns : Int) (by unfold dv; rw [if_pos q])
    simpa using r
  · have q := of_decide_eq_false e
    have r := fin (0 - (Gg ns : Int)) (by unfold dv; rw [if_neg q]; omega)
    simpa using r
theorem s_law_plain_3 (h0 : u ≠ V0) (hu : bv a u) (l : a ≤ 8000) (h : k (vD (pv u)) S) : CT (n + 2) i_law_plain_v5 [vD u] S k X :=
  s_law_plain_w (ns := u.l) (fl_V0.mpr h0) (bd_of hu l) (by simp [T3.l, SZ]) (by rw [pv_l]; exact h)
theorem s_law_plain_6 (h0 : N6 q) (hu : bc a q) (l : a ≤ 8000) (h : k (qD (pc q)) S) : CT (n + 2) i_law_plain_v5 [qD q] S k X :=
  s_law_plain_w (ns := q.l) h0 (bd6_of hu l) (by simp [C6.l, SZ]) (by rw [pc_l]; exact h)
theorem s_law_dot_w (hu : bv a u) (hv : bv b v) (l : a ≤ 400000 ∧ b ≤ 400000) (h : k (.int (dt u v)) S) : CT (n + 1) i_law_dot_v3 [vD u, vD v] S k X := by
  refine c_law_dot_v3 ?_
  have m : ∀ {x y : Int}, bt a x → bt b y → mulOk x y := fun hx hy => mulOk_bt hx hy l
  simp! only [f_law_dot_v3, lc_app', fc_cons, fc_nil, ↓seq_v, ↓seq_f, ↓itm_v, ↓itm_f, ↓asg_v, ↓asg_f, bp_v, bp_f, bps_tv, bps_tf, ↓two_vv, ↓two_vt, ↓two_tv, ↓two_ff, ↓still_v, ↓cut_v, ↓cop_eq_v, ↓cop_ne_v, ↓cop_eq_f, ↓cop_ne_f, inD_n, inD_c, pures_c, pures_n, pure_vT, pure_fT, pure_iT, pure_bT, pure_nT, eq_v, eq_f, Bool.or_false, and_self, ↓tru_v, non_v, non_f, ty_v, ty_f, ta_v, ta_f, ↓bop_vv, ↓bop_6v, ↓cut_9a, ↓cut_9b, ↓cut_9c, tup3, tup2, v_ti, f_ti, zipD, wp_cc, true_and, decide_true, decide_false, eq_self, sz_0, sz_1, sz_2, sz_3, sz_4, sz_5, sz_6, sz_7, sz_8, sz_9, sz_10, sz_11, sz_12, enm_1, enm_2, enm_3, enm_4, enm_5, enm_6, enm_7, enm_8, enm_9, enm_10, len_1, len_2, len_3, len_4, len_5, len_6, len_7, len_8, len_9, len_10]
  refine ⟨m hu.1 hv.1, m hu.2.1 hv.2.1, m hu.2.2 hv.2.2, ?_⟩
  have e2 : ([u.x * v.x, u.y * v.y, u.z * v.z] : List Int).sum = dt u v := by simp [dt, Int.add_assoc]
  show k (.int ([u.x * v.x, u.y * v.y, u.z * v.z] : List Int).sum) S
  rw [e2]
  exact h
theorem s_law_block_w (hu : bv a u) (hv : bv b v) (hw : bv c w) (l : a ≤ 100000 ∧ b ≤ 100000 ∧ c ≤ 100000) (h : k (.int (bk u v w)) S) : CT (n + 2) i_law_block_v3 [vD u, vD v, vD w] S k X := by
  refine c_law_block_v3 ?_
  simp! only [f_law_block_v3]
  refine s_law_cross68 hv hw (by omega) ?_
  exact s_law_dot_w hu (bv_cr hv hw) (by omega) h
theorem s_law_times_w (bb : bm a m) (bu : bv b u) (l : a ≤ 100000 ∧ b ≤ 100000) (h : k (vD (mv m u)) S) : CT (n + 2) i_law_times_v2 [mD m, vD u] S k X := by
  have h1 := bb.1
  have h2 := bb.2.1
  have h3 := bb.2.2
  refine c_law_times_v2 ?_
  simp! only [f_law_times_v2, itm_m, lc_app', fc_cons, fc_nil, ↓seq_v, ↓seq_f, ↓itm_v, ↓itm_f, ↓asg_v, ↓asg_f, bp_v, bp_f, bps_tv, bps_tf, ↓two_vv, ↓two_vt, ↓two_tv, ↓two_ff, ↓still_v, ↓cut_v, ↓cop_eq_v, ↓cop_ne_v, ↓cop_eq_f, ↓cop_ne_f, inD_n, inD_c, pures_c, pures_n, pure_vT, pure_fT, pure_iT, pure_bT, pure_nT, eq_v, eq_f, Bool.or_false, and_self, ↓tru_v, non_v, non_f, ty_v, ty_f, ta_v, ta_f, ↓bop_vv, ↓bop_6v, ↓cut_9a, ↓cut_9b, ↓cut_9c, tup3, tup2, v_ti, f_ti, zipD, wp_cc, true_and, decide_true, decide_false, eq_self, sz_0, sz_1, sz_2, sz_3, sz_4, sz_5, sz_6, sz_7, sz_8, sz_9, sz_10, sz_11, sz_12, enm_1, enm_2, enm_3, enm_4, enm_5, enm_6, enm_7, enm_8, enm_9, enm_10, len_1, len_2, len_3, len_4, len_5, len_6, len_7, len_8, len_9, len_10]
  refine s_law_dot_w h1 bu (by omega) ?_
  refine s_law_dot_w h2 bu (by omega) ?_
  refine s_law_dot_w h3 bu (by omega) ?_
  try walk_at "fx"
  exact h
theorem s_law_turn_w (hm : det m ≠ 0) (bb : bm a m) (bu : bv b u) (hu : u ≠ V0) (l : a + b ≤ 2000) (h : k (vD (pv (mv m u))) S) : CT (n + 3) i_law_turn_v4 [mD m, vD u] S k X := by
  refine c_law_turn_v4 ?_
  simp! only [f_law_turn_v4, ↓seq_v, ↓seq_f, ↓itm_v, ↓itm_f, ↓asg_v, ↓asg_f, bp_v, bp_f, bps_tv, bps_tf, ↓two_vv, ↓two_vt, ↓two_tv, ↓two_ff, ↓still_v, ↓cut_v, ↓cop_eq_v, ↓cop_ne_v, ↓cop_eq_f, ↓cop_ne_f, inD_n, inD_c, pures_c, pures_n, pure_vT, pure_fT, pure_iT, pure_bT, pure_nT, eq_v, eq_f, Bool.or_false, and_self, ↓tru_v, non_v, non_f, ty_v, ty_f, ta_v, ta_f, ↓bop_vv, ↓bop_6v, ↓cut_9a, ↓cut_9b, ↓cut_9c, tup3, tup2, v_ti, f_ti, zipD, wp_cc, true_and, decide_true, decide_false, eq_self, sz_0, sz_1, sz_2, sz_3, sz_4, sz_5, sz_6, sz_7, sz_8, sz_9, sz_10, sz_11, sz_12, enm_1, enm_2, enm_3, enm_4, enm_5, enm_6, enm_7, enm_8, enm_9, enm_10, len_1, len_2, len_3, len_4, len_5, len_6, len_7, len_8, len_9, len_10]
  refine s_law_times_w bb bu (by omega) ?_
  exact s_law_plain_3 (mv_ne hm hu) (bv_mv bb bu) (by omega) h
theorem s_law_adjugate_w (bb : bm a m) (l : a ≤ 100000) (h : k (mD (trp (cof m))) S) : CT (n + 2) i_law_adjugate_v2 [mD m] S k X := by
  have h1 := bb.1
  have h2 := bb.2.1
  have h3 := bb.2.2
  refine c_law_adjugate_v2 ?_
  simp! only [f_law_adjugate_v2, asg_m, ↓seq_v, ↓seq_f, ↓itm_v, ↓itm_f, ↓asg_v, ↓asg_f, bp_v, bp_f, bps_tv, bps_tf, ↓two_vv, ↓two_vt, ↓two_tv, ↓two_ff, ↓still_v, ↓cut_v, ↓cop_eq_v, ↓cop_ne_v, ↓cop_eq_f, ↓cop_ne_f, inD_n, inD_c, pures_c, pures_n, pure_vT, pure_fT, pure_iT, pure_bT, pure_nT, eq_v, eq_f, Bool.or_false, and_self, ↓tru_v, non_v, non_f, ty_v, ty_f, ta_v, ta_f, ↓bop_vv, ↓bop_6v, ↓cut_9a, ↓cut_9b, ↓cut_9c, tup3, tup2, v_ti, f_ti, zipD, wp_cc, true_and, decide_true, decide_false, eq_self, sz_0, sz_1, sz_2, sz_3, sz_4, sz_5, sz_6, sz_7, sz_8, sz_9, sz_10, sz_11, sz_12, enm_1, enm_2, enm_3, enm_4, enm_5, enm_6, enm_7, enm_8, enm_9, enm_10, len_1, len_2, len_3, len_4, len_5, len_6, len_7, len_8, len_9, len_10]
  refine s_law_cross68 h2 h3 (by omega) ?_
  refine s_law_cross68 h3 h1 (by omega) ?_
  refine s_law_cross68 h1 h2 (by omega) ?_
  simp! only [lc_app', fc_cons, fc_nil, ↓seq_v, ↓seq_f, ↓itm_v, ↓itm_f, ↓asg_v, ↓asg_f, bp_v, bp_f, bps_tv, bps_tf, ↓two_vv, ↓two_vt, ↓two_tv, ↓two_ff, ↓still_v, ↓cut_v, ↓cop_eq_v, ↓cop_ne_v, ↓cop_eq_f, ↓cop_ne_f, inD_n, inD_c, pures_c, pures_n, pure_vT, pure_fT, pure_iT, pure_bT, pure_nT, eq_v, eq_f, Bool.or_false, and_self, ↓tru_v, non_v, non_f, ty_v, ty_f, ta_v, ta_f, ↓bop_vv, ↓bop_6v, ↓cut_9a, ↓cut_9b, ↓cut_9c, tup3, tup2, v_ti, f_ti, zipD, wp_cc, true_and, decide_true, decide_false, eq_self, sz_0, sz_1, sz_2, sz_3, sz_4, sz_5, sz_6, sz_7, sz_8, sz_9, sz_10, sz_11, sz_12, enm_1, enm_2, enm_3, enm_4, enm_5, enm_6, enm_7, enm_8, enm_9, enm_10, len_1, len_2, len_3, len_4, len_5, len_6, len_7, len_8, len_9, len_10]
  exact ⟨by decide, h⟩
theorem s_law_table_w (h : k (mD (tb q)) S) : CT (n + 1) i_law_table [qD q] S k X := by
  refine c_law_table ?_
  simp! only [f_law_table, asg_q, ↓seq_v, ↓seq_f, ↓itm_v, ↓itm_f, ↓asg_v, ↓asg_f, bp_v, bp_f, bps_tv, bps_tf, ↓two_vv, ↓two_vt, ↓two_tv, ↓two_ff, ↓still_v, ↓cut_v, ↓cop_eq_v, ↓cop_ne_v, ↓cop_eq_f, ↓cop_ne_f, inD_n, inD_c, pures_c, pures_n, pure_vT, pure_fT, pure_iT, pure_bT, pure_nT, eq_v, eq_f, Bool.or_false, and_self, ↓tru_v, non_v, non_f, ty_v, ty_f, ta_v, ta_f, ↓bop_vv, ↓bop_6v, ↓cut_9a, ↓cut_9b, ↓cut_9c, tup3, tup2, v_ti, f_ti, zipD, wp_cc, true_and, decide_true, decide_false, eq_self, sz_0, sz_1, sz_2, sz_3, sz_4, sz_5, sz_6, sz_7, sz_8, sz_9, sz_10, sz_11, sz_12, enm_1, enm_2, enm_3, enm_4, enm_5, enm_6, enm_7, enm_8, enm_9, enm_10, len_1, len_2, len_3, len_4, len_5, len_6, len_7, len_8, len_9, len_10]
  exact ⟨mulOk_l (by decide) (by decide), mulOk_l (by decide) (by decide), mulOk_l (by decide) (by decide), h⟩
theorem s_law_turned_curve_w (hm : det m ≠ 0) (bb : bm a m) (bq : bc b q) (hq : N6 q) (l : a + b ≤ 1500) (h : k (qD (tn m q)) S) : CT (n + 3) i_law_turned_curve [mD m, qD q] S k X := by
  have ba := bm_trp (bm_cof bb)
  have n0 : N6 (tq (trp (cof m)) q) := tn_n hm hq
  refine c_law_turned_curve ?_
  simp! only [f_law_turned_curve, ↓seq_v, ↓seq_f, ↓itm_v, ↓itm_f, ↓asg_v, ↓asg_f, bp_v, bp_f, bps_tv, bps_tf, ↓two_vv, ↓two_vt, ↓two_tv, ↓two_ff, ↓still_v, ↓cut_v, ↓cop_eq_v, ↓cop_ne_v, ↓cop_eq_f, ↓cop_ne_f, inD_n, inD_c, pures_c, pures_n, pure_vT, pure_fT, pure_iT, pure_bT, pure_nT, eq_v, eq_f, Bool.or_false, and_self, ↓tru_v, non_v, non_f, ty_v, ty_f, ta_v, ta_f, ↓bop_vv, ↓bop_6v, ↓cut_9a, ↓cut_9b, ↓cut_9c, tup3, tup2, v_ti, f_ti, zipD, wp_cc, true_and, decide_true, decide_false, eq_self, sz_0, sz_1, sz_2, sz_3, sz_4, sz_5, sz_6, sz_7, sz_8, sz_9, sz_10, sz_11, sz_12, enm_1, enm_2, enm_3, enm_4, enm_5, enm_6, enm_7, enm_8, enm_9, enm_10, len_1, len_2, len_3, len_4, len_5, len_6, len_7, len_8, len_9, len_10]
  refine s_law_adjugate_w bb (by omega) ?_
  refine s_law_table_w ?_
  unfold tn aj at h
  have bn := bc_tq bq ba
  generalize trp (cof m) = B at *
  obtain ⟨c1, c2, c3⟩ := bm_trp ba
  have bt := bm_tb bq
  simp! only [itm_m, seq_m, lc_app', fc_cons, fc_nil, ↓seq_v, ↓seq_f, ↓itm_v, ↓itm_f, ↓asg_v, ↓asg_f, bp_v, bp_f, bps_tv, bps_tf, ↓two_vv, ↓two_vt, ↓two_tv, ↓two_ff, ↓still_v, ↓cut_v, ↓cop_eq_v, ↓cop_ne_v, ↓cop_eq_f, ↓cop_ne_f, inD_n, inD_c, pures_c, pures_n, pure_vT, pure_fT, pure_iT, pure_bT, pure_nT, eq_v, eq_f, Bool.or_false, and_self, ↓tru_v, non_v, non_f, ty_v, ty_f, ta_v, ta_f, ↓bop_vv, ↓bop_6v, ↓cut_9a, ↓cut_9b, ↓cut_9c, tup3, tup2, v_ti, f_ti, zipD, wp_cc, true_and, decide_true, decide_false, eq_self, sz_0, sz_1, sz_2, sz_3, sz_4, sz_5, sz_6, sz_7, sz_8, sz_9, sz_10, sz_11, sz_12, enm_1, enm_2, enm_3, enm_4, enm_5, enm_6, enm_7, enm_8, enm_9, enm_10, len_1, len_2, len_3, len_4, len_5, len_6, len_7, len_8, len_9, len_10]
  refine ⟨by decide, ?_⟩
  have go : ∀ {u v : T3} {k : D → Store → Prop}, bv (a + a + 1) u → bv (a + a + 1) v → k (.int (bi q u v)) S → CT (n + 2) i_law_times_v2 [mD (tb q), vD v] S (fun d S2 => CT (n + 2) i_law_dot_v3 [vD u, d] S2 k X) X := fun hu hv hk =>
    s_law_times_w bt hv (by omega) (s_law_dot_w hu (bv_mv bt hv) (by omega) hk)
  refine go c1 c1 ?_
  refine go c1 c2 ?_
  refine go c1 c3 ?_
  refine go c2 c1 ?_
  refine go c2 c2 ?_
  refine go c2 c3 ?_
  refine go c3 c1 ?_
  refine go c3 c2 ?_
  refine go c3 c3 ?_
  simp! only [↓ev_v0]
  have ml : ∀ x : Int, mulOk 2 x := fun x => mulOk_l (by decide) (by decide)
  refine ⟨ml _, ml _, ml _, ?_⟩
  have e : (⟨bi q (trp B).a (trp B).a, bi q (trp B).b (trp B).b, bi q (trp B).c (trp B).c, 2 * bi q (trp B).b (trp B).c, 2 * bi q (trp B).a (trp B).c, 2 * bi q (trp B).a (trp B).b⟩ : C6) = cs 2 (tq B q) := by
    rw [bi_self, bi_self, bi_self]; rfl
  have e2 : bc (2 * (a + a + 1) + b + 7) (cs 2 (tq B q)) := by
    have w : ∀ {x : Int}, FV.bt (a + a + 1 + (a + a + 1) + b + 5) x → FV.bt (2 * (a + a + 1) + b + 7) (2 * x) := fun h => bt_mono (bt_dbl h) (by omega)
    exact ⟨w bn.1, w bn.2.1, w bn.2.2.1, w bn.2.2.2.1, w bn.2.2.2.2.1, w bn.2.2.2.2.2⟩
  have fin := s_law_plain_6 (n := n) (S := S) (k := k) (X := X) (q := cs 2 (tq B q)) (a := 2 * (a + a + 1) + b + 7) (n6_cs n0 (by decide)) e2 (by omega) (by rw [pc_cs n0 (by decide)]; exact h)
  rw [← e] at fin
  exact fin
/-! ### the program's own -/
theorem s_table_by_w (h : k (mD (tb q)) S) : CT (n + 1) i_table_by [qD q] S k X := by
  refine c_table_by ?_
  simp! only [f_table_by, asg_q, ↓seq_v, ↓seq_f, ↓itm_v, ↓itm_f, ↓asg_v, ↓asg_f, bp_v, bp_f, bps_tv, bps_tf, ↓two_vv, ↓two_vt, ↓two_tv, ↓two_ff, ↓still_v, ↓cut_v, ↓cop_eq_v, ↓cop_ne_v, ↓cop_eq_f, ↓cop_ne_f, inD_n, inD_c, pures_c, pures_n, pure_vT, pure_fT, pure_iT, pure_bT, pure_nT, eq_v, eq_f, Bool.or_false, and_self, ↓tru_v, non_v, non_f, ty_v, ty_f, ta_v, ta_f, ↓bop_vv, ↓bop_6v, ↓cut_9a, ↓cut_9b, ↓cut_9c, tup3, tup2, v_ti, f_ti, zipD, wp_cc, true_and, decide_true, decide_false, eq_self, sz_0, sz_1, sz_2, sz_3, sz_4, sz_5, sz_6, sz_7, sz_8, sz_9, sz_10, sz_11, sz_12, enm_1, enm_2, enm_3, enm_4, enm_5, enm_6, enm_7, enm_8, enm_9, enm_10, len_1, len_2, len_3, len_4, len_5, len_6, len_7, len_8, len_9, len_10]
  exact ⟨mulOk_l (by decide) (by decide), mulOk_l (by decide) (by decide), mulOk_l (by decide) (by decide), h⟩
theorem s_is_curve_of_w (hp : Pc q) (h : k (.bl true) S) : CT (n + 5) i_is_curve_of [qD q] S k X := by
  refine c_is_curve_of ?_
  simp! only [f_is_curve_of]
  exact s_is_plain (ns := q.l) (by simp [C6.l, SZ]) rfl hp h
theorem s_check_curve_w (hp : Pc q) (h : k .non S) : CT (n + 6) i_check_curve [qD q] S k X := by
  refine c_check_curve ?_
  simp! only [f_check_curve]
  refine s_is_curve_of_w hp ?_
  simp! only [↓ev_v0]
  exact h
theorem s_is_full_by_w (bq : bc a q) (l : a ≤ 90000) (h : k (.bl (!decide (det (tb q) = 0))) S) : CT (n + 3) i_is_full_by [qD q] S k X := by
  refine c_is_full_by ?_
  simp! only [f_is_full_by, ↓seq_v, ↓seq_f, ↓itm_v, ↓itm_f, ↓asg_v, ↓asg_f, bp_v, bp_f, bps_tv, bps_tf, ↓two_vv, ↓two_vt, ↓two_tv, ↓two_ff, ↓still_v, ↓cut_v, ↓cop_eq_v, ↓cop_ne_v, ↓cop_eq_f, ↓cop_ne_f, inD_n, inD_c, pures_c, pures_n, pure_vT, pure_fT, pure_iT, pure_bT, pure_nT, eq_v, eq_f, Bool.or_false, and_self, ↓tru_v, non_v, non_f, ty_v, ty_f, ta_v, ta_f, ↓bop_vv, ↓bop_6v, ↓cut_9a, ↓cut_9b, ↓cut_9c, tup3, tup2, v_ti, f_ti, zipD, wp_cc, true_and, decide_true, decide_false, eq_self, sz_0, sz_1, sz_2, sz_3, sz_4, sz_5, sz_6, sz_7, sz_8, sz_9, sz_10, sz_11, sz_12, enm_1, enm_2, enm_3, enm_4, enm_5, enm_6, enm_7, enm_8, enm_9, enm_10, len_1, len_2, len_3, len_4, len_5, len_6, len_7, len_8, len_9, len_10]
  refine s_table_by_w ?_
  obtain ⟨h1, h2, h3⟩ := bm_tb bq
  simp! only [asg_m]
  refine s_block_v h1 h2 h3 (by omega) ?_
  simp! only [↓ev_v0]
  exact h
def pr6 (u : T3) : C6 := ⟨u.x * u.x, u.y * u.y, u.z * u.z, u.y * u.z, u.x * u.z, u.x * u.y⟩
theorem s_products_of_w (bu : bv b u) (l : b ≤ 100000) (h : k (qD (pr6 u)) S) : CT (n + 1) i_products_of [vD u] S k X := by
  refine c_products_of ?_
  simp! only [f_products_of, ↓seq_v, ↓seq_f, ↓itm_v, ↓itm_f, ↓asg_v, ↓asg_f, bp_v, bp_f, bps_tv, bps_tf, ↓two_vv, ↓two_vt, ↓two_tv, ↓two_ff, ↓still_v, ↓cut_v, ↓cop_eq_v, ↓cop_ne_v, ↓cop_eq_f, ↓cop_ne_f, inD_n, inD_c, pures_c, pures_n, pure_vT, pure_fT, pure_iT, pure_bT, pure_nT, eq_v, eq_f, Bool.or_false, and_self, ↓tru_v, non_v, non_f, ty_v, ty_f, ta_v, ta_f, ↓bop_vv, ↓bop_6v, ↓cut_9a, ↓cut_9b, ↓cut_9c, tup3, tup2, v_ti, f_ti, zipD, wp_cc, true_and, decide_true, decide_false, eq_self, sz_0, sz_1, sz_2, sz_3, sz_4, sz_5, sz_6, sz_7, sz_8, sz_9, sz_10, sz_11, sz_12, enm_1, enm_2, enm_3, enm_4, enm_5, enm_6, enm_7, enm_8, enm_9, enm_10, len_1, len_2, len_3, len_4, len_5, len_6, len_7, len_8, len_9, len_10]
  have mm : ∀ {x y : Int}, bt b x → bt b y → mulOk x y := fun hx hy => mulOk_bt hx hy (by omega)
  exact ⟨mm bu.1 bu.1, mm bu.2.1 bu.2.1, mm bu.2.2 bu.2.2, mm bu.2.1 bu.2.2, mm bu.1 bu.2.2, mm bu.1 bu.2.1, h⟩
theorem s_dot_6 (bq : bc a q) (bu : bv b u) (l : a ≤ 100000 ∧ b ≤ 100000) (h : k (.int (qv q u)) S) : CT (n + 1) i_dot [qD q, qD (pr6 u)] S k X := by
  obtain ⟨b1, b2, b3, b4, b5, b6⟩ := bq
  refine c_dot ?_
  have m2 : ∀ {x y z : Int}, bt a x → bt b y → bt b z → mulOk x (y * z) := fun hx hy hz => mulOk_bt hx (bt_mul hy hz) (by omega)
  simp! only [f_dot, qD, C6.l, pr6, zipD, List.map_cons, List.map_nil, lc_app', fc_cons, fc_nil]
  refine ⟨by simp [SZ], m2 b1 bu.1 bu.1, m2 b2 bu.2.1 bu.2.1, m2 b3 bu.2.2 bu.2.2, m2 b4 bu.2.1 bu.2.2, m2 b5 bu.1 bu.2.2, m2 b6 bu.1 bu.2.1, ?_⟩
  have h' : k (.int (q.a * (u.x * u.x) + q.b * (u.y * u.y) + q.c * (u.z * u.z) + q.d * (u.y * u.z) + q.e * (u.x * u.z) + q.f * (u.x * u.y))) S := h
  rw [← sum6] at h'
  exact h'
theorem s_curve_of_table_w (bq : bc a q) (hq : N6 q) (l : a ≤ 8000) (h : k (qD (pc q)) S) : CT (n + 3) i_curve_of_table [mD (tb q)] S k X := by
  refine c_curve_of_table ?_
  simp! only [f_curve_of_table, itm_m, seq_m, lc_app', fc_cons, fc_nil, ↓seq_v, ↓seq_f, ↓itm_v, ↓itm_f, ↓asg_v, ↓asg_f, bp_v, bp_f, bps_tv, bps_tf, ↓two_vv, ↓two_vt, ↓two_tv, ↓two_ff, ↓still_v, ↓cut_v, ↓cop_eq_v, ↓cop_ne_v, ↓cop_eq_f, ↓cop_ne_f, inD_n, inD_c, pures_c, pures_n, pure_vT, pure_fT, pure_iT, pure_bT, pure_nT, eq_v, eq_f, Bool.or_false, and_self, ↓tru_v, non_v, non_f, ty_v, ty_f, ta_v, ta_f, ↓bop_vv, ↓bop_6v, ↓cut_9a, ↓cut_9b, ↓cut_9c, tup3, tup2, v_ti, f_ti, zipD, wp_cc, true_and, decide_true, decide_false, eq_self, sz_0, sz_1, sz_2, sz_3, sz_4, sz_5, sz_6, sz_7, sz_8, sz_9, sz_10, sz_11, sz_12, enm_1, enm_2, enm_3, enm_4, enm_5, enm_6, enm_7, enm_8, enm_9, enm_10, len_1, len_2, len_3, len_4, len_5, len_6, len_7, len_8, len_9, len_10]
  have d2 : divOk 2 := ⟨by decide, by decide⟩
  have hf : ∀ x : Int, (2 * x).fdiv 2 = x := fun x => by rw [Int.mul_fdiv_cancel_left _ (by decide)]
  refine ⟨by decide, d2, d2, d2, ?_⟩
  simp only [tb, hf]
  exact s_plain_of (ns := q.l) hq (bd6_of bq l) (by simp [C6.l, SZ]) (by rw [pc_l]; exact h)
theorem s_turned_by_w (hm : det m ≠ 0) (bb : bm a m) (bq : bc b q) (hq : N6 q) (l : 4 * a + b ≤ 500) (h : k (qD (tn m q)) S) : CT (n + 4) i_turned_by [mD m, qD q] S k X := by
  have ba := bm_trp (bm_cof bb)
  refine c_turned_by ?_
  simp! only [f_turned_by, ↓seq_v, ↓seq_f, ↓itm_v, ↓itm_f, ↓asg_v, ↓asg_f, bp_v, bp_f, bps_tv, bps_tf, ↓two_vv, ↓two_vt, ↓two_tv, ↓two_ff, ↓still_v, ↓cut_v, ↓cop_eq_v, ↓cop_ne_v, ↓cop_eq_f, ↓cop_ne_f, inD_n, inD_c, pures_c, pures_n, pure_vT, pure_fT, pure_iT, pure_bT, pure_nT, eq_v, eq_f, Bool.or_false, and_self, ↓tru_v, non_v, non_f, ty_v, ty_f, ta_v, ta_f, ↓bop_vv, ↓bop_6v, ↓cut_9a, ↓cut_9b, ↓cut_9c, tup3, tup2, v_ti, f_ti, zipD, wp_cc, true_and, decide_true, decide_false, eq_self, sz_0, sz_1, sz_2, sz_3, sz_4, sz_5, sz_6, sz_7, sz_8, sz_9, sz_10, sz_11, sz_12, enm_1, enm_2, enm_3, enm_4, enm_5, enm_6, enm_7, enm_8, enm_9, enm_10, len_1, len_2, len_3, len_4, len_5, len_6, len_7, len_8, len_9, len_10]
  refine s_adjugate_v bb (by omega) ?_
  try walk_at "fx"
  refine s_turned_table_v ?_
  try walk_at "fx"
  refine s_table_by_w ?_
  refine s_table_of (bm_trp ba) (bm_tb bq) (by omega) ?_
  refine s_table_of (bm_mm (bm_trp ba) (bm_tb bq)) ba (by omega) ?_
  rw [mv_trp_mm]
  exact s_curve_of_table_w (bc_tq bq ba) (tn_n hm hq) (by omega) h
theorem s_turned_curve_w (hm : Vw m) (bb : bm a m) (bq : bc b q) (hq : Pc q) (l : 4 * a + b ≤ 500) (h : k (qD (tn m q)) S) : CT (n + 8) i_turned_curve [mD m, qD q] S k X := by
  refine c_turned_curve ?_
  simp! only [f_turned_curve, ↓seq_v, ↓seq_f, ↓itm_v, ↓itm_f, ↓asg_v, ↓asg_f, bp_v, bp_f, bps_tv, bps_tf, ↓two_vv, ↓two_vt, ↓two_tv, ↓two_ff, ↓still_v, ↓cut_v, ↓cop_eq_v, ↓cop_ne_v, ↓cop_eq_f, ↓cop_ne_f, inD_n, inD_c, pures_c, pures_n, pure_vT, pure_fT, pure_iT, pure_bT, pure_nT, eq_v, eq_f, Bool.or_false, and_self, ↓tru_v, non_v, non_f, ty_v, ty_f, ta_v, ta_f, ↓bop_vv, ↓bop_6v, ↓cut_9a, ↓cut_9b, ↓cut_9c, tup3, tup2, v_ti, f_ti, zipD, wp_cc, true_and, decide_true, decide_false, eq_self, sz_0, sz_1, sz_2, sz_3, sz_4, sz_5, sz_6, sz_7, sz_8, sz_9, sz_10, sz_11, sz_12, enm_1, enm_2, enm_3, enm_4, enm_5, enm_6, enm_7, enm_8, enm_9, enm_10, len_1, len_2, len_3, len_4, len_5, len_6, len_7, len_8, len_9, len_10]
  refine s_check_view_v hm bb (by omega) ?_
  try walk_at "fx"
  refine s_check_curve_w hq ?_
  try walk_at "fx"
  exact s_turned_by_w hm.2 bb bq (pc_n hq) l h
theorem s_law_same_w : ∀ {m : Nat} {d : D} {n : Nat} {S : Store} {k X : D → Store → Prop}, alm m d = true → k (.bl true) S → CT (n + m) i_law_same_v2 [d, d] S k X
  | 0, d, n, S, k, X, h, _ => by simp [alm] at h
  | m + 1, d, n, S, k, X, h, hk => by
    have go : ∀ {N : Nat}, N = n + m → CT (N + 1) i_law_same_v2 [d, d] S k X := by
      rintro N rfl
      refine c_law_same_v2 ?_
      cases d <;> simp only [alm] at h <;> try (cases h; done)
      · simp! only [f_law_same_v2, eqm_b, eqb_self]
        exact ⟨⟨rfl, rfl⟩, hk⟩
      · simp! only [f_law_same_v2, eqm_i, decide_true]
        exact hk
      · simp! only [f_law_same_v2, eqm_s, eqs_self]
        exact ⟨⟨h, h⟩, hk⟩
      · rename_i ds
        rw [Bool.and_eq_true, decide_eq_true_eq] at h
        simp! only [f_law_same_v2, decide_true, zip_self, List.length_map]
        refine ⟨by unfold SZ; omega, fcF3 (f := fun _ => .bl true) (fun d hd k2 a2 => ?_) ?_⟩
        · simp! only [lc_app']
          exact s_law_same_w (List.all_eq_true.mp h.2 d hd) a2
        · rw [bls_c]
          simp! only [↓ev_v0]
          rw [all_c]
          exact hk
    exact go rfl
theorem s_law_same_we {d e : D} (he : d = e) {m : Nat} (h : alm m d = true) (hk : k (.bl true) S) : CT (n + m) i_law_same_v2 [d, e] S k X := by
  subst he
  exact s_law_same_w h hk
end
end FV
set_option Elab.async false
set_option linter.all false
set_option maxRecDepth 100000
/-! Wc: the points that a round draws: on one curve, all unlike. -/
namespace FV
/-- the point of a round curve at s to t -/
def cv (p : Int × Int) : T3 := ⟨p.1 * p.1, p.1 * p.2, p.2 * p.2⟩
def pw (w : M3) (p : Int × Int) : T3 := pv (mv w (cv p))
def Q0 : C6 := ⟨0, 1, 0, 0, -1, 0⟩
theorem bc_Q0 : bc 1 Q0 := by unfold bc; decide
theorem n6_Q0 : N6 Q0 := by unfold N6; decide
theorem qv_cv {p : Int × Int} : qv Q0 (cv p) = 0 := by
  simp only [qv, Q0, cv]; grind
theorem cv_ne {p : Int × Int} (h : p.2 ≠ 0) : cv p ≠ V0 := fun e => by
  have := congrArg T3.z e
  exact Int.mul_ne_zero h h this
theorem pw_inj {w : M3} {p q : Int × Int} (hw : det w ≠ 0) (hp : p.2 ≠ 0) (hq : q.2 ≠ 0) (e : pw w p = pw w q) : p.1 * q.2 = q.1 * p.2 := by
  have h1 := (pv_eq (mv_ne hw (cv_ne hp)) (mv_ne hw (cv_ne hq))).mp e
  rw [mv_cr] at h1
  have h2 : cr (cv p) (cv q) = V0 := Classical.byContradiction fun z => mv_ne (by rw [det_cof]; exact Int.mul_ne_zero hw hw) z h1
  have h3 := congrArg T3.x h2
  simp only [cr, cv, V0] at h3
  have h4 : (p.2 * q.2) * (p.1 * q.2 - q.1 * p.2) = 0 := by rw [← h3]; grind
  have := (Int.mul_eq_zero.mp h4).resolve_left (Int.mul_ne_zero hp hq)
  omega
/-- what a round gives -/
structure Rn (many : Nat) (w : M3) (ps : List (Int × Int)) : Prop where
  vw : Vw w
  len : ps.length = many
  t0 : ∀ p ∈ ps, 1 ≤ p.2 ∧ p.2 ≤ 3
  s0 : ∀ p ∈ ps, -20 ≤ p.1 ∧ p.1 ≤ 40
  un : ps.Pairwise fun p q => pw w p ≠ pw w q
structure Rl (b : Int) (w : M3) (ps : List (Int × Int)) : Prop where
  t0 : ∀ p ∈ ps, 1 ≤ p.2 ∧ p.2 ≤ 3
  s0 : ∀ p ∈ ps, -20 ≤ p.1 ∧ p.1 < b
  un : ps.Pairwise fun p q => pw w p ≠ pw w q
theorem Rl.nil {b : Int} {w : M3} : Rl b w [] := ⟨by simp, by simp, .nil⟩
theorem Rl.mono {b c : Int} {w : M3} {ps : List (Int × Int)} (h : Rl b w ps) (l : b ≤ c) : Rl c w ps := ⟨h.t0, fun p hp => ⟨(h.s0 p hp).1, by have := (h.s0 p hp).2; omega⟩, h.un⟩
theorem Rl.app {b : Int} {w : M3} {ps : List (Int × Int)} {x : Int × Int} (h : Rl b w ps) (ht : 1 ≤ x.2 ∧ x.2 ≤ 3) (hs : -20 ≤ x.1 ∧ x.1 < b) (hn : ∀ p ∈ ps, pw w p ≠ pw w x) : Rl b w (ps ++ [x]) := by
  refine ⟨fun p hp => ?_, fun p hp => ?_, ?_⟩
  · rcases List.mem_append.mp hp with z | z
    · exact h.t0 p z
    · rw [List.mem_singleton.mp z]; exact ht
  · rcases List.mem_append.mp hp with z | z
    · exact h.s0 p z
    · rw [List.mem_singleton.mp z]; exact hs
  · rw [List.pairwise_append]
    refine ⟨h.un, List.pairwise_singleton _ _, fun p hp q hq => ?_⟩
    rw [List.mem_singleton.mp hq]
    exact hn p hp
theorem Rl.rn {b : Int} {w : M3} {ps qs : List (Int × Int)} {many : Nat} (h : Rl b w ps) (hw : Vw w) (hb : b ≤ 41) (p : qs.Perm ps) (hl : ps.length = many) : Rn many w qs :=
  ⟨hw, by rw [p.length_eq, hl], fun x hx => h.t0 x (p.mem_iff.mp hx), fun x hx => by have := h.s0 x (p.mem_iff.mp hx); omega, p.symm.pairwise h.un fun h => Ne.symm h⟩
theorem bv_cv {p : Int × Int} (h : 1 ≤ p.2 ∧ p.2 ≤ 3) (g : -20 ≤ p.1 ∧ p.1 ≤ 40) : bv 12 (cv p) := by
  have h1 : bt 6 p.1 := by unfold bt; omega
  have h2 : bt 6 p.2 := by unfold bt; omega
  exact ⟨bt_mul h1 h1, bt_mul h1 h2, bt_mul h2 h2⟩
theorem mem_rngI : ∀ {n : Nat} {lo : Int} {d : D}, d ∈ rngI lo n → ∃ i, d = .int i
  | 0, _, _, h => by cases h
  | n + 1, lo, d, h => by
    have h : d ∈ D.int lo :: rngI (lo + 1) n := h
    rcases List.mem_cons.mp h with z | z
    · exact ⟨_, z⟩
    · exact mem_rngI z
theorem rws_v : ∀ {us : List T3}, rws? (us.map vD) = some (us.map T3.l)
  | [] => rfl
  | u :: us => by
    have := rws_v (us := us)
    show (rws? (us.map vD)).map (u.l :: ·) = _
    rw [this]; rfl
theorem same_v : ∀ {us : List T3}, sameN (us.map T3.l) = true
  | [] => rfl
  | u :: us => by
    show (decide (u.l.length ≠ 0) && (us.map T3.l).all fun q => decide (q.length = u.l.length)) = true
    rw [Bool.and_eq_true, List.all_eq_true]
    refine ⟨by simp [T3.l], fun q hq => ?_⟩
    obtain ⟨v, _, rfl⟩ := List.mem_map.mp hq
    simp [T3.l]
theorem perm_map {α β : Type} {f : α → β} {xs ys : List β} (h : xs.Perm ys) : ∀ {zs : List α}, ys = zs.map f → ∃ ws : List α, xs = ws.map f ∧ ws.Perm zs := by
  induction h with
  | nil => intro zs e; cases zs with
    | nil => exact ⟨[], rfl, .nil⟩
    | cons z zs => cases e
  | cons x _ ih => intro zs e; cases zs with
    | nil => cases e
    | cons z zs =>
      rw [List.map_cons, List.cons.injEq] at e
      obtain ⟨ws, e1, p1⟩ := ih e.2
      exact ⟨z :: ws, by rw [List.map_cons, e1, e.1], p1.cons z⟩
  | swap x y l => intro zs e; cases zs with
    | nil => cases e
    | cons z zs => cases zs with
      | nil => cases e
      | cons z2 zs =>
        simp only [List.map_cons, List.cons.injEq] at e
        exact ⟨z2 :: z :: zs, by simp only [List.map_cons]; rw [e.1, e.2.1, e.2.2], .swap z z2 zs⟩
  | trans _ _ ih1 ih2 => intro zs e
                         obtain ⟨ws, e1, p1⟩ := ih2 e
                         obtain ⟨vs, e2, p2⟩ := ih1 e1
                         exact ⟨vs, e2, p2.trans p1⟩
theorem putD_v {us : List T3} {u : T3} {k : List D → Prop} (hz : us.length < SZ) (h1 : u ∈ us → k (us.map vD)) (h2 : u ∉ us → k ((us ++ [u]).map vD)) : putD (us.map vD) (vD u) k := by
  have hm : u.l ∈ us.map T3.l ↔ u ∈ us := ⟨fun h => by
    obtain ⟨v, hv, e⟩ := List.mem_map.mp h
    rw [← l_inj e]; exact hv, fun h => List.mem_map_of_mem h⟩
  have e1 : putD (us.map vD) (vD u) k = ((us.map T3.l).length < SZ ∧ k (if u.l ∈ us.map T3.l then us.map vD else us.map vD ++ [vD u])) := by
    unfold putD
    rw [rws_v]
    rfl
  rw [e1]
  refine ⟨by rw [List.length_map]; exact hz, ?_⟩
  by_cases q : u ∈ us
  · rw [if_pos (hm.mpr q)]; exact h1 q
  · rw [if_neg fun z => q (hm.mp z)]
    have := h2 q
    rwa [List.map_append] at this
theorem rows_v {us : List T3} {k : List D → Prop} (h : ∀ vs : List T3, vs.Perm us → k (vs.map vD)) : rowsS (us.map vD) k := by
  unfold rowsS
  rw [rws_v]
  refine ⟨same_v, fun rs' p _ => ?_⟩
  obtain ⟨ws, e, pw⟩ := perm_map p (zs := us) (f := T3.l) rfl
  subst e
  rw [List.map_map]
  exact h ws pw
theorem perm_w {w : M3} {ps : List (Int × Int)} {vs : List T3} (h : vs.Perm (ps.map (pw w))) : ∃ qs : List (Int × Int), vs = qs.map (pw w) ∧ qs.Perm ps := perm_map h rfl
theorem erase_m {α β : Type} {f : α → β} : ∀ {xs : List α} {i : Nat}, (xs.map f).eraseIdx i = (xs.eraseIdx i).map f
  | [], _ => rfl
  | _ :: _, 0 => rfl
  | x :: xs, i + 1 => by
    show f x :: (xs.map f).eraseIdx i = f x :: (xs.eraseIdx i).map f
    rw [erase_m]
theorem erase_p {α : Type} : ∀ {xs : List α} {i : Nat} {x : α}, xs[i]? = some x → (x :: xs.eraseIdx i).Perm xs
  | [], _, _, h => by cases h
  | y :: ys, 0, x, h => by
    have : y = x := by simpa using h
    subst this
    exact List.Perm.refl _
  | y :: ys, i + 1, x, h => by
    have := erase_p (xs := ys) (i := i) (x := x) (by simpa using h)
    exact (List.Perm.swap y x _).trans (this.cons y)
theorem popD_m {α : Type} {f : α → D} {xs : List α} {j : Int} {k : D → List D → Prop} (h0 : 0 ≤ j) (h1 : j < xs.length) (hz : xs.length < 1000) (h : ∀ x ys, (x :: ys).Perm xs → k (f x) (ys.map f)) : popD (xs.map f) j k := by
  have hj : j.toNat < xs.length := by omega
  refine ⟨⟨h0, by omega⟩, ?_⟩
  rw [List.getElem?_map, List.getElem?_eq_getElem hj]
  show k (f xs[j.toNat]) ((xs.map f).eraseIdx j.toNat)
  rw [erase_m]
  exact h _ _ (erase_p (List.getElem?_eq_getElem hj))
end FV
set_option Elab.async false
set_option linter.all false
set_option maxRecDepth 100000
/-! T_k76: the draws of k76 (written by clonew.py). -/
namespace FV
section
variable {n : Nat} {S : Store} {k X : D → Store → Prop}
theorem s_law_below76 {l : Nat} {m : Int} (hp : Pl S l) (hm : 0 < m) (hm2 : m.natAbs < 2 ^ 8000) (h : ∀ (r : Int) (S' : Store), 0 ≤ r → r < m → Dr l S S' → k (.int r) S') : CT (n + 1) i_law_below_v10 [.ref l, .int m] S k X := by
  obtain ⟨a, b, c, e⟩ := hp
  refine c_law_below_v10 ?_
  simp! only [f_law_below_v10, e, nth3_0, nth3_1, nth3_2]
  refine brk_i (fun hb => ?_) fun hb => ?_
  · refine ⟨⟨hm, by omega, hm2⟩, rfl, in3 (by decide) (by decide), ?_⟩
    simp only [set3_0]
    exact h _ _ (Int.emod_nonneg _ (by omega)) (Int.emod_lt_of_pos _ hm) ⟨by rw [List.length_set], ⟨_, _, _, cl_set e⟩, fun j hj => cl_ne hj⟩
  · refine ⟨in3 (by decide) (by decide), ?_⟩
    simp! only [set3_2, cl_set e, nth3_0, nth3_1, nth3_2]
    have e2 := cl_set (ds := [.int a, .int b, .int (c + 1)]) e
    simp! only [set3_1, cl_set e2, nth3_0, nth3_1, nth3_2]
    have q1 := fmod_lt (a := (b * 47117 + 8175 * (c + 1) + 71).fmod 2147483563) (b := 3989) (by decide)
    refine ⟨mulOk_r (by decide) (by decide), mulOk_l (by decide) (by decide), by decide, by decide, mulOk_r (by omega) (by omega), by decide, in3 (by decide) (by decide), ⟨by decide, by decide⟩, by omega, ?_⟩
    have q := fmod_lt (a := ((((b * 47117 + 8175 * (c + 1) + 71).fmod 2147483563 * (((b * 47117 + 8175 * (c + 1) + 71).fmod 2147483563).fmod 3989 + 13093) + (c + 1)).fmod 2147483563).fdiv 359)) hm
    exact h _ _ q.1 q.2 ⟨by rw [List.length_set, List.length_set], ⟨_, _, _, cl_set e2⟩, fun j hj => (cl_ne hj).trans (cl_ne hj)⟩
theorem s_law_one76 {l : Nat} {ds : List D} (hp : Pl S l) (h0 : ds ≠ []) (hz : ds.length ≤ 1000) (h : ∀ (d : D) (S' : Store), d ∈ ds → Dr l S S' → k d S') : CT (n + 2) i_law_one_v10 [.ref l, .tup ds] S k X := by
  refine c_law_one_v10 ?_
  have hl : 0 < ds.length := List.length_pos_iff.mpr h0
  have hb : ((ds.length : Int)).natAbs < 2 ^ 8000 := by
    have : ((ds.length : Int)).natAbs ≤ 1000 := by omega
    exact Nat.lt_of_le_of_lt this (by decide +kernel)
  simp! only [f_law_one_v10]
  refine s_law_below76 hp (by omega) hb fun r S' r0 r1 dr => ?_
  obtain ⟨x, e, hx⟩ := nth_mem (ds := ds) r0 r1
  simp! only [e]
  exact h x S' hx dr
theorem s_law_oneI76 {l : Nat} {ns : List Int} (hp : Pl S l) (h0 : ns ≠ []) (hz : ns.length ≤ 1000) (h : ∀ (i : Int) (S' : Store), i ∈ ns → Dr l S S' → k (.int i) S') : CT (n + 2) i_law_one_v10 [.ref l, ti ns] S k X :=
  s_law_one76 (ds := ns.map D.int) hp (by simpa using h0) (by simpa using hz) fun d S' hd dr => by
    obtain ⟨i, hi, rfl⟩ := List.mem_map.mp hd
    exact h i S' hi dr
theorem s_law_point76 {l b : Nat} {w : Int} (hp : Pl S l) (h0 : 1 ≤ w) (hw : w < 2 ^ b) (l1 : 1 ≤ b ∧ b ≤ 50) (h : ∀ (u : T3) (S' : Store), Pr u → bv b u → Dr l S S' → k (vD u) S') : CT (n + 3) i_law_point_v8 [.ref l, .int w] S k X := by
  refine c_law_point_v8 ?_
  simp! only [f_law_point_v8]
  refine ⟨by decide, by decide, ?_⟩
  have h60 : (2 : Int) ^ b ≤ 2 ^ 50 := by exact_mod_cast Nat.pow_le_pow_right (by decide) l1.2
  have h61 : (2 : Int) ^ 50 = 1125899906842624 := by decide
  have hm : (2 * w + 1).natAbs < 2 ^ 8000 := Nat.lt_of_lt_of_le (show (2 * w + 1).natAbs < 2 ^ 52 by omega) (Nat.pow_le_pow_right (by decide) (by decide))
  have hb : ∀ {r : Int}, 0 ≤ r → r < 2 * w + 1 → bt b (r - w) := fun h1 h2 => bt_lt (by omega) (by omega)
  simp! only [lc_app', fc_cons, fc_nil]
  refine ⟨mulOk_l (by decide) (by decide), ?_⟩
  refine s_law_below76 hp (by omega) hm fun r1 S1 a1 c1 d1 => ?_
  simp! only [↓ev_v0]
  refine ⟨mulOk_l (by decide) (by decide), ?_⟩
  refine s_law_below76 d1.pl (by omega) hm fun r2 S2 a2 c2 d2 => ?_
  simp! only [↓ev_v0]
  refine ⟨mulOk_l (by decide) (by decide), ?_⟩
  refine s_law_below76 d2.pl (by omega) hm fun r3 S3 a3 c3 d3 => ?_
  have dd := (d1.trans d2).trans d3
  have bu : bv b ⟨r1 - w, r2 - w, r3 - w⟩ := ⟨hb a1 c1, hb a2 c2, hb a3 c3⟩
  simp! only [tup3]
  generalize (⟨r1 - w, r2 - w, r3 - w⟩ : T3) = u at bu
  rw [v_ti, any_vw]
  simp! only [↓ev_v0]
  refine brk_i (fun q => ?_) fun q => ?_
  · have u0 : u ≠ V0 := by simpa using q
    exact s_law_plain_3 u0 bu (by omega) (h _ _ (pv_pr u0) (bv_pv bu) dd)
  · refine h ⟨1, 0, 0⟩ _ (by decide) ?_ dd
    have : bt b 1 := bt_mono (show bt 1 1 by decide) l1.1
    have z : bt b 0 := bt_mono (show bt 1 0 by decide) l1.1
    exact ⟨this, z, z⟩
theorem s_law_view76 {l b : Nat} {w : Int} (hp : Pl S l) (h0 : 1 ≤ w) (hw : w < 2 ^ b) (l1 : 1 ≤ b ∧ b ≤ 50) (h : ∀ (m : M3) (S' : Store), Vw m → bm b m → Dr l S S' → k (mD m) S') : CT (n + 4) i_law_view_v10 [.ref l, .int w] S k X := by
  refine c_law_view_v10 ?_
  simp! only [f_law_view_v10]
  refine ⟨by decide, ?_⟩
  refine forW_inv (I := fun ds σ S' => Dr l S S' ∧ ∃ x2 x3 x4 x5 : Option D, σ = [some (.ref l), some (.int w), x2, x3, x4, x5]) ⟨.refl hp, _, _, _, _, rfl⟩ ?_ ?_
  · rintro d ds σ S' ⟨dr, x2, x3, x4, x5, rfl⟩
    refine ⟨_, rfl, fun K hK => ?_⟩
    simp! only [blk_app]
    refine ⟨by decide, by decide, ?_⟩
    simp! only [lc_app', fc_cons, fc_nil]
    refine s_law_point76 dr.pl h0 hw l1 fun u S1 pu bu d1 => ?_
    refine s_law_point76 d1.pl h0 hw l1 fun v S2 pv bv d2 => ?_
    refine s_law_point76 d2.pl h0 hw l1 fun x S3 px bx d3 => ?_
    have dd := ((dr.trans d1).trans d2).trans d3
    refine s_law_block_w bu bv bx (by omega) ?_
    simp! only [↓ev_v0]
    refine brk_i (fun q => ?_) fun q => hK _ _ ⟨dd, _, _, _, _, rfl⟩
    have q2 : ¬ bk u v x = 0 := by simpa using q
    have hd : det ⟨u, v, x⟩ ≠ 0 := q2
    have bb : bm b ⟨u, v, x⟩ := ⟨bu, bv, bx⟩
    simp! only [↓seq_v, ↓seq_f, ↓itm_v, ↓itm_f, ↓asg_v, ↓asg_f, bp_v, bp_f, bps_tv, bps_tf, ↓two_vv, ↓two_vt, ↓two_tv, ↓two_ff, ↓still_v, ↓cut_v, ↓cop_eq_v, ↓cop_ne_v, ↓cop_eq_f, ↓cop_ne_f, inD_n, inD_c, pures_c, pures_n, pure_vT, pure_fT, pure_iT, pure_bT, pure_nT, eq_v, eq_f, Bool.or_false, and_self, ↓tru_v, non_v, non_f, ty_v, ty_f, ta_v, ta_f, ↓bop_vv, ↓bop_6v, ↓cut_9a, ↓cut_9b, ↓cut_9c, tup3, tup2, v_ti, f_ti, zipD, wp_cc, true_and, decide_true, decide_false, eq_self, sz_0, sz_1, sz_2, sz_3, sz_4, sz_5, sz_6, sz_7, sz_8, sz_9, sz_10, sz_11, sz_12, enm_1, enm_2, enm_3, enm_4, enm_5, enm_6, enm_7, enm_8, enm_9, enm_10, len_1, len_2, len_3, len_4, len_5, len_6, len_7, len_8, len_9, len_10]
    refine s_law_plain_w (ns := M3.l ⟨u, v, x⟩) (fl_det hd) (bd9_of bb (by omega)) (by simp [M3.l, SZ]) ?_
    rw [pm_l]
    simp! only [M3.l, ↓seq_v, ↓seq_f, ↓itm_v, ↓itm_f, ↓asg_v, ↓asg_f, bp_v, bp_f, bps_tv, bps_tf, ↓two_vv, ↓two_vt, ↓two_tv, ↓two_ff, ↓still_v, ↓cut_v, ↓cop_eq_v, ↓cop_ne_v, ↓cop_eq_f, ↓cop_ne_f, inD_n, inD_c, pures_c, pures_n, pure_vT, pure_fT, pure_iT, pure_bT, pure_nT, eq_v, eq_f, Bool.or_false, and_self, ↓tru_v, non_v, non_f, ty_v, ty_f, ta_v, ta_f, ↓bop_vv, ↓bop_6v, ↓cut_9a, ↓cut_9b, ↓cut_9c, tup3, tup2, v_ti, f_ti, zipD, wp_cc, true_and, decide_true, decide_false, eq_self, sz_0, sz_1, sz_2, sz_3, sz_4, sz_5, sz_6, sz_7, sz_8, sz_9, sz_10, sz_11, sz_12, enm_1, enm_2, enm_3, enm_4, enm_5, enm_6, enm_7, enm_8, enm_9, enm_10, len_1, len_2, len_3, len_4, len_5, len_6, len_7, len_8, len_9, len_10]
    exact h _ _ (pm_vw hd) (bm_pm bb hd) dd
  · rintro σ S' ⟨dr, x2, x3, x4, x5, rfl⟩
    simp! only [↓seq_v, ↓seq_f, ↓itm_v, ↓itm_f, ↓asg_v, ↓asg_f, bp_v, bp_f, bps_tv, bps_tf, ↓two_vv, ↓two_vt, ↓two_tv, ↓two_ff, ↓still_v, ↓cut_v, ↓cop_eq_v, ↓cop_ne_v, ↓cop_eq_f, ↓cop_ne_f, inD_n, inD_c, pures_c, pures_n, pure_vT, pure_fT, pure_iT, pure_bT, pure_nT, eq_v, eq_f, Bool.or_false, and_self, ↓tru_v, non_v, non_f, ty_v, ty_f, ta_v, ta_f, ↓bop_vv, ↓bop_6v, ↓cut_9a, ↓cut_9b, ↓cut_9c, tup3, tup2, v_ti, f_ti, zipD, wp_cc, true_and, decide_true, decide_false, eq_self, sz_0, sz_1, sz_2, sz_3, sz_4, sz_5, sz_6, sz_7, sz_8, sz_9, sz_10, sz_11, sz_12, enm_1, enm_2, enm_3, enm_4, enm_5, enm_6, enm_7, enm_8, enm_9, enm_10, len_1, len_2, len_3, len_4, len_5, len_6, len_7, len_8, len_9, len_10]
    have h1 : bt b 1 := bt_mono (show bt 1 1 by decide) l1.1
    have z : bt b 0 := bt_mono (show bt 1 0 by decide) l1.1
    exact h Id3 S' (by decide) ⟨⟨h1, z, z⟩, ⟨z, h1, z⟩, ⟨z, z, h1⟩⟩ dr
theorem s_law_round76 {l b : Nat} {w : Int} {many : Nat} (hp : Pl S l) (hm : many = 3 ∨ many = 4 ∨ many = 5 ∨ many = 6) (h0 : 1 ≤ w) (hw : w < 2 ^ b) (l1 : 1 ≤ b ∧ b ≤ 50) (h : ∀ (m : M3) (ps : List (Int × Int)) (S' : Store), Rn many m ps → bm b m → Pl S' l → k (.tup [qD (tn m Q0), .tup (ps.map fun p => vD (pw m p))]) S') : CT (n + 6) i_law_round_v4 [.ref l, .int many, .int w] S k X := by
  refine c_law_round_v4 ?_
  simp! only [f_law_round_v4]
  refine s_law_view76 hp h0 hw l1 fun m S1 vm b1 d1 => ?_
  have hl : l < S1.length := by
    obtain ⟨_, _, _, e⟩ := d1.pl
    exact cl_lt e
  have p1 : Pl (S1 ++ [[]]) l := d1.pl.gw .one
  have c1 : cl (S1 ++ [[]]) S1.length = some (([].map (pw m)).map vD) := cl_new
  have cn : S1.length ≠ l := by omega
  generalize S1 ++ [[]] = S2 at p1 c1
  generalize S1.length = c at c1 cn
  clear hl
  have m20 : many ≤ 6 := by omega
  have m3 : 3 ≤ many := by omega
  refine ⟨mulOk_l (by decide) (by decide), by omega, ?_⟩
  refine forW_inv (I := fun ds σ S' => Pl S' l ∧ (∃ ps : List (Int × Int), cl S' c = some ((ps.map (pw m)).map vD) ∧ Rl 20 m ps ∧ ps.length ≤ many) ∧ ∃ x5 x6 x7 x8 x9 : Option D, σ = [some (.ref l), some (.int many), some (.int w), some (mD m), some (.dre c), x5, x6, x7, x8, x9]) ⟨p1, ⟨[], c1, Rl.nil, by simp⟩, _, _, _, _, _, rfl⟩ ?_ ?_
  · rintro d ds σ S' ⟨hp1, ⟨ps, hc, hr, hz⟩, x5, x6, x7, x8, x9, rfl⟩
    refine ⟨_, rfl, fun K hK => ?_⟩
    simp! only [blk_app]
    refine ⟨mulOk_l (by decide) (by decide), ?_⟩
    refine s_law_below76 hp1 (by omega) (Nat.lt_of_lt_of_le (show _ < 2 ^ 52 by omega) (Nat.pow_le_pow_right (by decide) (by decide))) fun s S3 s0 s1 d3 => ?_
    simp! only [↓ev_v0]
    refine s_law_oneI76 d3.pl (by simp) (by simp) fun t S4 ht d4 => ?_
    have hc4 : cl S4 c = some ((ps.map (pw m)).map vD) := by rw [d4.fr c cn, d3.fr c cn]; exact hc
    simp! only [hc4, List.length_map]
    have ht1 : 1 ≤ t ∧ t ≤ 3 := by
      simp only [List.mem_cons, List.not_mem_nil, or_false] at ht
      omega
    refine brk_i (fun q => ?_) fun q => hK _ _ ⟨d4.pl, ⟨ps, hc4, hr, hz⟩, _, _, _, _, _, rfl⟩
    have q := of_decide_eq_true q
    have ms : ∀ x y : Int, (-100 < x ∧ x < 100) → mulOk x y := fun x y h => mulOk_l (by omega) (by omega)
    refine ⟨by trivial, ms _ _ (by omega), ms _ _ (by omega), ms _ _ (by omega), ?_⟩
    have tn0 : (s - (many : Int), t).2 ≠ 0 := by show t ≠ 0; omega
    have bs : -20 ≤ (s - (many : Int), t).1 ∧ (s - (many : Int), t).1 < 20 := by show -20 ≤ s - (many : Int) ∧ s - (many : Int) < 20; omega
    refine s_law_turn_w (u := cv (s - (many : Int), t)) vm.2 b1 (bv_cv ht1 ⟨bs.1, by omega⟩) (cv_ne tn0) (by omega) ?_
    simp! only [hc4]
    have out : ∀ {ps' : List (Int × Int)}, Rl 20 m ps' → ps'.length ≤ many → K [some (.ref l), some (.int many), some (.int w), some (mD m), some (.dre c), some d, some (.int (s - (many : Int))), some (.int t), x8, x9] (S4.set c ((ps'.map (pw m)).map vD)) := fun hr' hz' =>
      hK _ _ ⟨by obtain ⟨x, y, z, e⟩ := d4.pl; exact ⟨x, y, z, by rw [cl_ne cn.symm]; exact e⟩, ⟨_, cl_set hc4, hr', hz'⟩, _, _, _, _, _, rfl⟩
    refine putD_v (by rw [List.length_map]; unfold SZ; omega) (fun _ => out hr hz) fun hu => ?_
    have e : ps.map (pw m) ++ [pv (mv m (cv (s - (many : Int), t)))] = (ps ++ [(s - (many : Int), t)]).map (pw m) := by rw [List.map_append]; rfl
    rw [e]
    refine out (hr.app ht1 bs fun p hp e => hu (List.mem_map.mpr ⟨p, hp, e⟩)) ?_
    rw [List.length_append, List.length_singleton]; omega
  · rintro σ S' ⟨hp1, ⟨ps, hc, hr, hz⟩, x5, x6, x7, x8, x9, rfl⟩
    simp! only [hc, List.length_map]
    refine ⟨⟨by decide, by omega⟩, ?_⟩
    have en : (20 + (many : Int) - (ps.length : Int) - 20).toNat = many - ps.length := by omega
    rw [en]
    refine forW_inv (I := fun ds σ S' => Pl S' l ∧ (∃ (i rem : Nat) (ps : List (Int × Int)), ds = rngI (20 + i) rem ∧ ps.length + rem = many ∧ i + rem ≤ 6 ∧ cl S' c = some ((ps.map (pw m)).map vD) ∧ Rl (20 + i) m ps) ∧ ∃ x5 x6 x7 x8 x9 : Option D, σ = [some (.ref l), some (.int many), some (.int w), some (mD m), some (.dre c), x5, x6, x7, x8, x9]) ⟨hp1, ⟨0, many - ps.length, ps, rfl, by omega, by omega, hc, hr⟩, _, _, _, _, _, rfl⟩ ?_ ?_
    · rintro d ds σ S' ⟨hp1, ⟨i, rem, ps, ed, el, er, hc, hr⟩, x5, x6, x7, x8, x9, rfl⟩
      cases rem with
      | zero => cases ed
      | succ rem =>
        have ed1 : d = .int (20 + i) := by injection ed
        have ed2 : ds = rngI (20 + i + 1) rem := by injection ed
        subst ed1
        refine ⟨_, rfl, fun K hK => ?_⟩
        simp! only [blk_app]
        have ms : ∀ x y : Int, (-100 < x ∧ x < 100) → mulOk x y := fun x y h => mulOk_l (by omega) (by omega)
        refine ⟨by trivial, ms _ _ (by omega), ?_⟩
        have bs : -20 ≤ ((20 + i : Int), (1 : Int)).1 ∧ ((20 + i : Int), (1 : Int)).1 ≤ 40 := by show -20 ≤ (20 + i : Int) ∧ (20 + i : Int) ≤ 40; omega
        have ec : (⟨(20 + i) * (20 + i), 20 + i, 1⟩ : T3) = cv ((20 + i : Int), (1 : Int)) := by simp only [cv, Int.mul_one]
        rw [v_ti, ec]
        refine s_law_turn_w (u := cv ((20 + i : Int), (1 : Int))) vm.2 b1 (bv_cv (show 1 ≤ (1 : Int) ∧ (1 : Int) ≤ 3 by decide) bs) (cv_ne (show (1 : Int) ≠ 0 by decide)) (by omega) ?_
        simp! only [hc]
        have new : ∀ p ∈ ps, pw m p ≠ pw m ((20 + i : Int), (1 : Int)) := fun p hp e => by
          have h1 := hr.t0 p hp
          have h2 := hr.s0 p hp
          have := pw_inj vm.2 (by omega) (show (1 : Int) ≠ 0 by decide) e
          have e3 : p.1 * 1 = (20 + (i : Int)) * p.2 := this
          have h4 : (20 + (i : Int)) * 1 ≤ (20 + (i : Int)) * p.2 := Int.mul_le_mul_of_nonneg_left h1.1 (by omega)
          omega
        refine putD_v (by rw [List.length_map]; unfold SZ; omega) (fun hu => ?_) fun hu => ?_
        · obtain ⟨p, hp, e⟩ := List.mem_map.mp hu
          exact absurd e (new p hp)
        · have e : ps.map (pw m) ++ [pv (mv m (cv ((20 + i : Int), (1 : Int))))] = (ps ++ [((20 + i : Int), (1 : Int))]).map (pw m) := by rw [List.map_append]; rfl
          rw [e]
          refine hK _ _ ⟨by obtain ⟨x, y, z, e⟩ := hp1; exact ⟨x, y, z, by rw [cl_ne cn.symm]; exact e⟩, ⟨i + 1, rem, _, by rw [ed2]; congr 1, ?_, by omega, cl_set hc, ?_⟩, _, _, _, _, _, rfl⟩
          · rw [List.length_append, List.length_singleton]; omega
          · exact (hr.mono (by omega)).app (show 1 ≤ (1 : Int) ∧ (1 : Int) ≤ 3 by decide) ⟨bs.1, show (20 + i : Int) < 20 + ((i + 1 : Nat) : Int) by omega⟩ new
    · rintro σ S' ⟨hp1, ⟨i, rem, ps, ed, el, er, hc, hr⟩, x5, x6, x7, x8, x9, rfl⟩
      have r0 : rem = 0 := by
        cases rem with
        | zero => rfl
        | succ r => cases ed
      subst r0
      have hl : l < S'.length := by
        obtain ⟨_, _, _, e⟩ := hp1
        exact cl_lt e
      have hcl : c < S'.length := cl_lt hc
      have hc2 : cl (S' ++ [[]]) c = some ((ps.map (pw m)).map vD) := cl_old hc
      simp! only [hc2]
      refine rows_v fun vs pv => ?_
      obtain ⟨qs, rfl, pq⟩ := perm_w pv
      simp! only [List.map_map]
      refine ⟨by omega, ?_⟩
      have p2 : Pl (S' ++ [[]] ++ [qs.map (vD ∘ pw m)]) l := (hp1.gw .one).gw .one
      have cs : cl (S' ++ [[]] ++ [qs.map (vD ∘ pw m)]) S'.length = some (([] : List (Int × Int)).map (vD ∘ pw m)) := cl_old cl_new
      have cle : cl (S' ++ [[]] ++ [qs.map (vD ∘ pw m)]) (S' ++ [[]]).length = some (qs.map (vD ∘ pw m)) := cl_new
      have n1 : S'.length ≠ l := by omega
      have n2 : (S' ++ [[]]).length ≠ l := by rw [List.length_append]; omega
      have n3 : (S' ++ [[]]).length ≠ S'.length := by rw [List.length_append, List.length_singleton]; omega
      generalize S' ++ [[]] ++ [qs.map (vD ∘ pw m)] = S5 at p2 cs cle
      generalize (S' ++ [[]]).length = cq at cle n2 n3
      generalize S'.length = ca at cs n1 n3
      refine forW_inv (I := fun ds σ S' => Pl S' l ∧ (∃ (rs qs : List (Int × Int)), (rs ++ qs).Perm ps ∧ qs.length = ds.length ∧ cl S' ca = some (rs.map (vD ∘ pw m)) ∧ cl S' cq = some (qs.map (vD ∘ pw m))) ∧ ∃ x5 x6 x7 : Option D, σ = [some (.ref l), some (.int many), some (.int w), some (mD m), some (.dre c), x5, x6, x7, some (.ref ca), some (.ref cq)]) ⟨p2, ⟨[], qs, pq, ?_, cs, cle⟩, _, _, _, rfl⟩ ?_ ?_
      · rw [rngI_len, pq.length_eq]; omega
      · rintro d ds σ S' ⟨hp1, ⟨rs, qs, pm, eq, ha, hq⟩, x5, x6, x7, rfl⟩
        refine ⟨_, rfl, fun K hK => ?_⟩
        rw [List.length_cons] at eq
        have q6 : rs.length + qs.length ≤ 6 := by
          have := pm.length_eq
          rw [List.length_append] at this
          omega
        simp! only [blk_app, hq, List.length_map]
        refine s_law_below76 hp1 (by omega) (Nat.lt_of_lt_of_le (show _ < 2 ^ 52 by omega) (Nat.pow_le_pow_right (by decide) (by decide))) fun r S3 r0 r1 d3 => ?_
        have hq3 : cl S3 cq = some (qs.map (vD ∘ pw m)) := by rw [d3.fr cq n2]; exact hq
        have ha3 : cl S3 ca = some (rs.map (vD ∘ pw m)) := by rw [d3.fr ca n1]; exact ha
        simp! only [hq3]
        refine popD_m r0 r1 (by omega) fun x ys py => ?_
        have ha4 : cl (S3.set cq (ys.map (vD ∘ pw m))) ca = some (rs.map (vD ∘ pw m)) := by rw [cl_ne (Ne.symm n3)]; exact ha3
        simp! only [ha4, List.length_map]
        refine ⟨by unfold SZ; omega, hK _ _ ⟨?_, ⟨rs ++ [x], ys, ?_, ?_, ?_, ?_⟩, _, _, _, rfl⟩⟩
        · obtain ⟨x, y, z, e⟩ := d3.pl
          exact ⟨x, y, z, by rw [cl_ne (Ne.symm n1), cl_ne (Ne.symm n2)]; exact e⟩
        · have : ((rs ++ [x]) ++ ys).Perm (rs ++ qs) := by rw [List.append_assoc]; exact List.Perm.append_left rs py
          exact this.trans pm
        · have := py.length_eq
          rw [List.length_cons] at this
          omega
        · rw [cl_set ha4, List.map_append]; rfl
        · rw [cl_ne n3]; exact cl_set hq3
      · rintro σ S' ⟨hp1, ⟨rs, qs, pm, eq, ha, hq⟩, x5, x6, x7, rfl⟩
        have q0 : qs = [] := List.length_eq_zero_iff.mp eq
        subst q0
        rw [List.append_nil] at pm
        simp! only [↓ev_v0]
        refine s_law_turned_curve_w (q := Q0) (b := 1) vm.2 b1 bc_Q0 n6_Q0 (by omega) ?_
        simp! only [ha]
        exact h m rs S' (hr.rn vm (by omega) pm (by omega)) b1 hp1
theorem loop_stir76 {C : Hd} {N : Ends} {a b c : Option D} : ∀ {ds : List D} {g : Int} {z : Option D}, (∀ d ∈ ds, ∃ i, d = .int i) → (∀ g z, N.nx [a, b, c, some (.int g), z] S) →
    forW none (blk C X [.set (.pt (.nm 3)) (.bin .mod (.bi .int [(.bin .add (.bin .add (.bin .mul (.var 3) (.cst (.int 52929))) (.bin .mod (.bi .int [(.var 4)]) (.cst (.int 2147483587)))) (.cst (.int 13)))]) (.cst (.int 2147483647)))]) (.nm 4) N ds [a, b, c, some (.int g), z] S
  | [], g, z, _, h => h g z
  | d :: ds, g, z, hd, h => by
    obtain ⟨i, rfl⟩ := hd d List.mem_cons_self
    simp! only [fw_cons, blk_app]
    exact ⟨mulOk_r (by decide) (by decide), by decide, by decide, loop_stir76 (fun e he => hd e (List.mem_cons_of_mem _ he)) h⟩
theorem s_law_pool76 {ns : List Int} {t : Int} (h0 : 0 ≤ t) (h : ∀ a b c : Int, k (.ref S.length) (S ++ [[.int a, .int b, .int c]])) : CT (n + 1) i_law_pool_v22 [.frz (ns.map D.int), .int t] S k X := by
  refine c_law_pool_v22 ?_
  have rest : ∀ own : Int, exs (CT n) X (f_law_pool_v22.body.drop 1) [some (.frz (ns.map D.int)), some (.int t), some (.int own), none, none] S { nx := fun _ S1 => k .non S1, rt := k, bk := fun _ _ => False, ct := fun _ _ => False } := by
    intro own
    simp! only [f_law_pool_v22, List.drop_succ_cons, List.drop_zero]
    refine ⟨mulOk_l (by decide) (by decide), ?_⟩
    refine loop_stir76 (fun d hd => ?_) fun g z => ?_
    · obtain ⟨i, _, e⟩ := List.mem_map.mp (List.mem_of_mem_drop (List.mem_of_mem_take hd))
      exact ⟨i, e.symm⟩
    · simp! only [↓ev_v0]
      exact ⟨mulOk_r (by decide) (by decide), by decide, mulOk_r (by decide) (by decide), by decide, brk_i (fun _ => ⟨⟨by decide, by decide, by decide⟩, by decide, h _ _ _⟩) fun _ => ⟨⟨by decide, by decide, by decide⟩, brk_i (fun _ => ⟨⟨by decide, by decide, by decide⟩, by decide, h _ _ _⟩) fun _ => h _ _ _⟩⟩
  simp! only [f_law_pool_v22, List.length_map]
  refine brk_i (fun e => ?_) fun e => ?_
  · obtain ⟨i, ei⟩ := nth_ints (ns := ns) h0 (of_decide_eq_true e)
    rw [ei]
    simp! only [↓ev_v0]
    have r := rest i
    simp! only [f_law_pool_v22, List.drop_succ_cons, List.drop_zero] at r
    exact r
  · refine ⟨mulOk_l (by decide) (by decide), ?_⟩
    have r := rest (9315 * t + 619)
    simp! only [f_law_pool_v22, List.drop_succ_cons, List.drop_zero] at r
    exact r
end
end FV
set_option Elab.async false
set_option linter.all false
set_option maxRecDepth 100000
/-! Wd: a line's second point on a curve; curves with points. -/
namespace FV
theorem dt_comm {u v : T3} : dt u v = dt v u := by simp only [dt]; grind
theorem cr_cr {a p o : T3} (h1 : dt a p = 0) (h2 : dt a o = 0) : cr a (cr p o) = V0 := by
  simp only [dt] at h1 h2
  refine T3.ext' ?_ ?_ ?_ <;> (simp only [cr, V0]; grind)
theorem qv_ad {q : C6} {u v : T3} {x y : Int} : qv q (ad (sm x u) (sm y v)) = x * x * qv q u + y * y * qv q v + x * y * bi q u v := by
  simp only [qv, bi, ad, sm, dt, mv, tb]; grind
/-- no line lies on a full curve -/
theorem full_line {q : C6} {p o : T3} (hf : det (tb q) ≠ 0) (hw : cr p o ≠ V0) (hp : qv q p = 0) (hb : bi q p o = 0) : qv q o ≠ 0 := by
  intro ho
  have hp0 : p ≠ V0 := by rintro rfl; exact hw (by simp [cr, V0])
  have ho0 : o ≠ V0 := by rintro rfl; exact hw (by simp [cr, V0])
  have ap : dt (mv (tb q) p) p = 0 := by rw [dt_comm]; have := bi_self (q := q) (u := p); rw [hp] at this; exact this
  have ao : dt (mv (tb q) p) o = 0 := by rw [dt_comm]; rw [bi_comm] at hb; exact hb
  have bp : dt (mv (tb q) o) p = 0 := by rw [dt_comm]; exact hb
  have bo : dt (mv (tb q) o) o = 0 := by rw [dt_comm]; have := bi_self (q := q) (u := o); rw [ho] at this; exact this
  have s1 := Sim.of_cr (mv_ne hf hp0) hw (cr_cr ap ao)
  have s2 := Sim.of_cr (mv_ne hf ho0) hw (cr_cr bp bo)
  have e := (s1.trans s2.symm).cr0
  rw [mv_cr] at e
  exact mv_ne (by rw [det_cof]; exact Int.mul_ne_zero hf hf) hw e
theorem in_line {x y z l : T3} (hl : l ≠ V0) (h1 : dt x l = 0) (h2 : dt y l = 0) (h3 : dt z l = 0) : bk x y z = 0 := by
  have e : sm (bk x y z) l = V0 := by
    simp only [dt] at h1 h2 h3
    refine T3.ext' ?_ ?_ ?_ <;> (simp only [bk, dt, cr, sm, V0]; grind)
  exact Classical.byContradiction fun h => hl ((sm0 h).mp e)
/-- the axis of the first live number -/
def ax (p : T3) : T3 := if p.x ≠ 0 then ⟨1, 0, 0⟩ else if p.y ≠ 0 then ⟨0, 1, 0⟩ else ⟨0, 0, 1⟩
def oth (l p : T3) : T3 := cr l (ax p)
theorem ax_ne {p : T3} (h : p ≠ V0) : dt (ax p) p ≠ 0 := by
  unfold ax
  split
  · simp only [dt]; omega
  · split
    · simp only [dt]; omega
    · intro hz
      simp only [dt] at hz
      exact h (T3.ext' (show p.x = 0 by omega) (show p.y = 0 by omega) (show p.z = 0 by omega))
theorem cr_ax {l p e : T3} (h : dt p l = 0) : cr (cr l e) p = sm (-(dt e p)) l := by
  simp only [dt] at h
  refine T3.ext' ?_ ?_ ?_ <;> (simp only [cr, sm, dt]; grind)
theorem oth_l {l p : T3} : dt (oth l p) l = 0 := by simp only [oth, dt, cr]; grind
theorem oth_cr {l p : T3} (hl : l ≠ V0) (hp : p ≠ V0) (h : dt p l = 0) : cr p (oth l p) ≠ V0 := by
  have e := cr_ax (e := ax p) h
  intro z
  have z2 : cr (oth l p) p = V0 := by
    have : cr (oth l p) p = sm (-1) (cr p (oth l p)) := by
      refine T3.ext' ?_ ?_ ?_ <;> (simp only [cr, sm]; grind)
    rw [this, z]; simp [sm, V0]
  have e2 : sm (-(dt (ax p) p)) l = V0 := by rw [← e]; exact z2
  exact hl ((sm0 (by have := ax_ne hp; omega)).mp e2)
/-- the second point, before it is made plain -/
def sc0 (q : C6) (p o : T3) : T3 := ad (sm (qv q o) p) (sm (-(bi q p o)) o)
def sec (q : C6) (p l : T3) : T3 := pv (sc0 q p (oth l p))
structure On (q : C6) (p l : T3) : Prop where
  fl : det (tb q) ≠ 0
  pp : Pr p
  pl : Pr l
  on : qv q p = 0
  inl : dt p l = 0
theorem sc0_cr {q : C6} {p o : T3} : cr (sc0 q p o) p = sm (bi q p o) (cr p o) := by
  refine T3.ext' ?_ ?_ ?_ <;> (simp only [sc0, cr, ad, sm]; grind)
theorem sc0_ne {q : C6} {p o : T3} (hf : det (tb q) ≠ 0) (hw : cr p o ≠ V0) (h : qv q p = 0) : sc0 q p o ≠ V0 := by
  by_cases hb : bi q p o = 0
  · have ho := full_line hf hw h hb
    have hp : p ≠ V0 := by rintro rfl; exact hw (by simp [cr, V0])
    have e : sc0 q p o = sm (qv q o) p := by
      unfold sc0
      rw [hb]
      refine T3.ext' ?_ ?_ ?_ <;> simp [ad, sm]
    rw [e]
    exact fun z => hp ((sm0 ho).mp z)
  · intro z
    have e := sc0_cr (q := q) (p := p) (o := o)
    rw [z] at e
    have e2 : sm (bi q p o) (cr p o) = V0 := by rw [← e]; simp [cr, V0]
    exact hw ((sm0 hb).mp e2)
section
variable {q : C6} {p l r : T3}
theorem On.w (h : On q p l) : cr p (oth l p) ≠ V0 := oth_cr (pr_ne h.pl) (pr_ne h.pp) h.inl
theorem On.ne (h : On q p l) : sc0 q p (oth l p) ≠ V0 := sc0_ne h.fl h.w h.on
theorem On.self (h : On q p l) : sec q p l = p ↔ bi q p (oth l p) = 0 := by
  have e1 : sec q p l = p ↔ cr (sc0 q p (oth l p)) p = V0 := by
    have := pv_eq h.ne (pr_ne h.pp)
    rw [pv_of h.pp] at this
    exact this
  rw [e1, sc0_cr]
  constructor
  · intro z
    exact Classical.byContradiction fun hb => h.w ((sm0 hb).mp z)
  · intro z; rw [z, sm_0]
/-- the other point of the line on the curve is the second point -/
theorem On.other (h : On q p l) (hr : Pr r) (hq : qv q r = 0) (hl : dt r l = 0) (hn : r ≠ p) : sec q p l = r := by
  have hw := h.w
  have k := in_line (pr_ne h.pl) h.inl (oth_l (l := l) (p := p)) hl
  have c := cramer k
  have hs := pk_ne hw
  generalize hso : oth l p = o at *
  generalize pk (cr p o) (cr p o) = s at *
  generalize (pts p o r).n = a at *
  generalize (pts p o r).d = b at *
  have hb : b ≠ 0 := fun z => by
    rw [z, sm_0, ad_0] at c
    have a0 : a ≠ 0 := fun z => by rw [z, sm_0] at c; exact pr_ne hr ((sm0 hs).mp c)
    exact hn (sim_eq hr h.pp ⟨s, a, hs, a0, c⟩)
  have e := qv_ad (q := q) (u := p) (v := o) (x := a) (y := b)
  rw [← c, qv_sm, hq, h.on] at e
  have e2 : b * (b * qv q o + a * bi q p o) = 0 := by
    have : b * (b * qv q o + a * bi q p o) = a * a * 0 + b * b * qv q o + a * b * bi q p o := by grind
    rw [this, ← e]; simp
  have e3 := (Int.mul_eq_zero.mp e2).resolve_left hb
  have e4 : sm b (sc0 q p o) = sm (-(bi q p o)) (ad (sm a p) (sm b o)) := by
    have : b * qv q o = -(a * bi q p o) := by omega
    refine T3.ext' ?_ ?_ ?_ <;> (simp only [sc0, ad, sm]; grind)
  rw [← c, sm_sm] at e4
  have ne := h.ne
  have hB : bi q p o ≠ 0 := fun z => by
    rw [z] at e4
    have z2 : sm b (sc0 q p o) = V0 := by rw [e4]; simp [sm, V0]
    rw [hso] at ne
    exact ne ((sm0 hb).mp z2)
  have s1 : Sim (sc0 q p o) r := ⟨b, -(bi q p o) * s, hb, Int.mul_ne_zero (by omega) hs, e4⟩
  rw [hso] at ne
  show pv (sc0 q p (oth l p)) = r
  rw [hso, s1.pv ne, pv_of hr]
/-- at the polar the point is its own second -/
theorem bi_polar (h : On q p l) : bi q p (oth l p) = 0 ↔ l = pv (mv (tb q) p) := by
  have hp0 := pr_ne h.pp
  have t0 := mv_ne h.fl hp0
  have ap : dt (mv (tb q) p) p = 0 := by rw [dt_comm]; have := bi_self (q := q) (u := p); rw [h.on] at this; exact this
  have eb : bi q p (oth l p) = dt (mv (tb q) p) (oth l p) := by rw [bi_comm, bi, dt_comm]
  constructor
  · intro hb
    rw [eb] at hb
    have s1 := Sim.of_cr t0 h.w (cr_cr ap hb)
    have l1 : cr l (cr p (oth l p)) = V0 := cr_cr (by rw [dt_comm]; exact h.inl) (by rw [dt_comm]; exact oth_l)
    have s2 := Sim.of_cr (pr_ne h.pl) h.w l1
    have := (s1.trans s2.symm).pv t0
    rw [this, pv_of h.pl]
  · intro e
    rw [eb]
    have s : Sim l (mv (tb q) p) := by
      have := pv_sim t0
      rw [← e] at this; exact this
    exact (Sim.dt s (.refl _)).mp (by rw [dt_comm]; exact oth_l)
theorem On.polar (h : On q p l) : sec q p l = p ↔ l = pv (mv (tb q) p) := h.self.trans (bi_polar h)
end
theorem sc0_sm {q : C6} {p o : T3} {c : Int} : sc0 q p (sm c o) = sm (c * c) (sc0 q p o) := by
  refine T3.ext' ?_ ?_ ?_ <;> (simp only [sc0, ad, sm, qv, bi, dt, mv, tb]; grind)
theorem On.pvo {q : C6} {p l : T3} (h : On q p l) : pv (sc0 q p (pv (oth l p))) = sec q p l := by
  have o0 : oth l p ≠ V0 := fun z => h.w (by rw [z]; simp [cr, V0])
  have e := pv_mul o0
  have hd := dv0 o0
  have ne := h.ne
  generalize hc : dv (oth l p).l = c at e hd
  unfold sec
  have ne2 : sc0 q p (pv (oth l p)) ≠ V0 := fun z => ne (by rw [e, sc0_sm, z, sm_V0])
  conv => rhs; rw [e, sc0_sm, pv_sm ne2 (Int.mul_ne_zero hd hd)]
theorem bi_sim {q : C6} {p o o' : T3} (s : Sim o o') : bi q p o = 0 ↔ bi q p o' = 0 := by
  rw [bi_comm, bi_comm (v := o')]
  exact Sim.dt s (.refl _)
theorem bv_sc {a b c : Nat} {q : C6} {p o : T3} (bq : bc a q) (bp : bv b p) (bo : bv c o) : bv (2 * c + a + b + 7) (sc0 q p o) := by
  have h1 := bt_qv bq bo
  have h2 := bt_neg (bt_bi bq bp bo)
  exact bv_mono (bv_ad (bv_sm h1 bp) (bv_sm h2 bo)) (by omega)
theorem bv_ax {p : T3} : bv 1 (ax p) := by
  unfold ax
  split
  · decide
  · split <;> decide
theorem bv_oth {a : Nat} {l p : T3} (h : bv a l) : bv (a + 2) (oth l p) := bv_cr h bv_ax
/-! ### a curve with a point is not empty -/
theorem sq0 {t : Int} : 0 ≤ t * t := by
  rw [← Int.natAbs_mul_self]; exact Int.natCast_nonneg _
theorem sylv {q : C6} {p : T3} (ha : 0 < q.a) (hd : 0 < 4 * q.a * q.b - q.f * q.f) (ht : 0 < det (tb q)) (h : qv q p = 0) : p = V0 := by
  obtain ⟨a, b, c, d, e, f⟩ := q
  obtain ⟨x, y, z⟩ := p
  simp only [det, tb, bk, dt, cr, qv] at *
  have key : (4 * a * b - f * f) * ((2 * a * x + f * y + e * z) * (2 * a * x + f * y + e * z)) + ((4 * a * b - f * f) * y + (2 * a * d - e * f) * z) * ((4 * a * b - f * f) * y + (2 * a * d - e * f) * z) + 2 * a * (2 * a * (2 * b * (2 * c) - d * d) + f * (d * e - f * (2 * c)) + e * (f * d - 2 * b * e)) * (z * z) = 4 * a * (4 * a * b - f * f) * (a * (x * x) + b * (y * y) + c * (z * z) + d * (y * z) + e * (x * z) + f * (x * y)) := by grind
  rw [h, Int.mul_zero] at key
  have hC : 0 < 2 * a * (2 * a * (2 * b * (2 * c) - d * d) + f * (d * e - f * (2 * c)) + e * (f * d - 2 * b * e)) := Int.mul_pos (by omega) ht
  generalize hA : 2 * a * x + f * y + e * z = A at key
  generalize hB : (4 * a * b - f * f) * y + (2 * a * d - e * f) * z = B at key
  generalize 2 * a * (2 * a * (2 * b * (2 * c) - d * d) + f * (d * e - f * (2 * c)) + e * (f * d - 2 * b * e)) = C2 at key hC
  generalize 4 * a * b - f * f = D2 at key hd hB
  have n1 : 0 ≤ D2 * (A * A) := Int.mul_nonneg (Int.le_of_lt hd) sq0
  have n2 : 0 ≤ B * B := sq0
  have n3 : 0 ≤ C2 * (z * z) := Int.mul_nonneg (Int.le_of_lt hC) sq0
  have z1 : z * z = 0 := (Int.mul_eq_zero.mp (show C2 * (z * z) = 0 by omega)).resolve_left (by omega)
  have z0 : z = 0 := by rcases Int.mul_eq_zero.mp z1 with g | g <;> exact g
  have b1 : B * B = 0 := by omega
  have b0 : B = 0 := by rcases Int.mul_eq_zero.mp b1 with g | g <;> exact g
  have a1 : A * A = 0 := (Int.mul_eq_zero.mp (show D2 * (A * A) = 0 by omega)).resolve_left (by omega)
  have a0 : A = 0 := by rcases Int.mul_eq_zero.mp a1 with g | g <;> exact g
  subst z0
  rw [b0, Int.mul_zero, Int.add_zero] at hB
  have y0 := (Int.mul_eq_zero.mp hB).resolve_left (by omega)
  subst y0
  rw [a0, Int.mul_zero, Int.mul_zero, Int.add_zero, Int.add_zero] at hA
  have x0 := (Int.mul_eq_zero.mp hA).resolve_left (by omega)
  subst x0
  rfl
/-- the program's test for an empty curve -/
def sg (x : Int) : Int := (if 0 < x then 1 else 0) - (if x < 0 then 1 else 0)
def emp (q : C6) : Bool := !(decide (sg q.a = 0) || (!decide (sg q.b = sg q.a) || !decide (sg q.c = sg q.a))) && (decide (0 < 4 * q.a * q.b - q.f * q.f) && decide (0 < det (tb q) * sg q.a))
theorem emp_f {q : C6} {p : T3} (hp : p ≠ V0) (h : qv q p = 0) : emp q = false := by
  cases e : emp q with
  | false => rfl
  | true =>
    exfalso
    simp only [emp, Bool.and_eq_true, decide_eq_true_eq, Bool.not_eq_true'] at e
    obtain ⟨e1, e2, e3⟩ := e
    have s0 : sg q.a ≠ 0 := fun z => by rw [z] at e1; simp at e1
    by_cases ha : 0 < q.a
    · have s1 : sg q.a = 1 := by unfold sg; rw [if_pos ha, if_neg (by omega)]; rfl
      rw [s1, Int.mul_one] at e3
      exact hp (sylv ha e2 e3 h)
    · have hn : q.a < 0 := by
        have : q.a ≠ 0 := fun z => s0 (by rw [z]; rfl)
        omega
      have s1 : sg q.a = -1 := by unfold sg; rw [if_neg ha, if_pos hn]; rfl
      rw [s1] at e3
      refine hp (sylv (q := cs (-1) q) (show 0 < -1 * q.a by omega) ?_ ?_ (by rw [qv_cs, h]; rfl))
      · show 0 < 4 * (-1 * q.a) * (-1 * q.b) - (-1 * q.f) * (-1 * q.f)
        have : 4 * (-1 * q.a) * (-1 * q.b) - (-1 * q.f) * (-1 * q.f) = 4 * q.a * q.b - q.f * q.f := by grind
        rw [this]; exact e2
      · rw [det_cs]; omega
end FV
set_option Elab.async false
set_option linter.all false
set_option maxRecDepth 100000
/-! We: curves with points: the program's walks (k75, k76, k77). -/
namespace FV
theorem full_Q0 : det (tb Q0) ≠ 0 := by decide
theorem map_pw {m : M3} {ps : List (Int × Int)} : (ps.map fun p => vD (pw m p)) = (ps.map (pw m)).map vD := by rw [List.map_map]; rfl
section
variable {n : Nat} {S : Store} {k X : D → Store → Prop} {u v w x y z p r l : T3} {a b c d : Nat} {m : M3} {q : C6}
theorem s_sign_of_w {i : Int} (h : k (.int (sg i)) S) : CT (n + 1) i_sign_of [.int i] S k X := by
  refine c_sign_of ?_
  simp! only [f_sign_of]
  have e : ((if decide (0 < i) = true then (1 : Int) else 0) - (if decide (i < 0) = true then (1 : Int) else 0)) = sg i := by simp [sg]
  rw [e]
  exact h
theorem s_is_empty_by_w (bq : bc a q) (l : a ≤ 5000) (h : k (.bl (emp q)) S) : CT (n + 3) i_is_empty_by [qD q] S k X := by
  refine c_is_empty_by ?_
  simp! only [f_is_empty_by, asg_q, ↓seq_v, ↓seq_f, ↓itm_v, ↓itm_f, ↓asg_v, ↓asg_f, bp_v, bp_f, bps_tv, bps_tf, ↓two_vv, ↓two_vt, ↓two_tv, ↓two_ff, ↓still_v, ↓cut_v, ↓cop_eq_v, ↓cop_ne_v, ↓cop_eq_f, ↓cop_ne_f, inD_n, inD_c, pures_c, pures_n, pure_vT, pure_fT, pure_iT, pure_bT, pure_nT, eq_v, eq_f, Bool.or_false, and_self, ↓tru_v, non_v, non_f, ty_v, ty_f, ta_v, ta_f, ↓bop_vv, ↓bop_6v, ↓cut_9a, ↓cut_9b, ↓cut_9c, tup3, tup2, v_ti, f_ti, zipD, wp_cc, true_and, decide_true, decide_false, eq_self, sz_0, sz_1, sz_2, sz_3, sz_4, sz_5, sz_6, sz_7, sz_8, sz_9, sz_10, sz_11, sz_12, enm_1, enm_2, enm_3, enm_4, enm_5, enm_6, enm_7, enm_8, enm_9, enm_10, len_1, len_2, len_3, len_4, len_5, len_6, len_7, len_8, len_9, len_10]
  refine s_sign_of_w ?_
  simp! only [↓ev_v0]
  refine brk_i (fun eA => ?_) fun eA => ?_
  · have : emp q = false := by unfold emp; rw [eA]; rfl
    rw [this] at h; exact h
  refine s_sign_of_w ?_
  simp! only [↓ev_v0]
  refine brk_i (fun eB => ?_) fun eB => ?_
  · have : emp q = false := by unfold emp; rw [eA, eB]; rfl
    rw [this] at h; exact h
  refine s_sign_of_w ?_
  simp! only [↓ev_v0]
  refine brk_i (fun eC => ?_) fun eC => ?_
  · have : emp q = false := by unfold emp; rw [eA, eB, eC]; rfl
    rw [this] at h; exact h
  have e4 : emp q = (decide (0 < 4 * q.a * q.b - q.f * q.f) && decide (0 < det (tb q) * sg q.a)) := by unfold emp; rw [eA, eB, eC]; rfl
  rw [e4] at h
  refine s_table_by_w ?_
  obtain ⟨h1, h2, h3⟩ := bm_tb bq
  obtain ⟨b1, b2, b3, b4, b5, b6⟩ := bq
  simp! only [asg_m]
  refine ⟨mulOk_l (by decide) (by decide), mulOk_bt (bt_mul (show bt 3 4 by decide) b1) b2 (by omega), mulOk_bt b6 b6 (by omega), ?_⟩
  refine brk_i (fun eD => ?_) fun eD => ?_
  · rw [eD] at h
    refine s_block_v h1 h2 h3 (by omega) ?_
    simp! only [↓ev_v0]
    exact ⟨mulOk_r (by unfold sg; split <;> split <;> decide) (by unfold sg; split <;> split <;> decide), h⟩
  · rw [eD] at h; exact h
theorem s_is_live_by_w (bq : bc a q) (l : a ≤ 5000) (hf : det (tb q) ≠ 0) (he : emp q = false) (h : k (.bl true) S) : CT (n + 4) i_is_live_by [qD q] S k X := by
  refine c_is_live_by ?_
  simp! only [f_is_live_by]
  refine s_is_full_by_w bq (by omega) ?_
  rw [decide_eq_false hf]
  simp! only [↓ev_v0]
  refine s_is_empty_by_w bq l ?_
  rw [he]
  simp! only [↓ev_v0]
  exact h
theorem s_value_cp (bq : bc a q) (bu : bv b u) (l : a ≤ 100000 ∧ b ≤ 100000) (h : k (.int (qv q u)) S) : CT (n + 2) i_value_by_curvepointwork [qD q, vD u] S k X := by
  refine c_value_by_curvepointwork ?_
  simp! only [f_value_by_curvepointwork]
  refine s_products_of_w bu (by omega) ?_
  exact s_dot_6 bq bu l h
theorem s_value_cw (bq : bc a q) (bu : bv b u) (l : a ≤ 100000 ∧ b ≤ 100000) (h : k (.int (qv q u)) S) : CT (n + 2) i_value_by_curvework [qD q, vD u] S k X := by
  refine c_value_by_curvework ?_
  simp! only [f_value_by_curvework]
  refine s_products_of_w bu (by omega) ?_
  exact s_dot_6 bq bu l h
theorem s_is_on_curve_2 (hp : Pc q) (hu : Pr u) (bq : bc a q) (bu : bv b u) (l : a ≤ 100000 ∧ b ≤ 100000) (h : k (.bl (decide (qv q u = 0))) S) : CT (n + 7) i_is_on_curve_v2 [qD q, vD u] S k X := by
  refine c_is_on_curve_v2 ?_
  simp! only [f_is_on_curve_v2, ↓seq_v, ↓seq_f, ↓itm_v, ↓itm_f, ↓asg_v, ↓asg_f, bp_v, bp_f, bps_tv, bps_tf, ↓two_vv, ↓two_vt, ↓two_tv, ↓two_ff, ↓still_v, ↓cut_v, ↓cop_eq_v, ↓cop_ne_v, ↓cop_eq_f, ↓cop_ne_f, inD_n, inD_c, pures_c, pures_n, pure_vT, pure_fT, pure_iT, pure_bT, pure_nT, eq_v, eq_f, Bool.or_false, and_self, ↓tru_v, non_v, non_f, ty_v, ty_f, ta_v, ta_f, ↓bop_vv, ↓bop_6v, ↓cut_9a, ↓cut_9b, ↓cut_9c, tup3, tup2, v_ti, f_ti, zipD, wp_cc, true_and, decide_true, decide_false, eq_self, sz_0, sz_1, sz_2, sz_3, sz_4, sz_5, sz_6, sz_7, sz_8, sz_9, sz_10, sz_11, sz_12, enm_1, enm_2, enm_3, enm_4, enm_5, enm_6, enm_7, enm_8, enm_9, enm_10, len_1, len_2, len_3, len_4, len_5, len_6, len_7, len_8, len_9, len_10]
  refine s_check_curve_w hp ?_
  try walk_at "fx"
  refine s_check_point_v hu ?_
  try walk_at "fx"
  refine c_is_on_by_v2 ?_
  simp! only [f_is_on_by_v2]
  refine s_value_cw bq bu l ?_
  simp! only [↓ev_v0]
  exact h
theorem s_are_on_by_w {us : List T3} (bq : bc a q) (hu : ∀ u ∈ us, bv b u ∧ qv q u = 0) (l : a ≤ 100000 ∧ b ≤ 100000) (hz : us.length ≤ 1000) (h : k (.bl true) S) : CT (n + 3) i_are_on_by [qD q, .tup (us.map vD)] S k X := by
  refine c_are_on_by ?_
  simp! only [f_are_on_by, List.length_map]
  refine ⟨by unfold SZ; omega, fcF3 (f := fun _ => .bl true) (fun d hd k2 a2 => ?_) ?_⟩
  · simp! only [lc_app']
    refine s_value_cp bq (hu d hd).1 l ?_
    rw [(hu d hd).2]
    simp! only [↓ev_v0]
    exact a2
  · rw [bls_c]
    simp! only [↓ev_v0]
    rw [all_c]
    exact h
theorem s_check_on_w {us : List T3} (bq : bc a q) (hf : det (tb q) ≠ 0) (he : emp q = false) (hu : ∀ u ∈ us, bv b u ∧ qv q u = 0) (l : a ≤ 5000 ∧ b ≤ 100000) (hz : us.length ≤ 1000) (h : k .non S) : CT (n + 5) i_check_on [qD q, .tup (us.map vD)] S k X := by
  refine c_check_on ?_
  simp! only [f_check_on]
  refine s_is_live_by_w bq (by omega) hf he ?_
  simp! only [↓ev_v0]
  refine s_are_on_by_w bq hu (by omega) hz ?_
  simp! only [↓ev_v0]
  exact h
theorem s_polar_by_w (hf : det (tb q) ≠ 0) (hu : u ≠ V0) (bq : bc a q) (bu : bv b u) (l : a ≤ 3000 ∧ b ≤ 3000) (h : k (vD (pv (mv (tb q) u))) S) : CT (n + 3) i_polar_by [qD q, vD u] S k X := by
  refine c_polar_by ?_
  simp! only [f_polar_by]
  refine s_table_by_w ?_
  refine s_table_times_v (bm_tb bq) bu (by omega) ?_
  exact s_plain_of_v (mv_ne hf hu) (bv_mv (bm_tb bq) bu) (by omega) h
theorem s_other_on_w (hl : l ≠ V0) (hp : p ≠ V0) (h0 : dt p l = 0) (bl : bv a l) (bp : bv b p) (le : a ≤ 3000 ∧ b ≤ 3000) (h : k (vD (pv (oth l p))) S) : CT (n + 3) i_other_on [vD l, vD p] S k X := by
  have be : ∀ {e : T3}, bv 1 e → bv (a + 2) (cr l e) := fun he => bv_cr bl he
  have b1 : bv 1 ⟨1, 0, 0⟩ := by decide
  have b2 : bv 1 ⟨0, 1, 0⟩ := by decide
  have b3 : bv 1 ⟨0, 0, 1⟩ := by decide
  have iff0 : ∀ {e : T3}, cr (cr l e) p = V0 ↔ dt e p = 0 := fun {e} => by
    rw [cr_ax h0]
    constructor
    · intro z
      exact Classical.byContradiction fun hn => hl ((sm0 (by omega)).mp z)
    · intro z; rw [z]; simp [sm, V0]
  have d1 : dt ⟨1, 0, 0⟩ p = p.x := by simp [dt]
  have d2 : dt ⟨0, 1, 0⟩ p = p.y := by simp [dt]
  have d3 : dt ⟨0, 0, 1⟩ p = p.z := by simp [dt]
  have ne0 : ∀ {e : T3}, dt e p ≠ 0 → cr l e ≠ V0 := fun hn z => hn (iff0.mp (by rw [z]; simp [cr, V0]))
  refine c_other_on ?_
  simp! only [f_other_on, lc_app', fc_cons, fc_nil, ↓seq_v, ↓seq_f, ↓itm_v, ↓itm_f, ↓asg_v, ↓asg_f, bp_v, bp_f, bps_tv, bps_tf, ↓two_vv, ↓two_vt, ↓two_tv, ↓two_ff, ↓still_v, ↓cut_v, ↓cop_eq_v, ↓cop_ne_v, ↓cop_eq_f, ↓cop_ne_f, inD_n, inD_c, pures_c, pures_n, pure_vT, pure_fT, pure_iT, pure_bT, pure_nT, eq_v, eq_f, Bool.or_false, and_self, ↓tru_v, non_v, non_f, ty_v, ty_f, ta_v, ta_f, ↓bop_vv, ↓bop_6v, ↓cut_9a, ↓cut_9b, ↓cut_9c, tup3, tup2, v_ti, f_ti, zipD, wp_cc, true_and, decide_true, decide_false, eq_self, sz_0, sz_1, sz_2, sz_3, sz_4, sz_5, sz_6, sz_7, sz_8, sz_9, sz_10, sz_11, sz_12, enm_1, enm_2, enm_3, enm_4, enm_5, enm_6, enm_7, enm_8, enm_9, enm_10, len_1, len_2, len_3, len_4, len_5, len_6, len_7, len_8, len_9, len_10]
  refine s_cross_v bl b1 (by omega) ?_
  refine s_cross_v bl b2 (by omega) ?_
  refine s_cross_v bl b3 (by omega) ?_
  have st : ∀ {e : T3} {S : Store} {K1 K2 : Store → Prop}, bv 1 e → (dt e p ≠ 0 → K1 S) → (dt e p = 0 → K2 S) → CT (n + 2) i_cross [vD (cr l e), vD p] S (fun d S2 => bfn .any [d] S2 fun d => tru d fun b => brk b (K1 S2) (K2 S2)) X := fun {e S K1 K2} he h1 h2 => by
    refine s_cross_v (be he) bp (by omega) ?_
    rw [any_vw]
    simp! only [↓ev_v0]
    refine brk_i (fun q => h1 fun z => ?_) fun q => h2 ?_
    · rw [iff0.mpr z] at q; simp at q
    · refine iff0.mp ?_
      simpa using q
  have pl : ∀ {e : T3} {S : Store} {k : D → Store → Prop}, bv 1 e → dt e p ≠ 0 → k (vD (pv (cr l e))) S → CT (n + 2) i_plain_of [vD (cr l e)] S k X := fun he h1 hk => s_plain_of_v (ne0 h1) (be he) (by omega) hk
  refine st b1 (fun h1 => ?_) fun h1 => ?_
  · have hh : k (vD (pv (cr l ⟨1, 0, 0⟩))) S := by
      rw [d1] at h1
      unfold oth ax at h
      rw [if_pos h1] at h
      exact h
    refine pl b1 h1 ?_
    exact st b2 (fun h2 => pl b2 h2 (st b3 (fun h3 => pl b3 h3 hh) fun _ => hh)) fun _ => st b3 (fun h3 => pl b3 h3 hh) fun _ => hh
  · rw [d1] at h1
    refine st b2 (fun h2 => ?_) fun h2 => ?_
    · have hh : k (vD (pv (cr l ⟨0, 1, 0⟩))) S := by
        rw [d2] at h2
        unfold oth ax at h
        rw [if_neg (fun z => z h1), if_pos h2] at h
        exact h
      exact pl b2 h2 (st b3 (fun h3 => pl b3 h3 hh) fun _ => hh)
    · rw [d2] at h2
      unfold oth ax at h
      rw [if_neg (fun z => z h1), if_neg (fun z => z h2)] at h
      refine st b3 (fun h3 => pl b3 h3 h) fun h3 => ?_
      rw [d3] at h3
      exact absurd (T3.ext' h1 h2 h3) hp
theorem s_second_of_w (bq : bc a q) (bp : bv b p) (bo : bv c u) (le : a ≤ 2000 ∧ b ≤ 1000 ∧ c ≤ 1000) (h0 : sc0 q p u ≠ V0) (h : k (vD (pv (sc0 q p u))) S) : CT (n + 3) i_second_of [qD q, vD p, vD u] S k X := by
  refine c_second_of ?_
  simp! only [f_second_of]
  refine s_added_v ?_
  refine s_value_cp bq (bv_ad bp bo) (by omega) ?_
  refine s_value_cp bq bp (by omega) ?_
  try simp! only [↓ev_v0]
  refine s_value_cp bq bo (by omega) ?_
  simp! only [↓ev_v0]
  rw [← bi_qv]
  refine s_value_cp bq bo (by omega) ?_
  refine s_scaled_v bp (bt_qv bq bo) (by omega) ?_
  refine s_scaled_v bo (bt_neg (bt_bi bq bp bo)) (by omega) ?_
  refine s_added_v ?_
  exact s_plain_of_v h0 (bv_sc bq bp bo) (by omega) h
theorem s_second_by_w (o : On q p l) (bq : bc a q) (bp : bv b p) (bl : bv c l) (le : a ≤ 900 ∧ b ≤ 900 ∧ c ≤ 900) (h : k (vD (sec q p l)) S) : CT (n + 4) i_second_by [qD q, vD p, vD l] S k X := by
  refine c_second_by ?_
  simp! only [f_second_by]
  refine s_other_on_w (pr_ne o.pl) (pr_ne o.pp) o.inl bl bp (by omega) ?_
  have o0 : oth l p ≠ V0 := fun z => o.w (by rw [z]; simp [cr, V0])
  have t0 := mv_ne o.fl (pr_ne o.pp)
  have bo : bv (c + 2) (pv (oth l p)) := bv_pv (bv_oth bl)
  refine s_polar_by_w o.fl (pr_ne o.pp) bq bp (by omega) ?_
  refine s_dot_v (bv_pv (bv_mv (bm_tb bq) bp)) bo (by omega) ?_
  simp! only [↓ev_v0]
  have e0 : dt (pv (mv (tb q) p)) (pv (oth l p)) = 0 ↔ sec q p l = p := by
    rw [o.self, Sim.dt (pv_sim t0) (pv_sim o0), bi_comm, bi, dt_comm]
  refine brk_i (fun e => ?_) fun e => ?_
  · rw [e0.mp (of_decide_eq_true e)] at h
    exact h
  · have hb : bi q p (pv (oth l p)) ≠ 0 := fun z => of_decide_eq_false e (e0.mpr (o.self.mpr ((bi_sim (pv_sim o0)).mp z)))
    have ne2 : sc0 q p (pv (oth l p)) ≠ V0 := fun z => by
      have e1 := sc0_cr (q := q) (p := p) (o := pv (oth l p))
      rw [z] at e1
      have e2 : sm (bi q p (pv (oth l p))) (cr p (pv (oth l p))) = V0 := by rw [← e1]; simp [cr, V0]
      exact o.w ((Sim.zero (Sim.cr (.refl p) (pv_sim o0))).mp ((sm0 hb).mp e2))
    refine s_second_of_w bq bp bo (by omega) ne2 ?_
    rw [o.pvo]
    exact h
end
end FV
set_option Elab.async false
set_option linter.all false
set_option maxRecDepth 100000
/-! Wf: ratios on a curve, by the numbers of its points: plain mathematics. -/
namespace FV
def br (a b : Int × Int) : Int := a.1 * b.2 - a.2 * b.1
def P0 (p : Int × Int) : Prop := p.1 ≠ 0 ∨ p.2 ≠ 0
theorem P0.of {p : Int × Int} (h : 1 ≤ p.2) : P0 p := .inr (by omega)
theorem cv_n0 {p : Int × Int} (h : P0 p) : cv p ≠ V0 := fun e => by
  have h1 := congrArg T3.x e
  have h3 := congrArg T3.z e
  rcases h with g | g
  · exact Int.mul_ne_zero g g h1
  · exact Int.mul_ne_zero g g h3
/-- the line from e to p -/
def Ll (e p : Int × Int) : T3 := ⟨e.2 * p.2, -(e.1 * p.2 + e.2 * p.1), e.1 * p.1⟩
def ln (w : M3) (e p : Int × Int) : T3 := pv (mv (cof w) (Ll e p))
theorem cr_cv {e p : Int × Int} : cr (cv e) (cv p) = sm (br e p) (Ll e p) := by
  refine T3.ext' ?_ ?_ ?_ <;> (simp only [cr, cv, sm, br, Ll]; grind)
theorem cr_Ll {e a b : Int × Int} : cr (Ll e a) (Ll e b) = sm (br a b) (cv e) := by
  refine T3.ext' ?_ ?_ ?_ <;> (simp only [cr, cv, sm, br, Ll]; grind)
theorem dt_Ll {e p : Int × Int} : dt (cv p) (Ll e p) = 0 ∧ dt (cv e) (Ll e p) = 0 := by
  constructor <;> (simp only [dt, cv, Ll]; grind)
theorem Ll_sum {e a b d : Int × Int} : sm (br a b) (Ll e d) = ad (sm (br d b) (Ll e a)) (sm (br a d) (Ll e b)) := by
  refine T3.ext' ?_ ?_ ?_ <;> (simp only [ad, sm, br, Ll]; grind)
theorem Ll_ne {e p : Int × Int} (he : P0 e) (hp : P0 p) : Ll e p ≠ V0 := fun z => by
  have h1 := congrArg T3.x z
  have h2 := congrArg T3.y z
  have h3 := congrArg T3.z z
  simp only [Ll, V0] at h1 h2 h3
  rcases he with g | g
  · have p1 := (Int.mul_eq_zero.mp h3).resolve_left g
    rw [p1] at h2
    have p2 := (Int.mul_eq_zero.mp (show e.1 * p.2 = 0 by omega)).resolve_left g
    rcases hp with u | u
    · exact u p1
    · exact u p2
  · have p2 := (Int.mul_eq_zero.mp h1).resolve_left g
    rw [p2] at h2
    have p1 := (Int.mul_eq_zero.mp (show e.2 * p.1 = 0 by omega)).resolve_left g
    rcases hp with u | u
    · exact u p1
    · exact u p2
section
variable {w : M3} {e a b c d : Int × Int} {p : F2}
theorem c0 (hw : det w ≠ 0) : det (cof w) ≠ 0 := by rw [det_cof]; exact Int.mul_ne_zero hw hw
theorem ln_ne (hw : det w ≠ 0) (he : P0 e) (ha : P0 a) : mv (cof w) (Ll e a) ≠ V0 := mv_ne (c0 hw) (Ll_ne he ha)
theorem ln_pr (hw : det w ≠ 0) (he : P0 e) (ha : P0 a) : Pr (ln w e a) := pv_pr (ln_ne hw he ha)
theorem pw_p (hw : det w ≠ 0) (ha : P0 a) : Pr (pw w a) := pv_pr (mv_ne hw (cv_n0 ha))
theorem pw_eq (hw : det w ≠ 0) (ha : P0 a) (hb : P0 b) : pw w a = pw w b ↔ br a b = 0 := by
  have h1 := pv_eq (mv_ne hw (cv_n0 ha)) (mv_ne hw (cv_n0 hb))
  rw [mv_cr, cr_cv, mv_sm] at h1
  show pv _ = pv _ ↔ _
  rw [h1]
  constructor
  · intro z
    exact Classical.byContradiction fun hn => ln_ne hw ha hb ((sm0 hn).mp z)
  · intro z; rw [z, sm_0]
theorem pw_on (hw : det w ≠ 0) (ha : P0 a) : qv (tn w Q0) (pw w a) = 0 := (tn_on hw n6_Q0 (cv_n0 ha)).mpr qv_cv
theorem full_w (hw : det w ≠ 0) : det (tb (tn w Q0)) ≠ 0 := fun z => full_Q0 ((tn_full hw n6_Q0).mp z)
/-- the line by the cross -/
theorem ln_cr (hw : det w ≠ 0) (he : P0 e) (ha : P0 a) (hn : br e a ≠ 0) : pv (cr (pw w e) (pw w a)) = ln w e a ∧ cr (pw w e) (pw w a) ≠ V0 := by
  have n1 := mv_ne hw (cv_n0 he)
  have n2 := mv_ne hw (cv_n0 ha)
  have s := Sim.cr (pv_sim n1) (pv_sim n2)
  rw [mv_cr, cr_cv, mv_sm] at s
  have s2 := s.trans (sim_sm hn)
  have ne : cr (pw w e) (pw w a) ≠ V0 := fun z => ln_ne hw he ha (s2.zero.mp z)
  exact ⟨s2.pv ne, ne⟩
/-- the line at the point itself -/
theorem tb_pw (hw : det w ≠ 0) (he : P0 e) : Sim (mv (tb (tn w Q0)) (pw w e)) (mv (cof w) (Ll e e)) := by
  have n1 := mv_ne hw (cv_n0 he)
  have s1 : Sim (mv (tb (tn w Q0)) (pw w e)) (mv (tb (tn w Q0)) (mv w (cv e))) := (pv_sim n1).mv
  have tcs : ∀ {k : Int} {q : C6} {u : T3}, mv (tb (cs k q)) u = sm k (mv (tb q) u) := fun {k q u} => by
    refine T3.ext' ?_ ?_ ?_ <;> (simp only [mv, tb, cs, dt, sm]; grind)
  have s2 : Sim (mv (tb (tn w Q0)) (mv w (cv e))) (mv (tb (tq (aj w) Q0)) (mv w (cv e))) := by
    obtain ⟨i, j, hi, hj, e6⟩ := tn_s (m := w) hw n6_Q0
    exact ⟨i, j, hi, hj, by rw [← tcs, ← tcs, e6]⟩
  have e3 : mv (tb (tq (aj w) Q0)) (mv w (cv e)) = sm (-(det w)) (mv (cof w) (Ll e e)) := by
    rw [← mv_trp_mm, mv_mm, mv_back, mv_sm, mv_mm]
    have e4 : trp (aj w) = cof w := rfl
    have e5 : mv (tb Q0) (cv e) = sm (-1) (Ll e e) := by
      refine T3.ext' ?_ ?_ ?_ <;> (simp only [mv, tb, Q0, cv, dt, sm, Ll]; grind)
    rw [e4, e5, mv_sm, sm_sm]
    congr 1
    omega
  rw [e3] at s2
  exact s1.trans (s2.trans (sim_sm (by omega)))
theorem Ll_par (he : 1 ≤ e.2) (ha : P0 a) (hn : br e a = 0) : Sim (Ll e a) (Ll e e) := by
  have h : e.1 * a.2 = e.2 * a.1 := by unfold br at hn; omega
  have a2 : a.2 ≠ 0 := fun z => by
    rw [z, Int.mul_zero] at h
    rcases ha with g | g
    · exact Int.mul_ne_zero (by omega) g h.symm
    · exact g z
  refine ⟨e.2, a.2, by omega, a2, ?_⟩
  refine T3.ext' ?_ ?_ ?_ <;> (simp only [sm, Ll]; grind)
theorem ln_tb (hw : det w ≠ 0) (he : 1 ≤ e.2) (ha : P0 a) (hn : br e a = 0) : pv (mv (tb (tn w Q0)) (pw w e)) = ln w e a := by
  have n1 : mv (tb (tn w Q0)) (pw w e) ≠ V0 := mv_ne (full_w hw) (pr_ne (pw_p hw (.of he)))
  exact ((tb_pw hw (.of he)).trans (Ll_par he ha hn).symm.mv).pv n1
theorem ln_sum (hw : det w ≠ 0) (he : P0 e) (ha : P0 a) (hb : P0 b) (hd : P0 d) : sm (br a b * dv (mv (cof w) (Ll e d)).l) (ln w e d) = ad (sm (br d b * dv (mv (cof w) (Ll e a)).l) (ln w e a)) (sm (br a d * dv (mv (cof w) (Ll e b)).l) (ln w e b)) := by
  have h1 := pv_mul (ln_ne hw he ha)
  have h2 := pv_mul (ln_ne hw he hb)
  have h3 := pv_mul (ln_ne hw he hd)
  rw [← sm_sm, ← sm_sm, ← sm_sm]
  unfold ln
  rw [← h1, ← h2, ← h3, ← mv_lin, ← Ll_sum, mv_sm]
/-- the double ratio of the lines from any eye -/
theorem hm_ln (hw : det w ≠ 0) (he : P0 e) (ha : P0 a) (hb : P0 b) (hc : P0 c) (hd : P0 d) (hab : br a b ≠ 0) (hac : br a c ≠ 0) (hbc : br c b ≠ 0) (hp : Pq p) (h : br d b * br a c * p.d = br a d * br c b * p.n) : Hm (ln w e a) (ln w e b) (ln w e c) (ln w e d) p := by
  have ca := dv0 (ln_ne hw he ha)
  have cb := dv0 (ln_ne hw he hb)
  have cc := dv0 (ln_ne hw he hc)
  have cd := dv0 (ln_ne hw he hd)
  have sc := ln_sum hw he ha hb hc
  have sd := ln_sum hw he ha hb hd
  generalize dv (mv (cof w) (Ll e a)).l = ka at *
  generalize dv (mv (cof w) (Ll e b)).l = kb at *
  generalize dv (mv (cof w) (Ll e c)).l = kc at *
  generalize dv (mv (cof w) (Ll e d)).l = kd at *
  have nab : ln w e a ≠ ln w e b := fun z => by
    have := (pv_eq (ln_ne hw he ha) (ln_ne hw he hb)).mp z
    rw [mv_cr, cr_Ll, mv_sm] at this
    exact mv_ne (c0 (c0 hw)) (cv_n0 he) ((sm0 hab).mp this)
  have T := thr_sum (ln_pr hw he ha) (ln_pr hw he hb) (ln_pr hw he hc) nab (Int.mul_ne_zero hbc ca) (Int.mul_ne_zero hac cb) (Int.mul_ne_zero hab cc) sc
  refine hm_sum T (ln_pr hw he hd) hp (Int.mul_ne_zero hab cc) (Int.mul_ne_zero hab cd) sc sd ?_
  simp only [cf]
  have : br d b * ka * (br a c * kb) * p.d - br a d * kb * (br c b * ka) * p.n = ka * kb * (br d b * br a c * p.d - br a d * br c b * p.n) := by grind
  rw [this, h, Int.sub_self, Int.mul_zero]
/-- the curve's own ratio -/
def c4 (a b c d : Int × Int) : F2 := pf ⟨br d b * br a c, br a d * br c b⟩
theorem c4_ne (hd : P0 d) (hab : br a b ≠ 0) (hac : br a c ≠ 0) (hbc : br c b ≠ 0) : (⟨br d b * br a c, br a d * br c b⟩ : F2) ≠ F0 := fun z => by
  simp only [F0, F2.mk.injEq] at z
  have h1 := (Int.mul_eq_zero.mp z.1).resolve_right hac
  have h2 := (Int.mul_eq_zero.mp z.2).resolve_right hbc
  have k1 : br a b * d.1 = br d b * a.1 + br a d * b.1 := by unfold br; grind
  have k2 : br a b * d.2 = br d b * a.2 + br a d * b.2 := by unfold br; grind
  rw [h1, h2] at k1 k2
  simp only [Int.zero_mul, Int.add_zero] at k1 k2
  rcases hd with g | g
  · exact Int.mul_ne_zero hab g k1
  · exact Int.mul_ne_zero hab g k2
theorem c4_pq (hd : P0 d) (hab : br a b ≠ 0) (hac : br a c ≠ 0) (hbc : br c b ≠ 0) : Pq (c4 a b c d) := pf_pq (c4_ne hd hab hac hbc)
theorem c4_h (hd : P0 d) (hab : br a b ≠ 0) (hac : br a c ≠ 0) (hbc : br c b ≠ 0) : br d b * br a c * (c4 a b c d).d = br a d * br c b * (c4 a b c d).n := by
  obtain ⟨h1, h2⟩ := pf_mul (c4_ne hd hab hac hbc)
  simp only at h1 h2
  unfold c4
  generalize pf ⟨br d b * br a c, br a d * br c b⟩ = f at *
  rw [h1, h2]
  grind
/-- the fourth by a pair -/
def f4 (a b c : Int × Int) (p : F2) : Int × Int := (p.n * br c b * a.1 + p.d * br a c * b.1, p.n * br c b * a.2 + p.d * br a c * b.2)
theorem f4_1 : br (f4 a b c p) b = p.n * br c b * br a b := by unfold f4 br; grind
theorem f4_2 : br a (f4 a b c p) = p.d * br a c * br a b := by unfold f4 br; grind
theorem f4_0 (hab : br a b ≠ 0) (hac : br a c ≠ 0) (hbc : br c b ≠ 0) (hp : p ≠ F0) : P0 (f4 a b c p) := by
  refine Classical.byContradiction fun hn => ?_
  have z1 : (f4 a b c p).1 = 0 := Classical.byContradiction fun g => hn (.inl g)
  have z2 : (f4 a b c p).2 = 0 := Classical.byContradiction fun g => hn (.inr g)
  have e1 := f4_1 (a := a) (b := b) (c := c) (p := p)
  have e2 := f4_2 (a := a) (b := b) (c := c) (p := p)
  have y1 : br (f4 a b c p) b = 0 := by unfold br; rw [z1, z2]; simp
  have y2 : br a (f4 a b c p) = 0 := by unfold br; rw [z1, z2]; simp
  rw [y1] at e1
  rw [y2] at e2
  have n1 := (Int.mul_eq_zero.mp ((Int.mul_eq_zero.mp e1.symm).resolve_right hab)).resolve_right hbc
  have n2 := (Int.mul_eq_zero.mp ((Int.mul_eq_zero.mp e2.symm).resolve_right hab)).resolve_right hac
  obtain ⟨x, y⟩ := p
  simp only at n1 n2
  exact hp (by rw [n1, n2]; rfl)
theorem f4_h : br (f4 a b c p) b * br a c * p.d = br a (f4 a b c p) * br c b * p.n := by
  rw [f4_1, f4_2]; grind
theorem c4_f4 (hab : br a b ≠ 0) (hac : br a c ≠ 0) (hbc : br c b ≠ 0) (hp : Pq p) : c4 a b c (f4 a b c p) = p := by
  have h0 := f4_0 hab hac hbc (pq_ne hp)
  have := cf_pf (c4_ne h0 hab hac hbc) (pq_ne hp) (by simp only [cf]; have := f4_h (a := a) (b := b) (c := c) (p := p); omega)
  unfold c4
  rw [this, pf_of hp]
/-- the second point on the line to d -/
theorem sec_on (hw : det w ≠ 0) (ha : P0 a) (hd : P0 d) : On (tn w Q0) (pw w a) (ln w a d) := by
  refine ⟨full_w hw, pw_p hw ha, ln_pr hw ha hd, pw_on hw ha, ?_⟩
  refine (Sim.dt (pv_sim (mv_ne hw (cv_n0 ha))) (pv_sim (ln_ne hw ha hd))).mpr ?_
  rw [dt_comm, mv_dt, dt_comm, dt_Ll.2, Int.mul_zero]
theorem sec_ln (hw : det w ≠ 0) (ha : 1 ≤ a.2) (hd : P0 d) : sec (tn w Q0) (pw w a) (ln w a d) = pw w d := by
  have o := sec_on hw (.of ha) hd
  by_cases h : br a d = 0
  · have e := (pw_eq hw (.of ha) hd).mpr h
    rw [← e]
    exact o.polar.mpr (ln_tb hw ha hd h).symm
  · refine o.other (pw_p hw hd) (pw_on hw hd) ?_ fun z => h ((pw_eq hw (.of ha) hd).mp z.symm)
    refine (Sim.dt (pv_sim (mv_ne hw (cv_n0 hd))) (pv_sim (ln_ne hw (.of ha) hd))).mpr ?_
    rw [dt_comm, mv_dt, dt_comm, dt_Ll.1, Int.mul_zero]
end
end FV
set_option Elab.async false
set_option linter.all false
set_option maxRecDepth 100000
/-! Wg: the program's ratios on a curve. -/
namespace FV
section
variable {n : Nat} {S : Store} {k X : D → Store → Prop} {u v x y z l : T3} {s t r : Nat} {m w : M3} {q : C6} {a b c d e : Int × Int} {p : F2}
/-- numbers of points in bounds -/
def bp (t : Nat) (a : Int × Int) : Prop := bt t a.1 ∧ bt t a.2
theorem bp_mono {n m : Nat} {a : Int × Int} (h : bp n a) (l : n ≤ m) : bp m a := ⟨bt_mono h.1 l, bt_mono h.2 l⟩
theorem bv_pwp (hw : bm r w) (h : bp t a) : bv (r + 2 * t + 2) (pw w a) := bv_mono (bv_pv (bv_mv hw ⟨bt_mul h.1 h.1, bt_mul h.1 h.2, bt_mul h.2 h.2⟩)) (by omega)
theorem bv_ln (hw : bm r w) (h1 : bp s e) (h2 : bp t a) : bv (2 * r + s + t + 4) (ln w e a) := by
  have := bv_mk (bt_mul h1.2 h2.2) (bt_neg (bt_add (bt_mul h1.1 h2.2) (bt_mul h1.2 h2.1))) (bt_mul h1.1 h2.1)
  exact bv_mono (bv_pv (bv_mv (bm_cof hw) this)) (by omega)
theorem bt_br (h1 : bp s a) (h2 : bp t b) : bt (s + t + 1) (br a b) := bt_mono (bt_sub (bt_mul h1.1 h2.2) (bt_mul h1.2 h2.1)) (by omega)
/-- a curve by its view: live -/
structure Cw (w : M3) (r : Nat) : Prop where
  d : det w ≠ 0
  b : bm r w
theorem Cw.pc (h : Cw w r) : Pc (tn w Q0) := tn_pc h.d n6_Q0
theorem Cw.bc (h : Cw w r) : bc (4 * r + 8) (tn w Q0) := bc_mono (bc_tn bc_Q0 h.b h.d n6_Q0) (by omega)
theorem s_line_to_w (h : Cw w r) (he : 1 ≤ e.2) (ha : P0 a) (b1 : bp s e) (b2 : bp t a) (le : r ≤ 200 ∧ s ≤ 200 ∧ t ≤ 200) (hk : k (vD (ln w e a)) S) : CT (n + 4) i_line_to [qD (tn w Q0), vD (pw w e), vD (pw w a)] S k X := by
  have u1 := bv_pwp h.b b1
  have u2 := bv_pwp h.b b2
  refine c_line_to ?_
  simp! only [f_line_to, ↓seq_v, ↓seq_f, ↓itm_v, ↓itm_f, ↓asg_v, ↓asg_f, bp_v, bp_f, bps_tv, bps_tf, ↓two_vv, ↓two_vt, ↓two_tv, ↓two_ff, ↓still_v, ↓cut_v, ↓cop_eq_v, ↓cop_ne_v, ↓cop_eq_f, ↓cop_ne_f, inD_n, inD_c, pures_c, pures_n, pure_vT, pure_fT, pure_iT, pure_bT, pure_nT, eq_v, eq_f, Bool.or_false, and_self, ↓tru_v, non_v, non_f, ty_v, ty_f, ta_v, ta_f, ↓bop_vv, ↓bop_6v, ↓cut_9a, ↓cut_9b, ↓cut_9c, tup3, tup2, v_ti, f_ti, zipD, wp_cc, true_and, decide_true, decide_false, eq_self, sz_0, sz_1, sz_2, sz_3, sz_4, sz_5, sz_6, sz_7, sz_8, sz_9, sz_10, sz_11, sz_12, enm_1, enm_2, enm_3, enm_4, enm_5, enm_6, enm_7, enm_8, enm_9, enm_10, len_1, len_2, len_3, len_4, len_5, len_6, len_7, len_8, len_9, len_10]
  refine brk_i (fun q => ?_) fun q => ?_
  · have hn := (pw_eq h.d (.of he) ha).mp (of_decide_eq_true q)
    refine s_polar_by_w (full_w h.d) (pr_ne (pw_p h.d (.of he))) h.bc u1 (by omega) ?_
    rw [ln_tb h.d he ha hn]
    exact hk
  · have hn : br e a ≠ 0 := fun z => of_decide_eq_false q ((pw_eq h.d (.of he) ha).mpr z)
    obtain ⟨e1, e2⟩ := ln_cr h.d (.of he) ha hn
    refine s_cross_v u1 u2 (by omega) ?_
    refine s_plain_of_v e2 (bv_cr u1 u2) (by omega) ?_
    rw [e1]
    exact hk
/-- three unlike, a fourth -/
structure Q4 (w : M3) (r t : Nat) (a b c d : Int × Int) : Prop where
  w : Cw w r
  a0 : 1 ≤ a.2
  b0 : 1 ≤ b.2
  c0 : 1 ≤ c.2
  d0 : P0 d
  ba : bp 6 a
  bb : bp 6 b
  bc : bp 6 c
  bd : bp t d
  ab : br a b ≠ 0
  ac : br a c ≠ 0
  cb : br c b ≠ 0
theorem Q4.hm (h : Q4 w r t a b c d) (he : P0 e) : Hm (ln w e a) (ln w e b) (ln w e c) (ln w e d) (c4 a b c d) :=
  hm_ln h.w.d he (.of h.a0) (.of h.b0) (.of h.c0) h.d0 h.ab h.ac h.cb (c4_pq h.d0 h.ab h.ac h.cb) (c4_h h.d0 h.ab h.ac h.cb)
theorem s_ratio_hm {a b c d : Nat} {w : T3} (H : Hm x y z w p) (b1 : bv a x) (b2 : bv b y) (b3 : bv c z) (b4 : bv d w) (l : a ≤ 1000 ∧ b ≤ 1000 ∧ c ≤ 1000 ∧ d ≤ 1000) (h : k (fD p) S) : CT (n + 4) i_ratio_by [vD x, vD y, vD z, vD w] S k X :=
  s_ratio_by_v b1 b2 b3 b4 l (cr_ne H.f.p1 H.f.p2 H.f.n1.symm) (rt_ne H.f) (by rw [H.r]; exact h)
theorem s_curve_ratio_by_w (h : Q4 w r t a b c d) (le : r ≤ 50 ∧ t ≤ 100) (hk : k (fD (c4 a b c d)) S) : CT (n + 5) i_curve_ratio_by [qD (tn w Q0), .tup [vD (pw w a), vD (pw w b), vD (pw w c), vD (pw w d)]] S k X := by
  have la := bv_ln h.w.b h.ba h.ba
  have lb := bv_ln h.w.b h.ba h.bb
  have lc := bv_ln h.w.b h.ba h.bc
  have ld := bv_ln h.w.b h.ba h.bd
  refine c_curve_ratio_by ?_
  simp! only [f_curve_ratio_by, lc_app', fc_cons, fc_nil, ↓seq_v, ↓seq_f, ↓itm_v, ↓itm_f, ↓asg_v, ↓asg_f, bp_v, bp_f, bps_tv, bps_tf, ↓two_vv, ↓two_vt, ↓two_tv, ↓two_ff, ↓still_v, ↓cut_v, ↓cop_eq_v, ↓cop_ne_v, ↓cop_eq_f, ↓cop_ne_f, inD_n, inD_c, pures_c, pures_n, pure_vT, pure_fT, pure_iT, pure_bT, pure_nT, eq_v, eq_f, Bool.or_false, and_self, ↓tru_v, non_v, non_f, ty_v, ty_f, ta_v, ta_f, ↓bop_vv, ↓bop_6v, ↓cut_9a, ↓cut_9b, ↓cut_9c, tup3, tup2, v_ti, f_ti, zipD, wp_cc, true_and, decide_true, decide_false, eq_self, sz_0, sz_1, sz_2, sz_3, sz_4, sz_5, sz_6, sz_7, sz_8, sz_9, sz_10, sz_11, sz_12, enm_1, enm_2, enm_3, enm_4, enm_5, enm_6, enm_7, enm_8, enm_9, enm_10, len_1, len_2, len_3, len_4, len_5, len_6, len_7, len_8, len_9, len_10]
  refine s_line_to_w h.w h.a0 (.of h.a0) h.ba h.ba (by omega) ?_
  refine s_line_to_w h.w h.a0 (.of h.b0) h.ba h.bb (by omega) ?_
  refine s_line_to_w h.w h.a0 (.of h.c0) h.ba h.bc (by omega) ?_
  refine s_line_to_w h.w h.a0 h.d0 h.ba h.bd (by omega) ?_
  exact s_ratio_hm (h.hm (.of h.a0)) la lb lc ld (by omega) hk
theorem s_are_unlike3 (h1 : v ≠ u) (h2 : x ≠ u) (h3 : x ≠ v) (hk : k (.bl true) S) : CT (n + 1) i_are_unlike [.tup [vD u, vD v, vD x]] S k X := by
  refine c_are_unlike ?_
  simp! only [f_are_unlike, lc_app', fc_cons, fc_nil, ↓seq_v, ↓seq_f, ↓itm_v, ↓itm_f, ↓asg_v, ↓asg_f, bp_v, bp_f, bps_tv, bps_tf, ↓two_vv, ↓two_vt, ↓two_tv, ↓two_ff, ↓still_v, ↓cut_v, ↓cop_eq_v, ↓cop_ne_v, ↓cop_eq_f, ↓cop_ne_f, inD_n, inD_c, pures_c, pures_n, pure_vT, pure_fT, pure_iT, pure_bT, pure_nT, eq_v, eq_f, Bool.or_false, and_self, ↓tru_v, non_v, non_f, ty_v, ty_f, ta_v, ta_f, ↓bop_vv, ↓bop_6v, ↓cut_9a, ↓cut_9b, ↓cut_9c, tup3, tup2, v_ti, f_ti, zipD, wp_cc, true_and, decide_true, decide_false, eq_self, sz_0, sz_1, sz_2, sz_3, sz_4, sz_5, sz_6, sz_7, sz_8, sz_9, sz_10, sz_11, sz_12, enm_1, enm_2, enm_3, enm_4, enm_5, enm_6, enm_7, enm_8, enm_9, enm_10, len_1, len_2, len_3, len_4, len_5, len_6, len_7, len_8, len_9, len_10]
  have e0 : slice [vD u, vD v, vD x] none (some 0) = [] := rfl
  have e1 : slice [vD u, vD v, vD x] none (some 1) = [vD u] := rfl
  have e2 : slice [vD u, vD v, vD x] none (some 2) = [vD u, vD v] := rfl
  rw [e0, e1, e2]
  simp only [↓seq_v, ↓seq_f, ↓itm_v, ↓itm_f, ↓asg_v, ↓asg_f, bp_v, bp_f, bps_tv, bps_tf, ↓two_vv, ↓two_vt, ↓two_tv, ↓two_ff, ↓still_v, ↓cut_v, ↓cop_eq_v, ↓cop_ne_v, ↓cop_eq_f, ↓cop_ne_f, inD_n, inD_c, pures_c, pures_n, pure_vT, pure_fT, pure_iT, pure_bT, pure_nT, eq_v, eq_f, Bool.or_false, and_self, ↓tru_v, non_v, non_f, ty_v, ty_f, ta_v, ta_f, ↓bop_vv, ↓bop_6v, ↓cut_9a, ↓cut_9b, ↓cut_9c, tup3, tup2, v_ti, f_ti, zipD, wp_cc, true_and, decide_true, decide_false, eq_self, sz_0, sz_1, sz_2, sz_3, sz_4, sz_5, sz_6, sz_7, sz_8, sz_9, sz_10, sz_11, sz_12, enm_1, enm_2, enm_3, enm_4, enm_5, enm_6, enm_7, enm_8, enm_9, enm_10, len_1, len_2, len_3, len_4, len_5, len_6, len_7, len_8, len_9, len_10]
  rw [decide_eq_false (Ne.symm h1), decide_eq_false (Ne.symm h2), decide_eq_false (Ne.symm h3)]
  exact hk
theorem s_check_three_w {us : List T3} {a b : Nat} {q : C6} (bq : bc a q) (hf : det (tb q) ≠ 0) (he : emp q = false) (h3 : ∃ u v x r, us = u :: v :: x :: r ∧ v ≠ u ∧ x ≠ u ∧ x ≠ v) (hu : ∀ u ∈ us, bv b u ∧ qv q u = 0) (le : a ≤ 5000 ∧ b ≤ 100000) (hz : us.length ≤ 1000) (hk : k .non S) : CT (n + 6) i_check_three [qD q, .tup (us.map vD)] S k X := by
  refine c_check_three ?_
  simp! only [f_check_three]
  refine s_check_on_w bq hf he hu le hz ?_
  obtain ⟨u, v, x, r, rfl, h1, h2, h3⟩ := h3
  simp! only [List.map_cons, sl_3]
  refine s_are_unlike3 h1 h2 h3 ?_
  simp! only [↓ev_v0]
  exact hk
theorem Q4.unl (h : Q4 w r t a b c d) : pw w b ≠ pw w a ∧ pw w c ≠ pw w a ∧ pw w c ≠ pw w b := by
  refine ⟨fun z => ?_, fun z => ?_, fun z => ?_⟩
  · exact h.ab ((pw_eq h.w.d (.of h.a0) (.of h.b0)).mp z.symm)
  · exact h.ac ((pw_eq h.w.d (.of h.a0) (.of h.c0)).mp z.symm)
  · exact h.cb ((pw_eq h.w.d (.of h.c0) (.of h.b0)).mp z)
theorem Q4.on (h : Q4 w r t a b c d) (le : 6 ≤ t) : ∀ u ∈ [pw w a, pw w b, pw w c, pw w d], bv (r + 2 * t + 2) u ∧ qv (tn w Q0) u = 0 := by
  intro u hu
  simp only [List.mem_cons, List.not_mem_nil, or_false] at hu
  rcases hu with rfl | rfl | rfl | rfl
  · exact ⟨bv_pwp h.w.b (bp_mono h.ba le), pw_on h.w.d (.of h.a0)⟩
  · exact ⟨bv_pwp h.w.b (bp_mono h.bb le), pw_on h.w.d (.of h.b0)⟩
  · exact ⟨bv_pwp h.w.b (bp_mono h.bc le), pw_on h.w.d (.of h.c0)⟩
  · exact ⟨bv_pwp h.w.b h.bd, pw_on h.w.d h.d0⟩
theorem s_curve_ratio_w (h : Q4 w r t a b c d) (le : r ≤ 50 ∧ 6 ≤ t ∧ t ≤ 100) (hk : k (fD (c4 a b c d)) S) : CT (n + 8) i_curve_ratio [qD (tn w Q0), vD (pw w a), vD (pw w b), vD (pw w c), vD (pw w d)] S k X := by
  have pa := pw_p h.w.d (.of h.a0)
  refine c_curve_ratio ?_
  simp! only [f_curve_ratio]
  refine s_check_curve_w h.w.pc ?_
  try walk_at "fx"
  refine s_check_points4 pa (pw_p h.w.d (.of h.b0)) (pw_p h.w.d (.of h.c0)) (pw_p h.w.d h.d0) ?_
  try walk_at "fx"
  refine s_check_three_w (us := [pw w a, pw w b, pw w c, pw w d]) h.w.bc (full_w h.w.d) (emp_f (pr_ne pa) (pw_on h.w.d (.of h.a0))) ⟨_, _, _, _, rfl, h.unl⟩ (h.on le.2.1) (by omega) (by simp) ?_
  try walk_at "fx"
  exact s_curve_ratio_by_w h (by omega) hk
theorem s_curve_fourth_w (h : Q4 w r t a b c d) (hp : Pq p) (e4 : br d b * br a c * p.d = br a d * br c b * p.n) (h1 : bt 100 p.n) (h2 : bt 100 p.d) (le : r ≤ 50 ∧ 6 ≤ t ∧ t ≤ 100) (hk : k (vD (pw w d)) S) : CT (n + 8) i_curve_fourth [qD (tn w Q0), vD (pw w a), vD (pw w b), vD (pw w c), fD p] S k X := by
  have pa := pw_p h.w.d (.of h.a0)
  have la := bv_ln h.w.b h.ba h.ba
  have lb := bv_ln h.w.b h.ba h.bb
  have lc := bv_ln h.w.b h.ba h.bc
  have ld := bv_ln h.w.b h.ba h.bd
  have ua := bv_pwp h.w.b h.ba
  refine c_curve_fourth ?_
  simp! only [f_curve_fourth]
  refine s_check_curve_w h.w.pc ?_
  try walk_at "fx"
  refine s_check_points3 pa (pw_p h.w.d (.of h.b0)) (pw_p h.w.d (.of h.c0)) ?_
  try walk_at "fx"
  refine s_is_plain (ns := p.l) (by simp [F2.l, SZ]) rfl hp ?_
  try walk_at "fx"
  refine s_check_three_w (us := [pw w a, pw w b, pw w c]) h.w.bc (full_w h.w.d) (emp_f (pr_ne pa) (pw_on h.w.d (.of h.a0))) ⟨_, _, _, _, rfl, h.unl⟩ (fun u hu => h.on le.2.1 u (by simp only [List.mem_cons, List.not_mem_nil, or_false] at hu ⊢; rcases hu with rfl | rfl | rfl <;> simp)) (by omega) (by simp) ?_
  try walk_at "fx"
  refine c_curve_fourth_by ?_
  simp! only [f_curve_fourth_by, lc_app', fc_cons, fc_nil, ↓seq_v, ↓seq_f, ↓itm_v, ↓itm_f, ↓asg_v, ↓asg_f, bp_v, bp_f, bps_tv, bps_tf, ↓two_vv, ↓two_vt, ↓two_tv, ↓two_ff, ↓still_v, ↓cut_v, ↓cop_eq_v, ↓cop_ne_v, ↓cop_eq_f, ↓cop_ne_f, inD_n, inD_c, pures_c, pures_n, pure_vT, pure_fT, pure_iT, pure_bT, pure_nT, eq_v, eq_f, Bool.or_false, and_self, ↓tru_v, non_v, non_f, ty_v, ty_f, ta_v, ta_f, ↓bop_vv, ↓bop_6v, ↓cut_9a, ↓cut_9b, ↓cut_9c, tup3, tup2, v_ti, f_ti, zipD, wp_cc, true_and, decide_true, decide_false, eq_self, sz_0, sz_1, sz_2, sz_3, sz_4, sz_5, sz_6, sz_7, sz_8, sz_9, sz_10, sz_11, sz_12, enm_1, enm_2, enm_3, enm_4, enm_5, enm_6, enm_7, enm_8, enm_9, enm_10, len_1, len_2, len_3, len_4, len_5, len_6, len_7, len_8, len_9, len_10]
  refine s_line_to_w h.w h.a0 (.of h.a0) h.ba h.ba (by omega) ?_
  refine s_line_to_w h.w h.a0 (.of h.b0) h.ba h.bb (by omega) ?_
  refine s_line_to_w h.w h.a0 (.of h.c0) h.ba h.bc (by omega) ?_
  have H : Hm (ln w a a) (ln w a b) (ln w a c) (ln w a d) p := hm_ln h.w.d (.of h.a0) (.of h.a0) (.of h.b0) (.of h.c0) h.d0 h.ab h.ac h.cb hp e4
  refine s_fourth_by_v H la lb lc h1 h2 (by omega) ?_
  refine s_second_by_w (sec_on h.w.d (.of h.a0) h.d0) h.w.bc ua ld (by omega) ?_
  rw [sec_ln h.w.d h.a0 h.d0]
  exact hk
theorem pf_10 {k : Int} (h : k ≠ 0) : pf ⟨k, 0⟩ = ⟨1, 0⟩ := by
  have := pf_sm (f := ⟨1, 0⟩) (c := k) (by decide) h
  simp only [Int.mul_one, Int.mul_zero] at this
  rw [this]; decide
theorem pf_01 {k : Int} (h : k ≠ 0) : pf ⟨0, k⟩ = ⟨0, 1⟩ := by
  have := pf_sm (f := ⟨0, 1⟩) (c := k) (by decide) h
  simp only [Int.mul_one, Int.mul_zero] at this
  rw [this]; decide
theorem pf_11 {k : Int} (h : k ≠ 0) : pf ⟨k, k⟩ = ⟨1, 1⟩ := by
  have := pf_sm (f := ⟨1, 1⟩) (c := k) (by decide) h
  simp only [Int.mul_one] at this
  rw [this]; decide
theorem br_self : br a a = 0 := by unfold br; grind
theorem c4_a (hab : br a b ≠ 0) (hac : br a c ≠ 0) : c4 a b c a = ⟨1, 0⟩ := by
  unfold c4
  rw [br_self, Int.zero_mul]
  exact pf_10 (Int.mul_ne_zero hab hac)
theorem c4_b (hab : br a b ≠ 0) (hcb : br c b ≠ 0) : c4 a b c b = ⟨0, 1⟩ := by
  unfold c4
  rw [br_self, Int.zero_mul]
  exact pf_01 (Int.mul_ne_zero hab hcb)
theorem c4_c (hac : br a c ≠ 0) (hcb : br c b ≠ 0) : c4 a b c c = ⟨1, 1⟩ := by
  unfold c4
  rw [Int.mul_comm (br a c) (br c b)]
  exact pf_11 (Int.mul_ne_zero hcb hac)
theorem Q4.to {d' : Int × Int} {t' : Nat} (h : Q4 w r t a b c d) (h0 : P0 d') (hb : bp t' d') : Q4 w r t' a b c d' := ⟨h.w, h.a0, h.b0, h.c0, h0, h.ba, h.bb, h.bc, hb, h.ab, h.ac, h.cb⟩
theorem c4_bt (h : Q4 w r 6 a b c d) : bt 26 (c4 a b c d).n ∧ bt 26 (c4 a b c d).d :=
  bt_pf (f := ⟨br d b * br a c, br a d * br c b⟩) ⟨bt_mul (bt_br h.bd h.bb) (bt_br h.ba h.bc), bt_mul (bt_br h.ba h.bd) (bt_br h.bc h.bb)⟩
theorem f4_bp (h : Q4 w r t a b c d) (h1 : bt s p.n) (h2 : bt s p.d) : bp (s + 20) (f4 a b c p) := by
  have x1 := bt_mul h1 (bt_br h.bc h.bb)
  have x2 := bt_mul h2 (bt_br h.ba h.bc)
  exact ⟨bt_mono (bt_add (bt_mul x1 h.ba.1) (bt_mul x2 h.bb.1)) (by omega), bt_mono (bt_add (bt_mul x1 h.ba.2) (bt_mul x2 h.bb.2)) (by omega)⟩
theorem pw_mm {v : M3} (hw : det w ≠ 0) (ha : P0 a) : pv (mv v (pw w a)) = pw (mm v w) a ∨ det v = 0 := by
  by_cases hv : det v = 0
  · exact .inr hv
  left
  have n1 := mv_ne hw (cv_n0 ha)
  have s := (pv_sim n1).mv (m := v)
  rw [← mv_mm] at s
  exact s.pv (mv_ne hv (pr_ne (pw_p hw ha)))
theorem Rn.q4 {many : Nat} {ps : List (Int × Int)} (h : Rn many w ps) (hb : bm r w) {a b c d : Int × Int} {rest : List (Int × Int)} (e : ps = a :: b :: c :: d :: rest) : Q4 w r 6 a b c d := by
  subst e
  have b6 : ∀ {p}, p ∈ a :: b :: c :: d :: rest → bp 6 p := fun {p} hp => by
    have h1 := h.t0 p hp
    have h2 := h.s0 p hp
    exact ⟨by unfold bt; omega, by unfold bt; omega⟩
  have ma : a ∈ a :: b :: c :: d :: rest := by simp
  have mb : b ∈ a :: b :: c :: d :: rest := by simp
  have mc : c ∈ a :: b :: c :: d :: rest := by simp
  have md : d ∈ a :: b :: c :: d :: rest := by simp
  have u1 := (List.pairwise_cons.mp h.un).1
  have u2 := (List.pairwise_cons.mp (List.pairwise_cons.mp h.un).2).1
  have hd := h.vw.2
  refine ⟨⟨hd, hb⟩, (h.t0 a ma).1, (h.t0 b mb).1, (h.t0 c mc).1, .of (h.t0 d md).1, b6 ma, b6 mb, b6 mc, b6 md, fun z => ?_, fun z => ?_, fun z => ?_⟩
  · exact u1 b (by simp) ((pw_eq hd (.of (h.t0 a ma).1) (.of (h.t0 b mb).1)).mpr z)
  · exact u1 c (by simp) ((pw_eq hd (.of (h.t0 a ma).1) (.of (h.t0 c mc).1)).mpr z)
  · exact u2 c (by simp) ((pw_eq hd (.of (h.t0 c mc).1) (.of (h.t0 b mb).1)).mpr z).symm
theorem alm_f {m : Nat} : alm (m + 2) (fD p) = true := rfl
end
end FV
set_option Elab.async false
set_option linter.all false
set_option maxRecDepth 100000
/-! P_k76: the law of ratios on a curve. -/
namespace FV
def r_law_multiples_v2_2 : List Sm := (.ret (.tup [(.idx (.call 79 [(.var 2), (.var 1)]) (.var 4)), (.idx (.call 79 [(.var 0), (.var 2)]) (.var 4)), (.idx (.var 3) (.var 4))])) :: []
def r_law_multiples_v2_0 : List Sm := (.set (.pt (.nm 3)) (.call 79 [(.var 0), (.var 1)])) :: (.set (.pt (.nm 4)) (.idx (.lc false [5] (.nm 5) (.rng1 (.cst (.int 3))) (some (.cmp .ne (.idx (.var 3) (.var 5)) (.cst (.int 0)))) (.var 5)) (.cst (.int 0)))) :: r_law_multiples_v2_2
theorem rb_law_multiples_v2 : f_law_multiples_v2 = ⟨3, 6, r_law_multiples_v2_0⟩ := rfl
def r_law_is_right_v5_10 : List Sm := (.ret (.call 319 [(.call 698 [(.call 225 [(.var 14), (.var 1)]), (.idx (.var 15) (.cst (.int 0))), (.idx (.var 15) (.cst (.int 1))), (.idx (.var 15) (.cst (.int 2))), (.idx (.var 15) (.cst (.int 3)))]), (.var 8)])) :: []
def r_law_is_right_v5_9 : List Sm := (.set (.pt (.nm 15)) (.lc false [11] (.nm 11) (.tup [(.var 4), (.var 5), (.var 6), (.var 7)]) none (.call 656 [(.var 14), (.var 11)]))) :: r_law_is_right_v5_10
def r_law_is_right_v5_8 : List Sm := (.set (.pt (.nm 14)) (.call 689 [(.var 0), (.cst (.int 3))])) :: r_law_is_right_v5_9
def r_law_is_right_v5_7 : List Sm := (.iff (.or (.cmp .isnot (.call 680 [(.var 1), (.var 13)]) (.cst (.bl true))) (.or (.cmp .ne (.call 702 [(.var 1), (.tup [(.var 4), (.var 5), (.var 6), (.var 13)]), (.var 4)]) (.var 12)) (.not (.call 319 [(.call 698 [(.var 1), (.var 4), (.var 5), (.var 6), (.var 13)]), (.var 12)])))) [.ret (.cst (.bl false))] []) :: r_law_is_right_v5_8
def r_law_is_right_v5_6 : List Sm := (.set (.pt (.nm 13)) (.call 696 [(.var 1), (.var 4), (.var 5), (.var 6), (.var 12)])) :: r_law_is_right_v5_7
def r_law_is_right_v5_5 : List Sm := (.set (.pt (.nm 12)) (.call 630 [(.tup [(.bin .sub (.call 687 [(.var 0), (.cst (.int 9))]) (.cst (.int 4))), (.bin .add (.cst (.int 1)) (.call 687 [(.var 0), (.cst (.int 4))]))])])) :: r_law_is_right_v5_6
def r_law_is_right_v5_4 : List Sm := (.iff (.or (.not (.call 319 [(.var 10), (.var 7)])) (.not (.call 319 [(.bi .tuple [(.lc false [11] (.nm 11) (.tup [(.var 4), (.var 5), (.var 6)]) none (.call 698 [(.var 1), (.var 4), (.var 5), (.var 6), (.var 11)]))]), (.tup [(.tup [(.cst (.int 1)), (.cst (.int 0))]), (.tup [(.cst (.int 0)), (.cst (.int 1))]), (.tup [(.cst (.int 1)), (.cst (.int 1))])])]))) [.ret (.cst (.bl false))] []) :: r_law_is_right_v5_5
def r_law_is_right_v5_3 : List Sm := (.set (.pt (.nm 10)) (.ite (.var 3) (.callk 696 [4, 3, 2, 1, 0] [(.var 8), (.var 6), (.var 5), (.var 4), (.var 1)]) (.call 696 [(.var 1), (.var 4), (.var 5), (.var 6), (.var 8)]))) :: r_law_is_right_v5_4
def r_law_is_right_v5_2 : List Sm := (.iff (.not (.bi .all [(.lc false [9] (.nm 9) (.var 2) none (.call 319 [(.var 8), (.call 702 [(.var 1), (.tup [(.var 4), (.var 5), (.var 6), (.var 7)]), (.var 9)])]))])) [.ret (.cst (.bl false))] []) :: r_law_is_right_v5_3
def r_law_is_right_v5_1 : List Sm := (.set (.pt (.nm 8)) (.ite (.var 3) (.callk 698 [4, 3, 2, 1, 0] [(.var 7), (.var 6), (.var 5), (.var 4), (.var 1)]) (.call 698 [(.var 1), (.var 4), (.var 5), (.var 6), (.var 7)]))) :: r_law_is_right_v5_2
def r_law_is_right_v5_0 : List Sm := (.set (.pt (.tp [(.nm 4), (.nm 5), (.nm 6), (.nm 7)])) (.slc (.var 2) none (some (.cst (.int 4))))) :: r_law_is_right_v5_1
theorem rb_law_is_right_v5 : f_law_is_right_v5 = ⟨4, 16, r_law_is_right_v5_0⟩ := rfl
def r_law_right_v37_0_3 : List Sm := (.iff (.not (.call 319 [(.call 696 [(.var 2), (.idx (.var 3) (.cst (.int 0))), (.idx (.var 3) (.cst (.int 1))), (.idx (.var 3) (.cst (.int 2))), (.idx (.tup [(.tup [(.cst (.int 1)), (.cst (.int 0))]), (.tup [(.cst (.int 0)), (.cst (.int 1))]), (.tup [(.cst (.int 1)), (.cst (.int 1))])]) (.var 4))]), (.idx (.var 3) (.var 4))])) [.ret (.cst (.bl false))] []) :: []
def r_law_right_v37_0_2 : List Sm := (.set (.pt (.nm 4)) (.call 687 [(.var 0), (.cst (.int 3))])) :: r_law_right_v37_0_3
def r_law_right_v37_0_1 : List Sm := (.iff (.not (.call 703 [(.var 0), (.var 2), (.var 3), (.cmp .eq (.var 1) (.cst (.int 1)))])) [.ret (.cst (.bl false))] []) :: r_law_right_v37_0_2
def r_law_right_v37_0_0 : List Sm := (.set (.pt (.tp [(.nm 2), (.nm 3)])) (.call 691 [(.var 0), (.cst (.int 6)), (.call 690 [(.var 0), (.tup [(.cst (.int 3)), (.cst (.int 3)), (.cst (.int 40))])])])) :: r_law_right_v37_0_1
theorem rb_law_right_v37_0 : f_law_right_v37 = ⟨1, 5, [.for_ (.nm 1) (.rng1 (.cst (.int 16))) r_law_right_v37_0_0, .ret (.cst (.bl true))]⟩ := rfl
section
variable {n : Nat} {S : Store} {k X : D → Store → Prop} {u v x y z : T3} {a b c d : Nat} {m w : M3} {q : C6} {p : F2}
def mlD (x y z : T3) : D := .tup [.int (pts x y z).n, .int (pts x y z).d, .int (pk (cr x y) (cr x y))]
theorem s_law_multiples_w (hu : bv a x) (hv : bv b y) (hw : bv c z) (l : a ≤ 1000 ∧ b ≤ 1000 ∧ c ≤ 1000) (h0 : cr x y ≠ V0) (h : k (mlD x y z) S) : CT (n + 2) i_law_multiples_v2 [vD x, vD y, vD z] S k X := by
  refine c_law_multiples_v2 ?_
  simp! only [rb_law_multiples_v2, r_law_multiples_v2_0, ↓seq_v, ↓seq_f, ↓itm_v, ↓itm_f, ↓asg_v, ↓asg_f, bp_v, bp_f, bps_tv, bps_tf, ↓two_vv, ↓two_vt, ↓two_tv, ↓two_ff, ↓still_v, ↓cut_v, ↓cop_eq_v, ↓cop_ne_v, ↓cop_eq_f, ↓cop_ne_f, inD_n, inD_c, pures_c, pures_n, pure_vT, pure_fT, pure_iT, pure_bT, pure_nT, eq_v, eq_f, Bool.or_false, and_self, ↓tru_v, non_v, non_f, ty_v, ty_f, ta_v, ta_f, ↓bop_vv, ↓bop_6v, ↓cut_9a, ↓cut_9b, ↓cut_9c, tup3, tup2, v_ti, f_ti, zipD, wp_cc, true_and, decide_true, decide_false, eq_self, sz_0, sz_1, sz_2, sz_3, sz_4, sz_5, sz_6, sz_7, sz_8, sz_9, sz_10, sz_11, sz_12, enm_1, enm_2, enm_3, enm_4, enm_5, enm_6, enm_7, enm_8, enm_9, enm_10, len_1, len_2, len_3, len_4, len_5, len_6, len_7, len_8, len_9, len_10]
  refine s_law_cross68 hu hv (by omega) ?_
  simp! only [lc_app', fc_cons, fc_nil, ↓seq_v, ↓seq_f, ↓itm_v, ↓itm_f, ↓asg_v, ↓asg_f, bp_v, bp_f, bps_tv, bps_tf, ↓two_vv, ↓two_vt, ↓two_tv, ↓two_ff, ↓still_v, ↓cut_v, ↓cop_eq_v, ↓cop_ne_v, ↓cop_eq_f, ↓cop_ne_f, inD_n, inD_c, pures_c, pures_n, pure_vT, pure_fT, pure_iT, pure_bT, pure_nT, eq_v, eq_f, Bool.or_false, and_self, ↓tru_v, non_v, non_f, ty_v, ty_f, ta_v, ta_f, ↓bop_vv, ↓bop_6v, ↓cut_9a, ↓cut_9b, ↓cut_9c, tup3, tup2, v_ti, f_ti, zipD, wp_cc, true_and, decide_true, decide_false, eq_self, sz_0, sz_1, sz_2, sz_3, sz_4, sz_5, sz_6, sz_7, sz_8, sz_9, sz_10, sz_11, sz_12, enm_1, enm_2, enm_3, enm_4, enm_5, enm_6, enm_7, enm_8, enm_9, enm_10, len_1, len_2, len_3, len_4, len_5, len_6, len_7, len_8, len_9, len_10]
  refine ⟨by decide, ?_⟩
  have g0 : (cr x y).x ≠ 0 → exs (CT (n + 1)) X r_law_multiples_v2_2 [some (vD x), some (vD y), some (vD z), some (vD (cr x y)), some (.int 0), none] S { nx := fun _ S1 => k .non S1, rt := k, bk := fun _ _ => False, ct := fun _ _ => False } := fun h1 => by
    simp! only [r_law_multiples_v2_2, ↓seq_v, ↓seq_f, ↓itm_v, ↓itm_f, ↓asg_v, ↓asg_f, bp_v, bp_f, bps_tv, bps_tf, ↓two_vv, ↓two_vt, ↓two_tv, ↓two_ff, ↓still_v, ↓cut_v, ↓cop_eq_v, ↓cop_ne_v, ↓cop_eq_f, ↓cop_ne_f, inD_n, inD_c, pures_c, pures_n, pure_vT, pure_fT, pure_iT, pure_bT, pure_nT, eq_v, eq_f, Bool.or_false, and_self, ↓tru_v, non_v, non_f, ty_v, ty_f, ta_v, ta_f, ↓bop_vv, ↓bop_6v, ↓cut_9a, ↓cut_9b, ↓cut_9c, tup3, tup2, v_ti, f_ti, zipD, wp_cc, true_and, decide_true, decide_false, eq_self, sz_0, sz_1, sz_2, sz_3, sz_4, sz_5, sz_6, sz_7, sz_8, sz_9, sz_10, sz_11, sz_12, enm_1, enm_2, enm_3, enm_4, enm_5, enm_6, enm_7, enm_8, enm_9, enm_10, len_1, len_2, len_3, len_4, len_5, len_6, len_7, len_8, len_9, len_10]
    refine s_law_cross68 hw hv (by omega) ?_
    simp! only [↓seq_v, ↓seq_f, ↓itm_v, ↓itm_f, ↓asg_v, ↓asg_f, bp_v, bp_f, bps_tv, bps_tf, ↓two_vv, ↓two_vt, ↓two_tv, ↓two_ff, ↓still_v, ↓cut_v, ↓cop_eq_v, ↓cop_ne_v, ↓cop_eq_f, ↓cop_ne_f, inD_n, inD_c, pures_c, pures_n, pure_vT, pure_fT, pure_iT, pure_bT, pure_nT, eq_v, eq_f, Bool.or_false, and_self, ↓tru_v, non_v, non_f, ty_v, ty_f, ta_v, ta_f, ↓bop_vv, ↓bop_6v, ↓cut_9a, ↓cut_9b, ↓cut_9c, tup3, tup2, v_ti, f_ti, zipD, wp_cc, true_and, decide_true, decide_false, eq_self, sz_0, sz_1, sz_2, sz_3, sz_4, sz_5, sz_6, sz_7, sz_8, sz_9, sz_10, sz_11, sz_12, enm_1, enm_2, enm_3, enm_4, enm_5, enm_6, enm_7, enm_8, enm_9, enm_10, len_1, len_2, len_3, len_4, len_5, len_6, len_7, len_8, len_9, len_10]
    refine s_law_cross68 hu hw (by omega) ?_
    simp! only [↓seq_v, ↓seq_f, ↓itm_v, ↓itm_f, ↓asg_v, ↓asg_f, bp_v, bp_f, bps_tv, bps_tf, ↓two_vv, ↓two_vt, ↓two_tv, ↓two_ff, ↓still_v, ↓cut_v, ↓cop_eq_v, ↓cop_ne_v, ↓cop_eq_f, ↓cop_ne_f, inD_n, inD_c, pures_c, pures_n, pure_vT, pure_fT, pure_iT, pure_bT, pure_nT, eq_v, eq_f, Bool.or_false, and_self, ↓tru_v, non_v, non_f, ty_v, ty_f, ta_v, ta_f, ↓bop_vv, ↓bop_6v, ↓cut_9a, ↓cut_9b, ↓cut_9c, tup3, tup2, v_ti, f_ti, zipD, wp_cc, true_and, decide_true, decide_false, eq_self, sz_0, sz_1, sz_2, sz_3, sz_4, sz_5, sz_6, sz_7, sz_8, sz_9, sz_10, sz_11, sz_12, enm_1, enm_2, enm_3, enm_4, enm_5, enm_6, enm_7, enm_8, enm_9, enm_10, len_1, len_2, len_3, len_4, len_5, len_6, len_7, len_8, len_9, len_10]
    simp only [mlD, pts, pk, if_pos h1] at h
    exact h
  have g1 : (cr x y).x = 0 → (cr x y).y ≠ 0 → exs (CT (n + 1)) X r_law_multiples_v2_2 [some (vD x), some (vD y), some (vD z), some (vD (cr x y)), some (.int 1), none] S { nx := fun _ S1 => k .non S1, rt := k, bk := fun _ _ => False, ct := fun _ _ => False } := fun h1 h2 => by
    simp! only [r_law_multiples_v2_2, ↓seq_v, ↓seq_f, ↓itm_v, ↓itm_f, ↓asg_v, ↓asg_f, bp_v, bp_f, bps_tv, bps_tf, ↓two_vv, ↓two_vt, ↓two_tv, ↓two_ff, ↓still_v, ↓cut_v, ↓cop_eq_v, ↓cop_ne_v, ↓cop_eq_f, ↓cop_ne_f, inD_n, inD_c, pures_c, pures_n, pure_vT, pure_fT, pure_iT, pure_bT, pure_nT, eq_v, eq_f, Bool.or_false, and_self, ↓tru_v, non_v, non_f, ty_v, ty_f, ta_v, ta_f, ↓bop_vv, ↓bop_6v, ↓cut_9a, ↓cut_9b, ↓cut_9c, tup3, tup2, v_ti, f_ti, zipD, wp_cc, true_and, decide_true, decide_false, eq_self, sz_0, sz_1, sz_2, sz_3, sz_4, sz_5, sz_6, sz_7, sz_8, sz_9, sz_10, sz_11, sz_12, enm_1, enm_2, enm_3, enm_4, enm_5, enm_6, enm_7, enm_8, enm_9, enm_10, len_1, len_2, len_3, len_4, len_5, len_6, len_7, len_8, len_9, len_10]
    refine s_law_cross68 hw hv (by omega) ?_
    simp! only [↓seq_v, ↓seq_f, ↓itm_v, ↓itm_f, ↓asg_v, ↓asg_f, bp_v, bp_f, bps_tv, bps_tf, ↓two_vv, ↓two_vt, ↓two_tv, ↓two_ff, ↓still_v, ↓cut_v, ↓cop_eq_v, ↓cop_ne_v, ↓cop_eq_f, ↓cop_ne_f, inD_n, inD_c, pures_c, pures_n, pure_vT, pure_fT, pure_iT, pure_bT, pure_nT, eq_v, eq_f, Bool.or_false, and_self, ↓tru_v, non_v, non_f, ty_v, ty_f, ta_v, ta_f, ↓bop_vv, ↓bop_6v, ↓cut_9a, ↓cut_9b, ↓cut_9c, tup3, tup2, v_ti, f_ti, zipD, wp_cc, true_and, decide_true, decide_false, eq_self, sz_0, sz_1, sz_2, sz_3, sz_4, sz_5, sz_6, sz_7, sz_8, sz_9, sz_10, sz_11, sz_12, enm_1, enm_2, enm_3, enm_4, enm_5, enm_6, enm_7, enm_8, enm_9, enm_10, len_1, len_2, len_3, len_4, len_5, len_6, len_7, len_8, len_9, len_10]
    refine s_law_cross68 hu hw (by omega) ?_
    simp! only [↓seq_v, ↓seq_f, ↓itm_v, ↓itm_f, ↓asg_v, ↓asg_f, bp_v, bp_f, bps_tv, bps_tf, ↓two_vv, ↓two_vt, ↓two_tv, ↓two_ff, ↓still_v, ↓cut_v, ↓cop_eq_v, ↓cop_ne_v, ↓cop_eq_f, ↓cop_ne_f, inD_n, inD_c, pures_c, pures_n, pure_vT, pure_fT, pure_iT, pure_bT, pure_nT, eq_v, eq_f, Bool.or_false, and_self, ↓tru_v, non_v, non_f, ty_v, ty_f, ta_v, ta_f, ↓bop_vv, ↓bop_6v, ↓cut_9a, ↓cut_9b, ↓cut_9c, tup3, tup2, v_ti, f_ti, zipD, wp_cc, true_and, decide_true, decide_false, eq_self, sz_0, sz_1, sz_2, sz_3, sz_4, sz_5, sz_6, sz_7, sz_8, sz_9, sz_10, sz_11, sz_12, enm_1, enm_2, enm_3, enm_4, enm_5, enm_6, enm_7, enm_8, enm_9, enm_10, len_1, len_2, len_3, len_4, len_5, len_6, len_7, len_8, len_9, len_10]
    simp only [mlD, pts, pk, if_neg (fun z : (cr x y).x ≠ 0 => z h1), if_pos h2] at h
    exact h
  have g2 : (cr x y).x = 0 → (cr x y).y = 0 → exs (CT (n + 1)) X r_law_multiples_v2_2 [some (vD x), some (vD y), some (vD z), some (vD (cr x y)), some (.int 2), none] S { nx := fun _ S1 => k .non S1, rt := k, bk := fun _ _ => False, ct := fun _ _ => False } := fun h1 h2 => by
    simp! only [r_law_multiples_v2_2, ↓seq_v, ↓seq_f, ↓itm_v, ↓itm_f, ↓asg_v, ↓asg_f, bp_v, bp_f, bps_tv, bps_tf, ↓two_vv, ↓two_vt, ↓two_tv, ↓two_ff, ↓still_v, ↓cut_v, ↓cop_eq_v, ↓cop_ne_v, ↓cop_eq_f, ↓cop_ne_f, inD_n, inD_c, pures_c, pures_n, pure_vT, pure_fT, pure_iT, pure_bT, pure_nT, eq_v, eq_f, Bool.or_false, and_self, ↓tru_v, non_v, non_f, ty_v, ty_f, ta_v, ta_f, ↓bop_vv, ↓bop_6v, ↓cut_9a, ↓cut_9b, ↓cut_9c, tup3, tup2, v_ti, f_ti, zipD, wp_cc, true_and, decide_true, decide_false, eq_self, sz_0, sz_1, sz_2, sz_3, sz_4, sz_5, sz_6, sz_7, sz_8, sz_9, sz_10, sz_11, sz_12, enm_1, enm_2, enm_3, enm_4, enm_5, enm_6, enm_7, enm_8, enm_9, enm_10, len_1, len_2, len_3, len_4, len_5, len_6, len_7, len_8, len_9, len_10]
    refine s_law_cross68 hw hv (by omega) ?_
    simp! only [↓seq_v, ↓seq_f, ↓itm_v, ↓itm_f, ↓asg_v, ↓asg_f, bp_v, bp_f, bps_tv, bps_tf, ↓two_vv, ↓two_vt, ↓two_tv, ↓two_ff, ↓still_v, ↓cut_v, ↓cop_eq_v, ↓cop_ne_v, ↓cop_eq_f, ↓cop_ne_f, inD_n, inD_c, pures_c, pures_n, pure_vT, pure_fT, pure_iT, pure_bT, pure_nT, eq_v, eq_f, Bool.or_false, and_self, ↓tru_v, non_v, non_f, ty_v, ty_f, ta_v, ta_f, ↓bop_vv, ↓bop_6v, ↓cut_9a, ↓cut_9b, ↓cut_9c, tup3, tup2, v_ti, f_ti, zipD, wp_cc, true_and, decide_true, decide_false, eq_self, sz_0, sz_1, sz_2, sz_3, sz_4, sz_5, sz_6, sz_7, sz_8, sz_9, sz_10, sz_11, sz_12, enm_1, enm_2, enm_3, enm_4, enm_5, enm_6, enm_7, enm_8, enm_9, enm_10, len_1, len_2, len_3, len_4, len_5, len_6, len_7, len_8, len_9, len_10]
    refine s_law_cross68 hu hw (by omega) ?_
    simp! only [↓seq_v, ↓seq_f, ↓itm_v, ↓itm_f, ↓asg_v, ↓asg_f, bp_v, bp_f, bps_tv, bps_tf, ↓two_vv, ↓two_vt, ↓two_tv, ↓two_ff, ↓still_v, ↓cut_v, ↓cop_eq_v, ↓cop_ne_v, ↓cop_eq_f, ↓cop_ne_f, inD_n, inD_c, pures_c, pures_n, pure_vT, pure_fT, pure_iT, pure_bT, pure_nT, eq_v, eq_f, Bool.or_false, and_self, ↓tru_v, non_v, non_f, ty_v, ty_f, ta_v, ta_f, ↓bop_vv, ↓bop_6v, ↓cut_9a, ↓cut_9b, ↓cut_9c, tup3, tup2, v_ti, f_ti, zipD, wp_cc, true_and, decide_true, decide_false, eq_self, sz_0, sz_1, sz_2, sz_3, sz_4, sz_5, sz_6, sz_7, sz_8, sz_9, sz_10, sz_11, sz_12, enm_1, enm_2, enm_3, enm_4, enm_5, enm_6, enm_7, enm_8, enm_9, enm_10, len_1, len_2, len_3, len_4, len_5, len_6, len_7, len_8, len_9, len_10]
    simp only [mlD, pts, pk, if_neg (fun z : (cr x y).x ≠ 0 => z h1), if_neg (fun z : (cr x y).y ≠ 0 => z h2)] at h
    exact h
  refine brk_i (fun q => ?_) fun q => ?_
  · have h1 : (cr x y).x ≠ 0 := by simpa using q
    exact brk_same (brk_same (g0 h1))
  · have h1 : (cr x y).x = 0 := by simpa using q
    refine brk_i (fun q => ?_) fun q => ?_
    · have h2 : (cr x y).y ≠ 0 := by simpa using q
      exact brk_same (g1 h1 h2)
    · have h2 : (cr x y).y = 0 := by simpa using q
      refine brk_t ?_ (g2 h1 h2)
      have h3 : (cr x y).z ≠ 0 := fun h3 => h0 (T3.ext' h1 h2 h3)
      simpa using h3
theorem s_law_double_w {w : T3} (H : Hm x y z w p) (b1 : bv a x) (b2 : bv b y) (b3 : bv c z) (b4 : bv d w) (l : a ≤ 1000 ∧ b ≤ 1000 ∧ c ≤ 1000 ∧ d ≤ 1000) (h : k (fD p) S) : CT (n + 3) i_law_double [vD x, vD y, vD z, vD w] S k X := by
  have h0 := cr_ne H.f.p1 H.f.p2 H.f.n1.symm
  have t1 := bt_ptn b1 b2 b3
  have t2 := bt_ptd b1 b2 b3
  have t3 := bt_ptn b1 b2 b4
  have t4 := bt_ptd b1 b2 b4
  refine c_law_double ?_
  simp! only [f_law_double, ↓seq_v, ↓seq_f, ↓itm_v, ↓itm_f, ↓asg_v, ↓asg_f, bp_v, bp_f, bps_tv, bps_tf, ↓two_vv, ↓two_vt, ↓two_tv, ↓two_ff, ↓still_v, ↓cut_v, ↓cop_eq_v, ↓cop_ne_v, ↓cop_eq_f, ↓cop_ne_f, inD_n, inD_c, pures_c, pures_n, pure_vT, pure_fT, pure_iT, pure_bT, pure_nT, eq_v, eq_f, Bool.or_false, and_self, ↓tru_v, non_v, non_f, ty_v, ty_f, ta_v, ta_f, ↓bop_vv, ↓bop_6v, ↓cut_9a, ↓cut_9b, ↓cut_9c, tup3, tup2, v_ti, f_ti, zipD, wp_cc, true_and, decide_true, decide_false, eq_self, sz_0, sz_1, sz_2, sz_3, sz_4, sz_5, sz_6, sz_7, sz_8, sz_9, sz_10, sz_11, sz_12, enm_1, enm_2, enm_3, enm_4, enm_5, enm_6, enm_7, enm_8, enm_9, enm_10, len_1, len_2, len_3, len_4, len_5, len_6, len_7, len_8, len_9, len_10]
  refine s_law_multiples_w b1 b2 b3 (by omega) h0 ?_
  simp! only [mlD, ↓seq_v, ↓seq_f, ↓itm_v, ↓itm_f, ↓asg_v, ↓asg_f, bp_v, bp_f, bps_tv, bps_tf, ↓two_vv, ↓two_vt, ↓two_tv, ↓two_ff, ↓still_v, ↓cut_v, ↓cop_eq_v, ↓cop_ne_v, ↓cop_eq_f, ↓cop_ne_f, inD_n, inD_c, pures_c, pures_n, pure_vT, pure_fT, pure_iT, pure_bT, pure_nT, eq_v, eq_f, Bool.or_false, and_self, ↓tru_v, non_v, non_f, ty_v, ty_f, ta_v, ta_f, ↓bop_vv, ↓bop_6v, ↓cut_9a, ↓cut_9b, ↓cut_9c, tup3, tup2, v_ti, f_ti, zipD, wp_cc, true_and, decide_true, decide_false, eq_self, sz_0, sz_1, sz_2, sz_3, sz_4, sz_5, sz_6, sz_7, sz_8, sz_9, sz_10, sz_11, sz_12, enm_1, enm_2, enm_3, enm_4, enm_5, enm_6, enm_7, enm_8, enm_9, enm_10, len_1, len_2, len_3, len_4, len_5, len_6, len_7, len_8, len_9, len_10]
  refine s_law_multiples_w b1 b2 b4 (by omega) h0 ?_
  simp! only [mlD, ↓seq_v, ↓seq_f, ↓itm_v, ↓itm_f, ↓asg_v, ↓asg_f, bp_v, bp_f, bps_tv, bps_tf, ↓two_vv, ↓two_vt, ↓two_tv, ↓two_ff, ↓still_v, ↓cut_v, ↓cop_eq_v, ↓cop_ne_v, ↓cop_eq_f, ↓cop_ne_f, inD_n, inD_c, pures_c, pures_n, pure_vT, pure_fT, pure_iT, pure_bT, pure_nT, eq_v, eq_f, Bool.or_false, and_self, ↓tru_v, non_v, non_f, ty_v, ty_f, ta_v, ta_f, ↓bop_vv, ↓bop_6v, ↓cut_9a, ↓cut_9b, ↓cut_9c, tup3, tup2, v_ti, f_ti, zipD, wp_cc, true_and, decide_true, decide_false, eq_self, sz_0, sz_1, sz_2, sz_3, sz_4, sz_5, sz_6, sz_7, sz_8, sz_9, sz_10, sz_11, sz_12, enm_1, enm_2, enm_3, enm_4, enm_5, enm_6, enm_7, enm_8, enm_9, enm_10, len_1, len_2, len_3, len_4, len_5, len_6, len_7, len_8, len_9, len_10]
  refine ⟨mulOk_bt t3 t2 (by omega), mulOk_bt t4 t1 (by omega), ?_⟩
  have b5 := bt_mul t3 t2
  have b6 := bt_mul t4 t1
  refine s_law_plain_w (ns := (rt x y z w).l) (fl2.mpr (rt_ne H.f)) (bd2_of b5 b6 (by omega)) (by simp [F2.l, SZ]) ?_
  rw [pf_l, H.r]
  exact h
theorem s_law_line_w {r s t : Nat} {e a : Int × Int} (h : Cw w r) (he : 1 ≤ e.2) (ha : P0 a) (b1 : bp s e) (b2 : bp t a) (le : r ≤ 200 ∧ s ≤ 200 ∧ t ≤ 200) (hk : k (vD (ln w e a)) S) : CT (n + 4) i_law_line_v2 [qD (tn w Q0), vD (pw w e), vD (pw w a)] S k X := by
  have u1 := bv_pwp h.b b1
  have u2 := bv_pwp h.b b2
  refine c_law_line_v2 ?_
  simp! only [f_law_line_v2, ↓seq_v, ↓seq_f, ↓itm_v, ↓itm_f, ↓asg_v, ↓asg_f, bp_v, bp_f, bps_tv, bps_tf, ↓two_vv, ↓two_vt, ↓two_tv, ↓two_ff, ↓still_v, ↓cut_v, ↓cop_eq_v, ↓cop_ne_v, ↓cop_eq_f, ↓cop_ne_f, inD_n, inD_c, pures_c, pures_n, pure_vT, pure_fT, pure_iT, pure_bT, pure_nT, eq_v, eq_f, Bool.or_false, and_self, ↓tru_v, non_v, non_f, ty_v, ty_f, ta_v, ta_f, ↓bop_vv, ↓bop_6v, ↓cut_9a, ↓cut_9b, ↓cut_9c, tup3, tup2, v_ti, f_ti, zipD, wp_cc, true_and, decide_true, decide_false, eq_self, sz_0, sz_1, sz_2, sz_3, sz_4, sz_5, sz_6, sz_7, sz_8, sz_9, sz_10, sz_11, sz_12, enm_1, enm_2, enm_3, enm_4, enm_5, enm_6, enm_7, enm_8, enm_9, enm_10, len_1, len_2, len_3, len_4, len_5, len_6, len_7, len_8, len_9, len_10]
  refine brk_i (fun q => ?_) fun q => ?_
  · have q2 : ¬ pw w e = pw w a := by simpa using q
    have hn : br e a ≠ 0 := fun z => q2 ((pw_eq h.d (.of he) ha).mpr z)
    obtain ⟨e1, e2⟩ := ln_cr h.d (.of he) ha hn
    refine s_law_cross68 u1 u2 (by omega) ?_
    refine s_law_plain_3 e2 (bv_cr u1 u2) (by omega) ?_
    rw [e1]
    exact hk
  · have q2 : pw w e = pw w a := by simpa using q
    have hn := (pw_eq h.d (.of he) ha).mp q2
    refine s_law_table_w ?_
    refine s_law_times_w (bm_tb h.bc) u1 (by omega) ?_
    refine s_law_plain_3 (mv_ne (full_w h.d) (pr_ne (pw_p h.d (.of he)))) (bv_mv (bm_tb h.bc) u1) (by omega) ?_
    rw [ln_tb h.d he ha hn]
    exact hk
theorem s_law_curve_ratio_w {r t : Nat} {a b c d e : Int × Int} (h : Q4 w r t a b c d) (he : 1 ≤ e.2) (be : bp 6 e) (le : r ≤ 50 ∧ t ≤ 100) (hk : k (fD (c4 a b c d)) S) : CT (n + 5) i_law_curve_ratio [qD (tn w Q0), .tup [vD (pw w a), vD (pw w b), vD (pw w c), vD (pw w d)], vD (pw w e)] S k X := by
  have la := bv_ln h.w.b be h.ba
  have lb := bv_ln h.w.b be h.bb
  have lc := bv_ln h.w.b be h.bc
  have ld := bv_ln h.w.b be h.bd
  refine c_law_curve_ratio ?_
  simp! only [f_law_curve_ratio, lc_app', fc_cons, fc_nil, ↓seq_v, ↓seq_f, ↓itm_v, ↓itm_f, ↓asg_v, ↓asg_f, bp_v, bp_f, bps_tv, bps_tf, ↓two_vv, ↓two_vt, ↓two_tv, ↓two_ff, ↓still_v, ↓cut_v, ↓cop_eq_v, ↓cop_ne_v, ↓cop_eq_f, ↓cop_ne_f, inD_n, inD_c, pures_c, pures_n, pure_vT, pure_fT, pure_iT, pure_bT, pure_nT, eq_v, eq_f, Bool.or_false, and_self, ↓tru_v, non_v, non_f, ty_v, ty_f, ta_v, ta_f, ↓bop_vv, ↓bop_6v, ↓cut_9a, ↓cut_9b, ↓cut_9c, tup3, tup2, v_ti, f_ti, zipD, wp_cc, true_and, decide_true, decide_false, eq_self, sz_0, sz_1, sz_2, sz_3, sz_4, sz_5, sz_6, sz_7, sz_8, sz_9, sz_10, sz_11, sz_12, enm_1, enm_2, enm_3, enm_4, enm_5, enm_6, enm_7, enm_8, enm_9, enm_10, len_1, len_2, len_3, len_4, len_5, len_6, len_7, len_8, len_9, len_10]
  refine s_law_line_w h.w he (.of h.a0) be h.ba (by omega) ?_
  refine s_law_line_w h.w he (.of h.b0) be h.bb (by omega) ?_
  refine s_law_line_w h.w he (.of h.c0) be h.bc (by omega) ?_
  refine s_law_line_w h.w he h.d0 be h.bd (by omega) ?_
  exact s_law_double_w (h.hm (.of he)) la lb lc ld (by omega) hk
theorem s_law_is_right76 {l : Nat} {ps : List (Int × Int)} {nm : Bool} (hp : Pl S l) (rn : Rn 6 w ps) (hb : bm 6 w) (h : ∀ S', Pl S' l → k (.bl true) S') : CT (n + 10) i_law_is_right_v5 [.ref l, qD (tn w Q0), .tup ((ps.map (pw w)).map vD), .bl nm] S k X := by
  obtain ⟨a, b, c, d, e, f, rfl⟩ : ∃ a b c d e f, ps = [a, b, c, d, e, f] := by
    match ps, rn.len with
    | [a, b, c, d, e, f], _ => exact ⟨_, _, _, _, _, _, rfl⟩
  have Q := rn.q4 hb rfl
  have Qa := Q.to (.of Q.a0) Q.ba
  have Qb := Q.to (.of Q.b0) Q.bb
  have Qc := Q.to (.of Q.c0) Q.bc
  have cb := c4_bt Q
  have pq := c4_pq Q.d0 Q.ab Q.ac Q.cb
  have ch := c4_h Q.d0 Q.ab Q.ac Q.cb
  have w0 := Q.w.d
  have uu : ∀ {p : Int × Int}, p ∈ [a, b, c, d, e, f] → 1 ≤ p.2 ∧ bp 6 p := fun {p} hp => by
    have h1 := rn.t0 p hp
    have h2 := rn.s0 p hp
    exact ⟨h1.1, by unfold bt; omega, by unfold bt; omega⟩
  obtain ⟨e0, be⟩ := uu (p := e) (by simp)
  obtain ⟨f0, bf⟩ := uu (p := f) (by simp)
  have rest10 : ∀ S m x9 x10 x11 x12 x13, Pl S l → Vw m → bm 2 m → exs (CT (n + 9)) X r_law_is_right_v5_9 [some (.ref l), some (qD (tn w Q0)), some (.tup [vD (pw w a), vD (pw w b), vD (pw w c), vD (pw w d), vD (pw w e), vD (pw w f)]), some (.bl nm), some (vD (pw w a)), some (vD (pw w b)), some (vD (pw w c)), some (vD (pw w d)), some (fD (c4 a b c d)), x9, x10, x11, x12, x13, some (mD m), none] S { nx := fun _ S1 => k .non S1, rt := k, bk := fun _ _ => False, ct := fun _ _ => False } := by
    intro S m x9 x10 x11 x12 x13 hp vm bm2
    have d' : det (mm m w) ≠ 0 := by rw [det_mm]; exact Int.mul_ne_zero vm.2 w0
    have cw : Cw (mm m w) 10 := ⟨d', bm_mm bm2 Q.w.b⟩
    have Q' : Q4 (mm m w) 10 6 a b c d := ⟨cw, Q.a0, Q.b0, Q.c0, Q.d0, Q.ba, Q.bb, Q.bc, Q.bd, Q.ab, Q.ac, Q.cb⟩
    have tt : ∀ {p : Int × Int}, P0 p → pv (mv m (pw w p)) = pw (mm m w) p := fun h0 => (pw_mm w0 h0).resolve_right vm.2
    have go : ∀ {p : Int × Int} {S : Store} {k : D → Store → Prop}, P0 p → bp 6 p → k (vD (pw (mm m w) p)) S → CT (n + 9) i_law_turn_v4 [mD m, vD (pw w p)] S k X := fun {p S k} h0 hb hk => by
      refine s_law_turn_w vm.2 bm2 (bv_pwp Q.w.b hb) (pr_ne (pw_p w0 h0)) (by decide) ?_
      rw [tt h0]
      exact hk
    simp! only [r_law_is_right_v5_9, lc_app', fc_cons, fc_nil]
    refine ⟨by simp [SZ], ?_⟩
    refine go (.of Q.a0) Q.ba ?_
    refine go (.of Q.b0) Q.bb ?_
    refine go (.of Q.c0) Q.bc ?_
    refine go Q.d0 Q.bd ?_
    simp! only [r_law_is_right_v5_10]
    refine s_turned_curve_w vm bm2 Q.w.bc Q.w.pc (by decide) ?_
    rw [tn_tn w0 vm.2 n6_Q0]
    refine s_curve_ratio_w Q' (by decide) ?_
    exact s_law_same_we rfl (m := 6) (alm_f (m := 4)) (h _ hp)
  have rest5 : ∀ S x9 x10 x11, Pl S l → exs (CT (n + 9)) X r_law_is_right_v5_5 [some (.ref l), some (qD (tn w Q0)), some (.tup [vD (pw w a), vD (pw w b), vD (pw w c), vD (pw w d), vD (pw w e), vD (pw w f)]), some (.bl nm), some (vD (pw w a)), some (vD (pw w b)), some (vD (pw w c)), some (vD (pw w d)), some (fD (c4 a b c d)), x9, x10, x11, none, none, none, none] S { nx := fun _ S1 => k .non S1, rt := k, bk := fun _ _ => False, ct := fun _ _ => False } := by
    intro S x9 x10 x11 hp
    simp! only [r_law_is_right_v5_5]
    refine s_law_below76 hp (by decide) (by decide) fun r1 S1 h10 h11 d1 => ?_
    simp! only [↓ev_v0]
    refine s_law_below76 d1.pl (by decide) (by decide) fun r2 S2 h20 h21 d2 => ?_
    simp! only [↓ev_v0]
    have n0 : (⟨r1 - 4, 1 + r2⟩ : F2) ≠ F0 := fun z => by
      have := congrArg F2.d z
      simp only [F0] at this
      omega
    have g1 : bt 4 (r1 - 4) := by unfold bt; omega
    have g2 : bt 4 (1 + r2) := by unfold bt; omega
    refine s_law_plain_w (ns := F2.l ⟨r1 - 4, 1 + r2⟩) (fl2.mpr n0) (bd2_of (f := ⟨r1 - 4, 1 + r2⟩) g1 g2 (by decide)) (by simp [F2.l, SZ]) ?_
    rw [pf_l]
    have hq := pf_pq n0
    obtain ⟨k1, k2⟩ := bt_pf (f := ⟨r1 - 4, 1 + r2⟩) ⟨g1, g2⟩
    have ef : ti (pf ⟨r1 - 4, 1 + r2⟩).l = fD (pf ⟨r1 - 4, 1 + r2⟩) := rfl
    rw [ef]
    generalize pf ⟨r1 - 4, 1 + r2⟩ = p at hq k1 k2
    have p0 := f4_0 Q.ab Q.ac Q.cb (pq_ne hq)
    have Q5 : Q4 w 6 24 a b c (f4 a b c p) := Q.to p0 (f4_bp Q k1 k2)
    have c5 : c4 a b c (f4 a b c p) = p := c4_f4 Q.ab Q.ac Q.cb hq
    simp! only [r_law_is_right_v5_6]
    refine s_curve_fourth_w Q5 hq f4_h (bt_mono k1 (by decide)) (bt_mono k2 (by decide)) (by decide) ?_
    simp! only [r_law_is_right_v5_7]
    refine s_is_on_curve_2 Q.w.pc (pw_p w0 p0) Q.w.bc (bv_pwp Q.w.b Q5.bd) (by decide) ?_
    rw [pw_on w0 p0]
    simp! only [↓ev_v0]
    refine s_law_curve_ratio_w Q5 Q.a0 Q.ba (by decide) ?_
    rw [c5, cop_ne_f, decide_eq_true rfl]
    simp! only [↓ev_v0]
    refine s_curve_ratio_w Q5 (by decide) ?_
    rw [c5]
    refine s_law_same_we rfl (m := 6) (alm_f (m := 4)) ?_
    simp! only [r_law_is_right_v5_8]
    refine s_law_view76 (b := 2) d2.pl (by decide) (by decide) (by decide) fun m S3 vm bm2 d3 => ?_
    exact rest10 _ _ _ _ _ _ _ d3.pl vm bm2
  have rest4 : ∀ S x9 x11, Pl S l → exs (CT (n + 9)) X r_law_is_right_v5_4 [some (.ref l), some (qD (tn w Q0)), some (.tup [vD (pw w a), vD (pw w b), vD (pw w c), vD (pw w d), vD (pw w e), vD (pw w f)]), some (.bl nm), some (vD (pw w a)), some (vD (pw w b)), some (vD (pw w c)), some (vD (pw w d)), some (fD (c4 a b c d)), x9, some (vD (pw w d)), x11, none, none, none, none] S { nx := fun _ S1 => k .non S1, rt := k, bk := fun _ _ => False, ct := fun _ _ => False } := by
    intro S x9 x11 hp
    simp! only [r_law_is_right_v5_4, lc_app', fc_cons, fc_nil]
    refine s_law_same_we rfl (m := 6) (alm_v (m := 4)) ?_
    simp! only [lc_app', fc_cons, fc_nil]
    refine ⟨by simp [SZ], ?_⟩
    refine s_curve_ratio_w Qa (by decide) ?_
    refine s_curve_ratio_w Qb (by decide) ?_
    refine s_curve_ratio_w Qc (by decide) ?_
    rw [c4_a Q.ab Q.ac, c4_b Q.ab Q.cb, c4_c Q.ac Q.cb]
    refine s_law_same_we rfl (m := 6) rfl ?_
    simp! only [↓ev_v0]
    exact rest5 _ _ _ _ hp
  have rest2 : ∀ S, Pl S l → exs (CT (n + 9)) X r_law_is_right_v5_2 [some (.ref l), some (qD (tn w Q0)), some (.tup [vD (pw w a), vD (pw w b), vD (pw w c), vD (pw w d), vD (pw w e), vD (pw w f)]), some (.bl nm), some (vD (pw w a)), some (vD (pw w b)), some (vD (pw w c)), some (vD (pw w d)), some (fD (c4 a b c d)), none, none, none, none, none, none, none] S { nx := fun _ S1 => k .non S1, rt := k, bk := fun _ _ => False, ct := fun _ _ => False } := by
    intro S hp
    have go : ∀ {p : Int × Int} {S : Store} {k : D → Store → Prop}, 1 ≤ p.2 ∧ bp 6 p → k (.bl true) S → CT (n + 9) i_law_curve_ratio [qD (tn w Q0), .tup [vD (pw w a), vD (pw w b), vD (pw w c), vD (pw w d)], vD (pw w p)] S (fun r S2 => CT (n + 9) i_law_same_v2 [fD (c4 a b c d), r] S2 k X) X := fun hp hk =>
      s_law_curve_ratio_w Q hp.1 hp.2 (by decide) (s_law_same_we rfl (m := 6) (alm_f (m := 4)) hk)
    simp! only [r_law_is_right_v5_2, lc_app', fc_cons, fc_nil]
    refine ⟨by simp [SZ], ?_⟩
    refine go (uu (p := a) (by simp)) (go (uu (p := b) (by simp)) (go (uu (p := c) (by simp)) (go (uu (p := d) (by simp)) (go ⟨e0, be⟩ (go ⟨f0, bf⟩ ?_)))))
    simp! only [r_law_is_right_v5_3]
    refine brk_same ?_
    exact s_curve_fourth_w Q pq ch (bt_mono cb.1 (by decide)) (bt_mono cb.2 (by decide)) (by decide) (rest4 _ _ _ hp)
  refine c_law_is_right_v5 ?_
  simp! only [rb_law_is_right_v5, r_law_is_right_v5_0, List.map_cons, List.map_nil]
  have e4 : ∀ x y z w u v : D, slice [x, y, z, w, u, v] none (some 4) = [x, y, z, w] := fun _ _ _ _ _ _ => rfl
  rw [e4]
  simp! only [r_law_is_right_v5_1]
  refine brk_same ?_
  exact s_curve_ratio_w Q (by decide) (rest2 _ hp)
theorem s_law_right76 {l : Nat} (hp : Pl S l) (h : ∀ S', k (.bl true) S') : CT (n + 13) i_law_right_v37 [.ref l] S k X := by
  refine c_law_right_v37 ?_
  simp! only [rb_law_right_v37_0]
  refine ⟨by decide, ?_⟩
  refine forW_inv (I := fun ds σ S' => Pl S' l ∧ (∀ d ∈ ds, ∃ i, d = .int i) ∧ ∃ x1 x2 x3 x4 : Option D, σ = [some (.ref l), x1, x2, x3, x4]) ⟨hp, fun d hd => mem_rngI hd, _, _, _, _, rfl⟩ ?_ ?_
  · rintro d ds σ S ⟨hp, hd, x1, x2, x3, x4, rfl⟩
    obtain ⟨t, rfl⟩ := hd d List.mem_cons_self
    refine ⟨_, rfl, fun K hK => ?_⟩
    simp! only [blk_app, r_law_right_v37_0_0]
    refine s_law_oneI76 hp (by simp) (by simp) fun i S1 hi d1 => ?_
    have hi2 : 1 ≤ i ∧ i < 2 ^ 6 := by
      simp only [List.mem_cons, List.not_mem_nil, or_false] at hi
      rcases hi with rfl | rfl | rfl <;> decide
    refine s_law_round76 (many := 6) (b := 6) d1.pl (.inr (.inr (.inr rfl))) hi2.1 hi2.2 (by decide) fun w ps S2 rn bb p2 => ?_
    rw [map_pw]
    simp! only [r_law_right_v37_0_1]
    refine s_law_is_right76 p2 rn bb fun S3 p3 => ?_
    simp! only [r_law_right_v37_0_2]
    refine s_law_below76 p3 (by decide) (by decide) fun r S4 r0 r1 d4 => ?_
    simp! only [r_law_right_v37_0_3]
    obtain ⟨a, b, c, d, e, f, rfl⟩ : ∃ a b c d e f, ps = [a, b, c, d, e, f] := by
      match ps, rn.len with
      | [a, b, c, d, e, f], _ => exact ⟨_, _, _, _, _, _, rfl⟩
    have Q := rn.q4 bb rfl
    have fin : ∀ (x4 : Option D) S, Pl S l → K [some (.ref l), some (.int t), some (qD (tn w Q0)), some (.tup [vD (pw w a), vD (pw w b), vD (pw w c), vD (pw w d), vD (pw w e), vD (pw w f)]), x4] S := fun x4 S hp => hK _ _ ⟨hp, fun d h => hd d (List.mem_cons_of_mem _ h), _, _, _, _, rfl⟩
    simp! only [List.map_cons, List.map_nil]
    obtain rfl | rfl | rfl : r = 0 ∨ r = 1 ∨ r = 2 := by omega
    · simp! only [↓ev_v0]
      refine s_curve_fourth_w (p := ⟨1, 0⟩) (Q.to (.of Q.a0) Q.ba) (by decide) (by rw [br_self]; simp) (by decide) (by decide) (by decide) ?_
      refine s_law_same_we rfl (m := 6) (alm_v (m := 4)) ?_
      simp! only [↓ev_v0]
      exact fin _ _ d4.pl
    · simp! only [↓ev_v0]
      refine s_curve_fourth_w (p := ⟨0, 1⟩) (Q.to (.of Q.b0) Q.bb) (by decide) (by rw [br_self]; simp) (by decide) (by decide) (by decide) ?_
      refine s_law_same_we rfl (m := 6) (alm_v (m := 4)) ?_
      simp! only [↓ev_v0]
      exact fin _ _ d4.pl
    · simp! only [↓ev_v0]
      refine s_curve_fourth_w (p := ⟨1, 1⟩) (Q.to (.of Q.c0) Q.bc) (by decide) (by simp only; grind) (by decide) (by decide) (by decide) ?_
      refine s_law_same_we rfl (m := 6) (alm_v (m := 4)) ?_
      simp! only [↓ev_v0]
      exact fin _ _ d4.pl
  · rintro σ S ⟨hp, _, x1, x2, x3, x4, rfl⟩
    simp! only [↓ev_v0]
    exact h S
end
theorem law_k76 (ns : List Int) (hn : ns.length ≤ 63) : callw TG (40 + 1) i_law_v53 [.frz (ns.map D.int)] [] (fun d _ => d = .bl true) XF := by
  rw [← CT_eq]
  refine c_law_v53 ?_
  simp! only [f_law_v53, List.length_map]
  obtain ⟨N, eN, n0, n1⟩ : ∃ N : Int, (if (if (2 : Int) < ns.length then (2 : Int) else ns.length) > 1 then (if (2 : Int) < ns.length then (2 : Int) else ns.length) else 1) = N ∧ 1 ≤ N ∧ N ≤ 2 := ⟨_, rfl, by (repeat' split) <;> omega, by (repeat' split) <;> omega⟩
  rw [eN]
  refine ⟨by omega, by rw [rngI_len]; unfold SZ; omega, fc_tr (by decide) (fun i S k2 i0 a2 => ?_) fun S => ?_⟩
  · simp! only [lc_app']
    refine s_law_pool76 i0 fun a b c => ?_
    refine s_law_right76 (n := 27) ⟨a, b, c, cl_new⟩ fun S' => ?_
    exact a2 S'
  · rw [bls_r]
    simp! only [↓ev_v0]
    rw [all_r]
end FV
open PySem PySem.W PySem.Calls PyProof.Rows
theorem PySem.Challenge.cw_flatviews_k76_whole_curve_ratios_from_al_holds : PySem.Challenge.rw_flatviews_k76_whole_curve_ratios_from_al.Holds := by
  w_on; o_law
  refine HandSHeadRun.head_imp (r := OpenLaw.row FV.RW) (q := view (OpenLaw.row FV.RW).prog [0, 101]) (H := FV.hk) (ob := FV.ob) (M := 20000) (loose := FV.names) (d := HandSHeadRun.topDef (OpenLaw.row FV.RW).prog 101) (kwd := []) FV.ob_eq
    FV.run (by kernel_rfl) (by kernel_rfl) (by kernel_rfl) (by rfl) (by first | assumption | decide +kernel) (by decide +kernel) ⟨rfl, rfl, rfl, rfl, rfl, by decide +kernel⟩ ?hw ?hc
  case hw => w_witness2
  case hc =>
    refine FV.walk_g (l := FV.RW) (n := 63) (k := 40 + 1) (x := "script") rfl (by decide) (by kernel_rfl) ⟨rfl, by decide, by decide⟩ ?F
    intro w mg fa h Y G hmg0
    obtain ⟨K, KX, c⟩ := Y
    have hmg : mg ("law" : PySem.Str) = some (.ref fa) := by
      have e : (HandSHeadRun.topDef (OpenLaw.row FV.RW).prog 101).name = ("law" : PySem.Str) := by kernel_rfl
      rw [← e]
      exact hmg0
    obtain ⟨fd, sp, h1, h2, h3⟩ := FV.law_ok (P := FV.RW.prog) (k := 40) (lid := 706) FV.okd FV.hT rfl rfl FV.law_k76 KX G hmg c
    exact ⟨K, fd, sp, KX, h1, h2, h3⟩
