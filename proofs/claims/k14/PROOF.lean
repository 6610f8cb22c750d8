import PyProof.Rows.All
import Wide.All
import OpenK.AllK
import Wide.FinOn
import HandS.ForMost
import HandS.Defaults
import HandS.Codes
import HandS.HeadEnd
import HandS.Gcd
import HandS.Wide
import HandS.Deep
import HandS.TupAny
import HandS.IsInst
import HandS.Zip
import HandS.Conv
import HandS.FStrTup
import PyProof.ReprRoads
import HandS.NoneIn
import HandS.Star
import HandS.SetFor
import HandS.TupSets
import HandS.Iter
import KE.GoesEnum
import KE.GoesMore
import KE.GoesZip
import HandS.Style
import HandS.Head0
import HandS.Head1
import HandS.Head2
import HandS.HeadHook1
import HandS.HeadHook2
import HandS.HeadHook4
import PySem.Challenge.RW_flatviews_k14_whole_views_of_anything
import HandS.Head3
import PyProof.Rows.Walk
set_option Elab.async false
set_option linter.all false
set_option maxRecDepth 100000
set_option maxHeartbeats 2000000
/-! Grd: a def's promise where nothing is being shown around it (so that repr shows all). -/
namespace FV
open PySem PySem.Spec PyProof.Rows L2
/-- what is wanted of an exception: there is none -/
abbrev NoX : XK := fun _ _ _ => False
structure FnG (P : Program) (w : World) (K : PySem.W.Frag) (mg : Str → Option Value) (base : Heap) (k : Nat) (f : Addr) (fd : FuncData) (ps : List Str) (sp : Sp) : Prop where
  len : ∀ vs H Q, sp vs H Q NoX → vs.length = ps.length
  run : ∀ (A : Around) (outer : List Env) (s : Shared) (H : Hp) (args : Args) (us : List Value) (vs : List V) (Q : VK), Room k A → A.guards = some [] → Env0 P w K mg base A outer s H → BindsTo s fd args (ps.zip us) →
    Vals vs us → sp vs H Q NoX → codeAny (model P w) A (.call (.ref f) args) (CR CX0 outer P w H s Q NoX) s
section
variable {X : Cx} {k : Nat} {f : Addr} {fd : FuncData} {ps : List Str} {sp : Sp}
/-- the callee runs, its arguments bound -/
theorem FnG.go (F : FnG X.prog X.w X.K X.mg X.base k f fd ps sp) (hr : Room k X.A) (hg : X.A.guards = some []) {pins : List (Addr × Obj)} {σ : L2.St} {H : Hp} {s : Shared} {Q : VK} {us ws : List Value} {kw : List (Str × Value)} {vs : List V}
    (I : Inv X pins σ H s) (hb : BindsTo s fd ⟨us, kw⟩ (ps.zip ws)) (r : Vals vs ws) (h : sp vs H Q NoX) : wpAny (model X.prog X.w) X.A (call (.ref f) us kw) (EP X pins σ Q) X.xe s := by
  have g := F.run X.A X.stack s H ⟨us, kw⟩ ws vs Q hr hg I.env0 hb r h
  refine wpAny_call (codeAny_mono g ?_)
  intro r s' q
  rcases r with e | fl
  · exact False.elim q
  · cases fl <;> first
      | exact I.after q
      | exact False.elim q
variable {x : Str} {p pos : Pos} {e : Expr} {es : List Expr} {t : TA}
theorem pe_g (F : FnG X.prog X.w X.K X.mg X.base k f fd ps sp) (hr : Room k X.A) (gd : X.A.guards = some []) (hx : Gl X x) (hm : X.mg x = some (.ref f)) (hk : PySem.W.keepIn X.K (.ref f) = true) (hb : Binds X.K fd ps []) (ha : PA X (e :: es) t)
    (hdb : (x == ("__debug__" : Str)) = false) (he : starEach (e :: es) X.env = (false, eval e X.env) :: starEach es X.env) (hpl : (backTo pos (starEach es X.env)).any (·.1) = false) :
    PE X (.Call (.Name x p) (e :: es) [] pos) (fun σ H Q => t σ H fun vs H1 => sp vs H1 Q NoX) := by
  refine ⟨fun pins s σ H Q I h => wpAny_Call_Name_kw (ld_glob I hx hm ?_ hdb)⟩
  have g := thn (Q' := fun us s1 => X.K.In s1.heap ∧ wpAny (model X.prog X.w) X.A (call (.ref f) us) (EP X pins σ Q) X.xe s1) (ha.run pos pins s σ H _ I h) fun us s1 ⟨vs, H1, I1, r, q⟩ => ⟨I1.kIn, by
    have hl : (us ++ []).length = ps.length := by rw [List.append_nil, ← r.length]; exact F.len _ _ _ q
    have hb2 := hb s1 us I1.kIn hl
    rw [List.append_nil] at hb2
    exact F.go hr gd I1 hb2 r q⟩
  exact PySem.W.callWith_K (h₀ := X.base) I.ok.mod.kin hk g he hpl
theorem pe_g0 (F : FnG X.prog X.w X.K X.mg X.base k f fd ps sp) (hr : Room k X.A) (gd : X.A.guards = some []) (hx : Gl X x) (hm : X.mg x = some (.ref f)) (hk : PySem.W.keepIn X.K (.ref f) = true) (hb : Binds X.K fd ps [])
    (hdb : (x == ("__debug__" : Str)) = false) : PE X (.Call (.Name x p) [] [] pos) (fun σ H Q => sp [] H Q NoX) := by
  refine ⟨fun pins s σ H Q I h => wpAny_Call_Name_kw (ld_glob I hx hm ?_ hdb)⟩
  have hl : (([] : List Value) ++ []).length = ps.length := F.len _ _ _ h
  exact PySem.W.callWith_K0 I.kIn hk (F.go (us := []) hr gd I (hb s [] I.kIn hl) .nil h)
end
section
variable {P : Program} {w : World} {K : PySem.W.Frag} {mg : Str → Option Value} {base : Heap} {x qual : Str} {params : Arguments} {body : List Stmt} {scope : Scope} {dvs : List V} {kws : List (Str × V)} {f : Addr} {fd : FuncData}
/-- a def, by its body -/
theorem okG {N ps : List Str} {k : Nat} {sp : Sp} (F : FunD K x qual params body scope dvs kws f fd) (S : FnScope N ps scope) (len : ∀ vs H Q, sp vs H Q NoX → vs.length = ps.length)
    (hbody : ∀ (cdv : Value) (A : Around) (outer : List Env) (s : Shared) (H : Hp) (vs : List V) (Q : VK), A.guards = some [] → Room k (A.deeper (envOfC qual scope s.heap.objs.size f cdv)) → sp vs H Q NoX →
      ∃ t, PSs (cxOf CX0 P w K mg base N qual scope f cdv A outer s H NoX) body t ∧ t { nx := fun _ H' => Q .non H', rt := Q } (L2.start N vs) H) : FnG P w K mg base (k + 1) f fd ps sp := by
  obtain ⟨oc, od, dV, kV, doc, pm, an, cdv, ct, osl, e, lk, hcd, _, _⟩ := F.ex
  subst e
  constructor
  · exact len
  intro A outer s H args us vs Q hr gd e0 hb r hsp
  have hl := len _ _ _ hsp
  have kin : K.In s.heap := PySem.W.Frag.In.keeps e0.mod.kin fun a o z => (e0.bs a o z).1
  have nolim : s.heap.NoLimit := Heap.NoLimit.keeps e0.mod.nolimit fun a o z => (e0.bs a o z).1
  have kinds : ∀ y ∈ ps.zip us, scope.names.lookup y.1 = some .local ∨ (scope.names.lookup y.1 = some .cell ∧ ((cellsFrom (s.heap.objs.size + 1) scope.names []).lookup y.1).isSome = true) := by
    rintro ⟨n, v⟩ hy
    rcases S.par n (List.of_mem_zip hy).1 with q | q
    · exact Or.inl q
    · exact Or.inr ⟨q, PySem.W.cellsFrom_some _ _ _ (Or.inl q)⟩
  refine codeAny_call_function hr.depth (kin _ _ lk) rfl S.co S.gen rfl (PySem.W.codeRec_of kin hcd) (hb _ _ _ _ ?_)
  refine wpAny_newFunctionEnv_cells S.kind kinds ?_
  intro env he s1 x1
  subst he
  refine ⟨nolim.keeps x1.toInCall.keep, codeAny_func ?_⟩
  obtain ⟨t, ht, q⟩ := hbody cdv A outer s H vs Q gd (hr.deeper _) hsp
  have I := inv_start (CX := CX0) (E := NoX) (mg := mg) (base := base) (f := f) S hr.hd e0 hl r x1
  refine wpAny_mono (ht.run [] s1 (L2.start N vs) H _ I q) ?_ fun _ _ z => z
  intro fl s' z
  cases fl with
  | ret u =>
    obtain ⟨v, σ', H', J, rv, q⟩ := z
    exact ⟨v, H', J.os, J.bare, J.base, J.hok, rv, q⟩
  | next =>
    obtain ⟨σ', H', J, q⟩ := z
    exact ⟨V.non, H', J.os, J.bare, J.base, J.hok, rfl, q⟩
  | brk =>
    obtain ⟨_, _, _, q⟩ := z
    exact q.elim
  | cont =>
    obtain ⟨_, _, _, q⟩ := z
    exact q.elim
end
/-- the law's own call, with nothing shown around it -/
theorem law_callG {P : Program} {w : World} {K : PySem.W.Frag} {mg mb : Str → Option Value} {k : Nat} {fa a : Addr} {fd : FuncData} {x : Str} {sp : Sp} {s1 : Shared} {vs : List Value} {ns : List Int}
    (hK : K.In s1.heap) (hm : s1.heap.Ns mainGlobals mg) (hB : s1.heap.Ns builtinsNs mb) (hBB : ∀ x : Str, x ≠ "__name__" → mb x = bootBuiltins x) (hL : s1.heap.NoLimit) (hgen : s1.gens = #[])
    (ha : s1.heap.get? a = some { cls := .type "list", data := .seq vs.toArray }) (hi : IntsAre vs ns) (hz : ns.length ≤ sizeLine) (hr : Room k callerA)
    (F : ∀ base : Heap, K.In base → base.Ns mainGlobals mg → FnG P w K mg base k fa fd [x] sp) (hbind : ∀ (s : Shared) (u : Value), BindsTo s fd ⟨[u], []⟩ [(x, u)])
    (hsp : ∀ H : Hp, Only H → SqL K H a (ns.map V.int) → sp [.ref a] H (fun v _ => v = .bl true) NoX) :
    codeAny (model P w) callerA (.call (.ref fa) ⟨[.ref a], []⟩) (fun r s' => r = .ok (.ret (.bool true)) ∧ OldK s1.heap s'.heap ∧ s'.os = s1.os ∧ AllBare s'.gens) s1 := by
  have rv := vals_ints hi
  have hlen := hi.length
  have main : ∀ H : Hp, Only H → SqL K H a (ns.map V.int) → HOk P w H s1.heap → (∀ b, H b ≠ none → b = a) → (H a ≠ none → K.lookup a = none) →
      codeAny (model P w) callerA (.call (.ref fa) ⟨[.ref a], []⟩) (fun r s' => r = .ok (.ret (.bool true)) ∧ OldK s1.heap s'.heap ∧ s'.os = s1.os ∧ AllBare s'.gens) s1 := by
    intro H hO hS hok hA hN
    have out : ∀ {b : Addr} {o : Obj}, s1.heap.get? b = some o → (b = a → H b = none) → H b = none := by
      intro b o _ h
      by_cases e : b = a
      · exact h e
      · by_cases q : H b = none
        · exact q
        · exact absurd (hA b q) e
    have hid : ∀ {b : Addr} {o : Obj}, s1.heap.get? b = some o → H b = none → (hidT s1.heap H).get? b = some o := fun e n => hidT_get e n
    have dct : ∀ {b : Addr} {m : Str → Option Value}, s1.heap.Ns b m → (hidT s1.heap H).Ns b m := by
      rintro b m ⟨o, es, ep, e, d, r⟩
      refine ⟨o, es, ep, hid e (out e fun z => ?_), d, r⟩
      subst z
      rw [ha] at e
      cases e
      exact absurd (show Data.seq vs.toArray _ = Data.dict es ep from d) (fun z => by cases z)
    have kin : K.In (hidT s1.heap H) := by
      intro b o e
      refine hid (hK b o e) (out (hK b o e) fun z => ?_)
      subst z
      by_cases q : H b = none
      · exact q
      · rw [hN q] at e
        cases e
    have nol : (hidT s1.heap H).NoLimit := by
      obtain ⟨mc, l1, l2⟩ := hL
      exact ⟨mc, dct l1, l2⟩
    have md : Mod K mg (hidT s1.heap H) := ⟨kin, dct hm, ⟨mb, dct hB, hBB⟩, nol⟩
    have nofr : ∀ b ∈ frs ([] : List Env), H b = none := fun b z => by cases z
    have env0 : Env0 P w K mg (hidT s1.heap H) callerA [] s1 H := ⟨rfl, md, fun b o z => of_hidT z, Nat.le_of_eq (hidT_size _ _), trivial, nofr, hok, .of_eq hgen⟩
    have run := (F _ kin (dct hm)).run callerA [] s1 H ⟨[.ref a], []⟩ [.ref a] [.ref a] _ hr rfl env0 (hbind s1 (.ref a)) (.cons rfl .nil) (hsp H hO hS)
    refine codeAny_mono run ?_
    intro r s' z
    rcases r with e | fl
    · exact False.elim z
    cases fl <;> try (exact False.elim z)
    rename_i u
    obtain ⟨v, H', z1, z2, z3, z4, z5, z6⟩ := z
    have z6 : v = .bl true := z6
    subst z6
    cases z5
    refine ⟨rfl, OldK.of_keep ?_, z1, z2⟩
    intro b o e
    cases q : H b with
    | none => exact z3.keep b o e q (fun z => by cases z) (by simp)
    | some y =>
      rcases hO b with g | ⟨ob, xs, g⟩
      · rw [q] at g
        cases g
      · have g2 := z3.frzs b ob _ g
        obtain ⟨e1, _⟩ := hok b _ g
        obtain ⟨e2, _⟩ := z4 b _ g2
        rw [e] at e1
        cases e1
        exact e2
  cases hk : K.lookup a with
  | some o =>
    have e := hK a o hk
    rw [ha] at e
    cases e
    refine main (fun _ => none) (fun _ => Or.inl rfl) (Or.inr ?_) (fun b u z => absurd (show (none : Option HO) = some u from z) (fun z => by cases z)) (fun b z => absurd rfl z) (fun z => absurd rfl z)
    exact ⟨_, vs.toArray, _, hk, rfl, rfl, rfl, by rw [List.size_toArray, hlen]; exact hz, by simpa using rv⟩
  | none =>
    have at_ : ∀ b : Addr, (if b = a then some (HO.frz { cls := .type "list", data := .seq vs.toArray } (.lst (ns.map V.int))) else none) ≠ none → b = a := by
      intro b z
      by_cases e : b = a
      · exact e
      · rw [if_neg e] at z
        exact absurd rfl z
    refine main (fun b => if b = a then some (.frz { cls := .type "list", data := .seq vs.toArray } (.lst (ns.map V.int))) else none) ?_ (.inl (.inr ⟨_, if_pos rfl⟩)) ?_ at_ (fun _ => hk)
    · intro b
      by_cases e : b = a
      · exact Or.inr ⟨_, _, if_pos e⟩
      · exact Or.inl (if_neg e)
    · intro b u z
      have e := at_ b (by show (if b = a then _ else _) ≠ none; rw [show (if b = a then some (HO.frz { cls := .type "list", data := .seq vs.toArray } (.lst (ns.map V.int))) else none) = some u from z]; simp)
      have z2 := (if_pos e).symm.trans z
      cases z2
      subst e
      exact ⟨ha, by rw [List.length_map]; exact hz, vs, _, rv, ha⟩
/-- the head's end, by a promise that holds where nothing is shown -/
theorem walk_g {l : PySem.W.OpenLaw} {n k : Nat} {q : Program} {loose : List Str} {XP : (Str → Option Value) → Heap → Prop} {YP : World → Heap → Prop} {d : DefRec} {x : Str} (hn : l.most = some n) (hn2 : n ≤ sizeLine) (hdf : d.params.defaults = []) (hr : Room k callerA)
    (F : ∀ (w : World) (mg : Str → Option Value) (fa : Addr) (h : Heap), YP w h → h.Ns mainGlobals mg → mg d.name = some (.ref fa) → ∃ (K : PySem.W.Frag) (fd : FuncData) (sp : Sp), K.In h ∧ (∀ (s : Shared) (u : Value), BindsTo s fd ⟨[u], []⟩ [(x, u)]) ∧
        (∀ (H : Hp) (a : Addr) (ns : List Int), ns.length ≤ n → Only H → SqL K H a (ns.map V.int) → sp [.ref a] H (fun v _ => v = .bl true) NoX) ∧ ∀ base : Heap, K.In base → base.Ns mainGlobals mg → FnG l.prog w K mg base k fa fd [x] sp) :
    PySem.W.WalkO q loose XP YP l.row.toRowW d [] (fun f vs => PySem.call f vs) := by
  refine Att.attach_call hn hdf ?_
  intro w s0 s1 mg mb fa o pm cd doc a vs ns G Y ho hd hcd hmg hobj hints hlen hg
  obtain ⟨K, fd, sp, KX, hb, hsp, hF⟩ := F w mg fa _ Y G.T.g hmg
  exact law_callG KX G.T.g G.T.b G.T.builtins G.T.nolimit hg hobj hints (Nat.le_trans hlen hn2) hr hF hb fun H hO hS => hsp H a ns hlen hO hS
end FV
set_option Elab.async false
set_option linter.all false
set_option maxRecDepth 100000
/-! Ev: pure data values, a small syntax, its evaluator as a predicate transformer. -/
namespace FV
abbrev Str := PySem.Str
/-- a value: data as a whole; ref: a list that changes; itr: what a loop walks (no value of the program); rep: the text that shows a datum; dic: a dict with nothing in it -/
inductive D where
  | non | bl (b : Bool) | int (i : Int) | str (s : Str) | tup (ds : List D) | lst (ds : List D)
  | frz (ds : List D) | ref (l : Nat) | fn (f : Nat) | exc (c : Nat) (d : D) | itr (ds : List D) | rep (d : D) | dic
abbrev Env := List (Option D)
abbrev Store := List (List D)
def lk : Env → Nat → Option D
  | [], _ => none
  | x :: _, 0 => x
  | _ :: r, i + 1 => lk r i
def st : Env → Nat → D → Env
  | [], _, _ => []
  | _ :: r, 0, d => some d :: r
  | x :: r, i + 1, d => x :: st r i d
def wp0 : Env → List Nat → Env
  | σ, [] => σ
  | σ, i :: r => (wp0 σ r).set i none
/-- the cell l -/
def cl : Store → Nat → Option (List D)
  | [], _ => none
  | x :: _, 0 => some x
  | _ :: r, i + 1 => cl r i
/-- a fork: by the test's answer -/
def brk (b : Bool) (p q : Prop) : Prop := match b with
  | true => p
  | false => q
theorem brk_t {b : Bool} {p q : Prop} (e : b = true) (h : p) : brk b p q := by subst e; exact h
theorem brk_f {b : Bool} {p q : Prop} (e : b = false) (h : q) : brk b p q := by subst e; exact h
theorem brk_i {b : Bool} {p q : Prop} (h : b = true → p) (h' : b = false → q) : brk b p q := by
  cases b
  · exact h' rfl
  · exact h rfl
theorem brk_c {b : Bool} {p q : Prop} (h : brk b p q) : if b = true then p else q := by
  cases b <;> exact h
def SZ : Nat := 1000000
/-- a product that the machine takes -/
def mulOk (a b : Int) : Prop := (-(2 ^ 64) < a ∧ a < 2 ^ 64) ∨ (-(2 ^ 64) < b ∧ b < 2 ^ 64) ∨ (a.natAbs < 2 ^ 400000 ∧ b.natAbs < 2 ^ 400000)
def divOk (b : Int) : Prop := b ≠ 0 ∧ b.natAbs < 2 ^ 8000
inductive Bop where
  | add | sub | mul | fdiv | mod | pow
inductive Cop where
  | eq | ne | lt | le | gt | ge | is | isnot | isin | notin
inductive Ty where
  | int | bool | str | tup | lst | dict
inductive Bi where
  | len | abs | max2 | min2 | int | divmod | gcd | all | any | sum | tuple | list | repr | str
/-- a pattern that a value is taken apart by -/
inductive Pt where
  | nm (i : Nat) | tp (ps : List Pt)
inductive E where
  | var (i : Nat) | cst (d : D) | glb (x : Str) (d : D)
  | bin (op : Bop) (a b : E) | neg (a : E) | not (a : E)
  | cmp (op : Cop) (a b : E) | cmp2 (op op' : Cop) (a b c : E)
  | and (a b : E) | or (a b : E) | ite (c a b : E)
  | tup (es : List E) | lst (fresh : Bool) (es : List E)
  | idx (a i : E) | slc (a : E) (lo hi : Option E) | rev (a : E)
  | call (f : Nat) (es : List E) | callk (f : Nat) (ord : List Nat) (es : List E) | bi (b : Bi) (es : List E) | isi (e : E) (t : Ty) | isi2 (e : E) (ts : List Ty)
  | lc (fresh : Bool) (own : List Nat) (p : Pt) (it : E) (cond : Option E) (elt : E)
  | lc2 (fresh : Bool) (own : List Nat) (p : Pt) (it : E) (cond : Option E) (own2 : List Nat) (p2 : Pt) (it2 : E) (cond2 : Option E) (elt : E)
  | rng (a b : E) | rng1 (b : E) | zip (a b : E) | enm (a : E)
  | app (a e : E)
  | cnt (es : List E) (e : E)
  | nset (a : E)
  | isn (neg : Bool) (a b : E)
  | dct | cat (fresh : Bool) (a b : E)
  | tcat (fl : List Bool) (es : List E)
inductive Tg where
  | pt (p : Pt) | sub (o i : E) | tp (ts : List Tg)
inductive Sm where
  | set (t : Tg) (e : E) | par (is : List Nat) (es : List E) | expr (e : E) | ret (e : E) | retN
  | iff (c : E) (a b : List Sm) | for_ (p : Pt) (it : E) (body : List Sm) | whl (c : E) (body : List Sm)
  | raise | pass | brk | cont
/-! ### operations on values -/
def bop : Bop → D → D → (D → Prop) → Prop
  | .add, .int a, .int b, k => k (.int (a + b))
  | .add, .tup xs, .tup ys, k => xs.length + ys.length ≤ SZ ∧ k (.tup (xs ++ ys))
  | .add, .lst xs, .lst ys, k => xs.length + ys.length ≤ SZ ∧ k (.lst (xs ++ ys))
  | .sub, .int a, .int b, k => k (.int (a - b))
  | .mul, .int a, .int b, k => mulOk a b ∧ k (.int (a * b))
  | .mul, .lst xs, .int b, k => (0 ≤ b ∧ b ≤ SZ ∧ xs.length * b.toNat ≤ SZ) ∧ k (.lst (List.replicate b.toNat xs).flatten)
  | .fdiv, .int a, .int b, k => divOk b ∧ k (.int (a.fdiv b))
  | .mod, .int a, .int b, k => b ≠ 0 ∧ k (.int (a.fmod b))
  | .pow, .int a, .int b, k => (0 ≤ b ∧ b ≤ 1000000 ∧ a.natAbs < 2 ^ 64) ∧ k (.int (a ^ b.toNat))
  | _, _, _, _ => False
mutual
/-- equality of data, as == tells it -/
def eqD : D → D → Bool
  | .non, .non => true
  | .bl a, .bl b => a == b
  | .bl a, .int j => decide ((if a then 1 else 0) = j)
  | .int i, .bl b => decide (i = (if b then 1 else 0))
  | .int i, .int j => decide (i = j)
  | .str x, .str y => x == y
  | .tup xs, .tup ys => eqDs xs ys
  | .lst xs, .lst ys => eqDs xs ys
  | _, _ => false
def eqDs : List D → List D → Bool
  | [], [] => true
  | x :: xs, y :: ys => eqD x y && eqDs xs ys
  | _, _ => false
end
mutual
/-- data through and through, at most n deep -/
def pure? : Nat → D → Bool
  | _, .non => true
  | _, .bl _ => true
  | _, .int _ => true
  | _, .str x => PySem.PyData.strOk x
  | 0, _ => false
  | n + 1, .tup ds => pures? n ds
  | n + 1, .lst ds => pures? n ds
  | _, _ => false
def pures? : Nat → List D → Bool
  | _, [] => true
  | n, d :: ds => pure? n d && pures? n ds
end
def DEEP : Nat := 40
mutual
/-- numbers of few figures alone -/
def smD : D → Prop
  | .int i => i.natAbs < 2 ^ 990
  | .non => True
  | .bl _ => True
  | .tup ds => smDs ds
  | .lst ds => smDs ds
  | _ => False
def smDs : List D → Prop
  | [] => True
  | d :: ds => smD d ∧ smDs ds
end
mutual
/-- how many parts -/
def nod : D → Nat
  | .tup ds => nods ds + 1
  | .lst ds => nods ds + 1
  | _ => 1
def nods : List D → Nat
  | [] => 0
  | d :: ds => nod d + nods ds
end
/-- the text of a row -/
def repD : D → (D → Prop) → Prop
  | .tup ds, k => (pure? DEEP (.tup ds) = true ∧ smDs ds ∧ nods ds ≤ 20000) ∧ k (.rep (.tup ds))
  | .lst ds, k => (pure? DEEP (.lst ds) = true ∧ smDs ds ∧ nods ds ≤ 20000) ∧ k (.rep (.lst ds))
  | _, _ => False
def isNon : D → Bool
  | .non => true
  | _ => false
def isBl (b : Bool) : D → Bool
  | .bl c => c == b
  | _ => false
def inD (x : D) (ys : List D) : Bool := ys.any fun y => eqD y x
def cop : Cop → D → D → (Bool → Prop) → Prop
  | .eq, .int a, .int b, k => k (decide (a = b))
  | .eq, .rep a, .rep b, k => a = b ∧ k true
  | .eq, x, y, k => (pure? DEEP x = true ∧ pure? DEEP y = true) ∧ k (eqD x y)
  | .ne, .int a, .int b, k => k (!decide (a = b))
  | .ne, .rep a, .rep b, k => a = b ∧ k false
  | .ne, x, y, k => (pure? DEEP x = true ∧ pure? DEEP y = true) ∧ k (!eqD x y)
  | .lt, .int a, .int b, k => k (decide (a < b))
  | .le, .int a, .int b, k => k (decide (a ≤ b))
  | .gt, .int a, .int b, k => k (decide (b < a))
  | .ge, .int a, .int b, k => k (decide (b ≤ a))
  | .is, x, .non, k => k (isNon x)
  | .isnot, x, .non, k => k (!isNon x)
  | .is, .bl c, .bl b, k => k (c == b)
  | .isnot, .bl c, .bl b, k => k (!(c == b))
  | .isin, x, .lst ys, k => (pure? DEEP x = true ∧ pures? DEEP ys = true) ∧ k (inD x ys)
  | .notin, x, .lst ys, k => (pure? DEEP x = true ∧ pures? DEEP ys = true) ∧ k (!inD x ys)
  | .isin, x, .tup ys, k => (pure? DEEP x = true ∧ pures? DEEP ys = true) ∧ k (inD x ys)
  | .notin, x, .tup ys, k => (pure? DEEP x = true ∧ pures? DEEP ys = true) ∧ k (!inD x ys)
  | _, _, _, _ => False
def tru : D → (Bool → Prop) → Prop
  | .non, k => k false
  | .bl b, k => k b
  | .int i, k => k (!decide (i = 0))
  | .tup ds, k => k (!ds.isEmpty)
  | .lst ds, k => k (!ds.isEmpty)
  | _, _ => False
/-- an item at an index, from either end -/
def nth (ds : List D) (i : Int) : Option D := L2.atI ds i
def slice (ds : List D) (lo hi : Option Int) : List D := (ds.drop (HT.sIx ds.length 0 lo)).take (HT.sIx ds.length ds.length hi - HT.sIx ds.length 0 lo)
def tyIs : Ty → D → Option Bool
  | t, .int _ => some (match t with | .int => true | _ => false)
  | t, .bl _ => some (match t with | .int => true | .bool => true | _ => false)
  | t, .str _ => some (match t with | .str => true | _ => false)
  | t, .tup _ => some (match t with | .tup => true | _ => false)
  | t, .lst _ => some (match t with | .lst => true | _ => false)
  | t, .ref _ => some (match t with | .lst => true | _ => false)
  | t, .frz _ => some (match t with | .lst => true | _ => false)
  | t, .rep _ => some (match t with | .str => true | _ => false)
  | t, .dic => some (match t with | .dict => true | _ => false)
  | _, .non => some false
  | _, _ => none
/-- of one of the types -/
def tyAny (ts : List Ty) (d : D) : Option Bool := match tyIs .int d with
  | none => none
  | some _ => some (ts.any fun t => match tyIs t d with
    | some b => b
    | none => false)
def ints? : List D → Option (List Int)
  | [] => some []
  | .int i :: r => (ints? r).map (i :: ·)
  | _ => none
def bls? : List D → Option (List Bool)
  | [] => some []
  | .bl b :: r => (bls? r).map (b :: ·)
  | _ => none
/-- the value of a sequence, as it stands -/
def seq : D → Store → (List D → Prop) → Prop
  | .tup ds, _, k => k ds
  | .lst ds, _, k => k ds
  | .frz ds, _, k => k ds
  | .ref l, S, k => (match cl S l with | some ds => k ds | none => False)
  | _, _, _ => False
def on1 (f : D → Store → (D → Prop) → Prop) : List D → Store → (D → Prop) → Prop
  | [d], S, k => f d S k
  | _, _, _ => False
def on2 (f : D → D → (D → Prop) → Prop) : List D → Store → (D → Prop) → Prop
  | [d, e], _, k => f d e k
  | _, _, _ => False
def onI (f : Int → D) (d : D) (k : D → Prop) : Prop := match d with
  | .int a => k (f a)
  | _ => False
def onII (c : Int → Int → Prop) (f : Int → Int → D) (d e : D) (k : D → Prop) : Prop := match d, e with
  | .int a, .int b => c a b ∧ k (f a b)
  | _, _ => False
def onBs (f : List Bool → D) (d : D) (k : D → Prop) : Prop := match d with
  | .lst ds => (match bls? ds with | some bs => k (f bs) | none => False)
  | _ => False
def onIs (f : List Int → D) (d : D) (k : D → Prop) : Prop := match d with
  | .lst ds => (match ints? ds with | some bs => k (f bs) | none => False)
  | _ => False
def bfn : Bi → List D → Store → (D → Prop) → Prop
  | .len => on1 fun d S k => seq d S fun ds => k (.int ds.length)
  | .abs => on1 fun d _ k => onI (fun a => .int (if a < 0 then -a else a)) d k
  | .max2 => on2 (onII (fun _ _ => True) fun a b => .int (if b > a then b else a))
  | .min2 => on2 (onII (fun _ _ => True) fun a b => .int (if b < a then b else a))
  | .int => on1 fun d _ k => (match d with
    | .int a => k (.int a)
    | .bl b => k (.int (if b then 1 else 0))
    | _ => False)
  | .divmod => on2 (onII (fun _ b => 0 < b ∧ divOk b) fun a b => .tup [.int (a / b), .int (a % b)])
  | .gcd => on2 (onII (fun _ _ => True) fun a b => .int ((Nat.gcd a.natAbs b.natAbs : Nat) : Int))
  | .all => on1 fun d _ k => onBs (fun bs => .bl (bs.all id)) d k
  | .any => on1 fun d _ k => onBs (fun bs => .bl (bs.any id)) d k
  | .sum => on1 fun d _ k => onIs (fun is => .int is.sum) d k
  | .tuple => on1 fun d S k => seq d S fun ds => k (.tup ds)
  | .list => on1 fun d S k => seq d S fun ds => k (.lst ds)
  | .repr => on1 fun d _ k => repD d k
  | .str => on1 fun d _ k => (match d with
    | .int a => a.natAbs < 2 ^ 990 ∧ k (.rep (.int a))
    | _ => False)
mutual
def bindP : Pt → D → Env → Option Env
  | .nm i, d, σ => some (st σ i d)
  | .tp ps, .tup ds, σ => bindPs ps ds σ
  | .tp ps, .lst ds, σ => bindPs ps ds σ
  | .tp _, _, _ => none
def bindPs : List Pt → List D → Env → Option Env
  | [], [], σ => some σ
  | p :: ps, d :: ds, σ => (match bindP p d σ with | some σ' => bindPs ps ds σ' | none => none)
  | _, _, _ => none
end
/-- what a loop walks stands still: none, or the cell l with these items -/
abbrev Gd := Option (Nat × List D)
def gdo (g : Gd) (S : Store) (p : Prop) : Prop := match g with
  | none => p
  | some (l, ds) => cl S l = some ds ∧ p
/-- the items of what is walked -/
def itm : D → Store → (Gd → List D → Prop) → Prop
  | .tup ds, _, k => k none ds
  | .lst ds, _, k => k none ds
  | .frz ds, _, k => k none ds
  | .itr ds, _, k => k none ds
  | .ref l, S, k => (match cl S l with | some ds => k (some (l, ds)) ds | none => False)
  | _, _, _ => False
def forC (g : Gd) (one : D → Store → (List D → Store → Prop) → Prop) : List D → Store → (List D → Store → Prop) → Prop
  | [], S, k => gdo g S (k [] S)
  | x :: xs, S, k => gdo g S (one x S fun ys S1 => forC g one xs S1 fun zs S2 => k (ys ++ zs) S2)
def mk (fresh : Bool) (ds : List D) (S : Store) (k : D → Store → Prop) : Prop := match fresh with
  | true => k (.ref S.length) (S ++ [ds])
  | false => k (.lst ds) S
def rngI (lo : Int) : Nat → List D
  | 0 => []
  | n + 1 => .int lo :: rngI (lo + 1) n
def zipD : List D → List D → List D
  | x :: xs, y :: ys => .tup [x, y] :: zipD xs ys
  | _, _ => []
def enmD : Int → List D → List D
  | _, [] => []
  | i, x :: xs => .tup [.int i, x] :: enmD (i + 1) xs
/-- two sequences that stand still -/
def two : D → D → (List D → List D → Prop) → Prop
  | .tup xs, .tup ys, k => k xs ys
  | .lst xs, .lst ys, k => k xs ys
  | .tup xs, .lst ys, k => k xs ys
  | _, _, _ => False
def still : D → (List D → Prop) → Prop
  | .lst xs, k => k xs
  | .tup xs, k => k xs
  | _, _ => False
/-- rows of whole numbers -/
def rws? : List D → Option (List (List Int))
  | [] => some []
  | .tup ds :: r => (match ints? ds with | some is => (rws? r).map (is :: ·) | none => none)
  | _ => none
/-- each once -/
def ddl : List (List Int) → List (List Int)
  | [] => []
  | x :: xs => if x ∈ xs then ddl xs else x :: ddl xs
def nsetD (ds : List D) (k : Int → Prop) : Prop := match rws? ds with
  | some ks => ks.length < 64 ∧ k ((ddl ks).length : Nat)
  | none => False
/-- how many there are, each counted once -/
def setN (x : D) (S : Store) (k : Int → Prop) : Prop := match x with
  | .lst ds => nsetD ds k
  | .ref l => (match cl S l with | some ds => nsetD ds k | none => False)
  | _ => False
def inrD (neg : Bool) (x : D) (ys : List D) (k : Bool → Prop) : Prop := (pure? DEEP x = true ∧ pures? DEEP ys = true) ∧ k (if neg then !inD x ys else inD x ys)
/-- in or not in a row, or a list that changes -/
def isnD (neg : Bool) (x y : D) (S : Store) (k : Bool → Prop) : Prop := match y with
  | .lst ys => inrD neg x ys k
  | .tup ys => inrD neg x ys k
  | .ref l => (match cl S l with | some ys => inrD neg x ys k | none => False)
  | _ => False
/-- a list, one that changes too -/
def rowR (x : D) (S : Store) : Option (List D) := match x with
  | .lst ds => some ds
  | .ref l => cl S l
  | _ => none
/-- two lists, one behind the other -/
def catD (x y : D) (S : Store) (k : List D → Prop) : Prop := match rowR x S with
  | some a => (match rowR y S with
    | some b => a.length + b.length ≤ SZ ∧ k (a ++ b)
    | none => False)
  | none => False
/-- how often a whole number stands in a row of whole numbers -/
def cntD : List D → D → (Int → Prop) → Prop
  | ds, .int i, k => (match ints? ds with | some is => k (is.count i : Nat) | none => False)
  | _, _, _ => False
def onRef (d : D) (k : Nat → Prop) : Prop := match d with
  | .ref l => k l
  | _ => False
def tv (t : Bool) (d : D) (S : Store) (k : D → Store → Prop) : Prop := match t with
  | true => tru d fun b => k (.bl b) S
  | false => k d S
def asB (k : Bool → Store → Prop) : D → Store → Prop
  | .bl b, S => k b S
  | _, _ => False
def asI (k : Int → Store → Prop) : D → Store → Prop
  | .int i, S => k i S
  | _, _ => False
/-- keyword values in the parameters' order -/
def pick (ord : List Nat) (ds : List D) : List D := ord.map fun i => ds.getD i .non
/-- a def's call: its number, arguments, store, what is wanted of the answer, of an error -/
abbrev Hd := Nat → List D → Store → (D → Store → Prop) → (D → Store → Prop) → Prop
/-- a sequence that is spread out: one that stands -/
def spr : D → (List D → Prop) → Prop
  | .tup xs, k => k xs
  | .lst xs, k => k xs
  | .frz xs, k => k xs
  | _, _ => False
mutual
/-- the value of an expression (t: as a test) -/
def ev (C : Hd) (X : D → Store → Prop) : E → Bool → Env → Store → (D → Store → Prop) → Prop
  | .var i, t, σ, S, k => (match lk σ i with | some d => tv t d S k | none => False)
  | .cst d, t, _, S, k => tv t d S k
  | .glb _ d, t, _, S, k => tv t d S k
  | .bin op a b, t, σ, S, k => ev C X a false σ S fun x S1 => ev C X b false σ S1 fun y S2 => bop op x y fun z => tv t z S2 k
  | .neg a, t, σ, S, k => ev C X a false σ S (asI fun i S1 => tv t (.int (-i)) S1 k)
  | .not a, t, σ, S, k => ev C X a t σ S (asB fun b S1 => k (.bl (!b)) S1)
  | .cmp op a b, _, σ, S, k => ev C X a false σ S fun x S1 => ev C X b false σ S1 fun y S2 => cop op x y fun z => k (.bl z) S2
  | .cmp2 op op' a b c, _, σ, S, k => ev C X a false σ S fun x S1 => ev C X b false σ S1 fun y S2 => cop op x y fun z =>
      brk z (ev C X c false σ S2 fun w S3 => cop op' y w fun z' => k (.bl z') S3) (k (.bl false) S2)
  | .and a b, t, σ, S, k => ev C X a t σ S (asB fun c S1 => brk c (ev C X b t σ S1 k) (k (.bl false) S1))
  | .or a b, t, σ, S, k => ev C X a t σ S (asB fun c S1 => brk c (k (.bl true) S1) (ev C X b t σ S1 k))
  | .ite c a b, t, σ, S, k => ev C X c true σ S (asB fun z S1 => brk z (ev C X a false σ S1 fun x S2 => tv t x S2 k) (ev C X b false σ S1 fun x S2 => tv t x S2 k))
  | .tup es, t, σ, S, k => evs C X es σ S fun ds S1 => tv t (.tup ds) S1 k
  | .lst fr es, t, σ, S, k => evs C X es σ S fun ds S1 => mk fr ds S1 fun d S2 => tv t d S2 k
  | .idx a i, t, σ, S, k => ev C X a false σ S fun x S1 => ev C X i false σ S1 (asI fun j S2 => seq x S2 fun ds => (match nth ds j with | some d => tv t d S2 k | none => False))
  | .slc a lo hi, t, σ, S, k => ev C X a false σ S fun x S1 => evo C X lo σ S1 fun l S2 => evo C X hi σ S2 fun h S3 =>
      (match x with
        | .tup ds => tv t (.tup (slice ds l h)) S3 k
        | .lst ds => tv t (.lst (slice ds l h)) S3 k
        | .frz ds => tv t (.lst (slice ds l h)) S3 k
        | .ref c => (match cl S3 c with | some ds => tv t (.lst (slice ds l h)) S3 k | none => False)
        | _ => False)
  | .rev a, t, σ, S, k => ev C X a false σ S fun x S1 => (match x with
        | .tup ds => tv t (.tup ds.reverse) S1 k
        | .lst ds => tv t (.lst ds.reverse) S1 k
        | _ => False)
  | .call f es, t, σ, S, k => evs C X es σ S fun ds S1 => C f ds S1 (fun d S2 => tv t d S2 k) X
  | .callk f ord es, t, σ, S, k => evs C X es σ S fun ds S1 => C f (pick ord ds) S1 (fun d S2 => tv t d S2 k) X
  | .bi b es, t, σ, S, k => evs C X es σ S fun ds S1 => bfn b ds S1 fun d => tv t d S1 k
  | .isi e ty, _, σ, S, k => ev C X e false σ S fun x S1 => (match tyIs ty x with | some b => k (.bl b) S1 | none => False)
  | .isi2 e ts, _, σ, S, k => ev C X e false σ S fun x S1 => (match tyAny ts x with | some b => k (.bl b) S1 | none => False)
  | .lc fr own p it cond elt, t, σ, S, k => ev C X it false σ S fun x S1 => itm x S1 fun g ds => ds.length ≤ SZ ∧
      forC g (fun y S2 k2 => (match bindP p y (wp0 σ own) with
        | some σ' => evt C X cond σ' S2 fun b S3 => brk b (ev C X elt false σ' S3 fun z S4 => k2 [z] S4) (k2 [] S3)
        | none => False)) ds S1 fun zs S5 => mk fr zs S5 fun d S6 => tv t d S6 k
  | .lc2 fr own p it cond own2 p2 it2 cond2 elt, t, σ, S, k => ev C X it false σ S fun x S1 => itm x S1 fun g ds => ds.length ≤ 1000 ∧
      forC g (fun y S2 k2 => (match bindP p y (wp0 σ own) with
        | some σ' => evt C X cond σ' S2 fun b S3 => brk b (ev C X it2 false σ' S3 fun x2 S4 => itm x2 S4 fun g2 ds2 => ds2.length ≤ 1000 ∧
            forC g2 (fun y2 S5 k3 => (match bindP p2 y2 (wp0 σ' own2) with
              | some σ'' => evt C X cond2 σ'' S5 fun b2 S6 => brk b2 (ev C X elt false σ'' S6 fun z S7 => k3 [z] S7) (k3 [] S6)
              | none => False)) ds2 S4 k2) (k2 [] S3)
        | none => False)) ds S1 fun zs S5 => mk fr zs S5 fun d S6 => tv t d S6 k
  | .rng a b, _, σ, S, k => ev C X a false σ S (asI fun i S1 => ev C X b false σ S1 (asI fun j S2 => (i.natAbs < 2 ^ 60 ∧ j.natAbs < 2 ^ 60) ∧ k (.itr (rngI i (j - i).toNat)) S2))
  | .rng1 b, _, σ, S, k => ev C X b false σ S (asI fun j S2 => j.natAbs < 2 ^ 60 ∧ k (.itr (rngI 0 j.toNat)) S2)
  | .zip a b, _, σ, S, k => ev C X a false σ S fun x S1 => ev C X b false σ S1 fun y S2 => two x y fun xs ys => k (.itr (zipD xs ys)) S2
  | .enm a, _, σ, S, k => ev C X a false σ S fun x S1 => still x fun xs => k (.itr (enmD 0 xs)) S1
  | .app a e, _, σ, S, k => ev C X a false σ S fun x S1 => onRef x fun l => ev C X e false σ S1 fun y S2 => (match cl S2 l with | some ds => ds.length < SZ ∧ k .non (S2.set l (ds ++ [y])) | none => False)
  | .cnt es e, t, σ, S, k => evs C X es σ S fun ds S1 => ev C X e false σ S1 fun y S2 => cntD ds y fun n => tv t (.int n) S2 k
  | .nset a, t, σ, S, k => ev C X a false σ S fun x S1 => setN x S1 fun n => tv t (.int n) S1 k
  | .isn neg a b, _, σ, S, k => ev C X a false σ S fun x S1 => ev C X b false σ S1 fun y S2 => isnD neg x y S2 fun z => k (.bl z) S2
  | .dct, t, _, S, k => tv t .dic S k
  | .cat fr a b, _, σ, S, k => ev C X a false σ S fun x S1 => ev C X b false σ S1 fun y S2 => catD x y S2 fun zs => mk fr zs S2 k
  | .tcat fl es, t, σ, S, k => evss C X es fl σ S fun zs S1 => zs.length ≤ SZ ∧ tv t (.tup zs) S1 k
def evs (C : Hd) (X : D → Store → Prop) : List E → Env → Store → (List D → Store → Prop) → Prop
  | [], _, S, k => k [] S
  | e :: es, σ, S, k => ev C X e false σ S fun d S1 => evs C X es σ S1 fun ds S2 => k (d :: ds) S2
def evss (C : Hd) (X : D → Store → Prop) : List E → List Bool → Env → Store → (List D → Store → Prop) → Prop
  | [], [], _, S, k => k [] S
  | e :: es, false :: fl, σ, S, k => ev C X e false σ S fun d S1 => evss C X es fl σ S1 fun ds S2 => k (d :: ds) S2
  | e :: es, true :: fl, σ, S, k => ev C X e false σ S fun d S1 => spr d fun xs => evss C X es fl σ S1 fun ds S2 => k (xs ++ ds) S2
  | _, _, _, _, _ => False
def evo (C : Hd) (X : D → Store → Prop) : Option E → Env → Store → (Option Int → Store → Prop) → Prop
  | none, _, S, k => k none S
  | some e, σ, S, k => ev C X e false σ S (asI fun i S1 => k (some i) S1)
def evt (C : Hd) (X : D → Store → Prop) : Option E → Env → Store → (Bool → Store → Prop) → Prop
  | none, _, S, k => k true S
  | some e, σ, S, k => ev C X e true σ S (asB k)
end
/-! ### statements -/
structure Ends where
  nx : Env → Store → Prop
  rt : D → Store → Prop
  bk : Env → Store → Prop
  ct : Env → Store → Prop
mutual
def asg (C : Hd) (X : D → Store → Prop) : Tg → D → Env → Store → (Env → Store → Prop) → Prop
  | .pt p, d, σ, S, k => (match bindP p d σ with | some σ' => k σ' S | none => False)
  | .sub o i, d, σ, S, k => ev C X o false σ S fun x S1 => ev C X i false σ S1 (asI fun j S2 => (match x with
        | .ref l => (match cl S2 l with | some ds => (0 ≤ j ∧ j < ds.length) ∧ k σ (S2.set l (ds.set j.toNat d)) | none => False)
        | _ => False))
  | .tp ts, d, σ, S, k => (match d with | .tup ds => ds.length = ts.length ∧ asgs C X ts ds σ S k | _ => False)
def asgs (C : Hd) (X : D → Store → Prop) : List Tg → List D → Env → Store → (Env → Store → Prop) → Prop
  | [], [], σ, S, k => k σ S
  | t :: ts, d :: ds, σ, S, k => asg C X t d σ S fun σ1 S1 => asgs C X ts ds σ1 S1 k
  | _, _, _, _, _ => False
end
def sts : List Nat → List D → Env → Env
  | i :: is, d :: ds, σ => sts is ds (st σ i d)
  | _, _, σ => σ
def forW (g : Gd) (body : Env → Store → Ends → Prop) (p : Pt) (N : Ends) : List D → Env → Store → Prop
  | [], σ, S => gdo g S (N.nx σ S)
  | x :: xs, σ, S => gdo g S (match bindP p x σ with
    | some σ' => body σ' S { N with nx := fun σ2 S2 => forW g body p N xs σ2 S2, ct := fun σ2 S2 => forW g body p N xs σ2 S2, bk := N.nx }
    | none => False)
def whlW (c : Env → Store → (Bool → Store → Prop) → Prop) (body : Env → Store → Ends → Prop) (D : Ends) : Nat → Env → Store → Prop
  | 0, _, _ => False
  | n + 1, σ, S => c σ S fun b S1 => brk b (body σ S1 { D with nx := fun σ2 S2 => whlW c body D n σ2 S2, ct := fun σ2 S2 => whlW c body D n σ2 S2, bk := D.nx }) (D.nx σ S1)
mutual
def ex (C : Hd) (X : D → Store → Prop) : Sm → Env → Store → Ends → Prop
  | .set t e, σ, S, D => ev C X e false σ S fun d S1 => asg C X t d σ S1 D.nx
  | .par is es, σ, S, D => evs C X es σ S fun ds S1 => D.nx (sts is ds σ) S1
  | .expr e, σ, S, D => ev C X e false σ S fun _ S1 => D.nx σ S1
  | .ret e, σ, S, D => ev C X e false σ S D.rt
  | .retN, _, S, D => D.rt .non S
  | .iff c a b, σ, S, D => ev C X c true σ S (asB fun z S1 => brk z (exs C X a σ S1 D) (exs C X b σ S1 D))
  | .for_ p it body, σ, S, D => ev C X it false σ S fun x S1 => itm x S1 fun g ds => forW g (exs C X body) p D ds σ S1
  | .whl c body, σ, S, D => ∃ n, whlW (fun σ S k => ev C X c true σ S (asB k)) (exs C X body) D n σ S
  | .raise, _, _, _ => False
  | .pass, σ, S, D => D.nx σ S
  | .brk, σ, S, D => D.bk σ S
  | .cont, σ, S, D => D.ct σ S
def exs (C : Hd) (X : D → Store → Prop) : List Sm → Env → Store → Ends → Prop
  | [], σ, S, D => D.nx σ S
  | s :: r, σ, S, D => ex C X s σ S { D with nx := fun σ1 S1 => exs C X r σ1 S1 D }
end
/-- a def: how many parameters, how many slots, its body -/
structure Fn where
  np : Nat
  ns : Nat
  body : List Sm
def start (ds : List D) (n : Nat) : Env := ds.map some ++ List.replicate (n - ds.length) none
def callw (T : Nat → Option Fn) : Nat → Hd
  | 0 => fun _ _ _ _ _ => False
  | n + 1 => fun f ds S k X => match T f with
    | none => False
    | some d => ds.length = d.np ∧ exs (callw T n) X d.body (start ds d.ns) S { nx := fun _ S1 => k .non S1, rt := k, bk := fun _ _ => False, ct := fun _ _ => False }
end FV
set_option Elab.async false
set_option linter.all false
set_option maxRecDepth 100000
set_option maxHeartbeats 2000000
/-! Rel: how pure data stand in the layer's heap; the operators. -/
namespace FV
open PySem L2
/-- the cells' addresses; hidden lists: under construction, no value of the program -/
structure Ms where
  c : List Addr
  x : List Addr
/-- a list that stands: frozen, or of the text's own objects -/
def SqF (K : PySem.W.Frag) (H : Hp) (a : Addr) (xs : List V) : Prop := (∃ o, H a = some (.frz o (.lst xs))) ∨
    ∃ (o : Obj) (its : Array Value) (n : Nat), K.lookup a = some o ∧ o.cls = .type "list" ∧ o.dict = none ∧ o.data = .seq its n ∧ its.size ≤ sizeLine ∧ Vals xs its.toList
theorem SqF.sql {K : PySem.W.Frag} {H : Hp} {a : Addr} {xs : List V} (h : SqF K H a xs) : SqL K H a xs := h.elim (fun z => .inl (.inr z)) .inr
mutual
def py : D → PyData
  | .non => .none
  | .bl b => .bool b
  | .int i => .int i
  | .str s => .str s
  | .tup ds => .tuple (pys ds)
  | .lst ds => .list (pys ds)
  | _ => .none
def pys : List D → List PyData
  | [] => []
  | d :: ds => py d :: pys ds
end
mutual
inductive RelD (K : PySem.W.Frag) (m : Ms) (H : Hp) : D → V → Prop
  | non : RelD K m H .non .non
  | bl (b : Bool) : RelD K m H (.bl b) (.bl b)
  | int (i : Int) : RelD K m H (.int i) (.int i)
  | str (s : Str) : RelD K m H (.str s) (.str s)
  | tup {ds : List D} {a : Addr} {vs : List V} : SqT K H a vs → RelDs K m H ds vs → RelD K m H (.tup ds) (.ref a)
  | lst {ds : List D} {a : Addr} {vs : List V} : H a = some (.lst vs) → (a ∉ m.c ∧ a ∉ m.x) → RelDs K m H ds vs → RelD K m H (.lst ds) (.ref a)
  | frz {ds : List D} {a : Addr} {vs : List V} : SqF K H a vs → RelDs K m H ds vs → RelD K m H (.frz ds) (.ref a)
  | ref {l : Nat} {a : Addr} : m.c[l]? = some a → RelD K m H (.ref l) (.ref a)
  | rep (d : D) : RelD K m H (.rep d) (.str (py d).shown)
  | dic {a : Addr} : H a = some (.dK []) → RelD K m H .dic (.ref a)
inductive RelDs (K : PySem.W.Frag) (m : Ms) (H : Hp) : List D → List V → Prop
  | nil : RelDs K m H [] []
  | cons {d : D} {v : V} {ds : List D} {vs : List V} : RelD K m H d v → RelDs K m H ds vs → RelDs K m H (d :: ds) (v :: vs)
end
/-- the heap has grown: what was there stands, but for the cells -/
structure Ext (m : Ms) (H : Hp) (m' : Ms) (H' : Hp) : Prop where
  keep : ∀ a o, H a = some o → ((∃ vs, o = .lst vs) → a ∉ m.c) → H' a = some o
  grow : ∃ t, m'.c = m.c ++ t ∧ ∀ p ∈ t, H p = none
  hid : m'.x = m.x
  dom : ∀ a, H a ≠ none → H' a ≠ none
theorem Ext.refl {m : Ms} {H : Hp} : Ext m H m H := ⟨fun _ _ e _ => e, ⟨[], by simp, fun _ h => absurd h (by simp)⟩, rfl, fun _ h => h⟩
theorem Ext.trans {m m1 m2 : Ms} {H H1 H2 : Hp} (a : Ext m H m1 H1) (b : Ext m1 H1 m2 H2) : Ext m H m2 H2 := by
  obtain ⟨t1, e1, f1⟩ := a.grow
  obtain ⟨t2, e2, f2⟩ := b.grow
  refine ⟨fun x o e c => b.keep x o (a.keep x o e c) fun l hm => ?_, ⟨t1 ++ t2, by rw [e2, e1, List.append_assoc], fun p hp => ?_⟩, b.hid.trans a.hid, fun x h => b.dom x (a.dom x h)⟩
  · rw [e1] at hm
    rcases List.mem_append.mp hm with z | z
    · exact c l z
    · rw [f1 x z] at e; cases e
  · rcases List.mem_append.mp hp with z | z
    · exact f1 p z
    · cases q : H p with
      | none => rfl
      | some o => exact absurd (f2 p z) (a.dom p (by rw [q]; simp))
/-- a list that is no cell stays, and becomes none -/
theorem Ext.fix {m m' : Ms} {H H' : Hp} (x : Ext m H m' H') {a : Addr} {vs : List V} (h : H a = some (.lst vs)) (n : a ∉ m.c) : H' a = some (.lst vs) ∧ a ∉ m'.c := by
  refine ⟨x.keep _ _ h fun _ => n, ?_⟩
  obtain ⟨t, e, f⟩ := x.grow
  rw [e]
  intro hm
  rcases List.mem_append.mp hm with z | z
  · exact n z
  · rw [f a z] at h; cases h
/-- .. where lists may have begun to be built -/
structure Gr (m : Ms) (H : Hp) (m' : Ms) (H' : Hp) : Prop where
  keep : ∀ a o, H a = some o → ((∃ vs, o = .lst vs) → a ∉ m.c) → H' a = some o
  grow : ∃ t, m'.c = m.c ++ t ∧ ∀ p ∈ t, H p = none
  hid : ∃ t, m'.x = t ++ m.x ∧ ∀ p ∈ t, H p = none
  dom : ∀ a, H a ≠ none → H' a ≠ none
theorem Ext.gr {m m' : Ms} {H H' : Hp} (x : Ext m H m' H') : Gr m H m' H' := ⟨x.keep, x.grow, ⟨[], x.hid, fun _ h => absurd h (by simp)⟩, x.dom⟩
theorem Gr.trans {m m1 m2 : Ms} {H H1 H2 : Hp} (a : Gr m H m1 H1) (b : Gr m1 H1 m2 H2) : Gr m H m2 H2 := by
  obtain ⟨t1, e1, f1⟩ := a.grow
  obtain ⟨t2, e2, f2⟩ := b.grow
  obtain ⟨u1, d1, g1⟩ := a.hid
  obtain ⟨u2, d2, g2⟩ := b.hid
  have back : ∀ p, H1 p = none → H p = none := fun p hp => by
    cases q : H p with
    | none => rfl
    | some o => exact absurd hp (a.dom p (by rw [q]; simp))
  refine ⟨fun x o e c => b.keep x o (a.keep x o e c) fun l hm => ?_, ⟨t1 ++ t2, by rw [e2, e1, List.append_assoc], fun p hp => ?_⟩, ⟨u2 ++ u1, by rw [d2, d1, List.append_assoc], fun p hp => ?_⟩, fun x h => b.dom x (a.dom x h)⟩
  · rw [e1] at hm
    rcases List.mem_append.mp hm with z | z
    · exact c l z
    · rw [f1 x z] at e; cases e
  · exact (List.mem_append.mp hp).elim (f1 p) fun z => back p (f2 p z)
  · exact (List.mem_append.mp hp).elim (fun z => back p (g2 p z)) (g1 p)
theorem Gr.fix {m m' : Ms} {H H' : Hp} (x : Gr m H m' H') {a : Addr} {vs : List V} (h : H a = some (.lst vs)) (n : a ∉ m.c) : H' a = some (.lst vs) ∧ a ∉ m'.c := by
  refine ⟨x.keep _ _ h fun _ => n, ?_⟩
  obtain ⟨t, e, f⟩ := x.grow
  rw [e]
  intro hm
  rcases List.mem_append.mp hm with z | z
  · exact n z
  · rw [f a z] at h; cases h
/-- .. and where hidden lists may have changed -/
structure Gh (m : Ms) (H : Hp) (m' : Ms) (H' : Hp) : Prop where
  keep : ∀ a o, H a = some o → ((∃ vs, o = .lst vs) → a ∉ m.c ∧ a ∉ m.x) → H' a = some o
  grow : ∃ t, m'.c = m.c ++ t ∧ ∀ p ∈ t, H p = none
  hid : ∃ t, m'.x = t ++ m.x ∧ ∀ p ∈ t, H p = none
  dom : ∀ a, H a ≠ none → H' a ≠ none
theorem Gr.gh {m m' : Ms} {H H' : Hp} (x : Gr m H m' H') : Gh m H m' H' := ⟨fun a o e c => x.keep a o e fun l => (c l).1, x.grow, x.hid, x.dom⟩
theorem Gh.trans {m m1 m2 : Ms} {H H1 H2 : Hp} (a : Gh m H m1 H1) (b : Gh m1 H1 m2 H2) : Gh m H m2 H2 := by
  obtain ⟨t1, e1, f1⟩ := a.grow
  obtain ⟨t2, e2, f2⟩ := b.grow
  obtain ⟨u1, d1, g1⟩ := a.hid
  obtain ⟨u2, d2, g2⟩ := b.hid
  have back : ∀ p, H1 p = none → H p = none := fun p hp => by
    cases q : H p with
    | none => rfl
    | some o => exact absurd hp (a.dom p (by rw [q]; simp))
  refine ⟨fun x o e c => b.keep x o (a.keep x o e c) fun l => ⟨fun hm => ?_, fun hm => ?_⟩, ⟨t1 ++ t2, by rw [e2, e1, List.append_assoc], fun p hp => ?_⟩, ⟨u2 ++ u1, by rw [d2, d1, List.append_assoc], fun p hp => ?_⟩, fun x h => b.dom x (a.dom x h)⟩
  · rw [e1] at hm
    rcases List.mem_append.mp hm with z | z
    · exact (c l).1 z
    · rw [f1 x z] at e; cases e
  · rw [d1] at hm
    rcases List.mem_append.mp hm with z | z
    · rw [g1 x z] at e; cases e
    · exact (c l).2 z
  · exact (List.mem_append.mp hp).elim (f1 p) fun z => back p (f2 p z)
  · exact (List.mem_append.mp hp).elim (fun z => back p (g2 p z)) (g1 p)
theorem Gh.fix {m m' : Ms} {H H' : Hp} (x : Gh m H m' H') {a : Addr} {vs : List V} (h : H a = some (.lst vs)) (n : a ∉ m.c ∧ a ∉ m.x) : H' a = some (.lst vs) ∧ a ∉ m'.c := by
  refine ⟨x.keep _ _ h fun _ => n, ?_⟩
  obtain ⟨t, e, f⟩ := x.grow
  rw [e]
  intro hm
  rcases List.mem_append.mp hm with z | z
  · exact n.1 z
  · rw [f a z] at h; cases h
/-- a hidden list changes -/
theorem Gh.upd {m m' : Ms} {H H' : Hp} (x : Gh m H m' H') {p : Addr} {o : HO} (hp : p ∈ m.x) (hl : ∃ vs, H p = some (.lst vs)) : Gh m H m' (upd H' p o) := by
  refine ⟨fun a q e c => ?_, x.grow, x.hid, fun a h => ?_⟩
  · have : a ≠ p := fun z => by
      subst z
      obtain ⟨vs, hv⟩ := hl
      rw [hv] at e
      cases e
      exact (c ⟨_, rfl⟩).2 hp
    rw [upd_ne this]
    exact x.keep a q e c
  · by_cases q : a = p
    · subst q; rw [upd_same]; simp
    · rw [upd_ne q]; exact x.dom a h
section
variable {K : PySem.W.Frag} {m m' : Ms} {H H' : Hp}
theorem Gh.sqt {a : Addr} {vs : List V} (x : Gh m H m' H') (h : SqT K H a vs) : SqT K H' a vs := by
  rcases h with (h | ⟨o, h⟩) | h
  · exact .inl (.inl (x.keep _ _ h fun ⟨_, z⟩ => by cases z))
  · exact .inl (.inr ⟨o, x.keep _ _ h fun ⟨_, z⟩ => by cases z⟩)
  · exact .inr h
theorem Gh.sqf {a : Addr} {vs : List V} (x : Gh m H m' H') (h : SqF K H a vs) : SqF K H' a vs := h.elim (fun ⟨o, e⟩ => .inl ⟨o, x.keep _ _ e fun ⟨_, z⟩ => by cases z⟩) .inr
mutual
theorem RelD.monoH (x : Gh m H m' H') : ∀ {d : D} {v : V}, RelD K m H d v → RelD K m' H' d v
  | _, _, .non => .non
  | _, _, .bl b => .bl b
  | _, _, .int i => .int i
  | _, _, .str s => .str s
  | _, _, .rep d => .rep d
  | _, _, .dic h => .dic (x.keep _ _ h fun ⟨_, z⟩ => by cases z)
  | _, _, .tup h r => .tup (x.sqt h) (RelDs.monoH x r)
  | _, _, .lst (a := a) h n r => .lst (x.fix h n).1 ⟨(x.fix h n).2, by
      obtain ⟨t, e, f⟩ := x.hid
      rw [e]
      intro hm
      rcases List.mem_append.mp hm with z | z
      · rw [f a z] at h; cases h
      · exact n.2 z⟩ (RelDs.monoH x r)
  | _, _, .frz h r => .frz (x.sqf h) (RelDs.monoH x r)
  | _, _, .ref (l := l) h => .ref (by
      obtain ⟨t, e, f⟩ := x.grow
      rw [e]
      rw [List.getElem?_append_left]
      · exact h
      · exact (List.getElem?_eq_some_iff.mp h).1)
theorem RelDs.monoH (x : Gh m H m' H') : ∀ {ds : List D} {vs : List V}, RelDs K m H ds vs → RelDs K m' H' ds vs
  | _, _, .nil => .nil
  | _, _, .cons a b => .cons (RelD.monoH x a) (RelDs.monoH x b)
end
theorem Gr.sqt {a : Addr} {vs : List V} (x : Gr m H m' H') (h : SqT K H a vs) : SqT K H' a vs := x.gh.sqt h
theorem Gr.sqf {a : Addr} {vs : List V} (x : Gr m H m' H') (h : SqF K H a vs) : SqF K H' a vs := x.gh.sqf h
theorem RelD.monoG (x : Gr m H m' H') {d : D} {v : V} (r : RelD K m H d v) : RelD K m' H' d v := r.monoH x.gh
theorem RelDs.monoG (x : Gr m H m' H') {ds : List D} {vs : List V} (r : RelDs K m H ds vs) : RelDs K m' H' ds vs := r.monoH x.gh
theorem Ext.sqt {a : Addr} {vs : List V} (x : Ext m H m' H') (h : SqT K H a vs) : SqT K H' a vs := x.gr.sqt h
theorem RelD.mono (x : Ext m H m' H') {d : D} {v : V} (r : RelD K m H d v) : RelD K m' H' d v := r.monoG x.gr
theorem RelDs.mono (x : Ext m H m' H') {d : List D} {v : List V} (r : RelDs K m H d v) : RelDs K m' H' d v := r.monoG x.gr
theorem RelDs.length : ∀ {ds : List D} {vs : List V}, RelDs K m H ds vs → ds.length = vs.length
  | _, _, .nil => rfl
  | _, _, .cons _ b => by rw [List.length_cons, List.length_cons, RelDs.length b]
theorem RelDs.get : ∀ {ds : List D} {vs : List V} {i : Nat} {d : D}, RelDs K m H ds vs → ds[i]? = some d → ∃ v, vs[i]? = some v ∧ RelD K m H d v
  | _, _, i, _, .nil, e => by simp at e
  | _, _, 0, d, .cons a b, e => by
    simp at e; subst e; exact ⟨_, rfl, a⟩
  | _, _, i + 1, d, .cons a b, e => by
    obtain ⟨v, h1, h2⟩ := RelDs.get (i := i) b (by simpa using e)
    exact ⟨v, by simpa using h1, h2⟩
theorem RelDs.append : ∀ {ds es : List D} {vs ws : List V}, RelDs K m H ds vs → RelDs K m H es ws → RelDs K m H (ds ++ es) (vs ++ ws)
  | _, _, _, _, .nil, s => s
  | _, _, _, _, .cons r t, s => .cons r (RelDs.append t s)
theorem RelDs.take : ∀ {ds : List D} {vs : List V} (n : Nat), RelDs K m H ds vs → RelDs K m H (ds.take n) (vs.take n)
  | _, _, 0, _ => .nil
  | _, _, _ + 1, .nil => .nil
  | _, _, n + 1, .cons r t => .cons r (RelDs.take n t)
theorem RelDs.drop : ∀ {ds : List D} {vs : List V} (n : Nat), RelDs K m H ds vs → RelDs K m H (ds.drop n) (vs.drop n)
  | _, _, 0, r => r
  | _, _, _ + 1, .nil => .nil
  | _, _, n + 1, .cons _ t => RelDs.drop n t
theorem RelDs.rev : ∀ {ds : List D} {vs : List V}, RelDs K m H ds vs → RelDs K m H ds.reverse vs.reverse
  | _, _, .nil => .nil
  | _, _, .cons r t => by
    rw [List.reverse_cons, List.reverse_cons]
    exact RelDs.append (RelDs.rev t) (.cons r .nil)
theorem RelDs.rep {ds : List D} {vs : List V} (r : RelDs K m H ds vs) : ∀ n : Nat, RelDs K m H (List.replicate n ds).flatten (List.replicate n vs).flatten
  | 0 => .nil
  | n + 1 => by
    rw [List.replicate_succ, List.replicate_succ, List.flatten_cons, List.flatten_cons]
    exact RelDs.append r (RelDs.rep r n)
theorem RelDs.set : ∀ {ds : List D} {vs : List V} (i : Nat) {d : D} {v : V}, RelDs K m H ds vs → RelD K m H d v → RelDs K m H (ds.set i d) (vs.set i v)
  | _, _, _, _, _, .nil, _ => .nil
  | _, _, 0, _, _, .cons _ t, r => .cons r t
  | _, _, i + 1, _, _, .cons q t, r => .cons q (RelDs.set i t r)
theorem RelDs.ints : ∀ {ds : List D} {vs : List V} {is : List Int}, RelDs K m H ds vs → ints? ds = some is → vs = is.map V.int
  | _, _, is, .nil, e => by
    have : is = [] := (Option.some.inj e).symm
    subst this; rfl
  | _, _, is, .cons (d := d) r t, e => by
    cases r <;> try (cases e)
    rename_i i
    rename_i ds vs
    unfold ints? at e
    cases q : ints? ds with
    | none => rw [q] at e; cases e
    | some js =>
      rw [q] at e
      have : is = i :: js := (Option.some.inj e).symm
      subst this
      rw [List.map_cons, ← RelDs.ints t q]
theorem RelDs.bls : ∀ {ds : List D} {vs : List V} {is : List Bool}, RelDs K m H ds vs → bls? ds = some is → vs = is.map V.bl
  | _, _, is, .nil, e => by
    have : is = [] := (Option.some.inj e).symm
    subst this; rfl
  | _, _, is, .cons (d := d) r t, e => by
    cases r <;> try (cases e)
    rename_i i
    rename_i ds vs
    unfold bls? at e
    cases q : bls? ds with
    | none => rw [q] at e; cases e
    | some js =>
      rw [q] at e
      have : is = i :: js := (Option.some.inj e).symm
      subst this
      rw [List.map_cons, ← RelDs.bls t q]
end
/-- the cells stand as the store says -/
structure HR (K : PySem.W.Frag) (m : Ms) (S : Store) (H : Hp) : Prop where
  len : m.c.length = S.length
  nd : m.c.Nodup
  at_ : ∀ (l : Nat) (ds : List D) (a : Addr), cl S l = some ds → m.c[l]? = some a → ∃ vs, H a = some (.lst vs) ∧ RelDs K m H ds vs
  hid : ∀ a ∈ m.x, a ∉ m.c ∧ ∃ vs, H a = some (.lst vs)
theorem cl_get : ∀ (S : Store) (l : Nat), cl S l = S[l]?
  | [], l => by simp [cl]
  | x :: r, 0 => by simp [cl]
  | x :: r, l + 1 => by simp [cl, cl_get r l]
section
variable {K : PySem.W.Frag} {m m' : Ms} {H H' : Hp} {S : Store}
theorem HR.addr (h : HR K m S H) {l : Nat} {ds : List D} (e : cl S l = some ds) : ∃ a, m.c[l]? = some a := by
  rw [cl_get] at e
  have hl := (List.getElem?_eq_some_iff.mp e).1
  rw [← h.len] at hl
  exact ⟨_, List.getElem?_eq_getElem hl⟩
theorem HR.there (h : HR K m S H) {a : Addr} (hm : a ∈ m.c) : ∃ vs, H a = some (.lst vs) := by
  obtain ⟨l, e⟩ := List.mem_iff_getElem?.mp hm
  have hl := (List.getElem?_eq_some_iff.mp e).1
  rw [h.len] at hl
  obtain ⟨vs, q, _⟩ := h.at_ l _ a (by rw [cl_get]; exact List.getElem?_eq_getElem hl) e
  exact ⟨vs, q⟩
theorem HR.out (h : HR K m S H) {p : Addr} (hp : H p = none) : p ∉ m.c ∧ p ∉ m.x := by
  refine ⟨fun hm => ?_, fun hm => ?_⟩
  · obtain ⟨vs, e⟩ := h.there hm
    rw [hp] at e; cases e
  · obtain ⟨_, vs, e⟩ := h.hid p hm
    rw [hp] at e; cases e
/-- a new object that is no cell -/
theorem ext_new {p : Addr} {o : HO} (hp : H p = none) : Ext m H m (upd H p o) :=
  ⟨fun a o e _ => by rw [upd_ne (ne_of_none e hp)]; exact e, ⟨[], by simp, fun _ h => absurd h (by simp)⟩, rfl, fun a h => by
    by_cases q : a = p
    · subst q; exact absurd hp h
    · rw [upd_ne q]; exact h⟩
theorem HR.new {p : Addr} {o : HO} (h : HR K m S H) (hp : H p = none) : HR K m S (upd H p o) := by
  refine ⟨h.len, h.nd, fun l ds a e1 e2 => ?_, fun a ha => ?_⟩
  · obtain ⟨vs, q, r⟩ := h.at_ l ds a e1 e2
    exact ⟨vs, by rw [upd_ne (ne_of_none q hp)]; exact q, r.mono (ext_new hp)⟩
  · obtain ⟨n, vs, q⟩ := h.hid a ha
    exact ⟨n, vs, by rw [upd_ne (ne_of_none q hp)]; exact q⟩
/-- a new cell -/
theorem ext_cell {p : Addr} {o : HO} (hp : H p = none) : Ext m H ⟨m.c ++ [p], m.x⟩ (upd H p o) :=
  ⟨(ext_new (m := m) hp).keep, ⟨[p], rfl, fun q hq => by simp at hq; rw [hq]; exact hp⟩, rfl, (ext_new (m := m) hp).dom⟩
theorem HR.cell {p : Addr} {ds : List D} {vs : List V} (h : HR K m S H) (hp : H p = none) (r : RelDs K m H ds vs) : HR K ⟨m.c ++ [p], m.x⟩ (S ++ [ds]) (upd H p (.lst vs)) := by
  have hx : Ext m H ⟨m.c ++ [p], m.x⟩ (upd H p (.lst vs)) := ext_cell hp
  refine ⟨by show (m.c ++ [p]).length = _; rw [List.length_append, List.length_append, h.len]; rfl, ?_, fun l es a e1 e2 => ?_, fun a ha => ?_⟩
  · show (m.c ++ [p]).Nodup
    rw [List.nodup_append]
    refine ⟨h.nd, by simp, fun a ha b hb => ?_⟩
    simp at hb
    intro z
    subst hb z
    exact (h.out hp).1 ha
  · rw [cl_get] at e1
    have e2 : (m.c ++ [p])[l]? = some a := e2
    by_cases hl : l < S.length
    · rw [List.getElem?_append_left hl] at e1
      rw [List.getElem?_append_left (by rw [h.len]; exact hl)] at e2
      obtain ⟨ws, q, r'⟩ := h.at_ l es a (by rw [cl_get]; exact e1) e2
      exact ⟨ws, by rw [upd_ne (ne_of_none q hp)]; exact q, r'.mono hx⟩
    · have hl2 : l = S.length := by
        have := (List.getElem?_eq_some_iff.mp e1).1
        rw [List.length_append] at this
        simp at this
        omega
      subst hl2
      rw [List.getElem?_append_right (Nat.le_refl _)] at e1
      rw [← h.len, List.getElem?_append_right (Nat.le_refl _)] at e2
      simp at e1 e2
      subst e1 e2
      exact ⟨vs, upd_same, r.mono hx⟩
  · obtain ⟨n, ws, q⟩ := h.hid a ha
    refine ⟨?_, ws, by rw [upd_ne (ne_of_none q hp)]; exact q⟩
    show a ∉ m.c ++ [p]
    intro z
    rcases List.mem_append.mp z with z | z
    · exact n z
    · simp at z
      exact ne_of_none q hp z
/-- a cell is changed -/
theorem ext_set {a : Addr} {vs : List V} (hm : a ∈ m.c) (h : ∃ ws, H a = some (.lst ws)) : Ext m H m (upd H a (.lst vs)) :=
  ⟨fun b o e c => by
    by_cases q : b = a
    · subst q
      obtain ⟨ws, e'⟩ := h
      rw [e'] at e; cases e
      exact absurd hm (c ⟨ws, rfl⟩)
    · rw [upd_ne q]; exact e, ⟨[], by simp, fun _ h => absurd h (by simp)⟩, rfl, fun b hb => by
    by_cases q : b = a
    · subst q; rw [upd_same]; simp
    · rw [upd_ne q]; exact hb⟩
theorem HR.set {a : Addr} {l : Nat} {ds : List D} {vs : List V} (h : HR K m S H) (hl : m.c[l]? = some a) (r : RelDs K m H ds vs) : HR K m (S.set l ds) (upd H a (.lst vs)) := by
  have hm : a ∈ m.c := List.mem_of_getElem? hl
  have hx : Ext m H m (upd H a (.lst vs)) := ext_set hm (h.there hm)
  refine ⟨by rw [List.length_set]; exact h.len, h.nd, fun k es b e1 e2 => ?_, fun b hb => ?_⟩
  · rw [cl_get] at e1
    by_cases q : k = l
    · subst q
      have hlt : k < S.length := by
        have := (List.getElem?_eq_some_iff.mp hl).1
        rw [h.len] at this
        exact this
      rw [List.getElem?_set_self hlt] at e1
      rw [hl] at e2
      cases e1; cases e2
      exact ⟨vs, upd_same, r.mono hx⟩
    · rw [List.getElem?_set_ne (Ne.symm q)] at e1
      obtain ⟨ws, q1, r1⟩ := h.at_ k es b (by rw [cl_get]; exact e1) e2
      have ne : b ≠ a := fun z => by
        subst z
        have h1 := (List.getElem?_eq_some_iff.mp hl)
        have h2 := (List.getElem?_eq_some_iff.mp e2)
        obtain ⟨l1, g1⟩ := h1
        obtain ⟨l2, g2⟩ := h2
        exact q ((List.getElem_inj h.nd).mp (g2.trans g1.symm))
      exact ⟨ws, by rw [upd_ne ne]; exact q1, r1.mono hx⟩
  · obtain ⟨n, ws, q⟩ := h.hid b hb
    exact ⟨n, ws, by rw [upd_ne (fun z => n (by rw [z]; exact hm))]; exact q⟩
/-! ### a list under construction -/
mutual
theorem RelD.hide {p : Addr} {vs : List V} (hp : H p = some (.lst vs)) (hx : p ∈ m.x) (ws : List V) : ∀ {d : D} {v : V}, RelD K m H d v → RelD K m (upd H p (.lst ws)) d v
  | _, _, .non => .non
  | _, _, .bl b => .bl b
  | _, _, .int i => .int i
  | _, _, .str s => .str s
  | _, _, .rep d => .rep d
  | _, _, .dic h => .dic (by rw [upd_ne (fun z => by subst z; rw [hp] at h; cases h)]; exact h)
  | _, _, .tup h r => .tup (by
      have ne : ∀ {a o}, H a = some o → (∀ zs, o ≠ .lst zs) → a ≠ p := fun e n z => by subst z; rw [hp] at e; exact n _ (Option.some.inj e).symm
      rcases h with (h | ⟨o, h⟩) | h
      · exact .inl (.inl (by rw [upd_ne (ne h fun zs z => by cases z)]; exact h))
      · exact .inl (.inr ⟨o, by rw [upd_ne (ne h fun zs z => by cases z)]; exact h⟩)
      · exact .inr h) (RelDs.hide hp hx ws r)
  | _, _, .lst (a := a) h n r => .lst (by rw [upd_ne (fun z => n.2 (by rw [z]; exact hx))]; exact h) n (RelDs.hide hp hx ws r)
  | _, _, .frz h r => .frz (h.elim (fun ⟨o, e⟩ => .inl ⟨o, by rw [upd_ne (fun z => by subst z; rw [hp] at e; cases e)]; exact e⟩) .inr) (RelDs.hide hp hx ws r)
  | _, _, .ref h => .ref h
theorem RelDs.hide {p : Addr} {vs : List V} (hp : H p = some (.lst vs)) (hx : p ∈ m.x) (ws : List V) : ∀ {ds : List D} {vs' : List V}, RelDs K m H ds vs' → RelDs K m (upd H p (.lst ws)) ds vs'
  | _, _, .nil => .nil
  | _, _, .cons a b => .cons (RelD.hide hp hx ws a) (RelDs.hide hp hx ws b)
end
theorem HR.hide {p : Addr} {vs : List V} (h : HR K m S H) (hp : H p = some (.lst vs)) (hx : p ∈ m.x) (ws : List V) : HR K m S (upd H p (.lst ws)) := by
  have np : p ∉ m.c := (h.hid p hx).1
  refine ⟨h.len, h.nd, fun l ds a e1 e2 => ?_, fun a ha => ?_⟩
  · obtain ⟨us, q, r⟩ := h.at_ l ds a e1 e2
    have ne : a ≠ p := fun z => np (by rw [← z]; exact List.mem_of_getElem? e2)
    exact ⟨us, by rw [upd_ne ne]; exact q, r.hide hp hx ws⟩
  · obtain ⟨n, us, q⟩ := h.hid a ha
    by_cases z : a = p
    · subst z; exact ⟨n, ws, upd_same⟩
    · exact ⟨n, us, by rw [upd_ne z]; exact q⟩
mutual
theorem RelD.move {n : Ms} (hc : ∀ (l : Nat) (a : Addr), m.c[l]? = some a → n.c[l]? = some a) (hn : ∀ a vs, H a = some (.lst vs) → (a ∉ m.c ∧ a ∉ m.x) → (a ∉ n.c ∧ a ∉ n.x)) : ∀ {d : D} {v : V}, RelD K m H d v → RelD K n H d v
  | _, _, .non => .non
  | _, _, .bl b => .bl b
  | _, _, .int i => .int i
  | _, _, .str s => .str s
  | _, _, .rep d => .rep d
  | _, _, .dic h => .dic h
  | _, _, .tup h r => .tup h (RelDs.move hc hn r)
  | _, _, .lst h q r => .lst h (hn _ _ h q) (RelDs.move hc hn r)
  | _, _, .frz h r => .frz h (RelDs.move hc hn r)
  | _, _, .ref h => .ref (hc _ _ h)
theorem RelDs.move {n : Ms} (hc : ∀ (l : Nat) (a : Addr), m.c[l]? = some a → n.c[l]? = some a) (hn : ∀ a vs, H a = some (.lst vs) → (a ∉ m.c ∧ a ∉ m.x) → (a ∉ n.c ∧ a ∉ n.x)) : ∀ {ds : List D} {vs : List V}, RelDs K m H ds vs → RelDs K n H ds vs
  | _, _, .nil => .nil
  | _, _, .cons a b => .cons (RelD.move hc hn a) (RelDs.move hc hn b)
end
theorem gr_begin {p : Addr} {vs : List V} (hp : H p = none) : Gr m H ⟨m.c, p :: m.x⟩ (upd H p (.lst vs)) :=
  ⟨(ext_new (m := m) hp).keep, (ext_new (m := m) (o := .lst vs) hp).grow, ⟨[p], rfl, fun q hq => by simp at hq; rw [hq]; exact hp⟩, (ext_new (m := m) hp).dom⟩
theorem HR.begin {p : Addr} {vs : List V} (h : HR K m S H) (hp : H p = none) : HR K ⟨m.c, p :: m.x⟩ S (upd H p (.lst vs)) := by
  have h1 := h.new (o := .lst vs) hp
  refine ⟨h.len, h.nd, fun l ds a e1 e2 => ?_, fun a ha => ?_⟩
  · obtain ⟨us, q, r⟩ := h.at_ l ds a e1 e2
    have ne : a ≠ p := ne_of_none q hp
    refine ⟨us, by rw [upd_ne ne]; exact q, ?_⟩
    -- the items were there before the new list
    exact r.monoG (gr_begin hp)
  · rcases List.mem_cons.mp ha with z | z
    · subst z; exact ⟨(h.out hp).1, vs, upd_same⟩
    · obtain ⟨n, us, q⟩ := h.hid a z
      exact ⟨n, us, by rw [upd_ne (ne_of_none q hp)]; exact q⟩
end
/-- a def's slots -/
structure RS (K : PySem.W.Frag) (m : Ms) (H : Hp) (σ : Env) (vσ : L2.St) : Prop where
  len : σ.length = vσ.length
  at_ : ∀ i d, lk σ i = some d → ∃ v, vσ[i]? = some (some v) ∧ RelD K m H d v
section
variable {K : PySem.W.Frag} {m m' : Ms} {H H' : Hp} {σ : Env} {vσ : L2.St}
theorem RS.mono (x : Ext m H m' H') (r : RS K m H σ vσ) : RS K m' H' σ vσ := ⟨r.len, fun i d e => let ⟨v, h1, h2⟩ := r.at_ i d e; ⟨v, h1, h2.mono x⟩⟩
theorem lk_get : ∀ (σ : Env) (i : Nat), lk σ i = (σ[i]?).join
  | [], i => by simp [lk]
  | x :: r, 0 => by simp [lk]
  | x :: r, i + 1 => by simp [lk, lk_get r i]
theorem st_set : ∀ (σ : Env) (i : Nat) (d : D), st σ i d = σ.set i (some d)
  | [], i, d => by simp [st]
  | x :: r, 0, d => by simp [st]
  | x :: r, i + 1, d => by simp [st, st_set r i d]
theorem RS.set {i : Nat} {d : D} {v : V} (r : RS K m H σ vσ) (h : RelD K m H d v) : RS K m H (st σ i d) (vσ.set i (some v)) := by
  refine ⟨by rw [st_set, List.length_set, List.length_set]; exact r.len, fun j e q => ?_⟩
  rw [st_set, lk_get] at q
  by_cases hj : i = j
  · subst hj
    by_cases hl : i < σ.length
    · rw [List.getElem?_set_self hl] at q
      simp at q
      subst q
      exact ⟨v, by rw [List.getElem?_set_self (by rw [← r.len]; exact hl)], h⟩
    · rw [List.getElem?_eq_none (by rw [List.length_set]; omega)] at q
      simp at q
  · rw [List.getElem?_set_ne hj] at q
    rw [List.getElem?_set_ne hj]
    exact r.at_ j e (by rw [lk_get]; exact q)
theorem RS.none {i : Nat} (r : RS K m H σ vσ) (w : Option V) : RS K m H (σ.set i none) (vσ.set i w) := by
  refine ⟨by rw [List.length_set, List.length_set]; exact r.len, fun j e q => ?_⟩
  rw [lk_get] at q
  by_cases hj : i = j
  · subst hj
    by_cases hl : i < σ.length
    · rw [List.getElem?_set_self hl] at q
      simp at q
    · rw [List.getElem?_eq_none (by rw [List.length_set]; omega)] at q
      simp at q
  · rw [List.getElem?_set_ne hj] at q
    rw [List.getElem?_set_ne hj]
    exact r.at_ j e (by rw [lk_get]; exact q)
theorem RS.wipe (r : RS K m H σ vσ) : ∀ own : List Nat, RS K m H (wp0 σ own) (L2.wipe vσ own)
  | [] => r
  | i :: is => (RS.wipe r is).none .none
end
end FV
set_option Elab.async false
set_option linter.all false
set_option maxRecDepth 100000
set_option maxHeartbeats 2000000
/-! Ops: the operators by values. -/
namespace FV
open PySem L2
/-- what is wanted behind an evaluation -/
def Po (K : PySem.W.Frag) (m : Ms) (H : Hp) (k : D → Store → Prop) (Q : VK) : Prop :=
  ∀ (d : D) (S' : Store) (m' : Ms) (v : V) (H' : Hp), Ext m H m' H' → HR K m' S' H' → RelD K m' H' d v → k d S' → Q v H'
section
variable {K : PySem.W.Frag} {m m' : Ms} {H H' : Hp} {k : D → Store → Prop} {Q : VK} {S : Store}
theorem Po.ext (p : Po K m H k Q) (x : Ext m H m' H') : Po K m' H' k Q := fun d S2 m2 v H2 x2 hr r hk => p d S2 m2 v H2 (x.trans x2) hr r hk
theorem Po.done (p : Po K m H k Q) (hr : HR K m S H) {d : D} {v : V} (r : RelD K m H d v) (hk : k d S) : Q v H := p d S m v H .refl hr r hk
theorem Po.tup (p : Po K m H k Q) (hr : HR K m S H) {ds : List D} {vs : List V} (r : RelDs K m H ds vs) (hk : k (.tup ds) S) {a : Addr} (ha : H a = none) : Q (.ref a) (upd H a (.tup vs)) :=
  p (.tup ds) S m (.ref a) _ (ext_new ha) (hr.new ha) (.tup (.inl (.inl upd_same)) (r.mono (ext_new ha))) hk
theorem Po.dic (p : Po K m H k Q) (hr : HR K m S H) (hk : k .dic S) {a : Addr} (ha : H a = none) : Q (.ref a) (upd H a (.dK [])) :=
  p .dic S m (.ref a) _ (ext_new ha) (hr.new ha) (.dic upd_same) hk
theorem Po.lst (p : Po K m H k Q) (hr : HR K m S H) {ds : List D} {vs : List V} (r : RelDs K m H ds vs) (hk : k (.lst ds) S) {a : Addr} (ha : H a = none) : Q (.ref a) (upd H a (.lst vs)) :=
  p (.lst ds) S m (.ref a) _ (ext_new ha) (hr.new ha) (.lst upd_same (hr.out ha) (r.mono (ext_new ha))) hk
theorem Po.cell (p : Po K m H k Q) (hr : HR K m S H) {ds : List D} {vs : List V} (r : RelDs K m H ds vs) (hk : k (.ref S.length) (S ++ [ds])) {a : Addr} (ha : H a = none) : Q (.ref a) (upd H a (.lst vs)) :=
  p (.ref S.length) (S ++ [ds]) ⟨m.c ++ [a], m.x⟩ (.ref a) _ (ext_cell ha) (hr.cell ha r) (.ref (by show (m.c ++ [a])[S.length]? = _; rw [← hr.len, List.getElem?_append_right (Nat.le_refl _)]; simp)) hk
theorem Po.mk (p : Po K m H k Q) (hr : HR K m S H) {fr : Bool} {ds : List D} {vs : List V} (r : RelDs K m H ds vs) (hk : mk fr ds S k) {a : Addr} (ha : H a = none) : Q (.ref a) (upd H a (.lst vs)) := by
  cases fr
  · exact p.lst hr r hk ha
  · exact p.cell hr r hk ha
end
theorem sz_line {n : Nat} (h : n ≤ SZ) : n ≤ sizeLine := by
  rw [sizeLine_eq]; unfold SZ at h; omega
theorem sz_lt {n : Nat} (h : n < SZ) : n < sizeLine := by
  rw [sizeLine_eq]; unfold SZ at h; omega
theorem mulOk_ok {i j : Int} (h : mulOk i j) : IntMulOk i j := by
  rcases h with ⟨h1, h2⟩ | ⟨h1, h2⟩ | ⟨h1, h2⟩
  · exact .of_left (intBits_le_64 h1 h2)
  · exact .of_right (intBits_le_64 h1 h2)
  · exact (wide_mul h1 h2 (by omega) (by omega) (by omega)).ok
theorem divOk_py {x b : Int} (h : divOk b) : Builtin.divisionGoesByPylong x b = false :=
  PyProof.noPylong_of_log2 (Nat.lt_of_lt_of_le (PySem.Flt.log2_lt_of (by omega : 0 < 8000) h.2) (by omega))
/-- a // b, the divisor of any sign -/
theorem op_fdivA {X : Cx} : OpR X (binaryOp .FloorDiv) (rI (fun _ j => divOk j) fun i j => .int (i.fdiv j)) := opI fun _ _ _ _ _ _ _ hc q => PyProof.Rows.floordiv_int hc.1 q (.inl (divOk_py hc))
theorem call_divmodA {X : Cx} : CallR X (.builtin "divmod") (fun xs H Q => ∃ i j, xs = [.int i, .int j] ∧ (0 < j ∧ divOk j) ∧ ∀ p, H p = none → Q (.ref p) (upd H p (.tup [.int (i / j), .int (i % j)]))) := by
  intro pins s σ H xs us Q I r h
  obtain ⟨i, j, rfl, ⟨h1, h2⟩, q⟩ := h
  obtain ⟨u, w', rfl, ⟨t, rfl⟩, ⟨t', rfl⟩⟩ := vals2 r
  refine PyProof.Rows.divmod_int h2.1 ?_ (.inl (divOk_py h2))
  rw [Int.fdiv_eq_ediv_of_nonneg i (by omega), Int.fmod_eq_emod_of_nonneg i (by omega)]
  have hn : H s.heap.objs.size = none := I.hok.fresh (Nat.le_refl _)
  refine ⟨.ref s.heap.objs.size, _, ?_, rfl, q _ hn⟩
  refine I.laid (fun b o e => Heap.get?_push_of_some _ e) (Nat.le_refl _) ⟨by simp only [List.length_cons, List.length_nil]; rw [sizeLine_eq]; decide, [.int (i / j) s.toks, .int (i % j) (s.toks + 1)], .cons ⟨_, rfl⟩ (.cons ⟨_, rfl⟩ .nil), ?_⟩
  exact ⟨_, Heap.get?_push_size s.heap rfl, rfl, 0, rfl⟩
/-! ### data -/
mutual
theorem py_dp {K : PySem.W.Frag} {m : Ms} {H : Hp} : ∀ {n : Nat} {d : D} {v : V}, pure? n d = true → RelD K m H d v → Dp K H v (py d)
  | _, _, _, _, .non => .non
  | _, _, _, _, .bl b => .bl b
  | _, _, _, _, .int i => .int i
  | _, _, _, _, .str s => .str s
  | 0, _, _, h, .tup hs r => by cases h
  | n + 1, _, _, h, .tup hs r => .tup hs (pys_dp (n := n) h r)
  | 0, _, _, h, .lst hs _ r => by cases h
  | n + 1, _, _, h, .lst hs _ r => .lst (.inl (.inl hs)) (pys_dp (n := n) h r)
  | 0, _, _, h, .frz hs r => by cases h
  | n + 1, _, _, h, .frz hs r => by cases h
  | 0, _, _, h, .ref _ => by cases h
  | n + 1, _, _, h, .ref _ => by cases h
  | 0, _, _, h, .rep _ => by cases h
  | 0, _, _, h, .dic _ => by cases h
  | n + 1, _, _, h, .rep _ => by cases h
  | n + 1, _, _, h, .dic _ => by cases h
theorem pys_dp {K : PySem.W.Frag} {m : Ms} {H : Hp} : ∀ {n : Nat} {ds : List D} {vs : List V}, pures? n ds = true → RelDs K m H ds vs → DpAll K H vs (pys ds)
  | _, _, _, _, .nil => .nil
  | n, _, _, h, .cons r t => by
    unfold pures? at h
    rw [Bool.and_eq_true] at h
    exact .cons (py_dp (n := n) h.1 r) (pys_dp (n := n) h.2 t)
end
mutual
theorem py_ok : ∀ {n : Nat} {d : D}, pure? n d = true → (py d).canLay0 = true ∧ (py d).depth ≤ n
  | n, .non, _ => ⟨rfl, Nat.zero_le _⟩
  | n, .bl _, _ => ⟨rfl, Nat.zero_le _⟩
  | n, .int _, _ => ⟨rfl, Nat.zero_le _⟩
  | n, .str s, h => ⟨by
      have h' : PyData.strOk s = true := by cases n <;> exact h
      exact h', Nat.zero_le _⟩
  | 0, .tup ds, h => by cases h
  | n + 1, .tup ds, h => by
    obtain ⟨a, b⟩ := pys_ok (n := n) (ds := ds) h
    exact ⟨a, Nat.succ_le_succ b⟩
  | 0, .lst ds, h => by cases h
  | n + 1, .lst ds, h => by
    obtain ⟨a, b⟩ := pys_ok (n := n) (ds := ds) h
    exact ⟨a, Nat.succ_le_succ b⟩
  | 0, .frz _, h => by cases h
  | n + 1, .frz _, h => by cases h
  | 0, .ref _, h => by cases h
  | n + 1, .ref _, h => by cases h
  | 0, .fn _, h => by cases h
  | n + 1, .fn _, h => by cases h
  | 0, .exc _ _, h => by cases h
  | n + 1, .exc _ _, h => by cases h
  | 0, .itr _, h => by cases h
  | n + 1, .itr _, h => by cases h
  | 0, .rep _, h => by cases h
  | 0, .dic, h => by cases h
  | n + 1, .rep _, h => by cases h
  | n + 1, .dic, h => by cases h
theorem pys_ok : ∀ {n : Nat} {ds : List D}, pures? n ds = true → PyData.canLayAll0 (pys ds) = true ∧ PyData.depthAll (pys ds) ≤ n
  | n, [], _ => ⟨rfl, Nat.zero_le _⟩
  | n, d :: ds, h => by
    unfold pures? at h
    rw [Bool.and_eq_true] at h
    obtain ⟨a1, b1⟩ := py_ok (n := n) h.1
    obtain ⟨a2, b2⟩ := pys_ok (n := n) h.2
    refine ⟨?_, Nat.max_le.mpr ⟨b1, b2⟩⟩
    show (PyData.canLay0 (py d) && PyData.canLayAll0 (pys ds)) = true
    rw [a1, a2]; rfl
end
theorem py_shaped {d : D} (h : pure? DEEP d = true) : SeqAt.shaped (py d) = true := by
  obtain ⟨a, b⟩ := py_ok h
  unfold SeqAt.shaped
  rw [a]
  have : (py d).depth ≤ 64 := by unfold DEEP at b; omega
  simp [this]
theorem pys_shaped {ds : List D} (h : pures? DEEP ds = true) : SeqAt.shaped (.list (pys ds)) = true := by
  obtain ⟨a, b⟩ := pys_ok h
  unfold SeqAt.shaped
  show (PyData.canLayAll0 (pys ds) && decide (PyData.depthAll (pys ds) + 1 ≤ 64)) = true
  rw [a]
  have : PyData.depthAll (pys ds) + 1 ≤ 64 := by unfold DEEP at b; omega
  simp [this]
theorem pure_succ_tup {n : Nat} {ds : List D} : pure? (n + 1) (.tup ds) = pures? n ds := rfl
mutual
theorem eqv_eq : ∀ {n : Nat} (d e : D), pure? n d = true → pure? n e = true → PyData.eqv (py d) (py e) = eqD d e
  | n, .non, e, _, he => by cases e <;> first | rfl | (cases n <;> cases he)
  | n, .bl a, e, _, he => by
    cases e <;> first
      | rfl
      | (cases n <;> cases he)
      | (rename_i j; show ((if a then 1 else 0) == j) = decide ((if a then 1 else 0) = j); rw [Bool.beq_eq_decide_eq])
  | n, .int i, e, _, he => by
    cases e <;> first
      | rfl
      | (cases n <;> cases he)
      | (rename_i j; show (i == _) = decide (i = _); rw [Bool.beq_eq_decide_eq])
  | n, .str s, e, _, he => by cases e <;> first | rfl | (cases n <;> cases he)
  | 0, .tup ds, e, hd, he => by cases hd
  | n + 1, .tup ds, .tup es, hd, he => eqvs_eq (n := n) ds es hd he
  | n + 1, .tup ds, .non, hd, he => rfl
  | n + 1, .tup ds, .bl _, hd, he => rfl
  | n + 1, .tup ds, .int _, hd, he => rfl
  | n + 1, .tup ds, .str _, hd, he => rfl
  | n + 1, .tup ds, .lst _, hd, he => rfl
  | n + 1, .tup ds, .frz _, hd, he => by cases he
  | n + 1, .tup ds, .ref _, hd, he => by cases he
  | n + 1, .tup ds, .fn _, hd, he => by cases he
  | n + 1, .tup ds, .exc _ _, hd, he => by cases he
  | n + 1, .tup ds, .itr _, hd, he => by cases he
  | n + 1, .tup ds, .rep _, hd, he => by cases he
  | n + 1, .tup ds, .dic, hd, he => by cases he
  | 0, .lst ds, e, hd, he => by cases hd
  | n + 1, .lst ds, .lst es, hd, he => eqvs_eq (n := n) ds es hd he
  | n + 1, .lst ds, .non, hd, he => rfl
  | n + 1, .lst ds, .bl _, hd, he => rfl
  | n + 1, .lst ds, .int _, hd, he => rfl
  | n + 1, .lst ds, .str _, hd, he => rfl
  | n + 1, .lst ds, .tup _, hd, he => rfl
  | n + 1, .lst ds, .frz _, hd, he => by cases he
  | n + 1, .lst ds, .ref _, hd, he => by cases he
  | n + 1, .lst ds, .fn _, hd, he => by cases he
  | n + 1, .lst ds, .exc _ _, hd, he => by cases he
  | n + 1, .lst ds, .itr _, hd, he => by cases he
  | n + 1, .lst ds, .rep _, hd, he => by cases he
  | n + 1, .lst ds, .dic, hd, he => by cases he
  | n, .frz _, e, hd, he => by cases n <;> cases hd
  | n, .ref _, e, hd, he => by cases n <;> cases hd
  | n, .fn _, e, hd, he => by cases n <;> cases hd
  | n, .exc _ _, e, hd, he => by cases n <;> cases hd
  | n, .itr _, e, hd, he => by cases n <;> cases hd
  | n, .rep _, e, hd, he => by cases n <;> cases hd
  | n, .dic, e, hd, he => by cases n <;> cases hd
theorem eqvs_eq : ∀ {n : Nat} (ds es : List D), pures? n ds = true → pures? n es = true → PyData.eqvAll (pys ds) (pys es) = eqDs ds es
  | n, [], [], _, _ => rfl
  | n, [], _ :: _, _, _ => rfl
  | n, _ :: _, [], _, _ => rfl
  | n, d :: ds, e :: es, hd, he => by
    unfold pures? at hd he
    rw [Bool.and_eq_true] at hd he
    show (PyData.eqv (py d) (py e) && PyData.eqvAll (pys ds) (pys es)) = (eqD d e && eqDs ds es)
    rw [eqv_eq (n := n) d e hd.1 he.1, eqvs_eq (n := n) ds es hd.2 he.2]
end
theorem any_eq (x : D) (hx : pure? DEEP x = true) : ∀ ys : List D, pures? DEEP ys = true → ((pys ys).any fun z => PyData.eqv z (py x)) = inD x ys
  | [], _ => rfl
  | y :: ys, h => by
    unfold pures? at h
    rw [Bool.and_eq_true] at h
    show (PyData.eqv (py y) (py x) || (pys ys).any fun z => PyData.eqv z (py x)) = (eqD y x || inD x ys)
    rw [eqv_eq (n := DEEP) y x h.1 hx, any_eq x hx ys h.2]
def rInT (K : PySem.W.Frag) (neg : Bool) : R2 := fun x y H Q => ∃ d ds, Dp K H x d ∧ Dp K H y (.tuple ds) ∧ SeqAt.shaped d = true ∧ SeqAt.shaped (.list ds) = true ∧ Q (.bl (if neg then !(ds.any fun z => PyData.eqv z d) else ds.any fun z => PyData.eqv z d)) H
theorem op_inDT {X : Cx} (hu : X.A.units + 65 < cLine) : OpR X (compareOp .In) (rInT X.K false) := by
  intro pins s σ H x y v u Q I rx ry h
  obtain ⟨d, ds, hd, he, sd, se, q⟩ := h
  obtain ⟨as, r1⟩ := Dp.reads I d x v hd rx
  obtain ⟨bs, r2⟩ := Dp.reads I (.tuple ds) y u he ry
  exact SeqAt.in_tuple_reads r2 r1 (SeqAt.canLay_of_shaped se) (SeqAt.canLay_of_shaped sd) (PyProof.Rows.room_in_shaped sd hu) ⟨.bl _, H, I, rfl, q⟩
theorem op_notInDT {X : Cx} (hu : X.A.units + 65 < cLine) : OpR X (compareOp .NotIn) (rInT X.K true) := by
  intro pins s σ H x y v u Q I rx ry h
  obtain ⟨d, ds, hd, he, sd, se, q⟩ := h
  obtain ⟨as, r1⟩ := Dp.reads I d x v hd rx
  obtain ⟨bs, r2⟩ := Dp.reads I (.tuple ds) y u he ry
  exact SeqAt.notIn_tuple_reads r2 r1 (SeqAt.canLay_of_shaped se) (SeqAt.canLay_of_shaped sd) (PyProof.Rows.room_in_shaped sd hu) ⟨.bl _, H, I, rfl, q⟩
end FV
set_option Elab.async false
set_option linter.all false
set_option maxRecDepth 100000
set_option maxHeartbeats 2000000
/-! Ops2: binary operators, comparisons, truth, by data. -/
namespace FV
open PySem L2
def opOf : Bop → Operator
  | .add => .Add | .sub => .Sub | .mul => .Mult | .fdiv => .FloorDiv | .mod => .Mod | .pow => .Pow
def copOf : Cop → CmpOp
  | .eq => .Eq | .ne => .NotEq | .lt => .Lt | .le => .LtE | .gt => .Gt | .ge => .GtE | .is => .Is | .isnot => .IsNot | .isin => .In | .notin => .NotIn
def rB (K : PySem.W.Frag) (op : Bop) : R2 := fun x y H Q => ∃ m S k a b, HR K m S H ∧ RelD K m H a x ∧ RelD K m H b y ∧ Po K m H k Q ∧ bop op a b (fun z => k z S)
def rC (K : PySem.W.Frag) (op : Cop) : R2 := fun x y H Q => ∃ m S k a b, HR K m S H ∧ RelD K m H a x ∧ RelD K m H b y ∧ Po K m H k Q ∧ cop op a b (fun z => k (.bl z) S)
theorem RelDs.nil_iff {K : PySem.W.Frag} {m : Ms} {H : Hp} {ds : List D} {vs : List V} (r : RelDs K m H ds vs) : ds = [] ↔ vs = [] := by
  cases r <;> simp
section
variable {X : Cx}
theorem bop_ok (op : Bop) : OpR X (binaryOp (opOf op)) (rB X.K op) := by
  intro pins s σ H x y v u Q I rx ry h
  obtain ⟨m, S, k, a, b, hr, ra, rb, po, h⟩ := h
  cases op with
  | add =>
    cases ra <;> cases rb <;> try (exact h.elim)
    · exact op_add pins s σ H _ _ v u Q I rx ry ⟨_, _, rfl, rfl, po.done hr (.int _) h⟩
    · rename_i ds a' vs hs rs es b' ws ht rt
      obtain ⟨hz, h⟩ := h
      refine op_catA pins s σ H _ _ v u Q I rx ry ⟨_, _, _, _, rfl, rfl, hs, ht, by rw [← rs.length, ← rt.length]; exact sz_line hz, fun e => ?_, fun e e2 => ?_, fun _ _ p hp => ?_⟩
      · have e' := rs.nil_iff.mpr e
        subst e'
        exact po.done hr (.tup ht rt) h
      · have e' := rt.nil_iff.mpr e2
        subst e'
        rw [List.append_nil] at h
        exact po.done hr (.tup hs rs) h
      · exact po.tup hr (rs.append rt) h hp
    · rename_i ds a' vs hs na rs es b' ws ht nb rt
      obtain ⟨hz, h⟩ := h
      exact op_cat pins s σ H _ _ v u Q I rx ry ⟨_, _, _, _, rfl, rfl, hs, ht, by rw [← rs.length, ← rt.length]; exact sz_line hz, fun p hp => po.lst hr (rs.append rt) h hp⟩
  | sub =>
    cases ra <;> cases rb <;> try (exact h.elim)
    exact op_sub pins s σ H _ _ v u Q I rx ry ⟨_, _, rfl, rfl, po.done hr (.int _) h⟩
  | mul =>
    cases ra <;> cases rb <;> try (exact h.elim)
    · rename_i i j
      obtain ⟨t, rfl⟩ := rx
      obtain ⟨t', rfl⟩ := ry
      exact PyProof.Rows.mul_int ⟨.int (i * j), H, I.tok _, ⟨_, rfl⟩, po.done hr (.int _) h.2⟩ (mulOk_ok h.1)
    · rename_i ds a' vs hs na rs j
      obtain ⟨⟨h1, h2, h3⟩, h⟩ := h
      unfold SZ at h2
      exact op_rep pins s σ H _ _ v u Q I rx ry ⟨_, _, _, rfl, rfl, hs, by omega, by omega, by rw [← rs.length]; exact sz_line h3, fun p hp => po.lst hr (rs.rep _) h hp⟩
  | fdiv =>
    cases ra <;> cases rb <;> try (exact h.elim)
    exact op_fdivA pins s σ H _ _ v u Q I rx ry ⟨_, _, rfl, rfl, h.1, po.done hr (.int _) h.2⟩
  | mod =>
    cases ra <;> cases rb <;> try (exact h.elim)
    exact op_modN pins s σ H _ _ v u Q I rx ry ⟨_, _, rfl, rfl, h.1, po.done hr (.int _) h.2⟩
  | pow =>
    cases ra <;> cases rb <;> try (exact h.elim)
    exact op_pow pins s σ H _ _ v u Q I rx ry ⟨_, _, rfl, rfl, h.1, po.done hr (.int _) h.2⟩
theorem eq_data (hu : X.A.units + 64 < cLine) {pins : List (Addr × Obj)} {s : Shared} {σ : L2.St} {H : Hp} {x y : V} {v u : Value} {Q : VK} {m : Ms} {S : Store} {k : D → Store → Prop} {a b : D} (I : Inv X pins σ H s) (rx : RelV x v) (ry : RelV y u) (hr : HR X.K m S H) (ra : RelD X.K m H a x) (rb : RelD X.K m H b y) (po : Po X.K m H k Q)
    (h : (pure? DEEP a = true ∧ pure? DEEP b = true) ∧ k (.bl (eqD a b)) S) : wpAny (model X.prog X.w) X.A (compareOp .Eq v u) (EP X pins σ Q) X.xe s := by
  obtain ⟨⟨h1, h2⟩, h⟩ := h
  refine op_eqD hu pins s σ H x y v u Q I rx ry ⟨py a, py b, py_dp h1 ra, py_dp h2 rb, py_shaped h1, py_shaped h2, ?_⟩
  rw [eqv_eq a b h1 h2]
  exact po.done hr (.bl _) h
theorem ne_data (hu : X.A.units + 64 < cLine) {pins : List (Addr × Obj)} {s : Shared} {σ : L2.St} {H : Hp} {x y : V} {v u : Value} {Q : VK} {m : Ms} {S : Store} {k : D → Store → Prop} {a b : D} (I : Inv X pins σ H s) (rx : RelV x v) (ry : RelV y u) (hr : HR X.K m S H) (ra : RelD X.K m H a x) (rb : RelD X.K m H b y) (po : Po X.K m H k Q)
    (h : (pure? DEEP a = true ∧ pure? DEEP b = true) ∧ k (.bl (!eqD a b)) S) : wpAny (model X.prog X.w) X.A (compareOp .NotEq v u) (EP X pins σ Q) X.xe s := by
  obtain ⟨⟨h1, h2⟩, h⟩ := h
  refine op_neD hu pins s σ H x y v u Q I rx ry ⟨py a, py b, py_dp h1 ra, py_dp h2 rb, py_shaped h1, py_shaped h2, ?_⟩
  rw [eqv_eq a b h1 h2]
  exact po.done hr (.bl _) h
theorem dec_V {i j : Int} : decide (V.int i = V.int j) = decide (i = j) := by
  by_cases e : i = j
  · subst e; simp
  · simp [e]
theorem cop_ok (hu : X.A.units + 65 < cLine) (op : Cop) : OpR X (compareOp (copOf op)) (rC X.K op) := by
  intro pins s σ H x y v u Q I rx ry h
  obtain ⟨m, S, k, a, b, hr, ra, rb, po, h⟩ := h
  have hu' : X.A.units + 64 < cLine := by omega
  cases op with
  | eq =>
    have gen : ((pure? DEEP a = true ∧ pure? DEEP b = true) ∧ k (.bl (eqD a b)) S) → wpAny (model X.prog X.w) X.A (compareOp .Eq v u) (EP X pins σ Q) X.xe s := eq_data hu' I rx ry hr ra rb po
    cases ra <;> cases rb <;> first
      | exact gen h
      | (refine op_eq pins s σ H _ _ v u Q I rx ry ⟨rfl, ?_⟩
         rw [dec_V]
         exact po.done hr (.bl _) h)
      | (obtain ⟨e, h⟩ := h
         subst e
         refine op_eq pins s σ H _ _ v u Q I rx ry ⟨rfl, ?_⟩
         rw [decide_eq_true rfl]
         exact po.done hr (.bl _) h)
  | ne =>
    have gen : ((pure? DEEP a = true ∧ pure? DEEP b = true) ∧ k (.bl (!eqD a b)) S) → wpAny (model X.prog X.w) X.A (compareOp .NotEq v u) (EP X pins σ Q) X.xe s := ne_data hu' I rx ry hr ra rb po
    cases ra <;> cases rb <;> first
      | exact gen h
      | (refine op_ne pins s σ H _ _ v u Q I rx ry ⟨rfl, ?_⟩
         rw [dec_V]
         exact po.done hr (.bl _) h)
      | (obtain ⟨e, h⟩ := h
         subst e
         refine op_ne pins s σ H _ _ v u Q I rx ry ⟨rfl, ?_⟩
         rw [decide_eq_true rfl]
         exact po.done hr (.bl _) h)
  | lt =>
    cases ra <;> cases rb <;> try (exact h.elim)
    exact op_lt pins s σ H _ _ v u Q I rx ry ⟨_, _, rfl, rfl, po.done hr (.bl _) h⟩
  | le =>
    cases ra <;> cases rb <;> try (exact h.elim)
    exact op_le pins s σ H _ _ v u Q I rx ry ⟨_, _, rfl, rfl, po.done hr (.bl _) h⟩
  | gt =>
    cases ra <;> cases rb <;> try (exact h.elim)
    exact op_gt pins s σ H _ _ v u Q I rx ry ⟨_, _, rfl, rfl, po.done hr (.bl _) h⟩
  | ge =>
    cases ra <;> cases rb <;> try (exact h.elim)
    exact op_ge pins s σ H _ _ v u Q I rx ry ⟨_, _, rfl, rfl, po.done hr (.bl _) h⟩
  | is =>
    cases rb <;> try (cases ra <;> exact h.elim)
    · refine op_isN pins s σ H _ _ v u Q I rx ry ⟨rfl, ?_⟩
      have e : decide (x = V.non) = isNon a := by cases ra <;> simp [isNon]
      rw [e]
      exact po.done hr (.bl _) (by cases ra <;> exact h)
    · cases ra <;> try (exact h.elim)
      cases rx
      cases ry
      exact PyProof.Rows.is_bool ⟨.bl _, H, I, rfl, po.done hr (.bl _) h⟩
  | isnot =>
    cases rb <;> try (cases ra <;> exact h.elim)
    · refine op_notN pins s σ H _ _ v u Q I rx ry ⟨rfl, ?_⟩
      have e : decide (x = V.non) = isNon a := by cases ra <;> simp [isNon]
      rw [e]
      exact po.done hr (.bl _) (by cases ra <;> exact h)
    · cases ra <;> try (exact h.elim)
      cases rx
      cases ry
      exact PyProof.Rows.isnot_bool ⟨.bl _, H, I, rfl, po.done hr (.bl _) h⟩
  | isin =>
    cases rb <;> try (cases ra <;> exact h.elim)
    · rename_i ds a' vs hs rs
      have h' : (pure? DEEP a = true ∧ pures? DEEP ds = true) ∧ k (.bl (inD a ds)) S := by cases ra <;> exact h
      obtain ⟨⟨h1, h2⟩, h3⟩ := h'
      refine op_inDT hu pins s σ H _ _ v u Q I rx ry ⟨py a, pys ds, py_dp h1 ra, .tup hs (pys_dp h2 rs), py_shaped h1, pys_shaped h2, ?_⟩
      show Q (.bl ((pys ds).any fun z => PyData.eqv z (py a))) H
      rw [any_eq a h1 ds h2]
      exact po.done hr (.bl _) h3
    · rename_i ds a' vs hs na rs
      have h' : (pure? DEEP a = true ∧ pures? DEEP ds = true) ∧ k (.bl (inD a ds)) S := by cases ra <;> exact h
      obtain ⟨⟨h1, h2⟩, h3⟩ := h'
      refine op_inD hu pins s σ H _ _ v u Q I rx ry ⟨py a, pys ds, py_dp h1 ra, .lst (.inl (.inl hs)) (pys_dp h2 rs), py_shaped h1, pys_shaped h2, ?_⟩
      rw [any_eq a h1 ds h2]
      exact po.done hr (.bl _) h3
  | notin =>
    cases rb <;> try (cases ra <;> exact h.elim)
    · rename_i ds a' vs hs rs
      have h' : (pure? DEEP a = true ∧ pures? DEEP ds = true) ∧ k (.bl (!inD a ds)) S := by cases ra <;> exact h
      obtain ⟨⟨h1, h2⟩, h3⟩ := h'
      refine op_notInDT hu pins s σ H _ _ v u Q I rx ry ⟨py a, pys ds, py_dp h1 ra, .tup hs (pys_dp h2 rs), py_shaped h1, pys_shaped h2, ?_⟩
      show Q (.bl (!(pys ds).any fun z => PyData.eqv z (py a))) H
      rw [any_eq a h1 ds h2]
      exact po.done hr (.bl _) h3
    · rename_i ds a' vs hs na rs
      have h' : (pure? DEEP a = true ∧ pures? DEEP ds = true) ∧ k (.bl (!inD a ds)) S := by cases ra <;> exact h
      obtain ⟨⟨h1, h2⟩, h3⟩ := h'
      refine op_notInD hu pins s σ H _ _ v u Q I rx ry ⟨py a, pys ds, py_dp h1 ra, .lst (.inl (.inl hs)) (pys_dp h2 rs), py_shaped h1, pys_shaped h2, ?_⟩
      rw [any_eq a h1 ds h2]
      exact po.done hr (.bl _) h3
/-! ### in, not in: of a row, or of a list that changes -/
def inOp (neg : Bool) : CmpOp := if neg then .NotIn else .In
def rN (K : PySem.W.Frag) (neg : Bool) : R2 := fun x y H Q => ∃ m S k a b, HR K m S H ∧ RelD K m H a x ∧ RelD K m H b y ∧ Po K m H k Q ∧ isnD neg a b S (fun z => k (.bl z) S)
theorem isn_ok (hu : X.A.units + 65 < cLine) (neg : Bool) : OpR X (compareOp (inOp neg)) (rN X.K neg) := by
  intro pins s σ H x y v u Q I rx ry h
  obtain ⟨m, S, k, a, b, hr, ra, rb, po, h⟩ := h
  cases rb <;> try (exact h.elim)
  · rename_i ds p vs hs rs
    obtain ⟨⟨h1, h2⟩, h3⟩ := h
    cases neg
    · refine op_inDT hu pins s σ H _ _ v u Q I rx ry ⟨py a, pys ds, py_dp h1 ra, .tup hs (pys_dp h2 rs), py_shaped h1, pys_shaped h2, ?_⟩
      show Q (.bl ((pys ds).any fun z => PyData.eqv z (py a))) H
      rw [any_eq a h1 ds h2]
      exact po.done hr (.bl _) h3
    · refine op_notInDT hu pins s σ H _ _ v u Q I rx ry ⟨py a, pys ds, py_dp h1 ra, .tup hs (pys_dp h2 rs), py_shaped h1, pys_shaped h2, ?_⟩
      show Q (.bl (!(pys ds).any fun z => PyData.eqv z (py a))) H
      rw [any_eq a h1 ds h2]
      exact po.done hr (.bl _) h3
  · rename_i ds p vs hs na rs
    obtain ⟨⟨h1, h2⟩, h3⟩ := h
    cases neg
    · refine op_inD hu pins s σ H _ _ v u Q I rx ry ⟨py a, pys ds, py_dp h1 ra, .lst (.inl (.inl hs)) (pys_dp h2 rs), py_shaped h1, pys_shaped h2, ?_⟩
      rw [any_eq a h1 ds h2]
      exact po.done hr (.bl _) h3
    · refine op_notInD hu pins s σ H _ _ v u Q I rx ry ⟨py a, pys ds, py_dp h1 ra, .lst (.inl (.inl hs)) (pys_dp h2 rs), py_shaped h1, pys_shaped h2, ?_⟩
      rw [any_eq a h1 ds h2]
      exact po.done hr (.bl _) h3
  · rename_i l p hl
    have h : (match cl S l with | some ys => inrD neg a ys (fun z => k (.bl z) S) | none => False) := h
    split at h
    · rename_i ds e
      obtain ⟨vs, hs, rs⟩ := hr.at_ l ds p e hl
      obtain ⟨⟨h1, h2⟩, h3⟩ := h
      cases neg
      · refine op_inD hu pins s σ H _ _ v u Q I rx ry ⟨py a, pys ds, py_dp h1 ra, .lst (.inl (.inl hs)) (pys_dp h2 rs), py_shaped h1, pys_shaped h2, ?_⟩
        rw [any_eq a h1 ds h2]
        exact po.done hr (.bl _) h3
      · refine op_notInD hu pins s σ H _ _ v u Q I rx ry ⟨py a, pys ds, py_dp h1 ra, .lst (.inl (.inl hs)) (pys_dp h2 rs), py_shaped h1, pys_shaped h2, ?_⟩
        rw [any_eq a h1 ds h2]
        exact po.done hr (.bl _) h3
    · exact h.elim
/-- one behind the other, lists that change too -/
def rCat (K : PySem.W.Frag) (fr : Bool) : R2 := fun x y H Q => ∃ m S k a b, HR K m S H ∧ RelD K m H a x ∧ RelD K m H b y ∧ Po K m H k Q ∧ catD a b S (fun zs => mk fr zs S k)
theorem row_rel {K : PySem.W.Frag} {m : Ms} {H : Hp} {S : Store} {a : D} {x : V} {ds : List D} (hr : HR K m S H) (ra : RelD K m H a x) (e : rowR a S = some ds) : ∃ p vs, x = .ref p ∧ H p = some (.lst vs) ∧ RelDs K m H ds vs := by
  cases ra <;> try (cases e; done)
  · rename_i ds' p vs hs na rs
    cases e
    exact ⟨_, _, rfl, hs, rs⟩
  · rename_i l p hl
    obtain ⟨vs, hs, rs⟩ := hr.at_ l ds p e hl
    exact ⟨_, _, rfl, hs, rs⟩
theorem cat_op (fr : Bool) : OpR X (binaryOp .Add) (rCat X.K fr) := by
  intro pins s σ H x y v u Q I rx ry h
  obtain ⟨m, S, k, a, b, hr, ra, rb, po, h⟩ := h
  unfold catD at h
  split at h
  · rename_i ds e1
    split at h
    · rename_i es e2
      obtain ⟨p, vs, rfl, hs, rs⟩ := row_rel hr ra e1
      obtain ⟨q, ws, rfl, ht, rt⟩ := row_rel hr rb e2
      exact op_cat pins s σ H _ _ v u Q I rx ry ⟨_, _, _, _, rfl, rfl, hs, ht, by rw [← rs.length, ← rt.length]; exact sz_line h.1, fun p hp => po.mk hr (rs.append rt) h.2 hp⟩
    · exact h.elim
  · exact h.elim
/-- truth -/
theorem tru_pure {K : PySem.W.Frag} {m : Ms} {H : Hp} {d : D} {x : V} {p : Bool → Prop} (r : RelD K m H d x) (h : tru d p) : ∃ b, TruV K x H b ∧ p b := by
  cases r <;> try (exact h.elim)
  · exact ⟨false, rfl, h⟩
  · rename_i b; exact ⟨b, rfl, h⟩
  · rename_i i
    refine ⟨_, rfl, ?_⟩
    have e : (i != 0) = !decide (i = 0) := by rw [bne, Bool.beq_eq_decide_eq]
    rw [e]; exact h
  · rename_i ds a vs hs rs
    refine ⟨!vs.isEmpty, .inr (.inl ⟨vs, hs, rfl⟩), ?_⟩
    have e : ds.isEmpty = vs.isEmpty := by cases rs <;> rfl
    rw [← e]; exact h
  · rename_i ds a vs hs na rs
    refine ⟨!vs.isEmpty, .inl ⟨vs, .inl (.inl hs), rfl⟩, ?_⟩
    have e : ds.isEmpty = vs.isEmpty := by cases rs <;> rfl
    rw [← e]; exact h
end
end FV
set_option Elab.async false
set_option linter.all false
set_option maxRecDepth 100000
set_option maxHeartbeats 2000000
/-! Calls: built-ins, isinstance, items, slices, by data. -/
namespace FV
open PySem L2
def rF (K : PySem.W.Frag) (b : Bi) : List V → Hp → VK → Prop := fun xs H Q => ∃ m S k ds, HR K m S H ∧ RelDs K m H ds xs ∧ Po K m H k Q ∧ bfn b ds S (fun z => k z S)
section
variable {K : PySem.W.Frag} {m : Ms} {H : Hp} {S : Store}
theorem rel0 {vs : List V} (r : RelDs K m H [] vs) : vs = [] := by cases r; rfl
theorem rel1 {d : D} {vs : List V} (r : RelDs K m H [d] vs) : ∃ v, vs = [v] ∧ RelD K m H d v := by
  cases r with
  | cons a t => cases t; exact ⟨_, rfl, a⟩
theorem rel2 {d e : D} {vs : List V} (r : RelDs K m H [d, e] vs) : ∃ v w, vs = [v, w] ∧ RelD K m H d v ∧ RelD K m H e w := by
  cases r with
  | cons a t => cases t with
    | cons b t => cases t; exact ⟨_, _, rfl, a, b⟩
theorem on1_of {f : D → Store → (D → Prop) → Prop} {ds : List D} {k : D → Prop} (h : on1 f ds S k) : ∃ d, ds = [d] ∧ f d S k := by
  match ds, h with
  | [d], h => exact ⟨d, rfl, h⟩
theorem on2_of {f : D → D → (D → Prop) → Prop} {ds : List D} {k : D → Prop} (h : on2 f ds S k) : ∃ d e, ds = [d, e] ∧ f d e k := by
  match ds, h with
  | [d, e], h => exact ⟨d, e, rfl, h⟩
theorem onI_of {f : Int → D} {d : D} {k : D → Prop} (h : onI f d k) : ∃ a, d = .int a ∧ k (f a) := by
  match d, h with
  | .int a, h => exact ⟨a, rfl, h⟩
theorem onII_of {c : Int → Int → Prop} {f : Int → Int → D} {d e : D} {k : D → Prop} (h : onII c f d e k) : ∃ a b, d = .int a ∧ e = .int b ∧ c a b ∧ k (f a b) := by
  match d, e, h with
  | .int a, .int b, h => exact ⟨a, b, rfl, rfl, h⟩
theorem relI {a : Int} {v : V} (r : RelD K m H (.int a) v) : v = .int a := by cases r; rfl
theorem onBs_of {f : List Bool → D} {d : D} {k : D → Prop} (h : onBs f d k) : ∃ ds bs, d = .lst ds ∧ bls? ds = some bs ∧ k (f bs) := by
  match d, h with
  | .lst ds, h =>
    simp only [onBs] at h
    split at h
    · rename_i bs q; exact ⟨ds, bs, rfl, q, h⟩
    · exact h.elim
theorem onIs_of {f : List Int → D} {d : D} {k : D → Prop} (h : onIs f d k) : ∃ ds bs, d = .lst ds ∧ ints? ds = some bs ∧ k (f bs) := by
  match d, h with
  | .lst ds, h =>
    simp only [onIs] at h
    split at h
    · rename_i bs q; exact ⟨ds, bs, rfl, q, h⟩
    · exact h.elim
/-- what can be read as a sequence of items -/
theorem seq_rel {d : D} {x : V} {p : List D → Prop} (hr : HR K m S H) (r : RelD K m H d x) (h : seq d S p) :
    ∃ (ds : List D) (vs : List V) (a : Addr), x = .ref a ∧ (SqL K H a vs ∨ SqT K H a vs) ∧ RelDs K m H ds vs ∧ p ds := by
  cases r <;> try (exact h.elim)
  · rename_i ds a vs hs rs; exact ⟨ds, vs, a, rfl, .inr hs, rs, h⟩
  · rename_i ds a vs hs na rs; exact ⟨ds, vs, a, rfl, .inl (.inl (.inl hs)), rs, h⟩
  · rename_i ds a vs hs rs; exact ⟨ds, vs, a, rfl, .inl hs.sql, rs, h⟩
  · rename_i l a hl
    simp only [seq] at h
    split at h
    · rename_i ds q
      obtain ⟨vs, e, rs⟩ := hr.at_ l ds a q hl
      exact ⟨ds, vs, a, rfl, .inl (.inl (.inl e)), rs, h⟩
    · exact h.elim
theorem atI_rel {ds : List D} {vs : List V} {i : Int} {d : D} (r : RelDs K m H ds vs) (h : nth ds i = some d) : ∃ v, atI vs i = some v ∧ RelD K m H d v := by
  unfold nth atI at h
  cases q : ixN ds.length i with
  | none => rw [q] at h; cases h
  | some j =>
    rw [q] at h
    obtain ⟨v, h1, h2⟩ := r.get (i := j) h
    refine ⟨v, ?_, h2⟩
    unfold atI
    rw [← r.length, q]
    exact h1
end
/-! ### texts -/
theorem from_len : ∀ (ts : List Str) (k : Nat) (acc : Str), (textFrom k acc ts).length ≤ acc.length + piled ts
  | [], k, acc => by show acc.length ≤ _; omega
  | t :: r, k, acc => by
    have h := from_len r (k + 1) (acc ++ (if k > 0 then ", " else "" : String) ++ t)
    have e : (((if k > 0 then ", " else "" : String) : Str)).length ≤ 2 := by split <;> decide +kernel
    rw [strLen_append, strLen_append] at h
    rw [piled_cons]
    show (textFrom (k + 1) _ r).length ≤ _
    omega
theorem list_len (ts : List Str) : (listText ts).length ≤ piled ts + 2 := by
  have h := from_len ts 0 "["
  have e1 : (("[" : Str)).length = 1 := rfl
  have e2 : (("]" : Str)).length = 1 := rfl
  unfold listText
  rw [strLen_append]
  omega
theorem int_len {i : Int} (h : i.natAbs < 2 ^ 990) : ((PyData.int i).shown).length + 2 ≤ 310 ∧ (PyData.int i).showable = true := by
  have h10 : i.natAbs < 10 ^ 300 := Nat.lt_of_lt_of_le h (by decide +kernel)
  have e := int_text_length_le10 (k := 300) (by decide) h10
  have e2 : ((PyData.int i).shown).length = (toString i).length := by
    show (Str.ofString (toString i)).length = _
    rw [ofString_length]
  refine ⟨by omega, ?_⟩
  simp only [PyData.showable, decide_eq_true_eq]
  exact Nat.lt_of_lt_of_le (PySem.Flt.log2_lt_of (by omega : 0 < 990) h) (by omega)
mutual
theorem shw_ok : ∀ {n : Nat} {d : D}, pure? n d = true → smD d → (py d).showable = true ∧ (py d).hasDict = false ∧ (py d).shown.length + 2 ≤ 310 * nod d
  | n, .non, _, _ => ⟨rfl, rfl, by decide +kernel⟩
  | n, .bl b, _, _ => ⟨rfl, rfl, by cases b <;> decide +kernel⟩
  | n, .int i, _, h => ⟨(int_len h).2, rfl, (int_len h).1⟩
  | n, .str s, _, h => h.elim
  | 0, .tup ds, h, _ => by cases h
  | n + 1, .tup ds, h, g => by
    obtain ⟨a, b, c⟩ := shws_ok (n := n) (ds := ds) h g
    refine ⟨a, b, ?_⟩
    have := fmt_text (PyData.shownAll (pys ds))
    show (tupleText (PyData.shownAll (pys ds))).length + 2 ≤ 310 * (nods ds + 1)
    omega
  | 0, .lst ds, h, _ => by cases h
  | n + 1, .lst ds, h, g => by
    obtain ⟨a, b, c⟩ := shws_ok (n := n) (ds := ds) h g
    refine ⟨a, b, ?_⟩
    have := list_len (PyData.shownAll (pys ds))
    show (listText (PyData.shownAll (pys ds))).length + 2 ≤ 310 * (nods ds + 1)
    omega
  | _, .frz _, _, h => h.elim
  | _, .ref _, _, h => h.elim
  | _, .fn _, _, h => h.elim
  | _, .exc _ _, _, h => h.elim
  | _, .itr _, _, h => h.elim
  | _, .rep _, _, h => h.elim
  | _, .dic, _, h => h.elim
theorem shws_ok : ∀ {n : Nat} {ds : List D}, pures? n ds = true → smDs ds → PyData.showableAll (pys ds) = true ∧ PyData.hasDictAll (pys ds) = false ∧ piled (PyData.shownAll (pys ds)) ≤ 310 * nods ds
  | n, [], _, _ => ⟨rfl, rfl, Nat.zero_le _⟩
  | n, d :: ds, h, g => by
    unfold pures? at h
    rw [Bool.and_eq_true] at h
    obtain ⟨a1, b1, c1⟩ := shw_ok (n := n) h.1 g.1
    obtain ⟨a2, b2, c2⟩ := shws_ok (n := n) h.2 g.2
    refine ⟨?_, ?_, ?_⟩
    · show (PyData.showable (py d) && PyData.showableAll (pys ds)) = true
      rw [a1, a2]; rfl
    · show (PyData.hasDict (py d) || PyData.hasDictAll (pys ds)) = false
      rw [b1, b2]; rfl
    · show piled ((py d).shown :: PyData.shownAll (pys ds)) ≤ 310 * (nod d + nods ds)
      rw [piled_cons]
      omega
end
/-- repr of a row -/
theorem repr_row {X : Cx} (hg : X.A.guards = some []) (hu : X.A.units + 64 < cLine) {pins : List (Addr × Obj)} {s : Shared} {σ : L2.St} {H : Hp} {a : Addr} {Q : VK} {m : Ms} {S : Store} {k : D → Store → Prop} {d : D} (I : Inv X pins σ H s) (hr : HR X.K m S H) (r : RelD X.K m H d (.ref a)) (po : Po X.K m H k Q)
    (h1 : pure? DEEP d = true) (h2 : smD d) (h3 : nod d ≤ 20001) (h : k (.rep d) S) : wpAny (model X.prog X.w) X.A (call (.builtin "repr") [.ref a]) (EP X pins σ Q) X.xe s := by
  obtain ⟨as, rd⟩ := Dp.reads I (py d) (.ref a) (.ref a) (py_dp h1 r) rfl
  obtain ⟨g1, g2, g3⟩ := shw_ok h1 h2
  have hd := (py_ok h1).2
  unfold DEEP at hd
  refine repr_of_reads' rd g1 (fun z => by rw [g2] at z; cases z) hg (by omega) (fun _ _ z => z) (fun h' u tk keep => ?_) (by rw [sizeLine_eq]; omega)
  have J : Inv X pins σ H { s with heap := h', toks := tk } := I.kept (t' := tk) keep
  exact ⟨.str (py d).shown, H, J, ⟨u, rfl⟩, po.done hr (.rep d) h⟩
theorem log_lt {a : Int} (h : a.natAbs < 2 ^ 990) : a.natAbs.log2 < 1920 := by
  by_cases z : a.natAbs = 0
  · rw [z]; decide
  · have := (Nat.log2_lt z).mpr h
    omega
/-- a built-in as a value -/
def biVal : Bi → Value
  | .len => .builtin "len" | .abs => .builtin "abs" | .max2 => .builtin "max" | .min2 => .builtin "min" | .int => .type "int" | .divmod => .builtin "divmod" | .gcd => .builtin "math.gcd"
  | .all => .builtin "all" | .any => .builtin "any" | .sum => .builtin "sum" | .tuple => .type "tuple" | .list => .type "list" | .repr => .builtin "repr" | .str => .type "str"
section
variable {X : Cx}
theorem bfn_ok (hc : X.calm = true) (hg : X.A.guards = some []) (hu : X.A.units + 64 < cLine) (b : Bi) : CallR X (biVal b) (rF X.K b) := by
  intro pins s σ H xs us Q I r h
  obtain ⟨m, S, k, ds, hr, rs, po, h⟩ := h
  cases b with
  | len =>
    obtain ⟨d, e0, g⟩ := on1_of h
    clear h
    subst e0
    obtain ⟨x, rfl, r1⟩ := rel1 rs
    obtain ⟨es, vs, a, rfl, hs, rs', h⟩ := seq_rel hr r1 g
    exact call_len pins s σ H _ us Q I r ⟨_, _, rfl, hs.imp (fun z => ⟨vs, z, rs'.length⟩) fun z => ⟨vs, z, rs'.length⟩, po.done hr (.int _) h⟩
  | abs =>
    obtain ⟨d, e0, g⟩ := on1_of h
    clear h
    subst e0
    obtain ⟨x, rfl, r1⟩ := rel1 rs
    obtain ⟨a, rfl, h⟩ := onI_of g
    cases relI r1
    exact call_abs pins s σ H _ us Q I r ⟨_, rfl, po.done hr (.int _) h⟩
  | max2 =>
    obtain ⟨d, e, e0, g⟩ := on2_of h
    clear h
    subst e0
    obtain ⟨x, y, rfl, r1, r2⟩ := rel2 rs
    obtain ⟨a, b, rfl, rfl, _, h⟩ := onII_of g
    cases relI r1; cases relI r2
    exact call_max2 hc pins s σ H _ us Q I r ⟨_, _, rfl, po.done hr (.int _) h⟩
  | min2 =>
    obtain ⟨d, e, e0, g⟩ := on2_of h
    clear h
    subst e0
    obtain ⟨x, y, rfl, r1, r2⟩ := rel2 rs
    obtain ⟨a, b, rfl, rfl, _, h⟩ := onII_of g
    cases relI r1; cases relI r2
    exact call_min2 hc pins s σ H _ us Q I r ⟨_, _, rfl, po.done hr (.int _) h⟩
  | int =>
    obtain ⟨d, e0, g⟩ := on1_of h
    clear h
    subst e0
    obtain ⟨x, rfl, r1⟩ := rel1 rs
    cases r1 <;> try (exact g.elim)
    · exact call_int1 pins s σ H _ us Q I r (.inr ⟨_, rfl, po.done hr (.int _) g⟩)
    · exact call_int1 pins s σ H _ us Q I r (.inl ⟨_, rfl, po.done hr (.int _) g⟩)
  | divmod =>
    obtain ⟨d, e, e0, g⟩ := on2_of h
    clear h
    subst e0
    obtain ⟨x, y, rfl, r1, r2⟩ := rel2 rs
    obtain ⟨a, b, rfl, rfl, hc, h⟩ := onII_of g
    cases relI r1; cases relI r2
    exact call_divmodA pins s σ H _ us Q I r ⟨_, _, rfl, hc, fun p hp => po.tup hr (.cons (.int _) (.cons (.int _) .nil)) h hp⟩
  | gcd =>
    obtain ⟨d, e, e0, g⟩ := on2_of h
    clear h
    subst e0
    obtain ⟨x, y, rfl, r1, r2⟩ := rel2 rs
    obtain ⟨a, b, rfl, rfl, _, h⟩ := onII_of g
    cases relI r1; cases relI r2
    exact cr_gcd pins s σ H _ us Q I r ⟨_, _, rfl, po.done hr (.int _) h⟩
  | all =>
    obtain ⟨d, e0, g⟩ := on1_of h
    clear h
    subst e0
    obtain ⟨x, rfl, r1⟩ := rel1 rs
    obtain ⟨es, bs, rfl, e, h⟩ := onBs_of g
    cases r1
    rename_i a vs hs na rs'
    cases rs'.bls e
    exact cr_all hc pins s σ H _ us Q I r ⟨_, _, rfl, .inl (.inl hs), po.done hr (.bl _) h⟩
  | any =>
    obtain ⟨d, e0, g⟩ := on1_of h
    clear h
    subst e0
    obtain ⟨x, rfl, r1⟩ := rel1 rs
    obtain ⟨es, bs, rfl, e, h⟩ := onBs_of g
    cases r1
    rename_i a vs hs na rs'
    cases rs'.bls e
    exact cr_any hc pins s σ H _ us Q I r ⟨_, _, rfl, .inl (.inl hs), po.done hr (.bl _) h⟩
  | sum =>
    obtain ⟨d, e0, g⟩ := on1_of h
    clear h
    subst e0
    obtain ⟨x, rfl, r1⟩ := rel1 rs
    obtain ⟨es, bs, rfl, e, h⟩ := onIs_of g
    cases r1
    rename_i a vs hs na rs'
    cases rs'.ints e
    exact cr_sum hc pins s σ H _ us Q I r ⟨_, _, rfl, .inl (.inl hs), po.done hr (.int _) h⟩
  | tuple =>
    obtain ⟨d, e0, g⟩ := on1_of h
    clear h
    subst e0
    obtain ⟨x, rfl, r1⟩ := rel1 rs
    obtain ⟨es, vs, a, rfl, hs, rs', h⟩ := seq_rel hr r1 g
    exact call_tuple_of pins s σ H _ us Q I r ⟨_, _, rfl, hs.imp (fun z => ⟨z, fun l hl => po.tup hr rs' h hl⟩) fun z => ⟨z, po.done hr (.tup z rs') h⟩⟩
  | list =>
    obtain ⟨d, e0, g⟩ := on1_of h
    clear h
    subst e0
    obtain ⟨x, rfl, r1⟩ := rel1 rs
    obtain ⟨es, vs, a, rfl, hs, rs', h⟩ := seq_rel hr r1 g
    exact call_list_of pins s σ H _ us Q I r ⟨_, _, rfl, hs, fun l hl => po.lst hr rs' h hl⟩
  | repr =>
    obtain ⟨d, e0, g⟩ := on1_of h
    clear h
    subst e0
    obtain ⟨x, rfl, r1⟩ := rel1 rs
    obtain ⟨u, rfl, ru⟩ := vals1 r
    cases d <;> try (exact g.elim)
    · obtain ⟨⟨h1, h2, h3⟩, g⟩ := g
      cases r1
      cases ru
      rename_i hs rs'
      exact repr_row hg hu I hr (.tup hs rs') po h1 h2 (by show nods _ + 1 ≤ _; omega) g
    · obtain ⟨⟨h1, h2, h3⟩, g⟩ := g
      cases r1
      cases ru
      rename_i hs na rs'
      exact repr_row hg hu I hr (.lst hs na rs') po h1 h2 (by show nods _ + 1 ≤ _; omega) g
  | str =>
    obtain ⟨d, e0, g⟩ := on1_of h
    clear h
    subst e0
    obtain ⟨x, rfl, r1⟩ := rel1 rs
    cases r1 <;> try (exact g.elim)
    exact call_str_int pins s σ H _ us Q I r ⟨_, rfl, log_lt g.1, po.done hr (.rep (.int _)) g.2⟩
/-! ### isinstance -/
def tyName : Ty → String
  | .int => "int" | .bool => "bool" | .str => "str" | .tup => "tuple" | .lst => "list" | .dict => "dict"
theorem tyIs_all {K : PySem.W.Frag} {m : Ms} {H : Hp} {S : Store} {d : D} {x : V} {c : Bool} (hr : HR K m S H) (r : RelD K m H d x) (h : tyIs .int d = some c) : ∃ Tn : String, TyX K H x (.type Tn) ∧ ∀ t, ∃ b, tyIs t d = some b ∧ kitB Tn (tyName t) = some b := by
  cases r with
  | non => exact ⟨_, .base .non, fun t => ⟨_, by cases t <;> rfl, by cases t <;> decide +kernel⟩⟩
  | bl c => exact ⟨_, .base (.bl c), fun t => ⟨_, rfl, by cases t <;> decide +kernel⟩⟩
  | int i => exact ⟨_, .base (.int i), fun t => ⟨_, rfl, by cases t <;> decide +kernel⟩⟩
  | str z => exact ⟨_, .base (.str z), fun t => ⟨_, rfl, by cases t <;> decide +kernel⟩⟩
  | rep d => exact ⟨_, .base (.str _), fun t => ⟨_, rfl, by cases t <;> decide +kernel⟩⟩
  | dic hd => exact ⟨_, .base (.dK hd), fun t => ⟨_, rfl, by cases t <;> decide +kernel⟩⟩
  | tup hs rs =>
    refine ⟨"tuple", ?_, fun t => ⟨_, rfl, by cases t <;> decide +kernel⟩⟩
    rcases hs with (hs | ⟨o, hs⟩) | ⟨o, its, n, hk, hcls, _⟩
    · exact .base (.tup hs)
    · exact .fTuple hs
    · exact .kTuple hk hcls
  | lst hs na rs => exact ⟨_, .base (.lst hs), fun t => ⟨_, rfl, by cases t <;> decide +kernel⟩⟩
  | frz hs rs =>
    rcases hs with ⟨o, hs⟩ | ⟨o, its, n, hk, hcls, _⟩
    · exact ⟨_, .base (.frz hs), fun t => ⟨_, rfl, by cases t <;> decide +kernel⟩⟩
    · exact ⟨_, .kList hk hcls, fun t => ⟨_, rfl, by cases t <;> decide +kernel⟩⟩
  | ref hl =>
    obtain ⟨vs, e⟩ := hr.there (List.mem_of_getElem? hl)
    exact ⟨_, .base (.lst e), fun t => ⟨_, rfl, by cases t <;> decide +kernel⟩⟩
theorem tyIs_rel {K : PySem.W.Frag} {m : Ms} {H : Hp} {S : Store} {t : Ty} {d : D} {x : V} {b : Bool} (hr : HR K m S H) (r : RelD K m H d x) (h : tyIs t d = some b) : ∃ T : String, TyX K H x (.type T) ∧ kitB T (tyName t) = some b := by
  cases r with
  | non => exact ⟨_, .base .non, by cases h; cases t <;> decide +kernel⟩
  | bl c => exact ⟨_, .base (.bl c), by cases h; cases t <;> decide +kernel⟩
  | int i => exact ⟨_, .base (.int i), by cases h; cases t <;> decide +kernel⟩
  | str z => exact ⟨_, .base (.str z), by cases h; cases t <;> decide +kernel⟩
  | rep d => exact ⟨_, .base (.str _), by cases h; cases t <;> decide +kernel⟩
  | dic hd => exact ⟨_, .base (.dK hd), by cases h; cases t <;> decide +kernel⟩
  | tup hs rs =>
    refine ⟨"tuple", ?_, by cases h; cases t <;> decide +kernel⟩
    rcases hs with (hs | ⟨o, hs⟩) | ⟨o, its, n, hk, hcls, _⟩
    · exact .base (.tup hs)
    · exact .fTuple hs
    · exact .kTuple hk hcls
  | lst hs na rs => exact ⟨_, .base (.lst hs), by cases h; cases t <;> decide +kernel⟩
  | frz hs rs =>
    rcases hs with ⟨o, hs⟩ | ⟨o, its, n, hk, hcls, _⟩
    · exact ⟨_, .base (.frz hs), by cases h; cases t <;> decide +kernel⟩
    · exact ⟨_, .kList hk hcls, by cases h; cases t <;> decide +kernel⟩
  | ref hl =>
    obtain ⟨vs, e⟩ := hr.there (List.mem_of_getElem? hl)
    exact ⟨_, .base (.lst e), by cases h; cases t <;> decide +kernel⟩
end
end FV
set_option Elab.async false
set_option linter.all false
set_option maxRecDepth 100000
set_option maxHeartbeats 2000000
/-! Sound1: where code stands, patterns, what a loop walks. -/
namespace FV
open PySem L2
/-- where code stands: the slots' names, the block's scope, the scope that has the block's own cells (none: all) -/
structure Ck where
  N : List Str
  sc : Scope
  fs : Option Scope
def isG (c : Ck) (x : Str) : Bool := decide (c.sc.names.lookup x = some .globalImplicit) && !(x == ("__debug__" : Str))
def isV (c : Ck) (x : Str) (i : Nat) : Bool := decide (c.N[i]? = some x) && (decide (c.sc.names.lookup x = some .local) || decide (c.sc.names.lookup x = some .cell) || decide (c.sc.names.lookup x = some .free)) && !(x == ("__debug__" : Str)) && !(x == ("__classdict__" : Str))
def ownCell (c : Ck) (x : Str) : Bool := match c.fs with
  | none => true
  | some s0 => s0.names.lookup x == some .cell
def isSt (c : Ck) (x : Str) (i : Nat) : Bool := decide (c.N[i]? = some x) && (decide (c.sc.names.lookup x = some .local) || (decide (c.sc.names.lookup x = some .cell) && ownCell c x))
/-- what all code of the law leans on -/
structure Wd where
  P : Program
  w : World
  K : PySem.W.Frag
  mg : Str → Option Value
  base : Heap
  n : Nat
structure At (W : Wd) (c : Ck) (X : Cx) : Prop where
  prog : X.prog = W.P
  wd : X.w = W.w
  k : X.K = W.K
  mg : X.mg = W.mg
  bs : X.base = W.base
  N : X.N = c.N
  nd : c.N.Nodup
  sc : X.env.scope = c.sc
  fn : ∀ x, ownCell c x = true → c.sc.names.lookup x = some .cell → X.fn x = true
  calm : X.calm = true
  room : Room W.n X.A
  gd : X.A.guards = some []
  xe : X.xe = fun _ _ => False
section
variable {W : Wd} {c : Ck} {X : Cx}
theorem At.gl (a : At W c X) {x : Str} (h : isG c x = true) : Gl X x ∧ (x == ("__debug__" : Str)) = false := by
  unfold isG at h
  rw [Bool.and_eq_true, Bool.not_eq_true', decide_eq_true_eq] at h
  refine ⟨?_, h.2⟩
  show X.env.scope.names.lookup x = _
  rw [a.sc]
  exact h.1
theorem At.st (a : At W c X) {x : Str} {i : Nat} (h : isSt c x i = true) : X.N[i]? = some x ∧ Loc X.env.scope x ∧ (X.fn x = true ∨ X.env.scope.names.lookup x = some .local) := by
  unfold isSt at h
  simp only [Bool.and_eq_true, Bool.or_eq_true, decide_eq_true_eq] at h
  obtain ⟨h1, h2⟩ := h
  refine ⟨by rw [a.N]; exact h1, ?_, ?_⟩
  · unfold L2.Loc
    rw [a.sc]
    exact h2.imp id fun z => z.1
  · rw [a.sc]
    rcases h2 with z | ⟨z1, z2⟩
    · exact .inr z
    · exact .inl (a.fn x z2 z1)
theorem At.vis (a : At W c X) {x : Str} {i : Nat} (h : isV c x i = true) : X.N[i]? = some x ∧ Vis X.env.scope x ∧ (x == ("__debug__" : Str)) = false ∧ (x == ("__classdict__" : Str)) = false := by
  unfold isV at h
  simp only [Bool.and_eq_true, Bool.or_eq_true, decide_eq_true_eq, Bool.not_eq_true'] at h
  obtain ⟨⟨⟨h1, h2⟩, h3⟩, h4⟩ := h
  refine ⟨by rw [a.N]; exact h1, ?_, h3, h4⟩
  unfold L2.Vis
  rw [a.sc]
  rcases h2 with (z | z) | z
  · exact .inl z
  · exact .inr (.inl z)
  · exact .inr (.inr z)
end
/-! ### patterns -/
mutual
def chkP (c : Ck) : Pt → Expr → Bool
  | .nm i, .Name x _ => isSt c x i
  | .tp ps, .Tuple ys _ _ => chkPs c ps ys
  | _, _ => false
def chkPs (c : Ck) : List Pt → List Expr → Bool
  | [], [] => true
  | p :: ps, y :: ys => chkP c p y && chkPs c ps ys
  | _, _ => false
end
mutual
def varsP : Pt → List Nat
  | .nm i => [i]
  | .tp ps => varsPs ps
def varsPs : List Pt → List Nat
  | [] => []
  | p :: ps => varsP p ++ varsPs ps
end
/-- only these slots differ -/
def SetIn (is : List Nat) (a b : L2.St) : Prop := a.length = b.length ∧ ∀ i, i ∉ is → b[i]? = a[i]?
theorem SetIn.refl {is : List Nat} {a : L2.St} : SetIn is a a := ⟨rfl, fun _ _ => rfl⟩
theorem SetIn.mono {is js : List Nat} {a b : L2.St} (h : SetIn is a b) (s : ∀ i ∈ is, i ∈ js) : SetIn js a b := ⟨h.1, fun i hi => h.2 i fun z => hi (s i z)⟩
theorem SetIn.trans {is : List Nat} {a b d : L2.St} (h : SetIn is a b) (g : SetIn is b d) : SetIn is a d := ⟨h.1.trans g.1, fun i hi => (g.2 i hi).trans (h.2 i hi)⟩
theorem wipe_get (σ : L2.St) (i : Nat) : ∀ vs : List Nat, (L2.wipe σ vs)[i]? = if i ∈ vs ∧ i < σ.length then some none else σ[i]?
  | [] => by simp [L2.wipe]
  | v :: vs => by
    unfold L2.wipe
    by_cases h : v = i
    · subst h
      by_cases hl : v < σ.length
      · rw [List.getElem?_set_self (by rw [L2.wipe_length]; exact hl)]
        simp [hl]
      · rw [List.getElem?_eq_none (by rw [List.length_set, L2.wipe_length]; omega), List.getElem?_eq_none (by omega)]
        simp [hl]
    · rw [List.getElem?_set_ne h, wipe_get σ i vs]
      have : ¬ i = v := fun z => h z.symm
      simp [this]
theorem SetIn.wipe {is own : List Nat} {a b : L2.St} (h : SetIn is a b) (s : ∀ i ∈ is, i ∈ own) : L2.wipe b own = L2.wipe a own := by
  apply List.ext_getElem?
  intro i
  rw [wipe_get, wipe_get, ← h.1]
  by_cases hi : i ∈ own
  · by_cases hl : i < a.length
    · simp [hi, hl]
    · simp [hi, hl]
      rw [← h.1]; omega
  · simp [hi]
    exact h.2 i fun z => hi (s i z)
/-- a pattern's reading -/
def tP (K : PySem.W.Frag) (p : Pt) : TG := fun v vσ H Q => ∃ m σ d σ', RS K m H σ vσ ∧ RelD K m H d v ∧ bindP p d σ = some σ' ∧ ∀ vσ', RS K m H σ' vσ' → SetIn (varsP p) vσ vσ' → Q vσ' H
def tPs (K : PySem.W.Frag) (ps : List Pt) : TGs := fun vs vσ H Q => ∃ m σ ds σ', RS K m H σ vσ ∧ RelDs K m H ds vs ∧ bindPs ps ds σ = some σ' ∧ ∀ vσ', RS K m H σ' vσ' → SetIn (varsPs ps) vσ vσ' → Q vσ' H
theorem pg_imp {X : Cx} {e : Expr} {t t' : TG} (h : PG X e t) (w : ∀ v σ H Q, t' v σ H Q → t v σ H Q) : PG X e t' := ⟨fun pins s σ H v u Q I r q => h.run pins s σ H v u Q I r (w _ _ _ _ q)⟩
theorem pgs_imp {X : Cx} {e : List Expr} {t t' : TGs} (h : PGs X e t) (w : ∀ v σ H Q, t' v σ H Q → t v σ H Q) : PGs X e t' := ⟨fun pins s σ H v u Q I r q => h.run pins s σ H v u Q I r (w _ _ _ _ q)⟩
theorem assign_cons {e : Expr} {es : List Expr} {env : PySem.Env} (h : ∀ x p, e ≠ .Starred x p) : (assignEach (e :: es) env) = (false, assign e env) :: assignEach es env := by
  cases e <;> first | rfl | exact absurd rfl (h _ _)
theorem chkP_star {c : Ck} {p : Pt} {e : Expr} (h : chkP c p e = true) : ∀ x q, e ≠ .Starred x q := by
  intro x q z
  subst z
  cases p <;> (simp only [chkP] at h; cases h)
theorem chkPs_len {c : Ck} {env : PySem.Env} : ∀ {ps : List Pt} {es : List Expr}, chkPs c ps es = true → (assignEach es env).length = ps.length ∧ (assignEach es env).findIdx? (·.1) = none ∧ es.length = ps.length
  | [], [], _ => ⟨rfl, rfl, rfl⟩
  | [], _ :: _, h => by simp only [chkPs] at h; cases h
  | _ :: _, [], h => by simp only [chkPs] at h; cases h
  | p :: ps, e :: es, h => by
    simp only [chkPs, Bool.and_eq_true] at h
    obtain ⟨h1, h2, h3⟩ := chkPs_len (env := env) h.2
    rw [assign_cons (chkP_star h.1)]
    refine ⟨by rw [List.length_cons, List.length_cons, h1], ?_, by rw [List.length_cons, List.length_cons, h3]⟩
    rw [List.findIdx?_cons]
    simp [h2]
theorem bindPs_len : ∀ {ps : List Pt} {ds : List D} {σ σ' : Env}, bindPs ps ds σ = some σ' → ds.length = ps.length
  | [], [], _, _, _ => rfl
  | [], _ :: _, _, _, h => by simp only [bindPs] at h; cases h
  | _ :: _, [], _, _, h => by simp only [bindPs] at h; cases h
  | p :: ps, d :: ds, σ, σ', h => by
    simp only [bindPs] at h
    split at h
    · rw [List.length_cons, List.length_cons, bindPs_len h]
    · cases h
section
variable {W : Wd} {c : Ck} {X : Cx}
mutual
theorem pgP (a : At W c X) : ∀ (p : Pt) (e : Expr), chkP c p e = true → PG X e (tP W.K p)
  | .nm i, e, h => by
    cases e <;> try (simp only [chkP] at h; cases h)
    rename_i x pos
    obtain ⟨h1, h2, h3⟩ := a.st h
    refine pg_imp (pg_name (by rw [a.N]; exact a.nd) h1 h2 h3) fun v vσ H Q q => ?_
    obtain ⟨m, σ, d, σ', rs, rd, e, k⟩ := q
    have e' : st σ i d = σ' := Option.some.inj e
    subst e'
    refine k _ (rs.set rd) ⟨by rw [List.length_set], fun j hj => ?_⟩
    rw [List.getElem?_set_ne]
    intro z
    exact hj (by simp [varsP, z])
  | .tp ps, e, h => by
    cases e <;> try (simp only [chkP] at h; cases h)
    rename_i es k pos
    obtain ⟨h1, h2, h3⟩ := chkPs_len (env := X.env) h
    refine ⟨fun pins s vσ H v u Q I r q => ?_⟩
    obtain ⟨m, σ, d, σ', rs, rd, e, k⟩ := q
    cases rd <;> try (simp only [bindP] at e; cases e)
    · rename_i ds ad vs hs rs'
      simp only [bindP] at e
      exact (pg_tup a.calm (pgPs a ps es h) h1 h2).run pins s vσ H _ u Q I r ⟨_, _, rfl, by rw [a.k]; exact hs, by rw [← rs'.length]; exact bindPs_len e, m, σ, ds, σ', rs, rs', e, k⟩
    · rename_i ds ad vs hs na rs'
      simp only [bindP] at e
      exact (pg_unl a.calm (pgPs a ps es h) h1 h2).run pins s vσ H _ u Q I r ⟨_, _, rfl, .inl (.inl hs), by rw [← rs'.length]; exact bindPs_len e, m, σ, ds, σ', rs, rs', e, k⟩
theorem pgPs (a : At W c X) : ∀ (ps : List Pt) (es : List Expr), chkPs c ps es = true → PGs X es (tPs W.K ps)
  | [], [], _ => by
    refine pgs_imp pgs_nil fun v vσ H Q q => ?_
    obtain ⟨m, σ, ds, σ', rs, rd, e, k⟩ := q
    have hl := bindPs_len e
    cases rd with
    | nil =>
      simp only [bindPs] at e
      cases e
      exact ⟨rfl, k _ rs .refl⟩
    | cons _ _ => cases hl
  | [], _ :: _, h => by simp only [chkPs] at h; cases h
  | _ :: _, [], h => by simp only [chkPs] at h; cases h
  | p :: ps, e :: es, h => by
    simp only [chkPs, Bool.and_eq_true] at h
    refine pgs_imp (pgs_cons (pgP a p e h.1) (pgPs a ps es h.2) (by rw [assign_cons (chkP_star h.1)]; rfl)) fun v vσ H Q q => ?_
    obtain ⟨m, σ, ds, σ', rs, rd, e, k⟩ := q
    have hl := bindPs_len e
    cases rd with
    | nil => cases hl
    | cons r1 r2 =>
      rename_i d v ds vs
      simp only [bindPs] at e
      split at e
      · rename_i σ1 e1
        refine ⟨_, _, rfl, m, σ, d, σ1, rs, r1, e1, fun vσ1 rs1 s1 => ⟨m, σ1, ds, σ', rs1, r2, e, fun vσ2 rs2 s2 => ?_⟩⟩
        refine k _ rs2 ((s1.mono ?_).trans (s2.mono ?_))
        · intro i hi; simp only [varsPs, List.mem_append]; exact .inl hi
        · intro i hi; simp only [varsPs, List.mem_append]; exact .inr hi
      · cases e
end
end
/-! ### what is walked -/
def gdP (g : Gd) (S : Store) : Prop := match g with
  | none => True
  | some (l, ds) => cl S l = some ds
theorem gdo_of {g : Gd} {S : Store} {p : Prop} (h : gdo g S p) : gdP g S ∧ p := by
  cases g with
  | none => exact ⟨trivial, h⟩
  | some q => exact h
/-- J hands out the items ds, one by one -/
def Src (K : PySem.W.Frag) (m : Ms) (H : Hp) (J : It) (g : Gd) (ds : List D) : Prop :=
  ∀ m2 S2 H2, Gh m H m2 H2 → HR K m2 S2 H2 → gdP g S2 →
    (∀ i d, ds[i]? = some d → J.go i H2 ∧ ∀ x H3, J.yld i H2 x H3 → Ext m2 H2 m2 H3 ∧ HR K m2 S2 H3 ∧ RelD K m2 H3 d x) ∧ ∀ i, ds.length ≤ i → J.stop i H2
theorem Src.ext {K : PySem.W.Frag} {m m' : Ms} {H H' : Hp} {J : It} {g : Gd} {ds : List D} (s : Src K m H J g ds) (x : Ext m H m' H') : Src K m' H' J g ds := fun m2 S2 H2 x2 hr hg => s m2 S2 H2 (x.gr.gh.trans x2) hr hg
/-- an item of a source that stands as it is -/
theorem item_ok {K : PySem.W.Frag} {m : Ms} {S : Store} {H : Hp} {ds : List D} {vs : List V} {i : Nat} {d : D} (hr : HR K m S H) (r : RelDs K m H ds vs) (e : ds[i]? = some d) :
    ∃ v, vs[i]? = some v ∧ ∀ x H3, H3 = H → vs[i]? = some x → Ext m H m H3 ∧ HR K m S H3 ∧ RelD K m H3 d x := by
  obtain ⟨v, h1, h2⟩ := r.get e
  refine ⟨v, h1, fun x H3 e1 e2 => ?_⟩
  subst e1
  rw [h1] at e2
  cases e2
  exact ⟨.refl, hr, h2⟩
theorem src_of {K : PySem.W.Frag} {m : Ms} {S : Store} {H : Hp} {d : D} {x : V} {k : Gd → List D → Prop} (hr : HR K m S H) (r : RelD K m H d x) (h : itm d S k) :
    ∃ (a : Addr) (g : Gd) (ds : List D), x = .ref a ∧ gdP g S ∧ k g ds ∧ ((∃ vs, SqL K H a vs) ∧ Src K m H (Itl K a) g ds ∨ (∃ vs, SqT K H a vs) ∧ Src K m H (Itt K a) g ds) := by
  cases r <;> try (exact h.elim)
  · rename_i ds a vs hs rs
    refine ⟨a, none, ds, rfl, trivial, h, .inr ⟨⟨vs, hs⟩, fun m2 S2 H2 x2 hr2 _ => ⟨fun i e he => ?_, fun i hi => ⟨vs, x2.sqt hs, by rw [← rs.length]; exact hi⟩⟩⟩⟩
    obtain ⟨v, h1, h2⟩ := item_ok hr2 (rs.monoH x2) he
    exact ⟨⟨vs, v, x2.sqt hs, h1⟩, fun x H3 y => h2 x H3 y.1 (y.2 vs (x2.sqt hs))⟩
  · rename_i ds a vs hs na rs
    have hl : ∀ {m2 H2}, Gh m H m2 H2 → SqL K H2 a vs := fun x2 => .inl (.inl (x2.keep _ _ hs fun _ => na))
    refine ⟨a, none, ds, rfl, trivial, h, .inl ⟨⟨vs, hl Ext.refl.gr.gh⟩, fun m2 S2 H2 x2 hr2 _ => ⟨fun i e he => ?_, fun i hi => ⟨vs, hl x2, by rw [← rs.length]; exact hi⟩⟩⟩⟩
    obtain ⟨v, h1, h2⟩ := item_ok hr2 (rs.monoH x2) he
    exact ⟨⟨vs, v, hl x2, h1⟩, fun x H3 y => h2 x H3 y.1 (y.2 vs (hl x2))⟩
  · rename_i ds a vs hs rs
    have hl : ∀ {m2 H2}, Gh m H m2 H2 → SqL K H2 a vs := fun x2 => (x2.sqf hs).sql
    refine ⟨a, none, ds, rfl, trivial, h, .inl ⟨⟨vs, hl Ext.refl.gr.gh⟩, fun m2 S2 H2 x2 hr2 _ => ⟨fun i e he => ?_, fun i hi => ⟨vs, hl x2, by rw [← rs.length]; exact hi⟩⟩⟩⟩
    obtain ⟨v, h1, h2⟩ := item_ok hr2 (rs.monoH x2) he
    exact ⟨⟨vs, v, hl x2, h1⟩, fun x H3 y => h2 x H3 y.1 (y.2 vs (hl x2))⟩
  · rename_i l a hl
    simp only [itm] at h
    split at h
    · rename_i ds q
      obtain ⟨vs0, e0, _⟩ := hr.at_ l ds a q hl
      refine ⟨a, some (l, ds), ds, rfl, q, h, .inl ⟨⟨vs0, .inl (.inl e0)⟩, fun m2 S2 H2 x2 hr2 hg => ?_⟩⟩
      have hl2 : m2.c[l]? = some a := by
        obtain ⟨t, et, _⟩ := x2.grow
        rw [et, List.getElem?_append_left (List.getElem?_eq_some_iff.mp hl).1]
        exact hl
      obtain ⟨vs, e2, rs⟩ := hr2.at_ l ds a hg hl2
      refine ⟨fun i e he => ?_, fun i hi => ⟨vs, .inl (.inl e2), by rw [← rs.length]; exact hi⟩⟩
      obtain ⟨v, h1, h2⟩ := item_ok hr2 rs he
      exact ⟨⟨vs, v, .inl (.inl e2), h1⟩, fun x H3 y => h2 x H3 y.1 (y.2 vs (.inl (.inl e2)))⟩
    · exact h.elim
end FV
set_option Elab.async false
set_option linter.all false
set_option maxRecDepth 100000
set_option maxHeartbeats 4000000
/-! Sound2: expressions. -/
namespace FV
open PySem L2
/-- the names of the text: defs by their numbers, constants by their data -/
structure Tb where
  fid : List (Str × Nat)
  glb : List (Str × D)
  ps : Nat → List Str
  gcd : Bool
mutual
/-- the same datum, letter by letter -/
def sameD : D → D → Bool
  | .non, .non => true
  | .bl a, .bl b => a == b
  | .int i, .int j => decide (i = j)
  | .str x, .str y => decide (x = y)
  | .tup xs, .tup ys => sameDs xs ys
  | _, _ => false
def sameDs : List D → List D → Bool
  | [], [] => true
  | x :: xs, y :: ys => sameD x y && sameDs xs ys
  | _, _ => false
end
mutual
theorem sameD_eq : ∀ (a b : D), sameD a b = true → a = b
  | .non, b, h => by cases b <;> first | rfl | (cases h)
  | .bl a, b, h => by
    cases b <;> first
      | (cases h; done)
      | (have e : (a == _) = true := h
         rw [eq_of_beq e])
  | .int i, b, h => by
    cases b <;> first
      | (cases h; done)
      | (have e := of_decide_eq_true (show decide (i = _) = true from h)
         rw [e])
  | .str x, b, h => by
    cases b <;> first
      | (cases h; done)
      | (have e := of_decide_eq_true (show decide (x = _) = true from h)
         rw [e])
  | .tup xs, b, h => by
    cases b <;> first
      | (cases h; done)
      | (have e := sameDs_eq xs _ h
         rw [e])
  | .lst _, b, h => by cases b <;> cases h
  | .frz _, b, h => by cases b <;> cases h
  | .ref _, b, h => by cases b <;> cases h
  | .fn _, b, h => by cases b <;> cases h
  | .exc _ _, b, h => by cases b <;> cases h
  | .itr _, b, h => by cases b <;> cases h
  | .rep _, b, h => by cases b <;> cases h
  | .dic, b, h => by cases b <;> cases h
theorem sameDs_eq : ∀ (a b : List D), sameDs a b = true → a = b
  | [], [], _ => rfl
  | [], _ :: _, h => by cases h
  | _ :: _, [], h => by cases h
  | x :: xs, y :: ys, h => by
    have h' : (sameD x y && sameDs xs ys) = true := h
    rw [Bool.and_eq_true] at h'
    rw [sameD_eq x y h'.1, sameDs_eq xs ys h'.2]
end
/-- keywords: all parameters, each once; ord: their places by the parameters -/
def kwOk (ps : List Str) (ord : List Nat) (ks : List Str) : Bool := decide ks.Nodup && decide (ks.length = ps.length) && decide (ord.map (fun i => ks[i]?) = ps.map some) && (List.range ks.length).all (fun i => ord.contains i) && !ps.isEmpty
def gcOk (B : Tb) : Bi → Bool
  | .gcd => B.gcd
  | _ => true
def opEq : Bop → Operator → Bool
  | .add, .Add => true | .sub, .Sub => true | .mul, .Mult => true | .fdiv, .FloorDiv => true | .mod, .Mod => true | .pow, .Pow => true
  | _, _ => false
theorem opEq_ok {b : Bop} {o : Operator} (h : opEq b o = true) : o = opOf b := by cases b <;> cases o <;> first | rfl | cases h
def copEq : Cop → CmpOp → Bool
  | .eq, .Eq => true | .ne, .NotEq => true | .lt, .Lt => true | .le, .LtE => true | .gt, .Gt => true | .ge, .GtE => true | .is, .Is => true | .isnot, .IsNot => true | .isin, .In => true | .notin, .NotIn => true
  | _, _ => false
theorem copEq_ok {b : Cop} {o : CmpOp} (h : copEq b o = true) : o = copOf b := by cases b <;> cases o <;> first | rfl | cases h
def cstB : D → Const → Bool
  | .non, .none => true
  | .bl b, .bool c => b == c
  | .int i, .int j => decide (i = j)
  | .str s, .str t => decide (s = t)
  | _, _ => false
def biName : Bi → Str
  | .len => "len" | .abs => "abs" | .max2 => "max" | .min2 => "min" | .int => "int" | .divmod => "divmod" | .gcd => "gcd"
  | .all => "all" | .any => "any" | .sum => "sum" | .tuple => "tuple" | .list => "list" | .repr => "repr" | .str => "str"
def isSet : Expr → Bool
  | .Set .. => true
  | _ => false
theorem marks {op : CmpOp} {b : Expr} (h : isSet b = false) : behindInMarks op b = false := by
  cases b <;> first | rfl | (cases h)
def plainIx : Expr → Bool
  | .Slice .. => false
  | _ => true
theorem plainIx_ok {b : Expr} (h : plainIx b = true) : PlainIx b := by
  intro o i
  cases b <;> first | rfl | (cases h)
/-- no test of its own kind -/
def leafX : Expr → Bool
  | .Name .. => true
  | .Call .. => true
  | .Subscript .. => true
  | _ => false
theorem leafX_ok {e : Expr} {env : PySem.Env} (h : leafX e = true) : ∀ whole, isTrue e env whole = (do let v ← whole; standAt e.pos; holding [v] (truthy v)) := by
  intro w
  cases e <;> first | rfl | (cases h)
def leafE : E → Bool
  | .rng .. => false
  | .rng1 .. => false
  | .zip .. => false
  | .enm .. => false
  | .app .. => false
  | .cat .. => false
  | .not .. => false
  | .and .. => false
  | .or .. => false
  | _ => true
def ownN (c : Ck) (own : List Nat) : List (Str × Nat) := own.map fun i => (c.N.getD i "", i)
def inC (c : Ck) (s : Scope) : Ck := ⟨c.N, relS s c.sc, some s⟩
def fewT : List Ty → Bool
  | [] => true
  | [_] => true
  | [_, _] => true
  | [_, _, _] => true
  | _ => false
/-- the names of these types -/
def tysOk (c : Ck) : List Ty → List Expr → Bool
  | [], [] => true
  | t :: ts, .Name z _ :: zs => isG c z && decide (z = Str.ofString (tyName t)) && tysOk c ts zs
  | _, _ => false
mutual
/-- the tree e says what the text x says -/
def chk (B : Tb) (c : Ck) : E → Expr → Bool
  | .var i, .Name x _ => isV c x i
  | .cst d, .Constant k _ _ => cstB d k
  | .glb y d, .Name x _ => decide (y = x) && isG c x && (B.glb.any fun p => decide (p.1 = x) && sameD p.2 d)
  | .bin op a b, .BinOp x o y _ => opEq op o && chk B c a x && chk B c b y
  | .neg a, .UnaryOp .USub x _ => chk B c a x
  | .not a, .UnaryOp .Not x _ => chk B c a x
  | .cmp op a b, .Compare x [o] [y] _ => copEq op o && !isSet y && chk B c a x && chk B c b y
  | .cmp2 op op' a b d, .Compare x [o, o'] [y, z] _ => copEq op o && copEq op' o' && !isSet z && chk B c a x && chk B c b y && chk B c d z
  | .and a b, .BoolOp .And [x, y] _ => chk B c a x && chk B c b y
  | .and a b, .BoolOp .And (x :: y :: z :: r) p => chk B c a x && chk B c b (.BoolOp .And (y :: z :: r) p)
  | .or a b, .BoolOp .Or [x, y] _ => chk B c a x && chk B c b y
  | .or a b, .BoolOp .Or (x :: y :: z :: r) p => chk B c a x && chk B c b (.BoolOp .Or (y :: z :: r) p)
  | .ite t a b, .IfExp z x y _ => chkT B c t z && chk B c a x && chk B c b y
  | .tup es, .Tuple xs _ _ => decide (es.length ≤ SZ) && chks B c es xs
  | .lst _ es, .List xs _ => decide (es.length ≤ SZ) && chks B c es xs
  | .slc a lo hi, .Subscript x (.Slice l h none _) _ => chk B c a x && chko B c lo l && chko B c hi h
  | .idx a i, .Subscript x y _ => plainIx y && chk B c a x && chk B c i y
  | .call f es, .Call (.Name x _) xs [] _ => isG c x && decide (B.fid.lookup x = some f) && chks B c es xs
  | .callk f ord es, .Call (.Name x _) [] ks _ => isG c x && decide (B.fid.lookup x = some f) && ks.all (·.arg.isSome) && kwOk (B.ps f) ord (ks.filterMap (·.arg)) && decide (es.length ≤ SZ) && chks B c es (ks.map (·.value))
  | .bi b es, .Call (.Name x _) xs [] _ => isG c x && decide (x = biName b) && gcOk B b && !xs.isEmpty && chks B c es xs
  | .isi e t, .Call (.Name x _) [y, .Name z _] [] _ => isG c x && isG c z && decide (x = "isinstance") && decide (z = Str.ofString (tyName t)) && chk B c e y
  | .isi2 e ts, .Call (.Name x _) [y, .Tuple zs _ _] [] _ => isG c x && decide (x = "isinstance") && fewT ts && tysOk c ts zs && chk B c e y
  | .lc _ own p it cond elt, .ListComp x [⟨t, i, ifs, 0⟩] s _ => blkC c.N c.sc s (ownN c own) && !isSet i && chkP (inC c s) p t && (varsP p).all (fun j => own.contains j) && chkI B c it i t && chkc B (inC c s) cond ifs && chk B (inC c s) elt x
  | .lc2 _ own p it cond own2 p2 it2 cond2 elt, .ListComp x [⟨t, i, ifs, 0⟩, ⟨t2, i2, ifs2, 0⟩] s _ => (blkC c.N c.sc s (ownN c own) && !isSet i && !isSet i2 && chkP (inC c s) p t && (varsP p).all (fun j => own.contains j) && chkP (inC c s) p2 t2 && (varsP p2).all (fun j => own2.contains j) && own2.all (fun j => own.contains j)) && (chkI B c it i t && chkc B (inC c s) cond ifs && chkI B (inC c s) it2 i2 t2 && chkc B (inC c s) cond2 ifs2 && chk B (inC c s) elt x)
  | .cnt es e, .Call (.Attribute (.Tuple xs _ _) nm apos) [y] [] cpos => decide (nm = "count") && (apos.endLine == cpos.line) && decide (es.length ≤ SZ) && chks B c es xs && chk B c e y
  | .rev a, .Subscript x (.Slice none none (some (.UnaryOp .USub (.Constant (.int i) _ _) _)) _) _ => decide (i = 1) && chk B c a x
  | .nset a, .Call (.Name x1 _) [.Call (.Name x2 _) [y] [] _] [] _ => isG c x1 && isG c x2 && decide (x1 = "len") && decide (x2 = "set") && chk B c a y
  | .isn neg a b, .Compare x [o] [y] _ => decide (o = inOp neg) && !isSet y && chk B c a x && chk B c b y
  | .dct, .Dict [] [] _ => true
  | .cat _ a b, .BinOp x o y _ => opEq .add o && chk B c a x && chk B c b y
  | .tcat fl es, .Tuple xs _ _ => decide (es.length ≤ SZ) && chkss B c es fl xs
  | _, _ => false
termination_by structural e => e
/-- .. as a test -/
def chkT (B : Tb) (c : Ck) : E → Expr → Bool
  | .not a, .UnaryOp .Not x _ => chkT B c a x
  | .and a b, .BoolOp .And [x, y] _ => chkT B c a x && chkT B c b y
  | .and a b, .BoolOp .And (x :: y :: z :: r) p => chkT B c a x && chkT B c b (.BoolOp .And (y :: z :: r) p)
  | .or a b, .BoolOp .Or [x, y] _ => chkT B c a x && chkT B c b y
  | .or a b, .BoolOp .Or (x :: y :: z :: r) p => chkT B c a x && chkT B c b (.BoolOp .Or (y :: z :: r) p)
  | .cmp op a b, .Compare x [o] [y] _ => copEq op o && !isSet y && chk B c a x && chk B c b y
  | .cmp2 op op' a b d, .Compare x [o, o'] [y, z] _ => copEq op o && copEq op' o' && !isSet z && chk B c a x && chk B c b y && chk B c d z
  | .isn neg a b, .Compare x [o] [y] _ => decide (o = inOp neg) && !isSet y && chk B c a x && chk B c b y
  | .var i, .Name x _ => isV c x i
  | .idx a i, .Subscript x y _ => plainIx y && chk B c a x && chk B c i y
  | .call f es, .Call (.Name x _) xs [] _ => isG c x && decide (B.fid.lookup x = some f) && chks B c es xs
  | .callk f ord es, .Call (.Name x _) [] ks _ => isG c x && decide (B.fid.lookup x = some f) && ks.all (·.arg.isSome) && kwOk (B.ps f) ord (ks.filterMap (·.arg)) && decide (es.length ≤ SZ) && chks B c es (ks.map (·.value))
  | .bi b es, .Call (.Name x _) xs [] _ => isG c x && decide (x = biName b) && gcOk B b && !xs.isEmpty && chks B c es xs
  | .isi e t, .Call (.Name x _) [y, .Name z _] [] _ => isG c x && isG c z && decide (x = "isinstance") && decide (z = Str.ofString (tyName t)) && chk B c e y
  | .isi2 e ts, .Call (.Name x _) [y, .Tuple zs _ _] [] _ => isG c x && decide (x = "isinstance") && fewT ts && tysOk c ts zs && chk B c e y
  | _, _ => false
termination_by structural e => e
def chks (B : Tb) (c : Ck) : List E → List Expr → Bool
  | [], [] => true
  | e :: es, x :: xs => chk B c e x && chks B c es xs
  | _, _ => false
termination_by structural e => e
/-- .. some of them spread out -/
def chkss (B : Tb) (c : Ck) : List E → List Bool → List Expr → Bool
  | [], [], [] => true
  | e :: es, false :: fl, x :: xs => chk B c e x && chkss B c es fl xs
  | e :: es, true :: fl, .Starred x _ :: xs => chk B c e x && chkss B c es fl xs
  | _, _, _ => false
termination_by structural e => e
def chko (B : Tb) (c : Ck) : Option E → Option Expr → Bool
  | none, none => true
  | some e, some x => chk B c e x
  | _, _ => false
termination_by structural e => e
def chkc (B : Tb) (c : Ck) : Option E → List Expr → Bool
  | none, [] => true
  | some e, [x] => chkT B c e x
  | _, _ => false
termination_by structural e => e
/-- .. as what a loop with the target t walks -/
def chkI (B : Tb) (c : Ck) : E → Expr → Expr → Bool
  | .rng1 b, .Call (.Name x _) [y] [] _, _ => isG c x && decide (x = "range") && chk B c b y
  | .rng a b, .Call (.Name x _) [y, z] [] _, _ => isG c x && decide (x = "range") && chk B c a y && chk B c b z
  | .zip a b, .Call (.Name x _) [y, z] [] _, .Tuple _ _ _ => isG c x && decide (x = "zip") && chk B c a y && chk B c b z
  | .enm a, .Call (.Name x _) [y] [] _, .Tuple _ _ _ => isG c x && decide (x = "enumerate") && chk B c a y
  | .var i, .Name x _, _ => isV c x i
  | .glb y d, .Name x _, _ => decide (y = x) && isG c x && (B.glb.any fun p => decide (p.1 = x) && sameD p.2 d)
  | .tup es, .Tuple xs _ _, _ => decide (es.length ≤ SZ) && chks B c es xs
  | .lst _ es, .List xs _, _ => decide (es.length ≤ SZ) && chks B c es xs
  | .call f es, .Call (.Name x _) xs [] _, _ => isG c x && decide (B.fid.lookup x = some f) && chks B c es xs
  | .callk f ord es, .Call (.Name x _) [] ks _, _ => isG c x && decide (B.fid.lookup x = some f) && ks.all (·.arg.isSome) && kwOk (B.ps f) ord (ks.filterMap (·.arg)) && decide (es.length ≤ SZ) && chks B c es (ks.map (·.value))
  | .idx a i, .Subscript x y _, _ => plainIx y && chk B c a x && chk B c i y
  | .slc a lo hi, .Subscript x (.Slice l h none _) _, _ => chk B c a x && chko B c lo l && chko B c hi h
  | .bin op a b, .BinOp x o y _, _ => opEq op o && chk B c a x && chk B c b y
  | _, _, _ => false
termination_by structural e => e
end
end FV
set_option Elab.async false
set_option linter.all false
set_option maxRecDepth 100000
set_option maxHeartbeats 4000000
/-! Sound3: an expression that is checked does what its tree says. -/
namespace FV
open PySem L2
abbrev XF : D → Store → Prop := fun _ _ => False
/-- a def's promise by the evaluator -/
def spE (K : PySem.W.Frag) (T : Nat → Option Fn) (n f : Nat) : Sp := fun vs H Q _ => ∃ m S k ds, HR K m S H ∧ RelDs K m H ds vs ∧ callw T n f ds S k XF ∧ Po K m H k Q
/-- keyword values, put in the parameters' order (no positional ones) -/
def gk {α : Type} (ord : List Nat) (us ws : List α) : List α := match us with
  | [] => ord.filterMap fun i => ws[i]?
  | _ => []
structure WOk (W : Wd) (T : Nat → Option Fn) (B : Tb) : Prop where
  fn : ∀ x f, B.fid.lookup x = some f → ∃ a fd, W.mg x = some (.ref a) ∧ PySem.W.keepIn W.K (.ref a) = true ∧ Binds W.K fd (B.ps f) [] ∧ (∀ ks ord, kwOk (B.ps f) ord ks = true → KBinds W.K fd (B.ps f) ks (gk ord) (gk ord)) ∧ FnG W.P W.w W.K W.mg W.base W.n a fd (B.ps f) (spE W.K T W.n f)
  bi : ∀ b, b ≠ Bi.gcd → W.mg (biName b) = none
  isi : W.mg "isinstance" = none
  set : W.mg "set" = none
  ty : ∀ t, W.mg (Str.ofString (tyName t)) = none
  range : W.mg "range" = none
  zip : W.mg "zip" = none
  enum : W.mg "enumerate" = none
  gcd : B.gcd = true → W.mg "gcd" = some (.builtin "math.gcd")
  glb : ∀ p ∈ B.glb, ∃ u v, W.mg p.1 = some u ∧ RelV v u ∧ ∀ m H, RelD W.K m H p.2 v
def tE (W : Wd) (T : Nat → Option Fn) (e : E) : TE := fun vσ H Q => ∃ m σ S k, HR W.K m S H ∧ RS W.K m H σ vσ ∧ ev (callw T W.n) XF e false σ S k ∧ Po W.K m H k Q
def PoT (K : PySem.W.Frag) (m : Ms) (H : Hp) (k : D → Store → Prop) (Q : Bool → Hp → Prop) : Prop :=
  ∀ (d : D) (S' : Store) (m' : Ms) (H' : Hp), Ext m H m' H' → HR K m' S' H' → k d S' → ∃ b, d = .bl b ∧ Q b H'
def tT (W : Wd) (T : Nat → Option Fn) (e : E) : TT := fun vσ H Q => ∃ m σ S k, HR W.K m S H ∧ RS W.K m H σ vσ ∧ ev (callw T W.n) XF e true σ S k ∧ PoT W.K m H k Q
def PoS (n : Nat) (K : PySem.W.Frag) (m : Ms) (H : Hp) (k : List D → Store → Prop) (Q : List V → Hp → Prop) : Prop :=
  ∀ (ds : List D) (S' : Store) (m' : Ms) (vs : List V) (H' : Hp), Ext m H m' H' → HR K m' S' H' → RelDs K m' H' ds vs → ds.length = n → k ds S' → Q vs H'
def tA (W : Wd) (T : Nat → Option Fn) (es : List E) : TA := fun vσ H Q => ∃ m σ S k, HR W.K m S H ∧ RS W.K m H σ vσ ∧ evs (callw T W.n) XF es σ S k ∧ PoS es.length W.K m H k Q
def tO (W : Wd) (T : Nat → Option Fn) (e : Option E) : TO := fun vσ H Q => ∃ m σ S k, HR W.K m S H ∧ RS W.K m H σ vσ ∧ evo (callw T W.n) XF e σ S k ∧ ∀ o S' m' H', Ext m H m' H' → HR W.K m' S' H' → k o S' → Q o H'
def tI (W : Wd) (T : Nat → Option Fn) (e : E) : TI := fun vσ H R => ∃ (m : Ms) (σ : Env) (S : Store) (k : Gd → List D → Store → Prop), HR W.K m S H ∧ RS W.K m H σ vσ ∧ ev (callw T W.n) XF e false σ S (fun x S1 => itm x S1 fun g ds => k g ds S1) ∧
  ∀ g ds S' m' H' J, Ext m H m' H' → HR W.K m' S' H' → Src W.K m' H' J g ds → gdP g S' → k g ds S' → R J H'
theorem pe_imp {X : Cx} {e : Expr} {t t' : TE} (h : PE X e t) (w : ∀ σ H Q, t' σ H Q → t σ H Q) : PE X e t' := ⟨fun pins s σ H Q I q => h.run pins s σ H Q I (w _ _ _ q)⟩
theorem pt_imp {X : Cx} {e : Expr} {t t' : TT} (h : PT X e t) (w : ∀ σ H Q, t' σ H Q → t σ H Q) : PT X e t' := ⟨fun pins s σ H Q I q => h.run pins s σ H Q I (w _ _ _ q)⟩
theorem pw_imp {X : Cx} {e : Expr} {t t' : TT} (h : PW X e t) (w : ∀ σ H Q, t' σ H Q → t σ H Q) : PW X e t' := ⟨fun wh pins s σ H Q I q => h.run wh pins s σ H Q I (w _ _ _ q)⟩
theorem pa_imp {X : Cx} {e : List Expr} {t t' : TA} (h : PA X e t) (w : ∀ σ H Q, t' σ H Q → t σ H Q) : PA X e t' := ⟨fun pos pins s σ H Q I q => h.run pos pins s σ H Q I (w _ _ _ q)⟩
theorem po_imp {X : Cx} {e : Option Expr} {t t' : TO} (h : PO X e t) (w : ∀ σ H Q, t' σ H Q → t σ H Q) : PO X e t' := ⟨fun pins s σ H Q I q => h.run pins s σ H Q I (w _ _ _ q)⟩
theorem pi_imp {X : Cx} {tg e : Expr} {t t' : TI} (h : PI X tg e t) (w : ∀ σ H Q, t' σ H Q → t σ H Q) : PI X tg e t' := ⟨fun pins s σ H Q I q => h.run pins s σ H Q I (w _ _ _ q)⟩
theorem asB_of {k : Bool → Store → Prop} {d : D} {S : Store} (h : asB k d S) : ∃ b, d = .bl b ∧ k b S := by
  match d, h with
  | .bl b, h => exact ⟨b, rfl, h⟩
theorem asI_of {k : Int → Store → Prop} {d : D} {S : Store} (h : asI k d S) : ∃ b, d = .int b ∧ k b S := by
  match d, h with
  | .int b, h => exact ⟨b, rfl, h⟩
theorem relB {K : PySem.W.Frag} {m : Ms} {H : Hp} {b : Bool} {v : V} (r : RelD K m H (.bl b) v) : v = .bl b := by cases r; rfl
section
variable {W : Wd} {T : Nat → Option Fn} {B : Tb} {c : Ck} {X : Cx}
theorem At.hu (a : At W c X) : X.A.units + 65 < cLine := by
  have := a.room.un
  omega
theorem At.inC (a : At W c X) (s : Scope) (s0 : Shared) (H : Hp) (C : Addr) (cl : List (Str × Addr)) (fp : List Addr) : At W (inC c s) (X.blk s0 H s (compEnvC s cl C X.env) fp) := by
  refine ⟨a.prog, a.wd, a.k, a.mg, a.bs, a.N, a.nd, ?_, fun x h1 h2 => h1, a.calm, a.room, a.gd, rfl⟩
  show relS s X.env.scope = relS s c.sc
  rw [a.sc]
theorem chk_star {e : E} {x : Expr} {p : Pos} : chk B c e (.Starred x p) = false := by
  cases e <;> simp only [chk]
theorem star_cons {e : E} {x : Expr} {xs : List Expr} {env : PySem.Env} (h : chk B c e x = true) : starEach (x :: xs) env = (false, eval x env) :: starEach xs env := by
  cases x <;> first | rfl | (rw [chk_star] at h; cases h)
theorem star_any {pos : Pos} {env : PySem.Env} : ∀ {es : List E} {xs : List Expr}, chks B c es xs = true → (backTo pos (starEach xs env)).any (·.1) = false
  | [], [], _ => rfl
  | [], _ :: _, h => by simp only [chks] at h; cases h
  | _ :: _, [], h => by simp only [chks] at h; cases h
  | e :: es, x :: xs, h => by
    simp only [chks, Bool.and_eq_true] at h
    rw [star_cons h.1]
    show (false || (backTo pos (starEach xs env)).any (·.1)) = false
    rw [star_any h.2]
    rfl
theorem ev_leaf {C : Hd} {Y : D → Store → Prop} {e : E} {σ : Env} {S : Store} {k : D → Store → Prop} (h : leafE e = true) : ev C Y e true σ S k → ev C Y e false σ S (fun d S' => tv true d S' k) := by
  cases e <;> first | exact id | (cases h)
/-- a plain text as a test: its value's truth -/
theorem pt_leaf (a : At W c X) {e : E} {x : Expr} (hl : leafE e = true) (hx : leafX x = true) (he : PE X x (tE W T e)) : PT X x (tT W T e) := by
  refine pt_imp (pt_truth he (leafX_ok hx)) fun vσ H Q q => ?_
  obtain ⟨m, σ, S, k, hr, rs, he, po⟩ := q
  refine ⟨m, σ, S, _, hr, rs, ev_leaf hl he, fun d S' m' v H' x2 hr2 r2 h => ?_⟩
  obtain ⟨b, h1, h2⟩ := tru_pure (p := fun b => k (.bl b) S') r2 h
  obtain ⟨b', e, q⟩ := po _ _ _ _ x2 hr2 h2
  cases e
  rw [a.k]
  exact ⟨b, h1, q⟩
/-- two parts -/
theorem tOp_of {op : R2} {e1 e2 : E} {vσ : L2.St} {H : Hp} {Q : VK} {m : Ms} {σ : Env} {S : Store} {k : D → D → Store → Prop} (hr : HR W.K m S H) (rs : RS W.K m H σ vσ)
    (h : ev (callw T W.n) XF e1 false σ S fun x S1 => ev (callw T W.n) XF e2 false σ S1 fun y S2 => k x y S2)
    (q : ∀ x y S2 m2 H2 v w, Ext m H m2 H2 → HR W.K m2 S2 H2 → RelD W.K m2 H2 x v → RelD W.K m2 H2 y w → k x y S2 → op v w H2 Q) : tOp op (tE W T e1) (tE W T e2) vσ H Q :=
  ⟨m, σ, S, _, hr, rs, h, fun x S1 m1 v H1 x1 hr1 r1 h1 => ⟨m1, σ, S1, _, hr1, rs.mono x1, h1, fun y S2 m2 w H2 x2 hr2 r2 h2 => q x y S2 m2 H2 v w (x1.trans x2) hr2 (r1.mono x2) r2 h2⟩⟩
end
end FV
set_option Elab.async false
set_option linter.all false
set_option maxRecDepth 100000
set_option maxHeartbeats 4000000
/-! Sound4: comprehensions. -/
namespace FV
open PySem L2
def tC (W : Wd) (T : Nat → Option Fn) (e : Option E) : TT := fun vσ H Q => ∃ m σ S k, HR W.K m S H ∧ RS W.K m H σ vσ ∧ evt (callw T W.n) XF e σ S k ∧ ∀ b S' m' H', Ext m H m' H' → HR W.K m' S' H' → k b S' → Q b H'
section
variable {K : PySem.W.Frag} {m m' : Ms} {H H' : Hp} {S : Store}
theorem RS.monoG {σ : Env} {vσ : L2.St} (x : Gr m H m' H') (r : RS K m H σ vσ) : RS K m' H' σ vσ := ⟨r.len, fun i d e => let ⟨v, h1, h2⟩ := r.at_ i d e; ⟨v, h1, h2.monoG x⟩⟩
/-- a list has been built: it is hidden no longer -/
theorem HR.out_of {n : Ms} {p : Addr} {x : List Addr} (h : HR K n S H) (e : n.x = p :: x) : HR K ⟨n.c, x⟩ S H ∧ ∀ {ds vs}, RelDs K n H ds vs → RelDs K ⟨n.c, x⟩ H ds vs := by
  have mv : ∀ {ds vs}, RelDs K n H ds vs → RelDs K ⟨n.c, x⟩ H ds vs := fun r => RelDs.move (m := n) (n := ⟨n.c, x⟩) (fun _ _ z => z) (fun a vs _ z => ⟨z.1, fun q => z.2 (by rw [e]; exact List.mem_cons_of_mem _ q)⟩) r
  refine ⟨⟨h.len, h.nd, fun l ds a e1 e2 => ?_, fun a ha => h.hid a (by rw [e]; exact List.mem_cons_of_mem _ ha)⟩, mv⟩
  obtain ⟨vs, q, r⟩ := h.at_ l ds a e1 e2
  exact ⟨vs, q, mv r⟩
theorem HR.cell_of {n : Ms} {p : Addr} {x : List Addr} (h : HR K n S H) (e : n.x = p :: x) (hx : p ∉ x) {ds : List D} {vs : List V} (hp : H p = some (.lst vs)) (r : RelDs K n H ds vs) :
    HR K ⟨n.c ++ [p], x⟩ (S ++ [ds]) H := by
  have np : p ∉ n.c := (h.hid p (by rw [e]; exact List.mem_cons_self)).1
  have mv : ∀ {ds vs}, RelDs K n H ds vs → RelDs K ⟨n.c ++ [p], x⟩ H ds vs := fun r => r.move (fun l a z => by
      show (n.c ++ [p])[l]? = some a
      rw [List.getElem?_append_left (List.getElem?_eq_some_iff.mp z).1]; exact z) fun a vs _ z => ⟨fun q => by
        rcases List.mem_append.mp q with q | q
        · exact z.1 q
        · simp at q
          exact z.2 (by rw [e, q]; exact List.mem_cons_self), fun q => z.2 (by rw [e]; exact List.mem_cons_of_mem _ q)⟩
  refine ⟨?_, ?_, fun l es a e1 e2 => ?_, fun a ha => ?_⟩
  · show (n.c ++ [p]).length = _
    rw [List.length_append, List.length_append, h.len]; rfl
  · show (n.c ++ [p]).Nodup
    rw [List.nodup_append]
    refine ⟨h.nd, by simp, fun a ha b hb => ?_⟩
    simp at hb
    intro z
    subst hb z
    exact np ha
  · rw [cl_get] at e1
    have e2 : (n.c ++ [p])[l]? = some a := e2
    by_cases hl : l < S.length
    · rw [List.getElem?_append_left hl] at e1
      rw [List.getElem?_append_left (by rw [h.len]; exact hl)] at e2
      obtain ⟨ws, q, r'⟩ := h.at_ l es a (by rw [cl_get]; exact e1) e2
      exact ⟨ws, q, mv r'⟩
    · have hl2 : l = S.length := by
        have := (List.getElem?_eq_some_iff.mp e1).1
        rw [List.length_append] at this
        simp at this
        omega
      subst hl2
      rw [List.getElem?_append_right (Nat.le_refl _)] at e1
      rw [← h.len, List.getElem?_append_right (Nat.le_refl _)] at e2
      simp at e1 e2
      subst e1 e2
      exact ⟨vs, hp, mv r⟩
  · obtain ⟨z1, z2⟩ := h.hid a (by rw [e]; exact List.mem_cons_of_mem _ ha)
    refine ⟨fun q => ?_, z2⟩
    rcases List.mem_append.mp (show a ∈ n.c ++ [p] from q) with q | q
    · exact z1 q
    · simp at q
      subst q
      exact hx ha
end
theorem folded {i : Expr} {env : PySem.Env} (h : isSet i = false) : ∀ x, foldedSetIterable i env x = pure x := by
  intro x
  cases i <;> first | rfl | (cases h)
/-- a comprehension at its i-th turn -/
def LcW (K : PySem.W.Frag) (m1 : Ms) (H1 : Hp) (p : Addr) (g : Gd) (one : D → Store → (List D → Store → Prop) → Prop) (ds : List D) (KK : List D → Store → Prop) (i μ : Nat) (H2 : Hp) : Prop :=
  μ = ds.length - i ∧ i ≤ ds.length ∧ ∃ (n : Ms) (S : Store) (ad : List D) (av : List V), Gr m1 H1 n H2 ∧ n.x = p :: m1.x ∧ HR K n S H2 ∧ H2 p = some (.lst av) ∧ RelDs K n H2 ad av ∧ ad.length ≤ i ∧
    forC g one (ds.drop i) S (fun zs S => KK (ad ++ zs) S)
section
variable {W : Wd} {T : Nat → Option Fn} {B : Tb} {c : Ck} {X : Cx}
theorem own_snd (own : List Nat) : (ownN c own).map (·.2) = own := by
  unfold ownN
  rw [List.map_map]
  exact List.map_id _
/-- the end of a comprehension -/
theorem lc_end {K : PySem.W.Frag} {m1 n : Ms} {H1 H2 : Hp} {S1 S : Store} {p : Addr} {fr : Bool} {ad : List D} {av : List V} {k : D → Store → Prop} {Q : VK} (hr1 : HR K m1 S1 H1) (hp : H1 p = none) (gr : Gr m1 H1 n H2) (e : n.x = p :: m1.x) (hr : HR K n S H2)
    (hp2 : H2 p = some (.lst av)) (r : RelDs K n H2 ad av) (h : mk fr ad S k) (po : Po K m1 H1 k Q) : Q (.ref p) H2 := by
  obtain ⟨hr', mv⟩ := hr.out_of e
  have np : p ∉ n.c := (hr.hid p (by rw [e]; exact List.mem_cons_self)).1
  have nx : p ∉ m1.x := (hr1.out hp).2
  cases fr with
  | false => exact po (.lst ad) S ⟨n.c, m1.x⟩ _ _ ⟨gr.keep, gr.grow, rfl, gr.dom⟩ hr' (.lst hp2 ⟨np, nx⟩ (mv r)) h
  | true =>
    obtain ⟨t, et, ft⟩ := gr.grow
    refine po (.ref S.length) (S ++ [ad]) ⟨n.c ++ [p], m1.x⟩ _ _ ⟨gr.keep, ⟨t ++ [p], by rw [← List.append_assoc, ← et], fun q hq => ?_⟩, rfl, gr.dom⟩ (hr.cell_of e nx hp2 r) (.ref ?_) h
    · rcases List.mem_append.mp hq with z | z
      · exact ft q z
      · simp at z; rw [z]; exact hp
    · show (n.c ++ [p])[S.length]? = _
      rw [← hr.len, List.getElem?_append_right (Nat.le_refl _)]; simp
/-- an item has been made -/
theorem lc_app {K : PySem.W.Frag} {m1 n n4 : Ms} {H1 H2 H4 : Hp} {S S4 : Store} {p : Addr} {ad : List D} {av : List V} {z : D} {v : V} (hp : H1 p = none) (gr : Gr m1 H1 n H2) (e : n.x = p :: m1.x) (hr : HR K n S H2) (hp2 : H2 p = some (.lst av)) (r : RelDs K n H2 ad av)
    (x4 : Ext n H2 n4 H4) (hr4 : HR K n4 S4 H4) (r4 : RelD K n4 H4 z v) :
    H4 p = some (.lst av) ∧ Gr m1 H1 n4 (upd H4 p (.lst (av ++ [v]))) ∧ n4.x = p :: m1.x ∧ HR K n4 S4 (upd H4 p (.lst (av ++ [v]))) ∧ RelDs K n4 (upd H4 p (.lst (av ++ [v]))) (ad ++ [z]) (av ++ [v]) := by
  have np : p ∉ n.c := (hr.hid p (by rw [e]; exact List.mem_cons_self)).1
  obtain ⟨h4, _⟩ := x4.fix hp2 np
  have e4 : n4.x = p :: m1.x := x4.hid.trans e
  have px : p ∈ n4.x := by rw [e4]; exact List.mem_cons_self
  have g4 := gr.trans x4.gr
  refine ⟨h4, ⟨fun a o ea c => ?_, g4.grow, g4.hid, fun a ha => ?_⟩, e4, hr4.hide h4 px _, (((r.mono x4).append (.cons r4 .nil)).hide h4 px _)⟩
  · rw [upd_ne (ne_of_none ea hp)]; exact g4.keep a o ea c
  · by_cases q : a = p
    · subst q; rw [upd_same]; simp
    · rw [upd_ne q]; exact g4.dom a ha
theorem pts_none {X' : Cx} : PTs X' [] (tC W T none) := by
  refine ⟨fun pins s σ H Q I q => pts_nil.run pins s σ H Q I ?_⟩
  obtain ⟨m, σ', S, k, hr, rs, h, po⟩ := q
  exact po _ _ _ _ .refl hr h
theorem pts_some {X' : Cx} {e : E} {y : Expr} (ht : PT X' y (tT W T e)) : PTs X' [y] (tC W T (some e)) := by
  refine ⟨fun pins s σ H Q I q => (pts_one ht).run pins s σ H Q I ?_⟩
  obtain ⟨m, σ', S, k, hr, rs, h, po⟩ := q
  refine ⟨m, σ', S, _, hr, rs, h, fun d S' m' H' x2 hr2 h2 => ?_⟩
  obtain ⟨b, e, h3⟩ := asB_of h2
  exact ⟨b, e, po b _ _ _ x2 hr2 h3⟩
theorem lc_read (hA : At W c X) {fr : Bool} {own : List Nat} {p : Pt} {it elt : E} {cond : Option E} (hv : ∀ j ∈ varsP p, j ∈ own) {vσ : L2.St} {H : Hp} {Q : VK} (q : tE W T (.lc fr own p it cond elt) vσ H Q) :
    tLc (tI W T it) (tP W.K p) (tC W T cond) (tE W T elt) ((ownN c own).map (·.2)) vσ H Q := by
  rw [own_snd]
  obtain ⟨m, σ, S, k, hr, rs, hev, po⟩ := q
  refine ⟨m, σ, S, _, hr, rs, hev, fun g ds S1 m1 H1 J x1 hr1 src hg h D hD => ?_⟩
  obtain ⟨hsz, h⟩ := h
  generalize hone : (fun (y : FV.D) (S2 : Store) (k2 : List FV.D → Store → Prop) => (match bindP p y (wp0 σ own) with
        | some σ' => evt (callw T W.n) XF cond σ' S2 fun b S3 => brk b (ev (callw T W.n) XF elt false σ' S3 fun z S4 => k2 [z] S4) (k2 [] S3)
        | none => False)) = one at h
  generalize hKK : (fun (zs : List FV.D) (S5 : Store) => mk fr zs S5 fun d S6 => tv false d S6 k) = KK at h
  refine ⟨LcW W.K m1 H1 D g one ds KK, ⟨ds.length, by omega, Nat.zero_le _, ⟨m1.c, D :: m1.x⟩, S1, [], [], gr_begin hD, rfl, hr1.begin hD, upd_same, .nil, Nat.le_refl _, h⟩, fun j μ H2 hw => ?_⟩
  obtain ⟨eμ, hj, n, S2, ad, av, gr, ex, hr2, hp2, r2, hl2, h2⟩ := hw
  by_cases hlt : j < ds.length
  · right
    rw [List.drop_eq_getElem_cons hlt] at h2
    obtain ⟨hg2, h2⟩ := gdo_of h2
    obtain ⟨go, yl⟩ := (src n S2 H2 gr.gh hr2 hg2).1 j _ (List.getElem?_eq_getElem hlt)
    refine ⟨go, LcW W.K m1 H1 D g one ds KK (j + 1) (ds.length - (j + 1)), fun H' hn => ⟨_, by omega, hn⟩, fun y H3 hy => ?_⟩
    obtain ⟨x3, hr3, r3⟩ := yl y H3 hy
    rw [← hone] at h2
    dsimp only at h2
    split at h2
    · rename_i σ' eb
      have rs3 : RS W.K n H3 (wp0 σ own) (L2.wipe vσ own) := (rs.monoG ((x1.gr.trans gr).trans x3.gr)).wipe own
      refine ⟨n, wp0 σ own, _, σ', rs3, r3, eb, fun vσ' rs' si => ⟨?_, ?_⟩⟩
      · rw [si.wipe hv]
        apply List.ext_getElem?
        intro i
        rw [wipe_get, wipe_get, L2.wipe_length]
        split
        · rfl
        · rfl
      · refine ⟨n, σ', S2, _, hr3, rs', h2, fun b S4 n4 H4 x4 hr4 h4 => ?_⟩
        have h4 := brk_c h4
        cases b with
        | true =>
          simp only [if_true] at h4 ⊢
          refine ⟨n4, σ', S4, _, hr4, rs'.mono x4, h4, fun z S5 n5 v H5 x5 hr5 r5 h5 => ?_⟩
          obtain ⟨q1, q2, q3, q4, q5⟩ := lc_app hD gr ex hr2 hp2 r2 ((x3.trans x4).trans x5) hr5 r5
          refine ⟨av, q1, ?_, rfl, hlt, n5, S5, ad ++ [z], av ++ [v], q2, q3, q4, upd_same, q5, by rw [List.length_append]; simp; omega, ?_⟩
          · rw [← r2.length]; exact sz_lt (by omega)
          · rw [hone] at h5
            simp only [List.append_assoc]
            exact h5
        | false =>
          simp only [Bool.false_eq_true, if_false] at h4 ⊢
          have x24 := x3.trans x4
          have np : D ∉ n.c := (hr2.hid D (by rw [ex]; exact List.mem_cons_self)).1
          refine ⟨rfl, hlt, n4, S4, ad, av, gr.trans x24.gr, x24.hid.trans ex, hr4, (x24.fix hp2 np).1, r2.mono x24, by omega, ?_⟩
          rw [hone] at h4
          exact h4
    · exact h2.elim
  · left
    have ej : j = ds.length := by omega
    rw [ej, List.drop_length] at h2
    obtain ⟨hg2, h2⟩ := gdo_of h2
    refine ⟨(src n S2 H2 gr.gh hr2 hg2).2 j (by omega), ?_⟩
    rw [← hKK] at h2
    rw [List.append_nil] at h2
    exact lc_end hr1 hD gr ex hr2 hp2 r2 h2 (po.ext x1)
theorem lc_ok (a : At W c X) {fr : Bool} {own : List Nat} {p : Pt} {it elt : E} {cond : Option E} {x t i : Expr} {ifs : List Expr} {s : Scope} {pos : Pos} (hb : blkC c.N c.sc s (ownN c own) = true) (hset : isSet i = false)
    (hp : chkP (inC c s) p t = true) (hv : ∀ j ∈ varsP p, j ∈ own) (hi : PI X t i (tI W T it)) (hc : ∀ X', At W (inC c s) X' → PTs X' ifs (tC W T cond)) (he : ∀ X', At W (inC c s) X' → PE X' x (tE W T elt)) :
    PE X (.ListComp x [⟨t, i, ifs, 0⟩] s pos) (tE W T (.lc fr own p it cond elt)) := by
  refine pe_imp (pe_lc (own := ownN c own) a.calm (by rw [a.N]; exact a.nd) hi (blkOk_by (by rw [a.N, a.sc]; exact hb)) (fun s0 H C cl fp => pgP (a.inC s s0 H C cl fp) p t hp) (fun s0 H C cl fp => hc _ (a.inC s s0 H C cl fp)) (fun s0 H C cl fp => he _ (a.inC s s0 H C cl fp)) (folded hset)) fun vσ H Q q => lc_read a hv q
/-- a comprehension of two loops at the i-th turn of one of them -/
def LcV (K : PySem.W.Frag) (m1 : Ms) (H1 : Hp) (nb : Ms) (Hb : Hp) (p : Addr) (g : Gd) (one : D → Store → (List D → Store → Prop) → Prop) (ds : List D) (KK : List D → Store → Prop) (b c i μ : Nat) (H2 : Hp) : Prop :=
  μ = ds.length - i ∧ i ≤ ds.length ∧ ∃ (n : Ms) (S : Store) (ad : List D) (av : List V), Gr m1 H1 n H2 ∧ Gh nb Hb n H2 ∧ n.x = p :: m1.x ∧ HR K n S H2 ∧ H2 p = some (.lst av) ∧ RelDs K n H2 ad av ∧ ad.length ≤ b + c * i ∧
    forC g one (ds.drop i) S (fun zs S => KK (ad ++ zs) S)
theorem RS.monoH {K : PySem.W.Frag} {m m' : Ms} {H H' : Hp} {σ : Env} {vσ : L2.St} (x : Gh m H m' H') (r : RS K m H σ vσ) : RS K m' H' σ vσ := ⟨r.len, fun i d e => let ⟨v, h1, h2⟩ := r.at_ i d e; ⟨v, h1, h2.monoH x⟩⟩
theorem wipe_idem (vσ : L2.St) (own : List Nat) : L2.wipe (L2.wipe vσ own) own = L2.wipe vσ own := by
  apply List.ext_getElem?
  intro i
  rw [wipe_get, wipe_get, L2.wipe_length]
  split
  · rfl
  · rfl
theorem lc2_read (hA : At W c X) {fr : Bool} {own own2 : List Nat} {p p2 : Pt} {it it2 elt : E} {cond cond2 : Option E} (hv : ∀ j ∈ varsP p, j ∈ own) (hv2 : ∀ j ∈ varsP p2, j ∈ own2) {vσ : L2.St} {H : Hp} {Q : VK} (q : tE W T (.lc2 fr own p it cond own2 p2 it2 cond2 elt) vσ H Q) :
    tLc2 (tI W T it) (tP W.K p) (tC W T cond) (tI W T it2) (tP W.K p2) (tC W T cond2) (tE W T elt) ((ownN c own).map (·.2)) own2 vσ H Q := by
  rw [own_snd]
  obtain ⟨m, σ, S, k, hr, rs, hev, po⟩ := q
  refine ⟨m, σ, S, _, hr, rs, hev, fun g ds S1 m1 H1 J x1 hr1 src hg h D hD => ?_⟩
  obtain ⟨hsz, h⟩ := h
  generalize hone : (fun (y : FV.D) (S2 : Store) (k2 : List FV.D → Store → Prop) => (match bindP p y (wp0 σ own) with
        | some σ' => evt (callw T W.n) XF cond σ' S2 fun b S3 => brk b (ev (callw T W.n) XF it2 false σ' S3 fun x2 S4 => itm x2 S4 fun g2 ds2 => ds2.length ≤ 1000 ∧
            forC g2 (fun y2 S5 k3 => (match bindP p2 y2 (wp0 σ' own2) with
              | some σ'' => evt (callw T W.n) XF cond2 σ'' S5 fun b2 S6 => brk b2 (ev (callw T W.n) XF elt false σ'' S6 fun z S7 => k3 [z] S7) (k3 [] S6)
              | none => False)) ds2 S4 k2) (k2 [] S3)
        | none => False)) = one at h
  generalize hKK : (fun (zs : List FV.D) (S5 : Store) => mk fr zs S5 fun d S6 => tv false d S6 k) = KK at h
  refine ⟨LcV W.K m1 H1 m1 H1 D g one ds KK 0 1000, ⟨ds.length, by omega, Nat.zero_le _, ⟨m1.c, D :: m1.x⟩, S1, [], [], gr_begin hD, (gr_begin hD).gh, rfl, hr1.begin hD, upd_same, .nil, Nat.zero_le _, h⟩, fun j μ H2 hw => ?_⟩
  obtain ⟨eμ, hj, n, S2, ad, av, gr, _, ex, hr2, hp2, r2, hl2, h2⟩ := hw
  have np : D ∉ n.c := (hr2.hid D (by rw [ex]; exact List.mem_cons_self)).1
  by_cases hlt : j < ds.length
  · right
    rw [List.drop_eq_getElem_cons hlt] at h2
    obtain ⟨hg2, h2⟩ := gdo_of h2
    obtain ⟨go, yl⟩ := (src n S2 H2 gr.gh hr2 hg2).1 j _ (List.getElem?_eq_getElem hlt)
    refine ⟨go, LcV W.K m1 H1 m1 H1 D g one ds KK 0 1000 (j + 1) (ds.length - (j + 1)), fun H' hn => ⟨_, by omega, hn⟩, fun y H3 hy => ?_⟩
    obtain ⟨x3, hr3, r3⟩ := yl y H3 hy
    rw [← hone] at h2
    dsimp only at h2
    split at h2
    · rename_i σ' eb
      have rs3 : RS W.K n H3 (wp0 σ own) (L2.wipe vσ own) := (rs.monoG ((x1.gr.trans gr).trans x3.gr)).wipe own
      refine ⟨n, wp0 σ own, _, σ', rs3, r3, eb, fun vσ' rs' si => ⟨by rw [si.wipe hv]; exact wipe_idem _ _, ?_⟩⟩
      refine ⟨n, σ', S2, _, hr3, rs', h2, fun b S4 n4 H4 x4 hr4 h4 => ?_⟩
      have h4 := brk_c h4
      cases b with
      | true =>
        simp only [if_true] at h4 ⊢
        refine ⟨n4, σ', S4, _, hr4, rs'.mono x4, h4, fun g2 ds2 S5 n5 H5 J1 x5 hr5 src2 hgd2 h5 => ?_⟩
        obtain ⟨hsz2, h5⟩ := h5
        rw [hone] at h5
        generalize hone2 : (fun (y2 : FV.D) (S5 : Store) (k3 : List FV.D → Store → Prop) => (match bindP p2 y2 (wp0 σ' own2) with
              | some σ'' => evt (callw T W.n) XF cond2 σ'' S5 fun b2 S6 => brk b2 (ev (callw T W.n) XF elt false σ'' S6 fun z S7 => k3 [z] S7) (k3 [] S6)
              | none => False)) = one2 at h5
        have x25 := (x3.trans x4).trans x5
        have hp5 := (x25.fix hp2 np).1
        have ex5 : n5.x = D :: m1.x := x25.hid.trans ex
        have mem5 : D ∈ n5.x := by rw [ex5]; exact List.mem_cons_self
        have rs5 : RS W.K n5 H5 σ' vσ' := rs'.mono (x4.trans x5)
        simp only [← List.append_assoc] at h5
        refine ⟨LcV W.K m1 H1 n5 H5 D g2 one2 ds2 (fun L S => forC g one (ds.drop (j + 1)) S fun zs S2 => KK (L ++ zs) S2) (1000 * j) 1, ⟨ds2.length, by omega, Nat.zero_le _, n5, S5, ad, av, gr.trans x25.gr, (Ext.refl).gr.gh, ex5, hr5, hp5, r2.mono x25, by omega, h5⟩, fun i2 μ2 H6 hw6 => ?_⟩
        obtain ⟨eμ6, hj6, n6, S6, ad6, av6, gr6, gh6, ex6, hr6, hp6, r6, hl6, h6⟩ := hw6
        have np6 : D ∉ n6.c := (hr6.hid D (by rw [ex6]; exact List.mem_cons_self)).1
        by_cases hlt2 : i2 < ds2.length
        · right
          rw [List.drop_eq_getElem_cons hlt2] at h6
          obtain ⟨hg6, h6⟩ := gdo_of h6
          obtain ⟨go2, yl2⟩ := (src2 n6 S6 H6 gh6 hr6 hg6).1 i2 _ (List.getElem?_eq_getElem hlt2)
          refine ⟨go2, LcV W.K m1 H1 n5 H5 D g2 one2 ds2 (fun L S => forC g one (ds.drop (j + 1)) S fun zs S2 => KK (L ++ zs) S2) (1000 * j) 1 (i2 + 1) (ds2.length - (i2 + 1)), fun H' hn => ⟨_, by omega, hn⟩, fun y2 H7 hy2 => ?_⟩
          obtain ⟨x7, hr7, r7⟩ := yl2 y2 H7 hy2
          rw [← hone2] at h6
          dsimp only at h6
          split at h6
          · rename_i σ'' eb2
            have rs7 : RS W.K n6 H7 (wp0 σ' own2) (L2.wipe vσ' own2) := (rs5.monoH (gh6.trans x7.gr.gh)).wipe own2
            refine ⟨n6, wp0 σ' own2, _, σ'', rs7, r7, eb2, fun vσ'' rs'' si2 => ⟨by rw [si2.wipe hv2]; exact wipe_idem _ _, ?_⟩⟩
            refine ⟨n6, σ'', S6, _, hr7, rs'', h6, fun b2 S8 n8 H8 x8 hr8 h8 => ?_⟩
            have h8 := brk_c h8
            cases b2 with
            | true =>
              simp only [if_true] at h8 ⊢
              refine ⟨n8, σ'', S8, _, hr8, rs''.mono x8, h8, fun z S9 n9 v H9 x9 hr9 r9 h9 => ?_⟩
              have x69 := (x7.trans x8).trans x9
              obtain ⟨q1, q2, q3, q4, q5⟩ := lc_app hD gr6 ex6 hr6 hp6 r6 x69 hr9 r9
              refine ⟨av6, q1, ?_, rfl, hlt2, n9, S9, ad6 ++ [z], av6 ++ [v], q2, (gh6.trans x69.gr.gh).upd mem5 ⟨_, hp5⟩, q3, q4, upd_same, q5, by rw [List.length_append]; simp; omega, ?_⟩
              · rw [← r6.length]; exact sz_lt (by unfold SZ; omega)
              · rw [hone2] at h9
                simp only [List.append_assoc] at h9 ⊢
                exact h9
            | false =>
              simp only [Bool.false_eq_true, if_false] at h8 ⊢
              have x68 := x7.trans x8
              refine ⟨rfl, hlt2, n8, S8, ad6, av6, gr6.trans x68.gr, gh6.trans x68.gr.gh, x68.hid.trans ex6, hr8, (x68.fix hp6 np6).1, r6.mono x68, by omega, ?_⟩
              rw [hone2] at h8
              exact h8
          · exact h6.elim
        · left
          have ej2 : i2 = ds2.length := by omega
          rw [ej2, List.drop_length] at h6
          obtain ⟨hg6, h6⟩ := gdo_of h6
          refine ⟨(src2 n6 S6 H6 gh6 hr6 hg6).2 i2 (by omega), rfl, hlt, n6, S6, ad6, av6, gr6, gr6.gh, ex6, hr6, hp6, r6, by omega, ?_⟩
          rw [List.append_nil] at h6
          exact h6
      | false =>
        simp only [Bool.false_eq_true, if_false] at h4 ⊢
        have x24 := x3.trans x4
        refine ⟨rfl, hlt, n4, S4, ad, av, gr.trans x24.gr, (gr.trans x24.gr).gh, x24.hid.trans ex, hr4, (x24.fix hp2 np).1, r2.mono x24, by omega, ?_⟩
        rw [hone] at h4
        exact h4
    · exact h2.elim
  · left
    have ej : j = ds.length := by omega
    rw [ej, List.drop_length] at h2
    obtain ⟨hg2, h2⟩ := gdo_of h2
    refine ⟨(src n S2 H2 gr.gh hr2 hg2).2 j (by omega), ?_⟩
    rw [← hKK] at h2
    rw [List.append_nil] at h2
    exact lc_end hr1 hD gr ex hr2 hp2 r2 h2 (po.ext x1)
theorem lc2_ok (a : At W c X) {fr : Bool} {own own2 : List Nat} {p p2 : Pt} {it it2 elt : E} {cond cond2 : Option E} {x t i t2 i2 : Expr} {ifs ifs2 : List Expr} {s : Scope} {pos : Pos} (hb : blkC c.N c.sc s (ownN c own) = true) (hset : isSet i = false) (hset2 : isSet i2 = false)
    (hp : chkP (inC c s) p t = true) (hv : ∀ j ∈ varsP p, j ∈ own) (hp2 : chkP (inC c s) p2 t2 = true) (hv2 : ∀ j ∈ varsP p2, j ∈ own2) (ho : ∀ j ∈ own2, j ∈ own) (hi : PI X t i (tI W T it)) (hc : ∀ X', At W (inC c s) X' → PTs X' ifs (tC W T cond)) (hi2 : ∀ X', At W (inC c s) X' → PI X' t2 i2 (tI W T it2)) (hc2 : ∀ X', At W (inC c s) X' → PTs X' ifs2 (tC W T cond2)) (he : ∀ X', At W (inC c s) X' → PE X' x (tE W T elt)) :
    PE X (.ListComp x [⟨t, i, ifs, 0⟩, ⟨t2, i2, ifs2, 0⟩] s pos) (tE W T (.lc2 fr own p it cond own2 p2 it2 cond2 elt)) := by
  refine pe_imp (pe_lc2 (own := ownN c own) (vs1 := own2) a.calm (by rw [a.N]; exact a.nd) hi (blkOk_by (by rw [a.N, a.sc]; exact hb)) (by rw [own_snd]; exact ho) (fun s0 H C cl fp => pgP (a.inC s s0 H C cl fp) p t hp) (fun s0 H C cl fp => hc _ (a.inC s s0 H C cl fp)) (fun s0 H C cl fp => hi2 _ (a.inC s s0 H C cl fp)) (fun s0 H C cl fp => pgP (a.inC s s0 H C cl fp) p2 t2 hp2) (fun s0 H C cl fp => hc2 _ (a.inC s s0 H C cl fp)) (fun s0 H C cl fp => he _ (a.inC s s0 H C cl fp)) (folded hset) (fun env x => folded (env := env) hset2 x)) fun vσ H Q q => lc2_read a hv hv2 q
end
end FV
set_option Elab.async false
set_option linter.all false
set_option maxRecDepth 100000
set_option maxHeartbeats 4000000
/-! Sound5: expressions, one form at a time. -/
namespace FV
open PySem L2
section
variable {W : Wd} {T : Nat → Option Fn} {B : Tb} {c : Ck} {X : Cx} {x y z : Expr} {a b e : E} {pos : Pos}
theorem var_ok (hA : At W c X) {i : Nat} {n : Str} (h : isV c n i = true) : PE X (.Name n pos) (tE W T (.var i)) := by
  obtain ⟨h1, h2, h3, h4⟩ := hA.vis h
  refine pe_imp (pe_var h1 h2 h3 h4) fun vσ H Q q => ?_
  obtain ⟨m, σ, S, k, hr, rs, h, po⟩ := q
  have h : (match lk σ i with | some d => tv false d S k | none => False) := h
  split at h
  · rename_i d e
    obtain ⟨v, g1, g2⟩ := rs.at_ i d e
    exact ⟨v, g1, po.done hr g2 h⟩
  · exact h.elim
theorem cst_ok {d : D} {k : Const} {j : Nat} (h : cstB d k = true) : PE X (.Constant k j pos) (tE W T (.cst d)) := by
  cases d <;> cases k <;> try (exact absurd (show false = true from h) Bool.false_ne_true)
  · exact pe_imp pe_non fun vσ H Q ⟨m, σ, S, k, hr, rs, h, po⟩ => po.done hr .non h
  · rename_i b b'
    have e : b = b' := eq_of_beq h
    subst e
    exact pe_imp pe_bl fun vσ H Q ⟨m, σ, S, k, hr, rs, h, po⟩ => po.done hr (.bl _) h
  · rename_i i j
    have e : i = j := of_decide_eq_true h
    subst e
    exact pe_imp pe_int fun vσ H Q ⟨m, σ, S, k, hr, rs, h, po⟩ => po.done hr (.int _) h
  · rename_i i j
    have e : i = j := of_decide_eq_true h
    subst e
    exact pe_imp pe_str fun vσ H Q ⟨m, σ, S, k, hr, rs, h, po⟩ => po.done hr (.str _) h
theorem glb_ok (w : WOk W T B) (hA : At W c X) {n n' : Str} {d : D} (h : (decide (n' = n) && isG c n && (B.glb.any fun p => decide (p.1 = n) && sameD p.2 d)) = true) : PE X (.Name n pos) (tE W T (.glb n' d)) := by
  simp only [Bool.and_eq_true] at h
  obtain ⟨⟨_, h1⟩, h2⟩ := h
  obtain ⟨p, hp, h3⟩ := List.any_eq_true.mp h2
  simp only [Bool.and_eq_true, decide_eq_true_eq] at h3
  obtain ⟨u, v, g1, g2, g3⟩ := w.glb p hp
  obtain ⟨G1, G2⟩ := hA.gl h1
  have ed := sameD_eq _ _ h3.2
  refine pe_imp (pe_glob G1 (by rw [hA.mg, ← h3.1]; exact g1) g2 G2) fun vσ H Q ⟨m, σ, S, k, hr, rs, h, po⟩ => ?_
  exact po.done hr (by rw [← ed]; exact g3 m H) h
theorem bin_ok (hA : At W c X) {op : Bop} {o : Operator} (ho : opEq op o = true) (h1 : PE X x (tE W T a)) (h2 : PE X y (tE W T b)) : PE X (.BinOp x o y pos) (tE W T (.bin op a b)) := by
  rw [opEq_ok ho]
  refine pe_imp (pe_op (bop_ok op) h1 h2) fun vσ H Q ⟨m, σ, S, k, hr, rs, h, po⟩ => ?_
  refine tOp_of hr rs h fun d e S2 m2 H2 v w x2 hr2 r1 r2 h2 => ?_
  rw [hA.k]
  exact ⟨m2, S2, k, d, e, hr2, r1, r2, po.ext x2, h2⟩
theorem neg_ok (h1 : PE X x (tE W T a)) : PE X (.UnaryOp .USub x pos) (tE W T (.neg a)) := by
  refine pe_imp (pe_un un_neg h1) fun vσ H Q ⟨m, σ, S, k, hr, rs, h, po⟩ => ?_
  refine ⟨m, σ, S, _, hr, rs, h, fun d S2 m2 v H2 x2 hr2 r2 h2 => ?_⟩
  obtain ⟨i, e, h3⟩ := asI_of h2
  subst e
  cases r2
  exact ⟨i, rfl, (po.ext x2).done hr2 (.int _) h3⟩
/-- a truth as a value -/
theorem cmpv_ok (hA : At W c X) {op : Cop} {o : CmpOp} (ho : copEq op o = true) (hs : isSet y = false) (h1 : PE X x (tE W T a)) (h2 : PE X y (tE W T b)) : PE X (.Compare x [o] [y] pos) (tE W T (.cmp op a b)) := by
  rw [copEq_ok ho]
  refine pe_imp (pe_cmpR (cop_ok hA.hu op) h1 h2 (marks hs)) fun vσ H Q ⟨m, σ, S, k, hr, rs, h, po⟩ => ?_
  refine tOp_of hr rs h fun d e S2 m2 H2 v w x2 hr2 r1 r2 h2 => ?_
  rw [hA.k]
  exact ⟨m2, S2, k, d, e, hr2, r1, r2, po.ext x2, h2⟩
theorem cmpt_ok (hA : At W c X) {op : Cop} {o : CmpOp} (ho : copEq op o = true) (hs : isSet y = false) (h1 : PE X x (tE W T a)) (h2 : PE X y (tE W T b)) : PT X (.Compare x [o] [y] pos) (tT W T (.cmp op a b)) := by
  rw [copEq_ok ho]
  refine pt_imp (pt_cmpR (cop_ok hA.hu op) h1 h2 (marks hs)) fun vσ H Q ⟨m, σ, S, k, hr, rs, h, po⟩ => ?_
  refine tOp_of hr rs h fun d e S2 m2 H2 v w x2 hr2 r1 r2 h2 => ?_
  rw [hA.k]
  refine ⟨m2, S2, k, d, e, hr2, r1, r2, fun d' S' m' v' H' x3 hr3 r3 h3 => ?_, h2⟩
  obtain ⟨z, e, q⟩ := po d' S' m' H' (x2.trans x3) hr3 h3
  subst e
  exact ⟨z, relB r3, q⟩
theorem isnv_ok (hA : At W c X) {neg : Bool} (hs : isSet y = false) (h1 : PE X x (tE W T a)) (h2 : PE X y (tE W T b)) : PE X (.Compare x [inOp neg] [y] pos) (tE W T (.isn neg a b)) := by
  refine pe_imp (pe_cmpR (isn_ok hA.hu neg) h1 h2 (marks hs)) fun vσ H Q ⟨m, σ, S, k, hr, rs, h, po⟩ => ?_
  refine tOp_of hr rs h fun d e S2 m2 H2 v w x2 hr2 r1 r2 h2 => ?_
  rw [hA.k]
  exact ⟨m2, S2, k, d, e, hr2, r1, r2, po.ext x2, h2⟩
theorem isnt_ok (hA : At W c X) {neg : Bool} (hs : isSet y = false) (h1 : PE X x (tE W T a)) (h2 : PE X y (tE W T b)) : PT X (.Compare x [inOp neg] [y] pos) (tT W T (.isn neg a b)) := by
  refine pt_imp (pt_cmpR (isn_ok hA.hu neg) h1 h2 (marks hs)) fun vσ H Q ⟨m, σ, S, k, hr, rs, h, po⟩ => ?_
  refine tOp_of hr rs h fun d e S2 m2 H2 v w x2 hr2 r1 r2 h2 => ?_
  rw [hA.k]
  refine ⟨m2, S2, k, d, e, hr2, r1, r2, fun d' S' m' v' H' x3 hr3 r3 h3 => ?_, h2⟩
  obtain ⟨z, e, q⟩ := po d' S' m' H' (x2.trans x3) hr3 h3
  subst e
  exact ⟨z, relB r3, q⟩
theorem chain_of (hA : At W c X) {op op' : Cop} {d : E} {vσ : L2.St} {H : Hp} {Q : VK} {m : Ms} {σ : Env} {S : Store} {k : D → Store → Prop} (hr : HR W.K m S H) (rs : RS W.K m H σ vσ) (h : ev (callw T W.n) XF (.cmp2 op op' a b d) false σ S k)
    (po : Po W.K m H k Q) : tChain (rC X.K op) (rC X.K op') (tE W T a) (tE W T b) (tE W T d) vσ H Q := by
  rw [hA.k]
  refine ⟨m, σ, S, _, hr, rs, h, fun d1 S1 m1 v1 H1 x1 hr1 r1 h1 => ⟨m1, σ, S1, _, hr1, rs.mono x1, h1, fun d2 S2 m2 v2 H2 x2 hr2 r2 h2 => ?_⟩⟩
  refine ⟨m2, S2, asB (fun z S' => brk z (ev (callw T W.n) XF d false σ S' fun w S4 => cop op' d2 w fun z' => k (.bl z') S4) (k (.bl false) S')), d1, d2, hr2, r1.mono x2, r2, fun d3 S3 m3 v3 H3 x3 hr3 r3 h3 => ?_, h2⟩
  obtain ⟨z, e, h4⟩ := asB_of h3
  subst e
  refine ⟨z, relB r3, ?_⟩
  have x13 := (x1.trans x2).trans x3
  cases z with
  | true =>
    simp only [if_true]
    exact ⟨m3, σ, S3, _, hr3, rs.mono x13, h4, fun d4 S4 m4 v4 H4 x4 hr4 r4 h5 => ⟨m4, S4, k, d2, d4, hr4, r2.mono (x3.trans x4), r4, po.ext (x13.trans x4), h5⟩⟩
  | false =>
    simp only [Bool.false_eq_true, if_false]
    exact (po.ext x13).done hr3 (.bl _) h4
theorem cmp2v_ok (hA : At W c X) {op op' : Cop} {o o' : CmpOp} {d : E} (ho : copEq op o = true) (ho' : copEq op' o' = true) (hs : isSet z = false) (h1 : PE X x (tE W T a)) (h2 : PE X y (tE W T b)) (h3 : PE X z (tE W T d)) :
    PE X (.Compare x [o, o'] [y, z] pos) (tE W T (.cmp2 op op' a b d)) := by
  rw [copEq_ok ho, copEq_ok ho']
  exact pe_imp (pe_chain (cop_ok hA.hu op) (cop_ok hA.hu op') h1 h2 h3 (marks hs)) fun vσ H Q ⟨m, σ, S, k, hr, rs, h, po⟩ => chain_of hA hr rs h po
theorem cmp2t_ok (hA : At W c X) {op op' : Cop} {o o' : CmpOp} {d : E} (ho : copEq op o = true) (ho' : copEq op' o' = true) (hs : isSet z = false) (h1 : PE X x (tE W T a)) (h2 : PE X y (tE W T b)) (h3 : PE X z (tE W T d)) :
    PT X (.Compare x [o, o'] [y, z] pos) (tT W T (.cmp2 op op' a b d)) := by
  rw [copEq_ok ho, copEq_ok ho']
  refine pt_imp (pt_chain (cop_ok hA.hu op) (cop_ok hA.hu op') h1 h2 h3 (marks hs)) fun vσ H Q ⟨m, σ, S, k, hr, rs, h, po⟩ => ?_
  refine chain_of hA hr rs h fun d' S' m' v' H' x3 hr3 r3 h3 => ?_
  obtain ⟨z, e, q⟩ := po d' S' m' H' x3 hr3 h3
  subst e
  exact ⟨z, relB r3, q⟩
/-! ### and, or, not -/
theorem andv_of {ys : List Expr} (h1 : PE X x (tE W T a)) (h2 : PE X (.BoolOp .And (y :: ys) pos) (tE W T b)) : PE X (.BoolOp .And (x :: y :: ys) pos) (tE W T (.and a b)) := by
  refine pe_imp (pe_and h1 h2) fun vσ H Q ⟨m, σ, S, k, hr, rs, h, po⟩ => ?_
  refine ⟨m, σ, S, _, hr, rs, h, fun d S2 m2 v H2 x2 hr2 r2 h2 => ?_⟩
  obtain ⟨z, e, h3⟩ := asB_of h2
  subst e
  refine ⟨z, relB r2, ?_⟩
  cases z with
  | true => simp only [if_true]; exact ⟨m2, σ, S2, k, hr2, rs.mono x2, h3, po.ext x2⟩
  | false => simp only [Bool.false_eq_true, if_false]; exact (po.ext x2).done hr2 (.bl _) h3
theorem orv_of {ys : List Expr} (h1 : PE X x (tE W T a)) (h2 : PE X (.BoolOp .Or (y :: ys) pos) (tE W T b)) : PE X (.BoolOp .Or (x :: y :: ys) pos) (tE W T (.or a b)) := by
  refine pe_imp (pe_or h1 h2) fun vσ H Q ⟨m, σ, S, k, hr, rs, h, po⟩ => ?_
  refine ⟨m, σ, S, _, hr, rs, h, fun d S2 m2 v H2 x2 hr2 r2 h2 => ?_⟩
  obtain ⟨z, e, h3⟩ := asB_of h2
  subst e
  refine ⟨z, relB r2, ?_⟩
  cases z with
  | true => simp only [if_true]; exact (po.ext x2).done hr2 (.bl _) h3
  | false => simp only [Bool.false_eq_true, if_false]; exact ⟨m2, σ, S2, k, hr2, rs.mono x2, h3, po.ext x2⟩
theorem PoT.ext {K : PySem.W.Frag} {m m' : Ms} {H H' : Hp} {k : D → Store → Prop} {Q : Bool → Hp → Prop} (p : PoT K m H k Q) (x : Ext m H m' H') : PoT K m' H' k Q := fun d S2 m2 H2 x2 hr hk => p d S2 m2 H2 (x.trans x2) hr hk
theorem PoT.done {K : PySem.W.Frag} {m : Ms} {H : Hp} {S : Store} {k : D → Store → Prop} {Q : Bool → Hp → Prop} (p : PoT K m H k Q) (hr : HR K m S H) {b : Bool} (hk : k (.bl b) S) : Q b H := by
  obtain ⟨b', e, q⟩ := p _ _ _ _ .refl hr hk
  cases e
  exact q
theorem andw_of {ys : List Expr} (h1 : PT X x (tT W T a)) (h2 : PW X (.BoolOp .And (y :: ys) pos) (tT W T b)) : PW X (.BoolOp .And (x :: y :: ys) pos) (tT W T (.and a b)) := by
  refine pw_imp (pw_and h1 h2) fun vσ H Q ⟨m, σ, S, k, hr, rs, h, po⟩ => ?_
  refine ⟨m, σ, S, _, hr, rs, h, fun d S2 m2 H2 x2 hr2 h2 => ?_⟩
  obtain ⟨z, e, h3⟩ := asB_of h2
  refine ⟨z, e, ?_⟩
  cases z with
  | true => simp only [if_true]; exact ⟨m2, σ, S2, k, hr2, rs.mono x2, h3, po.ext x2⟩
  | false => simp only [Bool.false_eq_true, if_false]; exact (po.ext x2).done hr2 h3
theorem orw_of {ys : List Expr} (h1 : PT X x (tT W T a)) (h2 : PW X (.BoolOp .Or (y :: ys) pos) (tT W T b)) : PW X (.BoolOp .Or (x :: y :: ys) pos) (tT W T (.or a b)) := by
  refine pw_imp (pw_or h1 h2) fun vσ H Q ⟨m, σ, S, k, hr, rs, h, po⟩ => ?_
  refine ⟨m, σ, S, _, hr, rs, h, fun d S2 m2 H2 x2 hr2 h2 => ?_⟩
  obtain ⟨z, e, h3⟩ := asB_of h2
  refine ⟨z, e, ?_⟩
  cases z with
  | true => simp only [if_true]; exact (po.ext x2).done hr2 h3
  | false => simp only [Bool.false_eq_true, if_false]; exact ⟨m2, σ, S2, k, hr2, rs.mono x2, h3, po.ext x2⟩
theorem nott_of (h1 : PT X x (tT W T a)) : PT X (.UnaryOp .Not x pos) (tT W T (.not a)) := by
  refine pt_imp (pt_not h1) fun vσ H Q ⟨m, σ, S, k, hr, rs, h, po⟩ => ?_
  refine ⟨m, σ, S, _, hr, rs, h, fun d S2 m2 H2 x2 hr2 h2 => ?_⟩
  obtain ⟨z, e, h3⟩ := asB_of h2
  exact ⟨z, e, (po.ext x2).done hr2 h3⟩
theorem notv_of (h1 : PE X x (tE W T a)) : PE X (.UnaryOp .Not x pos) (tE W T (.not a)) := by
  refine pe_imp (pe_not h1) fun vσ H Q ⟨m, σ, S, k, hr, rs, h, po⟩ => ?_
  refine ⟨m, σ, S, _, hr, rs, h, fun d S2 m2 v H2 x2 hr2 r2 h2 => ?_⟩
  obtain ⟨z, e, h3⟩ := asB_of h2
  subst e
  exact ⟨z, relB r2, (po.ext x2).done hr2 (.bl _) h3⟩
theorem ite_of (hc : PT X z (tT W T e)) (h1 : PE X x (tE W T a)) (h2 : PE X y (tE W T b)) : PE X (.IfExp z x y pos) (tE W T (.ite e a b)) := by
  refine pe_imp (pe_ifExp hc h1 h2) fun vσ H Q ⟨m, σ, S, k, hr, rs, h, po⟩ => ?_
  refine ⟨m, σ, S, _, hr, rs, h, fun d S2 m2 H2 x2 hr2 h2 => ?_⟩
  obtain ⟨z, e, h3⟩ := asB_of h2
  refine ⟨z, e, ?_⟩
  cases z with
  | true => simp only [if_true]; exact ⟨m2, σ, S2, k, hr2, rs.mono x2, h3, po.ext x2⟩
  | false => simp only [Bool.false_eq_true, if_false]; exact ⟨m2, σ, S2, k, hr2, rs.mono x2, h3, po.ext x2⟩
/-! ### displays, items, slices -/
theorem PoS.ext {n : Nat} {K : PySem.W.Frag} {m m' : Ms} {H H' : Hp} {k : List D → Store → Prop} {Q : List V → Hp → Prop} (p : PoS n K m H k Q) (x : Ext m H m' H') : PoS n K m' H' k Q := fun d S2 m2 v H2 x2 hr r hl hk => p d S2 m2 v H2 (x.trans x2) hr r hl hk
theorem nil_ok : PA X [] (tA W T []) := pa_imp pa_nil fun vσ H Q ⟨m, σ, S, k, hr, rs, h, po⟩ => po [] S m [] H .refl hr .nil rfl h
theorem cons_ok {es : List E} {xs : List Expr} (hs : ∀ env, starEach (x :: xs) env = (false, eval x env) :: starEach xs env) (h1 : PE X x (tE W T e)) (h2 : PA X xs (tA W T es)) : PA X (x :: xs) (tA W T (e :: es)) := by
  refine pa_imp (pa_cons h1 h2 (hs _)) fun vσ H Q ⟨m, σ, S, k, hr, rs, h, po⟩ => ?_
  exact ⟨m, σ, S, _, hr, rs, h, fun d S1 m1 v H1 x1 hr1 r1 h1 => ⟨m1, σ, S1, _, hr1, rs.mono x1, h1, fun ds S2 m2 vs H2 x2 hr2 r2 hl h2 => po (d :: ds) S2 m2 (v :: vs) H2 (x1.trans x2) hr2 (.cons (r1.mono x2) r2) (by rw [List.length_cons, List.length_cons, hl]) h2⟩⟩
theorem nilk_ok : PK X [] (tA W T []) := ⟨fun pos pins s σ H Q I q => pk_nil.run pos pins s σ H Q I (let ⟨m, _, S, _, hr, _, h, po⟩ := q; po [] S m [] H .refl hr .nil rfl h)⟩
theorem consk_ok {es : List E} {kws : List Keyword} {nm : Option Str} {kp : Pos} (h1 : PE X x (tE W T e)) (h2 : PK X kws (tA W T es)) : PK X (⟨nm, x, kp⟩ :: kws) (tA W T (e :: es)) := by
  refine ⟨fun pos pins s vσ H Q I ⟨m, σ, S, k, hr, rs, h, po⟩ => (pk_cons h1 h2).run pos pins s vσ H Q I ?_⟩
  exact ⟨m, σ, S, _, hr, rs, h, fun d S1 m1 v H1 x1 hr1 r1 h1 => ⟨m1, σ, S1, _, hr1, rs.mono x1, h1, fun ds S2 m2 vs H2 x2 hr2 r2 hl h2 => po (d :: ds) S2 m2 (v :: vs) H2 (x1.trans x2) hr2 (.cons (r1.mono x2) r2) (by rw [List.length_cons, List.length_cons, hl]) h2⟩⟩
theorem tup_ok {es : List E} {xs : List Expr} {j : Nat} (hl : es.length ≤ SZ) (h1 : PA X xs (tA W T es)) : PE X (.Tuple xs j pos) (tE W T (.tup es)) := by
  refine pe_imp (pe_tup h1) fun vσ H Q ⟨m, σ, S, k, hr, rs, h, po⟩ => ?_
  refine ⟨m, σ, S, _, hr, rs, h, fun ds S1 m1 vs H1 x1 hr1 r1 hd h1 => ⟨?_, fun p hp => (po.ext x1).tup hr1 r1 h1 hp⟩⟩
  rw [← r1.length, hd]
  exact sz_line hl
/-- some items spread out -/
def tAS (W : Wd) (T : Nat → Option Fn) (fl : List Bool) (es : List E) : TA := fun vσ H Q => ∃ (m : Ms) (σ : Env) (S : Store) (k : List FV.D → Store → Prop), HR W.K m S H ∧ RS W.K m H σ vσ ∧ evss (callw T W.n) XF es fl σ S k ∧
  ∀ (zs : List FV.D) (S' : Store) (m' : Ms) (vs : List V) (H' : Hp), Ext m H m' H' → HR W.K m' S' H' → RelDs W.K m' H' zs vs → k zs S' → Q vs H'
theorem nils_ok : PA X [] (tAS W T [] []) := pa_imp pa_nil fun vσ H Q ⟨m, σ, S, k, hr, rs, h, po⟩ => po [] S m [] H .refl hr .nil h
theorem conss_ok {es : List E} {xs : List Expr} {fl : List Bool} (hs : ∀ env, starEach (x :: xs) env = (false, eval x env) :: starEach xs env) (h1 : PE X x (tE W T e)) (h2 : PA X xs (tAS W T fl es)) : PA X (x :: xs) (tAS W T (false :: fl) (e :: es)) := by
  refine pa_imp (pa_cons h1 h2 (hs _)) fun vσ H Q ⟨m, σ, S, k, hr, rs, h, po⟩ => ?_
  exact ⟨m, σ, S, _, hr, rs, h, fun d S1 m1 v H1 x1 hr1 r1 h1 => ⟨m1, σ, S1, _, hr1, rs.mono x1, h1, fun ds S2 m2 vs H2 x2 hr2 r2 h2 => po (d :: ds) S2 m2 (v :: vs) H2 (x1.trans x2) hr2 (.cons (r1.mono x2) r2) h2⟩⟩
theorem starc_ok (hA : At W c X) {es : List E} {xs : List Expr} {fl : List Bool} {sp : Pos} (h1 : PE X x (tE W T e)) (h2 : PA X xs (tAS W T fl es)) : PA X (.Starred x sp :: xs) (tAS W T (true :: fl) (e :: es)) := by
  refine pa_imp (StX.pa_star h1 h2 rfl) fun vσ H Q ⟨m, σ, S, k, hr, rs, h, po⟩ => ?_
  refine ⟨m, σ, S, _, hr, rs, h, fun d S1 m1 v H1 x1 hr1 r1 h1 => ?_⟩
  have go : ∀ (a : Addr) (ys : List FV.D) (ws : List V), v = .ref a → (SqT X.K H1 a ws ∨ SqL X.K H1 a ws) → RelDs W.K m1 H1 ys ws → evss (callw T W.n) XF es fl σ S1 (fun r S2 => k (ys ++ r) S2) → ∃ p xs_1, v = V.ref p ∧ (SqT X.K H1 p xs_1 ∨ SqL X.K H1 p xs_1) ∧ tAS W T fl es vσ H1 fun ys H2 => Q (xs_1 ++ ys) H2 := fun a ys ws e1 e2 r h2 =>
    ⟨a, ws, e1, e2, m1, σ, S1, fun r S2 => k (ys ++ r) S2, hr1, rs.mono x1, h2, fun zs S2 m2 vs H2 x2 hr2 r2 h3 => po (ys ++ zs) S2 m2 (ws ++ vs) H2 (x1.trans x2) hr2 ((r.mono x2).append r2) h3⟩
  cases r1 with
  | tup hs r => exact go _ _ _ rfl (.inl (by rw [hA.k]; exact hs)) r h1
  | lst hs na r => exact go _ _ _ rfl (.inr (.inl (.inl hs))) r h1
  | frz hs r => exact go _ _ _ rfl (.inr (by rw [hA.k]; exact hs.sql)) r h1
  | _ => exact h1.elim
theorem tcat_ok {es : List E} {fl : List Bool} {xs : List Expr} {j : Nat} (h1 : PA X xs (tAS W T fl es)) : PE X (.Tuple xs j pos) (tE W T (.tcat fl es)) := by
  refine pe_imp (pe_tup h1) fun vσ H Q ⟨m, σ, S, k, hr, rs, h, po⟩ => ?_
  refine ⟨m, σ, S, _, hr, rs, h, fun ds S1 m1 vs H1 x1 hr1 r1 ⟨hz, h1⟩ => ⟨?_, fun p hp => (po.ext x1).tup hr1 r1 h1 hp⟩⟩
  rw [← r1.length]
  exact sz_line hz
theorem lst_ok {es : List E} {xs : List Expr} {fr : Bool} (hl : es.length ≤ SZ) (h1 : PA X xs (tA W T es)) : PE X (.List xs pos) (tE W T (.lst fr es)) := by
  refine pe_imp (pe_lst h1) fun vσ H Q ⟨m, σ, S, k, hr, rs, h, po⟩ => ?_
  refine ⟨m, σ, S, _, hr, rs, h, fun ds S1 m1 vs H1 x1 hr1 r1 hd h1 => ⟨?_, fun p hp => (po.ext x1).mk hr1 r1 h1 hp⟩⟩
  rw [← r1.length, hd]
  exact sz_line hl
/-- an item, from either end -/
def rX (K : PySem.W.Frag) : R2 := fun v w H Q => ∃ m S k a b, HR K m S H ∧ RelD K m H a v ∧ RelD K m H b w ∧ Po K m H k Q ∧ asI (fun j S2 => seq a S2 fun ds => (match nth ds j with | some d => k d S2 | none => False)) b S
theorem ix_ok : IxR X (rX X.K) := by
  intro va sl pins s σ H v w u u' Q I rv rw' h hs
  obtain ⟨m, S, k, a, b, hr, ra, rb, po, h⟩ := h
  obtain ⟨j, e, h2⟩ := asI_of h
  subst e
  cases rb
  obtain ⟨ds, vs, p, rfl, hq, rs, h3⟩ := seq_rel hr ra h2
  split at h3
  · rename_i d e
    obtain ⟨z, g1, g2⟩ := atI_rel rs e
    rcases hq with hq | hq
    · exact ix_list va sl pins s σ H _ _ u u' Q I rv rw' ⟨p, vs, j, z, rfl, rfl, hq, g1, po.done hr g2 h3⟩ hs
    · exact ix_tup va sl pins s σ H _ _ u u' Q I rv rw' ⟨p, vs, j, z, rfl, rfl, hq, g1, po.done hr g2 h3⟩ hs
  · exact h3.elim
theorem idx_of (hA : At W c X) (hp : plainIx y = true) (h1 : PE X x (tE W T a)) (h2 : PE X y (tE W T b)) : PE X (.Subscript x y pos) (tE W T (.idx a b)) := by
  refine pe_imp (pe_ix ix_ok h1 h2 (plainIx_ok hp)) fun vσ H Q ⟨m, σ, S, k, hr, rs, h, po⟩ => ?_
  refine tOp_of hr rs h fun d e S2 m2 H2 v w x2 hr2 r1 r2 h2 => ?_
  rw [hA.k]
  exact ⟨m2, S2, k, d, e, hr2, r1, r2, po.ext x2, h2⟩
/-- a slice -/
def rS (K : PySem.W.Frag) : V → Option Int → Option Int → Hp → VK → Prop := fun v lo hi H Q => ∃ m S k a, HR K m S H ∧ RelD K m H a v ∧ Po K m H k Q ∧ (match a with
        | .tup ds => k (.tup (slice ds lo hi)) S
        | .lst ds => k (.lst (slice ds lo hi)) S
        | .frz ds => k (.lst (slice ds lo hi)) S
        | .ref c => (match cl S c with | some ds => k (.lst (slice ds lo hi)) S | none => False)
        | _ => False)
theorem rel_slice {K : PySem.W.Frag} {m : Ms} {H : Hp} {ds : List D} {vs : List V} (r : RelDs K m H ds vs) (lo hi : Option Int) : RelDs K m H (slice ds lo hi) (cutV vs lo hi) := by
  unfold slice cutV
  rw [r.length]
  exact (r.drop _).take _
theorem sl_ok : SlR X (rS X.K) := by
  intro pins s σ H v u vl vu lo hi sl Q I rv hs pl pu h
  obtain ⟨m, S, k, a, hr, ra, po, h⟩ := h
  cases ra <;> try (exact h.elim)
  · rename_i ds p vs hq rs
    refine sl_tupA pins s σ H _ u vl vu lo hi sl Q I rv hs pl pu ⟨p, vs, rfl, hq, fun e => ?_, fun e q hn => ?_⟩
    · refine po.done hr (.tup hq rs) ?_
      have es : slice ds lo hi = ds := by
        unfold slice
        rw [rs.length, e.1, e.2, List.drop_zero, Nat.sub_zero, ← rs.length]
        exact List.take_length
      have h : k (.tup (slice ds lo hi)) S := h
      rw [es] at h
      exact h
    · exact po.tup hr (rel_slice rs lo hi) h hn
  · rename_i ds p vs hq na rs
    exact sl_list pins s σ H _ u vl vu lo hi sl Q I rv hs pl pu ⟨p, vs, rfl, .inl (.inl hq), fun q hn => po.lst hr (rel_slice rs lo hi) h hn⟩
  · rename_i ds p vs hq rs
    exact sl_list pins s σ H _ u vl vu lo hi sl Q I rv hs pl pu ⟨p, vs, rfl, hq.sql, fun q hn => po.lst hr (rel_slice rs lo hi) h hn⟩
  · rename_i l p hl
    have h : (match cl S l with | some ds => k (.lst (slice ds lo hi)) S | none => False) := h
    split at h
    · rename_i ds e
      obtain ⟨vs, hq, rs⟩ := hr.at_ l ds p e hl
      exact sl_list pins s σ H _ u vl vu lo hi sl Q I rv hs pl pu ⟨p, vs, rfl, .inl (.inl hq), fun q hn => po.lst hr (rel_slice rs lo hi) h hn⟩
    · exact h.elim
theorem slc_of (hA : At W c X) {lo hi : Option E} {l h : Option Expr} {p2 : Pos} (h1 : PE X x (tE W T a)) (h2 : PO X l (tO W T lo)) (h3 : PO X h (tO W T hi)) : PE X (.Subscript x (.Slice l h none p2) pos) (tE W T (.slc a lo hi)) := by
  refine pe_imp (pe_slice sl_ok h1 h2 h3) fun vσ H Q ⟨m, σ, S, k, hr, rs, h, po⟩ => ?_
  rw [hA.k]
  exact ⟨m, σ, S, _, hr, rs, h, fun d S1 m1 v H1 x1 hr1 r1 h1 => ⟨m1, σ, S1, _, hr1, rs.mono x1, h1, fun o S2 m2 H2 x2 hr2 h2 => ⟨m2, σ, S2, _, hr2, rs.mono (x1.trans x2), h2, fun o3 S3 m3 H3 x3 hr3 h3 =>
    ⟨m3, S3, k, d, hr3, r1.mono (x2.trans x3), po.ext ((x1.trans x2).trans x3), h3⟩⟩⟩⟩
theorem none_ok : PO X none (tO W T none) := po_imp po_none fun vσ H Q ⟨m, σ, S, k, hr, rs, h, po⟩ => po none S m H .refl hr h
theorem some_ok (h1 : PE X x (tE W T a)) : PO X (some x) (tO W T (some a)) := po_imp (po_some h1) fun vσ H Q ⟨m, σ, S, k, hr, rs, h, po⟩ => ⟨m, σ, S, _, hr, rs, h, fun d S1 m1 v H1 x1 hr1 r1 h1 => by
  obtain ⟨i, e, h2⟩ := asI_of h1
  subst e
  cases r1
  exact ⟨i, rfl, po (some i) S1 m1 H1 x1 hr1 h2⟩⟩
/-! ### calls -/
theorem call_of (w : WOk W T B) (hA : At W c X) {f : Nat} {n : Str} {p : Pos} {es : List E} {xs : List Expr} (hg : isG c n = true) (hf : B.fid.lookup n = some f) (hs : starEach (x :: xs) X.env = (false, eval x X.env) :: starEach xs X.env)
    (hp : (backTo pos (starEach xs X.env)).any (·.1) = false) (h : PA X (x :: xs) (tA W T es)) : PE X (.Call (.Name n p) (x :: xs) [] pos) (tE W T (.call f es)) := by
  obtain ⟨ad, fd, g1, g2, g3, _, g4⟩ := w.fn n f hf
  obtain ⟨G1, G2⟩ := hA.gl hg
  refine pe_imp (pe_g (sp := spE W.K T W.n f) (k := W.n) (f := ad) (fd := fd) (ps := B.ps f) (by rw [hA.prog, hA.wd, hA.k, hA.mg, hA.bs]; exact g4) hA.room hA.gd G1 (by rw [hA.mg]; exact g1) (by rw [hA.k]; exact g2) (by rw [hA.k]; exact g3) h G2 hs hp) fun vσ H Q ⟨m, σ, S, k, hr, rs, h, po⟩ => ?_
  refine ⟨m, σ, S, _, hr, rs, h, fun ds S1 m1 vs H1 x1 hr1 r1 hl h1 => ?_⟩
  exact ⟨m1, S1, _, ds, hr1, r1, h1, po.ext x1⟩
theorem call0_of (w : WOk W T B) (hA : At W c X) {f : Nat} {n : Str} {p : Pos} (hg : isG c n = true) (hf : B.fid.lookup n = some f) : PE X (.Call (.Name n p) [] [] pos) (tE W T (.call f [])) := by
  obtain ⟨ad, fd, g1, g2, g3, _, g4⟩ := w.fn n f hf
  obtain ⟨G1, G2⟩ := hA.gl hg
  refine pe_imp (pe_g0 (sp := spE W.K T W.n f) (k := W.n) (f := ad) (fd := fd) (ps := B.ps f) (by rw [hA.prog, hA.wd, hA.k, hA.mg, hA.bs]; exact g4) hA.room hA.gd G1 (by rw [hA.mg]; exact g1) (by rw [hA.k]; exact g2) (by rw [hA.k]; exact g3) G2) fun vσ H Q ⟨m, σ, S, k, hr, rs, h, po⟩ => ?_
  exact ⟨m, S, _, [], hr, .nil, h, po⟩
/-! ### keywords -/
theorem kw_each {pos : Pos} {env : PySem.Env} : ∀ {kws : List Keyword}, kws.all (·.arg.isSome) = true → (backToKw pos (keywordEach kws env)).all (·.1.isSome) = true ∧ (backToKw pos (keywordEach kws env)).filterMap (·.1) = kws.filterMap (·.arg) ∧ (backToKw pos (keywordEach kws env)).any (·.1.isNone) = false
  | [], _ => ⟨rfl, rfl, rfl⟩
  | ⟨none, v, p⟩ :: r, h => by cases h
  | ⟨some n, v, p⟩ :: r, h => by
    obtain ⟨h1, h2, h3⟩ := kw_each (pos := pos) (env := env) (kws := r) h
    refine ⟨h1, ?_, h3⟩
    show n :: (backToKw pos (keywordEach r env)).filterMap (·.1) = n :: r.filterMap (·.arg)
    rw [h2]
theorem pick_gk {K : PySem.W.Frag} {m : Ms} {H : Hp} {ds : List D} {zs : List V} (r : RelDs K m H ds zs) : ∀ {ord : List Nat}, (∀ i ∈ ord, i < ds.length) → RelDs K m H (pick ord ds) (gk ord [] zs)
  | [], _ => .nil
  | i :: ord, h => by
    have hi := h i List.mem_cons_self
    have ih := pick_gk r (ord := ord) fun j hj => h j (List.mem_cons_of_mem _ hj)
    obtain ⟨v, e, rv⟩ := r.get (List.getElem?_eq_getElem hi)
    have e2 : gk (i :: ord) [] zs = v :: gk ord [] zs := by
      show (i :: ord).filterMap (fun i => zs[i]?) = _
      rw [List.filterMap_cons, e]
      rfl
    have e3 : pick (i :: ord) ds = ds[i] :: pick ord ds := by
      show ds.getD i .non :: _ = _
      rw [List.getD_eq_getElem?_getD, List.getElem?_eq_getElem hi]
      rfl
    rw [e2, e3]
    exact .cons rv ih
theorem kwOk_lt {ps : List Str} {ord : List Nat} {ks : List Str} (h : kwOk ps ord ks = true) : ∀ i ∈ ord, i < ks.length := by
  intro i hi
  simp only [kwOk, Bool.and_eq_true, decide_eq_true_eq] at h
  have e := h.1.1.2
  have : ks[i]? ∈ ord.map fun i => ks[i]? := List.mem_map_of_mem hi
  rw [e] at this
  obtain ⟨p, _, hp⟩ := List.mem_map.mp this
  exact (List.getElem?_eq_some_iff.mp hp.symm).1
theorem callk_of (w : WOk W T B) (hA : At W c X) {f : Nat} {ord : List Nat} {n : Str} {p : Pos} {es : List E} {kws : List Keyword} (hg : isG c n = true) (hf : B.fid.lookup n = some f) (hall : kws.all (·.arg.isSome) = true) (hk : kwOk (B.ps f) ord (kws.filterMap (·.arg)) = true)
    (hl : es.length = (kws.filterMap (·.arg)).length) (h : PK X kws (tA W T es)) : PE X (.Call (.Name n p) [] kws pos) (tE W T (.callk f ord es)) := by
  obtain ⟨ad, fd, g1, g2, _, g3, g4⟩ := w.fn n f hf
  obtain ⟨G1, G2⟩ := hA.gl hg
  obtain ⟨k1, k2, k3⟩ := kw_each (pos := pos) (env := X.env) hall
  refine ⟨fun pins s vσ H Q I ⟨m, σ, S, k, hr, rs, hev, po⟩ => ?_⟩
  refine wpAny_Call_Name_kw (ld_glob I G1 (by rw [hA.mg]; exact g1) ?_ G2)
  have kp : PySem.W.keepIn X.K (.ref ad) = true := by rw [hA.k]; exact g2
  refine PySem.W.callWith_KW0 (h₀ := X.base) I.ok.mod.kin kp k1 ?_ (by rw [k3]; rfl)
  refine thn (h.run pos pins s vσ H _ I (show tA W T es vσ H (fun zs H2 => spE W.K T W.n f (gk ord [] zs) H2 Q fun _ _ _ => False) from ⟨m, σ, S, _, hr, rs, hev, fun ds S1 m1 vs H1 x1 hr1 r1 hl1 h1 => ?_⟩)) fun ws s2 ⟨zs, H2, I2, rz, q2⟩ => ⟨I2.kIn, ?_⟩
  · refine ⟨m1, S1, _, _, hr1, pick_gk r1 fun i hi => ?_, h1, po.ext x1⟩
    rw [hl1, hl]
    exact kwOk_lt hk i hi
  · rw [k2]
    have F : FnG X.prog X.w X.K X.mg X.base W.n ad fd (B.ps f) (spE W.K T W.n f) := by rw [hA.prog, hA.wd, hA.k, hA.mg, hA.bs]; exact g4
    have KB : KBinds X.K fd (B.ps f) (kws.filterMap (·.arg)) (gk ord) (gk ord) := by rw [hA.k]; exact g3 _ _ hk
    have r2 := KB.rel .nil rz
    have hl : (gk ord ([] : List Value) ws).length = (B.ps f).length := by rw [← r2.length]; exact F.len _ _ _ q2
    exact F.go hA.room hA.gd I2 (KB.to s2 [] ws I2.kIn hl) r2 q2
theorem bi_of (w : WOk W T B) (hA : At W c X) {b : Bi} {n : Str} {p : Pos} {es : List E} {xs : List Expr} (hg : isG c n = true) (hn : n = biName b) (hgc : gcOk B b = true) (hs : starEach (x :: xs) X.env = (false, eval x X.env) :: starEach xs X.env)
    (hp : (backTo pos (starEach xs X.env)).any (·.1) = false) (h : PA X (x :: xs) (tA W T es)) : PE X (.Call (.Name n p) (x :: xs) [] pos) (tE W T (.bi b es)) := by
  obtain ⟨G1, G2⟩ := hA.gl hg
  have fin : ∀ vσ H Q, tE W T (.bi b es) vσ H Q → tCB (rF X.K b) (tA W T es) vσ H Q := fun vσ H Q ⟨m, σ, S, k, hr, rs, h, po⟩ => by
    rw [hA.k]
    exact ⟨m, σ, S, _, hr, rs, h, fun ds S1 m1 vs H1 x1 hr1 r1 hl h1 => ⟨m1, S1, k, ds, hr1, r1, po.ext x1, h1⟩⟩
  subst hn
  have hb : b ≠ .gcd → X.mg (biName b) = none := fun z => by rw [hA.mg]; exact w.bi b z
  cases b with
  | len => exact pe_imp (pe_callB (bfn_ok hA.calm hA.gd hA.room.units .len) G1 (hb (fun z => by cases z)) (by decide +kernel) h (by decide) G2 hs hp) fin
  | abs => exact pe_imp (pe_callB (bfn_ok hA.calm hA.gd hA.room.units .abs) G1 (hb (fun z => by cases z)) (by decide +kernel) h (by decide) G2 hs hp) fin
  | max2 => exact pe_imp (pe_callB (bfn_ok hA.calm hA.gd hA.room.units .max2) G1 (hb (fun z => by cases z)) (by decide +kernel) h (by decide) G2 hs hp) fin
  | min2 => exact pe_imp (pe_callB (bfn_ok hA.calm hA.gd hA.room.units .min2) G1 (hb (fun z => by cases z)) (by decide +kernel) h (by decide) G2 hs hp) fin
  | int => exact pe_imp (pe_callTy (bfn_ok hA.calm hA.gd hA.room.units .int) G1 (hb (fun z => by cases z)) (by decide +kernel) h (by decide) G2 hs hp) fin
  | divmod => exact pe_imp (pe_callB (bfn_ok hA.calm hA.gd hA.room.units .divmod) G1 (hb (fun z => by cases z)) (by decide +kernel) h (by decide) G2 hs hp) fin
  | gcd => exact pe_imp (pe_callBfun (bfn_ok hA.calm hA.gd hA.room.units .gcd) G1 (by rw [hA.mg]; exact w.gcd hgc) h G2 hs hp) fin
  | all => exact pe_imp (pe_callB (bfn_ok hA.calm hA.gd hA.room.units .all) G1 (hb (fun z => by cases z)) (by decide +kernel) h (by decide) G2 hs hp) fin
  | any => exact pe_imp (pe_callB (bfn_ok hA.calm hA.gd hA.room.units .any) G1 (hb (fun z => by cases z)) (by decide +kernel) h (by decide) G2 hs hp) fin
  | sum => exact pe_imp (pe_callB (bfn_ok hA.calm hA.gd hA.room.units .sum) G1 (hb (fun z => by cases z)) (by decide +kernel) h (by decide) G2 hs hp) fin
  | tuple => exact pe_imp (pe_callTy (bfn_ok hA.calm hA.gd hA.room.units .tuple) G1 (hb (fun z => by cases z)) (by decide +kernel) h (by decide) G2 hs hp) fin
  | list => exact pe_imp (pe_callTy (bfn_ok hA.calm hA.gd hA.room.units .list) G1 (hb (fun z => by cases z)) (by decide +kernel) h (by decide) G2 hs hp) fin
  | repr => exact pe_imp (pe_callB (bfn_ok hA.calm hA.gd hA.room.units .repr) G1 (hb (fun z => by cases z)) (by decide +kernel) h (by decide) G2 hs hp) fin
  | str => exact pe_imp (pe_callTy (bfn_ok hA.calm hA.gd hA.room.units .str) G1 (hb (fun z => by cases z)) (by decide +kernel) h (by decide) G2 hs hp) fin
theorem dct_of (hA : At W c X) : PE X (.Dict [] [] pos) (tE W T .dct) :=
  pe_imp pe_dnewK fun vσ H Q ⟨m, σ, S, k, hr, rs, h, po⟩ => fun p hp => po.dic hr h hp
theorem catv_of (hA : At W c X) {fr : Bool} {o : Operator} (ho : opEq .add o = true) (h1 : PE X x (tE W T a)) (h2 : PE X y (tE W T b)) : PE X (.BinOp x o y pos) (tE W T (.cat fr a b)) := by
  rw [opEq_ok ho]
  refine pe_imp (pe_op (cat_op fr) h1 h2) fun vσ H Q ⟨m, σ, S, k, hr, rs, h, po⟩ => ?_
  refine tOp_of hr rs h fun d e S2 m2 H2 v w x2 hr2 r1 r2 h2 => ?_
  rw [hA.k]
  exact ⟨m2, S2, k, d, e, hr2, r1, r2, po.ext x2, h2⟩
theorem tyName_ok (t : Ty) : bootBuiltins (Str.ofString (tyName t)) = some (.type (tyName t)) ∧ Str.ofString (tyName t) ≠ "__name__" := by
  cases t <;> exact ⟨by decide +kernel, by decide +kernel⟩
theorem isi_of (w : WOk W T B) (hA : At W c X) {t : Ty} {n n' : Str} {p p' : Pos} (hg : isG c n = true) (hg' : isG c n' = true) (hn : n = "isinstance") (hn' : n' = Str.ofString (tyName t)) (hs : ∀ xs, starEach (x :: xs) X.env = (false, eval x X.env) :: starEach xs X.env)
    (h : PE X x (tE W T a)) : PE X (.Call (.Name n p) [x, .Name n' p'] [] pos) (tE W T (.isi a t)) := by
  obtain ⟨G1, G2⟩ := hA.gl hg
  obtain ⟨G3, G4⟩ := hA.gl hg'
  subst hn hn'
  obtain ⟨b1, b2⟩ := tyName_ok t
  refine pe_imp (pe_callB call_isi G1 (by rw [hA.mg]; exact w.isi) (by decide +kernel) (pa_cons h (pa_cons (pe_bltn (v := .ty (tyName t)) G3 (by rw [hA.mg]; exact w.ty t) b1 rfl b2 G4) pa_nil) (hs _)) (by decide) G2 (hs _) (by rfl)) fun vσ H Q ⟨m, σ, S, k, hr, rs, h, po⟩ => ?_
  refine ⟨m, σ, S, _, hr, rs, h, fun d S1 m1 v H1 x1 hr1 r1 h1 => ?_⟩
  have h1 : (match tyIs t d with | some b => k (.bl b) S1 | none => False) := h1
  split at h1
  · rename_i b e
    obtain ⟨Tn, g1, g2⟩ := tyIs_rel hr1 r1 e
    exact ⟨v, .ty (tyName t), _, _, b, rfl, .ty _, by rw [hA.k]; exact g1, kit_ty g2, (po.ext x1).done hr1 (.bl _) h1⟩
  · exact h1.elim
def tTys (ts : List Ty) : TA := fun _ H Q => Q (ts.map fun t => V.ty (tyName t)) H
theorem tys_ok (w : WOk W T B) (hA : At W c X) : ∀ {ts : List Ty} {zs : List Expr}, tysOk c ts zs = true → PA X zs (tTys ts)
  | [], [], _ => pa_imp pa_nil fun _ _ _ q => q
  | [], _ :: _, h => by cases h
  | t :: ts, zs, h => by
    rcases zs with _ | ⟨z, zs⟩
    · cases h
    · cases z <;> try (cases h; done)
      rename_i z p
      simp only [tysOk, Bool.and_eq_true, decide_eq_true_eq] at h
      obtain ⟨⟨h1, h2⟩, h3⟩ := h
      obtain ⟨G3, G4⟩ := hA.gl h1
      subst h2
      obtain ⟨b1, b2⟩ := tyName_ok t
      exact pa_imp (pa_cons (pe_bltn (v := .ty (tyName t)) G3 (by rw [hA.mg]; exact w.ty t) b1 rfl b2 G4) (tys_ok w hA h3)) fun _ _ _ q => q
theorem pair_tys : ∀ ts : List Ty, Paired ClsV (ts.map fun t => V.ty (tyName t)) (ts.map fun t => Value.type (tyName t))
  | [] => .nil
  | t :: ts => .cons (.ty _) (pair_tys ts)
theorem kit_any {K : PySem.W.Frag} {Tn : String} {d : D} (h : ∀ t, ∃ b, tyIs t d = some b ∧ kitB Tn (tyName t) = some b) : ∀ ts : List Ty, PySem.W.kitAny K (.type Tn) (ts.map fun t => Value.type (tyName t)) = some (ts.any fun t => match tyIs t d with
    | some b => b
    | none => false)
  | [] => kitAny_nil
  | t :: ts => by
    obtain ⟨b, h1, h2⟩ := h t
    refine kitAny_cons (b := b) (kit_ty h2) (fun e => ?_) fun e => ?_
    · rw [List.any_cons, h1, kit_any h ts]
      simp only [e, Bool.false_or]
    · rw [List.any_cons, h1]
      simp only [e, Bool.true_or]
theorem few_len : ∀ {ts : List Ty}, fewT ts = true → ts.length ≤ SZ
  | [], _ => by simp [SZ]
  | [_], _ => by simp [SZ]
  | [_, _], _ => by simp [SZ]
  | [_, _, _], _ => by simp [SZ]
  | _ :: _ :: _ :: _ :: _, h => by cases h
theorem isi2_of (w : WOk W T B) (hA : At W c X) {ts : List Ty} {n : Str} {p p' : Pos} {zs : List Expr} {j : Nat} (hg : isG c n = true) (hn : n = "isinstance") (hl : fewT ts = true) (ht : tysOk c ts zs = true) (hs : ∀ xs, starEach (x :: xs) X.env = (false, eval x X.env) :: starEach xs X.env)
    (h : PE X x (tE W T a)) : PE X (.Call (.Name n p) [x, .Tuple zs j p'] [] pos) (tE W T (.isi2 a ts)) := by
  obtain ⟨G1, G2⟩ := hA.gl hg
  subst hn
  refine pe_imp (pe_callB call_isiT G1 (by rw [hA.mg]; exact w.isi) (by decide +kernel) (pa_cons h (pa_cons (pe_tup (tys_ok w hA ht)) pa_nil) (hs _)) (by decide) G2 (hs _) (by rfl)) fun vσ H Q ⟨m, σ, S, k, hr, rs, h, po⟩ => ?_
  refine ⟨m, σ, S, _, hr, rs, h, fun d S1 m1 v H1 x1 hr1 r1 h1 => ?_⟩
  have h1 : (match tyAny ts d with | some b => k (.bl b) S1 | none => False) := h1
  split at h1
  · rename_i b e
    refine ⟨?_, fun q hq => ?_⟩
    · rw [List.length_map]; exact sz_line (few_len hl)
    have x2 := ext_new (m := m1) (o := .tup (ts.map fun t => V.ty (tyName t))) hq
    have hr2 := hr1.new (o := .tup (ts.map fun t => V.ty (tyName t))) hq
    unfold tyAny at e
    split at e
    · cases e
    · rename_i c0 e0
      obtain ⟨Tn, g1, g2⟩ := tyIs_all hr2 (r1.mono x2) e0
      refine ⟨v, q, _, _, _, b, rfl, upd_same, pair_tys ts, by rw [hA.k]; exact g1, ?_, (po.ext (x1.trans x2)).done hr2 (.bl _) h1⟩
      rw [kit_any g2 ts]
      exact e
  · exact h1.elim
end
end FV
set_option Elab.async false
set_option linter.all false
set_option maxRecDepth 100000
set_option maxHeartbeats 2000000
/-! SeqR: counting in a tuple of whole numbers; a tuple or a list turned round. -/
namespace FV
open PySem PySem.Spec PyProof.Rows L2 HT
section
variable {X : Cx}
/-- how often a whole number stands in a tuple of whole numbers -/
def rCntT (K : PySem.W.Frag) : V → List V → Hp → VK → Prop := fun x xs H Q => ∃ (p : Addr) (ns : List Int) (k : Int), x = .ref p ∧ xs = [.int k] ∧ SqT K H p (ns.map V.int) ∧ Q (.int (ns.count k : Nat)) H
theorem mt_tcount : MtR X "tuple.count" (rCntT X.K) := by
  intro pins s σ H x xs v us Q I rx rxs h
  rcases h with ⟨p, ns, k, e1, e2, hs, q⟩
  subst e1 e2
  cases rx
  obtain ⟨u, e3, t, e4⟩ := vals1 rxs
  subst e3 e4
  obtain ⟨its, rv, ht, hlen⟩ := I.tuple hs
  obtain ⟨o, ho, hc, n, hd⟩ := ht
  obtain ⟨oc, od, odt, osl⟩ := o
  simp only at hc hd
  subst hc hd
  have hi := ints_of_vals rv
  refine call_meets F.slot_tuple_count ⟨_, ho, rfl⟩ F.entry_tuple_count (F.args_tuple_count_2 _ _) (SeqAt.tuple_countAt p its.toArray n od osl (.int k t) (eqk k)) ⟨ho, ?_, ?_⟩
  · intro y hy
    exact (eqk_gives hi y (by simpa using hy)).at _ _
  · have ec : its.toArray.toList.countP (eqk k) = ns.count k := eqk_count hi
    rw [ec]
    exact ⟨.int (ns.count k : Nat), H, I.tok _, ⟨_, rfl⟩, q⟩
end
section
variable {prog : Program} {w : World} {A : Around} {E : Value → Shared → Prop} {s : Shared}
theorem rev_adjust (n : Nat) : Builtin.Slice.sliceAdjust none none (-1) (n : Int) = ((n : Int) - 1, -1) := rfl
theorem rev_places (n : Nat) : Builtin.Slice.slicePlaces ((n : Int) - 1) (-1) (-1) = n := by
  unfold Builtin.Slice.slicePlaces
  have h1 : ¬ ((-1 : Int) > 0) := by omega
  simp only [h1, if_false]
  by_cases h : (n : Int) - 1 > -1
  · rw [if_pos h]
    have e : ((n : Int) - 1 - -1 - 1) / (- -1) + 1 = n := by
      have : (- -1 : Int) = 1 := rfl
      rw [this, Int.ediv_one]; omega
    rw [e, Int.toNat_natCast]
  · rw [if_neg h]; omega
theorem rev_pick (xs : List Value) : (List.range xs.length).filterMap (fun (k : Nat) => xs.toArray[(((xs.length : Int) - 1) + (k : Int) * (-1)).toNat]?) = xs.reverse := by
  refine List.ext_getElem? fun i => ?_
  have e : (List.range xs.length).filterMap (fun (k : Nat) => xs.toArray[(((xs.length : Int) - 1) + (k : Int) * (-1)).toNat]?) = (List.range xs.length).map fun k => (xs[xs.length - 1 - k]?).getD .none := by
    have gen : ∀ l : List Nat, (∀ k ∈ l, k < xs.length) → l.filterMap (fun (k : Nat) => xs.toArray[(((xs.length : Int) - 1) + (k : Int) * (-1)).toNat]?) = l.map fun k => (xs[xs.length - 1 - k]?).getD .none := by
      intro l
      induction l with
      | nil => intro _; rfl
      | cons k l ih =>
        intro hl
        have hk := hl k List.mem_cons_self
        have e1 : (((xs.length : Int) - 1) + (k : Int) * (-1)).toNat = xs.length - 1 - k := by omega
        rw [List.filterMap_cons, List.map_cons, ih fun j hj => hl j (List.mem_cons_of_mem _ hj), e1, List.getElem?_toArray, List.getElem?_eq_getElem (show xs.length - 1 - k < xs.length by omega)]
        rfl
    exact gen _ fun k hk => List.mem_range.mp hk
  rw [e, List.getElem?_map]
  by_cases hi : i < xs.length
  · rw [List.getElem?_range hi, List.getElem?_reverse hi]
    show some ((xs[xs.length - 1 - i]?).getD .none) = _
    rw [List.getElem?_eq_getElem (by omega)]
    rfl
  · rw [List.getElem?_eq_none (by rw [List.length_range]; omega), List.getElem?_eq_none (by rw [List.length_reverse]; omega)]
    rfl
theorem rev_applied {sl : Addr} {u : Tok} {n : Nat} {Q : Int × Int × Nat → Shared → Prop} (hs : s.heap.IsSliceOf sl .none .none (.int (-1) u)) (h : Q ((n : Int) - 1, -1, n) s) :
    wpAny (model prog w) A (Builtin.Slice.sliceApplied (.ref sl) (pure (n : Int))) Q E s := by
  obtain ⟨ob, g1, g2, g3⟩ := hs
  unfold Builtin.Slice.sliceApplied Builtin.Slice.sliceFields
  refine wpAny_bind (wpAny_bind ?_)
  refine wpAny_field g1 g3 (x := .none) rfl (wpAny_bind ?_)
  refine wpAny_field g1 g3 (x := .none) rfl (wpAny_bind ?_)
  refine wpAny_field g1 g3 (x := .int (-1) u) rfl (wpAny_pure ?_)
  refine wpAny_bind (slicePart_ (.int (-1) u) ?_)
  show wpAny _ _ (if ((-1 : Int) == 0) = true then _ else _) _ _ s
  rw [if_neg (by decide)]
  refine wpAny_bind (slicePart_ .none ?_)
  refine wpAny_bind (slicePart_ .none ?_)
  refine wpAny_bind (wpAny_pure ?_)
  show wpAny _ _ (pure ((n : Int) - 1, (-1 : Int), Builtin.Slice.slicePlaces ((n : Int) - 1) (-1) (-1))) _ _ s
  rw [rev_places]
  exact wpAny_pure h
theorem rev_item {t sl : Addr} {xs : List Value} {u : Tok} {Q : Value → Shared → Prop} (ht : IsTup s.heap t xs.toArray) (hs : s.heap.IsSliceOf sl .none .none (.int (-1) u)) (hz : xs.length ≤ sizeLine)
    (h : Q (.ref s.heap.objs.size) { s with heap := s.heap.push { cls := .type "tuple", data := .seq xs.reverse.toArray } }) : wpAny (model prog w) A (getItem (.ref t) (.ref sl)) Q E s := by
  have hS : s.TypeIs (.ref sl) "slice" := by
    obtain ⟨ob, g1, g2, _⟩ := hs
    exact ⟨ob, g1, g2⟩
  have hT := ht.typeIs
  unfold getItem
  with_reducible refine wpAny_holding ?_
  refine wpAny_bind (wpAny_sequenceKey hT (by decide) ?_)
  refine wpAny_bind (wpAny_callSpecial?_slot hT PyProof.Rows.slot_tuple_getitem (name := Str.ofString "__getitem__") (wpAny_call_entry PyProof.Rows.slot_tuple_getitem hT entry_tuple_getitem ?_ (args_tuple_getitem _ _)))
  show wpAny _ _ (Builtin.Tuple.tupleItemsOf (.ref t) >>= _) _ _ s
  refine wpAny_bind (tupleItemsOf_ ht (wpAny_bind (wpAny_typeOf hS ?_)))
  refine PySem.W.KFB.if_so (by decide) ?_
  refine wpAny_bind (rev_applied (n := xs.length) hs ?_)
  have no : ¬ ((((xs.length : Int) - 1) == 0 && (-1 : Int) == 1 && xs.length == xs.toArray.size) = true) := by simp
  show wpAny _ _ (if (((xs.length : Int) - 1) == 0 && (-1 : Int) == 1 && xs.length == xs.toArray.size) = true then _ else _) _ _ s
  rw [if_neg no, rev_pick]
  have zz : sizeOk (.seq xs.reverse.toArray) := by
    show xs.reverse.toArray.size ≤ sizeLine
    rw [List.size_toArray, List.length_reverse]
    exact hz
  first
    | exact wpAny_bind (m := Builtin.Tuple.tupleExact _) (wpAny_newObj_type (wpAny_pure ⟨_, rfl, wpAny_pure h⟩) zz)
    | exact wpAny_bind (wpAny_bind (m := Builtin.Tuple.tupleExact _) (wpAny_newObj_type (wpAny_pure (wpAny_pure ⟨_, rfl, wpAny_pure h⟩)) zz))
end
section
variable {X : Cx}
/-- e[::-1] of a list or a tuple -/
def tRev (K : PySem.W.Frag) (te : TE) : TE := fun σ H Q => te σ H fun x H1 => ∃ a xs, x = .ref a ∧
  ((SqL K H1 a xs ∧ ∀ p, H1 p = none → Q (.ref p) (upd H1 p (.lst xs.reverse))) ∨ (SqT K H1 a xs ∧ ∀ p, H1 p = none → Q (.ref p) (upd H1 p (.tup xs.reverse))))
theorem pe_rev {e : Expr} {te : TE} {k : Nat} {a1 a2 a3 pos : Pos} (he : PE X e te) :
    PE X (.Subscript e (.Slice none none (some (.UnaryOp .USub (.Constant (.int 1) k a1) a2)) a3) pos) (tRev X.K te) := by
  refine ⟨fun pins s σ H Q I h => Subscript_ (thn (he.run pins s σ H _ I h) fun v s1 g => ?_)⟩
  obtain ⟨x, H1, I1, r1, a, xs, ex, q⟩ := g
  subst ex
  cases r1
  have hst : PO X (some (.UnaryOp .USub (.Constant (.int 1) k a1) a2)) (tPart (tUn (rU fun i => V.int (-i)) (L2.tC (V.int 1)))) := po_some (pe_un un_neg pe_int)
  refine wpAny_Slice (thn (po_none.run pins s1 σ H1 (fun o G => o = none ∧ G = H1) I1 ⟨rfl, rfl⟩) fun u1 s2 g1 => ?_)
  obtain ⟨o1, G1, J1, c1, d1, d2⟩ := g1
  subst d1 d2
  refine thn (po_none.run pins s2 σ G1 (fun o G => o = none ∧ G = G1) J1 ⟨rfl, rfl⟩) fun u2 s3 g2 => ?_
  obtain ⟨o2, G2, J2, c2, d3, d4⟩ := g2
  subst d3 d4
  refine thn (hst.run pins s3 σ G2 (fun o G => o = some (-1) ∧ G = G2) J2 ⟨1, rfl, -1, rfl, rfl, rfl⟩) fun u3 s4 g3 => ?_
  obtain ⟨o3, G3, J3, c3, d5, d6⟩ := g3
  subst d5 d6
  cases c1
  cases c2
  cases c3
  rename_i tk
  have J : Inv X pins σ G3 { s4 with heap := s4.heap.push { cls := .type "slice", data := .fields #[Value.none, Value.none, .int (-1) tk] } } := J3.kept (t' := s4.toks) fun b ob z => Heap.get?_push_of_some _ z
  show wpAny (model X.prog X.w) X.A (subscriptTail e (.Slice none none (some (.UnaryOp .USub (.Constant (.int 1) k a1) a2)) a3) (.ref a) (.ref s4.heap.objs.size)) (EP X pins σ Q) X.xe { s4 with heap := s4.heap.push { cls := .type "slice", data := .fields #[Value.none, Value.none, .int (-1) tk] } }
  rcases q with ⟨hx, q⟩ | ⟨hx, q⟩
  · obtain ⟨its, r, ht, hz⟩ := J.list hx
    have hl := r.length
    refine tail_any (ops := [.ref a, .ref s4.heap.objs.size]) ht.isList.typeIs (PySem.slot_list_getitem.lookup) ?_ (by with_unfolding_all rfl)
    refine wpAny_getItem_list_slice ht.isList (Heap.IsSliceOf.new _ .none .none (.int (-1) tk)) .none .none (.int _ _) (by decide) ?_ (by rw [List.size_toArray]; omega)
    rw [PySem.W.krv_pick]
    refine ⟨.ref _, _, J.laid (t' := s4.toks) (o := .lst xs.reverse) (fun b ob z => Heap.get?_push_of_some _ z) (Nat.le_refl _) ⟨?_, _, 0, r.reverse, ?_⟩, rfl, q _ (J.hok.fresh (Nat.le_refl _))⟩
    · rw [List.length_reverse]; exact hz
    · exact Heap.get?_push_size _ rfl
  · obtain ⟨its, r, ht, hz⟩ := J.tuple hx
    have hl := r.length
    refine tail_any (ops := [.ref a, .ref s4.heap.objs.size]) ht.typeIs (PyProof.Rows.slot_tuple_getitem.lookup) ?_ (by with_unfolding_all rfl)
    refine rev_item ht (Heap.IsSliceOf.new _ .none .none (.int (-1) tk)) (by omega) ?_
    refine ⟨.ref _, _, J.laid (t' := s4.toks) (o := .tup xs.reverse) (fun b ob z => Heap.get?_push_of_some _ z) (Nat.le_refl _) ⟨?_, _, r.reverse, ?_⟩, rfl, q _ (J.hok.fresh (Nat.le_refl _))⟩
    · rw [List.length_reverse]; exact hz
    · exact ⟨_, Heap.get?_push_size _ rfl, rfl, _, rfl⟩
end
section
variable {W : Wd} {T : Nat → Option Fn} {B : Tb} {c : Ck} {X : Cx} {a e : E} {x y : Expr} {pos apos cpos : Pos}
theorem rev_of (hA : At W c X) {k : Nat} {a1 a2 a3 : Pos} (h1 : PE X x (tE W T a)) : PE X (.Subscript x (.Slice none none (some (.UnaryOp .USub (.Constant (.int 1) k a1) a2)) a3) pos) (tE W T (.rev a)) := by
  refine pe_imp (pe_rev h1) fun vσ H Q ⟨m, σ, S, k, hr, rs, h, po⟩ => ?_
  simp only [ev] at h
  rw [hA.k]
  refine ⟨m, σ, S, _, hr, rs, h, fun d S1 m1 v H1 x1 hr1 r1 h1 => ?_⟩
  cases r1 <;> try (exact h1.elim)
  · rename_i ds p vs hq rs1
    exact ⟨p, vs, rfl, .inr ⟨hq, fun q hn => (po.ext x1).tup hr1 rs1.rev h1 hn⟩⟩
  · rename_i ds p vs hq na rs1
    exact ⟨p, vs, rfl, .inl ⟨.inl (.inl hq), fun q hn => (po.ext x1).lst hr1 rs1.rev h1 hn⟩⟩
/-- (a, b, ..).count(e): the tuple is new, and it keeps its items while e is told -/
def tCnt (K : PySem.W.Frag) (t : TA) (te : TE) : TE := fun σ H Q => t σ H fun xs H1 => xs.length ≤ sizeLine ∧ ∀ p, H1 p = none → te σ (upd H1 p (.tup xs)) fun y H2 => rCntT K (.ref p) [y] H2 Q
theorem pe_cnt {X : Cx} {es : List Expr} {y : Expr} {t : TA} {te : TE} {k : Nat} {tp apos cpos : Pos} (h1 : PA X es t) (h2 : PE X y te) (hs : starEach [y] X.env = [(false, eval y X.env)]) (hl : (apos.endLine == cpos.line) = true) :
    PE X (.Call (.Attribute (.Tuple es k tp) "count" apos) [y] [] cpos) (tCnt X.K t te) := by
  refine ⟨fun pins s σ H Q I h => wpAny_Call_method_late rfl (by rw [hs]; rfl) hl rfl ?_⟩
  refine wpAny_Tuple_spliced (thn (h1.run tp pins s σ H _ I h) fun us s1 g => ?_)
  obtain ⟨xs, H1, I1, r, z, q⟩ := g
  refine ⟨by rw [← r.length]; exact z, ?_⟩
  have hf := I1.hok.fresh (Nat.le_refl s1.heap.objs.size)
  have hg := q _ hf
  have I2 : Inv X pins σ (upd H1 s1.heap.objs.size (.tup xs)) { s1 with heap := s1.heap.push { cls := .type "tuple", data := .seq us.toArray } } := I1.laid (t' := s1.toks) (fun b u e => Heap.get?_push_of_some _ e) (Nat.le_refl _) ⟨z, us, r, ⟨_, Heap.get?_push_size _ rfl, rfl, _, rfl⟩⟩
  refine ⟨"tuple", "tuple.count", F.plainAttrs_tuple, F.slot_tuple_count, F.type_tuple_count, ⟨_, Heap.get?_push_size _ rfl, rfl⟩, fun a e => ?_, ?_⟩
  · cases e
    exact ⟨_, Heap.get?_push_size _ rfl, rfl⟩
  · have ha := (pa_cons h2 pa_nil hs).run cpos pins _ σ _ (fun zs H2 => rCntT X.K (.ref s1.heap.objs.size) zs H2 Q) I2 hg
    rw [hs] at ha ⊢
    refine Calls.callWith_builtin (by rfl) (Calls.evalArgs_plain ?_)
    exact thn ha fun us s2 ⟨vs, H2, J, r2, q2⟩ => mt_tcount pins s2 σ H2 (.ref s1.heap.objs.size) vs _ us Q J rfl r2 q2
theorem cnt_of (hA : At W c X) {es : List E} {xs : List Expr} {k : Nat} {tp : Pos} (hl : (apos.endLine == cpos.line) = true) (hz : es.length ≤ SZ) (h1 : PA X xs (tA W T es)) (h2 : PE X y (tE W T e)) (hs : starEach [y] X.env = [(false, eval y X.env)]) :
    PE X (.Call (.Attribute (.Tuple xs k tp) "count" apos) [y] [] cpos) (tE W T (.cnt es e)) := by
  refine pe_imp (pe_cnt h1 h2 hs hl) fun vσ H Q q => ?_
  obtain ⟨m, σ, S, k, hr, rs, ha, po⟩ := q
  simp only [ev] at ha
  refine ⟨m, σ, S, _, hr, rs, ha, fun ds S1 m1 vs H1 x1 hr1 r1 hl h1 => ⟨?_, fun p hp => ?_⟩⟩
  · rw [← r1.length, hl]
    exact sz_line hz
  · have x2 := ext_new (m := m1) (o := .tup vs) hp
    refine ⟨m1, σ, S1, _, hr1.new hp, rs.mono (x1.trans x2), h1, fun y S2 m2 u H3 x3 hr3 r3 h3 => ?_⟩
    cases r3 <;> try (exact h3.elim)
    rename_i i
    dsimp only [cntD] at h3
    split at h3
    · rename_i is e
      have ev := r1.ints e
      subst ev
      refine ⟨p, is, i, rfl, rfl, ?_, (po.ext ((x1.trans x2).trans x3)).done hr3 (.int _) h3⟩
      rw [hA.k]
      exact x3.sqt (.inl (.inl upd_same))
    · exact h3.elim
end
/-! ### len(set(xs)) -/
theorem ddl_mem : ∀ {ks : List (List Int)} {x : List Int}, x ∈ ddl ks ↔ x ∈ ks
  | [], x => Iff.rfl
  | y :: ys, x => by
    unfold ddl
    split
    · rename_i h
      rw [ddl_mem (ks := ys), List.mem_cons]
      exact ⟨.inr, fun z => z.elim (fun e => e ▸ h) id⟩
    · rw [List.mem_cons, List.mem_cons, ddl_mem (ks := ys)]
theorem ddl_nd : ∀ ks : List (List Int), (ddl ks).Nodup
  | [] => List.nodup_nil
  | y :: ys => by
    unfold ddl
    split
    · exact ddl_nd ys
    · rename_i h
      exact List.nodup_cons.mpr ⟨fun z => h (ddl_mem.mp z), ddl_nd ys⟩
theorem ddl_len {ks L : List (List Int)} (nd : L.Nodup) (h : ∀ x, x ∈ L ↔ x ∈ ks) : L.length = (ddl ks).length :=
  ((List.perm_ext_iff_of_nodup nd (ddl_nd ks)).mpr fun x => (h x).trans ddl_mem.symm).length_eq
theorem rws_rel {K : PySem.W.Frag} {m : Ms} {H : Hp} : ∀ {ds : List D} {vs : List V} {ks : List (List Int)}, RelDs K m H ds vs → rws? ds = some ks → ∃ ps : List (Addr × List Int), vs = (ps.map fun p => V.ref p.1) ∧ ps.map (·.2) = ks ∧ ∀ p ∈ ps, SqT K H p.1 (p.2.map V.int)
  | _, _, ks, .nil, e => by
    have : ks = [] := (Option.some.inj e).symm
    subst this
    exact ⟨[], rfl, rfl, fun p hp => by cases hp⟩
  | _, _, ks, .cons r t, e => by
    cases r <;> try (cases e; done)
    rename_i ds vs xs a ws hs rs
    simp only [rws?] at e
    split at e
    · rename_i is ei
      cases q : rws? ds with
      | none => rw [q] at e; cases e
      | some js =>
        rw [q] at e
        have : ks = is :: js := (Option.some.inj e).symm
        subst this
        obtain ⟨ps, e1, e2, e3⟩ := rws_rel t q
        have ew := rs.ints ei
        subst ew
        refine ⟨(a, is) :: ps, by rw [e1]; rfl, by rw [← e2]; rfl, fun p hp => ?_⟩
        rcases List.mem_cons.mp hp with z | z
        · rw [z]; exact hs
        · exact e3 p z
    · cases e
/-- len(set(e)), e a list of rows of whole numbers -/
def tNset (K : PySem.W.Frag) (te : TE) : TE := fun σ H Q => te σ H fun x H1 => ∃ (l : Addr) (ps : List (Addr × List Int)), x = .ref l ∧ SqL K H1 l (ps.map fun p => V.ref p.1) ∧ (∀ p ∈ ps, SqT K H1 p.1 (p.2.map V.int)) ∧ ps.length < 64 ∧ Q (.int (ddl (ps.map (·.2))).length) H1
theorem pe_nset {X : Cx} {y : Expr} {te : TE} {p p2 pos pos2 : Pos} (hc : X.calm = true) (hu : X.A.units + 64 < cLine) (hg : Gl X "len") (hm : X.mg "len" = none) (hg2 : Gl X "set") (hm2 : X.mg "set" = none) (hy : PE X y te)
    (na : starEach [y] X.env = (false, eval y X.env) :: starEach [] X.env) : PE X (.Call (.Name "len" p) [.Call (.Name "set" p2) [y] [] pos2] [] pos) (tNset X.K te) := by
  refine ⟨fun pins s σ H Q I h => Call_ (ld_blt I hg hm PySem.boot_len ?_)⟩
  refine PyProof.Rows.callWith_builtin1 (PyProof.Rows.args_cons (Call_ (ld_blt I hg2 hm2 PyProof.Rows.boot_set ?_)) rfl) rfl rfl
  refine PyProof.Rows.callWith_type1 (PyProof.Rows.args_cons (thn (hy.run pins s σ H _ I h) fun v s1 g => PyProof.Rows.args_nil ?_) na) na rfl
  obtain ⟨x, H1, I1, r1, l, ps, ex, hq, hk, hf, q⟩ := g
  subst ex
  cases r1
  obtain ⟨its, rv, pl, hz⟩ := I1.list hq
  refine call_set_tups (P := X.prog) (w := X.w) ps (I1.ok.hd hc) pl.isList (by simpa using refs_of_vals rv) (fun p hp => I1.isT (hk p hp)) hf (by omega) fun h' tk L es ep t R G keep => ?_
  refine PyProof.Rows.args_nil ?_
  have J : Inv X pins σ H1 { s1 with heap := h', toks := tk } := I1.kept (t' := tk) keep
  obtain ⟨o, ho, hex, hd⟩ := R.ob
  have el : L.length = (ddl (ps.map (·.2))).length := by
    rw [← List.length_map (f := (·.2))]
    refine ddl_len R.nd fun z => ⟨fun hz => ?_, fun hz => ?_⟩
    · obtain ⟨p, hp, e⟩ := List.mem_map.mp hz
      exact List.mem_map.mpr ⟨p, List.mem_of_mem_take (G.sub p hp), e⟩
    · obtain ⟨p, hp, e⟩ := List.mem_map.mp hz
      rw [← e]
      exact G.all p (by rw [List.take_length]; exact hp)
  have es' : es.size = L.length := R.size (s := { s1 with heap := h', toks := tk })
  have hfew := R.few
  refine call_len_set ho hex hd (R.fits (s := { s1 with heap := h', toks := tk })) (by omega) ?_
  rw [es', el]
  exact ⟨.int (ddl (ps.map (·.2))).length, H1, J.tok _, ⟨_, rfl⟩, q⟩
section
variable {W : Wd} {T : Nat → Option Fn} {B : Tb} {c : Ck} {X : Cx} {a : E} {y : Expr}
theorem nset_of (w : WOk W T B) (hA : At W c X) {x1 x2 : Str} {p p2 pos pos2 : Pos} (g1 : isG c x1 = true) (g2 : isG c x2 = true) (e1 : x1 = "len") (e2 : x2 = "set") (h1 : PE X y (tE W T a)) (na : starEach [y] X.env = (false, eval y X.env) :: starEach [] X.env) :
    PE X (.Call (.Name x1 p) [.Call (.Name x2 p2) [y] [] pos2] [] pos) (tE W T (.nset a)) := by
  subst e1 e2
  refine pe_imp (pe_nset hA.calm hA.room.units (hA.gl g1).1 (by rw [hA.mg]; exact w.bi .len (fun z => by cases z)) (hA.gl g2).1 (by rw [hA.mg]; exact w.set) h1 na) fun vσ H Q ⟨m, σ, S, k, hr, rs, h, po⟩ => ?_
  simp only [ev] at h
  rw [hA.k]
  have fin : ∀ (ds : List FV.D) (vs : List V) (m1 : Ms) (S1 : Store) (H1 : Hp) (l : Addr), Ext m H m1 H1 → HR W.K m1 S1 H1 → SqL W.K H1 l vs → RelDs W.K m1 H1 ds vs → nsetD ds (fun n => k (.int n) S1) →
      ∃ (l' : Addr) (ps : List (Addr × List Int)), V.ref l = .ref l' ∧ SqL W.K H1 l' (ps.map fun p => V.ref p.1) ∧ (∀ p ∈ ps, SqT W.K H1 p.1 (p.2.map V.int)) ∧ ps.length < 64 ∧ Q (.int (ddl (ps.map (·.2))).length) H1 := by
    intro ds vs m1 S1 H1 l x1 hr1 hs rd hn
    unfold nsetD at hn
    split at hn
    · rename_i ks ek
      obtain ⟨ps, q1, q2, q3⟩ := rws_rel rd ek
      subst q1 q2
      refine ⟨l, ps, rfl, hs, q3, by rw [← List.length_map (f := (·.2))]; exact hn.1, (po.ext x1).done hr1 (.int _) hn.2⟩
    · exact hn.elim
  refine ⟨m, σ, S, _, hr, rs, h, fun d S1 m1 v H1 x1 hr1 r1 h1 => ?_⟩
  cases r1 <;> try (exact h1.elim)
  · rename_i ds p vs hs n rd
    exact fin ds vs m1 S1 H1 _ x1 hr1 (.inl (.inl hs)) rd h1
  · rename_i l p hl
    have h1 : (match cl S1 l with | some ds => nsetD ds (fun n => k (.int n) S1) | none => False) := h1
    split at h1
    · rename_i ds e
      obtain ⟨vs, q, rd⟩ := hr1.at_ l ds p e hl
      exact fin ds vs m1 S1 H1 _ x1 hr1 (.inl (.inl q)) rd h1
    · exact h1.elim
end
end FV
set_option Elab.async false
set_option linter.all false
set_option maxRecDepth 100000
set_option maxHeartbeats 4000000
/-! TupEnum: enumerate over a tuple. -/
namespace FV
open PySem PySem.Spec PySem.W PyProof.Rows L2
theorem meets_en1 {v : Value} {o : Obj} {G : Heap → Prop} (B : Begins v o G) :
    Meets (Builtin.«enumerate.__new__» ⟨[.type "enumerate", v], []⟩) (fun _ R s => G s.heap ∧
      R (.ok (.ret (.ref (s.heap.push o).objs.size))) { s with heap := (s.heap.push o).push { cls := .type "enumerate", data := .fields #[.none, .bool false, .ref s.heap.objs.size, rawInt 0, .none, .none] } }) :=
  .of_wp fun prog w A R s h => by
    obtain ⟨hp, g, d, tk, os⟩ := s
    obtain ⟨h1, h⟩ := h
    have hsub := sub_enumerate
    have q1 : ∀ {A' : Around} {E : Value → Shared → Prop} {Q : Value → Shared → Prop}, Q (.ref hp.objs.size) ⟨hp.push o, g, d, tk, os⟩ → wpAny (model prog w) A' (pyIter v) Q E ⟨hp, g, d, tk, os⟩ := fun q => B.iter prog w _ _ ⟨hp, g, d, tk, os⟩ _ h1 q
    wp_walk using q1
    refine wpAny_stack_any fun st => wpAny_pure ?_
    split
    · rename_i c _ _ _ _ _
      cases (c == Value.type "enumerate")
      · wp_walk using q1
        exact ⟨_, rfl, h⟩
      · wp_walk using q1
        exact ⟨_, rfl, h⟩
    · wp_walk using q1
      exact ⟨_, rfl, h⟩
section
variable {prog : Program} {w : World} {A : Around} {E : Value → Shared → Prop} {s : Shared}
/-- enumerate(v): its two new objects -/
theorem en1_begins {v : Value} {o : Obj} {G : Heap → Prop} {Q : Value → Shared → Prop} (B : Begins v o G) (h1 : G s.heap)
    (h : ∀ h', IsEnum h' (s.heap.objs.size + 1) s.heap.objs.size 0 .none → h'.get? s.heap.objs.size = some o → (∀ b u, s.heap.get? b = some u → h'.get? b = some u) → Q (.ref (s.heap.objs.size + 1)) { s with heap := h' }) :
    wpAny (model prog w) A (call (.type "enumerate") [v]) Q E s := by
  refine callType_new F.called_enumerate (by decide) (F.typeCall_enumerate_1 _) (F.newCall_enumerate_1 _) (fun obj => F.args_object_init_2 obj _) F.entry_enumerate_new (meets_en1 B) ⟨h1, ?_⟩
  have sz : (s.heap.push o).objs.size = s.heap.objs.size + 1 := Heap.size_push ..
  show _ ∧ _
  rw [sz]
  have en : IsEnum ((s.heap.push o).push { cls := .type "enumerate", data := .fields #[.none, .bool false, .ref s.heap.objs.size, rawInt 0, .none, .none] }) (s.heap.objs.size + 1) s.heap.objs.size 0 .none := by
    have q := Heap.get?_push_size (s.heap.push o) (o := { cls := .type "enumerate", data := .fields #[.none, .bool false, .ref s.heap.objs.size, rawInt 0, .none, .none] }) rfl
    rw [sz] at q
    exact q
  exact ⟨⟨_, en, rfl⟩, h _ en (Heap.get?_push_of_some _ (Heap.get?_push_size _ B.free)) fun b u x => Heap.get?_push_of_some _ (Heap.get?_push_of_some _ x)⟩
end
/-- the tuple at a, each item in a new pair -/
def Iet (K : PySem.W.Frag) (a : Addr) : It :=
  ⟨fun i H => ∃ (xs : List V) (x : V), SqT K H a xs ∧ xs[i]? = some x,
    fun i H v H' => ∃ p x, v = .ref p ∧ H p = none ∧ H' = upd H p (.tup [.int (i : Nat), x]) ∧ ∀ xs, SqT K H a xs → xs[i]? = some x,
    fun i H => ∃ xs : List V, SqT K H a xs ∧ xs.length ≤ i⟩
theorem turn_et {P : Program} {w : World} {K : PySem.W.Frag} {elts : List Expr} {kk : Nat} {tpos : Pos} (a e it : Addr) :
    Turn P w K (.Tuple elts kk tpos) (Iet K a) [e, it] e (fun i h => (∃ old, IsEnum h e it ((i : Nat) : Int) old) ∧ h.IsTupleIter it a i ∧ e ≠ it ∧ a ≠ e ∧ a ≠ it) where
  mem := by simp
  obj := fun i h st b hb => by
    obtain ⟨⟨old, he⟩, ⟨o, ho, hc, hd⟩, _⟩ := st
    have eb : b = e ∨ b = it := by simpa using hb
    rcases eb with rfl | rfl
    · exact ⟨_, he, fun v q => nomatch q⟩
    · exact ⟨o, ho, fun v q => by rw [hd] at q; cases q⟩
  keep := fun i h h' st k => let ⟨⟨old, he⟩, hi, hne⟩ := st; ⟨⟨old, k e (by simp) _ he⟩, hi.at fun o q => k it (by simp) o q, hne⟩
  item := by
    intro X hP hw hK hc i pins s σ H E I hf st hg
    subst hP hw hK
    obtain ⟨⟨old, he⟩, hit, hne, hae, hai⟩ := st
    obtain ⟨xs, x, hq, hx⟩ := hg
    obtain ⟨its, rv, p, hz⟩ := I.tuple hq
    obtain ⟨u, hu, ru⟩ := rv.get hx
    have hel : e < s.heap.objs.size := Heap.lt_size he
    have hil : it < s.heap.objs.size := by obtain ⟨_, q, _⟩ := hit; exact Heap.lt_size q
    have hsz : i < its.toArray.size := by
      have := (List.getElem?_eq_some_iff.mp hu).1
      simpa using this
    have D := Draws.tuple (prog := X.prog) (w := X.w) (A := X.A.in1) (I.ok.hd hc) it a hai its.toArray
    refine wpAny_pyNext_enum_itemD D he ⟨hit, show s.heap.IsTuple a its.toArray from p⟩ hsz hne (by simp [hne, Ne.symm hae]) fun y h' tk hy ho hst hT hs2 hk => ?_
    have ey : y = u := by
      have q : its.toArray[i]? = some u := by simpa using hu
      rw [q] at hy
      exact (Option.some.inj hy).symm
    subst ey
    refine ⟨_, rfl, wpAny_letOwnedTupleGo_enum (s := { s with heap := h', toks := tk + 1 }) ho fun h2 he2 sb => ?_⟩
    have hT2 : h2.get? s.heap.objs.size = some { cls := .type "tuple", data := .seq #[.int i tk, y] } := (sb.2 _ (Nat.ne_of_gt hel)).trans hT
    have fresh : ObjOk X.prog X.w (upd H s.heap.objs.size (.tup [.int (i : Nat), x])) h2 s.heap.objs.size (.tup [.int (i : Nat), x]) :=
      ⟨by show 2 ≤ sizeLine; decide, [.int i tk, y], .cons ⟨_, rfl⟩ (.cons ru .nil), ⟨_, hT2, rfl, _, rfl⟩⟩
    have J : Inv X pins σ (upd H s.heap.objs.size (.tup [.int (i : Nat), x])) { s with heap := h2, toks := tk + 1 } :=
      I.turnedNew (ch := [e, it]) (fun b ob hb q => (sb.2 b (fun z => hb (by simp [z]))).trans (hk b ob (fun z => hb (by simp [z])) (fun z => hb (by simp [z])) q)) hf (Nat.le_refl _) fresh
    refine ⟨.ref s.heap.objs.size, _, J, rfl, ⟨_, x, rfl, I.hok.fresh (Nat.le_refl _), rfl, fun ys hy => by rw [I.tuple_inj hy hq]; exact hx⟩, ⟨⟨y, ?_⟩, hst.1.at fun o q => (sb.2 it (Ne.symm hne)).trans q, hne, hae, hai⟩, fun b hb => ?_⟩
    · have e1 : ((i + 1 : Nat) : Int) = (i : Int) + 1 := by omega
      rw [e1]
      exact he2
    · have eb : b = e ∨ b = it := by simpa using hb
      have lt : b < s.heap.objs.size := by rcases eb with z | z <;> rw [z] <;> assumption
      rw [upd_ne (Nat.ne_of_lt lt)]
      exact (hf b hb).1
  done := by
    intro X hP hw hK hc i pins s σ H E I hf st hg
    subst hP hw hK
    obtain ⟨⟨old, he⟩, hit, hne, hae, hai⟩ := st
    obtain ⟨xs, hq, hx⟩ := hg
    obtain ⟨its, rv, p, hz⟩ := I.tuple hq
    obtain ⟨f0, f1, f2, f3, f4, f5⟩ := hf it (by simp)
    have hl := rv.length
    have D : Draws X.prog X.w X.A.in1 it [it, a] i (fun _ _ => False) (fun j h => j = i ∧ h.IsTupleIter it a i ∧ h.IsTuple a its.toArray) := by
      refine ⟨fun _ _ z => ?_, fun _ _ _ z hk => ?_, fun j s Q E hj z => ?_, fun s Q E z hE => ?_⟩
      · obtain ⟨_, ⟨o, ho, _⟩, _⟩ := z
        exact ⟨o, ho⟩
      · exact ⟨z.1, z.2.1.at fun o e => hk it (by simp) o e, z.2.2.at fun o e => hk a (by simp) o e⟩
      · exact absurd z.1 (Nat.ne_of_lt hj)
      · exact wpAny_nextOf_tuple_end (I.ok.hd hc) z.2.1 z.2.2 (by simp; omega) hE
    exact wpAny_pyNext_enum_endD D he ⟨rfl, hit, show s.heap.IsTuple a its.toArray from p⟩ fun h' eb => ⟨rfl, I.turned (t' := s.toks) (fun b o hb q => eb b o hb q) f0 f1 f3 f4 f5⟩
  self := fun A i s Q E st h => let ⟨⟨_, he⟩, _⟩ := st; wpAny_pyIter_enum he h
/-- a list, or a tuple -/
def iEn (K : PySem.W.Frag) (ta : TA) : TI := fun σ H R => ta σ H fun vs H1 => ∃ a xs, vs = [.ref a] ∧ ((SqL K H1 a xs ∧ R (Ite K a) H1) ∨ (SqT K H1 a xs ∧ R (Iet K a) H1))
theorem pi_en {X : Cx} {e : Expr} {ta : TA} {p pos tpos : Pos} {elts : List Expr} {kk : Nat} (hg : Gl X "enumerate") (hm : X.mg "enumerate" = none) (ha : PA X [e] ta) (hs : starEach [e] X.env = [(false, eval e X.env)] := by rfl) :
    PI X (.Tuple elts kk tpos) (.Call (.Name "enumerate" p) [e] [] pos) (iEn X.K ta) := by
  refine ⟨fun pins s σ H R I h => ?_⟩
  refine Call_ (ld_blt I hg hm boot_enumerate (PyProof.Rows.callWith_type1 (thn (ha.run pos pins s σ H _ I h) fun us s1 ⟨vs, H1, I1, r1, q1⟩ => ?_) hs rfl))
  obtain ⟨a, xs, ex, hd⟩ := q1
  subst ex
  cases r1 with
  | cons r rr =>
    cases rr
    cases r
    rcases hd with ⟨hq, q⟩ | ⟨hq, q⟩
    · obtain ⟨its, rv, p', hz⟩ := I1.list hq
      refine call_enumerate_list p'.isList fun h' he hit hsz hk => wpAny_pyIter_enum he ?_
      have J : Inv X pins σ H1 { s1 with heap := h' } := I1.kept (t' := s1.toks) hk
      refine ⟨s1.heap.objs.size + 1, [s1.heap.objs.size + 1, s1.heap.objs.size], _, _, H1, rfl, J, turn_enum a (s1.heap.objs.size + 1) s1.heap.objs.size, ⟨⟨.none, he⟩, hit, Nat.succ_ne_self _⟩, fun b hb => ?_, q⟩
      have eb : b = s1.heap.objs.size + 1 ∨ b = s1.heap.objs.size := by simpa using hb
      have le : s1.heap.objs.size ≤ b := by rcases eb with z | z <;> rw [z] <;> omega
      exact I1.fpOk le (I1.hok.fresh le)
    · obtain ⟨its, rv, p', hz⟩ := I1.tuple hq
      have pt : s1.heap.IsTuple a its.toArray := p'
      have hal : a < s1.heap.objs.size := by obtain ⟨_, q, _⟩ := pt; exact Heap.lt_size q
      refine en1_begins (begins_tuple a its.toArray) pt fun h' he hit hk => wpAny_pyIter_enum he ?_
      have J : Inv X pins σ H1 { s1 with heap := h' } := I1.kept (t' := s1.toks) hk
      refine ⟨s1.heap.objs.size + 1, [s1.heap.objs.size + 1, s1.heap.objs.size], _, _, H1, rfl, J, turn_et a (s1.heap.objs.size + 1) s1.heap.objs.size, ⟨⟨.none, he⟩, ⟨_, hit, rfl, rfl⟩, Nat.succ_ne_self _, Nat.ne_of_lt (Nat.lt_succ_of_lt hal), Nat.ne_of_lt hal⟩, fun b hb => ?_, q⟩
      have eb : b = s1.heap.objs.size + 1 ∨ b = s1.heap.objs.size := by simpa using hb
      have le : s1.heap.objs.size ≤ b := by rcases eb with z | z <;> rw [z] <;> omega
      exact I1.fpOk le (I1.hok.fresh le)
end FV
set_option Elab.async false
set_option linter.all false
set_option maxRecDepth 100000
set_option maxHeartbeats 4000000
/-! TupZip: zip of a tuple with a list. -/
namespace FV
open PySem PySem.Spec PySem.W PyProof.Rows L2
/-- a tuple's iterator from where it stands -/
theorem drawsT_from {prog : Program} {w : World} {A : Around} (hh : A.handled = none) (it t : Addr) (hne : t ≠ it) (items : Array Value) (i : Nat) :
    Draws prog w A it [it, t] (max i items.size) (fun j v => items[j]? = some v) (fun j h => i ≤ j ∧ h.IsTupleIter it t j ∧ h.IsTuple t items) where
  live := fun _ _ st => let ⟨o, ho, _⟩ := st.2.1; ⟨o, ho⟩
  frame := fun _ _ _ st hk => ⟨st.1, st.2.1.at fun o e => hk it (by simp) o e, st.2.2.at fun o e => hk t (by simp) o e⟩
  item := fun j s Q E hj st hQ => by
    have hi : j < items.size := by have := st.1; omega
    refine wpAny_nextOf_tuple_item st.2.1 st.2.2 (x := items[j]) (by simp [hi]) fun h' hit' hs' => ?_
    exact hQ _ h' s.toks (by simp [hi]) ⟨Nat.le_succ_of_le st.1, hit', st.2.2.extBut hs'.extBut hne⟩ hs'
  done := fun s Q E st hE => wpAny_nextOf_tuple_end hh st.2.1 st.2.2 (by simp; omega) hE
theorem drawsL_from {prog : Program} {w : World} {A : Around} (hh : A.handled = none) (it l : Addr) (hne : l ≠ it) (items : Array Value) (i : Nat) :
    Draws prog w A it [it, l] (max i items.size) (fun j v => items[j]? = some v) (fun j h => i ≤ j ∧ h.IsListIter it l j ∧ h.IsList l items) where
  live := fun _ _ st => let ⟨o, ho, _⟩ := st.2.1; ⟨o, ho⟩
  frame := fun _ _ _ st hk => ⟨st.1, st.2.1.at fun o e => hk it (by simp) o e, st.2.2.at fun o e => hk l (by simp) o e⟩
  item := fun j s Q E hj st hQ => by
    have hi : j < items.size := by have := st.1; omega
    refine wpAny_nextOf_list_item st.2.1 st.2.2 (x := items[j]) (by simp [hi]) fun h' hit' hs' => ?_
    exact hQ _ h' s.toks (by simp [hi]) ⟨Nat.le_succ_of_le st.1, hit', st.2.2.extBut hs'.extBut hne⟩ hs'
  done := fun s Q E st hE => wpAny_nextOf_list_end hh st.2.1 st.2.2 (by simp; omega) hE
/-- the tuple at a and the list at b, the items in new pairs -/
def Itm (K : PySem.W.Frag) (a b : Addr) : It :=
  ⟨fun i H => ∃ (xs ys : List V) (x y : V), SqT K H a xs ∧ SqL K H b ys ∧ xs[i]? = some x ∧ ys[i]? = some y,
    fun i H v H' => ∃ T x y, v = .ref T ∧ H T = none ∧ H' = upd H T (.tup [x, y]) ∧ (∀ xs, SqT K H a xs → xs[i]? = some x) ∧ ∀ ys, SqL K H b ys → ys[i]? = some y,
    fun i H => ∃ xs ys : List V, SqT K H a xs ∧ SqL K H b ys ∧ (xs.length ≤ i ∨ ys.length ≤ i)⟩
theorem sep_of {z TI TO i1 i2 l1 l2 : Addr} (D : ZipApart z TI TO i1 i2 l1 l2) : ZipSep2 z TI TO i1 i2 [i1, l1] [i2, l2] where
  TIz := D.TIz
  TOz := D.TOz
  TITO := D.TITO
  TIi1 := D.TIi1
  mem1 := by simp
  zf1 := by simp [D.i1z.symm, D.l1z.symm]
  Tf1 := by simp [D.TOi1, D.l1TO.symm]
  TIi2 := D.TIi2
  mem2 := by simp
  zf2 := by simp [D.i2z.symm, D.l2z.symm]
  Tf2 := by simp [D.TOi2, D.l2TO.symm]
  sep1_2 := by simp [D.i12, D.l2i1.symm]
  sep2_1 := by simp [D.i12.symm, D.l1i2.symm]
theorem turn_zm {P : Program} {w : World} {K : PySem.W.Frag} {elts : List Expr} {kk : Nat} {tpos : Pos} {a b z TI TO i1 i2 : Addr} (D : ZipApart z TI TO i1 i2 a b) :
    Turn P w K (.Tuple elts kk tpos) (Itm K a b) [z, TI, TO, i1, i2] z (fun i h => IsZip h z TI TO .none ∧ IsPair h TI (.ref i1) (.ref i2) ∧ (∃ x y, IsPair h TO x y) ∧ h.IsTupleIter i1 a i ∧ h.IsListIter i2 b i) where
  mem := by simp
  obj := fun i h st c hc => by
    obtain ⟨hz, hTI, ⟨x, y, hTO⟩, ⟨o1, e1, _, d1⟩, ⟨o2, e2, _, d2⟩⟩ := st
    have e' : c = z ∨ c = TI ∨ c = TO ∨ c = i1 ∨ c = i2 := by simpa using hc
    rcases e' with q | q | q | q | q
    · rw [q]; exact ⟨_, hz, fun v q => nomatch q⟩
    · rw [q]; exact ⟨_, hTI, fun v q => nomatch q⟩
    · rw [q]; exact ⟨_, hTO, fun v q => nomatch q⟩
    · rw [q]; exact ⟨o1, e1, fun v q => by rw [d1] at q; cases q⟩
    · rw [q]; exact ⟨o2, e2, fun v q => by rw [d2] at q; cases q⟩
  keep := fun i h h' st k => by
    obtain ⟨hz, hTI, ⟨x, y, hTO⟩, h1, h2⟩ := st
    exact ⟨k z (by simp) _ hz, k TI (by simp) _ hTI, ⟨x, y, k TO (by simp) _ hTO⟩, h1.at fun o q => k i1 (by simp) o q, h2.at fun o q => k i2 (by simp) o q⟩
  item := by
    intro X hP hw hK hc i pins s σ H E I hf st hg
    subst hP hw hK
    obtain ⟨hz, hTI, ⟨x0, y0, hTO⟩, h1, h2⟩ := st
    obtain ⟨xs, ys, x, y, hqx, hqy, hx, hy⟩ := hg
    obtain ⟨its, rv, p, _⟩ := I.tuple hqx
    obtain ⟨its2, rv2, p2, _⟩ := I.list hqy
    obtain ⟨u, hu, ru⟩ := rv.get hx
    obtain ⟨u2, hu2, ru2⟩ := rv2.get hy
    have hzl : z < s.heap.objs.size := Heap.lt_size hz
    have l1 : i < its.toArray.size := by
      have := (List.getElem?_eq_some_iff.mp hu).1
      simpa using this
    have l2 : i < its2.toArray.size := by
      have := (List.getElem?_eq_some_iff.mp hu2).1
      simpa using this
    have D1 := drawsT_from (prog := X.prog) (w := X.w) (A := X.A.in1) (I.ok.hd hc) i1 a D.l1i1 its.toArray i
    have D2 := drawsL_from (prog := X.prog) (w := X.w) (A := X.A.in1) (I.ok.hd hc) i2 b D.l2i2 its2.toArray i
    refine wpAny_pyNext_zipD2_item (sep_of D) D1 D2 hz hTI hTO ⟨Nat.le_refl _, h1, show s.heap.IsTuple a its.toArray from p⟩ ⟨Nat.le_refl _, h2, p2.isList⟩ (by omega) (by omega) fun y1 y2 h' tk hy1 hy2 z' TO' st1 st2 hT hsz hk => ?_
    have ey1 : y1 = u := by
      have q : its.toArray[i]? = some u := by simpa using hu
      rw [q] at hy1
      exact (Option.some.inj hy1).symm
    have ey2 : y2 = u2 := by
      have q : its2.toArray[i]? = some u2 := by simpa using hu2
      rw [q] at hy2
      exact (Option.some.inj hy2).symm
    subst ey1 ey2
    have h1' := st1.2.1
    have h2' := st2.2.1
    refine ⟨_, rfl, wpAny_letOwnedTupleGo_zip (s := { s with heap := h', toks := tk }) z' fun h'' z'' sb => ?_⟩
    have hT2 : h''.get? s.heap.objs.size = some { cls := .type "tuple", data := .seq #[y1, y2] } := (sb.2 _ (Nat.ne_of_gt hzl)).trans hT
    have new : ObjOk X.prog X.w (upd H s.heap.objs.size (.tup [x, y])) h'' s.heap.objs.size (.tup [x, y]) :=
      ⟨by show 2 ≤ sizeLine; decide, [y1, y2], .cons ru (.cons ru2 .nil), ⟨_, hT2, rfl, _, rfl⟩⟩
    have I1 : Inv X pins σ (upd H s.heap.objs.size (.tup [x, y])) { s with heap := h'', toks := tk } :=
      I.turnedNew (t' := tk) (ch := [z, TI, TO, i1, i2]) (fun c o hb q => (sb.2 c (fun q' => hb (by simp [q']))).trans (hk c o (fun q' => hb (by simp [q'])) (fun q' => hb (by simp [q'])) (fun q' => hb (by simp [q'])) (fun q' => hb (by simp [q'])) q)) hf (Nat.le_refl _) new
    refine ⟨.ref s.heap.objs.size, _, I1, rfl, ⟨_, x, y, rfl, I.hok.fresh (Nat.le_refl _), rfl, fun l hl => by rw [I.tuple_inj hl hqx]; exact hx, fun l hl => by rw [I.list_inj hl hqy]; exact hy⟩, ⟨z'', ?_, ⟨y1, y2, ?_⟩, ?_, ?_⟩, fun c hcm => ?_⟩
    · exact (sb.2 _ D.TIz).trans (hk _ _ D.TIz D.TITO D.TIi1 D.TIi2 hTI)
    · exact (sb.2 _ D.TOz).trans TO'
    · exact h1'.at fun o q => (sb.2 _ D.i1z).trans q
    · exact h2'.at fun o q => (sb.2 _ D.i2z).trans q
    · have hlt : c < s.heap.objs.size := by
        have e' : c = z ∨ c = TI ∨ c = TO ∨ c = i1 ∨ c = i2 := by simpa using hcm
        rcases e' with q | q | q | q | q
        · rw [q]; exact hzl
        · rw [q]; exact Heap.lt_size hTI
        · rw [q]; exact Heap.lt_size hTO
        · rw [q]; obtain ⟨_, e1, _⟩ := h1; exact Heap.lt_size e1
        · rw [q]; obtain ⟨_, e2, _⟩ := h2; exact Heap.lt_size e2
      rw [upd_ne (Nat.ne_of_lt hlt)]
      exact (hf c hcm).1
  done := by
    intro X hP hw hK hc i pins s σ H E I hf st hg
    subst hP hw hK
    obtain ⟨hz, hTI, ⟨x0, y0, hTO⟩, h1, h2⟩ := st
    obtain ⟨xs, ys, hqx, hqy, hend⟩ := hg
    obtain ⟨its, rv, p, _⟩ := I.tuple hqx
    obtain ⟨its2, rv2, p2, _⟩ := I.list hqy
    have l1 := rv.length
    have l2 := rv2.length
    have z1 : its.toArray.size = its.length := by simp
    have z2 : its2.toArray.size = its2.length := by simp
    have D1 := drawsT_from (prog := X.prog) (w := X.w) (A := X.A.in1) (I.ok.hd hc) i1 a D.l1i1 its.toArray i
    have D2 := drawsL_from (prog := X.prog) (w := X.w) (A := X.A.in1) (I.ok.hd hc) i2 b D.l2i2 its2.toArray i
    exact wpAny_pyNext_zipD2_end (sep_of D) D1 D2 hz hTI hTO ⟨Nat.le_refl _, h1, show s.heap.IsTuple a its.toArray from p⟩ ⟨Nat.le_refl _, h2, p2.isList⟩ (by omega) (by omega) (by omega) fun h' tk hk => ⟨rfl, I.turnedL (t' := tk) (ch := [z, TI, TO, i1, i2]) (fun c o hb q =>
      hk c o (fun q' => hb (by simp [q'])) (fun q' => hb (by simp [q'])) (fun q' => hb (by simp [q'])) (fun q' => hb (by simp [q'])) q) hf⟩
  self := fun A i s Q E st h => wpAny_pyIter_zip st.1 h
/-- zip of two lists, two tuples, or a tuple with a list -/
def iZm (K : PySem.W.Frag) (ta : TA) : TI := fun σ H R => ta σ H fun vs H1 => ∃ a b xs ys, vs = [.ref a, .ref b] ∧ ((SqL K H1 a xs ∧ SqL K H1 b ys ∧ R (Itz K a b) H1) ∨ (SqT K H1 a xs ∧ SqT K H1 b ys ∧ R (RZ.ItzT K a b) H1) ∨ (SqT K H1 a xs ∧ SqL K H1 b ys ∧ R (Itm K a b) H1))
theorem pi_zm {X : Cx} {e e2 : Expr} {ta : TA} {p pos tpos : Pos} {elts : List Expr} {kk : Nat} (hg : Gl X "zip") (hm : X.mg "zip" = none) (ha : PA X [e, e2] ta)
    (hs : starEach [e, e2] X.env = (false, eval e X.env) :: starEach [e2] X.env := by rfl) (hpl : (backTo pos (starEach [e2] X.env)).any (·.1) = false := by rfl) :
    PI X (.Tuple elts kk tpos) (.Call (.Name "zip" p) [e, e2] [] pos) (iZm X.K ta) := by
  refine ⟨fun pins s σ H R I h => ?_⟩
  refine Call_ (ld_blt I hg hm PyProof.Rows.boot_zip (PyProof.Rows.callWith_type1 (thn (ha.run pos pins s σ H _ I h) fun us s1 ⟨vs, H1, I1, r1, q1⟩ => ?_) hs hpl))
  obtain ⟨a, b, xs, ys, ex, q1⟩ := q1
  subst ex
  cases r1 with
  | cons r rr =>
    cases rr with
    | cons r' rr =>
      cases rr
      cases r
      cases r'
      have fresh5 : ∀ c, c ∈ [s1.heap.objs.size + 4, s1.heap.objs.size + 2, s1.heap.objs.size + 3, s1.heap.objs.size, s1.heap.objs.size + 1] → FpOk X pins H1 c := fun c hcm => by
        have e' : c = s1.heap.objs.size + 4 ∨ c = s1.heap.objs.size + 2 ∨ c = s1.heap.objs.size + 3 ∨ c = s1.heap.objs.size ∨ c = s1.heap.objs.size + 1 := by simpa using hcm
        have hle : s1.heap.objs.size ≤ c := by
          rcases e' with z | z | z | z | z
          · rw [z]; exact Nat.le_add_right _ _
          · rw [z]; exact Nat.le_add_right _ _
          · rw [z]; exact Nat.le_add_right _ _
          · rw [z]; exact Nat.le_refl _
          · rw [z]; exact Nat.le_add_right _ _
        exact I1.fpOk hle (I1.hok.fresh hle)
      rcases q1 with ⟨hqx, hqy, q⟩ | ⟨hqx, hqy, q⟩ | ⟨hqx, hqy, q⟩
      · obtain ⟨its, rv, p1, _⟩ := I1.list hqx
        obtain ⟨its2, rv2, p2, _⟩ := I1.list hqy
        refine call_zip_2 p1.isList p2.isList fun h' hz hTI hTO h1 h2 hsz hk => wpAny_pyIter_zip hz ?_
        have I2 : Inv X pins σ H1 { s1 with heap := h' } := I1.kept (t' := s1.toks) hk
        exact ⟨s1.heap.objs.size + 4, [s1.heap.objs.size + 4, s1.heap.objs.size + 2, s1.heap.objs.size + 3, s1.heap.objs.size, s1.heap.objs.size + 1], _, _, H1, rfl, I2, turn_zip (PySem.W.ktu_apart s1.heap.objs.size a b p1.lt p2.lt), ⟨hz, hTI, ⟨_, _, hTO⟩, h1, h2⟩, fresh5, q⟩
      · obtain ⟨its, rv, p1, _⟩ := I1.tuple hqx
        obtain ⟨its2, rv2, p2, _⟩ := I1.tuple hqy
        obtain ⟨o1, ho1, _⟩ := id p1
        obtain ⟨o2, ho2, _⟩ := id p2
        refine RZ.call_zipT (show s1.heap.IsTuple a its.toArray from p1) (show s1.heap.IsTuple b its2.toArray from p2) fun h' hz hTI hTO h1 h2 hsz hk => wpAny_pyIter_zip hz ?_
        have I2 : Inv X pins σ H1 { s1 with heap := h' } := I1.kept (t' := s1.toks) hk
        exact ⟨s1.heap.objs.size + 4, [s1.heap.objs.size + 4, s1.heap.objs.size + 2, s1.heap.objs.size + 3, s1.heap.objs.size, s1.heap.objs.size + 1], _, _, H1, rfl, I2, RZ.turn_zipT (PySem.W.ktu_apart s1.heap.objs.size a b (Heap.lt_size ho1) (Heap.lt_size ho2)), ⟨hz, hTI, ⟨_, _, hTO⟩, h1, h2⟩, fresh5, q⟩
      · obtain ⟨its, rv, p1, _⟩ := I1.tuple hqx
        obtain ⟨its2, rv2, p2, _⟩ := I1.list hqy
        obtain ⟨o1, ho1, _⟩ := id p1
        refine zip_begins2 (begins_tuple a its.toArray) (begins_list b its2.toArray) (show s1.heap.IsTuple a its.toArray from p1) p2.isList fun h' hz hTI hTO h1 h2 hsz hk => wpAny_pyIter_zip hz ?_
        have I2 : Inv X pins σ H1 { s1 with heap := h' } := I1.kept (t' := s1.toks) hk
        exact ⟨s1.heap.objs.size + 4, [s1.heap.objs.size + 4, s1.heap.objs.size + 2, s1.heap.objs.size + 3, s1.heap.objs.size, s1.heap.objs.size + 1], _, _, H1, rfl, I2, turn_zm (PySem.W.ktu_apart s1.heap.objs.size a b (Heap.lt_size ho1) p2.lt), ⟨hz, hTI, ⟨_, _, hTO⟩, ⟨_, h1, rfl, rfl⟩, ⟨_, h2, rfl, rfl⟩⟩, fresh5, q⟩
end FV
set_option Elab.async false
set_option linter.all false
set_option maxRecDepth 100000
set_option maxHeartbeats 8000000
/-! Sound6: what is walked; all expressions. -/
namespace FV
open PySem L2
section
variable {W : Wd} {T : Nat → Option Fn} {B : Tb} {c : Ck} {X : Cx} {x y z t : Expr} {a b e : E} {pos : Pos}
theorem seq_pi (hA : At W c X) (h : PE X x (tE W T a)) : PI X t x (tI W T a) := by
  refine ⟨fun pins s σ H R I q => ?_⟩
  obtain ⟨m, σ', S, k, hr, rs, hev, po⟩ := q
  have run := h.run pins s σ H (fun v H1 => ∃ ad, v = .ref ad ∧ ((∃ vs, SqL W.K H1 ad vs) ∧ R (Itl W.K ad) H1 ∨ (∃ vs, SqT W.K H1 ad vs) ∧ R (Itt W.K ad) H1)) I
    ⟨m, σ', S, _, hr, rs, hev, fun d S2 m2 v H2 x2 hr2 r2 h2 => by
      obtain ⟨ad, g, ds, ev, hg, hk, hs⟩ := src_of hr2 r2 h2
      exact ⟨ad, ev, hs.imp (fun z => ⟨z.1, po g ds S2 m2 H2 _ x2 hr2 z.2 hg hk⟩) fun z => ⟨z.1, po g ds S2 m2 H2 _ x2 hr2 z.2 hg hk⟩⟩⟩
  rw [← hA.k] at run
  refine thn run fun v s1 ⟨w, H1, I1, r1, ad, e, q⟩ => ?_
  subst e
  cases r1
  have fp : ∀ bb ∈ [s1.heap.objs.size], FpOk X pins H1 bb := fun bb hbb => by
    rw [List.mem_singleton] at hbb
    rw [hbb]
    exact I1.fpOk (Nat.le_refl _) (I1.hok.fresh (Nat.le_refl _))
  rcases q with ⟨⟨vs, hq⟩, q⟩ | ⟨⟨vs, hq⟩, q⟩
  · obtain ⟨us, _, pl, _⟩ := I1.list hq
    exact wpAny_pyIter_list pl.isList ⟨s1.heap.objs.size, [s1.heap.objs.size], _, _, H1, rfl, I1.kept (t' := s1.toks) (fun _ _ e => Heap.get?_push_of_some _ e), turn_list ad _, ⟨_, Heap.get?_push_size _ rfl, rfl, rfl⟩, fp, q⟩
  · obtain ⟨us, _, pl, _⟩ := I1.tuple hq
    exact wpAny_pyIter_tuple (items := us.toArray) pl ⟨s1.heap.objs.size, [s1.heap.objs.size], _, _, H1, rfl, I1.kept (t' := s1.toks) (fun _ _ e => Heap.get?_push_of_some _ e), turn_tuple ad _, ⟨_, Heap.get?_push_size _ rfl, rfl, rfl⟩, fp, q⟩
theorem rngI_get : ∀ (n i : Nat) (lo : Int), (rngI lo n)[i]? = if i < n then some (.int (lo + i)) else none
  | 0, i, lo => by simp [rngI]
  | n + 1, 0, lo => by simp [rngI]
  | n + 1, i + 1, lo => by
    have ih := rngI_get n i (lo + 1)
    simp only [rngI, List.getElem?_cons_succ, ih]
    by_cases h : i < n
    · rw [if_pos h, if_pos (by omega)]
      congr 2
      push_cast
      omega
    · rw [if_neg h, if_neg (by omega)]
theorem rngI_len : ∀ (n : Nat) (lo : Int), (rngI lo n).length = n
  | 0, _ => rfl
  | n + 1, lo => by rw [rngI, List.length_cons, rngI_len n]
theorem src_rng {K : PySem.W.Frag} {m : Ms} {H : Hp} (lo : Int) (n : Nat) : Src K m H (Itr lo n) none (rngI lo n) := by
  intro m2 S2 H2 x2 hr hg
  refine ⟨fun i d e => ?_, fun i hi => by rw [rngI_len] at hi; exact hi⟩
  rw [rngI_get] at e
  split at e
  · rename_i hi
    cases e
    refine ⟨hi, fun x H3 ⟨e1, e2⟩ => ?_⟩
    subst e1 e2
    exact ⟨.refl, hr, .int _⟩
  · cases e
theorem nat60 {i : Int} (h : i.natAbs < 2 ^ 60) : -(2 ^ 62) ≤ i ∧ i < 2 ^ 62 := by omega
theorem rng1_pi (w : WOk W T B) (hA : At W c X) {n : Str} {p : Pos} (hg : isG c n = true) (hn : n = "range") (hs : ∀ xs, starEach (x :: xs) X.env = (false, eval x X.env) :: starEach xs X.env) (h : PE X x (tE W T a)) : PI X t (.Call (.Name n p) [x] [] pos) (tI W T (.rng1 a)) := by
  obtain ⟨G1, G2⟩ := hA.gl hg
  subst hn
  refine pi_imp (pi_range1 G1 (by rw [hA.mg]; exact w.range) (pa_cons h pa_nil (hs _)) (by rw [hs]; rfl)) fun vσ H R ⟨m, σ, S, k, hr, rs, hev, po⟩ => ?_
  refine ⟨m, σ, S, _, hr, rs, hev, fun d S1 m1 v H1 x1 hr1 r1 h1 => ?_⟩
  obtain ⟨j, e, h2⟩ := asI_of h1
  subst e
  cases r1
  obtain ⟨b1, b2⟩ := nat60 h2.1
  exact ⟨j, rfl, b1, b2, po none _ S1 m1 H1 _ x1 hr1 (src_rng 0 _) trivial h2.2⟩
theorem rng_pi (w : WOk W T B) (hA : At W c X) {n : Str} {p : Pos} (hg : isG c n = true) (hn : n = "range") (hs : ∀ xs, starEach (x :: xs) X.env = (false, eval x X.env) :: starEach xs X.env) (hs2 : ∀ xs, starEach (y :: xs) X.env = (false, eval y X.env) :: starEach xs X.env)
    (h : PE X x (tE W T a)) (h' : PE X y (tE W T b)) : PI X t (.Call (.Name n p) [x, y] [] pos) (tI W T (.rng a b)) := by
  obtain ⟨G1, G2⟩ := hA.gl hg
  subst hn
  refine pi_imp (pi_range2 G1 (by rw [hA.mg]; exact w.range) (pa_cons h (pa_cons h' pa_nil (hs2 _)) (hs _)) (by rw [hs, hs2]; rfl) (by rw [hs2]; rfl)) fun vσ H R ⟨m, σ, S, k, hr, rs, hev, po⟩ => ?_
  refine ⟨m, σ, S, _, hr, rs, hev, fun d S1 m1 v H1 x1 hr1 r1 h1 => ?_⟩
  obtain ⟨i, e, h2⟩ := asI_of h1
  subst e
  cases r1
  refine ⟨m1, σ, S1, _, hr1, rs.mono x1, h2, fun d S2 m2 v H2 x2 hr2 r2 h3 => ?_⟩
  obtain ⟨j, e, h4⟩ := asI_of h3
  subst e
  cases r2
  obtain ⟨b1, b2⟩ := nat60 h4.1.1
  obtain ⟨b3, b4⟩ := nat60 h4.1.2
  exact ⟨i, j, rfl, ⟨b1, b2, b3, b4⟩, po none _ S2 m2 H2 _ (x1.trans x2) hr2 (src_rng i _) trivial h4.2⟩
/-! ### zip, enumerate -/
theorem zipD_get : ∀ (xs ys : List D) (i : Nat), (zipD xs ys)[i]? = match xs[i]?, ys[i]? with
    | some x, some y => some (.tup [x, y])
    | _, _ => none
  | [], ys, i => by simp [zipD]
  | x :: xs, [], i => by cases h : (x :: xs)[i]? <;> simp [zipD, h]
  | x :: xs, y :: ys, 0 => by simp [zipD]
  | x :: xs, y :: ys, i + 1 => by simp [zipD, zipD_get xs ys i]
theorem zipD_len : ∀ (xs ys : List D), (zipD xs ys).length = min xs.length ys.length
  | [], ys => by simp [zipD]
  | x :: xs, [] => by simp [zipD]
  | x :: xs, y :: ys => by simp [zipD, zipD_len xs ys]
theorem enmD_get : ∀ (xs : List D) (i : Nat) (n : Int), (enmD n xs)[i]? = (xs[i]?).map fun x => .tup [.int (n + i), x]
  | [], i, n => by simp [enmD]
  | x :: xs, 0, n => by simp [enmD]
  | x :: xs, i + 1, n => by
    simp only [enmD, List.getElem?_cons_succ, enmD_get xs i (n + 1)]
    congr 1
    funext x
    congr 3
    push_cast
    omega
theorem enmD_len : ∀ (xs : List D) (n : Int), (enmD n xs).length = xs.length
  | [], _ => rfl
  | x :: xs, n => by rw [enmD, List.length_cons, List.length_cons, enmD_len xs]
/-- a pair that has just been laid -/
theorem pair_ok {K : PySem.W.Frag} {m : Ms} {S : Store} {H H3 : Hp} {d e : D} {v w x : V} {p : Addr} (hr : HR K m S H) (r1 : RelD K m H d v) (r2 : RelD K m H e w) (hn : H p = none) (e1 : x = .ref p) (e2 : H3 = upd H p (.tup [v, w])) :
    Ext m H m H3 ∧ HR K m S H3 ∧ RelD K m H3 (.tup [d, e]) x := by
  subst e1 e2
  have hx : Ext m H m (upd H p (.tup [v, w])) := ext_new hn
  exact ⟨hx, hr.new hn, .tup (.inl (.inl upd_same)) (.cons (r1.mono hx) (.cons (r2.mono hx) .nil))⟩
theorem zip_pi (w : WOk W T B) (hA : At W c X) {n : Str} {p tp : Pos} {es : List Expr} {kk : Nat} (hg : isG c n = true) (hn : n = "zip") (hs : ∀ xs, starEach (x :: xs) X.env = (false, eval x X.env) :: starEach xs X.env) (hs2 : ∀ xs, starEach (y :: xs) X.env = (false, eval y X.env) :: starEach xs X.env)
    (h : PE X x (tE W T a)) (h' : PE X y (tE W T b)) : PI X (.Tuple es kk tp) (.Call (.Name n p) [x, y] [] pos) (tI W T (.zip a b)) := by
  obtain ⟨G1, G2⟩ := hA.gl hg
  subst hn
  refine pi_imp (pi_zm G1 (by rw [hA.mg]; exact w.zip) (pa_cons h (pa_cons h' pa_nil (hs2 _)) (hs _)) (hs _) (by rw [hs2]; rfl)) fun vσ H R ⟨m, σ, S, k, hr, rs, hev, po⟩ => ?_
  refine ⟨m, σ, S, _, hr, rs, hev, fun d S1 m1 v H1 x1 hr1 r1 h1 => ⟨m1, σ, S1, _, hr1, rs.mono x1, h1, fun d' S2 m2 v' H2 x2 hr2 r2 h2 => ?_⟩⟩
  have r1 := r1.mono x2
  rw [hA.k]
  cases r1 <;> try (exact h2.elim)
  · cases r2 <;> try (exact h2.elim)
    · rename_i ds p1 vs q1 rs1 es p2 ws q2 rs2
      refine ⟨p1, p2, vs, ws, rfl, .inr (.inl ⟨q1, q2, po none _ S2 m2 H2 _ (x1.trans x2) hr2 (fun m3 S3 H3 x3 hr3 _ => ⟨fun i d e => ?_, fun i hi => ⟨vs, ws, x3.sqt q1, x3.sqt q2, by rw [zipD_len] at hi; rw [← rs1.length, ← rs2.length]; omega⟩⟩) trivial h2⟩)⟩
      rw [zipD_get] at e
      split at e
      · rename_i d1 d2 e1 e2
        cases e
        obtain ⟨v1, f1, g1⟩ := (rs1.monoH x3).get e1
        obtain ⟨v2, f2, g2⟩ := (rs2.monoH x3).get e2
        refine ⟨⟨vs, ws, v1, v2, x3.sqt q1, x3.sqt q2, f1, f2⟩, fun u H4 ⟨P, a1, a2, eu, hP, eH, k1, k2⟩ => ?_⟩
        have z1 := (k1 vs (x3.sqt q1)).symm.trans f1
        have z2 := (k2 ws (x3.sqt q2)).symm.trans f2
        cases z1; cases z2
        exact pair_ok hr3 g1 g2 hP eu eH
      · cases e
    · rename_i ds p1 vs q1 rs1 es p2 ws q2 na2 rs2
      have l2 : ∀ {m3 H3}, Gh m2 H2 m3 H3 → SqL W.K H3 p2 ws := fun x3 => .inl (.inl (x3.keep _ _ q2 fun _ => na2))
      refine ⟨p1, p2, vs, ws, rfl, .inr (.inr ⟨q1, .inl (.inl q2), po none _ S2 m2 H2 _ (x1.trans x2) hr2 (fun m3 S3 H3 x3 hr3 _ => ⟨fun i d e => ?_, fun i hi => ⟨vs, ws, x3.sqt q1, l2 x3, by rw [zipD_len] at hi; rw [← rs1.length, ← rs2.length]; omega⟩⟩) trivial h2⟩)⟩
      rw [zipD_get] at e
      split at e
      · rename_i d1 d2 e1 e2
        cases e
        obtain ⟨v1, f1, g1⟩ := (rs1.monoH x3).get e1
        obtain ⟨v2, f2, g2⟩ := (rs2.monoH x3).get e2
        refine ⟨⟨vs, ws, v1, v2, x3.sqt q1, l2 x3, f1, f2⟩, fun u H4 ⟨P, a1, a2, eu, hP, eH, k1, k2⟩ => ?_⟩
        have z1 := (k1 vs (x3.sqt q1)).symm.trans f1
        have z2 := (k2 ws (l2 x3)).symm.trans f2
        cases z1; cases z2
        exact pair_ok hr3 g1 g2 hP eu eH
      · cases e
  · cases r2 <;> try (exact h2.elim)
    rename_i ds p1 vs q1 na1 rs1 es p2 ws q2 na2 rs2
    have l1 : ∀ {m3 H3}, Gh m2 H2 m3 H3 → SqL W.K H3 p1 vs := fun x3 => .inl (.inl (x3.keep _ _ q1 fun _ => na1))
    have l2 : ∀ {m3 H3}, Gh m2 H2 m3 H3 → SqL W.K H3 p2 ws := fun x3 => .inl (.inl (x3.keep _ _ q2 fun _ => na2))
    refine ⟨p1, p2, vs, ws, rfl, .inl ⟨.inl (.inl q1), .inl (.inl q2), po none _ S2 m2 H2 _ (x1.trans x2) hr2 (fun m3 S3 H3 x3 hr3 _ => ⟨fun i d e => ?_, fun i hi => ⟨vs, ws, l1 x3, l2 x3, by rw [zipD_len] at hi; rw [← rs1.length, ← rs2.length]; omega⟩⟩) trivial h2⟩⟩
    rw [zipD_get] at e
    split at e
    · rename_i d1 d2 e1 e2
      cases e
      obtain ⟨v1, f1, g1⟩ := (rs1.monoH x3).get e1
      obtain ⟨v2, f2, g2⟩ := (rs2.monoH x3).get e2
      refine ⟨⟨vs, ws, v1, v2, l1 x3, l2 x3, f1, f2⟩, fun u H4 ⟨P, a1, a2, eu, hP, eH, k1, k2⟩ => ?_⟩
      have z1 := (k1 vs (l1 x3)).symm.trans f1
      have z2 := (k2 ws (l2 x3)).symm.trans f2
      cases z1; cases z2
      exact pair_ok hr3 g1 g2 hP eu eH
    · cases e
theorem enm_pi (w : WOk W T B) (hA : At W c X) {n : Str} {p tp : Pos} {es : List Expr} {kk : Nat} (hg : isG c n = true) (hn : n = "enumerate") (hs : ∀ xs, starEach (x :: xs) X.env = (false, eval x X.env) :: starEach xs X.env)
    (h : PE X x (tE W T a)) : PI X (.Tuple es kk tp) (.Call (.Name n p) [x] [] pos) (tI W T (.enm a)) := by
  obtain ⟨G1, G2⟩ := hA.gl hg
  subst hn
  refine pi_imp (pi_en G1 (by rw [hA.mg]; exact w.enum) (pa_cons h pa_nil (hs _)) (by rw [hs]; rfl)) fun vσ H R ⟨m, σ, S, k, hr, rs, hev, po⟩ => ?_
  refine ⟨m, σ, S, _, hr, rs, hev, fun d S1 m1 v H1 x1 hr1 r1 h1 => ?_⟩
  rw [hA.k]
  cases r1 <;> try (exact h1.elim)
  · rename_i ds p1 vs q1 rs1
    refine ⟨p1, vs, rfl, .inr ⟨q1, po none _ S1 m1 H1 _ x1 hr1 (fun m3 S3 H3 x3 hr3 _ => ⟨fun i d e => ?_, fun i hi => ⟨vs, x3.sqt q1, by rw [enmD_len] at hi; rw [← rs1.length]; exact hi⟩⟩) trivial h1⟩⟩
    rw [enmD_get] at e
    cases e1 : ds[i]? with
    | none => rw [e1] at e; cases e
    | some d1 =>
      rw [e1] at e
      cases e
      obtain ⟨v1, f1, g1⟩ := (rs1.monoH x3).get e1
      refine ⟨⟨vs, v1, x3.sqt q1, f1⟩, fun u H4 ⟨P, a2, eu, hP, eH, k1⟩ => ?_⟩
      have z1 := (k1 vs (x3.sqt q1)).symm.trans f1
      cases z1
      have g0 : RelD W.K m3 H3 (.int (0 + (i : Int))) (.int (i : Int)) := by rw [Int.zero_add]; exact .int _
      exact pair_ok hr3 g0 g1 hP eu eH
  · rename_i ds p1 vs q1 na1 rs1
    have l1 : ∀ {m3 H3}, Gh m1 H1 m3 H3 → SqL W.K H3 p1 vs := fun x3 => .inl (.inl (x3.keep _ _ q1 fun _ => na1))
    refine ⟨p1, vs, rfl, .inl ⟨.inl (.inl q1), po none _ S1 m1 H1 _ x1 hr1 (fun m3 S3 H3 x3 hr3 _ => ⟨fun i d e => ?_, fun i hi => ⟨vs, l1 x3, by rw [enmD_len] at hi; rw [← rs1.length]; exact hi⟩⟩) trivial h1⟩⟩
    rw [enmD_get] at e
    cases e1 : ds[i]? with
    | none => rw [e1] at e; cases e
    | some d1 =>
      rw [e1] at e
      cases e
      obtain ⟨v1, f1, g1⟩ := (rs1.monoH x3).get e1
      refine ⟨⟨vs, v1, l1 x3, f1⟩, fun u H4 ⟨P, a2, eu, hP, eH, k1⟩ => ?_⟩
      have z1 := (k1 vs (l1 x3)).symm.trans f1
      cases z1
      have g0 : RelD W.K m3 H3 (.int (0 + (i : Int))) (.int (i : Int)) := by rw [Int.zero_add]; exact .int _
      exact pair_ok hr3 g0 g1 hP eu eH
end
end FV
set_option Elab.async false
set_option linter.all false
set_option maxRecDepth 100000
set_option maxHeartbeats 8000000
/-! Sound7: all expressions. -/
namespace FV
open PySem L2
theorem nopeT {P : Prop} (h : false = true) : P := absurd h Bool.false_ne_true
section
variable {W : Wd} {T : Nat → Option Fn} {B : Tb}
theorem ne_nil {xs : List Expr} (h : (!xs.isEmpty) = true) : ∃ y ys, xs = y :: ys := by
  cases xs with
  | nil => cases h
  | cons y ys => exact ⟨y, ys, rfl⟩
theorem pw_bool {X : Cx} {op : BoolOp} {xs : List Expr} {p : Pos} {t : TT} (h : PT X (.BoolOp op xs p) t) : PW X (.BoolOp op xs p) t := ⟨fun wh pins s σ H Q I q => h.run pins s σ H Q I q⟩
theorem chks_len {c : Ck} : ∀ {es : List E} {xs : List Expr}, chks B c es xs = true → es.length = xs.length
  | [], [], _ => rfl
  | [], _ :: _, h => nopeT h
  | _ :: _, [], h => nopeT h
  | e :: es, y :: ys, h => by
    have h : (chk B c e y && chks B c es ys) = true := h
    rw [Bool.and_eq_true] at h
    rw [List.length_cons, List.length_cons, chks_len h.2]
theorem kws_len {n : Nat} : ∀ {ks : List Keyword}, ks.all (·.arg.isSome) = true → n = (ks.map (·.value)).length → n = (ks.filterMap (·.arg)).length := by
  intro ks h e
  rw [e, List.length_map]
  clear e
  induction ks with
  | nil => rfl
  | cons k ks ih =>
    obtain ⟨a, v, p⟩ := k
    cases a with
    | none => cases h
    | some a => rw [List.filterMap_cons]; exact congrArg (· + 1) (ih h)
mutual
theorem pe_ok (w : WOk W T B) : ∀ (e : E) (c : Ck) (X : Cx) (x : Expr), At W c X → chk B c e x = true → PE X x (tE W T e)
  | .var i, c, X, x, hA, h => by
    cases x <;> try (exact nopeT h)
    exact var_ok hA h
  | .cst d, c, X, x, hA, h => by
    cases x <;> try (exact nopeT h)
    exact cst_ok h
  | .glb n d, c, X, x, hA, h => by
    cases x <;> try (exact nopeT h)
    exact glb_ok w hA h
  | .bin op a b, c, X, x, hA, h => by
    cases x <;> try (exact nopeT h)
    simp only [chk, Bool.and_eq_true] at h
    exact bin_ok hA h.1.1 (pe_ok w a c X _ hA h.1.2) (pe_ok w b c X _ hA h.2)
  | .neg a, c, X, x, hA, h => by
    cases x <;> try (exact nopeT h)
    rename_i op x p
    cases op <;> try (exact nopeT h)
    exact neg_ok (pe_ok w a c X _ hA h)
  | .not a, c, X, x, hA, h => by
    cases x <;> try (exact nopeT h)
    rename_i op x p
    cases op <;> try (exact nopeT h)
    exact notv_of (pe_ok w a c X _ hA h)
  | .cmp op a b, c, X, x, hA, h => by
    cases x <;> try (exact nopeT h)
    rename_i x os ys p
    rcases os with _ | ⟨o, _ | ⟨o', os⟩⟩ <;> rcases ys with _ | ⟨y, _ | ⟨y', ys⟩⟩ <;> try (exact nopeT h)
    simp only [chk, Bool.and_eq_true, Bool.not_eq_true'] at h
    exact cmpv_ok hA h.1.1.1 h.1.1.2 (pe_ok w a c X _ hA h.1.2) (pe_ok w b c X _ hA h.2)
  | .cmp2 op op' a b d, c, X, x, hA, h => by
    cases x <;> try (exact nopeT h)
    rename_i x os ys p
    rcases os with _ | ⟨o, _ | ⟨o', _ | ⟨o2, os⟩⟩⟩ <;> rcases ys with _ | ⟨y, _ | ⟨y', _ | ⟨y2, ys⟩⟩⟩ <;> try (exact nopeT h)
    simp only [chk, Bool.and_eq_true, Bool.not_eq_true'] at h
    exact cmp2v_ok hA h.1.1.1.1.1 h.1.1.1.1.2 h.1.1.1.2 (pe_ok w a c X _ hA h.1.1.2) (pe_ok w b c X _ hA h.1.2) (pe_ok w d c X _ hA h.2)
  | .and a b, c, X, x, hA, h => by
    cases x <;> try (exact nopeT h)
    rename_i op xs p
    cases op
    · rcases xs with _ | ⟨x, _ | ⟨y, _ | ⟨z, r⟩⟩⟩ <;> try (exact nopeT h)
      · simp only [chk, Bool.and_eq_true] at h
        exact andv_of (pe_ok w a c X _ hA h.1) (pe_one (pe_ok w b c X _ hA h.2))
      · simp only [chk, Bool.and_eq_true] at h
        exact andv_of (pe_ok w a c X _ hA h.1) (pe_ok w b c X _ hA h.2)
    · rcases xs with _ | ⟨x, _ | ⟨y, _ | ⟨z, r⟩⟩⟩ <;> (exact nopeT h)
  | .or a b, c, X, x, hA, h => by
    cases x <;> try (exact nopeT h)
    rename_i op xs p
    cases op
    · rcases xs with _ | ⟨x, _ | ⟨y, _ | ⟨z, r⟩⟩⟩ <;> (exact nopeT h)
    · rcases xs with _ | ⟨x, _ | ⟨y, _ | ⟨z, r⟩⟩⟩ <;> try (exact nopeT h)
      · simp only [chk, Bool.and_eq_true] at h
        exact orv_of (pe_ok w a c X _ hA h.1) (pe_one (pe_ok w b c X _ hA h.2))
      · simp only [chk, Bool.and_eq_true] at h
        exact orv_of (pe_ok w a c X _ hA h.1) (pe_ok w b c X _ hA h.2)
  | .ite t a b, c, X, x, hA, h => by
    cases x <;> try (exact nopeT h)
    simp only [chk, Bool.and_eq_true] at h
    exact ite_of (pt_ok w t c X _ hA h.1.1) (pe_ok w a c X _ hA h.1.2) (pe_ok w b c X _ hA h.2)
  | .tup es, c, X, x, hA, h => by
    cases x <;> try (exact nopeT h)
    simp only [chk, Bool.and_eq_true, decide_eq_true_eq] at h
    exact tup_ok h.1 (pas_ok w es c X _ hA h.2)
  | .lst fr es, c, X, x, hA, h => by
    cases x <;> try (exact nopeT h)
    simp only [chk, Bool.and_eq_true, decide_eq_true_eq] at h
    exact lst_ok h.1 (pas_ok w es c X _ hA h.2)
  | .idx a i, c, X, x, hA, h => by
    cases x <;> try (exact nopeT h)
    simp only [chk, Bool.and_eq_true] at h
    exact idx_of hA h.1.1 (pe_ok w a c X _ hA h.1.2) (pe_ok w i c X _ hA h.2)
  | .slc a lo hi, c, X, x, hA, h => by
    cases x <;> try (exact nopeT h)
    rename_i x y p
    cases y <;> try (exact nopeT h)
    rename_i l h' st p2
    cases st <;> try (exact nopeT h)
    simp only [chk, Bool.and_eq_true] at h
    exact slc_of hA (pe_ok w a c X _ hA h.1.1) (pos_ok w lo c X _ hA h.1.2) (pos_ok w hi c X _ hA h.2)
  | .rev a, c, X, x, hA, h => by
    cases x <;> try (exact nopeT h)
    rename_i x y p
    cases y <;> try (exact nopeT h)
    rename_i l h' st p2
    rcases l with _ | l <;> rcases h' with _ | h' <;> rcases st with _ | st <;> try (exact nopeT h)
    cases st <;> try (exact nopeT h)
    rename_i o z p3
    cases o <;> try (exact nopeT h)
    cases z <;> try (exact nopeT h)
    rename_i z k p4
    cases z <;> try (exact nopeT h)
    simp only [chk, Bool.and_eq_true, decide_eq_true_eq] at h
    obtain ⟨h1, h2⟩ := h
    subst h1
    exact rev_of hA (pe_ok w a c X _ hA h2)
  | .dct, c, X, x, hA, h => by
    cases x <;> try (exact nopeT h)
    rename_i ks vs p
    cases ks <;> cases vs <;> first | exact dct_of hA | exact nopeT h
  | .cat fr a b, c, X, x, hA, h => by
    cases x <;> try (exact nopeT h)
    simp only [chk, Bool.and_eq_true] at h
    exact catv_of hA h.1.1 (pe_ok w a c X _ hA h.1.2) (pe_ok w b c X _ hA h.2)
  | .isn neg a b, c, X, x, hA, h => by
    cases x <;> try (exact nopeT h)
    rename_i x os ys p
    rcases os with _ | ⟨o, _ | ⟨o', os⟩⟩ <;> rcases ys with _ | ⟨y, _ | ⟨y', ys⟩⟩ <;> try (exact nopeT h)
    simp only [chk, Bool.and_eq_true, Bool.not_eq_true', decide_eq_true_eq] at h
    obtain ⟨⟨⟨h0, h1⟩, h2⟩, h3⟩ := h
    subst h0
    exact isnv_ok hA h1 (pe_ok w a c X _ hA h2) (pe_ok w b c X _ hA h3)
  | .nset a, c, X, x, hA, h => by
    cases x <;> try (exact nopeT h)
    rename_i g xs ks p
    cases g <;> try (exact nopeT h)
    rcases xs with _ | ⟨y, _ | ⟨z, zs⟩⟩
    · exact nopeT h
    · cases y <;> try (exact nopeT h)
      rename_i g2 ys ks2 p2
      cases g2 <;> try (exact nopeT h)
      rcases ys with _ | ⟨y, _ | ⟨z, zs⟩⟩
      · exact nopeT h
      · cases ks2 <;> try (exact nopeT h)
        cases ks <;> try (exact nopeT h)
        simp only [chk, Bool.and_eq_true, decide_eq_true_eq] at h
        obtain ⟨⟨⟨⟨h0, h1⟩, h2⟩, h3⟩, h4⟩ := h
        exact nset_of w hA h0 h1 h2 h3 (pe_ok w a c X _ hA h4) (star_cons h4)
      · cases ks2 <;> exact nopeT h
    · cases y <;> first
        | exact nopeT h
        | (rename_i g2 ys ks2 p2
           cases g2 <;> first
             | exact nopeT h
             | (rcases ys with _ | ⟨y2, _ | ⟨y3, ys⟩⟩ <;> first
                 | exact nopeT h
                 | (cases ks2 <;> exact nopeT h)))
  | .cnt es e, c, X, x, hA, h => by
    cases x <;> try (exact nopeT h)
    rename_i g xs ks p
    cases g <;> try (exact nopeT h)
    rename_i o nm ap
    cases o <;> try (exact nopeT h)
    rcases xs with _ | ⟨y, _ | ⟨z, zs⟩⟩ <;> try (exact nopeT h)
    cases ks <;> try (exact nopeT h)
    simp only [chk, Bool.and_eq_true, decide_eq_true_eq] at h
    obtain ⟨⟨⟨⟨h0, h1⟩, h2⟩, h3⟩, h4⟩ := h
    subst h0
    exact cnt_of hA h1 h2 (pas_ok w es c X _ hA h3) (pe_ok w e c X _ hA h4) (star_cons h4)
  | .call f es, c, X, x, hA, h => by
    cases x <;> try (exact nopeT h)
    rename_i g xs ks p
    cases g <;> try (exact nopeT h)
    cases ks <;> try (exact nopeT h)
    simp only [chk, Bool.and_eq_true, decide_eq_true_eq] at h
    obtain ⟨⟨h0, h1⟩, h2⟩ := h
    cases es with
    | nil =>
      cases xs with
      | nil => exact call0_of w hA h0 h1
      | cons _ _ => exact nopeT h2
    | cons e es =>
      cases xs with
      | nil => exact nopeT h2
      | cons y ys =>
        have h3 := h2
        simp only [chks, Bool.and_eq_true] at h3
        exact call_of w hA h0 h1 (star_cons h3.1) (star_any h3.2) (pas_ok w (e :: es) c X _ hA h2)
  | .callk f ord es, c, X, x, hA, h => by
    cases x <;> try (exact nopeT h)
    rename_i g xs ks p
    cases g <;> try (exact nopeT h)
    cases xs <;> try (exact nopeT h)
    simp only [chk, Bool.and_eq_true, decide_eq_true_eq] at h
    obtain ⟨⟨⟨⟨⟨h0, h1⟩, h2⟩, h3⟩, h4⟩, h5⟩ := h
    exact callk_of w hA h0 h1 h2 h3 (kws_len h2 (chks_len h5)) (pks_ok w es c X ks hA h5)
  | .bi b es, c, X, x, hA, h => by
    cases x <;> try (exact nopeT h)
    rename_i g xs ks p
    cases g <;> try (exact nopeT h)
    cases ks <;> try (exact nopeT h)
    simp only [chk, Bool.and_eq_true, decide_eq_true_eq] at h
    obtain ⟨y, ys, rfl⟩ := ne_nil h.1.2
    cases es with
    | nil => simp only [chks] at h; cases h.2
    | cons e es =>
      have h2 := h.2
      simp only [chks, Bool.and_eq_true] at h2
      exact bi_of w hA h.1.1.1.1 h.1.1.1.2 h.1.1.2 (star_cons h2.1) (star_any h2.2) (pas_ok w (e :: es) c X _ hA h.2)
  | .isi e t, c, X, x, hA, h => by
    cases x <;> try (exact nopeT h)
    rename_i g xs ks p
    cases g <;> try (exact nopeT h)
    rcases xs with _ | ⟨y, _ | ⟨z, _ | ⟨z2, zs⟩⟩⟩ <;> try (exact nopeT h)
    · cases z <;> try (exact nopeT h)
      cases ks <;> try (exact nopeT h)
      simp only [chk, Bool.and_eq_true, decide_eq_true_eq] at h
      exact isi_of w hA h.1.1.1.1 h.1.1.1.2 h.1.1.2 h.1.2 (fun xs => star_cons h.2) (pe_ok w e c X _ hA h.2)
    · cases z <;> exact nopeT h
  | .isi2 e ts, c, X, x, hA, h => by
    cases x <;> try (exact nopeT h)
    rename_i g xs ks p
    cases g <;> try (exact nopeT h)
    rcases xs with _ | ⟨y, _ | ⟨z, _ | ⟨z2, zs⟩⟩⟩ <;> try (exact nopeT h)
    · cases z <;> try (exact nopeT h)
      cases ks <;> try (exact nopeT h)
      simp only [chk, Bool.and_eq_true, decide_eq_true_eq] at h
      exact isi2_of w hA h.1.1.1.1 h.1.1.1.2 h.1.1.2 h.1.2 (fun xs => star_cons h.2) (pe_ok w e c X _ hA h.2)
    · cases z <;> exact nopeT h
  | .lc fr own p it cond elt, c, X, x, hA, h => by
    cases x <;> try (exact nopeT h)
    rename_i x gs s pos
    rcases gs with _ | ⟨⟨t, i, ifs, a⟩, _ | ⟨g2, gs⟩⟩ <;> try (exact nopeT h)
    · rcases a with (_ | a) | a <;> try (exact nopeT h)
      have h : (blkC c.N c.sc s (ownN c own) && !isSet i && chkP (inC c s) p t && (varsP p).all (fun j => own.contains j) && chkI B c it i t && chkc B (inC c s) cond ifs && chk B (inC c s) elt x) = true := h
      simp only [Bool.and_eq_true, Bool.not_eq_true', List.all_eq_true] at h
      obtain ⟨⟨⟨⟨⟨⟨h1, h2⟩, h3⟩, h4⟩, h5⟩, h6⟩, h7⟩ := h
      refine lc_ok hA h1 h2 h3 (fun j hj => by simpa using h4 j hj) (pi_ok w it c X _ _ hA h5) (fun X' hA' => ptc_ok w cond _ X' _ hA' h6) fun X' hA' => pe_ok w elt _ X' _ hA' h7
    · rcases a with (_ | a) | a <;> exact nopeT h
  | .lc2 fr own p it cond own2 p2 it2 cond2 elt, c, X, x, hA, h => by
    cases x <;> try (exact nopeT h)
    rename_i x gs s pos
    rcases gs with _ | ⟨⟨t, i, ifs, a⟩, _ | ⟨⟨t2, i2, ifs2, a2⟩, _ | ⟨g3, gs⟩⟩⟩ <;> try (exact nopeT h)
    · rcases a with (_ | a) | a <;> exact nopeT h
    · rcases a with (_ | a) | a <;> try (exact nopeT h)
      rcases a2 with (_ | a2) | a2 <;> try (exact nopeT h)
      have h : ((blkC c.N c.sc s (ownN c own) && !isSet i && !isSet i2 && chkP (inC c s) p t && (varsP p).all (fun j => own.contains j) && chkP (inC c s) p2 t2 && (varsP p2).all (fun j => own2.contains j) && own2.all (fun j => own.contains j)) && (chkI B c it i t && chkc B (inC c s) cond ifs && chkI B (inC c s) it2 i2 t2 && chkc B (inC c s) cond2 ifs2 && chk B (inC c s) elt x)) = true := h
      simp only [Bool.and_eq_true, Bool.not_eq_true', List.all_eq_true] at h
      obtain ⟨⟨⟨⟨⟨⟨⟨⟨h1, h2⟩, h2'⟩, h3⟩, h4⟩, h3'⟩, h4'⟩, h8⟩, ⟨⟨⟨h5, h6⟩, h5'⟩, h6'⟩, h7⟩ := h
      exact lc2_ok hA h1 h2 h2' h3 (fun j hj => by simpa using h4 j hj) h3' (fun j hj => by simpa using h4' j hj) (fun j hj => by simpa using h8 j hj) (pi_ok w it c X _ _ hA h5) (fun X' hA' => ptc_ok w cond _ X' _ hA' h6) (fun X' hA' => pi_ok w it2 _ X' _ _ hA' h5') (fun X' hA' => ptc_ok w cond2 _ X' _ hA' h6') fun X' hA' => pe_ok w elt _ X' _ hA' h7
    · rcases a with (_ | a) | a <;> rcases a2 with (_ | a2) | a2 <;> exact nopeT h
  | .tcat fl es, c, X, x, hA, h => by
    cases x <;> try (exact nopeT h)
    rename_i xs j pos
    have h : (decide (es.length ≤ SZ) && chkss B c es fl xs) = true := h
    simp only [Bool.and_eq_true, decide_eq_true_eq] at h
    exact tcat_ok (pstar_ok w es fl c X _ hA h.2)
  | .rng _ _, c, X, x, hA, h => by cases x <;> (exact nopeT h)
  | .rng1 _, c, X, x, hA, h => by cases x <;> (exact nopeT h)
  | .zip _ _, c, X, x, hA, h => by cases x <;> (exact nopeT h)
  | .enm _, c, X, x, hA, h => by cases x <;> (exact nopeT h)
  | .app _ _, c, X, x, hA, h => by cases x <;> (exact nopeT h)
theorem pt_ok (w : WOk W T B) : ∀ (e : E) (c : Ck) (X : Cx) (x : Expr), At W c X → chkT B c e x = true → PT X x (tT W T e)
  | .not a, c, X, x, hA, h => by
    cases x <;> try (exact nopeT h)
    rename_i op x p
    cases op <;> try (exact nopeT h)
    exact nott_of (pt_ok w a c X _ hA h)
  | .and a b, c, X, x, hA, h => by
    cases x <;> try (exact nopeT h)
    rename_i op xs p
    cases op
    · rcases xs with _ | ⟨x, _ | ⟨y, _ | ⟨z, r⟩⟩⟩ <;> try (exact nopeT h)
      · simp only [chkT, Bool.and_eq_true] at h
        exact (andw_of (pt_ok w a c X _ hA h.1) (pw_and1 (pt_ok w b c X _ hA h.2))).pt
      · simp only [chkT, Bool.and_eq_true] at h
        exact (andw_of (pt_ok w a c X _ hA h.1) (pw_bool (pt_ok w b c X _ hA h.2))).pt
    · rcases xs with _ | ⟨x, _ | ⟨y, _ | ⟨z, r⟩⟩⟩ <;> (exact nopeT h)
  | .or a b, c, X, x, hA, h => by
    cases x <;> try (exact nopeT h)
    rename_i op xs p
    cases op
    · rcases xs with _ | ⟨x, _ | ⟨y, _ | ⟨z, r⟩⟩⟩ <;> (exact nopeT h)
    · rcases xs with _ | ⟨x, _ | ⟨y, _ | ⟨z, r⟩⟩⟩ <;> try (exact nopeT h)
      · simp only [chkT, Bool.and_eq_true] at h
        exact (orw_of (pt_ok w a c X _ hA h.1) (pw_or1 (pt_ok w b c X _ hA h.2))).pt
      · simp only [chkT, Bool.and_eq_true] at h
        exact (orw_of (pt_ok w a c X _ hA h.1) (pw_bool (pt_ok w b c X _ hA h.2))).pt
  | .cmp op a b, c, X, x, hA, h => by
    cases x <;> try (exact nopeT h)
    rename_i x os ys p
    rcases os with _ | ⟨o, _ | ⟨o', os⟩⟩ <;> rcases ys with _ | ⟨y, _ | ⟨y', ys⟩⟩ <;> try (exact nopeT h)
    simp only [chkT, Bool.and_eq_true, Bool.not_eq_true'] at h
    exact cmpt_ok hA h.1.1.1 h.1.1.2 (pe_ok w a c X _ hA h.1.2) (pe_ok w b c X _ hA h.2)
  | .cmp2 op op' a b d, c, X, x, hA, h => by
    cases x <;> try (exact nopeT h)
    rename_i x os ys p
    rcases os with _ | ⟨o, _ | ⟨o', _ | ⟨o2, os⟩⟩⟩ <;> rcases ys with _ | ⟨y, _ | ⟨y', _ | ⟨y2, ys⟩⟩⟩ <;> try (exact nopeT h)
    simp only [chkT, Bool.and_eq_true, Bool.not_eq_true'] at h
    exact cmp2t_ok hA h.1.1.1.1.1 h.1.1.1.1.2 h.1.1.1.2 (pe_ok w a c X _ hA h.1.1.2) (pe_ok w b c X _ hA h.1.2) (pe_ok w d c X _ hA h.2)
  | .isn neg a b, c, X, x, hA, h => by
    cases x <;> try (exact nopeT h)
    rename_i x os ys p
    rcases os with _ | ⟨o, _ | ⟨o', os⟩⟩ <;> rcases ys with _ | ⟨y, _ | ⟨y', ys⟩⟩ <;> try (exact nopeT h)
    simp only [chkT, Bool.and_eq_true, Bool.not_eq_true', decide_eq_true_eq] at h
    obtain ⟨⟨⟨h0, h1⟩, h2⟩, h3⟩ := h
    subst h0
    exact isnt_ok hA h1 (pe_ok w a c X _ hA h2) (pe_ok w b c X _ hA h3)
  | .var i, c, X, x, hA, h => by
    cases x <;> try (exact nopeT h)
    exact pt_leaf hA rfl rfl (var_ok hA h)
  | .idx a i, c, X, x, hA, h => by
    cases x <;> try (exact nopeT h)
    simp only [chkT, Bool.and_eq_true] at h
    exact pt_leaf hA rfl rfl (idx_of hA h.1.1 (pe_ok w a c X _ hA h.1.2) (pe_ok w i c X _ hA h.2))
  | .call f es, c, X, x, hA, h => by
    cases x <;> try (exact nopeT h)
    rename_i g xs ks p
    cases g <;> try (exact nopeT h)
    cases ks <;> try (exact nopeT h)
    simp only [chkT, Bool.and_eq_true, decide_eq_true_eq] at h
    obtain ⟨⟨h0, h1⟩, h2⟩ := h
    cases es with
    | nil =>
      cases xs with
      | nil => exact pt_leaf hA rfl rfl (call0_of w hA h0 h1)
      | cons _ _ => exact nopeT h2
    | cons e es =>
      cases xs with
      | nil => exact nopeT h2
      | cons y ys =>
        have h3 := h2
        simp only [chks, Bool.and_eq_true] at h3
        exact pt_leaf hA rfl rfl (call_of w hA h0 h1 (star_cons h3.1) (star_any h3.2) (pas_ok w (e :: es) c X _ hA h2))
  | .callk f ord es, c, X, x, hA, h => by
    cases x <;> try (exact nopeT h)
    rename_i g xs ks p
    cases g <;> try (exact nopeT h)
    cases xs <;> try (exact nopeT h)
    simp only [chkT, Bool.and_eq_true, decide_eq_true_eq] at h
    obtain ⟨⟨⟨⟨⟨h0, h1⟩, h2⟩, h3⟩, h4⟩, h5⟩ := h
    exact pt_leaf hA rfl rfl (callk_of w hA h0 h1 h2 h3 (kws_len h2 (chks_len h5)) (pks_ok w es c X ks hA h5))
  | .bi b es, c, X, x, hA, h => by
    cases x <;> try (exact nopeT h)
    rename_i g xs ks p
    cases g <;> try (exact nopeT h)
    cases ks <;> try (exact nopeT h)
    simp only [chkT, Bool.and_eq_true, decide_eq_true_eq] at h
    obtain ⟨y, ys, rfl⟩ := ne_nil h.1.2
    cases es with
    | nil => simp only [chks] at h; cases h.2
    | cons e es =>
      have h2 := h.2
      simp only [chks, Bool.and_eq_true] at h2
      exact pt_leaf hA rfl rfl (bi_of w hA h.1.1.1.1 h.1.1.1.2 h.1.1.2 (star_cons h2.1) (star_any h2.2) (pas_ok w (e :: es) c X _ hA h.2))
  | .isi e t, c, X, x, hA, h => by
    cases x <;> try (exact nopeT h)
    rename_i g xs ks p
    cases g <;> try (exact nopeT h)
    rcases xs with _ | ⟨y, _ | ⟨z, _ | ⟨z2, zs⟩⟩⟩ <;> try (exact nopeT h)
    · cases z <;> try (exact nopeT h)
      cases ks <;> try (exact nopeT h)
      simp only [chkT, Bool.and_eq_true, decide_eq_true_eq] at h
      exact pt_leaf hA rfl rfl (isi_of w hA h.1.1.1.1 h.1.1.1.2 h.1.1.2 h.1.2 (fun xs => star_cons h.2) (pe_ok w e c X _ hA h.2))
    · cases z <;> exact nopeT h
  | .isi2 e ts, c, X, x, hA, h => by
    cases x <;> try (exact nopeT h)
    rename_i g xs ks p
    cases g <;> try (exact nopeT h)
    rcases xs with _ | ⟨y, _ | ⟨z, _ | ⟨z2, zs⟩⟩⟩ <;> try (exact nopeT h)
    · cases z <;> try (exact nopeT h)
      cases ks <;> try (exact nopeT h)
      simp only [chkT, Bool.and_eq_true, decide_eq_true_eq] at h
      exact pt_leaf hA rfl rfl (isi2_of w hA h.1.1.1.1 h.1.1.1.2 h.1.1.2 h.1.2 (fun xs => star_cons h.2) (pe_ok w e c X _ hA h.2))
    · cases z <;> exact nopeT h
  | .cst _, c, X, x, hA, h => by cases x <;> (exact nopeT h)
  | .glb _ _, c, X, x, hA, h => by cases x <;> (exact nopeT h)
  | .bin _ _ _, c, X, x, hA, h => by cases x <;> (exact nopeT h)
  | .neg _, c, X, x, hA, h => by cases x <;> (exact nopeT h)
  | .ite _ _ _, c, X, x, hA, h => by cases x <;> (exact nopeT h)
  | .tup _, c, X, x, hA, h => by cases x <;> (exact nopeT h)
  | .lst _ _, c, X, x, hA, h => by cases x <;> (exact nopeT h)
  | .slc _ _ _, c, X, x, hA, h => by cases x <;> (exact nopeT h)
  | .rev _, c, X, x, hA, h => by cases x <;> (exact nopeT h)
  | .lc .., c, X, x, hA, h => by cases x <;> (exact nopeT h)
  | .lc2 .., c, X, x, hA, h => by cases x <;> (exact nopeT h)
  | .tcat .., c, X, x, hA, h => by cases x <;> (exact nopeT h)
  | .rng _ _, c, X, x, hA, h => by cases x <;> (exact nopeT h)
  | .rng1 _, c, X, x, hA, h => by cases x <;> (exact nopeT h)
  | .zip _ _, c, X, x, hA, h => by cases x <;> (exact nopeT h)
  | .enm _, c, X, x, hA, h => by cases x <;> (exact nopeT h)
  | .app _ _, c, X, x, hA, h => by cases x <;> (exact nopeT h)
  | .cnt _ _, c, X, x, hA, h => by cases x <;> (exact nopeT h)
  | .nset _, c, X, x, hA, h => by cases x <;> (exact nopeT h)
  | .dct, c, X, x, hA, h => by cases x <;> (exact nopeT h)
  | .cat _ _ _, c, X, x, hA, h => by cases x <;> (exact nopeT h)
theorem pas_ok (w : WOk W T B) : ∀ (es : List E) (c : Ck) (X : Cx) (xs : List Expr), At W c X → chks B c es xs = true → PA X xs (tA W T es)
  | [], c, X, xs, hA, h => by
    cases xs with
    | nil => exact nil_ok
    | cons _ _ => simp only [chks] at h; cases h
  | e :: es, c, X, xs, hA, h => by
    cases xs with
    | nil => simp only [chks] at h; cases h
    | cons x xs =>
      simp only [chks, Bool.and_eq_true] at h
      exact cons_ok (fun env => star_cons h.1) (pe_ok w e c X x hA h.1) (pas_ok w es c X xs hA h.2)
theorem pstar_ok (w : WOk W T B) : ∀ (es : List E) (fl : List Bool) (c : Ck) (X : Cx) (xs : List Expr), At W c X → chkss B c es fl xs = true → PA X xs (tAS W T fl es)
  | [], fl, c, X, xs, hA, h => by
    cases fl with
    | nil =>
      cases xs with
      | nil => exact nils_ok
      | cons _ _ => exact nopeT h
    | cons _ _ => exact nopeT h
  | e :: es, fl, c, X, xs, hA, h => by
    cases fl with
    | nil => exact nopeT h
    | cons f fl =>
      cases xs with
      | nil => cases f <;> exact nopeT h
      | cons x xs =>
        cases f with
        | false =>
          have h : (chk B c e x && chkss B c es fl xs) = true := h
          rw [Bool.and_eq_true] at h
          exact conss_ok (fun env => star_cons h.1) (pe_ok w e c X x hA h.1) (pstar_ok w es fl c X xs hA h.2)
        | true =>
          cases x <;> try (exact nopeT h)
          rename_i y sp
          have h : (chk B c e y && chkss B c es fl xs) = true := h
          rw [Bool.and_eq_true] at h
          exact starc_ok hA (pe_ok w e c X y hA h.1) (pstar_ok w es fl c X xs hA h.2)
theorem pks_ok (w : WOk W T B) : ∀ (es : List E) (c : Ck) (X : Cx) (ks : List Keyword), At W c X → chks B c es (ks.map (·.value)) = true → PK X ks (tA W T es)
  | [], c, X, ks, hA, h => by
    cases ks with
    | nil => exact nilk_ok
    | cons _ _ => exact nopeT h
  | e :: es, c, X, ks, hA, h => by
    cases ks with
    | nil => exact nopeT h
    | cons k ks =>
      obtain ⟨nm, x, kp⟩ := k
      have h : (chk B c e x && chks B c es (ks.map (·.value))) = true := h
      rw [Bool.and_eq_true] at h
      exact consk_ok (pe_ok w e c X x hA h.1) (pks_ok w es c X ks hA h.2)
theorem pos_ok (w : WOk W T B) : ∀ (e : Option E) (c : Ck) (X : Cx) (x : Option Expr), At W c X → chko B c e x = true → PO X x (tO W T e)
  | none, c, X, x, hA, h => by
    cases x with
    | none => exact none_ok
    | some _ => simp only [chko] at h; cases h
  | some e, c, X, x, hA, h => by
    cases x with
    | none => simp only [chko] at h; cases h
    | some x => exact some_ok (pe_ok w e c X x hA h)
theorem ptc_ok (w : WOk W T B) : ∀ (e : Option E) (c : Ck) (X : Cx) (xs : List Expr), At W c X → chkc B c e xs = true → PTs X xs (tC W T e)
  | none, c, X, xs, hA, h => by
    rcases xs with _ | ⟨y, _ | ⟨z, ys⟩⟩ <;> try (exact nopeT h)
    exact pts_none
  | some e, c, X, xs, hA, h => by
    rcases xs with _ | ⟨y, _ | ⟨z, ys⟩⟩ <;> try (exact nopeT h)
    exact pts_some (pt_ok w e c X y hA h)
theorem pi_ok (w : WOk W T B) : ∀ (e : E) (c : Ck) (X : Cx) (x t : Expr), At W c X → chkI B c e x t = true → PI X t x (tI W T e)
  | .rng1 b, c, X, x, t, hA, h => by
    cases x <;> try (exact nopeT h)
    rename_i g xs ks p
    cases g <;> try (exact nopeT h)
    rcases xs with _ | ⟨y, _ | ⟨z, zs⟩⟩ <;> try (exact nopeT h)
    cases ks <;> try (exact nopeT h)
    simp only [chkI, Bool.and_eq_true, decide_eq_true_eq] at h
    exact rng1_pi w hA h.1.1 h.1.2 (fun xs => star_cons h.2) (pe_ok w b c X _ hA h.2)
  | .rng a b, c, X, x, t, hA, h => by
    cases x <;> try (exact nopeT h)
    rename_i g xs ks p
    cases g <;> try (exact nopeT h)
    rcases xs with _ | ⟨y, _ | ⟨z, _ | ⟨z2, zs⟩⟩⟩ <;> try (exact nopeT h)
    cases ks <;> try (exact nopeT h)
    simp only [chkI, Bool.and_eq_true, decide_eq_true_eq] at h
    exact rng_pi w hA h.1.1.1 h.1.1.2 (fun xs => star_cons h.1.2) (fun xs => star_cons h.2) (pe_ok w a c X _ hA h.1.2) (pe_ok w b c X _ hA h.2)
  | .zip a b, c, X, x, t, hA, h => by
    cases x <;> try (exact nopeT h)
    rename_i g xs ks p
    cases g <;> try (exact nopeT h)
    rcases xs with _ | ⟨y, _ | ⟨z, _ | ⟨z2, zs⟩⟩⟩ <;> try (exact nopeT h)
    cases ks <;> try (exact nopeT h)
    cases t <;> try (exact nopeT h)
    simp only [chkI, Bool.and_eq_true, decide_eq_true_eq] at h
    exact zip_pi w hA h.1.1.1 h.1.1.2 (fun xs => star_cons h.1.2) (fun xs => star_cons h.2) (pe_ok w a c X _ hA h.1.2) (pe_ok w b c X _ hA h.2)
  | .enm a, c, X, x, t, hA, h => by
    cases x <;> try (exact nopeT h)
    rename_i g xs ks p
    cases g <;> try (exact nopeT h)
    rcases xs with _ | ⟨y, _ | ⟨z, zs⟩⟩ <;> try (exact nopeT h)
    cases ks <;> try (exact nopeT h)
    cases t <;> try (exact nopeT h)
    simp only [chkI, Bool.and_eq_true, decide_eq_true_eq] at h
    exact enm_pi w hA h.1.1 h.1.2 (fun xs => star_cons h.2) (pe_ok w a c X _ hA h.2)
  | .var i, c, X, x, t, hA, h => by
    cases x <;> try (exact nopeT h)
    exact seq_pi hA (var_ok hA h)
  | .glb n d, c, X, x, t, hA, h => by
    cases x <;> try (exact nopeT h)
    exact seq_pi hA (glb_ok w hA h)
  | .tup es, c, X, x, t, hA, h => by
    cases x <;> try (exact nopeT h)
    simp only [chkI, Bool.and_eq_true, decide_eq_true_eq] at h
    exact seq_pi hA (tup_ok h.1 (pas_ok w es c X _ hA h.2))
  | .lst fr es, c, X, x, t, hA, h => by
    cases x <;> try (exact nopeT h)
    simp only [chkI, Bool.and_eq_true, decide_eq_true_eq] at h
    exact seq_pi hA (lst_ok h.1 (pas_ok w es c X _ hA h.2))
  | .call f es, c, X, x, t, hA, h => by
    cases x <;> try (exact nopeT h)
    rename_i g xs ks p
    cases g <;> try (exact nopeT h)
    cases ks <;> try (exact nopeT h)
    simp only [chkI, Bool.and_eq_true, decide_eq_true_eq] at h
    obtain ⟨⟨h0, h1⟩, h2⟩ := h
    cases es with
    | nil =>
      cases xs with
      | nil => exact seq_pi hA (call0_of w hA h0 h1)
      | cons _ _ => exact nopeT h2
    | cons e es =>
      cases xs with
      | nil => exact nopeT h2
      | cons y ys =>
        have h3 := h2
        simp only [chks, Bool.and_eq_true] at h3
        exact seq_pi hA (call_of w hA h0 h1 (star_cons h3.1) (star_any h3.2) (pas_ok w (e :: es) c X _ hA h2))
  | .callk f ord es, c, X, x, t, hA, h => by
    cases x <;> try (exact nopeT h)
    rename_i g xs ks p
    cases g <;> try (exact nopeT h)
    cases xs <;> try (exact nopeT h)
    simp only [chkI, Bool.and_eq_true, decide_eq_true_eq] at h
    obtain ⟨⟨⟨⟨⟨h0, h1⟩, h2⟩, h3⟩, h4⟩, h5⟩ := h
    exact seq_pi hA (callk_of w hA h0 h1 h2 h3 (kws_len h2 (chks_len h5)) (pks_ok w es c X ks hA h5))
  | .idx a i, c, X, x, t, hA, h => by
    cases x <;> try (exact nopeT h)
    simp only [chkI, Bool.and_eq_true] at h
    exact seq_pi hA (idx_of hA h.1.1 (pe_ok w a c X _ hA h.1.2) (pe_ok w i c X _ hA h.2))
  | .slc a lo hi, c, X, x, t, hA, h => by
    cases x <;> try (exact nopeT h)
    rename_i x y p
    cases y <;> try (exact nopeT h)
    rename_i l h' st p2
    cases st <;> try (exact nopeT h)
    simp only [chkI, Bool.and_eq_true] at h
    exact seq_pi hA (slc_of hA (pe_ok w a c X _ hA h.1.1) (pos_ok w lo c X _ hA h.1.2) (pos_ok w hi c X _ hA h.2))
  | .cst _, c, X, x, t, hA, h => by cases x <;> (exact nopeT h)
  | .bin op a b, c, X, x, t, hA, h => by
    cases x <;> try (exact nopeT h)
    simp only [chkI, Bool.and_eq_true] at h
    exact seq_pi hA (bin_ok hA h.1.1 (pe_ok w a c X _ hA h.1.2) (pe_ok w b c X _ hA h.2))
  | .neg _, c, X, x, t, hA, h => by cases x <;> (exact nopeT h)
  | .not _, c, X, x, t, hA, h => by cases x <;> (exact nopeT h)
  | .cmp _ _ _, c, X, x, t, hA, h => by cases x <;> (exact nopeT h)
  | .cmp2 _ _ _ _ _, c, X, x, t, hA, h => by cases x <;> (exact nopeT h)
  | .and _ _, c, X, x, t, hA, h => by cases x <;> (exact nopeT h)
  | .or _ _, c, X, x, t, hA, h => by cases x <;> (exact nopeT h)
  | .ite _ _ _, c, X, x, t, hA, h => by cases x <;> (exact nopeT h)
  | .rev _, c, X, x, t, hA, h => by cases x <;> (exact nopeT h)
  | .bi _ _, c, X, x, t, hA, h => by cases x <;> (exact nopeT h)
  | .isi _ _, c, X, x, t, hA, h => by cases x <;> (exact nopeT h)
  | .isi2 _ _, c, X, x, t, hA, h => by cases x <;> (exact nopeT h)
  | .lc .., c, X, x, t, hA, h => by cases x <;> (exact nopeT h)
  | .lc2 .., c, X, x, t, hA, h => by cases x <;> (exact nopeT h)
  | .tcat .., c, X, x, t, hA, h => by cases x <;> (exact nopeT h)
  | .app _ _, c, X, x, t, hA, h => by cases x <;> (exact nopeT h)
  | .cnt _ _, c, X, x, t, hA, h => by cases x <;> (exact nopeT h)
  | .nset _, c, X, x, t, hA, h => by cases x <;> (exact nopeT h)
  | .dct, c, X, x, t, hA, h => by cases x <;> (exact nopeT h)
  | .cat _ _ _, c, X, x, t, hA, h => by cases x <;> (exact nopeT h)
  | .isn _ _ _, c, X, x, t, hA, h => by cases x <;> (exact nopeT h)
end
end
end FV
set_option Elab.async false
set_option linter.all false
set_option maxRecDepth 100000
set_option maxHeartbeats 8000000
/-! Sound8: statements, one by one. -/
namespace FV
open PySem L2
/-! ### what is wanted behind a statement -/
structure PoN (K : PySem.W.Frag) (m : Ms) (H : Hp) (N : FV.Ends) (D : L2.Ends) : Prop where
  nx : ∀ σ S' m' vσ H', Ext m H m' H' → HR K m' S' H' → RS K m' H' σ vσ → N.nx σ S' → D.nx vσ H'
  rt : Po K m H N.rt D.rt
  bk : ∀ σ S' m' vσ H', Ext m H m' H' → HR K m' S' H' → RS K m' H' σ vσ → N.bk σ S' → D.bk vσ H'
  ct : ∀ σ S' m' vσ H', Ext m H m' H' → HR K m' S' H' → RS K m' H' σ vσ → N.ct σ S' → D.ct vσ H'
def tS (W : Wd) (T : Nat → Option Fn) (s : Sm) : L2.TS := fun D vσ H => ∃ m σ S N, HR W.K m S H ∧ RS W.K m H σ vσ ∧ ex (callw T W.n) XF s σ S N ∧ PoN W.K m H N D
def tSs (W : Wd) (T : Nat → Option Fn) (s : List Sm) : L2.TS := fun D vσ H => ∃ m σ S N, HR W.K m S H ∧ RS W.K m H σ vσ ∧ exs (callw T W.n) XF s σ S N ∧ PoN W.K m H N D
theorem ps_imp {X : Cx} {e : Stmt} {t t' : L2.TS} (h : PS X e t) (w : ∀ D σ H, t' D σ H → t D σ H) : PS X e t' := ⟨fun pins s σ H D I q => h.run pins s σ H D I (w _ _ _ q)⟩
theorem pss_imp {X : Cx} {e : List Stmt} {t t' : L2.TS} (h : PSs X e t) (w : ∀ D σ H, t' D σ H → t D σ H) : PSs X e t' := ⟨fun pins s σ H D I q => h.run pins s σ H D I (w _ _ _ q)⟩
section
variable {K : PySem.W.Frag} {m m' : Ms} {H H' : Hp} {N : FV.Ends} {D : L2.Ends}
theorem PoN.ext (p : PoN K m H N D) (x : Ext m H m' H') : PoN K m' H' N D :=
  ⟨fun σ S2 m2 vσ H2 y => p.nx σ S2 m2 vσ H2 (x.trans y), p.rt.ext x, fun σ S2 m2 vσ H2 y => p.bk σ S2 m2 vσ H2 (x.trans y), fun σ S2 m2 vσ H2 y => p.ct σ S2 m2 vσ H2 (x.trans y)⟩
end
/-! ### stores that are swapped -/
def isStar : Expr → Bool
  | .Starred .. => true
  | _ => false
def lnOf (ts : List Expr) : Nat := (ts.head?.map (·.pos.line)).getD 0
def nmOf (sc : Scope) (l : Nat) : Expr → Option Str
  | .Name id pos => if sc.names.lookup id == some .local && pos.line == l then some id else none
  | _ => none
theorem sw_eq {env : PySem.Env} {ts vs : List Expr} {k k2 p p2} (hk : env.scope.kind = .function) : ∃ u, swappedStores [.Tuple ts k p] (.Tuple vs k2 p2) env =
    (if (!(ts.length == 2 || ts.length == 3) || vs.length != ts.length || ScopeKind.function != ScopeKind.function) = true then pure none else if vs.any isStar = true then pure none
     else if ((ts.filterMap (nmOf env.scope (lnOf ts))).length != ts.length || (ts.filterMap (nmOf env.scope (lnOf ts))).eraseDups.length != (ts.filterMap (nmOf env.scope (lnOf ts))).length) = true then pure none
     else if vs.all (foldedForSure 8) = true then pure none else if vs.all (constantsAlone 8) = true then u else pure (some (ts.filterMap (nmOf env.scope (lnOf ts))))) := by
  have hb : env.blockKind = .function := by unfold Env.blockKind; rw [hk]; rfl
  refine ⟨?u, ?_⟩
  rotate_left
  · unfold swappedStores
    simp only [hb]
    rfl
/-- no store of names alone -/
def noSw (sc : Scope) (tg v : Expr) : Bool := match tg, v with
  | .Tuple ts _ _, .Tuple vs _ _ => !(ts.length == 2 || ts.length == 3) || vs.length != ts.length || (ts.filterMap (nmOf sc (lnOf ts))).length != ts.length || vs.all (foldedForSure 8)
  | .List .., _ => false
  | _, _ => true
theorem sw_none {env : PySem.Env} {tg v : Expr} (hk : env.scope.kind = .function) (h : noSw env.scope tg v = true) : swappedStores [tg] v env = pure none := by
  cases tg <;> cases v <;> first
    | rfl
    | (cases h; done)
    | skip
  rename_i ts k p vs k2 p2
  obtain ⟨u, e⟩ := sw_eq (k := k) (k2 := k2) (p := p) (p2 := p2) (ts := ts) (vs := vs) hk
  rw [e]
  have h : (!(ts.length == 2 || ts.length == 3) || vs.length != ts.length || (ts.filterMap (nmOf env.scope (lnOf ts))).length != ts.length || vs.all (foldedForSure 8)) = true := h
  rw [Bool.or_eq_true] at h
  rcases h with h | h
  · rw [Bool.or_eq_true] at h
    rcases h with h | h
    · rw [if_pos]
      rw [Bool.or_eq_true]
      exact .inl h
    · split
      · rfl
      · split
        · rfl
        · rw [if_pos (by simp [h])]
  · split
    · rfl
    · split
      · rfl
      · split
        · rfl
        · first | rfl | rw [if_pos h]
/-- two or three names, one line -/
def parN (sc : Scope) (l : Nat) (x : Str) (p : Pos) : Bool := decide (sc.names.lookup x = some .local) && p.line == l
theorem parN_ok {sc : Scope} {l : Nat} {x : Str} {p : Pos} (h : parN sc l x p = true) : nmOf sc l (.Name x p) = some x ∧ sc.names.lookup x = some .local := by
  simp only [parN, Bool.and_eq_true, decide_eq_true_eq] at h
  refine ⟨?_, h.1⟩
  simp [nmOf, h.1, h.2]
theorem sw_two {env : PySem.Env} {x y : Str} {px py p p2 : Pos} {a b : Expr} {k k2} (hk : env.scope.kind = .function) (hx : parN env.scope px.line x px = true) (hy : parN env.scope px.line y py = true) (hne : x ≠ y)
    (hs : isStar a = false ∧ isStar b = false) (h1 : [a, b].all (foldedForSure 8) = false) (h2 : [a, b].all (constantsAlone 8) = false) :
    swappedStores [.Tuple [.Name x px, .Name y py] k p] (.Tuple [a, b] k2 p2) env = pure (some [x, y]) := by
  obtain ⟨u, e⟩ := sw_eq (ts := [.Name x px, .Name y py]) (vs := [a, b]) (k := k) (k2 := k2) (p := p) (p2 := p2) hk
  rw [e]
  have hl : lnOf [Expr.Name x px, Expr.Name y py] = px.line := rfl
  have hf : [Expr.Name x px, Expr.Name y py].filterMap (nmOf env.scope px.line) = [x, y] := by
    simp [(parN_ok hx).1, (parN_ok hy).1]
  rw [hl, hf, if_neg (by simp), if_neg (by simp [hs.1, hs.2]), if_neg, if_neg (by rw [h1]; decide), if_neg (by rw [h2]; decide)]
  simp [List.eraseDups_cons, hne, Ne.symm hne]
theorem sw_three {env : PySem.Env} {x y z : Str} {px py pz p p2 : Pos} {a b d : Expr} {k k2} (hk : env.scope.kind = .function) (hx : parN env.scope px.line x px = true) (hy : parN env.scope px.line y py = true) (hz : parN env.scope px.line z pz = true) (hne : x ≠ y ∧ x ≠ z ∧ y ≠ z)
    (hs : isStar a = false ∧ isStar b = false ∧ isStar d = false) (h1 : [a, b, d].all (foldedForSure 8) = false) (h2 : [a, b, d].all (constantsAlone 8) = false) :
    swappedStores [.Tuple [.Name x px, .Name y py, .Name z pz] k p] (.Tuple [a, b, d] k2 p2) env = pure (some [x, y, z]) := by
  obtain ⟨u, e⟩ := sw_eq (ts := [.Name x px, .Name y py, .Name z pz]) (vs := [a, b, d]) (k := k) (k2 := k2) (p := p) (p2 := p2) hk
  rw [e]
  have hl : lnOf [Expr.Name x px, Expr.Name y py, Expr.Name z pz] = px.line := rfl
  have hf : [Expr.Name x px, Expr.Name y py, Expr.Name z pz].filterMap (nmOf env.scope px.line) = [x, y, z] := by
    simp [(parN_ok hx).1, (parN_ok hy).1, (parN_ok hz).1]
  rw [hl, hf, if_neg (by simp), if_neg (by simp [hs.1, hs.2.1, hs.2.2]), if_neg, if_neg (by rw [h1]; decide), if_neg (by rw [h2]; decide)]
  simp [List.eraseDups_cons, hne.1, hne.2.1, hne.2.2, Ne.symm hne.1, Ne.symm hne.2.1, Ne.symm hne.2.2]
/-! ### a comprehension stored -/
def isLc : Expr → Bool
  | .ListComp .. => true
  | .SetComp .. => true
  | .DictComp .. => true
  | _ => false
theorem sw_leaf {v : Expr} {t : Option Expr} {l : Nat} {env : PySem.Env} (h : isLc v = false) : swapsWith v t l env = pure false := by
  cases v <;> first | rfl | (cases h)
theorem sw_lc {elt : Expr} {gs : List Comprehension} {scope : Scope} {pos py : Pos} {y : Str} {l : Nat} {env : PySem.Env} (hk : env.scope.kind = .function) :
    swapsWith (.ListComp elt gs scope pos) (some (.Name y py)) l env = pure (env.scope.names.lookup y == some .local && py.line == pos.line && !(scope.names.any fun (n, k) => n == y && (k == .local || k == .cell))) := by
  have hb : env.blockKind = .function := by unfold Env.blockKind; rw [hk]; rfl
  unfold swapsWith
  simp only [hb, Expr.pos]
  rfl
end FV
set_option Elab.async false
set_option linter.all false
set_option maxRecDepth 100000
set_option maxHeartbeats 8000000
/-! Sound9: targets, stores, expressions as statements. -/
namespace FV
open PySem L2
section
variable {W : Wd} {T : Nat → Option Fn} {B : Tb}
mutual
/-- the target t is the text x -/
def chkG (B : Tb) (c : Ck) : Tg → Expr → Bool
  | .pt p, x => chkP c p x
  | .sub o i, .Subscript x y _ => plainIx y && chk B c o x && chk B c i y
  | .tp ts, .Tuple ys _ _ => chkGs B c ts ys
  | _, _ => false
def chkGs (B : Tb) (c : Ck) : List Tg → List Expr → Bool
  | [], [] => true
  | t :: ts, x :: xs => chkG B c t x && chkGs B c ts xs
  | _, _ => false
end
def PoG (K : PySem.W.Frag) (m : Ms) (H : Hp) (k : Env → Store → Prop) (Q : L2.St → Hp → Prop) : Prop := ∀ σ S' m' vσ H', Ext m H m' H' → HR K m' S' H' → RS K m' H' σ vσ → k σ S' → Q vσ H'
def tG (W : Wd) (T : Nat → Option Fn) (t : Tg) : TG := fun v vσ H Q => ∃ m σ d S k, HR W.K m S H ∧ RS W.K m H σ vσ ∧ RelD W.K m H d v ∧ asg (callw T W.n) XF t d σ S k ∧ PoG W.K m H k Q
def tGs (W : Wd) (T : Nat → Option Fn) (t : List Tg) : TGs := fun v vσ H Q => ∃ m σ d S k, HR W.K m S H ∧ RS W.K m H σ vσ ∧ RelDs W.K m H d v ∧ asgs (callw T W.n) XF t d σ S k ∧ PoG W.K m H k Q
theorem chkG_star {c : Ck} {t : Tg} {e : Expr} (h : chkG B c t e = true) : ∀ x q, e ≠ .Starred x q := by
  intro x q z
  subst z
  cases t with
  | pt p => exact chkP_star (show chkP c p _ = true from h) _ _ rfl
  | sub o i => exact nopeT h
  | tp ts => exact nopeT h
theorem chkGs_len {c : Ck} {env : PySem.Env} : ∀ {ps : List Tg} {es : List Expr}, chkGs B c ps es = true → (assignEach es env).length = ps.length ∧ (assignEach es env).findIdx? (·.1) = none
  | [], [], _ => ⟨rfl, rfl⟩
  | [], _ :: _, h => nopeT h
  | _ :: _, [], h => nopeT h
  | p :: ps, e :: es, h => by
    simp only [chkGs, Bool.and_eq_true] at h
    obtain ⟨h1, h2⟩ := chkGs_len (env := env) h.2
    rw [assign_cons (chkG_star h.1)]
    refine ⟨by rw [List.length_cons, List.length_cons, h1], ?_⟩
    rw [List.findIdx?_cons]
    simp [h2]
theorem ixN_in {n : Nat} {j : Int} (h0 : 0 ≤ j) (h1 : j < n) : ixN n j = some j.toNat := by
  unfold ixN
  rw [if_pos h0, if_pos h1]
theorem sub_assign {o i : Expr} {pos : Pos} {env : PySem.Env} (h : plainIx i = true) (v : Value) : assign (.Subscript o i pos) env v = (do
      let ov ← holding [v] (eval o env)
      let iv ← holding [v, ov] (eval i env)
      standAt pos
      holding [v, ov, iv] (setItem ov iv v)
      release [v, ov, iv] []) := by
  cases i <;> first | rfl | (cases h)
theorem pg_pt {c : Ck} {X : Cx} {p : Pt} {x : Expr} (hA : At W c X) (h : chkP c p x = true) : PG X x (tG W T (.pt p)) := by
  refine pg_imp (pgP hA p x h) fun v vσ H Q q => ?_
  obtain ⟨m, σ, d, S, k, hr, rs, rd, ha, po⟩ := q
  simp only [asg] at ha
  split at ha
  · rename_i σ' e
    exact ⟨m, σ, d, σ', rs, rd, e, fun vσ' rs' _ => po _ _ _ _ _ .refl hr rs' ha⟩
  · exact ha.elim
theorem pg_sub' {c : Ck} {X : Cx} {o i : E} {x y : Expr} {p : Pos} (hA : At W c X) (hi : plainIx y = true) (ho : PE X x (tE W T o)) (hy : PE X y (tE W T i)) : PG X (.Subscript x y p) (tG W T (.sub o i)) := by
  refine pg_imp (pg_sub ho hy set_list (sub_assign hi)) fun v vσ H Q q => ?_
  obtain ⟨m, σ, d, S, k, hr, rs, rd, ha, po⟩ := q
  simp only [asg] at ha
  refine ⟨m, σ, S, _, hr, rs, ha, fun x S1 m1 w H1 x1 hr1 r1 h1 => ⟨m1, σ, S1, _, hr1, rs.mono x1, h1, fun y S2 m2 u H2 x2 hr2 r2 h2 => ?_⟩⟩
  obtain ⟨j, ej, h3⟩ := asI_of h2
  subst ej
  clear ha h1 h2
  cases x <;> try (exact h3.elim)
  rename_i l
  have h2 : (match cl S2 l with | some ds => (0 ≤ j ∧ j < ds.length) ∧ k σ (S2.set l (ds.set j.toNat d)) | none => False) := h3
  split at h2
  · rename_i ds ecl
    obtain ⟨⟨j0, j1⟩, h2⟩ := h2
    cases r2
    have r1' := r1.mono x2
    cases r1' with
    | ref hl =>
      rename_i a
      obtain ⟨vs, ea, rds⟩ := hr2.at_ l ds a ecl hl
      have hm : a ∈ m2.c := List.mem_of_getElem? hl
      have xs := ext_set (vs := vs.set j.toNat v) hm ⟨vs, ea⟩
      refine ⟨a, vs, j, j.toNat, rfl, rfl, ea, ixN_in j0 (by rw [← rds.length]; exact j1), ?_⟩
      have rd2 := (rd.mono x1).mono x2
      exact po _ _ _ _ _ ((x1.trans x2).trans xs) (hr2.set hl (rds.set j.toNat rd2)) ((rs.mono (x1.trans x2)).mono xs) h2
  · exact h2.elim
mutual
theorem pgG (w : WOk W T B) : ∀ (t : Tg) (c : Ck) (X : Cx) (x : Expr), At W c X → chkG B c t x = true → PG X x (tG W T t)
  | .pt p, c, X, x, hA, h => pg_pt hA h
  | .sub o i, c, X, x, hA, h => by
    cases x <;> try (exact nopeT h)
    simp only [chkG, Bool.and_eq_true] at h
    exact pg_sub' hA h.1.1 (pe_ok w o c X _ hA h.1.2) (pe_ok w i c X _ hA h.2)
  | .tp ts, c, X, x, hA, h => by
    cases x <;> try (exact nopeT h)
    rename_i es k pos
    have h : chkGs B c ts es = true := h
    obtain ⟨h1, h2⟩ := chkGs_len (env := X.env) h
    refine pg_imp (pg_tup hA.calm (pgGs w ts c X es hA h) h1 h2) fun v vσ H Q q => ?_
    obtain ⟨m, σ, d, S, k, hr, rs, rd, ha, po⟩ := q
    simp only [asg] at ha
    split at ha
    · rename_i ds
      obtain ⟨hl, ha⟩ := ha
      cases rd with
      | tup hs rds =>
        rename_i a vs
        exact ⟨_, _, rfl, by rw [hA.k]; exact hs, by rw [← rds.length]; exact hl, m, σ, ds, S, k, hr, rs, rds, ha, po⟩
    · exact ha.elim
theorem pgGs (w : WOk W T B) : ∀ (ts : List Tg) (c : Ck) (X : Cx) (xs : List Expr), At W c X → chkGs B c ts xs = true → PGs X xs (tGs W T ts)
  | [], c, X, xs, hA, h => by
    cases xs with
    | nil =>
      refine pgs_imp pgs_nil fun v vσ H Q q => ?_
      obtain ⟨m, σ, d, S, k, hr, rs, rd, ha, po⟩ := q
      cases rd with
      | nil => exact ⟨rfl, po _ _ _ _ _ .refl hr rs ha⟩
      | cons _ _ => exact ha.elim
    | cons _ _ => exact nopeT h
  | t :: ts, c, X, xs, hA, h => by
    cases xs with
    | nil => exact nopeT h
    | cons x xs =>
      simp only [chkGs, Bool.and_eq_true] at h
      refine pgs_imp (pgs_cons (pgG w t c X x hA h.1) (pgGs w ts c X xs hA h.2) (by rw [assign_cons (chkG_star h.1)]; rfl)) fun v vσ H Q q => ?_
      obtain ⟨m, σ, d, S, k, hr, rs, rd, ha, po⟩ := q
      cases rd with
      | nil => exact ha.elim
      | cons r1 r2 =>
        rename_i d v ds vs
        exact ⟨_, _, rfl, m, σ, d, S, _, hr, rs, r1, ha, fun σ1 S1 m1 vσ1 H1 x1 hr1 rs1 h1 => ⟨m1, σ1, ds, S1, k, hr1, rs1, r2.mono x1, h1, fun σ2 S2 m2 vσ2 H2 x2 => po σ2 S2 m2 vσ2 H2 (x1.trans x2)⟩⟩
end
/-! ### x.append(e) -/
theorem attr_name {x : Str} {p : Pos} {nm : Str} {env : PySem.Env} {wh : Sem Value} : attributeBase (.Name x p) nm env wh = wh := rfl
theorem app_of {c : Ck} {X : Cx} {a e : E} {x : Str} {p apos cpos : Pos} {y : Expr} (hA : At W c X) (hx : PE X (.Name x p) (tE W T a)) (hy : PE X y (tE W T e)) (hs : starEach [y] X.env = [(false, eval y X.env)]) (hl : (apos.endLine == cpos.line) = true) :
    PE X (.Call (.Attribute (.Name x p) "append" apos) [y] [] cpos) (tE W T (.app a e)) := by
  refine pe_imp (pe_bm F.plainAttrs_list F.slot_list_append rfl mt_append hx (pa_cons hy pa_nil hs) rfl (by rw [hs]; rfl) hl hs rfl) fun vσ H Q q => ?_
  obtain ⟨m, σ, S, k, hr, rs, ha, po⟩ := q
  simp only [ev] at ha
  refine ⟨m, σ, S, _, hr, rs, ha, fun x S1 m1 v H1 x1 hr1 r1 h1 => ?_⟩
  cases x <;> try (exact h1.elim)
  rename_i l
  dsimp only [onRef] at h1
  cases r1 with
  | ref hl =>
    rename_i a
    have hm : a ∈ m1.c := List.mem_of_getElem? hl
    obtain ⟨vs0, e0⟩ := hr1.there hm
    refine ⟨.inl ⟨rfl, vs0, .inl (.inl e0)⟩, m1, σ, S1, _, hr1, rs.mono x1, h1, fun y S2 m2 u H2 x2 hr2 r2 h2 => ?_⟩
    split at h2
    · rename_i ds ecl
      obtain ⟨hz, h2⟩ := h2
      have hl2 : m2.c[l]? = some a := by
        have r : RelD W.K m2 H2 (.ref l) (.ref a) := (RelD.ref hl : RelD W.K m1 H1 (.ref l) (.ref a)).mono x2
        cases r with
        | ref h => exact h
      obtain ⟨vs, ea, rds⟩ := hr2.at_ l ds a ecl hl2
      have hm2 : a ∈ m2.c := List.mem_of_getElem? hl2
      have xs := ext_set (vs := vs ++ [u]) hm2 ⟨vs, ea⟩
      refine ⟨a, vs, u, rfl, rfl, ea, by rw [← rds.length]; exact sz_lt hz, ?_⟩
      exact po _ _ _ _ _ ((x1.trans x2).trans xs) (hr2.set hl2 (rds.append (.cons r2 .nil))) .non h2
    · exact h2.elim
end
end FV
set_option Elab.async false
set_option linter.all false
set_option maxRecDepth 100000
set_option maxHeartbeats 8000000
/-! Sound10: all statements. -/
namespace FV
open PySem L2
def isNm : Expr → Bool
  | .Name .. => true
  | _ => false
/-- a value dropped -/
def chkX (B : Tb) (c : Ck) (e : E) (v : Expr) : Bool := match e, v with
  | .app (.var i) e, .Call (.Attribute (.Name x _) nm apos) [y] [] cpos => isV c x i && decide (nm = "append") && (apos.endLine == cpos.line) && chk B c e y
  | e, v => chk B c e v && !isLc v
/-- names stored from the right -/
def chkPar (B : Tb) (c : Ck) (is : List Nat) (es : List E) (ts vs : List Expr) : Bool := match is, ts, vs with
  | [i, j], [.Name x px, .Name y py], [a, b] => decide (c.N[i]? = some x) && decide (c.N[j]? = some y) && decide (i ≠ j ∧ x ≠ y) && parN c.sc px.line x px && parN c.sc px.line y py && !([a, b].all (foldedForSure 8)) && !([a, b].all (constantsAlone 8)) && chks B c es [a, b]
  | [i, j, l], [.Name x px, .Name y py, .Name z pz], [a, b, d] => decide (c.N[i]? = some x) && decide (c.N[j]? = some y) && decide (c.N[l]? = some z) && decide ((i ≠ j ∧ i ≠ l ∧ j ≠ l) ∧ x ≠ y ∧ x ≠ z ∧ y ≠ z) && parN c.sc px.line x px && parN c.sc px.line y py && parN c.sc px.line z pz && !([a, b, d].all (foldedForSure 8)) && !([a, b, d].all (constantsAlone 8)) && chks B c es [a, b, d]
  | _, _, _ => false
mutual
/-- the statement s is the text x -/
def chkS (B : Tb) (c : Ck) : Sm → Stmt → Bool
  | .set t e, .Assign [tg] v _ => chkG B c t tg && chk B c e v && (isNm tg || noSw c.sc tg v)
  | .par is es, .Assign [.Tuple ts _ _] (.Tuple vs _ _) _ => chkPar B c is es ts vs
  | .expr e, .Expr v _ => chkX B c e v
  | .ret e, .Return (some v) _ => chk B c e v
  | .retN, .Return none _ => true
  | .iff t a b, .If x p q _ => chkT B c t x && chkSs B c a p && chkSs B c b q
  | .for_ p it a, .For tg x q [] _ => !isSet x && chkP c p tg && chkI B c it x tg && chkSs B c a q
  | .whl t a, .While x q [] _ => chkT B c t x && chkSs B c a q
  | .raise, .Raise _ _ _ => true
  | .pass, .Pass _ => true
  | .brk, .Break _ => true
  | .cont, .Continue _ => true
  | _, _ => false
termination_by structural s => s
def chkSs (B : Tb) (c : Ck) : List Sm → List Stmt → Bool
  | [], [] => true
  | s :: ss, x :: xs => chkS B c s x && chkSs B c ss xs
  | _, _ => false
termination_by structural s => s
end
section
variable {W : Wd} {T : Nat → Option Fn} {B : Tb}
theorem At.pas {c : Ck} {X : Cx} (a : At W c X) : PassesOwn (model X.prog X.w) X.A X.env X.xe := by
  rw [a.xe]
  exact .never
/-! ### the single forms -/
theorem set_of {X : Cx} {t : Tg} {e : E} {tg v : Expr} {pos : Pos} (hk : X.env.scope.kind = .function) (hn : isNm tg = false) (hsw : noSw X.env.scope tg v = true) (hst : ∀ x q, tg ≠ .Starred x q) (he : PE X v (tE W T e)) (hg : PG X tg (tG W T t)) : PS X (.Assign [tg] v pos) (tS W T (.set t e)) := by
  have h1 : swapsWithSole [tg] v pos.line X.env = pure false := by
    cases tg <;> first
      | (cases hn; done)
      | (cases v <;> rfl)
  have h3 : (assignEach [tg] X.env).map (·.2) = [assign tg X.env] := by
    rw [assign_cons hst]
    rfl
  refine ps_imp (ps_asg he hg h1 (sw_none hk hsw) h3) fun D vσ H q => ?_
  obtain ⟨m, σ, S, N, hr, rs, hx, po⟩ := q
  exact ⟨m, σ, S, _, hr, rs, hx, fun d S1 m1 v H1 x1 hr1 r1 h1 => ⟨m1, σ, d, S1, N.nx, hr1, rs.mono x1, r1, h1, fun σ2 S2 m2 vσ2 H2 x2 => po.nx σ2 S2 m2 vσ2 H2 (x1.trans x2)⟩⟩
theorem setN_read {i : Nat} {e : E} {D : L2.Ends} {vσ : L2.St} {H : Hp} (q : tS W T (.set (.pt (.nm i)) e) D vσ H) : tE W T e vσ H fun x H1 => gName i x vσ H1 D.nx := by
  obtain ⟨m, σ, S, N, hr, rs, hx, po⟩ := q
  refine ⟨m, σ, S, _, hr, rs, hx, fun d S1 m1 v H1 x1 hr1 r1 h1 => ?_⟩
  exact po.nx _ _ _ _ _ x1 hr1 ((rs.mono x1).set r1) h1
theorem setN_of {c : Ck} {X : Cx} {i : Nat} {e : E} {x : Str} {p : Pos} {v : Expr} {pos : Pos} (hA : At W c X) (hi : isSt c x i = true) (hsw : swapsWith v (some (.Name x p)) pos.line X.env = pure false) (he : PE X v (tE W T e)) : PS X (.Assign [.Name x p] v pos) (tS W T (.set (.pt (.nm i)) e)) := by
  obtain ⟨h1, h2, h3⟩ := hA.st hi
  exact ps_imp (ps_set (by rw [hA.N]; exact hA.nd) h1 h2 he hsw h3) fun D vσ H q => setN_read q
theorem lcN_of {c : Ck} {X : Cx} {i : Nat} {y : Str} {py : Pos} {spos : Pos} (hA : At W c X) (hy : isSt c y i = true) (hyl : X.env.scope.names.lookup y = some .local) {fr : Bool} {own : List Nat} {p : Pt} {it elt : E} {cond : Option E} {x t j : Expr} {ifs : List Expr} {s : Scope} {pos : Pos}
    (hsw : swapsWith (.ListComp x [⟨t, j, ifs, 0⟩] s pos) (some (.Name y py)) spos.line X.env = pure true) (hb : blkC c.N c.sc s (ownN c own) = true) (hset : isSet j = false)
    (hp : chkP (inC c s) p t = true) (hv : ∀ j ∈ varsP p, j ∈ own) (hi : PI X t j (tI W T it)) (hc : ∀ X', At W (inC c s) X' → PTs X' ifs (tC W T cond)) (he : ∀ X', At W (inC c s) X' → PE X' x (tE W T elt)) :
    PS X (.Assign [.Name y py] (.ListComp x [⟨t, j, ifs, 0⟩] s pos) spos) (tS W T (.set (.pt (.nm i)) (.lc fr own p it cond elt))) := by
  obtain ⟨h1, h2, h3⟩ := hA.st hy
  exact ps_imp (ps_setLc (own := ownN c own) hA.calm (by rw [hA.N]; exact hA.nd) h1 hyl hsw hi (blkOk_by (by rw [hA.N, hA.sc]; exact hb)) (fun s0 H C cl fp => pgP (hA.inC s s0 H C cl fp) p t hp) (fun s0 H C cl fp => hc _ (hA.inC s s0 H C cl fp)) (fun s0 H C cl fp => he _ (hA.inC s s0 H C cl fp)) (folded hset))
    fun D vσ H q => lc_read hA hv (setN_read q)
theorem lc2N_of {c : Ck} {X : Cx} {i : Nat} {y : Str} {py : Pos} {spos : Pos} (hA : At W c X) (hy : isSt c y i = true) (hyl : X.env.scope.names.lookup y = some .local) {fr : Bool} {own own2 : List Nat} {p p2 : Pt} {it it2 elt : E} {cond cond2 : Option E} {x t j t2 j2 : Expr} {ifs ifs2 : List Expr} {s : Scope} {pos : Pos}
    (hsw : swapsWith (.ListComp x [⟨t, j, ifs, 0⟩, ⟨t2, j2, ifs2, 0⟩] s pos) (some (.Name y py)) spos.line X.env = pure true) (hb : blkC c.N c.sc s (ownN c own) = true) (hset : isSet j = false) (hset2 : isSet j2 = false)
    (hp : chkP (inC c s) p t = true) (hv : ∀ j ∈ varsP p, j ∈ own) (hp2 : chkP (inC c s) p2 t2 = true) (hv2 : ∀ j ∈ varsP p2, j ∈ own2) (ho : ∀ j ∈ own2, j ∈ own) (hi : PI X t j (tI W T it)) (hc : ∀ X', At W (inC c s) X' → PTs X' ifs (tC W T cond)) (hi2 : ∀ X', At W (inC c s) X' → PI X' t2 j2 (tI W T it2)) (hc2 : ∀ X', At W (inC c s) X' → PTs X' ifs2 (tC W T cond2)) (he : ∀ X', At W (inC c s) X' → PE X' x (tE W T elt)) :
    PS X (.Assign [.Name y py] (.ListComp x [⟨t, j, ifs, 0⟩, ⟨t2, j2, ifs2, 0⟩] s pos) spos) (tS W T (.set (.pt (.nm i)) (.lc2 fr own p it cond own2 p2 it2 cond2 elt))) := by
  obtain ⟨h1, h2, h3⟩ := hA.st hy
  exact ps_imp (ps_setLc2 (own := ownN c own) (vs1 := own2) hA.calm (by rw [hA.N]; exact hA.nd) h1 hyl hsw hi (blkOk_by (by rw [hA.N, hA.sc]; exact hb)) (by rw [own_snd]; exact ho) (fun s0 H C cl fp => pgP (hA.inC s s0 H C cl fp) p t hp) (fun s0 H C cl fp => hc _ (hA.inC s s0 H C cl fp)) (fun s0 H C cl fp => hi2 _ (hA.inC s s0 H C cl fp)) (fun s0 H C cl fp => pgP (hA.inC s s0 H C cl fp) p2 t2 hp2) (fun s0 H C cl fp => hc2 _ (hA.inC s s0 H C cl fp)) (fun s0 H C cl fp => he _ (hA.inC s s0 H C cl fp)) (folded hset) (fun env x => folded (env := env) hset2 x))
    fun D vσ H q => lc2_read hA hv hv2 (setN_read q)
theorem chks_stars {c : Ck} {env : PySem.Env} : ∀ {es : List E} {xs : List Expr}, chks B c es xs = true → ∀ x ∈ xs, isStar x = false
  | [], [], _, x, hx => by cases hx
  | [], _ :: _, h, _, _ => nopeT h
  | _ :: _, [], h, _, _ => nopeT h
  | e :: es, y :: ys, h, x, hx => by
    have h : (chk B c e y && chks B c es ys) = true := h
    rw [Bool.and_eq_true] at h
    rcases List.mem_cons.mp hx with z | z
    · subst z
      cases x <;> first
        | rfl
        | (rw [chk_star] at h; cases h.1)
    · exact chks_stars (env := env) h.2 x z
theorem par2_of {c : Ck} {X : Cx} {i j : Nat} {x y : Str} {px py : Pos} {a b : Expr} {es : List E} {k k2 p p2 pos} (hA : At W c X) (hk : X.env.scope.kind = .function) (hi : c.N[i]? = some x) (hj : c.N[j]? = some y) (hne : i ≠ j ∧ x ≠ y)
    (hx : parN c.sc px.line x px = true) (hy : parN c.sc px.line y py = true) (h1 : [a, b].all (foldedForSure 8) = false) (h2 : [a, b].all (constantsAlone 8) = false) (hs : chks B c es [a, b] = true) (he : PA X [a, b] (tA W T es)) (hlen : es.length = 2) :
    PS X (.Assign [.Tuple [.Name x px, .Name y py] k p] (.Tuple [a, b] k2 p2) pos) (tS W T (.par [i, j] es)) := by
  rw [← hA.sc] at hx hy
  have st := chks_stars (env := X.env) hs
  refine ps_imp (ps_par hA.calm (by rw [hA.N]; exact hA.nd) (by rw [hA.N]; exact hi) (by rw [hA.N]; exact hj) hne.1 (parN_ok hx).2 (parN_ok hy).2 he (sw_two hk hx hy hne.2 ⟨st a (by simp), st b (by simp)⟩ h1 h2)) fun D vσ H q => ?_
  obtain ⟨m, σ, S, N, hr, rs, hx, po⟩ := q
  refine ⟨m, σ, S, _, hr, rs, hx, fun ds S1 m1 vs H1 x1 hr1 r1 hl h1 => ?_⟩
  rw [hlen] at hl
  cases r1 with
  | nil => cases hl
  | cons ra r1 =>
    cases r1 with
    | nil => cases hl
    | cons rb r1 =>
      cases r1 with
      | cons _ _ => cases hl
      | nil => exact ⟨_, _, rfl, po.nx _ _ _ _ _ x1 hr1 (((rs.mono x1).set ra).set rb) h1⟩
theorem par3_of {c : Ck} {X : Cx} {i j l : Nat} {x y z : Str} {px py pz : Pos} {a b d : Expr} {es : List E} {k k2 p p2 pos} (hA : At W c X) (hk : X.env.scope.kind = .function) (hi : c.N[i]? = some x) (hj : c.N[j]? = some y) (hl : c.N[l]? = some z) (hne : (i ≠ j ∧ i ≠ l ∧ j ≠ l) ∧ x ≠ y ∧ x ≠ z ∧ y ≠ z)
    (hx : parN c.sc px.line x px = true) (hy : parN c.sc px.line y py = true) (hz : parN c.sc px.line z pz = true) (h1 : [a, b, d].all (foldedForSure 8) = false) (h2 : [a, b, d].all (constantsAlone 8) = false) (hs : chks B c es [a, b, d] = true) (he : PA X [a, b, d] (tA W T es)) (hlen : es.length = 3) :
    PS X (.Assign [.Tuple [.Name x px, .Name y py, .Name z pz] k p] (.Tuple [a, b, d] k2 p2) pos) (tS W T (.par [i, j, l] es)) := by
  rw [← hA.sc] at hx hy hz
  have st := chks_stars (env := X.env) hs
  refine ps_imp (ps_par3 hA.calm (by rw [hA.N]; exact hA.nd) (by rw [hA.N]; exact hi) (by rw [hA.N]; exact hj) (by rw [hA.N]; exact hl) hne.1.1 hne.1.2.1 hne.1.2.2 (parN_ok hx).2 (parN_ok hy).2 (parN_ok hz).2 he (sw_three hk hx hy hz hne.2 ⟨st a (by simp), st b (by simp), st d (by simp)⟩ h1 h2)) fun D vσ H q => ?_
  obtain ⟨m, σ, S, N, hr, rs, hx, po⟩ := q
  refine ⟨m, σ, S, _, hr, rs, hx, fun ds S1 m1 vs H1 x1 hr1 r1 hl h1 => ?_⟩
  rw [hlen] at hl
  cases r1 with
  | nil => cases hl
  | cons ra r1 =>
    cases r1 with
    | nil => cases hl
    | cons rb r1 =>
      cases r1 with
      | nil => cases hl
      | cons rc r1 =>
        cases r1 with
        | cons _ _ => cases hl
        | nil => exact ⟨_, _, _, rfl, po.nx _ _ _ _ _ x1 hr1 ((((rs.mono x1).set ra).set rb).set rc) h1⟩
theorem iff_of {X : Cx} {t : E} {a b : List Sm} {x : Expr} {p q : List Stmt} {pos : Pos} (ht : PT X x (tT W T t)) (ha : PSs X p (tSs W T a)) (hb : PSs X q (tSs W T b)) : PS X (.If x p q pos) (tS W T (.iff t a b)) := by
  refine ps_imp (ps_if ht ha hb) fun D vσ H q => ?_
  obtain ⟨m, σ, S, N, hr, rs, hx, po⟩ := q
  refine ⟨m, σ, S, _, hr, rs, hx, fun d S1 m1 H1 x1 hr1 h1 => ?_⟩
  obtain ⟨b, e, h1⟩ := asB_of h1
  refine ⟨b, e, ?_⟩
  have h1 := brk_c h1
  cases b with
  | true => exact ⟨m1, σ, S1, N, hr1, rs.mono x1, h1, po.ext x1⟩
  | false => exact ⟨m1, σ, S1, N, hr1, rs.mono x1, h1, po.ext x1⟩
theorem for_of {c : Ck} {X : Cx} {p : Pt} {it : E} {a : List Sm} {tg x : Expr} {q : List Stmt} {pos : Pos} (hA : At W c X) (hset : isSet x = false) (hp : chkP c p tg = true) (hi : PI X tg x (tI W T it)) (ha : PSs X q (tSs W T a)) : PS X (.For tg x q [] pos) (tS W T (.for_ p it a)) := by
  refine ps_imp (ps_for hA.pas hA.calm hi (pgP hA p tg hp) ha (folded hset)) fun D vσ H q => ?_
  obtain ⟨m, σ, S, N, hr, rs, hx, po⟩ := q
  refine ⟨m, σ, S, _, hr, rs, hx, fun g ds S1 m1 H1 J x1 hr1 src hg h => ?_⟩
  generalize hb : exs (callw T W.n) XF a = body at h
  refine ⟨fun i μ vσ' H' => μ = ds.length - i ∧ i ≤ ds.length ∧ ∃ m' σ' S', Ext m1 H1 m' H' ∧ HR W.K m' S' H' ∧ RS W.K m' H' σ' vσ' ∧ forW g body p N (ds.drop i) σ' S', ⟨ds.length, by omega, Nat.zero_le _, m1, σ, S1, .refl, hr1, rs.mono x1, h⟩, ?_⟩
  rintro i μ vσ2 H2 ⟨eμ, hle, m2, σ2, S2, x2, hr2, rs2, h2⟩
  by_cases hlt : i < ds.length
  · right
    rw [List.drop_eq_getElem_cons hlt] at h2
    obtain ⟨hg2, h2⟩ := gdo_of h2
    obtain ⟨go, yl⟩ := (src m2 S2 H2 x2.gr.gh hr2 hg2).1 i _ (List.getElem?_eq_getElem hlt)
    refine ⟨go, fun vσ' H' => (ds.length - (i + 1) = ds.length - (i + 1) ∧ i + 1 ≤ ds.length ∧ ∃ m' σ' S', Ext m1 H1 m' H' ∧ HR W.K m' S' H' ∧ RS W.K m' H' σ' vσ' ∧ forW g body p N (ds.drop (i + 1)) σ' S'), fun vσ' H' hn => ⟨ds.length - (i + 1), by omega, hn⟩, fun y H3 hy => ?_⟩
    obtain ⟨x3, hr3, r3⟩ := yl y H3 hy
    split at h2
    · rename_i σ' eb
      refine ⟨m2, σ2, _, σ', rs2.mono x3, r3, eb, fun vσ' rs' _ => ⟨m2, σ', S2, _, hr3, rs', by rw [hb]; exact h2, ?_⟩⟩
      have x23 := x2.trans x3
      have po2 := po.ext (x1.trans x23)
      exact ⟨fun σ4 S4 m4 vσ4 H4 x4 hr4 rs4 h4 => ⟨rfl, hlt, m4, σ4, S4, x23.trans x4, hr4, rs4, h4⟩, po2.rt, po2.nx, fun σ4 S4 m4 vσ4 H4 x4 hr4 rs4 h4 => ⟨rfl, hlt, m4, σ4, S4, x23.trans x4, hr4, rs4, h4⟩⟩
    · exact h2.elim
  · left
    have ej : i = ds.length := by omega
    rw [ej, List.drop_length] at h2
    obtain ⟨hg2, h2⟩ := gdo_of h2
    exact ⟨(src m2 S2 H2 x2.gr.gh hr2 hg2).2 i (by omega), po.nx _ _ _ _ _ (x1.trans x2) hr2 rs2 h2⟩
theorem whl_of {c : Ck} {X : Cx} {t : E} {a : List Sm} {x : Expr} {q : List Stmt} {pos : Pos} (hA : At W c X) (ht : PT X x (tT W T t)) (ha : PSs X q (tSs W T a)) : PS X (.While x q [] pos) (tS W T (.whl t a)) := by
  refine ps_imp (ps_while hA.pas ht ha) fun D vσ H q => ?_
  obtain ⟨m, σ, S, N, hr, rs, ⟨n, hx⟩, po⟩ := q
  generalize hb : exs (callw T W.n) XF a = body at hx
  generalize hc : (fun (σ : Env) (S : Store) (k : Bool → Store → Prop) => ev (callw T W.n) XF t true σ S (asB k)) = test at hx
  refine ⟨fun μ vσ' H' => ∃ m' σ' S', Ext m H m' H' ∧ HR W.K m' S' H' ∧ RS W.K m' H' σ' vσ' ∧ whlW test body N μ σ' S', ⟨n, m, σ, S, .refl, hr, rs, hx⟩, ?_⟩
  rintro μ vσ2 H2 ⟨m2, σ2, S2, x2, hr2, rs2, h2⟩
  cases μ with
  | zero => exact h2.elim
  | succ μ =>
    simp only [whlW] at h2
    rw [← hc] at h2
    refine ⟨m2, σ2, S2, _, hr2, rs2, h2, fun d S3 m3 H3 x3 hr3 h3 => ?_⟩
    obtain ⟨b, e, h3⟩ := asB_of h3
    refine ⟨b, e, ?_⟩
    have h3 := brk_c h3
    have x23 := x2.trans x3
    have po2 := po.ext x23
    cases b with
    | true =>
      rw [hc] at h3
      refine ⟨fun vσ' H' => ∃ m' σ' S', Ext m H m' H' ∧ HR W.K m' S' H' ∧ RS W.K m' H' σ' vσ' ∧ whlW test body N μ σ' S', fun vσ' H' hn => ⟨μ, by omega, hn⟩, m3, σ2, S3, _, hr3, rs2.mono x3, by rw [hb]; exact h3, ?_⟩
      exact ⟨fun σ4 S4 m4 vσ4 H4 x4 hr4 rs4 h4 => ⟨m4, σ4, S4, x23.trans x4, hr4, rs4, h4⟩, po2.rt, po2.nx, fun σ4 S4 m4 vσ4 H4 x4 hr4 rs4 h4 => ⟨m4, σ4, S4, x23.trans x4, hr4, rs4, h4⟩⟩
    | false => exact po2.nx _ _ _ _ _ .refl hr3 (rs2.mono x3) h3
mutual
theorem ps_ok (w : WOk W T B) : ∀ (s : Sm) (c : Ck) (X : Cx) (x : Stmt), At W c X → c.sc.kind = .function → chkS B c s x = true → PS X x (tS W T s)
  | .set t e, c, X, x, hA, hk, h => by
    have hk' : X.env.scope.kind = .function := by rw [hA.sc]; exact hk
    cases x <;> try (exact nopeT h)
    rename_i tgs v p
    rcases tgs with _ | ⟨tg, _ | ⟨tg2, tgs⟩⟩ <;> try (exact nopeT h)
    have h : (chkG B c t tg && chk B c e v && (isNm tg || noSw c.sc tg v)) = true := h
    simp only [Bool.and_eq_true, Bool.or_eq_true] at h
    obtain ⟨⟨h1, h2⟩, h3⟩ := h
    have he := pe_ok w e c X v hA h2
    cases hn : isNm tg with
    | false =>
      rw [hn] at h3
      exact set_of hk' hn (by rw [hA.sc]; exact h3.resolve_left (fun z => Bool.false_ne_true z)) (chkG_star h1) he (pgG w t c X tg hA h1)
    | true =>
      cases tg <;> try (exact nopeT hn)
      rename_i y py
      cases t with
      | sub _ _ => exact nopeT h1
      | tp _ => exact nopeT h1
      | pt q =>
        cases q with
        | tp _ => exact nopeT h1
        | nm i =>
          have h1 : isSt c y i = true := h1
          cases hl : isLc v with
          | false => exact setN_of hA h1 (sw_leaf hl) he
          | true =>
            cases v <;> try (exact nopeT hl)
            · rename_i elt gs sc lp
              have sw := sw_lc (elt := elt) (gs := gs) (scope := sc) (pos := lp) (py := py) (y := y) (l := p.line) hk'
              cases hb : (X.env.scope.names.lookup y == some .local && py.line == lp.line && !(sc.names.any fun (n, k) => n == y && (k == .local || k == .cell))) with
              | false =>
                rw [hb] at sw
                exact setN_of hA h1 sw he
              | true =>
                rw [hb] at sw
                simp only [Bool.and_eq_true] at hb
                have hyl : X.env.scope.names.lookup y = some .local := eq_of_beq hb.1.1
                cases e <;> try (exact nopeT h2)
                · rename_i fr own p it cond elt'
                  rcases gs with _ | ⟨⟨t, i, ifs, a⟩, _ | ⟨g2, gs⟩⟩ <;> try (exact nopeT h2)
                  · rcases a with (_ | a) | a <;> try (exact nopeT h2)
                    have h2 : (blkC c.N c.sc sc (ownN c own) && !isSet i && chkP (inC c sc) p t && (varsP p).all (fun j => own.contains j) && chkI B c it i t && chkc B (inC c sc) cond ifs && chk B (inC c sc) elt' elt) = true := h2
                    simp only [Bool.and_eq_true, Bool.not_eq_true', List.all_eq_true] at h2
                    obtain ⟨⟨⟨⟨⟨⟨h1', h2⟩, h3⟩, h4⟩, h5⟩, h6⟩, h7⟩ := h2
                    exact lcN_of hA h1 hyl sw h1' h2 h3 (fun j hj => by simpa using h4 j hj) (pi_ok w it c X _ _ hA h5) (fun X' hA' => ptc_ok w cond _ X' _ hA' h6) fun X' hA' => pe_ok w elt' _ X' _ hA' h7
                  · rcases a with (_ | a) | a <;> exact nopeT h2
                · rename_i fr own p it cond own2 p2 it2 cond2 elt'
                  rcases gs with _ | ⟨⟨t, i, ifs, a⟩, _ | ⟨⟨t2, i2, ifs2, a2⟩, _ | ⟨g3, gs⟩⟩⟩ <;> try (exact nopeT h2)
                  · rcases a with (_ | a) | a <;> exact nopeT h2
                  · rcases a with (_ | a) | a <;> try (exact nopeT h2)
                    rcases a2 with (_ | a2) | a2 <;> try (exact nopeT h2)
                    have h2 : ((blkC c.N c.sc sc (ownN c own) && !isSet i && !isSet i2 && chkP (inC c sc) p t && (varsP p).all (fun j => own.contains j) && chkP (inC c sc) p2 t2 && (varsP p2).all (fun j => own2.contains j) && own2.all (fun j => own.contains j)) && (chkI B c it i t && chkc B (inC c sc) cond ifs && chkI B (inC c sc) it2 i2 t2 && chkc B (inC c sc) cond2 ifs2 && chk B (inC c sc) elt' elt)) = true := h2
                    simp only [Bool.and_eq_true, Bool.not_eq_true', List.all_eq_true] at h2
                    obtain ⟨⟨⟨⟨⟨⟨⟨⟨h1', h2⟩, h2'⟩, h3⟩, h4⟩, h3'⟩, h4'⟩, h8⟩, ⟨⟨⟨h5, h6⟩, h5'⟩, h6'⟩, h7⟩ := h2
                    exact lc2N_of hA h1 hyl sw h1' h2 h2' h3 (fun j hj => by simpa using h4 j hj) h3' (fun j hj => by simpa using h4' j hj) (fun j hj => by simpa using h8 j hj) (pi_ok w it c X _ _ hA h5) (fun X' hA' => ptc_ok w cond _ X' _ hA' h6) (fun X' hA' => pi_ok w it2 _ X' _ _ hA' h5') (fun X' hA' => ptc_ok w cond2 _ X' _ hA' h6') fun X' hA' => pe_ok w elt' _ X' _ hA' h7
                  · rcases a with (_ | a) | a <;> rcases a2 with (_ | a2) | a2 <;> exact nopeT h2
            · cases e <;> exact nopeT h2
            · cases e <;> exact nopeT h2
  | .par is es, c, X, x, hA, hk, h => by
    have hk' : X.env.scope.kind = .function := by rw [hA.sc]; exact hk
    cases x <;> try (exact nopeT h)
    rename_i tgs v p
    rcases tgs with _ | ⟨tg, _ | ⟨tg2, tgs⟩⟩ <;> try (exact nopeT h)
    · cases tg <;> try (exact nopeT h)
      cases v <;> try (exact nopeT h)
      rename_i ts k pt vs k2 pt2
      have h : chkPar B c is es ts vs = true := h
      unfold chkPar at h
      split at h
      · simp only [Bool.and_eq_true, decide_eq_true_eq, Bool.not_eq_true'] at h
        obtain ⟨⟨⟨⟨⟨⟨⟨a1, a2⟩, a3⟩, a4⟩, a5⟩, a6⟩, a7⟩, a8⟩ := h
        exact par2_of hA hk' a1 a2 a3 a4 a5 a6 a7 a8 (pas_ok w es c X _ hA a8) (chks_len a8)
      · simp only [Bool.and_eq_true, decide_eq_true_eq, Bool.not_eq_true'] at h
        obtain ⟨⟨⟨⟨⟨⟨⟨⟨⟨a1, a2⟩, a3⟩, a4⟩, a5⟩, a6⟩, a7⟩, a8⟩, a9⟩, a10⟩ := h
        exact par3_of hA hk' a1 a2 a3 a4 a5 a6 a7 a8 a9 a10 (pas_ok w es c X _ hA a10) (chks_len a10)
      · cases h
    · cases tg <;> exact nopeT h
  | .expr e, c, X, x, hA, hk, h => by
    cases x <;> try (exact nopeT h)
    rename_i v p
    have h : chkX B c e v = true := h
    have go : ∀ {e : E} {v : Expr}, PE X v (tE W T e) → isLc v = false → PS X (.Expr v p) (tS W T (.expr e)) := fun {e v} he hl => by
      refine ps_imp (ps_expr he (sw_leaf hl)) fun D vσ H q => ?_
      obtain ⟨m, σ, S, N, hr, rs, hx, po⟩ := q
      exact ⟨m, σ, S, _, hr, rs, hx, fun d S1 m1 v H1 x1 hr1 r1 h1 => po.nx _ _ _ _ _ x1 hr1 (rs.mono x1) h1⟩
    unfold chkX at h
    split at h
    · simp only [Bool.and_eq_true, decide_eq_true_eq] at h
      obtain ⟨⟨⟨a1, a2⟩, a3⟩, a4⟩ := h
      subst a2
      exact go (app_of hA (var_ok hA a1) (pe_ok w _ c X _ hA a4) (star_cons a4) a3) rfl
    · simp only [Bool.and_eq_true, Bool.not_eq_true'] at h
      exact go (pe_ok w _ c X _ hA h.1) h.2
  | .ret e, c, X, x, hA, hk, h => by
    cases x <;> try (exact nopeT h)
    rename_i v p
    cases v with
    | none => exact nopeT h
    | some v =>
      refine ps_imp (ps_ret (pe_ok w e c X v hA h)) fun D vσ H q => ?_
      obtain ⟨m, σ, S, N, hr, rs, hx, po⟩ := q
      exact ⟨m, σ, S, _, hr, rs, hx, po.rt⟩
  | .retN, c, X, x, hA, hk, h => by
    cases x <;> try (exact nopeT h)
    rename_i v p
    cases v with
    | some v => exact nopeT h
    | none =>
      refine ps_imp ps_retN fun D vσ H q => ?_
      obtain ⟨m, σ, S, N, hr, rs, hx, po⟩ := q
      exact po.rt.done hr .non hx
  | .iff t a b, c, X, x, hA, hk, h => by
    cases x <;> try (exact nopeT h)
    rename_i v p q pos
    have h : (chkT B c t v && chkSs B c a p && chkSs B c b q) = true := h
    simp only [Bool.and_eq_true] at h
    exact iff_of (pt_ok w t c X v hA h.1.1) (pss_ok w a c X p hA hk h.1.2) (pss_ok w b c X q hA hk h.2)
  | .for_ p it a, c, X, x, hA, hk, h => by
    cases x <;> try (exact nopeT h)
    rename_i tg x q o pos
    cases o with
    | cons _ _ => exact nopeT h
    | nil =>
      have h : (!isSet x && chkP c p tg && chkI B c it x tg && chkSs B c a q) = true := h
      simp only [Bool.and_eq_true, Bool.not_eq_true'] at h
      exact for_of hA h.1.1.1 h.1.1.2 (pi_ok w it c X _ _ hA h.1.2) (pss_ok w a c X q hA hk h.2)
  | .whl t a, c, X, x, hA, hk, h => by
    cases x <;> try (exact nopeT h)
    rename_i x q o pos
    cases o with
    | cons _ _ => exact nopeT h
    | nil =>
      have h : (chkT B c t x && chkSs B c a q) = true := h
      simp only [Bool.and_eq_true] at h
      exact whl_of hA (pt_ok w t c X x hA h.1) (pss_ok w a c X q hA hk h.2)
  | .raise, c, X, x, hA, hk, h => ps_imp ps_never fun D vσ H q => by
      obtain ⟨m, σ, S, N, hr, rs, hx, po⟩ := q
      exact hx
  | .pass, c, X, x, hA, hk, h => by
    cases x <;> try (exact nopeT h)
    refine ps_imp ps_pass fun D vσ H q => ?_
    obtain ⟨m, σ, S, N, hr, rs, hx, po⟩ := q
    exact po.nx _ _ _ _ _ .refl hr rs hx
  | .brk, c, X, x, hA, hk, h => by
    cases x <;> try (exact nopeT h)
    refine ps_imp ps_break fun D vσ H q => ?_
    obtain ⟨m, σ, S, N, hr, rs, hx, po⟩ := q
    exact po.bk _ _ _ _ _ .refl hr rs hx
  | .cont, c, X, x, hA, hk, h => by
    cases x <;> try (exact nopeT h)
    refine ps_imp ps_continue fun D vσ H q => ?_
    obtain ⟨m, σ, S, N, hr, rs, hx, po⟩ := q
    exact po.ct _ _ _ _ _ .refl hr rs hx
theorem pss_ok (w : WOk W T B) : ∀ (s : List Sm) (c : Ck) (X : Cx) (x : List Stmt), At W c X → c.sc.kind = .function → chkSs B c s x = true → PSs X x (tSs W T s)
  | [], c, X, x, hA, hk, h => by
    cases x with
    | cons _ _ => exact nopeT h
    | nil =>
      refine pss_imp pss_nil fun D vσ H q => ?_
      obtain ⟨m, σ, S, N, hr, rs, hx, po⟩ := q
      exact po.nx _ _ _ _ _ .refl hr rs hx
  | s :: ss, c, X, x, hA, hk, h => by
    cases x with
    | nil => exact nopeT h
    | cons x xs =>
      have h : (chkS B c s x && chkSs B c ss xs) = true := h
      rw [Bool.and_eq_true] at h
      refine pss_imp (pss_cons (ps_ok w s c X x hA hk h.1) (pss_ok w ss c X xs hA hk h.2)) fun D vσ H q => ?_
      obtain ⟨m, σ, S, N, hr, rs, hx, po⟩ := q
      exact ⟨m, σ, S, _, hr, rs, hx, ⟨fun σ1 S1 m1 vσ1 H1 x1 hr1 rs1 h1 => ⟨m1, σ1, S1, N, hr1, rs1, h1, po.ext x1⟩, po.rt, po.bk, po.ct⟩⟩
end
end
end FV
set_option Elab.async false
set_option linter.all false
set_option maxRecDepth 100000
set_option maxHeartbeats 2000000
/-! Sound11: how arguments are bound; all defs keep their promises. -/
namespace FV
open PySem L2
theorem zip_lookup : ∀ {ps : List Str} {us : List Value}, us.length = ps.length → ∀ n ∈ ps, ((ps.zip us).lookup n).isNone = false
  | [], _, _, n, h => by cases h
  | p :: ps, [], hl, _, _ => by cases hl
  | p :: ps, u :: us, hl, n, h => by
    rw [List.zip_cons_cons, List.lookup_cons]
    cases q : n == p with
    | true => rfl
    | false =>
      rcases List.mem_cons.mp h with z | z
      · subst z; simp at q
      · exact zip_lookup (by simpa using hl) n z
theorem zip_mem : ∀ {ps : List Str} {us : List Value}, us.length = ps.length → ∀ n ∈ ps, ∃ v, (n, v) ∈ ps.zip us
  | [], _, _, n, h => by cases h
  | p :: ps, [], hl, _, _ => by cases hl
  | p :: ps, u :: us, hl, n, h => by
    rcases List.mem_cons.mp h with z | z
    · subst z
      exact ⟨u, List.mem_cons_self⟩
    · obtain ⟨v, hv⟩ := zip_mem (ps := ps) (us := us) (by simpa using hl) n z
      exact ⟨v, List.mem_cons_of_mem _ hv⟩
theorem fm_congr {α β : Type} {f g : α → Option β} : ∀ {l : List α}, (∀ x ∈ l, f x = g x) → l.filterMap f = l.filterMap g
  | [], _ => rfl
  | x :: l, h => by
    rw [List.filterMap_cons, List.filterMap_cons, h x List.mem_cons_self, fm_congr fun y hy => h y (List.mem_cons_of_mem _ hy)]
theorem zip_out : ∀ {ps : List Str} {us : List Value}, us.length = ps.length → ps.Nodup → ps.filterMap (fun n => ((ps.zip us).lookup n).map (n, ·)) = ps.zip us
  | [], _, _, _ => rfl
  | p :: ps, [], hl, _ => by cases hl
  | p :: ps, u :: us, hl, nd => by
    have hl' : us.length = ps.length := by simpa using hl
    rw [List.nodup_cons] at nd
    have e : ps.filterMap (fun n => (((p :: ps).zip (u :: us)).lookup n).map (n, ·)) = ps.filterMap (fun n => ((ps.zip us).lookup n).map (n, ·)) := by
      apply fm_congr
      intro n hn
      rw [List.zip_cons_cons, List.lookup_cons]
      have : (n == p) = false := by
        cases q : n == p with
        | false => rfl
        | true => rw [eq_of_beq q] at hn; exact absurd hn nd.1
      rw [this]
    rw [List.filterMap_cons, e, zip_out hl' nd.2]
    simp
theorem bind_plain {x qual : Str} {as : List Arg} {kd : List (Option Expr)} {df : List Expr} {body : List Stmt} {sc : Scope} {kV doc pm : Value} {an : Option Addr} {cdv ct : Value} {ps : List Str} {us : List Value} (hp : as.map (·.arg) = ps) (nd : ps.Nodup) (hl : us.length = ps.length) :
    bindArgs (PySem.W.fnOf x qual ⟨[], as, none, [], kd, none, df⟩ body sc .none kV doc pm an cdv ct) ⟨us, []⟩ = pure (ps.zip us) := by
  have h1 : seqItems? (.none) = pure none := rfl
  have hg : ¬ us.length > ps.length := by omega
  unfold bindArgs PySem.W.fnOf
  simp only [List.map_nil, List.nil_append, List.append_nil, hp, h1, pure_bind, bind_pure, List.forIn_nil, Option.getD_none, hg, decide_false, Bool.false_and, Option.isNone_none, Bool.and_true, Bool.false_eq_true, if_false]
  have hm : ((ps.take (ps.length - 0)).filter fun n => ((ps.zip us).lookup n).isNone) = [] := by
    rw [List.filter_eq_nil_iff]
    intro n hn
    rw [zip_lookup hl n (List.mem_of_mem_take hn)]
    decide
  have ha : ([] : List Value).drop (([] : List Value).length - ps.length) = [] := by simp
  simp only [ha, List.length_nil, hm, List.isEmpty_nil, Bool.not_true, Bool.false_eq_true, if_false, pure_bind]
  simp [zip_out hl nd]
  intro n hn hno
  obtain ⟨v, hv⟩ := zip_mem hl n hn
  exact absurd hv (hno v)
theorem kv_loop {ps : List Str} {f : Str × Value → List (Str × Value) × List (Str × Value) → Sem (ForInStep (List (Str × Value) × List (Str × Value)))}
    (hf : ∀ (q : Str × Value) (sl ex : List (Str × Value)), q.1 ∈ ps → (sl.lookup q.1).isSome = false → f q (sl, ex) = pure (ForInStep.yield (sl ++ [(q.1, q.2)], ex))) :
    ∀ (kv sl ex : List (Str × Value)), (kv.map (·.1)).Nodup → (∀ q ∈ kv, q.1 ∈ ps ∧ (sl.lookup q.1).isSome = false) → forIn kv (sl, ex) f = pure (sl ++ kv, ex)
  | [], sl, ex, _, _ => by rw [List.append_nil]; rfl
  | q :: kv, sl, ex, nd, h => by
    rw [List.map_cons, List.nodup_cons] at nd
    obtain ⟨h1, h2⟩ := h q List.mem_cons_self
    rw [List.forIn_cons, hf q sl ex h1 h2, pure_bind]
    show forIn kv (sl ++ [(q.1, q.2)], ex) f = _
    rw [kv_loop hf kv _ ex nd.2 fun p hp => ⟨(h p (List.mem_cons_of_mem _ hp)).1, ?_⟩, List.append_assoc]
    · rfl
    · have h3 := (h p (List.mem_cons_of_mem _ hp)).2
      have hne : (p.1 == q.1) = false := by
        cases e : p.1 == q.1 with
        | false => rfl
        | true => exact absurd (List.mem_map_of_mem (f := (·.1)) hp) (by rw [eq_of_beq e]; exact nd.1)
      rw [List.lookup_append]
      cases e : sl.lookup p.1 with
      | some v => rw [e] at h3; cases h3
      | none => simp [List.lookup_cons, hne]
theorem bind_kw {x qual : Str} {as : List Arg} {kd : List (Option Expr)} {df : List Expr} {body : List Stmt} {sc : Scope} {kV doc pm : Value} {an : Option Addr} {cdv ct : Value} {ps : List Str} {kv : List (Str × Value)} (hp : as.map (·.arg) = ps) (nd : ps.Nodup) (hk : (kv.map (·.1)).Nodup) (hin : ∀ q ∈ kv, q.1 ∈ ps) (hall : ∀ p ∈ ps, (kv.lookup p).isNone = false) :
    bindArgs (PySem.W.fnOf x qual ⟨[], as, none, [], kd, none, df⟩ body sc .none kV doc pm an cdv ct) ⟨[], kv⟩ = pure (ps.filterMap fun n => (kv.lookup n).map (n, ·)) := by
  have h1 : seqItems? (.none) = pure none := rfl
  unfold bindArgs PySem.W.fnOf
  simp only [List.map_nil, List.nil_append, List.append_nil, hp, h1, pure_bind, bind_pure, List.forIn_nil, Option.getD_none, List.zip_nil_right, List.length_nil]
  rw [kv_loop (ps := ps) (fun q sl ex h1 h2 => by
    rw [if_pos (by simp [h1]), if_neg (by rw [h2]; decide)]) kv [] [] hk fun q hq => ⟨hin q hq, rfl⟩]
  simp only [pure_bind, List.nil_append]
  have hm : ((ps.take (ps.length - ([] : List Value).length)).filter fun n => (kv.lookup n).isNone) = [] := by
    rw [List.filter_eq_nil_iff]
    intro n hn
    rw [hall n (List.mem_of_mem_take hn)]
    decide
  have ha : ([] : List Value).drop (([] : List Value).length - ps.length) = [] := by simp
  have hg : ¬ (0 : Nat) > ps.length := by omega
  simp only [ha, hg, hm, decide_false, Bool.false_and, List.isEmpty_nil, Bool.not_true, Bool.false_eq_true, if_false, pure_bind]
  simp
  intro n hn hno
  cases e : kv.lookup n with
  | none =>
    have := hall n hn
    rw [e] at this
    cases this
  | some v => exact absurd (PySem.mem_of_lookup e) (hno v)
theorem zip_get : ∀ {ks : List Str} {ws : List Value} {i : Nat} {p : Str}, ks.Nodup → ks[i]? = some p → (ks.zip ws).lookup p = ws[i]?
  | [], _, i, p, _, h => by simp at h
  | k :: ks, [], i, p, _, _ => by simp
  | k :: ks, w :: ws, 0, p, _, h => by
    have e : k = p := by simpa using h
    subst e
    simp
  | k :: ks, w :: ws, i + 1, p, nd, h => by
    rw [List.nodup_cons] at nd
    have h' : ks[i]? = some p := by simpa using h
    have hne : (p == k) = false := by
      cases e : p == k with
      | false => rfl
      | true => exact absurd (List.mem_of_getElem? h') (by rw [eq_of_beq e]; exact nd.1)
    rw [List.zip_cons_cons, List.lookup_cons, hne, List.getElem?_cons_succ]
    exact zip_get nd.2 h'
theorem zip_nodup : ∀ {ks : List Str} {ws : List Value}, ks.Nodup → ((ks.zip ws).map (·.1)).Nodup
  | [], _, _ => by simp
  | k :: ks, [], _ => by simp
  | k :: ks, w :: ws, nd => by
    rw [List.nodup_cons] at nd
    rw [List.zip_cons_cons, List.map_cons, List.nodup_cons]
    refine ⟨fun h => ?_, zip_nodup nd.2⟩
    obtain ⟨q, hq, e⟩ := List.mem_map.mp h
    have := (List.of_mem_zip (a := q.1) (b := q.2) hq).1
    rw [e] at this
    exact nd.1 this
theorem fm_len {ws : List Value} : ∀ {ord : List Nat}, (ord.filterMap fun i => ws[i]?).length ≤ ord.length
  | [] => Nat.le_refl _
  | i :: ord => by
    rw [List.filterMap_cons]
    have ih := fm_len (ws := ws) (ord := ord)
    split <;> simp only [List.length_cons] <;> omega
theorem fm_all {ws : List Value} : ∀ {ord : List Nat}, (ord.filterMap fun i => ws[i]?).length = ord.length → ∀ i ∈ ord, ∃ v, ws[i]? = some v
  | [], _, i, h => by cases h
  | j :: ord, hl, i, h => by
    rw [List.filterMap_cons] at hl
    have ih := fm_len (ws := ws) (ord := ord)
    cases e : ws[j]? with
    | none =>
      rw [e] at hl
      simp only [List.length_cons] at hl
      omega
    | some v =>
      rw [e] at hl
      rcases List.mem_cons.mp h with z | z
      · subst z; exact ⟨v, e⟩
      · exact fm_all (by simpa using hl) i z
theorem fm_zip {ks : List Str} {ws : List Value} (nd : ks.Nodup) : ∀ {ord : List Nat} {ps : List Str}, ord.map (fun i => ks[i]?) = ps.map some → (∀ i ∈ ord, ∃ v, ws[i]? = some v) → ps.filterMap (fun n => ((ks.zip ws).lookup n).map (n, ·)) = ps.zip (ord.filterMap fun i => ws[i]?)
  | [], [], _, _ => rfl
  | [], _ :: _, h, _ => by cases h
  | _ :: _, [], h, _ => by cases h
  | i :: ord, p :: ps, h, hw => by
    rw [List.map_cons, List.map_cons, List.cons.injEq] at h
    obtain ⟨v, e⟩ := hw i List.mem_cons_self
    rw [List.filterMap_cons, zip_get nd h.1, e, List.filterMap_cons, e, fm_zip nd h.2 fun j hj => hw j (List.mem_cons_of_mem _ hj)]
    rfl
theorem rel_fm : ∀ {zs : List V} {ws : List Value} {i : Nat}, Vals zs ws → (zs[i]? = none ∧ ws[i]? = none) ∨ ∃ z w, zs[i]? = some z ∧ ws[i]? = some w ∧ RelV z w
  | _, _, _, .nil => .inl ⟨rfl, rfl⟩
  | _, _, 0, .cons r _ => .inr ⟨_, _, rfl, rfl, r⟩
  | _, _, i + 1, .cons _ t => by
    rw [List.getElem?_cons_succ, List.getElem?_cons_succ]
    exact rel_fm t
theorem rel_gk {zs : List V} {ws : List Value} (r : Vals zs ws) : ∀ {ord : List Nat}, Vals (ord.filterMap fun i => zs[i]?) (ord.filterMap fun i => ws[i]?)
  | [] => .nil
  | i :: ord => by
    rw [List.filterMap_cons, List.filterMap_cons]
    rcases rel_fm (i := i) r with ⟨h1, h2⟩ | ⟨z, w, h1, h2, h3⟩
    · rw [h1, h2]; exact rel_gk r
    · rw [h1, h2]; exact .cons h3 (rel_gk r)
/-! ### a def's text -/
structure De where
  x : Str
  id : Nat
  N : List Str
  ps : List Str
  fn : Fn
/-- parameters by place alone -/
def plainA : Arguments → List Str → Bool
  | ⟨[], as, none, [], _, none, _⟩, ps => decide (as.map (·.arg) = ps)
  | _, _ => false
def chkD (B : Tb) (d : De) (st : Stmt) : Bool := C8.scC d.N d.ps (defScope st) && plainA (defArgs st) d.ps && decide (d.fn.np = d.ps.length) && decide (d.fn.ns = d.N.length) && chkSs B ⟨d.N, defScope st, none⟩ d.fn.body (defBody st)
abbrev FnP (K : PySem.W.Frag) (x : Str) (st : Stmt) (f : Addr) (fd : FuncData) : Prop := FunD K x x (defArgs st) (defBody st) (defScope st) [] [] f fd
section
variable {K : PySem.W.Frag} {x : Str} {st : Stmt} {f : Addr} {fd : FuncData} {ps : List Str}
theorem plainA_of {a : Arguments} (h : plainA a ps = true) : ∃ as kd df, a = ⟨[], as, none, [], kd, none, df⟩ ∧ as.map (·.arg) = ps := by
  obtain ⟨po, as, va, ko, kd, kw, df⟩ := a
  cases po <;> cases va <;> cases ko <;> cases kw <;> first
    | exact ⟨as, kd, df, rfl, of_decide_eq_true h⟩
    | exact nopeT h
theorem bindsP (F : FnP K x st f fd) (h : plainA (defArgs st) ps = true) (nd : ps.Nodup) : Binds K fd ps [] := by
  obtain ⟨as, kd, df, e, hp⟩ := plainA_of h
  unfold FnP at F
  rw [e] at F
  exact F.bindsN fun kV doc pm an cdv ct us hl => bind_plain hp nd hl
theorem bindsK (F : FnP K x st f fd) (h : plainA (defArgs st) ps = true) (nd : ps.Nodup) {ks : List Str} {ord : List Nat} (hk : kwOk ps ord ks = true) : KBinds K fd ps ks (gk ord) (gk ord) := by
  obtain ⟨as, kd, df, e, hp⟩ := plainA_of h
  unfold FnP at F
  rw [e] at F
  obtain ⟨oc, od, dV, kV, doc, pm, an, cdv, ct, osl, rfl, lk, hcd, hD, hK⟩ := F.ex
  simp only [kwOk, Bool.and_eq_true, decide_eq_true_eq, Bool.not_eq_true', List.all_eq_true] at hk
  obtain ⟨⟨⟨⟨k1, k2⟩, k3⟩, k4⟩, k5⟩ := hk
  have hol : ord.length = ps.length := by
    have := congrArg List.length k3
    simpa using this
  rcases hD with ⟨_, rfl⟩ | ⟨z, _⟩
  · refine ⟨fun s us ws _ hl => ?_, fun {vs us zs ws} r1 r2 => ?_⟩
    · cases us with
      | cons _ _ =>
        have hl : ([] : List Value).length = ps.length := hl
        cases ps with
        | nil => cases k5
        | cons _ _ => cases hl
      | nil =>
        have hl : (ord.filterMap fun i => ws[i]?).length = ps.length := hl
        have hw := fm_all (hl.trans hol.symm)
        refine .of_eq ?_
        rw [bind_kw hp nd (zip_nodup k1) (fun q hq => ?_) (fun p hp => ?_)]
        · rw [fm_zip k1 k3 hw]
          rfl
        · have hq := (List.of_mem_zip (a := q.1) (b := q.2) hq).1
          obtain ⟨j, hj, ej⟩ := List.mem_iff_getElem.mp hq
          have hm : j ∈ ord := by simpa using k4 j (List.mem_range.mpr hj)
          have h2 : ks[j]? ∈ ord.map fun i => ks[i]? := List.mem_map_of_mem hm
          rw [k3, List.getElem?_eq_getElem hj, ej] at h2
          simpa using h2
        · have h2 : some p ∈ ps.map some := List.mem_map_of_mem hp
          rw [← k3] at h2
          obtain ⟨i, hi, ei⟩ := List.mem_map.mp h2
          obtain ⟨v, ev⟩ := hw i hi
          rw [zip_get k1 ei, ev]
          rfl
    · cases r1 with
      | nil => exact rel_gk r2
      | cons _ _ => exact .nil
  · exact absurd rfl z
end
/-! ### all defs -/
theorem rs_start {K : PySem.W.Frag} {m : Ms} {H : Hp} : ∀ {ds : List D} {vs : List V} {N : List Str}, RelDs K m H ds vs → RS K m H (FV.start ds N.length) (L2.start N vs) := by
  intro ds vs N r
  have hl := r.length
  refine ⟨by simp [FV.start, L2.start, hl], fun i d e => ?_⟩
  rw [lk_get] at e
  unfold FV.start at e
  by_cases hi : i < ds.length
  · rw [List.getElem?_append_left (by simpa using hi)] at e
    rw [List.getElem?_map, List.getElem?_eq_getElem hi] at e
    have e' : ds[i]? = some d := by
      rw [List.getElem?_eq_getElem hi]
      simpa using e
    obtain ⟨v, h1, h2⟩ := r.get e'
    refine ⟨v, ?_, h2⟩
    unfold L2.start
    rw [List.getElem?_append_left (by rw [List.length_map, ← hl]; exact hi), List.getElem?_map, h1]
    rfl
  · rw [List.getElem?_append_right (by simpa using Nat.le_of_not_lt hi), List.getElem?_replicate] at e
    split at e <;> cases e
/-- what is to be known of the defs -/
structure Defs (K : PySem.W.Frag) (mg : Str → Option Value) (T : Nat → Option Fn) (B : Tb) : Prop where
  all : ∀ x f, B.fid.lookup x = some f → ∃ (d : De) (st : Stmt) (a : Addr) (fd : FuncData), chkD B d st = true ∧ T f = some d.fn ∧ B.ps f = d.ps ∧ FnP K x st a fd ∧ mg x = some (.ref a)
theorem fn_step {W : Wd} {T : Nat → Option Fn} {B : Tb} (w : WOk W T B) {d : De} {st : Stmt} {f : Nat} {x : Str} {a : Addr} {fd : FuncData} (hc : chkD B d st = true) (hT : T f = some d.fn) (F : FnP W.K x st a fd) :
    FnG W.P W.w W.K W.mg W.base (W.n + 1) a fd d.ps (spE W.K T (W.n + 1) f) := by
  unfold chkD at hc
  simp only [Bool.and_eq_true, decide_eq_true_eq] at hc
  obtain ⟨⟨⟨⟨c1, c2⟩, c3⟩, c4⟩, c5⟩ := hc
  have S := C8.fnScope_by c1
  refine okG F S (fun vs H Q h => ?_) fun cdv A outer s H vs Q gd hr h => ⟨tSs W T d.fn.body, PSs.nox (pss_ok w _ ⟨d.N, defScope st, none⟩ _ _ ⟨rfl, rfl, rfl, rfl, rfl, rfl, S.nd, rfl, fun _ _ _ => rfl, rfl, hr, gd, rfl⟩ S.kind c5), ?_⟩
  · obtain ⟨m, S', k, ds, hr, r, h, _⟩ := h
    simp only [callw, hT] at h
    rw [← r.length, h.1, c3]
  · obtain ⟨m, S', k, ds, hr, r, h, po⟩ := h
    simp only [callw, hT] at h
    refine ⟨m, _, S', _, hr, ?_, h.2, ⟨fun σ S2 m2 vσ H2 x2 hr2 rs2 h2 => po _ _ _ _ _ x2 hr2 .non h2, po, fun _ _ _ _ _ _ _ _ z => z.elim, fun _ _ _ _ _ _ _ _ z => z.elim⟩⟩
    rw [c4]
    exact rs_start r
theorem defs_ok {P : Program} {w : World} {K : PySem.W.Frag} {mg : Str → Option Value} {base : Heap} {T : Nat → Option Fn} {B : Tb} (D : Defs K mg T B)
    (mk : ∀ n, (∀ x f, B.fid.lookup x = some f → ∃ a fd, mg x = some (.ref a) ∧ PySem.W.keepIn K (.ref a) = true ∧ Binds K fd (B.ps f) [] ∧ (∀ ks ord, kwOk (B.ps f) ord ks = true → KBinds K fd (B.ps f) ks (gk ord) (gk ord)) ∧ FnG P w K mg base n a fd (B.ps f) (spE K T n f)) → WOk ⟨P, w, K, mg, base, n⟩ T B) :
    ∀ n, WOk ⟨P, w, K, mg, base, n⟩ T B := by
  intro n
  induction n with
  | zero =>
    refine mk 0 fun x f e => ?_
    obtain ⟨d, st, a, fd, hc, hT, hp, F, hm⟩ := D.all x f e
    have hc' := hc
    unfold chkD at hc'
    simp only [Bool.and_eq_true, decide_eq_true_eq] at hc'
    have nd : d.ps.Nodup := by
      have S := C8.fnScope_by hc'.1.1.1.1
      rw [← S.pre]
      exact S.nd.sublist (List.take_sublist _ _)
    rw [hp]
    exact ⟨a, fd, hm, F.kp, bindsP F hc'.1.1.1.2 nd, fun ks ord hk => bindsK F hc'.1.1.1.2 nd hk, ⟨fun vs H Q ⟨_, _, _, _, _, _, z, _⟩ => z.elim, fun _ _ _ _ _ _ _ _ _ _ _ _ _ ⟨_, _, _, _, _, _, z, _⟩ => z.elim⟩⟩
  | succ n ih =>
    refine mk (n + 1) fun x f e => ?_
    obtain ⟨d, st, a, fd, hc, hT, hp, F, hm⟩ := D.all x f e
    have hc' := hc
    unfold chkD at hc'
    simp only [Bool.and_eq_true, decide_eq_true_eq] at hc'
    have nd : d.ps.Nodup := by
      have S := C8.fnScope_by hc'.1.1.1.1
      rw [← S.pre]
      exact S.nd.sublist (List.take_sublist _ _)
    rw [hp]
    exact ⟨a, fd, hm, F.kp, bindsP F hc'.1.1.1.2 nd, fun ks ord hk => bindsK F hc'.1.1.1.2 nd hk, fn_step ih hc hT F⟩
end FV
set_option Elab.async false
set_option linter.all false
set_option maxRecDepth 100000
set_option maxHeartbeats 2000000
/-! Sound12: what the head tells; the law's promise. -/
namespace FV
open PySem L2
/-! ### constants of the text -/
mutual
def kD (K : PySem.W.Frag) : D → Value → Bool
  | .non, .none => true
  | .bl b, .bool c => b == c
  | .int i, .int j _ => decide (i = j)
  | .str x, .str y _ => decide (x = y)
  | .tup ds, .ref a => (match K.lookup a with
    | some ⟨.type c, _, .seq its _, _⟩ => decide (c = "tuple") && decide (its.size ≤ sizeLine) && kDs K ds its.toList
    | _ => false)
  | .frz ds, .ref a => (match K.lookup a with
    | some ⟨.type c, none, .seq its _, _⟩ => decide (c = "list") && decide (its.size ≤ sizeLine) && kDs K ds its.toList
    | _ => false)
  | _, _ => false
def kDs (K : PySem.W.Frag) : List D → List Value → Bool
  | [], [] => true
  | d :: ds, v :: vs => kD K d v && kDs K ds vs
  | _, _ => false
end
mutual
theorem kD_ok {K : PySem.W.Frag} : ∀ (d : D) (u : Value), kD K d u = true → ∃ v, RelV v u ∧ ∀ m H, RelD K m H d v
  | .non, u, h => by cases u <;> first | exact ⟨.non, rfl, fun _ _ => .non⟩ | exact nopeT h
  | .bl b, u, h => by
    cases u <;> try (exact nopeT h)
    rename_i c
    have e : b = c := eq_of_beq h
    subst e
    exact ⟨.bl b, rfl, fun _ _ => .bl b⟩
  | .int i, u, h => by
    cases u <;> try (exact nopeT h)
    rename_i j t
    have e : i = j := of_decide_eq_true h
    subst e
    exact ⟨.int i, ⟨t, rfl⟩, fun _ _ => .int i⟩
  | .str x, u, h => by
    cases u <;> try (exact nopeT h)
    rename_i y t
    have e : x = y := of_decide_eq_true h
    subst e
    exact ⟨.str x, ⟨t, rfl⟩, fun _ _ => .str x⟩
  | .tup ds, u, h => by
    cases u <;> try (exact nopeT h)
    rename_i a
    simp only [kD] at h
    split at h
    · rename_i c od its n sl e
      simp only [Bool.and_eq_true, decide_eq_true_eq] at h
      obtain ⟨⟨h1, h2⟩, h3⟩ := h
      obtain ⟨vs, r, q⟩ := kDs_ok ds its.toList h3
      exact ⟨.ref a, rfl, fun m H => .tup (.inr ⟨_, its, n, e, by rw [h1], rfl, h2, r⟩) (q m H)⟩
    · cases h
  | .frz ds, u, h => by
    cases u <;> try (exact nopeT h)
    rename_i a
    simp only [kD] at h
    split at h
    · rename_i c its n sl e
      simp only [Bool.and_eq_true, decide_eq_true_eq] at h
      obtain ⟨⟨h1, h2⟩, h3⟩ := h
      obtain ⟨vs, r, q⟩ := kDs_ok ds its.toList h3
      exact ⟨.ref a, rfl, fun m H => .frz (.inr ⟨_, its, n, e, by rw [h1], rfl, rfl, h2, r⟩) (q m H)⟩
    · cases h
  | .lst _, u, h => nopeT h
  | .ref _, u, h => nopeT h
  | .fn _, u, h => nopeT h
  | .exc _ _, u, h => nopeT h
  | .itr _, u, h => nopeT h
  | .rep _, u, h => nopeT h
  | .dic, u, h => nopeT h
theorem kDs_ok {K : PySem.W.Frag} : ∀ (ds : List D) (us : List Value), kDs K ds us = true → ∃ vs, Vals vs us ∧ ∀ m H, RelDs K m H ds vs
  | [], [], _ => ⟨[], .nil, fun _ _ => .nil⟩
  | [], _ :: _, h => nopeT h
  | _ :: _, [], h => nopeT h
  | d :: ds, u :: us, h => by
    have h : (kD K d u && kDs K ds us) = true := h
    rw [Bool.and_eq_true] at h
    obtain ⟨v, r, q⟩ := kD_ok d u h.1
    obtain ⟨vs, rs, qs⟩ := kDs_ok ds us h.2
    exact ⟨v :: vs, .cons r rs, fun m H => .cons (q m H) (qs m H)⟩
end
/-! ### the head's facts -/
def nameOf : Stmt → Str
  | .FunctionDef n .. => n
  | _ => "?"
def dOf (st : Stmt) : He.DefD := ⟨(nameOf st, none), nameOf st, nameOf st, defArgs st, defBody st, defScope st, [], []⟩
def FREE : List Str := ["len", "abs", "max", "min", "int", "divmod", "all", "any", "sum", "tuple", "list", "repr", "isinstance", "bool", "str", "dict", "range", "zip", "enumerate", "set"]
def tbOf (des : List De) (glb : List (Str × D)) (gcd : Bool) : Tb := ⟨des.map fun d => (d.x, d.id), glb, fun f => ((des.find? fun d => d.id == f).map (·.ps)).getD [], gcd⟩
def faOf (des : List De) : List He.Fa := des.map (fun d => He.Fa.glo d.x) ++ FREE.map He.Fa.free
def exOf (glb : List (Str × D)) (gcd : Bool) (K : PySem.W.Frag) : Bool := (glb.all fun p => match PySem.W.nsIn K mainGlobals p.1 with
    | some (some v) => kD K p.2 v
    | _ => false) && (!gcd || He.eqO (PySem.W.nsIn K mainGlobals "gcd") (some (some (.builtin "math.gcd"))))
def okOf (des : List De) (sts : List Stmt) (B : Tb) : Bool := ((des.zip sts).all fun q => chkD B q.1 q.2 && decide (nameOf q.2 = q.1.x)) && decide (des.length = sts.length) && decide ((des.map (·.id)).Nodup)
theorem find_id : ∀ {des : List De} {d : De}, (des.map (·.id)).Nodup → d ∈ des → (des.find? fun e => e.id == d.id) = some d
  | [], _, _, h => by cases h
  | e :: des, d, nd, h => by
    rw [List.map_cons, List.nodup_cons] at nd
    rw [List.find?_cons]
    rcases List.mem_cons.mp h with z | z
    · subst z; simp
    · have hne : (e.id == d.id) = false := by
        cases q : e.id == d.id with
        | false => rfl
        | true => exact absurd (List.mem_map_of_mem (f := (·.id)) z) (by rw [← eq_of_beq q]; exact nd.1)
      rw [hne]
      exact find_id nd.2 z
section
variable {des : List De} {sts : List Stmt} {glb : List (Str × D)} {gcd : Bool} {T : Nat → Option Fn} {w : World} {K : PySem.W.Frag} {h : Heap} {mg : Str → Option Value}
theorem defs_of (hok : okOf des sts (tbOf des glb gcd) = true) (hT : des.map (fun d => T d.id) = des.map (fun d => some d.fn)) (X : K.In h) (G : h.Ns mainGlobals mg) (c : He.SaysX (faOf des) (sts.map dOf) [] [] (exOf glb gcd) w h K) : Defs K mg T (tbOf des glb gcd) := by
  unfold okOf at hok
  simp only [Bool.and_eq_true, decide_eq_true_eq, List.all_eq_true] at hok
  obtain ⟨⟨h1, h2⟩, h3⟩ := hok
  refine ⟨fun x f e => ?_⟩
  obtain ⟨d, hd, e2⟩ := List.mem_map.mp (PySem.mem_of_lookup (show (des.map fun d => (d.x, d.id)).lookup x = some f from e))
  cases e2
  obtain ⟨i, hi, ei⟩ := List.mem_iff_getElem.mp hd
  have hj : i < sts.length := by rw [← h2]; exact hi
  have hz : (d, sts[i]) ∈ des.zip sts := by
    refine List.mem_iff_getElem.mpr ⟨i, by rw [List.length_zip]; omega, ?_⟩
    rw [List.getElem_zip, ei]
  obtain ⟨q1, q2⟩ := h1 _ hz
  have hm : (He.Fa.glo d.x).ok K = true := He.SaysD.facts (c.t.d) (by unfold faOf; exact List.mem_append_left _ (List.mem_map_of_mem hd))
  obtain ⟨fd, F⟩ := He.SaysD.def_ (c.t.d) i (d := dOf sts[i]) (by rw [List.getElem?_map, List.getElem?_eq_getElem hj]; rfl)
  have q2' : nameOf sts[i] = d.x := q2
  refine ⟨d, sts[i], _, fd, q1, List.map_inj_left.mp hT d hd, ?_, ?_, He.glo_ok X G hm⟩
  · show ((des.find? fun e => e.id == d.id).map (·.ps)).getD [] = d.ps
    rw [find_id h3 hd]
    rfl
  · have F' : FunD K (nameOf sts[i]) (nameOf sts[i]) (defArgs sts[i]) (defBody sts[i]) (defScope sts[i]) [] [] (He.ga K (nameOf sts[i])) fd := F
    rw [q2'] at F'
    exact F'
theorem wok_of (X : K.In h) (G : h.Ns mainGlobals mg) (c : He.SaysX (faOf des) (sts.map dOf) [] [] (exOf glb gcd) w h K) {P : Program} {base : Heap} {n : Nat}
    (hf : ∀ x f, (tbOf des glb gcd).fid.lookup x = some f → ∃ a fd, mg x = some (.ref a) ∧ PySem.W.keepIn K (.ref a) = true ∧ Binds K fd ((tbOf des glb gcd).ps f) [] ∧ (∀ ks ord, kwOk ((tbOf des glb gcd).ps f) ord ks = true → KBinds K fd ((tbOf des glb gcd).ps f) ks (gk ord) (gk ord)) ∧ FnG P w K mg base n a fd ((tbOf des glb gcd).ps f) (spE K T n f)) :
    WOk ⟨P, w, K, mg, base, n⟩ T (tbOf des glb gcd) := by
  have fr : ∀ x ∈ FREE, mg x = none := fun x hx => He.free_ok X G (He.SaysD.facts (c.t.d) (f := .free x) (by unfold faOf; exact List.mem_append_right _ (List.mem_map_of_mem hx)))
  have hex := c.more
  unfold exOf at hex
  rw [Bool.and_eq_true] at hex
  refine ⟨hf, fun b hb => ?_, fr _ (by decide), fr _ (by decide), fun t => ?_, fr _ (by decide), fr _ (by decide), fr _ (by decide), fun hg => ?_, fun p hp => ?_⟩
  · cases b <;> first | exact absurd rfl hb | exact fr _ (by decide)
  · cases t <;> exact fr _ (by decide +kernel)
  · have hg : gcd = true := hg
    have h2 := hex.2
    rw [hg] at h2
    exact PySem.W.mg_of X G (He.eqO_ok h2)
  · have h1 := List.all_eq_true.mp hex.1 p hp
    split at h1
    · rename_i v e
      obtain ⟨v', r, q⟩ := kD_ok _ _ h1
      exact ⟨v, v', PySem.W.mg_of X G e, r, q⟩
    · cases h1
/-- the law's call keeps its promise -/
theorem law_ok {P : Program} {k lid : Nat} (hok : okOf des sts (tbOf des glb gcd) = true) (hT : des.map (fun d => T d.id) = des.map (fun d => some d.fn)) (hl : (tbOf des glb gcd).fid.lookup ("law" : Str) = some lid) (hps : (tbOf des glb gcd).ps lid = [("script" : Str)])
    (law : ∀ ns : List Int, ns.length ≤ 63 → callw T (k + 1) lid [.frz (ns.map D.int)] [] (fun d _ => d = .bl true) XF) (X : K.In h) (G : h.Ns mainGlobals mg) {fa : Addr} (hfa : mg ("law" : Str) = some (.ref fa)) (c : He.SaysX (faOf des) (sts.map dOf) [] [] (exOf glb gcd) w h K) :
    ∃ (fd : FuncData) (sp : Sp), (∀ (s : Shared) (u : Value), BindsTo s fd ⟨[u], []⟩ [("script", u)]) ∧
        (∀ (H : Hp) (a : Addr) (ns : List Int), ns.length ≤ 63 → Only H → SqL K H a (ns.map V.int) → sp [.ref a] H (fun v _ => v = .bl true) NoX) ∧
        ∀ base : Heap, K.In base → base.Ns mainGlobals mg → FnG P w K mg base (k + 1) fa fd ["script"] sp := by
  have D := defs_of hok hT X G c
  obtain ⟨d, st, a, fd, hc, hTd, hp, F, hm⟩ := D.all _ _ hl
  rw [hfa] at hm
  cases hm
  have hc' := hc
  unfold chkD at hc'
  simp only [Bool.and_eq_true, decide_eq_true_eq] at hc'
  have hps' : d.ps = [("script" : Str)] := hp.symm.trans hps
  refine ⟨fd, spE K T (k + 1) lid, fun s u => ?_, fun H a ns hn ho hs => ?_, fun base _ _ => ?_⟩
  · obtain ⟨as, kd, df, e, hpp⟩ := plainA_of hc'.1.1.1.2
    have F := F
    unfold FnP at F
    rw [e] at F
    exact F.bindsA (ps := ["script"]) (fun kV doc pm an cdv ct us hl => bind_plain (hpp.trans hps') (by decide) hl) s [u] rfl
  · refine ⟨⟨[], []⟩, [], _, _, ⟨rfl, List.nodup_nil, fun l ds a e => (by cases l <;> cases e), fun a h => (by cases h)⟩, .cons (.frz ?_ (vs := ns.map V.int) ?_) .nil, law ns hn, fun d S' m' v H' _ _ r e => ?_⟩
    · rcases hs with (z | z) | z
      · rcases ho a with q | ⟨o, xs, q⟩
        · rw [z] at q; cases q
        · rw [z] at q; cases q
      · exact .inl z
      · exact .inr z
    · clear hn hs law
      induction ns with
      | nil => exact .nil
      | cons i ns ih => exact .cons (.int i) ih
    · subst e; exact relB r
  · have W := defs_ok (P := P) (w := w) (base := base) D (fun n hf => wok_of X G c hf)
    have := fn_step (W k) hc hTd F
    rw [hps'] at this
    exact this
end
end FV
set_option Elab.async false
set_option linter.all false
set_option maxRecDepth 100000
/-! Fns: the defs as syntax trees. -/
namespace FV
abbrev i_divisor_of : Nat := 3
def f_divisor_of : Fn := ⟨1, 3, [.set (.pt (.nm 1)) (.cst (.int 0)), .for_ (.nm 2) (.var 0) [.set (.pt (.nm 1)) (.bi .gcd [(.var 1), (.var 2)])], .ret (.var 1)]⟩
abbrev i_first_live : Nat := 4
def f_first_live : Fn := ⟨1, 2, [.for_ (.nm 1) (.var 0) [.iff (.cmp .ne (.var 1) (.cst (.int 0))) [.ret (.var 1)] []], .ret (.cst (.int 0))]⟩
abbrev i_is_tuple_up_to : Nat := 7
def f_is_tuple_up_to : Fn := ⟨3, 3, [.ret (.and (.isi (.var 0) .tup) (.cmp2 .le .le (.var 1) (.bi .len [(.var 0)]) (.var 2)))]⟩
abbrev i_is_tuple_of : Nat := 8
def f_is_tuple_of : Fn := ⟨2, 2, [.ret (.call 7 [(.var 0), (.var 1), (.var 1)])]⟩
abbrev i_is_whole : Nat := 9
def f_is_whole : Fn := ⟨1, 1, [.ret (.and (.isi (.var 0) .int) (.not (.isi (.var 0) .bool)))]⟩
abbrev i_are_whole : Nat := 10
def f_are_whole : Fn := ⟨2, 3, [.ret (.and (.call 8 [(.var 0), (.var 1)]) (.bi .all [(.lc false [2] (.nm 2) (.var 0) none (.call 9 [(.var 2)]))]))]⟩
abbrev i_law_divisor : Nat := 12
def f_law_divisor : Fn := ⟨2, 2, [.par [0, 1] [(.bi .abs [(.var 0)]), (.bi .abs [(.var 1)])], .whl (.cmp .gt (.var 1) (.cst (.int 0))) [.par [0, 1] [(.var 1), (.bin .mod (.bi .int [(.var 0)]) (.var 1))]], .ret (.var 0)]⟩
abbrev i_law_plain : Nat := 13
def f_law_plain : Fn := ⟨1, 4, [.set (.pt (.nm 1)) (.cst (.int 0)), .for_ (.nm 2) (.var 0) [.set (.pt (.nm 1)) (.call 12 [(.var 1), (.var 2)])], .set (.pt (.nm 3)) (.idx (.lc false [2] (.nm 2) (.var 0) (some (.cmp .ne (.var 2) (.cst (.int 0)))) (.var 2)) (.cst (.int 0))), .set (.pt (.nm 1)) (.ite (.cmp .gt (.var 3) (.cst (.int 0))) (.var 1) (.bin .sub (.cst (.int 0)) (.var 1))), .ret (.bi .tuple [(.lc false [2] (.nm 2) (.var 0) none (.bin .fdiv (.var 2) (.var 1)))])]⟩
abbrev i_is_plain : Nat := 15
def f_is_plain : Fn := ⟨2, 2, [.ret (.and (.call 10 [(.var 0), (.var 1)]) (.and (.cmp .eq (.call 3 [(.var 0)]) (.cst (.int 1))) (.cmp .gt (.call 4 [(.var 0)]) (.cst (.int 0)))))]⟩
abbrev i_law_cross : Nat := 19
def f_law_cross : Fn := ⟨2, 8, [.set (.pt (.tp [(.nm 2), (.nm 3), (.nm 4)])) (.var 0), .set (.pt (.tp [(.nm 5), (.nm 6), (.nm 7)])) (.var 1), .ret (.tup [(.bin .sub (.bin .mul (.var 3) (.var 7)) (.bin .mul (.var 4) (.var 6))), (.bin .sub (.bin .mul (.var 4) (.var 5)) (.bin .mul (.var 2) (.var 7))), (.bin .sub (.bin .mul (.var 2) (.var 6)) (.bin .mul (.var 3) (.var 5)))])]⟩
abbrev i_law_dot : Nat := 30
def f_law_dot : Fn := ⟨2, 2, [.ret (.bin .add (.bin .add (.bin .mul (.idx (.var 0) (.cst (.int 0))) (.idx (.var 1) (.cst (.int 0)))) (.bin .mul (.idx (.var 0) (.cst (.int 1))) (.idx (.var 1) (.cst (.int 1))))) (.bin .mul (.idx (.var 0) (.cst (.int 2))) (.idx (.var 1) (.cst (.int 2)))))]⟩
abbrev i_law_block : Nat := 31
def f_law_block : Fn := ⟨3, 3, [.ret (.call 30 [(.var 0), (.call 19 [(.var 1), (.var 2)])])]⟩
abbrev i_cross : Nat := 35
def f_cross : Fn := ⟨2, 2, [.ret (.tup [(.bin .sub (.bin .mul (.idx (.var 0) (.cst (.int 1))) (.idx (.var 1) (.cst (.int 2)))) (.bin .mul (.idx (.var 0) (.cst (.int 2))) (.idx (.var 1) (.cst (.int 1))))), (.bin .sub (.bin .mul (.idx (.var 0) (.cst (.int 2))) (.idx (.var 1) (.cst (.int 0)))) (.bin .mul (.idx (.var 0) (.cst (.int 0))) (.idx (.var 1) (.cst (.int 2))))), (.bin .sub (.bin .mul (.idx (.var 0) (.cst (.int 0))) (.idx (.var 1) (.cst (.int 1)))) (.bin .mul (.idx (.var 0) (.cst (.int 1))) (.idx (.var 1) (.cst (.int 0)))))])]⟩
abbrev i_dot : Nat := 43
def f_dot : Fn := ⟨2, 4, [.ret (.bi .sum [(.lc false [2, 3] (.tp [(.nm 2), (.nm 3)]) (.zip (.var 0) (.var 1)) none (.bin .mul (.var 2) (.var 3)))])]⟩
abbrev i_block : Nat := 44
def f_block : Fn := ⟨3, 3, [.ret (.call 43 [(.var 0), (.call 35 [(.var 1), (.var 2)])])]⟩
abbrev i_is_view_of : Nat := 60
def f_is_view_of : Fn := ⟨1, 2, [.iff (.or (.not (.call 8 [(.var 0), (.cst (.int 3))])) (.not (.bi .all [(.lc false [1] (.nm 1) (.var 0) none (.call 10 [(.var 1), (.cst (.int 3))]))]))) [.ret (.cst (.bl false))] [], .ret (.and (.call 15 [(.bin .add (.bin .add (.idx (.var 0) (.cst (.int 0))) (.idx (.var 0) (.cst (.int 1)))) (.idx (.var 0) (.cst (.int 2)))), (.cst (.int 9))]) (.cmp .ne (.call 44 [(.idx (.var 0) (.cst (.int 0))), (.idx (.var 0) (.cst (.int 1))), (.idx (.var 0) (.cst (.int 2)))]) (.cst (.int 0))))]⟩
abbrev i_law_plain_view : Nat := 297
def f_law_plain_view : Fn := ⟨1, 2, [.set (.pt (.nm 1)) (.call 13 [(.bin .add (.bin .add (.bi .tuple [(.idx (.var 0) (.cst (.int 0)))]) (.bi .tuple [(.idx (.var 0) (.cst (.int 1)))])) (.bi .tuple [(.idx (.var 0) (.cst (.int 2)))]))]), .ret (.tup [(.slc (.var 1) none (some (.cst (.int 3)))), (.slc (.var 1) (some (.cst (.int 3))) (some (.cst (.int 6)))), (.slc (.var 1) (some (.cst (.int 6))) none)])]⟩
abbrev i_is_view : Nat := 303
def f_is_view : Fn := ⟨1, 1, [.ret (.call 60 [(.var 0)])]⟩
abbrev i_law_is_view : Nat := 313
def f_law_is_view : Fn := ⟨1, 4, [.iff (.or (.not (.isi (.var 0) .tup)) (.or (.cmp .ne (.bi .len [(.var 0)]) (.cst (.int 3))) (.cmp .ne (.lc false [1] (.nm 1) (.var 0) (some (.or (.not (.isi (.var 1) .tup)) (.cmp .ne (.bi .len [(.var 1)]) (.cst (.int 3))))) (.var 1)) (.lst false [])))) [.ret (.cst (.bl false))] [], .set (.pt (.nm 2)) (.bin .add (.bin .add (.idx (.var 0) (.cst (.int 0))) (.idx (.var 0) (.cst (.int 1)))) (.idx (.var 0) (.cst (.int 2)))), .iff (.cmp .isin (.cst (.bl false)) (.lc false [3] (.nm 3) (.var 2) none (.and (.isi (.var 3) .int) (.not (.isi (.var 3) .bool))))) [.ret (.cst (.bl false))] [], .ret (.and (.cmp .ne (.call 31 [(.idx (.var 0) (.cst (.int 0))), (.idx (.var 0) (.cst (.int 1))), (.idx (.var 0) (.cst (.int 2)))]) (.cst (.int 0))) (.cmp .eq (.call 13 [(.var 2)]) (.var 2)))]⟩
abbrev i_law_draw_v7 : Nat := 442
def f_law_draw_v7 : Fn := ⟨2, 4, [.iff (.cmp .gt (.idx (.var 0) (.cst (.int 1))) (.cst (.int 0))) [.set (.tp [(.sub (.var 0) (.cst (.int 1))), (.pt (.nm 2))]) (.bi .divmod [(.idx (.var 0) (.cst (.int 1))), (.var 1)]), .ret (.var 2)] [], .set (.sub (.var 0) (.cst (.int 2))) (.bin .add (.idx (.var 0) (.cst (.int 2))) (.cst (.int 1))), .set (.pt (.nm 3)) (.bi .int [(.idx (.var 0) (.cst (.int 0)))]), .set (.sub (.var 0) (.cst (.int 0))) (.bin .mod (.bi .int [(.bin .add (.bin .add (.bin .mul (.var 3) (.bin .add (.bin .mod (.var 3) (.cst (.int 20011))) (.cst (.int 30011)))) (.bin .mul (.cst (.int 70001)) (.idx (.var 0) (.cst (.int 2))))) (.cst (.int 9)))]) (.cst (.int 2147483563))), .ret (.bin .mod (.bi .int [(.bin .fdiv (.idx (.var 0) (.cst (.int 0))) (.cst (.int 128)))]) (.var 1))]⟩
abbrev i_law_pick_v7 : Nat := 443
def f_law_pick_v7 : Fn := ⟨2, 2, [.ret (.idx (.var 1) (.call 442 [(.var 0), (.bi .len [(.var 1)])]))]⟩
abbrev i_law_number_v8 : Nat := 444
def f_law_number_v8 : Fn := ⟨2, 2, [.ret (.call 443 [(.var 0), (.lst false [(.cst (.int 0)), (.cst (.int 1)), (.neg (.cst (.int 1))), (.bin .sub (.call 442 [(.var 0), (.bin .add (.bin .mul (.cst (.int 2)) (.var 1)) (.cst (.int 1)))]) (.var 1)), (.bin .sub (.call 442 [(.var 0), (.bin .add (.bin .mul (.cst (.int 2)) (.var 1)) (.cst (.int 1)))]) (.var 1))])])]⟩
abbrev i_law_view_v6 : Nat := 445
def f_law_view_v6 : Fn := ⟨2, 6, [.for_ (.nm 2) (.rng1 (.cst (.int 12))) [.set (.pt (.nm 3)) (.lc false [5] (.nm 5) (.rng1 (.cst (.int 3))) none (.bi .tuple [(.lc false [4] (.nm 4) (.rng1 (.cst (.int 3))) none (.call 444 [(.var 0), (.var 1)]))])), .iff (.cmp .ne (.call 31 [(.idx (.var 3) (.cst (.int 0))), (.idx (.var 3) (.cst (.int 1))), (.idx (.var 3) (.cst (.int 2)))]) (.cst (.int 0))) [.ret (.call 297 [(.var 3)])] []], .ret (.tup [(.tup [(.cst (.int 1)), (.cst (.int 0)), (.cst (.int 1))]), (.tup [(.cst (.int 0)), (.cst (.int 1)), (.cst (.int 0))]), (.tup [(.cst (.int 1)), (.cst (.int 0)), (.cst (.int 2))])])]⟩
abbrev i_law_things_v3 : Nat := 446
def f_law_things_v3 : Fn := ⟨2, 10, [.set (.pt (.tp [(.nm 2), (.nm 3)])) (.tup [(.call 442 [(.var 0), (.cst (.int 3))]), (.call 442 [(.var 0), (.cst (.int 3))])]), .set (.pt (.nm 4)) (.idx (.var 1) (.var 2)), .set (.pt (.nm 5)) (.lst true [(.var 1), (.rev (.var 1)), (.bin .add (.slc (.var 1) (some (.cst (.int 1))) none) (.slc (.var 1) none (some (.cst (.int 1))))), (.slc (.var 1) none (some (.cst (.int 2)))), (.bin .add (.var 1) (.tup [(.var 4)])), (.bi .list [(.var 1)]), (.tup [(.var 1)]), (.cst .non), (.cst (.int 0)), (.cst (.str "view")), (.tup []), .dct, (.bi .tuple [(.lc false [6] (.nm 6) (.var 1) none (.bi .list [(.var 6)]))]), (.bin .add (.bin .add (.idx (.var 1) (.cst (.int 0))) (.idx (.var 1) (.cst (.int 1)))) (.idx (.var 1) (.cst (.int 2))))]), .set (.pt (.nm 5)) (.cat true (.cat false (.var 5) (.lc false [8] (.nm 8) (.lst false [(.neg (.cst (.int 3))), (.neg (.cst (.int 2))), (.neg (.cst (.int 1))), (.cst (.int 2)), (.cst (.int 3))]) none (.bi .tuple [(.lc false [6] (.nm 6) (.var 1) none (.bi .tuple [(.lc false [7] (.nm 7) (.var 6) none (.bin .mul (.var 8) (.var 7)))]))]))) (.lst false [(.bi .tuple [(.lc false [9] (.nm 9) (.rng1 (.cst (.int 3))) none (.bi .tuple [(.lc false [6] (.nm 6) (.var 1) none (.idx (.var 6) (.var 9)))]))])])), .set (.pt (.nm 5)) (.cat true (.var 5) (.lc false [6] (.nm 6) (.lst false [(.cst .non), (.slc (.var 4) none (some (.cst (.int 2)))), (.bin .add (.var 4) (.tup [(.cst (.int 0))])), (.bi .list [(.var 4)]), (.tup [(.cst (.int 0)), (.cst (.int 0)), (.cst (.int 0))]), (.cst (.int 5)), (.cst (.str "row")), (.idx (.var 1) (.bin .sub (.var 2) (.cst (.int 1)))), (.rev (.var 4))]) none (.bin .add (.bin .add (.slc (.var 1) none (some (.var 2))) (.tup [(.var 6)])) (.slc (.var 1) (some (.bin .add (.var 2) (.cst (.int 1)))) none)))), .for_ (.nm 6) (.lst false [(.cst (.int 0)), (.cst (.int 1)), (.neg (.cst (.int 1))), (.bin .add (.idx (.var 4) (.var 3)) (.cst (.int 1))), (.bin .sub (.cst (.int 0)) (.idx (.var 4) (.var 3))), (.cst .non), (.bi .str [(.idx (.var 4) (.var 3))]), (.tup [(.idx (.var 4) (.var 3))]), (.cst (.bl true)), (.cst (.bl false)), (.cmp .eq (.idx (.var 4) (.var 3)) (.cst (.int 1))), (.lst false [(.cst (.int 1))]), (.bin .pow (.cst (.int 10)) (.cst (.int 29)))]) [.expr (.app (.var 5) (.bin .add (.bin .add (.slc (.var 1) none (some (.var 2))) (.tup [(.bin .add (.bin .add (.slc (.var 4) none (some (.var 3))) (.tup [(.var 6)])) (.slc (.var 4) (some (.bin .add (.var 3) (.cst (.int 1)))) none))])) (.slc (.var 1) (some (.bin .add (.var 2) (.cst (.int 1)))) none)))], .ret (.var 5)]⟩
abbrev i_law_right_v23 : Nat := 447
def f_law_right_v23 : Fn := ⟨1, 12, [.for_ (.nm 1) (.rng1 (.cst (.int 5))) [.set (.pt (.nm 2)) (.call 445 [(.var 0), (.call 443 [(.var 0), (.lst false [(.cst (.int 1)), (.cst (.int 3)), (.cst (.int 20)), (.bin .pow (.cst (.int 10)) (.cst (.int 9)))])])]), .for_ (.nm 3) (.call 446 [(.var 0), (.var 2)]) [.set (.pt (.nm 4)) (.call 313 [(.var 3)]), .iff (.cmp .ne (.bi .repr [(.lst false [(.call 303 [(.var 3)]), (.callk 303 [0] [(.var 3)])])]) (.bi .repr [(.lst false [(.var 4), (.var 4)])])) [.ret (.cst (.bl false))] []], .set (.pt (.nm 5)) (.bi .tuple [(.lc false [7] (.nm 7) (.rng1 (.cst (.int 3))) none (.bi .tuple [(.lc false [6] (.nm 6) (.rng1 (.cst (.int 3))) none (.call 444 [(.var 0), (.cst (.int 2))]))]))]), .set (.pt (.nm 8)) (.lc false [9] (.nm 9) (.lst false [(.neg (.cst (.int 4))), (.neg (.cst (.int 3))), (.neg (.cst (.int 2))), (.neg (.cst (.int 1))), (.cst (.int 1)), (.cst (.int 2)), (.cst (.int 3)), (.cst (.int 4))]) (some (.call 303 [(.bi .tuple [(.lc false [11] (.nm 11) (.var 5) none (.bi .tuple [(.lc false [10] (.nm 10) (.var 11) none (.bin .mul (.var 9) (.var 10)))]))])])) (.var 9)), .iff (.or (.cmp .gt (.bi .len [(.var 8)]) (.cst (.int 1))) (.or (.cmp .ne (.call 303 [(.var 5)]) (.call 313 [(.var 5)])) (.cmp .isnot (.call 303 [(.tup [(.idx (.var 5) (.cst (.int 0))), (.idx (.var 5) (.cst (.int 1))), (.idx (.var 5) (.cst (.int 0)))])]) (.cst (.bl false))))) [.ret (.cst (.bl false))] []], .ret (.and (.cmp .is (.call 303 [(.tup [(.tup [(.cst (.int 1)), (.cst (.int 0)), (.cst (.int 0))]), (.tup [(.cst (.int 0)), (.cst (.int 1)), (.cst (.int 0))]), (.tup [(.cst (.int 0)), (.cst (.int 0)), (.cst (.int 1))])])]) (.cst (.bl true))) (.cmp .is (.call 303 [(.tup [(.tup [(.cst (.int 1)), (.cst (.int 2)), (.cst (.int 3))]), (.tup [(.cst (.int 4)), (.cst (.int 5)), (.cst (.int 6))]), (.tup [(.cst (.int 7)), (.cst (.int 8)), (.cst (.int 9))])])]) (.cst (.bl false))))]⟩
abbrev i_law_pool_v11 : Nat := 448
def f_law_pool_v11 : Fn := ⟨2, 5, [.par [2, 3] [(.ite (.cmp .lt (.var 1) (.bi .len [(.var 0)])) (.bi .int [(.idx (.var 0) (.var 1))]) (.bin .add (.bin .mul (.cst (.int 70001)) (.var 1)) (.cst (.int 618)))), (.bin .add (.cst (.int 301375)) (.bin .mul (.cst (.int 5087)) (.var 1)))], .for_ (.nm 4) (.slc (.var 0) none (some (.cst (.int 63)))) [.set (.pt (.nm 3)) (.bin .mod (.bi .int [(.bin .add (.bin .add (.bin .mul (.var 3) (.cst (.int 48271))) (.bin .mod (.bi .int [(.var 4)]) (.cst (.int 2147483563)))) (.cst (.int 217)))]) (.cst (.int 2147483563)))], .ret (.lst true [(.bin .mod (.bi .int [(.bin .add (.var 3) (.bin .mul (.var 2) (.cst (.int 1013))))]) (.cst (.int 2147483563))), (.ite (.or (.cmp .lt (.var 2) (.cst (.int 0))) (.cmp .ge (.var 2) (.bin .pow (.cst (.int 10)) (.cst (.int 18))))) (.bi .abs [(.var 2)]) (.cst (.int 0))), (.cst (.int 0))])]⟩
abbrev i_law_v34 : Nat := 449
def f_law_v34 : Fn := ⟨1, 2, [.for_ (.nm 1) (.rng1 (.bi .max2 [(.cst (.int 2)), (.bi .min2 [(.bi .len [(.var 0)]), (.cst (.int 3))])])) [.iff (.not (.call 447 [(.call 448 [(.var 0), (.var 1)])])) [.ret (.cst (.bl false))] []], .ret (.cst (.bl true))]⟩
def tgl : List (Nat × Fn) := [(3, f_divisor_of), (4, f_first_live), (7, f_is_tuple_up_to), (8, f_is_tuple_of), (9, f_is_whole), (10, f_are_whole), (12, f_law_divisor), (13, f_law_plain), (15, f_is_plain), (19, f_law_cross), (30, f_law_dot), (31, f_law_block), (35, f_cross), (43, f_dot), (44, f_block), (60, f_is_view_of), (297, f_law_plain_view), (303, f_is_view), (313, f_law_is_view), (442, f_law_draw_v7), (443, f_law_pick_v7), (444, f_law_number_v8), (445, f_law_view_v6), (446, f_law_things_v3), (447, f_law_right_v23), (448, f_law_pool_v11), (449, f_law_v34)]
def TG (f : Nat) : Option Fn := (tgl.find? fun p => p.1 == f).map (·.2)
@[irreducible] def CT (n : Nat) : Hd := callw TG n
theorem CT_eq (n : Nat) : CT n = callw TG n := by unfold CT; rfl
theorem cw {n f : Nat} {ds : List D} {S : Store} {k X : D → Store → Prop} {d : Fn} (e : TG f = some d) (h : ds.length = d.np ∧ exs (CT n) X d.body (start ds d.ns) S { nx := fun _ S1 => k .non S1, rt := k, bk := fun _ _ => False, ct := fun _ _ => False }) : CT (n + 1) f ds S k X := by
  rw [CT_eq] at h ⊢
  simp only [callw, e]
  exact h
theorem c_divisor_of {n : Nat} {a0 : D} {S : Store} {k X : D → Store → Prop} (h : exs (CT n) X f_divisor_of.body [some a0, none, none] S { nx := fun _ S1 => k .non S1, rt := k, bk := fun _ _ => False, ct := fun _ _ => False }) : CT (n + 1) i_divisor_of [a0] S k X := cw rfl ⟨rfl, h⟩
theorem c_first_live {n : Nat} {a0 : D} {S : Store} {k X : D → Store → Prop} (h : exs (CT n) X f_first_live.body [some a0, none] S { nx := fun _ S1 => k .non S1, rt := k, bk := fun _ _ => False, ct := fun _ _ => False }) : CT (n + 1) i_first_live [a0] S k X := cw rfl ⟨rfl, h⟩
theorem c_is_tuple_up_to {n : Nat} {a0 a1 a2 : D} {S : Store} {k X : D → Store → Prop} (h : exs (CT n) X f_is_tuple_up_to.body [some a0, some a1, some a2] S { nx := fun _ S1 => k .non S1, rt := k, bk := fun _ _ => False, ct := fun _ _ => False }) : CT (n + 1) i_is_tuple_up_to [a0, a1, a2] S k X := cw rfl ⟨rfl, h⟩
theorem c_is_tuple_of {n : Nat} {a0 a1 : D} {S : Store} {k X : D → Store → Prop} (h : exs (CT n) X f_is_tuple_of.body [some a0, some a1] S { nx := fun _ S1 => k .non S1, rt := k, bk := fun _ _ => False, ct := fun _ _ => False }) : CT (n + 1) i_is_tuple_of [a0, a1] S k X := cw rfl ⟨rfl, h⟩
theorem c_is_whole {n : Nat} {a0 : D} {S : Store} {k X : D → Store → Prop} (h : exs (CT n) X f_is_whole.body [some a0] S { nx := fun _ S1 => k .non S1, rt := k, bk := fun _ _ => False, ct := fun _ _ => False }) : CT (n + 1) i_is_whole [a0] S k X := cw rfl ⟨rfl, h⟩
theorem c_are_whole {n : Nat} {a0 a1 : D} {S : Store} {k X : D → Store → Prop} (h : exs (CT n) X f_are_whole.body [some a0, some a1, none] S { nx := fun _ S1 => k .non S1, rt := k, bk := fun _ _ => False, ct := fun _ _ => False }) : CT (n + 1) i_are_whole [a0, a1] S k X := cw rfl ⟨rfl, h⟩
theorem c_law_divisor {n : Nat} {a0 a1 : D} {S : Store} {k X : D → Store → Prop} (h : exs (CT n) X f_law_divisor.body [some a0, some a1] S { nx := fun _ S1 => k .non S1, rt := k, bk := fun _ _ => False, ct := fun _ _ => False }) : CT (n + 1) i_law_divisor [a0, a1] S k X := cw rfl ⟨rfl, h⟩
theorem c_law_plain {n : Nat} {a0 : D} {S : Store} {k X : D → Store → Prop} (h : exs (CT n) X f_law_plain.body [some a0, none, none, none] S { nx := fun _ S1 => k .non S1, rt := k, bk := fun _ _ => False, ct := fun _ _ => False }) : CT (n + 1) i_law_plain [a0] S k X := cw rfl ⟨rfl, h⟩
theorem c_is_plain {n : Nat} {a0 a1 : D} {S : Store} {k X : D → Store → Prop} (h : exs (CT n) X f_is_plain.body [some a0, some a1] S { nx := fun _ S1 => k .non S1, rt := k, bk := fun _ _ => False, ct := fun _ _ => False }) : CT (n + 1) i_is_plain [a0, a1] S k X := cw rfl ⟨rfl, h⟩
theorem c_law_cross {n : Nat} {a0 a1 : D} {S : Store} {k X : D → Store → Prop} (h : exs (CT n) X f_law_cross.body [some a0, some a1, none, none, none, none, none, none] S { nx := fun _ S1 => k .non S1, rt := k, bk := fun _ _ => False, ct := fun _ _ => False }) : CT (n + 1) i_law_cross [a0, a1] S k X := cw rfl ⟨rfl, h⟩
theorem c_law_dot {n : Nat} {a0 a1 : D} {S : Store} {k X : D → Store → Prop} (h : exs (CT n) X f_law_dot.body [some a0, some a1] S { nx := fun _ S1 => k .non S1, rt := k, bk := fun _ _ => False, ct := fun _ _ => False }) : CT (n + 1) i_law_dot [a0, a1] S k X := cw rfl ⟨rfl, h⟩
theorem c_law_block {n : Nat} {a0 a1 a2 : D} {S : Store} {k X : D → Store → Prop} (h : exs (CT n) X f_law_block.body [some a0, some a1, some a2] S { nx := fun _ S1 => k .non S1, rt := k, bk := fun _ _ => False, ct := fun _ _ => False }) : CT (n + 1) i_law_block [a0, a1, a2] S k X := cw rfl ⟨rfl, h⟩
theorem c_cross {n : Nat} {a0 a1 : D} {S : Store} {k X : D → Store → Prop} (h : exs (CT n) X f_cross.body [some a0, some a1] S { nx := fun _ S1 => k .non S1, rt := k, bk := fun _ _ => False, ct := fun _ _ => False }) : CT (n + 1) i_cross [a0, a1] S k X := cw rfl ⟨rfl, h⟩
theorem c_dot {n : Nat} {a0 a1 : D} {S : Store} {k X : D → Store → Prop} (h : exs (CT n) X f_dot.body [some a0, some a1, none, none] S { nx := fun _ S1 => k .non S1, rt := k, bk := fun _ _ => False, ct := fun _ _ => False }) : CT (n + 1) i_dot [a0, a1] S k X := cw rfl ⟨rfl, h⟩
theorem c_block {n : Nat} {a0 a1 a2 : D} {S : Store} {k X : D → Store → Prop} (h : exs (CT n) X f_block.body [some a0, some a1, some a2] S { nx := fun _ S1 => k .non S1, rt := k, bk := fun _ _ => False, ct := fun _ _ => False }) : CT (n + 1) i_block [a0, a1, a2] S k X := cw rfl ⟨rfl, h⟩
theorem c_is_view_of {n : Nat} {a0 : D} {S : Store} {k X : D → Store → Prop} (h : exs (CT n) X f_is_view_of.body [some a0, none] S { nx := fun _ S1 => k .non S1, rt := k, bk := fun _ _ => False, ct := fun _ _ => False }) : CT (n + 1) i_is_view_of [a0] S k X := cw rfl ⟨rfl, h⟩
theorem c_law_plain_view {n : Nat} {a0 : D} {S : Store} {k X : D → Store → Prop} (h : exs (CT n) X f_law_plain_view.body [some a0, none] S { nx := fun _ S1 => k .non S1, rt := k, bk := fun _ _ => False, ct := fun _ _ => False }) : CT (n + 1) i_law_plain_view [a0] S k X := cw rfl ⟨rfl, h⟩
theorem c_is_view {n : Nat} {a0 : D} {S : Store} {k X : D → Store → Prop} (h : exs (CT n) X f_is_view.body [some a0] S { nx := fun _ S1 => k .non S1, rt := k, bk := fun _ _ => False, ct := fun _ _ => False }) : CT (n + 1) i_is_view [a0] S k X := cw rfl ⟨rfl, h⟩
theorem c_law_is_view {n : Nat} {a0 : D} {S : Store} {k X : D → Store → Prop} (h : exs (CT n) X f_law_is_view.body [some a0, none, none, none] S { nx := fun _ S1 => k .non S1, rt := k, bk := fun _ _ => False, ct := fun _ _ => False }) : CT (n + 1) i_law_is_view [a0] S k X := cw rfl ⟨rfl, h⟩
theorem c_law_draw_v7 {n : Nat} {a0 a1 : D} {S : Store} {k X : D → Store → Prop} (h : exs (CT n) X f_law_draw_v7.body [some a0, some a1, none, none] S { nx := fun _ S1 => k .non S1, rt := k, bk := fun _ _ => False, ct := fun _ _ => False }) : CT (n + 1) i_law_draw_v7 [a0, a1] S k X := cw rfl ⟨rfl, h⟩
theorem c_law_pick_v7 {n : Nat} {a0 a1 : D} {S : Store} {k X : D → Store → Prop} (h : exs (CT n) X f_law_pick_v7.body [some a0, some a1] S { nx := fun _ S1 => k .non S1, rt := k, bk := fun _ _ => False, ct := fun _ _ => False }) : CT (n + 1) i_law_pick_v7 [a0, a1] S k X := cw rfl ⟨rfl, h⟩
theorem c_law_number_v8 {n : Nat} {a0 a1 : D} {S : Store} {k X : D → Store → Prop} (h : exs (CT n) X f_law_number_v8.body [some a0, some a1] S { nx := fun _ S1 => k .non S1, rt := k, bk := fun _ _ => False, ct := fun _ _ => False }) : CT (n + 1) i_law_number_v8 [a0, a1] S k X := cw rfl ⟨rfl, h⟩
theorem c_law_view_v6 {n : Nat} {a0 a1 : D} {S : Store} {k X : D → Store → Prop} (h : exs (CT n) X f_law_view_v6.body [some a0, some a1, none, none, none, none] S { nx := fun _ S1 => k .non S1, rt := k, bk := fun _ _ => False, ct := fun _ _ => False }) : CT (n + 1) i_law_view_v6 [a0, a1] S k X := cw rfl ⟨rfl, h⟩
theorem c_law_things_v3 {n : Nat} {a0 a1 : D} {S : Store} {k X : D → Store → Prop} (h : exs (CT n) X f_law_things_v3.body [some a0, some a1, none, none, none, none, none, none, none, none] S { nx := fun _ S1 => k .non S1, rt := k, bk := fun _ _ => False, ct := fun _ _ => False }) : CT (n + 1) i_law_things_v3 [a0, a1] S k X := cw rfl ⟨rfl, h⟩
theorem c_law_right_v23 {n : Nat} {a0 : D} {S : Store} {k X : D → Store → Prop} (h : exs (CT n) X f_law_right_v23.body [some a0, none, none, none, none, none, none, none, none, none, none, none] S { nx := fun _ S1 => k .non S1, rt := k, bk := fun _ _ => False, ct := fun _ _ => False }) : CT (n + 1) i_law_right_v23 [a0] S k X := cw rfl ⟨rfl, h⟩
theorem c_law_pool_v11 {n : Nat} {a0 a1 : D} {S : Store} {k X : D → Store → Prop} (h : exs (CT n) X f_law_pool_v11.body [some a0, some a1, none, none, none] S { nx := fun _ S1 => k .non S1, rt := k, bk := fun _ _ => False, ct := fun _ _ => False }) : CT (n + 1) i_law_pool_v11 [a0, a1] S k X := cw rfl ⟨rfl, h⟩
theorem c_law_v34 {n : Nat} {a0 : D} {S : Store} {k X : D → Store → Prop} (h : exs (CT n) X f_law_v34.body [some a0, none] S { nx := fun _ S1 => k .non S1, rt := k, bk := fun _ _ => False, ct := fun _ _ => False }) : CT (n + 1) i_law_v34 [a0] S k X := cw rfl ⟨rfl, h⟩
end FV
set_option Elab.async false
set_option linter.all false
set_option maxRecDepth 100000
set_option maxHeartbeats 0
/-! C_k14: the head and the close. -/
namespace FV
open PySem PySem.Spec PyProof.Rows L2
abbrev RW := PySem.Challenge.rw_flatviews_k14_whole_views_of_anything
def top (i : Nat) : Stmt := PySem.Challenge.pw_flatviews_k14_whole_views_of_anything.main.body.getD i (.Pass ⟨0, 0, 0, 0⟩)
def names_0 : List Str := ["is_whole", "is_tuple_up_to", "is_tuple_of", "are_whole", "divisor_of", "first_live", "is_plain", "dot", "cross", "block", "is_view_of", "is_view", "_law_pool", "_law_draw", "_law_pick", "_law_divisor", "_law_plain", "_law_cross", "_law_dot", "_law_block", "_law_number", "_law_is_view", "_law_view", "_law_plain_view", "_law_things", "_law_right"]
def names : List Str := names_0
def d_law_dot : De := ⟨"_law_dot", 30, ["one", "two"], ["one", "two"], f_law_dot⟩
def d_law_cross : De := ⟨"_law_cross", 19, ["one", "two", "a", "b", "c", "d", "e", "f"], ["one", "two"], f_law_cross⟩
def d_law_block : De := ⟨"_law_block", 31, ["one", "two", "three"], ["one", "two", "three"], f_law_block⟩
def d_law_divisor : De := ⟨"_law_divisor", 12, ["one", "two"], ["one", "two"], f_law_divisor⟩
def d_law_plain : De := ⟨"_law_plain", 13, ["numbers", "by", "number", "first"], ["numbers"], f_law_plain⟩
def d_law_plain_view : De := ⟨"_law_plain_view", 297, ["rows", "numbers"], ["rows"], f_law_plain_view⟩
def d_law_draw_v7 : De := ⟨"_law_draw", 442, ["pool", "many", "figure", "held"], ["pool", "many"], f_law_draw_v7⟩
def d_law_pick_v7 : De := ⟨"_law_pick", 443, ["pool", "some"], ["pool", "some"], f_law_pick_v7⟩
def d_law_number_v8 : De := ⟨"_law_number", 444, ["pool", "most"], ["pool", "most"], f_law_number_v8⟩
def d_law_view_v6 : De := ⟨"_law_view", 445, ["pool", "most", "turn", "rows", "k", "j"], ["pool", "most"], f_law_view_v6⟩
def d_law_things_v3 : De := ⟨"_law_things", 446, ["pool", "view", "k", "j", "row", "found", "each", "number", "by", "i"], ["pool", "view"], f_law_things_v3⟩
def d_law_is_view : De := ⟨"_law_is_view", 313, ["value", "row", "numbers", "each"], ["value"], f_law_is_view⟩
def d_is_tuple_up_to : De := ⟨"is_tuple_up_to", 7, ["value", "low", "high"], ["value", "low", "high"], f_is_tuple_up_to⟩
def d_is_tuple_of : De := ⟨"is_tuple_of", 8, ["value", "many"], ["value", "many"], f_is_tuple_of⟩
def d_is_whole : De := ⟨"is_whole", 9, ["value"], ["value"], f_is_whole⟩
def d_are_whole : De := ⟨"are_whole", 10, ["value", "many", "each"], ["value", "many"], f_are_whole⟩
def d_divisor_of : De := ⟨"divisor_of", 3, ["numbers", "found", "number"], ["numbers"], f_divisor_of⟩
def d_first_live : De := ⟨"first_live", 4, ["numbers", "number"], ["numbers"], f_first_live⟩
def d_is_plain : De := ⟨"is_plain", 15, ["value", "many"], ["value", "many"], f_is_plain⟩
def d_dot : De := ⟨"dot", 43, ["one", "two", "first", "second"], ["one", "two"], f_dot⟩
def d_cross : De := ⟨"cross", 35, ["one", "two"], ["one", "two"], f_cross⟩
def d_block : De := ⟨"block", 44, ["one", "two", "three"], ["one", "two", "three"], f_block⟩
def d_is_view_of : De := ⟨"is_view_of", 60, ["value", "row"], ["value"], f_is_view_of⟩
def d_is_view : De := ⟨"is_view", 303, ["value"], ["value"], f_is_view⟩
def d_law_right_v23 : De := ⟨"_law_right", 447, ["pool", "turn", "view", "value", "due", "rows", "k", "j", "many", "by", "number", "row"], ["pool"], f_law_right_v23⟩
def d_law_pool_v11 : De := ⟨"_law_pool", 448, ["script", "turn", "own", "stirred", "cell"], ["script", "turn"], f_law_pool_v11⟩
def d_law_v34 : De := ⟨"law", 449, ["script", "turn"], ["script"], f_law_v34⟩
def des : List De := [d_law_dot, d_law_cross, d_law_block, d_law_divisor, d_law_plain, d_law_plain_view, d_law_draw_v7, d_law_pick_v7, d_law_number_v8, d_law_view_v6, d_law_things_v3, d_law_is_view, d_is_tuple_up_to, d_is_tuple_of, d_is_whole, d_are_whole, d_divisor_of, d_first_live, d_is_plain, d_dot, d_cross, d_block, d_is_view_of, d_is_view, d_law_right_v23, d_law_pool_v11, d_law_v34]
def stms : List Stmt := ([24, 23, 25, 21, 22, 29, 19, 20, 26, 28, 30, 27, 3, 4, 2, 6, 7, 8, 9, 10, 11, 12, 14, 16, 31, 18, 32] : List Nat).map top
def glb : List (Str × D) := []
abbrev hk : PySem.W.Hook := He.hookX 3 (faOf des) (stms.map dOf) [] [] (exOf glb true)
def ob (s : PySem.W.SharedT) : He.AlX := He.obsX 3 (faOf des) (stms.map dOf) [] [] (exOf glb true) (HandSHeadRun.getT s)
theorem ob_eq (s : PySem.W.SharedT) : ob s = hk.obs s.abs := He.obsX_eq (HandSHeadRun.getT_eq s)
abbrev R : PySem.W.OpenRow := PySem.W.OpenLaw.row RW
theorem run (w : World) : HandSHeadRun.RunEqI R (PySem.W.view R.prog [0, 32]) hk ob 20000 names w := by
  unfold HandSHeadRun.RunEqI
  kernel_rfl
theorem okd : okOf des stms (tbOf des glb true) = true := by kernel_rfl
theorem hT : des.map (fun d => TG d.id) = des.map (fun d => some d.fn) := rfl
end FV
set_option Elab.async false
set_option linter.all false
/-! Mt: whole numbers: what divides a row of them; the plain row. -/
namespace FV
/-- what divides them all -/
def Gg : List Int → Nat
  | [] => 0
  | x :: xs => Nat.gcd x.natAbs (Gg xs)
/-- the first that is not zero -/
def fl : List Int → Int
  | [] => 0
  | x :: xs => if x ≠ 0 then x else fl xs
def gstep (g x : Int) : Int := ((Nat.gcd g.natAbs x.natAbs : Nat) : Int)
theorem gfold : ∀ (ns : List Int) (m : Nat), ns.foldl gstep (m : Int) = ((Nat.gcd m (Gg ns) : Nat) : Int)
  | [], m => by simp [Gg]
  | x :: xs, m => by
    rw [List.foldl_cons]
    show xs.foldl gstep (((Nat.gcd (m : Int).natAbs x.natAbs : Nat)) : Int) = _
    rw [gfold xs, Int.natAbs_natCast, Nat.gcd_assoc]
    rfl
theorem gfold0 (ns : List Int) : ns.foldl gstep 0 = ((Gg ns : Nat) : Int) := by
  have := gfold ns 0
  rw [Nat.gcd_zero_left] at this
  exact this
theorem Gg_dvd : ∀ {ns : List Int} {x : Int}, x ∈ ns → ((Gg ns : Nat) : Int) ∣ x
  | y :: ns, x, h => by
    rw [← Int.dvd_natAbs, Int.natCast_dvd_natCast]
    rcases List.mem_cons.mp h with z | z
    · subst z; exact Nat.gcd_dvd_left _ _
    · have := Gg_dvd z
      rw [← Int.dvd_natAbs, Int.natCast_dvd_natCast] at this
      exact Nat.dvd_trans (Nat.gcd_dvd_right _ _) this
theorem Gg_mul (c : Int) : ∀ (ns : List Int), Gg (ns.map (c * ·)) = c.natAbs * Gg ns
  | [] => by simp [Gg]
  | x :: xs => by
    show Nat.gcd (c * x).natAbs (Gg (xs.map (c * ·))) = c.natAbs * Nat.gcd x.natAbs (Gg xs)
    rw [Gg_mul c xs, Int.natAbs_mul, Nat.gcd_mul_left]
theorem fl_mul {c : Int} (hc : c ≠ 0) : ∀ (ns : List Int), fl (ns.map (c * ·)) = c * fl ns
  | [] => by simp [fl]
  | x :: xs => by
    show (if c * x ≠ 0 then c * x else fl (xs.map (c * ·))) = c * (if x ≠ 0 then x else fl xs)
    rw [fl_mul hc xs]
    by_cases h : x = 0
    · simp [h]
    · simp [h, hc]
theorem fl_zero : ∀ {ns : List Int}, fl ns = 0 ↔ ∀ x ∈ ns, x = 0
  | [] => by simp [fl]
  | x :: xs => by
    show (if x ≠ 0 then x else fl xs) = 0 ↔ _
    by_cases h : x = 0
    · subst h; simp [fl_zero (ns := xs)]
    · simp [h]
theorem Gg_zero : ∀ {ns : List Int}, Gg ns = 0 ↔ ∀ x ∈ ns, x = 0
  | [] => by simp [Gg]
  | x :: xs => by
    show Nat.gcd x.natAbs (Gg xs) = 0 ↔ _
    rw [Nat.gcd_eq_zero_iff, Gg_zero (ns := xs)]
    simp
theorem Gg_fl {ns : List Int} (h : fl ns ≠ 0) : Gg ns ≠ 0 := fun z => h (fl_zero.mpr (Gg_zero.mp z))
/-- what all are divided by: the sign of the first live one -/
def dv (ns : List Int) : Int := if fl ns > 0 then (Gg ns : Int) else -(Gg ns : Int)
def pn (ns : List Int) : List Int := ns.map fun x => x.fdiv (dv ns)
theorem dv_ne {ns : List Int} (h : fl ns ≠ 0) : dv ns ≠ 0 := by
  have := Gg_fl h
  unfold dv
  split <;> omega
theorem dv_abs {ns : List Int} : (dv ns).natAbs = Gg ns := by
  unfold dv
  split <;> omega
theorem dv_dvd {ns : List Int} {x : Int} (h : x ∈ ns) : dv ns ∣ x := by
  have := Gg_dvd h
  unfold dv
  split
  · exact this
  · exact Int.neg_dvd.mpr this
theorem pn_mul {ns : List Int} (h : fl ns ≠ 0) : ns = (pn ns).map (dv ns * ·) := by
  unfold pn
  rw [List.map_map]
  conv => lhs; rw [← List.map_id ns]
  apply List.map_congr_left
  intro x hx
  obtain ⟨q, e⟩ := dv_dvd hx
  show x = dv ns * x.fdiv (dv ns)
  conv => rhs; rw [e]
  rw [Int.mul_fdiv_cancel_left _ (dv_ne h)]
  exact e
/-- plain: no common divisor, the first live one positive -/
def Prim (ns : List Int) : Prop := Gg ns = 1 ∧ fl ns > 0
theorem pn_prim {ns : List Int} (h : fl ns ≠ 0) : Prim (pn ns) := by
  have e := pn_mul h
  have g := Gg_mul (dv ns) (pn ns)
  have f := fl_mul (dv_ne h) (pn ns)
  rw [← e] at g f
  rw [dv_abs] at g
  have g0 := Gg_fl h
  refine ⟨?_, ?_⟩
  · have : Gg ns * 1 = Gg ns * Gg (pn ns) := by omega
    exact (Nat.eq_of_mul_eq_mul_left (by omega) this).symm
  · unfold dv at f
    split at f
    · rename_i hp
      have : 0 < (Gg ns : Int) * fl (pn ns) := by rw [← f]; exact hp
      exact Int.pos_of_mul_pos_right this (by omega)
    · rename_i hp
      have h1 : 0 < (Gg ns : Int) * fl (pn ns) := by
        have : fl ns < 0 := by omega
        rw [f, Int.neg_mul] at this
        omega
      exact Int.pos_of_mul_pos_right h1 (by omega)
theorem dv_prim {ns : List Int} (h : Prim ns) : dv ns = 1 := by
  unfold dv
  rw [if_pos h.2, h.1]
  rfl
theorem pn_of {ns : List Int} (h : Prim ns) : pn ns = ns := by
  unfold pn
  rw [dv_prim h]
  simp
theorem fl_of_prim {ns : List Int} (h : Prim ns) : fl ns ≠ 0 := by have := h.2; omega
theorem uniq {xs ys : List Int} {c e : Int} (hx : Prim xs) (hy : Prim ys) (hc : c ≠ 0) (he : e ≠ 0) (h : xs.map (c * ·) = ys.map (e * ·)) : xs = ys := by
  have g1 := Gg_mul c xs
  have g2 := Gg_mul e ys
  have f1 := fl_mul hc xs
  have f2 := fl_mul he ys
  rw [h, g2, hx.1, hy.1] at g1
  rw [h, f2] at f1
  have hx2 := hx.2
  have hy2 := hy.2
  have ce : c = e := by
    by_cases c0 : 0 < c
    · have : 0 < c * fl xs := Int.mul_pos c0 hx2
      rw [← f1] at this
      have e0 : 0 < e := Int.pos_of_mul_pos_left this hy2
      omega
    · have : c * fl xs < 0 := Int.mul_neg_of_neg_of_pos (by omega) hx2
      rw [← f1] at this
      have e0 : ¬ 0 < e := fun e0 => by
        have := Int.mul_pos e0 hy2
        omega
      omega
  subst ce
  have inj : Function.Injective fun x : Int => c * x := fun a b hab => Int.eq_of_mul_eq_mul_left hc hab
  exact (List.map_inj_right fun a b hab => inj hab).mp h
theorem pn_scale {xs : List Int} {c : Int} (hx : Prim xs) (hc : c ≠ 0) : pn (xs.map (c * ·)) = xs := by
  have hf : fl (xs.map (c * ·)) ≠ 0 := by
    rw [fl_mul hc]
    exact Int.mul_ne_zero hc (fl_of_prim hx)
  exact uniq (pn_prim hf) hx (dv_ne hf) hc (pn_mul hf).symm
theorem pn_smul {ns : List Int} {c : Int} (h : fl ns ≠ 0) (hc : c ≠ 0) : pn (ns.map (c * ·)) = pn ns := by
  have e := pn_mul h
  have : ns.map (c * ·) = (pn ns).map ((c * dv ns) * ·) := by
    conv => lhs; rw [e]
    rw [List.map_map]
    apply List.map_congr_left
    intro x _
    show c * (dv ns * x) = c * dv ns * x
    rw [Int.mul_assoc]
  rw [this]
  exact pn_scale (pn_prim h) (Int.mul_ne_zero hc (dv_ne h))
end FV
set_option Elab.async false
set_option linter.all false
/-! Mt2: three whole numbers. -/
namespace FV
theorem three {ns : List Int} (h : ns.length = 3) : ∃ a b c, ns = [a, b, c] := by
  match ns, h with
  | [a, b, c], _ => exact ⟨a, b, c, rfl⟩
end FV
set_option Elab.async false
set_option linter.all false
set_option maxRecDepth 100000
/-! Sx: the evaluator, form by form (loops stay closed). -/
namespace FV
/-- no rule by computing alone: the checker would compute again -/
theorem nr {α : Sort _} {a b : α} (h : a = b) : a = b := h
def onO {α : Type} (o : Option α) (p : α → Prop) : Prop := match o with
  | some a => p a
  | none => False
def cut (x : D) (l h : Option Int) (S : Store) (k : D → Prop) : Prop := match x with
        | .tup ds => k (.tup (slice ds l h))
        | .lst ds => k (.lst (slice ds l h))
        | .frz ds => k (.lst (slice ds l h))
        | .ref c => onO (cl S c) fun ds => k (.lst (slice ds l h))
        | _ => False
def revD (x : D) (k : D → Prop) : Prop := match x with
        | .tup ds => k (.tup ds.reverse)
        | .lst ds => k (.lst ds.reverse)
        | _ => False
def blk (C : Hd) (X : D → Store → Prop) (b : List Sm) : Env → Store → Ends → Prop := exs C X b
def tst (C : Hd) (X : D → Store → Prop) (c : E) : Env → Store → (Bool → Store → Prop) → Prop := fun σ S k => ev C X c true σ S (asB k)
def lcOne (C : Hd) (X : D → Store → Prop) (own : List Nat) (p : Pt) (cond : Option E) (elt : E) (σ : Env) : D → Store → (List D → Store → Prop) → Prop := fun y S2 k2 => (match bindP p y (wp0 σ own) with
        | some σ' => evt C X cond σ' S2 fun b S3 => brk b (ev C X elt false σ' S3 fun z S4 => k2 [z] S4) (k2 [] S3)
        | none => False)
def lcTwo (C : Hd) (X : D → Store → Prop) (own : List Nat) (p : Pt) (cond : Option E) (own2 : List Nat) (p2 : Pt) (it2 : E) (cond2 : Option E) (elt : E) (σ : Env) : D → Store → (List D → Store → Prop) → Prop := fun y S2 k2 => (match bindP p y (wp0 σ own) with
        | some σ' => evt C X cond σ' S2 fun b S3 => brk b (ev C X it2 false σ' S3 fun x2 S4 => itm x2 S4 fun g2 ds2 => ds2.length ≤ 1000 ∧ forC g2 (lcOne C X own2 p2 cond2 elt σ') ds2 S4 k2) (k2 [] S3)
        | none => False)
/-! ### rows of whole numbers -/
theorem eqDs_ints : ∀ {xs ys : List Int}, eqDs (xs.map D.int) (ys.map D.int) = decide (xs = ys)
  | [], [] => rfl
  | [], _ :: _ => by simp [eqDs]
  | _ :: _, [] => by simp [eqDs]
  | x :: xs, y :: ys => by
    simp only [List.map_cons, eqDs, eqD, eqDs_ints]
    by_cases h : x = y <;> by_cases g : xs = ys <;> simp [h, g]
theorem pures_ints {n : Nat} : ∀ {xs : List Int}, pures? n (xs.map D.int) = true
  | [] => rfl
  | x :: xs => by
    show (pure? n (.int x) && pures? n (xs.map D.int)) = true
    rw [pures_ints]
    cases n <;> rfl
def ti (ns : List Int) : D := .tup (ns.map .int)
theorem pure_ti {ns : List Int} : pure? DEEP (ti ns) = true := pures_ints
theorem eq_ti {xs ys : List Int} : eqD (ti xs) (ti ys) = decide (xs = ys) := eqDs_ints
theorem ti1 {a : Int} : D.tup [.int a] = ti [a] := nr rfl
theorem ti2 {a b : Int} : D.tup [.int a, .int b] = ti [a, b] := nr rfl
theorem ti3 {a b c : Int} : D.tup [.int a, .int b, .int c] = ti [a, b, c] := nr rfl
theorem ti4 {a b c d : Int} : D.tup [.int a, .int b, .int c, .int d] = ti [a, b, c, d] := nr rfl
theorem ti5 {a b c d e : Int} : D.tup [.int a, .int b, .int c, .int d, .int e] = ti [a, b, c, d, e] := nr rfl
theorem ti6 {a b c d e f : Int} : D.tup [.int a, .int b, .int c, .int d, .int e, .int f] = ti [a, b, c, d, e, f] := nr rfl
theorem ti_map {ns : List Int} : D.tup (ns.map D.int) = ti ns := nr rfl
theorem nth_lit {ds : List D} {i : Nat} {d : D} (h : ds[i]? = some d) : nth ds (i : Int) = some d := by
  show L2.atI ds (i : Int) = _
  unfold L2.atI
  have hi := (List.getElem?_eq_some_iff.mp h).1
  rw [ixN_in (by omega) (by omega)]
  exact h
section
variable {C : Hd} {X : D → Store → Prop} {t : Bool} {σ : Env} {S : Store} {k : D → Store → Prop}
theorem blk_app {b : List Sm} {N : Ends} : blk C X b σ S N = exs C X b σ S N := by unfold blk <;> rfl
theorem tst_app {c : E} {k : Bool → Store → Prop} : tst C X c σ S k = ev C X c true σ S (asB k) := by unfold tst <;> rfl
theorem lc_app' {own : List Nat} {p : Pt} {cond : Option E} {elt : E} {y : D} {k2 : List D → Store → Prop} : lcOne C X own p cond elt σ y S k2 = onO (bindP p y (wp0 σ own)) fun σ' => evt C X cond σ' S fun b S3 => brk b (ev C X elt false σ' S3 fun z S4 => k2 [z] S4) (k2 [] S3) := by unfold lcOne; cases bindP p y (wp0 σ own) <;> rfl
theorem fw_nil {body : Env → Store → Ends → Prop} {p : Pt} {N : Ends} : forW none body p N [] σ S = N.nx σ S := nr rfl
theorem fw_cons {body : Env → Store → Ends → Prop} {p : Pt} {N : Ends} {x : D} {xs : List D} : forW none body p N (x :: xs) σ S = onO (bindP p x σ) fun σ' => body σ' S { N with nx := fun σ2 S2 => forW none body p N xs σ2 S2, ct := fun σ2 S2 => forW none body p N xs σ2 S2, bk := N.nx } := by
  simp only [forW, gdo]
  cases bindP p x σ <;> rfl
theorem ww_s {c : Env → Store → (Bool → Store → Prop) → Prop} {body : Env → Store → Ends → Prop} {N : Ends} {n : Nat} : whlW c body N (n + 1) σ S = c σ S fun b S1 => brk b (body σ S1 { N with nx := fun σ2 S2 => whlW c body N n σ2 S2, ct := fun σ2 S2 => whlW c body N n σ2 S2, bk := N.nx }) (N.nx σ S1) := nr rfl
theorem ev_v0 {d : D} {r : Env} : ev C X (.var 0) t (some d :: r) S k = (tv t d S k) := by simp only [ev] <;> rfl
theorem ev_v1 {x0 : Option D} {d : D} {r : Env} : ev C X (.var 1) t (x0 :: some d :: r) S k = (tv t d S k) := by simp only [ev] <;> rfl
theorem ev_v2 {x0 x1 : Option D} {d : D} {r : Env} : ev C X (.var 2) t (x0 :: x1 :: some d :: r) S k = (tv t d S k) := by simp only [ev] <;> rfl
theorem ev_v3 {x0 x1 x2 : Option D} {d : D} {r : Env} : ev C X (.var 3) t (x0 :: x1 :: x2 :: some d :: r) S k = (tv t d S k) := by simp only [ev] <;> rfl
theorem ev_v4 {x0 x1 x2 x3 : Option D} {d : D} {r : Env} : ev C X (.var 4) t (x0 :: x1 :: x2 :: x3 :: some d :: r) S k = (tv t d S k) := by simp only [ev] <;> rfl
theorem ev_v5 {x0 x1 x2 x3 x4 : Option D} {d : D} {r : Env} : ev C X (.var 5) t (x0 :: x1 :: x2 :: x3 :: x4 :: some d :: r) S k = (tv t d S k) := by simp only [ev] <;> rfl
theorem ev_v6 {x0 x1 x2 x3 x4 x5 : Option D} {d : D} {r : Env} : ev C X (.var 6) t (x0 :: x1 :: x2 :: x3 :: x4 :: x5 :: some d :: r) S k = (tv t d S k) := by simp only [ev] <;> rfl
theorem ev_v7 {x0 x1 x2 x3 x4 x5 x6 : Option D} {d : D} {r : Env} : ev C X (.var 7) t (x0 :: x1 :: x2 :: x3 :: x4 :: x5 :: x6 :: some d :: r) S k = (tv t d S k) := by simp only [ev] <;> rfl
theorem ev_v8 {x0 x1 x2 x3 x4 x5 x6 x7 : Option D} {d : D} {r : Env} : ev C X (.var 8) t (x0 :: x1 :: x2 :: x3 :: x4 :: x5 :: x6 :: x7 :: some d :: r) S k = (tv t d S k) := by simp only [ev] <;> rfl
theorem ev_v9 {x0 x1 x2 x3 x4 x5 x6 x7 x8 : Option D} {d : D} {r : Env} : ev C X (.var 9) t (x0 :: x1 :: x2 :: x3 :: x4 :: x5 :: x6 :: x7 :: x8 :: some d :: r) S k = (tv t d S k) := by simp only [ev] <;> rfl
theorem ev_v10 {x0 x1 x2 x3 x4 x5 x6 x7 x8 x9 : Option D} {d : D} {r : Env} : ev C X (.var 10) t (x0 :: x1 :: x2 :: x3 :: x4 :: x5 :: x6 :: x7 :: x8 :: x9 :: some d :: r) S k = (tv t d S k) := by simp only [ev] <;> rfl
theorem ev_v11 {x0 x1 x2 x3 x4 x5 x6 x7 x8 x9 x10 : Option D} {d : D} {r : Env} : ev C X (.var 11) t (x0 :: x1 :: x2 :: x3 :: x4 :: x5 :: x6 :: x7 :: x8 :: x9 :: x10 :: some d :: r) S k = (tv t d S k) := by simp only [ev] <;> rfl
theorem ev_v12 {x0 x1 x2 x3 x4 x5 x6 x7 x8 x9 x10 x11 : Option D} {d : D} {r : Env} : ev C X (.var 12) t (x0 :: x1 :: x2 :: x3 :: x4 :: x5 :: x6 :: x7 :: x8 :: x9 :: x10 :: x11 :: some d :: r) S k = (tv t d S k) := by simp only [ev] <;> rfl
theorem ev_v13 {x0 x1 x2 x3 x4 x5 x6 x7 x8 x9 x10 x11 x12 : Option D} {d : D} {r : Env} : ev C X (.var 13) t (x0 :: x1 :: x2 :: x3 :: x4 :: x5 :: x6 :: x7 :: x8 :: x9 :: x10 :: x11 :: x12 :: some d :: r) S k = (tv t d S k) := by simp only [ev] <;> rfl
theorem ev_v14 {x0 x1 x2 x3 x4 x5 x6 x7 x8 x9 x10 x11 x12 x13 : Option D} {d : D} {r : Env} : ev C X (.var 14) t (x0 :: x1 :: x2 :: x3 :: x4 :: x5 :: x6 :: x7 :: x8 :: x9 :: x10 :: x11 :: x12 :: x13 :: some d :: r) S k = (tv t d S k) := by simp only [ev] <;> rfl
theorem ev_v15 {x0 x1 x2 x3 x4 x5 x6 x7 x8 x9 x10 x11 x12 x13 x14 : Option D} {d : D} {r : Env} : ev C X (.var 15) t (x0 :: x1 :: x2 :: x3 :: x4 :: x5 :: x6 :: x7 :: x8 :: x9 :: x10 :: x11 :: x12 :: x13 :: x14 :: some d :: r) S k = (tv t d S k) := by simp only [ev] <;> rfl
theorem ev_v16 {x0 x1 x2 x3 x4 x5 x6 x7 x8 x9 x10 x11 x12 x13 x14 x15 : Option D} {d : D} {r : Env} : ev C X (.var 16) t (x0 :: x1 :: x2 :: x3 :: x4 :: x5 :: x6 :: x7 :: x8 :: x9 :: x10 :: x11 :: x12 :: x13 :: x14 :: x15 :: some d :: r) S k = (tv t d S k) := by simp only [ev] <;> rfl
theorem ev_v17 {x0 x1 x2 x3 x4 x5 x6 x7 x8 x9 x10 x11 x12 x13 x14 x15 x16 : Option D} {d : D} {r : Env} : ev C X (.var 17) t (x0 :: x1 :: x2 :: x3 :: x4 :: x5 :: x6 :: x7 :: x8 :: x9 :: x10 :: x11 :: x12 :: x13 :: x14 :: x15 :: x16 :: some d :: r) S k = (tv t d S k) := by simp only [ev] <;> rfl
theorem ev_v18 {x0 x1 x2 x3 x4 x5 x6 x7 x8 x9 x10 x11 x12 x13 x14 x15 x16 x17 : Option D} {d : D} {r : Env} : ev C X (.var 18) t (x0 :: x1 :: x2 :: x3 :: x4 :: x5 :: x6 :: x7 :: x8 :: x9 :: x10 :: x11 :: x12 :: x13 :: x14 :: x15 :: x16 :: x17 :: some d :: r) S k = (tv t d S k) := by simp only [ev] <;> rfl
theorem ev_v19 {x0 x1 x2 x3 x4 x5 x6 x7 x8 x9 x10 x11 x12 x13 x14 x15 x16 x17 x18 : Option D} {d : D} {r : Env} : ev C X (.var 19) t (x0 :: x1 :: x2 :: x3 :: x4 :: x5 :: x6 :: x7 :: x8 :: x9 :: x10 :: x11 :: x12 :: x13 :: x14 :: x15 :: x16 :: x17 :: x18 :: some d :: r) S k = (tv t d S k) := by simp only [ev] <;> rfl
theorem ev_v20 {x0 x1 x2 x3 x4 x5 x6 x7 x8 x9 x10 x11 x12 x13 x14 x15 x16 x17 x18 x19 : Option D} {d : D} {r : Env} : ev C X (.var 20) t (x0 :: x1 :: x2 :: x3 :: x4 :: x5 :: x6 :: x7 :: x8 :: x9 :: x10 :: x11 :: x12 :: x13 :: x14 :: x15 :: x16 :: x17 :: x18 :: x19 :: some d :: r) S k = (tv t d S k) := by simp only [ev] <;> rfl
theorem ev_v21 {x0 x1 x2 x3 x4 x5 x6 x7 x8 x9 x10 x11 x12 x13 x14 x15 x16 x17 x18 x19 x20 : Option D} {d : D} {r : Env} : ev C X (.var 21) t (x0 :: x1 :: x2 :: x3 :: x4 :: x5 :: x6 :: x7 :: x8 :: x9 :: x10 :: x11 :: x12 :: x13 :: x14 :: x15 :: x16 :: x17 :: x18 :: x19 :: x20 :: some d :: r) S k = (tv t d S k) := by simp only [ev] <;> rfl
theorem ev_v22 {x0 x1 x2 x3 x4 x5 x6 x7 x8 x9 x10 x11 x12 x13 x14 x15 x16 x17 x18 x19 x20 x21 : Option D} {d : D} {r : Env} : ev C X (.var 22) t (x0 :: x1 :: x2 :: x3 :: x4 :: x5 :: x6 :: x7 :: x8 :: x9 :: x10 :: x11 :: x12 :: x13 :: x14 :: x15 :: x16 :: x17 :: x18 :: x19 :: x20 :: x21 :: some d :: r) S k = (tv t d S k) := by simp only [ev] <;> rfl
theorem ev_v23 {x0 x1 x2 x3 x4 x5 x6 x7 x8 x9 x10 x11 x12 x13 x14 x15 x16 x17 x18 x19 x20 x21 x22 : Option D} {d : D} {r : Env} : ev C X (.var 23) t (x0 :: x1 :: x2 :: x3 :: x4 :: x5 :: x6 :: x7 :: x8 :: x9 :: x10 :: x11 :: x12 :: x13 :: x14 :: x15 :: x16 :: x17 :: x18 :: x19 :: x20 :: x21 :: x22 :: some d :: r) S k = (tv t d S k) := by simp only [ev] <;> rfl
theorem ev_cst {d : D} : ev C X (.cst d) t σ S k = (tv t d S k) := by simp only [ev] <;> rfl
theorem ev_glb {x : Str} {d : D} : ev C X (.glb x d) t σ S k = (tv t d S k) := by simp only [ev] <;> rfl
theorem ev_bin {op : Bop} {a b : E} : ev C X (.bin op a b) t σ S k = (ev C X a false σ S fun x S1 => ev C X b false σ S1 fun y S2 => bop op x y fun z => tv t z S2 k) := by simp only [ev] <;> rfl
theorem ev_neg {a : E} : ev C X (.neg a) t σ S k = (ev C X a false σ S (asI fun i S1 => tv t (.int (-i)) S1 k)) := by simp only [ev] <;> rfl
theorem ev_not {a : E} : ev C X (.not a) t σ S k = (ev C X a t σ S (asB fun b S1 => k (.bl (!b)) S1)) := by simp only [ev] <;> rfl
theorem ev_cmp {op : Cop} {a b : E} : ev C X (.cmp op a b) t σ S k = (ev C X a false σ S fun x S1 => ev C X b false σ S1 fun y S2 => cop op x y fun z => k (.bl z) S2) := by simp only [ev] <;> rfl
theorem ev_cmp2 {op op' : Cop} {a b c : E} : ev C X (.cmp2 op op' a b c) t σ S k = (ev C X a false σ S fun x S1 => ev C X b false σ S1 fun y S2 => cop op x y fun z => brk z (ev C X c false σ S2 fun w S3 => cop op' y w fun z' => k (.bl z') S3) (k (.bl false) S2)) := by simp only [ev] <;> rfl
theorem ev_and {a b : E} : ev C X (.and a b) t σ S k = (ev C X a t σ S (asB fun c S1 => brk c (ev C X b t σ S1 k) (k (.bl false) S1))) := by simp only [ev] <;> rfl
theorem ev_or {a b : E} : ev C X (.or a b) t σ S k = (ev C X a t σ S (asB fun c S1 => brk c (k (.bl true) S1) (ev C X b t σ S1 k))) := by simp only [ev] <;> rfl
theorem ev_ite {c a b : E} : ev C X (.ite c a b) t σ S k = (ev C X c true σ S (asB fun z S1 => brk z (ev C X a false σ S1 fun x S2 => tv t x S2 k) (ev C X b false σ S1 fun x S2 => tv t x S2 k))) := by simp only [ev] <;> rfl
theorem ev_tup {es : List E} : ev C X (.tup es) t σ S k = (evs C X es σ S fun ds S1 => tv t (.tup ds) S1 k) := by simp only [ev] <;> rfl
theorem ev_lst {fr : Bool} {es : List E} : ev C X (.lst fr es) t σ S k = (evs C X es σ S fun ds S1 => mk fr ds S1 fun d S2 => tv t d S2 k) := by simp only [ev] <;> rfl
theorem ev_idx {a i : E} : ev C X (.idx a i) t σ S k = (ev C X a false σ S fun x S1 => ev C X i false σ S1 (asI fun j S2 => seq x S2 fun ds => onO (nth ds j) fun d => tv t d S2 k)) := by
  simp only [ev]
  congr 1; funext x S1; congr 1; congr 1; funext j S2; congr 1; funext ds
  cases nth ds j <;> rfl
theorem ev_slc {a : E} {lo hi : Option E} : ev C X (.slc a lo hi) t σ S k = (ev C X a false σ S fun x S1 => evo C X lo σ S1 fun l S2 => evo C X hi σ S2 fun h S3 => cut x l h S3 fun d => tv t d S3 k) := by
  simp only [ev, cut]
  congr 1; funext x S1; congr 1; funext l S2; congr 1; funext h S3
  cases x <;> try rfl
  rename_i c
  simp only
  cases cl S3 c <;> rfl
theorem ev_call {f : Nat} {es : List E} : ev C X (.call f es) t σ S k = (evs C X es σ S fun ds S1 => C f ds S1 (fun d S2 => tv t d S2 k) X) := by simp only [ev] <;> rfl
theorem ev_callk {f : Nat} {ord : List Nat} {es : List E} : ev C X (.callk f ord es) t σ S k = (evs C X es σ S fun ds S1 => C f (pick ord ds) S1 (fun d S2 => tv t d S2 k) X) := by simp only [ev] <;> rfl
theorem ev_bi {b : Bi} {es : List E} : ev C X (.bi b es) t σ S k = (evs C X es σ S fun ds S1 => bfn b ds S1 fun d => tv t d S1 k) := by simp only [ev] <;> rfl
theorem ev_isi {e : E} {ty : Ty} : ev C X (.isi e ty) t σ S k = (ev C X e false σ S fun x S1 => onO (tyIs ty x) fun b => k (.bl b) S1) := by
  simp only [ev]
  congr 1; funext x S1
  cases tyIs ty x <;> rfl
theorem ev_isi2 {e : E} {ts : List Ty} : ev C X (.isi2 e ts) t σ S k = (ev C X e false σ S fun x S1 => onO (tyAny ts x) fun b => k (.bl b) S1) := by
  simp only [ev]
  congr 1; funext x S1
  cases tyAny ts x <;> rfl
theorem ev_lc {fr : Bool} {own : List Nat} {p : Pt} {it : E} {cond : Option E} {elt : E} : ev C X (.lc fr own p it cond elt) t σ S k = (ev C X it false σ S fun x S1 => itm x S1 fun g ds => ds.length ≤ SZ ∧ forC g (lcOne C X own p cond elt σ) ds S1 fun zs S5 => mk fr zs S5 fun d S6 => tv t d S6 k) := nr rfl
theorem ev_lc2 {fr : Bool} {own own2 : List Nat} {p p2 : Pt} {it it2 : E} {cond cond2 : Option E} {elt : E} : ev C X (.lc2 fr own p it cond own2 p2 it2 cond2 elt) t σ S k = (ev C X it false σ S fun x S1 => itm x S1 fun g ds => ds.length ≤ 1000 ∧ forC g (lcTwo C X own p cond own2 p2 it2 cond2 elt σ) ds S1 fun zs S5 => mk fr zs S5 fun d S6 => tv t d S6 k) := nr rfl
theorem ev_tcat {fl : List Bool} {es : List E} : ev C X (.tcat fl es) t σ S k = (evss C X es fl σ S fun zs S1 => zs.length ≤ SZ ∧ tv t (.tup zs) S1 k) := by simp only [ev] <;> rfl
theorem ev_rng {a b : E} : ev C X (.rng a b) t σ S k = (ev C X a false σ S (asI fun i S1 => ev C X b false σ S1 (asI fun j S2 => (i.natAbs < 2 ^ 60 ∧ j.natAbs < 2 ^ 60) ∧ k (.itr (rngI i (j - i).toNat)) S2))) := by simp only [ev] <;> rfl
theorem ev_rng1 {b : E} : ev C X (.rng1 b) t σ S k = (ev C X b false σ S (asI fun j S2 => j.natAbs < 2 ^ 60 ∧ k (.itr (rngI 0 j.toNat)) S2)) := by simp only [ev] <;> rfl
theorem ev_zip {a b : E} : ev C X (.zip a b) t σ S k = (ev C X a false σ S fun x S1 => ev C X b false σ S1 fun y S2 => two x y fun xs ys => k (.itr (zipD xs ys)) S2) := by simp only [ev] <;> rfl
theorem ev_enm {a : E} : ev C X (.enm a) t σ S k = (ev C X a false σ S fun x S1 => still x fun xs => k (.itr (enmD 0 xs)) S1) := by simp only [ev] <;> rfl
theorem ev_cnt {es : List E} {e : E} : ev C X (.cnt es e) t σ S k = (evs C X es σ S fun ds S1 => ev C X e false σ S1 fun y S2 => cntD ds y fun n => tv t (.int n) S2 k) := by simp only [ev] <;> rfl
theorem ev_nset {a : E} : ev C X (.nset a) t σ S k = (ev C X a false σ S fun x S1 => setN x S1 fun n => tv t (.int n) S1 k) := by simp only [ev] <;> rfl
theorem ev_dct  : ev C X .dct t σ S k = (tv t .dic S k) := by simp only [ev] <;> rfl
theorem ev_cat {fr : Bool} {a b : E} : ev C X (.cat fr a b) t σ S k = (ev C X a false σ S fun x S1 => ev C X b false σ S1 fun y S2 => catD x y S2 fun zs => mk fr zs S2 k) := by simp only [ev] <;> rfl
theorem ev_isn {neg : Bool} {a b : E} : ev C X (.isn neg a b) t σ S k = (ev C X a false σ S fun x S1 => ev C X b false σ S1 fun y S2 => isnD neg x y S2 fun z => k (.bl z) S2) := by simp only [ev] <;> rfl
theorem ev_rev {a : E} : ev C X (.rev a) t σ S k = (ev C X a false σ S fun x S1 => revD x fun d => tv t d S1 k) := by
  first
    | (simp only [ev, revD]; done)
    | (simp only [ev, revD]; congr 1 <;> (funext x S1; cases x <;> rfl))
theorem ev_app {a e : E} : ev C X (.app a e) t σ S k = (ev C X a false σ S fun x S1 => onRef x fun l => ev C X e false σ S1 fun y S2 => onO (cl S2 l) fun ds => ds.length < SZ ∧ k .non (S2.set l (ds ++ [y]))) := by
  simp only [ev]
  congr 1; funext x S1; congr 1; funext l; congr 1; funext y S2
  cases cl S2 l <;> rfl
theorem evs_nil {k : List D → Store → Prop} : evs C X [] σ S k = (k [] S) := by simp only [evs]
theorem evs_cons {e : E} {es : List E} {k : List D → Store → Prop} : evs C X (e :: es) σ S k = (ev C X e false σ S fun d S1 => evs C X es σ S1 fun ds S2 => k (d :: ds) S2) := by simp only [evs]
theorem evss_nil {k : List D → Store → Prop} : evss C X [] [] σ S k = (k [] S) := by simp only [evss]
theorem evss_f {e : E} {es : List E} {fl : List Bool} {k : List D → Store → Prop} : evss C X (e :: es) (false :: fl) σ S k = (ev C X e false σ S fun d S1 => evss C X es fl σ S1 fun ds S2 => k (d :: ds) S2) := by simp only [evss]
theorem evss_t {e : E} {es : List E} {fl : List Bool} {k : List D → Store → Prop} : evss C X (e :: es) (true :: fl) σ S k = (ev C X e false σ S fun d S1 => spr d fun xs => evss C X es fl σ S1 fun ds S2 => k (xs ++ ds) S2) := by simp only [evss]
theorem spr_tup {ds : List D} {p : List D → Prop} : spr (.tup ds) p = (p ds) := nr rfl
theorem spr_lst {ds : List D} {p : List D → Prop} : spr (.lst ds) p = (p ds) := nr rfl
theorem spr_frz {ds : List D} {p : List D → Prop} : spr (.frz ds) p = (p ds) := nr rfl
theorem spr_ti {ns : List Int} {p : List D → Prop} : spr (ti ns) p = (p (ns.map D.int)) := nr rfl
theorem evo_n {k : Option Int → Store → Prop} : evo C X none σ S k = (k none S) := by simp only [evo]
theorem evo_s {e : E} {k : Option Int → Store → Prop} : evo C X (some e) σ S k = (ev C X e false σ S (asI fun i S1 => k (some i) S1)) := by simp only [evo]
theorem evt_n {k : Bool → Store → Prop} : evt C X none σ S k = (k true S) := by simp only [evt]
theorem evt_s {e : E} {k : Bool → Store → Prop} : evt C X (some e) σ S k = (ev C X e true σ S (asB k)) := by simp only [evt]
theorem ex_set {g : Tg} {e : E} {N : Ends} : ex C X (.set g e) σ S N = (ev C X e false σ S fun d S1 => asg C X g d σ S1 N.nx) := by simp only [ex] <;> rfl
theorem ex_par {is : List Nat} {es : List E} {N : Ends} : ex C X (.par is es) σ S N = (evs C X es σ S fun ds S1 => N.nx (sts is ds σ) S1) := by simp only [ex] <;> rfl
theorem ex_expr {e : E} {N : Ends} : ex C X (.expr e) σ S N = (ev C X e false σ S fun _ S1 => N.nx σ S1) := by simp only [ex] <;> rfl
theorem ex_ret {e : E} {N : Ends} : ex C X (.ret e) σ S N = (ev C X e false σ S N.rt) := by simp only [ex] <;> rfl
theorem ex_retN  {N : Ends} : ex C X .retN σ S N = (N.rt .non S) := by simp only [ex] <;> rfl
theorem ex_iff {c : E} {a b : List Sm} {N : Ends} : ex C X (.iff c a b) σ S N = (ev C X c true σ S (asB fun z S1 => brk z (exs C X a σ S1 N) (exs C X b σ S1 N))) := by simp only [ex] <;> rfl
theorem ex_for {p : Pt} {it : E} {body : List Sm} {N : Ends} : ex C X (.for_ p it body) σ S N = (ev C X it false σ S fun x S1 => itm x S1 fun g ds => forW g (blk C X body) p N ds σ S1) := nr rfl
theorem ex_whl {c : E} {body : List Sm} {N : Ends} : ex C X (.whl c body) σ S N = (∃ n, whlW (tst C X c) (blk C X body) N n σ S) := nr rfl
theorem ex_raise  {N : Ends} : ex C X .raise σ S N = (False) := by simp only [ex] <;> rfl
theorem ex_pass  {N : Ends} : ex C X .pass σ S N = (N.nx σ S) := by simp only [ex] <;> rfl
theorem ex_brk  {N : Ends} : ex C X .brk σ S N = (N.bk σ S) := by simp only [ex] <;> rfl
theorem ex_cont  {N : Ends} : ex C X .cont σ S N = (N.ct σ S) := by simp only [ex] <;> rfl
theorem exs_nil {N : Ends} : exs C X [] σ S N = (N.nx σ S) := by simp only [exs]
theorem exs_cons {s : Sm} {r : List Sm} {N : Ends} : exs C X (s :: r) σ S N = (ex C X s σ S { N with nx := fun σ1 S1 => exs C X r σ1 S1 N }) := by simp only [exs]
theorem tvf {d : D} : tv false d S k = (k d S) := nr rfl
theorem tvt {d : D} : tv true d S k = (tru d fun b => k (.bl b) S) := nr rfl
theorem asB_bl {b : Bool} {k : Bool → Store → Prop} : asB k (.bl b) S = (k b S) := nr rfl
theorem asI_i {i : Int} {k : Int → Store → Prop} : asI k (.int i) S = (k i S) := nr rfl
theorem bop_add {a b : Int} {k : D → Prop} : bop .add (.int a) (.int b) k = (k (.int (a + b))) := nr rfl
theorem bop_sub {a b : Int} {k : D → Prop} : bop .sub (.int a) (.int b) k = (k (.int (a - b))) := nr rfl
theorem bop_mul {a b : Int} {k : D → Prop} : bop .mul (.int a) (.int b) k = (mulOk a b ∧ k (.int (a * b))) := nr rfl
theorem bop_fdv {a b : Int} {k : D → Prop} : bop .fdiv (.int a) (.int b) k = (divOk b ∧ k (.int (a.fdiv b))) := nr rfl
theorem bop_mod {a b : Int} {k : D → Prop} : bop .mod (.int a) (.int b) k = (b ≠ 0 ∧ k (.int (a.fmod b))) := nr rfl
theorem bop_pow {a b : Int} {k : D → Prop} : bop .pow (.int a) (.int b) k = ((0 ≤ b ∧ b ≤ 1000000 ∧ a.natAbs < 2 ^ 64) ∧ k (.int (a ^ b.toNat))) := nr rfl
theorem bop_tt {a b : List D} {k : D → Prop} : bop .add (.tup a) (.tup b) k = (a.length + b.length ≤ SZ ∧ k (.tup (a ++ b))) := nr rfl
theorem bop_ll {a b : List D} {k : D → Prop} : bop .add (.lst a) (.lst b) k = (a.length + b.length ≤ SZ ∧ k (.lst (a ++ b))) := nr rfl
theorem bop_lm {a : List D} {b : Int} {k : D → Prop} : bop .mul (.lst a) (.int b) k = ((0 ≤ b ∧ b ≤ SZ ∧ a.length * b.toNat ≤ SZ) ∧ k (.lst (List.replicate b.toNat a).flatten)) := nr rfl
theorem cop_eq {a b : Int} {k : Bool → Prop} : cop .eq (.int a) (.int b) k = (k (decide (a = b))) := nr rfl
theorem cop_ne {a b : Int} {k : Bool → Prop} : cop .ne (.int a) (.int b) k = (k (!decide (a = b))) := nr rfl
theorem cop_lt {a b : Int} {k : Bool → Prop} : cop .lt (.int a) (.int b) k = (k (decide (a < b))) := nr rfl
theorem cop_le {a b : Int} {k : Bool → Prop} : cop .le (.int a) (.int b) k = (k (decide (a ≤ b))) := nr rfl
theorem cop_gt {a b : Int} {k : Bool → Prop} : cop .gt (.int a) (.int b) k = (k (decide (b < a))) := nr rfl
theorem cop_ge {a b : Int} {k : Bool → Prop} : cop .ge (.int a) (.int b) k = (k (decide (b ≤ a))) := nr rfl
theorem cop_eq_rep {a b : D} {k : Bool → Prop} : cop .eq (.rep a) (.rep b) k = (a = b ∧ k true) := nr rfl
theorem cop_ne_rep {a b : D} {k : Bool → Prop} : cop .ne (.rep a) (.rep b) k = (a = b ∧ k false) := nr rfl
theorem cop_eq_tup {xs : List D} {y : D} {k : Bool → Prop} : cop .eq (.tup xs) y k = ((pure? DEEP (.tup xs) = true ∧ pure? DEEP y = true) ∧ k (eqD (.tup xs) y)) := by cases y <;> rfl
theorem cop_ne_tup {xs : List D} {y : D} {k : Bool → Prop} : cop .ne (.tup xs) y k = ((pure? DEEP (.tup xs) = true ∧ pure? DEEP y = true) ∧ k (!eqD (.tup xs) y)) := by cases y <;> rfl
theorem cop_eq_lst {xs : List D} {y : D} {k : Bool → Prop} : cop .eq (.lst xs) y k = ((pure? DEEP (.lst xs) = true ∧ pure? DEEP y = true) ∧ k (eqD (.lst xs) y)) := by cases y <;> rfl
theorem cop_ne_lst {xs : List D} {y : D} {k : Bool → Prop} : cop .ne (.lst xs) y k = ((pure? DEEP (.lst xs) = true ∧ pure? DEEP y = true) ∧ k (!eqD (.lst xs) y)) := by cases y <;> rfl
theorem cop_eq_str {x : Str} {y : D} {k : Bool → Prop} : cop .eq (.str x) y k = ((pure? DEEP (.str x) = true ∧ pure? DEEP y = true) ∧ k (eqD (.str x) y)) := by cases y <;> rfl
theorem cop_ne_str {x : Str} {y : D} {k : Bool → Prop} : cop .ne (.str x) y k = ((pure? DEEP (.str x) = true ∧ pure? DEEP y = true) ∧ k (!eqD (.str x) y)) := by cases y <;> rfl
theorem cop_eq_bl {x : Bool} {y : D} {k : Bool → Prop} : cop .eq (.bl x) y k = ((pure? DEEP (.bl x) = true ∧ pure? DEEP y = true) ∧ k (eqD (.bl x) y)) := by cases y <;> rfl
theorem cop_ne_bl {x : Bool} {y : D} {k : Bool → Prop} : cop .ne (.bl x) y k = ((pure? DEEP (.bl x) = true ∧ pure? DEEP y = true) ∧ k (!eqD (.bl x) y)) := by cases y <;> rfl
theorem cop_eq_non  {y : D} {k : Bool → Prop} : cop .eq .non y k = ((pure? DEEP .non = true ∧ pure? DEEP y = true) ∧ k (eqD .non y)) := by cases y <;> rfl
theorem cop_ne_non  {y : D} {k : Bool → Prop} : cop .ne .non y k = ((pure? DEEP .non = true ∧ pure? DEEP y = true) ∧ k (!eqD .non y)) := by cases y <;> rfl
theorem cop_is_n {x : D} {k : Bool → Prop} : cop .is x .non k = (k (isNon x)) := nr rfl
theorem cop_is_b {x b : Bool} {k : Bool → Prop} : cop .is (.bl x) (.bl b) k = (k (x == b)) := nr rfl
theorem cop_isnot_n {x : D} {k : Bool → Prop} : cop .isnot x .non k = (k (!isNon x)) := nr rfl
theorem cop_isnot_b {x b : Bool} {k : Bool → Prop} : cop .isnot (.bl x) (.bl b) k = (k (!(x == b))) := nr rfl
theorem cop_isin_lst {x : D} {ys : List D} {k : Bool → Prop} : cop .isin x (.lst ys) k = ((pure? DEEP x = true ∧ pures? DEEP ys = true) ∧ k (inD x ys)) := nr rfl
theorem cop_isin_tup {x : D} {ys : List D} {k : Bool → Prop} : cop .isin x (.tup ys) k = ((pure? DEEP x = true ∧ pures? DEEP ys = true) ∧ k (inD x ys)) := nr rfl
theorem cop_notin_lst {x : D} {ys : List D} {k : Bool → Prop} : cop .notin x (.lst ys) k = ((pure? DEEP x = true ∧ pures? DEEP ys = true) ∧ k (!inD x ys)) := nr rfl
theorem cop_notin_tup {x : D} {ys : List D} {k : Bool → Prop} : cop .notin x (.tup ys) k = ((pure? DEEP x = true ∧ pures? DEEP ys = true) ∧ k (!inD x ys)) := nr rfl
theorem tru_non  {k : Bool → Prop} : tru .non k = (k false) := nr rfl
theorem tru_bl {b : Bool} {k : Bool → Prop} : tru (.bl b) k = (k b) := nr rfl
theorem tru_int {i : Int} {k : Bool → Prop} : tru (.int i) k = (k (!decide (i = 0))) := nr rfl
theorem tru_tup {ds : List D} {k : Bool → Prop} : tru (.tup ds) k = (k (!ds.isEmpty)) := nr rfl
theorem tru_lst {ds : List D} {k : Bool → Prop} : tru (.lst ds) k = (k (!ds.isEmpty)) := nr rfl
theorem non_non  : isNon .non = (true) := nr rfl
theorem non_int {i : Int} : isNon (.int i) = (false) := nr rfl
theorem ty_int_int {i : Int} : tyIs .int (.int i) = (some true) := nr rfl
theorem ty_bool_int {i : Int} : tyIs .bool (.int i) = (some false) := nr rfl
theorem ty_str_int {i : Int} : tyIs .str (.int i) = (some false) := nr rfl
theorem ty_tup_int {i : Int} : tyIs .tup (.int i) = (some false) := nr rfl
theorem ty_lst_int {i : Int} : tyIs .lst (.int i) = (some false) := nr rfl
theorem ty_dict_int {i : Int} : tyIs .dict (.int i) = (some false) := nr rfl
theorem non_bl {i : Bool} : isNon (.bl i) = (false) := nr rfl
theorem ty_int_bl {i : Bool} : tyIs .int (.bl i) = (some true) := nr rfl
theorem ty_bool_bl {i : Bool} : tyIs .bool (.bl i) = (some true) := nr rfl
theorem ty_str_bl {i : Bool} : tyIs .str (.bl i) = (some false) := nr rfl
theorem ty_tup_bl {i : Bool} : tyIs .tup (.bl i) = (some false) := nr rfl
theorem ty_lst_bl {i : Bool} : tyIs .lst (.bl i) = (some false) := nr rfl
theorem ty_dict_bl {i : Bool} : tyIs .dict (.bl i) = (some false) := nr rfl
theorem non_str {i : Str} : isNon (.str i) = (false) := nr rfl
theorem ty_int_str {i : Str} : tyIs .int (.str i) = (some false) := nr rfl
theorem ty_bool_str {i : Str} : tyIs .bool (.str i) = (some false) := nr rfl
theorem ty_str_str {i : Str} : tyIs .str (.str i) = (some true) := nr rfl
theorem ty_tup_str {i : Str} : tyIs .tup (.str i) = (some false) := nr rfl
theorem ty_lst_str {i : Str} : tyIs .lst (.str i) = (some false) := nr rfl
theorem ty_dict_str {i : Str} : tyIs .dict (.str i) = (some false) := nr rfl
theorem non_tup {i : List D} : isNon (.tup i) = (false) := nr rfl
theorem ty_int_tup {i : List D} : tyIs .int (.tup i) = (some false) := nr rfl
theorem ty_bool_tup {i : List D} : tyIs .bool (.tup i) = (some false) := nr rfl
theorem ty_str_tup {i : List D} : tyIs .str (.tup i) = (some false) := nr rfl
theorem ty_tup_tup {i : List D} : tyIs .tup (.tup i) = (some true) := nr rfl
theorem ty_lst_tup {i : List D} : tyIs .lst (.tup i) = (some false) := nr rfl
theorem ty_dict_tup {i : List D} : tyIs .dict (.tup i) = (some false) := nr rfl
theorem non_lst {i : List D} : isNon (.lst i) = (false) := nr rfl
theorem ty_int_lst {i : List D} : tyIs .int (.lst i) = (some false) := nr rfl
theorem ty_bool_lst {i : List D} : tyIs .bool (.lst i) = (some false) := nr rfl
theorem ty_str_lst {i : List D} : tyIs .str (.lst i) = (some false) := nr rfl
theorem ty_tup_lst {i : List D} : tyIs .tup (.lst i) = (some false) := nr rfl
theorem ty_lst_lst {i : List D} : tyIs .lst (.lst i) = (some true) := nr rfl
theorem ty_dict_lst {i : List D} : tyIs .dict (.lst i) = (some false) := nr rfl
theorem ty_int_non  : tyIs .int .non = (some false) := nr rfl
theorem ty_int_ti {ns : List Int} : tyIs .int (ti ns) = (some false) := nr rfl
theorem ty_bool_non  : tyIs .bool .non = (some false) := nr rfl
theorem ty_bool_ti {ns : List Int} : tyIs .bool (ti ns) = (some false) := nr rfl
theorem ty_str_non  : tyIs .str .non = (some false) := nr rfl
theorem ty_str_ti {ns : List Int} : tyIs .str (ti ns) = (some false) := nr rfl
theorem ty_tup_non  : tyIs .tup .non = (some false) := nr rfl
theorem ty_tup_ti {ns : List Int} : tyIs .tup (ti ns) = (some true) := nr rfl
theorem ty_lst_non  : tyIs .lst .non = (some false) := nr rfl
theorem ty_lst_ti {ns : List Int} : tyIs .lst (ti ns) = (some false) := nr rfl
theorem ty_dict_non  : tyIs .dict .non = (some false) := nr rfl
theorem ty_dict_ti {ns : List Int} : tyIs .dict (ti ns) = (some false) := nr rfl
theorem ty_int_rep {d : D} : tyIs .int (.rep d) = (some false) := nr rfl
theorem ty_int_dic  : tyIs .int .dic = (some false) := nr rfl
theorem ty_bool_rep {d : D} : tyIs .bool (.rep d) = (some false) := nr rfl
theorem ty_bool_dic  : tyIs .bool .dic = (some false) := nr rfl
theorem ty_str_rep {d : D} : tyIs .str (.rep d) = (some true) := nr rfl
theorem ty_str_dic  : tyIs .str .dic = (some false) := nr rfl
theorem ty_tup_rep {d : D} : tyIs .tup (.rep d) = (some false) := nr rfl
theorem ty_tup_dic  : tyIs .tup .dic = (some false) := nr rfl
theorem ty_lst_rep {d : D} : tyIs .lst (.rep d) = (some false) := nr rfl
theorem ty_lst_dic  : tyIs .lst .dic = (some false) := nr rfl
theorem ty_dict_rep {d : D} : tyIs .dict (.rep d) = (some false) := nr rfl
theorem ty_dict_dic  : tyIs .dict .dic = (some true) := nr rfl
theorem ta_tup {ds : List D} : tyAny [.tup, .lst] (.tup ds) = (some true) := nr rfl
theorem ta_lst {ds : List D} : tyAny [.tup, .lst] (.lst ds) = (some true) := nr rfl
theorem ta_ti {ns : List Int} : tyAny [.tup, .lst] (ti ns) = (some true) := nr rfl
theorem ta_int {i : Int} : tyAny [.tup, .lst] (.int i) = (some false) := nr rfl
theorem ta_bl {i : Bool} : tyAny [.tup, .lst] (.bl i) = (some false) := nr rfl
theorem ta_str {i : Str} : tyAny [.tup, .lst] (.str i) = (some false) := nr rfl
theorem ta_non  : tyAny [.tup, .lst] .non = (some false) := nr rfl
theorem seq_tup {ds : List D} {p : List D → Prop} : seq (.tup ds) S p = (p ds) := nr rfl
theorem itm_tup {ds : List D} {p : Gd → List D → Prop} : itm (.tup ds) S p = (p none ds) := nr rfl
theorem seq_lst {ds : List D} {p : List D → Prop} : seq (.lst ds) S p = (p ds) := nr rfl
theorem itm_lst {ds : List D} {p : Gd → List D → Prop} : itm (.lst ds) S p = (p none ds) := nr rfl
theorem seq_frz {ds : List D} {p : List D → Prop} : seq (.frz ds) S p = (p ds) := nr rfl
theorem itm_frz {ds : List D} {p : Gd → List D → Prop} : itm (.frz ds) S p = (p none ds) := nr rfl
theorem itm_itr {ds : List D} {p : Gd → List D → Prop} : itm (.itr ds) S p = (p none ds) := nr rfl
theorem seq_ref {l : Nat} {p : List D → Prop} : seq (.ref l) S p = (onO (cl S l) p) := by simp only [seq]; cases cl S l <;> rfl
theorem itm_ref {l : Nat} {p : Gd → List D → Prop} : itm (.ref l) S p = (onO (cl S l) fun ds => p (some (l, ds)) ds) := by simp only [itm]; cases cl S l <;> rfl
theorem seq_ti {ns : List Int} {p : List D → Prop} : seq (ti ns) S p = (p (ns.map D.int)) := nr rfl
theorem itm_ti {ns : List Int} {p : Gd → List D → Prop} : itm (ti ns) S p = (p none (ns.map D.int)) := nr rfl
theorem onO_s {α : Type} {a : α} {p : α → Prop} : onO (some a) p = (p a) := nr rfl
theorem nth_0 {d : D} {r : List D} {p : D → Prop} : onO (nth (d :: r) 0) p = (p d) := by rw [show nth (d :: r) 0 = some d from nth_lit (i := 0) rfl] <;> rfl
theorem nth_1 {x0 : D} {d : D} {r : List D} {p : D → Prop} : onO (nth (x0 :: d :: r) 1) p = (p d) := by rw [show nth (x0 :: d :: r) 1 = some d from nth_lit (i := 1) rfl] <;> rfl
theorem nth_2 {x0 x1 : D} {d : D} {r : List D} {p : D → Prop} : onO (nth (x0 :: x1 :: d :: r) 2) p = (p d) := by rw [show nth (x0 :: x1 :: d :: r) 2 = some d from nth_lit (i := 2) rfl] <;> rfl
theorem nth_3 {x0 x1 x2 : D} {d : D} {r : List D} {p : D → Prop} : onO (nth (x0 :: x1 :: x2 :: d :: r) 3) p = (p d) := by rw [show nth (x0 :: x1 :: x2 :: d :: r) 3 = some d from nth_lit (i := 3) rfl] <;> rfl
theorem nth_4 {x0 x1 x2 x3 : D} {d : D} {r : List D} {p : D → Prop} : onO (nth (x0 :: x1 :: x2 :: x3 :: d :: r) 4) p = (p d) := by rw [show nth (x0 :: x1 :: x2 :: x3 :: d :: r) 4 = some d from nth_lit (i := 4) rfl] <;> rfl
theorem nth_5 {x0 x1 x2 x3 x4 : D} {d : D} {r : List D} {p : D → Prop} : onO (nth (x0 :: x1 :: x2 :: x3 :: x4 :: d :: r) 5) p = (p d) := by rw [show nth (x0 :: x1 :: x2 :: x3 :: x4 :: d :: r) 5 = some d from nth_lit (i := 5) rfl] <;> rfl
theorem nth_6 {x0 x1 x2 x3 x4 x5 : D} {d : D} {r : List D} {p : D → Prop} : onO (nth (x0 :: x1 :: x2 :: x3 :: x4 :: x5 :: d :: r) 6) p = (p d) := by rw [show nth (x0 :: x1 :: x2 :: x3 :: x4 :: x5 :: d :: r) 6 = some d from nth_lit (i := 6) rfl] <;> rfl
theorem nth_7 {x0 x1 x2 x3 x4 x5 x6 : D} {d : D} {r : List D} {p : D → Prop} : onO (nth (x0 :: x1 :: x2 :: x3 :: x4 :: x5 :: x6 :: d :: r) 7) p = (p d) := by rw [show nth (x0 :: x1 :: x2 :: x3 :: x4 :: x5 :: x6 :: d :: r) 7 = some d from nth_lit (i := 7) rfl] <;> rfl
theorem nth_8 {x0 x1 x2 x3 x4 x5 x6 x7 : D} {d : D} {r : List D} {p : D → Prop} : onO (nth (x0 :: x1 :: x2 :: x3 :: x4 :: x5 :: x6 :: x7 :: d :: r) 8) p = (p d) := by rw [show nth (x0 :: x1 :: x2 :: x3 :: x4 :: x5 :: x6 :: x7 :: d :: r) 8 = some d from nth_lit (i := 8) rfl] <;> rfl
theorem nth_9 {x0 x1 x2 x3 x4 x5 x6 x7 x8 : D} {d : D} {r : List D} {p : D → Prop} : onO (nth (x0 :: x1 :: x2 :: x3 :: x4 :: x5 :: x6 :: x7 :: x8 :: d :: r) 9) p = (p d) := by rw [show nth (x0 :: x1 :: x2 :: x3 :: x4 :: x5 :: x6 :: x7 :: x8 :: d :: r) 9 = some d from nth_lit (i := 9) rfl] <;> rfl
theorem nth_10 {x0 x1 x2 x3 x4 x5 x6 x7 x8 x9 : D} {d : D} {r : List D} {p : D → Prop} : onO (nth (x0 :: x1 :: x2 :: x3 :: x4 :: x5 :: x6 :: x7 :: x8 :: x9 :: d :: r) 10) p = (p d) := by rw [show nth (x0 :: x1 :: x2 :: x3 :: x4 :: x5 :: x6 :: x7 :: x8 :: x9 :: d :: r) 10 = some d from nth_lit (i := 10) rfl] <;> rfl
theorem nth_11 {x0 x1 x2 x3 x4 x5 x6 x7 x8 x9 x10 : D} {d : D} {r : List D} {p : D → Prop} : onO (nth (x0 :: x1 :: x2 :: x3 :: x4 :: x5 :: x6 :: x7 :: x8 :: x9 :: x10 :: d :: r) 11) p = (p d) := by rw [show nth (x0 :: x1 :: x2 :: x3 :: x4 :: x5 :: x6 :: x7 :: x8 :: x9 :: x10 :: d :: r) 11 = some d from nth_lit (i := 11) rfl] <;> rfl
theorem nth_12 {x0 x1 x2 x3 x4 x5 x6 x7 x8 x9 x10 x11 : D} {d : D} {r : List D} {p : D → Prop} : onO (nth (x0 :: x1 :: x2 :: x3 :: x4 :: x5 :: x6 :: x7 :: x8 :: x9 :: x10 :: x11 :: d :: r) 12) p = (p d) := by rw [show nth (x0 :: x1 :: x2 :: x3 :: x4 :: x5 :: x6 :: x7 :: x8 :: x9 :: x10 :: x11 :: d :: r) 12 = some d from nth_lit (i := 12) rfl] <;> rfl
theorem bf_len {d : D} {k : D → Prop} : bfn .len [d] S k = (seq d S fun ds => k (.int ds.length)) := nr rfl
theorem bf_abs {a : Int} {k : D → Prop} : bfn .abs [.int a] S k = (k (.int (if a < 0 then -a else a))) := nr rfl
theorem bf_max {a b : Int} {k : D → Prop} : bfn .max2 [.int a, .int b] S k = (k (.int (if b > a then b else a))) := by show (True ∧ _) = _; rw [true_and]
theorem bf_min {a b : Int} {k : D → Prop} : bfn .min2 [.int a, .int b] S k = (k (.int (if b < a then b else a))) := by show (True ∧ _) = _; rw [true_and]
theorem bf_int {a : Int} {k : D → Prop} : bfn .int [.int a] S k = (k (.int a)) := nr rfl
theorem bf_intb {a : Bool} {k : D → Prop} : bfn .int [.bl a] S k = (k (.int (if a then 1 else 0))) := nr rfl
theorem bf_dm {a b : Int} {k : D → Prop} : bfn .divmod [.int a, .int b] S k = ((0 < b ∧ divOk b) ∧ k (.tup [.int (a / b), .int (a % b)])) := nr rfl
theorem bf_gcd {a b : Int} {k : D → Prop} : bfn .gcd [.int a, .int b] S k = (k (.int (gstep a b))) := by show (True ∧ _) = _; rw [true_and] <;> rfl
theorem bf_all {ds : List D} {k : D → Prop} : bfn .all [.lst ds] S k = (onO (bls? ds) fun bs => k (.bl (bs.all id))) := by
  show onBs _ (.lst ds) k = _
  unfold onBs
  simp only
  cases bls? ds <;> rfl
theorem bf_any {ds : List D} {k : D → Prop} : bfn .any [.lst ds] S k = (onO (bls? ds) fun bs => k (.bl (bs.any id))) := by
  show onBs _ (.lst ds) k = _
  unfold onBs
  simp only
  cases bls? ds <;> rfl
theorem bf_sum {ds : List D} {k : D → Prop} : bfn .sum [.lst ds] S k = (onO (ints? ds) fun is => k (.int is.sum)) := by
  show onIs _ (.lst ds) k = _
  unfold onIs
  simp only
  cases ints? ds <;> rfl
theorem bf_tup {d : D} {k : D → Prop} : bfn .tuple [d] S k = (seq d S fun ds => k (.tup ds)) := nr rfl
theorem bf_repl {ds : List D} {k : D → Prop} : bfn .repr [.lst ds] S k = ((pure? DEEP (.lst ds) = true ∧ smDs ds ∧ nods ds ≤ 20000) ∧ k (.rep (.lst ds))) := nr rfl
theorem bf_stri {i : Int} {k : D → Prop} : bfn .str [.int i] S k = (i.natAbs < 2 ^ 990 ∧ k (.rep (.int i))) := nr rfl
theorem bf_rept {ds : List D} {k : D → Prop} : bfn .repr [.tup ds] S k = ((pure? DEEP (.tup ds) = true ∧ smDs ds ∧ nods ds ≤ 20000) ∧ k (.rep (.tup ds))) := nr rfl
theorem bf_lst {d : D} {k : D → Prop} : bfn .list [d] S k = (seq d S fun ds => k (.lst ds)) := nr rfl
theorem st_0 {x0 : Option D} {r : Env} {d : D} : st (x0 :: r) 0 d = (some d :: r) := nr rfl
theorem st_1 {x0 x1 : Option D} {r : Env} {d : D} : st (x0 :: x1 :: r) 1 d = (x0 :: some d :: r) := nr rfl
theorem st_2 {x0 x1 x2 : Option D} {r : Env} {d : D} : st (x0 :: x1 :: x2 :: r) 2 d = (x0 :: x1 :: some d :: r) := nr rfl
theorem st_3 {x0 x1 x2 x3 : Option D} {r : Env} {d : D} : st (x0 :: x1 :: x2 :: x3 :: r) 3 d = (x0 :: x1 :: x2 :: some d :: r) := nr rfl
theorem st_4 {x0 x1 x2 x3 x4 : Option D} {r : Env} {d : D} : st (x0 :: x1 :: x2 :: x3 :: x4 :: r) 4 d = (x0 :: x1 :: x2 :: x3 :: some d :: r) := nr rfl
theorem st_5 {x0 x1 x2 x3 x4 x5 : Option D} {r : Env} {d : D} : st (x0 :: x1 :: x2 :: x3 :: x4 :: x5 :: r) 5 d = (x0 :: x1 :: x2 :: x3 :: x4 :: some d :: r) := nr rfl
theorem st_6 {x0 x1 x2 x3 x4 x5 x6 : Option D} {r : Env} {d : D} : st (x0 :: x1 :: x2 :: x3 :: x4 :: x5 :: x6 :: r) 6 d = (x0 :: x1 :: x2 :: x3 :: x4 :: x5 :: some d :: r) := nr rfl
theorem st_7 {x0 x1 x2 x3 x4 x5 x6 x7 : Option D} {r : Env} {d : D} : st (x0 :: x1 :: x2 :: x3 :: x4 :: x5 :: x6 :: x7 :: r) 7 d = (x0 :: x1 :: x2 :: x3 :: x4 :: x5 :: x6 :: some d :: r) := nr rfl
theorem st_8 {x0 x1 x2 x3 x4 x5 x6 x7 x8 : Option D} {r : Env} {d : D} : st (x0 :: x1 :: x2 :: x3 :: x4 :: x5 :: x6 :: x7 :: x8 :: r) 8 d = (x0 :: x1 :: x2 :: x3 :: x4 :: x5 :: x6 :: x7 :: some d :: r) := nr rfl
theorem st_9 {x0 x1 x2 x3 x4 x5 x6 x7 x8 x9 : Option D} {r : Env} {d : D} : st (x0 :: x1 :: x2 :: x3 :: x4 :: x5 :: x6 :: x7 :: x8 :: x9 :: r) 9 d = (x0 :: x1 :: x2 :: x3 :: x4 :: x5 :: x6 :: x7 :: x8 :: some d :: r) := nr rfl
theorem st_10 {x0 x1 x2 x3 x4 x5 x6 x7 x8 x9 x10 : Option D} {r : Env} {d : D} : st (x0 :: x1 :: x2 :: x3 :: x4 :: x5 :: x6 :: x7 :: x8 :: x9 :: x10 :: r) 10 d = (x0 :: x1 :: x2 :: x3 :: x4 :: x5 :: x6 :: x7 :: x8 :: x9 :: some d :: r) := nr rfl
theorem st_11 {x0 x1 x2 x3 x4 x5 x6 x7 x8 x9 x10 x11 : Option D} {r : Env} {d : D} : st (x0 :: x1 :: x2 :: x3 :: x4 :: x5 :: x6 :: x7 :: x8 :: x9 :: x10 :: x11 :: r) 11 d = (x0 :: x1 :: x2 :: x3 :: x4 :: x5 :: x6 :: x7 :: x8 :: x9 :: x10 :: some d :: r) := nr rfl
theorem st_12 {x0 x1 x2 x3 x4 x5 x6 x7 x8 x9 x10 x11 x12 : Option D} {r : Env} {d : D} : st (x0 :: x1 :: x2 :: x3 :: x4 :: x5 :: x6 :: x7 :: x8 :: x9 :: x10 :: x11 :: x12 :: r) 12 d = (x0 :: x1 :: x2 :: x3 :: x4 :: x5 :: x6 :: x7 :: x8 :: x9 :: x10 :: x11 :: some d :: r) := nr rfl
theorem st_13 {x0 x1 x2 x3 x4 x5 x6 x7 x8 x9 x10 x11 x12 x13 : Option D} {r : Env} {d : D} : st (x0 :: x1 :: x2 :: x3 :: x4 :: x5 :: x6 :: x7 :: x8 :: x9 :: x10 :: x11 :: x12 :: x13 :: r) 13 d = (x0 :: x1 :: x2 :: x3 :: x4 :: x5 :: x6 :: x7 :: x8 :: x9 :: x10 :: x11 :: x12 :: some d :: r) := nr rfl
theorem st_14 {x0 x1 x2 x3 x4 x5 x6 x7 x8 x9 x10 x11 x12 x13 x14 : Option D} {r : Env} {d : D} : st (x0 :: x1 :: x2 :: x3 :: x4 :: x5 :: x6 :: x7 :: x8 :: x9 :: x10 :: x11 :: x12 :: x13 :: x14 :: r) 14 d = (x0 :: x1 :: x2 :: x3 :: x4 :: x5 :: x6 :: x7 :: x8 :: x9 :: x10 :: x11 :: x12 :: x13 :: some d :: r) := nr rfl
theorem st_15 {x0 x1 x2 x3 x4 x5 x6 x7 x8 x9 x10 x11 x12 x13 x14 x15 : Option D} {r : Env} {d : D} : st (x0 :: x1 :: x2 :: x3 :: x4 :: x5 :: x6 :: x7 :: x8 :: x9 :: x10 :: x11 :: x12 :: x13 :: x14 :: x15 :: r) 15 d = (x0 :: x1 :: x2 :: x3 :: x4 :: x5 :: x6 :: x7 :: x8 :: x9 :: x10 :: x11 :: x12 :: x13 :: x14 :: some d :: r) := nr rfl
theorem st_16 {x0 x1 x2 x3 x4 x5 x6 x7 x8 x9 x10 x11 x12 x13 x14 x15 x16 : Option D} {r : Env} {d : D} : st (x0 :: x1 :: x2 :: x3 :: x4 :: x5 :: x6 :: x7 :: x8 :: x9 :: x10 :: x11 :: x12 :: x13 :: x14 :: x15 :: x16 :: r) 16 d = (x0 :: x1 :: x2 :: x3 :: x4 :: x5 :: x6 :: x7 :: x8 :: x9 :: x10 :: x11 :: x12 :: x13 :: x14 :: x15 :: some d :: r) := nr rfl
theorem st_17 {x0 x1 x2 x3 x4 x5 x6 x7 x8 x9 x10 x11 x12 x13 x14 x15 x16 x17 : Option D} {r : Env} {d : D} : st (x0 :: x1 :: x2 :: x3 :: x4 :: x5 :: x6 :: x7 :: x8 :: x9 :: x10 :: x11 :: x12 :: x13 :: x14 :: x15 :: x16 :: x17 :: r) 17 d = (x0 :: x1 :: x2 :: x3 :: x4 :: x5 :: x6 :: x7 :: x8 :: x9 :: x10 :: x11 :: x12 :: x13 :: x14 :: x15 :: x16 :: some d :: r) := nr rfl
theorem st_18 {x0 x1 x2 x3 x4 x5 x6 x7 x8 x9 x10 x11 x12 x13 x14 x15 x16 x17 x18 : Option D} {r : Env} {d : D} : st (x0 :: x1 :: x2 :: x3 :: x4 :: x5 :: x6 :: x7 :: x8 :: x9 :: x10 :: x11 :: x12 :: x13 :: x14 :: x15 :: x16 :: x17 :: x18 :: r) 18 d = (x0 :: x1 :: x2 :: x3 :: x4 :: x5 :: x6 :: x7 :: x8 :: x9 :: x10 :: x11 :: x12 :: x13 :: x14 :: x15 :: x16 :: x17 :: some d :: r) := nr rfl
theorem st_19 {x0 x1 x2 x3 x4 x5 x6 x7 x8 x9 x10 x11 x12 x13 x14 x15 x16 x17 x18 x19 : Option D} {r : Env} {d : D} : st (x0 :: x1 :: x2 :: x3 :: x4 :: x5 :: x6 :: x7 :: x8 :: x9 :: x10 :: x11 :: x12 :: x13 :: x14 :: x15 :: x16 :: x17 :: x18 :: x19 :: r) 19 d = (x0 :: x1 :: x2 :: x3 :: x4 :: x5 :: x6 :: x7 :: x8 :: x9 :: x10 :: x11 :: x12 :: x13 :: x14 :: x15 :: x16 :: x17 :: x18 :: some d :: r) := nr rfl
theorem st_20 {x0 x1 x2 x3 x4 x5 x6 x7 x8 x9 x10 x11 x12 x13 x14 x15 x16 x17 x18 x19 x20 : Option D} {r : Env} {d : D} : st (x0 :: x1 :: x2 :: x3 :: x4 :: x5 :: x6 :: x7 :: x8 :: x9 :: x10 :: x11 :: x12 :: x13 :: x14 :: x15 :: x16 :: x17 :: x18 :: x19 :: x20 :: r) 20 d = (x0 :: x1 :: x2 :: x3 :: x4 :: x5 :: x6 :: x7 :: x8 :: x9 :: x10 :: x11 :: x12 :: x13 :: x14 :: x15 :: x16 :: x17 :: x18 :: x19 :: some d :: r) := nr rfl
theorem st_21 {x0 x1 x2 x3 x4 x5 x6 x7 x8 x9 x10 x11 x12 x13 x14 x15 x16 x17 x18 x19 x20 x21 : Option D} {r : Env} {d : D} : st (x0 :: x1 :: x2 :: x3 :: x4 :: x5 :: x6 :: x7 :: x8 :: x9 :: x10 :: x11 :: x12 :: x13 :: x14 :: x15 :: x16 :: x17 :: x18 :: x19 :: x20 :: x21 :: r) 21 d = (x0 :: x1 :: x2 :: x3 :: x4 :: x5 :: x6 :: x7 :: x8 :: x9 :: x10 :: x11 :: x12 :: x13 :: x14 :: x15 :: x16 :: x17 :: x18 :: x19 :: x20 :: some d :: r) := nr rfl
theorem st_22 {x0 x1 x2 x3 x4 x5 x6 x7 x8 x9 x10 x11 x12 x13 x14 x15 x16 x17 x18 x19 x20 x21 x22 : Option D} {r : Env} {d : D} : st (x0 :: x1 :: x2 :: x3 :: x4 :: x5 :: x6 :: x7 :: x8 :: x9 :: x10 :: x11 :: x12 :: x13 :: x14 :: x15 :: x16 :: x17 :: x18 :: x19 :: x20 :: x21 :: x22 :: r) 22 d = (x0 :: x1 :: x2 :: x3 :: x4 :: x5 :: x6 :: x7 :: x8 :: x9 :: x10 :: x11 :: x12 :: x13 :: x14 :: x15 :: x16 :: x17 :: x18 :: x19 :: x20 :: x21 :: some d :: r) := nr rfl
theorem st_23 {x0 x1 x2 x3 x4 x5 x6 x7 x8 x9 x10 x11 x12 x13 x14 x15 x16 x17 x18 x19 x20 x21 x22 x23 : Option D} {r : Env} {d : D} : st (x0 :: x1 :: x2 :: x3 :: x4 :: x5 :: x6 :: x7 :: x8 :: x9 :: x10 :: x11 :: x12 :: x13 :: x14 :: x15 :: x16 :: x17 :: x18 :: x19 :: x20 :: x21 :: x22 :: x23 :: r) 23 d = (x0 :: x1 :: x2 :: x3 :: x4 :: x5 :: x6 :: x7 :: x8 :: x9 :: x10 :: x11 :: x12 :: x13 :: x14 :: x15 :: x16 :: x17 :: x18 :: x19 :: x20 :: x21 :: x22 :: some d :: r) := nr rfl
theorem asg_nm {i : Nat} {d : D} {k : Env → Store → Prop} : asg C X (.pt (.nm i)) d σ S k = (k (st σ i d) S) := by simp only [asg] <;> rfl
theorem asg_tp {ps : List Pt} {ds : List D} {k : Env → Store → Prop} : asg C X (.pt (.tp ps)) (.tup ds) σ S k = (onO (bindPs ps ds σ) fun σ1 => k σ1 S) := by
  simp only [asg, bindP]
  cases bindPs ps ds σ <;> rfl
theorem asg_ls {ps : List Pt} {ds : List D} {k : Env → Store → Prop} : asg C X (.pt (.tp ps)) (.lst ds) σ S k = (onO (bindPs ps ds σ) fun σ1 => k σ1 S) := by
  simp only [asg, bindP]
  cases bindPs ps ds σ <;> rfl
theorem asg_sub {o i : E} {d : D} {k : Env → Store → Prop} : asg C X (.sub o i) d σ S k = (ev C X o false σ S fun x S1 => ev C X i false σ S1 (asI fun j S2 => onRef x fun l => onO (cl S2 l) fun ds => (0 ≤ j ∧ j < ds.length) ∧ k σ (S2.set l (ds.set j.toNat d)))) := by
  simp only [asg]
  congr 1; funext x S1; congr 1; congr 1; funext j S2
  cases x <;> try rfl
  rename_i l
  simp only [onRef]
  cases cl S2 l <;> rfl
theorem asg_tg {ts : List Tg} {ds : List D} {k : Env → Store → Prop} : asg C X (.tp ts) (.tup ds) σ S k = (ds.length = ts.length ∧ asgs C X ts ds σ S k) := by simp only [asg] <;> rfl
theorem asg_ti {ps : List Pt} {ns : List Int} {k : Env → Store → Prop} : asg C X (.pt (.tp ps)) (ti ns) σ S k = (onO (bindPs ps (ns.map D.int) σ) fun σ1 => k σ1 S) := asg_tp
theorem asgs_nil {k : Env → Store → Prop} : asgs C X [] [] σ S k = (k σ S) := by simp only [asgs]
theorem asgs_cons {t : Tg} {ts : List Tg} {d : D} {ds : List D} {k : Env → Store → Prop} : asgs C X (t :: ts) (d :: ds) σ S k = (asg C X t d σ S fun σ1 S1 => asgs C X ts ds σ1 S1 k) := by simp only [asgs]
theorem bp_nm {i : Nat} {d : D} : bindP (.nm i) d σ = (some (st σ i d)) := by simp only [bindP]
theorem bp_tp {ps : List Pt} {ds : List D} : bindP (.tp ps) (.tup ds) σ = (bindPs ps ds σ) := by simp only [bindP]
theorem bp_ls {ps : List Pt} {ds : List D} : bindP (.tp ps) (.lst ds) σ = (bindPs ps ds σ) := by simp only [bindP]
theorem bp_ti {ps : List Pt} {ns : List Int} : bindP (.tp ps) (ti ns) σ = (bindPs ps (ns.map D.int) σ) := bp_tp
theorem bps_nil  : bindPs [] [] σ = (some σ) := by simp only [bindPs]
theorem bps_nm {i : Nat} {ps : List Pt} {d : D} {ds : List D} : bindPs (.nm i :: ps) (d :: ds) σ = (bindPs ps ds (st σ i d)) := by simp only [bindPs, bindP]
theorem sts_nil  : sts [] [] σ = (σ) := nr rfl
theorem sts_cons {i : Nat} {is : List Nat} {d : D} {ds : List D} : sts (i :: is) (d :: ds) σ = (sts is ds (st σ i d)) := nr rfl
theorem mk_f {ds : List D} {k : D → Store → Prop} : mk false ds S k = (k (.lst ds) S) := nr rfl
theorem mk_t {ds : List D} {k : D → Store → Prop} : mk true ds S k = (k (.ref S.length) (S ++ [ds])) := nr rfl
theorem rowr_l {ds : List D} {l : Nat} : rowR (.lst ds) S = (some ds) := nr rfl
theorem rowr_r {ds : List D} {l : Nat} : rowR (.ref l) S = (cl S l) := nr rfl
theorem cat_d {x y : D} {k : List D → Prop} : catD x y S k = (onO (rowR x S) fun a => onO (rowR y S) fun b => a.length + b.length ≤ SZ ∧ k (a ++ b)) := by
  unfold catD
  cases rowR x S <;> (try rfl)
  cases rowR y S <;> rfl
theorem setn_l {ds : List D} {k : Int → Prop} : setN (.lst ds) S k = (onO (rws? ds) fun ks => ks.length < 64 ∧ k ((ddl ks).length : Nat)) := by
  unfold setN nsetD
  simp only
  cases rws? ds <;> rfl
theorem setn_r {l : Nat} {k : Int → Prop} : setN (.ref l) S k = (onO (cl S l) fun ds => onO (rws? ds) fun ks => ks.length < 64 ∧ k ((ddl ks).length : Nat)) := by
  simp only [setN]
  cases cl S l
  · rfl
  · rename_i ds
    simp only [onO, nsetD]
    cases rws? ds <;> rfl
theorem isn_lst_true {x : D} {ys : List D} {k : Bool → Prop} : isnD true x (.lst ys) S k = ((pure? DEEP x = true ∧ pures? DEEP ys = true) ∧ k (!inD x ys)) := nr rfl
theorem isn_lst_false {x : D} {ys : List D} {k : Bool → Prop} : isnD false x (.lst ys) S k = ((pure? DEEP x = true ∧ pures? DEEP ys = true) ∧ k (inD x ys)) := nr rfl
theorem isn_tup_true {x : D} {ys : List D} {k : Bool → Prop} : isnD true x (.tup ys) S k = ((pure? DEEP x = true ∧ pures? DEEP ys = true) ∧ k (!inD x ys)) := nr rfl
theorem isn_tup_false {x : D} {ys : List D} {k : Bool → Prop} : isnD false x (.tup ys) S k = ((pure? DEEP x = true ∧ pures? DEEP ys = true) ∧ k (inD x ys)) := nr rfl
theorem isn_ref_true {x : D} {l : Nat} {k : Bool → Prop} : isnD true x (.ref l) S k = (onO (cl S l) fun ys => (pure? DEEP x = true ∧ pures? DEEP ys = true) ∧ k (!inD x ys)) := by
  simp only [isnD]
  cases cl S l <;> rfl
theorem isn_ref_false {x : D} {l : Nat} {k : Bool → Prop} : isnD false x (.ref l) S k = (onO (cl S l) fun ys => (pure? DEEP x = true ∧ pures? DEEP ys = true) ∧ k (inD x ys)) := by
  simp only [isnD]
  cases cl S l <;> rfl
theorem cnt_t {ds : List D} {i : Int} {k : Int → Prop} : cntD ds (.int i) k = (onO (ints? ds) fun is => k (is.count i : Nat)) := by
  unfold cntD
  simp only
  cases ints? ds <;> rfl
theorem rev_t {ds : List D} {k : D → Prop} : revD (.tup ds) k = (k (.tup ds.reverse)) := nr rfl
theorem rev_l {ds : List D} {k : D → Prop} : revD (.lst ds) k = (k (.lst ds.reverse)) := nr rfl
theorem rev_ti {ns : List Int} {k : D → Prop} : revD (ti ns) k = (k (ti ns.reverse)) := by
  show k (.tup (ns.map D.int).reverse) = _
  rw [← List.map_reverse] <;> rfl
theorem onRef_r {l : Nat} {k : Nat → Prop} : onRef (.ref l) k = (k l) := nr rfl
theorem two_tt {xs ys : List D} {k : List D → List D → Prop} : two (.tup xs) (.tup ys) k = (k xs ys) := nr rfl
theorem two_ll {xs ys : List D} {k : List D → List D → Prop} : two (.lst xs) (.lst ys) k = (k xs ys) := nr rfl
theorem two_tl {xs ys : List D} {k : List D → List D → Prop} : two (.tup xs) (.lst ys) k = (k xs ys) := nr rfl
theorem two_ti {xs ys : List Int} {k : List D → List D → Prop} : two (ti xs) (ti ys) k = (k (xs.map D.int) (ys.map D.int)) := nr rfl
theorem still_t {xs : List D} {k : List D → Prop} : still (.tup xs) k = (k xs) := nr rfl
theorem still_ti {xs : List Int} {k : List D → Prop} : still (ti xs) k = (k (xs.map D.int)) := nr rfl
theorem still_l {xs : List D} {k : List D → Prop} : still (.lst xs) k = (k xs) := nr rfl
theorem cut_tup {ds : List D} {lo hi : Option Int} {k : D → Prop} : cut (.tup ds) lo hi S k = (k (.tup (slice ds lo hi))) := nr rfl
theorem cut_lst {ds : List D} {lo hi : Option Int} {k : D → Prop} : cut (.lst ds) lo hi S k = (k (.lst (slice ds lo hi))) := nr rfl
theorem cut_frz {ds : List D} {lo hi : Option Int} {k : D → Prop} : cut (.frz ds) lo hi S k = (k (.lst (slice ds lo hi))) := nr rfl
theorem cut_ti {ns : List Int} {lo hi : Option Int} {k : D → Prop} : cut (ti ns) lo hi S k = (k (.tup (slice (ns.map D.int) lo hi))) := nr rfl
theorem bop_titi {xs ys : List Int} {k : D → Prop} : bop .add (ti xs) (ti ys) k = ((xs.map D.int).length + (ys.map D.int).length ≤ SZ ∧ k (.tup (xs.map D.int ++ ys.map D.int))) := nr rfl
theorem cop_eq_ti {xs ys : List Int} {k : Bool → Prop} : cop .eq (ti xs) (ti ys) k = (k (decide (xs = ys))) := by
  show ((_ ∧ _) ∧ k (eqD (ti xs) (ti ys))) = _
  rw [eq_ti, pure_ti, pure_ti]; simp
theorem cop_ne_ti {xs ys : List Int} {k : Bool → Prop} : cop .ne (ti xs) (ti ys) k = (k (!decide (xs = ys))) := by
  show ((_ ∧ _) ∧ k (!eqD (ti xs) (ti ys))) = _
  rw [eq_ti, pure_ti, pure_ti]; simp
theorem wp0_nil  : wp0 σ [] = (σ) := nr rfl
theorem wp_0 {x0 : Option D} {r : Env} : wp0 (x0 :: r) [0] = (none :: r) := nr rfl
theorem wp_1 {x0 x1 : Option D} {r : Env} : wp0 (x0 :: x1 :: r) [1] = (x0 :: none :: r) := nr rfl
theorem wp_2 {x0 x1 x2 : Option D} {r : Env} : wp0 (x0 :: x1 :: x2 :: r) [2] = (x0 :: x1 :: none :: r) := nr rfl
theorem wp_3 {x0 x1 x2 x3 : Option D} {r : Env} : wp0 (x0 :: x1 :: x2 :: x3 :: r) [3] = (x0 :: x1 :: x2 :: none :: r) := nr rfl
theorem wp_4 {x0 x1 x2 x3 x4 : Option D} {r : Env} : wp0 (x0 :: x1 :: x2 :: x3 :: x4 :: r) [4] = (x0 :: x1 :: x2 :: x3 :: none :: r) := nr rfl
theorem wp_5 {x0 x1 x2 x3 x4 x5 : Option D} {r : Env} : wp0 (x0 :: x1 :: x2 :: x3 :: x4 :: x5 :: r) [5] = (x0 :: x1 :: x2 :: x3 :: x4 :: none :: r) := nr rfl
theorem wp_6 {x0 x1 x2 x3 x4 x5 x6 : Option D} {r : Env} : wp0 (x0 :: x1 :: x2 :: x3 :: x4 :: x5 :: x6 :: r) [6] = (x0 :: x1 :: x2 :: x3 :: x4 :: x5 :: none :: r) := nr rfl
theorem wp_7 {x0 x1 x2 x3 x4 x5 x6 x7 : Option D} {r : Env} : wp0 (x0 :: x1 :: x2 :: x3 :: x4 :: x5 :: x6 :: x7 :: r) [7] = (x0 :: x1 :: x2 :: x3 :: x4 :: x5 :: x6 :: none :: r) := nr rfl
theorem wp_8 {x0 x1 x2 x3 x4 x5 x6 x7 x8 : Option D} {r : Env} : wp0 (x0 :: x1 :: x2 :: x3 :: x4 :: x5 :: x6 :: x7 :: x8 :: r) [8] = (x0 :: x1 :: x2 :: x3 :: x4 :: x5 :: x6 :: x7 :: none :: r) := nr rfl
theorem wp_9 {x0 x1 x2 x3 x4 x5 x6 x7 x8 x9 : Option D} {r : Env} : wp0 (x0 :: x1 :: x2 :: x3 :: x4 :: x5 :: x6 :: x7 :: x8 :: x9 :: r) [9] = (x0 :: x1 :: x2 :: x3 :: x4 :: x5 :: x6 :: x7 :: x8 :: none :: r) := nr rfl
theorem wp_10 {x0 x1 x2 x3 x4 x5 x6 x7 x8 x9 x10 : Option D} {r : Env} : wp0 (x0 :: x1 :: x2 :: x3 :: x4 :: x5 :: x6 :: x7 :: x8 :: x9 :: x10 :: r) [10] = (x0 :: x1 :: x2 :: x3 :: x4 :: x5 :: x6 :: x7 :: x8 :: x9 :: none :: r) := nr rfl
theorem wp_11 {x0 x1 x2 x3 x4 x5 x6 x7 x8 x9 x10 x11 : Option D} {r : Env} : wp0 (x0 :: x1 :: x2 :: x3 :: x4 :: x5 :: x6 :: x7 :: x8 :: x9 :: x10 :: x11 :: r) [11] = (x0 :: x1 :: x2 :: x3 :: x4 :: x5 :: x6 :: x7 :: x8 :: x9 :: x10 :: none :: r) := nr rfl
theorem wp_12 {x0 x1 x2 x3 x4 x5 x6 x7 x8 x9 x10 x11 x12 : Option D} {r : Env} : wp0 (x0 :: x1 :: x2 :: x3 :: x4 :: x5 :: x6 :: x7 :: x8 :: x9 :: x10 :: x11 :: x12 :: r) [12] = (x0 :: x1 :: x2 :: x3 :: x4 :: x5 :: x6 :: x7 :: x8 :: x9 :: x10 :: x11 :: none :: r) := nr rfl
theorem wp_13 {x0 x1 x2 x3 x4 x5 x6 x7 x8 x9 x10 x11 x12 x13 : Option D} {r : Env} : wp0 (x0 :: x1 :: x2 :: x3 :: x4 :: x5 :: x6 :: x7 :: x8 :: x9 :: x10 :: x11 :: x12 :: x13 :: r) [13] = (x0 :: x1 :: x2 :: x3 :: x4 :: x5 :: x6 :: x7 :: x8 :: x9 :: x10 :: x11 :: x12 :: none :: r) := nr rfl
theorem wp_14 {x0 x1 x2 x3 x4 x5 x6 x7 x8 x9 x10 x11 x12 x13 x14 : Option D} {r : Env} : wp0 (x0 :: x1 :: x2 :: x3 :: x4 :: x5 :: x6 :: x7 :: x8 :: x9 :: x10 :: x11 :: x12 :: x13 :: x14 :: r) [14] = (x0 :: x1 :: x2 :: x3 :: x4 :: x5 :: x6 :: x7 :: x8 :: x9 :: x10 :: x11 :: x12 :: x13 :: none :: r) := nr rfl
theorem wp_15 {x0 x1 x2 x3 x4 x5 x6 x7 x8 x9 x10 x11 x12 x13 x14 x15 : Option D} {r : Env} : wp0 (x0 :: x1 :: x2 :: x3 :: x4 :: x5 :: x6 :: x7 :: x8 :: x9 :: x10 :: x11 :: x12 :: x13 :: x14 :: x15 :: r) [15] = (x0 :: x1 :: x2 :: x3 :: x4 :: x5 :: x6 :: x7 :: x8 :: x9 :: x10 :: x11 :: x12 :: x13 :: x14 :: none :: r) := nr rfl
theorem wp_16 {x0 x1 x2 x3 x4 x5 x6 x7 x8 x9 x10 x11 x12 x13 x14 x15 x16 : Option D} {r : Env} : wp0 (x0 :: x1 :: x2 :: x3 :: x4 :: x5 :: x6 :: x7 :: x8 :: x9 :: x10 :: x11 :: x12 :: x13 :: x14 :: x15 :: x16 :: r) [16] = (x0 :: x1 :: x2 :: x3 :: x4 :: x5 :: x6 :: x7 :: x8 :: x9 :: x10 :: x11 :: x12 :: x13 :: x14 :: x15 :: none :: r) := nr rfl
theorem wp_17 {x0 x1 x2 x3 x4 x5 x6 x7 x8 x9 x10 x11 x12 x13 x14 x15 x16 x17 : Option D} {r : Env} : wp0 (x0 :: x1 :: x2 :: x3 :: x4 :: x5 :: x6 :: x7 :: x8 :: x9 :: x10 :: x11 :: x12 :: x13 :: x14 :: x15 :: x16 :: x17 :: r) [17] = (x0 :: x1 :: x2 :: x3 :: x4 :: x5 :: x6 :: x7 :: x8 :: x9 :: x10 :: x11 :: x12 :: x13 :: x14 :: x15 :: x16 :: none :: r) := nr rfl
theorem wp_18 {x0 x1 x2 x3 x4 x5 x6 x7 x8 x9 x10 x11 x12 x13 x14 x15 x16 x17 x18 : Option D} {r : Env} : wp0 (x0 :: x1 :: x2 :: x3 :: x4 :: x5 :: x6 :: x7 :: x8 :: x9 :: x10 :: x11 :: x12 :: x13 :: x14 :: x15 :: x16 :: x17 :: x18 :: r) [18] = (x0 :: x1 :: x2 :: x3 :: x4 :: x5 :: x6 :: x7 :: x8 :: x9 :: x10 :: x11 :: x12 :: x13 :: x14 :: x15 :: x16 :: x17 :: none :: r) := nr rfl
theorem wp_19 {x0 x1 x2 x3 x4 x5 x6 x7 x8 x9 x10 x11 x12 x13 x14 x15 x16 x17 x18 x19 : Option D} {r : Env} : wp0 (x0 :: x1 :: x2 :: x3 :: x4 :: x5 :: x6 :: x7 :: x8 :: x9 :: x10 :: x11 :: x12 :: x13 :: x14 :: x15 :: x16 :: x17 :: x18 :: x19 :: r) [19] = (x0 :: x1 :: x2 :: x3 :: x4 :: x5 :: x6 :: x7 :: x8 :: x9 :: x10 :: x11 :: x12 :: x13 :: x14 :: x15 :: x16 :: x17 :: x18 :: none :: r) := nr rfl
theorem wp_20 {x0 x1 x2 x3 x4 x5 x6 x7 x8 x9 x10 x11 x12 x13 x14 x15 x16 x17 x18 x19 x20 : Option D} {r : Env} : wp0 (x0 :: x1 :: x2 :: x3 :: x4 :: x5 :: x6 :: x7 :: x8 :: x9 :: x10 :: x11 :: x12 :: x13 :: x14 :: x15 :: x16 :: x17 :: x18 :: x19 :: x20 :: r) [20] = (x0 :: x1 :: x2 :: x3 :: x4 :: x5 :: x6 :: x7 :: x8 :: x9 :: x10 :: x11 :: x12 :: x13 :: x14 :: x15 :: x16 :: x17 :: x18 :: x19 :: none :: r) := nr rfl
theorem wp_21 {x0 x1 x2 x3 x4 x5 x6 x7 x8 x9 x10 x11 x12 x13 x14 x15 x16 x17 x18 x19 x20 x21 : Option D} {r : Env} : wp0 (x0 :: x1 :: x2 :: x3 :: x4 :: x5 :: x6 :: x7 :: x8 :: x9 :: x10 :: x11 :: x12 :: x13 :: x14 :: x15 :: x16 :: x17 :: x18 :: x19 :: x20 :: x21 :: r) [21] = (x0 :: x1 :: x2 :: x3 :: x4 :: x5 :: x6 :: x7 :: x8 :: x9 :: x10 :: x11 :: x12 :: x13 :: x14 :: x15 :: x16 :: x17 :: x18 :: x19 :: x20 :: none :: r) := nr rfl
theorem wp_22 {x0 x1 x2 x3 x4 x5 x6 x7 x8 x9 x10 x11 x12 x13 x14 x15 x16 x17 x18 x19 x20 x21 x22 : Option D} {r : Env} : wp0 (x0 :: x1 :: x2 :: x3 :: x4 :: x5 :: x6 :: x7 :: x8 :: x9 :: x10 :: x11 :: x12 :: x13 :: x14 :: x15 :: x16 :: x17 :: x18 :: x19 :: x20 :: x21 :: x22 :: r) [22] = (x0 :: x1 :: x2 :: x3 :: x4 :: x5 :: x6 :: x7 :: x8 :: x9 :: x10 :: x11 :: x12 :: x13 :: x14 :: x15 :: x16 :: x17 :: x18 :: x19 :: x20 :: x21 :: none :: r) := nr rfl
theorem wp_23 {x0 x1 x2 x3 x4 x5 x6 x7 x8 x9 x10 x11 x12 x13 x14 x15 x16 x17 x18 x19 x20 x21 x22 x23 : Option D} {r : Env} : wp0 (x0 :: x1 :: x2 :: x3 :: x4 :: x5 :: x6 :: x7 :: x8 :: x9 :: x10 :: x11 :: x12 :: x13 :: x14 :: x15 :: x16 :: x17 :: x18 :: x19 :: x20 :: x21 :: x22 :: x23 :: r) [23] = (x0 :: x1 :: x2 :: x3 :: x4 :: x5 :: x6 :: x7 :: x8 :: x9 :: x10 :: x11 :: x12 :: x13 :: x14 :: x15 :: x16 :: x17 :: x18 :: x19 :: x20 :: x21 :: x22 :: none :: r) := nr rfl
theorem rng_1  : rngI 0 ((1 : Int)).toNat = ([.int 0]) := nr rfl
theorem rng_2  : rngI 0 ((2 : Int)).toNat = ([.int 0, .int 1]) := nr rfl
theorem rng_3  : rngI 0 ((3 : Int)).toNat = ([.int 0, .int 1, .int 2]) := nr rfl
theorem rng_4  : rngI 0 ((4 : Int)).toNat = ([.int 0, .int 1, .int 2, .int 3]) := nr rfl
theorem rng_5  : rngI 0 ((5 : Int)).toNat = ([.int 0, .int 1, .int 2, .int 3, .int 4]) := nr rfl
theorem rng_6  : rngI 0 ((6 : Int)).toNat = ([.int 0, .int 1, .int 2, .int 3, .int 4, .int 5]) := nr rfl
theorem rng_7  : rngI 0 ((7 : Int)).toNat = ([.int 0, .int 1, .int 2, .int 3, .int 4, .int 5, .int 6]) := nr rfl
theorem fc_cons {one : D → Store → (List D → Store → Prop) → Prop} {x : D} {xs : List D} {k : List D → Store → Prop} : forC none one (x :: xs) S k = (one x S fun ys S1 => forC none one xs S1 fun zs S2 => k (ys ++ zs) S2) := nr rfl
theorem fc_nil {one : D → Store → (List D → Store → Prop) → Prop} {k : List D → Store → Prop} : forC none one [] S k = (k [] S) := nr rfl
theorem brkT {p q : Prop} : brk true p q = (p) := nr rfl
theorem brkF {p q : Prop} : brk false p q = (q) := nr rfl
end
end FV
set_option Elab.async false
set_option linter.all false
set_option maxRecDepth 100000
/-! Lb: loops; what the small defs do. -/
namespace FV
theorem brk_bl {b c : Bool} {S : Store} {k : D → Store → Prop} (h : k (.bl (b && c)) S) : brk b (k (.bl c) S) (k (.bl false) S) := by cases b <;> exact h
/-! ### loops -/
theorem forC_ints {one : D → Store → (List D → Store → Prop) → Prop} {f : Int → D} : ∀ {ns : List Int} {S : Store} {k : List D → Store → Prop}, (∀ i ∈ ns, ∀ k2 : List D → Store → Prop, k2 [f i] S → one (.int i) S k2) → k (ns.map f) S → forC none one (ns.map D.int) S k
  | [], S, k, _, h => h
  | i :: ns, S, k, w, h => w i List.mem_cons_self _ (forC_ints (fun j hj => w j (List.mem_cons_of_mem _ hj)) h)
theorem forC_filt {one : D → Store → (List D → Store → Prop) → Prop} {f : Int → D} {p : Int → Bool} : ∀ {ns : List Int} {S : Store} {k : List D → Store → Prop}, (∀ i ∈ ns, ∀ k2 : List D → Store → Prop, k2 (if p i = true then [f i] else []) S → one (.int i) S k2) → k ((ns.filter p).map f) S → forC none one (ns.map D.int) S k
  | [], S, k, _, h => h
  | i :: ns, S, k, w, h => w i List.mem_cons_self _ (forC_filt (fun j hj => w j (List.mem_cons_of_mem _ hj)) (by
      rw [List.filter_cons] at h
      cases e : p i with
      | true => rw [e] at h; exact h
      | false => rw [e] at h; exact h))
theorem forW_inv {body : Env → Store → Ends → Prop} {p : Pt} {N : Ends} {I : List D → Env → Store → Prop} : ∀ {ds : List D} {σ : Env} {S : Store}, I ds σ S →
    (∀ x xs σ S, I (x :: xs) σ S → ∃ σ', bindP p x σ = some σ' ∧ ∀ k : Env → Store → Prop, (∀ σ2 S2, I xs σ2 S2 → k σ2 S2) → body σ' S { N with nx := k, ct := k, bk := N.nx }) → (∀ σ S, I [] σ S → N.nx σ S) → forW none body p N ds σ S
  | [], σ, S, h0, _, h => h σ S h0
  | x :: xs, σ, S, h0, w, h => by
    obtain ⟨σ', e, w1⟩ := w x xs σ S h0
    show (match bindP p x σ with
      | some σ' => body σ' S { N with nx := fun σ2 S2 => forW none body p N xs σ2 S2, ct := fun σ2 S2 => forW none body p N xs σ2 S2, bk := N.nx }
      | none => False)
    rw [e]
    exact w1 _ fun σ2 S2 h2 => forW_inv h2 w h
section
variable {n : Nat} {S : Store} {k X : D → Store → Prop}
theorem s_is_whole {i : Int} (h : k (.bl true) S) : CT (n + 1) i_is_whole [.int i] S k X := c_is_whole h
theorem s_is_tuple_up_to {ds : List D} {a b : Int} (h : k (.bl (decide (a ≤ ds.length) && decide ((ds.length : Int) ≤ b))) S) : CT (n + 1) i_is_tuple_up_to [.tup ds, .int a, .int b] S k X := by
  refine c_is_tuple_up_to ?_
  simp only [f_is_tuple_up_to, ↓ev_v0, ↓ev_v1, ↓ev_v2, ↓ev_v3, ↓ev_v4, ↓ev_v5, ↓ev_v6, ↓ev_v7, ↓ev_v8, ↓ev_v9, ↓ev_v10, ↓ev_v11, ↓ev_v12, ↓ev_v13, ↓ev_v14, ↓ev_v15, ↓ev_v16, ↓ev_v17, ↓ev_v18, ↓ev_v19, ↓ev_v20, ↓ev_v21, ↓ev_v22, ↓ev_v23, ↓ev_cst, ↓ev_glb, ↓ev_bin, ↓ev_neg, ↓ev_not, ↓ev_cmp, ↓ev_cmp2, ↓ev_and, ↓ev_or, ↓ev_ite, ↓ev_tup, ↓ev_lst, ↓ev_idx, ↓ev_slc, ↓ev_call, ↓ev_callk, ↓ev_bi, ↓ev_isi, ↓ev_isi2, ↓ev_lc, ↓ev_lc2, ↓ev_tcat, ↓ev_rng, ↓ev_rng1, ↓ev_zip, ↓ev_enm, ↓ev_cnt, ↓ev_nset, ↓ev_isn, ↓ev_rev, ↓ev_app, ↓evs_nil, ↓evs_cons, ↓evss_nil, ↓evss_f, ↓evss_t, ↓spr_tup, ↓spr_lst, ↓spr_frz, ↓spr_ti, ↓evo_n, ↓evo_s, ↓evt_n, ↓evt_s, ↓ex_set, ↓ex_par, ↓ex_expr, ↓ex_ret, ↓ex_retN, ↓ex_iff, ↓ex_for, ↓ex_whl, ↓ex_raise, ↓ex_pass, ↓ex_brk, ↓ex_cont, ↓exs_nil, ↓exs_cons, ↓tvf, ↓tvt, ↓asB_bl, ↓asI_i, ↓bop_add, ↓bop_sub, ↓bop_mul, ↓bop_fdv, ↓bop_mod, ↓bop_pow, ↓bop_tt, ↓bop_ll, ↓bop_lm, ↓cop_eq, ↓cop_ne, ↓cop_lt, ↓cop_le, ↓cop_gt, ↓cop_ge, ↓cop_eq_rep, ↓cop_ne_rep, ↓cop_eq_tup, ↓cop_ne_tup, ↓cop_eq_lst, ↓cop_ne_lst, ↓cop_eq_str, ↓cop_ne_str, ↓cop_eq_bl, ↓cop_ne_bl, ↓cop_eq_non, ↓cop_ne_non, ↓cop_is_n, ↓cop_is_b, ↓cop_isnot_n, ↓cop_isnot_b, ↓cop_isin_lst, ↓cop_isin_tup, ↓cop_notin_lst, ↓cop_notin_tup, ↓tru_non, ↓tru_bl, ↓tru_int, ↓tru_tup, ↓tru_lst, ↓seq_tup, ↓itm_tup, ↓seq_lst, ↓itm_lst, ↓seq_frz, ↓itm_frz, ↓itm_itr, ↓seq_ref, ↓itm_ref, ↓seq_ti, ↓itm_ti, ↓onO_s, ↓nth_0, ↓nth_1, ↓nth_2, ↓nth_3, ↓nth_4, ↓nth_5, ↓nth_6, ↓nth_7, ↓nth_8, ↓nth_9, ↓nth_10, ↓nth_11, ↓nth_12, ↓bf_len, ↓bf_abs, ↓bf_max, ↓bf_min, ↓bf_int, ↓bf_intb, ↓bf_dm, ↓bf_gcd, ↓bf_all, ↓bf_any, ↓bf_sum, ↓bf_tup, ↓bf_repl, ↓bf_rept, ↓bf_lst, ↓asg_nm, ↓asg_tp, ↓asg_ls, ↓asg_sub, ↓asg_tg, ↓asg_ti, ↓asgs_nil, ↓asgs_cons, ↓mk_f, ↓mk_t, ↓setn_l, ↓setn_r, ↓isn_lst_true, ↓isn_lst_false, ↓isn_tup_true, ↓isn_tup_false, ↓isn_ref_true, ↓isn_ref_false, ↓cnt_t, ↓rev_t, ↓rev_l, ↓rev_ti, ↓onRef_r, ↓two_tt, ↓two_ll, ↓two_ti, ↓still_t, ↓still_ti, ↓still_l, ↓cut_tup, ↓cut_lst, ↓cut_frz, ↓cut_ti, ↓bop_titi, ↓cop_eq_ti, ↓cop_ne_ti, non_non, non_int, ty_int_int, ty_bool_int, ty_str_int, ty_tup_int, ty_lst_int, ty_dict_int, non_bl, ty_int_bl, ty_bool_bl, ty_str_bl, ty_tup_bl, ty_lst_bl, ty_dict_bl, non_str, ty_int_str, ty_bool_str, ty_str_str, ty_tup_str, ty_lst_str, ty_dict_str, non_tup, ty_int_tup, ty_bool_tup, ty_str_tup, ty_tup_tup, ty_lst_tup, ty_dict_tup, non_lst, ty_int_lst, ty_bool_lst, ty_str_lst, ty_tup_lst, ty_lst_lst, ty_dict_lst, ty_int_non, ty_int_ti, ty_bool_non, ty_bool_ti, ty_str_non, ty_str_ti, ty_tup_non, ty_tup_ti, ty_lst_non, ty_lst_ti, ty_dict_non, ty_dict_ti, ta_tup, ta_lst, ta_ti, ta_int, ta_bl, ta_str, ta_non, st_0, st_1, st_2, st_3, st_4, st_5, st_6, st_7, st_8, st_9, st_10, st_11, st_12, st_13, st_14, st_15, st_16, st_17, st_18, st_19, st_20, st_21, st_22, st_23, bp_nm, bp_tp, bp_ls, bp_ti, bps_nil, bps_nm, sts_nil, sts_cons, wp0_nil, wp_0, wp_1, wp_2, wp_3, wp_4, wp_5, wp_6, wp_7, wp_8, wp_9, wp_10, wp_11, wp_12, wp_13, wp_14, wp_15, wp_16, wp_17, wp_18, wp_19, wp_20, wp_21, wp_22, wp_23, rng_1, rng_2, rng_3, rng_4, rng_5, rng_6, rng_7, brkT, brkF, ti1, ti2, ti3, ti4, ti5, ti6, ti_map, eq_ti, pick, List.cons_append, List.nil_append, List.map_cons, List.map_nil, List.getD_cons_zero, List.getD_cons_succ, Bool.not_true, Bool.not_false]
  exact brk_bl h
theorem s_is_tuple_of {ds : List D} {a : Int} (h : k (.bl (decide ((ds.length : Int) = a))) S) : CT (n + 2) i_is_tuple_of [.tup ds, .int a] S k X := by
  refine c_is_tuple_of ?_
  simp only [f_is_tuple_of, ↓ev_v0, ↓ev_v1, ↓ev_v2, ↓ev_v3, ↓ev_v4, ↓ev_v5, ↓ev_v6, ↓ev_v7, ↓ev_v8, ↓ev_v9, ↓ev_v10, ↓ev_v11, ↓ev_v12, ↓ev_v13, ↓ev_v14, ↓ev_v15, ↓ev_v16, ↓ev_v17, ↓ev_v18, ↓ev_v19, ↓ev_v20, ↓ev_v21, ↓ev_v22, ↓ev_v23, ↓ev_cst, ↓ev_glb, ↓ev_bin, ↓ev_neg, ↓ev_not, ↓ev_cmp, ↓ev_cmp2, ↓ev_and, ↓ev_or, ↓ev_ite, ↓ev_tup, ↓ev_lst, ↓ev_idx, ↓ev_slc, ↓ev_call, ↓ev_callk, ↓ev_bi, ↓ev_isi, ↓ev_isi2, ↓ev_lc, ↓ev_lc2, ↓ev_tcat, ↓ev_rng, ↓ev_rng1, ↓ev_zip, ↓ev_enm, ↓ev_cnt, ↓ev_nset, ↓ev_isn, ↓ev_rev, ↓ev_app, ↓evs_nil, ↓evs_cons, ↓evss_nil, ↓evss_f, ↓evss_t, ↓spr_tup, ↓spr_lst, ↓spr_frz, ↓spr_ti, ↓evo_n, ↓evo_s, ↓evt_n, ↓evt_s, ↓ex_set, ↓ex_par, ↓ex_expr, ↓ex_ret, ↓ex_retN, ↓ex_iff, ↓ex_for, ↓ex_whl, ↓ex_raise, ↓ex_pass, ↓ex_brk, ↓ex_cont, ↓exs_nil, ↓exs_cons, ↓tvf, ↓tvt, ↓asB_bl, ↓asI_i, ↓bop_add, ↓bop_sub, ↓bop_mul, ↓bop_fdv, ↓bop_mod, ↓bop_pow, ↓bop_tt, ↓bop_ll, ↓bop_lm, ↓cop_eq, ↓cop_ne, ↓cop_lt, ↓cop_le, ↓cop_gt, ↓cop_ge, ↓cop_eq_rep, ↓cop_ne_rep, ↓cop_eq_tup, ↓cop_ne_tup, ↓cop_eq_lst, ↓cop_ne_lst, ↓cop_eq_str, ↓cop_ne_str, ↓cop_eq_bl, ↓cop_ne_bl, ↓cop_eq_non, ↓cop_ne_non, ↓cop_is_n, ↓cop_is_b, ↓cop_isnot_n, ↓cop_isnot_b, ↓cop_isin_lst, ↓cop_isin_tup, ↓cop_notin_lst, ↓cop_notin_tup, ↓tru_non, ↓tru_bl, ↓tru_int, ↓tru_tup, ↓tru_lst, ↓seq_tup, ↓itm_tup, ↓seq_lst, ↓itm_lst, ↓seq_frz, ↓itm_frz, ↓itm_itr, ↓seq_ref, ↓itm_ref, ↓seq_ti, ↓itm_ti, ↓onO_s, ↓nth_0, ↓nth_1, ↓nth_2, ↓nth_3, ↓nth_4, ↓nth_5, ↓nth_6, ↓nth_7, ↓nth_8, ↓nth_9, ↓nth_10, ↓nth_11, ↓nth_12, ↓bf_len, ↓bf_abs, ↓bf_max, ↓bf_min, ↓bf_int, ↓bf_intb, ↓bf_dm, ↓bf_gcd, ↓bf_all, ↓bf_any, ↓bf_sum, ↓bf_tup, ↓bf_repl, ↓bf_rept, ↓bf_lst, ↓asg_nm, ↓asg_tp, ↓asg_ls, ↓asg_sub, ↓asg_tg, ↓asg_ti, ↓asgs_nil, ↓asgs_cons, ↓mk_f, ↓mk_t, ↓setn_l, ↓setn_r, ↓isn_lst_true, ↓isn_lst_false, ↓isn_tup_true, ↓isn_tup_false, ↓isn_ref_true, ↓isn_ref_false, ↓cnt_t, ↓rev_t, ↓rev_l, ↓rev_ti, ↓onRef_r, ↓two_tt, ↓two_ll, ↓two_ti, ↓still_t, ↓still_ti, ↓still_l, ↓cut_tup, ↓cut_lst, ↓cut_frz, ↓cut_ti, ↓bop_titi, ↓cop_eq_ti, ↓cop_ne_ti, non_non, non_int, ty_int_int, ty_bool_int, ty_str_int, ty_tup_int, ty_lst_int, ty_dict_int, non_bl, ty_int_bl, ty_bool_bl, ty_str_bl, ty_tup_bl, ty_lst_bl, ty_dict_bl, non_str, ty_int_str, ty_bool_str, ty_str_str, ty_tup_str, ty_lst_str, ty_dict_str, non_tup, ty_int_tup, ty_bool_tup, ty_str_tup, ty_tup_tup, ty_lst_tup, ty_dict_tup, non_lst, ty_int_lst, ty_bool_lst, ty_str_lst, ty_tup_lst, ty_lst_lst, ty_dict_lst, ty_int_non, ty_int_ti, ty_bool_non, ty_bool_ti, ty_str_non, ty_str_ti, ty_tup_non, ty_tup_ti, ty_lst_non, ty_lst_ti, ty_dict_non, ty_dict_ti, ta_tup, ta_lst, ta_ti, ta_int, ta_bl, ta_str, ta_non, st_0, st_1, st_2, st_3, st_4, st_5, st_6, st_7, st_8, st_9, st_10, st_11, st_12, st_13, st_14, st_15, st_16, st_17, st_18, st_19, st_20, st_21, st_22, st_23, bp_nm, bp_tp, bp_ls, bp_ti, bps_nil, bps_nm, sts_nil, sts_cons, wp0_nil, wp_0, wp_1, wp_2, wp_3, wp_4, wp_5, wp_6, wp_7, wp_8, wp_9, wp_10, wp_11, wp_12, wp_13, wp_14, wp_15, wp_16, wp_17, wp_18, wp_19, wp_20, wp_21, wp_22, wp_23, rng_1, rng_2, rng_3, rng_4, rng_5, rng_6, rng_7, brkT, brkF, ti1, ti2, ti3, ti4, ti5, ti6, ti_map, eq_ti, pick, List.cons_append, List.nil_append, List.map_cons, List.map_nil, List.getD_cons_zero, List.getD_cons_succ, Bool.not_true, Bool.not_false]
  refine s_is_tuple_up_to ?_
  have e : (decide (a ≤ ds.length) && decide ((ds.length : Int) ≤ a)) = decide ((ds.length : Int) = a) := by
    by_cases q : (ds.length : Int) = a
    · simp [q]
    · simp only [q, decide_false]; simp; omega
  rw [e]
  exact h
theorem all_true : ∀ {ns : List Int}, bls? (ns.map fun _ => D.bl true) = some (ns.map fun _ => true)
  | [] => rfl
  | _ :: ns => by simp only [List.map_cons, bls?, all_true, Option.map_some]
theorem s_are_whole {ns : List Int} {a : Int} (hz : ns.length ≤ SZ) (h : k (.bl (decide ((ns.length : Int) = a))) S) : CT (n + 3) i_are_whole [ti ns, .int a] S k X := by
  refine c_are_whole ?_
  simp only [f_are_whole, ↓ev_v0, ↓ev_v1, ↓ev_v2, ↓ev_v3, ↓ev_v4, ↓ev_v5, ↓ev_v6, ↓ev_v7, ↓ev_v8, ↓ev_v9, ↓ev_v10, ↓ev_v11, ↓ev_v12, ↓ev_v13, ↓ev_v14, ↓ev_v15, ↓ev_v16, ↓ev_v17, ↓ev_v18, ↓ev_v19, ↓ev_v20, ↓ev_v21, ↓ev_v22, ↓ev_v23, ↓ev_cst, ↓ev_glb, ↓ev_bin, ↓ev_neg, ↓ev_not, ↓ev_cmp, ↓ev_cmp2, ↓ev_and, ↓ev_or, ↓ev_ite, ↓ev_tup, ↓ev_lst, ↓ev_idx, ↓ev_slc, ↓ev_call, ↓ev_callk, ↓ev_bi, ↓ev_isi, ↓ev_isi2, ↓ev_lc, ↓ev_lc2, ↓ev_tcat, ↓ev_rng, ↓ev_rng1, ↓ev_zip, ↓ev_enm, ↓ev_cnt, ↓ev_nset, ↓ev_isn, ↓ev_rev, ↓ev_app, ↓evs_nil, ↓evs_cons, ↓evss_nil, ↓evss_f, ↓evss_t, ↓spr_tup, ↓spr_lst, ↓spr_frz, ↓spr_ti, ↓evo_n, ↓evo_s, ↓evt_n, ↓evt_s, ↓ex_set, ↓ex_par, ↓ex_expr, ↓ex_ret, ↓ex_retN, ↓ex_iff, ↓ex_for, ↓ex_whl, ↓ex_raise, ↓ex_pass, ↓ex_brk, ↓ex_cont, ↓exs_nil, ↓exs_cons, ↓tvf, ↓tvt, ↓asB_bl, ↓asI_i, ↓bop_add, ↓bop_sub, ↓bop_mul, ↓bop_fdv, ↓bop_mod, ↓bop_pow, ↓bop_tt, ↓bop_ll, ↓bop_lm, ↓cop_eq, ↓cop_ne, ↓cop_lt, ↓cop_le, ↓cop_gt, ↓cop_ge, ↓cop_eq_rep, ↓cop_ne_rep, ↓cop_eq_tup, ↓cop_ne_tup, ↓cop_eq_lst, ↓cop_ne_lst, ↓cop_eq_str, ↓cop_ne_str, ↓cop_eq_bl, ↓cop_ne_bl, ↓cop_eq_non, ↓cop_ne_non, ↓cop_is_n, ↓cop_is_b, ↓cop_isnot_n, ↓cop_isnot_b, ↓cop_isin_lst, ↓cop_isin_tup, ↓cop_notin_lst, ↓cop_notin_tup, ↓tru_non, ↓tru_bl, ↓tru_int, ↓tru_tup, ↓tru_lst, ↓seq_tup, ↓itm_tup, ↓seq_lst, ↓itm_lst, ↓seq_frz, ↓itm_frz, ↓itm_itr, ↓seq_ref, ↓itm_ref, ↓seq_ti, ↓itm_ti, ↓onO_s, ↓nth_0, ↓nth_1, ↓nth_2, ↓nth_3, ↓nth_4, ↓nth_5, ↓nth_6, ↓nth_7, ↓nth_8, ↓nth_9, ↓nth_10, ↓nth_11, ↓nth_12, ↓bf_len, ↓bf_abs, ↓bf_max, ↓bf_min, ↓bf_int, ↓bf_intb, ↓bf_dm, ↓bf_gcd, ↓bf_all, ↓bf_any, ↓bf_sum, ↓bf_tup, ↓bf_repl, ↓bf_rept, ↓bf_lst, ↓asg_nm, ↓asg_tp, ↓asg_ls, ↓asg_sub, ↓asg_tg, ↓asg_ti, ↓asgs_nil, ↓asgs_cons, ↓mk_f, ↓mk_t, ↓setn_l, ↓setn_r, ↓isn_lst_true, ↓isn_lst_false, ↓isn_tup_true, ↓isn_tup_false, ↓isn_ref_true, ↓isn_ref_false, ↓cnt_t, ↓rev_t, ↓rev_l, ↓rev_ti, ↓onRef_r, ↓two_tt, ↓two_ll, ↓two_ti, ↓still_t, ↓still_ti, ↓still_l, ↓cut_tup, ↓cut_lst, ↓cut_frz, ↓cut_ti, ↓bop_titi, ↓cop_eq_ti, ↓cop_ne_ti, non_non, non_int, ty_int_int, ty_bool_int, ty_str_int, ty_tup_int, ty_lst_int, ty_dict_int, non_bl, ty_int_bl, ty_bool_bl, ty_str_bl, ty_tup_bl, ty_lst_bl, ty_dict_bl, non_str, ty_int_str, ty_bool_str, ty_str_str, ty_tup_str, ty_lst_str, ty_dict_str, non_tup, ty_int_tup, ty_bool_tup, ty_str_tup, ty_tup_tup, ty_lst_tup, ty_dict_tup, non_lst, ty_int_lst, ty_bool_lst, ty_str_lst, ty_tup_lst, ty_lst_lst, ty_dict_lst, ty_int_non, ty_int_ti, ty_bool_non, ty_bool_ti, ty_str_non, ty_str_ti, ty_tup_non, ty_tup_ti, ty_lst_non, ty_lst_ti, ty_dict_non, ty_dict_ti, ta_tup, ta_lst, ta_ti, ta_int, ta_bl, ta_str, ta_non, st_0, st_1, st_2, st_3, st_4, st_5, st_6, st_7, st_8, st_9, st_10, st_11, st_12, st_13, st_14, st_15, st_16, st_17, st_18, st_19, st_20, st_21, st_22, st_23, bp_nm, bp_tp, bp_ls, bp_ti, bps_nil, bps_nm, sts_nil, sts_cons, wp0_nil, wp_0, wp_1, wp_2, wp_3, wp_4, wp_5, wp_6, wp_7, wp_8, wp_9, wp_10, wp_11, wp_12, wp_13, wp_14, wp_15, wp_16, wp_17, wp_18, wp_19, wp_20, wp_21, wp_22, wp_23, rng_1, rng_2, rng_3, rng_4, rng_5, rng_6, rng_7, brkT, brkF, ti1, ti2, ti3, ti4, ti5, ti6, ti_map, eq_ti, pick, List.cons_append, List.nil_append, List.map_cons, List.map_nil, List.getD_cons_zero, List.getD_cons_succ, Bool.not_true, Bool.not_false]
  refine s_is_tuple_of ?_
  rw [List.length_map]
  by_cases q : (ns.length : Int) = a
  · simp only [q, decide_true, ↓ev_v0, ↓ev_v1, ↓ev_v2, ↓ev_v3, ↓ev_v4, ↓ev_v5, ↓ev_v6, ↓ev_v7, ↓ev_v8, ↓ev_v9, ↓ev_v10, ↓ev_v11, ↓ev_v12, ↓ev_v13, ↓ev_v14, ↓ev_v15, ↓ev_v16, ↓ev_v17, ↓ev_v18, ↓ev_v19, ↓ev_v20, ↓ev_v21, ↓ev_v22, ↓ev_v23, ↓ev_cst, ↓ev_glb, ↓ev_bin, ↓ev_neg, ↓ev_not, ↓ev_cmp, ↓ev_cmp2, ↓ev_and, ↓ev_or, ↓ev_ite, ↓ev_tup, ↓ev_lst, ↓ev_idx, ↓ev_slc, ↓ev_call, ↓ev_callk, ↓ev_bi, ↓ev_isi, ↓ev_isi2, ↓ev_lc, ↓ev_lc2, ↓ev_tcat, ↓ev_rng, ↓ev_rng1, ↓ev_zip, ↓ev_enm, ↓ev_cnt, ↓ev_nset, ↓ev_isn, ↓ev_rev, ↓ev_app, ↓evs_nil, ↓evs_cons, ↓evss_nil, ↓evss_f, ↓evss_t, ↓spr_tup, ↓spr_lst, ↓spr_frz, ↓spr_ti, ↓evo_n, ↓evo_s, ↓evt_n, ↓evt_s, ↓ex_set, ↓ex_par, ↓ex_expr, ↓ex_ret, ↓ex_retN, ↓ex_iff, ↓ex_for, ↓ex_whl, ↓ex_raise, ↓ex_pass, ↓ex_brk, ↓ex_cont, ↓exs_nil, ↓exs_cons, ↓tvf, ↓tvt, ↓asB_bl, ↓asI_i, ↓bop_add, ↓bop_sub, ↓bop_mul, ↓bop_fdv, ↓bop_mod, ↓bop_pow, ↓bop_tt, ↓bop_ll, ↓bop_lm, ↓cop_eq, ↓cop_ne, ↓cop_lt, ↓cop_le, ↓cop_gt, ↓cop_ge, ↓cop_eq_rep, ↓cop_ne_rep, ↓cop_eq_tup, ↓cop_ne_tup, ↓cop_eq_lst, ↓cop_ne_lst, ↓cop_eq_str, ↓cop_ne_str, ↓cop_eq_bl, ↓cop_ne_bl, ↓cop_eq_non, ↓cop_ne_non, ↓cop_is_n, ↓cop_is_b, ↓cop_isnot_n, ↓cop_isnot_b, ↓cop_isin_lst, ↓cop_isin_tup, ↓cop_notin_lst, ↓cop_notin_tup, ↓tru_non, ↓tru_bl, ↓tru_int, ↓tru_tup, ↓tru_lst, ↓seq_tup, ↓itm_tup, ↓seq_lst, ↓itm_lst, ↓seq_frz, ↓itm_frz, ↓itm_itr, ↓seq_ref, ↓itm_ref, ↓seq_ti, ↓itm_ti, ↓onO_s, ↓nth_0, ↓nth_1, ↓nth_2, ↓nth_3, ↓nth_4, ↓nth_5, ↓nth_6, ↓nth_7, ↓nth_8, ↓nth_9, ↓nth_10, ↓nth_11, ↓nth_12, ↓bf_len, ↓bf_abs, ↓bf_max, ↓bf_min, ↓bf_int, ↓bf_intb, ↓bf_dm, ↓bf_gcd, ↓bf_all, ↓bf_any, ↓bf_sum, ↓bf_tup, ↓bf_repl, ↓bf_rept, ↓bf_lst, ↓asg_nm, ↓asg_tp, ↓asg_ls, ↓asg_sub, ↓asg_tg, ↓asg_ti, ↓asgs_nil, ↓asgs_cons, ↓mk_f, ↓mk_t, ↓setn_l, ↓setn_r, ↓isn_lst_true, ↓isn_lst_false, ↓isn_tup_true, ↓isn_tup_false, ↓isn_ref_true, ↓isn_ref_false, ↓cnt_t, ↓rev_t, ↓rev_l, ↓rev_ti, ↓onRef_r, ↓two_tt, ↓two_ll, ↓two_ti, ↓still_t, ↓still_ti, ↓still_l, ↓cut_tup, ↓cut_lst, ↓cut_frz, ↓cut_ti, ↓bop_titi, ↓cop_eq_ti, ↓cop_ne_ti, non_non, non_int, ty_int_int, ty_bool_int, ty_str_int, ty_tup_int, ty_lst_int, ty_dict_int, non_bl, ty_int_bl, ty_bool_bl, ty_str_bl, ty_tup_bl, ty_lst_bl, ty_dict_bl, non_str, ty_int_str, ty_bool_str, ty_str_str, ty_tup_str, ty_lst_str, ty_dict_str, non_tup, ty_int_tup, ty_bool_tup, ty_str_tup, ty_tup_tup, ty_lst_tup, ty_dict_tup, non_lst, ty_int_lst, ty_bool_lst, ty_str_lst, ty_tup_lst, ty_lst_lst, ty_dict_lst, ty_int_non, ty_int_ti, ty_bool_non, ty_bool_ti, ty_str_non, ty_str_ti, ty_tup_non, ty_tup_ti, ty_lst_non, ty_lst_ti, ty_dict_non, ty_dict_ti, ta_tup, ta_lst, ta_ti, ta_int, ta_bl, ta_str, ta_non, st_0, st_1, st_2, st_3, st_4, st_5, st_6, st_7, st_8, st_9, st_10, st_11, st_12, st_13, st_14, st_15, st_16, st_17, st_18, st_19, st_20, st_21, st_22, st_23, bp_nm, bp_tp, bp_ls, bp_ti, bps_nil, bps_nm, sts_nil, sts_cons, wp0_nil, wp_0, wp_1, wp_2, wp_3, wp_4, wp_5, wp_6, wp_7, wp_8, wp_9, wp_10, wp_11, wp_12, wp_13, wp_14, wp_15, wp_16, wp_17, wp_18, wp_19, wp_20, wp_21, wp_22, wp_23, rng_1, rng_2, rng_3, rng_4, rng_5, rng_6, rng_7, brkT, brkF, ti1, ti2, ti3, ti4, ti5, ti6, ti_map, eq_ti, pick, List.cons_append, List.nil_append, List.map_cons, List.map_nil, List.getD_cons_zero, List.getD_cons_succ, Bool.not_true, Bool.not_false] at h ⊢
    refine ⟨by simpa using hz, forC_ints (f := fun _ => .bl true) (fun i hi k2 h2 => ?_) ?_⟩
    · simp only [lc_app', ↓ev_v0, ↓ev_v1, ↓ev_v2, ↓ev_v3, ↓ev_v4, ↓ev_v5, ↓ev_v6, ↓ev_v7, ↓ev_v8, ↓ev_v9, ↓ev_v10, ↓ev_v11, ↓ev_v12, ↓ev_v13, ↓ev_v14, ↓ev_v15, ↓ev_v16, ↓ev_v17, ↓ev_v18, ↓ev_v19, ↓ev_v20, ↓ev_v21, ↓ev_v22, ↓ev_v23, ↓ev_cst, ↓ev_glb, ↓ev_bin, ↓ev_neg, ↓ev_not, ↓ev_cmp, ↓ev_cmp2, ↓ev_and, ↓ev_or, ↓ev_ite, ↓ev_tup, ↓ev_lst, ↓ev_idx, ↓ev_slc, ↓ev_call, ↓ev_callk, ↓ev_bi, ↓ev_isi, ↓ev_isi2, ↓ev_lc, ↓ev_lc2, ↓ev_tcat, ↓ev_rng, ↓ev_rng1, ↓ev_zip, ↓ev_enm, ↓ev_cnt, ↓ev_nset, ↓ev_isn, ↓ev_rev, ↓ev_app, ↓evs_nil, ↓evs_cons, ↓evss_nil, ↓evss_f, ↓evss_t, ↓spr_tup, ↓spr_lst, ↓spr_frz, ↓spr_ti, ↓evo_n, ↓evo_s, ↓evt_n, ↓evt_s, ↓ex_set, ↓ex_par, ↓ex_expr, ↓ex_ret, ↓ex_retN, ↓ex_iff, ↓ex_for, ↓ex_whl, ↓ex_raise, ↓ex_pass, ↓ex_brk, ↓ex_cont, ↓exs_nil, ↓exs_cons, ↓tvf, ↓tvt, ↓asB_bl, ↓asI_i, ↓bop_add, ↓bop_sub, ↓bop_mul, ↓bop_fdv, ↓bop_mod, ↓bop_pow, ↓bop_tt, ↓bop_ll, ↓bop_lm, ↓cop_eq, ↓cop_ne, ↓cop_lt, ↓cop_le, ↓cop_gt, ↓cop_ge, ↓cop_eq_rep, ↓cop_ne_rep, ↓cop_eq_tup, ↓cop_ne_tup, ↓cop_eq_lst, ↓cop_ne_lst, ↓cop_eq_str, ↓cop_ne_str, ↓cop_eq_bl, ↓cop_ne_bl, ↓cop_eq_non, ↓cop_ne_non, ↓cop_is_n, ↓cop_is_b, ↓cop_isnot_n, ↓cop_isnot_b, ↓cop_isin_lst, ↓cop_isin_tup, ↓cop_notin_lst, ↓cop_notin_tup, ↓tru_non, ↓tru_bl, ↓tru_int, ↓tru_tup, ↓tru_lst, ↓seq_tup, ↓itm_tup, ↓seq_lst, ↓itm_lst, ↓seq_frz, ↓itm_frz, ↓itm_itr, ↓seq_ref, ↓itm_ref, ↓seq_ti, ↓itm_ti, ↓onO_s, ↓nth_0, ↓nth_1, ↓nth_2, ↓nth_3, ↓nth_4, ↓nth_5, ↓nth_6, ↓nth_7, ↓nth_8, ↓nth_9, ↓nth_10, ↓nth_11, ↓nth_12, ↓bf_len, ↓bf_abs, ↓bf_max, ↓bf_min, ↓bf_int, ↓bf_intb, ↓bf_dm, ↓bf_gcd, ↓bf_all, ↓bf_any, ↓bf_sum, ↓bf_tup, ↓bf_repl, ↓bf_rept, ↓bf_lst, ↓asg_nm, ↓asg_tp, ↓asg_ls, ↓asg_sub, ↓asg_tg, ↓asg_ti, ↓asgs_nil, ↓asgs_cons, ↓mk_f, ↓mk_t, ↓setn_l, ↓setn_r, ↓isn_lst_true, ↓isn_lst_false, ↓isn_tup_true, ↓isn_tup_false, ↓isn_ref_true, ↓isn_ref_false, ↓cnt_t, ↓rev_t, ↓rev_l, ↓rev_ti, ↓onRef_r, ↓two_tt, ↓two_ll, ↓two_ti, ↓still_t, ↓still_ti, ↓still_l, ↓cut_tup, ↓cut_lst, ↓cut_frz, ↓cut_ti, ↓bop_titi, ↓cop_eq_ti, ↓cop_ne_ti, non_non, non_int, ty_int_int, ty_bool_int, ty_str_int, ty_tup_int, ty_lst_int, ty_dict_int, non_bl, ty_int_bl, ty_bool_bl, ty_str_bl, ty_tup_bl, ty_lst_bl, ty_dict_bl, non_str, ty_int_str, ty_bool_str, ty_str_str, ty_tup_str, ty_lst_str, ty_dict_str, non_tup, ty_int_tup, ty_bool_tup, ty_str_tup, ty_tup_tup, ty_lst_tup, ty_dict_tup, non_lst, ty_int_lst, ty_bool_lst, ty_str_lst, ty_tup_lst, ty_lst_lst, ty_dict_lst, ty_int_non, ty_int_ti, ty_bool_non, ty_bool_ti, ty_str_non, ty_str_ti, ty_tup_non, ty_tup_ti, ty_lst_non, ty_lst_ti, ty_dict_non, ty_dict_ti, ta_tup, ta_lst, ta_ti, ta_int, ta_bl, ta_str, ta_non, st_0, st_1, st_2, st_3, st_4, st_5, st_6, st_7, st_8, st_9, st_10, st_11, st_12, st_13, st_14, st_15, st_16, st_17, st_18, st_19, st_20, st_21, st_22, st_23, bp_nm, bp_tp, bp_ls, bp_ti, bps_nil, bps_nm, sts_nil, sts_cons, wp0_nil, wp_0, wp_1, wp_2, wp_3, wp_4, wp_5, wp_6, wp_7, wp_8, wp_9, wp_10, wp_11, wp_12, wp_13, wp_14, wp_15, wp_16, wp_17, wp_18, wp_19, wp_20, wp_21, wp_22, wp_23, rng_1, rng_2, rng_3, rng_4, rng_5, rng_6, rng_7, brkT, brkF, ti1, ti2, ti3, ti4, ti5, ti6, ti_map, eq_ti, pick, List.cons_append, List.nil_append, List.map_cons, List.map_nil, List.getD_cons_zero, List.getD_cons_succ, Bool.not_true, Bool.not_false]
      exact s_is_whole h2
    · rw [all_true, onO_s]
      have e : (ns.map fun _ => true).all id = true := by simp
      rw [e]
      exact h
  · simp only [q, decide_false, ↓ev_v0, ↓ev_v1, ↓ev_v2, ↓ev_v3, ↓ev_v4, ↓ev_v5, ↓ev_v6, ↓ev_v7, ↓ev_v8, ↓ev_v9, ↓ev_v10, ↓ev_v11, ↓ev_v12, ↓ev_v13, ↓ev_v14, ↓ev_v15, ↓ev_v16, ↓ev_v17, ↓ev_v18, ↓ev_v19, ↓ev_v20, ↓ev_v21, ↓ev_v22, ↓ev_v23, ↓ev_cst, ↓ev_glb, ↓ev_bin, ↓ev_neg, ↓ev_not, ↓ev_cmp, ↓ev_cmp2, ↓ev_and, ↓ev_or, ↓ev_ite, ↓ev_tup, ↓ev_lst, ↓ev_idx, ↓ev_slc, ↓ev_call, ↓ev_callk, ↓ev_bi, ↓ev_isi, ↓ev_isi2, ↓ev_lc, ↓ev_lc2, ↓ev_tcat, ↓ev_rng, ↓ev_rng1, ↓ev_zip, ↓ev_enm, ↓ev_cnt, ↓ev_nset, ↓ev_isn, ↓ev_rev, ↓ev_app, ↓evs_nil, ↓evs_cons, ↓evss_nil, ↓evss_f, ↓evss_t, ↓spr_tup, ↓spr_lst, ↓spr_frz, ↓spr_ti, ↓evo_n, ↓evo_s, ↓evt_n, ↓evt_s, ↓ex_set, ↓ex_par, ↓ex_expr, ↓ex_ret, ↓ex_retN, ↓ex_iff, ↓ex_for, ↓ex_whl, ↓ex_raise, ↓ex_pass, ↓ex_brk, ↓ex_cont, ↓exs_nil, ↓exs_cons, ↓tvf, ↓tvt, ↓asB_bl, ↓asI_i, ↓bop_add, ↓bop_sub, ↓bop_mul, ↓bop_fdv, ↓bop_mod, ↓bop_pow, ↓bop_tt, ↓bop_ll, ↓bop_lm, ↓cop_eq, ↓cop_ne, ↓cop_lt, ↓cop_le, ↓cop_gt, ↓cop_ge, ↓cop_eq_rep, ↓cop_ne_rep, ↓cop_eq_tup, ↓cop_ne_tup, ↓cop_eq_lst, ↓cop_ne_lst, ↓cop_eq_str, ↓cop_ne_str, ↓cop_eq_bl, ↓cop_ne_bl, ↓cop_eq_non, ↓cop_ne_non, ↓cop_is_n, ↓cop_is_b, ↓cop_isnot_n, ↓cop_isnot_b, ↓cop_isin_lst, ↓cop_isin_tup, ↓cop_notin_lst, ↓cop_notin_tup, ↓tru_non, ↓tru_bl, ↓tru_int, ↓tru_tup, ↓tru_lst, ↓seq_tup, ↓itm_tup, ↓seq_lst, ↓itm_lst, ↓seq_frz, ↓itm_frz, ↓itm_itr, ↓seq_ref, ↓itm_ref, ↓seq_ti, ↓itm_ti, ↓onO_s, ↓nth_0, ↓nth_1, ↓nth_2, ↓nth_3, ↓nth_4, ↓nth_5, ↓nth_6, ↓nth_7, ↓nth_8, ↓nth_9, ↓nth_10, ↓nth_11, ↓nth_12, ↓bf_len, ↓bf_abs, ↓bf_max, ↓bf_min, ↓bf_int, ↓bf_intb, ↓bf_dm, ↓bf_gcd, ↓bf_all, ↓bf_any, ↓bf_sum, ↓bf_tup, ↓bf_repl, ↓bf_rept, ↓bf_lst, ↓asg_nm, ↓asg_tp, ↓asg_ls, ↓asg_sub, ↓asg_tg, ↓asg_ti, ↓asgs_nil, ↓asgs_cons, ↓mk_f, ↓mk_t, ↓setn_l, ↓setn_r, ↓isn_lst_true, ↓isn_lst_false, ↓isn_tup_true, ↓isn_tup_false, ↓isn_ref_true, ↓isn_ref_false, ↓cnt_t, ↓rev_t, ↓rev_l, ↓rev_ti, ↓onRef_r, ↓two_tt, ↓two_ll, ↓two_ti, ↓still_t, ↓still_ti, ↓still_l, ↓cut_tup, ↓cut_lst, ↓cut_frz, ↓cut_ti, ↓bop_titi, ↓cop_eq_ti, ↓cop_ne_ti, non_non, non_int, ty_int_int, ty_bool_int, ty_str_int, ty_tup_int, ty_lst_int, ty_dict_int, non_bl, ty_int_bl, ty_bool_bl, ty_str_bl, ty_tup_bl, ty_lst_bl, ty_dict_bl, non_str, ty_int_str, ty_bool_str, ty_str_str, ty_tup_str, ty_lst_str, ty_dict_str, non_tup, ty_int_tup, ty_bool_tup, ty_str_tup, ty_tup_tup, ty_lst_tup, ty_dict_tup, non_lst, ty_int_lst, ty_bool_lst, ty_str_lst, ty_tup_lst, ty_lst_lst, ty_dict_lst, ty_int_non, ty_int_ti, ty_bool_non, ty_bool_ti, ty_str_non, ty_str_ti, ty_tup_non, ty_tup_ti, ty_lst_non, ty_lst_ti, ty_dict_non, ty_dict_ti, ta_tup, ta_lst, ta_ti, ta_int, ta_bl, ta_str, ta_non, st_0, st_1, st_2, st_3, st_4, st_5, st_6, st_7, st_8, st_9, st_10, st_11, st_12, st_13, st_14, st_15, st_16, st_17, st_18, st_19, st_20, st_21, st_22, st_23, bp_nm, bp_tp, bp_ls, bp_ti, bps_nil, bps_nm, sts_nil, sts_cons, wp0_nil, wp_0, wp_1, wp_2, wp_3, wp_4, wp_5, wp_6, wp_7, wp_8, wp_9, wp_10, wp_11, wp_12, wp_13, wp_14, wp_15, wp_16, wp_17, wp_18, wp_19, wp_20, wp_21, wp_22, wp_23, rng_1, rng_2, rng_3, rng_4, rng_5, rng_6, rng_7, brkT, brkF, ti1, ti2, ti3, ti4, ti5, ti6, ti_map, eq_ti, pick, List.cons_append, List.nil_append, List.map_cons, List.map_nil, List.getD_cons_zero, List.getD_cons_succ, Bool.not_true, Bool.not_false] at h ⊢
    exact h
end
end FV
set_option Elab.async false
set_option linter.all false
set_option maxRecDepth 100000
/-! Lb2: draws. -/
namespace FV
/-! ### the store -/
theorem cl_set {S : Store} {l : Nat} {ds es : List D} (h : cl S l = some es) : cl (S.set l ds) l = some ds := by
  rw [cl_get] at h ⊢
  rw [List.getElem?_set_self (List.getElem?_eq_some_iff.mp h).1]
theorem cl_ne {S : Store} {l j : Nat} {ds : List D} (h : j ≠ l) : cl (S.set l ds) j = cl S j := by
  rw [cl_get, cl_get, List.getElem?_set_ne (Ne.symm h)]
theorem cl_new {S : Store} {ds : List D} : cl (S ++ [ds]) S.length = some ds := by
  rw [cl_get, List.getElem?_append_right (Nat.le_refl _), Nat.sub_self]
  rfl
theorem cl_old {S : Store} {l : Nat} {ds es : List D} (h : cl S l = some es) : cl (S ++ [ds]) l = some es := by
  rw [cl_get] at h ⊢
  rw [List.getElem?_append_left (List.getElem?_eq_some_iff.mp h).1]
  exact h
/-- a pool of draws in the cell l -/
def Pl (S : Store) (l : Nat) : Prop := ∃ a b c : Int, cl S l = some [.int a, .int b, .int c]
/-- .. drawn from -/
structure Dr (l : Nat) (S S' : Store) : Prop where
  len : S'.length = S.length
  pl : Pl S' l
  fr : ∀ j, j ≠ l → cl S' j = cl S j
theorem Dr.trans {l : Nat} {S S1 S2 : Store} (a : Dr l S S1) (b : Dr l S1 S2) : Dr l S S2 := ⟨b.len.trans a.len, b.pl, fun j hj => (b.fr j hj).trans (a.fr j hj)⟩
theorem Dr.refl {l : Nat} {S : Store} (h : Pl S l) : Dr l S S := ⟨rfl, h, fun _ _ => rfl⟩
theorem nth3_0 {a b c : D} : nth [a, b, c] 0 = some a := rfl
theorem nth3_1 {a b c : D} : nth [a, b, c] 1 = some b := rfl
theorem nth3_2 {a b c : D} : nth [a, b, c] 2 = some c := rfl
theorem set3_0 {a b c d : D} : [a, b, c].set (0 : Int).toNat d = [d, b, c] := rfl
theorem set3_1 {a b c d : D} : [a, b, c].set (1 : Int).toNat d = [a, d, c] := rfl
theorem set3_2 {a b c d : D} : [a, b, c].set (2 : Int).toNat d = [a, b, d] := rfl
theorem in3 {a b c : D} {j : Int} (h0 : 0 ≤ j) (h1 : j < 3) : 0 ≤ j ∧ j < (([a, b, c] : List D).length : Int) := ⟨h0, h1⟩
theorem fmod_lt {a b : Int} (h : 0 < b) : 0 ≤ a.fmod b ∧ a.fmod b < b := by
  rw [Int.fmod_eq_emod_of_nonneg _ (by omega)]
  exact ⟨Int.emod_nonneg _ (by omega), Int.emod_lt_of_pos _ h⟩
theorem mulOk_l {a b : Int} (h : -(2 ^ 64) < a) (h' : a < 2 ^ 64) : mulOk a b := .inl ⟨h, h'⟩
theorem mulOk_r {a b : Int} (h : -(2 ^ 64) < b) (h' : b < 2 ^ 64) : mulOk a b := .inr (.inl ⟨h, h'⟩)
section
variable {n : Nat} {S : Store} {k X : D → Store → Prop}
theorem nth_mem {ds : List D} {r : Int} (h0 : 0 ≤ r) (h1 : r < ds.length) : ∃ d, nth ds r = some d ∧ d ∈ ds := by
  have hi : r.toNat < ds.length := by omega
  refine ⟨ds[r.toNat], ?_, List.getElem_mem hi⟩
  show L2.atI ds r = _
  unfold L2.atI
  rw [ixN_in h0 h1]
  exact List.getElem?_eq_getElem hi
end
end FV
set_option Elab.async false
set_option linter.all false
set_option maxRecDepth 100000
/-! Lb3: divisors, plain rows. -/
namespace FV
def BIG : Nat := 2 ^ 8000
def Bd (ns : List Int) : Prop := ∀ x ∈ ns, x.natAbs < BIG
theorem Gg_le {ns : List Int} (h : fl ns ≠ 0) (b : Bd ns) : Gg ns < BIG := by
  have : ¬ ∀ x ∈ ns, x = 0 := fun z => h (fl_zero.mpr z)
  obtain ⟨x, hx⟩ := Classical.not_forall.mp this
  obtain ⟨hm, h0⟩ := Classical.not_imp.mp hx
  have d := Gg_dvd hm
  rw [← Int.dvd_natAbs, Int.natCast_dvd_natCast] at d
  exact Nat.lt_of_le_of_lt (Nat.le_of_dvd (by omega) d) (b x hm)
theorem dv_ok {ns : List Int} (h : fl ns ≠ 0) (b : Bd ns) : divOk (dv ns) := ⟨dv_ne h, by rw [dv_abs]; exact Gg_le h b⟩
section
variable {n : Nat} {S : Store} {k X : D → Store → Prop}
theorem loop_gcd {C : Hd} {N : Ends} {a : Option D} : ∀ {ns : List Int} {g : Int} {z : Option D}, (∀ z, N.nx [a, some (.int (ns.foldl gstep g)), z] S) →
    forW none (blk C X [.set (.pt (.nm 1)) (.bi .gcd [(.var 1), (.var 2)])]) (.nm 2) N (ns.map D.int) [a, some (.int g), z] S
  | [], g, z, h => h z
  | x :: xs, g, z, h => by
    simp only [List.map_cons, fw_cons, blk_app, ↓ev_v0, ↓ev_v1, ↓ev_v2, ↓ev_v3, ↓ev_v4, ↓ev_v5, ↓ev_v6, ↓ev_v7, ↓ev_v8, ↓ev_v9, ↓ev_v10, ↓ev_v11, ↓ev_v12, ↓ev_v13, ↓ev_v14, ↓ev_v15, ↓ev_v16, ↓ev_v17, ↓ev_v18, ↓ev_v19, ↓ev_v20, ↓ev_v21, ↓ev_v22, ↓ev_v23, ↓ev_cst, ↓ev_glb, ↓ev_bin, ↓ev_neg, ↓ev_not, ↓ev_cmp, ↓ev_cmp2, ↓ev_and, ↓ev_or, ↓ev_ite, ↓ev_tup, ↓ev_lst, ↓ev_idx, ↓ev_slc, ↓ev_call, ↓ev_callk, ↓ev_bi, ↓ev_isi, ↓ev_isi2, ↓ev_lc, ↓ev_lc2, ↓ev_tcat, ↓ev_rng, ↓ev_rng1, ↓ev_zip, ↓ev_enm, ↓ev_cnt, ↓ev_nset, ↓ev_isn, ↓ev_rev, ↓ev_app, ↓evs_nil, ↓evs_cons, ↓evss_nil, ↓evss_f, ↓evss_t, ↓spr_tup, ↓spr_lst, ↓spr_frz, ↓spr_ti, ↓evo_n, ↓evo_s, ↓evt_n, ↓evt_s, ↓ex_set, ↓ex_par, ↓ex_expr, ↓ex_ret, ↓ex_retN, ↓ex_iff, ↓ex_for, ↓ex_whl, ↓ex_raise, ↓ex_pass, ↓ex_brk, ↓ex_cont, ↓exs_nil, ↓exs_cons, ↓tvf, ↓tvt, ↓asB_bl, ↓asI_i, ↓bop_add, ↓bop_sub, ↓bop_mul, ↓bop_fdv, ↓bop_mod, ↓bop_pow, ↓bop_tt, ↓bop_ll, ↓bop_lm, ↓cop_eq, ↓cop_ne, ↓cop_lt, ↓cop_le, ↓cop_gt, ↓cop_ge, ↓cop_eq_rep, ↓cop_ne_rep, ↓cop_eq_tup, ↓cop_ne_tup, ↓cop_eq_lst, ↓cop_ne_lst, ↓cop_eq_str, ↓cop_ne_str, ↓cop_eq_bl, ↓cop_ne_bl, ↓cop_eq_non, ↓cop_ne_non, ↓cop_is_n, ↓cop_is_b, ↓cop_isnot_n, ↓cop_isnot_b, ↓cop_isin_lst, ↓cop_isin_tup, ↓cop_notin_lst, ↓cop_notin_tup, ↓tru_non, ↓tru_bl, ↓tru_int, ↓tru_tup, ↓tru_lst, ↓seq_tup, ↓itm_tup, ↓seq_lst, ↓itm_lst, ↓seq_frz, ↓itm_frz, ↓itm_itr, ↓seq_ref, ↓itm_ref, ↓seq_ti, ↓itm_ti, ↓onO_s, ↓nth_0, ↓nth_1, ↓nth_2, ↓nth_3, ↓nth_4, ↓nth_5, ↓nth_6, ↓nth_7, ↓nth_8, ↓nth_9, ↓nth_10, ↓nth_11, ↓nth_12, ↓bf_len, ↓bf_abs, ↓bf_max, ↓bf_min, ↓bf_int, ↓bf_intb, ↓bf_dm, ↓bf_gcd, ↓bf_all, ↓bf_any, ↓bf_sum, ↓bf_tup, ↓bf_repl, ↓bf_rept, ↓bf_lst, ↓asg_nm, ↓asg_tp, ↓asg_ls, ↓asg_sub, ↓asg_tg, ↓asg_ti, ↓asgs_nil, ↓asgs_cons, ↓mk_f, ↓mk_t, ↓setn_l, ↓setn_r, ↓isn_lst_true, ↓isn_lst_false, ↓isn_tup_true, ↓isn_tup_false, ↓isn_ref_true, ↓isn_ref_false, ↓cnt_t, ↓rev_t, ↓rev_l, ↓rev_ti, ↓onRef_r, ↓two_tt, ↓two_ll, ↓two_ti, ↓still_t, ↓still_ti, ↓still_l, ↓cut_tup, ↓cut_lst, ↓cut_frz, ↓cut_ti, ↓bop_titi, ↓cop_eq_ti, ↓cop_ne_ti, non_non, non_int, ty_int_int, ty_bool_int, ty_str_int, ty_tup_int, ty_lst_int, ty_dict_int, non_bl, ty_int_bl, ty_bool_bl, ty_str_bl, ty_tup_bl, ty_lst_bl, ty_dict_bl, non_str, ty_int_str, ty_bool_str, ty_str_str, ty_tup_str, ty_lst_str, ty_dict_str, non_tup, ty_int_tup, ty_bool_tup, ty_str_tup, ty_tup_tup, ty_lst_tup, ty_dict_tup, non_lst, ty_int_lst, ty_bool_lst, ty_str_lst, ty_tup_lst, ty_lst_lst, ty_dict_lst, ty_int_non, ty_int_ti, ty_bool_non, ty_bool_ti, ty_str_non, ty_str_ti, ty_tup_non, ty_tup_ti, ty_lst_non, ty_lst_ti, ty_dict_non, ty_dict_ti, ta_tup, ta_lst, ta_ti, ta_int, ta_bl, ta_str, ta_non, st_0, st_1, st_2, st_3, st_4, st_5, st_6, st_7, st_8, st_9, st_10, st_11, st_12, st_13, st_14, st_15, st_16, st_17, st_18, st_19, st_20, st_21, st_22, st_23, bp_nm, bp_tp, bp_ls, bp_ti, bps_nil, bps_nm, sts_nil, sts_cons, wp0_nil, wp_0, wp_1, wp_2, wp_3, wp_4, wp_5, wp_6, wp_7, wp_8, wp_9, wp_10, wp_11, wp_12, wp_13, wp_14, wp_15, wp_16, wp_17, wp_18, wp_19, wp_20, wp_21, wp_22, wp_23, rng_1, rng_2, rng_3, rng_4, rng_5, rng_6, rng_7, brkT, brkF, ti1, ti2, ti3, ti4, ti5, ti6, ti_map, eq_ti, pick, List.cons_append, List.nil_append, List.map_cons, List.map_nil, List.getD_cons_zero, List.getD_cons_succ, Bool.not_true, Bool.not_false]
    exact loop_gcd (ns := xs) (g := gstep g x) (z := some (.int x)) h
theorem s_divisor_of {ns : List Int} (h : k (.int (Gg ns : Int)) S) : CT (n + 1) i_divisor_of [ti ns] S k X := by
  refine c_divisor_of ?_
  simp only [f_divisor_of, ↓ev_v0, ↓ev_v1, ↓ev_v2, ↓ev_v3, ↓ev_v4, ↓ev_v5, ↓ev_v6, ↓ev_v7, ↓ev_v8, ↓ev_v9, ↓ev_v10, ↓ev_v11, ↓ev_v12, ↓ev_v13, ↓ev_v14, ↓ev_v15, ↓ev_v16, ↓ev_v17, ↓ev_v18, ↓ev_v19, ↓ev_v20, ↓ev_v21, ↓ev_v22, ↓ev_v23, ↓ev_cst, ↓ev_glb, ↓ev_bin, ↓ev_neg, ↓ev_not, ↓ev_cmp, ↓ev_cmp2, ↓ev_and, ↓ev_or, ↓ev_ite, ↓ev_tup, ↓ev_lst, ↓ev_idx, ↓ev_slc, ↓ev_call, ↓ev_callk, ↓ev_bi, ↓ev_isi, ↓ev_isi2, ↓ev_lc, ↓ev_lc2, ↓ev_tcat, ↓ev_rng, ↓ev_rng1, ↓ev_zip, ↓ev_enm, ↓ev_cnt, ↓ev_nset, ↓ev_isn, ↓ev_rev, ↓ev_app, ↓evs_nil, ↓evs_cons, ↓evss_nil, ↓evss_f, ↓evss_t, ↓spr_tup, ↓spr_lst, ↓spr_frz, ↓spr_ti, ↓evo_n, ↓evo_s, ↓evt_n, ↓evt_s, ↓ex_set, ↓ex_par, ↓ex_expr, ↓ex_ret, ↓ex_retN, ↓ex_iff, ↓ex_for, ↓ex_whl, ↓ex_raise, ↓ex_pass, ↓ex_brk, ↓ex_cont, ↓exs_nil, ↓exs_cons, ↓tvf, ↓tvt, ↓asB_bl, ↓asI_i, ↓bop_add, ↓bop_sub, ↓bop_mul, ↓bop_fdv, ↓bop_mod, ↓bop_pow, ↓bop_tt, ↓bop_ll, ↓bop_lm, ↓cop_eq, ↓cop_ne, ↓cop_lt, ↓cop_le, ↓cop_gt, ↓cop_ge, ↓cop_eq_rep, ↓cop_ne_rep, ↓cop_eq_tup, ↓cop_ne_tup, ↓cop_eq_lst, ↓cop_ne_lst, ↓cop_eq_str, ↓cop_ne_str, ↓cop_eq_bl, ↓cop_ne_bl, ↓cop_eq_non, ↓cop_ne_non, ↓cop_is_n, ↓cop_is_b, ↓cop_isnot_n, ↓cop_isnot_b, ↓cop_isin_lst, ↓cop_isin_tup, ↓cop_notin_lst, ↓cop_notin_tup, ↓tru_non, ↓tru_bl, ↓tru_int, ↓tru_tup, ↓tru_lst, ↓seq_tup, ↓itm_tup, ↓seq_lst, ↓itm_lst, ↓seq_frz, ↓itm_frz, ↓itm_itr, ↓seq_ref, ↓itm_ref, ↓seq_ti, ↓itm_ti, ↓onO_s, ↓nth_0, ↓nth_1, ↓nth_2, ↓nth_3, ↓nth_4, ↓nth_5, ↓nth_6, ↓nth_7, ↓nth_8, ↓nth_9, ↓nth_10, ↓nth_11, ↓nth_12, ↓bf_len, ↓bf_abs, ↓bf_max, ↓bf_min, ↓bf_int, ↓bf_intb, ↓bf_dm, ↓bf_gcd, ↓bf_all, ↓bf_any, ↓bf_sum, ↓bf_tup, ↓bf_repl, ↓bf_rept, ↓bf_lst, ↓asg_nm, ↓asg_tp, ↓asg_ls, ↓asg_sub, ↓asg_tg, ↓asg_ti, ↓asgs_nil, ↓asgs_cons, ↓mk_f, ↓mk_t, ↓setn_l, ↓setn_r, ↓isn_lst_true, ↓isn_lst_false, ↓isn_tup_true, ↓isn_tup_false, ↓isn_ref_true, ↓isn_ref_false, ↓cnt_t, ↓rev_t, ↓rev_l, ↓rev_ti, ↓onRef_r, ↓two_tt, ↓two_ll, ↓two_ti, ↓still_t, ↓still_ti, ↓still_l, ↓cut_tup, ↓cut_lst, ↓cut_frz, ↓cut_ti, ↓bop_titi, ↓cop_eq_ti, ↓cop_ne_ti, non_non, non_int, ty_int_int, ty_bool_int, ty_str_int, ty_tup_int, ty_lst_int, ty_dict_int, non_bl, ty_int_bl, ty_bool_bl, ty_str_bl, ty_tup_bl, ty_lst_bl, ty_dict_bl, non_str, ty_int_str, ty_bool_str, ty_str_str, ty_tup_str, ty_lst_str, ty_dict_str, non_tup, ty_int_tup, ty_bool_tup, ty_str_tup, ty_tup_tup, ty_lst_tup, ty_dict_tup, non_lst, ty_int_lst, ty_bool_lst, ty_str_lst, ty_tup_lst, ty_lst_lst, ty_dict_lst, ty_int_non, ty_int_ti, ty_bool_non, ty_bool_ti, ty_str_non, ty_str_ti, ty_tup_non, ty_tup_ti, ty_lst_non, ty_lst_ti, ty_dict_non, ty_dict_ti, ta_tup, ta_lst, ta_ti, ta_int, ta_bl, ta_str, ta_non, st_0, st_1, st_2, st_3, st_4, st_5, st_6, st_7, st_8, st_9, st_10, st_11, st_12, st_13, st_14, st_15, st_16, st_17, st_18, st_19, st_20, st_21, st_22, st_23, bp_nm, bp_tp, bp_ls, bp_ti, bps_nil, bps_nm, sts_nil, sts_cons, wp0_nil, wp_0, wp_1, wp_2, wp_3, wp_4, wp_5, wp_6, wp_7, wp_8, wp_9, wp_10, wp_11, wp_12, wp_13, wp_14, wp_15, wp_16, wp_17, wp_18, wp_19, wp_20, wp_21, wp_22, wp_23, rng_1, rng_2, rng_3, rng_4, rng_5, rng_6, rng_7, brkT, brkF, ti1, ti2, ti3, ti4, ti5, ti6, ti_map, eq_ti, pick, List.cons_append, List.nil_append, List.map_cons, List.map_nil, List.getD_cons_zero, List.getD_cons_succ, Bool.not_true, Bool.not_false]
  refine loop_gcd fun z => ?_
  simp only [↓ev_v0, ↓ev_v1, ↓ev_v2, ↓ev_v3, ↓ev_v4, ↓ev_v5, ↓ev_v6, ↓ev_v7, ↓ev_v8, ↓ev_v9, ↓ev_v10, ↓ev_v11, ↓ev_v12, ↓ev_v13, ↓ev_v14, ↓ev_v15, ↓ev_v16, ↓ev_v17, ↓ev_v18, ↓ev_v19, ↓ev_v20, ↓ev_v21, ↓ev_v22, ↓ev_v23, ↓ev_cst, ↓ev_glb, ↓ev_bin, ↓ev_neg, ↓ev_not, ↓ev_cmp, ↓ev_cmp2, ↓ev_and, ↓ev_or, ↓ev_ite, ↓ev_tup, ↓ev_lst, ↓ev_idx, ↓ev_slc, ↓ev_call, ↓ev_callk, ↓ev_bi, ↓ev_isi, ↓ev_isi2, ↓ev_lc, ↓ev_lc2, ↓ev_tcat, ↓ev_rng, ↓ev_rng1, ↓ev_zip, ↓ev_enm, ↓ev_cnt, ↓ev_nset, ↓ev_isn, ↓ev_rev, ↓ev_app, ↓evs_nil, ↓evs_cons, ↓evss_nil, ↓evss_f, ↓evss_t, ↓spr_tup, ↓spr_lst, ↓spr_frz, ↓spr_ti, ↓evo_n, ↓evo_s, ↓evt_n, ↓evt_s, ↓ex_set, ↓ex_par, ↓ex_expr, ↓ex_ret, ↓ex_retN, ↓ex_iff, ↓ex_for, ↓ex_whl, ↓ex_raise, ↓ex_pass, ↓ex_brk, ↓ex_cont, ↓exs_nil, ↓exs_cons, ↓tvf, ↓tvt, ↓asB_bl, ↓asI_i, ↓bop_add, ↓bop_sub, ↓bop_mul, ↓bop_fdv, ↓bop_mod, ↓bop_pow, ↓bop_tt, ↓bop_ll, ↓bop_lm, ↓cop_eq, ↓cop_ne, ↓cop_lt, ↓cop_le, ↓cop_gt, ↓cop_ge, ↓cop_eq_rep, ↓cop_ne_rep, ↓cop_eq_tup, ↓cop_ne_tup, ↓cop_eq_lst, ↓cop_ne_lst, ↓cop_eq_str, ↓cop_ne_str, ↓cop_eq_bl, ↓cop_ne_bl, ↓cop_eq_non, ↓cop_ne_non, ↓cop_is_n, ↓cop_is_b, ↓cop_isnot_n, ↓cop_isnot_b, ↓cop_isin_lst, ↓cop_isin_tup, ↓cop_notin_lst, ↓cop_notin_tup, ↓tru_non, ↓tru_bl, ↓tru_int, ↓tru_tup, ↓tru_lst, ↓seq_tup, ↓itm_tup, ↓seq_lst, ↓itm_lst, ↓seq_frz, ↓itm_frz, ↓itm_itr, ↓seq_ref, ↓itm_ref, ↓seq_ti, ↓itm_ti, ↓onO_s, ↓nth_0, ↓nth_1, ↓nth_2, ↓nth_3, ↓nth_4, ↓nth_5, ↓nth_6, ↓nth_7, ↓nth_8, ↓nth_9, ↓nth_10, ↓nth_11, ↓nth_12, ↓bf_len, ↓bf_abs, ↓bf_max, ↓bf_min, ↓bf_int, ↓bf_intb, ↓bf_dm, ↓bf_gcd, ↓bf_all, ↓bf_any, ↓bf_sum, ↓bf_tup, ↓bf_repl, ↓bf_rept, ↓bf_lst, ↓asg_nm, ↓asg_tp, ↓asg_ls, ↓asg_sub, ↓asg_tg, ↓asg_ti, ↓asgs_nil, ↓asgs_cons, ↓mk_f, ↓mk_t, ↓setn_l, ↓setn_r, ↓isn_lst_true, ↓isn_lst_false, ↓isn_tup_true, ↓isn_tup_false, ↓isn_ref_true, ↓isn_ref_false, ↓cnt_t, ↓rev_t, ↓rev_l, ↓rev_ti, ↓onRef_r, ↓two_tt, ↓two_ll, ↓two_ti, ↓still_t, ↓still_ti, ↓still_l, ↓cut_tup, ↓cut_lst, ↓cut_frz, ↓cut_ti, ↓bop_titi, ↓cop_eq_ti, ↓cop_ne_ti, non_non, non_int, ty_int_int, ty_bool_int, ty_str_int, ty_tup_int, ty_lst_int, ty_dict_int, non_bl, ty_int_bl, ty_bool_bl, ty_str_bl, ty_tup_bl, ty_lst_bl, ty_dict_bl, non_str, ty_int_str, ty_bool_str, ty_str_str, ty_tup_str, ty_lst_str, ty_dict_str, non_tup, ty_int_tup, ty_bool_tup, ty_str_tup, ty_tup_tup, ty_lst_tup, ty_dict_tup, non_lst, ty_int_lst, ty_bool_lst, ty_str_lst, ty_tup_lst, ty_lst_lst, ty_dict_lst, ty_int_non, ty_int_ti, ty_bool_non, ty_bool_ti, ty_str_non, ty_str_ti, ty_tup_non, ty_tup_ti, ty_lst_non, ty_lst_ti, ty_dict_non, ty_dict_ti, ta_tup, ta_lst, ta_ti, ta_int, ta_bl, ta_str, ta_non, st_0, st_1, st_2, st_3, st_4, st_5, st_6, st_7, st_8, st_9, st_10, st_11, st_12, st_13, st_14, st_15, st_16, st_17, st_18, st_19, st_20, st_21, st_22, st_23, bp_nm, bp_tp, bp_ls, bp_ti, bps_nil, bps_nm, sts_nil, sts_cons, wp0_nil, wp_0, wp_1, wp_2, wp_3, wp_4, wp_5, wp_6, wp_7, wp_8, wp_9, wp_10, wp_11, wp_12, wp_13, wp_14, wp_15, wp_16, wp_17, wp_18, wp_19, wp_20, wp_21, wp_22, wp_23, rng_1, rng_2, rng_3, rng_4, rng_5, rng_6, rng_7, brkT, brkF, ti1, ti2, ti3, ti4, ti5, ti6, ti_map, eq_ti, pick, List.cons_append, List.nil_append, List.map_cons, List.map_nil, List.getD_cons_zero, List.getD_cons_succ, Bool.not_true, Bool.not_false, gfold0]
  exact h
theorem loop_first {C : Hd} {N : Ends} {a : Option D} : ∀ {ns : List Int} {z : Option D}, (fl ns ≠ 0 → N.rt (.int (fl ns)) S) → (fl ns = 0 → ∀ z, N.nx [a, z] S) →
    forW none (blk C X [.iff (.cmp .ne (.var 1) (.cst (.int 0))) [.ret (.var 1)] []]) (.nm 1) N (ns.map D.int) [a, z] S
  | [], z, _, h => h rfl z
  | x :: xs, z, h1, h2 => by
    simp only [List.map_cons, fw_cons, blk_app, ↓ev_v0, ↓ev_v1, ↓ev_v2, ↓ev_v3, ↓ev_v4, ↓ev_v5, ↓ev_v6, ↓ev_v7, ↓ev_v8, ↓ev_v9, ↓ev_v10, ↓ev_v11, ↓ev_v12, ↓ev_v13, ↓ev_v14, ↓ev_v15, ↓ev_v16, ↓ev_v17, ↓ev_v18, ↓ev_v19, ↓ev_v20, ↓ev_v21, ↓ev_v22, ↓ev_v23, ↓ev_cst, ↓ev_glb, ↓ev_bin, ↓ev_neg, ↓ev_not, ↓ev_cmp, ↓ev_cmp2, ↓ev_and, ↓ev_or, ↓ev_ite, ↓ev_tup, ↓ev_lst, ↓ev_idx, ↓ev_slc, ↓ev_call, ↓ev_callk, ↓ev_bi, ↓ev_isi, ↓ev_isi2, ↓ev_lc, ↓ev_lc2, ↓ev_tcat, ↓ev_rng, ↓ev_rng1, ↓ev_zip, ↓ev_enm, ↓ev_cnt, ↓ev_nset, ↓ev_isn, ↓ev_rev, ↓ev_app, ↓evs_nil, ↓evs_cons, ↓evss_nil, ↓evss_f, ↓evss_t, ↓spr_tup, ↓spr_lst, ↓spr_frz, ↓spr_ti, ↓evo_n, ↓evo_s, ↓evt_n, ↓evt_s, ↓ex_set, ↓ex_par, ↓ex_expr, ↓ex_ret, ↓ex_retN, ↓ex_iff, ↓ex_for, ↓ex_whl, ↓ex_raise, ↓ex_pass, ↓ex_brk, ↓ex_cont, ↓exs_nil, ↓exs_cons, ↓tvf, ↓tvt, ↓asB_bl, ↓asI_i, ↓bop_add, ↓bop_sub, ↓bop_mul, ↓bop_fdv, ↓bop_mod, ↓bop_pow, ↓bop_tt, ↓bop_ll, ↓bop_lm, ↓cop_eq, ↓cop_ne, ↓cop_lt, ↓cop_le, ↓cop_gt, ↓cop_ge, ↓cop_eq_rep, ↓cop_ne_rep, ↓cop_eq_tup, ↓cop_ne_tup, ↓cop_eq_lst, ↓cop_ne_lst, ↓cop_eq_str, ↓cop_ne_str, ↓cop_eq_bl, ↓cop_ne_bl, ↓cop_eq_non, ↓cop_ne_non, ↓cop_is_n, ↓cop_is_b, ↓cop_isnot_n, ↓cop_isnot_b, ↓cop_isin_lst, ↓cop_isin_tup, ↓cop_notin_lst, ↓cop_notin_tup, ↓tru_non, ↓tru_bl, ↓tru_int, ↓tru_tup, ↓tru_lst, ↓seq_tup, ↓itm_tup, ↓seq_lst, ↓itm_lst, ↓seq_frz, ↓itm_frz, ↓itm_itr, ↓seq_ref, ↓itm_ref, ↓seq_ti, ↓itm_ti, ↓onO_s, ↓nth_0, ↓nth_1, ↓nth_2, ↓nth_3, ↓nth_4, ↓nth_5, ↓nth_6, ↓nth_7, ↓nth_8, ↓nth_9, ↓nth_10, ↓nth_11, ↓nth_12, ↓bf_len, ↓bf_abs, ↓bf_max, ↓bf_min, ↓bf_int, ↓bf_intb, ↓bf_dm, ↓bf_gcd, ↓bf_all, ↓bf_any, ↓bf_sum, ↓bf_tup, ↓bf_repl, ↓bf_rept, ↓bf_lst, ↓asg_nm, ↓asg_tp, ↓asg_ls, ↓asg_sub, ↓asg_tg, ↓asg_ti, ↓asgs_nil, ↓asgs_cons, ↓mk_f, ↓mk_t, ↓setn_l, ↓setn_r, ↓isn_lst_true, ↓isn_lst_false, ↓isn_tup_true, ↓isn_tup_false, ↓isn_ref_true, ↓isn_ref_false, ↓cnt_t, ↓rev_t, ↓rev_l, ↓rev_ti, ↓onRef_r, ↓two_tt, ↓two_ll, ↓two_ti, ↓still_t, ↓still_ti, ↓still_l, ↓cut_tup, ↓cut_lst, ↓cut_frz, ↓cut_ti, ↓bop_titi, ↓cop_eq_ti, ↓cop_ne_ti, non_non, non_int, ty_int_int, ty_bool_int, ty_str_int, ty_tup_int, ty_lst_int, ty_dict_int, non_bl, ty_int_bl, ty_bool_bl, ty_str_bl, ty_tup_bl, ty_lst_bl, ty_dict_bl, non_str, ty_int_str, ty_bool_str, ty_str_str, ty_tup_str, ty_lst_str, ty_dict_str, non_tup, ty_int_tup, ty_bool_tup, ty_str_tup, ty_tup_tup, ty_lst_tup, ty_dict_tup, non_lst, ty_int_lst, ty_bool_lst, ty_str_lst, ty_tup_lst, ty_lst_lst, ty_dict_lst, ty_int_non, ty_int_ti, ty_bool_non, ty_bool_ti, ty_str_non, ty_str_ti, ty_tup_non, ty_tup_ti, ty_lst_non, ty_lst_ti, ty_dict_non, ty_dict_ti, ta_tup, ta_lst, ta_ti, ta_int, ta_bl, ta_str, ta_non, st_0, st_1, st_2, st_3, st_4, st_5, st_6, st_7, st_8, st_9, st_10, st_11, st_12, st_13, st_14, st_15, st_16, st_17, st_18, st_19, st_20, st_21, st_22, st_23, bp_nm, bp_tp, bp_ls, bp_ti, bps_nil, bps_nm, sts_nil, sts_cons, wp0_nil, wp_0, wp_1, wp_2, wp_3, wp_4, wp_5, wp_6, wp_7, wp_8, wp_9, wp_10, wp_11, wp_12, wp_13, wp_14, wp_15, wp_16, wp_17, wp_18, wp_19, wp_20, wp_21, wp_22, wp_23, rng_1, rng_2, rng_3, rng_4, rng_5, rng_6, rng_7, brkT, brkF, ti1, ti2, ti3, ti4, ti5, ti6, ti_map, eq_ti, pick, List.cons_append, List.nil_append, List.map_cons, List.map_nil, List.getD_cons_zero, List.getD_cons_succ, Bool.not_true, Bool.not_false]
    by_cases hx : x = 0
    · subst hx
      exact loop_first (ns := xs) (z := some (.int 0)) h1 h2
    · have e : fl (x :: xs) = x := by simp [fl, hx]
      rw [e] at h1
      simp only [hx, decide_false, Bool.not_false, ↓ev_v0, ↓ev_v1, ↓ev_v2, ↓ev_v3, ↓ev_v4, ↓ev_v5, ↓ev_v6, ↓ev_v7, ↓ev_v8, ↓ev_v9, ↓ev_v10, ↓ev_v11, ↓ev_v12, ↓ev_v13, ↓ev_v14, ↓ev_v15, ↓ev_v16, ↓ev_v17, ↓ev_v18, ↓ev_v19, ↓ev_v20, ↓ev_v21, ↓ev_v22, ↓ev_v23, ↓ev_cst, ↓ev_glb, ↓ev_bin, ↓ev_neg, ↓ev_not, ↓ev_cmp, ↓ev_cmp2, ↓ev_and, ↓ev_or, ↓ev_ite, ↓ev_tup, ↓ev_lst, ↓ev_idx, ↓ev_slc, ↓ev_call, ↓ev_callk, ↓ev_bi, ↓ev_isi, ↓ev_isi2, ↓ev_lc, ↓ev_lc2, ↓ev_tcat, ↓ev_rng, ↓ev_rng1, ↓ev_zip, ↓ev_enm, ↓ev_cnt, ↓ev_nset, ↓ev_isn, ↓ev_rev, ↓ev_app, ↓evs_nil, ↓evs_cons, ↓evss_nil, ↓evss_f, ↓evss_t, ↓spr_tup, ↓spr_lst, ↓spr_frz, ↓spr_ti, ↓evo_n, ↓evo_s, ↓evt_n, ↓evt_s, ↓ex_set, ↓ex_par, ↓ex_expr, ↓ex_ret, ↓ex_retN, ↓ex_iff, ↓ex_for, ↓ex_whl, ↓ex_raise, ↓ex_pass, ↓ex_brk, ↓ex_cont, ↓exs_nil, ↓exs_cons, ↓tvf, ↓tvt, ↓asB_bl, ↓asI_i, ↓bop_add, ↓bop_sub, ↓bop_mul, ↓bop_fdv, ↓bop_mod, ↓bop_pow, ↓bop_tt, ↓bop_ll, ↓bop_lm, ↓cop_eq, ↓cop_ne, ↓cop_lt, ↓cop_le, ↓cop_gt, ↓cop_ge, ↓cop_eq_rep, ↓cop_ne_rep, ↓cop_eq_tup, ↓cop_ne_tup, ↓cop_eq_lst, ↓cop_ne_lst, ↓cop_eq_str, ↓cop_ne_str, ↓cop_eq_bl, ↓cop_ne_bl, ↓cop_eq_non, ↓cop_ne_non, ↓cop_is_n, ↓cop_is_b, ↓cop_isnot_n, ↓cop_isnot_b, ↓cop_isin_lst, ↓cop_isin_tup, ↓cop_notin_lst, ↓cop_notin_tup, ↓tru_non, ↓tru_bl, ↓tru_int, ↓tru_tup, ↓tru_lst, ↓seq_tup, ↓itm_tup, ↓seq_lst, ↓itm_lst, ↓seq_frz, ↓itm_frz, ↓itm_itr, ↓seq_ref, ↓itm_ref, ↓seq_ti, ↓itm_ti, ↓onO_s, ↓nth_0, ↓nth_1, ↓nth_2, ↓nth_3, ↓nth_4, ↓nth_5, ↓nth_6, ↓nth_7, ↓nth_8, ↓nth_9, ↓nth_10, ↓nth_11, ↓nth_12, ↓bf_len, ↓bf_abs, ↓bf_max, ↓bf_min, ↓bf_int, ↓bf_intb, ↓bf_dm, ↓bf_gcd, ↓bf_all, ↓bf_any, ↓bf_sum, ↓bf_tup, ↓bf_repl, ↓bf_rept, ↓bf_lst, ↓asg_nm, ↓asg_tp, ↓asg_ls, ↓asg_sub, ↓asg_tg, ↓asg_ti, ↓asgs_nil, ↓asgs_cons, ↓mk_f, ↓mk_t, ↓setn_l, ↓setn_r, ↓isn_lst_true, ↓isn_lst_false, ↓isn_tup_true, ↓isn_tup_false, ↓isn_ref_true, ↓isn_ref_false, ↓cnt_t, ↓rev_t, ↓rev_l, ↓rev_ti, ↓onRef_r, ↓two_tt, ↓two_ll, ↓two_ti, ↓still_t, ↓still_ti, ↓still_l, ↓cut_tup, ↓cut_lst, ↓cut_frz, ↓cut_ti, ↓bop_titi, ↓cop_eq_ti, ↓cop_ne_ti, non_non, non_int, ty_int_int, ty_bool_int, ty_str_int, ty_tup_int, ty_lst_int, ty_dict_int, non_bl, ty_int_bl, ty_bool_bl, ty_str_bl, ty_tup_bl, ty_lst_bl, ty_dict_bl, non_str, ty_int_str, ty_bool_str, ty_str_str, ty_tup_str, ty_lst_str, ty_dict_str, non_tup, ty_int_tup, ty_bool_tup, ty_str_tup, ty_tup_tup, ty_lst_tup, ty_dict_tup, non_lst, ty_int_lst, ty_bool_lst, ty_str_lst, ty_tup_lst, ty_lst_lst, ty_dict_lst, ty_int_non, ty_int_ti, ty_bool_non, ty_bool_ti, ty_str_non, ty_str_ti, ty_tup_non, ty_tup_ti, ty_lst_non, ty_lst_ti, ty_dict_non, ty_dict_ti, ta_tup, ta_lst, ta_ti, ta_int, ta_bl, ta_str, ta_non, st_0, st_1, st_2, st_3, st_4, st_5, st_6, st_7, st_8, st_9, st_10, st_11, st_12, st_13, st_14, st_15, st_16, st_17, st_18, st_19, st_20, st_21, st_22, st_23, bp_nm, bp_tp, bp_ls, bp_ti, bps_nil, bps_nm, sts_nil, sts_cons, wp0_nil, wp_0, wp_1, wp_2, wp_3, wp_4, wp_5, wp_6, wp_7, wp_8, wp_9, wp_10, wp_11, wp_12, wp_13, wp_14, wp_15, wp_16, wp_17, wp_18, wp_19, wp_20, wp_21, wp_22, wp_23, rng_1, rng_2, rng_3, rng_4, rng_5, rng_6, rng_7, brkT, brkF, ti1, ti2, ti3, ti4, ti5, ti6, ti_map, eq_ti, pick, List.cons_append, List.nil_append, List.map_cons, List.map_nil, List.getD_cons_zero, List.getD_cons_succ, Bool.not_true, Bool.not_false]
      exact h1 hx
theorem s_first_live {ns : List Int} (h : k (.int (fl ns)) S) : CT (n + 1) i_first_live [ti ns] S k X := by
  refine c_first_live ?_
  simp only [f_first_live, ↓ev_v0, ↓ev_v1, ↓ev_v2, ↓ev_v3, ↓ev_v4, ↓ev_v5, ↓ev_v6, ↓ev_v7, ↓ev_v8, ↓ev_v9, ↓ev_v10, ↓ev_v11, ↓ev_v12, ↓ev_v13, ↓ev_v14, ↓ev_v15, ↓ev_v16, ↓ev_v17, ↓ev_v18, ↓ev_v19, ↓ev_v20, ↓ev_v21, ↓ev_v22, ↓ev_v23, ↓ev_cst, ↓ev_glb, ↓ev_bin, ↓ev_neg, ↓ev_not, ↓ev_cmp, ↓ev_cmp2, ↓ev_and, ↓ev_or, ↓ev_ite, ↓ev_tup, ↓ev_lst, ↓ev_idx, ↓ev_slc, ↓ev_call, ↓ev_callk, ↓ev_bi, ↓ev_isi, ↓ev_isi2, ↓ev_lc, ↓ev_lc2, ↓ev_tcat, ↓ev_rng, ↓ev_rng1, ↓ev_zip, ↓ev_enm, ↓ev_cnt, ↓ev_nset, ↓ev_isn, ↓ev_rev, ↓ev_app, ↓evs_nil, ↓evs_cons, ↓evss_nil, ↓evss_f, ↓evss_t, ↓spr_tup, ↓spr_lst, ↓spr_frz, ↓spr_ti, ↓evo_n, ↓evo_s, ↓evt_n, ↓evt_s, ↓ex_set, ↓ex_par, ↓ex_expr, ↓ex_ret, ↓ex_retN, ↓ex_iff, ↓ex_for, ↓ex_whl, ↓ex_raise, ↓ex_pass, ↓ex_brk, ↓ex_cont, ↓exs_nil, ↓exs_cons, ↓tvf, ↓tvt, ↓asB_bl, ↓asI_i, ↓bop_add, ↓bop_sub, ↓bop_mul, ↓bop_fdv, ↓bop_mod, ↓bop_pow, ↓bop_tt, ↓bop_ll, ↓bop_lm, ↓cop_eq, ↓cop_ne, ↓cop_lt, ↓cop_le, ↓cop_gt, ↓cop_ge, ↓cop_eq_rep, ↓cop_ne_rep, ↓cop_eq_tup, ↓cop_ne_tup, ↓cop_eq_lst, ↓cop_ne_lst, ↓cop_eq_str, ↓cop_ne_str, ↓cop_eq_bl, ↓cop_ne_bl, ↓cop_eq_non, ↓cop_ne_non, ↓cop_is_n, ↓cop_is_b, ↓cop_isnot_n, ↓cop_isnot_b, ↓cop_isin_lst, ↓cop_isin_tup, ↓cop_notin_lst, ↓cop_notin_tup, ↓tru_non, ↓tru_bl, ↓tru_int, ↓tru_tup, ↓tru_lst, ↓seq_tup, ↓itm_tup, ↓seq_lst, ↓itm_lst, ↓seq_frz, ↓itm_frz, ↓itm_itr, ↓seq_ref, ↓itm_ref, ↓seq_ti, ↓itm_ti, ↓onO_s, ↓nth_0, ↓nth_1, ↓nth_2, ↓nth_3, ↓nth_4, ↓nth_5, ↓nth_6, ↓nth_7, ↓nth_8, ↓nth_9, ↓nth_10, ↓nth_11, ↓nth_12, ↓bf_len, ↓bf_abs, ↓bf_max, ↓bf_min, ↓bf_int, ↓bf_intb, ↓bf_dm, ↓bf_gcd, ↓bf_all, ↓bf_any, ↓bf_sum, ↓bf_tup, ↓bf_repl, ↓bf_rept, ↓bf_lst, ↓asg_nm, ↓asg_tp, ↓asg_ls, ↓asg_sub, ↓asg_tg, ↓asg_ti, ↓asgs_nil, ↓asgs_cons, ↓mk_f, ↓mk_t, ↓setn_l, ↓setn_r, ↓isn_lst_true, ↓isn_lst_false, ↓isn_tup_true, ↓isn_tup_false, ↓isn_ref_true, ↓isn_ref_false, ↓cnt_t, ↓rev_t, ↓rev_l, ↓rev_ti, ↓onRef_r, ↓two_tt, ↓two_ll, ↓two_ti, ↓still_t, ↓still_ti, ↓still_l, ↓cut_tup, ↓cut_lst, ↓cut_frz, ↓cut_ti, ↓bop_titi, ↓cop_eq_ti, ↓cop_ne_ti, non_non, non_int, ty_int_int, ty_bool_int, ty_str_int, ty_tup_int, ty_lst_int, ty_dict_int, non_bl, ty_int_bl, ty_bool_bl, ty_str_bl, ty_tup_bl, ty_lst_bl, ty_dict_bl, non_str, ty_int_str, ty_bool_str, ty_str_str, ty_tup_str, ty_lst_str, ty_dict_str, non_tup, ty_int_tup, ty_bool_tup, ty_str_tup, ty_tup_tup, ty_lst_tup, ty_dict_tup, non_lst, ty_int_lst, ty_bool_lst, ty_str_lst, ty_tup_lst, ty_lst_lst, ty_dict_lst, ty_int_non, ty_int_ti, ty_bool_non, ty_bool_ti, ty_str_non, ty_str_ti, ty_tup_non, ty_tup_ti, ty_lst_non, ty_lst_ti, ty_dict_non, ty_dict_ti, ta_tup, ta_lst, ta_ti, ta_int, ta_bl, ta_str, ta_non, st_0, st_1, st_2, st_3, st_4, st_5, st_6, st_7, st_8, st_9, st_10, st_11, st_12, st_13, st_14, st_15, st_16, st_17, st_18, st_19, st_20, st_21, st_22, st_23, bp_nm, bp_tp, bp_ls, bp_ti, bps_nil, bps_nm, sts_nil, sts_cons, wp0_nil, wp_0, wp_1, wp_2, wp_3, wp_4, wp_5, wp_6, wp_7, wp_8, wp_9, wp_10, wp_11, wp_12, wp_13, wp_14, wp_15, wp_16, wp_17, wp_18, wp_19, wp_20, wp_21, wp_22, wp_23, rng_1, rng_2, rng_3, rng_4, rng_5, rng_6, rng_7, brkT, brkF, ti1, ti2, ti3, ti4, ti5, ti6, ti_map, eq_ti, pick, List.cons_append, List.nil_append, List.map_cons, List.map_nil, List.getD_cons_zero, List.getD_cons_succ, Bool.not_true, Bool.not_false]
  refine loop_first (fun _ => h) fun e z => ?_
  simp only [↓ev_v0, ↓ev_v1, ↓ev_v2, ↓ev_v3, ↓ev_v4, ↓ev_v5, ↓ev_v6, ↓ev_v7, ↓ev_v8, ↓ev_v9, ↓ev_v10, ↓ev_v11, ↓ev_v12, ↓ev_v13, ↓ev_v14, ↓ev_v15, ↓ev_v16, ↓ev_v17, ↓ev_v18, ↓ev_v19, ↓ev_v20, ↓ev_v21, ↓ev_v22, ↓ev_v23, ↓ev_cst, ↓ev_glb, ↓ev_bin, ↓ev_neg, ↓ev_not, ↓ev_cmp, ↓ev_cmp2, ↓ev_and, ↓ev_or, ↓ev_ite, ↓ev_tup, ↓ev_lst, ↓ev_idx, ↓ev_slc, ↓ev_call, ↓ev_callk, ↓ev_bi, ↓ev_isi, ↓ev_isi2, ↓ev_lc, ↓ev_lc2, ↓ev_tcat, ↓ev_rng, ↓ev_rng1, ↓ev_zip, ↓ev_enm, ↓ev_cnt, ↓ev_nset, ↓ev_isn, ↓ev_rev, ↓ev_app, ↓evs_nil, ↓evs_cons, ↓evss_nil, ↓evss_f, ↓evss_t, ↓spr_tup, ↓spr_lst, ↓spr_frz, ↓spr_ti, ↓evo_n, ↓evo_s, ↓evt_n, ↓evt_s, ↓ex_set, ↓ex_par, ↓ex_expr, ↓ex_ret, ↓ex_retN, ↓ex_iff, ↓ex_for, ↓ex_whl, ↓ex_raise, ↓ex_pass, ↓ex_brk, ↓ex_cont, ↓exs_nil, ↓exs_cons, ↓tvf, ↓tvt, ↓asB_bl, ↓asI_i, ↓bop_add, ↓bop_sub, ↓bop_mul, ↓bop_fdv, ↓bop_mod, ↓bop_pow, ↓bop_tt, ↓bop_ll, ↓bop_lm, ↓cop_eq, ↓cop_ne, ↓cop_lt, ↓cop_le, ↓cop_gt, ↓cop_ge, ↓cop_eq_rep, ↓cop_ne_rep, ↓cop_eq_tup, ↓cop_ne_tup, ↓cop_eq_lst, ↓cop_ne_lst, ↓cop_eq_str, ↓cop_ne_str, ↓cop_eq_bl, ↓cop_ne_bl, ↓cop_eq_non, ↓cop_ne_non, ↓cop_is_n, ↓cop_is_b, ↓cop_isnot_n, ↓cop_isnot_b, ↓cop_isin_lst, ↓cop_isin_tup, ↓cop_notin_lst, ↓cop_notin_tup, ↓tru_non, ↓tru_bl, ↓tru_int, ↓tru_tup, ↓tru_lst, ↓seq_tup, ↓itm_tup, ↓seq_lst, ↓itm_lst, ↓seq_frz, ↓itm_frz, ↓itm_itr, ↓seq_ref, ↓itm_ref, ↓seq_ti, ↓itm_ti, ↓onO_s, ↓nth_0, ↓nth_1, ↓nth_2, ↓nth_3, ↓nth_4, ↓nth_5, ↓nth_6, ↓nth_7, ↓nth_8, ↓nth_9, ↓nth_10, ↓nth_11, ↓nth_12, ↓bf_len, ↓bf_abs, ↓bf_max, ↓bf_min, ↓bf_int, ↓bf_intb, ↓bf_dm, ↓bf_gcd, ↓bf_all, ↓bf_any, ↓bf_sum, ↓bf_tup, ↓bf_repl, ↓bf_rept, ↓bf_lst, ↓asg_nm, ↓asg_tp, ↓asg_ls, ↓asg_sub, ↓asg_tg, ↓asg_ti, ↓asgs_nil, ↓asgs_cons, ↓mk_f, ↓mk_t, ↓setn_l, ↓setn_r, ↓isn_lst_true, ↓isn_lst_false, ↓isn_tup_true, ↓isn_tup_false, ↓isn_ref_true, ↓isn_ref_false, ↓cnt_t, ↓rev_t, ↓rev_l, ↓rev_ti, ↓onRef_r, ↓two_tt, ↓two_ll, ↓two_ti, ↓still_t, ↓still_ti, ↓still_l, ↓cut_tup, ↓cut_lst, ↓cut_frz, ↓cut_ti, ↓bop_titi, ↓cop_eq_ti, ↓cop_ne_ti, non_non, non_int, ty_int_int, ty_bool_int, ty_str_int, ty_tup_int, ty_lst_int, ty_dict_int, non_bl, ty_int_bl, ty_bool_bl, ty_str_bl, ty_tup_bl, ty_lst_bl, ty_dict_bl, non_str, ty_int_str, ty_bool_str, ty_str_str, ty_tup_str, ty_lst_str, ty_dict_str, non_tup, ty_int_tup, ty_bool_tup, ty_str_tup, ty_tup_tup, ty_lst_tup, ty_dict_tup, non_lst, ty_int_lst, ty_bool_lst, ty_str_lst, ty_tup_lst, ty_lst_lst, ty_dict_lst, ty_int_non, ty_int_ti, ty_bool_non, ty_bool_ti, ty_str_non, ty_str_ti, ty_tup_non, ty_tup_ti, ty_lst_non, ty_lst_ti, ty_dict_non, ty_dict_ti, ta_tup, ta_lst, ta_ti, ta_int, ta_bl, ta_str, ta_non, st_0, st_1, st_2, st_3, st_4, st_5, st_6, st_7, st_8, st_9, st_10, st_11, st_12, st_13, st_14, st_15, st_16, st_17, st_18, st_19, st_20, st_21, st_22, st_23, bp_nm, bp_tp, bp_ls, bp_ti, bps_nil, bps_nm, sts_nil, sts_cons, wp0_nil, wp_0, wp_1, wp_2, wp_3, wp_4, wp_5, wp_6, wp_7, wp_8, wp_9, wp_10, wp_11, wp_12, wp_13, wp_14, wp_15, wp_16, wp_17, wp_18, wp_19, wp_20, wp_21, wp_22, wp_23, rng_1, rng_2, rng_3, rng_4, rng_5, rng_6, rng_7, brkT, brkF, ti1, ti2, ti3, ti4, ti5, ti6, ti_map, eq_ti, pick, List.cons_append, List.nil_append, List.map_cons, List.map_nil, List.getD_cons_zero, List.getD_cons_succ, Bool.not_true, Bool.not_false]
  rw [e] at h
  exact h
/-! ### the law's own -/
theorem loop_euclid {C : Hd} {N : Ends} : ∀ (b a : Nat), N.nx [some (.int ((Nat.gcd a b : Nat) : Int)), some (.int 0)] S → ∃ f, whlW (tst C X (.cmp .gt (.var 1) (.cst (.int 0)))) (blk C X [.par [0, 1] [(.var 1), (.bin .mod (.bi .int [(.var 0)]) (.var 1))]]) N f [some (.int (a : Int)), some (.int (b : Int))] S := by
  intro b
  induction b using Nat.strongRecOn with
  | ind b ih =>
    intro a h
    by_cases hb : b = 0
    · subst hb
      refine ⟨1, ?_⟩
      simp only [ww_s, blk_app, tst_app, ↓ev_v0, ↓ev_v1, ↓ev_v2, ↓ev_v3, ↓ev_v4, ↓ev_v5, ↓ev_v6, ↓ev_v7, ↓ev_v8, ↓ev_v9, ↓ev_v10, ↓ev_v11, ↓ev_v12, ↓ev_v13, ↓ev_v14, ↓ev_v15, ↓ev_v16, ↓ev_v17, ↓ev_v18, ↓ev_v19, ↓ev_v20, ↓ev_v21, ↓ev_v22, ↓ev_v23, ↓ev_cst, ↓ev_glb, ↓ev_bin, ↓ev_neg, ↓ev_not, ↓ev_cmp, ↓ev_cmp2, ↓ev_and, ↓ev_or, ↓ev_ite, ↓ev_tup, ↓ev_lst, ↓ev_idx, ↓ev_slc, ↓ev_call, ↓ev_callk, ↓ev_bi, ↓ev_isi, ↓ev_isi2, ↓ev_lc, ↓ev_lc2, ↓ev_tcat, ↓ev_rng, ↓ev_rng1, ↓ev_zip, ↓ev_enm, ↓ev_cnt, ↓ev_nset, ↓ev_isn, ↓ev_rev, ↓ev_app, ↓evs_nil, ↓evs_cons, ↓evss_nil, ↓evss_f, ↓evss_t, ↓spr_tup, ↓spr_lst, ↓spr_frz, ↓spr_ti, ↓evo_n, ↓evo_s, ↓evt_n, ↓evt_s, ↓ex_set, ↓ex_par, ↓ex_expr, ↓ex_ret, ↓ex_retN, ↓ex_iff, ↓ex_for, ↓ex_whl, ↓ex_raise, ↓ex_pass, ↓ex_brk, ↓ex_cont, ↓exs_nil, ↓exs_cons, ↓tvf, ↓tvt, ↓asB_bl, ↓asI_i, ↓bop_add, ↓bop_sub, ↓bop_mul, ↓bop_fdv, ↓bop_mod, ↓bop_pow, ↓bop_tt, ↓bop_ll, ↓bop_lm, ↓cop_eq, ↓cop_ne, ↓cop_lt, ↓cop_le, ↓cop_gt, ↓cop_ge, ↓cop_eq_rep, ↓cop_ne_rep, ↓cop_eq_tup, ↓cop_ne_tup, ↓cop_eq_lst, ↓cop_ne_lst, ↓cop_eq_str, ↓cop_ne_str, ↓cop_eq_bl, ↓cop_ne_bl, ↓cop_eq_non, ↓cop_ne_non, ↓cop_is_n, ↓cop_is_b, ↓cop_isnot_n, ↓cop_isnot_b, ↓cop_isin_lst, ↓cop_isin_tup, ↓cop_notin_lst, ↓cop_notin_tup, ↓tru_non, ↓tru_bl, ↓tru_int, ↓tru_tup, ↓tru_lst, ↓seq_tup, ↓itm_tup, ↓seq_lst, ↓itm_lst, ↓seq_frz, ↓itm_frz, ↓itm_itr, ↓seq_ref, ↓itm_ref, ↓seq_ti, ↓itm_ti, ↓onO_s, ↓nth_0, ↓nth_1, ↓nth_2, ↓nth_3, ↓nth_4, ↓nth_5, ↓nth_6, ↓nth_7, ↓nth_8, ↓nth_9, ↓nth_10, ↓nth_11, ↓nth_12, ↓bf_len, ↓bf_abs, ↓bf_max, ↓bf_min, ↓bf_int, ↓bf_intb, ↓bf_dm, ↓bf_gcd, ↓bf_all, ↓bf_any, ↓bf_sum, ↓bf_tup, ↓bf_repl, ↓bf_rept, ↓bf_lst, ↓asg_nm, ↓asg_tp, ↓asg_ls, ↓asg_sub, ↓asg_tg, ↓asg_ti, ↓asgs_nil, ↓asgs_cons, ↓mk_f, ↓mk_t, ↓setn_l, ↓setn_r, ↓isn_lst_true, ↓isn_lst_false, ↓isn_tup_true, ↓isn_tup_false, ↓isn_ref_true, ↓isn_ref_false, ↓cnt_t, ↓rev_t, ↓rev_l, ↓rev_ti, ↓onRef_r, ↓two_tt, ↓two_ll, ↓two_ti, ↓still_t, ↓still_ti, ↓still_l, ↓cut_tup, ↓cut_lst, ↓cut_frz, ↓cut_ti, ↓bop_titi, ↓cop_eq_ti, ↓cop_ne_ti, non_non, non_int, ty_int_int, ty_bool_int, ty_str_int, ty_tup_int, ty_lst_int, ty_dict_int, non_bl, ty_int_bl, ty_bool_bl, ty_str_bl, ty_tup_bl, ty_lst_bl, ty_dict_bl, non_str, ty_int_str, ty_bool_str, ty_str_str, ty_tup_str, ty_lst_str, ty_dict_str, non_tup, ty_int_tup, ty_bool_tup, ty_str_tup, ty_tup_tup, ty_lst_tup, ty_dict_tup, non_lst, ty_int_lst, ty_bool_lst, ty_str_lst, ty_tup_lst, ty_lst_lst, ty_dict_lst, ty_int_non, ty_int_ti, ty_bool_non, ty_bool_ti, ty_str_non, ty_str_ti, ty_tup_non, ty_tup_ti, ty_lst_non, ty_lst_ti, ty_dict_non, ty_dict_ti, ta_tup, ta_lst, ta_ti, ta_int, ta_bl, ta_str, ta_non, st_0, st_1, st_2, st_3, st_4, st_5, st_6, st_7, st_8, st_9, st_10, st_11, st_12, st_13, st_14, st_15, st_16, st_17, st_18, st_19, st_20, st_21, st_22, st_23, bp_nm, bp_tp, bp_ls, bp_ti, bps_nil, bps_nm, sts_nil, sts_cons, wp0_nil, wp_0, wp_1, wp_2, wp_3, wp_4, wp_5, wp_6, wp_7, wp_8, wp_9, wp_10, wp_11, wp_12, wp_13, wp_14, wp_15, wp_16, wp_17, wp_18, wp_19, wp_20, wp_21, wp_22, wp_23, rng_1, rng_2, rng_3, rng_4, rng_5, rng_6, rng_7, brkT, brkF, ti1, ti2, ti3, ti4, ti5, ti6, ti_map, eq_ti, pick, List.cons_append, List.nil_append, List.map_cons, List.map_nil, List.getD_cons_zero, List.getD_cons_succ, Bool.not_true, Bool.not_false]
      rw [Nat.gcd_zero_right] at h
      exact h
    · have hlt : a % b < b := Nat.mod_lt _ (by omega)
      obtain ⟨f, hf⟩ := ih (a % b) hlt b (by rw [show Nat.gcd b (a % b) = Nat.gcd a b from by rw [Nat.gcd_comm b (a % b), ← Nat.gcd_rec, Nat.gcd_comm]]; exact h)
      refine ⟨f + 1, ?_⟩
      simp only [ww_s, blk_app, tst_app, ↓ev_v0, ↓ev_v1, ↓ev_v2, ↓ev_v3, ↓ev_v4, ↓ev_v5, ↓ev_v6, ↓ev_v7, ↓ev_v8, ↓ev_v9, ↓ev_v10, ↓ev_v11, ↓ev_v12, ↓ev_v13, ↓ev_v14, ↓ev_v15, ↓ev_v16, ↓ev_v17, ↓ev_v18, ↓ev_v19, ↓ev_v20, ↓ev_v21, ↓ev_v22, ↓ev_v23, ↓ev_cst, ↓ev_glb, ↓ev_bin, ↓ev_neg, ↓ev_not, ↓ev_cmp, ↓ev_cmp2, ↓ev_and, ↓ev_or, ↓ev_ite, ↓ev_tup, ↓ev_lst, ↓ev_idx, ↓ev_slc, ↓ev_call, ↓ev_callk, ↓ev_bi, ↓ev_isi, ↓ev_isi2, ↓ev_lc, ↓ev_lc2, ↓ev_tcat, ↓ev_rng, ↓ev_rng1, ↓ev_zip, ↓ev_enm, ↓ev_cnt, ↓ev_nset, ↓ev_isn, ↓ev_rev, ↓ev_app, ↓evs_nil, ↓evs_cons, ↓evss_nil, ↓evss_f, ↓evss_t, ↓spr_tup, ↓spr_lst, ↓spr_frz, ↓spr_ti, ↓evo_n, ↓evo_s, ↓evt_n, ↓evt_s, ↓ex_set, ↓ex_par, ↓ex_expr, ↓ex_ret, ↓ex_retN, ↓ex_iff, ↓ex_for, ↓ex_whl, ↓ex_raise, ↓ex_pass, ↓ex_brk, ↓ex_cont, ↓exs_nil, ↓exs_cons, ↓tvf, ↓tvt, ↓asB_bl, ↓asI_i, ↓bop_add, ↓bop_sub, ↓bop_mul, ↓bop_fdv, ↓bop_mod, ↓bop_pow, ↓bop_tt, ↓bop_ll, ↓bop_lm, ↓cop_eq, ↓cop_ne, ↓cop_lt, ↓cop_le, ↓cop_gt, ↓cop_ge, ↓cop_eq_rep, ↓cop_ne_rep, ↓cop_eq_tup, ↓cop_ne_tup, ↓cop_eq_lst, ↓cop_ne_lst, ↓cop_eq_str, ↓cop_ne_str, ↓cop_eq_bl, ↓cop_ne_bl, ↓cop_eq_non, ↓cop_ne_non, ↓cop_is_n, ↓cop_is_b, ↓cop_isnot_n, ↓cop_isnot_b, ↓cop_isin_lst, ↓cop_isin_tup, ↓cop_notin_lst, ↓cop_notin_tup, ↓tru_non, ↓tru_bl, ↓tru_int, ↓tru_tup, ↓tru_lst, ↓seq_tup, ↓itm_tup, ↓seq_lst, ↓itm_lst, ↓seq_frz, ↓itm_frz, ↓itm_itr, ↓seq_ref, ↓itm_ref, ↓seq_ti, ↓itm_ti, ↓onO_s, ↓nth_0, ↓nth_1, ↓nth_2, ↓nth_3, ↓nth_4, ↓nth_5, ↓nth_6, ↓nth_7, ↓nth_8, ↓nth_9, ↓nth_10, ↓nth_11, ↓nth_12, ↓bf_len, ↓bf_abs, ↓bf_max, ↓bf_min, ↓bf_int, ↓bf_intb, ↓bf_dm, ↓bf_gcd, ↓bf_all, ↓bf_any, ↓bf_sum, ↓bf_tup, ↓bf_repl, ↓bf_rept, ↓bf_lst, ↓asg_nm, ↓asg_tp, ↓asg_ls, ↓asg_sub, ↓asg_tg, ↓asg_ti, ↓asgs_nil, ↓asgs_cons, ↓mk_f, ↓mk_t, ↓setn_l, ↓setn_r, ↓isn_lst_true, ↓isn_lst_false, ↓isn_tup_true, ↓isn_tup_false, ↓isn_ref_true, ↓isn_ref_false, ↓cnt_t, ↓rev_t, ↓rev_l, ↓rev_ti, ↓onRef_r, ↓two_tt, ↓two_ll, ↓two_ti, ↓still_t, ↓still_ti, ↓still_l, ↓cut_tup, ↓cut_lst, ↓cut_frz, ↓cut_ti, ↓bop_titi, ↓cop_eq_ti, ↓cop_ne_ti, non_non, non_int, ty_int_int, ty_bool_int, ty_str_int, ty_tup_int, ty_lst_int, ty_dict_int, non_bl, ty_int_bl, ty_bool_bl, ty_str_bl, ty_tup_bl, ty_lst_bl, ty_dict_bl, non_str, ty_int_str, ty_bool_str, ty_str_str, ty_tup_str, ty_lst_str, ty_dict_str, non_tup, ty_int_tup, ty_bool_tup, ty_str_tup, ty_tup_tup, ty_lst_tup, ty_dict_tup, non_lst, ty_int_lst, ty_bool_lst, ty_str_lst, ty_tup_lst, ty_lst_lst, ty_dict_lst, ty_int_non, ty_int_ti, ty_bool_non, ty_bool_ti, ty_str_non, ty_str_ti, ty_tup_non, ty_tup_ti, ty_lst_non, ty_lst_ti, ty_dict_non, ty_dict_ti, ta_tup, ta_lst, ta_ti, ta_int, ta_bl, ta_str, ta_non, st_0, st_1, st_2, st_3, st_4, st_5, st_6, st_7, st_8, st_9, st_10, st_11, st_12, st_13, st_14, st_15, st_16, st_17, st_18, st_19, st_20, st_21, st_22, st_23, bp_nm, bp_tp, bp_ls, bp_ti, bps_nil, bps_nm, sts_nil, sts_cons, wp0_nil, wp_0, wp_1, wp_2, wp_3, wp_4, wp_5, wp_6, wp_7, wp_8, wp_9, wp_10, wp_11, wp_12, wp_13, wp_14, wp_15, wp_16, wp_17, wp_18, wp_19, wp_20, wp_21, wp_22, wp_23, rng_1, rng_2, rng_3, rng_4, rng_5, rng_6, rng_7, brkT, brkF, ti1, ti2, ti3, ti4, ti5, ti6, ti_map, eq_ti, pick, List.cons_append, List.nil_append, List.map_cons, List.map_nil, List.getD_cons_zero, List.getD_cons_succ, Bool.not_true, Bool.not_false]
      have hp : decide ((0 : Int) < (b : Int)) = true := decide_eq_true (by omega)
      refine brk_t hp ⟨by omega, ?_⟩
      have e : Int.fmod (a : Int) (b : Int) = ((a % b : Nat) : Int) := by
        rw [Int.fmod_eq_emod_of_nonneg _ (by omega)]
        rfl
      rw [e]
      exact hf
theorem abs_cast (a : Int) : (if a < 0 then -a else a) = (a.natAbs : Int) := by split <;> omega
theorem s_law_divisor {a b : Int} (h : k (.int (gstep a b)) S) : CT (n + 1) i_law_divisor [.int a, .int b] S k X := by
  refine c_law_divisor ?_
  simp only [f_law_divisor, ↓ev_v0, ↓ev_v1, ↓ev_v2, ↓ev_v3, ↓ev_v4, ↓ev_v5, ↓ev_v6, ↓ev_v7, ↓ev_v8, ↓ev_v9, ↓ev_v10, ↓ev_v11, ↓ev_v12, ↓ev_v13, ↓ev_v14, ↓ev_v15, ↓ev_v16, ↓ev_v17, ↓ev_v18, ↓ev_v19, ↓ev_v20, ↓ev_v21, ↓ev_v22, ↓ev_v23, ↓ev_cst, ↓ev_glb, ↓ev_bin, ↓ev_neg, ↓ev_not, ↓ev_cmp, ↓ev_cmp2, ↓ev_and, ↓ev_or, ↓ev_ite, ↓ev_tup, ↓ev_lst, ↓ev_idx, ↓ev_slc, ↓ev_call, ↓ev_callk, ↓ev_bi, ↓ev_isi, ↓ev_isi2, ↓ev_lc, ↓ev_lc2, ↓ev_tcat, ↓ev_rng, ↓ev_rng1, ↓ev_zip, ↓ev_enm, ↓ev_cnt, ↓ev_nset, ↓ev_isn, ↓ev_rev, ↓ev_app, ↓evs_nil, ↓evs_cons, ↓evss_nil, ↓evss_f, ↓evss_t, ↓spr_tup, ↓spr_lst, ↓spr_frz, ↓spr_ti, ↓evo_n, ↓evo_s, ↓evt_n, ↓evt_s, ↓ex_set, ↓ex_par, ↓ex_expr, ↓ex_ret, ↓ex_retN, ↓ex_iff, ↓ex_for, ↓ex_whl, ↓ex_raise, ↓ex_pass, ↓ex_brk, ↓ex_cont, ↓exs_nil, ↓exs_cons, ↓tvf, ↓tvt, ↓asB_bl, ↓asI_i, ↓bop_add, ↓bop_sub, ↓bop_mul, ↓bop_fdv, ↓bop_mod, ↓bop_pow, ↓bop_tt, ↓bop_ll, ↓bop_lm, ↓cop_eq, ↓cop_ne, ↓cop_lt, ↓cop_le, ↓cop_gt, ↓cop_ge, ↓cop_eq_rep, ↓cop_ne_rep, ↓cop_eq_tup, ↓cop_ne_tup, ↓cop_eq_lst, ↓cop_ne_lst, ↓cop_eq_str, ↓cop_ne_str, ↓cop_eq_bl, ↓cop_ne_bl, ↓cop_eq_non, ↓cop_ne_non, ↓cop_is_n, ↓cop_is_b, ↓cop_isnot_n, ↓cop_isnot_b, ↓cop_isin_lst, ↓cop_isin_tup, ↓cop_notin_lst, ↓cop_notin_tup, ↓tru_non, ↓tru_bl, ↓tru_int, ↓tru_tup, ↓tru_lst, ↓seq_tup, ↓itm_tup, ↓seq_lst, ↓itm_lst, ↓seq_frz, ↓itm_frz, ↓itm_itr, ↓seq_ref, ↓itm_ref, ↓seq_ti, ↓itm_ti, ↓onO_s, ↓nth_0, ↓nth_1, ↓nth_2, ↓nth_3, ↓nth_4, ↓nth_5, ↓nth_6, ↓nth_7, ↓nth_8, ↓nth_9, ↓nth_10, ↓nth_11, ↓nth_12, ↓bf_len, ↓bf_abs, ↓bf_max, ↓bf_min, ↓bf_int, ↓bf_intb, ↓bf_dm, ↓bf_gcd, ↓bf_all, ↓bf_any, ↓bf_sum, ↓bf_tup, ↓bf_repl, ↓bf_rept, ↓bf_lst, ↓asg_nm, ↓asg_tp, ↓asg_ls, ↓asg_sub, ↓asg_tg, ↓asg_ti, ↓asgs_nil, ↓asgs_cons, ↓mk_f, ↓mk_t, ↓setn_l, ↓setn_r, ↓isn_lst_true, ↓isn_lst_false, ↓isn_tup_true, ↓isn_tup_false, ↓isn_ref_true, ↓isn_ref_false, ↓cnt_t, ↓rev_t, ↓rev_l, ↓rev_ti, ↓onRef_r, ↓two_tt, ↓two_ll, ↓two_ti, ↓still_t, ↓still_ti, ↓still_l, ↓cut_tup, ↓cut_lst, ↓cut_frz, ↓cut_ti, ↓bop_titi, ↓cop_eq_ti, ↓cop_ne_ti, non_non, non_int, ty_int_int, ty_bool_int, ty_str_int, ty_tup_int, ty_lst_int, ty_dict_int, non_bl, ty_int_bl, ty_bool_bl, ty_str_bl, ty_tup_bl, ty_lst_bl, ty_dict_bl, non_str, ty_int_str, ty_bool_str, ty_str_str, ty_tup_str, ty_lst_str, ty_dict_str, non_tup, ty_int_tup, ty_bool_tup, ty_str_tup, ty_tup_tup, ty_lst_tup, ty_dict_tup, non_lst, ty_int_lst, ty_bool_lst, ty_str_lst, ty_tup_lst, ty_lst_lst, ty_dict_lst, ty_int_non, ty_int_ti, ty_bool_non, ty_bool_ti, ty_str_non, ty_str_ti, ty_tup_non, ty_tup_ti, ty_lst_non, ty_lst_ti, ty_dict_non, ty_dict_ti, ta_tup, ta_lst, ta_ti, ta_int, ta_bl, ta_str, ta_non, st_0, st_1, st_2, st_3, st_4, st_5, st_6, st_7, st_8, st_9, st_10, st_11, st_12, st_13, st_14, st_15, st_16, st_17, st_18, st_19, st_20, st_21, st_22, st_23, bp_nm, bp_tp, bp_ls, bp_ti, bps_nil, bps_nm, sts_nil, sts_cons, wp0_nil, wp_0, wp_1, wp_2, wp_3, wp_4, wp_5, wp_6, wp_7, wp_8, wp_9, wp_10, wp_11, wp_12, wp_13, wp_14, wp_15, wp_16, wp_17, wp_18, wp_19, wp_20, wp_21, wp_22, wp_23, rng_1, rng_2, rng_3, rng_4, rng_5, rng_6, rng_7, brkT, brkF, ti1, ti2, ti3, ti4, ti5, ti6, ti_map, eq_ti, pick, List.cons_append, List.nil_append, List.map_cons, List.map_nil, List.getD_cons_zero, List.getD_cons_succ, Bool.not_true, Bool.not_false, abs_cast]
  refine loop_euclid _ _ ?_
  exact h
theorem loop_lgcd {N : Ends} {a d : Option D} : ∀ {ns : List Int} {g : Int} {z : Option D}, (∀ z, N.nx [a, some (.int (ns.foldl gstep g)), z, d] S) →
    forW none (blk (CT (n + 1)) X [.set (.pt (.nm 1)) (.call 12 [(.var 1), (.var 2)])]) (.nm 2) N (ns.map D.int) [a, some (.int g), z, d] S
  | [], g, z, h => h z
  | x :: xs, g, z, h => by
    simp only [List.map_cons, fw_cons, blk_app, ↓ev_v0, ↓ev_v1, ↓ev_v2, ↓ev_v3, ↓ev_v4, ↓ev_v5, ↓ev_v6, ↓ev_v7, ↓ev_v8, ↓ev_v9, ↓ev_v10, ↓ev_v11, ↓ev_v12, ↓ev_v13, ↓ev_v14, ↓ev_v15, ↓ev_v16, ↓ev_v17, ↓ev_v18, ↓ev_v19, ↓ev_v20, ↓ev_v21, ↓ev_v22, ↓ev_v23, ↓ev_cst, ↓ev_glb, ↓ev_bin, ↓ev_neg, ↓ev_not, ↓ev_cmp, ↓ev_cmp2, ↓ev_and, ↓ev_or, ↓ev_ite, ↓ev_tup, ↓ev_lst, ↓ev_idx, ↓ev_slc, ↓ev_call, ↓ev_callk, ↓ev_bi, ↓ev_isi, ↓ev_isi2, ↓ev_lc, ↓ev_lc2, ↓ev_tcat, ↓ev_rng, ↓ev_rng1, ↓ev_zip, ↓ev_enm, ↓ev_cnt, ↓ev_nset, ↓ev_isn, ↓ev_rev, ↓ev_app, ↓evs_nil, ↓evs_cons, ↓evss_nil, ↓evss_f, ↓evss_t, ↓spr_tup, ↓spr_lst, ↓spr_frz, ↓spr_ti, ↓evo_n, ↓evo_s, ↓evt_n, ↓evt_s, ↓ex_set, ↓ex_par, ↓ex_expr, ↓ex_ret, ↓ex_retN, ↓ex_iff, ↓ex_for, ↓ex_whl, ↓ex_raise, ↓ex_pass, ↓ex_brk, ↓ex_cont, ↓exs_nil, ↓exs_cons, ↓tvf, ↓tvt, ↓asB_bl, ↓asI_i, ↓bop_add, ↓bop_sub, ↓bop_mul, ↓bop_fdv, ↓bop_mod, ↓bop_pow, ↓bop_tt, ↓bop_ll, ↓bop_lm, ↓cop_eq, ↓cop_ne, ↓cop_lt, ↓cop_le, ↓cop_gt, ↓cop_ge, ↓cop_eq_rep, ↓cop_ne_rep, ↓cop_eq_tup, ↓cop_ne_tup, ↓cop_eq_lst, ↓cop_ne_lst, ↓cop_eq_str, ↓cop_ne_str, ↓cop_eq_bl, ↓cop_ne_bl, ↓cop_eq_non, ↓cop_ne_non, ↓cop_is_n, ↓cop_is_b, ↓cop_isnot_n, ↓cop_isnot_b, ↓cop_isin_lst, ↓cop_isin_tup, ↓cop_notin_lst, ↓cop_notin_tup, ↓tru_non, ↓tru_bl, ↓tru_int, ↓tru_tup, ↓tru_lst, ↓seq_tup, ↓itm_tup, ↓seq_lst, ↓itm_lst, ↓seq_frz, ↓itm_frz, ↓itm_itr, ↓seq_ref, ↓itm_ref, ↓seq_ti, ↓itm_ti, ↓onO_s, ↓nth_0, ↓nth_1, ↓nth_2, ↓nth_3, ↓nth_4, ↓nth_5, ↓nth_6, ↓nth_7, ↓nth_8, ↓nth_9, ↓nth_10, ↓nth_11, ↓nth_12, ↓bf_len, ↓bf_abs, ↓bf_max, ↓bf_min, ↓bf_int, ↓bf_intb, ↓bf_dm, ↓bf_gcd, ↓bf_all, ↓bf_any, ↓bf_sum, ↓bf_tup, ↓bf_repl, ↓bf_rept, ↓bf_lst, ↓asg_nm, ↓asg_tp, ↓asg_ls, ↓asg_sub, ↓asg_tg, ↓asg_ti, ↓asgs_nil, ↓asgs_cons, ↓mk_f, ↓mk_t, ↓setn_l, ↓setn_r, ↓isn_lst_true, ↓isn_lst_false, ↓isn_tup_true, ↓isn_tup_false, ↓isn_ref_true, ↓isn_ref_false, ↓cnt_t, ↓rev_t, ↓rev_l, ↓rev_ti, ↓onRef_r, ↓two_tt, ↓two_ll, ↓two_ti, ↓still_t, ↓still_ti, ↓still_l, ↓cut_tup, ↓cut_lst, ↓cut_frz, ↓cut_ti, ↓bop_titi, ↓cop_eq_ti, ↓cop_ne_ti, non_non, non_int, ty_int_int, ty_bool_int, ty_str_int, ty_tup_int, ty_lst_int, ty_dict_int, non_bl, ty_int_bl, ty_bool_bl, ty_str_bl, ty_tup_bl, ty_lst_bl, ty_dict_bl, non_str, ty_int_str, ty_bool_str, ty_str_str, ty_tup_str, ty_lst_str, ty_dict_str, non_tup, ty_int_tup, ty_bool_tup, ty_str_tup, ty_tup_tup, ty_lst_tup, ty_dict_tup, non_lst, ty_int_lst, ty_bool_lst, ty_str_lst, ty_tup_lst, ty_lst_lst, ty_dict_lst, ty_int_non, ty_int_ti, ty_bool_non, ty_bool_ti, ty_str_non, ty_str_ti, ty_tup_non, ty_tup_ti, ty_lst_non, ty_lst_ti, ty_dict_non, ty_dict_ti, ta_tup, ta_lst, ta_ti, ta_int, ta_bl, ta_str, ta_non, st_0, st_1, st_2, st_3, st_4, st_5, st_6, st_7, st_8, st_9, st_10, st_11, st_12, st_13, st_14, st_15, st_16, st_17, st_18, st_19, st_20, st_21, st_22, st_23, bp_nm, bp_tp, bp_ls, bp_ti, bps_nil, bps_nm, sts_nil, sts_cons, wp0_nil, wp_0, wp_1, wp_2, wp_3, wp_4, wp_5, wp_6, wp_7, wp_8, wp_9, wp_10, wp_11, wp_12, wp_13, wp_14, wp_15, wp_16, wp_17, wp_18, wp_19, wp_20, wp_21, wp_22, wp_23, rng_1, rng_2, rng_3, rng_4, rng_5, rng_6, rng_7, brkT, brkF, ti1, ti2, ti3, ti4, ti5, ti6, ti_map, eq_ti, pick, List.cons_append, List.nil_append, List.map_cons, List.map_nil, List.getD_cons_zero, List.getD_cons_succ, Bool.not_true, Bool.not_false]
    refine s_law_divisor ?_
    exact loop_lgcd (ns := xs) (g := gstep g x) (z := some (.int x)) h
theorem fl_filter : ∀ {ns : List Int}, fl ns ≠ 0 → ∃ r, ns.filter (fun x => !decide (x = 0)) = fl ns :: r
  | [], h => absurd rfl h
  | x :: xs, h => by
    by_cases hx : x = 0
    · subst hx
      obtain ⟨r, e⟩ := fl_filter (ns := xs) h
      exact ⟨r, by rw [List.filter_cons]; exact e⟩
    · refine ⟨xs.filter fun x => !decide (x = 0), ?_⟩
      rw [List.filter_cons]
      simp [hx, fl]
theorem nth_hd {d : D} {ds : List D} : nth (d :: ds) 0 = some d := by
  show L2.atI (d :: ds) 0 = _
  unfold L2.atI
  rw [ixN_in (by decide) (by simp only [List.length_cons]; omega)]
  rfl
theorem s_law_plain {ns : List Int} (hf : fl ns ≠ 0) (hb : Bd ns) (hz : ns.length ≤ SZ) (h : k (ti (pn ns)) S) : CT (n + 2) i_law_plain [ti ns] S k X := by
  refine c_law_plain ?_
  simp only [f_law_plain, ↓ev_v0, ↓ev_v1, ↓ev_v2, ↓ev_v3, ↓ev_v4, ↓ev_v5, ↓ev_v6, ↓ev_v7, ↓ev_v8, ↓ev_v9, ↓ev_v10, ↓ev_v11, ↓ev_v12, ↓ev_v13, ↓ev_v14, ↓ev_v15, ↓ev_v16, ↓ev_v17, ↓ev_v18, ↓ev_v19, ↓ev_v20, ↓ev_v21, ↓ev_v22, ↓ev_v23, ↓ev_cst, ↓ev_glb, ↓ev_bin, ↓ev_neg, ↓ev_not, ↓ev_cmp, ↓ev_cmp2, ↓ev_and, ↓ev_or, ↓ev_ite, ↓ev_tup, ↓ev_lst, ↓ev_idx, ↓ev_slc, ↓ev_call, ↓ev_callk, ↓ev_bi, ↓ev_isi, ↓ev_isi2, ↓ev_lc, ↓ev_lc2, ↓ev_tcat, ↓ev_rng, ↓ev_rng1, ↓ev_zip, ↓ev_enm, ↓ev_cnt, ↓ev_nset, ↓ev_isn, ↓ev_rev, ↓ev_app, ↓evs_nil, ↓evs_cons, ↓evss_nil, ↓evss_f, ↓evss_t, ↓spr_tup, ↓spr_lst, ↓spr_frz, ↓spr_ti, ↓evo_n, ↓evo_s, ↓evt_n, ↓evt_s, ↓ex_set, ↓ex_par, ↓ex_expr, ↓ex_ret, ↓ex_retN, ↓ex_iff, ↓ex_for, ↓ex_whl, ↓ex_raise, ↓ex_pass, ↓ex_brk, ↓ex_cont, ↓exs_nil, ↓exs_cons, ↓tvf, ↓tvt, ↓asB_bl, ↓asI_i, ↓bop_add, ↓bop_sub, ↓bop_mul, ↓bop_fdv, ↓bop_mod, ↓bop_pow, ↓bop_tt, ↓bop_ll, ↓bop_lm, ↓cop_eq, ↓cop_ne, ↓cop_lt, ↓cop_le, ↓cop_gt, ↓cop_ge, ↓cop_eq_rep, ↓cop_ne_rep, ↓cop_eq_tup, ↓cop_ne_tup, ↓cop_eq_lst, ↓cop_ne_lst, ↓cop_eq_str, ↓cop_ne_str, ↓cop_eq_bl, ↓cop_ne_bl, ↓cop_eq_non, ↓cop_ne_non, ↓cop_is_n, ↓cop_is_b, ↓cop_isnot_n, ↓cop_isnot_b, ↓cop_isin_lst, ↓cop_isin_tup, ↓cop_notin_lst, ↓cop_notin_tup, ↓tru_non, ↓tru_bl, ↓tru_int, ↓tru_tup, ↓tru_lst, ↓seq_tup, ↓itm_tup, ↓seq_lst, ↓itm_lst, ↓seq_frz, ↓itm_frz, ↓itm_itr, ↓seq_ref, ↓itm_ref, ↓seq_ti, ↓itm_ti, ↓onO_s, ↓nth_0, ↓nth_1, ↓nth_2, ↓nth_3, ↓nth_4, ↓nth_5, ↓nth_6, ↓nth_7, ↓nth_8, ↓nth_9, ↓nth_10, ↓nth_11, ↓nth_12, ↓bf_len, ↓bf_abs, ↓bf_max, ↓bf_min, ↓bf_int, ↓bf_intb, ↓bf_dm, ↓bf_gcd, ↓bf_all, ↓bf_any, ↓bf_sum, ↓bf_tup, ↓bf_repl, ↓bf_rept, ↓bf_lst, ↓asg_nm, ↓asg_tp, ↓asg_ls, ↓asg_sub, ↓asg_tg, ↓asg_ti, ↓asgs_nil, ↓asgs_cons, ↓mk_f, ↓mk_t, ↓setn_l, ↓setn_r, ↓isn_lst_true, ↓isn_lst_false, ↓isn_tup_true, ↓isn_tup_false, ↓isn_ref_true, ↓isn_ref_false, ↓cnt_t, ↓rev_t, ↓rev_l, ↓rev_ti, ↓onRef_r, ↓two_tt, ↓two_ll, ↓two_ti, ↓still_t, ↓still_ti, ↓still_l, ↓cut_tup, ↓cut_lst, ↓cut_frz, ↓cut_ti, ↓bop_titi, ↓cop_eq_ti, ↓cop_ne_ti, non_non, non_int, ty_int_int, ty_bool_int, ty_str_int, ty_tup_int, ty_lst_int, ty_dict_int, non_bl, ty_int_bl, ty_bool_bl, ty_str_bl, ty_tup_bl, ty_lst_bl, ty_dict_bl, non_str, ty_int_str, ty_bool_str, ty_str_str, ty_tup_str, ty_lst_str, ty_dict_str, non_tup, ty_int_tup, ty_bool_tup, ty_str_tup, ty_tup_tup, ty_lst_tup, ty_dict_tup, non_lst, ty_int_lst, ty_bool_lst, ty_str_lst, ty_tup_lst, ty_lst_lst, ty_dict_lst, ty_int_non, ty_int_ti, ty_bool_non, ty_bool_ti, ty_str_non, ty_str_ti, ty_tup_non, ty_tup_ti, ty_lst_non, ty_lst_ti, ty_dict_non, ty_dict_ti, ta_tup, ta_lst, ta_ti, ta_int, ta_bl, ta_str, ta_non, st_0, st_1, st_2, st_3, st_4, st_5, st_6, st_7, st_8, st_9, st_10, st_11, st_12, st_13, st_14, st_15, st_16, st_17, st_18, st_19, st_20, st_21, st_22, st_23, bp_nm, bp_tp, bp_ls, bp_ti, bps_nil, bps_nm, sts_nil, sts_cons, wp0_nil, wp_0, wp_1, wp_2, wp_3, wp_4, wp_5, wp_6, wp_7, wp_8, wp_9, wp_10, wp_11, wp_12, wp_13, wp_14, wp_15, wp_16, wp_17, wp_18, wp_19, wp_20, wp_21, wp_22, wp_23, rng_1, rng_2, rng_3, rng_4, rng_5, rng_6, rng_7, brkT, brkF, ti1, ti2, ti3, ti4, ti5, ti6, ti_map, eq_ti, pick, List.cons_append, List.nil_append, List.map_cons, List.map_nil, List.getD_cons_zero, List.getD_cons_succ, Bool.not_true, Bool.not_false]
  refine loop_lgcd fun z => ?_
  simp only [↓ev_v0, ↓ev_v1, ↓ev_v2, ↓ev_v3, ↓ev_v4, ↓ev_v5, ↓ev_v6, ↓ev_v7, ↓ev_v8, ↓ev_v9, ↓ev_v10, ↓ev_v11, ↓ev_v12, ↓ev_v13, ↓ev_v14, ↓ev_v15, ↓ev_v16, ↓ev_v17, ↓ev_v18, ↓ev_v19, ↓ev_v20, ↓ev_v21, ↓ev_v22, ↓ev_v23, ↓ev_cst, ↓ev_glb, ↓ev_bin, ↓ev_neg, ↓ev_not, ↓ev_cmp, ↓ev_cmp2, ↓ev_and, ↓ev_or, ↓ev_ite, ↓ev_tup, ↓ev_lst, ↓ev_idx, ↓ev_slc, ↓ev_call, ↓ev_callk, ↓ev_bi, ↓ev_isi, ↓ev_isi2, ↓ev_lc, ↓ev_lc2, ↓ev_tcat, ↓ev_rng, ↓ev_rng1, ↓ev_zip, ↓ev_enm, ↓ev_cnt, ↓ev_nset, ↓ev_isn, ↓ev_rev, ↓ev_app, ↓evs_nil, ↓evs_cons, ↓evss_nil, ↓evss_f, ↓evss_t, ↓spr_tup, ↓spr_lst, ↓spr_frz, ↓spr_ti, ↓evo_n, ↓evo_s, ↓evt_n, ↓evt_s, ↓ex_set, ↓ex_par, ↓ex_expr, ↓ex_ret, ↓ex_retN, ↓ex_iff, ↓ex_for, ↓ex_whl, ↓ex_raise, ↓ex_pass, ↓ex_brk, ↓ex_cont, ↓exs_nil, ↓exs_cons, ↓tvf, ↓tvt, ↓asB_bl, ↓asI_i, ↓bop_add, ↓bop_sub, ↓bop_mul, ↓bop_fdv, ↓bop_mod, ↓bop_pow, ↓bop_tt, ↓bop_ll, ↓bop_lm, ↓cop_eq, ↓cop_ne, ↓cop_lt, ↓cop_le, ↓cop_gt, ↓cop_ge, ↓cop_eq_rep, ↓cop_ne_rep, ↓cop_eq_tup, ↓cop_ne_tup, ↓cop_eq_lst, ↓cop_ne_lst, ↓cop_eq_str, ↓cop_ne_str, ↓cop_eq_bl, ↓cop_ne_bl, ↓cop_eq_non, ↓cop_ne_non, ↓cop_is_n, ↓cop_is_b, ↓cop_isnot_n, ↓cop_isnot_b, ↓cop_isin_lst, ↓cop_isin_tup, ↓cop_notin_lst, ↓cop_notin_tup, ↓tru_non, ↓tru_bl, ↓tru_int, ↓tru_tup, ↓tru_lst, ↓seq_tup, ↓itm_tup, ↓seq_lst, ↓itm_lst, ↓seq_frz, ↓itm_frz, ↓itm_itr, ↓seq_ref, ↓itm_ref, ↓seq_ti, ↓itm_ti, ↓onO_s, ↓nth_0, ↓nth_1, ↓nth_2, ↓nth_3, ↓nth_4, ↓nth_5, ↓nth_6, ↓nth_7, ↓nth_8, ↓nth_9, ↓nth_10, ↓nth_11, ↓nth_12, ↓bf_len, ↓bf_abs, ↓bf_max, ↓bf_min, ↓bf_int, ↓bf_intb, ↓bf_dm, ↓bf_gcd, ↓bf_all, ↓bf_any, ↓bf_sum, ↓bf_tup, ↓bf_repl, ↓bf_rept, ↓bf_lst, ↓asg_nm, ↓asg_tp, ↓asg_ls, ↓asg_sub, ↓asg_tg, ↓asg_ti, ↓asgs_nil, ↓asgs_cons, ↓mk_f, ↓mk_t, ↓setn_l, ↓setn_r, ↓isn_lst_true, ↓isn_lst_false, ↓isn_tup_true, ↓isn_tup_false, ↓isn_ref_true, ↓isn_ref_false, ↓cnt_t, ↓rev_t, ↓rev_l, ↓rev_ti, ↓onRef_r, ↓two_tt, ↓two_ll, ↓two_ti, ↓still_t, ↓still_ti, ↓still_l, ↓cut_tup, ↓cut_lst, ↓cut_frz, ↓cut_ti, ↓bop_titi, ↓cop_eq_ti, ↓cop_ne_ti, non_non, non_int, ty_int_int, ty_bool_int, ty_str_int, ty_tup_int, ty_lst_int, ty_dict_int, non_bl, ty_int_bl, ty_bool_bl, ty_str_bl, ty_tup_bl, ty_lst_bl, ty_dict_bl, non_str, ty_int_str, ty_bool_str, ty_str_str, ty_tup_str, ty_lst_str, ty_dict_str, non_tup, ty_int_tup, ty_bool_tup, ty_str_tup, ty_tup_tup, ty_lst_tup, ty_dict_tup, non_lst, ty_int_lst, ty_bool_lst, ty_str_lst, ty_tup_lst, ty_lst_lst, ty_dict_lst, ty_int_non, ty_int_ti, ty_bool_non, ty_bool_ti, ty_str_non, ty_str_ti, ty_tup_non, ty_tup_ti, ty_lst_non, ty_lst_ti, ty_dict_non, ty_dict_ti, ta_tup, ta_lst, ta_ti, ta_int, ta_bl, ta_str, ta_non, st_0, st_1, st_2, st_3, st_4, st_5, st_6, st_7, st_8, st_9, st_10, st_11, st_12, st_13, st_14, st_15, st_16, st_17, st_18, st_19, st_20, st_21, st_22, st_23, bp_nm, bp_tp, bp_ls, bp_ti, bps_nil, bps_nm, sts_nil, sts_cons, wp0_nil, wp_0, wp_1, wp_2, wp_3, wp_4, wp_5, wp_6, wp_7, wp_8, wp_9, wp_10, wp_11, wp_12, wp_13, wp_14, wp_15, wp_16, wp_17, wp_18, wp_19, wp_20, wp_21, wp_22, wp_23, rng_1, rng_2, rng_3, rng_4, rng_5, rng_6, rng_7, brkT, brkF, ti1, ti2, ti3, ti4, ti5, ti6, ti_map, eq_ti, pick, List.cons_append, List.nil_append, List.map_cons, List.map_nil, List.getD_cons_zero, List.getD_cons_succ, Bool.not_true, Bool.not_false, gfold0]
  refine ⟨by simpa using hz, forC_filt (f := fun x => .int x) (p := fun x => !decide (x = 0)) (fun i hi k2 h2 => ?_) ?_⟩
  · simp only [lc_app', ↓ev_v0, ↓ev_v1, ↓ev_v2, ↓ev_v3, ↓ev_v4, ↓ev_v5, ↓ev_v6, ↓ev_v7, ↓ev_v8, ↓ev_v9, ↓ev_v10, ↓ev_v11, ↓ev_v12, ↓ev_v13, ↓ev_v14, ↓ev_v15, ↓ev_v16, ↓ev_v17, ↓ev_v18, ↓ev_v19, ↓ev_v20, ↓ev_v21, ↓ev_v22, ↓ev_v23, ↓ev_cst, ↓ev_glb, ↓ev_bin, ↓ev_neg, ↓ev_not, ↓ev_cmp, ↓ev_cmp2, ↓ev_and, ↓ev_or, ↓ev_ite, ↓ev_tup, ↓ev_lst, ↓ev_idx, ↓ev_slc, ↓ev_call, ↓ev_callk, ↓ev_bi, ↓ev_isi, ↓ev_isi2, ↓ev_lc, ↓ev_lc2, ↓ev_tcat, ↓ev_rng, ↓ev_rng1, ↓ev_zip, ↓ev_enm, ↓ev_cnt, ↓ev_nset, ↓ev_isn, ↓ev_rev, ↓ev_app, ↓evs_nil, ↓evs_cons, ↓evss_nil, ↓evss_f, ↓evss_t, ↓spr_tup, ↓spr_lst, ↓spr_frz, ↓spr_ti, ↓evo_n, ↓evo_s, ↓evt_n, ↓evt_s, ↓ex_set, ↓ex_par, ↓ex_expr, ↓ex_ret, ↓ex_retN, ↓ex_iff, ↓ex_for, ↓ex_whl, ↓ex_raise, ↓ex_pass, ↓ex_brk, ↓ex_cont, ↓exs_nil, ↓exs_cons, ↓tvf, ↓tvt, ↓asB_bl, ↓asI_i, ↓bop_add, ↓bop_sub, ↓bop_mul, ↓bop_fdv, ↓bop_mod, ↓bop_pow, ↓bop_tt, ↓bop_ll, ↓bop_lm, ↓cop_eq, ↓cop_ne, ↓cop_lt, ↓cop_le, ↓cop_gt, ↓cop_ge, ↓cop_eq_rep, ↓cop_ne_rep, ↓cop_eq_tup, ↓cop_ne_tup, ↓cop_eq_lst, ↓cop_ne_lst, ↓cop_eq_str, ↓cop_ne_str, ↓cop_eq_bl, ↓cop_ne_bl, ↓cop_eq_non, ↓cop_ne_non, ↓cop_is_n, ↓cop_is_b, ↓cop_isnot_n, ↓cop_isnot_b, ↓cop_isin_lst, ↓cop_isin_tup, ↓cop_notin_lst, ↓cop_notin_tup, ↓tru_non, ↓tru_bl, ↓tru_int, ↓tru_tup, ↓tru_lst, ↓seq_tup, ↓itm_tup, ↓seq_lst, ↓itm_lst, ↓seq_frz, ↓itm_frz, ↓itm_itr, ↓seq_ref, ↓itm_ref, ↓seq_ti, ↓itm_ti, ↓onO_s, ↓nth_0, ↓nth_1, ↓nth_2, ↓nth_3, ↓nth_4, ↓nth_5, ↓nth_6, ↓nth_7, ↓nth_8, ↓nth_9, ↓nth_10, ↓nth_11, ↓nth_12, ↓bf_len, ↓bf_abs, ↓bf_max, ↓bf_min, ↓bf_int, ↓bf_intb, ↓bf_dm, ↓bf_gcd, ↓bf_all, ↓bf_any, ↓bf_sum, ↓bf_tup, ↓bf_repl, ↓bf_rept, ↓bf_lst, ↓asg_nm, ↓asg_tp, ↓asg_ls, ↓asg_sub, ↓asg_tg, ↓asg_ti, ↓asgs_nil, ↓asgs_cons, ↓mk_f, ↓mk_t, ↓setn_l, ↓setn_r, ↓isn_lst_true, ↓isn_lst_false, ↓isn_tup_true, ↓isn_tup_false, ↓isn_ref_true, ↓isn_ref_false, ↓cnt_t, ↓rev_t, ↓rev_l, ↓rev_ti, ↓onRef_r, ↓two_tt, ↓two_ll, ↓two_ti, ↓still_t, ↓still_ti, ↓still_l, ↓cut_tup, ↓cut_lst, ↓cut_frz, ↓cut_ti, ↓bop_titi, ↓cop_eq_ti, ↓cop_ne_ti, non_non, non_int, ty_int_int, ty_bool_int, ty_str_int, ty_tup_int, ty_lst_int, ty_dict_int, non_bl, ty_int_bl, ty_bool_bl, ty_str_bl, ty_tup_bl, ty_lst_bl, ty_dict_bl, non_str, ty_int_str, ty_bool_str, ty_str_str, ty_tup_str, ty_lst_str, ty_dict_str, non_tup, ty_int_tup, ty_bool_tup, ty_str_tup, ty_tup_tup, ty_lst_tup, ty_dict_tup, non_lst, ty_int_lst, ty_bool_lst, ty_str_lst, ty_tup_lst, ty_lst_lst, ty_dict_lst, ty_int_non, ty_int_ti, ty_bool_non, ty_bool_ti, ty_str_non, ty_str_ti, ty_tup_non, ty_tup_ti, ty_lst_non, ty_lst_ti, ty_dict_non, ty_dict_ti, ta_tup, ta_lst, ta_ti, ta_int, ta_bl, ta_str, ta_non, st_0, st_1, st_2, st_3, st_4, st_5, st_6, st_7, st_8, st_9, st_10, st_11, st_12, st_13, st_14, st_15, st_16, st_17, st_18, st_19, st_20, st_21, st_22, st_23, bp_nm, bp_tp, bp_ls, bp_ti, bps_nil, bps_nm, sts_nil, sts_cons, wp0_nil, wp_0, wp_1, wp_2, wp_3, wp_4, wp_5, wp_6, wp_7, wp_8, wp_9, wp_10, wp_11, wp_12, wp_13, wp_14, wp_15, wp_16, wp_17, wp_18, wp_19, wp_20, wp_21, wp_22, wp_23, rng_1, rng_2, rng_3, rng_4, rng_5, rng_6, rng_7, brkT, brkF, ti1, ti2, ti3, ti4, ti5, ti6, ti_map, eq_ti, pick, List.cons_append, List.nil_append, List.map_cons, List.map_nil, List.getD_cons_zero, List.getD_cons_succ, Bool.not_true, Bool.not_false]
    refine brk_i (fun e => ?_) fun e => ?_
    · rw [if_pos e] at h2; exact h2
    · rw [if_neg (by rw [e]; decide)] at h2; exact h2
  obtain ⟨r, er⟩ := fl_filter hf
  rw [er]
  simp only [List.map_cons, nth_hd, ↓ev_v0, ↓ev_v1, ↓ev_v2, ↓ev_v3, ↓ev_v4, ↓ev_v5, ↓ev_v6, ↓ev_v7, ↓ev_v8, ↓ev_v9, ↓ev_v10, ↓ev_v11, ↓ev_v12, ↓ev_v13, ↓ev_v14, ↓ev_v15, ↓ev_v16, ↓ev_v17, ↓ev_v18, ↓ev_v19, ↓ev_v20, ↓ev_v21, ↓ev_v22, ↓ev_v23, ↓ev_cst, ↓ev_glb, ↓ev_bin, ↓ev_neg, ↓ev_not, ↓ev_cmp, ↓ev_cmp2, ↓ev_and, ↓ev_or, ↓ev_ite, ↓ev_tup, ↓ev_lst, ↓ev_idx, ↓ev_slc, ↓ev_call, ↓ev_callk, ↓ev_bi, ↓ev_isi, ↓ev_isi2, ↓ev_lc, ↓ev_lc2, ↓ev_tcat, ↓ev_rng, ↓ev_rng1, ↓ev_zip, ↓ev_enm, ↓ev_cnt, ↓ev_nset, ↓ev_isn, ↓ev_rev, ↓ev_app, ↓evs_nil, ↓evs_cons, ↓evss_nil, ↓evss_f, ↓evss_t, ↓spr_tup, ↓spr_lst, ↓spr_frz, ↓spr_ti, ↓evo_n, ↓evo_s, ↓evt_n, ↓evt_s, ↓ex_set, ↓ex_par, ↓ex_expr, ↓ex_ret, ↓ex_retN, ↓ex_iff, ↓ex_for, ↓ex_whl, ↓ex_raise, ↓ex_pass, ↓ex_brk, ↓ex_cont, ↓exs_nil, ↓exs_cons, ↓tvf, ↓tvt, ↓asB_bl, ↓asI_i, ↓bop_add, ↓bop_sub, ↓bop_mul, ↓bop_fdv, ↓bop_mod, ↓bop_pow, ↓bop_tt, ↓bop_ll, ↓bop_lm, ↓cop_eq, ↓cop_ne, ↓cop_lt, ↓cop_le, ↓cop_gt, ↓cop_ge, ↓cop_eq_rep, ↓cop_ne_rep, ↓cop_eq_tup, ↓cop_ne_tup, ↓cop_eq_lst, ↓cop_ne_lst, ↓cop_eq_str, ↓cop_ne_str, ↓cop_eq_bl, ↓cop_ne_bl, ↓cop_eq_non, ↓cop_ne_non, ↓cop_is_n, ↓cop_is_b, ↓cop_isnot_n, ↓cop_isnot_b, ↓cop_isin_lst, ↓cop_isin_tup, ↓cop_notin_lst, ↓cop_notin_tup, ↓tru_non, ↓tru_bl, ↓tru_int, ↓tru_tup, ↓tru_lst, ↓seq_tup, ↓itm_tup, ↓seq_lst, ↓itm_lst, ↓seq_frz, ↓itm_frz, ↓itm_itr, ↓seq_ref, ↓itm_ref, ↓seq_ti, ↓itm_ti, ↓onO_s, ↓nth_0, ↓nth_1, ↓nth_2, ↓nth_3, ↓nth_4, ↓nth_5, ↓nth_6, ↓nth_7, ↓nth_8, ↓nth_9, ↓nth_10, ↓nth_11, ↓nth_12, ↓bf_len, ↓bf_abs, ↓bf_max, ↓bf_min, ↓bf_int, ↓bf_intb, ↓bf_dm, ↓bf_gcd, ↓bf_all, ↓bf_any, ↓bf_sum, ↓bf_tup, ↓bf_repl, ↓bf_rept, ↓bf_lst, ↓asg_nm, ↓asg_tp, ↓asg_ls, ↓asg_sub, ↓asg_tg, ↓asg_ti, ↓asgs_nil, ↓asgs_cons, ↓mk_f, ↓mk_t, ↓setn_l, ↓setn_r, ↓isn_lst_true, ↓isn_lst_false, ↓isn_tup_true, ↓isn_tup_false, ↓isn_ref_true, ↓isn_ref_false, ↓cnt_t, ↓rev_t, ↓rev_l, ↓rev_ti, ↓onRef_r, ↓two_tt, ↓two_ll, ↓two_ti, ↓still_t, ↓still_ti, ↓still_l, ↓cut_tup, ↓cut_lst, ↓cut_frz, ↓cut_ti, ↓bop_titi, ↓cop_eq_ti, ↓cop_ne_ti, non_non, non_int, ty_int_int, ty_bool_int, ty_str_int, ty_tup_int, ty_lst_int, ty_dict_int, non_bl, ty_int_bl, ty_bool_bl, ty_str_bl, ty_tup_bl, ty_lst_bl, ty_dict_bl, non_str, ty_int_str, ty_bool_str, ty_str_str, ty_tup_str, ty_lst_str, ty_dict_str, non_tup, ty_int_tup, ty_bool_tup, ty_str_tup, ty_tup_tup, ty_lst_tup, ty_dict_tup, non_lst, ty_int_lst, ty_bool_lst, ty_str_lst, ty_tup_lst, ty_lst_lst, ty_dict_lst, ty_int_non, ty_int_ti, ty_bool_non, ty_bool_ti, ty_str_non, ty_str_ti, ty_tup_non, ty_tup_ti, ty_lst_non, ty_lst_ti, ty_dict_non, ty_dict_ti, ta_tup, ta_lst, ta_ti, ta_int, ta_bl, ta_str, ta_non, st_0, st_1, st_2, st_3, st_4, st_5, st_6, st_7, st_8, st_9, st_10, st_11, st_12, st_13, st_14, st_15, st_16, st_17, st_18, st_19, st_20, st_21, st_22, st_23, bp_nm, bp_tp, bp_ls, bp_ti, bps_nil, bps_nm, sts_nil, sts_cons, wp0_nil, wp_0, wp_1, wp_2, wp_3, wp_4, wp_5, wp_6, wp_7, wp_8, wp_9, wp_10, wp_11, wp_12, wp_13, wp_14, wp_15, wp_16, wp_17, wp_18, wp_19, wp_20, wp_21, wp_22, wp_23, rng_1, rng_2, rng_3, rng_4, rng_5, rng_6, rng_7, brkT, brkF, ti1, ti2, ti3, ti4, ti5, ti6, ti_map, eq_ti, pick, List.cons_append, List.nil_append, List.map_cons, List.map_nil, List.getD_cons_zero, List.getD_cons_succ, Bool.not_true, Bool.not_false]
  have fin : forC none (lcOne (CT (n + 1)) X [2] (.nm 2) none (.bin .fdiv (.var 2) (.var 1)) [some (ti ns), some (.int (dv ns)), z, some (.int (fl ns))]) (ns.map D.int) S fun zs S5 => k (.tup zs) S5 := by
    refine forC_ints (f := fun x => .int (x.fdiv (dv ns))) (fun i hi k2 h2 => ?_) ?_
    · simp only [lc_app', ↓ev_v0, ↓ev_v1, ↓ev_v2, ↓ev_v3, ↓ev_v4, ↓ev_v5, ↓ev_v6, ↓ev_v7, ↓ev_v8, ↓ev_v9, ↓ev_v10, ↓ev_v11, ↓ev_v12, ↓ev_v13, ↓ev_v14, ↓ev_v15, ↓ev_v16, ↓ev_v17, ↓ev_v18, ↓ev_v19, ↓ev_v20, ↓ev_v21, ↓ev_v22, ↓ev_v23, ↓ev_cst, ↓ev_glb, ↓ev_bin, ↓ev_neg, ↓ev_not, ↓ev_cmp, ↓ev_cmp2, ↓ev_and, ↓ev_or, ↓ev_ite, ↓ev_tup, ↓ev_lst, ↓ev_idx, ↓ev_slc, ↓ev_call, ↓ev_callk, ↓ev_bi, ↓ev_isi, ↓ev_isi2, ↓ev_lc, ↓ev_lc2, ↓ev_tcat, ↓ev_rng, ↓ev_rng1, ↓ev_zip, ↓ev_enm, ↓ev_cnt, ↓ev_nset, ↓ev_isn, ↓ev_rev, ↓ev_app, ↓evs_nil, ↓evs_cons, ↓evss_nil, ↓evss_f, ↓evss_t, ↓spr_tup, ↓spr_lst, ↓spr_frz, ↓spr_ti, ↓evo_n, ↓evo_s, ↓evt_n, ↓evt_s, ↓ex_set, ↓ex_par, ↓ex_expr, ↓ex_ret, ↓ex_retN, ↓ex_iff, ↓ex_for, ↓ex_whl, ↓ex_raise, ↓ex_pass, ↓ex_brk, ↓ex_cont, ↓exs_nil, ↓exs_cons, ↓tvf, ↓tvt, ↓asB_bl, ↓asI_i, ↓bop_add, ↓bop_sub, ↓bop_mul, ↓bop_fdv, ↓bop_mod, ↓bop_pow, ↓bop_tt, ↓bop_ll, ↓bop_lm, ↓cop_eq, ↓cop_ne, ↓cop_lt, ↓cop_le, ↓cop_gt, ↓cop_ge, ↓cop_eq_rep, ↓cop_ne_rep, ↓cop_eq_tup, ↓cop_ne_tup, ↓cop_eq_lst, ↓cop_ne_lst, ↓cop_eq_str, ↓cop_ne_str, ↓cop_eq_bl, ↓cop_ne_bl, ↓cop_eq_non, ↓cop_ne_non, ↓cop_is_n, ↓cop_is_b, ↓cop_isnot_n, ↓cop_isnot_b, ↓cop_isin_lst, ↓cop_isin_tup, ↓cop_notin_lst, ↓cop_notin_tup, ↓tru_non, ↓tru_bl, ↓tru_int, ↓tru_tup, ↓tru_lst, ↓seq_tup, ↓itm_tup, ↓seq_lst, ↓itm_lst, ↓seq_frz, ↓itm_frz, ↓itm_itr, ↓seq_ref, ↓itm_ref, ↓seq_ti, ↓itm_ti, ↓onO_s, ↓nth_0, ↓nth_1, ↓nth_2, ↓nth_3, ↓nth_4, ↓nth_5, ↓nth_6, ↓nth_7, ↓nth_8, ↓nth_9, ↓nth_10, ↓nth_11, ↓nth_12, ↓bf_len, ↓bf_abs, ↓bf_max, ↓bf_min, ↓bf_int, ↓bf_intb, ↓bf_dm, ↓bf_gcd, ↓bf_all, ↓bf_any, ↓bf_sum, ↓bf_tup, ↓bf_repl, ↓bf_rept, ↓bf_lst, ↓asg_nm, ↓asg_tp, ↓asg_ls, ↓asg_sub, ↓asg_tg, ↓asg_ti, ↓asgs_nil, ↓asgs_cons, ↓mk_f, ↓mk_t, ↓setn_l, ↓setn_r, ↓isn_lst_true, ↓isn_lst_false, ↓isn_tup_true, ↓isn_tup_false, ↓isn_ref_true, ↓isn_ref_false, ↓cnt_t, ↓rev_t, ↓rev_l, ↓rev_ti, ↓onRef_r, ↓two_tt, ↓two_ll, ↓two_ti, ↓still_t, ↓still_ti, ↓still_l, ↓cut_tup, ↓cut_lst, ↓cut_frz, ↓cut_ti, ↓bop_titi, ↓cop_eq_ti, ↓cop_ne_ti, non_non, non_int, ty_int_int, ty_bool_int, ty_str_int, ty_tup_int, ty_lst_int, ty_dict_int, non_bl, ty_int_bl, ty_bool_bl, ty_str_bl, ty_tup_bl, ty_lst_bl, ty_dict_bl, non_str, ty_int_str, ty_bool_str, ty_str_str, ty_tup_str, ty_lst_str, ty_dict_str, non_tup, ty_int_tup, ty_bool_tup, ty_str_tup, ty_tup_tup, ty_lst_tup, ty_dict_tup, non_lst, ty_int_lst, ty_bool_lst, ty_str_lst, ty_tup_lst, ty_lst_lst, ty_dict_lst, ty_int_non, ty_int_ti, ty_bool_non, ty_bool_ti, ty_str_non, ty_str_ti, ty_tup_non, ty_tup_ti, ty_lst_non, ty_lst_ti, ty_dict_non, ty_dict_ti, ta_tup, ta_lst, ta_ti, ta_int, ta_bl, ta_str, ta_non, st_0, st_1, st_2, st_3, st_4, st_5, st_6, st_7, st_8, st_9, st_10, st_11, st_12, st_13, st_14, st_15, st_16, st_17, st_18, st_19, st_20, st_21, st_22, st_23, bp_nm, bp_tp, bp_ls, bp_ti, bps_nil, bps_nm, sts_nil, sts_cons, wp0_nil, wp_0, wp_1, wp_2, wp_3, wp_4, wp_5, wp_6, wp_7, wp_8, wp_9, wp_10, wp_11, wp_12, wp_13, wp_14, wp_15, wp_16, wp_17, wp_18, wp_19, wp_20, wp_21, wp_22, wp_23, rng_1, rng_2, rng_3, rng_4, rng_5, rng_6, rng_7, brkT, brkF, ti1, ti2, ti3, ti4, ti5, ti6, ti_map, eq_ti, pick, List.cons_append, List.nil_append, List.map_cons, List.map_nil, List.getD_cons_zero, List.getD_cons_succ, Bool.not_true, Bool.not_false]
      exact ⟨dv_ok hf hb, h2⟩
    · have e : (ns.map fun x => D.int (x.fdiv (dv ns))) = (pn ns).map D.int := by unfold pn; rw [List.map_map]; rfl
      rw [e]
      exact h
  refine brk_i (fun e => ?_) fun e => ?_
  · have d1 : dv ns = (Gg ns : Int) := by unfold dv; rw [if_pos (of_decide_eq_true e)]
    refine ⟨by simpa using hz, ?_⟩
    rw [d1] at fin
    exact fin
  · have d1 : dv ns = 0 - (Gg ns : Int) := by unfold dv; rw [if_neg (of_decide_eq_false e)]; omega
    refine ⟨by simpa using hz, ?_⟩
    rw [d1] at fin
    exact fin
end
end FV
set_option Elab.async false
set_option linter.all false
set_option maxRecDepth 100000
/-! Lb4: the pool; what all laws begin with. -/
namespace FV
section
variable {n : Nat} {S : Store} {k X : D → Store → Prop}
theorem nth_ints {ns : List Int} {t : Int} (h0 : 0 ≤ t) (h1 : t < ns.length) : ∃ i, nth (ns.map D.int) t = some (.int i) := by
  have h2 : t.toNat < (ns.map D.int).length := by rw [List.length_map]; omega
  refine ⟨ns[t.toNat]'(by omega), ?_⟩
  show L2.atI _ t = _
  unfold L2.atI
  rw [ixN_in h0 (by rw [List.length_map]; exact h1)]
  show (ns.map D.int)[t.toNat]? = _
  rw [List.getElem?_map, List.getElem?_eq_getElem (by omega)]
  rfl
theorem Dr.new {S : Store} {a b c : Int} : Pl (S ++ [[.int a, .int b, .int c]]) S.length := ⟨a, b, c, cl_new⟩
end
end FV
set_option Elab.async false
set_option linter.all false
set_option maxRecDepth 100000
/-! D_k14: the draws of k14. -/
namespace FV
section
variable {n : Nat} {S : Store} {k X : D → Store → Prop}
theorem s_law_draw_k14 {l : Nat} {m : Int} (hp : Pl S l) (hm : 0 < m) (hm2 : m.natAbs < 2 ^ 8000) (h : ∀ (r : Int) (S' : Store), 0 ≤ r → r < m → Dr l S S' → k (.int r) S') : CT (n + 1) i_law_draw_v7 [.ref l, .int m] S k X := by
  obtain ⟨a, b, c, e⟩ := hp
  refine c_law_draw_v7 ?_
  simp only [f_law_draw_v7, ↓ev_v0, ↓ev_v1, ↓ev_v2, ↓ev_v3, ↓ev_v4, ↓ev_v5, ↓ev_v6, ↓ev_v7, ↓ev_v8, ↓ev_v9, ↓ev_v10, ↓ev_v11, ↓ev_v12, ↓ev_v13, ↓ev_v14, ↓ev_v15, ↓ev_v16, ↓ev_v17, ↓ev_v18, ↓ev_v19, ↓ev_v20, ↓ev_v21, ↓ev_v22, ↓ev_v23, ↓ev_cst, ↓ev_glb, ↓ev_bin, ↓ev_neg, ↓ev_not, ↓ev_cmp, ↓ev_cmp2, ↓ev_and, ↓ev_or, ↓ev_ite, ↓ev_tup, ↓ev_lst, ↓ev_idx, ↓ev_slc, ↓ev_call, ↓ev_callk, ↓ev_bi, ↓ev_isi, ↓ev_isi2, ↓ev_lc, ↓ev_lc2, ↓ev_tcat, ↓ev_rng, ↓ev_rng1, ↓ev_zip, ↓ev_enm, ↓ev_cnt, ↓ev_nset, ↓ev_dct, ↓ev_cat, ↓ev_isn, ↓ev_rev, ↓ev_app, ↓evs_nil, ↓evs_cons, ↓evss_nil, ↓evss_f, ↓evss_t, ↓spr_tup, ↓spr_lst, ↓spr_frz, ↓spr_ti, ↓evo_n, ↓evo_s, ↓evt_n, ↓evt_s, ↓ex_set, ↓ex_par, ↓ex_expr, ↓ex_ret, ↓ex_retN, ↓ex_iff, ↓ex_for, ↓ex_whl, ↓ex_raise, ↓ex_pass, ↓ex_brk, ↓ex_cont, ↓exs_nil, ↓exs_cons, ↓tvf, ↓tvt, ↓asB_bl, ↓asI_i, ↓bop_add, ↓bop_sub, ↓bop_mul, ↓bop_fdv, ↓bop_mod, ↓bop_pow, ↓bop_tt, ↓bop_ll, ↓bop_lm, ↓cop_eq, ↓cop_ne, ↓cop_lt, ↓cop_le, ↓cop_gt, ↓cop_ge, ↓cop_eq_rep, ↓cop_ne_rep, ↓cop_eq_tup, ↓cop_ne_tup, ↓cop_eq_lst, ↓cop_ne_lst, ↓cop_eq_str, ↓cop_ne_str, ↓cop_eq_bl, ↓cop_ne_bl, ↓cop_eq_non, ↓cop_ne_non, ↓cop_is_n, ↓cop_is_b, ↓cop_isnot_n, ↓cop_isnot_b, ↓cop_isin_lst, ↓cop_isin_tup, ↓cop_notin_lst, ↓cop_notin_tup, ↓tru_non, ↓tru_bl, ↓tru_int, ↓tru_tup, ↓tru_lst, ↓seq_tup, ↓itm_tup, ↓seq_lst, ↓itm_lst, ↓seq_frz, ↓itm_frz, ↓itm_itr, ↓seq_ref, ↓itm_ref, ↓seq_ti, ↓itm_ti, ↓onO_s, ↓nth_0, ↓nth_1, ↓nth_2, ↓nth_3, ↓nth_4, ↓nth_5, ↓nth_6, ↓nth_7, ↓nth_8, ↓nth_9, ↓nth_10, ↓nth_11, ↓nth_12, ↓bf_len, ↓bf_abs, ↓bf_max, ↓bf_min, ↓bf_int, ↓bf_intb, ↓bf_dm, ↓bf_gcd, ↓bf_all, ↓bf_any, ↓bf_sum, ↓bf_tup, ↓bf_repl, ↓bf_stri, ↓bf_rept, ↓bf_lst, ↓asg_nm, ↓asg_tp, ↓asg_ls, ↓asg_sub, ↓asg_tg, ↓asg_ti, ↓asgs_nil, ↓asgs_cons, ↓mk_f, ↓mk_t, ↓setn_l, ↓setn_r, ↓isn_lst_true, ↓isn_lst_false, ↓isn_tup_true, ↓isn_tup_false, ↓isn_ref_true, ↓isn_ref_false, ↓cnt_t, ↓rev_t, ↓rev_l, ↓rev_ti, ↓onRef_r, ↓two_tt, ↓two_ll, ↓two_tl, ↓two_ti, ↓still_t, ↓still_ti, ↓still_l, ↓cut_tup, ↓cut_lst, ↓cut_frz, ↓cut_ti, ↓bop_titi, ↓cop_eq_ti, ↓cop_ne_ti, non_non, non_int, ty_int_int, ty_bool_int, ty_str_int, ty_tup_int, ty_lst_int, ty_dict_int, non_bl, ty_int_bl, ty_bool_bl, ty_str_bl, ty_tup_bl, ty_lst_bl, ty_dict_bl, non_str, ty_int_str, ty_bool_str, ty_str_str, ty_tup_str, ty_lst_str, ty_dict_str, non_tup, ty_int_tup, ty_bool_tup, ty_str_tup, ty_tup_tup, ty_lst_tup, ty_dict_tup, non_lst, ty_int_lst, ty_bool_lst, ty_str_lst, ty_tup_lst, ty_lst_lst, ty_dict_lst, ty_int_non, ty_int_ti, ty_bool_non, ty_bool_ti, ty_str_non, ty_str_ti, ty_tup_non, ty_tup_ti, ty_lst_non, ty_lst_ti, ty_dict_non, ty_dict_ti, ty_int_rep, ty_int_dic, ty_bool_rep, ty_bool_dic, ty_str_rep, ty_str_dic, ty_tup_rep, ty_tup_dic, ty_lst_rep, ty_lst_dic, ty_dict_rep, ty_dict_dic, ta_tup, ta_lst, ta_ti, ta_int, ta_bl, ta_str, ta_non, st_0, st_1, st_2, st_3, st_4, st_5, st_6, st_7, st_8, st_9, st_10, st_11, st_12, st_13, st_14, st_15, st_16, st_17, st_18, st_19, st_20, st_21, st_22, st_23, bp_nm, bp_tp, bp_ls, bp_ti, bps_nil, bps_nm, sts_nil, sts_cons, rowr_l, rowr_r, cat_d, wp0_nil, wp_0, wp_1, wp_2, wp_3, wp_4, wp_5, wp_6, wp_7, wp_8, wp_9, wp_10, wp_11, wp_12, wp_13, wp_14, wp_15, wp_16, wp_17, wp_18, wp_19, wp_20, wp_21, wp_22, wp_23, rng_1, rng_2, rng_3, rng_4, rng_5, rng_6, rng_7, brkT, brkF, ti1, ti2, ti3, ti4, ti5, ti6, ti_map, eq_ti, pick, List.cons_append, List.nil_append, List.map_cons, List.map_nil, List.getD_cons_zero, List.getD_cons_succ, Bool.not_true, Bool.not_false, e, nth3_0, nth3_1, nth3_2]
  refine brk_i (fun hb => ?_) fun hb => ?_
  · refine ⟨⟨hm, by omega, hm2⟩, rfl, ?_⟩
    simp only [e, set3_1]
    refine ⟨in3 (by decide) (by decide), ?_⟩
    refine h _ _ (Int.emod_nonneg _ (by omega)) (Int.emod_lt_of_pos _ hm) ⟨by rw [List.length_set], ⟨_, _, _, cl_set e⟩, fun j hj => cl_ne hj⟩
  · refine ⟨in3 (by decide) (by decide), ?_⟩
    simp only [set3_2, cl_set e, nth3_0, nth3_1, nth3_2]
    have e2 := cl_set (ds := [.int a, .int b, .int (c + 1)]) e
    refine ⟨by decide, mulOk_r ?_ ?_, mulOk_l (by decide) (by decide), by decide, in3 (by decide) (by decide), ?_⟩
    · have := (fmod_lt (a := a) (b := 20011) (by decide)).1; omega
    · have := (fmod_lt (a := a) (b := 20011) (by decide)).2; omega
    simp only [set3_0, cl_set e2, nth3_0]
    refine ⟨⟨by decide, by decide⟩, by omega, ?_⟩
    have q := fmod_lt (a := (Int.fdiv ((a * (a.fmod 20011 + 30011) + 70001 * (c + 1) + 9).fmod 2147483563) 128)) hm
    exact h _ _ q.1 q.2 ⟨by rw [List.length_set, List.length_set], ⟨_, _, _, cl_set e2⟩, fun j hj => (cl_ne hj).trans (cl_ne hj)⟩
theorem s_law_pick_k14 {l : Nat} {d : D} {ds : List D} (hp : Pl S l) (hd : d = .lst ds ∨ d = .tup ds) (h0 : ds ≠ []) (hz : ds.length ≤ SZ) (h : ∀ (x : D) (S' : Store), x ∈ ds → Dr l S S' → k x S') : CT (n + 2) i_law_pick_v7 [.ref l, d] S k X := by
  refine c_law_pick_v7 ?_
  have hl : 0 < ds.length := List.length_pos_iff.mpr h0
  have hb : ((ds.length : Int)).natAbs < 2 ^ 8000 := by
    have : ((ds.length : Int)).natAbs ≤ SZ := by omega
    exact Nat.lt_of_le_of_lt this (by unfold SZ; decide +kernel)
  rcases hd with hd | hd <;> subst hd <;> simp only [f_law_pick_v7, ↓ev_v0, ↓ev_v1, ↓ev_v2, ↓ev_v3, ↓ev_v4, ↓ev_v5, ↓ev_v6, ↓ev_v7, ↓ev_v8, ↓ev_v9, ↓ev_v10, ↓ev_v11, ↓ev_v12, ↓ev_v13, ↓ev_v14, ↓ev_v15, ↓ev_v16, ↓ev_v17, ↓ev_v18, ↓ev_v19, ↓ev_v20, ↓ev_v21, ↓ev_v22, ↓ev_v23, ↓ev_cst, ↓ev_glb, ↓ev_bin, ↓ev_neg, ↓ev_not, ↓ev_cmp, ↓ev_cmp2, ↓ev_and, ↓ev_or, ↓ev_ite, ↓ev_tup, ↓ev_lst, ↓ev_idx, ↓ev_slc, ↓ev_call, ↓ev_callk, ↓ev_bi, ↓ev_isi, ↓ev_isi2, ↓ev_lc, ↓ev_lc2, ↓ev_tcat, ↓ev_rng, ↓ev_rng1, ↓ev_zip, ↓ev_enm, ↓ev_cnt, ↓ev_nset, ↓ev_dct, ↓ev_cat, ↓ev_isn, ↓ev_rev, ↓ev_app, ↓evs_nil, ↓evs_cons, ↓evss_nil, ↓evss_f, ↓evss_t, ↓spr_tup, ↓spr_lst, ↓spr_frz, ↓spr_ti, ↓evo_n, ↓evo_s, ↓evt_n, ↓evt_s, ↓ex_set, ↓ex_par, ↓ex_expr, ↓ex_ret, ↓ex_retN, ↓ex_iff, ↓ex_for, ↓ex_whl, ↓ex_raise, ↓ex_pass, ↓ex_brk, ↓ex_cont, ↓exs_nil, ↓exs_cons, ↓tvf, ↓tvt, ↓asB_bl, ↓asI_i, ↓bop_add, ↓bop_sub, ↓bop_mul, ↓bop_fdv, ↓bop_mod, ↓bop_pow, ↓bop_tt, ↓bop_ll, ↓bop_lm, ↓cop_eq, ↓cop_ne, ↓cop_lt, ↓cop_le, ↓cop_gt, ↓cop_ge, ↓cop_eq_rep, ↓cop_ne_rep, ↓cop_eq_tup, ↓cop_ne_tup, ↓cop_eq_lst, ↓cop_ne_lst, ↓cop_eq_str, ↓cop_ne_str, ↓cop_eq_bl, ↓cop_ne_bl, ↓cop_eq_non, ↓cop_ne_non, ↓cop_is_n, ↓cop_is_b, ↓cop_isnot_n, ↓cop_isnot_b, ↓cop_isin_lst, ↓cop_isin_tup, ↓cop_notin_lst, ↓cop_notin_tup, ↓tru_non, ↓tru_bl, ↓tru_int, ↓tru_tup, ↓tru_lst, ↓seq_tup, ↓itm_tup, ↓seq_lst, ↓itm_lst, ↓seq_frz, ↓itm_frz, ↓itm_itr, ↓seq_ref, ↓itm_ref, ↓seq_ti, ↓itm_ti, ↓onO_s, ↓nth_0, ↓nth_1, ↓nth_2, ↓nth_3, ↓nth_4, ↓nth_5, ↓nth_6, ↓nth_7, ↓nth_8, ↓nth_9, ↓nth_10, ↓nth_11, ↓nth_12, ↓bf_len, ↓bf_abs, ↓bf_max, ↓bf_min, ↓bf_int, ↓bf_intb, ↓bf_dm, ↓bf_gcd, ↓bf_all, ↓bf_any, ↓bf_sum, ↓bf_tup, ↓bf_repl, ↓bf_stri, ↓bf_rept, ↓bf_lst, ↓asg_nm, ↓asg_tp, ↓asg_ls, ↓asg_sub, ↓asg_tg, ↓asg_ti, ↓asgs_nil, ↓asgs_cons, ↓mk_f, ↓mk_t, ↓setn_l, ↓setn_r, ↓isn_lst_true, ↓isn_lst_false, ↓isn_tup_true, ↓isn_tup_false, ↓isn_ref_true, ↓isn_ref_false, ↓cnt_t, ↓rev_t, ↓rev_l, ↓rev_ti, ↓onRef_r, ↓two_tt, ↓two_ll, ↓two_tl, ↓two_ti, ↓still_t, ↓still_ti, ↓still_l, ↓cut_tup, ↓cut_lst, ↓cut_frz, ↓cut_ti, ↓bop_titi, ↓cop_eq_ti, ↓cop_ne_ti, non_non, non_int, ty_int_int, ty_bool_int, ty_str_int, ty_tup_int, ty_lst_int, ty_dict_int, non_bl, ty_int_bl, ty_bool_bl, ty_str_bl, ty_tup_bl, ty_lst_bl, ty_dict_bl, non_str, ty_int_str, ty_bool_str, ty_str_str, ty_tup_str, ty_lst_str, ty_dict_str, non_tup, ty_int_tup, ty_bool_tup, ty_str_tup, ty_tup_tup, ty_lst_tup, ty_dict_tup, non_lst, ty_int_lst, ty_bool_lst, ty_str_lst, ty_tup_lst, ty_lst_lst, ty_dict_lst, ty_int_non, ty_int_ti, ty_bool_non, ty_bool_ti, ty_str_non, ty_str_ti, ty_tup_non, ty_tup_ti, ty_lst_non, ty_lst_ti, ty_dict_non, ty_dict_ti, ty_int_rep, ty_int_dic, ty_bool_rep, ty_bool_dic, ty_str_rep, ty_str_dic, ty_tup_rep, ty_tup_dic, ty_lst_rep, ty_lst_dic, ty_dict_rep, ty_dict_dic, ta_tup, ta_lst, ta_ti, ta_int, ta_bl, ta_str, ta_non, st_0, st_1, st_2, st_3, st_4, st_5, st_6, st_7, st_8, st_9, st_10, st_11, st_12, st_13, st_14, st_15, st_16, st_17, st_18, st_19, st_20, st_21, st_22, st_23, bp_nm, bp_tp, bp_ls, bp_ti, bps_nil, bps_nm, sts_nil, sts_cons, rowr_l, rowr_r, cat_d, wp0_nil, wp_0, wp_1, wp_2, wp_3, wp_4, wp_5, wp_6, wp_7, wp_8, wp_9, wp_10, wp_11, wp_12, wp_13, wp_14, wp_15, wp_16, wp_17, wp_18, wp_19, wp_20, wp_21, wp_22, wp_23, rng_1, rng_2, rng_3, rng_4, rng_5, rng_6, rng_7, brkT, brkF, ti1, ti2, ti3, ti4, ti5, ti6, ti_map, eq_ti, pick, List.cons_append, List.nil_append, List.map_cons, List.map_nil, List.getD_cons_zero, List.getD_cons_succ, Bool.not_true, Bool.not_false]
  · refine s_law_draw_k14 hp (by omega) hb fun r S' r0 r1 dr => ?_
    obtain ⟨x, e, hx⟩ := nth_mem r0 r1
    simp only [↓ev_v0, ↓ev_v1, ↓ev_v2, ↓ev_v3, ↓ev_v4, ↓ev_v5, ↓ev_v6, ↓ev_v7, ↓ev_v8, ↓ev_v9, ↓ev_v10, ↓ev_v11, ↓ev_v12, ↓ev_v13, ↓ev_v14, ↓ev_v15, ↓ev_v16, ↓ev_v17, ↓ev_v18, ↓ev_v19, ↓ev_v20, ↓ev_v21, ↓ev_v22, ↓ev_v23, ↓ev_cst, ↓ev_glb, ↓ev_bin, ↓ev_neg, ↓ev_not, ↓ev_cmp, ↓ev_cmp2, ↓ev_and, ↓ev_or, ↓ev_ite, ↓ev_tup, ↓ev_lst, ↓ev_idx, ↓ev_slc, ↓ev_call, ↓ev_callk, ↓ev_bi, ↓ev_isi, ↓ev_isi2, ↓ev_lc, ↓ev_lc2, ↓ev_tcat, ↓ev_rng, ↓ev_rng1, ↓ev_zip, ↓ev_enm, ↓ev_cnt, ↓ev_nset, ↓ev_dct, ↓ev_cat, ↓ev_isn, ↓ev_rev, ↓ev_app, ↓evs_nil, ↓evs_cons, ↓evss_nil, ↓evss_f, ↓evss_t, ↓spr_tup, ↓spr_lst, ↓spr_frz, ↓spr_ti, ↓evo_n, ↓evo_s, ↓evt_n, ↓evt_s, ↓ex_set, ↓ex_par, ↓ex_expr, ↓ex_ret, ↓ex_retN, ↓ex_iff, ↓ex_for, ↓ex_whl, ↓ex_raise, ↓ex_pass, ↓ex_brk, ↓ex_cont, ↓exs_nil, ↓exs_cons, ↓tvf, ↓tvt, ↓asB_bl, ↓asI_i, ↓bop_add, ↓bop_sub, ↓bop_mul, ↓bop_fdv, ↓bop_mod, ↓bop_pow, ↓bop_tt, ↓bop_ll, ↓bop_lm, ↓cop_eq, ↓cop_ne, ↓cop_lt, ↓cop_le, ↓cop_gt, ↓cop_ge, ↓cop_eq_rep, ↓cop_ne_rep, ↓cop_eq_tup, ↓cop_ne_tup, ↓cop_eq_lst, ↓cop_ne_lst, ↓cop_eq_str, ↓cop_ne_str, ↓cop_eq_bl, ↓cop_ne_bl, ↓cop_eq_non, ↓cop_ne_non, ↓cop_is_n, ↓cop_is_b, ↓cop_isnot_n, ↓cop_isnot_b, ↓cop_isin_lst, ↓cop_isin_tup, ↓cop_notin_lst, ↓cop_notin_tup, ↓tru_non, ↓tru_bl, ↓tru_int, ↓tru_tup, ↓tru_lst, ↓seq_tup, ↓itm_tup, ↓seq_lst, ↓itm_lst, ↓seq_frz, ↓itm_frz, ↓itm_itr, ↓seq_ref, ↓itm_ref, ↓seq_ti, ↓itm_ti, ↓onO_s, ↓nth_0, ↓nth_1, ↓nth_2, ↓nth_3, ↓nth_4, ↓nth_5, ↓nth_6, ↓nth_7, ↓nth_8, ↓nth_9, ↓nth_10, ↓nth_11, ↓nth_12, ↓bf_len, ↓bf_abs, ↓bf_max, ↓bf_min, ↓bf_int, ↓bf_intb, ↓bf_dm, ↓bf_gcd, ↓bf_all, ↓bf_any, ↓bf_sum, ↓bf_tup, ↓bf_repl, ↓bf_stri, ↓bf_rept, ↓bf_lst, ↓asg_nm, ↓asg_tp, ↓asg_ls, ↓asg_sub, ↓asg_tg, ↓asg_ti, ↓asgs_nil, ↓asgs_cons, ↓mk_f, ↓mk_t, ↓setn_l, ↓setn_r, ↓isn_lst_true, ↓isn_lst_false, ↓isn_tup_true, ↓isn_tup_false, ↓isn_ref_true, ↓isn_ref_false, ↓cnt_t, ↓rev_t, ↓rev_l, ↓rev_ti, ↓onRef_r, ↓two_tt, ↓two_ll, ↓two_tl, ↓two_ti, ↓still_t, ↓still_ti, ↓still_l, ↓cut_tup, ↓cut_lst, ↓cut_frz, ↓cut_ti, ↓bop_titi, ↓cop_eq_ti, ↓cop_ne_ti, non_non, non_int, ty_int_int, ty_bool_int, ty_str_int, ty_tup_int, ty_lst_int, ty_dict_int, non_bl, ty_int_bl, ty_bool_bl, ty_str_bl, ty_tup_bl, ty_lst_bl, ty_dict_bl, non_str, ty_int_str, ty_bool_str, ty_str_str, ty_tup_str, ty_lst_str, ty_dict_str, non_tup, ty_int_tup, ty_bool_tup, ty_str_tup, ty_tup_tup, ty_lst_tup, ty_dict_tup, non_lst, ty_int_lst, ty_bool_lst, ty_str_lst, ty_tup_lst, ty_lst_lst, ty_dict_lst, ty_int_non, ty_int_ti, ty_bool_non, ty_bool_ti, ty_str_non, ty_str_ti, ty_tup_non, ty_tup_ti, ty_lst_non, ty_lst_ti, ty_dict_non, ty_dict_ti, ty_int_rep, ty_int_dic, ty_bool_rep, ty_bool_dic, ty_str_rep, ty_str_dic, ty_tup_rep, ty_tup_dic, ty_lst_rep, ty_lst_dic, ty_dict_rep, ty_dict_dic, ta_tup, ta_lst, ta_ti, ta_int, ta_bl, ta_str, ta_non, st_0, st_1, st_2, st_3, st_4, st_5, st_6, st_7, st_8, st_9, st_10, st_11, st_12, st_13, st_14, st_15, st_16, st_17, st_18, st_19, st_20, st_21, st_22, st_23, bp_nm, bp_tp, bp_ls, bp_ti, bps_nil, bps_nm, sts_nil, sts_cons, rowr_l, rowr_r, cat_d, wp0_nil, wp_0, wp_1, wp_2, wp_3, wp_4, wp_5, wp_6, wp_7, wp_8, wp_9, wp_10, wp_11, wp_12, wp_13, wp_14, wp_15, wp_16, wp_17, wp_18, wp_19, wp_20, wp_21, wp_22, wp_23, rng_1, rng_2, rng_3, rng_4, rng_5, rng_6, rng_7, brkT, brkF, ti1, ti2, ti3, ti4, ti5, ti6, ti_map, eq_ti, pick, List.cons_append, List.nil_append, List.map_cons, List.map_nil, List.getD_cons_zero, List.getD_cons_succ, Bool.not_true, Bool.not_false, e]
    exact h x S' hx dr
  · refine s_law_draw_k14 hp (by omega) hb fun r S' r0 r1 dr => ?_
    obtain ⟨x, e, hx⟩ := nth_mem r0 r1
    simp only [↓ev_v0, ↓ev_v1, ↓ev_v2, ↓ev_v3, ↓ev_v4, ↓ev_v5, ↓ev_v6, ↓ev_v7, ↓ev_v8, ↓ev_v9, ↓ev_v10, ↓ev_v11, ↓ev_v12, ↓ev_v13, ↓ev_v14, ↓ev_v15, ↓ev_v16, ↓ev_v17, ↓ev_v18, ↓ev_v19, ↓ev_v20, ↓ev_v21, ↓ev_v22, ↓ev_v23, ↓ev_cst, ↓ev_glb, ↓ev_bin, ↓ev_neg, ↓ev_not, ↓ev_cmp, ↓ev_cmp2, ↓ev_and, ↓ev_or, ↓ev_ite, ↓ev_tup, ↓ev_lst, ↓ev_idx, ↓ev_slc, ↓ev_call, ↓ev_callk, ↓ev_bi, ↓ev_isi, ↓ev_isi2, ↓ev_lc, ↓ev_lc2, ↓ev_tcat, ↓ev_rng, ↓ev_rng1, ↓ev_zip, ↓ev_enm, ↓ev_cnt, ↓ev_nset, ↓ev_dct, ↓ev_cat, ↓ev_isn, ↓ev_rev, ↓ev_app, ↓evs_nil, ↓evs_cons, ↓evss_nil, ↓evss_f, ↓evss_t, ↓spr_tup, ↓spr_lst, ↓spr_frz, ↓spr_ti, ↓evo_n, ↓evo_s, ↓evt_n, ↓evt_s, ↓ex_set, ↓ex_par, ↓ex_expr, ↓ex_ret, ↓ex_retN, ↓ex_iff, ↓ex_for, ↓ex_whl, ↓ex_raise, ↓ex_pass, ↓ex_brk, ↓ex_cont, ↓exs_nil, ↓exs_cons, ↓tvf, ↓tvt, ↓asB_bl, ↓asI_i, ↓bop_add, ↓bop_sub, ↓bop_mul, ↓bop_fdv, ↓bop_mod, ↓bop_pow, ↓bop_tt, ↓bop_ll, ↓bop_lm, ↓cop_eq, ↓cop_ne, ↓cop_lt, ↓cop_le, ↓cop_gt, ↓cop_ge, ↓cop_eq_rep, ↓cop_ne_rep, ↓cop_eq_tup, ↓cop_ne_tup, ↓cop_eq_lst, ↓cop_ne_lst, ↓cop_eq_str, ↓cop_ne_str, ↓cop_eq_bl, ↓cop_ne_bl, ↓cop_eq_non, ↓cop_ne_non, ↓cop_is_n, ↓cop_is_b, ↓cop_isnot_n, ↓cop_isnot_b, ↓cop_isin_lst, ↓cop_isin_tup, ↓cop_notin_lst, ↓cop_notin_tup, ↓tru_non, ↓tru_bl, ↓tru_int, ↓tru_tup, ↓tru_lst, ↓seq_tup, ↓itm_tup, ↓seq_lst, ↓itm_lst, ↓seq_frz, ↓itm_frz, ↓itm_itr, ↓seq_ref, ↓itm_ref, ↓seq_ti, ↓itm_ti, ↓onO_s, ↓nth_0, ↓nth_1, ↓nth_2, ↓nth_3, ↓nth_4, ↓nth_5, ↓nth_6, ↓nth_7, ↓nth_8, ↓nth_9, ↓nth_10, ↓nth_11, ↓nth_12, ↓bf_len, ↓bf_abs, ↓bf_max, ↓bf_min, ↓bf_int, ↓bf_intb, ↓bf_dm, ↓bf_gcd, ↓bf_all, ↓bf_any, ↓bf_sum, ↓bf_tup, ↓bf_repl, ↓bf_stri, ↓bf_rept, ↓bf_lst, ↓asg_nm, ↓asg_tp, ↓asg_ls, ↓asg_sub, ↓asg_tg, ↓asg_ti, ↓asgs_nil, ↓asgs_cons, ↓mk_f, ↓mk_t, ↓setn_l, ↓setn_r, ↓isn_lst_true, ↓isn_lst_false, ↓isn_tup_true, ↓isn_tup_false, ↓isn_ref_true, ↓isn_ref_false, ↓cnt_t, ↓rev_t, ↓rev_l, ↓rev_ti, ↓onRef_r, ↓two_tt, ↓two_ll, ↓two_tl, ↓two_ti, ↓still_t, ↓still_ti, ↓still_l, ↓cut_tup, ↓cut_lst, ↓cut_frz, ↓cut_ti, ↓bop_titi, ↓cop_eq_ti, ↓cop_ne_ti, non_non, non_int, ty_int_int, ty_bool_int, ty_str_int, ty_tup_int, ty_lst_int, ty_dict_int, non_bl, ty_int_bl, ty_bool_bl, ty_str_bl, ty_tup_bl, ty_lst_bl, ty_dict_bl, non_str, ty_int_str, ty_bool_str, ty_str_str, ty_tup_str, ty_lst_str, ty_dict_str, non_tup, ty_int_tup, ty_bool_tup, ty_str_tup, ty_tup_tup, ty_lst_tup, ty_dict_tup, non_lst, ty_int_lst, ty_bool_lst, ty_str_lst, ty_tup_lst, ty_lst_lst, ty_dict_lst, ty_int_non, ty_int_ti, ty_bool_non, ty_bool_ti, ty_str_non, ty_str_ti, ty_tup_non, ty_tup_ti, ty_lst_non, ty_lst_ti, ty_dict_non, ty_dict_ti, ty_int_rep, ty_int_dic, ty_bool_rep, ty_bool_dic, ty_str_rep, ty_str_dic, ty_tup_rep, ty_tup_dic, ty_lst_rep, ty_lst_dic, ty_dict_rep, ty_dict_dic, ta_tup, ta_lst, ta_ti, ta_int, ta_bl, ta_str, ta_non, st_0, st_1, st_2, st_3, st_4, st_5, st_6, st_7, st_8, st_9, st_10, st_11, st_12, st_13, st_14, st_15, st_16, st_17, st_18, st_19, st_20, st_21, st_22, st_23, bp_nm, bp_tp, bp_ls, bp_ti, bps_nil, bps_nm, sts_nil, sts_cons, rowr_l, rowr_r, cat_d, wp0_nil, wp_0, wp_1, wp_2, wp_3, wp_4, wp_5, wp_6, wp_7, wp_8, wp_9, wp_10, wp_11, wp_12, wp_13, wp_14, wp_15, wp_16, wp_17, wp_18, wp_19, wp_20, wp_21, wp_22, wp_23, rng_1, rng_2, rng_3, rng_4, rng_5, rng_6, rng_7, brkT, brkF, ti1, ti2, ti3, ti4, ti5, ti6, ti_map, eq_ti, pick, List.cons_append, List.nil_append, List.map_cons, List.map_nil, List.getD_cons_zero, List.getD_cons_succ, Bool.not_true, Bool.not_false, e]
    exact h x S' hx dr
theorem s_law_number_k14 {l : Nat} {m : Int} (hp : Pl S l) (hm : 0 < m) (hm2 : m < 2 ^ 60 ∨ m.natAbs < 2 ^ 7000) (h : ∀ (x : Int) (S' : Store), -m ≤ x → x ≤ m → Dr l S S' → k (.int x) S') : CT (n + 3) i_law_number_v8 [.ref l, .int m] S k X := by
  have hb : (2 * m + 1).natAbs < 2 ^ 8000 := by
    have h7 : m.natAbs < 2 ^ 7000 := by
      rcases hm2 with z | z
      · have : m.natAbs < 2 ^ 60 := by omega
        exact Nat.lt_of_lt_of_le this (by decide +kernel)
      · exact z
    have h1 : (2 * m + 1).natAbs ≤ 2 * 2 ^ 7000 + 1 := by omega
    exact Nat.lt_of_le_of_lt h1 (by decide +kernel)
  refine c_law_number_v8 ?_
  simp only [f_law_number_v8, ↓ev_v0, ↓ev_v1, ↓ev_v2, ↓ev_v3, ↓ev_v4, ↓ev_v5, ↓ev_v6, ↓ev_v7, ↓ev_v8, ↓ev_v9, ↓ev_v10, ↓ev_v11, ↓ev_v12, ↓ev_v13, ↓ev_v14, ↓ev_v15, ↓ev_v16, ↓ev_v17, ↓ev_v18, ↓ev_v19, ↓ev_v20, ↓ev_v21, ↓ev_v22, ↓ev_v23, ↓ev_cst, ↓ev_glb, ↓ev_bin, ↓ev_neg, ↓ev_not, ↓ev_cmp, ↓ev_cmp2, ↓ev_and, ↓ev_or, ↓ev_ite, ↓ev_tup, ↓ev_lst, ↓ev_idx, ↓ev_slc, ↓ev_call, ↓ev_callk, ↓ev_bi, ↓ev_isi, ↓ev_isi2, ↓ev_lc, ↓ev_lc2, ↓ev_tcat, ↓ev_rng, ↓ev_rng1, ↓ev_zip, ↓ev_enm, ↓ev_cnt, ↓ev_nset, ↓ev_dct, ↓ev_cat, ↓ev_isn, ↓ev_rev, ↓ev_app, ↓evs_nil, ↓evs_cons, ↓evss_nil, ↓evss_f, ↓evss_t, ↓spr_tup, ↓spr_lst, ↓spr_frz, ↓spr_ti, ↓evo_n, ↓evo_s, ↓evt_n, ↓evt_s, ↓ex_set, ↓ex_par, ↓ex_expr, ↓ex_ret, ↓ex_retN, ↓ex_iff, ↓ex_for, ↓ex_whl, ↓ex_raise, ↓ex_pass, ↓ex_brk, ↓ex_cont, ↓exs_nil, ↓exs_cons, ↓tvf, ↓tvt, ↓asB_bl, ↓asI_i, ↓bop_add, ↓bop_sub, ↓bop_mul, ↓bop_fdv, ↓bop_mod, ↓bop_pow, ↓bop_tt, ↓bop_ll, ↓bop_lm, ↓cop_eq, ↓cop_ne, ↓cop_lt, ↓cop_le, ↓cop_gt, ↓cop_ge, ↓cop_eq_rep, ↓cop_ne_rep, ↓cop_eq_tup, ↓cop_ne_tup, ↓cop_eq_lst, ↓cop_ne_lst, ↓cop_eq_str, ↓cop_ne_str, ↓cop_eq_bl, ↓cop_ne_bl, ↓cop_eq_non, ↓cop_ne_non, ↓cop_is_n, ↓cop_is_b, ↓cop_isnot_n, ↓cop_isnot_b, ↓cop_isin_lst, ↓cop_isin_tup, ↓cop_notin_lst, ↓cop_notin_tup, ↓tru_non, ↓tru_bl, ↓tru_int, ↓tru_tup, ↓tru_lst, ↓seq_tup, ↓itm_tup, ↓seq_lst, ↓itm_lst, ↓seq_frz, ↓itm_frz, ↓itm_itr, ↓seq_ref, ↓itm_ref, ↓seq_ti, ↓itm_ti, ↓onO_s, ↓nth_0, ↓nth_1, ↓nth_2, ↓nth_3, ↓nth_4, ↓nth_5, ↓nth_6, ↓nth_7, ↓nth_8, ↓nth_9, ↓nth_10, ↓nth_11, ↓nth_12, ↓bf_len, ↓bf_abs, ↓bf_max, ↓bf_min, ↓bf_int, ↓bf_intb, ↓bf_dm, ↓bf_gcd, ↓bf_all, ↓bf_any, ↓bf_sum, ↓bf_tup, ↓bf_repl, ↓bf_stri, ↓bf_rept, ↓bf_lst, ↓asg_nm, ↓asg_tp, ↓asg_ls, ↓asg_sub, ↓asg_tg, ↓asg_ti, ↓asgs_nil, ↓asgs_cons, ↓mk_f, ↓mk_t, ↓setn_l, ↓setn_r, ↓isn_lst_true, ↓isn_lst_false, ↓isn_tup_true, ↓isn_tup_false, ↓isn_ref_true, ↓isn_ref_false, ↓cnt_t, ↓rev_t, ↓rev_l, ↓rev_ti, ↓onRef_r, ↓two_tt, ↓two_ll, ↓two_tl, ↓two_ti, ↓still_t, ↓still_ti, ↓still_l, ↓cut_tup, ↓cut_lst, ↓cut_frz, ↓cut_ti, ↓bop_titi, ↓cop_eq_ti, ↓cop_ne_ti, non_non, non_int, ty_int_int, ty_bool_int, ty_str_int, ty_tup_int, ty_lst_int, ty_dict_int, non_bl, ty_int_bl, ty_bool_bl, ty_str_bl, ty_tup_bl, ty_lst_bl, ty_dict_bl, non_str, ty_int_str, ty_bool_str, ty_str_str, ty_tup_str, ty_lst_str, ty_dict_str, non_tup, ty_int_tup, ty_bool_tup, ty_str_tup, ty_tup_tup, ty_lst_tup, ty_dict_tup, non_lst, ty_int_lst, ty_bool_lst, ty_str_lst, ty_tup_lst, ty_lst_lst, ty_dict_lst, ty_int_non, ty_int_ti, ty_bool_non, ty_bool_ti, ty_str_non, ty_str_ti, ty_tup_non, ty_tup_ti, ty_lst_non, ty_lst_ti, ty_dict_non, ty_dict_ti, ty_int_rep, ty_int_dic, ty_bool_rep, ty_bool_dic, ty_str_rep, ty_str_dic, ty_tup_rep, ty_tup_dic, ty_lst_rep, ty_lst_dic, ty_dict_rep, ty_dict_dic, ta_tup, ta_lst, ta_ti, ta_int, ta_bl, ta_str, ta_non, st_0, st_1, st_2, st_3, st_4, st_5, st_6, st_7, st_8, st_9, st_10, st_11, st_12, st_13, st_14, st_15, st_16, st_17, st_18, st_19, st_20, st_21, st_22, st_23, bp_nm, bp_tp, bp_ls, bp_ti, bps_nil, bps_nm, sts_nil, sts_cons, rowr_l, rowr_r, cat_d, wp0_nil, wp_0, wp_1, wp_2, wp_3, wp_4, wp_5, wp_6, wp_7, wp_8, wp_9, wp_10, wp_11, wp_12, wp_13, wp_14, wp_15, wp_16, wp_17, wp_18, wp_19, wp_20, wp_21, wp_22, wp_23, rng_1, rng_2, rng_3, rng_4, rng_5, rng_6, rng_7, brkT, brkF, ti1, ti2, ti3, ti4, ti5, ti6, ti_map, eq_ti, pick, List.cons_append, List.nil_append, List.map_cons, List.map_nil, List.getD_cons_zero, List.getD_cons_succ, Bool.not_true, Bool.not_false]
  refine ⟨mulOk_l (by decide) (by decide), ?_⟩
  refine s_law_draw_k14 hp (by omega) hb fun r S1 r0 r1 d1 => ?_
  simp only [↓ev_v0, ↓ev_v1, ↓ev_v2, ↓ev_v3, ↓ev_v4, ↓ev_v5, ↓ev_v6, ↓ev_v7, ↓ev_v8, ↓ev_v9, ↓ev_v10, ↓ev_v11, ↓ev_v12, ↓ev_v13, ↓ev_v14, ↓ev_v15, ↓ev_v16, ↓ev_v17, ↓ev_v18, ↓ev_v19, ↓ev_v20, ↓ev_v21, ↓ev_v22, ↓ev_v23, ↓ev_cst, ↓ev_glb, ↓ev_bin, ↓ev_neg, ↓ev_not, ↓ev_cmp, ↓ev_cmp2, ↓ev_and, ↓ev_or, ↓ev_ite, ↓ev_tup, ↓ev_lst, ↓ev_idx, ↓ev_slc, ↓ev_call, ↓ev_callk, ↓ev_bi, ↓ev_isi, ↓ev_isi2, ↓ev_lc, ↓ev_lc2, ↓ev_tcat, ↓ev_rng, ↓ev_rng1, ↓ev_zip, ↓ev_enm, ↓ev_cnt, ↓ev_nset, ↓ev_dct, ↓ev_cat, ↓ev_isn, ↓ev_rev, ↓ev_app, ↓evs_nil, ↓evs_cons, ↓evss_nil, ↓evss_f, ↓evss_t, ↓spr_tup, ↓spr_lst, ↓spr_frz, ↓spr_ti, ↓evo_n, ↓evo_s, ↓evt_n, ↓evt_s, ↓ex_set, ↓ex_par, ↓ex_expr, ↓ex_ret, ↓ex_retN, ↓ex_iff, ↓ex_for, ↓ex_whl, ↓ex_raise, ↓ex_pass, ↓ex_brk, ↓ex_cont, ↓exs_nil, ↓exs_cons, ↓tvf, ↓tvt, ↓asB_bl, ↓asI_i, ↓bop_add, ↓bop_sub, ↓bop_mul, ↓bop_fdv, ↓bop_mod, ↓bop_pow, ↓bop_tt, ↓bop_ll, ↓bop_lm, ↓cop_eq, ↓cop_ne, ↓cop_lt, ↓cop_le, ↓cop_gt, ↓cop_ge, ↓cop_eq_rep, ↓cop_ne_rep, ↓cop_eq_tup, ↓cop_ne_tup, ↓cop_eq_lst, ↓cop_ne_lst, ↓cop_eq_str, ↓cop_ne_str, ↓cop_eq_bl, ↓cop_ne_bl, ↓cop_eq_non, ↓cop_ne_non, ↓cop_is_n, ↓cop_is_b, ↓cop_isnot_n, ↓cop_isnot_b, ↓cop_isin_lst, ↓cop_isin_tup, ↓cop_notin_lst, ↓cop_notin_tup, ↓tru_non, ↓tru_bl, ↓tru_int, ↓tru_tup, ↓tru_lst, ↓seq_tup, ↓itm_tup, ↓seq_lst, ↓itm_lst, ↓seq_frz, ↓itm_frz, ↓itm_itr, ↓seq_ref, ↓itm_ref, ↓seq_ti, ↓itm_ti, ↓onO_s, ↓nth_0, ↓nth_1, ↓nth_2, ↓nth_3, ↓nth_4, ↓nth_5, ↓nth_6, ↓nth_7, ↓nth_8, ↓nth_9, ↓nth_10, ↓nth_11, ↓nth_12, ↓bf_len, ↓bf_abs, ↓bf_max, ↓bf_min, ↓bf_int, ↓bf_intb, ↓bf_dm, ↓bf_gcd, ↓bf_all, ↓bf_any, ↓bf_sum, ↓bf_tup, ↓bf_repl, ↓bf_stri, ↓bf_rept, ↓bf_lst, ↓asg_nm, ↓asg_tp, ↓asg_ls, ↓asg_sub, ↓asg_tg, ↓asg_ti, ↓asgs_nil, ↓asgs_cons, ↓mk_f, ↓mk_t, ↓setn_l, ↓setn_r, ↓isn_lst_true, ↓isn_lst_false, ↓isn_tup_true, ↓isn_tup_false, ↓isn_ref_true, ↓isn_ref_false, ↓cnt_t, ↓rev_t, ↓rev_l, ↓rev_ti, ↓onRef_r, ↓two_tt, ↓two_ll, ↓two_tl, ↓two_ti, ↓still_t, ↓still_ti, ↓still_l, ↓cut_tup, ↓cut_lst, ↓cut_frz, ↓cut_ti, ↓bop_titi, ↓cop_eq_ti, ↓cop_ne_ti, non_non, non_int, ty_int_int, ty_bool_int, ty_str_int, ty_tup_int, ty_lst_int, ty_dict_int, non_bl, ty_int_bl, ty_bool_bl, ty_str_bl, ty_tup_bl, ty_lst_bl, ty_dict_bl, non_str, ty_int_str, ty_bool_str, ty_str_str, ty_tup_str, ty_lst_str, ty_dict_str, non_tup, ty_int_tup, ty_bool_tup, ty_str_tup, ty_tup_tup, ty_lst_tup, ty_dict_tup, non_lst, ty_int_lst, ty_bool_lst, ty_str_lst, ty_tup_lst, ty_lst_lst, ty_dict_lst, ty_int_non, ty_int_ti, ty_bool_non, ty_bool_ti, ty_str_non, ty_str_ti, ty_tup_non, ty_tup_ti, ty_lst_non, ty_lst_ti, ty_dict_non, ty_dict_ti, ty_int_rep, ty_int_dic, ty_bool_rep, ty_bool_dic, ty_str_rep, ty_str_dic, ty_tup_rep, ty_tup_dic, ty_lst_rep, ty_lst_dic, ty_dict_rep, ty_dict_dic, ta_tup, ta_lst, ta_ti, ta_int, ta_bl, ta_str, ta_non, st_0, st_1, st_2, st_3, st_4, st_5, st_6, st_7, st_8, st_9, st_10, st_11, st_12, st_13, st_14, st_15, st_16, st_17, st_18, st_19, st_20, st_21, st_22, st_23, bp_nm, bp_tp, bp_ls, bp_ti, bps_nil, bps_nm, sts_nil, sts_cons, rowr_l, rowr_r, cat_d, wp0_nil, wp_0, wp_1, wp_2, wp_3, wp_4, wp_5, wp_6, wp_7, wp_8, wp_9, wp_10, wp_11, wp_12, wp_13, wp_14, wp_15, wp_16, wp_17, wp_18, wp_19, wp_20, wp_21, wp_22, wp_23, rng_1, rng_2, rng_3, rng_4, rng_5, rng_6, rng_7, brkT, brkF, ti1, ti2, ti3, ti4, ti5, ti6, ti_map, eq_ti, pick, List.cons_append, List.nil_append, List.map_cons, List.map_nil, List.getD_cons_zero, List.getD_cons_succ, Bool.not_true, Bool.not_false]
  refine ⟨mulOk_l (by decide) (by decide), ?_⟩
  refine s_law_draw_k14 d1.pl (by omega) hb fun q S2 q0 q1 d2 => ?_
  simp only [↓ev_v0, ↓ev_v1, ↓ev_v2, ↓ev_v3, ↓ev_v4, ↓ev_v5, ↓ev_v6, ↓ev_v7, ↓ev_v8, ↓ev_v9, ↓ev_v10, ↓ev_v11, ↓ev_v12, ↓ev_v13, ↓ev_v14, ↓ev_v15, ↓ev_v16, ↓ev_v17, ↓ev_v18, ↓ev_v19, ↓ev_v20, ↓ev_v21, ↓ev_v22, ↓ev_v23, ↓ev_cst, ↓ev_glb, ↓ev_bin, ↓ev_neg, ↓ev_not, ↓ev_cmp, ↓ev_cmp2, ↓ev_and, ↓ev_or, ↓ev_ite, ↓ev_tup, ↓ev_lst, ↓ev_idx, ↓ev_slc, ↓ev_call, ↓ev_callk, ↓ev_bi, ↓ev_isi, ↓ev_isi2, ↓ev_lc, ↓ev_lc2, ↓ev_tcat, ↓ev_rng, ↓ev_rng1, ↓ev_zip, ↓ev_enm, ↓ev_cnt, ↓ev_nset, ↓ev_dct, ↓ev_cat, ↓ev_isn, ↓ev_rev, ↓ev_app, ↓evs_nil, ↓evs_cons, ↓evss_nil, ↓evss_f, ↓evss_t, ↓spr_tup, ↓spr_lst, ↓spr_frz, ↓spr_ti, ↓evo_n, ↓evo_s, ↓evt_n, ↓evt_s, ↓ex_set, ↓ex_par, ↓ex_expr, ↓ex_ret, ↓ex_retN, ↓ex_iff, ↓ex_for, ↓ex_whl, ↓ex_raise, ↓ex_pass, ↓ex_brk, ↓ex_cont, ↓exs_nil, ↓exs_cons, ↓tvf, ↓tvt, ↓asB_bl, ↓asI_i, ↓bop_add, ↓bop_sub, ↓bop_mul, ↓bop_fdv, ↓bop_mod, ↓bop_pow, ↓bop_tt, ↓bop_ll, ↓bop_lm, ↓cop_eq, ↓cop_ne, ↓cop_lt, ↓cop_le, ↓cop_gt, ↓cop_ge, ↓cop_eq_rep, ↓cop_ne_rep, ↓cop_eq_tup, ↓cop_ne_tup, ↓cop_eq_lst, ↓cop_ne_lst, ↓cop_eq_str, ↓cop_ne_str, ↓cop_eq_bl, ↓cop_ne_bl, ↓cop_eq_non, ↓cop_ne_non, ↓cop_is_n, ↓cop_is_b, ↓cop_isnot_n, ↓cop_isnot_b, ↓cop_isin_lst, ↓cop_isin_tup, ↓cop_notin_lst, ↓cop_notin_tup, ↓tru_non, ↓tru_bl, ↓tru_int, ↓tru_tup, ↓tru_lst, ↓seq_tup, ↓itm_tup, ↓seq_lst, ↓itm_lst, ↓seq_frz, ↓itm_frz, ↓itm_itr, ↓seq_ref, ↓itm_ref, ↓seq_ti, ↓itm_ti, ↓onO_s, ↓nth_0, ↓nth_1, ↓nth_2, ↓nth_3, ↓nth_4, ↓nth_5, ↓nth_6, ↓nth_7, ↓nth_8, ↓nth_9, ↓nth_10, ↓nth_11, ↓nth_12, ↓bf_len, ↓bf_abs, ↓bf_max, ↓bf_min, ↓bf_int, ↓bf_intb, ↓bf_dm, ↓bf_gcd, ↓bf_all, ↓bf_any, ↓bf_sum, ↓bf_tup, ↓bf_repl, ↓bf_stri, ↓bf_rept, ↓bf_lst, ↓asg_nm, ↓asg_tp, ↓asg_ls, ↓asg_sub, ↓asg_tg, ↓asg_ti, ↓asgs_nil, ↓asgs_cons, ↓mk_f, ↓mk_t, ↓setn_l, ↓setn_r, ↓isn_lst_true, ↓isn_lst_false, ↓isn_tup_true, ↓isn_tup_false, ↓isn_ref_true, ↓isn_ref_false, ↓cnt_t, ↓rev_t, ↓rev_l, ↓rev_ti, ↓onRef_r, ↓two_tt, ↓two_ll, ↓two_tl, ↓two_ti, ↓still_t, ↓still_ti, ↓still_l, ↓cut_tup, ↓cut_lst, ↓cut_frz, ↓cut_ti, ↓bop_titi, ↓cop_eq_ti, ↓cop_ne_ti, non_non, non_int, ty_int_int, ty_bool_int, ty_str_int, ty_tup_int, ty_lst_int, ty_dict_int, non_bl, ty_int_bl, ty_bool_bl, ty_str_bl, ty_tup_bl, ty_lst_bl, ty_dict_bl, non_str, ty_int_str, ty_bool_str, ty_str_str, ty_tup_str, ty_lst_str, ty_dict_str, non_tup, ty_int_tup, ty_bool_tup, ty_str_tup, ty_tup_tup, ty_lst_tup, ty_dict_tup, non_lst, ty_int_lst, ty_bool_lst, ty_str_lst, ty_tup_lst, ty_lst_lst, ty_dict_lst, ty_int_non, ty_int_ti, ty_bool_non, ty_bool_ti, ty_str_non, ty_str_ti, ty_tup_non, ty_tup_ti, ty_lst_non, ty_lst_ti, ty_dict_non, ty_dict_ti, ty_int_rep, ty_int_dic, ty_bool_rep, ty_bool_dic, ty_str_rep, ty_str_dic, ty_tup_rep, ty_tup_dic, ty_lst_rep, ty_lst_dic, ty_dict_rep, ty_dict_dic, ta_tup, ta_lst, ta_ti, ta_int, ta_bl, ta_str, ta_non, st_0, st_1, st_2, st_3, st_4, st_5, st_6, st_7, st_8, st_9, st_10, st_11, st_12, st_13, st_14, st_15, st_16, st_17, st_18, st_19, st_20, st_21, st_22, st_23, bp_nm, bp_tp, bp_ls, bp_ti, bps_nil, bps_nm, sts_nil, sts_cons, rowr_l, rowr_r, cat_d, wp0_nil, wp_0, wp_1, wp_2, wp_3, wp_4, wp_5, wp_6, wp_7, wp_8, wp_9, wp_10, wp_11, wp_12, wp_13, wp_14, wp_15, wp_16, wp_17, wp_18, wp_19, wp_20, wp_21, wp_22, wp_23, rng_1, rng_2, rng_3, rng_4, rng_5, rng_6, rng_7, brkT, brkF, ti1, ti2, ti3, ti4, ti5, ti6, ti_map, eq_ti, pick, List.cons_append, List.nil_append, List.map_cons, List.map_nil, List.getD_cons_zero, List.getD_cons_succ, Bool.not_true, Bool.not_false]
  refine s_law_pick_k14 d2.pl (.inl rfl) (by simp) (by unfold SZ; simp) fun x S3 hx d3 => ?_
  have dr := (d1.trans d2).trans d3
  simp only [List.mem_cons, List.not_mem_nil, or_false] at hx
  rcases hx with rfl | rfl | rfl | rfl | rfl
  · exact h _ _ (by omega) (by omega) dr
  · exact h _ _ (by omega) (by omega) dr
  · exact h _ _ (by omega) (by omega) dr
  · exact h _ _ (by omega) (by omega) dr
  · exact h _ _ (by omega) (by omega) dr
theorem loop_stir_k14 {C : Hd} {N : Ends} {a b c : Option D} : ∀ {ds : List D} {g : Int} {z : Option D}, (∀ d ∈ ds, ∃ i, d = .int i) → (∀ g z, N.nx [a, b, c, some (.int g), z] S) →
    forW none (blk C X [.set (.pt (.nm 3)) (.bin .mod (.bi .int [(.bin .add (.bin .add (.bin .mul (.var 3) (.cst (.int 48271))) (.bin .mod (.bi .int [(.var 4)]) (.cst (.int 2147483563)))) (.cst (.int 217)))]) (.cst (.int 2147483563)))]) (.nm 4) N ds [a, b, c, some (.int g), z] S
  | [], g, z, _, h => h g z
  | d :: ds, g, z, hd, h => by
    obtain ⟨i, rfl⟩ := hd d List.mem_cons_self
    simp only [fw_cons, blk_app, ↓ev_v0, ↓ev_v1, ↓ev_v2, ↓ev_v3, ↓ev_v4, ↓ev_v5, ↓ev_v6, ↓ev_v7, ↓ev_v8, ↓ev_v9, ↓ev_v10, ↓ev_v11, ↓ev_v12, ↓ev_v13, ↓ev_v14, ↓ev_v15, ↓ev_v16, ↓ev_v17, ↓ev_v18, ↓ev_v19, ↓ev_v20, ↓ev_v21, ↓ev_v22, ↓ev_v23, ↓ev_cst, ↓ev_glb, ↓ev_bin, ↓ev_neg, ↓ev_not, ↓ev_cmp, ↓ev_cmp2, ↓ev_and, ↓ev_or, ↓ev_ite, ↓ev_tup, ↓ev_lst, ↓ev_idx, ↓ev_slc, ↓ev_call, ↓ev_callk, ↓ev_bi, ↓ev_isi, ↓ev_isi2, ↓ev_lc, ↓ev_lc2, ↓ev_tcat, ↓ev_rng, ↓ev_rng1, ↓ev_zip, ↓ev_enm, ↓ev_cnt, ↓ev_nset, ↓ev_dct, ↓ev_cat, ↓ev_isn, ↓ev_rev, ↓ev_app, ↓evs_nil, ↓evs_cons, ↓evss_nil, ↓evss_f, ↓evss_t, ↓spr_tup, ↓spr_lst, ↓spr_frz, ↓spr_ti, ↓evo_n, ↓evo_s, ↓evt_n, ↓evt_s, ↓ex_set, ↓ex_par, ↓ex_expr, ↓ex_ret, ↓ex_retN, ↓ex_iff, ↓ex_for, ↓ex_whl, ↓ex_raise, ↓ex_pass, ↓ex_brk, ↓ex_cont, ↓exs_nil, ↓exs_cons, ↓tvf, ↓tvt, ↓asB_bl, ↓asI_i, ↓bop_add, ↓bop_sub, ↓bop_mul, ↓bop_fdv, ↓bop_mod, ↓bop_pow, ↓bop_tt, ↓bop_ll, ↓bop_lm, ↓cop_eq, ↓cop_ne, ↓cop_lt, ↓cop_le, ↓cop_gt, ↓cop_ge, ↓cop_eq_rep, ↓cop_ne_rep, ↓cop_eq_tup, ↓cop_ne_tup, ↓cop_eq_lst, ↓cop_ne_lst, ↓cop_eq_str, ↓cop_ne_str, ↓cop_eq_bl, ↓cop_ne_bl, ↓cop_eq_non, ↓cop_ne_non, ↓cop_is_n, ↓cop_is_b, ↓cop_isnot_n, ↓cop_isnot_b, ↓cop_isin_lst, ↓cop_isin_tup, ↓cop_notin_lst, ↓cop_notin_tup, ↓tru_non, ↓tru_bl, ↓tru_int, ↓tru_tup, ↓tru_lst, ↓seq_tup, ↓itm_tup, ↓seq_lst, ↓itm_lst, ↓seq_frz, ↓itm_frz, ↓itm_itr, ↓seq_ref, ↓itm_ref, ↓seq_ti, ↓itm_ti, ↓onO_s, ↓nth_0, ↓nth_1, ↓nth_2, ↓nth_3, ↓nth_4, ↓nth_5, ↓nth_6, ↓nth_7, ↓nth_8, ↓nth_9, ↓nth_10, ↓nth_11, ↓nth_12, ↓bf_len, ↓bf_abs, ↓bf_max, ↓bf_min, ↓bf_int, ↓bf_intb, ↓bf_dm, ↓bf_gcd, ↓bf_all, ↓bf_any, ↓bf_sum, ↓bf_tup, ↓bf_repl, ↓bf_stri, ↓bf_rept, ↓bf_lst, ↓asg_nm, ↓asg_tp, ↓asg_ls, ↓asg_sub, ↓asg_tg, ↓asg_ti, ↓asgs_nil, ↓asgs_cons, ↓mk_f, ↓mk_t, ↓setn_l, ↓setn_r, ↓isn_lst_true, ↓isn_lst_false, ↓isn_tup_true, ↓isn_tup_false, ↓isn_ref_true, ↓isn_ref_false, ↓cnt_t, ↓rev_t, ↓rev_l, ↓rev_ti, ↓onRef_r, ↓two_tt, ↓two_ll, ↓two_tl, ↓two_ti, ↓still_t, ↓still_ti, ↓still_l, ↓cut_tup, ↓cut_lst, ↓cut_frz, ↓cut_ti, ↓bop_titi, ↓cop_eq_ti, ↓cop_ne_ti, non_non, non_int, ty_int_int, ty_bool_int, ty_str_int, ty_tup_int, ty_lst_int, ty_dict_int, non_bl, ty_int_bl, ty_bool_bl, ty_str_bl, ty_tup_bl, ty_lst_bl, ty_dict_bl, non_str, ty_int_str, ty_bool_str, ty_str_str, ty_tup_str, ty_lst_str, ty_dict_str, non_tup, ty_int_tup, ty_bool_tup, ty_str_tup, ty_tup_tup, ty_lst_tup, ty_dict_tup, non_lst, ty_int_lst, ty_bool_lst, ty_str_lst, ty_tup_lst, ty_lst_lst, ty_dict_lst, ty_int_non, ty_int_ti, ty_bool_non, ty_bool_ti, ty_str_non, ty_str_ti, ty_tup_non, ty_tup_ti, ty_lst_non, ty_lst_ti, ty_dict_non, ty_dict_ti, ty_int_rep, ty_int_dic, ty_bool_rep, ty_bool_dic, ty_str_rep, ty_str_dic, ty_tup_rep, ty_tup_dic, ty_lst_rep, ty_lst_dic, ty_dict_rep, ty_dict_dic, ta_tup, ta_lst, ta_ti, ta_int, ta_bl, ta_str, ta_non, st_0, st_1, st_2, st_3, st_4, st_5, st_6, st_7, st_8, st_9, st_10, st_11, st_12, st_13, st_14, st_15, st_16, st_17, st_18, st_19, st_20, st_21, st_22, st_23, bp_nm, bp_tp, bp_ls, bp_ti, bps_nil, bps_nm, sts_nil, sts_cons, rowr_l, rowr_r, cat_d, wp0_nil, wp_0, wp_1, wp_2, wp_3, wp_4, wp_5, wp_6, wp_7, wp_8, wp_9, wp_10, wp_11, wp_12, wp_13, wp_14, wp_15, wp_16, wp_17, wp_18, wp_19, wp_20, wp_21, wp_22, wp_23, rng_1, rng_2, rng_3, rng_4, rng_5, rng_6, rng_7, brkT, brkF, ti1, ti2, ti3, ti4, ti5, ti6, ti_map, eq_ti, pick, List.cons_append, List.nil_append, List.map_cons, List.map_nil, List.getD_cons_zero, List.getD_cons_succ, Bool.not_true, Bool.not_false]
    exact ⟨mulOk_r (by decide) (by decide), by decide, by decide, loop_stir_k14 (fun e he => hd e (List.mem_cons_of_mem _ he)) h⟩
theorem s_law_pool_k14 {ns : List Int} {t : Int} (h0 : 0 ≤ t) (h : ∀ a b c : Int, k (.ref S.length) (S ++ [[.int a, .int b, .int c]])) : CT (n + 1) i_law_pool_v11 [.frz (ns.map D.int), .int t] S k X := by
  refine c_law_pool_v11 ?_
  have rest : ∀ own : Int, exs (CT n) X (f_law_pool_v11.body.drop 1) [some (.frz (ns.map D.int)), some (.int t), some (.int own), some (.int (301375 + 5087 * t)), none] S { nx := fun _ S1 => k .non S1, rt := k, bk := fun _ _ => False, ct := fun _ _ => False } := by
    intro own
    simp only [f_law_pool_v11, List.drop_succ_cons, List.drop_zero, ↓ev_v0, ↓ev_v1, ↓ev_v2, ↓ev_v3, ↓ev_v4, ↓ev_v5, ↓ev_v6, ↓ev_v7, ↓ev_v8, ↓ev_v9, ↓ev_v10, ↓ev_v11, ↓ev_v12, ↓ev_v13, ↓ev_v14, ↓ev_v15, ↓ev_v16, ↓ev_v17, ↓ev_v18, ↓ev_v19, ↓ev_v20, ↓ev_v21, ↓ev_v22, ↓ev_v23, ↓ev_cst, ↓ev_glb, ↓ev_bin, ↓ev_neg, ↓ev_not, ↓ev_cmp, ↓ev_cmp2, ↓ev_and, ↓ev_or, ↓ev_ite, ↓ev_tup, ↓ev_lst, ↓ev_idx, ↓ev_slc, ↓ev_call, ↓ev_callk, ↓ev_bi, ↓ev_isi, ↓ev_isi2, ↓ev_lc, ↓ev_lc2, ↓ev_tcat, ↓ev_rng, ↓ev_rng1, ↓ev_zip, ↓ev_enm, ↓ev_cnt, ↓ev_nset, ↓ev_dct, ↓ev_cat, ↓ev_isn, ↓ev_rev, ↓ev_app, ↓evs_nil, ↓evs_cons, ↓evss_nil, ↓evss_f, ↓evss_t, ↓spr_tup, ↓spr_lst, ↓spr_frz, ↓spr_ti, ↓evo_n, ↓evo_s, ↓evt_n, ↓evt_s, ↓ex_set, ↓ex_par, ↓ex_expr, ↓ex_ret, ↓ex_retN, ↓ex_iff, ↓ex_for, ↓ex_whl, ↓ex_raise, ↓ex_pass, ↓ex_brk, ↓ex_cont, ↓exs_nil, ↓exs_cons, ↓tvf, ↓tvt, ↓asB_bl, ↓asI_i, ↓bop_add, ↓bop_sub, ↓bop_mul, ↓bop_fdv, ↓bop_mod, ↓bop_pow, ↓bop_tt, ↓bop_ll, ↓bop_lm, ↓cop_eq, ↓cop_ne, ↓cop_lt, ↓cop_le, ↓cop_gt, ↓cop_ge, ↓cop_eq_rep, ↓cop_ne_rep, ↓cop_eq_tup, ↓cop_ne_tup, ↓cop_eq_lst, ↓cop_ne_lst, ↓cop_eq_str, ↓cop_ne_str, ↓cop_eq_bl, ↓cop_ne_bl, ↓cop_eq_non, ↓cop_ne_non, ↓cop_is_n, ↓cop_is_b, ↓cop_isnot_n, ↓cop_isnot_b, ↓cop_isin_lst, ↓cop_isin_tup, ↓cop_notin_lst, ↓cop_notin_tup, ↓tru_non, ↓tru_bl, ↓tru_int, ↓tru_tup, ↓tru_lst, ↓seq_tup, ↓itm_tup, ↓seq_lst, ↓itm_lst, ↓seq_frz, ↓itm_frz, ↓itm_itr, ↓seq_ref, ↓itm_ref, ↓seq_ti, ↓itm_ti, ↓onO_s, ↓nth_0, ↓nth_1, ↓nth_2, ↓nth_3, ↓nth_4, ↓nth_5, ↓nth_6, ↓nth_7, ↓nth_8, ↓nth_9, ↓nth_10, ↓nth_11, ↓nth_12, ↓bf_len, ↓bf_abs, ↓bf_max, ↓bf_min, ↓bf_int, ↓bf_intb, ↓bf_dm, ↓bf_gcd, ↓bf_all, ↓bf_any, ↓bf_sum, ↓bf_tup, ↓bf_repl, ↓bf_stri, ↓bf_rept, ↓bf_lst, ↓asg_nm, ↓asg_tp, ↓asg_ls, ↓asg_sub, ↓asg_tg, ↓asg_ti, ↓asgs_nil, ↓asgs_cons, ↓mk_f, ↓mk_t, ↓setn_l, ↓setn_r, ↓isn_lst_true, ↓isn_lst_false, ↓isn_tup_true, ↓isn_tup_false, ↓isn_ref_true, ↓isn_ref_false, ↓cnt_t, ↓rev_t, ↓rev_l, ↓rev_ti, ↓onRef_r, ↓two_tt, ↓two_ll, ↓two_tl, ↓two_ti, ↓still_t, ↓still_ti, ↓still_l, ↓cut_tup, ↓cut_lst, ↓cut_frz, ↓cut_ti, ↓bop_titi, ↓cop_eq_ti, ↓cop_ne_ti, non_non, non_int, ty_int_int, ty_bool_int, ty_str_int, ty_tup_int, ty_lst_int, ty_dict_int, non_bl, ty_int_bl, ty_bool_bl, ty_str_bl, ty_tup_bl, ty_lst_bl, ty_dict_bl, non_str, ty_int_str, ty_bool_str, ty_str_str, ty_tup_str, ty_lst_str, ty_dict_str, non_tup, ty_int_tup, ty_bool_tup, ty_str_tup, ty_tup_tup, ty_lst_tup, ty_dict_tup, non_lst, ty_int_lst, ty_bool_lst, ty_str_lst, ty_tup_lst, ty_lst_lst, ty_dict_lst, ty_int_non, ty_int_ti, ty_bool_non, ty_bool_ti, ty_str_non, ty_str_ti, ty_tup_non, ty_tup_ti, ty_lst_non, ty_lst_ti, ty_dict_non, ty_dict_ti, ty_int_rep, ty_int_dic, ty_bool_rep, ty_bool_dic, ty_str_rep, ty_str_dic, ty_tup_rep, ty_tup_dic, ty_lst_rep, ty_lst_dic, ty_dict_rep, ty_dict_dic, ta_tup, ta_lst, ta_ti, ta_int, ta_bl, ta_str, ta_non, st_0, st_1, st_2, st_3, st_4, st_5, st_6, st_7, st_8, st_9, st_10, st_11, st_12, st_13, st_14, st_15, st_16, st_17, st_18, st_19, st_20, st_21, st_22, st_23, bp_nm, bp_tp, bp_ls, bp_ti, bps_nil, bps_nm, sts_nil, sts_cons, rowr_l, rowr_r, cat_d, wp0_nil, wp_0, wp_1, wp_2, wp_3, wp_4, wp_5, wp_6, wp_7, wp_8, wp_9, wp_10, wp_11, wp_12, wp_13, wp_14, wp_15, wp_16, wp_17, wp_18, wp_19, wp_20, wp_21, wp_22, wp_23, rng_1, rng_2, rng_3, rng_4, rng_5, rng_6, rng_7, brkT, brkF, ti1, ti2, ti3, ti4, ti5, ti6, ti_map, eq_ti, pick, List.cons_append, List.nil_append, List.map_cons, List.map_nil, List.getD_cons_zero, List.getD_cons_succ, Bool.not_true, Bool.not_false]
    refine loop_stir_k14 (fun d hd => ?_) fun g z => ?_
    · obtain ⟨i, _, e⟩ := List.mem_map.mp (List.mem_of_mem_drop (List.mem_of_mem_take hd))
      exact ⟨i, e.symm⟩
    · simp only [↓ev_v0, ↓ev_v1, ↓ev_v2, ↓ev_v3, ↓ev_v4, ↓ev_v5, ↓ev_v6, ↓ev_v7, ↓ev_v8, ↓ev_v9, ↓ev_v10, ↓ev_v11, ↓ev_v12, ↓ev_v13, ↓ev_v14, ↓ev_v15, ↓ev_v16, ↓ev_v17, ↓ev_v18, ↓ev_v19, ↓ev_v20, ↓ev_v21, ↓ev_v22, ↓ev_v23, ↓ev_cst, ↓ev_glb, ↓ev_bin, ↓ev_neg, ↓ev_not, ↓ev_cmp, ↓ev_cmp2, ↓ev_and, ↓ev_or, ↓ev_ite, ↓ev_tup, ↓ev_lst, ↓ev_idx, ↓ev_slc, ↓ev_call, ↓ev_callk, ↓ev_bi, ↓ev_isi, ↓ev_isi2, ↓ev_lc, ↓ev_lc2, ↓ev_tcat, ↓ev_rng, ↓ev_rng1, ↓ev_zip, ↓ev_enm, ↓ev_cnt, ↓ev_nset, ↓ev_dct, ↓ev_cat, ↓ev_isn, ↓ev_rev, ↓ev_app, ↓evs_nil, ↓evs_cons, ↓evss_nil, ↓evss_f, ↓evss_t, ↓spr_tup, ↓spr_lst, ↓spr_frz, ↓spr_ti, ↓evo_n, ↓evo_s, ↓evt_n, ↓evt_s, ↓ex_set, ↓ex_par, ↓ex_expr, ↓ex_ret, ↓ex_retN, ↓ex_iff, ↓ex_for, ↓ex_whl, ↓ex_raise, ↓ex_pass, ↓ex_brk, ↓ex_cont, ↓exs_nil, ↓exs_cons, ↓tvf, ↓tvt, ↓asB_bl, ↓asI_i, ↓bop_add, ↓bop_sub, ↓bop_mul, ↓bop_fdv, ↓bop_mod, ↓bop_pow, ↓bop_tt, ↓bop_ll, ↓bop_lm, ↓cop_eq, ↓cop_ne, ↓cop_lt, ↓cop_le, ↓cop_gt, ↓cop_ge, ↓cop_eq_rep, ↓cop_ne_rep, ↓cop_eq_tup, ↓cop_ne_tup, ↓cop_eq_lst, ↓cop_ne_lst, ↓cop_eq_str, ↓cop_ne_str, ↓cop_eq_bl, ↓cop_ne_bl, ↓cop_eq_non, ↓cop_ne_non, ↓cop_is_n, ↓cop_is_b, ↓cop_isnot_n, ↓cop_isnot_b, ↓cop_isin_lst, ↓cop_isin_tup, ↓cop_notin_lst, ↓cop_notin_tup, ↓tru_non, ↓tru_bl, ↓tru_int, ↓tru_tup, ↓tru_lst, ↓seq_tup, ↓itm_tup, ↓seq_lst, ↓itm_lst, ↓seq_frz, ↓itm_frz, ↓itm_itr, ↓seq_ref, ↓itm_ref, ↓seq_ti, ↓itm_ti, ↓onO_s, ↓nth_0, ↓nth_1, ↓nth_2, ↓nth_3, ↓nth_4, ↓nth_5, ↓nth_6, ↓nth_7, ↓nth_8, ↓nth_9, ↓nth_10, ↓nth_11, ↓nth_12, ↓bf_len, ↓bf_abs, ↓bf_max, ↓bf_min, ↓bf_int, ↓bf_intb, ↓bf_dm, ↓bf_gcd, ↓bf_all, ↓bf_any, ↓bf_sum, ↓bf_tup, ↓bf_repl, ↓bf_stri, ↓bf_rept, ↓bf_lst, ↓asg_nm, ↓asg_tp, ↓asg_ls, ↓asg_sub, ↓asg_tg, ↓asg_ti, ↓asgs_nil, ↓asgs_cons, ↓mk_f, ↓mk_t, ↓setn_l, ↓setn_r, ↓isn_lst_true, ↓isn_lst_false, ↓isn_tup_true, ↓isn_tup_false, ↓isn_ref_true, ↓isn_ref_false, ↓cnt_t, ↓rev_t, ↓rev_l, ↓rev_ti, ↓onRef_r, ↓two_tt, ↓two_ll, ↓two_tl, ↓two_ti, ↓still_t, ↓still_ti, ↓still_l, ↓cut_tup, ↓cut_lst, ↓cut_frz, ↓cut_ti, ↓bop_titi, ↓cop_eq_ti, ↓cop_ne_ti, non_non, non_int, ty_int_int, ty_bool_int, ty_str_int, ty_tup_int, ty_lst_int, ty_dict_int, non_bl, ty_int_bl, ty_bool_bl, ty_str_bl, ty_tup_bl, ty_lst_bl, ty_dict_bl, non_str, ty_int_str, ty_bool_str, ty_str_str, ty_tup_str, ty_lst_str, ty_dict_str, non_tup, ty_int_tup, ty_bool_tup, ty_str_tup, ty_tup_tup, ty_lst_tup, ty_dict_tup, non_lst, ty_int_lst, ty_bool_lst, ty_str_lst, ty_tup_lst, ty_lst_lst, ty_dict_lst, ty_int_non, ty_int_ti, ty_bool_non, ty_bool_ti, ty_str_non, ty_str_ti, ty_tup_non, ty_tup_ti, ty_lst_non, ty_lst_ti, ty_dict_non, ty_dict_ti, ty_int_rep, ty_int_dic, ty_bool_rep, ty_bool_dic, ty_str_rep, ty_str_dic, ty_tup_rep, ty_tup_dic, ty_lst_rep, ty_lst_dic, ty_dict_rep, ty_dict_dic, ta_tup, ta_lst, ta_ti, ta_int, ta_bl, ta_str, ta_non, st_0, st_1, st_2, st_3, st_4, st_5, st_6, st_7, st_8, st_9, st_10, st_11, st_12, st_13, st_14, st_15, st_16, st_17, st_18, st_19, st_20, st_21, st_22, st_23, bp_nm, bp_tp, bp_ls, bp_ti, bps_nil, bps_nm, sts_nil, sts_cons, rowr_l, rowr_r, cat_d, wp0_nil, wp_0, wp_1, wp_2, wp_3, wp_4, wp_5, wp_6, wp_7, wp_8, wp_9, wp_10, wp_11, wp_12, wp_13, wp_14, wp_15, wp_16, wp_17, wp_18, wp_19, wp_20, wp_21, wp_22, wp_23, rng_1, rng_2, rng_3, rng_4, rng_5, rng_6, rng_7, brkT, brkF, ti1, ti2, ti3, ti4, ti5, ti6, ti_map, eq_ti, pick, List.cons_append, List.nil_append, List.map_cons, List.map_nil, List.getD_cons_zero, List.getD_cons_succ, Bool.not_true, Bool.not_false]
      refine ⟨mulOk_r (by decide) (by decide), by decide, ?_⟩
      refine brk_i (fun _ => h _ _ _) fun _ => ⟨by decide, brk_i (fun _ => h _ _ _) fun _ => h _ _ _⟩
  simp only [f_law_pool_v11, ↓ev_v0, ↓ev_v1, ↓ev_v2, ↓ev_v3, ↓ev_v4, ↓ev_v5, ↓ev_v6, ↓ev_v7, ↓ev_v8, ↓ev_v9, ↓ev_v10, ↓ev_v11, ↓ev_v12, ↓ev_v13, ↓ev_v14, ↓ev_v15, ↓ev_v16, ↓ev_v17, ↓ev_v18, ↓ev_v19, ↓ev_v20, ↓ev_v21, ↓ev_v22, ↓ev_v23, ↓ev_cst, ↓ev_glb, ↓ev_bin, ↓ev_neg, ↓ev_not, ↓ev_cmp, ↓ev_cmp2, ↓ev_and, ↓ev_or, ↓ev_ite, ↓ev_tup, ↓ev_lst, ↓ev_idx, ↓ev_slc, ↓ev_call, ↓ev_callk, ↓ev_bi, ↓ev_isi, ↓ev_isi2, ↓ev_lc, ↓ev_lc2, ↓ev_tcat, ↓ev_rng, ↓ev_rng1, ↓ev_zip, ↓ev_enm, ↓ev_cnt, ↓ev_nset, ↓ev_dct, ↓ev_cat, ↓ev_isn, ↓ev_rev, ↓ev_app, ↓evs_nil, ↓evs_cons, ↓evss_nil, ↓evss_f, ↓evss_t, ↓spr_tup, ↓spr_lst, ↓spr_frz, ↓spr_ti, ↓evo_n, ↓evo_s, ↓evt_n, ↓evt_s, ↓ex_set, ↓ex_par, ↓ex_expr, ↓ex_ret, ↓ex_retN, ↓ex_iff, ↓ex_for, ↓ex_whl, ↓ex_raise, ↓ex_pass, ↓ex_brk, ↓ex_cont, ↓exs_nil, ↓exs_cons, ↓tvf, ↓tvt, ↓asB_bl, ↓asI_i, ↓bop_add, ↓bop_sub, ↓bop_mul, ↓bop_fdv, ↓bop_mod, ↓bop_pow, ↓bop_tt, ↓bop_ll, ↓bop_lm, ↓cop_eq, ↓cop_ne, ↓cop_lt, ↓cop_le, ↓cop_gt, ↓cop_ge, ↓cop_eq_rep, ↓cop_ne_rep, ↓cop_eq_tup, ↓cop_ne_tup, ↓cop_eq_lst, ↓cop_ne_lst, ↓cop_eq_str, ↓cop_ne_str, ↓cop_eq_bl, ↓cop_ne_bl, ↓cop_eq_non, ↓cop_ne_non, ↓cop_is_n, ↓cop_is_b, ↓cop_isnot_n, ↓cop_isnot_b, ↓cop_isin_lst, ↓cop_isin_tup, ↓cop_notin_lst, ↓cop_notin_tup, ↓tru_non, ↓tru_bl, ↓tru_int, ↓tru_tup, ↓tru_lst, ↓seq_tup, ↓itm_tup, ↓seq_lst, ↓itm_lst, ↓seq_frz, ↓itm_frz, ↓itm_itr, ↓seq_ref, ↓itm_ref, ↓seq_ti, ↓itm_ti, ↓onO_s, ↓nth_0, ↓nth_1, ↓nth_2, ↓nth_3, ↓nth_4, ↓nth_5, ↓nth_6, ↓nth_7, ↓nth_8, ↓nth_9, ↓nth_10, ↓nth_11, ↓nth_12, ↓bf_len, ↓bf_abs, ↓bf_max, ↓bf_min, ↓bf_int, ↓bf_intb, ↓bf_dm, ↓bf_gcd, ↓bf_all, ↓bf_any, ↓bf_sum, ↓bf_tup, ↓bf_repl, ↓bf_stri, ↓bf_rept, ↓bf_lst, ↓asg_nm, ↓asg_tp, ↓asg_ls, ↓asg_sub, ↓asg_tg, ↓asg_ti, ↓asgs_nil, ↓asgs_cons, ↓mk_f, ↓mk_t, ↓setn_l, ↓setn_r, ↓isn_lst_true, ↓isn_lst_false, ↓isn_tup_true, ↓isn_tup_false, ↓isn_ref_true, ↓isn_ref_false, ↓cnt_t, ↓rev_t, ↓rev_l, ↓rev_ti, ↓onRef_r, ↓two_tt, ↓two_ll, ↓two_tl, ↓two_ti, ↓still_t, ↓still_ti, ↓still_l, ↓cut_tup, ↓cut_lst, ↓cut_frz, ↓cut_ti, ↓bop_titi, ↓cop_eq_ti, ↓cop_ne_ti, non_non, non_int, ty_int_int, ty_bool_int, ty_str_int, ty_tup_int, ty_lst_int, ty_dict_int, non_bl, ty_int_bl, ty_bool_bl, ty_str_bl, ty_tup_bl, ty_lst_bl, ty_dict_bl, non_str, ty_int_str, ty_bool_str, ty_str_str, ty_tup_str, ty_lst_str, ty_dict_str, non_tup, ty_int_tup, ty_bool_tup, ty_str_tup, ty_tup_tup, ty_lst_tup, ty_dict_tup, non_lst, ty_int_lst, ty_bool_lst, ty_str_lst, ty_tup_lst, ty_lst_lst, ty_dict_lst, ty_int_non, ty_int_ti, ty_bool_non, ty_bool_ti, ty_str_non, ty_str_ti, ty_tup_non, ty_tup_ti, ty_lst_non, ty_lst_ti, ty_dict_non, ty_dict_ti, ty_int_rep, ty_int_dic, ty_bool_rep, ty_bool_dic, ty_str_rep, ty_str_dic, ty_tup_rep, ty_tup_dic, ty_lst_rep, ty_lst_dic, ty_dict_rep, ty_dict_dic, ta_tup, ta_lst, ta_ti, ta_int, ta_bl, ta_str, ta_non, st_0, st_1, st_2, st_3, st_4, st_5, st_6, st_7, st_8, st_9, st_10, st_11, st_12, st_13, st_14, st_15, st_16, st_17, st_18, st_19, st_20, st_21, st_22, st_23, bp_nm, bp_tp, bp_ls, bp_ti, bps_nil, bps_nm, sts_nil, sts_cons, rowr_l, rowr_r, cat_d, wp0_nil, wp_0, wp_1, wp_2, wp_3, wp_4, wp_5, wp_6, wp_7, wp_8, wp_9, wp_10, wp_11, wp_12, wp_13, wp_14, wp_15, wp_16, wp_17, wp_18, wp_19, wp_20, wp_21, wp_22, wp_23, rng_1, rng_2, rng_3, rng_4, rng_5, rng_6, rng_7, brkT, brkF, ti1, ti2, ti3, ti4, ti5, ti6, ti_map, eq_ti, pick, List.cons_append, List.nil_append, List.map_cons, List.map_nil, List.getD_cons_zero, List.getD_cons_succ, Bool.not_true, Bool.not_false, List.length_map]
  refine brk_i (fun e => ?_) fun e => ?_
  · obtain ⟨i, ei⟩ := nth_ints (ns := ns) h0 (of_decide_eq_true e)
    rw [ei]
    simp only [↓ev_v0, ↓ev_v1, ↓ev_v2, ↓ev_v3, ↓ev_v4, ↓ev_v5, ↓ev_v6, ↓ev_v7, ↓ev_v8, ↓ev_v9, ↓ev_v10, ↓ev_v11, ↓ev_v12, ↓ev_v13, ↓ev_v14, ↓ev_v15, ↓ev_v16, ↓ev_v17, ↓ev_v18, ↓ev_v19, ↓ev_v20, ↓ev_v21, ↓ev_v22, ↓ev_v23, ↓ev_cst, ↓ev_glb, ↓ev_bin, ↓ev_neg, ↓ev_not, ↓ev_cmp, ↓ev_cmp2, ↓ev_and, ↓ev_or, ↓ev_ite, ↓ev_tup, ↓ev_lst, ↓ev_idx, ↓ev_slc, ↓ev_call, ↓ev_callk, ↓ev_bi, ↓ev_isi, ↓ev_isi2, ↓ev_lc, ↓ev_lc2, ↓ev_tcat, ↓ev_rng, ↓ev_rng1, ↓ev_zip, ↓ev_enm, ↓ev_cnt, ↓ev_nset, ↓ev_dct, ↓ev_cat, ↓ev_isn, ↓ev_rev, ↓ev_app, ↓evs_nil, ↓evs_cons, ↓evss_nil, ↓evss_f, ↓evss_t, ↓spr_tup, ↓spr_lst, ↓spr_frz, ↓spr_ti, ↓evo_n, ↓evo_s, ↓evt_n, ↓evt_s, ↓ex_set, ↓ex_par, ↓ex_expr, ↓ex_ret, ↓ex_retN, ↓ex_iff, ↓ex_for, ↓ex_whl, ↓ex_raise, ↓ex_pass, ↓ex_brk, ↓ex_cont, ↓exs_nil, ↓exs_cons, ↓tvf, ↓tvt, ↓asB_bl, ↓asI_i, ↓bop_add, ↓bop_sub, ↓bop_mul, ↓bop_fdv, ↓bop_mod, ↓bop_pow, ↓bop_tt, ↓bop_ll, ↓bop_lm, ↓cop_eq, ↓cop_ne, ↓cop_lt, ↓cop_le, ↓cop_gt, ↓cop_ge, ↓cop_eq_rep, ↓cop_ne_rep, ↓cop_eq_tup, ↓cop_ne_tup, ↓cop_eq_lst, ↓cop_ne_lst, ↓cop_eq_str, ↓cop_ne_str, ↓cop_eq_bl, ↓cop_ne_bl, ↓cop_eq_non, ↓cop_ne_non, ↓cop_is_n, ↓cop_is_b, ↓cop_isnot_n, ↓cop_isnot_b, ↓cop_isin_lst, ↓cop_isin_tup, ↓cop_notin_lst, ↓cop_notin_tup, ↓tru_non, ↓tru_bl, ↓tru_int, ↓tru_tup, ↓tru_lst, ↓seq_tup, ↓itm_tup, ↓seq_lst, ↓itm_lst, ↓seq_frz, ↓itm_frz, ↓itm_itr, ↓seq_ref, ↓itm_ref, ↓seq_ti, ↓itm_ti, ↓onO_s, ↓nth_0, ↓nth_1, ↓nth_2, ↓nth_3, ↓nth_4, ↓nth_5, ↓nth_6, ↓nth_7, ↓nth_8, ↓nth_9, ↓nth_10, ↓nth_11, ↓nth_12, ↓bf_len, ↓bf_abs, ↓bf_max, ↓bf_min, ↓bf_int, ↓bf_intb, ↓bf_dm, ↓bf_gcd, ↓bf_all, ↓bf_any, ↓bf_sum, ↓bf_tup, ↓bf_repl, ↓bf_stri, ↓bf_rept, ↓bf_lst, ↓asg_nm, ↓asg_tp, ↓asg_ls, ↓asg_sub, ↓asg_tg, ↓asg_ti, ↓asgs_nil, ↓asgs_cons, ↓mk_f, ↓mk_t, ↓setn_l, ↓setn_r, ↓isn_lst_true, ↓isn_lst_false, ↓isn_tup_true, ↓isn_tup_false, ↓isn_ref_true, ↓isn_ref_false, ↓cnt_t, ↓rev_t, ↓rev_l, ↓rev_ti, ↓onRef_r, ↓two_tt, ↓two_ll, ↓two_tl, ↓two_ti, ↓still_t, ↓still_ti, ↓still_l, ↓cut_tup, ↓cut_lst, ↓cut_frz, ↓cut_ti, ↓bop_titi, ↓cop_eq_ti, ↓cop_ne_ti, non_non, non_int, ty_int_int, ty_bool_int, ty_str_int, ty_tup_int, ty_lst_int, ty_dict_int, non_bl, ty_int_bl, ty_bool_bl, ty_str_bl, ty_tup_bl, ty_lst_bl, ty_dict_bl, non_str, ty_int_str, ty_bool_str, ty_str_str, ty_tup_str, ty_lst_str, ty_dict_str, non_tup, ty_int_tup, ty_bool_tup, ty_str_tup, ty_tup_tup, ty_lst_tup, ty_dict_tup, non_lst, ty_int_lst, ty_bool_lst, ty_str_lst, ty_tup_lst, ty_lst_lst, ty_dict_lst, ty_int_non, ty_int_ti, ty_bool_non, ty_bool_ti, ty_str_non, ty_str_ti, ty_tup_non, ty_tup_ti, ty_lst_non, ty_lst_ti, ty_dict_non, ty_dict_ti, ty_int_rep, ty_int_dic, ty_bool_rep, ty_bool_dic, ty_str_rep, ty_str_dic, ty_tup_rep, ty_tup_dic, ty_lst_rep, ty_lst_dic, ty_dict_rep, ty_dict_dic, ta_tup, ta_lst, ta_ti, ta_int, ta_bl, ta_str, ta_non, st_0, st_1, st_2, st_3, st_4, st_5, st_6, st_7, st_8, st_9, st_10, st_11, st_12, st_13, st_14, st_15, st_16, st_17, st_18, st_19, st_20, st_21, st_22, st_23, bp_nm, bp_tp, bp_ls, bp_ti, bps_nil, bps_nm, sts_nil, sts_cons, rowr_l, rowr_r, cat_d, wp0_nil, wp_0, wp_1, wp_2, wp_3, wp_4, wp_5, wp_6, wp_7, wp_8, wp_9, wp_10, wp_11, wp_12, wp_13, wp_14, wp_15, wp_16, wp_17, wp_18, wp_19, wp_20, wp_21, wp_22, wp_23, rng_1, rng_2, rng_3, rng_4, rng_5, rng_6, rng_7, brkT, brkF, ti1, ti2, ti3, ti4, ti5, ti6, ti_map, eq_ti, pick, List.cons_append, List.nil_append, List.map_cons, List.map_nil, List.getD_cons_zero, List.getD_cons_succ, Bool.not_true, Bool.not_false]
    refine ⟨mulOk_l (by decide) (by decide), ?_⟩
    have r := rest i
    simp only [f_law_pool_v11, List.drop_succ_cons, List.drop_zero, ↓ev_v0, ↓ev_v1, ↓ev_v2, ↓ev_v3, ↓ev_v4, ↓ev_v5, ↓ev_v6, ↓ev_v7, ↓ev_v8, ↓ev_v9, ↓ev_v10, ↓ev_v11, ↓ev_v12, ↓ev_v13, ↓ev_v14, ↓ev_v15, ↓ev_v16, ↓ev_v17, ↓ev_v18, ↓ev_v19, ↓ev_v20, ↓ev_v21, ↓ev_v22, ↓ev_v23, ↓ev_cst, ↓ev_glb, ↓ev_bin, ↓ev_neg, ↓ev_not, ↓ev_cmp, ↓ev_cmp2, ↓ev_and, ↓ev_or, ↓ev_ite, ↓ev_tup, ↓ev_lst, ↓ev_idx, ↓ev_slc, ↓ev_call, ↓ev_callk, ↓ev_bi, ↓ev_isi, ↓ev_isi2, ↓ev_lc, ↓ev_lc2, ↓ev_tcat, ↓ev_rng, ↓ev_rng1, ↓ev_zip, ↓ev_enm, ↓ev_cnt, ↓ev_nset, ↓ev_dct, ↓ev_cat, ↓ev_isn, ↓ev_rev, ↓ev_app, ↓evs_nil, ↓evs_cons, ↓evss_nil, ↓evss_f, ↓evss_t, ↓spr_tup, ↓spr_lst, ↓spr_frz, ↓spr_ti, ↓evo_n, ↓evo_s, ↓evt_n, ↓evt_s, ↓ex_set, ↓ex_par, ↓ex_expr, ↓ex_ret, ↓ex_retN, ↓ex_iff, ↓ex_for, ↓ex_whl, ↓ex_raise, ↓ex_pass, ↓ex_brk, ↓ex_cont, ↓exs_nil, ↓exs_cons, ↓tvf, ↓tvt, ↓asB_bl, ↓asI_i, ↓bop_add, ↓bop_sub, ↓bop_mul, ↓bop_fdv, ↓bop_mod, ↓bop_pow, ↓bop_tt, ↓bop_ll, ↓bop_lm, ↓cop_eq, ↓cop_ne, ↓cop_lt, ↓cop_le, ↓cop_gt, ↓cop_ge, ↓cop_eq_rep, ↓cop_ne_rep, ↓cop_eq_tup, ↓cop_ne_tup, ↓cop_eq_lst, ↓cop_ne_lst, ↓cop_eq_str, ↓cop_ne_str, ↓cop_eq_bl, ↓cop_ne_bl, ↓cop_eq_non, ↓cop_ne_non, ↓cop_is_n, ↓cop_is_b, ↓cop_isnot_n, ↓cop_isnot_b, ↓cop_isin_lst, ↓cop_isin_tup, ↓cop_notin_lst, ↓cop_notin_tup, ↓tru_non, ↓tru_bl, ↓tru_int, ↓tru_tup, ↓tru_lst, ↓seq_tup, ↓itm_tup, ↓seq_lst, ↓itm_lst, ↓seq_frz, ↓itm_frz, ↓itm_itr, ↓seq_ref, ↓itm_ref, ↓seq_ti, ↓itm_ti, ↓onO_s, ↓nth_0, ↓nth_1, ↓nth_2, ↓nth_3, ↓nth_4, ↓nth_5, ↓nth_6, ↓nth_7, ↓nth_8, ↓nth_9, ↓nth_10, ↓nth_11, ↓nth_12, ↓bf_len, ↓bf_abs, ↓bf_max, ↓bf_min, ↓bf_int, ↓bf_intb, ↓bf_dm, ↓bf_gcd, ↓bf_all, ↓bf_any, ↓bf_sum, ↓bf_tup, ↓bf_repl, ↓bf_stri, ↓bf_rept, ↓bf_lst, ↓asg_nm, ↓asg_tp, ↓asg_ls, ↓asg_sub, ↓asg_tg, ↓asg_ti, ↓asgs_nil, ↓asgs_cons, ↓mk_f, ↓mk_t, ↓setn_l, ↓setn_r, ↓isn_lst_true, ↓isn_lst_false, ↓isn_tup_true, ↓isn_tup_false, ↓isn_ref_true, ↓isn_ref_false, ↓cnt_t, ↓rev_t, ↓rev_l, ↓rev_ti, ↓onRef_r, ↓two_tt, ↓two_ll, ↓two_tl, ↓two_ti, ↓still_t, ↓still_ti, ↓still_l, ↓cut_tup, ↓cut_lst, ↓cut_frz, ↓cut_ti, ↓bop_titi, ↓cop_eq_ti, ↓cop_ne_ti, non_non, non_int, ty_int_int, ty_bool_int, ty_str_int, ty_tup_int, ty_lst_int, ty_dict_int, non_bl, ty_int_bl, ty_bool_bl, ty_str_bl, ty_tup_bl, ty_lst_bl, ty_dict_bl, non_str, ty_int_str, ty_bool_str, ty_str_str, ty_tup_str, ty_lst_str, ty_dict_str, non_tup, ty_int_tup, ty_bool_tup, ty_str_tup, ty_tup_tup, ty_lst_tup, ty_dict_tup, non_lst, ty_int_lst, ty_bool_lst, ty_str_lst, ty_tup_lst, ty_lst_lst, ty_dict_lst, ty_int_non, ty_int_ti, ty_bool_non, ty_bool_ti, ty_str_non, ty_str_ti, ty_tup_non, ty_tup_ti, ty_lst_non, ty_lst_ti, ty_dict_non, ty_dict_ti, ty_int_rep, ty_int_dic, ty_bool_rep, ty_bool_dic, ty_str_rep, ty_str_dic, ty_tup_rep, ty_tup_dic, ty_lst_rep, ty_lst_dic, ty_dict_rep, ty_dict_dic, ta_tup, ta_lst, ta_ti, ta_int, ta_bl, ta_str, ta_non, st_0, st_1, st_2, st_3, st_4, st_5, st_6, st_7, st_8, st_9, st_10, st_11, st_12, st_13, st_14, st_15, st_16, st_17, st_18, st_19, st_20, st_21, st_22, st_23, bp_nm, bp_tp, bp_ls, bp_ti, bps_nil, bps_nm, sts_nil, sts_cons, rowr_l, rowr_r, cat_d, wp0_nil, wp_0, wp_1, wp_2, wp_3, wp_4, wp_5, wp_6, wp_7, wp_8, wp_9, wp_10, wp_11, wp_12, wp_13, wp_14, wp_15, wp_16, wp_17, wp_18, wp_19, wp_20, wp_21, wp_22, wp_23, rng_1, rng_2, rng_3, rng_4, rng_5, rng_6, rng_7, brkT, brkF, ti1, ti2, ti3, ti4, ti5, ti6, ti_map, eq_ti, pick, List.cons_append, List.nil_append, List.map_cons, List.map_nil, List.getD_cons_zero, List.getD_cons_succ, Bool.not_true, Bool.not_false] at r
    exact r
  · refine ⟨mulOk_l (by decide) (by decide), mulOk_l (by decide) (by decide), ?_⟩
    have r := rest (70001 * t + 618)
    simp only [f_law_pool_v11, List.drop_succ_cons, List.drop_zero, ↓ev_v0, ↓ev_v1, ↓ev_v2, ↓ev_v3, ↓ev_v4, ↓ev_v5, ↓ev_v6, ↓ev_v7, ↓ev_v8, ↓ev_v9, ↓ev_v10, ↓ev_v11, ↓ev_v12, ↓ev_v13, ↓ev_v14, ↓ev_v15, ↓ev_v16, ↓ev_v17, ↓ev_v18, ↓ev_v19, ↓ev_v20, ↓ev_v21, ↓ev_v22, ↓ev_v23, ↓ev_cst, ↓ev_glb, ↓ev_bin, ↓ev_neg, ↓ev_not, ↓ev_cmp, ↓ev_cmp2, ↓ev_and, ↓ev_or, ↓ev_ite, ↓ev_tup, ↓ev_lst, ↓ev_idx, ↓ev_slc, ↓ev_call, ↓ev_callk, ↓ev_bi, ↓ev_isi, ↓ev_isi2, ↓ev_lc, ↓ev_lc2, ↓ev_tcat, ↓ev_rng, ↓ev_rng1, ↓ev_zip, ↓ev_enm, ↓ev_cnt, ↓ev_nset, ↓ev_dct, ↓ev_cat, ↓ev_isn, ↓ev_rev, ↓ev_app, ↓evs_nil, ↓evs_cons, ↓evss_nil, ↓evss_f, ↓evss_t, ↓spr_tup, ↓spr_lst, ↓spr_frz, ↓spr_ti, ↓evo_n, ↓evo_s, ↓evt_n, ↓evt_s, ↓ex_set, ↓ex_par, ↓ex_expr, ↓ex_ret, ↓ex_retN, ↓ex_iff, ↓ex_for, ↓ex_whl, ↓ex_raise, ↓ex_pass, ↓ex_brk, ↓ex_cont, ↓exs_nil, ↓exs_cons, ↓tvf, ↓tvt, ↓asB_bl, ↓asI_i, ↓bop_add, ↓bop_sub, ↓bop_mul, ↓bop_fdv, ↓bop_mod, ↓bop_pow, ↓bop_tt, ↓bop_ll, ↓bop_lm, ↓cop_eq, ↓cop_ne, ↓cop_lt, ↓cop_le, ↓cop_gt, ↓cop_ge, ↓cop_eq_rep, ↓cop_ne_rep, ↓cop_eq_tup, ↓cop_ne_tup, ↓cop_eq_lst, ↓cop_ne_lst, ↓cop_eq_str, ↓cop_ne_str, ↓cop_eq_bl, ↓cop_ne_bl, ↓cop_eq_non, ↓cop_ne_non, ↓cop_is_n, ↓cop_is_b, ↓cop_isnot_n, ↓cop_isnot_b, ↓cop_isin_lst, ↓cop_isin_tup, ↓cop_notin_lst, ↓cop_notin_tup, ↓tru_non, ↓tru_bl, ↓tru_int, ↓tru_tup, ↓tru_lst, ↓seq_tup, ↓itm_tup, ↓seq_lst, ↓itm_lst, ↓seq_frz, ↓itm_frz, ↓itm_itr, ↓seq_ref, ↓itm_ref, ↓seq_ti, ↓itm_ti, ↓onO_s, ↓nth_0, ↓nth_1, ↓nth_2, ↓nth_3, ↓nth_4, ↓nth_5, ↓nth_6, ↓nth_7, ↓nth_8, ↓nth_9, ↓nth_10, ↓nth_11, ↓nth_12, ↓bf_len, ↓bf_abs, ↓bf_max, ↓bf_min, ↓bf_int, ↓bf_intb, ↓bf_dm, ↓bf_gcd, ↓bf_all, ↓bf_any, ↓bf_sum, ↓bf_tup, ↓bf_repl, ↓bf_stri, ↓bf_rept, ↓bf_lst, ↓asg_nm, ↓asg_tp, ↓asg_ls, ↓asg_sub, ↓asg_tg, ↓asg_ti, ↓asgs_nil, ↓asgs_cons, ↓mk_f, ↓mk_t, ↓setn_l, ↓setn_r, ↓isn_lst_true, ↓isn_lst_false, ↓isn_tup_true, ↓isn_tup_false, ↓isn_ref_true, ↓isn_ref_false, ↓cnt_t, ↓rev_t, ↓rev_l, ↓rev_ti, ↓onRef_r, ↓two_tt, ↓two_ll, ↓two_tl, ↓two_ti, ↓still_t, ↓still_ti, ↓still_l, ↓cut_tup, ↓cut_lst, ↓cut_frz, ↓cut_ti, ↓bop_titi, ↓cop_eq_ti, ↓cop_ne_ti, non_non, non_int, ty_int_int, ty_bool_int, ty_str_int, ty_tup_int, ty_lst_int, ty_dict_int, non_bl, ty_int_bl, ty_bool_bl, ty_str_bl, ty_tup_bl, ty_lst_bl, ty_dict_bl, non_str, ty_int_str, ty_bool_str, ty_str_str, ty_tup_str, ty_lst_str, ty_dict_str, non_tup, ty_int_tup, ty_bool_tup, ty_str_tup, ty_tup_tup, ty_lst_tup, ty_dict_tup, non_lst, ty_int_lst, ty_bool_lst, ty_str_lst, ty_tup_lst, ty_lst_lst, ty_dict_lst, ty_int_non, ty_int_ti, ty_bool_non, ty_bool_ti, ty_str_non, ty_str_ti, ty_tup_non, ty_tup_ti, ty_lst_non, ty_lst_ti, ty_dict_non, ty_dict_ti, ty_int_rep, ty_int_dic, ty_bool_rep, ty_bool_dic, ty_str_rep, ty_str_dic, ty_tup_rep, ty_tup_dic, ty_lst_rep, ty_lst_dic, ty_dict_rep, ty_dict_dic, ta_tup, ta_lst, ta_ti, ta_int, ta_bl, ta_str, ta_non, st_0, st_1, st_2, st_3, st_4, st_5, st_6, st_7, st_8, st_9, st_10, st_11, st_12, st_13, st_14, st_15, st_16, st_17, st_18, st_19, st_20, st_21, st_22, st_23, bp_nm, bp_tp, bp_ls, bp_ti, bps_nil, bps_nm, sts_nil, sts_cons, rowr_l, rowr_r, cat_d, wp0_nil, wp_0, wp_1, wp_2, wp_3, wp_4, wp_5, wp_6, wp_7, wp_8, wp_9, wp_10, wp_11, wp_12, wp_13, wp_14, wp_15, wp_16, wp_17, wp_18, wp_19, wp_20, wp_21, wp_22, wp_23, rng_1, rng_2, rng_3, rng_4, rng_5, rng_6, rng_7, brkT, brkF, ti1, ti2, ti3, ti4, ti5, ti6, ti_map, eq_ti, pick, List.cons_append, List.nil_append, List.map_cons, List.map_nil, List.getD_cons_zero, List.getD_cons_succ, Bool.not_true, Bool.not_false] at r
    exact r
end
end FV
set_option Elab.async false
set_option linter.all false
set_option maxRecDepth 100000
/-! Lc: draws of the family k20 to k39. -/
namespace FV
/-- a pool of two numbers in the cell l -/
def P2 (S : Store) (l : Nat) : Prop := ∃ a b : Int, cl S l = some [.int a, .int b]
structure D2 (l : Nat) (S S' : Store) : Prop where
  len : S'.length = S.length
  pl : P2 S' l
  fr : ∀ j, j ≠ l → cl S' j = cl S j
theorem D2.trans {l : Nat} {S S1 S2 : Store} (a : D2 l S S1) (b : D2 l S1 S2) : D2 l S S2 := ⟨b.len.trans a.len, b.pl, fun j hj => (b.fr j hj).trans (a.fr j hj)⟩
theorem D2.refl {l : Nat} {S : Store} (h : P2 S l) : D2 l S S := ⟨rfl, h, fun _ _ => rfl⟩
section
variable {n : Nat} {S : Store} {k X : D → Store → Prop}
end
end FV
set_option Elab.async false
set_option linter.all false
set_option maxRecDepth 100000
/-! Ld: the program's sums and products of triples. -/
namespace FV
theorem zip3 {a b c d e f : D} : zipD [a, b, c] [d, e, f] = [.tup [a, d], .tup [b, e], .tup [c, f]] := rfl
section
variable {n : Nat} {S : Store} {k X : D → Store → Prop}
theorem s_dot {a b c d e f : Int} (h1 : mulOk a d) (h2 : mulOk b e) (h3 : mulOk c f) (h : k (.int (a * d + b * e + c * f)) S) : CT (n + 1) i_dot [ti [a, b, c], ti [d, e, f]] S k X := by
  refine c_dot ?_
  simp only [f_dot, zip3, lc_app', fc_cons, fc_nil, ↓ev_v0, ↓ev_v1, ↓ev_v2, ↓ev_v3, ↓ev_v4, ↓ev_v5, ↓ev_v6, ↓ev_v7, ↓ev_v8, ↓ev_v9, ↓ev_v10, ↓ev_v11, ↓ev_v12, ↓ev_v13, ↓ev_v14, ↓ev_v15, ↓ev_v16, ↓ev_v17, ↓ev_v18, ↓ev_v19, ↓ev_v20, ↓ev_v21, ↓ev_v22, ↓ev_v23, ↓ev_cst, ↓ev_glb, ↓ev_bin, ↓ev_neg, ↓ev_not, ↓ev_cmp, ↓ev_cmp2, ↓ev_and, ↓ev_or, ↓ev_ite, ↓ev_tup, ↓ev_lst, ↓ev_idx, ↓ev_slc, ↓ev_call, ↓ev_callk, ↓ev_bi, ↓ev_isi, ↓ev_isi2, ↓ev_lc, ↓ev_lc2, ↓ev_tcat, ↓ev_rng, ↓ev_rng1, ↓ev_zip, ↓ev_enm, ↓ev_cnt, ↓ev_nset, ↓ev_isn, ↓ev_rev, ↓ev_app, ↓evs_nil, ↓evs_cons, ↓evss_nil, ↓evss_f, ↓evss_t, ↓spr_tup, ↓spr_lst, ↓spr_frz, ↓spr_ti, ↓evo_n, ↓evo_s, ↓evt_n, ↓evt_s, ↓ex_set, ↓ex_par, ↓ex_expr, ↓ex_ret, ↓ex_retN, ↓ex_iff, ↓ex_for, ↓ex_whl, ↓ex_raise, ↓ex_pass, ↓ex_brk, ↓ex_cont, ↓exs_nil, ↓exs_cons, ↓tvf, ↓tvt, ↓asB_bl, ↓asI_i, ↓bop_add, ↓bop_sub, ↓bop_mul, ↓bop_fdv, ↓bop_mod, ↓bop_pow, ↓bop_tt, ↓bop_ll, ↓bop_lm, ↓cop_eq, ↓cop_ne, ↓cop_lt, ↓cop_le, ↓cop_gt, ↓cop_ge, ↓cop_eq_rep, ↓cop_ne_rep, ↓cop_eq_tup, ↓cop_ne_tup, ↓cop_eq_lst, ↓cop_ne_lst, ↓cop_eq_str, ↓cop_ne_str, ↓cop_eq_bl, ↓cop_ne_bl, ↓cop_eq_non, ↓cop_ne_non, ↓cop_is_n, ↓cop_is_b, ↓cop_isnot_n, ↓cop_isnot_b, ↓cop_isin_lst, ↓cop_isin_tup, ↓cop_notin_lst, ↓cop_notin_tup, ↓tru_non, ↓tru_bl, ↓tru_int, ↓tru_tup, ↓tru_lst, ↓seq_tup, ↓itm_tup, ↓seq_lst, ↓itm_lst, ↓seq_frz, ↓itm_frz, ↓itm_itr, ↓seq_ref, ↓itm_ref, ↓seq_ti, ↓itm_ti, ↓onO_s, ↓nth_0, ↓nth_1, ↓nth_2, ↓nth_3, ↓nth_4, ↓nth_5, ↓nth_6, ↓nth_7, ↓nth_8, ↓nth_9, ↓nth_10, ↓nth_11, ↓nth_12, ↓bf_len, ↓bf_abs, ↓bf_max, ↓bf_min, ↓bf_int, ↓bf_intb, ↓bf_dm, ↓bf_gcd, ↓bf_all, ↓bf_any, ↓bf_sum, ↓bf_tup, ↓bf_repl, ↓bf_rept, ↓bf_lst, ↓asg_nm, ↓asg_tp, ↓asg_ls, ↓asg_sub, ↓asg_tg, ↓asg_ti, ↓asgs_nil, ↓asgs_cons, ↓mk_f, ↓mk_t, ↓setn_l, ↓setn_r, ↓isn_lst_true, ↓isn_lst_false, ↓isn_tup_true, ↓isn_tup_false, ↓isn_ref_true, ↓isn_ref_false, ↓cnt_t, ↓rev_t, ↓rev_l, ↓rev_ti, ↓onRef_r, ↓two_tt, ↓two_ll, ↓two_ti, ↓still_t, ↓still_ti, ↓still_l, ↓cut_tup, ↓cut_lst, ↓cut_frz, ↓cut_ti, ↓bop_titi, ↓cop_eq_ti, ↓cop_ne_ti, non_non, non_int, ty_int_int, ty_bool_int, ty_str_int, ty_tup_int, ty_lst_int, ty_dict_int, non_bl, ty_int_bl, ty_bool_bl, ty_str_bl, ty_tup_bl, ty_lst_bl, ty_dict_bl, non_str, ty_int_str, ty_bool_str, ty_str_str, ty_tup_str, ty_lst_str, ty_dict_str, non_tup, ty_int_tup, ty_bool_tup, ty_str_tup, ty_tup_tup, ty_lst_tup, ty_dict_tup, non_lst, ty_int_lst, ty_bool_lst, ty_str_lst, ty_tup_lst, ty_lst_lst, ty_dict_lst, ty_int_non, ty_int_ti, ty_bool_non, ty_bool_ti, ty_str_non, ty_str_ti, ty_tup_non, ty_tup_ti, ty_lst_non, ty_lst_ti, ty_dict_non, ty_dict_ti, ta_tup, ta_lst, ta_ti, ta_int, ta_bl, ta_str, ta_non, st_0, st_1, st_2, st_3, st_4, st_5, st_6, st_7, st_8, st_9, st_10, st_11, st_12, st_13, st_14, st_15, st_16, st_17, st_18, st_19, st_20, st_21, st_22, st_23, bp_nm, bp_tp, bp_ls, bp_ti, bps_nil, bps_nm, sts_nil, sts_cons, wp0_nil, wp_0, wp_1, wp_2, wp_3, wp_4, wp_5, wp_6, wp_7, wp_8, wp_9, wp_10, wp_11, wp_12, wp_13, wp_14, wp_15, wp_16, wp_17, wp_18, wp_19, wp_20, wp_21, wp_22, wp_23, rng_1, rng_2, rng_3, rng_4, rng_5, rng_6, rng_7, brkT, brkF, ti1, ti2, ti3, ti4, ti5, ti6, ti_map, eq_ti, pick, List.cons_append, List.nil_append, List.map_cons, List.map_nil, List.getD_cons_zero, List.getD_cons_succ, Bool.not_true, Bool.not_false]
  refine ⟨by simp [SZ], h1, h2, h3, ?_⟩
  have e1 : ints? [D.int (a * d), .int (b * e), .int (c * f)] = some [a * d, b * e, c * f] := rfl
  show onO (ints? [D.int (a * d), .int (b * e), .int (c * f)]) (fun is => k (.int is.sum) S)
  rw [e1]
  have e2 : ([a * d, b * e, c * f] : List Int).sum = a * d + b * e + c * f := by simp [Int.add_assoc]
  show k (.int ([a * d, b * e, c * f] : List Int).sum) S
  rw [e2]
  exact h
end
end FV
set_option Elab.async false
set_option linter.all false
/-! Vm: triples, tables, up to factors. -/
namespace FV
structure T3 where
  x : Int
  y : Int
  z : Int
deriving DecidableEq
namespace T3
def l (u : T3) : List Int := [u.x, u.y, u.z]
end T3
theorem T3.ext' {u v : T3} (h1 : u.x = v.x) (h2 : u.y = v.y) (h3 : u.z = v.z) : u = v := by
  cases u; cases v; simp_all
def V0 : T3 := ⟨0, 0, 0⟩
def cr (u v : T3) : T3 := ⟨u.y * v.z - u.z * v.y, u.z * v.x - u.x * v.z, u.x * v.y - u.y * v.x⟩
def dt (u v : T3) : Int := u.x * v.x + u.y * v.y + u.z * v.z
def bk (u v w : T3) : Int := dt u (cr v w)
def sm (c : Int) (u : T3) : T3 := ⟨c * u.x, c * u.y, c * u.z⟩
def ad (u v : T3) : T3 := ⟨u.x + v.x, u.y + v.y, u.z + v.z⟩
/-- made plain -/
def pv (u : T3) : T3 := ⟨u.x.fdiv (dv u.l), u.y.fdiv (dv u.l), u.z.fdiv (dv u.l)⟩
def Pr (u : T3) : Prop := Prim u.l
theorem l_inj {u v : T3} (h : u.l = v.l) : u = v := by
  simp only [T3.l, List.cons.injEq, and_true] at h
  exact T3.ext' h.1 h.2.1 h.2.2
theorem fl_V0 {u : T3} : fl u.l ≠ 0 ↔ u ≠ V0 := by
  refine not_congr ⟨fun h => ?_, fun h => by subst h; decide⟩
  have := fl_zero.mp h
  exact T3.ext' (this _ (by simp [T3.l])) (this _ (by simp [T3.l])) (this _ (by simp [T3.l]))
theorem pv_mul {u : T3} (h : u ≠ V0) : u = sm (dv u.l) (pv u) := l_inj (pn_mul (fl_V0.mpr h))
theorem dv0 {u : T3} (h : u ≠ V0) : dv u.l ≠ 0 := dv_ne (fl_V0.mpr h)
/-- the same up to a factor -/
def Sim (u v : T3) : Prop := ∃ a b : Int, a ≠ 0 ∧ b ≠ 0 ∧ sm a u = sm b v
theorem sm_sm {a b : Int} {u : T3} : sm a (sm b u) = sm (a * b) u := by simp only [sm, Int.mul_assoc]
theorem Sim.refl (u : T3) : Sim u u := ⟨1, 1, by decide, by decide, rfl⟩
theorem Sim.symm {u v : T3} : Sim u v → Sim v u := fun ⟨a, b, h, g, e⟩ => ⟨b, a, g, h, e.symm⟩
theorem Sim.trans {u v w : T3} : Sim u v → Sim v w → Sim u w := fun ⟨a, b, h, g, e⟩ ⟨c, d, h', g', e'⟩ => ⟨c * a, b * d, Int.mul_ne_zero h' h, Int.mul_ne_zero g g', by
  rw [← sm_sm, e, sm_sm, Int.mul_comm c b, ← sm_sm, e', sm_sm]⟩
/-! ### tables -/
structure M3 where
  a : T3
  b : T3
  c : T3
deriving DecidableEq
def mv (m : M3) (u : T3) : T3 := ⟨dt m.a u, dt m.b u, dt m.c u⟩
def det (m : M3) : Int := bk m.a m.b m.c
/-! ### pairs -/
structure F2 where
  n : Int
  d : Int
deriving DecidableEq
def F2.l (f : F2) : List Int := [f.n, f.d]
def t2 (f : F2) : T3 := ⟨f.n, f.d, 0⟩
/-- a pair made plain -/
def pf (f : F2) : F2 := ⟨f.n.fdiv (dv f.l), f.d.fdiv (dv f.l)⟩
end FV
set_option Elab.async false
set_option linter.all false
/-! Vr: double ratios of triples. -/
namespace FV
/-- the component of u at the first live place of w -/
def pk (w u : T3) : Int := if w.x ≠ 0 then u.x else if w.y ≠ 0 then u.y else u.z
/-- the multiples of p and q that make a multiple of x -/
def pts (p q x : T3) : F2 := ⟨pk (cr p q) (cr x q), pk (cr p q) (cr p x)⟩
/-- the double ratio's two numbers -/
def rt (p q x y : T3) : F2 := ⟨(pts p q y).n * (pts p q x).d, (pts p q y).d * (pts p q x).n⟩
/-! ### tables made plain -/
def M3.l (m : M3) : List Int := [m.a.x, m.a.y, m.a.z, m.b.x, m.b.y, m.b.z, m.c.x, m.c.y, m.c.z]
def Vw (m : M3) : Prop := Prim m.l ∧ det m ≠ 0
def ms (c : Int) (m : M3) : M3 := ⟨sm c m.a, sm c m.b, sm c m.c⟩
def pm (m : M3) : M3 := ⟨⟨m.a.x.fdiv (dv m.l), m.a.y.fdiv (dv m.l), m.a.z.fdiv (dv m.l)⟩, ⟨m.b.x.fdiv (dv m.l), m.b.y.fdiv (dv m.l), m.b.z.fdiv (dv m.l)⟩, ⟨m.c.x.fdiv (dv m.l), m.c.y.fdiv (dv m.l), m.c.z.fdiv (dv m.l)⟩⟩
theorem pm_l (m : M3) : pn m.l = (pm m).l := rfl
theorem m_inj {m q : M3} (h : m.l = q.l) : m = q := by
  obtain ⟨⟨a, b, c⟩, ⟨d, e, f⟩, ⟨g, i, j⟩⟩ := m
  obtain ⟨⟨a', b', c'⟩, ⟨d', e', f'⟩, ⟨g', i', j'⟩⟩ := q
  simp only [M3.l, List.cons.injEq, and_true] at h
  simp [h]
theorem fl_det {m : M3} (h : det m ≠ 0) : fl m.l ≠ 0 := fun e => by
  have := fl_zero.mp e
  have a1 := this m.a.x (by simp [M3.l])
  have a2 := this m.a.y (by simp [M3.l])
  have a3 := this m.a.z (by simp [M3.l])
  exact h (by simp [det, bk, dt, a1, a2, a3])
theorem pm_mul {m : M3} (h : det m ≠ 0) : m = ms (dv m.l) (pm m) := m_inj (pn_mul (fl_det h))
theorem dvm {m : M3} (h : det m ≠ 0) : dv m.l ≠ 0 := dv_ne (fl_det h)
end FV
set_option Elab.async false
set_option linter.all false
/-! Vs: lines, their points, turned. -/
namespace FV
def e0 : T3 := ⟨1, 0, 0⟩
def e1 : T3 := ⟨0, 1, 0⟩
def e2 : T3 := ⟨0, 0, 1⟩
/-- points of a line, turned -/
def gt (m : M3) (u : T3) : T3 := pv (mv m (pv u))
end FV
set_option Elab.async false
set_option linter.all false
/-! Vt: fourth points. -/
namespace FV
/-- the fourth one, not made plain -/
def ft (x y z : T3) (p : F2) : T3 := ad (sm (p.n * (pts x y z).n) x) (sm (p.d * (pts x y z).d) y)
end FV
set_option Elab.async false
set_option linter.all false
/-! Vu: three points off a line. -/
namespace FV
theorem bk_sw2 {a b c : T3} : bk a c b = -bk a b c := by simp only [bk, dt, cr]; grind
end FV
set_option Elab.async false
set_option linter.all false
/-! Vf: fractions. -/
namespace FV
/-- p over q in lowest terms, the second number above 0 -/
def fr (p q : Int) : F2 := ⟨(pf ⟨q, p⟩).d, (pf ⟨q, p⟩).n⟩
end FV
set_option Elab.async false
set_option linter.all false
set_option maxRecDepth 100000
/-! Vx: triples and pairs as values; sizes. -/
namespace FV
def vD (u : T3) : D := ti [u.x, u.y, u.z]
def fD (f : F2) : D := ti [f.n, f.d]
theorem tup3 {a b c : Int} : D.tup [.int a, .int b, .int c] = vD ⟨a, b, c⟩ := rfl
theorem tup2 {a b : Int} : D.tup [.int a, .int b] = fD ⟨a, b⟩ := rfl
theorem v_ti {a b c : Int} : ti [a, b, c] = vD ⟨a, b, c⟩ := rfl
theorem f_ti {a b : Int} : ti [a, b] = fD ⟨a, b⟩ := rfl
theorem eq_v {u v : T3} : eqD (vD u) (vD v) = decide (u = v) := by
  rw [vD, vD, eq_ti]
  exact decide_eq_decide.mpr ⟨fun h => l_inj h, fun h => by rw [h]⟩
theorem eq_f {u v : F2} : eqD (fD u) (fD v) = decide (u = v) := by
  rw [fD, fD, eq_ti]
  cases u; cases v
  simp
theorem pure_v {u : T3} {n : Nat} : pure? (n + 1) (vD u) = true := pures_ints (n := n) (xs := u.l)
theorem pure_f {u : F2} {n : Nat} : pure? (n + 1) (fD u) = true := pures_ints (n := n) (xs := [u.n, u.d])
section
variable {C : Hd} {X : D → Store → Prop} {t : Bool} {σ : Env} {S : Store} {k : D → Store → Prop} {u v : T3} {f g : F2}
theorem seq_v {p : List D → Prop} : seq (vD u) S p = p [.int u.x, .int u.y, .int u.z] := nr rfl
theorem seq_f {p : List D → Prop} : seq (fD f) S p = p [.int f.n, .int f.d] := nr rfl
theorem itm_v {p : Gd → List D → Prop} : itm (vD u) S p = p none [.int u.x, .int u.y, .int u.z] := nr rfl
theorem itm_f {p : Gd → List D → Prop} : itm (fD f) S p = p none [.int f.n, .int f.d] := nr rfl
theorem asg_v {ps : List Pt} {k : Env → Store → Prop} : asg C X (.pt (.tp ps)) (vD u) σ S k = onO (bindPs ps [.int u.x, .int u.y, .int u.z] σ) fun σ1 => k σ1 S := asg_tp
theorem asg_f {ps : List Pt} {k : Env → Store → Prop} : asg C X (.pt (.tp ps)) (fD f) σ S k = onO (bindPs ps [.int f.n, .int f.d] σ) fun σ1 => k σ1 S := asg_tp
theorem bp_v {ps : List Pt} : bindP (.tp ps) (vD u) σ = bindPs ps [.int u.x, .int u.y, .int u.z] σ := bp_tp
theorem bp_f {ps : List Pt} : bindP (.tp ps) (fD f) σ = bindPs ps [.int f.n, .int f.d] σ := bp_tp
theorem bps_tv {ps qs : List Pt} {ds : List D} : bindPs (.tp qs :: ps) (vD u :: ds) σ = (match bindPs qs [.int u.x, .int u.y, .int u.z] σ with | some σ' => bindPs ps ds σ' | none => none) := by
  simp only [bindPs, bp_v]
  all_goals (cases bindPs qs [.int u.x, .int u.y, .int u.z] σ <;> rfl)
theorem bps_tf {ps qs : List Pt} {ds : List D} : bindPs (.tp qs :: ps) (fD f :: ds) σ = (match bindPs qs [.int f.n, .int f.d] σ with | some σ' => bindPs ps ds σ' | none => none) := by
  simp only [bindPs, bp_f]
  all_goals (cases bindPs qs [.int f.n, .int f.d] σ <;> rfl)
theorem two_vv {k : List D → List D → Prop} : two (vD u) (vD v) k = k [.int u.x, .int u.y, .int u.z] [.int v.x, .int v.y, .int v.z] := nr rfl
theorem two_vt {ys : List D} {k : List D → List D → Prop} : two (vD u) (.tup ys) k = k [.int u.x, .int u.y, .int u.z] ys := nr rfl
theorem two_tv {ys : List D} {k : List D → List D → Prop} : two (.tup ys) (vD u) k = k ys [.int u.x, .int u.y, .int u.z] := nr rfl
theorem two_ff {k : List D → List D → Prop} : two (fD f) (fD g) k = k [.int f.n, .int f.d] [.int g.n, .int g.d] := nr rfl
theorem still_v {k : List D → Prop} : still (vD u) k = k [.int u.x, .int u.y, .int u.z] := nr rfl
theorem cut_v {lo hi : Option Int} {k : D → Prop} : cut (vD u) lo hi S k = k (.tup (slice [.int u.x, .int u.y, .int u.z] lo hi)) := nr rfl
theorem cop_eq_v {k : Bool → Prop} : cop .eq (vD u) (vD v) k = k (decide (u = v)) := by
  show ((_ ∧ _) ∧ k (eqD (vD u) (vD v))) = _
  rw [eq_v, DEEP, pure_v, pure_v]; simp
theorem cop_ne_v {k : Bool → Prop} : cop .ne (vD u) (vD v) k = k (!decide (u = v)) := by
  show ((_ ∧ _) ∧ k (!eqD (vD u) (vD v))) = _
  rw [eq_v, DEEP, pure_v, pure_v]; simp
theorem cop_eq_f {k : Bool → Prop} : cop .eq (fD f) (fD g) k = k (decide (f = g)) := by
  show ((_ ∧ _) ∧ k (eqD (fD f) (fD g))) = _
  rw [eq_f, DEEP, pure_f, pure_f]; simp
theorem cop_ne_f {k : Bool → Prop} : cop .ne (fD f) (fD g) k = k (!decide (f = g)) := by
  show ((_ ∧ _) ∧ k (!eqD (fD f) (fD g))) = _
  rw [eq_f, DEEP, pure_f, pure_f]; simp
theorem tru_v {k : Bool → Prop} : tru (vD u) k = k true := nr rfl
theorem non_v : isNon (vD u) = false := nr rfl
theorem non_f : isNon (fD f) = false := nr rfl
theorem ty_v {y : Ty} : tyIs y (vD u) = some (match y with | .tup => true | _ => false) := nr rfl
theorem ty_f {y : Ty} : tyIs y (fD f) = some (match y with | .tup => true | _ => false) := nr rfl
theorem ta_v : tyAny [.tup, .lst] (vD u) = some true := nr rfl
theorem ta_f : tyAny [.tup, .lst] (fD f) = some true := nr rfl
theorem bop_vv {k : D → Prop} : bop .add (vD u) (vD v) k = k (ti [u.x, u.y, u.z, v.x, v.y, v.z]) := by
  show (_ ∧ k (ti [u.x, u.y, u.z, v.x, v.y, v.z])) = _
  simp [SZ]
theorem bop_6v {a b c d e f : Int} {k : D → Prop} : bop .add (ti [a, b, c, d, e, f]) (vD v) k = k (ti [a, b, c, d, e, f, v.x, v.y, v.z]) := by
  show (_ ∧ k (ti [a, b, c, d, e, f, v.x, v.y, v.z])) = _
  simp [SZ]
theorem cut_9a {a b c d e f g h i : Int} {k : D → Prop} : cut (ti [a, b, c, d, e, f, g, h, i]) none (some 3) S k = k (vD ⟨a, b, c⟩) := nr rfl
theorem cut_9b {a b c d e f g h i : Int} {k : D → Prop} : cut (ti [a, b, c, d, e, f, g, h, i]) (some 3) (some 6) S k = k (vD ⟨d, e, f⟩) := nr rfl
theorem cut_9c {a b c d e f g h i : Int} {k : D → Prop} : cut (ti [a, b, c, d, e, f, g, h, i]) (some 6) none S k = k (vD ⟨g, h, i⟩) := nr rfl
end
theorem sz_0 : (([] : List D).length ≤ SZ) = True := by simp [SZ]
theorem sz_1 {x0 : D} : (([x0] : List D).length ≤ SZ) = True := by simp [SZ]
theorem sz_2 {x0 x1 : D} : (([x0, x1] : List D).length ≤ SZ) = True := by simp [SZ]
theorem sz_3 {x0 x1 x2 : D} : (([x0, x1, x2] : List D).length ≤ SZ) = True := by simp [SZ]
theorem sz_4 {x0 x1 x2 x3 : D} : (([x0, x1, x2, x3] : List D).length ≤ SZ) = True := by simp [SZ]
theorem sz_5 {x0 x1 x2 x3 x4 : D} : (([x0, x1, x2, x3, x4] : List D).length ≤ SZ) = True := by simp [SZ]
theorem sz_6 {x0 x1 x2 x3 x4 x5 : D} : (([x0, x1, x2, x3, x4, x5] : List D).length ≤ SZ) = True := by simp [SZ]
theorem sz_7 {x0 x1 x2 x3 x4 x5 x6 : D} : (([x0, x1, x2, x3, x4, x5, x6] : List D).length ≤ SZ) = True := by simp [SZ]
theorem sz_8 {x0 x1 x2 x3 x4 x5 x6 x7 : D} : (([x0, x1, x2, x3, x4, x5, x6, x7] : List D).length ≤ SZ) = True := by simp [SZ]
theorem sz_9 {x0 x1 x2 x3 x4 x5 x6 x7 x8 : D} : (([x0, x1, x2, x3, x4, x5, x6, x7, x8] : List D).length ≤ SZ) = True := by simp [SZ]
theorem sz_10 {x0 x1 x2 x3 x4 x5 x6 x7 x8 x9 : D} : (([x0, x1, x2, x3, x4, x5, x6, x7, x8, x9] : List D).length ≤ SZ) = True := by simp [SZ]
theorem sz_11 {x0 x1 x2 x3 x4 x5 x6 x7 x8 x9 x10 : D} : (([x0, x1, x2, x3, x4, x5, x6, x7, x8, x9, x10] : List D).length ≤ SZ) = True := by simp [SZ]
theorem sz_12 {x0 x1 x2 x3 x4 x5 x6 x7 x8 x9 x10 x11 : D} : (([x0, x1, x2, x3, x4, x5, x6, x7, x8, x9, x10, x11] : List D).length ≤ SZ) = True := by simp [SZ]
theorem wp_cc {σ : Env} {i j : Nat} {r : List Nat} : wp0 σ (i :: j :: r) = wp0 (wp0 σ (j :: r)) [i] := nr rfl
theorem inD_n {x : D} : inD x [] = false := nr rfl
theorem inD_c {x y : D} {ys : List D} : inD x (y :: ys) = (eqD y x || inD x ys) := nr rfl
theorem pures_c {x : D} {ys : List D} : (pures? DEEP (x :: ys) = true) = (pure? DEEP x = true ∧ pures? DEEP ys = true) := by
  show ((pure? DEEP x && pures? DEEP ys) = true) = _
  rw [Bool.and_eq_true]
theorem pures_n : (pures? DEEP [] = true) = True := by simp [pures?]
theorem pure_vT {u : T3} : (pure? DEEP (vD u) = true) = True := by rw [DEEP, pure_v]; simp
theorem pure_fT {f : F2} : (pure? DEEP (fD f) = true) = True := by rw [DEEP, pure_f]; simp
theorem pure_iT {i : Int} : (pure? DEEP (.int i) = true) = True := by simp [pure?]
theorem pure_bT {i : Bool} : (pure? DEEP (.bl i) = true) = True := by simp [pure?]
theorem pure_nT : (pure? DEEP .non = true) = True := by simp [pure?]
theorem enm_1 {x0 : D} : enmD 0 [x0] = [.tup [.int 0, x0]] := nr rfl
theorem enm_2 {x0 x1 : D} : enmD 0 [x0, x1] = [.tup [.int 0, x0], .tup [.int 1, x1]] := nr rfl
theorem enm_3 {x0 x1 x2 : D} : enmD 0 [x0, x1, x2] = [.tup [.int 0, x0], .tup [.int 1, x1], .tup [.int 2, x2]] := nr rfl
theorem enm_4 {x0 x1 x2 x3 : D} : enmD 0 [x0, x1, x2, x3] = [.tup [.int 0, x0], .tup [.int 1, x1], .tup [.int 2, x2], .tup [.int 3, x3]] := nr rfl
theorem enm_5 {x0 x1 x2 x3 x4 : D} : enmD 0 [x0, x1, x2, x3, x4] = [.tup [.int 0, x0], .tup [.int 1, x1], .tup [.int 2, x2], .tup [.int 3, x3], .tup [.int 4, x4]] := nr rfl
theorem enm_6 {x0 x1 x2 x3 x4 x5 : D} : enmD 0 [x0, x1, x2, x3, x4, x5] = [.tup [.int 0, x0], .tup [.int 1, x1], .tup [.int 2, x2], .tup [.int 3, x3], .tup [.int 4, x4], .tup [.int 5, x5]] := nr rfl
theorem enm_7 {x0 x1 x2 x3 x4 x5 x6 : D} : enmD 0 [x0, x1, x2, x3, x4, x5, x6] = [.tup [.int 0, x0], .tup [.int 1, x1], .tup [.int 2, x2], .tup [.int 3, x3], .tup [.int 4, x4], .tup [.int 5, x5], .tup [.int 6, x6]] := nr rfl
theorem enm_8 {x0 x1 x2 x3 x4 x5 x6 x7 : D} : enmD 0 [x0, x1, x2, x3, x4, x5, x6, x7] = [.tup [.int 0, x0], .tup [.int 1, x1], .tup [.int 2, x2], .tup [.int 3, x3], .tup [.int 4, x4], .tup [.int 5, x5], .tup [.int 6, x6], .tup [.int 7, x7]] := nr rfl
theorem enm_9 {x0 x1 x2 x3 x4 x5 x6 x7 x8 : D} : enmD 0 [x0, x1, x2, x3, x4, x5, x6, x7, x8] = [.tup [.int 0, x0], .tup [.int 1, x1], .tup [.int 2, x2], .tup [.int 3, x3], .tup [.int 4, x4], .tup [.int 5, x5], .tup [.int 6, x6], .tup [.int 7, x7], .tup [.int 8, x8]] := nr rfl
theorem enm_10 {x0 x1 x2 x3 x4 x5 x6 x7 x8 x9 : D} : enmD 0 [x0, x1, x2, x3, x4, x5, x6, x7, x8, x9] = [.tup [.int 0, x0], .tup [.int 1, x1], .tup [.int 2, x2], .tup [.int 3, x3], .tup [.int 4, x4], .tup [.int 5, x5], .tup [.int 6, x6], .tup [.int 7, x7], .tup [.int 8, x8], .tup [.int 9, x9]] := nr rfl
theorem len_1 {x0 : D} : (([x0] : List D).length : Int) = 1 := nr rfl
theorem len_2 {x0 x1 : D} : (([x0, x1] : List D).length : Int) = 2 := nr rfl
theorem len_3 {x0 x1 x2 : D} : (([x0, x1, x2] : List D).length : Int) = 3 := nr rfl
theorem len_4 {x0 x1 x2 x3 : D} : (([x0, x1, x2, x3] : List D).length : Int) = 4 := nr rfl
theorem len_5 {x0 x1 x2 x3 x4 : D} : (([x0, x1, x2, x3, x4] : List D).length : Int) = 5 := nr rfl
theorem len_6 {x0 x1 x2 x3 x4 x5 : D} : (([x0, x1, x2, x3, x4, x5] : List D).length : Int) = 6 := nr rfl
theorem len_7 {x0 x1 x2 x3 x4 x5 x6 : D} : (([x0, x1, x2, x3, x4, x5, x6] : List D).length : Int) = 7 := nr rfl
theorem len_8 {x0 x1 x2 x3 x4 x5 x6 x7 : D} : (([x0, x1, x2, x3, x4, x5, x6, x7] : List D).length : Int) = 8 := nr rfl
theorem len_9 {x0 x1 x2 x3 x4 x5 x6 x7 x8 : D} : (([x0, x1, x2, x3, x4, x5, x6, x7, x8] : List D).length : Int) = 9 := nr rfl
theorem len_10 {x0 x1 x2 x3 x4 x5 x6 x7 x8 x9 : D} : (([x0, x1, x2, x3, x4, x5, x6, x7, x8, x9] : List D).length : Int) = 10 := nr rfl
/-! ### sizes -/
def bt (n : Nat) (x : Int) : Prop := x.natAbs < 2 ^ n
theorem bt_mono {n m : Nat} {x : Int} (h : bt n x) (l : n ≤ m) : bt m x := Nat.lt_of_lt_of_le h (Nat.pow_le_pow_right (by decide) l)
theorem bt_add {n m : Nat} {x y : Int} (h : bt n x) (g : bt m y) : bt (max n m + 1) (x + y) := by
  have h1 : bt (max n m) x := bt_mono h (Nat.le_max_left _ _)
  have h2 : bt (max n m) y := bt_mono g (Nat.le_max_right _ _)
  unfold bt at *
  rw [Nat.pow_succ]
  omega
theorem bt_neg {n : Nat} {x : Int} (h : bt n x) : bt n (-x) := by unfold bt at *; omega
theorem bt_sub {n m : Nat} {x y : Int} (h : bt n x) (g : bt m y) : bt (max n m + 1) (x - y) := by
  rw [Int.sub_eq_add_neg]
  exact bt_add h (bt_neg g)
theorem bt_mul {n m : Nat} {x y : Int} (h : bt n x) (g : bt m y) : bt (n + m) (x * y) := by
  unfold bt at *
  rw [Int.natAbs_mul, Nat.pow_add]
  exact Nat.mul_lt_mul'' h g
theorem bt_lt {n : Nat} {x : Int} (h : -(2 ^ n) < x) (g : x < 2 ^ n) : bt n x := by
  unfold bt
  have : ((2 ^ n : Nat) : Int) = 2 ^ n := by simp
  omega
theorem bt_dvd {n : Nat} {x y : Int} (h : bt n x) (d : y ∣ x) (hx : x ≠ 0) : bt n y := by
  unfold bt at *
  exact Nat.lt_of_le_of_lt (Nat.le_of_dvd (by omega) (Int.natAbs_dvd_natAbs.mpr d)) h
theorem mulOk_bt {n m : Nat} {x y : Int} (h : bt n x) (g : bt m y) (l : n ≤ 400000 ∧ m ≤ 400000) : mulOk x y :=
  .inr (.inr ⟨Nat.lt_of_lt_of_le h (Nat.pow_le_pow_right (by decide) l.1), Nat.lt_of_lt_of_le g (Nat.pow_le_pow_right (by decide) l.2)⟩)
def bv (n : Nat) (u : T3) : Prop := bt n u.x ∧ bt n u.y ∧ bt n u.z
theorem bv_x {n : Nat} {u : T3} (h : bv n u) : bt n u.x := h.1
theorem bv_y {n : Nat} {u : T3} (h : bv n u) : bt n u.y := h.2.1
theorem bv_z {n : Nat} {u : T3} (h : bv n u) : bt n u.z := h.2.2
theorem bv_mono {n m : Nat} {u : T3} (h : bv n u) (l : n ≤ m) : bv m u := ⟨bt_mono h.1 l, bt_mono h.2.1 l, bt_mono h.2.2 l⟩
theorem bv_mk {n m q : Nat} {a b c : Int} (h1 : bt n a) (h2 : bt m b) (h3 : bt q c) : bv (max n (max m q)) ⟨a, b, c⟩ :=
  ⟨bt_mono h1 (by omega), bt_mono h2 (by omega), bt_mono h3 (by omega)⟩
theorem bv_cr {n m : Nat} {u v : T3} (h : bv n u) (g : bv m v) : bv (n + m + 1) (cr u v) := by
  obtain ⟨a, b, c⟩ := h
  obtain ⟨d, e, f⟩ := g
  have w : ∀ {p q r s : Int}, bt n p → bt m q → bt n r → bt m s → bt (n + m + 1) (p * q - r * s) := fun h1 h2 h3 h4 => bt_mono (bt_sub (bt_mul h1 h2) (bt_mul h3 h4)) (by omega)
  exact ⟨w b f c e, w c d a f, w a e b d⟩
theorem bt_dt {n m : Nat} {u v : T3} (h : bv n u) (g : bv m v) : bt (n + m + 2) (dt u v) :=
  bt_mono (bt_add (bt_add (bt_mul h.1 g.1) (bt_mul h.2.1 g.2.1)) (bt_mul h.2.2 g.2.2)) (by omega)
theorem bt_bk {n m q : Nat} {u v w : T3} (h : bv n u) (g : bv m v) (i : bv q w) : bt (n + (m + q + 1) + 2) (bk u v w) := bt_dt h (bv_cr g i)
theorem bv_sm {n m : Nat} {c : Int} {u : T3} (h : bt n c) (g : bv m u) : bv (n + m) (sm c u) := ⟨bt_mul h g.1, bt_mul h g.2.1, bt_mul h g.2.2⟩
theorem bv_ad {n m : Nat} {u v : T3} (h : bv n u) (g : bv m v) : bv (max n m + 1) (ad u v) := ⟨bt_add h.1 g.1, bt_add h.2.1 g.2.1, bt_add h.2.2 g.2.2⟩
theorem bv_pv {n : Nat} {u : T3} (h : bv n u) : bv n (pv u) := by
  by_cases h0 : u = V0
  · subst h0
    have e0 : pv V0 = V0 := rfl
    rw [e0]; exact h
  have e := pv_mul h0
  have hd := dv0 h0
  have w : ∀ {x y : Int}, x = dv u.l * y → bt n x → bt n y := fun {x y} e h => by
    by_cases hx : x = 0
    · have : y = 0 := (Int.mul_eq_zero.mp (e.symm.trans hx)).resolve_left hd
      rw [this]; rw [hx] at h; exact h
    · exact bt_dvd h ⟨dv u.l, by rw [e, Int.mul_comm]⟩ hx
  have e1 : u.x = dv u.l * (pv u).x := congrArg T3.x e
  have e2 : u.y = dv u.l * (pv u).y := congrArg T3.y e
  have e3 : u.z = dv u.l * (pv u).z := congrArg T3.z e
  exact ⟨w e1 h.1, w e2 h.2.1, w e3 h.2.2⟩
end FV
set_option Elab.async false
set_option linter.all false
set_option maxRecDepth 100000
/-! Vy: double ratios of points in other orders, two ratios behind one another, points by whole numbers. -/
namespace FV
end FV
set_option Elab.async false
set_option linter.all false
set_option maxRecDepth 100000
/-! Vz: the horizon of a tile. -/
namespace FV
theorem qd1 {a b c d : T3} : cr (cr a b) (cr c d) = ad (sm (bk a b d) c) (sm (-(bk a b c)) d) := by
  simp only [cr, bk, dt, ad, sm, T3.mk.injEq]
  refine ⟨?_, ?_, ?_⟩ <;> grind
theorem lin4 {a b c d : Int} {u v x y w : T3} : dt (cr (ad (sm a u) (sm b v)) (ad (sm c x) (sm d y))) w = a * c * bk u x w + a * d * bk u y w + b * c * bk v x w + b * d * bk v y w := by
  simp only [cr, bk, dt, ad, sm]
  grind
/-- the line through the two meets of opposite sides -/
def hz (p q r s : T3) : T3 := cr (cr (cr p q) (cr s r)) (cr (cr p s) (cr q r))
theorem hz_1 {p q r s : T3} : cr (cr p q) (cr s r) = ad (sm (bk p q r) s) (sm (-(bk p q s)) r) := qd1
theorem hz_2 {p q r s : T3} : cr (cr p s) (cr q r) = ad (sm (-(bk p r s)) q) (sm (bk p q s) r) := by
  rw [qd1, bk_sw2 (a := p) (b := r) (c := s), bk_sw2 (a := p) (b := q) (c := s), Int.neg_neg]
structure Fm (p q r s : T3) : Prop where
  p1 : Pr p
  p2 : Pr q
  p3 : Pr r
  p4 : Pr s
  k1 : bk p q r ≠ 0
  k2 : bk p q s ≠ 0
  k3 : bk p r s ≠ 0
  k4 : bk q r s ≠ 0
section
variable {p q r s : T3}
theorem hz_p : dt (hz p q r s) p = -(bk p r s * bk p q s * bk p q r) := by
  unfold hz
  rw [hz_1 (p := p) (q := q) (r := r) (s := s), hz_2 (p := p) (q := q) (r := r) (s := s), lin4]
  have e1 : bk s q p = -(bk p q s) := by simp only [bk, dt, cr]; grind
  have e2 : bk s r p = -(bk p r s) := by simp only [bk, dt, cr]; grind
  have e3 : bk r q p = -(bk p q r) := by simp only [bk, dt, cr]; grind
  have e4 : bk r r p = 0 := by simp only [bk, dt, cr]; grind
  rw [e1, e2, e3, e4]
  generalize bk p q r = D; generalize bk p q s = C; generalize bk p r s = B
  grind
theorem Fm.hp (F : Fm p q r s) : dt (hz p q r s) p ≠ 0 := by
  rw [hz_p]; exact Int.neg_ne_zero.mpr (Int.mul_ne_zero (Int.mul_ne_zero F.k3 F.k2) F.k1)
theorem Fm.ne (F : Fm p q r s) : hz p q r s ≠ V0 := fun e => F.hp (by rw [e]; simp [dt, V0])
end
end FV
set_option Elab.async false
set_option linter.all false
set_option maxRecDepth 100000
/-! Le: the program's small defs over triples. -/
namespace FV
local macro_rules | `(tactic| walk_at "fbt") => `(tactic| first
  | assumption
  | exact bv_x (by assumption)
  | exact bv_y (by assumption)
  | exact bv_z (by assumption)
  | (apply bt_add <;> walk_at "fbt")
  | (apply bt_sub <;> walk_at "fbt")
  | (apply bt_mul <;> walk_at "fbt")
  | (apply bt_neg <;> walk_at "fbt")
  | (apply bt_dt <;> walk_at "fbt")
  | (apply bt_bk <;> walk_at "fbt")
  | (apply bv_cr <;> walk_at "fbt")
  | (apply bv_pv <;> walk_at "fbt")
  | (apply bv_sm <;> walk_at "fbt")
  | (apply bv_ad <;> walk_at "fbt")
  | exact bt_lt (n := 64) (by decide) (by decide)
  | (apply bv_mk <;> walk_at "fbt"))
local macro_rules | `(tactic| walk_at "fs") => `(tactic| first
  | assumption
  | (apply mulOk_bt; walk_at "fbt"; walk_at "fbt"; first | decide | assumption | omega)
  | (refine mulOk_l ?_ ?_ <;> omega)
  | (refine mulOk_r ?_ ?_ <;> omega)
  | walk_at "fbt"
  | omega
  | decide
  | (simp [SZ]; done))
local macro_rules | `(tactic| walk_at "fd") => `(tactic| first
  | rfl
  | exact decide_eq_true (by assumption)
  | exact decide_eq_false (by assumption)
  | decide
  | exact decide_eq_true (by omega)
  | exact decide_eq_false (by omega)
  | (simp [*]; done))
local macro_rules | `(tactic| walk_at "fx") => `(tactic| simp only [lc_app', fc_cons, fc_nil, blk_app, ↓ev_v0, ↓ev_v1, ↓ev_v2, ↓ev_v3, ↓ev_v4, ↓ev_v5, ↓ev_v6, ↓ev_v7, ↓ev_v8, ↓ev_v9, ↓ev_v10, ↓ev_v11, ↓ev_v12, ↓ev_v13, ↓ev_v14, ↓ev_v15, ↓ev_v16, ↓ev_v17, ↓ev_v18, ↓ev_v19, ↓ev_v20, ↓ev_v21, ↓ev_v22, ↓ev_v23, ↓ev_cst, ↓ev_glb, ↓ev_bin, ↓ev_neg, ↓ev_not, ↓ev_cmp, ↓ev_cmp2, ↓ev_and, ↓ev_or, ↓ev_ite, ↓ev_tup, ↓ev_lst, ↓ev_idx, ↓ev_slc, ↓ev_call, ↓ev_callk, ↓ev_bi, ↓ev_isi, ↓ev_isi2, ↓ev_lc, ↓ev_lc2, ↓ev_tcat, ↓ev_rng, ↓ev_rng1, ↓ev_zip, ↓ev_enm, ↓ev_cnt, ↓ev_nset, ↓ev_isn, ↓ev_rev, ↓ev_app, ↓evs_nil, ↓evs_cons, ↓evss_nil, ↓evss_f, ↓evss_t, ↓spr_tup, ↓spr_lst, ↓spr_frz, ↓spr_ti, ↓evo_n, ↓evo_s, ↓evt_n, ↓evt_s, ↓ex_set, ↓ex_par, ↓ex_expr, ↓ex_ret, ↓ex_retN, ↓ex_iff, ↓ex_for, ↓ex_whl, ↓ex_raise, ↓ex_pass, ↓ex_brk, ↓ex_cont, ↓exs_nil, ↓exs_cons, ↓tvf, ↓tvt, ↓asB_bl, ↓asI_i, ↓bop_add, ↓bop_sub, ↓bop_mul, ↓bop_fdv, ↓bop_mod, ↓bop_pow, ↓bop_tt, ↓bop_ll, ↓bop_lm, ↓cop_eq, ↓cop_ne, ↓cop_lt, ↓cop_le, ↓cop_gt, ↓cop_ge, ↓cop_eq_rep, ↓cop_ne_rep, ↓cop_eq_tup, ↓cop_ne_tup, ↓cop_eq_lst, ↓cop_ne_lst, ↓cop_eq_str, ↓cop_ne_str, ↓cop_eq_bl, ↓cop_ne_bl, ↓cop_eq_non, ↓cop_ne_non, ↓cop_is_n, ↓cop_is_b, ↓cop_isnot_n, ↓cop_isnot_b, ↓cop_isin_lst, ↓cop_isin_tup, ↓cop_notin_lst, ↓cop_notin_tup, ↓tru_non, ↓tru_bl, ↓tru_int, ↓tru_tup, ↓tru_lst, ↓seq_tup, ↓itm_tup, ↓seq_lst, ↓itm_lst, ↓seq_frz, ↓itm_frz, ↓itm_itr, ↓seq_ref, ↓itm_ref, ↓seq_ti, ↓itm_ti, ↓onO_s, ↓nth_0, ↓nth_1, ↓nth_2, ↓nth_3, ↓nth_4, ↓nth_5, ↓nth_6, ↓nth_7, ↓nth_8, ↓nth_9, ↓nth_10, ↓nth_11, ↓nth_12, ↓bf_len, ↓bf_abs, ↓bf_max, ↓bf_min, ↓bf_int, ↓bf_intb, ↓bf_dm, ↓bf_gcd, ↓bf_all, ↓bf_any, ↓bf_sum, ↓bf_tup, ↓bf_repl, ↓bf_rept, ↓bf_lst, ↓asg_nm, ↓asg_tp, ↓asg_ls, ↓asg_sub, ↓asg_tg, ↓asg_ti, ↓asgs_nil, ↓asgs_cons, ↓mk_f, ↓mk_t, ↓setn_l, ↓setn_r, ↓isn_lst_true, ↓isn_lst_false, ↓isn_tup_true, ↓isn_tup_false, ↓isn_ref_true, ↓isn_ref_false, ↓cnt_t, ↓rev_t, ↓rev_l, ↓rev_ti, ↓onRef_r, ↓two_tt, ↓two_ll, ↓two_ti, ↓still_t, ↓still_ti, ↓still_l, ↓cut_tup, ↓cut_lst, ↓cut_frz, ↓cut_ti, ↓bop_titi, ↓cop_eq_ti, ↓cop_ne_ti, non_non, non_int, ty_int_int, ty_bool_int, ty_str_int, ty_tup_int, ty_lst_int, ty_dict_int, non_bl, ty_int_bl, ty_bool_bl, ty_str_bl, ty_tup_bl, ty_lst_bl, ty_dict_bl, non_str, ty_int_str, ty_bool_str, ty_str_str, ty_tup_str, ty_lst_str, ty_dict_str, non_tup, ty_int_tup, ty_bool_tup, ty_str_tup, ty_tup_tup, ty_lst_tup, ty_dict_tup, non_lst, ty_int_lst, ty_bool_lst, ty_str_lst, ty_tup_lst, ty_lst_lst, ty_dict_lst, ty_int_non, ty_int_ti, ty_bool_non, ty_bool_ti, ty_str_non, ty_str_ti, ty_tup_non, ty_tup_ti, ty_lst_non, ty_lst_ti, ty_dict_non, ty_dict_ti, ta_tup, ta_lst, ta_ti, ta_int, ta_bl, ta_str, ta_non, st_0, st_1, st_2, st_3, st_4, st_5, st_6, st_7, st_8, st_9, st_10, st_11, st_12, st_13, st_14, st_15, st_16, st_17, st_18, st_19, st_20, st_21, st_22, st_23, bp_nm, bp_tp, bp_ls, bp_ti, bps_nil, bps_nm, sts_nil, sts_cons, wp0_nil, wp_0, wp_1, wp_2, wp_3, wp_4, wp_5, wp_6, wp_7, wp_8, wp_9, wp_10, wp_11, wp_12, wp_13, wp_14, wp_15, wp_16, wp_17, wp_18, wp_19, wp_20, wp_21, wp_22, wp_23, rng_1, rng_2, rng_3, rng_4, rng_5, rng_6, rng_7, brkT, brkF, ti1, ti2, ti3, ti4, ti5, ti6, ti_map, eq_ti, pick, List.cons_append, List.nil_append, List.map_cons, List.map_nil, List.getD_cons_zero, List.getD_cons_succ, Bool.not_true, Bool.not_false, ↓seq_v, ↓seq_f, ↓itm_v, ↓itm_f, ↓asg_v, ↓asg_f, bp_v, bp_f, bps_tv, bps_tf, ↓two_vv, ↓two_vt, ↓two_tv, ↓two_ff, ↓still_v, ↓cut_v, ↓cop_eq_v, ↓cop_ne_v, ↓cop_eq_f, ↓cop_ne_f, inD_n, inD_c, pures_c, pures_n, pure_vT, pure_fT, pure_iT, pure_bT, pure_nT, eq_v, eq_f, Bool.or_false, and_self, ↓tru_v, non_v, non_f, ty_v, ty_f, ta_v, ta_f, ↓bop_vv, ↓bop_6v, ↓cut_9a, ↓cut_9b, ↓cut_9c, tup3, tup2, v_ti, f_ti, zipD, wp_cc, true_and, decide_true, decide_false, eq_self, sz_0, sz_1, sz_2, sz_3, sz_4, sz_5, sz_6, sz_7, sz_8, sz_9, sz_10, sz_11, sz_12, enm_1, enm_2, enm_3, enm_4, enm_5, enm_6, enm_7, enm_8, enm_9, enm_10, len_1, len_2, len_3, len_4, len_5, len_6, len_7, len_8, len_9, len_10])
local macro_rules | `(tactic| walk_at "fw") => `(tactic| simp only [lc_app', fc_cons, fc_nil, fw_cons, fw_nil, blk_app, ↓ev_v0, ↓ev_v1, ↓ev_v2, ↓ev_v3, ↓ev_v4, ↓ev_v5, ↓ev_v6, ↓ev_v7, ↓ev_v8, ↓ev_v9, ↓ev_v10, ↓ev_v11, ↓ev_v12, ↓ev_v13, ↓ev_v14, ↓ev_v15, ↓ev_v16, ↓ev_v17, ↓ev_v18, ↓ev_v19, ↓ev_v20, ↓ev_v21, ↓ev_v22, ↓ev_v23, ↓ev_cst, ↓ev_glb, ↓ev_bin, ↓ev_neg, ↓ev_not, ↓ev_cmp, ↓ev_cmp2, ↓ev_and, ↓ev_or, ↓ev_ite, ↓ev_tup, ↓ev_lst, ↓ev_idx, ↓ev_slc, ↓ev_call, ↓ev_callk, ↓ev_bi, ↓ev_isi, ↓ev_isi2, ↓ev_lc, ↓ev_lc2, ↓ev_tcat, ↓ev_rng, ↓ev_rng1, ↓ev_zip, ↓ev_enm, ↓ev_cnt, ↓ev_nset, ↓ev_isn, ↓ev_rev, ↓ev_app, ↓evs_nil, ↓evs_cons, ↓evss_nil, ↓evss_f, ↓evss_t, ↓spr_tup, ↓spr_lst, ↓spr_frz, ↓spr_ti, ↓evo_n, ↓evo_s, ↓evt_n, ↓evt_s, ↓ex_set, ↓ex_par, ↓ex_expr, ↓ex_ret, ↓ex_retN, ↓ex_iff, ↓ex_for, ↓ex_whl, ↓ex_raise, ↓ex_pass, ↓ex_brk, ↓ex_cont, ↓exs_nil, ↓exs_cons, ↓tvf, ↓tvt, ↓asB_bl, ↓asI_i, ↓bop_add, ↓bop_sub, ↓bop_mul, ↓bop_fdv, ↓bop_mod, ↓bop_pow, ↓bop_tt, ↓bop_ll, ↓bop_lm, ↓cop_eq, ↓cop_ne, ↓cop_lt, ↓cop_le, ↓cop_gt, ↓cop_ge, ↓cop_eq_rep, ↓cop_ne_rep, ↓cop_eq_tup, ↓cop_ne_tup, ↓cop_eq_lst, ↓cop_ne_lst, ↓cop_eq_str, ↓cop_ne_str, ↓cop_eq_bl, ↓cop_ne_bl, ↓cop_eq_non, ↓cop_ne_non, ↓cop_is_n, ↓cop_is_b, ↓cop_isnot_n, ↓cop_isnot_b, ↓cop_isin_lst, ↓cop_isin_tup, ↓cop_notin_lst, ↓cop_notin_tup, ↓tru_non, ↓tru_bl, ↓tru_int, ↓tru_tup, ↓tru_lst, ↓seq_tup, ↓itm_tup, ↓seq_lst, ↓itm_lst, ↓seq_frz, ↓itm_frz, ↓itm_itr, ↓seq_ref, ↓itm_ref, ↓seq_ti, ↓itm_ti, ↓onO_s, ↓nth_0, ↓nth_1, ↓nth_2, ↓nth_3, ↓nth_4, ↓nth_5, ↓nth_6, ↓nth_7, ↓nth_8, ↓nth_9, ↓nth_10, ↓nth_11, ↓nth_12, ↓bf_len, ↓bf_abs, ↓bf_max, ↓bf_min, ↓bf_int, ↓bf_intb, ↓bf_dm, ↓bf_gcd, ↓bf_all, ↓bf_any, ↓bf_sum, ↓bf_tup, ↓bf_repl, ↓bf_rept, ↓bf_lst, ↓asg_nm, ↓asg_tp, ↓asg_ls, ↓asg_sub, ↓asg_tg, ↓asg_ti, ↓asgs_nil, ↓asgs_cons, ↓mk_f, ↓mk_t, ↓setn_l, ↓setn_r, ↓isn_lst_true, ↓isn_lst_false, ↓isn_tup_true, ↓isn_tup_false, ↓isn_ref_true, ↓isn_ref_false, ↓cnt_t, ↓rev_t, ↓rev_l, ↓rev_ti, ↓onRef_r, ↓two_tt, ↓two_ll, ↓two_ti, ↓still_t, ↓still_ti, ↓still_l, ↓cut_tup, ↓cut_lst, ↓cut_frz, ↓cut_ti, ↓bop_titi, ↓cop_eq_ti, ↓cop_ne_ti, non_non, non_int, ty_int_int, ty_bool_int, ty_str_int, ty_tup_int, ty_lst_int, ty_dict_int, non_bl, ty_int_bl, ty_bool_bl, ty_str_bl, ty_tup_bl, ty_lst_bl, ty_dict_bl, non_str, ty_int_str, ty_bool_str, ty_str_str, ty_tup_str, ty_lst_str, ty_dict_str, non_tup, ty_int_tup, ty_bool_tup, ty_str_tup, ty_tup_tup, ty_lst_tup, ty_dict_tup, non_lst, ty_int_lst, ty_bool_lst, ty_str_lst, ty_tup_lst, ty_lst_lst, ty_dict_lst, ty_int_non, ty_int_ti, ty_bool_non, ty_bool_ti, ty_str_non, ty_str_ti, ty_tup_non, ty_tup_ti, ty_lst_non, ty_lst_ti, ty_dict_non, ty_dict_ti, ta_tup, ta_lst, ta_ti, ta_int, ta_bl, ta_str, ta_non, st_0, st_1, st_2, st_3, st_4, st_5, st_6, st_7, st_8, st_9, st_10, st_11, st_12, st_13, st_14, st_15, st_16, st_17, st_18, st_19, st_20, st_21, st_22, st_23, bp_nm, bp_tp, bp_ls, bp_ti, bps_nil, bps_nm, sts_nil, sts_cons, wp0_nil, wp_0, wp_1, wp_2, wp_3, wp_4, wp_5, wp_6, wp_7, wp_8, wp_9, wp_10, wp_11, wp_12, wp_13, wp_14, wp_15, wp_16, wp_17, wp_18, wp_19, wp_20, wp_21, wp_22, wp_23, rng_1, rng_2, rng_3, rng_4, rng_5, rng_6, rng_7, brkT, brkF, ti1, ti2, ti3, ti4, ti5, ti6, ti_map, eq_ti, pick, List.cons_append, List.nil_append, List.map_cons, List.map_nil, List.getD_cons_zero, List.getD_cons_succ, Bool.not_true, Bool.not_false, ↓seq_v, ↓seq_f, ↓itm_v, ↓itm_f, ↓asg_v, ↓asg_f, bp_v, bp_f, bps_tv, bps_tf, ↓two_vv, ↓two_vt, ↓two_tv, ↓two_ff, ↓still_v, ↓cut_v, ↓cop_eq_v, ↓cop_ne_v, ↓cop_eq_f, ↓cop_ne_f, inD_n, inD_c, pures_c, pures_n, pure_vT, pure_fT, pure_iT, pure_bT, pure_nT, eq_v, eq_f, Bool.or_false, and_self, ↓tru_v, non_v, non_f, ty_v, ty_f, ta_v, ta_f, ↓bop_vv, ↓bop_6v, ↓cut_9a, ↓cut_9b, ↓cut_9c, tup3, tup2, v_ti, f_ti, zipD, wp_cc, true_and, decide_true, decide_false, eq_self, sz_0, sz_1, sz_2, sz_3, sz_4, sz_5, sz_6, sz_7, sz_8, sz_9, sz_10, sz_11, sz_12, enm_1, enm_2, enm_3, enm_4, enm_5, enm_6, enm_7, enm_8, enm_9, enm_10, len_1, len_2, len_3, len_4, len_5, len_6, len_7, len_8, len_9, len_10])
local macro_rules | `(tactic| walk_at "f1") => `(tactic| first
  | assumption
  | (with_reducible apply And.intro; walk_at "fs")
  | (with_reducible apply brk_t; walk_at "fd")
  | (with_reducible apply brk_f; walk_at "fd")
  | (with_reducible apply s_cross; walk_at "fs"; walk_at "fs"; walk_at "fs")
  | (with_reducible apply s_dot; walk_at "fs"; walk_at "fs"; walk_at "fs")
  | (with_reducible apply s_block; walk_at "fs"; walk_at "fs"; walk_at "fs"; walk_at "fs"; walk_at "fs"; walk_at "fs")
  | (with_reducible apply s_added)
  | (with_reducible apply s_scaled; walk_at "fs"; walk_at "fs")
  | (with_reducible apply s_law_dot; walk_at "fs"; walk_at "fs"; walk_at "fs")
  | (with_reducible apply s_law_plain_v2; walk_at "fs"; walk_at "fs"; walk_at "fs")
  | (with_reducible apply s_divisor_of)
  | (with_reducible apply s_first_live)
  | (with_reducible apply s_plain_of; walk_at "fs"; walk_at "fs"; walk_at "fs")
  | (with_reducible apply s_is_zero)
  | (with_reducible apply s_made_plain; walk_at "fs"; walk_at "fs"; walk_at "fs")
  | (with_reducible apply s_is_plain; walk_at "fs"; walk_at "fs"; walk_at "fs")
  | (with_reducible apply s_is_triple; walk_at "fs"; walk_at "fs")
  | (with_reducible apply s_is_point; walk_at "fs"; walk_at "fs")
  | (with_reducible apply s_law_divisor)
  | (with_reducible apply s_law_plain; walk_at "fs"; walk_at "fs"; walk_at "fs")
  | (with_reducible apply s_law_is_triple; walk_at "fs"; walk_at "fs"; walk_at "fs")
  | (with_reducible apply s_is_whole)
  | (with_reducible apply s_is_tuple_up_to)
  | (with_reducible apply s_is_tuple_of)
  | (with_reducible apply s_are_whole; walk_at "fs")
  | (with_reducible apply s_law_cross; walk_at "fs"; walk_at "fs"; walk_at "fs"))
local macro_rules | `(tactic| walk_at "go") => `(tactic| repeat (first | walk_at "f1" | walk_at "fw"))
local macro_rules | `(tactic| walk_at "g0") => `(tactic| repeat (first | walk_at "f1" | walk_at "fx"))
def mD (m : M3) : D := .tup [vD m.a, vD m.b, vD m.c]
def bm (n : Nat) (m : M3) : Prop := bv n m.a ∧ bv n m.b ∧ bv n m.c
theorem bm_pm {n : Nat} {m : M3} (h : bm n m) (hd : det m ≠ 0) : bm n (pm m) := by
  have e := pm_mul hd
  have hc := dvm hd
  have w : ∀ {x y : Int}, x = dv m.l * y → bt n x → bt n y := fun {x y} e h => by
    by_cases hx : x = 0
    · have : y = 0 := (Int.mul_eq_zero.mp (e.symm.trans hx)).resolve_left hc
      rw [this]; rw [hx] at h; exact h
    · exact bt_dvd h ⟨dv m.l, by rw [e, Int.mul_comm]⟩ hx
  have ea : m.a = sm (dv m.l) (pm m).a := congrArg M3.a e
  have eb : m.b = sm (dv m.l) (pm m).b := congrArg M3.b e
  have ec : m.c = sm (dv m.l) (pm m).c := congrArg M3.c e
  exact ⟨⟨w (congrArg T3.x ea) h.1.1, w (congrArg T3.y ea) h.1.2.1, w (congrArg T3.z ea) h.1.2.2⟩, ⟨w (congrArg T3.x eb) h.2.1.1, w (congrArg T3.y eb) h.2.1.2.1, w (congrArg T3.z eb) h.2.1.2.2⟩, ⟨w (congrArg T3.x ec) h.2.2.1, w (congrArg T3.y ec) h.2.2.2.1, w (congrArg T3.z ec) h.2.2.2.2⟩⟩
theorem bd9_of {n : Nat} {m : M3} (h : bm n m) (l : n ≤ 8000) : Bd m.l := by
  have w : ∀ {x : Int}, bt n x → x.natAbs < BIG := fun h => bt_mono h l
  intro x hx
  simp only [M3.l, List.mem_cons, List.not_mem_nil, or_false] at hx
  rcases hx with rfl | rfl | rfl | rfl | rfl | rfl | rfl | rfl | rfl
  · exact w h.1.1
  · exact w h.1.2.1
  · exact w h.1.2.2
  · exact w h.2.1.1
  · exact w h.2.1.2.1
  · exact w h.2.1.2.2
  · exact w h.2.2.1
  · exact w h.2.2.2.1
  · exact w h.2.2.2.2
section
variable {n : Nat} {S : Store} {k X : D → Store → Prop} {u v w : T3} {a b c : Nat} {m : M3} {f : F2}
theorem s_cross_v (hu : bv a u) (hv : bv b v) (l : a ≤ 400000 ∧ b ≤ 400000) (h : k (vD (cr u v)) S) : CT (n + 1) i_cross [vD u, vD v] S k X := by
  refine c_cross ?_
  unfold f_cross
  walk_at "go"
theorem s_dot_v (hu : bv a u) (hv : bv b v) (l : a ≤ 400000 ∧ b ≤ 400000) (h : k (.int (dt u v)) S) : CT (n + 1) i_dot [vD u, vD v] S k X :=
  s_dot (by walk_at "fs") (by walk_at "fs") (by walk_at "fs") h
theorem s_block_v (hu : bv a u) (hv : bv b v) (hw : bv c w) (l : a ≤ 100000 ∧ b ≤ 100000 ∧ c ≤ 100000) (h : k (.int (bk u v w)) S) : CT (n + 2) i_block [vD u, vD v, vD w] S k X := by
  refine c_block ?_
  unfold f_block
  try walk_at "fx"
  refine s_cross_v hv hw (by omega) ?_
  exact s_dot_v hu (bv_cr hv hw) (by omega) h
end
end FV
set_option Elab.async false
set_option linter.all false
set_option maxRecDepth 100000
/-! Lf: the program's views, double ratios. -/
namespace FV
section
variable {C : Hd} {X : D → Store → Prop} {σ : Env} {S : Store} {k : D → Store → Prop} {m : M3}
theorem seq_m {p : List D → Prop} : seq (mD m) S p = p [vD m.a, vD m.b, vD m.c] := nr rfl
theorem itm_m {p : Gd → List D → Prop} : itm (mD m) S p = p none [vD m.a, vD m.b, vD m.c] := nr rfl
end
local macro_rules | `(tactic| walk_at "fbt") => `(tactic| first
  | assumption
  | exact bv_x (by assumption)
  | exact bv_y (by assumption)
  | exact bv_z (by assumption)
  | (apply bt_add <;> walk_at "fbt")
  | (apply bt_sub <;> walk_at "fbt")
  | (apply bt_mul <;> walk_at "fbt")
  | (apply bt_neg <;> walk_at "fbt")
  | (apply bt_dt <;> walk_at "fbt")
  | (apply bt_bk <;> walk_at "fbt")
  | (apply bv_cr <;> walk_at "fbt")
  | (apply bv_pv <;> walk_at "fbt")
  | (apply bv_sm <;> walk_at "fbt")
  | (apply bv_ad <;> walk_at "fbt")
  | exact bt_lt (n := 64) (by decide) (by decide)
  | (apply bv_mk <;> walk_at "fbt"))
local macro_rules | `(tactic| walk_at "fs") => `(tactic| first
  | assumption
  | (apply mulOk_bt; walk_at "fbt"; walk_at "fbt"; first | decide | assumption | omega)
  | (refine mulOk_l ?_ ?_ <;> omega)
  | (refine mulOk_r ?_ ?_ <;> omega)
  | walk_at "fbt"
  | omega
  | decide
  | (simp [SZ]; done))
local macro_rules | `(tactic| walk_at "fd") => `(tactic| first
  | rfl
  | exact decide_eq_true (by assumption)
  | exact decide_eq_false (by assumption)
  | decide
  | exact decide_eq_true (by omega)
  | exact decide_eq_false (by omega)
  | (simp [*]; done))
local macro_rules | `(tactic| walk_at "fx") => `(tactic| simp only [lc_app', fc_cons, fc_nil, blk_app, ↓ev_v0, ↓ev_v1, ↓ev_v2, ↓ev_v3, ↓ev_v4, ↓ev_v5, ↓ev_v6, ↓ev_v7, ↓ev_v8, ↓ev_v9, ↓ev_v10, ↓ev_v11, ↓ev_v12, ↓ev_v13, ↓ev_v14, ↓ev_v15, ↓ev_v16, ↓ev_v17, ↓ev_v18, ↓ev_v19, ↓ev_v20, ↓ev_v21, ↓ev_v22, ↓ev_v23, ↓ev_cst, ↓ev_glb, ↓ev_bin, ↓ev_neg, ↓ev_not, ↓ev_cmp, ↓ev_cmp2, ↓ev_and, ↓ev_or, ↓ev_ite, ↓ev_tup, ↓ev_lst, ↓ev_idx, ↓ev_slc, ↓ev_call, ↓ev_callk, ↓ev_bi, ↓ev_isi, ↓ev_isi2, ↓ev_lc, ↓ev_lc2, ↓ev_tcat, ↓ev_rng, ↓ev_rng1, ↓ev_zip, ↓ev_enm, ↓ev_cnt, ↓ev_nset, ↓ev_isn, ↓ev_rev, ↓ev_app, ↓evs_nil, ↓evs_cons, ↓evss_nil, ↓evss_f, ↓evss_t, ↓spr_tup, ↓spr_lst, ↓spr_frz, ↓spr_ti, ↓evo_n, ↓evo_s, ↓evt_n, ↓evt_s, ↓ex_set, ↓ex_par, ↓ex_expr, ↓ex_ret, ↓ex_retN, ↓ex_iff, ↓ex_for, ↓ex_whl, ↓ex_raise, ↓ex_pass, ↓ex_brk, ↓ex_cont, ↓exs_nil, ↓exs_cons, ↓tvf, ↓tvt, ↓asB_bl, ↓asI_i, ↓bop_add, ↓bop_sub, ↓bop_mul, ↓bop_fdv, ↓bop_mod, ↓bop_pow, ↓bop_tt, ↓bop_ll, ↓bop_lm, ↓cop_eq, ↓cop_ne, ↓cop_lt, ↓cop_le, ↓cop_gt, ↓cop_ge, ↓cop_eq_rep, ↓cop_ne_rep, ↓cop_eq_tup, ↓cop_ne_tup, ↓cop_eq_lst, ↓cop_ne_lst, ↓cop_eq_str, ↓cop_ne_str, ↓cop_eq_bl, ↓cop_ne_bl, ↓cop_eq_non, ↓cop_ne_non, ↓cop_is_n, ↓cop_is_b, ↓cop_isnot_n, ↓cop_isnot_b, ↓cop_isin_lst, ↓cop_isin_tup, ↓cop_notin_lst, ↓cop_notin_tup, ↓tru_non, ↓tru_bl, ↓tru_int, ↓tru_tup, ↓tru_lst, ↓seq_tup, ↓itm_tup, ↓seq_lst, ↓itm_lst, ↓seq_frz, ↓itm_frz, ↓itm_itr, ↓seq_ref, ↓itm_ref, ↓seq_ti, ↓itm_ti, ↓onO_s, ↓nth_0, ↓nth_1, ↓nth_2, ↓nth_3, ↓nth_4, ↓nth_5, ↓nth_6, ↓nth_7, ↓nth_8, ↓nth_9, ↓nth_10, ↓nth_11, ↓nth_12, ↓bf_len, ↓bf_abs, ↓bf_max, ↓bf_min, ↓bf_int, ↓bf_intb, ↓bf_dm, ↓bf_gcd, ↓bf_all, ↓bf_any, ↓bf_sum, ↓bf_tup, ↓bf_repl, ↓bf_rept, ↓bf_lst, ↓asg_nm, ↓asg_tp, ↓asg_ls, ↓asg_sub, ↓asg_tg, ↓asg_ti, ↓asgs_nil, ↓asgs_cons, ↓mk_f, ↓mk_t, ↓setn_l, ↓setn_r, ↓isn_lst_true, ↓isn_lst_false, ↓isn_tup_true, ↓isn_tup_false, ↓isn_ref_true, ↓isn_ref_false, ↓cnt_t, ↓rev_t, ↓rev_l, ↓rev_ti, ↓onRef_r, ↓two_tt, ↓two_ll, ↓two_ti, ↓still_t, ↓still_ti, ↓still_l, ↓cut_tup, ↓cut_lst, ↓cut_frz, ↓cut_ti, ↓bop_titi, ↓cop_eq_ti, ↓cop_ne_ti, non_non, non_int, ty_int_int, ty_bool_int, ty_str_int, ty_tup_int, ty_lst_int, ty_dict_int, non_bl, ty_int_bl, ty_bool_bl, ty_str_bl, ty_tup_bl, ty_lst_bl, ty_dict_bl, non_str, ty_int_str, ty_bool_str, ty_str_str, ty_tup_str, ty_lst_str, ty_dict_str, non_tup, ty_int_tup, ty_bool_tup, ty_str_tup, ty_tup_tup, ty_lst_tup, ty_dict_tup, non_lst, ty_int_lst, ty_bool_lst, ty_str_lst, ty_tup_lst, ty_lst_lst, ty_dict_lst, ty_int_non, ty_int_ti, ty_bool_non, ty_bool_ti, ty_str_non, ty_str_ti, ty_tup_non, ty_tup_ti, ty_lst_non, ty_lst_ti, ty_dict_non, ty_dict_ti, ta_tup, ta_lst, ta_ti, ta_int, ta_bl, ta_str, ta_non, st_0, st_1, st_2, st_3, st_4, st_5, st_6, st_7, st_8, st_9, st_10, st_11, st_12, st_13, st_14, st_15, st_16, st_17, st_18, st_19, st_20, st_21, st_22, st_23, bp_nm, bp_tp, bp_ls, bp_ti, bps_nil, bps_nm, sts_nil, sts_cons, wp0_nil, wp_0, wp_1, wp_2, wp_3, wp_4, wp_5, wp_6, wp_7, wp_8, wp_9, wp_10, wp_11, wp_12, wp_13, wp_14, wp_15, wp_16, wp_17, wp_18, wp_19, wp_20, wp_21, wp_22, wp_23, rng_1, rng_2, rng_3, rng_4, rng_5, rng_6, rng_7, brkT, brkF, ti1, ti2, ti3, ti4, ti5, ti6, ti_map, eq_ti, pick, List.cons_append, List.nil_append, List.map_cons, List.map_nil, List.getD_cons_zero, List.getD_cons_succ, Bool.not_true, Bool.not_false, ↓seq_v, ↓seq_f, ↓itm_v, ↓itm_f, ↓asg_v, ↓asg_f, bp_v, bp_f, bps_tv, bps_tf, ↓two_vv, ↓two_vt, ↓two_tv, ↓two_ff, ↓still_v, ↓cut_v, ↓cop_eq_v, ↓cop_ne_v, ↓cop_eq_f, ↓cop_ne_f, inD_n, inD_c, pures_c, pures_n, pure_vT, pure_fT, pure_iT, pure_bT, pure_nT, eq_v, eq_f, Bool.or_false, and_self, ↓tru_v, non_v, non_f, ty_v, ty_f, ta_v, ta_f, ↓bop_vv, ↓bop_6v, ↓cut_9a, ↓cut_9b, ↓cut_9c, tup3, tup2, v_ti, f_ti, zipD, wp_cc, true_and, decide_true, decide_false, eq_self, sz_0, sz_1, sz_2, sz_3, sz_4, sz_5, sz_6, sz_7, sz_8, sz_9, sz_10, sz_11, sz_12, enm_1, enm_2, enm_3, enm_4, enm_5, enm_6, enm_7, enm_8, enm_9, enm_10, len_1, len_2, len_3, len_4, len_5, len_6, len_7, len_8, len_9, len_10])
local macro_rules | `(tactic| walk_at "fw") => `(tactic| simp only [lc_app', fc_cons, fc_nil, fw_cons, fw_nil, blk_app, ↓ev_v0, ↓ev_v1, ↓ev_v2, ↓ev_v3, ↓ev_v4, ↓ev_v5, ↓ev_v6, ↓ev_v7, ↓ev_v8, ↓ev_v9, ↓ev_v10, ↓ev_v11, ↓ev_v12, ↓ev_v13, ↓ev_v14, ↓ev_v15, ↓ev_v16, ↓ev_v17, ↓ev_v18, ↓ev_v19, ↓ev_v20, ↓ev_v21, ↓ev_v22, ↓ev_v23, ↓ev_cst, ↓ev_glb, ↓ev_bin, ↓ev_neg, ↓ev_not, ↓ev_cmp, ↓ev_cmp2, ↓ev_and, ↓ev_or, ↓ev_ite, ↓ev_tup, ↓ev_lst, ↓ev_idx, ↓ev_slc, ↓ev_call, ↓ev_callk, ↓ev_bi, ↓ev_isi, ↓ev_isi2, ↓ev_lc, ↓ev_lc2, ↓ev_tcat, ↓ev_rng, ↓ev_rng1, ↓ev_zip, ↓ev_enm, ↓ev_cnt, ↓ev_nset, ↓ev_isn, ↓ev_rev, ↓ev_app, ↓evs_nil, ↓evs_cons, ↓evss_nil, ↓evss_f, ↓evss_t, ↓spr_tup, ↓spr_lst, ↓spr_frz, ↓spr_ti, ↓evo_n, ↓evo_s, ↓evt_n, ↓evt_s, ↓ex_set, ↓ex_par, ↓ex_expr, ↓ex_ret, ↓ex_retN, ↓ex_iff, ↓ex_for, ↓ex_whl, ↓ex_raise, ↓ex_pass, ↓ex_brk, ↓ex_cont, ↓exs_nil, ↓exs_cons, ↓tvf, ↓tvt, ↓asB_bl, ↓asI_i, ↓bop_add, ↓bop_sub, ↓bop_mul, ↓bop_fdv, ↓bop_mod, ↓bop_pow, ↓bop_tt, ↓bop_ll, ↓bop_lm, ↓cop_eq, ↓cop_ne, ↓cop_lt, ↓cop_le, ↓cop_gt, ↓cop_ge, ↓cop_eq_rep, ↓cop_ne_rep, ↓cop_eq_tup, ↓cop_ne_tup, ↓cop_eq_lst, ↓cop_ne_lst, ↓cop_eq_str, ↓cop_ne_str, ↓cop_eq_bl, ↓cop_ne_bl, ↓cop_eq_non, ↓cop_ne_non, ↓cop_is_n, ↓cop_is_b, ↓cop_isnot_n, ↓cop_isnot_b, ↓cop_isin_lst, ↓cop_isin_tup, ↓cop_notin_lst, ↓cop_notin_tup, ↓tru_non, ↓tru_bl, ↓tru_int, ↓tru_tup, ↓tru_lst, ↓seq_tup, ↓itm_tup, ↓seq_lst, ↓itm_lst, ↓seq_frz, ↓itm_frz, ↓itm_itr, ↓seq_ref, ↓itm_ref, ↓seq_ti, ↓itm_ti, ↓onO_s, ↓nth_0, ↓nth_1, ↓nth_2, ↓nth_3, ↓nth_4, ↓nth_5, ↓nth_6, ↓nth_7, ↓nth_8, ↓nth_9, ↓nth_10, ↓nth_11, ↓nth_12, ↓bf_len, ↓bf_abs, ↓bf_max, ↓bf_min, ↓bf_int, ↓bf_intb, ↓bf_dm, ↓bf_gcd, ↓bf_all, ↓bf_any, ↓bf_sum, ↓bf_tup, ↓bf_repl, ↓bf_rept, ↓bf_lst, ↓asg_nm, ↓asg_tp, ↓asg_ls, ↓asg_sub, ↓asg_tg, ↓asg_ti, ↓asgs_nil, ↓asgs_cons, ↓mk_f, ↓mk_t, ↓setn_l, ↓setn_r, ↓isn_lst_true, ↓isn_lst_false, ↓isn_tup_true, ↓isn_tup_false, ↓isn_ref_true, ↓isn_ref_false, ↓cnt_t, ↓rev_t, ↓rev_l, ↓rev_ti, ↓onRef_r, ↓two_tt, ↓two_ll, ↓two_ti, ↓still_t, ↓still_ti, ↓still_l, ↓cut_tup, ↓cut_lst, ↓cut_frz, ↓cut_ti, ↓bop_titi, ↓cop_eq_ti, ↓cop_ne_ti, non_non, non_int, ty_int_int, ty_bool_int, ty_str_int, ty_tup_int, ty_lst_int, ty_dict_int, non_bl, ty_int_bl, ty_bool_bl, ty_str_bl, ty_tup_bl, ty_lst_bl, ty_dict_bl, non_str, ty_int_str, ty_bool_str, ty_str_str, ty_tup_str, ty_lst_str, ty_dict_str, non_tup, ty_int_tup, ty_bool_tup, ty_str_tup, ty_tup_tup, ty_lst_tup, ty_dict_tup, non_lst, ty_int_lst, ty_bool_lst, ty_str_lst, ty_tup_lst, ty_lst_lst, ty_dict_lst, ty_int_non, ty_int_ti, ty_bool_non, ty_bool_ti, ty_str_non, ty_str_ti, ty_tup_non, ty_tup_ti, ty_lst_non, ty_lst_ti, ty_dict_non, ty_dict_ti, ta_tup, ta_lst, ta_ti, ta_int, ta_bl, ta_str, ta_non, st_0, st_1, st_2, st_3, st_4, st_5, st_6, st_7, st_8, st_9, st_10, st_11, st_12, st_13, st_14, st_15, st_16, st_17, st_18, st_19, st_20, st_21, st_22, st_23, bp_nm, bp_tp, bp_ls, bp_ti, bps_nil, bps_nm, sts_nil, sts_cons, wp0_nil, wp_0, wp_1, wp_2, wp_3, wp_4, wp_5, wp_6, wp_7, wp_8, wp_9, wp_10, wp_11, wp_12, wp_13, wp_14, wp_15, wp_16, wp_17, wp_18, wp_19, wp_20, wp_21, wp_22, wp_23, rng_1, rng_2, rng_3, rng_4, rng_5, rng_6, rng_7, brkT, brkF, ti1, ti2, ti3, ti4, ti5, ti6, ti_map, eq_ti, pick, List.cons_append, List.nil_append, List.map_cons, List.map_nil, List.getD_cons_zero, List.getD_cons_succ, Bool.not_true, Bool.not_false, ↓seq_v, ↓seq_f, ↓itm_v, ↓itm_f, ↓asg_v, ↓asg_f, bp_v, bp_f, bps_tv, bps_tf, ↓two_vv, ↓two_vt, ↓two_tv, ↓two_ff, ↓still_v, ↓cut_v, ↓cop_eq_v, ↓cop_ne_v, ↓cop_eq_f, ↓cop_ne_f, inD_n, inD_c, pures_c, pures_n, pure_vT, pure_fT, pure_iT, pure_bT, pure_nT, eq_v, eq_f, Bool.or_false, and_self, ↓tru_v, non_v, non_f, ty_v, ty_f, ta_v, ta_f, ↓bop_vv, ↓bop_6v, ↓cut_9a, ↓cut_9b, ↓cut_9c, tup3, tup2, v_ti, f_ti, zipD, wp_cc, true_and, decide_true, decide_false, eq_self, sz_0, sz_1, sz_2, sz_3, sz_4, sz_5, sz_6, sz_7, sz_8, sz_9, sz_10, sz_11, sz_12, enm_1, enm_2, enm_3, enm_4, enm_5, enm_6, enm_7, enm_8, enm_9, enm_10, len_1, len_2, len_3, len_4, len_5, len_6, len_7, len_8, len_9, len_10])
local macro_rules | `(tactic| walk_at "f1") => `(tactic| first
  | assumption
  | (with_reducible apply And.intro; walk_at "fs")
  | (with_reducible apply brk_t; walk_at "fd")
  | (with_reducible apply brk_f; walk_at "fd")
  | (with_reducible apply s_cross_v; walk_at "fs"; walk_at "fs"; walk_at "fs")
  | (with_reducible apply s_dot_v; walk_at "fs"; walk_at "fs"; walk_at "fs")
  | (with_reducible apply s_block_v; walk_at "fs"; walk_at "fs"; walk_at "fs"; walk_at "fs")
  | (with_reducible apply s_added_v)
  | (with_reducible apply s_scaled_v; walk_at "fs"; walk_at "fs"; walk_at "fs")
  | (with_reducible apply s_plain_of_v; walk_at "fs"; walk_at "fs"; walk_at "fs")
  | (with_reducible apply s_plain_of_f; walk_at "fs"; walk_at "fs"; walk_at "fs"; walk_at "fs")
  | (with_reducible apply s_is_zero_v)
  | (with_reducible apply s_is_triple_v; walk_at "fs")
  | (with_reducible apply s_check_point_v; walk_at "fs")
  | (with_reducible apply s_check_straight_v; walk_at "fs")
  | (with_reducible apply s_check_other_point_v; walk_at "fs"; walk_at "fs")
  | (with_reducible apply s_check_other_straight_v; walk_at "fs"; walk_at "fs")
  | (with_reducible apply s_join_v; walk_at "fs"; walk_at "fs"; walk_at "fs"; walk_at "fs"; walk_at "fs"; walk_at "fs")
  | (with_reducible apply s_meet_v; walk_at "fs"; walk_at "fs"; walk_at "fs"; walk_at "fs"; walk_at "fs"; walk_at "fs")
  | (with_reducible apply s_cross; walk_at "fs"; walk_at "fs"; walk_at "fs")
  | (with_reducible apply s_dot; walk_at "fs"; walk_at "fs"; walk_at "fs")
  | (with_reducible apply s_block; walk_at "fs"; walk_at "fs"; walk_at "fs"; walk_at "fs"; walk_at "fs"; walk_at "fs")
  | (with_reducible apply s_added)
  | (with_reducible apply s_scaled; walk_at "fs"; walk_at "fs")
  | (with_reducible apply s_law_dot; walk_at "fs"; walk_at "fs"; walk_at "fs")
  | (with_reducible apply s_law_plain_v2; walk_at "fs"; walk_at "fs"; walk_at "fs")
  | (with_reducible apply s_divisor_of)
  | (with_reducible apply s_first_live)
  | (with_reducible apply s_plain_of; walk_at "fs"; walk_at "fs"; walk_at "fs")
  | (with_reducible apply s_is_zero)
  | (with_reducible apply s_made_plain; walk_at "fs"; walk_at "fs"; walk_at "fs")
  | (with_reducible apply s_is_plain; walk_at "fs"; walk_at "fs"; walk_at "fs")
  | (with_reducible apply s_is_triple; walk_at "fs"; walk_at "fs")
  | (with_reducible apply s_is_point; walk_at "fs"; walk_at "fs")
  | (with_reducible apply s_law_divisor)
  | (with_reducible apply s_law_plain; walk_at "fs"; walk_at "fs"; walk_at "fs")
  | (with_reducible apply s_law_is_triple; walk_at "fs"; walk_at "fs"; walk_at "fs")
  | (with_reducible apply s_is_whole)
  | (with_reducible apply s_is_tuple_up_to)
  | (with_reducible apply s_is_tuple_of)
  | (with_reducible apply s_are_whole; walk_at "fs")
  | (with_reducible apply s_law_cross; walk_at "fs"; walk_at "fs"; walk_at "fs"))
local macro_rules | `(tactic| walk_at "go") => `(tactic| repeat (first | walk_at "f1" | walk_at "fw"))
local macro_rules | `(tactic| walk_at "g0") => `(tactic| repeat (first | walk_at "f1" | walk_at "fx"))
section
variable {n : Nat} {S : Store} {k X : D → Store → Prop} {u v w x y z p q : T3} {a b c d : Nat} {m : M3} {f : F2}
/-! ### double ratios -/
end
end FV
set_option Elab.async false
set_option linter.all false
set_option maxRecDepth 100000
/-! Fr4: four points in general position; tickets; small things for k02 to k19. -/
namespace FV
local macro_rules | `(tactic| walk_at "fbt") => `(tactic| first
  | assumption
  | exact bv_x (by assumption)
  | exact bv_y (by assumption)
  | exact bv_z (by assumption)
  | (apply bt_add <;> walk_at "fbt")
  | (apply bt_sub <;> walk_at "fbt")
  | (apply bt_mul <;> walk_at "fbt")
  | (apply bt_neg <;> walk_at "fbt")
  | (apply bt_dt <;> walk_at "fbt")
  | (apply bt_bk <;> walk_at "fbt")
  | (apply bv_cr <;> walk_at "fbt")
  | (apply bv_pv <;> walk_at "fbt")
  | (apply bv_sm <;> walk_at "fbt")
  | (apply bv_ad <;> walk_at "fbt")
  | exact bt_lt (n := 64) (by decide) (by decide)
  | (apply bv_mk <;> walk_at "fbt"))
local macro_rules | `(tactic| walk_at "fs") => `(tactic| first
  | assumption
  | (apply mulOk_bt; walk_at "fbt"; walk_at "fbt"; first | decide | assumption | omega)
  | (refine mulOk_l ?_ ?_ <;> omega)
  | (refine mulOk_r ?_ ?_ <;> omega)
  | walk_at "fbt"
  | omega
  | decide
  | (simp [SZ]; done))
local macro_rules | `(tactic| walk_at "fd") => `(tactic| first
  | rfl
  | exact decide_eq_true (by assumption)
  | exact decide_eq_false (by assumption)
  | decide
  | exact decide_eq_true (by omega)
  | exact decide_eq_false (by omega)
  | (simp [*]; done))
local macro_rules | `(tactic| walk_at "fx") => `(tactic| simp only [lc_app', fc_cons, fc_nil, blk_app, ↓ev_v0, ↓ev_v1, ↓ev_v2, ↓ev_v3, ↓ev_v4, ↓ev_v5, ↓ev_v6, ↓ev_v7, ↓ev_v8, ↓ev_v9, ↓ev_v10, ↓ev_v11, ↓ev_v12, ↓ev_v13, ↓ev_v14, ↓ev_v15, ↓ev_v16, ↓ev_v17, ↓ev_v18, ↓ev_v19, ↓ev_v20, ↓ev_v21, ↓ev_v22, ↓ev_v23, ↓ev_cst, ↓ev_glb, ↓ev_bin, ↓ev_neg, ↓ev_not, ↓ev_cmp, ↓ev_cmp2, ↓ev_and, ↓ev_or, ↓ev_ite, ↓ev_tup, ↓ev_lst, ↓ev_idx, ↓ev_slc, ↓ev_call, ↓ev_callk, ↓ev_bi, ↓ev_isi, ↓ev_isi2, ↓ev_lc, ↓ev_lc2, ↓ev_tcat, ↓ev_rng, ↓ev_rng1, ↓ev_zip, ↓ev_enm, ↓ev_cnt, ↓ev_nset, ↓ev_isn, ↓ev_rev, ↓ev_app, ↓evs_nil, ↓evs_cons, ↓evss_nil, ↓evss_f, ↓evss_t, ↓spr_tup, ↓spr_lst, ↓spr_frz, ↓spr_ti, ↓evo_n, ↓evo_s, ↓evt_n, ↓evt_s, ↓ex_set, ↓ex_par, ↓ex_expr, ↓ex_ret, ↓ex_retN, ↓ex_iff, ↓ex_for, ↓ex_whl, ↓ex_raise, ↓ex_pass, ↓ex_brk, ↓ex_cont, ↓exs_nil, ↓exs_cons, ↓tvf, ↓tvt, ↓asB_bl, ↓asI_i, ↓bop_add, ↓bop_sub, ↓bop_mul, ↓bop_fdv, ↓bop_mod, ↓bop_pow, ↓bop_tt, ↓bop_ll, ↓bop_lm, ↓cop_eq, ↓cop_ne, ↓cop_lt, ↓cop_le, ↓cop_gt, ↓cop_ge, ↓cop_eq_rep, ↓cop_ne_rep, ↓cop_eq_tup, ↓cop_ne_tup, ↓cop_eq_lst, ↓cop_ne_lst, ↓cop_eq_str, ↓cop_ne_str, ↓cop_eq_bl, ↓cop_ne_bl, ↓cop_eq_non, ↓cop_ne_non, ↓cop_is_n, ↓cop_is_b, ↓cop_isnot_n, ↓cop_isnot_b, ↓cop_isin_lst, ↓cop_isin_tup, ↓cop_notin_lst, ↓cop_notin_tup, ↓tru_non, ↓tru_bl, ↓tru_int, ↓tru_tup, ↓tru_lst, ↓seq_tup, ↓itm_tup, ↓seq_lst, ↓itm_lst, ↓seq_frz, ↓itm_frz, ↓itm_itr, ↓seq_ref, ↓itm_ref, ↓seq_ti, ↓itm_ti, ↓onO_s, ↓nth_0, ↓nth_1, ↓nth_2, ↓nth_3, ↓nth_4, ↓nth_5, ↓nth_6, ↓nth_7, ↓nth_8, ↓nth_9, ↓nth_10, ↓nth_11, ↓nth_12, ↓bf_len, ↓bf_abs, ↓bf_max, ↓bf_min, ↓bf_int, ↓bf_intb, ↓bf_dm, ↓bf_gcd, ↓bf_all, ↓bf_any, ↓bf_sum, ↓bf_tup, ↓bf_repl, ↓bf_rept, ↓bf_lst, ↓asg_nm, ↓asg_tp, ↓asg_ls, ↓asg_sub, ↓asg_tg, ↓asg_ti, ↓asgs_nil, ↓asgs_cons, ↓mk_f, ↓mk_t, ↓setn_l, ↓setn_r, ↓isn_lst_true, ↓isn_lst_false, ↓isn_tup_true, ↓isn_tup_false, ↓isn_ref_true, ↓isn_ref_false, ↓cnt_t, ↓rev_t, ↓rev_l, ↓rev_ti, ↓onRef_r, ↓two_tt, ↓two_ll, ↓two_ti, ↓still_t, ↓still_ti, ↓still_l, ↓cut_tup, ↓cut_lst, ↓cut_frz, ↓cut_ti, ↓bop_titi, ↓cop_eq_ti, ↓cop_ne_ti, non_non, non_int, ty_int_int, ty_bool_int, ty_str_int, ty_tup_int, ty_lst_int, ty_dict_int, non_bl, ty_int_bl, ty_bool_bl, ty_str_bl, ty_tup_bl, ty_lst_bl, ty_dict_bl, non_str, ty_int_str, ty_bool_str, ty_str_str, ty_tup_str, ty_lst_str, ty_dict_str, non_tup, ty_int_tup, ty_bool_tup, ty_str_tup, ty_tup_tup, ty_lst_tup, ty_dict_tup, non_lst, ty_int_lst, ty_bool_lst, ty_str_lst, ty_tup_lst, ty_lst_lst, ty_dict_lst, ty_int_non, ty_int_ti, ty_bool_non, ty_bool_ti, ty_str_non, ty_str_ti, ty_tup_non, ty_tup_ti, ty_lst_non, ty_lst_ti, ty_dict_non, ty_dict_ti, ta_tup, ta_lst, ta_ti, ta_int, ta_bl, ta_str, ta_non, st_0, st_1, st_2, st_3, st_4, st_5, st_6, st_7, st_8, st_9, st_10, st_11, st_12, st_13, st_14, st_15, st_16, st_17, st_18, st_19, st_20, st_21, st_22, st_23, bp_nm, bp_tp, bp_ls, bp_ti, bps_nil, bps_nm, sts_nil, sts_cons, wp0_nil, wp_0, wp_1, wp_2, wp_3, wp_4, wp_5, wp_6, wp_7, wp_8, wp_9, wp_10, wp_11, wp_12, wp_13, wp_14, wp_15, wp_16, wp_17, wp_18, wp_19, wp_20, wp_21, wp_22, wp_23, rng_1, rng_2, rng_3, rng_4, rng_5, rng_6, rng_7, brkT, brkF, ti1, ti2, ti3, ti4, ti5, ti6, ti_map, eq_ti, pick, List.cons_append, List.nil_append, List.map_cons, List.map_nil, List.getD_cons_zero, List.getD_cons_succ, Bool.not_true, Bool.not_false, ↓seq_v, ↓seq_f, ↓itm_v, ↓itm_f, ↓asg_v, ↓asg_f, bp_v, bp_f, bps_tv, bps_tf, ↓two_vv, ↓two_vt, ↓two_tv, ↓two_ff, ↓still_v, ↓cut_v, ↓cop_eq_v, ↓cop_ne_v, ↓cop_eq_f, ↓cop_ne_f, inD_n, inD_c, pures_c, pures_n, pure_vT, pure_fT, pure_iT, pure_bT, pure_nT, eq_v, eq_f, Bool.or_false, and_self, ↓tru_v, non_v, non_f, ty_v, ty_f, ta_v, ta_f, ↓bop_vv, ↓bop_6v, ↓cut_9a, ↓cut_9b, ↓cut_9c, tup3, tup2, v_ti, f_ti, zipD, wp_cc, true_and, decide_true, decide_false, eq_self, sz_0, sz_1, sz_2, sz_3, sz_4, sz_5, sz_6, sz_7, sz_8, sz_9, sz_10, sz_11, sz_12, enm_1, enm_2, enm_3, enm_4, enm_5, enm_6, enm_7, enm_8, enm_9, enm_10, len_1, len_2, len_3, len_4, len_5, len_6, len_7, len_8, len_9, len_10])
local macro_rules | `(tactic| walk_at "fw") => `(tactic| simp only [lc_app', fc_cons, fc_nil, fw_cons, fw_nil, blk_app, ↓ev_v0, ↓ev_v1, ↓ev_v2, ↓ev_v3, ↓ev_v4, ↓ev_v5, ↓ev_v6, ↓ev_v7, ↓ev_v8, ↓ev_v9, ↓ev_v10, ↓ev_v11, ↓ev_v12, ↓ev_v13, ↓ev_v14, ↓ev_v15, ↓ev_v16, ↓ev_v17, ↓ev_v18, ↓ev_v19, ↓ev_v20, ↓ev_v21, ↓ev_v22, ↓ev_v23, ↓ev_cst, ↓ev_glb, ↓ev_bin, ↓ev_neg, ↓ev_not, ↓ev_cmp, ↓ev_cmp2, ↓ev_and, ↓ev_or, ↓ev_ite, ↓ev_tup, ↓ev_lst, ↓ev_idx, ↓ev_slc, ↓ev_call, ↓ev_callk, ↓ev_bi, ↓ev_isi, ↓ev_isi2, ↓ev_lc, ↓ev_lc2, ↓ev_tcat, ↓ev_rng, ↓ev_rng1, ↓ev_zip, ↓ev_enm, ↓ev_cnt, ↓ev_nset, ↓ev_isn, ↓ev_rev, ↓ev_app, ↓evs_nil, ↓evs_cons, ↓evss_nil, ↓evss_f, ↓evss_t, ↓spr_tup, ↓spr_lst, ↓spr_frz, ↓spr_ti, ↓evo_n, ↓evo_s, ↓evt_n, ↓evt_s, ↓ex_set, ↓ex_par, ↓ex_expr, ↓ex_ret, ↓ex_retN, ↓ex_iff, ↓ex_for, ↓ex_whl, ↓ex_raise, ↓ex_pass, ↓ex_brk, ↓ex_cont, ↓exs_nil, ↓exs_cons, ↓tvf, ↓tvt, ↓asB_bl, ↓asI_i, ↓bop_add, ↓bop_sub, ↓bop_mul, ↓bop_fdv, ↓bop_mod, ↓bop_pow, ↓bop_tt, ↓bop_ll, ↓bop_lm, ↓cop_eq, ↓cop_ne, ↓cop_lt, ↓cop_le, ↓cop_gt, ↓cop_ge, ↓cop_eq_rep, ↓cop_ne_rep, ↓cop_eq_tup, ↓cop_ne_tup, ↓cop_eq_lst, ↓cop_ne_lst, ↓cop_eq_str, ↓cop_ne_str, ↓cop_eq_bl, ↓cop_ne_bl, ↓cop_eq_non, ↓cop_ne_non, ↓cop_is_n, ↓cop_is_b, ↓cop_isnot_n, ↓cop_isnot_b, ↓cop_isin_lst, ↓cop_isin_tup, ↓cop_notin_lst, ↓cop_notin_tup, ↓tru_non, ↓tru_bl, ↓tru_int, ↓tru_tup, ↓tru_lst, ↓seq_tup, ↓itm_tup, ↓seq_lst, ↓itm_lst, ↓seq_frz, ↓itm_frz, ↓itm_itr, ↓seq_ref, ↓itm_ref, ↓seq_ti, ↓itm_ti, ↓onO_s, ↓nth_0, ↓nth_1, ↓nth_2, ↓nth_3, ↓nth_4, ↓nth_5, ↓nth_6, ↓nth_7, ↓nth_8, ↓nth_9, ↓nth_10, ↓nth_11, ↓nth_12, ↓bf_len, ↓bf_abs, ↓bf_max, ↓bf_min, ↓bf_int, ↓bf_intb, ↓bf_dm, ↓bf_gcd, ↓bf_all, ↓bf_any, ↓bf_sum, ↓bf_tup, ↓bf_repl, ↓bf_rept, ↓bf_lst, ↓asg_nm, ↓asg_tp, ↓asg_ls, ↓asg_sub, ↓asg_tg, ↓asg_ti, ↓asgs_nil, ↓asgs_cons, ↓mk_f, ↓mk_t, ↓setn_l, ↓setn_r, ↓isn_lst_true, ↓isn_lst_false, ↓isn_tup_true, ↓isn_tup_false, ↓isn_ref_true, ↓isn_ref_false, ↓cnt_t, ↓rev_t, ↓rev_l, ↓rev_ti, ↓onRef_r, ↓two_tt, ↓two_ll, ↓two_ti, ↓still_t, ↓still_ti, ↓still_l, ↓cut_tup, ↓cut_lst, ↓cut_frz, ↓cut_ti, ↓bop_titi, ↓cop_eq_ti, ↓cop_ne_ti, non_non, non_int, ty_int_int, ty_bool_int, ty_str_int, ty_tup_int, ty_lst_int, ty_dict_int, non_bl, ty_int_bl, ty_bool_bl, ty_str_bl, ty_tup_bl, ty_lst_bl, ty_dict_bl, non_str, ty_int_str, ty_bool_str, ty_str_str, ty_tup_str, ty_lst_str, ty_dict_str, non_tup, ty_int_tup, ty_bool_tup, ty_str_tup, ty_tup_tup, ty_lst_tup, ty_dict_tup, non_lst, ty_int_lst, ty_bool_lst, ty_str_lst, ty_tup_lst, ty_lst_lst, ty_dict_lst, ty_int_non, ty_int_ti, ty_bool_non, ty_bool_ti, ty_str_non, ty_str_ti, ty_tup_non, ty_tup_ti, ty_lst_non, ty_lst_ti, ty_dict_non, ty_dict_ti, ta_tup, ta_lst, ta_ti, ta_int, ta_bl, ta_str, ta_non, st_0, st_1, st_2, st_3, st_4, st_5, st_6, st_7, st_8, st_9, st_10, st_11, st_12, st_13, st_14, st_15, st_16, st_17, st_18, st_19, st_20, st_21, st_22, st_23, bp_nm, bp_tp, bp_ls, bp_ti, bps_nil, bps_nm, sts_nil, sts_cons, wp0_nil, wp_0, wp_1, wp_2, wp_3, wp_4, wp_5, wp_6, wp_7, wp_8, wp_9, wp_10, wp_11, wp_12, wp_13, wp_14, wp_15, wp_16, wp_17, wp_18, wp_19, wp_20, wp_21, wp_22, wp_23, rng_1, rng_2, rng_3, rng_4, rng_5, rng_6, rng_7, brkT, brkF, ti1, ti2, ti3, ti4, ti5, ti6, ti_map, eq_ti, pick, List.cons_append, List.nil_append, List.map_cons, List.map_nil, List.getD_cons_zero, List.getD_cons_succ, Bool.not_true, Bool.not_false, ↓seq_v, ↓seq_f, ↓itm_v, ↓itm_f, ↓asg_v, ↓asg_f, bp_v, bp_f, bps_tv, bps_tf, ↓two_vv, ↓two_vt, ↓two_tv, ↓two_ff, ↓still_v, ↓cut_v, ↓cop_eq_v, ↓cop_ne_v, ↓cop_eq_f, ↓cop_ne_f, inD_n, inD_c, pures_c, pures_n, pure_vT, pure_fT, pure_iT, pure_bT, pure_nT, eq_v, eq_f, Bool.or_false, and_self, ↓tru_v, non_v, non_f, ty_v, ty_f, ta_v, ta_f, ↓bop_vv, ↓bop_6v, ↓cut_9a, ↓cut_9b, ↓cut_9c, tup3, tup2, v_ti, f_ti, zipD, wp_cc, true_and, decide_true, decide_false, eq_self, sz_0, sz_1, sz_2, sz_3, sz_4, sz_5, sz_6, sz_7, sz_8, sz_9, sz_10, sz_11, sz_12, enm_1, enm_2, enm_3, enm_4, enm_5, enm_6, enm_7, enm_8, enm_9, enm_10, len_1, len_2, len_3, len_4, len_5, len_6, len_7, len_8, len_9, len_10])
local macro_rules | `(tactic| walk_at "f1") => `(tactic| first
  | assumption
  | (with_reducible apply And.intro; walk_at "fs")
  | (with_reducible apply brk_t; walk_at "fd")
  | (with_reducible apply brk_f; walk_at "fd")
  | (with_reducible apply s_is_view_of_v; walk_at "fs"; walk_at "fs"; walk_at "fs")
  | (with_reducible apply s_check_view_v; walk_at "fs"; walk_at "fs"; walk_at "fs")
  | (with_reducible apply s_table_times_v; walk_at "fs"; walk_at "fs"; walk_at "fs")
  | (with_reducible apply s_turned_table_v)
  | (with_reducible apply s_adjugate_v; walk_at "fs"; walk_at "fs")
  | (with_reducible apply s_turn_line_v; walk_at "fs"; walk_at "fs"; walk_at "fs"; walk_at "fs"; walk_at "fs")
  | (with_reducible apply s_turned_line_v; walk_at "fs"; walk_at "fs"; walk_at "fs"; walk_at "fs"; walk_at "fs")
  | (with_reducible apply s_place_for_v; walk_at "fs"; walk_at "fs"; walk_at "fs"; walk_at "fs")
  | (with_reducible apply s_minor_v; walk_at "fs"; walk_at "fs"; walk_at "fs")
  | (with_reducible apply s_parts_by_v; walk_at "fs"; walk_at "fs"; walk_at "fs"; walk_at "fs"; walk_at "fs")
  | (with_reducible apply s_ratio_by_v; walk_at "fs"; walk_at "fs"; walk_at "fs"; walk_at "fs"; walk_at "fs"; walk_at "fs"; walk_at "fs")
  | (with_reducible apply s_check_points4; walk_at "fs"; walk_at "fs"; walk_at "fs"; walk_at "fs")
  | (with_reducible apply s_check_points3; walk_at "fs"; walk_at "fs"; walk_at "fs")
  | (with_reducible apply s_do_fit4; walk_at "fs"; walk_at "fs"; walk_at "fs"; walk_at "fs"; walk_at "fs"; walk_at "fs"; walk_at "fs"; walk_at "fs"; walk_at "fs"; walk_at "fs")
  | (with_reducible apply s_do_fit3; walk_at "fs"; walk_at "fs"; walk_at "fs"; walk_at "fs"; walk_at "fs"; walk_at "fs"; walk_at "fs"; walk_at "fs")
  | (with_reducible apply s_check_fit4; walk_at "fs"; walk_at "fs"; walk_at "fs"; walk_at "fs"; walk_at "fs"; walk_at "fs"; walk_at "fs"; walk_at "fs"; walk_at "fs"; walk_at "fs")
  | (with_reducible apply s_check_fit3; walk_at "fs"; walk_at "fs"; walk_at "fs"; walk_at "fs"; walk_at "fs"; walk_at "fs"; walk_at "fs"; walk_at "fs")
  | (with_reducible apply s_double_ratio_v; walk_at "fs"; walk_at "fs"; walk_at "fs"; walk_at "fs"; walk_at "fs"; walk_at "fs"; walk_at "fs")
  | (with_reducible apply s_line_ratio_v; walk_at "fs"; walk_at "fs"; walk_at "fs"; walk_at "fs"; walk_at "fs"; walk_at "fs"; walk_at "fs")
  | (with_reducible apply s_cross_v; walk_at "fs"; walk_at "fs"; walk_at "fs")
  | (with_reducible apply s_dot_v; walk_at "fs"; walk_at "fs"; walk_at "fs")
  | (with_reducible apply s_block_v; walk_at "fs"; walk_at "fs"; walk_at "fs"; walk_at "fs")
  | (with_reducible apply s_added_v)
  | (with_reducible apply s_scaled_v; walk_at "fs"; walk_at "fs"; walk_at "fs")
  | (with_reducible apply s_plain_of_v; walk_at "fs"; walk_at "fs"; walk_at "fs")
  | (with_reducible apply s_plain_of_f; walk_at "fs"; walk_at "fs"; walk_at "fs"; walk_at "fs")
  | (with_reducible apply s_is_zero_v)
  | (with_reducible apply s_is_triple_v; walk_at "fs")
  | (with_reducible apply s_check_point_v; walk_at "fs")
  | (with_reducible apply s_check_straight_v; walk_at "fs")
  | (with_reducible apply s_check_other_point_v; walk_at "fs"; walk_at "fs")
  | (with_reducible apply s_check_other_straight_v; walk_at "fs"; walk_at "fs")
  | (with_reducible apply s_join_v; walk_at "fs"; walk_at "fs"; walk_at "fs"; walk_at "fs"; walk_at "fs"; walk_at "fs")
  | (with_reducible apply s_meet_v; walk_at "fs"; walk_at "fs"; walk_at "fs"; walk_at "fs"; walk_at "fs"; walk_at "fs")
  | (with_reducible apply s_cross; walk_at "fs"; walk_at "fs"; walk_at "fs")
  | (with_reducible apply s_dot; walk_at "fs"; walk_at "fs"; walk_at "fs")
  | (with_reducible apply s_block; walk_at "fs"; walk_at "fs"; walk_at "fs"; walk_at "fs"; walk_at "fs"; walk_at "fs")
  | (with_reducible apply s_added)
  | (with_reducible apply s_scaled; walk_at "fs"; walk_at "fs")
  | (with_reducible apply s_law_dot; walk_at "fs"; walk_at "fs"; walk_at "fs")
  | (with_reducible apply s_law_plain_v2; walk_at "fs"; walk_at "fs"; walk_at "fs")
  | (with_reducible apply s_divisor_of)
  | (with_reducible apply s_first_live)
  | (with_reducible apply s_plain_of; walk_at "fs"; walk_at "fs"; walk_at "fs")
  | (with_reducible apply s_is_zero)
  | (with_reducible apply s_made_plain; walk_at "fs"; walk_at "fs"; walk_at "fs")
  | (with_reducible apply s_is_plain; walk_at "fs"; walk_at "fs"; walk_at "fs")
  | (with_reducible apply s_is_triple; walk_at "fs"; walk_at "fs")
  | (with_reducible apply s_is_point; walk_at "fs"; walk_at "fs")
  | (with_reducible apply s_law_divisor)
  | (with_reducible apply s_law_plain; walk_at "fs"; walk_at "fs"; walk_at "fs")
  | (with_reducible apply s_law_is_triple; walk_at "fs"; walk_at "fs"; walk_at "fs")
  | (with_reducible apply s_is_whole)
  | (with_reducible apply s_is_tuple_up_to)
  | (with_reducible apply s_is_tuple_of)
  | (with_reducible apply s_are_whole; walk_at "fs")
  | (with_reducible apply s_law_cross; walk_at "fs"; walk_at "fs"; walk_at "fs"))
local macro_rules | `(tactic| walk_at "go") => `(tactic| repeat (first | walk_at "f1" | walk_at "fw"))
local macro_rules | `(tactic| walk_at "g0") => `(tactic| repeat (first | walk_at "f1" | walk_at "fx"))
instance dec_bt {n : Nat} {x : Int} : Decidable (bt n x) := inferInstanceAs (Decidable (x.natAbs < 2 ^ n))
instance dec_bv {n : Nat} {u : T3} : Decidable (bv n u) := inferInstanceAs (Decidable (_ ∧ _ ∧ _))
instance dec_prim {ns : List Int} : Decidable (Prim ns) := inferInstanceAs (Decidable (_ ∧ _))
instance dec_pr {u : T3} : Decidable (Pr u) := inferInstanceAs (Decidable (Prim u.l))
theorem ndec4 {p : Prop} [Decidable p] (h : (!decide p) = true) : ¬p := of_decide_eq_false ((Bool.not_eq_true' _).mp h)
/-! ### tickets -/
def l1 (p r s : T3) : Int := bk p s r
def l2 (p q s : T3) : Int := bk p q s
/-- the ticket of x, not made plain -/
def tk (p q r s x : T3) : T3 := ⟨bk x q r * bk p s r * bk p q s, bk p x r * bk s q r * bk p q s, bk p q x * bk s q r * bk p s r⟩
section
variable {n : Nat} {S : Store} {k X : D → Store → Prop} {u v w x y z p q r s : T3} {a b c d : Nat} {l : Nat}
end
end FV
set_option Elab.async false
set_option linter.all false
set_option maxRecDepth 100000
/-! Fs: what the laws k02 to k19 share, after P_k04. -/
namespace FV
local macro_rules | `(tactic| walk_at "fbt") => `(tactic| first
  | assumption
  | exact bv_x (by assumption)
  | exact bv_y (by assumption)
  | exact bv_z (by assumption)
  | (apply bt_add <;> walk_at "fbt")
  | (apply bt_sub <;> walk_at "fbt")
  | (apply bt_mul <;> walk_at "fbt")
  | (apply bt_neg <;> walk_at "fbt")
  | (apply bt_dt <;> walk_at "fbt")
  | (apply bt_bk <;> walk_at "fbt")
  | (apply bv_cr <;> walk_at "fbt")
  | (apply bv_pv <;> walk_at "fbt")
  | (apply bv_sm <;> walk_at "fbt")
  | (apply bv_ad <;> walk_at "fbt")
  | exact bt_lt (n := 64) (by decide) (by decide)
  | (apply bv_mk <;> walk_at "fbt"))
local macro_rules | `(tactic| walk_at "fs") => `(tactic| first
  | assumption
  | (apply mulOk_bt; walk_at "fbt"; walk_at "fbt"; first | decide | assumption | omega)
  | (refine mulOk_l ?_ ?_ <;> omega)
  | (refine mulOk_r ?_ ?_ <;> omega)
  | walk_at "fbt"
  | omega
  | decide
  | (simp [SZ]; done))
local macro_rules | `(tactic| walk_at "fd") => `(tactic| first
  | rfl
  | exact decide_eq_true (by assumption)
  | exact decide_eq_false (by assumption)
  | decide
  | exact decide_eq_true (by omega)
  | exact decide_eq_false (by omega)
  | (simp [*]; done))
local macro_rules | `(tactic| walk_at "fx") => `(tactic| simp only [lc_app', fc_cons, fc_nil, blk_app, ↓ev_v0, ↓ev_v1, ↓ev_v2, ↓ev_v3, ↓ev_v4, ↓ev_v5, ↓ev_v6, ↓ev_v7, ↓ev_v8, ↓ev_v9, ↓ev_v10, ↓ev_v11, ↓ev_v12, ↓ev_v13, ↓ev_v14, ↓ev_v15, ↓ev_v16, ↓ev_v17, ↓ev_v18, ↓ev_v19, ↓ev_v20, ↓ev_v21, ↓ev_v22, ↓ev_v23, ↓ev_cst, ↓ev_glb, ↓ev_bin, ↓ev_neg, ↓ev_not, ↓ev_cmp, ↓ev_cmp2, ↓ev_and, ↓ev_or, ↓ev_ite, ↓ev_tup, ↓ev_lst, ↓ev_idx, ↓ev_slc, ↓ev_call, ↓ev_callk, ↓ev_bi, ↓ev_isi, ↓ev_isi2, ↓ev_lc, ↓ev_lc2, ↓ev_tcat, ↓ev_rng, ↓ev_rng1, ↓ev_zip, ↓ev_enm, ↓ev_cnt, ↓ev_nset, ↓ev_isn, ↓ev_rev, ↓ev_app, ↓evs_nil, ↓evs_cons, ↓evss_nil, ↓evss_f, ↓evss_t, ↓spr_tup, ↓spr_lst, ↓spr_frz, ↓spr_ti, ↓evo_n, ↓evo_s, ↓evt_n, ↓evt_s, ↓ex_set, ↓ex_par, ↓ex_expr, ↓ex_ret, ↓ex_retN, ↓ex_iff, ↓ex_for, ↓ex_whl, ↓ex_raise, ↓ex_pass, ↓ex_brk, ↓ex_cont, ↓exs_nil, ↓exs_cons, ↓tvf, ↓tvt, ↓asB_bl, ↓asI_i, ↓bop_add, ↓bop_sub, ↓bop_mul, ↓bop_fdv, ↓bop_mod, ↓bop_pow, ↓bop_tt, ↓bop_ll, ↓bop_lm, ↓cop_eq, ↓cop_ne, ↓cop_lt, ↓cop_le, ↓cop_gt, ↓cop_ge, ↓cop_eq_rep, ↓cop_ne_rep, ↓cop_eq_tup, ↓cop_ne_tup, ↓cop_eq_lst, ↓cop_ne_lst, ↓cop_eq_str, ↓cop_ne_str, ↓cop_eq_bl, ↓cop_ne_bl, ↓cop_eq_non, ↓cop_ne_non, ↓cop_is_n, ↓cop_is_b, ↓cop_isnot_n, ↓cop_isnot_b, ↓cop_isin_lst, ↓cop_isin_tup, ↓cop_notin_lst, ↓cop_notin_tup, ↓tru_non, ↓tru_bl, ↓tru_int, ↓tru_tup, ↓tru_lst, ↓seq_tup, ↓itm_tup, ↓seq_lst, ↓itm_lst, ↓seq_frz, ↓itm_frz, ↓itm_itr, ↓seq_ref, ↓itm_ref, ↓seq_ti, ↓itm_ti, ↓onO_s, ↓nth_0, ↓nth_1, ↓nth_2, ↓nth_3, ↓nth_4, ↓nth_5, ↓nth_6, ↓nth_7, ↓nth_8, ↓nth_9, ↓nth_10, ↓nth_11, ↓nth_12, ↓bf_len, ↓bf_abs, ↓bf_max, ↓bf_min, ↓bf_int, ↓bf_intb, ↓bf_dm, ↓bf_gcd, ↓bf_all, ↓bf_any, ↓bf_sum, ↓bf_tup, ↓bf_repl, ↓bf_rept, ↓bf_lst, ↓asg_nm, ↓asg_tp, ↓asg_ls, ↓asg_sub, ↓asg_tg, ↓asg_ti, ↓asgs_nil, ↓asgs_cons, ↓mk_f, ↓mk_t, ↓setn_l, ↓setn_r, ↓isn_lst_true, ↓isn_lst_false, ↓isn_tup_true, ↓isn_tup_false, ↓isn_ref_true, ↓isn_ref_false, ↓cnt_t, ↓rev_t, ↓rev_l, ↓rev_ti, ↓onRef_r, ↓two_tt, ↓two_ll, ↓two_ti, ↓still_t, ↓still_ti, ↓still_l, ↓cut_tup, ↓cut_lst, ↓cut_frz, ↓cut_ti, ↓bop_titi, ↓cop_eq_ti, ↓cop_ne_ti, non_non, non_int, ty_int_int, ty_bool_int, ty_str_int, ty_tup_int, ty_lst_int, ty_dict_int, non_bl, ty_int_bl, ty_bool_bl, ty_str_bl, ty_tup_bl, ty_lst_bl, ty_dict_bl, non_str, ty_int_str, ty_bool_str, ty_str_str, ty_tup_str, ty_lst_str, ty_dict_str, non_tup, ty_int_tup, ty_bool_tup, ty_str_tup, ty_tup_tup, ty_lst_tup, ty_dict_tup, non_lst, ty_int_lst, ty_bool_lst, ty_str_lst, ty_tup_lst, ty_lst_lst, ty_dict_lst, ty_int_non, ty_int_ti, ty_bool_non, ty_bool_ti, ty_str_non, ty_str_ti, ty_tup_non, ty_tup_ti, ty_lst_non, ty_lst_ti, ty_dict_non, ty_dict_ti, ta_tup, ta_lst, ta_ti, ta_int, ta_bl, ta_str, ta_non, st_0, st_1, st_2, st_3, st_4, st_5, st_6, st_7, st_8, st_9, st_10, st_11, st_12, st_13, st_14, st_15, st_16, st_17, st_18, st_19, st_20, st_21, st_22, st_23, bp_nm, bp_tp, bp_ls, bp_ti, bps_nil, bps_nm, sts_nil, sts_cons, wp0_nil, wp_0, wp_1, wp_2, wp_3, wp_4, wp_5, wp_6, wp_7, wp_8, wp_9, wp_10, wp_11, wp_12, wp_13, wp_14, wp_15, wp_16, wp_17, wp_18, wp_19, wp_20, wp_21, wp_22, wp_23, rng_1, rng_2, rng_3, rng_4, rng_5, rng_6, rng_7, brkT, brkF, ti1, ti2, ti3, ti4, ti5, ti6, ti_map, eq_ti, pick, List.cons_append, List.nil_append, List.map_cons, List.map_nil, List.getD_cons_zero, List.getD_cons_succ, Bool.not_true, Bool.not_false, ↓seq_v, ↓seq_f, ↓itm_v, ↓itm_f, ↓asg_v, ↓asg_f, bp_v, bp_f, bps_tv, bps_tf, ↓two_vv, ↓two_vt, ↓two_tv, ↓two_ff, ↓still_v, ↓cut_v, ↓cop_eq_v, ↓cop_ne_v, ↓cop_eq_f, ↓cop_ne_f, inD_n, inD_c, pures_c, pures_n, pure_vT, pure_fT, pure_iT, pure_bT, pure_nT, eq_v, eq_f, Bool.or_false, and_self, ↓tru_v, non_v, non_f, ty_v, ty_f, ta_v, ta_f, ↓bop_vv, ↓bop_6v, ↓cut_9a, ↓cut_9b, ↓cut_9c, tup3, tup2, v_ti, f_ti, zipD, wp_cc, true_and, decide_true, decide_false, eq_self, sz_0, sz_1, sz_2, sz_3, sz_4, sz_5, sz_6, sz_7, sz_8, sz_9, sz_10, sz_11, sz_12, enm_1, enm_2, enm_3, enm_4, enm_5, enm_6, enm_7, enm_8, enm_9, enm_10, len_1, len_2, len_3, len_4, len_5, len_6, len_7, len_8, len_9, len_10])
local macro_rules | `(tactic| walk_at "fw") => `(tactic| simp only [lc_app', fc_cons, fc_nil, fw_cons, fw_nil, blk_app, ↓ev_v0, ↓ev_v1, ↓ev_v2, ↓ev_v3, ↓ev_v4, ↓ev_v5, ↓ev_v6, ↓ev_v7, ↓ev_v8, ↓ev_v9, ↓ev_v10, ↓ev_v11, ↓ev_v12, ↓ev_v13, ↓ev_v14, ↓ev_v15, ↓ev_v16, ↓ev_v17, ↓ev_v18, ↓ev_v19, ↓ev_v20, ↓ev_v21, ↓ev_v22, ↓ev_v23, ↓ev_cst, ↓ev_glb, ↓ev_bin, ↓ev_neg, ↓ev_not, ↓ev_cmp, ↓ev_cmp2, ↓ev_and, ↓ev_or, ↓ev_ite, ↓ev_tup, ↓ev_lst, ↓ev_idx, ↓ev_slc, ↓ev_call, ↓ev_callk, ↓ev_bi, ↓ev_isi, ↓ev_isi2, ↓ev_lc, ↓ev_lc2, ↓ev_tcat, ↓ev_rng, ↓ev_rng1, ↓ev_zip, ↓ev_enm, ↓ev_cnt, ↓ev_nset, ↓ev_isn, ↓ev_rev, ↓ev_app, ↓evs_nil, ↓evs_cons, ↓evss_nil, ↓evss_f, ↓evss_t, ↓spr_tup, ↓spr_lst, ↓spr_frz, ↓spr_ti, ↓evo_n, ↓evo_s, ↓evt_n, ↓evt_s, ↓ex_set, ↓ex_par, ↓ex_expr, ↓ex_ret, ↓ex_retN, ↓ex_iff, ↓ex_for, ↓ex_whl, ↓ex_raise, ↓ex_pass, ↓ex_brk, ↓ex_cont, ↓exs_nil, ↓exs_cons, ↓tvf, ↓tvt, ↓asB_bl, ↓asI_i, ↓bop_add, ↓bop_sub, ↓bop_mul, ↓bop_fdv, ↓bop_mod, ↓bop_pow, ↓bop_tt, ↓bop_ll, ↓bop_lm, ↓cop_eq, ↓cop_ne, ↓cop_lt, ↓cop_le, ↓cop_gt, ↓cop_ge, ↓cop_eq_rep, ↓cop_ne_rep, ↓cop_eq_tup, ↓cop_ne_tup, ↓cop_eq_lst, ↓cop_ne_lst, ↓cop_eq_str, ↓cop_ne_str, ↓cop_eq_bl, ↓cop_ne_bl, ↓cop_eq_non, ↓cop_ne_non, ↓cop_is_n, ↓cop_is_b, ↓cop_isnot_n, ↓cop_isnot_b, ↓cop_isin_lst, ↓cop_isin_tup, ↓cop_notin_lst, ↓cop_notin_tup, ↓tru_non, ↓tru_bl, ↓tru_int, ↓tru_tup, ↓tru_lst, ↓seq_tup, ↓itm_tup, ↓seq_lst, ↓itm_lst, ↓seq_frz, ↓itm_frz, ↓itm_itr, ↓seq_ref, ↓itm_ref, ↓seq_ti, ↓itm_ti, ↓onO_s, ↓nth_0, ↓nth_1, ↓nth_2, ↓nth_3, ↓nth_4, ↓nth_5, ↓nth_6, ↓nth_7, ↓nth_8, ↓nth_9, ↓nth_10, ↓nth_11, ↓nth_12, ↓bf_len, ↓bf_abs, ↓bf_max, ↓bf_min, ↓bf_int, ↓bf_intb, ↓bf_dm, ↓bf_gcd, ↓bf_all, ↓bf_any, ↓bf_sum, ↓bf_tup, ↓bf_repl, ↓bf_rept, ↓bf_lst, ↓asg_nm, ↓asg_tp, ↓asg_ls, ↓asg_sub, ↓asg_tg, ↓asg_ti, ↓asgs_nil, ↓asgs_cons, ↓mk_f, ↓mk_t, ↓setn_l, ↓setn_r, ↓isn_lst_true, ↓isn_lst_false, ↓isn_tup_true, ↓isn_tup_false, ↓isn_ref_true, ↓isn_ref_false, ↓cnt_t, ↓rev_t, ↓rev_l, ↓rev_ti, ↓onRef_r, ↓two_tt, ↓two_ll, ↓two_ti, ↓still_t, ↓still_ti, ↓still_l, ↓cut_tup, ↓cut_lst, ↓cut_frz, ↓cut_ti, ↓bop_titi, ↓cop_eq_ti, ↓cop_ne_ti, non_non, non_int, ty_int_int, ty_bool_int, ty_str_int, ty_tup_int, ty_lst_int, ty_dict_int, non_bl, ty_int_bl, ty_bool_bl, ty_str_bl, ty_tup_bl, ty_lst_bl, ty_dict_bl, non_str, ty_int_str, ty_bool_str, ty_str_str, ty_tup_str, ty_lst_str, ty_dict_str, non_tup, ty_int_tup, ty_bool_tup, ty_str_tup, ty_tup_tup, ty_lst_tup, ty_dict_tup, non_lst, ty_int_lst, ty_bool_lst, ty_str_lst, ty_tup_lst, ty_lst_lst, ty_dict_lst, ty_int_non, ty_int_ti, ty_bool_non, ty_bool_ti, ty_str_non, ty_str_ti, ty_tup_non, ty_tup_ti, ty_lst_non, ty_lst_ti, ty_dict_non, ty_dict_ti, ta_tup, ta_lst, ta_ti, ta_int, ta_bl, ta_str, ta_non, st_0, st_1, st_2, st_3, st_4, st_5, st_6, st_7, st_8, st_9, st_10, st_11, st_12, st_13, st_14, st_15, st_16, st_17, st_18, st_19, st_20, st_21, st_22, st_23, bp_nm, bp_tp, bp_ls, bp_ti, bps_nil, bps_nm, sts_nil, sts_cons, wp0_nil, wp_0, wp_1, wp_2, wp_3, wp_4, wp_5, wp_6, wp_7, wp_8, wp_9, wp_10, wp_11, wp_12, wp_13, wp_14, wp_15, wp_16, wp_17, wp_18, wp_19, wp_20, wp_21, wp_22, wp_23, rng_1, rng_2, rng_3, rng_4, rng_5, rng_6, rng_7, brkT, brkF, ti1, ti2, ti3, ti4, ti5, ti6, ti_map, eq_ti, pick, List.cons_append, List.nil_append, List.map_cons, List.map_nil, List.getD_cons_zero, List.getD_cons_succ, Bool.not_true, Bool.not_false, ↓seq_v, ↓seq_f, ↓itm_v, ↓itm_f, ↓asg_v, ↓asg_f, bp_v, bp_f, bps_tv, bps_tf, ↓two_vv, ↓two_vt, ↓two_tv, ↓two_ff, ↓still_v, ↓cut_v, ↓cop_eq_v, ↓cop_ne_v, ↓cop_eq_f, ↓cop_ne_f, inD_n, inD_c, pures_c, pures_n, pure_vT, pure_fT, pure_iT, pure_bT, pure_nT, eq_v, eq_f, Bool.or_false, and_self, ↓tru_v, non_v, non_f, ty_v, ty_f, ta_v, ta_f, ↓bop_vv, ↓bop_6v, ↓cut_9a, ↓cut_9b, ↓cut_9c, tup3, tup2, v_ti, f_ti, zipD, wp_cc, true_and, decide_true, decide_false, eq_self, sz_0, sz_1, sz_2, sz_3, sz_4, sz_5, sz_6, sz_7, sz_8, sz_9, sz_10, sz_11, sz_12, enm_1, enm_2, enm_3, enm_4, enm_5, enm_6, enm_7, enm_8, enm_9, enm_10, len_1, len_2, len_3, len_4, len_5, len_6, len_7, len_8, len_9, len_10])
local macro_rules | `(tactic| walk_at "f1") => `(tactic| first
  | assumption
  | (with_reducible apply And.intro; walk_at "fs")
  | (with_reducible apply brk_t; walk_at "fd")
  | (with_reducible apply brk_f; walk_at "fd")
  | (with_reducible apply s_wrong4f; walk_at "fs"; walk_at "fs"; walk_at "fs"; walk_at "fs"; walk_at "fs"; walk_at "fs"; walk_at "fs"; walk_at "fs"; walk_at "fs"; walk_at "fs"; walk_at "fs"; walk_at "fs")
  | (with_reducible apply s_is_figure4f; walk_at "fs")
  | (with_reducible apply s_is_general4f; walk_at "fs"; walk_at "fs"; walk_at "fs"; walk_at "fs"; walk_at "fs"; walk_at "fs")
  | (with_reducible apply s_check_frame4f; walk_at "fs"; walk_at "fs"; walk_at "fs"; walk_at "fs"; walk_at "fs"; walk_at "fs")
  | (with_reducible apply s_parts_of3; walk_at "fs"; walk_at "fs"; walk_at "fs"; walk_at "fs"; walk_at "fs")
  | (with_reducible apply s_ticket; walk_at "fs"; walk_at "fs"; walk_at "fs"; walk_at "fs"; walk_at "fs"; walk_at "fs"; walk_at "fs"; walk_at "fs")
  | (with_reducible apply s_is_view_of_v; walk_at "fs"; walk_at "fs"; walk_at "fs")
  | (with_reducible apply s_check_view_v; walk_at "fs"; walk_at "fs"; walk_at "fs")
  | (with_reducible apply s_table_times_v; walk_at "fs"; walk_at "fs"; walk_at "fs")
  | (with_reducible apply s_turned_table_v)
  | (with_reducible apply s_adjugate_v; walk_at "fs"; walk_at "fs")
  | (with_reducible apply s_turn_line_v; walk_at "fs"; walk_at "fs"; walk_at "fs"; walk_at "fs"; walk_at "fs")
  | (with_reducible apply s_turned_line_v; walk_at "fs"; walk_at "fs"; walk_at "fs"; walk_at "fs"; walk_at "fs")
  | (with_reducible apply s_place_for_v; walk_at "fs"; walk_at "fs"; walk_at "fs"; walk_at "fs")
  | (with_reducible apply s_minor_v; walk_at "fs"; walk_at "fs"; walk_at "fs")
  | (with_reducible apply s_parts_by_v; walk_at "fs"; walk_at "fs"; walk_at "fs"; walk_at "fs"; walk_at "fs")
  | (with_reducible apply s_ratio_by_v; walk_at "fs"; walk_at "fs"; walk_at "fs"; walk_at "fs"; walk_at "fs"; walk_at "fs"; walk_at "fs")
  | (with_reducible apply s_check_points4; walk_at "fs"; walk_at "fs"; walk_at "fs"; walk_at "fs")
  | (with_reducible apply s_check_points3; walk_at "fs"; walk_at "fs"; walk_at "fs")
  | (with_reducible apply s_do_fit4; walk_at "fs"; walk_at "fs"; walk_at "fs"; walk_at "fs"; walk_at "fs"; walk_at "fs"; walk_at "fs"; walk_at "fs"; walk_at "fs"; walk_at "fs")
  | (with_reducible apply s_do_fit3; walk_at "fs"; walk_at "fs"; walk_at "fs"; walk_at "fs"; walk_at "fs"; walk_at "fs"; walk_at "fs"; walk_at "fs")
  | (with_reducible apply s_check_fit4; walk_at "fs"; walk_at "fs"; walk_at "fs"; walk_at "fs"; walk_at "fs"; walk_at "fs"; walk_at "fs"; walk_at "fs"; walk_at "fs"; walk_at "fs")
  | (with_reducible apply s_check_fit3; walk_at "fs"; walk_at "fs"; walk_at "fs"; walk_at "fs"; walk_at "fs"; walk_at "fs"; walk_at "fs"; walk_at "fs")
  | (with_reducible apply s_double_ratio_v; walk_at "fs"; walk_at "fs"; walk_at "fs"; walk_at "fs"; walk_at "fs"; walk_at "fs"; walk_at "fs")
  | (with_reducible apply s_line_ratio_v; walk_at "fs"; walk_at "fs"; walk_at "fs"; walk_at "fs"; walk_at "fs"; walk_at "fs"; walk_at "fs")
  | (with_reducible apply s_cross_v; walk_at "fs"; walk_at "fs"; walk_at "fs")
  | (with_reducible apply s_dot_v; walk_at "fs"; walk_at "fs"; walk_at "fs")
  | (with_reducible apply s_block_v; walk_at "fs"; walk_at "fs"; walk_at "fs"; walk_at "fs")
  | (with_reducible apply s_added_v)
  | (with_reducible apply s_scaled_v; walk_at "fs"; walk_at "fs"; walk_at "fs")
  | (with_reducible apply s_plain_of_v; walk_at "fs"; walk_at "fs"; walk_at "fs")
  | (with_reducible apply s_plain_of_f; walk_at "fs"; walk_at "fs"; walk_at "fs"; walk_at "fs")
  | (with_reducible apply s_is_zero_v)
  | (with_reducible apply s_is_triple_v; walk_at "fs")
  | (with_reducible apply s_check_point_v; walk_at "fs")
  | (with_reducible apply s_check_straight_v; walk_at "fs")
  | (with_reducible apply s_check_other_point_v; walk_at "fs"; walk_at "fs")
  | (with_reducible apply s_check_other_straight_v; walk_at "fs"; walk_at "fs")
  | (with_reducible apply s_join_v; walk_at "fs"; walk_at "fs"; walk_at "fs"; walk_at "fs"; walk_at "fs"; walk_at "fs")
  | (with_reducible apply s_meet_v; walk_at "fs"; walk_at "fs"; walk_at "fs"; walk_at "fs"; walk_at "fs"; walk_at "fs")
  | (with_reducible apply s_cross; walk_at "fs"; walk_at "fs"; walk_at "fs")
  | (with_reducible apply s_dot; walk_at "fs"; walk_at "fs"; walk_at "fs")
  | (with_reducible apply s_block; walk_at "fs"; walk_at "fs"; walk_at "fs"; walk_at "fs"; walk_at "fs"; walk_at "fs")
  | (with_reducible apply s_added)
  | (with_reducible apply s_scaled; walk_at "fs"; walk_at "fs")
  | (with_reducible apply s_law_dot; walk_at "fs"; walk_at "fs"; walk_at "fs")
  | (with_reducible apply s_law_plain_v2; walk_at "fs"; walk_at "fs"; walk_at "fs")
  | (with_reducible apply s_divisor_of)
  | (with_reducible apply s_first_live)
  | (with_reducible apply s_plain_of; walk_at "fs"; walk_at "fs"; walk_at "fs")
  | (with_reducible apply s_is_zero)
  | (with_reducible apply s_made_plain; walk_at "fs"; walk_at "fs"; walk_at "fs")
  | (with_reducible apply s_is_plain; walk_at "fs"; walk_at "fs"; walk_at "fs")
  | (with_reducible apply s_is_triple; walk_at "fs"; walk_at "fs")
  | (with_reducible apply s_is_point; walk_at "fs"; walk_at "fs")
  | (with_reducible apply s_law_divisor)
  | (with_reducible apply s_law_plain; walk_at "fs"; walk_at "fs"; walk_at "fs")
  | (with_reducible apply s_law_is_triple; walk_at "fs"; walk_at "fs"; walk_at "fs")
  | (with_reducible apply s_is_whole)
  | (with_reducible apply s_is_tuple_up_to)
  | (with_reducible apply s_is_tuple_of)
  | (with_reducible apply s_are_whole; walk_at "fs")
  | (with_reducible apply s_law_cross; walk_at "fs"; walk_at "fs"; walk_at "fs"))
local macro_rules | `(tactic| walk_at "go") => `(tactic| repeat (first | walk_at "f1" | walk_at "fw"))
local macro_rules | `(tactic| walk_at "g0") => `(tactic| repeat (first | walk_at "f1" | walk_at "fx"))
theorem mem_rng04 : ∀ {n : Nat} {lo : Int} {d : D}, 0 ≤ lo → d ∈ rngI lo n → ∃ t : Int, 0 ≤ t ∧ d = .int t
  | 0, _, _, _, h => by cases h
  | n + 1, lo, d, h0, h => by
    rcases List.mem_cons.mp h with z | z
    · exact ⟨lo, h0, z⟩
    · exact mem_rng04 (by omega) z
theorem r4 {d : D} : [d].length * Int.toNat 4 ≤ SZ := by show 4 ≤ SZ; simp [SZ]
section
variable {n : Nat} {S : Store} {k X : D → Store → Prop} {u v w x y z p q r s : T3} {a b c d : Nat} {l : Nat}
theorem s_law_cross4 (hu : bv a u) (hv : bv b v) (l : a ≤ 400000 ∧ b ≤ 400000) (h : k (vD (cr u v)) S) : CT (n + 1) i_law_cross [vD u, vD v] S k X := by
  refine c_law_cross ?_
  unfold f_law_cross
  walk_at "go"
theorem s_law_dot4 (hu : bv a u) (hv : bv b v) (l : a ≤ 400000 ∧ b ≤ 400000) (h : k (.int (dt u v)) S) : CT (n + 1) i_law_dot [vD u, vD v] S k X := by
  refine c_law_dot ?_
  unfold f_law_dot
  walk_at "go"
theorem s_law_block4 (hu : bv a u) (hv : bv b v) (hw : bv c w) (l : a ≤ 100000 ∧ b ≤ 100000 ∧ c ≤ 100000) (h : k (.int (bk u v w)) S) : CT (n + 2) i_law_block [vD u, vD v, vD w] S k X := by
  refine c_law_block ?_
  unfold f_law_block
  try walk_at "fx"
  refine s_law_cross4 hv hw (by omega) ?_
  exact s_law_dot4 hu (bv_cr hv hw) (by omega) h
end
end FV
set_option Elab.async false
set_option linter.all false
set_option maxRecDepth 100000
/-! Gd: values of all kinds, asked whether they are plain triples. -/
namespace FV
local macro_rules | `(tactic| walk_at "fbt") => `(tactic| first
  | assumption
  | exact bv_x (by assumption)
  | exact bv_y (by assumption)
  | exact bv_z (by assumption)
  | (apply bt_add <;> walk_at "fbt")
  | (apply bt_sub <;> walk_at "fbt")
  | (apply bt_mul <;> walk_at "fbt")
  | (apply bt_neg <;> walk_at "fbt")
  | (apply bt_dt <;> walk_at "fbt")
  | (apply bt_bk <;> walk_at "fbt")
  | (apply bv_cr <;> walk_at "fbt")
  | (apply bv_pv <;> walk_at "fbt")
  | (apply bv_sm <;> walk_at "fbt")
  | (apply bv_ad <;> walk_at "fbt")
  | exact bt_lt (n := 64) (by decide) (by decide)
  | (apply bv_mk <;> walk_at "fbt"))
local macro_rules | `(tactic| walk_at "fs") => `(tactic| first
  | assumption
  | (apply mulOk_bt; walk_at "fbt"; walk_at "fbt"; first | decide | assumption | omega)
  | (refine mulOk_l ?_ ?_ <;> omega)
  | (refine mulOk_r ?_ ?_ <;> omega)
  | walk_at "fbt"
  | omega
  | decide
  | (simp [SZ]; done))
local macro_rules | `(tactic| walk_at "fd") => `(tactic| first
  | rfl
  | exact decide_eq_true (by assumption)
  | exact decide_eq_false (by assumption)
  | decide
  | exact decide_eq_true (by omega)
  | exact decide_eq_false (by omega)
  | (simp [*]; done))
local macro_rules | `(tactic| walk_at "fx") => `(tactic| simp only [lc_app', fc_cons, fc_nil, blk_app, ↓ev_v0, ↓ev_v1, ↓ev_v2, ↓ev_v3, ↓ev_v4, ↓ev_v5, ↓ev_v6, ↓ev_v7, ↓ev_v8, ↓ev_v9, ↓ev_v10, ↓ev_v11, ↓ev_v12, ↓ev_v13, ↓ev_v14, ↓ev_v15, ↓ev_v16, ↓ev_v17, ↓ev_v18, ↓ev_v19, ↓ev_v20, ↓ev_v21, ↓ev_v22, ↓ev_v23, ↓ev_cst, ↓ev_glb, ↓ev_bin, ↓ev_neg, ↓ev_not, ↓ev_cmp, ↓ev_cmp2, ↓ev_and, ↓ev_or, ↓ev_ite, ↓ev_tup, ↓ev_lst, ↓ev_idx, ↓ev_slc, ↓ev_call, ↓ev_callk, ↓ev_bi, ↓ev_isi, ↓ev_isi2, ↓ev_lc, ↓ev_lc2, ↓ev_tcat, ↓ev_rng, ↓ev_rng1, ↓ev_zip, ↓ev_enm, ↓ev_cnt, ↓ev_nset, ↓ev_dct, ↓ev_cat, ↓ev_isn, ↓ev_rev, ↓ev_app, ↓evs_nil, ↓evs_cons, ↓evss_nil, ↓evss_f, ↓evss_t, ↓spr_tup, ↓spr_lst, ↓spr_frz, ↓spr_ti, ↓evo_n, ↓evo_s, ↓evt_n, ↓evt_s, ↓ex_set, ↓ex_par, ↓ex_expr, ↓ex_ret, ↓ex_retN, ↓ex_iff, ↓ex_for, ↓ex_whl, ↓ex_raise, ↓ex_pass, ↓ex_brk, ↓ex_cont, ↓exs_nil, ↓exs_cons, ↓tvf, ↓tvt, ↓asB_bl, ↓asI_i, ↓bop_add, ↓bop_sub, ↓bop_mul, ↓bop_fdv, ↓bop_mod, ↓bop_pow, ↓bop_tt, ↓bop_ll, ↓bop_lm, ↓cop_eq, ↓cop_ne, ↓cop_lt, ↓cop_le, ↓cop_gt, ↓cop_ge, ↓cop_eq_rep, ↓cop_ne_rep, ↓cop_eq_tup, ↓cop_ne_tup, ↓cop_eq_lst, ↓cop_ne_lst, ↓cop_eq_str, ↓cop_ne_str, ↓cop_eq_bl, ↓cop_ne_bl, ↓cop_eq_non, ↓cop_ne_non, ↓cop_is_n, ↓cop_is_b, ↓cop_isnot_n, ↓cop_isnot_b, ↓cop_isin_lst, ↓cop_isin_tup, ↓cop_notin_lst, ↓cop_notin_tup, ↓tru_non, ↓tru_bl, ↓tru_int, ↓tru_tup, ↓tru_lst, ↓seq_tup, ↓itm_tup, ↓seq_lst, ↓itm_lst, ↓seq_frz, ↓itm_frz, ↓itm_itr, ↓seq_ref, ↓itm_ref, ↓seq_ti, ↓itm_ti, ↓onO_s, ↓nth_0, ↓nth_1, ↓nth_2, ↓nth_3, ↓nth_4, ↓nth_5, ↓nth_6, ↓nth_7, ↓nth_8, ↓nth_9, ↓nth_10, ↓nth_11, ↓nth_12, ↓bf_len, ↓bf_abs, ↓bf_max, ↓bf_min, ↓bf_int, ↓bf_intb, ↓bf_dm, ↓bf_gcd, ↓bf_all, ↓bf_any, ↓bf_sum, ↓bf_tup, ↓bf_repl, ↓bf_stri, ↓bf_rept, ↓bf_lst, ↓asg_nm, ↓asg_tp, ↓asg_ls, ↓asg_sub, ↓asg_tg, ↓asg_ti, ↓asgs_nil, ↓asgs_cons, ↓mk_f, ↓mk_t, ↓setn_l, ↓setn_r, ↓isn_lst_true, ↓isn_lst_false, ↓isn_tup_true, ↓isn_tup_false, ↓isn_ref_true, ↓isn_ref_false, ↓cnt_t, ↓rev_t, ↓rev_l, ↓rev_ti, ↓onRef_r, ↓two_tt, ↓two_ll, ↓two_tl, ↓two_ti, ↓still_t, ↓still_ti, ↓still_l, ↓cut_tup, ↓cut_lst, ↓cut_frz, ↓cut_ti, ↓bop_titi, ↓cop_eq_ti, ↓cop_ne_ti, non_non, non_int, ty_int_int, ty_bool_int, ty_str_int, ty_tup_int, ty_lst_int, ty_dict_int, non_bl, ty_int_bl, ty_bool_bl, ty_str_bl, ty_tup_bl, ty_lst_bl, ty_dict_bl, non_str, ty_int_str, ty_bool_str, ty_str_str, ty_tup_str, ty_lst_str, ty_dict_str, non_tup, ty_int_tup, ty_bool_tup, ty_str_tup, ty_tup_tup, ty_lst_tup, ty_dict_tup, non_lst, ty_int_lst, ty_bool_lst, ty_str_lst, ty_tup_lst, ty_lst_lst, ty_dict_lst, ty_int_non, ty_int_ti, ty_bool_non, ty_bool_ti, ty_str_non, ty_str_ti, ty_tup_non, ty_tup_ti, ty_lst_non, ty_lst_ti, ty_dict_non, ty_dict_ti, ty_int_rep, ty_int_dic, ty_bool_rep, ty_bool_dic, ty_str_rep, ty_str_dic, ty_tup_rep, ty_tup_dic, ty_lst_rep, ty_lst_dic, ty_dict_rep, ty_dict_dic, ta_tup, ta_lst, ta_ti, ta_int, ta_bl, ta_str, ta_non, st_0, st_1, st_2, st_3, st_4, st_5, st_6, st_7, st_8, st_9, st_10, st_11, st_12, st_13, st_14, st_15, st_16, st_17, st_18, st_19, st_20, st_21, st_22, st_23, bp_nm, bp_tp, bp_ls, bp_ti, bps_nil, bps_nm, sts_nil, sts_cons, rowr_l, rowr_r, cat_d, wp0_nil, wp_0, wp_1, wp_2, wp_3, wp_4, wp_5, wp_6, wp_7, wp_8, wp_9, wp_10, wp_11, wp_12, wp_13, wp_14, wp_15, wp_16, wp_17, wp_18, wp_19, wp_20, wp_21, wp_22, wp_23, rng_1, rng_2, rng_3, rng_4, rng_5, rng_6, rng_7, brkT, brkF, ti1, ti2, ti3, ti4, ti5, ti6, ti_map, eq_ti, pick, List.cons_append, List.nil_append, List.map_cons, List.map_nil, List.getD_cons_zero, List.getD_cons_succ, Bool.not_true, Bool.not_false, ↓seq_v, ↓seq_f, ↓itm_v, ↓itm_f, ↓asg_v, ↓asg_f, bp_v, bp_f, bps_tv, bps_tf, ↓two_vv, ↓two_vt, ↓two_tv, ↓two_ff, ↓still_v, ↓cut_v, ↓cop_eq_v, ↓cop_ne_v, ↓cop_eq_f, ↓cop_ne_f, inD_n, inD_c, pures_c, pures_n, pure_vT, pure_fT, pure_iT, pure_bT, pure_nT, eq_v, eq_f, Bool.or_false, and_self, ↓tru_v, non_v, non_f, ty_v, ty_f, ta_v, ta_f, ↓bop_vv, ↓bop_6v, ↓cut_9a, ↓cut_9b, ↓cut_9c, tup3, tup2, v_ti, f_ti, zipD, wp_cc, true_and, decide_true, decide_false, eq_self, sz_0, sz_1, sz_2, sz_3, sz_4, sz_5, sz_6, sz_7, sz_8, sz_9, sz_10, sz_11, sz_12, enm_1, enm_2, enm_3, enm_4, enm_5, enm_6, enm_7, enm_8, enm_9, enm_10, len_1, len_2, len_3, len_4, len_5, len_6, len_7, len_8, len_9, len_10])
local macro_rules | `(tactic| walk_at "fw") => `(tactic| simp only [lc_app', fc_cons, fc_nil, fw_cons, fw_nil, blk_app, ↓ev_v0, ↓ev_v1, ↓ev_v2, ↓ev_v3, ↓ev_v4, ↓ev_v5, ↓ev_v6, ↓ev_v7, ↓ev_v8, ↓ev_v9, ↓ev_v10, ↓ev_v11, ↓ev_v12, ↓ev_v13, ↓ev_v14, ↓ev_v15, ↓ev_v16, ↓ev_v17, ↓ev_v18, ↓ev_v19, ↓ev_v20, ↓ev_v21, ↓ev_v22, ↓ev_v23, ↓ev_cst, ↓ev_glb, ↓ev_bin, ↓ev_neg, ↓ev_not, ↓ev_cmp, ↓ev_cmp2, ↓ev_and, ↓ev_or, ↓ev_ite, ↓ev_tup, ↓ev_lst, ↓ev_idx, ↓ev_slc, ↓ev_call, ↓ev_callk, ↓ev_bi, ↓ev_isi, ↓ev_isi2, ↓ev_lc, ↓ev_lc2, ↓ev_tcat, ↓ev_rng, ↓ev_rng1, ↓ev_zip, ↓ev_enm, ↓ev_cnt, ↓ev_nset, ↓ev_dct, ↓ev_cat, ↓ev_isn, ↓ev_rev, ↓ev_app, ↓evs_nil, ↓evs_cons, ↓evss_nil, ↓evss_f, ↓evss_t, ↓spr_tup, ↓spr_lst, ↓spr_frz, ↓spr_ti, ↓evo_n, ↓evo_s, ↓evt_n, ↓evt_s, ↓ex_set, ↓ex_par, ↓ex_expr, ↓ex_ret, ↓ex_retN, ↓ex_iff, ↓ex_for, ↓ex_whl, ↓ex_raise, ↓ex_pass, ↓ex_brk, ↓ex_cont, ↓exs_nil, ↓exs_cons, ↓tvf, ↓tvt, ↓asB_bl, ↓asI_i, ↓bop_add, ↓bop_sub, ↓bop_mul, ↓bop_fdv, ↓bop_mod, ↓bop_pow, ↓bop_tt, ↓bop_ll, ↓bop_lm, ↓cop_eq, ↓cop_ne, ↓cop_lt, ↓cop_le, ↓cop_gt, ↓cop_ge, ↓cop_eq_rep, ↓cop_ne_rep, ↓cop_eq_tup, ↓cop_ne_tup, ↓cop_eq_lst, ↓cop_ne_lst, ↓cop_eq_str, ↓cop_ne_str, ↓cop_eq_bl, ↓cop_ne_bl, ↓cop_eq_non, ↓cop_ne_non, ↓cop_is_n, ↓cop_is_b, ↓cop_isnot_n, ↓cop_isnot_b, ↓cop_isin_lst, ↓cop_isin_tup, ↓cop_notin_lst, ↓cop_notin_tup, ↓tru_non, ↓tru_bl, ↓tru_int, ↓tru_tup, ↓tru_lst, ↓seq_tup, ↓itm_tup, ↓seq_lst, ↓itm_lst, ↓seq_frz, ↓itm_frz, ↓itm_itr, ↓seq_ref, ↓itm_ref, ↓seq_ti, ↓itm_ti, ↓onO_s, ↓nth_0, ↓nth_1, ↓nth_2, ↓nth_3, ↓nth_4, ↓nth_5, ↓nth_6, ↓nth_7, ↓nth_8, ↓nth_9, ↓nth_10, ↓nth_11, ↓nth_12, ↓bf_len, ↓bf_abs, ↓bf_max, ↓bf_min, ↓bf_int, ↓bf_intb, ↓bf_dm, ↓bf_gcd, ↓bf_all, ↓bf_any, ↓bf_sum, ↓bf_tup, ↓bf_repl, ↓bf_stri, ↓bf_rept, ↓bf_lst, ↓asg_nm, ↓asg_tp, ↓asg_ls, ↓asg_sub, ↓asg_tg, ↓asg_ti, ↓asgs_nil, ↓asgs_cons, ↓mk_f, ↓mk_t, ↓setn_l, ↓setn_r, ↓isn_lst_true, ↓isn_lst_false, ↓isn_tup_true, ↓isn_tup_false, ↓isn_ref_true, ↓isn_ref_false, ↓cnt_t, ↓rev_t, ↓rev_l, ↓rev_ti, ↓onRef_r, ↓two_tt, ↓two_ll, ↓two_tl, ↓two_ti, ↓still_t, ↓still_ti, ↓still_l, ↓cut_tup, ↓cut_lst, ↓cut_frz, ↓cut_ti, ↓bop_titi, ↓cop_eq_ti, ↓cop_ne_ti, non_non, non_int, ty_int_int, ty_bool_int, ty_str_int, ty_tup_int, ty_lst_int, ty_dict_int, non_bl, ty_int_bl, ty_bool_bl, ty_str_bl, ty_tup_bl, ty_lst_bl, ty_dict_bl, non_str, ty_int_str, ty_bool_str, ty_str_str, ty_tup_str, ty_lst_str, ty_dict_str, non_tup, ty_int_tup, ty_bool_tup, ty_str_tup, ty_tup_tup, ty_lst_tup, ty_dict_tup, non_lst, ty_int_lst, ty_bool_lst, ty_str_lst, ty_tup_lst, ty_lst_lst, ty_dict_lst, ty_int_non, ty_int_ti, ty_bool_non, ty_bool_ti, ty_str_non, ty_str_ti, ty_tup_non, ty_tup_ti, ty_lst_non, ty_lst_ti, ty_dict_non, ty_dict_ti, ty_int_rep, ty_int_dic, ty_bool_rep, ty_bool_dic, ty_str_rep, ty_str_dic, ty_tup_rep, ty_tup_dic, ty_lst_rep, ty_lst_dic, ty_dict_rep, ty_dict_dic, ta_tup, ta_lst, ta_ti, ta_int, ta_bl, ta_str, ta_non, st_0, st_1, st_2, st_3, st_4, st_5, st_6, st_7, st_8, st_9, st_10, st_11, st_12, st_13, st_14, st_15, st_16, st_17, st_18, st_19, st_20, st_21, st_22, st_23, bp_nm, bp_tp, bp_ls, bp_ti, bps_nil, bps_nm, sts_nil, sts_cons, rowr_l, rowr_r, cat_d, wp0_nil, wp_0, wp_1, wp_2, wp_3, wp_4, wp_5, wp_6, wp_7, wp_8, wp_9, wp_10, wp_11, wp_12, wp_13, wp_14, wp_15, wp_16, wp_17, wp_18, wp_19, wp_20, wp_21, wp_22, wp_23, rng_1, rng_2, rng_3, rng_4, rng_5, rng_6, rng_7, brkT, brkF, ti1, ti2, ti3, ti4, ti5, ti6, ti_map, eq_ti, pick, List.cons_append, List.nil_append, List.map_cons, List.map_nil, List.getD_cons_zero, List.getD_cons_succ, Bool.not_true, Bool.not_false, ↓seq_v, ↓seq_f, ↓itm_v, ↓itm_f, ↓asg_v, ↓asg_f, bp_v, bp_f, bps_tv, bps_tf, ↓two_vv, ↓two_vt, ↓two_tv, ↓two_ff, ↓still_v, ↓cut_v, ↓cop_eq_v, ↓cop_ne_v, ↓cop_eq_f, ↓cop_ne_f, inD_n, inD_c, pures_c, pures_n, pure_vT, pure_fT, pure_iT, pure_bT, pure_nT, eq_v, eq_f, Bool.or_false, and_self, ↓tru_v, non_v, non_f, ty_v, ty_f, ta_v, ta_f, ↓bop_vv, ↓bop_6v, ↓cut_9a, ↓cut_9b, ↓cut_9c, tup3, tup2, v_ti, f_ti, zipD, wp_cc, true_and, decide_true, decide_false, eq_self, sz_0, sz_1, sz_2, sz_3, sz_4, sz_5, sz_6, sz_7, sz_8, sz_9, sz_10, sz_11, sz_12, enm_1, enm_2, enm_3, enm_4, enm_5, enm_6, enm_7, enm_8, enm_9, enm_10, len_1, len_2, len_3, len_4, len_5, len_6, len_7, len_8, len_9, len_10])
local macro_rules | `(tactic| walk_at "f1") => `(tactic| first
  | assumption
  | (with_reducible apply And.intro; walk_at "fs")
  | (with_reducible apply brk_t; walk_at "fd")
  | (with_reducible apply brk_f; walk_at "fd")
  | (with_reducible apply s_is_on4; walk_at "fs"; walk_at "fs"; walk_at "fs"; walk_at "fs"; walk_at "fs")
  | (with_reducible apply s_law_plain4; walk_at "fs"; walk_at "fs"; walk_at "fs")
  | (with_reducible apply s_law_cross4; walk_at "fs"; walk_at "fs"; walk_at "fs")
  | (with_reducible apply s_law_dot4; walk_at "fs"; walk_at "fs"; walk_at "fs")
  | (with_reducible apply s_law_block4; walk_at "fs"; walk_at "fs"; walk_at "fs"; walk_at "fs")
  | (with_reducible apply s_is_triple4; walk_at "fs"; walk_at "fs")
  | (with_reducible apply s_law_is_frame; walk_at "fs"; walk_at "fs"; walk_at "fs"; walk_at "fs"; walk_at "fs"; walk_at "fs"; walk_at "fs"; walk_at "fs"; walk_at "fs"; walk_at "fs")
  | (with_reducible apply s_wrong4f; walk_at "fs"; walk_at "fs"; walk_at "fs"; walk_at "fs"; walk_at "fs"; walk_at "fs"; walk_at "fs"; walk_at "fs"; walk_at "fs"; walk_at "fs"; walk_at "fs"; walk_at "fs")
  | (with_reducible apply s_is_figure4f; walk_at "fs")
  | (with_reducible apply s_is_general4f; walk_at "fs"; walk_at "fs"; walk_at "fs"; walk_at "fs"; walk_at "fs"; walk_at "fs")
  | (with_reducible apply s_check_frame4f; walk_at "fs"; walk_at "fs"; walk_at "fs"; walk_at "fs"; walk_at "fs"; walk_at "fs")
  | (with_reducible apply s_parts_of3; walk_at "fs"; walk_at "fs"; walk_at "fs"; walk_at "fs"; walk_at "fs")
  | (with_reducible apply s_ticket; walk_at "fs"; walk_at "fs"; walk_at "fs"; walk_at "fs"; walk_at "fs"; walk_at "fs"; walk_at "fs"; walk_at "fs")
  | (with_reducible apply s_is_view_of_v; walk_at "fs"; walk_at "fs"; walk_at "fs")
  | (with_reducible apply s_check_view_v; walk_at "fs"; walk_at "fs"; walk_at "fs")
  | (with_reducible apply s_table_times_v; walk_at "fs"; walk_at "fs"; walk_at "fs")
  | (with_reducible apply s_turned_table_v)
  | (with_reducible apply s_adjugate_v; walk_at "fs"; walk_at "fs")
  | (with_reducible apply s_turn_line_v; walk_at "fs"; walk_at "fs"; walk_at "fs"; walk_at "fs"; walk_at "fs")
  | (with_reducible apply s_turned_line_v; walk_at "fs"; walk_at "fs"; walk_at "fs"; walk_at "fs"; walk_at "fs")
  | (with_reducible apply s_place_for_v; walk_at "fs"; walk_at "fs"; walk_at "fs"; walk_at "fs")
  | (with_reducible apply s_minor_v; walk_at "fs"; walk_at "fs"; walk_at "fs")
  | (with_reducible apply s_parts_by_v; walk_at "fs"; walk_at "fs"; walk_at "fs"; walk_at "fs"; walk_at "fs")
  | (with_reducible apply s_ratio_by_v; walk_at "fs"; walk_at "fs"; walk_at "fs"; walk_at "fs"; walk_at "fs"; walk_at "fs"; walk_at "fs")
  | (with_reducible apply s_check_points4; walk_at "fs"; walk_at "fs"; walk_at "fs"; walk_at "fs")
  | (with_reducible apply s_check_points3; walk_at "fs"; walk_at "fs"; walk_at "fs")
  | (with_reducible apply s_do_fit4; walk_at "fs"; walk_at "fs"; walk_at "fs"; walk_at "fs"; walk_at "fs"; walk_at "fs"; walk_at "fs"; walk_at "fs"; walk_at "fs"; walk_at "fs")
  | (with_reducible apply s_do_fit3; walk_at "fs"; walk_at "fs"; walk_at "fs"; walk_at "fs"; walk_at "fs"; walk_at "fs"; walk_at "fs"; walk_at "fs")
  | (with_reducible apply s_check_fit4; walk_at "fs"; walk_at "fs"; walk_at "fs"; walk_at "fs"; walk_at "fs"; walk_at "fs"; walk_at "fs"; walk_at "fs"; walk_at "fs"; walk_at "fs")
  | (with_reducible apply s_check_fit3; walk_at "fs"; walk_at "fs"; walk_at "fs"; walk_at "fs"; walk_at "fs"; walk_at "fs"; walk_at "fs"; walk_at "fs")
  | (with_reducible apply s_double_ratio_v; walk_at "fs"; walk_at "fs"; walk_at "fs"; walk_at "fs"; walk_at "fs"; walk_at "fs"; walk_at "fs")
  | (with_reducible apply s_line_ratio_v; walk_at "fs"; walk_at "fs"; walk_at "fs"; walk_at "fs"; walk_at "fs"; walk_at "fs"; walk_at "fs")
  | (with_reducible apply s_cross_v; walk_at "fs"; walk_at "fs"; walk_at "fs")
  | (with_reducible apply s_dot_v; walk_at "fs"; walk_at "fs"; walk_at "fs")
  | (with_reducible apply s_block_v; walk_at "fs"; walk_at "fs"; walk_at "fs"; walk_at "fs")
  | (with_reducible apply s_added_v)
  | (with_reducible apply s_scaled_v; walk_at "fs"; walk_at "fs"; walk_at "fs")
  | (with_reducible apply s_plain_of_v; walk_at "fs"; walk_at "fs"; walk_at "fs")
  | (with_reducible apply s_plain_of_f; walk_at "fs"; walk_at "fs"; walk_at "fs"; walk_at "fs")
  | (with_reducible apply s_is_zero_v)
  | (with_reducible apply s_is_triple_v; walk_at "fs")
  | (with_reducible apply s_check_point_v; walk_at "fs")
  | (with_reducible apply s_check_straight_v; walk_at "fs")
  | (with_reducible apply s_check_other_point_v; walk_at "fs"; walk_at "fs")
  | (with_reducible apply s_check_other_straight_v; walk_at "fs"; walk_at "fs")
  | (with_reducible apply s_join_v; walk_at "fs"; walk_at "fs"; walk_at "fs"; walk_at "fs"; walk_at "fs"; walk_at "fs")
  | (with_reducible apply s_meet_v; walk_at "fs"; walk_at "fs"; walk_at "fs"; walk_at "fs"; walk_at "fs"; walk_at "fs")
  | (with_reducible apply s_cross; walk_at "fs"; walk_at "fs"; walk_at "fs")
  | (with_reducible apply s_dot; walk_at "fs"; walk_at "fs"; walk_at "fs")
  | (with_reducible apply s_block; walk_at "fs"; walk_at "fs"; walk_at "fs"; walk_at "fs"; walk_at "fs"; walk_at "fs")
  | (with_reducible apply s_added)
  | (with_reducible apply s_scaled; walk_at "fs"; walk_at "fs")
  | (with_reducible apply s_law_dot; walk_at "fs"; walk_at "fs"; walk_at "fs")
  | (with_reducible apply s_law_plain_v2; walk_at "fs"; walk_at "fs"; walk_at "fs")
  | (with_reducible apply s_divisor_of)
  | (with_reducible apply s_first_live)
  | (with_reducible apply s_plain_of; walk_at "fs"; walk_at "fs"; walk_at "fs")
  | (with_reducible apply s_is_zero)
  | (with_reducible apply s_made_plain; walk_at "fs"; walk_at "fs"; walk_at "fs")
  | (with_reducible apply s_is_plain; walk_at "fs"; walk_at "fs"; walk_at "fs")
  | (with_reducible apply s_is_triple; walk_at "fs"; walk_at "fs")
  | (with_reducible apply s_is_point; walk_at "fs"; walk_at "fs")
  | (with_reducible apply s_law_divisor)
  | (with_reducible apply s_law_plain; walk_at "fs"; walk_at "fs"; walk_at "fs")
  | (with_reducible apply s_law_is_triple; walk_at "fs"; walk_at "fs"; walk_at "fs")
  | (with_reducible apply s_is_whole)
  | (with_reducible apply s_is_tuple_up_to)
  | (with_reducible apply s_is_tuple_of)
  | (with_reducible apply s_are_whole; walk_at "fs")
  | (with_reducible apply s_law_cross; walk_at "fs"; walk_at "fs"; walk_at "fs"))
local macro_rules | `(tactic| walk_at "go") => `(tactic| repeat (first | walk_at "f1" | walk_at "fw"))
local macro_rules | `(tactic| walk_at "g0") => `(tactic| repeat (first | walk_at "f1" | walk_at "fx"))
/-- a value that a law shows: no function, no loop -/
def gkd : D → Bool
  | .non => true
  | .bl _ => true
  | .int _ => true
  | .str _ => true
  | .tup _ => true
  | .lst _ => true
  | .rep _ => true
  | .dic => true
  | _ => false
def isW : D → Bool
  | .int _ => true
  | _ => false
def giv (d : D) : Prop := gkd d = true ∧ ∀ i, d = .int i → bt 200 i
def Gdv (d : D) : Prop := gkd d = true ∧ ∀ ds, d = .tup ds → ds.length ≤ 20 ∧ ∀ x ∈ ds, giv x
theorem ints_eq : ∀ {ds : List D} {is : List Int}, ints? ds = some is → ds = is.map D.int
  | [], is, h => by cases h; rfl
  | .int i :: ds, is, h => by
    have h : (ints? ds).map (i :: ·) = some is := h
    cases e : ints? ds with
    | none => rw [e] at h; cases h
    | some js =>
      rw [e] at h
      cases h
      rw [ints_eq e]; rfl
  | .non :: _, _, h => by cases h
  | .bl _ :: _, _, h => by cases h
  | .str _ :: _, _, h => by cases h
  | .tup _ :: _, _, h => by cases h
  | .lst _ :: _, _, h => by cases h
  | .frz _ :: _, _, h => by cases h
  | .ref _ :: _, _, h => by cases h
  | .fn _ :: _, _, h => by cases h
  | .exc _ _ :: _, _, h => by cases h
  | .itr _ :: _, _, h => by cases h
  | .rep _ :: _, _, h => by cases h
  | .dic :: _, _, h => by cases h
theorem ints_all : ∀ {ds : List D}, ints? ds = none → ds.all isW = false
  | [], h => by cases h
  | .int i :: ds, h => by
    have h : (ints? ds).map (i :: ·) = none := h
    have h : ints? ds = none := by
      cases e : ints? ds with
      | none => rfl
      | some js => rw [e] at h; cases h
    show (true && ds.all isW) = false
    rw [ints_all h]; rfl
  | .non :: _, _ => rfl
  | .bl _ :: _, _ => rfl
  | .str _ :: _, _ => rfl
  | .tup _ :: _, _ => rfl
  | .lst _ :: _, _ => rfl
  | .frz _ :: _, _ => rfl
  | .ref _ :: _, _ => rfl
  | .fn _ :: _, _ => rfl
  | .exc _ _ :: _, _ => rfl
  | .itr _ :: _, _ => rfl
  | .rep _ :: _, _ => rfl
  | .dic :: _, _ => rfl
theorem fcD {one : D → Store → (List D → Store → Prop) → Prop} {f : D → D} : ∀ {ds : List D} {S : Store} {k : List D → Store → Prop}, (∀ d ∈ ds, ∀ k2 : List D → Store → Prop, k2 [f d] S → one d S k2) → k (ds.map f) S → forC none one ds S k
  | [], S, k, _, h => h
  | d :: ds, S, k, w, h => w d List.mem_cons_self _ (fcD (fun e he => w e (List.mem_cons_of_mem _ he)) h)
theorem bls_W : ∀ {ds : List D}, bls? (ds.map fun d => D.bl (isW d)) = some (ds.map isW)
  | [] => rfl
  | d :: ds => by simp only [List.map_cons, bls?, bls_W, Option.map_some]
theorem all_id : ∀ {ds : List D}, (ds.map isW).all id = ds.all isW
  | [] => rfl
  | d :: ds => by simp only [List.map_cons, List.all_cons, id, all_id]
theorem in_W : ∀ {ds : List D}, inD (.bl false) (ds.map fun d => D.bl (isW d)) = !ds.all isW
  | [] => rfl
  | d :: ds => by
    show (eqD (.bl (isW d)) (.bl false) || inD (.bl false) (ds.map fun d => D.bl (isW d))) = !(isW d && ds.all isW)
    rw [in_W]
    cases isW d <;> rfl
theorem pures_W {m : Nat} : ∀ {ds : List D}, pures? (m + 1) (ds.map fun d => D.bl (isW d)) = true
  | [] => rfl
  | d :: ds => by
    show (pure? (m + 1) (.bl (isW d)) && pures? (m + 1) (ds.map fun d => D.bl (isW d))) = true
    rw [pures_W]; rfl
section
variable {n : Nat} {S : Store} {k X : D → Store → Prop} {u v w x y z p q r s : T3} {a b c : Nat} {l : Nat} {d : D} {ds : List D}
theorem s_is_wholeA (hg : gkd d = true) (h : k (.bl (isW d)) S) : CT (n + 1) i_is_whole [d] S k X := by
  refine c_is_whole ?_
  cases d <;> (try (cases hg; done)) <;> (simp only [f_is_whole, ↓ev_v0, ↓ev_v1, ↓ev_v2, ↓ev_v3, ↓ev_v4, ↓ev_v5, ↓ev_v6, ↓ev_v7, ↓ev_v8, ↓ev_v9, ↓ev_v10, ↓ev_v11, ↓ev_v12, ↓ev_v13, ↓ev_v14, ↓ev_v15, ↓ev_v16, ↓ev_v17, ↓ev_v18, ↓ev_v19, ↓ev_v20, ↓ev_v21, ↓ev_v22, ↓ev_v23, ↓ev_cst, ↓ev_glb, ↓ev_bin, ↓ev_neg, ↓ev_not, ↓ev_cmp, ↓ev_cmp2, ↓ev_and, ↓ev_or, ↓ev_ite, ↓ev_tup, ↓ev_lst, ↓ev_idx, ↓ev_slc, ↓ev_call, ↓ev_callk, ↓ev_bi, ↓ev_isi, ↓ev_isi2, ↓ev_lc, ↓ev_lc2, ↓ev_tcat, ↓ev_rng, ↓ev_rng1, ↓ev_zip, ↓ev_enm, ↓ev_cnt, ↓ev_nset, ↓ev_dct, ↓ev_cat, ↓ev_isn, ↓ev_rev, ↓ev_app, ↓evs_nil, ↓evs_cons, ↓evss_nil, ↓evss_f, ↓evss_t, ↓spr_tup, ↓spr_lst, ↓spr_frz, ↓spr_ti, ↓evo_n, ↓evo_s, ↓evt_n, ↓evt_s, ↓ex_set, ↓ex_par, ↓ex_expr, ↓ex_ret, ↓ex_retN, ↓ex_iff, ↓ex_for, ↓ex_whl, ↓ex_raise, ↓ex_pass, ↓ex_brk, ↓ex_cont, ↓exs_nil, ↓exs_cons, ↓tvf, ↓tvt, ↓asB_bl, ↓asI_i, ↓bop_add, ↓bop_sub, ↓bop_mul, ↓bop_fdv, ↓bop_mod, ↓bop_pow, ↓bop_tt, ↓bop_ll, ↓bop_lm, ↓cop_eq, ↓cop_ne, ↓cop_lt, ↓cop_le, ↓cop_gt, ↓cop_ge, ↓cop_eq_rep, ↓cop_ne_rep, ↓cop_eq_tup, ↓cop_ne_tup, ↓cop_eq_lst, ↓cop_ne_lst, ↓cop_eq_str, ↓cop_ne_str, ↓cop_eq_bl, ↓cop_ne_bl, ↓cop_eq_non, ↓cop_ne_non, ↓cop_is_n, ↓cop_is_b, ↓cop_isnot_n, ↓cop_isnot_b, ↓cop_isin_lst, ↓cop_isin_tup, ↓cop_notin_lst, ↓cop_notin_tup, ↓tru_non, ↓tru_bl, ↓tru_int, ↓tru_tup, ↓tru_lst, ↓seq_tup, ↓itm_tup, ↓seq_lst, ↓itm_lst, ↓seq_frz, ↓itm_frz, ↓itm_itr, ↓seq_ref, ↓itm_ref, ↓seq_ti, ↓itm_ti, ↓onO_s, ↓nth_0, ↓nth_1, ↓nth_2, ↓nth_3, ↓nth_4, ↓nth_5, ↓nth_6, ↓nth_7, ↓nth_8, ↓nth_9, ↓nth_10, ↓nth_11, ↓nth_12, ↓bf_len, ↓bf_abs, ↓bf_max, ↓bf_min, ↓bf_int, ↓bf_intb, ↓bf_dm, ↓bf_gcd, ↓bf_all, ↓bf_any, ↓bf_sum, ↓bf_tup, ↓bf_repl, ↓bf_stri, ↓bf_rept, ↓bf_lst, ↓asg_nm, ↓asg_tp, ↓asg_ls, ↓asg_sub, ↓asg_tg, ↓asg_ti, ↓asgs_nil, ↓asgs_cons, ↓mk_f, ↓mk_t, ↓setn_l, ↓setn_r, ↓isn_lst_true, ↓isn_lst_false, ↓isn_tup_true, ↓isn_tup_false, ↓isn_ref_true, ↓isn_ref_false, ↓cnt_t, ↓rev_t, ↓rev_l, ↓rev_ti, ↓onRef_r, ↓two_tt, ↓two_ll, ↓two_tl, ↓two_ti, ↓still_t, ↓still_ti, ↓still_l, ↓cut_tup, ↓cut_lst, ↓cut_frz, ↓cut_ti, ↓bop_titi, ↓cop_eq_ti, ↓cop_ne_ti, non_non, non_int, ty_int_int, ty_bool_int, ty_str_int, ty_tup_int, ty_lst_int, ty_dict_int, non_bl, ty_int_bl, ty_bool_bl, ty_str_bl, ty_tup_bl, ty_lst_bl, ty_dict_bl, non_str, ty_int_str, ty_bool_str, ty_str_str, ty_tup_str, ty_lst_str, ty_dict_str, non_tup, ty_int_tup, ty_bool_tup, ty_str_tup, ty_tup_tup, ty_lst_tup, ty_dict_tup, non_lst, ty_int_lst, ty_bool_lst, ty_str_lst, ty_tup_lst, ty_lst_lst, ty_dict_lst, ty_int_non, ty_int_ti, ty_bool_non, ty_bool_ti, ty_str_non, ty_str_ti, ty_tup_non, ty_tup_ti, ty_lst_non, ty_lst_ti, ty_dict_non, ty_dict_ti, ty_int_rep, ty_int_dic, ty_bool_rep, ty_bool_dic, ty_str_rep, ty_str_dic, ty_tup_rep, ty_tup_dic, ty_lst_rep, ty_lst_dic, ty_dict_rep, ty_dict_dic, ta_tup, ta_lst, ta_ti, ta_int, ta_bl, ta_str, ta_non, st_0, st_1, st_2, st_3, st_4, st_5, st_6, st_7, st_8, st_9, st_10, st_11, st_12, st_13, st_14, st_15, st_16, st_17, st_18, st_19, st_20, st_21, st_22, st_23, bp_nm, bp_tp, bp_ls, bp_ti, bps_nil, bps_nm, sts_nil, sts_cons, rowr_l, rowr_r, cat_d, wp0_nil, wp_0, wp_1, wp_2, wp_3, wp_4, wp_5, wp_6, wp_7, wp_8, wp_9, wp_10, wp_11, wp_12, wp_13, wp_14, wp_15, wp_16, wp_17, wp_18, wp_19, wp_20, wp_21, wp_22, wp_23, rng_1, rng_2, rng_3, rng_4, rng_5, rng_6, rng_7, brkT, brkF, ti1, ti2, ti3, ti4, ti5, ti6, ti_map, eq_ti, pick, List.cons_append, List.nil_append, List.map_cons, List.map_nil, List.getD_cons_zero, List.getD_cons_succ, Bool.not_true, Bool.not_false]; exact h)
theorem s_are_wholeA (hg : ∀ d ∈ ds, gkd d = true) (hz : ds.length ≤ SZ) (h : k (.bl (decide ((ds.length : Int) = 3) && ds.all isW)) S) : CT (n + 3) i_are_whole [.tup ds, .int 3] S k X := by
  refine c_are_whole ?_
  simp only [f_are_whole, ↓ev_v0, ↓ev_v1, ↓ev_v2, ↓ev_v3, ↓ev_v4, ↓ev_v5, ↓ev_v6, ↓ev_v7, ↓ev_v8, ↓ev_v9, ↓ev_v10, ↓ev_v11, ↓ev_v12, ↓ev_v13, ↓ev_v14, ↓ev_v15, ↓ev_v16, ↓ev_v17, ↓ev_v18, ↓ev_v19, ↓ev_v20, ↓ev_v21, ↓ev_v22, ↓ev_v23, ↓ev_cst, ↓ev_glb, ↓ev_bin, ↓ev_neg, ↓ev_not, ↓ev_cmp, ↓ev_cmp2, ↓ev_and, ↓ev_or, ↓ev_ite, ↓ev_tup, ↓ev_lst, ↓ev_idx, ↓ev_slc, ↓ev_call, ↓ev_callk, ↓ev_bi, ↓ev_isi, ↓ev_isi2, ↓ev_lc, ↓ev_lc2, ↓ev_tcat, ↓ev_rng, ↓ev_rng1, ↓ev_zip, ↓ev_enm, ↓ev_cnt, ↓ev_nset, ↓ev_dct, ↓ev_cat, ↓ev_isn, ↓ev_rev, ↓ev_app, ↓evs_nil, ↓evs_cons, ↓evss_nil, ↓evss_f, ↓evss_t, ↓spr_tup, ↓spr_lst, ↓spr_frz, ↓spr_ti, ↓evo_n, ↓evo_s, ↓evt_n, ↓evt_s, ↓ex_set, ↓ex_par, ↓ex_expr, ↓ex_ret, ↓ex_retN, ↓ex_iff, ↓ex_for, ↓ex_whl, ↓ex_raise, ↓ex_pass, ↓ex_brk, ↓ex_cont, ↓exs_nil, ↓exs_cons, ↓tvf, ↓tvt, ↓asB_bl, ↓asI_i, ↓bop_add, ↓bop_sub, ↓bop_mul, ↓bop_fdv, ↓bop_mod, ↓bop_pow, ↓bop_tt, ↓bop_ll, ↓bop_lm, ↓cop_eq, ↓cop_ne, ↓cop_lt, ↓cop_le, ↓cop_gt, ↓cop_ge, ↓cop_eq_rep, ↓cop_ne_rep, ↓cop_eq_tup, ↓cop_ne_tup, ↓cop_eq_lst, ↓cop_ne_lst, ↓cop_eq_str, ↓cop_ne_str, ↓cop_eq_bl, ↓cop_ne_bl, ↓cop_eq_non, ↓cop_ne_non, ↓cop_is_n, ↓cop_is_b, ↓cop_isnot_n, ↓cop_isnot_b, ↓cop_isin_lst, ↓cop_isin_tup, ↓cop_notin_lst, ↓cop_notin_tup, ↓tru_non, ↓tru_bl, ↓tru_int, ↓tru_tup, ↓tru_lst, ↓seq_tup, ↓itm_tup, ↓seq_lst, ↓itm_lst, ↓seq_frz, ↓itm_frz, ↓itm_itr, ↓seq_ref, ↓itm_ref, ↓seq_ti, ↓itm_ti, ↓onO_s, ↓nth_0, ↓nth_1, ↓nth_2, ↓nth_3, ↓nth_4, ↓nth_5, ↓nth_6, ↓nth_7, ↓nth_8, ↓nth_9, ↓nth_10, ↓nth_11, ↓nth_12, ↓bf_len, ↓bf_abs, ↓bf_max, ↓bf_min, ↓bf_int, ↓bf_intb, ↓bf_dm, ↓bf_gcd, ↓bf_all, ↓bf_any, ↓bf_sum, ↓bf_tup, ↓bf_repl, ↓bf_stri, ↓bf_rept, ↓bf_lst, ↓asg_nm, ↓asg_tp, ↓asg_ls, ↓asg_sub, ↓asg_tg, ↓asg_ti, ↓asgs_nil, ↓asgs_cons, ↓mk_f, ↓mk_t, ↓setn_l, ↓setn_r, ↓isn_lst_true, ↓isn_lst_false, ↓isn_tup_true, ↓isn_tup_false, ↓isn_ref_true, ↓isn_ref_false, ↓cnt_t, ↓rev_t, ↓rev_l, ↓rev_ti, ↓onRef_r, ↓two_tt, ↓two_ll, ↓two_tl, ↓two_ti, ↓still_t, ↓still_ti, ↓still_l, ↓cut_tup, ↓cut_lst, ↓cut_frz, ↓cut_ti, ↓bop_titi, ↓cop_eq_ti, ↓cop_ne_ti, non_non, non_int, ty_int_int, ty_bool_int, ty_str_int, ty_tup_int, ty_lst_int, ty_dict_int, non_bl, ty_int_bl, ty_bool_bl, ty_str_bl, ty_tup_bl, ty_lst_bl, ty_dict_bl, non_str, ty_int_str, ty_bool_str, ty_str_str, ty_tup_str, ty_lst_str, ty_dict_str, non_tup, ty_int_tup, ty_bool_tup, ty_str_tup, ty_tup_tup, ty_lst_tup, ty_dict_tup, non_lst, ty_int_lst, ty_bool_lst, ty_str_lst, ty_tup_lst, ty_lst_lst, ty_dict_lst, ty_int_non, ty_int_ti, ty_bool_non, ty_bool_ti, ty_str_non, ty_str_ti, ty_tup_non, ty_tup_ti, ty_lst_non, ty_lst_ti, ty_dict_non, ty_dict_ti, ty_int_rep, ty_int_dic, ty_bool_rep, ty_bool_dic, ty_str_rep, ty_str_dic, ty_tup_rep, ty_tup_dic, ty_lst_rep, ty_lst_dic, ty_dict_rep, ty_dict_dic, ta_tup, ta_lst, ta_ti, ta_int, ta_bl, ta_str, ta_non, st_0, st_1, st_2, st_3, st_4, st_5, st_6, st_7, st_8, st_9, st_10, st_11, st_12, st_13, st_14, st_15, st_16, st_17, st_18, st_19, st_20, st_21, st_22, st_23, bp_nm, bp_tp, bp_ls, bp_ti, bps_nil, bps_nm, sts_nil, sts_cons, rowr_l, rowr_r, cat_d, wp0_nil, wp_0, wp_1, wp_2, wp_3, wp_4, wp_5, wp_6, wp_7, wp_8, wp_9, wp_10, wp_11, wp_12, wp_13, wp_14, wp_15, wp_16, wp_17, wp_18, wp_19, wp_20, wp_21, wp_22, wp_23, rng_1, rng_2, rng_3, rng_4, rng_5, rng_6, rng_7, brkT, brkF, ti1, ti2, ti3, ti4, ti5, ti6, ti_map, eq_ti, pick, List.cons_append, List.nil_append, List.map_cons, List.map_nil, List.getD_cons_zero, List.getD_cons_succ, Bool.not_true, Bool.not_false]
  refine s_is_tuple_of ?_
  by_cases q : (ds.length : Int) = 3
  · simp only [q, decide_true, Bool.true_and, ↓ev_v0, ↓ev_v1, ↓ev_v2, ↓ev_v3, ↓ev_v4, ↓ev_v5, ↓ev_v6, ↓ev_v7, ↓ev_v8, ↓ev_v9, ↓ev_v10, ↓ev_v11, ↓ev_v12, ↓ev_v13, ↓ev_v14, ↓ev_v15, ↓ev_v16, ↓ev_v17, ↓ev_v18, ↓ev_v19, ↓ev_v20, ↓ev_v21, ↓ev_v22, ↓ev_v23, ↓ev_cst, ↓ev_glb, ↓ev_bin, ↓ev_neg, ↓ev_not, ↓ev_cmp, ↓ev_cmp2, ↓ev_and, ↓ev_or, ↓ev_ite, ↓ev_tup, ↓ev_lst, ↓ev_idx, ↓ev_slc, ↓ev_call, ↓ev_callk, ↓ev_bi, ↓ev_isi, ↓ev_isi2, ↓ev_lc, ↓ev_lc2, ↓ev_tcat, ↓ev_rng, ↓ev_rng1, ↓ev_zip, ↓ev_enm, ↓ev_cnt, ↓ev_nset, ↓ev_dct, ↓ev_cat, ↓ev_isn, ↓ev_rev, ↓ev_app, ↓evs_nil, ↓evs_cons, ↓evss_nil, ↓evss_f, ↓evss_t, ↓spr_tup, ↓spr_lst, ↓spr_frz, ↓spr_ti, ↓evo_n, ↓evo_s, ↓evt_n, ↓evt_s, ↓ex_set, ↓ex_par, ↓ex_expr, ↓ex_ret, ↓ex_retN, ↓ex_iff, ↓ex_for, ↓ex_whl, ↓ex_raise, ↓ex_pass, ↓ex_brk, ↓ex_cont, ↓exs_nil, ↓exs_cons, ↓tvf, ↓tvt, ↓asB_bl, ↓asI_i, ↓bop_add, ↓bop_sub, ↓bop_mul, ↓bop_fdv, ↓bop_mod, ↓bop_pow, ↓bop_tt, ↓bop_ll, ↓bop_lm, ↓cop_eq, ↓cop_ne, ↓cop_lt, ↓cop_le, ↓cop_gt, ↓cop_ge, ↓cop_eq_rep, ↓cop_ne_rep, ↓cop_eq_tup, ↓cop_ne_tup, ↓cop_eq_lst, ↓cop_ne_lst, ↓cop_eq_str, ↓cop_ne_str, ↓cop_eq_bl, ↓cop_ne_bl, ↓cop_eq_non, ↓cop_ne_non, ↓cop_is_n, ↓cop_is_b, ↓cop_isnot_n, ↓cop_isnot_b, ↓cop_isin_lst, ↓cop_isin_tup, ↓cop_notin_lst, ↓cop_notin_tup, ↓tru_non, ↓tru_bl, ↓tru_int, ↓tru_tup, ↓tru_lst, ↓seq_tup, ↓itm_tup, ↓seq_lst, ↓itm_lst, ↓seq_frz, ↓itm_frz, ↓itm_itr, ↓seq_ref, ↓itm_ref, ↓seq_ti, ↓itm_ti, ↓onO_s, ↓nth_0, ↓nth_1, ↓nth_2, ↓nth_3, ↓nth_4, ↓nth_5, ↓nth_6, ↓nth_7, ↓nth_8, ↓nth_9, ↓nth_10, ↓nth_11, ↓nth_12, ↓bf_len, ↓bf_abs, ↓bf_max, ↓bf_min, ↓bf_int, ↓bf_intb, ↓bf_dm, ↓bf_gcd, ↓bf_all, ↓bf_any, ↓bf_sum, ↓bf_tup, ↓bf_repl, ↓bf_stri, ↓bf_rept, ↓bf_lst, ↓asg_nm, ↓asg_tp, ↓asg_ls, ↓asg_sub, ↓asg_tg, ↓asg_ti, ↓asgs_nil, ↓asgs_cons, ↓mk_f, ↓mk_t, ↓setn_l, ↓setn_r, ↓isn_lst_true, ↓isn_lst_false, ↓isn_tup_true, ↓isn_tup_false, ↓isn_ref_true, ↓isn_ref_false, ↓cnt_t, ↓rev_t, ↓rev_l, ↓rev_ti, ↓onRef_r, ↓two_tt, ↓two_ll, ↓two_tl, ↓two_ti, ↓still_t, ↓still_ti, ↓still_l, ↓cut_tup, ↓cut_lst, ↓cut_frz, ↓cut_ti, ↓bop_titi, ↓cop_eq_ti, ↓cop_ne_ti, non_non, non_int, ty_int_int, ty_bool_int, ty_str_int, ty_tup_int, ty_lst_int, ty_dict_int, non_bl, ty_int_bl, ty_bool_bl, ty_str_bl, ty_tup_bl, ty_lst_bl, ty_dict_bl, non_str, ty_int_str, ty_bool_str, ty_str_str, ty_tup_str, ty_lst_str, ty_dict_str, non_tup, ty_int_tup, ty_bool_tup, ty_str_tup, ty_tup_tup, ty_lst_tup, ty_dict_tup, non_lst, ty_int_lst, ty_bool_lst, ty_str_lst, ty_tup_lst, ty_lst_lst, ty_dict_lst, ty_int_non, ty_int_ti, ty_bool_non, ty_bool_ti, ty_str_non, ty_str_ti, ty_tup_non, ty_tup_ti, ty_lst_non, ty_lst_ti, ty_dict_non, ty_dict_ti, ty_int_rep, ty_int_dic, ty_bool_rep, ty_bool_dic, ty_str_rep, ty_str_dic, ty_tup_rep, ty_tup_dic, ty_lst_rep, ty_lst_dic, ty_dict_rep, ty_dict_dic, ta_tup, ta_lst, ta_ti, ta_int, ta_bl, ta_str, ta_non, st_0, st_1, st_2, st_3, st_4, st_5, st_6, st_7, st_8, st_9, st_10, st_11, st_12, st_13, st_14, st_15, st_16, st_17, st_18, st_19, st_20, st_21, st_22, st_23, bp_nm, bp_tp, bp_ls, bp_ti, bps_nil, bps_nm, sts_nil, sts_cons, rowr_l, rowr_r, cat_d, wp0_nil, wp_0, wp_1, wp_2, wp_3, wp_4, wp_5, wp_6, wp_7, wp_8, wp_9, wp_10, wp_11, wp_12, wp_13, wp_14, wp_15, wp_16, wp_17, wp_18, wp_19, wp_20, wp_21, wp_22, wp_23, rng_1, rng_2, rng_3, rng_4, rng_5, rng_6, rng_7, brkT, brkF, ti1, ti2, ti3, ti4, ti5, ti6, ti_map, eq_ti, pick, List.cons_append, List.nil_append, List.map_cons, List.map_nil, List.getD_cons_zero, List.getD_cons_succ, Bool.not_true, Bool.not_false] at h ⊢
    refine ⟨hz, fcD (f := fun d => .bl (isW d)) (fun d hd k2 h2 => ?_) ?_⟩
    · simp only [lc_app', ↓ev_v0, ↓ev_v1, ↓ev_v2, ↓ev_v3, ↓ev_v4, ↓ev_v5, ↓ev_v6, ↓ev_v7, ↓ev_v8, ↓ev_v9, ↓ev_v10, ↓ev_v11, ↓ev_v12, ↓ev_v13, ↓ev_v14, ↓ev_v15, ↓ev_v16, ↓ev_v17, ↓ev_v18, ↓ev_v19, ↓ev_v20, ↓ev_v21, ↓ev_v22, ↓ev_v23, ↓ev_cst, ↓ev_glb, ↓ev_bin, ↓ev_neg, ↓ev_not, ↓ev_cmp, ↓ev_cmp2, ↓ev_and, ↓ev_or, ↓ev_ite, ↓ev_tup, ↓ev_lst, ↓ev_idx, ↓ev_slc, ↓ev_call, ↓ev_callk, ↓ev_bi, ↓ev_isi, ↓ev_isi2, ↓ev_lc, ↓ev_lc2, ↓ev_tcat, ↓ev_rng, ↓ev_rng1, ↓ev_zip, ↓ev_enm, ↓ev_cnt, ↓ev_nset, ↓ev_dct, ↓ev_cat, ↓ev_isn, ↓ev_rev, ↓ev_app, ↓evs_nil, ↓evs_cons, ↓evss_nil, ↓evss_f, ↓evss_t, ↓spr_tup, ↓spr_lst, ↓spr_frz, ↓spr_ti, ↓evo_n, ↓evo_s, ↓evt_n, ↓evt_s, ↓ex_set, ↓ex_par, ↓ex_expr, ↓ex_ret, ↓ex_retN, ↓ex_iff, ↓ex_for, ↓ex_whl, ↓ex_raise, ↓ex_pass, ↓ex_brk, ↓ex_cont, ↓exs_nil, ↓exs_cons, ↓tvf, ↓tvt, ↓asB_bl, ↓asI_i, ↓bop_add, ↓bop_sub, ↓bop_mul, ↓bop_fdv, ↓bop_mod, ↓bop_pow, ↓bop_tt, ↓bop_ll, ↓bop_lm, ↓cop_eq, ↓cop_ne, ↓cop_lt, ↓cop_le, ↓cop_gt, ↓cop_ge, ↓cop_eq_rep, ↓cop_ne_rep, ↓cop_eq_tup, ↓cop_ne_tup, ↓cop_eq_lst, ↓cop_ne_lst, ↓cop_eq_str, ↓cop_ne_str, ↓cop_eq_bl, ↓cop_ne_bl, ↓cop_eq_non, ↓cop_ne_non, ↓cop_is_n, ↓cop_is_b, ↓cop_isnot_n, ↓cop_isnot_b, ↓cop_isin_lst, ↓cop_isin_tup, ↓cop_notin_lst, ↓cop_notin_tup, ↓tru_non, ↓tru_bl, ↓tru_int, ↓tru_tup, ↓tru_lst, ↓seq_tup, ↓itm_tup, ↓seq_lst, ↓itm_lst, ↓seq_frz, ↓itm_frz, ↓itm_itr, ↓seq_ref, ↓itm_ref, ↓seq_ti, ↓itm_ti, ↓onO_s, ↓nth_0, ↓nth_1, ↓nth_2, ↓nth_3, ↓nth_4, ↓nth_5, ↓nth_6, ↓nth_7, ↓nth_8, ↓nth_9, ↓nth_10, ↓nth_11, ↓nth_12, ↓bf_len, ↓bf_abs, ↓bf_max, ↓bf_min, ↓bf_int, ↓bf_intb, ↓bf_dm, ↓bf_gcd, ↓bf_all, ↓bf_any, ↓bf_sum, ↓bf_tup, ↓bf_repl, ↓bf_stri, ↓bf_rept, ↓bf_lst, ↓asg_nm, ↓asg_tp, ↓asg_ls, ↓asg_sub, ↓asg_tg, ↓asg_ti, ↓asgs_nil, ↓asgs_cons, ↓mk_f, ↓mk_t, ↓setn_l, ↓setn_r, ↓isn_lst_true, ↓isn_lst_false, ↓isn_tup_true, ↓isn_tup_false, ↓isn_ref_true, ↓isn_ref_false, ↓cnt_t, ↓rev_t, ↓rev_l, ↓rev_ti, ↓onRef_r, ↓two_tt, ↓two_ll, ↓two_tl, ↓two_ti, ↓still_t, ↓still_ti, ↓still_l, ↓cut_tup, ↓cut_lst, ↓cut_frz, ↓cut_ti, ↓bop_titi, ↓cop_eq_ti, ↓cop_ne_ti, non_non, non_int, ty_int_int, ty_bool_int, ty_str_int, ty_tup_int, ty_lst_int, ty_dict_int, non_bl, ty_int_bl, ty_bool_bl, ty_str_bl, ty_tup_bl, ty_lst_bl, ty_dict_bl, non_str, ty_int_str, ty_bool_str, ty_str_str, ty_tup_str, ty_lst_str, ty_dict_str, non_tup, ty_int_tup, ty_bool_tup, ty_str_tup, ty_tup_tup, ty_lst_tup, ty_dict_tup, non_lst, ty_int_lst, ty_bool_lst, ty_str_lst, ty_tup_lst, ty_lst_lst, ty_dict_lst, ty_int_non, ty_int_ti, ty_bool_non, ty_bool_ti, ty_str_non, ty_str_ti, ty_tup_non, ty_tup_ti, ty_lst_non, ty_lst_ti, ty_dict_non, ty_dict_ti, ty_int_rep, ty_int_dic, ty_bool_rep, ty_bool_dic, ty_str_rep, ty_str_dic, ty_tup_rep, ty_tup_dic, ty_lst_rep, ty_lst_dic, ty_dict_rep, ty_dict_dic, ta_tup, ta_lst, ta_ti, ta_int, ta_bl, ta_str, ta_non, st_0, st_1, st_2, st_3, st_4, st_5, st_6, st_7, st_8, st_9, st_10, st_11, st_12, st_13, st_14, st_15, st_16, st_17, st_18, st_19, st_20, st_21, st_22, st_23, bp_nm, bp_tp, bp_ls, bp_ti, bps_nil, bps_nm, sts_nil, sts_cons, rowr_l, rowr_r, cat_d, wp0_nil, wp_0, wp_1, wp_2, wp_3, wp_4, wp_5, wp_6, wp_7, wp_8, wp_9, wp_10, wp_11, wp_12, wp_13, wp_14, wp_15, wp_16, wp_17, wp_18, wp_19, wp_20, wp_21, wp_22, wp_23, rng_1, rng_2, rng_3, rng_4, rng_5, rng_6, rng_7, brkT, brkF, ti1, ti2, ti3, ti4, ti5, ti6, ti_map, eq_ti, pick, List.cons_append, List.nil_append, List.map_cons, List.map_nil, List.getD_cons_zero, List.getD_cons_succ, Bool.not_true, Bool.not_false]
      exact s_is_wholeA (hg d hd) h2
    · rw [bls_W, onO_s, all_id]
      exact h
  · simp only [q, decide_false, Bool.false_and, ↓ev_v0, ↓ev_v1, ↓ev_v2, ↓ev_v3, ↓ev_v4, ↓ev_v5, ↓ev_v6, ↓ev_v7, ↓ev_v8, ↓ev_v9, ↓ev_v10, ↓ev_v11, ↓ev_v12, ↓ev_v13, ↓ev_v14, ↓ev_v15, ↓ev_v16, ↓ev_v17, ↓ev_v18, ↓ev_v19, ↓ev_v20, ↓ev_v21, ↓ev_v22, ↓ev_v23, ↓ev_cst, ↓ev_glb, ↓ev_bin, ↓ev_neg, ↓ev_not, ↓ev_cmp, ↓ev_cmp2, ↓ev_and, ↓ev_or, ↓ev_ite, ↓ev_tup, ↓ev_lst, ↓ev_idx, ↓ev_slc, ↓ev_call, ↓ev_callk, ↓ev_bi, ↓ev_isi, ↓ev_isi2, ↓ev_lc, ↓ev_lc2, ↓ev_tcat, ↓ev_rng, ↓ev_rng1, ↓ev_zip, ↓ev_enm, ↓ev_cnt, ↓ev_nset, ↓ev_dct, ↓ev_cat, ↓ev_isn, ↓ev_rev, ↓ev_app, ↓evs_nil, ↓evs_cons, ↓evss_nil, ↓evss_f, ↓evss_t, ↓spr_tup, ↓spr_lst, ↓spr_frz, ↓spr_ti, ↓evo_n, ↓evo_s, ↓evt_n, ↓evt_s, ↓ex_set, ↓ex_par, ↓ex_expr, ↓ex_ret, ↓ex_retN, ↓ex_iff, ↓ex_for, ↓ex_whl, ↓ex_raise, ↓ex_pass, ↓ex_brk, ↓ex_cont, ↓exs_nil, ↓exs_cons, ↓tvf, ↓tvt, ↓asB_bl, ↓asI_i, ↓bop_add, ↓bop_sub, ↓bop_mul, ↓bop_fdv, ↓bop_mod, ↓bop_pow, ↓bop_tt, ↓bop_ll, ↓bop_lm, ↓cop_eq, ↓cop_ne, ↓cop_lt, ↓cop_le, ↓cop_gt, ↓cop_ge, ↓cop_eq_rep, ↓cop_ne_rep, ↓cop_eq_tup, ↓cop_ne_tup, ↓cop_eq_lst, ↓cop_ne_lst, ↓cop_eq_str, ↓cop_ne_str, ↓cop_eq_bl, ↓cop_ne_bl, ↓cop_eq_non, ↓cop_ne_non, ↓cop_is_n, ↓cop_is_b, ↓cop_isnot_n, ↓cop_isnot_b, ↓cop_isin_lst, ↓cop_isin_tup, ↓cop_notin_lst, ↓cop_notin_tup, ↓tru_non, ↓tru_bl, ↓tru_int, ↓tru_tup, ↓tru_lst, ↓seq_tup, ↓itm_tup, ↓seq_lst, ↓itm_lst, ↓seq_frz, ↓itm_frz, ↓itm_itr, ↓seq_ref, ↓itm_ref, ↓seq_ti, ↓itm_ti, ↓onO_s, ↓nth_0, ↓nth_1, ↓nth_2, ↓nth_3, ↓nth_4, ↓nth_5, ↓nth_6, ↓nth_7, ↓nth_8, ↓nth_9, ↓nth_10, ↓nth_11, ↓nth_12, ↓bf_len, ↓bf_abs, ↓bf_max, ↓bf_min, ↓bf_int, ↓bf_intb, ↓bf_dm, ↓bf_gcd, ↓bf_all, ↓bf_any, ↓bf_sum, ↓bf_tup, ↓bf_repl, ↓bf_stri, ↓bf_rept, ↓bf_lst, ↓asg_nm, ↓asg_tp, ↓asg_ls, ↓asg_sub, ↓asg_tg, ↓asg_ti, ↓asgs_nil, ↓asgs_cons, ↓mk_f, ↓mk_t, ↓setn_l, ↓setn_r, ↓isn_lst_true, ↓isn_lst_false, ↓isn_tup_true, ↓isn_tup_false, ↓isn_ref_true, ↓isn_ref_false, ↓cnt_t, ↓rev_t, ↓rev_l, ↓rev_ti, ↓onRef_r, ↓two_tt, ↓two_ll, ↓two_tl, ↓two_ti, ↓still_t, ↓still_ti, ↓still_l, ↓cut_tup, ↓cut_lst, ↓cut_frz, ↓cut_ti, ↓bop_titi, ↓cop_eq_ti, ↓cop_ne_ti, non_non, non_int, ty_int_int, ty_bool_int, ty_str_int, ty_tup_int, ty_lst_int, ty_dict_int, non_bl, ty_int_bl, ty_bool_bl, ty_str_bl, ty_tup_bl, ty_lst_bl, ty_dict_bl, non_str, ty_int_str, ty_bool_str, ty_str_str, ty_tup_str, ty_lst_str, ty_dict_str, non_tup, ty_int_tup, ty_bool_tup, ty_str_tup, ty_tup_tup, ty_lst_tup, ty_dict_tup, non_lst, ty_int_lst, ty_bool_lst, ty_str_lst, ty_tup_lst, ty_lst_lst, ty_dict_lst, ty_int_non, ty_int_ti, ty_bool_non, ty_bool_ti, ty_str_non, ty_str_ti, ty_tup_non, ty_tup_ti, ty_lst_non, ty_lst_ti, ty_dict_non, ty_dict_ti, ty_int_rep, ty_int_dic, ty_bool_rep, ty_bool_dic, ty_str_rep, ty_str_dic, ty_tup_rep, ty_tup_dic, ty_lst_rep, ty_lst_dic, ty_dict_rep, ty_dict_dic, ta_tup, ta_lst, ta_ti, ta_int, ta_bl, ta_str, ta_non, st_0, st_1, st_2, st_3, st_4, st_5, st_6, st_7, st_8, st_9, st_10, st_11, st_12, st_13, st_14, st_15, st_16, st_17, st_18, st_19, st_20, st_21, st_22, st_23, bp_nm, bp_tp, bp_ls, bp_ti, bps_nil, bps_nm, sts_nil, sts_cons, rowr_l, rowr_r, cat_d, wp0_nil, wp_0, wp_1, wp_2, wp_3, wp_4, wp_5, wp_6, wp_7, wp_8, wp_9, wp_10, wp_11, wp_12, wp_13, wp_14, wp_15, wp_16, wp_17, wp_18, wp_19, wp_20, wp_21, wp_22, wp_23, rng_1, rng_2, rng_3, rng_4, rng_5, rng_6, rng_7, brkT, brkF, ti1, ti2, ti3, ti4, ti5, ti6, ti_map, eq_ti, pick, List.cons_append, List.nil_append, List.map_cons, List.map_nil, List.getD_cons_zero, List.getD_cons_succ, Bool.not_true, Bool.not_false] at h ⊢
    exact h
end
end FV
set_option Elab.async false
set_option linter.all false
set_option maxRecDepth 100000
/-! Gw: values of all kinds, asked whether they are views. -/
namespace FV
local macro_rules | `(tactic| walk_at "fbt") => `(tactic| first
  | assumption
  | exact bv_x (by assumption)
  | exact bv_y (by assumption)
  | exact bv_z (by assumption)
  | (apply bt_add <;> walk_at "fbt")
  | (apply bt_sub <;> walk_at "fbt")
  | (apply bt_mul <;> walk_at "fbt")
  | (apply bt_neg <;> walk_at "fbt")
  | (apply bt_dt <;> walk_at "fbt")
  | (apply bt_bk <;> walk_at "fbt")
  | (apply bv_cr <;> walk_at "fbt")
  | (apply bv_pv <;> walk_at "fbt")
  | (apply bv_sm <;> walk_at "fbt")
  | (apply bv_ad <;> walk_at "fbt")
  | exact bt_lt (n := 64) (by decide) (by decide)
  | (apply bv_mk <;> walk_at "fbt"))
local macro_rules | `(tactic| walk_at "fs") => `(tactic| first
  | assumption
  | (apply mulOk_bt; walk_at "fbt"; walk_at "fbt"; first | decide | assumption | omega)
  | (refine mulOk_l ?_ ?_ <;> omega)
  | (refine mulOk_r ?_ ?_ <;> omega)
  | walk_at "fbt"
  | omega
  | decide
  | (simp [SZ]; done))
local macro_rules | `(tactic| walk_at "fd") => `(tactic| first
  | rfl
  | exact decide_eq_true (by assumption)
  | exact decide_eq_false (by assumption)
  | decide
  | exact decide_eq_true (by omega)
  | exact decide_eq_false (by omega)
  | (simp [*]; done))
local macro_rules | `(tactic| walk_at "fx") => `(tactic| simp only [lc_app', fc_cons, fc_nil, blk_app, ↓ev_v0, ↓ev_v1, ↓ev_v2, ↓ev_v3, ↓ev_v4, ↓ev_v5, ↓ev_v6, ↓ev_v7, ↓ev_v8, ↓ev_v9, ↓ev_v10, ↓ev_v11, ↓ev_v12, ↓ev_v13, ↓ev_v14, ↓ev_v15, ↓ev_v16, ↓ev_v17, ↓ev_v18, ↓ev_v19, ↓ev_v20, ↓ev_v21, ↓ev_v22, ↓ev_v23, ↓ev_cst, ↓ev_glb, ↓ev_bin, ↓ev_neg, ↓ev_not, ↓ev_cmp, ↓ev_cmp2, ↓ev_and, ↓ev_or, ↓ev_ite, ↓ev_tup, ↓ev_lst, ↓ev_idx, ↓ev_slc, ↓ev_call, ↓ev_callk, ↓ev_bi, ↓ev_isi, ↓ev_isi2, ↓ev_lc, ↓ev_lc2, ↓ev_tcat, ↓ev_rng, ↓ev_rng1, ↓ev_zip, ↓ev_enm, ↓ev_cnt, ↓ev_nset, ↓ev_dct, ↓ev_cat, ↓ev_isn, ↓ev_rev, ↓ev_app, ↓evs_nil, ↓evs_cons, ↓evss_nil, ↓evss_f, ↓evss_t, ↓spr_tup, ↓spr_lst, ↓spr_frz, ↓spr_ti, ↓evo_n, ↓evo_s, ↓evt_n, ↓evt_s, ↓ex_set, ↓ex_par, ↓ex_expr, ↓ex_ret, ↓ex_retN, ↓ex_iff, ↓ex_for, ↓ex_whl, ↓ex_raise, ↓ex_pass, ↓ex_brk, ↓ex_cont, ↓exs_nil, ↓exs_cons, ↓tvf, ↓tvt, ↓asB_bl, ↓asI_i, ↓bop_add, ↓bop_sub, ↓bop_mul, ↓bop_fdv, ↓bop_mod, ↓bop_pow, ↓bop_tt, ↓bop_ll, ↓bop_lm, ↓cop_eq, ↓cop_ne, ↓cop_lt, ↓cop_le, ↓cop_gt, ↓cop_ge, ↓cop_eq_rep, ↓cop_ne_rep, ↓cop_eq_tup, ↓cop_ne_tup, ↓cop_eq_lst, ↓cop_ne_lst, ↓cop_eq_str, ↓cop_ne_str, ↓cop_eq_bl, ↓cop_ne_bl, ↓cop_eq_non, ↓cop_ne_non, ↓cop_is_n, ↓cop_is_b, ↓cop_isnot_n, ↓cop_isnot_b, ↓cop_isin_lst, ↓cop_isin_tup, ↓cop_notin_lst, ↓cop_notin_tup, ↓tru_non, ↓tru_bl, ↓tru_int, ↓tru_tup, ↓tru_lst, ↓seq_tup, ↓itm_tup, ↓seq_lst, ↓itm_lst, ↓seq_frz, ↓itm_frz, ↓itm_itr, ↓seq_ref, ↓itm_ref, ↓seq_ti, ↓itm_ti, ↓onO_s, ↓nth_0, ↓nth_1, ↓nth_2, ↓nth_3, ↓nth_4, ↓nth_5, ↓nth_6, ↓nth_7, ↓nth_8, ↓nth_9, ↓nth_10, ↓nth_11, ↓nth_12, ↓bf_len, ↓bf_abs, ↓bf_max, ↓bf_min, ↓bf_int, ↓bf_intb, ↓bf_dm, ↓bf_gcd, ↓bf_all, ↓bf_any, ↓bf_sum, ↓bf_tup, ↓bf_repl, ↓bf_stri, ↓bf_rept, ↓bf_lst, ↓asg_nm, ↓asg_tp, ↓asg_ls, ↓asg_sub, ↓asg_tg, ↓asg_ti, ↓asgs_nil, ↓asgs_cons, ↓mk_f, ↓mk_t, ↓setn_l, ↓setn_r, ↓isn_lst_true, ↓isn_lst_false, ↓isn_tup_true, ↓isn_tup_false, ↓isn_ref_true, ↓isn_ref_false, ↓cnt_t, ↓rev_t, ↓rev_l, ↓rev_ti, ↓onRef_r, ↓two_tt, ↓two_ll, ↓two_tl, ↓two_ti, ↓still_t, ↓still_ti, ↓still_l, ↓cut_tup, ↓cut_lst, ↓cut_frz, ↓cut_ti, ↓bop_titi, ↓cop_eq_ti, ↓cop_ne_ti, non_non, non_int, ty_int_int, ty_bool_int, ty_str_int, ty_tup_int, ty_lst_int, ty_dict_int, non_bl, ty_int_bl, ty_bool_bl, ty_str_bl, ty_tup_bl, ty_lst_bl, ty_dict_bl, non_str, ty_int_str, ty_bool_str, ty_str_str, ty_tup_str, ty_lst_str, ty_dict_str, non_tup, ty_int_tup, ty_bool_tup, ty_str_tup, ty_tup_tup, ty_lst_tup, ty_dict_tup, non_lst, ty_int_lst, ty_bool_lst, ty_str_lst, ty_tup_lst, ty_lst_lst, ty_dict_lst, ty_int_non, ty_int_ti, ty_bool_non, ty_bool_ti, ty_str_non, ty_str_ti, ty_tup_non, ty_tup_ti, ty_lst_non, ty_lst_ti, ty_dict_non, ty_dict_ti, ty_int_rep, ty_int_dic, ty_bool_rep, ty_bool_dic, ty_str_rep, ty_str_dic, ty_tup_rep, ty_tup_dic, ty_lst_rep, ty_lst_dic, ty_dict_rep, ty_dict_dic, ta_tup, ta_lst, ta_ti, ta_int, ta_bl, ta_str, ta_non, st_0, st_1, st_2, st_3, st_4, st_5, st_6, st_7, st_8, st_9, st_10, st_11, st_12, st_13, st_14, st_15, st_16, st_17, st_18, st_19, st_20, st_21, st_22, st_23, bp_nm, bp_tp, bp_ls, bp_ti, bps_nil, bps_nm, sts_nil, sts_cons, rowr_l, rowr_r, cat_d, wp0_nil, wp_0, wp_1, wp_2, wp_3, wp_4, wp_5, wp_6, wp_7, wp_8, wp_9, wp_10, wp_11, wp_12, wp_13, wp_14, wp_15, wp_16, wp_17, wp_18, wp_19, wp_20, wp_21, wp_22, wp_23, rng_1, rng_2, rng_3, rng_4, rng_5, rng_6, rng_7, brkT, brkF, ti1, ti2, ti3, ti4, ti5, ti6, ti_map, eq_ti, pick, List.cons_append, List.nil_append, List.map_cons, List.map_nil, List.getD_cons_zero, List.getD_cons_succ, Bool.not_true, Bool.not_false, ↓seq_v, ↓seq_f, ↓itm_v, ↓itm_f, ↓asg_v, ↓asg_f, bp_v, bp_f, bps_tv, bps_tf, ↓two_vv, ↓two_vt, ↓two_tv, ↓two_ff, ↓still_v, ↓cut_v, ↓cop_eq_v, ↓cop_ne_v, ↓cop_eq_f, ↓cop_ne_f, inD_n, inD_c, pures_c, pures_n, pure_vT, pure_fT, pure_iT, pure_bT, pure_nT, eq_v, eq_f, Bool.or_false, and_self, ↓tru_v, non_v, non_f, ty_v, ty_f, ta_v, ta_f, ↓bop_vv, ↓bop_6v, ↓cut_9a, ↓cut_9b, ↓cut_9c, tup3, tup2, v_ti, f_ti, zipD, wp_cc, true_and, decide_true, decide_false, eq_self, sz_0, sz_1, sz_2, sz_3, sz_4, sz_5, sz_6, sz_7, sz_8, sz_9, sz_10, sz_11, sz_12, enm_1, enm_2, enm_3, enm_4, enm_5, enm_6, enm_7, enm_8, enm_9, enm_10, len_1, len_2, len_3, len_4, len_5, len_6, len_7, len_8, len_9, len_10])
local macro_rules | `(tactic| walk_at "fw") => `(tactic| simp only [lc_app', fc_cons, fc_nil, fw_cons, fw_nil, blk_app, ↓ev_v0, ↓ev_v1, ↓ev_v2, ↓ev_v3, ↓ev_v4, ↓ev_v5, ↓ev_v6, ↓ev_v7, ↓ev_v8, ↓ev_v9, ↓ev_v10, ↓ev_v11, ↓ev_v12, ↓ev_v13, ↓ev_v14, ↓ev_v15, ↓ev_v16, ↓ev_v17, ↓ev_v18, ↓ev_v19, ↓ev_v20, ↓ev_v21, ↓ev_v22, ↓ev_v23, ↓ev_cst, ↓ev_glb, ↓ev_bin, ↓ev_neg, ↓ev_not, ↓ev_cmp, ↓ev_cmp2, ↓ev_and, ↓ev_or, ↓ev_ite, ↓ev_tup, ↓ev_lst, ↓ev_idx, ↓ev_slc, ↓ev_call, ↓ev_callk, ↓ev_bi, ↓ev_isi, ↓ev_isi2, ↓ev_lc, ↓ev_lc2, ↓ev_tcat, ↓ev_rng, ↓ev_rng1, ↓ev_zip, ↓ev_enm, ↓ev_cnt, ↓ev_nset, ↓ev_dct, ↓ev_cat, ↓ev_isn, ↓ev_rev, ↓ev_app, ↓evs_nil, ↓evs_cons, ↓evss_nil, ↓evss_f, ↓evss_t, ↓spr_tup, ↓spr_lst, ↓spr_frz, ↓spr_ti, ↓evo_n, ↓evo_s, ↓evt_n, ↓evt_s, ↓ex_set, ↓ex_par, ↓ex_expr, ↓ex_ret, ↓ex_retN, ↓ex_iff, ↓ex_for, ↓ex_whl, ↓ex_raise, ↓ex_pass, ↓ex_brk, ↓ex_cont, ↓exs_nil, ↓exs_cons, ↓tvf, ↓tvt, ↓asB_bl, ↓asI_i, ↓bop_add, ↓bop_sub, ↓bop_mul, ↓bop_fdv, ↓bop_mod, ↓bop_pow, ↓bop_tt, ↓bop_ll, ↓bop_lm, ↓cop_eq, ↓cop_ne, ↓cop_lt, ↓cop_le, ↓cop_gt, ↓cop_ge, ↓cop_eq_rep, ↓cop_ne_rep, ↓cop_eq_tup, ↓cop_ne_tup, ↓cop_eq_lst, ↓cop_ne_lst, ↓cop_eq_str, ↓cop_ne_str, ↓cop_eq_bl, ↓cop_ne_bl, ↓cop_eq_non, ↓cop_ne_non, ↓cop_is_n, ↓cop_is_b, ↓cop_isnot_n, ↓cop_isnot_b, ↓cop_isin_lst, ↓cop_isin_tup, ↓cop_notin_lst, ↓cop_notin_tup, ↓tru_non, ↓tru_bl, ↓tru_int, ↓tru_tup, ↓tru_lst, ↓seq_tup, ↓itm_tup, ↓seq_lst, ↓itm_lst, ↓seq_frz, ↓itm_frz, ↓itm_itr, ↓seq_ref, ↓itm_ref, ↓seq_ti, ↓itm_ti, ↓onO_s, ↓nth_0, ↓nth_1, ↓nth_2, ↓nth_3, ↓nth_4, ↓nth_5, ↓nth_6, ↓nth_7, ↓nth_8, ↓nth_9, ↓nth_10, ↓nth_11, ↓nth_12, ↓bf_len, ↓bf_abs, ↓bf_max, ↓bf_min, ↓bf_int, ↓bf_intb, ↓bf_dm, ↓bf_gcd, ↓bf_all, ↓bf_any, ↓bf_sum, ↓bf_tup, ↓bf_repl, ↓bf_stri, ↓bf_rept, ↓bf_lst, ↓asg_nm, ↓asg_tp, ↓asg_ls, ↓asg_sub, ↓asg_tg, ↓asg_ti, ↓asgs_nil, ↓asgs_cons, ↓mk_f, ↓mk_t, ↓setn_l, ↓setn_r, ↓isn_lst_true, ↓isn_lst_false, ↓isn_tup_true, ↓isn_tup_false, ↓isn_ref_true, ↓isn_ref_false, ↓cnt_t, ↓rev_t, ↓rev_l, ↓rev_ti, ↓onRef_r, ↓two_tt, ↓two_ll, ↓two_tl, ↓two_ti, ↓still_t, ↓still_ti, ↓still_l, ↓cut_tup, ↓cut_lst, ↓cut_frz, ↓cut_ti, ↓bop_titi, ↓cop_eq_ti, ↓cop_ne_ti, non_non, non_int, ty_int_int, ty_bool_int, ty_str_int, ty_tup_int, ty_lst_int, ty_dict_int, non_bl, ty_int_bl, ty_bool_bl, ty_str_bl, ty_tup_bl, ty_lst_bl, ty_dict_bl, non_str, ty_int_str, ty_bool_str, ty_str_str, ty_tup_str, ty_lst_str, ty_dict_str, non_tup, ty_int_tup, ty_bool_tup, ty_str_tup, ty_tup_tup, ty_lst_tup, ty_dict_tup, non_lst, ty_int_lst, ty_bool_lst, ty_str_lst, ty_tup_lst, ty_lst_lst, ty_dict_lst, ty_int_non, ty_int_ti, ty_bool_non, ty_bool_ti, ty_str_non, ty_str_ti, ty_tup_non, ty_tup_ti, ty_lst_non, ty_lst_ti, ty_dict_non, ty_dict_ti, ty_int_rep, ty_int_dic, ty_bool_rep, ty_bool_dic, ty_str_rep, ty_str_dic, ty_tup_rep, ty_tup_dic, ty_lst_rep, ty_lst_dic, ty_dict_rep, ty_dict_dic, ta_tup, ta_lst, ta_ti, ta_int, ta_bl, ta_str, ta_non, st_0, st_1, st_2, st_3, st_4, st_5, st_6, st_7, st_8, st_9, st_10, st_11, st_12, st_13, st_14, st_15, st_16, st_17, st_18, st_19, st_20, st_21, st_22, st_23, bp_nm, bp_tp, bp_ls, bp_ti, bps_nil, bps_nm, sts_nil, sts_cons, rowr_l, rowr_r, cat_d, wp0_nil, wp_0, wp_1, wp_2, wp_3, wp_4, wp_5, wp_6, wp_7, wp_8, wp_9, wp_10, wp_11, wp_12, wp_13, wp_14, wp_15, wp_16, wp_17, wp_18, wp_19, wp_20, wp_21, wp_22, wp_23, rng_1, rng_2, rng_3, rng_4, rng_5, rng_6, rng_7, brkT, brkF, ti1, ti2, ti3, ti4, ti5, ti6, ti_map, eq_ti, pick, List.cons_append, List.nil_append, List.map_cons, List.map_nil, List.getD_cons_zero, List.getD_cons_succ, Bool.not_true, Bool.not_false, ↓seq_v, ↓seq_f, ↓itm_v, ↓itm_f, ↓asg_v, ↓asg_f, bp_v, bp_f, bps_tv, bps_tf, ↓two_vv, ↓two_vt, ↓two_tv, ↓two_ff, ↓still_v, ↓cut_v, ↓cop_eq_v, ↓cop_ne_v, ↓cop_eq_f, ↓cop_ne_f, inD_n, inD_c, pures_c, pures_n, pure_vT, pure_fT, pure_iT, pure_bT, pure_nT, eq_v, eq_f, Bool.or_false, and_self, ↓tru_v, non_v, non_f, ty_v, ty_f, ta_v, ta_f, ↓bop_vv, ↓bop_6v, ↓cut_9a, ↓cut_9b, ↓cut_9c, tup3, tup2, v_ti, f_ti, zipD, wp_cc, true_and, decide_true, decide_false, eq_self, sz_0, sz_1, sz_2, sz_3, sz_4, sz_5, sz_6, sz_7, sz_8, sz_9, sz_10, sz_11, sz_12, enm_1, enm_2, enm_3, enm_4, enm_5, enm_6, enm_7, enm_8, enm_9, enm_10, len_1, len_2, len_3, len_4, len_5, len_6, len_7, len_8, len_9, len_10])
local macro_rules | `(tactic| walk_at "f1") => `(tactic| first
  | assumption
  | (with_reducible apply And.intro; walk_at "fs")
  | (with_reducible apply brk_t; walk_at "fd")
  | (with_reducible apply brk_f; walk_at "fd")
  | (with_reducible apply s_is_wholeA; walk_at "fs")
  | (with_reducible apply s_are_wholeA; walk_at "fs"; walk_at "fs")
  | (with_reducible apply s_is_tripleA; walk_at "fs")
  | (with_reducible apply s_law_is_tripleA; walk_at "fs")
  | (with_reducible apply s_is_on4; walk_at "fs"; walk_at "fs"; walk_at "fs"; walk_at "fs"; walk_at "fs")
  | (with_reducible apply s_law_plain4; walk_at "fs"; walk_at "fs"; walk_at "fs")
  | (with_reducible apply s_law_cross4; walk_at "fs"; walk_at "fs"; walk_at "fs")
  | (with_reducible apply s_law_dot4; walk_at "fs"; walk_at "fs"; walk_at "fs")
  | (with_reducible apply s_law_block4; walk_at "fs"; walk_at "fs"; walk_at "fs"; walk_at "fs")
  | (with_reducible apply s_is_triple4; walk_at "fs"; walk_at "fs")
  | (with_reducible apply s_law_is_frame; walk_at "fs"; walk_at "fs"; walk_at "fs"; walk_at "fs"; walk_at "fs"; walk_at "fs"; walk_at "fs"; walk_at "fs"; walk_at "fs"; walk_at "fs")
  | (with_reducible apply s_wrong4f; walk_at "fs"; walk_at "fs"; walk_at "fs"; walk_at "fs"; walk_at "fs"; walk_at "fs"; walk_at "fs"; walk_at "fs"; walk_at "fs"; walk_at "fs"; walk_at "fs"; walk_at "fs")
  | (with_reducible apply s_is_figure4f; walk_at "fs")
  | (with_reducible apply s_is_general4f; walk_at "fs"; walk_at "fs"; walk_at "fs"; walk_at "fs"; walk_at "fs"; walk_at "fs")
  | (with_reducible apply s_check_frame4f; walk_at "fs"; walk_at "fs"; walk_at "fs"; walk_at "fs"; walk_at "fs"; walk_at "fs")
  | (with_reducible apply s_parts_of3; walk_at "fs"; walk_at "fs"; walk_at "fs"; walk_at "fs"; walk_at "fs")
  | (with_reducible apply s_ticket; walk_at "fs"; walk_at "fs"; walk_at "fs"; walk_at "fs"; walk_at "fs"; walk_at "fs"; walk_at "fs"; walk_at "fs")
  | (with_reducible apply s_is_view_of_v; walk_at "fs"; walk_at "fs"; walk_at "fs")
  | (with_reducible apply s_check_view_v; walk_at "fs"; walk_at "fs"; walk_at "fs")
  | (with_reducible apply s_table_times_v; walk_at "fs"; walk_at "fs"; walk_at "fs")
  | (with_reducible apply s_turned_table_v)
  | (with_reducible apply s_adjugate_v; walk_at "fs"; walk_at "fs")
  | (with_reducible apply s_turn_line_v; walk_at "fs"; walk_at "fs"; walk_at "fs"; walk_at "fs"; walk_at "fs")
  | (with_reducible apply s_turned_line_v; walk_at "fs"; walk_at "fs"; walk_at "fs"; walk_at "fs"; walk_at "fs")
  | (with_reducible apply s_place_for_v; walk_at "fs"; walk_at "fs"; walk_at "fs"; walk_at "fs")
  | (with_reducible apply s_minor_v; walk_at "fs"; walk_at "fs"; walk_at "fs")
  | (with_reducible apply s_parts_by_v; walk_at "fs"; walk_at "fs"; walk_at "fs"; walk_at "fs"; walk_at "fs")
  | (with_reducible apply s_ratio_by_v; walk_at "fs"; walk_at "fs"; walk_at "fs"; walk_at "fs"; walk_at "fs"; walk_at "fs"; walk_at "fs")
  | (with_reducible apply s_check_points4; walk_at "fs"; walk_at "fs"; walk_at "fs"; walk_at "fs")
  | (with_reducible apply s_check_points3; walk_at "fs"; walk_at "fs"; walk_at "fs")
  | (with_reducible apply s_do_fit4; walk_at "fs"; walk_at "fs"; walk_at "fs"; walk_at "fs"; walk_at "fs"; walk_at "fs"; walk_at "fs"; walk_at "fs"; walk_at "fs"; walk_at "fs")
  | (with_reducible apply s_do_fit3; walk_at "fs"; walk_at "fs"; walk_at "fs"; walk_at "fs"; walk_at "fs"; walk_at "fs"; walk_at "fs"; walk_at "fs")
  | (with_reducible apply s_check_fit4; walk_at "fs"; walk_at "fs"; walk_at "fs"; walk_at "fs"; walk_at "fs"; walk_at "fs"; walk_at "fs"; walk_at "fs"; walk_at "fs"; walk_at "fs")
  | (with_reducible apply s_check_fit3; walk_at "fs"; walk_at "fs"; walk_at "fs"; walk_at "fs"; walk_at "fs"; walk_at "fs"; walk_at "fs"; walk_at "fs")
  | (with_reducible apply s_double_ratio_v; walk_at "fs"; walk_at "fs"; walk_at "fs"; walk_at "fs"; walk_at "fs"; walk_at "fs"; walk_at "fs")
  | (with_reducible apply s_line_ratio_v; walk_at "fs"; walk_at "fs"; walk_at "fs"; walk_at "fs"; walk_at "fs"; walk_at "fs"; walk_at "fs")
  | (with_reducible apply s_cross_v; walk_at "fs"; walk_at "fs"; walk_at "fs")
  | (with_reducible apply s_dot_v; walk_at "fs"; walk_at "fs"; walk_at "fs")
  | (with_reducible apply s_block_v; walk_at "fs"; walk_at "fs"; walk_at "fs"; walk_at "fs")
  | (with_reducible apply s_added_v)
  | (with_reducible apply s_scaled_v; walk_at "fs"; walk_at "fs"; walk_at "fs")
  | (with_reducible apply s_plain_of_v; walk_at "fs"; walk_at "fs"; walk_at "fs")
  | (with_reducible apply s_plain_of_f; walk_at "fs"; walk_at "fs"; walk_at "fs"; walk_at "fs")
  | (with_reducible apply s_is_zero_v)
  | (with_reducible apply s_is_triple_v; walk_at "fs")
  | (with_reducible apply s_check_point_v; walk_at "fs")
  | (with_reducible apply s_check_straight_v; walk_at "fs")
  | (with_reducible apply s_check_other_point_v; walk_at "fs"; walk_at "fs")
  | (with_reducible apply s_check_other_straight_v; walk_at "fs"; walk_at "fs")
  | (with_reducible apply s_join_v; walk_at "fs"; walk_at "fs"; walk_at "fs"; walk_at "fs"; walk_at "fs"; walk_at "fs")
  | (with_reducible apply s_meet_v; walk_at "fs"; walk_at "fs"; walk_at "fs"; walk_at "fs"; walk_at "fs"; walk_at "fs")
  | (with_reducible apply s_cross; walk_at "fs"; walk_at "fs"; walk_at "fs")
  | (with_reducible apply s_dot; walk_at "fs"; walk_at "fs"; walk_at "fs")
  | (with_reducible apply s_block; walk_at "fs"; walk_at "fs"; walk_at "fs"; walk_at "fs"; walk_at "fs"; walk_at "fs")
  | (with_reducible apply s_added)
  | (with_reducible apply s_scaled; walk_at "fs"; walk_at "fs")
  | (with_reducible apply s_law_dot; walk_at "fs"; walk_at "fs"; walk_at "fs")
  | (with_reducible apply s_law_plain_v2; walk_at "fs"; walk_at "fs"; walk_at "fs")
  | (with_reducible apply s_divisor_of)
  | (with_reducible apply s_first_live)
  | (with_reducible apply s_plain_of; walk_at "fs"; walk_at "fs"; walk_at "fs")
  | (with_reducible apply s_is_zero)
  | (with_reducible apply s_made_plain; walk_at "fs"; walk_at "fs"; walk_at "fs")
  | (with_reducible apply s_is_plain; walk_at "fs"; walk_at "fs"; walk_at "fs")
  | (with_reducible apply s_is_triple; walk_at "fs"; walk_at "fs")
  | (with_reducible apply s_is_point; walk_at "fs"; walk_at "fs")
  | (with_reducible apply s_law_divisor)
  | (with_reducible apply s_law_plain; walk_at "fs"; walk_at "fs"; walk_at "fs")
  | (with_reducible apply s_law_is_triple; walk_at "fs"; walk_at "fs"; walk_at "fs")
  | (with_reducible apply s_is_whole)
  | (with_reducible apply s_is_tuple_up_to)
  | (with_reducible apply s_is_tuple_of)
  | (with_reducible apply s_are_whole; walk_at "fs")
  | (with_reducible apply s_law_cross; walk_at "fs"; walk_at "fs"; walk_at "fs"))
local macro_rules | `(tactic| walk_at "go") => `(tactic| repeat (first | walk_at "f1" | walk_at "fw"))
local macro_rules | `(tactic| walk_at "g0") => `(tactic| repeat (first | walk_at "f1" | walk_at "fx"))
def rowOk : D → Bool
  | .tup es => decide ((es.length : Int) = 3)
  | _ => false
def rowInt : D → Bool
  | .tup es => decide ((es.length : Int) = 3) && es.all isW
  | _ => false
def Gdr (d : D) : Prop := Gdv d ∧ (rowOk d = true ∨ pure? 39 d = true)
def Gdw (d : D) : Prop := gkd d = true ∧ ∀ ds, d = .tup ds → ds.length ≤ 20 ∧ ∀ x ∈ ds, Gdr x
instance dec_vw4 {m : M3} : Decidable (Vw m) := inferInstanceAs (Decidable (_ ∧ _))
def isVd : D → Bool
  | .tup ds => (match rws? ds with
    | some [[a, b, c], [d, e, f], [g, h, i]] => decide (Vw ⟨⟨a, b, c⟩, ⟨d, e, f⟩, ⟨g, h, i⟩⟩)
    | _ => false)
  | _ => false
theorem rws3 {a b c : T3} : rws? [vD a, vD b, vD c] = some [a.l, b.l, c.l] := nr rfl
theorem isV_m {m : M3} : isVd (mD m) = decide (Vw m) := by
  show (match rws? [vD m.a, vD m.b, vD m.c] with
    | some [[a, b, c], [d, e, f], [g, h, i]] => decide (Vw ⟨⟨a, b, c⟩, ⟨d, e, f⟩, ⟨g, h, i⟩⟩)
    | _ => false) = _
  rw [rws3]
  rfl
theorem rws_eq : ∀ {ds : List D} {ks : List (List Int)}, rws? ds = some ks → ds = ks.map fun is => .tup (is.map D.int)
  | [], ks, h => by cases h; rfl
  | .tup es :: ds, ks, h => by
    have h : (match ints? es with | some is => (rws? ds).map (is :: ·) | none => none) = some ks := h
    cases e : ints? es with
    | none => rw [e] at h; cases h
    | some is =>
      rw [e] at h
      have h : (rws? ds).map (is :: ·) = some ks := h
      cases e2 : rws? ds with
      | none => rw [e2] at h; cases h
      | some js =>
        rw [e2] at h
        cases h
        rw [rws_eq e2, ints_eq e]; rfl
  | .int _ :: _, _, h => by cases h
  | .non :: _, _, h => by cases h
  | .bl _ :: _, _, h => by cases h
  | .str _ :: _, _, h => by cases h
  | .lst _ :: _, _, h => by cases h
  | .frz _ :: _, _, h => by cases h
  | .ref _ :: _, _, h => by cases h
  | .fn _ :: _, _, h => by cases h
  | .exc _ _ :: _, _, h => by cases h
  | .itr _ :: _, _, h => by cases h
  | .rep _ :: _, _, h => by cases h
  | .dic :: _, _, h => by cases h
theorem isV_rows {ds : List D} (h : isVd (.tup ds) = true) : ∃ m : M3, ds = [vD m.a, vD m.b, vD m.c] := by
  simp only [isVd] at h
  split at h
  · rename_i a b c d e f g i j e0
    exact ⟨⟨⟨a, b, c⟩, ⟨d, e, f⟩, ⟨g, i, j⟩⟩, rws_eq e0⟩
  · cases h
theorem isV_f {ds : List D} (h : (ds.length : Int) ≠ 3 ∨ ds.all rowInt = false) : isVd (.tup ds) = false := by
  cases e : isVd (.tup ds) with
  | false => rfl
  | true =>
    obtain ⟨m, rfl⟩ := isV_rows e
    rcases h with h | h
    · exact absurd rfl h
    · cases h
theorem row_v {d : D} (h : rowInt d = true) : ∃ u : T3, d = vD u := by
  cases d <;> try (cases h; done)
  rename_i es
  have h : (decide ((es.length : Int) = 3) && es.all isW) = true := h
  rw [Bool.and_eq_true] at h
  have h1 := of_decide_eq_true h.1
  cases e : ints? es with
  | none => rw [ints_all e] at h; cases h.2
  | some is =>
    have e1 := ints_eq e
    subst e1
    rw [List.length_map] at h1
    match is, h1 with
    | [a, b, c], _ => exact ⟨⟨a, b, c⟩, rfl⟩
theorem rows_m {ds : List D} (h1 : (ds.length : Int) = 3) (h2 : ds.all rowInt = true) : ∃ m : M3, ds = [vD m.a, vD m.b, vD m.c] := by
  match ds, h1, h2 with
  | [x, y, z], _, h2 =>
    have h2 : (rowInt x && (rowInt y && (rowInt z && true))) = true := h2
    simp only [Bool.and_eq_true] at h2
    obtain ⟨a, rfl⟩ := row_v h2.1
    obtain ⟨b, rfl⟩ := row_v h2.2.1
    obtain ⟨c, rfl⟩ := row_v h2.2.2.1
    exact ⟨⟨a, b, c⟩, rfl⟩
theorem bls_R : ∀ {ds : List D}, bls? (ds.map fun d => D.bl (rowInt d)) = some (ds.map rowInt)
  | [] => rfl
  | d :: ds => by simp only [List.map_cons, bls?, bls_R, Option.map_some]
theorem all_idR : ∀ {ds : List D}, (ds.map rowInt).all id = ds.all rowInt
  | [] => rfl
  | d :: ds => by simp only [List.map_cons, List.all_cons, id, all_idR]
theorem fcF {one : D → Store → (List D → Store → Prop) → Prop} {p : D → Bool} : ∀ {ds : List D} {S : Store} {k : List D → Store → Prop}, (∀ d ∈ ds, ∀ k2 : List D → Store → Prop, k2 (if p d = true then [d] else []) S → one d S k2) → k (ds.filter p) S → forC none one ds S k
  | [], S, k, _, h => h
  | d :: ds, S, k, w, h => w d List.mem_cons_self _ (fcF (fun e he => w e (List.mem_cons_of_mem _ he)) (by
      rw [List.filter_cons] at h
      cases e : p d with
      | true => rw [e] at h; exact h
      | false => rw [e] at h; exact h))
theorem row_t {d : D} (h : rowOk d = true) : ∃ a b c, d = .tup [a, b, c] := by
  cases d <;> try (cases h; done)
  rename_i es
  have h : (es.length : Int) = 3 := of_decide_eq_true h
  match es, h with
  | [a, b, c], _ => exact ⟨a, b, c, rfl⟩
theorem row_brk {es : List D} {S : Store} {k2 : List D → Store → Prop} (h2 : k2 (if (!rowOk (.tup es)) = true then [.tup es] else []) S) : brk (!decide ((es.length : Int) = 3)) (k2 [.tup es] S) (k2 [] S) := by
  have : rowOk (.tup es) = decide ((es.length : Int) = 3) := rfl
  rw [this] at h2
  cases e : decide ((es.length : Int) = 3) with
  | true => rw [e] at h2; exact h2
  | false => rw [e] at h2; exact h2
theorem pures_of {m : Nat} : ∀ {ds : List D}, (∀ d ∈ ds, pure? m d = true) → pures? m ds = true
  | [], _ => by cases m <;> rfl
  | d :: ds, h => by
    unfold pures?
    rw [h d List.mem_cons_self, pures_of fun e he => h e (List.mem_cons_of_mem _ he)]; rfl
theorem gdv_bv {u : T3} (h : Gdv (vD u)) : bv 200 u := by
  have := (h.2 _ rfl).2
  exact ⟨(this (.int u.x) (by simp)).2 _ rfl, (this (.int u.y) (by simp)).2 _ rfl, (this (.int u.z) (by simp)).2 _ rfl⟩
section
variable {n : Nat} {S : Store} {k X : D → Store → Prop} {u v w x y z p q r s : T3} {a b c : Nat} {l : Nat} {d : D} {ds : List D}
theorem s_is_plainG {ns : List Int} (hz : ns.length ≤ SZ) {a : Int} (hl : (ns.length : Int) = a) (h : k (.bl (decide (Prim ns))) S) : CT (n + 4) i_is_plain [ti ns, .int a] S k X := by
  refine c_is_plain ?_
  simp only [f_is_plain, ↓ev_v0, ↓ev_v1, ↓ev_v2, ↓ev_v3, ↓ev_v4, ↓ev_v5, ↓ev_v6, ↓ev_v7, ↓ev_v8, ↓ev_v9, ↓ev_v10, ↓ev_v11, ↓ev_v12, ↓ev_v13, ↓ev_v14, ↓ev_v15, ↓ev_v16, ↓ev_v17, ↓ev_v18, ↓ev_v19, ↓ev_v20, ↓ev_v21, ↓ev_v22, ↓ev_v23, ↓ev_cst, ↓ev_glb, ↓ev_bin, ↓ev_neg, ↓ev_not, ↓ev_cmp, ↓ev_cmp2, ↓ev_and, ↓ev_or, ↓ev_ite, ↓ev_tup, ↓ev_lst, ↓ev_idx, ↓ev_slc, ↓ev_call, ↓ev_callk, ↓ev_bi, ↓ev_isi, ↓ev_isi2, ↓ev_lc, ↓ev_lc2, ↓ev_tcat, ↓ev_rng, ↓ev_rng1, ↓ev_zip, ↓ev_enm, ↓ev_cnt, ↓ev_nset, ↓ev_dct, ↓ev_cat, ↓ev_isn, ↓ev_rev, ↓ev_app, ↓evs_nil, ↓evs_cons, ↓evss_nil, ↓evss_f, ↓evss_t, ↓spr_tup, ↓spr_lst, ↓spr_frz, ↓spr_ti, ↓evo_n, ↓evo_s, ↓evt_n, ↓evt_s, ↓ex_set, ↓ex_par, ↓ex_expr, ↓ex_ret, ↓ex_retN, ↓ex_iff, ↓ex_for, ↓ex_whl, ↓ex_raise, ↓ex_pass, ↓ex_brk, ↓ex_cont, ↓exs_nil, ↓exs_cons, ↓tvf, ↓tvt, ↓asB_bl, ↓asI_i, ↓bop_add, ↓bop_sub, ↓bop_mul, ↓bop_fdv, ↓bop_mod, ↓bop_pow, ↓bop_tt, ↓bop_ll, ↓bop_lm, ↓cop_eq, ↓cop_ne, ↓cop_lt, ↓cop_le, ↓cop_gt, ↓cop_ge, ↓cop_eq_rep, ↓cop_ne_rep, ↓cop_eq_tup, ↓cop_ne_tup, ↓cop_eq_lst, ↓cop_ne_lst, ↓cop_eq_str, ↓cop_ne_str, ↓cop_eq_bl, ↓cop_ne_bl, ↓cop_eq_non, ↓cop_ne_non, ↓cop_is_n, ↓cop_is_b, ↓cop_isnot_n, ↓cop_isnot_b, ↓cop_isin_lst, ↓cop_isin_tup, ↓cop_notin_lst, ↓cop_notin_tup, ↓tru_non, ↓tru_bl, ↓tru_int, ↓tru_tup, ↓tru_lst, ↓seq_tup, ↓itm_tup, ↓seq_lst, ↓itm_lst, ↓seq_frz, ↓itm_frz, ↓itm_itr, ↓seq_ref, ↓itm_ref, ↓seq_ti, ↓itm_ti, ↓onO_s, ↓nth_0, ↓nth_1, ↓nth_2, ↓nth_3, ↓nth_4, ↓nth_5, ↓nth_6, ↓nth_7, ↓nth_8, ↓nth_9, ↓nth_10, ↓nth_11, ↓nth_12, ↓bf_len, ↓bf_abs, ↓bf_max, ↓bf_min, ↓bf_int, ↓bf_intb, ↓bf_dm, ↓bf_gcd, ↓bf_all, ↓bf_any, ↓bf_sum, ↓bf_tup, ↓bf_repl, ↓bf_stri, ↓bf_rept, ↓bf_lst, ↓asg_nm, ↓asg_tp, ↓asg_ls, ↓asg_sub, ↓asg_tg, ↓asg_ti, ↓asgs_nil, ↓asgs_cons, ↓mk_f, ↓mk_t, ↓setn_l, ↓setn_r, ↓isn_lst_true, ↓isn_lst_false, ↓isn_tup_true, ↓isn_tup_false, ↓isn_ref_true, ↓isn_ref_false, ↓cnt_t, ↓rev_t, ↓rev_l, ↓rev_ti, ↓onRef_r, ↓two_tt, ↓two_ll, ↓two_tl, ↓two_ti, ↓still_t, ↓still_ti, ↓still_l, ↓cut_tup, ↓cut_lst, ↓cut_frz, ↓cut_ti, ↓bop_titi, ↓cop_eq_ti, ↓cop_ne_ti, non_non, non_int, ty_int_int, ty_bool_int, ty_str_int, ty_tup_int, ty_lst_int, ty_dict_int, non_bl, ty_int_bl, ty_bool_bl, ty_str_bl, ty_tup_bl, ty_lst_bl, ty_dict_bl, non_str, ty_int_str, ty_bool_str, ty_str_str, ty_tup_str, ty_lst_str, ty_dict_str, non_tup, ty_int_tup, ty_bool_tup, ty_str_tup, ty_tup_tup, ty_lst_tup, ty_dict_tup, non_lst, ty_int_lst, ty_bool_lst, ty_str_lst, ty_tup_lst, ty_lst_lst, ty_dict_lst, ty_int_non, ty_int_ti, ty_bool_non, ty_bool_ti, ty_str_non, ty_str_ti, ty_tup_non, ty_tup_ti, ty_lst_non, ty_lst_ti, ty_dict_non, ty_dict_ti, ty_int_rep, ty_int_dic, ty_bool_rep, ty_bool_dic, ty_str_rep, ty_str_dic, ty_tup_rep, ty_tup_dic, ty_lst_rep, ty_lst_dic, ty_dict_rep, ty_dict_dic, ta_tup, ta_lst, ta_ti, ta_int, ta_bl, ta_str, ta_non, st_0, st_1, st_2, st_3, st_4, st_5, st_6, st_7, st_8, st_9, st_10, st_11, st_12, st_13, st_14, st_15, st_16, st_17, st_18, st_19, st_20, st_21, st_22, st_23, bp_nm, bp_tp, bp_ls, bp_ti, bps_nil, bps_nm, sts_nil, sts_cons, rowr_l, rowr_r, cat_d, wp0_nil, wp_0, wp_1, wp_2, wp_3, wp_4, wp_5, wp_6, wp_7, wp_8, wp_9, wp_10, wp_11, wp_12, wp_13, wp_14, wp_15, wp_16, wp_17, wp_18, wp_19, wp_20, wp_21, wp_22, wp_23, rng_1, rng_2, rng_3, rng_4, rng_5, rng_6, rng_7, brkT, brkF, ti1, ti2, ti3, ti4, ti5, ti6, ti_map, eq_ti, pick, List.cons_append, List.nil_append, List.map_cons, List.map_nil, List.getD_cons_zero, List.getD_cons_succ, Bool.not_true, Bool.not_false]
  refine s_are_whole hz ?_
  simp only [↓ev_v0, ↓ev_v1, ↓ev_v2, ↓ev_v3, ↓ev_v4, ↓ev_v5, ↓ev_v6, ↓ev_v7, ↓ev_v8, ↓ev_v9, ↓ev_v10, ↓ev_v11, ↓ev_v12, ↓ev_v13, ↓ev_v14, ↓ev_v15, ↓ev_v16, ↓ev_v17, ↓ev_v18, ↓ev_v19, ↓ev_v20, ↓ev_v21, ↓ev_v22, ↓ev_v23, ↓ev_cst, ↓ev_glb, ↓ev_bin, ↓ev_neg, ↓ev_not, ↓ev_cmp, ↓ev_cmp2, ↓ev_and, ↓ev_or, ↓ev_ite, ↓ev_tup, ↓ev_lst, ↓ev_idx, ↓ev_slc, ↓ev_call, ↓ev_callk, ↓ev_bi, ↓ev_isi, ↓ev_isi2, ↓ev_lc, ↓ev_lc2, ↓ev_tcat, ↓ev_rng, ↓ev_rng1, ↓ev_zip, ↓ev_enm, ↓ev_cnt, ↓ev_nset, ↓ev_dct, ↓ev_cat, ↓ev_isn, ↓ev_rev, ↓ev_app, ↓evs_nil, ↓evs_cons, ↓evss_nil, ↓evss_f, ↓evss_t, ↓spr_tup, ↓spr_lst, ↓spr_frz, ↓spr_ti, ↓evo_n, ↓evo_s, ↓evt_n, ↓evt_s, ↓ex_set, ↓ex_par, ↓ex_expr, ↓ex_ret, ↓ex_retN, ↓ex_iff, ↓ex_for, ↓ex_whl, ↓ex_raise, ↓ex_pass, ↓ex_brk, ↓ex_cont, ↓exs_nil, ↓exs_cons, ↓tvf, ↓tvt, ↓asB_bl, ↓asI_i, ↓bop_add, ↓bop_sub, ↓bop_mul, ↓bop_fdv, ↓bop_mod, ↓bop_pow, ↓bop_tt, ↓bop_ll, ↓bop_lm, ↓cop_eq, ↓cop_ne, ↓cop_lt, ↓cop_le, ↓cop_gt, ↓cop_ge, ↓cop_eq_rep, ↓cop_ne_rep, ↓cop_eq_tup, ↓cop_ne_tup, ↓cop_eq_lst, ↓cop_ne_lst, ↓cop_eq_str, ↓cop_ne_str, ↓cop_eq_bl, ↓cop_ne_bl, ↓cop_eq_non, ↓cop_ne_non, ↓cop_is_n, ↓cop_is_b, ↓cop_isnot_n, ↓cop_isnot_b, ↓cop_isin_lst, ↓cop_isin_tup, ↓cop_notin_lst, ↓cop_notin_tup, ↓tru_non, ↓tru_bl, ↓tru_int, ↓tru_tup, ↓tru_lst, ↓seq_tup, ↓itm_tup, ↓seq_lst, ↓itm_lst, ↓seq_frz, ↓itm_frz, ↓itm_itr, ↓seq_ref, ↓itm_ref, ↓seq_ti, ↓itm_ti, ↓onO_s, ↓nth_0, ↓nth_1, ↓nth_2, ↓nth_3, ↓nth_4, ↓nth_5, ↓nth_6, ↓nth_7, ↓nth_8, ↓nth_9, ↓nth_10, ↓nth_11, ↓nth_12, ↓bf_len, ↓bf_abs, ↓bf_max, ↓bf_min, ↓bf_int, ↓bf_intb, ↓bf_dm, ↓bf_gcd, ↓bf_all, ↓bf_any, ↓bf_sum, ↓bf_tup, ↓bf_repl, ↓bf_stri, ↓bf_rept, ↓bf_lst, ↓asg_nm, ↓asg_tp, ↓asg_ls, ↓asg_sub, ↓asg_tg, ↓asg_ti, ↓asgs_nil, ↓asgs_cons, ↓mk_f, ↓mk_t, ↓setn_l, ↓setn_r, ↓isn_lst_true, ↓isn_lst_false, ↓isn_tup_true, ↓isn_tup_false, ↓isn_ref_true, ↓isn_ref_false, ↓cnt_t, ↓rev_t, ↓rev_l, ↓rev_ti, ↓onRef_r, ↓two_tt, ↓two_ll, ↓two_tl, ↓two_ti, ↓still_t, ↓still_ti, ↓still_l, ↓cut_tup, ↓cut_lst, ↓cut_frz, ↓cut_ti, ↓bop_titi, ↓cop_eq_ti, ↓cop_ne_ti, non_non, non_int, ty_int_int, ty_bool_int, ty_str_int, ty_tup_int, ty_lst_int, ty_dict_int, non_bl, ty_int_bl, ty_bool_bl, ty_str_bl, ty_tup_bl, ty_lst_bl, ty_dict_bl, non_str, ty_int_str, ty_bool_str, ty_str_str, ty_tup_str, ty_lst_str, ty_dict_str, non_tup, ty_int_tup, ty_bool_tup, ty_str_tup, ty_tup_tup, ty_lst_tup, ty_dict_tup, non_lst, ty_int_lst, ty_bool_lst, ty_str_lst, ty_tup_lst, ty_lst_lst, ty_dict_lst, ty_int_non, ty_int_ti, ty_bool_non, ty_bool_ti, ty_str_non, ty_str_ti, ty_tup_non, ty_tup_ti, ty_lst_non, ty_lst_ti, ty_dict_non, ty_dict_ti, ty_int_rep, ty_int_dic, ty_bool_rep, ty_bool_dic, ty_str_rep, ty_str_dic, ty_tup_rep, ty_tup_dic, ty_lst_rep, ty_lst_dic, ty_dict_rep, ty_dict_dic, ta_tup, ta_lst, ta_ti, ta_int, ta_bl, ta_str, ta_non, st_0, st_1, st_2, st_3, st_4, st_5, st_6, st_7, st_8, st_9, st_10, st_11, st_12, st_13, st_14, st_15, st_16, st_17, st_18, st_19, st_20, st_21, st_22, st_23, bp_nm, bp_tp, bp_ls, bp_ti, bps_nil, bps_nm, sts_nil, sts_cons, rowr_l, rowr_r, cat_d, wp0_nil, wp_0, wp_1, wp_2, wp_3, wp_4, wp_5, wp_6, wp_7, wp_8, wp_9, wp_10, wp_11, wp_12, wp_13, wp_14, wp_15, wp_16, wp_17, wp_18, wp_19, wp_20, wp_21, wp_22, wp_23, rng_1, rng_2, rng_3, rng_4, rng_5, rng_6, rng_7, brkT, brkF, ti1, ti2, ti3, ti4, ti5, ti6, ti_map, eq_ti, pick, List.cons_append, List.nil_append, List.map_cons, List.map_nil, List.getD_cons_zero, List.getD_cons_succ, Bool.not_true, Bool.not_false, hl, decide_true]
  refine s_divisor_of ?_
  simp only [↓ev_v0, ↓ev_v1, ↓ev_v2, ↓ev_v3, ↓ev_v4, ↓ev_v5, ↓ev_v6, ↓ev_v7, ↓ev_v8, ↓ev_v9, ↓ev_v10, ↓ev_v11, ↓ev_v12, ↓ev_v13, ↓ev_v14, ↓ev_v15, ↓ev_v16, ↓ev_v17, ↓ev_v18, ↓ev_v19, ↓ev_v20, ↓ev_v21, ↓ev_v22, ↓ev_v23, ↓ev_cst, ↓ev_glb, ↓ev_bin, ↓ev_neg, ↓ev_not, ↓ev_cmp, ↓ev_cmp2, ↓ev_and, ↓ev_or, ↓ev_ite, ↓ev_tup, ↓ev_lst, ↓ev_idx, ↓ev_slc, ↓ev_call, ↓ev_callk, ↓ev_bi, ↓ev_isi, ↓ev_isi2, ↓ev_lc, ↓ev_lc2, ↓ev_tcat, ↓ev_rng, ↓ev_rng1, ↓ev_zip, ↓ev_enm, ↓ev_cnt, ↓ev_nset, ↓ev_dct, ↓ev_cat, ↓ev_isn, ↓ev_rev, ↓ev_app, ↓evs_nil, ↓evs_cons, ↓evss_nil, ↓evss_f, ↓evss_t, ↓spr_tup, ↓spr_lst, ↓spr_frz, ↓spr_ti, ↓evo_n, ↓evo_s, ↓evt_n, ↓evt_s, ↓ex_set, ↓ex_par, ↓ex_expr, ↓ex_ret, ↓ex_retN, ↓ex_iff, ↓ex_for, ↓ex_whl, ↓ex_raise, ↓ex_pass, ↓ex_brk, ↓ex_cont, ↓exs_nil, ↓exs_cons, ↓tvf, ↓tvt, ↓asB_bl, ↓asI_i, ↓bop_add, ↓bop_sub, ↓bop_mul, ↓bop_fdv, ↓bop_mod, ↓bop_pow, ↓bop_tt, ↓bop_ll, ↓bop_lm, ↓cop_eq, ↓cop_ne, ↓cop_lt, ↓cop_le, ↓cop_gt, ↓cop_ge, ↓cop_eq_rep, ↓cop_ne_rep, ↓cop_eq_tup, ↓cop_ne_tup, ↓cop_eq_lst, ↓cop_ne_lst, ↓cop_eq_str, ↓cop_ne_str, ↓cop_eq_bl, ↓cop_ne_bl, ↓cop_eq_non, ↓cop_ne_non, ↓cop_is_n, ↓cop_is_b, ↓cop_isnot_n, ↓cop_isnot_b, ↓cop_isin_lst, ↓cop_isin_tup, ↓cop_notin_lst, ↓cop_notin_tup, ↓tru_non, ↓tru_bl, ↓tru_int, ↓tru_tup, ↓tru_lst, ↓seq_tup, ↓itm_tup, ↓seq_lst, ↓itm_lst, ↓seq_frz, ↓itm_frz, ↓itm_itr, ↓seq_ref, ↓itm_ref, ↓seq_ti, ↓itm_ti, ↓onO_s, ↓nth_0, ↓nth_1, ↓nth_2, ↓nth_3, ↓nth_4, ↓nth_5, ↓nth_6, ↓nth_7, ↓nth_8, ↓nth_9, ↓nth_10, ↓nth_11, ↓nth_12, ↓bf_len, ↓bf_abs, ↓bf_max, ↓bf_min, ↓bf_int, ↓bf_intb, ↓bf_dm, ↓bf_gcd, ↓bf_all, ↓bf_any, ↓bf_sum, ↓bf_tup, ↓bf_repl, ↓bf_stri, ↓bf_rept, ↓bf_lst, ↓asg_nm, ↓asg_tp, ↓asg_ls, ↓asg_sub, ↓asg_tg, ↓asg_ti, ↓asgs_nil, ↓asgs_cons, ↓mk_f, ↓mk_t, ↓setn_l, ↓setn_r, ↓isn_lst_true, ↓isn_lst_false, ↓isn_tup_true, ↓isn_tup_false, ↓isn_ref_true, ↓isn_ref_false, ↓cnt_t, ↓rev_t, ↓rev_l, ↓rev_ti, ↓onRef_r, ↓two_tt, ↓two_ll, ↓two_tl, ↓two_ti, ↓still_t, ↓still_ti, ↓still_l, ↓cut_tup, ↓cut_lst, ↓cut_frz, ↓cut_ti, ↓bop_titi, ↓cop_eq_ti, ↓cop_ne_ti, non_non, non_int, ty_int_int, ty_bool_int, ty_str_int, ty_tup_int, ty_lst_int, ty_dict_int, non_bl, ty_int_bl, ty_bool_bl, ty_str_bl, ty_tup_bl, ty_lst_bl, ty_dict_bl, non_str, ty_int_str, ty_bool_str, ty_str_str, ty_tup_str, ty_lst_str, ty_dict_str, non_tup, ty_int_tup, ty_bool_tup, ty_str_tup, ty_tup_tup, ty_lst_tup, ty_dict_tup, non_lst, ty_int_lst, ty_bool_lst, ty_str_lst, ty_tup_lst, ty_lst_lst, ty_dict_lst, ty_int_non, ty_int_ti, ty_bool_non, ty_bool_ti, ty_str_non, ty_str_ti, ty_tup_non, ty_tup_ti, ty_lst_non, ty_lst_ti, ty_dict_non, ty_dict_ti, ty_int_rep, ty_int_dic, ty_bool_rep, ty_bool_dic, ty_str_rep, ty_str_dic, ty_tup_rep, ty_tup_dic, ty_lst_rep, ty_lst_dic, ty_dict_rep, ty_dict_dic, ta_tup, ta_lst, ta_ti, ta_int, ta_bl, ta_str, ta_non, st_0, st_1, st_2, st_3, st_4, st_5, st_6, st_7, st_8, st_9, st_10, st_11, st_12, st_13, st_14, st_15, st_16, st_17, st_18, st_19, st_20, st_21, st_22, st_23, bp_nm, bp_tp, bp_ls, bp_ti, bps_nil, bps_nm, sts_nil, sts_cons, rowr_l, rowr_r, cat_d, wp0_nil, wp_0, wp_1, wp_2, wp_3, wp_4, wp_5, wp_6, wp_7, wp_8, wp_9, wp_10, wp_11, wp_12, wp_13, wp_14, wp_15, wp_16, wp_17, wp_18, wp_19, wp_20, wp_21, wp_22, wp_23, rng_1, rng_2, rng_3, rng_4, rng_5, rng_6, rng_7, brkT, brkF, ti1, ti2, ti3, ti4, ti5, ti6, ti_map, eq_ti, pick, List.cons_append, List.nil_append, List.map_cons, List.map_nil, List.getD_cons_zero, List.getD_cons_succ, Bool.not_true, Bool.not_false]
  by_cases g : Gg ns = 1
  · refine brk_t (decide_eq_true (by omega)) ?_
    refine s_first_live (ns := ns) ?_
    simp only [↓ev_v0, ↓ev_v1, ↓ev_v2, ↓ev_v3, ↓ev_v4, ↓ev_v5, ↓ev_v6, ↓ev_v7, ↓ev_v8, ↓ev_v9, ↓ev_v10, ↓ev_v11, ↓ev_v12, ↓ev_v13, ↓ev_v14, ↓ev_v15, ↓ev_v16, ↓ev_v17, ↓ev_v18, ↓ev_v19, ↓ev_v20, ↓ev_v21, ↓ev_v22, ↓ev_v23, ↓ev_cst, ↓ev_glb, ↓ev_bin, ↓ev_neg, ↓ev_not, ↓ev_cmp, ↓ev_cmp2, ↓ev_and, ↓ev_or, ↓ev_ite, ↓ev_tup, ↓ev_lst, ↓ev_idx, ↓ev_slc, ↓ev_call, ↓ev_callk, ↓ev_bi, ↓ev_isi, ↓ev_isi2, ↓ev_lc, ↓ev_lc2, ↓ev_tcat, ↓ev_rng, ↓ev_rng1, ↓ev_zip, ↓ev_enm, ↓ev_cnt, ↓ev_nset, ↓ev_dct, ↓ev_cat, ↓ev_isn, ↓ev_rev, ↓ev_app, ↓evs_nil, ↓evs_cons, ↓evss_nil, ↓evss_f, ↓evss_t, ↓spr_tup, ↓spr_lst, ↓spr_frz, ↓spr_ti, ↓evo_n, ↓evo_s, ↓evt_n, ↓evt_s, ↓ex_set, ↓ex_par, ↓ex_expr, ↓ex_ret, ↓ex_retN, ↓ex_iff, ↓ex_for, ↓ex_whl, ↓ex_raise, ↓ex_pass, ↓ex_brk, ↓ex_cont, ↓exs_nil, ↓exs_cons, ↓tvf, ↓tvt, ↓asB_bl, ↓asI_i, ↓bop_add, ↓bop_sub, ↓bop_mul, ↓bop_fdv, ↓bop_mod, ↓bop_pow, ↓bop_tt, ↓bop_ll, ↓bop_lm, ↓cop_eq, ↓cop_ne, ↓cop_lt, ↓cop_le, ↓cop_gt, ↓cop_ge, ↓cop_eq_rep, ↓cop_ne_rep, ↓cop_eq_tup, ↓cop_ne_tup, ↓cop_eq_lst, ↓cop_ne_lst, ↓cop_eq_str, ↓cop_ne_str, ↓cop_eq_bl, ↓cop_ne_bl, ↓cop_eq_non, ↓cop_ne_non, ↓cop_is_n, ↓cop_is_b, ↓cop_isnot_n, ↓cop_isnot_b, ↓cop_isin_lst, ↓cop_isin_tup, ↓cop_notin_lst, ↓cop_notin_tup, ↓tru_non, ↓tru_bl, ↓tru_int, ↓tru_tup, ↓tru_lst, ↓seq_tup, ↓itm_tup, ↓seq_lst, ↓itm_lst, ↓seq_frz, ↓itm_frz, ↓itm_itr, ↓seq_ref, ↓itm_ref, ↓seq_ti, ↓itm_ti, ↓onO_s, ↓nth_0, ↓nth_1, ↓nth_2, ↓nth_3, ↓nth_4, ↓nth_5, ↓nth_6, ↓nth_7, ↓nth_8, ↓nth_9, ↓nth_10, ↓nth_11, ↓nth_12, ↓bf_len, ↓bf_abs, ↓bf_max, ↓bf_min, ↓bf_int, ↓bf_intb, ↓bf_dm, ↓bf_gcd, ↓bf_all, ↓bf_any, ↓bf_sum, ↓bf_tup, ↓bf_repl, ↓bf_stri, ↓bf_rept, ↓bf_lst, ↓asg_nm, ↓asg_tp, ↓asg_ls, ↓asg_sub, ↓asg_tg, ↓asg_ti, ↓asgs_nil, ↓asgs_cons, ↓mk_f, ↓mk_t, ↓setn_l, ↓setn_r, ↓isn_lst_true, ↓isn_lst_false, ↓isn_tup_true, ↓isn_tup_false, ↓isn_ref_true, ↓isn_ref_false, ↓cnt_t, ↓rev_t, ↓rev_l, ↓rev_ti, ↓onRef_r, ↓two_tt, ↓two_ll, ↓two_tl, ↓two_ti, ↓still_t, ↓still_ti, ↓still_l, ↓cut_tup, ↓cut_lst, ↓cut_frz, ↓cut_ti, ↓bop_titi, ↓cop_eq_ti, ↓cop_ne_ti, non_non, non_int, ty_int_int, ty_bool_int, ty_str_int, ty_tup_int, ty_lst_int, ty_dict_int, non_bl, ty_int_bl, ty_bool_bl, ty_str_bl, ty_tup_bl, ty_lst_bl, ty_dict_bl, non_str, ty_int_str, ty_bool_str, ty_str_str, ty_tup_str, ty_lst_str, ty_dict_str, non_tup, ty_int_tup, ty_bool_tup, ty_str_tup, ty_tup_tup, ty_lst_tup, ty_dict_tup, non_lst, ty_int_lst, ty_bool_lst, ty_str_lst, ty_tup_lst, ty_lst_lst, ty_dict_lst, ty_int_non, ty_int_ti, ty_bool_non, ty_bool_ti, ty_str_non, ty_str_ti, ty_tup_non, ty_tup_ti, ty_lst_non, ty_lst_ti, ty_dict_non, ty_dict_ti, ty_int_rep, ty_int_dic, ty_bool_rep, ty_bool_dic, ty_str_rep, ty_str_dic, ty_tup_rep, ty_tup_dic, ty_lst_rep, ty_lst_dic, ty_dict_rep, ty_dict_dic, ta_tup, ta_lst, ta_ti, ta_int, ta_bl, ta_str, ta_non, st_0, st_1, st_2, st_3, st_4, st_5, st_6, st_7, st_8, st_9, st_10, st_11, st_12, st_13, st_14, st_15, st_16, st_17, st_18, st_19, st_20, st_21, st_22, st_23, bp_nm, bp_tp, bp_ls, bp_ti, bps_nil, bps_nm, sts_nil, sts_cons, rowr_l, rowr_r, cat_d, wp0_nil, wp_0, wp_1, wp_2, wp_3, wp_4, wp_5, wp_6, wp_7, wp_8, wp_9, wp_10, wp_11, wp_12, wp_13, wp_14, wp_15, wp_16, wp_17, wp_18, wp_19, wp_20, wp_21, wp_22, wp_23, rng_1, rng_2, rng_3, rng_4, rng_5, rng_6, rng_7, brkT, brkF, ti1, ti2, ti3, ti4, ti5, ti6, ti_map, eq_ti, pick, List.cons_append, List.nil_append, List.map_cons, List.map_nil, List.getD_cons_zero, List.getD_cons_succ, Bool.not_true, Bool.not_false]
    have e3 : decide (Prim ns) = decide (0 < fl ns) := decide_eq_decide.mpr ⟨fun p => p.2, fun f => ⟨g, f⟩⟩
    rw [e3] at h
    exact h
  · refine brk_f (decide_eq_false (by omega)) ?_
    have e3 : decide (Prim ns) = false := decide_eq_false fun p => g p.1
    rw [e3] at h
    exact h
theorem s_are_wholeR (hg : Gdv d) (h : k (.bl (rowInt d)) S) : CT (n + 3) i_are_whole [d, .int 3] S k X := by
  cases d with
  | tup ds =>
    obtain ⟨hl, hi⟩ := hg.2 ds rfl
    exact s_are_wholeA (fun d hd => (hi d hd).1) (by simp [SZ]; omega) h
  | _ =>
    first
      | (cases hg.1; done)
      | (refine c_are_whole ?_
         simp only [f_are_whole, ↓ev_v0, ↓ev_v1, ↓ev_v2, ↓ev_v3, ↓ev_v4, ↓ev_v5, ↓ev_v6, ↓ev_v7, ↓ev_v8, ↓ev_v9, ↓ev_v10, ↓ev_v11, ↓ev_v12, ↓ev_v13, ↓ev_v14, ↓ev_v15, ↓ev_v16, ↓ev_v17, ↓ev_v18, ↓ev_v19, ↓ev_v20, ↓ev_v21, ↓ev_v22, ↓ev_v23, ↓ev_cst, ↓ev_glb, ↓ev_bin, ↓ev_neg, ↓ev_not, ↓ev_cmp, ↓ev_cmp2, ↓ev_and, ↓ev_or, ↓ev_ite, ↓ev_tup, ↓ev_lst, ↓ev_idx, ↓ev_slc, ↓ev_call, ↓ev_callk, ↓ev_bi, ↓ev_isi, ↓ev_isi2, ↓ev_lc, ↓ev_lc2, ↓ev_tcat, ↓ev_rng, ↓ev_rng1, ↓ev_zip, ↓ev_enm, ↓ev_cnt, ↓ev_nset, ↓ev_dct, ↓ev_cat, ↓ev_isn, ↓ev_rev, ↓ev_app, ↓evs_nil, ↓evs_cons, ↓evss_nil, ↓evss_f, ↓evss_t, ↓spr_tup, ↓spr_lst, ↓spr_frz, ↓spr_ti, ↓evo_n, ↓evo_s, ↓evt_n, ↓evt_s, ↓ex_set, ↓ex_par, ↓ex_expr, ↓ex_ret, ↓ex_retN, ↓ex_iff, ↓ex_for, ↓ex_whl, ↓ex_raise, ↓ex_pass, ↓ex_brk, ↓ex_cont, ↓exs_nil, ↓exs_cons, ↓tvf, ↓tvt, ↓asB_bl, ↓asI_i, ↓bop_add, ↓bop_sub, ↓bop_mul, ↓bop_fdv, ↓bop_mod, ↓bop_pow, ↓bop_tt, ↓bop_ll, ↓bop_lm, ↓cop_eq, ↓cop_ne, ↓cop_lt, ↓cop_le, ↓cop_gt, ↓cop_ge, ↓cop_eq_rep, ↓cop_ne_rep, ↓cop_eq_tup, ↓cop_ne_tup, ↓cop_eq_lst, ↓cop_ne_lst, ↓cop_eq_str, ↓cop_ne_str, ↓cop_eq_bl, ↓cop_ne_bl, ↓cop_eq_non, ↓cop_ne_non, ↓cop_is_n, ↓cop_is_b, ↓cop_isnot_n, ↓cop_isnot_b, ↓cop_isin_lst, ↓cop_isin_tup, ↓cop_notin_lst, ↓cop_notin_tup, ↓tru_non, ↓tru_bl, ↓tru_int, ↓tru_tup, ↓tru_lst, ↓seq_tup, ↓itm_tup, ↓seq_lst, ↓itm_lst, ↓seq_frz, ↓itm_frz, ↓itm_itr, ↓seq_ref, ↓itm_ref, ↓seq_ti, ↓itm_ti, ↓onO_s, ↓nth_0, ↓nth_1, ↓nth_2, ↓nth_3, ↓nth_4, ↓nth_5, ↓nth_6, ↓nth_7, ↓nth_8, ↓nth_9, ↓nth_10, ↓nth_11, ↓nth_12, ↓bf_len, ↓bf_abs, ↓bf_max, ↓bf_min, ↓bf_int, ↓bf_intb, ↓bf_dm, ↓bf_gcd, ↓bf_all, ↓bf_any, ↓bf_sum, ↓bf_tup, ↓bf_repl, ↓bf_stri, ↓bf_rept, ↓bf_lst, ↓asg_nm, ↓asg_tp, ↓asg_ls, ↓asg_sub, ↓asg_tg, ↓asg_ti, ↓asgs_nil, ↓asgs_cons, ↓mk_f, ↓mk_t, ↓setn_l, ↓setn_r, ↓isn_lst_true, ↓isn_lst_false, ↓isn_tup_true, ↓isn_tup_false, ↓isn_ref_true, ↓isn_ref_false, ↓cnt_t, ↓rev_t, ↓rev_l, ↓rev_ti, ↓onRef_r, ↓two_tt, ↓two_ll, ↓two_tl, ↓two_ti, ↓still_t, ↓still_ti, ↓still_l, ↓cut_tup, ↓cut_lst, ↓cut_frz, ↓cut_ti, ↓bop_titi, ↓cop_eq_ti, ↓cop_ne_ti, non_non, non_int, ty_int_int, ty_bool_int, ty_str_int, ty_tup_int, ty_lst_int, ty_dict_int, non_bl, ty_int_bl, ty_bool_bl, ty_str_bl, ty_tup_bl, ty_lst_bl, ty_dict_bl, non_str, ty_int_str, ty_bool_str, ty_str_str, ty_tup_str, ty_lst_str, ty_dict_str, non_tup, ty_int_tup, ty_bool_tup, ty_str_tup, ty_tup_tup, ty_lst_tup, ty_dict_tup, non_lst, ty_int_lst, ty_bool_lst, ty_str_lst, ty_tup_lst, ty_lst_lst, ty_dict_lst, ty_int_non, ty_int_ti, ty_bool_non, ty_bool_ti, ty_str_non, ty_str_ti, ty_tup_non, ty_tup_ti, ty_lst_non, ty_lst_ti, ty_dict_non, ty_dict_ti, ty_int_rep, ty_int_dic, ty_bool_rep, ty_bool_dic, ty_str_rep, ty_str_dic, ty_tup_rep, ty_tup_dic, ty_lst_rep, ty_lst_dic, ty_dict_rep, ty_dict_dic, ta_tup, ta_lst, ta_ti, ta_int, ta_bl, ta_str, ta_non, st_0, st_1, st_2, st_3, st_4, st_5, st_6, st_7, st_8, st_9, st_10, st_11, st_12, st_13, st_14, st_15, st_16, st_17, st_18, st_19, st_20, st_21, st_22, st_23, bp_nm, bp_tp, bp_ls, bp_ti, bps_nil, bps_nm, sts_nil, sts_cons, rowr_l, rowr_r, cat_d, wp0_nil, wp_0, wp_1, wp_2, wp_3, wp_4, wp_5, wp_6, wp_7, wp_8, wp_9, wp_10, wp_11, wp_12, wp_13, wp_14, wp_15, wp_16, wp_17, wp_18, wp_19, wp_20, wp_21, wp_22, wp_23, rng_1, rng_2, rng_3, rng_4, rng_5, rng_6, rng_7, brkT, brkF, ti1, ti2, ti3, ti4, ti5, ti6, ti_map, eq_ti, pick, List.cons_append, List.nil_append, List.map_cons, List.map_nil, List.getD_cons_zero, List.getD_cons_succ, Bool.not_true, Bool.not_false]
         refine c_is_tuple_of ?_
         simp only [f_is_tuple_of, ↓ev_v0, ↓ev_v1, ↓ev_v2, ↓ev_v3, ↓ev_v4, ↓ev_v5, ↓ev_v6, ↓ev_v7, ↓ev_v8, ↓ev_v9, ↓ev_v10, ↓ev_v11, ↓ev_v12, ↓ev_v13, ↓ev_v14, ↓ev_v15, ↓ev_v16, ↓ev_v17, ↓ev_v18, ↓ev_v19, ↓ev_v20, ↓ev_v21, ↓ev_v22, ↓ev_v23, ↓ev_cst, ↓ev_glb, ↓ev_bin, ↓ev_neg, ↓ev_not, ↓ev_cmp, ↓ev_cmp2, ↓ev_and, ↓ev_or, ↓ev_ite, ↓ev_tup, ↓ev_lst, ↓ev_idx, ↓ev_slc, ↓ev_call, ↓ev_callk, ↓ev_bi, ↓ev_isi, ↓ev_isi2, ↓ev_lc, ↓ev_lc2, ↓ev_tcat, ↓ev_rng, ↓ev_rng1, ↓ev_zip, ↓ev_enm, ↓ev_cnt, ↓ev_nset, ↓ev_dct, ↓ev_cat, ↓ev_isn, ↓ev_rev, ↓ev_app, ↓evs_nil, ↓evs_cons, ↓evss_nil, ↓evss_f, ↓evss_t, ↓spr_tup, ↓spr_lst, ↓spr_frz, ↓spr_ti, ↓evo_n, ↓evo_s, ↓evt_n, ↓evt_s, ↓ex_set, ↓ex_par, ↓ex_expr, ↓ex_ret, ↓ex_retN, ↓ex_iff, ↓ex_for, ↓ex_whl, ↓ex_raise, ↓ex_pass, ↓ex_brk, ↓ex_cont, ↓exs_nil, ↓exs_cons, ↓tvf, ↓tvt, ↓asB_bl, ↓asI_i, ↓bop_add, ↓bop_sub, ↓bop_mul, ↓bop_fdv, ↓bop_mod, ↓bop_pow, ↓bop_tt, ↓bop_ll, ↓bop_lm, ↓cop_eq, ↓cop_ne, ↓cop_lt, ↓cop_le, ↓cop_gt, ↓cop_ge, ↓cop_eq_rep, ↓cop_ne_rep, ↓cop_eq_tup, ↓cop_ne_tup, ↓cop_eq_lst, ↓cop_ne_lst, ↓cop_eq_str, ↓cop_ne_str, ↓cop_eq_bl, ↓cop_ne_bl, ↓cop_eq_non, ↓cop_ne_non, ↓cop_is_n, ↓cop_is_b, ↓cop_isnot_n, ↓cop_isnot_b, ↓cop_isin_lst, ↓cop_isin_tup, ↓cop_notin_lst, ↓cop_notin_tup, ↓tru_non, ↓tru_bl, ↓tru_int, ↓tru_tup, ↓tru_lst, ↓seq_tup, ↓itm_tup, ↓seq_lst, ↓itm_lst, ↓seq_frz, ↓itm_frz, ↓itm_itr, ↓seq_ref, ↓itm_ref, ↓seq_ti, ↓itm_ti, ↓onO_s, ↓nth_0, ↓nth_1, ↓nth_2, ↓nth_3, ↓nth_4, ↓nth_5, ↓nth_6, ↓nth_7, ↓nth_8, ↓nth_9, ↓nth_10, ↓nth_11, ↓nth_12, ↓bf_len, ↓bf_abs, ↓bf_max, ↓bf_min, ↓bf_int, ↓bf_intb, ↓bf_dm, ↓bf_gcd, ↓bf_all, ↓bf_any, ↓bf_sum, ↓bf_tup, ↓bf_repl, ↓bf_stri, ↓bf_rept, ↓bf_lst, ↓asg_nm, ↓asg_tp, ↓asg_ls, ↓asg_sub, ↓asg_tg, ↓asg_ti, ↓asgs_nil, ↓asgs_cons, ↓mk_f, ↓mk_t, ↓setn_l, ↓setn_r, ↓isn_lst_true, ↓isn_lst_false, ↓isn_tup_true, ↓isn_tup_false, ↓isn_ref_true, ↓isn_ref_false, ↓cnt_t, ↓rev_t, ↓rev_l, ↓rev_ti, ↓onRef_r, ↓two_tt, ↓two_ll, ↓two_tl, ↓two_ti, ↓still_t, ↓still_ti, ↓still_l, ↓cut_tup, ↓cut_lst, ↓cut_frz, ↓cut_ti, ↓bop_titi, ↓cop_eq_ti, ↓cop_ne_ti, non_non, non_int, ty_int_int, ty_bool_int, ty_str_int, ty_tup_int, ty_lst_int, ty_dict_int, non_bl, ty_int_bl, ty_bool_bl, ty_str_bl, ty_tup_bl, ty_lst_bl, ty_dict_bl, non_str, ty_int_str, ty_bool_str, ty_str_str, ty_tup_str, ty_lst_str, ty_dict_str, non_tup, ty_int_tup, ty_bool_tup, ty_str_tup, ty_tup_tup, ty_lst_tup, ty_dict_tup, non_lst, ty_int_lst, ty_bool_lst, ty_str_lst, ty_tup_lst, ty_lst_lst, ty_dict_lst, ty_int_non, ty_int_ti, ty_bool_non, ty_bool_ti, ty_str_non, ty_str_ti, ty_tup_non, ty_tup_ti, ty_lst_non, ty_lst_ti, ty_dict_non, ty_dict_ti, ty_int_rep, ty_int_dic, ty_bool_rep, ty_bool_dic, ty_str_rep, ty_str_dic, ty_tup_rep, ty_tup_dic, ty_lst_rep, ty_lst_dic, ty_dict_rep, ty_dict_dic, ta_tup, ta_lst, ta_ti, ta_int, ta_bl, ta_str, ta_non, st_0, st_1, st_2, st_3, st_4, st_5, st_6, st_7, st_8, st_9, st_10, st_11, st_12, st_13, st_14, st_15, st_16, st_17, st_18, st_19, st_20, st_21, st_22, st_23, bp_nm, bp_tp, bp_ls, bp_ti, bps_nil, bps_nm, sts_nil, sts_cons, rowr_l, rowr_r, cat_d, wp0_nil, wp_0, wp_1, wp_2, wp_3, wp_4, wp_5, wp_6, wp_7, wp_8, wp_9, wp_10, wp_11, wp_12, wp_13, wp_14, wp_15, wp_16, wp_17, wp_18, wp_19, wp_20, wp_21, wp_22, wp_23, rng_1, rng_2, rng_3, rng_4, rng_5, rng_6, rng_7, brkT, brkF, ti1, ti2, ti3, ti4, ti5, ti6, ti_map, eq_ti, pick, List.cons_append, List.nil_append, List.map_cons, List.map_nil, List.getD_cons_zero, List.getD_cons_succ, Bool.not_true, Bool.not_false]
         refine c_is_tuple_up_to ?_
         simp only [f_is_tuple_up_to, ↓ev_v0, ↓ev_v1, ↓ev_v2, ↓ev_v3, ↓ev_v4, ↓ev_v5, ↓ev_v6, ↓ev_v7, ↓ev_v8, ↓ev_v9, ↓ev_v10, ↓ev_v11, ↓ev_v12, ↓ev_v13, ↓ev_v14, ↓ev_v15, ↓ev_v16, ↓ev_v17, ↓ev_v18, ↓ev_v19, ↓ev_v20, ↓ev_v21, ↓ev_v22, ↓ev_v23, ↓ev_cst, ↓ev_glb, ↓ev_bin, ↓ev_neg, ↓ev_not, ↓ev_cmp, ↓ev_cmp2, ↓ev_and, ↓ev_or, ↓ev_ite, ↓ev_tup, ↓ev_lst, ↓ev_idx, ↓ev_slc, ↓ev_call, ↓ev_callk, ↓ev_bi, ↓ev_isi, ↓ev_isi2, ↓ev_lc, ↓ev_lc2, ↓ev_tcat, ↓ev_rng, ↓ev_rng1, ↓ev_zip, ↓ev_enm, ↓ev_cnt, ↓ev_nset, ↓ev_dct, ↓ev_cat, ↓ev_isn, ↓ev_rev, ↓ev_app, ↓evs_nil, ↓evs_cons, ↓evss_nil, ↓evss_f, ↓evss_t, ↓spr_tup, ↓spr_lst, ↓spr_frz, ↓spr_ti, ↓evo_n, ↓evo_s, ↓evt_n, ↓evt_s, ↓ex_set, ↓ex_par, ↓ex_expr, ↓ex_ret, ↓ex_retN, ↓ex_iff, ↓ex_for, ↓ex_whl, ↓ex_raise, ↓ex_pass, ↓ex_brk, ↓ex_cont, ↓exs_nil, ↓exs_cons, ↓tvf, ↓tvt, ↓asB_bl, ↓asI_i, ↓bop_add, ↓bop_sub, ↓bop_mul, ↓bop_fdv, ↓bop_mod, ↓bop_pow, ↓bop_tt, ↓bop_ll, ↓bop_lm, ↓cop_eq, ↓cop_ne, ↓cop_lt, ↓cop_le, ↓cop_gt, ↓cop_ge, ↓cop_eq_rep, ↓cop_ne_rep, ↓cop_eq_tup, ↓cop_ne_tup, ↓cop_eq_lst, ↓cop_ne_lst, ↓cop_eq_str, ↓cop_ne_str, ↓cop_eq_bl, ↓cop_ne_bl, ↓cop_eq_non, ↓cop_ne_non, ↓cop_is_n, ↓cop_is_b, ↓cop_isnot_n, ↓cop_isnot_b, ↓cop_isin_lst, ↓cop_isin_tup, ↓cop_notin_lst, ↓cop_notin_tup, ↓tru_non, ↓tru_bl, ↓tru_int, ↓tru_tup, ↓tru_lst, ↓seq_tup, ↓itm_tup, ↓seq_lst, ↓itm_lst, ↓seq_frz, ↓itm_frz, ↓itm_itr, ↓seq_ref, ↓itm_ref, ↓seq_ti, ↓itm_ti, ↓onO_s, ↓nth_0, ↓nth_1, ↓nth_2, ↓nth_3, ↓nth_4, ↓nth_5, ↓nth_6, ↓nth_7, ↓nth_8, ↓nth_9, ↓nth_10, ↓nth_11, ↓nth_12, ↓bf_len, ↓bf_abs, ↓bf_max, ↓bf_min, ↓bf_int, ↓bf_intb, ↓bf_dm, ↓bf_gcd, ↓bf_all, ↓bf_any, ↓bf_sum, ↓bf_tup, ↓bf_repl, ↓bf_stri, ↓bf_rept, ↓bf_lst, ↓asg_nm, ↓asg_tp, ↓asg_ls, ↓asg_sub, ↓asg_tg, ↓asg_ti, ↓asgs_nil, ↓asgs_cons, ↓mk_f, ↓mk_t, ↓setn_l, ↓setn_r, ↓isn_lst_true, ↓isn_lst_false, ↓isn_tup_true, ↓isn_tup_false, ↓isn_ref_true, ↓isn_ref_false, ↓cnt_t, ↓rev_t, ↓rev_l, ↓rev_ti, ↓onRef_r, ↓two_tt, ↓two_ll, ↓two_tl, ↓two_ti, ↓still_t, ↓still_ti, ↓still_l, ↓cut_tup, ↓cut_lst, ↓cut_frz, ↓cut_ti, ↓bop_titi, ↓cop_eq_ti, ↓cop_ne_ti, non_non, non_int, ty_int_int, ty_bool_int, ty_str_int, ty_tup_int, ty_lst_int, ty_dict_int, non_bl, ty_int_bl, ty_bool_bl, ty_str_bl, ty_tup_bl, ty_lst_bl, ty_dict_bl, non_str, ty_int_str, ty_bool_str, ty_str_str, ty_tup_str, ty_lst_str, ty_dict_str, non_tup, ty_int_tup, ty_bool_tup, ty_str_tup, ty_tup_tup, ty_lst_tup, ty_dict_tup, non_lst, ty_int_lst, ty_bool_lst, ty_str_lst, ty_tup_lst, ty_lst_lst, ty_dict_lst, ty_int_non, ty_int_ti, ty_bool_non, ty_bool_ti, ty_str_non, ty_str_ti, ty_tup_non, ty_tup_ti, ty_lst_non, ty_lst_ti, ty_dict_non, ty_dict_ti, ty_int_rep, ty_int_dic, ty_bool_rep, ty_bool_dic, ty_str_rep, ty_str_dic, ty_tup_rep, ty_tup_dic, ty_lst_rep, ty_lst_dic, ty_dict_rep, ty_dict_dic, ta_tup, ta_lst, ta_ti, ta_int, ta_bl, ta_str, ta_non, st_0, st_1, st_2, st_3, st_4, st_5, st_6, st_7, st_8, st_9, st_10, st_11, st_12, st_13, st_14, st_15, st_16, st_17, st_18, st_19, st_20, st_21, st_22, st_23, bp_nm, bp_tp, bp_ls, bp_ti, bps_nil, bps_nm, sts_nil, sts_cons, rowr_l, rowr_r, cat_d, wp0_nil, wp_0, wp_1, wp_2, wp_3, wp_4, wp_5, wp_6, wp_7, wp_8, wp_9, wp_10, wp_11, wp_12, wp_13, wp_14, wp_15, wp_16, wp_17, wp_18, wp_19, wp_20, wp_21, wp_22, wp_23, rng_1, rng_2, rng_3, rng_4, rng_5, rng_6, rng_7, brkT, brkF, ti1, ti2, ti3, ti4, ti5, ti6, ti_map, eq_ti, pick, List.cons_append, List.nil_append, List.map_cons, List.map_nil, List.getD_cons_zero, List.getD_cons_succ, Bool.not_true, Bool.not_false]
         exact h)
theorem s_is_view_ofA (hg : Gdw d) (h : k (.bl (isVd d)) S) : CT (n + 6) i_is_view_of [d] S k X := by
  refine c_is_view_of ?_
  cases d with
  | tup ds =>
    obtain ⟨hl, hi⟩ := hg.2 ds rfl
    have hz : ds.length ≤ SZ := by simp [SZ]; omega
    simp only [f_is_view_of, ↓ev_v0, ↓ev_v1, ↓ev_v2, ↓ev_v3, ↓ev_v4, ↓ev_v5, ↓ev_v6, ↓ev_v7, ↓ev_v8, ↓ev_v9, ↓ev_v10, ↓ev_v11, ↓ev_v12, ↓ev_v13, ↓ev_v14, ↓ev_v15, ↓ev_v16, ↓ev_v17, ↓ev_v18, ↓ev_v19, ↓ev_v20, ↓ev_v21, ↓ev_v22, ↓ev_v23, ↓ev_cst, ↓ev_glb, ↓ev_bin, ↓ev_neg, ↓ev_not, ↓ev_cmp, ↓ev_cmp2, ↓ev_and, ↓ev_or, ↓ev_ite, ↓ev_tup, ↓ev_lst, ↓ev_idx, ↓ev_slc, ↓ev_call, ↓ev_callk, ↓ev_bi, ↓ev_isi, ↓ev_isi2, ↓ev_lc, ↓ev_lc2, ↓ev_tcat, ↓ev_rng, ↓ev_rng1, ↓ev_zip, ↓ev_enm, ↓ev_cnt, ↓ev_nset, ↓ev_dct, ↓ev_cat, ↓ev_isn, ↓ev_rev, ↓ev_app, ↓evs_nil, ↓evs_cons, ↓evss_nil, ↓evss_f, ↓evss_t, ↓spr_tup, ↓spr_lst, ↓spr_frz, ↓spr_ti, ↓evo_n, ↓evo_s, ↓evt_n, ↓evt_s, ↓ex_set, ↓ex_par, ↓ex_expr, ↓ex_ret, ↓ex_retN, ↓ex_iff, ↓ex_for, ↓ex_whl, ↓ex_raise, ↓ex_pass, ↓ex_brk, ↓ex_cont, ↓exs_nil, ↓exs_cons, ↓tvf, ↓tvt, ↓asB_bl, ↓asI_i, ↓bop_add, ↓bop_sub, ↓bop_mul, ↓bop_fdv, ↓bop_mod, ↓bop_pow, ↓bop_tt, ↓bop_ll, ↓bop_lm, ↓cop_eq, ↓cop_ne, ↓cop_lt, ↓cop_le, ↓cop_gt, ↓cop_ge, ↓cop_eq_rep, ↓cop_ne_rep, ↓cop_eq_tup, ↓cop_ne_tup, ↓cop_eq_lst, ↓cop_ne_lst, ↓cop_eq_str, ↓cop_ne_str, ↓cop_eq_bl, ↓cop_ne_bl, ↓cop_eq_non, ↓cop_ne_non, ↓cop_is_n, ↓cop_is_b, ↓cop_isnot_n, ↓cop_isnot_b, ↓cop_isin_lst, ↓cop_isin_tup, ↓cop_notin_lst, ↓cop_notin_tup, ↓tru_non, ↓tru_bl, ↓tru_int, ↓tru_tup, ↓tru_lst, ↓seq_tup, ↓itm_tup, ↓seq_lst, ↓itm_lst, ↓seq_frz, ↓itm_frz, ↓itm_itr, ↓seq_ref, ↓itm_ref, ↓seq_ti, ↓itm_ti, ↓onO_s, ↓nth_0, ↓nth_1, ↓nth_2, ↓nth_3, ↓nth_4, ↓nth_5, ↓nth_6, ↓nth_7, ↓nth_8, ↓nth_9, ↓nth_10, ↓nth_11, ↓nth_12, ↓bf_len, ↓bf_abs, ↓bf_max, ↓bf_min, ↓bf_int, ↓bf_intb, ↓bf_dm, ↓bf_gcd, ↓bf_all, ↓bf_any, ↓bf_sum, ↓bf_tup, ↓bf_repl, ↓bf_stri, ↓bf_rept, ↓bf_lst, ↓asg_nm, ↓asg_tp, ↓asg_ls, ↓asg_sub, ↓asg_tg, ↓asg_ti, ↓asgs_nil, ↓asgs_cons, ↓mk_f, ↓mk_t, ↓setn_l, ↓setn_r, ↓isn_lst_true, ↓isn_lst_false, ↓isn_tup_true, ↓isn_tup_false, ↓isn_ref_true, ↓isn_ref_false, ↓cnt_t, ↓rev_t, ↓rev_l, ↓rev_ti, ↓onRef_r, ↓two_tt, ↓two_ll, ↓two_tl, ↓two_ti, ↓still_t, ↓still_ti, ↓still_l, ↓cut_tup, ↓cut_lst, ↓cut_frz, ↓cut_ti, ↓bop_titi, ↓cop_eq_ti, ↓cop_ne_ti, non_non, non_int, ty_int_int, ty_bool_int, ty_str_int, ty_tup_int, ty_lst_int, ty_dict_int, non_bl, ty_int_bl, ty_bool_bl, ty_str_bl, ty_tup_bl, ty_lst_bl, ty_dict_bl, non_str, ty_int_str, ty_bool_str, ty_str_str, ty_tup_str, ty_lst_str, ty_dict_str, non_tup, ty_int_tup, ty_bool_tup, ty_str_tup, ty_tup_tup, ty_lst_tup, ty_dict_tup, non_lst, ty_int_lst, ty_bool_lst, ty_str_lst, ty_tup_lst, ty_lst_lst, ty_dict_lst, ty_int_non, ty_int_ti, ty_bool_non, ty_bool_ti, ty_str_non, ty_str_ti, ty_tup_non, ty_tup_ti, ty_lst_non, ty_lst_ti, ty_dict_non, ty_dict_ti, ty_int_rep, ty_int_dic, ty_bool_rep, ty_bool_dic, ty_str_rep, ty_str_dic, ty_tup_rep, ty_tup_dic, ty_lst_rep, ty_lst_dic, ty_dict_rep, ty_dict_dic, ta_tup, ta_lst, ta_ti, ta_int, ta_bl, ta_str, ta_non, st_0, st_1, st_2, st_3, st_4, st_5, st_6, st_7, st_8, st_9, st_10, st_11, st_12, st_13, st_14, st_15, st_16, st_17, st_18, st_19, st_20, st_21, st_22, st_23, bp_nm, bp_tp, bp_ls, bp_ti, bps_nil, bps_nm, sts_nil, sts_cons, rowr_l, rowr_r, cat_d, wp0_nil, wp_0, wp_1, wp_2, wp_3, wp_4, wp_5, wp_6, wp_7, wp_8, wp_9, wp_10, wp_11, wp_12, wp_13, wp_14, wp_15, wp_16, wp_17, wp_18, wp_19, wp_20, wp_21, wp_22, wp_23, rng_1, rng_2, rng_3, rng_4, rng_5, rng_6, rng_7, brkT, brkF, ti1, ti2, ti3, ti4, ti5, ti6, ti_map, eq_ti, pick, List.cons_append, List.nil_append, List.map_cons, List.map_nil, List.getD_cons_zero, List.getD_cons_succ, Bool.not_true, Bool.not_false]
    refine s_is_tuple_of ?_
    by_cases q : (ds.length : Int) = 3
    · simp only [q, decide_true, ↓ev_v0, ↓ev_v1, ↓ev_v2, ↓ev_v3, ↓ev_v4, ↓ev_v5, ↓ev_v6, ↓ev_v7, ↓ev_v8, ↓ev_v9, ↓ev_v10, ↓ev_v11, ↓ev_v12, ↓ev_v13, ↓ev_v14, ↓ev_v15, ↓ev_v16, ↓ev_v17, ↓ev_v18, ↓ev_v19, ↓ev_v20, ↓ev_v21, ↓ev_v22, ↓ev_v23, ↓ev_cst, ↓ev_glb, ↓ev_bin, ↓ev_neg, ↓ev_not, ↓ev_cmp, ↓ev_cmp2, ↓ev_and, ↓ev_or, ↓ev_ite, ↓ev_tup, ↓ev_lst, ↓ev_idx, ↓ev_slc, ↓ev_call, ↓ev_callk, ↓ev_bi, ↓ev_isi, ↓ev_isi2, ↓ev_lc, ↓ev_lc2, ↓ev_tcat, ↓ev_rng, ↓ev_rng1, ↓ev_zip, ↓ev_enm, ↓ev_cnt, ↓ev_nset, ↓ev_dct, ↓ev_cat, ↓ev_isn, ↓ev_rev, ↓ev_app, ↓evs_nil, ↓evs_cons, ↓evss_nil, ↓evss_f, ↓evss_t, ↓spr_tup, ↓spr_lst, ↓spr_frz, ↓spr_ti, ↓evo_n, ↓evo_s, ↓evt_n, ↓evt_s, ↓ex_set, ↓ex_par, ↓ex_expr, ↓ex_ret, ↓ex_retN, ↓ex_iff, ↓ex_for, ↓ex_whl, ↓ex_raise, ↓ex_pass, ↓ex_brk, ↓ex_cont, ↓exs_nil, ↓exs_cons, ↓tvf, ↓tvt, ↓asB_bl, ↓asI_i, ↓bop_add, ↓bop_sub, ↓bop_mul, ↓bop_fdv, ↓bop_mod, ↓bop_pow, ↓bop_tt, ↓bop_ll, ↓bop_lm, ↓cop_eq, ↓cop_ne, ↓cop_lt, ↓cop_le, ↓cop_gt, ↓cop_ge, ↓cop_eq_rep, ↓cop_ne_rep, ↓cop_eq_tup, ↓cop_ne_tup, ↓cop_eq_lst, ↓cop_ne_lst, ↓cop_eq_str, ↓cop_ne_str, ↓cop_eq_bl, ↓cop_ne_bl, ↓cop_eq_non, ↓cop_ne_non, ↓cop_is_n, ↓cop_is_b, ↓cop_isnot_n, ↓cop_isnot_b, ↓cop_isin_lst, ↓cop_isin_tup, ↓cop_notin_lst, ↓cop_notin_tup, ↓tru_non, ↓tru_bl, ↓tru_int, ↓tru_tup, ↓tru_lst, ↓seq_tup, ↓itm_tup, ↓seq_lst, ↓itm_lst, ↓seq_frz, ↓itm_frz, ↓itm_itr, ↓seq_ref, ↓itm_ref, ↓seq_ti, ↓itm_ti, ↓onO_s, ↓nth_0, ↓nth_1, ↓nth_2, ↓nth_3, ↓nth_4, ↓nth_5, ↓nth_6, ↓nth_7, ↓nth_8, ↓nth_9, ↓nth_10, ↓nth_11, ↓nth_12, ↓bf_len, ↓bf_abs, ↓bf_max, ↓bf_min, ↓bf_int, ↓bf_intb, ↓bf_dm, ↓bf_gcd, ↓bf_all, ↓bf_any, ↓bf_sum, ↓bf_tup, ↓bf_repl, ↓bf_stri, ↓bf_rept, ↓bf_lst, ↓asg_nm, ↓asg_tp, ↓asg_ls, ↓asg_sub, ↓asg_tg, ↓asg_ti, ↓asgs_nil, ↓asgs_cons, ↓mk_f, ↓mk_t, ↓setn_l, ↓setn_r, ↓isn_lst_true, ↓isn_lst_false, ↓isn_tup_true, ↓isn_tup_false, ↓isn_ref_true, ↓isn_ref_false, ↓cnt_t, ↓rev_t, ↓rev_l, ↓rev_ti, ↓onRef_r, ↓two_tt, ↓two_ll, ↓two_tl, ↓two_ti, ↓still_t, ↓still_ti, ↓still_l, ↓cut_tup, ↓cut_lst, ↓cut_frz, ↓cut_ti, ↓bop_titi, ↓cop_eq_ti, ↓cop_ne_ti, non_non, non_int, ty_int_int, ty_bool_int, ty_str_int, ty_tup_int, ty_lst_int, ty_dict_int, non_bl, ty_int_bl, ty_bool_bl, ty_str_bl, ty_tup_bl, ty_lst_bl, ty_dict_bl, non_str, ty_int_str, ty_bool_str, ty_str_str, ty_tup_str, ty_lst_str, ty_dict_str, non_tup, ty_int_tup, ty_bool_tup, ty_str_tup, ty_tup_tup, ty_lst_tup, ty_dict_tup, non_lst, ty_int_lst, ty_bool_lst, ty_str_lst, ty_tup_lst, ty_lst_lst, ty_dict_lst, ty_int_non, ty_int_ti, ty_bool_non, ty_bool_ti, ty_str_non, ty_str_ti, ty_tup_non, ty_tup_ti, ty_lst_non, ty_lst_ti, ty_dict_non, ty_dict_ti, ty_int_rep, ty_int_dic, ty_bool_rep, ty_bool_dic, ty_str_rep, ty_str_dic, ty_tup_rep, ty_tup_dic, ty_lst_rep, ty_lst_dic, ty_dict_rep, ty_dict_dic, ta_tup, ta_lst, ta_ti, ta_int, ta_bl, ta_str, ta_non, st_0, st_1, st_2, st_3, st_4, st_5, st_6, st_7, st_8, st_9, st_10, st_11, st_12, st_13, st_14, st_15, st_16, st_17, st_18, st_19, st_20, st_21, st_22, st_23, bp_nm, bp_tp, bp_ls, bp_ti, bps_nil, bps_nm, sts_nil, sts_cons, rowr_l, rowr_r, cat_d, wp0_nil, wp_0, wp_1, wp_2, wp_3, wp_4, wp_5, wp_6, wp_7, wp_8, wp_9, wp_10, wp_11, wp_12, wp_13, wp_14, wp_15, wp_16, wp_17, wp_18, wp_19, wp_20, wp_21, wp_22, wp_23, rng_1, rng_2, rng_3, rng_4, rng_5, rng_6, rng_7, brkT, brkF, ti1, ti2, ti3, ti4, ti5, ti6, ti_map, eq_ti, pick, List.cons_append, List.nil_append, List.map_cons, List.map_nil, List.getD_cons_zero, List.getD_cons_succ, Bool.not_true, Bool.not_false]
      refine ⟨hz, fcD (f := fun d => .bl (rowInt d)) (fun d hd k2 h2 => ?_) ?_⟩
      · simp only [lc_app', ↓ev_v0, ↓ev_v1, ↓ev_v2, ↓ev_v3, ↓ev_v4, ↓ev_v5, ↓ev_v6, ↓ev_v7, ↓ev_v8, ↓ev_v9, ↓ev_v10, ↓ev_v11, ↓ev_v12, ↓ev_v13, ↓ev_v14, ↓ev_v15, ↓ev_v16, ↓ev_v17, ↓ev_v18, ↓ev_v19, ↓ev_v20, ↓ev_v21, ↓ev_v22, ↓ev_v23, ↓ev_cst, ↓ev_glb, ↓ev_bin, ↓ev_neg, ↓ev_not, ↓ev_cmp, ↓ev_cmp2, ↓ev_and, ↓ev_or, ↓ev_ite, ↓ev_tup, ↓ev_lst, ↓ev_idx, ↓ev_slc, ↓ev_call, ↓ev_callk, ↓ev_bi, ↓ev_isi, ↓ev_isi2, ↓ev_lc, ↓ev_lc2, ↓ev_tcat, ↓ev_rng, ↓ev_rng1, ↓ev_zip, ↓ev_enm, ↓ev_cnt, ↓ev_nset, ↓ev_dct, ↓ev_cat, ↓ev_isn, ↓ev_rev, ↓ev_app, ↓evs_nil, ↓evs_cons, ↓evss_nil, ↓evss_f, ↓evss_t, ↓spr_tup, ↓spr_lst, ↓spr_frz, ↓spr_ti, ↓evo_n, ↓evo_s, ↓evt_n, ↓evt_s, ↓ex_set, ↓ex_par, ↓ex_expr, ↓ex_ret, ↓ex_retN, ↓ex_iff, ↓ex_for, ↓ex_whl, ↓ex_raise, ↓ex_pass, ↓ex_brk, ↓ex_cont, ↓exs_nil, ↓exs_cons, ↓tvf, ↓tvt, ↓asB_bl, ↓asI_i, ↓bop_add, ↓bop_sub, ↓bop_mul, ↓bop_fdv, ↓bop_mod, ↓bop_pow, ↓bop_tt, ↓bop_ll, ↓bop_lm, ↓cop_eq, ↓cop_ne, ↓cop_lt, ↓cop_le, ↓cop_gt, ↓cop_ge, ↓cop_eq_rep, ↓cop_ne_rep, ↓cop_eq_tup, ↓cop_ne_tup, ↓cop_eq_lst, ↓cop_ne_lst, ↓cop_eq_str, ↓cop_ne_str, ↓cop_eq_bl, ↓cop_ne_bl, ↓cop_eq_non, ↓cop_ne_non, ↓cop_is_n, ↓cop_is_b, ↓cop_isnot_n, ↓cop_isnot_b, ↓cop_isin_lst, ↓cop_isin_tup, ↓cop_notin_lst, ↓cop_notin_tup, ↓tru_non, ↓tru_bl, ↓tru_int, ↓tru_tup, ↓tru_lst, ↓seq_tup, ↓itm_tup, ↓seq_lst, ↓itm_lst, ↓seq_frz, ↓itm_frz, ↓itm_itr, ↓seq_ref, ↓itm_ref, ↓seq_ti, ↓itm_ti, ↓onO_s, ↓nth_0, ↓nth_1, ↓nth_2, ↓nth_3, ↓nth_4, ↓nth_5, ↓nth_6, ↓nth_7, ↓nth_8, ↓nth_9, ↓nth_10, ↓nth_11, ↓nth_12, ↓bf_len, ↓bf_abs, ↓bf_max, ↓bf_min, ↓bf_int, ↓bf_intb, ↓bf_dm, ↓bf_gcd, ↓bf_all, ↓bf_any, ↓bf_sum, ↓bf_tup, ↓bf_repl, ↓bf_stri, ↓bf_rept, ↓bf_lst, ↓asg_nm, ↓asg_tp, ↓asg_ls, ↓asg_sub, ↓asg_tg, ↓asg_ti, ↓asgs_nil, ↓asgs_cons, ↓mk_f, ↓mk_t, ↓setn_l, ↓setn_r, ↓isn_lst_true, ↓isn_lst_false, ↓isn_tup_true, ↓isn_tup_false, ↓isn_ref_true, ↓isn_ref_false, ↓cnt_t, ↓rev_t, ↓rev_l, ↓rev_ti, ↓onRef_r, ↓two_tt, ↓two_ll, ↓two_tl, ↓two_ti, ↓still_t, ↓still_ti, ↓still_l, ↓cut_tup, ↓cut_lst, ↓cut_frz, ↓cut_ti, ↓bop_titi, ↓cop_eq_ti, ↓cop_ne_ti, non_non, non_int, ty_int_int, ty_bool_int, ty_str_int, ty_tup_int, ty_lst_int, ty_dict_int, non_bl, ty_int_bl, ty_bool_bl, ty_str_bl, ty_tup_bl, ty_lst_bl, ty_dict_bl, non_str, ty_int_str, ty_bool_str, ty_str_str, ty_tup_str, ty_lst_str, ty_dict_str, non_tup, ty_int_tup, ty_bool_tup, ty_str_tup, ty_tup_tup, ty_lst_tup, ty_dict_tup, non_lst, ty_int_lst, ty_bool_lst, ty_str_lst, ty_tup_lst, ty_lst_lst, ty_dict_lst, ty_int_non, ty_int_ti, ty_bool_non, ty_bool_ti, ty_str_non, ty_str_ti, ty_tup_non, ty_tup_ti, ty_lst_non, ty_lst_ti, ty_dict_non, ty_dict_ti, ty_int_rep, ty_int_dic, ty_bool_rep, ty_bool_dic, ty_str_rep, ty_str_dic, ty_tup_rep, ty_tup_dic, ty_lst_rep, ty_lst_dic, ty_dict_rep, ty_dict_dic, ta_tup, ta_lst, ta_ti, ta_int, ta_bl, ta_str, ta_non, st_0, st_1, st_2, st_3, st_4, st_5, st_6, st_7, st_8, st_9, st_10, st_11, st_12, st_13, st_14, st_15, st_16, st_17, st_18, st_19, st_20, st_21, st_22, st_23, bp_nm, bp_tp, bp_ls, bp_ti, bps_nil, bps_nm, sts_nil, sts_cons, rowr_l, rowr_r, cat_d, wp0_nil, wp_0, wp_1, wp_2, wp_3, wp_4, wp_5, wp_6, wp_7, wp_8, wp_9, wp_10, wp_11, wp_12, wp_13, wp_14, wp_15, wp_16, wp_17, wp_18, wp_19, wp_20, wp_21, wp_22, wp_23, rng_1, rng_2, rng_3, rng_4, rng_5, rng_6, rng_7, brkT, brkF, ti1, ti2, ti3, ti4, ti5, ti6, ti_map, eq_ti, pick, List.cons_append, List.nil_append, List.map_cons, List.map_nil, List.getD_cons_zero, List.getD_cons_succ, Bool.not_true, Bool.not_false]
        exact s_are_wholeR (hi d hd).1 h2
      · rw [bls_R, onO_s, all_idR]
        cases e : ds.all rowInt with
        | false =>
          rw [isV_f (.inr e)] at h
          exact brk_t rfl h
        | true =>
          refine brk_f rfl ?_
          obtain ⟨m, rfl⟩ := rows_m q e
          have b1 := gdv_bv (hi (vD m.a) (by simp)).1
          have b2 := gdv_bv (hi (vD m.b) (by simp)).1
          have b3 := gdv_bv (hi (vD m.c) (by simp)).1
          rw [show isVd (.tup [vD m.a, vD m.b, vD m.c]) = decide (Vw m) from isV_m] at h
          simp only [↓ev_v0, ↓ev_v1, ↓ev_v2, ↓ev_v3, ↓ev_v4, ↓ev_v5, ↓ev_v6, ↓ev_v7, ↓ev_v8, ↓ev_v9, ↓ev_v10, ↓ev_v11, ↓ev_v12, ↓ev_v13, ↓ev_v14, ↓ev_v15, ↓ev_v16, ↓ev_v17, ↓ev_v18, ↓ev_v19, ↓ev_v20, ↓ev_v21, ↓ev_v22, ↓ev_v23, ↓ev_cst, ↓ev_glb, ↓ev_bin, ↓ev_neg, ↓ev_not, ↓ev_cmp, ↓ev_cmp2, ↓ev_and, ↓ev_or, ↓ev_ite, ↓ev_tup, ↓ev_lst, ↓ev_idx, ↓ev_slc, ↓ev_call, ↓ev_callk, ↓ev_bi, ↓ev_isi, ↓ev_isi2, ↓ev_lc, ↓ev_lc2, ↓ev_tcat, ↓ev_rng, ↓ev_rng1, ↓ev_zip, ↓ev_enm, ↓ev_cnt, ↓ev_nset, ↓ev_dct, ↓ev_cat, ↓ev_isn, ↓ev_rev, ↓ev_app, ↓evs_nil, ↓evs_cons, ↓evss_nil, ↓evss_f, ↓evss_t, ↓spr_tup, ↓spr_lst, ↓spr_frz, ↓spr_ti, ↓evo_n, ↓evo_s, ↓evt_n, ↓evt_s, ↓ex_set, ↓ex_par, ↓ex_expr, ↓ex_ret, ↓ex_retN, ↓ex_iff, ↓ex_for, ↓ex_whl, ↓ex_raise, ↓ex_pass, ↓ex_brk, ↓ex_cont, ↓exs_nil, ↓exs_cons, ↓tvf, ↓tvt, ↓asB_bl, ↓asI_i, ↓bop_add, ↓bop_sub, ↓bop_mul, ↓bop_fdv, ↓bop_mod, ↓bop_pow, ↓bop_tt, ↓bop_ll, ↓bop_lm, ↓cop_eq, ↓cop_ne, ↓cop_lt, ↓cop_le, ↓cop_gt, ↓cop_ge, ↓cop_eq_rep, ↓cop_ne_rep, ↓cop_eq_tup, ↓cop_ne_tup, ↓cop_eq_lst, ↓cop_ne_lst, ↓cop_eq_str, ↓cop_ne_str, ↓cop_eq_bl, ↓cop_ne_bl, ↓cop_eq_non, ↓cop_ne_non, ↓cop_is_n, ↓cop_is_b, ↓cop_isnot_n, ↓cop_isnot_b, ↓cop_isin_lst, ↓cop_isin_tup, ↓cop_notin_lst, ↓cop_notin_tup, ↓tru_non, ↓tru_bl, ↓tru_int, ↓tru_tup, ↓tru_lst, ↓seq_tup, ↓itm_tup, ↓seq_lst, ↓itm_lst, ↓seq_frz, ↓itm_frz, ↓itm_itr, ↓seq_ref, ↓itm_ref, ↓seq_ti, ↓itm_ti, ↓onO_s, ↓nth_0, ↓nth_1, ↓nth_2, ↓nth_3, ↓nth_4, ↓nth_5, ↓nth_6, ↓nth_7, ↓nth_8, ↓nth_9, ↓nth_10, ↓nth_11, ↓nth_12, ↓bf_len, ↓bf_abs, ↓bf_max, ↓bf_min, ↓bf_int, ↓bf_intb, ↓bf_dm, ↓bf_gcd, ↓bf_all, ↓bf_any, ↓bf_sum, ↓bf_tup, ↓bf_repl, ↓bf_stri, ↓bf_rept, ↓bf_lst, ↓asg_nm, ↓asg_tp, ↓asg_ls, ↓asg_sub, ↓asg_tg, ↓asg_ti, ↓asgs_nil, ↓asgs_cons, ↓mk_f, ↓mk_t, ↓setn_l, ↓setn_r, ↓isn_lst_true, ↓isn_lst_false, ↓isn_tup_true, ↓isn_tup_false, ↓isn_ref_true, ↓isn_ref_false, ↓cnt_t, ↓rev_t, ↓rev_l, ↓rev_ti, ↓onRef_r, ↓two_tt, ↓two_ll, ↓two_tl, ↓two_ti, ↓still_t, ↓still_ti, ↓still_l, ↓cut_tup, ↓cut_lst, ↓cut_frz, ↓cut_ti, ↓bop_titi, ↓cop_eq_ti, ↓cop_ne_ti, non_non, non_int, ty_int_int, ty_bool_int, ty_str_int, ty_tup_int, ty_lst_int, ty_dict_int, non_bl, ty_int_bl, ty_bool_bl, ty_str_bl, ty_tup_bl, ty_lst_bl, ty_dict_bl, non_str, ty_int_str, ty_bool_str, ty_str_str, ty_tup_str, ty_lst_str, ty_dict_str, non_tup, ty_int_tup, ty_bool_tup, ty_str_tup, ty_tup_tup, ty_lst_tup, ty_dict_tup, non_lst, ty_int_lst, ty_bool_lst, ty_str_lst, ty_tup_lst, ty_lst_lst, ty_dict_lst, ty_int_non, ty_int_ti, ty_bool_non, ty_bool_ti, ty_str_non, ty_str_ti, ty_tup_non, ty_tup_ti, ty_lst_non, ty_lst_ti, ty_dict_non, ty_dict_ti, ty_int_rep, ty_int_dic, ty_bool_rep, ty_bool_dic, ty_str_rep, ty_str_dic, ty_tup_rep, ty_tup_dic, ty_lst_rep, ty_lst_dic, ty_dict_rep, ty_dict_dic, ta_tup, ta_lst, ta_ti, ta_int, ta_bl, ta_str, ta_non, st_0, st_1, st_2, st_3, st_4, st_5, st_6, st_7, st_8, st_9, st_10, st_11, st_12, st_13, st_14, st_15, st_16, st_17, st_18, st_19, st_20, st_21, st_22, st_23, bp_nm, bp_tp, bp_ls, bp_ti, bps_nil, bps_nm, sts_nil, sts_cons, rowr_l, rowr_r, cat_d, wp0_nil, wp_0, wp_1, wp_2, wp_3, wp_4, wp_5, wp_6, wp_7, wp_8, wp_9, wp_10, wp_11, wp_12, wp_13, wp_14, wp_15, wp_16, wp_17, wp_18, wp_19, wp_20, wp_21, wp_22, wp_23, rng_1, rng_2, rng_3, rng_4, rng_5, rng_6, rng_7, brkT, brkF, ti1, ti2, ti3, ti4, ti5, ti6, ti_map, eq_ti, pick, List.cons_append, List.nil_append, List.map_cons, List.map_nil, List.getD_cons_zero, List.getD_cons_succ, Bool.not_true, Bool.not_false, ↓seq_v, ↓seq_f, ↓itm_v, ↓itm_f, ↓asg_v, ↓asg_f, bp_v, bp_f, bps_tv, bps_tf, ↓two_vv, ↓two_vt, ↓two_tv, ↓two_ff, ↓still_v, ↓cut_v, ↓cop_eq_v, ↓cop_ne_v, ↓cop_eq_f, ↓cop_ne_f, inD_n, inD_c, pures_c, pures_n, pure_vT, pure_fT, pure_iT, pure_bT, pure_nT, eq_v, eq_f, Bool.or_false, and_self, ↓tru_v, non_v, non_f, ty_v, ty_f, ta_v, ta_f, ↓bop_vv, ↓bop_6v, ↓cut_9a, ↓cut_9b, ↓cut_9c, tup3, tup2, v_ti, f_ti, zipD, wp_cc, true_and, decide_true, decide_false, eq_self, sz_0, sz_1, sz_2, sz_3, sz_4, sz_5, sz_6, sz_7, sz_8, sz_9, sz_10, sz_11, sz_12, enm_1, enm_2, enm_3, enm_4, enm_5, enm_6, enm_7, enm_8, enm_9, enm_10, len_1, len_2, len_3, len_4, len_5, len_6, len_7, len_8, len_9, len_10]
          refine s_is_plainG (ns := m.l) (by simp [M3.l, SZ]) rfl ?_
          by_cases g : Prim m.l
          · rw [decide_eq_true g]
            try walk_at "fx"
            refine s_block_v b1 b2 b3 (by decide) ?_
            try walk_at "fx"
            have e3 : decide (Vw m) = !decide (bk m.a m.b m.c = 0) := by
              by_cases z : bk m.a m.b m.c = 0
              · rw [decide_eq_true z, decide_eq_false fun w : Vw m => w.2 z]; rfl
              · rw [decide_eq_false z]
                exact decide_eq_true (⟨g, z⟩ : Vw m)
            rw [e3] at h
            exact h
          · rw [decide_eq_false g]
            try walk_at "fx"
            rw [decide_eq_false fun w : Vw m => g w.1] at h
            exact h
    · have e2 := isV_f (.inl q)
      rw [e2] at h
      simp only [q, decide_false, ↓ev_v0, ↓ev_v1, ↓ev_v2, ↓ev_v3, ↓ev_v4, ↓ev_v5, ↓ev_v6, ↓ev_v7, ↓ev_v8, ↓ev_v9, ↓ev_v10, ↓ev_v11, ↓ev_v12, ↓ev_v13, ↓ev_v14, ↓ev_v15, ↓ev_v16, ↓ev_v17, ↓ev_v18, ↓ev_v19, ↓ev_v20, ↓ev_v21, ↓ev_v22, ↓ev_v23, ↓ev_cst, ↓ev_glb, ↓ev_bin, ↓ev_neg, ↓ev_not, ↓ev_cmp, ↓ev_cmp2, ↓ev_and, ↓ev_or, ↓ev_ite, ↓ev_tup, ↓ev_lst, ↓ev_idx, ↓ev_slc, ↓ev_call, ↓ev_callk, ↓ev_bi, ↓ev_isi, ↓ev_isi2, ↓ev_lc, ↓ev_lc2, ↓ev_tcat, ↓ev_rng, ↓ev_rng1, ↓ev_zip, ↓ev_enm, ↓ev_cnt, ↓ev_nset, ↓ev_dct, ↓ev_cat, ↓ev_isn, ↓ev_rev, ↓ev_app, ↓evs_nil, ↓evs_cons, ↓evss_nil, ↓evss_f, ↓evss_t, ↓spr_tup, ↓spr_lst, ↓spr_frz, ↓spr_ti, ↓evo_n, ↓evo_s, ↓evt_n, ↓evt_s, ↓ex_set, ↓ex_par, ↓ex_expr, ↓ex_ret, ↓ex_retN, ↓ex_iff, ↓ex_for, ↓ex_whl, ↓ex_raise, ↓ex_pass, ↓ex_brk, ↓ex_cont, ↓exs_nil, ↓exs_cons, ↓tvf, ↓tvt, ↓asB_bl, ↓asI_i, ↓bop_add, ↓bop_sub, ↓bop_mul, ↓bop_fdv, ↓bop_mod, ↓bop_pow, ↓bop_tt, ↓bop_ll, ↓bop_lm, ↓cop_eq, ↓cop_ne, ↓cop_lt, ↓cop_le, ↓cop_gt, ↓cop_ge, ↓cop_eq_rep, ↓cop_ne_rep, ↓cop_eq_tup, ↓cop_ne_tup, ↓cop_eq_lst, ↓cop_ne_lst, ↓cop_eq_str, ↓cop_ne_str, ↓cop_eq_bl, ↓cop_ne_bl, ↓cop_eq_non, ↓cop_ne_non, ↓cop_is_n, ↓cop_is_b, ↓cop_isnot_n, ↓cop_isnot_b, ↓cop_isin_lst, ↓cop_isin_tup, ↓cop_notin_lst, ↓cop_notin_tup, ↓tru_non, ↓tru_bl, ↓tru_int, ↓tru_tup, ↓tru_lst, ↓seq_tup, ↓itm_tup, ↓seq_lst, ↓itm_lst, ↓seq_frz, ↓itm_frz, ↓itm_itr, ↓seq_ref, ↓itm_ref, ↓seq_ti, ↓itm_ti, ↓onO_s, ↓nth_0, ↓nth_1, ↓nth_2, ↓nth_3, ↓nth_4, ↓nth_5, ↓nth_6, ↓nth_7, ↓nth_8, ↓nth_9, ↓nth_10, ↓nth_11, ↓nth_12, ↓bf_len, ↓bf_abs, ↓bf_max, ↓bf_min, ↓bf_int, ↓bf_intb, ↓bf_dm, ↓bf_gcd, ↓bf_all, ↓bf_any, ↓bf_sum, ↓bf_tup, ↓bf_repl, ↓bf_stri, ↓bf_rept, ↓bf_lst, ↓asg_nm, ↓asg_tp, ↓asg_ls, ↓asg_sub, ↓asg_tg, ↓asg_ti, ↓asgs_nil, ↓asgs_cons, ↓mk_f, ↓mk_t, ↓setn_l, ↓setn_r, ↓isn_lst_true, ↓isn_lst_false, ↓isn_tup_true, ↓isn_tup_false, ↓isn_ref_true, ↓isn_ref_false, ↓cnt_t, ↓rev_t, ↓rev_l, ↓rev_ti, ↓onRef_r, ↓two_tt, ↓two_ll, ↓two_tl, ↓two_ti, ↓still_t, ↓still_ti, ↓still_l, ↓cut_tup, ↓cut_lst, ↓cut_frz, ↓cut_ti, ↓bop_titi, ↓cop_eq_ti, ↓cop_ne_ti, non_non, non_int, ty_int_int, ty_bool_int, ty_str_int, ty_tup_int, ty_lst_int, ty_dict_int, non_bl, ty_int_bl, ty_bool_bl, ty_str_bl, ty_tup_bl, ty_lst_bl, ty_dict_bl, non_str, ty_int_str, ty_bool_str, ty_str_str, ty_tup_str, ty_lst_str, ty_dict_str, non_tup, ty_int_tup, ty_bool_tup, ty_str_tup, ty_tup_tup, ty_lst_tup, ty_dict_tup, non_lst, ty_int_lst, ty_bool_lst, ty_str_lst, ty_tup_lst, ty_lst_lst, ty_dict_lst, ty_int_non, ty_int_ti, ty_bool_non, ty_bool_ti, ty_str_non, ty_str_ti, ty_tup_non, ty_tup_ti, ty_lst_non, ty_lst_ti, ty_dict_non, ty_dict_ti, ty_int_rep, ty_int_dic, ty_bool_rep, ty_bool_dic, ty_str_rep, ty_str_dic, ty_tup_rep, ty_tup_dic, ty_lst_rep, ty_lst_dic, ty_dict_rep, ty_dict_dic, ta_tup, ta_lst, ta_ti, ta_int, ta_bl, ta_str, ta_non, st_0, st_1, st_2, st_3, st_4, st_5, st_6, st_7, st_8, st_9, st_10, st_11, st_12, st_13, st_14, st_15, st_16, st_17, st_18, st_19, st_20, st_21, st_22, st_23, bp_nm, bp_tp, bp_ls, bp_ti, bps_nil, bps_nm, sts_nil, sts_cons, rowr_l, rowr_r, cat_d, wp0_nil, wp_0, wp_1, wp_2, wp_3, wp_4, wp_5, wp_6, wp_7, wp_8, wp_9, wp_10, wp_11, wp_12, wp_13, wp_14, wp_15, wp_16, wp_17, wp_18, wp_19, wp_20, wp_21, wp_22, wp_23, rng_1, rng_2, rng_3, rng_4, rng_5, rng_6, rng_7, brkT, brkF, ti1, ti2, ti3, ti4, ti5, ti6, ti_map, eq_ti, pick, List.cons_append, List.nil_append, List.map_cons, List.map_nil, List.getD_cons_zero, List.getD_cons_succ, Bool.not_true, Bool.not_false]
      exact h
  | _ =>
    first
      | (cases hg.1; done)
      | (simp only [f_is_view_of, ↓ev_v0, ↓ev_v1, ↓ev_v2, ↓ev_v3, ↓ev_v4, ↓ev_v5, ↓ev_v6, ↓ev_v7, ↓ev_v8, ↓ev_v9, ↓ev_v10, ↓ev_v11, ↓ev_v12, ↓ev_v13, ↓ev_v14, ↓ev_v15, ↓ev_v16, ↓ev_v17, ↓ev_v18, ↓ev_v19, ↓ev_v20, ↓ev_v21, ↓ev_v22, ↓ev_v23, ↓ev_cst, ↓ev_glb, ↓ev_bin, ↓ev_neg, ↓ev_not, ↓ev_cmp, ↓ev_cmp2, ↓ev_and, ↓ev_or, ↓ev_ite, ↓ev_tup, ↓ev_lst, ↓ev_idx, ↓ev_slc, ↓ev_call, ↓ev_callk, ↓ev_bi, ↓ev_isi, ↓ev_isi2, ↓ev_lc, ↓ev_lc2, ↓ev_tcat, ↓ev_rng, ↓ev_rng1, ↓ev_zip, ↓ev_enm, ↓ev_cnt, ↓ev_nset, ↓ev_dct, ↓ev_cat, ↓ev_isn, ↓ev_rev, ↓ev_app, ↓evs_nil, ↓evs_cons, ↓evss_nil, ↓evss_f, ↓evss_t, ↓spr_tup, ↓spr_lst, ↓spr_frz, ↓spr_ti, ↓evo_n, ↓evo_s, ↓evt_n, ↓evt_s, ↓ex_set, ↓ex_par, ↓ex_expr, ↓ex_ret, ↓ex_retN, ↓ex_iff, ↓ex_for, ↓ex_whl, ↓ex_raise, ↓ex_pass, ↓ex_brk, ↓ex_cont, ↓exs_nil, ↓exs_cons, ↓tvf, ↓tvt, ↓asB_bl, ↓asI_i, ↓bop_add, ↓bop_sub, ↓bop_mul, ↓bop_fdv, ↓bop_mod, ↓bop_pow, ↓bop_tt, ↓bop_ll, ↓bop_lm, ↓cop_eq, ↓cop_ne, ↓cop_lt, ↓cop_le, ↓cop_gt, ↓cop_ge, ↓cop_eq_rep, ↓cop_ne_rep, ↓cop_eq_tup, ↓cop_ne_tup, ↓cop_eq_lst, ↓cop_ne_lst, ↓cop_eq_str, ↓cop_ne_str, ↓cop_eq_bl, ↓cop_ne_bl, ↓cop_eq_non, ↓cop_ne_non, ↓cop_is_n, ↓cop_is_b, ↓cop_isnot_n, ↓cop_isnot_b, ↓cop_isin_lst, ↓cop_isin_tup, ↓cop_notin_lst, ↓cop_notin_tup, ↓tru_non, ↓tru_bl, ↓tru_int, ↓tru_tup, ↓tru_lst, ↓seq_tup, ↓itm_tup, ↓seq_lst, ↓itm_lst, ↓seq_frz, ↓itm_frz, ↓itm_itr, ↓seq_ref, ↓itm_ref, ↓seq_ti, ↓itm_ti, ↓onO_s, ↓nth_0, ↓nth_1, ↓nth_2, ↓nth_3, ↓nth_4, ↓nth_5, ↓nth_6, ↓nth_7, ↓nth_8, ↓nth_9, ↓nth_10, ↓nth_11, ↓nth_12, ↓bf_len, ↓bf_abs, ↓bf_max, ↓bf_min, ↓bf_int, ↓bf_intb, ↓bf_dm, ↓bf_gcd, ↓bf_all, ↓bf_any, ↓bf_sum, ↓bf_tup, ↓bf_repl, ↓bf_stri, ↓bf_rept, ↓bf_lst, ↓asg_nm, ↓asg_tp, ↓asg_ls, ↓asg_sub, ↓asg_tg, ↓asg_ti, ↓asgs_nil, ↓asgs_cons, ↓mk_f, ↓mk_t, ↓setn_l, ↓setn_r, ↓isn_lst_true, ↓isn_lst_false, ↓isn_tup_true, ↓isn_tup_false, ↓isn_ref_true, ↓isn_ref_false, ↓cnt_t, ↓rev_t, ↓rev_l, ↓rev_ti, ↓onRef_r, ↓two_tt, ↓two_ll, ↓two_tl, ↓two_ti, ↓still_t, ↓still_ti, ↓still_l, ↓cut_tup, ↓cut_lst, ↓cut_frz, ↓cut_ti, ↓bop_titi, ↓cop_eq_ti, ↓cop_ne_ti, non_non, non_int, ty_int_int, ty_bool_int, ty_str_int, ty_tup_int, ty_lst_int, ty_dict_int, non_bl, ty_int_bl, ty_bool_bl, ty_str_bl, ty_tup_bl, ty_lst_bl, ty_dict_bl, non_str, ty_int_str, ty_bool_str, ty_str_str, ty_tup_str, ty_lst_str, ty_dict_str, non_tup, ty_int_tup, ty_bool_tup, ty_str_tup, ty_tup_tup, ty_lst_tup, ty_dict_tup, non_lst, ty_int_lst, ty_bool_lst, ty_str_lst, ty_tup_lst, ty_lst_lst, ty_dict_lst, ty_int_non, ty_int_ti, ty_bool_non, ty_bool_ti, ty_str_non, ty_str_ti, ty_tup_non, ty_tup_ti, ty_lst_non, ty_lst_ti, ty_dict_non, ty_dict_ti, ty_int_rep, ty_int_dic, ty_bool_rep, ty_bool_dic, ty_str_rep, ty_str_dic, ty_tup_rep, ty_tup_dic, ty_lst_rep, ty_lst_dic, ty_dict_rep, ty_dict_dic, ta_tup, ta_lst, ta_ti, ta_int, ta_bl, ta_str, ta_non, st_0, st_1, st_2, st_3, st_4, st_5, st_6, st_7, st_8, st_9, st_10, st_11, st_12, st_13, st_14, st_15, st_16, st_17, st_18, st_19, st_20, st_21, st_22, st_23, bp_nm, bp_tp, bp_ls, bp_ti, bps_nil, bps_nm, sts_nil, sts_cons, rowr_l, rowr_r, cat_d, wp0_nil, wp_0, wp_1, wp_2, wp_3, wp_4, wp_5, wp_6, wp_7, wp_8, wp_9, wp_10, wp_11, wp_12, wp_13, wp_14, wp_15, wp_16, wp_17, wp_18, wp_19, wp_20, wp_21, wp_22, wp_23, rng_1, rng_2, rng_3, rng_4, rng_5, rng_6, rng_7, brkT, brkF, ti1, ti2, ti3, ti4, ti5, ti6, ti_map, eq_ti, pick, List.cons_append, List.nil_append, List.map_cons, List.map_nil, List.getD_cons_zero, List.getD_cons_succ, Bool.not_true, Bool.not_false]
         refine c_is_tuple_of ?_
         simp only [f_is_tuple_of, ↓ev_v0, ↓ev_v1, ↓ev_v2, ↓ev_v3, ↓ev_v4, ↓ev_v5, ↓ev_v6, ↓ev_v7, ↓ev_v8, ↓ev_v9, ↓ev_v10, ↓ev_v11, ↓ev_v12, ↓ev_v13, ↓ev_v14, ↓ev_v15, ↓ev_v16, ↓ev_v17, ↓ev_v18, ↓ev_v19, ↓ev_v20, ↓ev_v21, ↓ev_v22, ↓ev_v23, ↓ev_cst, ↓ev_glb, ↓ev_bin, ↓ev_neg, ↓ev_not, ↓ev_cmp, ↓ev_cmp2, ↓ev_and, ↓ev_or, ↓ev_ite, ↓ev_tup, ↓ev_lst, ↓ev_idx, ↓ev_slc, ↓ev_call, ↓ev_callk, ↓ev_bi, ↓ev_isi, ↓ev_isi2, ↓ev_lc, ↓ev_lc2, ↓ev_tcat, ↓ev_rng, ↓ev_rng1, ↓ev_zip, ↓ev_enm, ↓ev_cnt, ↓ev_nset, ↓ev_dct, ↓ev_cat, ↓ev_isn, ↓ev_rev, ↓ev_app, ↓evs_nil, ↓evs_cons, ↓evss_nil, ↓evss_f, ↓evss_t, ↓spr_tup, ↓spr_lst, ↓spr_frz, ↓spr_ti, ↓evo_n, ↓evo_s, ↓evt_n, ↓evt_s, ↓ex_set, ↓ex_par, ↓ex_expr, ↓ex_ret, ↓ex_retN, ↓ex_iff, ↓ex_for, ↓ex_whl, ↓ex_raise, ↓ex_pass, ↓ex_brk, ↓ex_cont, ↓exs_nil, ↓exs_cons, ↓tvf, ↓tvt, ↓asB_bl, ↓asI_i, ↓bop_add, ↓bop_sub, ↓bop_mul, ↓bop_fdv, ↓bop_mod, ↓bop_pow, ↓bop_tt, ↓bop_ll, ↓bop_lm, ↓cop_eq, ↓cop_ne, ↓cop_lt, ↓cop_le, ↓cop_gt, ↓cop_ge, ↓cop_eq_rep, ↓cop_ne_rep, ↓cop_eq_tup, ↓cop_ne_tup, ↓cop_eq_lst, ↓cop_ne_lst, ↓cop_eq_str, ↓cop_ne_str, ↓cop_eq_bl, ↓cop_ne_bl, ↓cop_eq_non, ↓cop_ne_non, ↓cop_is_n, ↓cop_is_b, ↓cop_isnot_n, ↓cop_isnot_b, ↓cop_isin_lst, ↓cop_isin_tup, ↓cop_notin_lst, ↓cop_notin_tup, ↓tru_non, ↓tru_bl, ↓tru_int, ↓tru_tup, ↓tru_lst, ↓seq_tup, ↓itm_tup, ↓seq_lst, ↓itm_lst, ↓seq_frz, ↓itm_frz, ↓itm_itr, ↓seq_ref, ↓itm_ref, ↓seq_ti, ↓itm_ti, ↓onO_s, ↓nth_0, ↓nth_1, ↓nth_2, ↓nth_3, ↓nth_4, ↓nth_5, ↓nth_6, ↓nth_7, ↓nth_8, ↓nth_9, ↓nth_10, ↓nth_11, ↓nth_12, ↓bf_len, ↓bf_abs, ↓bf_max, ↓bf_min, ↓bf_int, ↓bf_intb, ↓bf_dm, ↓bf_gcd, ↓bf_all, ↓bf_any, ↓bf_sum, ↓bf_tup, ↓bf_repl, ↓bf_stri, ↓bf_rept, ↓bf_lst, ↓asg_nm, ↓asg_tp, ↓asg_ls, ↓asg_sub, ↓asg_tg, ↓asg_ti, ↓asgs_nil, ↓asgs_cons, ↓mk_f, ↓mk_t, ↓setn_l, ↓setn_r, ↓isn_lst_true, ↓isn_lst_false, ↓isn_tup_true, ↓isn_tup_false, ↓isn_ref_true, ↓isn_ref_false, ↓cnt_t, ↓rev_t, ↓rev_l, ↓rev_ti, ↓onRef_r, ↓two_tt, ↓two_ll, ↓two_tl, ↓two_ti, ↓still_t, ↓still_ti, ↓still_l, ↓cut_tup, ↓cut_lst, ↓cut_frz, ↓cut_ti, ↓bop_titi, ↓cop_eq_ti, ↓cop_ne_ti, non_non, non_int, ty_int_int, ty_bool_int, ty_str_int, ty_tup_int, ty_lst_int, ty_dict_int, non_bl, ty_int_bl, ty_bool_bl, ty_str_bl, ty_tup_bl, ty_lst_bl, ty_dict_bl, non_str, ty_int_str, ty_bool_str, ty_str_str, ty_tup_str, ty_lst_str, ty_dict_str, non_tup, ty_int_tup, ty_bool_tup, ty_str_tup, ty_tup_tup, ty_lst_tup, ty_dict_tup, non_lst, ty_int_lst, ty_bool_lst, ty_str_lst, ty_tup_lst, ty_lst_lst, ty_dict_lst, ty_int_non, ty_int_ti, ty_bool_non, ty_bool_ti, ty_str_non, ty_str_ti, ty_tup_non, ty_tup_ti, ty_lst_non, ty_lst_ti, ty_dict_non, ty_dict_ti, ty_int_rep, ty_int_dic, ty_bool_rep, ty_bool_dic, ty_str_rep, ty_str_dic, ty_tup_rep, ty_tup_dic, ty_lst_rep, ty_lst_dic, ty_dict_rep, ty_dict_dic, ta_tup, ta_lst, ta_ti, ta_int, ta_bl, ta_str, ta_non, st_0, st_1, st_2, st_3, st_4, st_5, st_6, st_7, st_8, st_9, st_10, st_11, st_12, st_13, st_14, st_15, st_16, st_17, st_18, st_19, st_20, st_21, st_22, st_23, bp_nm, bp_tp, bp_ls, bp_ti, bps_nil, bps_nm, sts_nil, sts_cons, rowr_l, rowr_r, cat_d, wp0_nil, wp_0, wp_1, wp_2, wp_3, wp_4, wp_5, wp_6, wp_7, wp_8, wp_9, wp_10, wp_11, wp_12, wp_13, wp_14, wp_15, wp_16, wp_17, wp_18, wp_19, wp_20, wp_21, wp_22, wp_23, rng_1, rng_2, rng_3, rng_4, rng_5, rng_6, rng_7, brkT, brkF, ti1, ti2, ti3, ti4, ti5, ti6, ti_map, eq_ti, pick, List.cons_append, List.nil_append, List.map_cons, List.map_nil, List.getD_cons_zero, List.getD_cons_succ, Bool.not_true, Bool.not_false]
         refine c_is_tuple_up_to ?_
         simp only [f_is_tuple_up_to, ↓ev_v0, ↓ev_v1, ↓ev_v2, ↓ev_v3, ↓ev_v4, ↓ev_v5, ↓ev_v6, ↓ev_v7, ↓ev_v8, ↓ev_v9, ↓ev_v10, ↓ev_v11, ↓ev_v12, ↓ev_v13, ↓ev_v14, ↓ev_v15, ↓ev_v16, ↓ev_v17, ↓ev_v18, ↓ev_v19, ↓ev_v20, ↓ev_v21, ↓ev_v22, ↓ev_v23, ↓ev_cst, ↓ev_glb, ↓ev_bin, ↓ev_neg, ↓ev_not, ↓ev_cmp, ↓ev_cmp2, ↓ev_and, ↓ev_or, ↓ev_ite, ↓ev_tup, ↓ev_lst, ↓ev_idx, ↓ev_slc, ↓ev_call, ↓ev_callk, ↓ev_bi, ↓ev_isi, ↓ev_isi2, ↓ev_lc, ↓ev_lc2, ↓ev_tcat, ↓ev_rng, ↓ev_rng1, ↓ev_zip, ↓ev_enm, ↓ev_cnt, ↓ev_nset, ↓ev_dct, ↓ev_cat, ↓ev_isn, ↓ev_rev, ↓ev_app, ↓evs_nil, ↓evs_cons, ↓evss_nil, ↓evss_f, ↓evss_t, ↓spr_tup, ↓spr_lst, ↓spr_frz, ↓spr_ti, ↓evo_n, ↓evo_s, ↓evt_n, ↓evt_s, ↓ex_set, ↓ex_par, ↓ex_expr, ↓ex_ret, ↓ex_retN, ↓ex_iff, ↓ex_for, ↓ex_whl, ↓ex_raise, ↓ex_pass, ↓ex_brk, ↓ex_cont, ↓exs_nil, ↓exs_cons, ↓tvf, ↓tvt, ↓asB_bl, ↓asI_i, ↓bop_add, ↓bop_sub, ↓bop_mul, ↓bop_fdv, ↓bop_mod, ↓bop_pow, ↓bop_tt, ↓bop_ll, ↓bop_lm, ↓cop_eq, ↓cop_ne, ↓cop_lt, ↓cop_le, ↓cop_gt, ↓cop_ge, ↓cop_eq_rep, ↓cop_ne_rep, ↓cop_eq_tup, ↓cop_ne_tup, ↓cop_eq_lst, ↓cop_ne_lst, ↓cop_eq_str, ↓cop_ne_str, ↓cop_eq_bl, ↓cop_ne_bl, ↓cop_eq_non, ↓cop_ne_non, ↓cop_is_n, ↓cop_is_b, ↓cop_isnot_n, ↓cop_isnot_b, ↓cop_isin_lst, ↓cop_isin_tup, ↓cop_notin_lst, ↓cop_notin_tup, ↓tru_non, ↓tru_bl, ↓tru_int, ↓tru_tup, ↓tru_lst, ↓seq_tup, ↓itm_tup, ↓seq_lst, ↓itm_lst, ↓seq_frz, ↓itm_frz, ↓itm_itr, ↓seq_ref, ↓itm_ref, ↓seq_ti, ↓itm_ti, ↓onO_s, ↓nth_0, ↓nth_1, ↓nth_2, ↓nth_3, ↓nth_4, ↓nth_5, ↓nth_6, ↓nth_7, ↓nth_8, ↓nth_9, ↓nth_10, ↓nth_11, ↓nth_12, ↓bf_len, ↓bf_abs, ↓bf_max, ↓bf_min, ↓bf_int, ↓bf_intb, ↓bf_dm, ↓bf_gcd, ↓bf_all, ↓bf_any, ↓bf_sum, ↓bf_tup, ↓bf_repl, ↓bf_stri, ↓bf_rept, ↓bf_lst, ↓asg_nm, ↓asg_tp, ↓asg_ls, ↓asg_sub, ↓asg_tg, ↓asg_ti, ↓asgs_nil, ↓asgs_cons, ↓mk_f, ↓mk_t, ↓setn_l, ↓setn_r, ↓isn_lst_true, ↓isn_lst_false, ↓isn_tup_true, ↓isn_tup_false, ↓isn_ref_true, ↓isn_ref_false, ↓cnt_t, ↓rev_t, ↓rev_l, ↓rev_ti, ↓onRef_r, ↓two_tt, ↓two_ll, ↓two_tl, ↓two_ti, ↓still_t, ↓still_ti, ↓still_l, ↓cut_tup, ↓cut_lst, ↓cut_frz, ↓cut_ti, ↓bop_titi, ↓cop_eq_ti, ↓cop_ne_ti, non_non, non_int, ty_int_int, ty_bool_int, ty_str_int, ty_tup_int, ty_lst_int, ty_dict_int, non_bl, ty_int_bl, ty_bool_bl, ty_str_bl, ty_tup_bl, ty_lst_bl, ty_dict_bl, non_str, ty_int_str, ty_bool_str, ty_str_str, ty_tup_str, ty_lst_str, ty_dict_str, non_tup, ty_int_tup, ty_bool_tup, ty_str_tup, ty_tup_tup, ty_lst_tup, ty_dict_tup, non_lst, ty_int_lst, ty_bool_lst, ty_str_lst, ty_tup_lst, ty_lst_lst, ty_dict_lst, ty_int_non, ty_int_ti, ty_bool_non, ty_bool_ti, ty_str_non, ty_str_ti, ty_tup_non, ty_tup_ti, ty_lst_non, ty_lst_ti, ty_dict_non, ty_dict_ti, ty_int_rep, ty_int_dic, ty_bool_rep, ty_bool_dic, ty_str_rep, ty_str_dic, ty_tup_rep, ty_tup_dic, ty_lst_rep, ty_lst_dic, ty_dict_rep, ty_dict_dic, ta_tup, ta_lst, ta_ti, ta_int, ta_bl, ta_str, ta_non, st_0, st_1, st_2, st_3, st_4, st_5, st_6, st_7, st_8, st_9, st_10, st_11, st_12, st_13, st_14, st_15, st_16, st_17, st_18, st_19, st_20, st_21, st_22, st_23, bp_nm, bp_tp, bp_ls, bp_ti, bps_nil, bps_nm, sts_nil, sts_cons, rowr_l, rowr_r, cat_d, wp0_nil, wp_0, wp_1, wp_2, wp_3, wp_4, wp_5, wp_6, wp_7, wp_8, wp_9, wp_10, wp_11, wp_12, wp_13, wp_14, wp_15, wp_16, wp_17, wp_18, wp_19, wp_20, wp_21, wp_22, wp_23, rng_1, rng_2, rng_3, rng_4, rng_5, rng_6, rng_7, brkT, brkF, ti1, ti2, ti3, ti4, ti5, ti6, ti_map, eq_ti, pick, List.cons_append, List.nil_append, List.map_cons, List.map_nil, List.getD_cons_zero, List.getD_cons_succ, Bool.not_true, Bool.not_false]
         exact h)
theorem s_law_is_viewA (hg : Gdw d) (h : k (.bl (isVd d)) S) : CT (n + 3) i_law_is_view [d] S k X := by
  refine c_law_is_view ?_
  cases d with
  | tup ds =>
    obtain ⟨hl, hi⟩ := hg.2 ds rfl
    have hz : ds.length ≤ SZ := by simp [SZ]; omega
    by_cases q : (ds.length : Int) = 3
    · simp only [f_law_is_view, q, decide_true, ↓ev_v0, ↓ev_v1, ↓ev_v2, ↓ev_v3, ↓ev_v4, ↓ev_v5, ↓ev_v6, ↓ev_v7, ↓ev_v8, ↓ev_v9, ↓ev_v10, ↓ev_v11, ↓ev_v12, ↓ev_v13, ↓ev_v14, ↓ev_v15, ↓ev_v16, ↓ev_v17, ↓ev_v18, ↓ev_v19, ↓ev_v20, ↓ev_v21, ↓ev_v22, ↓ev_v23, ↓ev_cst, ↓ev_glb, ↓ev_bin, ↓ev_neg, ↓ev_not, ↓ev_cmp, ↓ev_cmp2, ↓ev_and, ↓ev_or, ↓ev_ite, ↓ev_tup, ↓ev_lst, ↓ev_idx, ↓ev_slc, ↓ev_call, ↓ev_callk, ↓ev_bi, ↓ev_isi, ↓ev_isi2, ↓ev_lc, ↓ev_lc2, ↓ev_tcat, ↓ev_rng, ↓ev_rng1, ↓ev_zip, ↓ev_enm, ↓ev_cnt, ↓ev_nset, ↓ev_dct, ↓ev_cat, ↓ev_isn, ↓ev_rev, ↓ev_app, ↓evs_nil, ↓evs_cons, ↓evss_nil, ↓evss_f, ↓evss_t, ↓spr_tup, ↓spr_lst, ↓spr_frz, ↓spr_ti, ↓evo_n, ↓evo_s, ↓evt_n, ↓evt_s, ↓ex_set, ↓ex_par, ↓ex_expr, ↓ex_ret, ↓ex_retN, ↓ex_iff, ↓ex_for, ↓ex_whl, ↓ex_raise, ↓ex_pass, ↓ex_brk, ↓ex_cont, ↓exs_nil, ↓exs_cons, ↓tvf, ↓tvt, ↓asB_bl, ↓asI_i, ↓bop_add, ↓bop_sub, ↓bop_mul, ↓bop_fdv, ↓bop_mod, ↓bop_pow, ↓bop_tt, ↓bop_ll, ↓bop_lm, ↓cop_eq, ↓cop_ne, ↓cop_lt, ↓cop_le, ↓cop_gt, ↓cop_ge, ↓cop_eq_rep, ↓cop_ne_rep, ↓cop_eq_tup, ↓cop_ne_tup, ↓cop_eq_lst, ↓cop_ne_lst, ↓cop_eq_str, ↓cop_ne_str, ↓cop_eq_bl, ↓cop_ne_bl, ↓cop_eq_non, ↓cop_ne_non, ↓cop_is_n, ↓cop_is_b, ↓cop_isnot_n, ↓cop_isnot_b, ↓cop_isin_lst, ↓cop_isin_tup, ↓cop_notin_lst, ↓cop_notin_tup, ↓tru_non, ↓tru_bl, ↓tru_int, ↓tru_tup, ↓tru_lst, ↓seq_tup, ↓itm_tup, ↓seq_lst, ↓itm_lst, ↓seq_frz, ↓itm_frz, ↓itm_itr, ↓seq_ref, ↓itm_ref, ↓seq_ti, ↓itm_ti, ↓onO_s, ↓nth_0, ↓nth_1, ↓nth_2, ↓nth_3, ↓nth_4, ↓nth_5, ↓nth_6, ↓nth_7, ↓nth_8, ↓nth_9, ↓nth_10, ↓nth_11, ↓nth_12, ↓bf_len, ↓bf_abs, ↓bf_max, ↓bf_min, ↓bf_int, ↓bf_intb, ↓bf_dm, ↓bf_gcd, ↓bf_all, ↓bf_any, ↓bf_sum, ↓bf_tup, ↓bf_repl, ↓bf_stri, ↓bf_rept, ↓bf_lst, ↓asg_nm, ↓asg_tp, ↓asg_ls, ↓asg_sub, ↓asg_tg, ↓asg_ti, ↓asgs_nil, ↓asgs_cons, ↓mk_f, ↓mk_t, ↓setn_l, ↓setn_r, ↓isn_lst_true, ↓isn_lst_false, ↓isn_tup_true, ↓isn_tup_false, ↓isn_ref_true, ↓isn_ref_false, ↓cnt_t, ↓rev_t, ↓rev_l, ↓rev_ti, ↓onRef_r, ↓two_tt, ↓two_ll, ↓two_tl, ↓two_ti, ↓still_t, ↓still_ti, ↓still_l, ↓cut_tup, ↓cut_lst, ↓cut_frz, ↓cut_ti, ↓bop_titi, ↓cop_eq_ti, ↓cop_ne_ti, non_non, non_int, ty_int_int, ty_bool_int, ty_str_int, ty_tup_int, ty_lst_int, ty_dict_int, non_bl, ty_int_bl, ty_bool_bl, ty_str_bl, ty_tup_bl, ty_lst_bl, ty_dict_bl, non_str, ty_int_str, ty_bool_str, ty_str_str, ty_tup_str, ty_lst_str, ty_dict_str, non_tup, ty_int_tup, ty_bool_tup, ty_str_tup, ty_tup_tup, ty_lst_tup, ty_dict_tup, non_lst, ty_int_lst, ty_bool_lst, ty_str_lst, ty_tup_lst, ty_lst_lst, ty_dict_lst, ty_int_non, ty_int_ti, ty_bool_non, ty_bool_ti, ty_str_non, ty_str_ti, ty_tup_non, ty_tup_ti, ty_lst_non, ty_lst_ti, ty_dict_non, ty_dict_ti, ty_int_rep, ty_int_dic, ty_bool_rep, ty_bool_dic, ty_str_rep, ty_str_dic, ty_tup_rep, ty_tup_dic, ty_lst_rep, ty_lst_dic, ty_dict_rep, ty_dict_dic, ta_tup, ta_lst, ta_ti, ta_int, ta_bl, ta_str, ta_non, st_0, st_1, st_2, st_3, st_4, st_5, st_6, st_7, st_8, st_9, st_10, st_11, st_12, st_13, st_14, st_15, st_16, st_17, st_18, st_19, st_20, st_21, st_22, st_23, bp_nm, bp_tp, bp_ls, bp_ti, bps_nil, bps_nm, sts_nil, sts_cons, rowr_l, rowr_r, cat_d, wp0_nil, wp_0, wp_1, wp_2, wp_3, wp_4, wp_5, wp_6, wp_7, wp_8, wp_9, wp_10, wp_11, wp_12, wp_13, wp_14, wp_15, wp_16, wp_17, wp_18, wp_19, wp_20, wp_21, wp_22, wp_23, rng_1, rng_2, rng_3, rng_4, rng_5, rng_6, rng_7, brkT, brkF, ti1, ti2, ti3, ti4, ti5, ti6, ti_map, eq_ti, pick, List.cons_append, List.nil_append, List.map_cons, List.map_nil, List.getD_cons_zero, List.getD_cons_succ, Bool.not_true, Bool.not_false]
      refine ⟨hz, fcF (p := fun d => !rowOk d) (fun d hd k2 h2 => ?_) ?_⟩
      · simp only [lc_app', ↓ev_v0, ↓ev_v1, ↓ev_v2, ↓ev_v3, ↓ev_v4, ↓ev_v5, ↓ev_v6, ↓ev_v7, ↓ev_v8, ↓ev_v9, ↓ev_v10, ↓ev_v11, ↓ev_v12, ↓ev_v13, ↓ev_v14, ↓ev_v15, ↓ev_v16, ↓ev_v17, ↓ev_v18, ↓ev_v19, ↓ev_v20, ↓ev_v21, ↓ev_v22, ↓ev_v23, ↓ev_cst, ↓ev_glb, ↓ev_bin, ↓ev_neg, ↓ev_not, ↓ev_cmp, ↓ev_cmp2, ↓ev_and, ↓ev_or, ↓ev_ite, ↓ev_tup, ↓ev_lst, ↓ev_idx, ↓ev_slc, ↓ev_call, ↓ev_callk, ↓ev_bi, ↓ev_isi, ↓ev_isi2, ↓ev_lc, ↓ev_lc2, ↓ev_tcat, ↓ev_rng, ↓ev_rng1, ↓ev_zip, ↓ev_enm, ↓ev_cnt, ↓ev_nset, ↓ev_dct, ↓ev_cat, ↓ev_isn, ↓ev_rev, ↓ev_app, ↓evs_nil, ↓evs_cons, ↓evss_nil, ↓evss_f, ↓evss_t, ↓spr_tup, ↓spr_lst, ↓spr_frz, ↓spr_ti, ↓evo_n, ↓evo_s, ↓evt_n, ↓evt_s, ↓ex_set, ↓ex_par, ↓ex_expr, ↓ex_ret, ↓ex_retN, ↓ex_iff, ↓ex_for, ↓ex_whl, ↓ex_raise, ↓ex_pass, ↓ex_brk, ↓ex_cont, ↓exs_nil, ↓exs_cons, ↓tvf, ↓tvt, ↓asB_bl, ↓asI_i, ↓bop_add, ↓bop_sub, ↓bop_mul, ↓bop_fdv, ↓bop_mod, ↓bop_pow, ↓bop_tt, ↓bop_ll, ↓bop_lm, ↓cop_eq, ↓cop_ne, ↓cop_lt, ↓cop_le, ↓cop_gt, ↓cop_ge, ↓cop_eq_rep, ↓cop_ne_rep, ↓cop_eq_tup, ↓cop_ne_tup, ↓cop_eq_lst, ↓cop_ne_lst, ↓cop_eq_str, ↓cop_ne_str, ↓cop_eq_bl, ↓cop_ne_bl, ↓cop_eq_non, ↓cop_ne_non, ↓cop_is_n, ↓cop_is_b, ↓cop_isnot_n, ↓cop_isnot_b, ↓cop_isin_lst, ↓cop_isin_tup, ↓cop_notin_lst, ↓cop_notin_tup, ↓tru_non, ↓tru_bl, ↓tru_int, ↓tru_tup, ↓tru_lst, ↓seq_tup, ↓itm_tup, ↓seq_lst, ↓itm_lst, ↓seq_frz, ↓itm_frz, ↓itm_itr, ↓seq_ref, ↓itm_ref, ↓seq_ti, ↓itm_ti, ↓onO_s, ↓nth_0, ↓nth_1, ↓nth_2, ↓nth_3, ↓nth_4, ↓nth_5, ↓nth_6, ↓nth_7, ↓nth_8, ↓nth_9, ↓nth_10, ↓nth_11, ↓nth_12, ↓bf_len, ↓bf_abs, ↓bf_max, ↓bf_min, ↓bf_int, ↓bf_intb, ↓bf_dm, ↓bf_gcd, ↓bf_all, ↓bf_any, ↓bf_sum, ↓bf_tup, ↓bf_repl, ↓bf_stri, ↓bf_rept, ↓bf_lst, ↓asg_nm, ↓asg_tp, ↓asg_ls, ↓asg_sub, ↓asg_tg, ↓asg_ti, ↓asgs_nil, ↓asgs_cons, ↓mk_f, ↓mk_t, ↓setn_l, ↓setn_r, ↓isn_lst_true, ↓isn_lst_false, ↓isn_tup_true, ↓isn_tup_false, ↓isn_ref_true, ↓isn_ref_false, ↓cnt_t, ↓rev_t, ↓rev_l, ↓rev_ti, ↓onRef_r, ↓two_tt, ↓two_ll, ↓two_tl, ↓two_ti, ↓still_t, ↓still_ti, ↓still_l, ↓cut_tup, ↓cut_lst, ↓cut_frz, ↓cut_ti, ↓bop_titi, ↓cop_eq_ti, ↓cop_ne_ti, non_non, non_int, ty_int_int, ty_bool_int, ty_str_int, ty_tup_int, ty_lst_int, ty_dict_int, non_bl, ty_int_bl, ty_bool_bl, ty_str_bl, ty_tup_bl, ty_lst_bl, ty_dict_bl, non_str, ty_int_str, ty_bool_str, ty_str_str, ty_tup_str, ty_lst_str, ty_dict_str, non_tup, ty_int_tup, ty_bool_tup, ty_str_tup, ty_tup_tup, ty_lst_tup, ty_dict_tup, non_lst, ty_int_lst, ty_bool_lst, ty_str_lst, ty_tup_lst, ty_lst_lst, ty_dict_lst, ty_int_non, ty_int_ti, ty_bool_non, ty_bool_ti, ty_str_non, ty_str_ti, ty_tup_non, ty_tup_ti, ty_lst_non, ty_lst_ti, ty_dict_non, ty_dict_ti, ty_int_rep, ty_int_dic, ty_bool_rep, ty_bool_dic, ty_str_rep, ty_str_dic, ty_tup_rep, ty_tup_dic, ty_lst_rep, ty_lst_dic, ty_dict_rep, ty_dict_dic, ta_tup, ta_lst, ta_ti, ta_int, ta_bl, ta_str, ta_non, st_0, st_1, st_2, st_3, st_4, st_5, st_6, st_7, st_8, st_9, st_10, st_11, st_12, st_13, st_14, st_15, st_16, st_17, st_18, st_19, st_20, st_21, st_22, st_23, bp_nm, bp_tp, bp_ls, bp_ti, bps_nil, bps_nm, sts_nil, sts_cons, rowr_l, rowr_r, cat_d, wp0_nil, wp_0, wp_1, wp_2, wp_3, wp_4, wp_5, wp_6, wp_7, wp_8, wp_9, wp_10, wp_11, wp_12, wp_13, wp_14, wp_15, wp_16, wp_17, wp_18, wp_19, wp_20, wp_21, wp_22, wp_23, rng_1, rng_2, rng_3, rng_4, rng_5, rng_6, rng_7, brkT, brkF, ti1, ti2, ti3, ti4, ti5, ti6, ti_map, eq_ti, pick, List.cons_append, List.nil_append, List.map_cons, List.map_nil, List.getD_cons_zero, List.getD_cons_succ, Bool.not_true, Bool.not_false]
        have g := (hi d hd).1.1
        cases d <;> (try (cases g; done)) <;> (simp only [↓ev_v0, ↓ev_v1, ↓ev_v2, ↓ev_v3, ↓ev_v4, ↓ev_v5, ↓ev_v6, ↓ev_v7, ↓ev_v8, ↓ev_v9, ↓ev_v10, ↓ev_v11, ↓ev_v12, ↓ev_v13, ↓ev_v14, ↓ev_v15, ↓ev_v16, ↓ev_v17, ↓ev_v18, ↓ev_v19, ↓ev_v20, ↓ev_v21, ↓ev_v22, ↓ev_v23, ↓ev_cst, ↓ev_glb, ↓ev_bin, ↓ev_neg, ↓ev_not, ↓ev_cmp, ↓ev_cmp2, ↓ev_and, ↓ev_or, ↓ev_ite, ↓ev_tup, ↓ev_lst, ↓ev_idx, ↓ev_slc, ↓ev_call, ↓ev_callk, ↓ev_bi, ↓ev_isi, ↓ev_isi2, ↓ev_lc, ↓ev_lc2, ↓ev_tcat, ↓ev_rng, ↓ev_rng1, ↓ev_zip, ↓ev_enm, ↓ev_cnt, ↓ev_nset, ↓ev_dct, ↓ev_cat, ↓ev_isn, ↓ev_rev, ↓ev_app, ↓evs_nil, ↓evs_cons, ↓evss_nil, ↓evss_f, ↓evss_t, ↓spr_tup, ↓spr_lst, ↓spr_frz, ↓spr_ti, ↓evo_n, ↓evo_s, ↓evt_n, ↓evt_s, ↓ex_set, ↓ex_par, ↓ex_expr, ↓ex_ret, ↓ex_retN, ↓ex_iff, ↓ex_for, ↓ex_whl, ↓ex_raise, ↓ex_pass, ↓ex_brk, ↓ex_cont, ↓exs_nil, ↓exs_cons, ↓tvf, ↓tvt, ↓asB_bl, ↓asI_i, ↓bop_add, ↓bop_sub, ↓bop_mul, ↓bop_fdv, ↓bop_mod, ↓bop_pow, ↓bop_tt, ↓bop_ll, ↓bop_lm, ↓cop_eq, ↓cop_ne, ↓cop_lt, ↓cop_le, ↓cop_gt, ↓cop_ge, ↓cop_eq_rep, ↓cop_ne_rep, ↓cop_eq_tup, ↓cop_ne_tup, ↓cop_eq_lst, ↓cop_ne_lst, ↓cop_eq_str, ↓cop_ne_str, ↓cop_eq_bl, ↓cop_ne_bl, ↓cop_eq_non, ↓cop_ne_non, ↓cop_is_n, ↓cop_is_b, ↓cop_isnot_n, ↓cop_isnot_b, ↓cop_isin_lst, ↓cop_isin_tup, ↓cop_notin_lst, ↓cop_notin_tup, ↓tru_non, ↓tru_bl, ↓tru_int, ↓tru_tup, ↓tru_lst, ↓seq_tup, ↓itm_tup, ↓seq_lst, ↓itm_lst, ↓seq_frz, ↓itm_frz, ↓itm_itr, ↓seq_ref, ↓itm_ref, ↓seq_ti, ↓itm_ti, ↓onO_s, ↓nth_0, ↓nth_1, ↓nth_2, ↓nth_3, ↓nth_4, ↓nth_5, ↓nth_6, ↓nth_7, ↓nth_8, ↓nth_9, ↓nth_10, ↓nth_11, ↓nth_12, ↓bf_len, ↓bf_abs, ↓bf_max, ↓bf_min, ↓bf_int, ↓bf_intb, ↓bf_dm, ↓bf_gcd, ↓bf_all, ↓bf_any, ↓bf_sum, ↓bf_tup, ↓bf_repl, ↓bf_stri, ↓bf_rept, ↓bf_lst, ↓asg_nm, ↓asg_tp, ↓asg_ls, ↓asg_sub, ↓asg_tg, ↓asg_ti, ↓asgs_nil, ↓asgs_cons, ↓mk_f, ↓mk_t, ↓setn_l, ↓setn_r, ↓isn_lst_true, ↓isn_lst_false, ↓isn_tup_true, ↓isn_tup_false, ↓isn_ref_true, ↓isn_ref_false, ↓cnt_t, ↓rev_t, ↓rev_l, ↓rev_ti, ↓onRef_r, ↓two_tt, ↓two_ll, ↓two_tl, ↓two_ti, ↓still_t, ↓still_ti, ↓still_l, ↓cut_tup, ↓cut_lst, ↓cut_frz, ↓cut_ti, ↓bop_titi, ↓cop_eq_ti, ↓cop_ne_ti, non_non, non_int, ty_int_int, ty_bool_int, ty_str_int, ty_tup_int, ty_lst_int, ty_dict_int, non_bl, ty_int_bl, ty_bool_bl, ty_str_bl, ty_tup_bl, ty_lst_bl, ty_dict_bl, non_str, ty_int_str, ty_bool_str, ty_str_str, ty_tup_str, ty_lst_str, ty_dict_str, non_tup, ty_int_tup, ty_bool_tup, ty_str_tup, ty_tup_tup, ty_lst_tup, ty_dict_tup, non_lst, ty_int_lst, ty_bool_lst, ty_str_lst, ty_tup_lst, ty_lst_lst, ty_dict_lst, ty_int_non, ty_int_ti, ty_bool_non, ty_bool_ti, ty_str_non, ty_str_ti, ty_tup_non, ty_tup_ti, ty_lst_non, ty_lst_ti, ty_dict_non, ty_dict_ti, ty_int_rep, ty_int_dic, ty_bool_rep, ty_bool_dic, ty_str_rep, ty_str_dic, ty_tup_rep, ty_tup_dic, ty_lst_rep, ty_lst_dic, ty_dict_rep, ty_dict_dic, ta_tup, ta_lst, ta_ti, ta_int, ta_bl, ta_str, ta_non, st_0, st_1, st_2, st_3, st_4, st_5, st_6, st_7, st_8, st_9, st_10, st_11, st_12, st_13, st_14, st_15, st_16, st_17, st_18, st_19, st_20, st_21, st_22, st_23, bp_nm, bp_tp, bp_ls, bp_ti, bps_nil, bps_nm, sts_nil, sts_cons, rowr_l, rowr_r, cat_d, wp0_nil, wp_0, wp_1, wp_2, wp_3, wp_4, wp_5, wp_6, wp_7, wp_8, wp_9, wp_10, wp_11, wp_12, wp_13, wp_14, wp_15, wp_16, wp_17, wp_18, wp_19, wp_20, wp_21, wp_22, wp_23, rng_1, rng_2, rng_3, rng_4, rng_5, rng_6, rng_7, brkT, brkF, ti1, ti2, ti3, ti4, ti5, ti6, ti_map, eq_ti, pick, List.cons_append, List.nil_append, List.map_cons, List.map_nil, List.getD_cons_zero, List.getD_cons_succ, Bool.not_true, Bool.not_false]; first | exact h2 | exact row_brk h2)
      · have hp : pure? DEEP (.lst (ds.filter fun d => !rowOk d)) = true := pures_of fun d hd => by
          obtain ⟨h1, h2⟩ := List.mem_filter.mp hd
          rcases (hi d h1).2 with r | r
          · rw [r] at h2; cases h2
          · exact r
        refine ⟨⟨hp, rfl⟩, ?_⟩
        cases ef : ds.filter fun d => !rowOk d with
        | cons d0 r =>
          have hm : d0 ∈ ds.filter fun d => !rowOk d := by rw [ef]; exact List.mem_cons_self
          obtain ⟨h1, h2⟩ := List.mem_filter.mp hm
          have e2 : ds.all rowInt = false := by
            cases e : ds.all rowInt with
            | false => rfl
            | true =>
              have := List.all_eq_true.mp e d0 h1
              obtain ⟨u, rfl⟩ := row_v this
              cases h2
          rw [isV_f (.inr e2)] at h
          exact brk_t rfl h
        | nil =>
          refine brk_f rfl ?_
          have ok : ∀ d ∈ ds, rowOk d = true := fun d hd => by
            cases e : rowOk d with
            | true => rfl
            | false =>
              have : d ∈ ds.filter fun d => !rowOk d := List.mem_filter.mpr ⟨hd, by rw [e]; rfl⟩
              rw [ef] at this
              cases this
          clear hp ef
          match ds, q, h, hi, ok with
          | [x, y, z], _, h, hi, ok =>
            obtain ⟨x1, x2, x3, rfl⟩ := row_t (ok x (by simp))
            obtain ⟨y1, y2, y3, rfl⟩ := row_t (ok y (by simp))
            obtain ⟨z1, z2, z3, rfl⟩ := row_t (ok z (by simp))
            have gx := fun d hd => (((hi (.tup [x1, x2, x3]) (by simp)).1.2 _ rfl).2 d hd).1
            have gy := fun d hd => (((hi (.tup [y1, y2, y3]) (by simp)).1.2 _ rfl).2 d hd).1
            have gz := fun d hd => (((hi (.tup [z1, z2, z3]) (by simp)).1.2 _ rfl).2 d hd).1
            have g9 : ∀ d ∈ [x1, x2, x3, y1, y2, y3, z1, z2, z3], gkd d = true := by
              intro d hd
              rcases List.mem_append.mp (show d ∈ [x1, x2, x3] ++ [y1, y2, y3, z1, z2, z3] from hd) with hd | hd
              · exact gx d hd
              rcases List.mem_append.mp (show d ∈ [y1, y2, y3] ++ [z1, z2, z3] from hd) with hd | hd
              · exact gy d hd
              · exact gz d hd
            simp only [↓ev_v0, ↓ev_v1, ↓ev_v2, ↓ev_v3, ↓ev_v4, ↓ev_v5, ↓ev_v6, ↓ev_v7, ↓ev_v8, ↓ev_v9, ↓ev_v10, ↓ev_v11, ↓ev_v12, ↓ev_v13, ↓ev_v14, ↓ev_v15, ↓ev_v16, ↓ev_v17, ↓ev_v18, ↓ev_v19, ↓ev_v20, ↓ev_v21, ↓ev_v22, ↓ev_v23, ↓ev_cst, ↓ev_glb, ↓ev_bin, ↓ev_neg, ↓ev_not, ↓ev_cmp, ↓ev_cmp2, ↓ev_and, ↓ev_or, ↓ev_ite, ↓ev_tup, ↓ev_lst, ↓ev_idx, ↓ev_slc, ↓ev_call, ↓ev_callk, ↓ev_bi, ↓ev_isi, ↓ev_isi2, ↓ev_lc, ↓ev_lc2, ↓ev_tcat, ↓ev_rng, ↓ev_rng1, ↓ev_zip, ↓ev_enm, ↓ev_cnt, ↓ev_nset, ↓ev_dct, ↓ev_cat, ↓ev_isn, ↓ev_rev, ↓ev_app, ↓evs_nil, ↓evs_cons, ↓evss_nil, ↓evss_f, ↓evss_t, ↓spr_tup, ↓spr_lst, ↓spr_frz, ↓spr_ti, ↓evo_n, ↓evo_s, ↓evt_n, ↓evt_s, ↓ex_set, ↓ex_par, ↓ex_expr, ↓ex_ret, ↓ex_retN, ↓ex_iff, ↓ex_for, ↓ex_whl, ↓ex_raise, ↓ex_pass, ↓ex_brk, ↓ex_cont, ↓exs_nil, ↓exs_cons, ↓tvf, ↓tvt, ↓asB_bl, ↓asI_i, ↓bop_add, ↓bop_sub, ↓bop_mul, ↓bop_fdv, ↓bop_mod, ↓bop_pow, ↓bop_tt, ↓bop_ll, ↓bop_lm, ↓cop_eq, ↓cop_ne, ↓cop_lt, ↓cop_le, ↓cop_gt, ↓cop_ge, ↓cop_eq_rep, ↓cop_ne_rep, ↓cop_eq_tup, ↓cop_ne_tup, ↓cop_eq_lst, ↓cop_ne_lst, ↓cop_eq_str, ↓cop_ne_str, ↓cop_eq_bl, ↓cop_ne_bl, ↓cop_eq_non, ↓cop_ne_non, ↓cop_is_n, ↓cop_is_b, ↓cop_isnot_n, ↓cop_isnot_b, ↓cop_isin_lst, ↓cop_isin_tup, ↓cop_notin_lst, ↓cop_notin_tup, ↓tru_non, ↓tru_bl, ↓tru_int, ↓tru_tup, ↓tru_lst, ↓seq_tup, ↓itm_tup, ↓seq_lst, ↓itm_lst, ↓seq_frz, ↓itm_frz, ↓itm_itr, ↓seq_ref, ↓itm_ref, ↓seq_ti, ↓itm_ti, ↓onO_s, ↓nth_0, ↓nth_1, ↓nth_2, ↓nth_3, ↓nth_4, ↓nth_5, ↓nth_6, ↓nth_7, ↓nth_8, ↓nth_9, ↓nth_10, ↓nth_11, ↓nth_12, ↓bf_len, ↓bf_abs, ↓bf_max, ↓bf_min, ↓bf_int, ↓bf_intb, ↓bf_dm, ↓bf_gcd, ↓bf_all, ↓bf_any, ↓bf_sum, ↓bf_tup, ↓bf_repl, ↓bf_stri, ↓bf_rept, ↓bf_lst, ↓asg_nm, ↓asg_tp, ↓asg_ls, ↓asg_sub, ↓asg_tg, ↓asg_ti, ↓asgs_nil, ↓asgs_cons, ↓mk_f, ↓mk_t, ↓setn_l, ↓setn_r, ↓isn_lst_true, ↓isn_lst_false, ↓isn_tup_true, ↓isn_tup_false, ↓isn_ref_true, ↓isn_ref_false, ↓cnt_t, ↓rev_t, ↓rev_l, ↓rev_ti, ↓onRef_r, ↓two_tt, ↓two_ll, ↓two_tl, ↓two_ti, ↓still_t, ↓still_ti, ↓still_l, ↓cut_tup, ↓cut_lst, ↓cut_frz, ↓cut_ti, ↓bop_titi, ↓cop_eq_ti, ↓cop_ne_ti, non_non, non_int, ty_int_int, ty_bool_int, ty_str_int, ty_tup_int, ty_lst_int, ty_dict_int, non_bl, ty_int_bl, ty_bool_bl, ty_str_bl, ty_tup_bl, ty_lst_bl, ty_dict_bl, non_str, ty_int_str, ty_bool_str, ty_str_str, ty_tup_str, ty_lst_str, ty_dict_str, non_tup, ty_int_tup, ty_bool_tup, ty_str_tup, ty_tup_tup, ty_lst_tup, ty_dict_tup, non_lst, ty_int_lst, ty_bool_lst, ty_str_lst, ty_tup_lst, ty_lst_lst, ty_dict_lst, ty_int_non, ty_int_ti, ty_bool_non, ty_bool_ti, ty_str_non, ty_str_ti, ty_tup_non, ty_tup_ti, ty_lst_non, ty_lst_ti, ty_dict_non, ty_dict_ti, ty_int_rep, ty_int_dic, ty_bool_rep, ty_bool_dic, ty_str_rep, ty_str_dic, ty_tup_rep, ty_tup_dic, ty_lst_rep, ty_lst_dic, ty_dict_rep, ty_dict_dic, ta_tup, ta_lst, ta_ti, ta_int, ta_bl, ta_str, ta_non, st_0, st_1, st_2, st_3, st_4, st_5, st_6, st_7, st_8, st_9, st_10, st_11, st_12, st_13, st_14, st_15, st_16, st_17, st_18, st_19, st_20, st_21, st_22, st_23, bp_nm, bp_tp, bp_ls, bp_ti, bps_nil, bps_nm, sts_nil, sts_cons, rowr_l, rowr_r, cat_d, wp0_nil, wp_0, wp_1, wp_2, wp_3, wp_4, wp_5, wp_6, wp_7, wp_8, wp_9, wp_10, wp_11, wp_12, wp_13, wp_14, wp_15, wp_16, wp_17, wp_18, wp_19, wp_20, wp_21, wp_22, wp_23, rng_1, rng_2, rng_3, rng_4, rng_5, rng_6, rng_7, brkT, brkF, ti1, ti2, ti3, ti4, ti5, ti6, ti_map, eq_ti, pick, List.cons_append, List.nil_append, List.map_cons, List.map_nil, List.getD_cons_zero, List.getD_cons_succ, Bool.not_true, Bool.not_false, ↓seq_v, ↓seq_f, ↓itm_v, ↓itm_f, ↓asg_v, ↓asg_f, bp_v, bp_f, bps_tv, bps_tf, ↓two_vv, ↓two_vt, ↓two_tv, ↓two_ff, ↓still_v, ↓cut_v, ↓cop_eq_v, ↓cop_ne_v, ↓cop_eq_f, ↓cop_ne_f, inD_n, inD_c, pures_c, pures_n, pure_vT, pure_fT, pure_iT, pure_bT, pure_nT, eq_v, eq_f, Bool.or_false, and_self, ↓tru_v, non_v, non_f, ty_v, ty_f, ta_v, ta_f, ↓bop_vv, ↓bop_6v, ↓cut_9a, ↓cut_9b, ↓cut_9c, tup3, tup2, v_ti, f_ti, zipD, wp_cc, true_and, decide_true, decide_false, eq_self, sz_0, sz_1, sz_2, sz_3, sz_4, sz_5, sz_6, sz_7, sz_8, sz_9, sz_10, sz_11, sz_12, enm_1, enm_2, enm_3, enm_4, enm_5, enm_6, enm_7, enm_8, enm_9, enm_10, len_1, len_2, len_3, len_4, len_5, len_6, len_7, len_8, len_9, len_10]
            refine ⟨by simp [SZ], by simp [SZ], ?_⟩
            refine fcD (f := fun d => .bl (isW d)) (fun d hd k2 h2 => ?_) ?_
            · simp only [lc_app', ↓ev_v0, ↓ev_v1, ↓ev_v2, ↓ev_v3, ↓ev_v4, ↓ev_v5, ↓ev_v6, ↓ev_v7, ↓ev_v8, ↓ev_v9, ↓ev_v10, ↓ev_v11, ↓ev_v12, ↓ev_v13, ↓ev_v14, ↓ev_v15, ↓ev_v16, ↓ev_v17, ↓ev_v18, ↓ev_v19, ↓ev_v20, ↓ev_v21, ↓ev_v22, ↓ev_v23, ↓ev_cst, ↓ev_glb, ↓ev_bin, ↓ev_neg, ↓ev_not, ↓ev_cmp, ↓ev_cmp2, ↓ev_and, ↓ev_or, ↓ev_ite, ↓ev_tup, ↓ev_lst, ↓ev_idx, ↓ev_slc, ↓ev_call, ↓ev_callk, ↓ev_bi, ↓ev_isi, ↓ev_isi2, ↓ev_lc, ↓ev_lc2, ↓ev_tcat, ↓ev_rng, ↓ev_rng1, ↓ev_zip, ↓ev_enm, ↓ev_cnt, ↓ev_nset, ↓ev_dct, ↓ev_cat, ↓ev_isn, ↓ev_rev, ↓ev_app, ↓evs_nil, ↓evs_cons, ↓evss_nil, ↓evss_f, ↓evss_t, ↓spr_tup, ↓spr_lst, ↓spr_frz, ↓spr_ti, ↓evo_n, ↓evo_s, ↓evt_n, ↓evt_s, ↓ex_set, ↓ex_par, ↓ex_expr, ↓ex_ret, ↓ex_retN, ↓ex_iff, ↓ex_for, ↓ex_whl, ↓ex_raise, ↓ex_pass, ↓ex_brk, ↓ex_cont, ↓exs_nil, ↓exs_cons, ↓tvf, ↓tvt, ↓asB_bl, ↓asI_i, ↓bop_add, ↓bop_sub, ↓bop_mul, ↓bop_fdv, ↓bop_mod, ↓bop_pow, ↓bop_tt, ↓bop_ll, ↓bop_lm, ↓cop_eq, ↓cop_ne, ↓cop_lt, ↓cop_le, ↓cop_gt, ↓cop_ge, ↓cop_eq_rep, ↓cop_ne_rep, ↓cop_eq_tup, ↓cop_ne_tup, ↓cop_eq_lst, ↓cop_ne_lst, ↓cop_eq_str, ↓cop_ne_str, ↓cop_eq_bl, ↓cop_ne_bl, ↓cop_eq_non, ↓cop_ne_non, ↓cop_is_n, ↓cop_is_b, ↓cop_isnot_n, ↓cop_isnot_b, ↓cop_isin_lst, ↓cop_isin_tup, ↓cop_notin_lst, ↓cop_notin_tup, ↓tru_non, ↓tru_bl, ↓tru_int, ↓tru_tup, ↓tru_lst, ↓seq_tup, ↓itm_tup, ↓seq_lst, ↓itm_lst, ↓seq_frz, ↓itm_frz, ↓itm_itr, ↓seq_ref, ↓itm_ref, ↓seq_ti, ↓itm_ti, ↓onO_s, ↓nth_0, ↓nth_1, ↓nth_2, ↓nth_3, ↓nth_4, ↓nth_5, ↓nth_6, ↓nth_7, ↓nth_8, ↓nth_9, ↓nth_10, ↓nth_11, ↓nth_12, ↓bf_len, ↓bf_abs, ↓bf_max, ↓bf_min, ↓bf_int, ↓bf_intb, ↓bf_dm, ↓bf_gcd, ↓bf_all, ↓bf_any, ↓bf_sum, ↓bf_tup, ↓bf_repl, ↓bf_stri, ↓bf_rept, ↓bf_lst, ↓asg_nm, ↓asg_tp, ↓asg_ls, ↓asg_sub, ↓asg_tg, ↓asg_ti, ↓asgs_nil, ↓asgs_cons, ↓mk_f, ↓mk_t, ↓setn_l, ↓setn_r, ↓isn_lst_true, ↓isn_lst_false, ↓isn_tup_true, ↓isn_tup_false, ↓isn_ref_true, ↓isn_ref_false, ↓cnt_t, ↓rev_t, ↓rev_l, ↓rev_ti, ↓onRef_r, ↓two_tt, ↓two_ll, ↓two_tl, ↓two_ti, ↓still_t, ↓still_ti, ↓still_l, ↓cut_tup, ↓cut_lst, ↓cut_frz, ↓cut_ti, ↓bop_titi, ↓cop_eq_ti, ↓cop_ne_ti, non_non, non_int, ty_int_int, ty_bool_int, ty_str_int, ty_tup_int, ty_lst_int, ty_dict_int, non_bl, ty_int_bl, ty_bool_bl, ty_str_bl, ty_tup_bl, ty_lst_bl, ty_dict_bl, non_str, ty_int_str, ty_bool_str, ty_str_str, ty_tup_str, ty_lst_str, ty_dict_str, non_tup, ty_int_tup, ty_bool_tup, ty_str_tup, ty_tup_tup, ty_lst_tup, ty_dict_tup, non_lst, ty_int_lst, ty_bool_lst, ty_str_lst, ty_tup_lst, ty_lst_lst, ty_dict_lst, ty_int_non, ty_int_ti, ty_bool_non, ty_bool_ti, ty_str_non, ty_str_ti, ty_tup_non, ty_tup_ti, ty_lst_non, ty_lst_ti, ty_dict_non, ty_dict_ti, ty_int_rep, ty_int_dic, ty_bool_rep, ty_bool_dic, ty_str_rep, ty_str_dic, ty_tup_rep, ty_tup_dic, ty_lst_rep, ty_lst_dic, ty_dict_rep, ty_dict_dic, ta_tup, ta_lst, ta_ti, ta_int, ta_bl, ta_str, ta_non, st_0, st_1, st_2, st_3, st_4, st_5, st_6, st_7, st_8, st_9, st_10, st_11, st_12, st_13, st_14, st_15, st_16, st_17, st_18, st_19, st_20, st_21, st_22, st_23, bp_nm, bp_tp, bp_ls, bp_ti, bps_nil, bps_nm, sts_nil, sts_cons, rowr_l, rowr_r, cat_d, wp0_nil, wp_0, wp_1, wp_2, wp_3, wp_4, wp_5, wp_6, wp_7, wp_8, wp_9, wp_10, wp_11, wp_12, wp_13, wp_14, wp_15, wp_16, wp_17, wp_18, wp_19, wp_20, wp_21, wp_22, wp_23, rng_1, rng_2, rng_3, rng_4, rng_5, rng_6, rng_7, brkT, brkF, ti1, ti2, ti3, ti4, ti5, ti6, ti_map, eq_ti, pick, List.cons_append, List.nil_append, List.map_cons, List.map_nil, List.getD_cons_zero, List.getD_cons_succ, Bool.not_true, Bool.not_false]
              have g := g9 d hd
              cases d <;> (try (cases g; done)) <;> (simp only [↓ev_v0, ↓ev_v1, ↓ev_v2, ↓ev_v3, ↓ev_v4, ↓ev_v5, ↓ev_v6, ↓ev_v7, ↓ev_v8, ↓ev_v9, ↓ev_v10, ↓ev_v11, ↓ev_v12, ↓ev_v13, ↓ev_v14, ↓ev_v15, ↓ev_v16, ↓ev_v17, ↓ev_v18, ↓ev_v19, ↓ev_v20, ↓ev_v21, ↓ev_v22, ↓ev_v23, ↓ev_cst, ↓ev_glb, ↓ev_bin, ↓ev_neg, ↓ev_not, ↓ev_cmp, ↓ev_cmp2, ↓ev_and, ↓ev_or, ↓ev_ite, ↓ev_tup, ↓ev_lst, ↓ev_idx, ↓ev_slc, ↓ev_call, ↓ev_callk, ↓ev_bi, ↓ev_isi, ↓ev_isi2, ↓ev_lc, ↓ev_lc2, ↓ev_tcat, ↓ev_rng, ↓ev_rng1, ↓ev_zip, ↓ev_enm, ↓ev_cnt, ↓ev_nset, ↓ev_dct, ↓ev_cat, ↓ev_isn, ↓ev_rev, ↓ev_app, ↓evs_nil, ↓evs_cons, ↓evss_nil, ↓evss_f, ↓evss_t, ↓spr_tup, ↓spr_lst, ↓spr_frz, ↓spr_ti, ↓evo_n, ↓evo_s, ↓evt_n, ↓evt_s, ↓ex_set, ↓ex_par, ↓ex_expr, ↓ex_ret, ↓ex_retN, ↓ex_iff, ↓ex_for, ↓ex_whl, ↓ex_raise, ↓ex_pass, ↓ex_brk, ↓ex_cont, ↓exs_nil, ↓exs_cons, ↓tvf, ↓tvt, ↓asB_bl, ↓asI_i, ↓bop_add, ↓bop_sub, ↓bop_mul, ↓bop_fdv, ↓bop_mod, ↓bop_pow, ↓bop_tt, ↓bop_ll, ↓bop_lm, ↓cop_eq, ↓cop_ne, ↓cop_lt, ↓cop_le, ↓cop_gt, ↓cop_ge, ↓cop_eq_rep, ↓cop_ne_rep, ↓cop_eq_tup, ↓cop_ne_tup, ↓cop_eq_lst, ↓cop_ne_lst, ↓cop_eq_str, ↓cop_ne_str, ↓cop_eq_bl, ↓cop_ne_bl, ↓cop_eq_non, ↓cop_ne_non, ↓cop_is_n, ↓cop_is_b, ↓cop_isnot_n, ↓cop_isnot_b, ↓cop_isin_lst, ↓cop_isin_tup, ↓cop_notin_lst, ↓cop_notin_tup, ↓tru_non, ↓tru_bl, ↓tru_int, ↓tru_tup, ↓tru_lst, ↓seq_tup, ↓itm_tup, ↓seq_lst, ↓itm_lst, ↓seq_frz, ↓itm_frz, ↓itm_itr, ↓seq_ref, ↓itm_ref, ↓seq_ti, ↓itm_ti, ↓onO_s, ↓nth_0, ↓nth_1, ↓nth_2, ↓nth_3, ↓nth_4, ↓nth_5, ↓nth_6, ↓nth_7, ↓nth_8, ↓nth_9, ↓nth_10, ↓nth_11, ↓nth_12, ↓bf_len, ↓bf_abs, ↓bf_max, ↓bf_min, ↓bf_int, ↓bf_intb, ↓bf_dm, ↓bf_gcd, ↓bf_all, ↓bf_any, ↓bf_sum, ↓bf_tup, ↓bf_repl, ↓bf_stri, ↓bf_rept, ↓bf_lst, ↓asg_nm, ↓asg_tp, ↓asg_ls, ↓asg_sub, ↓asg_tg, ↓asg_ti, ↓asgs_nil, ↓asgs_cons, ↓mk_f, ↓mk_t, ↓setn_l, ↓setn_r, ↓isn_lst_true, ↓isn_lst_false, ↓isn_tup_true, ↓isn_tup_false, ↓isn_ref_true, ↓isn_ref_false, ↓cnt_t, ↓rev_t, ↓rev_l, ↓rev_ti, ↓onRef_r, ↓two_tt, ↓two_ll, ↓two_tl, ↓two_ti, ↓still_t, ↓still_ti, ↓still_l, ↓cut_tup, ↓cut_lst, ↓cut_frz, ↓cut_ti, ↓bop_titi, ↓cop_eq_ti, ↓cop_ne_ti, non_non, non_int, ty_int_int, ty_bool_int, ty_str_int, ty_tup_int, ty_lst_int, ty_dict_int, non_bl, ty_int_bl, ty_bool_bl, ty_str_bl, ty_tup_bl, ty_lst_bl, ty_dict_bl, non_str, ty_int_str, ty_bool_str, ty_str_str, ty_tup_str, ty_lst_str, ty_dict_str, non_tup, ty_int_tup, ty_bool_tup, ty_str_tup, ty_tup_tup, ty_lst_tup, ty_dict_tup, non_lst, ty_int_lst, ty_bool_lst, ty_str_lst, ty_tup_lst, ty_lst_lst, ty_dict_lst, ty_int_non, ty_int_ti, ty_bool_non, ty_bool_ti, ty_str_non, ty_str_ti, ty_tup_non, ty_tup_ti, ty_lst_non, ty_lst_ti, ty_dict_non, ty_dict_ti, ty_int_rep, ty_int_dic, ty_bool_rep, ty_bool_dic, ty_str_rep, ty_str_dic, ty_tup_rep, ty_tup_dic, ty_lst_rep, ty_lst_dic, ty_dict_rep, ty_dict_dic, ta_tup, ta_lst, ta_ti, ta_int, ta_bl, ta_str, ta_non, st_0, st_1, st_2, st_3, st_4, st_5, st_6, st_7, st_8, st_9, st_10, st_11, st_12, st_13, st_14, st_15, st_16, st_17, st_18, st_19, st_20, st_21, st_22, st_23, bp_nm, bp_tp, bp_ls, bp_ti, bps_nil, bps_nm, sts_nil, sts_cons, rowr_l, rowr_r, cat_d, wp0_nil, wp_0, wp_1, wp_2, wp_3, wp_4, wp_5, wp_6, wp_7, wp_8, wp_9, wp_10, wp_11, wp_12, wp_13, wp_14, wp_15, wp_16, wp_17, wp_18, wp_19, wp_20, wp_21, wp_22, wp_23, rng_1, rng_2, rng_3, rng_4, rng_5, rng_6, rng_7, brkT, brkF, ti1, ti2, ti3, ti4, ti5, ti6, ti_map, eq_ti, pick, List.cons_append, List.nil_append, List.map_cons, List.map_nil, List.getD_cons_zero, List.getD_cons_succ, Bool.not_true, Bool.not_false]; exact h2)
            · refine ⟨pures_W, ?_⟩
              rw [in_W]
              cases e : [x1, x2, x3, y1, y2, y3, z1, z2, z3].all isW with
              | false =>
                have e2 : [D.tup [x1, x2, x3], .tup [y1, y2, y3], .tup [z1, z2, z3]].all rowInt = false := by
                  rw [← e]
                  simp only [List.all_cons, List.all_nil, rowInt, List.length_cons, List.length_nil, Bool.and_true]
                  cases isW x1 <;> cases isW x2 <;> cases isW x3 <;> simp [Bool.and_assoc]
                rw [isV_f (.inr e2)] at h
                exact brk_t rfl h
              | true =>
                refine brk_f rfl ?_
                have e2 : [D.tup [x1, x2, x3], .tup [y1, y2, y3], .tup [z1, z2, z3]].all rowInt = true := by
                  simp only [List.all_cons, List.all_nil, Bool.and_eq_true, Bool.and_true] at e
                  simp only [List.all_cons, List.all_nil, rowInt, List.length_cons, List.length_nil, Bool.and_true, Bool.and_eq_true]
                  simp [e]
                obtain ⟨m, em⟩ := rows_m rfl e2
                have e4 : x1 = .int m.a.x ∧ x2 = .int m.a.y ∧ x3 = .int m.a.z ∧ y1 = .int m.b.x ∧ y2 = .int m.b.y ∧ y3 = .int m.b.z ∧ z1 = .int m.c.x ∧ z2 = .int m.c.y ∧ z3 = .int m.c.z := by
                  simp only [vD, ti, List.map_cons, List.map_nil, List.cons.injEq, D.tup.injEq, and_true] at em
                  obtain ⟨⟨q1, q2, q3⟩, ⟨q4, q5, q6⟩, q7, q8, q9⟩ := em
                  exact ⟨q1, q2, q3, q4, q5, q6, q7, q8, q9⟩
                obtain ⟨rfl, rfl, rfl, rfl, rfl, rfl, rfl, rfl, rfl⟩ := e4
                have b1 := gdv_bv (u := m.a) (hi (vD m.a) (by simp [vD, ti])).1
                have b2 := gdv_bv (u := m.b) (hi (vD m.b) (by simp [vD, ti])).1
                have b3 := gdv_bv (u := m.c) (hi (vD m.c) (by simp [vD, ti])).1
                rw [show isVd (.tup [.tup [.int m.a.x, .int m.a.y, .int m.a.z], .tup [.int m.b.x, .int m.b.y, .int m.b.z], .tup [.int m.c.x, .int m.c.y, .int m.c.z]]) = decide (Vw m) from isV_m] at h
                simp only [↓ev_v0, ↓ev_v1, ↓ev_v2, ↓ev_v3, ↓ev_v4, ↓ev_v5, ↓ev_v6, ↓ev_v7, ↓ev_v8, ↓ev_v9, ↓ev_v10, ↓ev_v11, ↓ev_v12, ↓ev_v13, ↓ev_v14, ↓ev_v15, ↓ev_v16, ↓ev_v17, ↓ev_v18, ↓ev_v19, ↓ev_v20, ↓ev_v21, ↓ev_v22, ↓ev_v23, ↓ev_cst, ↓ev_glb, ↓ev_bin, ↓ev_neg, ↓ev_not, ↓ev_cmp, ↓ev_cmp2, ↓ev_and, ↓ev_or, ↓ev_ite, ↓ev_tup, ↓ev_lst, ↓ev_idx, ↓ev_slc, ↓ev_call, ↓ev_callk, ↓ev_bi, ↓ev_isi, ↓ev_isi2, ↓ev_lc, ↓ev_lc2, ↓ev_tcat, ↓ev_rng, ↓ev_rng1, ↓ev_zip, ↓ev_enm, ↓ev_cnt, ↓ev_nset, ↓ev_dct, ↓ev_cat, ↓ev_isn, ↓ev_rev, ↓ev_app, ↓evs_nil, ↓evs_cons, ↓evss_nil, ↓evss_f, ↓evss_t, ↓spr_tup, ↓spr_lst, ↓spr_frz, ↓spr_ti, ↓evo_n, ↓evo_s, ↓evt_n, ↓evt_s, ↓ex_set, ↓ex_par, ↓ex_expr, ↓ex_ret, ↓ex_retN, ↓ex_iff, ↓ex_for, ↓ex_whl, ↓ex_raise, ↓ex_pass, ↓ex_brk, ↓ex_cont, ↓exs_nil, ↓exs_cons, ↓tvf, ↓tvt, ↓asB_bl, ↓asI_i, ↓bop_add, ↓bop_sub, ↓bop_mul, ↓bop_fdv, ↓bop_mod, ↓bop_pow, ↓bop_tt, ↓bop_ll, ↓bop_lm, ↓cop_eq, ↓cop_ne, ↓cop_lt, ↓cop_le, ↓cop_gt, ↓cop_ge, ↓cop_eq_rep, ↓cop_ne_rep, ↓cop_eq_tup, ↓cop_ne_tup, ↓cop_eq_lst, ↓cop_ne_lst, ↓cop_eq_str, ↓cop_ne_str, ↓cop_eq_bl, ↓cop_ne_bl, ↓cop_eq_non, ↓cop_ne_non, ↓cop_is_n, ↓cop_is_b, ↓cop_isnot_n, ↓cop_isnot_b, ↓cop_isin_lst, ↓cop_isin_tup, ↓cop_notin_lst, ↓cop_notin_tup, ↓tru_non, ↓tru_bl, ↓tru_int, ↓tru_tup, ↓tru_lst, ↓seq_tup, ↓itm_tup, ↓seq_lst, ↓itm_lst, ↓seq_frz, ↓itm_frz, ↓itm_itr, ↓seq_ref, ↓itm_ref, ↓seq_ti, ↓itm_ti, ↓onO_s, ↓nth_0, ↓nth_1, ↓nth_2, ↓nth_3, ↓nth_4, ↓nth_5, ↓nth_6, ↓nth_7, ↓nth_8, ↓nth_9, ↓nth_10, ↓nth_11, ↓nth_12, ↓bf_len, ↓bf_abs, ↓bf_max, ↓bf_min, ↓bf_int, ↓bf_intb, ↓bf_dm, ↓bf_gcd, ↓bf_all, ↓bf_any, ↓bf_sum, ↓bf_tup, ↓bf_repl, ↓bf_stri, ↓bf_rept, ↓bf_lst, ↓asg_nm, ↓asg_tp, ↓asg_ls, ↓asg_sub, ↓asg_tg, ↓asg_ti, ↓asgs_nil, ↓asgs_cons, ↓mk_f, ↓mk_t, ↓setn_l, ↓setn_r, ↓isn_lst_true, ↓isn_lst_false, ↓isn_tup_true, ↓isn_tup_false, ↓isn_ref_true, ↓isn_ref_false, ↓cnt_t, ↓rev_t, ↓rev_l, ↓rev_ti, ↓onRef_r, ↓two_tt, ↓two_ll, ↓two_tl, ↓two_ti, ↓still_t, ↓still_ti, ↓still_l, ↓cut_tup, ↓cut_lst, ↓cut_frz, ↓cut_ti, ↓bop_titi, ↓cop_eq_ti, ↓cop_ne_ti, non_non, non_int, ty_int_int, ty_bool_int, ty_str_int, ty_tup_int, ty_lst_int, ty_dict_int, non_bl, ty_int_bl, ty_bool_bl, ty_str_bl, ty_tup_bl, ty_lst_bl, ty_dict_bl, non_str, ty_int_str, ty_bool_str, ty_str_str, ty_tup_str, ty_lst_str, ty_dict_str, non_tup, ty_int_tup, ty_bool_tup, ty_str_tup, ty_tup_tup, ty_lst_tup, ty_dict_tup, non_lst, ty_int_lst, ty_bool_lst, ty_str_lst, ty_tup_lst, ty_lst_lst, ty_dict_lst, ty_int_non, ty_int_ti, ty_bool_non, ty_bool_ti, ty_str_non, ty_str_ti, ty_tup_non, ty_tup_ti, ty_lst_non, ty_lst_ti, ty_dict_non, ty_dict_ti, ty_int_rep, ty_int_dic, ty_bool_rep, ty_bool_dic, ty_str_rep, ty_str_dic, ty_tup_rep, ty_tup_dic, ty_lst_rep, ty_lst_dic, ty_dict_rep, ty_dict_dic, ta_tup, ta_lst, ta_ti, ta_int, ta_bl, ta_str, ta_non, st_0, st_1, st_2, st_3, st_4, st_5, st_6, st_7, st_8, st_9, st_10, st_11, st_12, st_13, st_14, st_15, st_16, st_17, st_18, st_19, st_20, st_21, st_22, st_23, bp_nm, bp_tp, bp_ls, bp_ti, bps_nil, bps_nm, sts_nil, sts_cons, rowr_l, rowr_r, cat_d, wp0_nil, wp_0, wp_1, wp_2, wp_3, wp_4, wp_5, wp_6, wp_7, wp_8, wp_9, wp_10, wp_11, wp_12, wp_13, wp_14, wp_15, wp_16, wp_17, wp_18, wp_19, wp_20, wp_21, wp_22, wp_23, rng_1, rng_2, rng_3, rng_4, rng_5, rng_6, rng_7, brkT, brkF, ti1, ti2, ti3, ti4, ti5, ti6, ti_map, eq_ti, pick, List.cons_append, List.nil_append, List.map_cons, List.map_nil, List.getD_cons_zero, List.getD_cons_succ, Bool.not_true, Bool.not_false, ↓seq_v, ↓seq_f, ↓itm_v, ↓itm_f, ↓asg_v, ↓asg_f, bp_v, bp_f, bps_tv, bps_tf, ↓two_vv, ↓two_vt, ↓two_tv, ↓two_ff, ↓still_v, ↓cut_v, ↓cop_eq_v, ↓cop_ne_v, ↓cop_eq_f, ↓cop_ne_f, inD_n, inD_c, pures_c, pures_n, pure_vT, pure_fT, pure_iT, pure_bT, pure_nT, eq_v, eq_f, Bool.or_false, and_self, ↓tru_v, non_v, non_f, ty_v, ty_f, ta_v, ta_f, ↓bop_vv, ↓bop_6v, ↓cut_9a, ↓cut_9b, ↓cut_9c, tup3, tup2, v_ti, f_ti, zipD, wp_cc, true_and, decide_true, decide_false, eq_self, sz_0, sz_1, sz_2, sz_3, sz_4, sz_5, sz_6, sz_7, sz_8, sz_9, sz_10, sz_11, sz_12, enm_1, enm_2, enm_3, enm_4, enm_5, enm_6, enm_7, enm_8, enm_9, enm_10, len_1, len_2, len_3, len_4, len_5, len_6, len_7, len_8, len_9, len_10]
                refine s_law_block4 b1 b2 b3 (by decide) ?_
                try walk_at "fx"
                refine brk_i (fun z => ?_) fun z => ?_
                · have hm : det m ≠ 0 := ndec4 z
                  refine s_law_plain (ns := m.l) (fl_det hm) (bd9_of ⟨b1, b2, b3⟩ (by decide)) (by simp [M3.l, SZ]) ?_
                  have e5 : decide (Vw m) = decide (pn m.l = m.l) := decide_eq_decide.mpr ⟨fun w => pn_of w.1, fun w => ⟨by rw [← w]; exact pn_prim (fl_det hm), hm⟩⟩
                  rw [e5] at h
                  show cop .eq (ti (pn m.l)) (ti m.l) fun z => k (.bl z) S
                  simp only [cop_eq_ti]
                  exact h
                · have hm : det m = 0 := of_decide_eq_true ((Bool.not_eq_false' _).mp z)
                  rw [decide_eq_false fun w : Vw m => w.2 hm] at h
                  exact h
    · have e2 := isV_f (.inl q)
      rw [e2] at h
      simp only [f_law_is_view, q, decide_false, ↓ev_v0, ↓ev_v1, ↓ev_v2, ↓ev_v3, ↓ev_v4, ↓ev_v5, ↓ev_v6, ↓ev_v7, ↓ev_v8, ↓ev_v9, ↓ev_v10, ↓ev_v11, ↓ev_v12, ↓ev_v13, ↓ev_v14, ↓ev_v15, ↓ev_v16, ↓ev_v17, ↓ev_v18, ↓ev_v19, ↓ev_v20, ↓ev_v21, ↓ev_v22, ↓ev_v23, ↓ev_cst, ↓ev_glb, ↓ev_bin, ↓ev_neg, ↓ev_not, ↓ev_cmp, ↓ev_cmp2, ↓ev_and, ↓ev_or, ↓ev_ite, ↓ev_tup, ↓ev_lst, ↓ev_idx, ↓ev_slc, ↓ev_call, ↓ev_callk, ↓ev_bi, ↓ev_isi, ↓ev_isi2, ↓ev_lc, ↓ev_lc2, ↓ev_tcat, ↓ev_rng, ↓ev_rng1, ↓ev_zip, ↓ev_enm, ↓ev_cnt, ↓ev_nset, ↓ev_dct, ↓ev_cat, ↓ev_isn, ↓ev_rev, ↓ev_app, ↓evs_nil, ↓evs_cons, ↓evss_nil, ↓evss_f, ↓evss_t, ↓spr_tup, ↓spr_lst, ↓spr_frz, ↓spr_ti, ↓evo_n, ↓evo_s, ↓evt_n, ↓evt_s, ↓ex_set, ↓ex_par, ↓ex_expr, ↓ex_ret, ↓ex_retN, ↓ex_iff, ↓ex_for, ↓ex_whl, ↓ex_raise, ↓ex_pass, ↓ex_brk, ↓ex_cont, ↓exs_nil, ↓exs_cons, ↓tvf, ↓tvt, ↓asB_bl, ↓asI_i, ↓bop_add, ↓bop_sub, ↓bop_mul, ↓bop_fdv, ↓bop_mod, ↓bop_pow, ↓bop_tt, ↓bop_ll, ↓bop_lm, ↓cop_eq, ↓cop_ne, ↓cop_lt, ↓cop_le, ↓cop_gt, ↓cop_ge, ↓cop_eq_rep, ↓cop_ne_rep, ↓cop_eq_tup, ↓cop_ne_tup, ↓cop_eq_lst, ↓cop_ne_lst, ↓cop_eq_str, ↓cop_ne_str, ↓cop_eq_bl, ↓cop_ne_bl, ↓cop_eq_non, ↓cop_ne_non, ↓cop_is_n, ↓cop_is_b, ↓cop_isnot_n, ↓cop_isnot_b, ↓cop_isin_lst, ↓cop_isin_tup, ↓cop_notin_lst, ↓cop_notin_tup, ↓tru_non, ↓tru_bl, ↓tru_int, ↓tru_tup, ↓tru_lst, ↓seq_tup, ↓itm_tup, ↓seq_lst, ↓itm_lst, ↓seq_frz, ↓itm_frz, ↓itm_itr, ↓seq_ref, ↓itm_ref, ↓seq_ti, ↓itm_ti, ↓onO_s, ↓nth_0, ↓nth_1, ↓nth_2, ↓nth_3, ↓nth_4, ↓nth_5, ↓nth_6, ↓nth_7, ↓nth_8, ↓nth_9, ↓nth_10, ↓nth_11, ↓nth_12, ↓bf_len, ↓bf_abs, ↓bf_max, ↓bf_min, ↓bf_int, ↓bf_intb, ↓bf_dm, ↓bf_gcd, ↓bf_all, ↓bf_any, ↓bf_sum, ↓bf_tup, ↓bf_repl, ↓bf_stri, ↓bf_rept, ↓bf_lst, ↓asg_nm, ↓asg_tp, ↓asg_ls, ↓asg_sub, ↓asg_tg, ↓asg_ti, ↓asgs_nil, ↓asgs_cons, ↓mk_f, ↓mk_t, ↓setn_l, ↓setn_r, ↓isn_lst_true, ↓isn_lst_false, ↓isn_tup_true, ↓isn_tup_false, ↓isn_ref_true, ↓isn_ref_false, ↓cnt_t, ↓rev_t, ↓rev_l, ↓rev_ti, ↓onRef_r, ↓two_tt, ↓two_ll, ↓two_tl, ↓two_ti, ↓still_t, ↓still_ti, ↓still_l, ↓cut_tup, ↓cut_lst, ↓cut_frz, ↓cut_ti, ↓bop_titi, ↓cop_eq_ti, ↓cop_ne_ti, non_non, non_int, ty_int_int, ty_bool_int, ty_str_int, ty_tup_int, ty_lst_int, ty_dict_int, non_bl, ty_int_bl, ty_bool_bl, ty_str_bl, ty_tup_bl, ty_lst_bl, ty_dict_bl, non_str, ty_int_str, ty_bool_str, ty_str_str, ty_tup_str, ty_lst_str, ty_dict_str, non_tup, ty_int_tup, ty_bool_tup, ty_str_tup, ty_tup_tup, ty_lst_tup, ty_dict_tup, non_lst, ty_int_lst, ty_bool_lst, ty_str_lst, ty_tup_lst, ty_lst_lst, ty_dict_lst, ty_int_non, ty_int_ti, ty_bool_non, ty_bool_ti, ty_str_non, ty_str_ti, ty_tup_non, ty_tup_ti, ty_lst_non, ty_lst_ti, ty_dict_non, ty_dict_ti, ty_int_rep, ty_int_dic, ty_bool_rep, ty_bool_dic, ty_str_rep, ty_str_dic, ty_tup_rep, ty_tup_dic, ty_lst_rep, ty_lst_dic, ty_dict_rep, ty_dict_dic, ta_tup, ta_lst, ta_ti, ta_int, ta_bl, ta_str, ta_non, st_0, st_1, st_2, st_3, st_4, st_5, st_6, st_7, st_8, st_9, st_10, st_11, st_12, st_13, st_14, st_15, st_16, st_17, st_18, st_19, st_20, st_21, st_22, st_23, bp_nm, bp_tp, bp_ls, bp_ti, bps_nil, bps_nm, sts_nil, sts_cons, rowr_l, rowr_r, cat_d, wp0_nil, wp_0, wp_1, wp_2, wp_3, wp_4, wp_5, wp_6, wp_7, wp_8, wp_9, wp_10, wp_11, wp_12, wp_13, wp_14, wp_15, wp_16, wp_17, wp_18, wp_19, wp_20, wp_21, wp_22, wp_23, rng_1, rng_2, rng_3, rng_4, rng_5, rng_6, rng_7, brkT, brkF, ti1, ti2, ti3, ti4, ti5, ti6, ti_map, eq_ti, pick, List.cons_append, List.nil_append, List.map_cons, List.map_nil, List.getD_cons_zero, List.getD_cons_succ, Bool.not_true, Bool.not_false]
      exact h
  | _ =>
    first
      | (cases hg.1; done)
      | (simp only [f_law_is_view, ↓ev_v0, ↓ev_v1, ↓ev_v2, ↓ev_v3, ↓ev_v4, ↓ev_v5, ↓ev_v6, ↓ev_v7, ↓ev_v8, ↓ev_v9, ↓ev_v10, ↓ev_v11, ↓ev_v12, ↓ev_v13, ↓ev_v14, ↓ev_v15, ↓ev_v16, ↓ev_v17, ↓ev_v18, ↓ev_v19, ↓ev_v20, ↓ev_v21, ↓ev_v22, ↓ev_v23, ↓ev_cst, ↓ev_glb, ↓ev_bin, ↓ev_neg, ↓ev_not, ↓ev_cmp, ↓ev_cmp2, ↓ev_and, ↓ev_or, ↓ev_ite, ↓ev_tup, ↓ev_lst, ↓ev_idx, ↓ev_slc, ↓ev_call, ↓ev_callk, ↓ev_bi, ↓ev_isi, ↓ev_isi2, ↓ev_lc, ↓ev_lc2, ↓ev_tcat, ↓ev_rng, ↓ev_rng1, ↓ev_zip, ↓ev_enm, ↓ev_cnt, ↓ev_nset, ↓ev_dct, ↓ev_cat, ↓ev_isn, ↓ev_rev, ↓ev_app, ↓evs_nil, ↓evs_cons, ↓evss_nil, ↓evss_f, ↓evss_t, ↓spr_tup, ↓spr_lst, ↓spr_frz, ↓spr_ti, ↓evo_n, ↓evo_s, ↓evt_n, ↓evt_s, ↓ex_set, ↓ex_par, ↓ex_expr, ↓ex_ret, ↓ex_retN, ↓ex_iff, ↓ex_for, ↓ex_whl, ↓ex_raise, ↓ex_pass, ↓ex_brk, ↓ex_cont, ↓exs_nil, ↓exs_cons, ↓tvf, ↓tvt, ↓asB_bl, ↓asI_i, ↓bop_add, ↓bop_sub, ↓bop_mul, ↓bop_fdv, ↓bop_mod, ↓bop_pow, ↓bop_tt, ↓bop_ll, ↓bop_lm, ↓cop_eq, ↓cop_ne, ↓cop_lt, ↓cop_le, ↓cop_gt, ↓cop_ge, ↓cop_eq_rep, ↓cop_ne_rep, ↓cop_eq_tup, ↓cop_ne_tup, ↓cop_eq_lst, ↓cop_ne_lst, ↓cop_eq_str, ↓cop_ne_str, ↓cop_eq_bl, ↓cop_ne_bl, ↓cop_eq_non, ↓cop_ne_non, ↓cop_is_n, ↓cop_is_b, ↓cop_isnot_n, ↓cop_isnot_b, ↓cop_isin_lst, ↓cop_isin_tup, ↓cop_notin_lst, ↓cop_notin_tup, ↓tru_non, ↓tru_bl, ↓tru_int, ↓tru_tup, ↓tru_lst, ↓seq_tup, ↓itm_tup, ↓seq_lst, ↓itm_lst, ↓seq_frz, ↓itm_frz, ↓itm_itr, ↓seq_ref, ↓itm_ref, ↓seq_ti, ↓itm_ti, ↓onO_s, ↓nth_0, ↓nth_1, ↓nth_2, ↓nth_3, ↓nth_4, ↓nth_5, ↓nth_6, ↓nth_7, ↓nth_8, ↓nth_9, ↓nth_10, ↓nth_11, ↓nth_12, ↓bf_len, ↓bf_abs, ↓bf_max, ↓bf_min, ↓bf_int, ↓bf_intb, ↓bf_dm, ↓bf_gcd, ↓bf_all, ↓bf_any, ↓bf_sum, ↓bf_tup, ↓bf_repl, ↓bf_stri, ↓bf_rept, ↓bf_lst, ↓asg_nm, ↓asg_tp, ↓asg_ls, ↓asg_sub, ↓asg_tg, ↓asg_ti, ↓asgs_nil, ↓asgs_cons, ↓mk_f, ↓mk_t, ↓setn_l, ↓setn_r, ↓isn_lst_true, ↓isn_lst_false, ↓isn_tup_true, ↓isn_tup_false, ↓isn_ref_true, ↓isn_ref_false, ↓cnt_t, ↓rev_t, ↓rev_l, ↓rev_ti, ↓onRef_r, ↓two_tt, ↓two_ll, ↓two_tl, ↓two_ti, ↓still_t, ↓still_ti, ↓still_l, ↓cut_tup, ↓cut_lst, ↓cut_frz, ↓cut_ti, ↓bop_titi, ↓cop_eq_ti, ↓cop_ne_ti, non_non, non_int, ty_int_int, ty_bool_int, ty_str_int, ty_tup_int, ty_lst_int, ty_dict_int, non_bl, ty_int_bl, ty_bool_bl, ty_str_bl, ty_tup_bl, ty_lst_bl, ty_dict_bl, non_str, ty_int_str, ty_bool_str, ty_str_str, ty_tup_str, ty_lst_str, ty_dict_str, non_tup, ty_int_tup, ty_bool_tup, ty_str_tup, ty_tup_tup, ty_lst_tup, ty_dict_tup, non_lst, ty_int_lst, ty_bool_lst, ty_str_lst, ty_tup_lst, ty_lst_lst, ty_dict_lst, ty_int_non, ty_int_ti, ty_bool_non, ty_bool_ti, ty_str_non, ty_str_ti, ty_tup_non, ty_tup_ti, ty_lst_non, ty_lst_ti, ty_dict_non, ty_dict_ti, ty_int_rep, ty_int_dic, ty_bool_rep, ty_bool_dic, ty_str_rep, ty_str_dic, ty_tup_rep, ty_tup_dic, ty_lst_rep, ty_lst_dic, ty_dict_rep, ty_dict_dic, ta_tup, ta_lst, ta_ti, ta_int, ta_bl, ta_str, ta_non, st_0, st_1, st_2, st_3, st_4, st_5, st_6, st_7, st_8, st_9, st_10, st_11, st_12, st_13, st_14, st_15, st_16, st_17, st_18, st_19, st_20, st_21, st_22, st_23, bp_nm, bp_tp, bp_ls, bp_ti, bps_nil, bps_nm, sts_nil, sts_cons, rowr_l, rowr_r, cat_d, wp0_nil, wp_0, wp_1, wp_2, wp_3, wp_4, wp_5, wp_6, wp_7, wp_8, wp_9, wp_10, wp_11, wp_12, wp_13, wp_14, wp_15, wp_16, wp_17, wp_18, wp_19, wp_20, wp_21, wp_22, wp_23, rng_1, rng_2, rng_3, rng_4, rng_5, rng_6, rng_7, brkT, brkF, ti1, ti2, ti3, ti4, ti5, ti6, ti_map, eq_ti, pick, List.cons_append, List.nil_append, List.map_cons, List.map_nil, List.getD_cons_zero, List.getD_cons_succ, Bool.not_true, Bool.not_false]
         exact h)
end
end FV
set_option Elab.async false
set_option linter.all false
set_option maxRecDepth 100000
/-! P_k14: the law of views of anything. -/
namespace FV
def r_law_things_v3_6 : List Sm := (.ret (.var 5)) :: []
def r_law_things_v3_5 : List Sm := (.for_ (.nm 6) (.lst false [(.cst (.int 0)), (.cst (.int 1)), (.neg (.cst (.int 1))), (.bin .add (.idx (.var 4) (.var 3)) (.cst (.int 1))), (.bin .sub (.cst (.int 0)) (.idx (.var 4) (.var 3))), (.cst .non), (.bi .str [(.idx (.var 4) (.var 3))]), (.tup [(.idx (.var 4) (.var 3))]), (.cst (.bl true)), (.cst (.bl false)), (.cmp .eq (.idx (.var 4) (.var 3)) (.cst (.int 1))), (.lst false [(.cst (.int 1))]), (.bin .pow (.cst (.int 10)) (.cst (.int 29)))]) [.expr (.app (.var 5) (.bin .add (.bin .add (.slc (.var 1) none (some (.var 2))) (.tup [(.bin .add (.bin .add (.slc (.var 4) none (some (.var 3))) (.tup [(.var 6)])) (.slc (.var 4) (some (.bin .add (.var 3) (.cst (.int 1)))) none))])) (.slc (.var 1) (some (.bin .add (.var 2) (.cst (.int 1)))) none)))]) :: r_law_things_v3_6
def r_law_things_v3_4 : List Sm := (.set (.pt (.nm 5)) (.cat true (.var 5) (.lc false [6] (.nm 6) (.lst false [(.cst .non), (.slc (.var 4) none (some (.cst (.int 2)))), (.bin .add (.var 4) (.tup [(.cst (.int 0))])), (.bi .list [(.var 4)]), (.tup [(.cst (.int 0)), (.cst (.int 0)), (.cst (.int 0))]), (.cst (.int 5)), (.cst (.str "row")), (.idx (.var 1) (.bin .sub (.var 2) (.cst (.int 1)))), (.rev (.var 4))]) none (.bin .add (.bin .add (.slc (.var 1) none (some (.var 2))) (.tup [(.var 6)])) (.slc (.var 1) (some (.bin .add (.var 2) (.cst (.int 1)))) none))))) :: r_law_things_v3_5
def r_law_things_v3_3 : List Sm := (.set (.pt (.nm 5)) (.cat true (.cat false (.var 5) (.lc false [8] (.nm 8) (.lst false [(.neg (.cst (.int 3))), (.neg (.cst (.int 2))), (.neg (.cst (.int 1))), (.cst (.int 2)), (.cst (.int 3))]) none (.bi .tuple [(.lc false [6] (.nm 6) (.var 1) none (.bi .tuple [(.lc false [7] (.nm 7) (.var 6) none (.bin .mul (.var 8) (.var 7)))]))]))) (.lst false [(.bi .tuple [(.lc false [9] (.nm 9) (.rng1 (.cst (.int 3))) none (.bi .tuple [(.lc false [6] (.nm 6) (.var 1) none (.idx (.var 6) (.var 9)))]))])]))) :: r_law_things_v3_4
def r_law_things_v3_2 : List Sm := (.set (.pt (.nm 5)) (.lst true [(.var 1), (.rev (.var 1)), (.bin .add (.slc (.var 1) (some (.cst (.int 1))) none) (.slc (.var 1) none (some (.cst (.int 1))))), (.slc (.var 1) none (some (.cst (.int 2)))), (.bin .add (.var 1) (.tup [(.var 4)])), (.bi .list [(.var 1)]), (.tup [(.var 1)]), (.cst .non), (.cst (.int 0)), (.cst (.str "view")), (.tup []), .dct, (.bi .tuple [(.lc false [6] (.nm 6) (.var 1) none (.bi .list [(.var 6)]))]), (.bin .add (.bin .add (.idx (.var 1) (.cst (.int 0))) (.idx (.var 1) (.cst (.int 1)))) (.idx (.var 1) (.cst (.int 2))))])) :: r_law_things_v3_3
def r_law_things_v3_1 : List Sm := (.set (.pt (.nm 4)) (.idx (.var 1) (.var 2))) :: r_law_things_v3_2
def r_law_things_v3_0 : List Sm := (.set (.pt (.tp [(.nm 2), (.nm 3)])) (.tup [(.call 442 [(.var 0), (.cst (.int 3))]), (.call 442 [(.var 0), (.cst (.int 3))])])) :: r_law_things_v3_1
theorem rb_law_things_v3 : f_law_things_v3 = ⟨2, 10, r_law_things_v3_0⟩ := rfl
def r_law_right_v23_0_4 : List Sm := (.iff (.or (.cmp .gt (.bi .len [(.var 8)]) (.cst (.int 1))) (.or (.cmp .ne (.call 303 [(.var 5)]) (.call 313 [(.var 5)])) (.cmp .isnot (.call 303 [(.tup [(.idx (.var 5) (.cst (.int 0))), (.idx (.var 5) (.cst (.int 1))), (.idx (.var 5) (.cst (.int 0)))])]) (.cst (.bl false))))) [.ret (.cst (.bl false))] []) :: []
def r_law_right_v23_0_3 : List Sm := (.set (.pt (.nm 8)) (.lc false [9] (.nm 9) (.lst false [(.neg (.cst (.int 4))), (.neg (.cst (.int 3))), (.neg (.cst (.int 2))), (.neg (.cst (.int 1))), (.cst (.int 1)), (.cst (.int 2)), (.cst (.int 3)), (.cst (.int 4))]) (some (.call 303 [(.bi .tuple [(.lc false [11] (.nm 11) (.var 5) none (.bi .tuple [(.lc false [10] (.nm 10) (.var 11) none (.bin .mul (.var 9) (.var 10)))]))])])) (.var 9))) :: r_law_right_v23_0_4
def r_law_right_v23_0_2 : List Sm := (.set (.pt (.nm 5)) (.bi .tuple [(.lc false [7] (.nm 7) (.rng1 (.cst (.int 3))) none (.bi .tuple [(.lc false [6] (.nm 6) (.rng1 (.cst (.int 3))) none (.call 444 [(.var 0), (.cst (.int 2))]))]))])) :: r_law_right_v23_0_3
def r_law_right_v23_0_1 : List Sm := (.for_ (.nm 3) (.call 446 [(.var 0), (.var 2)]) [.set (.pt (.nm 4)) (.call 313 [(.var 3)]), .iff (.cmp .ne (.bi .repr [(.lst false [(.call 303 [(.var 3)]), (.callk 303 [0] [(.var 3)])])]) (.bi .repr [(.lst false [(.var 4), (.var 4)])])) [.ret (.cst (.bl false))] []]) :: r_law_right_v23_0_2
def r_law_right_v23_0_0 : List Sm := (.set (.pt (.nm 2)) (.call 445 [(.var 0), (.call 443 [(.var 0), (.lst false [(.cst (.int 1)), (.cst (.int 3)), (.cst (.int 20)), (.bin .pow (.cst (.int 10)) (.cst (.int 9)))])])])) :: r_law_right_v23_0_1
theorem rb_law_right_v23_0 : f_law_right_v23 = ⟨1, 12, [.for_ (.nm 1) (.rng1 (.cst (.int 5))) r_law_right_v23_0_0, .ret (.and (.cmp .is (.call 303 [(.tup [(.tup [(.cst (.int 1)), (.cst (.int 0)), (.cst (.int 0))]), (.tup [(.cst (.int 0)), (.cst (.int 1)), (.cst (.int 0))]), (.tup [(.cst (.int 0)), (.cst (.int 0)), (.cst (.int 1))])])]) (.cst (.bl true))) (.cmp .is (.call 303 [(.tup [(.tup [(.cst (.int 1)), (.cst (.int 2)), (.cst (.int 3))]), (.tup [(.cst (.int 4)), (.cst (.int 5)), (.cst (.int 6))]), (.tup [(.cst (.int 7)), (.cst (.int 8)), (.cst (.int 9))])])]) (.cst (.bl false))))]⟩ := rfl
def r_law_plain_view_1 : List Sm := (.ret (.tup [(.slc (.var 1) none (some (.cst (.int 3)))), (.slc (.var 1) (some (.cst (.int 3))) (some (.cst (.int 6)))), (.slc (.var 1) (some (.cst (.int 6))) none)])) :: []
def r_law_plain_view_0 : List Sm := (.set (.pt (.nm 1)) (.call 13 [(.bin .add (.bin .add (.bi .tuple [(.idx (.var 0) (.cst (.int 0)))]) (.bi .tuple [(.idx (.var 0) (.cst (.int 1)))])) (.bi .tuple [(.idx (.var 0) (.cst (.int 2)))]))])) :: r_law_plain_view_1
theorem rb_law_plain_view : f_law_plain_view = ⟨1, 2, r_law_plain_view_0⟩ := rfl
local macro_rules | `(tactic| walk_at "fbt") => `(tactic| first
  | assumption
  | exact bv_x (by assumption)
  | exact bv_y (by assumption)
  | exact bv_z (by assumption)
  | (apply bt_add <;> walk_at "fbt")
  | (apply bt_sub <;> walk_at "fbt")
  | (apply bt_mul <;> walk_at "fbt")
  | (apply bt_neg <;> walk_at "fbt")
  | (apply bt_dt <;> walk_at "fbt")
  | (apply bt_bk <;> walk_at "fbt")
  | (apply bv_cr <;> walk_at "fbt")
  | (apply bv_pv <;> walk_at "fbt")
  | (apply bv_sm <;> walk_at "fbt")
  | (apply bv_ad <;> walk_at "fbt")
  | exact bt_lt (n := 64) (by decide) (by decide)
  | (apply bv_mk <;> walk_at "fbt"))
local macro_rules | `(tactic| walk_at "fs") => `(tactic| first
  | assumption
  | (apply mulOk_bt; walk_at "fbt"; walk_at "fbt"; first | decide | assumption | omega)
  | (refine mulOk_l ?_ ?_ <;> omega)
  | (refine mulOk_r ?_ ?_ <;> omega)
  | walk_at "fbt"
  | omega
  | decide
  | (simp [SZ]; done))
local macro_rules | `(tactic| walk_at "fd") => `(tactic| first
  | rfl
  | exact decide_eq_true (by assumption)
  | exact decide_eq_false (by assumption)
  | decide
  | exact decide_eq_true (by omega)
  | exact decide_eq_false (by omega)
  | (simp [*]; done))
local macro_rules | `(tactic| walk_at "fx") => `(tactic| simp only [lc_app', fc_cons, fc_nil, blk_app, ↓ev_v0, ↓ev_v1, ↓ev_v2, ↓ev_v3, ↓ev_v4, ↓ev_v5, ↓ev_v6, ↓ev_v7, ↓ev_v8, ↓ev_v9, ↓ev_v10, ↓ev_v11, ↓ev_v12, ↓ev_v13, ↓ev_v14, ↓ev_v15, ↓ev_v16, ↓ev_v17, ↓ev_v18, ↓ev_v19, ↓ev_v20, ↓ev_v21, ↓ev_v22, ↓ev_v23, ↓ev_cst, ↓ev_glb, ↓ev_bin, ↓ev_neg, ↓ev_not, ↓ev_cmp, ↓ev_cmp2, ↓ev_and, ↓ev_or, ↓ev_ite, ↓ev_tup, ↓ev_lst, ↓ev_idx, ↓ev_slc, ↓ev_call, ↓ev_callk, ↓ev_bi, ↓ev_isi, ↓ev_isi2, ↓ev_lc, ↓ev_lc2, ↓ev_tcat, ↓ev_rng, ↓ev_rng1, ↓ev_zip, ↓ev_enm, ↓ev_cnt, ↓ev_nset, ↓ev_dct, ↓ev_cat, ↓ev_isn, ↓ev_rev, ↓ev_app, ↓evs_nil, ↓evs_cons, ↓evss_nil, ↓evss_f, ↓evss_t, ↓spr_tup, ↓spr_lst, ↓spr_frz, ↓spr_ti, ↓evo_n, ↓evo_s, ↓evt_n, ↓evt_s, ↓ex_set, ↓ex_par, ↓ex_expr, ↓ex_ret, ↓ex_retN, ↓ex_iff, ↓ex_for, ↓ex_whl, ↓ex_raise, ↓ex_pass, ↓ex_brk, ↓ex_cont, ↓exs_nil, ↓exs_cons, ↓tvf, ↓tvt, ↓asB_bl, ↓asI_i, ↓bop_add, ↓bop_sub, ↓bop_mul, ↓bop_fdv, ↓bop_mod, ↓bop_pow, ↓bop_tt, ↓bop_ll, ↓bop_lm, ↓cop_eq, ↓cop_ne, ↓cop_lt, ↓cop_le, ↓cop_gt, ↓cop_ge, ↓cop_eq_rep, ↓cop_ne_rep, ↓cop_eq_tup, ↓cop_ne_tup, ↓cop_eq_lst, ↓cop_ne_lst, ↓cop_eq_str, ↓cop_ne_str, ↓cop_eq_bl, ↓cop_ne_bl, ↓cop_eq_non, ↓cop_ne_non, ↓cop_is_n, ↓cop_is_b, ↓cop_isnot_n, ↓cop_isnot_b, ↓cop_isin_lst, ↓cop_isin_tup, ↓cop_notin_lst, ↓cop_notin_tup, ↓tru_non, ↓tru_bl, ↓tru_int, ↓tru_tup, ↓tru_lst, ↓seq_tup, ↓itm_tup, ↓seq_lst, ↓itm_lst, ↓seq_frz, ↓itm_frz, ↓itm_itr, ↓seq_ref, ↓itm_ref, ↓seq_ti, ↓itm_ti, ↓onO_s, ↓nth_0, ↓nth_1, ↓nth_2, ↓nth_3, ↓nth_4, ↓nth_5, ↓nth_6, ↓nth_7, ↓nth_8, ↓nth_9, ↓nth_10, ↓nth_11, ↓nth_12, ↓bf_len, ↓bf_abs, ↓bf_max, ↓bf_min, ↓bf_int, ↓bf_intb, ↓bf_dm, ↓bf_gcd, ↓bf_all, ↓bf_any, ↓bf_sum, ↓bf_tup, ↓bf_repl, ↓bf_stri, ↓bf_rept, ↓bf_lst, ↓asg_nm, ↓asg_tp, ↓asg_ls, ↓asg_sub, ↓asg_tg, ↓asg_ti, ↓asgs_nil, ↓asgs_cons, ↓mk_f, ↓mk_t, ↓setn_l, ↓setn_r, ↓isn_lst_true, ↓isn_lst_false, ↓isn_tup_true, ↓isn_tup_false, ↓isn_ref_true, ↓isn_ref_false, ↓cnt_t, ↓rev_t, ↓rev_l, ↓rev_ti, ↓onRef_r, ↓two_tt, ↓two_ll, ↓two_tl, ↓two_ti, ↓still_t, ↓still_ti, ↓still_l, ↓cut_tup, ↓cut_lst, ↓cut_frz, ↓cut_ti, ↓bop_titi, ↓cop_eq_ti, ↓cop_ne_ti, non_non, non_int, ty_int_int, ty_bool_int, ty_str_int, ty_tup_int, ty_lst_int, ty_dict_int, non_bl, ty_int_bl, ty_bool_bl, ty_str_bl, ty_tup_bl, ty_lst_bl, ty_dict_bl, non_str, ty_int_str, ty_bool_str, ty_str_str, ty_tup_str, ty_lst_str, ty_dict_str, non_tup, ty_int_tup, ty_bool_tup, ty_str_tup, ty_tup_tup, ty_lst_tup, ty_dict_tup, non_lst, ty_int_lst, ty_bool_lst, ty_str_lst, ty_tup_lst, ty_lst_lst, ty_dict_lst, ty_int_non, ty_int_ti, ty_bool_non, ty_bool_ti, ty_str_non, ty_str_ti, ty_tup_non, ty_tup_ti, ty_lst_non, ty_lst_ti, ty_dict_non, ty_dict_ti, ty_int_rep, ty_int_dic, ty_bool_rep, ty_bool_dic, ty_str_rep, ty_str_dic, ty_tup_rep, ty_tup_dic, ty_lst_rep, ty_lst_dic, ty_dict_rep, ty_dict_dic, ta_tup, ta_lst, ta_ti, ta_int, ta_bl, ta_str, ta_non, st_0, st_1, st_2, st_3, st_4, st_5, st_6, st_7, st_8, st_9, st_10, st_11, st_12, st_13, st_14, st_15, st_16, st_17, st_18, st_19, st_20, st_21, st_22, st_23, bp_nm, bp_tp, bp_ls, bp_ti, bps_nil, bps_nm, sts_nil, sts_cons, rowr_l, rowr_r, cat_d, wp0_nil, wp_0, wp_1, wp_2, wp_3, wp_4, wp_5, wp_6, wp_7, wp_8, wp_9, wp_10, wp_11, wp_12, wp_13, wp_14, wp_15, wp_16, wp_17, wp_18, wp_19, wp_20, wp_21, wp_22, wp_23, rng_1, rng_2, rng_3, rng_4, rng_5, rng_6, rng_7, brkT, brkF, ti1, ti2, ti3, ti4, ti5, ti6, ti_map, eq_ti, pick, List.cons_append, List.nil_append, List.map_cons, List.map_nil, List.getD_cons_zero, List.getD_cons_succ, Bool.not_true, Bool.not_false, ↓seq_v, ↓seq_f, ↓itm_v, ↓itm_f, ↓asg_v, ↓asg_f, bp_v, bp_f, bps_tv, bps_tf, ↓two_vv, ↓two_vt, ↓two_tv, ↓two_ff, ↓still_v, ↓cut_v, ↓cop_eq_v, ↓cop_ne_v, ↓cop_eq_f, ↓cop_ne_f, inD_n, inD_c, pures_c, pures_n, pure_vT, pure_fT, pure_iT, pure_bT, pure_nT, eq_v, eq_f, Bool.or_false, and_self, ↓tru_v, non_v, non_f, ty_v, ty_f, ta_v, ta_f, ↓bop_vv, ↓bop_6v, ↓cut_9a, ↓cut_9b, ↓cut_9c, tup3, tup2, v_ti, f_ti, zipD, wp_cc, true_and, decide_true, decide_false, eq_self, sz_0, sz_1, sz_2, sz_3, sz_4, sz_5, sz_6, sz_7, sz_8, sz_9, sz_10, sz_11, sz_12, enm_1, enm_2, enm_3, enm_4, enm_5, enm_6, enm_7, enm_8, enm_9, enm_10, len_1, len_2, len_3, len_4, len_5, len_6, len_7, len_8, len_9, len_10])
local macro_rules | `(tactic| walk_at "fw") => `(tactic| simp only [lc_app', fc_cons, fc_nil, fw_cons, fw_nil, blk_app, ↓ev_v0, ↓ev_v1, ↓ev_v2, ↓ev_v3, ↓ev_v4, ↓ev_v5, ↓ev_v6, ↓ev_v7, ↓ev_v8, ↓ev_v9, ↓ev_v10, ↓ev_v11, ↓ev_v12, ↓ev_v13, ↓ev_v14, ↓ev_v15, ↓ev_v16, ↓ev_v17, ↓ev_v18, ↓ev_v19, ↓ev_v20, ↓ev_v21, ↓ev_v22, ↓ev_v23, ↓ev_cst, ↓ev_glb, ↓ev_bin, ↓ev_neg, ↓ev_not, ↓ev_cmp, ↓ev_cmp2, ↓ev_and, ↓ev_or, ↓ev_ite, ↓ev_tup, ↓ev_lst, ↓ev_idx, ↓ev_slc, ↓ev_call, ↓ev_callk, ↓ev_bi, ↓ev_isi, ↓ev_isi2, ↓ev_lc, ↓ev_lc2, ↓ev_tcat, ↓ev_rng, ↓ev_rng1, ↓ev_zip, ↓ev_enm, ↓ev_cnt, ↓ev_nset, ↓ev_dct, ↓ev_cat, ↓ev_isn, ↓ev_rev, ↓ev_app, ↓evs_nil, ↓evs_cons, ↓evss_nil, ↓evss_f, ↓evss_t, ↓spr_tup, ↓spr_lst, ↓spr_frz, ↓spr_ti, ↓evo_n, ↓evo_s, ↓evt_n, ↓evt_s, ↓ex_set, ↓ex_par, ↓ex_expr, ↓ex_ret, ↓ex_retN, ↓ex_iff, ↓ex_for, ↓ex_whl, ↓ex_raise, ↓ex_pass, ↓ex_brk, ↓ex_cont, ↓exs_nil, ↓exs_cons, ↓tvf, ↓tvt, ↓asB_bl, ↓asI_i, ↓bop_add, ↓bop_sub, ↓bop_mul, ↓bop_fdv, ↓bop_mod, ↓bop_pow, ↓bop_tt, ↓bop_ll, ↓bop_lm, ↓cop_eq, ↓cop_ne, ↓cop_lt, ↓cop_le, ↓cop_gt, ↓cop_ge, ↓cop_eq_rep, ↓cop_ne_rep, ↓cop_eq_tup, ↓cop_ne_tup, ↓cop_eq_lst, ↓cop_ne_lst, ↓cop_eq_str, ↓cop_ne_str, ↓cop_eq_bl, ↓cop_ne_bl, ↓cop_eq_non, ↓cop_ne_non, ↓cop_is_n, ↓cop_is_b, ↓cop_isnot_n, ↓cop_isnot_b, ↓cop_isin_lst, ↓cop_isin_tup, ↓cop_notin_lst, ↓cop_notin_tup, ↓tru_non, ↓tru_bl, ↓tru_int, ↓tru_tup, ↓tru_lst, ↓seq_tup, ↓itm_tup, ↓seq_lst, ↓itm_lst, ↓seq_frz, ↓itm_frz, ↓itm_itr, ↓seq_ref, ↓itm_ref, ↓seq_ti, ↓itm_ti, ↓onO_s, ↓nth_0, ↓nth_1, ↓nth_2, ↓nth_3, ↓nth_4, ↓nth_5, ↓nth_6, ↓nth_7, ↓nth_8, ↓nth_9, ↓nth_10, ↓nth_11, ↓nth_12, ↓bf_len, ↓bf_abs, ↓bf_max, ↓bf_min, ↓bf_int, ↓bf_intb, ↓bf_dm, ↓bf_gcd, ↓bf_all, ↓bf_any, ↓bf_sum, ↓bf_tup, ↓bf_repl, ↓bf_stri, ↓bf_rept, ↓bf_lst, ↓asg_nm, ↓asg_tp, ↓asg_ls, ↓asg_sub, ↓asg_tg, ↓asg_ti, ↓asgs_nil, ↓asgs_cons, ↓mk_f, ↓mk_t, ↓setn_l, ↓setn_r, ↓isn_lst_true, ↓isn_lst_false, ↓isn_tup_true, ↓isn_tup_false, ↓isn_ref_true, ↓isn_ref_false, ↓cnt_t, ↓rev_t, ↓rev_l, ↓rev_ti, ↓onRef_r, ↓two_tt, ↓two_ll, ↓two_tl, ↓two_ti, ↓still_t, ↓still_ti, ↓still_l, ↓cut_tup, ↓cut_lst, ↓cut_frz, ↓cut_ti, ↓bop_titi, ↓cop_eq_ti, ↓cop_ne_ti, non_non, non_int, ty_int_int, ty_bool_int, ty_str_int, ty_tup_int, ty_lst_int, ty_dict_int, non_bl, ty_int_bl, ty_bool_bl, ty_str_bl, ty_tup_bl, ty_lst_bl, ty_dict_bl, non_str, ty_int_str, ty_bool_str, ty_str_str, ty_tup_str, ty_lst_str, ty_dict_str, non_tup, ty_int_tup, ty_bool_tup, ty_str_tup, ty_tup_tup, ty_lst_tup, ty_dict_tup, non_lst, ty_int_lst, ty_bool_lst, ty_str_lst, ty_tup_lst, ty_lst_lst, ty_dict_lst, ty_int_non, ty_int_ti, ty_bool_non, ty_bool_ti, ty_str_non, ty_str_ti, ty_tup_non, ty_tup_ti, ty_lst_non, ty_lst_ti, ty_dict_non, ty_dict_ti, ty_int_rep, ty_int_dic, ty_bool_rep, ty_bool_dic, ty_str_rep, ty_str_dic, ty_tup_rep, ty_tup_dic, ty_lst_rep, ty_lst_dic, ty_dict_rep, ty_dict_dic, ta_tup, ta_lst, ta_ti, ta_int, ta_bl, ta_str, ta_non, st_0, st_1, st_2, st_3, st_4, st_5, st_6, st_7, st_8, st_9, st_10, st_11, st_12, st_13, st_14, st_15, st_16, st_17, st_18, st_19, st_20, st_21, st_22, st_23, bp_nm, bp_tp, bp_ls, bp_ti, bps_nil, bps_nm, sts_nil, sts_cons, rowr_l, rowr_r, cat_d, wp0_nil, wp_0, wp_1, wp_2, wp_3, wp_4, wp_5, wp_6, wp_7, wp_8, wp_9, wp_10, wp_11, wp_12, wp_13, wp_14, wp_15, wp_16, wp_17, wp_18, wp_19, wp_20, wp_21, wp_22, wp_23, rng_1, rng_2, rng_3, rng_4, rng_5, rng_6, rng_7, brkT, brkF, ti1, ti2, ti3, ti4, ti5, ti6, ti_map, eq_ti, pick, List.cons_append, List.nil_append, List.map_cons, List.map_nil, List.getD_cons_zero, List.getD_cons_succ, Bool.not_true, Bool.not_false, ↓seq_v, ↓seq_f, ↓itm_v, ↓itm_f, ↓asg_v, ↓asg_f, bp_v, bp_f, bps_tv, bps_tf, ↓two_vv, ↓two_vt, ↓two_tv, ↓two_ff, ↓still_v, ↓cut_v, ↓cop_eq_v, ↓cop_ne_v, ↓cop_eq_f, ↓cop_ne_f, inD_n, inD_c, pures_c, pures_n, pure_vT, pure_fT, pure_iT, pure_bT, pure_nT, eq_v, eq_f, Bool.or_false, and_self, ↓tru_v, non_v, non_f, ty_v, ty_f, ta_v, ta_f, ↓bop_vv, ↓bop_6v, ↓cut_9a, ↓cut_9b, ↓cut_9c, tup3, tup2, v_ti, f_ti, zipD, wp_cc, true_and, decide_true, decide_false, eq_self, sz_0, sz_1, sz_2, sz_3, sz_4, sz_5, sz_6, sz_7, sz_8, sz_9, sz_10, sz_11, sz_12, enm_1, enm_2, enm_3, enm_4, enm_5, enm_6, enm_7, enm_8, enm_9, enm_10, len_1, len_2, len_3, len_4, len_5, len_6, len_7, len_8, len_9, len_10])
local macro_rules | `(tactic| walk_at "f1") => `(tactic| first
  | assumption
  | (with_reducible apply And.intro; walk_at "fs")
  | (with_reducible apply brk_t; walk_at "fd")
  | (with_reducible apply brk_f; walk_at "fd")
  | (with_reducible apply s_divisor_of)
  | (with_reducible apply s_first_live)
  | (with_reducible apply s_plain_of; walk_at "fs"; walk_at "fs"; walk_at "fs")
  | (with_reducible apply s_is_zero)
  | (with_reducible apply s_made_plain; walk_at "fs"; walk_at "fs"; walk_at "fs")
  | (with_reducible apply s_is_plain; walk_at "fs"; walk_at "fs"; walk_at "fs")
  | (with_reducible apply s_is_triple; walk_at "fs"; walk_at "fs")
  | (with_reducible apply s_is_point; walk_at "fs"; walk_at "fs")
  | (with_reducible apply s_law_divisor)
  | (with_reducible apply s_law_plain; walk_at "fs"; walk_at "fs"; walk_at "fs")
  | (with_reducible apply s_law_is_triple; walk_at "fs"; walk_at "fs"; walk_at "fs")
  | (with_reducible apply s_is_whole)
  | (with_reducible apply s_is_tuple_up_to)
  | (with_reducible apply s_is_tuple_of)
  | (with_reducible apply s_are_whole; walk_at "fs")
  | (with_reducible apply s_law_cross; walk_at "fs"; walk_at "fs"; walk_at "fs")
  | (with_reducible apply s_is_plainG; walk_at "fs"; walk_at "fs")
  | (with_reducible apply s_are_wholeR; walk_at "fs")
  | (with_reducible apply s_is_view_ofA; walk_at "fs")
  | (with_reducible apply s_law_is_viewA; walk_at "fs")
  | (with_reducible apply s_is_wholeA; walk_at "fs")
  | (with_reducible apply s_are_wholeA; walk_at "fs"; walk_at "fs")
  | (with_reducible apply s_is_tripleA; walk_at "fs")
  | (with_reducible apply s_law_is_tripleA; walk_at "fs")
  | (with_reducible apply s_is_on4; walk_at "fs"; walk_at "fs"; walk_at "fs"; walk_at "fs"; walk_at "fs")
  | (with_reducible apply s_law_plain4; walk_at "fs"; walk_at "fs"; walk_at "fs")
  | (with_reducible apply s_law_cross4; walk_at "fs"; walk_at "fs"; walk_at "fs")
  | (with_reducible apply s_law_dot4; walk_at "fs"; walk_at "fs"; walk_at "fs")
  | (with_reducible apply s_law_block4; walk_at "fs"; walk_at "fs"; walk_at "fs"; walk_at "fs")
  | (with_reducible apply s_is_triple4; walk_at "fs"; walk_at "fs")
  | (with_reducible apply s_law_is_frame; walk_at "fs"; walk_at "fs"; walk_at "fs"; walk_at "fs"; walk_at "fs"; walk_at "fs"; walk_at "fs"; walk_at "fs"; walk_at "fs"; walk_at "fs")
  | (with_reducible apply s_wrong4f; walk_at "fs"; walk_at "fs"; walk_at "fs"; walk_at "fs"; walk_at "fs"; walk_at "fs"; walk_at "fs"; walk_at "fs"; walk_at "fs"; walk_at "fs"; walk_at "fs"; walk_at "fs")
  | (with_reducible apply s_is_figure4f; walk_at "fs")
  | (with_reducible apply s_is_general4f; walk_at "fs"; walk_at "fs"; walk_at "fs"; walk_at "fs"; walk_at "fs"; walk_at "fs")
  | (with_reducible apply s_check_frame4f; walk_at "fs"; walk_at "fs"; walk_at "fs"; walk_at "fs"; walk_at "fs"; walk_at "fs")
  | (with_reducible apply s_parts_of3; walk_at "fs"; walk_at "fs"; walk_at "fs"; walk_at "fs"; walk_at "fs")
  | (with_reducible apply s_ticket; walk_at "fs"; walk_at "fs"; walk_at "fs"; walk_at "fs"; walk_at "fs"; walk_at "fs"; walk_at "fs"; walk_at "fs")
  | (with_reducible apply s_is_view_of_v; walk_at "fs"; walk_at "fs"; walk_at "fs")
  | (with_reducible apply s_check_view_v; walk_at "fs"; walk_at "fs"; walk_at "fs")
  | (with_reducible apply s_table_times_v; walk_at "fs"; walk_at "fs"; walk_at "fs")
  | (with_reducible apply s_turned_table_v)
  | (with_reducible apply s_adjugate_v; walk_at "fs"; walk_at "fs")
  | (with_reducible apply s_turn_line_v; walk_at "fs"; walk_at "fs"; walk_at "fs"; walk_at "fs"; walk_at "fs")
  | (with_reducible apply s_turned_line_v; walk_at "fs"; walk_at "fs"; walk_at "fs"; walk_at "fs"; walk_at "fs")
  | (with_reducible apply s_place_for_v; walk_at "fs"; walk_at "fs"; walk_at "fs"; walk_at "fs")
  | (with_reducible apply s_minor_v; walk_at "fs"; walk_at "fs"; walk_at "fs")
  | (with_reducible apply s_parts_by_v; walk_at "fs"; walk_at "fs"; walk_at "fs"; walk_at "fs"; walk_at "fs")
  | (with_reducible apply s_ratio_by_v; walk_at "fs"; walk_at "fs"; walk_at "fs"; walk_at "fs"; walk_at "fs"; walk_at "fs"; walk_at "fs")
  | (with_reducible apply s_check_points4; walk_at "fs"; walk_at "fs"; walk_at "fs"; walk_at "fs")
  | (with_reducible apply s_check_points3; walk_at "fs"; walk_at "fs"; walk_at "fs")
  | (with_reducible apply s_do_fit4; walk_at "fs"; walk_at "fs"; walk_at "fs"; walk_at "fs"; walk_at "fs"; walk_at "fs"; walk_at "fs"; walk_at "fs"; walk_at "fs"; walk_at "fs")
  | (with_reducible apply s_do_fit3; walk_at "fs"; walk_at "fs"; walk_at "fs"; walk_at "fs"; walk_at "fs"; walk_at "fs"; walk_at "fs"; walk_at "fs")
  | (with_reducible apply s_check_fit4; walk_at "fs"; walk_at "fs"; walk_at "fs"; walk_at "fs"; walk_at "fs"; walk_at "fs"; walk_at "fs"; walk_at "fs"; walk_at "fs"; walk_at "fs")
  | (with_reducible apply s_check_fit3; walk_at "fs"; walk_at "fs"; walk_at "fs"; walk_at "fs"; walk_at "fs"; walk_at "fs"; walk_at "fs"; walk_at "fs")
  | (with_reducible apply s_double_ratio_v; walk_at "fs"; walk_at "fs"; walk_at "fs"; walk_at "fs"; walk_at "fs"; walk_at "fs"; walk_at "fs")
  | (with_reducible apply s_line_ratio_v; walk_at "fs"; walk_at "fs"; walk_at "fs"; walk_at "fs"; walk_at "fs"; walk_at "fs"; walk_at "fs")
  | (with_reducible apply s_cross_v; walk_at "fs"; walk_at "fs"; walk_at "fs")
  | (with_reducible apply s_dot_v; walk_at "fs"; walk_at "fs"; walk_at "fs")
  | (with_reducible apply s_block_v; walk_at "fs"; walk_at "fs"; walk_at "fs"; walk_at "fs")
  | (with_reducible apply s_added_v)
  | (with_reducible apply s_scaled_v; walk_at "fs"; walk_at "fs"; walk_at "fs")
  | (with_reducible apply s_plain_of_v; walk_at "fs"; walk_at "fs"; walk_at "fs")
  | (with_reducible apply s_plain_of_f; walk_at "fs"; walk_at "fs"; walk_at "fs"; walk_at "fs")
  | (with_reducible apply s_is_zero_v)
  | (with_reducible apply s_is_triple_v; walk_at "fs")
  | (with_reducible apply s_check_point_v; walk_at "fs")
  | (with_reducible apply s_check_straight_v; walk_at "fs")
  | (with_reducible apply s_check_other_point_v; walk_at "fs"; walk_at "fs")
  | (with_reducible apply s_check_other_straight_v; walk_at "fs"; walk_at "fs")
  | (with_reducible apply s_join_v; walk_at "fs"; walk_at "fs"; walk_at "fs"; walk_at "fs"; walk_at "fs"; walk_at "fs")
  | (with_reducible apply s_meet_v; walk_at "fs"; walk_at "fs"; walk_at "fs"; walk_at "fs"; walk_at "fs"; walk_at "fs")
  | (with_reducible apply s_cross; walk_at "fs"; walk_at "fs"; walk_at "fs")
  | (with_reducible apply s_dot; walk_at "fs"; walk_at "fs"; walk_at "fs")
  | (with_reducible apply s_block; walk_at "fs"; walk_at "fs"; walk_at "fs"; walk_at "fs"; walk_at "fs"; walk_at "fs")
  | (with_reducible apply s_added)
  | (with_reducible apply s_scaled; walk_at "fs"; walk_at "fs")
  | (with_reducible apply s_law_dot; walk_at "fs"; walk_at "fs"; walk_at "fs")
  | (with_reducible apply s_law_plain_v2; walk_at "fs"; walk_at "fs"; walk_at "fs"))
local macro_rules | `(tactic| walk_at "go") => `(tactic| repeat (first | walk_at "f1" | walk_at "fw"))
local macro_rules | `(tactic| walk_at "g0") => `(tactic| repeat (first | walk_at "f1" | walk_at "fx"))
theorem rowR_r {l : Nat} {S : Store} : rowR (.ref l) S = cl S l := nr rfl
theorem rowR_l {ds : List D} {S : Store} : rowR (.lst ds) S = some ds := nr rfl
theorem slp_0 {a b c d e f g h i : D} : slice [a, b, c, d, e, f, g, h, i] none (some 3) = [a, b, c] := by unfold slice; rfl
theorem slp_3 {a b c d e f g h i : D} : slice [a, b, c, d, e, f, g, h, i] (some 3) (some 6) = [d, e, f] := by unfold slice; rfl
theorem slp_6 {a b c d e f g h i : D} : slice [a, b, c, d, e, f, g, h, i] (some 6) none = [g, h, i] := by unfold slice; rfl
theorem forWg_inv {l : Nat} {es : List D} {body : Env → Store → Ends → Prop} {p : Pt} {N : Ends} {I : List D → Env → Store → Prop} (hc : ∀ ds σ S, I ds σ S → cl S l = some es) : ∀ {ds : List D} {σ : Env} {S : Store}, I ds σ S →
    (∀ x xs σ S, I (x :: xs) σ S → ∃ σ', bindP p x σ = some σ' ∧ ∀ k : Env → Store → Prop, (∀ σ2 S2, I xs σ2 S2 → k σ2 S2) → body σ' S { N with nx := k, ct := k, bk := N.nx }) → (∀ σ S, I [] σ S → N.nx σ S) → forW (some (l, es)) body p N ds σ S
  | [], σ, S, h0, _, h => by
    show gdo (some (l, es)) S (N.nx σ S)
    exact ⟨hc _ _ _ h0, h σ S h0⟩
  | x :: xs, σ, S, h0, w, h => by
    obtain ⟨σ', e, w1⟩ := w x xs σ S h0
    show gdo (some (l, es)) S (match bindP p x σ with
      | some σ' => body σ' S { N with nx := fun σ2 S2 => forW (some (l, es)) body p N xs σ2 S2, ct := fun σ2 S2 => forW (some (l, es)) body p N xs σ2 S2, bk := N.nx }
      | none => False)
    rw [e]
    exact ⟨hc _ _ _ h0, w1 _ fun σ2 S2 h2 => forWg_inv hc h2 w h⟩
theorem pureB2 {a b : Bool} : pure? DEEP (.lst [.bl a, .bl b]) = true := by cases a <;> cases b <;> rfl
theorem nodsB2 {a b : Bool} : nods [D.bl a, .bl b] ≤ 20000 := by show 2 ≤ 20000; decide
def sq (i : Int) (q : M3) : M3 := ⟨sm i q.a, sm i q.b, sm i q.c⟩
def is8 : List Int := [-4, -3, -2, -1, 1, 2, 3, 4]
theorem sq_det {i : Int} {q : M3} : det (sq i q) = i * i * i * det q := by
  simp only [det, sq, bk, dt, cr, sm]; grind
theorem sq_uni {i j : Int} {q : M3} (hi : i ≠ 0) (hj : j ≠ 0) (h1 : Vw (sq i q)) (h2 : Vw (sq j q)) : i = j := by
  have hd : det q ≠ 0 := fun e => h1.2 (by rw [sq_det, e, Int.mul_zero])
  have hf := fl_det hd
  have e1 : pn (sq i q).l = pn q.l := pn_smul hf hi
  have e2 : pn (sq j q).l = pn q.l := pn_smul hf hj
  rw [pn_of h1.1] at e1
  rw [pn_of h2.1] at e2
  have e : (sq i q).l = (sq j q).l := e1.trans e2.symm
  simp only [M3.l, sq, sm, List.cons.injEq, and_true] at e
  by_cases ij : i = j
  · exact ij
  · exfalso
    have z : ∀ x : Int, i * x = j * x → x = 0 := fun x hx => by
      have : (i - j) * x = 0 := by rw [Int.sub_mul]; omega
      rcases Int.mul_eq_zero.mp this with w | w
      · omega
      · exact w
    have z1 := z _ e.1
    have z2 := z _ e.2.1
    have z3 := z _ e.2.2.1
    apply hd
    simp only [det, bk, dt, z1, z2, z3, Int.zero_mul, Int.add_zero]
theorem fil1 {α : Type} {p : α → Bool} {xs : List α} (nd : xs.Nodup) (h : ∀ a ∈ xs, ∀ b ∈ xs, p a = true → p b = true → a = b) : (xs.filter p).length ≤ 1 := by
  have nf : (xs.filter p).Nodup := nd.filter _
  match e : xs.filter p with
  | [] => simp
  | [_] => simp
  | a :: b :: r =>
    have ha : a ∈ xs.filter p := by rw [e]; simp
    have hb : b ∈ xs.filter p := by rw [e]; simp
    have := h a (List.mem_filter.mp ha).1 b (List.mem_filter.mp hb).1 (List.mem_filter.mp ha).2 (List.mem_filter.mp hb).2
    rw [e] at nf
    subst this
    simp at nf
theorem is8_ok : ∀ i ∈ is8, i ≠ 0 ∧ bt 4 i := by decide
theorem brk_eq14 {x : Bool} {k1 k2 : Prop} (h : k2) : cop .ne (.bl x) (.bl x) fun z => brk z k1 k2 := by
  cases x <;> exact ⟨⟨rfl, rfl⟩, h⟩
theorem giv_int {i : Int} (h : bt 200 i) : giv (.int i) := ⟨rfl, fun j e => by cases e; exact h⟩
theorem giv_o {d : D} (h : gkd d = true) (h2 : ∀ i, d ≠ .int i) : giv d := ⟨h, fun i e => absurd e (h2 i)⟩
theorem gdv_o {d : D} (h : gkd d = true) (h2 : ∀ ds, d ≠ .tup ds) : Gdv d := ⟨h, fun ds e => absurd e (h2 ds)⟩
theorem gdv_t {ds : List D} (h : ds.length ≤ 20) (h2 : ∀ x ∈ ds, giv x) : Gdv (.tup ds) := ⟨rfl, fun es e => by cases e; exact ⟨h, h2⟩⟩
theorem gdw_t {ds : List D} (h : ds.length ≤ 20) (h2 : ∀ x ∈ ds, Gdr x) : Gdw (.tup ds) := ⟨rfl, fun es e => by cases e; exact ⟨h, h2⟩⟩
theorem gdw_o {d : D} (h : gkd d = true) (h2 : ∀ ds, d ≠ .tup ds) : Gdw d := ⟨h, fun ds e => absurd e (h2 ds)⟩
theorem gdr_o {d : D} (h : gkd d = true) (h2 : ∀ ds, d ≠ .tup ds) (h3 : pure? 39 d = true) : Gdr d := ⟨gdv_o h h2, .inr h3⟩
theorem giv_v {u : T3} (b : bv 200 u) : ∀ x ∈ [D.int u.x, .int u.y, .int u.z], giv x := by
  intro x hx
  simp only [List.mem_cons, List.not_mem_nil, or_false] at hx
  rcases hx with rfl | rfl | rfl
  · exact giv_int b.1
  · exact giv_int b.2.1
  · exact giv_int b.2.2
theorem gdr_v {u : T3} (b : bv 200 u) : Gdr (vD u) := ⟨gdv_t (by show 3 ≤ 20; decide) (giv_v b), .inl rfl⟩
theorem gdr_3 {u v w : T3} (h1 : bv 200 u) (h2 : bv 200 v) (h3 : bv 200 w) : ∀ x ∈ [vD u, vD v, vD w], Gdr x := by
  intro x hx
  simp only [List.mem_cons, List.not_mem_nil, or_false] at hx
  rcases hx with rfl | rfl | rfl
  · exact gdr_v h1
  · exact gdr_v h2
  · exact gdr_v h3
theorem gdw_m {m : M3} (b : bm 200 m) : Gdw (mD m) := gdw_t (by show 3 ≤ 20; decide) (gdr_3 b.1 b.2.1 b.2.2)
theorem slw_mem {ds : List D} {a b : Option Int} {d : D} (h : d ∈ slice ds a b) : d ∈ ds := List.mem_of_mem_drop (List.mem_of_mem_take h)
theorem slw_len {ds : List D} {a b : Option Int} : (slice ds a b).length ≤ ds.length := by
  unfold slice
  rw [List.length_take, List.length_drop]
  omega
/-- one in a row's place -/
theorem sl_put {a b c e : D} {j : Int} (h0 : 0 ≤ j) (h1 : j < 3) : (slice [a, b, c] none (some j) ++ [e] ++ slice [a, b, c] (some (j + 1)) none).length = 3 := by
  rcases (show j = 0 ∨ j = 1 ∨ j = 2 by omega) with rfl | rfl | rfl <;> rfl
theorem put_gdw {m : M3} {e : D} {j : Int} (h0 : 0 ≤ j) (h1 : j < 3) (b : bm 200 m) (he : Gdr e) : Gdw (.tup (slice [vD m.a, vD m.b, vD m.c] none (some j) ++ [e] ++ slice [vD m.a, vD m.b, vD m.c] (some (j + 1)) none)) := by
  refine gdw_t (by rw [sl_put h0 h1]; decide) fun x hx => ?_
  rcases List.mem_append.mp hx with hx | hx
  · rcases List.mem_append.mp hx with hx | hx
    · exact gdr_3 b.1 b.2.1 b.2.2 x (slw_mem hx)
    · rw [List.mem_singleton.mp hx]; exact he
  · exact gdr_3 b.1 b.2.1 b.2.2 x (slw_mem hx)
theorem put_gdr {u : T3} {e : D} {j : Int} (h0 : 0 ≤ j) (h1 : j < 3) (b : bv 200 u) (he : giv e) : Gdr (.tup (slice [D.int u.x, D.int u.y, D.int u.z] none (some j) ++ [e] ++ slice [D.int u.x, D.int u.y, D.int u.z] (some (j + 1)) none)) := by
  refine ⟨gdv_t (by rw [sl_put h0 h1]; decide) fun x hx => ?_, .inl ?_⟩
  · rcases List.mem_append.mp hx with hx | hx
    · rcases List.mem_append.mp hx with hx | hx
      · exact giv_v b x (slw_mem hx)
      · rw [List.mem_singleton.mp hx]; exact he
    · exact giv_v b x (slw_mem hx)
  · show decide (((_ : List D).length : Int) = 3) = true
    rw [sl_put h0 h1]; rfl
theorem nth_v14 {u : T3} {i : Int} {b : Nat} (h0 : 0 ≤ i) (h1 : i < 3) (hb : bv b u) : ∃ t : Int, nth [D.int u.x, .int u.y, .int u.z] i = some (.int t) ∧ bt b t := by
  rcases (show i = 0 ∨ i = 1 ∨ i = 2 by omega) with rfl | rfl | rfl
  · exact ⟨_, rfl, hb.1⟩
  · exact ⟨_, rfl, hb.2.1⟩
  · exact ⟨_, rfl, hb.2.2⟩
theorem nth_m14 {m : M3} {i : Int} {b : Nat} (h0 : -1 ≤ i) (h1 : i < 3) (hb : bm b m) : ∃ u : T3, nth [vD m.a, vD m.b, vD m.c] i = some (vD u) ∧ bv b u := by
  rcases (show i = -1 ∨ i = 0 ∨ i = 1 ∨ i = 2 by omega) with rfl | rfl | rfl | rfl
  · exact ⟨_, rfl, hb.2.2⟩
  · exact ⟨_, rfl, hb.1⟩
  · exact ⟨_, rfl, hb.2.1⟩
  · exact ⟨_, rfl, hb.2.2⟩
theorem add_v14 {u : T3} {ns : List Int} {k : D → Prop} : bop .add (vD u) (ti ns) k = (3 + (ns.map D.int).length ≤ SZ ∧ k (.tup ([.int u.x, .int u.y, .int u.z] ++ ns.map D.int))) := nr rfl
theorem rev_v14 {u : T3} {k : D → Prop} : revD (vD u) k = k (.tup [.int u.z, .int u.y, .int u.x]) := nr rfl
section
variable {n : Nat} {S : Store} {k X : D → Store → Prop} {u v w x y z p q r s : T3} {a b c d : Nat} {l : Nat} {m : M3}
theorem s_law_plain_view14 (hm : det m ≠ 0) (hb : bm b m) (l : b ≤ 1000) (h : k (mD (pm m)) S) : CT (n + 3) i_law_plain_view [.lst [vD m.a, vD m.b, vD m.c]] S k X := by
  refine c_law_plain_view ?_
  simp only [rb_law_plain_view, r_law_plain_view_0, ↓ev_v0, ↓ev_v1, ↓ev_v2, ↓ev_v3, ↓ev_v4, ↓ev_v5, ↓ev_v6, ↓ev_v7, ↓ev_v8, ↓ev_v9, ↓ev_v10, ↓ev_v11, ↓ev_v12, ↓ev_v13, ↓ev_v14, ↓ev_v15, ↓ev_v16, ↓ev_v17, ↓ev_v18, ↓ev_v19, ↓ev_v20, ↓ev_v21, ↓ev_v22, ↓ev_v23, ↓ev_cst, ↓ev_glb, ↓ev_bin, ↓ev_neg, ↓ev_not, ↓ev_cmp, ↓ev_cmp2, ↓ev_and, ↓ev_or, ↓ev_ite, ↓ev_tup, ↓ev_lst, ↓ev_idx, ↓ev_slc, ↓ev_call, ↓ev_callk, ↓ev_bi, ↓ev_isi, ↓ev_isi2, ↓ev_lc, ↓ev_lc2, ↓ev_tcat, ↓ev_rng, ↓ev_rng1, ↓ev_zip, ↓ev_enm, ↓ev_cnt, ↓ev_nset, ↓ev_dct, ↓ev_cat, ↓ev_isn, ↓ev_rev, ↓ev_app, ↓evs_nil, ↓evs_cons, ↓evss_nil, ↓evss_f, ↓evss_t, ↓spr_tup, ↓spr_lst, ↓spr_frz, ↓spr_ti, ↓evo_n, ↓evo_s, ↓evt_n, ↓evt_s, ↓ex_set, ↓ex_par, ↓ex_expr, ↓ex_ret, ↓ex_retN, ↓ex_iff, ↓ex_for, ↓ex_whl, ↓ex_raise, ↓ex_pass, ↓ex_brk, ↓ex_cont, ↓exs_nil, ↓exs_cons, ↓tvf, ↓tvt, ↓asB_bl, ↓asI_i, ↓bop_add, ↓bop_sub, ↓bop_mul, ↓bop_fdv, ↓bop_mod, ↓bop_pow, ↓bop_tt, ↓bop_ll, ↓bop_lm, ↓cop_eq, ↓cop_ne, ↓cop_lt, ↓cop_le, ↓cop_gt, ↓cop_ge, ↓cop_eq_rep, ↓cop_ne_rep, ↓cop_eq_tup, ↓cop_ne_tup, ↓cop_eq_lst, ↓cop_ne_lst, ↓cop_eq_str, ↓cop_ne_str, ↓cop_eq_bl, ↓cop_ne_bl, ↓cop_eq_non, ↓cop_ne_non, ↓cop_is_n, ↓cop_is_b, ↓cop_isnot_n, ↓cop_isnot_b, ↓cop_isin_lst, ↓cop_isin_tup, ↓cop_notin_lst, ↓cop_notin_tup, ↓tru_non, ↓tru_bl, ↓tru_int, ↓tru_tup, ↓tru_lst, ↓seq_tup, ↓itm_tup, ↓seq_lst, ↓itm_lst, ↓seq_frz, ↓itm_frz, ↓itm_itr, ↓seq_ref, ↓itm_ref, ↓seq_ti, ↓itm_ti, ↓onO_s, ↓nth_0, ↓nth_1, ↓nth_2, ↓nth_3, ↓nth_4, ↓nth_5, ↓nth_6, ↓nth_7, ↓nth_8, ↓nth_9, ↓nth_10, ↓nth_11, ↓nth_12, ↓bf_len, ↓bf_abs, ↓bf_max, ↓bf_min, ↓bf_int, ↓bf_intb, ↓bf_dm, ↓bf_gcd, ↓bf_all, ↓bf_any, ↓bf_sum, ↓bf_tup, ↓bf_repl, ↓bf_stri, ↓bf_rept, ↓bf_lst, ↓asg_nm, ↓asg_tp, ↓asg_ls, ↓asg_sub, ↓asg_tg, ↓asg_ti, ↓asgs_nil, ↓asgs_cons, ↓mk_f, ↓mk_t, ↓setn_l, ↓setn_r, ↓isn_lst_true, ↓isn_lst_false, ↓isn_tup_true, ↓isn_tup_false, ↓isn_ref_true, ↓isn_ref_false, ↓cnt_t, ↓rev_t, ↓rev_l, ↓rev_ti, ↓onRef_r, ↓two_tt, ↓two_ll, ↓two_tl, ↓two_ti, ↓still_t, ↓still_ti, ↓still_l, ↓cut_tup, ↓cut_lst, ↓cut_frz, ↓cut_ti, ↓bop_titi, ↓cop_eq_ti, ↓cop_ne_ti, non_non, non_int, ty_int_int, ty_bool_int, ty_str_int, ty_tup_int, ty_lst_int, ty_dict_int, non_bl, ty_int_bl, ty_bool_bl, ty_str_bl, ty_tup_bl, ty_lst_bl, ty_dict_bl, non_str, ty_int_str, ty_bool_str, ty_str_str, ty_tup_str, ty_lst_str, ty_dict_str, non_tup, ty_int_tup, ty_bool_tup, ty_str_tup, ty_tup_tup, ty_lst_tup, ty_dict_tup, non_lst, ty_int_lst, ty_bool_lst, ty_str_lst, ty_tup_lst, ty_lst_lst, ty_dict_lst, ty_int_non, ty_int_ti, ty_bool_non, ty_bool_ti, ty_str_non, ty_str_ti, ty_tup_non, ty_tup_ti, ty_lst_non, ty_lst_ti, ty_dict_non, ty_dict_ti, ty_int_rep, ty_int_dic, ty_bool_rep, ty_bool_dic, ty_str_rep, ty_str_dic, ty_tup_rep, ty_tup_dic, ty_lst_rep, ty_lst_dic, ty_dict_rep, ty_dict_dic, ta_tup, ta_lst, ta_ti, ta_int, ta_bl, ta_str, ta_non, st_0, st_1, st_2, st_3, st_4, st_5, st_6, st_7, st_8, st_9, st_10, st_11, st_12, st_13, st_14, st_15, st_16, st_17, st_18, st_19, st_20, st_21, st_22, st_23, bp_nm, bp_tp, bp_ls, bp_ti, bps_nil, bps_nm, sts_nil, sts_cons, rowr_l, rowr_r, cat_d, wp0_nil, wp_0, wp_1, wp_2, wp_3, wp_4, wp_5, wp_6, wp_7, wp_8, wp_9, wp_10, wp_11, wp_12, wp_13, wp_14, wp_15, wp_16, wp_17, wp_18, wp_19, wp_20, wp_21, wp_22, wp_23, rng_1, rng_2, rng_3, rng_4, rng_5, rng_6, rng_7, brkT, brkF, ti1, ti2, ti3, ti4, ti5, ti6, ti_map, eq_ti, pick, List.cons_append, List.nil_append, List.map_cons, List.map_nil, List.getD_cons_zero, List.getD_cons_succ, Bool.not_true, Bool.not_false, ↓seq_v, ↓seq_f, ↓itm_v, ↓itm_f, ↓asg_v, ↓asg_f, bp_v, bp_f, bps_tv, bps_tf, ↓two_vv, ↓two_vt, ↓two_tv, ↓two_ff, ↓still_v, ↓cut_v, ↓cop_eq_v, ↓cop_ne_v, ↓cop_eq_f, ↓cop_ne_f, inD_n, inD_c, pures_c, pures_n, pure_vT, pure_fT, pure_iT, pure_bT, pure_nT, eq_v, eq_f, Bool.or_false, and_self, ↓tru_v, non_v, non_f, ty_v, ty_f, ta_v, ta_f, ↓bop_vv, ↓bop_6v, ↓cut_9a, ↓cut_9b, ↓cut_9c, tup3, tup2, v_ti, f_ti, zipD, wp_cc, true_and, decide_true, decide_false, eq_self, sz_0, sz_1, sz_2, sz_3, sz_4, sz_5, sz_6, sz_7, sz_8, sz_9, sz_10, sz_11, sz_12, enm_1, enm_2, enm_3, enm_4, enm_5, enm_6, enm_7, enm_8, enm_9, enm_10, len_1, len_2, len_3, len_4, len_5, len_6, len_7, len_8, len_9, len_10]
  refine ⟨by simp [SZ], by simp [SZ], ?_⟩
  refine s_law_plain (ns := m.l) (fl_det hm) (bd9_of hb (by omega)) (by simp [M3.l, SZ]) ?_
  rw [pm_l]
  simp only [r_law_plain_view_1, M3.l, slp_0, slp_3, slp_6, ↓ev_v0, ↓ev_v1, ↓ev_v2, ↓ev_v3, ↓ev_v4, ↓ev_v5, ↓ev_v6, ↓ev_v7, ↓ev_v8, ↓ev_v9, ↓ev_v10, ↓ev_v11, ↓ev_v12, ↓ev_v13, ↓ev_v14, ↓ev_v15, ↓ev_v16, ↓ev_v17, ↓ev_v18, ↓ev_v19, ↓ev_v20, ↓ev_v21, ↓ev_v22, ↓ev_v23, ↓ev_cst, ↓ev_glb, ↓ev_bin, ↓ev_neg, ↓ev_not, ↓ev_cmp, ↓ev_cmp2, ↓ev_and, ↓ev_or, ↓ev_ite, ↓ev_tup, ↓ev_lst, ↓ev_idx, ↓ev_slc, ↓ev_call, ↓ev_callk, ↓ev_bi, ↓ev_isi, ↓ev_isi2, ↓ev_lc, ↓ev_lc2, ↓ev_tcat, ↓ev_rng, ↓ev_rng1, ↓ev_zip, ↓ev_enm, ↓ev_cnt, ↓ev_nset, ↓ev_dct, ↓ev_cat, ↓ev_isn, ↓ev_rev, ↓ev_app, ↓evs_nil, ↓evs_cons, ↓evss_nil, ↓evss_f, ↓evss_t, ↓spr_tup, ↓spr_lst, ↓spr_frz, ↓spr_ti, ↓evo_n, ↓evo_s, ↓evt_n, ↓evt_s, ↓ex_set, ↓ex_par, ↓ex_expr, ↓ex_ret, ↓ex_retN, ↓ex_iff, ↓ex_for, ↓ex_whl, ↓ex_raise, ↓ex_pass, ↓ex_brk, ↓ex_cont, ↓exs_nil, ↓exs_cons, ↓tvf, ↓tvt, ↓asB_bl, ↓asI_i, ↓bop_add, ↓bop_sub, ↓bop_mul, ↓bop_fdv, ↓bop_mod, ↓bop_pow, ↓bop_tt, ↓bop_ll, ↓bop_lm, ↓cop_eq, ↓cop_ne, ↓cop_lt, ↓cop_le, ↓cop_gt, ↓cop_ge, ↓cop_eq_rep, ↓cop_ne_rep, ↓cop_eq_tup, ↓cop_ne_tup, ↓cop_eq_lst, ↓cop_ne_lst, ↓cop_eq_str, ↓cop_ne_str, ↓cop_eq_bl, ↓cop_ne_bl, ↓cop_eq_non, ↓cop_ne_non, ↓cop_is_n, ↓cop_is_b, ↓cop_isnot_n, ↓cop_isnot_b, ↓cop_isin_lst, ↓cop_isin_tup, ↓cop_notin_lst, ↓cop_notin_tup, ↓tru_non, ↓tru_bl, ↓tru_int, ↓tru_tup, ↓tru_lst, ↓seq_tup, ↓itm_tup, ↓seq_lst, ↓itm_lst, ↓seq_frz, ↓itm_frz, ↓itm_itr, ↓seq_ref, ↓itm_ref, ↓seq_ti, ↓itm_ti, ↓onO_s, ↓nth_0, ↓nth_1, ↓nth_2, ↓nth_3, ↓nth_4, ↓nth_5, ↓nth_6, ↓nth_7, ↓nth_8, ↓nth_9, ↓nth_10, ↓nth_11, ↓nth_12, ↓bf_len, ↓bf_abs, ↓bf_max, ↓bf_min, ↓bf_int, ↓bf_intb, ↓bf_dm, ↓bf_gcd, ↓bf_all, ↓bf_any, ↓bf_sum, ↓bf_tup, ↓bf_repl, ↓bf_stri, ↓bf_rept, ↓bf_lst, ↓asg_nm, ↓asg_tp, ↓asg_ls, ↓asg_sub, ↓asg_tg, ↓asg_ti, ↓asgs_nil, ↓asgs_cons, ↓mk_f, ↓mk_t, ↓setn_l, ↓setn_r, ↓isn_lst_true, ↓isn_lst_false, ↓isn_tup_true, ↓isn_tup_false, ↓isn_ref_true, ↓isn_ref_false, ↓cnt_t, ↓rev_t, ↓rev_l, ↓rev_ti, ↓onRef_r, ↓two_tt, ↓two_ll, ↓two_tl, ↓two_ti, ↓still_t, ↓still_ti, ↓still_l, ↓cut_tup, ↓cut_lst, ↓cut_frz, ↓cut_ti, ↓bop_titi, ↓cop_eq_ti, ↓cop_ne_ti, non_non, non_int, ty_int_int, ty_bool_int, ty_str_int, ty_tup_int, ty_lst_int, ty_dict_int, non_bl, ty_int_bl, ty_bool_bl, ty_str_bl, ty_tup_bl, ty_lst_bl, ty_dict_bl, non_str, ty_int_str, ty_bool_str, ty_str_str, ty_tup_str, ty_lst_str, ty_dict_str, non_tup, ty_int_tup, ty_bool_tup, ty_str_tup, ty_tup_tup, ty_lst_tup, ty_dict_tup, non_lst, ty_int_lst, ty_bool_lst, ty_str_lst, ty_tup_lst, ty_lst_lst, ty_dict_lst, ty_int_non, ty_int_ti, ty_bool_non, ty_bool_ti, ty_str_non, ty_str_ti, ty_tup_non, ty_tup_ti, ty_lst_non, ty_lst_ti, ty_dict_non, ty_dict_ti, ty_int_rep, ty_int_dic, ty_bool_rep, ty_bool_dic, ty_str_rep, ty_str_dic, ty_tup_rep, ty_tup_dic, ty_lst_rep, ty_lst_dic, ty_dict_rep, ty_dict_dic, ta_tup, ta_lst, ta_ti, ta_int, ta_bl, ta_str, ta_non, st_0, st_1, st_2, st_3, st_4, st_5, st_6, st_7, st_8, st_9, st_10, st_11, st_12, st_13, st_14, st_15, st_16, st_17, st_18, st_19, st_20, st_21, st_22, st_23, bp_nm, bp_tp, bp_ls, bp_ti, bps_nil, bps_nm, sts_nil, sts_cons, rowr_l, rowr_r, cat_d, wp0_nil, wp_0, wp_1, wp_2, wp_3, wp_4, wp_5, wp_6, wp_7, wp_8, wp_9, wp_10, wp_11, wp_12, wp_13, wp_14, wp_15, wp_16, wp_17, wp_18, wp_19, wp_20, wp_21, wp_22, wp_23, rng_1, rng_2, rng_3, rng_4, rng_5, rng_6, rng_7, brkT, brkF, ti1, ti2, ti3, ti4, ti5, ti6, ti_map, eq_ti, pick, List.cons_append, List.nil_append, List.map_cons, List.map_nil, List.getD_cons_zero, List.getD_cons_succ, Bool.not_true, Bool.not_false, ↓seq_v, ↓seq_f, ↓itm_v, ↓itm_f, ↓asg_v, ↓asg_f, bp_v, bp_f, bps_tv, bps_tf, ↓two_vv, ↓two_vt, ↓two_tv, ↓two_ff, ↓still_v, ↓cut_v, ↓cop_eq_v, ↓cop_ne_v, ↓cop_eq_f, ↓cop_ne_f, inD_n, inD_c, pures_c, pures_n, pure_vT, pure_fT, pure_iT, pure_bT, pure_nT, eq_v, eq_f, Bool.or_false, and_self, ↓tru_v, non_v, non_f, ty_v, ty_f, ta_v, ta_f, ↓bop_vv, ↓bop_6v, ↓cut_9a, ↓cut_9b, ↓cut_9c, tup3, tup2, v_ti, f_ti, zipD, wp_cc, true_and, decide_true, decide_false, eq_self, sz_0, sz_1, sz_2, sz_3, sz_4, sz_5, sz_6, sz_7, sz_8, sz_9, sz_10, sz_11, sz_12, enm_1, enm_2, enm_3, enm_4, enm_5, enm_6, enm_7, enm_8, enm_9, enm_10, len_1, len_2, len_3, len_4, len_5, len_6, len_7, len_8, len_9, len_10]
  exact h
theorem s_law_view14 {t : Int} (hp : Pl S l) (ht : 0 < t) (hb : bt 31 t) (h : ∀ (m : M3) (S' : Store), bm 31 m → Dr l S S' → k (mD m) S') : CT (n + 5) i_law_view_v6 [.ref l, .int t] S k X := by
  refine c_law_view_v6 ?_
  simp only [f_law_view_v6, ↓ev_v0, ↓ev_v1, ↓ev_v2, ↓ev_v3, ↓ev_v4, ↓ev_v5, ↓ev_v6, ↓ev_v7, ↓ev_v8, ↓ev_v9, ↓ev_v10, ↓ev_v11, ↓ev_v12, ↓ev_v13, ↓ev_v14, ↓ev_v15, ↓ev_v16, ↓ev_v17, ↓ev_v18, ↓ev_v19, ↓ev_v20, ↓ev_v21, ↓ev_v22, ↓ev_v23, ↓ev_cst, ↓ev_glb, ↓ev_bin, ↓ev_neg, ↓ev_not, ↓ev_cmp, ↓ev_cmp2, ↓ev_and, ↓ev_or, ↓ev_ite, ↓ev_tup, ↓ev_lst, ↓ev_idx, ↓ev_slc, ↓ev_call, ↓ev_callk, ↓ev_bi, ↓ev_isi, ↓ev_isi2, ↓ev_lc, ↓ev_lc2, ↓ev_tcat, ↓ev_rng, ↓ev_rng1, ↓ev_zip, ↓ev_enm, ↓ev_cnt, ↓ev_nset, ↓ev_dct, ↓ev_cat, ↓ev_isn, ↓ev_rev, ↓ev_app, ↓evs_nil, ↓evs_cons, ↓evss_nil, ↓evss_f, ↓evss_t, ↓spr_tup, ↓spr_lst, ↓spr_frz, ↓spr_ti, ↓evo_n, ↓evo_s, ↓evt_n, ↓evt_s, ↓ex_set, ↓ex_par, ↓ex_expr, ↓ex_ret, ↓ex_retN, ↓ex_iff, ↓ex_for, ↓ex_whl, ↓ex_raise, ↓ex_pass, ↓ex_brk, ↓ex_cont, ↓exs_nil, ↓exs_cons, ↓tvf, ↓tvt, ↓asB_bl, ↓asI_i, ↓bop_add, ↓bop_sub, ↓bop_mul, ↓bop_fdv, ↓bop_mod, ↓bop_pow, ↓bop_tt, ↓bop_ll, ↓bop_lm, ↓cop_eq, ↓cop_ne, ↓cop_lt, ↓cop_le, ↓cop_gt, ↓cop_ge, ↓cop_eq_rep, ↓cop_ne_rep, ↓cop_eq_tup, ↓cop_ne_tup, ↓cop_eq_lst, ↓cop_ne_lst, ↓cop_eq_str, ↓cop_ne_str, ↓cop_eq_bl, ↓cop_ne_bl, ↓cop_eq_non, ↓cop_ne_non, ↓cop_is_n, ↓cop_is_b, ↓cop_isnot_n, ↓cop_isnot_b, ↓cop_isin_lst, ↓cop_isin_tup, ↓cop_notin_lst, ↓cop_notin_tup, ↓tru_non, ↓tru_bl, ↓tru_int, ↓tru_tup, ↓tru_lst, ↓seq_tup, ↓itm_tup, ↓seq_lst, ↓itm_lst, ↓seq_frz, ↓itm_frz, ↓itm_itr, ↓seq_ref, ↓itm_ref, ↓seq_ti, ↓itm_ti, ↓onO_s, ↓nth_0, ↓nth_1, ↓nth_2, ↓nth_3, ↓nth_4, ↓nth_5, ↓nth_6, ↓nth_7, ↓nth_8, ↓nth_9, ↓nth_10, ↓nth_11, ↓nth_12, ↓bf_len, ↓bf_abs, ↓bf_max, ↓bf_min, ↓bf_int, ↓bf_intb, ↓bf_dm, ↓bf_gcd, ↓bf_all, ↓bf_any, ↓bf_sum, ↓bf_tup, ↓bf_repl, ↓bf_stri, ↓bf_rept, ↓bf_lst, ↓asg_nm, ↓asg_tp, ↓asg_ls, ↓asg_sub, ↓asg_tg, ↓asg_ti, ↓asgs_nil, ↓asgs_cons, ↓mk_f, ↓mk_t, ↓setn_l, ↓setn_r, ↓isn_lst_true, ↓isn_lst_false, ↓isn_tup_true, ↓isn_tup_false, ↓isn_ref_true, ↓isn_ref_false, ↓cnt_t, ↓rev_t, ↓rev_l, ↓rev_ti, ↓onRef_r, ↓two_tt, ↓two_ll, ↓two_tl, ↓two_ti, ↓still_t, ↓still_ti, ↓still_l, ↓cut_tup, ↓cut_lst, ↓cut_frz, ↓cut_ti, ↓bop_titi, ↓cop_eq_ti, ↓cop_ne_ti, non_non, non_int, ty_int_int, ty_bool_int, ty_str_int, ty_tup_int, ty_lst_int, ty_dict_int, non_bl, ty_int_bl, ty_bool_bl, ty_str_bl, ty_tup_bl, ty_lst_bl, ty_dict_bl, non_str, ty_int_str, ty_bool_str, ty_str_str, ty_tup_str, ty_lst_str, ty_dict_str, non_tup, ty_int_tup, ty_bool_tup, ty_str_tup, ty_tup_tup, ty_lst_tup, ty_dict_tup, non_lst, ty_int_lst, ty_bool_lst, ty_str_lst, ty_tup_lst, ty_lst_lst, ty_dict_lst, ty_int_non, ty_int_ti, ty_bool_non, ty_bool_ti, ty_str_non, ty_str_ti, ty_tup_non, ty_tup_ti, ty_lst_non, ty_lst_ti, ty_dict_non, ty_dict_ti, ty_int_rep, ty_int_dic, ty_bool_rep, ty_bool_dic, ty_str_rep, ty_str_dic, ty_tup_rep, ty_tup_dic, ty_lst_rep, ty_lst_dic, ty_dict_rep, ty_dict_dic, ta_tup, ta_lst, ta_ti, ta_int, ta_bl, ta_str, ta_non, st_0, st_1, st_2, st_3, st_4, st_5, st_6, st_7, st_8, st_9, st_10, st_11, st_12, st_13, st_14, st_15, st_16, st_17, st_18, st_19, st_20, st_21, st_22, st_23, bp_nm, bp_tp, bp_ls, bp_ti, bps_nil, bps_nm, sts_nil, sts_cons, rowr_l, rowr_r, cat_d, wp0_nil, wp_0, wp_1, wp_2, wp_3, wp_4, wp_5, wp_6, wp_7, wp_8, wp_9, wp_10, wp_11, wp_12, wp_13, wp_14, wp_15, wp_16, wp_17, wp_18, wp_19, wp_20, wp_21, wp_22, wp_23, rng_1, rng_2, rng_3, rng_4, rng_5, rng_6, rng_7, brkT, brkF, ti1, ti2, ti3, ti4, ti5, ti6, ti_map, eq_ti, pick, List.cons_append, List.nil_append, List.map_cons, List.map_nil, List.getD_cons_zero, List.getD_cons_succ, Bool.not_true, Bool.not_false, ↓seq_v, ↓seq_f, ↓itm_v, ↓itm_f, ↓asg_v, ↓asg_f, bp_v, bp_f, bps_tv, bps_tf, ↓two_vv, ↓two_vt, ↓two_tv, ↓two_ff, ↓still_v, ↓cut_v, ↓cop_eq_v, ↓cop_ne_v, ↓cop_eq_f, ↓cop_ne_f, inD_n, inD_c, pures_c, pures_n, pure_vT, pure_fT, pure_iT, pure_bT, pure_nT, eq_v, eq_f, Bool.or_false, and_self, ↓tru_v, non_v, non_f, ty_v, ty_f, ta_v, ta_f, ↓bop_vv, ↓bop_6v, ↓cut_9a, ↓cut_9b, ↓cut_9c, tup3, tup2, v_ti, f_ti, zipD, wp_cc, true_and, decide_true, decide_false, eq_self, sz_0, sz_1, sz_2, sz_3, sz_4, sz_5, sz_6, sz_7, sz_8, sz_9, sz_10, sz_11, sz_12, enm_1, enm_2, enm_3, enm_4, enm_5, enm_6, enm_7, enm_8, enm_9, enm_10, len_1, len_2, len_3, len_4, len_5, len_6, len_7, len_8, len_9, len_10]
  refine ⟨by decide, ?_⟩
  refine forW_inv (I := fun _ σ S' => Dr l S S' ∧ ∃ x2 x3 x4 x5, σ = [some (.ref l), some (.int t), x2, x3, x4, x5]) ⟨.refl hp, _, _, _, _, rfl⟩ ?_ ?_
  · rintro dd ds σ S0 ⟨dr, x2, x3, x4, x5, rfl⟩
    refine ⟨_, rfl, fun K hK => ?_⟩
    simp only [lc_app', fc_cons, fc_nil, blk_app, ↓ev_v0, ↓ev_v1, ↓ev_v2, ↓ev_v3, ↓ev_v4, ↓ev_v5, ↓ev_v6, ↓ev_v7, ↓ev_v8, ↓ev_v9, ↓ev_v10, ↓ev_v11, ↓ev_v12, ↓ev_v13, ↓ev_v14, ↓ev_v15, ↓ev_v16, ↓ev_v17, ↓ev_v18, ↓ev_v19, ↓ev_v20, ↓ev_v21, ↓ev_v22, ↓ev_v23, ↓ev_cst, ↓ev_glb, ↓ev_bin, ↓ev_neg, ↓ev_not, ↓ev_cmp, ↓ev_cmp2, ↓ev_and, ↓ev_or, ↓ev_ite, ↓ev_tup, ↓ev_lst, ↓ev_idx, ↓ev_slc, ↓ev_call, ↓ev_callk, ↓ev_bi, ↓ev_isi, ↓ev_isi2, ↓ev_lc, ↓ev_lc2, ↓ev_tcat, ↓ev_rng, ↓ev_rng1, ↓ev_zip, ↓ev_enm, ↓ev_cnt, ↓ev_nset, ↓ev_dct, ↓ev_cat, ↓ev_isn, ↓ev_rev, ↓ev_app, ↓evs_nil, ↓evs_cons, ↓evss_nil, ↓evss_f, ↓evss_t, ↓spr_tup, ↓spr_lst, ↓spr_frz, ↓spr_ti, ↓evo_n, ↓evo_s, ↓evt_n, ↓evt_s, ↓ex_set, ↓ex_par, ↓ex_expr, ↓ex_ret, ↓ex_retN, ↓ex_iff, ↓ex_for, ↓ex_whl, ↓ex_raise, ↓ex_pass, ↓ex_brk, ↓ex_cont, ↓exs_nil, ↓exs_cons, ↓tvf, ↓tvt, ↓asB_bl, ↓asI_i, ↓bop_add, ↓bop_sub, ↓bop_mul, ↓bop_fdv, ↓bop_mod, ↓bop_pow, ↓bop_tt, ↓bop_ll, ↓bop_lm, ↓cop_eq, ↓cop_ne, ↓cop_lt, ↓cop_le, ↓cop_gt, ↓cop_ge, ↓cop_eq_rep, ↓cop_ne_rep, ↓cop_eq_tup, ↓cop_ne_tup, ↓cop_eq_lst, ↓cop_ne_lst, ↓cop_eq_str, ↓cop_ne_str, ↓cop_eq_bl, ↓cop_ne_bl, ↓cop_eq_non, ↓cop_ne_non, ↓cop_is_n, ↓cop_is_b, ↓cop_isnot_n, ↓cop_isnot_b, ↓cop_isin_lst, ↓cop_isin_tup, ↓cop_notin_lst, ↓cop_notin_tup, ↓tru_non, ↓tru_bl, ↓tru_int, ↓tru_tup, ↓tru_lst, ↓seq_tup, ↓itm_tup, ↓seq_lst, ↓itm_lst, ↓seq_frz, ↓itm_frz, ↓itm_itr, ↓seq_ref, ↓itm_ref, ↓seq_ti, ↓itm_ti, ↓onO_s, ↓nth_0, ↓nth_1, ↓nth_2, ↓nth_3, ↓nth_4, ↓nth_5, ↓nth_6, ↓nth_7, ↓nth_8, ↓nth_9, ↓nth_10, ↓nth_11, ↓nth_12, ↓bf_len, ↓bf_abs, ↓bf_max, ↓bf_min, ↓bf_int, ↓bf_intb, ↓bf_dm, ↓bf_gcd, ↓bf_all, ↓bf_any, ↓bf_sum, ↓bf_tup, ↓bf_repl, ↓bf_stri, ↓bf_rept, ↓bf_lst, ↓asg_nm, ↓asg_tp, ↓asg_ls, ↓asg_sub, ↓asg_tg, ↓asg_ti, ↓asgs_nil, ↓asgs_cons, ↓mk_f, ↓mk_t, ↓setn_l, ↓setn_r, ↓isn_lst_true, ↓isn_lst_false, ↓isn_tup_true, ↓isn_tup_false, ↓isn_ref_true, ↓isn_ref_false, ↓cnt_t, ↓rev_t, ↓rev_l, ↓rev_ti, ↓onRef_r, ↓two_tt, ↓two_ll, ↓two_tl, ↓two_ti, ↓still_t, ↓still_ti, ↓still_l, ↓cut_tup, ↓cut_lst, ↓cut_frz, ↓cut_ti, ↓bop_titi, ↓cop_eq_ti, ↓cop_ne_ti, non_non, non_int, ty_int_int, ty_bool_int, ty_str_int, ty_tup_int, ty_lst_int, ty_dict_int, non_bl, ty_int_bl, ty_bool_bl, ty_str_bl, ty_tup_bl, ty_lst_bl, ty_dict_bl, non_str, ty_int_str, ty_bool_str, ty_str_str, ty_tup_str, ty_lst_str, ty_dict_str, non_tup, ty_int_tup, ty_bool_tup, ty_str_tup, ty_tup_tup, ty_lst_tup, ty_dict_tup, non_lst, ty_int_lst, ty_bool_lst, ty_str_lst, ty_tup_lst, ty_lst_lst, ty_dict_lst, ty_int_non, ty_int_ti, ty_bool_non, ty_bool_ti, ty_str_non, ty_str_ti, ty_tup_non, ty_tup_ti, ty_lst_non, ty_lst_ti, ty_dict_non, ty_dict_ti, ty_int_rep, ty_int_dic, ty_bool_rep, ty_bool_dic, ty_str_rep, ty_str_dic, ty_tup_rep, ty_tup_dic, ty_lst_rep, ty_lst_dic, ty_dict_rep, ty_dict_dic, ta_tup, ta_lst, ta_ti, ta_int, ta_bl, ta_str, ta_non, st_0, st_1, st_2, st_3, st_4, st_5, st_6, st_7, st_8, st_9, st_10, st_11, st_12, st_13, st_14, st_15, st_16, st_17, st_18, st_19, st_20, st_21, st_22, st_23, bp_nm, bp_tp, bp_ls, bp_ti, bps_nil, bps_nm, sts_nil, sts_cons, rowr_l, rowr_r, cat_d, wp0_nil, wp_0, wp_1, wp_2, wp_3, wp_4, wp_5, wp_6, wp_7, wp_8, wp_9, wp_10, wp_11, wp_12, wp_13, wp_14, wp_15, wp_16, wp_17, wp_18, wp_19, wp_20, wp_21, wp_22, wp_23, rng_1, rng_2, rng_3, rng_4, rng_5, rng_6, rng_7, brkT, brkF, ti1, ti2, ti3, ti4, ti5, ti6, ti_map, eq_ti, pick, List.cons_append, List.nil_append, List.map_cons, List.map_nil, List.getD_cons_zero, List.getD_cons_succ, Bool.not_true, Bool.not_false, ↓seq_v, ↓seq_f, ↓itm_v, ↓itm_f, ↓asg_v, ↓asg_f, bp_v, bp_f, bps_tv, bps_tf, ↓two_vv, ↓two_vt, ↓two_tv, ↓two_ff, ↓still_v, ↓cut_v, ↓cop_eq_v, ↓cop_ne_v, ↓cop_eq_f, ↓cop_ne_f, inD_n, inD_c, pures_c, pures_n, pure_vT, pure_fT, pure_iT, pure_bT, pure_nT, eq_v, eq_f, Bool.or_false, and_self, ↓tru_v, non_v, non_f, ty_v, ty_f, ta_v, ta_f, ↓bop_vv, ↓bop_6v, ↓cut_9a, ↓cut_9b, ↓cut_9c, tup3, tup2, v_ti, f_ti, zipD, wp_cc, true_and, decide_true, decide_false, eq_self, sz_0, sz_1, sz_2, sz_3, sz_4, sz_5, sz_6, sz_7, sz_8, sz_9, sz_10, sz_11, sz_12, enm_1, enm_2, enm_3, enm_4, enm_5, enm_6, enm_7, enm_8, enm_9, enm_10, len_1, len_2, len_3, len_4, len_5, len_6, len_7, len_8, len_9, len_10]
    have h2 : t < 2 ^ 60 ∨ t.natAbs < 2 ^ 7000 := by unfold bt at hb; exact .inl (by omega)
    have tb : ∀ {x : Int}, -t ≤ x → x ≤ t → bt 31 x := fun {x} g1 g2 => by unfold bt at *; omega
    refine ⟨by decide, by decide, ?_⟩
    refine s_law_number_k14 dr.pl ht h2 fun a1 S1 g1 f1 d1 => ?_
    refine s_law_number_k14 d1.pl ht h2 fun a2 S2 g2 f2 d2 => ?_
    refine s_law_number_k14 d2.pl ht h2 fun a3 S3 g3 f3 d3 => ?_
    refine ⟨by decide, ?_⟩
    refine s_law_number_k14 d3.pl ht h2 fun a4 S4 g4 f4 d4 => ?_
    refine s_law_number_k14 d4.pl ht h2 fun a5 S5 g5 f5 d5 => ?_
    refine s_law_number_k14 d5.pl ht h2 fun a6 S6 g6 f6 d6 => ?_
    refine ⟨by decide, ?_⟩
    refine s_law_number_k14 d6.pl ht h2 fun a7 S7 g7 f7 d7 => ?_
    refine s_law_number_k14 d7.pl ht h2 fun a8 S8 g8 f8 d8 => ?_
    refine s_law_number_k14 d8.pl ht h2 fun a9 S9 g9 f9 d9 => ?_
    have dd' := ((((((((dr.trans d1).trans d2).trans d3).trans d4).trans d5).trans d6).trans d7).trans d8).trans d9
    obtain ⟨m, em⟩ : ∃ m : M3, m = ⟨⟨a1, a2, a3⟩, ⟨a4, a5, a6⟩, ⟨a7, a8, a9⟩⟩ := ⟨_, rfl⟩
    have bb : bm 31 m := by rw [em]; exact ⟨⟨tb g1 f1, tb g2 f2, tb g3 f3⟩, ⟨tb g4 f4, tb g5 f5, tb g6 f6⟩, ⟨tb g7 f7, tb g8 f8, tb g9 f9⟩⟩
    have e1 : D.tup [.int a1, .int a2, .int a3] = vD m.a := by rw [em]; rfl
    have e2 : D.tup [.int a4, .int a5, .int a6] = vD m.b := by rw [em]; rfl
    have e3 : D.tup [.int a7, .int a8, .int a9] = vD m.c := by rw [em]; rfl
    rw [e1, e2, e3]
    refine s_law_block4 bb.1 bb.2.1 bb.2.2 (by decide) ?_
    try walk_at "fx"
    refine brk_i (fun e => ?_) fun _ => hK _ _ ⟨dd', _, _, _, _, rfl⟩
    have hm : det m ≠ 0 := ndec4 e
    refine s_law_plain_view14 hm bb (by decide) ?_
    exact h _ _ (bm_pm bb hm) dd'
  · rintro σ S' ⟨dr, x2, x3, x4, x5, rfl⟩
    simp only [↓ev_v0, ↓ev_v1, ↓ev_v2, ↓ev_v3, ↓ev_v4, ↓ev_v5, ↓ev_v6, ↓ev_v7, ↓ev_v8, ↓ev_v9, ↓ev_v10, ↓ev_v11, ↓ev_v12, ↓ev_v13, ↓ev_v14, ↓ev_v15, ↓ev_v16, ↓ev_v17, ↓ev_v18, ↓ev_v19, ↓ev_v20, ↓ev_v21, ↓ev_v22, ↓ev_v23, ↓ev_cst, ↓ev_glb, ↓ev_bin, ↓ev_neg, ↓ev_not, ↓ev_cmp, ↓ev_cmp2, ↓ev_and, ↓ev_or, ↓ev_ite, ↓ev_tup, ↓ev_lst, ↓ev_idx, ↓ev_slc, ↓ev_call, ↓ev_callk, ↓ev_bi, ↓ev_isi, ↓ev_isi2, ↓ev_lc, ↓ev_lc2, ↓ev_tcat, ↓ev_rng, ↓ev_rng1, ↓ev_zip, ↓ev_enm, ↓ev_cnt, ↓ev_nset, ↓ev_dct, ↓ev_cat, ↓ev_isn, ↓ev_rev, ↓ev_app, ↓evs_nil, ↓evs_cons, ↓evss_nil, ↓evss_f, ↓evss_t, ↓spr_tup, ↓spr_lst, ↓spr_frz, ↓spr_ti, ↓evo_n, ↓evo_s, ↓evt_n, ↓evt_s, ↓ex_set, ↓ex_par, ↓ex_expr, ↓ex_ret, ↓ex_retN, ↓ex_iff, ↓ex_for, ↓ex_whl, ↓ex_raise, ↓ex_pass, ↓ex_brk, ↓ex_cont, ↓exs_nil, ↓exs_cons, ↓tvf, ↓tvt, ↓asB_bl, ↓asI_i, ↓bop_add, ↓bop_sub, ↓bop_mul, ↓bop_fdv, ↓bop_mod, ↓bop_pow, ↓bop_tt, ↓bop_ll, ↓bop_lm, ↓cop_eq, ↓cop_ne, ↓cop_lt, ↓cop_le, ↓cop_gt, ↓cop_ge, ↓cop_eq_rep, ↓cop_ne_rep, ↓cop_eq_tup, ↓cop_ne_tup, ↓cop_eq_lst, ↓cop_ne_lst, ↓cop_eq_str, ↓cop_ne_str, ↓cop_eq_bl, ↓cop_ne_bl, ↓cop_eq_non, ↓cop_ne_non, ↓cop_is_n, ↓cop_is_b, ↓cop_isnot_n, ↓cop_isnot_b, ↓cop_isin_lst, ↓cop_isin_tup, ↓cop_notin_lst, ↓cop_notin_tup, ↓tru_non, ↓tru_bl, ↓tru_int, ↓tru_tup, ↓tru_lst, ↓seq_tup, ↓itm_tup, ↓seq_lst, ↓itm_lst, ↓seq_frz, ↓itm_frz, ↓itm_itr, ↓seq_ref, ↓itm_ref, ↓seq_ti, ↓itm_ti, ↓onO_s, ↓nth_0, ↓nth_1, ↓nth_2, ↓nth_3, ↓nth_4, ↓nth_5, ↓nth_6, ↓nth_7, ↓nth_8, ↓nth_9, ↓nth_10, ↓nth_11, ↓nth_12, ↓bf_len, ↓bf_abs, ↓bf_max, ↓bf_min, ↓bf_int, ↓bf_intb, ↓bf_dm, ↓bf_gcd, ↓bf_all, ↓bf_any, ↓bf_sum, ↓bf_tup, ↓bf_repl, ↓bf_stri, ↓bf_rept, ↓bf_lst, ↓asg_nm, ↓asg_tp, ↓asg_ls, ↓asg_sub, ↓asg_tg, ↓asg_ti, ↓asgs_nil, ↓asgs_cons, ↓mk_f, ↓mk_t, ↓setn_l, ↓setn_r, ↓isn_lst_true, ↓isn_lst_false, ↓isn_tup_true, ↓isn_tup_false, ↓isn_ref_true, ↓isn_ref_false, ↓cnt_t, ↓rev_t, ↓rev_l, ↓rev_ti, ↓onRef_r, ↓two_tt, ↓two_ll, ↓two_tl, ↓two_ti, ↓still_t, ↓still_ti, ↓still_l, ↓cut_tup, ↓cut_lst, ↓cut_frz, ↓cut_ti, ↓bop_titi, ↓cop_eq_ti, ↓cop_ne_ti, non_non, non_int, ty_int_int, ty_bool_int, ty_str_int, ty_tup_int, ty_lst_int, ty_dict_int, non_bl, ty_int_bl, ty_bool_bl, ty_str_bl, ty_tup_bl, ty_lst_bl, ty_dict_bl, non_str, ty_int_str, ty_bool_str, ty_str_str, ty_tup_str, ty_lst_str, ty_dict_str, non_tup, ty_int_tup, ty_bool_tup, ty_str_tup, ty_tup_tup, ty_lst_tup, ty_dict_tup, non_lst, ty_int_lst, ty_bool_lst, ty_str_lst, ty_tup_lst, ty_lst_lst, ty_dict_lst, ty_int_non, ty_int_ti, ty_bool_non, ty_bool_ti, ty_str_non, ty_str_ti, ty_tup_non, ty_tup_ti, ty_lst_non, ty_lst_ti, ty_dict_non, ty_dict_ti, ty_int_rep, ty_int_dic, ty_bool_rep, ty_bool_dic, ty_str_rep, ty_str_dic, ty_tup_rep, ty_tup_dic, ty_lst_rep, ty_lst_dic, ty_dict_rep, ty_dict_dic, ta_tup, ta_lst, ta_ti, ta_int, ta_bl, ta_str, ta_non, st_0, st_1, st_2, st_3, st_4, st_5, st_6, st_7, st_8, st_9, st_10, st_11, st_12, st_13, st_14, st_15, st_16, st_17, st_18, st_19, st_20, st_21, st_22, st_23, bp_nm, bp_tp, bp_ls, bp_ti, bps_nil, bps_nm, sts_nil, sts_cons, rowr_l, rowr_r, cat_d, wp0_nil, wp_0, wp_1, wp_2, wp_3, wp_4, wp_5, wp_6, wp_7, wp_8, wp_9, wp_10, wp_11, wp_12, wp_13, wp_14, wp_15, wp_16, wp_17, wp_18, wp_19, wp_20, wp_21, wp_22, wp_23, rng_1, rng_2, rng_3, rng_4, rng_5, rng_6, rng_7, brkT, brkF, ti1, ti2, ti3, ti4, ti5, ti6, ti_map, eq_ti, pick, List.cons_append, List.nil_append, List.map_cons, List.map_nil, List.getD_cons_zero, List.getD_cons_succ, Bool.not_true, Bool.not_false, ↓seq_v, ↓seq_f, ↓itm_v, ↓itm_f, ↓asg_v, ↓asg_f, bp_v, bp_f, bps_tv, bps_tf, ↓two_vv, ↓two_vt, ↓two_tv, ↓two_ff, ↓still_v, ↓cut_v, ↓cop_eq_v, ↓cop_ne_v, ↓cop_eq_f, ↓cop_ne_f, inD_n, inD_c, pures_c, pures_n, pure_vT, pure_fT, pure_iT, pure_bT, pure_nT, eq_v, eq_f, Bool.or_false, and_self, ↓tru_v, non_v, non_f, ty_v, ty_f, ta_v, ta_f, ↓bop_vv, ↓bop_6v, ↓cut_9a, ↓cut_9b, ↓cut_9c, tup3, tup2, v_ti, f_ti, zipD, wp_cc, true_and, decide_true, decide_false, eq_self, sz_0, sz_1, sz_2, sz_3, sz_4, sz_5, sz_6, sz_7, sz_8, sz_9, sz_10, sz_11, sz_12, enm_1, enm_2, enm_3, enm_4, enm_5, enm_6, enm_7, enm_8, enm_9, enm_10, len_1, len_2, len_3, len_4, len_5, len_6, len_7, len_8, len_9, len_10]
    exact h ⟨⟨1, 0, 1⟩, ⟨0, 1, 0⟩, ⟨1, 0, 2⟩⟩ _ ⟨by decide, by decide, by decide⟩ dr
theorem things_end14 {L : Nat} {F : List D} {kk jj : Int} {row : T3} {y6 y7 y8 y9 : Option D} (bb : bm 31 m) (br : bv 31 row) (k0 : 0 ≤ kk) (k1 : kk < 3) (j0 : 0 ≤ jj) (j1 : jj < 3) (hF : ∀ d ∈ F, Gdw d) (lF : F.length = 29) (e : cl S L = some F) (hp : Pl S l) (hL : l ≠ L)
    (h : ∀ (r : Nat) (ds : List D) (S' : Store), cl S' r = some ds → (∀ d ∈ ds, Gdw d) → ds.length ≤ 100 → Pl S' l → k (.ref r) S') :
    exs (CT (n + 2)) X r_law_things_v3_5 [some (.ref l), some (mD m), some (.int kk), some (.int jj), some (vD row), some (.ref L), y6, y7, y8, y9] S { nx := fun x S1 => k D.non S1, rt := k, bk := fun x x_1 => False, ct := fun x x_1 => False } := by
  obtain ⟨t, et, b_t⟩ := nth_v14 j0 j1 br
  have t2 : t.natAbs < 2 ^ 31 := b_t
  have gt : ∀ i : Int, i.natAbs < 2 ^ 200 → giv (.int i) := fun i hi => giv_int hi
  simp only [r_law_things_v3_5, et, lc_app', fc_cons, fc_nil, ↓ev_v0, ↓ev_v1, ↓ev_v2, ↓ev_v3, ↓ev_v4, ↓ev_v5, ↓ev_v6, ↓ev_v7, ↓ev_v8, ↓ev_v9, ↓ev_v10, ↓ev_v11, ↓ev_v12, ↓ev_v13, ↓ev_v14, ↓ev_v15, ↓ev_v16, ↓ev_v17, ↓ev_v18, ↓ev_v19, ↓ev_v20, ↓ev_v21, ↓ev_v22, ↓ev_v23, ↓ev_cst, ↓ev_glb, ↓ev_bin, ↓ev_neg, ↓ev_not, ↓ev_cmp, ↓ev_cmp2, ↓ev_and, ↓ev_or, ↓ev_ite, ↓ev_tup, ↓ev_lst, ↓ev_idx, ↓ev_slc, ↓ev_call, ↓ev_callk, ↓ev_bi, ↓ev_isi, ↓ev_isi2, ↓ev_lc, ↓ev_lc2, ↓ev_tcat, ↓ev_rng, ↓ev_rng1, ↓ev_zip, ↓ev_enm, ↓ev_cnt, ↓ev_nset, ↓ev_dct, ↓ev_cat, ↓ev_isn, ↓ev_rev, ↓ev_app, ↓evs_nil, ↓evs_cons, ↓evss_nil, ↓evss_f, ↓evss_t, ↓spr_tup, ↓spr_lst, ↓spr_frz, ↓spr_ti, ↓evo_n, ↓evo_s, ↓evt_n, ↓evt_s, ↓ex_set, ↓ex_par, ↓ex_expr, ↓ex_ret, ↓ex_retN, ↓ex_iff, ↓ex_for, ↓ex_whl, ↓ex_raise, ↓ex_pass, ↓ex_brk, ↓ex_cont, ↓exs_nil, ↓exs_cons, ↓tvf, ↓tvt, ↓asB_bl, ↓asI_i, ↓bop_add, ↓bop_sub, ↓bop_mul, ↓bop_fdv, ↓bop_mod, ↓bop_pow, ↓bop_tt, ↓bop_ll, ↓bop_lm, ↓cop_eq, ↓cop_ne, ↓cop_lt, ↓cop_le, ↓cop_gt, ↓cop_ge, ↓cop_eq_rep, ↓cop_ne_rep, ↓cop_eq_tup, ↓cop_ne_tup, ↓cop_eq_lst, ↓cop_ne_lst, ↓cop_eq_str, ↓cop_ne_str, ↓cop_eq_bl, ↓cop_ne_bl, ↓cop_eq_non, ↓cop_ne_non, ↓cop_is_n, ↓cop_is_b, ↓cop_isnot_n, ↓cop_isnot_b, ↓cop_isin_lst, ↓cop_isin_tup, ↓cop_notin_lst, ↓cop_notin_tup, ↓tru_non, ↓tru_bl, ↓tru_int, ↓tru_tup, ↓tru_lst, ↓seq_tup, ↓itm_tup, ↓seq_lst, ↓itm_lst, ↓seq_frz, ↓itm_frz, ↓itm_itr, ↓seq_ref, ↓itm_ref, ↓seq_ti, ↓itm_ti, ↓onO_s, ↓nth_0, ↓nth_1, ↓nth_2, ↓nth_3, ↓nth_4, ↓nth_5, ↓nth_6, ↓nth_7, ↓nth_8, ↓nth_9, ↓nth_10, ↓nth_11, ↓nth_12, ↓bf_len, ↓bf_abs, ↓bf_max, ↓bf_min, ↓bf_int, ↓bf_intb, ↓bf_dm, ↓bf_gcd, ↓bf_all, ↓bf_any, ↓bf_sum, ↓bf_tup, ↓bf_repl, ↓bf_stri, ↓bf_rept, ↓bf_lst, ↓asg_nm, ↓asg_tp, ↓asg_ls, ↓asg_sub, ↓asg_tg, ↓asg_ti, ↓asgs_nil, ↓asgs_cons, ↓mk_f, ↓mk_t, ↓setn_l, ↓setn_r, ↓isn_lst_true, ↓isn_lst_false, ↓isn_tup_true, ↓isn_tup_false, ↓isn_ref_true, ↓isn_ref_false, ↓cnt_t, ↓rev_t, ↓rev_l, ↓rev_ti, ↓onRef_r, ↓two_tt, ↓two_ll, ↓two_tl, ↓two_ti, ↓still_t, ↓still_ti, ↓still_l, ↓cut_tup, ↓cut_lst, ↓cut_frz, ↓cut_ti, ↓bop_titi, ↓cop_eq_ti, ↓cop_ne_ti, non_non, non_int, ty_int_int, ty_bool_int, ty_str_int, ty_tup_int, ty_lst_int, ty_dict_int, non_bl, ty_int_bl, ty_bool_bl, ty_str_bl, ty_tup_bl, ty_lst_bl, ty_dict_bl, non_str, ty_int_str, ty_bool_str, ty_str_str, ty_tup_str, ty_lst_str, ty_dict_str, non_tup, ty_int_tup, ty_bool_tup, ty_str_tup, ty_tup_tup, ty_lst_tup, ty_dict_tup, non_lst, ty_int_lst, ty_bool_lst, ty_str_lst, ty_tup_lst, ty_lst_lst, ty_dict_lst, ty_int_non, ty_int_ti, ty_bool_non, ty_bool_ti, ty_str_non, ty_str_ti, ty_tup_non, ty_tup_ti, ty_lst_non, ty_lst_ti, ty_dict_non, ty_dict_ti, ty_int_rep, ty_int_dic, ty_bool_rep, ty_bool_dic, ty_str_rep, ty_str_dic, ty_tup_rep, ty_tup_dic, ty_lst_rep, ty_lst_dic, ty_dict_rep, ty_dict_dic, ta_tup, ta_lst, ta_ti, ta_int, ta_bl, ta_str, ta_non, st_0, st_1, st_2, st_3, st_4, st_5, st_6, st_7, st_8, st_9, st_10, st_11, st_12, st_13, st_14, st_15, st_16, st_17, st_18, st_19, st_20, st_21, st_22, st_23, bp_nm, bp_tp, bp_ls, bp_ti, bps_nil, bps_nm, sts_nil, sts_cons, rowr_l, rowr_r, cat_d, wp0_nil, wp_0, wp_1, wp_2, wp_3, wp_4, wp_5, wp_6, wp_7, wp_8, wp_9, wp_10, wp_11, wp_12, wp_13, wp_14, wp_15, wp_16, wp_17, wp_18, wp_19, wp_20, wp_21, wp_22, wp_23, rng_1, rng_2, rng_3, rng_4, rng_5, rng_6, rng_7, brkT, brkF, ti1, ti2, ti3, ti4, ti5, ti6, ti_map, eq_ti, pick, List.cons_append, List.nil_append, List.map_cons, List.map_nil, List.getD_cons_zero, List.getD_cons_succ, Bool.not_true, Bool.not_false, ↓seq_v, ↓seq_f, ↓itm_v, ↓itm_f, ↓asg_v, ↓asg_f, bp_v, bp_f, bps_tv, bps_tf, ↓two_vv, ↓two_vt, ↓two_tv, ↓two_ff, ↓still_v, ↓cut_v, ↓cop_eq_v, ↓cop_ne_v, ↓cop_eq_f, ↓cop_ne_f, inD_n, inD_c, pures_c, pures_n, pure_vT, pure_fT, pure_iT, pure_bT, pure_nT, eq_v, eq_f, Bool.or_false, and_self, ↓tru_v, non_v, non_f, ty_v, ty_f, ta_v, ta_f, ↓bop_vv, ↓bop_6v, ↓cut_9a, ↓cut_9b, ↓cut_9c, tup3, tup2, v_ti, f_ti, zipD, wp_cc, true_and, decide_true, decide_false, eq_self, sz_0, sz_1, sz_2, sz_3, sz_4, sz_5, sz_6, sz_7, sz_8, sz_9, sz_10, sz_11, sz_12, enm_1, enm_2, enm_3, enm_4, enm_5, enm_6, enm_7, enm_8, enm_9, enm_10, len_1, len_2, len_3, len_4, len_5, len_6, len_7, len_8, len_9, len_10]
  refine ⟨Nat.lt_of_lt_of_le t2 (Nat.pow_le_pow_right (by decide) (by decide)), ⟨by decide, by decide, by decide⟩, ?_⟩
  refine forW_inv (I := fun es σ S' => Pl S' l ∧ (∀ e ∈ es, giv e) ∧ ∃ (acc : List D) (x6 : Option D), cl S' L = some acc ∧ acc.length + es.length = 42 ∧ (∀ d ∈ acc, Gdw d) ∧ σ = [some (.ref l), some (mD m), some (.int kk), some (.int jj), some (vD row), some (.ref L), x6, y7, y8, y9]) ⟨hp, ?_, _, _, e, by rw [lF]; rfl, hF, rfl⟩ ?_ ?_
  · have e29 : (10 : Int) ^ (29 : Int).toNat = 100000000000000000000000000000 := by decide
    rw [e29]
    intro e he
    simp only [List.mem_cons, List.not_mem_nil, or_false] at he
    rcases he with rfl | rfl | rfl | rfl | rfl | rfl | rfl | rfl | rfl | rfl | rfl | rfl | rfl
    · exact gt _ (by decide)
    · exact gt _ (by decide)
    · exact gt _ (by decide)
    · exact gt _ (by omega)
    · exact gt _ (by omega)
    · exact giv_o rfl fun i e => by cases e
    · exact giv_o rfl fun i e => by cases e
    · exact giv_o rfl fun i e => by cases e
    · exact giv_o rfl fun i e => by cases e
    · exact giv_o rfl fun i e => by cases e
    · exact giv_o rfl fun i e => by cases e
    · exact giv_o rfl fun i e => by cases e
    · exact gt _ (by decide)
  · rintro e0 es σ S' ⟨hp', he, acc, x6, ec, el, ha, rfl⟩
    refine ⟨_, rfl, fun K hK => ?_⟩
    simp only [blk_app, mD, ↓ev_v0, ↓ev_v1, ↓ev_v2, ↓ev_v3, ↓ev_v4, ↓ev_v5, ↓ev_v6, ↓ev_v7, ↓ev_v8, ↓ev_v9, ↓ev_v10, ↓ev_v11, ↓ev_v12, ↓ev_v13, ↓ev_v14, ↓ev_v15, ↓ev_v16, ↓ev_v17, ↓ev_v18, ↓ev_v19, ↓ev_v20, ↓ev_v21, ↓ev_v22, ↓ev_v23, ↓ev_cst, ↓ev_glb, ↓ev_bin, ↓ev_neg, ↓ev_not, ↓ev_cmp, ↓ev_cmp2, ↓ev_and, ↓ev_or, ↓ev_ite, ↓ev_tup, ↓ev_lst, ↓ev_idx, ↓ev_slc, ↓ev_call, ↓ev_callk, ↓ev_bi, ↓ev_isi, ↓ev_isi2, ↓ev_lc, ↓ev_lc2, ↓ev_tcat, ↓ev_rng, ↓ev_rng1, ↓ev_zip, ↓ev_enm, ↓ev_cnt, ↓ev_nset, ↓ev_dct, ↓ev_cat, ↓ev_isn, ↓ev_rev, ↓ev_app, ↓evs_nil, ↓evs_cons, ↓evss_nil, ↓evss_f, ↓evss_t, ↓spr_tup, ↓spr_lst, ↓spr_frz, ↓spr_ti, ↓evo_n, ↓evo_s, ↓evt_n, ↓evt_s, ↓ex_set, ↓ex_par, ↓ex_expr, ↓ex_ret, ↓ex_retN, ↓ex_iff, ↓ex_for, ↓ex_whl, ↓ex_raise, ↓ex_pass, ↓ex_brk, ↓ex_cont, ↓exs_nil, ↓exs_cons, ↓tvf, ↓tvt, ↓asB_bl, ↓asI_i, ↓bop_add, ↓bop_sub, ↓bop_mul, ↓bop_fdv, ↓bop_mod, ↓bop_pow, ↓bop_tt, ↓bop_ll, ↓bop_lm, ↓cop_eq, ↓cop_ne, ↓cop_lt, ↓cop_le, ↓cop_gt, ↓cop_ge, ↓cop_eq_rep, ↓cop_ne_rep, ↓cop_eq_tup, ↓cop_ne_tup, ↓cop_eq_lst, ↓cop_ne_lst, ↓cop_eq_str, ↓cop_ne_str, ↓cop_eq_bl, ↓cop_ne_bl, ↓cop_eq_non, ↓cop_ne_non, ↓cop_is_n, ↓cop_is_b, ↓cop_isnot_n, ↓cop_isnot_b, ↓cop_isin_lst, ↓cop_isin_tup, ↓cop_notin_lst, ↓cop_notin_tup, ↓tru_non, ↓tru_bl, ↓tru_int, ↓tru_tup, ↓tru_lst, ↓seq_tup, ↓itm_tup, ↓seq_lst, ↓itm_lst, ↓seq_frz, ↓itm_frz, ↓itm_itr, ↓seq_ref, ↓itm_ref, ↓seq_ti, ↓itm_ti, ↓onO_s, ↓nth_0, ↓nth_1, ↓nth_2, ↓nth_3, ↓nth_4, ↓nth_5, ↓nth_6, ↓nth_7, ↓nth_8, ↓nth_9, ↓nth_10, ↓nth_11, ↓nth_12, ↓bf_len, ↓bf_abs, ↓bf_max, ↓bf_min, ↓bf_int, ↓bf_intb, ↓bf_dm, ↓bf_gcd, ↓bf_all, ↓bf_any, ↓bf_sum, ↓bf_tup, ↓bf_repl, ↓bf_stri, ↓bf_rept, ↓bf_lst, ↓asg_nm, ↓asg_tp, ↓asg_ls, ↓asg_sub, ↓asg_tg, ↓asg_ti, ↓asgs_nil, ↓asgs_cons, ↓mk_f, ↓mk_t, ↓setn_l, ↓setn_r, ↓isn_lst_true, ↓isn_lst_false, ↓isn_tup_true, ↓isn_tup_false, ↓isn_ref_true, ↓isn_ref_false, ↓cnt_t, ↓rev_t, ↓rev_l, ↓rev_ti, ↓onRef_r, ↓two_tt, ↓two_ll, ↓two_tl, ↓two_ti, ↓still_t, ↓still_ti, ↓still_l, ↓cut_tup, ↓cut_lst, ↓cut_frz, ↓cut_ti, ↓bop_titi, ↓cop_eq_ti, ↓cop_ne_ti, non_non, non_int, ty_int_int, ty_bool_int, ty_str_int, ty_tup_int, ty_lst_int, ty_dict_int, non_bl, ty_int_bl, ty_bool_bl, ty_str_bl, ty_tup_bl, ty_lst_bl, ty_dict_bl, non_str, ty_int_str, ty_bool_str, ty_str_str, ty_tup_str, ty_lst_str, ty_dict_str, non_tup, ty_int_tup, ty_bool_tup, ty_str_tup, ty_tup_tup, ty_lst_tup, ty_dict_tup, non_lst, ty_int_lst, ty_bool_lst, ty_str_lst, ty_tup_lst, ty_lst_lst, ty_dict_lst, ty_int_non, ty_int_ti, ty_bool_non, ty_bool_ti, ty_str_non, ty_str_ti, ty_tup_non, ty_tup_ti, ty_lst_non, ty_lst_ti, ty_dict_non, ty_dict_ti, ty_int_rep, ty_int_dic, ty_bool_rep, ty_bool_dic, ty_str_rep, ty_str_dic, ty_tup_rep, ty_tup_dic, ty_lst_rep, ty_lst_dic, ty_dict_rep, ty_dict_dic, ta_tup, ta_lst, ta_ti, ta_int, ta_bl, ta_str, ta_non, st_0, st_1, st_2, st_3, st_4, st_5, st_6, st_7, st_8, st_9, st_10, st_11, st_12, st_13, st_14, st_15, st_16, st_17, st_18, st_19, st_20, st_21, st_22, st_23, bp_nm, bp_tp, bp_ls, bp_ti, bps_nil, bps_nm, sts_nil, sts_cons, rowr_l, rowr_r, cat_d, wp0_nil, wp_0, wp_1, wp_2, wp_3, wp_4, wp_5, wp_6, wp_7, wp_8, wp_9, wp_10, wp_11, wp_12, wp_13, wp_14, wp_15, wp_16, wp_17, wp_18, wp_19, wp_20, wp_21, wp_22, wp_23, rng_1, rng_2, rng_3, rng_4, rng_5, rng_6, rng_7, brkT, brkF, ti1, ti2, ti3, ti4, ti5, ti6, ti_map, eq_ti, pick, List.cons_append, List.nil_append, List.map_cons, List.map_nil, List.getD_cons_zero, List.getD_cons_succ, Bool.not_true, Bool.not_false, ↓seq_v, ↓seq_f, ↓itm_v, ↓itm_f, ↓asg_v, ↓asg_f, bp_v, bp_f, bps_tv, bps_tf, ↓two_vv, ↓two_vt, ↓two_tv, ↓two_ff, ↓still_v, ↓cut_v, ↓cop_eq_v, ↓cop_ne_v, ↓cop_eq_f, ↓cop_ne_f, inD_n, inD_c, pures_c, pures_n, pure_vT, pure_fT, pure_iT, pure_bT, pure_nT, eq_v, eq_f, Bool.or_false, and_self, ↓tru_v, non_v, non_f, ty_v, ty_f, ta_v, ta_f, ↓bop_vv, ↓bop_6v, ↓cut_9a, ↓cut_9b, ↓cut_9c, tup3, tup2, v_ti, f_ti, zipD, wp_cc, true_and, decide_true, decide_false, eq_self, sz_0, sz_1, sz_2, sz_3, sz_4, sz_5, sz_6, sz_7, sz_8, sz_9, sz_10, sz_11, sz_12, enm_1, enm_2, enm_3, enm_4, enm_5, enm_6, enm_7, enm_8, enm_9, enm_10, len_1, len_2, len_3, len_4, len_5, len_6, len_7, len_8, len_9, len_10]
    have l1 : (slice [D.int row.x, D.int row.y, D.int row.z] none (some jj)).length ≤ 3 := slw_len
    have l2 : (slice [D.int row.x, D.int row.y, D.int row.z] (some (jj + 1)) none).length ≤ 3 := slw_len
    have l3 : (slice [vD m.a, vD m.b, vD m.c] none (some kk)).length ≤ 3 := slw_len
    have l4 : (slice [vD m.a, vD m.b, vD m.c] (some (kk + 1)) none).length ≤ 3 := slw_len
    have l5 : acc.length ≤ 41 := by rw [List.length_cons] at el; omega
    have bb2 : bm 200 m := ⟨bv_mono bb.1 (by decide), bv_mono bb.2.1 (by decide), bv_mono bb.2.2 (by decide)⟩
    rw [ec]
    repeat (refine ⟨by simp [SZ]; omega, ?_⟩)
    refine hK _ _ ⟨?_, fun e' h' => he e' (List.mem_cons_of_mem _ h'), _, _, cl_set ec, by rw [List.length_append, List.length_singleton]; rw [List.length_cons] at el; omega, fun d hd => ?_, rfl⟩
    · obtain ⟨a, b, c, e⟩ := hp'
      exact ⟨a, b, c, by rw [cl_ne hL]; exact e⟩
    · rcases List.mem_append.mp hd with hd | hd
      · exact ha d hd
      · rw [List.mem_singleton.mp hd]
        exact put_gdw k0 k1 bb2 (put_gdr j0 j1 (bv_mono br (by decide)) (he e0 List.mem_cons_self))
  · rintro σ S' ⟨hp', he, acc, x6, ec, el, ha, rfl⟩
    simp only [↓ev_v0, ↓ev_v1, ↓ev_v2, ↓ev_v3, ↓ev_v4, ↓ev_v5, ↓ev_v6, ↓ev_v7, ↓ev_v8, ↓ev_v9, ↓ev_v10, ↓ev_v11, ↓ev_v12, ↓ev_v13, ↓ev_v14, ↓ev_v15, ↓ev_v16, ↓ev_v17, ↓ev_v18, ↓ev_v19, ↓ev_v20, ↓ev_v21, ↓ev_v22, ↓ev_v23, ↓ev_cst, ↓ev_glb, ↓ev_bin, ↓ev_neg, ↓ev_not, ↓ev_cmp, ↓ev_cmp2, ↓ev_and, ↓ev_or, ↓ev_ite, ↓ev_tup, ↓ev_lst, ↓ev_idx, ↓ev_slc, ↓ev_call, ↓ev_callk, ↓ev_bi, ↓ev_isi, ↓ev_isi2, ↓ev_lc, ↓ev_lc2, ↓ev_tcat, ↓ev_rng, ↓ev_rng1, ↓ev_zip, ↓ev_enm, ↓ev_cnt, ↓ev_nset, ↓ev_dct, ↓ev_cat, ↓ev_isn, ↓ev_rev, ↓ev_app, ↓evs_nil, ↓evs_cons, ↓evss_nil, ↓evss_f, ↓evss_t, ↓spr_tup, ↓spr_lst, ↓spr_frz, ↓spr_ti, ↓evo_n, ↓evo_s, ↓evt_n, ↓evt_s, ↓ex_set, ↓ex_par, ↓ex_expr, ↓ex_ret, ↓ex_retN, ↓ex_iff, ↓ex_for, ↓ex_whl, ↓ex_raise, ↓ex_pass, ↓ex_brk, ↓ex_cont, ↓exs_nil, ↓exs_cons, ↓tvf, ↓tvt, ↓asB_bl, ↓asI_i, ↓bop_add, ↓bop_sub, ↓bop_mul, ↓bop_fdv, ↓bop_mod, ↓bop_pow, ↓bop_tt, ↓bop_ll, ↓bop_lm, ↓cop_eq, ↓cop_ne, ↓cop_lt, ↓cop_le, ↓cop_gt, ↓cop_ge, ↓cop_eq_rep, ↓cop_ne_rep, ↓cop_eq_tup, ↓cop_ne_tup, ↓cop_eq_lst, ↓cop_ne_lst, ↓cop_eq_str, ↓cop_ne_str, ↓cop_eq_bl, ↓cop_ne_bl, ↓cop_eq_non, ↓cop_ne_non, ↓cop_is_n, ↓cop_is_b, ↓cop_isnot_n, ↓cop_isnot_b, ↓cop_isin_lst, ↓cop_isin_tup, ↓cop_notin_lst, ↓cop_notin_tup, ↓tru_non, ↓tru_bl, ↓tru_int, ↓tru_tup, ↓tru_lst, ↓seq_tup, ↓itm_tup, ↓seq_lst, ↓itm_lst, ↓seq_frz, ↓itm_frz, ↓itm_itr, ↓seq_ref, ↓itm_ref, ↓seq_ti, ↓itm_ti, ↓onO_s, ↓nth_0, ↓nth_1, ↓nth_2, ↓nth_3, ↓nth_4, ↓nth_5, ↓nth_6, ↓nth_7, ↓nth_8, ↓nth_9, ↓nth_10, ↓nth_11, ↓nth_12, ↓bf_len, ↓bf_abs, ↓bf_max, ↓bf_min, ↓bf_int, ↓bf_intb, ↓bf_dm, ↓bf_gcd, ↓bf_all, ↓bf_any, ↓bf_sum, ↓bf_tup, ↓bf_repl, ↓bf_stri, ↓bf_rept, ↓bf_lst, ↓asg_nm, ↓asg_tp, ↓asg_ls, ↓asg_sub, ↓asg_tg, ↓asg_ti, ↓asgs_nil, ↓asgs_cons, ↓mk_f, ↓mk_t, ↓setn_l, ↓setn_r, ↓isn_lst_true, ↓isn_lst_false, ↓isn_tup_true, ↓isn_tup_false, ↓isn_ref_true, ↓isn_ref_false, ↓cnt_t, ↓rev_t, ↓rev_l, ↓rev_ti, ↓onRef_r, ↓two_tt, ↓two_ll, ↓two_tl, ↓two_ti, ↓still_t, ↓still_ti, ↓still_l, ↓cut_tup, ↓cut_lst, ↓cut_frz, ↓cut_ti, ↓bop_titi, ↓cop_eq_ti, ↓cop_ne_ti, non_non, non_int, ty_int_int, ty_bool_int, ty_str_int, ty_tup_int, ty_lst_int, ty_dict_int, non_bl, ty_int_bl, ty_bool_bl, ty_str_bl, ty_tup_bl, ty_lst_bl, ty_dict_bl, non_str, ty_int_str, ty_bool_str, ty_str_str, ty_tup_str, ty_lst_str, ty_dict_str, non_tup, ty_int_tup, ty_bool_tup, ty_str_tup, ty_tup_tup, ty_lst_tup, ty_dict_tup, non_lst, ty_int_lst, ty_bool_lst, ty_str_lst, ty_tup_lst, ty_lst_lst, ty_dict_lst, ty_int_non, ty_int_ti, ty_bool_non, ty_bool_ti, ty_str_non, ty_str_ti, ty_tup_non, ty_tup_ti, ty_lst_non, ty_lst_ti, ty_dict_non, ty_dict_ti, ty_int_rep, ty_int_dic, ty_bool_rep, ty_bool_dic, ty_str_rep, ty_str_dic, ty_tup_rep, ty_tup_dic, ty_lst_rep, ty_lst_dic, ty_dict_rep, ty_dict_dic, ta_tup, ta_lst, ta_ti, ta_int, ta_bl, ta_str, ta_non, st_0, st_1, st_2, st_3, st_4, st_5, st_6, st_7, st_8, st_9, st_10, st_11, st_12, st_13, st_14, st_15, st_16, st_17, st_18, st_19, st_20, st_21, st_22, st_23, bp_nm, bp_tp, bp_ls, bp_ti, bps_nil, bps_nm, sts_nil, sts_cons, rowr_l, rowr_r, cat_d, wp0_nil, wp_0, wp_1, wp_2, wp_3, wp_4, wp_5, wp_6, wp_7, wp_8, wp_9, wp_10, wp_11, wp_12, wp_13, wp_14, wp_15, wp_16, wp_17, wp_18, wp_19, wp_20, wp_21, wp_22, wp_23, rng_1, rng_2, rng_3, rng_4, rng_5, rng_6, rng_7, brkT, brkF, ti1, ti2, ti3, ti4, ti5, ti6, ti_map, eq_ti, pick, List.cons_append, List.nil_append, List.map_cons, List.map_nil, List.getD_cons_zero, List.getD_cons_succ, Bool.not_true, Bool.not_false, ↓seq_v, ↓seq_f, ↓itm_v, ↓itm_f, ↓asg_v, ↓asg_f, bp_v, bp_f, bps_tv, bps_tf, ↓two_vv, ↓two_vt, ↓two_tv, ↓two_ff, ↓still_v, ↓cut_v, ↓cop_eq_v, ↓cop_ne_v, ↓cop_eq_f, ↓cop_ne_f, inD_n, inD_c, pures_c, pures_n, pure_vT, pure_fT, pure_iT, pure_bT, pure_nT, eq_v, eq_f, Bool.or_false, and_self, ↓tru_v, non_v, non_f, ty_v, ty_f, ta_v, ta_f, ↓bop_vv, ↓bop_6v, ↓cut_9a, ↓cut_9b, ↓cut_9c, tup3, tup2, v_ti, f_ti, zipD, wp_cc, true_and, decide_true, decide_false, eq_self, sz_0, sz_1, sz_2, sz_3, sz_4, sz_5, sz_6, sz_7, sz_8, sz_9, sz_10, sz_11, sz_12, enm_1, enm_2, enm_3, enm_4, enm_5, enm_6, enm_7, enm_8, enm_9, enm_10, len_1, len_2, len_3, len_4, len_5, len_6, len_7, len_8, len_9, len_10]
    exact h _ _ _ ec ha (by simp at el; omega) hp'
theorem things_4_14 {L : Nat} {F : List D} {kk jj : Int} {row : T3} {y6 y7 y8 y9 : Option D} (bb : bm 31 m) (br : bv 31 row) (k0 : 0 ≤ kk) (k1 : kk < 3) (j0 : 0 ≤ jj) (j1 : jj < 3) (hF : ∀ d ∈ F, Gdw d) (lF : F.length = 20) (e : cl S L = some F) (hp : Pl S l)
    (h : ∀ (r : Nat) (ds : List D) (S' : Store), cl S' r = some ds → (∀ d ∈ ds, Gdw d) → ds.length ≤ 100 → Pl S' l → k (.ref r) S') :
    exs (CT (n + 2)) X r_law_things_v3_4 [some (.ref l), some (mD m), some (.int kk), some (.int jj), some (vD row), some (.ref L), y6, y7, y8, y9] S { nx := fun x S1 => k D.non S1, rt := k, bk := fun x x_1 => False, ct := fun x x_1 => False } := by
  obtain ⟨v, ev', bv'⟩ := nth_m14 (i := kk - 1) (by omega) (by omega) bb
  have hl : l ≠ S.length := by
    obtain ⟨a, b, c, e⟩ := hp
    rw [cl_get] at e
    exact Nat.ne_of_lt (List.getElem?_eq_some_iff.mp e).1
  simp only [r_law_things_v3_4, ev', e, add_v14, rev_v14, rowR_r, rowR_l, cat_d, seq_m, itm_m, mD, lc_app', fc_cons, fc_nil, ↓ev_v0, ↓ev_v1, ↓ev_v2, ↓ev_v3, ↓ev_v4, ↓ev_v5, ↓ev_v6, ↓ev_v7, ↓ev_v8, ↓ev_v9, ↓ev_v10, ↓ev_v11, ↓ev_v12, ↓ev_v13, ↓ev_v14, ↓ev_v15, ↓ev_v16, ↓ev_v17, ↓ev_v18, ↓ev_v19, ↓ev_v20, ↓ev_v21, ↓ev_v22, ↓ev_v23, ↓ev_cst, ↓ev_glb, ↓ev_bin, ↓ev_neg, ↓ev_not, ↓ev_cmp, ↓ev_cmp2, ↓ev_and, ↓ev_or, ↓ev_ite, ↓ev_tup, ↓ev_lst, ↓ev_idx, ↓ev_slc, ↓ev_call, ↓ev_callk, ↓ev_bi, ↓ev_isi, ↓ev_isi2, ↓ev_lc, ↓ev_lc2, ↓ev_tcat, ↓ev_rng, ↓ev_rng1, ↓ev_zip, ↓ev_enm, ↓ev_cnt, ↓ev_nset, ↓ev_dct, ↓ev_cat, ↓ev_isn, ↓ev_rev, ↓ev_app, ↓evs_nil, ↓evs_cons, ↓evss_nil, ↓evss_f, ↓evss_t, ↓spr_tup, ↓spr_lst, ↓spr_frz, ↓spr_ti, ↓evo_n, ↓evo_s, ↓evt_n, ↓evt_s, ↓ex_set, ↓ex_par, ↓ex_expr, ↓ex_ret, ↓ex_retN, ↓ex_iff, ↓ex_for, ↓ex_whl, ↓ex_raise, ↓ex_pass, ↓ex_brk, ↓ex_cont, ↓exs_nil, ↓exs_cons, ↓tvf, ↓tvt, ↓asB_bl, ↓asI_i, ↓bop_add, ↓bop_sub, ↓bop_mul, ↓bop_fdv, ↓bop_mod, ↓bop_pow, ↓bop_tt, ↓bop_ll, ↓bop_lm, ↓cop_eq, ↓cop_ne, ↓cop_lt, ↓cop_le, ↓cop_gt, ↓cop_ge, ↓cop_eq_rep, ↓cop_ne_rep, ↓cop_eq_tup, ↓cop_ne_tup, ↓cop_eq_lst, ↓cop_ne_lst, ↓cop_eq_str, ↓cop_ne_str, ↓cop_eq_bl, ↓cop_ne_bl, ↓cop_eq_non, ↓cop_ne_non, ↓cop_is_n, ↓cop_is_b, ↓cop_isnot_n, ↓cop_isnot_b, ↓cop_isin_lst, ↓cop_isin_tup, ↓cop_notin_lst, ↓cop_notin_tup, ↓tru_non, ↓tru_bl, ↓tru_int, ↓tru_tup, ↓tru_lst, ↓seq_tup, ↓itm_tup, ↓seq_lst, ↓itm_lst, ↓seq_frz, ↓itm_frz, ↓itm_itr, ↓seq_ref, ↓itm_ref, ↓seq_ti, ↓itm_ti, ↓onO_s, ↓nth_0, ↓nth_1, ↓nth_2, ↓nth_3, ↓nth_4, ↓nth_5, ↓nth_6, ↓nth_7, ↓nth_8, ↓nth_9, ↓nth_10, ↓nth_11, ↓nth_12, ↓bf_len, ↓bf_abs, ↓bf_max, ↓bf_min, ↓bf_int, ↓bf_intb, ↓bf_dm, ↓bf_gcd, ↓bf_all, ↓bf_any, ↓bf_sum, ↓bf_tup, ↓bf_repl, ↓bf_stri, ↓bf_rept, ↓bf_lst, ↓asg_nm, ↓asg_tp, ↓asg_ls, ↓asg_sub, ↓asg_tg, ↓asg_ti, ↓asgs_nil, ↓asgs_cons, ↓mk_f, ↓mk_t, ↓setn_l, ↓setn_r, ↓isn_lst_true, ↓isn_lst_false, ↓isn_tup_true, ↓isn_tup_false, ↓isn_ref_true, ↓isn_ref_false, ↓cnt_t, ↓rev_t, ↓rev_l, ↓rev_ti, ↓onRef_r, ↓two_tt, ↓two_ll, ↓two_tl, ↓two_ti, ↓still_t, ↓still_ti, ↓still_l, ↓cut_tup, ↓cut_lst, ↓cut_frz, ↓cut_ti, ↓bop_titi, ↓cop_eq_ti, ↓cop_ne_ti, non_non, non_int, ty_int_int, ty_bool_int, ty_str_int, ty_tup_int, ty_lst_int, ty_dict_int, non_bl, ty_int_bl, ty_bool_bl, ty_str_bl, ty_tup_bl, ty_lst_bl, ty_dict_bl, non_str, ty_int_str, ty_bool_str, ty_str_str, ty_tup_str, ty_lst_str, ty_dict_str, non_tup, ty_int_tup, ty_bool_tup, ty_str_tup, ty_tup_tup, ty_lst_tup, ty_dict_tup, non_lst, ty_int_lst, ty_bool_lst, ty_str_lst, ty_tup_lst, ty_lst_lst, ty_dict_lst, ty_int_non, ty_int_ti, ty_bool_non, ty_bool_ti, ty_str_non, ty_str_ti, ty_tup_non, ty_tup_ti, ty_lst_non, ty_lst_ti, ty_dict_non, ty_dict_ti, ty_int_rep, ty_int_dic, ty_bool_rep, ty_bool_dic, ty_str_rep, ty_str_dic, ty_tup_rep, ty_tup_dic, ty_lst_rep, ty_lst_dic, ty_dict_rep, ty_dict_dic, ta_tup, ta_lst, ta_ti, ta_int, ta_bl, ta_str, ta_non, st_0, st_1, st_2, st_3, st_4, st_5, st_6, st_7, st_8, st_9, st_10, st_11, st_12, st_13, st_14, st_15, st_16, st_17, st_18, st_19, st_20, st_21, st_22, st_23, bp_nm, bp_tp, bp_ls, bp_ti, bps_nil, bps_nm, sts_nil, sts_cons, rowr_l, rowr_r, cat_d, wp0_nil, wp_0, wp_1, wp_2, wp_3, wp_4, wp_5, wp_6, wp_7, wp_8, wp_9, wp_10, wp_11, wp_12, wp_13, wp_14, wp_15, wp_16, wp_17, wp_18, wp_19, wp_20, wp_21, wp_22, wp_23, rng_1, rng_2, rng_3, rng_4, rng_5, rng_6, rng_7, brkT, brkF, ti1, ti2, ti3, ti4, ti5, ti6, ti_map, eq_ti, pick, List.cons_append, List.nil_append, List.map_cons, List.map_nil, List.getD_cons_zero, List.getD_cons_succ, Bool.not_true, Bool.not_false, ↓seq_v, ↓seq_f, ↓itm_v, ↓itm_f, ↓asg_v, ↓asg_f, bp_v, bp_f, bps_tv, bps_tf, ↓two_vv, ↓two_vt, ↓two_tv, ↓two_ff, ↓still_v, ↓cut_v, ↓cop_eq_v, ↓cop_ne_v, ↓cop_eq_f, ↓cop_ne_f, inD_n, inD_c, pures_c, pures_n, pure_vT, pure_fT, pure_iT, pure_bT, pure_nT, eq_v, eq_f, Bool.or_false, and_self, ↓tru_v, non_v, non_f, ty_v, ty_f, ta_v, ta_f, ↓bop_vv, ↓bop_6v, ↓cut_9a, ↓cut_9b, ↓cut_9c, tup3, tup2, v_ti, f_ti, zipD, wp_cc, true_and, decide_true, decide_false, eq_self, sz_0, sz_1, sz_2, sz_3, sz_4, sz_5, sz_6, sz_7, sz_8, sz_9, sz_10, sz_11, sz_12, enm_1, enm_2, enm_3, enm_4, enm_5, enm_6, enm_7, enm_8, enm_9, enm_10, len_1, len_2, len_3, len_4, len_5, len_6, len_7, len_8, len_9, len_10]
  have l3 : (slice [vD m.a, vD m.b, vD m.c] none (some kk)).length ≤ 3 := slw_len
  have l4 : (slice [vD m.a, vD m.b, vD m.c] (some (kk + 1)) none).length ≤ 3 := slw_len
  have bb2 : bm 200 m := ⟨bv_mono bb.1 (by decide), bv_mono bb.2.1 (by decide), bv_mono bb.2.2 (by decide)⟩
  have br2 := bv_mono (m := 200) br (by decide)
  have bv2 := bv_mono (m := 200) bv' (by decide)
  repeat (refine ⟨by simp [SZ]; try omega, ?_⟩)
  have hp2 : ∀ ds, Pl (S ++ [ds]) l := fun ds => by
    obtain ⟨a, b, c, e⟩ := hp
    exact ⟨a, b, c, cl_old e⟩
  refine things_end14 bb br k0 k1 j0 j1 (fun d hd => ?_) (by rw [List.length_append, lF]; rfl) cl_new (hp2 _) hl h
  rcases List.mem_append.mp hd with hd | hd
  · exact hF d hd
  simp only [List.mem_cons, List.not_mem_nil, or_false] at hd
  rcases hd with rfl | rfl | rfl | rfl | rfl | rfl | rfl | rfl | rfl
  · exact put_gdw k0 k1 bb2 (gdr_o rfl (fun i e => by cases e) rfl)
  · refine put_gdw k0 k1 bb2 ⟨gdv_t (Nat.le_trans slw_len (by show 3 ≤ 20; decide)) fun x hx => giv_v br2 x (slw_mem hx), .inr (pures_of fun x hx => ?_)⟩
    have := slw_mem hx
    simp only [List.mem_cons, List.not_mem_nil, or_false] at this
    rcases this with rfl | rfl | rfl <;> rfl
  · refine put_gdw k0 k1 bb2 ⟨gdv_t (by show 4 ≤ 20; decide) fun x hx => ?_, .inr (by rfl)⟩
    rcases List.mem_append.mp (show x ∈ [D.int row.x, D.int row.y, D.int row.z] ++ [D.int 0] from hx) with hx | hx
    · exact giv_v br2 x hx
    · rw [List.mem_singleton.mp hx]; exact giv_int (by decide)
  · exact put_gdw k0 k1 bb2 (gdr_o rfl (fun i e => by cases e) rfl)
  · exact put_gdw k0 k1 bb2 (gdr_v (by decide))
  · exact put_gdw k0 k1 bb2 (gdr_o rfl (fun i e => by cases e) rfl)
  · exact put_gdw k0 k1 bb2 (gdr_o rfl (fun i e => by cases e) (by decide +kernel))
  · exact put_gdw k0 k1 bb2 (gdr_v bv2)
  · exact put_gdw k0 k1 bb2 (gdr_v ⟨br2.2.2, br2.2.1, br2.1⟩)
theorem things_3_14 {L : Nat} {F : List D} {kk jj : Int} {row : T3} {y6 y7 y8 y9 : Option D} (bb : bm 31 m) (br : bv 31 row) (k0 : 0 ≤ kk) (k1 : kk < 3) (j0 : 0 ≤ jj) (j1 : jj < 3) (hF : ∀ d ∈ F, Gdw d) (lF : F.length = 14) (e : cl S L = some F) (hp : Pl S l)
    (h : ∀ (r : Nat) (ds : List D) (S' : Store), cl S' r = some ds → (∀ d ∈ ds, Gdw d) → ds.length ≤ 100 → Pl S' l → k (.ref r) S') :
    exs (CT (n + 2)) X r_law_things_v3_3 [some (.ref l), some (mD m), some (.int kk), some (.int jj), some (vD row), some (.ref L), y6, y7, y8, y9] S { nx := fun x S1 => k D.non S1, rt := k, bk := fun x x_1 => False, ct := fun x x_1 => False } := by
  simp only [r_law_things_v3_3, e, rowR_r, rowR_l, cat_d, seq_m, itm_m, mD, lc_app', fc_cons, fc_nil, ↓ev_v0, ↓ev_v1, ↓ev_v2, ↓ev_v3, ↓ev_v4, ↓ev_v5, ↓ev_v6, ↓ev_v7, ↓ev_v8, ↓ev_v9, ↓ev_v10, ↓ev_v11, ↓ev_v12, ↓ev_v13, ↓ev_v14, ↓ev_v15, ↓ev_v16, ↓ev_v17, ↓ev_v18, ↓ev_v19, ↓ev_v20, ↓ev_v21, ↓ev_v22, ↓ev_v23, ↓ev_cst, ↓ev_glb, ↓ev_bin, ↓ev_neg, ↓ev_not, ↓ev_cmp, ↓ev_cmp2, ↓ev_and, ↓ev_or, ↓ev_ite, ↓ev_tup, ↓ev_lst, ↓ev_idx, ↓ev_slc, ↓ev_call, ↓ev_callk, ↓ev_bi, ↓ev_isi, ↓ev_isi2, ↓ev_lc, ↓ev_lc2, ↓ev_tcat, ↓ev_rng, ↓ev_rng1, ↓ev_zip, ↓ev_enm, ↓ev_cnt, ↓ev_nset, ↓ev_dct, ↓ev_cat, ↓ev_isn, ↓ev_rev, ↓ev_app, ↓evs_nil, ↓evs_cons, ↓evss_nil, ↓evss_f, ↓evss_t, ↓spr_tup, ↓spr_lst, ↓spr_frz, ↓spr_ti, ↓evo_n, ↓evo_s, ↓evt_n, ↓evt_s, ↓ex_set, ↓ex_par, ↓ex_expr, ↓ex_ret, ↓ex_retN, ↓ex_iff, ↓ex_for, ↓ex_whl, ↓ex_raise, ↓ex_pass, ↓ex_brk, ↓ex_cont, ↓exs_nil, ↓exs_cons, ↓tvf, ↓tvt, ↓asB_bl, ↓asI_i, ↓bop_add, ↓bop_sub, ↓bop_mul, ↓bop_fdv, ↓bop_mod, ↓bop_pow, ↓bop_tt, ↓bop_ll, ↓bop_lm, ↓cop_eq, ↓cop_ne, ↓cop_lt, ↓cop_le, ↓cop_gt, ↓cop_ge, ↓cop_eq_rep, ↓cop_ne_rep, ↓cop_eq_tup, ↓cop_ne_tup, ↓cop_eq_lst, ↓cop_ne_lst, ↓cop_eq_str, ↓cop_ne_str, ↓cop_eq_bl, ↓cop_ne_bl, ↓cop_eq_non, ↓cop_ne_non, ↓cop_is_n, ↓cop_is_b, ↓cop_isnot_n, ↓cop_isnot_b, ↓cop_isin_lst, ↓cop_isin_tup, ↓cop_notin_lst, ↓cop_notin_tup, ↓tru_non, ↓tru_bl, ↓tru_int, ↓tru_tup, ↓tru_lst, ↓seq_tup, ↓itm_tup, ↓seq_lst, ↓itm_lst, ↓seq_frz, ↓itm_frz, ↓itm_itr, ↓seq_ref, ↓itm_ref, ↓seq_ti, ↓itm_ti, ↓onO_s, ↓nth_0, ↓nth_1, ↓nth_2, ↓nth_3, ↓nth_4, ↓nth_5, ↓nth_6, ↓nth_7, ↓nth_8, ↓nth_9, ↓nth_10, ↓nth_11, ↓nth_12, ↓bf_len, ↓bf_abs, ↓bf_max, ↓bf_min, ↓bf_int, ↓bf_intb, ↓bf_dm, ↓bf_gcd, ↓bf_all, ↓bf_any, ↓bf_sum, ↓bf_tup, ↓bf_repl, ↓bf_stri, ↓bf_rept, ↓bf_lst, ↓asg_nm, ↓asg_tp, ↓asg_ls, ↓asg_sub, ↓asg_tg, ↓asg_ti, ↓asgs_nil, ↓asgs_cons, ↓mk_f, ↓mk_t, ↓setn_l, ↓setn_r, ↓isn_lst_true, ↓isn_lst_false, ↓isn_tup_true, ↓isn_tup_false, ↓isn_ref_true, ↓isn_ref_false, ↓cnt_t, ↓rev_t, ↓rev_l, ↓rev_ti, ↓onRef_r, ↓two_tt, ↓two_ll, ↓two_tl, ↓two_ti, ↓still_t, ↓still_ti, ↓still_l, ↓cut_tup, ↓cut_lst, ↓cut_frz, ↓cut_ti, ↓bop_titi, ↓cop_eq_ti, ↓cop_ne_ti, non_non, non_int, ty_int_int, ty_bool_int, ty_str_int, ty_tup_int, ty_lst_int, ty_dict_int, non_bl, ty_int_bl, ty_bool_bl, ty_str_bl, ty_tup_bl, ty_lst_bl, ty_dict_bl, non_str, ty_int_str, ty_bool_str, ty_str_str, ty_tup_str, ty_lst_str, ty_dict_str, non_tup, ty_int_tup, ty_bool_tup, ty_str_tup, ty_tup_tup, ty_lst_tup, ty_dict_tup, non_lst, ty_int_lst, ty_bool_lst, ty_str_lst, ty_tup_lst, ty_lst_lst, ty_dict_lst, ty_int_non, ty_int_ti, ty_bool_non, ty_bool_ti, ty_str_non, ty_str_ti, ty_tup_non, ty_tup_ti, ty_lst_non, ty_lst_ti, ty_dict_non, ty_dict_ti, ty_int_rep, ty_int_dic, ty_bool_rep, ty_bool_dic, ty_str_rep, ty_str_dic, ty_tup_rep, ty_tup_dic, ty_lst_rep, ty_lst_dic, ty_dict_rep, ty_dict_dic, ta_tup, ta_lst, ta_ti, ta_int, ta_bl, ta_str, ta_non, st_0, st_1, st_2, st_3, st_4, st_5, st_6, st_7, st_8, st_9, st_10, st_11, st_12, st_13, st_14, st_15, st_16, st_17, st_18, st_19, st_20, st_21, st_22, st_23, bp_nm, bp_tp, bp_ls, bp_ti, bps_nil, bps_nm, sts_nil, sts_cons, rowr_l, rowr_r, cat_d, wp0_nil, wp_0, wp_1, wp_2, wp_3, wp_4, wp_5, wp_6, wp_7, wp_8, wp_9, wp_10, wp_11, wp_12, wp_13, wp_14, wp_15, wp_16, wp_17, wp_18, wp_19, wp_20, wp_21, wp_22, wp_23, rng_1, rng_2, rng_3, rng_4, rng_5, rng_6, rng_7, brkT, brkF, ti1, ti2, ti3, ti4, ti5, ti6, ti_map, eq_ti, pick, List.cons_append, List.nil_append, List.map_cons, List.map_nil, List.getD_cons_zero, List.getD_cons_succ, Bool.not_true, Bool.not_false, ↓seq_v, ↓seq_f, ↓itm_v, ↓itm_f, ↓asg_v, ↓asg_f, bp_v, bp_f, bps_tv, bps_tf, ↓two_vv, ↓two_vt, ↓two_tv, ↓two_ff, ↓still_v, ↓cut_v, ↓cop_eq_v, ↓cop_ne_v, ↓cop_eq_f, ↓cop_ne_f, inD_n, inD_c, pures_c, pures_n, pure_vT, pure_fT, pure_iT, pure_bT, pure_nT, eq_v, eq_f, Bool.or_false, and_self, ↓tru_v, non_v, non_f, ty_v, ty_f, ta_v, ta_f, ↓bop_vv, ↓bop_6v, ↓cut_9a, ↓cut_9b, ↓cut_9c, tup3, tup2, v_ti, f_ti, zipD, wp_cc, true_and, decide_true, decide_false, eq_self, sz_0, sz_1, sz_2, sz_3, sz_4, sz_5, sz_6, sz_7, sz_8, sz_9, sz_10, sz_11, sz_12, enm_1, enm_2, enm_3, enm_4, enm_5, enm_6, enm_7, enm_8, enm_9, enm_10, len_1, len_2, len_3, len_4, len_5, len_6, len_7, len_8, len_9, len_10]
  have mo : ∀ i j : Int, -(2 ^ 64) < i → i < 2 ^ 64 → mulOk i j := fun i j h1 h2 => .inl ⟨h1, h2⟩
  repeat (refine ⟨mo _ _ (by decide) (by decide), ?_⟩)
  refine ⟨by simp [SZ]; omega, by decide, by simp [SZ]; omega, ?_⟩
  have hp2 : ∀ ds, Pl (S ++ [ds]) l := fun ds => by
    obtain ⟨a, b, c, e⟩ := hp
    exact ⟨a, b, c, cl_old e⟩
  have b5 : ∀ i : Int, bt 4 i → ∀ u : T3, bv 31 u → bv 200 (⟨i * u.x, i * u.y, i * u.z⟩ : T3) := fun i hi u hu => bv_mono (bv_sm (c := i) (n := 4) (m := 31) hi hu) (by decide)
  have g5 : ∀ i : Int, bt 4 i → Gdw (.tup [vD ⟨i * m.a.x, i * m.a.y, i * m.a.z⟩, vD ⟨i * m.b.x, i * m.b.y, i * m.b.z⟩, vD ⟨i * m.c.x, i * m.c.y, i * m.c.z⟩]) := fun i hi => gdw_t (by show 3 ≤ 20; decide) (gdr_3 (b5 i hi _ bb.1) (b5 i hi _ bb.2.1) (b5 i hi _ bb.2.2))
  have bb2 : bm 200 m := ⟨bv_mono bb.1 (by decide), bv_mono bb.2.1 (by decide), bv_mono bb.2.2 (by decide)⟩
  refine things_4_14 bb br k0 k1 j0 j1 (fun d hd => ?_) (by rw [List.length_append, List.length_append, lF]; rfl) cl_new (hp2 _) h
  rcases List.mem_append.mp hd with hd | hd
  · rcases List.mem_append.mp hd with hd | hd
    · exact hF d hd
    simp only [List.mem_cons, List.not_mem_nil, or_false] at hd
    rcases hd with rfl | rfl | rfl | rfl | rfl
    · exact g5 (-3) (by decide)
    · exact g5 (-2) (by decide)
    · exact g5 (-1) (by decide)
    · exact g5 2 (by decide)
    · exact g5 3 (by decide)
  · rw [List.mem_singleton.mp hd]
    exact gdw_t (by show 3 ≤ 20; decide) (gdr_3 ⟨bb2.1.1, bb2.2.1.1, bb2.2.2.1⟩ ⟨bb2.1.2.1, bb2.2.1.2.1, bb2.2.2.2.1⟩ ⟨bb2.1.2.2, bb2.2.1.2.2, bb2.2.2.2.2⟩)
theorem s_things14 (hp : Pl S l) (bb : bm 31 m) (h : ∀ (r : Nat) (ds : List D) (S' : Store), cl S' r = some ds → (∀ d ∈ ds, Gdw d) → ds.length ≤ 100 → Pl S' l → k (.ref r) S') : CT (n + 3) i_law_things_v3 [.ref l, mD m] S k X := by
  refine c_law_things_v3 ?_
  simp only [rb_law_things_v3, r_law_things_v3_0, ↓ev_v0, ↓ev_v1, ↓ev_v2, ↓ev_v3, ↓ev_v4, ↓ev_v5, ↓ev_v6, ↓ev_v7, ↓ev_v8, ↓ev_v9, ↓ev_v10, ↓ev_v11, ↓ev_v12, ↓ev_v13, ↓ev_v14, ↓ev_v15, ↓ev_v16, ↓ev_v17, ↓ev_v18, ↓ev_v19, ↓ev_v20, ↓ev_v21, ↓ev_v22, ↓ev_v23, ↓ev_cst, ↓ev_glb, ↓ev_bin, ↓ev_neg, ↓ev_not, ↓ev_cmp, ↓ev_cmp2, ↓ev_and, ↓ev_or, ↓ev_ite, ↓ev_tup, ↓ev_lst, ↓ev_idx, ↓ev_slc, ↓ev_call, ↓ev_callk, ↓ev_bi, ↓ev_isi, ↓ev_isi2, ↓ev_lc, ↓ev_lc2, ↓ev_tcat, ↓ev_rng, ↓ev_rng1, ↓ev_zip, ↓ev_enm, ↓ev_cnt, ↓ev_nset, ↓ev_dct, ↓ev_cat, ↓ev_isn, ↓ev_rev, ↓ev_app, ↓evs_nil, ↓evs_cons, ↓evss_nil, ↓evss_f, ↓evss_t, ↓spr_tup, ↓spr_lst, ↓spr_frz, ↓spr_ti, ↓evo_n, ↓evo_s, ↓evt_n, ↓evt_s, ↓ex_set, ↓ex_par, ↓ex_expr, ↓ex_ret, ↓ex_retN, ↓ex_iff, ↓ex_for, ↓ex_whl, ↓ex_raise, ↓ex_pass, ↓ex_brk, ↓ex_cont, ↓exs_nil, ↓exs_cons, ↓tvf, ↓tvt, ↓asB_bl, ↓asI_i, ↓bop_add, ↓bop_sub, ↓bop_mul, ↓bop_fdv, ↓bop_mod, ↓bop_pow, ↓bop_tt, ↓bop_ll, ↓bop_lm, ↓cop_eq, ↓cop_ne, ↓cop_lt, ↓cop_le, ↓cop_gt, ↓cop_ge, ↓cop_eq_rep, ↓cop_ne_rep, ↓cop_eq_tup, ↓cop_ne_tup, ↓cop_eq_lst, ↓cop_ne_lst, ↓cop_eq_str, ↓cop_ne_str, ↓cop_eq_bl, ↓cop_ne_bl, ↓cop_eq_non, ↓cop_ne_non, ↓cop_is_n, ↓cop_is_b, ↓cop_isnot_n, ↓cop_isnot_b, ↓cop_isin_lst, ↓cop_isin_tup, ↓cop_notin_lst, ↓cop_notin_tup, ↓tru_non, ↓tru_bl, ↓tru_int, ↓tru_tup, ↓tru_lst, ↓seq_tup, ↓itm_tup, ↓seq_lst, ↓itm_lst, ↓seq_frz, ↓itm_frz, ↓itm_itr, ↓seq_ref, ↓itm_ref, ↓seq_ti, ↓itm_ti, ↓onO_s, ↓nth_0, ↓nth_1, ↓nth_2, ↓nth_3, ↓nth_4, ↓nth_5, ↓nth_6, ↓nth_7, ↓nth_8, ↓nth_9, ↓nth_10, ↓nth_11, ↓nth_12, ↓bf_len, ↓bf_abs, ↓bf_max, ↓bf_min, ↓bf_int, ↓bf_intb, ↓bf_dm, ↓bf_gcd, ↓bf_all, ↓bf_any, ↓bf_sum, ↓bf_tup, ↓bf_repl, ↓bf_stri, ↓bf_rept, ↓bf_lst, ↓asg_nm, ↓asg_tp, ↓asg_ls, ↓asg_sub, ↓asg_tg, ↓asg_ti, ↓asgs_nil, ↓asgs_cons, ↓mk_f, ↓mk_t, ↓setn_l, ↓setn_r, ↓isn_lst_true, ↓isn_lst_false, ↓isn_tup_true, ↓isn_tup_false, ↓isn_ref_true, ↓isn_ref_false, ↓cnt_t, ↓rev_t, ↓rev_l, ↓rev_ti, ↓onRef_r, ↓two_tt, ↓two_ll, ↓two_tl, ↓two_ti, ↓still_t, ↓still_ti, ↓still_l, ↓cut_tup, ↓cut_lst, ↓cut_frz, ↓cut_ti, ↓bop_titi, ↓cop_eq_ti, ↓cop_ne_ti, non_non, non_int, ty_int_int, ty_bool_int, ty_str_int, ty_tup_int, ty_lst_int, ty_dict_int, non_bl, ty_int_bl, ty_bool_bl, ty_str_bl, ty_tup_bl, ty_lst_bl, ty_dict_bl, non_str, ty_int_str, ty_bool_str, ty_str_str, ty_tup_str, ty_lst_str, ty_dict_str, non_tup, ty_int_tup, ty_bool_tup, ty_str_tup, ty_tup_tup, ty_lst_tup, ty_dict_tup, non_lst, ty_int_lst, ty_bool_lst, ty_str_lst, ty_tup_lst, ty_lst_lst, ty_dict_lst, ty_int_non, ty_int_ti, ty_bool_non, ty_bool_ti, ty_str_non, ty_str_ti, ty_tup_non, ty_tup_ti, ty_lst_non, ty_lst_ti, ty_dict_non, ty_dict_ti, ty_int_rep, ty_int_dic, ty_bool_rep, ty_bool_dic, ty_str_rep, ty_str_dic, ty_tup_rep, ty_tup_dic, ty_lst_rep, ty_lst_dic, ty_dict_rep, ty_dict_dic, ta_tup, ta_lst, ta_ti, ta_int, ta_bl, ta_str, ta_non, st_0, st_1, st_2, st_3, st_4, st_5, st_6, st_7, st_8, st_9, st_10, st_11, st_12, st_13, st_14, st_15, st_16, st_17, st_18, st_19, st_20, st_21, st_22, st_23, bp_nm, bp_tp, bp_ls, bp_ti, bps_nil, bps_nm, sts_nil, sts_cons, rowr_l, rowr_r, cat_d, wp0_nil, wp_0, wp_1, wp_2, wp_3, wp_4, wp_5, wp_6, wp_7, wp_8, wp_9, wp_10, wp_11, wp_12, wp_13, wp_14, wp_15, wp_16, wp_17, wp_18, wp_19, wp_20, wp_21, wp_22, wp_23, rng_1, rng_2, rng_3, rng_4, rng_5, rng_6, rng_7, brkT, brkF, ti1, ti2, ti3, ti4, ti5, ti6, ti_map, eq_ti, pick, List.cons_append, List.nil_append, List.map_cons, List.map_nil, List.getD_cons_zero, List.getD_cons_succ, Bool.not_true, Bool.not_false, ↓seq_v, ↓seq_f, ↓itm_v, ↓itm_f, ↓asg_v, ↓asg_f, bp_v, bp_f, bps_tv, bps_tf, ↓two_vv, ↓two_vt, ↓two_tv, ↓two_ff, ↓still_v, ↓cut_v, ↓cop_eq_v, ↓cop_ne_v, ↓cop_eq_f, ↓cop_ne_f, inD_n, inD_c, pures_c, pures_n, pure_vT, pure_fT, pure_iT, pure_bT, pure_nT, eq_v, eq_f, Bool.or_false, and_self, ↓tru_v, non_v, non_f, ty_v, ty_f, ta_v, ta_f, ↓bop_vv, ↓bop_6v, ↓cut_9a, ↓cut_9b, ↓cut_9c, tup3, tup2, v_ti, f_ti, zipD, wp_cc, true_and, decide_true, decide_false, eq_self, sz_0, sz_1, sz_2, sz_3, sz_4, sz_5, sz_6, sz_7, sz_8, sz_9, sz_10, sz_11, sz_12, enm_1, enm_2, enm_3, enm_4, enm_5, enm_6, enm_7, enm_8, enm_9, enm_10, len_1, len_2, len_3, len_4, len_5, len_6, len_7, len_8, len_9, len_10]
  refine s_law_draw_k14 hp (by decide) (by decide +kernel) fun kk S1 k0 k1 d1 => ?_
  refine s_law_draw_k14 d1.pl (by decide) (by decide +kernel) fun jj S2 j0 j1 d2 => ?_
  try walk_at "fx"
  obtain ⟨row, er, br⟩ := nth_m14 (by omega) k1 bb
  simp only [r_law_things_v3_1, seq_m, itm_m, mD, er, ↓ev_v0, ↓ev_v1, ↓ev_v2, ↓ev_v3, ↓ev_v4, ↓ev_v5, ↓ev_v6, ↓ev_v7, ↓ev_v8, ↓ev_v9, ↓ev_v10, ↓ev_v11, ↓ev_v12, ↓ev_v13, ↓ev_v14, ↓ev_v15, ↓ev_v16, ↓ev_v17, ↓ev_v18, ↓ev_v19, ↓ev_v20, ↓ev_v21, ↓ev_v22, ↓ev_v23, ↓ev_cst, ↓ev_glb, ↓ev_bin, ↓ev_neg, ↓ev_not, ↓ev_cmp, ↓ev_cmp2, ↓ev_and, ↓ev_or, ↓ev_ite, ↓ev_tup, ↓ev_lst, ↓ev_idx, ↓ev_slc, ↓ev_call, ↓ev_callk, ↓ev_bi, ↓ev_isi, ↓ev_isi2, ↓ev_lc, ↓ev_lc2, ↓ev_tcat, ↓ev_rng, ↓ev_rng1, ↓ev_zip, ↓ev_enm, ↓ev_cnt, ↓ev_nset, ↓ev_dct, ↓ev_cat, ↓ev_isn, ↓ev_rev, ↓ev_app, ↓evs_nil, ↓evs_cons, ↓evss_nil, ↓evss_f, ↓evss_t, ↓spr_tup, ↓spr_lst, ↓spr_frz, ↓spr_ti, ↓evo_n, ↓evo_s, ↓evt_n, ↓evt_s, ↓ex_set, ↓ex_par, ↓ex_expr, ↓ex_ret, ↓ex_retN, ↓ex_iff, ↓ex_for, ↓ex_whl, ↓ex_raise, ↓ex_pass, ↓ex_brk, ↓ex_cont, ↓exs_nil, ↓exs_cons, ↓tvf, ↓tvt, ↓asB_bl, ↓asI_i, ↓bop_add, ↓bop_sub, ↓bop_mul, ↓bop_fdv, ↓bop_mod, ↓bop_pow, ↓bop_tt, ↓bop_ll, ↓bop_lm, ↓cop_eq, ↓cop_ne, ↓cop_lt, ↓cop_le, ↓cop_gt, ↓cop_ge, ↓cop_eq_rep, ↓cop_ne_rep, ↓cop_eq_tup, ↓cop_ne_tup, ↓cop_eq_lst, ↓cop_ne_lst, ↓cop_eq_str, ↓cop_ne_str, ↓cop_eq_bl, ↓cop_ne_bl, ↓cop_eq_non, ↓cop_ne_non, ↓cop_is_n, ↓cop_is_b, ↓cop_isnot_n, ↓cop_isnot_b, ↓cop_isin_lst, ↓cop_isin_tup, ↓cop_notin_lst, ↓cop_notin_tup, ↓tru_non, ↓tru_bl, ↓tru_int, ↓tru_tup, ↓tru_lst, ↓seq_tup, ↓itm_tup, ↓seq_lst, ↓itm_lst, ↓seq_frz, ↓itm_frz, ↓itm_itr, ↓seq_ref, ↓itm_ref, ↓seq_ti, ↓itm_ti, ↓onO_s, ↓nth_0, ↓nth_1, ↓nth_2, ↓nth_3, ↓nth_4, ↓nth_5, ↓nth_6, ↓nth_7, ↓nth_8, ↓nth_9, ↓nth_10, ↓nth_11, ↓nth_12, ↓bf_len, ↓bf_abs, ↓bf_max, ↓bf_min, ↓bf_int, ↓bf_intb, ↓bf_dm, ↓bf_gcd, ↓bf_all, ↓bf_any, ↓bf_sum, ↓bf_tup, ↓bf_repl, ↓bf_stri, ↓bf_rept, ↓bf_lst, ↓asg_nm, ↓asg_tp, ↓asg_ls, ↓asg_sub, ↓asg_tg, ↓asg_ti, ↓asgs_nil, ↓asgs_cons, ↓mk_f, ↓mk_t, ↓setn_l, ↓setn_r, ↓isn_lst_true, ↓isn_lst_false, ↓isn_tup_true, ↓isn_tup_false, ↓isn_ref_true, ↓isn_ref_false, ↓cnt_t, ↓rev_t, ↓rev_l, ↓rev_ti, ↓onRef_r, ↓two_tt, ↓two_ll, ↓two_tl, ↓two_ti, ↓still_t, ↓still_ti, ↓still_l, ↓cut_tup, ↓cut_lst, ↓cut_frz, ↓cut_ti, ↓bop_titi, ↓cop_eq_ti, ↓cop_ne_ti, non_non, non_int, ty_int_int, ty_bool_int, ty_str_int, ty_tup_int, ty_lst_int, ty_dict_int, non_bl, ty_int_bl, ty_bool_bl, ty_str_bl, ty_tup_bl, ty_lst_bl, ty_dict_bl, non_str, ty_int_str, ty_bool_str, ty_str_str, ty_tup_str, ty_lst_str, ty_dict_str, non_tup, ty_int_tup, ty_bool_tup, ty_str_tup, ty_tup_tup, ty_lst_tup, ty_dict_tup, non_lst, ty_int_lst, ty_bool_lst, ty_str_lst, ty_tup_lst, ty_lst_lst, ty_dict_lst, ty_int_non, ty_int_ti, ty_bool_non, ty_bool_ti, ty_str_non, ty_str_ti, ty_tup_non, ty_tup_ti, ty_lst_non, ty_lst_ti, ty_dict_non, ty_dict_ti, ty_int_rep, ty_int_dic, ty_bool_rep, ty_bool_dic, ty_str_rep, ty_str_dic, ty_tup_rep, ty_tup_dic, ty_lst_rep, ty_lst_dic, ty_dict_rep, ty_dict_dic, ta_tup, ta_lst, ta_ti, ta_int, ta_bl, ta_str, ta_non, st_0, st_1, st_2, st_3, st_4, st_5, st_6, st_7, st_8, st_9, st_10, st_11, st_12, st_13, st_14, st_15, st_16, st_17, st_18, st_19, st_20, st_21, st_22, st_23, bp_nm, bp_tp, bp_ls, bp_ti, bps_nil, bps_nm, sts_nil, sts_cons, rowr_l, rowr_r, cat_d, wp0_nil, wp_0, wp_1, wp_2, wp_3, wp_4, wp_5, wp_6, wp_7, wp_8, wp_9, wp_10, wp_11, wp_12, wp_13, wp_14, wp_15, wp_16, wp_17, wp_18, wp_19, wp_20, wp_21, wp_22, wp_23, rng_1, rng_2, rng_3, rng_4, rng_5, rng_6, rng_7, brkT, brkF, ti1, ti2, ti3, ti4, ti5, ti6, ti_map, eq_ti, pick, List.cons_append, List.nil_append, List.map_cons, List.map_nil, List.getD_cons_zero, List.getD_cons_succ, Bool.not_true, Bool.not_false, ↓seq_v, ↓seq_f, ↓itm_v, ↓itm_f, ↓asg_v, ↓asg_f, bp_v, bp_f, bps_tv, bps_tf, ↓two_vv, ↓two_vt, ↓two_tv, ↓two_ff, ↓still_v, ↓cut_v, ↓cop_eq_v, ↓cop_ne_v, ↓cop_eq_f, ↓cop_ne_f, inD_n, inD_c, pures_c, pures_n, pure_vT, pure_fT, pure_iT, pure_bT, pure_nT, eq_v, eq_f, Bool.or_false, and_self, ↓tru_v, non_v, non_f, ty_v, ty_f, ta_v, ta_f, ↓bop_vv, ↓bop_6v, ↓cut_9a, ↓cut_9b, ↓cut_9c, tup3, tup2, v_ti, f_ti, zipD, wp_cc, true_and, decide_true, decide_false, eq_self, sz_0, sz_1, sz_2, sz_3, sz_4, sz_5, sz_6, sz_7, sz_8, sz_9, sz_10, sz_11, sz_12, enm_1, enm_2, enm_3, enm_4, enm_5, enm_6, enm_7, enm_8, enm_9, enm_10, len_1, len_2, len_3, len_4, len_5, len_6, len_7, len_8, len_9, len_10]
  simp only [r_law_things_v3_2, add_v14, rev_v14, lc_app', fc_cons, fc_nil, seq_m, itm_m, mD, er, ↓ev_v0, ↓ev_v1, ↓ev_v2, ↓ev_v3, ↓ev_v4, ↓ev_v5, ↓ev_v6, ↓ev_v7, ↓ev_v8, ↓ev_v9, ↓ev_v10, ↓ev_v11, ↓ev_v12, ↓ev_v13, ↓ev_v14, ↓ev_v15, ↓ev_v16, ↓ev_v17, ↓ev_v18, ↓ev_v19, ↓ev_v20, ↓ev_v21, ↓ev_v22, ↓ev_v23, ↓ev_cst, ↓ev_glb, ↓ev_bin, ↓ev_neg, ↓ev_not, ↓ev_cmp, ↓ev_cmp2, ↓ev_and, ↓ev_or, ↓ev_ite, ↓ev_tup, ↓ev_lst, ↓ev_idx, ↓ev_slc, ↓ev_call, ↓ev_callk, ↓ev_bi, ↓ev_isi, ↓ev_isi2, ↓ev_lc, ↓ev_lc2, ↓ev_tcat, ↓ev_rng, ↓ev_rng1, ↓ev_zip, ↓ev_enm, ↓ev_cnt, ↓ev_nset, ↓ev_dct, ↓ev_cat, ↓ev_isn, ↓ev_rev, ↓ev_app, ↓evs_nil, ↓evs_cons, ↓evss_nil, ↓evss_f, ↓evss_t, ↓spr_tup, ↓spr_lst, ↓spr_frz, ↓spr_ti, ↓evo_n, ↓evo_s, ↓evt_n, ↓evt_s, ↓ex_set, ↓ex_par, ↓ex_expr, ↓ex_ret, ↓ex_retN, ↓ex_iff, ↓ex_for, ↓ex_whl, ↓ex_raise, ↓ex_pass, ↓ex_brk, ↓ex_cont, ↓exs_nil, ↓exs_cons, ↓tvf, ↓tvt, ↓asB_bl, ↓asI_i, ↓bop_add, ↓bop_sub, ↓bop_mul, ↓bop_fdv, ↓bop_mod, ↓bop_pow, ↓bop_tt, ↓bop_ll, ↓bop_lm, ↓cop_eq, ↓cop_ne, ↓cop_lt, ↓cop_le, ↓cop_gt, ↓cop_ge, ↓cop_eq_rep, ↓cop_ne_rep, ↓cop_eq_tup, ↓cop_ne_tup, ↓cop_eq_lst, ↓cop_ne_lst, ↓cop_eq_str, ↓cop_ne_str, ↓cop_eq_bl, ↓cop_ne_bl, ↓cop_eq_non, ↓cop_ne_non, ↓cop_is_n, ↓cop_is_b, ↓cop_isnot_n, ↓cop_isnot_b, ↓cop_isin_lst, ↓cop_isin_tup, ↓cop_notin_lst, ↓cop_notin_tup, ↓tru_non, ↓tru_bl, ↓tru_int, ↓tru_tup, ↓tru_lst, ↓seq_tup, ↓itm_tup, ↓seq_lst, ↓itm_lst, ↓seq_frz, ↓itm_frz, ↓itm_itr, ↓seq_ref, ↓itm_ref, ↓seq_ti, ↓itm_ti, ↓onO_s, ↓nth_0, ↓nth_1, ↓nth_2, ↓nth_3, ↓nth_4, ↓nth_5, ↓nth_6, ↓nth_7, ↓nth_8, ↓nth_9, ↓nth_10, ↓nth_11, ↓nth_12, ↓bf_len, ↓bf_abs, ↓bf_max, ↓bf_min, ↓bf_int, ↓bf_intb, ↓bf_dm, ↓bf_gcd, ↓bf_all, ↓bf_any, ↓bf_sum, ↓bf_tup, ↓bf_repl, ↓bf_stri, ↓bf_rept, ↓bf_lst, ↓asg_nm, ↓asg_tp, ↓asg_ls, ↓asg_sub, ↓asg_tg, ↓asg_ti, ↓asgs_nil, ↓asgs_cons, ↓mk_f, ↓mk_t, ↓setn_l, ↓setn_r, ↓isn_lst_true, ↓isn_lst_false, ↓isn_tup_true, ↓isn_tup_false, ↓isn_ref_true, ↓isn_ref_false, ↓cnt_t, ↓rev_t, ↓rev_l, ↓rev_ti, ↓onRef_r, ↓two_tt, ↓two_ll, ↓two_tl, ↓two_ti, ↓still_t, ↓still_ti, ↓still_l, ↓cut_tup, ↓cut_lst, ↓cut_frz, ↓cut_ti, ↓bop_titi, ↓cop_eq_ti, ↓cop_ne_ti, non_non, non_int, ty_int_int, ty_bool_int, ty_str_int, ty_tup_int, ty_lst_int, ty_dict_int, non_bl, ty_int_bl, ty_bool_bl, ty_str_bl, ty_tup_bl, ty_lst_bl, ty_dict_bl, non_str, ty_int_str, ty_bool_str, ty_str_str, ty_tup_str, ty_lst_str, ty_dict_str, non_tup, ty_int_tup, ty_bool_tup, ty_str_tup, ty_tup_tup, ty_lst_tup, ty_dict_tup, non_lst, ty_int_lst, ty_bool_lst, ty_str_lst, ty_tup_lst, ty_lst_lst, ty_dict_lst, ty_int_non, ty_int_ti, ty_bool_non, ty_bool_ti, ty_str_non, ty_str_ti, ty_tup_non, ty_tup_ti, ty_lst_non, ty_lst_ti, ty_dict_non, ty_dict_ti, ty_int_rep, ty_int_dic, ty_bool_rep, ty_bool_dic, ty_str_rep, ty_str_dic, ty_tup_rep, ty_tup_dic, ty_lst_rep, ty_lst_dic, ty_dict_rep, ty_dict_dic, ta_tup, ta_lst, ta_ti, ta_int, ta_bl, ta_str, ta_non, st_0, st_1, st_2, st_3, st_4, st_5, st_6, st_7, st_8, st_9, st_10, st_11, st_12, st_13, st_14, st_15, st_16, st_17, st_18, st_19, st_20, st_21, st_22, st_23, bp_nm, bp_tp, bp_ls, bp_ti, bps_nil, bps_nm, sts_nil, sts_cons, rowr_l, rowr_r, cat_d, wp0_nil, wp_0, wp_1, wp_2, wp_3, wp_4, wp_5, wp_6, wp_7, wp_8, wp_9, wp_10, wp_11, wp_12, wp_13, wp_14, wp_15, wp_16, wp_17, wp_18, wp_19, wp_20, wp_21, wp_22, wp_23, rng_1, rng_2, rng_3, rng_4, rng_5, rng_6, rng_7, brkT, brkF, ti1, ti2, ti3, ti4, ti5, ti6, ti_map, eq_ti, pick, List.cons_append, List.nil_append, List.map_cons, List.map_nil, List.getD_cons_zero, List.getD_cons_succ, Bool.not_true, Bool.not_false, ↓seq_v, ↓seq_f, ↓itm_v, ↓itm_f, ↓asg_v, ↓asg_f, bp_v, bp_f, bps_tv, bps_tf, ↓two_vv, ↓two_vt, ↓two_tv, ↓two_ff, ↓still_v, ↓cut_v, ↓cop_eq_v, ↓cop_ne_v, ↓cop_eq_f, ↓cop_ne_f, inD_n, inD_c, pures_c, pures_n, pure_vT, pure_fT, pure_iT, pure_bT, pure_nT, eq_v, eq_f, Bool.or_false, and_self, ↓tru_v, non_v, non_f, ty_v, ty_f, ta_v, ta_f, ↓bop_vv, ↓bop_6v, ↓cut_9a, ↓cut_9b, ↓cut_9c, tup3, tup2, v_ti, f_ti, zipD, wp_cc, true_and, decide_true, decide_false, eq_self, sz_0, sz_1, sz_2, sz_3, sz_4, sz_5, sz_6, sz_7, sz_8, sz_9, sz_10, sz_11, sz_12, enm_1, enm_2, enm_3, enm_4, enm_5, enm_6, enm_7, enm_8, enm_9, enm_10, len_1, len_2, len_3, len_4, len_5, len_6, len_7, len_8, len_9, len_10]
  refine ⟨?_, by simp [SZ], ?_⟩
  · have l1 : (slice [vD m.a, vD m.b, vD m.c] (some 1) none).length ≤ 3 := slw_len
    have l2 : (slice [vD m.a, vD m.b, vD m.c] none (some 1)).length ≤ 3 := slw_len
    simp [SZ]; omega
  have bb2 : bm 200 m := ⟨bv_mono bb.1 (by decide), bv_mono bb.2.1 (by decide), bv_mono bb.2.2 (by decide)⟩
  have br2 := bv_mono (m := 200) br (by decide)
  have g3 := gdr_3 bb2.1 bb2.2.1 bb2.2.2
  have hp2 : ∀ ds, Pl (S2 ++ [ds]) l := fun ds => by
    obtain ⟨a, b, c, e⟩ := d2.pl
    exact ⟨a, b, c, cl_old e⟩
  refine things_3_14 bb br k0 k1 j0 j1 (fun d hd => ?_) rfl cl_new (hp2 _) h
  simp only [List.mem_cons, List.not_mem_nil, or_false] at hd
  rcases hd with rfl | rfl | rfl | rfl | rfl | rfl | rfl | rfl | rfl | rfl | rfl | rfl | rfl | rfl
  · exact gdw_m bb2
  · exact gdw_t (by show 3 ≤ 20; decide) (gdr_3 bb2.2.2 bb2.2.1 bb2.1)
  · refine gdw_t ?_ fun x hx => ?_
    · have l1 : (slice [vD m.a, vD m.b, vD m.c] (some 1) none).length ≤ 3 := slw_len
      have l2 : (slice [vD m.a, vD m.b, vD m.c] none (some 1)).length ≤ 3 := slw_len
      rw [List.length_append]; omega
    · rcases List.mem_append.mp hx with hx | hx
      · exact g3 x (slw_mem hx)
      · exact g3 x (slw_mem hx)
  · exact gdw_t (Nat.le_trans slw_len (by show 3 ≤ 20; decide)) fun x hx => g3 x (slw_mem hx)
  · refine gdw_t (by show 4 ≤ 20; decide) fun x hx => ?_
    rcases List.mem_append.mp (show x ∈ [vD m.a, vD m.b, vD m.c] ++ [vD row] from hx) with hx | hx
    · exact g3 x hx
    · rw [List.mem_singleton.mp hx]; exact gdr_v br2
  · exact gdw_o rfl fun i e => by cases e
  · refine gdw_t (by show 1 ≤ 20; decide) fun x hx => ?_
    rw [List.mem_singleton.mp hx]
    refine ⟨gdv_t (by show 3 ≤ 20; decide) fun y hy => ?_, .inr ?_⟩
    · simp only [List.mem_cons, List.not_mem_nil, or_false] at hy
      rcases hy with rfl | rfl | rfl <;> exact giv_o rfl fun i e => by cases e
    · show pures? 38 [vD m.a, vD m.b, vD m.c] = true
      simp only [pures?, pure_v, Bool.and_self]
  · exact gdw_o rfl fun i e => by cases e
  · exact gdw_o rfl fun i e => by cases e
  · exact gdw_o rfl fun i e => by cases e
  · exact gdw_t (by decide) fun x hx => by cases hx
  · exact gdw_o rfl fun i e => by cases e
  · refine gdw_t (by show 3 ≤ 20; decide) fun x hx => ?_
    simp only [List.mem_cons, List.not_mem_nil, or_false] at hx
    rcases hx with rfl | rfl | rfl <;> exact gdr_o rfl (fun i e => by cases e) rfl
  · refine gdw_t (by show 9 ≤ 20; decide) fun x hx => ?_
    obtain ⟨i, hi, rfl⟩ := List.mem_map.mp hx
    exact gdr_o rfl (fun i e => by cases e) rfl
theorem s_is_viewA14 {d : D} (hg : Gdw d) (h : k (.bl (isVd d)) S) : CT (n + 7) i_is_view [d] S k X := by
  refine c_is_view ?_
  simp only [f_is_view, ↓ev_v0, ↓ev_v1, ↓ev_v2, ↓ev_v3, ↓ev_v4, ↓ev_v5, ↓ev_v6, ↓ev_v7, ↓ev_v8, ↓ev_v9, ↓ev_v10, ↓ev_v11, ↓ev_v12, ↓ev_v13, ↓ev_v14, ↓ev_v15, ↓ev_v16, ↓ev_v17, ↓ev_v18, ↓ev_v19, ↓ev_v20, ↓ev_v21, ↓ev_v22, ↓ev_v23, ↓ev_cst, ↓ev_glb, ↓ev_bin, ↓ev_neg, ↓ev_not, ↓ev_cmp, ↓ev_cmp2, ↓ev_and, ↓ev_or, ↓ev_ite, ↓ev_tup, ↓ev_lst, ↓ev_idx, ↓ev_slc, ↓ev_call, ↓ev_callk, ↓ev_bi, ↓ev_isi, ↓ev_isi2, ↓ev_lc, ↓ev_lc2, ↓ev_tcat, ↓ev_rng, ↓ev_rng1, ↓ev_zip, ↓ev_enm, ↓ev_cnt, ↓ev_nset, ↓ev_dct, ↓ev_cat, ↓ev_isn, ↓ev_rev, ↓ev_app, ↓evs_nil, ↓evs_cons, ↓evss_nil, ↓evss_f, ↓evss_t, ↓spr_tup, ↓spr_lst, ↓spr_frz, ↓spr_ti, ↓evo_n, ↓evo_s, ↓evt_n, ↓evt_s, ↓ex_set, ↓ex_par, ↓ex_expr, ↓ex_ret, ↓ex_retN, ↓ex_iff, ↓ex_for, ↓ex_whl, ↓ex_raise, ↓ex_pass, ↓ex_brk, ↓ex_cont, ↓exs_nil, ↓exs_cons, ↓tvf, ↓tvt, ↓asB_bl, ↓asI_i, ↓bop_add, ↓bop_sub, ↓bop_mul, ↓bop_fdv, ↓bop_mod, ↓bop_pow, ↓bop_tt, ↓bop_ll, ↓bop_lm, ↓cop_eq, ↓cop_ne, ↓cop_lt, ↓cop_le, ↓cop_gt, ↓cop_ge, ↓cop_eq_rep, ↓cop_ne_rep, ↓cop_eq_tup, ↓cop_ne_tup, ↓cop_eq_lst, ↓cop_ne_lst, ↓cop_eq_str, ↓cop_ne_str, ↓cop_eq_bl, ↓cop_ne_bl, ↓cop_eq_non, ↓cop_ne_non, ↓cop_is_n, ↓cop_is_b, ↓cop_isnot_n, ↓cop_isnot_b, ↓cop_isin_lst, ↓cop_isin_tup, ↓cop_notin_lst, ↓cop_notin_tup, ↓tru_non, ↓tru_bl, ↓tru_int, ↓tru_tup, ↓tru_lst, ↓seq_tup, ↓itm_tup, ↓seq_lst, ↓itm_lst, ↓seq_frz, ↓itm_frz, ↓itm_itr, ↓seq_ref, ↓itm_ref, ↓seq_ti, ↓itm_ti, ↓onO_s, ↓nth_0, ↓nth_1, ↓nth_2, ↓nth_3, ↓nth_4, ↓nth_5, ↓nth_6, ↓nth_7, ↓nth_8, ↓nth_9, ↓nth_10, ↓nth_11, ↓nth_12, ↓bf_len, ↓bf_abs, ↓bf_max, ↓bf_min, ↓bf_int, ↓bf_intb, ↓bf_dm, ↓bf_gcd, ↓bf_all, ↓bf_any, ↓bf_sum, ↓bf_tup, ↓bf_repl, ↓bf_stri, ↓bf_rept, ↓bf_lst, ↓asg_nm, ↓asg_tp, ↓asg_ls, ↓asg_sub, ↓asg_tg, ↓asg_ti, ↓asgs_nil, ↓asgs_cons, ↓mk_f, ↓mk_t, ↓setn_l, ↓setn_r, ↓isn_lst_true, ↓isn_lst_false, ↓isn_tup_true, ↓isn_tup_false, ↓isn_ref_true, ↓isn_ref_false, ↓cnt_t, ↓rev_t, ↓rev_l, ↓rev_ti, ↓onRef_r, ↓two_tt, ↓two_ll, ↓two_tl, ↓two_ti, ↓still_t, ↓still_ti, ↓still_l, ↓cut_tup, ↓cut_lst, ↓cut_frz, ↓cut_ti, ↓bop_titi, ↓cop_eq_ti, ↓cop_ne_ti, non_non, non_int, ty_int_int, ty_bool_int, ty_str_int, ty_tup_int, ty_lst_int, ty_dict_int, non_bl, ty_int_bl, ty_bool_bl, ty_str_bl, ty_tup_bl, ty_lst_bl, ty_dict_bl, non_str, ty_int_str, ty_bool_str, ty_str_str, ty_tup_str, ty_lst_str, ty_dict_str, non_tup, ty_int_tup, ty_bool_tup, ty_str_tup, ty_tup_tup, ty_lst_tup, ty_dict_tup, non_lst, ty_int_lst, ty_bool_lst, ty_str_lst, ty_tup_lst, ty_lst_lst, ty_dict_lst, ty_int_non, ty_int_ti, ty_bool_non, ty_bool_ti, ty_str_non, ty_str_ti, ty_tup_non, ty_tup_ti, ty_lst_non, ty_lst_ti, ty_dict_non, ty_dict_ti, ty_int_rep, ty_int_dic, ty_bool_rep, ty_bool_dic, ty_str_rep, ty_str_dic, ty_tup_rep, ty_tup_dic, ty_lst_rep, ty_lst_dic, ty_dict_rep, ty_dict_dic, ta_tup, ta_lst, ta_ti, ta_int, ta_bl, ta_str, ta_non, st_0, st_1, st_2, st_3, st_4, st_5, st_6, st_7, st_8, st_9, st_10, st_11, st_12, st_13, st_14, st_15, st_16, st_17, st_18, st_19, st_20, st_21, st_22, st_23, bp_nm, bp_tp, bp_ls, bp_ti, bps_nil, bps_nm, sts_nil, sts_cons, rowr_l, rowr_r, cat_d, wp0_nil, wp_0, wp_1, wp_2, wp_3, wp_4, wp_5, wp_6, wp_7, wp_8, wp_9, wp_10, wp_11, wp_12, wp_13, wp_14, wp_15, wp_16, wp_17, wp_18, wp_19, wp_20, wp_21, wp_22, wp_23, rng_1, rng_2, rng_3, rng_4, rng_5, rng_6, rng_7, brkT, brkF, ti1, ti2, ti3, ti4, ti5, ti6, ti_map, eq_ti, pick, List.cons_append, List.nil_append, List.map_cons, List.map_nil, List.getD_cons_zero, List.getD_cons_succ, Bool.not_true, Bool.not_false]
  exact s_is_view_ofA hg h
theorem s_right14 (hp : Pl S l) (h : ∀ S', k (.bl true) S') : CT (n + 9) i_law_right_v23 [.ref l] S k X := by
  refine c_law_right_v23 ?_
  simp only [rb_law_right_v23_0, ↓ev_v0, ↓ev_v1, ↓ev_v2, ↓ev_v3, ↓ev_v4, ↓ev_v5, ↓ev_v6, ↓ev_v7, ↓ev_v8, ↓ev_v9, ↓ev_v10, ↓ev_v11, ↓ev_v12, ↓ev_v13, ↓ev_v14, ↓ev_v15, ↓ev_v16, ↓ev_v17, ↓ev_v18, ↓ev_v19, ↓ev_v20, ↓ev_v21, ↓ev_v22, ↓ev_v23, ↓ev_cst, ↓ev_glb, ↓ev_bin, ↓ev_neg, ↓ev_not, ↓ev_cmp, ↓ev_cmp2, ↓ev_and, ↓ev_or, ↓ev_ite, ↓ev_tup, ↓ev_lst, ↓ev_idx, ↓ev_slc, ↓ev_call, ↓ev_callk, ↓ev_bi, ↓ev_isi, ↓ev_isi2, ↓ev_lc, ↓ev_lc2, ↓ev_tcat, ↓ev_rng, ↓ev_rng1, ↓ev_zip, ↓ev_enm, ↓ev_cnt, ↓ev_nset, ↓ev_dct, ↓ev_cat, ↓ev_isn, ↓ev_rev, ↓ev_app, ↓evs_nil, ↓evs_cons, ↓evss_nil, ↓evss_f, ↓evss_t, ↓spr_tup, ↓spr_lst, ↓spr_frz, ↓spr_ti, ↓evo_n, ↓evo_s, ↓evt_n, ↓evt_s, ↓ex_set, ↓ex_par, ↓ex_expr, ↓ex_ret, ↓ex_retN, ↓ex_iff, ↓ex_for, ↓ex_whl, ↓ex_raise, ↓ex_pass, ↓ex_brk, ↓ex_cont, ↓exs_nil, ↓exs_cons, ↓tvf, ↓tvt, ↓asB_bl, ↓asI_i, ↓bop_add, ↓bop_sub, ↓bop_mul, ↓bop_fdv, ↓bop_mod, ↓bop_pow, ↓bop_tt, ↓bop_ll, ↓bop_lm, ↓cop_eq, ↓cop_ne, ↓cop_lt, ↓cop_le, ↓cop_gt, ↓cop_ge, ↓cop_eq_rep, ↓cop_ne_rep, ↓cop_eq_tup, ↓cop_ne_tup, ↓cop_eq_lst, ↓cop_ne_lst, ↓cop_eq_str, ↓cop_ne_str, ↓cop_eq_bl, ↓cop_ne_bl, ↓cop_eq_non, ↓cop_ne_non, ↓cop_is_n, ↓cop_is_b, ↓cop_isnot_n, ↓cop_isnot_b, ↓cop_isin_lst, ↓cop_isin_tup, ↓cop_notin_lst, ↓cop_notin_tup, ↓tru_non, ↓tru_bl, ↓tru_int, ↓tru_tup, ↓tru_lst, ↓seq_tup, ↓itm_tup, ↓seq_lst, ↓itm_lst, ↓seq_frz, ↓itm_frz, ↓itm_itr, ↓seq_ref, ↓itm_ref, ↓seq_ti, ↓itm_ti, ↓onO_s, ↓nth_0, ↓nth_1, ↓nth_2, ↓nth_3, ↓nth_4, ↓nth_5, ↓nth_6, ↓nth_7, ↓nth_8, ↓nth_9, ↓nth_10, ↓nth_11, ↓nth_12, ↓bf_len, ↓bf_abs, ↓bf_max, ↓bf_min, ↓bf_int, ↓bf_intb, ↓bf_dm, ↓bf_gcd, ↓bf_all, ↓bf_any, ↓bf_sum, ↓bf_tup, ↓bf_repl, ↓bf_stri, ↓bf_rept, ↓bf_lst, ↓asg_nm, ↓asg_tp, ↓asg_ls, ↓asg_sub, ↓asg_tg, ↓asg_ti, ↓asgs_nil, ↓asgs_cons, ↓mk_f, ↓mk_t, ↓setn_l, ↓setn_r, ↓isn_lst_true, ↓isn_lst_false, ↓isn_tup_true, ↓isn_tup_false, ↓isn_ref_true, ↓isn_ref_false, ↓cnt_t, ↓rev_t, ↓rev_l, ↓rev_ti, ↓onRef_r, ↓two_tt, ↓two_ll, ↓two_tl, ↓two_ti, ↓still_t, ↓still_ti, ↓still_l, ↓cut_tup, ↓cut_lst, ↓cut_frz, ↓cut_ti, ↓bop_titi, ↓cop_eq_ti, ↓cop_ne_ti, non_non, non_int, ty_int_int, ty_bool_int, ty_str_int, ty_tup_int, ty_lst_int, ty_dict_int, non_bl, ty_int_bl, ty_bool_bl, ty_str_bl, ty_tup_bl, ty_lst_bl, ty_dict_bl, non_str, ty_int_str, ty_bool_str, ty_str_str, ty_tup_str, ty_lst_str, ty_dict_str, non_tup, ty_int_tup, ty_bool_tup, ty_str_tup, ty_tup_tup, ty_lst_tup, ty_dict_tup, non_lst, ty_int_lst, ty_bool_lst, ty_str_lst, ty_tup_lst, ty_lst_lst, ty_dict_lst, ty_int_non, ty_int_ti, ty_bool_non, ty_bool_ti, ty_str_non, ty_str_ti, ty_tup_non, ty_tup_ti, ty_lst_non, ty_lst_ti, ty_dict_non, ty_dict_ti, ty_int_rep, ty_int_dic, ty_bool_rep, ty_bool_dic, ty_str_rep, ty_str_dic, ty_tup_rep, ty_tup_dic, ty_lst_rep, ty_lst_dic, ty_dict_rep, ty_dict_dic, ta_tup, ta_lst, ta_ti, ta_int, ta_bl, ta_str, ta_non, st_0, st_1, st_2, st_3, st_4, st_5, st_6, st_7, st_8, st_9, st_10, st_11, st_12, st_13, st_14, st_15, st_16, st_17, st_18, st_19, st_20, st_21, st_22, st_23, bp_nm, bp_tp, bp_ls, bp_ti, bps_nil, bps_nm, sts_nil, sts_cons, rowr_l, rowr_r, cat_d, wp0_nil, wp_0, wp_1, wp_2, wp_3, wp_4, wp_5, wp_6, wp_7, wp_8, wp_9, wp_10, wp_11, wp_12, wp_13, wp_14, wp_15, wp_16, wp_17, wp_18, wp_19, wp_20, wp_21, wp_22, wp_23, rng_1, rng_2, rng_3, rng_4, rng_5, rng_6, rng_7, brkT, brkF, ti1, ti2, ti3, ti4, ti5, ti6, ti_map, eq_ti, pick, List.cons_append, List.nil_append, List.map_cons, List.map_nil, List.getD_cons_zero, List.getD_cons_succ, Bool.not_true, Bool.not_false, ↓seq_v, ↓seq_f, ↓itm_v, ↓itm_f, ↓asg_v, ↓asg_f, bp_v, bp_f, bps_tv, bps_tf, ↓two_vv, ↓two_vt, ↓two_tv, ↓two_ff, ↓still_v, ↓cut_v, ↓cop_eq_v, ↓cop_ne_v, ↓cop_eq_f, ↓cop_ne_f, inD_n, inD_c, pures_c, pures_n, pure_vT, pure_fT, pure_iT, pure_bT, pure_nT, eq_v, eq_f, Bool.or_false, and_self, ↓tru_v, non_v, non_f, ty_v, ty_f, ta_v, ta_f, ↓bop_vv, ↓bop_6v, ↓cut_9a, ↓cut_9b, ↓cut_9c, tup3, tup2, v_ti, f_ti, zipD, wp_cc, true_and, decide_true, decide_false, eq_self, sz_0, sz_1, sz_2, sz_3, sz_4, sz_5, sz_6, sz_7, sz_8, sz_9, sz_10, sz_11, sz_12, enm_1, enm_2, enm_3, enm_4, enm_5, enm_6, enm_7, enm_8, enm_9, enm_10, len_1, len_2, len_3, len_4, len_5, len_6, len_7, len_8, len_9, len_10]
  refine ⟨by decide, ?_⟩
  refine forW_inv (I := fun ds σ S' => Pl S' l ∧ ∃ x1 x2 x3 x4 x5 x6 x7 x8 x9 x10 x11, σ = [some (.ref l), x1, x2, x3, x4, x5, x6, x7, x8, x9, x10, x11]) ⟨hp, _, _, _, _, _, _, _, _, _, _, _, rfl⟩ ?_ ?_
  · rintro d ds σ S0 ⟨hp0, x1, x2, x3, x4, x5, x6, x7, x8, x9, x10, x11, rfl⟩
    refine ⟨_, rfl, fun K hK => ?_⟩
    simp only [r_law_right_v23_0_0, lc_app', fc_cons, fc_nil, blk_app, ↓ev_v0, ↓ev_v1, ↓ev_v2, ↓ev_v3, ↓ev_v4, ↓ev_v5, ↓ev_v6, ↓ev_v7, ↓ev_v8, ↓ev_v9, ↓ev_v10, ↓ev_v11, ↓ev_v12, ↓ev_v13, ↓ev_v14, ↓ev_v15, ↓ev_v16, ↓ev_v17, ↓ev_v18, ↓ev_v19, ↓ev_v20, ↓ev_v21, ↓ev_v22, ↓ev_v23, ↓ev_cst, ↓ev_glb, ↓ev_bin, ↓ev_neg, ↓ev_not, ↓ev_cmp, ↓ev_cmp2, ↓ev_and, ↓ev_or, ↓ev_ite, ↓ev_tup, ↓ev_lst, ↓ev_idx, ↓ev_slc, ↓ev_call, ↓ev_callk, ↓ev_bi, ↓ev_isi, ↓ev_isi2, ↓ev_lc, ↓ev_lc2, ↓ev_tcat, ↓ev_rng, ↓ev_rng1, ↓ev_zip, ↓ev_enm, ↓ev_cnt, ↓ev_nset, ↓ev_dct, ↓ev_cat, ↓ev_isn, ↓ev_rev, ↓ev_app, ↓evs_nil, ↓evs_cons, ↓evss_nil, ↓evss_f, ↓evss_t, ↓spr_tup, ↓spr_lst, ↓spr_frz, ↓spr_ti, ↓evo_n, ↓evo_s, ↓evt_n, ↓evt_s, ↓ex_set, ↓ex_par, ↓ex_expr, ↓ex_ret, ↓ex_retN, ↓ex_iff, ↓ex_for, ↓ex_whl, ↓ex_raise, ↓ex_pass, ↓ex_brk, ↓ex_cont, ↓exs_nil, ↓exs_cons, ↓tvf, ↓tvt, ↓asB_bl, ↓asI_i, ↓bop_add, ↓bop_sub, ↓bop_mul, ↓bop_fdv, ↓bop_mod, ↓bop_pow, ↓bop_tt, ↓bop_ll, ↓bop_lm, ↓cop_eq, ↓cop_ne, ↓cop_lt, ↓cop_le, ↓cop_gt, ↓cop_ge, ↓cop_eq_rep, ↓cop_ne_rep, ↓cop_eq_tup, ↓cop_ne_tup, ↓cop_eq_lst, ↓cop_ne_lst, ↓cop_eq_str, ↓cop_ne_str, ↓cop_eq_bl, ↓cop_ne_bl, ↓cop_eq_non, ↓cop_ne_non, ↓cop_is_n, ↓cop_is_b, ↓cop_isnot_n, ↓cop_isnot_b, ↓cop_isin_lst, ↓cop_isin_tup, ↓cop_notin_lst, ↓cop_notin_tup, ↓tru_non, ↓tru_bl, ↓tru_int, ↓tru_tup, ↓tru_lst, ↓seq_tup, ↓itm_tup, ↓seq_lst, ↓itm_lst, ↓seq_frz, ↓itm_frz, ↓itm_itr, ↓seq_ref, ↓itm_ref, ↓seq_ti, ↓itm_ti, ↓onO_s, ↓nth_0, ↓nth_1, ↓nth_2, ↓nth_3, ↓nth_4, ↓nth_5, ↓nth_6, ↓nth_7, ↓nth_8, ↓nth_9, ↓nth_10, ↓nth_11, ↓nth_12, ↓bf_len, ↓bf_abs, ↓bf_max, ↓bf_min, ↓bf_int, ↓bf_intb, ↓bf_dm, ↓bf_gcd, ↓bf_all, ↓bf_any, ↓bf_sum, ↓bf_tup, ↓bf_repl, ↓bf_stri, ↓bf_rept, ↓bf_lst, ↓asg_nm, ↓asg_tp, ↓asg_ls, ↓asg_sub, ↓asg_tg, ↓asg_ti, ↓asgs_nil, ↓asgs_cons, ↓mk_f, ↓mk_t, ↓setn_l, ↓setn_r, ↓isn_lst_true, ↓isn_lst_false, ↓isn_tup_true, ↓isn_tup_false, ↓isn_ref_true, ↓isn_ref_false, ↓cnt_t, ↓rev_t, ↓rev_l, ↓rev_ti, ↓onRef_r, ↓two_tt, ↓two_ll, ↓two_tl, ↓two_ti, ↓still_t, ↓still_ti, ↓still_l, ↓cut_tup, ↓cut_lst, ↓cut_frz, ↓cut_ti, ↓bop_titi, ↓cop_eq_ti, ↓cop_ne_ti, non_non, non_int, ty_int_int, ty_bool_int, ty_str_int, ty_tup_int, ty_lst_int, ty_dict_int, non_bl, ty_int_bl, ty_bool_bl, ty_str_bl, ty_tup_bl, ty_lst_bl, ty_dict_bl, non_str, ty_int_str, ty_bool_str, ty_str_str, ty_tup_str, ty_lst_str, ty_dict_str, non_tup, ty_int_tup, ty_bool_tup, ty_str_tup, ty_tup_tup, ty_lst_tup, ty_dict_tup, non_lst, ty_int_lst, ty_bool_lst, ty_str_lst, ty_tup_lst, ty_lst_lst, ty_dict_lst, ty_int_non, ty_int_ti, ty_bool_non, ty_bool_ti, ty_str_non, ty_str_ti, ty_tup_non, ty_tup_ti, ty_lst_non, ty_lst_ti, ty_dict_non, ty_dict_ti, ty_int_rep, ty_int_dic, ty_bool_rep, ty_bool_dic, ty_str_rep, ty_str_dic, ty_tup_rep, ty_tup_dic, ty_lst_rep, ty_lst_dic, ty_dict_rep, ty_dict_dic, ta_tup, ta_lst, ta_ti, ta_int, ta_bl, ta_str, ta_non, st_0, st_1, st_2, st_3, st_4, st_5, st_6, st_7, st_8, st_9, st_10, st_11, st_12, st_13, st_14, st_15, st_16, st_17, st_18, st_19, st_20, st_21, st_22, st_23, bp_nm, bp_tp, bp_ls, bp_ti, bps_nil, bps_nm, sts_nil, sts_cons, rowr_l, rowr_r, cat_d, wp0_nil, wp_0, wp_1, wp_2, wp_3, wp_4, wp_5, wp_6, wp_7, wp_8, wp_9, wp_10, wp_11, wp_12, wp_13, wp_14, wp_15, wp_16, wp_17, wp_18, wp_19, wp_20, wp_21, wp_22, wp_23, rng_1, rng_2, rng_3, rng_4, rng_5, rng_6, rng_7, brkT, brkF, ti1, ti2, ti3, ti4, ti5, ti6, ti_map, eq_ti, pick, List.cons_append, List.nil_append, List.map_cons, List.map_nil, List.getD_cons_zero, List.getD_cons_succ, Bool.not_true, Bool.not_false, ↓seq_v, ↓seq_f, ↓itm_v, ↓itm_f, ↓asg_v, ↓asg_f, bp_v, bp_f, bps_tv, bps_tf, ↓two_vv, ↓two_vt, ↓two_tv, ↓two_ff, ↓still_v, ↓cut_v, ↓cop_eq_v, ↓cop_ne_v, ↓cop_eq_f, ↓cop_ne_f, inD_n, inD_c, pures_c, pures_n, pure_vT, pure_fT, pure_iT, pure_bT, pure_nT, eq_v, eq_f, Bool.or_false, and_self, ↓tru_v, non_v, non_f, ty_v, ty_f, ta_v, ta_f, ↓bop_vv, ↓bop_6v, ↓cut_9a, ↓cut_9b, ↓cut_9c, tup3, tup2, v_ti, f_ti, zipD, wp_cc, true_and, decide_true, decide_false, eq_self, sz_0, sz_1, sz_2, sz_3, sz_4, sz_5, sz_6, sz_7, sz_8, sz_9, sz_10, sz_11, sz_12, enm_1, enm_2, enm_3, enm_4, enm_5, enm_6, enm_7, enm_8, enm_9, enm_10, len_1, len_2, len_3, len_4, len_5, len_6, len_7, len_8, len_9, len_10]
    refine ⟨⟨by decide, by decide, by decide⟩, ?_⟩
    refine s_law_pick_k14 hp0 (.inl rfl) (by simp) (by simp [SZ]) fun e S1 me d1 => ?_
    have he : ∃ t : Int, 0 < t ∧ bt 31 t ∧ e = .int t := by
      simp only [List.mem_cons, List.not_mem_nil, or_false] at me
      rcases me with rfl | rfl | rfl | rfl
      · exact ⟨1, by decide, by decide, rfl⟩
      · exact ⟨3, by decide, by decide, rfl⟩
      · exact ⟨20, by decide, by decide, rfl⟩
      · exact ⟨10 ^ 9, by decide, by decide, rfl⟩
    obtain ⟨t, t0, tb, rfl⟩ := he
    refine s_law_view14 d1.pl t0 tb fun m S2 bb d2 => ?_
    try walk_at "fx"
    simp only [r_law_right_v23_0_1, lc_app', fc_cons, fc_nil, blk_app, ↓ev_v0, ↓ev_v1, ↓ev_v2, ↓ev_v3, ↓ev_v4, ↓ev_v5, ↓ev_v6, ↓ev_v7, ↓ev_v8, ↓ev_v9, ↓ev_v10, ↓ev_v11, ↓ev_v12, ↓ev_v13, ↓ev_v14, ↓ev_v15, ↓ev_v16, ↓ev_v17, ↓ev_v18, ↓ev_v19, ↓ev_v20, ↓ev_v21, ↓ev_v22, ↓ev_v23, ↓ev_cst, ↓ev_glb, ↓ev_bin, ↓ev_neg, ↓ev_not, ↓ev_cmp, ↓ev_cmp2, ↓ev_and, ↓ev_or, ↓ev_ite, ↓ev_tup, ↓ev_lst, ↓ev_idx, ↓ev_slc, ↓ev_call, ↓ev_callk, ↓ev_bi, ↓ev_isi, ↓ev_isi2, ↓ev_lc, ↓ev_lc2, ↓ev_tcat, ↓ev_rng, ↓ev_rng1, ↓ev_zip, ↓ev_enm, ↓ev_cnt, ↓ev_nset, ↓ev_dct, ↓ev_cat, ↓ev_isn, ↓ev_rev, ↓ev_app, ↓evs_nil, ↓evs_cons, ↓evss_nil, ↓evss_f, ↓evss_t, ↓spr_tup, ↓spr_lst, ↓spr_frz, ↓spr_ti, ↓evo_n, ↓evo_s, ↓evt_n, ↓evt_s, ↓ex_set, ↓ex_par, ↓ex_expr, ↓ex_ret, ↓ex_retN, ↓ex_iff, ↓ex_for, ↓ex_whl, ↓ex_raise, ↓ex_pass, ↓ex_brk, ↓ex_cont, ↓exs_nil, ↓exs_cons, ↓tvf, ↓tvt, ↓asB_bl, ↓asI_i, ↓bop_add, ↓bop_sub, ↓bop_mul, ↓bop_fdv, ↓bop_mod, ↓bop_pow, ↓bop_tt, ↓bop_ll, ↓bop_lm, ↓cop_eq, ↓cop_ne, ↓cop_lt, ↓cop_le, ↓cop_gt, ↓cop_ge, ↓cop_eq_rep, ↓cop_ne_rep, ↓cop_eq_tup, ↓cop_ne_tup, ↓cop_eq_lst, ↓cop_ne_lst, ↓cop_eq_str, ↓cop_ne_str, ↓cop_eq_bl, ↓cop_ne_bl, ↓cop_eq_non, ↓cop_ne_non, ↓cop_is_n, ↓cop_is_b, ↓cop_isnot_n, ↓cop_isnot_b, ↓cop_isin_lst, ↓cop_isin_tup, ↓cop_notin_lst, ↓cop_notin_tup, ↓tru_non, ↓tru_bl, ↓tru_int, ↓tru_tup, ↓tru_lst, ↓seq_tup, ↓itm_tup, ↓seq_lst, ↓itm_lst, ↓seq_frz, ↓itm_frz, ↓itm_itr, ↓seq_ref, ↓itm_ref, ↓seq_ti, ↓itm_ti, ↓onO_s, ↓nth_0, ↓nth_1, ↓nth_2, ↓nth_3, ↓nth_4, ↓nth_5, ↓nth_6, ↓nth_7, ↓nth_8, ↓nth_9, ↓nth_10, ↓nth_11, ↓nth_12, ↓bf_len, ↓bf_abs, ↓bf_max, ↓bf_min, ↓bf_int, ↓bf_intb, ↓bf_dm, ↓bf_gcd, ↓bf_all, ↓bf_any, ↓bf_sum, ↓bf_tup, ↓bf_repl, ↓bf_stri, ↓bf_rept, ↓bf_lst, ↓asg_nm, ↓asg_tp, ↓asg_ls, ↓asg_sub, ↓asg_tg, ↓asg_ti, ↓asgs_nil, ↓asgs_cons, ↓mk_f, ↓mk_t, ↓setn_l, ↓setn_r, ↓isn_lst_true, ↓isn_lst_false, ↓isn_tup_true, ↓isn_tup_false, ↓isn_ref_true, ↓isn_ref_false, ↓cnt_t, ↓rev_t, ↓rev_l, ↓rev_ti, ↓onRef_r, ↓two_tt, ↓two_ll, ↓two_tl, ↓two_ti, ↓still_t, ↓still_ti, ↓still_l, ↓cut_tup, ↓cut_lst, ↓cut_frz, ↓cut_ti, ↓bop_titi, ↓cop_eq_ti, ↓cop_ne_ti, non_non, non_int, ty_int_int, ty_bool_int, ty_str_int, ty_tup_int, ty_lst_int, ty_dict_int, non_bl, ty_int_bl, ty_bool_bl, ty_str_bl, ty_tup_bl, ty_lst_bl, ty_dict_bl, non_str, ty_int_str, ty_bool_str, ty_str_str, ty_tup_str, ty_lst_str, ty_dict_str, non_tup, ty_int_tup, ty_bool_tup, ty_str_tup, ty_tup_tup, ty_lst_tup, ty_dict_tup, non_lst, ty_int_lst, ty_bool_lst, ty_str_lst, ty_tup_lst, ty_lst_lst, ty_dict_lst, ty_int_non, ty_int_ti, ty_bool_non, ty_bool_ti, ty_str_non, ty_str_ti, ty_tup_non, ty_tup_ti, ty_lst_non, ty_lst_ti, ty_dict_non, ty_dict_ti, ty_int_rep, ty_int_dic, ty_bool_rep, ty_bool_dic, ty_str_rep, ty_str_dic, ty_tup_rep, ty_tup_dic, ty_lst_rep, ty_lst_dic, ty_dict_rep, ty_dict_dic, ta_tup, ta_lst, ta_ti, ta_int, ta_bl, ta_str, ta_non, st_0, st_1, st_2, st_3, st_4, st_5, st_6, st_7, st_8, st_9, st_10, st_11, st_12, st_13, st_14, st_15, st_16, st_17, st_18, st_19, st_20, st_21, st_22, st_23, bp_nm, bp_tp, bp_ls, bp_ti, bps_nil, bps_nm, sts_nil, sts_cons, rowr_l, rowr_r, cat_d, wp0_nil, wp_0, wp_1, wp_2, wp_3, wp_4, wp_5, wp_6, wp_7, wp_8, wp_9, wp_10, wp_11, wp_12, wp_13, wp_14, wp_15, wp_16, wp_17, wp_18, wp_19, wp_20, wp_21, wp_22, wp_23, rng_1, rng_2, rng_3, rng_4, rng_5, rng_6, rng_7, brkT, brkF, ti1, ti2, ti3, ti4, ti5, ti6, ti_map, eq_ti, pick, List.cons_append, List.nil_append, List.map_cons, List.map_nil, List.getD_cons_zero, List.getD_cons_succ, Bool.not_true, Bool.not_false, ↓seq_v, ↓seq_f, ↓itm_v, ↓itm_f, ↓asg_v, ↓asg_f, bp_v, bp_f, bps_tv, bps_tf, ↓two_vv, ↓two_vt, ↓two_tv, ↓two_ff, ↓still_v, ↓cut_v, ↓cop_eq_v, ↓cop_ne_v, ↓cop_eq_f, ↓cop_ne_f, inD_n, inD_c, pures_c, pures_n, pure_vT, pure_fT, pure_iT, pure_bT, pure_nT, eq_v, eq_f, Bool.or_false, and_self, ↓tru_v, non_v, non_f, ty_v, ty_f, ta_v, ta_f, ↓bop_vv, ↓bop_6v, ↓cut_9a, ↓cut_9b, ↓cut_9c, tup3, tup2, v_ti, f_ti, zipD, wp_cc, true_and, decide_true, decide_false, eq_self, sz_0, sz_1, sz_2, sz_3, sz_4, sz_5, sz_6, sz_7, sz_8, sz_9, sz_10, sz_11, sz_12, enm_1, enm_2, enm_3, enm_4, enm_5, enm_6, enm_7, enm_8, enm_9, enm_10, len_1, len_2, len_3, len_4, len_5, len_6, len_7, len_8, len_9, len_10]
    refine s_things14 d2.pl bb fun r vs S3 er hv lv hp3 => ?_
    simp only [er, ↓ev_v0, ↓ev_v1, ↓ev_v2, ↓ev_v3, ↓ev_v4, ↓ev_v5, ↓ev_v6, ↓ev_v7, ↓ev_v8, ↓ev_v9, ↓ev_v10, ↓ev_v11, ↓ev_v12, ↓ev_v13, ↓ev_v14, ↓ev_v15, ↓ev_v16, ↓ev_v17, ↓ev_v18, ↓ev_v19, ↓ev_v20, ↓ev_v21, ↓ev_v22, ↓ev_v23, ↓ev_cst, ↓ev_glb, ↓ev_bin, ↓ev_neg, ↓ev_not, ↓ev_cmp, ↓ev_cmp2, ↓ev_and, ↓ev_or, ↓ev_ite, ↓ev_tup, ↓ev_lst, ↓ev_idx, ↓ev_slc, ↓ev_call, ↓ev_callk, ↓ev_bi, ↓ev_isi, ↓ev_isi2, ↓ev_lc, ↓ev_lc2, ↓ev_tcat, ↓ev_rng, ↓ev_rng1, ↓ev_zip, ↓ev_enm, ↓ev_cnt, ↓ev_nset, ↓ev_dct, ↓ev_cat, ↓ev_isn, ↓ev_rev, ↓ev_app, ↓evs_nil, ↓evs_cons, ↓evss_nil, ↓evss_f, ↓evss_t, ↓spr_tup, ↓spr_lst, ↓spr_frz, ↓spr_ti, ↓evo_n, ↓evo_s, ↓evt_n, ↓evt_s, ↓ex_set, ↓ex_par, ↓ex_expr, ↓ex_ret, ↓ex_retN, ↓ex_iff, ↓ex_for, ↓ex_whl, ↓ex_raise, ↓ex_pass, ↓ex_brk, ↓ex_cont, ↓exs_nil, ↓exs_cons, ↓tvf, ↓tvt, ↓asB_bl, ↓asI_i, ↓bop_add, ↓bop_sub, ↓bop_mul, ↓bop_fdv, ↓bop_mod, ↓bop_pow, ↓bop_tt, ↓bop_ll, ↓bop_lm, ↓cop_eq, ↓cop_ne, ↓cop_lt, ↓cop_le, ↓cop_gt, ↓cop_ge, ↓cop_eq_rep, ↓cop_ne_rep, ↓cop_eq_tup, ↓cop_ne_tup, ↓cop_eq_lst, ↓cop_ne_lst, ↓cop_eq_str, ↓cop_ne_str, ↓cop_eq_bl, ↓cop_ne_bl, ↓cop_eq_non, ↓cop_ne_non, ↓cop_is_n, ↓cop_is_b, ↓cop_isnot_n, ↓cop_isnot_b, ↓cop_isin_lst, ↓cop_isin_tup, ↓cop_notin_lst, ↓cop_notin_tup, ↓tru_non, ↓tru_bl, ↓tru_int, ↓tru_tup, ↓tru_lst, ↓seq_tup, ↓itm_tup, ↓seq_lst, ↓itm_lst, ↓seq_frz, ↓itm_frz, ↓itm_itr, ↓seq_ref, ↓itm_ref, ↓seq_ti, ↓itm_ti, ↓onO_s, ↓nth_0, ↓nth_1, ↓nth_2, ↓nth_3, ↓nth_4, ↓nth_5, ↓nth_6, ↓nth_7, ↓nth_8, ↓nth_9, ↓nth_10, ↓nth_11, ↓nth_12, ↓bf_len, ↓bf_abs, ↓bf_max, ↓bf_min, ↓bf_int, ↓bf_intb, ↓bf_dm, ↓bf_gcd, ↓bf_all, ↓bf_any, ↓bf_sum, ↓bf_tup, ↓bf_repl, ↓bf_stri, ↓bf_rept, ↓bf_lst, ↓asg_nm, ↓asg_tp, ↓asg_ls, ↓asg_sub, ↓asg_tg, ↓asg_ti, ↓asgs_nil, ↓asgs_cons, ↓mk_f, ↓mk_t, ↓setn_l, ↓setn_r, ↓isn_lst_true, ↓isn_lst_false, ↓isn_tup_true, ↓isn_tup_false, ↓isn_ref_true, ↓isn_ref_false, ↓cnt_t, ↓rev_t, ↓rev_l, ↓rev_ti, ↓onRef_r, ↓two_tt, ↓two_ll, ↓two_tl, ↓two_ti, ↓still_t, ↓still_ti, ↓still_l, ↓cut_tup, ↓cut_lst, ↓cut_frz, ↓cut_ti, ↓bop_titi, ↓cop_eq_ti, ↓cop_ne_ti, non_non, non_int, ty_int_int, ty_bool_int, ty_str_int, ty_tup_int, ty_lst_int, ty_dict_int, non_bl, ty_int_bl, ty_bool_bl, ty_str_bl, ty_tup_bl, ty_lst_bl, ty_dict_bl, non_str, ty_int_str, ty_bool_str, ty_str_str, ty_tup_str, ty_lst_str, ty_dict_str, non_tup, ty_int_tup, ty_bool_tup, ty_str_tup, ty_tup_tup, ty_lst_tup, ty_dict_tup, non_lst, ty_int_lst, ty_bool_lst, ty_str_lst, ty_tup_lst, ty_lst_lst, ty_dict_lst, ty_int_non, ty_int_ti, ty_bool_non, ty_bool_ti, ty_str_non, ty_str_ti, ty_tup_non, ty_tup_ti, ty_lst_non, ty_lst_ti, ty_dict_non, ty_dict_ti, ty_int_rep, ty_int_dic, ty_bool_rep, ty_bool_dic, ty_str_rep, ty_str_dic, ty_tup_rep, ty_tup_dic, ty_lst_rep, ty_lst_dic, ty_dict_rep, ty_dict_dic, ta_tup, ta_lst, ta_ti, ta_int, ta_bl, ta_str, ta_non, st_0, st_1, st_2, st_3, st_4, st_5, st_6, st_7, st_8, st_9, st_10, st_11, st_12, st_13, st_14, st_15, st_16, st_17, st_18, st_19, st_20, st_21, st_22, st_23, bp_nm, bp_tp, bp_ls, bp_ti, bps_nil, bps_nm, sts_nil, sts_cons, rowr_l, rowr_r, cat_d, wp0_nil, wp_0, wp_1, wp_2, wp_3, wp_4, wp_5, wp_6, wp_7, wp_8, wp_9, wp_10, wp_11, wp_12, wp_13, wp_14, wp_15, wp_16, wp_17, wp_18, wp_19, wp_20, wp_21, wp_22, wp_23, rng_1, rng_2, rng_3, rng_4, rng_5, rng_6, rng_7, brkT, brkF, ti1, ti2, ti3, ti4, ti5, ti6, ti_map, eq_ti, pick, List.cons_append, List.nil_append, List.map_cons, List.map_nil, List.getD_cons_zero, List.getD_cons_succ, Bool.not_true, Bool.not_false, ↓seq_v, ↓seq_f, ↓itm_v, ↓itm_f, ↓asg_v, ↓asg_f, bp_v, bp_f, bps_tv, bps_tf, ↓two_vv, ↓two_vt, ↓two_tv, ↓two_ff, ↓still_v, ↓cut_v, ↓cop_eq_v, ↓cop_ne_v, ↓cop_eq_f, ↓cop_ne_f, inD_n, inD_c, pures_c, pures_n, pure_vT, pure_fT, pure_iT, pure_bT, pure_nT, eq_v, eq_f, Bool.or_false, and_self, ↓tru_v, non_v, non_f, ty_v, ty_f, ta_v, ta_f, ↓bop_vv, ↓bop_6v, ↓cut_9a, ↓cut_9b, ↓cut_9c, tup3, tup2, v_ti, f_ti, zipD, wp_cc, true_and, decide_true, decide_false, eq_self, sz_0, sz_1, sz_2, sz_3, sz_4, sz_5, sz_6, sz_7, sz_8, sz_9, sz_10, sz_11, sz_12, enm_1, enm_2, enm_3, enm_4, enm_5, enm_6, enm_7, enm_8, enm_9, enm_10, len_1, len_2, len_3, len_4, len_5, len_6, len_7, len_8, len_9, len_10]
    refine forWg_inv (I := fun es σ S' => S' = S3 ∧ (∀ e ∈ es, Gdw e) ∧ ∃ y3 y4, σ = [some (.ref l), some d, some (mD m), y3, y4, x5, x6, x7, x8, x9, x10, x11]) (fun ds σ S' hI => by rw [hI.1]; exact er) ⟨rfl, hv, _, _, rfl⟩ ?_ ?_
    · rintro e es σ S' ⟨rfl, he, y3, y4, rfl⟩
      refine ⟨_, rfl, fun K2 hK2 => ?_⟩
      have ge := he e List.mem_cons_self
      simp only [lc_app', fc_cons, fc_nil, blk_app, ↓ev_v0, ↓ev_v1, ↓ev_v2, ↓ev_v3, ↓ev_v4, ↓ev_v5, ↓ev_v6, ↓ev_v7, ↓ev_v8, ↓ev_v9, ↓ev_v10, ↓ev_v11, ↓ev_v12, ↓ev_v13, ↓ev_v14, ↓ev_v15, ↓ev_v16, ↓ev_v17, ↓ev_v18, ↓ev_v19, ↓ev_v20, ↓ev_v21, ↓ev_v22, ↓ev_v23, ↓ev_cst, ↓ev_glb, ↓ev_bin, ↓ev_neg, ↓ev_not, ↓ev_cmp, ↓ev_cmp2, ↓ev_and, ↓ev_or, ↓ev_ite, ↓ev_tup, ↓ev_lst, ↓ev_idx, ↓ev_slc, ↓ev_call, ↓ev_callk, ↓ev_bi, ↓ev_isi, ↓ev_isi2, ↓ev_lc, ↓ev_lc2, ↓ev_tcat, ↓ev_rng, ↓ev_rng1, ↓ev_zip, ↓ev_enm, ↓ev_cnt, ↓ev_nset, ↓ev_dct, ↓ev_cat, ↓ev_isn, ↓ev_rev, ↓ev_app, ↓evs_nil, ↓evs_cons, ↓evss_nil, ↓evss_f, ↓evss_t, ↓spr_tup, ↓spr_lst, ↓spr_frz, ↓spr_ti, ↓evo_n, ↓evo_s, ↓evt_n, ↓evt_s, ↓ex_set, ↓ex_par, ↓ex_expr, ↓ex_ret, ↓ex_retN, ↓ex_iff, ↓ex_for, ↓ex_whl, ↓ex_raise, ↓ex_pass, ↓ex_brk, ↓ex_cont, ↓exs_nil, ↓exs_cons, ↓tvf, ↓tvt, ↓asB_bl, ↓asI_i, ↓bop_add, ↓bop_sub, ↓bop_mul, ↓bop_fdv, ↓bop_mod, ↓bop_pow, ↓bop_tt, ↓bop_ll, ↓bop_lm, ↓cop_eq, ↓cop_ne, ↓cop_lt, ↓cop_le, ↓cop_gt, ↓cop_ge, ↓cop_eq_rep, ↓cop_ne_rep, ↓cop_eq_tup, ↓cop_ne_tup, ↓cop_eq_lst, ↓cop_ne_lst, ↓cop_eq_str, ↓cop_ne_str, ↓cop_eq_bl, ↓cop_ne_bl, ↓cop_eq_non, ↓cop_ne_non, ↓cop_is_n, ↓cop_is_b, ↓cop_isnot_n, ↓cop_isnot_b, ↓cop_isin_lst, ↓cop_isin_tup, ↓cop_notin_lst, ↓cop_notin_tup, ↓tru_non, ↓tru_bl, ↓tru_int, ↓tru_tup, ↓tru_lst, ↓seq_tup, ↓itm_tup, ↓seq_lst, ↓itm_lst, ↓seq_frz, ↓itm_frz, ↓itm_itr, ↓seq_ref, ↓itm_ref, ↓seq_ti, ↓itm_ti, ↓onO_s, ↓nth_0, ↓nth_1, ↓nth_2, ↓nth_3, ↓nth_4, ↓nth_5, ↓nth_6, ↓nth_7, ↓nth_8, ↓nth_9, ↓nth_10, ↓nth_11, ↓nth_12, ↓bf_len, ↓bf_abs, ↓bf_max, ↓bf_min, ↓bf_int, ↓bf_intb, ↓bf_dm, ↓bf_gcd, ↓bf_all, ↓bf_any, ↓bf_sum, ↓bf_tup, ↓bf_repl, ↓bf_stri, ↓bf_rept, ↓bf_lst, ↓asg_nm, ↓asg_tp, ↓asg_ls, ↓asg_sub, ↓asg_tg, ↓asg_ti, ↓asgs_nil, ↓asgs_cons, ↓mk_f, ↓mk_t, ↓setn_l, ↓setn_r, ↓isn_lst_true, ↓isn_lst_false, ↓isn_tup_true, ↓isn_tup_false, ↓isn_ref_true, ↓isn_ref_false, ↓cnt_t, ↓rev_t, ↓rev_l, ↓rev_ti, ↓onRef_r, ↓two_tt, ↓two_ll, ↓two_tl, ↓two_ti, ↓still_t, ↓still_ti, ↓still_l, ↓cut_tup, ↓cut_lst, ↓cut_frz, ↓cut_ti, ↓bop_titi, ↓cop_eq_ti, ↓cop_ne_ti, non_non, non_int, ty_int_int, ty_bool_int, ty_str_int, ty_tup_int, ty_lst_int, ty_dict_int, non_bl, ty_int_bl, ty_bool_bl, ty_str_bl, ty_tup_bl, ty_lst_bl, ty_dict_bl, non_str, ty_int_str, ty_bool_str, ty_str_str, ty_tup_str, ty_lst_str, ty_dict_str, non_tup, ty_int_tup, ty_bool_tup, ty_str_tup, ty_tup_tup, ty_lst_tup, ty_dict_tup, non_lst, ty_int_lst, ty_bool_lst, ty_str_lst, ty_tup_lst, ty_lst_lst, ty_dict_lst, ty_int_non, ty_int_ti, ty_bool_non, ty_bool_ti, ty_str_non, ty_str_ti, ty_tup_non, ty_tup_ti, ty_lst_non, ty_lst_ti, ty_dict_non, ty_dict_ti, ty_int_rep, ty_int_dic, ty_bool_rep, ty_bool_dic, ty_str_rep, ty_str_dic, ty_tup_rep, ty_tup_dic, ty_lst_rep, ty_lst_dic, ty_dict_rep, ty_dict_dic, ta_tup, ta_lst, ta_ti, ta_int, ta_bl, ta_str, ta_non, st_0, st_1, st_2, st_3, st_4, st_5, st_6, st_7, st_8, st_9, st_10, st_11, st_12, st_13, st_14, st_15, st_16, st_17, st_18, st_19, st_20, st_21, st_22, st_23, bp_nm, bp_tp, bp_ls, bp_ti, bps_nil, bps_nm, sts_nil, sts_cons, rowr_l, rowr_r, cat_d, wp0_nil, wp_0, wp_1, wp_2, wp_3, wp_4, wp_5, wp_6, wp_7, wp_8, wp_9, wp_10, wp_11, wp_12, wp_13, wp_14, wp_15, wp_16, wp_17, wp_18, wp_19, wp_20, wp_21, wp_22, wp_23, rng_1, rng_2, rng_3, rng_4, rng_5, rng_6, rng_7, brkT, brkF, ti1, ti2, ti3, ti4, ti5, ti6, ti_map, eq_ti, pick, List.cons_append, List.nil_append, List.map_cons, List.map_nil, List.getD_cons_zero, List.getD_cons_succ, Bool.not_true, Bool.not_false, ↓seq_v, ↓seq_f, ↓itm_v, ↓itm_f, ↓asg_v, ↓asg_f, bp_v, bp_f, bps_tv, bps_tf, ↓two_vv, ↓two_vt, ↓two_tv, ↓two_ff, ↓still_v, ↓cut_v, ↓cop_eq_v, ↓cop_ne_v, ↓cop_eq_f, ↓cop_ne_f, inD_n, inD_c, pures_c, pures_n, pure_vT, pure_fT, pure_iT, pure_bT, pure_nT, eq_v, eq_f, Bool.or_false, and_self, ↓tru_v, non_v, non_f, ty_v, ty_f, ta_v, ta_f, ↓bop_vv, ↓bop_6v, ↓cut_9a, ↓cut_9b, ↓cut_9c, tup3, tup2, v_ti, f_ti, zipD, wp_cc, true_and, decide_true, decide_false, eq_self, sz_0, sz_1, sz_2, sz_3, sz_4, sz_5, sz_6, sz_7, sz_8, sz_9, sz_10, sz_11, sz_12, enm_1, enm_2, enm_3, enm_4, enm_5, enm_6, enm_7, enm_8, enm_9, enm_10, len_1, len_2, len_3, len_4, len_5, len_6, len_7, len_8, len_9, len_10]
      refine s_law_is_viewA ge ?_
      try walk_at "fx"
      refine s_is_viewA14 ge ?_
      refine s_is_viewA14 ge ?_
      try walk_at "fx"
      refine ⟨⟨pureB2, ⟨trivial, trivial, trivial⟩, nodsB2⟩, ⟨pureB2, ⟨trivial, trivial, trivial⟩, nodsB2⟩, ?_⟩
      exact hK2 _ _ ⟨rfl, fun e' h' => he e' (List.mem_cons_of_mem _ h'), _, _, rfl⟩
    rintro σ S' ⟨rfl, -, y3, y4, rfl⟩
    simp only [r_law_right_v23_0_2, lc_app', fc_cons, fc_nil, blk_app, ↓ev_v0, ↓ev_v1, ↓ev_v2, ↓ev_v3, ↓ev_v4, ↓ev_v5, ↓ev_v6, ↓ev_v7, ↓ev_v8, ↓ev_v9, ↓ev_v10, ↓ev_v11, ↓ev_v12, ↓ev_v13, ↓ev_v14, ↓ev_v15, ↓ev_v16, ↓ev_v17, ↓ev_v18, ↓ev_v19, ↓ev_v20, ↓ev_v21, ↓ev_v22, ↓ev_v23, ↓ev_cst, ↓ev_glb, ↓ev_bin, ↓ev_neg, ↓ev_not, ↓ev_cmp, ↓ev_cmp2, ↓ev_and, ↓ev_or, ↓ev_ite, ↓ev_tup, ↓ev_lst, ↓ev_idx, ↓ev_slc, ↓ev_call, ↓ev_callk, ↓ev_bi, ↓ev_isi, ↓ev_isi2, ↓ev_lc, ↓ev_lc2, ↓ev_tcat, ↓ev_rng, ↓ev_rng1, ↓ev_zip, ↓ev_enm, ↓ev_cnt, ↓ev_nset, ↓ev_dct, ↓ev_cat, ↓ev_isn, ↓ev_rev, ↓ev_app, ↓evs_nil, ↓evs_cons, ↓evss_nil, ↓evss_f, ↓evss_t, ↓spr_tup, ↓spr_lst, ↓spr_frz, ↓spr_ti, ↓evo_n, ↓evo_s, ↓evt_n, ↓evt_s, ↓ex_set, ↓ex_par, ↓ex_expr, ↓ex_ret, ↓ex_retN, ↓ex_iff, ↓ex_for, ↓ex_whl, ↓ex_raise, ↓ex_pass, ↓ex_brk, ↓ex_cont, ↓exs_nil, ↓exs_cons, ↓tvf, ↓tvt, ↓asB_bl, ↓asI_i, ↓bop_add, ↓bop_sub, ↓bop_mul, ↓bop_fdv, ↓bop_mod, ↓bop_pow, ↓bop_tt, ↓bop_ll, ↓bop_lm, ↓cop_eq, ↓cop_ne, ↓cop_lt, ↓cop_le, ↓cop_gt, ↓cop_ge, ↓cop_eq_rep, ↓cop_ne_rep, ↓cop_eq_tup, ↓cop_ne_tup, ↓cop_eq_lst, ↓cop_ne_lst, ↓cop_eq_str, ↓cop_ne_str, ↓cop_eq_bl, ↓cop_ne_bl, ↓cop_eq_non, ↓cop_ne_non, ↓cop_is_n, ↓cop_is_b, ↓cop_isnot_n, ↓cop_isnot_b, ↓cop_isin_lst, ↓cop_isin_tup, ↓cop_notin_lst, ↓cop_notin_tup, ↓tru_non, ↓tru_bl, ↓tru_int, ↓tru_tup, ↓tru_lst, ↓seq_tup, ↓itm_tup, ↓seq_lst, ↓itm_lst, ↓seq_frz, ↓itm_frz, ↓itm_itr, ↓seq_ref, ↓itm_ref, ↓seq_ti, ↓itm_ti, ↓onO_s, ↓nth_0, ↓nth_1, ↓nth_2, ↓nth_3, ↓nth_4, ↓nth_5, ↓nth_6, ↓nth_7, ↓nth_8, ↓nth_9, ↓nth_10, ↓nth_11, ↓nth_12, ↓bf_len, ↓bf_abs, ↓bf_max, ↓bf_min, ↓bf_int, ↓bf_intb, ↓bf_dm, ↓bf_gcd, ↓bf_all, ↓bf_any, ↓bf_sum, ↓bf_tup, ↓bf_repl, ↓bf_stri, ↓bf_rept, ↓bf_lst, ↓asg_nm, ↓asg_tp, ↓asg_ls, ↓asg_sub, ↓asg_tg, ↓asg_ti, ↓asgs_nil, ↓asgs_cons, ↓mk_f, ↓mk_t, ↓setn_l, ↓setn_r, ↓isn_lst_true, ↓isn_lst_false, ↓isn_tup_true, ↓isn_tup_false, ↓isn_ref_true, ↓isn_ref_false, ↓cnt_t, ↓rev_t, ↓rev_l, ↓rev_ti, ↓onRef_r, ↓two_tt, ↓two_ll, ↓two_tl, ↓two_ti, ↓still_t, ↓still_ti, ↓still_l, ↓cut_tup, ↓cut_lst, ↓cut_frz, ↓cut_ti, ↓bop_titi, ↓cop_eq_ti, ↓cop_ne_ti, non_non, non_int, ty_int_int, ty_bool_int, ty_str_int, ty_tup_int, ty_lst_int, ty_dict_int, non_bl, ty_int_bl, ty_bool_bl, ty_str_bl, ty_tup_bl, ty_lst_bl, ty_dict_bl, non_str, ty_int_str, ty_bool_str, ty_str_str, ty_tup_str, ty_lst_str, ty_dict_str, non_tup, ty_int_tup, ty_bool_tup, ty_str_tup, ty_tup_tup, ty_lst_tup, ty_dict_tup, non_lst, ty_int_lst, ty_bool_lst, ty_str_lst, ty_tup_lst, ty_lst_lst, ty_dict_lst, ty_int_non, ty_int_ti, ty_bool_non, ty_bool_ti, ty_str_non, ty_str_ti, ty_tup_non, ty_tup_ti, ty_lst_non, ty_lst_ti, ty_dict_non, ty_dict_ti, ty_int_rep, ty_int_dic, ty_bool_rep, ty_bool_dic, ty_str_rep, ty_str_dic, ty_tup_rep, ty_tup_dic, ty_lst_rep, ty_lst_dic, ty_dict_rep, ty_dict_dic, ta_tup, ta_lst, ta_ti, ta_int, ta_bl, ta_str, ta_non, st_0, st_1, st_2, st_3, st_4, st_5, st_6, st_7, st_8, st_9, st_10, st_11, st_12, st_13, st_14, st_15, st_16, st_17, st_18, st_19, st_20, st_21, st_22, st_23, bp_nm, bp_tp, bp_ls, bp_ti, bps_nil, bps_nm, sts_nil, sts_cons, rowr_l, rowr_r, cat_d, wp0_nil, wp_0, wp_1, wp_2, wp_3, wp_4, wp_5, wp_6, wp_7, wp_8, wp_9, wp_10, wp_11, wp_12, wp_13, wp_14, wp_15, wp_16, wp_17, wp_18, wp_19, wp_20, wp_21, wp_22, wp_23, rng_1, rng_2, rng_3, rng_4, rng_5, rng_6, rng_7, brkT, brkF, ti1, ti2, ti3, ti4, ti5, ti6, ti_map, eq_ti, pick, List.cons_append, List.nil_append, List.map_cons, List.map_nil, List.getD_cons_zero, List.getD_cons_succ, Bool.not_true, Bool.not_false, ↓seq_v, ↓seq_f, ↓itm_v, ↓itm_f, ↓asg_v, ↓asg_f, bp_v, bp_f, bps_tv, bps_tf, ↓two_vv, ↓two_vt, ↓two_tv, ↓two_ff, ↓still_v, ↓cut_v, ↓cop_eq_v, ↓cop_ne_v, ↓cop_eq_f, ↓cop_ne_f, inD_n, inD_c, pures_c, pures_n, pure_vT, pure_fT, pure_iT, pure_bT, pure_nT, eq_v, eq_f, Bool.or_false, and_self, ↓tru_v, non_v, non_f, ty_v, ty_f, ta_v, ta_f, ↓bop_vv, ↓bop_6v, ↓cut_9a, ↓cut_9b, ↓cut_9c, tup3, tup2, v_ti, f_ti, zipD, wp_cc, true_and, decide_true, decide_false, eq_self, sz_0, sz_1, sz_2, sz_3, sz_4, sz_5, sz_6, sz_7, sz_8, sz_9, sz_10, sz_11, sz_12, enm_1, enm_2, enm_3, enm_4, enm_5, enm_6, enm_7, enm_8, enm_9, enm_10, len_1, len_2, len_3, len_4, len_5, len_6, len_7, len_8, len_9, len_10]
    have tb2 : ∀ {x : Int}, -2 ≤ x → x ≤ 2 → bt 3 x := fun {x} g1 g2 => by unfold bt at *; omega
    refine ⟨by decide, by decide, ?_⟩
    refine s_law_number_k14 hp3 (by decide) (.inl (by decide)) fun a1 T1 g1 f1 e1 => ?_
    refine s_law_number_k14 e1.pl (by decide) (.inl (by decide)) fun a2 T2 g2 f2 e2 => ?_
    refine s_law_number_k14 e2.pl (by decide) (.inl (by decide)) fun a3 T3 g3 f3 e3 => ?_
    refine ⟨by decide, ?_⟩
    refine s_law_number_k14 e3.pl (by decide) (.inl (by decide)) fun a4 T4 g4 f4 e4 => ?_
    refine s_law_number_k14 e4.pl (by decide) (.inl (by decide)) fun a5 T5 g5 f5 e5 => ?_
    refine s_law_number_k14 e5.pl (by decide) (.inl (by decide)) fun a6 T6 g6 f6 e6 => ?_
    refine ⟨by decide, ?_⟩
    refine s_law_number_k14 e6.pl (by decide) (.inl (by decide)) fun a7 T7 g7 f7 e7 => ?_
    refine s_law_number_k14 e7.pl (by decide) (.inl (by decide)) fun a8 T8 g8 f8 e8 => ?_
    refine s_law_number_k14 e8.pl (by decide) (.inl (by decide)) fun a9 T9 g9 f9 e9 => ?_
    obtain ⟨q, eq⟩ : ∃ q : M3, q = ⟨⟨a1, a2, a3⟩, ⟨a4, a5, a6⟩, ⟨a7, a8, a9⟩⟩ := ⟨_, rfl⟩
    have bq : bm 3 q := by rw [eq]; exact ⟨⟨tb2 g1 f1, tb2 g2 f2, tb2 g3 f3⟩, ⟨tb2 g4 f4, tb2 g5 f5, tb2 g6 f6⟩, ⟨tb2 g7 f7, tb2 g8 f8, tb2 g9 f9⟩⟩
    have q1 : D.tup [.int a1, .int a2, .int a3] = vD q.a := by rw [eq]; rfl
    have q2 : D.tup [.int a4, .int a5, .int a6] = vD q.b := by rw [eq]; rfl
    have q3 : D.tup [.int a7, .int a8, .int a9] = vD q.c := by rw [eq]; rfl
    rw [q1, q2, q3]
    simp only [r_law_right_v23_0_3, blk_app, ↓ev_v0, ↓ev_v1, ↓ev_v2, ↓ev_v3, ↓ev_v4, ↓ev_v5, ↓ev_v6, ↓ev_v7, ↓ev_v8, ↓ev_v9, ↓ev_v10, ↓ev_v11, ↓ev_v12, ↓ev_v13, ↓ev_v14, ↓ev_v15, ↓ev_v16, ↓ev_v17, ↓ev_v18, ↓ev_v19, ↓ev_v20, ↓ev_v21, ↓ev_v22, ↓ev_v23, ↓ev_cst, ↓ev_glb, ↓ev_bin, ↓ev_neg, ↓ev_not, ↓ev_cmp, ↓ev_cmp2, ↓ev_and, ↓ev_or, ↓ev_ite, ↓ev_tup, ↓ev_lst, ↓ev_idx, ↓ev_slc, ↓ev_call, ↓ev_callk, ↓ev_bi, ↓ev_isi, ↓ev_isi2, ↓ev_lc, ↓ev_lc2, ↓ev_tcat, ↓ev_rng, ↓ev_rng1, ↓ev_zip, ↓ev_enm, ↓ev_cnt, ↓ev_nset, ↓ev_dct, ↓ev_cat, ↓ev_isn, ↓ev_rev, ↓ev_app, ↓evs_nil, ↓evs_cons, ↓evss_nil, ↓evss_f, ↓evss_t, ↓spr_tup, ↓spr_lst, ↓spr_frz, ↓spr_ti, ↓evo_n, ↓evo_s, ↓evt_n, ↓evt_s, ↓ex_set, ↓ex_par, ↓ex_expr, ↓ex_ret, ↓ex_retN, ↓ex_iff, ↓ex_for, ↓ex_whl, ↓ex_raise, ↓ex_pass, ↓ex_brk, ↓ex_cont, ↓exs_nil, ↓exs_cons, ↓tvf, ↓tvt, ↓asB_bl, ↓asI_i, ↓bop_add, ↓bop_sub, ↓bop_mul, ↓bop_fdv, ↓bop_mod, ↓bop_pow, ↓bop_tt, ↓bop_ll, ↓bop_lm, ↓cop_eq, ↓cop_ne, ↓cop_lt, ↓cop_le, ↓cop_gt, ↓cop_ge, ↓cop_eq_rep, ↓cop_ne_rep, ↓cop_eq_tup, ↓cop_ne_tup, ↓cop_eq_lst, ↓cop_ne_lst, ↓cop_eq_str, ↓cop_ne_str, ↓cop_eq_bl, ↓cop_ne_bl, ↓cop_eq_non, ↓cop_ne_non, ↓cop_is_n, ↓cop_is_b, ↓cop_isnot_n, ↓cop_isnot_b, ↓cop_isin_lst, ↓cop_isin_tup, ↓cop_notin_lst, ↓cop_notin_tup, ↓tru_non, ↓tru_bl, ↓tru_int, ↓tru_tup, ↓tru_lst, ↓seq_tup, ↓itm_tup, ↓seq_lst, ↓itm_lst, ↓seq_frz, ↓itm_frz, ↓itm_itr, ↓seq_ref, ↓itm_ref, ↓seq_ti, ↓itm_ti, ↓onO_s, ↓nth_0, ↓nth_1, ↓nth_2, ↓nth_3, ↓nth_4, ↓nth_5, ↓nth_6, ↓nth_7, ↓nth_8, ↓nth_9, ↓nth_10, ↓nth_11, ↓nth_12, ↓bf_len, ↓bf_abs, ↓bf_max, ↓bf_min, ↓bf_int, ↓bf_intb, ↓bf_dm, ↓bf_gcd, ↓bf_all, ↓bf_any, ↓bf_sum, ↓bf_tup, ↓bf_repl, ↓bf_stri, ↓bf_rept, ↓bf_lst, ↓asg_nm, ↓asg_tp, ↓asg_ls, ↓asg_sub, ↓asg_tg, ↓asg_ti, ↓asgs_nil, ↓asgs_cons, ↓mk_f, ↓mk_t, ↓setn_l, ↓setn_r, ↓isn_lst_true, ↓isn_lst_false, ↓isn_tup_true, ↓isn_tup_false, ↓isn_ref_true, ↓isn_ref_false, ↓cnt_t, ↓rev_t, ↓rev_l, ↓rev_ti, ↓onRef_r, ↓two_tt, ↓two_ll, ↓two_tl, ↓two_ti, ↓still_t, ↓still_ti, ↓still_l, ↓cut_tup, ↓cut_lst, ↓cut_frz, ↓cut_ti, ↓bop_titi, ↓cop_eq_ti, ↓cop_ne_ti, non_non, non_int, ty_int_int, ty_bool_int, ty_str_int, ty_tup_int, ty_lst_int, ty_dict_int, non_bl, ty_int_bl, ty_bool_bl, ty_str_bl, ty_tup_bl, ty_lst_bl, ty_dict_bl, non_str, ty_int_str, ty_bool_str, ty_str_str, ty_tup_str, ty_lst_str, ty_dict_str, non_tup, ty_int_tup, ty_bool_tup, ty_str_tup, ty_tup_tup, ty_lst_tup, ty_dict_tup, non_lst, ty_int_lst, ty_bool_lst, ty_str_lst, ty_tup_lst, ty_lst_lst, ty_dict_lst, ty_int_non, ty_int_ti, ty_bool_non, ty_bool_ti, ty_str_non, ty_str_ti, ty_tup_non, ty_tup_ti, ty_lst_non, ty_lst_ti, ty_dict_non, ty_dict_ti, ty_int_rep, ty_int_dic, ty_bool_rep, ty_bool_dic, ty_str_rep, ty_str_dic, ty_tup_rep, ty_tup_dic, ty_lst_rep, ty_lst_dic, ty_dict_rep, ty_dict_dic, ta_tup, ta_lst, ta_ti, ta_int, ta_bl, ta_str, ta_non, st_0, st_1, st_2, st_3, st_4, st_5, st_6, st_7, st_8, st_9, st_10, st_11, st_12, st_13, st_14, st_15, st_16, st_17, st_18, st_19, st_20, st_21, st_22, st_23, bp_nm, bp_tp, bp_ls, bp_ti, bps_nil, bps_nm, sts_nil, sts_cons, rowr_l, rowr_r, cat_d, wp0_nil, wp_0, wp_1, wp_2, wp_3, wp_4, wp_5, wp_6, wp_7, wp_8, wp_9, wp_10, wp_11, wp_12, wp_13, wp_14, wp_15, wp_16, wp_17, wp_18, wp_19, wp_20, wp_21, wp_22, wp_23, rng_1, rng_2, rng_3, rng_4, rng_5, rng_6, rng_7, brkT, brkF, ti1, ti2, ti3, ti4, ti5, ti6, ti_map, eq_ti, pick, List.cons_append, List.nil_append, List.map_cons, List.map_nil, List.getD_cons_zero, List.getD_cons_succ, Bool.not_true, Bool.not_false, ↓seq_v, ↓seq_f, ↓itm_v, ↓itm_f, ↓asg_v, ↓asg_f, bp_v, bp_f, bps_tv, bps_tf, ↓two_vv, ↓two_vt, ↓two_tv, ↓two_ff, ↓still_v, ↓cut_v, ↓cop_eq_v, ↓cop_ne_v, ↓cop_eq_f, ↓cop_ne_f, inD_n, inD_c, pures_c, pures_n, pure_vT, pure_fT, pure_iT, pure_bT, pure_nT, eq_v, eq_f, Bool.or_false, and_self, ↓tru_v, non_v, non_f, ty_v, ty_f, ta_v, ta_f, ↓bop_vv, ↓bop_6v, ↓cut_9a, ↓cut_9b, ↓cut_9c, tup3, tup2, v_ti, f_ti, zipD, wp_cc, true_and, decide_true, decide_false, eq_self, sz_0, sz_1, sz_2, sz_3, sz_4, sz_5, sz_6, sz_7, sz_8, sz_9, sz_10, sz_11, sz_12, enm_1, enm_2, enm_3, enm_4, enm_5, enm_6, enm_7, enm_8, enm_9, enm_10, len_1, len_2, len_3, len_4, len_5, len_6, len_7, len_8, len_9, len_10]
    rw [show [D.int (-4), .int (-3), .int (-2), .int (-1), .int 1, .int 2, .int 3, .int 4] = is8.map D.int from rfl]
    refine forC_filt (f := D.int) (p := fun i => isVd (mD (sq i q))) (fun i hi k2 h2 => ?_) ?_
    · simp only [seq_m, itm_m, mD, lc_app', fc_cons, fc_nil, ↓ev_v0, ↓ev_v1, ↓ev_v2, ↓ev_v3, ↓ev_v4, ↓ev_v5, ↓ev_v6, ↓ev_v7, ↓ev_v8, ↓ev_v9, ↓ev_v10, ↓ev_v11, ↓ev_v12, ↓ev_v13, ↓ev_v14, ↓ev_v15, ↓ev_v16, ↓ev_v17, ↓ev_v18, ↓ev_v19, ↓ev_v20, ↓ev_v21, ↓ev_v22, ↓ev_v23, ↓ev_cst, ↓ev_glb, ↓ev_bin, ↓ev_neg, ↓ev_not, ↓ev_cmp, ↓ev_cmp2, ↓ev_and, ↓ev_or, ↓ev_ite, ↓ev_tup, ↓ev_lst, ↓ev_idx, ↓ev_slc, ↓ev_call, ↓ev_callk, ↓ev_bi, ↓ev_isi, ↓ev_isi2, ↓ev_lc, ↓ev_lc2, ↓ev_tcat, ↓ev_rng, ↓ev_rng1, ↓ev_zip, ↓ev_enm, ↓ev_cnt, ↓ev_nset, ↓ev_dct, ↓ev_cat, ↓ev_isn, ↓ev_rev, ↓ev_app, ↓evs_nil, ↓evs_cons, ↓evss_nil, ↓evss_f, ↓evss_t, ↓spr_tup, ↓spr_lst, ↓spr_frz, ↓spr_ti, ↓evo_n, ↓evo_s, ↓evt_n, ↓evt_s, ↓ex_set, ↓ex_par, ↓ex_expr, ↓ex_ret, ↓ex_retN, ↓ex_iff, ↓ex_for, ↓ex_whl, ↓ex_raise, ↓ex_pass, ↓ex_brk, ↓ex_cont, ↓exs_nil, ↓exs_cons, ↓tvf, ↓tvt, ↓asB_bl, ↓asI_i, ↓bop_add, ↓bop_sub, ↓bop_mul, ↓bop_fdv, ↓bop_mod, ↓bop_pow, ↓bop_tt, ↓bop_ll, ↓bop_lm, ↓cop_eq, ↓cop_ne, ↓cop_lt, ↓cop_le, ↓cop_gt, ↓cop_ge, ↓cop_eq_rep, ↓cop_ne_rep, ↓cop_eq_tup, ↓cop_ne_tup, ↓cop_eq_lst, ↓cop_ne_lst, ↓cop_eq_str, ↓cop_ne_str, ↓cop_eq_bl, ↓cop_ne_bl, ↓cop_eq_non, ↓cop_ne_non, ↓cop_is_n, ↓cop_is_b, ↓cop_isnot_n, ↓cop_isnot_b, ↓cop_isin_lst, ↓cop_isin_tup, ↓cop_notin_lst, ↓cop_notin_tup, ↓tru_non, ↓tru_bl, ↓tru_int, ↓tru_tup, ↓tru_lst, ↓seq_tup, ↓itm_tup, ↓seq_lst, ↓itm_lst, ↓seq_frz, ↓itm_frz, ↓itm_itr, ↓seq_ref, ↓itm_ref, ↓seq_ti, ↓itm_ti, ↓onO_s, ↓nth_0, ↓nth_1, ↓nth_2, ↓nth_3, ↓nth_4, ↓nth_5, ↓nth_6, ↓nth_7, ↓nth_8, ↓nth_9, ↓nth_10, ↓nth_11, ↓nth_12, ↓bf_len, ↓bf_abs, ↓bf_max, ↓bf_min, ↓bf_int, ↓bf_intb, ↓bf_dm, ↓bf_gcd, ↓bf_all, ↓bf_any, ↓bf_sum, ↓bf_tup, ↓bf_repl, ↓bf_stri, ↓bf_rept, ↓bf_lst, ↓asg_nm, ↓asg_tp, ↓asg_ls, ↓asg_sub, ↓asg_tg, ↓asg_ti, ↓asgs_nil, ↓asgs_cons, ↓mk_f, ↓mk_t, ↓setn_l, ↓setn_r, ↓isn_lst_true, ↓isn_lst_false, ↓isn_tup_true, ↓isn_tup_false, ↓isn_ref_true, ↓isn_ref_false, ↓cnt_t, ↓rev_t, ↓rev_l, ↓rev_ti, ↓onRef_r, ↓two_tt, ↓two_ll, ↓two_tl, ↓two_ti, ↓still_t, ↓still_ti, ↓still_l, ↓cut_tup, ↓cut_lst, ↓cut_frz, ↓cut_ti, ↓bop_titi, ↓cop_eq_ti, ↓cop_ne_ti, non_non, non_int, ty_int_int, ty_bool_int, ty_str_int, ty_tup_int, ty_lst_int, ty_dict_int, non_bl, ty_int_bl, ty_bool_bl, ty_str_bl, ty_tup_bl, ty_lst_bl, ty_dict_bl, non_str, ty_int_str, ty_bool_str, ty_str_str, ty_tup_str, ty_lst_str, ty_dict_str, non_tup, ty_int_tup, ty_bool_tup, ty_str_tup, ty_tup_tup, ty_lst_tup, ty_dict_tup, non_lst, ty_int_lst, ty_bool_lst, ty_str_lst, ty_tup_lst, ty_lst_lst, ty_dict_lst, ty_int_non, ty_int_ti, ty_bool_non, ty_bool_ti, ty_str_non, ty_str_ti, ty_tup_non, ty_tup_ti, ty_lst_non, ty_lst_ti, ty_dict_non, ty_dict_ti, ty_int_rep, ty_int_dic, ty_bool_rep, ty_bool_dic, ty_str_rep, ty_str_dic, ty_tup_rep, ty_tup_dic, ty_lst_rep, ty_lst_dic, ty_dict_rep, ty_dict_dic, ta_tup, ta_lst, ta_ti, ta_int, ta_bl, ta_str, ta_non, st_0, st_1, st_2, st_3, st_4, st_5, st_6, st_7, st_8, st_9, st_10, st_11, st_12, st_13, st_14, st_15, st_16, st_17, st_18, st_19, st_20, st_21, st_22, st_23, bp_nm, bp_tp, bp_ls, bp_ti, bps_nil, bps_nm, sts_nil, sts_cons, rowr_l, rowr_r, cat_d, wp0_nil, wp_0, wp_1, wp_2, wp_3, wp_4, wp_5, wp_6, wp_7, wp_8, wp_9, wp_10, wp_11, wp_12, wp_13, wp_14, wp_15, wp_16, wp_17, wp_18, wp_19, wp_20, wp_21, wp_22, wp_23, rng_1, rng_2, rng_3, rng_4, rng_5, rng_6, rng_7, brkT, brkF, ti1, ti2, ti3, ti4, ti5, ti6, ti_map, eq_ti, pick, List.cons_append, List.nil_append, List.map_cons, List.map_nil, List.getD_cons_zero, List.getD_cons_succ, Bool.not_true, Bool.not_false, ↓seq_v, ↓seq_f, ↓itm_v, ↓itm_f, ↓asg_v, ↓asg_f, bp_v, bp_f, bps_tv, bps_tf, ↓two_vv, ↓two_vt, ↓two_tv, ↓two_ff, ↓still_v, ↓cut_v, ↓cop_eq_v, ↓cop_ne_v, ↓cop_eq_f, ↓cop_ne_f, inD_n, inD_c, pures_c, pures_n, pure_vT, pure_fT, pure_iT, pure_bT, pure_nT, eq_v, eq_f, Bool.or_false, and_self, ↓tru_v, non_v, non_f, ty_v, ty_f, ta_v, ta_f, ↓bop_vv, ↓bop_6v, ↓cut_9a, ↓cut_9b, ↓cut_9c, tup3, tup2, v_ti, f_ti, zipD, wp_cc, true_and, decide_true, decide_false, eq_self, sz_0, sz_1, sz_2, sz_3, sz_4, sz_5, sz_6, sz_7, sz_8, sz_9, sz_10, sz_11, sz_12, enm_1, enm_2, enm_3, enm_4, enm_5, enm_6, enm_7, enm_8, enm_9, enm_10, len_1, len_2, len_3, len_4, len_5, len_6, len_7, len_8, len_9, len_10]
      obtain ⟨-, hi4⟩ := is8_ok i hi
      have mo : ∀ j : Int, mulOk i j := fun j => .inl ⟨by unfold bt at hi4; omega, by unfold bt at hi4; omega⟩
      refine ⟨mo _, mo _, mo _, mo _, mo _, mo _, mo _, mo _, mo _, ?_⟩
      have bs : bm 200 (sq i q) := ⟨bv_mono (bv_sm (n := 4) (m := 3) hi4 bq.1) (by decide), bv_mono (bv_sm (n := 4) (m := 3) hi4 bq.2.1) (by decide), bv_mono (bv_sm (n := 4) (m := 3) hi4 bq.2.2) (by decide)⟩
      refine s_is_viewA14 (gdw_m bs) ?_
      show tru (.bl (isVd (mD (sq i q)))) fun b => brk b (k2 [D.int i] T9) (k2 [] T9)
      try walk_at "fx"
      refine brk_i (fun e => ?_) fun e => ?_
      · rw [show isVd (mD (sq i q)) = true from e] at h2; exact h2
      · rw [show isVd (mD (sq i q)) = false from e] at h2; exact h2
    simp only [r_law_right_v23_0_4, seq_m, itm_m, mD, lc_app', fc_cons, fc_nil, blk_app, ↓ev_v0, ↓ev_v1, ↓ev_v2, ↓ev_v3, ↓ev_v4, ↓ev_v5, ↓ev_v6, ↓ev_v7, ↓ev_v8, ↓ev_v9, ↓ev_v10, ↓ev_v11, ↓ev_v12, ↓ev_v13, ↓ev_v14, ↓ev_v15, ↓ev_v16, ↓ev_v17, ↓ev_v18, ↓ev_v19, ↓ev_v20, ↓ev_v21, ↓ev_v22, ↓ev_v23, ↓ev_cst, ↓ev_glb, ↓ev_bin, ↓ev_neg, ↓ev_not, ↓ev_cmp, ↓ev_cmp2, ↓ev_and, ↓ev_or, ↓ev_ite, ↓ev_tup, ↓ev_lst, ↓ev_idx, ↓ev_slc, ↓ev_call, ↓ev_callk, ↓ev_bi, ↓ev_isi, ↓ev_isi2, ↓ev_lc, ↓ev_lc2, ↓ev_tcat, ↓ev_rng, ↓ev_rng1, ↓ev_zip, ↓ev_enm, ↓ev_cnt, ↓ev_nset, ↓ev_dct, ↓ev_cat, ↓ev_isn, ↓ev_rev, ↓ev_app, ↓evs_nil, ↓evs_cons, ↓evss_nil, ↓evss_f, ↓evss_t, ↓spr_tup, ↓spr_lst, ↓spr_frz, ↓spr_ti, ↓evo_n, ↓evo_s, ↓evt_n, ↓evt_s, ↓ex_set, ↓ex_par, ↓ex_expr, ↓ex_ret, ↓ex_retN, ↓ex_iff, ↓ex_for, ↓ex_whl, ↓ex_raise, ↓ex_pass, ↓ex_brk, ↓ex_cont, ↓exs_nil, ↓exs_cons, ↓tvf, ↓tvt, ↓asB_bl, ↓asI_i, ↓bop_add, ↓bop_sub, ↓bop_mul, ↓bop_fdv, ↓bop_mod, ↓bop_pow, ↓bop_tt, ↓bop_ll, ↓bop_lm, ↓cop_eq, ↓cop_ne, ↓cop_lt, ↓cop_le, ↓cop_gt, ↓cop_ge, ↓cop_eq_rep, ↓cop_ne_rep, ↓cop_eq_tup, ↓cop_ne_tup, ↓cop_eq_lst, ↓cop_ne_lst, ↓cop_eq_str, ↓cop_ne_str, ↓cop_eq_bl, ↓cop_ne_bl, ↓cop_eq_non, ↓cop_ne_non, ↓cop_is_n, ↓cop_is_b, ↓cop_isnot_n, ↓cop_isnot_b, ↓cop_isin_lst, ↓cop_isin_tup, ↓cop_notin_lst, ↓cop_notin_tup, ↓tru_non, ↓tru_bl, ↓tru_int, ↓tru_tup, ↓tru_lst, ↓seq_tup, ↓itm_tup, ↓seq_lst, ↓itm_lst, ↓seq_frz, ↓itm_frz, ↓itm_itr, ↓seq_ref, ↓itm_ref, ↓seq_ti, ↓itm_ti, ↓onO_s, ↓nth_0, ↓nth_1, ↓nth_2, ↓nth_3, ↓nth_4, ↓nth_5, ↓nth_6, ↓nth_7, ↓nth_8, ↓nth_9, ↓nth_10, ↓nth_11, ↓nth_12, ↓bf_len, ↓bf_abs, ↓bf_max, ↓bf_min, ↓bf_int, ↓bf_intb, ↓bf_dm, ↓bf_gcd, ↓bf_all, ↓bf_any, ↓bf_sum, ↓bf_tup, ↓bf_repl, ↓bf_stri, ↓bf_rept, ↓bf_lst, ↓asg_nm, ↓asg_tp, ↓asg_ls, ↓asg_sub, ↓asg_tg, ↓asg_ti, ↓asgs_nil, ↓asgs_cons, ↓mk_f, ↓mk_t, ↓setn_l, ↓setn_r, ↓isn_lst_true, ↓isn_lst_false, ↓isn_tup_true, ↓isn_tup_false, ↓isn_ref_true, ↓isn_ref_false, ↓cnt_t, ↓rev_t, ↓rev_l, ↓rev_ti, ↓onRef_r, ↓two_tt, ↓two_ll, ↓two_tl, ↓two_ti, ↓still_t, ↓still_ti, ↓still_l, ↓cut_tup, ↓cut_lst, ↓cut_frz, ↓cut_ti, ↓bop_titi, ↓cop_eq_ti, ↓cop_ne_ti, non_non, non_int, ty_int_int, ty_bool_int, ty_str_int, ty_tup_int, ty_lst_int, ty_dict_int, non_bl, ty_int_bl, ty_bool_bl, ty_str_bl, ty_tup_bl, ty_lst_bl, ty_dict_bl, non_str, ty_int_str, ty_bool_str, ty_str_str, ty_tup_str, ty_lst_str, ty_dict_str, non_tup, ty_int_tup, ty_bool_tup, ty_str_tup, ty_tup_tup, ty_lst_tup, ty_dict_tup, non_lst, ty_int_lst, ty_bool_lst, ty_str_lst, ty_tup_lst, ty_lst_lst, ty_dict_lst, ty_int_non, ty_int_ti, ty_bool_non, ty_bool_ti, ty_str_non, ty_str_ti, ty_tup_non, ty_tup_ti, ty_lst_non, ty_lst_ti, ty_dict_non, ty_dict_ti, ty_int_rep, ty_int_dic, ty_bool_rep, ty_bool_dic, ty_str_rep, ty_str_dic, ty_tup_rep, ty_tup_dic, ty_lst_rep, ty_lst_dic, ty_dict_rep, ty_dict_dic, ta_tup, ta_lst, ta_ti, ta_int, ta_bl, ta_str, ta_non, st_0, st_1, st_2, st_3, st_4, st_5, st_6, st_7, st_8, st_9, st_10, st_11, st_12, st_13, st_14, st_15, st_16, st_17, st_18, st_19, st_20, st_21, st_22, st_23, bp_nm, bp_tp, bp_ls, bp_ti, bps_nil, bps_nm, sts_nil, sts_cons, rowr_l, rowr_r, cat_d, wp0_nil, wp_0, wp_1, wp_2, wp_3, wp_4, wp_5, wp_6, wp_7, wp_8, wp_9, wp_10, wp_11, wp_12, wp_13, wp_14, wp_15, wp_16, wp_17, wp_18, wp_19, wp_20, wp_21, wp_22, wp_23, rng_1, rng_2, rng_3, rng_4, rng_5, rng_6, rng_7, brkT, brkF, ti1, ti2, ti3, ti4, ti5, ti6, ti_map, eq_ti, pick, List.cons_append, List.nil_append, List.map_cons, List.map_nil, List.getD_cons_zero, List.getD_cons_succ, Bool.not_true, Bool.not_false, ↓seq_v, ↓seq_f, ↓itm_v, ↓itm_f, ↓asg_v, ↓asg_f, bp_v, bp_f, bps_tv, bps_tf, ↓two_vv, ↓two_vt, ↓two_tv, ↓two_ff, ↓still_v, ↓cut_v, ↓cop_eq_v, ↓cop_ne_v, ↓cop_eq_f, ↓cop_ne_f, inD_n, inD_c, pures_c, pures_n, pure_vT, pure_fT, pure_iT, pure_bT, pure_nT, eq_v, eq_f, Bool.or_false, and_self, ↓tru_v, non_v, non_f, ty_v, ty_f, ta_v, ta_f, ↓bop_vv, ↓bop_6v, ↓cut_9a, ↓cut_9b, ↓cut_9c, tup3, tup2, v_ti, f_ti, zipD, wp_cc, true_and, decide_true, decide_false, eq_self, sz_0, sz_1, sz_2, sz_3, sz_4, sz_5, sz_6, sz_7, sz_8, sz_9, sz_10, sz_11, sz_12, enm_1, enm_2, enm_3, enm_4, enm_5, enm_6, enm_7, enm_8, enm_9, enm_10, len_1, len_2, len_3, len_4, len_5, len_6, len_7, len_8, len_9, len_10]
    have lf : (is8.filter fun i => isVd (.tup [vD (sq i q).a, vD (sq i q).b, vD (sq i q).c])).length ≤ 1 := by
      refine fil1 (by decide) fun i hi j hj pi pj => ?_
      have vi : isVd (mD (sq i q)) = true := pi
      have vj : isVd (mD (sq j q)) = true := pj
      rw [isV_m] at vi vj
      exact sq_uni (is8_ok i hi).1 (is8_ok j hj).1 (of_decide_eq_true vi) (of_decide_eq_true vj)
    refine brk_f (decide_eq_false (by rw [List.length_map]; omega)) ?_
    have bq2 : bm 200 q := ⟨bv_mono bq.1 (by decide), bv_mono bq.2.1 (by decide), bv_mono bq.2.2 (by decide)⟩
    have bq3 : bm 200 (⟨q.a, q.b, q.a⟩ : M3) := ⟨bq2.1, bq2.2.1, bq2.1⟩
    refine s_is_viewA14 (gdw_m bq2) ?_
    refine s_law_is_viewA (gdw_m bq2) ?_
    refine brk_eq14 ?_
    refine s_is_viewA14 (gdw_m bq3) ?_
    have n3 : ¬ Vw (⟨q.a, q.b, q.a⟩ : M3) := fun w => w.2 (by simp only [det, bk, dt, cr]; grind)
    rw [show isVd (.tup [vD q.a, vD q.b, vD q.a]) = _ from isV_m (m := ⟨q.a, q.b, q.a⟩), decide_eq_false n3]
    try walk_at "fx"
    exact hK _ _ ⟨e9.pl, _, _, _, _, _, _, _, _, _, _, _, rfl⟩
  · rintro σ S1 ⟨hp0, x1, x2, x3, x4, x5, x6, x7, x8, x9, x10, x11, rfl⟩
    simp only [↓ev_v0, ↓ev_v1, ↓ev_v2, ↓ev_v3, ↓ev_v4, ↓ev_v5, ↓ev_v6, ↓ev_v7, ↓ev_v8, ↓ev_v9, ↓ev_v10, ↓ev_v11, ↓ev_v12, ↓ev_v13, ↓ev_v14, ↓ev_v15, ↓ev_v16, ↓ev_v17, ↓ev_v18, ↓ev_v19, ↓ev_v20, ↓ev_v21, ↓ev_v22, ↓ev_v23, ↓ev_cst, ↓ev_glb, ↓ev_bin, ↓ev_neg, ↓ev_not, ↓ev_cmp, ↓ev_cmp2, ↓ev_and, ↓ev_or, ↓ev_ite, ↓ev_tup, ↓ev_lst, ↓ev_idx, ↓ev_slc, ↓ev_call, ↓ev_callk, ↓ev_bi, ↓ev_isi, ↓ev_isi2, ↓ev_lc, ↓ev_lc2, ↓ev_tcat, ↓ev_rng, ↓ev_rng1, ↓ev_zip, ↓ev_enm, ↓ev_cnt, ↓ev_nset, ↓ev_dct, ↓ev_cat, ↓ev_isn, ↓ev_rev, ↓ev_app, ↓evs_nil, ↓evs_cons, ↓evss_nil, ↓evss_f, ↓evss_t, ↓spr_tup, ↓spr_lst, ↓spr_frz, ↓spr_ti, ↓evo_n, ↓evo_s, ↓evt_n, ↓evt_s, ↓ex_set, ↓ex_par, ↓ex_expr, ↓ex_ret, ↓ex_retN, ↓ex_iff, ↓ex_for, ↓ex_whl, ↓ex_raise, ↓ex_pass, ↓ex_brk, ↓ex_cont, ↓exs_nil, ↓exs_cons, ↓tvf, ↓tvt, ↓asB_bl, ↓asI_i, ↓bop_add, ↓bop_sub, ↓bop_mul, ↓bop_fdv, ↓bop_mod, ↓bop_pow, ↓bop_tt, ↓bop_ll, ↓bop_lm, ↓cop_eq, ↓cop_ne, ↓cop_lt, ↓cop_le, ↓cop_gt, ↓cop_ge, ↓cop_eq_rep, ↓cop_ne_rep, ↓cop_eq_tup, ↓cop_ne_tup, ↓cop_eq_lst, ↓cop_ne_lst, ↓cop_eq_str, ↓cop_ne_str, ↓cop_eq_bl, ↓cop_ne_bl, ↓cop_eq_non, ↓cop_ne_non, ↓cop_is_n, ↓cop_is_b, ↓cop_isnot_n, ↓cop_isnot_b, ↓cop_isin_lst, ↓cop_isin_tup, ↓cop_notin_lst, ↓cop_notin_tup, ↓tru_non, ↓tru_bl, ↓tru_int, ↓tru_tup, ↓tru_lst, ↓seq_tup, ↓itm_tup, ↓seq_lst, ↓itm_lst, ↓seq_frz, ↓itm_frz, ↓itm_itr, ↓seq_ref, ↓itm_ref, ↓seq_ti, ↓itm_ti, ↓onO_s, ↓nth_0, ↓nth_1, ↓nth_2, ↓nth_3, ↓nth_4, ↓nth_5, ↓nth_6, ↓nth_7, ↓nth_8, ↓nth_9, ↓nth_10, ↓nth_11, ↓nth_12, ↓bf_len, ↓bf_abs, ↓bf_max, ↓bf_min, ↓bf_int, ↓bf_intb, ↓bf_dm, ↓bf_gcd, ↓bf_all, ↓bf_any, ↓bf_sum, ↓bf_tup, ↓bf_repl, ↓bf_stri, ↓bf_rept, ↓bf_lst, ↓asg_nm, ↓asg_tp, ↓asg_ls, ↓asg_sub, ↓asg_tg, ↓asg_ti, ↓asgs_nil, ↓asgs_cons, ↓mk_f, ↓mk_t, ↓setn_l, ↓setn_r, ↓isn_lst_true, ↓isn_lst_false, ↓isn_tup_true, ↓isn_tup_false, ↓isn_ref_true, ↓isn_ref_false, ↓cnt_t, ↓rev_t, ↓rev_l, ↓rev_ti, ↓onRef_r, ↓two_tt, ↓two_ll, ↓two_tl, ↓two_ti, ↓still_t, ↓still_ti, ↓still_l, ↓cut_tup, ↓cut_lst, ↓cut_frz, ↓cut_ti, ↓bop_titi, ↓cop_eq_ti, ↓cop_ne_ti, non_non, non_int, ty_int_int, ty_bool_int, ty_str_int, ty_tup_int, ty_lst_int, ty_dict_int, non_bl, ty_int_bl, ty_bool_bl, ty_str_bl, ty_tup_bl, ty_lst_bl, ty_dict_bl, non_str, ty_int_str, ty_bool_str, ty_str_str, ty_tup_str, ty_lst_str, ty_dict_str, non_tup, ty_int_tup, ty_bool_tup, ty_str_tup, ty_tup_tup, ty_lst_tup, ty_dict_tup, non_lst, ty_int_lst, ty_bool_lst, ty_str_lst, ty_tup_lst, ty_lst_lst, ty_dict_lst, ty_int_non, ty_int_ti, ty_bool_non, ty_bool_ti, ty_str_non, ty_str_ti, ty_tup_non, ty_tup_ti, ty_lst_non, ty_lst_ti, ty_dict_non, ty_dict_ti, ty_int_rep, ty_int_dic, ty_bool_rep, ty_bool_dic, ty_str_rep, ty_str_dic, ty_tup_rep, ty_tup_dic, ty_lst_rep, ty_lst_dic, ty_dict_rep, ty_dict_dic, ta_tup, ta_lst, ta_ti, ta_int, ta_bl, ta_str, ta_non, st_0, st_1, st_2, st_3, st_4, st_5, st_6, st_7, st_8, st_9, st_10, st_11, st_12, st_13, st_14, st_15, st_16, st_17, st_18, st_19, st_20, st_21, st_22, st_23, bp_nm, bp_tp, bp_ls, bp_ti, bps_nil, bps_nm, sts_nil, sts_cons, rowr_l, rowr_r, cat_d, wp0_nil, wp_0, wp_1, wp_2, wp_3, wp_4, wp_5, wp_6, wp_7, wp_8, wp_9, wp_10, wp_11, wp_12, wp_13, wp_14, wp_15, wp_16, wp_17, wp_18, wp_19, wp_20, wp_21, wp_22, wp_23, rng_1, rng_2, rng_3, rng_4, rng_5, rng_6, rng_7, brkT, brkF, ti1, ti2, ti3, ti4, ti5, ti6, ti_map, eq_ti, pick, List.cons_append, List.nil_append, List.map_cons, List.map_nil, List.getD_cons_zero, List.getD_cons_succ, Bool.not_true, Bool.not_false, ↓seq_v, ↓seq_f, ↓itm_v, ↓itm_f, ↓asg_v, ↓asg_f, bp_v, bp_f, bps_tv, bps_tf, ↓two_vv, ↓two_vt, ↓two_tv, ↓two_ff, ↓still_v, ↓cut_v, ↓cop_eq_v, ↓cop_ne_v, ↓cop_eq_f, ↓cop_ne_f, inD_n, inD_c, pures_c, pures_n, pure_vT, pure_fT, pure_iT, pure_bT, pure_nT, eq_v, eq_f, Bool.or_false, and_self, ↓tru_v, non_v, non_f, ty_v, ty_f, ta_v, ta_f, ↓bop_vv, ↓bop_6v, ↓cut_9a, ↓cut_9b, ↓cut_9c, tup3, tup2, v_ti, f_ti, zipD, wp_cc, true_and, decide_true, decide_false, eq_self, sz_0, sz_1, sz_2, sz_3, sz_4, sz_5, sz_6, sz_7, sz_8, sz_9, sz_10, sz_11, sz_12, enm_1, enm_2, enm_3, enm_4, enm_5, enm_6, enm_7, enm_8, enm_9, enm_10, len_1, len_2, len_3, len_4, len_5, len_6, len_7, len_8, len_9, len_10]
    have b4 : bm 200 (⟨⟨1, 0, 0⟩, ⟨0, 1, 0⟩, ⟨0, 0, 1⟩⟩ : M3) := ⟨by decide, by decide, by decide⟩
    have b5 : bm 200 (⟨⟨1, 2, 3⟩, ⟨4, 5, 6⟩, ⟨7, 8, 9⟩⟩ : M3) := ⟨by decide, by decide, by decide⟩
    refine s_is_viewA14 (gdw_m b4) ?_
    rw [show isVd (.tup [vD ⟨1, 0, 0⟩, vD ⟨0, 1, 0⟩, vD ⟨0, 0, 1⟩]) = _ from isV_m (m := ⟨⟨1, 0, 0⟩, ⟨0, 1, 0⟩, ⟨0, 0, 1⟩⟩), decide_eq_true (show Vw ⟨⟨1, 0, 0⟩, ⟨0, 1, 0⟩, ⟨0, 0, 1⟩⟩ by decide)]
    try walk_at "fx"
    refine s_is_viewA14 (gdw_m b5) ?_
    rw [show isVd (.tup [vD ⟨1, 2, 3⟩, vD ⟨4, 5, 6⟩, vD ⟨7, 8, 9⟩]) = _ from isV_m (m := ⟨⟨1, 2, 3⟩, ⟨4, 5, 6⟩, ⟨7, 8, 9⟩⟩), decide_eq_false (show ¬ Vw ⟨⟨1, 2, 3⟩, ⟨4, 5, 6⟩, ⟨7, 8, 9⟩⟩ by decide)]
    try walk_at "fx"
    exact h _
end
theorem law_k14 (ns : List Int) (hn : ns.length ≤ 63) : callw TG (40 + 1) i_law_v34 [.frz (ns.map D.int)] [] (fun d _ => d = .bl true) XF := by
  rw [← CT_eq]
  refine c_law_v34 ?_
  simp only [f_law_v34, ↓ev_v0, ↓ev_v1, ↓ev_v2, ↓ev_v3, ↓ev_v4, ↓ev_v5, ↓ev_v6, ↓ev_v7, ↓ev_v8, ↓ev_v9, ↓ev_v10, ↓ev_v11, ↓ev_v12, ↓ev_v13, ↓ev_v14, ↓ev_v15, ↓ev_v16, ↓ev_v17, ↓ev_v18, ↓ev_v19, ↓ev_v20, ↓ev_v21, ↓ev_v22, ↓ev_v23, ↓ev_cst, ↓ev_glb, ↓ev_bin, ↓ev_neg, ↓ev_not, ↓ev_cmp, ↓ev_cmp2, ↓ev_and, ↓ev_or, ↓ev_ite, ↓ev_tup, ↓ev_lst, ↓ev_idx, ↓ev_slc, ↓ev_call, ↓ev_callk, ↓ev_bi, ↓ev_isi, ↓ev_isi2, ↓ev_lc, ↓ev_lc2, ↓ev_tcat, ↓ev_rng, ↓ev_rng1, ↓ev_zip, ↓ev_enm, ↓ev_cnt, ↓ev_nset, ↓ev_dct, ↓ev_cat, ↓ev_isn, ↓ev_rev, ↓ev_app, ↓evs_nil, ↓evs_cons, ↓evss_nil, ↓evss_f, ↓evss_t, ↓spr_tup, ↓spr_lst, ↓spr_frz, ↓spr_ti, ↓evo_n, ↓evo_s, ↓evt_n, ↓evt_s, ↓ex_set, ↓ex_par, ↓ex_expr, ↓ex_ret, ↓ex_retN, ↓ex_iff, ↓ex_for, ↓ex_whl, ↓ex_raise, ↓ex_pass, ↓ex_brk, ↓ex_cont, ↓exs_nil, ↓exs_cons, ↓tvf, ↓tvt, ↓asB_bl, ↓asI_i, ↓bop_add, ↓bop_sub, ↓bop_mul, ↓bop_fdv, ↓bop_mod, ↓bop_pow, ↓bop_tt, ↓bop_ll, ↓bop_lm, ↓cop_eq, ↓cop_ne, ↓cop_lt, ↓cop_le, ↓cop_gt, ↓cop_ge, ↓cop_eq_rep, ↓cop_ne_rep, ↓cop_eq_tup, ↓cop_ne_tup, ↓cop_eq_lst, ↓cop_ne_lst, ↓cop_eq_str, ↓cop_ne_str, ↓cop_eq_bl, ↓cop_ne_bl, ↓cop_eq_non, ↓cop_ne_non, ↓cop_is_n, ↓cop_is_b, ↓cop_isnot_n, ↓cop_isnot_b, ↓cop_isin_lst, ↓cop_isin_tup, ↓cop_notin_lst, ↓cop_notin_tup, ↓tru_non, ↓tru_bl, ↓tru_int, ↓tru_tup, ↓tru_lst, ↓seq_tup, ↓itm_tup, ↓seq_lst, ↓itm_lst, ↓seq_frz, ↓itm_frz, ↓itm_itr, ↓seq_ref, ↓itm_ref, ↓seq_ti, ↓itm_ti, ↓onO_s, ↓nth_0, ↓nth_1, ↓nth_2, ↓nth_3, ↓nth_4, ↓nth_5, ↓nth_6, ↓nth_7, ↓nth_8, ↓nth_9, ↓nth_10, ↓nth_11, ↓nth_12, ↓bf_len, ↓bf_abs, ↓bf_max, ↓bf_min, ↓bf_int, ↓bf_intb, ↓bf_dm, ↓bf_gcd, ↓bf_all, ↓bf_any, ↓bf_sum, ↓bf_tup, ↓bf_repl, ↓bf_stri, ↓bf_rept, ↓bf_lst, ↓asg_nm, ↓asg_tp, ↓asg_ls, ↓asg_sub, ↓asg_tg, ↓asg_ti, ↓asgs_nil, ↓asgs_cons, ↓mk_f, ↓mk_t, ↓setn_l, ↓setn_r, ↓isn_lst_true, ↓isn_lst_false, ↓isn_tup_true, ↓isn_tup_false, ↓isn_ref_true, ↓isn_ref_false, ↓cnt_t, ↓rev_t, ↓rev_l, ↓rev_ti, ↓onRef_r, ↓two_tt, ↓two_ll, ↓two_tl, ↓two_ti, ↓still_t, ↓still_ti, ↓still_l, ↓cut_tup, ↓cut_lst, ↓cut_frz, ↓cut_ti, ↓bop_titi, ↓cop_eq_ti, ↓cop_ne_ti, non_non, non_int, ty_int_int, ty_bool_int, ty_str_int, ty_tup_int, ty_lst_int, ty_dict_int, non_bl, ty_int_bl, ty_bool_bl, ty_str_bl, ty_tup_bl, ty_lst_bl, ty_dict_bl, non_str, ty_int_str, ty_bool_str, ty_str_str, ty_tup_str, ty_lst_str, ty_dict_str, non_tup, ty_int_tup, ty_bool_tup, ty_str_tup, ty_tup_tup, ty_lst_tup, ty_dict_tup, non_lst, ty_int_lst, ty_bool_lst, ty_str_lst, ty_tup_lst, ty_lst_lst, ty_dict_lst, ty_int_non, ty_int_ti, ty_bool_non, ty_bool_ti, ty_str_non, ty_str_ti, ty_tup_non, ty_tup_ti, ty_lst_non, ty_lst_ti, ty_dict_non, ty_dict_ti, ty_int_rep, ty_int_dic, ty_bool_rep, ty_bool_dic, ty_str_rep, ty_str_dic, ty_tup_rep, ty_tup_dic, ty_lst_rep, ty_lst_dic, ty_dict_rep, ty_dict_dic, ta_tup, ta_lst, ta_ti, ta_int, ta_bl, ta_str, ta_non, st_0, st_1, st_2, st_3, st_4, st_5, st_6, st_7, st_8, st_9, st_10, st_11, st_12, st_13, st_14, st_15, st_16, st_17, st_18, st_19, st_20, st_21, st_22, st_23, bp_nm, bp_tp, bp_ls, bp_ti, bps_nil, bps_nm, sts_nil, sts_cons, rowr_l, rowr_r, cat_d, wp0_nil, wp_0, wp_1, wp_2, wp_3, wp_4, wp_5, wp_6, wp_7, wp_8, wp_9, wp_10, wp_11, wp_12, wp_13, wp_14, wp_15, wp_16, wp_17, wp_18, wp_19, wp_20, wp_21, wp_22, wp_23, rng_1, rng_2, rng_3, rng_4, rng_5, rng_6, rng_7, brkT, brkF, ti1, ti2, ti3, ti4, ti5, ti6, ti_map, eq_ti, pick, List.cons_append, List.nil_append, List.map_cons, List.map_nil, List.getD_cons_zero, List.getD_cons_succ, Bool.not_true, Bool.not_false, List.length_map]
  refine ⟨by (repeat' split) <;> omega, ?_⟩
  refine forW_inv (I := fun ds σ _ => (∀ d ∈ ds, ∃ t : Int, 0 ≤ t ∧ d = .int t) ∧ ∃ x1, σ = [some (.frz (ns.map D.int)), x1]) ⟨fun d hd => mem_rng04 (by decide) hd, _, rfl⟩ ?_ ?_
  · rintro d ds σ S ⟨hd, x1, rfl⟩
    obtain ⟨t, t0, rfl⟩ := hd d List.mem_cons_self
    refine ⟨_, rfl, fun K hK => ?_⟩
    simp only [blk_app, ↓ev_v0, ↓ev_v1, ↓ev_v2, ↓ev_v3, ↓ev_v4, ↓ev_v5, ↓ev_v6, ↓ev_v7, ↓ev_v8, ↓ev_v9, ↓ev_v10, ↓ev_v11, ↓ev_v12, ↓ev_v13, ↓ev_v14, ↓ev_v15, ↓ev_v16, ↓ev_v17, ↓ev_v18, ↓ev_v19, ↓ev_v20, ↓ev_v21, ↓ev_v22, ↓ev_v23, ↓ev_cst, ↓ev_glb, ↓ev_bin, ↓ev_neg, ↓ev_not, ↓ev_cmp, ↓ev_cmp2, ↓ev_and, ↓ev_or, ↓ev_ite, ↓ev_tup, ↓ev_lst, ↓ev_idx, ↓ev_slc, ↓ev_call, ↓ev_callk, ↓ev_bi, ↓ev_isi, ↓ev_isi2, ↓ev_lc, ↓ev_lc2, ↓ev_tcat, ↓ev_rng, ↓ev_rng1, ↓ev_zip, ↓ev_enm, ↓ev_cnt, ↓ev_nset, ↓ev_dct, ↓ev_cat, ↓ev_isn, ↓ev_rev, ↓ev_app, ↓evs_nil, ↓evs_cons, ↓evss_nil, ↓evss_f, ↓evss_t, ↓spr_tup, ↓spr_lst, ↓spr_frz, ↓spr_ti, ↓evo_n, ↓evo_s, ↓evt_n, ↓evt_s, ↓ex_set, ↓ex_par, ↓ex_expr, ↓ex_ret, ↓ex_retN, ↓ex_iff, ↓ex_for, ↓ex_whl, ↓ex_raise, ↓ex_pass, ↓ex_brk, ↓ex_cont, ↓exs_nil, ↓exs_cons, ↓tvf, ↓tvt, ↓asB_bl, ↓asI_i, ↓bop_add, ↓bop_sub, ↓bop_mul, ↓bop_fdv, ↓bop_mod, ↓bop_pow, ↓bop_tt, ↓bop_ll, ↓bop_lm, ↓cop_eq, ↓cop_ne, ↓cop_lt, ↓cop_le, ↓cop_gt, ↓cop_ge, ↓cop_eq_rep, ↓cop_ne_rep, ↓cop_eq_tup, ↓cop_ne_tup, ↓cop_eq_lst, ↓cop_ne_lst, ↓cop_eq_str, ↓cop_ne_str, ↓cop_eq_bl, ↓cop_ne_bl, ↓cop_eq_non, ↓cop_ne_non, ↓cop_is_n, ↓cop_is_b, ↓cop_isnot_n, ↓cop_isnot_b, ↓cop_isin_lst, ↓cop_isin_tup, ↓cop_notin_lst, ↓cop_notin_tup, ↓tru_non, ↓tru_bl, ↓tru_int, ↓tru_tup, ↓tru_lst, ↓seq_tup, ↓itm_tup, ↓seq_lst, ↓itm_lst, ↓seq_frz, ↓itm_frz, ↓itm_itr, ↓seq_ref, ↓itm_ref, ↓seq_ti, ↓itm_ti, ↓onO_s, ↓nth_0, ↓nth_1, ↓nth_2, ↓nth_3, ↓nth_4, ↓nth_5, ↓nth_6, ↓nth_7, ↓nth_8, ↓nth_9, ↓nth_10, ↓nth_11, ↓nth_12, ↓bf_len, ↓bf_abs, ↓bf_max, ↓bf_min, ↓bf_int, ↓bf_intb, ↓bf_dm, ↓bf_gcd, ↓bf_all, ↓bf_any, ↓bf_sum, ↓bf_tup, ↓bf_repl, ↓bf_stri, ↓bf_rept, ↓bf_lst, ↓asg_nm, ↓asg_tp, ↓asg_ls, ↓asg_sub, ↓asg_tg, ↓asg_ti, ↓asgs_nil, ↓asgs_cons, ↓mk_f, ↓mk_t, ↓setn_l, ↓setn_r, ↓isn_lst_true, ↓isn_lst_false, ↓isn_tup_true, ↓isn_tup_false, ↓isn_ref_true, ↓isn_ref_false, ↓cnt_t, ↓rev_t, ↓rev_l, ↓rev_ti, ↓onRef_r, ↓two_tt, ↓two_ll, ↓two_tl, ↓two_ti, ↓still_t, ↓still_ti, ↓still_l, ↓cut_tup, ↓cut_lst, ↓cut_frz, ↓cut_ti, ↓bop_titi, ↓cop_eq_ti, ↓cop_ne_ti, non_non, non_int, ty_int_int, ty_bool_int, ty_str_int, ty_tup_int, ty_lst_int, ty_dict_int, non_bl, ty_int_bl, ty_bool_bl, ty_str_bl, ty_tup_bl, ty_lst_bl, ty_dict_bl, non_str, ty_int_str, ty_bool_str, ty_str_str, ty_tup_str, ty_lst_str, ty_dict_str, non_tup, ty_int_tup, ty_bool_tup, ty_str_tup, ty_tup_tup, ty_lst_tup, ty_dict_tup, non_lst, ty_int_lst, ty_bool_lst, ty_str_lst, ty_tup_lst, ty_lst_lst, ty_dict_lst, ty_int_non, ty_int_ti, ty_bool_non, ty_bool_ti, ty_str_non, ty_str_ti, ty_tup_non, ty_tup_ti, ty_lst_non, ty_lst_ti, ty_dict_non, ty_dict_ti, ty_int_rep, ty_int_dic, ty_bool_rep, ty_bool_dic, ty_str_rep, ty_str_dic, ty_tup_rep, ty_tup_dic, ty_lst_rep, ty_lst_dic, ty_dict_rep, ty_dict_dic, ta_tup, ta_lst, ta_ti, ta_int, ta_bl, ta_str, ta_non, st_0, st_1, st_2, st_3, st_4, st_5, st_6, st_7, st_8, st_9, st_10, st_11, st_12, st_13, st_14, st_15, st_16, st_17, st_18, st_19, st_20, st_21, st_22, st_23, bp_nm, bp_tp, bp_ls, bp_ti, bps_nil, bps_nm, sts_nil, sts_cons, rowr_l, rowr_r, cat_d, wp0_nil, wp_0, wp_1, wp_2, wp_3, wp_4, wp_5, wp_6, wp_7, wp_8, wp_9, wp_10, wp_11, wp_12, wp_13, wp_14, wp_15, wp_16, wp_17, wp_18, wp_19, wp_20, wp_21, wp_22, wp_23, rng_1, rng_2, rng_3, rng_4, rng_5, rng_6, rng_7, brkT, brkF, ti1, ti2, ti3, ti4, ti5, ti6, ti_map, eq_ti, pick, List.cons_append, List.nil_append, List.map_cons, List.map_nil, List.getD_cons_zero, List.getD_cons_succ, Bool.not_true, Bool.not_false, ↓seq_v, ↓seq_f, ↓itm_v, ↓itm_f, ↓asg_v, ↓asg_f, bp_v, bp_f, bps_tv, bps_tf, ↓two_vv, ↓two_vt, ↓two_tv, ↓two_ff, ↓still_v, ↓cut_v, ↓cop_eq_v, ↓cop_ne_v, ↓cop_eq_f, ↓cop_ne_f, inD_n, inD_c, pures_c, pures_n, pure_vT, pure_fT, pure_iT, pure_bT, pure_nT, eq_v, eq_f, Bool.or_false, and_self, ↓tru_v, non_v, non_f, ty_v, ty_f, ta_v, ta_f, ↓bop_vv, ↓bop_6v, ↓cut_9a, ↓cut_9b, ↓cut_9c, tup3, tup2, v_ti, f_ti, zipD, wp_cc, true_and, decide_true, decide_false, eq_self, sz_0, sz_1, sz_2, sz_3, sz_4, sz_5, sz_6, sz_7, sz_8, sz_9, sz_10, sz_11, sz_12, enm_1, enm_2, enm_3, enm_4, enm_5, enm_6, enm_7, enm_8, enm_9, enm_10, len_1, len_2, len_3, len_4, len_5, len_6, len_7, len_8, len_9, len_10]
    refine s_law_pool_k14 t0 fun a b c => ?_
    refine s_right14 Dr.new fun S' => ?_
    try walk_at "fx"
    exact hK _ _ ⟨fun e he => hd e (List.mem_cons_of_mem _ he), _, rfl⟩
  · rintro σ S ⟨_, x1, rfl⟩
    simp only [↓ev_v0, ↓ev_v1, ↓ev_v2, ↓ev_v3, ↓ev_v4, ↓ev_v5, ↓ev_v6, ↓ev_v7, ↓ev_v8, ↓ev_v9, ↓ev_v10, ↓ev_v11, ↓ev_v12, ↓ev_v13, ↓ev_v14, ↓ev_v15, ↓ev_v16, ↓ev_v17, ↓ev_v18, ↓ev_v19, ↓ev_v20, ↓ev_v21, ↓ev_v22, ↓ev_v23, ↓ev_cst, ↓ev_glb, ↓ev_bin, ↓ev_neg, ↓ev_not, ↓ev_cmp, ↓ev_cmp2, ↓ev_and, ↓ev_or, ↓ev_ite, ↓ev_tup, ↓ev_lst, ↓ev_idx, ↓ev_slc, ↓ev_call, ↓ev_callk, ↓ev_bi, ↓ev_isi, ↓ev_isi2, ↓ev_lc, ↓ev_lc2, ↓ev_tcat, ↓ev_rng, ↓ev_rng1, ↓ev_zip, ↓ev_enm, ↓ev_cnt, ↓ev_nset, ↓ev_dct, ↓ev_cat, ↓ev_isn, ↓ev_rev, ↓ev_app, ↓evs_nil, ↓evs_cons, ↓evss_nil, ↓evss_f, ↓evss_t, ↓spr_tup, ↓spr_lst, ↓spr_frz, ↓spr_ti, ↓evo_n, ↓evo_s, ↓evt_n, ↓evt_s, ↓ex_set, ↓ex_par, ↓ex_expr, ↓ex_ret, ↓ex_retN, ↓ex_iff, ↓ex_for, ↓ex_whl, ↓ex_raise, ↓ex_pass, ↓ex_brk, ↓ex_cont, ↓exs_nil, ↓exs_cons, ↓tvf, ↓tvt, ↓asB_bl, ↓asI_i, ↓bop_add, ↓bop_sub, ↓bop_mul, ↓bop_fdv, ↓bop_mod, ↓bop_pow, ↓bop_tt, ↓bop_ll, ↓bop_lm, ↓cop_eq, ↓cop_ne, ↓cop_lt, ↓cop_le, ↓cop_gt, ↓cop_ge, ↓cop_eq_rep, ↓cop_ne_rep, ↓cop_eq_tup, ↓cop_ne_tup, ↓cop_eq_lst, ↓cop_ne_lst, ↓cop_eq_str, ↓cop_ne_str, ↓cop_eq_bl, ↓cop_ne_bl, ↓cop_eq_non, ↓cop_ne_non, ↓cop_is_n, ↓cop_is_b, ↓cop_isnot_n, ↓cop_isnot_b, ↓cop_isin_lst, ↓cop_isin_tup, ↓cop_notin_lst, ↓cop_notin_tup, ↓tru_non, ↓tru_bl, ↓tru_int, ↓tru_tup, ↓tru_lst, ↓seq_tup, ↓itm_tup, ↓seq_lst, ↓itm_lst, ↓seq_frz, ↓itm_frz, ↓itm_itr, ↓seq_ref, ↓itm_ref, ↓seq_ti, ↓itm_ti, ↓onO_s, ↓nth_0, ↓nth_1, ↓nth_2, ↓nth_3, ↓nth_4, ↓nth_5, ↓nth_6, ↓nth_7, ↓nth_8, ↓nth_9, ↓nth_10, ↓nth_11, ↓nth_12, ↓bf_len, ↓bf_abs, ↓bf_max, ↓bf_min, ↓bf_int, ↓bf_intb, ↓bf_dm, ↓bf_gcd, ↓bf_all, ↓bf_any, ↓bf_sum, ↓bf_tup, ↓bf_repl, ↓bf_stri, ↓bf_rept, ↓bf_lst, ↓asg_nm, ↓asg_tp, ↓asg_ls, ↓asg_sub, ↓asg_tg, ↓asg_ti, ↓asgs_nil, ↓asgs_cons, ↓mk_f, ↓mk_t, ↓setn_l, ↓setn_r, ↓isn_lst_true, ↓isn_lst_false, ↓isn_tup_true, ↓isn_tup_false, ↓isn_ref_true, ↓isn_ref_false, ↓cnt_t, ↓rev_t, ↓rev_l, ↓rev_ti, ↓onRef_r, ↓two_tt, ↓two_ll, ↓two_tl, ↓two_ti, ↓still_t, ↓still_ti, ↓still_l, ↓cut_tup, ↓cut_lst, ↓cut_frz, ↓cut_ti, ↓bop_titi, ↓cop_eq_ti, ↓cop_ne_ti, non_non, non_int, ty_int_int, ty_bool_int, ty_str_int, ty_tup_int, ty_lst_int, ty_dict_int, non_bl, ty_int_bl, ty_bool_bl, ty_str_bl, ty_tup_bl, ty_lst_bl, ty_dict_bl, non_str, ty_int_str, ty_bool_str, ty_str_str, ty_tup_str, ty_lst_str, ty_dict_str, non_tup, ty_int_tup, ty_bool_tup, ty_str_tup, ty_tup_tup, ty_lst_tup, ty_dict_tup, non_lst, ty_int_lst, ty_bool_lst, ty_str_lst, ty_tup_lst, ty_lst_lst, ty_dict_lst, ty_int_non, ty_int_ti, ty_bool_non, ty_bool_ti, ty_str_non, ty_str_ti, ty_tup_non, ty_tup_ti, ty_lst_non, ty_lst_ti, ty_dict_non, ty_dict_ti, ty_int_rep, ty_int_dic, ty_bool_rep, ty_bool_dic, ty_str_rep, ty_str_dic, ty_tup_rep, ty_tup_dic, ty_lst_rep, ty_lst_dic, ty_dict_rep, ty_dict_dic, ta_tup, ta_lst, ta_ti, ta_int, ta_bl, ta_str, ta_non, st_0, st_1, st_2, st_3, st_4, st_5, st_6, st_7, st_8, st_9, st_10, st_11, st_12, st_13, st_14, st_15, st_16, st_17, st_18, st_19, st_20, st_21, st_22, st_23, bp_nm, bp_tp, bp_ls, bp_ti, bps_nil, bps_nm, sts_nil, sts_cons, rowr_l, rowr_r, cat_d, wp0_nil, wp_0, wp_1, wp_2, wp_3, wp_4, wp_5, wp_6, wp_7, wp_8, wp_9, wp_10, wp_11, wp_12, wp_13, wp_14, wp_15, wp_16, wp_17, wp_18, wp_19, wp_20, wp_21, wp_22, wp_23, rng_1, rng_2, rng_3, rng_4, rng_5, rng_6, rng_7, brkT, brkF, ti1, ti2, ti3, ti4, ti5, ti6, ti_map, eq_ti, pick, List.cons_append, List.nil_append, List.map_cons, List.map_nil, List.getD_cons_zero, List.getD_cons_succ, Bool.not_true, Bool.not_false]
end FV
open PySem PySem.W PySem.Calls PyProof.Rows
theorem PySem.Challenge.cw_flatviews_k14_whole_views_of_anything_holds : PySem.Challenge.rw_flatviews_k14_whole_views_of_anything.Holds := by
  w_on; o_law
  refine HandSHeadRun.head_imp (r := OpenLaw.row FV.RW) (q := view (OpenLaw.row FV.RW).prog [0, 32]) (H := FV.hk) (ob := FV.ob) (M := 20000) (loose := FV.names) (d := HandSHeadRun.topDef (OpenLaw.row FV.RW).prog 32) (kwd := []) FV.ob_eq
    FV.run (by kernel_rfl) (by kernel_rfl) (by kernel_rfl) (by rfl) (by first | assumption | decide +kernel) (by decide +kernel) ⟨rfl, rfl, rfl, rfl, rfl, by decide +kernel⟩ ?hw ?hc
  case hw => w_witness2
  case hc =>
    refine FV.walk_g (l := FV.RW) (n := 63) (k := 40 + 1) (x := "script") rfl (by decide) (by kernel_rfl) ⟨rfl, by decide, by decide⟩ ?F
    intro w mg fa h Y G hmg0
    obtain ⟨K, KX, c⟩ := Y
    have hmg : mg ("law" : PySem.Str) = some (.ref fa) := by
      have e : (HandSHeadRun.topDef (OpenLaw.row FV.RW).prog 32).name = ("law" : PySem.Str) := by kernel_rfl
      rw [← e]
      exact hmg0
    obtain ⟨fd, sp, h1, h2, h3⟩ := FV.law_ok (P := FV.RW.prog) (k := 40) (lid := 449) FV.okd FV.hT rfl rfl FV.law_k14 KX G hmg c
    exact ⟨K, fd, sp, KX, h1, h2, h3⟩
