import PyProof.Rows.All
import Wide.All
import OpenK.AllK
import Wide.FinOn
import HandS.ForMost
import HandS.Flow
import HandS.Property
import HandS.ClsMeth
import HandS.IsInst
import HandS.SetKeys
import HandS.More
import HandS.Wide
import HandS.Defaults
import HandS.HeadHook1
import HandS.HeadHook2
import KE.KStateDown
import HandS.Ends
import HandS.Words
import HandS.WordsExc
import HandS.Head0
import HandS.Head1
import HandS.Head2
import HandS.HeadEnd
import HandS.Evl
import HandS.Zip
import HandS.Text
import KE.SortData
import HandS.SortRule
import PySem.Challenge.RW_neverrounds_k52_whole_first_wait
set_option Elab.async false
set_option linter.all false
set_option maxRecDepth 100000
set_option maxHeartbeats 4000000
/-! The text by its places, the facts of the top that the walks lean on, the call of a def by its name. -/
namespace NRW
open PySem PySem.Spec PyProof.Rows L2
def top (i : Nat) : Stmt := PySem.Challenge.pw_neverrounds_k52_whole_first_wait.main.body.getD i (.Pass ⟨0, 0, 0, 0⟩)
abbrev s_is_name : Stmt := top 17
abbrev s_walk : Stmt := top 30
abbrev s_run : Stmt := top 35
abbrev s_law_state : Stmt := top 37
abbrev s_law_mixed : Stmt := top 38
abbrev s_law_draw : Stmt := top 39
abbrev s_law_limit : Stmt := top 40
abbrev s_law_signed : Stmt := top 41
abbrev s_law_is_int : Stmt := top 42
abbrev s_law_name : Stmt := top 43
abbrev s_law_names : Stmt := top 44
abbrev s_law_stays : Stmt := top 45
abbrev s_law_lengths : Stmt := top 46
abbrev s_law_walk : Stmt := top 47
abbrev s_law_shared : Stmt := top 48
abbrev s_law_is_rows : Stmt := top 49
abbrev s_law_groups : Stmt := top 50
abbrev s_law_is_run : Stmt := top 51
abbrev s_law_are_walks : Stmt := top 52
abbrev s_law_meeting_moment : Stmt := top 53
abbrev s_law_within : Stmt := top 54
abbrev s_law_is_first : Stmt := top 55
abbrev s_law : Stmt := top 56
abbrev s_Round_init : Stmt := inClass (top 28) 1
abbrev s_Round_len : Stmt := inClass (top 28) 14
abbrev s_Run_init : Stmt := inClass (top 33) 0
abbrev s_House_init : Stmt := inClass (top 34) 0
abbrev s_House_leave : Stmt := inClass (top 34) 1
abbrev s_House_enter : Stmt := inClass (top 34) 2
abbrev s_House_come : Stmt := inClass (top 34) 3
abbrev s_House_happen : Stmt := inClass (top 34) 4
abbrev s_Round_stays : Stmt := inClass (top 28) 3

/-- a def of the top, by its name; a method, by its class and name -/
abbrev FnG (K : PySem.W.Frag) (x : Str) (st : Stmt) : Prop := ∃ fd, FunD K x x (defArgs st) (defBody st) (defScope st) [] [] (He.ga K x) fd
abbrev FnM (K : PySem.W.Frag) (C m q : Str) (st : Stmt) : Prop := ∃ fd, FunD K m q (defArgs st) (defBody st) (defScope st) [] [] (He.ma K (He.ga K C) m) fd
structure ClsF (K : PySem.W.Frag) (mg : Str → Option Value) (x : Str) : Prop where
  cl : Cls K (He.ga K x)
  mg_ : mg x = some (.ref (He.ga K x))
  mkr : Mk K (He.ga K x) (He.ma K (He.ga K x) "__init__")
structure Txt (K : PySem.W.Frag) (mg : Str → Option Value) : Prop where
  g_is_name : mg "is_name" = some (.ref (He.ga K "is_name"))
  f_is_name : FnG K "is_name" s_is_name
  g_walk : mg "walk" = some (.ref (He.ga K "walk"))
  f_walk : FnG K "walk" s_walk
  g_run : mg "run" = some (.ref (He.ga K "run"))
  f_run : FnG K "run" s_run
  g_law_state : mg "_law_state" = some (.ref (He.ga K "_law_state"))
  f_law_state : FnG K "_law_state" s_law_state
  g_law_mixed : mg "_law_mixed" = some (.ref (He.ga K "_law_mixed"))
  f_law_mixed : FnG K "_law_mixed" s_law_mixed
  g_law_draw : mg "_law_draw" = some (.ref (He.ga K "_law_draw"))
  f_law_draw : FnG K "_law_draw" s_law_draw
  g_law_limit : mg "_law_limit" = some (.ref (He.ga K "_law_limit"))
  f_law_limit : FnG K "_law_limit" s_law_limit
  g_law_signed : mg "_law_signed" = some (.ref (He.ga K "_law_signed"))
  f_law_signed : FnG K "_law_signed" s_law_signed
  g_law_is_int : mg "_law_is_int" = some (.ref (He.ga K "_law_is_int"))
  f_law_is_int : FnG K "_law_is_int" s_law_is_int
  g_law_name : mg "_law_name" = some (.ref (He.ga K "_law_name"))
  f_law_name : FnG K "_law_name" s_law_name
  g_law_names : mg "_law_names" = some (.ref (He.ga K "_law_names"))
  f_law_names : FnG K "_law_names" s_law_names
  g_law_stays : mg "_law_stays" = some (.ref (He.ga K "_law_stays"))
  f_law_stays : FnG K "_law_stays" s_law_stays
  g_law_lengths : mg "_law_lengths" = some (.ref (He.ga K "_law_lengths"))
  f_law_lengths : FnG K "_law_lengths" s_law_lengths
  g_law_walk : mg "_law_walk" = some (.ref (He.ga K "_law_walk"))
  f_law_walk : FnG K "_law_walk" s_law_walk
  g_law_shared : mg "_law_shared" = some (.ref (He.ga K "_law_shared"))
  f_law_shared : FnG K "_law_shared" s_law_shared
  g_law_is_rows : mg "_law_is_rows" = some (.ref (He.ga K "_law_is_rows"))
  f_law_is_rows : FnG K "_law_is_rows" s_law_is_rows
  g_law_groups : mg "_law_groups" = some (.ref (He.ga K "_law_groups"))
  f_law_groups : FnG K "_law_groups" s_law_groups
  g_law_is_run : mg "_law_is_run" = some (.ref (He.ga K "_law_is_run"))
  f_law_is_run : FnG K "_law_is_run" s_law_is_run
  g_law_are_walks : mg "_law_are_walks" = some (.ref (He.ga K "_law_are_walks"))
  f_law_are_walks : FnG K "_law_are_walks" s_law_are_walks
  g_law_meeting_moment : mg "_law_meeting_moment" = some (.ref (He.ga K "_law_meeting_moment"))
  f_law_meeting_moment : FnG K "_law_meeting_moment" s_law_meeting_moment
  g_law_within : mg "_law_within" = some (.ref (He.ga K "_law_within"))
  f_law_within : FnG K "_law_within" s_law_within
  g_law_is_first : mg "_law_is_first" = some (.ref (He.ga K "_law_is_first"))
  f_law_is_first : FnG K "_law_is_first" s_law_is_first
  g_law : mg "law" = some (.ref (He.ga K "law"))
  f_law : FnG K "law" s_law
  f_Round_init : FnM K "Round" "__init__" "Round.__init__" s_Round_init
  f_Round_len : FnM K "Round" "__len__" "Round.__len__" s_Round_len
  f_Run_init : FnM K "Run" "__init__" "Run.__init__" s_Run_init
  f_House_init : FnM K "House" "__init__" "House.__init__" s_House_init
  f_House_leave : FnM K "House" "leave" "House.leave" s_House_leave
  f_House_enter : FnM K "House" "enter" "House.enter" s_House_enter
  f_House_come : FnM K "House" "come" "House.come" s_House_come
  f_House_happen : FnM K "House" "happen" "House.happen" s_House_happen
  n_len : mg "len" = none
  n_range : mg "range" = none
  n_zip : mg "zip" = none
  n_list : mg "list" = none
  n_sorted : mg "sorted" = none
  n_min : mg "min" = none
  n_max : mg "max" = none
  n_int : mg "int" = none
  n_isinstance : mg "isinstance" = none
  n_str : mg "str" = none
  n_bool : mg "bool" = none
  n_tuple : mg "tuple" = none
  c_Round : ClsF K mg "Round"
  n_Round_stays : NoAttr K (He.ga K "Round") "_stays"
  n_Round_least : NoAttr K (He.ga K "Round") "_least"
  n_Round_most : NoAttr K (He.ga K "Round") "_most"
  c_Run : ClsF K mg "Run"
  n_Run_walks : NoAttr K (He.ga K "Run") "walks"
  n_Run_waits : NoAttr K (He.ga K "Run") "waits"
  c_House : ClsF K mg "House"
  n_House_plans : NoAttr K (He.ga K "House") "plans"
  n_House_rows : NoAttr K (He.ga K "House") "rows"
  n_House_due : NoAttr K (He.ga K "House") "due"
  n_House_inside : NoAttr K (He.ga K "House") "inside"
  n_House_queues : NoAttr K (He.ga K "House") "queues"
  m_leave : Meth K (He.ga K "House") "leave" (He.ma K (He.ga K "House") "leave")
  m_enter : Meth K (He.ga K "House") "enter" (He.ma K (He.ga K "House") "enter")
  m_come : Meth K (He.ga K "House") "come" (He.ma K (He.ga K "House") "come")
  m_happen : Meth K (He.ga K "House") "happen" (He.ma K (He.ga K "House") "happen")
  k_LETTERS : ∃ t, mg "LETTERS" = some (.str "abcdefghijklmnopqrstuvwxyz" t)
  k_DIGITS : ∃ t, mg "DIGITS" = some (.str "0123456789" t)
  k_MOST_SIGNS : ∃ t, mg "MOST_SIGNS" = some (.int 12 t)
  k_HALL : ∃ t, mg "HALL" = some (.str "hall" t)
  k_MOST_GROUPS : ∃ t, mg "MOST_GROUPS" = some (.int 14 t)
  r_Round : ∃ mc, ClX.CRead K (He.ga K "Round") mc ∧ ∃ u, ClX.CVal K (He.ga K "Round") mc "MOST_STAYS" (.int 6) u
  l_Round : PySem.W.findIn K (.ref (He.ga K "Round")) "__len__" = some (some (.ref (He.ma K (He.ga K "Round") "__len__"))) ∧ PySem.W.isFn K (.ref (He.ma K (He.ga K "Round") "__len__")) = true
  p_stays : ∃ p g, PropOf K (He.ga K "Round") "stays" p g ∧ ∃ fd, FunD K "stays" "Round.stays" (defArgs s_Round_stays) (defBody s_Round_stays) (defScope s_Round_stays) [] [] g fd
  i_Run : PySem.W.kitOne K (.ref (He.ga K "Run")) (.ref (He.ga K "Run")) = some true
  i_Run_c : PySem.W.findIn K (.ref (He.ga K "Run")) "__class__" = some (some (.builtin "object.__class__"))
  i_Run_g : PySem.W.specialIn K (.builtin "object.__class__") "__get__" = some (some (.builtin "getset_descriptor.__get__"))
  i_Run_t : PySem.W.takesIn K (.builtin "object.__class__") = some true
  i_Run_m : PySem.W.mroIn K (He.ga K "Run") (.type "object") = some true
/-- the def x of the top keeps its promise, and binds its arguments plainly -/
def Def (P : Program) (w : World) (K : PySem.W.Frag) (mg : Str → Option Value) (base : Heap) (x : Str) (k : Nat) (ps : List Str) (sp : Sp) : Prop :=
  ∃ fd, mg x = some (.ref (He.ga K x)) ∧ PySem.W.keepIn K (.ref (He.ga K x)) = true ∧ Binds K fd ps [] ∧ FnOk P w K mg base CX0 k (He.ga K x) fd ps sp
/-- the same of a method -/
def DefM (P : Program) (w : World) (K : PySem.W.Frag) (mg : Str → Option Value) (base : Heap) (C m : Str) (k : Nat) (ps : List Str) (sp : Sp) : Prop :=
  ∃ fd, Binds K fd ps [] ∧ FnOk P w K mg base CX0 k (He.ma K (He.ga K C) m) fd ps sp
section
variable {X : Cx} {x C m : Str} {k : Nat} {ps : List Str} {sp : Sp} {p pos apos : Pos} {e o : Expr} {es : List Expr} {t : TA} {ta : TE}
theorem pe_def (D : Def X.prog X.w X.K X.mg X.base x k ps sp) (hr : Room k X.A) (hg : Gl X x) (ha : PA X (e :: es) t) (hdb : (x == ("__debug__" : Str)) = false := by decide)
    (he : starEach (e :: es) X.env = (false, eval e X.env) :: starEach es X.env := by rfl) (hpl : (backTo pos (starEach es X.env)).any (·.1) = false := by rfl) : PE X (.Call (.Name x p) (e :: es) [] pos) (tCall sp [] E0 t) := by
  obtain ⟨fd, hm, hk, hb, F⟩ := D
  exact pe_call F hr hg hm hk hb .nil pass0 ha hdb he hpl
theorem pe_defM {pl : Sem Bool} (he : PE X o ta) (c : Cls X.K (He.ga X.K C)) (hm : Meth X.K (He.ga X.K C) m (He.ma X.K (He.ga X.K C) m)) (D : DefM X.prog X.w X.K X.mg X.base C m k ps sp) (hr : Room k X.A) (ha : PA X (e :: es) t)
    (hst : starEach (e :: es) X.env = (false, eval e X.env) :: starEach es X.env := by rfl) (hpl : (backTo pos (starEach es X.env)).any (·.1) = false := by rfl)
    (ht : eval (.Call (.Attribute o m apos) (e :: es) [] pos) X.env = (do
      let ov ← eval o X.env
      standAt apos.atName
      let (f, first) ← holding [ov] (getMethod ov m pl)
      callWith pos f first (backTo pos (starEach (e :: es) X.env)) (backToKw pos (keywordEach [] X.env))) := by rfl) :
    PE X (.Call (.Attribute o m apos) (e :: es) [] pos) (tMeth (He.ga X.K C) m sp [] E0 ta t) := by
  obtain ⟨fd, hb, F⟩ := D
  exact pe_meth he c hm F hr hb .nil pass0 ha hst hpl ht
/-- C(e, ..) -/
theorem pe_defC (c : ClsF X.K X.mg C) (D : DefM X.prog X.w X.K X.mg X.base C "__init__" k ps sp) (hr : Room (k + 1) X.A) (hg : Gl X C) (ha : PA X (e :: es) t) (hdb : (C == ("__debug__" : Str)) = false := by decide)
    (he : starEach (e :: es) X.env = (false, eval e X.env) :: starEach es X.env := by rfl) (hpl : (backTo pos (starEach es X.env)).any (·.1) = false := by rfl) : PE X (.Call (.Name C p) (e :: es) [] pos) (tMake (He.ga X.K C) sp [] E0 t) := by
  obtain ⟨fd, hb, F⟩ := D
  exact pe_make c.mkr F hr hg c.mg_ hb .nil pass0 ha hdb he hpl
end
section
variable {P : Program} {w : World} {K : PySem.W.Frag} {mg : Str → Option Value} {base : Heap}
/-- THE RULE for a def of the top -/
theorem Def.of {x : Str} {st : Stmt} {N ps : List Str} {k : Nat} {sp : Sp} (hm : mg x = some (.ref (He.ga K x))) (F : FnG K x st) (S : FnScope N ps (defScope st)) (len : ∀ vs H Q E, sp vs H Q E → vs.length = ps.length)
    (hb : ∀ (kV doc pm : Value) (an : Option Addr) (cdv ct : Value) (us : List Value), us.length = ps.length → bindArgs (PySem.W.fnOf x x (defArgs st) (defBody st) (defScope st) .none kV doc pm an cdv ct) ⟨us, []⟩ = pure (ps.zip us))
    (hbody : ∀ (f : Addr) (cdv : Value) (A : Around) (outer : List Env) (s : Shared) (H : Hp) (vs : List V) (Q : VK) (E : XK), Room k (A.deeper (envOfC x (defScope st) s.heap.objs.size f cdv)) → sp vs H Q E →
      ∃ t, PSs (cxOf CX0 P w K mg base N x (defScope st) f cdv A outer s H E).nox (defBody st) t ∧ t { nx := fun _ H' => Q .non H', rt := Q } (start N vs) H) : Def P w K mg base x (k + 1) ps sp := by
  obtain ⟨fd, F⟩ := F
  refine ⟨fd, hm, F.kp, F.bindsN hb, F.ok S len fun cdv A outer s H vs Q E hr h => ?_⟩
  obtain ⟨t, h1, h2⟩ := hbody (He.ga K x) cdv A outer s H vs Q E hr h
  exact ⟨t, PSs.nox h1, h2⟩
theorem DefM.of {C m q : Str} {st : Stmt} {N ps : List Str} {k : Nat} {sp : Sp} (F : FnM K C m q st) (S : FnScope N ps (defScope st)) (len : ∀ vs H Q E, sp vs H Q E → vs.length = ps.length)
    (hb : ∀ (kV doc pm : Value) (an : Option Addr) (cdv ct : Value) (us : List Value), us.length = ps.length → bindArgs (PySem.W.fnOf m q (defArgs st) (defBody st) (defScope st) .none kV doc pm an cdv ct) ⟨us, []⟩ = pure (ps.zip us))
    (hbody : ∀ (f : Addr) (cdv : Value) (A : Around) (outer : List Env) (s : Shared) (H : Hp) (vs : List V) (Q : VK) (E : XK), Room k (A.deeper (envOfC q (defScope st) s.heap.objs.size f cdv)) → sp vs H Q E →
      ∃ t, PSs (cxOf CX0 P w K mg base N q (defScope st) f cdv A outer s H E).nox (defBody st) t ∧ t { nx := fun _ H' => Q .non H', rt := Q } (start N vs) H) : DefM P w K mg base C m (k + 1) ps sp := by
  obtain ⟨fd, F⟩ := F
  refine ⟨fd, F.bindsN hb, F.ok S len fun cdv A outer s H vs Q E hr h => ?_⟩
  obtain ⟨t, h1, h2⟩ := hbody (He.ma K (He.ga K C) m) cdv A outer s H vs Q E hr h
  exact ⟨t, PSs.nox h1, h2⟩
end
end NRW
set_option maxHeartbeats 0
/-! The head. -/
namespace NRH
open PySem PySem.Spec PyProof.Rows L2 NRW
/-! ### the hook: the kit's, one Bool and one def more -/
abbrev FnW1 : Type := He.FnW
def fnA (K : PySem.W.Frag) (a : Addr) : He.FnW := match K.lookup a with
  | some ⟨_, _, .func fd, _⟩ => some (fd.name, fd.qualname, fd.params, fd.body, fd.scope, fd.globals, fd.closure, fd.builtins)
  | _ => none
def fnAok (K : PySem.W.Frag) (a : Addr) (q : Str) : Bool := PySem.W.keepIn K (.ref a) && (match K.lookup a with
  | some ⟨_, _, .func fd, _⟩ => PySem.W.codeIn K fd.code q && (He.dflB K fd.defaults [] && He.kwdB K fd.kwdefaults [])
  | _ => false)
theorem fnA_ok {K : PySem.W.Frag} {a : Addr} {name q : Str} {params : Arguments} {body : List Stmt} {scope : Scope} (e : fnA K a = some (name, q, params, .stmts body, scope, mainGlobals, [], builtinsNs)) (c : fnAok K a q = true) : ∃ fd, FunD K name q params body scope [] [] a fd := by
  obtain ⟨kp, c2⟩ := He.ba c
  unfold fnA at e
  cases z : K.lookup a with
  | none =>
    rw [z] at c2
    cases c2
  | some o =>
    obtain ⟨oc, od, dt, osl⟩ := o
    rw [z] at c2 e
    cases dt with
    | func fd =>
      obtain ⟨n1, n2, n3, n4, n5, n6, n7, n8, n9, n10, n11, n12, n13, n14, n15⟩ := fd
      have e2 : (some (n1, n2, n3, n4, n5, n6, n7, n15) : He.FnW) = some (name, q, params, .stmts body, scope, mainGlobals, [], builtinsNs) := e
      simp only [Option.some.injEq, Prod.mk.injEq] at e2
      obtain ⟨h1, h2, h3, h4, h5, h6, h7, h8⟩ := e2
      subst h1 h2 h3 h4 h5 h6 h7 h8
      have c3 : (PySem.W.codeIn K n13 n2 && (He.dflB K n8 [] && He.kwdB K n9 [])) = true := c2
      obtain ⟨k1, k2⟩ := He.ba c3
      obtain ⟨k3, k4⟩ := He.ba k2
      exact ⟨_, ⟨oc, od, n8, n9, n10, n11, n12, n13, n14, osl, rfl, z, k1, He.dflB_ok k3, He.kwdB_ok k4⟩, kp⟩
    | _ => cases c2
/-- the part of the heap that is looked at: the module's names, the defs and classes of these names, the classes' tables, the methods, their codes, a property's getter and its code -/
def refsB (g : Addr → Option Obj) (as : List Addr) : List Addr := as.flatMap fun a => match g a with
  | some o => He.refsD o
  | none => []
def as1 (xs : List Str) (g : Addr → Option Obj) : List Addr := xs.map (He.ga (He.frG g [mainGlobals]))
def as2 (xs : List Str) (g : Addr → Option Obj) : List Addr := mainGlobals :: cStatics :: (as1 xs g ++ refsB g (as1 xs g))
def as3 (n : List Str × List (Str × Str)) (g : Addr → Option Obj) : List Addr := n.2.map fun p => He.ma (He.frG g (as2 n.1 g)) (He.ga (He.frG g [mainGlobals]) p.1) p.2
def asB (n : List Str × List (Str × Str)) (g : Addr → Option Obj) : List Addr := as2 n.1 g ++ (as3 n g ++ (refsB g (as3 n g) ++ refsB g (refsB g (as3 n g))))
abbrev AlB : Type := He.AlD × Bool × He.FnW
section
variable (n : List Str × List (Str × Str)) (fa : List He.Fa) (fn : List He.DefD) (ex : PySem.W.Frag → Bool) (gf : PySem.W.Frag → Addr) (gv : He.FnW)
def obsB (K : PySem.W.Frag) : AlB := (He.obsD fa fn K, ex K, fnA K (gf K))
def valB : AlB := (He.valD fn, true, gv)
def SaysB (K : PySem.W.Frag) : Prop := obsB fa fn ex gf K = valB fn gv
def obsBG (g : Addr → Option Obj) : AlB := obsB fa fn ex gf (He.frG g (asB n g))
def hookB : PySem.W.Hook where
  α := AlB
  obs := fun s => obsBG n fa fn ex gf s.heap.get?
  val := fun _ => valB fn gv
  says := fun _ h => ∃ K : PySem.W.Frag, K.In h ∧ SaysB fa fn ex gf gv K
  of := fun _ _ e => ⟨_, He.frG_in, e⟩
  keeps := fun _ _ _ ⟨K, hK, c⟩ k => ⟨K, PySem.W.Frag.In.keeps hK k, c⟩
end
theorem obsBG_eq {n : List Str × List (Str × Str)} {fa : List He.Fa} {fn : List He.DefD} {ex : PySem.W.Frag → Bool} {gf : PySem.W.Frag → Addr} {gv : He.FnW} {g : Addr → Option Obj} {s : Shared} (h : ∀ a, g a = s.heap.get? a) : obsBG n fa fn ex gf g = (hookB n fa fn ex gf gv).obs s := by
  have e : g = s.heap.get? := funext h
  rw [e] <;> rfl
/-! ### what is looked at -/
def d_is_name_ : He.DefD := ⟨("is_name", none), "is_name", "is_name", defArgs s_is_name, defBody s_is_name, defScope s_is_name, [], []⟩
def d_walk_ : He.DefD := ⟨("walk", none), "walk", "walk", defArgs s_walk, defBody s_walk, defScope s_walk, [], []⟩
def d_run_ : He.DefD := ⟨("run", none), "run", "run", defArgs s_run, defBody s_run, defScope s_run, [], []⟩
def d_law_state_ : He.DefD := ⟨("_law_state", none), "_law_state", "_law_state", defArgs s_law_state, defBody s_law_state, defScope s_law_state, [], []⟩
def d_law_mixed_ : He.DefD := ⟨("_law_mixed", none), "_law_mixed", "_law_mixed", defArgs s_law_mixed, defBody s_law_mixed, defScope s_law_mixed, [], []⟩
def d_law_draw_ : He.DefD := ⟨("_law_draw", none), "_law_draw", "_law_draw", defArgs s_law_draw, defBody s_law_draw, defScope s_law_draw, [], []⟩
def d_law_limit_ : He.DefD := ⟨("_law_limit", none), "_law_limit", "_law_limit", defArgs s_law_limit, defBody s_law_limit, defScope s_law_limit, [], []⟩
def d_law_signed_ : He.DefD := ⟨("_law_signed", none), "_law_signed", "_law_signed", defArgs s_law_signed, defBody s_law_signed, defScope s_law_signed, [], []⟩
def d_law_is_int_ : He.DefD := ⟨("_law_is_int", none), "_law_is_int", "_law_is_int", defArgs s_law_is_int, defBody s_law_is_int, defScope s_law_is_int, [], []⟩
def d_law_name_ : He.DefD := ⟨("_law_name", none), "_law_name", "_law_name", defArgs s_law_name, defBody s_law_name, defScope s_law_name, [], []⟩
def d_law_names_ : He.DefD := ⟨("_law_names", none), "_law_names", "_law_names", defArgs s_law_names, defBody s_law_names, defScope s_law_names, [], []⟩
def d_law_stays_ : He.DefD := ⟨("_law_stays", none), "_law_stays", "_law_stays", defArgs s_law_stays, defBody s_law_stays, defScope s_law_stays, [], []⟩
def d_law_lengths_ : He.DefD := ⟨("_law_lengths", none), "_law_lengths", "_law_lengths", defArgs s_law_lengths, defBody s_law_lengths, defScope s_law_lengths, [], []⟩
def d_law_walk_ : He.DefD := ⟨("_law_walk", none), "_law_walk", "_law_walk", defArgs s_law_walk, defBody s_law_walk, defScope s_law_walk, [], []⟩
def d_law_shared_ : He.DefD := ⟨("_law_shared", none), "_law_shared", "_law_shared", defArgs s_law_shared, defBody s_law_shared, defScope s_law_shared, [], []⟩
def d_law_is_rows_ : He.DefD := ⟨("_law_is_rows", none), "_law_is_rows", "_law_is_rows", defArgs s_law_is_rows, defBody s_law_is_rows, defScope s_law_is_rows, [], []⟩
def d_law_groups_ : He.DefD := ⟨("_law_groups", none), "_law_groups", "_law_groups", defArgs s_law_groups, defBody s_law_groups, defScope s_law_groups, [], []⟩
def d_law_is_run_ : He.DefD := ⟨("_law_is_run", none), "_law_is_run", "_law_is_run", defArgs s_law_is_run, defBody s_law_is_run, defScope s_law_is_run, [], []⟩
def d_law_are_walks_ : He.DefD := ⟨("_law_are_walks", none), "_law_are_walks", "_law_are_walks", defArgs s_law_are_walks, defBody s_law_are_walks, defScope s_law_are_walks, [], []⟩
def d_law_meeting_moment_ : He.DefD := ⟨("_law_meeting_moment", none), "_law_meeting_moment", "_law_meeting_moment", defArgs s_law_meeting_moment, defBody s_law_meeting_moment, defScope s_law_meeting_moment, [], []⟩
def d_law_within_ : He.DefD := ⟨("_law_within", none), "_law_within", "_law_within", defArgs s_law_within, defBody s_law_within, defScope s_law_within, [], []⟩
def d_law_is_first_ : He.DefD := ⟨("_law_is_first", none), "_law_is_first", "_law_is_first", defArgs s_law_is_first, defBody s_law_is_first, defScope s_law_is_first, [], []⟩
def d_law_ : He.DefD := ⟨("law", none), "law", "law", defArgs s_law, defBody s_law, defScope s_law, [], []⟩
def d_Round_init_ : He.DefD := ⟨("Round", some "__init__"), "__init__", "Round.__init__", defArgs s_Round_init, defBody s_Round_init, defScope s_Round_init, [], []⟩
def d_Round_len_ : He.DefD := ⟨("Round", some "__len__"), "__len__", "Round.__len__", defArgs s_Round_len, defBody s_Round_len, defScope s_Round_len, [], []⟩
def d_Run_init_ : He.DefD := ⟨("Run", some "__init__"), "__init__", "Run.__init__", defArgs s_Run_init, defBody s_Run_init, defScope s_Run_init, [], []⟩
def d_House_init_ : He.DefD := ⟨("House", some "__init__"), "__init__", "House.__init__", defArgs s_House_init, defBody s_House_init, defScope s_House_init, [], []⟩
def d_House_leave_ : He.DefD := ⟨("House", some "leave"), "leave", "House.leave", defArgs s_House_leave, defBody s_House_leave, defScope s_House_leave, [], []⟩
def d_House_enter_ : He.DefD := ⟨("House", some "enter"), "enter", "House.enter", defArgs s_House_enter, defBody s_House_enter, defScope s_House_enter, [], []⟩
def d_House_come_ : He.DefD := ⟨("House", some "come"), "come", "House.come", defArgs s_House_come, defBody s_House_come, defScope s_House_come, [], []⟩
def d_House_happen_ : He.DefD := ⟨("House", some "happen"), "happen", "House.happen", defArgs s_House_happen, defBody s_House_happen, defScope s_House_happen, [], []⟩
def fn : List He.DefD := [d_is_name_, d_walk_, d_run_, d_law_state_, d_law_mixed_, d_law_draw_, d_law_limit_, d_law_signed_, d_law_is_int_, d_law_name_, d_law_names_, d_law_stays_, d_law_lengths_, d_law_walk_, d_law_shared_, d_law_is_rows_, d_law_groups_, d_law_is_run_, d_law_are_walks_, d_law_meeting_moment_, d_law_within_, d_law_is_first_, d_law_, d_Round_init_, d_Round_len_, d_Run_init_, d_House_init_, d_House_leave_, d_House_enter_, d_House_come_, d_House_happen_]
def fa : List He.Fa := [.glo "is_name", .glo "walk", .glo "run", .glo "_law_state", .glo "_law_mixed", .glo "_law_draw", .glo "_law_limit", .glo "_law_signed", .glo "_law_is_int", .glo "_law_name", .glo "_law_names", .glo "_law_stays", .glo "_law_lengths", .glo "_law_walk", .glo "_law_shared", .glo "_law_is_rows", .glo "_law_groups", .glo "_law_is_run", .glo "_law_are_walks", .glo "_law_meeting_moment", .glo "_law_within", .glo "_law_is_first", .glo "law", .free "len", .free "range", .free "zip", .free "list", .free "sorted", .free "min", .free "max", .free "int", .free "isinstance", .free "str", .free "bool", .free "tuple", .cls "Round", .glo "Round", .mkr "Round", .noat "Round" "_stays", .noat "Round" "_least", .noat "Round" "_most", .cls "Run", .glo "Run", .mkr "Run", .noat "Run" "walks", .noat "Run" "waits", .cls "House", .glo "House", .mkr "House", .noat "House" "plans", .noat "House" "rows", .noat "House" "due", .noat "House" "inside", .noat "House" "queues", .meth "House" "leave", .meth "House" "enter", .meth "House" "come", .meth "House" "happen", .str "LETTERS" "abcdefghijklmnopqrstuvwxyz", .str "DIGITS" "0123456789", .str "HALL" "hall", .int "MOST_SIGNS" 12, .int "MOST_GROUPS" 14]
abbrev rd (K : PySem.W.Frag) : Addr := He.ga K "Round"
abbrev rn (K : PySem.W.Frag) : Addr := He.ga K "Run"
abbrev pA (K : PySem.W.Frag) : Addr := He.ma K (rd K) "stays"
def gA (K : PySem.W.Frag) : Addr := match PySem.W.recIn K (pA K) "property" with
  | some (.ref g :: _) => g
  | _ => 0
def gOk (K : PySem.W.Frag) : Bool := match PySem.W.recIn K (pA K) "property" with
  | some (.ref _ :: _) => true
  | _ => false
def cOk (K : PySem.W.Frag) : Bool := match PySem.W.findCls K (.ref (rd K)) (.type "type") "MOST_STAYS" with
  | some (.val (.int j _)) => decide (j = 6)
  | _ => false
def ex (K : PySem.W.Frag) : Bool := PySem.W.readsIn K (rd K) (.type "type") && (He.eqO (PySem.W.specialIn K (.ref (rd K)) "__getattribute__") (some (some (.builtin "type.__getattribute__"))) && (cOk K &&
  (He.eqO (PySem.W.findIn K (.ref (rd K)) "__len__") (some (some (.ref (He.ma K (rd K) "__len__")))) && (PySem.W.isFn K (.ref (He.ma K (rd K) "__len__")) &&
  (He.eqO (PySem.W.findIn K (.ref (rd K)) "stays") (some (some (.ref (pA K)))) && (He.eqO (PySem.W.specialIn K (.ref (pA K)) "__get__") (some (some (.builtin "property.__get__"))) && (decide (PySem.W.takesIn K (.ref (pA K)) = some true) && (gOk K && (fnAok K (gA K) "Round.stays" &&
  (decide (PySem.W.kitOne K (.ref (rn K)) (.ref (rn K)) = some true) && (He.eqO (PySem.W.findIn K (.ref (rn K)) "__class__") (some (some (.builtin "object.__class__"))) && (He.eqO (PySem.W.specialIn K (.builtin "object.__class__") "__get__") (some (some (.builtin "getset_descriptor.__get__"))) &&
  (decide (PySem.W.takesIn K (.builtin "object.__class__") = some true) && decide (PySem.W.mroIn K (rn K) (.type "object") = some true))))))))))))))
def gv : He.FnW := some ("stays", "Round.stays", defArgs s_Round_stays, .stmts (defBody s_Round_stays), defScope s_Round_stays, mainGlobals, [], builtinsNs)
abbrev R : PySem.W.OpenRow := PySem.W.OpenLaw.row PySem.Challenge.rw_neverrounds_k52_whole_first_wait
def nms : List Str × List (Str × Str) := (["Round", "Run", "House", "is_name", "walk", "run", "_law_state", "_law_mixed", "_law_draw", "_law_limit", "_law_signed", "_law_is_int", "_law_name", "_law_names", "_law_stays", "_law_lengths", "_law_walk", "_law_shared", "_law_is_rows", "_law_groups", "_law_is_run", "_law_are_walks", "_law_meeting_moment", "_law_within", "_law_is_first", "law"], [("Round", "__init__"), ("Round", "__len__"), ("Run", "__init__"), ("House", "__init__"), ("House", "leave"), ("House", "enter"), ("House", "come"), ("House", "happen"), ("Round", "stays")])
abbrev hk : PySem.W.Hook := hookB nms fa fn ex gA gv
def ob (s : PySem.W.SharedT) : AlB := obsBG nms fa fn ex gA (HandSHeadRun.getT s)
theorem ob_eq (s : PySem.W.SharedT) : ob s = hk.obs s.abs := obsBG_eq (HandSHeadRun.getT_eq s)
def loose1 : List Str := ["_wall", "RoundsError", "BadSpan", "BadModulus", "BadName", "BadStay", "BadCount", "NoStep", "BadLengths", "BadNumber", "BadText", "LETTERS", "DIGITS", "MOST_SIGNS", "MOST_DIGITS", "is_name", "has_plain_digits", "read_number", "read_span", "joined", "common", "missing", "Moments", "HALL", "Round", "walk", "MOST_GROUPS", "Run", "House", "run"]
def loose2 : List Str := ["_law_state", "_law_mixed", "_law_draw", "_law_limit", "_law_signed", "_law_is_int", "_law_name", "_law_names", "_law_stays", "_law_lengths", "_law_walk", "_law_shared", "_law_is_rows", "_law_groups", "_law_is_run", "_law_are_walks", "_law_meeting_moment", "_law_within", "_law_is_first"]
def loose : List Str := loose1 ++ loose2
theorem run (w : World) : HandSHeadRun.RunEq R (PySem.W.view R.prog [56]) hk ob 8000 loose w := by
  intro os
  kernel_rfl
end NRH
set_option maxHeartbeats 4000000
/-! Plain mathematics of the waiting house: rows, plain walks, the spec Good, what it says of first waits. -/
namespace NR
structure Row (ρ : Type) where
  room : ρ
  come : Int
  enter : Int
  leave : Int

section
variable {ρ : Type} [DecidableEq ρ] (hall : ρ)

/-- a group's rows, as far as they go -/
def Ch : Int → List (ρ × Int) → List (Row ρ) → Prop
  | _, _, [] => True
  | _, [], _ :: _ => False
  | m, s :: ss, w :: ws => w.room = s.1 ∧ w.come = m ∧ m ≤ w.enter ∧ w.leave = w.enter + s.2 ∧ (s.1 = hall → w.enter = m) ∧ Ch w.leave ss ws

/-- when its last row ends -/
def fin : Int → List (Row ρ) → Int
  | m, [] => m
  | _, w :: ws => fin w.leave ws

/-- the plain walk -/
def pw : Int → List (ρ × Int) → List (ρ × Int × Int)
  | _, [] => []
  | m, s :: ss => (s.1, m, m + s.2) :: pw (m + s.2) ss

variable {hall}

theorem Ch.nil {m : Int} {ss : List (ρ × Int)} : Ch hall m ss [] := by cases ss <;> trivial
theorem Ch.len : ∀ {m : Int} {ss : List (ρ × Int)} {ws : List (Row ρ)}, Ch hall m ss ws → ws.length ≤ ss.length
  | _, _, [], _ => Nat.zero_le _
  | _, [], _ :: _, h => h.elim
  | _, _ :: ss, _ :: ws, h => Nat.succ_le_succ (Ch.len (ss := ss) (ws := ws) h.2.2.2.2.2)

theorem fin_snoc : ∀ {ws : List (Row ρ)} {m : Int} {w : Row ρ}, fin m (ws ++ [w]) = w.leave
  | [], _, _ => rfl
  | _ :: ws, _, _ => fin_snoc (ws := ws)

theorem Ch.snoc : ∀ {m : Int} {ss : List (ρ × Int)} {ws : List (Row ρ)} {r : ρ} {l e : Int}, Ch hall m ss ws → ss[ws.length]? = some (r, l) → fin m ws ≤ e → (r = hall → e = fin m ws) → Ch hall m ss (ws ++ [⟨r, fin m ws, e, e + l⟩])
  | m, [], [], r, l, e, _, hi, _, _ => by simp at hi
  | m, s :: ss, [], r, l, e, _, hi, he, hh => by
    simp at hi
    subst hi
    exact ⟨rfl, rfl, he, rfl, hh, Ch.nil⟩
  | _, [], _ :: _, _, _, _, h, _, _, _ => h.elim
  | _, _ :: ss, w :: ws, r, l, e, h, hi, he, hh => by
    refine ⟨h.1, h.2.1, h.2.2.1, h.2.2.2.1, h.2.2.2.2.1, ?_⟩
    refine Ch.snoc (ws := ws) h.2.2.2.2.2 ?_ he hh
    simpa using hi

def Pos (ss : List (ρ × Int)) : Prop := ∀ s ∈ ss, 0 < s.2

theorem Ch.le_fin : ∀ {m : Int} {ss : List (ρ × Int)} {ws : List (Row ρ)}, Ch hall m ss ws → Pos ss → m ≤ fin m ws
  | _, _, [], _, _ => Int.le_refl _
  | _, [], _ :: _, h, _ => h.elim
  | m, s :: ss, w :: ws, h, hp => by
    have h1 := Ch.le_fin (ws := ws) h.2.2.2.2.2 (fun x hx => hp x (List.mem_cons_of_mem _ hx))
    have h2 := hp s List.mem_cons_self
    have h3 := h.2.2.1
    have h4 := h.2.2.2.1
    show m ≤ fin w.leave ws
    omega

/-- each row: it comes no earlier than m, leaves behind its entering, no later than the end -/
theorem Ch.mem : ∀ {m : Int} {ss : List (ρ × Int)} {ws : List (Row ρ)} {w : Row ρ}, Ch hall m ss ws → Pos ss → w ∈ ws → m ≤ w.come ∧ w.come ≤ w.enter ∧ w.enter < w.leave ∧ w.leave ≤ fin m ws ∧ (w.room = hall → w.enter = w.come)
  | _, _, [], _, _, _, hw => by cases hw
  | _, [], _ :: _, _, h, _, _ => h.elim
  | m, s :: ss, u :: ws, w, h, hp, hw => by
    have hp' : Pos ss := fun x hx => hp x (List.mem_cons_of_mem _ hx)
    have h2 := hp s List.mem_cons_self
    obtain ⟨a, b, c, d, e, f⟩ := h
    have hle := Ch.le_fin f hp'
    rcases List.mem_cons.mp hw with rfl | hw
    · refine ⟨by omega, by omega, by omega, hle, fun q => ?_⟩
      rw [b]; exact e (a ▸ q)
    · obtain ⟨x1, x2, x3, x4, x5⟩ := Ch.mem f hp' hw
      exact ⟨by omega, x2, x3, x4, x5⟩

theorem Ch.last {m : Int} {ss : List (ρ × Int)} {ws : List (Row ρ)} {w : Row ρ} (_ : Ch hall m ss ws) (hl : ws.getLast? = some w) : fin m ws = w.leave := by
  obtain ⟨us, rfl⟩ := List.getLast?_eq_some_iff.mp hl
  exact fin_snoc

/-- a row that is not the last one is left no later than the last one is entered -/
theorem Ch.before : ∀ {m : Int} {ss : List (ρ × Int)} {ws : List (Row ρ)} {w u : Row ρ}, Ch hall m ss ws → Pos ss → ws.getLast? = some w → u ∈ ws → u = w ∨ u.leave ≤ w.enter
  | _, _, [], _, _, _, _, _, hu => by cases hu
  | _, [], _ :: _, _, _, h, _, _, _ => h.elim
  | m, s :: ss, v :: ws, w, u, h, hp, hl, hu => by
    have hp' : Pos ss := fun x hx => hp x (List.mem_cons_of_mem _ hx)
    obtain ⟨a, b, c, d, e, f⟩ := h
    cases ws with
    | nil =>
      simp at hl hu
      subst hl; exact .inl hu
    | cons v' ws' =>
      have hl' : (v' :: ws').getLast? = some w := by simpa using hl
      rcases List.mem_cons.mp hu with rfl | hu
      · have hw : w ∈ v' :: ws' := List.mem_of_getLast? hl'
        obtain ⟨x1, x2, _⟩ := Ch.mem f hp' hw
        right; omega
      · exact Ch.before f hp' hl' hu

/-- rows in their order: an earlier one is left when or before a later one comes -/
theorem Ch.order : ∀ {m : Int} {ss : List (ρ × Int)} {ws : List (Row ρ)} {i j : Nat} {w u : Row ρ}, Ch hall m ss ws → Pos ss → i < j → ws[i]? = some w → ws[j]? = some u → w.leave ≤ u.come
  | _, _, [], _, _, _, _, _, _, _, hi, _ => by simp at hi
  | _, [], _ :: _, _, _, _, _, h, _, _, _, _ => h.elim
  | m, s :: ss, v :: ws, i, j, w, u, h, hp, hij, hi, hj => by
    have hp' : Pos ss := fun x hx => hp x (List.mem_cons_of_mem _ hx)
    obtain ⟨a, b, c, d, e, f⟩ := h
    cases j with
    | zero => omega
    | succ j =>
      have hj' : ws[j]? = some u := by simpa using hj
      cases i with
      | zero =>
        simp at hi; subst hi
        exact (Ch.mem f hp' (List.mem_of_getElem? hj')).1
      | succ i => exact Ch.order (i := i) (j := j) f hp' (by omega) (by simpa using hi) hj'

/-- where nothing ahead of the i-th row waits, it comes as in the plain walk -/
theorem Ch.plain : ∀ {m : Int} {ss : List (ρ × Int)} {ws : List (Row ρ)} {i : Nat} {w : Row ρ}, Ch hall m ss ws → ws[i]? = some w → (∀ (j : Nat) (u : Row ρ), j < i → ws[j]? = some u → u.come = u.enter) →
    ∃ l, ss[i]? = some (w.room, l) ∧ w.leave = w.enter + l ∧ (pw m ss)[i]? = some (w.room, w.come, w.come + l)
  | _, _, [], _, _, _, hi, _ => by simp at hi
  | _, [], _ :: _, _, _, h, _, _ => h.elim
  | m, s :: ss, v :: ws, i, w, h, hi, hn => by
    obtain ⟨a, b, c, d, e, f⟩ := h
    cases i with
    | zero =>
      simp at hi; subst hi
      refine ⟨s.2, ?_, d, ?_⟩
      · simp [a]
      · simp [pw, a, b]
    | succ i =>
      have h0 : v.come = v.enter := hn 0 v (by omega) (by simp)
      obtain ⟨l, x1, x2, x3⟩ := Ch.plain (ws := ws) f (by simpa using hi) (fun j u hj hu => hn (j + 1) u (by omega) (by simpa using hu))
      refine ⟨l, by simpa using x1, x2, ?_⟩
      have e1 : m + s.2 = v.leave := by omega
      simpa [pw, e1] using x3

/-- conversely: the plain walk's i-th row, where nothing waits that comes no later than it -/
theorem Ch.back : ∀ {m : Int} {ss : List (ρ × Int)} {ws : List (Row ρ)} {i : Nat} {r : ρ} {a b : Int} {T : Int}, Ch hall m ss ws → ws.length = ss.length → (pw m ss)[i]? = some (r, a, b) → Pos ss → a ≤ T → (∀ u ∈ ws, u.come ≤ T → u.come = u.enter) →
    ∃ w, ws[i]? = some w ∧ w.room = r ∧ w.enter = a ∧ w.leave = b
  | _, [], _, _, _, _, _, _, _, _, hi, _, _, _ => by simp [pw] at hi
  | _, _ :: _, [], _, _, _, _, _, _, hl, _, _, _, _ => by simp at hl
  | m, s :: ss, v :: ws, i, r, a, b, T, h, hl, hi, hp, hT, hn => by
    have hp' : Pos ss := fun x hx => hp x (List.mem_cons_of_mem _ hx)
    have hs := hp s List.mem_cons_self
    obtain ⟨x1, x2, x3, x4, x5, x6⟩ := h
    have hm : m ≤ a := by
      have : ∀ (ss : List (ρ × Int)) (m : Int) (i : Nat), Pos ss → (pw m ss)[i]? = some (r, a, b) → m ≤ a := by
        intro ss
        induction ss with
        | nil => intro m i _ h; simp [pw] at h
        | cons s ss ih =>
          intro m i hp h
          cases i with
          | zero => simp [pw] at h; omega
          | succ i =>
            have := ih (m + s.2) i (fun x hx => hp x (List.mem_cons_of_mem _ hx)) (by simpa [pw] using h)
            have := hp s List.mem_cons_self
            omega
      exact this (s :: ss) m i hp hi
    have h0 : v.come = v.enter := hn v List.mem_cons_self (by omega)
    cases i with
    | zero =>
      simp [pw] at hi
      exact ⟨v, by simp, by rw [x1]; exact hi.1, by omega, by omega⟩
    | succ i =>
      have e1 : m + s.2 = v.leave := by omega
      have hi' : (pw v.leave ss)[i]? = some (r, a, b) := by rw [← e1]; simpa [pw] using hi
      obtain ⟨w, y1, y2⟩ := Ch.back x6 (by simpa using hl) hi' hp' hT (fun u hu => hn u (List.mem_cons_of_mem _ hu))
      exact ⟨w, by simpa using y1, y2⟩


/-! ### what a finished run is, and what it says of the first wait -/
/-- n groups; group p starts at st p with the stays ss p (room, length); R p its rows -/
structure Good (hall : ρ) (n : Nat) (st : Nat → Int) (ss : Nat → List (ρ × Int)) (R : Nat → List (Row ρ)) : Prop where
  pos : ∀ p, Pos (ss p)
  out : ∀ p, n ≤ p → R p = []
  ch : ∀ p, Ch hall (st p) (ss p) (R p)
  len : ∀ p, (R p).length = (ss p).length
  ex : ∀ p q w u, p ≠ q → w ∈ R p → u ∈ R q → w.room = u.room → w.room ≠ hall → w.leave ≤ u.enter ∨ u.leave ≤ w.enter
  cov : ∀ p w t, w ∈ R p → w.come ≤ t → t < w.enter → ∃ q u, q ≠ p ∧ u ∈ R q ∧ u.room = w.room ∧ u.enter ≤ t ∧ t < u.leave

/-- at t, which is when the later one enters, the plain walks of p and q share a room -/
def Meets (hall : ρ) (st : Nat → Int) (ss : Nat → List (ρ × Int)) (p q : Nat) (t : Int) : Prop :=
  ∃ (r : ρ) (a b c d : Int), r ≠ hall ∧ (r, a, b) ∈ pw (st p) (ss p) ∧ (r, c, d) ∈ pw (st q) (ss q) ∧ t = max a c ∧ t < min b d

theorem mem_ix {α : Type} {l : List α} {x : α} (h : x ∈ l) : ∃ i : Nat, l[i]? = some x := by
  obtain ⟨i, hi, e⟩ := List.mem_iff_getElem.mp h
  exact ⟨i, by rw [List.getElem?_eq_getElem hi, e]⟩

theorem Good.lt {hall : ρ} {n : Nat} {st : Nat → Int} {ss : Nat → List (ρ × Int)} {R : Nat → List (Row ρ)} (g : Good hall n st ss R) {p : Nat} {w : Row ρ} (h : w ∈ R p) : p < n := by
  rcases Nat.lt_or_ge p n with x | x
  · exact x
  · rw [g.out p x] at h; cases h

/-- no row waits that comes ahead of T; then a row that waits from T on comes so by its plain walk, and another plain walk is in its room then -/
theorem Good.first {hall : ρ} {n : Nat} {st : Nat → Int} {ss : Nat → List (ρ × Int)} {R : Nat → List (Row ρ)} (g : Good hall n st ss R) {T : Int} (hT : ∀ p w, w ∈ R p → w.come < T → w.come = w.enter)
    {p i : Nat} {w : Row ρ} (hi : (R p)[i]? = some w) (hc : w.come = T) (hw : w.come < w.enter) :
    w.room ≠ hall ∧ (∃ l, 0 < l ∧ (pw (st p) (ss p))[i]? = some (w.room, T, T + l)) ∧ ∃ (q : Nat) (c d : Int), q ≠ p ∧ q < n ∧ (w.room, c, d) ∈ pw (st q) (ss q) ∧ c ≤ T ∧ T < d := by
  have hmem := List.mem_of_getElem? hi
  have hm := Ch.mem (g.ch p) (g.pos p) hmem
  refine ⟨fun e => ?_, ?_, ?_⟩
  · have := hm.2.2.2.2 e; omega
  · obtain ⟨l, h1, h2, h3⟩ := Ch.plain (g.ch p) hi (fun j u hj hu => hT p u (List.mem_of_getElem? hu) (by
      have o := Ch.order (g.ch p) (g.pos p) hj hu hi
      have m := Ch.mem (g.ch p) (g.pos p) (List.mem_of_getElem? hu)
      omega))
    exact ⟨l, by have := hm.2.2.1; omega, by rw [hc] at h3; exact h3⟩
  · obtain ⟨q, u, hq, hu, hr, h1, h2⟩ := g.cov p w T hmem (by omega) (by omega)
    obtain ⟨j, hj⟩ := mem_ix hu
    have hmu := Ch.mem (g.ch q) (g.pos q) hu
    have hue : u.come = u.enter := by
      rcases Int.lt_or_le u.come T with x | x
      · exact hT q u hu x
      · omega
    obtain ⟨l, h3, h4, h5⟩ := Ch.plain (g.ch q) hj (fun k v hk hv => hT q v (List.mem_of_getElem? hv) (by
      have o := Ch.order (g.ch q) (g.pos q) hk hv hj
      have m := Ch.mem (g.ch q) (g.pos q) (List.mem_of_getElem? hv)
      omega))
    refine ⟨q, u.come, u.come + l, hq, g.lt hu, ?_, by omega, by omega⟩
    rw [← hr]
    exact List.mem_of_getElem? h5

/-- the least moment from which a row waits -/
theorem least_come {R : Nat → List (Row ρ)} : ∀ (n : Nat), (∀ p w, p < n → w ∈ R p → w.come = w.enter ∨ w.come < w.enter) → (∀ p w, p < n → w ∈ R p → w.come = w.enter) ∨ ∃ p w, p < n ∧ w ∈ R p ∧ w.come < w.enter ∧ ∀ q u, q < n → u ∈ R q → u.come < u.enter → w.come ≤ u.come := by
  have inner : ∀ l : List (Row ρ), (∀ w ∈ l, w.come = w.enter ∨ w.come < w.enter) → (∀ w ∈ l, w.come = w.enter) ∨ ∃ w ∈ l, w.come < w.enter ∧ ∀ u ∈ l, u.come < u.enter → w.come ≤ u.come := by
    intro l
    induction l with
    | nil => intro _; left; intro w h; cases h
    | cons a l ih =>
      intro hall
      rcases ih (fun w h => hall w (List.mem_cons_of_mem _ h)) with h | ⟨w, hw, h1, h2⟩
      · rcases hall a List.mem_cons_self with ha | ha
        · left; intro w hw; rcases List.mem_cons.mp hw with rfl | hw
          · exact ha
          · exact h w hw
        · right; refine ⟨a, List.mem_cons_self, ha, fun u hu hlt => ?_⟩
          rcases List.mem_cons.mp hu with rfl | hu
          · exact Int.le_refl _
          · have := h u hu; omega
      · rcases hall a List.mem_cons_self with ha | ha
        · right; refine ⟨w, List.mem_cons_of_mem _ hw, h1, fun u hu hlt => ?_⟩
          rcases List.mem_cons.mp hu with rfl | hu
          · omega
          · exact h2 u hu hlt
        · right
          rcases Int.le_total a.come w.come with hle | hle
          · refine ⟨a, List.mem_cons_self, ha, fun u hu hlt => ?_⟩
            rcases List.mem_cons.mp hu with rfl | hu
            · exact Int.le_refl _
            · exact Int.le_trans hle (h2 u hu hlt)
          · refine ⟨w, List.mem_cons_of_mem _ hw, h1, fun u hu hlt => ?_⟩
            rcases List.mem_cons.mp hu with rfl | hu
            · exact hle
            · exact h2 u hu hlt
  intro n
  induction n with
  | zero => intro _; left; intro p w h; omega
  | succ n ih =>
    intro hw
    rcases ih (fun p w hp h => hw p w (by omega) h) with h | ⟨p, w, hp, hm, hlt, hle⟩
    · rcases inner (R n) (fun w h => hw n w (by omega) h) with h' | ⟨w, hm, hlt, hle⟩
      · left; intro p w hp hm
        rcases Nat.lt_or_ge p n with x | x
        · exact h p w x hm
        · have : p = n := by omega
          subst this; exact h' w hm
      · right; refine ⟨n, w, by omega, hm, hlt, fun q u hq hu hul => ?_⟩
        rcases Nat.lt_or_ge q n with x | x
        · have := h q u x hu; omega
        · have : q = n := by omega
          subst this; exact hle u hu hul
    · rcases inner (R n) (fun w h => hw n w (by omega) h) with h' | ⟨w', hm', hlt', hle'⟩
      · right; refine ⟨p, w, by omega, hm, hlt, fun q u hq hu hul => ?_⟩
        rcases Nat.lt_or_ge q n with x | x
        · exact hle q u x hu hul
        · have : q = n := by omega
          subst this; have := h' u hu; omega
      · right
        rcases Int.le_total w.come w'.come with c | c
        · refine ⟨p, w, by omega, hm, hlt, fun q u hq hu hul => ?_⟩
          rcases Nat.lt_or_ge q n with x | x
          · exact hle q u x hu hul
          · have : q = n := by omega
            subst this; exact Int.le_trans c (hle' u hu hul)
        · refine ⟨n, w', by omega, hm', hlt', fun q u hq hu hul => ?_⟩
          rcases Nat.lt_or_ge q n with x | x
          · exact Int.le_trans c (hle q u x hu hul)
          · have : q = n := by omega
            subst this; exact hle' u hu hul

/-- a meeting of plain walks at m is the end of all: some row waits that comes no later -/
theorem Good.waits {hall : ρ} {n : Nat} {st : Nat → Int} {ss : Nat → List (ρ × Int)} {R : Nat → List (Row ρ)} (g : Good hall n st ss R) {p q : Nat} {t : Int} (hpq : p ≠ q) (h : Meets hall st ss p q t) :
    ¬ ∀ k w, w ∈ R k → w.come ≤ t → w.come = w.enter := by
  intro hn
  obtain ⟨r, a, b, c, d, hr, h1, h2, h3, h4⟩ := h
  obtain ⟨i, hi⟩ := mem_ix h1
  obtain ⟨j, hj⟩ := mem_ix h2
  obtain ⟨w, w1, w2, w3, w4⟩ := Ch.back (T := t) (g.ch p) (g.len p) hi (g.pos p) (by omega) (fun u hu => hn p u hu)
  obtain ⟨u, u1, u2, u3, u4⟩ := Ch.back (T := t) (g.ch q) (g.len q) hj (g.pos q) (by omega) (fun u hu => hn q u hu)
  rcases g.ex p q w u hpq (List.mem_of_getElem? w1) (List.mem_of_getElem? u1) (by rw [w2, u2]) (by rw [w2]; exact hr) with x | x
  · omega
  · omega

/-- from a row that waits first, a meeting at its moment -/
theorem Good.meets {hall : ρ} {n : Nat} {st : Nat → Int} {ss : Nat → List (ρ × Int)} {R : Nat → List (Row ρ)} (g : Good hall n st ss R) {T : Int} (hT : ∀ p w, w ∈ R p → w.come < T → w.come = w.enter)
    {p i : Nat} {w : Row ρ} (hi : (R p)[i]? = some w) (hc : w.come = T) (hw : w.come < w.enter) : ∃ q, q ≠ p ∧ q < n ∧ Meets hall st ss p q T := by
  obtain ⟨h1, ⟨l, hl, h2⟩, q, c, d, h3, h4, h5, h6, h7⟩ := g.first hT hi hc hw
  exact ⟨q, h3, h4, w.room, T, T + l, c, d, h1, List.mem_of_getElem? h2, h5, by omega, by omega⟩

/-- THE FIRST HALF: no meeting, no wait: all rows are the plain walk's -/
theorem Good.none {hall : ρ} {n : Nat} {st : Nat → Int} {ss : Nat → List (ρ × Int)} {R : Nat → List (Row ρ)} (g : Good hall n st ss R) (hno : ∀ p q t, p < n → q < n → p ≠ q → ¬ Meets hall st ss p q t) :
    (∀ p w, w ∈ R p → w.come = w.enter) ∧ ∀ p, (R p).map (fun w => (w.room, w.come, w.leave)) = pw (st p) (ss p) := by
  have key : ∀ p w, w ∈ R p → w.come = w.enter := by
    rcases least_come (R := R) n (fun p w _ hm => by have := Ch.mem (g.ch p) (g.pos p) hm; omega) with h | ⟨p, w, hp, hm, hlt, hle⟩
    · intro p w hm; exact h p w (g.lt hm) hm
    · exfalso
      obtain ⟨i, hi⟩ := mem_ix hm
      obtain ⟨q, hq, hqn, hmt⟩ := g.meets (T := w.come) (fun k u hu hlt' => by
        have m := Ch.mem (g.ch k) (g.pos k) hu
        rcases Int.lt_or_le u.come u.enter with x | x
        · have := hle k u (g.lt hu) hu x; omega
        · omega) hi rfl hlt
      exact hno p q _ hp hqn (fun e => hq e.symm) hmt
  refine ⟨key, fun p => ?_⟩
  have pwlen : ∀ (ss : List (ρ × Int)) (m : Int), (pw m ss).length = ss.length := by
    intro ss; induction ss with
    | nil => intro m; rfl
    | cons s ss ih => intro m; simp [pw, ih]
  apply List.ext_getElem?
  intro i
  rw [List.getElem?_map]
  cases hi : (R p)[i]? with
  | none =>
    have := List.getElem?_eq_none_iff.mp hi
    rw [g.len p] at this
    rw [List.getElem?_eq_none_iff.mpr (by rw [pwlen]; exact this)]; rfl
  | some w =>
    obtain ⟨l, h1, h2, h3⟩ := Ch.plain (g.ch p) hi (fun j u hj hu => key p u (List.mem_of_getElem? hu))
    rw [h3]
    have := key p w (List.mem_of_getElem? hi)
    simp; omega

/-- THE SECOND HALF: m the first meeting: no row waits that comes ahead of m, one waits that comes at m -/
theorem Good.some {hall : ρ} {n : Nat} {st : Nat → Int} {ss : Nat → List (ρ × Int)} {R : Nat → List (Row ρ)} (g : Good hall n st ss R) {m : Int} {p0 q0 : Nat} (h0 : p0 ≠ q0) (hm : Meets hall st ss p0 q0 m)
    (hle : ∀ p q t, p < n → q < n → p ≠ q → Meets hall st ss p q t → m ≤ t) :
    (∀ p w, w ∈ R p → w.come < m → w.come = w.enter) ∧ ∃ p w, w ∈ R p ∧ w.come = m ∧ w.come < w.enter := by
  rcases least_come (R := R) n (fun p w _ hm => by have := Ch.mem (g.ch p) (g.pos p) hm; omega) with h | ⟨p, w, hp, hw, hlt, hl⟩
  · exact (g.waits h0 hm fun k w hk _ => h k w (g.lt hk) hk).elim
  · have hT : ∀ k u, u ∈ R k → u.come < w.come → u.come = u.enter := fun k u hu hlt' => by
      have m := Ch.mem (g.ch k) (g.pos k) hu
      rcases Int.lt_or_le u.come u.enter with x | x
      · have := hl k u (g.lt hu) hu x; omega
      · omega
    obtain ⟨i, hi⟩ := mem_ix hw
    obtain ⟨q, hq, hqn, hmt⟩ := g.meets hT hi rfl hlt
    have h1 := hle p q _ hp hqn (fun e => hq e.symm) hmt
    have h2 : w.come ≤ m := by
      rcases Int.lt_or_le m w.come with x | x
      · exact (g.waits h0 hm fun k u hk hku => hT k u hk (by omega)).elim
      · exact x
    have h3 : w.come = m := by omega
    exact ⟨fun k u hu hc => hT k u hu (by omega), p, w, hw, h3, hlt⟩
end
end NR
/-! The simulation: the state of the waiting house, its deeds, the invariant J. -/
namespace NR
/-- the state: each group's rows, when it leaves, who is in a room, who queues for it -/
structure S (ρ : Type) where
  rows : Nat → List (Row ρ)
  due : Nat → Option Int
  ins : ρ → Option Nat
  que : ρ → List (Int × Nat)

section
variable {ρ : Type} [DecidableEq ρ]

def up {α β : Type} [DecidableEq α] (f : α → β) (a : α) (b : β) : α → β := fun x => if x = a then b else f x
theorem up_same {α β : Type} [DecidableEq α] {f : α → β} {a : α} {b : β} : up f a b a = b := by simp [up]
theorem up_ne {α β : Type} [DecidableEq α] {f : α → β} {a x : α} {b : β} (h : x ≠ a) : up f a b x = f x := by simp [up, h]

/-- the room that a group is in, or was in last -/
def S.last (s : S ρ) (p : Nat) : Option ρ := (s.rows p).getLast?.map (·.room)

def S.leave (hall : ρ) (s : S ρ) (p : Nat) : S ρ :=
  { s with due := up s.due p none, ins := match s.last p with
      | some r => if r = hall then s.ins else up s.ins r none
      | none => s.ins }

/-- group p enters its next room (r, l) -/
def S.enter (hall : ρ) (s : S ρ) (p : Nat) (r : ρ) (l come now : Int) : S ρ :=
  { s with rows := up s.rows p (s.rows p ++ [⟨r, come, now, now + l⟩]), due := up s.due p (some (now + l)), ins := if r = hall then s.ins else up s.ins r (some p) }

def S.come (hall : ρ) (ss : Nat → List (ρ × Int)) (s : S ρ) (p : Nat) (now : Int) : S ρ :=
  match (ss p)[(s.rows p).length]? with
  | some (r, l) => if r = hall then s.enter hall p r l now now else { s with que := up s.que r (s.que r ++ [(now, p)]) }
  | none => s

def S.room (hall : ρ) (ss : Nat → List (ρ × Int)) (s : S ρ) (r : ρ) (now : Int) : S ρ :=
  match s.que r, s.ins r with
  | (c, p) :: rest, none => match (ss p)[(s.rows p).length]? with
    | some (r', l) => ({ s with que := up s.que r rest } : S ρ).enter hall p r' l c now
    | none => s
  | _, _ => s

/-- the invariant at the moment now: the groups of L are still to leave, those of C to come -/
structure J (hall : ρ) (n : Nat) (st : Nat → Int) (ss : Nat → List (ρ × Int)) (now : Int) (L C : Nat → Prop) (s : S ρ) : Prop where
  pos : ∀ p, Pos (ss p)
  out : ∀ p, n ≤ p → ss p = [] ∧ s.due p = none
  ch : ∀ p, Ch hall (st p) (ss p) (s.rows p)
  ent : ∀ p w, w ∈ s.rows p → w.enter ≤ now
  bus : ∀ p d, s.due p = some d → d = fin (st p) (s.rows p) ∧ (L p → d = now) ∧ (¬ L p → now < d)
  busC : ∀ p, C p → s.due p = none
  idle : ∀ p, s.due p = none → ¬ L p ∧ (p < n → fin (st p) (s.rows p) ≤ now) ∧ (C p → fin (st p) (s.rows p) = now)
  wai : ∀ p, s.due p = none → ¬ C p → (s.rows p).length < (ss p).length → ∃ r, (fin (st p) (s.rows p), p) ∈ s.que r
  que : ∀ r c p, (c, p) ∈ s.que r → s.due p = none ∧ ¬ C p ∧ (∃ l, (ss p)[(s.rows p).length]? = some (r, l)) ∧ r ≠ hall ∧ c = fin (st p) (s.rows p)
  qnd : ∀ r, ((s.que r).map (·.2)).Nodup
  ins : ∀ r q, s.ins r = some q ↔ r ≠ hall ∧ (s.due q).isSome = true ∧ s.last q = some r
  ex : ∀ p q w u, p ≠ q → w ∈ s.rows p → u ∈ s.rows q → w.room = u.room → w.room ≠ hall → w.leave ≤ u.enter ∨ u.leave ≤ w.enter
  cov : ∀ p w t, w ∈ s.rows p → w.come ≤ t → t < w.enter → ∃ q u, q ≠ p ∧ u ∈ s.rows q ∧ u.room = w.room ∧ u.enter ≤ t ∧ t < u.leave
  cvq : ∀ r c p t, (c, p) ∈ s.que r → c ≤ t → t < now → ∃ q u, q ≠ p ∧ u ∈ s.rows q ∧ u.room = r ∧ u.enter ≤ t ∧ t < u.leave

variable {hall : ρ} {n : Nat} {st : Nat → Int} {ss : Nat → List (ρ × Int)} {now : Int} {L C : Nat → Prop} {s : S ρ}

theorem J.lt (j : J hall n st ss now L C s) {p : Nat} (h : (s.rows p).length < (ss p).length) : p < n := by
  rcases Nat.lt_or_ge p n with x | x
  · exact x
  · rw [(j.out p x).1] at h; simp at h

theorem last_some {s : S ρ} {p : Nat} {r : ρ} (h : s.last p = some r) : ∃ w, (s.rows p).getLast? = some w ∧ w.room = r := by
  unfold S.last at h
  cases e : (s.rows p).getLast? with
  | none => rw [e] at h; cases h
  | some w => rw [e] at h; exact ⟨w, rfl, by simpa using h⟩

/-- nobody is in room r: all rows in it are over -/
theorem J.over (j : J hall n st ss now L C s) {r : ρ} (hr : r ≠ hall) (hi : s.ins r = none) {q : Nat} {u : Row ρ} (hu : u ∈ s.rows q) (e : u.room = r) : u.leave ≤ now := by
  obtain ⟨w, hw⟩ : ∃ w, (s.rows q).getLast? = some w := by
    cases e : (s.rows q).getLast? with
    | none => rw [List.getLast?_eq_none_iff] at e; rw [e] at hu; cases hu
    | some w => exact ⟨w, rfl⟩
  rcases Ch.before (j.ch q) (j.pos q) hw hu with rfl | h
  · cases hd : s.due q with
    | some d =>
      have := (j.ins r q).mpr ⟨hr, by rw [hd]; rfl, by unfold S.last; rw [hw]; simp [e]⟩
      rw [hi] at this; cases this
    | none =>
      have hn : q < n := by
        rcases Nat.lt_or_ge q n with x | x
        · exact x
        · have h1 := Ch.len (j.ch q)
          rw [(j.out q x).1] at h1
          have h2 : s.rows q = [] := by simpa using h1
          rw [h2] at hu; cases hu
      have := (j.idle q hd).2.1 hn
      rw [Ch.last (j.ch q) hw] at this
      exact this
  · have := j.ent q w (List.mem_of_getLast? hw)
    omega

/-! ### to the next moment -/
theorem J.next (j : J hall n st ss now (fun _ => False) (fun _ => False) s) (hF : ∀ r, s.que r ≠ [] → s.ins r ≠ none) {to : Int} (h1 : ∀ p d, s.due p = some d → to ≤ d) (h2 : now ≤ to) :
    J hall n st ss to (fun p => s.due p = some to) (fun _ => False) s where
  pos := j.pos
  out := j.out
  ch := j.ch
  ent := fun p w h => Int.le_trans (j.ent p w h) h2
  bus := fun p d h => ⟨(j.bus p d h).1, fun e => by rw [h] at e; exact (Option.some.inj e), fun e => by
    have := h1 p d h
    have : d ≠ to := fun q => e (by rw [h, q])
    omega⟩
  busC := fun _ h => h.elim
  idle := fun p h => ⟨fun e => (by rw [h] at e; cases e), fun hn => Int.le_trans ((j.idle p h).2.1 hn) h2, fun e => e.elim⟩
  wai := j.wai
  que := j.que
  qnd := j.qnd
  ins := j.ins
  ex := j.ex
  cov := j.cov
  cvq := fun r c p t hm hc ht => by
    rcases Int.lt_or_le t now with x | x
    · exact j.cvq r c p t hm hc x
    · have hne : s.que r ≠ [] := fun e => by rw [e] at hm; cases hm
      cases hi : s.ins r with
      | none => exact (hF r hne hi).elim
      | some q =>
        obtain ⟨hr, hd, hl⟩ := (j.ins r q).mp hi
        obtain ⟨d, hd⟩ := Option.isSome_iff_exists.mp hd
        obtain ⟨w, hw, er⟩ := last_some hl
        have hb := (j.bus q d hd).1
        rw [Ch.last (j.ch q) hw] at hb
        have ho := h1 q d hd
        refine ⟨q, w, fun e => ?_, List.mem_of_getLast? hw, er, ?_, by omega⟩
        · have := (j.que r c p hm).1
          rw [← e, hd] at this; cases this
        · have := j.ent q w (List.mem_of_getLast? hw); omega

/-! ### a group leaves -/
theorem S.leave_last {s : S ρ} {p q : Nat} : (s.leave hall p).last q = s.last q := rfl
theorem S.leave_rows {s : S ρ} {p : Nat} : (s.leave hall p).rows = s.rows := rfl
theorem S.leave_que {s : S ρ} {p : Nat} : (s.leave hall p).que = s.que := rfl
theorem S.leave_due {s : S ρ} {p : Nat} : (s.leave hall p).due = up s.due p none := rfl

theorem J.leave (j : J hall n st ss now L C s) {p : Nat} (hd : s.due p = some now) (hp : L p) (hC : ∀ q, C q → ¬ L q) : J hall n st ss now (fun q => L q ∧ q ≠ p) (fun q => C q ∨ q = p) (s.leave hall p) where
  pos := j.pos
  out := fun q h => ⟨(j.out q h).1, by rw [S.leave_due]; unfold up; split; rfl; exact (j.out q h).2⟩
  ch := j.ch
  ent := j.ent
  bus := fun q d h => by
    rw [S.leave_due] at h
    unfold up at h
    split at h
    · cases h
    · rename_i hq
      refine ⟨(j.bus q d h).1, fun e => (j.bus q d h).2.1 e.1, fun e => (j.bus q d h).2.2 fun e' => e ⟨e', hq⟩⟩
  busC := fun q h => by
    rw [S.leave_due]; unfold up; split
    · rfl
    · rcases h with h | h
      · exact j.busC q h
      · rename_i hq; exact (hq h).elim
  idle := fun q h => by
    rw [S.leave_due] at h
    unfold up at h
    split at h
    · rename_i hq
      have hf := (j.bus p now hd).1
      refine ⟨fun e => e.2 hq, fun _ => ?_, fun _ => ?_⟩ <;> rw [S.leave_rows, hq] <;> omega
    · rename_i hq
      have := j.idle q h
      refine ⟨fun e => this.1 e.1, this.2.1, fun e => ?_⟩
      rcases e with e | e
      · exact this.2.2 e
      · exact (hq e).elim
  wai := fun q h hc hl => by
    rw [S.leave_due] at h
    unfold up at h
    split at h
    · rename_i hq; exact (hc (.inr hq)).elim
    · exact j.wai q h (fun e => hc (.inl e)) hl
  que := fun r c q h => by
    obtain ⟨h1, h2, h3⟩ := j.que r c q h
    have hq : q ≠ p := fun e => by rw [e, hd] at h1; cases h1
    refine ⟨by rw [S.leave_due, up_ne hq]; exact h1, fun e => ?_, h3⟩
    rcases e with e | e
    · exact h2 e
    · exact hq e
  qnd := j.qnd
  ins := fun r q => by
    rw [S.leave_last, S.leave_due]
    have key : (s.leave hall p).ins r = some q ↔ s.ins r = some q ∧ q ≠ p := by
      unfold S.leave
      constructor
      · intro h
        dsimp only at h
        cases hl : s.last p with
        | none =>
          rw [hl] at h
          refine ⟨h, fun e => ?_⟩
          have := ((j.ins r q).mp h).2.2
          rw [e, hl] at this; cases this
        | some r' =>
          rw [hl] at h
          dsimp only at h
          by_cases hh : r' = hall
          · rw [if_pos hh] at h
            refine ⟨h, fun e => ?_⟩
            have := (j.ins r q).mp h
            rw [e, hl] at this
            exact this.1 ((Option.some.inj this.2.2) ▸ hh)
          · rw [if_neg hh] at h
            unfold up at h
            split at h
            · cases h
            · rename_i hr
              refine ⟨h, fun e => ?_⟩
              have := (j.ins r q).mp h
              rw [e, hl] at this
              exact hr (Option.some.inj this.2.2).symm
      · intro ⟨h, hq⟩
        dsimp only
        cases hl : s.last p with
        | none => exact h
        | some r' =>
          dsimp only
          by_cases hh : r' = hall
          · rw [if_pos hh]; exact h
          · rw [if_neg hh]
            unfold up
            split
            · rename_i hr
              exfalso
              have h1 := (j.ins r p).mpr ⟨hr ▸ hh, by rw [hd]; rfl, by rw [hl, hr]⟩
              rw [h] at h1
              exact hq (Option.some.inj h1)
            · exact h
    rw [key, j.ins r q]
    by_cases hq : q = p
    · subst hq; simp [up_same]
    · rw [up_ne hq]; simp [hq]
  ex := j.ex
  cov := j.cov
  cvq := j.cvq


/-! ### a group enters -/
theorem mem_up {f : Nat → List (Row ρ)} {p q : Nat} {w u : Row ρ} (h : u ∈ up f p (f p ++ [w]) q) : u ∈ f q ∨ (q = p ∧ u = w) := by
  unfold up at h
  split at h
  · rename_i e
    rcases List.mem_append.mp h with h | h
    · exact .inl (e ▸ h)
    · exact .inr ⟨e, by simpa using h⟩
  · exact .inl h
theorem up_mem {f : Nat → List (Row ρ)} {p q : Nat} {w u : Row ρ} (h : u ∈ f q) : u ∈ up f p (f p ++ [w]) q := by
  unfold up
  split
  · rename_i e
    exact List.mem_append_left _ (e ▸ h)
  · exact h

theorem J.enter (j : J hall n st ss now L C s) {p : Nat} {r : ρ} {l c : Int} {que' : ρ → List (Int × Nat)} (hL : ∀ q, ¬ L q) (hd : s.due p = none) (hs : (ss p)[(s.rows p).length]? = some (r, l))
    (hc : c = fin (st p) (s.rows p)) (hh : r = hall → c = now) (hr : r ≠ hall → s.ins r = none)
    (hcov : ∀ t, c ≤ t → t < now → ∃ q u, q ≠ p ∧ u ∈ s.rows q ∧ u.room = r ∧ u.enter ≤ t ∧ t < u.leave)
    (q1 : ∀ r' c' q, (c', q) ∈ que' r' → (c', q) ∈ s.que r' ∧ q ≠ p) (q2 : ∀ r' c' q, (c', q) ∈ s.que r' → q ≠ p → (c', q) ∈ que' r') (q3 : ∀ r', ((que' r').map (·.2)).Nodup) :
    J hall n st ss now L (fun q => C q ∧ q ≠ p) (({ s with que := que' } : S ρ).enter hall p r l c now) := by
  have hl : (s.rows p).length < (ss p).length := (List.getElem?_eq_some_iff.mp hs).1
  have hpn : p < n := j.lt hl
  have hlpos : 0 < l := j.pos p (r, l) (List.mem_of_getElem? hs)
  have hfin : fin (st p) (s.rows p) ≤ now := (j.idle p hd).2.1 hpn
  have hrows : ∀ q, q ≠ p → up s.rows p (s.rows p ++ [(⟨r, c, now, now + l⟩ : Row ρ)]) q = s.rows q := fun q hq => up_ne hq
  have hrowp : up s.rows p (s.rows p ++ [(⟨r, c, now, now + l⟩ : Row ρ)]) p = s.rows p ++ [⟨r, c, now, now + l⟩] := up_same
  have hlast : ∀ q, (({ s with que := que' } : S ρ).enter hall p r l c now).last q = if q = p then some r else s.last q := fun q => by
    unfold S.last S.enter
    dsimp only
    by_cases hq : q = p
    · subst hq; rw [if_pos rfl, up_same]; simp
    · rw [if_neg hq, up_ne hq]
  have hdue : ∀ q, (({ s with que := que' } : S ρ).enter hall p r l c now).due q = if q = p then some (now + l) else s.due q := fun q => by
    unfold S.enter; dsimp only; unfold up; rfl
  refine ⟨j.pos, fun q hq => ⟨(j.out q hq).1, ?_⟩, fun q => ?_, fun q w hw => ?_, fun q d h => ?_, fun q h => ?_, fun q h => ?_, fun q h hcq hlq => ?_, fun r' c' q h => ?_, q3, fun r' q => ?_, fun a b w u hab hw hu e hne => ?_, fun q w t hw h1 h2 => ?_, fun r' c' q t h h1 h2 => ?_⟩
  · rw [hdue, if_neg (by omega)]; exact (j.out q hq).2
  · show Ch hall (st q) (ss q) (up s.rows p (s.rows p ++ [⟨r, c, now, now + l⟩]) q)
    by_cases hq : q = p
    · subst hq
      rw [hrowp, hc]
      exact Ch.snoc (j.ch q) hs hfin (fun e => by have := hh e; omega)
    · rw [hrows q hq]; exact j.ch q
  · rcases mem_up hw with h | ⟨_, rfl⟩
    · exact j.ent q w h
    · exact Int.le_refl _
  · rw [hdue] at h
    by_cases hq : q = p
    · subst hq
      rw [if_pos rfl] at h
      cases h
      refine ⟨?_, fun e => (hL _ e).elim, fun _ => by omega⟩
      show now + l = fin (st q) (up s.rows q (s.rows q ++ [⟨r, c, now, now + l⟩]) q)
      rw [hrowp, fin_snoc]
    · rw [if_neg hq] at h
      have := j.bus q d h
      refine ⟨?_, this.2⟩
      show d = fin (st q) (up s.rows p (s.rows p ++ [⟨r, c, now, now + l⟩]) q)
      rw [hrows q hq]; exact this.1
  · rw [hdue, if_neg h.2]; exact j.busC q h.1
  · rw [hdue] at h
    by_cases hq : q = p
    · rw [if_pos hq] at h; cases h
    · rw [if_neg hq] at h
      have := j.idle q h
      show ¬ L q ∧ (q < n → fin (st q) (up s.rows p (s.rows p ++ [⟨r, c, now, now + l⟩]) q) ≤ now) ∧ (C q ∧ q ≠ p → fin (st q) (up s.rows p (s.rows p ++ [⟨r, c, now, now + l⟩]) q) = now)
      rw [hrows q hq]
      exact ⟨this.1, this.2.1, fun e => this.2.2 e.1⟩
  · rw [hdue] at h
    by_cases hq : q = p
    · rw [if_pos hq] at h; cases h
    · rw [if_neg hq] at h
      have hlq' : (s.rows q).length < (ss q).length := by
        have : (up s.rows p (s.rows p ++ [(⟨r, c, now, now + l⟩ : Row ρ)]) q).length < (ss q).length := hlq
        rwa [hrows q hq] at this
      obtain ⟨r', hr'⟩ := j.wai q h (fun e => hcq ⟨e, hq⟩) hlq'
      refine ⟨r', ?_⟩
      show (fin (st q) (up s.rows p (s.rows p ++ [⟨r, c, now, now + l⟩]) q), q) ∈ que' r'
      rw [hrows q hq]
      exact q2 r' _ q hr' hq
  · obtain ⟨h1, hq⟩ := q1 r' c' q h
    obtain ⟨a1, a2, a3, a4, a5⟩ := j.que r' c' q h1
    refine ⟨by rw [hdue, if_neg hq]; exact a1, fun e => a2 e.1, ?_, a4, ?_⟩
    · show ∃ l', (ss q)[(up s.rows p (s.rows p ++ [⟨r, c, now, now + l⟩]) q).length]? = some (r', l')
      rw [hrows q hq]; exact a3
    · show c' = fin (st q) (up s.rows p (s.rows p ++ [⟨r, c, now, now + l⟩]) q)
      rw [hrows q hq]; exact a5
  · rw [hlast, hdue]
    by_cases hhall : r = hall
    · have e1 : (({ s with que := que' } : S ρ).enter hall p r l c now).ins = s.ins := by unfold S.enter; dsimp only; rw [if_pos hhall]
      rw [e1, j.ins r' q]
      by_cases hq : q = p
      · subst hq
        rw [if_pos rfl, if_pos rfl, hd]
        constructor
        · rintro ⟨_, h, _⟩; cases h
        · rintro ⟨h, _, e⟩; exact (h ((Option.some.inj e) ▸ hhall)).elim
      · rw [if_neg hq, if_neg hq]
    · have e1 : (({ s with que := que' } : S ρ).enter hall p r l c now).ins = up s.ins r (some p) := by unfold S.enter; dsimp only; rw [if_neg hhall]
      rw [e1]
      have hin := hr hhall
      by_cases hr' : r' = r
      · subst hr'
        rw [up_same]
        by_cases hq : q = p
        · subst hq; simp [hhall]
        · rw [if_neg hq, if_neg hq]
          constructor
          · intro e; exact (hq (Option.some.inj e).symm).elim
          · intro e
            have := (j.ins r' q).mpr e
            rw [hin] at this; cases this
      · rw [up_ne hr', j.ins r' q]
        by_cases hq : q = p
        · subst hq
          rw [if_pos rfl, if_pos rfl, hd]
          constructor
          · rintro ⟨_, h, _⟩; cases h
          · rintro ⟨_, _, e⟩; exact (hr' (Option.some.inj e).symm).elim
        · rw [if_neg hq, if_neg hq]
  · rcases mem_up hw with hw | ⟨ea, ew⟩
    · rcases mem_up hu with hu | ⟨eb, eu⟩
      · exact j.ex a b w u hab hw hu e hne
      · left
        subst eu
        have er : w.room = r := e
        have := j.over (er ▸ hne) (hr (er ▸ hne)) hw er
        exact this
    · rcases mem_up hu with hu | ⟨eb, eu⟩
      · right
        subst ew
        have er : u.room = r := e.symm
        exact j.over hne (hr hne) hu er
      · exact (hab (ea.trans eb.symm)).elim
  · rcases mem_up hw with hw | ⟨ea, ew⟩
    · obtain ⟨k, u, b1, b2, b3⟩ := j.cov q w t hw h1 h2
      exact ⟨k, u, b1, up_mem b2, b3⟩
    · subst ew ea
      obtain ⟨k, u, b1, b2, b3⟩ := hcov t h1 h2
      exact ⟨k, u, b1, up_mem b2, b3⟩
  · obtain ⟨k, u, b1, b2, b3⟩ := j.cvq r' c' q t (q1 r' c' q h).1 h1 h2
    exact ⟨k, u, b1, up_mem b2, b3⟩

/-! ### a group comes -/
theorem J.come (j : J hall n st ss now L C s) (hL : ∀ q, ¬ L q) {p : Nat} (hp : C p) : J hall n st ss now L (fun q => C q ∧ q ≠ p) (s.come hall ss p now) := by
  have hd := j.busC p hp
  have hf := (j.idle p hd).2.2 hp
  have hq : ∀ r c, (c, p) ∉ s.que r := fun r c h => (j.que r c p h).2.1 hp
  unfold S.come
  cases hs : (ss p)[(s.rows p).length]? with
  | none =>
    dsimp only
    refine { j with busC := fun q h => j.busC q h.1, idle := fun q h => ⟨(j.idle q h).1, (j.idle q h).2.1, fun e => (j.idle q h).2.2 e.1⟩, wai := fun q h hc hl => ?_, que := fun r c q h => ?_ }
    · by_cases e : q = p
      · subst e
        have := List.getElem?_eq_none_iff.mp hs
        omega
      · exact j.wai q h (fun e' => hc ⟨e', e⟩) hl
    · have := j.que r c q h
      exact ⟨this.1, fun e => this.2.1 e.1, this.2.2⟩
  | some rl =>
    obtain ⟨r, l⟩ := rl
    dsimp only
    by_cases hh : r = hall
    · rw [if_pos hh]
      exact J.enter (que' := s.que) j hL hd hs hf.symm (fun _ => rfl) (fun e => (e hh).elim) (fun t h1 h2 => by omega)
        (fun r' c' q h => ⟨h, fun e => hq r' c' (e ▸ h)⟩) (fun _ _ _ h _ => h) j.qnd
    · rw [if_neg hh]
      have hmem : ∀ r' c' q, (c', q) ∈ up s.que r (s.que r ++ [(now, p)]) r' → (c', q) ∈ s.que r' ∨ (r' = r ∧ c' = now ∧ q = p) := fun r' c' q h => by
        unfold up at h
        split at h
        · rename_i e
          rcases List.mem_append.mp h with h | h
          · exact .inl (e ▸ h)
          · simp at h; exact .inr ⟨e, h.1, h.2⟩
        · exact .inl h
      have hsub : ∀ r' c' q, (c', q) ∈ s.que r' → (c', q) ∈ up s.que r (s.que r ++ [(now, p)]) r' := fun r' c' q h => by
        unfold up
        split
        · rename_i e; exact List.mem_append_left _ (e ▸ h)
        · exact h
      have hl : (s.rows p).length < (ss p).length := (List.getElem?_eq_some_iff.mp hs).1
      refine { j with busC := fun q h => j.busC q h.1, idle := fun q h => ⟨(j.idle q h).1, (j.idle q h).2.1, fun e => (j.idle q h).2.2 e.1⟩, wai := fun q h hc hl => ?_, que := fun r' c' q h => ?_, qnd := fun r' => ?_, cvq := fun r' c' q t h h1 h2 => ?_ }
      · by_cases e : q = p
        · subst e
          refine ⟨r, ?_⟩
          rw [show fin (st q) (s.rows q) = now from hf]
          show (now, q) ∈ up s.que r (s.que r ++ [(now, q)]) r
          rw [up_same]; simp
        · obtain ⟨r', h'⟩ := j.wai q h (fun e' => hc ⟨e', e⟩) hl
          exact ⟨r', hsub _ _ _ h'⟩
      · rcases hmem r' c' q h with h | ⟨e1, e2, e3⟩
        · have := j.que r' c' q h
          exact ⟨this.1, fun e => this.2.1 e.1, this.2.2⟩
        · subst e1 e3
          exact ⟨hd, fun e => e.2 rfl, ⟨l, hs⟩, hh, by rw [e2]; exact hf.symm⟩
      · show ((up s.que r (s.que r ++ [(now, p)]) r').map (·.2)).Nodup
        unfold up
        split
        · rw [List.map_append, List.nodup_append]
          refine ⟨j.qnd r, by simp, ?_⟩
          intro a ha b hb
          simp at hb
          rw [hb]
          intro e
          obtain ⟨x, hx, ex⟩ := List.mem_map.mp ha
          obtain ⟨c', q⟩ := x
          dsimp only at ex
          exact hq r c' ((ex.trans e) ▸ hx)
        · exact j.qnd r'
      · rcases hmem r' c' q h with h | ⟨e1, e2, e3⟩
        · exact j.cvq r' c' q t h h1 h2
        · omega

/-! ### a room is looked at -/
theorem J.room (j : J hall n st ss now (fun _ => False) (fun _ => False) s) (r : ρ) : J hall n st ss now (fun _ => False) (fun _ => False) (s.room hall ss r now) ∧
    (∀ r', (s.que r' ≠ [] → s.ins r' ≠ none) → (s.room hall ss r now).que r' ≠ [] → (s.room hall ss r now).ins r' ≠ none) ∧ ((s.room hall ss r now).que r ≠ [] → (s.room hall ss r now).ins r ≠ none) := by
  unfold S.room
  cases hq : s.que r with
  | nil => exact ⟨j, fun _ h => h, fun h => (h hq).elim⟩
  | cons cp rest =>
    obtain ⟨c, p⟩ := cp
    cases hi : s.ins r with
    | some q => exact ⟨j, fun _ h => h, fun _ => by dsimp only; rw [hi]; exact fun e => by cases e⟩
    | none =>
      dsimp only
      have hm : (c, p) ∈ s.que r := by rw [hq]; exact List.mem_cons_self
      obtain ⟨a1, _, ⟨l, a3⟩, a4, a5⟩ := j.que r c p hm
      rw [a3]
      dsimp only
      have hnd := j.qnd r
      rw [hq, List.map_cons, List.nodup_cons] at hnd
      have hall' : ∀ r' c' q, (c', q) ∈ s.que r' → q = p → r' = r := fun r' c' q h e => by
        subst e
        obtain ⟨_, _, ⟨l', b3⟩, _⟩ := j.que r' c' q h
        rw [a3] at b3
        exact (congrArg Prod.fst (Option.some.inj b3)).symm
      have jj := J.enter (que' := up s.que r rest) j (fun _ => id) a1 a3 a5 (fun e => (a4 e).elim) (fun _ => hi) (fun t h1 h2 => j.cvq r c p t hm h1 h2)
        (fun r' c' q h => by
          unfold up at h
          split at h
          · rename_i e
            subst e
            exact ⟨by rw [hq]; exact List.mem_cons_of_mem _ h, fun e => hnd.1 (List.mem_map.mpr ⟨_, h, e⟩)⟩
          · rename_i e
            exact ⟨h, fun e' => e (hall' r' c' q h e')⟩)
        (fun r' c' q h hne => by
          unfold up
          split
          · rename_i e
            subst e
            rw [hq] at h
            rcases List.mem_cons.mp h with h | h
            · exact (hne (congrArg Prod.snd h)).elim
            · exact h
          · exact h)
        (fun r' => by
          unfold up
          split
          · exact hnd.2
          · exact j.qnd r')
      have ei : (({ s with que := up s.que r rest } : S ρ).enter hall p r l c now).ins = up s.ins r (some p) := by unfold S.enter; dsimp only; rw [if_neg a4]
      have eq : (({ s with que := up s.que r rest } : S ρ).enter hall p r l c now).que = up s.que r rest := rfl
      refine ⟨?_, fun r' h => ?_, fun _ => ?_⟩
      · have : (fun q : Nat => False ∧ q ≠ p) = fun _ => False := by funext q; simp
        rw [this] at jj; exact jj
      · rw [ei, eq]
        intro h1
        by_cases e : r' = r
        · subst e; rw [up_same]; exact fun e => by cases e
        · rw [up_ne e] at h1 ⊢; exact h h1
      · rw [ei, up_same]; exact fun e => by cases e
end
end NR
/-! The folds: a moment, the start, the end, the measure. -/
namespace NR
section
variable {ρ : Type} [DecidableEq ρ]
variable {hall : ρ} {n : Nat} {st : Nat → Int} {ss : Nat → List (ρ × Int)} {now : Int} {L C : Nat → Prop} {s : S ρ}

def S.leaves (hall : ρ) (s : S ρ) (ps : List Nat) : S ρ := ps.foldl (fun s p => s.leave hall p) s
def S.comes (hall : ρ) (ss : Nat → List (ρ × Int)) (now : Int) (s : S ρ) (ps : List Nat) : S ρ := ps.foldl (fun s p => s.come hall ss p now) s
def S.look (hall : ρ) (ss : Nat → List (ρ × Int)) (now : Int) (s : S ρ) (rs : List ρ) : S ρ := rs.foldl (fun s r => s.room hall ss r now) s

theorem J.iff {L' C' : Nat → Prop} (j : J hall n st ss now L C s) (hL : ∀ p, L p ↔ L' p) (hC : ∀ p, C p ↔ C' p) : J hall n st ss now L' C' s := by
  have e1 : L = L' := funext fun p => propext (hL p)
  have e2 : C = C' := funext fun p => propext (hC p)
  rw [← e1, ← e2]; exact j

theorem J.leaves : ∀ {ps : List Nat} {s : S ρ} {C : Nat → Prop}, J hall n st ss now (fun p => p ∈ ps) C s → ps.Nodup → (∀ p ∈ ps, s.due p = some now) → (∀ p, C p → p ∉ ps) → J hall n st ss now (fun _ => False) (fun p => C p ∨ p ∈ ps) (s.leaves hall ps)
  | [], s, C, j, _, _, _ => j.iff (fun p => by simp) (fun p => by simp)
  | p :: ps, s, C, j, hn, hd, hC => by
    have hn' := List.nodup_cons.mp hn
    have j1 := j.leave (p := p) (hd p List.mem_cons_self) List.mem_cons_self hC
    have j2 : J hall n st ss now (fun q => q ∈ ps) (fun q => C q ∨ q = p) (s.leave hall p) := j1.iff (fun q => by
      constructor
      · rintro ⟨h, hq⟩
        rcases List.mem_cons.mp h with h | h
        · exact (hq h).elim
        · exact h
      · intro h
        exact ⟨List.mem_cons_of_mem _ h, fun e => hn'.1 (e ▸ h)⟩) (fun q => Iff.rfl)
    have j3 := J.leaves (ps := ps) j2 hn'.2 (fun q hq => by
      have hne : q ≠ p := fun e => hn'.1 (by rw [← e]; exact hq)
      rw [S.leave_due, up_ne hne]
      exact hd q (List.mem_cons_of_mem _ hq)) (fun q hq => by
      rcases hq with h | h
      · exact fun e => hC q h (List.mem_cons_of_mem _ e)
      · exact fun e => hn'.1 (h ▸ e))
    exact j3.iff (fun _ => Iff.rfl) (fun q => by simp [or_assoc])

theorem J.comes : ∀ {ps : List Nat} {s : S ρ}, J hall n st ss now (fun _ => False) (fun p => p ∈ ps) s → ps.Nodup → J hall n st ss now (fun _ => False) (fun _ => False) (s.comes hall ss now ps)
  | [], s, j, _ => j.iff (fun _ => Iff.rfl) (fun p => by simp)
  | p :: ps, s, j, hn => by
    have hn' := List.nodup_cons.mp hn
    have j1 := j.come (fun _ => id) (p := p) List.mem_cons_self
    exact J.comes (ps := ps) (j1.iff (fun _ => Iff.rfl) (fun q => by
      constructor
      · rintro ⟨h, hq⟩
        rcases List.mem_cons.mp h with h | h
        · exact (hq h).elim
        · exact h
      · intro h
        exact ⟨List.mem_cons_of_mem _ h, fun e => hn'.1 (e ▸ h)⟩)) hn'.2

theorem J.look : ∀ {rs : List ρ} {s : S ρ} {F : ρ → Prop}, J hall n st ss now (fun _ => False) (fun _ => False) s → (∀ r, F r → s.que r ≠ [] → s.ins r ≠ none) →
    J hall n st ss now (fun _ => False) (fun _ => False) (s.look hall ss now rs) ∧ ∀ r, (F r ∨ r ∈ rs) → (s.look hall ss now rs).que r ≠ [] → (s.look hall ss now rs).ins r ≠ none
  | [], s, F, j, h => ⟨j, fun r hr => h r (by rcases hr with h | h; exact h; cases h)⟩
  | r :: rs, s, F, j, h => by
    obtain ⟨j1, j2, j3⟩ := j.room r
    have := J.look (rs := rs) (F := fun r' => F r' ∨ r' = r) j1 (fun r' hr' => by
      rcases hr' with h' | h'
      · exact j2 r' (h r' h')
      · rw [h']; exact j3)
    refine ⟨this.1, fun r' hr' => this.2 r' ?_⟩
    rcases hr' with h' | h'
    · exact .inl (.inl h')
    · rcases List.mem_cons.mp h' with h' | h'
      · exact .inl (.inr h')
      · exact .inr h'

/-- one moment: ps those that are due, rs the rooms that are looked at -/
def S.happen (hall : ρ) (ss : Nat → List (ρ × Int)) (now : Int) (s : S ρ) (ps : List Nat) (rs : List ρ) : S ρ := ((s.leaves hall ps).comes hall ss now ps).look hall ss now rs

/-- between two moments -/
structure Rest (hall : ρ) (n : Nat) (st : Nat → Int) (ss : Nat → List (ρ × Int)) (now : Int) (s : S ρ) : Prop where
  j : J hall n st ss now (fun _ => False) (fun _ => False) s
  f : ∀ r, s.que r ≠ [] → s.ins r ≠ none

theorem Rest.happen {T : Int} (q : Rest hall n st ss T s) {ps : List Nat} {rs : List ρ} (hn : ps.Nodup) (hps : ∀ p, p ∈ ps ↔ s.due p = some now) (hmin : ∀ p d, s.due p = some d → now ≤ d) (hne : ps ≠ [])
    (hrs : ∀ r, ((s.leaves hall ps).comes hall ss now ps).que r ≠ [] → r ∈ rs) : Rest hall n st ss now (s.happen hall ss now ps rs) := by
  obtain ⟨p, hp⟩ := List.exists_mem_of_ne_nil ps hne
  have hT : T ≤ now := Int.le_of_lt ((q.j.bus p now ((hps p).mp hp)).2.2 id)
  have j0 := (q.j.next q.f hmin hT).iff (L' := fun p => p ∈ ps) (fun p => (hps p).symm) (fun _ => Iff.rfl)
  have j1 := J.leaves j0 hn (fun p hp => (hps p).mp hp) (fun _ h => h.elim)
  have j2 := J.comes (j1.iff (C' := fun p => p ∈ ps) (fun _ => Iff.rfl) (fun p => by simp)) hn
  have j3 := J.look (rs := rs) (F := fun r => ((s.leaves hall ps).comes hall ss now ps).que r = []) j2 (fun r h1 h2 => (h2 h1).elim)
  refine ⟨j3.1, fun r => j3.2 r ?_⟩
  by_cases e : ((s.leaves hall ps).comes hall ss now ps).que r = []
  · exact .inl e
  · exact .inr (hrs r e)

/-- the start -/
def S.start (n : Nat) (st : Nat → Int) : S ρ := ⟨fun _ => [], fun p => if p < n then some (st p) else none, fun _ => none, fun _ => []⟩
theorem Rest.start (hpos : ∀ p, Pos (ss p)) (hout : ∀ p, n ≤ p → ss p = []) {T : Int} (hT : ∀ p, p < n → T < st p) : Rest hall n st ss T (S.start n st) := by
  have hd : ∀ p d, (S.start n st : S ρ).due p = some d → p < n ∧ d = st p := fun p d h => by
    have h' : (if p < n then some (st p) else none) = some d := h
    split at h'
    · rename_i x; exact ⟨x, (Option.some.inj h').symm⟩
    · cases h'
  have hr : ∀ p, (S.start n st : S ρ).rows p = [] := fun _ => rfl
  refine ⟨⟨hpos, fun p h => ⟨hout p h, ?_⟩, fun p => Ch.nil, fun p w h => ?_, fun p d h => ?_, fun _ h => h.elim, fun p h => ?_, fun p h _ hl => ?_, fun r c p h => ?_, fun r => List.nodup_nil, fun r q => ?_, fun p q w u _ h => ?_, fun p w t h => ?_, fun r c p t h => ?_⟩, fun r h => (h rfl).elim⟩
  · show (if p < n then some (st p) else none) = none
    rw [if_neg (by omega)]
  · cases h
  · obtain ⟨h1, h2⟩ := hd p d h
    exact ⟨h2, fun e => e.elim, fun _ => by rw [h2]; exact hT p h1⟩
  · have hp : ¬ p < n := fun x => by
      have h' : (if p < n then some (st p) else none) = none := h
      rw [if_pos x] at h'; cases h'
    exact ⟨id, fun x => (hp x).elim, fun e => e.elim⟩
  · have hp : ¬ p < n := fun x => by
      have h' : (if p < n then some (st p) else none) = none := h
      rw [if_pos x] at h'; cases h'
    rw [hout p (by omega)] at hl
    simp at hl
  · cases h
  · constructor
    · intro h; cases h
    · rintro ⟨_, _, h⟩; cases h
  · cases h
  · cases h
  · cases h

/-- the end: nobody is due any more -/
theorem Rest.done {T : Int} (q : Rest hall n st ss T s) (h : ∀ p, s.due p = none) : Good hall n st ss s.rows where
  pos := q.j.pos
  out := fun p hp => by
    have h1 := Ch.len (q.j.ch p)
    rw [(q.j.out p hp).1] at h1
    simpa using h1
  ch := q.j.ch
  len := fun p => by
    have h1 := Ch.len (q.j.ch p)
    rcases Nat.lt_or_ge (s.rows p).length (ss p).length with x | x
    · obtain ⟨r, hr⟩ := q.j.wai p (h p) id x
      exfalso
      have hne : s.que r ≠ [] := fun e => by rw [e] at hr; cases hr
      cases hi : s.ins r with
      | none => exact q.f r hne hi
      | some k =>
        have := ((q.j.ins r k).mp hi).2.1
        rw [h k] at this; cases this
    · omega
  ex := q.j.ex
  cov := q.j.cov

/-! ### the measure -/
def busy : Option Int → Nat
  | some _ => 1
  | none => 0
def mu1 (ss : Nat → List (ρ × Int)) (s : S ρ) (p : Nat) : Nat := 2 * ((ss p).length - (s.rows p).length) + busy (s.due p)
def mu (n : Nat) (ss : Nat → List (ρ × Int)) (s : S ρ) : Nat := ((List.range n).map (mu1 ss s)).sum

theorem sum_le {f g : Nat → Nat} (n : Nat) (h : ∀ p, p < n → f p ≤ g p) : ((List.range n).map f).sum ≤ ((List.range n).map g).sum := by
  induction n with
  | zero => simp
  | succ n ih =>
    rw [List.range_succ, List.map_append, List.map_append, List.sum_append, List.sum_append]
    have := ih (fun p hp => h p (by omega))
    have := h n (by omega)
    simp; omega
theorem sum_lt {f g : Nat → Nat} (n : Nat) (h : ∀ p, p < n → f p ≤ g p) {k : Nat} (hk : k < n) (hlt : f k < g k) : ((List.range n).map f).sum < ((List.range n).map g).sum := by
  induction n with
  | zero => omega
  | succ n ih =>
    rw [List.range_succ, List.map_append, List.map_append, List.sum_append, List.sum_append]
    have h1 := h n (by omega)
    rcases Nat.lt_or_ge k n with x | x
    · have := ih (fun p hp => h p (by omega)) x
      simp; omega
    · have : k = n := by omega
      subst this
      have := sum_le k (fun p hp => h p (by omega))
      simp; omega

/-- no group's measure grows -/
theorem mu1_leave {s : S ρ} {p q : Nat} : mu1 ss (s.leave hall p) q ≤ mu1 ss s q := by
  unfold mu1
  rw [S.leave_rows, S.leave_due]
  unfold up
  split
  · show _ + 0 ≤ _
    omega
  · exact Nat.le_refl _
theorem mu1_enter {s : S ρ} {p q : Nat} {r : ρ} {l c : Int} {que' : ρ → List (Int × Nat)} (hl : (s.rows p).length < (ss p).length) : mu1 ss (({ s with que := que' } : S ρ).enter hall p r l c now) q ≤ mu1 ss s q := by
  unfold mu1 S.enter
  dsimp only
  by_cases e : q = p
  · subst e
    rw [up_same, up_same, List.length_append]
    show 2 * ((ss q).length - ((s.rows q).length + 1)) + 1 ≤ _
    omega
  · rw [up_ne e, up_ne e]; exact Nat.le_refl _
theorem mu1_come {s : S ρ} {p q : Nat} : mu1 ss (s.come hall ss p now) q ≤ mu1 ss s q := by
  unfold S.come
  split
  · rename_i r l h
    split
    · exact mu1_enter (que' := s.que) (List.getElem?_eq_some_iff.mp h).1
    · exact Nat.le_refl _
  · exact Nat.le_refl _
theorem mu1_room {s : S ρ} {r : ρ} {q : Nat} : mu1 ss (s.room hall ss r now) q ≤ mu1 ss s q := by
  unfold S.room
  split
  · split
    · rename_i h
      exact mu1_enter (List.getElem?_eq_some_iff.mp h).1
    · exact Nat.le_refl _
  · exact Nat.le_refl _
theorem mu1_leaves {q : Nat} : ∀ {ps : List Nat} {s : S ρ}, mu1 ss (s.leaves hall ps) q ≤ mu1 ss s q
  | [], _ => Nat.le_refl _
  | p :: ps, s => Nat.le_trans (mu1_leaves (ps := ps) (s := s.leave hall p)) mu1_leave
theorem mu1_comes {q : Nat} : ∀ {ps : List Nat} {s : S ρ}, mu1 ss (s.comes hall ss now ps) q ≤ mu1 ss s q
  | [], _ => Nat.le_refl _
  | p :: ps, s => Nat.le_trans (mu1_comes (ps := ps) (s := s.come hall ss p now)) mu1_come
theorem mu1_look {q : Nat} : ∀ {rs : List ρ} {s : S ρ}, mu1 ss (s.look hall ss now rs) q ≤ mu1 ss s q
  | [], _ => Nat.le_refl _
  | r :: rs, s => Nat.le_trans (mu1_look (rs := rs) (s := s.room hall ss r now)) mu1_room
theorem mu1_leave_lt {s : S ρ} {p : Nat} (h : s.due p = some now) : mu1 ss (s.leave hall p) p < mu1 ss s p := by
  unfold mu1
  rw [S.leave_rows, S.leave_due, up_same, h]
  show _ + 0 < _ + 1
  omega
theorem mu_happen {s : S ρ} {ps : List Nat} {rs : List ρ} {p : Nat} (hp : ps.head? = some p) (hd : s.due p = some now) (hn : p < n) : mu n ss (s.happen hall ss now ps rs) < mu n ss s := by
  refine sum_lt n (fun q _ => Nat.le_trans mu1_look (Nat.le_trans mu1_comes mu1_leaves)) hn ?_
  cases ps with
  | nil => cases hp
  | cons a ps =>
    have : a = p := by simpa using hp
    subst this
    refine Nat.lt_of_le_of_lt mu1_look (Nat.lt_of_le_of_lt mu1_comes ?_)
    exact Nat.lt_of_le_of_lt (mu1_leaves (ps := ps) (s := s.leave hall a)) (mu1_leave_lt hd)
end
end NR
/-! Data over the heap (Dp), lists that are being built, loops over any walk. -/
namespace L2
open PySem PySem.Spec PyProof.Rows L2
/-! ### data stays where the heap grows -/
section
variable {K : PySem.W.Frag} {H H' : Hp}
theorem sqT_same {a : Addr} {xs : List V} (e : Same H H') (h : SqT K H a xs) : SqT K H' a xs := Evl.ex_t e h
mutual
theorem Dp.same (e : Same H H') : ∀ {d : PyData} {v : V}, Dp K H v d → Dp K H' v d
  | _, _, .non => .non
  | _, _, .bl b => .bl b
  | _, _, .int i => .int i
  | _, _, .str x => .str x
  | _, _, .lst h k => .lst (e.seq h) (DpAll.same e k)
  | _, _, .tup h k => .tup (sqT_same e h) (DpAll.same e k)
theorem DpAll.same (e : Same H H') : ∀ {ds : List PyData} {vs : List V}, DpAll K H vs ds → DpAll K H' vs ds
  | _, _, .nil => .nil
  | _, _, .cons h k => .cons (Dp.same e h) (DpAll.same e k)
end
theorem DpAll.length : ∀ {ds : List PyData} {vs : List V}, DpAll K H vs ds → vs.length = ds.length
  | _, _, .nil => rfl
  | _, _, .cons _ k => congrArg Nat.succ (DpAll.length k)
theorem DpAll.get : ∀ {ds : List PyData} {vs : List V} {i : Nat} {d : PyData}, DpAll K H vs ds → ds[i]? = some d → ∃ v, vs[i]? = some v ∧ Dp K H v d
  | _, _, _, _, .nil, h => by simp at h
  | _, _, 0, _, .cons h _, e => by simp at e; subst e; exact ⟨_, by simp, h⟩
  | _, _, i + 1, _, .cons _ k, e => by
    obtain ⟨v, h1, h2⟩ := DpAll.get (i := i) k (by simpa using e)
    exact ⟨v, by simpa using h1, h2⟩
theorem DpAll.getV : ∀ {ds : List PyData} {vs : List V} {i : Nat} {v : V}, DpAll K H vs ds → vs[i]? = some v → ∃ d, ds[i]? = some d ∧ Dp K H v d
  | _, _, _, _, .nil, h => by simp at h
  | _, _, 0, _, .cons h _, e => by simp at e; subst e; exact ⟨_, by simp, h⟩
  | _, _, i + 1, _, .cons _ k, e => by
    obtain ⟨v, h1, h2⟩ := DpAll.getV (i := i) k (by simpa using e)
    exact ⟨v, by simpa using h1, h2⟩
theorem DpAll.snoc : ∀ {ds : List PyData} {vs : List V} {d : PyData} {v : V}, DpAll K H vs ds → Dp K H v d → DpAll K H (vs ++ [v]) (ds ++ [d])
  | _, _, _, _, .nil, h => .cons h .nil
  | _, _, _, _, .cons a k, h => .cons a (DpAll.snoc k h)
theorem Dp.list {v : V} {ds : List PyData} (h : Dp K H v (.list ds)) : ∃ a xs, v = .ref a ∧ SqL K H a xs ∧ DpAll K H xs ds := by
  cases h with
  | lst h k => exact ⟨_, _, rfl, h, k⟩
theorem Dp.tuple {v : V} {ds : List PyData} (h : Dp K H v (.tuple ds)) : ∃ a xs, v = .ref a ∧ SqT K H a xs ∧ DpAll K H xs ds := by
  cases h with
  | tup h k => exact ⟨_, _, rfl, h, k⟩
theorem Dp.int' {v : V} {i : Int} (h : Dp K H v (.int i)) : v = .int i := by cases h; rfl
theorem Dp.str' {v : V} {x : Str} (h : Dp K H v (.str x)) : v = .str x := by cases h; rfl
theorem Dp.none' {v : V} (h : Dp K H v .none) : v = .non := by cases h; rfl
theorem DpAll.nil' {vs : List V} (h : DpAll K H vs []) : vs = [] := by cases h; rfl
theorem DpAll.cons' {vs : List V} {d : PyData} {ds : List PyData} (h : DpAll K H vs (d :: ds)) : ∃ v r, vs = v :: r ∧ Dp K H v d ∧ DpAll K H r ds := by
  cases h with
  | cons a k => exact ⟨_, _, rfl, a, k⟩
theorem DpAll.ints : ∀ (ns : List Int), DpAll K H (ns.map V.int) (ns.map PyData.int)
  | [] => .nil
  | n :: ns => .cons (.int n) (DpAll.ints ns)
theorem DpAll.ints' : ∀ {ns : List Int} {vs : List V}, DpAll K H vs (ns.map PyData.int) → vs = ns.map V.int
  | [], _, h => h.nil'
  | n :: ns, _, h => by
    obtain ⟨v, r, rfl, h1, h2⟩ := DpAll.cons' h
    rw [h1.int', DpAll.ints' h2]; rfl
theorem DpAll.strs' : ∀ {ns : List Str} {vs : List V}, DpAll K H vs (ns.map PyData.str) → vs = ns.map V.str
  | [], _, h => h.nil'
  | n :: ns, _, h => by
    obtain ⟨v, r, rfl, h1, h2⟩ := DpAll.cons' h
    rw [h1.str', DpAll.strs' h2]; rfl
/-! ### a heap that grows -/
theorem Same.new_ {p : Addr} {o : HO} (h : H p = none) : Same H (upd H p o) := fun b ob e => by rw [upd_ne (ne_of_none e h)]; exact e
theorem Same.to {H1 : Hp} {p : Addr} {o : HO} (s : Same H H1) (h : H1 p = none) : Same H (upd H1 p o) := s.trans (Same.new_ h)
/-- what H does not track may change -/
theorem Same.mut {H1 : Hp} {p : Addr} {o : HO} (s : Same H H1) (h : H p = none) : Same H (upd H1 p o) := fun b ob e => by rw [upd_ne (ne_of_none e h)]; exact s b ob e
theorem Same.ins {H1 : Hp} {p : Addr} {o : HO} (s : Same H H1) (h : H p = none) : Same (upd H p o) (upd H1 p o) := fun b ob e => by
  by_cases hb : b = p
  · subst hb; rw [upd_same] at e ⊢; exact e
  · rw [upd_ne hb] at e ⊢; exact s b ob e
theorem upd_comm {p q : Addr} {o u : HO} (h : p ≠ q) : upd (upd H p o) q u = upd (upd H q u) p o := by
  funext b
  by_cases hp : b = p
  · subst hp; rw [upd_ne h, upd_same, upd_same]
  · rw [upd_ne hp]
    by_cases hq : b = q
    · subst hq; rw [upd_same, upd_same]
    · rw [upd_ne hq, upd_ne hq, upd_ne hp]
end
/-! ### a list that is being built: F what stands beside it -/
structure Bld (K : PySem.W.Frag) (H0 H : Hp) (p : Addr) (ds : List PyData) : Prop where
  same : Same H0 H
  free : H0 p = none
  list : ∃ xs, H p = some (.lst xs) ∧ ∃ F, Same H0 F ∧ F p = none ∧ Same F H ∧ DpAll K F xs ds
section
variable {K : PySem.W.Frag} {H0 H H' : Hp} {p : Addr} {ds : List PyData}
theorem Bld.start (s : Same H0 H) (h : H p = none) : Bld K H0 (upd H p (.lst [])) p [] :=
  ⟨s.to h, s.free h, [], upd_same, H, s, h, Same.new_ h, .nil⟩
theorem Bld.step (b : Bld K H0 H p ds) (s : Same H H') : Bld K H0 H' p ds := by
  obtain ⟨s0, f0, xs, h1, F, h2, h3, h4, h5⟩ := b
  exact ⟨s0.trans s, f0, xs, s _ _ h1, F, h2, h3, h4.trans s, h5⟩
/-- a scalar, or something of ahead, is appended -/
theorem Bld.app {v : V} {d : PyData} (b : Bld K H0 H p ds) (h : Dp K H0 v d) : ∃ xs, H p = some (.lst xs) ∧ xs.length = ds.length ∧ Bld K H0 (upd H p (.lst (xs ++ [v]))) p (ds ++ [d]) := by
  obtain ⟨s0, f0, xs, h1, F, h2, h3, h4, h5⟩ := b
  exact ⟨xs, h1, h5.length, s0.mut f0, f0, _, upd_same, F, h2, h3, h4.mut h3, h5.snoc (h.same h2)⟩
/-- a new tuple of scalars, or of things of ahead, stands at q and is appended -/
theorem Bld.appT {q : Addr} {vs : List V} {es : List PyData} (b : Bld K H0 H p ds) (hq : H q = none) (h : DpAll K H0 vs es) :
    ∃ xs, upd H q (.tup vs) p = some (.lst xs) ∧ xs.length = ds.length ∧ Bld K H0 (upd (upd H q (.tup vs)) p (.lst (xs ++ [.ref q]))) p (ds ++ [.tuple es]) := by
  obtain ⟨s0, f0, xs, h1, F, h2, h3, h4, h5⟩ := b
  have hpq : p ≠ q := ne_of_none h1 hq
  have hFq : F q = none := h4.free hq
  refine ⟨xs, by rw [upd_ne hpq]; exact h1, h5.length, (s0.to hq).mut f0, f0, _, upd_same, upd F q (.tup vs), h2.to hFq, by rw [upd_ne hpq]; exact h3, ?_, ?_⟩
  · have : Same (upd F q (.tup vs)) (upd H q (.tup vs)) := h4.ins hFq
    exact this.mut (by rw [upd_ne hpq]; exact h3)
  · exact (h5.same (Same.new_ hFq)).snoc (.tup (SqT.of upd_same) (h.same (h2.to hFq)))
/-- something new, v, that a call has made beside it -/
theorem Bld.appN {v : V} {d : PyData} (b : Bld K H0 H p ds) (s : Same H H') (h : ∀ F, Same F H → F p = none → ∃ F', Same F F' ∧ F' p = none ∧ Same F' H' ∧ Dp K F' v d) :
    ∃ xs, H' p = some (.lst xs) ∧ xs.length = ds.length ∧ Bld K H0 (upd H' p (.lst (xs ++ [v]))) p (ds ++ [d]) := by
  obtain ⟨s0, f0, xs, h1, F, h2, h3, h4, h5⟩ := b
  obtain ⟨F', g1, g2, g3, g4⟩ := h F h4 h3
  exact ⟨xs, s _ _ h1, h5.length, (s0.trans s).mut f0, f0, _, upd_same, F', h2.trans g1, g2, g3.mut g2, (h5.same g1).snoc g4⟩
theorem Bld.dp (b : Bld K H0 H p ds) : Dp K H (.ref p) (.list ds) := by
  obtain ⟨s0, f0, xs, h1, F, h2, h3, h4, h5⟩ := b
  exact .lst (SqL.of h1) (h5.same h4)
theorem Bld.at_ (b : Bld K H0 H p ds) : ∃ xs, H p = some (.lst xs) ∧ DpAll K H xs ds := by
  obtain ⟨s0, f0, xs, h1, F, h2, h3, h4, h5⟩ := b
  exact ⟨xs, h1, h5.same h4⟩
end
/-! ### tests whose answer is known -/
theorem iteDT {c A B : Prop} [Decidable c] (hc : c) (h : A) : if decide c = true then A else B := by rw [if_pos (decide_eq_true hc)]; exact h
theorem iteDF {c A B : Prop} [Decidable c] (hc : ¬ c) (h : B) : if decide c = true then A else B := by rw [if_neg (by rw [decide_eq_false hc]; exact Bool.false_ne_true)]; exact h
theorem iteNT {c A B : Prop} [Decidable c] (hc : ¬ c) (h : A) : if (!decide c) = true then A else B := by rw [if_pos (by rw [decide_eq_false hc]; rfl)]; exact h
theorem iteNF {c A B : Prop} [Decidable c] (hc : c) (h : B) : if (!decide c) = true then A else B := by rw [if_neg (by rw [decide_eq_true hc]; exact Bool.false_ne_true)]; exact h
theorem iteD2 {c A B : Prop} [Decidable c] (h1 : c → A) (h2 : ¬ c → B) : if decide c = true then A else B := by
  by_cases hc : c
  · exact iteDT hc (h1 hc)
  · exact iteDF hc (h2 hc)
theorem iteN2 {c A B : Prop} [Decidable c] (h1 : ¬ c → A) (h2 : c → B) : if (!decide c) = true then A else B := by
  by_cases hc : c
  · exact iteNF hc (h2 hc)
  · exact iteNT hc (h1 hc)
/-! ### the same rules within a comprehension's block (K written out) -/
section
variable {X : Cx} {K : PySem.W.Frag}
theorem ix_tupK (h : X.K = K) : IxR X (rIxT K) := h ▸ ix_tup
theorem ix_listK (h : X.K = K) : IxR X (rIxL K) := h ▸ ix_list
theorem pe_fldK {e : Expr} {f : Str} {pos : Pos} {ta : TE} (h : X.K = K) (he : PE X e ta) (hb : attributeBase e f X.env (eval e X.env) = eval e X.env) : PE X (.Attribute e f pos) (tFld K ta f) := h ▸ pe_fld he hb
theorem pi_listK {tg l : Expr} {tl : TE} (h : X.K = K) (hl : PE X l tl) : PI X tg l (iList K tl) := h ▸ pi_list hl
theorem call_list_ofK (h : X.K = K) : CallR X (.type "list") (fun xs H Q => ∃ p ys, xs = [.ref p] ∧ (SqL K H p ys ∨ SqT K H p ys) ∧ ∀ l, H l = none → Q (.ref l) (upd H l (.lst ys))) := h ▸ call_list_of
theorem pg_tupK {es : List Expr} {k : Nat} {t : TGs} {n : Nat} {pos : Pos} (h : X.K = K) (hc : X.calm = true) (hh : PGs X es t)
    (hn : (assignEach es X.env).length = n := by rfl) (hst : (assignEach es X.env).findIdx? (·.1) = none := by rfl) : PG X (.Tuple es k pos) (gTup K n t) := h ▸ pg_tup hc hh hn hst
end
/-! ### constants of the top -/
section
variable {X : Cx} {x : Str} {pos : Pos}
theorem pe_gS {z : Str} (hm : ∃ t, X.mg x = some (.str z t)) (hg : Gl X x := by rfl) (hd : (x == ("__debug__" : Str)) = false := by decide) : PE X (.Name x pos) (tC (.str z)) := by
  obtain ⟨t, h⟩ := hm
  exact pe_glob hg h ⟨t, rfl⟩ hd
theorem pe_gI {z : Int} (hm : ∃ t, X.mg x = some (.int z t)) (hg : Gl X x := by rfl) (hd : (x == ("__debug__" : Str)) = false := by decide) : PE X (.Name x pos) (tC (.int z)) := by
  obtain ⟨t, h⟩ := hm
  exact pe_glob hg h ⟨t, rfl⟩ hd
end
section
variable {X : Cx} {x : Str} {pos : Pos}
theorem pe_gC {C : Addr} (hm : X.mg x = some (.ref C)) (hg : Gl X x := by rfl) (hd : (x == ("__debug__" : Str)) = false := by decide) : PE X (.Name x pos) (tC (.ref C)) := pe_glob (v := .ref C) hg hm rfl hd
end
/-! ### loops -/
/-- the turns of a for whose walk J has n items, by a word of the turn's number -/
theorem for_any {J : It} {g : TG} {tb : TS} {D : Ends} {σ : L2.St} {H : Hp} (n : Nat) (Pv : Nat → L2.St → Hp → Prop) (h0 : Pv 0 σ H) (hgo : ∀ i σ H, i < n → Pv i σ H → J.go i H) (hstop : ∀ σ H, Pv n σ H → J.stop n H)
    (hs : ∀ i x σ H H', i < n → Pv i σ H → J.yld i H x H' → g x σ H' fun σ2 H2 => tb { D with nx := Pv (i + 1), ct := Pv (i + 1), bk := D.nx } σ2 H2) (hd : ∀ σ H, Pv n σ H → D.nx σ H) :
    ∃ W : Nat → Nat → L2.St → Hp → Prop, (∃ m, W 0 m σ H) ∧ ∀ i m σ H, W i m σ H →
      (J.stop i H ∧ D.nx σ H) ∨ (J.go i H ∧ ∃ N : L2.St → Hp → Prop, (∀ σ' H', N σ' H' → ∃ m', m' < m ∧ W (i + 1) m' σ' H') ∧ ∀ x H', J.yld i H x H' → g x σ H' fun σ2 H2 => tb { D with nx := N, ct := N, bk := D.nx } σ2 H2) := by
  refine ⟨fun i m σ H => i + m = n ∧ Pv i σ H, ⟨n, by omega, h0⟩, ?_⟩
  rintro i m σ H ⟨e, p⟩
  cases m with
  | zero =>
    have : i = n := by omega
    subst this
    exact .inl ⟨hstop _ _ p, hd _ _ p⟩
  | succ m =>
    exact .inr ⟨hgo i σ H (by omega) p, Pv (i + 1), fun σ' H' q => ⟨m, by omega, by omega, q⟩, fun x H' y => hs i x σ H H' (by omega) p y⟩
theorem for_str {z : Str} {g : TG} {tb : TS} {D : Ends} {σ : L2.St} {H : Hp} (Pv : Nat → L2.St → Hp → Prop) (h0 : Pv 0 σ H)
    (hs : ∀ i c σ H, z.cps[i]? = some c → Pv i σ H → g (.str ⟨#[c]⟩) σ H fun σ2 H2 => tb { D with nx := Pv (i + 1), ct := Pv (i + 1), bk := D.nx } σ2 H2) (hd : ∀ σ H, Pv z.cps.size σ H → D.nx σ H) :
    ∃ W : Nat → Nat → L2.St → Hp → Prop, (∃ m, W 0 m σ H) ∧ ∀ i m σ H, W i m σ H →
      ((Its z).stop i H ∧ D.nx σ H) ∨ ((Its z).go i H ∧ ∃ N : L2.St → Hp → Prop, (∀ σ' H', N σ' H' → ∃ m', m' < m ∧ W (i + 1) m' σ' H') ∧ ∀ x H', (Its z).yld i H x H' → g x σ H' fun σ2 H2 => tb { D with nx := N, ct := N, bk := D.nx } σ2 H2) :=
  for_any (J := Its z) z.cps.size Pv h0 (fun i _ _ h _ => h) (fun _ _ _ => Nat.le_refl _) (fun i x σ H H' _ p y => by
    obtain ⟨rfl, c, hc, rfl⟩ := y
    exact hs i c σ _ hc p) hd
end L2
/-! Flat tuples in lists (Tups); the shapes of the data. -/
namespace L2
open PySem PySem.Spec PyProof.Rows
/-- the tuples stay -/
def TStay (H H' : Hp) : Prop := ∀ b ys, H b = some (.tup ys) → H' b = some (.tup ys)
theorem TStay.of {H H' : Hp} (s : Same H H') : TStay H H' := fun b ys h => s b _ h
theorem TStay.refl (H : Hp) : TStay H H := fun _ _ h => h
theorem TStay.trans {H H1 H2 : Hp} (a : TStay H H1) (b : TStay H1 H2) : TStay H H2 := fun c ys h => b c ys (a c ys h)
def isTup : HO → Bool
  | .tup _ => true
  | _ => false
theorem TStay.wr {H H1 : Hp} {p : Addr} {u o : HO} (s : TStay H H1) (h : H1 p = some u) (hu : isTup u = false) : TStay H (upd H1 p o) := fun b ys e => by
  have e1 := s b ys e
  rw [upd_ne (ne_of e1 h (by intro q; rw [← q] at hu; cases hu))]
  exact e1
theorem TStay.new {H H1 : Hp} {p : Addr} {o : HO} (s : TStay H H1) (h : H1 p = none) : TStay H (upd H1 p o) := fun b ys e => by
  have e1 := s b ys e
  rw [upd_ne (ne_of_none e1 h)]
  exact e1
/-- xs are tuples of es -/
abbrev Tups (H : Hp) : List V → List (List V) → Prop := Paired fun x e => ∃ t, x = .ref t ∧ H t = some (.tup e)
section
variable {K : PySem.W.Frag} {H H' : Hp} {xs : List V} {es : List (List V)}
theorem Tups.nil_ : Tups H [] [] := Paired.nil
theorem Tups.stay (s : TStay H H') : ∀ {xs : List V} {es : List (List V)}, Tups H xs es → Tups H' xs es
  | _, _, .nil => .nil
  | _, _, .cons ⟨t, h1, h2⟩ k => .cons ⟨t, h1, s t _ h2⟩ (Tups.stay s k)
theorem Tups.length : ∀ {xs : List V} {es : List (List V)}, Tups H xs es → xs.length = es.length
  | _, _, .nil => rfl
  | _, _, .cons _ k => congrArg Nat.succ (Tups.length k)
theorem Tups.snoc {t : Addr} {e : List V} (h : H t = some (.tup e)) : ∀ {xs : List V} {es : List (List V)}, Tups H xs es → Tups H (xs ++ [.ref t]) (es ++ [e])
  | _, _, .nil => .cons ⟨t, rfl, h⟩ .nil
  | _, _, .cons a k => .cons a (Tups.snoc h k)
theorem Tups.get : ∀ {xs : List V} {es : List (List V)} {i : Nat} {e : List V}, Tups H xs es → es[i]? = some e → ∃ t, xs[i]? = some (.ref t) ∧ H t = some (.tup e)
  | _, _, _, _, .nil, h => by simp at h
  | _, _, 0, _, .cons ⟨t, h1, h2⟩ _, e => by simp at e; subst e; exact ⟨t, by simp [h1], h2⟩
  | _, _, i + 1, _, .cons _ k, e => by
    obtain ⟨t, h1, h2⟩ := Tups.get (i := i) k (by simpa using e)
    exact ⟨t, by simpa using h1, h2⟩
theorem Tups.getV : ∀ {xs : List V} {es : List (List V)} {i : Nat} {x : V}, Tups H xs es → xs[i]? = some x → ∃ t e, x = .ref t ∧ es[i]? = some e ∧ H t = some (.tup e)
  | _, _, _, _, .nil, h => by simp at h
  | _, _, 0, _, .cons ⟨t, h1, h2⟩ _, e => by simp at e; subst e; exact ⟨t, _, h1, by simp, h2⟩
  | _, _, i + 1, _, .cons _ k, e => by
    obtain ⟨t, e', h1, h2, h3⟩ := Tups.getV (i := i) k (by simpa using e)
    exact ⟨t, e', h1, by simpa using h2, h3⟩
end
/-! ### what is new stands apart from what the caller is building -/
def fence (F H H' : Hp) : Hp := fun b => match H b with
  | none => H' b
  | some _ => F b
theorem fence_new {F H H' : Hp} {b : Addr} (h : H b = none) : fence F H H' b = H' b := by unfold fence; rw [h]
theorem fence_old {F H H' : Hp} {b : Addr} {o : HO} (h : H b = some o) : fence F H H' b = F b := by unfold fence; rw [h]
theorem fence_in {F H H' : Hp} (s : Same F H) : Same F (fence F H H') := fun b o e => by rw [fence_old (s _ _ e)]; exact e
theorem fence_out {F H H' : Hp} (s : Same F H) (s' : Same H H') : Same (fence F H H') H' := fun b o e => by
  cases h : H b with
  | none => rw [fence_new h] at e; exact e
  | some u =>
    rw [fence_old h] at e
    exact s' _ _ (s _ _ e)
theorem tups_fence {F H H' : Hp} : ∀ {xs : List V} {es : List (List V)}, Tups H' xs es → (∀ v ∈ xs, ∀ t, v = .ref t → H t = none) → Tups (fence F H H') xs es
  | _, _, .nil, _ => .nil
  | _, _, .cons ⟨t, h1, h2⟩ k, h => .cons ⟨t, h1, by rw [fence_new (h _ List.mem_cons_self t h1)]; exact h2⟩ (tups_fence k fun v hv => h v (List.mem_cons_of_mem _ hv))
end L2
namespace NRW
open PySem PySem.Spec PyProof.Rows L2
/-! ### stays: (room, least, most); rows of a plain walk: (room, enter, leave) -/
abbrev T3 := Str × Int × Int
def v3 (s : T3) : List V := [.str s.1, .int s.2.1, .int s.2.2]
def d3 (s : T3) : PyData := .tuple [.str s.1, .int s.2.1, .int s.2.2]
abbrev dT3 (ss : List T3) : PyData := .list (ss.map d3)
abbrev dInts (ns : List Int) : PyData := .list (ns.map PyData.int)
section
variable {K : PySem.W.Frag} {H H' : Hp}
theorem d3_dp {t : Addr} {s : T3} (h : H t = some (.tup (v3 s))) : Dp K H (.ref t) (d3 s) := .tup (SqT.of h) (.cons (.str _) (.cons (.int _) (.cons (.int _) .nil)))
theorem Tups.d3 : ∀ {ss : List T3} {xs : List V}, Tups H xs (ss.map v3) → DpAll K H xs (ss.map NRW.d3)
  | [], _, h => by cases h; exact .nil
  | s :: ss, _, h => by
    cases h with
    | cons a k =>
      obtain ⟨t, rfl, h2⟩ := a
      exact .cons (d3_dp h2) (Tups.d3 k)
theorem d3_of {v : V} {s : T3} (h : Dp K H v (NRW.d3 s)) : ∃ t, v = .ref t ∧ SqT K H t (v3 s) := by
  obtain ⟨t, xs, rfl, h1, h2⟩ := h.tuple
  obtain ⟨a, r, rfl, ha, hr⟩ := h2.cons'
  obtain ⟨b, r, rfl, hb, hr⟩ := hr.cons'
  obtain ⟨c, r, rfl, hc, hr⟩ := hr.cons'
  rw [hr.nil', ha.str', hb.int', hc.int'] at h1
  exact ⟨t, rfl, h1⟩
theorem dT3_of {v : V} {ss : List T3} (h : Dp K H v (dT3 ss)) : ∃ a xs, v = .ref a ∧ SqL K H a xs ∧ DpAll K H xs (ss.map NRW.d3) ∧ xs.length = ss.length := by
  obtain ⟨a, xs, h1, h2, h3⟩ := h.list
  exact ⟨a, xs, h1, h2, h3, by rw [h3.length, List.length_map]⟩
theorem dT3_get {xs : List V} {ss : List T3} {i : Nat} {x : V} (h : DpAll K H xs (ss.map NRW.d3)) (hi : xs[i]? = some x) : ∃ t s, x = .ref t ∧ ss[i]? = some s ∧ SqT K H t (v3 s) := by
  obtain ⟨d, h1, h2⟩ := h.getV hi
  rw [List.getElem?_map] at h1
  cases e : ss[i]? with
  | none => rw [e] at h1; cases h1
  | some s =>
    rw [e] at h1
    cases h1
    obtain ⟨t, rfl, ht⟩ := d3_of h2
    exact ⟨t, s, rfl, rfl, ht⟩
theorem dInts_of {v : V} {ns : List Int} (h : Dp K H v (dInts ns)) : ∃ a, v = .ref a ∧ SqL K H a (ns.map V.int) := by
  obtain ⟨a, xs, h1, h2, h3⟩ := h.list
  rw [h3.ints'] at h2
  exact ⟨a, h1, h2⟩
theorem dInts_mk {a : Addr} {ns : List Int} (h : SqL K H a (ns.map V.int)) : Dp K H (.ref a) (dInts ns) := .lst h (DpAll.ints ns)
end
/-! ### a Round -/
def RoundAt (K : PySem.W.Frag) (H : Hp) (x : Addr) (ss : List T3) : Prop :=
  ∃ dx fs a, H x = some (.ins (He.ga K "Round") dx fs) ∧ fs.lookup ("_stays" : Str) = some (.ref a) ∧ Dp K H (.ref a) (dT3 ss)
theorem RoundAt.same {K : PySem.W.Frag} {H H' : Hp} {x : Addr} {ss : List T3} (s : Same H H') (h : RoundAt K H x ss) : RoundAt K H' x ss := by
  obtain ⟨dx, fs, a, h1, h2, h3⟩ := h
  exact ⟨dx, fs, a, s _ _ h1, h2, h3.same s⟩
end NRW
/-! is_name. -/
namespace NRW
open PySem PySem.Spec PyProof.Rows L2
abbrev LETT : Str := "abcdefghijklmnopqrstuvwxyz"
abbrev DIGI : Str := "0123456789"
structure NameOk (z : Str) : Prop where
  lo : 1 ≤ z.length
  hi : z.length ≤ 12
  first : ∃ c, z.cps[0]? = some c ∧ c ∈ LETT.cps.toList
  all : ∀ (i : Nat) c, z.cps[i]? = some c → c ∈ LETT.cps.toList ∨ c ∈ DIGI.cps.toList
def spIsName : Sp := fun vs H Q _ => ∃ z : Str, vs = [.str z] ∧ NameOk z ∧ ∀ H', Same H H' → Q (.bl true) H'
section
variable {P : Program} {w : World} {K : PySem.W.Frag} {mg : Str → Option Value} {base : Heap}
theorem sc_is_name : FnScope ["text", "sign"] ["text"] (defScope s_is_name) := ⟨rfl, rfl, rfl, by decide +kernel, rfl, by decide +kernel, by decide +kernel⟩
theorem d_is_name (T : Txt K mg) : Def P w K mg base "is_name" 1 ["text"] spIsName := by
  refine Def.of T.g_is_name T.f_is_name sc_is_name (fun vs H Q E h => ?_) (fun _ _ _ _ _ _ us hl => match us, hl with | [_], _ => rfl) (fun f cdv A outer s H vs Q E hr h => ?_)
  · obtain ⟨z, rfl, _⟩ := h
    rfl
  obtain ⟨z, rfl, hz, k⟩ := h
  refine ⟨_, pss_cons (ps_if (PW.pt (pw_or (pt_not (pt_chain op_le op_le pe_int (pe_callB call_len_str (by rfl) T.n_len PySem.boot_len (pa_cons (pv 0) pa_nil)) (pe_gI T.k_MOST_SIGNS)))
      (pw_or1 (pt_cmpR op_notIn_sign (pe_item_str (pv 0) pe_int (fun _ _ => rfl)) (pe_gS T.k_LETTERS) rfl)))) (pss_one (ps_ret pe_bl)) pss_nil)
    (pss_cons (ps_for PassesOwn.never rfl (pi_str (pv 0)) (pg_name (i := 1) sc_is_name.nd rfl (Or.inl rfl))
      (pss_one (ps_if (PW.pt (pw_and (pt_cmpR op_notIn_sign (pv 1) (pe_gS T.k_LETTERS) rfl) (pw_and1 (pt_cmpR op_notIn_sign (pv 1) (pe_gS T.k_DIGITS) rfl)))) (pss_one (ps_ret pe_bl)) pss_nil)))
    (pss_one (ps_ret pe_bl))), ?_⟩
  have hl : z.length ≤ sizeLine := Nat.le_trans hz.hi (by decide)
  have hlo := hz.lo
  have hhi := hz.hi
  obtain ⟨c, hc, hcL⟩ := hz.first
  refine ⟨_, rfl, _, rfl, hl, _, _, rfl, rfl, _, rfl, iteDT (by omega) ⟨_, _, rfl, rfl, _, rfl, iteNF (by omega) ?_⟩⟩
  refine ⟨_, rfl, _, _, c, rfl, rfl, by decide, by decide, by omega, hc, _, _, rfl, rfl, _, rfl, iteNF hcL ?_⟩
  refine ⟨_, rfl, _, rfl, for_str (fun _ σ H' => (∃ v, σ = [some (.str z), v]) ∧ Same H H') ⟨⟨_, rfl⟩, Same.refl H⟩ ?_ ?_⟩
  · rintro i c' σ H' hi ⟨⟨v, rfl⟩, hS⟩
    refine ⟨_, rfl, _, _, rfl, rfl, _, rfl, iteN2 (fun h1 => ?_) (fun _ => ?_)⟩
    · refine ⟨_, rfl, _, _, rfl, rfl, _, rfl, iteN2 (fun h2 => ?_) (fun _ => ⟨⟨_, rfl⟩, hS⟩)⟩
      exact ((hz.all i c' hi).elim h1 h2).elim
    · exact ⟨⟨_, rfl⟩, hS⟩
  · rintro σ H' ⟨_, hS⟩
    exact k H' hS
end
end NRW
/-! Round: __init__. -/
namespace NRW
open PySem PySem.Spec PyProof.Rows L2
structure StaysOk (ss : List T3) : Prop where
  lo : 1 ≤ ss.length
  hi : ss.length ≤ 6
  name : ∀ s ∈ ss, NameOk s.1
  least : ∀ s ∈ ss, 1 ≤ s.2.1
  most : ∀ s ∈ ss, s.2.1 ≤ s.2.2
def spRound (K : PySem.W.Frag) : Sp := fun vs H Q _ => ∃ (H0 : Hp) (x dx : Addr) (v : V) (ss : List T3), vs = [.ref x, v] ∧ Same H0 H ∧ H0 x = none ∧ H x = some (.ins (He.ga K "Round") dx []) ∧ Dp K H0 v (dT3 ss) ∧ StaysOk ss ∧
  ∀ H', Same H0 H' → (∀ F, RoundAt K (fence F H0 H') x ss) → Q .non H'
section
variable {P : Program} {w : World} {K : PySem.W.Frag} {mg : Str → Option Value} {base : Heap}
theorem sc_Round_init : FnScope ["self", "stays", "kept", "least_sums", "most_sums", "room", "least", "most"] ["self", "stays"] (defScope s_Round_init) := ⟨rfl, rfl, rfl, by decide +kernel, rfl, by decide +kernel, by decide +kernel⟩
theorem d_Round_init (T : Txt K mg) : DefM P w K mg base "Round" "__init__" 2 ["self", "stays"] (spRound K) := by
  obtain ⟨mc, rC, u6, r6⟩ := T.r_Round
  have hN : Def P w K mg base "is_name" 1 ["text"] spIsName := d_is_name T
  refine DefM.of T.f_Round_init sc_Round_init (fun vs H Q E h => ?_) (fun _ _ _ _ _ _ us hl => match us, hl with | [_, _], _ => rfl) (fun f cdv A outer s H vs Q E hr h => ?_)
  · obtain ⟨_, x, _, v, _, rfl, _⟩ := h
    rfl
  obtain ⟨H0, x, dx, v, ss, rfl, hS, hx0, hx, hv, ok, k⟩ := h
  obtain ⟨a, xs, rfl, ha, hd, hlen⟩ := dT3_of hv
  have c := T.c_Round
  refine ⟨_, pss_cons (ps_if (pt_not (pt_chain op_le op_le pe_int (pe_callB call_len_seq (by rfl) T.n_len PySem.boot_len (pa_cons (pv 1) pa_nil)) (ClX.pe_cval (pe_gC c.mg_)))) (pss_one ps_never) pss_nil)
    (pss_cons (ps_set (i := 2) sc_Round_init.nd rfl (Or.inl rfl) (pe_lst pa_nil))
    (pss_cons (ps_set (i := 3) sc_Round_init.nd rfl (Or.inl rfl) (pe_lst (pa_cons pe_int pa_nil)))
    (pss_cons (ps_set (i := 4) sc_Round_init.nd rfl (Or.inl rfl) (pe_lst (pa_cons pe_int pa_nil)))
    (pss_cons (ps_for PassesOwn.never rfl (pi_list (pv 1)) (pg_tup rfl (pgs_cons (pg_name (i := 5) sc_Round_init.nd rfl (Or.inl rfl)) (pgs_cons (pg_name (i := 6) sc_Round_init.nd rfl (Or.inl rfl)) (pgs_cons (pg_name (i := 7) sc_Round_init.nd rfl (Or.inl rfl)) pgs_nil))))
      (pss_cons (ps_if (pt_not (pt_val (pe_def hN hr (by rfl) (pa_cons (pv 5) pa_nil)))) (pss_one ps_never) pss_nil)
      (pss_cons (ps_if (PW.pt (pw_or (pt_cmpR op_lt (pv 6) pe_int (nomark _)) (pw_or1 (pt_cmpR op_lt (pv 7) (pv 6) (nomark _))))) (pss_one ps_never) pss_nil)
      (pss_cons (ps_expr (pe_bm PySem.F.plainAttrs_list PySem.F.slot_list_append PySem.F.type_list_append mt_append (pv 2) (pa_cons (pe_tup (pa_cons (pv 5) (pa_cons (pv 6) (pa_cons (pv 7) pa_nil)))) pa_nil)))
      (pss_cons (ps_expr (pe_bm PySem.F.plainAttrs_list PySem.F.slot_list_append PySem.F.type_list_append mt_append (pv 3) (pa_cons (pe_op op_add (pe_ix ix_list (pv 3) (pe_un un_neg pe_int) (fun _ _ => rfl)) (pv 6)) pa_nil)))
      (pss_one (ps_expr (pe_bm PySem.F.plainAttrs_list PySem.F.slot_list_append PySem.F.type_list_append mt_append (pv 4) (pa_cons (pe_op op_add (pe_ix ix_list (pv 4) (pe_un un_neg pe_int) (fun _ _ => rfl)) (pv 7)) pa_nil)))))))))
    (pss_cons (ps_fld (pv 0) (pv 2) rfl) (pss_cons (ps_fld (pv 0) (pv 3) rfl) (pss_one (ps_fld (pv 0) (pv 4) rfl)))))))), ?_⟩
  have h1 := ok.lo
  have h6 := ok.hi
  -- if not 1 <= len(stays) <= Round.MOST_STAYS
  refine ⟨_, rfl, a, xs, rfl, .inl (hS.seq ha), _, _, rfl, rfl, _, rfl, iteDT (by omega) ⟨_, mc, .int 6, u6, rfl, rC, r6, _, _, rfl, rfl, _, rfl, iteNF (by omega) ?_⟩⟩
  -- kept = [], least_sums = [0], most_sums = [0]
  refine ⟨Nat.zero_le _, fun p hp => ⟨by show 1 ≤ sizeLine; decide, fun q hq => ⟨by show 1 ≤ sizeLine; decide, fun r hrr => ?_⟩⟩⟩
  have hp0 := hS.free hp
  have hpq : p ≠ q := ne_of_none (upd_same) hq
  have hpr : p ≠ r := ne_of_none (by rw [upd_ne hpq]; exact upd_same) hrr
  have hqr : q ≠ r := ne_of_none upd_same hrr
  have S1 : Same H (upd H p (.lst [])) := Same.new_ hp
  have S2 : Same H (upd (upd H p (.lst [])) q (.lst [.int 0])) := S1.to hq
  have S3 : Same H (upd (upd (upd H p (.lst [])) q (.lst [.int 0])) r (.lst [.int 0])) := S2.to hrr
  have hq0 : H0 q = none := hS.free (S1.free hq)
  have hr0 : H0 r = none := hS.free (S2.free hrr)
  have hxp : x ≠ p := ne_of_none hx hp
  have hxq : x ≠ q := ne_of_none hx (S1.free hq)
  have hxr : x ≠ r := ne_of_none hx (S2.free hrr)
  refine ⟨_, rfl, a, rfl, ⟨_, S3.seq (hS.seq ha)⟩, for_list (K := K) (a := a) (xs := xs) (fun i σ H' => ∃ (ks : List V) (ls ms : List Int) (b5 b6 b7 : Option V), σ = [some (.ref x), some (.ref a), some (.ref p), some (.ref q), some (.ref r), b5, b6, b7] ∧
      Same H0 H' ∧ H' x = some (.ins (He.ga K "Round") dx []) ∧ H' p = some (.lst ks) ∧ Tups H' ks ((ss.take i).map v3) ∧ H' q = some (.lst (ls.map V.int)) ∧ H' r = some (.lst (ms.map V.int)) ∧ ls.length = i + 1 ∧ ms.length = i + 1 ∧ ∀ v ∈ ks, ∀ t, v = .ref t → H0 t = none)
    ⟨[], [0], [0], _, _, _, rfl, hS.trans S3, S3 _ _ hx, by rw [upd_ne hpr, upd_ne hpq, upd_same], by simpa using Tups.nil_, by rw [upd_ne hqr, upd_same]; rfl, by rw [upd_same]; rfl, rfl, rfl, fun v h => (nomatch h)⟩
    (fun i σ H' _ ⟨_, _, _, _, _, _, _, e, _⟩ => e.seq ha) ?_ ?_⟩
  · rintro i y σ H' hi ⟨ks, ls, ms, b5, b6, b7, rfl, e0, ex, ep, et, eq, er, el, em, en⟩
    obtain ⟨t, s, rfl, hs, ht⟩ := dT3_get hd hi
    have hmem := List.mem_of_getElem? hs
    have hil : i < ss.length := (List.getElem?_eq_some_iff.mp hs).1
    have hlast : ∀ (l : List Int), l.length = i + 1 → ∃ z, atI (l.map V.int) (-1) = some (.int z) := fun l hl => by
      obtain ⟨l', z, rfl⟩ : ∃ l' z, l = l' ++ [z] := ⟨l.dropLast, l.getLast (by intro e; rw [e] at hl; cases hl), (List.dropLast_concat_getLast _).symm⟩
      exact ⟨z, by rw [List.map_append]; exact atI_last _ _⟩
    refine ⟨t, v3 s, rfl, sqT_same e0 ht, rfl, _, _, rfl, _, _, rfl, _, _, rfl, rfl, ?_⟩
    -- if not is_name(room)
    refine ⟨_, rfl, _, rfl, ok.name s hmem, fun H2 s2 => ⟨_, rfl, ?_⟩⟩
    show if (!true) = true then _ else _
    refine iteF ?_
    -- if least < 1 or most < least
    have hl1 := ok.least s hmem
    have hm1 := ok.most s hmem
    refine ⟨_, rfl, _, _, rfl, rfl, _, rfl, iteDF (by omega) ⟨_, rfl, _, rfl, _, _, rfl, rfl, _, rfl, iteDF (by omega) ?_⟩⟩
    -- kept.append((room, least, most))
    have ep2 := s2 _ _ ep
    have eq2 := s2 _ _ eq
    have er2 := s2 _ _ er
    have ex2 := s2 _ _ ex
    refine ⟨_, rfl, .inl ⟨rfl, _, SqL.of ep2⟩, _, rfl, _, rfl, _, rfl, by show 3 ≤ sizeLine; decide, fun n hn => ?_⟩
    have hpn : p ≠ n := ne_of_none ep2 hn
    have hqn : q ≠ n := ne_of_none eq2 hn
    have hrn : r ≠ n := ne_of_none er2 hn
    have hxn : x ≠ n := ne_of_none ex2 hn
    have lk : ks.length = i := by rw [et.length, List.length_map, List.length_take]; omega
    have bg : (1000 : Nat) < sizeLine := by decide
    refine ⟨p, ks, .ref n, rfl, rfl, by rw [upd_ne hpn]; exact ep2, by omega, ?_⟩
    -- least_sums.append(least_sums[-1] + least)
    obtain ⟨z1, hz1⟩ := hlast ls el
    obtain ⟨z2, hz2⟩ := hlast ms em
    have eq3 : upd (upd H2 n (.tup (v3 s))) p (.lst (ks ++ [.ref n])) q = some (.lst (ls.map V.int)) := by rw [upd_ne (Ne.symm hpq), upd_ne hqn]; exact eq2
    refine ⟨_, rfl, .inl ⟨rfl, _, SqL.of eq3⟩, _, rfl, _, rfl, q, _, _, _, rfl, rfl, SqL.of eq3, hz1, _, rfl, _, _, rfl, rfl, q, _, _, rfl, rfl, eq3, by rw [List.length_map]; omega, ?_⟩
    have er3 : upd (upd (upd H2 n (.tup (v3 s))) p (.lst (ks ++ [.ref n]))) q (.lst (ls.map V.int ++ [.int (z1 + s.2.1)])) r = some (.lst (ms.map V.int)) := by rw [upd_ne (Ne.symm hqr), upd_ne (Ne.symm hpr), upd_ne hrn]; exact er2
    refine ⟨_, rfl, .inl ⟨rfl, _, SqL.of er3⟩, _, rfl, _, rfl, r, _, _, _, rfl, rfl, SqL.of er3, hz2, _, rfl, _, _, rfl, rfl, r, _, _, rfl, rfl, er3, by rw [List.length_map]; omega, ?_⟩
    refine ⟨ks ++ [.ref n], ls ++ [z1 + s.2.1], ms ++ [z2 + s.2.2], _, _, _, rfl, ?_, ?_, ?_, ?_, ?_, ?_, by rw [List.length_append, el]; rfl, by rw [List.length_append, em]; rfl, fun v hv t ht => ?_⟩
    · exact ((((e0.trans s2).to hn).mut hp0).mut hq0).mut hr0
    · rw [upd_ne hxr, upd_ne hxq, upd_ne hxp, upd_ne hxn]; exact ex2
    · rw [upd_ne hpr, upd_ne hpq, upd_same]
    · rw [List.take_add_one, hs]
      show Tups _ _ ((ss.take i ++ [s]).map v3)
      rw [List.map_append]
      have t1 : TStay H' (upd H2 n (.tup (v3 s))) := (TStay.of s2).new hn
      have t2 : TStay (upd H2 n (.tup (v3 s))) (upd (upd (upd (upd H2 n (.tup (v3 s))) p (.lst (ks ++ [.ref n]))) q (.lst (ls.map V.int ++ [.int (z1 + s.2.1)]))) r (.lst (ms.map V.int ++ [.int (z2 + s.2.2)]))) :=
        (((TStay.refl _).wr (u := .lst ks) (by rw [upd_ne hpn]; exact ep2) rfl).wr (u := .lst _) eq3 rfl).wr (u := .lst _) er3 rfl
      exact ((et.stay t1).snoc upd_same).stay t2
    · rw [upd_ne hqr, upd_same, List.map_append]; rfl
    · rw [upd_same, List.map_append]; rfl
    · rcases List.mem_append.mp hv with h | h
      · exact en v h t ht
      · have : v = .ref n := by simpa using h
        rw [this] at ht
        cases ht
        exact (e0.trans s2).free hn
  · rintro σ H' ⟨ks, ls, ms, b5, b6, b7, rfl, e0, ex, ep, et, eq, er, el, em, en⟩
    have hxp' : x ≠ p := hxp
    refine ⟨_, rfl, _, rfl, x, _, dx, [], rfl, ex, c.cl, T.n_Round_stays, by show 0 < 1000; decide, ?_⟩
    refine ⟨_, rfl, _, rfl, x, _, dx, _, rfl, upd_same, c.cl, T.n_Round_least, by show 1 < 1000; decide, ?_⟩
    refine ⟨_, rfl, _, rfl, x, _, dx, _, rfl, upd_same, c.cl, T.n_Round_most, by show 2 < 1000; decide, ?_⟩
    rw [upd_upd, upd_upd]
    refine k _ (e0.mut hx0) fun F => ⟨dx, _, p, by rw [fence_new hx0]; exact upd_same, ?_, ?_⟩
    · rw [lookup_putF, if_neg (by decide +kernel), lookup_putF, if_neg (by decide +kernel), lookup_putF, if_pos rfl]
    · refine .lst (SqL.of (by rw [fence_new hp0, upd_ne (Ne.symm hxp)]; exact ep)) (Tups.d3 (H := fence F H0 (upd H' x _)) ?_)
      rw [hlen, List.take_length] at et
      exact tups_fence (et.stay ((TStay.refl _).wr ex rfl)) en
end
end NRW
/-! len of an own class, Round.__len__, Round.stays, walk. -/
namespace NRW
open PySem PySem.Spec PyProof.Rows L2
/-! ### len(x), x an instance with its own __len__ -/
section
variable {prog : Program} {w : World} {A : Around} {E : Value → Shared → Prop} {s : Shared} {K : PySem.W.Frag} {x C f : Addr} {ox : Obj} {od : Option Obj}
theorem len_ownK {Q : Value → Shared → Prop} (X : K.In s.heap) (I : PySem.W.InstAt s.heap x ox C od) (hs : PySem.W.findIn K (.ref C) "__len__" = some (some (.ref f))) (hf : PySem.W.isFn K (.ref f) = true)
    (hcall : wpAny (model prog w) A.in1 (call (.ref f) [.ref x]) (fun r s' => ∃ n u, r = .int n u ∧ 0 ≤ n ∧ n < 2 ^ 63 ∧ Q (.int n s'.toks) { s' with toks := s'.toks + 1 }) E s) :
    wpAny (model prog w) A (call (.builtin "len") [.ref x]) Q E s := by
  refine Calls.call_function_entry kind_len plain_len entry_len (args_len1 _) ?_
  unfold Builtin.«len»
  refine wpAny_bind (m := oneArg "len" _) (wpAny_pure ?_)
  refine wpAny_bind (m := callSpecial? (.ref x) (Str.ofString "__len__")) (PySem.W.special_fn X I hs (beq_iff_eq.mp hf) (wpAny_mono hcall (fun r s' hr => ?_) fun _ _ y => y))
  obtain ⟨n, u, rfl, h0, h1, hq⟩ := hr
  refine wpAny_bind (wpAny_holding (wpAny_pure ?_))
  refine wpAny_bind (wpAny_letGo ?_)
  show wpAny _ _ (if n < 0 then _ else _) _ _ _
  rw [if_neg (by omega)]
  show wpAny _ _ (if n ≥ 2 ^ 63 then _ else _) _ _ _
  rw [if_neg (by omega)]
  exact wpAny_bind (wpAny_mkInt (wpAny_pure ⟨_, rfl, hq⟩))
end
def rLenO (K : PySem.W.Frag) (C : Addr) (sp : Sp) : List V → Hp → VK → Prop := fun xs H Q => ∃ x dx fs, xs = [.ref x] ∧ H x = some (.ins C dx fs) ∧ sp [.ref x] H (fun v H' => ∃ n : Int, v = .int n ∧ 0 ≤ n ∧ n < 2 ^ 63 ∧ Q (.int n) H') E0
theorem call_lenO {X : Cx} {C : Str} {k : Nat} {sp : Sp} (D : DefM X.prog X.w X.K X.mg X.base C "__len__" k ["self"] sp) (hr : Room (k + 1) X.A)
    (hs : PySem.W.findIn X.K (.ref (He.ga X.K C)) "__len__" = some (some (.ref (He.ma X.K (He.ga X.K C) "__len__")))) (hf : PySem.W.isFn X.K (.ref (He.ma X.K (He.ga X.K C) "__len__")) = true) :
    CallR X (.builtin "len") (rLenO X.K (He.ga X.K C) sp) := by
  intro pins s σ H xs us Q I r h
  obtain ⟨x, dx, fs, rfl, hx, h⟩ := h
  obtain ⟨u, rfl, ru⟩ := vals1 r
  obtain rfl : u = Value.ref x := ru
  obtain ⟨mA, O, _, _, _, _⟩ := ins_get I.hok hx
  obtain ⟨od, J, _⟩ := O.look
  obtain ⟨fd, hb, F⟩ := D
  refine len_ownK I.kIn J hs hf ?_
  refine wpAny_call (codeAny_mono (F.run X.A.in1 X.stack s H ⟨[.ref x], []⟩ [.ref x] [.ref x] _ E0 hr.in1 I.env0.in1 (hb _ [.ref x] I.kIn rfl) (.cons rfl .nil) h) fun r s' hq => ?_)
  cases r with
  | error er => exact False.elim hq
  | ok fl =>
    cases fl with
    | ret u =>
      obtain ⟨v, H', I3, rv, n, rfl, h0, h1, q⟩ := I.after hq
      obtain ⟨t, rfl⟩ := rv
      exact ⟨n, t, rfl, h0, h1, .int n, H', I3.tok _, ⟨_, rfl⟩, q⟩
    | next => exact False.elim hq
    | brk => exact False.elim hq
    | cont => exact False.elim hq
/-! ### Round.__len__, Round.stays -/
def spRLen (K : PySem.W.Frag) : Sp := fun vs H Q _ => ∃ (x : Addr) (ss : List T3), vs = [.ref x] ∧ RoundAt K H x ss ∧ ∀ H', Same H H' → Q (.int (ss.length : Int)) H'
/-- F: what stands when the stays are asked for -/
def spRStays (K : PySem.W.Frag) : Sp := fun vs H Q _ => ∃ (F : Hp) (x : Addr) (ss : List T3), vs = [.ref x] ∧ Same F H ∧ RoundAt K F x ss ∧ ∀ l xs H', H l = none → Same H H' → H' l = some (.lst xs) → DpAll K F xs (ss.map d3) → Q (.ref l) H'
section
variable {P : Program} {w : World} {K : PySem.W.Frag} {mg : Str → Option Value} {base : Heap}
theorem sc_Round_len : FnScope ["self"] ["self"] (defScope s_Round_len) := ⟨rfl, rfl, rfl, by decide +kernel, rfl, by decide +kernel, by decide +kernel⟩
theorem d_Round_len (T : Txt K mg) : DefM P w K mg base "Round" "__len__" 1 ["self"] (spRLen K) := by
  refine DefM.of T.f_Round_len sc_Round_len (fun vs H Q E h => ?_) (fun _ _ _ _ _ _ us hl => match us, hl with | [_], _ => rfl) (fun f cdv A outer s H vs Q E hr h => ?_)
  · obtain ⟨x, _, rfl, _⟩ := h
    rfl
  obtain ⟨x, ss, rfl, ⟨dx, fs, a, hx, hl, hd⟩, k⟩ := h
  obtain ⟨a', xs, e, ha, hd', hlen⟩ := dT3_of hd
  cases e
  refine ⟨_, pss_one (ps_ret (pe_callB call_len_seq (by rfl) T.n_len PySem.boot_len (pa_cons (pe_fld (pv 0) rfl) pa_nil))), ?_⟩
  refine ⟨_, rfl, x, _, dx, fs, _, rfl, hx, T.c_Round.cl, T.n_Round_stays, hl, a, xs, rfl, .inl ha, ?_⟩
  rw [hlen]
  exact k H (Same.refl H)
theorem sc_Round_stays : FnScope ["self"] ["self"] (defScope s_Round_stays) := ⟨rfl, rfl, rfl, by decide +kernel, rfl, by decide +kernel, by decide +kernel⟩
theorem d_Round_stays (T : Txt K mg) : ∃ p g fd, PropOf K (He.ga K "Round") "stays" p g ∧ Binds K fd ["self"] [] ∧ FnOk P w K mg base CX0 1 g fd ["self"] (spRStays K) := by
  obtain ⟨p, g, hp, fd, F⟩ := T.p_stays
  refine ⟨p, g, fd, hp, F.bindsN (fun _ _ _ _ _ _ us hl => match us, hl with | [_], _ => rfl), F.ok sc_Round_stays (fun vs H Q E h => ?_) fun cdv A outer s H vs Q E hr h => ?_⟩
  · obtain ⟨_, x, _, rfl, _⟩ := h
    rfl
  obtain ⟨F0, x, ss, rfl, hF, ⟨dx, fs, a, hx, hl, hd⟩, k⟩ := h
  obtain ⟨a', xs, e, ha, hd', hlen⟩ := dT3_of hd
  cases e
  refine ⟨_, PSs.nox (pss_one (ps_ret (pe_callTy call_list_of (by rfl) T.n_list (by decide +kernel) (pa_cons (pe_fld (pv 0) rfl) pa_nil)))), ?_⟩
  refine ⟨_, rfl, x, _, dx, fs, _, rfl, hF _ _ hx, T.c_Round.cl, T.n_Round_stays, hl, a, xs, rfl, .inl (hF.seq ha), fun l hl => ?_⟩
  exact k _ _ _ hl (Same.new_ hl) upd_same hd'
/-! ### walk -/
def stl (ss : List T3) (ls : List Int) : List (Str × Int) := List.zipWith (fun s l => (s.1, l)) ss ls
structure Fits (ss : List T3) (ls : List Int) : Prop where
  len : ls.length = ss.length
  ok : ∀ (i : Nat) s l, ss[i]? = some s → ls[i]? = some l → s.2.1 ≤ l ∧ l ≤ s.2.2
def spWalk (K : PySem.W.Frag) : Sp := fun vs H Q _ => ∃ (x : Addr) (st : Int) (v : V) (ss : List T3) (ls : List Int), vs = [.ref x, .int st, v] ∧ RoundAt K H x ss ∧ Dp K H v (dInts ls) ∧ Fits ss ls ∧ ss.length ≤ 6 ∧
  ∀ v' H', Same H H' → Dp K H' v' (dT3 (NR.pw st (stl ss ls))) → Q v' H'
theorem pw_snoc : ∀ (ss : List (Str × Int)) (st : Int) (s : Str × Int), NR.pw st (ss ++ [s]) = NR.pw st ss ++ [(s.1, st + (ss.map (·.2)).sum, st + (ss.map (·.2)).sum + s.2)]
  | [], st, s => by simp [NR.pw]
  | a :: ss, st, s => by
    have h := pw_snoc ss (st + a.2) s
    simp only [List.cons_append, NR.pw, h, List.map_cons, List.sum_cons]
    have e : st + a.2 + (ss.map (·.2)).sum = st + (a.2 + (ss.map (·.2)).sum) := by omega
    rw [e]
theorem stl_length {ss : List T3} {ls : List Int} (h : ls.length = ss.length) : (stl ss ls).length = ss.length := by
  unfold stl
  rw [List.length_zipWith]; omega
theorem stl_get {ss : List T3} {ls : List Int} {i : Nat} {s : T3} {l : Int} (h1 : ss[i]? = some s) (h2 : ls[i]? = some l) : (stl ss ls)[i]? = some (s.1, l) := by
  unfold stl
  rw [List.getElem?_zipWith, h1, h2]
theorem sc_walk : FnScope ["tour", "start", "lengths", "rows", "moment", "room", "least", "most", "length"] ["tour", "start", "lengths"] (defScope s_walk) := ⟨rfl, rfl, rfl, by decide +kernel, rfl, by decide +kernel, by decide +kernel⟩
theorem d_walk (T : Txt K mg) : Def P w K mg base "walk" 3 ["tour", "start", "lengths"] (spWalk K) := by
  have DL : DefM P w K mg base "Round" "__len__" 1 ["self"] (spRLen K) := d_Round_len T
  obtain ⟨p, g, fd, hp, hb, F⟩ := d_Round_stays (P := P) (w := w) (base := base) T
  have c := T.c_Round
  refine Def.of T.g_walk T.f_walk sc_walk (fun vs H Q E h => ?_) (fun _ _ _ _ _ _ us hl => match us, hl with | [_, _, _], _ => rfl) (fun f cdv A outer s H vs Q E hr h => ?_)
  · obtain ⟨x, _, v, _, _, rfl, _⟩ := h
    rfl
  obtain ⟨x, st, v, ss, ls, rfl, hR, hv, fit, h6, k⟩ := h
  obtain ⟨b, rfl, hls⟩ := dInts_of hv
  obtain ⟨dx, fs, a, hx, hl, hd⟩ := id hR
  refine ⟨_, pss_cons (ps_if (pt_cmpR op_ne (pe_callB call_len_seq (by rfl) T.n_len PySem.boot_len (pa_cons (pv 2) pa_nil)) (pe_callB (call_lenO DL hr T.l_Round.1 T.l_Round.2) (by rfl) T.n_len PySem.boot_len (pa_cons (pv 0) pa_nil)) (nomark _)) (pss_one ps_never) pss_nil)
    (pss_cons (ps_set (i := 3) sc_walk.nd rfl (Or.inl rfl) (pe_lst pa_nil))
    (pss_cons (ps_set (i := 4) sc_walk.nd rfl (Or.inl rfl) (pv 1))
    (pss_cons (ps_for PassesOwn.never rfl (pi_zip (by rfl) T.n_zip (pa_cons (pe_prop (pv 0) c.cl hp F hr hb .nil pass0 rfl) (pa_cons (pv 2) pa_nil)))
      (pg_tup rfl (pgs_cons (pg_tup rfl (pgs_cons (pg_name (i := 5) sc_walk.nd rfl (Or.inl rfl)) (pgs_cons (pg_name (i := 6) sc_walk.nd rfl (Or.inl rfl)) (pgs_cons (pg_name (i := 7) sc_walk.nd rfl (Or.inl rfl)) pgs_nil)))) (pgs_cons (pg_name (i := 8) sc_walk.nd rfl (Or.inl rfl)) pgs_nil)))
      (pss_cons (ps_if (pt_not (pt_chain op_le op_le (pv 6) (pv 8) (pv 7))) (pss_one ps_never) pss_nil)
      (pss_cons (ps_expr (pe_bm PySem.F.plainAttrs_list PySem.F.slot_list_append PySem.F.type_list_append mt_append (pv 3) (pa_cons (pe_tup (pa_cons (pv 5) (pa_cons (pv 4) (pa_cons (pe_op op_add (pv 4) (pv 8)) pa_nil)))) pa_nil)))
      (pss_one (ps_aug (i := 4) sc_walk.nd rfl (Or.inl rfl) (pv 8) ip_add)))))
    (pss_one (ps_ret (pv 3)))))), ?_⟩
  have hn : ss.length < 100 := by omega
  have big : (1000 : Nat) < sizeLine := by decide
  -- if len(lengths) != len(tour)
  refine ⟨_, rfl, b, _, rfl, .inl hls, _, rfl, x, dx, fs, rfl, hx, x, ss, rfl, hR, fun H1 s1 => ⟨_, rfl, by omega, by omega, rfl, _, rfl, ?_⟩⟩
  refine iteNF (by rw [List.length_map, fit.len]) ?_
  -- rows = [], moment = start
  refine ⟨Nat.zero_le _, fun p hp => ⟨_, rfl, ?_⟩⟩
  have S1 : Same H (upd H1 p (.lst [])) := s1.to hp
  have hp0 : H p = none := s1.free hp
  -- for .. in zip(tour.stays, lengths)
  refine ⟨_, rfl, x, dx, fs, rfl, S1 _ _ hx, H, x, ss, rfl, S1, hR, fun a2 ys H2 ha0 s2 ha2 hy => ⟨_, rfl, ?_⟩⟩
  have hap : a2 ≠ p := fun e => by rw [e, upd_same] at ha0; cases ha0
  have Sx := S1.trans s2
  have hylen : ys.length = ss.length := by rw [hy.length, List.length_map]
  refine ⟨a2, b, ys, ls.map V.int, rfl, SqL.of ha2, Sx.seq hls, ?_⟩
  have hpH2 : H2 p = some (.lst []) := s2 _ _ upd_same
  refine RZ.for_zipL (xs := ys) (ys := ls.map V.int) (by rw [hylen, List.length_map, fit.len]) (fun i σ H' => ∃ (rs : List V) (b5 b6 b7 b8 : Option V), σ = [some (.ref x), some (.int st), some (.ref b), some (.ref p), some (.int (st + (((stl ss ls).take i).map (·.2)).sum)), b5, b6, b7, b8] ∧
      Same H H' ∧ H' p = some (.lst rs) ∧ Tups H' rs ((NR.pw st ((stl ss ls).take i)).map v3) ∧ H' a2 = some (.lst ys) ∧ rs.length = i) ?_ ?_ ?_ ?_
  · refine ⟨[], _, _, _, _, by simp; rfl, Sx, hpH2, by simpa [NR.pw] using Tups.nil_, ha2, rfl⟩
  · rintro i σ H' ⟨rs, b5, b6, b7, b8, rfl, e0, ep, et, ea, er⟩
    exact ⟨SqL.of ea, e0.seq hls⟩
  · rintro i y z t σ H' hi hz ⟨rs, b5, b6, b7, b8, rfl, e0, ep, et, ea, er⟩ ht
    obtain ⟨u, s, rfl, hs, hu⟩ := dT3_get hy hi
    rw [List.getElem?_map] at hz
    cases hl' : ls[i]? with
    | none => rw [hl'] at hz; cases hz
    | some l =>
    rw [hl'] at hz
    cases hz
    obtain ⟨f1, f2⟩ := fit.ok i s l hs hl'
    have hi6 : i < ss.length := (List.getElem?_eq_some_iff.mp hs).1
    have S4 : Same H (upd H' t (.tup [.ref u, .int l])) := e0.to ht
    refine ⟨t, [.ref u, .int l], rfl, SqT.of upd_same, rfl, _, _, rfl, ⟨u, v3 s, rfl, sqT_same S4 hu, rfl, _, _, rfl, _, _, rfl, _, _, rfl, rfl, _, _, rfl, rfl, ?_⟩⟩
    refine ⟨_, rfl, _, rfl, _, _, rfl, rfl, _, rfl, iteDT f1 ⟨_, rfl, _, _, rfl, rfl, _, rfl, iteNF f2 ?_⟩⟩
    have hpt : p ≠ t := ne_of_none ep ht
    have hat : a2 ≠ t := ne_of_none ea ht
    have ep4 : upd H' t (.tup [.ref u, .int l]) p = some (.lst rs) := by rw [upd_ne hpt]; exact ep
    refine ⟨_, rfl, .inl ⟨rfl, _, SqL.of ep4⟩, _, rfl, _, rfl, _, rfl, _, rfl, _, _, rfl, rfl, by show 3 ≤ sizeLine; decide, fun n hn => ?_⟩
    have hpn : p ≠ n := ne_of_none ep4 hn
    have ea4 : upd H' t (.tup [.ref u, .int l]) a2 = some (.lst ys) := by rw [upd_ne hat]; exact ea
    have han : a2 ≠ n := ne_of_none ea4 hn
    refine ⟨p, rs, .ref n, rfl, rfl, by rw [upd_ne hpn]; exact ep4, by omega, ?_⟩
    refine ⟨_, rfl, _, rfl, _, _, rfl, rfl, ?_⟩
    have eT : (stl ss ls).take (i + 1) = (stl ss ls).take i ++ [(s.1, l)] := by rw [List.take_add_one, stl_get hs hl']; rfl
    have em : st + (((stl ss ls).take (i + 1)).map (·.2)).sum = st + (((stl ss ls).take i).map (·.2)).sum + l := by
      rw [eT, List.map_append, List.sum_append]
      simp; omega
    refine ⟨rs ++ [.ref n], _, _, _, _, (by rw [em]; rfl), (S4.to hn).mut hp0, by rw [upd_same], ?_, by rw [upd_ne hap, upd_ne han]; exact ea4, by rw [List.length_append, er]; rfl⟩
    · rw [eT, pw_snoc, List.map_append]
      have t1 : TStay H' (upd (upd H' t (.tup [.ref u, .int l])) n (.tup [.str s.1, .int (st + (((stl ss ls).take i).map (·.2)).sum), .int (st + (((stl ss ls).take i).map (·.2)).sum + l)])) := ((TStay.refl _).new ht).new hn
      exact ((et.stay t1).snoc upd_same).stay ((TStay.refl _).wr (u := .lst rs) (by rw [upd_ne hpn]; exact ep4) rfl)
  · rintro σ H' ⟨rs, b5, b6, b7, b8, rfl, e0, ep, et, ea, er⟩
    refine ⟨_, rfl, ?_⟩
    refine k _ _ e0 (.lst (SqL.of ep) (Tups.d3 ?_))
    rw [hylen, ← stl_length fit.len, List.take_length] at et
    exact et
end
end NRW
/-! _law_is_int, _law_walk. -/
namespace NRW
open PySem PySem.Spec PyProof.Rows L2
def spIsInt : Sp := fun vs H Q _ => ∃ i : Int, vs = [.int i] ∧ ∀ H', Same H H' → Q (.bl true) H'
section
variable {P : Program} {w : World} {K : PySem.W.Frag} {mg : Str → Option Value} {base : Heap}
theorem sc_law_is_int : FnScope ["_law_value"] ["_law_value"] (defScope s_law_is_int) := ⟨rfl, rfl, rfl, by decide +kernel, rfl, by decide +kernel, by decide +kernel⟩
theorem d_law_is_int (T : Txt K mg) : Def P w K mg base "_law_is_int" 1 ["_law_value"] spIsInt := by
  refine Def.of T.g_law_is_int T.f_law_is_int sc_law_is_int (fun vs H Q E h => ?_) (fun _ _ _ _ _ _ us hl => match us, hl with | [_], _ => rfl) (fun f cdv A outer s H vs Q E hr h => ?_)
  · obtain ⟨z, rfl, _⟩ := h
    rfl
  obtain ⟨i, rfl, k⟩ := h
  refine ⟨_, pss_one (ps_ret (pe_and (pe_callB call_isi (by rfl) T.n_isinstance (by decide +kernel) (pa_cons (pv 0) (pa_cons (pe_bltn (v := .ty "int") (by rfl) T.n_int (by decide +kernel) rfl) pa_nil)))
    (pe_one (pe_not (pe_callB call_isi (by rfl) T.n_isinstance (by decide +kernel) (pa_cons (pv 0) (pa_cons (pe_bltn (v := .ty "bool") (by rfl) T.n_bool (by decide +kernel) rfl) pa_nil))))))), ?_⟩
  refine ⟨_, rfl, _, _, .type "int", .type "int", true, rfl, .ty _, .base (.int _), kit_ty (by decide +kernel), true, rfl, iteT ⟨_, rfl, _, _, .type "int", .type "bool", false, rfl, .ty _, .base (.int _), kit_ty (by decide +kernel), false, rfl, ?_⟩⟩
  exact k H (Same.refl H)
/-! ### _law_walk -/
def spLWalk (K : PySem.W.Frag) : Sp := fun vs H Q _ => ∃ (v1 v3 : V) (st : Int) (ss : List T3) (ls : List Int), vs = [v1, .int st, v3] ∧ Dp K H v1 (dT3 ss) ∧ Dp K H v3 (dInts ls) ∧ ls.length = ss.length ∧ ss.length ≤ 6 ∧
  ∀ v' H', Same H H' → (∀ F, Dp K (fence F H H') v' (dT3 (NR.pw st (stl ss ls)))) → Q v' H'
theorem sc_law_walk : FnScope ["_law_stays_here", "_law_start", "_law_lengths_here", "_law_rows", "_law_moment", "_law_k"] ["_law_stays_here", "_law_start", "_law_lengths_here"] (defScope s_law_walk) := ⟨rfl, rfl, rfl, by decide +kernel, rfl, by decide +kernel, by decide +kernel⟩
theorem d_law_walk (T : Txt K mg) : Def P w K mg base "_law_walk" 1 ["_law_stays_here", "_law_start", "_law_lengths_here"] (spLWalk K) := by
  refine Def.of T.g_law_walk T.f_law_walk sc_law_walk (fun vs H Q E h => ?_) (fun _ _ _ _ _ _ us hl => match us, hl with | [_, _, _], _ => rfl) (fun f cdv A outer s H vs Q E hr h => ?_)
  · obtain ⟨_, _, _, _, _, rfl, _⟩ := h
    rfl
  obtain ⟨v1, v3', st, ss, ls, rfl, hv1, hv3, hlen, h6, k⟩ := h
  obtain ⟨a, xs, rfl, ha, hd, hxl⟩ := dT3_of hv1
  obtain ⟨b, rfl, hb⟩ := dInts_of hv3
  have nd := sc_law_walk.nd
  refine ⟨_, pss_cons (ps_set (i := 3) nd rfl (Or.inl rfl) (pe_lst pa_nil)) (pss_cons (ps_set (i := 4) nd rfl (Or.inl rfl) (pv 1))
    (pss_cons (ps_for PassesOwn.never rfl (pi_range1 rfl T.n_range (pa_cons (pe_callB call_len_seq (by rfl) T.n_len PySem.boot_len (pa_cons (pv 0) pa_nil)) pa_nil)) (pg_name (i := 5) nd rfl (Or.inl rfl))
      (pss_cons (ps_expr (pe_bm PySem.F.plainAttrs_list PySem.F.slot_list_append PySem.F.type_list_append mt_append (pv 3) (pa_cons (pe_tup (pa_cons (pe_ix ix_tup (pe_ix ix_list (pv 0) (pv 5) (fun _ _ => rfl)) pe_int (fun _ _ => rfl)) (pa_cons (pv 4) (pa_cons (pe_op op_add (pv 4) (pe_ix ix_list (pv 2) (pv 5) (fun _ _ => rfl))) pa_nil)))) pa_nil)))
      (pss_one (ps_set (i := 4) nd rfl (Or.inl rfl) (pe_op op_add (pv 4) (pe_ix ix_list (pv 2) (pv 5) (fun _ _ => rfl)))))))
    (pss_one (ps_ret (pv 3))))), ?_⟩
  have big : (1000 : Nat) < sizeLine := by decide
  refine ⟨Nat.zero_le _, fun p hp => ⟨_, rfl, ?_⟩⟩
  have S1 : Same H (upd H p (.lst [])) := Same.new_ hp
  refine ⟨_, rfl, a, xs, rfl, .inl (S1.seq ha), _, rfl, by omega, by omega, for_range (lo := 0) (n := xs.length) (fun i σ H' => ∃ (rs : List V) (b5 : Option V), σ = [some (.ref a), some (.int st), some (.ref b), some (.ref p), some (.int (st + (((stl ss ls).take i).map (·.2)).sum)), b5] ∧
      Same H H' ∧ H' p = some (.lst rs) ∧ Tups H' rs ((NR.pw st ((stl ss ls).take i)).map v3) ∧ rs.length = i ∧ ∀ v ∈ rs, ∀ t, v = .ref t → H t = none) ?_ ?_ ?_⟩
  · exact ⟨[], _, by simp; rfl, S1, upd_same, by simpa [NR.pw] using Tups.nil_, rfl, fun v h => (nomatch h)⟩
  · rintro i σ H' hi ⟨rs, b5, rfl, e0, ep, et, er, en⟩
    obtain ⟨y, hy⟩ : ∃ y, xs[i]? = some y := ⟨_, List.getElem?_eq_getElem hi⟩
    obtain ⟨u, s, rfl, hs, hu⟩ := dT3_get hd hy
    obtain ⟨l, hl'⟩ : ∃ l, ls[i]? = some l := ⟨_, List.getElem?_eq_getElem (by omega)⟩
    have hlv : (ls.map V.int)[i]? = some (.int l) := by rw [List.getElem?_map, hl']; rfl
    have ei : (0 + (i : Int)) = (i : Int) := by omega
    refine ⟨_, rfl, .inl ⟨rfl, _, SqL.of ep⟩, _, rfl, _, rfl, a, xs, _, _, rfl, rfl, e0.seq ha, at_of ei hy, u, _, _, _, rfl, rfl, sqT_same e0 hu, at_of (j := 0) rfl rfl, _, rfl, _, rfl, _, rfl, _, rfl, b, _, _, _, rfl, rfl, e0.seq hb, at_of ei hlv, _, _, rfl, rfl, by show 3 ≤ sizeLine; decide, fun n hn => ?_⟩
    have hpn : p ≠ n := ne_of_none ep hn
    refine ⟨p, rs, .ref n, rfl, rfl, by rw [upd_ne hpn]; exact ep, by omega, ?_⟩
    have hp0 : H p = none := hp
    have S5 := (e0.to (o := .tup (v3 (s.1, st + (((stl ss ls).take i).map (·.2)).sum, st + (((stl ss ls).take i).map (·.2)).sum + l))) hn).mut (o := .lst (rs ++ [.ref n])) hp0
    refine ⟨_, rfl, _, rfl, _, rfl, b, _, _, _, rfl, rfl, S5.seq hb, at_of ei hlv, _, _, rfl, rfl, ?_⟩
    have eT : (stl ss ls).take (i + 1) = (stl ss ls).take i ++ [(s.1, l)] := by rw [List.take_add_one, stl_get hs hl']; rfl
    have em : st + (((stl ss ls).take (i + 1)).map (·.2)).sum = st + (((stl ss ls).take i).map (·.2)).sum + l := by
      rw [eT, List.map_append, List.sum_append]
      simp; omega
    refine ⟨rs ++ [.ref n], _, (by rw [em]; rfl), S5, by rw [upd_same], ?_, by rw [List.length_append, er]; rfl, fun v hv t ht => ?_⟩
    · rw [eT, pw_snoc, List.map_append]
      exact ((et.stay ((TStay.refl _).new hn)).snoc upd_same).stay ((TStay.refl _).wr (u := .lst rs) (by rw [upd_ne hpn]; exact ep) rfl)
    · rcases List.mem_append.mp hv with h | h
      · exact en v h t ht
      · have : v = .ref n := by simpa using h
        rw [this] at ht
        cases ht
        exact e0.free hn
  · rintro σ H' ⟨rs, b5, rfl, e0, ep, et, er, en⟩
    refine ⟨_, rfl, ?_⟩
    refine k _ _ e0 fun F => .lst (SqL.of (by rw [fence_new hp]; exact ep)) (Tups.d3 ?_)
    rw [hxl, ← stl_length hlen, List.take_length] at et
    exact tups_fence et en
end
end NRW
/-! _law_shared, _law_meeting_moment, _law_within. -/
namespace NRW
open PySem PySem.Spec PyProof.Rows L2
abbrev HAL : Str := "hall"
/-! ### the least of what was seen -/
def Best (A : Int → Prop) : Option Int → Prop
  | none => ∀ m, ¬ A m
  | some m => A m ∧ ∀ m', A m' → m ≤ m'
theorem Best.same {A A' : Int → Prop} {o : Option Int} (h : Best A o) (e : ∀ m, A' m ↔ A m) : Best A' o := by
  have : A' = A := funext fun m => propext (e m)
  rw [this]; exact h
theorem Best.no {A B A' : Int → Prop} {o : Option Int} (h : Best A o) (e : ∀ m, A' m ↔ A m ∨ B m) (hB : ∀ m, ¬ B m) : Best A' o :=
  h.same fun m => ⟨fun x => ((e m).mp x).resolve_right (hB m), fun x => (e m).mpr (.inl x)⟩
theorem Best.new {A B A' : Int → Prop} {o : Option Int} {m0 : Int} (h : Best A o) (e : ∀ m, A' m ↔ A m ∨ B m) (hB : B m0) (hl : ∀ m, B m → m0 ≤ m) (ho : ∀ m, o = some m → m0 < m) : Best A' (some m0) := by
  refine ⟨(e m0).mpr (.inr hB), fun m hm => ?_⟩
  rcases (e m).mp hm with x | x
  · cases o with
    | none => exact (h m x).elim
    | some k => have := h.2 m x; have := ho k rfl; omega
  · exact hl m x
theorem Best.old {A B A' : Int → Prop} {m0 m1 : Int} (h : Best A (some m1)) (e : ∀ m, A' m ↔ A m ∨ B m) (hl : ∀ m, B m → m0 ≤ m) (ho : ¬ m0 < m1) : Best A' (some m1) := by
  refine ⟨(e m1).mpr (.inl h.1), fun m hm => ?_⟩
  rcases (e m).mp hm with x | x
  · exact h.2 m x
  · have := hl m x; omega
/-- rows a and b share a room; m: the later entering -/
def Sh (a b : T3) (m : Int) : Prop := a.1 = b.1 ∧ a.1 ≠ HAL ∧ m = max a.2.1 b.2.1 ∧ m < min a.2.2 b.2.2
def ShW (rs us : List T3) (m : Int) : Prop := ∃ a ∈ rs, ∃ b ∈ us, Sh a b m
/-- seen ahead of the i-th row of rs and the j-th of us -/
def Seen (rs us : List T3) (i j : Nat) (m : Int) : Prop := ∃ a b, Sh a b m ∧ ((∃ i', i' < i ∧ rs[i']? = some a ∧ b ∈ us) ∨ (rs[i]? = some a ∧ ∃ j', j' < j ∧ us[j']? = some b))
theorem seen_00 {rs us : List T3} {m : Int} : ¬ Seen rs us 0 0 m := by
  rintro ⟨a, b, _, h⟩
  rcases h with ⟨i', h, _⟩ | ⟨_, j', h, _⟩ <;> omega
theorem seen_row {rs us : List T3} {i : Nat} {m : Int} (hi : i < rs.length) : Seen rs us (i + 1) 0 m ↔ Seen rs us i us.length m := by
  constructor
  · rintro ⟨a, b, hs, h⟩
    rcases h with ⟨i', h1, h2, h3⟩ | ⟨_, j', h, _⟩
    · rcases Nat.lt_or_ge i' i with x | x
      · exact ⟨a, b, hs, .inl ⟨i', x, h2, h3⟩⟩
      · have : i' = i := by omega
        subst this
        obtain ⟨j, hj⟩ := NR.mem_ix h3
        exact ⟨a, b, hs, .inr ⟨h2, j, (List.getElem?_eq_some_iff.mp hj).1, hj⟩⟩
    · omega
  · rintro ⟨a, b, hs, h⟩
    rcases h with ⟨i', h1, h2, h3⟩ | ⟨h1, j', h2, h3⟩
    · exact ⟨a, b, hs, .inl ⟨i', by omega, h2, h3⟩⟩
    · exact ⟨a, b, hs, .inl ⟨i, by omega, h1, List.mem_of_getElem? h3⟩⟩
theorem seen_step {rs us : List T3} {i j : Nat} {a b : T3} {m : Int} (ha : rs[i]? = some a) (hb : us[j]? = some b) : Seen rs us i (j + 1) m ↔ Seen rs us i j m ∨ Sh a b m := by
  constructor
  · rintro ⟨a', b', hs, h⟩
    rcases h with h | ⟨h1, j', h2, h3⟩
    · exact .inl ⟨a', b', hs, .inl h⟩
    · rcases Nat.lt_or_ge j' j with x | x
      · exact .inl ⟨a', b', hs, .inr ⟨h1, j', x, h3⟩⟩
      · have : j' = j := by omega
        subst this
        rw [ha] at h1; rw [hb] at h3
        cases h1; cases h3
        exact .inr hs
  · rintro (⟨a', b', hs, h⟩ | hs)
    · rcases h with h | ⟨h1, j', h2, h3⟩
      · exact ⟨a', b', hs, .inl h⟩
      · exact ⟨a', b', hs, .inr ⟨h1, j', by omega, h3⟩⟩
    · exact ⟨a, b, hs, .inr ⟨ha, j, by omega, hb⟩⟩
theorem seen_all {rs us : List T3} {m : Int} : Seen rs us rs.length 0 m ↔ ShW rs us m := by
  constructor
  · rintro ⟨a, b, hs, h⟩
    rcases h with ⟨i', h1, h2, h3⟩ | ⟨_, j', h, _⟩
    · exact ⟨a, List.mem_of_getElem? h2, b, h3, hs⟩
    · omega
  · rintro ⟨a, ha, b, hb, hs⟩
    obtain ⟨i, hi⟩ := NR.mem_ix ha
    exact ⟨a, b, hs, .inl ⟨i, (List.getElem?_eq_some_iff.mp hi).1, hi, hb⟩⟩
/-- what is found: nothing, or a pair whose first is the moment -/
def FoundV (H : Hp) (v : V) : Option Int → Prop
  | none => v = .non
  | some m => ∃ t r, v = .ref t ∧ H t = some (.tup [.int m, .str r])
theorem FoundV.same {H H' : Hp} {v : V} {o : Option Int} (s : Same H H') (h : FoundV H v o) : FoundV H' v o := by
  cases o with
  | none => exact h
  | some m =>
    obtain ⟨t, r, h1, h2⟩ := h
    exact ⟨t, r, h1, s _ _ h2⟩
def spShared (K : PySem.W.Frag) : Sp := fun vs H Q _ => ∃ (v1 v2 : V) (rs us : List T3), vs = [v1, v2] ∧ Dp K H v1 (dT3 rs) ∧ Dp K H v2 (dT3 us) ∧ ∀ v o H', Same H H' → FoundV H' v o → Best (ShW rs us) o → Q v H'
section
variable {P : Program} {w : World} {K : PySem.W.Frag} {mg : Str → Option Value} {base : Heap}
theorem sc_law_shared : FnScope ["_law_one", "_law_two", "_law_found", "_law_row", "_law_other", "_law_moment"] ["_law_one", "_law_two"] (defScope s_law_shared) := ⟨rfl, rfl, rfl, by decide +kernel, rfl, by decide +kernel, by decide +kernel⟩
theorem d_law_shared (T : Txt K mg) : Def P w K mg base "_law_shared" 1 ["_law_one", "_law_two"] (spShared K) := by
  refine Def.of T.g_law_shared T.f_law_shared sc_law_shared (fun vs H Q E h => ?_) (fun _ _ _ _ _ _ us hl => match us, hl with | [_, _], _ => rfl) (fun f cdv A outer s H vs Q E hr h => ?_)
  · obtain ⟨_, _, _, _, rfl, _⟩ := h
    rfl
  obtain ⟨v1, v2, rs, us, rfl, hv1, hv2, k⟩ := h
  obtain ⟨a, xs, rfl, ha, hd, hxl⟩ := dT3_of hv1
  obtain ⟨b, ys, rfl, hb, hd2, hyl⟩ := dT3_of hv2
  have nd := sc_law_shared.nd
  refine ⟨_, pss_cons (ps_set (i := 2) nd rfl (Or.inl rfl) pe_non)
    (pss_cons (ps_for PassesOwn.never rfl (pi_list (pv 0)) (pg_name (i := 3) nd rfl (Or.inl rfl))
      (pss_one (ps_for PassesOwn.never rfl (pi_list (pv 1)) (pg_name (i := 4) nd rfl (Or.inl rfl))
        (pss_cons (ps_set (i := 5) nd rfl (Or.inl rfl) (pe_callB (call_max2 rfl) (by rfl) T.n_max (by decide +kernel) (pa_cons (pe_ix ix_tup (pv 3) pe_int (fun _ _ => rfl)) (pa_cons (pe_ix ix_tup (pv 4) pe_int (fun _ _ => rfl)) pa_nil))))
        (pss_one (ps_if (PW.pt (pw_and (pt_cmpR op_eq (pe_ix ix_tup (pv 3) pe_int (fun _ _ => rfl)) (pe_ix ix_tup (pv 4) pe_int (fun _ _ => rfl)) (nomark _))
            (pw_and (pt_cmpR op_ne (pe_ix ix_tup (pv 3) pe_int (fun _ _ => rfl)) pe_str (nomark _))
            (pw_and1 (pt_cmpR op_lt (pv 5) (pe_callB (call_min2 rfl) (by rfl) T.n_min (by decide +kernel) (pa_cons (pe_ix ix_tup (pv 3) pe_int (fun _ _ => rfl)) (pa_cons (pe_ix ix_tup (pv 4) pe_int (fun _ _ => rfl)) pa_nil))) (nomark _))))))
          (pss_one (ps_if (PW.pt (pw_or (pt_cmpR op_isN (pv 2) pe_non (nomark _)) (pw_or1 (pt_cmpR op_lt (pv 5) (pe_ix ix_tup (pv 2) pe_int (fun _ _ => rfl)) (nomark _)))))
            (pss_one (ps_set (i := 2) nd rfl (Or.inl rfl) (pe_tup (pa_cons (pv 5) (pa_cons (pe_ix ix_tup (pv 3) pe_int (fun _ _ => rfl)) pa_nil))))) pss_nil)) pss_nil))))))
    (pss_one (ps_ret (pv 2)))), ?_⟩
  refine ⟨_, rfl, a, rfl, ⟨_, ha⟩, for_list (K := K) (a := a) (xs := xs) (fun i σ H' => ∃ (v : V) (o : Option Int) (b3 b4 b5 : Option V), σ = [some (.ref a), some (.ref b), some v, b3, b4, b5] ∧ Same H H' ∧ FoundV H' v o ∧ Best (Seen rs us i 0) o)
    ⟨.non, none, _, _, _, rfl, Same.refl H, rfl, fun m => seen_00⟩ (fun i σ H' _ ⟨_, _, _, _, _, _, e, _⟩ => e.seq ha) ?_ ?_⟩
  · rintro i y σ H1 hi ⟨v, o, b3, b4, b5, rfl, e0, ev, eb⟩
    obtain ⟨t, ra, rfl, hra, ht⟩ := dT3_get hd hi
    have hil : i < rs.length := (List.getElem?_eq_some_iff.mp hra).1
    refine ⟨_, rfl, b, rfl, ⟨_, e0.seq hb⟩, for_list (K := K) (a := b) (xs := ys) (fun j σ H' => ∃ (v : V) (o : Option Int) (b4 b5 : Option V), σ = [some (.ref a), some (.ref b), some v, some (.ref t), b4, b5] ∧ Same H H' ∧ FoundV H' v o ∧ Best (Seen rs us i j) o)
      ⟨v, o, _, _, rfl, e0, ev, eb⟩ (fun i σ H' _ ⟨_, _, _, _, _, e, _⟩ => e.seq hb) ?_ ?_⟩
    · rintro j z σ H2 hj ⟨v, o, b4, b5, rfl, e1, ev, eb⟩
      obtain ⟨u, rb, rfl, hrb, hu⟩ := dT3_get hd2 hj
      have ht2 := sqT_same e1 ht
      have hu2 := sqT_same e1 hu
      have step := fun m => seen_step (m := m) hra hrb
      refine ⟨_, rfl, t, _, _, _, rfl, rfl, ht2, at_of (j := 1) rfl rfl, _, rfl, u, _, _, _, rfl, rfl, hu2, at_of (j := 1) rfl rfl, _, _, rfl, ?_⟩
      have em : (if rb.2.1 > ra.2.1 then rb.2.1 else ra.2.1) = max ra.2.1 rb.2.1 := by split <;> omega
      have en : (if rb.2.2 < ra.2.2 then rb.2.2 else ra.2.2) = min ra.2.2 rb.2.2 := by split <;> omega
      rw [em]
      have hno : ¬ (ra.1 = rb.1 ∧ ra.1 ≠ HAL ∧ max ra.2.1 rb.2.1 < min ra.2.2 rb.2.2) → ∀ m, ¬ Sh ra rb m := fun hn m ⟨h1, h2, h3, h4⟩ => hn ⟨h1, h2, by omega⟩
      refine ⟨_, rfl, t, _, _, _, rfl, rfl, ht2, at_of (j := 0) rfl rfl, _, rfl, u, _, _, _, rfl, rfl, hu2, at_of (j := 0) rfl rfl, rfl, _, rfl, iteD2 (fun hc1 => ?_) (fun hc1 => ?_)⟩
      · have h1 : ra.1 = rb.1 := by injection hc1
        refine ⟨_, rfl, t, _, _, _, rfl, rfl, ht2, at_of (j := 0) rfl rfl, rfl, _, rfl, iteN2 (fun hc2 => ?_) (fun hc2 => ?_)⟩
        · have h2 : ra.1 ≠ HAL := fun e => hc2 (by rw [e])
          refine ⟨_, rfl, _, rfl, t, _, _, _, rfl, rfl, ht2, at_of (j := 2) rfl rfl, _, rfl, u, _, _, _, rfl, rfl, hu2, at_of (j := 2) rfl rfl, _, _, rfl, _, _, rfl, rfl, _, rfl, ?_⟩
          rw [en]
          refine iteD2 (fun hc3 => ?_) (fun hc3 => ?_)
          · have hB : Sh ra rb (max ra.2.1 rb.2.1) := ⟨h1, h2, rfl, hc3⟩
            have hl : ∀ m, Sh ra rb m → max ra.2.1 rb.2.1 ≤ m := fun m h => by rw [h.2.2.1]; exact Int.le_refl _
            cases o with
            | none =>
              have ev' : v = .non := ev
              subst ev'
              refine ⟨_, rfl, rfl, _, rfl, iteDT rfl ?_⟩
              refine ⟨_, rfl, _, rfl, t, _, _, _, rfl, rfl, ht2, at_of (j := 0) rfl rfl, by show 2 ≤ sizeLine; decide, fun n hn => ?_⟩
              exact ⟨_, some (max ra.2.1 rb.2.1), _, _, rfl, e1.to hn, ⟨n, _, rfl, upd_same⟩, eb.new step hB hl (fun m e => by cases e)⟩
            | some m =>
              obtain ⟨t', r', rfl, hv⟩ := ev
              refine ⟨_, rfl, rfl, _, rfl, iteDF (by intro e; cases e) ⟨_, rfl, _, rfl, t', _, _, _, rfl, rfl, SqT.of hv, at_of (j := 0) rfl rfl, _, _, rfl, rfl, _, rfl, iteD2 (fun hc4 => ?_) (fun hc4 => ?_)⟩⟩
              · refine ⟨_, rfl, _, rfl, t, _, _, _, rfl, rfl, ht2, at_of (j := 0) rfl rfl, by show 2 ≤ sizeLine; decide, fun n hn => ?_⟩
                exact ⟨_, some (max ra.2.1 rb.2.1), _, _, rfl, e1.to hn, ⟨n, _, rfl, upd_same⟩, eb.new step hB hl (fun m' e => by cases e; exact hc4)⟩
              · exact ⟨_, some m, _, _, rfl, e1, ⟨t', r', rfl, hv⟩, eb.old step hl hc4⟩
          · exact ⟨v, o, _, _, rfl, e1, ev, eb.no step (hno fun ⟨_, _, h⟩ => hc3 h)⟩
        · have h2 : ra.1 = HAL := by injection hc2
          exact iteF ⟨v, o, _, _, rfl, e1, ev, eb.no step (hno fun ⟨_, h, _⟩ => h h2)⟩
      · exact iteF ⟨v, o, _, _, rfl, e1, ev, eb.no step (hno fun ⟨h, _⟩ => hc1 (by rw [h]))⟩
    · rintro σ H2 ⟨v, o, b4, b5, rfl, e1, ev, eb⟩
      refine ⟨v, o, _, _, _, rfl, e1, ev, ?_⟩
      rw [hyl] at eb
      exact eb.same fun m => seen_row hil
  · rintro σ H2 ⟨v, o, b3, b4, b5, rfl, e1, ev, eb⟩
    rw [hxl] at eb
    exact ⟨_, rfl, k v o _ e1 ev (eb.same fun m => seen_all.symm)⟩
end
end NRW
/-! _law_meeting_moment, _law_within. -/
namespace NRW
open PySem PySem.Spec PyProof.Rows L2
abbrev dWalks (ws : List (List T3)) : PyData := .list (ws.map dT3)
theorem dWalks_get {K : PySem.W.Frag} {H : Hp} {xs : List V} {ws : List (List T3)} {i : Nat} {r : List T3} (h : DpAll K H xs (ws.map dT3)) (hi : ws[i]? = some r) : ∃ x, xs[i]? = some x ∧ Dp K H x (dT3 r) :=
  h.get (by rw [List.getElem?_map, hi]; rfl)
/-- two walks of ws, p ahead of q -/
def MeetW (ws : List (List T3)) (m : Int) : Prop := ∃ (p q : Nat) (rp rq : List T3), p < q ∧ ws[p]? = some rp ∧ ws[q]? = some rq ∧ ShW rp rq m
def Seen2 (ws : List (List T3)) (k n : Nat) (m : Int) : Prop := ∃ (p q : Nat) (rp rq : List T3), ws[p]? = some rp ∧ ws[q]? = some rq ∧ ShW rp rq m ∧ ((p < q ∧ q < k) ∨ (q = k ∧ p < n))
theorem seen2_00 {ws : List (List T3)} {m : Int} : ¬ Seen2 ws 0 0 m := by
  rintro ⟨p, q, _, _, _, _, _, h⟩
  omega
theorem seen2_row {ws : List (List T3)} {k : Nat} {m : Int} : Seen2 ws (k + 1) 0 m ↔ Seen2 ws k k m := by
  constructor
  · rintro ⟨p, q, rp, rq, h1, h2, h3, h⟩
    exact ⟨p, q, rp, rq, h1, h2, h3, by omega⟩
  · rintro ⟨p, q, rp, rq, h1, h2, h3, h⟩
    exact ⟨p, q, rp, rq, h1, h2, h3, by omega⟩
theorem seen2_step {ws : List (List T3)} {k n : Nat} {rp rq : List T3} {m : Int} (h1 : ws[n]? = some rp) (h2 : ws[k]? = some rq) : Seen2 ws k (n + 1) m ↔ Seen2 ws k n m ∨ ShW rp rq m := by
  constructor
  · rintro ⟨p, q, rp', rq', a1, a2, a3, h⟩
    by_cases e : q = k ∧ p = n
    · obtain ⟨rfl, rfl⟩ := e
      rw [h1] at a1; rw [h2] at a2
      cases a1; cases a2
      exact .inr a3
    · exact .inl ⟨p, q, rp', rq', a1, a2, a3, by omega⟩
  · rintro (⟨p, q, rp', rq', a1, a2, a3, h⟩ | h)
    · exact ⟨p, q, rp', rq', a1, a2, a3, by omega⟩
    · exact ⟨n, k, rp, rq, h1, h2, h, by omega⟩
theorem seen2_all {ws : List (List T3)} {m : Int} : Seen2 ws ws.length 0 m ↔ MeetW ws m := by
  constructor
  · rintro ⟨p, q, rp, rq, a1, a2, a3, h⟩
    exact ⟨p, q, rp, rq, by omega, a1, a2, a3⟩
  · rintro ⟨p, q, rp, rq, h, a1, a2, a3⟩
    exact ⟨p, q, rp, rq, a1, a2, a3, .inl ⟨h, (List.getElem?_eq_some_iff.mp a2).1⟩⟩
def optV : Option Int → V
  | none => .non
  | some m => .int m
def spMeet (K : PySem.W.Frag) : Sp := fun vs H Q _ => ∃ (v : V) (ws : List (List T3)), vs = [v] ∧ Dp K H v (dWalks ws) ∧ ws.length ≤ 100 ∧ ∀ o H', Same H H' → Best (MeetW ws) o → Q (optV o) H'
def Within (rs : List T3) (r : Str) (m : Int) : Prop := ∃ a ∈ rs, a.1 = r ∧ a.2.1 ≤ m ∧ m < a.2.2
def spWithin (K : PySem.W.Frag) : Sp := fun vs H Q _ => ∃ (v : V) (rs : List T3) (r : Str) (m : Int), vs = [v, .str r, .int m] ∧ Dp K H v (dT3 rs) ∧ ∀ b H', Same H H' → (b = true ↔ Within rs r m) → Q (.bl b) H'
section
variable {P : Program} {w : World} {K : PySem.W.Frag} {mg : Str → Option Value} {base : Heap}
theorem sc_law_meeting_moment : FnScope ["_law_walks", "_law_found", "_law_k", "_law_n", "_law_met"] ["_law_walks"] (defScope s_law_meeting_moment) := ⟨rfl, rfl, rfl, by decide +kernel, rfl, by decide +kernel, by decide +kernel⟩
theorem d_law_meeting_moment (T : Txt K mg) : Def P w K mg base "_law_meeting_moment" 2 ["_law_walks"] (spMeet K) := by
  have DS : Def P w K mg base "_law_shared" 1 ["_law_one", "_law_two"] (spShared K) := d_law_shared T
  refine Def.of T.g_law_meeting_moment T.f_law_meeting_moment sc_law_meeting_moment (fun vs H Q E h => ?_) (fun _ _ _ _ _ _ us hl => match us, hl with | [_], _ => rfl) (fun f cdv A outer s H vs Q E hr h => ?_)
  · obtain ⟨_, _, rfl, _⟩ := h
    rfl
  obtain ⟨v1, ws, rfl, hv1, h100, k⟩ := h
  obtain ⟨a, xs, rfl, ha, hd⟩ := hv1.list
  have hxl : xs.length = ws.length := by rw [hd.length, List.length_map]
  have nd := sc_law_meeting_moment.nd
  refine ⟨_, pss_cons (ps_set (i := 1) nd rfl (Or.inl rfl) pe_non)
    (pss_cons (ps_for PassesOwn.never rfl (pi_range1 rfl T.n_range (pa_cons (pe_callB call_len_seq (by rfl) T.n_len PySem.boot_len (pa_cons (pv 0) pa_nil)) pa_nil)) (pg_name (i := 2) nd rfl (Or.inl rfl))
      (pss_one (ps_for PassesOwn.never rfl (pi_range1 rfl T.n_range (pa_cons (pv 2) pa_nil)) (pg_name (i := 3) nd rfl (Or.inl rfl))
        (pss_cons (ps_set (i := 4) nd rfl (Or.inl rfl) (pe_def DS hr (by rfl) (pa_cons (pe_ix ix_list (pv 0) (pv 3) (fun _ _ => rfl)) (pa_cons (pe_ix ix_list (pv 0) (pv 2) (fun _ _ => rfl)) pa_nil))))
        (pss_one (ps_if (PW.pt (pw_and (pt_cmpR op_notN (pv 4) pe_non (nomark _)) (pw_and1 (PW.pt (pw_or (pt_cmpR op_isN (pv 1) pe_non (nomark _)) (pw_or1 (pt_cmpR op_lt (pe_ix ix_tup (pv 4) pe_int (fun _ _ => rfl)) (pv 1) (nomark _))))))))
          (pss_one (ps_set (i := 1) nd rfl (Or.inl rfl) (pe_ix ix_tup (pv 4) pe_int (fun _ _ => rfl)))) pss_nil))))))
    (pss_one (ps_ret (pv 1)))), ?_⟩
  refine ⟨_, rfl, a, xs, rfl, .inl ha, _, rfl, by omega, by omega, for_range (lo := 0) (n := xs.length) (fun i σ H' => ∃ (o : Option Int) (b2 b3 b4 : Option V), σ = [some (.ref a), some (optV o), b2, b3, b4] ∧ Same H H' ∧ Best (Seen2 ws i 0) o)
    ⟨none, _, _, _, rfl, Same.refl H, fun m => seen2_00⟩ ?_ ?_⟩
  · rintro i σ H1 hi ⟨o, b2, b3, b4, rfl, e0, eb⟩
    obtain ⟨rq, hrq⟩ : ∃ r, ws[i]? = some r := ⟨_, List.getElem?_eq_getElem (by omega)⟩
    obtain ⟨yq, hyq, hdq⟩ := dWalks_get hd hrq
    rw [Int.zero_add]
    refine ⟨_, rfl, _, rfl, by omega, by omega, for_range (lo := 0) (n := i) (fun j σ H' => ∃ (o : Option Int) (b3 b4 : Option V), σ = [some (.ref a), some (optV o), some (.int (i : Int)), b3, b4] ∧ Same H H' ∧ Best (Seen2 ws i j) o) ⟨o, _, _, rfl, e0, eb⟩ ?_ ?_⟩
    · rintro j σ H2 hj ⟨o, b3, b4, rfl, e1, eb⟩
      obtain ⟨rp, hrp⟩ : ∃ r, ws[j]? = some r := ⟨_, List.getElem?_eq_getElem (by omega)⟩
      obtain ⟨yp, hyp, hdp⟩ := dWalks_get hd hrp
      rw [Int.zero_add]
      refine ⟨_, rfl, _, rfl, a, xs, _, _, rfl, rfl, e1.seq ha, atI_nat hyp, _, rfl, _, rfl, a, xs, _, _, rfl, rfl, e1.seq ha, atI_nat hyq, yp, yq, rp, rq, rfl, hdp.same e1, hdq.same e1, fun v o' H3 s3 ev eb' => ?_⟩
      have step := fun m => seen2_step (m := m) hrp hrq
      have e3 := e1.trans s3
      cases o' with
      | none =>
        have ev' : v = .non := ev
        subst ev'
        refine ⟨_, rfl, rfl, _, rfl, iteNF rfl (iteF ⟨o, _, _, rfl, e3, eb.no step eb'⟩)⟩
      | some m0 =>
        obtain ⟨t, r, rfl, hv⟩ := ev
        refine ⟨_, rfl, rfl, _, rfl, iteNT (by intro e; cases e) ?_⟩
        cases o with
        | none =>
          refine ⟨_, rfl, rfl, _, rfl, iteDT rfl ⟨_, rfl, t, _, _, _, rfl, rfl, SqT.of hv, at_of (j := 0) rfl rfl, some m0, _, _, rfl, e3, eb.new step eb'.1 eb'.2 (fun m e => by cases e)⟩⟩
        | some m1 =>
          refine ⟨_, rfl, rfl, _, rfl, iteDF (by intro e; cases e) ⟨_, rfl, t, _, _, _, rfl, rfl, SqT.of hv, at_of (j := 0) rfl rfl, _, rfl, _, _, rfl, rfl, _, rfl, iteD2 (fun hc => ?_) (fun hc => ?_)⟩⟩
          · exact ⟨_, rfl, t, _, _, _, rfl, rfl, SqT.of hv, at_of (j := 0) rfl rfl, some m0, _, _, rfl, e3, eb.new step eb'.1 eb'.2 (fun m e => by cases e; exact hc)⟩
          · exact ⟨some m1, _, _, rfl, e3, eb.old step eb'.2 hc⟩
    · rintro σ H2 ⟨o, b3, b4, rfl, e1, eb⟩
      exact ⟨o, _, _, _, rfl, e1, eb.same fun m => seen2_row⟩
  · rintro σ H2 ⟨o, b2, b3, b4, rfl, e1, eb⟩
    rw [hxl] at eb
    exact ⟨_, rfl, k o _ e1 (eb.same fun m => seen2_all.symm)⟩
theorem sc_law_within : FnScope ["_law_rows", "_law_room", "_law_moment", "_law_row"] ["_law_rows", "_law_room", "_law_moment"] (defScope s_law_within) := ⟨rfl, rfl, rfl, by decide +kernel, rfl, by decide +kernel, by decide +kernel⟩
theorem d_law_within (T : Txt K mg) : Def P w K mg base "_law_within" 1 ["_law_rows", "_law_room", "_law_moment"] (spWithin K) := by
  refine Def.of T.g_law_within T.f_law_within sc_law_within (fun vs H Q E h => ?_) (fun _ _ _ _ _ _ us hl => match us, hl with | [_, _, _], _ => rfl) (fun f cdv A outer s H vs Q E hr h => ?_)
  · obtain ⟨_, _, _, _, rfl, _⟩ := h
    rfl
  obtain ⟨v1, rs, r, m, rfl, hv1, k⟩ := h
  obtain ⟨a, xs, rfl, ha, hd, hxl⟩ := dT3_of hv1
  have nd := sc_law_within.nd
  refine ⟨_, pss_cons (ps_for PassesOwn.never rfl (pi_list (pv 0)) (pg_name (i := 3) nd rfl (Or.inl rfl))
      (pss_one (ps_if (PW.pt (pw_and (pt_cmpR op_eq (pe_ix ix_tup (pv 3) pe_int (fun _ _ => rfl)) (pv 1) (nomark _)) (pw_and1 (pt_chain op_le op_lt (pe_ix ix_tup (pv 3) pe_int (fun _ _ => rfl)) (pv 2) (pe_ix ix_tup (pv 3) pe_int (fun _ _ => rfl)))))) (pss_one (ps_ret pe_bl)) pss_nil)))
    (pss_one (ps_ret pe_bl)), ?_⟩
  refine ⟨_, rfl, a, rfl, ⟨_, ha⟩, for_list (K := K) (a := a) (xs := xs) (fun i σ H' => ∃ (b3 : Option V), σ = [some (.ref a), some (.str r), some (.int m), b3] ∧ Same H H' ∧ ∀ j c, j < i → rs[j]? = some c → ¬ (c.1 = r ∧ c.2.1 ≤ m ∧ m < c.2.2))
    ⟨_, rfl, Same.refl H, fun j c h => by omega⟩ (fun i σ H' _ ⟨_, _, e, _⟩ => e.seq ha) ?_ ?_⟩
  · rintro i y σ H1 hi ⟨b3, rfl, e0, en⟩
    obtain ⟨t, c, rfl, hc, ht⟩ := dT3_get hd hi
    have ht1 := sqT_same e0 ht
    have next : ¬ (c.1 = r ∧ c.2.1 ≤ m ∧ m < c.2.2) → ∀ j c', j < i + 1 → rs[j]? = some c' → ¬ (c'.1 = r ∧ c'.2.1 ≤ m ∧ m < c'.2.2) := fun hn j c' hj hc' => by
      rcases Nat.lt_or_ge j i with x | x
      · exact en j c' x hc'
      · have : j = i := by omega
        subst this
        rw [hc] at hc'; cases hc'
        exact hn
    refine ⟨_, rfl, t, _, _, _, rfl, rfl, ht1, at_of (j := 0) rfl rfl, _, rfl, rfl, _, rfl, iteD2 (fun h1 => ?_) (fun h1 => ?_)⟩
    · have e1 : c.1 = r := by injection h1
      refine ⟨_, rfl, t, _, _, _, rfl, rfl, ht1, at_of (j := 1) rfl rfl, _, rfl, _, _, rfl, rfl, _, rfl, iteD2 (fun h2 => ?_) (fun h2 => ?_)⟩
      · refine ⟨_, rfl, t, _, _, _, rfl, rfl, ht1, at_of (j := 2) rfl rfl, _, _, rfl, rfl, _, rfl, iteD2 (fun h3 => ?_) (fun h3 => ?_)⟩
        · exact k true _ e0 ⟨fun _ => ⟨c, List.mem_of_getElem? hc, e1, h2, h3⟩, fun _ => rfl⟩
        · exact ⟨_, rfl, e0, next fun ⟨_, _, h⟩ => h3 h⟩
      · exact ⟨_, rfl, iteF ⟨_, rfl, e0, next fun ⟨_, h, _⟩ => h2 h⟩⟩
    · exact iteF ⟨_, rfl, e0, next fun ⟨h, _⟩ => h1 (by rw [h])⟩
  · rintro σ H1 ⟨b3, rfl, e0, en⟩
    refine k false _ e0 ⟨fun h => (Bool.false_ne_true h).elim, fun ⟨c, hc, h⟩ => ?_⟩
    obtain ⟨j, hj⟩ := NR.mem_ix hc
    have : j < xs.length := by rw [hxl]; exact (List.getElem?_eq_some_iff.mp hj).1
    exact (en j c this hj h).elim
end
end NRW
/-! _law_is_rows, _law_is_run, _law_are_walks. -/
namespace NRW
open PySem PySem.Spec PyProof.Rows L2
section
variable {K : PySem.W.Frag} {H : Hp}
theorem ty_list {a : Addr} {xs : List V} (h : SqL K H a xs) : TyX K H (.ref a) (.type "list") := by
  rcases h with (h | ⟨o, h⟩) | ⟨o, its, n, h1, h2, _⟩
  · exact .base (.lst h)
  · exact .base (.frz h)
  · exact .kList h1 h2
theorem ty_tup {a : Addr} {xs : List V} (h : SqT K H a xs) : TyX K H (.ref a) (.type "tuple") := by
  rcases h with (h | ⟨o, h⟩) | ⟨o, its, n, h1, h2, _⟩
  · exact .base (.tup h)
  · exact .fTuple h
  · exact .kTuple h1 h2
end
/-- an int or a text -/
inductive Sc : PyData → Prop
  | int (i : Int) : Sc (.int i)
  | str (x : Str) : Sc (.str x)
abbrev dTups (ds : List (List PyData)) : PyData := .list (ds.map .tuple)
def ScRows (ds : List (List PyData)) : Prop := ∀ r ∈ ds, ∀ d ∈ r, Sc d
theorem dTups_get {K : PySem.W.Frag} {H : Hp} {xs : List V} {ds : List (List PyData)} {i : Nat} {r : List PyData} (h : DpAll K H xs (ds.map .tuple)) (hi : ds[i]? = some r) : ∃ t ys, xs[i]? = some (.ref t) ∧ SqT K H t ys ∧ DpAll K H ys r := by
  obtain ⟨x, h1, h2⟩ := h.get (d := .tuple r) (by rw [List.getElem?_map, hi]; rfl)
  obtain ⟨t, ys, rfl, h3, h4⟩ := h2.tuple
  exact ⟨t, ys, h1, h3, h4⟩
def spIsRows (K : PySem.W.Frag) : Sp := fun vs H Q _ => ∃ (v1 v2 : V) (ds : List (List PyData)), vs = [v1, v2] ∧ Dp K H v1 (dTups ds) ∧ Dp K H v2 (dTups ds) ∧ ScRows ds ∧ ds.length ≤ 100 ∧ (∀ r ∈ ds, r.length ≤ 100) ∧ ∀ H', Same H H' → Q (.bl true) H'
section
variable {P : Program} {w : World} {K : PySem.W.Frag} {mg : Str → Option Value} {base : Heap}
theorem sc_law_is_rows : FnScope ["_law_value", "_law_due", "_law_k", "_law_row", "_law_n"] ["_law_value", "_law_due"] (defScope s_law_is_rows) := ⟨rfl, rfl, rfl, by decide +kernel, rfl, by decide +kernel, by decide +kernel⟩
theorem d_law_is_rows (T : Txt K mg) : Def P w K mg base "_law_is_rows" 2 ["_law_value", "_law_due"] (spIsRows K) := by
  have DI : Def P w K mg base "_law_is_int" 1 ["_law_value"] spIsInt := d_law_is_int T
  refine Def.of T.g_law_is_rows T.f_law_is_rows sc_law_is_rows (fun vs H Q E h => ?_) (fun _ _ _ _ _ _ us hl => match us, hl with | [_, _], _ => rfl) (fun f cdv A outer s H vs Q E hr h => ?_)
  · obtain ⟨_, _, _, rfl, _⟩ := h
    rfl
  obtain ⟨v1, v2, ds, rfl, hv1, hv2, hsc, h100, hr100, k⟩ := h
  obtain ⟨a, xs, rfl, ha, hd⟩ := hv1.list
  obtain ⟨b, ys, rfl, hb, he⟩ := hv2.list
  have hxl : xs.length = ds.length := by rw [hd.length, List.length_map]
  have hyl : ys.length = ds.length := by rw [he.length, List.length_map]
  have nd := sc_law_is_rows.nd
  refine ⟨_, pss_cons (ps_if (PW.pt (pw_or (pt_not (pt_val (pe_callB call_isi (by rfl) T.n_isinstance (by decide +kernel) (pa_cons (pv 0) (pa_cons (pe_bltn (v := .ty "list") (by rfl) T.n_list (by decide +kernel) rfl) pa_nil)))))
      (pw_or1 (pt_cmpR op_ne (pe_callB call_len_seq (by rfl) T.n_len PySem.boot_len (pa_cons (pv 0) pa_nil)) (pe_callB call_len_seq (by rfl) T.n_len PySem.boot_len (pa_cons (pv 1) pa_nil)) (nomark _))))) (pss_one (ps_ret pe_bl)) pss_nil)
    (pss_cons (ps_for PassesOwn.never rfl (pi_range1 rfl T.n_range (pa_cons (pe_callB call_len_seq (by rfl) T.n_len PySem.boot_len (pa_cons (pv 1) pa_nil)) pa_nil)) (pg_name (i := 2) nd rfl (Or.inl rfl))
      (pss_cons (ps_set (i := 3) nd rfl (Or.inl rfl) (pe_ix ix_list (pv 0) (pv 2) (fun _ _ => rfl)))
      (pss_cons (ps_if (PW.pt (pw_or (pt_not (pt_val (pe_callB call_isi (by rfl) T.n_isinstance (by decide +kernel) (pa_cons (pv 3) (pa_cons (pe_bltn (v := .ty "tuple") (by rfl) T.n_tuple (by decide +kernel) rfl) pa_nil)))))
        (pw_or1 (pt_cmpR op_ne (pe_callB call_len_seq (by rfl) T.n_len PySem.boot_len (pa_cons (pv 3) pa_nil)) (pe_callB call_len_seq (by rfl) T.n_len PySem.boot_len (pa_cons (pe_ix ix_list (pv 1) (pv 2) (fun _ _ => rfl)) pa_nil)) (nomark _))))) (pss_one (ps_ret pe_bl)) pss_nil)
      (pss_one (ps_for PassesOwn.never rfl (pi_range1 rfl T.n_range (pa_cons (pe_callB call_len_seq (by rfl) T.n_len PySem.boot_len (pa_cons (pv 3) pa_nil)) pa_nil)) (pg_name (i := 4) nd rfl (Or.inl rfl))
        (pss_one (ps_if (pt_val (pe_callB call_isi (by rfl) T.n_isinstance (by decide +kernel) (pa_cons (pe_ix ix_tup (pe_ix ix_list (pv 1) (pv 2) (fun _ _ => rfl)) (pv 4) (fun _ _ => rfl)) (pa_cons (pe_bltn (v := .ty "str") (by rfl) T.n_str (by decide +kernel) rfl) pa_nil))))
          (pss_one (ps_if (PW.pt (pw_or (pt_not (pt_val (pe_callB call_isi (by rfl) T.n_isinstance (by decide +kernel) (pa_cons (pe_ix ix_tup (pv 3) (pv 4) (fun _ _ => rfl)) (pa_cons (pe_bltn (v := .ty "str") (by rfl) T.n_str (by decide +kernel) rfl) pa_nil)))))
            (pw_or1 (pt_cmpR op_ne (pe_ix ix_tup (pv 3) (pv 4) (fun _ _ => rfl)) (pe_ix ix_tup (pe_ix ix_list (pv 1) (pv 2) (fun _ _ => rfl)) (pv 4) (fun _ _ => rfl)) (nomark _))))) (pss_one (ps_ret pe_bl)) pss_nil))
          (pss_one (ps_if (PW.pt (pw_or (pt_not (pt_val (pe_def DI hr (by rfl) (pa_cons (pe_ix ix_tup (pv 3) (pv 4) (fun _ _ => rfl)) pa_nil))))
            (pw_or1 (pt_cmpR op_ne (pe_ix ix_tup (pv 3) (pv 4) (fun _ _ => rfl)) (pe_ix ix_tup (pe_ix ix_list (pv 1) (pv 2) (fun _ _ => rfl)) (pv 4) (fun _ _ => rfl)) (nomark _))))) (pss_one (ps_ret pe_bl)) pss_nil)))))))))
    (pss_one (ps_ret pe_bl))), ?_⟩
  refine ⟨_, rfl, _, _, .type "list", .type "list", true, rfl, .ty _, ty_list ha, kit_ty (by decide +kernel), true, rfl, ?_⟩
  refine iteF ⟨_, rfl, a, xs, rfl, .inl ha, _, rfl, b, ys, rfl, .inl hb, rfl, _, rfl, iteNF (by rw [hxl, hyl]) ?_⟩
  refine ⟨_, rfl, b, ys, rfl, .inl hb, _, rfl, by omega, by omega, for_range (lo := 0) (n := ys.length) (fun i σ H' => ∃ (b2 b3 b4 : Option V), σ = [some (.ref a), some (.ref b), b2, b3, b4] ∧ Same H H')
    ⟨_, _, _, rfl, Same.refl H⟩ ?_ ?_⟩
  · rintro i σ H1 hi ⟨b2, b3, b4, rfl, e0⟩
    obtain ⟨r, hrr⟩ : ∃ r, ds[i]? = some r := ⟨_, List.getElem?_eq_getElem (by omega)⟩
    have hmem := List.mem_of_getElem? hrr
    obtain ⟨t, zs, hx, ht, hz⟩ := dTups_get hd hrr
    obtain ⟨u, qs, hy, hu, hq⟩ := dTups_get he hrr
    have hzl : zs.length = r.length := hz.length
    have hql : qs.length = r.length := hq.length
    have hrl := hr100 r hmem
    rw [Int.zero_add]
    refine ⟨_, rfl, _, rfl, a, xs, _, _, rfl, rfl, e0.seq ha, atI_nat hx, ?_⟩
    refine ⟨_, rfl, _, _, .type "tuple", .type "tuple", true, rfl, .ty _, ty_tup (sqT_same e0 ht), kit_ty (by decide +kernel), true, rfl, ?_⟩
    refine iteF ⟨_, rfl, t, zs, rfl, .inr (sqT_same e0 ht), _, rfl, _, rfl, b, ys, _, _, rfl, rfl, e0.seq hb, atI_nat hy, u, qs, rfl, .inr (sqT_same e0 hu), rfl, _, rfl, iteNF (by rw [hzl, hql]) ?_⟩
    refine ⟨_, rfl, t, zs, rfl, .inr (sqT_same e0 ht), _, rfl, by omega, by omega, for_range (lo := 0) (n := zs.length) (fun j σ H' => ∃ (b4 : Option V), σ = [some (.ref a), some (.ref b), some (.int (i : Int)), some (.ref t), b4] ∧ Same H H')
      ⟨_, rfl, e0⟩ ?_ ?_⟩
    · rintro j σ H2 hj ⟨b4, rfl, e1⟩
      obtain ⟨d, hdd⟩ : ∃ d, r[j]? = some d := ⟨_, List.getElem?_eq_getElem (by omega)⟩
      obtain ⟨x, hxj, hxd⟩ := hz.get hdd
      obtain ⟨y, hyj, hyd⟩ := hq.get hdd
      have ht2 := sqT_same e1 ht
      have hu2 := sqT_same e1 hu
      rw [Int.zero_add]
      refine ⟨_, rfl, _, rfl, b, ys, _, _, rfl, rfl, e1.seq hb, atI_nat hy, _, rfl, u, qs, _, _, rfl, rfl, hu2, atI_nat hyj, ?_⟩
      cases hsc r hmem d (List.mem_of_getElem? hdd) with
      | int z =>
        obtain rfl := hxd.int'
        obtain rfl := hyd.int'
        refine ⟨_, _, .type "int", .type "str", false, rfl, .ty _, .base (.int _), kit_ty (by decide +kernel), false, rfl, iteF ?_⟩
        refine ⟨_, rfl, _, rfl, t, zs, _, _, rfl, rfl, ht2, atI_nat hxj, z, rfl, fun H3 s3 => ⟨_, rfl, ?_⟩⟩
        refine iteF ⟨_, rfl, _, rfl, t, zs, _, _, rfl, rfl, sqT_same s3 ht2, atI_nat hxj, _, rfl, _, rfl, b, ys, _, _, rfl, rfl, (e1.trans s3).seq hb, atI_nat hy, _, rfl, u, qs, _, _, rfl, rfl, sqT_same s3 hu2, atI_nat hyj, rfl, _, rfl, iteNF rfl ⟨_, rfl, e1.trans s3⟩⟩
      | str z =>
        obtain rfl := hxd.str'
        obtain rfl := hyd.str'
        refine ⟨_, _, .type "str", .type "str", true, rfl, .ty _, .base (.str _), kit_ty (by decide +kernel), true, rfl, iteT ?_⟩
        refine ⟨_, rfl, _, rfl, t, zs, _, _, rfl, rfl, ht2, atI_nat hxj, _, _, .type "str", .type "str", true, rfl, .ty _, .base (.str _), kit_ty (by decide +kernel), true, rfl, ?_⟩
        refine iteF ⟨_, rfl, _, rfl, t, zs, _, _, rfl, rfl, ht2, atI_nat hxj, _, rfl, _, rfl, b, ys, _, _, rfl, rfl, e1.seq hb, atI_nat hy, _, rfl, u, qs, _, _, rfl, rfl, hu2, atI_nat hyj, rfl, _, rfl, iteNF rfl ⟨_, rfl, e1⟩⟩
    · rintro σ H2 ⟨b4, rfl, e1⟩
      exact ⟨_, _, _, rfl, e1⟩
  · rintro σ H1 ⟨b2, b3, b4, rfl, e0⟩
    exact k _ e0
end
/-! ### a Run -/
def RunAt (K : PySem.W.Frag) (H : Hp) (x : Addr) (a b : V) : Prop := ∃ dx fs, H x = some (.ins (He.ga K "Run") dx fs) ∧ fs.lookup ("walks" : Str) = some a ∧ fs.lookup ("waits" : Str) = some b
theorem RunAt.same {K : PySem.W.Frag} {H H' : Hp} {x : Addr} {a b : V} (s : Same H H') (h : RunAt K H x a b) : RunAt K H' x a b := by
  obtain ⟨dx, fs, h1, h2, h3⟩ := h
  exact ⟨dx, fs, s _ _ h1, h2, h3⟩
/-- rows of the waiting house: (room, come, enter, leave) -/
abbrev RowS := NR.Row Str
def dRow (r : RowS) : List PyData := [.str r.room, .int r.come, .int r.enter, .int r.leave]
abbrev dRows (ws : List RowS) : PyData := dTups (ws.map dRow)
theorem isi_run {K : PySem.W.Frag} {mg : Str → Option Value} (T : Txt K mg) {H : Hp} {x dx : Addr} {fs : List (Str × V)} (h : H x = some (.ins (He.ga K "Run") dx fs)) : TyX K H (.ref x) (.ref (He.ga K "Run")) :=
  .base (.ins h T.c_Run.cl T.i_Run_c T.i_Run_g T.i_Run_t T.i_Run_m)
def spIsRun (K : PySem.W.Frag) : Sp := fun vs H Q _ => ∃ (x : Addr) (a b v2 v3 : V) (Rs : List (List (List PyData))), vs = [.ref x, v2, v3] ∧ RunAt K H x a b ∧ Dp K H a (.list (Rs.map dTups)) ∧ Dp K H b (dTups []) ∧ Dp K H v2 (.list (Rs.map dTups)) ∧ Dp K H v3 (dTups []) ∧
  (∀ ds ∈ Rs, ScRows ds ∧ ds.length ≤ 100 ∧ ∀ r ∈ ds, r.length ≤ 100) ∧ Rs.length ≤ 100 ∧ ∀ H', Same H H' → Q (.bl true) H'
section
variable {P : Program} {w : World} {K : PySem.W.Frag} {mg : Str → Option Value} {base : Heap}
theorem sc_law_is_run : FnScope ["_law_told", "_law_rows", "_law_waits", "_law_k"] ["_law_told", "_law_rows", "_law_waits"] (defScope s_law_is_run) := ⟨rfl, rfl, rfl, by decide +kernel, rfl, by decide +kernel, by decide +kernel⟩
theorem d_law_is_run (T : Txt K mg) : Def P w K mg base "_law_is_run" 3 ["_law_told", "_law_rows", "_law_waits"] (spIsRun K) := by
  have DR : Def P w K mg base "_law_is_rows" 2 ["_law_value", "_law_due"] (spIsRows K) := d_law_is_rows T
  refine Def.of T.g_law_is_run T.f_law_is_run sc_law_is_run (fun vs H Q E h => ?_) (fun _ _ _ _ _ _ us hl => match us, hl with | [_, _, _], _ => rfl) (fun f cdv A outer s H vs Q E hr h => ?_)
  · obtain ⟨_, _, _, _, _, _, rfl, _⟩ := h
    rfl
  obtain ⟨x, v1, vb, v2, v3, Rs, rfl, ⟨dx, fs, hx, hf1, hf2⟩, hv1, hvb, hv2, hv3, hok, h100, k⟩ := h
  obtain ⟨a, xs, rfl, ha, hd⟩ := hv1.list
  obtain ⟨b, ys, rfl, hb, he⟩ := hv2.list
  have hxl : xs.length = Rs.length := by rw [hd.length, List.length_map]
  have hyl : ys.length = Rs.length := by rw [he.length, List.length_map]
  have nd := sc_law_is_run.nd
  have c := T.c_Run
  refine ⟨_, pss_cons (ps_if (PW.pt (pw_or (pt_not (pt_val (pe_callB call_isi (by rfl) T.n_isinstance (by decide +kernel) (pa_cons (pv 0) (pa_cons (pe_gC c.mg_) pa_nil)))))
      (pw_or (pt_not (pt_val (pe_callB call_isi (by rfl) T.n_isinstance (by decide +kernel) (pa_cons (pe_fld (pv 0) rfl) (pa_cons (pe_bltn (v := .ty "list") (by rfl) T.n_list (by decide +kernel) rfl) pa_nil)))))
      (pw_or1 (pt_cmpR op_ne (pe_callB call_len_seq (by rfl) T.n_len PySem.boot_len (pa_cons (pe_fld (pv 0) rfl) pa_nil)) (pe_callB call_len_seq (by rfl) T.n_len PySem.boot_len (pa_cons (pv 1) pa_nil)) (nomark _)))))) (pss_one (ps_ret pe_bl)) pss_nil)
    (pss_cons (ps_for PassesOwn.never rfl (pi_range1 rfl T.n_range (pa_cons (pe_callB call_len_seq (by rfl) T.n_len PySem.boot_len (pa_cons (pv 1) pa_nil)) pa_nil)) (pg_name (i := 3) nd rfl (Or.inl rfl))
      (pss_one (ps_if (pt_not (pt_val (pe_def DR hr (by rfl) (pa_cons (pe_ix ix_list (pe_fld (pv 0) rfl) (pv 3) (fun _ _ => rfl)) (pa_cons (pe_ix ix_list (pv 1) (pv 3) (fun _ _ => rfl)) pa_nil))))) (pss_one (ps_ret pe_bl)) pss_nil)))
    (pss_one (ps_ret (pe_def DR hr (by rfl) (pa_cons (pe_fld (pv 0) rfl) (pa_cons (pv 2) pa_nil)))))), ?_⟩
  refine ⟨_, rfl, _, _, .ref (He.ga K "Run"), .ref (He.ga K "Run"), true, rfl, .own _, isi_run T hx, T.i_Run, true, rfl, ?_⟩
  refine iteF ⟨_, rfl, x, _, dx, fs, _, rfl, hx, c.cl, T.n_Run_walks, hf1, _, _, .type "list", .type "list", true, rfl, .ty _, ty_list ha, kit_ty (by decide +kernel), true, rfl, ?_⟩
  refine iteF ⟨_, rfl, x, _, dx, fs, _, rfl, hx, c.cl, T.n_Run_walks, hf1, a, xs, rfl, .inl ha, _, rfl, b, ys, rfl, .inl hb, rfl, _, rfl, iteNF (by rw [hxl, hyl]) ?_⟩
  refine ⟨_, rfl, b, ys, rfl, .inl hb, _, rfl, by omega, by omega, for_range (lo := 0) (n := ys.length) (fun i σ H' => ∃ (b3 : Option V), σ = [some (.ref x), some (.ref b), some v3, b3] ∧ Same H H')
    ⟨_, rfl, Same.refl H⟩ ?_ ?_⟩
  · rintro i σ H1 hi ⟨b3, rfl, e0⟩
    obtain ⟨ds, hds⟩ : ∃ r, Rs[i]? = some r := ⟨_, List.getElem?_eq_getElem (by omega)⟩
    obtain ⟨o1, o2, o3⟩ := hok ds (List.mem_of_getElem? hds)
    obtain ⟨y1, hy1, hz1⟩ := hd.get (d := dTups ds) (by rw [List.getElem?_map, hds]; rfl)
    obtain ⟨y2, hy2, hz2⟩ := he.get (d := dTups ds) (by rw [List.getElem?_map, hds]; rfl)
    rw [Int.zero_add]
    refine ⟨_, rfl, x, _, dx, fs, _, rfl, e0 _ _ hx, c.cl, T.n_Run_walks, hf1, _, rfl, a, xs, _, _, rfl, rfl, e0.seq ha, atI_nat hy1, _, rfl, _, rfl, b, ys, _, _, rfl, rfl, e0.seq hb, atI_nat hy2, y1, y2, ds, rfl, hz1.same e0, hz2.same e0, o1, o2, o3, fun H2 s2 => ⟨_, rfl, iteF ⟨_, rfl, e0.trans s2⟩⟩⟩
  · rintro σ H1 ⟨b3, rfl, e0⟩
    refine ⟨_, rfl, x, _, dx, fs, _, rfl, e0 _ _ hx, c.cl, T.n_Run_waits, hf2, _, rfl, vb, v3, [], rfl, hvb.same e0, hv3.same e0, fun r h => (nomatch h), Nat.zero_le _, fun r h => (nomatch h), fun H2 s2 => k _ (e0.trans s2)⟩
end
end NRW
/-! _law_are_walks. -/
namespace NRW
open PySem PySem.Spec PyProof.Rows L2
structure Plan where
  name : Str
  ss : List T3
  st : Int
  ls : List Int
def dPlan (p : Plan) : PyData := .tuple [.str p.name, dT3 p.ss, .int p.st, dInts p.ls]
abbrev dPlans (ps : List Plan) : PyData := .list (ps.map dPlan)
theorem dPlan_of {K : PySem.W.Frag} {H : Hp} {v : V} {p : Plan} (h : Dp K H v (dPlan p)) : ∃ t x y, v = .ref t ∧ SqT K H t [.str p.name, x, .int p.st, y] ∧ Dp K H x (dT3 p.ss) ∧ Dp K H y (dInts p.ls) := by
  obtain ⟨t, xs, rfl, h1, h2⟩ := h.tuple
  obtain ⟨a, r, rfl, ha, hr⟩ := h2.cons'
  obtain ⟨b, r, rfl, hb, hr⟩ := hr.cons'
  obtain ⟨c, r, rfl, hc, hr⟩ := hr.cons'
  obtain ⟨d, r, rfl, hd, hr⟩ := hr.cons'
  rw [hr.nil', ha.str', hc.int'] at h1
  exact ⟨t, b, d, rfl, h1, hb, hd⟩
theorem dPlans_get {K : PySem.W.Frag} {H : Hp} {xs : List V} {ps : List Plan} {i : Nat} {p : Plan} (h : DpAll K H xs (ps.map dPlan)) (hi : ps[i]? = some p) : ∃ t x y, xs[i]? = some (.ref t) ∧ SqT K H t [.str p.name, x, .int p.st, y] ∧ Dp K H x (dT3 p.ss) ∧ Dp K H y (dInts p.ls) := by
  obtain ⟨v, h1, h2⟩ := h.get (d := dPlan p) (by rw [List.getElem?_map, hi]; rfl)
  obtain ⟨t, x, y, rfl, h3⟩ := dPlan_of h2
  exact ⟨t, x, y, h1, h3⟩
def vRow (r : RowS) : List V := [.str r.room, .int r.come, .int r.enter, .int r.leave]
theorem dRow_of {K : PySem.W.Frag} {H : Hp} {ys : List V} {r : RowS} (h : DpAll K H ys (dRow r)) : ys = vRow r := by
  obtain ⟨a, s, rfl, ha, hr⟩ := h.cons'
  obtain ⟨b, s, rfl, hb, hr⟩ := hr.cons'
  obtain ⟨c, s, rfl, hc, hr⟩ := hr.cons'
  obtain ⟨d, s, rfl, hd, hr⟩ := hr.cons'
  rw [hr.nil', ha.str', hb.int', hc.int', hd.int']
  rfl
theorem dRow_mk {K : PySem.W.Frag} {H : Hp} (r : RowS) : DpAll K H (vRow r) (dRow r) := .cons (.str _) (.cons (.int _) (.cons (.int _) (.cons (.int _) .nil)))
theorem dRows_getV {K : PySem.W.Frag} {H : Hp} {xs : List V} {rs : List RowS} {i : Nat} {x : V} (h : DpAll K H xs ((rs.map dRow).map .tuple)) (hi : xs[i]? = some x) : ∃ t r, x = .ref t ∧ rs[i]? = some r ∧ SqT K H t (vRow r) := by
  obtain ⟨d, h1, h2⟩ := h.getV hi
  rw [List.map_map, List.getElem?_map] at h1
  cases e : rs[i]? with
  | none => rw [e] at h1; cases h1
  | some r =>
    rw [e] at h1
    cases h1
    obtain ⟨t, ys, rfl, h3, h4⟩ := h2.tuple
    rw [dRow_of h4] at h3
    exact ⟨t, r, rfl, rfl, h3⟩
def spAreWalks (K : PySem.W.Frag) : Sp := fun vs H Q _ => ∃ (v1 v2 : V) (R : List (List RowS)) (ps : List Plan), vs = [v1, v2] ∧ Dp K H v1 (.list (R.map dRows)) ∧ Dp K H v2 (dPlans ps) ∧ R.length = ps.length ∧ ps.length ≤ 100 ∧
  (∀ (i : Nat) rs p, R[i]? = some rs → ps[i]? = some p → rs.length = p.ss.length) ∧ ∀ H', Same H H' → Q (.bl true) H'
section
variable {P : Program} {w : World} {K : PySem.W.Frag} {mg : Str → Option Value} {base : Heap}
theorem sc_law_are_walks : FnScope ["_law_walks", "_law_plans", "_law_k", "_law_row"] ["_law_walks", "_law_plans"] (defScope s_law_are_walks) := ⟨rfl, rfl, rfl, by decide +kernel, rfl, by decide +kernel, by decide +kernel⟩
theorem d_law_are_walks (T : Txt K mg) : Def P w K mg base "_law_are_walks" 2 ["_law_walks", "_law_plans"] (spAreWalks K) := by
  have DI : Def P w K mg base "_law_is_int" 1 ["_law_value"] spIsInt := d_law_is_int T
  refine Def.of T.g_law_are_walks T.f_law_are_walks sc_law_are_walks (fun vs H Q E h => ?_) (fun _ _ _ _ _ _ us hl => match us, hl with | [_, _], _ => rfl) (fun f cdv A outer s H vs Q E hr h => ?_)
  · obtain ⟨_, _, _, _, rfl, _⟩ := h
    rfl
  obtain ⟨v1, v2, R, ps, rfl, hv1, hv2, hlen, h100, hl, k⟩ := h
  obtain ⟨a, xs, rfl, ha, hd⟩ := hv1.list
  obtain ⟨b, ys, rfl, hb, he⟩ := hv2.list
  have hxl : xs.length = R.length := by rw [hd.length, List.length_map]
  have hyl : ys.length = ps.length := by rw [he.length, List.length_map]
  have nd := sc_law_are_walks.nd
  refine ⟨_, pss_cons (ps_if (PW.pt (pw_or (pt_not (pt_val (pe_callB call_isi (by rfl) T.n_isinstance (by decide +kernel) (pa_cons (pv 0) (pa_cons (pe_bltn (v := .ty "list") (by rfl) T.n_list (by decide +kernel) rfl) pa_nil)))))
      (pw_or1 (pt_cmpR op_ne (pe_callB call_len_seq (by rfl) T.n_len PySem.boot_len (pa_cons (pv 0) pa_nil)) (pe_callB call_len_seq (by rfl) T.n_len PySem.boot_len (pa_cons (pv 1) pa_nil)) (nomark _))))) (pss_one (ps_ret pe_bl)) pss_nil)
    (pss_cons (ps_for PassesOwn.never rfl (pi_range1 rfl T.n_range (pa_cons (pe_callB call_len_seq (by rfl) T.n_len PySem.boot_len (pa_cons (pv 1) pa_nil)) pa_nil)) (pg_name (i := 2) nd rfl (Or.inl rfl))
      (pss_cons (ps_if (PW.pt (pw_or (pt_not (pt_val (pe_callB call_isi (by rfl) T.n_isinstance (by decide +kernel) (pa_cons (pe_ix ix_list (pv 0) (pv 2) (fun _ _ => rfl)) (pa_cons (pe_bltn (v := .ty "list") (by rfl) T.n_list (by decide +kernel) rfl) pa_nil)))))
        (pw_or1 (pt_cmpR op_ne (pe_callB call_len_seq (by rfl) T.n_len PySem.boot_len (pa_cons (pe_ix ix_list (pv 0) (pv 2) (fun _ _ => rfl)) pa_nil)) (pe_callB call_len_seq (by rfl) T.n_len PySem.boot_len (pa_cons (pe_ix ix_tup (pe_ix ix_list (pv 1) (pv 2) (fun _ _ => rfl)) pe_int (fun _ _ => rfl)) pa_nil)) (nomark _))))) (pss_one (ps_ret pe_bl)) pss_nil)
      (pss_one (ps_for PassesOwn.never rfl (pi_list (pe_ix ix_list (pv 0) (pv 2) (fun _ _ => rfl))) (pg_name (i := 3) nd rfl (Or.inl rfl))
        (pss_cons (ps_if (PW.pt (pw_or (pt_not (pt_val (pe_callB call_isi (by rfl) T.n_isinstance (by decide +kernel) (pa_cons (pv 3) (pa_cons (pe_bltn (v := .ty "tuple") (by rfl) T.n_tuple (by decide +kernel) rfl) pa_nil)))))
          (pw_or (pt_cmpR op_ne (pe_callB call_len_seq (by rfl) T.n_len PySem.boot_len (pa_cons (pv 3) pa_nil)) pe_int (nomark _))
          (pw_or1 (pt_not (pt_val (pe_callB call_isi (by rfl) T.n_isinstance (by decide +kernel) (pa_cons (pe_ix ix_tup (pv 3) pe_int (fun _ _ => rfl)) (pa_cons (pe_bltn (v := .ty "str") (by rfl) T.n_str (by decide +kernel) rfl) pa_nil))))))))) (pss_one (ps_ret pe_bl)) pss_nil)
        (pss_one (ps_if (PW.pt (pw_or (pt_not (pt_val (pe_def DI hr (by rfl) (pa_cons (pe_ix ix_tup (pv 3) pe_int (fun _ _ => rfl)) pa_nil))))
          (pw_or (pt_not (pt_val (pe_def DI hr (by rfl) (pa_cons (pe_ix ix_tup (pv 3) pe_int (fun _ _ => rfl)) pa_nil))))
          (pw_or1 (pt_not (pt_val (pe_def DI hr (by rfl) (pa_cons (pe_ix ix_tup (pv 3) pe_int (fun _ _ => rfl)) pa_nil)))))))) (pss_one (ps_ret pe_bl)) pss_nil)))))))
    (pss_one (ps_ret pe_bl))), ?_⟩
  refine ⟨_, rfl, _, _, .type "list", .type "list", true, rfl, .ty _, ty_list ha, kit_ty (by decide +kernel), true, rfl, ?_⟩
  refine iteF ⟨_, rfl, a, xs, rfl, .inl ha, _, rfl, b, ys, rfl, .inl hb, rfl, _, rfl, iteNF (by rw [hxl, hyl, hlen]) ?_⟩
  refine ⟨_, rfl, b, ys, rfl, .inl hb, _, rfl, by omega, by omega, for_range (lo := 0) (n := ys.length) (fun i σ H' => ∃ (b2 b3 : Option V), σ = [some (.ref a), some (.ref b), b2, b3] ∧ Same H H')
    ⟨_, _, rfl, Same.refl H⟩ ?_ ?_⟩
  · rintro i σ H1 hi ⟨b2, b3, rfl, e0⟩
    obtain ⟨rs, hrs⟩ : ∃ r, R[i]? = some r := ⟨_, List.getElem?_eq_getElem (by omega)⟩
    obtain ⟨p, hp⟩ : ∃ p, ps[i]? = some p := ⟨_, List.getElem?_eq_getElem (by omega)⟩
    obtain ⟨x1, hx1, hz1⟩ := hd.get (d := dRows rs) (by rw [List.getElem?_map, hrs]; rfl)
    obtain ⟨c, zs, rfl, hc, hz⟩ := hz1.list
    obtain ⟨t, x, y, hy, ht, hs1, hs2⟩ := dPlans_get he hp
    obtain ⟨d, us, rfl, hd1, hu⟩ := hs1.list
    have hzl : zs.length = us.length := by rw [hz.length, hu.length, List.length_map, List.length_map, List.length_map]; exact hl i rs p hrs hp
    rw [Int.zero_add]
    refine ⟨_, rfl, _, rfl, a, xs, _, _, rfl, rfl, e0.seq ha, atI_nat hx1, _, _, .type "list", .type "list", true, rfl, .ty _, ty_list (e0.seq hc), kit_ty (by decide +kernel), true, rfl, ?_⟩
    refine iteF ⟨_, rfl, _, rfl, a, xs, _, _, rfl, rfl, e0.seq ha, atI_nat hx1, c, zs, rfl, .inl (e0.seq hc), _, rfl, _, rfl, b, ys, _, _, rfl, rfl, e0.seq hb, atI_nat hy, t, _, _, _, rfl, rfl, sqT_same e0 ht, at_of (j := 1) rfl rfl, d, us, rfl, .inl (e0.seq hd1), rfl, _, rfl, iteNF (by rw [hzl]) ?_⟩
    refine ⟨_, rfl, _, rfl, a, xs, _, _, rfl, rfl, e0.seq ha, atI_nat hx1, c, rfl, ⟨_, e0.seq hc⟩, for_list (K := K) (a := c) (xs := zs) (fun j σ H' => ∃ (b3 : Option V), σ = [some (.ref a), some (.ref b), some (.int (i : Int)), b3] ∧ Same H H')
      ⟨_, rfl, e0⟩ (fun i σ H' _ ⟨_, _, e⟩ => e.seq hc) ?_ ?_⟩
    · rintro j z σ H2 hj ⟨b3, rfl, e1⟩
      obtain ⟨q, r, rfl, hr', hq⟩ := dRows_getV hz hj
      have hq2 := sqT_same e1 hq
      refine ⟨_, rfl, _, _, .type "tuple", .type "tuple", true, rfl, .ty _, ty_tup hq2, kit_ty (by decide +kernel), true, rfl, ?_⟩
      refine iteF ⟨_, rfl, q, _, rfl, .inr hq2, rfl, _, rfl, iteNF rfl ⟨_, rfl, q, _, _, _, rfl, rfl, hq2, at_of (j := 0) rfl rfl, _, _, .type "str", .type "str", true, rfl, .ty _, .base (.str _), kit_ty (by decide +kernel), true, rfl, iteF ?_⟩⟩
      refine ⟨_, rfl, q, _, _, _, rfl, rfl, hq2, at_of (j := 1) rfl rfl, _, rfl, fun H3 s3 => ⟨_, rfl, iteF ?_⟩⟩
      refine ⟨_, rfl, q, _, _, _, rfl, rfl, sqT_same s3 hq2, at_of (j := 2) rfl rfl, _, rfl, fun H4 s4 => ⟨_, rfl, iteF ?_⟩⟩
      refine ⟨_, rfl, q, _, _, _, rfl, rfl, sqT_same s4 (sqT_same s3 hq2), at_of (j := 3) rfl rfl, _, rfl, fun H5 s5 => ⟨_, rfl, iteF ?_⟩⟩
      exact ⟨_, rfl, ((e1.trans s3).trans s4).trans s5⟩
    · rintro σ H2 ⟨b3, rfl, e1⟩
      exact ⟨_, _, rfl, e1⟩
  · rintro σ H1 ⟨b2, b3, rfl, e0⟩
    exact k _ e0
end
end NRW
/-! _law_is_first. -/
namespace NRW
open PySem PySem.Spec PyProof.Rows L2
def spIsFirst (K : PySem.W.Frag) : Sp := fun vs H Q _ => ∃ (v0 v1 v2 : V) (nm r : Str) (stp m e : Int) (ps : List Plan) (ws : List (List T3)) (p q k0 : Nat) (wp wq wk : List T3) (pl : Plan) (j : Nat) (le : Int), vs = [v0, v1, v2, .int m] ∧
  Dp K H v0 (.tuple [.str nm, .int stp, .str r, .int m, .int e]) ∧ Dp K H v1 (dPlans ps) ∧ Dp K H v2 (dWalks ws) ∧ ws.length = ps.length ∧ ps.length ≤ 100 ∧ (∀ w ∈ ws, w.length ≤ 100) ∧ m < e ∧ r ≠ HAL ∧
  p ≠ q ∧ ws[p]? = some wp ∧ ws[q]? = some wq ∧ Within wp r m ∧ Within wq r m ∧ ps[k0]? = some pl ∧ ws[k0]? = some wk ∧ pl.name = nm ∧ stp = (j : Int) + 1 ∧ wk[j]? = some (r, m, le) ∧ ∀ H', Same H H' → Q (.bl true) H'
section
variable {P : Program} {w : World} {K : PySem.W.Frag} {mg : Str → Option Value} {base : Heap}
abbrev N_is_first : List Str := ["_law_wait", "_law_plans", "_law_walks", "_law_moment", "_law_k", "_law_row", "_law_rows"]
theorem sc_law_is_first : FnScope N_is_first ["_law_wait", "_law_plans", "_law_walks", "_law_moment"] (defScope s_law_is_first) := ⟨rfl, rfl, rfl, by decide +kernel, rfl, by decide +kernel, by decide +kernel⟩
theorem d_law_is_first (T : Txt K mg) : Def P w K mg base "_law_is_first" 2 ["_law_wait", "_law_plans", "_law_walks", "_law_moment"] (spIsFirst K) := by
  have DI : Def P w K mg base "_law_is_int" 1 ["_law_value"] spIsInt := d_law_is_int T
  have DW : Def P w K mg base "_law_within" 1 ["_law_rows", "_law_room", "_law_moment"] (spWithin K) := d_law_within T
  refine Def.of T.g_law_is_first T.f_law_is_first sc_law_is_first (fun vs H Q E h => ?_) (fun _ _ _ _ _ _ us hl => match us, hl with | [_, _, _, _], _ => rfl) (fun f cdv A outer s H vs Q E hr h => ?_)
  · obtain ⟨_, _, _, _, _, _, _, _, _, _, _, _, _, _, _, _, _, _, _, rfl, _⟩ := h
    rfl
  obtain ⟨v0, v1, v2, nm, r, stp, m, e, ps, ws, p, q, k0, wp, wq, wk, pl, jj, le, rfl, hv0, hv1, hv2, hlen, h100, hw100, hme, hrh, hpq, hwp, hwq, inp, inq, hpl, hwk, hnm, hst, hrow, k⟩ := h
  obtain ⟨u, us, rfl, hu, hus⟩ := hv0.tuple
  obtain ⟨a0, us, rfl, ha0, hus⟩ := hus.cons'
  obtain ⟨a1, us, rfl, ha1, hus⟩ := hus.cons'
  obtain ⟨a2, us, rfl, ha2, hus⟩ := hus.cons'
  obtain ⟨a3, us, rfl, ha3, hus⟩ := hus.cons'
  obtain ⟨a4, us, rfl, ha4, hus⟩ := hus.cons'
  obtain rfl := hus.nil'
  obtain rfl := ha0.str'
  obtain rfl := ha1.int'
  obtain rfl := ha2.str'
  obtain rfl := ha3.int'
  obtain rfl := ha4.int'
  obtain ⟨b, ys, rfl, hb, hbs⟩ := hv1.list
  obtain ⟨c, zs, rfl, hc, hcs⟩ := hv2.list
  have hyl : ys.length = ps.length := by rw [hbs.length, List.length_map]
  have hzl : zs.length = ws.length := by rw [hcs.length, List.length_map]
  have nd := sc_law_is_first.nd
  refine ⟨_, pss_cons (ps_if (PW.pt (pw_or (pt_not (pt_val (pe_callB call_isi (by rfl) T.n_isinstance (by decide +kernel) (pa_cons (pv 0) (pa_cons (pe_bltn (v := .ty "tuple") (by rfl) T.n_tuple (by decide +kernel) rfl) pa_nil)))))
      (pw_or (pt_cmpR op_ne (pe_callB call_len_seq (by rfl) T.n_len PySem.boot_len (pa_cons (pv 0) pa_nil)) pe_int (nomark _))
      (pw_or (pt_not (pt_val (pe_callB call_isi (by rfl) T.n_isinstance (by decide +kernel) (pa_cons (pe_ix ix_tup (pv 0) pe_int (fun _ _ => rfl)) (pa_cons (pe_bltn (v := .ty "str") (by rfl) T.n_str (by decide +kernel) rfl) pa_nil)))))
      (pw_or1 (pt_not (pt_val (pe_callB call_isi (by rfl) T.n_isinstance (by decide +kernel) (pa_cons (pe_ix ix_tup (pv 0) pe_int (fun _ _ => rfl)) (pa_cons (pe_bltn (v := .ty "str") (by rfl) T.n_str (by decide +kernel) rfl) pa_nil)))))))))) (pss_one (ps_ret pe_bl)) pss_nil)
    (pss_cons (ps_if (PW.pt (pw_or (pt_not (pt_val (pe_def DI (hr.mono (by decide)) (by rfl) (pa_cons (pe_ix ix_tup (pv 0) pe_int (fun _ _ => rfl)) pa_nil))))
      (pw_or (pt_not (pt_val (pe_def DI (hr.mono (by decide)) (by rfl) (pa_cons (pe_ix ix_tup (pv 0) pe_int (fun _ _ => rfl)) pa_nil))))
      (pw_or1 (pt_not (pt_val (pe_def DI (hr.mono (by decide)) (by rfl) (pa_cons (pe_ix ix_tup (pv 0) pe_int (fun _ _ => rfl)) pa_nil)))))))) (pss_one (ps_ret pe_bl)) pss_nil)
    (pss_cons (ps_if (PW.pt (pw_or (pt_cmpR op_ne (pe_ix ix_tup (pv 0) pe_int (fun _ _ => rfl)) (pv 3) (nomark _))
      (pw_or (pt_cmpR op_le (pe_ix ix_tup (pv 0) pe_int (fun _ _ => rfl)) (pv 3) (nomark _))
      (pw_or1 (pt_cmpR op_eq (pe_ix ix_tup (pv 0) pe_int (fun _ _ => rfl)) pe_str (nomark _)))))) (pss_one (ps_ret pe_bl)) pss_nil)
    (pss_cons (ps_if (pt_cmpR op_lt (pe_callB call_len_seq (by rfl) T.n_len PySem.boot_len (pa_cons
        (pe_lc (own := [("_law_rows", 6)]) (g := gName 6) rfl nd (pi_list (pv 2)) (blkOk_by (own := [("_law_rows", 6)]) (N := N_is_first) (sc := defScope s_law_is_first) (by decide +kernel)) (fun _ _ _ _ _ => pg_name (i := 6) nd rfl (Or.inl rfl))
          (fun _ _ _ _ _ => pts_one (pt_val (pe_def DW (hr.mono (by decide)) (by rfl) (pa_cons (pv 6) (pa_cons (pe_ix (ix_tupK (K := K) rfl) (pv 0) pe_int (fun _ _ => rfl)) (pa_cons (pv 3) pa_nil)))))) (fun _ _ _ _ _ => pv 6)) pa_nil)) pe_int (nomark _)) (pss_one (ps_ret pe_bl)) pss_nil)
    (pss_cons (ps_for PassesOwn.never rfl (pi_range1 rfl T.n_range (pa_cons (pe_callB call_len_seq (by rfl) T.n_len PySem.boot_len (pa_cons (pv 1) pa_nil)) pa_nil)) (pg_name (i := 4) nd rfl (Or.inl rfl))
      (pss_one (ps_if (PW.pt (pw_and (pt_cmpR op_eq (pe_ix ix_tup (pe_ix ix_list (pv 1) (pv 4) (fun _ _ => rfl)) pe_int (fun _ _ => rfl)) (pe_ix ix_tup (pv 0) pe_int (fun _ _ => rfl)) (nomark _))
          (pw_and1 (pt_chain op_le op_le pe_int (pe_ix ix_tup (pv 0) pe_int (fun _ _ => rfl)) (pe_callB call_len_seq (by rfl) T.n_len PySem.boot_len (pa_cons (pe_ix ix_list (pv 2) (pv 4) (fun _ _ => rfl)) pa_nil))))))
        (pss_cons (ps_set (i := 5) nd rfl (Or.inl rfl) (pe_ix ix_list (pe_ix ix_list (pv 2) (pv 4) (fun _ _ => rfl)) (pe_op op_sub (pe_ix ix_tup (pv 0) pe_int (fun _ _ => rfl)) pe_int) (fun _ _ => rfl)))
        (pss_one (ps_if (PW.pt (pw_and (pt_cmpR op_eq (pe_ix ix_tup (pv 5) pe_int (fun _ _ => rfl)) (pe_ix ix_tup (pv 0) pe_int (fun _ _ => rfl)) (nomark _)) (pw_and1 (pt_cmpR op_eq (pe_ix ix_tup (pv 5) pe_int (fun _ _ => rfl)) (pv 3) (nomark _))))) (pss_one (ps_ret pe_bl)) pss_nil)))
        pss_nil)))
    (pss_one (ps_ret pe_bl)))))), ?_⟩
  -- the first look
  refine ⟨_, rfl, _, _, .type "tuple", .type "tuple", true, rfl, .ty _, ty_tup hu, kit_ty (by decide +kernel), true, rfl, iteF ?_⟩
  refine ⟨_, rfl, u, _, rfl, .inr hu, rfl, _, rfl, iteNF rfl ?_⟩
  refine ⟨_, rfl, u, _, _, _, rfl, rfl, hu, at_of (j := 0) rfl rfl, _, _, .type "str", .type "str", true, rfl, .ty _, .base (.str _), kit_ty (by decide +kernel), true, rfl, iteF ?_⟩
  refine ⟨_, rfl, u, _, _, _, rfl, rfl, hu, at_of (j := 2) rfl rfl, _, _, .type "str", .type "str", true, rfl, .ty _, .base (.str _), kit_ty (by decide +kernel), true, rfl, iteF ?_⟩
  -- the ints
  refine ⟨_, rfl, u, _, _, _, rfl, rfl, hu, at_of (j := 1) rfl rfl, _, rfl, fun H1 s1 => ⟨_, rfl, iteF ?_⟩⟩
  refine ⟨_, rfl, u, _, _, _, rfl, rfl, sqT_same s1 hu, at_of (j := 3) rfl rfl, _, rfl, fun H2 s2 => ⟨_, rfl, iteF ?_⟩⟩
  have S2 := s1.trans s2
  refine ⟨_, rfl, u, _, _, _, rfl, rfl, sqT_same S2 hu, at_of (j := 4) rfl rfl, _, rfl, fun H3 s3 => ⟨_, rfl, iteF ?_⟩⟩
  have S3 := S2.trans s3
  have hu3 := sqT_same S3 hu
  -- the moment, the end, the room
  refine ⟨_, rfl, u, _, _, _, rfl, rfl, hu3, at_of (j := 3) rfl rfl, _, rfl, rfl, _, rfl, iteNF rfl ?_⟩
  refine ⟨_, rfl, u, _, _, _, rfl, rfl, hu3, at_of (j := 4) rfl rfl, _, rfl, _, _, rfl, rfl, _, rfl, iteDF (by omega) ?_⟩
  refine ⟨_, rfl, u, _, _, _, rfl, rfl, hu3, at_of (j := 2) rfl rfl, rfl, _, rfl, iteDF (fun h => hrh (by injection h)) ?_⟩
  -- how many are within
  refine ⟨_, rfl, c, rfl, ⟨_, S3.seq hc⟩, fun D hD => lc_list (K := K) (a := c) (xs := zs) (fun i H' => Same H3 H' ∧ ∃ acc, H' D = some (.lst acc) ∧ acc.length ≤ i ∧ (if p < i then 1 else 0) + (if q < i then 1 else 0) ≤ acc.length)
    ⟨Same.new_ hD, [], upd_same, Nat.le_refl _, by simp⟩ (fun i H' _ ⟨e, _⟩ => (S3.trans e).seq hc) ?_ ?_⟩
  · rintro i y H' hi ⟨e0, acc, hacc, hal, hcnt⟩
    have hil : i < ws.length := by rw [← hzl]; exact (List.getElem?_eq_some_iff.mp hi).1
    obtain ⟨wi, hwi⟩ : ∃ x, ws[i]? = some x := ⟨_, List.getElem?_eq_getElem hil⟩
    obtain ⟨y', hy', hdy⟩ := dWalks_get hcs hwi
    rw [hi] at hy'
    cases hy'
    have S4 := S3.trans e0
    have hD3 : H3 D = none := hD
    refine ⟨rfl, ?_⟩
    refine ⟨_, rfl, _, rfl, u, _, _, _, rfl, rfl, sqT_same S4 hu, at_of (j := 2) rfl rfl, _, rfl, y, wi, r, m, rfl, hdy.same S4, fun bb H5 s5 hbb => ⟨_, rfl, ?_⟩⟩
    cases bb with
    | true =>
      refine iteT ⟨_, rfl, acc, s5 _ _ hacc, Nat.lt_of_le_of_lt (Nat.le_trans hal (Nat.le_of_lt (Nat.lt_of_lt_of_le hil (by omega)))) (show 100 < sizeLine by decide), (e0.trans s5).mut hD3, acc ++ [y], upd_same, by rw [List.length_append, List.length_singleton]; omega, ?_⟩
      rw [List.length_append, List.length_singleton]
      repeat' split
      all_goals (repeat' split at hcnt)
      all_goals omega
    | false =>
      refine iteF ⟨e0.trans s5, acc, s5 _ _ hacc, by omega, ?_⟩
      have hno : ¬ Within wi r m := fun h => Bool.false_ne_true (hbb.mpr h)
      have hp' : p ≠ i := fun e => hno (by rw [e, hwi] at hwp; cases hwp; exact inp)
      have hq' : q ≠ i := fun e => hno (by rw [e, hwi] at hwq; cases hwq; exact inq)
      repeat' split
      all_goals (repeat' split at hcnt)
      all_goals omega
  rintro H4 ⟨e4, acc, hacc, hal, hcnt⟩
  have S4 := S3.trans e4
  have hpl' : p < ws.length := (List.getElem?_eq_some_iff.mp hwp).1
  have hql' : q < ws.length := (List.getElem?_eq_some_iff.mp hwq).1
  rw [if_pos (by omega), if_pos (by omega)] at hcnt
  refine ⟨D, acc, rfl, .inl (SqL.of hacc), _, _, rfl, rfl, _, rfl, iteDF (by omega) ?_⟩
  -- the group
  have hk0 : k0 < ps.length := (List.getElem?_eq_some_iff.mp hpl).1
  refine ⟨_, rfl, b, ys, rfl, .inl (S4.seq hb), _, rfl, by omega, by omega, for_range (lo := 0) (n := ys.length) (fun i σ H' => ∃ (b4 b5 b6 : Option V), σ = [some (.ref u), some (.ref b), some (.ref c), some (.int m), b4, b5, b6] ∧ Same H H' ∧ i ≤ k0)
    ⟨_, _, _, rfl, S4, Nat.zero_le _⟩ ?_ ?_⟩
  · rintro i σ H5 hi ⟨b4, b5, b6, rfl, e0, hik⟩
    obtain ⟨pi, hpi⟩ : ∃ x, ps[i]? = some x := ⟨_, List.getElem?_eq_getElem (by omega)⟩
    obtain ⟨wi, hwi⟩ : ∃ x, ws[i]? = some x := ⟨_, List.getElem?_eq_getElem (by omega)⟩
    obtain ⟨t, x, y, hy, ht, _, _⟩ := dPlans_get hbs hpi
    obtain ⟨z, hz, hdz⟩ := dWalks_get hcs hwi
    obtain ⟨d, qs, rfl, hd1, hqs, hqsl⟩ := dT3_of hdz
    have hu5 := sqT_same e0 hu
    have ht5 := sqT_same e0 ht
    have hd5 := e0.seq hd1
    have hb5 := e0.seq hb
    have hc5 := e0.seq hc
    have same0 : i = k0 → pi.name = nm ∧ wi = wk := fun e => by
      subst e
      rw [hpl] at hpi; rw [hwk] at hwi
      cases hpi; cases hwi
      exact ⟨hnm, rfl⟩
    have hjl : i = k0 → jj < wi.length := fun e => by
      rw [(same0 e).2]; exact (List.getElem?_eq_some_iff.mp hrow).1
    rw [Int.zero_add]
    refine ⟨_, rfl, _, rfl, b, ys, _, _, rfl, rfl, hb5, atI_nat hy, t, _, _, _, rfl, rfl, ht5, at_of (j := 0) rfl rfl, _, rfl, u, _, _, _, rfl, rfl, hu5, at_of (j := 0) rfl rfl, rfl, _, rfl, iteD2 (fun h1 => ?_) (fun h1 => ?_)⟩
    · refine ⟨_, rfl, u, _, _, _, rfl, rfl, hu5, at_of (j := 1) rfl rfl, _, _, rfl, rfl, _, rfl, iteDT (by omega) ?_⟩
      refine ⟨_, rfl, _, rfl, c, zs, _, _, rfl, rfl, hc5, atI_nat hz, d, qs, rfl, .inl hd5, _, _, rfl, rfl, _, rfl, iteD2 (fun h2 => ?_) (fun h2 => ?_)⟩
      · have hjq : jj < qs.length := by omega
        obtain ⟨yr, hyr⟩ : ∃ x, qs[jj]? = some x := ⟨_, List.getElem?_eq_getElem hjq⟩
        obtain ⟨tr, sr, rfl, hsr, htr⟩ := dT3_get hqs hyr
        have htr5 := sqT_same e0 htr
        have ej : stp - 1 = (jj : Int) := by omega
        refine ⟨_, rfl, _, rfl, c, zs, _, _, rfl, rfl, hc5, atI_nat hz, _, rfl, u, _, _, _, rfl, rfl, hu5, at_of (j := 1) rfl rfl, _, _, rfl, rfl, d, qs, _, _, rfl, rfl, hd5, at_of ej hyr, ?_⟩
        refine ⟨_, rfl, tr, _, _, _, rfl, rfl, htr5, at_of (j := 0) rfl rfl, _, rfl, u, _, _, _, rfl, rfl, hu5, at_of (j := 2) rfl rfl, rfl, _, rfl, iteD2 (fun h3 => ?_) (fun h3 => ?_)⟩
        · refine ⟨_, rfl, tr, _, _, _, rfl, rfl, htr5, at_of (j := 1) rfl rfl, _, rfl, rfl, _, rfl, iteD2 (fun h4 => ?_) (fun h4 => ?_)⟩
          · exact k _ e0
          · refine ⟨_, _, _, rfl, e0, ?_⟩
            have : i ≠ k0 := fun e => h4 (by
              rw [(same0 e).2] at hsr
              rw [hrow] at hsr
              cases hsr
              rfl)
            omega
        · refine iteF ⟨_, _, _, rfl, e0, ?_⟩
          have : i ≠ k0 := fun e => h3 (by
            rw [(same0 e).2] at hsr
            rw [hrow] at hsr
            cases hsr
            rfl)
          omega
      · refine ⟨_, _, _, rfl, e0, ?_⟩
        have : i ≠ k0 := fun e => h2 (by have := hjl e; omega)
        omega
    · refine iteF ⟨_, _, _, rfl, e0, ?_⟩
      have : i ≠ k0 := fun e => h1 (by rw [(same0 e).1])
      omega
  · rintro σ H5 ⟨b4, b5, b6, rfl, e0, hik⟩
    omega
end
end NRW
/-! The law's own state of draws. -/
namespace NRW
open PySem PySem.Spec PyProof.Rows L2
/-- H0: what stands beside the state at s; its list of later numbers at l, its cells at c -/
structure LS0 (H0 H : Hp) (s l c : Addr) (big turn : Int) (ls cs : List Int) : Prop where
  same : Same H0 H
  fs : H0 s = none
  fl : H0 l = none
  fc : H0 c = none
  ne : l ≠ c
  hs : H s = some (.lst [.int big, .ref l, .int turn, .ref c])
  hl : H l = some (.lst (ls.map V.int))
  hc : H c = some (.lst (cs.map V.int))
  zl : ls.length ≤ 100
  zc : cs.length ≤ 100
  t0 : 0 ≤ turn
/-- at most t turns were drawn so -/
def LSt (H0 H : Hp) (s : Addr) (t : Int) : Prop := ∃ l c big turn ls cs, LS0 H0 H s l c big turn ls cs ∧ turn ≤ t
section
variable {H0 H H' : Hp} {s l c : Addr} {big turn : Int} {ls cs : List Int} {t : Int}
theorem LS0.sl (h : LS0 H0 H s l c big turn ls cs) : s ≠ l := ne_of h.hs h.hl (by
  intro e
  have e' := HO.lst.inj e
  cases ls with
  | nil => cases e'
  | cons a r => cases r with
    | nil => cases e'
    | cons b r => simp at e')
theorem LS0.sc (h : LS0 H0 H s l c big turn ls cs) : s ≠ c := ne_of h.hs h.hc (by
  intro e
  have e' := HO.lst.inj e
  cases cs with
  | nil => cases e'
  | cons a r => cases r with
    | nil => cases e'
    | cons b r => simp at e')
theorem LSt.same (h : LSt H0 H s t) : Same H0 H := by
  obtain ⟨_, _, _, _, _, _, h, _⟩ := h
  exact h.same
theorem LSt.mono {t' : Int} (h : LSt H0 H s t) (e : t ≤ t') : LSt H0 H s t' := by
  obtain ⟨l, c, big, turn, ls, cs, h, ht⟩ := h
  exact ⟨l, c, big, turn, ls, cs, h, by omega⟩
theorem LSt.free (h : LSt H0 H s t) : H0 s = none := by
  obtain ⟨_, _, _, _, _, _, h, _⟩ := h
  exact h.fs
/-- the heap grows -/
theorem LSt.grow (h : LSt H0 H s t) (e : Same H H') : LSt H0 H' s t := by
  obtain ⟨l, c, big, turn, ls, cs, h, ht⟩ := h
  exact ⟨l, c, big, turn, ls, cs, ⟨h.same.trans e, h.fs, h.fl, h.fc, h.ne, e _ _ h.hs, e _ _ h.hl, e _ _ h.hc, h.zl, h.zc, h.t0⟩, ht⟩
/-- something new is set beside the state -/
theorem LSt.put {p : Addr} {o : HO} (h : LSt H0 H s t) (hp : H p = none) : LSt (upd H0 p o) (upd H p o) s t := by
  obtain ⟨l, c, big, turn, ls, cs, h, ht⟩ := h
  have n1 : s ≠ p := ne_of_none h.hs hp
  have n2 : l ≠ p := ne_of_none h.hl hp
  have n3 : c ≠ p := ne_of_none h.hc hp
  exact ⟨l, c, big, turn, ls, cs, ⟨h.same.ins (h.same.free hp), by rw [upd_ne n1]; exact h.fs, by rw [upd_ne n2]; exact h.fl, by rw [upd_ne n3]; exact h.fc, h.ne, by rw [upd_ne n1]; exact h.hs, by rw [upd_ne n2]; exact h.hl, by rw [upd_ne n3]; exact h.hc, h.zl, h.zc, h.t0⟩, ht⟩
/-- something beside the state changes -/
theorem LSt.wr {p : Addr} {u o : HO} (h : LSt H0 H s t) (hp : H0 p = some u) : LSt (upd H0 p o) (upd H p o) s t := by
  obtain ⟨l, c, big, turn, ls, cs, h, ht⟩ := h
  have n1 : s ≠ p := fun e => by rw [← e, h.fs] at hp; cases hp
  have n2 : l ≠ p := fun e => by rw [← e, h.fl] at hp; cases hp
  have n3 : c ≠ p := fun e => by rw [← e, h.fc] at hp; cases hp
  refine ⟨l, c, big, turn, ls, cs, ⟨fun b ob e => ?_, by rw [upd_ne n1]; exact h.fs, by rw [upd_ne n2]; exact h.fl, by rw [upd_ne n3]; exact h.fc, h.ne, by rw [upd_ne n1]; exact h.hs, by rw [upd_ne n2]; exact h.hl, by rw [upd_ne n3]; exact h.hc, h.zl, h.zc, h.t0⟩, ht⟩
  by_cases hb : b = p
  · subst hb; rw [upd_same] at e ⊢; exact e
  · rw [upd_ne hb] at e ⊢; exact h.same b ob e
/-- what stands beside it is forgotten in part -/
theorem LSt.less {H1 : Hp} (h : LSt H0 H s t) (e : Same H1 H0) : LSt H1 H s t := by
  obtain ⟨l, c, big, turn, ls, cs, h, ht⟩ := h
  exact ⟨l, c, big, turn, ls, cs, ⟨e.trans h.same, e.free h.fs, e.free h.fl, e.free h.fc, h.ne, h.hs, h.hl, h.hc, h.zl, h.zc, h.t0⟩, ht⟩
end
theorem at_in {α : Type} {xs : List α} {z : Int} (h0 : 0 ≤ z) (h1 : z < xs.length) : ∃ v, atI xs z = some v ∧ v ∈ xs := by
  have hj : z.toNat < xs.length := by omega
  refine ⟨xs[z.toNat], ?_, List.getElem_mem hj⟩
  have := atI_nat (xs := xs) (List.getElem?_eq_getElem hj)
  rwa [show ((z.toNat : Nat) : Int) = z by omega] at this
theorem at_int {ns : List Int} {z : Int} (h0 : 0 ≤ z) (h1 : z < ns.length) : ∃ n, atI (ns.map V.int) z = some (.int n) ∧ n ∈ ns := by
  obtain ⟨v, h, hv⟩ := at_in (xs := ns.map V.int) h0 (by rw [List.length_map]; exact h1)
  obtain ⟨n, hn, rfl⟩ := List.mem_map.mp hv
  exact ⟨n, h, hn⟩
/-- a number that one may draw below -/
structure Many (m : Int) : Prop where
  pos : 0 < m
  fit : m.natAbs.log2 < 9000
theorem Many.of {m : Int} (h : 0 < m) (hb : m < 2 ^ 200) : Many m :=
  ⟨h, (Nat.log2_lt (by omega)).mpr (Nat.lt_of_lt_of_le (show m.natAbs < 2 ^ 200 by omega) (Nat.pow_le_pow_right (by decide) (by decide)))⟩
end NRW
/-! _law_mixed, _law_draw. -/
namespace NRW
open PySem PySem.Spec PyProof.Rows L2
/-- a draw: some number from 0 to below many -/
def spDraw : Sp := fun vs H Q _ => ∃ (H0 : Hp) (s : Addr) (many t : Int), vs = [.ref s, .int many] ∧ LSt H0 H s t ∧ Many many ∧ t < 2 ^ 60 ∧ ∀ H' d, 0 ≤ d → d < many → LSt H0 H' s (t + 1) → Q (.int d) H'
section
variable {P : Program} {w : World} {K : PySem.W.Frag} {mg : Str → Option Value} {base : Heap}
theorem sc_law_mixed : FnScope ["_law_state_here", "_law_many", "_law_cells", "_law_turn", "_law_cell", "_law_one", "_law_two", "_law_three"] ["_law_state_here", "_law_many"] (defScope s_law_mixed) := ⟨rfl, rfl, rfl, by decide +kernel, rfl, by decide +kernel, by decide +kernel⟩
theorem d_law_mixed (T : Txt K mg) : Def P w K mg base "_law_mixed" 1 ["_law_state_here", "_law_many"] spDraw := by
  refine Def.of T.g_law_mixed T.f_law_mixed sc_law_mixed (fun vs H Q E h => ?_) (fun _ _ _ _ _ _ us hl => match us, hl with | [_, _], _ => rfl) (fun f cdv A outer s H vs Q E hr h => ?_)
  · obtain ⟨_, _, _, _, rfl, _⟩ := h
    rfl
  obtain ⟨H0, s, many, t, rfl, ⟨l, c, big, turn, ls, cs, h, ht⟩, hm, ht60, k⟩ := h
  have nd := sc_law_mixed.nd
  refine ⟨_, pss_cons (ps_set (i := 2) nd rfl (Or.inl rfl) (pe_ix ix_list (pv 0) pe_int (fun _ _ => rfl)))
    (pss_cons (ps_set (i := 3) nd rfl (Or.inl rfl) (pe_ix ix_list (pv 0) pe_int (fun _ _ => rfl)))
    (pss_cons (ps_asg (pe_op op_add (pv 3) pe_int) (pg_sub (pv 0) pe_int set_list))
    (pss_cons (ps_set (i := 4) nd rfl (Or.inl rfl) pe_int)
    (Evl.pss_cut (ps_if (pt_cmpR op_gt (pe_callB call_len_seq (by rfl) T.n_len PySem.boot_len (pa_cons (pv 2) pa_nil)) pe_int (nomark _))
      (pss_one (ps_set (i := 4) nd rfl (Or.inl rfl) (pe_ix ix_list (pv 2) (pe_op op_mod (pe_callTy call_int1 (by rfl) T.n_int (by decide +kernel) (pa_cons (pv 3) pa_nil)) (pe_callB call_len_seq (by rfl) T.n_len PySem.boot_len (pa_cons (pv 2) pa_nil))) (fun _ _ => rfl)))) pss_nil)
    (pss_cons (ps_set (i := 5) nd rfl (Or.inl rfl) (pe_op op_mod (pe_callTy call_int1 (by rfl) T.n_int (by decide +kernel) (pa_cons (pe_op op_add (pe_op op_add (pe_op op_mul (pv 4) pe_int) (pe_op op_mul (pv 3) pe_int)) pe_int) pa_nil)) pe_int))
    (pss_cons (ps_set (i := 6) nd rfl (Or.inl rfl) (pe_op op_mod (pe_callTy call_int1 (by rfl) T.n_int (by decide +kernel) (pa_cons (pe_op op_add (pe_op op_add (pe_op op_add (pe_op op_mul (pv 5) pe_int) (pe_op op_mul (pe_op op_mul (pv 3) (pv 3)) pe_int)) (pe_op op_mul (pv 4) pe_int)) pe_int) pa_nil)) pe_int))
    (pss_cons (ps_set (i := 7) nd rfl (Or.inl rfl) (pe_op op_mod (pe_callTy call_int1 (by rfl) T.n_int (by decide +kernel) (pa_cons (pe_op op_add (pe_op op_add (pe_op op_mul (pv 6) pe_int) (pv 5)) (pe_op op_mul (pv 3) pe_int)) pa_nil)) pe_int))
    (pss_one (ps_ret (pe_op op_mod (pe_callTy call_int1 (by rfl) T.n_int (by decide +kernel) (pa_cons (pe_op op_add (pe_op op_mul (pv 6) pe_int) (pv 7)) pa_nil)) (pv 1))))))))))), ?_⟩
  have hs := h.hs
  have t0 := h.t0
  have hsc := h.sc
  have hsl := h.sl
  refine ⟨_, rfl, s, _, _, _, rfl, rfl, SqL.of hs, at_of (j := 3) rfl rfl, _, rfl, s, _, _, _, rfl, rfl, SqL.of hs, at_of (j := 2) rfl rfl, ?_⟩
  refine ⟨_, rfl, _, _, rfl, rfl, _, rfl, s, _, _, 2, rfl, rfl, hs, rfl, ?_⟩
  have L1 : LS0 H0 (upd H s (.lst [.int big, .ref l, .int (turn + 1), .ref c])) s l c big (turn + 1) ls cs :=
    ⟨h.same.mut h.fs, h.fs, h.fl, h.fc, h.ne, upd_same, by rw [upd_ne (Ne.symm hsl)]; exact h.hl, by rw [upd_ne (Ne.symm hsc)]; exact h.hc, h.zl, h.zc, by omega⟩
  have hc1 := L1.hc
  have fin : ∀ (X : Int), Q (.int (X % many)) (upd H s (.lst [.int big, .ref l, .int (turn + 1), .ref c])) := fun X =>
    k _ _ (Int.emod_nonneg _ (by have := hm.pos; omega)) (Int.emod_lt_of_pos _ hm.pos) ⟨l, c, big, turn + 1, ls, cs, L1, by omega⟩
  refine ⟨fun σ' H' => ∃ z : Int, H' = upd H s (.lst [.int big, .ref l, .int (turn + 1), .ref c]) ∧ σ' = [some (.ref s), some (.int many), some (.ref c), some (.int turn), some (.int z), none, none, none], ?_, ?_⟩
  · refine ⟨_, rfl, c, _, rfl, .inl (SqL.of hc1), _, _, rfl, rfl, _, rfl, iteD2 (fun h1 => ?_) (fun h1 => ?_)⟩
    · have h1' : 0 < cs.length := by
        have : ((cs.map V.int).length : Int) > 0 := h1
        rw [List.length_map] at this; omega
      obtain ⟨z, hz, _⟩ := at_int (ns := cs) (z := turn % (cs.length : Int)) (Int.emod_nonneg _ (by omega)) (Int.emod_lt_of_pos _ (by omega))
      refine ⟨_, rfl, _, rfl, .inl ⟨_, rfl, _, rfl, c, _, rfl, .inl (SqL.of hc1), _, _, rfl, rfl, by rw [List.length_map]; omega, c, _, _, _, rfl, rfl, SqL.of hc1, by rw [List.length_map]; exact hz, ?_⟩⟩
      exact ⟨z, rfl, rfl⟩
    · exact ⟨0, rfl, rfl⟩
  · rintro σ' H' ⟨z, rfl, rfl⟩
    have tb : CMul turn turn := .inl ⟨by omega, by omega⟩
    refine ⟨_, rfl, _, _, rfl, rfl, .inr (by decide), _, rfl, _, _, rfl, rfl, .inr (by decide), _, _, rfl, rfl, _, _, rfl, rfl, .inl ⟨_, rfl, _, _, rfl, rfl, (by show (0 : Int) < _; decide), ?_⟩⟩
    refine ⟨_, rfl, _, _, rfl, rfl, .inr (by decide), _, rfl, _, rfl, _, _, rfl, rfl, tb, _, _, rfl, rfl, .inr (by decide), _, _, rfl, rfl, _, rfl, _, _, rfl, rfl, .inr (by decide), _, _, rfl, rfl, _, _, rfl, rfl, .inl ⟨_, rfl, _, _, rfl, rfl, (by show (0 : Int) < _; decide), ?_⟩⟩
    refine ⟨_, rfl, _, _, rfl, rfl, .inr (by decide), _, rfl, _, _, rfl, rfl, _, rfl, _, _, rfl, rfl, .inr (by decide), _, _, rfl, rfl, .inl ⟨_, rfl, _, _, rfl, rfl, (by show (0 : Int) < _; decide), ?_⟩⟩
    exact ⟨_, rfl, _, _, rfl, rfl, .inr (by decide), _, rfl, _, _, rfl, rfl, .inl ⟨_, rfl, _, rfl, _, _, rfl, rfl, hm.pos, fin _⟩⟩

theorem sc_law_draw : FnScope ["_law_state_here", "_law_many", "_law_later", "_law_digit"] ["_law_state_here", "_law_many"] (defScope s_law_draw) := ⟨rfl, rfl, rfl, by decide +kernel, rfl, by decide +kernel, by decide +kernel⟩
theorem d_law_draw (T : Txt K mg) : Def P w K mg base "_law_draw" 2 ["_law_state_here", "_law_many"] spDraw := by
  have DM : Def P w K mg base "_law_mixed" 1 ["_law_state_here", "_law_many"] spDraw := d_law_mixed T
  refine Def.of T.g_law_draw T.f_law_draw sc_law_draw (fun vs H Q E h => ?_) (fun _ _ _ _ _ _ us hl => match us, hl with | [_, _], _ => rfl) (fun f cdv A outer s H vs Q E hr h => ?_)
  · obtain ⟨_, _, _, _, rfl, _⟩ := h
    rfl
  obtain ⟨H0, s, many, t, rfl, hL, hm, ht60, k⟩ := h
  have nd := sc_law_draw.nd
  refine ⟨_, Evl.pss_cut (ps_if (PW.pt (pw_and (pt_cmpR op_le (pe_ix ix_list (pv 0) pe_int (fun _ _ => rfl)) pe_int (nomark _)) (pw_and1 (pt_cmpR op_gt (pe_callB call_len_seq (by rfl) T.n_len PySem.boot_len (pa_cons (pe_ix ix_list (pv 0) pe_int (fun _ _ => rfl)) pa_nil)) pe_int (nomark _)))))
      (pss_cons (ps_set (i := 2) nd rfl (Or.inl rfl) (pe_ix ix_list (pv 0) pe_int (fun _ _ => rfl)))
      (pss_one (ps_asg (pe_bm PySem.F.plainAttrs_list PySem.F.slot_list_pop PySem.F.type_list_pop mt_popAt (pv 2) (pa_cons pe_int pa_nil)) (pg_sub (pv 0) pe_int set_list)))) pss_nil)
    (pss_cons (ps_if (pt_cmpR op_gt (pe_ix ix_list (pv 0) pe_int (fun _ _ => rfl)) pe_int (nomark _))
      (pss_cons (ps_set (i := 3) nd rfl (Or.inl rfl) (pe_op op_mod (pe_callTy call_int1 (by rfl) T.n_int (by decide +kernel) (pa_cons (pe_ix ix_list (pv 0) pe_int (fun _ _ => rfl)) pa_nil)) (pv 1)))
      (pss_cons (ps_asg (pe_op op_fdivW (pe_ix ix_list (pv 0) pe_int (fun _ _ => rfl)) (pv 1)) (pg_sub (pv 0) pe_int set_list))
      (pss_one (ps_ret (pv 3))))) pss_nil)
    (pss_one (ps_ret (pe_def DM hr (by rfl) (pa_cons (pv 0) (pa_cons (pv 1) pa_nil)))))), ?_⟩
  refine ⟨fun σ' H' => ∃ b2 : Option V, LSt H0 H' s t ∧ σ' = [some (.ref s), some (.int many), b2, none], ?_, ?_⟩
  · obtain ⟨l, c, big, turn, ls, cs, h, ht⟩ := id hL
    have hs := h.hs
    refine ⟨_, rfl, s, _, _, _, rfl, rfl, SqL.of hs, at_of (j := 0) rfl rfl, _, _, rfl, rfl, _, rfl, iteD2 (fun h1 => ?_) (fun h1 => iteF ⟨_, hL, rfl⟩)⟩
    refine ⟨_, rfl, s, _, _, _, rfl, rfl, SqL.of hs, at_of (j := 1) rfl rfl, l, _, rfl, .inl (SqL.of h.hl), _, _, rfl, rfl, _, rfl, iteD2 (fun h2 => ?_) (fun h2 => ⟨_, hL, rfl⟩)⟩
    cases ls with
    | nil => exact (Int.lt_irrefl 0 h2).elim
    | cons z ls =>
      have hsl := h.sl
      refine ⟨_, rfl, s, _, _, _, rfl, rfl, SqL.of hs, at_of (j := 1) rfl rfl, _, rfl, .inl ⟨rfl, _, SqL.of h.hl⟩, l, _, 0, 0, .int z, rfl, rfl, h.hl, by omega, by omega, ?_, rfl, ?_⟩
      · show seqIndex? 0 (List.map V.int (z :: ls)).length = some 0
        have e := (ixN_seq (n := (List.map V.int (z :: ls)).length) (i := 0) (j := 0) (by
          unfold ixN
          rw [if_pos (by omega), if_pos (by rw [List.length_map, List.length_cons]; omega)]
          rfl)).1
        exact e
      · refine ⟨_, rfl, s, _, _, 0, rfl, rfl, by rw [upd_ne hsl]; exact hs, rfl, ?_⟩
        have zl := h.zl
        rw [List.length_cons] at zl
        exact ⟨_, ⟨l, c, z, turn, ls, cs, ⟨(h.same.mut h.fl).mut h.fs, h.fs, h.fl, h.fc, h.ne, upd_same, by rw [upd_ne (Ne.symm hsl), upd_same]; rfl, by rw [upd_ne (Ne.symm h.sc), upd_ne (Ne.symm h.ne)]; exact h.hc, by omega, h.zc, h.t0⟩, ht⟩, rfl⟩
  · rintro σ' H' ⟨b2, hL', rfl⟩
    obtain ⟨l, c, big, turn, ls, cs, h, ht⟩ := id hL'
    have hs := h.hs
    refine ⟨_, rfl, s, _, _, _, rfl, rfl, SqL.of hs, at_of (j := 0) rfl rfl, _, _, rfl, rfl, _, rfl, iteD2 (fun h1 => ?_) (fun h1 => ?_)⟩
    · refine ⟨_, rfl, s, _, _, _, rfl, rfl, SqL.of hs, at_of (j := 0) rfl rfl, .inl ⟨_, rfl, _, rfl, _, _, rfl, rfl, hm.pos, ?_⟩⟩
      refine ⟨_, rfl, s, _, _, _, rfl, rfl, SqL.of hs, at_of (j := 0) rfl rfl, _, rfl, _, _, rfl, rfl, ⟨hm.pos, hm.fit⟩, _, rfl, s, _, _, 0, rfl, rfl, hs, rfl, ?_⟩
      refine ⟨_, rfl, k _ _ (Int.emod_nonneg _ (by have := hm.pos; omega)) (Int.emod_lt_of_pos _ hm.pos) ?_⟩
      exact ⟨l, c, _, turn, ls, cs, ⟨h.same.mut h.fs, h.fs, h.fl, h.fc, h.ne, upd_same, by rw [upd_ne (Ne.symm h.sl)]; exact h.hl, by rw [upd_ne (Ne.symm h.sc)]; exact h.hc, h.zl, h.zc, h.t0⟩, by omega⟩
    · exact ⟨_, rfl, _, rfl, H0, s, many, t, rfl, hL', hm, ht60, k⟩
end
end NRW
/-! Names. -/
namespace NRW
open PySem PySem.Spec PyProof.Rows L2
abbrev lettL : List Nat := LETT.cps.toList
abbrev digiL : List Nat := DIGI.cps.toList
structure NameL (l : List Nat) : Prop where
  hi : l.length ≤ 12
  first : ∃ c r, l = c :: r ∧ c ∈ lettL
  all : ∀ c ∈ l, c ∈ lettL ∨ c ∈ digiL
theorem NameL.ok {z : Str} (h : NameL z.cps.toList) : NameOk z := by
  obtain ⟨c, r, e, hc⟩ := h.first
  have hl : z.length = z.cps.toList.length := by
    show z.cps.size = _
    rw [Array.length_toList]
  refine ⟨by rw [hl, e]; simp, by rw [hl]; exact h.hi, ⟨c, ?_, hc⟩, fun i c' hi => h.all c' ?_⟩
  · rw [← Array.getElem?_toList, e]; rfl
  · rw [← Array.getElem?_toList] at hi
    exact List.mem_of_getElem? hi
theorem NameOk.toL {z : Str} (h : NameOk z) : NameL z.cps.toList := by
  have hl : z.length = z.cps.toList.length := by
    show z.cps.size = _
    rw [Array.length_toList]
  refine ⟨by rw [← hl]; exact h.hi, ?_, fun c hc => ?_⟩
  · obtain ⟨c, h1, h2⟩ := h.first
    rw [← Array.getElem?_toList] at h1
    cases e : z.cps.toList with
    | nil => rw [e] at h1; cases h1
    | cons a r =>
      rw [e] at h1
      cases h1
      exact ⟨_, _, rfl, h2⟩
  · obtain ⟨i, hi⟩ := NR.mem_ix hc
    rw [Array.getElem?_toList] at hi
    exact h.all i c hi
def nameB (z : Str) : Bool := decide (z.cps.toList.length ≤ 12) && (match z.cps.toList with
  | [] => false
  | c :: _ => lettL.contains c) && z.cps.toList.all fun c => lettL.contains c || digiL.contains c
theorem nameB_ok {z : Str} (h : nameB z = true) : NameOk z := by
  unfold nameB at h
  rw [Bool.and_eq_true, Bool.and_eq_true] at h
  obtain ⟨⟨h1, h2⟩, h3⟩ := h
  refine NameL.ok ⟨of_decide_eq_true h1, ?_, fun c hc => ?_⟩
  · cases e : z.cps.toList with
    | nil => rw [e] at h2; cases h2
    | cons c r =>
      rw [e] at h2
      exact ⟨c, r, rfl, List.contains_iff_mem.mp h2⟩
  · have := List.all_eq_true.mp h3 c hc
    rw [Bool.or_eq_true] at this
    exact this.imp List.contains_iff_mem.mp List.contains_iff_mem.mp
theorem name_hall : NameOk HAL := nameB_ok (by decide +kernel)
theorem cps_app (a b : Str) : (a ++ b).cps.toList = a.cps.toList ++ b.cps.toList := by
  rw [PySem.Str.cps_append, Array.toList_append]
/-- one more sign -/
theorem name_snoc {z : Str} {c : Nat} (h : NameOk z) (hl : z.length ≤ 11) (hc : c ∈ lettL ∨ c ∈ digiL) : NameOk (z ++ ⟨#[c]⟩) := by
  have k := h.toL
  have hl' : z.cps.toList.length ≤ 11 := by rw [Array.length_toList]; exact hl
  refine NameL.ok ?_
  rw [cps_app]
  obtain ⟨a, r, e, ha⟩ := k.first
  refine ⟨by rw [List.length_append]; show z.cps.toList.length + 1 ≤ 12; omega, ⟨a, r ++ [c], by rw [e]; rfl, ha⟩, fun x hx => ?_⟩
  rcases List.mem_append.mp hx with hx | hx
  · exact k.all x hx
  · have : x = c := by simpa using hx
    rw [this]; exact hc
theorem name_one {c : Nat} (hc : c ∈ lettL) : NameOk ⟨#[c]⟩ := NameL.ok ⟨by show 1 ≤ 12; decide, ⟨c, [], rfl, hc⟩, fun x hx => by
  have : x = c := by simpa using hx
  rw [this]; exact .inl hc⟩
theorem len_snoc (z : Str) (c : Nat) : (z ++ (⟨#[c]⟩ : Str)).length = z.length + 1 := by
  show (z ++ (⟨#[c]⟩ : Str)).cps.size = z.cps.size + 1
  rw [PySem.Str.cps_append, Array.size_append]
  rfl
/-- one sign another -/
theorem name_swap {z a b : Str} {c p : Nat} (h : NameOk z) (hp : p < z.length) (ha : a.cps.toList = z.cps.toList.take p) (hb : b.cps.toList = z.cps.toList.drop (p + 1)) (hc : c ∈ lettL) : NameOk (a ++ ⟨#[c]⟩ ++ b) := by
  have k := h.toL
  have hl' : z.cps.toList.length = z.length := by rw [Array.length_toList]; rfl
  refine NameL.ok ?_
  rw [cps_app, cps_app, ha, hb]
  show NameL (z.cps.toList.take p ++ [c] ++ z.cps.toList.drop (p + 1))
  have hlen := h.hi
  refine ⟨by rw [List.length_append, List.length_append, List.length_take, List.length_drop, List.length_singleton]; omega, ?_, fun x hx => ?_⟩
  · cases p with
    | zero => exact ⟨c, _, rfl, hc⟩
    | succ p =>
      obtain ⟨a, r, e, ha⟩ := k.first
      exact ⟨a, _, by rw [e]; rfl, ha⟩
  · rcases List.mem_append.mp hx with hx | hx
    · rcases List.mem_append.mp hx with hx | hx
      · exact k.all x (List.mem_of_mem_take hx)
      · have : x = c := by simpa using hx
        rw [this]; exact .inl hc
    · exact k.all x (List.mem_of_mem_drop hx)
theorem name_q : ∀ k : Nat, k < 60 → NameOk (("q" : Str) ++ (toString (k : Int) : Str)) := by
  have h : ((List.range 60).all fun k => nameB (("q" : Str) ++ (toString ((k : Nat) : Int) : Str))) = true := by decide +kernel
  intro k hk
  exact nameB_ok (List.all_eq_true.mp h k (List.mem_range.mpr hk))
abbrev SIGNS : Str := "abcdefghijklmnopqrstuvwxyz0123456789"
theorem signs_at : ∀ k : Nat, k < 36 → ∃ c, SIGNS.cps[k]? = some c ∧ (c ∈ lettL ∨ c ∈ digiL) ∧ (k < 26 → c ∈ lettL) := by
  have h : ((List.range 36).all fun k => match SIGNS.cps[k]? with
    | some c => (lettL.contains c || digiL.contains c) && (!decide (k < 26) || lettL.contains c)
    | none => false) = true := by decide +kernel
  intro k hk
  have h1 := List.all_eq_true.mp h k (List.mem_range.mpr hk)
  cases e : SIGNS.cps[k]? with
  | none => rw [e] at h1; cases h1
  | some c =>
    rw [e] at h1
    rw [Bool.and_eq_true, Bool.or_eq_true, Bool.or_eq_true] at h1
    refine ⟨c, rfl, h1.1.imp List.contains_iff_mem.mp List.contains_iff_mem.mp, fun h26 => ?_⟩
    rcases h1.2 with x | x
    · rw [decide_eq_true h26] at x; cases x
    · exact List.contains_iff_mem.mp x
theorem lett_at : ∀ k : Nat, k < 26 → ∃ c, LETT.cps[k]? = some c ∧ c ∈ lettL := by
  have h : ((List.range 26).all fun k => match LETT.cps[k]? with
    | some c => lettL.contains c
    | none => false) = true := by decide +kernel
  intro k hk
  have h1 := List.all_eq_true.mp h k (List.mem_range.mpr hk)
  cases e : LETT.cps[k]? with
  | none => rw [e] at h1; cases h1
  | some c =>
    rw [e] at h1
    exact ⟨c, rfl, List.contains_iff_mem.mp h1⟩
end NRW
/-! _law_state, _law_limit, _law_signed, _law_name. -/
namespace NRW
open PySem PySem.Spec PyProof.Rows L2
def spState (K : PySem.W.Frag) : Sp := fun vs H Q _ => ∃ (a : Addr) (ns : List Int), vs = [.ref a] ∧ SqL K H a (ns.map V.int) ∧ ns.length ≤ 63 ∧ ∀ s H', LSt H H' s 0 → Q (.ref s) H'
def spLimit : Sp := fun vs H Q _ => ∃ (H0 : Hp) (s : Addr) (t : Int), vs = [.ref s] ∧ LSt H0 H s t ∧ t < 2 ^ 60 ∧ ∀ H' m, 1 ≤ m → m ≤ 10 ^ 40 → LSt H0 H' s (t + 1) → Q (.int m) H'
def spSigned : Sp := fun vs H Q _ => ∃ (H0 : Hp) (s : Addr) (many t : Int), vs = [.ref s, .int many] ∧ LSt H0 H s t ∧ 0 < many ∧ many ≤ 10 ^ 40 ∧ t < 2 ^ 60 ∧ ∀ H' z, LSt H0 H' s (t + 1) → Q (.int z) H'
def spName : Sp := fun vs H Q _ => ∃ (H0 : Hp) (s : Addr) (t : Int), vs = [.ref s] ∧ LSt H0 H s t ∧ t < 2 ^ 59 ∧ ∀ H' z, NameOk z → LSt H0 H' s (t + 14) → Q (.str z) H'
section
variable {P : Program} {w : World} {K : PySem.W.Frag} {mg : Str → Option Value} {base : Heap}
abbrev N_state : List Str := ["_law_script", "_law_cell"]
theorem sc_law_state : FnScope N_state ["_law_script"] (defScope s_law_state) := ⟨rfl, rfl, rfl, by decide +kernel, rfl, by decide +kernel, by decide +kernel⟩
theorem d_law_state (T : Txt K mg) : Def P w K mg base "_law_state" 1 ["_law_script"] (spState K) := by
  refine Def.of T.g_law_state T.f_law_state sc_law_state (fun vs H Q E h => ?_) (fun _ _ _ _ _ _ us hl => match us, hl with | [_], _ => rfl) (fun f cdv A outer s H vs Q E hr h => ?_)
  · obtain ⟨_, _, rfl, _⟩ := h
    rfl
  obtain ⟨a, ns, rfl, ha, h63, k⟩ := h
  have nd := sc_law_state.nd
  refine ⟨_, pss_one (ps_ret (pe_lst (pa_cons pe_int (pa_cons
      (pe_lc (own := [("_law_cell", 1)]) (g := gName 1) rfl nd (pi_list (pv 0)) (blkOk_by (own := [("_law_cell", 1)]) (N := N_state) (sc := defScope s_law_state) (by decide +kernel)) (fun _ _ _ _ _ => pg_name (i := 1) nd rfl (Or.inl rfl))
          (fun _ _ _ _ _ => pts_one (pt_cmpR op_ge (pv 1) (pe_op op_pow pe_int pe_int) (nomark _))) (fun _ _ _ _ _ => pv 1))
      (pa_cons pe_int (pa_cons (pe_callTy call_list_of (by rfl) T.n_list (by decide +kernel) (pa_cons (pv 0) pa_nil)) pa_nil)))))), ?_⟩
  refine ⟨_, rfl, a, rfl, ⟨_, ha⟩, fun D hD => lc_list (K := K) (a := a) (xs := ns.map V.int) (fun i H' => Same H H' ∧ ∃ ls : List Int, H' D = some (.lst (ls.map V.int)) ∧ ls.length ≤ i)
    ⟨Same.new_ hD, [], upd_same, Nat.le_refl _⟩ (fun i H' _ ⟨e, _⟩ => e.seq ha) ?_ ?_⟩
  · rintro i y H' hi ⟨e0, ls, hls, hl⟩
    rw [List.getElem?_map] at hi
    cases hn : ns[i]? with
    | none => rw [hn] at hi; cases hi
    | some z =>
    rw [hn] at hi
    cases hi
    have hil : i < ns.length := (List.getElem?_eq_some_iff.mp hn).1
    refine ⟨rfl, ?_⟩
    refine ⟨_, rfl, _, _, rfl, rfl, by unfold CPow; decide, _, _, rfl, rfl, _, rfl, ?_⟩
    refine iteD2 (fun _ => ?_) (fun _ => ?_)
    · refine ⟨_, rfl, ls.map V.int, hls, by rw [List.length_map]; exact Nat.lt_of_le_of_lt (show ls.length ≤ 100 by omega) (by decide), e0.mut hD, ls ++ [z], by rw [upd_same, List.map_append]; rfl, by rw [List.length_append, List.length_singleton]; omega⟩
    · exact ⟨e0, ls, hls, by omega⟩
  rintro H1 ⟨e0, ls, hls, hl⟩
  rw [List.length_map] at hl
  refine ⟨_, rfl, a, _, rfl, .inl (e0.seq ha), fun c hc => ⟨by show 4 ≤ sizeLine; decide, fun s hs => ?_⟩⟩
  have hDc : D ≠ c := ne_of_none hls hc
  have hcs : c ≠ s := ne_of_none upd_same hs
  have hDs : D ≠ s := ne_of_none (by rw [upd_ne hDc]; exact hls) hs
  have e1 := e0.to (o := .lst (ns.map V.int)) hc
  exact k s _ ⟨D, c, 1, 0, ls, ns, ⟨e1.to hs, e1.free hs, hD, e0.free hc, hDc, upd_same, by rw [upd_ne hDs, upd_ne hDc]; exact hls, by rw [upd_ne hcs, upd_same], by omega, by omega, Int.le_refl 0⟩, Int.le_refl 0⟩
theorem sc_law_limit : FnScope ["_law_state_here", "_law_limits"] ["_law_state_here"] (defScope s_law_limit) := ⟨rfl, rfl, rfl, by decide +kernel, rfl, by decide +kernel, by decide +kernel⟩
theorem d_law_limit (T : Txt K mg) : Def P w K mg base "_law_limit" 3 ["_law_state_here"] spLimit := by
  have DD : Def P w K mg base "_law_draw" 2 ["_law_state_here", "_law_many"] spDraw := d_law_draw T
  refine Def.of T.g_law_limit T.f_law_limit sc_law_limit (fun vs H Q E h => ?_) (fun _ _ _ _ _ _ us hl => match us, hl with | [_], _ => rfl) (fun f cdv A outer s H vs Q E hr h => ?_)
  · obtain ⟨_, _, _, rfl, _⟩ := h
    rfl
  obtain ⟨H0, s, t, rfl, hL, ht, k⟩ := h
  have nd := sc_law_limit.nd
  refine ⟨_, pss_cons (ps_set (i := 1) nd rfl (Or.inl rfl) (pe_lst (pa_cons pe_int (pa_cons pe_int (pa_cons pe_int (pa_cons pe_int (pa_cons (pe_op op_pow pe_int pe_int) (pa_cons (pe_op op_pow pe_int pe_int) pa_nil))))))))
    (pss_one (ps_ret (pe_ix ix_list (pv 1) (pe_def DD hr (by rfl) (pa_cons (pv 0) (pa_cons pe_int pa_nil))) (fun _ _ => rfl)))), ?_⟩
  refine ⟨_, _, rfl, rfl, by unfold CPow; decide, _, _, rfl, rfl, by unfold CPow; decide, by show 6 ≤ sizeLine; decide, fun p hp => ?_⟩
  have hL1 := hL.put (o := .lst (([2, 4, 12, 60, (10 : Int) ^ (6 : Int).toNat, (10 : Int) ^ (40 : Int).toNat] : List Int).map V.int)) hp
  refine ⟨_, rfl, _, rfl, _, s, 6, t, rfl, hL1, Many.of (by decide) (by decide), by omega, fun H' d h0 h6 hL2 => ?_⟩
  have hpH' := hL2.same _ _ upd_same
  obtain ⟨m, hm, hmem⟩ := at_int (ns := ([2, 4, 12, 60, (10 : Int) ^ (6 : Int).toNat, (10 : Int) ^ (40 : Int).toNat] : List Int)) (z := d) h0 h6
  refine ⟨p, _, _, _, rfl, rfl, SqL.of hpH', hm, k H' m ?_ ?_ (hL2.less (Same.new_ (hL.same.free hp)))⟩
  · simp only [List.mem_cons, List.not_mem_nil, or_false] at hmem
    rcases hmem with rfl | rfl | rfl | rfl | rfl | rfl <;> decide
  · simp only [List.mem_cons, List.not_mem_nil, or_false] at hmem
    rcases hmem with rfl | rfl | rfl | rfl | rfl | rfl <;> decide
theorem sc_law_signed : FnScope ["_law_state_here", "_law_many", "_law_number"] ["_law_state_here", "_law_many"] (defScope s_law_signed) := ⟨rfl, rfl, rfl, by decide +kernel, rfl, by decide +kernel, by decide +kernel⟩
theorem d_law_signed (T : Txt K mg) : Def P w K mg base "_law_signed" 3 ["_law_state_here", "_law_many"] spSigned := by
  have DD : Def P w K mg base "_law_draw" 2 ["_law_state_here", "_law_many"] spDraw := d_law_draw T
  refine Def.of T.g_law_signed T.f_law_signed sc_law_signed (fun vs H Q E h => ?_) (fun _ _ _ _ _ _ us hl => match us, hl with | [_, _], _ => rfl) (fun f cdv A outer s H vs Q E hr h => ?_)
  · obtain ⟨_, _, _, _, rfl, _⟩ := h
    rfl
  obtain ⟨H0, s, many, t, rfl, hL, h0, h40, ht, k⟩ := h
  have nd := sc_law_signed.nd
  refine ⟨_, pss_cons (ps_set (i := 2) nd rfl (Or.inl rfl) (pe_def DD hr (by rfl) (pa_cons (pv 0) (pa_cons (pe_op op_add (pe_op op_mul pe_int (pv 1)) pe_int) pa_nil))))
    (pss_cons (ps_if (pt_cmpR op_eq (pe_op op_mod (pe_callTy call_int1 (by rfl) T.n_int (by decide +kernel) (pa_cons (pv 2) pa_nil)) pe_int) pe_int (nomark _)) (pss_one (ps_ret (pe_un un_neg (pe_op op_fdiv (pe_op op_add (pv 2) pe_int) pe_int)))) pss_nil)
    (pss_one (ps_ret (pe_op op_fdiv (pv 2) pe_int)))), ?_⟩
  have b40 : (10 : Int) ^ 40 < 2 ^ 150 := by decide
  refine ⟨_, rfl, _, rfl, _, _, rfl, rfl, .inl ⟨by decide, by decide⟩, _, _, rfl, rfl, H0, s, 2 * many + 1, t, rfl, hL, Many.of (by omega) (by omega), by omega, fun H' d _ _ hL2 => ?_⟩
  refine ⟨_, rfl, .inl ⟨_, rfl, _, _, rfl, rfl, (by show (0 : Int) < 2; decide), rfl, _, rfl, iteD2 (fun _ => ?_) (fun _ => ?_)⟩⟩
  · exact ⟨_, rfl, _, _, rfl, rfl, _, _, rfl, rfl, ⟨by decide, by decide⟩, _, rfl, k _ _ hL2⟩
  · exact ⟨_, rfl, _, _, rfl, rfl, ⟨by decide, by decide⟩, k _ _ hL2⟩
theorem sc_law_name : FnScope ["_law_state_here", "_law_signs", "_law_name_here", "_law_k"] ["_law_state_here"] (defScope s_law_name) := ⟨rfl, rfl, rfl, by decide +kernel, rfl, by decide +kernel, by decide +kernel⟩
theorem d_law_name (T : Txt K mg) : Def P w K mg base "_law_name" 3 ["_law_state_here"] spName := by
  have DD : Def P w K mg base "_law_draw" 2 ["_law_state_here", "_law_many"] spDraw := d_law_draw T
  refine Def.of T.g_law_name T.f_law_name sc_law_name (fun vs H Q E h => ?_) (fun _ _ _ _ _ _ us hl => match us, hl with | [_], _ => rfl) (fun f cdv A outer s H vs Q E hr h => ?_)
  · obtain ⟨_, _, _, rfl, _⟩ := h
    rfl
  obtain ⟨H0, s, t, rfl, hL, ht, k⟩ := h
  have nd := sc_law_name.nd
  refine ⟨_, pss_cons (ps_set (i := 1) nd rfl (Or.inl rfl) pe_str)
    (pss_cons (ps_set (i := 2) nd rfl (Or.inl rfl) (pe_item_str (pv 1) (pe_def DD hr (by rfl) (pa_cons (pv 0) (pa_cons pe_int pa_nil))) (fun _ _ => rfl)))
    (pss_cons (ps_for PassesOwn.never rfl (pi_range1 rfl T.n_range (pa_cons (pe_def DD hr (by rfl) (pa_cons (pv 0) (pa_cons pe_int pa_nil))) pa_nil)) (pg_name (i := 3) nd rfl (Or.inl rfl))
      (pss_one (ps_set (i := 2) nd rfl (Or.inl rfl) (pe_op op_add_str (pv 2) (pe_item_str (pv 1) (pe_def DD hr (by rfl) (pa_cons (pv 0) (pa_cons pe_int pa_nil))) (fun _ _ => rfl))))))
    (pss_one (ps_ret (pv 2))))), ?_⟩
  have big : (1000 : Nat) < sizeLine := by decide
  have hlen : SIGNS.length = 36 := by decide +kernel
  refine ⟨_, rfl, _, rfl, H0, s, 26, t, rfl, hL, Many.of (by decide) (by decide), by omega, fun H1 d d0 d1 hL1 => ?_⟩
  obtain ⟨c, hc, _, hcl⟩ := signs_at d.toNat (by omega)
  refine ⟨SIGNS, d, c, rfl, rfl, d0, by omega, by rw [hlen]; omega, hc, ?_⟩
  refine ⟨_, rfl, H0, s, 12, t + 1, rfl, hL1, Many.of (by decide) (by decide), by omega, fun H2 e e0 e1 hL2 => ⟨e, rfl, by omega, by omega, for_range (lo := 0) (n := e.toNat) (fun i σ H' => ∃ (z : Str) (b3 : Option V), σ = [some (.ref s), some (.str SIGNS), some (.str z), b3] ∧ NameOk z ∧ z.length = i + 1 ∧ LSt H0 H' s (t + 2 + i))
    ⟨_, _, rfl, name_one (hcl (by omega)), rfl, hL2.mono (by omega)⟩ ?_ ?_⟩⟩
  · rintro i σ H' hi ⟨z, b3, rfl, hz, hzl, hL3⟩
    refine ⟨_, rfl, _, rfl, _, rfl, H0, s, 36, _, rfl, hL3, Many.of (by decide) (by decide), by omega, fun H4 g g0 g1 hL4 => ?_⟩
    obtain ⟨c', hc', hca, _⟩ := signs_at g.toNat (by omega)
    refine ⟨SIGNS, g, c', rfl, rfl, g0, by omega, by rw [hlen]; omega, hc', z, ⟨#[c']⟩, rfl, rfl, ?_, ?_⟩
    · show z.length + 1 ≤ sizeLine
      omega
    · exact ⟨_, _, rfl, name_snoc hz (by omega) hca, by rw [len_snoc, hzl], hL4.mono (by omega)⟩
  · rintro σ H' ⟨z, b3, rfl, hz, hzl, hL3⟩
    exact ⟨_, rfl, k _ _ hz (hL3.mono (by omega))⟩
end
end NRW
/-! _law_stays, _law_lengths. -/
namespace NRW
open PySem PySem.Spec PyProof.Rows L2
/-- drawn stays -/
structure StaysD (ss : List T3) : Prop extends StaysOk ss where
  four : ss.length ≤ 4
  gap : ∀ s ∈ ss, s.2.2 - s.2.1 < 10 ^ 40
/-- q: an object beside the state that the caller is building, not part of what is made here -/
def spStays (K : PySem.W.Frag) : Sp := fun vs H Q _ => ∃ (H0 : Hp) (s b q : Addr) (w : HO) (many lag t : Int) (ns : List Str), vs = [.ref s, .ref b, .int 4, .int many, .int lag] ∧ H0 q = none ∧ LSt (upd H0 q w) H s t ∧ SqL K H0 b (ns.map V.str) ∧ (∀ z ∈ ns, NameOk z) ∧ ns.length ≤ 100 ∧ 0 < many ∧ many ≤ 10 ^ 40 ∧ 0 < lag ∧ lag ≤ 10 ^ 40 ∧ t < 2 ^ 59 ∧
  ∀ F H' v ss, Same H0 F → F q = none → Dp K F v (dT3 ss) → StaysD ss → LSt (upd F q w) H' s (t + 20) → Q v H'
def spLengths (K : PySem.W.Frag) : Sp := fun vs H Q _ => ∃ (H0 : Hp) (s q : Addr) (w : HO) (v : V) (t : Int) (ss : List T3), vs = [.ref s, v] ∧ H0 q = none ∧ LSt (upd H0 q w) H s t ∧ Dp K H0 v (dT3 ss) ∧ StaysD ss ∧ t < 2 ^ 59 ∧
  ∀ F H' v' ls, Same H0 F → F q = none → Dp K F v' (dInts ls) → Fits ss ls → LSt (upd F q w) H' s (t + 20) → Q v' H'
section
variable {P : Program} {w : World} {K : PySem.W.Frag} {mg : Str → Option Value} {base : Heap}
theorem sc_law_stays : FnScope ["_law_state_here", "_law_rooms", "_law_steps", "_law_many", "_law_lag", "_law_stays_here", "_law_k", "_law_place", "_law_room", "_law_least"] ["_law_state_here", "_law_rooms", "_law_steps", "_law_many", "_law_lag"] (defScope s_law_stays) := ⟨rfl, rfl, rfl, by decide +kernel, rfl, by decide +kernel, by decide +kernel⟩
theorem d_law_stays (T : Txt K mg) : Def P w K mg base "_law_stays" 3 ["_law_state_here", "_law_rooms", "_law_steps", "_law_many", "_law_lag"] (spStays K) := by
  have DD : Def P w K mg base "_law_draw" 2 ["_law_state_here", "_law_many"] spDraw := d_law_draw T
  refine Def.of T.g_law_stays T.f_law_stays sc_law_stays (fun vs H Q E h => ?_) (fun _ _ _ _ _ _ us hl => match us, hl with | [_, _, _, _, _], _ => rfl) (fun f cdv A outer s H vs Q E hr h => ?_)
  · obtain ⟨_, _, _, _, _, _, _, _, _, rfl, _⟩ := h
    rfl
  obtain ⟨H0, s, b, q, u0', many, lag, t, ns, rfl, hq0, hL, hb, hns, hn100, m0, m1, l0, l1, ht, k⟩ := h
  have nd := sc_law_stays.nd
  refine ⟨_, pss_cons (ps_set (i := 5) nd rfl (Or.inl rfl) (pe_lst pa_nil))
    (pss_cons (ps_for PassesOwn.never rfl (pi_range1 rfl T.n_range (pa_cons (pe_op op_add pe_int (pe_def DD hr (by rfl) (pa_cons (pv 0) (pa_cons (pv 2) pa_nil)))) pa_nil)) (pg_name (i := 6) nd rfl (Or.inl rfl))
      (pss_cons (ps_set (i := 7) nd rfl (Or.inl rfl) (pe_def DD hr (by rfl) (pa_cons (pv 0) (pa_cons (pe_op op_add (pe_callB call_len_seq (by rfl) T.n_len PySem.boot_len (pa_cons (pv 1) pa_nil)) pe_int) pa_nil))))
      (pss_cons (ps_set (i := 8) nd rfl (Or.inl rfl) pe_str)
      (Evl.pss_cut (ps_if (pt_cmpR op_lt (pv 7) (pe_callB call_len_seq (by rfl) T.n_len PySem.boot_len (pa_cons (pv 1) pa_nil)) (nomark _)) (pss_one (ps_set (i := 8) nd rfl (Or.inl rfl) (pe_ix ix_list (pv 1) (pv 7) (fun _ _ => rfl)))) pss_nil)
      (pss_cons (ps_set (i := 9) nd rfl (Or.inl rfl) (pe_op op_add pe_int (pe_def DD hr (by rfl) (pa_cons (pv 0) (pa_cons (pv 3) pa_nil)))))
      (pss_one (ps_expr (pe_bm PySem.F.plainAttrs_list PySem.F.slot_list_append PySem.F.type_list_append mt_append (pv 5) (pa_cons (pe_tup (pa_cons (pv 8) (pa_cons (pv 9) (pa_cons (pe_op op_add (pv 9) (pe_def DD hr (by rfl) (pa_cons (pv 0) (pa_cons (pv 4) pa_nil)))) pa_nil)))) pa_nil)))))))))
    (pss_one (ps_ret (pv 5)))), ?_⟩
  have big : (1000 : Nat) < sizeLine := by decide
  have b40 : (10 : Int) ^ 40 < 2 ^ 150 := by decide
  refine ⟨Nat.zero_le _, fun p hp => ?_⟩
  have hqp : q ≠ p := ne_of_none (hL.same _ _ upd_same) hp
  have hp0 : H0 p = none := by
    have := hL.same.free hp
    rwa [upd_ne (Ne.symm hqp)] at this
  have hL1 := hL.put (o := .lst []) hp
  refine ⟨_, rfl, _, rfl, _, s, 4, t, rfl, hL1, Many.of (by decide) (by decide), by omega, fun H1 d d0 d1 hL2 => ⟨_, _, rfl, rfl, 1 + d, rfl, by omega, by omega, ?_⟩⟩
  refine for_range (lo := 0) (n := (1 + d).toNat) (fun i σ H' => ∃ (F : Hp) (xs : List V) (ss : List T3) (b6 b7 b8 b9 : Option V), σ = [some (.ref s), some (.ref b), some (.int 4), some (.int many), some (.int lag), some (.ref p), b6, b7, b8, b9] ∧
      Same H0 F ∧ F p = none ∧ F q = none ∧ LSt (upd (upd F q u0') p (.lst xs)) H' s (t + 1 + 3 * i) ∧ Tups F xs (ss.map v3) ∧ ss.length = i ∧ (∀ s ∈ ss, NameOk s.1 ∧ 1 ≤ s.2.1 ∧ s.2.1 ≤ s.2.2 ∧ s.2.2 - s.2.1 < 10 ^ 40))
    ⟨H0, [], [], _, _, _, _, rfl, Same.refl H0, hp0, hq0, hL2.mono (by omega), Tups.nil_, rfl, fun s h => (nomatch h)⟩ ?_ ?_
  · rintro i σ H' hi ⟨F, xs, ss, b6, b7, b8, b9, rfl, eF, fp, fq, hL3, et, el, eo⟩
    have hbF : SqL K (upd (upd F q u0') p (.lst xs)) b (ns.map V.str) := ((eF.to fq).to (by rw [upd_ne (Ne.symm hqp)]; exact fp)).seq hb
    refine ⟨_, rfl, _, rfl, b, _, rfl, .inl (hL3.same.seq hbF), _, _, rfl, rfl, _, s, _, _, rfl, hL3, Many.of (by omega) (by rw [List.length_map]; omega), by omega, fun H4 g g0 g1 hL4 => ?_⟩
    -- the room
    refine ⟨fun σ' H' => ∃ z : Str, NameOk z ∧ H' = H4 ∧ σ' = [some (.ref s), some (.ref b), some (.int 4), some (.int many), some (.int lag), some (.ref p), some (.int (0 + (i : Int))), some (.int g), some (.str z), b9], ?_, ?_⟩
    · refine ⟨_, rfl, _, rfl, b, _, rfl, .inl (hL4.same.seq hbF), _, _, rfl, rfl, _, rfl, iteD2 (fun h1 => ?_) (fun h1 => ?_)⟩
      · obtain ⟨v, hv, hmem⟩ := at_in (xs := ns.map V.str) g0 h1
        obtain ⟨z, hz, rfl⟩ := List.mem_map.mp hmem
        exact ⟨_, rfl, _, rfl, b, _, _, _, rfl, rfl, hL4.same.seq hbF, hv, z, hns z hz, rfl, rfl⟩
      · exact ⟨HAL, name_hall, rfl, rfl⟩
    · rintro σ' _ ⟨z, hz, rfl, rfl⟩
      -- least
      refine ⟨_, rfl, _, rfl, _, s, _, _, rfl, hL4, Many.of m0 (by omega), by omega, fun H5 u u0 u1 hL5 => ⟨_, _, rfl, rfl, ?_⟩⟩
      have hp5 := hL5.same _ _ upd_same
      refine ⟨_, rfl, .inl ⟨rfl, _, SqL.of hp5⟩, _, rfl, _, rfl, _, rfl, _, rfl, _, rfl, _, s, _, _, rfl, hL5, Many.of l0 (by omega), by omega, fun H6 v v0 v1 hL6 => ⟨_, _, rfl, rfl, by show 3 ≤ sizeLine; decide, fun n hn => ?_⟩⟩
      have hp6 := hL6.same _ _ upd_same
      have hpn : p ≠ n := ne_of_none hp6 hn
      have lx : xs.length = i := by rw [et.length, List.length_map, el]
      refine ⟨p, xs, .ref n, rfl, rfl, by rw [upd_ne hpn]; exact hp6, by omega, ?_⟩
      have hqn : q ≠ n := ne_of_none (hL6.same q u0' (by rw [upd_ne hqp, upd_same])) hn
      have hFn : F n = none := by
        have := hL6.same.free hn
        rwa [upd_ne (Ne.symm hpn), upd_ne (Ne.symm hqn)] at this
      have hL7 := (hL6.put (o := .tup (v3 (z, 1 + u, 1 + u + v))) hn).wr (p := p) (u := .lst xs) (o := .lst (xs ++ [.ref n])) (by rw [upd_ne hpn, upd_same])
      rw [upd_comm hpn, upd_upd, upd_comm hqn] at hL7
      refine ⟨upd F n (.tup (v3 (z, 1 + u, 1 + u + v))), xs ++ [.ref n], ss ++ [(z, 1 + u, 1 + u + v)], _, _, _, _, rfl, eF.to hFn, by rw [upd_ne hpn]; exact fp, by rw [upd_ne hqn]; exact fq, hL7.mono (by omega), ?_, by rw [List.length_append, el]; rfl, ?_⟩
      · rw [List.map_append]
        exact (et.stay ((TStay.refl _).new hFn)).snoc upd_same
      · intro s' hs'
        rcases List.mem_append.mp hs' with h | h
        · exact eo s' h
        · have : s' = (z, 1 + u, 1 + u + v) := by simpa using h
          subst this
          exact ⟨hz, by show 1 ≤ 1 + u; omega, by show 1 + u ≤ 1 + u + v; omega, by show 1 + u + v - (1 + u) < _; omega⟩
  · rintro σ H' ⟨F, xs, ss, b6, b7, b8, b9, rfl, eF, fp, fq, hL3, et, el, eo⟩
    rw [upd_comm hqp] at hL3
    refine ⟨_, rfl, k (upd F p (.lst xs)) H' _ ss (eF.to fp) (by rw [upd_ne hqp]; exact fq) (.lst (SqL.of upd_same) (Tups.d3 (et.stay ((TStay.refl _).new fp)))) ⟨⟨by omega, by omega, fun s h => (eo s h).1, fun s h => (eo s h).2.1, fun s h => (eo s h).2.2.1⟩, by omega, fun s h => (eo s h).2.2.2⟩ (hL3.mono (by omega))⟩
theorem sc_law_lengths : FnScope ["_law_state_here", "_law_stays_here", "_law_lengths_here", "_law_stay", "_law_way", "_law_length"] ["_law_state_here", "_law_stays_here"] (defScope s_law_lengths) := ⟨rfl, rfl, rfl, by decide +kernel, rfl, by decide +kernel, by decide +kernel⟩
theorem d_law_lengths (T : Txt K mg) : Def P w K mg base "_law_lengths" 3 ["_law_state_here", "_law_stays_here"] (spLengths K) := by
  have DD : Def P w K mg base "_law_draw" 2 ["_law_state_here", "_law_many"] spDraw := d_law_draw T
  refine Def.of T.g_law_lengths T.f_law_lengths sc_law_lengths (fun vs H Q E h => ?_) (fun _ _ _ _ _ _ us hl => match us, hl with | [_, _], _ => rfl) (fun f cdv A outer s H vs Q E hr h => ?_)
  · obtain ⟨_, _, _, _, _, _, _, rfl, _⟩ := h
    rfl
  obtain ⟨H0, s, q, u0', v, t, ss, rfl, hq0, hL, hv, ok, ht, k⟩ := h
  obtain ⟨a, xs, rfl, ha, hd, hxl⟩ := dT3_of hv
  have nd := sc_law_lengths.nd
  refine ⟨_, pss_cons (ps_set (i := 2) nd rfl (Or.inl rfl) (pe_lst pa_nil))
    (pss_cons (ps_for PassesOwn.never rfl (pi_list (pv 1)) (pg_name (i := 3) nd rfl (Or.inl rfl))
      (pss_cons (ps_set (i := 4) nd rfl (Or.inl rfl) (pe_def DD hr (by rfl) (pa_cons (pv 0) (pa_cons pe_int pa_nil))))
      (pss_cons (ps_set (i := 5) nd rfl (Or.inl rfl) (pe_ix ix_tup (pv 3) pe_int (fun _ _ => rfl)))
      (Evl.pss_cut (ps_if (pt_cmpR op_eq (pv 4) pe_int (nomark _)) (pss_one (ps_set (i := 5) nd rfl (Or.inl rfl) (pe_ix ix_tup (pv 3) pe_int (fun _ _ => rfl)))) pss_nil)
      (Evl.pss_cut (ps_if (pt_cmpR op_gt (pv 4) pe_int (nomark _)) (pss_one (ps_set (i := 5) nd rfl (Or.inl rfl) (pe_op op_add (pe_ix ix_tup (pv 3) pe_int (fun _ _ => rfl))
        (pe_def DD hr (by rfl) (pa_cons (pv 0) (pa_cons (pe_op op_add (pe_op op_sub (pe_ix ix_tup (pv 3) pe_int (fun _ _ => rfl)) (pe_ix ix_tup (pv 3) pe_int (fun _ _ => rfl))) pe_int) pa_nil)))))) pss_nil)
      (pss_one (ps_expr (pe_bm PySem.F.plainAttrs_list PySem.F.slot_list_append PySem.F.type_list_append mt_append (pv 2) (pa_cons (pv 5) pa_nil)))))))))
    (pss_one (ps_ret (pv 2)))), ?_⟩
  have big : (1000 : Nat) < sizeLine := by decide
  have b40 : (10 : Int) ^ 40 < 2 ^ 150 := by decide
  have h4 := ok.four
  refine ⟨Nat.zero_le _, fun p hp => ?_⟩
  have hqp : q ≠ p := ne_of_none (hL.same _ _ upd_same) hp
  have hp0 : H0 p = none := by
    have := hL.same.free hp
    rwa [upd_ne (Ne.symm hqp)] at this
  have hL1 := hL.put (o := .lst []) hp
  have ap : ∀ xs : List V, Same H0 (upd (upd H0 q u0') p (.lst xs)) := fun xs => (Same.new_ hq0).to (by rw [upd_ne (Ne.symm hqp)]; exact hp0)
  refine ⟨_, rfl, a, rfl, ⟨_, (hL1.same).seq ((ap _).seq ha)⟩, for_list (K := K) (a := a) (xs := xs) (fun i σ H' => ∃ (ls : List Int) (b3 b4 b5 : Option V), σ = [some (.ref s), some (.ref a), some (.ref p), b3, b4, b5] ∧
      LSt (upd (upd H0 q u0') p (.lst (ls.map V.int))) H' s (t + 2 * i) ∧ ls.length = i ∧ ∀ (j : Nat) s l, ss[j]? = some s → ls[j]? = some l → s.2.1 ≤ l ∧ l ≤ s.2.2)
    ⟨[], _, _, _, rfl, hL1.mono (by omega), rfl, fun j s l _ h => by simp at h⟩ (fun i σ H' _ ⟨ls, _, _, _, _, e, _⟩ => e.same.seq ((ap _).seq ha)) ?_ ?_⟩
  · rintro i y σ H' hi ⟨ls, b3, b4, b5, rfl, hL2, el, eo⟩
    obtain ⟨u, c, rfl, hc, hu⟩ := dT3_get hd hi
    have hmem := List.mem_of_getElem? hc
    have hil : i < ss.length := (List.getElem?_eq_some_iff.mp hc).1
    have c1 := ok.most c hmem
    have c2 := ok.gap c hmem
    have hu0 : SqT K (upd (upd H0 q u0') p (.lst (ls.map V.int))) u (v3 c) := sqT_same (ap _) hu
    refine ⟨_, rfl, _, s, 4, _, rfl, hL2, Many.of (by decide) (by decide), by omega, fun H3 g g0 g1 hL3 => ?_⟩
    refine ⟨_, rfl, u, _, _, _, rfl, rfl, sqT_same hL3.same hu0, at_of (j := 1) rfl rfl, ?_⟩
    refine ⟨fun σ' H' => ∃ z : Int, c.2.1 ≤ z ∧ z ≤ c.2.2 ∧ H' = H3 ∧ σ' = [some (.ref s), some (.ref a), some (.ref p), some (.ref u), some (.int g), some (.int z)], ?_, ?_⟩
    · refine ⟨_, rfl, rfl, _, rfl, iteD2 (fun h1 => ?_) (fun h1 => ?_)⟩
      · exact ⟨_, rfl, u, _, _, _, rfl, rfl, sqT_same hL3.same hu0, at_of (j := 2) rfl rfl, _, c1, Int.le_refl _, rfl, rfl⟩
      · exact ⟨_, Int.le_refl _, c1, rfl, rfl⟩
    rintro σ' _ ⟨z, z1, z2, rfl, rfl⟩
    refine ⟨fun σ' H' => ∃ z : Int, c.2.1 ≤ z ∧ z ≤ c.2.2 ∧ LSt (upd (upd H0 q u0') p (.lst (ls.map V.int))) H' s (t + 2 * i + 1 + 1) ∧ σ' = [some (.ref s), some (.ref a), some (.ref p), some (.ref u), some (.int g), some (.int z)], ?_, ?_⟩
    · refine ⟨_, rfl, _, _, rfl, rfl, _, rfl, iteD2 (fun h1 => ?_) (fun h1 => ?_)⟩
      · refine ⟨_, rfl, u, _, _, _, rfl, rfl, sqT_same hL3.same hu0, at_of (j := 1) rfl rfl, _, rfl, _, rfl, u, _, _, _, rfl, rfl, sqT_same hL3.same hu0, at_of (j := 2) rfl rfl, _, rfl, u, _, _, _, rfl, rfl, sqT_same hL3.same hu0, at_of (j := 1) rfl rfl, _, _, rfl, rfl, _, _, rfl, rfl, _, s, _, _, rfl, hL3, Many.of (by omega) (by omega), by omega, fun H4 e e0 e1 hL4 => ⟨_, _, rfl, rfl, ?_⟩⟩
        exact ⟨c.2.1 + e, by omega, by omega, hL4, rfl⟩
      · exact ⟨z, z1, z2, hL3.mono (by omega), rfl⟩
    rintro σ' H5 ⟨z, z1, z2, hL5, rfl⟩
    have hp5 := hL5.same _ _ upd_same
    refine ⟨_, rfl, .inl ⟨rfl, _, SqL.of hp5⟩, _, rfl, p, _, _, rfl, rfl, hp5, by rw [List.length_map]; omega, ?_⟩
    have hL6 := hL5.wr (p := p) (o := .lst ((ls ++ [z]).map V.int)) upd_same
    rw [upd_upd, List.map_append] at hL6
    refine ⟨ls ++ [z], _, _, _, rfl, by rw [List.map_append]; exact hL6.mono (by omega), by rw [List.length_append, el]; rfl, fun j s' l hs' hl' => ?_⟩
    rcases Nat.lt_or_ge j i with x | x
    · rw [List.getElem?_append_left (by omega)] at hl'
      exact eo j s' l hs' hl'
    · have hj : j = i := by
        have := (List.getElem?_eq_some_iff.mp hl').1
        rw [List.length_append, List.length_singleton] at this
        omega
      subst hj
      rw [List.getElem?_append_right (by omega)] at hl'
      rw [el, Nat.sub_self] at hl'
      rw [hc] at hs'
      cases hs'
      have : l = z := by simpa using hl'.symm
      rw [this]
      exact ⟨z1, z2⟩
  · rintro σ H' ⟨ls, b3, b4, b5, rfl, hL2, el, eo⟩
    rw [upd_comm hqp] at hL2
    exact ⟨_, rfl, k (upd H0 p (.lst (ls.map V.int))) H' _ ls (Same.new_ hp0) (by rw [upd_ne hqp]; exact hq0) (dInts_mk (SqL.of upd_same)) ⟨by omega, eo⟩ (hL2.mono (by omega))⟩
end
end NRW
/-! _law_names. -/
namespace NRW
open PySem PySem.Spec PyProof.Rows L2
theorem cut_lo {z : Str} {p : Nat} (h : p ≤ z.length) : (cutS z none (some (p : Int))).cps.toList = z.cps.toList.take p := by
  have hl : z.cps.toList.length = z.length := by rw [Array.length_toList]; rfl
  unfold cutS
  simp only [HT.sIx_none, HT.sIx_nat, hl, Nat.sub_zero, List.drop_zero]
  show List.take _ _ = _
  rw [Nat.min_eq_left h]
theorem cut_hi {z : Str} {p : Nat} (h : p ≤ z.length) : (cutS z (some (p : Int)) none).cps.toList = z.cps.toList.drop p := by
  have hl : z.cps.toList.length = z.length := by rw [Array.length_toList]; rfl
  unfold cutS
  simp only [HT.sIx_none, HT.sIx_nat, hl]
  show List.take _ _ = _
  rw [Nat.min_eq_left h, List.take_of_length_le (by rw [List.length_drop, hl]; omega)]
theorem log60 : ∀ j : Nat, j < 60 → (j : Int).natAbs.log2 < 1920 := by decide
def spNames : Sp := fun vs H Q _ => ∃ (H0 : Hp) (s : Addr) (n : Nat) (t : Int), vs = [.ref s, .int (n : Int)] ∧ LSt H0 H s t ∧ n ≤ 8 ∧ t < 2 ^ 58 ∧
  ∀ (F H' : Hp) (p : Addr) (ns : List Str), Same H0 F → F p = some (.lst (ns.map V.str)) → (∀ z ∈ ns, NameOk z) → ns.length = n → LSt F H' s (t + 200) → Q (.ref p) H'
section
variable {P : Program} {w : World} {K : PySem.W.Frag} {mg : Str → Option Value} {base : Heap}
theorem sc_law_names : FnScope ["_law_state_here", "_law_count", "_law_names_here", "_law_base", "_law_alike", "_law_k", "_law_name_here", "_law_turn", "_law_place"] ["_law_state_here", "_law_count"] (defScope s_law_names) := ⟨rfl, rfl, rfl, by decide +kernel, rfl, by decide +kernel, by decide +kernel⟩
theorem d_law_names (T : Txt K mg) : Def P w K mg base "_law_names" 4 ["_law_state_here", "_law_count"] spNames := by
  have DD : Def P w K mg base "_law_draw" 2 ["_law_state_here", "_law_many"] spDraw := d_law_draw T
  have DN : Def P w K mg base "_law_name" 3 ["_law_state_here"] spName := d_law_name T
  refine Def.of T.g_law_names T.f_law_names sc_law_names (fun vs H Q E h => ?_) (fun _ _ _ _ _ _ us hl => match us, hl with | [_, _], _ => rfl) (fun f cdv A outer s H vs Q E hr h => ?_)
  · obtain ⟨_, _, _, _, rfl, _⟩ := h
    rfl
  obtain ⟨H0, s, n, t, rfl, hL, hn8, ht, k⟩ := h
  have nd := sc_law_names.nd
  have hr2 : Room 2 _ := hr.mono (by decide)
  refine ⟨_, pss_cons (ps_set (i := 2) nd rfl (Or.inl rfl) (pe_lst pa_nil))
    (pss_cons (ps_set (i := 3) nd rfl (Or.inl rfl) (pe_def DN hr (by rfl) (pa_cons (pv 0) pa_nil)))
    (pss_cons (ps_set (i := 4) nd rfl (Or.inl rfl) (pe_def DD hr2 (by rfl) (pa_cons (pv 0) (pa_cons pe_int pa_nil))))
    (pss_cons (ps_for PassesOwn.never rfl (pi_range1 rfl T.n_range (pa_cons (pv 1) pa_nil)) (pg_name (i := 5) nd rfl (Or.inl rfl))
      (pss_cons (ps_set (i := 6) nd rfl (Or.inl rfl) (pv 3))
      (Evl.pss_cut (ps_if (PW.pt (pw_and (pt_cmpR op_gt (pv 5) pe_int (nomark _)) (pw_and1 (pt_cmpR op_eq (pv 4) pe_int (nomark _))))) (pss_one (ps_set (i := 6) nd rfl (Or.inl rfl) (pe_def DN hr (by rfl) (pa_cons (pv 0) pa_nil)))) pss_nil)
      (Evl.pss_cut (ps_if (PW.pt (pw_and (pt_cmpR op_gt (pv 5) pe_int (nomark _)) (pw_and1 (pt_cmpR op_eq (pv 4) pe_int (nomark _)))))
        (pss_cons (ps_set (i := 8) nd rfl (Or.inl rfl) (pe_def DD hr2 (by rfl) (pa_cons (pv 0) (pa_cons (pe_callB call_len_str (by rfl) T.n_len PySem.boot_len (pa_cons (pv 3) pa_nil)) pa_nil))))
        (pss_one (ps_set (i := 6) nd rfl (Or.inl rfl) (pe_op op_add_str (pe_op op_add_str (pe_slice sl_str (pv 3) po_none (po_some (pv 8))) (pe_item_str pe_str (pe_def DD hr2 (by rfl) (pa_cons (pv 0) (pa_cons pe_int pa_nil))) (fun _ _ => rfl))) (pe_slice sl_str (pv 3) (po_some (pe_op op_add (pv 8) pe_int)) po_none))))) pss_nil)
      (pss_cons (ps_for PassesOwn.never rfl (pi_range1 rfl T.n_range (pa_cons pe_int pa_nil)) (pg_name (i := 7) nd rfl (Or.inl rfl))
        (pss_one (ps_if (PW.pt (pw_or (pt_cmpR op_in_seq (pv 6) (pv 2) rfl) (pw_or1 (pt_cmpR op_eq (pv 6) pe_str (nomark _)))))
          (pss_one (ps_set (i := 6) nd rfl (Or.inl rfl) (pe_op op_add_str pe_str (pe_callTy call_str_int (by rfl) T.n_str (by decide +kernel) (pa_cons (pv 7) pa_nil))))) pss_nil)))
      (pss_one (ps_expr (pe_bm PySem.F.plainAttrs_list PySem.F.slot_list_append PySem.F.type_list_append mt_append (pv 2) (pa_cons (pv 6) pa_nil)))))))))
    (pss_one (ps_ret (pv 2)))))), ?_⟩
  have big : (1000 : Nat) < sizeLine := by decide
  refine ⟨Nat.zero_le _, fun p hp => ?_⟩
  have hp0 := hL.same.free hp
  have hL1 := hL.put (o := .lst []) hp
  refine ⟨_, rfl, _, s, t, rfl, hL1, by omega, fun H1 zb hzb hL2 => ?_⟩
  have hb1 := hzb.lo
  have hb12 := hzb.hi
  refine ⟨_, rfl, _, s, 2, _, rfl, hL2, Many.of (by decide) (by decide), by omega, fun H2 al _ _ hL3 => ?_⟩
  refine ⟨_, rfl, _, rfl, by omega, by omega, for_range (lo := 0) (n := n) (fun i σ H' => ∃ (ns : List Str) (b5 b6 b7 b8 : Option V), σ = [some (.ref s), some (.int (n : Int)), some (.ref p), some (.str zb), some (.int al), b5, b6, b7, b8] ∧
      LSt (upd H0 p (.lst (ns.map V.str))) H' s (t + 16 + 20 * i) ∧ (∀ z ∈ ns, NameOk z) ∧ ns.length = i)
    ⟨[], _, _, _, _, rfl, hL3.mono (by omega), fun z h => (nomatch h), rfl⟩ ?_ ?_⟩
  · rintro i σ H' hi ⟨ns, b5, b6, b7, b8, rfl, hL4, hns, hl⟩
    refine ⟨_, rfl, ?_⟩
    -- one name of its own
    refine ⟨fun σ' H' => ∃ z : Str, NameOk z ∧ LSt (upd H0 p (.lst (ns.map V.str))) H' s (t + 16 + 20 * i + 14) ∧ σ' = [some (.ref s), some (.int (n : Int)), some (.ref p), some (.str zb), some (.int al), some (.int (0 + (i : Int))), some (.str z), b7, b8], ?_, ?_⟩
    · refine ⟨_, rfl, _, _, rfl, rfl, _, rfl, iteD2 (fun h1 => ?_) (fun h1 => iteF ⟨zb, hzb, hL4.mono (by omega), rfl⟩)⟩
      refine ⟨_, rfl, rfl, _, rfl, iteD2 (fun h2 => ?_) (fun h2 => ⟨zb, hzb, hL4.mono (by omega), rfl⟩)⟩
      exact ⟨_, rfl, _, s, _, rfl, hL4, by omega, fun H5 z hz hL5 => ⟨z, hz, hL5, rfl⟩⟩
    rintro σ' H4 ⟨z, hz, hL5, rfl⟩
    -- or one sign changed
    refine ⟨fun σ' H' => ∃ (z : Str) (b8 : Option V), NameOk z ∧ LSt (upd H0 p (.lst (ns.map V.str))) H' s (t + 16 + 20 * i + 16) ∧ σ' = [some (.ref s), some (.int (n : Int)), some (.ref p), some (.str zb), some (.int al), some (.int (0 + (i : Int))), some (.str z), b7, b8], ?_, ?_⟩
    · refine ⟨_, rfl, _, _, rfl, rfl, _, rfl, iteD2 (fun h1 => ?_) (fun h1 => iteF ⟨z, b8, hz, hL5.mono (by omega), rfl⟩)⟩
      refine ⟨_, rfl, rfl, _, rfl, iteD2 (fun h2 => ?_) (fun h2 => ⟨z, b8, hz, hL5.mono (by omega), rfl⟩)⟩
      refine ⟨_, rfl, _, rfl, _, rfl, by omega, _, s, _, _, rfl, hL5, Many.of (by omega) (by omega), by omega, fun H6 g g0 g1 hL6 => ?_⟩
      obtain ⟨q, rfl⟩ : ∃ q : Nat, g = (q : Int) := ⟨g.toNat, by omega⟩
      have hq : q < zb.length := by omega
      refine ⟨_, rfl, _, rfl, _, rfl, zb, rfl, by omega, _, rfl, _, s, 26, _, rfl, hL6, Many.of (by decide) (by decide), by omega, fun H7 e e0 e1 hL7 => ?_⟩
      obtain ⟨c, hc, hcl⟩ := lett_at e.toNat (by omega)
      have l1 := cutS_length zb none (some (q : Int))
      have l2 := cutS_length zb (some (((q + 1 : Nat)) : Int)) none
      refine ⟨LETT, e, c, rfl, rfl, e0, by omega, by show e < 26; omega, hc, _, ⟨#[c]⟩, rfl, rfl, by show _ + 1 ≤ _; omega, ?_⟩
      refine ⟨_, rfl, _, rfl, _, _, rfl, rfl, _, rfl, zb, rfl, by omega, _, _, rfl, rfl, ?_, ?_⟩
      · rw [len_snoc]
        have : ((q : Int) + 1) = ((q + 1 : Nat) : Int) := by omega
        rw [this]
        omega
      · refine ⟨_, _, name_swap hzb hq (cut_lo (by omega)) ?_ hcl, hL7.mono (by omega), rfl⟩
        have : ((q : Int) + 1) = ((q + 1 : Nat) : Int) := by omega
        rw [this]
        exact cut_hi (by omega)
    rintro σ' H5 ⟨z, b8, hz, hL6, rfl⟩
    -- another where it stands already
    refine ⟨_, rfl, by decide, by decide, for_range (lo := 0) (n := 60) (fun j σ H' => ∃ (z : Str) (b7 : Option V), NameOk z ∧ LSt (upd H0 p (.lst (ns.map V.str))) H' s (t + 16 + 20 * i + 16) ∧ σ = [some (.ref s), some (.int (n : Int)), some (.ref p), some (.str zb), some (.int al), some (.int (0 + (i : Int))), some (.str z), b7, b8])
      ⟨z, _, hz, hL6, rfl⟩ ?_ ?_⟩
    · rintro j σ H6 hj ⟨z, b7, hz, hL7, rfl⟩
      have hpn := hL7.same _ _ upd_same
      have go : ∃ (z' : Str), NameOk z' ∧ z' = ("q" : Str) ++ (toString ((0 : Int) + (j : Int)) : Str) := ⟨_, by rw [Int.zero_add]; exact name_q j hj, rfl⟩
      obtain ⟨z', hz', ez'⟩ := go
      have hstep : ∀ (R : V → Hp → Prop), R (.str z') H6 → tOp (fun x y H Q => ∃ i j, x = V.str i ∧ y = V.str j ∧ i.length + j.length ≤ sizeLine ∧ Q (.str (i ++ j)) H) (tC (.str "q")) (tCB (fun xs H Q => ∃ i, xs = [V.int i] ∧ i.natAbs.log2 < 1920 ∧ Q (.str (toString i)) H) (tCons (tVar 7) tNil)) [some (.ref s), some (.int (n : Int)), some (.ref p), some (.str zb), some (.int al), some (.int (0 + (i : Int))), some (.str z), some (.int (0 + (j : Int))), b8] H6 R := fun R hR => by
        refine ⟨_, rfl, _, rfl, ?_, _, _, rfl, rfl, ?_, ?_⟩
        · rw [Int.zero_add]
          exact log60 j hj
        · have := hz'.hi
          rw [ez'] at this
          have e2 : (("q" : Str) ++ (toString ((0 : Int) + (j : Int)) : Str)).length = ("q" : Str).length + (toString ((0 : Int) + (j : Int)) : Str).length := by
            show (("q" : Str) ++ (toString ((0 : Int) + (j : Int)) : Str)).cps.size = _
            rw [PySem.Str.cps_append, Array.size_append]
            rfl
          omega
        · rw [← ez']; exact hR
      refine ⟨_, rfl, _, rfl, p, _, rfl, .inl (SqL.of hpn), rfl, ?_, _, rfl, ?_⟩
      · rw [List.all_map]
        exact List.all_eq_true.mpr fun _ _ => rfl
      · cases inV (.str z) (ns.map V.str) with
        | true =>
          refine iteT ?_
          exact hstep (fun x H1 => gName 6 x _ H1 _) ⟨z', _, hz', hL7, rfl⟩
        | false =>
          refine iteF ⟨_, rfl, rfl, _, rfl, iteD2 (fun _ => ?_) (fun _ => ⟨z, _, hz, hL7, rfl⟩)⟩
          exact hstep (fun x H1 => gName 6 x _ H1 _) ⟨z', _, hz', hL7, rfl⟩
    · rintro σ H6 ⟨z, b7, hz, hL7, rfl⟩
      have hpn := hL7.same _ _ upd_same
      refine ⟨_, rfl, .inl ⟨rfl, _, SqL.of hpn⟩, _, rfl, p, _, _, rfl, rfl, hpn, by rw [List.length_map]; omega, ?_⟩
      have hL8 := hL7.wr (p := p) (o := .lst ((ns ++ [z]).map V.str)) upd_same
      rw [upd_upd, List.map_append] at hL8
      refine ⟨ns ++ [z], _, _, _, _, rfl, by rw [List.map_append]; exact hL8.mono (by omega), fun x hx => ?_, by rw [List.length_append, hl]; rfl⟩
      rcases List.mem_append.mp hx with h | h
      · exact hns x h
      · have : x = z := by simpa using h
        rw [this]; exact hz
  · rintro σ H' ⟨ns, b5, b6, b7, b8, rfl, hL4, hns, hl⟩
    exact ⟨_, rfl, k (upd H0 p (.lst (ns.map V.str))) H' p ns (Same.new_ hp0) upd_same hns hl (hL4.mono (by omega))⟩
end
end NRW
/-! _law_groups. -/
namespace NRW
open PySem PySem.Spec PyProof.Rows L2
structure PlanOk (p : Plan) : Prop where
  st : StaysD p.ss
  fit : Fits p.ss p.ls
def spGroups (K : PySem.W.Frag) : Sp := fun vs H Q _ => ∃ (H0 : Hp) (s : Addr) (n : Nat) (t : Int), vs = [.ref s, .int (n : Int), .int 4] ∧ LSt H0 H s t ∧ n ≤ 6 ∧ t < 2 ^ 50 ∧
  ∀ (F H' : Hp) v (ps : List Plan), Same H0 F → Same F H' → Dp K F v (dPlans ps) → ps.length = n → (∀ p ∈ ps, PlanOk p) → Q v H'
section
variable {P : Program} {w : World} {K : PySem.W.Frag} {mg : Str → Option Value} {base : Heap}
theorem sc_law_groups : FnScope ["_law_state_here", "_law_count", "_law_steps", "_law_names_here", "_law_many", "_law_lag", "_law_near", "_law_base", "_law_way", "_law_plans", "_law_k", "_law_stays_here", "_law_start", "_law_name_here"] ["_law_state_here", "_law_count", "_law_steps"] (defScope s_law_groups) := ⟨rfl, rfl, rfl, by decide +kernel, rfl, by decide +kernel, by decide +kernel⟩
theorem d_law_groups (T : Txt K mg) : Def P w K mg base "_law_groups" 5 ["_law_state_here", "_law_count", "_law_steps"] (spGroups K) := by
  have DD : Def P w K mg base "_law_draw" 2 ["_law_state_here", "_law_many"] spDraw := d_law_draw T
  have DN : Def P w K mg base "_law_names" 4 ["_law_state_here", "_law_count"] spNames := d_law_names T
  have DL : Def P w K mg base "_law_limit" 3 ["_law_state_here"] spLimit := d_law_limit T
  have DS : Def P w K mg base "_law_signed" 3 ["_law_state_here", "_law_many"] spSigned := d_law_signed T
  have DY : Def P w K mg base "_law_stays" 3 ["_law_state_here", "_law_rooms", "_law_steps", "_law_many", "_law_lag"] (spStays K) := d_law_stays T
  have DE : Def P w K mg base "_law_lengths" 3 ["_law_state_here", "_law_stays_here"] (spLengths K) := d_law_lengths T
  refine Def.of T.g_law_groups T.f_law_groups sc_law_groups (fun vs H Q E h => ?_) (fun _ _ _ _ _ _ us hl => match us, hl with | [_, _, _], _ => rfl) (fun f cdv A outer s H vs Q E hr h => ?_)
  · obtain ⟨_, _, _, _, rfl, _⟩ := h
    rfl
  obtain ⟨H0, s, n, t, rfl, hL, hn6, ht, k⟩ := h
  have nd := sc_law_groups.nd
  have hr3 : Room 3 _ := hr.mono (by decide)
  have hr2 : Room 2 _ := hr.mono (by decide)
  refine ⟨_, pss_cons (ps_set (i := 3) nd rfl (Or.inl rfl) (pe_def DN hr (by rfl) (pa_cons (pv 0) (pa_cons (pe_ix ix_list (pe_lst (pa_cons pe_int (pa_cons pe_int (pa_cons pe_int (pa_cons pe_int pa_nil))))) (pe_def DD hr2 (by rfl) (pa_cons (pv 0) (pa_cons pe_int pa_nil))) (fun _ _ => rfl)) pa_nil))))
    (pss_cons (ps_set (i := 4) nd rfl (Or.inl rfl) (pe_def DL hr3 (by rfl) (pa_cons (pv 0) pa_nil)))
    (pss_cons (ps_set (i := 5) nd rfl (Or.inl rfl) (pe_def DL hr3 (by rfl) (pa_cons (pv 0) pa_nil)))
    (pss_cons (ps_set (i := 6) nd rfl (Or.inl rfl) (pe_ix ix_list (pe_lst (pa_cons pe_int (pa_cons pe_int (pa_cons (pe_op op_add (pv 4) (pv 5)) (pa_cons (pe_op op_pow pe_int pe_int) pa_nil))))) (pe_def DD hr2 (by rfl) (pa_cons (pv 0) (pa_cons pe_int pa_nil))) (fun _ _ => rfl)))
    (pss_cons (ps_set (i := 7) nd rfl (Or.inl rfl) pe_int)
    (pss_cons (ps_set (i := 8) nd rfl (Or.inl rfl) (pe_def DD hr2 (by rfl) (pa_cons (pv 0) (pa_cons pe_int pa_nil))))
    (Evl.pss_cut (ps_if (pt_cmpR op_eq (pv 8) pe_int (nomark _)) (pss_one (ps_set (i := 7) nd rfl (Or.inl rfl) (pe_def DS hr3 (by rfl) (pa_cons (pv 0) (pa_cons (pe_op op_pow pe_int pe_int) pa_nil))))) pss_nil)
    (Evl.pss_cut (ps_if (pt_cmpR op_eq (pv 8) pe_int (nomark _)) (pss_one (ps_set (i := 7) nd rfl (Or.inl rfl) (pe_un un_neg (pe_def DD hr2 (by rfl) (pa_cons (pv 0) (pa_cons (pv 6) pa_nil)))))) pss_nil)
    (pss_cons (ps_set (i := 9) nd rfl (Or.inl rfl) (pe_lst pa_nil))
    (pss_cons (ps_for PassesOwn.never rfl (pi_range1 rfl T.n_range (pa_cons (pv 1) pa_nil)) (pg_name (i := 10) nd rfl (Or.inl rfl))
      (pss_cons (ps_set (i := 11) nd rfl (Or.inl rfl) (pe_def DY hr3 (by rfl) (pa_cons (pv 0) (pa_cons (pv 3) (pa_cons (pv 2) (pa_cons (pv 4) (pa_cons (pv 5) pa_nil)))))))
      (pss_cons (ps_set (i := 12) nd rfl (Or.inl rfl) (pe_op op_add (pv 7) (pe_def DD hr2 (by rfl) (pa_cons (pv 0) (pa_cons (pv 6) pa_nil)))))
      (pss_cons (ps_set (i := 13) nd rfl (Or.inl rfl) (pe_ix ix_list (pv 3) (pe_def DD hr2 (by rfl) (pa_cons (pv 0) (pa_cons (pe_callB call_len_seq (by rfl) T.n_len PySem.boot_len (pa_cons (pv 3) pa_nil)) pa_nil))) (fun _ _ => rfl)))
      (Evl.pss_cut (ps_if (pt_cmpR op_eq (pe_def DD hr2 (by rfl) (pa_cons (pv 0) (pa_cons pe_int pa_nil))) pe_int (nomark _))
        (pss_one (ps_set (i := 13) nd rfl (Or.inl rfl) (pe_ix ix_list (pe_lst (pa_cons pe_str (pa_cons pe_str (pa_cons pe_str (pa_cons pe_str (pa_cons pe_str pa_nil)))))) (pe_def DD hr2 (by rfl) (pa_cons (pv 0) (pa_cons pe_int pa_nil))) (fun _ _ => rfl)))) pss_nil)
      (pss_one (ps_expr (pe_bm PySem.F.plainAttrs_list PySem.F.slot_list_append PySem.F.type_list_append mt_append (pv 9) (pa_cons (pe_tup (pa_cons (pv 13) (pa_cons (pv 11) (pa_cons (pv 12) (pa_cons (pe_def DE hr3 (by rfl) (pa_cons (pv 0) (pa_cons (pv 11) pa_nil))) pa_nil))))) pa_nil)))))))))
    (pss_one (ps_ret (pv 9)))))))))))), ?_⟩
  have big : (1000 : Nat) < sizeLine := by decide
  have b40 : (10 : Int) ^ 40 < 2 ^ 150 := by decide
  -- the names
  refine ⟨_, rfl, by show 4 ≤ sizeLine; decide, fun p0 hp0 => ?_⟩
  have hL1 := hL.put (o := .lst (([8, 1, 2, 3] : List Int).map V.int)) hp0
  refine ⟨_, rfl, _, s, 4, t, rfl, hL1, Many.of (by decide) (by decide), by omega, fun H1 d d0 d1 hL2 => ?_⟩
  obtain ⟨z, hz, hzm⟩ := at_int (ns := ([8, 1, 2, 3] : List Int)) d0 d1
  have hz8 : 1 ≤ z ∧ z ≤ 8 := by
    simp only [List.mem_cons, List.not_mem_nil, or_false] at hzm
    omega
  obtain ⟨nn, rfl⟩ : ∃ nn : Nat, z = (nn : Int) := ⟨z.toNat, by omega⟩
  refine ⟨p0, _, _, _, rfl, rfl, SqL.of (hL2.same _ _ upd_same), hz, H0, s, nn, t + 1, rfl, hL2.less (Same.new_ (hL.same.free hp0)), by omega, by omega, fun F1 H2 pn ns eF1 hpn hns hnl hL3 => ?_⟩
  -- many, lag
  refine ⟨_, rfl, F1, s, _, rfl, hL3, by omega, fun H3 many m1 m2 hL4 => ?_⟩
  refine ⟨_, rfl, F1, s, _, rfl, hL4, by omega, fun H4 lag l1 l2 hL5 => ?_⟩
  -- near
  refine ⟨_, rfl, _, rfl, _, _, rfl, rfl, _, _, rfl, rfl, by unfold CPow; decide, by show 4 ≤ sizeLine; decide, fun p1 hp1 => ?_⟩
  have hL6 := hL5.put (o := .lst (([1, 4, many + lag, (10 : Int) ^ (40 : Int).toNat] : List Int).map V.int)) hp1
  refine ⟨_, rfl, _, s, 4, _, rfl, hL6, Many.of (by decide) (by decide), by omega, fun H5 e e0 e1 hL7 => ?_⟩
  obtain ⟨near, hnear, hnm⟩ := at_int (ns := ([1, 4, many + lag, (10 : Int) ^ (40 : Int).toNat] : List Int)) e0 e1
  have hn : 1 ≤ near ∧ near < 2 ^ 160 := by
    have e40 : (10 : Int) ^ (40 : Int).toNat = 10 ^ 40 := rfl
    rw [e40] at hnm
    simp only [List.mem_cons, List.not_mem_nil, or_false] at hnm
    omega
  refine ⟨p1, _, _, _, rfl, rfl, SqL.of (hL7.same _ _ upd_same), hnear, ?_⟩
  have hL8 := hL7.less (Same.new_ (hL5.same.free hp1))
  -- base, way
  refine ⟨_, rfl, F1, s, 3, _, rfl, hL8, Many.of (by decide) (by decide), by omega, fun H6 way _ _ hL9 => ?_⟩
  refine ⟨fun σ' H' => ∃ b : Int, LSt F1 H' s (t + 300) ∧ σ' = [some (.ref s), some (.int (n : Int)), some (.int 4), some (.ref pn), some (.int many), some (.int lag), some (.int near), some (.int b), some (.int way), none, none, none, none, none], ?_, ?_⟩
  · refine ⟨_, rfl, rfl, _, rfl, iteD2 (fun _ => ?_) (fun _ => ?_)⟩
    · exact ⟨_, rfl, _, _, rfl, rfl, by unfold CPow; decide, F1, s, _, _, rfl, hL9, by decide, by decide, by omega, fun H7 b hL10 => ⟨b, hL10.mono (by omega), rfl⟩⟩
    · exact ⟨0, hL9.mono (by omega), rfl⟩
  rintro σ' H7 ⟨b, hL10, rfl⟩
  refine ⟨fun σ' H' => ∃ b : Int, LSt F1 H' s (t + 301) ∧ σ' = [some (.ref s), some (.int (n : Int)), some (.int 4), some (.ref pn), some (.int many), some (.int lag), some (.int near), some (.int b), some (.int way), none, none, none, none, none], ?_, ?_⟩
  · refine ⟨_, rfl, rfl, _, rfl, iteD2 (fun _ => ?_) (fun _ => ?_)⟩
    · exact ⟨_, rfl, _, rfl, F1, s, near, _, rfl, hL10, Many.of (by omega) (by omega), by omega, fun H8 b' _ _ hL11 => ⟨_, rfl, -b', hL11.mono (by omega), rfl⟩⟩
    · exact ⟨b, hL10.mono (by omega), rfl⟩
  rintro σ' H8 ⟨b, hL11, rfl⟩
  -- plans = []
  refine ⟨Nat.zero_le _, fun p hp => ?_⟩
  have hp0' := hL11.same.free hp
  have hL12 := hL11.put (o := .lst []) hp
  refine ⟨_, rfl, _, rfl, by omega, by omega, for_range (lo := 0) (n := n) (fun i σ H' => ∃ (F : Hp) (xs : List V) (ps : List Plan) (b10 b11 b12 b13 : Option V), σ = [some (.ref s), some (.int (n : Int)), some (.int 4), some (.ref pn), some (.int many), some (.int lag), some (.int near), some (.int b), some (.int way), some (.ref p), b10, b11, b12, b13] ∧
      Same F1 F ∧ F p = none ∧ LSt (upd F p (.lst xs)) H' s (t + 301 + 60 * i) ∧ DpAll K F xs (ps.map dPlan) ∧ ps.length = i ∧ ∀ p ∈ ps, PlanOk p)
    ⟨F1, [], [], _, _, _, _, rfl, Same.refl F1, hp0', hL12.mono (by omega), .nil, rfl, fun p h => (nomatch h)⟩ ?_ ?_⟩
  · rintro i σ H' hi ⟨F, xs, ps, b10, b11, b12, b13, rfl, eF, fp, hL13, hxs, hpl, hok⟩
    have lx : xs.length = i := by rw [hxs.length, List.length_map, hpl]
    have hpnF : ∀ G : Hp, Same F G → SqL K G pn (ns.map V.str) := fun G e => SqL.of (e _ _ (eF _ _ hpn))
    -- the stays
    refine ⟨_, rfl, _, rfl, _, rfl, _, rfl, _, rfl, F, s, pn, p, _, many, lag, _, ns, rfl, fp, hL13, hpnF F (Same.refl F), hns, by omega, by omega, by omega, by omega, by omega, by omega, fun F2 H9 v ss eF2 fp2 hv hss hL14 => ?_⟩
    have eFx : Same F (upd F2 p (.lst xs)) := eF2.to fp2
    -- the start
    refine ⟨_, rfl, _, rfl, _, rfl, _, s, near, _, rfl, hL14, Many.of (by omega) (by omega), by omega, fun H10 u _ _ hL15 => ⟨_, _, rfl, rfl, ?_⟩⟩
    -- the name
    refine ⟨_, rfl, _, rfl, _, rfl, pn, _, rfl, .inl (hL15.same.seq (hpnF _ eFx)), _, s, _, _, rfl, hL15, Many.of (by rw [List.length_map]; omega) (by rw [List.length_map]; omega), by omega, fun H11 g g0 g1 hL16 => ?_⟩
    obtain ⟨nv, hnv, hnvm⟩ := at_in (xs := ns.map V.str) g0 g1
    obtain ⟨nm0, _, rfl⟩ := List.mem_map.mp hnvm
    refine ⟨pn, _, _, _, rfl, rfl, hL16.same.seq (hpnF _ eFx), hnv, ?_⟩
    refine ⟨fun σ' H' => ∃ nm : Str, LSt (upd F2 p (.lst xs)) H' s (t + 301 + 60 * i + 30) ∧ σ' = [some (.ref s), some (.int (n : Int)), some (.int 4), some (.ref pn), some (.int many), some (.int lag), some (.int near), some (.int b), some (.int way), some (.ref p), some (.int (0 + (i : Int))), some v, some (.int (b + u)), some (.str nm)], ?_, ?_⟩
    · refine ⟨_, rfl, _, s, 6, _, rfl, hL16, Many.of (by decide) (by decide), by omega, fun H12 g' _ _ hL17 => ⟨rfl, _, rfl, iteD2 (fun _ => ?_) (fun _ => ?_)⟩⟩
      · refine ⟨by show 5 ≤ sizeLine; decide, fun p2 hp2 => ?_⟩
        have hL18 := hL17.put (o := .lst (([("" : Str), "Guide 7", "hall", "closing", "-"] : List Str).map V.str)) hp2
        refine ⟨_, rfl, _, s, 5, _, rfl, hL18, Many.of (by decide) (by decide), by omega, fun H13 g2 g20 g21 hL19 => ?_⟩
        obtain ⟨v2, hv2, hv2m⟩ := at_in (xs := ([("" : Str), "Guide 7", "hall", "closing", "-"] : List Str).map V.str) g20 g21
        obtain ⟨nm, _, rfl⟩ := List.mem_map.mp hv2m
        exact ⟨p2, _, _, _, rfl, rfl, SqL.of (hL19.same _ _ upd_same), hv2, nm, (hL19.less (Same.new_ (hL17.same.free hp2))).mono (by omega), rfl⟩
      · exact ⟨nm0, hL17.mono (by omega), rfl⟩
    rintro σ' H12 ⟨nm, hL17, rfl⟩
    -- the lengths, the row
    have hpx := hL17.same _ _ upd_same
    refine ⟨_, rfl, .inl ⟨rfl, _, SqL.of hpx⟩, _, rfl, _, rfl, _, rfl, _, rfl, _, rfl, F2, s, p, _, v, _, ss, rfl, fp2, hL17, hv, hss, by omega, fun F3 H13 v' ls eF3 fp3 hv' hfit hL18 => ⟨by show 4 ≤ sizeLine; decide, fun m hm => ?_⟩⟩
    have hpx3 := hL18.same _ _ upd_same
    have hpm : p ≠ m := ne_of_none hpx3 hm
    refine ⟨p, xs, .ref m, rfl, rfl, by rw [upd_ne hpm]; exact hpx3, by omega, ?_⟩
    have hFm : F3 m = none := by
      have := hL18.same.free hm
      rwa [upd_ne (Ne.symm hpm)] at this
    have hL19 := (hL18.put (o := .tup [.str nm, v, .int (b + u), v']) hm).wr (p := p) (u := .lst xs) (o := .lst (xs ++ [.ref m])) (by rw [upd_ne hpm, upd_same])
    rw [upd_comm hpm, upd_upd] at hL19
    have eG : Same F3 (upd F3 m (.tup [.str nm, v, .int (b + u), v'])) := Same.new_ hFm
    refine ⟨upd F3 m (.tup [.str nm, v, .int (b + u), v']), xs ++ [.ref m], ps ++ [⟨nm, ss, b + u, ls⟩], _, _, _, _, rfl, ((eF.trans eF2).trans eF3).trans eG, by rw [upd_ne hpm]; exact fp3, hL19.mono (by omega), ?_, by rw [List.length_append, hpl]; rfl, fun x hx => ?_⟩
    · rw [List.map_append]
      refine (hxs.same ((eF2.trans eF3).trans eG)).snoc ?_
      exact .tup (SqT.of upd_same) (.cons (.str _) (.cons (hv.same (eF3.trans eG)) (.cons (.int _) (.cons (hv'.same eG) .nil))))
    · rcases List.mem_append.mp hx with h | h
      · exact hok x h
      · have : x = ⟨nm, ss, b + u, ls⟩ := by simpa using h
        subst this
        exact ⟨hss, hfit⟩
  · rintro σ H' ⟨F, xs, ps, b10, b11, b12, b13, rfl, eF, fp, hL13, hxs, hpl, hok⟩
    refine ⟨_, rfl, k (upd F p (.lst xs)) H' _ ps ((eF1.trans eF).to fp) hL13.same (.lst (SqL.of upd_same) (hxs.same (Same.new_ fp))) hpl hok⟩
end
end NRW
/-! The waiting house over the heap. -/
namespace NRW
open PySem PySem.Spec PyProof.Rows L2
/-! ### mutable lists by slots -/
inductive Sl where
  | row (k : Nat)
  | due
  | que (r : Str)
  deriving DecidableEq
structure Lists (F H : Hp) (Vd : Sl → Prop) (ad : Sl → Addr) (cont : Sl → List V) : Prop where
  same : Same F H
  free : ∀ a, Vd a → F (ad a) = none
  inj : ∀ a b, Vd a → Vd b → ad a = ad b → a = b
  at_ : ∀ a, Vd a → H (ad a) = some (.lst (cont a))
section
variable {F H H' : Hp} {Vd : Sl → Prop} {ad : Sl → Addr} {cont : Sl → List V}
theorem Lists.wr (l : Lists F H Vd ad cont) {a : Sl} (ha : Vd a) (xs : List V) : Lists F (upd H (ad a) (.lst xs)) Vd ad (NR.up cont a xs) where
  same := l.same.mut (l.free a ha)
  free := l.free
  inj := l.inj
  at_ := fun b hb => by
    by_cases e : b = a
    · subst e; rw [upd_same, NR.up_same]
    · rw [upd_ne (fun q => e (l.inj b a hb ha q)), NR.up_ne e]; exact l.at_ b hb
theorem Lists.grow (l : Lists F H Vd ad cont) (s : Same H H') : Lists F H' Vd ad cont :=
  ⟨l.same.trans s, l.free, l.inj, fun a ha => s _ _ (l.at_ a ha)⟩
/-- an object of another kind, not in F, changes -/
theorem Lists.oth (l : Lists F H Vd ad cont) {p : Addr} {u o : HO} (hp : H p = some u) (hF : F p = none) (hu : ∀ xs, u ≠ .lst xs) : Lists F (upd H p o) Vd ad cont :=
  ⟨l.same.mut hF, l.free, l.inj, fun a ha => by rw [upd_ne (ne_of (l.at_ a ha) hp (fun e => hu _ e.symm))]; exact l.at_ a ha⟩
theorem Lists.add (l : Lists F H Vd ad cont) {b : Sl} {p : Addr} (hb : ¬ Vd b) (hp : H p = none) (xs : List V) : Lists F (upd H p (.lst xs)) (fun a => Vd a ∨ a = b) (NR.up ad b p) (NR.up cont b xs) where
  same := l.same.to hp
  free := fun a ha => by
    by_cases e : a = b
    · subst e; rw [NR.up_same]; exact l.same.free hp
    · rw [NR.up_ne e]; exact l.free a (ha.resolve_right e)
  inj := fun a c ha hc e => by
    have old : ∀ a, Vd a → ad a ≠ p := fun a ha => ne_of_none (l.at_ a ha) hp
    by_cases ea : a = b
    · by_cases ec : c = b
      · rw [ea, ec]
      · rw [ea, NR.up_same, NR.up_ne ec] at e
        exact (old c (hc.resolve_right ec) e.symm).elim
    · by_cases ec : c = b
      · rw [ec, NR.up_same, NR.up_ne ea] at e
        exact (old a (ha.resolve_right ea) e).elim
      · rw [NR.up_ne ea, NR.up_ne ec] at e
        exact l.inj a c (ha.resolve_right ea) (hc.resolve_right ec) e
  at_ := fun a ha => by
    by_cases e : a = b
    · subst e; rw [NR.up_same, NR.up_same, upd_same]
    · rw [NR.up_ne e, NR.up_ne e, upd_ne (ne_of_none (l.at_ a (ha.resolve_right e)) hp)]
      exact l.at_ a (ha.resolve_right e)
theorem Lists.put (l : Lists F H Vd ad cont) {p : Addr} {o : HO} (hp : H p = none) : Lists (upd F p o) (upd H p o) Vd ad cont where
  same := l.same.ins (l.same.free hp)
  free := fun a ha => by rw [upd_ne (ne_of_none (l.at_ a ha) hp)]; exact l.free a ha
  inj := l.inj
  at_ := fun a ha => by rw [upd_ne (ne_of_none (l.at_ a ha) hp)]; exact l.at_ a ha
theorem Lists.less {G : Hp} (l : Lists F H Vd ad cont) (s : Same G F) : Lists G H Vd ad cont :=
  ⟨s.trans l.same, fun a ha => s.free (l.free a ha), l.inj, l.at_⟩
end
/-! ### lists over 0 .. n - 1 -/
theorem rng_get {α : Type} {n k : Nat} (f : Nat → α) (h : k < n) : ((List.range n).map f)[k]? = some (f k) := by
  rw [List.getElem?_map, List.getElem?_range h]; rfl
theorem rng_set {α : Type} {n k : Nat} (f : Nat → α) (v : α) : ((List.range n).map f).set k v = (List.range n).map (NR.up f k v) := by
  apply List.ext_getElem?
  intro i
  rw [List.getElem?_set]
  by_cases e : k = i
  · subst e
    by_cases hk : k < n
    · rw [if_pos rfl, if_pos (by rw [List.length_map, List.length_range]; exact hk), rng_get _ hk, NR.up_same]
    · rw [if_pos rfl, if_neg (by rw [List.length_map, List.length_range]; exact hk), List.getElem?_eq_none_iff.mpr (by rw [List.length_map, List.length_range]; omega)]
  · rw [if_neg e]
    by_cases hi : i < n
    · rw [rng_get _ hi, rng_get _ hi, NR.up_ne (Ne.symm e)]
    · rw [List.getElem?_eq_none_iff.mpr (by rw [List.length_map, List.length_range]; omega), List.getElem?_eq_none_iff.mpr (by rw [List.length_map, List.length_range]; omega)]
theorem nd_len {α : Type} [DecidableEq α] : ∀ {l m : List α}, l.Nodup → (∀ x ∈ l, x ∈ m) → l.length ≤ m.length
  | [], _, _, _ => Nat.zero_le _
  | a :: l, m, hn, hs => by
    have hn' := List.nodup_cons.mp hn
    have ha := hs a List.mem_cons_self
    have := nd_len (l := l) (m := m.erase a) hn'.2 (fun x hx => (List.mem_erase_of_ne (fun e => hn'.1 (by rw [← e]; exact hx))).mpr (hs x (List.mem_cons_of_mem _ hx)))
    rw [List.length_erase_of_mem ha] at this
    have hm := List.length_pos_of_mem ha
    rw [List.length_cons]
    omega
/-! ### dicts -/
theorem putK_keys {κ : Type} [DecidableEq κ] (kvs : List (κ × V)) (k : κ) (v : V) : ((putK kvs k v).map (·.1) = kvs.map (·.1) ∧ (valV kvs k).isSome = true) ∨ ((putK kvs k v).map (·.1) = kvs.map (·.1) ++ [k] ∧ valV kvs k = none) := by
  cases h : valV kvs k with
  | none => right; rw [putK_new v h, List.map_append]; exact ⟨rfl, rfl⟩
  | some u =>
    left
    refine ⟨?_, rfl⟩
    unfold putK
    rw [if_pos (by rw [valV_any, h]; rfl), List.map_map]
    apply List.map_congr_left
    intro kv _
    show (if kv.1 = k then (kv.1, v) else kv).1 = kv.1
    split <;> rfl
def qkv (keys : List Str) (f : Str → Addr) : List (Key × V) := keys.map fun r => (Sum.inr r, .ref (f r))
theorem qkv_val (f : Str → Addr) (r : Str) : ∀ keys : List Str, valV (qkv keys f) (Sum.inr r) = if r ∈ keys then some (.ref (f r)) else none
  | [] => by simp [qkv, valV_nil]
  | k :: keys => by
    show valV ((Sum.inr k, V.ref (f k)) :: qkv keys f) (Sum.inr r) = _
    by_cases e : k = r
    · subst e
      rw [valV_pos rfl, if_pos List.mem_cons_self]
    · rw [valV_neg (fun q => e (Sum.inr.inj q)), qkv_val f r keys]
      have e' : ¬ r = k := fun q => e q.symm
      simp [List.mem_cons, e']
/-! ### the house -/
abbrev SS := NR.S Str
def insV : Option Nat → V
  | none => .non
  | some p => .int (p : Int)
def vq (e : Int × Nat) : List V := [.int e.1, .int (e.2 : Int)]
def d2 (e : Str × Int) : PyData := .tuple [.str e.1, .int e.2]
def dHPlan (st : Nat → Int) (ss : Nat → List (Str × Int)) (k : Nat) : PyData := .tuple [.int (st k), .list ((ss k).map d2)]
abbrev dHPlans (n : Nat) (st : Nat → Int) (ss : Nat → List (Str × Int)) : PyData := .list ((List.range n).map (dHPlan st ss))
def RM (n : Nat) (ss : Nat → List (Str × Int)) : List Str := (List.range n).flatMap fun p => (ss p).map (·.1)
theorem mem_RM {n : Nat} {ss : Nat → List (Str × Int)} {p i : Nat} {r : Str} {l : Int} (hp : p < n) (h : (ss p)[i]? = some (r, l)) : r ∈ RM n ss :=
  List.mem_flatMap.mpr ⟨p, List.mem_range.mpr hp, List.mem_map.mpr ⟨(r, l), List.mem_of_getElem? h, rfl⟩⟩
def VdOk (n : Nat) (keys : List Str) : Sl → Prop
  | .row k => k < n
  | .due => True
  | .que r => r ∈ keys
structure HAt0 (K : PySem.W.Frag) (F H : Hp) (x : Addr) (n : Nat) (st : Nat → Int) (ss : Nat → List (Str × Int)) (S : SS) (keys : List Str) (dx pl rl dl il ql : Addr) (fs : List (Str × V)) (ad : Sl → Addr) (cont : Sl → List V) (kvi : List (Key × V)) : Prop where
  ls : Lists F H (VdOk n keys) ad cont
  hx : F x = some (.ins (He.ga K "House") dx fs)
  f1 : fs.lookup ("plans" : Str) = some (.ref pl)
  f2 : fs.lookup ("rows" : Str) = some (.ref rl)
  f3 : fs.lookup ("due" : Str) = some (.ref dl)
  f4 : fs.lookup ("inside" : Str) = some (.ref il)
  f5 : fs.lookup ("queues" : Str) = some (.ref ql)
  meth : ∀ m : Str, m ≠ "plans" → m ≠ "rows" → m ≠ "due" → m ≠ "inside" → m ≠ "queues" → fs.lookup m = none
  hp : Dp K F (.ref pl) (dHPlans n st ss)
  hr : F rl = some (.lst ((List.range n).map fun k => .ref (ad (.row k))))
  ed : ad .due = dl
  cd : cont .due = (List.range n).map fun k => optV (S.due k)
  cr : ∀ k, k < n → Tups H (cont (.row k)) ((S.rows k).map vRow)
  cq : ∀ r, r ∈ keys → Tups H (cont (.que r)) ((S.que r).map vq)
  nq : ∀ r, ¬ r ∈ keys → S.que r = []
  kn : keys.Nodup
  ks : ∀ r, r ∈ keys → r ∈ RM n ss
  hi : H il = some (.dK kvi)
  fi : F il = none
  vi : ∀ r : Str, (valV kvi (Sum.inr r)).getD .non = insV (S.ins r)
  ik : (kvi.map (·.1)).Nodup
  isub : ∀ k ∈ kvi.map (·.1), k ∈ (RM n ss).map Sum.inr
  hq : H ql = some (.dK (qkv keys fun r => ad (.que r)))
  fq : F ql = none
  iq : il ≠ ql
  rm : ∀ k w, k < n → w ∈ S.rows k → w.room ∈ RM n ss
  nn : n ≤ 6
  s4 : ∀ k, (ss k).length ≤ 4
def HAt (K : PySem.W.Frag) (F H : Hp) (x : Addr) (n : Nat) (st : Nat → Int) (ss : Nat → List (Str × Int)) (S : SS) (keys : List Str) : Prop :=
  ∃ dx pl rl dl il ql fs ad cont kvi, HAt0 K F H x n st ss S keys dx pl rl dl il ql fs ad cont kvi
theorem RM_len {n : Nat} {ss : Nat → List (Str × Int)} (nn : n ≤ 6) (s4 : ∀ k, (ss k).length ≤ 4) : (RM n ss).length ≤ 24 := by
  have : ∀ n, (RM n ss).length ≤ 4 * n := by
    intro n
    induction n with
    | zero => exact Nat.le_refl _
    | succ n ih =>
      unfold RM at ih ⊢
      rw [List.range_succ, List.flatMap_append, List.length_append]
      have := s4 n
      simp only [List.flatMap_cons, List.flatMap_nil, List.append_nil, List.length_map]
      omega
  have := this n
  omega
section
variable {K : PySem.W.Frag} {F H H' : Hp} {x : Addr} {n : Nat} {st : Nat → Int} {ss : Nat → List (Str × Int)} {S : SS} {keys : List Str} {dx pl rl dl il ql : Addr} {fs : List (Str × V)} {ad : Sl → Addr} {cont : Sl → List V} {kvi : List (Key × V)}
theorem HAt0.keysLen (h : HAt0 K F H x n st ss S keys dx pl rl dl il ql fs ad cont kvi) : keys.length ≤ 24 := Nat.le_trans (nd_len h.kn h.ks) (RM_len h.nn h.s4)
theorem HAt0.insLen (h : HAt0 K F H x n st ss S keys dx pl rl dl il ql fs ad cont kvi) : kvi.length ≤ 24 := by
  have := nd_len h.ik h.isub
  rw [List.length_map, List.length_map] at this
  exact Nat.le_trans this (RM_len h.nn h.s4)
theorem HAt0.grow (h : HAt0 K F H x n st ss S keys dx pl rl dl il ql fs ad cont kvi) (s : Same H H') : HAt0 K F H' x n st ss S keys dx pl rl dl il ql fs ad cont kvi :=
  { h with ls := h.ls.grow s, cr := fun k hk => (h.cr k hk).stay (TStay.of s), cq := fun r hr => (h.cq r hr).stay (TStay.of s), hi := s _ _ h.hi, hq := s _ _ h.hq }
theorem HAt.grow (h : HAt K F H x n st ss S keys) (s : Same H H') : HAt K F H' x n st ss S keys := by
  obtain ⟨_, _, _, _, _, _, _, _, _, _, h⟩ := h
  exact ⟨_, _, _, _, _, _, _, _, _, _, h.grow s⟩
theorem HAt.same (h : HAt K F H x n st ss S keys) : Same F H := by
  obtain ⟨_, _, _, _, _, _, _, _, _, _, h⟩ := h
  exact h.ls.same
theorem HAt.put {p : Addr} {o : HO} (h : HAt K F H x n st ss S keys) (hp : H p = none) : HAt K (upd F p o) (upd H p o) x n st ss S keys := by
  obtain ⟨dx, pl, rl, dl, il, ql, fs, ad, cont, kvi, h⟩ := h
  have hFp := h.ls.same.free hp
  exact ⟨dx, pl, rl, dl, il, ql, fs, ad, cont, kvi, { h with
    ls := h.ls.put hp
    hx := Same.new_ hFp _ _ h.hx
    hp := h.hp.same (Same.new_ hFp)
    hr := Same.new_ hFp _ _ h.hr
    cr := fun k hk => (h.cr k hk).stay ((TStay.refl _).new hp)
    cq := fun r hr => (h.cq r hr).stay ((TStay.refl _).new hp)
    hi := Same.new_ hp _ _ h.hi
    hq := Same.new_ hp _ _ h.hq
    fi := by rw [upd_ne (ne_of_none h.hi hp)]; exact h.fi
    fq := by rw [upd_ne (ne_of_none h.hq hp)]; exact h.fq }⟩
/-- back to what stood beside it before -/
theorem HAt.back {G : Hp} {S0 : SS} {keys0 : List Str} (h0 : HAt K F H x n st ss S0 keys0) (h : HAt K G H' x n st ss S keys) (s : Same F G) : HAt K F H' x n st ss S keys := by
  obtain ⟨dx0, pl0, rl0, dl0, il0, ql0, fs0, ad0, cont0, kvi0, h0⟩ := h0
  obtain ⟨dx, pl, rl, dl, il, ql, fs, ad, cont, kvi, h⟩ := h
  have e1 := s _ _ h0.hx
  rw [h.hx] at e1
  injection e1 with e1
  injection e1 with _ e2 e3
  subst e2 e3
  have e4 := h0.f2
  rw [h.f2] at e4
  cases e4
  have e5 := h0.f1
  rw [h.f1] at e5
  cases e5
  have e6 := s _ _ h0.hr
  rw [h.hr] at e6
  exact ⟨_, _, _, _, _, _, _, ad, cont, kvi, { h with ls := h.ls.less s, hx := h0.hx, hp := h0.hp, hr := by rw [h0.hr]; exact e6.symm, fi := s.free h.fi, fq := s.free h.fq }⟩
end
end NRW
/-! Run.__init__, House.__init__. -/
namespace NRW
open PySem PySem.Spec PyProof.Rows L2
def spRunInit (K : PySem.W.Frag) : Sp := fun vs H Q _ => ∃ (H0 : Hp) (x dx a b : Addr) (xs ys : List V), vs = [.ref x, .ref a, .ref b] ∧ Same H0 H ∧ H0 x = none ∧ H x = some (.ins (He.ga K "Run") dx []) ∧ SqL K H0 a xs ∧ SqL K H0 b ys ∧
  ∀ H' p q, Same H0 H' → RunAt K H' x (.ref p) (.ref q) → H' p = some (.lst xs) → H' q = some (.lst ys) → Q .non H'
def spHouse (K : PySem.W.Frag) : Sp := fun vs H Q _ => ∃ (H0 : Hp) (x dx : Addr) (v : V) (n : Nat) (st : Nat → Int) (ss : Nat → List (Str × Int)), vs = [.ref x, v] ∧ Same H0 H ∧ H0 x = none ∧ H x = some (.ins (He.ga K "House") dx []) ∧ Dp K H0 v (dHPlans n st ss) ∧ n ≤ 6 ∧ (∀ k, (ss k).length ≤ 4) ∧
  ∀ F H', Same H0 F → HAt K F H' x n st ss (NR.S.start n st) [] → Q .non H'
theorem mapref_get {as : List Addr} {k : Nat} (h : k < as.length) : as[k]? = some (as.getD k 0) := by
  rw [List.getD_eq_getElem?_getD, List.getElem?_eq_getElem h]; rfl
section
variable {P : Program} {w : World} {K : PySem.W.Frag} {mg : Str → Option Value} {base : Heap}
theorem sc_Run_init : FnScope ["self", "walks", "waits"] ["self", "walks", "waits"] (defScope s_Run_init) := ⟨rfl, rfl, rfl, by decide +kernel, rfl, by decide +kernel, by decide +kernel⟩
theorem d_Run_init (T : Txt K mg) : DefM P w K mg base "Run" "__init__" 1 ["self", "walks", "waits"] (spRunInit K) := by
  refine DefM.of T.f_Run_init sc_Run_init (fun vs H Q E h => ?_) (fun _ _ _ _ _ _ us hl => match us, hl with | [_, _, _], _ => rfl) (fun f cdv A outer s H vs Q E hr h => ?_)
  · obtain ⟨_, _, _, _, _, _, _, rfl, _⟩ := h
    rfl
  obtain ⟨H0, x, dx, a, b, xs, ys, rfl, hS, hx0, hx, ha, hb, k⟩ := h
  have c := T.c_Run
  refine ⟨_, pss_cons (ps_fld (pv 0) (pe_callTy call_list_of (by rfl) T.n_list (by decide +kernel) (pa_cons (pv 1) pa_nil)) rfl)
    (pss_one (ps_fld (pv 0) (pe_callTy call_list_of (by rfl) T.n_list (by decide +kernel) (pa_cons (pv 2) pa_nil)) rfl)), ?_⟩
  refine ⟨_, rfl, a, xs, rfl, .inl (hS.seq ha), fun p hp => ⟨_, rfl, x, _, dx, [], rfl, Same.new_ hp _ _ hx, c.cl, T.n_Run_walks, by show 0 < 1000; decide, ?_⟩⟩
  have hxp : x ≠ p := ne_of_none hx hp
  have S1 : Same H0 (upd (upd H p (.lst xs)) x (.ins (He.ga K "Run") dx (putF "walks" (.ref p) []))) := (hS.to hp).mut hx0
  refine ⟨_, rfl, b, ys, rfl, .inl (S1.seq hb), fun q hq => ⟨_, rfl, x, _, dx, _, rfl, Same.new_ hq _ _ upd_same, c.cl, T.n_Run_waits, by show 1 < 1000; decide, ?_⟩⟩
  have hxq : x ≠ q := ne_of_none upd_same hq
  have hpq : p ≠ q := ne_of_none (by rw [upd_ne (Ne.symm hxp), upd_same]) hq
  refine k _ p q ((S1.to hq).mut hx0) ⟨dx, _, upd_same, ?_, ?_⟩ ?_ ?_
  · rw [lookup_putF, if_neg (by decide +kernel), lookup_putF, if_pos rfl]
  · rw [lookup_putF, if_pos rfl]
  · rw [upd_ne (Ne.symm hxp), upd_ne hpq, upd_ne (Ne.symm hxp), upd_same]
  · rw [upd_ne (Ne.symm hxq), upd_same]
abbrev N_House_init : List Str := ["self", "plans", "_", "start"]
theorem sc_House_init : FnScope N_House_init ["self", "plans"] (defScope s_House_init) := ⟨rfl, rfl, rfl, by decide +kernel, rfl, by decide +kernel, by decide +kernel⟩
theorem d_House_init (T : Txt K mg) : DefM P w K mg base "House" "__init__" 1 ["self", "plans"] (spHouse K) := by
  refine DefM.of T.f_House_init sc_House_init (fun vs H Q E h => ?_) (fun _ _ _ _ _ _ us hl => match us, hl with | [_, _], _ => rfl) (fun f cdv A outer s H vs Q E hr h => ?_)
  · obtain ⟨_, _, _, _, _, _, _, rfl, _⟩ := h
    rfl
  obtain ⟨H0, x, dx, v, n, st, ss, rfl, hS, hx0, hx, hv, nn, s4, k⟩ := h
  obtain ⟨a, xs, rfl, ha, hxs⟩ := hv.list
  have hxl : xs.length = n := by rw [hxs.length, List.length_map, List.length_range]
  have c := T.c_House
  have nd := sc_House_init.nd
  refine ⟨_, pss_cons (ps_fld (pv 0) (pv 1) rfl)
    (pss_cons (ps_fld (pv 0) (pe_lc (own := [("_", 2)]) (g := gName 2) (tt := tYes) rfl nd (pi_list (pv 1)) (blkOk_by (own := [("_", 2)]) (N := N_House_init) (sc := defScope s_House_init) (by decide +kernel)) (fun _ _ _ _ _ => pg_name (i := 2) nd rfl (Or.inl rfl)) (fun _ _ _ _ _ => pts_nil) (fun _ _ _ _ _ => pe_lst pa_nil)) rfl)
    (pss_cons (ps_fld (pv 0) (pe_lc (own := [("start", 3), ("_", 2)]) (tt := tYes) rfl nd (pi_list (pv 1)) (blkOk_by (own := [("start", 3), ("_", 2)]) (N := N_House_init) (sc := defScope s_House_init) (by decide +kernel)) (fun _ _ _ _ _ => pg_tupK (K := K) (n := 2) rfl rfl (pgs_cons (pg_name (i := 3) nd rfl (Or.inl rfl)) (pgs_cons (pg_name (i := 2) nd rfl (Or.inl rfl)) pgs_nil))) (fun _ _ _ _ _ => pts_nil) (fun _ _ _ _ _ => pv 3)) rfl)
    (pss_cons (ps_fld (pv 0) pe_dnewK rfl) (pss_one (ps_fld (pv 0) pe_dnewK rfl))))), ?_⟩
  have big : (1000 : Nat) < sizeLine := by decide
  -- self.plans = plans
  refine ⟨_, rfl, _, rfl, x, _, dx, [], rfl, hx, c.cl, T.n_House_plans, by show 0 < 1000; decide, ?_⟩
  have S1 := hS.mut (o := .ins (He.ga K "House") dx (putF "plans" (.ref a) [])) hx0
  have X1 : upd H x (.ins (He.ga K "House") dx (putF "plans" (.ref a) [])) x = some (.ins (He.ga K "House") dx (putF "plans" (.ref a) [])) := upd_same
  revert S1 X1
  generalize upd H x (.ins (He.ga K "House") dx (putF "plans" (.ref a) [])) = H1
  intro S1 X1
  -- self.rows
  refine ⟨_, rfl, a, rfl, ⟨_, S1.seq ha⟩, fun D hD => lc_list (K := K) (a := a) (xs := xs) (fun i H' => Same H1 H' ∧ ∃ as : List Addr, as.length = i ∧ as.Nodup ∧ (∀ b ∈ as, H' b = some (.lst []) ∧ H1 b = none) ∧ ¬ D ∈ as ∧ H' D = some (.lst (as.map V.ref)))
    ⟨Same.new_ hD, [], rfl, List.nodup_nil, fun b h => (nomatch h), fun h => (nomatch h), upd_same⟩ (fun i H' _ ⟨e, _⟩ => (S1.trans e).seq ha) ?_ ?_⟩
  · rintro i y H' hi ⟨e0, as, el, en, ea, eD, hDl⟩
    have hil : i < xs.length := (List.getElem?_eq_some_iff.mp hi).1
    refine ⟨rfl, Nat.zero_le _, fun p hp => ?_⟩
    have hDp : D ≠ p := ne_of_none hDl hp
    have hap : ∀ b ∈ as, b ≠ p := fun b hb => ne_of_none (ea b hb).1 hp
    refine ⟨as.map V.ref, by rw [upd_ne hDp]; exact hDl, by rw [List.length_map]; omega, (e0.to hp).mut hD, as ++ [p], by rw [List.length_append, el]; rfl, ?_, fun b hb => ?_, fun hb => ?_, by rw [upd_same, List.map_append]; rfl⟩
    · rw [List.nodup_append]
      exact ⟨en, by simp, fun b hb b' hb' => by
        have : b' = p := by simpa using hb'
        rw [this]; exact hap b hb⟩
    · rcases List.mem_append.mp hb with hb | hb
      · have hbD : b ≠ D := fun e => eD (e ▸ hb)
        rw [upd_ne hbD, upd_ne (hap b hb)]
        exact ea b hb
      · have : b = p := by simpa using hb
        subst this
        rw [upd_ne (Ne.symm hDp), upd_same]
        exact ⟨rfl, e0.free hp⟩
    · rcases List.mem_append.mp hb with hb | hb
      · exact eD hb
      · exact hDp (by simpa using hb)
  rintro H2 ⟨e2, as, el, en, ea, eD, hDl⟩
  have S2 := S1.trans e2
  have X2 := e2 _ _ X1
  have xD : x ≠ D := ne_of_none X1 hD
  have xas : ∀ b ∈ as, b ≠ x := fun b hb => fun e => by
    have := (ea b hb).2
    rw [e, X1] at this
    cases this
  refine ⟨_, rfl, x, _, dx, _, rfl, X2, c.cl, T.n_House_rows, by show 1 < 1000; decide, ?_⟩
  have S3 := S2.mut (o := .ins (He.ga K "House") dx (putF "rows" (.ref D) (putF "plans" (.ref a) []))) hx0
  have X3 : upd H2 x (.ins (He.ga K "House") dx (putF "rows" (.ref D) (putF "plans" (.ref a) []))) x = some (.ins (He.ga K "House") dx (putF "rows" (.ref D) (putF "plans" (.ref a) []))) := upd_same
  have D3 : upd H2 x (.ins (He.ga K "House") dx (putF "rows" (.ref D) (putF "plans" (.ref a) []))) D = some (.lst (as.map V.ref)) := by rw [upd_ne (Ne.symm xD)]; exact hDl
  have A3 : ∀ b ∈ as, upd H2 x (.ins (He.ga K "House") dx (putF "rows" (.ref D) (putF "plans" (.ref a) []))) b = some (.lst []) := fun b hb => by rw [upd_ne (xas b hb)]; exact (ea b hb).1
  revert S3 X3 D3 A3
  generalize upd H2 x (.ins (He.ga K "House") dx (putF "rows" (.ref D) (putF "plans" (.ref a) []))) = H3
  intro S3 X3 D3 A3
  -- self.due
  refine ⟨_, rfl, a, rfl, ⟨_, S3.seq ha⟩, fun D2 hD2 => lc_list (K := K) (a := a) (xs := xs) (fun i H' => Same H3 H' ∧ H' D2 = some (.lst ((List.range i).map fun k => optV (some (st k)))))
    ⟨Same.new_ hD2, upd_same⟩ (fun i H' _ ⟨e, _⟩ => (S3.trans e).seq ha) ?_ ?_⟩
  · rintro i y H' hi ⟨e0, hDl2⟩
    have hil : i < xs.length := (List.getElem?_eq_some_iff.mp hi).1
    obtain ⟨d, hd, hyd⟩ := hxs.getV hi
    rw [rng_get _ (by omega)] at hd
    cases hd
    obtain ⟨t, us, rfl, ht, hus⟩ := hyd.tuple
    obtain ⟨u1, us, rfl, hu1, hus⟩ := hus.cons'
    obtain ⟨u2, us, rfl, hu2, hus⟩ := hus.cons'
    obtain rfl := hus.nil'
    obtain rfl := hu1.int'
    refine ⟨t, _, rfl, sqT_same (S3.trans e0) ht, rfl, _, _, rfl, _, _, rfl, rfl, rfl, _, rfl, _, hDl2, by rw [List.length_map, List.length_range]; omega, e0.mut hD2, ?_⟩
    rw [upd_same, List.range_succ, List.map_append]
    rfl
  rintro H4 ⟨e4, hD2l⟩
  rw [hxl] at hD2l
  have S4 := S3.trans e4
  have X4 := e4 _ _ X3
  have xD2 : x ≠ D2 := ne_of_none X3 hD2
  have DD2 : D ≠ D2 := ne_of_none D3 hD2
  have asD2 : ∀ b ∈ as, b ≠ D2 := fun b hb => ne_of_none (A3 b hb) hD2
  refine ⟨_, rfl, x, _, dx, _, rfl, X4, c.cl, T.n_House_due, by show 2 < 1000; decide, ?_⟩
  have S5 := S4.mut (o := .ins (He.ga K "House") dx (putF "due" (.ref D2) (putF "rows" (.ref D) (putF "plans" (.ref a) [])))) hx0
  have X5 : upd H4 x (.ins (He.ga K "House") dx (putF "due" (.ref D2) (putF "rows" (.ref D) (putF "plans" (.ref a) [])))) x = some (.ins (He.ga K "House") dx (putF "due" (.ref D2) (putF "rows" (.ref D) (putF "plans" (.ref a) [])))) := upd_same
  have D5 : upd H4 x (.ins (He.ga K "House") dx (putF "due" (.ref D2) (putF "rows" (.ref D) (putF "plans" (.ref a) [])))) D = some (.lst (as.map V.ref)) := by rw [upd_ne (Ne.symm xD)]; exact e4 _ _ D3
  have A5 : ∀ b ∈ as, upd H4 x (.ins (He.ga K "House") dx (putF "due" (.ref D2) (putF "rows" (.ref D) (putF "plans" (.ref a) [])))) b = some (.lst []) := fun b hb => by rw [upd_ne (xas b hb)]; exact e4 _ _ (A3 b hb)
  have E5 : upd H4 x (.ins (He.ga K "House") dx (putF "due" (.ref D2) (putF "rows" (.ref D) (putF "plans" (.ref a) [])))) D2 = some (.lst ((List.range n).map fun k => optV (some (st k)))) := by rw [upd_ne (Ne.symm xD2)]; exact hD2l
  have hD2H0 : H0 D2 = none := S3.free hD2
  have hDH0 : H0 D = none := S1.free hD
  revert S5 X5 D5 A5 E5
  generalize upd H4 x (.ins (He.ga K "House") dx (putF "due" (.ref D2) (putF "rows" (.ref D) (putF "plans" (.ref a) [])))) = H5
  intro S5 X5 D5 A5 E5
  -- self.inside = {}
  intro il hil
  refine ⟨_, rfl, x, _, dx, _, rfl, Same.new_ hil _ _ X5, c.cl, T.n_House_inside, by show 3 < 1000; decide, ?_⟩
  have xil : x ≠ il := ne_of_none X5 hil
  have Dil : D ≠ il := ne_of_none D5 hil
  have D2il : D2 ≠ il := ne_of_none E5 hil
  have asil : ∀ b ∈ as, b ≠ il := fun b hb => ne_of_none (A5 b hb) hil
  -- self.queues = {}
  intro ql hql
  have hql1 : upd H5 il (.dK []) ql = none := by
    by_cases e : ql = x
    · rw [e, upd_same] at hql; cases hql
    · rwa [upd_ne e] at hql
  have ilql : il ≠ ql := ne_of_none upd_same hql1
  have hql5 : H5 ql = none := by rwa [upd_ne (Ne.symm ilql)] at hql1
  have xql : x ≠ ql := ne_of_none X5 hql5
  have Dql : D ≠ ql := ne_of_none D5 hql5
  have D2ql : D2 ≠ ql := ne_of_none E5 hql5
  have asql : ∀ b ∈ as, b ≠ ql := fun b hb => ne_of_none (A5 b hb) hql5
  refine ⟨_, rfl, x, _, dx, _, rfl, Same.new_ hql _ _ upd_same, c.cl, T.n_House_queues, by show 4 < 1000; decide, ?_⟩
  have keyfs : ∀ (f : List (Str × V)), f = putF "queues" (.ref ql) (putF "inside" (.ref il) (putF "due" (.ref D2) (putF "rows" (.ref D) (putF "plans" (.ref a) [])))) → ∀ m : Str, f.lookup m = if m = "queues" then some (.ref ql) else if m = "inside" then some (.ref il) else if m = "due" then some (.ref D2) else if m = "rows" then some (.ref D) else if m = "plans" then some (.ref a) else none := fun f e m => by
    subst e
    rw [lookup_putF, lookup_putF, lookup_putF, lookup_putF, lookup_putF]
    rfl
  have fl := keyfs _ rfl
  revert fl
  generalize putF "queues" (.ref ql) (putF "inside" (.ref il) (putF "due" (.ref D2) (putF "rows" (.ref D) (putF "plans" (.ref a) [])))) = fs
  intro fl
  have asl : as.length = n := by rw [el, hxl]
  have adr : ∀ k, k < n → as.getD k 0 ∈ as := fun k hk => List.mem_of_getElem? (mapref_get (by omega))
  refine k (upd (upd H0 D (.lst (as.map V.ref))) x (.ins (He.ga K "House") dx fs)) _ ((Same.new_ hDH0).to (by rw [upd_ne xD]; exact hx0))
    ⟨dx, a, D, D2, il, ql, fs, fun z => match z with | .row k => as.getD k 0 | .due => D2 | .que _ => 0, fun z => match z with | .row _ => [] | .due => (List.range n).map fun k => optV ((NR.S.start n st : SS).due k) | .que _ => [], [], ?_⟩
  have HX : ∀ b, b ≠ x → b ≠ il → b ≠ ql → upd (upd (upd (upd H5 il (.dK [])) x (.ins (He.ga K "House") dx (putF "inside" (.ref il) (putF "due" (.ref D2) (putF "rows" (.ref D) (putF "plans" (.ref a) [])))))) ql (.dK [])) x (.ins (He.ga K "House") dx fs) b = H5 b := fun b h1 h2 h3 => by
    rw [upd_ne h1, upd_ne h3, upd_ne h1, upd_ne h2]
  have e1 : (List.range n).map (fun k => optV ((NR.S.start n st : SS).due k)) = (List.range n).map fun k => optV (some (st k)) := List.map_congr_left fun k hk => by
    show optV (if k < n then some (st k) else none) = _
    rw [if_pos (List.mem_range.mp hk)]
  refine { ls := ⟨fun b o e => ?_, fun z hz => ?_, fun y z hy hz e => ?_, fun z hz => ?_⟩, hx := upd_same, f1 := by rw [fl, if_neg (by decide +kernel), if_neg (by decide +kernel), if_neg (by decide +kernel), if_neg (by decide +kernel), if_pos rfl], f2 := by rw [fl, if_neg (by decide +kernel), if_neg (by decide +kernel), if_neg (by decide +kernel), if_pos rfl], f3 := by rw [fl, if_neg (by decide +kernel), if_neg (by decide +kernel), if_pos rfl], f4 := by rw [fl, if_neg (by decide +kernel), if_pos rfl], f5 := by rw [fl, if_pos rfl], meth := fun m h1 h2 h3 h4 h5 => by rw [fl, if_neg h5, if_neg h4, if_neg h3, if_neg h2, if_neg h1], hp := hv.same ((Same.new_ hDH0).to (by rw [upd_ne xD]; exact hx0)), hr := ?_, ed := rfl, cd := rfl, cr := fun _ _ => Tups.nil_, cq := fun r h => (nomatch h), nq := fun _ _ => rfl, kn := List.nodup_nil, ks := fun r h => (nomatch h), hi := ?_, fi := ?_, vi := fun r => rfl, ik := List.nodup_nil, isub := fun k h => (nomatch h), hq := ?_, fq := ?_, iq := ilql, rm := fun k w _ h => (nomatch h), nn := nn, s4 := s4 }
  · by_cases hb : b = x
    · subst hb; rw [upd_same] at e ⊢; exact e
    · rw [upd_ne hb] at e
      have hb2 : b ≠ il := fun q => by
        rw [q] at e
        by_cases z : il = D
        · exact Dil z.symm
        · rw [upd_ne z] at e
          rw [S5 _ _ e] at hil; cases hil
      have hb3 : b ≠ ql := fun q => by
        rw [q] at e
        by_cases z : ql = D
        · exact Dql z.symm
        · rw [upd_ne z] at e
          rw [S5 _ _ e] at hql5; cases hql5
      rw [HX b hb hb2 hb3]
      by_cases z : b = D
      · subst z; rw [upd_same] at e; rw [D5]; exact e
      · rw [upd_ne z] at e; exact S5 _ _ e
  · cases z with
    | row k =>
      have hk : k < n := hz
      have m := adr k hk
      show upd (upd H0 D _) x _ (as.getD k 0) = none
      rw [upd_ne (xas _ m), upd_ne (fun q => eD (by rw [← q]; exact m))]
      exact S1.free (ea _ m).2
    | due =>
      show upd (upd H0 D _) x _ D2 = none
      rw [upd_ne (Ne.symm xD2), upd_ne (Ne.symm DD2)]
      exact hD2H0
    | que r => exact (nomatch (show r ∈ ([] : List Str) from hz))
  · cases y with
    | que r => exact (nomatch (show r ∈ ([] : List Str) from hy))
    | row k =>
      cases z with
      | que r => exact (nomatch (show r ∈ ([] : List Str) from hz))
      | due => exact (asD2 _ (adr k hy) e).elim
      | row j =>
        have hk : k < n := hy
        have hj : j < n := hz
        have := nd_ix en (mapref_get (by omega : k < as.length)) (by rw [show as.getD k 0 = as.getD j 0 from e]; exact mapref_get (by omega : j < as.length))
        rw [this]
    | due =>
      cases z with
      | que r => exact (nomatch (show r ∈ ([] : List Str) from hz))
      | due => rfl
      | row j => exact (asD2 _ (adr j hz) e.symm).elim
  · cases z with
    | que r => exact (nomatch (show r ∈ ([] : List Str) from hz))
    | row k =>
      have m := adr k hz
      show _ = some (HO.lst [])
      rw [HX _ (xas _ m) (asil _ m) (asql _ m)]
      exact A5 _ m
    | due =>
      show _ = some (HO.lst ((List.range n).map fun k => optV ((NR.S.start n st : SS).due k)))
      rw [HX _ (Ne.symm xD2) D2il D2ql, e1]
      exact E5
  · rw [upd_ne (Ne.symm xD), upd_same]
    congr 2
    apply List.ext_getElem?
    intro i
    by_cases hi : i < n
    · rw [rng_get _ hi, List.getElem?_map, mapref_get (by omega)]; rfl
    · rw [List.getElem?_eq_none_iff.mpr (by rw [List.length_map]; omega), List.getElem?_eq_none_iff.mpr (by rw [List.length_map, List.length_range]; omega)]
  · rw [upd_ne (Ne.symm xil), upd_ne ilql, upd_ne (Ne.symm xil), upd_same]
  · rw [upd_ne (Ne.symm xil), upd_ne (Ne.symm Dil)]
    exact S5.free hil
  · rw [upd_ne (Ne.symm xql), upd_same]; rfl
  · rw [upd_ne (Ne.symm xql), upd_ne (Ne.symm Dql)]
    exact S5.free hql5
end
end NRW
/-! The house's parts are written. -/
namespace NRW
open PySem PySem.Spec PyProof.Rows L2
section
variable {K : PySem.W.Frag} {F H H' : Hp} {x : Addr} {n : Nat} {st : Nat → Int} {ss : Nat → List (Str × Int)} {S : SS} {keys : List Str} {dx pl rl dl il ql : Addr} {fs : List (Str × V)} {ad : Sl → Addr} {cont : Sl → List V} {kvi : List (Key × V)}
/-- a list of the house is written, its tuples stand: what changes is said -/
theorem HAt0.wrL (h : HAt0 K F H x n st ss S keys dx pl rl dl il ql fs ad cont kvi) {a : Sl} (ha : VdOk n keys a) (xs : List V) : ∃ H', H' = upd H (ad a) (.lst xs) ∧ Lists F H' (VdOk n keys) ad (NR.up cont a xs) ∧ TStay H H' ∧ H' il = some (.dK kvi) ∧ H' ql = some (.dK (qkv keys fun r => ad (.que r))) := by
  refine ⟨_, rfl, h.ls.wr ha xs, (TStay.refl _).wr (h.ls.at_ a ha) rfl, ?_, ?_⟩
  · rw [upd_ne (ne_of h.hi (h.ls.at_ a ha) (by intro e; cases e))]; exact h.hi
  · rw [upd_ne (ne_of h.hq (h.ls.at_ a ha) (by intro e; cases e))]; exact h.hq
theorem HAt0.setDue (h : HAt0 K F H x n st ss S keys dx pl rl dl il ql fs ad cont kvi) (k : Nat) (d : Option Int) :
    ∃ cont', HAt0 K F (upd H dl (.lst (((List.range n).map fun k => optV (S.due k)).set k (optV d)))) x n st ss { S with due := NR.up S.due k d } keys dx pl rl dl il ql fs ad cont' kvi := by
  have hd : ad .due = dl := h.ed
  obtain ⟨H', e, l, t, h1, h2⟩ := h.wrL (a := .due) trivial (((List.range n).map fun k => optV (S.due k)).set k (optV d))
  rw [hd] at e
  subst e
  refine ⟨_, { h with ls := l, cd := ?_, cr := fun k hk => ?_, cq := fun r hr => ?_, hi := h1, hq := h2 }⟩
  · rw [NR.up_same, rng_set]
    apply List.map_congr_left
    intro j _
    show NR.up (fun k => optV (S.due k)) k (optV d) j = optV (NR.up S.due k d j)
    unfold NR.up
    split <;> rfl
  · rw [NR.up_ne (by intro e; cases e)]; exact (h.cr k hk).stay t
  · rw [NR.up_ne (by intro e; cases e)]; exact (h.cq r hr).stay t
theorem HAt0.setIns (h : HAt0 K F H x n st ss S keys dx pl rl dl il ql fs ad cont kvi) {r : Str} (hr : r ∈ RM n ss) (v : Option Nat) :
    HAt0 K F (upd H il (.dK (putK kvi (Sum.inr r) (insV v)))) x n st ss { S with ins := NR.up S.ins r v } keys dx pl rl dl il ql fs ad cont (putK kvi (Sum.inr r) (insV v)) := by
  have t : TStay H (upd H il (.dK (putK kvi (Sum.inr r) (insV v)))) := (TStay.refl _).wr h.hi rfl
  have hk := putK_keys kvi (Sum.inr r) (insV v)
  refine { h with ls := h.ls.oth h.hi h.fi (by intro xs e; cases e), cr := fun k hk => (h.cr k hk).stay t, cq := fun r hr => (h.cq r hr).stay t, hi := upd_same, vi := fun r' => ?_, ik := ?_, isub := fun k hk' => ?_, hq := ?_ }
  · rw [valV_put]
    show _ = insV (NR.up S.ins r v r')
    by_cases e : r' = r
    · subst e; rw [if_pos rfl, NR.up_same]; rfl
    · rw [if_neg (fun q => e (Sum.inr.inj q)), NR.up_ne e]; exact h.vi r'
  · rcases hk with ⟨e, _⟩ | ⟨e, hn⟩
    · rw [e]; exact h.ik
    · rw [e]; exact nd_snoc h.ik (valV_not hn)
  · rcases hk with ⟨e, _⟩ | ⟨e, hn⟩
    · rw [e] at hk'; exact h.isub k hk'
    · rw [e] at hk'
      rcases List.mem_append.mp hk' with hk' | hk'
      · exact h.isub k hk'
      · have : k = Sum.inr r := by simpa using hk'
        rw [this]
        exact List.mem_map.mpr ⟨r, hr, rfl⟩
  · rw [upd_ne (Ne.symm h.iq)]; exact h.hq
theorem HAt0.addRow (h : HAt0 K F H x n st ss S keys dx pl rl dl il ql fs ad cont kvi) {k : Nat} (hk : k < n) {t : Addr} {w : RowS} (ht : H t = some (.tup (vRow w))) (hw : w.room ∈ RM n ss) :
    ∃ cont', HAt0 K F (upd H (ad (.row k)) (.lst (cont (.row k) ++ [.ref t]))) x n st ss { S with rows := NR.up S.rows k (S.rows k ++ [w]) } keys dx pl rl dl il ql fs ad cont' kvi := by
  obtain ⟨H', e, l, ts, h1, h2⟩ := h.wrL (a := .row k) hk (cont (.row k) ++ [.ref t])
  subst e
  refine ⟨_, { h with ls := l, cd := ?_, cr := fun j hj => ?_, cq := fun r hr => ?_, hi := h1, hq := h2, rm := fun j w' hj hw' => ?_ }⟩
  · rw [NR.up_ne (by intro e; cases e)]; exact h.cd
  · show Tups _ _ ((NR.up S.rows k (S.rows k ++ [w]) j).map vRow)
    by_cases e : j = k
    · subst e
      rw [NR.up_same, NR.up_same, List.map_append]
      exact ((h.cr j hk).snoc ht).stay ts
    · rw [NR.up_ne (by intro q; exact e (Sl.row.inj q)), NR.up_ne e]; exact (h.cr j hj).stay ts
  · rw [NR.up_ne (by intro e; cases e)]; exact (h.cq r hr).stay ts
  · rcases NR.mem_up hw' with q | ⟨_, rfl⟩
    · exact h.rm j w' hj q
    · exact hw
theorem HAt0.addQue (h : HAt0 K F H x n st ss S keys dx pl rl dl il ql fs ad cont kvi) {r : Str} (hr : r ∈ keys) {t : Addr} {e : Int × Nat} (ht : H t = some (.tup (vq e))) :
    ∃ cont', HAt0 K F (upd H (ad (.que r)) (.lst (cont (.que r) ++ [.ref t]))) x n st ss { S with que := NR.up S.que r (S.que r ++ [e]) } keys dx pl rl dl il ql fs ad cont' kvi := by
  obtain ⟨H', eq, l, ts, h1, h2⟩ := h.wrL (a := .que r) hr (cont (.que r) ++ [.ref t])
  subst eq
  refine ⟨_, { h with ls := l, cd := ?_, cr := fun j hj => ?_, cq := fun r' hr' => ?_, nq := fun r' hr' => ?_, hi := h1, hq := h2 }⟩
  · rw [NR.up_ne (by intro e; cases e)]; exact h.cd
  · rw [NR.up_ne (by intro e; cases e)]; exact (h.cr j hj).stay ts
  · show Tups _ _ ((NR.up S.que r (S.que r ++ [e]) r').map vq)
    by_cases q : r' = r
    · subst q
      rw [NR.up_same, NR.up_same, List.map_append]
      exact ((h.cq r' hr).snoc ht).stay ts
    · rw [NR.up_ne (by intro z; exact q (Sl.que.inj z)), NR.up_ne q]; exact (h.cq r' hr').stay ts
  · show NR.up S.que r (S.que r ++ [e]) r' = []
    rw [NR.up_ne (fun q => hr' (by rw [q]; exact hr))]
    exact h.nq r' hr'
theorem HAt0.popQue (h : HAt0 K F H x n st ss S keys dx pl rl dl il ql fs ad cont kvi) {r : Str} (hr : r ∈ keys) {e : Int × Nat} {rest : List (Int × Nat)} (he : S.que r = e :: rest) :
    ∃ t xs cont', cont (.que r) = .ref t :: xs ∧ H t = some (.tup (vq e)) ∧ HAt0 K F (upd H (ad (.que r)) (.lst xs)) x n st ss { S with que := NR.up S.que r rest } keys dx pl rl dl il ql fs ad cont' kvi := by
  have hc := h.cq r hr
  rw [he] at hc
  cases ec : cont (.que r) with
  | nil => rw [ec] at hc; cases hc
  | cons y xs =>
  rw [ec] at hc
  cases hc with
  | cons a ks =>
  obtain ⟨t, rfl, ht⟩ := a
  obtain ⟨H', eq, l, ts, h1, h2⟩ := h.wrL (a := .que r) hr xs
  subst eq
  refine ⟨t, xs, _, rfl, ht, { h with ls := l, cd := ?_, cr := fun j hj => ?_, cq := fun r' hr' => ?_, nq := fun r' hr' => ?_, hi := h1, hq := h2 }⟩
  · rw [NR.up_ne (by intro e; cases e)]; exact h.cd
  · rw [NR.up_ne (by intro e; cases e)]; exact (h.cr j hj).stay ts
  · show Tups _ _ ((NR.up S.que r rest r').map vq)
    by_cases q : r' = r
    · subst q
      rw [NR.up_same, NR.up_same]
      exact Tups.stay ts ks
    · rw [NR.up_ne (by intro z; exact q (Sl.que.inj z)), NR.up_ne q]; exact (h.cq r' hr').stay ts
  · show NR.up S.que r rest r' = []
    rw [NR.up_ne (fun q => hr' (by rw [q]; exact hr))]
    exact h.nq r' hr'
/-- a new queue, empty, for the room r -/
theorem HAt0.newQue (h : HAt0 K F H x n st ss S keys dx pl rl dl il ql fs ad cont kvi) {r : Str} (hr : ¬ r ∈ keys) (hR : r ∈ RM n ss) {l : Addr} (hl : H l = none) :
    ∃ ad' cont', ad' (.que r) = l ∧ HAt0 K F (upd (upd H l (.lst [])) ql (.dK (putK (qkv keys fun r => ad (.que r)) (Sum.inr r) (.ref l)))) x n st ss S (keys ++ [r]) dx pl rl dl il ql fs ad' cont' kvi := by
  have hql : ql ≠ l := ne_of_none h.hq hl
  have hil : il ≠ l := ne_of_none h.hi hl
  have l1 := h.ls.add (b := .que r) (fun q => hr q) hl []
  have hq1 : upd H l (.lst []) ql = some (.dK (qkv keys fun r => ad (.que r))) := by rw [upd_ne hql]; exact h.hq
  have l2 := l1.oth (o := .dK (putK (qkv keys fun r => ad (.que r)) (Sum.inr r) (.ref l))) hq1 h.fq (by intro xs e; cases e)
  have evd : (fun a => VdOk n keys a ∨ a = Sl.que r) = VdOk n (keys ++ [r]) := by
    funext a
    apply propext
    cases a with
    | row k => exact ⟨fun z => z.resolve_right (by intro e; cases e), .inl⟩
    | due => exact ⟨fun _ => trivial, fun _ => .inl trivial⟩
    | que r' =>
      show (r' ∈ keys ∨ Sl.que r' = Sl.que r) ↔ r' ∈ keys ++ [r]
      rw [List.mem_append, List.mem_singleton]
      exact ⟨fun z => z.imp id Sl.que.inj, fun z => z.imp id (congrArg Sl.que)⟩
  rw [evd] at l2
  have ts : TStay H (upd (upd H l (.lst [])) ql (.dK (putK (qkv keys fun r => ad (.que r)) (Sum.inr r) (.ref l)))) := ((TStay.refl _).new hl).wr hq1 rfl
  have eq : putK (qkv keys fun r => ad (.que r)) (Sum.inr r) (.ref l) = qkv (keys ++ [r]) fun r' => NR.up ad (.que r) l (.que r') := by
    rw [putK_new _ (by rw [qkv_val, if_neg hr])]
    unfold qkv
    rw [List.map_append]
    congr 1
    · apply List.map_congr_left
      intro k hk
      show ((Sum.inr k : Key), V.ref (ad (.que k))) = (Sum.inr k, V.ref (NR.up ad (.que r) l (.que k)))
      rw [NR.up_ne (by intro e; exact hr (by rw [← Sl.que.inj e]; exact hk))]
    · show [(Sum.inr r, V.ref l)] = [(Sum.inr r, V.ref (NR.up ad (.que r) l (.que r)))]
      rw [NR.up_same]
  refine ⟨NR.up ad (.que r) l, NR.up cont (.que r) [], NR.up_same, { h with ls := l2, hr := ?_, ed := ?_, cd := ?_, cr := fun k hk => ?_, cq := fun r' hr' => ?_, nq := fun r' hr' => ?_, kn := nd_snoc h.kn hr, ks := fun r' hr' => ?_, hi := ?_, hq := ?_ }⟩
  · rw [h.hr]
    congr 2
  · rw [NR.up_ne (by intro e; cases e)]; exact h.ed
  · rw [NR.up_ne (by intro e; cases e)]; exact h.cd
  · rw [NR.up_ne (by intro e; cases e)]; exact (h.cr k hk).stay ts
  · by_cases q : r' = r
    · subst q
      rw [NR.up_same, h.nq r' hr]
      exact Tups.nil_
    · rw [NR.up_ne (by intro z; exact q (Sl.que.inj z))]
      rcases List.mem_append.mp hr' with z | z
      · exact (h.cq r' z).stay ts
      · exact (q (by simpa using z)).elim
  · exact h.nq r' fun z => hr' (List.mem_append_left _ z)
  · rcases List.mem_append.mp hr' with z | z
    · exact h.ks r' z
    · have : r' = r := by simpa using z
      rw [this]; exact hR
  · rw [upd_ne h.iq, upd_ne hil]; exact h.hi
  · rw [upd_same, eq]
end
end NRW
/-! House.leave, House.enter, House.come. -/
namespace NRW
open PySem PySem.Spec PyProof.Rows L2
theorem Tups_last {H : Hp} : ∀ {es : List (List V)} {xs : List V} {e : List V}, Tups H xs (es ++ [e]) → ∃ ys t, xs = ys ++ [.ref t] ∧ H t = some (.tup e)
  | [], xs, e, h => by
    cases h with
    | cons a k =>
      obtain ⟨t, rfl, ht⟩ := a
      cases k
      exact ⟨[], t, rfl, ht⟩
  | a :: es, xs, e, h => by
    cases h with
    | cons b k =>
      obtain ⟨ys, t, rfl, ht⟩ := Tups_last (es := es) k
      exact ⟨_ :: ys, t, rfl, ht⟩
section
variable {K : PySem.W.Frag} {F H H' : Hp} {x : Addr} {n : Nat} {st : Nat → Int} {ss : Nat → List (Str × Int)} {S : SS} {keys : List Str} {dx pl rl dl il ql : Addr} {fs : List (Str × V)} {ad : Sl → Addr} {cont : Sl → List V} {kvi : List (Key × V)}
theorem HAt0.hxH (h : HAt0 K F H x n st ss S keys dx pl rl dl il ql fs ad cont kvi) : H x = some (.ins (He.ga K "House") dx fs) := h.ls.same _ _ h.hx
theorem HAt0.rlH (h : HAt0 K F H x n st ss S keys dx pl rl dl il ql fs ad cont kvi) : SqL K H rl ((List.range n).map fun k => .ref (ad (.row k))) := SqL.of (h.ls.same _ _ h.hr)
theorem HAt0.dlH (h : HAt0 K F H x n st ss S keys dx pl rl dl il ql fs ad cont kvi) : H dl = some (.lst ((List.range n).map fun k => optV (S.due k))) := by
  have := h.ls.at_ .due trivial
  rwa [h.ed, h.cd] at this
theorem HAt0.rowH (h : HAt0 K F H x n st ss S keys dx pl rl dl il ql fs ad cont kvi) {k : Nat} (hk : k < n) : H (ad (.row k)) = some (.lst (cont (.row k))) ∧ (cont (.row k)).length = (S.rows k).length :=
  ⟨h.ls.at_ (.row k) hk, by rw [(h.cr k hk).length, List.length_map]⟩
/-- the plan of group p -/
theorem HAt0.plan (h : HAt0 K F H x n st ss S keys dx pl rl dl il ql fs ad cont kvi) {p : Nat} (hp : p < n) : ∃ pxs t y qs, SqL K F pl pxs ∧ pxs[p]? = some (.ref t) ∧ SqT K F t [.int (st p), .ref y] ∧ SqL K F y qs ∧ qs.length = (ss p).length ∧
    ∀ (i : Nat) r l, (ss p)[i]? = some (r, l) → ∃ u, qs[i]? = some (.ref u) ∧ SqT K F u [.str r, .int l] := by
  obtain ⟨a, pxs, e, h1, h2⟩ := h.hp.list
  cases e
  obtain ⟨v, hv, hd⟩ := h2.get (rng_get _ hp)
  obtain ⟨t, us, rfl, ht, hus⟩ := hd.tuple
  obtain ⟨u1, us, rfl, hu1, hus⟩ := hus.cons'
  obtain ⟨u2, us, rfl, hu2, hus⟩ := hus.cons'
  obtain rfl := hus.nil'
  obtain rfl := hu1.int'
  obtain ⟨y, qs, rfl, hy, hqs⟩ := hu2.list
  refine ⟨pxs, t, y, qs, h1, hv, ht, hy, by rw [hqs.length, List.length_map], fun i r l hi => ?_⟩
  obtain ⟨w, hw, hwd⟩ := hqs.get (d := d2 (r, l)) (by rw [List.getElem?_map, hi]; rfl)
  obtain ⟨u, us, rfl, hu, hus⟩ := hwd.tuple
  obtain ⟨a1, us, rfl, ha1, hus⟩ := hus.cons'
  obtain ⟨a2, us, rfl, ha2, hus⟩ := hus.cons'
  obtain rfl := hus.nil'
  obtain rfl := ha1.str'
  obtain rfl := ha2.int'
  exact ⟨u, hw, hu⟩
end
def spLeave (K : PySem.W.Frag) : Sp := fun vs H Q _ => ∃ (F : Hp) (x : Addr) (n : Nat) (st : Nat → Int) (ss : Nat → List (Str × Int)) (S : SS) (keys : List Str) (p : Nat), vs = [.ref x, .int (p : Int)] ∧ HAt K F H x n st ss S keys ∧ p < n ∧
  ∀ H', HAt K F H' x n st ss (S.leave HAL p) keys → Q .non H'
def spEnter (K : PySem.W.Frag) : Sp := fun vs H Q _ => ∃ (F : Hp) (x : Addr) (n : Nat) (st : Nat → Int) (ss : Nat → List (Str × Int)) (S : SS) (keys : List Str) (p : Nat) (c now : Int) (r : Str) (l : Int), vs = [.ref x, .int (p : Int), .int c, .int now] ∧ HAt K F H x n st ss S keys ∧ p < n ∧
  (ss p)[(S.rows p).length]? = some (r, l) ∧ ∀ H', HAt K F H' x n st ss (S.enter HAL p r l c now) keys → Q .non H'
def spCome (K : PySem.W.Frag) : Sp := fun vs H Q _ => ∃ (F : Hp) (x : Addr) (n : Nat) (st : Nat → Int) (ss : Nat → List (Str × Int)) (S : SS) (keys : List Str) (p : Nat) (now : Int), vs = [.ref x, .int (p : Int), .int now] ∧ HAt K F H x n st ss S keys ∧ p < n ∧ (∀ r, (S.que r).length < 1000) ∧
  ∀ H' keys', HAt K F H' x n st ss (S.come HAL ss p now) keys' → Q .non H'
section
variable {P : Program} {w : World} {K : PySem.W.Frag} {mg : Str → Option Value} {base : Heap}
theorem sc_House_leave : FnScope ["self", "place", "room"] ["self", "place"] (defScope s_House_leave) := ⟨rfl, rfl, rfl, by decide +kernel, rfl, by decide +kernel, by decide +kernel⟩
theorem d_House_leave (T : Txt K mg) : DefM P w K mg base "House" "leave" 1 ["self", "place"] (spLeave K) := by
  refine DefM.of T.f_House_leave sc_House_leave (fun vs H Q E h => ?_) (fun _ _ _ _ _ _ us hl => match us, hl with | [_, _], _ => rfl) (fun f cdv A outer s H vs Q E hr h => ?_)
  · obtain ⟨_, _, _, _, _, _, _, _, rfl, _⟩ := h
    rfl
  obtain ⟨F, x, n, st, ss, S, keys, p, rfl, ⟨dx, pl, rl, dl, il, ql, fs, ad, cont, kvi, h⟩, hp, k⟩ := h
  have c := T.c_House
  have nd := sc_House_leave.nd
  refine ⟨_, pss_cons (ps_asg pe_non (pg_sub (pe_fld (pv 0) rfl) (pv 1) set_list))
    (pss_one (ps_if (pt_cmpR op_gt (pe_callB call_len_seq (by rfl) T.n_len PySem.boot_len (pa_cons (pe_ix ix_list (pe_fld (pv 0) rfl) (pv 1) (fun _ _ => rfl)) pa_nil)) pe_int (nomark _))
      (pss_cons (ps_set (i := 2) nd rfl (Or.inl rfl) (pe_ix ix_tup (pe_ix ix_list (pe_ix ix_list (pe_fld (pv 0) rfl) (pv 1) (fun _ _ => rfl)) (pe_un un_neg pe_int) (fun _ _ => rfl)) pe_int (fun _ _ => rfl)))
      (pss_one (ps_if (pt_cmpR op_ne (pv 2) (pe_gS T.k_HALL) (nomark _)) (pss_one (ps_dput (hu_of hr) (pe_fld (pv 0) rfl) (pv 2) pe_non rfl)) pss_nil))) pss_nil)), ?_⟩
  have bg : (1000 : Nat) < sizeLine := by decide
  refine ⟨_, rfl, x, _, dx, fs, _, rfl, h.hxH, c.cl, T.n_House_due, h.f3, _, rfl, dl, _, _, p, rfl, rfl, h.dlH, Evl.ixN_nat (by rw [List.length_map, List.length_range]; exact hp), ?_⟩
  obtain ⟨cont1, h1⟩ := h.setDue p none
  obtain ⟨hrow, hlen⟩ := h1.rowH hp
  refine ⟨_, rfl, x, _, dx, fs, _, rfl, h1.hxH, c.cl, T.n_House_rows, h1.f2, _, rfl, rl, _, _, _, rfl, rfl, h1.rlH, atI_nat (rng_get _ hp), _, _, rfl, .inl (SqL.of hrow), _, _, rfl, rfl, _, rfl, ?_⟩
  have hlen' : (cont1 (.row p)).length = (S.rows p).length := hlen
  cases hl : (S.rows p).getLast? with
  | none =>
    have e0 : S.rows p = [] := List.getLast?_eq_none_iff.mp hl
    refine iteDF (by rw [hlen', e0]; decide) (k _ ?_)
    have e : S.leave HAL p = { S with due := NR.up S.due p none } := by
      unfold NR.S.leave NR.S.last
      rw [hl]
      rfl
    rw [e]
    exact ⟨_, _, _, _, _, _, _, _, _, _, h1⟩
  | some w =>
    obtain ⟨us, eus⟩ := List.getLast?_eq_some_iff.mp hl
    refine iteDT (by rw [hlen', eus, List.length_append, List.length_singleton]; omega) ?_
    have ht := h1.cr p hp
    have ht' := ht
    rw [show ({ S with due := NR.up S.due p none } : SS).rows p = us ++ [w] from eus, List.map_append] at ht'
    obtain ⟨ys, t, eys, htw⟩ := Tups_last ht'
    have hlast : S.last p = some w.room := by unfold NR.S.last; rw [hl]; rfl
    have hmem : w.room ∈ RM n ss := h1.rm p w hp (by rw [show S.rows p = us ++ [w] from eus]; simp)
    refine ⟨_, rfl, x, _, dx, fs, _, rfl, h1.hxH, c.cl, T.n_House_rows, h1.f2, _, rfl, rl, _, _, _, rfl, rfl, h1.rlH, atI_nat (rng_get _ hp), _, rfl, _, _, _, _, rfl, rfl, SqL.of hrow, by rw [eys]; exact atI_last _ _, t, _, _, _, rfl, rfl, SqT.of htw, at_of (j := 0) rfl rfl, ?_⟩
    refine ⟨_, rfl, rfl, _, rfl, iteN2 (fun hn => ?_) (fun hn => ?_)⟩
    · have hne : w.room ≠ HAL := fun e => hn (by rw [e])
      have e : S.leave HAL p = { S with due := NR.up S.due p none, ins := NR.up S.ins w.room none } := by
        unfold NR.S.leave
        rw [hlast]
        dsimp only
        rw [if_neg hne]
      have hk := h1.insLen
      refine ⟨_, rfl, x, _, dx, fs, _, rfl, h1.hxH, c.cl, T.n_House_inside, h1.f4, _, rfl, il, _, rfl, DPut.k (k := Sum.inr w.room) h1.hi (by omega), k _ ?_⟩
      rw [e]
      exact ⟨_, _, _, _, _, _, _, _, _, _, h1.setIns hmem none⟩
    · have hne : w.room = HAL := by injection hn
      have e : S.leave HAL p = { S with due := NR.up S.due p none } := by
        unfold NR.S.leave
        rw [hlast]
        dsimp only
        rw [if_pos hne]
      refine k _ ?_
      rw [e]
      exact ⟨_, _, _, _, _, _, _, _, _, _, h1⟩
theorem sc_House_enter : FnScope ["self", "place", "come", "now", "room", "length"] ["self", "place", "come", "now"] (defScope s_House_enter) := ⟨rfl, rfl, rfl, by decide +kernel, rfl, by decide +kernel, by decide +kernel⟩
theorem d_House_enter (T : Txt K mg) : DefM P w K mg base "House" "enter" 1 ["self", "place", "come", "now"] (spEnter K) := by
  refine DefM.of T.f_House_enter sc_House_enter (fun vs H Q E h => ?_) (fun _ _ _ _ _ _ us hl => match us, hl with | [_, _, _, _], _ => rfl) (fun f cdv A outer s H vs Q E hr h => ?_)
  · obtain ⟨_, _, _, _, _, _, _, _, _, _, _, _, rfl, _⟩ := h
    rfl
  obtain ⟨F, x, n, st, ss, S, keys, p, cm, now, r, l, rfl, ⟨dx, pl, rl, dl, il, ql, fs, ad, cont, kvi, h⟩, hp, hs, k⟩ := h
  have c := T.c_House
  have nd := sc_House_enter.nd
  refine ⟨_, pss_cons (ps_asg (pe_ix ix_list (pe_ix ix_tup (pe_ix ix_list (pe_fld (pv 0) rfl) (pv 1) (fun _ _ => rfl)) pe_int (fun _ _ => rfl)) (pe_callB call_len_seq (by rfl) T.n_len PySem.boot_len (pa_cons (pe_ix ix_list (pe_fld (pv 0) rfl) (pv 1) (fun _ _ => rfl)) pa_nil)) (fun _ _ => rfl))
      (pg_tup rfl (pgs_cons (pg_name (i := 4) nd rfl (Or.inl rfl)) (pgs_cons (pg_name (i := 5) nd rfl (Or.inl rfl)) pgs_nil))))
    (pss_cons (ps_expr (pe_bm PySem.F.plainAttrs_list PySem.F.slot_list_append PySem.F.type_list_append mt_append (pe_ix ix_list (pe_fld (pv 0) rfl) (pv 1) (fun _ _ => rfl)) (pa_cons (pe_tup (pa_cons (pv 4) (pa_cons (pv 2) (pa_cons (pv 3) (pa_cons (pe_op op_add (pv 3) (pv 5)) pa_nil))))) pa_nil)))
    (pss_cons (ps_asg (pe_op op_add (pv 3) (pv 5)) (pg_sub (pe_fld (pv 0) rfl) (pv 1) set_list))
    (pss_one (ps_if (pt_cmpR op_ne (pv 4) (pe_gS T.k_HALL) (nomark _)) (pss_one (ps_dput (hu_of hr) (pe_fld (pv 0) rfl) (pv 4) (pv 1) rfl)) pss_nil)))), ?_⟩
  have bg : (1000 : Nat) < sizeLine := by decide
  obtain ⟨pxs, t, y, qs, h1, h2, h3, h4, h5, h6⟩ := h.plan hp
  obtain ⟨u, hu, htu⟩ := h6 _ r l hs
  obtain ⟨hrow, hlen⟩ := h.rowH hp
  have hF := h.ls.same
  have hl4 := h.s4 p
  have hlt : (S.rows p).length < (ss p).length := (List.getElem?_eq_some_iff.mp hs).1
  refine ⟨_, rfl, x, _, dx, fs, _, rfl, h.hxH, c.cl, T.n_House_plans, h.f1, _, rfl, pl, pxs, _, _, rfl, rfl, hF.seq h1, atI_nat h2, t, _, _, _, rfl, rfl, sqT_same hF h3, at_of (j := 1) rfl rfl, ?_⟩
  refine ⟨_, rfl, x, _, dx, fs, _, rfl, h.hxH, c.cl, T.n_House_rows, h.f2, _, rfl, rl, _, _, _, rfl, rfl, h.rlH, atI_nat (rng_get _ hp), _, _, rfl, .inl (SqL.of hrow), y, qs, _, _, rfl, rfl, hF.seq h4, by rw [hlen]; exact atI_nat hu, ?_⟩
  refine ⟨u, _, rfl, sqT_same hF htu, rfl, _, _, rfl, _, _, rfl, rfl, ?_⟩
  -- self.rows[place].append
  refine ⟨_, rfl, x, _, dx, fs, _, rfl, h.hxH, c.cl, T.n_House_rows, h.f2, _, rfl, rl, _, _, _, rfl, rfl, h.rlH, atI_nat (rng_get _ hp), .inl ⟨rfl, _, SqL.of hrow⟩, ?_⟩
  refine ⟨_, rfl, _, rfl, _, rfl, _, rfl, _, rfl, _, _, rfl, rfl, by show 4 ≤ sizeLine; decide, fun m hm => ?_⟩
  have hg := h.grow (Same.new_ (o := .tup (vRow ⟨r, cm, now, now + l⟩)) hm)
  obtain ⟨hrow1, hlen1⟩ := hg.rowH hp
  have hR := mem_RM hp hs
  obtain ⟨cont1, g1⟩ := hg.addRow hp (t := m) (w := ⟨r, cm, now, now + l⟩) upd_same hR
  refine ⟨_, _, _, rfl, rfl, hrow1, by rw [hlen1]; omega, ?_⟩
  -- self.due[place] = now + length
  refine ⟨_, rfl, _, rfl, _, _, rfl, rfl, _, rfl, x, _, dx, fs, _, rfl, g1.hxH, c.cl, T.n_House_due, g1.f3, _, rfl, dl, _, _, p, rfl, rfl, g1.dlH, Evl.ixN_nat (by rw [List.length_map, List.length_range]; exact hp), ?_⟩
  obtain ⟨cont2, g2⟩ := g1.setDue p (some (now + l))
  refine ⟨_, rfl, rfl, _, rfl, iteN2 (fun hn => ?_) (fun hn => ?_)⟩
  · have hne : r ≠ HAL := fun e => hn (by rw [e])
    have e : S.enter HAL p r l cm now = { S with rows := NR.up S.rows p (S.rows p ++ [⟨r, cm, now, now + l⟩]), due := NR.up S.due p (some (now + l)), ins := NR.up S.ins r (some p) } := by
      unfold NR.S.enter
      rw [if_neg hne]
    have hk := g2.insLen
    refine ⟨_, rfl, _, rfl, x, _, dx, fs, _, rfl, g2.hxH, c.cl, T.n_House_inside, g2.f4, _, rfl, il, _, rfl, DPut.k (k := Sum.inr r) g2.hi (by omega), k _ ?_⟩
    rw [e]
    exact ⟨_, _, _, _, _, _, _, _, _, _, g2.setIns hR (some p)⟩
  · have hne : r = HAL := by injection hn
    have e : S.enter HAL p r l cm now = { S with rows := NR.up S.rows p (S.rows p ++ [⟨r, cm, now, now + l⟩]), due := NR.up S.due p (some (now + l)) } := by
      unfold NR.S.enter
      rw [if_pos hne]
    refine k _ ?_
    rw [e]
    exact ⟨_, _, _, _, _, _, _, _, _, _, g2⟩
end
end NRW
/-! House.come. -/
namespace NRW
open PySem PySem.Spec PyProof.Rows L2
section
variable {P : Program} {w : World} {K : PySem.W.Frag} {mg : Str → Option Value} {base : Heap}
theorem sc_House_come : FnScope ["self", "place", "now", "step", "room"] ["self", "place", "now"] (defScope s_House_come) := ⟨rfl, rfl, rfl, by decide +kernel, rfl, by decide +kernel, by decide +kernel⟩
theorem d_House_come (T : Txt K mg) : DefM P w K mg base "House" "come" 2 ["self", "place", "now"] (spCome K) := by
  refine DefM.of T.f_House_come sc_House_come (fun vs H Q E h => ?_) (fun _ _ _ _ _ _ us hl => match us, hl with | [_, _, _], _ => rfl) (fun f cdv A outer s H vs Q E hr h => ?_)
  · obtain ⟨_, _, _, _, _, _, _, _, _, rfl, _⟩ := h
    rfl
  obtain ⟨F, x, n, st, ss, S, keys, p, now, rfl, ⟨dx, pl, rl, dl, il, ql, fs, ad, cont, kvi, h⟩, hp, hq6, k⟩ := h
  have c := T.c_House
  have nd := sc_House_come.nd
  refine ⟨_, pss_cons (ps_set (i := 3) nd rfl (Or.inl rfl) (pe_callB call_len_seq (by rfl) T.n_len PySem.boot_len (pa_cons (pe_ix ix_list (pe_fld (pv 0) rfl) (pv 1) (fun _ _ => rfl)) pa_nil)))
    (pss_one (ps_if (pt_cmpR op_lt (pv 3) (pe_callB call_len_seq (by rfl) T.n_len PySem.boot_len (pa_cons (pe_ix ix_tup (pe_ix ix_list (pe_fld (pv 0) rfl) (pv 1) (fun _ _ => rfl)) pe_int (fun _ _ => rfl)) pa_nil)) (nomark _))
      (pss_cons (ps_set (i := 4) nd rfl (Or.inl rfl) (pe_ix ix_tup (pe_ix ix_list (pe_ix ix_tup (pe_ix ix_list (pe_fld (pv 0) rfl) (pv 1) (fun _ _ => rfl)) pe_int (fun _ _ => rfl)) (pv 3) (fun _ _ => rfl)) pe_int (fun _ _ => rfl)))
      (pss_one (ps_if (pt_cmpR op_eq (pv 4) (pe_gS T.k_HALL) (nomark _))
        (pss_one (ps_expr (pe_defM (pv 0) c.cl T.m_enter (d_House_enter T) hr (pa_cons (pv 1) (pa_cons (pv 2) (pa_cons (pv 2) pa_nil))))))
        (pss_one (ps_expr (pe_bm PySem.F.plainAttrs_list PySem.F.slot_list_append PySem.F.type_list_append mt_append (pe_dsetd (pe_fld (pv 0) rfl) (pv 4) (pe_lst pa_nil) ⟨rfl, rfl, rfl, rfl⟩) (pa_cons (pe_tup (pa_cons (pv 2) (pa_cons (pv 1) pa_nil))) pa_nil)))))))
      pss_nil)), ?_⟩
  have bg : (1000 : Nat) < sizeLine := by decide
  obtain ⟨pxs, t, y, qs, h1, h2, h3, h4, h5, h6⟩ := h.plan hp
  obtain ⟨hrow, hlen⟩ := h.rowH hp
  have hF := h.ls.same
  have hl4 := h.s4 p
  refine ⟨_, rfl, x, _, dx, fs, _, rfl, h.hxH, c.cl, T.n_House_rows, h.f2, _, rfl, rl, _, _, _, rfl, rfl, h.rlH, atI_nat (rng_get _ hp), _, _, rfl, .inl (SqL.of hrow), ?_⟩
  refine ⟨_, rfl, _, rfl, x, _, dx, fs, _, rfl, h.hxH, c.cl, T.n_House_plans, h.f1, _, rfl, pl, pxs, _, _, rfl, rfl, hF.seq h1, atI_nat h2, t, _, _, _, rfl, rfl, sqT_same hF h3, at_of (j := 1) rfl rfl, y, qs, rfl, .inl (hF.seq h4), _, _, rfl, rfl, _, rfl, ?_⟩
  rw [hlen, h5]
  refine iteD2 (fun hlt => ?_) (fun hge => ?_)
  rotate_left
  · refine k _ keys ?_
    have e : S.come HAL ss p now = S := by
      unfold NR.S.come
      rw [List.getElem?_eq_none_iff.mpr (by omega)]
    rw [e]
    exact ⟨_, _, _, _, _, _, _, _, _, _, h⟩
  have hlt' : (S.rows p).length < (ss p).length := by omega
  obtain ⟨⟨r, l⟩, hs⟩ : ∃ e, (ss p)[(S.rows p).length]? = some e := ⟨_, List.getElem?_eq_getElem hlt'⟩
  obtain ⟨u, hu, htu⟩ := h6 _ r l hs
  have hR := mem_RM hp hs
  refine ⟨_, rfl, x, _, dx, fs, _, rfl, h.hxH, c.cl, T.n_House_plans, h.f1, _, rfl, pl, pxs, _, _, rfl, rfl, hF.seq h1, atI_nat h2, t, _, _, _, rfl, rfl, sqT_same hF h3, at_of (j := 1) rfl rfl, _, rfl, y, qs, _, _, rfl, rfl, hF.seq h4, atI_nat hu, u, _, _, _, rfl, rfl, sqT_same hF htu, at_of (j := 0) rfl rfl, ?_⟩
  refine ⟨_, rfl, rfl, _, rfl, iteD2 (fun hn => ?_) (fun hn => ?_)⟩
  · have hne : r = HAL := by injection hn
    refine ⟨_, rfl, x, dx, fs, rfl, h.hxH, h.meth _ (by decide +kernel) (by decide +kernel) (by decide +kernel) (by decide +kernel) (by decide +kernel), _, rfl, _, rfl, _, rfl, F, x, n, st, ss, S, keys, p, now, now, r, l, rfl, ⟨_, _, _, _, _, _, _, _, _, _, h⟩, hp, hs, fun H' hH => k H' keys ?_⟩
    have e : S.come HAL ss p now = S.enter HAL p r l now now := by
      unfold NR.S.come
      rw [hs]
      dsimp only
      rw [if_pos hne]
    rw [e]
    exact hH
  · have hne : r ≠ HAL := fun e => hn (by rw [e])
    have e : S.come HAL ss p now = { S with que := NR.up S.que r (S.que r ++ [(now, p)]) } := by
      unfold NR.S.come
      rw [hs]
      dsimp only
      rw [if_neg hne]
    refine ⟨_, rfl, x, _, dx, fs, _, rfl, h.hxH, c.cl, T.n_House_queues, h.f5, ql, rfl, .inl ⟨_, .inl h.hq⟩, _, rfl, Nat.zero_le _, fun q hq => ⟨_, Sum.inr r, Same.new_ hq _ _ h.hq, rfl, by have := h.keysLen; unfold qkv; rw [List.length_map]; omega, fun v hv => ?_, fun hv => ?_⟩⟩
    · rw [qkv_val] at hv
      have hk : r ∈ keys := by
        by_cases z : r ∈ keys
        · exact z
        · rw [if_neg z] at hv; cases hv
      rw [if_pos hk] at hv
      obtain rfl : v = .ref (ad (.que r)) := (Option.some.inj hv).symm
      have g := h.grow (Same.new_ (o := .lst []) hq)
      have hql := g.ls.at_ (.que r) hk
      refine ⟨.inl ⟨rfl, _, SqL.of hql⟩, _, rfl, _, rfl, by show 2 ≤ sizeLine; decide, fun m hm => ?_⟩
      have g1 := g.grow (Same.new_ (o := .tup (vq (now, p))) hm)
      obtain ⟨cont1, g2⟩ := g1.addQue hk (e := (now, p)) upd_same
      refine ⟨_, _, _, rfl, rfl, g1.ls.at_ (.que r) hk, ?_, k _ keys ?_⟩
      · rw [(g1.cq r hk).length, List.length_map]
        have := hq6 r
        omega
      · rw [e]
        exact ⟨_, _, _, _, _, _, _, _, _, _, g2⟩
    · rw [qkv_val] at hv
      have hk : ¬ r ∈ keys := fun z => by
        rw [if_pos z] at hv; cases hv
      obtain ⟨ad1, cont1, e1, g⟩ := h.newQue hk hR hq
      have hk1 : r ∈ keys ++ [r] := List.mem_append_right _ List.mem_cons_self
      have hql := g.ls.at_ (.que r) hk1
      rw [e1] at hql
      refine ⟨.inl ⟨rfl, _, SqL.of hql⟩, _, rfl, _, rfl, by show 2 ≤ sizeLine; decide, fun m hm => ?_⟩
      have g1 := g.grow (Same.new_ (o := .tup (vq (now, p))) hm)
      obtain ⟨cont2, g2⟩ := g1.addQue hk1 (e := (now, p)) upd_same
      rw [e1] at g2
      have hq2 := g1.ls.at_ (.que r) hk1
      rw [e1] at hq2
      refine ⟨_, _, _, rfl, rfl, hq2, ?_, k _ (keys ++ [r]) ?_⟩
      · rw [(g1.cq r hk1).length, List.length_map]
        have := hq6 r
        omega
      · rw [e]
        exact ⟨_, _, _, _, _, _, _, _, _, _, g2⟩
end
end NRW
/-! House.happen. -/
namespace NRW
open PySem PySem.Spec PyProof.Rows L2
/-- those of the first i that are due -/
def psI (S : SS) (now : Int) (i : Nat) : List Nat := (List.range i).filter fun k => decide (S.due k = some now)
theorem psI_yes {S : SS} {now : Int} {i : Nat} (h : S.due i = some now) : psI S now (i + 1) = psI S now i ++ [i] := by
  unfold psI
  rw [List.range_succ, List.filter_append, List.filter_cons, if_pos (decide_eq_true h)]
  rfl
theorem psI_no {S : SS} {now : Int} {i : Nat} (h : ¬ S.due i = some now) : psI S now (i + 1) = psI S now i := by
  unfold psI
  rw [List.range_succ, List.filter_append, List.filter_cons, if_neg (by rw [decide_eq_false h]; exact Bool.false_ne_true)]
  exact List.append_nil _
theorem psI_len (S : SS) (now : Int) (i : Nat) : (psI S now i).length ≤ i := by
  have := List.length_filter_le (fun k => decide (S.due k = some now)) (List.range i)
  rwa [List.length_range] at this
theorem mem_psI {S : SS} {now : Int} {i p : Nat} : p ∈ psI S now i ↔ p < i ∧ S.due p = some now := by
  unfold psI
  rw [List.mem_filter, List.mem_range, decide_eq_true_iff]
theorem psI_nd (S : SS) (now : Int) (i : Nat) : (psI S now i).Nodup := List.Pairwise.filter _ List.nodup_range
theorem leaves_snoc (S : SS) (ps : List Nat) (p : Nat) : S.leaves HAL (ps ++ [p]) = (S.leaves HAL ps).leave HAL p := by
  unfold NR.S.leaves
  rw [List.foldl_append]
  rfl
theorem comes_snoc (ss : Nat → List (Str × Int)) (now : Int) (S : SS) (ps : List Nat) (p : Nat) : S.comes HAL ss now (ps ++ [p]) = (S.comes HAL ss now ps).come HAL ss p now := by
  unfold NR.S.comes
  rw [List.foldl_append]
  rfl
theorem look_snoc (ss : Nat → List (Str × Int)) (now : Int) (S : SS) (rs : List Str) (r : Str) : S.look HAL ss now (rs ++ [r]) = (S.look HAL ss now rs).room HAL ss r now := by
  unfold NR.S.look
  rw [List.foldl_append]
  rfl
theorem take_snoc {α : Type} {l : List α} {i : Nat} {a : α} (h : l[i]? = some a) : l.take (i + 1) = l.take i ++ [a] := by
  rw [List.take_add_one, h]
  rfl
theorem leaves_que : ∀ (ps : List Nat) (S : SS), (S.leaves HAL ps).que = S.que
  | [], _ => rfl
  | p :: ps, S => leaves_que ps (S.leave HAL p)
theorem come_que (ss : Nat → List (Str × Int)) (now : Int) (S : SS) (p : Nat) (r : Str) : ((S.come HAL ss p now).que r).length ≤ (S.que r).length + 1 := by
  unfold NR.S.come
  split
  · split
    · exact Nat.le_succ _
    · dsimp only
      unfold NR.up
      split
      · rename_i e
        subst e
        rw [List.length_append]
        exact Nat.le_refl _
      · exact Nat.le_succ _
  · exact Nat.le_succ _
theorem sq0 (v : V) (xs : List V) : seqIndex? 0 (v :: xs).length = some 0 := by
  exact (ixN_seq (n := (v :: xs).length) (i := 0) (j := 0) (by
    unfold ixN
    rw [if_pos (by omega), if_pos (by rw [List.length_cons]; omega)]
    rfl)).1
def spHappen (K : PySem.W.Frag) : Sp := fun vs H Q _ => ∃ (F : Hp) (x : Addr) (n : Nat) (st : Nat → Int) (ss : Nat → List (Str × Int)) (S : SS) (keys : List Str) (now T : Int), vs = [.ref x, .int now] ∧ HAt K F H x n st ss S keys ∧ NR.Rest HAL n st ss T S ∧
  (∀ p d, S.due p = some d → now ≤ d) ∧ (∃ p, S.due p = some now) ∧
  ∀ (H' : Hp) (S' : SS) (keys' : List Str), HAt K F H' x n st ss S' keys' → NR.Rest HAL n st ss now S' → NR.mu n ss S' < NR.mu n ss S → Q .non H'
section
variable {P : Program} {w : World} {K : PySem.W.Frag} {mg : Str → Option Value} {base : Heap}
abbrev N_House_happen : List Str := ["self", "now", "comers", "place", "room", "come"]
theorem sc_House_happen : FnScope N_House_happen ["self", "now"] (defScope s_House_happen) := ⟨rfl, rfl, rfl, by decide +kernel, rfl, by decide +kernel, by decide +kernel⟩
theorem d_House_happen (T : Txt K mg) : DefM P w K mg base "House" "happen" 3 ["self", "now"] (spHappen K) := by
  refine DefM.of T.f_House_happen sc_House_happen (fun vs H Q E h => ?_) (fun _ _ _ _ _ _ us hl => match us, hl with | [_, _], _ => rfl) (fun f cdv A outer s H vs Q E hr h => ?_)
  · obtain ⟨_, _, _, _, _, _, _, _, _, rfl, _⟩ := h
    rfl
  obtain ⟨F, x, n, st, ss, S, keys, now, T0, rfl, hA, hR, hmin, ⟨p0, hp0⟩, k⟩ := h
  have c := T.c_House
  have nd := sc_House_happen.nd
  refine ⟨_, pss_cons (ps_setLc (i := 2) (own := [("place", 3)]) (g := gName 3) rfl nd rfl rfl rfl (pi_range1 rfl T.n_range (pa_cons (pe_callB call_len_seq (by rfl) T.n_len PySem.boot_len (pa_cons (pe_fld (pv 0) rfl) pa_nil)) pa_nil))
        (blkOk_by (own := [("place", 3)]) (N := N_House_happen) (sc := defScope s_House_happen) (by decide +kernel)) (fun _ _ _ _ _ => pg_name (i := 3) nd rfl (Or.inl rfl))
        (fun _ _ _ _ _ => pts_one (pt_cmpR op_eq (pe_ix (ix_listK (K := K) rfl) (pe_fldK (K := K) rfl (pv 0) rfl) (pv 3) (fun _ _ => rfl)) (pv 1) (nomark _))) (fun _ _ _ _ _ => pv 3))
    (pss_cons (ps_for PassesOwn.never rfl (pi_list (pv 2)) (pg_name (i := 3) nd rfl (Or.inl rfl))
      (pss_one (ps_expr (pe_defM (pv 0) c.cl T.m_leave (d_House_leave T) (hr.mono (by decide)) (pa_cons (pv 3) pa_nil)))))
    (pss_cons (ps_for PassesOwn.never rfl (pi_list (pv 2)) (pg_name (i := 3) nd rfl (Or.inl rfl))
      (pss_one (ps_expr (pe_defM (pv 0) c.cl T.m_come (d_House_come T) hr (pa_cons (pv 3) (pa_cons (pv 1) pa_nil))))))
    (pss_one (ps_for PassesOwn.never rfl (pi_list (pe_callB (call_sortedD rfl) (by rfl) T.n_sorted PyProof.Rows.boot_sorted (pa_cons (pe_fld (pv 0) rfl) pa_nil))) (pg_name (i := 4) nd rfl (Or.inl rfl))
      (pss_one (ps_if (PW.pt (pw_and (pt_cmpR op_gt (pe_callB call_len_seq (by rfl) T.n_len PySem.boot_len (pa_cons (pe_dget (hu_of hr) (pe_fld (pv 0) rfl) (pv 4) (fun _ _ => rfl)) pa_nil)) pe_int (nomark _))
          (pw_and1 (pt_cmpR op_isN (pe_dget1 (hu_of hr) (pe_fld (pv 0) rfl) (pv 4) ⟨rfl, rfl, rfl, rfl⟩) pe_non (nomark _)))))
        (pss_cons (ps_asg (pe_bm PySem.F.plainAttrs_list PySem.F.slot_list_pop PySem.F.type_list_pop mt_popAt (pe_dget (hu_of hr) (pe_fld (pv 0) rfl) (pv 4) (fun _ _ => rfl)) (pa_cons pe_int pa_nil)) (pg_tup rfl (pgs_cons (pg_name (i := 5) nd rfl (Or.inl rfl)) (pgs_cons (pg_name (i := 3) nd rfl (Or.inl rfl)) pgs_nil))))
        (pss_one (ps_expr (pe_defM (pv 0) c.cl T.m_enter (d_House_enter T) (hr.mono (by decide)) (pa_cons (pv 3) (pa_cons (pv 5) (pa_cons (pv 1) pa_nil)))))))
        pss_nil)))))), ?_⟩
  have bg : (1000 : Nat) < sizeLine := by decide
  obtain ⟨dx, pl, rl, dl, il, ql, fs, ad, cont, kvi, h⟩ := hA
  have hF := h.ls.same
  obtain ⟨a, pxs, e0, hpx, hpd⟩ := h.hp.list
  cases e0
  have hpl : pxs.length = n := by rw [hpd.length, List.length_map, List.length_range]
  have hn6 := h.nn
  have hpn : ∀ p d, S.due p = some d → p < n := fun p d hd => by
    rcases Nat.lt_or_ge p n with q | q
    · exact q
    · rw [(hR.j.out p q).2] at hd; cases hd
  refine ⟨_, rfl, x, _, dx, fs, _, rfl, h.hxH, c.cl, T.n_House_plans, h.f1, pl, pxs, rfl, .inl (hF.seq hpx), _, rfl, by omega, by omega, fun D hD => ?_⟩
  rw [hpl]
  refine lc_range (lo := 0) (n := n) (fun i H' => H' = upd H D (.lst ((psI S now i).map fun k : Nat => V.int (k : Int)))) rfl ?_ ?_
  · rintro i H' hi rfl
    rw [Int.zero_add]
    refine ⟨rfl, ?_⟩
    refine ⟨_, rfl, x, _, dx, fs, _, rfl, Same.new_ hD _ _ h.hxH, c.cl, T.n_House_due, h.f3, _, rfl, dl, _, _, _, rfl, rfl, SqL.of (Same.new_ hD _ _ h.dlH), atI_nat (rng_get _ hi), _, rfl, ?_⟩
    have hlen := psI_len S now i
    cases hd : S.due i with
    | none =>
      refine ⟨rfl, _, rfl, iteDF (by intro e; cases e) ?_⟩
      show _ = _
      rw [psI_no (by rw [hd]; intro e; cases e)]
    | some d =>
      refine ⟨rfl, _, rfl, iteD2 (fun e => ?_) (fun e => ?_)⟩
      · have e : d = now := by injection e
        subst e
        refine ⟨_, rfl, _, upd_same, by rw [List.length_map]; omega, ?_⟩
        rw [psI_yes hd, upd_upd, List.map_append]
        rfl
      · rw [psI_no (fun q => e (by rw [hd] at q; cases q; rfl))]
  rintro H1 rfl
  have epl : ∃ ps, ps = psI S now n := ⟨_, rfl⟩
  obtain ⟨ps, eps⟩ := epl
  rw [← eps]
  have hmem : ∀ p, p ∈ ps ↔ S.due p = some now := fun p => by
    rw [eps, mem_psI]
    exact ⟨fun q => q.2, fun q => ⟨hpn p now q, q⟩⟩
  have hnd : ps.Nodup := by rw [eps]; exact psI_nd S now n
  have hps6 : ps.length ≤ 6 := by rw [eps]; exact Nat.le_trans (psI_len S now n) hn6
  have hlt : ∀ p ∈ ps, p < n := fun p hp => hpn p now ((hmem p).mp hp)
  have hne : ps ≠ [] := fun e => by
    have := (hmem p0).mpr hp0
    rw [e] at this
    cases this
  have hQ0 : ∀ r, (S.que r).length ≤ 6 := fun r => by
    have h1 := hR.j.qnd r
    have h2 := nd_len (m := List.range n) h1 (fun p hp => by
      obtain ⟨cp, hcp, e⟩ := List.mem_map.mp hp
      obtain ⟨cc, p'⟩ := cp
      dsimp only at e
      subst e
      obtain ⟨_, _, ⟨l, hl⟩, _⟩ := hR.j.que r cc p' hcp
      rw [List.mem_range]
      rcases Nat.lt_or_ge p' n with q | q
      · exact q
      · rw [(hR.j.out p' q).1] at hl; simp at hl)
    rw [List.length_map, List.length_range] at h2
    omega
  have hA : HAt K F H x n st ss S keys := ⟨dx, pl, rl, dl, il, ql, fs, ad, cont, kvi, h⟩
  have hA1 := hA.put (o := .lst (ps.map fun k : Nat => V.int (k : Int))) hD
  have hF1 : Same F (upd F D (.lst (ps.map fun k : Nat => V.int (k : Int)))) := Same.new_ (hF.free hD)
  have hFD : upd F D (.lst (ps.map fun k : Nat => V.int (k : Int))) D = some (.lst (ps.map fun k : Nat => V.int (k : Int))) := upd_same
  revert hA1 hF1 hFD
  generalize upd F D (.lst (ps.map fun k : Nat => V.int (k : Int))) = F1
  intro hA1 hF1 hFD
  have hjl := NR.J.leaves ((hR.j.next hR.f hmin (by
      have := (hR.j.bus p0 now hp0).2.2 id
      omega)).iff (L' := fun p => p ∈ ps) (fun p => (hmem p).symm) (fun _ => Iff.rfl)) hnd (fun p hp => (hmem p).mp hp) (fun _ h => h.elim)
  have hj2 := NR.J.comes (hjl.iff (C' := fun p => p ∈ ps) (fun _ => Iff.rfl) (fun p => by simp)) hnd
  have gps : ∀ {i : Nat} {v : V}, (ps.map fun k : Nat => V.int (k : Int))[i]? = some v → ∃ p : Nat, v = .int (p : Int) ∧ ps[i]? = some p ∧ p ∈ ps := fun {i v} e => by
    rw [List.getElem?_map] at e
    cases q : ps[i]? with
    | none => rw [q] at e; cases e
    | some p =>
      rw [q] at e
      exact ⟨p, (Option.some.inj e).symm, rfl, List.mem_of_getElem? q⟩
  -- the leavings
  refine ⟨_, rfl, D, rfl, ⟨_, hA1.same.seq (SqL.of hFD)⟩, for_list (K := K) (a := D) (xs := ps.map fun k : Nat => V.int (k : Int)) (fun i σ H' => ∃ (b3 b4 b5 : Option V), σ = [some (.ref x), some (.int now), some (.ref D), b3, b4, b5] ∧
      HAt K F1 H' x n st ss (S.leaves HAL (ps.take i)) keys) ⟨_, _, _, rfl, hA1⟩ ?_ ?_ ?_⟩
  · rintro i σ H' hi ⟨b3, b4, b5, rfl, hh⟩
    exact hh.same.seq (SqL.of hFD)
  · rintro i v σ H' hi ⟨b3, b4, b5, rfl, hh⟩
    obtain ⟨p, rfl, hpi, hpm⟩ := gps hi
    obtain ⟨dx', pl', rl', dl', il', ql', fs', ad', cont', kvi', g⟩ := hh
    refine ⟨_, rfl, x, dx', fs', rfl, g.hxH, g.meth _ (by decide +kernel) (by decide +kernel) (by decide +kernel) (by decide +kernel) (by decide +kernel), _, rfl, F1, x, n, st, ss, _, keys, p, rfl, ⟨_, _, _, _, _, _, _, _, _, _, g⟩, hlt p hpm, fun H2 g2 => ⟨_, _, _, rfl, ?_⟩⟩
    rw [take_snoc hpi, leaves_snoc]
    exact g2
  rintro σ H2 ⟨b3, b4, b5, rfl, hh⟩
  rw [List.length_map, List.take_length] at hh
  -- the comings
  refine ⟨_, rfl, D, rfl, ⟨_, hh.same.seq (SqL.of hFD)⟩, for_list (K := K) (a := D) (xs := ps.map fun k : Nat => V.int (k : Int)) (fun i σ H' => ∃ (b3 b4 b5 : Option V), σ = [some (.ref x), some (.int now), some (.ref D), b3, b4, b5] ∧
      (∀ r, (((S.leaves HAL ps).comes HAL ss now (ps.take i)).que r).length ≤ 6 + i) ∧ ∃ keys', HAt K F1 H' x n st ss ((S.leaves HAL ps).comes HAL ss now (ps.take i)) keys') ⟨_, _, _, rfl, fun r => by rw [show ((S.leaves HAL ps).comes HAL ss now (ps.take 0)).que r = S.que r from congrFun (leaves_que ps S) r]; exact hQ0 r, keys, hh⟩ ?_ ?_ ?_⟩
  · rintro i σ H' hi ⟨b3, b4, b5, rfl, _, keys', hh⟩
    exact hh.same.seq (SqL.of hFD)
  · rintro i v σ H' hi ⟨b3, b4, b5, rfl, hq, keys', hh⟩
    obtain ⟨p, rfl, hpi, hpm⟩ := gps hi
    obtain ⟨dx', pl', rl', dl', il', ql', fs', ad', cont', kvi', g⟩ := hh
    have hil : i < ps.length := (List.getElem?_eq_some_iff.mp hpi).1
    refine ⟨_, rfl, x, dx', fs', rfl, g.hxH, g.meth _ (by decide +kernel) (by decide +kernel) (by decide +kernel) (by decide +kernel) (by decide +kernel), _, rfl, _, rfl, F1, x, n, st, ss, _, keys', p, now, rfl, ⟨_, _, _, _, _, _, _, _, _, _, g⟩, hlt p hpm, fun r => by have := hq r; omega, fun H2 keys2 g2 => ⟨_, _, _, rfl, fun r => ?_, keys2, ?_⟩⟩
    · rw [take_snoc hpi, comes_snoc]
      have h1 := come_que ss now ((S.leaves HAL ps).comes HAL ss now (ps.take i)) p r
      have h2 := hq r
      omega
    · rw [take_snoc hpi, comes_snoc]
      exact g2
  rintro σ H3 ⟨b3, b4, b5, rfl, _, keys3, hh⟩
  rw [List.length_map, List.take_length] at hh
  -- the rooms
  have hh3 := hh
  obtain ⟨dx', pl', rl', dl', il', ql', fs', ad', cont', kvi', g⟩ := hh3
  refine ⟨_, rfl, x, _, dx', fs', _, rfl, g.hxH, c.cl, T.n_House_queues, g.f5, ql', _, keys3, rfl, .inl g.hq, by unfold qkv; rw [List.map_map]; rfl, by have := g.keysLen; omega, fun ys D3 hys hsort hD3 => ?_⟩
  have hA3 := hh.put (o := .lst (ys.map V.str)) hD3
  have hF3 : Same F1 (upd F1 D3 (.lst (ys.map V.str))) := Same.new_ (hh.same.free hD3)
  have hFD3 : upd F1 D3 (.lst (ys.map V.str)) D3 = some (.lst (ys.map V.str)) := upd_same
  revert hA3 hF3 hFD3
  generalize upd F1 D3 (.lst (ys.map V.str)) = F3
  intro hA3 hF3 hFD3
  have hlook : ∀ rs, NR.J HAL n st ss now (fun _ => False) (fun _ => False) (((S.leaves HAL ps).comes HAL ss now ps).look HAL ss now rs) := fun rs =>
    (NR.J.look (rs := rs) (F := fun r => ((S.leaves HAL ps).comes HAL ss now ps).que r = []) hj2 (fun r h1 h2 => (h2 h1).elim)).1
  refine ⟨D3, rfl, ⟨_, hA3.same.seq (SqL.of hFD3)⟩, for_list (K := K) (a := D3) (xs := ys.map V.str) (fun i σ H' => ∃ (b3 b4 b5 : Option V), σ = [some (.ref x), some (.int now), some (.ref D), b3, b4, b5] ∧
      HAt K F3 H' x n st ss (((S.leaves HAL ps).comes HAL ss now ps).look HAL ss now (ys.take i)) keys3) ⟨_, _, _, rfl, hA3⟩ ?_ ?_ ?_⟩
  · rintro i σ H' hi ⟨b3, b4, b5, rfl, hh⟩
    exact hh.same.seq (SqL.of hFD3)
  · rintro i v σ H' hi ⟨b3, b4, b5, rfl, hh⟩
    rw [List.getElem?_map] at hi
    obtain ⟨r, hri, rfl⟩ : ∃ r, ys[i]? = some r ∧ v = .str r := by
      cases q : ys[i]? with
      | none => rw [q] at hi; cases hi
      | some r => rw [q] at hi; exact ⟨r, rfl, (Option.some.inj hi).symm⟩
    have hrk : r ∈ keys3 := hys.mem_iff.mp (List.mem_of_getElem? hri)
    have hJ := hlook (ys.take i)
    rw [take_snoc hri]
    revert hJ hh
    rw [look_snoc]
    generalize ((S.leaves HAL ps).comes HAL ss now ps).look HAL ss now (ys.take i) = S3
    intro hh hJ
    obtain ⟨dx', pl', rl', dl', il', ql', fs', ad', cont', kvi', g⟩ := hh
    have hval : DGet H' ql' (.str r) (some (.ref (ad' (.que r)))) := by
      have := DGet.k (k := Sum.inr r) g.hq
      rw [qkv_val, if_pos hrk] at this
      exact this
    have hql := g.ls.at_ (.que r) hrk
    have hqlen := (g.cq r hrk).length
    rw [List.length_map] at hqlen
    refine ⟨_, rfl, x, _, dx', fs', _, rfl, g.hxH, c.cl, T.n_House_queues, g.f5, _, rfl, ql', _, rfl, hval, _, _, rfl, .inl (SqL.of hql), _, _, rfl, rfl, _, rfl, ?_⟩
    rw [hqlen]
    cases hq : S3.que r with
    | nil =>
      refine iteDF (by decide) ?_
      refine iteF ⟨_, _, _, rfl, ?_⟩
      have e : S3.room HAL ss r now = S3 := by
        unfold NR.S.room
        rw [hq]
      rw [e]
      exact ⟨_, _, _, _, _, _, _, _, _, _, g⟩
    | cons cp rest =>
      obtain ⟨cc, p⟩ := cp
      refine iteDT (by rw [List.length_cons]; omega) ?_
      refine ⟨_, rfl, x, _, dx', fs', _, rfl, g.hxH, c.cl, T.n_House_inside, g.f4, il', rfl, .inl ⟨_, .inl g.hi⟩, _, rfl, _, DGet.k (k := Sum.inr r) g.hi, ?_⟩
      rw [g.vi r]
      refine ⟨rfl, _, rfl, ?_⟩
      cases hi2 : S3.ins r with
      | some q =>
        refine iteDF (by intro e; cases e) ⟨_, _, _, rfl, ?_⟩
        have e : S3.room HAL ss r now = S3 := by
          unfold NR.S.room
          rw [hq, hi2]
        rw [e]
        exact ⟨_, _, _, _, _, _, _, _, _, _, g⟩
      | none =>
        refine iteDT rfl ?_
        obtain ⟨_, _, ⟨l, hl⟩, _⟩ := hJ.que r cc p (by rw [hq]; exact List.mem_cons_self)
        have hpn' : p < n := by
          rcases Nat.lt_or_ge p n with q | q
          · exact q
          · rw [(hJ.out p q).1] at hl; simp at hl
        have e : S3.room HAL ss r now = ({ S3 with que := NR.up S3.que r rest } : SS).enter HAL p r l cc now := by
          unfold NR.S.room
          rw [hq, hi2]
          dsimp only
          rw [hl]
        rw [e]
        obtain ⟨t, xs, cont2, hc2, ht2, g2⟩ := g.popQue hrk hq
        rw [hc2] at hql
        refine ⟨_, rfl, x, _, dx', fs', _, rfl, g.hxH, c.cl, T.n_House_queues, g.f5, _, rfl, ql', _, rfl, hval, .inl ⟨rfl, _, SqL.of hql⟩, _, _, _, 0, _, rfl, rfl, hql, by decide, by decide, sq0 _ _, rfl, ?_⟩
        have ht3 : upd H' (ad' (.que r)) (.lst xs) t = some (.tup (vq (cc, p))) := by
          rw [upd_ne (ne_of ht2 hql (by intro e; cases e))]
          exact ht2
        refine ⟨t, _, rfl, SqT.of ht3, rfl, _, _, rfl, _, _, rfl, rfl, ?_⟩
        refine ⟨_, rfl, x, dx', fs', rfl, g2.hxH, g2.meth _ (by decide +kernel) (by decide +kernel) (by decide +kernel) (by decide +kernel) (by decide +kernel), _, rfl, _, rfl, _, rfl, F3, x, n, st, ss, _, keys3, p, cc, now, r, l, rfl, ⟨_, _, _, _, _, _, _, _, _, _, g2⟩, hpn', hl, fun H2 g3 => ⟨_, _, _, rfl, g3⟩⟩
  rintro σ H4 ⟨b3, b4, b5, rfl, hh4⟩
  rw [List.length_map, List.take_length] at hh4
  refine k H4 (S.happen HAL ss now ps ys) keys3 (HAt.back hA hh4 (hF1.trans hF3)) (hR.happen hnd (fun p => hmem p) hmin hne (fun r hr => ?_)) ?_
  · by_cases z : r ∈ keys3
    · exact hys.mem_iff.mpr z
    · exact (hr (g.nq r z)).elim
  · obtain ⟨q, l, e⟩ := List.exists_cons_of_ne_nil hne
    exact NR.mu_happen (p := q) (by rw [e]; rfl) ((hmem q).mp (by rw [e]; exact List.mem_cons_self)) (hlt q (by rw [e]; exact List.mem_cons_self))
end
end NRW
/-! sorted of the waits. -/
namespace NRW
open PySem PySem.Spec PyProof.Rows L2
/-- group p waits at its step j -/
structure Wt where
  p : Nat
  j : Nat
  nm : Str
  r : Str
  c : Int
  e : Int
def dIn (w : Wt) : PyData := .tuple [.str w.nm, .int ((w.j : Int) + 1), .str w.r, .int w.c, .int w.e]
def dWt (w : Wt) : PyData := .tuple [.int w.c, .int (w.p : Int), dIn w]
def wLe (a b : Wt) : Bool := PySem.W.dataLe false dWt a b
theorem wLe_c {a b : Wt} (h : wLe a b = true) : a.c ≤ b.c := by
  have h1 : (!PySem.W.dataLt (dWt b) (dWt a)) = true := h
  rcases Int.lt_or_le b.c a.c with q | q
  · exfalso
    have : PySem.W.dataLt (dWt b) (dWt a) = true := by
      unfold dWt
      rw [PySem.W.dataLt_tuple, PySem.W.dataLt_cons (by simp [PySem.W.alike]), if_neg (by simp [PyData.eqv]; omega), PySem.W.dataLt_int]
      exact decide_eq_true q
    rw [this] at h1
    cases h1
  · exact q
theorem wLe_trans (a b c : Wt) (h1 : wLe a b = true) (h2 : wLe b c = true) : wLe a c = true := by
  have h1' : (!PySem.W.dataLt (dWt b) (dWt a)) = true := h1
  have h2' : (!PySem.W.dataLt (dWt c) (dWt b)) = true := h2
  show (!PySem.W.dataLt (dWt c) (dWt a)) = true
  cases q : PySem.W.dataLt (dWt c) (dWt a) with
  | false => rfl
  | true =>
    rcases PyProof.Rows.lex_negTrans _ _ _ q with h | h
    · rw [show PySem.W.dataLt (dWt c) (dWt b) = true from h] at h2'; exact h2'
    · rw [show PySem.W.dataLt (dWt b) (dWt a) = true from h] at h1'; exact h1'
theorem wLe_total (a b : Wt) : (wLe a b || wLe b a) = true := by
  show (!PySem.W.dataLt (dWt b) (dWt a) || !PySem.W.dataLt (dWt a) (dWt b)) = true
  cases q : PySem.W.dataLt (dWt b) (dWt a) with
  | false => rfl
  | true =>
    cases q2 : PySem.W.dataLt (dWt a) (dWt b) with
    | false => rfl
    | true =>
      have := PyProof.Rows.lex_trans _ _ _ q q2
      rw [PyProof.Rows.lex_irrefl] at this
      cases this
theorem sort_head {bs : List Wt} {b : Wt} {rest : List Wt} (h : bs.mergeSort wLe = b :: rest) : b ∈ bs ∧ ∀ x ∈ bs, b.c ≤ x.c := by
  have hp := List.mergeSort_perm bs wLe
  have hs := List.pairwise_mergeSort wLe_trans wLe_total bs
  rw [h] at hp hs
  refine ⟨hp.mem_iff.mp List.mem_cons_self, fun x hx => ?_⟩
  rcases List.mem_cons.mp (hp.mem_iff.mpr hx) with e | hx'
  · rw [e]; exact Int.le_refl _
  · exact wLe_c ((List.pairwise_cons.mp hs).1 x hx')
theorem dpAll_tup {K : PySem.W.Frag} {H : Hp} : ∀ {bs : List Wt} {xs : List V}, DpAll K H xs (bs.map dWt) → ∀ x ∈ xs, ∃ a, x = V.ref a
  | [], _, h, x, hx => by rw [h.nil'] at hx; cases hx
  | b :: bs, _, h, x, hx => by
    obtain ⟨v, r, rfl, h1, h2⟩ := DpAll.cons' h
    rcases List.mem_cons.mp hx with rfl | hx
    · obtain ⟨a, _, e, _⟩ := h1.tuple
      exact ⟨a, e⟩
    · exact dpAll_tup h2 x hx
/-- what an item stands for -/
def RW_ (K : PySem.W.Frag) (H : Hp) (u : Value) (b : Wt) : Prop := ∃ t, u = .ref t ∧ Dp K H (.ref t) (dWt b)
theorem each_of {K : PySem.W.Frag} {H : Hp} : ∀ {bs : List Wt} {xs : List V} {us : List Value}, DpAll K H xs (bs.map dWt) → Vals xs us → PySem.W.EachIs (RW_ K H) us bs
  | [], _, _, h, r => by
    obtain rfl := h.nil'
    cases r
    exact .nil
  | b :: bs, _, _, h, r => by
    obtain ⟨v, rr, rfl, h1, h2⟩ := DpAll.cons' h
    cases r with
    | cons r1 r2 =>
      obtain ⟨a, _, rfl, _⟩ := h1.tuple
      exact .cons ⟨a, r1, h1⟩ (each_of h2 r2)
theorem each_back {K : PySem.W.Frag} {H : Hp} : ∀ {bs : List Wt} {us : List Value}, PySem.W.EachIs (RW_ K H) us bs → DpAll K H (us.map backV) (bs.map dWt) ∧ ∀ u ∈ us, ∃ a, u = Value.ref a
  | _, _, .nil => ⟨.nil, fun u hu => absurd hu (by simp)⟩
  | _, _, .cons ⟨t, e, h1⟩ k => by
    obtain ⟨k1, k2⟩ := each_back k
    subst e
    refine ⟨.cons h1 k1, fun u hu => ?_⟩
    rcases List.mem_cons.mp hu with rfl | hu
    · exact ⟨t, rfl⟩
    · exact k2 u hu
/-- sorted(waits) -/
def rSortedW (K : PySem.W.Frag) : List V → Hp → VK → Prop := fun vs H Q => ∃ (a : Addr) (xs : List V) (bs : List Wt), vs = [V.ref a] ∧ SqL K H a xs ∧ DpAll K H xs (bs.map dWt) ∧ bs.length ≤ 1000 ∧
  ∀ ys p, DpAll K H ys ((bs.mergeSort wLe).map dWt) → H p = none → Q (.ref p) (upd H p (.lst ys))
theorem cr_sortedW {X : Cx} (hu : X.A.units + 64 < cLine) : CallR X (.builtin "sorted") (rSortedW X.K) := by
  intro pins s σ H vs us Q I r h
  obtain ⟨a, xs, bs, rfl, hs, hx, hb, q⟩ := h
  obtain ⟨its, rv, hl, hz⟩ := I.list hs
  obtain ⟨u, rfl, ru⟩ := vals1 r
  obtain rfl : u = Value.ref a := ru
  obtain ⟨as, rd⟩ := Dp.readsAll I _ _ _ hx rv
  refine PySem.W.sorted_data (enc := dWt) (R := RW_ X.K H) hl.isList (each_of hx rv) (PySem.W.readsAll_each dWt rd) (PySem.W.AllAlike.of fun _ _ => by simp [PySem.W.alike, PySem.W.alikeAll, dWt, dIn]) (PySem.W.Sortable.tuples fun _ => ⟨_, _, rfl⟩) (by rw [sizeLine_eq]; omega) (fun b _ => ?_) fun out hlen eo => ?_
  · have hd : (dWt b).depth = 2 := by simp [dWt, dIn, PyData.depth, PyData.depthAll]
    omega
  · obtain ⟨k1, k2⟩ := each_back eo
    obtain ⟨n, hn⟩ := PyProof.Rows.sortedAll_at s.heap its (List.toArray out)
    refine ⟨.ref (s.heap.objs.size + 1), upd H (s.heap.objs.size + 1) (.lst (out.map backV)), I.laid (t' := s.toks) (fun _ _ => PyProof.Rows.sortedAll_old) (Nat.le_succ _) ⟨?_, out, n, vals_back k2, hn⟩, rfl, q _ _ k1 (I.hok.fresh (Nat.le_succ _))⟩
    rw [List.length_map, hlen, sizeLine_eq]
    omega
end NRW
/-! run: plain parts. -/
namespace NRW
open PySem PySem.Spec PyProof.Rows L2
theorem iteBF {b : Bool} {A B : Prop} (h : b = false) (k : B) : if b = true then A else B := by rw [if_neg (by rw [h]; exact Bool.false_ne_true)]; exact k
theorem iteBT {b : Bool} {A B : Prop} (h : b = true) (k : A) : if b = true then A else B := by rw [if_pos h]; exact k
def stF (ps : List Plan) (k : Nat) : Int := (ps[k]?.map (·.st)).getD 0
def ssF (ps : List Plan) (k : Nat) : List (Str × Int) := (ps[k]?.map fun p => stl p.ss p.ls).getD []
theorem stF_eq {ps : List Plan} {i : Nat} {p : Plan} (h : ps[i]? = some p) : stF ps i = p.st := by unfold stF; rw [h]; rfl
theorem ssF_eq {ps : List Plan} {i : Nat} {p : Plan} (h : ps[i]? = some p) : ssF ps i = stl p.ss p.ls := by unfold ssF; rw [h]; rfl
theorem ssF_out {ps : List Plan} {i : Nat} (h : ps.length ≤ i) : ssF ps i = [] := by unfold ssF; rw [List.getElem?_eq_none_iff.mpr h]; rfl
theorem ssF_four {ps : List Plan} (hok : ∀ p ∈ ps, PlanOk p) (k : Nat) : (ssF ps k).length ≤ 4 := by
  cases h : ps[k]? with
  | none => unfold ssF; rw [h]; exact Nat.zero_le _
  | some p =>
    have := hok p (List.mem_of_getElem? h)
    rw [ssF_eq h, stl_length this.fit.len]
    exact this.st.four
theorem ssF_pos {ps : List Plan} (hok : ∀ p ∈ ps, PlanOk p) (k : Nat) : NR.Pos (ssF ps k) := by
  cases h : ps[k]? with
  | none => unfold ssF; rw [h]; intro s hs; cases hs
  | some p =>
    have o := hok p (List.mem_of_getElem? h)
    rw [ssF_eq h]
    intro s hs
    obtain ⟨i, hi⟩ := NR.mem_ix hs
    unfold stl at hi
    rw [List.getElem?_zipWith] at hi
    cases h1 : p.ss[i]? with
    | none => rw [h1] at hi; cases hi
    | some a =>
      cases h2 : p.ls[i]? with
      | none => rw [h1, h2] at hi; cases hi
      | some b =>
        rw [h1, h2] at hi
        cases hi
        have := (o.fit.ok i a b h1 h2).1
        have := o.st.least a (List.mem_of_getElem? h1)
        show 0 < b
        omega
theorem below (st : Nat → Int) : ∀ n : Nat, ∃ T : Int, ∀ p, p < n → T < st p
  | 0 => ⟨0, fun p h => by omega⟩
  | n + 1 => by
    obtain ⟨T, hT⟩ := below st n
    refine ⟨min T (st n - 1), fun p hp => ?_⟩
    rcases Nat.lt_or_ge p n with q | q
    · have := hT p q
      omega
    · have : p = n := by omega
      subst this
      omega
def GroupsAt (K : PySem.W.Frag) (H : Hp) (a : Addr) (ps : List Plan) : Prop := ∃ xs, SqL K H a xs ∧ xs.length = ps.length ∧
  ∀ (i : Nat) p, ps[i]? = some p → ∃ t x, xs[i]? = some (.ref t) ∧ SqT K H t [.str p.name, .ref x, .int p.st] ∧ RoundAt K H x p.ss
/-- the waits of the groups ahead of i, and of i's rows ahead of j -/
structure WI (ps : List Plan) (rows : Nat → List RowS) (i j : Nat) (ws : List Wt) : Prop where
  mem : ∀ w ∈ ws, ∃ p, ps[w.p]? = some p ∧ w.nm = p.name ∧ ∃ u, (rows w.p)[w.j]? = some u ∧ u.come < u.enter ∧ w.r = u.room ∧ w.c = u.come ∧ w.e = u.enter
  all : ∀ (p k : Nat) u, (p < i ∨ (p = i ∧ k < j)) → (rows p)[k]? = some u → u.come < u.enter → ∃ w ∈ ws, w.c = u.come
  len : ws.length ≤ 4 * i + j
theorem WI.zero (ps : List Plan) (rows : Nat → List RowS) : WI ps rows 0 0 [] := ⟨fun w h => (nomatch h), fun p k u h => by omega, Nat.le_refl _⟩
theorem WI.next {ps : List Plan} {rows : Nat → List RowS} {i : Nat} {ws : List Wt} (h : WI ps rows i (rows i).length ws) (h4 : (rows i).length ≤ 4) : WI ps rows (i + 1) 0 ws where
  mem := h.mem
  all := fun p k u hp hk hu => h.all p k u (by
    have hkl := (List.getElem?_eq_some_iff.mp hk).1
    rcases Nat.lt_or_ge p i with q | q
    · exact .inl q
    · have : p = i := by omega
      subst this
      exact .inr ⟨rfl, hkl⟩) hk hu
  len := by have := h.len; omega
theorem WI.no {ps : List Plan} {rows : Nat → List RowS} {i j : Nat} {ws : List Wt} {u : RowS} (h : WI ps rows i j ws) (hu : (rows i)[j]? = some u) (hn : ¬ u.come < u.enter) : WI ps rows i (j + 1) ws where
  mem := h.mem
  all := fun p k u' hp hk hu' => by
    by_cases q : p = i ∧ k = j
    · obtain ⟨rfl, rfl⟩ := q
      rw [hu] at hk
      cases hk
      exact (hn hu').elim
    · exact h.all p k u' (by omega) hk hu'
  len := by have := h.len; omega
theorem WI.yes {ps : List Plan} {rows : Nat → List RowS} {i j : Nat} {ws : List Wt} {u : RowS} {pl : Plan} (h : WI ps rows i j ws) (hp : ps[i]? = some pl) (hu : (rows i)[j]? = some u) (hy : u.come < u.enter) : WI ps rows i (j + 1) (ws ++ [⟨i, j, pl.name, u.room, u.come, u.enter⟩]) where
  mem := fun w hw => by
    rcases List.mem_append.mp hw with q | q
    · exact h.mem w q
    · have : w = ⟨i, j, pl.name, u.room, u.come, u.enter⟩ := by simpa using q
      subst this
      exact ⟨pl, hp, rfl, u, hu, hy, rfl, rfl, rfl⟩
  all := fun p k u' hp' hk hu' => by
    by_cases q : p = i ∧ k = j
    · obtain ⟨rfl, rfl⟩ := q
      rw [hu] at hk
      cases hk
      exact ⟨_, List.mem_append_right _ List.mem_cons_self, rfl⟩
    · obtain ⟨w, h1, h2⟩ := h.all p k u' (by omega) hk hu'
      exact ⟨w, List.mem_append_left _ h1, h2⟩
  len := by
    have := h.len
    rw [List.length_append, List.length_singleton]
    omega
structure WaitsOk (ps : List Plan) (rows : Nat → List RowS) (ws : List Wt) : Prop where
  mem : ∀ w ∈ ws, ∃ p, ps[w.p]? = some p ∧ w.nm = p.name ∧ ∃ u, (rows w.p)[w.j]? = some u ∧ u.come < u.enter ∧ w.r = u.room ∧ w.c = u.come ∧ w.e = u.enter
  all : ∀ (p : Nat) u, u ∈ rows p → u.come < u.enter → ∃ w ∈ ws, w.c = u.come
  least : ∀ (w : Wt) (l : List Wt), ws = w :: l → ∀ (p : Nat) u, u ∈ rows p → u.come < u.enter → w.c ≤ u.come
theorem WI.done {ps : List Plan} {rows : Nat → List RowS} {ws : List Wt} (h : WI ps rows ps.length 0 ws) (hlt : ∀ (p : Nat) u, u ∈ rows p → p < ps.length) : WaitsOk ps rows (ws.mergeSort wLe) := by
  have hp := List.mergeSort_perm ws wLe
  have hall : ∀ (p : Nat) u, u ∈ rows p → u.come < u.enter → ∃ w ∈ ws, w.c = u.come := fun p u hu hy => by
    obtain ⟨k, hk⟩ := NR.mem_ix hu
    exact h.all p k u (.inl (hlt p u hu)) hk hy
  refine ⟨fun w hw => h.mem w (hp.mem_iff.mp hw), fun p u hu hy => ?_, fun w l e p u hu hy => ?_⟩
  · obtain ⟨w, h1, h2⟩ := hall p u hu hy
    exact ⟨w, hp.mem_iff.mpr h1, h2⟩
  · obtain ⟨w', h1, h2⟩ := hall p u hu hy
    rw [← h2]
    exact (sort_head e).2 w' h1
def dueI (S : SS) (i : Nat) : List Int := (List.range i).filterMap S.due
theorem dueI_none {S : SS} {i : Nat} (h : S.due i = none) : dueI S (i + 1) = dueI S i := by
  unfold dueI
  rw [List.range_succ, List.filterMap_append]
  simp [h]
theorem dueI_some {S : SS} {i : Nat} {d : Int} (h : S.due i = some d) : dueI S (i + 1) = dueI S i ++ [d] := by
  unfold dueI
  rw [List.range_succ, List.filterMap_append]
  simp [h]
theorem dueI_len (S : SS) (i : Nat) : (dueI S i).length ≤ i := by
  have := List.length_filterMap_le S.due (List.range i)
  rwa [List.length_range] at this
theorem mem_dueI {S : SS} {i : Nat} {d : Int} : d ∈ dueI S i ↔ ∃ p, p < i ∧ S.due p = some d := by
  unfold dueI
  rw [List.mem_filterMap]
  exact ⟨fun ⟨p, h1, h2⟩ => ⟨p, List.mem_range.mp h1, h2⟩, fun ⟨p, h1, h2⟩ => ⟨p, List.mem_range.mpr h1, h2⟩⟩
theorem pw_get : ∀ {ss : List (Str × Int)} {st : Int} {i : Nat} {r : Str} {a b : Int}, (NR.pw st ss)[i]? = some (r, a, b) → ss[i]? = some (r, b - a)
  | [], _, _, _, _, _, h => by simp [NR.pw] at h
  | s :: ss, st, 0, r, a, b, h => by
    have h' : some (s.1, st, st + s.2) = some (r, a, b) := by simpa [NR.pw] using h
    have h2 := Option.some.inj h'
    have e1 := congrArg Prod.fst h2
    have e2 := congrArg (fun x => x.2.1) h2
    have e3 := congrArg (fun x => x.2.2) h2
    dsimp only at e1 e2 e3
    obtain ⟨s1, s2⟩ := s
    dsimp only at e1 e2 e3
    subst e1 e2 e3
    show some (s1, s2) = some (s1, st + s2 - st)
    rw [show st + s2 - st = s2 by omega]
  | s :: ss, st, i + 1, r, a, b, h => by
    have h' : (NR.pw (st + s.2) ss)[i]? = some (r, a, b) := by simpa [NR.pw] using h
    simpa using pw_get h'
theorem pw_len : ∀ {ss : List (Str × Int)} {st : Int}, (NR.pw st ss).length = ss.length
  | [], _ => rfl
  | s :: ss, st => congrArg Nat.succ (pw_len (ss := ss) (st := st + s.2))
theorem Same.at_ {F H : Hp} {p : Addr} {o : HO} (s : Same F H) (h : H p = some o) : Same (upd F p o) H := fun b ob e => by
  by_cases q : b = p
  · subst q; rw [upd_same] at e; rw [h]; exact e
  · rw [upd_ne q] at e; exact s b ob e
theorem dpAll_map {α : Type} {K : PySem.W.Frag} {H : Hp} {f : α → V} {d : α → PyData} : ∀ {l : List α}, (∀ k ∈ l, Dp K H (f k) (d k)) → DpAll K H (l.map f) (l.map d)
  | [], _ => .nil
  | k :: l, h => .cons (h k List.mem_cons_self) (dpAll_map fun x hx => h x (List.mem_cons_of_mem _ hx))
theorem Tups.rows {K : PySem.W.Frag} {H : Hp} : ∀ {rs : List RowS} {xs : List V}, Tups H xs (rs.map vRow) → DpAll K H xs ((rs.map dRow).map .tuple)
  | [], _, h => by cases h; exact .nil
  | r :: rs, _, h => by
    cases h with
    | cons a k =>
      obtain ⟨t, rfl, ht⟩ := a
      exact .cons (.tup (SqT.of ht) (dRow_mk r)) (Tups.rows k)
def spRun (K : PySem.W.Frag) : Sp := fun vs H Q _ => ∃ (g l : Addr) (ps : List Plan), vs = [.ref g, .ref l] ∧ GroupsAt K H g ps ∧ Dp K H (.ref l) (.list (ps.map fun p => dInts p.ls)) ∧ ps.length ≤ 6 ∧ (∀ p ∈ ps, PlanOk p) ∧
  ∀ (H' : Hp) (z a b : Addr) (rows : Nat → List RowS) (ws : List Wt), Same H H' → RunAt K H' z (.ref a) (.ref b) → Dp K H' (.ref a) (.list ((List.range ps.length).map fun k => dRows (rows k))) → Dp K H' (.ref b) (.list (ws.map dIn)) →
    NR.Good HAL ps.length (stF ps) (ssF ps) rows → WaitsOk ps rows ws → Q (.ref z) H'
end NRW
/-! run. -/
namespace NRW
open PySem PySem.Spec PyProof.Rows L2
section
variable {P : Program} {w : World} {K : PySem.W.Frag} {mg : Str → Option Value} {base : Heap}
abbrev N_run : List Str := ["groups", "lengths", "plans", "_", "tour", "start", "row", "house", "moments", "waits", "place", "step", "room", "come", "enter", "leave", "due", "wait"]
theorem sc_run : FnScope N_run ["groups", "lengths"] (defScope s_run) := ⟨rfl, rfl, rfl, by decide +kernel, rfl, by decide +kernel, by decide +kernel⟩
theorem d_run (T : Txt K mg) : Def P w K mg base "run" 4 ["groups", "lengths"] (spRun K) := by
  have DW : Def P w K mg base "walk" 3 ["tour", "start", "lengths"] (spWalk K) := d_walk T
  have DH : DefM P w K mg base "House" "__init__" 1 ["self", "plans"] (spHouse K) := d_House_init T
  have DR : DefM P w K mg base "Run" "__init__" 1 ["self", "walks", "waits"] (spRunInit K) := d_Run_init T
  have DP : DefM P w K mg base "House" "happen" 3 ["self", "now"] (spHappen K) := d_House_happen T
  refine Def.of T.g_run T.f_run sc_run (fun vs H Q E h => ?_) (fun _ _ _ _ _ _ us hl => match us, hl with | [_, _], _ => rfl) (fun f cdv A outer s H vs Q E hr h => ?_)
  · obtain ⟨_, _, _, rfl, _⟩ := h
    rfl
  obtain ⟨g, l, ps, rfl, hG, hL, hn6, hok, k⟩ := h
  have cH := T.c_House
  have cR := T.c_Run
  have nd := sc_run.nd
  have hr2 : Room 2 _ := hr.mono (by decide)
  refine ⟨_, pss_cons (ps_if (pt_cmpR op_gt (pe_callB call_len_seq (by rfl) T.n_len PySem.boot_len (pa_cons (pv 0) pa_nil)) (pe_gI T.k_MOST_GROUPS) (nomark _)) (pss_one ps_never) pss_nil)
    (pss_cons (ps_if (pt_cmpR op_ne (pe_callB call_len_seq (by rfl) T.n_len PySem.boot_len (pa_cons (pv 1) pa_nil)) (pe_callB call_len_seq (by rfl) T.n_len PySem.boot_len (pa_cons (pv 0) pa_nil)) (nomark _)) (pss_one ps_never) pss_nil)
    (pss_cons (ps_set (i := 2) nd rfl (Or.inl rfl) (pe_lst pa_nil))
    (pss_cons (ps_for PassesOwn.never rfl (pi_zip (by rfl) T.n_zip (pa_cons (pv 0) (pa_cons (pv 1) pa_nil)))
      (pg_tup rfl (pgs_cons (pg_tup rfl (pgs_cons (pg_name (i := 3) nd rfl (Or.inl rfl)) (pgs_cons (pg_name (i := 4) nd rfl (Or.inl rfl)) (pgs_cons (pg_name (i := 5) nd rfl (Or.inl rfl)) pgs_nil)))) (pgs_cons (pg_name (i := 6) nd rfl (Or.inl rfl)) pgs_nil)))
      (pss_one (ps_expr (pe_bm PySem.F.plainAttrs_list PySem.F.slot_list_append PySem.F.type_list_append mt_append (pv 2) (pa_cons (pe_tup (pa_cons (pv 5) (pa_cons
        (pe_lc (own := [("room", 12), ("enter", 14), ("leave", 15)]) (tt := tYes) rfl nd (pi_list (pe_def DW hr (by rfl) (pa_cons (pv 4) (pa_cons (pv 5) (pa_cons (pv 6) pa_nil))))) (blkOk_by (own := [("room", 12), ("enter", 14), ("leave", 15)]) (N := N_run) (sc := defScope s_run) (by decide +kernel))
          (fun _ _ _ _ _ => pg_tupK (K := K) (n := 3) rfl rfl (pgs_cons (pg_name (i := 12) nd rfl (Or.inl rfl)) (pgs_cons (pg_name (i := 14) nd rfl (Or.inl rfl)) (pgs_cons (pg_name (i := 15) nd rfl (Or.inl rfl)) pgs_nil)))) (fun _ _ _ _ _ => pts_nil) (fun _ _ _ _ _ => pe_tup (pa_cons (pv 12) (pa_cons (pe_op op_sub (pv 15) (pv 14)) pa_nil))))
        pa_nil))) pa_nil)))))
    (Evl.pss_cut (ps_set (i := 7) nd rfl (Or.inl rfl) (pe_defC cH DH hr2 (by rfl) (pa_cons (pv 2) pa_nil)))
    (Evl.pss_cut (ps_whileW PassesOwn.never (ptw_truth (pew_named (i := 8) nd rfl (Or.inl rfl) (pew_of (pe_lc (own := [("due", 16)]) (g := gName 16) rfl nd (pi_list (pe_fld (pv 7) rfl)) (blkOk_by (own := [("due", 16)]) (N := N_run) (sc := defScope s_run) (by decide +kernel)) (fun _ _ _ _ _ => pg_name (i := 16) nd rfl (Or.inl rfl))
        (fun _ _ _ _ _ => pts_one (pt_cmpR op_notN (pv 16) pe_non (nomark _))) (fun _ _ _ _ _ => pv 16)))))
        (pss_one (ps_expr (pe_defM (pv 7) cH.cl T.m_happen DP hr (pa_cons (pe_callB (cr_min rfl) (by rfl) T.n_min PyProof.Rows.boot_min (pa_cons (pv 8) pa_nil)) pa_nil)))) pss_nil)
    (pss_cons (ps_set (i := 9) nd rfl (Or.inl rfl) (pe_lst pa_nil))
    (Evl.pss_cut (ps_for PassesOwn.never rfl (pi_range1 rfl T.n_range (pa_cons (pe_callB call_len_seq (by rfl) T.n_len PySem.boot_len (pa_cons (pv 0) pa_nil)) pa_nil)) (pg_name (i := 10) nd rfl (Or.inl rfl))
      (pss_cons (ps_set (i := 11) nd rfl (Or.inl rfl) pe_int)
      (pss_one (ps_for PassesOwn.never rfl (pi_list (pe_ix ix_list (pe_fld (pv 7) rfl) (pv 10) (fun _ _ => rfl))) (pg_tup rfl (pgs_cons (pg_name (i := 12) nd rfl (Or.inl rfl)) (pgs_cons (pg_name (i := 13) nd rfl (Or.inl rfl)) (pgs_cons (pg_name (i := 14) nd rfl (Or.inl rfl)) (pgs_cons (pg_name (i := 3) nd rfl (Or.inl rfl)) pgs_nil)))))
        (pss_cons (ps_aug (i := 11) nd rfl (Or.inl rfl) pe_int ip_add)
        (pss_one (ps_if (pt_cmpR op_lt (pv 13) (pv 14) (nomark _))
          (pss_one (ps_expr (pe_bm PySem.F.plainAttrs_list PySem.F.slot_list_append PySem.F.type_list_append mt_append (pv 9) (pa_cons (pe_tup (pa_cons (pv 13) (pa_cons (pv 10) (pa_cons
            (pe_tup (pa_cons (pe_ix ix_tup (pe_ix ix_list (pv 0) (pv 10) (fun _ _ => rfl)) pe_int (fun _ _ => rfl)) (pa_cons (pv 11) (pa_cons (pv 12) (pa_cons (pv 13) (pa_cons (pv 14) pa_nil)))))) pa_nil)))) pa_nil)))) pss_nil)))))))
    (pss_one (ps_ret (pe_defC cR DR hr2 (by rfl) (pa_cons (pe_fld (pv 7) rfl) (pa_cons
      (pe_lc (own := [("_", 3), ("wait", 17)]) (tt := tYes) rfl nd (pi_list (pe_callB (cr_sortedW hr.units) (by rfl) T.n_sorted PyProof.Rows.boot_sorted (pa_cons (pv 9) pa_nil))) (blkOk_by (own := [("_", 3), ("wait", 17)]) (N := N_run) (sc := defScope s_run) (by decide +kernel))
        (fun _ _ _ _ _ => pg_tupK (K := K) (n := 3) rfl rfl (pgs_cons (pg_name (i := 3) nd rfl (Or.inl rfl)) (pgs_cons (pg_name (i := 3) nd rfl (Or.inl rfl)) (pgs_cons (pg_name (i := 17) nd rfl (Or.inl rfl)) pgs_nil)))) (fun _ _ _ _ _ => pts_nil) (fun _ _ _ _ _ => pv 17)) pa_nil)))))))))))), ?_⟩
  have bg : (1000 : Nat) < sizeLine := by decide
  obtain ⟨xs, hgx, hxl, hgi⟩ := hG
  obtain ⟨_, ys, e0, hly, hyd⟩ := hL.list
  cases e0
  have hyl : ys.length = ps.length := by rw [hyd.length, List.length_map]
  refine ⟨_, rfl, g, xs, rfl, .inl hgx, _, _, rfl, rfl, _, rfl, iteDF (by omega) ?_⟩
  refine ⟨_, rfl, l, ys, rfl, .inl hly, _, rfl, g, xs, rfl, .inl hgx, rfl, _, rfl, iteNF (by rw [hyl, hxl]) ?_⟩
  refine ⟨Nat.zero_le _, fun p hp => ?_⟩
  -- plans
  refine ⟨_, rfl, _, rfl, g, l, xs, ys, rfl, (Same.new_ hp).seq hgx, (Same.new_ hp).seq hly, RZ.for_zipL (xs := xs) (ys := ys) (by rw [hxl, hyl]) (fun i σ H' => ∃ (F : Hp) (us : List V) (b3 b4 b5 b6 b7 b8 b9 b10 b11 b12 b13 b14 b15 b16 b17 : Option V), σ = [some (.ref g), some (.ref l), some (.ref p), b3, b4, b5, b6, b7, b8, b9, b10, b11, b12, b13, b14, b15, b16, b17] ∧
      Same H F ∧ F p = none ∧ Same F H' ∧ H' p = some (.lst us) ∧ DpAll K F us ((List.range i).map (dHPlan (stF ps) (ssF ps)))) ⟨H, [], _, _, _, _, _, _, _, _, _, _, _, _, _, _, _, rfl, Same.refl H, hp, Same.new_ hp, upd_same, .nil⟩ ?_ ?_ ?_⟩
  · rintro i σ H' ⟨F, us, b3, b4, b5, b6, b7, b8, b9, b10, b11, b12, b13, b14, b15, b16, b17, rfl, s0, fp, s1, hpl, hd⟩
    exact ⟨(s0.trans s1).seq hgx, (s0.trans s1).seq hly⟩
  · rintro i x y t0 σ H' hx hy ⟨F, us, b3, b4, b5, b6, b7, b8, b9, b10, b11, b12, b13, b14, b15, b16, b17, rfl, s0, fp, s1, hpl, hd⟩ ht0
    have hi : i < ps.length := by rw [← hxl]; exact (List.getElem?_eq_some_iff.mp hx).1
    obtain ⟨pl, hpl'⟩ : ∃ q, ps[i]? = some q := ⟨_, List.getElem?_eq_getElem hi⟩
    obtain ⟨t, xr, hxt, ht, hR⟩ := hgi i pl hpl'
    rw [hx] at hxt
    cases hxt
    obtain ⟨y', hy', hyD⟩ := hyd.get (d := dInts pl.ls) (by rw [List.getElem?_map, hpl']; rfl)
    rw [hy] at hy'
    cases hy'
    have pok := hok pl (List.mem_of_getElem? hpl')
    have S1 : Same H (upd H' t0 (.tup [.ref t, y])) := (s0.trans s1).to ht0
    refine ⟨t0, [.ref t, y], rfl, SqT.of upd_same, rfl, _, _, rfl, ⟨t, _, rfl, sqT_same S1 ht, rfl, _, _, rfl, _, _, rfl, _, _, rfl, rfl, _, _, rfl, rfl, ?_⟩⟩
    have hp1 : upd H' t0 (.tup [.ref t, y]) p = some (.lst us) := Same.new_ ht0 _ _ hpl
    have F1 : Same F (upd H' t0 (.tup [.ref t, y])) := s1.to ht0
    revert S1 hp1 F1
    generalize upd H' t0 (.tup [.ref t, y]) = H1
    intro S1 hp1 F1
    refine ⟨_, rfl, .inl ⟨rfl, _, SqL.of hp1⟩, _, rfl, ?_⟩
    refine ⟨_, rfl, _, rfl, _, rfl, xr, pl.st, y, pl.ss, pl.ls, rfl, hR.same S1, hyD.same S1, pok.fit, pok.st.hi, fun v' H2 S2 hv' => ?_⟩
    obtain ⟨c, zs, rfl, hc, hzs⟩ := hv'.list
    have hzl : zs.length = (stl pl.ss pl.ls).length := by rw [hzs.length, List.length_map, pw_len]
    refine ⟨c, rfl, ⟨_, hc⟩, fun D hD => lc_list (K := K) (a := c) (xs := zs) (fun j H' => ∃ (G : Hp) (as : List V), Same F G ∧ G p = none ∧ G D = none ∧ Same G H' ∧ Same H2 H' ∧ H' D = some (.lst as) ∧ DpAll K G as (((stl pl.ss pl.ls).take j).map d2))
      ⟨F, [], Same.refl F, fp, (F1.trans S2).free hD, (F1.trans S2).to hD, Same.new_ hD, upd_same, .nil⟩ (fun j H' _ ⟨_, _, _, _, _, _, e, _⟩ => e.seq hc) ?_ ?_⟩
    · rintro j z H3 hz ⟨G, as, g1, g2, g3, g4, g5, g6, g7⟩
      obtain ⟨u, sr, rfl, hs, hu⟩ := dT3_get hzs hz
      obtain ⟨r, a, b⟩ := sr
      have hj := pw_get hs
      refine ⟨u, _, rfl, sqT_same g5 hu, rfl, _, _, rfl, _, _, rfl, _, _, rfl, rfl, rfl, ?_⟩
      refine ⟨_, rfl, _, rfl, _, rfl, _, _, rfl, rfl, by show 2 ≤ sizeLine; decide, fun m hm => ?_⟩
      have hDm : D ≠ m := ne_of_none g6 hm
      have hpm : p ≠ m := ne_of_none (g5 _ _ (S2 _ _ hp1)) hm
      have hGm : G m = none := g4.free hm
      have hal : as.length = j := by
        have := (List.getElem?_eq_some_iff.mp hj).1
        rw [g7.length, List.length_map, List.length_take]
        omega
      have hj4 : (stl pl.ss pl.ls).length ≤ 4 := by rw [stl_length pok.fit.len]; exact pok.st.four
      have hjl := (List.getElem?_eq_some_iff.mp hj).1
      refine ⟨as, by rw [upd_ne hDm]; exact g6, by omega, upd G m (.tup [.str r, .int (b - a)]), as ++ [.ref m], g1.to hGm, by rw [upd_ne hpm]; exact g2, by rw [upd_ne hDm]; exact g3, (g4.ins hGm).mut (by rw [upd_ne hDm]; exact g3), (g5.to hm).mut hD, upd_same, ?_⟩
      rw [take_snoc hj, List.map_append]
      exact (g7.same (Same.new_ hGm)).snoc (.tup (SqT.of upd_same) (.cons (.str _) (.cons (.int _) .nil)))
    rintro H3 ⟨G, as, g1, g2, g3, g4, g5, g6, g7⟩
    rw [hzl, List.take_length] at g7
    refine ⟨by show 2 ≤ sizeLine; decide, fun m hm => ?_⟩
    have hp3 := g5 _ _ (S2 _ _ hp1)
    have hpm : p ≠ m := ne_of_none hp3 hm
    have hpD : p ≠ D := ne_of_none (S2 _ _ hp1) hD
    have hGD := Same.at_ g4 g6
    have hGm : upd G D (.lst as) m = none := hGD.free hm
    have hul : us.length = i := by rw [hd.length, List.length_map, List.length_range]
    refine ⟨p, us, .ref m, rfl, rfl, by rw [upd_ne hpm]; exact hp3, by omega, ?_⟩
    refine ⟨upd (upd G D (.lst as)) m (.tup [.int pl.st, .ref D]), us ++ [.ref m], _, _, _, _, _, _, _, _, _, _, _, _, _, _, _, rfl, (s0.trans ((g1.to g3).to hGm)), by rw [upd_ne hpm, upd_ne hpD]; exact g2, (hGD.ins hGm).mut (by rw [upd_ne hpm, upd_ne hpD]; exact g2), upd_same, ?_⟩
    rw [List.range_succ, List.map_append]
    refine (hd.same ((g1.to g3).to hGm)).snoc ?_
    unfold dHPlan
    rw [stF_eq hpl', ssF_eq hpl']
    exact .tup (SqT.of upd_same) (.cons (.int _) (.cons (.lst (SqL.of (Same.new_ hGm _ _ upd_same)) (g7.same ((Same.new_ g3).to hGm))) .nil))
  rintro σ H1 ⟨F, us, b3, b4, b5, b6, b7, b8, b9, b10, b11, b12, b13, b14, b15, b16, b17, rfl, s0, fp, s1, hpl, hd⟩
  rw [hxl] at hd
  -- the house
  refine ⟨fun σ H' => ∃ (F : Hp) (x : Addr) (b3 b4 b5 b6 b8 b9 b10 b11 b12 b13 b14 b15 b16 b17 : Option V), σ = [some (.ref g), some (.ref l), some (.ref p), b3, b4, b5, b6, some (.ref x), b8, b9, b10, b11, b12, b13, b14, b15, b16, b17] ∧ Same H F ∧ HAt K F H' x ps.length (stF ps) (ssF ps) (NR.S.start ps.length (stF ps)) [],
    ⟨_, rfl, fun x dx hx hdx hne => ⟨H1, x, dx, .ref p, ps.length, stF ps, ssF ps, rfl, ?_, hx, upd_same, (Dp.lst (SqL.of hpl) (hd.same s1) : Dp K H1 (.ref p) (dHPlans ps.length (stF ps) (ssF ps))), hn6, ssF_four hok, fun F2 H2 e2 hA => ⟨rfl, F2, x, _, _, _, _, _, _, _, _, _, _, _, _, _, _, rfl, (s0.trans s1).trans e2, hA⟩⟩⟩, ?_⟩
  · exact ((Same.refl H1).to hdx).to (by rw [upd_ne hne.symm]; exact hx)
  rintro σ H2 ⟨F, x, b3, b4, b5, b6, b8, b9, b10, b11, b12, b13, b14, b15, b16, b17, rfl, sF, hA⟩
  -- the moments
  obtain ⟨T0, hT0⟩ := below (stF ps) ps.length
  have hR0 : NR.Rest HAL ps.length (stF ps) (ssF ps) T0 (NR.S.start ps.length (stF ps)) := NR.Rest.start (ssF_pos hok) (fun p h => ssF_out h) hT0
  refine ⟨fun σ H' => ∃ (S : SS) (keys : List Str) (b3 b4 b5 b6 b8 b9 b10 b11 b12 b13 b14 b15 b16 b17 : Option V), σ = [some (.ref g), some (.ref l), some (.ref p), b3, b4, b5, b6, some (.ref x), b8, b9, b10, b11, b12, b13, b14, b15, b16, b17] ∧ HAt K F H' x ps.length (stF ps) (ssF ps) S keys ∧ NR.Good HAL ps.length (stF ps) (ssF ps) S.rows, ?_, ?_⟩
  · refine ⟨fun m σ H' => ∃ (S : SS) (keys : List Str) (T1 : Int) (b3 b4 b5 b6 b8 b9 b10 b11 b12 b13 b14 b15 b16 b17 : Option V), σ = [some (.ref g), some (.ref l), some (.ref p), b3, b4, b5, b6, some (.ref x), b8, b9, b10, b11, b12, b13, b14, b15, b16, b17] ∧ HAt K F H' x ps.length (stF ps) (ssF ps) S keys ∧ NR.Rest HAL ps.length (stF ps) (ssF ps) T1 S ∧ NR.mu ps.length (ssF ps) S = m, ⟨_, _, _, T0, _, _, _, _, _, _, _, _, _, _, _, _, _, _, rfl, hA, hR0, rfl⟩, ?_⟩
    rintro m σ H3 ⟨S, keys, T1, b3, b4, b5, b6, b8, b9, b10, b11, b12, b13, b14, b15, b16, b17, rfl, hA3, hR3, hmu⟩
    obtain ⟨dx, pla, rl, dl, il, ql, fs, ad, cont, kvi, h⟩ := id hA3
    refine ⟨_, rfl, x, _, dx, fs, _, rfl, h.hxH, cH.cl, T.n_House_due, h.f3, dl, rfl, ⟨_, SqL.of h.dlH⟩, fun D hD => ?_⟩
    refine lc_list (K := K) (a := dl) (xs := (List.range ps.length).map fun k => optV (S.due k)) (fun i H' => H' = upd H3 D (.lst ((dueI S i).map V.int))) rfl (fun i H' _ e => by rw [e]; exact SqL.of (Same.new_ hD _ _ h.dlH)) ?_ ?_
    · rintro i y H' hy rfl
      have hi : i < ps.length := by
        have := (List.getElem?_eq_some_iff.mp hy).1
        rwa [List.length_map, List.length_range] at this
      rw [rng_get _ hi] at hy
      cases hy
      refine ⟨rfl, ?_⟩
      have hlen := dueI_len S i
      cases hd2 : S.due i with
      | none =>
        refine ⟨_, rfl, rfl, _, rfl, iteNF rfl ?_⟩
        show _ = _
        rw [dueI_none hd2]
      | some d =>
        refine ⟨_, rfl, rfl, _, rfl, iteNT (by intro e; cases e) ?_⟩
        refine ⟨_, rfl, _, upd_same, by rw [List.length_map]; omega, ?_⟩
        rw [dueI_some hd2, upd_upd, List.map_append]
        rfl
    rintro H4 rfl
    rw [List.length_map, List.length_range]
    refine ⟨_, .inl ⟨_, SqL.of upd_same, rfl⟩, ?_⟩
    have hJn : ∀ p d, S.due p = some d → p < ps.length := fun p d hd => by
      rcases Nat.lt_or_ge p ps.length with q | q
      · exact q
      · rw [(hR3.j.out p q).2] at hd; cases hd
    cases hdue : dueI S ps.length with
    | nil =>
      refine iteBF rfl ⟨S, keys, _, _, _, _, _, _, _, _, _, _, _, _, _, _, rfl, hA3.grow (Same.new_ hD), hR3.done fun p => ?_⟩
      cases hd2 : S.due p with
      | none => rfl
      | some d =>
        have : d ∈ dueI S ps.length := mem_dueI.mpr ⟨p, hJn p d hd2, hd2⟩
        rw [hdue] at this
        cases this
    | cons d0 dr =>
      rw [← hdue]
      refine iteBT (by rw [hdue]; rfl) ⟨fun σ H' => ∃ m', m' < m ∧ ∃ (S : SS) (keys : List Str) (T1 : Int) (b3 b4 b5 b6 b8 b9 b10 b11 b12 b13 b14 b15 b16 b17 : Option V), σ = [some (.ref g), some (.ref l), some (.ref p), b3, b4, b5, b6, some (.ref x), b8, b9, b10, b11, b12, b13, b14, b15, b16, b17] ∧ HAt K F H' x ps.length (stF ps) (ssF ps) S keys ∧ NR.Rest HAL ps.length (stF ps) (ssF ps) T1 S ∧ NR.mu ps.length (ssF ps) S = m', fun _ _ h => h, ?_⟩
      have hA4 := hA3.grow (Same.new_ (o := .lst ((dueI S ps.length).map V.int)) hD)
      have hx4 := Same.new_ (o := .lst ((dueI S ps.length).map V.int)) hD _ _ h.hxH
      refine ⟨_, rfl, x, dx, fs, rfl, hx4, h.meth _ (by decide +kernel) (by decide +kernel) (by decide +kernel) (by decide +kernel) (by decide +kernel), _, rfl, D, dueI S ps.length, rfl, SqL.of upd_same, by rw [hdue]; exact Nat.succ_pos _, fun mm hmm hmin => ?_⟩
      obtain ⟨pm, _, hpm⟩ := mem_dueI.mp hmm
      exact ⟨F, x, ps.length, stF ps, ssF ps, S, keys, mm, T1, rfl, hA4, hR3, fun p d hd => hmin d (mem_dueI.mpr ⟨p, hJn p d hd, hd⟩), ⟨pm, hpm⟩, fun H' S' keys' hA' hR' hlt => ⟨NR.mu ps.length (ssF ps) S', by omega, S', keys', mm, _, _, _, _, _, _, _, _, _, _, _, _, _, _, rfl, hA', hR', rfl⟩⟩
  rintro σ H3 ⟨S, keys, b3, b4, b5, b6, b8, b9, b10, b11, b12, b13, b14, b15, b16, b17, rfl, hA3, hGood⟩
  obtain ⟨dx, pla, rl, dl, il, ql, fs, ad, cont, kvi, h⟩ := hA3
  have S3 : Same H H3 := sF.trans h.ls.same
  have hr4 : ∀ k, (S.rows k).length ≤ 4 := fun k => by rw [hGood.len]; exact ssF_four hok k
  -- waits
  refine ⟨Nat.zero_le _, fun q hq => ?_⟩
  refine ⟨fun σ H' => ∃ (G : Hp) (zs : List V) (ws : List Wt) (b3 b4 b5 b6 b8 b10 b11 b12 b13 b14 b15 b16 b17 : Option V), σ = [some (.ref g), some (.ref l), some (.ref p), b3, b4, b5, b6, some (.ref x), b8, some (.ref q), b10, b11, b12, b13, b14, b15, b16, b17] ∧ Same H3 G ∧ G q = none ∧ Same G H' ∧ H' q = some (.lst zs) ∧ DpAll K G zs (ws.map dWt) ∧ WI ps S.rows ps.length 0 ws, ?_, ?_⟩
  · refine ⟨_, rfl, g, xs, rfl, .inl ((S3.to hq).seq hgx), _, rfl, by omega, by omega, ?_⟩
    rw [hxl]
    refine for_range (lo := 0) (n := ps.length) (fun i σ H' => ∃ (G : Hp) (zs : List V) (ws : List Wt) (b3 b4 b5 b6 b8 b10 b11 b12 b13 b14 b15 b16 b17 : Option V), σ = [some (.ref g), some (.ref l), some (.ref p), b3, b4, b5, b6, some (.ref x), b8, some (.ref q), b10, b11, b12, b13, b14, b15, b16, b17] ∧ Same H3 G ∧ G q = none ∧ Same G H' ∧ H' q = some (.lst zs) ∧ DpAll K G zs (ws.map dWt) ∧ WI ps S.rows i 0 ws)
      ⟨H3, [], [], _, _, _, _, _, _, _, _, _, _, _, _, _, rfl, Same.refl H3, hq, Same.new_ hq, upd_same, .nil, WI.zero ps S.rows⟩ ?_ ?_
    · rintro i σ H4 hi ⟨G, zs, ws, b3, b4, b5, b6, b8, b10, b11, b12, b13, b14, b15, b16, b17, rfl, g1, g2, g3, g4, g5, g6⟩
      rw [Int.zero_add]
      obtain ⟨pl, hpl'⟩ : ∃ y, ps[i]? = some y := ⟨_, List.getElem?_eq_getElem hi⟩
      obtain ⟨t, xr, hxt, ht, _⟩ := hgi i pl hpl'
      have hrow := h.rowH hi
      have hcr := h.cr i hi
      have gg := g1.trans g3
      refine ⟨_, rfl, x, _, dx, fs, _, rfl, gg _ _ h.hxH, cH.cl, T.n_House_rows, h.f2, _, rfl, rl, _, _, _, rfl, rfl, gg.seq h.rlH, atI_nat (rng_get _ hi), ad (.row i), rfl, ⟨_, SqL.of (gg _ _ hrow.1)⟩, ?_⟩
      refine for_list (K := K) (a := ad (.row i)) (xs := cont (.row i)) (fun j σ H' => ∃ (G : Hp) (zs : List V) (ws : List Wt) (b3 b4 b5 b6 b8 b12 b13 b14 b15 b16 b17 : Option V), σ = [some (.ref g), some (.ref l), some (.ref p), b3, b4, b5, b6, some (.ref x), b8, some (.ref q), some (.int (i : Int)), some (.int (j : Int)), b12, b13, b14, b15, b16, b17] ∧ Same H3 G ∧ G q = none ∧ Same G H' ∧ H' q = some (.lst zs) ∧ DpAll K G zs (ws.map dWt) ∧ WI ps S.rows i j ws)
        ⟨G, zs, ws, _, _, _, _, _, _, _, _, _, _, _, rfl, g1, g2, g3, g4, g5, g6⟩ ?_ ?_ ?_
      · rintro j σ H' _ ⟨G, zs, ws, b3, b4, b5, b6, b8, b12, b13, b14, b15, b16, b17, rfl, g1, g2, g3, g4, g5, g6⟩
        exact SqL.of ((g1.trans g3) _ _ hrow.1)
      · rintro j y σ H5 hy ⟨G, zs, ws, b3, b4, b5, b6, b8, b12, b13, b14, b15, b16, b17, rfl, g1, g2, g3, g4, g5, g6⟩
        have hj : j < (S.rows i).length := by
          have := (List.getElem?_eq_some_iff.mp hy).1
          rwa [hrow.2] at this
        obtain ⟨u, hu⟩ : ∃ u, (S.rows i)[j]? = some u := ⟨_, List.getElem?_eq_getElem hj⟩
        obtain ⟨tr, hyt, htr⟩ := hcr.get (e := vRow u) (by rw [List.getElem?_map, hu]; rfl)
        rw [hy] at hyt
        cases hyt
        have gg := g1.trans g3
        refine ⟨tr, _, rfl, SqT.of (gg _ _ htr), rfl, _, _, rfl, _, _, rfl, _, _, rfl, _, _, rfl, rfl, ?_⟩
        refine ⟨_, rfl, _, _, rfl, rfl, ?_⟩
        refine ⟨_, rfl, _, rfl, _, _, rfl, rfl, _, rfl, iteD2 (fun hc => ?_) (fun hc => ⟨G, zs, ws, _, _, _, _, _, _, _, _, _, _, _, rfl, g1, g2, g3, g4, g5, g6.no hu hc⟩)⟩
        have hwl := g6.len
        have hj4 := hr4 i
        have hzl : zs.length = ws.length := by rw [g5.length, List.length_map]
        refine ⟨_, rfl, .inl ⟨rfl, _, SqL.of g4⟩, _, rfl, _, rfl, _, rfl, _, rfl, g, xs, _, _, rfl, rfl, (S3.trans gg).seq hgx, atI_nat hxt, t, _, _, _, rfl, rfl, sqT_same (S3.trans gg) ht, at_of (j := 0) rfl rfl, _, rfl, _, rfl, _, rfl, _, rfl, by show 5 ≤ sizeLine; decide, fun m1 hm1 => ⟨by show 3 ≤ sizeLine; decide, fun m2 hm2 => ?_⟩⟩
        have hqm1 : q ≠ m1 := ne_of_none g4 hm1
        have g41 := Same.new_ (o := .tup [.str pl.name, .int ((j : Int) + 1), .str u.room, .int u.come, .int u.enter]) hm1 _ _ g4
        have hqm2 : q ≠ m2 := ne_of_none g41 hm2
        have hG1 : G m1 = none := g3.free hm1
        have e1 : Same (upd G m1 (.tup [.str pl.name, .int ((j : Int) + 1), .str u.room, .int u.come, .int u.enter])) (upd H5 m1 (.tup [.str pl.name, .int ((j : Int) + 1), .str u.room, .int u.come, .int u.enter])) := g3.ins hG1
        have hG2 := e1.free hm2
        refine ⟨q, zs, .ref m2, rfl, rfl, by rw [upd_ne hqm2]; exact g41, by omega, ?_⟩
        refine ⟨upd (upd G m1 (.tup [.str pl.name, .int ((j : Int) + 1), .str u.room, .int u.come, .int u.enter])) m2 (.tup [.int u.come, .int (i : Int), .ref m1]), zs ++ [.ref m2], ws ++ [⟨i, j, pl.name, u.room, u.come, u.enter⟩], _, _, _, _, _, _, _, _, _, _, _, rfl, (g1.to hG1).to hG2, by rw [upd_ne hqm2, upd_ne hqm1]; exact g2, (e1.ins hG2).mut (by rw [upd_ne hqm2, upd_ne hqm1]; exact g2), upd_same, ?_, g6.yes hpl' hu hc⟩
        rw [List.map_append]
        refine (g5.same ((Same.new_ hG1).to hG2)).snoc ?_
        refine .tup (SqT.of upd_same) (.cons (.int _) (.cons (.int _) (.cons ?_ .nil)))
        exact .tup (SqT.of (Same.new_ hG2 _ _ upd_same)) (.cons (.str _) (.cons (.int _) (.cons (.str _) (.cons (.int _) (.cons (.int _) .nil)))))
      · rintro σ H' ⟨G, zs, ws, b3, b4, b5, b6, b8, b12, b13, b14, b15, b16, b17, rfl, g1, g2, g3, g4, g5, g6⟩
        rw [hrow.2] at g6
        exact ⟨G, zs, ws, _, _, _, _, _, _, _, _, _, _, _, _, _, rfl, g1, g2, g3, g4, g5, g6.next (hr4 i)⟩
    · rintro σ H' ⟨G, zs, ws, b3, b4, b5, b6, b8, b10, b11, b12, b13, b14, b15, b16, b17, rfl, g1, g2, g3, g4, g5, g6⟩
      exact ⟨G, zs, ws, _, _, _, _, _, _, _, _, _, _, _, _, _, rfl, g1, g2, g3, g4, g5, g6⟩
  rintro σ H4 ⟨G, zs, ws, b3, b4, b5, b6, b8, b10, b11, b12, b13, b14, b15, b16, b17, rfl, g1, g2, g3, g4, g5, g6⟩
  have gg := g1.trans g3
  have hwl := g6.len
  -- the answer
  refine ⟨_, rfl, x, _, dx, fs, _, rfl, gg _ _ h.hxH, cH.cl, T.n_House_rows, h.f2, ?_⟩
  refine ⟨_, rfl, q, zs, ws, rfl, SqL.of g4, g5.same g3, by omega, fun ys2 D1 hys hD1 => ⟨D1, rfl, ⟨_, SqL.of upd_same⟩, fun D2 hD2 => ?_⟩⟩
  have eD1 : upd H4 D1 (.lst ys2) D1 = some (.lst ys2) := upd_same
  have s41 : Same H4 (upd H4 D1 (.lst ys2)) := Same.new_ hD1
  revert eD1 s41 hD2
  generalize upd H4 D1 (.lst ys2) = H5
  intro hD2 eD1 s41
  have hys5 := hys.same s41
  have hyl2 : ys2.length = (ws.mergeSort wLe).length := by rw [hys.length, List.length_map]
  refine lc_list (K := K) (a := D1) (xs := ys2) (fun j H' => ∃ as, H' = upd H5 D2 (.lst as) ∧ DpAll K H5 as (((ws.mergeSort wLe).take j).map dIn)) ⟨[], rfl, .nil⟩ (fun j H' _ ⟨as, e, _⟩ => by rw [e]; exact SqL.of (Same.new_ hD2 _ _ eD1)) ?_ ?_
  · rintro j z H' hz ⟨as, rfl, has⟩
    obtain ⟨d, hd2, hzd⟩ := hys5.getV hz
    rw [List.getElem?_map] at hd2
    cases hw : (ws.mergeSort wLe)[j]? with
    | none => rw [hw] at hd2; cases hd2
    | some w0 =>
    rw [hw] at hd2
    cases hd2
    obtain ⟨u, us2, rfl, hu, hus⟩ := hzd.tuple
    obtain ⟨u1, us2, rfl, hu1, hus⟩ := hus.cons'
    obtain ⟨u2, us2, rfl, hu2, hus⟩ := hus.cons'
    obtain ⟨u3, us2, rfl, hu3, hus⟩ := hus.cons'
    obtain rfl := hus.nil'
    have hal : as.length ≤ ws.length := by
      rw [has.length, List.length_map, List.length_take, (List.mergeSort_perm ws wLe).length_eq]
      omega
    refine ⟨u, _, rfl, sqT_same (Same.new_ hD2) hu, rfl, _, _, rfl, _, _, rfl, _, _, rfl, rfl, rfl, ?_⟩
    refine ⟨_, rfl, as, upd_same, by omega, as ++ [u3], upd_upd, ?_⟩
    rw [take_snoc hw, List.map_append]
    exact has.snoc hu3
  rintro H6 ⟨as, rfl, has⟩
  rw [hyl2, List.take_length] at has
  intro z dz hz hdz hne
  have s6 : Same H3 (upd H5 D2 (.lst as)) := (gg.trans s41).to hD2
  have z6 : upd (upd H5 D2 (.lst as)) dz (.own z) z = none := by rw [upd_ne hne.symm]; exact hz
  refine ⟨upd H5 D2 (.lst as), z, dz, rl, D2, _, as, rfl, (Same.new_ hdz).to z6, hz, upd_same, s6.seq h.rlH, SqL.of upd_same, fun H' p' q' e' hrun hp' hq' => ⟨rfl, ?_⟩⟩
  have s3' := s6.trans e'
  refine k H' z p' q' S.rows (ws.mergeSort wLe) (S3.trans s3') hrun ?_ ?_ hGood (g6.done fun p u hu => hGood.lt hu)
  · refine .lst (SqL.of hp') (dpAll_map fun k hk => ?_)
    have hk' := List.mem_range.mp hk
    have hrk := h.rowH hk'
    exact .lst (SqL.of (s3' _ _ hrk.1)) ((Tups.rows (h.cr k hk')).same s3')
  · exact .lst (SqL.of hq') (has.same ((Same.new_ hD2).trans e'))
end
end NRW
/-! The plain law. -/
namespace NRW
open PySem PySem.Spec PyProof.Rows L2
def wkP (p : Plan) : List T3 := NR.pw p.st (stl p.ss p.ls)
theorem wk_get {ps : List Plan} {i : Nat} {p : Plan} (h : ps[i]? = some p) : NR.pw (stF ps i) (ssF ps i) = wkP p := by rw [stF_eq h, ssF_eq h]; rfl
theorem wks_get {ps : List Plan} {i : Nat} {w : List T3} (h : (ps.map wkP)[i]? = some w) : i < ps.length ∧ NR.pw (stF ps i) (ssF ps i) = w := by
  rw [List.getElem?_map] at h
  cases e : ps[i]? with
  | none => rw [e] at h; cases h
  | some p =>
    rw [e] at h
    cases h
    exact ⟨(List.getElem?_eq_some_iff.mp e).1, wk_get e⟩
theorem wks_at {ps : List Plan} {i : Nat} (h : i < ps.length) : (ps.map wkP)[i]? = some (NR.pw (stF ps i) (ssF ps i)) := by
  obtain ⟨p, e⟩ : ∃ p, ps[i]? = some p := ⟨_, List.getElem?_eq_getElem h⟩
  rw [List.getElem?_map, e, wk_get e]
  rfl
theorem meet_iff {ps : List Plan} {m : Int} : MeetW (ps.map wkP) m ↔ ∃ p q, p < ps.length ∧ q < ps.length ∧ p ≠ q ∧ NR.Meets HAL (stF ps) (ssF ps) p q m := by
  constructor
  · rintro ⟨p, q, rp, rq, hpq, h1, h2, a, ha, b, hb, e1, e2, e3, e4⟩
    obtain ⟨hp, ep⟩ := wks_get h1
    obtain ⟨hq, eq⟩ := wks_get h2
    obtain ⟨r, a1, a2⟩ := a
    obtain ⟨r', b1, b2⟩ := b
    dsimp only at e1 e2 e3 e4
    subst e1
    exact ⟨p, q, hp, hq, by omega, r, a1, a2, b1, b2, e2, by rw [ep]; exact ha, by rw [eq]; exact hb, e3, e4⟩
  · rintro ⟨p, q, hp, hq, hne, r, a, b, c, d, h1, h2, h3, h4, h5⟩
    rcases Nat.lt_or_gt_of_ne hne with x | x
    · exact ⟨p, q, _, _, x, wks_at hp, wks_at hq, _, h2, _, h3, rfl, h1, h4, h5⟩
    · exact ⟨q, p, _, _, x, wks_at hq, wks_at hp, _, h3, _, h2, rfl, h1, by show _ = max c a; rw [Int.max_comm]; exact h4, by show m < min d b; rw [Int.min_comm]; exact h5⟩
def dPlain (w : List T3) : List (List PyData) := w.map fun t => [.str t.1, .int t.2.1, .int t.2.1, .int t.2.2]
section
variable {ps : List Plan} {rows : Nat → List RowS}
/-- nobody meets: the runs are the plain walks -/
theorem plain_eq (g : NR.Good HAL ps.length (stF ps) (ssF ps) rows) (hno : ∀ m, ¬ MeetW (ps.map wkP) m) : (∀ p w, w ∈ rows p → w.come = w.enter) ∧ (List.range ps.length).map (fun k => (rows k).map dRow) = (ps.map wkP).map dPlain := by
  obtain ⟨h1, h2⟩ := g.none fun p q t hp hq hne hm => hno t (meet_iff.mpr ⟨p, q, hp, hq, hne, hm⟩)
  refine ⟨h1, ?_⟩
  apply List.ext_getElem?
  intro i
  by_cases hi : i < ps.length
  · rw [rng_get _ hi, List.getElem?_map, wks_at hi, ← h2 i]
    show some _ = some _
    congr 1
    unfold dPlain
    rw [List.map_map]
    apply List.map_congr_left
    intro w hw
    show dRow w = [.str w.room, .int w.come, .int w.come, .int w.leave]
    unfold dRow
    rw [← h1 i w hw]
  · rw [List.getElem?_eq_none_iff.mpr (by rw [List.length_map, List.length_range]; omega), List.getElem?_eq_none_iff.mpr (by rw [List.length_map, List.length_map]; omega)]
theorem plain_waits {ws : List Wt} (h1 : ∀ p w, w ∈ rows p → w.come = w.enter) (h : WaitsOk ps rows ws) : ws = [] := by
  cases ws with
  | nil => rfl
  | cons w l =>
    obtain ⟨p, _, _, u, hu, hlt, _⟩ := h.mem w List.mem_cons_self
    have := h1 _ u (List.mem_of_getElem? hu)
    omega
/-- somebody meets, at m first -/
theorem first_ok (g : NR.Good HAL ps.length (stF ps) (ssF ps) rows) {m : Int} (hm : Best (MeetW (ps.map wkP)) (some m)) : (∀ p w, w ∈ rows p → w.come < w.enter → m ≤ w.come) ∧ ∃ p w, w ∈ rows p ∧ w.come = m ∧ w.come < w.enter := by
  obtain ⟨p0, q0, _, _, hne, hmt⟩ := meet_iff.mp hm.1
  obtain ⟨h1, h2⟩ := g.some hne hmt fun p q t hp hq hne hmt => hm.2 t (meet_iff.mpr ⟨p, q, hp, hq, hne, hmt⟩)
  refine ⟨fun p w hw hlt => ?_, h2⟩
  rcases Int.lt_or_le w.come m with q | q
  · have := h1 p w hw q
    omega
  · exact q
/-- the first wait of the list is told right -/
theorem wait_ok (g : NR.Good HAL ps.length (stF ps) (ssF ps) rows) {m : Int} (hm : Best (MeetW (ps.map wkP)) (some m)) {ws : List Wt} (h : WaitsOk ps rows ws) :
    ∃ (w0 : Wt) (l : List Wt), ws = w0 :: l ∧ w0.c = m ∧ m < w0.e ∧ w0.r ≠ HAL ∧ ∃ (q : Nat) (wp wq : List T3) (pl : Plan) (le : Int), w0.p ≠ q ∧ (ps.map wkP)[w0.p]? = some wp ∧ (ps.map wkP)[q]? = some wq ∧ Within wp w0.r m ∧ Within wq w0.r m ∧ ps[w0.p]? = some pl ∧ pl.name = w0.nm ∧ wp[w0.j]? = some (w0.r, m, le) := by
  obtain ⟨hf, p1, u1, hu1, hc1, hl1⟩ := first_ok g hm
  cases ws with
  | nil =>
    obtain ⟨w, hw, _⟩ := h.all p1 u1 hu1 hl1
    cases hw
  | cons w0 l =>
    obtain ⟨pl, hpl, hnm, u, hu, hlt, er, ec, ee⟩ := h.mem w0 List.mem_cons_self
    have hge := hf _ u (List.mem_of_getElem? hu) hlt
    have hle := h.least w0 l rfl p1 u1 hu1 hl1
    have hc : u.come = m := by omega
    obtain ⟨k1, ⟨le, k2, k3⟩, q, c, d, k4, k5, k6, k7, k8⟩ := g.first (T := m) (fun p w hw hlt' => by
      rcases Int.lt_or_le w.come w.enter with z | z
      · have := hf p w hw z
        omega
      · have := NR.Ch.mem (g.ch p) (g.pos p) hw
        omega) hu hc hlt
    have hp0 : w0.p < ps.length := (List.getElem?_eq_some_iff.mp hpl).1
    rw [← er] at k1 k3 k6
    exact ⟨w0, l, rfl, by omega, by omega, k1, q, _, _, pl, m + le, Ne.symm k4, wks_at hp0, wks_at k5, ⟨_, List.mem_of_getElem? k3, rfl, Int.le_refl _, by show m < m + le; omega⟩, ⟨_, k6, rfl, k7, k8⟩, hpl, hnm.symm, k3⟩
end
theorem canLay_ints : ∀ ns : List Int, PyData.canLayAll0 (ns.map .int) = true
  | [] => rfl
  | n :: ns => by
    show PyData.canLayAll0 (.int n :: ns.map .int) = true
    rw [PyData.canLayAll0, canLay_ints ns]
    rfl
theorem canLay_lists : ∀ ps : List Plan, PyData.canLayAll0 (ps.map fun p => dInts p.ls) = true
  | [] => rfl
  | p :: ps => by
    show PyData.canLayAll0 (dInts p.ls :: ps.map fun p => dInts p.ls) = true
    rw [PyData.canLayAll0, canLay_lists ps]
    show (PyData.canLay0 (.list (p.ls.map .int)) && true) = true
    rw [PyData.canLay0, canLay_ints]
    rfl
theorem depth_lists : ∀ ps : List Plan, PyData.depthAll (ps.map fun p => dInts p.ls) ≤ 1
  | [] => by simp [PyData.depthAll]
  | p :: ps => by
    show PyData.depthAll (dInts p.ls :: ps.map fun p => dInts p.ls) ≤ 1
    have h := depth_lists ps
    rw [PyData.depthAll]
    have h2 : PyData.depth (dInts p.ls) ≤ 1 := by
      show PyData.depth (.list (p.ls.map .int)) ≤ 1
      rw [PyData.depth, PySem.W.depth_ints]
      omega
    omega
theorem lists_shaped (ps : List Plan) : SeqAt.shaped (.list (ps.map fun p => dInts p.ls)) = true := by
  unfold SeqAt.shaped
  rw [PyData.canLay0, canLay_lists, PyData.depth]
  have := depth_lists ps
  simp only [Bool.true_and, decide_eq_true_eq]
  omega
theorem lists_eqv (ps : List Plan) : PyData.eqv (.list (ps.map fun p => dInts p.ls)) (.list (ps.map fun p => dInts p.ls)) = true := PySem.SeqAt.eqv_refl _ (SeqAt.canLay_of_shaped (lists_shaped ps))
end NRW
/-! law. -/
namespace NRW
open PySem PySem.Spec PyProof.Rows L2
theorem pe_defCK {X : Cx} {K : PySem.W.Frag} {C : Str} {k : Nat} {ps : List Str} {sp : Sp} {p pos : Pos} {e : Expr} {es : List Expr} {t : TA} (h : X.K = K) (c : ClsF X.K X.mg C) (D : DefM X.prog X.w X.K X.mg X.base C "__init__" k ps sp) (hr : Room (k + 1) X.A) (hg : Gl X C) (ha : PA X (e :: es) t) (hdb : (C == ("__debug__" : Str)) = false := by decide)
    (he : starEach (e :: es) X.env = (false, eval e X.env) :: starEach es X.env := by rfl) (hpl : (backTo pos (starEach es X.env)).any (·.1) = false := by rfl) : PE X (.Call (.Name C p) (e :: es) [] pos) (tMake (He.ga K C) sp [] E0 t) := by
  subst h
  exact pe_defC c D hr hg ha hdb he hpl
def scRows : Scope := { kind := .function, names := [(".0", .local), ("_law_rows", .local)], isGenerator := false, isCoroutine := false }
def spLaw (K : PySem.W.Frag) : Sp := fun vs H Q _ => ∃ (a : Addr) (ns : List Int), vs = [.ref a] ∧ SqL K H a (ns.map V.int) ∧ ns.length ≤ 63 ∧ ∀ H', Q (.bl true) H'
section
variable {P : Program} {w : World} {K : PySem.W.Frag} {mg : Str → Option Value} {base : Heap}
abbrev N_law : List Str := ["_law_script", "_law_state_here", "_law_plans", "_law_walks", "_law_moment", "_law_lists", "_law_told", "_law_begins", "_law_rows", "_law_row", "_law_plan"]
theorem sc_law : FnScope N_law ["_law_script"] (defScope s_law) := ⟨rfl, rfl, rfl, by decide +kernel, rfl, by decide +kernel, by decide +kernel⟩
theorem len_law (vs : List V) (H : Hp) (Q : VK) (E : XK) (h : spLaw K vs H Q E) : vs.length = (["_law_script"] : List Str).length := by
  obtain ⟨_, _, rfl, _⟩ := h
  rfl
theorem law_body (T : Txt K mg) (f : Addr) (cdv : Value) (A : Around) (outer : List Env) (s : Shared) (H : Hp) (vs : List V) (Q : VK) (E : XK) (hr : Room 5 (A.deeper (envOfC "law" (defScope s_law) s.heap.objs.size f cdv))) (h : spLaw K vs H Q E) :
    ∃ t, PSs (cxOf CX0 P w K mg base N_law "law" (defScope s_law) f cdv A outer s H E).nox (defBody s_law) t ∧ t { nx := fun _ H' => Q .non H', rt := Q } (start N_law vs) H := by
  have DST : Def P w K mg base "_law_state" 1 ["_law_script"] (spState K) := d_law_state T
  have DG : Def P w K mg base "_law_groups" 5 ["_law_state_here", "_law_count", "_law_steps"] (spGroups K) := d_law_groups T
  have DD : Def P w K mg base "_law_draw" 2 ["_law_state_here", "_law_many"] spDraw := d_law_draw T
  have DLW : Def P w K mg base "_law_walk" 1 ["_law_stays_here", "_law_start", "_law_lengths_here"] (spLWalk K) := d_law_walk T
  have DM : Def P w K mg base "_law_meeting_moment" 2 ["_law_walks"] (spMeet K) := d_law_meeting_moment T
  have DRun : Def P w K mg base "run" 4 ["groups", "lengths"] (spRun K) := d_run T
  have DRI : DefM P w K mg base "Round" "__init__" 2 ["self", "stays"] (spRound K) := d_Round_init T
  have DIR : Def P w K mg base "_law_is_run" 3 ["_law_told", "_law_rows", "_law_waits"] (spIsRun K) := d_law_is_run T
  have DAW : Def P w K mg base "_law_are_walks" 2 ["_law_walks", "_law_plans"] (spAreWalks K) := d_law_are_walks T
  have DIF : Def P w K mg base "_law_is_first" 2 ["_law_wait", "_law_plans", "_law_walks", "_law_moment"] (spIsFirst K) := d_law_is_first T
  obtain ⟨a0, ns, rfl, ha0, hns, k⟩ := h
  have cD := T.c_Round
  have cR := T.c_Run
  have nd := sc_law.nd
  have hr1 : Room 1 _ := hr.mono (by decide)
  have hr2 : Room 2 _ := hr.mono (by decide)
  have hr3 : Room 3 _ := hr.mono (by decide)
  have hr4 : Room 4 _ := hr.mono (by decide)
  refine ⟨_, pss_cons (ps_set (i := 1) nd rfl (Or.inl rfl) (pe_def DST hr1 (by rfl) (pa_cons (pv 0) pa_nil)))
    (pss_cons (ps_set (i := 2) nd rfl (Or.inl rfl) (pe_def DG hr (by rfl) (pa_cons (pv 1) (pa_cons (pe_op op_add pe_int (pe_def DD hr2 (by rfl) (pa_cons (pv 1) (pa_cons pe_int pa_nil)))) (pa_cons pe_int pa_nil)))))
    (pss_cons (ps_setLc (i := 3) (own := [("_law_plan", 10)]) (g := gName 10) (tt := tYes) rfl nd rfl rfl rfl (pi_list (pv 2)) (blkOk_by (own := [("_law_plan", 10)]) (N := N_law) (sc := defScope s_law) (by decide +kernel)) (fun _ _ _ _ _ => pg_name (i := 10) nd rfl (Or.inl rfl)) (fun _ _ _ _ _ => pts_nil)
      (fun _ _ _ _ _ => pe_def DLW hr1 (by rfl) (pa_cons (pe_ix (ix_tupK (K := K) rfl) (pv 10) pe_int (fun _ _ => rfl)) (pa_cons (pe_ix (ix_tupK (K := K) rfl) (pv 10) pe_int (fun _ _ => rfl)) (pa_cons (pe_ix (ix_tupK (K := K) rfl) (pv 10) pe_int (fun _ _ => rfl)) pa_nil)))))
    (pss_cons (ps_set (i := 4) nd rfl (Or.inl rfl) (pe_def DM hr2 (by rfl) (pa_cons (pv 3) pa_nil)))
    (pss_cons (ps_setLc (i := 5) (own := [("_law_plan", 10)]) (g := gName 10) (tt := tYes) rfl nd rfl rfl rfl (pi_list (pv 2)) (blkOk_by (own := [("_law_plan", 10)]) (N := N_law) (sc := defScope s_law) (by decide +kernel)) (fun _ _ _ _ _ => pg_name (i := 10) nd rfl (Or.inl rfl)) (fun _ _ _ _ _ => pts_nil)
      (fun _ _ _ _ _ => pe_callTy (call_list_ofK (K := K) rfl) (by rfl) T.n_list (by decide +kernel) (pa_cons (pe_ix (ix_tupK (K := K) rfl) (pv 10) pe_int (fun _ _ => rfl)) pa_nil)))
    (pss_cons (ps_set (i := 6) nd rfl (Or.inl rfl) (pe_def DRun hr4 (by rfl) (pa_cons
      (pe_lc (own := [("_law_plan", 10)]) (g := gName 10) (tt := tYes) rfl nd (pi_list (pv 2)) (blkOk_by (own := [("_law_plan", 10)]) (N := N_law) (sc := defScope s_law) (by decide +kernel)) (fun _ _ _ _ _ => pg_name (i := 10) nd rfl (Or.inl rfl)) (fun _ _ _ _ _ => pts_nil)
        (fun _ _ _ _ _ => pe_tup (pa_cons (pe_ix (ix_tupK (K := K) rfl) (pv 10) pe_int (fun _ _ => rfl)) (pa_cons (pe_defCK (K := K) rfl cD DRI hr3 (by rfl) (pa_cons (pe_callTy (call_list_ofK (K := K) rfl) (by rfl) T.n_list (by decide +kernel) (pa_cons (pe_ix (ix_tupK (K := K) rfl) (pv 10) pe_int (fun _ _ => rfl)) pa_nil)) pa_nil)) (pa_cons (pe_ix (ix_tupK (K := K) rfl) (pv 10) pe_int (fun _ _ => rfl)) pa_nil)))))
      (pa_cons (pv 5) pa_nil))))
    (pss_cons (ps_if (pt_cmpR (op_neD hr.units) (pv 5) (pe_lc (own := [("_law_plan", 10)]) (g := gName 10) (tt := tYes) rfl nd (pi_list (pv 2)) (blkOk_by (own := [("_law_plan", 10)]) (N := N_law) (sc := defScope s_law) (by decide +kernel)) (fun _ _ _ _ _ => pg_name (i := 10) nd rfl (Or.inl rfl)) (fun _ _ _ _ _ => pts_nil)
        (fun _ _ _ _ _ => pe_ix (ix_tupK (K := K) rfl) (pv 10) pe_int (fun _ _ => rfl))) (nomark _)) (pss_one (ps_ret pe_bl)) pss_nil)
    (pss_cons (ps_if (pt_cmpR op_isN (pv 4) pe_non (nomark _))
      (pss_one (ps_ret (pe_def DIR hr3 (by rfl) (pa_cons (pv 6) (pa_cons
        (pe_lc (own := [("_law_rows", 8)]) (g := gName 8) (tt := tYes) rfl nd (pi_list (pv 3)) (blkOk_by (own := [("_law_rows", 8)]) (N := N_law) (sc := defScope s_law) (by decide +kernel)) (fun _ _ _ _ _ => pg_name (i := 8) nd rfl (Or.inl rfl)) (fun _ _ _ _ _ => pts_nil)
          (fun _ _ _ _ _ => pe_lc (own := [("_law_row", 9)]) (g := gName 9) (tt := tYes) rfl nd (pi_listK (K := K) rfl (pv 8)) (blkOk_by (own := [("_law_row", 9)]) (N := N_law) (sc := scRows) (by decide +kernel)) (fun _ _ _ _ _ => pg_name (i := 9) nd rfl (Or.inl rfl)) (fun _ _ _ _ _ => pts_nil)
            (fun _ _ _ _ _ => pe_tup (pa_cons (pe_ix (ix_tupK (K := K) rfl) (pv 9) pe_int (fun _ _ => rfl)) (pa_cons (pe_ix (ix_tupK (K := K) rfl) (pv 9) pe_int (fun _ _ => rfl)) (pa_cons (pe_ix (ix_tupK (K := K) rfl) (pv 9) pe_int (fun _ _ => rfl)) (pa_cons (pe_ix (ix_tupK (K := K) rfl) (pv 9) pe_int (fun _ _ => rfl)) pa_nil)))))))
        (pa_cons (pe_lst pa_nil) pa_nil)))))) pss_nil)
    (pss_cons (ps_if (PW.pt (pw_or (pt_not (pt_val (pe_callB call_isi (by rfl) T.n_isinstance (by decide +kernel) (pa_cons (pv 6) (pa_cons (pe_gC cR.mg_) pa_nil)))))
        (pw_or1 (pt_not (pt_val (pe_def DAW hr2 (by rfl) (pa_cons (pe_fld (pv 6) rfl) (pa_cons (pv 2) pa_nil)))))))) (pss_one (ps_ret pe_bl)) pss_nil)
    (pss_cons (ps_set (i := 7) nd rfl (Or.inl rfl) (pe_lst pa_nil))
    (pss_cons (ps_for PassesOwn.never rfl (pi_list (pe_fld (pv 6) rfl)) (pg_name (i := 8) nd rfl (Or.inl rfl))
      (pss_one (ps_for PassesOwn.never rfl (pi_list (pv 8)) (pg_name (i := 9) nd rfl (Or.inl rfl))
        (pss_one (ps_if (pt_cmpR op_lt (pe_ix ix_tup (pv 9) pe_int (fun _ _ => rfl)) (pe_ix ix_tup (pv 9) pe_int (fun _ _ => rfl)) (nomark _))
          (pss_one (ps_expr (pe_bm PySem.F.plainAttrs_list PySem.F.slot_list_append PySem.F.type_list_append mt_append (pv 7) (pa_cons (pe_ix ix_tup (pv 9) pe_int (fun _ _ => rfl)) pa_nil)))) pss_nil)))))
    (pss_cons (ps_if (PW.pt (pw_or (pt_cmpR op_eq (pe_callB call_len_seq (by rfl) T.n_len PySem.boot_len (pa_cons (pv 7) pa_nil)) pe_int (nomark _))
        (pw_or (pt_cmpR op_ne (pe_callB (cr_min rfl) (by rfl) T.n_min PyProof.Rows.boot_min (pa_cons (pv 7) pa_nil)) (pv 4) (nomark _))
        (pw_or (pt_not (pt_val (pe_callB call_isi (by rfl) T.n_isinstance (by decide +kernel) (pa_cons (pe_fld (pv 6) rfl) (pa_cons (pe_bltn (v := .ty "list") (by rfl) T.n_list (by decide +kernel) rfl) pa_nil)))))
        (pw_or1 (pt_cmpR op_eq (pe_callB call_len_seq (by rfl) T.n_len PySem.boot_len (pa_cons (pe_fld (pv 6) rfl) pa_nil)) pe_int (nomark _))))))) (pss_one (ps_ret pe_bl)) pss_nil)
    (pss_one (ps_ret (pe_def DIF hr2 (by rfl) (pa_cons (pe_ix ix_list (pe_fld (pv 6) rfl) pe_int (fun _ _ => rfl)) (pa_cons (pv 2) (pa_cons (pv 3) (pa_cons (pv 4) pa_nil)))))))))))))))))), ?_⟩
  have bg : (1000 : Nat) < sizeLine := by decide
  refine ⟨_, rfl, a0, ns, rfl, ha0, hns, fun s0 H1 hL1 => ?_⟩
  refine ⟨_, rfl, _, rfl, H, s0, 5, 0, rfl, hL1, Many.of (by decide) (by decide), by omega, fun H2 d d0 d1 hL2 => ?_⟩
  obtain ⟨n', rfl⟩ : ∃ n' : Nat, d = (n' : Int) := ⟨d.toNat, by omega⟩
  refine ⟨_, _, rfl, rfl, H, s0, 2 + n', 0 + 1, rfl, hL2, by omega, by omega, fun F H3 v ps hS0 hS1 hv hlen hok => ?_⟩
  have hn6 : ps.length ≤ 6 := by omega
  obtain ⟨pa, pxs, rfl, hpa, hpd⟩ := (hv.same hS1).list
  have hpl : pxs.length = ps.length := by rw [hpd.length, List.length_map]
  clear hv hS0 hS1 hL1 hL2
  have hplan : ∀ {i : Nat} {y : V}, pxs[i]? = some y → ∃ p t x b, ps[i]? = some p ∧ y = .ref t ∧ SqT K H3 t [.str p.name, x, .int p.st, .ref b] ∧ Dp K H3 x (dT3 p.ss) ∧ SqL K H3 b (p.ls.map V.int) := fun {i y} hy => by
    obtain ⟨d, hd, hyd⟩ := hpd.getV hy
    rw [List.getElem?_map] at hd
    cases e : ps[i]? with
    | none => rw [e] at hd; cases hd
    | some p =>
      rw [e] at hd
      cases hd
      obtain ⟨t, x, y', rfl, h1, h2, h3⟩ := dPlan_of hyd
      obtain ⟨b, rfl, h4⟩ := dInts_of h3
      exact ⟨p, t, x, b, rfl, rfl, h1, h2, h4⟩
  -- the walks
  refine ⟨_, rfl, pa, rfl, ⟨_, hpa⟩, fun D1 hD1 => lc_list (K := K) (a := pa) (xs := pxs) (fun i H' => ∃ (G : Hp) (as : List V), Same H3 G ∧ G D1 = none ∧ Same G H' ∧ H' D1 = some (.lst as) ∧ DpAll K G as (((ps.map wkP).take i).map dT3))
    ⟨H3, [], Same.refl H3, hD1, Same.new_ hD1, upd_same, .nil⟩ (fun i H' _ ⟨_, _, e1, _, e2, _⟩ => (e1.trans e2).seq hpa) ?_ ?_⟩
  · rintro i y H4 hy ⟨G, as, g1, g2, g3, g4, g5⟩
    obtain ⟨p, t, x, b, hp, rfl, ht, hx, hb⟩ := hplan hy
    have hil : i < ps.length := (List.getElem?_eq_some_iff.mp hp).1
    have ok := hok p (List.mem_of_getElem? hp)
    have gg := g1.trans g3
    have ht4 := sqT_same gg ht
    refine ⟨rfl, ?_⟩
    refine ⟨_, rfl, t, _, _, _, rfl, rfl, ht4, at_of (j := 1) rfl rfl, _, rfl, t, _, _, _, rfl, rfl, ht4, at_of (j := 2) rfl rfl, _, rfl, t, _, _, _, rfl, rfl, ht4, at_of (j := 3) rfl rfl, x, .ref b, p.st, p.ss, p.ls, rfl, hx.same gg, .lst (gg.seq hb) (DpAll.ints _), ok.fit.len, ok.st.hi, fun v' H5 s5 hv' => ?_⟩
    have hal : as.length = i := by
      rw [g5.length, List.length_map, List.length_take, List.length_map]
      omega
    have fD : fence G H4 H5 D1 = none := by rw [fence_old g4]; exact g2
    refine ⟨as, s5 _ _ g4, by omega, fence G H4 H5, as ++ [v'], g1.trans (fence_in g3), fD, (fence_out g3 s5).mut fD, upd_same, ?_⟩
    rw [take_snoc (show (ps.map wkP)[i]? = some (wkP p) by rw [List.getElem?_map, hp]; rfl), List.map_append]
    exact (g5.same (fence_in g3)).snoc (hv' G)
  rintro H4 ⟨G, as1, g1, g2, g3, g4, g5⟩
  rw [hpl, show ps.length = (ps.map wkP).length by rw [List.length_map], List.take_length] at g5
  have has1 := g5.same g3
  have S4 := g1.trans g3
  clear g1 g2 g3 g5 G
  have hD14 : Dp K H4 (.ref D1) (dWalks (ps.map wkP)) := .lst (SqL.of g4) has1
  -- the moment
  refine ⟨_, rfl, .ref D1, ps.map wkP, rfl, hD14, by rw [List.length_map]; omega, fun o H5 s5 ho => ?_⟩
  have S5 := S4.trans s5
  -- the lists
  refine ⟨_, rfl, pa, rfl, ⟨_, S5.seq hpa⟩, fun D2 hD2 => lc_list (K := K) (a := pa) (xs := pxs) (fun i H' => ∃ (G : Hp) (as : List V), Same H5 G ∧ G D2 = none ∧ Same G H' ∧ H' D2 = some (.lst as) ∧ DpAll K G as ((ps.take i).map fun p => dInts p.ls))
    ⟨H5, [], Same.refl H5, hD2, Same.new_ hD2, upd_same, .nil⟩ (fun i H' _ ⟨_, _, e1, _, e2, _⟩ => (S5.trans (e1.trans e2)).seq hpa) ?_ ?_⟩
  · rintro i y H6 hy ⟨G, as, g1, g2, g3, g4, g5⟩
    obtain ⟨p, t, x, b, hp, rfl, ht, hx, hb⟩ := hplan hy
    have hil : i < ps.length := (List.getElem?_eq_some_iff.mp hp).1
    have gg := S5.trans (g1.trans g3)
    refine ⟨rfl, ?_⟩
    refine ⟨_, rfl, t, _, _, _, rfl, rfl, sqT_same gg ht, at_of (j := 3) rfl rfl, b, _, rfl, .inl (gg.seq hb), fun l hl => ?_⟩
    have hal : as.length = i := by
      rw [g5.length, List.length_map, List.length_take]
      omega
    have hDl : D2 ≠ l := ne_of_none g4 hl
    have hGl : G l = none := g3.free hl
    refine ⟨as, by rw [upd_ne hDl]; exact g4, by omega, upd G l (.lst (p.ls.map V.int)), as ++ [.ref l], g1.to hGl, by rw [upd_ne hDl]; exact g2, (g3.ins hGl).mut (by rw [upd_ne hDl]; exact g2), upd_same, ?_⟩
    rw [take_snoc hp, List.map_append]
    exact (g5.same (Same.new_ hGl)).snoc (.lst (SqL.of upd_same) (DpAll.ints _))
  rintro H6 ⟨G, as2, g1, g2, g3, g42, g5⟩
  rw [hpl, List.take_length] at g5
  have s6 := g1.trans g3
  have S6 := S5.trans s6
  have hD26 : Dp K H6 (.ref D2) (.list (ps.map fun p => dInts p.ls)) := .lst (SqL.of g42) (g5.same g3)
  clear g1 g2 g3 g5 G
  -- the groups
  refine ⟨_, rfl, pa, rfl, ⟨_, S6.seq hpa⟩, fun D3 hD3 => lc_list (K := K) (a := pa) (xs := pxs) (fun i H' => ∃ (G : Hp) (as : List V), Same H6 G ∧ G D3 = none ∧ Same G H' ∧ H' D3 = some (.lst as) ∧ as.length = i ∧ ∀ (j : Nat) p, j < i → ps[j]? = some p → ∃ t x, as[j]? = some (.ref t) ∧ SqT K G t [.str p.name, .ref x, .int p.st] ∧ RoundAt K G x p.ss)
    ⟨H6, [], Same.refl H6, hD3, Same.new_ hD3, upd_same, rfl, fun j p hj => by omega⟩ (fun i H' _ ⟨_, _, e1, _, e2, _⟩ => (S6.trans (e1.trans e2)).seq hpa) ?_ ?_⟩
  · rintro i y H7 hy ⟨G, as, g1, g2, g3, g4, g5, g6⟩
    obtain ⟨p, t, x, b, hp, rfl, ht, hx, hb⟩ := hplan hy
    have hil : i < ps.length := (List.getElem?_eq_some_iff.mp hp).1
    have ok := hok p (List.mem_of_getElem? hp)
    have gg := S6.trans (g1.trans g3)
    obtain ⟨xa, xs, rfl, hxa, hxd, _⟩ := dT3_of hx
    refine ⟨rfl, ?_⟩
    refine ⟨_, rfl, t, _, _, _, rfl, rfl, sqT_same gg ht, at_of (j := 0) rfl rfl, _, rfl, t, _, _, _, rfl, rfl, sqT_same gg ht, at_of (j := 1) rfl rfl, xa, xs, rfl, .inl (gg.seq hxa), fun l hl => ?_⟩
    intro xr dx hxr hdx hne
    have sl : Same H7 (upd H7 l (.lst xs)) := Same.new_ hl
    have hl1 : upd H7 l (.lst xs) l = some (.lst xs) := upd_same
    revert sl hl1 hxr hdx
    generalize upd H7 l (.lst xs) = H8
    intro hxr hdx sl hl1
    refine ⟨H8, xr, dx, .ref l, p.ss, rfl, ?_, hxr, upd_same, .lst (SqL.of hl1) (hxd.same (gg.trans sl)), ok.st.toStaysOk, fun H9 s9 hR9 => ⟨rfl, ?_⟩⟩
    · exact ((Same.refl H8).to hdx).to (by rw [upd_ne hne.symm]; exact hxr)
    have g38 := g3.trans sl
    have gg9 := (gg.trans sl).trans s9
    have fD : fence G H8 H9 D3 = none := by rw [fence_old (sl _ _ g4)]; exact g2
    have g49 := s9 _ _ (sl _ _ g4)
    refine ⟨_, rfl, t, _, _, _, rfl, rfl, sqT_same gg9 ht, at_of (j := 2) rfl rfl, by show 3 ≤ sizeLine; decide, fun m hm => ?_⟩
    have hDm : D3 ≠ m := ne_of_none g49 hm
    have fo := fence_out g38 s9
    have fm : fence G H8 H9 m = none := fo.free hm
    have fi : Same G (upd (fence G H8 H9) m (.tup [.str p.name, .ref xr, .int p.st])) := (fence_in g38).to fm
    refine ⟨as, by rw [upd_ne hDm]; exact g49, by omega, upd (fence G H8 H9) m (.tup [.str p.name, .ref xr, .int p.st]), as ++ [.ref m], g1.trans fi, by rw [upd_ne hDm]; exact fD, (fo.ins fm).mut (by rw [upd_ne hDm]; exact fD), upd_same, by rw [List.length_append, g5]; rfl, fun j p' hj hp' => ?_⟩
    rcases Nat.lt_or_ge j i with q | q
    · obtain ⟨t', x', k1, k2, k3⟩ := g6 j p' q hp'
      exact ⟨t', x', by rw [List.getElem?_append_left (by omega)]; exact k1, sqT_same fi k2, k3.same fi⟩
    · have : j = i := by omega
      subst this
      rw [hp] at hp'
      cases hp'
      exact ⟨m, xr, by rw [List.getElem?_append_right (by omega), g5, Nat.sub_self]; rfl, SqT.of upd_same, (hR9 G).same (Same.new_ fm)⟩
  rintro H7 ⟨G, as3, g1, g2, g3, g43, g5, g6⟩
  have s7 := g1.trans g3
  have S7 := S6.trans s7
  have hG7 : GroupsAt K H7 D3 ps := ⟨as3, SqL.of g43, by rw [g5, hpl], fun i p hp => by
    obtain ⟨t, x, k1, k2, k3⟩ := g6 i p (by rw [hpl]; exact (List.getElem?_eq_some_iff.mp hp).1) hp
    exact ⟨t, x, k1, sqT_same g3 k2, k3.same g3⟩⟩
  clear g1 g2 g3 g5 g6 G
  -- the run
  refine ⟨_, rfl, D3, D2, ps, rfl, hG7, hD26.same s7, hn6, hok, fun H8 z ra_ rb rows ws s8 hrun hra hrb hgood hws => ?_⟩
  have S8 := S7.trans s8
  have hD18 := hD14.same (((s5.trans s6).trans s7).trans s8)
  have hD28 := hD26.same (s7.trans s8)
  -- the lists are as they were
  refine ⟨_, rfl, _, rfl, pa, rfl, ⟨_, S8.seq hpa⟩, fun D4 hD4 => lc_list (K := K) (a := pa) (xs := pxs) (fun i H' => ∃ as, H' = upd H8 D4 (.lst as) ∧ DpAll K H8 as ((ps.take i).map fun p => dInts p.ls))
    ⟨[], rfl, .nil⟩ (fun i H' _ ⟨_, e, _⟩ => by rw [e]; exact (S8.to hD4).seq hpa) ?_ ?_⟩
  · rintro i y H' hy ⟨as, rfl, has⟩
    obtain ⟨p, t, x, b, hp, rfl, ht, hx, hb⟩ := hplan hy
    have hil : i < ps.length := (List.getElem?_eq_some_iff.mp hp).1
    have hal : as.length = i := by
      rw [has.length, List.length_map, List.length_take]
      omega
    refine ⟨rfl, ?_⟩
    refine ⟨_, rfl, t, _, _, _, rfl, rfl, sqT_same (S8.to hD4) ht, at_of (j := 3) rfl rfl, as, upd_same, by omega, as ++ [.ref b], upd_upd, ?_⟩
    rw [take_snoc hp, List.map_append]
    exact has.snoc (.lst (S8.seq hb) (DpAll.ints _))
  rintro H9 ⟨as4, rfl, has4⟩
  rw [hpl, List.take_length] at has4
  have s9 : Same H8 (upd H8 D4 (.lst as4)) := Same.new_ hD4
  have hD49 : upd H8 D4 (.lst as4) D4 = some (.lst as4) := upd_same
  revert s9 hD49
  generalize upd H8 D4 (.lst as4) = H9
  intro s9 hD49
  refine ⟨_, _, hD28.same s9, .lst (SqL.of hD49) (has4.same s9), lists_shaped ps, lists_shaped ps, _, rfl, iteBF (by rw [lists_eqv]; rfl) ?_⟩
  have S9 := S8.trans s9
  have hrun9 := hrun.same s9
  have hra9 := hra.same s9
  have hrb9 := hrb.same s9
  have hD19 := hD18.same s9
  have hpa9 : Dp K H9 (.ref pa) (dPlans ps) := (Dp.lst hpa hpd : Dp K H3 (.ref pa) (dPlans ps)).same S9
  clear hrun hra hrb hD18 hD28
  refine ⟨_, rfl, rfl, _, rfl, ?_⟩
  cases o with
  | none =>
    refine iteDT rfl ?_
    obtain ⟨h1, h2⟩ := plain_eq hgood ho
    have hw := plain_waits h1 hws
    subst hw
    obtain ⟨c1, as1', e1, hc1, hcd1⟩ := hD19.list
    cases e1
    have hcl : as1'.length = (ps.map wkP).length := by rw [hcd1.length, List.length_map]
    have hw4 : ∀ w ∈ ps.map wkP, w.length ≤ 4 := fun w hw => by
      obtain ⟨p, hp, rfl⟩ := List.mem_map.mp hw
      have := hok p hp
      rw [show (wkP p).length = (stl p.ss p.ls).length from pw_len, stl_length this.fit.len]
      exact this.st.four
    refine ⟨_, rfl, _, rfl, D1, rfl, ⟨_, hc1⟩, fun D5 hD5 => lc_list (K := K) (a := D1) (xs := as1') (fun i H' => ∃ (G : Hp) (as : List V), Same H9 G ∧ G D5 = none ∧ Same G H' ∧ H' D5 = some (.lst as) ∧ DpAll K G as ((((ps.map wkP).take i).map dPlain).map dTups))
      ⟨H9, [], Same.refl H9, hD5, Same.new_ hD5, upd_same, .nil⟩ (fun i H' _ ⟨_, _, e1, _, e2, _⟩ => (e1.trans e2).seq hc1) ?_ ?_⟩
    · rintro i y H10 hy ⟨G, as, g1, g2, g3, g4, g5⟩
      obtain ⟨d, hd, hyd⟩ := hcd1.getV hy
      have hil : i < (ps.map wkP).length := by rw [← hcl]; exact (List.getElem?_eq_some_iff.mp hy).1
      obtain ⟨wk, hwk⟩ : ∃ w, (ps.map wkP)[i]? = some w := ⟨_, List.getElem?_eq_getElem hil⟩
      rw [List.getElem?_map, hwk] at hd
      cases hd
      obtain ⟨ya, ys, rfl, hya, hysd, hyl⟩ := dT3_of hyd
      have gg := g1.trans g3
      have hwl := hw4 wk (List.mem_of_getElem? hwk)
      have hal : as.length = i := by
        rw [g5.length, List.length_map, List.length_map, List.length_take]
        omega
      have hil6 : i < ps.length := by rw [List.length_map] at hil; exact hil
      refine ⟨rfl, ?_⟩
      refine ⟨_, rfl, ya, rfl, ⟨_, gg.seq hya⟩, fun D6 hD6 => lc_list (K := K) (a := ya) (xs := ys) (fun j H' => ∃ (G' : Hp) (bs : List V), Same G G' ∧ G' D5 = none ∧ G' D6 = none ∧ Same G' H' ∧ Same H10 H' ∧ H' D6 = some (.lst bs) ∧ DpAll K G' bs ((dPlain (wk.take j)).map .tuple))
        ⟨G, [], Same.refl G, g2, g3.free hD6, g3.to hD6, Same.new_ hD6, upd_same, .nil⟩ (fun j H' _ ⟨_, _, _, _, _, _, e, _⟩ => (gg.trans e).seq hya) ?_ ?_⟩
      · rintro j q H11 hq ⟨G', bs, k1, k2, k3, k4, k5, k6, k7⟩
        obtain ⟨u, s, rfl, hs, hu⟩ := dT3_get hysd hq
        have hjl : j < wk.length := (List.getElem?_eq_some_iff.mp hs).1
        have hu' := sqT_same (gg.trans k5) hu
        refine ⟨rfl, ?_⟩
        refine ⟨_, rfl, u, _, _, _, rfl, rfl, hu', at_of (j := 0) rfl rfl, _, rfl, u, _, _, _, rfl, rfl, hu', at_of (j := 1) rfl rfl, _, rfl, u, _, _, _, rfl, rfl, hu', at_of (j := 1) rfl rfl, _, rfl, u, _, _, _, rfl, rfl, hu', at_of (j := 2) rfl rfl, by show 4 ≤ sizeLine; decide, fun m hm => ?_⟩
        have hbl : bs.length = j := by
          rw [k7.length, List.length_map]
          unfold dPlain
          rw [List.length_map, List.length_take]
          omega
        have hDm : D6 ≠ m := ne_of_none k6 hm
        have hD5m : D5 ≠ m := ne_of_none (k5 _ _ g4) hm
        have hGm : G' m = none := k4.free hm
        refine ⟨bs, by rw [upd_ne hDm]; exact k6, by omega, upd G' m (.tup [.str s.1, .int s.2.1, .int s.2.1, .int s.2.2]), bs ++ [.ref m], k1.to hGm, by rw [upd_ne hD5m]; exact k2, by rw [upd_ne hDm]; exact k3, (k4.ins hGm).mut (by rw [upd_ne hDm]; exact k3), (k5.to hm).mut hD6, upd_same, ?_⟩
        rw [take_snoc hs]
        unfold dPlain at k7 ⊢
        rw [List.map_append, List.map_append]
        exact (k7.same (Same.new_ hGm)).snoc (.tup (SqT.of upd_same) (.cons (.str _) (.cons (.int _) (.cons (.int _) (.cons (.int _) .nil)))))
      rintro H11 ⟨G', bs, k1, k2, k3, k4, k5, k6, k7⟩
      rw [hyl, List.take_length] at k7
      have hD56 : D5 ≠ D6 := ne_of_none g4 hD6
      have k45 := k5 _ _ g4
      refine ⟨as, k45, by omega, upd G' D6 (.lst bs), as ++ [.ref D6], g1.trans (k1.to k3), by rw [upd_ne hD56]; exact k2, (Same.at_ k4 k6).mut (by rw [upd_ne hD56]; exact k2), upd_same, ?_⟩
      rw [take_snoc hwk, List.map_append, List.map_append]
      exact (g5.same (k1.to k3)).snoc (.lst (SqL.of upd_same) (k7.same (Same.new_ k3)))
    rintro H10 ⟨G, as5, g1, g2, g3, g4, g5⟩
    rw [hcl, List.take_length] at g5
    have s10 := g1.trans g3
    refine ⟨Nat.zero_le _, fun e he => ?_⟩
    have s11 : Same H9 (upd H10 e (.lst [])) := s10.to he
    have er : (.list (((ps.map wkP).map dPlain).map dTups) : PyData) = .list ((List.range ps.length).map fun k => dRows (rows k)) := by
      rw [← h2, List.map_map]
      rfl
    refine ⟨z, .ref ra_, .ref rb, .ref D5, .ref e, (ps.map wkP).map dPlain, rfl, hrun9.same s11, by rw [er]; exact hra9.same s11, hrb9.same s11, .lst (SqL.of (Same.new_ he _ _ g4)) (g5.same (g3.to he)), .lst (SqL.of upd_same) .nil, fun ds hds => ?_, by rw [List.length_map, List.length_map]; omega, fun H12 s12 => k H12⟩
    obtain ⟨wk, hwk, rfl⟩ := List.mem_map.mp hds
    have hwl := hw4 wk hwk
    refine ⟨fun r hr d hd => ?_, by unfold dPlain; rw [List.length_map]; omega, fun r hr => ?_⟩
    · obtain ⟨t, _, rfl⟩ := List.mem_map.mp hr
      simp only [List.mem_cons, List.not_mem_nil, or_false] at hd
      rcases hd with rfl | rfl | rfl | rfl
      · exact .str _
      · exact .int _
      · exact .int _
      · exact .int _
    · obtain ⟨t, _, rfl⟩ := List.mem_map.mp hr
      show 4 ≤ 100
      omega
  | some mo =>
    refine iteDF (by intro e; cases e) ?_
    obtain ⟨dz, fz, hz, hz1, hz2⟩ := id hrun9
    obtain ⟨hf, p1, u1, hu1, hc1, hl1⟩ := first_ok hgood ho
    obtain ⟨w0, wl, ews, ec, ee, er, q0, wp, wq, pl0, le, hne, hwp, hwq, inp, inq, hpl0, hnm, hwj⟩ := wait_ok hgood ho hws
    refine ⟨_, rfl, _, _, .ref (He.ga K "Run"), .ref (He.ga K "Run"), true, rfl, .own _, isi_run T hz, T.i_Run, true, rfl, ?_⟩
    refine iteF ⟨_, rfl, z, _, dz, fz, _, rfl, hz, cR.cl, T.n_Run_walks, hz1, _, rfl, .ref ra_, .ref pa, (List.range ps.length).map rows, ps, rfl, by rw [List.map_map]; exact hra9, hpa9, by rw [List.length_map, List.length_range], by omega, fun i rs p hi hp => ?_, fun H10 s10 => ⟨_, rfl, iteF ?_⟩⟩
    · have hil := (List.getElem?_eq_some_iff.mp hp).1
      rw [rng_get _ hil] at hi
      cases hi
      rw [hgood.len i, ssF_eq hp, stl_length (hok p (List.mem_of_getElem? hp)).fit.len]
    -- the waits' beginnings
    refine ⟨Nat.zero_le _, fun D7 hD7 => ?_⟩
    obtain ⟨_, rxs, e1, hra, hrd⟩ := hra9.list
    cases e1
    have hrl : rxs.length = ps.length := by rw [hrd.length, List.length_map, List.length_range]
    have hr4 : ∀ i, (rows i).length ≤ 4 := fun i => by rw [hgood.len]; exact ssF_four hok i
    refine ⟨_, rfl, z, _, dz, fz, _, rfl, (s10.to hD7) _ _ hz, cR.cl, T.n_Run_walks, hz1, ra_, rfl, ⟨_, (s10.to hD7).seq hra⟩, ?_⟩
    refine for_list (K := K) (a := ra_) (xs := rxs) (fun i σ H' => ∃ (ls : List Int) (b8 b9 b10 : Option V), σ = [some (.ref a0), some (.ref s0), some (.ref pa), some (.ref D1), some (.int mo), some (.ref D2), some (.ref z), some (.ref D7), b8, b9, b10] ∧ Same H10 H' ∧ H' D7 = some (.lst (ls.map V.int)) ∧ ls.length ≤ 4 * i ∧ (∀ x ∈ ls, mo ≤ x) ∧ ∀ p u, p < i → u ∈ rows p → u.come < u.enter → u.come ∈ ls)
      ⟨[], _, _, _, rfl, Same.new_ hD7, upd_same, Nat.le_refl _, fun x h => (nomatch h), fun p u h => by omega⟩ (fun i σ H' _ ⟨_, _, _, _, _, e, _⟩ => (s10.trans e).seq hra) ?_ ?_
    · rintro i y σ H11 hy ⟨ls, b8, b9, b10, rfl, e0, e1, e2, e3, e4⟩
      have hil : i < ps.length := by rw [← hrl]; exact (List.getElem?_eq_some_iff.mp hy).1
      obtain ⟨d, hd, hyd⟩ := hrd.getV hy
      rw [rng_get _ hil] at hd
      cases hd
      obtain ⟨ya, ys, rfl, hya, hyd⟩ := hyd.list
      have hyl : ys.length = (rows i).length := by rw [hyd.length, List.length_map, List.length_map]
      refine ⟨_, rfl, ya, rfl, ⟨_, (s10.trans e0).seq hya⟩, ?_⟩
      refine for_list (K := K) (a := ya) (xs := ys) (fun j σ H' => ∃ (ls : List Int) (b9 b10 : Option V), σ = [some (.ref a0), some (.ref s0), some (.ref pa), some (.ref D1), some (.int mo), some (.ref D2), some (.ref z), some (.ref D7), some (.ref ya), b9, b10] ∧ Same H10 H' ∧ H' D7 = some (.lst (ls.map V.int)) ∧ ls.length ≤ 4 * i + j ∧ (∀ x ∈ ls, mo ≤ x) ∧ ∀ p k u, (p < i ∨ (p = i ∧ k < j)) → (rows p)[k]? = some u → u.come < u.enter → u.come ∈ ls)
        ⟨ls, _, _, rfl, e0, e1, e2, e3, fun p k u h hk hu => e4 p u (by omega) (List.mem_of_getElem? hk) hu⟩ (fun j σ H' _ ⟨_, _, _, _, e, _⟩ => (s10.trans e).seq hya) ?_ ?_
      · rintro j q σ H12 hq ⟨ls, b9, b10, rfl, e0, e1, e2, e3, e4⟩
        obtain ⟨t, u, rfl, hu, ht⟩ := dRows_getV hyd hq
        have hjl : j < (rows i).length := (List.getElem?_eq_some_iff.mp hu).1
        have hj4 := hr4 i
        have ht' := sqT_same (s10.trans e0) ht
        refine ⟨_, rfl, t, _, _, _, rfl, rfl, ht', at_of (j := 1) rfl rfl, _, rfl, t, _, _, _, rfl, rfl, ht', at_of (j := 2) rfl rfl, _, _, rfl, rfl, _, rfl, iteD2 (fun hc => ?_) (fun hc => ?_)⟩
        · refine ⟨_, rfl, .inl ⟨rfl, _, SqL.of e1⟩, _, rfl, t, _, _, _, rfl, rfl, ht', at_of (j := 1) rfl rfl, D7, ls.map V.int, .int u.come, rfl, rfl, e1, by rw [List.length_map]; omega, ?_⟩
          refine ⟨ls ++ [u.come], _, _, rfl, e0.mut hD7, by rw [upd_same, List.map_append]; rfl, by rw [List.length_append, List.length_singleton]; omega, fun x hx => ?_, fun p k u' hp hk hu' => ?_⟩
          · rcases List.mem_append.mp hx with h | h
            · exact e3 x h
            · have : x = u.come := by simpa using h
              rw [this]
              exact hf i u (List.mem_of_getElem? hu) hc
          · by_cases e : p = i ∧ k = j
            · obtain ⟨rfl, rfl⟩ := e
              rw [hu] at hk
              cases hk
              exact List.mem_append_right _ List.mem_cons_self
            · exact List.mem_append_left _ (e4 p k u' (by omega) hk hu')
        · refine ⟨ls, _, _, rfl, e0, e1, by omega, e3, fun p k u' hp hk hu' => ?_⟩
          by_cases e : p = i ∧ k = j
          · obtain ⟨rfl, rfl⟩ := e
            rw [hu] at hk
            cases hk
            exact (hc hu').elim
          · exact e4 p k u' (by omega) hk hu'
      · rintro σ H12 ⟨ls, b9, b10, rfl, e0, e1, e2, e3, e4⟩
        have hj4 := hr4 i
        refine ⟨ls, _, _, _, rfl, e0, e1, by omega, e3, fun p u hp hu hlt => ?_⟩
        obtain ⟨k, hk⟩ := NR.mem_ix hu
        have hkl := (List.getElem?_eq_some_iff.mp hk).1
        refine e4 p k u ?_ hk hlt
        rcases Nat.lt_or_ge p i with h | h
        · exact .inl h
        · have : p = i := by omega
          subst this
          exact .inr ⟨rfl, by omega⟩
    rintro σ H11 ⟨ls, b8, b9, b10, rfl, e0, e1, e2, e3, e4⟩
    rw [hrl] at e2 e4
    have hmem : mo ∈ ls := by
      rw [← hc1]
      exact e4 p1 u1 (hgood.lt hu1) hu1 hl1
    have hlp : 0 < ls.length := List.length_pos_of_mem hmem
    have s11 := s10.trans e0
    have hz11 := s11 _ _ hz
    -- the tests
    obtain ⟨_, wxs, e5, hwb, hwd⟩ := hrb9.list
    cases e5
    have hwl : wxs.length = ws.length := by rw [hwd.length, List.length_map]
    have hw0 : ws.length = wl.length + 1 := by rw [ews]; rfl
    refine ⟨_, rfl, D7, _, rfl, .inl (SqL.of e1), rfl, _, rfl, iteDF (by rw [List.length_map]; intro e; injection e with e; omega) ?_⟩
    refine ⟨_, rfl, D7, ls, rfl, SqL.of e1, hlp, fun mm hmm hmin => ?_⟩
    have emm : mm = mo := by
      have h1 := hmin mo hmem
      have h2 := e3 mm hmm
      omega
    subst emm
    refine ⟨_, rfl, rfl, _, rfl, iteNF rfl ?_⟩
    refine ⟨_, rfl, z, _, dz, fz, _, rfl, hz11, cR.cl, T.n_Run_waits, hz2, _, _, .type "list", .type "list", true, rfl, .ty _, ty_list (s11.seq hwb), kit_ty (by decide +kernel), true, rfl, iteF ?_⟩
    refine ⟨_, rfl, z, _, dz, fz, _, rfl, hz11, cR.cl, T.n_Run_waits, hz2, rb, wxs, rfl, .inl (s11.seq hwb), rfl, _, rfl, iteDF (by intro e; injection e with e; omega) ?_⟩
    -- the first wait
    obtain ⟨v0, hv0, hdv0⟩ := hwd.get (i := 0) (d := dIn w0) (by rw [ews]; rfl)
    refine ⟨_, rfl, z, _, dz, fz, _, rfl, hz11, cR.cl, T.n_Run_waits, hz2, rb, wxs, _, _, rfl, rfl, s11.seq hwb, at_of (j := 0) rfl hv0, _, rfl, _, rfl, _, rfl, ?_⟩
    have hdv : Dp K H11 v0 (.tuple [.str w0.nm, .int ((w0.j : Int) + 1), .str w0.r, .int mm, .int w0.e]) := by
      have := hdv0.same s11
      unfold dIn at this
      rw [ec] at this
      exact this
    exact ⟨v0, .ref pa, .ref D1, w0.nm, w0.r, (w0.j : Int) + 1, mm, w0.e, ps, ps.map wkP, w0.p, q0, w0.p, wp, wq, wp, pl0, w0.j, le, rfl, hdv, hpa9.same s11, hD19.same s11, by rw [List.length_map], by omega, fun w hw => by
      obtain ⟨p, hp, rfl⟩ := List.mem_map.mp hw
      have o := hok p hp
      have := o.st.four
      rw [show (wkP p).length = (stl p.ss p.ls).length from pw_len, stl_length o.fit.len]
      omega, ee, er, hne, hwp, hwq, inp, inq, hpl0, hwp, hnm, rfl, hwj, fun H' _ => k H'⟩
end
end NRW
set_option maxHeartbeats 0
/-! The head: Txt out of what is looked at, the end. -/
namespace NRH
open PySem PySem.Spec PyProof.Rows L2 NRW
theorem txt {K : PySem.W.Frag} {h : Heap} {mg : Str → Option Value} (X : K.In h) (G : h.Ns mainGlobals mg) (cc : SaysB fa fn ex gA gv K) : Txt K mg := by
  have c : He.SaysD fa fn K := congrArg (fun z : AlB => z.1) cc
  have c1 : ex K = true := congrArg (fun z : AlB => z.2.1) cc
  have c2 : fnA K (gA K) = gv := congrArg (fun z : AlB => z.2.2) cc
  unfold ex at c1
  obtain ⟨e1, c1⟩ := He.ba c1
  obtain ⟨e2, c1⟩ := He.ba c1
  obtain ⟨e3, c1⟩ := He.ba c1
  obtain ⟨e4, c1⟩ := He.ba c1
  obtain ⟨e5, c1⟩ := He.ba c1
  obtain ⟨e6, c1⟩ := He.ba c1
  obtain ⟨e7, c1⟩ := He.ba c1
  obtain ⟨e8, c1⟩ := He.ba c1
  obtain ⟨e9, c1⟩ := He.ba c1
  obtain ⟨e10, c1⟩ := He.ba c1
  obtain ⟨e11, c1⟩ := He.ba c1
  obtain ⟨e12, c1⟩ := He.ba c1
  obtain ⟨e13, c1⟩ := He.ba c1
  obtain ⟨e14, e15⟩ := He.ba c1
  exact {
    g_is_name := He.glo_ok X G (c.fact 0 (f := .glo "is_name") rfl)
    f_is_name := c.def_ 0 (d := d_is_name_) rfl
    g_walk := He.glo_ok X G (c.fact 1 (f := .glo "walk") rfl)
    f_walk := c.def_ 1 (d := d_walk_) rfl
    g_run := He.glo_ok X G (c.fact 2 (f := .glo "run") rfl)
    f_run := c.def_ 2 (d := d_run_) rfl
    g_law_state := He.glo_ok X G (c.fact 3 (f := .glo "_law_state") rfl)
    f_law_state := c.def_ 3 (d := d_law_state_) rfl
    g_law_mixed := He.glo_ok X G (c.fact 4 (f := .glo "_law_mixed") rfl)
    f_law_mixed := c.def_ 4 (d := d_law_mixed_) rfl
    g_law_draw := He.glo_ok X G (c.fact 5 (f := .glo "_law_draw") rfl)
    f_law_draw := c.def_ 5 (d := d_law_draw_) rfl
    g_law_limit := He.glo_ok X G (c.fact 6 (f := .glo "_law_limit") rfl)
    f_law_limit := c.def_ 6 (d := d_law_limit_) rfl
    g_law_signed := He.glo_ok X G (c.fact 7 (f := .glo "_law_signed") rfl)
    f_law_signed := c.def_ 7 (d := d_law_signed_) rfl
    g_law_is_int := He.glo_ok X G (c.fact 8 (f := .glo "_law_is_int") rfl)
    f_law_is_int := c.def_ 8 (d := d_law_is_int_) rfl
    g_law_name := He.glo_ok X G (c.fact 9 (f := .glo "_law_name") rfl)
    f_law_name := c.def_ 9 (d := d_law_name_) rfl
    g_law_names := He.glo_ok X G (c.fact 10 (f := .glo "_law_names") rfl)
    f_law_names := c.def_ 10 (d := d_law_names_) rfl
    g_law_stays := He.glo_ok X G (c.fact 11 (f := .glo "_law_stays") rfl)
    f_law_stays := c.def_ 11 (d := d_law_stays_) rfl
    g_law_lengths := He.glo_ok X G (c.fact 12 (f := .glo "_law_lengths") rfl)
    f_law_lengths := c.def_ 12 (d := d_law_lengths_) rfl
    g_law_walk := He.glo_ok X G (c.fact 13 (f := .glo "_law_walk") rfl)
    f_law_walk := c.def_ 13 (d := d_law_walk_) rfl
    g_law_shared := He.glo_ok X G (c.fact 14 (f := .glo "_law_shared") rfl)
    f_law_shared := c.def_ 14 (d := d_law_shared_) rfl
    g_law_is_rows := He.glo_ok X G (c.fact 15 (f := .glo "_law_is_rows") rfl)
    f_law_is_rows := c.def_ 15 (d := d_law_is_rows_) rfl
    g_law_groups := He.glo_ok X G (c.fact 16 (f := .glo "_law_groups") rfl)
    f_law_groups := c.def_ 16 (d := d_law_groups_) rfl
    g_law_is_run := He.glo_ok X G (c.fact 17 (f := .glo "_law_is_run") rfl)
    f_law_is_run := c.def_ 17 (d := d_law_is_run_) rfl
    g_law_are_walks := He.glo_ok X G (c.fact 18 (f := .glo "_law_are_walks") rfl)
    f_law_are_walks := c.def_ 18 (d := d_law_are_walks_) rfl
    g_law_meeting_moment := He.glo_ok X G (c.fact 19 (f := .glo "_law_meeting_moment") rfl)
    f_law_meeting_moment := c.def_ 19 (d := d_law_meeting_moment_) rfl
    g_law_within := He.glo_ok X G (c.fact 20 (f := .glo "_law_within") rfl)
    f_law_within := c.def_ 20 (d := d_law_within_) rfl
    g_law_is_first := He.glo_ok X G (c.fact 21 (f := .glo "_law_is_first") rfl)
    f_law_is_first := c.def_ 21 (d := d_law_is_first_) rfl
    g_law := He.glo_ok X G (c.fact 22 (f := .glo "law") rfl)
    f_law := c.def_ 22 (d := d_law_) rfl
    f_Round_init := c.def_ 23 (d := d_Round_init_) rfl
    f_Round_len := c.def_ 24 (d := d_Round_len_) rfl
    f_Run_init := c.def_ 25 (d := d_Run_init_) rfl
    f_House_init := c.def_ 26 (d := d_House_init_) rfl
    f_House_leave := c.def_ 27 (d := d_House_leave_) rfl
    f_House_enter := c.def_ 28 (d := d_House_enter_) rfl
    f_House_come := c.def_ 29 (d := d_House_come_) rfl
    f_House_happen := c.def_ 30 (d := d_House_happen_) rfl
    n_len := He.free_ok X G (c.fact 23 (f := .free "len") rfl)
    n_range := He.free_ok X G (c.fact 24 (f := .free "range") rfl)
    n_zip := He.free_ok X G (c.fact 25 (f := .free "zip") rfl)
    n_list := He.free_ok X G (c.fact 26 (f := .free "list") rfl)
    n_sorted := He.free_ok X G (c.fact 27 (f := .free "sorted") rfl)
    n_min := He.free_ok X G (c.fact 28 (f := .free "min") rfl)
    n_max := He.free_ok X G (c.fact 29 (f := .free "max") rfl)
    n_int := He.free_ok X G (c.fact 30 (f := .free "int") rfl)
    n_isinstance := He.free_ok X G (c.fact 31 (f := .free "isinstance") rfl)
    n_str := He.free_ok X G (c.fact 32 (f := .free "str") rfl)
    n_bool := He.free_ok X G (c.fact 33 (f := .free "bool") rfl)
    n_tuple := He.free_ok X G (c.fact 34 (f := .free "tuple") rfl)
    c_Round := ⟨He.cls_ok (c.fact 35 (f := .cls "Round") rfl), He.glo_ok X G (c.fact 36 (f := .glo "Round") rfl), He.mkr_ok (c.fact 37 (f := .mkr "Round") rfl)⟩
    n_Round_stays := He.noat_ok (c.fact 38 (f := .noat "Round" "_stays") rfl)
    n_Round_least := He.noat_ok (c.fact 39 (f := .noat "Round" "_least") rfl)
    n_Round_most := He.noat_ok (c.fact 40 (f := .noat "Round" "_most") rfl)
    c_Run := ⟨He.cls_ok (c.fact 41 (f := .cls "Run") rfl), He.glo_ok X G (c.fact 42 (f := .glo "Run") rfl), He.mkr_ok (c.fact 43 (f := .mkr "Run") rfl)⟩
    n_Run_walks := He.noat_ok (c.fact 44 (f := .noat "Run" "walks") rfl)
    n_Run_waits := He.noat_ok (c.fact 45 (f := .noat "Run" "waits") rfl)
    c_House := ⟨He.cls_ok (c.fact 46 (f := .cls "House") rfl), He.glo_ok X G (c.fact 47 (f := .glo "House") rfl), He.mkr_ok (c.fact 48 (f := .mkr "House") rfl)⟩
    n_House_plans := He.noat_ok (c.fact 49 (f := .noat "House" "plans") rfl)
    n_House_rows := He.noat_ok (c.fact 50 (f := .noat "House" "rows") rfl)
    n_House_due := He.noat_ok (c.fact 51 (f := .noat "House" "due") rfl)
    n_House_inside := He.noat_ok (c.fact 52 (f := .noat "House" "inside") rfl)
    n_House_queues := He.noat_ok (c.fact 53 (f := .noat "House" "queues") rfl)
    m_leave := He.meth_ok (c.fact 54 (f := .meth "House" "leave") rfl)
    m_enter := He.meth_ok (c.fact 55 (f := .meth "House" "enter") rfl)
    m_come := He.meth_ok (c.fact 56 (f := .meth "House" "come") rfl)
    m_happen := He.meth_ok (c.fact 57 (f := .meth "House" "happen") rfl)
    k_LETTERS := He.str_ok X G (c.fact 58 (f := .str "LETTERS" "abcdefghijklmnopqrstuvwxyz") rfl)
    k_DIGITS := He.str_ok X G (c.fact 59 (f := .str "DIGITS" "0123456789") rfl)
    k_HALL := He.str_ok X G (c.fact 60 (f := .str "HALL" "hall") rfl)
    k_MOST_SIGNS := He.int_ok X G (c.fact 61 (f := .int "MOST_SIGNS" 12) rfl)
    k_MOST_GROUPS := He.int_ok X G (c.fact 62 (f := .int "MOST_GROUPS" 14) rfl)
    r_Round := by
      refine ⟨.type "type", ⟨e1, He.eqO_ok e2⟩, ?_⟩
      unfold cOk at e3
      cases z : PySem.W.findCls K (.ref (rd K)) (.type "type") "MOST_STAYS" with
      | none => rw [z] at e3; cases e3
      | some a =>
        rw [z] at e3
        cases a with
        | val v =>
          cases v with
          | int j t =>
            have ej : j = 6 := of_decide_eq_true e3
            subst ej
            exact ⟨_, ⟨z, ⟨t, rfl⟩⟩⟩
          | _ => cases e3
        | _ => cases e3
    l_Round := ⟨He.eqO_ok e4, e5⟩
    p_stays := by
      refine ⟨pA K, gA K, ⟨He.eqO_ok e6, He.eqO_ok e7, of_decide_eq_true e8, ?_⟩, fnA_ok c2 e10⟩
      unfold gOk at e9
      unfold gA
      cases z : PySem.W.recIn K (pA K) "property" with
      | none => rw [z] at e9; cases e9
      | some l =>
        rw [z] at e9
        cases l with
        | nil => cases e9
        | cons v rest =>
          cases v with
          | ref g => exact ⟨rest, rfl⟩
          | _ => cases e9
    i_Run := of_decide_eq_true e11
    i_Run_c := He.eqO_ok e12
    i_Run_g := He.eqO_ok e13
    i_Run_t := of_decide_eq_true e14
    i_Run_m := of_decide_eq_true e15 }
theorem facts {P : Program} {w : World} {K : PySem.W.Frag} {h : Heap} {mg : Str → Option Value} {f : Addr} (X : K.In h) (G : h.Ns mainGlobals mg) (hfa : mg ("law" : Str) = some (.ref f)) (c : SaysB fa fn ex gA gv K) :
    ∃ fd : FuncData, (∀ (s : Shared) (v : Value), BindsTo s fd ⟨[v], []⟩ [("_law_script", v)]) ∧ ∀ base : Heap, K.In base → base.Ns mainGlobals mg → FnOk P w K mg base CX0 6 f fd ["_law_script"] (spLaw K) := by
  have T := txt X G c
  obtain ⟨fd, F⟩ := T.f_law
  have e := hfa.symm.trans T.g_law
  cases e
  have b := FunD.bindsA (ps := ["_law_script"]) F fun _ _ _ _ _ _ us hl => match us, hl with | [_], _ => rfl
  exact ⟨fd, fun s v => b s [v] rfl, fun base _ _ => F.ok sc_law len_law fun cdv A outer s H vs Q E hr h => by
    obtain ⟨t, h1, h2⟩ := law_body (P := P) (w := w) (base := base) T _ cdv A outer s H vs Q E hr h
    exact ⟨t, PSs.nox h1, h2⟩⟩
end NRH
open PySem PySem.W PySem.Calls PyProof.Rows
theorem PySem.Challenge.cw_neverrounds_k52_whole_first_wait_holds : PySem.Challenge.rw_neverrounds_k52_whole_first_wait.Holds := by
  w_on; o_law
  refine HandSHeadRun.head_any (r := OpenLaw.row PySem.Challenge.rw_neverrounds_k52_whole_first_wait) (q := view (OpenLaw.row PySem.Challenge.rw_neverrounds_k52_whole_first_wait).prog [56]) (H := NRH.hk) (ob := NRH.ob) (M := 8000) (loose := NRH.loose) (d := HandSHeadRun.topDef (OpenLaw.row PySem.Challenge.rw_neverrounds_k52_whole_first_wait).prog 56) (kwd := []) NRH.ob_eq
    (by kernel_rfl) (fun s => by kernel_rfl) NRH.run (by kernel_rfl) (by kernel_rfl) (by kernel_rfl) (by rfl) (by first | assumption | decide +kernel) (by decide +kernel) ⟨rfl, rfl, rfl, rfl, rfl, by decide +kernel⟩ ?hw ?hc
  case hw => w_witness2
  case hc =>
    refine L2.walk_ofE (l := PySem.Challenge.rw_neverrounds_k52_whole_first_wait) (n := 63) (k := 6) (x := "_law_script") (CX := L2.CX0) rfl (by decide) (by kernel_rfl) ⟨rfl, by decide, by decide⟩ ?F (fun _ _ _ _ z => z)
    intro w mg fa h Y G hmg0
    obtain ⟨K, KX, c⟩ := Y
    have hmg : mg ("law" : PySem.Str) = some (.ref fa) := by
      have e : (HandSHeadRun.topDef (OpenLaw.row PySem.Challenge.rw_neverrounds_k52_whole_first_wait).prog 56).name = ("law" : PySem.Str) := by kernel_rfl
      rw [← e]
      exact hmg0
    obtain ⟨fd, hb, hF⟩ := NRH.facts (P := (PySem.Challenge.rw_neverrounds_k52_whole_first_wait).prog) (w := w) KX G hmg c
    exact ⟨K, fd, NRW.spLaw K, KX, hb, fun H a ns hl _ hS => ⟨a, ns, rfl, hS, hl, fun _ => rfl⟩, hF⟩
