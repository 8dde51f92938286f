import PyProof.Rows.All
import Wide.All
import OpenK.AllK
import Wide.FinOn
import KE.KStateDown
import Lean
import HandS.ForMost
import HandS.Exc
import HandS.TryOnly
import HandS.ExcOwn
import HandS.WordsExc
import HandS.Defaults
import HandS.Wide
import HandS.IsInst
import HandS.TupLe
import HandS.TupAny
import HandS.Walk
import HandS.More
import HandS.Evl
import HandS.EndBits
import HandS.Head0
import HandS.Head1
import HandS.Head2
import HandS.HeadEnd
import HandS.HeadHook1
import HandS.HeadHook2
import PySem.Challenge.RW_earlyfields_k01_words_and_keys
set_option Elab.async false
set_option linter.all false
set_option maxRecDepth 100000
set_option maxHeartbeats 4000000
/-! own base: short names for readings, the bundle of a def's promise, the hook with own tests, the end -/
namespace Ef
open PySem PySem.Spec PyProof.Rows L2
/-! ### operators on values -/
abbrev rAddI : R2 := rI0 fun a b => .int (a + b)
abbrev rSubI : R2 := rI0 fun a b => .int (a - b)
abbrev rMulI : R2 := rI CMul fun a b => .int (a * b)
abbrev rMulW : R2 := rI CMulW fun a b => .int (a * b)
abbrev rModI : R2 := rI (fun _ b => 0 < b) fun a b => .int (a % b)
abbrev rDivI : R2 := rI CDiv fun a b => .int (a / b)
abbrev rDivW : R2 := rI CDivW fun a b => .int (a / b)
abbrev rPowI : R2 := rI CPow fun a b => .int (a ^ b.toNat)
abbrev rLtI : R2 := rI0 fun a b => .bl (decide (a < b))
abbrev rLeI : R2 := rI0 fun a b => .bl (decide (a ≤ b))
abbrev rGtI : R2 := rI0 fun a b => .bl (decide (b < a))
abbrev rGeI : R2 := rI0 fun a b => .bl (decide (b ≤ a))
abbrev rNegI : V → Hp → VK → Prop := rU fun a => .int (-a)
abbrev rAddSt : R2 := fun u v G k => ∃ a b, u = .str a ∧ v = .str b ∧ a.length + b.length ≤ sizeLine ∧ k (.str (a ++ b)) G
abbrev rInSign : R2 := fun u v G k => ∃ (a : Nat) (z : Str), u = .str ⟨#[a]⟩ ∧ v = .str z ∧ k (.bl (decide (a ∈ z.cps.toList))) G
abbrev rNotInSign : R2 := fun u v G k => ∃ (a : Nat) (z : Str), u = .str ⟨#[a]⟩ ∧ v = .str z ∧ k (.bl (!decide (a ∈ z.cps.toList))) G
abbrev rIsBl : R2 := fun u v G k => ∃ a b, u = .bl a ∧ v = .bl b ∧ k (.bl (decide (a = b))) G
abbrev rIsNotBl : R2 := fun u v G k => ∃ a b, u = .bl a ∧ v = .bl b ∧ k (.bl (!decide (a = b))) G
abbrev rIsNo : R2 := fun u v G k => v = .non ∧ k (.bl (decide (u = .non))) G
abbrev rIsNotNo : R2 := fun u v G k => v = .non ∧ k (.bl (!decide (u = .non))) G
/-! ### built-ins on values -/
abbrev rLenStr : List V → Hp → VK → Prop := fun us G k => ∃ z, us = [.str z] ∧ z.length ≤ sizeLine ∧ k (.int z.length) G
abbrev rLenSq (K : PySem.W.Frag) : List V → Hp → VK → Prop := fun us G k => ∃ a zs, us = [.ref a] ∧ (SqL K G a zs ∨ SqT K G a zs) ∧ k (.int zs.length) G
abbrev rAbsI : List V → Hp → VK → Prop := fun us G k => ∃ a, us = [.int a] ∧ k (.int (if a < 0 then -a else a)) G
abbrev rMaxI2 : List V → Hp → VK → Prop := fun us G k => ∃ a b, us = [.int a, .int b] ∧ k (.int (if b > a then b else a)) G
abbrev rMinI2 : List V → Hp → VK → Prop := fun us G k => ∃ a b, us = [.int a, .int b] ∧ k (.int (if b < a then b else a)) G
abbrev rIntOf : List V → Hp → VK → Prop := fun us G k => (∃ a, us = [.int a] ∧ k (.int a) G) ∨ ∃ b, us = [.bl b] ∧ k (.int (if b then 1 else 0)) G
abbrev rStrOfI : List V → Hp → VK → Prop := fun us G k => ∃ a, us = [.int a] ∧ a.natAbs.log2 < 1920 ∧ k (.str (toString a)) G
abbrev rListOf (K : PySem.W.Frag) : List V → Hp → VK → Prop := fun us G k => ∃ a zs, us = [.ref a] ∧ (SqL K G a zs ∨ SqT K G a zs) ∧ ∀ l, G l = none → k (.ref l) (upd G l (.lst zs))
abbrev rTupOf (K : PySem.W.Frag) : List V → Hp → VK → Prop := fun us G k => ∃ a zs, us = [.ref a] ∧ ((SqL K G a zs ∧ ∀ l, G l = none → k (.ref l) (upd G l (.tup zs))) ∨ (SqT K G a zs ∧ k (.ref a) G))
abbrev rStarts : V → List V → Hp → VK → Prop := fun u us G k => ∃ a b, u = .str a ∧ us = [.str b] ∧ k (.bl (Txt.startswith a b)) G
abbrev rEnds : V → List V → Hp → VK → Prop := fun u us G k => ∃ a b, u = .str a ∧ us = [.str b] ∧ k (.bl (Txt.endswith a b)) G
abbrev rPartn : V → List V → Hp → VK → Prop := fun u us G k => ∃ a b, u = .str a ∧ us = [.str b] ∧ (b.length == 0) = false ∧ a.length ≤ sizeLine ∧ ∀ p, G p = none → k (.ref p) (upd G p (.tup [.str (Txt.partition a b).1, .str (Txt.partition a b).2.1, .str (Txt.partition a b).2.2]))
abbrev rSplt : V → List V → Hp → VK → Prop := fun u us G k => ∃ a b, u = .str a ∧ us = [.str b] ∧ (b.length == 0) = false ∧ a.length + 2 ≤ sizeLine ∧ rNewStrs (Txt.split a b) G k
abbrev rJoinS (K : PySem.W.Frag) : V → List V → Hp → VK → Prop := fun u us G k => ∃ a p, ∃ ys : List Str, u = .str a ∧ us = [.ref p] ∧ (SqL K G p (ys.map V.str) ∨ SqT K G p (ys.map V.str)) ∧ (ys.map (·.length)).sum + ys.length * a.length ≤ 16777216 ∧ k (.str (Txt.join a ys)) G
abbrev tTru (K : PySem.W.Frag) (ta : TE) : TT := fun σ G k => ta σ G fun u G' => ∃ b, TruV K u G' b ∧ k b G'
/-! ### a def of the module with its promise -/
structure Cal (P : Program) (w : World) (K : PySem.W.Frag) (mg : Str → Option Value) (base : Heap) (CX : CXT) (k : Nat) (x : Str) (ps : List Str) (sp : Sp) : Prop where
  ex : ∃ fd, FnOk P w K mg base CX k (He.ga K x) fd ps sp ∧ Binds K fd ps []
  g : mg x = some (.ref (He.ga K x))
  kp : PySem.W.keepIn K (.ref (He.ga K x)) = true
section
variable {X : Cx} {k j : Nat} {x : Str} {ps : List Str} {sp : Sp} {p pos : Pos} {e : Expr} {es : List Expr} {t : TA}
theorem pf_call (c : Cal X.prog X.w X.K X.mg X.base CX0 k x ps sp) (hr : Room j X.A) (hk : k ≤ j) (hg : Gl X x) (ha : PA X (e :: es) t)
    (hdb : (x == ("__debug__" : Str)) = false := by decide) (he : starEach (e :: es) X.env = (false, eval e X.env) :: starEach es X.env := by rfl) (hpl : (backTo pos (starEach es X.env)).any (·.1) = false := by rfl) :
    PE X (.Call (.Name x p) (e :: es) [] pos) (tCall sp [] E0 t) := by
  obtain ⟨fd, F, b⟩ := c.ex
  exact pe_call F (hr.mono hk) hg c.g c.kp b .nil pass0 ha hdb he hpl
theorem pf_call0 (c : Cal X.prog X.w X.K X.mg X.base CX0 k x ps sp) (hr : Room j X.A) (hk : k ≤ j) (hg : Gl X x)
    (hdb : (x == ("__debug__" : Str)) = false := by decide) : PE X (.Call (.Name x p) [] [] pos) (tCall sp [] E0 tNil) := by
  obtain ⟨fd, F, b⟩ := c.ex
  exact pe_call0 F (hr.mono hk) hg c.g c.kp b .nil pass0 hdb
theorem pe_gc {v : V} (hg : Gl X x) (h : ∃ u, X.mg x = some u ∧ RelV v u) (hd : (x == ("__debug__" : Str)) = false := by decide) : PE X (.Name x pos) (tC v) := by
  obtain ⟨u, hm, r⟩ := h
  exact pe_glob hg hm r hd
end
/-! ### a def of the top keeps its promise -/
abbrev FnP (K : PySem.W.Frag) (x : Str) (st : Stmt) : Prop := ∃ fd, FunD K x x (defArgs st) (defBody st) (defScope st) [] [] (He.ga K x) fd
theorem fn_mk {P : Program} {w : World} {K : PySem.W.Frag} {mg : Str → Option Value} {base : Heap} {x : Str} {st : Stmt} {N ps : List Str} {k : Nat} {sp : Sp} {fd : FuncData} (F : FunD K x x (defArgs st) (defBody st) (defScope st) [] [] (He.ga K x) fd) (S : FnScope N ps (defScope st))
    (len : ∀ vs H Q E, sp vs H Q E → vs.length = ps.length)
    (hbody : ∀ (cdv : Value) (A : Around) (outer : List Env) (s : Shared) (H : Hp) (vs : List V) (Q : VK) (E : XK), Room k (A.deeper (envOfC x (defScope st) s.heap.objs.size (He.ga K x) cdv)) → sp vs H Q E →
      ∃ t, PSs (cxOf CX0 P w K mg base N x (defScope st) (He.ga K x) cdv A outer s H E).nox (defBody st) t ∧ t { nx := fun _ H' => Q .non H', rt := Q } (start N vs) H) : FnOk P w K mg base CX0 (k + 1) (He.ga K x) fd ps sp :=
  F.ok S len fun cdv A outer s H vs Q E hr h => by
    obtain ⟨t, h1, h2⟩ := hbody cdv A outer s H vs Q E hr h
    exact ⟨t, h1.nox, h2⟩
theorem cal_mk {P : Program} {w : World} {K : PySem.W.Frag} {mg : Str → Option Value} {base : Heap} {x : Str} {st : Stmt} {N ps : List Str} {k : Nat} {sp : Sp} (F : FnP K x st) (g : mg x = some (.ref (He.ga K x))) (S : FnScope N ps (defScope st))
    (len : ∀ vs H Q E, sp vs H Q E → vs.length = ps.length)
    (hb : ∀ (kV doc pm : Value) (an : Option Addr) (cdv ct : Value) (us : List Value), us.length = ps.length → bindArgs (PySem.W.fnOf x x (defArgs st) (defBody st) (defScope st) .none kV doc pm an cdv ct) ⟨us, []⟩ = pure (ps.zip us))
    (hbody : ∀ (cdv : Value) (A : Around) (outer : List Env) (s : Shared) (H : Hp) (vs : List V) (Q : VK) (E : XK), Room k (A.deeper (envOfC x (defScope st) s.heap.objs.size (He.ga K x) cdv)) → sp vs H Q E →
      ∃ t, PSs (cxOf CX0 P w K mg base N x (defScope st) (He.ga K x) cdv A outer s H E).nox (defBody st) t ∧ t { nx := fun _ H' => Q .non H', rt := Q } (start N vs) H) : Cal P w K mg base CX0 (k + 1) x ps sp := by
  obtain ⟨fd, F⟩ := F
  exact ⟨⟨fd, fn_mk F S len hbody, F.bindsN hb⟩, g, F.kp⟩
/-! ### the hook: facts by names, defs, own tests of the written part -/
abbrev AlB : Type := He.AlD × List Bool
def obsB (fa : List He.Fa) (fn : List He.DefD) (bs : List (PySem.W.Frag → Bool)) (K : PySem.W.Frag) : AlB := (He.obsD fa fn K, bs.map fun b => b K)
def valB (fn : List He.DefD) (bs : List (PySem.W.Frag → Bool)) : AlB := (He.valD fn, bs.map fun _ => true)
def obsBG (n : Nat) (fa : List He.Fa) (fn : List He.DefD) (bs : List (PySem.W.Frag → Bool)) (g : Addr → Option Obj) : AlB := obsB fa fn bs (He.frG g (He.asD g n))
def SaysB (fa : List He.Fa) (fn : List He.DefD) (bs : List (PySem.W.Frag → Bool)) (K : PySem.W.Frag) : Prop := obsB fa fn bs K = valB fn bs
def hookB (n : Nat) (fa : List He.Fa) (fn : List He.DefD) (bs : List (PySem.W.Frag → Bool)) : PySem.W.Hook where
  α := AlB
  obs := fun s => obsBG n fa fn bs s.heap.get?
  val := fun _ => valB fn bs
  says := fun _ h => ∃ K : PySem.W.Frag, K.In h ∧ SaysB fa fn bs K
  of := fun _ _ e => ⟨_, He.frG_in, e⟩
  keeps := fun _ _ _ ⟨K, hK, c⟩ k => ⟨K, PySem.W.Frag.In.keeps hK k, c⟩
theorem obsBG_eq {n : Nat} {fa : List He.Fa} {fn : List He.DefD} {bs : List (PySem.W.Frag → Bool)} {g : Addr → Option Obj} {s : Shared} (h : ∀ a, g a = s.heap.get? a) : obsBG n fa fn bs g = (hookB n fa fn bs).obs s := by
  have e : g = s.heap.get? := funext h
  rw [e] <;> rfl
section
variable {fa : List He.Fa} {fn : List He.DefD} {bs : List (PySem.W.Frag → Bool)} {K : PySem.W.Frag}
theorem SaysB.d (c : SaysB fa fn bs K) : He.SaysD fa fn K := congrArg (fun z : AlB => z.1) c
theorem SaysB.b (c : SaysB fa fn bs K) (i : Nat) {b : PySem.W.Frag → Bool} (h : bs[i]? = some b := by rfl) : b K = true := by
  have e : bs.map (fun b => b K) = bs.map fun _ => true := congrArg (fun z : AlB => z.2) c
  have e2 : (bs.map fun b => b K)[i]? = (bs.map fun _ => true)[i]? := by rw [e]
  rw [List.getElem?_map, List.getElem?_map, h] at e2
  exact Option.some.inj e2
end
/-! ### the end: facts by a hook, the script's bits told -/
theorem walk_ends {l : PySem.W.OpenLaw} {n k : Nat} {q : Program} {loose : List Str} {XP : (Str → Option Value) → Heap → Prop} {YP : World → Heap → Prop} {d : DefRec} {CX : World → CXT} {x : Str}
    (hn : l.most = some n) (hn2 : n ≤ sizeLine) (hdf : d.params.defaults = []) (hr : Room k callerA)
    (F : ∀ (w : World) (mg : Str → Option Value) (fa : Addr) (h : Heap), YP w h → h.Ns mainGlobals mg → mg d.name = some (.ref fa) →
      ∃ (K : PySem.W.Frag) (fd : FuncData) (sp : Sp), K.In h ∧ (∀ (s : Shared) (u : Value), BindsTo s fd ⟨[u], []⟩ [(x, u)]) ∧
        (∀ (H : Hp) (a : Addr) (ns : List Int), ns.length ≤ n → (∀ z ∈ ns, Builtin.Int.intBits z ≤ 1048576) → Only H → SqL K H a (ns.map V.int) → sp [.ref a] H (fun v _ => v = .bl true) fun _ _ _ => False) ∧
        ∀ base : Heap, K.In base → base.Ns mainGlobals mg → FnOk l.prog w K mg base (CX w) k fa fd [x] sp)
    (hCX : ∀ (w : World) (H : Hp) (s : Shared) (e : Value) (s' : Shared), CX w [] H s (fun _ _ _ => False) e s' → False) :
    PySem.W.WalkO q loose XP YP l.row.toRowW d [] (fun f vs => PySem.call f vs) := by
  refine Att.attach_callB hn hdf fun w s0 s1 mg mb fa o pm cd doc a vs ns G Y ho hd hcd hmg hobj hints hlen hbits hg => ?_
  obtain ⟨K, fd, sp, KX, hb, hsp, hF⟩ := F w mg fa _ Y G.T.g hmg
  exact law_call KX G.T.g G.T.b G.T.builtins G.T.nolimit hg hobj hints (Nat.le_trans hlen hn2) hr hF hb (fun H hO hS => hsp H a ns hlen hbits hO hS) fun H e s' => hCX w H s1 e s'
end Ef

/-! readings that evaluate: own rows -/
namespace Ef
open PySem PySem.Spec PyProof.Rows L2 Evl
section
variable {K : PySem.W.Frag} {σ : L2.St} {H H' : Hp} {ta tb tc te tl : TE} {t u : TT} {x y z v : V} {r : R2} {D : Ends} {tz tu : TS}
theorem take_succ {α : Type} {l : List α} {i : Nat} {x : α} (h : l[i]? = some x) : l.take (i + 1) = l.take i ++ [x] := by
  rw [List.take_add_one, h]; rfl
theorem rc_lenStr {z : Str} (h : z.length ≤ 100000) : RC rLenStr [.str z] H (.int z.length) := fun H1 _ _ q => ⟨z, rfl, sz_of h, q H1 (Ex.refl H1)⟩
theorem ev_lenStr {z : Str} (h : Ev te σ H (.str z)) (hl : z.length ≤ 100000) : Ev (tCB rLenStr (tCons te tNil)) σ H (.int z.length) := ev_cb (ea_cons h ea_nil) (rc_lenStr hl)
theorem ev_lenSq {a : Addr} {xs : List V} (h : Ev te σ H (.ref a)) (hs : SqL K H a xs ∨ SqT K H a xs) : Ev (tCB (rLenSq K) (tCons te tNil)) σ H (.int xs.length) := ev_cb (ea_cons h ea_nil) fun H1 e _ q => ⟨a, xs, rfl, hs.imp (ex_l e) (ex_t e), q H1 (Ex.refl H1)⟩
theorem ev_chain2 {a b : Bool} {r' : R2} {w : V} (h1 : Ev ta σ H x) (h2 : Ev tb σ H y) (h3 : Ev tc σ H w) (ho : RV r x y H (.bl a)) (ho' : RV r' y w H (.bl b)) : Ev (tChain r r' ta tb tc) σ H (.bl (a && b)) := fun H1 e Q q =>
  h1 H1 e _ fun H2 e2 => h2 H2 (e.trans e2) _ fun H3 e3 => ho H3 ((e.trans e2).trans e3) _ fun H4 e4 => ⟨a, rfl, by
    cases a with
    | true =>
      show tc σ H4 _
      refine h3 H4 (((e.trans e2).trans e3).trans e4) _ fun H5 e5 => ho' H5 ((((e.trans e2).trans e3).trans e4).trans e5) _ fun H6 e6 => q H6 ((((e2.trans e3).trans e4).trans e5).trans e6)
    | false =>
      show Q (.bl false) H4
      exact q H4 ((e2.trans e3).trans e4)⟩
theorem rv_inSign {c : Nat} {z : Str} : RV rInSign (.str ⟨#[c]⟩) (.str z) H (.bl (decide (c ∈ z.cps.toList))) := fun H1 _ _ q => ⟨c, z, rfl, rfl, q H1 (Ex.refl H1)⟩
theorem rv_notInSign {c : Nat} {z : Str} : RV rNotInSign (.str ⟨#[c]⟩) (.str z) H (.bl (!decide (c ∈ z.cps.toList))) := fun H1 _ _ q => ⟨c, z, rfl, rfl, q H1 (Ex.refl H1)⟩
theorem rv_addSt {a b : Str} (h : a.length + b.length ≤ 100000) : RV rAddSt (.str a) (.str b) H (.str (a ++ b)) := fun H1 _ _ q => ⟨a, b, rfl, rfl, sz_of h, q H1 (Ex.refl H1)⟩
theorem ev_add {i j : Int} (ha : Ev ta σ H (.int i)) (hb : Ev tb σ H (.int j)) : Ev (tOp rAddI ta tb) σ H (.int (i + j)) := ev_op ha hb rv_I0
theorem ev_sub {i j : Int} (ha : Ev ta σ H (.int i)) (hb : Ev tb σ H (.int j)) : Ev (tOp rSubI ta tb) σ H (.int (i - j)) := ev_op ha hb rv_I0
theorem ev_mul {i j : Int} (ha : Ev ta σ H (.int i)) (hb : Ev tb σ H (.int j)) (h : CMul i j) : Ev (tOp rMulI ta tb) σ H (.int (i * j)) := ev_op ha hb (rv_I h)
theorem ev_mod {i j : Int} (ha : Ev ta σ H (.int i)) (hb : Ev tb σ H (.int j)) (h : 0 < j) : Ev (tOp rModI ta tb) σ H (.int (i % j)) := ev_op ha hb (rv_I (C := fun _ b => 0 < b) h)
theorem ev_div {i j : Int} (ha : Ev ta σ H (.int i)) (hb : Ev tb σ H (.int j)) (h : CDiv i j) : Ev (tOp rDivI ta tb) σ H (.int (i / j)) := ev_op ha hb (rv_I h)
theorem ev_divW {i j : Int} (ha : Ev ta σ H (.int i)) (hb : Ev tb σ H (.int j)) (h : CDivW i j) : Ev (tOp rDivW ta tb) σ H (.int (i / j)) := ev_op ha hb (rv_I h)
theorem ev_pow {i j : Int} (ha : Ev ta σ H (.int i)) (hb : Ev tb σ H (.int j)) (h : CPow i j) : Ev (tOp rPowI ta tb) σ H (.int (i ^ j.toNat)) := ev_op ha hb (rv_I h)
theorem ev_addSt {a b : Str} (ha : Ev ta σ H (.str a)) (hb : Ev tb σ H (.str b)) (h : a.length + b.length ≤ 100000) : Ev (tOp rAddSt ta tb) σ H (.str (a ++ b)) := ev_op ha hb (rv_addSt h)
theorem ev_intOf {i : Int} (h : Ev te σ H (.int i)) : Ev (tCB rIntOf (tCons te tNil)) σ H (.int i) := ev_cb (ea_cons h ea_nil) fun H1 _ _ q => .inl ⟨i, rfl, q H1 (Ex.refl H1)⟩
theorem ev_abs {i : Int} (h : Ev te σ H (.int i)) : Ev (tCB rAbsI (tCons te tNil)) σ H (.int (if i < 0 then -i else i)) := ev_cb (ea_cons h ea_nil) fun H1 _ _ q => ⟨i, rfl, q H1 (Ex.refl H1)⟩
theorem ev_max {i j : Int} (ha : Ev ta σ H (.int i)) (hb : Ev tb σ H (.int j)) : Ev (tCB rMaxI2 (tCons ta (tCons tb tNil))) σ H (.int (if j > i then j else i)) := ev_cb (ea_cons ha (ea_cons hb ea_nil)) fun H1 _ _ q => ⟨i, j, rfl, q H1 (Ex.refl H1)⟩
theorem ev_min {i j : Int} (ha : Ev ta σ H (.int i)) (hb : Ev tb σ H (.int j)) : Ev (tCB rMinI2 (tCons ta (tCons tb tNil))) σ H (.int (if j < i then j else i)) := ev_cb (ea_cons ha (ea_cons hb ea_nil)) fun H1 _ _ q => ⟨i, j, rfl, q H1 (Ex.refl H1)⟩
theorem ev_slS {z : Str} {t1 t2 : TO} {lo hi : Option Int} (h : Ev te σ H (.str z)) (h1 : EvO t1 σ H lo) (h2 : EvO t2 σ H hi) (hz : z.length ≤ 100000) : Ev (tSl rSlS te t1 t2) σ H (.str (cutS z lo hi)) := fun H1 e Q q =>
  h H1 e _ fun H2 e2 => h1 H2 (e.trans e2) _ fun H3 e3 => h2 H3 ((e.trans e2).trans e3) _ fun H4 e4 => ⟨z, rfl, sz_of hz, q H4 ((e2.trans e3).trans e4)⟩
theorem ev_starts {a b : Str} (h : Ev ta σ H (.str a)) (h1 : Ev tb σ H (.str b)) : Ev (tM1 rStarts ta tb) σ H (.bl (Txt.startswith a b)) := fun H1 e Q q =>
  h H1 e _ fun H2 e2 => ⟨⟨a, rfl⟩, h1 H2 (e.trans e2) _ fun H3 e3 => ⟨a, b, rfl, rfl, q H3 (e2.trans e3)⟩⟩
theorem ev_all {bs : List Bool} (h : EvL te σ H (bs.map V.bl)) : Ev (tCB (rAll K) (tCons te tNil)) σ H (.bl (bs.all id)) := fun H1 e Q q =>
  h H1 e _ fun p H2 hp e2 h2 => ⟨p, bs, rfl, sq_of h2, q H2 e2⟩
theorem ev_any {bs : List Bool} (h : EvL te σ H (bs.map V.bl)) : Ev (tCB (rAny K) (tCons te tNil)) σ H (.bl (bs.any id)) := fun H1 e Q q =>
  h H1 e _ fun p H2 hp e2 h2 => ⟨p, bs, rfl, sq_of h2, q H2 e2⟩
theorem ev_isi {n : String} {tv : Value} {b : Bool} (h : Ev te σ H x) (ht : ∀ H1, Ex H H1 → TyX K H1 x tv) (hk : PySem.W.kitOne K tv (.type n) = some b) : Ev (tCB (rIsi K) (tCons te (tCons (tC (.ty n)) tNil))) σ H (.bl b) :=
  ev_cb (ea_cons h (ea_cons ev_c ea_nil)) fun H1 e _ q => ⟨x, .ty n, tv, .type n, b, rfl, .ty n, ht H1 e, hk, q H1 (Ex.refl H1)⟩
theorem et_tru {b : Bool} (h : Ev te σ H x) (hb : ∀ H1, Ex H H1 → TruV K x H1 b) : EvT (tTru K te) σ H b := fun H1 e _ q => h H1 e _ fun H2 e2 => ⟨b, hb H2 (e.trans e2), q H2 e2⟩
/-- a comprehension over a text -/
theorem el_lcS {z : Str} {j : Nat} {vs : List Nat} (f : Nat → Bool) (v : Nat → V) (h : Ev tl σ H (.str z)) (hz : z.length ≤ 100000) (hw : ∀ x, wipe ((wipe σ vs).set j (some x)) vs = wipe σ vs)
    (ht : ∀ c, EvT t ((wipe σ vs).set j (some (.str ⟨#[c]⟩))) H (f c)) (he : ∀ c, f c = true → Ev te ((wipe σ vs).set j (some (.str ⟨#[c]⟩))) H (v c)) :
    EvL (tLc (iStr tl) (gName j) t te vs) σ H ((z.cps.toList.filter f).map v) := fun H0 e Q q => h H0 e _ fun H1 e1 => ⟨z, rfl, fun Dl hD =>
  lc_it walk_str (fun i H' => H1 Dl = none ∧ Ex H1 H' ∧ H' Dl = some (.lst (((z.cps.toList.take i).filter f).map v)))
    ⟨hD, Ex.new hD, upd_same⟩ (fun _ _ _ _ => trivial)
    (fun i x G G' hi p hy => by
      obtain ⟨rfl, c, hc, rfl⟩ := hy
      obtain ⟨p1, p2, p3⟩ := p
      have hc2 : z.cps.toList[i]? = some c := by rw [Array.getElem?_toList]; exact hc
      have hlen : (z.cps.toList.take i).length ≤ 100000 := by
        rw [List.length_take]
        have : z.cps.toList.length = z.length := by simp [Str.length]
        omega
      refine ⟨hw _, ht c _ ((e.trans e1).trans p2) _ fun H3 e3 => ?_⟩
      cases hf : f c with
      | true =>
        refine he c hf H3 (((e.trans e1).trans p2).trans e3) _ fun H4 e4 => ⟨_, (e4 _ _ (e3 _ _ p3)), Nat.lt_of_le_of_lt ?_ (show 100000 < sizeLine by decide), p1, ?_, ?_⟩
        · rw [List.length_map]; exact Nat.le_trans (List.length_filter_le _ _) hlen
        · exact Ex.mut (p2.trans (e3.trans e4)) p1
        · rw [upd_same, take_succ hc2, List.filter_append, List.map_append, List.filter_cons, if_pos hf] <;> rfl
      | false =>
        refine ⟨p1, p2.trans e3, ?_⟩
        rw [e3 _ _ p3, take_succ hc2, List.filter_append, List.map_append, List.filter_cons, if_neg (by rw [hf]; decide)]
        simp)
    (fun H' p => by
      obtain ⟨p1, p2, p3⟩ := p
      refine q Dl H' (fresh_back e1 p1) (e1.trans p2) ?_
      have : z.cps.toList.take z.cps.size = z.cps.toList := List.take_of_length_le (by simp)
      rw [p3, this])⟩
end
end Ef

/-! own words: promises -/
namespace Ef
open PySem PySem.Spec PyProof.Rows L2
abbrev Ex := Evl.Ex
def reserved : List Str := ["class", "shared", "promise", "value", "init", "method", "getter", "setter", "chained", "final", "set", "keep", "read", "look", "call", "super", "of", "make", "fail", "try", "catch", "if", "else", "either", "or", "loop"]
def smalls : Str := "abcdefghijklmnopqrstuvwxyz"
/-- whether a text is a word -/
def fitsW (z : Str) : Bool := (decide (1 ≤ z.length) && decide (z.length ≤ 8)) && (!decide (z ∈ reserved) && z.cps.toList.all fun c => decide (c ∈ smalls.cps.toList))
/-- whether a text is a key -/
def fitsK (z : Str) : Bool := decide (z = "init") || ((Txt.startswith z "method " || Txt.startswith z "getter " || Txt.startswith z "setter ") && fitsW (cutS z (some 7) none))
/-- no text -/
def NotStr (K : PySem.W.Frag) (H : Hp) (x : V) : Prop := ∃ t : String, TyX K H x (.type t) ∧ kitB t "str" = some false
/-- a value that is asked, and what is said of it -/
def Asked (K : PySem.W.Frag) (f : Str → Bool) (H : Hp) (x : V) (b : Bool) : Prop := (∃ z, x = .str z ∧ z.length ≤ 100000 ∧ b = f z) ∨ (NotStr K H x ∧ b = false)
/-- plain signs -/
def Asc (z : Str) : Prop := ∀ c ∈ z.cps.toList, c < 128
def spText1 (f : Str → Bool) : Sp := fun vs H Q _ => ∃ z : Str, vs = [.str z] ∧ z.length ≤ 100000 ∧ ∀ H', Ex H H' → Q (.bl (f z)) H'
def spText2 (f : Str → Bool) : Sp := fun vs H Q _ => ∃ z : Str, vs = [.str z] ∧ z.length ≤ 100000 ∧ Asc z ∧ ∀ H', Ex H H' → Q (.bl (f z)) H'
abbrev sp_fits_word : Sp := spText1 fitsW
abbrev sp_law_is_word : Sp := spText2 fitsW
abbrev sp_law_is_key : Sp := spText2 fitsK
def spAsk (K : PySem.W.Frag) (f : Str → Bool) : Sp := fun vs H Q _ => ∃ (x : V) (b : Bool), vs = [x] ∧ Asked K f H x b ∧ ∀ H', Ex H H' → Q (.bl b) H'
abbrev sp_is_word (K : PySem.W.Frag) : Sp := spAsk K fitsW
abbrev sp_is_key (K : PySem.W.Frag) : Sp := spAsk K fitsK
/-- the bag of a law: a list of two numbers -/
def Bag (H : Hp) (b : Addr) : Prop := ∃ x s : Int, H b = some (.lst [.int x, .int s]) ∧ 0 ≤ x ∧ 0 ≤ s ∧ s < 2147483648
/-- all but the bag stays, the bag stays a bag -/
structure Le (b : Addr) (H H' : Hp) : Prop where
  keep : ∀ a o, a ≠ b → H a = some o → H' a = some o
  bag : Bag H b → Bag H' b
def sp_bag (K : PySem.W.Frag) : Sp := fun vs H Q _ => ∃ (a : Addr) (ns : List Int) (i : Int), vs = [.ref a, .int i] ∧ SqL K H a (ns.map V.int) ∧ ns.length ≤ 63 ∧ 0 ≤ i ∧ i ≤ 1000 ∧ ∀ H' b, Ex H H' → H b = none → Bag H' b → Q (.ref b) H'
def sp_draw : Sp := fun vs H Q _ => ∃ (b : Addr) (m : Int), vs = [.ref b, .int m] ∧ Bag H b ∧ 0 < m ∧ m ≤ 10 ^ 30 ∧ ∀ H' (d : Int), Le b H H' → 0 ≤ d → d < m → Q (.int d) H'
def sp_one (K : PySem.W.Frag) : Sp := fun vs H Q _ => ∃ (b l : Addr) (xs : List V), vs = [.ref b, .ref l] ∧ Bag H b ∧ l ≠ b ∧ SqL K H l xs ∧ xs ≠ [] ∧ xs.length ≤ 100000 ∧ ∀ H' x, Le b H H' → x ∈ xs → Q x H'
def sp_reserved : Sp := fun vs H Q _ => vs = [] ∧ ∀ H' p, Ex H H' → H p = none → H' p = some (.lst (reserved.map V.str)) → Q (.ref p) H'
/-- a text of at most n signs, drawn -/
def spDrawn (n : Nat) : Sp := fun vs H Q _ => ∃ b : Addr, vs = [.ref b] ∧ Bag H b ∧ ∀ H' (z : Str), Le b H H' → z.length ≤ n → Asc z → Q (.str z) H'
abbrev sp_letters : Sp := spDrawn 10
abbrev sp_some : Sp := spDrawn 30
def sp_law (K : PySem.W.Frag) : Sp := fun vs H Q _ => ∃ (a : Addr) (ns : List Int), vs = [.ref a] ∧ SqL K H a (ns.map V.int) ∧ ns.length ≤ 63 ∧ ∀ H', Q (.bl true) H'
end Ef

/-! texts: the mathematics -/
namespace Ef
open PySem PySem.Spec PyProof.Rows L2
theorem starts_iff (x y : Str) : Txt.startswith x y = (((TL.tl x).take (TL.tl y).length) == TL.tl y) := by
  unfold Txt.startswith
  rw [PySem.StrLaws.subAt_eq]
  have e1 := TL.len_tl x
  have e2 := TL.len_tl y
  rw [List.drop_zero, e2]
  cases q : (List.take (TL.tl y).length x.cps.toList == y.cps.toList) with
  | false => rw [Bool.and_false]
  | true =>
    rw [Bool.and_true]
    have h := congrArg List.length (eq_of_beq q)
    rw [List.length_take] at h
    rw [e1]
    have h3 : (TL.tl x).length = x.cps.toList.length := rfl
    have h4 : (TL.tl y).length = y.cps.toList.length := rfl
    exact decide_eq_true (by omega)
theorem starts_app (h y : Str) : Txt.startswith (h ++ y) h = true := by
  rw [starts_iff, TL.tl_append, List.take_left]; simp
theorem starts_true {x h : Str} (e : Txt.startswith x h = true) : ∃ y : Str, x = h ++ y := by
  rw [starts_iff] at e
  refine ⟨⟨((TL.tl x).drop (TL.tl h).length).toArray⟩, TL.ext_tl ?_⟩
  rw [TL.tl_append]
  have e2 := eq_of_beq e
  have e3 : TL.tl (⟨((TL.tl x).drop (TL.tl h).length).toArray⟩ : Str) = (TL.tl x).drop (TL.tl h).length := rfl
  rw [e3]
  have e4 := List.take_append_drop (TL.tl h).length (TL.tl x)
  rw [e2] at e4
  exact e4.symm
theorem cut_app (h y : Str) (n : Nat) (e : h.length = n) : cutS (h ++ y) (some (n : Int)) none = y := by
  apply TL.ext_tl
  have e1 : TL.tl (cutS (h ++ y) (some (n : Int)) none) = ((TL.tl (h ++ y)).drop (HT.sIx (h ++ y).length 0 (some (n : Int)))).take (HT.sIx (h ++ y).length (h ++ y).length none - HT.sIx (h ++ y).length 0 (some (n : Int))) := rfl
  rw [e1, HT.sIx_nat, HT.sIx_none]
  have l1 : (h ++ y).length = (TL.tl h).length + (TL.tl y).length := by rw [TL.len_tl, TL.tl_append, List.length_append]
  have l2 : n = (TL.tl h).length := by rw [← TL.len_tl, e]
  rw [TL.tl_append, l1, l2, Nat.min_eq_left (by omega), List.drop_left]
  rw [show (TL.tl h).length + (TL.tl y).length - (TL.tl h).length = (TL.tl y).length by omega, List.take_length]
theorem split_blank : ∀ (l : List Nat), 32 ∈ l → ∃ a b, l = a ++ 32 :: b ∧ 32 ∉ a
  | [], h => nomatch h
  | c :: r, h => by
    by_cases e : c = 32
    · subst e; exact ⟨[], r, rfl, by simp⟩
    · have h2 : 32 ∈ r := by
        rcases List.mem_cons.mp h with q | q
        · exact absurd q.symm e
        · exact q
      obtain ⟨a, b, e1, e2⟩ := split_blank r h2
      refine ⟨c :: a, b, by rw [e1]; rfl, fun q => ?_⟩
      rcases List.mem_cons.mp q with q | q
      · exact e q.symm
      · exact e2 q
theorem tl_blank : TL.tl (" " : Str) = [32] := by decide +kernel
theorem str_split (z : Str) (h : 32 ∈ TL.tl z) : ∃ a b : Str, z = a ++ " " ++ b ∧ 32 ∉ TL.tl a := by
  obtain ⟨a, b, e1, e2⟩ := split_blank _ h
  refine ⟨⟨a.toArray⟩, ⟨b.toArray⟩, TL.ext_tl ?_, e2⟩
  rw [TL.tl_append, TL.tl_append, tl_blank, e1, TL.tl_mk, TL.tl_mk]
  simp
/-- a head of a key: six letters and a blank -/
theorem starts_head {a b h : Str} (ha : 32 ∉ TL.tl a) (hh : 32 ∉ TL.tl h) : Txt.startswith (a ++ " " ++ b) (h ++ " ") = decide (a = h) := by
  by_cases e : a = h
  · subst e
    rw [starts_app, decide_eq_true rfl]
  · rw [decide_eq_false e]
    cases q : Txt.startswith (a ++ " " ++ b) (h ++ " ") with
    | false => rfl
    | true =>
      obtain ⟨y, ey⟩ := starts_true q
      have p1 : Txt.partition (a ++ " " ++ b) " " = (a, (" " : Str), b) := TL.partition_app (y := " ") (s := 32) (S := []) tl_blank ha
      have p2 : Txt.partition (h ++ " " ++ y) " " = (h, (" " : Str), y) := TL.partition_app (y := " ") (s := 32) (S := []) tl_blank hh
      rw [ey, p2] at p1
      have p3 : h = a := congrArg (·.1) p1
      exact absurd p3.symm e
theorem starts_none {a h : Str} (ha : 32 ∉ TL.tl a) : Txt.startswith a (h ++ " ") = false := by
  cases q : Txt.startswith a (h ++ " ") with
  | false => rfl
  | true =>
    obtain ⟨y, ey⟩ := starts_true q
    exfalso
    apply ha
    rw [ey, TL.tl_append, TL.tl_append, tl_blank]
    simp
theorem no32_method : 32 ∉ TL.tl ("method" : Str) := by decide +kernel
theorem no32_getter : 32 ∉ TL.tl ("getter" : Str) := by decide +kernel
theorem no32_setter : 32 ∉ TL.tl ("setter" : Str) := by decide +kernel
theorem eq_method : ("method " : Str) = "method" ++ " " := by decide +kernel
theorem eq_getter : ("getter " : Str) = "getter" ++ " " := by decide +kernel
theorem eq_setter : ("setter " : Str) = "setter" ++ " " := by decide +kernel
theorem no32_init : 32 ∉ TL.tl ("init" : Str) := by decide +kernel
/-- what the program says: no blank -/
theorem fitsK_none {z : Str} (h : 32 ∉ TL.tl z) : fitsK z = decide (z = "init") := by
  unfold fitsK
  rw [eq_method, eq_getter, eq_setter, starts_none h, starts_none h, starts_none h]
  simp
theorem fitsK_app {a b : Str} (h : 32 ∉ TL.tl a) : fitsK (a ++ " " ++ b) = (decide (a ∈ (["method", "getter", "setter"] : List Str)) && fitsW b) := by
  unfold fitsK
  have n : ¬ (a ++ " " ++ b = "init") := fun e => by
    apply no32_init
    rw [← e, TL.tl_append, TL.tl_append, tl_blank]
    simp
  rw [decide_eq_false n, Bool.false_or, eq_method, eq_getter, eq_setter, starts_head h no32_method, starts_head h no32_getter, starts_head h no32_setter]
  by_cases m : a ∈ (["method", "getter", "setter"] : List Str)
  · rw [decide_eq_true m]
    have l6 : (a ++ " ").length = 7 := by
      simp only [List.mem_cons, List.not_mem_nil, or_false] at m
      rcases m with e | e | e <;> subst e <;> decide +kernel
    have c7 := cut_app (a ++ " ") b 7 l6
    have c8 : cutS (a ++ " " ++ b) (some 7) none = b := c7
    rw [c8]
    simp only [List.mem_cons, List.not_mem_nil, or_false] at m
    rcases m with e | e | e <;> subst e <;> simp
  · rw [decide_eq_false m]
    simp only [List.mem_cons, List.not_mem_nil, or_false, not_or] at m
    rw [decide_eq_false m.1, decide_eq_false m.2.1, decide_eq_false m.2.2]
    simp
end Ef

/-! readings, printed by gen.py -/
namespace Ef
open PySem PySem.Spec PyProof.Rows L2
/-- 0 token, 1 sign -/
def t_fits_word (K : PySem.W.Frag) : TS := tSeq (tIfS (tOr (tNot (tTest (tChain rLeI rLeI (tC (.int 1)) (tCB rLenStr (tCons (tVar 0) tNil)) (tC (.int 8))))) (tTest (tOp (rIn K false) (tVar 0) (tC (.ref (He.ga K "RESERVED")))))) (tRet (tC (.bl false))) tNext) (tRet (tCB (rAll K) (tCons (tLc (iStr (tVar 0)) (gName 1) tYes (tOp rInSign (tVar 1) (tC (.str "abcdefghijklmnopqrstuvwxyz"))) [1]) tNil)))
/-- 0 value -/
def t_is_word (K : PySem.W.Frag) : TS := tRet (tAndV (tCB (rIsi K) (tCons (tVar 0) (tCons (tC (.ty "str")) tNil))) (tCall sp_fits_word [] E0 (tCons (tVar 0) tNil)))
/-- 0 value, 1 kind, 2 blank, 3 word -/
def t_is_key (K : PySem.W.Frag) : TS := tSeq (tIfS (tNot (tB (tCB (rIsi K) (tCons (tVar 0) (tCons (tC (.ty "str")) tNil))))) (tRet (tC (.bl false))) tNext) (tSeq (tAsg (tM1 rPartn (tVar 0) (tC (.str " "))) (gTup K 3 (gCons (gName 1) (gCons (gName 2) (gCons (gName 3) gNil))))) (tSeq (tIfS (tTest (tOp rEq (tVar 2) (tC (.str "")))) (tRet (tOp rEq (tVar 1) (tC (.str "init")))) tNext) (tRet (tAndV (tOp (rIn K false) (tVar 1) (tTup (tCons (tC (.str "method")) (tCons (tC (.str "getter")) (tCons (tC (.str "setter")) tNil))))) (tCall sp_fits_word [] E0 (tCons (tVar 3) tNil))))))
/-- 0 _law_script, 1 _law_at, 2 _law_cell, 3 _law_seed, 4 _law_turn, 5 _law_each -/
def t__law_bag (K : PySem.W.Frag) : TS := tSeq (tAsg (tIf (tTest (tOp rLtI (tVar 1) (tCB (rLenSq K) (tCons (tVar 0) tNil)))) (tOp (rIxL K) (tVar 0) (tVar 1)) (tC (.int 0))) (gName 2)) (tSeq (tAsg (tOp rAddI (tOp rMulI (tC (.int 6151)) (tVar 1)) (tC (.int 389))) (gName 3)) (tSeq (tFor (iEnum K (tCons (tSl (rSlL K) (tVar 0) tNoPart (tPart (tC (.int 63)))) tNil)) (gTup K 2 (gCons (gName 4) (gCons (gName 5) gNil))) (tAsg (tOp rModI (tCB rIntOf (tCons (tOp rAddI (tOp rAddI (tOp rMulI (tVar 3) (tC (.int 39373))) (tOp rModI (tCB rIntOf (tCons (tVar 5) tNil)) (tC (.int 2147483579)))) (tOp rMulI (tC (.int 57)) (tVar 4))) tNil)) (tC (.int 2147483423))) (gName 3))) (tRet (tLst (tCons (tIf (tTest (tOp rGeI (tCB rAbsI (tCons (tVar 2) tNil)) (tOp rPowI (tC (.int 10)) (tC (.int 18))))) (tCB rAbsI (tCons (tVar 2) tNil)) (tC (.int 0))) (tCons (tVar 3) tNil))))))
/-- 0 _law_bag_here, 1 _law_many, 2 _law_digit -/
def t__law_draw (K : PySem.W.Frag) : TS := tSeq (tIfS (tTest (tOp rGtI (tOp (rIxL K) (tVar 0) (tC (.int 0))) (tC (.int 0)))) (tSeq (tAsg (tOp rModI (tCB rIntOf (tCons (tOp (rIxL K) (tVar 0) (tC (.int 0))) tNil)) (tVar 1)) (gName 2)) (tSeq (tAsg (tOp rDivW (tOp (rIxL K) (tVar 0) (tC (.int 0))) (tVar 1)) (gSub (tVar 0) (tC (.int 0)) rSetL)) (tRet (tVar 2)))) tNext) (tSeq (tAsg (tOp rModI (tCB rIntOf (tCons (tOp rAddI (tOp rMulI (tOp (rIxL K) (tVar 0) (tC (.int 1))) (tC (.int 69621))) (tC (.int 40503))) tNil)) (tC (.int 2147483647))) (gSub (tVar 0) (tC (.int 1)) rSetL)) (tRet (tOp rModI (tOp rDivI (tOp rModI (tCB rIntOf (tCons (tOp rMulI (tOp rDivI (tOp (rIxL K) (tVar 0) (tC (.int 1))) (tC (.int 13))) (tC (.int 16807))) tNil)) (tC (.int 2147483629))) (tC (.int 32))) (tVar 1))))
/-- 0 _law_bag_here, 1 _law_some_here -/
def t__law_one (K : PySem.W.Frag) : TS := tRet (tOp (rIxL K) (tVar 1) (tCall sp_draw [] E0 (tCons (tVar 0) (tCons (tCB (rLenSq K) (tCons (tVar 1) tNil)) tNil))))
/-- 0 _law_some_here, 1 _law_more -/
def t__law_reserved (K : PySem.W.Frag) : TS := tSeq (tAsg (tC (.str "class shared promise value init method getter setter chained final set keep read ")) (gName 0)) (tSeq (tAsg (tC (.str "look call super of make fail try catch if else either or loop")) (gName 1)) (tRet (tM1 rSplt (tOp rAddSt (tVar 0) (tVar 1)) (tC (.str " ")))))
/-- 0 _law_bag_here, 1 _law_found, 2 _law_turn -/
def t__law_letters (K : PySem.W.Frag) : TS := tSeq (tAsg (tC (.str "")) (gName 1)) (tSeq (tFor (iRng1 (tCons (tOp rAddI (tC (.int 1)) (tCall sp_draw [] E0 (tCons (tVar 0) (tCons (tC (.int 10)) tNil)))) tNil)) (gName 2) (tAsg (tOp rAddSt (tVar 1) (tOp rIxS (tC (.str "abcdefghijklmnopqrstuvwxyz")) (tCall sp_draw [] E0 (tCons (tVar 0) (tCons (tC (.int 26)) tNil))))) (gName 1))) (tRet (tVar 1)))
/-- 0 _law_bag_here, 1 _law_kind, 2 _law_text, 3 _law_at -/
def t__law_some (K : PySem.W.Frag) : TS := tSeq (tAsg (tCall sp_draw [] E0 (tCons (tVar 0) (tCons (tC (.int 6)) tNil))) (gName 1)) (tSeq (tIfS (tTest (tOp rEq (tVar 1) (tC (.int 0)))) (tRet (tCall (sp_one K) [] E0 (tCons (tVar 0) (tCons (tCall sp_reserved [] E0 tNil) tNil)))) tNext) (tSeq (tAsg (tCall sp_letters [] E0 (tCons (tVar 0) tNil)) (gName 2)) (tSeq (tIfS (tTest (tOp rEq (tVar 1) (tC (.int 1)))) (tSeq (tAsg (tCall sp_draw [] E0 (tCons (tVar 0) (tCons (tOp rAddI (tCB rLenStr (tCons (tVar 2) tNil)) (tC (.int 1))) tNil))) (gName 3)) (tRet (tOp rAddSt (tOp rAddSt (tSl rSlS (tVar 2) tNoPart (tPart (tVar 3))) (tCall (sp_one K) [] E0 (tCons (tVar 0) (tCons (tLst (tCons (tC (.str "A")) (tCons (tC (.str "Z")) (tCons (tC (.str "0")) (tCons (tC (.str "9")) (tCons (tC (.str " ")) (tCons (tC (.str "_")) (tCons (tC (.str "\n")) (tCons (tC (.str ";")) (tCons (tC (.str "-")) tNil)))))))))) tNil)))) (tSl rSlS (tVar 2) (tPart (tVar 3)) tNoPart)))) tNext) (tSeq (tIfS (tTest (tOp rEq (tVar 1) (tC (.int 2)))) (tRet (tOp rAddSt (tCall (sp_one K) [] E0 (tCons (tVar 0) (tCons (tCall sp_reserved [] E0 tNil) tNil))) (tSl rSlS (tVar 2) tNoPart (tPart (tC (.int 1)))))) tNext) (tRet (tIf (tTest (tOp rLtI (tVar 1) (tC (.int 5)))) (tVar 2) (tSl rSlS (tVar 2) tNoPart (tPart (tC (.int 8))))))))))
/-- 0 _law_text, 1 _law_odd, 2 _law_sign -/
def t__law_is_word (K : PySem.W.Frag) : TS := tSeq (tAsg (tLc (iStr (tVar 0)) (gName 2) (tTest (tOp rNotInSign (tVar 2) (tC (.str "abcdefghijklmnopqrstuvwxyz")))) (tVar 2) [2]) (gName 1)) (tRet (tAndV (tChain rLeI rLeI (tC (.int 1)) (tCB rLenStr (tCons (tVar 0) tNil)) (tC (.int 8))) (tAndV (tOp (rEqD K) (tVar 1) (tLst tNil)) (tOp (rIn K true) (tVar 0) (tCall sp_reserved [] E0 tNil)))))
/-- 0 _law_text, 1 _law_heads, 2 _law_head -/
def t__law_is_key (K : PySem.W.Frag) : TS := tSeq (tAsg (tLc (iList K (tLst (tCons (tC (.str "method ")) (tCons (tC (.str "getter ")) (tCons (tC (.str "setter ")) tNil))))) (gName 2) (tB (tM1 rStarts (tVar 0) (tVar 2))) (tVar 2) [2]) (gName 1)) (tRet (tOrV (tOp rEq (tVar 0) (tC (.str "init"))) (tAndV (tOp (rNeD K) (tVar 1) (tLst tNil)) (tCall sp_law_is_word [] E0 (tCons (tSl rSlS (tVar 0) (tPart (tC (.int 7))) tNoPart) tNil)))))
/-- 0 _law_script, 1 _law_odd, 2 _law_value, 3 _law_at, 4 _law_bag_here, 5 _law_turn, 6 _law_text, 7 _law_heads, 8 _law_key, 9 _law_each, 10 _law_found -/
def t_law (K : PySem.W.Frag) : TS := tSeq (tAsg (tLst (tCons (tC .non) (tCons (tC (.bl true)) (tCons (tC (.bl false)) (tCons (tC (.int 0)) (tCons (tC (.int 7)) (tCons (tUn rNegI (tC (.int 3))) (tCons (tC (.str "")) (tCons (tTup tNil) (tCons (tTup (tCons (tC (.str "init")) tNil)) (tCons (tLst (tCons (tC (.str "init")) tNil)) (tCons (tLst (tCons (tC (.str "method")) (tCons (tC (.str "a")) tNil))) (tCons (tTup (tCons (tC (.str "a")) tNil)) (tCons (tLst (tCons (tLst tNil) tNil)) (tCons (tC (.str " ")) (tCons (tC (.str "init ")) tNil)))))))))))))))) (gName 1)) (tSeq (tFor (iList K (tVar 1)) (gName 2) (tIfS (tOr (tTest (tOp rIsNotBl (tCall (sp_is_word K) [] E0 (tCons (tVar 2) tNil)) (tC (.bl false)))) (tTest (tOp rIsNotBl (tCall (sp_is_key K) [] E0 (tCons (tVar 2) tNil)) (tC (.bl false))))) (tRet (tC (.bl false))) tNext)) (tSeq (tFor (iRng1 (tCons (tCB rMaxI2 (tCons (tC (.int 1)) (tCons (tCB rMinI2 (tCons (tC (.int 20)) (tCons (tCB (rLenSq K) (tCons (tVar 0) tNil)) tNil))) tNil))) tNil)) (gName 3) (tSeq (tAsg (tCall (sp_bag K) [] E0 (tCons (tVar 0) (tCons (tVar 3) tNil))) (gName 4)) (tFor (iRng1 (tCons (tC (.int 4)) tNil)) (gName 5) (tSeq (tAsg (tCall sp_some [] E0 (tCons (tVar 4) tNil)) (gName 6)) (tSeq (tAsg (tLst (tCons (tC (.str "")) (tCons (tC (.str "init")) (tCons (tC (.str "method ")) (tCons (tC (.str "getter ")) (tCons (tC (.str "setter ")) (tCons (tC (.str "method")) (tCons (tC (.str "init ")) (tCons (tC (.str "Getter ")) (tCons (tC (.str "setter  ")) (tCons (tC (.str " method ")) tNil))))))))))) (gName 7)) (tSeq (tAsg (tOp rAddSt (tCall (sp_one K) [] E0 (tCons (tVar 4) (tCons (tOp rCat (tVar 7) (tLst (tCons (tC (.str "set ")) (tCons (tC (.str "class ")) tNil)))) tNil))) (tCall sp_some [] E0 (tCons (tVar 4) tNil))) (gName 8)) (tFor (iList K (tLst (tCons (tVar 6) (tCons (tVar 8) (tCons (tC (.str "init")) (tCons (tOp rAddSt (tC (.str "method ")) (tVar 6)) (tCons (tOp rAddSt (tC (.str "getter ")) (tVar 6)) (tCons (tOp rAddSt (tC (.str "setter ")) (tVar 6)) (tCons (tOp rAddSt (tVar 6) (tC (.str " "))) tNil))))))))) (gName 9) (tSeq (tAsg (tTup (tCons (tCall (sp_is_word K) [] E0 (tCons (tVar 9) tNil)) (tCons (tCall (sp_is_key K) [] E0 (tCons (tVar 9) tNil)) tNil))) (gName 10)) (tSeq (tIfS (tTest (tOp (rNeD K) (tVar 10) (tTup (tCons (tCall sp_law_is_word [] E0 (tCons (tVar 9) tNil)) (tCons (tCall sp_law_is_key [] E0 (tCons (tVar 9) tNil)) tNil))))) (tRet (tC (.bl false))) tNext) (tIfS (tOr (tNot (tB (tCB (rIsi K) (tCons (tOp (rIxT K) (tVar 10) (tC (.int 0))) (tCons (tC (.ty "bool")) tNil))))) (tNot (tB (tCB (rIsi K) (tCons (tOp (rIxT K) (tVar 10) (tC (.int 1))) (tCons (tC (.ty "bool")) tNil)))))) (tRet (tC (.bl false))) tNext)))))))))) (tRet (tC (.bl true)))))
end Ef

namespace Ef
open PySem PySem.Spec PyProof.Rows L2 Evl
section
variable {K : PySem.W.Frag}
theorem Bag.none {H : Hp} {b : Addr} (h : Bag H b) : H b ≠ none := by
  obtain ⟨x, s, e, _⟩ := h
  rw [e]; exact fun z => nomatch z
theorem Le.refl {b : Addr} {H : Hp} : Le b H H := ⟨fun _ _ _ e => e, fun h => h⟩
theorem Le.trans {b : Addr} {H H1 H2 : Hp} (x : Le b H H1) (y : Le b H1 H2) : Le b H H2 := ⟨fun a o n e => y.keep a o n (x.keep a o n e), fun h => y.bag (x.bag h)⟩
theorem Le.of {b : Addr} {H H1 : Hp} (x : Evl.Ex H H1) : Le b H H1 := ⟨fun a o _ e => x a o e, fun ⟨u, s, e, r⟩ => ⟨u, s, x _ _ e, r⟩⟩
theorem Le.back {b : Addr} {H H1 : Hp} (x : Le b H H1) (hb : Bag H b) {p : Addr} (h : H1 p = .none) : H p = .none := by
  by_cases e : p = b
  · subst e; exact absurd h (x.bag hb).none
  · cases q : H p with
    | none => rfl
    | some o => rw [x.keep p o e q] at h; cases h
theorem Le.sql {b a : Addr} {H H1 : Hp} {xs : List V} (x : Le b H H1) (n : a ≠ b) (h : SqL K H a xs) : SqL K H1 a xs := by
  rcases h with (h | ⟨o, h⟩) | h
  · exact .inl (.inl (x.keep _ _ n h))
  · exact .inl (.inr ⟨o, x.keep _ _ n h⟩)
  · exact .inr h
theorem len_spText1 {f : Str → Bool} {vs : List V} {H : Hp} {Q : VK} {E : XK} (h : spText1 f vs H Q E) : vs.length = 1 := by
  obtain ⟨z, rfl, _⟩ := h; rfl
theorem len_spAsk {f : Str → Bool} {vs : List V} {H : Hp} {Q : VK} {E : XK} (h : spAsk K f vs H Q E) : vs.length = 1 := by
  obtain ⟨z, b, rfl, _⟩ := h; rfl
theorem inV_strs (z : Str) : ∀ ys : List Str, inV (.str z) (ys.map V.str) = decide (z ∈ ys)
  | [] => by simp [inV]
  | y :: r => by
    have ih := inV_strs z r
    unfold inV at ih ⊢
    rw [List.map_cons, List.any_cons, ih]
    by_cases e : z = y
    · subst e; simp [eqV]
    · have e2 : ¬ y = z := fun q => e q.symm
      simp [eqV, e, e2]
theorem flat_strs : ∀ ys : List Str, (ys.map V.str).all flatV = true
  | [] => rfl
  | y :: r => by rw [List.map_cons, List.all_cons, flat_strs r]; rfl
theorem filter_true {α : Type} (l : List α) : l.filter (fun _ => true) = l := by simp
theorem et_yes {σ : L2.St} {H : Hp} : EvT tYes σ H true := fun H1 _ _ q => q H1 (Evl.Ex.refl H1)
theorem pure_fits_word (hR : ∀ H, SqT K H (He.ga K "RESERVED") (reserved.map V.str)) (vs : List V) (H : Hp) (Q : VK) (E : XK) (h : sp_fits_word vs H Q E) : t_fits_word K { nx := fun _ H' => Q .non H', rt := Q } (start ["token", "sign"] vs) H := by
  obtain ⟨z, rfl, hl, k⟩ := h
  have hv : ∀ G, Ev (tVar 0) (start ["token", "sign"] [.str z]) G (.str z) := fun G => ev_var rfl
  refine q_when (et_or (et_not (et_test (ev_chain2 (r := rLeI) (r' := rLeI) ev_c (ev_lenStr (hv H) hl) ev_c rv_I0 rv_I0))) fun _ => et_test (ev_op (hv H) ev_c (rv_isT (hR H) rfl (flat_strs _)))) (fun e H1 x1 => ?_) (fun e H1 x1 => ?_)
  · refine s_ret ev_c fun H2 x2 => ?_
    have : fitsW z = false := by
      unfold fitsW
      rw [inV_strs] at e
      simp only [Bool.or_eq_true, Bool.not_eq_true', Bool.and_eq_false_iff, decide_eq_false_iff_not, decide_eq_true_eq] at e
      rcases e with (e | e) | e
      · rw [decide_eq_false (by omega)]; rfl
      · rw [decide_eq_false (p := z.length ≤ 8) (by omega)]; simp
      · rw [decide_eq_true e]; simp
    have kk := k H2 (x1.trans x2)
    rw [this] at kk
    exact kk
  · rw [inV_strs] at e
    simp only [Bool.or_eq_false_iff, Bool.not_eq_false', Bool.and_eq_true, decide_eq_false_iff_not, decide_eq_true_eq] at e
    obtain ⟨⟨e1, e2⟩, e3⟩ := e
    refine s_ret (ev_all (bs := z.cps.toList.map fun c => decide (c ∈ smalls.cps.toList)) ?_) fun H2 x2 => ?_
    · have z1 : ((z.cps.toList.map fun c => decide (c ∈ smalls.cps.toList)).map V.bl) = ((z.cps.toList.filter fun _ => true).map fun c => V.bl (decide (c ∈ smalls.cps.toList))) := by
        rw [filter_true, List.map_map]; rfl
      rw [z1]
      exact el_lcS (fun _ => true) (fun c => V.bl (decide (c ∈ smalls.cps.toList))) (hv H1) (by omega) (fun _ => rfl) (fun c => et_yes) (fun c _ => ev_op (ev_var rfl) ev_c rv_inSign)
    · have : fitsW z = (List.map (fun c => decide (c ∈ smalls.cps.toList)) z.cps.toList).all id := by
        unfold fitsW
        rw [decide_eq_true (show 1 ≤ z.length by omega), decide_eq_true (show z.length ≤ 8 by omega), decide_eq_false e3, List.all_map]
        simp
      have kk := k H2 (x1.trans x2)
      rw [this] at kk
      exact kk
theorem tyx_ex {H H1 : Hp} (e : Evl.Ex H H1) {x : V} {t : Value} (h : TyX K H x t) : TyX K H1 x t := by
  cases h with
  | base h => cases h with
    | non => exact .base .non
    | bl b => exact .base (.bl b)
    | int i => exact .base (.int i)
    | str z => exact .base (.str z)
    | flt z => exact .base (.flt z)
    | lst q => exact .base (.lst (e _ _ q))
    | frz q => exact .base (.frz (e _ _ q))
    | tup q => exact .base (.tup (e _ _ q))
    | dK q => exact .base (.dK (e _ _ q))
    | dT q => exact .base (.dT (e _ _ q))
    | ins q a b c d f => exact .base (.ins (e _ _ q) a b c d f)
  | byt b => exact .byt b
  | set q => exact .set (e _ _ q)
  | kList a b => exact .kList a b
  | kTuple a b => exact .kTuple a b
  | kDict a b => exact .kDict a b
  | fTuple q => exact .fTuple (e _ _ q)
  | fDict q => exact .fDict (e _ _ q)
theorem isi_str {H : Hp} {σ : L2.St} {te : TE} {z : Str} (hx : Ev te σ H (.str z)) : Ev (tCB (rIsi K) (tCons te (tCons (tC (.ty "str")) tNil))) σ H (.bl true) :=
  ev_isi (tv := .type "str") hx (fun _ _ => .base (.str z)) (kit_ty (by decide +kernel))
theorem isi_not {H : Hp} {σ : L2.St} {te : TE} {x : V} (h : NotStr K H x) (hx : Ev te σ H x) : Ev (tCB (rIsi K) (tCons te (tCons (tC (.ty "str")) tNil))) σ H (.bl false) := by
  obtain ⟨t, ht, hk⟩ := h
  exact ev_isi (tv := .type t) hx (fun _ e => tyx_ex e ht) (kit_ty hk)
theorem pure_is_word (vs : List V) (H : Hp) (Q : VK) (E : XK) (h : sp_is_word K vs H Q E) : t_is_word K { nx := fun _ H' => Q .non H', rt := Q } (start ["value"] vs) H := by
  obtain ⟨x, b, rfl, ha, k⟩ := h
  have hv : ∀ G, Ev (tVar 0) (start ["value"] [x]) G x := fun G => ev_var rfl
  rcases ha with ⟨z, rfl, hl, rfl⟩ | ⟨hn, rfl⟩
  · refine s_ret (v := .bl (fitsW z)) (ev_is (ev_andV (isi_str (hv H)) fun _ => ev_call (ea_cons (hv H) ea_nil) ?_) (by rw [Bool.true_and])) k
    exact fun H1 e Q q _ => ⟨z, rfl, hl, fun H' e' => q H' e'⟩
  · exact s_ret (v := .bl false) (ev_andV (b := false) (isi_not hn (hv H)) fun e => by cases e) k
theorem pure_is_key (vs : List V) (H : Hp) (Q : VK) (E : XK) (h : sp_is_key K vs H Q E) : t_is_key K { nx := fun _ H' => Q .non H', rt := Q } (start ["value", "kind", "blank", "word"] vs) H := by
  obtain ⟨x, b, rfl, ha, k⟩ := h
  have hv : ∀ G, Ev (tVar 0) (start ["value", "kind", "blank", "word"] [x]) G x := fun G => ev_var rfl
  rcases ha with ⟨z, rfl, hl, rfl⟩ | ⟨hn, rfl⟩
  · refine q_when (et_not (et_B (isi_str (hv H)))) (fun e => by cases e) (fun _ H1 x1 => ?_)
    refine ⟨_, rfl, ⟨z, rfl⟩, z, " ", rfl, rfl, by decide +kernel, sz_of hl, fun p hp => ?_⟩
    have xp : Evl.Ex H (upd H1 p (.tup [.str (Txt.partition z " ").1, .str (Txt.partition z " ").2.1, .str (Txt.partition z " ").2.2])) := x1.trans (Evl.Ex.new hp)
    refine ⟨p, _, rfl, st_of upd_same, rfl, _, _, rfl, _, _, rfl, _, _, rfl, rfl, ?_⟩
    by_cases hb : 32 ∈ TL.tl z
    · obtain ⟨a, w, rfl, ha⟩ := str_split z hb
      have e1 : Txt.partition (a ++ " " ++ w) " " = (a, (" " : Str), w) := TL.partition_app (y := " ") (s := 32) (S := []) tl_blank ha
      rw [e1] at xp ⊢
      have lw : w.length ≤ 100000 := by
        rw [TL.len_tl, TL.tl_append, TL.tl_append, List.length_append, List.length_append] at hl
        rw [TL.len_tl]; omega
      refine q_when (et_test (ev_op (ev_var rfl) ev_c (rv_eq rfl))) (fun e => ?_) (fun _ H2 x2 => ?_)
      · exfalso
        have := of_decide_eq_true e
        exact absurd (show (" " : Str) = "" from V.str.inj this) (by decide +kernel)
      · refine s_ret (v := .bl (fitsK (a ++ " " ++ w))) (ev_is (ev_andV (b := fitsW w) (ev_inU (ev_var rfl) (eu_tup (ea_cons ev_c (ea_cons ev_c (ea_cons ev_c ea_nil))) (by decide)) rfl rfl) fun _ => ev_call (ea_cons (ev_var rfl) ea_nil) ?_) ?_) fun H3 x3 => k H3 ((xp.trans x2).trans x3)
        · exact fun H1 e Q q _ => ⟨w, rfl, lw, fun H' e' => q H' e'⟩
        · rw [fitsK_app ha]
          have : inV (V.str a) [V.str "method", V.str "getter", V.str "setter"] = decide (a ∈ (["method", "getter", "setter"] : List Str)) := inV_strs a ["method", "getter", "setter"]
          rw [this]
    · have e1 : Txt.partition z " " = (z, Str.empty, Str.empty) := TL.partition_none (y := " ") (s := 32) (S := []) tl_blank hb
      rw [e1] at xp ⊢
      refine q_when (et_test (ev_op (ev_var rfl) ev_c (rv_eq rfl))) (fun _ H2 x2 => ?_) (fun e => ?_)
      · refine s_ret (v := .bl (fitsK z)) (ev_is (ev_op (ev_var rfl) ev_c (rv_eq rfl)) ?_) fun H3 x3 => k H3 ((xp.trans x2).trans x3)
        rw [fitsK_none hb]
        congr 1
        by_cases q : z = "init"
        · rw [decide_eq_true q, q]; rfl
        · rw [decide_eq_false q, decide_eq_false fun w => q (V.str.inj w)]
      · exfalso
        exact absurd rfl (of_decide_eq_false e)
  · refine q_when (et_not (et_B (isi_not hn (hv H)))) (fun _ H1 x1 => s_ret ev_c fun H2 x2 => k H2 (x1.trans x2)) (fun e => by cases e)
end
end Ef

namespace Ef
open PySem PySem.Spec PyProof.Rows L2 Evl
section
variable {K : PySem.W.Frag}
theorem len__law_bag {vs : List V} {H : Hp} {Q : VK} {E : XK} (h : sp_bag K vs H Q E) : vs.length = 2 := by
  obtain ⟨a, ns, i, rfl, _⟩ := h; rfl
theorem len__law_draw {vs : List V} {H : Hp} {Q : VK} {E : XK} (h : sp_draw vs H Q E) : vs.length = 2 := by
  obtain ⟨a, m, rfl, _⟩ := h; rfl
theorem len__law_one {vs : List V} {H : Hp} {Q : VK} {E : XK} (h : sp_one K vs H Q E) : vs.length = 2 := by
  obtain ⟨a, l, m, rfl, _⟩ := h; rfl
theorem len_spDrawn {n : Nat} {vs : List V} {H : Hp} {Q : VK} {E : XK} (h : spDrawn n vs H Q E) : vs.length = 1 := by
  obtain ⟨a, rfl, _⟩ := h; rfl
theorem cmul_l {i j : Int} (h : 0 ≤ i) (h2 : i ≤ 1000000000000) : CMul i j := .inl ⟨by omega, by omega⟩
theorem ev_ix {σ : L2.St} {H : Hp} {ta tb : TE} {a : Addr} {xs : List V} {i : Int} {v : V} (h1 : Ev ta σ H (.ref a)) (h2 : Ev tb σ H (.int i)) (hs : SqL K H a xs) (hi : atI xs i = some v) : Ev (tOp (rIxL K) ta tb) σ H v := ev_op h1 h2 (rv_ixL hs hi)
theorem ev_ixT {σ : L2.St} {H : Hp} {ta tb : TE} {a : Addr} {xs : List V} {i : Int} {v : V} (h1 : Ev ta σ H (.ref a)) (h2 : Ev tb σ H (.int i)) (hs : SqT K H a xs) (hi : atI xs i = some v) : Ev (tOp (rIxT K) ta tb) σ H v := ev_op h1 h2 (rv_ixT hs hi)
theorem atI_int {ns : List Int} {i : Int} (h0 : 0 ≤ i) (h1 : i < ns.length) : ∃ c, atI (ns.map V.int) i = some (.int c) := by
  obtain ⟨j, rfl⟩ := Int.eq_ofNat_of_zero_le h0
  have hj : j < ns.length := by omega
  refine ⟨ns[j], atI_nat ?_⟩
  rw [List.getElem?_map, List.getElem?_eq_getElem hj]; rfl
theorem pure__law_bag (vs : List V) (H : Hp) (Q : VK) (E : XK) (h : sp_bag K vs H Q E) : t__law_bag K { nx := fun _ H' => Q .non H', rt := Q } (start ["_law_script", "_law_at", "_law_cell", "_law_seed", "_law_turn", "_law_each"] vs) H := by
  obtain ⟨a, ns, i, rfl, hS, hlen, i0, i1, k⟩ := h
  have hlen2 : (ns.map V.int).length = ns.length := List.length_map ..
  -- cell
  obtain ⟨c, hc⟩ : ∃ c : Int, Ev (tIf (tTest (tOp rLtI (tVar 1) (tCB (rLenSq K) (tCons (tVar 0) tNil)))) (tOp (rIxL K) (tVar 0) (tVar 1)) (tC (.int 0))) (start ["_law_script", "_law_at", "_law_cell", "_law_seed", "_law_turn", "_law_each"] [.ref a, .int i]) H (.int c) := by
    by_cases hi : i < ns.length
    · obtain ⟨c, hc⟩ := atI_int (ns := ns) i0 hi
      refine ⟨c, ev_if (et_test (ev_op (ev_var rfl) (ev_lenSq (ev_var rfl) (.inl hS)) rv_I0)) (fun _ => ev_ix (ev_var rfl) (ev_var rfl) hS hc) (fun e => ?_)⟩
      rw [hlen2] at e
      exact absurd hi (of_decide_eq_false e)
    · refine ⟨0, ev_if (et_test (ev_op (ev_var rfl) (ev_lenSq (ev_var rfl) (.inl hS)) rv_I0)) (fun e => ?_) (fun _ => ev_c)⟩
      rw [hlen2] at e
      exact absurd (of_decide_eq_true e) hi
  refine q_asg hc fun H1 x1 => ?_
  refine q_asg (ev_add (ev_mul ev_c (ev_var rfl) (cmul_l (by decide) (by decide))) ev_c) fun H2 x2 => ?_
  -- the walk
  refine ⟨_, rfl, 63, rfl, a, _, rfl, ex_l (x1.trans x2) hS, fun p hp => ?_⟩
  have x3 : Evl.Ex H (upd H2 p (.lst (cutV (ns.map V.int) none (some 63)))) := (x1.trans x2).trans (Evl.Ex.new hp)
  have hp0 : H p = none := fresh_back (x1.trans x2) hp
  have hcut : ∃ ms : List Int, cutV (ns.map V.int) none (some 63) = ms.map V.int := ⟨(ns.drop (HT.sIx (ns.map V.int).length 0 none)).take (HT.sIx (ns.map V.int).length (ns.map V.int).length (some 63) - HT.sIx (ns.map V.int).length 0 none), by
    unfold cutV; rw [List.map_take, List.map_drop]⟩
  obtain ⟨ms, hms⟩ := hcut
  have hml : ms.length ≤ 63 := by
    have q := cutV_length (ns.map V.int) none (some 63)
    rw [hms, List.length_map, List.length_map] at q
    omega
  refine ⟨p, _, rfl, sq_of upd_same, ?_⟩
  refine for_it (walk_enum (xs := ms.map V.int)) (fun i' σ G => ∃ (s : Int) (v4 v5 : Option V), σ = [some (.ref a), some (.int i), some (.int c), some (.int s), v4, v5] ∧ 0 ≤ s ∧ s ≤ 2147483647 ∧ Evl.Ex H G ∧ G p = some (.lst (ms.map V.int)))
    ⟨6151 * i + 389, none, none, rfl, by omega, by omega, x3, by rw [upd_same, hms]⟩ ?_ ?_ ?_
  · rintro i' σ G hi ⟨s, v4, v5, rfl, s0, s1, xg, hg⟩
    exact sq_of hg
  · rintro i' x σ G G' hi ⟨s, v4, v5, rfl, s0, s1, xg, hg⟩ ⟨T, y1, y2, rfl, nT, rfl, e4, e5⟩
    rw [List.length_map] at hi
    have e6 : y1 = .int (i' : Nat) := (Option.some.inj e4).symm
    have e7 : ∃ m : Int, y2 = .int m := by
      have e5 : (List.map V.int ms)[i']? = some y2 := e5
      rw [List.getElem?_map, List.getElem?_eq_getElem hi] at e5
      exact ⟨_, (Option.some.inj e5).symm⟩
    obtain ⟨m, rfl⟩ := e7
    subst e6
    have xT : Evl.Ex G (upd G T (.tup [.int (i' : Nat), .int m])) := Evl.Ex.new nT
    refine ⟨T, _, rfl, st_of upd_same, rfl, _, _, rfl, _, _, rfl, rfl, ?_⟩
    refine s_asg (ev_mod (ev_intOf (ev_add (ev_add (ev_mul (ev_var rfl) ev_c (cmul_l s0 (by omega))) (ev_mod (ev_intOf (ev_var rfl)) ev_c (by decide))) (ev_mul ev_c (ev_var rfl) (cmul_l (by decide) (by decide))))) ev_c (by decide)) fun G2 x2 => ?_
    refine ⟨_, _, _, rfl, ?_, ?_, (xg.trans xT).trans x2, x2 _ _ (xT _ _ hg)⟩
    · exact Int.emod_nonneg _ (by decide)
    · have := Int.emod_lt_of_pos (s * 39373 + m % 2147483579 + 57 * (i' : Int)) (show (0 : Int) < 2147483423 by decide)
      omega
  · rintro σ G ⟨s, v4, v5, rfl, s0, s1, xg, hg⟩
    obtain ⟨n, hn0, hn⟩ : ∃ n : Int, 0 ≤ n ∧ Ev (tIf (tTest (tOp rGeI (tCB rAbsI (tCons (tVar 2) tNil)) (tOp rPowI (tC (.int 10)) (tC (.int 18))))) (tCB rAbsI (tCons (tVar 2) tNil)) (tC (.int 0))) [some (.ref a), some (.int i), some (.int c), some (.int s), v4, v5] G (.int n) := by
      have ht : EvT (tTest (tOp rGeI (tCB rAbsI (tCons (tVar 2) tNil)) (tOp rPowI (tC (.int 10)) (tC (.int 18))))) [some (.ref a), some (.int i), some (.int c), some (.int s), v4, v5] G (decide ((10 : Int) ^ (18 : Int).toNat ≤ (if c < 0 then -c else c))) :=
        et_test (ev_op (ev_abs (ev_var rfl)) (ev_pow ev_c ev_c ⟨by decide, by decide, by decide⟩) rv_I0)
      by_cases q : (10 : Int) ^ (18 : Int).toNat ≤ (if c < 0 then -c else c)
      · refine ⟨if c < 0 then -c else c, by split <;> omega, ev_if ht (fun _ => ev_abs (ev_var rfl)) (fun e => absurd q (of_decide_eq_false e))⟩
      · exact ⟨0, by decide, ev_if ht (fun e => absurd (of_decide_eq_true e) q) (fun _ => ev_c)⟩
    refine s_retL (el_lst (ea_cons hn (ea_cons (ev_var rfl) ea_nil)) (by show 2 ≤ 100000; decide)) fun b G2 hb x2 h2 => ?_
    exact k G2 b (xg.trans x2) (fresh_back xg hb) ⟨n, s, h2, hn0, s0, by omega⟩
theorem atI0 (x y : V) : atI [x, y] 0 = some x := rfl
theorem atI1 (x y : V) : atI [x, y] 1 = some y := rfl
theorem pure__law_draw (vs : List V) (H : Hp) (Q : VK) (E : XK) (h : sp_draw vs H Q E) : t__law_draw K { nx := fun _ H' => Q .non H', rt := Q } (start ["_law_bag_here", "_law_many", "_law_digit"] vs) H := by
  obtain ⟨b, m, rfl, ⟨x, s, hb, x0, s0, s1⟩, m0, m1, k⟩ := h
  have hq : SqL K H b [.int x, .int s] := sq_of hb
  have le : ∀ (G : Hp) (x' s' : Int), Evl.Ex H G → 0 ≤ x' → 0 ≤ s' → s' < 2147483648 → Le b H (upd G b (.lst [.int x', .int s'])) := fun G x' s' e h1 h2 h3 =>
    ⟨fun a o n q => by rw [upd_ne n]; exact e a o q, fun _ => ⟨x', s', upd_same, h1, h2, h3⟩⟩
  refine q_when (et_test (ev_op (ev_ix (ev_var rfl) ev_c hq (atI0 _ _)) ev_c rv_I0)) (fun e H1 x1 => ?_) (fun e H1 x1 => ?_)
  · refine q_asg (ev_mod (ev_intOf (ev_ix (ev_var rfl) ev_c (ex_l x1 hq) (atI0 _ _))) (ev_var rfl) m0) fun H2 x2 => ?_
    refine q_setL (j := 0) (x2 _ _ (x1 _ _ hb)) (ev_divW (ev_ix (ev_var rfl) ev_c (ex_l (x1.trans x2) hq) (atI0 _ _)) (ev_var rfl) ⟨m0, ?_⟩) (ev_var rfl) ev_c (by show 0 < 2; decide) fun H3 x3 => ?_
    · have : m.natAbs ≤ 10 ^ 30 := by omega
      have h2 : m.natAbs.log2 ≤ (10 ^ 30 : Nat).log2 := by
        rcases Nat.eq_zero_or_pos m.natAbs with z | z
        · rw [z]; decide
        · exact (Nat.le_log2 (by decide)).mpr (Nat.le_trans (Nat.log2_self_le (by omega)) this)
      exact Nat.lt_of_le_of_lt h2 (by decide)
    · refine s_ret (ev_var rfl) fun H4 x4 => ?_
      have l1 := le H3 (x / m) s ((x1.trans x2).trans x3) (Int.ediv_nonneg x0 (Int.le_of_lt m0)) s0 s1
      exact k H4 (x % m) (l1.trans (Le.of x4)) (Int.emod_nonneg _ (by omega)) (Int.emod_lt_of_pos _ m0)
  · refine q_setL (j := 1) (x1 _ _ hb) (ev_mod (ev_intOf (ev_add (ev_mul (ev_ix (ev_var rfl) ev_c (ex_l x1 hq) (atI1 _ _)) ev_c (cmul_l s0 (by omega))) ev_c)) ev_c (by decide)) (ev_var rfl) ev_c (by show 1 < 2; decide) fun H2 x2 => ?_
    have t0 := Int.emod_nonneg (s * 69621 + 40503) (show (2147483647 : Int) ≠ 0 by decide)
    have t1 := Int.emod_lt_of_pos (s * 69621 + 40503) (show (0 : Int) < 2147483647 by decide)
    generalize (s * 69621 + 40503) % 2147483647 = s2 at t0 t1 ⊢
    have hq2 : SqL K (upd H2 b (.lst [.int x, .int s2])) b [.int x, .int s2] := sq_of upd_same
    have l1 := le H2 x s2 (x1.trans x2) x0 t0 (by omega)
    refine s_ret (ev_mod (ev_div (ev_mod (ev_intOf (ev_mul (ev_div (ev_ix (ev_var rfl) ev_c hq2 (atI1 _ _)) ev_c ⟨by decide, by decide⟩) ev_c (cmul_l (by omega) (by omega)))) ev_c (by decide)) ev_c ⟨by decide, by decide⟩) (ev_var rfl) m0) fun H4 x4 => ?_
    exact k H4 _ (l1.trans (Le.of x4)) (Int.emod_nonneg _ (by omega)) (Int.emod_lt_of_pos _ m0)
end
end Ef

namespace Ef
open PySem PySem.Spec PyProof.Rows L2 Evl
section
variable {K : PySem.W.Frag}
theorem len__law_reserved {vs : List V} {H : Hp} {Q : VK} {E : XK} (h : sp_reserved vs H Q E) : vs.length = 0 := by
  obtain ⟨rfl, _⟩ := h; rfl
theorem pure__law_one (vs : List V) (H : Hp) (Q : VK) (E : XK) (h : sp_one K vs H Q E) : t__law_one K { nx := fun _ H' => Q .non H', rt := Q } (start ["_law_bag_here", "_law_some_here"] vs) H := by
  obtain ⟨b, l, xs, rfl, hb, nb, hS, hn, hl, k⟩ := h
  have hpos : 0 < xs.length := List.length_pos_iff.mpr hn
  refine ⟨_, rfl, _, rfl, _, rfl, l, xs, rfl, .inl hS, b, _, rfl, hb, by omega, by omega, fun H1 d le d0 d1 => ?_⟩
  obtain ⟨j, rfl⟩ := Int.eq_ofNat_of_zero_le d0
  have hj : j < xs.length := by omega
  exact ⟨l, xs, (j : Int), xs[j], rfl, rfl, le.sql nb hS, atI_nat (List.getElem?_eq_getElem hj), k H1 _ le (List.getElem_mem hj)⟩
theorem split_words : Txt.split ("class shared promise value init method getter setter chained final set keep read " ++ "look call super of make fail try catch if else either or loop" : Str) " " = reserved := by decide +kernel
theorem pure__law_reserved (vs : List V) (H : Hp) (Q : VK) (E : XK) (h : sp_reserved vs H Q E) : t__law_reserved K { nx := fun _ H' => Q .non H', rt := Q } (start ["_law_some_here", "_law_more"] vs) H := by
  obtain ⟨rfl, k⟩ := h
  refine ⟨_, rfl, _, rfl, _, _, rfl, rfl, by decide +kernel, ⟨_, rfl⟩, _, _, rfl, rfl, by decide +kernel, by decide +kernel, fun p hp => ?_⟩
  rw [split_words]
  exact k _ p (Evl.Ex.new hp) hp upd_same
theorem ev_ixS {σ : L2.St} {H : Hp} {ta tb : TE} {z : Str} {i : Int} {c : Nat} (h1 : Ev ta σ H (.str z)) (h2 : Ev tb σ H (.int i)) (hz : z.length ≤ 100000) (hi : atI z.cps.toList i = some c) : Ev (tOp rIxS ta tb) σ H (.str ⟨#[c]⟩) := ev_op h1 h2 (rv_ixS hz hi)
theorem len_app (a b : Str) : (a ++ b).length = a.length + b.length := by
  rw [TL.len_tl, TL.len_tl, TL.len_tl, TL.tl_append, List.length_append]
theorem smalls_len : (TL.tl ("abcdefghijklmnopqrstuvwxyz" : Str)).length = 26 := by decide +kernel
instance (z : Str) : Decidable (Asc z) := by unfold Asc; infer_instance
theorem asc_app {a b : Str} (ha : Asc a) (hb : Asc b) : Asc (a ++ b) := fun c hc => by
  have : c ∈ TL.tl (a ++ b) := hc
  rw [TL.tl_append] at this
  rcases List.mem_append.mp this with q | q
  · exact ha c q
  · exact hb c q
theorem asc_one {c : Nat} (h : c < 128) : Asc ⟨#[c]⟩ := fun d hd => by
  have : d ∈ [c] := hd
  rw [List.mem_singleton.mp this]; exact h
theorem asc_smalls : Asc "abcdefghijklmnopqrstuvwxyz" := by unfold Asc; decide +kernel
theorem asc_cut {z : Str} (h : Asc z) (lo hi : Option Int) : Asc (cutS z lo hi) := fun c hc => by
  have : c ∈ ((z.cps.toList.drop (HT.sIx z.length 0 lo)).take (HT.sIx z.length z.length hi - HT.sIx z.length 0 lo)) := hc
  exact h c (List.mem_of_mem_drop (List.mem_of_mem_take this))
theorem pure__law_letters (vs : List V) (H : Hp) (Q : VK) (E : XK) (h : sp_letters vs H Q E) : t__law_letters K { nx := fun _ H' => Q .non H', rt := Q } (start ["_law_bag_here", "_law_found", "_law_turn"] vs) H := by
  obtain ⟨b, rfl, hb, k⟩ := h
  refine q_asg ev_c fun H1 x1 => ?_
  have l1 : Le b H H1 := Le.of x1
  refine ⟨_, rfl, b, 10, rfl, l1.bag hb, by decide, by decide, fun H2 d l2 d0 d1 => ?_⟩
  refine ⟨_, _, rfl, rfl, _, rfl, by omega, by omega, ?_⟩
  refine for_range (lo := 0) (n := (1 + d).toNat) (fun i σ G => ∃ (z : Str) (v2 : Option V), σ = [some (.ref b), some (.str z), v2] ∧ z.length ≤ i ∧ Asc z ∧ Le b H G) ⟨"", none, rfl, by decide +kernel, by unfold Asc; decide +kernel, l1.trans l2⟩ ?_ ?_
  · rintro i σ G hi ⟨z, v2, rfl, hz, az, lg⟩
    refine ⟨_, rfl, _, rfl, b, 26, rfl, lg.bag hb, by decide, by decide, fun G2 d' l2' d0' d1' => ?_⟩
    obtain ⟨j, rfl⟩ := Int.eq_ofNat_of_zero_le d0'
    have hj : j < (TL.tl ("abcdefghijklmnopqrstuvwxyz" : Str)).length := by rw [smalls_len]; omega
    refine ⟨_, (j : Int), _, rfl, rfl, by decide +kernel, atI_nat (List.getElem?_eq_getElem hj), _, _, rfl, rfl, ?_, ?_⟩
    · have : (⟨#[(TL.tl ("abcdefghijklmnopqrstuvwxyz" : Str))[j]]⟩ : Str).length = 1 := rfl
      rw [this]
      exact sz_of (by omega)
    · refine ⟨_, _, rfl, ?_, asc_app az (asc_one (asc_smalls _ (List.getElem_mem hj))), lg.trans l2'⟩
      rw [len_app]
      have : (⟨#[(TL.tl ("abcdefghijklmnopqrstuvwxyz" : Str))[j]]⟩ : Str).length = 1 := rfl
      rw [this]
      omega
  · rintro σ G ⟨z, v2, rfl, hz, az, lg⟩
    exact ⟨_, rfl, k G z lg (by omega) az⟩
theorem cutS_len (z : Str) (lo hi : Option Int) : (cutS z lo hi).length ≤ z.length := cutS_length z lo hi
theorem res_len (x : V) (h : x ∈ reserved.map V.str) : ∃ z : Str, x = .str z ∧ z.length ≤ 8 ∧ Asc z := by
  obtain ⟨z, hz, rfl⟩ := List.mem_map.mp h
  have : reserved.all (fun z => decide (z.length ≤ 8) && decide (Asc z)) = true := by unfold Asc; decide +kernel
  have q := Bool.and_eq_true_iff.mp (List.all_eq_true.mp this z hz)
  exact ⟨z, rfl, of_decide_eq_true q.1, of_decide_eq_true q.2⟩
theorem pure__law_some (vs : List V) (H : Hp) (Q : VK) (E : XK) (h : sp_some vs H Q E) : t__law_some K { nx := fun _ H' => Q .non H', rt := Q } (start ["_law_bag_here", "_law_kind", "_law_text", "_law_at"] vs) H := by
  obtain ⟨b, rfl, hb, k⟩ := h
  refine ⟨_, rfl, b, 6, rfl, hb, by decide, by decide, fun H1 d l1 d0 d1 => ?_⟩
  have hb1 := l1.bag hb
  refine q_when (et_test (ev_op (ev_var rfl) ev_c (rv_eq rfl))) (fun e H2 x2 => ?_) (fun e H2 x2 => ?_)
  · have l2 : Le b H H2 := l1.trans (Le.of x2)
    refine ⟨_, rfl, rfl, fun H3 p x3 hp h3 => ?_⟩
    have l3 : Le b H H3 := l2.trans (Le.of x3)
    refine ⟨b, p, _, rfl, l3.bag hb, fun q => ?_, sq_of h3, by decide, by decide, fun H4 x l4 hx => ?_⟩
    · subst q; exact (l2.bag hb).none hp
    · obtain ⟨z, rfl, hz, az⟩ := res_len x hx
      exact k H4 z (l3.trans l4) (by omega) az
  · have l2 : Le b H H2 := l1.trans (Le.of x2)
    refine ⟨_, rfl, b, rfl, l2.bag hb, fun H3 z l3 hz az => ?_⟩
    have l3' := l2.trans l3
    refine q_when (et_test (ev_op (ev_var rfl) ev_c (rv_eq rfl))) (fun e H4 x4 => ?_) (fun e H4 x4 => ?_)
    · have l4 : Le b H H4 := l3'.trans (Le.of x4)
      refine ⟨_, rfl, _, rfl, z, rfl, sz_of (by omega), _, _, rfl, rfl, b, _, rfl, l4.bag hb, by omega, by omega, fun H5 i l5 i0 i1 => ?_⟩
      have l5' := l4.trans l5
      have c1 := cutS_len z none (some i)
      have c2 := cutS_len z (some i) none
      refine ⟨_, rfl, _, rfl, i, rfl, z, rfl, sz_of (by omega), ?_⟩
      refine ⟨_, rfl, by decide, fun p hp => ?_⟩
      have x6 : Evl.Ex H5 (upd H5 p (.lst [.str "A", .str "Z", .str "0", .str "9", .str " ", .str "_", .str "\n", .str ";", .str "-"])) := Evl.Ex.new hp
      have l6 := l5'.trans (Le.of x6)
      refine ⟨b, p, _, rfl, l6.bag hb, fun q => ?_, sq_of upd_same, by decide, by decide, fun H7 x l7 hx => ?_⟩
      · subst q; exact (l5'.bag hb).none hp
      · obtain ⟨w, rfl, hw, aw⟩ : ∃ w : Str, x = .str w ∧ w.length ≤ 1 ∧ Asc w := by
          simp only [List.mem_cons, List.not_mem_nil, or_false] at hx
          rcases hx with rfl | rfl | rfl | rfl | rfl | rfl | rfl | rfl | rfl <;> exact ⟨_, rfl, by decide +kernel, by decide +kernel⟩
        refine ⟨_, _, rfl, rfl, sz_of (by omega), _, rfl, _, rfl, i, rfl, z, rfl, sz_of (by omega), _, _, rfl, rfl, ?_, ?_⟩
        · rw [len_app]; exact sz_of (by omega)
        · exact k H7 _ (l6.trans l7) (by rw [len_app, len_app]; omega) (asc_app (asc_app (asc_cut az _ _) aw) (asc_cut az _ _))
    · have l4 : Le b H H4 := l3'.trans (Le.of x4)
      refine q_when (et_test (ev_op (ev_var rfl) ev_c (rv_eq rfl))) (fun e H5 x5 => ?_) (fun e H5 x5 => ?_)
      · have l5 : Le b H H5 := l4.trans (Le.of x5)
        refine ⟨_, rfl, rfl, fun H6 p x6 hp h6 => ?_⟩
        have l6 : Le b H H6 := l5.trans (Le.of x6)
        refine ⟨b, p, _, rfl, l6.bag hb, fun q => ?_, sq_of h6, by decide, by decide, fun H7 x l7 hx => ?_⟩
        · subst q; exact (l5.bag hb).none hp
        · obtain ⟨w, rfl, hw, aw⟩ := res_len x hx
          have c1 := cutS_len z none (some 1)
          refine ⟨_, rfl, 1, rfl, z, rfl, sz_of (by omega), _, _, rfl, rfl, sz_of (by omega), ?_⟩
          exact k H7 _ (l6.trans l7) (by rw [len_app]; omega) (asc_app aw (asc_cut az _ _))
      · have l5 : Le b H H5 := l4.trans (Le.of x5)
        have c1 := cutS_len z none (some 8)
        by_cases q : d < 5
        · exact s_ret (v := .str z) (ev_if (et_test (ev_op (ev_var rfl) ev_c rv_I0)) (fun _ => ev_var rfl) (fun e => absurd q (of_decide_eq_false e))) fun H6 x6 => k H6 z (l5.trans (Le.of x6)) (by omega) az
        · exact s_ret (v := .str (cutS z none (some 8))) (ev_if (et_test (ev_op (ev_var rfl) ev_c rv_I0)) (fun e => absurd (of_decide_eq_true e) q) (fun _ => ev_slS (ev_var rfl) eo_none (eo_some ev_c) (by omega))) fun H6 x6 => k H6 _ (l5.trans (Le.of x6)) (by omega) (asc_cut az _ _)
end
end Ef

namespace Ef
open PySem PySem.Spec PyProof.Rows L2 Evl
section
variable {K : PySem.W.Frag}
theorem len_spText2 {f : Str → Bool} {vs : List V} {H : Hp} {Q : VK} {E : XK} (h : spText2 f vs H Q E) : vs.length = 1 := by
  obtain ⟨z, rfl, _⟩ := h; rfl
theorem strOk_asc {z : Str} (h : Asc z) : PyData.strOk z = true := by
  unfold PyData.strOk
  rw [Array.all_eq_true_iff_forall_mem]
  intro c hc
  have := h c (by simpa using hc)
  exact decide_eq_true (by omega)
theorem dps_strs {H : Hp} : ∀ ys : List Str, DpAll K H (ys.map V.str) (ys.map PyData.str)
  | [] => .nil
  | y :: r => .cons (.str y) (dps_strs r)
theorem lay_strs : ∀ ys : List Str, (∀ y ∈ ys, Asc y) → PyData.canLayAll0 (ys.map PyData.str) = true
  | [], _ => by simp [PyData.canLayAll0]
  | y :: r, h => by
    rw [List.map_cons]
    simp only [PyData.canLayAll0, PyData.canLay0]
    rw [strOk_asc (h y List.mem_cons_self), lay_strs r fun z hz => h z (List.mem_cons_of_mem _ hz)]
    rfl
theorem depth_strs : ∀ ys : List Str, PyData.depthAll (ys.map PyData.str) = 0
  | [] => by simp [PyData.depthAll]
  | y :: r => by
    rw [List.map_cons]
    simp only [PyData.depthAll, PyData.depth]
    rw [depth_strs r]; rfl
theorem shaped_strs (ys : List Str) (h : ∀ y ∈ ys, Asc y) : SeqAt.shaped (.list (ys.map PyData.str)) = true := by
  unfold SeqAt.shaped
  rw [Bool.and_eq_true]
  refine ⟨by simp only [PyData.canLay0]; exact lay_strs ys h, decide_eq_true ?_⟩
  simp only [PyData.depth]
  rw [depth_strs]; decide
theorem shaped_nil : SeqAt.shaped (.list []) = true := by decide +kernel
theorem eqv_nil (ds : List PyData) : PyData.eqv (.list ds) (.list []) = ds.isEmpty := by
  cases ds <;> simp [PyData.eqv, PyData.eqvAll]
theorem ev_eqNil {σ : L2.St} {H : Hp} {ta : TE} {p : Addr} {ys : List Str} (h : Ev ta σ H (.ref p)) (hs : SqL K H p (ys.map V.str)) (ha : ∀ y ∈ ys, Asc y) : Ev (tOp (rEqD K) ta (tLst tNil)) σ H (.bl ys.isEmpty) :=
  ev_opL h (el_lst ea_nil (by decide)) fun q H1 h1 e1 H2 e2 Q k => ⟨_, _, .lst (ex_l (e1.trans e2) hs) (dps_strs ys), .lst (sq_of (e2 _ _ h1)) .nil, shaped_strs ys ha, shaped_nil, by
    rw [eqv_nil]
    have : (ys.map PyData.str).isEmpty = ys.isEmpty := by cases ys <;> rfl
    rw [this]
    exact k H2 (Evl.Ex.refl H2)⟩
theorem ev_neNil {σ : L2.St} {H : Hp} {ta : TE} {p : Addr} {ys : List Str} (h : Ev ta σ H (.ref p)) (hs : SqL K H p (ys.map V.str)) (ha : ∀ y ∈ ys, Asc y) : Ev (tOp (rNeD K) ta (tLst tNil)) σ H (.bl (!ys.isEmpty)) :=
  ev_opL h (el_lst ea_nil (by decide)) fun q H1 h1 e1 H2 e2 Q k => ⟨_, _, .lst (ex_l (e1.trans e2) hs) (dps_strs ys), .lst (sq_of (e2 _ _ h1)) .nil, shaped_strs ys ha, shaped_nil, by
    rw [eqv_nil]
    have : (ys.map PyData.str).isEmpty = ys.isEmpty := by cases ys <;> rfl
    rw [this]
    exact k H2 (Evl.Ex.refl H2)⟩
theorem el_reserved {σ : L2.St} {H : Hp} : EvL (tCall sp_reserved [] E0 tNil) σ H (reserved.map V.str) := fun H1 _ Q q => ⟨rfl, fun H' p e hp h => q p H' hp e h⟩
theorem pure__law_is_word (vs : List V) (H : Hp) (Q : VK) (E : XK) (h : sp_law_is_word vs H Q E) : t__law_is_word K { nx := fun _ H' => Q .non H', rt := Q } (start ["_law_text", "_law_odd", "_law_sign"] vs) H := by
  obtain ⟨z, rfl, hl, az, k⟩ := h
  refine q_asgL (el_lcS (fun c => !decide (c ∈ smalls.cps.toList)) (fun c => V.str ⟨#[c]⟩) (ev_var rfl) hl (fun _ => rfl) (fun c => et_test (ev_op (ev_var rfl) ev_c rv_notInSign)) (fun c _ => ev_var rfl)) fun p H1 hp x1 h1 => ?_
  have hs : SqL K H1 p (((z.cps.toList.filter fun c => !decide (c ∈ smalls.cps.toList)).map fun c => (⟨#[c]⟩ : Str)).map V.str) := by
    rw [List.map_map]; exact sq_of h1
  have ha : ∀ y ∈ (z.cps.toList.filter fun c => !decide (c ∈ smalls.cps.toList)).map fun c => (⟨#[c]⟩ : Str), Asc y := fun y hy => by
    obtain ⟨c, hc, rfl⟩ := List.mem_map.mp hy
    exact asc_one (az c ((List.mem_filter.mp hc).1))
  refine s_ret (v := .bl (fitsW z)) (ev_is (ev_andV (ev_chain2 (r := rLeI) (r' := rLeI) ev_c (ev_lenStr (ev_var rfl) hl) ev_c rv_I0 rv_I0) fun _ => ev_andV (ev_eqNil (ev_var rfl) hs ha) fun _ => ev_opL (z := .bl (!inV (.str z) (reserved.map V.str))) (ev_var rfl) el_reserved fun q H2 h2 _ => rv_niL (sq_of h2) rfl (flat_strs _)) ?_) fun H2 x2 => k H2 (x1.trans x2)
  rw [inV_strs]
  unfold fitsW
  congr 1
  have e1 : ((z.cps.toList.filter fun c => !decide (c ∈ smalls.cps.toList)).map fun c => (⟨#[c]⟩ : Str)).isEmpty = z.cps.toList.all fun c => decide (c ∈ smalls.cps.toList) := by
    generalize z.cps.toList = l
    induction l with
    | nil => rfl
    | cons c r ih =>
      rw [List.filter_cons, List.all_cons]
      by_cases q : c ∈ smalls.cps.toList
      · simp [q] at ih ⊢; exact ih
      · simp [q]
  rw [e1]
  have e2 : ((1 : Int) ≤ (z.length : Int)) ↔ 1 ≤ z.length := by omega
  have e3 : ((z.length : Int) ≤ 8) ↔ z.length ≤ 8 := by omega
  simp only [e2, e3]
  cases (decide (1 ≤ z.length)) <;> cases (decide (z.length ≤ 8)) <;> cases (decide (z ∈ reserved)) <;> cases (z.cps.toList.all fun c => decide (c ∈ smalls.cps.toList)) <;> rfl
theorem pure__law_is_key (vs : List V) (H : Hp) (Q : VK) (E : XK) (h : sp_law_is_key vs H Q E) : t__law_is_key K { nx := fun _ H' => Q .non H', rt := Q } (start ["_law_text", "_law_heads", "_law_head"] vs) H := by
  obtain ⟨z, rfl, hl, az, k⟩ := h
  have src : EvL (tLst (tCons (tC (.str "method ")) (tCons (tC (.str "getter ")) (tCons (tC (.str "setter ")) tNil)))) (start ["_law_text", "_law_heads", "_law_head"] [.str z]) H ((["method ", "getter ", "setter "] : List Str).map V.str) := el_lst (ea_cons ev_c (ea_cons ev_c (ea_cons ev_c ea_nil))) (by decide)
  have hd : ∀ (i : Nat) (x : V), ((["method ", "getter ", "setter "] : List Str).map V.str)[i]? = some x → x = .str ((["method ", "getter ", "setter "] : List Str).getD i "") := fun i x e => by
    match i, e with
    | 0, e => exact (Option.some.inj e).symm
    | 1, e => exact (Option.some.inj e).symm
    | 2, e => exact (Option.some.inj e).symm
    | i + 3, e => simp at e
  refine q_asgL (el_lcNL (K := K) (fun i => Txt.startswith z ((["method ", "getter ", "setter "] : List Str).getD i "")) (fun i => .str ((["method ", "getter ", "setter "] : List Str).getD i "")) src (by decide) (fun _ => rfl) (fun i x H1 _ e => ?_) (fun i x H1 _ e _ => ?_)) fun p H1 hp x1 h1 => ?_
  · have := hd i x e
    subst this
    exact et_B (ev_starts (ev_var rfl) (ev_var rfl))
  · have := hd i x e
    subst this
    exact ev_var rfl
  · have hs : SqL K H1 p ((((List.range 3).filter fun i => Txt.startswith z ((["method ", "getter ", "setter "] : List Str).getD i "")).map fun i => ((["method ", "getter ", "setter "] : List Str).getD i "")).map V.str) := by
      rw [List.map_map]; exact sq_of h1
    have ha : ∀ y ∈ (((List.range 3).filter fun i => Txt.startswith z ((["method ", "getter ", "setter "] : List Str).getD i "")).map fun i => ((["method ", "getter ", "setter "] : List Str).getD i "")), Asc y := fun y hy => by
      obtain ⟨i, hi, rfl⟩ := List.mem_map.mp hy
      have := List.mem_range.mp ((List.mem_filter.mp hi).1)
      match i, this with
      | 0, _ => decide +kernel
      | 1, _ => decide +kernel
      | 2, _ => decide +kernel
    have c7 := cutS_len z (some 7) none
    refine s_ret (v := .bl (fitsK z)) (ev_is (ev_orV (ev_op (ev_var rfl) ev_c (rv_eq rfl)) fun _ => ev_andV (b := fitsW (cutS z (some 7) none)) (ev_neNil (ev_var rfl) hs ha) fun _ => ev_call (ea_cons (ev_slS (ev_var rfl) (eo_some ev_c) eo_none hl) ea_nil) ?_) ?_) fun H2 x2 => k H2 (x1.trans x2)
    · exact fun H1 e Q q _ => ⟨_, rfl, by omega, asc_cut az _ _, fun H' e' => q H' e'⟩
    · unfold fitsK
      congr 1
      have e1 : decide (V.str z = V.str "init") = decide (z = "init") := by
        by_cases q : z = "init"
        · rw [q, decide_eq_true rfl, decide_eq_true rfl]
        · rw [decide_eq_false q, decide_eq_false fun w => q (V.str.inj w)]
      rw [e1]
      have e2 : (!((((List.range 3).filter fun i => Txt.startswith z ((["method ", "getter ", "setter "] : List Str).getD i "")).map fun i => ((["method ", "getter ", "setter "] : List Str).getD i ""))).isEmpty) = (Txt.startswith z "method " || Txt.startswith z "getter " || Txt.startswith z "setter ") := by
        have r3 : List.range 3 = [0, 1, 2] := by decide
        rw [r3]
        have g0 : ((["method ", "getter ", "setter "] : List Str).getD 0 "") = "method " := rfl
        have g1 : ((["method ", "getter ", "setter "] : List Str).getD 1 "") = "getter " := rfl
        have g2 : ((["method ", "getter ", "setter "] : List Str).getD 2 "") = "setter " := rfl
        simp only [List.filter_cons, List.filter_nil, g0, g1, g2]
        cases Txt.startswith z "method " <;> cases Txt.startswith z "getter " <;> cases Txt.startswith z "setter " <;> rfl
      rw [e2]
end
end Ef

namespace Ef
open PySem PySem.Spec PyProof.Rows L2 Evl
section
variable {K : PySem.W.Frag}
theorem len_law {vs : List V} {H : Hp} {Q : VK} {E : XK} (h : sp_law K vs H Q E) : vs.length = 1 := by
  obtain ⟨a, ns, rfl, _⟩ := h; rfl
theorem asked_ex {f : Str → Bool} {H H1 : Hp} (e : Evl.Ex H H1) {x : V} {b : Bool} (h : Asked K f H x b) : Asked K f H1 x b := by
  rcases h with ⟨z, rfl, hl, rfl⟩ | ⟨⟨t, ht, hk⟩, rfl⟩
  · exact .inl ⟨z, rfl, hl, rfl⟩
  · exact .inr ⟨⟨t, tyx_ex e ht, hk⟩, rfl⟩
theorem ev_asked {f : Str → Bool} {σ : L2.St} {H : Hp} {te : TE} {x : V} {b : Bool} (h : Ev te σ H x) (ha : Asked K f H x b) : Ev (tCall (spAsk K f) [] E0 (tCons te tNil)) σ H (.bl b) :=
  ev_call (ea_cons h ea_nil) fun H1 e Q q _ => ⟨x, b, rfl, asked_ex e ha, fun H' e' => q H' e'⟩
theorem asked_str (f : Str → Bool) {H : Hp} {z : Str} (h : z.length ≤ 100000) : Asked K f H (.str z) (f z) := .inl ⟨z, rfl, h, rfl⟩
/-- what the law asks of no text, or of odd ones -/
def Odd (K : PySem.W.Frag) (H : Hp) (x : V) : Prop := Asked K fitsW H x false ∧ Asked K fitsK H x false
theorem odd_not {H : Hp} {x : V} {t : String} (h : TyX K H x (.type t)) (hk : kitB t "str" = some false) : Odd K H x := ⟨.inr ⟨⟨t, h, hk⟩, rfl⟩, .inr ⟨⟨t, h, hk⟩, rfl⟩⟩
theorem odd_str {H : Hp} {z : Str} (h : z.length ≤ 100000) (h1 : fitsW z = false) (h2 : fitsK z = false) : Odd K H (.str z) := ⟨.inl ⟨z, rfl, h, h1.symm⟩, .inl ⟨z, rfl, h, h2.symm⟩⟩
theorem rv_isNotBl {H : Hp} {a b : Bool} : RV rIsNotBl (.bl a) (.bl b) H (.bl (!decide (a = b))) := fun H1 _ _ q => ⟨a, b, rfl, rfl, q H1 (Evl.Ex.refl H1)⟩
theorem kb_non : kitB "NoneType" "str" = some false := by decide +kernel
theorem kb_bl : kitB "bool" "str" = some false := by decide +kernel
theorem kb_int : kitB "int" "str" = some false := by decide +kernel
theorem kb_lst : kitB "list" "str" = some false := by decide +kernel
theorem kb_tup : kitB "tuple" "str" = some false := by decide +kernel
def EvP (te : TE) (σ : L2.St) (H : Hp) (P : V → Hp → Prop) : Prop := ∀ H1, Evl.Ex H H1 → ∀ Q : VK, (∀ v H2, Evl.Ex H1 H2 → P v H2 → Q v H2) → te σ H1 Q
def EvAP (ta : TA) (σ : L2.St) (H : Hp) (n : Nat) (P : V → Hp → Prop) : Prop := ∀ H1, Evl.Ex H H1 → ∀ Q : List V → Hp → Prop, (∀ vs H2, Evl.Ex H1 H2 → vs.length = n → (∀ v ∈ vs, P v H2) → Q vs H2) → ta σ H1 Q
def Up (P : V → Hp → Prop) : Prop := ∀ v H H', Evl.Ex H H' → P v H → P v H'
theorem eap_nil {σ : L2.St} {H : Hp} {P : V → Hp → Prop} : EvAP tNil σ H 0 P := fun H1 _ Q q => q [] H1 (Evl.Ex.refl H1) rfl fun _ h => nomatch h
theorem eap_cons {σ : L2.St} {H : Hp} {P : V → Hp → Prop} {te : TE} {ta : TA} {n : Nat} (up : Up P) (h : EvP te σ H P) (hr : EvAP ta σ H n P) : EvAP (tCons te ta) σ H (n + 1) P := fun H1 e Q q =>
  h H1 e _ fun v H2 e2 p => hr H2 (e.trans e2) _ fun vs H3 e3 hn ps => q (v :: vs) H3 (e2.trans e3) (by rw [List.length_cons, hn]) fun x hx => by
    rcases List.mem_cons.mp hx with rfl | hx
    · exact up _ _ _ e3 p
    · exact ps x hx
theorem evp_of {σ : L2.St} {H : Hp} {P : V → Hp → Prop} {te : TE} {v : V} (h : Ev te σ H v) (p : ∀ G, P v G) : EvP te σ H P := fun H1 e Q q => h H1 e Q fun H2 e2 => q v H2 e2 (p H2)
theorem evp_tup {σ : L2.St} {H : Hp} {P : V → Hp → Prop} {te : TE} {xs : List V} (h : EvU te σ H xs) (p : ∀ G a, G a = some (.tup xs) → P (.ref a) G) : EvP te σ H P := fun H1 e Q q => h H1 e Q fun a H2 _ e2 h2 => q _ H2 e2 (p H2 a h2)
theorem evp_lst {σ : L2.St} {H : Hp} {P : V → Hp → Prop} {te : TE} {xs : List V} (h : EvL te σ H xs) (p : ∀ G a, G a = some (.lst xs) → P (.ref a) G) : EvP te σ H P := fun H1 e Q q => h H1 e Q fun a H2 _ e2 h2 => q _ H2 e2 (p H2 a h2)
theorem evp_lstP {σ : L2.St} {H : Hp} {P P' : V → Hp → Prop} {ta : TA} {n : Nat} (h : EvAP ta σ H n P') (hn : n ≤ 100000) (p : ∀ G a xs, G a = some (.lst xs) → P (.ref a) G) : EvP (tLst ta) σ H P := fun H1 e Q q =>
  h H1 e _ fun vs H2 e2 hl _ => ⟨sz_of (by omega), fun a ha => q _ _ (e2.trans (Evl.Ex.new ha)) (p _ a vs upd_same)⟩
theorem q_asgLP {σ : L2.St} {H : Hp} {P : V → Hp → Prop} {ta : TA} {n i : Nat} {tz : TS} {D : Ends} (up : Up P) (h : EvAP ta σ H n P) (hn : n ≤ 100000)
    (k : ∀ xs p H1, xs.length = n → H p = none → Evl.Ex H H1 → H1 p = some (.lst xs) → (∀ x ∈ xs, P x H1) → tz D (σ.set i (some (.ref p))) H1) : tSeq (tAsg (tLst ta) (gName i)) tz D σ H :=
  h H (Evl.Ex.refl H) _ fun vs H2 e2 hl hp => ⟨sz_of (by omega), fun a ha => k vs a _ hl (fresh_back e2 ha) (e2.trans (Evl.Ex.new ha)) upd_same fun x hx => up _ _ _ (Evl.Ex.new ha) (hp x hx)⟩
theorem odd_up : Up fun v H => Odd K H v := fun v H H' e h => ⟨asked_ex e h.1, asked_ex e h.2⟩
theorem le_ex {b : Addr} {H H1 H2 : Hp} (e : Evl.Ex H H1) (hb : H b = none) (l : Le b H1 H2) : Evl.Ex H H2 := fun x o h => l.keep x o (ne_of_none h hb) (e x o h)
theorem asked_txt {H : Hp} (z : Str) (h : z.length ≤ 100000) : Asked K fitsW H (.str z) (fitsW z) ∧ Asked K fitsK H (.str z) (fitsK z) := ⟨asked_str _ h, asked_str _ h⟩
theorem ev_lawWord {σ : L2.St} {H : Hp} {te : TE} {f : Str → Bool} {z : Str} (h : Ev te σ H (.str z)) (hl : z.length ≤ 100000) (ha : Asc z) : Ev (tCall (spText2 f) [] E0 (tCons te tNil)) σ H (.bl (f z)) :=
  ev_call (ea_cons h ea_nil) fun H1 e Q q _ => ⟨z, rfl, hl, ha, fun H' e' => q H' e'⟩
theorem dp_bb {H : Hp} {p : Addr} {x y : Bool} (h : H p = some (.tup [.bl x, .bl y])) : Dp K H (.ref p) (.tuple [.bool x, .bool y]) := .tup (st_of h) (.cons (.bl x) (.cons (.bl y) .nil))
theorem shaped_bb (x y : Bool) : SeqAt.shaped (.tuple [.bool x, .bool y]) = true := by cases x <;> cases y <;> decide +kernel
theorem eqv_bb (x y : Bool) : PyData.eqv (.tuple [.bool x, .bool y]) (.tuple [.bool x, .bool y]) = true := by cases x <;> cases y <;> decide +kernel
/-- one text: the four answers, as the law wants them -/
theorem law_turn {D : Ends} {v0 v1 v2 v3 v4 v5 v6 v7 v8 v10 : Option V} {z : Str} {H : Hp} (hl : z.length ≤ 100000) (ha : Asc z) (k : ∀ p G, Evl.Ex H G → D.nx [v0, v1, v2, v3, v4, v5, v6, v7, v8, some (.str z), some (.ref p)] G) :
    tSeq (tAsg (tTup (tCons (tCall (sp_is_word K) [] E0 (tCons (tVar 9) tNil)) (tCons (tCall (sp_is_key K) [] E0 (tCons (tVar 9) tNil)) tNil))) (gName 10)) (tSeq (tIfS (tTest (tOp (rNeD K) (tVar 10) (tTup (tCons (tCall sp_law_is_word [] E0 (tCons (tVar 9) tNil)) (tCons (tCall sp_law_is_key [] E0 (tCons (tVar 9) tNil)) tNil))))) (tRet (tC (.bl false))) tNext) (tIfS (tOr (tNot (tB (tCB (rIsi K) (tCons (tOp (rIxT K) (tVar 10) (tC (.int 0))) (tCons (tC (.ty "bool")) tNil))))) (tNot (tB (tCB (rIsi K) (tCons (tOp (rIxT K) (tVar 10) (tC (.int 1))) (tCons (tC (.ty "bool")) tNil)))))) (tRet (tC (.bl false))) tNext))
      D [v0, v1, v2, v3, v4, v5, v6, v7, v8, some (.str z), v10] H := by
  refine q_asgU (eu_tup (ea_cons (ev_asked (ev_var rfl) (asked_str fitsW hl)) (ea_cons (ev_asked (ev_var rfl) (asked_str fitsK hl)) ea_nil)) (by show 2 ≤ 100000; decide)) fun p H1 hp x1 h1 => ?_
  have ht : EvT (tTest (tOp (rNeD K) (tVar 10) (tTup (tCons (tCall sp_law_is_word [] E0 (tCons (tVar 9) tNil)) (tCons (tCall sp_law_is_key [] E0 (tCons (tVar 9) tNil)) tNil))))) [v0, v1, v2, v3, v4, v5, v6, v7, v8, some (.str z), some (.ref p)] H1 false :=
    et_test (ev_opU (ev_var rfl) (eu_tup (ea_cons (ev_lawWord (ev_var rfl) hl ha) (ea_cons (ev_lawWord (ev_var rfl) hl ha) ea_nil)) (by show 2 ≤ 100000; decide)) fun q H2 h2 e2 H3 e3 Q kk => ⟨_, _, dp_bb (e3 _ _ (e2 _ _ h1)), dp_bb (e3 _ _ h2), shaped_bb _ _, shaped_bb _ _, by
      rw [eqv_bb]; exact kk H3 (Evl.Ex.refl H3)⟩)
  refine q_when ht (fun e => by cases e) fun _ H2 x2 => ?_
  have hb : ∀ (i : Int) (b : Bool), atI [V.bl (fitsW z), V.bl (fitsK z)] i = some (.bl b) → Ev (tCB (rIsi K) (tCons (tOp (rIxT K) (tVar 10) (tC (.int i))) (tCons (tC (.ty "bool")) tNil))) [v0, v1, v2, v3, v4, v5, v6, v7, v8, some (.str z), some (.ref p)] H2 (.bl true) := fun i b hi =>
    ev_isi (tv := .type "bool") (ev_ixT (ev_var rfl) ev_c (st_of (x2 _ _ h1)) hi) (fun _ _ => .base (.bl b)) (kit_ty (by decide +kernel))
  refine s_when (et_or (et_not (et_B (hb 0 _ (atI0 _ _)))) fun _ => et_not (et_B (hb 1 _ (atI1 _ _)))) (fun e => by cases e) fun _ H3 x3 => k p H3 ((x1.trans x2).trans x3)
theorem pure_law (vs : List V) (H : Hp) (Q : VK) (E : XK) (h : sp_law K vs H Q E) : t_law K { nx := fun _ H' => Q .non H', rt := Q } (start ["_law_script", "_law_odd", "_law_value", "_law_at", "_law_bag_here", "_law_turn", "_law_text", "_law_heads", "_law_key", "_law_each", "_law_found"] vs) H := by
  obtain ⟨a, ns, rfl, hS, hl, k⟩ := h
  -- the odd values
  have ho : EvAP (tCons (tC .non) (tCons (tC (.bl true)) (tCons (tC (.bl false)) (tCons (tC (.int 0)) (tCons (tC (.int 7)) (tCons (tUn rNegI (tC (.int 3))) (tCons (tC (.str "")) (tCons (tTup tNil) (tCons (tTup (tCons (tC (.str "init")) tNil)) (tCons (tLst (tCons (tC (.str "init")) tNil)) (tCons (tLst (tCons (tC (.str "method")) (tCons (tC (.str "a")) tNil))) (tCons (tTup (tCons (tC (.str "a")) tNil)) (tCons (tLst (tCons (tLst tNil) tNil)) (tCons (tC (.str " ")) (tCons (tC (.str "init ")) tNil))))))))))))))) (start ["_law_script", "_law_odd", "_law_value", "_law_at", "_law_bag_here", "_law_turn", "_law_text", "_law_heads", "_law_key", "_law_each", "_law_found"] [.ref a]) H 15 (fun v G => Odd K G v) :=
    eap_cons odd_up (evp_of ev_c fun G => odd_not (.base .non) kb_non) (eap_cons odd_up (evp_of ev_c fun G => odd_not (.base (.bl _)) kb_bl) (eap_cons odd_up (evp_of ev_c fun G => odd_not (.base (.bl _)) kb_bl)
    (eap_cons odd_up (evp_of ev_c fun G => odd_not (.base (.int _)) kb_int) (eap_cons odd_up (evp_of ev_c fun G => odd_not (.base (.int _)) kb_int) (eap_cons odd_up (evp_of (ev_un ev_c ru_neg) fun G => odd_not (.base (.int _)) kb_int)
    (eap_cons odd_up (evp_of ev_c fun G => odd_str (by decide +kernel) (by decide +kernel) (by decide +kernel))
    (eap_cons odd_up (evp_tup (eu_tup ea_nil (by decide)) fun G p hp => odd_not (.base (.tup hp)) kb_tup)
    (eap_cons odd_up (evp_tup (eu_tup (ea_cons ev_c ea_nil) (by decide)) fun G p hp => odd_not (.base (.tup hp)) kb_tup)
    (eap_cons odd_up (evp_lst (el_lst (ea_cons ev_c ea_nil) (by decide)) fun G p hp => odd_not (.base (.lst hp)) kb_lst)
    (eap_cons odd_up (evp_lst (el_lst (ea_cons ev_c (ea_cons ev_c ea_nil)) (by decide)) fun G p hp => odd_not (.base (.lst hp)) kb_lst)
    (eap_cons odd_up (evp_tup (eu_tup (ea_cons ev_c ea_nil) (by decide)) fun G p hp => odd_not (.base (.tup hp)) kb_tup)
    (eap_cons odd_up (evp_lstP (n := 1) (eap_cons (n := 0) (P := fun _ _ => True) (fun _ _ _ _ h => h) (evp_lst (el_lst ea_nil (by decide)) fun _ _ _ => trivial) eap_nil) (by decide) fun G p xs hp => odd_not (.base (.lst hp)) kb_lst)
    (eap_cons odd_up (evp_of ev_c fun G => odd_str (by decide +kernel) (by decide +kernel) (by decide +kernel))
    (eap_cons odd_up (evp_of ev_c fun G => odd_str (by decide +kernel) (by decide +kernel) (by decide +kernel)) eap_nil))))))))))))))
  refine q_asgLP odd_up ho (by decide) fun xs p H2 hn hp x2 hpl hx2 => ?_
  refine ⟨_, rfl, p, rfl, ⟨xs, sq_of hpl⟩, for_list (K := K) (a := p) (xs := xs) (fun i σ G => ∃ v2, σ = [some (.ref a), some (.ref p), v2, none, none, none, none, none, none, none, none] ∧ Evl.Ex H2 G) ⟨none, rfl, Evl.Ex.refl H2⟩ (fun i σ G _ ⟨_, _, e⟩ => sq_of (e _ _ hpl)) ?_ ?_⟩
  · rintro i x σ G hi ⟨v2, rfl, e⟩
    have ox := odd_up _ _ _ e (hx2 x (List.mem_of_getElem? hi))
    refine s_when (et_or (et_test (ev_op (ev_asked (ev_var rfl) ox.1) ev_c rv_isNotBl)) fun _ => et_test (ev_op (ev_asked (ev_var rfl) ox.2) ev_c rv_isNotBl)) (fun e => by cases e) fun _ G2 e2 => ⟨some x, rfl, e.trans e2⟩
  rintro σ G ⟨v2, rfl, e⟩
  have x3 : Evl.Ex H G := x2.trans e
  -- the draws
  have hm : ∀ n : Nat, n ≤ 63 → 0 ≤ (if (if (n : Int) < 20 then (n : Int) else 20) > 1 then (if (n : Int) < 20 then (n : Int) else 20) else 1) ∧ (if (if (n : Int) < 20 then (n : Int) else 20) > 1 then (if (n : Int) < 20 then (n : Int) else 20) else 1) ≤ 20 := fun n h => by
    split <;> split <;> omega
  have hm1 := hm (ns.map V.int).length (by rw [List.length_map]; exact hl)
  refine ev_max ev_c (ev_min ev_c (ev_lenSq (ev_var rfl) (.inl (ex_l x3 hS)))) G (Evl.Ex.refl G) _ fun G1 e1 => ?_
  refine ⟨_, rfl, by omega, by omega, ?_⟩
  generalize (if (if (((ns.map V.int).length : Nat) : Int) < 20 then (((ns.map V.int).length : Nat) : Int) else 20) > 1 then (if (((ns.map V.int).length : Nat) : Int) < 20 then (((ns.map V.int).length : Nat) : Int) else 20) else 1) = m at hm1 ⊢
  refine for_range (lo := 0) (n := m.toNat) (fun i σ G => ∃ v2 v3 v4 v5 v6 v7 v8 v9 v10, σ = [some (.ref a), some (.ref p), v2, v3, v4, v5, v6, v7, v8, v9, v10] ∧ Evl.Ex H G) ⟨_, _, _, _, _, _, _, _, _, rfl, x3.trans e1⟩ ?_ ?_
  · rintro i σ G hi ⟨v2, v3, v4, v5, v6, v7, v8, v9, v10, rfl, xg⟩
    refine ⟨_, rfl, _, rfl, a, ns, _, rfl, ex_l xg hS, hl, by omega, by omega, fun G1 b e1 hb bag => ?_⟩
    have xb : H b = none := fresh_back xg hb
    refine ⟨4, rfl, by decide, by decide, for_range (lo := 0) (n := 4) (fun j σ G2 => ∃ v5 v6 v7 v8 v9 v10, σ = [some (.ref a), some (.ref p), v2, some (.int (0 + i)), some (.ref b), v5, v6, v7, v8, v9, v10] ∧ Evl.Ex H G2 ∧ Bag G2 b) ⟨_, _, _, _, _, _, rfl, xg.trans e1, bag⟩ ?_ ?_⟩
    · rintro j σ G2 hj ⟨v5, v6, v7, v8, v9, v10, rfl, x4, bag4⟩
      refine ⟨_, rfl, b, rfl, bag4, fun G3 z l3 hz az => ?_⟩
      have x5 := le_ex x4 xb l3
      have bag5 := l3.bag bag4
      refine q_asgL (el_lst (ea_cons ev_c (ea_cons ev_c (ea_cons ev_c (ea_cons ev_c (ea_cons ev_c (ea_cons ev_c (ea_cons ev_c (ea_cons ev_c (ea_cons ev_c (ea_cons ev_c ea_nil)))))))))) (by decide)) fun q G4 hq e4 hq4 => ?_
      -- key
      refine ⟨_, rfl, _, rfl, by decide, fun r hr => ?_⟩
      refine ⟨q, r, _, _, rfl, rfl, Evl.Ex.new hr _ _ hq4, upd_same, by decide, fun t ht => ?_⟩
      have e5 := (e4.trans (Evl.Ex.new (o := .lst [.str "set ", .str "class "]) hr)).trans (Evl.Ex.new (o := .lst ([.str "", .str "init", .str "method ", .str "getter ", .str "setter ", .str "method", .str "init ", .str "Getter ", .str "setter  ", .str " method "] ++ [.str "set ", .str "class "])) ht)
      have l5 : Le b G3 _ := Le.of e5
      refine ⟨b, t, _, rfl, l5.bag bag5, fun z => ?_, sq_of upd_same, by decide, by decide, fun G6 x l6 hx => ?_⟩
      · subst z
        exact bag5.none (fresh_back (e4.trans (Evl.Ex.new hr)) ht)
      obtain ⟨w, rfl, hw, aw⟩ : ∃ w : Str, x = .str w ∧ w.length ≤ 10 ∧ Asc w := by
        simp only [List.mem_cons, List.not_mem_nil, or_false, List.cons_append, List.nil_append] at hx
        rcases hx with rfl | rfl | rfl | rfl | rfl | rfl | rfl | rfl | rfl | rfl | rfl | rfl <;> exact ⟨_, rfl, by decide +kernel, by decide +kernel⟩
      have l7 := l5.trans l6
      refine ⟨_, rfl, b, rfl, l7.bag bag5, fun G7 z2 l8 hz2 az2 => ?_⟩
      have l9 := l7.trans l8
      have x6 := le_ex x5 xb l9
      refine ⟨_, _, rfl, rfl, sz_of (by omega), ?_⟩
      have lk : (w ++ z2).length ≤ 100 := by rw [len_app]; omega
      have ak : Asc (w ++ z2) := asc_app aw az2
      have lm : ("method " : Str).length = 7 := by decide +kernel
      have lg : ("getter " : Str).length = 7 := by decide +kernel
      have lt : ("setter " : Str).length = 7 := by decide +kernel
      have lb : (" " : Str).length = 1 := by decide +kernel
      have li : ("init" : Str).length = 4 := by decide +kernel
      refine s_forNL (el_lst (ea_cons (ev_var rfl) (ea_cons (ev_var rfl) (ea_cons ev_c (ea_cons (ev_addSt ev_c (ev_var rfl) (by omega)) (ea_cons (ev_addSt ev_c (ev_var rfl) (by omega)) (ea_cons (ev_addSt ev_c (ev_var rfl) (by omega)) (ea_cons (ev_addSt (ev_var rfl) ev_c (by omega)) ea_nil))))))) (by show 7 ≤ 100000; decide))
        (fun pe i' σ G8 => ∃ v9 v10, σ = [some (.ref a), some (.ref p), v2, some (.int (0 + i)), some (.ref b), some (.int (0 + j)), some (.str z), some (.ref q), some (.str (w ++ z2)), v9, v10] ∧ Evl.Ex H G8 ∧ Bag G8 b ∧ G8 pe = some (.lst [.str z, .str (w ++ z2), .str "init", .str ("method " ++ z), .str ("getter " ++ z), .str ("setter " ++ z), .str (z ++ " ")]))
        (fun pe G8 hpe e8 h8 => ⟨_, _, rfl, x6.trans e8, (Le.of e8).bag (l9.bag bag5), h8⟩) (fun pe i' σ G8 _ ⟨_, _, _, _, _, h8⟩ => sq_of h8) ?_ ?_
      · rintro pe i' x σ G8 hi' ⟨v9, v10, rfl, x8, bag8, h8⟩
        obtain ⟨u, rfl, hu, au⟩ : ∃ u : Str, x = .str u ∧ u.length ≤ 100000 ∧ Asc u := by
          have hx := List.mem_of_getElem? hi'
          simp only [List.mem_cons, List.not_mem_nil, or_false] at hx
          rcases hx with rfl | rfl | rfl | rfl | rfl | rfl | rfl
          · exact ⟨_, rfl, by omega, az⟩
          · exact ⟨_, rfl, by omega, ak⟩
          · exact ⟨_, rfl, by decide +kernel, by decide +kernel⟩
          · exact ⟨_, rfl, by rw [len_app]; omega, asc_app (by decide +kernel) az⟩
          · exact ⟨_, rfl, by rw [len_app]; omega, asc_app (by decide +kernel) az⟩
          · exact ⟨_, rfl, by rw [len_app]; omega, asc_app (by decide +kernel) az⟩
          · exact ⟨_, rfl, by rw [len_app]; omega, asc_app az (by decide +kernel)⟩
        exact law_turn hu au fun p' G9 e9 => ⟨_, _, rfl, x8.trans e9, (Le.of e9).bag bag8, e9 _ _ h8⟩
      · rintro pe σ G8 ⟨v9, v10, rfl, x8, bag8, h8⟩
        exact ⟨_, _, _, _, _, _, rfl, x8, bag8⟩
    · rintro σ G2 ⟨v5, v6, v7, v8, v9, v10, rfl, x4, bag4⟩
      exact ⟨_, _, _, _, _, _, _, _, _, rfl, x4⟩
  · rintro σ G ⟨v2, v3, v4, v5, v6, v7, v8, v9, v10, rfl, xg⟩
    exact k G
end
end Ef

/-! the row: scopes, derivations, the head; printed by gen.py -/
namespace Ef
open PySem PySem.Spec PyProof.Rows L2
def top (i : Nat) : Stmt := PySem.Challenge.pw_earlyfields_k01_words_and_keys.main.body.getD i (.Pass ⟨0, 0, 0, 0⟩)
abbrev s_fits_word : Stmt := top 4
abbrev s_is_word : Stmt := top 6
abbrev s_is_key : Stmt := top 7
abbrev s__law_bag : Stmt := top 9
abbrev s__law_draw : Stmt := top 10
abbrev s__law_one : Stmt := top 11
abbrev s__law_reserved : Stmt := top 12
abbrev s__law_letters : Stmt := top 13
abbrev s__law_some : Stmt := top 14
abbrev s__law_is_word : Stmt := top 15
abbrev s__law_is_key : Stmt := top 16
abbrev s_law : Stmt := top 17
theorem sc_fits_word : FnScope ["token", "sign"] ["token"] (defScope s_fits_word) := ⟨rfl, rfl, rfl, by decide +kernel, rfl, by decide +kernel, by decide +kernel⟩
theorem sc_is_word : FnScope ["value"] ["value"] (defScope s_is_word) := ⟨rfl, rfl, rfl, by decide +kernel, rfl, by decide +kernel, by decide +kernel⟩
theorem sc_is_key : FnScope ["value", "kind", "blank", "word"] ["value"] (defScope s_is_key) := ⟨rfl, rfl, rfl, by decide +kernel, rfl, by decide +kernel, by decide +kernel⟩
theorem sc__law_bag : FnScope ["_law_script", "_law_at", "_law_cell", "_law_seed", "_law_turn", "_law_each"] ["_law_script", "_law_at"] (defScope s__law_bag) := ⟨rfl, rfl, rfl, by decide +kernel, rfl, by decide +kernel, by decide +kernel⟩
theorem sc__law_draw : FnScope ["_law_bag_here", "_law_many", "_law_digit"] ["_law_bag_here", "_law_many"] (defScope s__law_draw) := ⟨rfl, rfl, rfl, by decide +kernel, rfl, by decide +kernel, by decide +kernel⟩
theorem sc__law_one : FnScope ["_law_bag_here", "_law_some_here"] ["_law_bag_here", "_law_some_here"] (defScope s__law_one) := ⟨rfl, rfl, rfl, by decide +kernel, rfl, by decide +kernel, by decide +kernel⟩
theorem sc__law_reserved : FnScope ["_law_some_here", "_law_more"] [] (defScope s__law_reserved) := ⟨rfl, rfl, rfl, by decide +kernel, rfl, by decide +kernel, by decide +kernel⟩
theorem sc__law_letters : FnScope ["_law_bag_here", "_law_found", "_law_turn"] ["_law_bag_here"] (defScope s__law_letters) := ⟨rfl, rfl, rfl, by decide +kernel, rfl, by decide +kernel, by decide +kernel⟩
theorem sc__law_some : FnScope ["_law_bag_here", "_law_kind", "_law_text", "_law_at"] ["_law_bag_here"] (defScope s__law_some) := ⟨rfl, rfl, rfl, by decide +kernel, rfl, by decide +kernel, by decide +kernel⟩
theorem sc__law_is_word : FnScope ["_law_text", "_law_odd", "_law_sign"] ["_law_text"] (defScope s__law_is_word) := ⟨rfl, rfl, rfl, by decide +kernel, rfl, by decide +kernel, by decide +kernel⟩
theorem sc__law_is_key : FnScope ["_law_text", "_law_heads", "_law_head"] ["_law_text"] (defScope s__law_is_key) := ⟨rfl, rfl, rfl, by decide +kernel, rfl, by decide +kernel, by decide +kernel⟩
theorem sc_law : FnScope ["_law_script", "_law_odd", "_law_value", "_law_at", "_law_bag_here", "_law_turn", "_law_text", "_law_heads", "_law_key", "_law_each", "_law_found"] ["_law_script"] (defScope s_law) := ⟨rfl, rfl, rfl, by decide +kernel, rfl, by decide +kernel, by decide +kernel⟩
structure Tx (K : PySem.W.Frag) (mg : Str → Option Value) : Prop where
  n_len : mg "len" = none
  n_all : mg "all" = none
  n_str : mg "str" = none
  n_isinstance : mg "isinstance" = none
  n_enumerate : mg "enumerate" = none
  n_int : mg "int" = none
  n_abs : mg "abs" = none
  n_range : mg "range" = none
  n_min : mg "min" = none
  n_max : mg "max" = none
  n_bool : mg "bool" = none
  c_SMALL : ∃ u, mg "SMALL" = some u ∧ RelV (.str "abcdefghijklmnopqrstuvwxyz") u
  c_MOST_LETTERS : ∃ u, mg "MOST_LETTERS" = some u ∧ RelV (.int 8) u
  c_RESERVED : ∃ u, mg "RESERVED" = some u ∧ RelV (.ref (He.ga K "RESERVED")) u
  q_RESERVED : ∀ H, SqT K H (He.ga K "RESERVED") (reserved.map V.str)
section
variable {P : Program} {w : World} {K : PySem.W.Frag} {mg : Str → Option Value} {base : Heap}
theorem ok_fits_word (T : Tx K mg) (F : FnP K "fits_word" s_fits_word) (g : mg "fits_word" = some (.ref (He.ga K "fits_word"))) : Cal P w K mg base CX0 1 "fits_word" ["token"] sp_fits_word := by
  refine cal_mk F g sc_fits_word (fun vs H Q E h => len_spText1 h) (fun _ _ _ _ _ _ us hl => match us, hl with | [_], _ => rfl) (fun cdv A outer s H vs Q E hr h => ⟨t_fits_word K, ?_, pure_fits_word T.q_RESERVED vs H Q E h⟩)
  exact pss_cons (ps_if ((pw_or (pt_not (pt_chain op_le op_le pe_int (pe_callB call_len_str (by rfl) T.n_len (by decide +kernel) (pa_cons (pv 0) pa_nil)) (pe_gc (by rfl) T.c_MOST_LETTERS))) (pw_or1 (pt_cmpR op_in_seq (pv 0) (pe_gc (by rfl) T.c_RESERVED) (by rfl)))).pt) (pss_one (ps_ret pe_bl)) pss_nil)
      (pss_one (ps_ret (pe_callB (cr_all rfl) (by rfl) T.n_all (by decide +kernel) (pa_cons (pe_lc (own := [("sign", 1)]) (g := gName 1) (tt := tYes) rfl sc_fits_word.nd (pi_str (pv 0)) (blkOk_by (own := [("sign", 1)]) (N := ["token", "sign"]) (sc := defScope s_fits_word) (by decide +kernel)) (fun _ _ _ _ _ => pg_name (i := 1) sc_fits_word.nd rfl (.inl rfl)) (fun _ _ _ _ _ => pts_nil) (fun _ _ _ _ _ => pe_cmpR op_in_sign (pv 1) (pe_gc (by rfl) T.c_SMALL) (by rfl))) pa_nil))))
theorem ok_is_word (T : Tx K mg) (F : FnP K "is_word" s_is_word) (g : mg "is_word" = some (.ref (He.ga K "is_word"))) (c_fits_word : Cal P w K mg base CX0 1 "fits_word" ["token"] sp_fits_word) : Cal P w K mg base CX0 2 "is_word" ["value"] (sp_is_word K) := by
  refine cal_mk F g sc_is_word (fun vs H Q E h => len_spAsk h) (fun _ _ _ _ _ _ us hl => match us, hl with | [_], _ => rfl) (fun cdv A outer s H vs Q E hr h => ⟨t_is_word K, ?_, pure_is_word  vs H Q E h⟩)
  exact pss_one (ps_ret (pe_and (pe_callB call_isi (by rfl) T.n_isinstance (by decide +kernel) (pa_cons (pv 0) (pa_cons (pe_bltn (v := .ty "str") (u := .type "str") (by rfl) T.n_str (by decide +kernel) (by exact rfl)) pa_nil))) (pe_one (pf_call c_fits_word hr (by decide) (by rfl) (pa_cons (pv 0) pa_nil)))))
theorem ok_is_key (T : Tx K mg) (F : FnP K "is_key" s_is_key) (g : mg "is_key" = some (.ref (He.ga K "is_key"))) (c_fits_word : Cal P w K mg base CX0 1 "fits_word" ["token"] sp_fits_word) : Cal P w K mg base CX0 2 "is_key" ["value"] (sp_is_key K) := by
  refine cal_mk F g sc_is_key (fun vs H Q E h => len_spAsk h) (fun _ _ _ _ _ _ us hl => match us, hl with | [_], _ => rfl) (fun cdv A outer s H vs Q E hr h => ⟨t_is_key K, ?_, pure_is_key  vs H Q E h⟩)
  exact pss_cons (ps_if (pt_not (pt_val (pe_callB call_isi (by rfl) T.n_isinstance (by decide +kernel) (pa_cons (pv 0) (pa_cons (pe_bltn (v := .ty "str") (u := .type "str") (by rfl) T.n_str (by decide +kernel) (by exact rfl)) pa_nil))))) (pss_one (ps_ret pe_bl)) pss_nil)
      (pss_cons (ps_asg (pe_partition (pv 0) pe_str) (pg_tup rfl (pgs_cons (pg_name (i := 1) sc_is_key.nd rfl (.inl rfl)) (pgs_cons (pg_name (i := 2) sc_is_key.nd rfl (.inl rfl)) (pgs_cons (pg_name (i := 3) sc_is_key.nd rfl (.inl rfl)) pgs_nil)))))
      (pss_cons (ps_if (pt_cmpR op_eq (pv 2) pe_str (nomark _)) (pss_one (ps_ret (pe_cmpR op_eq (pv 1) pe_str (nomark _)))) pss_nil)
      (pss_one (ps_ret (pe_and (pe_cmpR op_in_seq (pv 1) (pe_tup (pa_cons pe_str (pa_cons pe_str (pa_cons pe_str pa_nil)))) (by rfl)) (pe_one (pf_call c_fits_word hr (by decide) (by rfl) (pa_cons (pv 3) pa_nil))))))))
theorem ok__law_bag (T : Tx K mg) (F : FnP K "_law_bag" s__law_bag) (g : mg "_law_bag" = some (.ref (He.ga K "_law_bag"))) : Cal P w K mg base CX0 1 "_law_bag" ["_law_script", "_law_at"] (sp_bag K) := by
  refine cal_mk F g sc__law_bag (fun vs H Q E h => len__law_bag h) (fun _ _ _ _ _ _ us hl => match us, hl with | [_, _], _ => rfl) (fun cdv A outer s H vs Q E hr h => ⟨t__law_bag K, ?_, pure__law_bag  vs H Q E h⟩)
  exact pss_cons (ps_set (i := 2) sc__law_bag.nd rfl (.inl rfl) (pe_ifExp (pt_cmpR op_lt (pv 1) (pe_callB call_len_seq (by rfl) T.n_len (by decide +kernel) (pa_cons (pv 0) pa_nil)) (nomark _)) (pe_ix ix_list (pv 0) (pv 1) (fun _ _ => rfl)) pe_int))
      (pss_cons (ps_set (i := 3) sc__law_bag.nd rfl (.inl rfl) (pe_op op_add (pe_op op_mul pe_int (pv 1)) pe_int))
      (pss_cons (ps_for PassesOwn.never rfl (pi_enum (by rfl) T.n_enumerate (pa_cons (pe_slice sl_list (pv 0) po_none (po_some pe_int)) pa_nil)) (pg_tup rfl (pgs_cons (pg_name (i := 4) sc__law_bag.nd rfl (.inl rfl)) (pgs_cons (pg_name (i := 5) sc__law_bag.nd rfl (.inl rfl)) pgs_nil)))
      (pss_one (ps_set (i := 3) sc__law_bag.nd rfl (.inl rfl) (pe_op op_mod (pe_callTy call_int1 (by rfl) T.n_int (by decide +kernel) (pa_cons (pe_op op_add (pe_op op_add (pe_op op_mul (pv 3) pe_int) (pe_op op_mod (pe_callTy call_int1 (by rfl) T.n_int (by decide +kernel) (pa_cons (pv 5) pa_nil)) pe_int)) (pe_op op_mul pe_int (pv 4))) pa_nil)) pe_int))))
      (pss_one (ps_ret (pe_lst (pa_cons (pe_ifExp (pt_cmpR op_ge (pe_callB call_abs (by rfl) T.n_abs (by decide +kernel) (pa_cons (pv 2) pa_nil)) (pe_op op_pow pe_int pe_int) (nomark _)) (pe_callB call_abs (by rfl) T.n_abs (by decide +kernel) (pa_cons (pv 2) pa_nil)) pe_int) (pa_cons (pv 3) pa_nil)))))))
theorem ok__law_draw (T : Tx K mg) (F : FnP K "_law_draw" s__law_draw) (g : mg "_law_draw" = some (.ref (He.ga K "_law_draw"))) : Cal P w K mg base CX0 1 "_law_draw" ["_law_bag_here", "_law_many"] sp_draw := by
  refine cal_mk F g sc__law_draw (fun vs H Q E h => len__law_draw h) (fun _ _ _ _ _ _ us hl => match us, hl with | [_, _], _ => rfl) (fun cdv A outer s H vs Q E hr h => ⟨t__law_draw K, ?_, pure__law_draw  vs H Q E h⟩)
  exact pss_cons (ps_if (pt_cmpR op_gt (pe_ix ix_list (pv 0) pe_int (fun _ _ => rfl)) pe_int (nomark _)) (pss_cons (ps_set (i := 2) sc__law_draw.nd rfl (.inl rfl) (pe_op op_mod (pe_callTy call_int1 (by rfl) T.n_int (by decide +kernel) (pa_cons (pe_ix ix_list (pv 0) pe_int (fun _ _ => rfl)) pa_nil)) (pv 1)))
      (pss_cons (ps_asg (pe_op op_fdivW (pe_ix ix_list (pv 0) pe_int (fun _ _ => rfl)) (pv 1)) (pg_sub (pv 0) pe_int set_list))
      (pss_one (ps_ret (pv 2))))) pss_nil)
      (pss_cons (ps_asg (pe_op op_mod (pe_callTy call_int1 (by rfl) T.n_int (by decide +kernel) (pa_cons (pe_op op_add (pe_op op_mul (pe_ix ix_list (pv 0) pe_int (fun _ _ => rfl)) pe_int) pe_int) pa_nil)) pe_int) (pg_sub (pv 0) pe_int set_list))
      (pss_one (ps_ret (pe_op op_mod (pe_op op_fdiv (pe_op op_mod (pe_callTy call_int1 (by rfl) T.n_int (by decide +kernel) (pa_cons (pe_op op_mul (pe_op op_fdiv (pe_ix ix_list (pv 0) pe_int (fun _ _ => rfl)) pe_int) pe_int) pa_nil)) pe_int) pe_int) (pv 1)))))
theorem ok__law_one (T : Tx K mg) (F : FnP K "_law_one" s__law_one) (g : mg "_law_one" = some (.ref (He.ga K "_law_one"))) (c__law_draw : Cal P w K mg base CX0 1 "_law_draw" ["_law_bag_here", "_law_many"] sp_draw) : Cal P w K mg base CX0 2 "_law_one" ["_law_bag_here", "_law_some_here"] (sp_one K) := by
  refine cal_mk F g sc__law_one (fun vs H Q E h => len__law_one h) (fun _ _ _ _ _ _ us hl => match us, hl with | [_, _], _ => rfl) (fun cdv A outer s H vs Q E hr h => ⟨t__law_one K, ?_, pure__law_one  vs H Q E h⟩)
  exact pss_one (ps_ret (pe_ix ix_list (pv 1) (pf_call c__law_draw hr (by decide) (by rfl) (pa_cons (pv 0) (pa_cons (pe_callB call_len_seq (by rfl) T.n_len (by decide +kernel) (pa_cons (pv 1) pa_nil)) pa_nil))) (fun _ _ => rfl)))
theorem ok__law_reserved (T : Tx K mg) (F : FnP K "_law_reserved" s__law_reserved) (g : mg "_law_reserved" = some (.ref (He.ga K "_law_reserved"))) : Cal P w K mg base CX0 1 "_law_reserved" [] sp_reserved := by
  refine cal_mk F g sc__law_reserved (fun vs H Q E h => len__law_reserved h) (fun _ _ _ _ _ _ us hl => match us, hl with | [], _ => rfl) (fun cdv A outer s H vs Q E hr h => ⟨t__law_reserved K, ?_, pure__law_reserved  vs H Q E h⟩)
  exact pss_cons (ps_set (i := 0) sc__law_reserved.nd rfl (.inl rfl) pe_str)
      (pss_cons (ps_set (i := 1) sc__law_reserved.nd rfl (.inl rfl) pe_str)
      (pss_one (ps_ret (pe_split (pe_op op_add_str (pv 0) (pv 1)) pe_str))))
theorem ok__law_letters (T : Tx K mg) (F : FnP K "_law_letters" s__law_letters) (g : mg "_law_letters" = some (.ref (He.ga K "_law_letters"))) (c__law_draw : Cal P w K mg base CX0 1 "_law_draw" ["_law_bag_here", "_law_many"] sp_draw) : Cal P w K mg base CX0 2 "_law_letters" ["_law_bag_here"] sp_letters := by
  refine cal_mk F g sc__law_letters (fun vs H Q E h => len_spDrawn h) (fun _ _ _ _ _ _ us hl => match us, hl with | [_], _ => rfl) (fun cdv A outer s H vs Q E hr h => ⟨t__law_letters K, ?_, pure__law_letters  vs H Q E h⟩)
  exact pss_cons (ps_set (i := 1) sc__law_letters.nd rfl (.inl rfl) pe_str)
      (pss_cons (ps_for PassesOwn.never rfl (pi_range1 (by rfl) T.n_range (pa_cons (pe_op op_add pe_int (pf_call c__law_draw hr (by decide) (by rfl) (pa_cons (pv 0) (pa_cons pe_int pa_nil)))) pa_nil)) (pg_name (i := 2) sc__law_letters.nd rfl (.inl rfl))
      (pss_one (ps_set (i := 1) sc__law_letters.nd rfl (.inl rfl) (pe_op op_add_str (pv 1) (pe_ix ix_str pe_str (pf_call c__law_draw hr (by decide) (by rfl) (pa_cons (pv 0) (pa_cons pe_int pa_nil))) (fun _ _ => rfl))))))
      (pss_one (ps_ret (pv 1))))
theorem ok__law_some (T : Tx K mg) (F : FnP K "_law_some" s__law_some) (g : mg "_law_some" = some (.ref (He.ga K "_law_some"))) (c__law_draw : Cal P w K mg base CX0 1 "_law_draw" ["_law_bag_here", "_law_many"] sp_draw) (c__law_one : Cal P w K mg base CX0 2 "_law_one" ["_law_bag_here", "_law_some_here"] (sp_one K)) (c__law_reserved : Cal P w K mg base CX0 1 "_law_reserved" [] sp_reserved) (c__law_letters : Cal P w K mg base CX0 2 "_law_letters" ["_law_bag_here"] sp_letters) : Cal P w K mg base CX0 3 "_law_some" ["_law_bag_here"] sp_some := by
  refine cal_mk F g sc__law_some (fun vs H Q E h => len_spDrawn h) (fun _ _ _ _ _ _ us hl => match us, hl with | [_], _ => rfl) (fun cdv A outer s H vs Q E hr h => ⟨t__law_some K, ?_, pure__law_some  vs H Q E h⟩)
  exact pss_cons (ps_set (i := 1) sc__law_some.nd rfl (.inl rfl) (pf_call c__law_draw hr (by decide) (by rfl) (pa_cons (pv 0) (pa_cons pe_int pa_nil))))
      (pss_cons (ps_if (pt_cmpR op_eq (pv 1) pe_int (nomark _)) (pss_one (ps_ret (pf_call c__law_one hr (by decide) (by rfl) (pa_cons (pv 0) (pa_cons (pf_call0 c__law_reserved hr (by decide) (by rfl)) pa_nil))))) pss_nil)
      (pss_cons (ps_set (i := 2) sc__law_some.nd rfl (.inl rfl) (pf_call c__law_letters hr (by decide) (by rfl) (pa_cons (pv 0) pa_nil)))
      (pss_cons (ps_if (pt_cmpR op_eq (pv 1) pe_int (nomark _)) (pss_cons (ps_set (i := 3) sc__law_some.nd rfl (.inl rfl) (pf_call c__law_draw hr (by decide) (by rfl) (pa_cons (pv 0) (pa_cons (pe_op op_add (pe_callB call_len_str (by rfl) T.n_len (by decide +kernel) (pa_cons (pv 2) pa_nil)) pe_int) pa_nil))))
      (pss_one (ps_ret (pe_op op_add_str (pe_op op_add_str (pe_slice sl_str (pv 2) po_none (po_some (pv 3))) (pf_call c__law_one hr (by decide) (by rfl) (pa_cons (pv 0) (pa_cons (pe_lst (pa_cons pe_str (pa_cons pe_str (pa_cons pe_str (pa_cons pe_str (pa_cons pe_str (pa_cons pe_str (pa_cons pe_str (pa_cons pe_str (pa_cons pe_str pa_nil)))))))))) pa_nil)))) (pe_slice sl_str (pv 2) (po_some (pv 3)) po_none))))) pss_nil)
      (pss_cons (ps_if (pt_cmpR op_eq (pv 1) pe_int (nomark _)) (pss_one (ps_ret (pe_op op_add_str (pf_call c__law_one hr (by decide) (by rfl) (pa_cons (pv 0) (pa_cons (pf_call0 c__law_reserved hr (by decide) (by rfl)) pa_nil))) (pe_slice sl_str (pv 2) po_none (po_some pe_int))))) pss_nil)
      (pss_one (ps_ret (pe_ifExp (pt_cmpR op_lt (pv 1) pe_int (nomark _)) (pv 2) (pe_slice sl_str (pv 2) po_none (po_some pe_int)))))))))
theorem ok__law_is_word (T : Tx K mg) (F : FnP K "_law_is_word" s__law_is_word) (g : mg "_law_is_word" = some (.ref (He.ga K "_law_is_word"))) (c__law_reserved : Cal P w K mg base CX0 1 "_law_reserved" [] sp_reserved) : Cal P w K mg base CX0 2 "_law_is_word" ["_law_text"] sp_law_is_word := by
  refine cal_mk F g sc__law_is_word (fun vs H Q E h => len_spText2 h) (fun _ _ _ _ _ _ us hl => match us, hl with | [_], _ => rfl) (fun cdv A outer s H vs Q E hr h => ⟨t__law_is_word K, ?_, pure__law_is_word  vs H Q E h⟩)
  exact pss_cons (ps_setLc (i := 1) (own := [("_law_sign", 2)]) (g := gName 2) (tt := tTest (tOp rNotInSign (tVar 2) (tC (.str "abcdefghijklmnopqrstuvwxyz")))) rfl sc__law_is_word.nd rfl rfl (sw_true rfl rfl rfl (by decide +kernel)) (pi_str (pv 0)) (blkOk_by (own := [("_law_sign", 2)]) (N := ["_law_text", "_law_odd", "_law_sign"]) (sc := defScope s__law_is_word) (by decide +kernel)) (fun _ _ _ _ _ => pg_name (i := 2) sc__law_is_word.nd rfl (.inl rfl)) (fun _ _ _ _ _ => pts_one (pt_cmpR op_notIn_sign (pv 2) pe_str (by rfl))) (fun _ _ _ _ _ => pv 2))
      (pss_one (ps_ret (pe_and (pe_chain op_le op_le pe_int (pe_callB call_len_str (by rfl) T.n_len (by decide +kernel) (pa_cons (pv 0) pa_nil)) pe_int) (pe_and (pe_cmpR (op_eqD hr.units) (pv 1) (pe_lst pa_nil) (nomark _)) (pe_one (pe_cmpR op_notIn_seq (pv 0) (pf_call0 c__law_reserved hr (by decide) (by rfl)) (by rfl)))))))
theorem ok__law_is_key (T : Tx K mg) (F : FnP K "_law_is_key" s__law_is_key) (g : mg "_law_is_key" = some (.ref (He.ga K "_law_is_key"))) (c__law_is_word : Cal P w K mg base CX0 2 "_law_is_word" ["_law_text"] sp_law_is_word) : Cal P w K mg base CX0 3 "_law_is_key" ["_law_text"] sp_law_is_key := by
  refine cal_mk F g sc__law_is_key (fun vs H Q E h => len_spText2 h) (fun _ _ _ _ _ _ us hl => match us, hl with | [_], _ => rfl) (fun cdv A outer s H vs Q E hr h => ⟨t__law_is_key K, ?_, pure__law_is_key  vs H Q E h⟩)
  exact pss_cons (ps_setLc (i := 1) (own := [("_law_head", 2)]) (g := gName 2) (tt := tB (tM1 rStarts (tVar 0) (tVar 2))) rfl sc__law_is_key.nd rfl rfl (sw_true rfl rfl rfl (by decide +kernel)) (pi_list (pe_lst (pa_cons pe_str (pa_cons pe_str (pa_cons pe_str pa_nil))))) (blkOk_by (own := [("_law_head", 2)]) (N := ["_law_text", "_law_heads", "_law_head"]) (sc := defScope s__law_is_key) (by decide +kernel)) (fun _ _ _ _ _ => pg_name (i := 2) sc__law_is_key.nd rfl (.inl rfl)) (fun _ _ _ _ _ => pts_one (pt_val (pe_m1 PySem.F.slot_str_startswith PySem.F.type_str_startswith mt_startswith (pv 0) (pv 2)))) (fun _ _ _ _ _ => pv 2))
      (pss_one (ps_ret (pe_or (pe_cmpR op_eq (pv 0) pe_str (nomark _)) (pe_one (pe_and (pe_cmpR (op_neD hr.units) (pv 1) (pe_lst pa_nil) (nomark _)) (pe_one (pf_call c__law_is_word hr (by decide) (by rfl) (pa_cons (pe_slice sl_str (pv 0) (po_some pe_int) po_none) pa_nil))))))))
theorem ok_law (T : Tx K mg) {fd : FuncData} (F : FunD K "law" "law" (defArgs s_law) (defBody s_law) (defScope s_law) [] [] (He.ga K "law") fd) (c_is_word : Cal P w K mg base CX0 2 "is_word" ["value"] (sp_is_word K)) (c_is_key : Cal P w K mg base CX0 2 "is_key" ["value"] (sp_is_key K)) (c__law_bag : Cal P w K mg base CX0 1 "_law_bag" ["_law_script", "_law_at"] (sp_bag K)) (c__law_one : Cal P w K mg base CX0 2 "_law_one" ["_law_bag_here", "_law_some_here"] (sp_one K)) (c__law_some : Cal P w K mg base CX0 3 "_law_some" ["_law_bag_here"] sp_some) (c__law_is_word : Cal P w K mg base CX0 2 "_law_is_word" ["_law_text"] sp_law_is_word) (c__law_is_key : Cal P w K mg base CX0 3 "_law_is_key" ["_law_text"] sp_law_is_key) : FnOk P w K mg base CX0 4 (He.ga K "law") fd ["_law_script"] (sp_law K) := by
  refine fn_mk F sc_law (fun vs H Q E h => len_law h) (fun cdv A outer s H vs Q E hr h => ⟨t_law K, ?_, pure_law  vs H Q E h⟩)
  exact pss_cons (ps_set (i := 1) sc_law.nd rfl (.inl rfl) (pe_lst (pa_cons pe_non (pa_cons pe_bl (pa_cons pe_bl (pa_cons pe_int (pa_cons pe_int (pa_cons (pe_un un_neg pe_int) (pa_cons pe_str (pa_cons (pe_tup pa_nil) (pa_cons (pe_tup (pa_cons pe_str pa_nil)) (pa_cons (pe_lst (pa_cons pe_str pa_nil)) (pa_cons (pe_lst (pa_cons pe_str (pa_cons pe_str pa_nil))) (pa_cons (pe_tup (pa_cons pe_str pa_nil)) (pa_cons (pe_lst (pa_cons (pe_lst pa_nil) pa_nil)) (pa_cons pe_str (pa_cons pe_str pa_nil)))))))))))))))))
      (pss_cons (ps_for PassesOwn.never rfl (pi_list (pv 1)) (pg_name (i := 2) sc_law.nd rfl (.inl rfl))
      (pss_one (ps_if ((pw_or (pt_cmpR op_isnot_bl (pf_call c_is_word hr (by decide) (by rfl) (pa_cons (pv 2) pa_nil)) pe_bl (nomark _)) (pw_or1 (pt_cmpR op_isnot_bl (pf_call c_is_key hr (by decide) (by rfl) (pa_cons (pv 2) pa_nil)) pe_bl (nomark _)))).pt) (pss_one (ps_ret pe_bl)) pss_nil)))
      (pss_cons (ps_for PassesOwn.never rfl (pi_range1 (by rfl) T.n_range (pa_cons (pe_callB (call_max2 rfl) (by rfl) T.n_max (by decide +kernel) (pa_cons pe_int (pa_cons (pe_callB (call_min2 rfl) (by rfl) T.n_min (by decide +kernel) (pa_cons pe_int (pa_cons (pe_callB call_len_seq (by rfl) T.n_len (by decide +kernel) (pa_cons (pv 0) pa_nil)) pa_nil))) pa_nil))) pa_nil)) (pg_name (i := 3) sc_law.nd rfl (.inl rfl))
      (pss_cons (ps_set (i := 4) sc_law.nd rfl (.inl rfl) (pf_call c__law_bag hr (by decide) (by rfl) (pa_cons (pv 0) (pa_cons (pv 3) pa_nil))))
      (pss_one (ps_for PassesOwn.never rfl (pi_range1 (by rfl) T.n_range (pa_cons pe_int pa_nil)) (pg_name (i := 5) sc_law.nd rfl (.inl rfl))
      (pss_cons (ps_set (i := 6) sc_law.nd rfl (.inl rfl) (pf_call c__law_some hr (by decide) (by rfl) (pa_cons (pv 4) pa_nil)))
      (pss_cons (ps_set (i := 7) sc_law.nd rfl (.inl rfl) (pe_lst (pa_cons pe_str (pa_cons pe_str (pa_cons pe_str (pa_cons pe_str (pa_cons pe_str (pa_cons pe_str (pa_cons pe_str (pa_cons pe_str (pa_cons pe_str (pa_cons pe_str pa_nil))))))))))))
      (pss_cons (ps_set (i := 8) sc_law.nd rfl (.inl rfl) (pe_op op_add_str (pf_call c__law_one hr (by decide) (by rfl) (pa_cons (pv 4) (pa_cons (pe_op op_cat (pv 7) (pe_lst (pa_cons pe_str (pa_cons pe_str pa_nil)))) pa_nil))) (pf_call c__law_some hr (by decide) (by rfl) (pa_cons (pv 4) pa_nil))))
      (pss_one (ps_for PassesOwn.never rfl (pi_list (pe_lst (pa_cons (pv 6) (pa_cons (pv 8) (pa_cons pe_str (pa_cons (pe_op op_add_str pe_str (pv 6)) (pa_cons (pe_op op_add_str pe_str (pv 6)) (pa_cons (pe_op op_add_str pe_str (pv 6)) (pa_cons (pe_op op_add_str (pv 6) pe_str) pa_nil))))))))) (pg_name (i := 9) sc_law.nd rfl (.inl rfl))
      (pss_cons (ps_set (i := 10) sc_law.nd rfl (.inl rfl) (pe_tup (pa_cons (pf_call c_is_word hr (by decide) (by rfl) (pa_cons (pv 9) pa_nil)) (pa_cons (pf_call c_is_key hr (by decide) (by rfl) (pa_cons (pv 9) pa_nil)) pa_nil))))
      (pss_cons (ps_if (pt_cmpR (op_neD hr.units) (pv 10) (pe_tup (pa_cons (pf_call c__law_is_word hr (by decide) (by rfl) (pa_cons (pv 9) pa_nil)) (pa_cons (pf_call c__law_is_key hr (by decide) (by rfl) (pa_cons (pv 9) pa_nil)) pa_nil))) (nomark _)) (pss_one (ps_ret pe_bl)) pss_nil)
      (pss_one (ps_if ((pw_or (pt_not (pt_val (pe_callB call_isi (by rfl) T.n_isinstance (by decide +kernel) (pa_cons (pe_ix ix_tup (pv 10) pe_int (fun _ _ => rfl)) (pa_cons (pe_bltn (v := .ty "bool") (u := .type "bool") (by rfl) T.n_bool (by decide +kernel) (by exact rfl)) pa_nil))))) (pw_or1 (pt_not (pt_val (pe_callB call_isi (by rfl) T.n_isinstance (by decide +kernel) (pa_cons (pe_ix ix_tup (pv 10) pe_int (fun _ _ => rfl)) (pa_cons (pe_bltn (v := .ty "bool") (u := .type "bool") (by rfl) T.n_bool (by decide +kernel) (by exact rfl)) pa_nil))))))).pt) (pss_one (ps_ret pe_bl)) pss_nil)))))))))))))
      (pss_one (ps_ret pe_bl))))
end
abbrev dd_fits_word : He.DefD := ⟨("fits_word", none), "fits_word", "fits_word", defArgs s_fits_word, defBody s_fits_word, defScope s_fits_word, [], []⟩
abbrev dd_is_word : He.DefD := ⟨("is_word", none), "is_word", "is_word", defArgs s_is_word, defBody s_is_word, defScope s_is_word, [], []⟩
abbrev dd_is_key : He.DefD := ⟨("is_key", none), "is_key", "is_key", defArgs s_is_key, defBody s_is_key, defScope s_is_key, [], []⟩
abbrev dd__law_bag : He.DefD := ⟨("_law_bag", none), "_law_bag", "_law_bag", defArgs s__law_bag, defBody s__law_bag, defScope s__law_bag, [], []⟩
abbrev dd__law_draw : He.DefD := ⟨("_law_draw", none), "_law_draw", "_law_draw", defArgs s__law_draw, defBody s__law_draw, defScope s__law_draw, [], []⟩
abbrev dd__law_one : He.DefD := ⟨("_law_one", none), "_law_one", "_law_one", defArgs s__law_one, defBody s__law_one, defScope s__law_one, [], []⟩
abbrev dd__law_reserved : He.DefD := ⟨("_law_reserved", none), "_law_reserved", "_law_reserved", defArgs s__law_reserved, defBody s__law_reserved, defScope s__law_reserved, [], []⟩
abbrev dd__law_letters : He.DefD := ⟨("_law_letters", none), "_law_letters", "_law_letters", defArgs s__law_letters, defBody s__law_letters, defScope s__law_letters, [], []⟩
abbrev dd__law_some : He.DefD := ⟨("_law_some", none), "_law_some", "_law_some", defArgs s__law_some, defBody s__law_some, defScope s__law_some, [], []⟩
abbrev dd__law_is_word : He.DefD := ⟨("_law_is_word", none), "_law_is_word", "_law_is_word", defArgs s__law_is_word, defBody s__law_is_word, defScope s__law_is_word, [], []⟩
abbrev dd__law_is_key : He.DefD := ⟨("_law_is_key", none), "_law_is_key", "_law_is_key", defArgs s__law_is_key, defBody s__law_is_key, defScope s__law_is_key, [], []⟩
abbrev dd_law : He.DefD := ⟨("law", none), "law", "law", defArgs s_law, defBody s_law, defScope s_law, [], []⟩
def fn : List He.DefD := [dd_fits_word, dd_is_word, dd_is_key, dd__law_bag, dd__law_draw, dd__law_one, dd__law_reserved, dd__law_letters, dd__law_some, dd__law_is_word, dd__law_is_key, dd_law]
def fa : List He.Fa := [.glo "fits_word", .glo "is_word", .glo "is_key", .glo "_law_bag", .glo "_law_draw", .glo "_law_one", .glo "_law_reserved", .glo "_law_letters", .glo "_law_some", .glo "_law_is_word", .glo "_law_is_key", .glo "law", .free "len", .free "all", .free "str", .free "isinstance", .free "enumerate", .free "int", .free "abs", .free "range", .free "min", .free "max", .free "bool", .str "SMALL" "abcdefghijklmnopqrstuvwxyz", .int "MOST_LETTERS" 8, .glo "RESERVED"]
def bs : List (PySem.W.Frag → Bool) := [fun K => He.tupB K "RESERVED" (reserved.map He.Dv.str)]
abbrev Rw : PySem.W.OpenRow := PySem.W.OpenLaw.row PySem.Challenge.rw_earlyfields_k01_words_and_keys
abbrev hk : PySem.W.Hook := hookB 4 fa fn bs
def ob (s : PySem.W.SharedT) : AlB := obsBG 4 fa fn bs (HandSHeadRun.getT s)
theorem ob_eq (s : PySem.W.SharedT) : ob s = hk.obs s.abs := obsBG_eq (HandSHeadRun.getT_eq s)
def loose : List PySem.Str := ["SMALL", "MOST_LETTERS", "RESERVED", "fits_word", "is_word", "is_key", "_law_bag", "_law_draw", "_law_one", "_law_reserved", "_law_letters", "_law_some", "_law_is_word", "_law_is_key"]
theorem run (w : World) : HandSHeadRun.RunEq Rw (PySem.W.view Rw.prog [17]) hk ob 3000 loose w := by
  intro os
  kernel_rfl
theorem tx {K : PySem.W.Frag} {h : Heap} {mg : Str → Option Value} (X : K.In h) (G : h.Ns mainGlobals mg) (c : SaysB fa fn bs K) : Tx K mg where
  n_len := He.free_ok X G (c.d.fact 12 (f := .free "len") rfl)
  n_all := He.free_ok X G (c.d.fact 13 (f := .free "all") rfl)
  n_str := He.free_ok X G (c.d.fact 14 (f := .free "str") rfl)
  n_isinstance := He.free_ok X G (c.d.fact 15 (f := .free "isinstance") rfl)
  n_enumerate := He.free_ok X G (c.d.fact 16 (f := .free "enumerate") rfl)
  n_int := He.free_ok X G (c.d.fact 17 (f := .free "int") rfl)
  n_abs := He.free_ok X G (c.d.fact 18 (f := .free "abs") rfl)
  n_range := He.free_ok X G (c.d.fact 19 (f := .free "range") rfl)
  n_min := He.free_ok X G (c.d.fact 20 (f := .free "min") rfl)
  n_max := He.free_ok X G (c.d.fact 21 (f := .free "max") rfl)
  n_bool := He.free_ok X G (c.d.fact 22 (f := .free "bool") rfl)
  c_SMALL := (He.str_ok X G (c.d.fact 23 (f := .str "SMALL" "abcdefghijklmnopqrstuvwxyz") rfl)).elim fun t e => ⟨_, e, t, rfl⟩
  c_MOST_LETTERS := (He.int_ok X G (c.d.fact 24 (f := .int "MOST_LETTERS" 8) rfl)).elim fun t e => ⟨_, e, t, rfl⟩
  c_RESERVED := ⟨_, He.glo_ok X G (c.d.fact 25 (f := .glo "RESERVED") rfl), rfl⟩
  q_RESERVED := fun H => He.tupB_ok (c.b 0 (b := fun K => He.tupB K "RESERVED" (reserved.map He.Dv.str)) rfl) H
theorem facts {P : Program} {w : World} {K : PySem.W.Frag} {h : Heap} {mg : Str → Option Value} (X : K.In h) (G : h.Ns mainGlobals mg) (c : SaysB fa fn bs K) : ∃ fd : FuncData, (∀ (s : Shared) (u : Value), BindsTo s fd ⟨[u], []⟩ [("_law_script", u)]) ∧ ∀ base : Heap, FnOk P w K mg base CX0 4 (He.ga K "law") fd ["_law_script"] (sp_law K) := by
  have T := tx X G c
  obtain ⟨fd, F⟩ := c.d.def_ 11 (d := dd_law) rfl
  have b := FunD.bindsA (ps := ["_law_script"]) F fun _ _ _ _ _ _ us hl => match us, hl with | [_], _ => rfl
  refine ⟨fd, fun s u => b s [u] rfl, fun base => ?_⟩
  have c_fits_word := ok_fits_word (P := P) (w := w) (base := base) T (c.d.def_ 0 (d := dd_fits_word) rfl) (He.glo_ok X G (c.d.fact 0 (f := .glo "fits_word") rfl))
  have c_is_word := ok_is_word (P := P) (w := w) (base := base) T (c.d.def_ 1 (d := dd_is_word) rfl) (He.glo_ok X G (c.d.fact 1 (f := .glo "is_word") rfl)) c_fits_word
  have c_is_key := ok_is_key (P := P) (w := w) (base := base) T (c.d.def_ 2 (d := dd_is_key) rfl) (He.glo_ok X G (c.d.fact 2 (f := .glo "is_key") rfl)) c_fits_word
  have c__law_bag := ok__law_bag (P := P) (w := w) (base := base) T (c.d.def_ 3 (d := dd__law_bag) rfl) (He.glo_ok X G (c.d.fact 3 (f := .glo "_law_bag") rfl))
  have c__law_draw := ok__law_draw (P := P) (w := w) (base := base) T (c.d.def_ 4 (d := dd__law_draw) rfl) (He.glo_ok X G (c.d.fact 4 (f := .glo "_law_draw") rfl))
  have c__law_one := ok__law_one (P := P) (w := w) (base := base) T (c.d.def_ 5 (d := dd__law_one) rfl) (He.glo_ok X G (c.d.fact 5 (f := .glo "_law_one") rfl)) c__law_draw
  have c__law_reserved := ok__law_reserved (P := P) (w := w) (base := base) T (c.d.def_ 6 (d := dd__law_reserved) rfl) (He.glo_ok X G (c.d.fact 6 (f := .glo "_law_reserved") rfl))
  have c__law_letters := ok__law_letters (P := P) (w := w) (base := base) T (c.d.def_ 7 (d := dd__law_letters) rfl) (He.glo_ok X G (c.d.fact 7 (f := .glo "_law_letters") rfl)) c__law_draw
  have c__law_some := ok__law_some (P := P) (w := w) (base := base) T (c.d.def_ 8 (d := dd__law_some) rfl) (He.glo_ok X G (c.d.fact 8 (f := .glo "_law_some") rfl)) c__law_draw c__law_one c__law_reserved c__law_letters
  have c__law_is_word := ok__law_is_word (P := P) (w := w) (base := base) T (c.d.def_ 9 (d := dd__law_is_word) rfl) (He.glo_ok X G (c.d.fact 9 (f := .glo "_law_is_word") rfl)) c__law_reserved
  have c__law_is_key := ok__law_is_key (P := P) (w := w) (base := base) T (c.d.def_ 10 (d := dd__law_is_key) rfl) (He.glo_ok X G (c.d.fact 10 (f := .glo "_law_is_key") rfl)) c__law_is_word
  exact ok_law (P := P) (w := w) (base := base) T F c_is_word c_is_key c__law_bag c__law_one c__law_some c__law_is_word c__law_is_key
end Ef
open PySem PySem.W PySem.Calls PyProof.Rows
set_option maxHeartbeats 0 in
theorem PySem.Challenge.cw_earlyfields_k01_words_and_keys_holds : PySem.Challenge.rw_earlyfields_k01_words_and_keys.Holds := by
  w_on; o_law
  refine HandSHeadRun.head_any (r := OpenLaw.row PySem.Challenge.rw_earlyfields_k01_words_and_keys) (q := view (OpenLaw.row PySem.Challenge.rw_earlyfields_k01_words_and_keys).prog [17]) (H := Ef.hk) (ob := Ef.ob) (M := 3000) (loose := Ef.loose) (d := HandSHeadRun.topDef (OpenLaw.row PySem.Challenge.rw_earlyfields_k01_words_and_keys).prog 17) (kwd := []) Ef.ob_eq
    (by kernel_rfl) (fun s => by kernel_rfl) Ef.run (by kernel_rfl) (by kernel_rfl) (by kernel_rfl) (by rfl) (by first | assumption | decide +kernel) (by decide +kernel) ⟨rfl, rfl, rfl, rfl, rfl, by decide +kernel⟩ ?hw ?hc
  case hw => w_witness2
  case hc =>
    refine Ef.walk_ends (l := PySem.Challenge.rw_earlyfields_k01_words_and_keys) (n := 63) (k := 4) (x := "_law_script") (CX := fun _ => L2.CX0) rfl (by decide) (by kernel_rfl) ⟨rfl, by decide, by decide⟩ ?F (fun _ _ _ _ _ z => z)
    intro w mg fa h Y G hmg0
    obtain ⟨K, KX, c⟩ := Y
    have e : (HandSHeadRun.topDef (OpenLaw.row PySem.Challenge.rw_earlyfields_k01_words_and_keys).prog 17).name = ("law" : PySem.Str) := by kernel_rfl
    have hmg : mg ("law" : PySem.Str) = some (.ref fa) := by
      rw [← e]
      exact hmg0
    have ea : fa = He.ga K "law" := by
      have z := hmg.symm.trans (He.glo_ok KX G (c.d.fact 11 (f := .glo "law") rfl))
      cases z
      rfl
    subst ea
    obtain ⟨fd, hb, hF⟩ := Ef.facts (P := (PySem.Challenge.rw_earlyfields_k01_words_and_keys).prog) (w := w) KX G c
    exact ⟨K, fd, Ef.sp_law K, KX, hb, fun H a ns hl hbits hO hS => ⟨a, ns, rfl, hS, hl, fun _ => rfl⟩, fun base _ _ => hF base⟩

